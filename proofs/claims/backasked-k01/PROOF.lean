import PyProof.Rows.All
import Wide.All
import OpenK.AllK
import Wide.FinOn
import PyProof.ReprReads
import HandS.ForMost
import HandS.TupSets
import HandS.Zip
import HandS.Exc
import HandS.ExcInit
import HandS.TryOnly
import HandS.TryMany
import HandS.ExcField
import HandS.Defaults
import HandS.Style
import HandS.TupAny
import HandS.Flow
import HandS.Lambda
import KE.KeyNested
import KE.KDictWalk
import KE.SortData
import KE.DataCmp
import HandS.TupMul
import HandS.Deep
import HandS.Rev
import HandS.ExcOwn
import PyProof.AutoSeq1
import HandS.Iter
import KE.GoesEnum
import KE.GoesMore
import PyProof.EnumFor
import PyProof.EnumMake
import KE.DatumOrd
import HandS.SortKw
import HandS.IsInst
import KE.KExcInit
import KE.GoesZip
import PyProof.ZipIter
import PyProof.CollectWalk
import PyProof.ListNew
import KE.KDictZip
import KE.GoesEnumKw
import PyProof.WalksMore
import HandS.SetFor
import KE.KDictKeyed
import KE.KDictList
import KE.KStateDown
import HandS.Head0
import HandS.Head1
import HandS.Head2
import HandS.HeadHook1
import HandS.HeadHook2
import HandS.HeadHook3
import HandS.HeadHook4
import HandS.EndTab
import HandS.HeadWalk
import PyProof.ExcBaseAll.OverflowError
import PyProof.ExcBaseAll.RuntimeError
import PyProof.ExcBaseAll.ValueError
import HandS.CallRecv
import PyProof.ReprRoads
import HandS.More
import HandS.Conv
import OpenK.KMake
import KE.KExcIs
import HandS.Words
import PyProof.ReprLen
import PySem.Challenge.RW_backasked_k01_stores_required
set_option Elab.async false
set_option linter.all false
set_option maxRecDepth 100000
set_option autoImplicit false

/-! The machine: an evaluator on plain data. -/
namespace Ma

/-- data: a value that nobody changes any more -/
inductive D where
  | non | bl (b : Bool) | int (i : Int) | str (s : List Nat)
  | tup (xs : List D) | lst (xs : List D) | dct (kvs : List (Int × D)) | kst (ks : List D)
  | ref (n : Nat) | clo (f : Nat) (env : List D)
  deriving Inhabited

/-- what a slot or an expression holds: data; a list, a dict that the slot alone knows (a list: its length, its items from the last on); what is walked -/
inductive T where
  | un | fz (d : D) | oL (n : Nat) (rs : List D) | oD (kvs : List (Int × D)) | oK (ks : List D) | it (xs : List D)
  deriving Inhabited

/-- an object that several know -/
inductive Ob where
  | lst (xs : List D) | ins (c : Nat) (fs : List T) | tab (k : Nat)
  deriving Inhabited

inductive Bop where | add | sub | mul | mod | fdiv | pow
inductive Cop where | eq | ne | lt | le | gt | ge | in_ | nin | is_ | isn
inductive B1 where | len | tuple | list | sorted | sset | lset | any | all | sum | min0 | int | dpairs | dcopy | dset | dkeys | tkeys | repr | str | dvals | upper
inductive B2 where | min2 | max2 | join | split | index
inductive Ty where | int | bool | str | tuple

inductive E where
  | lit (d : D) | var (i : Nat) | vr (i : Nat)
  | nil | cons (a b : E) | tup (es : E) | lst (es : E)
  | bin (o : Bop) (a b : E) | neg (a : E) | nt (a : E) | and_ (a b : E) | or_ (a b : E) | ife (c a b : E)
  | cmp (o : Cop) (a b : E) | chn (o p : Cop) (a b c : E)
  | idx (a i : E) | slc (a lo hi : E) | rev (a : E)
  | call (f : Nat) (es : E) | callB (f : Nat) (a : E) (i : Nat) (fst : Bool) | clo (f : Nat) (vs : List Nat) | cc (a es : E) | callT (rows : List (List Nat × Nat)) (a es : E) | sidx (rows : List (List Nat × D)) (a : E) | sin (rows : List (List Nat × D)) (a : E)
  | new (c f n : Nat) (es : E) | fget (o : E) (i : Nat)
  | b1 (o : B1) (a : E) | b2 (o : B2) (a b : E) | isin (t : Ty) (a : E)
  | comp (tg : List Nat) (it c e : E) | comp2 (tg : List Nat) (it c : E) (tg2 : List Nat) (it2 c2 e : E)
  | rng (a b : E) | enu (a : E) | zip (s : Bool) (a b : E)
  | dnew | dget (a k d : E) | exf (i : Nat) | rnew (es : E) | outc (c k : Nat) (w : List Nat) (e : E)
  | mke (c : Nat) (rv : Bool) (es : E) | ise (rows : List Bool) (a : E) | exg (rows : List (Nat × Nat)) (a : E) | kin (a b : E)
  deriving Inhabited

/-- a target: a name, or a tuple of targets -/
inductive Tg where
  | nm (i : Nat) | tp (ts : List Tg)

inductive S where
  | skip | seq (a b : S) | set (i : Nat) (e : E) | setf (i : Nat) (e : E) | asg (g : Tg) (e : E) | par (is : List (Nat × Bool)) (es : List E)
  | frz (i : Nat) | mov (i j : Nat) | retm (i : Nat) | ret (e : E)
  | app (i : Nat) (e : E) | ext (i : Nat) (e : E) | popi (i j : Nat) | dput (i : Nat) (k v : E) | rput (o k v : E) | dapp (i : Nat) (k v : E) | fput (o : E) (i : Nat) (own : Bool) (e : E) | fapp (o : E) (i : Nat) (e : E)
  | ifs (c : E) (a b : S) | for_ (g : Tg) (it : E) (b : S) | whl (c : E) (b : S)
  | aug (i : Nat) (e : E) | rais (c : Nat) (es : E) | try_ (b hs : S) | hnd (cs : List Nat) (i : Nat) (hb rest : S) | exp (e : E)
  deriving Inhabited

abbrev RH := List Ob
abbrev Sl := List T
inductive RE where | ok (t : T) (h : RH) | exc (c : Nat) (xs : List D) (h : RH) | bad (w : String)
  deriving Inhabited
inductive RS where | nx (s : Sl) (h : RH) | ret (t : T) (h : RH) | exc (c : Nat) (xs : List D) (s : Sl) (h : RH) | bad (w : String)
  deriving Inhabited

/-! ### data -/
mutual
def deq : D → D → Bool
  | .non, .non => true
  | .bl a, .bl b => a == b
  | .int a, .int b => a == b
  | .bl a, .int b => (if a then 1 else 0) == b
  | .int a, .bl b => a == (if b then 1 else 0)
  | .str a, .str b => a == b
  | .tup a, .tup b => deqs a b
  | .lst a, .lst b => deqs a b
  | _, _ => false
def deqs : List D → List D → Bool
  | [], [] => true
  | a :: r, b :: q => deq a b && deqs r q
  | _, _ => false
end
mutual
/-- no dict, no object, not too deep -/
def flatN : Nat → D → Bool
  | _, .non => true
  | _, .bl _ => true
  | _, .int _ => true
  | _, .str s => s.all fun c => Nat.blt c 1114112
  | n + 1, .tup a => flatsN n a
  | n + 1, .lst a => flatsN n a
  | _, _ => false
def flatsN : Nat → List D → Bool
  | _, [] => true
  | n, a :: r => flatN n a && flatsN n r
end
abbrev flat (d : D) : Bool := flatN 60 d
abbrev flats (ds : List D) : Bool := flatsN 60 ds
mutual
/-- what can be shown, no list: the empty dict too -/
def shwN : Nat → D → Bool
  | _, .non => true
  | _, .bl _ => true
  | _, .int _ => true
  | _, .str s => s.all fun c => Nat.blt c 1114112
  | _ + 1, .dct [] => true
  | n + 1, .tup a => shwsN n a
  | _, _ => false
def shwsN : Nat → List D → Bool
  | _, [] => true
  | n, a :: r => shwN n a && shwsN n r
end
mutual
/-- scalars and tuples of such alone -/
def pure_ : D → Bool
  | .non => true | .bl _ => true | .int _ => true | .str _ => true
  | .tup a => pures a
  | _ => false
def pures : List D → Bool
  | [] => true
  | a :: r => pure_ a && pures r
end
mutual
/-- the order; none where Python has none, or we need none -/
def dlt : D → D → Option Bool
  | .int a, .int b => some (decide (a < b))
  | .tup a, .tup b => dlts a b
  | .str a, .str b => some (decide (a < b))
  | _, _ => none
def dlts : List D → List D → Option Bool
  | [], [] => some false
  | [], _ :: _ => some true
  | _ :: _, [] => some false
  | a :: r, b :: q => if deq a b then dlts r q else dlt a b
end
/-- put into a row in order (behind those that are equal) -/
def ins1 (x : D) : List D → Option (List D)
  | [] => some [x]
  | y :: r => match dlt x y with
    | some true => some (x :: y :: r)
    | some false => (ins1 x r).map (y :: ·)
    | none => none
def okN (n : Nat) : Bool := Nat.ble n 16777216
mutual
/-- of one kind, place by place -/
def alk : D → D → Bool
  | .non, .non => true
  | .bl _, .bl _ => true
  | .int _, .int _ => true
  | .str _, .str _ => true
  | .tup a, .tup b => alks a b
  | .lst a, .lst b => alks a b
  | _, _ => false
def alks : List D → List D → Bool
  | a :: r, b :: q => alk a b && alks r q
  | _, _ => true
end
mutual
/-- less, for data of one kind -/
def dltB : D → D → Bool
  | .bl a, .bl b => !a && b
  | .int a, .int b => decide (a < b)
  | .str a, .str b => decide (a < b)
  | .tup a, .tup b => dltBs a b
  | .lst a, .lst b => dltBs a b
  | _, _ => false
def dltBs : List D → List D → Bool
  | [], [] => false
  | [], _ :: _ => true
  | _ :: _, [] => false
  | a :: r, b :: q => if deq a b then dltBs r q else dltB a b
end
/-- put ahead of the first that is not less -/
def insB (x : D) : List D → List D
  | [] => [x]
  | y :: r => if dltB y x then y :: insB x r else x :: y :: r
def sortB : List D → List D
  | [] => []
  | x :: r => insB x (sortB r)
def isRec : D → Bool
  | .tup (_ :: _) => true
  | _ => false
def isBare : D → Bool
  | .tup _ => false
  | .non => false
  | _ => true
mutual
/-- the longer one, place by place: a pattern for both -/
def mrg : D → D → D
  | .tup a, .tup b => .tup (mrgs a b)
  | .lst a, .lst b => .lst (mrgs a b)
  | _, b => b
def mrgs : List D → List D → List D
  | a :: r, b :: q => mrg a b :: mrgs r q
  | [], b => b
  | a, [] => a
end
mutual
/-- of the pattern's kind, place by place, and no longer -/
def fitB : D → D → Bool
  | .non, .non => true
  | .bl _, .bl _ => true
  | .int _, .int _ => true
  | .str _, .str _ => true
  | .tup a, .tup b => fits a b
  | .lst a, .lst b => fits a b
  | _, _ => false
def fits : List D → List D → Bool
  | _, [] => true
  | [], _ :: _ => false
  | a :: r, b :: q => fitB a b && fits r q
end
def fitAll (xs : List D) : Bool := xs.all (fitB (xs.foldl mrg .non))
mutual
theorem fit_alk : ∀ s a b : D, fitB s a = true → fitB s b = true → alk a b = true
  | .non, .non, .non, _, _ => rfl
  | .bl _, .bl _, .bl _, _, _ => rfl
  | .int _, .int _, .int _, _, _ => rfl
  | .str _, .str _, .str _, _, _ => rfl
  | .tup s, .tup a, .tup b, h, k => by rw [fitB] at h k; rw [alk]; exact fits_alks s a b h k
  | .lst s, .lst a, .lst b, h, k => by rw [fitB] at h k; rw [alk]; exact fits_alks s a b h k
theorem fits_alks : ∀ s a b : List D, fits s a = true → fits s b = true → alks a b = true
  | _, [], _, _, _ => by simp [alks]
  | _, _ :: _, [], _, _ => by simp [alks]
  | [], _ :: _, _ :: _, h, _ => by simp [fits] at h
  | s :: r, a :: p, b :: q, h, k => by
    rw [fits, Bool.and_eq_true] at h k
    rw [alks, Bool.and_eq_true]
    exact ⟨fit_alk s a b h.1 k.1, fits_alks r p q h.2 k.2⟩
end
theorem fitAll_alk {xs : List D} (h : fitAll xs = true) (a : D) (ha : a ∈ xs) (b : D) (hb : b ∈ xs) : alk a b = true :=
  fit_alk _ a b (List.all_eq_true.mp h a ha) (List.all_eq_true.mp h b hb)
/-- what sorted takes -/
def okSort (xs : List D) : Bool := okN xs.length && (xs.all flat && (fitAll xs && (xs.all isRec || xs.all isBare)))
def isort (xs : List D) : Option (List D) := if okSort xs then some (sortB xs) else none
/-- without doubles: into a strict row -/
def insU (x : D) : List D → Option (List D)
  | [] => some [x]
  | y :: r => match dlt y x with
    | some true => (insU x r).map (y :: ·)
    | some false => if deq y x then some (y :: r) else some (x :: y :: r)
    | none => none
def usort (xs : List D) : Option (List D) := xs.foldl (fun a x => a.bind (insU x)) (some [])
def mem (x : D) (xs : List D) : Bool := xs.any (fun y => deq y x)
def dedup : List D → List D → List D
  | acc, [] => acc.reverse
  | acc, x :: r => if mem x acc then dedup acc r else dedup (x :: acc) r

mutual
/-- ints and tuples of such, not too deep -/
def numD : Nat → D → Bool
  | _, .int _ => true
  | n + 1, .tup xs => numDs n xs
  | _, _ => false
def numDs : Nat → List D → Bool
  | _, [] => true
  | n, a :: r => numD n a && numDs n r
end
/-- what sorted(set(..)) takes -/
def okSet (xs : List D) : Bool := Nat.blt xs.length 64 && ((xs.all fun d => isRec d && numD 8 d) && okSort xs)
def line : Nat := 16777216
/-- the place that an index names in a row of n -/
def ixN (n : Nat) : Int → Option Nat
  | .ofNat k => if Nat.blt k n then some k else none
  | .negSucc k => if Nat.blt k n then some (n - (k + 1)) else none
def atI (xs : List D) (i : Int) : Option D := (ixN xs.length i).bind fun j => xs[j]?
/-- the place where a slice's bound cuts a row of n; d: the bound is left out -/
def sIx (n d : Nat) : Option Int → Nat
  | some (.ofNat k) => if Nat.blt n k then n else k
  | some (.negSucc k) => n - (k + 1)
  | none => d
def cut (xs : List D) (a b : Nat) : List D := (xs.drop a).take (b - a)
def lookK (k : Int) : List (Int × D) → Option D
  | [] => none
  | (a, d) :: r => if a == k then some d else lookK k r
def putK (k : Int) (v : D) (ks : List (Int × D)) : List (Int × D) :=
  if ks.any fun p => p.1 == k then ks.map fun p => if p.1 == k then (p.1, v) else p else ks ++ [(k, v)]

/-- the temporary as data -/
def T.d : T → D
  | .fz d => d
  | .oL _ rs => .lst rs.reverse
  | .oD kvs => .dct kvs
  | .oK ks => .kst ks
  | _ => .non
def mkL (xs : List D) : T := .oL xs.length xs.reverse
/-- the items of what can be walked -/
def items : T → Option (List D)
  | .fz (.tup xs) => some xs
  | .fz (.lst xs) => some xs
  | .oL _ rs => some rs.reverse
  | .it xs => some xs
  | _ => none

def inf (ys : List Nat) : List Nat → Bool
  | [] => ys.isEmpty
  | x :: r => ys.isPrefixOf (x :: r) || inf ys r

def big (i : Int) : Bool := Nat.blt i.natAbs 18446744073709551616
def bAdd : D → D → Option T
  | .int i, .int j => some (.fz (.int (i + j)))
  | .tup x, .tup y => if okN (x.length + y.length) then some (.fz (.tup (x ++ y))) else none
  | .lst x, .lst y => if okN (x.length + y.length) then some (mkL (x ++ y)) else none
  | .str x, .str y => if okN (x.length + y.length) then some (.fz (.str (x ++ y))) else none
  | _, _ => none
def bSub : D → D → Option T
  | .int i, .int j => some (.fz (.int (i - j)))
  | _, _ => none
def bMul : D → D → Option T
  | .int i, .int j => if big i || big j then some (.fz (.int (i * j))) else none
  | .tup x, .int k => if !x.isEmpty && okN x.length && Nat.ble x.length 1000 && decide (2 ≤ k) && decide (k ≤ 1000) then some (.fz (.tup (List.replicate k.toNat x).flatten)) else none
  | .lst x, .int k => if Nat.ble x.length 1000 && (decide (0 ≤ k) && decide (k ≤ 1000)) then some (mkL (List.replicate k.toNat x).flatten) else none
  | _, _ => none
def bMod : D → D → Option T
  | .int i, .int j => if decide (0 < j) then some (.fz (.int (i % j))) else none
  | _, _ => none
def bDiv : D → D → Option T
  | .int i, .int j => if decide (0 < j) && decide (j < 1073741824) then some (.fz (.int (i / j))) else none
  | _, _ => none
def bPow : D → D → Option T
  | .int i, .int j => if decide (0 ≤ j) && decide (j ≤ 1000) && big i then some (.fz (.int (i ^ j.toNat))) else none
  | _, _ => none
def bin : Bop → D → D → Option T
  | .add => bAdd
  | .sub => bSub
  | .mul => bMul
  | .mod => bMod
  | .fdiv => bDiv
  | .pow => bPow

def isNo : D → Bool
  | .non => true
  | _ => false
def cIs : D → D → Option Bool
  | a, .non => some (isNo a)
  | _, _ => none
def cEq : D → D → Option Bool
  | .str x, .str y => some (x == y)
  | a, b => if flat a && flat b then some (deq a b) else none
def cLt : D → D → Option Bool
  | .int a, .int b => some (decide (a < b))
  | .tup a, .tup b => if flat (.tup a) && (flat (.tup b) && alks a b) then some (dltBs a b) else none
  | _, _ => none
def cGt : D → D → Option Bool
  | .int a, .int b => some (decide (b < a))
  | _, _ => none
def cLe : D → D → Option Bool
  | .int a, .int b => some (decide (a ≤ b))
  | _, _ => none
def cIn (a : D) : D → Option Bool
  | .tup xs => if flat a && flats xs then some (mem a xs) else none
  | .lst xs => if flat a && flats xs then some (mem a xs) else none
  | .dct kvs => match a with | .int k => some (lookK k kvs).isSome | _ => none
  | _ => none
def cmp : Cop → D → D → Option Bool
  | .eq, a, b => cEq a b
  | .ne, a, b => (cEq a b).map (!·)
  | .lt, a, b => cLt a b
  | .gt, a, b => cGt a b
  | .le, a, b => cLe a b
  | .ge, a, b => cLe b a
  | .is_, a, b => cIs a b
  | .isn, a, b => (cIs a b).map (!·)
  | .in_, a, b => cIn a b
  | .nin, a, b => (cIn a b).map (!·)
def cmpT (o : Cop) (a b : D) : Option T := (cmp o a b).map fun b => .fz (.bl b)

def sumI : List D → Option Int
  | [] => some 0
  | .int i :: r => (sumI r).map (i + ·)
  | _ => none
def allB : List D → Option Bool
  | [] => some true
  | .bl b :: r => (allB r).map (b && ·)
  | _ => none
def anyB : List D → Option Bool
  | [] => some false
  | .bl b :: r => (anyB r).map (b || ·)
  | _ => none
def minI : Int → List D → Option Int
  | m, [] => some m
  | m, .int i :: r => minI (if i < m then i else m) r
  | _, _ => none
def pairsD : List D → List (Int × D) → Option (List (Int × D))
  | [], acc => some acc
  | .tup [.int k, v] :: r, acc => pairsD r (putK k v acc)
  | _, _ => none

mutual
/-- the data, as the library writes them -/
def pyD : D → PySem.PyData
  | .non => .none
  | .bl b => .bool b
  | .int i => .int i
  | .str s => .str ⟨s.toArray⟩
  | .tup a => .tuple (pyDs a)
  | .lst a => .list (pyDs a)
  | .dct _ => .dict []
  | _ => .none
def pyDs : List D → List PySem.PyData
  | [] => []
  | a :: r => pyD a :: pyDs r
end
def showI (i : Int) : List Nat := (toString i).toList.map Char.toNat
/-- the text that shows it -/
def txt (d : D) : List Nat := (pyD d).shown.cps.toList
/-- what can be shown -/
def okTxt (d : D) : Bool := (flat d || shwN 60 d) && ((pyD d).showable && Nat.ble (txt d).length 16777216)
def bRepr (t : T) : Option T := if okTxt t.d then some (.fz (.str (txt t.d))) else none
def splitOn_ (sep : List Nat) (fuel : Nat) (cur xs : List Nat) : List D := match fuel with
  | 0 => []
  | f + 1 => match xs with
    | [] => [.str cur.reverse]
    | x :: r => if sep.isPrefixOf xs then .str cur.reverse :: splitOn_ sep f [] (xs.drop sep.length) else splitOn_ sep f (x :: cur) r
def joinD (sep : List Nat) : List D → Option (List Nat)
  | [] => some []
  | [.str s] => some s
  | .str s :: r => (joinD sep r).map (s ++ sep ++ ·)
  | _ => none

def bLen : T → Option T
  | .fz (.tup xs) => some (.fz (.int xs.length))
  | .fz (.lst xs) => some (.fz (.int xs.length))
  | .fz (.dct xs) => some (.fz (.int xs.length))
  | .fz (.str xs) => if okN xs.length then some (.fz (.int xs.length)) else none
  | .oL n _ => some (.fz (.int n))
  | .oD xs => some (.fz (.int xs.length))
  | _ => none
def bTup (t : T) : Option T := (items t).map fun xs => .fz (.tup xs)
def bLst (t : T) : Option T := match t with
  | .oK xs => some (mkL xs)
  | t => (items t).map mkL
/-- the items of a list alone -/
def itL : T → Option (List D)
  | .fz (.lst xs) => some xs
  | .oL _ rs => some rs.reverse
  | _ => none
def bSrt (t : T) : Option T := ((itL t).bind isort).map mkL
def isI : D → Bool
  | .int _ => true
  | _ => false
def okSetI (xs : List D) : Bool := xs.all isI && (Nat.blt xs.length 64 && okSort xs)
def bSset (t : T) : Option T := match t with
  | .fz (.tup xs) => if okSet xs then some (mkL (sortB (dedup [] xs))) else none
  | t => (itL t).bind fun xs => if okSet xs || okSetI xs then some (mkL (sortB (dedup [] xs))) else none
def bLset (t : T) : Option T := (itL t).bind fun xs => if xs.all isI && Nat.ble xs.length 4000 then some (.fz (.int (dedup [] xs).length)) else none
def bAny (t : T) : Option T := ((itL t).bind anyB).map fun b => .fz (.bl b)
def bAll (t : T) : Option T := ((itL t).bind allB).map fun b => .fz (.bl b)
def bSum (t : T) : Option T := ((itL t).bind sumI).map fun b => .fz (.int b)
def bMin0 (t : T) : Option T := match itL t with
  | some [] => some (.fz (.int 0))
  | some (.int i :: r) => (minI i r).map fun m => .fz (.int m)
  | _ => none
def bInt : T → Option T
  | .fz (.int i) => some (.fz (.int i))
  | _ => none
def bStr : T → Option T
  | .fz (.int i) => some (.fz (.str (showI i)))
  | .fz .non => some (.fz (.str ("None".toList.map Char.toNat)))
  | .fz (.str s) => some (.fz (.str s))
  | _ => none
def bDcopy : T → Option T
  | .fz (.dct k) => some (.oD k)
  | .oD k => some (.oD k)
  | _ => none
def bDpairs (t : T) : Option T := ((itL t).bind (pairsD · [])).map .oD
/-- the first of pairs whose second is True -/
def fsts : List D → Option (List D)
  | [] => some []
  | .tup [d, .bl true] :: r => (fsts r).map (d :: ·)
  | _ => none
def bDkeys (t : T) : Option T := ((itL t).bind fsts).bind fun xs => if (xs.all fun d => isRec d && numD 8 d) && okSort xs then some (mkL (dedup [] xs)) else none
/-- the keys of a dict -/
def bTkeys : T → Option T
  | .fz (.dct k) => some (.fz (.tup (k.map fun p => .int p.1)))
  | .oD k => some (.fz (.tup (k.map fun p => .int p.1)))
  | _ => none
def bDset (t : T) : Option T := ((itL t).bind fsts).bind fun xs => if (xs.all fun d => isRec d && numD 8 d) && okSort xs then some (.fz (.kst (dedup [] xs))) else none
/-- asked in a dict of nested keys -/
def kinT (a : D) : D → Option T
  | .kst ks => if isRec a && numD 8 a then some (.fz (.bl (mem a ks))) else none
  | _ => none
def b1 : B1 → T → Option T
  | .len => bLen
  | .tuple => bTup
  | .list => bLst
  | .sorted => bSrt
  | .sset => bSset
  | .lset => bLset
  | .any => bAny
  | .all => bAll
  | .sum => bSum
  | .min0 => bMin0
  | .int => bInt
  | .dpairs => bDpairs
  | .dcopy => bDcopy
  | .dset => bDset
  | .dkeys => bDkeys
  | .tkeys => bTkeys
  | .repr => bRepr
  | .str => bStr
  | .dvals => fun t => match t with | .oD k => some (.it (k.map (·.2))) | _ => none
  | .upper => fun t => match t with | .fz (.str s) => some (.fz (.str (s.map fun c => if 97 ≤ c && c ≤ 122 then c - 32 else c))) | _ => none
def b2 : B2 → T → T → Option T
  | .min2, .fz (.int a), .fz (.int b) => some (.fz (.int (if b < a then b else a)))
  | .max2, .fz (.int a), .fz (.int b) => some (.fz (.int (if b > a then b else a)))
  | .join, .fz (.str s), t => ((items t).bind (joinD s)).map fun x => .fz (.str x)
  | .split, .fz (.str x), .fz (.str s) => some (mkL (splitOn_ s (x.length + 2) [] x))
  | .index, t, .fz d => ((items t).bind (fun xs => xs.findIdx? (deq · d))).map fun i => .fz (.int (i : Nat))
  | _, _, _ => none

def isTy : Ty → D → Option Bool
  | _, .ref _ => none
  | _, .clo _ _ => none
  | _, .kst _ => none
  | .int, .int _ => some true
  | .int, .bl _ => some true
  | .bool, .bl _ => some true
  | .str, .str _ => some true
  | .tuple, .tup _ => some true
  | _, _ => some false

def setT (s : Sl) (i : Nat) (t : T) : Sl := match s, i with
  | [], _ => []
  | _ :: r, 0 => t :: r
  | x :: r, j + 1 => x :: setT r j t
def getT (s : Sl) (i : Nat) : T := match s, i with
  | [], _ => .un
  | x :: _, 0 => x
  | _ :: r, j + 1 => getT r j
/-- names take the parts of a tuple -/
def bindL : List Nat → List D → Sl → Option Sl
  | [], [], s => some s
  | i :: r, d :: q, s => bindL r q (setT s i (.fz d))
  | _, _, _ => none
/-- one name takes it; several take its parts -/
def bind1 (g : List Nat) (d : D) (s : Sl) : Option Sl := match g with
  | [i] => some (setT s i (.fz d))
  | _ => match d with | .tup xs => bindL g xs s | _ => none
mutual
def bindT : Tg → D → Sl → Option Sl
  | .nm i, d, s => some (setT s i (.fz d))
  | .tp ts, .tup xs, s => bindTs ts xs s
  | _, _, _ => none
def bindTs : List Tg → List D → Sl → Option Sl
  | [], [], s => some s
  | g :: r, d :: q, s => match bindT g d s with | some s' => bindTs r q s' | none => none
  | _, _, _ => none
end
def tgOf : List Nat → Tg
  | [i] => .nm i
  | is => .tp (is.map .nm)
/-- names that are not set -/
def unT : List Nat → Sl → Sl
  | [], s => s
  | i :: r, s => setT (unT r s) i .un
def putAt : List (Nat × D) → List D → List D
  | [], xs => xs
  | (p, d) :: r, xs => putAt r (xs.take p ++ d :: xs.drop p)

abbrev Cal := Nat → List D → RH → RE
/-- go on behind an expression -/
def RE.bind (r : RE) (f : T → RH → RE) : RE := match r with
  | .ok t h => f t h
  | .exc c xs h => .exc c xs h
  | .bad w => .bad w
/-- .. as data -/
def RE.frz (r : RE) : RE := r.bind fun t h => .ok (.fz t.d) h
/-- no exception may leave -/
def RE.calm (r : RE) : RE := match r with
  | .exc _ _ _ => .bad "calm"
  | r => r
/-- .. that gave a truth -/
def RE.test (r : RE) (f : Bool → RH → RE) : RE := r.bind fun t h => match t with
  | .fz (.bl b) => f b h
  | _ => .bad "test"
/-- .. that gave an int -/
def RE.int (r : RE) (f : Int → RH → RE) : RE := r.bind fun t h => match t with
  | .fz (.int i) => f i h
  | _ => .bad "int"
/-- .. that gave a slice's part -/
def RE.part (r : RE) (f : Option Int → RH → RE) : RE := r.bind fun t h => match t with
  | .fz .non => f none h
  | .fz (.int i) => f (some i) h
  | _ => .bad "part"
/-- .. that gave a row -/
def RE.row (r : RE) (f : List D → RH → RE) : RE := r.bind fun t h => match t with
  | .fz (.tup xs) => f xs h
  | _ => .bad "row"
/-- .. that gave what can be walked -/
def RE.its (r : RE) (f : List D → RH → RE) : RE := r.bind fun t h => match items t with
  | some xs => f xs h
  | none => .bad "items"
def optE (o : Option T) (h : RH) : RE := match o with
  | some t => .ok t h
  | none => .bad "none"
def optB (o : Option Bool) (h : RH) : RE := match o with
  | some b => .ok (.fz (.bl b)) h
  | none => .bad "none"
/-- what == , len, in do at an object -/
abbrev fEq : Nat := 0
abbrev fLen : Nat := 1
abbrev fIn : Nat := 2

/-- walk the items of a comprehension -/
def compGo (tg : Tg) (s : Sl) (fc fe : Sl → RH → RE) : List D → Nat → List D → RH → RE
  | [], n, acc, h => .ok (.oL n acc) h
  | d :: r, n, acc, h => match bindT tg d s with
    | none => .bad "bind"
    | some s' => (fc s' h).calm.test fun b h => match b with
      | true => (fe s' h).calm.frz.bind fun t h => if Nat.blt n line then compGo tg s fc fe r (n + 1) (t.d :: acc) h else .bad "line"
      | false => compGo tg s fc fe r n acc h
def comp2Go (tg : Tg) (s : Sl) (fc : Sl → RH → RE) (f2 : Sl → Nat → List D → RH → RE) : List D → Nat → List D → RH → RE
  | [], n, acc, h => .ok (.oL n acc) h
  | d :: r, n, acc, h => match bindT tg d s with
    | none => .bad "bind"
    | some s' => (fc s' h).calm.test fun b h => match b with
      | true => (f2 s' n acc h).calm.bind fun t h => match t with
        | .oL n acc => comp2Go tg s fc f2 r n acc h
        | _ => .bad "comp2"
      | false => comp2Go tg s fc f2 r n acc h
def sm (i : Int) : Bool := decide (-4611686018427387904 ≤ i) && decide (i < 4611686018427387904)
def rangeD (a : Int) : Nat → List D
  | 0 => []
  | n + 1 => .int a :: rangeD (a + 1) n
def enumD (i : Int) : List D → List D
  | [] => []
  | x :: r => .tup [.int i, x] :: enumD (i + 1) r
def zipD : List D → List D → List D
  | x :: r, y :: q => .tup [x, y] :: zipD r q
  | _, _ => []
def idxD (d : D) (i : Int) (h : RH) : Option D := match d with
  | .tup xs => atI xs i
  | .lst xs => atI xs i
  | .str xs => if okN xs.length then atI (xs.map fun c => .str [c]) i else none
  | .dct kvs => lookK i kvs
  | .ref n => match h[n]? with
    | some (.lst xs) => atI xs i
    | _ => none
  | _ => none
def slcD (d : D) (lo hi : Option Int) : Option T := match d with
  | .tup xs => some (.fz (.tup (cut xs (sIx xs.length 0 lo) (sIx xs.length xs.length hi))))
  | .lst xs => some (mkL (cut xs (sIx xs.length 0 lo) (sIx xs.length xs.length hi)))
  | _ => none
def revD (d : D) : Option T := match d with
  | .tup xs => some (.fz (.tup xs.reverse))
  | .lst xs => some (mkL xs.reverse)
  | _ => none
mutual
/-- nothing shared in it -/
def norf : D → Bool
  | .non => true | .bl _ => true | .int _ => true | .str _ => true
  | .tup a => norfs a
  | .lst a => norfs a
  | _ => false
def norfs : List D → Bool
  | [] => true
  | a :: r => norf a && norfs r
end
def norfK : List (Int × D) → Bool
  | [] => true
  | (_, a) :: r => norf a && norfK r
def norfT : T → Bool
  | .oL _ rs => norfs rs
  | .oD ks => norfK ks
  | _ => false
/-- what a call of data that are only lent may give: nothing that holds a list -/
def lent (r : RE) : RE := match r with
  | .ok (.fz d) h => if pure_ d then .ok (.fz d) h else .bad "lent"
  | .ok (.oL n rs) h => if pures rs then .ok (.oL n rs) h else .bad "lent"
  | _ => .bad "lent"
/-- the table k stands at its place -/
def tabAt (k : Nat) (h : RH) : Bool := match h[k]? with
  | some (.tab j) => j == k
  | _ => false
/-- what came of a call: its value in a list; w and the error's own part, of an error of the class c -/
def told (c : Nat) (w : List Nat) : RE → RE
  | .ok t h => .ok (mkL [t.d]) h
  | .exc k [x] h => if k == c then .ok (mkL [.str w, x]) h else .bad "told"
  | _ => .bad "told"
/-- read alone: the slot's own list too -/
def rdv (a : E) (s : Sl) (h : RH) (r : RE) : RE := match a with
  | .vr i => match getT s i with
    | .un => .bad "vr"
    | t => .ok t h
  | _ => r
section
variable (Φ : Cal) (x : List D)
def ev : E → Sl → RH → RE
  | .lit d, _, h => .ok (.fz d) h
  | .var i, s, h => match getT s i with | .fz d => .ok (.fz d) h | _ => .bad "var"
  | .vr _, _, _ => .bad "vr"
  | .nil, _, h => .ok (.fz (.tup [])) h
  | .cons a b, s, h => (ev a s h).bind fun t h => (ev b s h).row fun r h => .ok (.fz (.tup (t.d :: r))) h
  | .tup a, s, h => ev a s h
  | .lst a, s, h => (ev a s h).row fun r h => .ok (mkL r) h
  | .bin o a b, s, h => (rdv a s h (ev a s h)).bind fun t h => (rdv b s h (ev b s h)).bind fun u h => optE (bin o t.d u.d) h
  | .neg a, s, h => (ev a s h).int fun i h => .ok (.fz (.int (-i))) h
  | .nt a, s, h => (ev a s h).test fun b h => .ok (.fz (.bl (!b))) h
  | .and_ a b, s, h => (ev a s h).test fun c h => match c with
    | true => (ev b s h).test fun b h => .ok (.fz (.bl b)) h
    | false => .ok (.fz (.bl false)) h
  | .or_ a b, s, h => (ev a s h).test fun c h => match c with
    | true => .ok (.fz (.bl true)) h
    | false => (ev b s h).test fun b h => .ok (.fz (.bl b)) h
  | .ife c a b, s, h => (ev c s h).test fun c h => match c with
    | true => ev a s h
    | false => ev b s h
  | .cmp o a b, s, h => (rdv a s h (ev a s h)).bind fun t h => (rdv b s h (ev b s h)).bind fun u h => optE (cmpT o t.d u.d) h
  | .chn o p a b c, s, h => (rdv a s h (ev a s h)).bind fun t h => (rdv b s h (ev b s h)).bind fun u h => match cmp o t.d u.d with
    | some true => (rdv c s h (ev c s h)).bind fun v h => optE (cmpT p u.d v.d) h
    | some false => .ok (.fz (.bl false)) h
    | none => .bad "chn"
  | .idx a i, s, h => (rdv a s h (ev a s h)).bind fun t h => (ev i s h).int fun i h => optE ((idxD t.d i h).map .fz) h
  | .slc a lo hi, s, h => (rdv a s h (ev a s h)).bind fun t h => (ev lo s h).part fun u h => (ev hi s h).part fun v h => optE (slcD t.d u v) h
  | .rev a, s, h => (rdv a s h (ev a s h)).bind fun t h => optE (revD t.d) h
  | .call f es, s, h => (ev es s h).row fun xs h => Φ f xs h
  | .callB f a i fst, s, h => (ev a s h).frz.bind fun t h => if norf t.d && norfT (getT s i) then (lent (Φ f (if fst then [(getT s i).d, t.d] else [t.d, (getT s i).d]) [])).bind fun t _ => .ok t h else .bad "callB"
  | .clo f vs, s, h => .ok (.fz (.clo f (vs.map fun i => (getT s i).d))) h
  | .cc a es, s, h => (ev a s h).bind fun t h => match t with
    | .fz (.clo f env) => (ev es s h).row fun xs h => Φ f (env ++ xs) h
    | _ => .bad "cc"
  | .callT rows a es, s, h => (ev a s h).bind fun t h => match t with
    | .fz (.str w) => match rows.lookup w with
      | some f => (ev es s h).row fun xs h => Φ f xs h
      | none => .bad "callT"
    | _ => .bad "callT"
  | .sidx rows a, s, h => (ev a s h).bind fun t h => match t with
    | .fz (.str w) => optE ((rows.lookup w).map .fz) h
    | _ => .bad "sidx"
  | .sin rows a, s, h => (ev a s h).bind fun t h => match t with
    | .fz (.str w) => .ok (.fz (.bl (rows.lookup w).isSome)) h
    | _ => .bad "sin"
  | .new c f n es, s, h => (ev es s h).row fun xs h => (Φ f (.ref h.length :: xs) (h ++ [.ins c (List.replicate n .un)])).bind fun _ h' => .ok (.fz (.ref h.length)) h'
  | .fget o i, s, h => (ev o s h).bind fun t h => match t with
    | .fz (.ref n) => match h[n]? with
      | some (.ins _ fs) => match getT fs i with
        | .un => .bad "fget"
        | t => .ok t h
      | _ => .bad "fget"
    | _ => .bad "fget"
  | .b1 o a, s, h => (rdv a s h (ev a s h)).bind fun t h => optE (b1 o t) h
  | .b2 o a b, s, h => (rdv a s h (ev a s h)).bind fun t h => (rdv b s h (ev b s h)).bind fun u h => optE (b2 o t u) h
  | .isin t a, s, h => (rdv a s h (ev a s h)).bind fun u h => optB (isTy t u.d) h
  | .comp tg it c e, s, h => (rdv it s h (ev it s h)).its fun xs h => compGo (tgOf tg) (unT tg s) (ev c) (ev e) xs 0 [] h
  | .comp2 tg it c tg2 it2 c2 e, s, h => (rdv it s h (ev it s h)).its fun xs h =>
      comp2Go (tgOf tg) (unT (tg ++ tg2) s) (ev c) (fun s n acc h => (rdv it2 s h (ev it2 s h)).its fun ys h => compGo (tgOf tg2) (unT tg2 s) (ev c2) (ev e) ys n acc h) xs 0 [] h
  | .rng a b, s, h => (ev a s h).int fun i h => (ev b s h).int fun j h => if sm i && sm j then .ok (.it (rangeD i (j - i).toNat)) h else .bad "range"
  | .enu a, s, h => (rdv a s h (ev a s h)).its fun xs h => .ok (.it (enumD 0 xs)) h
  | .zip st a b, s, h => (rdv a s h (ev a s h)).its fun xs h => (rdv b s h (ev b s h)).its fun ys h => if st && xs.length != ys.length then .bad "strict" else .ok (.it (zipD xs ys)) h
  | .dnew, _, h => .ok (.oD []) h
  | .dget a k d, s, h => (rdv a s h (ev a s h)).bind fun t h => match t.d with
    | .dct kvs => (ev k s h).int fun i h => (ev d s h).frz.bind fun v h => .ok (.fz ((lookK i kvs).getD v.d)) h
    | _ => .bad "dget"
  | .exf i, _, h => optE ((x[i]?).map .fz) h
  | .rnew es, s, h => (ev es s h).row fun xs h => .ok (.fz (.ref h.length)) (h ++ [.lst xs])
  | .outc c k w e, s, h => if tabAt k h then told c w (ev e s h) else .bad "tab"
  | .mke c rv es, s, h => (ev es s h).row fun xs h => .ok (.fz (.clo c (if rv then xs.reverse else xs))) h
  | .ise rows a, s, h => (rdv a s h (ev a s h)).bind fun t h => match t with
    | .fz (.clo c _) => optE ((rows[c]?).map fun b => .fz (.bl b)) h
    | _ => .bad "ise"
  | .exg rows a, s, h => (rdv a s h (ev a s h)).bind fun t h => match t with
    | .fz (.clo c xs) => optE (((rows.lookup c).bind fun i => xs[i]?).map .fz) h
    | _ => .bad "exg"
  | .kin a b, s, h => (rdv a s h (ev a s h)).bind fun t h => (rdv b s h (ev b s h)).bind fun u h => optE (kinT t.d u.d) h

def setOb (h : RH) (n : Nat) (o : Ob) : RH := match h, n with
  | [], _ => []
  | _ :: r, 0 => o :: r
  | x :: r, j + 1 => x :: setOb r j o
def setD (xs : List D) (n : Nat) (d : D) : List D := match xs, n with
  | [], _ => []
  | _ :: r, 0 => d :: r
  | x :: r, j + 1 => x :: setD r j d
/-- a statement goes on behind an expression -/
def RE.go (r : RE) (s : Sl) (f : T → RH → RS) : RS := match r with
  | .ok t h => f t h
  | .exc c xs h => .exc c xs s h
  | .bad w => .bad w
def RS.nxt (r : RS) (f : Sl → RH → RS) : RS := match r with
  | .nx s h => f s h
  | .ret t h => .ret t h
  | .exc c xs s h => .exc c xs s h
  | .bad w => .bad w
def parGo (s0 : Sl) : List (Nat × Bool) → List E → Sl → RH → RS
  | [], [], s, h => .nx s h
  | (i, o) :: r, e :: q, s, h => (if o then ev Φ x e s0 h else (ev Φ x e s0 h).frz).go s0 fun t h => parGo s0 r q (setT s i t) h
  | _, _, _, _ => .bad "par"
end

def forGo (g : Tg) (fb : Sl → RH → RS) : List D → Sl → RH → RS
  | [], s, h => .nx s h
  | d :: r, s, h => match bindT g d s with
    | none => .bad "for"
    | some s => (fb s h).nxt fun s h => forGo g fb r s h
def whlGo (fc : Sl → RH → RE) (fb : Sl → RH → RS) : Nat → Sl → RH → RS
  | 0, _, _ => .bad "while"
  | n + 1, s, h => (fc s h).go s fun t h => match t with
    | .fz (.bl true) => (fb s h).nxt fun s h => whlGo fc fb n s h
    | .fz (.bl false) => .nx s h
    | _ => .bad "while"

section
variable (Φ : Cal)
mutual
def ex (x : List D) : S → Sl → RH → RS
  | .skip, s, h => .nx s h
  | .seq a b, s, h => (ex x a s h).nxt fun s h => ex x b s h
  | .set i e, s, h => (ev Φ x e s h).go s fun t h => .nx (setT s i t) h
  | .setf i e, s, h => (ev Φ x e s h).frz.go s fun t h => .nx (setT s i t) h
  | .asg g e, s, h => (ev Φ x e s h).frz.go s fun t h => match bindT g t.d s with | some s => .nx s h | none => .bad "asg"
  | .par is es, s, h => parGo Φ x s is es s h
  | .frz i, s, h => match getT s i with
    | .un => .bad "frz"
    | t => .nx (setT s i (.fz t.d)) h
  | .mov i j, s, h => match getT s j with
    | .un => .bad "mov"
    | t => .nx (setT (setT s j .un) i t) h
  | .retm i, s, h => match getT s i with
    | .un => .bad "retm"
    | t => .ret t h
  | .ret e, s, h => (ev Φ x e s h).go s fun t h => .ret t h
  | .app i e, s, h => match getT s i with
    | .oL n rs => (ev Φ x e s h).frz.go s fun t h => if Nat.blt n line then .nx (setT s i (.oL (n + 1) (t.d :: rs))) h else .bad "line"
    | _ => .bad "app"
  | .ext i e, s, h => match getT s i with
    | .oL n rs => (rdv e s h (ev Φ x e s h)).go s fun t h => match items t with
      | some xs => if okN (n + xs.length) then .nx (setT s i (.oL (n + xs.length) (xs.reverse ++ rs))) h else .bad "line"
      | none => .bad "ext"
    | _ => .bad "ext"
  | .popi i j, s, h => match getT s j with
    | .oL (n + 1) (d :: rs) => .nx (setT (setT s j (.oL n rs)) i (.fz d)) h
    | _ => .bad "pop"
  | .dput i kk v, s, h => match getT s i with
    | .oD kvs => (ev Φ x v s h).frz.go s fun t h => (ev Φ x kk s h).go s fun u h => match u with
      | .fz (.int a) => if Nat.blt kvs.length line then .nx (setT s i (.oD (putK a t.d kvs))) h else .bad "dput"
      | _ => .bad "dput"
    | _ => .bad "dput"
  | .rput o kk v, s, h => (ev Φ x v s h).frz.go s fun t h => (ev Φ x o s h).go s fun u h => (ev Φ x kk s h).go s fun w h => match u, w with
    | .fz (.ref n), .fz (.int a) => match h[n]? with
      | some (.lst xs) => match ixN xs.length a with
        | some j => .nx s (setOb h n (.lst (setD xs j t.d)))
        | none => .bad "rput"
      | _ => .bad "rput"
    | _, _ => .bad "rput"
  | .dapp i kk v, s, h => (ev Φ x v s h).go s fun t h => (ev Φ x kk s h).go s fun u h => match u, getT s i with
    | .fz (.int a), .oD kvs => match lookK a kvs with
      | some (.lst xs) => .nx (setT s i (.oD (putK a (.lst (xs ++ [t.d])) kvs))) h
      | _ => .bad "dapp"
    | _, _ => .bad "dapp"
  | .fput o i own e, s, h => (ev Φ x e s h).go s fun t h => (ev Φ x o s h).go s fun u h => match u with
    | .fz (.ref n) => match h[n]? with
      | some (.ins c fs) => .nx s (setOb h n (.ins c (setT fs i (if own then t else .fz t.d))))
      | _ => .bad "fput"
    | _ => .bad "fput"
  | .fapp o i e, s, h => (ev Φ x o s h).go s fun u h => (ev Φ x e s h).go s fun t h => match u with
    | .fz (.ref n) => match h[n]? with
      | some (.ins c fs) => match getT fs i with
        | .oL m rs => .nx s (setOb h n (.ins c (setT fs i (.oL (m + 1) (t.d :: rs)))))
        | _ => .bad "fapp"
      | _ => .bad "fapp"
    | _ => .bad "fapp"
  | .ifs c a b, s, h => (ev Φ x c s h).go s fun t h => match t with
    | .fz (.bl true) => ex x a s h
    | .fz (.bl false) => ex x b s h
    | _ => .bad "ifs"
  | .for_ g it b, s, h => (ev Φ x it s h).go s fun t h => match items t with
    | some xs => forGo g (ex x b) xs s h
    | none => .bad "for"
  | .whl c b, s, h => whlGo (ev Φ x c) (ex x b) 1000000 s h
  | .rais c es, s, h => (ev Φ x es s h).go s fun t h => match t with
    | .fz (.tup xs) => .exc c xs s h
    | _ => .bad "raise"
  | .try_ b hs, s, h => match ex x b s h with
    | .exc c xs s h => exh c xs hs s h
    | e => e
  | .hnd _ _ _ _, _, _ => .bad "hnd"
  | .aug i e, s, h => match getT s i with
    | .fz (.int a) => (ev Φ x e s h).go s fun t h => match t with
      | .fz (.int b) => .nx (setT s i (.fz (.int (a + b)))) h
      | _ => .bad "aug"
    | _ => .bad "aug"
  | .exp e, s, h => (ev Φ x e s h).go s fun _ h => .nx s h
/-- the clauses of a try, for an exception -/
def exh (c : Nat) (x : List D) : S → Sl → RH → RS
  | .hnd cs i hb rest, s, h => if cs.contains c then (ex x hb (setT s i .un) h).nxt fun s h => .nx (setT s i .un) h else exh c x rest s h
  | _, s, h => .exc c x s h
end
end

/-- a def: how many parameters, how many slots, its body -/
structure Def where
  np : Nat
  ns : Nat
  body : S
  deriving Inhabited
def slots : Nat → List D → Sl
  | 0, _ => []
  | n + 1, [] => .un :: slots n []
  | n + 1, d :: r => .fz d :: slots n r
def nth (n : Nat) : List Def → Option Def
  | [] => none
  | d :: r => match n with | 0 => some d | m + 1 => nth m r
/-- calls, to a depth -/
def runs (ds : List Def) : Nat → Cal
  | 0 => fun _ _ _ => .bad "depth"
  | n + 1 => fun f xs h => match nth f ds with
    | none => .bad "def"
    | some d => if xs.length == d.np then
        match ex (runs ds n) [] d.body (slots d.ns xs) h with
        | .ret t h => .ok t h
        | .nx _ h => .ok (.fz .non) h
        | .exc c xs _ h => .exc c xs h
        | .bad w => .bad w
      else .bad "arity"
end Ma
set_option maxHeartbeats 4000000
/-! What the machine's data stand for in the abstract heap. -/
namespace Ma
open PySem PySem.Spec PyProof.Rows L2

/-- the tables of code objects that functions with lambdas keep, by their places, with the names of the lambdas; the classes of errors that are values, with their fields -/
class TB where
  tabs : List (Addr × Str)
  errs : List (Addr × List Str) := []
  hsh : NestedKey → Int := fun _ => 0
variable [TB]
mutual
/-- data as keys -/
def kD : D → NestedKey
  | .int i => .num i
  | .tup xs => .tup (kDs xs)
  | _ => .none
def kDs : List D → List NestedKey
  | [] => []
  | a :: r => kD a :: kDs r
end
/-- the entries of a dict of nested keys -/
structure KsE (ks : List D) (xs : List (NestedKey × Addr × Value)) (es : Array DictEntry) : Prop where
  keys : xs.map (·.1) = ks.map kD
  num : ∀ k ∈ ks, numD 8 k = true
  nd : (xs.map (·.1)).Nodup
  es : es.toList = xs.map fun x => ⟨TB.hsh x.1, .ref x.2.1, x.2.2⟩
/-- the fields of an error stand in its dict -/
def EF (H : Hp) (ns : List Str) (vs : List V) : Option Addr → Prop
  | none => ns = []
  | some dd => ∃ o fs, H dd = some (.frz o (exd dd fs)) ∧ ∀ (i : Nat) n u, ns[i]? = some n → vs[i]? = some u → fs.lookup n = some u
mutual
/-- data stand at a value: what nobody changes any more -/
def Rp (m : List Addr) (H : Hp) : D → V → Prop
  | .non, v => v = .non
  | .bl b, v => v = .bl b
  | .int i, v => v = .int i
  | .str x, v => ∃ y : Str, v = .str y ∧ y.cps.toList = x
  | .tup ds, v => ∃ a vs, v = .ref a ∧ H a = some (.tup vs) ∧ Rps m H ds vs
  | .lst ds, v => ∃ a o vs, v = .ref a ∧ H a = some (.frz o (.lst vs)) ∧ Rps m H ds vs
  | .dct ks, v => ∃ a o ws, v = .ref a ∧ H a = some (.frz o (.dK ws)) ∧ Rpk m H ks ws
  | .kst ks, v => ∃ a o xs es ep, v = .ref a ∧ (a == sysModules) = false ∧ H a = some (.frz o (.ext fun h => h.DictRaw a es ep)) ∧ KsE ks xs es ∧ Rps m H ks (xs.map fun x => V.ref x.2.1)
  | .ref n, v => ∃ a, m[n]? = some a ∧ v = .ref a
  | .clo c xs, v => ∃ a C ns od o vs, v = .ref a ∧ TB.errs[c]? = some (C, ns) ∧ H a = some (.frz o (exo a C od)) ∧ EF H ns vs od ∧ Rps m H xs vs
def Rps (m : List Addr) (H : Hp) : List D → List V → Prop
  | [], vs => vs = []
  | d :: ds, vs => ∃ v r, vs = v :: r ∧ Rp m H d v ∧ Rps m H ds r
def Rpk (m : List Addr) (H : Hp) : List (Int × D) → List (Key × V) → Prop
  | [], ws => ws = []
  | (i, d) :: r, ws => ∃ v q, ws = (Sum.inl i, v) :: q ∧ Rp m H d v ∧ Rpk m H r q
end
/-- the tuples and the locked things of the one heap stand in the other -/
structure Per (m : List Addr) (H : Hp) (m' : List Addr) (H' : Hp) : Prop where
  tup : ∀ a xs, H a = some (.tup xs) → H' a = some (.tup xs)
  frz : ∀ a o u, H a = some (.frz o u) → H' a = some (.frz o u)
  pre : ∀ (n : Nat) a, m[n]? = some a → m'[n]? = some a
theorem Per.refl {m : List Addr} {H : Hp} : Per m H m H := ⟨fun _ _ h => h, fun _ _ _ h => h, fun _ _ h => h⟩
theorem Per.trans {m m1 m2 : List Addr} {H H1 H2 : Hp} (p : Per m H m1 H1) (q : Per m1 H1 m2 H2) : Per m H m2 H2 :=
  ⟨fun a xs h => q.tup a xs (p.tup a xs h), fun a o u h => q.frz a o u (p.frz a o u h), fun n a h => q.pre n a (p.pre n a h)⟩
theorem Per.ef {m m' : List Addr} {H H' : Hp} (p : Per m H m' H') {ns : List Str} {vs : List V} : ∀ {od : Option Addr}, EF H ns vs od → EF H' ns vs od
  | none, h => h
  | some dd, ⟨o, fs, e, h⟩ => ⟨o, fs, p.frz dd o _ e, h⟩
mutual
theorem Rp.per {m m' : List Addr} {H H' : Hp} (p : Per m H m' H') : ∀ (d : D) (v : V), Rp m H d v → Rp m' H' d v
  | .non, _, h => h
  | .bl _, _, h => h
  | .int _, _, h => h
  | .str _, _, h => h
  | .tup ds, _, ⟨a, vs, e, h, r⟩ => ⟨a, vs, e, p.tup a vs h, Rps.per p ds vs r⟩
  | .lst ds, _, ⟨a, o, vs, e, h, r⟩ => ⟨a, o, vs, e, p.frz a o _ h, Rps.per p ds vs r⟩
  | .dct ks, _, ⟨a, o, ws, e, h, r⟩ => ⟨a, o, ws, e, p.frz a o _ h, Rpk.per p ks ws r⟩
  | .kst ks, _, ⟨a, o, xs, es, ep, e, z, h, q, r⟩ => ⟨a, o, xs, es, ep, e, z, p.frz a o _ h, q, Rps.per p ks _ r⟩
  | .ref n, _, ⟨a, h, e⟩ => ⟨a, p.pre n a h, e⟩
  | .clo _ xs, _, ⟨a, C, ns, od, o, vs, e, t, h, f, r⟩ => ⟨a, C, ns, od, o, vs, e, t, p.frz a o _ h, p.ef f, Rps.per p xs vs r⟩
theorem Rps.per {m m' : List Addr} {H H' : Hp} (p : Per m H m' H') : ∀ (ds : List D) (vs : List V), Rps m H ds vs → Rps m' H' ds vs
  | [], _, h => h
  | d :: ds, _, ⟨v, r, e, h, q⟩ => ⟨v, r, e, Rp.per p d v h, Rps.per p ds r q⟩
theorem Rpk.per {m m' : List Addr} {H H' : Hp} (p : Per m H m' H') : ∀ (ks : List (Int × D)) (ws : List (Key × V)), Rpk m H ks ws → Rpk m' H' ks ws
  | [], _, h => h
  | (i, d) :: ks, _, ⟨v, r, e, h, q⟩ => ⟨v, r, e, Rp.per p d v h, Rpk.per p ks r q⟩
end
section
variable {m : List Addr} {H : Hp}
theorem Rps.len : ∀ {ds : List D} {vs : List V}, Rps m H ds vs → vs.length = ds.length
  | [], _, h => by rw [show _ = [] from h]; rfl
  | d :: ds, _, ⟨v, r, e, _, q⟩ => by rw [e, List.length_cons, List.length_cons, Rps.len q]
theorem Rps.app : ∀ {ds es : List D} {vs ws : List V}, Rps m H ds vs → Rps m H es ws → Rps m H (ds ++ es) (vs ++ ws)
  | [], _, _, _, h, q => by rw [show _ = [] from h]; exact q
  | d :: ds, _, _, _, ⟨v, r, e, h, t⟩, q => by rw [e]; exact ⟨v, r ++ _, rfl, h, Rps.app t q⟩
theorem Rps.one {d : D} {v : V} (h : Rp m H d v) : Rps m H [d] [v] := ⟨v, [], rfl, h, rfl⟩
theorem Rps.get : ∀ {ds : List D} {vs : List V} {i : Nat} {d : D}, Rps m H ds vs → ds[i]? = some d → ∃ v, vs[i]? = some v ∧ Rp m H d v
  | [], _, _, _, _, e => by simp at e
  | d :: ds, _, 0, _, ⟨v, r, ev, h, _⟩, e => by rw [ev]; simp at e; exact ⟨v, rfl, e ▸ h⟩
  | d :: ds, _, i + 1, _, ⟨v, r, ev, _, q⟩, e => by rw [ev]; simp at e; simpa using Rps.get q e
theorem Rps.getV : ∀ {ds : List D} {vs : List V} {i : Nat} {v : V}, Rps m H ds vs → vs[i]? = some v → ∃ d, ds[i]? = some d ∧ Rp m H d v
  | [], _, _, _, h, e => by rw [show _ = [] from h] at e; simp at e
  | d :: ds, _, 0, _, ⟨v, r, ev, h, _⟩, e => by rw [ev] at e; simp at e; exact ⟨d, rfl, e ▸ h⟩
  | d :: ds, _, i + 1, _, ⟨v, r, ev, _, q⟩, e => by rw [ev] at e; simp at e; simpa using Rps.getV q e
theorem Rps.take : ∀ {ds : List D} {vs : List V} (n : Nat), Rps m H ds vs → Rps m H (ds.take n) (vs.take n)
  | _, _, 0, _ => rfl
  | [], _, n + 1, h => by rw [show _ = [] from h]; rfl
  | d :: ds, _, n + 1, ⟨v, r, e, h, q⟩ => by rw [e]; exact ⟨v, r.take n, rfl, h, Rps.take n q⟩
theorem Rps.drop : ∀ {ds : List D} {vs : List V} (n : Nat), Rps m H ds vs → Rps m H (ds.drop n) (vs.drop n)
  | _, _, 0, h => h
  | [], _, n + 1, h => by rw [show _ = [] from h]; rfl
  | d :: ds, _, n + 1, ⟨v, r, e, h, q⟩ => by rw [e]; exact Rps.drop n q
theorem Rps.rev : ∀ {ds : List D} {vs : List V}, Rps m H ds vs → Rps m H ds.reverse vs.reverse
  | [], _, h => by rw [show _ = [] from h]; rfl
  | d :: ds, _, ⟨v, r, e, h, q⟩ => by rw [e, List.reverse_cons, List.reverse_cons]; exact Rps.app (Rps.rev q) (Rps.one h)
end

/-- what a slot or a temporary holds stands at a value -/
def RpT (m : List Addr) (H : Hp) : T → V → Prop
  | .fz d, v => Rp m H d v
  | .oL n rs, v => ∃ a vs, v = .ref a ∧ H a = some (.lst vs) ∧ Rps m H rs.reverse vs ∧ n = rs.length
  | .oD ks, v => ∃ a ws, v = .ref a ∧ H a = some (.dK ws) ∧ Rpk m H ks ws
  | _, _ => False
def T.own : T → Bool
  | .oL _ _ => true
  | .oD _ => true
  | _ => false
def RpO (m : List Addr) (H : Hp) : Ob → Addr → Prop
  | .lst xs, a => ∃ vs, H a = some (.lst vs) ∧ Rps m H xs vs
  | .ins _ _, _ => False
  | .tab k, a => ∃ q, TB.tabs[k]? = some (a, q) ∧ LamX.TabS H a q
/-- the shared objects stand at the addresses m -/
structure RpH (m : List Addr) (h : RH) (H : Hp) : Prop where
  nd : m.Nodup
  len : m.length = h.length
  at_ : ∀ (n : Nat) ob a, h[n]? = some ob → m[n]? = some a → RpO m H ob a
/-- a table stands where lists and new things come and go -/
theorem tab_stay {H H' : Hp} {a : Addr} {q : Str} (t : LamX.TabS H a q) (k : ∀ b o, (∀ xs, o ≠ .lst xs) → H b = some o → H' b = some o) : LamX.TabS H' a q := by
  obtain ⟨ps, h1, h2, h3⟩ := t
  refine ⟨ps, k _ _ (fun xs z => nomatch z) h1, h2, fun pos cv hc => ?_⟩
  obtain ⟨c, e1, e2⟩ := h3 pos cv hc
  exact ⟨c, e1, k _ _ (fun xs z => by have z' : HO.ext _ = HO.lst xs := z; cases z') e2⟩
/-- what several know: neither a tuple nor a locked thing -/
def Sh (o : HO) : Prop := (∀ xs, o ≠ .tup xs) ∧ ∀ od u, o ≠ .frz od u
theorem RpH.mut {m : List Addr} {h : RH} {H : Hp} (r : RpH m h H) {a : Addr} (ha : a ∈ m) : ∃ o, H a = some o ∧ Sh o := by
  obtain ⟨n, hn, e⟩ := List.getElem_of_mem ha
  have hb : n < h.length := by rw [← r.len]; exact hn
  have q := r.at_ n h[n] a (List.getElem?_eq_getElem hb) (by rw [List.getElem?_eq_getElem hn, e])
  cases ho : h[n] with
  | lst xs => rw [ho] at q; obtain ⟨vs, q, _⟩ := q; exact ⟨.lst vs, q, fun _ z => HO.noConfusion z, fun _ _ z => HO.noConfusion z⟩
  | ins c fs => rw [ho] at q; exact q.elim
  | tab k => rw [ho] at q; obtain ⟨_, _, ps, q, _⟩ := q; exact ⟨.tbl ps, q, fun _ z => HO.noConfusion z, fun _ _ z => HO.noConfusion z⟩
/-- the state of a frame -/
structure SR (m : List Addr) (s : Sl) (h : RH) (σ : L2.St) (H : Hp) : Prop where
  len : s.length = σ.length
  at_ : ∀ (i : Nat) t, s[i]? = some t → t ≠ .un → ∃ v, σ[i]? = some (some v) ∧ RpT m H t v
  apart : ∀ (i j : Nat) t u a, s[i]? = some t → s[j]? = some u → t.own = true → u.own = true → σ[i]? = some (some (.ref a)) → σ[j]? = some (some (.ref a)) → i = j
  off : ∀ (i : Nat) t a, s[i]? = some t → t.own = true → σ[i]? = some (some (.ref a)) → a ∉ m
  hp : RpH m h H
/-- behind an expression: only the shared objects changed, new ones came -/
structure Ex (m : List Addr) (H : Hp) (m' : List Addr) (H' : Hp) : Prop where
  pre : ∃ ms, m' = m ++ ms ∧ ∀ a ∈ ms, H a = none
  keep : ∀ a o, H a = some o → a ∉ m → H' a = some o
theorem Ex.refl {m : List Addr} {H : Hp} : Ex m H m H := ⟨⟨[], by simp, by simp⟩, fun _ _ h _ => h⟩
theorem Ex.trans {m m1 m2 : List Addr} {H H1 H2 : Hp} (p : Ex m H m1 H1) (q : Ex m1 H1 m2 H2) (hk : ∀ a, H1 a = none → a ∉ m → H a = none) (hm : ∀ a ∈ m, ∃ o, H1 a = some o) : Ex m H m2 H2 := by
  obtain ⟨⟨ms, e1, n1⟩, k1⟩ := p
  obtain ⟨⟨ns, e2, n2⟩, k2⟩ := q
  refine ⟨⟨ms ++ ns, by rw [e2, e1, List.append_assoc], fun a ha => ?_⟩, fun a o h hn => ?_⟩
  · rcases List.mem_append.mp ha with z | z
    · exact n1 a z
    · refine hk a (n2 a z) fun y => ?_
      obtain ⟨o, ho⟩ := hm a y
      rw [n2 a z] at ho
      cases ho
  · refine k2 a o (k1 a o h hn) fun z => ?_
    rw [e1] at z
    rcases List.mem_append.mp z with y | y
    · exact hn y
    · rw [n1 a y] at h; cases h
theorem Ex.per {m m' : List Addr} {H H' : Hp} {h : RH} (r : RpH m h H) (x : Ex m H m' H') : Per m H m' H' := by
  refine ⟨fun a xs e => x.keep a _ e fun z => ?_, fun a o u e => x.keep a _ e fun z => ?_, fun n a e => ?_⟩
  · obtain ⟨w, q, t, _⟩ := r.mut z; rw [q] at e; exact absurd (Option.some.inj e) (t _)
  · obtain ⟨w, q, _, t⟩ := r.mut z; rw [q] at e; exact absurd (Option.some.inj e) (t _ _)
  · obtain ⟨ms, em, _⟩ := x.pre
    rw [em, List.getElem?_append_left (List.getElem?_eq_some_iff.mp e).1]; exact e
/-- .. in a row -/
theorem Ex.comp {m m1 m2 : List Addr} {H H1 H2 : Hp} {h1 : RH} (p : Ex m H m1 H1) (r1 : RpH m1 h1 H1) (q : Ex m1 H1 m2 H2) : Ex m H m2 H2 := by
  refine p.trans q (fun a n hn => ?_) fun a ha => ?_
  · cases e : H a with
    | none => rfl
    | some o => rw [p.keep a o e hn] at n; cases n
  · obtain ⟨ms, em, _⟩ := p.pre
    obtain ⟨w, e, _⟩ := r1.mut (a := a) (by rw [em]; exact List.mem_append_left _ ha)
    exact ⟨_, e⟩
/-- a temporary stays behind an expression; an own one is none of the slots' -/
theorem RpT.stay {m m' : List Addr} {H H' : Hp} {h : RH} {t : T} {v : V} (r : RpH m h H) (x : Ex m H m' H') (q : RpT m H t v) (hn : ∀ a, t.own = true → v = .ref a → a ∉ m) : RpT m' H' t v := by
  have p := x.per r
  cases t with
  | fz d => exact Rp.per p d v q
  | oL n rs =>
    obtain ⟨a, vs, e, h1, h2, h3⟩ := q
    exact ⟨a, vs, e, x.keep a _ h1 (hn a rfl e), Rps.per p _ _ h2, h3⟩
  | oD ks =>
    obtain ⟨a, ws, e, h1, h2⟩ := q
    exact ⟨a, ws, e, x.keep a _ h1 (hn a rfl e), Rpk.per p _ _ h2⟩
  | _ => exact q.elim
/-- the slots stand behind an expression -/
theorem SR.stay {m m' : List Addr} {s : Sl} {h h' : RH} {σ : L2.St} {H H' : Hp} (r : SR m s h σ H) (x : Ex m H m' H') (r' : RpH m' h' H') : SR m' s h' σ H' := by
  refine ⟨r.len, fun i t e ht => ?_, r.apart, fun i t a e ht ev => ?_, r'⟩
  · obtain ⟨v, ev, q⟩ := r.at_ i t e ht
    exact ⟨v, ev, q.stay r.hp x fun a ho hv => r.off i t a e ho (by rw [ev, hv])⟩
  · have hn := r.off i t a e ht ev
    obtain ⟨ms, em, nm⟩ := x.pre
    rw [em]
    intro z
    rcases List.mem_append.mp z with y | y
    · exact hn y
    · have ht2 : t ≠ .un := by intro z; subst z; cases ht
      obtain ⟨v, ev2, q⟩ := r.at_ i t e ht2
      rw [ev] at ev2
      have e3 : v = .ref a := (Option.some.inj (Option.some.inj ev2)).symm
      subst e3
      have hH := nm a y
      cases t with
      | oL n rs => obtain ⟨b, vs, e4, h1, _⟩ := q; cases e4; rw [hH] at h1; cases h1
      | oD ks => obtain ⟨b, ws, e4, h1, _⟩ := q; cases e4; rw [hH] at h1; cases h1
      | _ => cases ht
/-- a heap that has one object more -/
theorem ex_new {m : List Addr} {H : Hp} {p : Addr} {o : HO} (hp : H p = none) : Ex m H m (upd H p o) :=
  ⟨⟨[], by simp, by simp⟩, fun a u e _ => by rw [upd_ne (ne_of_none e hp)]; exact e⟩
theorem RpH.new {m : List Addr} {h : RH} {H : Hp} {p : Addr} {o : HO} (r : RpH m h H) (hp : H p = none) : RpH m h (upd H p o) := by
  refine ⟨r.nd, r.len, fun n ob a e1 e2 => ?_⟩
  have q := r.at_ n ob a e1 e2
  have pr := (ex_new (o := o) hp : Ex m H m _).per r
  cases ob with
  | lst xs =>
    obtain ⟨vs, e, q⟩ := q
    exact ⟨vs, by rw [upd_ne (ne_of_none e hp)]; exact e, Rps.per pr _ _ q⟩
  | ins c fs => exact q
  | tab k => obtain ⟨x, e, q⟩ := q; exact ⟨x, e, tab_stay q fun b u _ eb => by rw [upd_ne (ne_of_none eb hp)]; exact eb⟩
end Ma
set_option maxHeartbeats 4000000
/-! The machine's expressions over the hand layer. -/
namespace Ma
open PySem PySem.Spec L2
variable [TB]

/-- where the classes of the errors stand, their fields -/
structure GC where
  cl : Nat → Addr
  n : Nat
  fs : Nat → List Str
/-- an exception with its fields -/
def RpX (G : GC) (m : List Addr) (H : Hp) (c : Nat) (xs : List D) (cls : Value) (d : Option Addr) : Prop :=
  (cls = .ref (G.cl c) ∧ c < G.n) ∧ ∃ dd fs, d = some dd ∧ H dd = some (.xd fs) ∧ ∀ (i : Nat) n x, (G.fs c)[i]? = some n → xs[i]? = some x → ∃ v, fs.lookup n = some v ∧ Rp m H x v
/-- what must hold behind an expression (fr: its own list is a new one) -/
def Pst (G : GC) (fr : Bool) (W : WX) (m : List Addr) (σ : L2.St) (H : Hp) (Q : VK) : RE → Prop
  | .ok t h' => ∀ m' v H', Ex m H m' H' → RpH m' h' H' → RpT m' H' t v → (t.own = true → ∀ a, v = .ref a → a ∉ m' ∧ (fr = true → H a = none)) → Q v H'
  | .exc c xs h' => ∀ m' H' cls d, Ex m H m' H' → RpH m' h' H' → RpX G m' H' c xs cls d → W cls d σ H'
  | .bad _ => False
section
variable (G : GC) (Φ : Cal) (x : List D) (W : WX)
/-- an expression's reading -/
def te (e : E) : TE := fun σ H Q => ∃ m s h, SR m s h σ H ∧ Pst G true W m σ H Q (ev Φ x e s h)
/-- .. that is read alone -/
def tr (e : E) : TE := fun σ H Q => ∃ m s h, SR m s h σ H ∧ Pst G false W m σ H Q (rdv e s h (ev Φ x e s h))
/-- .. as a test -/
def tt (e : E) : TT := fun σ H Q => ∃ m s h, SR m s h σ H ∧ Pst G true W m σ H (fun v H' => ∃ b, v = .bl b ∧ Q b H') (ev Φ x e s h)
/-- a row of expressions, each one kept -/
def ta (e : E) : TA := fun σ H Q => ∃ m s h, SR m s h σ H ∧ match ev Φ x e s h with
  | .ok (.fz (.tup ds)) h' => ∀ m' vs H', Ex m H m' H' → RpH m' h' H' → Rps m' H' ds vs → Q vs H'
  | .ok _ _ => False
  | .exc c xs h' => ∀ m' H' cls d, Ex m H m' H' → RpH m' h' H' → RpX G m' H' c xs cls d → W cls d σ H'
  | .bad _ => False
end
theorem PEimp {X : Cx} {e : Expr} {t t' : TE} (h : PE X e t) (k : ∀ σ H Q, t' σ H Q → t σ H Q) : PE X e t' := ⟨fun pins s σ H Q I q => h.run pins s σ H Q I (k σ H Q q)⟩

section
variable {G : GC} {Φ : Cal} {x : List D} {W : WX} {X : Cx} {fr : Bool} {m m' : List Addr} {σ : L2.St} {H H' : Hp} {Q Q' : VK} {r : RE}
theorem Pst.mono (h : Pst G fr W m σ H Q r) (k : ∀ v H', Q v H' → Q' v H') : Pst G fr W m σ H Q' r := by
  cases r with
  | ok t h' => exact fun m' v H' a b c d => k _ _ (h m' v H' a b c d)
  | exc c xs h' => exact h
  | bad w => exact h
theorem Pst.weak (h : Pst G false W m σ H Q r) : Pst G true W m σ H Q r := by
  cases r with
  | ok t h' => exact fun m' v H' a b c d => h m' v H' a b c fun o a e => ⟨(d o a e).1, fun z => nomatch z⟩
  | exc c xs h' => exact h
  | bad w => exact h
/-- plain data, nothing changed -/
theorem Pst.fz {d : D} {h : RH} {v : V} (p : Pst G fr W m σ H Q (.ok (.fz d) h)) (hh : RpH m h H) (r : Rp m H d v) : Q v H :=
  p m v H Ex.refl hh r fun o => nomatch o

theorem se_int {i : Int} {j pos} : PE X (.Constant (.int i) j pos) (te G Φ x W (.lit (.int i))) := PEimp pe_int fun σ H Q ⟨m, s, h, r, p⟩ => Pst.fz (d := .int i) p r.hp rfl
theorem se_bl {b j pos} : PE X (.Constant (.bool b) j pos) (te G Φ x W (.lit (.bl b))) := PEimp pe_bl fun σ H Q ⟨m, s, h, r, p⟩ => Pst.fz (d := .bl b) p r.hp rfl
theorem se_non {j pos} : PE X (.Constant .none j pos) (te G Φ x W (.lit .non)) := PEimp pe_non fun σ H Q ⟨m, s, h, r, p⟩ => Pst.fz (d := .non) p r.hp rfl
theorem se_str {y : Str} {j pos} {l : List Nat} (hy : y.cps.toList = l) : PE X (.Constant (.str y) j pos) (te G Φ x W (.lit (.str l))) := PEimp pe_str fun σ H Q ⟨m, s, h, r, p⟩ => Pst.fz (d := .str l) p r.hp ⟨y, rfl, hy⟩

theorem getT_get : ∀ {s : Sl} {i : Nat} {t : T}, getT s i = t → t ≠ .un → s[i]? = some t
  | [], _, _, h, n => absurd h.symm n
  | a :: r, 0, _, h, _ => by subst h; rfl
  | a :: r, i + 1, _, h, n => getT_get (s := r) (i := i) h n
theorem SR.slot {s : Sl} {h : RH} {i : Nat} {t : T} (r : SR m s h σ H) (e : getT s i = t) (n : t ≠ .un) : ∃ v, σ[i]? = some (some v) ∧ RpT m H t v ∧ (t.own = true → ∀ a, v = .ref a → a ∉ m) := by
  obtain ⟨v, ev, q⟩ := r.at_ i t (getT_get e n) n
  exact ⟨v, ev, q, fun o a z => r.off i t a (getT_get e n) o (by rw [ev, z])⟩
theorem se_var {i : Nat} {y : Str} {pos : Pos} (hN : X.N[i]? = some y) (hv : Vis X.env.scope y) (hd : (y == ("__debug__" : Str)) = false) (hcd : (y == ("__classdict__" : Str)) = false) : PE X (.Name y pos) (te G Φ x W (.var i)) := by
  refine PEimp (pe_var hN hv hd hcd) fun σ H Q ⟨m, s, h, r, p⟩ => ?_
  unfold ev at p
  cases e : getT s i with
  | fz d =>
    rw [e] at p
    obtain ⟨v, ev, q, _⟩ := r.slot e (by simp)
    exact ⟨v, ev, Pst.fz p r.hp q⟩
  | _ => rw [e] at p; exact p.elim
theorem sr_vr {i : Nat} {y : Str} {pos : Pos} (hN : X.N[i]? = some y) (hv : Vis X.env.scope y) (hd : (y == ("__debug__" : Str)) = false) (hcd : (y == ("__classdict__" : Str)) = false) : PE X (.Name y pos) (tr G Φ x W (.vr i)) := by
  refine PEimp (pe_var hN hv hd hcd) fun σ H Q ⟨m, s, h, r, p⟩ => ?_
  have key : ∀ t, getT s i = t → t ≠ .un → Pst G false W m σ H Q (.ok t h) → ∃ v, σ[i]? = some (some v) ∧ Q v H := fun t e n p => by
    obtain ⟨v, ev, q, o⟩ := r.slot e n
    exact ⟨v, ev, p m v H Ex.refl r.hp q fun z a w => ⟨o z a w, fun z => nomatch z⟩⟩
  unfold rdv at p
  dsimp only at p
  cases e : getT s i <;> rw [e] at p
  · exact p.elim
  all_goals exact key _ e (by simp) p
/-- not a slot that is read: as it is -/
def isVr : E → Bool
  | .vr _ => true
  | _ => false
theorem rdv_eq {a : E} {s : Sl} {h : RH} {r : RE} (n : isVr a = false) : rdv a s h r = r := by
  cases a <;> first | rfl | cases n
theorem sr_of {e : Expr} {a : E} (n : isVr a = false) (h : PE X e (te G Φ x W a)) : PE X e (tr G Φ x W a) :=
  PEimp h fun σ H Q ⟨m, s, hh, r, p⟩ => ⟨m, s, hh, r, by rw [rdv_eq n] at p; exact p.weak⟩

/-! ### in a row -/
/-- what was wished for at the start, wished for from a later state -/
theorem Pst.from {m2 : List Addr} {H2 : Hp} {h2 : RH} (p : Pst G fr W m σ H Q r) (y : Ex m H m2 H2) (r2 : RpH m2 h2 H2) : Pst G fr W m2 σ H2 Q r := by
  cases r with
  | bad w => exact p
  | exc c xs h' => exact fun m' H' cls d z => p m' H' cls d (y.comp r2 z)
  | ok t h' =>
    intro m' v H' z rh rt own
    refine p m' v H' (y.comp r2 z) rh rt fun o a e => ⟨(own o a e).1, fun f => ?_⟩
    have n2 := (own o a e).2 f
    cases q : H a with
    | none => rfl
    | some u =>
      have hn : a ∉ m := fun w => by
        obtain ⟨ms, em, _⟩ := y.pre
        obtain ⟨ns, en, _⟩ := z.pre
        exact (own o a e).1 (by rw [en, em]; exact List.mem_append_left _ (List.mem_append_left _ w))
      rw [y.keep a u q hn] at n2
      cases n2
/-- where an expression has gone through -/
def Mid (m : List Addr) (s : Sl) (σ : L2.St) (H : Hp) (f : List Addr → T → RH → V → Hp → Prop) (v : V) (H1 : Hp) : Prop :=
  ∃ m1 t h1, SR m1 s h1 σ H1 ∧ Ex m H m1 H1 ∧ RpT m1 H1 t v ∧ (t.own = true → ∀ a, v = .ref a → a ∉ m1) ∧ f m1 t h1 v H1
theorem Pst.bind {f0 fr : Bool} {s : Sl} {h : RH} {F : T → RH → RE} (q : SR m s h σ H) (p : Pst G fr W m σ H Q (r.bind F)) :
    Pst G f0 W m σ H (Mid m s σ H fun m1 t h1 _ H1 => Pst G fr W m1 σ H1 Q (F t h1)) r := by
  cases r with
  | bad w => exact p
  | exc c xs h' => exact p
  | ok t h' =>
    intro m' v H' z rh rt own
    exact ⟨m', t, h', q.stay z rh, z, rt, fun o a e => (own o a e).1, Pst.from p z rh⟩
/-- a temporary stands behind the next expression -/
theorem RpT.next {m1 m2 : List Addr} {H1 H2 : Hp} {h1 : RH} {t : T} {v : V} (r1 : RpH m1 h1 H1) (y : Ex m1 H1 m2 H2) (q : RpT m1 H1 t v) (n : t.own = true → ∀ a, v = .ref a → a ∉ m1) :
    RpT m2 H2 t v ∧ (t.own = true → ∀ a, v = .ref a → a ∉ m2) := by
  refine ⟨q.stay r1 y fun a o e => n o a e, fun o a e z => ?_⟩
  obtain ⟨ms, em, nm⟩ := y.pre
  rw [em] at z
  rcases List.mem_append.mp z with w | w
  · exact n o a e w
  · have hn := nm a w
    subst e
    cases t with
    | oL k rs => obtain ⟨b, vs, e4, e5, _⟩ := q; cases e4; rw [hn] at e5; cases e5
    | oD ks => obtain ⟨b, ws, e4, e5, _⟩ := q; cases e4; rw [hn] at e5; cases e5
    | _ => cases o
/-- how data are read at a value: a list that is own, or locked -/
def RpR (m : List Addr) (H : Hp) : D → V → Prop
  | .lst ds, v => ∃ a vs, v = .ref a ∧ Rd H a (.lst vs) ∧ Rps m H ds vs
  | .dct ks, v => ∃ a ws, v = .ref a ∧ Rd H a (.dK ws) ∧ Rpk m H ks ws
  | .non, v => v = .non
  | .bl b, v => v = .bl b
  | .int i, v => v = .int i
  | d, v => Rp m H d v
theorem RpT.rd {t : T} {v : V} (q : RpT m H t v) : RpR m H t.d v := by
  cases t with
  | fz d =>
    cases d with
    | lst ds => obtain ⟨a, o, vs, e, h, r⟩ := q; exact ⟨a, vs, e, .inr ⟨o, h⟩, r⟩
    | dct ks => obtain ⟨a, o, vs, e, h, r⟩ := q; exact ⟨a, vs, e, .inr ⟨o, h⟩, r⟩
    | _ => exact q
  | oL n rs => obtain ⟨a, vs, e, h, r, _⟩ := q; exact ⟨a, vs, e, .inl h, r⟩
  | oD ks => obtain ⟨a, ws, e, h, r⟩ := q; exact ⟨a, ws, e, .inl h, r⟩
  | _ => exact q.elim

/-! ### operators -/
/-- what a result must meet: it stands, and an own one is new -/
def PostT (m : List Addr) (h : RH) (H : Hp) (t : T) (Q : VK) : Prop :=
  ∀ w H', Ex m H m H' → RpH m h H' → RpT m H' t w → (t.own = true → ∀ a, w = .ref a → a ∉ m ∧ H a = none) → Q w H'
/-- an operation on values does what the machine's does on data -/
def OpM (X : Cx) (f : Value → Value → Sem Value) (F : D → D → Option T) : Prop :=
  OpR X f fun u v H Q => ∃ (m : List Addr) (h : RH) (a b : D) (t : T), RpH m h H ∧ RpR m H a u ∧ RpR m H b v ∧ F a b = some t ∧ PostT m h H t Q
theorem Pst.post {t : T} {h : RH} (p : Pst G fr W m σ H Q (.ok t h)) : PostT m h H t Q :=
  fun w H' y r2 rt own => p m w H' y r2 rt fun o a e => ⟨(own o a e).1, fun _ => (own o a e).2⟩
theorem PostT.fz {d : D} {h : RH} {v : V} (p : PostT m h H (.fz d) Q) (hh : RpH m h H) (r : Rp m H d v) : Q v H :=
  p v H Ex.refl hh r fun o => nomatch o
theorem RpT.mk {xs : List D} {a : Addr} {vs : List V} (e : H a = some (.lst vs)) (r : Rps m H xs vs) : RpT m H (mkL xs) (.ref a) :=
  ⟨a, vs, rfl, e, by simpa using r, by simp⟩
theorem RpH.notin {h : RH} (hh : RpH m h H) {a : Addr} (n : H a = none) : a ∉ m := fun z => by
  obtain ⟨w, e, _⟩ := hh.mut z; rw [n] at e; cases e
/-- a new list -/
theorem PostT.lst {xs : List D} {h : RH} {a : Addr} {vs : List V} (p : PostT m h H (mkL xs) Q) (hh : RpH m h H) (n : H a = none) (r : Rps m H xs vs) : Q (.ref a) (upd H a (.lst vs)) :=
  p _ _ (ex_new n) (hh.new n) (RpT.mk upd_same (Rps.per ((ex_new n).per hh) _ _ r)) fun _ b e => by cases e; exact ⟨hh.notin n, n⟩
/-- a new tuple -/
theorem PostT.tup {xs : List D} {h : RH} {a : Addr} {vs : List V} (p : PostT m h H (.fz (.tup xs)) Q) (hh : RpH m h H) (n : H a = none) (r : Rps m H xs vs) : Q (.ref a) (upd H a (.tup vs)) :=
  p _ _ (ex_new n) (hh.new n) ⟨a, vs, rfl, upd_same, Rps.per ((ex_new n).per hh) _ _ r⟩ fun o => nomatch o
theorem optE_ok {o : Option T} {h : RH} (p : Pst G fr W m σ H Q (optE o h)) : ∃ t, o = some t ∧ PostT m h H t Q := by
  cases o with
  | none => exact p.elim
  | some t => exact ⟨t, rfl, p.post⟩
theorem se_bin2 {py1 py2 : Expr} {a b : E} {f : Value → Value → Sem Value} {F : D → D → Option T} {e : E} {py : Expr} (ho : OpM X f F) (ha : PE X py1 (tr G Φ x W a)) (hb : PE X py2 (tr G Φ x W b))
    (hpy : ∀ r ta tb, OpR X f r → PE X py1 ta → PE X py2 tb → PE X py (tOp r ta tb))
    (he : ∀ s h, ev Φ x e s h = (rdv a s h (ev Φ x a s h)).bind fun t h => (rdv b s h (ev Φ x b s h)).bind fun u h => optE (F t.d u.d) h) : PE X py (te G Φ x W e) := by
  refine PEimp (hpy _ _ _ ho ha hb) fun σ H Q ⟨m, s, h, r, p⟩ => ?_
  rw [he] at p
  refine ⟨m, s, h, r, Pst.mono (Pst.bind r p) fun u H1 ⟨m1, t, h1, r1, y1, q1, o1, p1⟩ => ?_⟩
  refine ⟨m1, s, h1, r1, Pst.mono (Pst.bind r1 p1) fun v H2 ⟨m2, t2, h2, r2, y2, q2, o2, p2⟩ => ?_⟩
  obtain ⟨t3, e3, p3⟩ := optE_ok p2
  exact ⟨m2, h2, t.d, t2.d, t3, r2.hp, (q1.next r1.hp y2 o1).1.rd, q2.rd, e3, p3⟩
end
end Ma
set_option maxHeartbeats 4000000
/-! Data of the machine as the library's data: equality. -/
namespace Ma
open PySem PySem.Spec L2
variable [TB]

theorem str_eta {y : Str} {s : List Nat} (h : y.cps.toList = s) : y = ⟨s.toArray⟩ := by
  subst h
  cases y
  simp
mutual
theorem Rp.dp {K : PySem.W.Frag} {m : List Addr} {H : Hp} : ∀ (d : D) (v : V) (n : Nat), flatN n d = true → Rp m H d v → Dp K H v (pyD d)
  | .non, _, _, _, h => by rw [show _ = V.non from h, pyD]; exact .non
  | .bl b, _, _, _, h => by rw [show _ = V.bl b from h, pyD]; exact .bl b
  | .int i, _, _, _, h => by rw [show _ = V.int i from h, pyD]; exact .int i
  | .str s, _, _, _, ⟨y, e, q⟩ => by rw [e, pyD, ← str_eta q]; exact .str y
  | .tup ds, _, 0, f, _ => by simp [flatN] at f
  | .tup ds, _, n + 1, f, ⟨a, vs, e, h, r⟩ => by
    rw [e, pyD]
    exact .tup (.inl (.inl h)) (Rps.dp ds vs n (by simpa [flatN] using f) r)
  | .lst ds, _, 0, f, _ => by simp [flatN] at f
  | .lst ds, _, n + 1, f, ⟨a, o, vs, e, h, r⟩ => by
    rw [e, pyD]
    exact .lst (.inl (.inr ⟨o, h⟩)) (Rps.dp ds vs n (by simpa [flatN] using f) r)
  | .dct _, _, n, f, _ => by cases n <;> simp [flatN] at f
  | .kst _, _, n, f, _ => by cases n <;> simp [flatN] at f
  | .ref _, _, n, f, _ => by cases n <;> simp [flatN] at f
  | .clo _ _, _, n, f, _ => by cases n <;> simp [flatN] at f
theorem Rps.dp {K : PySem.W.Frag} {m : List Addr} {H : Hp} : ∀ (ds : List D) (vs : List V) (n : Nat), flatsN n ds = true → Rps m H ds vs → DpAll K H vs (pyDs ds)
  | [], _, _, _, h => by rw [show _ = [] from h, pyDs]; exact .nil
  | d :: ds, _, n, f, ⟨v, r, e, h, q⟩ => by
    rw [e, pyDs]
    rw [flatsN, Bool.and_eq_true] at f
    exact .cons (Rp.dp d v n f.1 h) (Rps.dp ds r n f.2 q)
end
theorem RpR.dp {K : PySem.W.Frag} {m : List Addr} {H : Hp} {d : D} {v : V} {n : Nat} (f : flatN n d = true) (h : RpR m H d v) : Dp K H v (pyD d) := by
  cases d with
  | lst ds =>
    obtain ⟨a, vs, e, h, r⟩ := h
    cases n with
    | zero => simp [flatN] at f
    | succ n =>
      rw [e, pyD]
      exact .lst (.inl h) (Rps.dp ds vs n (by simpa [flatN] using f) r)
  | dct ks => cases n <;> simp [flatN] at f
  | non => exact Rp.dp (m := m) _ v n f h
  | bl b => exact Rp.dp (m := m) _ v n f h
  | int i => exact Rp.dp (m := m) _ v n f h
  | str s => exact Rp.dp (m := m) _ v n f h
  | tup s => exact Rp.dp (m := m) _ v n f h
  | kst s => exact Rp.dp (m := m) _ v n f h
  | ref s => exact Rp.dp (m := m) _ v n f h
  | clo s e => exact Rp.dp (m := m) _ v n f h
mutual
theorem can_flat : ∀ (d : D) (n : Nat), flatN n d = true → (pyD d).canLay0 = true ∧ (pyD d).depth ≤ n
  | .non, n, _ => by simp [pyD, PyData.canLay0, PyData.depth]
  | .bl _, n, _ => by simp [pyD, PyData.canLay0, PyData.depth]
  | .int _, n, _ => by simp [pyD, PyData.canLay0, PyData.depth]
  | .str s, n, f => by
    have f' : (s.all fun c => Nat.blt c 1114112) = true := by cases n <;> simpa [flatN] using f
    refine ⟨?_, by simp [pyD, PyData.depth]⟩
    rw [pyD, PyData.canLay0]
    show Array.all s.toArray (· < 0x110000) = true
    rw [List.all_toArray, List.all_eq_true]
    intro c hc
    have := List.all_eq_true.mp f' c hc
    simpa [Nat.blt_eq] using this
  | .tup ds, 0, f => by simp [flatN] at f
  | .tup ds, n + 1, f => by
    have := can_flats ds n (by simpa [flatN] using f)
    simp [pyD, PyData.canLay0, PyData.depth, this.1]; omega
  | .lst ds, 0, f => by simp [flatN] at f
  | .lst ds, n + 1, f => by
    have := can_flats ds n (by simpa [flatN] using f)
    simp [pyD, PyData.canLay0, PyData.depth, this.1]; omega
  | .dct _, n, f => by cases n <;> simp [flatN] at f
  | .kst _, n, f => by cases n <;> simp [flatN] at f
  | .ref _, n, f => by cases n <;> simp [flatN] at f
  | .clo _ _, n, f => by cases n <;> simp [flatN] at f
theorem can_flats : ∀ (ds : List D) (n : Nat), flatsN n ds = true → PyData.canLayAll0 (pyDs ds) = true ∧ PyData.depthAll (pyDs ds) ≤ n
  | [], n, _ => by simp [pyDs, PyData.canLayAll0, PyData.depthAll]
  | d :: ds, n, f => by
    rw [flatsN, Bool.and_eq_true] at f
    have h1 := can_flat d n f.1
    have h2 := can_flats ds n f.2
    simp [pyDs, PyData.canLayAll0, PyData.depthAll, h1.1, h2.1]; omega
end
theorem shaped_flat {d : D} (f : flat d = true) : SeqAt.shaped (pyD d) = true := by
  have h := can_flat d 60 f
  unfold SeqAt.shaped
  rw [Bool.and_eq_true, decide_eq_true_eq]
  exact ⟨h.1, by omega⟩
theorem str_beq (a b : List Nat) : ((⟨a.toArray⟩ : Str) == ⟨b.toArray⟩) = (a == b) := by
  rw [Bool.eq_iff_iff]
  simp
mutual
theorem deq_eqv : ∀ (a b : D) (n k : Nat), flatN n a = true → flatN k b = true → PyData.eqv (pyD a) (pyD b) = deq a b
  | .non, b, n, k, fa, fb => by cases b <;> simp_all [pyD, PyData.eqv, deq, flatN]
  | .bl x, b, n, k, fa, fb => by cases b <;> simp_all [pyD, PyData.eqv, deq, flatN]
  | .int x, b, n, k, fa, fb => by cases b <;> simp_all [pyD, PyData.eqv, deq, flatN]
  | .str x, b, n, k, fa, fb => by
    cases b with
    | str y => rw [pyD, pyD, PyData.eqv, deq]; exact str_beq x y
    | _ => cases n <;> cases k <;> simp_all [pyD, PyData.eqv, deq, flatN]
  | .tup x, b, n, k, fa, fb => by
    cases b with
    | tup y =>
      cases n with
      | zero => simp [flatN] at fa
      | succ n =>
        cases k with
        | zero => simp [flatN] at fb
        | succ k =>
          rw [pyD, pyD, PyData.eqv, deq]
          exact deqs_eqv x y n k (by simpa [flatN] using fa) (by simpa [flatN] using fb)
    | _ => cases k <;> simp_all [pyD, PyData.eqv, deq, flatN]
  | .lst x, b, n, k, fa, fb => by
    cases b with
    | lst y =>
      cases n with
      | zero => simp [flatN] at fa
      | succ n =>
        cases k with
        | zero => simp [flatN] at fb
        | succ k =>
          rw [pyD, pyD, PyData.eqv, deq]
          exact deqs_eqv x y n k (by simpa [flatN] using fa) (by simpa [flatN] using fb)
    | _ => cases k <;> simp_all [pyD, PyData.eqv, deq, flatN]
  | .dct _, b, n, k, fa, fb => by cases n <;> simp [flatN] at fa
  | .kst _, b, n, k, fa, fb => by cases n <;> simp [flatN] at fa
  | .ref _, b, n, k, fa, fb => by cases n <;> simp [flatN] at fa
  | .clo _ _, b, n, k, fa, fb => by cases n <;> simp [flatN] at fa
theorem deqs_eqv : ∀ (a b : List D) (n k : Nat), flatsN n a = true → flatsN k b = true → PyData.eqvAll (pyDs a) (pyDs b) = deqs a b
  | [], [], _, _, _, _ => by simp [pyDs, PyData.eqvAll, deqs]
  | [], _ :: _, _, _, _, _ => by simp [pyDs, PyData.eqvAll, deqs]
  | _ :: _, [], _, _, _, _ => by simp [pyDs, PyData.eqvAll, deqs]
  | a :: r, b :: q, n, k, fa, fb => by
    rw [flatsN, Bool.and_eq_true] at fa fb
    rw [pyDs, pyDs, PyData.eqvAll, deqs, deq_eqv a b n k fa.1 fb.1, deqs_eqv r q n k fa.2 fb.2]
end
end Ma
set_option maxHeartbeats 4000000
/-! Data of one kind: less. -/
namespace Ma
open PySem PySem.Spec L2
variable [TB]
mutual
theorem alk_py : ∀ (a b : D) (n k : Nat), flatN n a = true → flatN k b = true → PySem.W.alike (pyD a) (pyD b) = alk a b
  | .non, b, n, k, fa, fb => by cases b <;> simp_all [pyD, PySem.W.alike, alk, flatN]
  | .bl _, b, n, k, fa, fb => by cases b <;> simp_all [pyD, PySem.W.alike, alk, flatN]
  | .int _, b, n, k, fa, fb => by cases b <;> simp_all [pyD, PySem.W.alike, alk, flatN]
  | .str _, b, n, k, fa, fb => by cases b <;> simp_all [pyD, PySem.W.alike, alk, flatN]
  | .tup x, b, n, k, fa, fb => by
    cases b with
    | tup y =>
      cases n with
      | zero => simp [flatN] at fa
      | succ n => cases k with
        | zero => simp [flatN] at fb
        | succ k =>
          rw [pyD, pyD, PySem.W.alike, alk]
          exact alks_py x y n k (by simpa [flatN] using fa) (by simpa [flatN] using fb)
    | _ => cases k <;> simp_all [pyD, PySem.W.alike, alk, flatN]
  | .lst x, b, n, k, fa, fb => by
    cases b with
    | lst y =>
      cases n with
      | zero => simp [flatN] at fa
      | succ n => cases k with
        | zero => simp [flatN] at fb
        | succ k =>
          rw [pyD, pyD, PySem.W.alike, alk]
          exact alks_py x y n k (by simpa [flatN] using fa) (by simpa [flatN] using fb)
    | _ => cases k <;> simp_all [pyD, PySem.W.alike, alk, flatN]
  | .dct _, _, n, _, fa, _ => by cases n <;> simp [flatN] at fa
  | .kst _, _, n, _, fa, _ => by cases n <;> simp [flatN] at fa
  | .ref _, _, n, _, fa, _ => by cases n <;> simp [flatN] at fa
  | .clo _ _, _, n, _, fa, _ => by cases n <;> simp [flatN] at fa
theorem alks_py : ∀ (a b : List D) (n k : Nat), flatsN n a = true → flatsN k b = true → PySem.W.alikeAll (pyDs a) (pyDs b) = alks a b
  | [], b, _, _, _, _ => by cases b <;> simp [pyDs, PySem.W.alikeAll, alks]
  | _ :: _, [], _, _, _, _ => by simp [pyDs, PySem.W.alikeAll, alks]
  | a :: r, b :: q, n, k, fa, fb => by
    rw [flatsN, Bool.and_eq_true] at fa fb
    rw [pyDs, pyDs, PySem.W.alikeAll, alks, alk_py a b n k fa.1 fb.1, alks_py r q n k fa.2 fb.2]
end
mutual
theorem dlt_py : ∀ (a b : D) (n k : Nat), flatN n a = true → flatN k b = true → alk a b = true → PySem.W.dataLt (pyD a) (pyD b) = dltB a b
  | .non, b, n, k, fa, fb, h => by
    cases b with
    | non => exact PyProof.Rows.lex_irrefl _
    | _ => cases h
  | .bl x, b, n, k, fa, fb, h => by
    cases b with
    | bl y => rw [pyD, pyD, PySem.W.dataLt_bool, dltB]; cases x <;> cases y <;> decide
    | _ => cases h
  | .int x, b, n, k, fa, fb, h => by
    cases b with
    | int y => rw [pyD, pyD, PySem.W.dataLt_int, dltB]
    | _ => cases h
  | .str x, b, n, k, fa, fb, h => by
    cases b with
    | str y => rw [pyD, pyD, PySem.W.dataLt_str, dltB]
    | _ => cases h
  | .tup x, b, n, k, fa, fb, h => by
    cases b with
    | tup y =>
      cases n with
      | zero => simp [flatN] at fa
      | succ n => cases k with
        | zero => simp [flatN] at fb
        | succ k =>
          rw [pyD, pyD, PySem.W.dataLt_tuple, dltB]
          exact dlts_py x y n k (by simpa [flatN] using fa) (by simpa [flatN] using fb) (by simpa [alk] using h)
    | _ => cases h
  | .lst x, b, n, k, fa, fb, h => by
    cases b with
    | lst y =>
      cases n with
      | zero => simp [flatN] at fa
      | succ n => cases k with
        | zero => simp [flatN] at fb
        | succ k =>
          rw [pyD, pyD, PySem.W.dataLt_list, dltB]
          exact dlts_py x y n k (by simpa [flatN] using fa) (by simpa [flatN] using fb) (by simpa [alk] using h)
    | _ => cases h
  | .dct _, _, n, _, fa, _, _ => by cases n <;> simp [flatN] at fa
  | .kst _, _, n, _, fa, _, _ => by cases n <;> simp [flatN] at fa
  | .ref _, _, n, _, fa, _, _ => by cases n <;> simp [flatN] at fa
  | .clo _ _, _, n, _, fa, _, _ => by cases n <;> simp [flatN] at fa
theorem dlts_py : ∀ (a b : List D) (n k : Nat), flatsN n a = true → flatsN k b = true → alks a b = true → PyProof.Rows.lexLt PyProof.Rows.itemOrd (PySem.W.keyToksAll (pyDs a)) (PySem.W.keyToksAll (pyDs b)) = dltBs a b
  | [], [], _, _, _, _, _ => by rw [dltBs]; exact PyProof.Rows.lex_irrefl _
  | [], b :: q, _, _, _, _, _ => by
    rw [pyDs, pyDs, dltBs, PySem.W.toks_all_cons]
    simp [PySem.W.keyToksAll, PyProof.Rows.lexLt, PyProof.Rows.itemLt]
  | a :: r, [], _, _, _, _, _ => by
    rw [pyDs, pyDs, dltBs, PySem.W.toks_all_cons]
    simp [PySem.W.keyToksAll, PyProof.Rows.lexLt, PyProof.Rows.itemLt]
  | a :: r, b :: q, n, k, fa, fb, h => by
    rw [flatsN, Bool.and_eq_true] at fa fb
    rw [alks, Bool.and_eq_true] at h
    have al : PySem.W.alike (pyD a) (pyD b) = true := by rw [alk_py a b n k fa.1 fb.1]; exact h.1
    rw [pyDs, pyDs, dltBs, PySem.W.dataLt_cons al, deq_eqv a b n k fa.1 fb.1, dlts_py r q n k fa.2 fb.2 h.2, dlt_py a b n k fa.1 fb.1 h.1]
end
end Ma
set_option maxHeartbeats 4000000
/-! The operators. -/
namespace Ma
open PySem PySem.Spec L2
variable [TB]
section
variable {X : Cx} {m : List Addr} {H : Hp} {h : RH} {Q : VK}
theorem okN_le {n : Nat} (e : okN n = true) : n ≤ sizeLine := by
  have := Nat.ble_eq.mp e
  rw [sizeLine_eq]; exact this
theorem big_lt {i : Int} (e : big i = true) : -(2 ^ 64) < i ∧ i < 2 ^ 64 := by
  have : i.natAbs < 18446744073709551616 := by simpa [big, Nat.blt_eq] using e
  omega
theorem RpR.lst {x : List D} {v : V} (r : RpR m H (.lst x) v) : ∃ a vs, v = .ref a ∧ Rd H a (.lst vs) ∧ Rps m H x vs := r
theorem RpR.tup {x : List D} {v : V} (r : RpR m H (.tup x) v) : ∃ a vs, v = .ref a ∧ H a = some (.tup vs) ∧ Rps m H x vs := r
theorem str_app (x y : List Nat) : ((⟨x.toArray⟩ : Str) ++ ⟨y.toArray⟩) = ⟨(x ++ y).toArray⟩ := by
  show Str.mk _ = _
  simp
/-- two lists, read alone, make a new one -/
theorem cat_read : OpR X (binaryOp .Add) (fun p q H Q => ∃ i k as bs, p = .ref i ∧ q = .ref k ∧ Rd H i (.lst as) ∧ Rd H k (.lst bs) ∧ as.length + bs.length ≤ sizeLine ∧ ∀ n, H n = none → Q (.ref n) (upd H n (.lst (as ++ bs)))) := by
  rintro pins st σ hp p q up uq Q inv hp' hq' ⟨i, k, as, bs, rfl, rfl, ri, rk, fit, done⟩
  cases hp'
  cases hq'
  have ⟨_, us, _, ru, ou⟩ := ri.ok inv.hok
  have ⟨_, ws, _, rw', ow⟩ := rk.ok inv.hok
  have both := ru.append rw'
  have new := inv.lnew (t' := st.toks) both (by simpa using fit)
  have len : us.length + ws.length ≤ sizeLine := by
    have := both.length
    simp only [List.length_append] at this
    omega
  refine PySem.P.add_list ou ow ?_ (by simpa using len)
  have ends : EP X pins σ Q (.ref st.heap.objs.size) _ := ⟨V.ref st.heap.objs.size, _, new, rfl, done _ inv.fresh⟩
  simpa using ends
theorem om_add : OpM X (binaryOp .Add) (bin .add) := by
  intro pins s σ H u v ru rv Q I hu hv ⟨m, h, a, b, t, rh, ra, rb, e, p⟩
  simp only [bin] at e
  unfold bAdd at e
  split at e
  · cases e
    exact op_add pins s σ H _ _ _ _ Q I hu hv ⟨_, _, ra, rb, p.fz rh rfl⟩
  · rename_i x y
    split at e
    · rename_i hz
      cases e
      obtain ⟨a, vs, rfl, ha, r1⟩ := ra
      obtain ⟨b, ws, rfl, hb, r2⟩ := rb
      have hz := okN_le hz
      rw [← r1.len, ← r2.len] at hz
      refine op_catA pins s σ H _ _ _ _ Q I hu hv ⟨a, b, vs, ws, rfl, rfl, .of ha, .of hb, hz, fun z => ?_, fun z w => ?_, fun z w q n => p.tup rh n (r1.app r2)⟩
      · exact p.fz rh ⟨b, ws, rfl, hb, by have := r1.app r2; rw [z, List.nil_append] at this; exact this⟩
      · exact p.fz rh ⟨a, vs, rfl, ha, by have := r1.app r2; rw [w, List.append_nil] at this; exact this⟩
    · cases e
  · rename_i x y
    split at e
    · rename_i hz
      cases e
      obtain ⟨a, vs, rfl, ha, r1⟩ := ra.lst
      obtain ⟨b, ws, rfl, hb, r2⟩ := rb.lst
      have hz := okN_le hz
      rw [← r1.len, ← r2.len] at hz
      exact cat_read pins s σ H _ _ _ _ Q I hu hv ⟨a, b, vs, ws, rfl, rfl, ha, hb, hz, fun q n => p.lst rh n (r1.app r2)⟩
    · cases e
  · rename_i x y
    split at e
    · rename_i hz
      cases e
      obtain ⟨z, rfl, e1⟩ := ra
      obtain ⟨w, rfl, e2⟩ := rb
      have hz := okN_le hz
      refine op_add_str pins s σ H _ _ _ _ Q I hu hv ⟨z, w, rfl, rfl, ?_, ?_⟩
      · rw [str_eta e1, str_eta e2]
        simpa [Str.length] using hz
      · refine p.fz rh ⟨_, rfl, ?_⟩
        rw [str_eta e1, str_eta e2, str_app]
    · cases e
  · cases e
theorem om_sub : OpM X (binaryOp .Sub) (bin .sub) := by
  intro pins s σ H u v ru rv Q I hu hv ⟨m, h, a, b, t, rh, ra, rb, e, p⟩
  simp only [bin] at e
  unfold bSub at e
  split at e
  · cases e
    exact op_sub pins s σ H _ _ _ _ Q I hu hv ⟨_, _, ra, rb, p.fz rh rfl⟩
  · cases e
theorem om_mod : OpM X (binaryOp .Mod) (bin .mod) := by
  intro pins s σ H u v ru rv Q I hu hv ⟨m, h, a, b, t, rh, ra, rb, e, p⟩
  simp only [bin] at e
  unfold bMod at e
  split at e
  · split at e
    · rename_i hj
      cases e
      exact op_mod pins s σ H _ _ _ _ Q I hu hv ⟨_, _, ra, rb, of_decide_eq_true hj, p.fz rh rfl⟩
    · cases e
  · cases e
theorem om_div : OpM X (binaryOp .FloorDiv) (bin .fdiv) := by
  intro pins s σ H u v ru rv Q I hu hv ⟨m, h, a, b, t, rh, ra, rb, e, p⟩
  simp only [bin] at e
  unfold bDiv at e
  split at e
  · split at e
    · rename_i hj
      cases e
      simp only [Bool.and_eq_true, decide_eq_true_eq] at hj
      exact op_fdiv pins s σ H _ _ _ _ Q I hu hv ⟨_, _, ra, rb, hj, p.fz rh rfl⟩
    · cases e
  · cases e
theorem om_pow : OpM X (binaryOp .Pow) (bin .pow) := by
  intro pins s σ H u v ru rv Q I hu hv ⟨m, h, a, b, t, rh, ra, rb, e, p⟩
  simp only [bin] at e
  unfold bPow at e
  split at e
  · split at e
    · rename_i i j hj
      cases e
      simp only [Bool.and_eq_true, decide_eq_true_eq] at hj
      have hb : i.natAbs < 2 ^ 64 := by have := hj.2; simpa [big, Nat.blt_eq] using this
      exact op_pow pins s σ H _ _ _ _ Q I hu hv ⟨_, _, ra, rb, ⟨hj.1.1, by omega, hb⟩, p.fz rh rfl⟩
    · cases e
  · cases e
theorem Rps.rep {m : List Addr} {H : Hp} {x : List D} {vs : List V} (r : Rps m H x vs) : ∀ k : Nat, Rps m H (List.replicate k x).flatten (List.replicate k vs).flatten
  | 0 => rfl
  | k + 1 => by
    rw [List.replicate_succ, List.replicate_succ, List.flatten_cons, List.flatten_cons]
    exact r.app (Rps.rep r k)
/-- a list, read alone, several times over -/
theorem rep_read : OpR X (binaryOp .Mult) (fun p q H Q => ∃ l k xs, p = .ref l ∧ q = .int k ∧ Rd H l (.lst xs) ∧ 0 ≤ k ∧ k ≤ 1000 ∧ xs.length ≤ 1000 ∧ ∀ n, H n = none → Q (.ref n) (upd H n (.lst (List.replicate k.toNat xs).flatten))) := by
  rintro pins st σ hp p q up uq Q inv hp' hq' ⟨l, k, xs, rfl, rfl, rd, k0, k1, few, done⟩
  cases hp'
  obtain ⟨t, rfl⟩ := hq'
  obtain ⟨_, us, j, rv, ho⟩ := rd.ok inv.hok
  have ul := rv.length
  have cells : us.toArray.size * k.toNat ≤ 1000000 := by
    have a : us.toArray.size ≤ 1000 := by simp; omega
    have b : k.toNat ≤ 1000 := by omega
    exact Nat.le_trans (Nat.mul_le_mul a b) (by decide)
  have cells2 : us.length * k.toNat ≤ 1000000 := by simpa using cells
  have flat_ : (List.replicate k.toNat xs).flatten.length ≤ sizeLine := by
    rw [PyProof.Rows.lm_len_rep_flat, sizeLine_eq]
    have := Nat.mul_le_mul (show k.toNat ≤ 1000 by omega) few
    omega
  refine wpAny_binaryOp_repeat_ref (T := "list") (U := "int") (by decide) ⟨_, ho, rfl⟩ (fun s' => typeIs_int s' k t) noFill_list_mul F.fills_int_mul F.slot_int_rmul repeat_list F.slot_int_index.lookup
    (call_meets F.slot_int_rmul (typeIs_int st k t) F.entry_int_rmul (F.args_int_rmul_2 _ _) (lm_int_rmul_list_any k t l us.toArray j none #[])
      ⟨ho, rfl, ⟨_, ho, rfl⟩, call_meets F.slot_list_mul ⟨_, ho, rfl⟩ F.entry_list_mul (F.args_list_mul_2 _ _)
        (lm_list_mul_any l us.toArray j none #[] k t (by simp [Builtin.List.listFitsIndex]; omega) (by omega) (by simp [Builtin.List.listTooLong, sizeLine]; omega)) ⟨ho, ?_⟩⟩)
  rw [PyProof.Rows.listMul_foldl_if, List.toList_toArray]
  exact ⟨V.ref st.heap.objs.size, _, inv.lnew (t' := st.toks) (rv.rep k.toNat) flat_, rfl, done _ inv.fresh⟩
theorem om_mul : OpM X (binaryOp .Mult) (bin .mul) := by
  intro pins s σ H u v ru rv Q I hu hv ⟨m, h, a, b, t, rh, ra, rb, e, p⟩
  simp only [bin] at e
  unfold bMul at e
  split at e
  · split at e
    · rename_i hj
      cases e
      rw [Bool.or_eq_true] at hj
      exact op_mul pins s σ H _ _ _ _ Q I hu hv ⟨_, _, ra, rb, hj.imp big_lt big_lt, p.fz rh rfl⟩
    · cases e
  · split at e
    · rename_i x k hj
      cases e
      obtain ⟨a, vs, rfl, ha, r1⟩ := ra
      simp only [Bool.and_eq_true, decide_eq_true_eq, Nat.ble_eq] at hj
      have hl := r1.len
      refine op_repT pins s σ H _ _ _ _ Q I hu hv ⟨a, k, vs, rfl, rb, .of ha, fun z => ?_, hj.1.2, hj.2, by omega, fun q n => p.tup rh n (r1.rep _)⟩
      rw [z] at hl
      have : x = [] := List.eq_nil_of_length_eq_zero hl.symm
      rw [this] at hj
      exact absurd hj.1.1.1.1 (by simp)
    · cases e
  · split at e
    · rename_i x k hj
      cases e
      obtain ⟨a, vs, rfl, ha, r1⟩ := ra.lst
      simp only [Bool.and_eq_true, decide_eq_true_eq, Nat.ble_eq] at hj
      exact rep_read pins s σ H _ _ _ _ Q I hu hv ⟨a, k, vs, rfl, rb, ha, hj.2.1, hj.2.2, by rw [r1.len]; exact hj.1, fun q n => p.lst rh n (r1.rep _)⟩
    · cases e
  · cases e
theorem cmpT_ok {o : Cop} {a b : D} {t : T} (e : cmpT o a b = some t) : ∃ k, cmp o a b = some k ∧ t = .fz (.bl k) := by
  unfold cmpT at e
  cases q : cmp o a b with
  | none => rw [q] at e; cases e
  | some k => rw [q] at e; exact ⟨k, rfl, (Option.some.inj e).symm⟩
theorem cEq_ok {a b : D} {k : Bool} (e : cEq a b = some k) : (∃ x y, a = .str x ∧ b = .str y ∧ k = (x == y)) ∨ (flat a = true ∧ flat b = true ∧ k = deq a b) := by
  unfold cEq at e
  split at e
  · exact .inl ⟨_, _, rfl, rfl, (Option.some.inj e).symm⟩
  · split at e
    · rename_i hf
      rw [Bool.and_eq_true] at hf
      exact .inr ⟨hf.1, hf.2, (Option.some.inj e).symm⟩
    · cases e
theorem str_dec {x y : List Nat} {u v : Str} (hu : u.cps.toList = x) (hv : v.cps.toList = y) : decide (V.str u = V.str v) = (x == y) := by
  rw [str_eta hu, str_eta hv, Bool.eq_iff_iff]
  simp
theorem om_eq (hu : X.A.units + 64 < cLine) : OpM X (compareOp .Eq) (cmpT .eq) := by
  intro pins s σ H u v ru rv Q I hu' hv ⟨m, h, a, b, t, rh, ra, rb, e, p⟩
  obtain ⟨k, e', rfl⟩ := cmpT_ok e
  rcases cEq_ok (show cEq a b = some k from e') with ⟨x, y, rfl, rfl, rfl⟩ | ⟨fa, fb, rfl⟩
  · obtain ⟨x', rfl, ex⟩ := ra
    obtain ⟨y', rfl, ey⟩ := rb
    refine op_eq pins s σ H _ _ _ _ Q I hu' hv ⟨rfl, ?_⟩
    rw [str_dec ex ey]
    exact p.fz rh rfl
  refine op_eqD hu pins s σ H _ _ _ _ Q I hu' hv ⟨_, _, RpR.dp fa ra, RpR.dp fb rb, shaped_flat fa, shaped_flat fb, ?_⟩
  rw [deq_eqv a b 60 60 fa fb]
  exact p.fz rh rfl
theorem om_ne (hu : X.A.units + 64 < cLine) : OpM X (compareOp .NotEq) (cmpT .ne) := by
  intro pins s σ H u v ru rv Q I hu' hv ⟨m, h, a, b, t, rh, ra, rb, e, p⟩
  obtain ⟨k, e1, rfl⟩ := cmpT_ok e
  obtain ⟨j, e2, rfl⟩ := Option.map_eq_some_iff.mp (show (cEq a b).map (!·) = some k from e1)
  rcases cEq_ok e2 with ⟨x, y, rfl, rfl, rfl⟩ | ⟨fa, fb, rfl⟩
  · obtain ⟨x', rfl, ex⟩ := ra
    obtain ⟨y', rfl, ey⟩ := rb
    refine op_ne pins s σ H _ _ _ _ Q I hu' hv ⟨rfl, ?_⟩
    rw [str_dec ex ey]
    exact p.fz rh rfl
  refine op_neD hu pins s σ H _ _ _ _ Q I hu' hv ⟨_, _, RpR.dp fa ra, RpR.dp fb rb, shaped_flat fa, shaped_flat fb, ?_⟩
  rw [deq_eqv a b 60 60 fa fb]
  exact p.fz rh rfl
theorem cLt_ok {a b : D} {k : Bool} (e : cLt a b = some k) : (∃ i j, a = .int i ∧ b = .int j ∧ k = decide (i < j)) ∨ (∃ x y, a = .tup x ∧ b = .tup y ∧ flat a = true ∧ flat b = true ∧ alk a b = true ∧ k = dltB a b) := by
  unfold cLt at e
  split at e
  · exact .inl ⟨_, _, rfl, rfl, (Option.some.inj e).symm⟩
  · split at e
    · rename_i ok
      rw [Bool.and_eq_true, Bool.and_eq_true] at ok
      exact .inr ⟨_, _, rfl, rfl, ok.1, ok.2.1, by rw [alk]; exact ok.2.2, by rw [dltB]; exact (Option.some.inj e).symm⟩
    · cases e
  · cases e
theorem cGt_ok {a b : D} {k : Bool} (e : cGt a b = some k) : ∃ i j, a = .int i ∧ b = .int j ∧ k = decide (j < i) := by
  unfold cGt at e
  split at e
  · exact ⟨_, _, rfl, rfl, (Option.some.inj e).symm⟩
  · cases e
theorem cLe_ok {a b : D} {k : Bool} (e : cLe a b = some k) : ∃ i j, a = .int i ∧ b = .int j ∧ k = decide (i ≤ j) := by
  unfold cLe at e
  split at e
  · exact ⟨_, _, rfl, rfl, (Option.some.inj e).symm⟩
  · cases e
theorem tup_lt (hu : X.A.units + 64 < cLine) {pins : List (Addr × Obj)} {σ : L2.St} {s : Shared} {m : List Addr} {x y : List D} {u v : V} {p q : Value} {Q : VK} (I : L2.Inv X pins σ H s) (hp : RelV u p) (hq : RelV v q) (ra : Rp m H (.tup x) u) (rb : Rp m H (.tup y) v) (fa : flat (.tup x) = true) (fb : flat (.tup y) = true) (al : alk (.tup x) (.tup y) = true)
    (go : Q (.bl (dltB (.tup x) (.tup y))) H) : wpAny (model X.prog X.w) X.A (compareOp .Lt p q) (EP X pins σ Q) X.xe s := by
  obtain ⟨as, r1⟩ := Dp.reads I _ _ _ (Rp.dp (K := X.K) _ _ 60 fa ra) hp
  obtain ⟨bs, r2⟩ := Dp.reads I _ _ _ (Rp.dp (K := X.K) _ _ 60 fb rb) hq
  have few := (can_flat (.tup x) 60 fa).2
  refine PySem.W.lt_data r1 r2 (by rw [alk_py _ _ 60 60 fa fb]; exact al) (fun z => by rw [pyD] at z; cases z) (by have := Nat.min_le_left (pyD (.tup x)).depth (pyD (.tup y)).depth; omega) ?_
  rw [dlt_py _ _ 60 60 fa fb al]
  exact ⟨.bl _, H, I, rfl, go⟩
theorem om_lt (hu : X.A.units + 64 < cLine) : OpM X (compareOp .Lt) (cmpT .lt) := by
  intro pins s σ H u v ru rv Q I hp hq ⟨m, h, a, b, t, rh, ra, rb, e, p⟩
  obtain ⟨k, e1, rfl⟩ := cmpT_ok e
  rcases cLt_ok (show cLt a b = some k from e1) with ⟨i, j, rfl, rfl, rfl⟩ | ⟨x, y, rfl, rfl, fa, fb, al, rfl⟩
  · exact op_lt pins s σ H _ _ _ _ Q I hp hq ⟨i, j, ra, rb, p.fz rh rfl⟩
  · exact tup_lt hu I hp hq ra rb fa fb al (p.fz rh rfl)
theorem om_gt : OpM X (compareOp .Gt) (cmpT .gt) := by
  intro pins s σ H u v ru rv Q I hu hv ⟨m, h, a, b, t, rh, ra, rb, e, p⟩
  obtain ⟨k, e1, rfl⟩ := cmpT_ok e
  obtain ⟨i, j, rfl, rfl, rfl⟩ := cGt_ok (show cGt a b = some k from e1)
  exact op_gt pins s σ H _ _ _ _ Q I hu hv ⟨i, j, ra, rb, p.fz rh rfl⟩
theorem om_le : OpM X (compareOp .LtE) (cmpT .le) := by
  intro pins s σ H u v ru rv Q I hu hv ⟨m, h, a, b, t, rh, ra, rb, e, p⟩
  obtain ⟨k, e1, rfl⟩ := cmpT_ok e
  obtain ⟨i, j, rfl, rfl, rfl⟩ := cLe_ok (show cLe a b = some k from e1)
  exact op_le pins s σ H _ _ _ _ Q I hu hv ⟨i, j, ra, rb, p.fz rh rfl⟩
theorem om_ge : OpM X (compareOp .GtE) (cmpT .ge) := by
  intro pins s σ H u v ru rv Q I hu hv ⟨m, h, a, b, t, rh, ra, rb, e, p⟩
  obtain ⟨k, e1, rfl⟩ := cmpT_ok e
  obtain ⟨i, j, rfl, rfl, rfl⟩ := cLe_ok (show cLe b a = some k from e1)
  exact op_ge pins s σ H _ _ _ _ Q I hu hv ⟨j, i, ra, rb, p.fz rh rfl⟩
theorem RpR.isNo {a : D} {u : V} (r : RpR m H a u) : decide (u = .non) = isNo a := by
  cases a with
  | non => rw [show u = .non from r]; rfl
  | bl b => rw [show u = .bl b from r]; rfl
  | int b => rw [show u = .int b from r]; rfl
  | str b => obtain ⟨y, rfl, _⟩ := r; rfl
  | tup b => obtain ⟨y, _, rfl, _⟩ := r; rfl
  | lst b => obtain ⟨y, _, rfl, _⟩ := r; rfl
  | dct b => obtain ⟨y, _, rfl, _⟩ := r; rfl
  | kst b => obtain ⟨y, _, _, _, _, rfl, _⟩ := r; rfl
  | ref b => obtain ⟨y, _, rfl⟩ := r; rfl
  | clo b c => obtain ⟨y, _, _, _, _, _, rfl, _⟩ := r; rfl
theorem cIs_ok {a b : D} {k : Bool} (e : cIs a b = some k) : b = .non ∧ k = isNo a := by
  unfold cIs at e
  split at e
  · exact ⟨rfl, (Option.some.inj e).symm⟩
  · cases e
theorem om_is : OpM X (compareOp .Is) (cmpT .is_) := by
  intro pins s σ H u v ru rv Q I hu hv ⟨m, h, a, b, t, rh, ra, rb, e, p⟩
  obtain ⟨k, e1, rfl⟩ := cmpT_ok e
  obtain ⟨rfl, rfl⟩ := cIs_ok (show cIs a b = some k from e1)
  refine op_isN pins s σ H _ _ _ _ Q I hu hv ⟨rb, ?_⟩
  rw [ra.isNo]
  exact p.fz rh rfl
theorem om_isn : OpM X (compareOp .IsNot) (cmpT .isn) := by
  intro pins s σ H u v ru rv Q I hu hv ⟨m, h, a, b, t, rh, ra, rb, e, p⟩
  obtain ⟨k, e1, rfl⟩ := cmpT_ok e
  obtain ⟨j, e2, rfl⟩ := Option.map_eq_some_iff.mp (show (cIs a b).map (!·) = some k from e1)
  obtain ⟨rfl, rfl⟩ := cIs_ok e2
  refine op_notN pins s σ H _ _ _ _ Q I hu hv ⟨rb, ?_⟩
  rw [ra.isNo]
  exact p.fz rh rfl
end
end Ma
set_option maxHeartbeats 4000000
/-! Expressions: rows, items, slices, tests, calls. -/
namespace Ma
open PySem PySem.Spec L2
variable [TB]
section
variable {G : GC} {Φ : Cal} {x : List D} {W : WX} {X : Cx} {fr : Bool} {m m' : List Addr} {σ : L2.St} {H H' : Hp} {Q Q' : VK} {r : RE}

/-! ### own things become data -/
theorem per_lock {h : RH} {a : Addr} {od : Obj} {u : HO} (mu : Mut (some u)) (e : H a = some u) : Per m H m (upd H a (.frz od u)) := by
  refine ⟨fun b xs q => ?_, fun b o w q => ?_, fun _ _ q => q⟩
  · rw [upd_ne]; exact q
    intro z; subst z; rw [q] at e; cases e; exact mu
  · rw [upd_ne]; exact q
    intro z; subst z; rw [q] at e; cases e; exact mu
theorem RpH.lock {h : RH} {a : Addr} {od : Obj} {u : HO} (r : RpH m h H) (mu : Mut (some u)) (nx : ∀ φ, u ≠ .ext φ) (e : H a = some u) (n : a ∉ m) : RpH m h (upd H a (.frz od u)) := by
  refine ⟨r.nd, r.len, fun k ob b e1 e2 => ?_⟩
  have q := r.at_ k ob b e1 e2
  have hb : b ∈ m := List.mem_of_getElem? e2
  cases ob with
  | lst xs =>
    obtain ⟨vs, e3, q⟩ := q
    exact ⟨vs, by rw [upd_ne (fun z => n (by rw [← z]; exact hb))]; exact e3, Rps.per (per_lock (h := h) mu e) _ _ q⟩
  | ins c fs => exact q
  | tab k =>
    obtain ⟨x, e3, q⟩ := q
    obtain ⟨w, e4, _⟩ := id q
    refine ⟨x, e3, ?_⟩
    obtain ⟨ps, h1, h2, h3⟩ := q
    refine ⟨ps, by rw [upd_ne (fun z => n (by rw [← z]; exact hb))]; exact h1, h2, fun pos cv hc => ?_⟩
    obtain ⟨c, g1, g2⟩ := h3 pos cv hc
    refine ⟨c, g1, ?_⟩
    rw [upd_ne]
    · exact g2
    · intro z
      subst z
      rw [e] at g2
      exact nx _ (Option.some.inj g2)
/-- what may be locked: it is, or it becomes data -/
def Frz (Q : VK) : VK := fun v H => Q v H ∨ ∃ d u, v = .ref d ∧ H d = some u ∧ Mut (some u) ∧ ∀ od, Q v (upd H d (.frz od u))
theorem ep_frz {pins : List (Addr × Obj)} {u : Value} {s : Shared} (h : EP X pins σ (Frz Q) u s) : EP X pins σ Q u s := by
  obtain ⟨v, H', I, rv, q | ⟨d, w, rfl, e, mu, q⟩⟩ := h
  · exact ⟨v, H', I, rv, q⟩
  · obtain ⟨od, I2⟩ := I.lock e mu
    exact ⟨_, _, I2, rv, q od⟩
theorem pe_frz {e : Expr} {t : TE} (h : PE X e t) : PE X e (fun σ H Q => t σ H (Frz Q)) :=
  ⟨fun pins s σ H Q I q => thn (h.run pins s σ H _ I q) fun _ _ w => ep_frz w⟩
/-- an own thing is locked -/
theorem RpT.lock {h : RH} {t : T} {v : V} (rh : RpH m h H) (q : RpT m H t v) (n : t.own = true → ∀ a, v = .ref a → a ∉ m) :
    Rp m H t.d v ∨ ∃ a u, v = .ref a ∧ H a = some u ∧ (Mut (some u) ∧ ∀ φ, u ≠ .ext φ) ∧ t.own = true ∧ ∀ od, Rp m (upd H a (.frz od u)) t.d v := by
  cases t with
  | fz d => exact .inl q
  | oL k rs =>
    obtain ⟨a, vs, rfl, e, r, _⟩ := q
    exact .inr ⟨a, _, rfl, e, ⟨trivial, fun _ z => HO.noConfusion z⟩, rfl, fun od => ⟨a, od, vs, rfl, upd_same, Rps.per (per_lock (h := h) (u := .lst vs) trivial e) _ _ r⟩⟩
  | oD ks =>
    obtain ⟨a, ws, rfl, e, r⟩ := q
    exact .inr ⟨a, _, rfl, e, ⟨trivial, fun _ z => HO.noConfusion z⟩, rfl, fun od => ⟨a, od, ws, rfl, upd_same, Rpk.per (per_lock (h := h) (u := .dK ws) trivial e) _ _ r⟩⟩
  | _ => exact q.elim
/-- behind an expression a new thing was locked: as behind the expression -/
theorem Ex.lock {a : Addr} {od : Obj} {u : HO} (y : Ex m H m' H') (n : H a = none) : Ex m H m' (upd H' a (.frz od u)) := by
  refine ⟨y.pre, fun b o e hb => ?_⟩
  rw [upd_ne (fun z => by subst z; rw [n] at e; cases e)]
  exact y.keep b o e hb
theorem sf_of {e : Expr} {a : E} (h : PE X e (te G Φ x W a)) : PE X e (fun σ H Q => ∃ m s h, SR m s h σ H ∧ Pst G true W m σ H Q (ev Φ x a s h).frz) := by
  refine PEimp (pe_frz h) fun σ H Q ⟨m, s, h, r, p⟩ => ⟨m, s, h, r, ?_⟩
  cases e : ev Φ x a s h with
  | bad w => rw [e] at p; exact p
  | exc c xs h' => rw [e] at p; exact p
  | ok t h' =>
    rw [e] at p
    intro m' v H' y rh rt own
    have p' : Pst G true W m σ H Q (.ok (.fz t.d) h') := p
    rcases rt.lock rh (fun o a e => (own o a e).1) with q | ⟨a, u, rfl, ea, mu, o, q⟩
    · exact .inl (p' m' v H' y rh q fun o => nomatch o)
    · exact .inr ⟨a, u, rfl, ea, mu.1, fun od => p' m' _ _ (y.lock ((own o a rfl).2 rfl)) (rh.lock mu.1 mu.2 ea (own o a rfl).1) (q od) fun o => nomatch o⟩

/-! ### rows -/
theorem sa_nil : PA X [] (ta G Φ x W .nil) := by
  refine ⟨fun pos pins s σ H Q I ⟨m, sl, h, r, p⟩ => pa_nil.run pos pins s σ H Q I ?_⟩
  unfold ev at p
  exact p m [] H Ex.refl r.hp rfl
theorem sa_cons {e : Expr} {es : List Expr} {a b : E} (ha : PE X e (te G Φ x W a)) (hb : PA X es (ta G Φ x W b)) (hs : starEach (e :: es) X.env = (false, eval e X.env) :: starEach es X.env := by rfl) :
    PA X (e :: es) (ta G Φ x W (.cons a b)) := by
  refine ⟨fun pos pins s σ H Q I ⟨m, sl, h, r, p⟩ => (pa_cons (sf_of ha) hb hs).run pos pins s σ H Q I ?_⟩
  unfold ev at p
  refine ⟨m, sl, h, r, ?_⟩
  cases e1 : ev Φ x a sl h with
  | bad w => rw [e1] at p; exact p
  | exc c xs h' => rw [e1] at p; exact p
  | ok t h' =>
    rw [e1] at p
    intro m' v H' y rh rt own
    have rv : Rp m' H' t.d v := rt
    refine ⟨m', sl, h', r.stay y rh, ?_⟩
    simp only [RE.bind] at p
    cases e2 : ev Φ x b sl h' with
    | bad w => rw [e2] at p; exact p
    | exc c xs h2 => rw [e2] at p; exact fun m2 H2 cls d z => p m2 H2 cls d (y.comp rh z)
    | ok t2 h2 =>
      rw [e2] at p
      cases t2 with
      | fz d =>
        cases d with
        | tup ds =>
          intro m2 vs H2 z rh2 rs
          exact p m2 (v :: vs) H2 (y.comp rh z) rh2 ⟨v, vs, rfl, Rp.per (z.per rh) _ _ rv, rs⟩
        | _ => exact p
      | _ => exact p
/-- how many stand in a row -/
def rowN : E → Nat
  | .cons _ b => rowN b + 1
  | _ => 0
def isRow : E → Bool
  | .cons _ b => isRow b
  | .nil => true
  | _ => false
theorem row_len : ∀ (a : E) (s : Sl) (h h' : RH) (ds : List D), isRow a = true → ev Φ x a s h = .ok (.fz (.tup ds)) h' → ds.length = rowN a
  | .nil, s, h, h', ds, _, e => by
    unfold ev at e
    cases e
    rfl
  | .cons a b, s, h, h', ds, hr, e => by
    unfold ev at e
    cases e1 : ev Φ x a s h with
    | bad w => rw [e1] at e; cases e
    | exc c xs h' => rw [e1] at e; cases e
    | ok t h1 =>
      rw [e1] at e
      simp only [RE.bind] at e
      cases e2 : ev Φ x b s h1 with
      | bad w => rw [e2] at e; cases e
      | exc c xs h2 => rw [e2] at e; cases e
      | ok t2 h2 =>
        rw [e2] at e
        cases t2 with
        | fz d =>
          cases d with
          | tup es =>
            have l := row_len b s h1 h2 es hr e2
            simp only [RE.row, RE.bind, RE.ok.injEq, T.fz.injEq, D.tup.injEq] at e
            rw [← e.1, List.length_cons, l, rowN]
          | _ => cases e
        | _ => cases e
/-- where a row has gone through -/
theorem ta_row {a : E} {s : Sl} {h : RH} {F : List D → RH → RE} {R : List V → Hp → Prop} (hr : isRow a = true) (r : SR m s h σ H) (p : Pst G fr W m σ H Q ((ev Φ x a s h).row F))
    (k : ∀ ds h' m' vs H', SR m' s h' σ H' → Ex m H m' H' → Rps m' H' ds vs → vs.length = rowN a → Pst G fr W m' σ H' Q (F ds h') → R vs H') : ta G Φ x W a σ H R := by
  refine ⟨m, s, h, r, ?_⟩
  cases e : ev Φ x a s h with
  | bad w => rw [e] at p; exact p
  | exc c xs h' => rw [e] at p; exact p
  | ok t h' =>
    rw [e] at p
    cases t with
    | fz d =>
      cases d with
      | tup ds => exact fun m' vs H' y rh rs => k ds h' m' vs H' (r.stay y rh) y rs (by rw [rs.len, row_len a s h h' ds hr e]) (Pst.from p y rh)
      | _ => exact p
    | _ => exact p
/-- a new list, a new tuple behind an expression -/
theorem Pst.lst {xs : List D} {h : RH} {a : Addr} {vs : List V} (p : Pst G fr W m σ H Q (.ok (mkL xs) h)) (hh : RpH m h H) (n : H a = none) (r : Rps m H xs vs) : Q (.ref a) (upd H a (.lst vs)) := p.post.lst hh n r
theorem Pst.tup {xs : List D} {h : RH} {a : Addr} {vs : List V} (p : Pst G fr W m σ H Q (.ok (.fz (.tup xs)) h)) (hh : RpH m h H) (n : H a = none) (r : Rps m H xs vs) : Q (.ref a) (upd H a (.tup vs)) := p.post.tup hh n r
theorem row_eta {r : RE} : (r.row fun ds h => .ok (.fz (.tup ds)) h) = match r with | .ok (.fz (.tup ds)) h => .ok (.fz (.tup ds)) h | .ok _ _ => .bad "row" | r => r := by
  cases r with
  | ok t h => cases t with
    | fz d => cases d <;> rfl
    | _ => rfl
  | _ => rfl
/-- a row is a row -/
theorem row_is {a : E} {s : Sl} {h : RH} (hr : isRow a = true) : ((ev Φ x a s h).row fun ds h => .ok (.fz (.tup ds)) h) = ev Φ x a s h := by
  cases a with
  | nil => unfold ev; rfl
  | cons a b =>
    unfold ev
    cases ev Φ x a s h with
    | bad w => rfl
    | exc c xs h' => rfl
    | ok t h1 =>
      simp only [RE.bind]
      cases ev Φ x b s h1 with
      | bad w => rfl
      | exc c xs h2 => rfl
      | ok t2 h2 => cases t2 with
        | fz d => cases d <;> rfl
        | _ => rfl
  | _ => cases hr
theorem se_tup {es : List Expr} {a : E} {k : Nat} {pos : Pos} (ha : PA X es (ta G Φ x W a)) (hr : isRow a = true) (hn : Nat.ble (rowN a) 16777216 = true) : PE X (.Tuple es k pos) (te G Φ x W (.tup a)) := by
  refine PEimp (pe_tup ha) fun σ H Q ⟨m, s, h, r, p⟩ => ?_
  unfold ev at p
  rw [← row_is hr] at p
  exact ta_row hr r p fun ds h' m' vs H' r' y rs l p' => ⟨by rw [l]; exact okN_le hn, fun q n => p'.tup r'.hp n rs⟩
theorem se_lst {es : List Expr} {a : E} {pos : Pos} (ha : PA X es (ta G Φ x W a)) (hr : isRow a = true) (hn : Nat.ble (rowN a) 16777216 = true) : PE X (.List es pos) (te G Φ x W (.lst a)) := by
  refine PEimp (pe_lst ha) fun σ H Q ⟨m, s, h, r, p⟩ => ?_
  unfold ev at p
  exact ta_row hr r p fun ds h' m' vs H' r' y rs l p' => ⟨by rw [l]; exact okN_le hn, fun q n => p'.lst r'.hp n rs⟩

/-! ### operators -/
theorem se_bin {py1 py2 : Expr} {a b : E} {o : Bop} {op : Operator} {pos : Pos} (ho : OpM X (binaryOp op) (bin o)) (ha : PE X py1 (tr G Φ x W a)) (hb : PE X py2 (tr G Φ x W b)) : PE X (.BinOp py1 op py2 pos) (te G Φ x W (.bin o a b)) :=
  se_bin2 ho ha hb (fun r ta tb ho ha hb => pe_op ho ha hb) fun s h => by rw [ev]
theorem se_cmp {py1 py2 : Expr} {a b : E} {o : Cop} {op : CmpOp} {pos : Pos} (ho : OpM X (compareOp op) (cmpT o)) (ha : PE X py1 (tr G Φ x W a)) (hb : PE X py2 (tr G Φ x W b)) (hm : behindInMarks op py2 = false := by rfl) : PE X (.Compare py1 [op] [py2] pos) (te G Φ x W (.cmp o a b)) :=
  se_bin2 ho ha hb (fun r ta tb ho ha hb => pe_cmpR ho ha hb hm) fun s h => by rw [ev]
/-- a truth, as a test -/
theorem Pst.tt {r : RE} {R : Bool → Hp → Prop} (p : Pst G fr W m σ H (fun v H' => ∃ b, v = .bl b ∧ R b H') r) : Pst G fr W m σ H (fun v H' => ∃ b, v = .bl b ∧ R b H') r := p
theorem st_cmp {py1 py2 : Expr} {a b : E} {o : Cop} {op : CmpOp} {pos : Pos} (ho : OpM X (compareOp op) (cmpT o)) (ha : PE X py1 (tr G Φ x W a)) (hb : PE X py2 (tr G Φ x W b)) (hm : behindInMarks op py2 = false := by rfl) : PT X (.Compare py1 [op] [py2] pos) (tt G Φ x W (.cmp o a b)) := by
  refine ⟨fun pins s σ H Q I ⟨m, sl, h, r, p⟩ => (pt_cmpR ho ha hb hm).run pins s σ H Q I ?_⟩
  rw [ev] at p
  refine ⟨m, sl, h, r, Pst.mono (Pst.bind r p) fun u H1 ⟨m1, t, h1, r1, y1, q1, o1, p1⟩ => ?_⟩
  refine ⟨m1, sl, h1, r1, Pst.mono (Pst.bind r1 p1) fun v H2 ⟨m2, t2, h2, r2, y2, q2, o2, p2⟩ => ?_⟩
  obtain ⟨t3, e3, p3⟩ := optE_ok p2
  exact ⟨m2, h2, t.d, t2.d, t3, r2.hp, (q1.next r1.hp y2 o1).1.rd, q2.rd, e3, p3⟩
/-- a value, as a test: a truth alone -/
theorem st_val {e : Expr} {a : E} (h : PE X e (te G Φ x W a)) (he : ∀ whole, isTrue e X.env whole = (do let v ← whole; standAt e.pos; holding [v] (truthy v)) := by intro _; rfl) : PT X e (tt G Φ x W a) :=
  ⟨fun pins s σ H Q I q => (pt_val h he).run pins s σ H Q I q⟩
/-- behind a test -/
theorem Pst.test {f0 fr : Bool} {s : Sl} {h : RH} {F : Bool → RH → RE} {R : Bool → Hp → Prop} (q : SR m s h σ H) (p : Pst G fr W m σ H Q (r.test F))
    (k : ∀ b m' h' H', SR m' s h' σ H' → Ex m H m' H' → Pst G fr W m' σ H' Q (F b h') → R b H') : Pst G f0 W m σ H (fun v H' => ∃ b, v = .bl b ∧ R b H') r := by
  cases r with
  | bad w => exact p
  | exc c xs h' => exact p
  | ok t h' =>
    cases t with
    | fz d =>
      cases d with
      | bl b => exact fun m' v H' y rh rt own => ⟨b, rt, k b m' h' H' (q.stay y rh) y (Pst.from p y rh)⟩
      | _ => exact p.elim
    | _ => exact p.elim
theorem Pst.int {f0 fr : Bool} {s : Sl} {h : RH} {F : Int → RH → RE} {R : Int → Hp → Prop} (q : SR m s h σ H) (p : Pst G fr W m σ H Q (r.int F))
    (k : ∀ b m' h' H', SR m' s h' σ H' → Ex m H m' H' → Pst G fr W m' σ H' Q (F b h') → R b H') : Pst G f0 W m σ H (fun v H' => ∃ b, v = .int b ∧ R b H') r := by
  cases r with
  | bad w => exact p
  | exc c xs h' => exact p
  | ok t h' =>
    cases t with
    | fz d =>
      cases d with
      | int b => exact fun m' v H' y rh rt own => ⟨b, rt, k b m' h' H' (q.stay y rh) y (Pst.from p y rh)⟩
      | _ => exact p.elim
    | _ => exact p.elim
theorem se_neg {py1 : Expr} {a : E} {pos : Pos} (ha : PE X py1 (te G Φ x W a)) : PE X (.UnaryOp .USub py1 pos) (te G Φ x W (.neg a)) := by
  refine PEimp (pe_un un_neg ha) fun σ H Q ⟨m, s, h, r, p⟩ => ?_
  rw [ev] at p
  exact ⟨m, s, h, r, Pst.int r p fun i m' h' H' r' y p' => Pst.fz p' r'.hp rfl⟩
theorem se_nt {py1 : Expr} {a : E} {pos : Pos} (ha : PE X py1 (te G Φ x W a)) : PE X (.UnaryOp .Not py1 pos) (te G Φ x W (.nt a)) := by
  refine PEimp (pe_not ha) fun σ H Q ⟨m, s, h, r, p⟩ => ?_
  rw [ev] at p
  exact ⟨m, s, h, r, Pst.test r p fun i m' h' H' r' y p' => Pst.fz p' r'.hp rfl⟩
theorem st_nt {py1 : Expr} {a : E} {pos : Pos} (ha : PT X py1 (tt G Φ x W a)) : PT X (.UnaryOp .Not py1 pos) (tt G Φ x W (.nt a)) := by
  refine ⟨fun pins s σ H Q I ⟨m, sl, h, r, p⟩ => (pt_not ha).run pins s σ H Q I ?_⟩
  rw [ev] at p
  refine ⟨m, sl, h, r, Pst.test r p fun i m' h' H' r' y p' => ?_⟩
  obtain ⟨b, e, q⟩ := Pst.fz p' r'.hp (show Rp m' H' (.bl (!i)) (.bl (!i)) from rfl)
  cases e
  exact q
/-- a bool operator's rest: the whole, as a value -/
theorem se_and {a1 b1 : Expr} {rest : List Expr} {a b : E} {pos : Pos} (ha : PE X a1 (te G Φ x W a)) (hb : PE X (.BoolOp .And (b1 :: rest) pos) (te G Φ x W b)) : PE X (.BoolOp .And (a1 :: b1 :: rest) pos) (te G Φ x W (.and_ a b)) := by
  refine PEimp (pe_and ha hb) fun σ H Q ⟨m, s, h, r, p⟩ => ?_
  rw [ev] at p
  refine ⟨m, s, h, r, Pst.test r p fun c m' h' H' r' y p' => ?_⟩
  cases c with
  | false => exact Pst.fz p' r'.hp rfl
  | true => exact ⟨m', s, h', r', by
      simp only at p'
      cases e : ev Φ x b s h' with
      | bad w => rw [e] at p'; exact p'
      | exc c xs h2 => rw [e] at p'; exact p'
      | ok t h2 =>
        rw [e] at p'
        cases t with
        | fz d => cases d with
          | bl b => exact p'
          | _ => exact p'.elim
        | _ => exact p'.elim⟩
end
end Ma
set_option maxHeartbeats 4000000
/-! Expressions: tests, items, slices, calls. -/
namespace Ma
open PySem PySem.Spec L2
variable [TB]
section
variable {G : GC} {Φ : Cal} {x : List D} {W : WX} {X : Cx} {fr : Bool} {m m' : List Addr} {σ : L2.St} {H H' : Hp} {Q Q' : VK} {r : RE}
theorem test_id (p : Pst G fr W m σ H Q (r.test fun b h => .ok (.fz (.bl b)) h)) : Pst G fr W m σ H Q r := by
  cases r with
  | bad w => exact p
  | exc c xs h2 => exact p
  | ok t h2 =>
    cases t with
    | fz d => cases d with
      | bl b => exact p
      | _ => exact p.elim
    | _ => exact p.elim
theorem se_or {a1 b1 : Expr} {rest : List Expr} {a b : E} {pos : Pos} (ha : PE X a1 (te G Φ x W a)) (hb : PE X (.BoolOp .Or (b1 :: rest) pos) (te G Φ x W b)) : PE X (.BoolOp .Or (a1 :: b1 :: rest) pos) (te G Φ x W (.or_ a b)) := by
  refine PEimp (pe_or ha hb) fun σ H Q ⟨m, s, h, r, p⟩ => ?_
  rw [ev] at p
  refine ⟨m, s, h, r, Pst.test r p fun c m' h' H' r' y p' => ?_⟩
  cases c with
  | true => exact Pst.fz p' r'.hp rfl
  | false => exact ⟨m', s, h', r', test_id p'⟩
theorem se_one {a1 : Expr} {a : E} {op : BoolOp} {pos : Pos} (ha : PE X a1 (te G Φ x W a)) : PE X (.BoolOp op [a1] pos) (te G Φ x W a) := pe_one ha
/-- a bool operator as a test -/
def PWt (G : GC) (Φ : Cal) (x : List D) (W : WX) (X : Cx) (e : Expr) (a : E) : Prop := PW X e (tt G Φ x W a)
theorem sw_and1 {a1 : Expr} {a : E} {pos : Pos} (ha : PT X a1 (tt G Φ x W a)) : PW X (.BoolOp .And [a1] pos) (tt G Φ x W a) := pw_and1 ha
theorem sw_or1 {a1 : Expr} {a : E} {pos : Pos} (ha : PT X a1 (tt G Φ x W a)) : PW X (.BoolOp .Or [a1] pos) (tt G Φ x W a) := pw_or1 ha
theorem PWimp {e : Expr} {t t' : TT} (h : PW X e t) (k : ∀ σ H Q, t' σ H Q → t σ H Q) : PW X e t' := ⟨fun w pins s σ H Q I q => h.run w pins s σ H Q I (k σ H Q q)⟩
theorem PTimp {e : Expr} {t t' : TT} (h : PT X e t) (k : ∀ σ H Q, t' σ H Q → t σ H Q) : PT X e t' := ⟨fun pins s σ H Q I q => h.run pins s σ H Q I (k σ H Q q)⟩
theorem sw_and {a1 b1 : Expr} {rest : List Expr} {a b : E} {pos : Pos} (ha : PT X a1 (tt G Φ x W a)) (hb : PW X (.BoolOp .And (b1 :: rest) pos) (tt G Φ x W b)) : PW X (.BoolOp .And (a1 :: b1 :: rest) pos) (tt G Φ x W (.and_ a b)) := by
  refine PWimp (pw_and ha hb) fun σ H Q ⟨m, s, h, r, p⟩ => ?_
  rw [ev] at p
  refine ⟨m, s, h, r, Pst.test r p fun c m' h' H' r' y p' => ?_⟩
  cases c with
  | false =>
    obtain ⟨b, e, q⟩ := Pst.fz p' r'.hp (show Rp m' H' (.bl false) (.bl false) from rfl)
    cases e
    exact q
  | true => exact ⟨m', s, h', r', test_id p'⟩
theorem sw_or {a1 b1 : Expr} {rest : List Expr} {a b : E} {pos : Pos} (ha : PT X a1 (tt G Φ x W a)) (hb : PW X (.BoolOp .Or (b1 :: rest) pos) (tt G Φ x W b)) : PW X (.BoolOp .Or (a1 :: b1 :: rest) pos) (tt G Φ x W (.or_ a b)) := by
  refine PWimp (pw_or ha hb) fun σ H Q ⟨m, s, h, r, p⟩ => ?_
  rw [ev] at p
  refine ⟨m, s, h, r, Pst.test r p fun c m' h' H' r' y p' => ?_⟩
  cases c with
  | true =>
    obtain ⟨b, e, q⟩ := Pst.fz p' r'.hp (show Rp m' H' (.bl true) (.bl true) from rfl)
    cases e
    exact q
  | false => exact ⟨m', s, h', r', test_id p'⟩
theorem se_ife {c1 a1 b1 : Expr} {c a b : E} {pos : Pos} (hc : PT X c1 (tt G Φ x W c)) (ha : PE X a1 (te G Φ x W a)) (hb : PE X b1 (te G Φ x W b)) : PE X (.IfExp c1 a1 b1 pos) (te G Φ x W (.ife c a b)) := by
  refine PEimp (pe_ifExp hc ha hb) fun σ H Q ⟨m, s, h, r, p⟩ => ?_
  rw [ev] at p
  refine ⟨m, s, h, r, Pst.test r p fun c m' h' H' r' y p' => ?_⟩
  cases c with
  | true => exact ⟨m', s, h', r', p'⟩
  | false => exact ⟨m', s, h', r', p'⟩
/-- a < b < c -/
abbrev tChn (G : GC) (Φ : Cal) (x : List D) (W : WX) (o o' : Cop) (a b c : E) : TE :=
  tChain (fun u v H Q => ∃ (m : List Addr) (h : RH) (a b : D) (t : T), RpH m h H ∧ RpR m H a u ∧ RpR m H b v ∧ cmpT o a b = some t ∧ PostT m h H t Q) (fun u v H Q => ∃ (m : List Addr) (h : RH) (a b : D) (t : T), RpH m h H ∧ RpR m H a u ∧ RpR m H b v ∧ cmpT o' a b = some t ∧ PostT m h H t Q) (tr G Φ x W a) (tr G Φ x W b) (tr G Φ x W c)
theorem chn_le {a b c : E} {o o' : Cop} {σ : L2.St} {H : Hp} {Q : VK} : te G Φ x W (.chn o o' a b c) σ H Q → tChn G Φ x W o o' a b c σ H Q := by
  intro ⟨m, s, h, r, p⟩
  rw [ev] at p
  refine ⟨m, s, h, r, Pst.mono (Pst.bind r p) fun u H1 ⟨m1, t, h1, r1, y1, q1, o1, p1⟩ => ?_⟩
  refine ⟨m1, s, h1, r1, Pst.mono (Pst.bind r1 p1) fun v H2 ⟨m2, t2, h2, r2, y2, q2, o2, p2⟩ => ?_⟩
  dsimp only at p2
  cases e : cmp o t.d t2.d with
  | none => rw [e] at p2; exact p2.elim
  | some k =>
    rw [e] at p2
    refine ⟨m2, h2, t.d, t2.d, .fz (.bl k), r2.hp, (q1.next r1.hp y2 o1).1.rd, q2.rd, by rw [cmpT, e]; rfl, fun w H3 y rh rt own => ⟨k, rt, ?_⟩⟩
    have r3 : SR m2 s h2 σ H3 := r2.stay y rh
    have p3 := Pst.from p2 y rh
    cases k with
    | false => exact Pst.fz p3 rh rfl
    | true =>
      refine ⟨m2, s, h2, r3, Pst.mono (Pst.bind r3 p3) fun w2 H4 ⟨m4, t4, h4, r4, y4, q4, o4, p4⟩ => ?_⟩
      obtain ⟨t5, e5, p5⟩ := optE_ok p4
      have y24 : Ex m2 H2 m4 H4 := y.comp rh y4
      exact ⟨m4, h4, t2.d, t4.d, t5, r4.hp, (q2.next r2.hp y24 o2).1.rd, q4.rd, e5, p5⟩
theorem se_chn {a1 b1 c1 : Expr} {a b c : E} {o o' : Cop} {op op' : CmpOp} {pos : Pos} (ho : OpM X (compareOp op) (cmpT o)) (ho' : OpM X (compareOp op') (cmpT o')) (ha : PE X a1 (tr G Φ x W a)) (hb : PE X b1 (tr G Φ x W b)) (hc : PE X c1 (tr G Φ x W c))
    (hm : lastMarks [op, op'] [b1, c1] = false := by rfl) : PE X (.Compare a1 [op, op'] [b1, c1] pos) (te G Φ x W (.chn o o' a b c)) :=
  PEimp (pe_chain ho ho' ha hb hc hm) fun _ _ _ => chn_le
/-- .. as a test -/
theorem st_chn {a1 b1 c1 : Expr} {a b c : E} {o o' : Cop} {op op' : CmpOp} {pos : Pos} (ho : OpM X (compareOp op) (cmpT o)) (ho' : OpM X (compareOp op') (cmpT o')) (ha : PE X a1 (tr G Φ x W a)) (hb : PE X b1 (tr G Φ x W b)) (hc : PE X c1 (tr G Φ x W c))
    (hm : lastMarks [op, op'] [b1, c1] = false := by rfl) : PT X (.Compare a1 [op, op'] [b1, c1] pos) (tt G Φ x W (.chn o o' a b c)) :=
  ⟨fun pins s σ H Q I q => (pt_chain ho ho' ha hb hc hm).run pins s σ H Q I (chn_le q)⟩

/-! ### items -/
theorem ixN_lib (n : Nat) (i : Int) : L2.ixN n i = Ma.ixN n i := by
  unfold L2.ixN
  cases i with
  | ofNat k =>
    simp only [Ma.ixN, Nat.blt_eq]
    by_cases c : k < n
    · simp [c]
    · simp [c]
  | negSucc k =>
    simp only [Ma.ixN, Nat.blt_eq]
    rw [if_neg (by omega)]
    by_cases c : k < n
    · rw [if_pos (by omega), if_pos c]
      congr 1
      omega
    · rw [if_neg (by omega), if_neg c]
theorem atI_eq {α : Type} (xs : List α) (i : Int) : L2.atI xs i = (Ma.ixN xs.length i).bind fun j => xs[j]? := by
  rw [← ixN_lib]
  rfl
theorem atI_rps {ds : List D} {vs : List V} {i : Int} {d : D} (r : Rps m H ds vs) (e : Ma.atI ds i = some d) : ∃ v, L2.atI vs i = some v ∧ Rp m H d v := by
  unfold Ma.atI at e
  obtain ⟨j, ej, e⟩ := Option.bind_eq_some_iff.mp e
  obtain ⟨v, ev, q⟩ := r.get e
  refine ⟨v, ?_, q⟩
  rw [atI_eq, r.len, ej]
  exact ev
theorem lookK_rpk : ∀ {ks : List (Int × D)} {ws : List (Key × V)} (i : Int), Rpk m H ks ws → (match lookK i ks with
  | some d => ∃ v, valV ws (Sum.inl i) = some v ∧ Rp m H d v
  | none => valV ws (Sum.inl i) = none : Prop)
  | [], _, i, h => by rw [show _ = [] from h]; rfl
  | (a, d) :: r, _, i, ⟨v, q, e, h, t⟩ => by
    subst e
    unfold lookK
    by_cases c : a = i
    · subst c
      rw [beq_self_eq_true, if_pos rfl]
      exact ⟨v, valV_pos rfl, h⟩
    · rw [show (a == i) = false from beq_eq_false_iff_ne.mpr c, if_neg Bool.false_ne_true, valV_neg (fun z => c (Sum.inl.inj z))]
      exact lookK_rpk i t
/-- a shared list -/
theorem RpH.get {h : RH} {n : Nat} {xs : List D} {v : V} (rh : RpH m h H) (r : Rp m H (.ref n) v) (e : h[n]? = some (.lst xs)) : ∃ a vs, v = .ref a ∧ a ∈ m ∧ m[n]? = some a ∧ H a = some (.lst vs) ∧ Rps m H xs vs := by
  obtain ⟨a, ea, rfl⟩ := r
  obtain ⟨vs, q, t⟩ := rh.at_ n _ a e ea
  exact ⟨a, vs, rfl, List.mem_of_getElem? ea, ea, q, t⟩
def rIxM : R2 := fun u v H Q => ∃ (m : List Addr) (h : RH) (a : D) (i : Int) (d : D), RpH m h H ∧ RpR m H a u ∧ v = .int i ∧ idxD a i h = some d ∧ ∀ w, Rp m H d w → Q w H
theorem ix_m (hu : X.A.units + 1 < cLine) : IxR X rIxM := by
  intro value slice pins s σ H u v ru rv Q I hu' hv ⟨m, h, a, i, d, rh, ra, ei, e, q⟩ hs
  unfold idxD at e
  split at e
  · obtain ⟨a, vs, rfl, ha, r1⟩ := ra
    obtain ⟨w, ew, rw'⟩ := atI_rps r1 e
    exact ix_tup value slice pins s σ H _ _ _ _ Q I hu' hv ⟨a, vs, i, w, rfl, ei, .of ha, ew, q w rw'⟩ hs
  · obtain ⟨a, vs, rfl, ha, r1⟩ := ra.lst
    obtain ⟨w, ew, rw'⟩ := atI_rps r1 e
    exact ix_list value slice pins s σ H _ _ _ _ Q I hu' hv ⟨a, vs, i, w, rfl, ei, .inl ha, ew, q w rw'⟩ hs
  · rename_i xs
    split at e
    · rename_i hz
      unfold Ma.atI at e
      obtain ⟨j, ej, e⟩ := Option.bind_eq_some_iff.mp e
      rw [List.getElem?_map] at e
      obtain ⟨c, ec, rfl⟩ := Option.map_eq_some_iff.mp e
      obtain ⟨z, rfl, ez⟩ := ra
      rw [List.length_map] at ej
      have hc : L2.atI z.cps.toList i = some c := by rw [atI_eq, ez, ej]; exact ec
      have hl : z.length ≤ sizeLine := by
        have := okN_le hz
        rw [← ez] at this
        simpa [Str.length] using this
      exact ix_str value slice pins s σ H _ _ _ _ Q I hu' hv ⟨z, i, c, rfl, ei, hl, hc, q _ ⟨_, rfl, rfl⟩⟩ hs
    · cases e
  · obtain ⟨a, ws, rfl, ha, r1⟩ := show ∃ a ws, u = .ref a ∧ Rd H a (.dK ws) ∧ Rpk m H _ ws from ra
    have l := lookK_rpk i r1
    rw [e] at l
    obtain ⟨w, ew, rw'⟩ := l
    subst ei
    have g : DGet H a (V.int i) (some w) := .inl ⟨ws, .inl i, ha, rfl, ew.symm⟩
    obtain rfl : ru = Value.ref a := hu'
    exact PyProof.Rows.tail_any (dict_typeIs I g) PySem.F.slot_dict_getitem.lookup (d_getItem hu I g hv fun w' s3 I3 rw3 => (⟨w, H, I3, rw3, q w rw'⟩ : EP X pins σ Q w' s3)) hs
  · split at e
    · rename_i n xs en
      obtain ⟨a, vs, rfl, _, _, ha, r1⟩ := rh.get ra en
      obtain ⟨w, ew, rw'⟩ := atI_rps r1 e
      exact ix_list value slice pins s σ H _ _ _ _ Q I hu' hv ⟨a, vs, i, w, rfl, ei, .of ha, ew, q w rw'⟩ hs
    · cases e
  · cases e
theorem se_idx (hu : X.A.units + 1 < cLine) {py1 py2 : Expr} {a b : E} {pos : Pos} (ha : PE X py1 (tr G Φ x W a)) (hb : PE X py2 (te G Φ x W b)) (hs : PlainIx py2 := by intro _ _; rfl) : PE X (.Subscript py1 py2 pos) (te G Φ x W (.idx a b)) := by
  refine PEimp (pe_ix (ix_m hu) ha hb hs) fun σ H Q ⟨m, s, h, r, p⟩ => ?_
  rw [ev] at p
  refine ⟨m, s, h, r, Pst.mono (Pst.bind r p) fun u H1 ⟨m1, t, h1, r1, y1, q1, o1, p1⟩ => ?_⟩
  refine ⟨m1, s, h1, r1, Pst.mono (Pst.int r1 p1 (R := fun i H2 => rIxM u (.int i) H2 Q) fun i m2 h2 H2 r2 y2 p2 => ?_) fun v H2 ⟨i, e, q⟩ => by rw [e]; exact q⟩
  obtain ⟨t2, e2, p2⟩ := optE_ok p2
  obtain ⟨d, e3, rfl⟩ := Option.map_eq_some_iff.mp e2
  exact ⟨m2, h2, t.d, i, d, r2.hp, (q1.next r1.hp y2 o1).1.rd, rfl, e3, fun w rw' => p2.fz r2.hp rw'⟩
end
end Ma
set_option maxHeartbeats 4000000
/-! Slices. -/
namespace Ma
section
open PySem PySem.Spec PyProof.Rows HT
variable {prog : Program} {w : World} {A : Around} {E : Value → Shared → Prop} {s : Shared}
theorem adjust_rev (n : Nat) : Builtin.Slice.sliceAdjust none none (-1) (n : Int) = ((n : Int) - 1, -1) := rfl
theorem places_rev (n : Nat) : Builtin.Slice.slicePlaces ((n : Int) - 1) (-1) (-1) = n := by
  unfold Builtin.Slice.slicePlaces
  rw [if_neg (by decide)]
  by_cases h : n = 0
  · subst h; decide
  · rw [if_pos (by omega)]
    have : ((n : Int) - 1 - -1 - 1) / -(-1) = (n : Int) - 1 := by
      rw [show -(-1 : Int) = 1 from rfl, Int.ediv_one]; omega
    rw [this]; omega
/-- what a slice object with no bounds and the step -1 asks of n items -/
theorem applied_back {sl : Addr} {n : Nat} {t : Tok} {Q : Int × Int × Nat → Shared → Prop} (stands : s.heap.IsSliceOf sl .none .none (.int (-1) t))
    (go : Q ((n : Int) - 1, -1, n) s) : wpAny (model prog w) A (Builtin.Slice.sliceApplied (.ref sl) (pure (n : Int))) Q E s := by
  have ⟨_, there, _, parts⟩ := stands
  have three : wpAny (model prog w) A (Builtin.Slice.sliceFields (.ref sl)) (fun r s' => r = (Value.none, Value.none, Value.int (-1) t) ∧ s' = s) E s := by
    unfold Builtin.Slice.sliceFields
    exact wpAny_bind (wpAny_field there parts rfl (wpAny_bind (wpAny_field there parts rfl (wpAny_bind (wpAny_field there parts rfl (wpAny_pure ⟨rfl, rfl⟩))))))
  unfold Builtin.Slice.sliceApplied
  refine wpAny_bind (wpAny_mono three ?_ fun _ _ z => z)
  rintro _ _ ⟨rfl, rfl⟩
  refine wpAny_bind (slicePart_int ?_)
  dsimp only
  refine wpAny_bind (slicePart_none (wpAny_bind (slicePart_none (wpAny_bind (wpAny_pure ?_)))))
  have pl := places_rev n
  show wpAny _ _ (pure ((Builtin.Slice.sliceAdjust none none (-1) (n : Int)).1, (-1 : Int), Builtin.Slice.slicePlaces (Builtin.Slice.sliceAdjust none none (-1) (n : Int)).1 (Builtin.Slice.sliceAdjust none none (-1) (n : Int)).2 (-1))) _ _ _
  rw [adjust_rev, pl]
  exact wpAny_pure go
theorem pick_rev (xs : Array Value) : ((List.range xs.size).filterMap fun (m : Nat) => xs[(((xs.size : Nat) : Int) - 1 + (m : Int) * (-1)).toNat]?) = xs.toList.reverse := by
  have e : ∀ m ∈ List.range xs.size, xs[(((xs.size : Nat) : Int) - 1 + (m : Int) * (-1)).toNat]? = xs[xs.size - 1 - m]? := by
    intro m hm
    rw [List.mem_range] at hm
    have : (((xs.size : Nat) : Int) - 1 + (m : Int) * (-1)).toNat = xs.size - 1 - m := by omega
    rw [this]
  have h2 := PySem.W.krv_range xs.size
  have h3 := PySem.W.krv_all xs
  have h5 : (List.range xs.size).filterMap (fun (m : Nat) => xs[(((xs.size : Nat) : Int) - 1 + (m : Int) * (-1)).toNat]?) = (List.range xs.size).filterMap (fun m => xs[xs.size - 1 - m]?) := by
    generalize List.range xs.size = l at e
    induction l with
    | nil => rfl
    | cons a l ih => rw [List.filterMap_cons, List.filterMap_cons, e a (List.mem_cons_self ..), ih fun m hm => e m (List.mem_cons_of_mem _ hm)]
  have h4 : (List.range xs.size).filterMap (fun m => xs[xs.size - 1 - m]?) = ((List.range xs.size).map (fun k => xs.size - 1 - k)).filterMap (xs[·]?) := by
    rw [List.filterMap_map]; rfl
  rw [h5, h4, h2, List.filterMap_reverse, h3]
/-- a tuple's items from the last to the first, in a new tuple -/
theorem tuple_back {t sl : Addr} {its : Array Value} {tk : Tok} {Q : Value → Shared → Prop} (at_ : IsTup s.heap t its) (by_ : s.heap.IsSliceOf sl .none .none (.int (-1) tk)) (fit : its.size ≤ sizeLine)
    (go : Q (.ref s.heap.objs.size) { s with heap := s.heap.push { cls := .type "tuple", data := .seq its.toList.reverse.toArray } }) : wpAny (model prog w) A (getItem (.ref t) (.ref sl)) Q E s := by
  have ⟨_, so, sc, _⟩ := by_
  have no : ¬ ((((its.size : Nat) : Int) - 1 == 0 && (-1 : Int) == 1 && its.size == its.size) = true) := by simp
  have own : ∀ {A' : Around}, wpAny (model prog w) A' (Builtin.«tuple.__getitem__» ⟨[.ref t, .ref sl], []⟩) (fun fin st => ∃ v, fin = .done (.ret v) ∧ Q v st) E s := fun {A'} => by
    refine wpAny_bind (m := Builtin.Tuple.tupleItemsOf (.ref t)) (tupleItemsOf_ at_ (wpAny_bind (wpAny_typeOf (T := "slice") ⟨_, so, sc⟩ ?_)))
    simp only [beq_self_eq_true, if_true]
    refine wpAny_bind (applied_back by_ ?_)
    have made : wpAny (model prog w) A' (Builtin.Tuple.tupleExact its.toList.reverse.toArray) (fun v st => Q v st) E s := wpAny_newObj_type go (by simpa [sizeOk] using fit)
    simp only [no, if_false, pick_rev]
    exact wpAny_bind (wpAny_mono made (fun v st q => wpAny_pure ⟨v, rfl, q⟩) fun _ _ z => z)
  have slot := PyProof.Rows.slot_tuple_getitem
  have inner : wpAny (model prog w) A (call (.builtin "tuple.__getitem__") [.ref t, .ref sl]) Q E s :=
    wpAny_call_entry slot at_.typeIs entry_tuple_getitem (wpAny_mono own (fun fin st ⟨v, e, q⟩ => ⟨v, e, q⟩) fun _ _ z => z) (args_tuple_getitem _ _)
  unfold getItem
  apply wpAny_holding
  apply wpAny_bind
  apply wpAny_sequenceKey at_.typeIs (by decide)
  apply wpAny_bind
  apply wpAny_callSpecial?_slot at_.typeIs slot
  exact wpAny_mono inner (fun v st q => by simpa using wpAny_pure q) fun _ _ z => z
end
section
open PySem PySem.Spec L2
variable [TB]
variable {G : GC} {Φ : Cal} {x : List D} {W : WX} {X : Cx} {fr : Bool} {m m' : List Addr} {σ : L2.St} {H H' : Hp} {Q Q' : VK} {r : RE}
def vD : Option Int → V
  | none => .non
  | some i => .int i
/-- a slice's part -/
def tO (G : GC) (Φ : Cal) (x : List D) (W : WX) (e : E) : TO := fun σ H Q => ∃ m s h, SR m s h σ H ∧ Pst G true W m σ H (fun v H' => ∃ o, v = vD o ∧ Q o H') (ev Φ x e s h)
theorem so_none : PO X none (tO G Φ x W (.lit .non)) := by
  refine ⟨fun pins s σ H Q I ⟨m, sl, h, r, p⟩ => po_none.run pins s σ H Q I ?_⟩
  unfold ev at p
  obtain ⟨o, e, q⟩ := Pst.fz p r.hp (show Rp m H .non .non from rfl)
  cases o with
  | none => exact q
  | some i => cases e
theorem so_some {e : Expr} {a : E} (ha : PE X e (te G Φ x W a)) : PO X (some e) (tO G Φ x W a) := by
  refine ⟨fun pins s σ H Q I q => ?_⟩
  rw [evalPart_some]
  refine thn (ha.run pins s σ H (fun v H' => ∃ o, v = vD o ∧ Q o H') I q) fun u s1 ⟨v, H1, I1, r1, o, e, q1⟩ => ?_
  subst e
  cases o with
  | none =>
    rw [show u = Value.none from r1]
    exact ⟨none, H1, I1, .none, q1⟩
  | some i =>
    obtain ⟨t, rfl⟩ := r1
    exact ⟨some i, H1, I1, .int i t, q1⟩
theorem sIx_lib (n d : Nat) (o : Option Int) : HT.sIx n d o = Ma.sIx n d o := by
  cases o with
  | none => rfl
  | some v =>
    unfold HT.sIx
    cases v with
    | ofNat k =>
      simp only [Ma.sIx, Nat.blt_eq]
      have up : ¬ Int.ofNat k < 0 := Int.not_lt.mpr (Int.natCast_nonneg k)
      rw [if_neg up, show (Int.ofNat k).toNat = k from rfl]
      by_cases c : n < k
      · rw [if_pos c]; omega
      · rw [if_neg c]; omega
    | negSucc k =>
      simp only [Ma.sIx]
      rw [if_pos (by omega)]
      omega
theorem Rps.cut {xs : List D} {vs : List V} {lo hi : Option Int} (r : Rps m H xs vs) : Rps m H (cut xs (Ma.sIx xs.length 0 lo) (Ma.sIx xs.length xs.length hi)) (cutV vs lo hi) := by
  unfold cutV Ma.cut
  rw [r.len, sIx_lib, sIx_lib]
  exact (r.drop _).take _
def rSlM : V → Option Int → Option Int → Hp → VK → Prop := fun v lo hi H Q => ∃ (m : List Addr) (h : RH) (a : D) (t : T), RpH m h H ∧ RpR m H a v ∧ slcD a lo hi = some t ∧ PostT m h H t Q
theorem sl_m : SlR X rSlM := by
  intro pins s σ H v u vl vu lo hi sl Q I ru hs pl pu ⟨m, h, a, t, rh, ra, e, p⟩
  unfold slcD at e
  split at e
  · rename_i xs
    cases e
    obtain ⟨a, vs, rfl, ha, r1⟩ := ra
    have rc := r1.cut (lo := lo) (hi := hi)
    refine sl_tupA pins s σ H _ u vl vu lo hi sl Q I ru hs pl pu ⟨a, vs, rfl, .of ha, fun ⟨w1, w2⟩ => p.fz rh ⟨a, vs, rfl, ha, ?_⟩, fun _ q n => p.tup rh n rc⟩
    have : cutV vs lo hi = vs := by
      unfold cutV
      rw [w1, w2]
      simp
    rw [this] at rc
    exact rc
  · rename_i xs
    cases e
    obtain ⟨a, vs, rfl, ha, r1⟩ := ra.lst
    exact sl_list pins s σ H _ u vl vu lo hi sl Q I ru hs pl pu ⟨a, vs, rfl, .inl ha, fun q n => p.lst rh n r1.cut⟩
  · cases e
theorem Pst.part {f0 fr : Bool} {s : Sl} {h : RH} {F : Option Int → RH → RE} {R : Option Int → Hp → Prop} (q : SR m s h σ H) (p : Pst G fr W m σ H Q (r.part F))
    (k : ∀ b m' h' H', SR m' s h' σ H' → Ex m H m' H' → Pst G fr W m' σ H' Q (F b h') → R b H') : Pst G f0 W m σ H (fun v H' => ∃ b, v = vD b ∧ R b H') r := by
  cases r with
  | bad w => exact p
  | exc c xs h' => exact p
  | ok t h' =>
    cases t with
    | fz d =>
      cases d with
      | non => exact fun m' v H' y rh rt own => ⟨none, rt, k none m' h' H' (q.stay y rh) y (Pst.from p y rh)⟩
      | int b => exact fun m' v H' y rh rt own => ⟨some b, rt, k (some b) m' h' H' (q.stay y rh) y (Pst.from p y rh)⟩
      | _ => exact p.elim
    | _ => exact p.elim
theorem se_slc {py1 : Expr} {lo hi : Option Expr} {a b c : E} {pos p2 : Pos} (ha : PE X py1 (tr G Φ x W a)) (hb : PO X lo (tO G Φ x W b)) (hc : PO X hi (tO G Φ x W c)) : PE X (.Subscript py1 (.Slice lo hi none p2) pos) (te G Φ x W (.slc a b c)) := by
  refine PEimp (pe_slice sl_m ha hb hc) fun σ H Q ⟨m, s, h, r, p⟩ => ?_
  rw [ev] at p
  refine ⟨m, s, h, r, Pst.mono (Pst.bind r p) fun u H1 ⟨m1, t, h1, r1, y1, q1, o1, p1⟩ => ?_⟩
  refine ⟨m1, s, h1, r1, Pst.part r1 p1 fun o2 m2 h2 H2 r2 y2 p2 => ⟨m2, s, h2, r2, Pst.part r2 p2 fun o3 m3 h3 H3 r3 y3 p3 => ?_⟩⟩
  obtain ⟨t4, e4, p4⟩ := optE_ok p3
  exact ⟨m3, h3, t.d, t4, r3.hp, (q1.next r1.hp (y2.comp r2.hp y3) o1).1.rd, e4, p4⟩
/-- t[::-1], t a tuple -/
theorem pe_back {e : Expr} {t : TE} {k : Nat} {p1 p2 p3 pos : Pos} (he : PE X e t) : PE X (.Subscript e (.Slice none none (some (.UnaryOp .USub (.Constant (.int 1) k p1) p2)) p3) pos)
    (fun σ H Q => t σ H fun v H1 => ∃ a xs, v = .ref a ∧ SqT X.K H1 a xs ∧ ∀ n, H1 n = none → Q (.ref n) (upd H1 n (.tup xs.reverse))) := by
  constructor
  intro pins st σ hp Q inv go
  apply PyProof.Rows.Subscript_
  refine thn (he.run pins st σ hp _ inv go) ?_
  rintro u st1 ⟨_, hp1, inv1, ru, a, xs, rfl, sq, done⟩
  cases ru
  apply wpAny_Slice
  rw [evalPart_none]
  apply wpAny_pure
  apply wpAny_pure
  rw [evalPart_some]
  refine thn ((pe_un un_neg pe_int).run pins st1 σ hp1 (fun v h => v = .int (-1) ∧ h = hp1) inv1 ⟨1, rfl, rfl, rfl⟩) ?_
  rintro w st2 ⟨_, _, inv2, rw', rfl, rfl⟩
  have ⟨tk, ew⟩ := rw'
  subst ew
  have inv3 := inv2.kept (t' := st2.toks) fun b o => Heap.get?_push_of_some ({ cls := .type "slice", data := .fields #[.none, .none, .int (-1) tk] } : Obj)
  have ⟨its, rel, tup, fit⟩ := inv3.tuple sq
  have new := inv3.laid (t' := st2.toks) (o := .tup xs.reverse) (fun b o => Heap.get?_push_of_some _) (Nat.le_refl _) ⟨by simpa using fit, its.reverse, rel.reverse, PyProof.Rows.IsTup.new _ _⟩
  have size : its.toArray.size ≤ sizeLine := by have := rel.length; simp; omega
  refine PyProof.Rows.tail_any tup.typeIs PyProof.Rows.slot_tuple_getitem.lookup (tuple_back tup (Heap.IsSliceOf.new ..) size ?_) (by with_unfolding_all rfl)
  have ends : EP X pins σ Q (.ref _) _ := ⟨V.ref _, _, new, rfl, done _ inv3.fresh⟩
  simpa using ends
/-- .. or a list -/
theorem pe_either {e : Expr} {t : TE} {k : Nat} {p1 p2 p3 pos : Pos} (he : PE X e t) : PE X (.Subscript e (.Slice none none (some (.UnaryOp .USub (.Constant (.int 1) k p1) p2)) p3) pos)
    (fun σ H Q => (t σ H fun v H1 => ∃ a xs, v = .ref a ∧ SqT X.K H1 a xs ∧ ∀ n, H1 n = none → Q (.ref n) (upd H1 n (.tup xs.reverse))) ∨ tRevL X.K t σ H Q) :=
  ⟨fun pins s σ H Q I q => q.elim ((pe_back he).run pins s σ H Q I) ((pe_revL he).run pins s σ H Q I)⟩
theorem se_rev {e : Expr} {a : E} {k : Nat} {p1 p2 p3 pos : Pos} (he : PE X e (tr G Φ x W a)) : PE X (.Subscript e (.Slice none none (some (.UnaryOp .USub (.Constant (.int 1) k p1) p2)) p3) pos) (te G Φ x W (.rev a)) := by
  refine PEimp (pe_either he) ?_
  rintro σ H Q ⟨m, s, h, r, p⟩
  rw [ev] at p
  by_cases lst : ∃ t h' xs, rdv a s h (ev Φ x a s h) = .ok t h' ∧ t.d = .lst xs
  · obtain ⟨t, h', xs, e, ed⟩ := lst
    refine .inr ⟨m, s, h, r, ?_⟩
    rw [e] at p ⊢
    intro m1 v H1 y1 r1 q1 o1
    obtain ⟨t2, e2, p2⟩ := optE_ok (Pst.from p y1 r1)
    have rd := q1.rd
    rw [ed] at rd e2
    cases e2
    obtain ⟨l, vs, rfl, at_, rel⟩ := rd
    exact ⟨l, vs, rfl, .inl at_, fun n new => p2.lst r1 new rel.rev⟩
  · refine .inl ⟨m, s, h, r, ?_⟩
    cases e : rdv a s h (ev Φ x a s h) with
    | bad w => rw [e] at p; exact p
    | exc c ys h' => rw [e] at p; exact p
    | ok t h' =>
      rw [e] at p
      intro m1 v H1 y1 r1 q1 o1
      obtain ⟨t2, e2, p2⟩ := optE_ok (Pst.from p y1 r1)
      have rd := q1.rd
      unfold revD at e2
      split at e2
      · rename_i xs ed
        rw [ed] at rd
        cases e2
        obtain ⟨l, vs, rfl, at_, rel⟩ := rd
        exact ⟨l, vs, rfl, .of at_, fun n new => p2.tup r1 new rel.rev⟩
      · rename_i xs ed
        exact absurd ⟨t, h', xs, e, ed⟩ lst
      · cases e2
end
end Ma
set_option maxHeartbeats 4000000
/-! Calls. -/
namespace Ma
open PySem PySem.Spec L2
variable [TB]
/-- room, and no text is being shown -/
def Rm (k : Nat) (A : Around) : Prop := Room k A ∧ A.guards = some []
theorem Rm.mono {j k : Nat} {A : Around} (r : Rm k A) (h : j ≤ k) : Rm j A := ⟨r.1.mono h, r.2⟩
/-- a def keeps its promise wherever there is such room -/
structure FnG (P : Program) (w : World) (K : PySem.W.Frag) (mg : Str → Option Value) (base : Heap) (CX : CXT) (k : Nat) (f : Addr) (fd : FuncData) (ps : List Str) (sp : Sp) : Prop where
  len : ∀ vs H Q E, sp vs H Q E → vs.length = ps.length
  run : ∀ (A : Around) (outer : List Env) (s : Shared) (H : Hp) (args : Args) (us : List Value) (vs : List V) (Q : VK) (E : XK), Rm k A → Env0 P w K mg base A outer s H → BindsTo s fd args (ps.zip us) → Vals vs us → sp vs H Q E →
    codeAny (model P w) A (.call (.ref f) args) (CR CX outer P w H s Q E) s
section
variable {G : GC} {Φ : Cal} {x : List D} {W : WX} {X : Cx} {fr : Bool} {m m' : List Addr} {σ : L2.St} {H H' : Hp} {Q Q' : VK} {r : RE}
/-- what a def promises: what the machine computes -/
def spF (G : GC) (Φ : Cal) (i np : Nat) : Sp := fun vs H Q E => vs.length = np ∧ ∃ m h ds, RpH m h H ∧ Rps m H ds vs ∧ Pst G true (fun c d _ H => E c d H) m [] H Q (Φ i ds h)
theorem Pst.spec {E : XK} (p : Pst G fr W m σ H Q r) (hE : ∀ c d H', W c d σ H' → E c d H') : Pst G fr (fun c d _ H => E c d H) m [] H Q r := by
  cases r with
  | ok t h => exact p
  | exc c xs h => exact fun m' H' cls d a b c => hE _ _ _ (p m' H' cls d a b c)
  | bad w => exact p
theorem run_fnM {k : Nat} {f : Addr} {fd : FuncData} {ps : List Str} {i np : Nat} {pins : List (Addr × Obj)} {s : Shared} {us : List Value} {vs : List V} {args : Args}
    (F : FnG X.prog X.w X.K X.mg X.base (L2.CX X.prog X.w) k f fd ps (spF G Φ i np)) (hr : Rm k X.A) (tk : Takes X W) (I : L2.Inv X pins σ H s) (b : BindsTo s fd args (ps.zip us)) (r : Vals vs us) (h : spF G Φ i np vs H Q (WE W σ)) :
    codeAny (model X.prog X.w) X.A (.call (.ref f) args) (fun r s' => match r with | .ok (.ret u) => EP X pins σ Q u s' | .ok _ => False | .error e => X.xe e s') s := by
  refine codeAny_mono (F.run X.A X.stack s H args us vs Q (WE W σ) hr I.env0 b r h) fun r s' hq => ?_
  cases r with
  | error e => exact passAt tk σ pins H s e s' I hq
  | ok fl =>
    cases fl with
    | ret u => exact I.after hq
    | next => exact False.elim hq
    | brk => exact False.elim hq
    | cont => exact False.elim hq
/-- a row with data behind -/
def litRow : List D → E
  | [] => .nil
  | d :: r => .cons (.lit d) (litRow r)
def rowCat : E → E → E
  | .cons a b, c => .cons a (rowCat b c)
  | _, c => c
theorem ev_lits (s : Sl) (h : RH) : ∀ ds : List D, ev Φ x (litRow ds) s h = .ok (.fz (.tup ds)) h
  | [] => by rw [litRow, ev]
  | d :: r => by
    rw [litRow, ev, ev]
    simp only [RE.bind]
    rw [ev_lits s h r]
    rfl
theorem ev_cat {b : E} : ∀ (a : E) (s : Sl) (h : RH), isRow a = true → isRow b = true → ev Φ x (rowCat a b) s h = (ev Φ x a s h).row fun xs h => (ev Φ x b s h).row fun ys h => .ok (.fz (.tup (xs ++ ys))) h
  | .nil, s, h, _, hb => by
    show ev Φ x b s h = _
    conv => rhs; rw [ev]
    exact (row_is hb).symm
  | .cons a c, s, h, ha, hb => by
    rw [rowCat, ev, ev]
    cases e1 : ev Φ x a s h with
    | bad w => rfl
    | exc cc xs h' => rfl
    | ok t h1 =>
      simp only [RE.bind]
      rw [ev_cat c s h1 ha hb]
      cases e2 : ev Φ x c s h1 with
      | bad w => rfl
      | exc cc xs h' => rfl
      | ok t2 h2 =>
        cases t2 with
        | fz d => cases d with
          | tup ds =>
            simp only [RE.row, RE.bind]
            cases e3 : ev Φ x b s h2 with
            | bad w => rfl
            | exc cc xs h' => rfl
            | ok t3 h3 => cases t3 with
              | fz d => cases d <;> rfl
              | _ => rfl
          | _ => rfl
        | _ => rfl
/-- the def stands where it is called: nothing raised but what W takes -/
structure At (X : Cx) (G : GC) (Φ : Cal) (W : WX) (y : Str) (i np : Nat) (f : Addr) (fd : FuncData) (ps : List Str) (k : Nat) : Prop where
  ok : FnG X.prog X.w X.K X.mg X.base (L2.CX X.prog X.w) k f fd ps (spF G Φ i np)
  room : Rm k X.A
  mg : X.mg y = some (.ref f)
  kp : PySem.W.keepIn X.K (.ref f) = true
theorem se_call {y : Str} {i np k : Nat} {f : Addr} {fd : FuncData} {ps : List Str} {e : Expr} {es : List Expr} {a : E} {p pos : Pos} (F : At X G Φ W y i np f fd ps k) (hg : Gl X y) (tk : Takes X W) (hb : L2.Binds X.K fd ps []) (hps : ps.length = np)
    (ha : PA X (e :: es) (ta G Φ x W a)) (hr : isRow a = true) (hn : rowN a = np) (hdb : (y == ("__debug__" : Str)) = false := by decide)
    (he : starEach (e :: es) X.env = (false, eval e X.env) :: starEach es X.env := by rfl) (hpl : (backTo pos (starEach es X.env)).any (·.1) = false := by rfl) :
    PE X (.Call (.Name y p) (e :: es) [] pos) (te G Φ x W (.call i a)) := by
  refine ⟨fun pins s σ H Q I ⟨m, sl, h, r, q⟩ => ?_⟩
  rw [ev] at q
  refine wpAny_Call_Name_kw (ld_glob I hg F.mg ?_ hdb)
  have q2 := ta_row (R := fun vs H' => spF G Φ i np vs H' Q (WE W σ)) hr r q fun ds h' m' vs H' r' y rs l q' => ⟨by rw [l, hn], m', h', ds, r'.hp, rs, q'.spec fun _ _ _ z => z⟩
  refine PySem.W.callWith_K (h₀ := X.base) I.ok.mod.kin F.kp (thn (ha.run pos pins s σ H _ I q2) fun us s1 ⟨vs, H1, I1, rv, q3⟩ => ⟨I1.kIn, ?_⟩) he hpl
  refine wpAny_call (run_fnM (us := us) F.ok F.room tk I1 ?_ rv q3)
  have b := hb s1 us I1.kIn (by rw [List.append_nil, ← rv.length, q3.1, hps])
  rw [List.append_nil] at b
  exact b
theorem se_call0 {y : Str} {i k : Nat} {f : Addr} {fd : FuncData} {ps : List Str} {p pos : Pos} (F : At X G Φ W y i 0 f fd ps k) (hg : Gl X y) (tk : Takes X W) (hb : L2.Binds X.K fd ps []) (hps : ps.length = 0)
    (hdb : (y == ("__debug__" : Str)) = false := by decide) :
    PE X (.Call (.Name y p) [] [] pos) (te G Φ x W (.call i .nil)) := by
  refine ⟨fun pins s σ H Q I ⟨m, sl, h, r, q⟩ => ?_⟩
  rw [ev, ev] at q
  refine wpAny_Call_Name_kw (ld_glob I hg F.mg ?_ hdb)
  refine PySem.W.callWith_K0 I.kIn F.kp (wpAny_call (run_fnM (us := []) (vs := []) F.ok F.room tk I ?_ .nil ⟨rfl, m, h, [], r.hp, rfl, q.spec fun _ _ _ z => z⟩))
  exact hb s [] I.kIn (by rw [List.append_nil, hps]; rfl)
/-- with defaults -/
theorem se_callD {y : Str} {i np k : Nat} {f : Addr} {fd : FuncData} {ps : List Str} {e : Expr} {es : List Expr} {a b : E} {ds : List D} {dvs : List V} {us0 : List Value} {p pos : Pos} (F : At X G Φ W y i np f fd ps k) (hg : Gl X y) (tk : Takes X W) (hb : L2.Binds X.K fd ps us0) (hd : Vals dvs us0)
    (hD : ∀ m H, Rps m H ds dvs) (hps : ps.length = np)
    (ha : PA X (e :: es) (ta G Φ x W a)) (hr : isRow a = true) (hn : rowN a + ds.length = np) (hE : b = rowCat a (litRow ds)) (hdb : (y == ("__debug__" : Str)) = false := by decide)
    (he : starEach (e :: es) X.env = (false, eval e X.env) :: starEach es X.env := by rfl) (hpl : (backTo pos (starEach es X.env)).any (·.1) = false := by rfl) :
    PE X (.Call (.Name y p) (e :: es) [] pos) (te G Φ x W (.call i b)) := by
  subst hE
  have hL : ∀ ds, isRow (litRow ds) = true := fun ds => by induction ds with | nil => rfl | cons d r ih => exact ih
  refine ⟨fun pins s σ H Q I ⟨m, sl, h, r, q⟩ => ?_⟩
  have e0 : ev Φ x (.call i (rowCat a (litRow ds))) sl h = (ev Φ x a sl h).row fun xs h => Φ i (xs ++ ds) h := by
    rw [ev, ev_cat a sl h hr (hL ds)]
    cases ev Φ x a sl h with
    | bad w => rfl
    | exc cc xs h' => rfl
    | ok t h1 => cases t with
      | fz d => cases d with
        | tup xs => simp only [RE.row, RE.bind, ev_lits]
        | _ => rfl
      | _ => rfl
  rw [e0] at q
  refine wpAny_Call_Name_kw (ld_glob I hg F.mg ?_ hdb)
  have q2 := ta_row (R := fun vs H' => spF G Φ i np (vs ++ dvs) H' Q (WE W σ)) hr r q fun xs h' m' vs H' r' y rs l q' => ⟨by rw [List.length_append, l, (hD m H).len, hn], m', h', xs ++ ds, r'.hp, rs.app (hD m' H'), q'.spec fun _ _ _ z => z⟩
  refine PySem.W.callWith_K (h₀ := X.base) I.ok.mod.kin F.kp (thn (ha.run pos pins s σ H _ I q2) fun us s1 ⟨vs, H1, I1, rv, q3⟩ => ⟨I1.kIn, ?_⟩) he hpl
  refine wpAny_call (run_fnM (us := us ++ us0) F.ok F.room tk I1 (hb s1 us I1.kIn ?_) (rv.append hd) q3)
  rw [← (rv.append hd).length, q3.1, hps]
/-- with keywords, in the parameters' order -/
theorem sk_nil : PK X [] (ta G Φ x W .nil) :=
  ⟨fun pos pins s σ H Q I ⟨m, sl, h, r, p⟩ => pk_nil.run pos pins s σ H Q I (by unfold ev at p; exact p m [] H Ex.refl r.hp rfl)⟩
theorem sk_cons {nm : Option Str} {e : Expr} {kpos : Pos} {kws : List Keyword} {a b : E} (ha : PE X e (te G Φ x W a)) (hb : PK X kws (ta G Φ x W b)) : PK X (⟨nm, e, kpos⟩ :: kws) (ta G Φ x W (.cons a b)) := by
  refine ⟨fun pos pins s σ H Q I ⟨m, sl, h, r, p⟩ => (pk_cons (sf_of ha) hb).run pos pins s σ H Q I ?_⟩
  unfold ev at p
  refine ⟨m, sl, h, r, ?_⟩
  cases e1 : ev Φ x a sl h with
  | bad w => rw [e1] at p; exact p
  | exc c xs h' => rw [e1] at p; exact p
  | ok t h' =>
    rw [e1] at p
    intro m' v H' y rh rt own
    have rv : Rp m' H' t.d v := rt
    refine ⟨m', sl, h', r.stay y rh, ?_⟩
    simp only [RE.bind] at p
    cases e2 : ev Φ x b sl h' with
    | bad w => rw [e2] at p; exact p
    | exc c xs h2 => rw [e2] at p; exact fun m2 H2 cls d z => p m2 H2 cls d (y.comp rh z)
    | ok t2 h2 =>
      rw [e2] at p
      cases t2 with
      | fz d =>
        cases d with
        | tup ds =>
          intro m2 vs H2 z rh2 rs
          exact p m2 (v :: vs) H2 (y.comp rh z) rh2 ⟨v, vs, rfl, Rp.per (z.per rh) _ _ rv, rs⟩
        | _ => exact p
      | _ => exact p
theorem se_callK {y : Str} {i np n k : Nat} {f : Addr} {fd : FuncData} {ps ks : List Str} {e : Expr} {es : List Expr} {kws : List Keyword} {a b c : E} {g : List Value → List Value → List Value} {gV : List V → List V → List V} {p pos : Pos} (F : At X G Φ W y i np f fd ps k) (hg : Gl X y) (tk : Takes X W)
    (hb : KBn X.K fd ps n ks g gV) (hgV : ∀ vs zs, gV vs zs = vs ++ zs)
    (ha : PA X (e :: es) (ta G Φ x W a)) (hkw : PK X kws (ta G Φ x W b)) (hr : isRow a = true) (hr2 : isRow b = true) (hn : rowN a = n) (hn2 : rowN b = ks.length) (hn3 : n + ks.length = np) (hE : c = rowCat a b)
    (hall : (backToKw pos (keywordEach kws X.env)).all (·.1.isSome) = true := by rfl) (hks : (backToKw pos (keywordEach kws X.env)).filterMap (·.1) = ks := by rfl)
    (hdb : (y == ("__debug__" : Str)) = false := by decide) (he : starEach (e :: es) X.env = (false, eval e X.env) :: starEach es X.env := by rfl)
    (hpl : ((backTo pos (starEach (e :: es) X.env)).any (·.1) || (backToKw pos (keywordEach kws X.env)).any (·.1.isNone)) = false := by rfl) :
    PE X (.Call (.Name y p) (e :: es) kws pos) (te G Φ x W (.call i c)) := by
  subst hE
  refine ⟨fun pins s σ H Q I ⟨m, sl, h, r, q⟩ => ?_⟩
  have e0 : ev Φ x (.call i (rowCat a b)) sl h = (ev Φ x a sl h).row fun xs h => (ev Φ x b sl h).row fun ys h => Φ i (xs ++ ys) h := by
    rw [ev, ev_cat a sl h hr hr2]
    cases ev Φ x a sl h with
    | bad w => rfl
    | exc cc xs h' => rfl
    | ok t h1 => cases t with
      | fz d => cases d with
        | tup xs =>
          simp only [RE.row, RE.bind]
          cases ev Φ x b sl h1 with
          | bad w => rfl
          | exc cc xs h' => rfl
          | ok t h2 => cases t with
            | fz d => cases d <;> rfl
            | _ => rfl
        | _ => rfl
      | _ => rfl
  rw [e0] at q
  refine wpAny_Call_Name_kw (ld_glob I hg F.mg ?_ hdb)
  have q2 := ta_row (R := fun vs H' => vs.length = n ∧ ta G Φ x W b σ H' fun zs H2 => zs.length = ks.length ∧ spF G Φ i np (gV vs zs) H2 Q (WE W σ)) hr r q fun xs h' m' vs H' r' y rs l q' =>
    ⟨by rw [l, hn], ta_row hr2 r' q' fun ys h2 m2 zs H2 r2 y2 rs2 l2 q2 => ⟨by rw [l2, hn2], by rw [hgV, List.length_append, l, l2, hn, hn2, hn3], m2, h2, xs ++ ys, r2.hp, by rw [hgV]; exact (Rps.per (y2.per r'.hp) _ _ rs).app rs2, q2.spec fun _ _ _ z => z⟩⟩
  refine PySem.W.callWith_KW (h₀ := X.base) I.ok.mod.kin F.kp hall (thn (ha.run pos pins s σ H _ I q2) fun us s1 ⟨vs, H1, I1, rv, l1, q3⟩ => ?_) hpl he
  refine thn (hkw.run pos pins s1 σ H1 _ I1 q3) fun ws s2 ⟨zs, H2, I2, rz, l2, q4⟩ => ⟨I2.kIn, ?_⟩
  rw [hks]
  exact wpAny_call (run_fnM (us := g us ws) F.ok F.room tk I2 (hb.to s2 us ws I2.kIn (rv.length.symm.trans l1) (rz.length.symm.trans l2)) (hb.rel rv rz) q4)
end
end Ma
set_option maxHeartbeats 4000000
/-! Statements. -/
namespace Ma
open PySem PySem.Spec L2
variable [TB]

/-- the state of a frame whose call began at m0, H0 -/
structure SF (m0 : List Addr) (H0 : Hp) (m : List Addr) (s : Sl) (h : RH) (σ : L2.St) (H : Hp) : Prop where
  sr : SR m s h σ H
  ex : Ex m0 H0 m H
  new : ∀ (i : Nat) t a, s[i]? = some t → t.own = true → σ[i]? = some (some (.ref a)) → H0 a = none
/-- what must hold behind a statement -/
def PstS (G : GC) (W : WX) (m0 : List Addr) (H0 : Hp) (m : List Addr) (H : Hp) (D : Ends) : RS → Prop
  | .nx s' h' => ∀ m' σ' H', SF m0 H0 m' s' h' σ' H' → Per m H m' H' → D.nx σ' H'
  | .ret t h' => ∀ m' v H', RpH m' h' H' → Ex m0 H0 m' H' → RpT m' H' t v → (t.own = true → ∀ a, v = .ref a → a ∉ m' ∧ H0 a = none) → D.rt v H'
  | .exc c xs s' h' => ∀ m' σ' H' cls d, SF m0 H0 m' s' h' σ' H' → Per m H m' H' → RpX G m' H' c xs cls d → W cls d σ' H'
  | .bad _ => False
/-- a statement's reading -/
def ts (G : GC) (Φ : Cal) (x : List D) (W : WX) (m0 : List Addr) (H0 : Hp) (a : S) : TS := fun D σ H => ∃ m s h, SF m0 H0 m s h σ H ∧ PstS G W m0 H0 m H D (ex Φ x a s h)
theorem PSimp {X : Cx} {e : Stmt} {t t' : TS} (h : PS X e t) (k : ∀ D σ H, t' D σ H → t D σ H) : PS X e t' := ⟨fun pins s σ H D I q => h.run pins s σ H D I (k D σ H q)⟩
theorem PSsimp {X : Cx} {e : List Stmt} {t t' : TS} (h : PSs X e t) (k : ∀ D σ H, t' D σ H → t D σ H) : PSs X e t' := ⟨fun pins s σ H D I q => h.run pins s σ H D I (k D σ H q)⟩
section
variable {G : GC} {Φ : Cal} {x : List D} {W : WX} {X : Cx} {fr : Bool} {m0 m m' : List Addr} {σ : L2.St} {H0 H H' : Hp} {Q Q' : VK} {D : Ends}
theorem PstS.from {r : RS} {m1 : List Addr} {H1 : Hp} (p : PstS G W m0 H0 m H D r) (y : Per m H m1 H1) : PstS G W m0 H0 m1 H1 D r := by
  cases r with
  | nx s h => exact fun m' σ' H' a b => p m' σ' H' a (y.trans b)
  | ret t h => exact p
  | exc c xs s h => exact fun m' σ' H' cls d a b e => p m' σ' H' cls d a (y.trans b) e
  | bad w => exact p
theorem Ex.none {h : RH} {a : Addr} (y : Ex m H m' H') (rh : RpH m' h H') (n : H' a = none) : H a = none := by
  cases q : H a with
  | none => rfl
  | some u =>
    have hn : a ∉ m := fun w => by
      obtain ⟨ms, em, _⟩ := y.pre
      exact rh.notin n (by rw [em]; exact List.mem_append_left _ w)
    rw [y.keep a u q hn] at n
    cases n
theorem SF.stay {s : Sl} {h h' : RH} (r : SF m0 H0 m s h σ H) (y : Ex m H m' H') (rh : RpH m' h' H') : SF m0 H0 m' s h' σ H' :=
  ⟨r.sr.stay y rh, r.ex.comp r.sr.hp y, r.new⟩
/-- an expression in a statement -/
theorem PstS.go {s : Sl} {h : RH} {r : RE} {F : T → RH → RS} (q : SF m0 H0 m s h σ H) (p : PstS G W m0 H0 m H D (r.go s F))
    (k : ∀ m1 t h1 v H1, SF m0 H0 m1 s h1 σ H1 → Ex m H m1 H1 → RpT m1 H1 t v → (t.own = true → ∀ a, v = .ref a → a ∉ m1 ∧ (fr = true → H a = none)) → PstS G W m0 H0 m1 H1 D (F t h1) → Q v H1) : Pst G fr W m σ H Q r := by
  cases r with
  | bad w => exact p
  | exc c xs h' => exact fun m' H' cls d y rh rx => p m' σ H' cls d (q.stay y rh) (y.per q.sr.hp) rx
  | ok t h' => exact fun m' v H' y rh rt own => k m' t h' v H' (q.stay y rh) y rt own (PstS.from p (y.per q.sr.hp))
theorem PstS.nxt {r : RS} {F : Sl → RH → RS} (p : PstS G W m0 H0 m H D (r.nxt F)) : PstS G W m0 H0 m H { D with nx := fun σ' H' => ∃ m' s' h', SF m0 H0 m' s' h' σ' H' ∧ PstS G W m0 H0 m' H' D (F s' h') } r := by
  cases r with
  | nx s h => exact fun m' σ' H' a b => ⟨m', s, h, a, PstS.from p b⟩
  | ret t h => exact p
  | exc c xs s h => exact p
  | bad w => exact p

theorem PstS.nxt' {r : RS} {F : Sl → RH → RS} (p : PstS G W m0 H0 m H D (r.nxt F)) : PstS G W m0 H0 m H { D with nx := fun σ' H' => ∃ m' s' h', SF m0 H0 m' s' h' σ' H' ∧ Per m H m' H' ∧ PstS G W m0 H0 m' H' D (F s' h') } r := by
  cases r with
  | nx s h => exact fun m' σ' H' a b => ⟨m', s, h, a, b, PstS.from p b⟩
  | ret t h => exact p
  | exc c xs s h => exact p
  | bad w => exact p
theorem PstS.ends {r : RS} {D' : Ends} (p : PstS G W m0 H0 m H D r) (h1 : ∀ σ H, D.nx σ H → D'.nx σ H) (h2 : ∀ v H, D.rt v H → D'.rt v H) : PstS G W m0 H0 m H D' r := by
  cases r with
  | nx s h => exact fun m' σ' H' a b => h1 _ _ (p m' σ' H' a b)
  | ret t h => exact fun m' v H' a b c d => h2 _ _ (p m' v H' a b c d)
  | exc c xs s h => exact p
  | bad w => exact p

/-! ### slots -/
theorem setT_len : ∀ (s : Sl) (i : Nat) (t : T), (setT s i t).length = s.length
  | [], _, _ => rfl
  | _ :: _, 0, _ => rfl
  | a :: r, i + 1, t => by rw [setT, List.length_cons, List.length_cons, setT_len r i t]
theorem setT_at : ∀ (s : Sl) (i j : Nat) (t : T), (setT s i t)[j]? = if i = j ∧ j < s.length then some t else s[j]?
  | [], i, j, t => by simp [setT]
  | a :: r, 0, 0, t => by simp [setT]
  | a :: r, 0, j + 1, t => by simp [setT]
  | a :: r, i + 1, 0, t => by simp [setT]
  | a :: r, i + 1, j + 1, t => by
    rw [setT, List.getElem?_cons_succ, setT_at r i j t]
    simp
/-- a slot is set -/
theorem SF.set {s : Sl} {h : RH} {i : Nat} {t : T} {v : V} (q : SF m0 H0 m s h σ H) (rt : RpT m H t v)
    (own : t.own = true → ∀ a, v = .ref a → a ∉ m ∧ H0 a = none ∧ ∀ (j : Nat) u, j ≠ i → s[j]? = some u → u.own = true → σ[j]? ≠ some (some (.ref a))) : SF m0 H0 m (setT s i t) h (σ.set i (some v)) H := by
  have l := q.sr.len
  refine ⟨⟨by rw [setT_len, List.length_set, l], fun j u e hu => ?_, fun j k u w a ej ek ou ow sj sk => ?_, fun j u a e ou sj => ?_, q.sr.hp⟩, q.ex, fun j u a e ou sj => ?_⟩
  · rw [setT_at] at e
    by_cases c : i = j ∧ j < s.length
    · rw [if_pos c] at e
      cases e
      obtain ⟨rfl, c⟩ := c
      exact ⟨v, by rw [List.getElem?_set_self (by omega)], rt⟩
    · rw [if_neg c] at e
      obtain ⟨w, ew, rw'⟩ := q.sr.at_ j u e hu
      have hl := (List.getElem?_eq_some_iff.mp e).1
      exact ⟨w, by rw [List.getElem?_set_ne (fun z => c ⟨z, hl⟩)]; exact ew, rw'⟩
  · rw [setT_at] at ej ek
    by_cases cj : i = j ∧ j < s.length
    · by_cases ck : i = k ∧ k < s.length
      · omega
      · rw [if_pos cj] at ej
        rw [if_neg ck] at ek
        cases ej
        obtain ⟨rfl, cj⟩ := cj
        have hl := (List.getElem?_eq_some_iff.mp ek).1
        have hik : i ≠ k := fun z => ck ⟨z, hl⟩
        rw [List.getElem?_set_self (by omega)] at sj
        rw [List.getElem?_set_ne hik] at sk
        exact absurd sk ((own ou a (Option.some.inj (Option.some.inj sj))).2.2 k w (fun z => hik z.symm) ek ow)
    · rw [if_neg cj] at ej
      have hl := (List.getElem?_eq_some_iff.mp ej).1
      have hij : i ≠ j := fun z => cj ⟨z, hl⟩
      rw [List.getElem?_set_ne hij] at sj
      by_cases ck : i = k ∧ k < s.length
      · rw [if_pos ck] at ek
        cases ek
        obtain ⟨rfl, ck⟩ := ck
        rw [List.getElem?_set_self (by omega)] at sk
        exact absurd sj ((own ow a (Option.some.inj (Option.some.inj sk))).2.2 j u (fun z => hij z.symm) ej ou)
      · rw [if_neg ck] at ek
        have hl2 := (List.getElem?_eq_some_iff.mp ek).1
        have hik : i ≠ k := fun z => ck ⟨z, hl2⟩
        rw [List.getElem?_set_ne hik] at sk
        exact q.sr.apart j k u w a ej ek ou ow sj sk
  · rw [setT_at] at e
    by_cases c : i = j ∧ j < s.length
    · rw [if_pos c] at e
      cases e
      obtain ⟨rfl, c⟩ := c
      rw [List.getElem?_set_self (by omega)] at sj
      exact (own ou a (Option.some.inj (Option.some.inj sj))).1
    · rw [if_neg c] at e
      have hl := (List.getElem?_eq_some_iff.mp e).1
      rw [List.getElem?_set_ne (fun z => c ⟨z, hl⟩)] at sj
      exact q.sr.off j u a e ou sj
  · rw [setT_at] at e
    by_cases c : i = j ∧ j < s.length
    · rw [if_pos c] at e
      cases e
      obtain ⟨rfl, c⟩ := c
      rw [List.getElem?_set_self (by omega)] at sj
      exact (own ou a (Option.some.inj (Option.some.inj sj))).2.1
    · rw [if_neg c] at e
      have hl := (List.getElem?_eq_some_iff.mp e).1
      rw [List.getElem?_set_ne (fun z => c ⟨z, hl⟩)] at sj
      exact q.new j u a e ou sj
/-- an own slot's address is taken -/
theorem SR.taken {s : Sl} {h : RH} {j : Nat} {u : T} {a : Addr} (q : SR m s h σ H) (e : s[j]? = some u) (o : u.own = true) (es : σ[j]? = some (some (.ref a))) : ∃ ob, H a = some ob ∧ Mut (some ob) := by
  have hu : u ≠ .un := by intro z; subst z; cases o
  obtain ⟨v, ev, r⟩ := q.at_ j u e hu
  rw [es] at ev
  have e3 : v = .ref a := (Option.some.inj (Option.some.inj ev)).symm
  subst e3
  cases u with
  | oL n rs => obtain ⟨b, vs, e4, h1, _⟩ := r; cases e4; exact ⟨_, h1, trivial⟩
  | oD ks => obtain ⟨b, ws, e4, h1, _⟩ := r; cases e4; exact ⟨_, h1, trivial⟩
  | _ => cases o
/-- a slot takes what an expression gave -/
theorem SF.take {s : Sl} {h h1 : RH} {i : Nat} {t : T} {v : V} {m1 : List Addr} {H1 : Hp} (q0 : SF m0 H0 m s h σ H) (q : SF m0 H0 m1 s h1 σ H1) (y : Ex m H m1 H1) (rt : RpT m1 H1 t v) (own : t.own = true → ∀ a, v = .ref a → a ∉ m1 ∧ (true = true → H a = none)) :
    SF m0 H0 m1 (setT s i t) h1 (σ.set i (some v)) H1 :=
  q.set rt fun o a e => ⟨(own o a e).1, q0.ex.none q0.sr.hp ((own o a e).2 rfl), fun j u _ ej ou z => by
    obtain ⟨ob, eo, _⟩ := q0.sr.taken ej ou z
    rw [(own o a e).2 rfl] at eo
    cases eo⟩
theorem Inv.len' {pins : List (Addr × Obj)} {s : Shared} (I : L2.Inv X pins σ H s) : σ.length = X.N.length := I.len

/-! ### the statements -/
theorem ss_nil : PSs X [] (ts G Φ x W m0 H0 .skip) := by
  refine PSsimp pss_nil fun D σ H ⟨m, s, h, q, p⟩ => ?_
  rw [ex] at p
  exact p m σ H q Per.refl
theorem ss_cons {st : Stmt} {rest : List Stmt} {a b : S} (h1 : PS X st (ts G Φ x W m0 H0 a)) (h2 : PSs X rest (ts G Φ x W m0 H0 b)) : PSs X (st :: rest) (ts G Φ x W m0 H0 (.seq a b)) := by
  refine PSsimp (pss_cons h1 h2) fun D σ H ⟨m, s, h, q, p⟩ => ?_
  rw [ex] at p
  exact ⟨m, s, h, q, p.nxt⟩
theorem ss_one {st : Stmt} {a : S} (h1 : PS X st (ts G Φ x W m0 H0 a)) : PSs X [st] (ts G Φ x W m0 H0 a) := pss_one h1
theorem ss_ret {e : Expr} {a : E} {pos : Pos} (he : PE X e (te G Φ x W a)) : PS X (.Return (some e) pos) (ts G Φ x W m0 H0 (.ret a)) := by
  refine PSimp (ps_ret he) fun D σ H ⟨m, s, h, q, p⟩ => ?_
  rw [ex] at p
  refine ⟨m, s, h, q.sr, PstS.go q p fun m1 t h1 v H1 q1 y rt own p1 => ?_⟩
  exact p1 m1 v H1 q1.sr.hp q1.ex rt fun o a e => ⟨(own o a e).1, q.ex.none q.sr.hp ((own o a e).2 rfl)⟩
theorem ss_retN {pos : Pos} : PS X (.Return none pos) (ts G Φ x W m0 H0 (.ret (.lit .non))) := by
  refine PSimp ps_retN fun D σ H ⟨m, s, h, q, p⟩ => ?_
  rw [ex, ev] at p
  exact p m .non H q.sr.hp q.ex rfl fun o => nomatch o
theorem ss_set {i : Nat} {y : Str} {e : Expr} {a : E} {pos pos' : Pos} (hN : X.N.Nodup) (hi : X.N[i]? = some y) (hy : Loc X.env.scope y) (he : PE X e (te G Φ x W a)) (hs : swapsWith e (some (.Name y pos')) pos.line X.env = pure false := by rfl)
    (hf : X.fn y = true ∨ X.env.scope.names.lookup y = some .local := by exact .inl rfl) : PS X (.Assign [.Name y pos'] e pos) (ts G Φ x W m0 H0 (.set i a)) := by
  refine PSimp (ps_set hN hi hy he hs hf) fun D σ H ⟨m, s, h, q, p⟩ => ?_
  rw [ex] at p
  refine ⟨m, s, h, q.sr, PstS.go q p fun m1 t h1 v H1 q1 y rt own p1 => ?_⟩
  exact p1 m1 _ H1 (q.take q1 y rt own) Per.refl
end
end Ma
set_option maxHeartbeats 4000000
/-! Statements: stores, own lists. -/
namespace Ma
open PySem PySem.Spec L2
variable [TB]
section
variable {G : GC} {Φ : Cal} {x : List D} {W : WX} {X : Cx} {fr : Bool} {m0 m m' : List Addr} {σ : L2.St} {H0 H H' : Hp} {Q Q' : VK} {D : Ends}
theorem getT_self : ∀ {s : Sl} {i : Nat} {t : T}, getT s i = t → setT s i t = s
  | [], _, _, _ => rfl
  | a :: r, 0, _, h => by subst h; rfl
  | a :: r, i + 1, t, h => by rw [setT, getT_self (s := r) (i := i) h]
/-- a slot's own thing is changed, or locked -/
theorem SF.upd {s : Sl} {h : RH} {i : Nat} {t t' : T} {l : Addr} {u u' : HO} (q : SF m0 H0 m s h σ H) (ei : s[i]? = some t) (ot : t.own = true) (es : σ[i]? = some (some (.ref l))) (eu : H l = some u) (mu : Mut (some u))
    (rt : Per m H m (L2.upd H l u') → RpT m (L2.upd H l u') t' (.ref l)) : SF m0 H0 m (setT s i t') h σ (L2.upd H l u') ∧ Per m H m (L2.upd H l u') := by
  have pr : Per m H m (L2.upd H l u') := by
    refine ⟨fun a xs e => ?_, fun a o w e => ?_, fun _ _ e => e⟩
    · rw [upd_ne]; exact e
      intro z; subst z; rw [eu] at e; cases e; exact mu
    · rw [upd_ne]; exact e
      intro z; subst z; rw [eu] at e; cases e; exact mu
  have hl : l ∉ m := q.sr.off i t l ei ot es
  have h0 : H0 l = none := q.new i t l ei ot es
  have hi := (List.getElem?_eq_some_iff.mp ei).1
  refine ⟨⟨⟨by rw [setT_len, q.sr.len], fun j w e hw => ?_, fun j k w z a ej ek ow oz sj sk => ?_, fun j w a e ow sj => ?_, ⟨q.sr.hp.nd, q.sr.hp.len, fun n ob a e1 e2 => ?_⟩⟩, ⟨q.ex.pre, fun a o e hn => ?_⟩, fun j w a e ow sj => ?_⟩, pr⟩
  · rw [setT_at] at e
    by_cases c : i = j ∧ j < s.length
    · rw [if_pos c] at e
      cases e
      obtain ⟨rfl, c⟩ := c
      exact ⟨_, es, rt pr⟩
    · rw [if_neg c] at e
      have hj := (List.getElem?_eq_some_iff.mp e).1
      obtain ⟨v, ev, rv⟩ := q.sr.at_ j w e hw
      refine ⟨v, ev, ?_⟩
      cases w with
      | fz d => exact Rp.per pr d v rv
      | oL n rs =>
        obtain ⟨b, vs, rfl, eb, r, z⟩ := rv
        refine ⟨b, vs, rfl, ?_, Rps.per pr _ _ r, z⟩
        rw [upd_ne (fun y => c ⟨q.sr.apart i j t _ l ei e ot rfl es (by rw [ev, y]), hj⟩)]; exact eb
      | oD ks =>
        obtain ⟨b, vs, rfl, eb, r⟩ := rv
        refine ⟨b, vs, rfl, ?_, Rpk.per pr _ _ r⟩
        rw [upd_ne (fun y => c ⟨q.sr.apart i j t _ l ei e ot rfl es (by rw [ev, y]), hj⟩)]; exact eb
      | _ => exact rv.elim
  · have back : ∀ (j : Nat) (w : T), (setT s i t')[j]? = some w → w.own = true → ∃ w', s[j]? = some w' ∧ w'.own = true := fun j w e o => by
      rw [setT_at] at e
      by_cases c : i = j ∧ j < s.length
      · obtain ⟨rfl, c⟩ := c
        exact ⟨t, ei, ot⟩
      · rw [if_neg c] at e
        exact ⟨w, e, o⟩
    obtain ⟨w', e1, o1⟩ := back j w ej ow
    obtain ⟨z', e2, o2⟩ := back k z ek oz
    exact q.sr.apart j k w' z' a e1 e2 o1 o2 sj sk
  · rw [setT_at] at e
    by_cases c : i = j ∧ j < s.length
    · obtain ⟨rfl, c⟩ := c
      rw [es] at sj
      cases sj
      exact hl
    · rw [if_neg c] at e
      exact q.sr.off j w a e ow sj
  · have qa := q.sr.hp.at_ n ob a e1 e2
    have ha : a ∈ m := List.mem_of_getElem? e2
    cases ob with
    | lst xs =>
      obtain ⟨vs, e3, r⟩ := qa
      exact ⟨vs, by rw [upd_ne (fun z => hl (by rw [← z]; exact ha))]; exact e3, Rps.per pr _ _ r⟩
    | ins c fs => exact qa
    | tab k =>
      obtain ⟨x, e3, ps, h1, h2, h3⟩ := qa
      refine ⟨x, e3, ps, by rw [upd_ne (fun z => hl (by rw [← z]; exact ha))]; exact h1, h2, fun pos cv hc => ?_⟩
      obtain ⟨c, g1, g2⟩ := h3 pos cv hc
      refine ⟨c, g1, ?_⟩
      rw [upd_ne]
      · exact g2
      · intro z
        subst z
        rw [eu] at g2
        obtain ⟨v, ev, r⟩ := q.sr.at_ i t ei (by intro z; subst z; cases ot)
        rw [es] at ev
        cases ev
        cases t with
        | oL n rs => obtain ⟨b, vs, e5, e6, _⟩ := r; cases e5; rw [eu] at e6; cases e6; unfold LamX.CodeO at g2; exact HO.noConfusion (Option.some.inj g2)
        | oD ks => obtain ⟨b, vs, e5, e6, _⟩ := r; cases e5; rw [eu] at e6; cases e6; unfold LamX.CodeO at g2; exact HO.noConfusion (Option.some.inj g2)
        | _ => cases ot
  · rw [upd_ne (fun z => by subst z; rw [h0] at e; cases e)]
    exact q.ex.keep a o e hn
  · rw [setT_at] at e
    by_cases c : i = j ∧ j < s.length
    · obtain ⟨rfl, c⟩ := c
      rw [es] at sj
      cases sj
      exact h0
    · rw [if_neg c] at e
      exact q.new j w a e ow sj
/-- an own slot: where it stands -/
theorem SF.own {s : Sl} {h : RH} {i : Nat} {n : Nat} {rs : List Ma.D} (q : SF m0 H0 m s h σ H) (e : getT s i = .oL n rs) : ∃ l vs, s[i]? = some (.oL n rs) ∧ σ[i]? = some (some (.ref l)) ∧ H l = some (.lst vs) ∧ Rps m H rs.reverse vs ∧ n = rs.length := by
  obtain ⟨v, ev, ⟨a, vs, rfl, e1, r, z⟩, _⟩ := q.sr.slot e (by simp)
  exact ⟨a, vs, getT_get e (by simp), ev, e1, r, z⟩
theorem SF.ownD {s : Sl} {h : RH} {i : Nat} {ks : List (Int × Ma.D)} (q : SF m0 H0 m s h σ H) (e : getT s i = .oD ks) : ∃ l ws, s[i]? = some (.oD ks) ∧ σ[i]? = some (some (.ref l)) ∧ H l = some (.dK ws) ∧ Rpk m H ks ws := by
  obtain ⟨v, ev, ⟨a, vs, rfl, e1, r⟩, _⟩ := q.sr.slot e (by simp)
  exact ⟨a, vs, getT_get e (by simp), ev, e1, r⟩

/-! ### own things locked (no text of the program) -/
theorem ss_frz {i : Nat} {sts : List Stmt} {a : S} (h : PSs X sts (ts G Φ x W m0 H0 a)) : PSs X sts (ts G Φ x W m0 H0 (.seq (.frz i) a)) := by
  refine ⟨fun pins s σ H D I ⟨m, sl, hh, q, p⟩ => ?_⟩
  rw [ex, ex] at p
  have key : ∀ (sl' : Sl) (H' : Hp), L2.Inv X pins σ H' s → SF m0 H0 m sl' hh σ H' → Per m H m H' → PstS G W m0 H0 m H D (ex Φ x a sl' hh) → wpAny (model X.prog X.w) X.A (execs sts X.env) (SP X pins D) X.xe s :=
    fun sl' H' I' q' pr p' => h.run pins s σ H' D I' ⟨m, sl', hh, q', p'.from pr⟩
  cases e : getT sl i with
  | un => rw [e] at p; exact p.elim
  | it xs => obtain ⟨v, _, r, _⟩ := q.sr.slot e (by simp); exact r.elim
  | oK xs => obtain ⟨v, _, r, _⟩ := q.sr.slot e (by simp); exact r.elim
  | fz d =>
    rw [e] at p
    have p : PstS G W m0 H0 m H D (ex Φ x a (setT sl i (.fz d)) hh) := p
    rw [getT_self e] at p
    exact key sl H I q Per.refl p
  | oL n rs =>
    rw [e] at p
    obtain ⟨l, vs, ei, es, eu, r, z⟩ := q.own e
    obtain ⟨od, I'⟩ := I.lock eu trivial
    obtain ⟨q', pr⟩ := q.upd (u := .lst vs) (u' := .frz od (.lst vs)) (t' := .fz (.lst rs.reverse)) ei rfl es eu trivial fun pr => ⟨l, od, vs, rfl, upd_same, Rps.per pr _ _ r⟩
    exact key _ _ I' q' pr p
  | oD ks =>
    rw [e] at p
    obtain ⟨l, ws, ei, es, eu, r⟩ := q.ownD e
    obtain ⟨od, I'⟩ := I.lock eu trivial
    obtain ⟨q', pr⟩ := q.upd (u := .dK ws) (u' := .frz od (.dK ws)) (t' := .fz (.dct ks)) ei rfl es eu trivial fun pr => ⟨l, od, ws, rfl, upd_same, Rpk.per pr _ _ r⟩
    exact key _ _ I' q' pr p
theorem ss_retm {i : Nat} {y : Str} {pos pos' : Pos} (hN : X.N[i]? = some y) (hv : Vis X.env.scope y) (hd : (y == ("__debug__" : Str)) = false := by decide) (hcd : (y == ("__classdict__" : Str)) = false := by decide) : PS X (.Return (some (.Name y pos')) pos) (ts G Φ x W m0 H0 (.retm i)) := by
  refine PSimp (ps_ret (pe_var hN hv hd hcd)) fun D σ H ⟨m, s, h, q, p⟩ => ?_
  rw [ex] at p
  have key : ∀ t, getT s i = t → t ≠ .un → PstS G W m0 H0 m H D (.ret t h) → tVar i σ H D.rt := fun t e n p => by
    obtain ⟨v, ev, r, o⟩ := q.sr.slot e n
    exact ⟨v, ev, p m v H q.sr.hp q.ex r fun z a w => ⟨o z a w, q.new i t a (getT_get e n) z (by rw [ev, w])⟩⟩
  cases e : getT s i <;> rw [e] at p
  · exact p.elim
  all_goals exact key _ e (by simp) p

/-! ### stores -/
theorem sz_of {e : Expr} {a : E} {o : Bool} (h : PE X e (te G Φ x W a)) : PE X e (fun σ H Q => ∃ m s h, SR m s h σ H ∧ Pst G true W m σ H Q (if o then ev Φ x a s h else (ev Φ x a s h).frz)) := by
  cases o with
  | true => exact h
  | false => exact sf_of h
theorem ss_setf {i : Nat} {y : Str} {e : Expr} {a : E} {pos pos' : Pos} (hN : X.N.Nodup) (hi : X.N[i]? = some y) (hy : Loc X.env.scope y) (he : PE X e (te G Φ x W a)) (hs : swapsWith e (some (.Name y pos')) pos.line X.env = pure false := by rfl)
    (hf : X.fn y = true ∨ X.env.scope.names.lookup y = some .local := by exact .inl rfl) : PS X (.Assign [.Name y pos'] e pos) (ts G Φ x W m0 H0 (.setf i a)) := by
  refine PSimp (ps_set hN hi hy (sf_of he) hs hf) fun D σ H ⟨m, s, h, q, p⟩ => ?_
  rw [ex] at p
  refine ⟨m, s, h, q.sr, PstS.go q p fun m1 t h1 v H1 q1 y rt own p1 => ?_⟩
  exact p1 m1 _ H1 (q.take q1 y rt own) Per.refl
/-- names that take data -/
def gT (P : List Addr → Sl → RH → L2.St → Hp → Prop) (g : Tg) : TG := fun v σ H Q => ∃ m s h d s', P m s h σ H ∧ Rp m H d v ∧ bindT g d s = some s' ∧ ∀ σ', P m s' h σ' H → Q σ' H
def gTs (P : List Addr → Sl → RH → L2.St → Hp → Prop) (g : List Tg) : TGs := fun vs σ H Q => ∃ m s h ds s', P m s h σ H ∧ Rps m H ds vs ∧ bindTs g ds s = some s' ∧ ∀ σ', P m s' h σ' H → Q σ' H
def Clo (A : Nat → Prop) (P : List Addr → Sl → RH → L2.St → Hp → Prop) : Prop := ∀ m s h σ H (i : Nat) d v, A i → P m s h σ H → Rp m H d v → P m (setT s i (.fz d)) h (σ.set i (some v)) H
theorem clo_SF : Clo (fun _ => True) (SF m0 H0) := fun m s h σ H i d v _ q r => q.set (t := .fz d) r fun o => nomatch o
theorem clo_SR : Clo (fun _ => True) SR := fun m s h σ H i d v _ q r => by
  have q1 : SF m (fun _ => none) m s h σ H := ⟨q, ⟨⟨[], by simp, by simp⟩, fun _ _ e => nomatch e⟩, fun _ _ _ _ _ _ => rfl⟩
  exact (q1.set (t := .fz d) r fun o => nomatch o).sr
section
variable {P : List Addr → Sl → RH → L2.St → Hp → Prop}
theorem sg_name {A : Nat → Prop} (hP : Clo A P) {i : Nat} {y : Str} {pos : Pos} (hN : X.N.Nodup) (hi : X.N[i]? = some y) (hx : Loc X.env.scope y) (hf : X.fn y = true ∨ X.env.scope.names.lookup y = some .local := by first | exact .inl rfl | exact .inr rfl) (hA : A i := by first | trivial | decide) : PG X (.Name y pos) (gT P (.nm i)) :=
  ⟨fun pins s σ H v u Q I r ⟨m, sl, h, d, s', q, rd, e, k⟩ => (pg_name hN hi hx hf).run pins s σ H v u Q I r (by
    unfold bindT at e
    cases e
    exact k _ (hP m sl h σ H i d v hA q rd))⟩
theorem sg_nil : PGs X [] (gTs P []) :=
  ⟨fun pins s σ H vs us Q I r ⟨m, sl, h, ds, s', q, rd, e, k⟩ => pgs_nil.run pins s σ H vs us Q I r (by
    cases ds with
    | nil =>
      unfold bindTs at e
      cases e
      exact ⟨rd, k _ q⟩
    | cons d ds => unfold bindTs at e; cases e)⟩
theorem sg_cons {e : Expr} {es : List Expr} {g : Tg} {gs : List Tg} (h1 : PG X e (gT P g)) (h2 : PGs X es (gTs P gs)) (hs : (assignEach (e :: es) X.env).map (·.2) = assign e X.env :: (assignEach es X.env).map (·.2) := by rfl) : PGs X (e :: es) (gTs P (g :: gs)) :=
  ⟨fun pins s σ H vs us Q I r ⟨m, sl, h, ds, s', q, rd, e, k⟩ => (pgs_cons h1 h2 hs).run pins s σ H vs us Q I r (by
    cases ds with
    | nil => unfold bindTs at e; cases e
    | cons d ds =>
      unfold bindTs at e
      cases e1 : bindT g d sl with
      | none => rw [e1] at e; cases e
      | some s1 =>
        rw [e1] at e
        obtain ⟨v, vr, rfl, rv, rr⟩ := rd
        exact ⟨v, vr, rfl, m, sl, h, d, s1, q, rv, e1, fun σ' q' => ⟨m, s1, h, ds, s', q', rr, e, k⟩⟩)⟩
theorem bindTs_len : ∀ (g : List Tg) (ds : List Ma.D) (s s' : Sl), bindTs g ds s = some s' → ds.length = g.length
  | [], [], _, _, _ => rfl
  | [], _ :: _, _, _, e => by unfold bindTs at e; cases e
  | _ :: _, [], _, _, e => by unfold bindTs at e; cases e
  | g :: gs, d :: ds, s, s', e => by
    unfold bindTs at e
    cases e1 : bindT g d s with
    | none => rw [e1] at e; cases e
    | some s1 => rw [e1] at e; rw [List.length_cons, List.length_cons, bindTs_len gs ds s1 s' e]
theorem sg_tup {es : List Expr} {gs : List Tg} {k : Nat} {pos : Pos} (hc : X.calm = true) (h : PGs X es (gTs P gs))
    (hn : (assignEach es X.env).length = gs.length := by rfl) (hst : (assignEach es X.env).findIdx? (·.1) = none := by rfl) : PG X (.Tuple es k pos) (gT P (.tp gs)) :=
  ⟨fun pins s σ H v u Q I r ⟨m, sl, hh, d, s', q, rd, e, kk⟩ => (pg_tup hc h hn hst).run pins s σ H v u Q I r (by
    cases d with
    | tup ds =>
      unfold bindT at e
      obtain ⟨a, vs, rfl, ha, rs⟩ := rd
      exact ⟨a, vs, rfl, .of ha, by rw [rs.len, bindTs_len gs ds sl s' e], m, sl, hh, ds, s', q, rs, e, kk⟩
    | _ => unfold bindT at e; cases e)⟩
end
/-- an expression in a statement, made data -/
theorem PstS.goz {s : Sl} {h : RH} {r : RE} {F : T → RH → RS} (q : SF m0 H0 m s h σ H) (p : PstS G W m0 H0 m H D (r.frz.go s F))
    (k : ∀ m1 d h1 v H1, SF m0 H0 m1 s h1 σ H1 → Ex m H m1 H1 → Rp m1 H1 d v → PstS G W m0 H0 m1 H1 D (F (.fz d) h1) → Q v H1) : Pst G fr W m σ H Q r.frz := by
  cases r with
  | bad w => exact p
  | exc c xs h' => exact fun m' H' cls d y rh rx => p m' σ H' cls d (q.stay y rh) (y.per q.sr.hp) rx
  | ok t h' => exact fun m' v H' y rh rt own => k m' t.d h' v H' (q.stay y rh) y rt (PstS.from p (y.per q.sr.hp))
theorem ss_asg {tg e : Expr} {g : Tg} {a : E} {pos : Pos} (he : PE X e (te G Φ x W a)) (hg : PG X tg (gT (SF m0 H0) g)) (hs : swapsWithSole [tg] e pos.line X.env = pure false := by rfl) (hw : swappedStores [tg] e X.env = pure none := by rfl)
    (h1 : (assignEach [tg] X.env).map (·.2) = [assign tg X.env] := by rfl) : PS X (.Assign [tg] e pos) (ts G Φ x W m0 H0 (.asg g a)) := by
  refine PSimp (ps_asg (sf_of he) hg hs hw h1) fun D σ H ⟨m, s, h, q, p⟩ => ?_
  rw [ex] at p
  refine ⟨m, s, h, q.sr, PstS.goz q p fun m1 d h1 v H1 q1 y rd p1 => ?_⟩
  simp only [T.d] at p1
  cases e1 : bindT g d s with
  | none => rw [e1] at p1; exact p1.elim
  | some s1 =>
    rw [e1] at p1
    exact ⟨m1, s, h1, d, s1, q1, rd, e1, fun σ' q' => p1 m1 σ' H1 q' Per.refl⟩
/-- a, b = x, y with plain names -/
theorem ss_par {i j : Nat} {o1 o2 : Bool} {y z : Str} {e1 e2 : Expr} {a b : E} {px py pt pos : Pos} {kt k2 pt2} (hc : X.calm = true) (hN : X.N.Nodup) (hi : X.N[i]? = some y) (hj : X.N[j]? = some z) (hij : i ≠ j)
    (hx : X.env.scope.names.lookup y = some .local) (hy : X.env.scope.names.lookup z = some .local) (ha : PE X e1 (te G Φ x W a)) (hb : PE X e2 (te G Φ x W b))
    (hw : swappedStores [.Tuple [.Name y px, .Name z py] kt pt] (.Tuple [e1, e2] k2 pt2) X.env = pure (some [y, z]))
    (hs : swapsWithSole [.Tuple [.Name y px, .Name z py] kt pt] (.Tuple [e1, e2] k2 pt2) pos.line X.env = pure false := by rfl)
    (hs1 : starEach [e1, e2] X.env = (false, eval e1 X.env) :: starEach [e2] X.env := by rfl) (hs2 : starEach [e2] X.env = (false, eval e2 X.env) :: starEach [] X.env := by rfl) :
    PS X (.Assign [.Tuple [.Name y px, .Name z py] kt pt] (.Tuple [e1, e2] k2 pt2) pos) (ts G Φ x W m0 H0 (.par [(i, o1), (j, o2)] [a, b])) := by
  refine PSimp (ps_par hc hN hi hj hij hx hy (pa_cons (sz_of (o := o1) ha) (pa_cons (sz_of (o := o2) hb) pa_nil hs2) hs1) hw hs) fun D σ H ⟨m, s, h, q, p⟩ => ?_
  rw [ex, parGo] at p
  refine ⟨m, s, h, q.sr, PstS.go q p fun m1 t h1 v H1 q1 y1 rt own p1 => ?_⟩
  rw [parGo] at p1
  refine ⟨m1, s, h1, q1.sr, PstS.go (s := s) q1 p1 fun m2 t2 h2 v2 H2 q2 y2 rt2 own2 p2 => ?_⟩
  rw [parGo] at p2
  refine ⟨v, v2, rfl, p2 m2 _ H2 ?_ Per.refl⟩
  have nx := rt.next q1.sr.hp y2 fun o a e => (own o a e).1
  have q3 : SF m0 H0 m2 (setT s i t) h2 (σ.set i (some v)) H2 := q2.set nx.1 fun o a e => ⟨nx.2 o a e, q.ex.none q.sr.hp ((own o a e).2 rfl), fun k u _ ek ou w => by
    obtain ⟨ob, eo, _⟩ := q.sr.taken ek ou w
    rw [(own o a e).2 rfl] at eo
    cases eo⟩
  refine q3.set rt2 fun o a e => ⟨(own2 o a e).1, q1.ex.none q1.sr.hp ((own2 o a e).2 rfl), fun k u _ ek ou w => ?_⟩
  rw [setT_at] at ek
  by_cases c : i = k ∧ k < s.length
  · obtain ⟨rfl, c⟩ := c
    rw [if_pos ⟨rfl, c⟩] at ek
    cases ek
    rw [List.getElem?_set_self (by rw [← q.sr.len]; exact c)] at w
    have e3 : v = .ref a := Option.some.inj (Option.some.inj w)
    have n1 := (own2 o a e).2 rfl
    cases t with
    | oL n rs => obtain ⟨b, vs, e4, h1, _⟩ := rt; rw [e3] at e4; cases e4; rw [n1] at h1; cases h1
    | oD ks => obtain ⟨b, ws, e4, h1, _⟩ := rt; rw [e3] at e4; cases e4; rw [n1] at h1; cases h1
    | _ => cases ou
  · rw [if_neg c] at ek
    have hk := (List.getElem?_eq_some_iff.mp ek).1
    rw [List.getElem?_set_ne (fun z => c ⟨z, hk⟩)] at w
    obtain ⟨ob, eo, _⟩ := q1.sr.taken ek ou w
    rw [(own2 o a e).2 rfl] at eo
    cases eo
/-- .. by way of the tuple: names of cells, constants -/
theorem ss_parC {i j : Nat} {o1 o2 : Bool} {y z : Str} {e1 e2 : Expr} {a b : E} {px py pt pos : Pos} {kt k2 pt2} (hc : X.calm = true) (hN : X.N.Nodup) (hi : X.N[i]? = some y) (hj : X.N[j]? = some z) (lx : Loc X.env.scope y) (ly : Loc X.env.scope z) (ha : PE X e1 (te G Φ x W a)) (hb : PE X e2 (te G Φ x W b))
    (fx : X.fn y = true ∨ X.env.scope.names.lookup y = some .local := by first | exact .inl rfl | exact .inr rfl | assumption) (fy : X.fn z = true ∨ X.env.scope.names.lookup z = some .local := by first | exact .inl rfl | exact .inr rfl | assumption)
    (hw : swappedStores [.Tuple [.Name y px, .Name z py] kt pt] (.Tuple [e1, e2] k2 pt2) X.env = pure none := by rfl)
    (hs : swapsWithSole [.Tuple [.Name y px, .Name z py] kt pt] (.Tuple [e1, e2] k2 pt2) pos.line X.env = pure false := by rfl)
    (hs1 : starEach [e1, e2] X.env = (false, eval e1 X.env) :: starEach [e2] X.env := by rfl) (hs2 : starEach [e2] X.env = (false, eval e2 X.env) :: starEach [] X.env := by rfl)
    (h1 : (assignEach [.Tuple [.Name y px, .Name z py] kt pt] X.env).map (·.2) = [assign (.Tuple [.Name y px, .Name z py] kt pt) X.env] := by rfl) :
    PS X (.Assign [.Tuple [.Name y px, .Name z py] kt pt] (.Tuple [e1, e2] k2 pt2) pos) (ts G Φ x W m0 H0 (.par [(i, o1), (j, o2)] [a, b])) := by
  refine PSimp (ps_asg (pe_tup (pa_cons (sz_of (o := o1) ha) (pa_cons (sz_of (o := o2) hb) pa_nil hs2) hs1)) (pg_tup hc (pgs_cons (pg_name hN hi lx fx) (pgs_cons (pg_name hN hj ly fy) pgs_nil rfl) rfl) rfl rfl) hs hw h1) fun D σ H ⟨m, s, h, q, p⟩ => ?_
  rw [ex, parGo] at p
  refine ⟨m, s, h, q.sr, PstS.go q p fun m1 t h1 v H1 q1 y1 rt own p1 => ?_⟩
  rw [parGo] at p1
  refine ⟨m1, s, h1, q1.sr, PstS.go (s := s) q1 p1 fun m2 t2 h2 v2 H2 q2 y2 rt2 own2 p2 => ?_⟩
  rw [parGo] at p2
  have both : SF m0 H0 m2 (setT (setT s i t) j t2) h2 ((σ.set i (some v)).set j (some v2)) H2 := by
    have nx := rt.next q1.sr.hp y2 fun o a e => (own o a e).1
    have q3 : SF m0 H0 m2 (setT s i t) h2 (σ.set i (some v)) H2 := q2.set nx.1 fun o a e => ⟨nx.2 o a e, q.ex.none q.sr.hp ((own o a e).2 rfl), fun k u _ ek ou w => by
      obtain ⟨ob, eo, _⟩ := q.sr.taken ek ou w
      rw [(own o a e).2 rfl] at eo
      cases eo⟩
    refine q3.set rt2 fun o a e => ⟨(own2 o a e).1, q1.ex.none q1.sr.hp ((own2 o a e).2 rfl), fun k u _ ek ou w => ?_⟩
    rw [setT_at] at ek
    by_cases c : i = k ∧ k < s.length
    · obtain ⟨rfl, c⟩ := c
      rw [if_pos ⟨rfl, c⟩] at ek
      cases ek
      rw [List.getElem?_set_self (by rw [← q.sr.len]; exact c)] at w
      have e3 : v = .ref a := Option.some.inj (Option.some.inj w)
      have n1 := (own2 o a e).2 rfl
      cases t with
      | oL n rs => obtain ⟨b, vs, e4, h1, _⟩ := rt; rw [e3] at e4; cases e4; rw [n1] at h1; cases h1
      | oD ks => obtain ⟨b, ws, e4, h1, _⟩ := rt; rw [e3] at e4; cases e4; rw [n1] at h1; cases h1
      | _ => cases ou
    · rw [if_neg c] at ek
      have hk := (List.getElem?_eq_some_iff.mp ek).1
      rw [List.getElem?_set_ne (fun z => c ⟨z, hk⟩)] at w
      obtain ⟨ob, eo, _⟩ := q1.sr.taken ek ou w
      rw [(own2 o a e).2 rfl] at eo
      cases eo
  refine ⟨by show 2 ≤ sizeLine; decide, fun c nc => ⟨c, [v, v2], rfl, .inl (.inl upd_same), rfl, v, [v2], rfl, v2, [], rfl, rfl, ?_⟩⟩
  exact p2 m2 _ _ (both.stay (ex_new nc) (both.sr.hp.new nc)) ((ex_new nc).per both.sr.hp)
end
end Ma
set_option maxHeartbeats 4000000
/-! Own lists and dicts change. -/
namespace Ma
section
open PySem PySem.Spec PySem.AutoSeq1
/-- a list takes the items of a tuple's object, whatever else that object carries -/
theorem takes_tuple {l t : Addr} {xs ys : Array Value} {n k : Nat} {o : Obj} (kind : o.cls = .type "tuple") (body : o.data = .seq ys k) (fit : xs.size + ys.size ≤ sizeLine) :
    Meets (Builtin.«list.extend» ⟨[.ref l, .ref t], []⟩) fun _ R st => st.heap.get? l = some { cls := .type "list", data := .seq xs n } ∧ st.heap.get? t = some o ∧
      R (.ok (.ret .none)) { st with heap := st.heap.update l (Obj.mapSeq (· ++ ys)) } := by
  obtain ⟨c, d, b, sl⟩ := o
  simp only at kind body
  subst kind body
  have short : Builtin.List.listTooLong (xs.size + ys.size) = false := L2.notLongL fit
  have room : (xs ++ ys).size ≤ sizeLine + 1 := by rw [Array.size_append]; omega
  have mine : xs.size ≤ sizeLine := by omega
  have guard : ¬ ((!xs.isEmpty && Builtin.List.listTooLong (xs.size + ys.size)) = true) := by simp [short]
  refine .of_wp fun prog w A R st hyp => ?_
  rcases st with ⟨hp, gs, dr, tk, os⟩
  rcases hyp with ⟨isL, isT, done⟩
  have a := idx_int; have b := sub_tuple_tuple; have c := sub_list_list; have d := sub_tuple_list; have e := sub_list_tuple
  wp_walk using (wpAny_updateSeq isL rfl (hz := mine) (_hz' := room)), wpAny_loadPart' isL, wpAny_loadPart' isT
  exact ⟨_, rfl, done⟩
end
section
open PySem PySem.Spec L2
variable [TB]
variable {X : Cx}
/-- list.extend of a row that is read alone -/
theorem ext_read : MtM X "list.extend" (fun p vs H Q => ∃ l r xs zs, p = .ref l ∧ vs = [.ref r] ∧ H l = some (.lst xs) ∧ (Rd H r (.lst zs) ∨ H r = some (.tup zs)) ∧ xs.length + zs.length ≤ sizeLine ∧ Q .non (L2.upd H l (.lst (xs ++ zs)))) := by
  rintro pins st σ hp p vs up us Q inv hl hv ⟨l, r, xs, zs, rfl, rfl, own, row, fit, done⟩
  cases hl
  have ⟨_, ev, er⟩ := hv.one
  subst ev
  cases er
  have ⟨_, is, _, rel, len, ol⟩ := inv.lstM own
  have after : ∀ js : List Value, Vals zs js → EP X pins σ Q Value.none { st with heap := st.heap.update l (Obj.mapSeq (· ++ js.toArray)) } := fun js rj =>
    ⟨.non, _, inv.lset (t' := st.toks) (its' := is ++ js) own ol (by simp) (rel.append rj) (by simpa using fit), rfl, done⟩
  have slot := F.slot_list_extend
  rcases row with row | row
  · have ⟨_, js, _, rj, oj⟩ := row.ok inv.hok
    have lj := rj.length
    have z : is.toArray.size + js.toArray.size ≤ sizeLine := by simp; omega
    have g : ¬ ((!is.toArray.isEmpty && Builtin.List.listTooLong (is.toArray.size + js.toArray.size)) = true) := by simp only [notLongL z, Bool.and_false]; exact Bool.false_ne_true
    exact call_meets slot ⟨_, ol, rfl⟩ F.entry_list_extend (F.args_list_extend_2 _ _) (AutoSeq1.list_extend_list_list_0 l _ _ r _ _ g (by omega) (by omega)) ⟨ol, oj, after js rj⟩
  · have ⟨js, rj, ⟨o, oj, kind, k, body⟩, _⟩ := inv.tuple (.of row)
    have lj := rj.length
    exact call_meets slot ⟨_, ol, rfl⟩ F.entry_list_extend (F.args_list_extend_2 _ _) (takes_tuple kind body (by simp; omega)) ⟨ol, oj, after js rj⟩
end
section
open PySem PySem.Spec L2
variable [TB]
variable {G : GC} {Φ : Cal} {x : List D} {W : WX} {X : Cx} {fr : Bool} {m0 m m' : List Addr} {σ : L2.St} {H0 H H' : Hp} {Q Q' : VK} {D : Ends}
theorem line_lt {n : Nat} (e : Nat.blt n line = true) : n < sizeLine := by
  have : n < line := by simpa [Nat.blt_eq] using e
  rw [sizeLine_eq]; exact this
/-- name.append(e) -/
theorem ss_app {i : Nat} {y : Str} {e : Expr} {a : E} {p apos cpos pos : Pos} (hN : X.N[i]? = some y) (hv : Vis X.env.scope y) (he : PE X e (te G Φ x W a)) (hd : (y == ("__debug__" : Str)) = false := by decide) (hcd : (y == ("__classdict__" : Str)) = false := by decide)
    (hs : starEach [e] X.env = (false, eval e X.env) :: starEach [] X.env := by rfl)
    (hfew : ((backTo cpos (starEach [e] X.env)).all (fun x => !x.1) && (backToKw cpos (keywordEach [] X.env)).all (fun x => x.1.isSome)
      && decide ([e].length + ([] : List Keyword).length + (if ([] : List Keyword).isEmpty then 0 else 1) < 30)) = true := by rfl)
    (hline : (apos.endLine == cpos.line) = true := by rfl) (hplain : (backTo cpos (starEach [] X.env)).any (·.1) = false := by rfl) (hsw : swapsWith (.Call (.Attribute (.Name y p) "append" apos) [e] [] cpos) none pos.line X.env = pure false := by rfl) :
    PS X (.Expr (.Call (.Attribute (.Name y p) "append" apos) [e] [] cpos) pos) (ts G Φ x W m0 H0 (.app i a)) := by
  refine PSimp (ps_expr (pe_bm PySem.F.plainAttrs_list PySem.F.slot_list_append PySem.F.type_list_append mt_append (pe_var hN hv hd hcd) (pa_cons (sf_of he) pa_nil hs) (hfew := hfew) (hline := hline) (hs := hs) (hplain := hplain)) hsw) fun D σ H ⟨m, s, h, q, p⟩ => ?_
  rw [ex] at p
  cases e1 : getT s i with
  | oL n rs =>
    rw [e1] at p
    obtain ⟨l, vs, ei, es, eu, r, z⟩ := q.own e1
    refine ⟨.ref l, es, .inl ⟨rfl, vs, .of eu⟩, m, s, h, q.sr, PstS.goz q p fun m1 d h1 v H1 q1 y1 rd p1 => ?_⟩
    obtain ⟨l', vs', ei', es', eu', r', z'⟩ := q1.own e1
    rw [es] at es'
    cases es'
    simp only [T.d] at p1
    split at p1
    · rename_i hz
      have hl : vs'.length = rs.length := by rw [r'.len, List.length_reverse]
      refine ⟨l, vs', v, rfl, rfl, eu', by rw [hl, ← z']; exact line_lt hz, ?_⟩
      obtain ⟨q2, pr⟩ := q1.upd (u' := .lst (vs' ++ [v])) (t' := .oL (n + 1) (d :: rs)) ei' rfl es eu' trivial fun pr =>
        ⟨l, _, rfl, upd_same, by rw [List.reverse_cons]; exact (Rps.per pr _ _ r').app (Rps.one (Rp.per pr _ _ rd)), by rw [z', List.length_cons]⟩
      exact p1 m1 σ _ q2 pr
    · exact p1.elim
  | _ => rw [e1] at p; exact p.elim
/-- name.extend(e) -/
theorem ss_ext {i : Nat} {y : Str} {e : Expr} {a : E} {p apos cpos pos : Pos} (hN : X.N[i]? = some y) (hv : Vis X.env.scope y) (he : PE X e (tr G Φ x W a)) (hd : (y == ("__debug__" : Str)) = false := by decide) (hcd : (y == ("__classdict__" : Str)) = false := by decide)
    (hs : starEach [e] X.env = (false, eval e X.env) :: starEach [] X.env := by rfl)
    (hfew : ((backTo cpos (starEach [e] X.env)).all (fun x => !x.1) && (backToKw cpos (keywordEach [] X.env)).all (fun x => x.1.isSome)
      && decide ([e].length + ([] : List Keyword).length + (if ([] : List Keyword).isEmpty then 0 else 1) < 30)) = true := by rfl)
    (hline : (apos.endLine == cpos.line) = true := by rfl) (hplain : (backTo cpos (starEach [] X.env)).any (·.1) = false := by rfl) (hsw : swapsWith (.Call (.Attribute (.Name y p) "extend" apos) [e] [] cpos) none pos.line X.env = pure false := by rfl) :
    PS X (.Expr (.Call (.Attribute (.Name y p) "extend" apos) [e] [] cpos) pos) (ts G Φ x W m0 H0 (.ext i a)) := by
  refine PSimp (ps_expr (pe_bm PySem.F.plainAttrs_list PySem.F.slot_list_extend PySem.F.type_list_extend ext_read (pe_var hN hv hd hcd) (pa_cons he pa_nil hs) (hfew := hfew) (hline := hline) (hs := hs) (hplain := hplain)) hsw) fun D σ H ⟨m, s, h, q, p⟩ => ?_
  rw [ex] at p
  cases e1 : getT s i with
  | oL n rs =>
    rw [e1] at p
    obtain ⟨l, vs, ei, es, eu, r, z⟩ := q.own e1
    refine ⟨.ref l, es, .inl ⟨rfl, vs, .of eu⟩, m, s, h, q.sr, PstS.go q p fun m1 t h1 v H1 q1 y1 rt own p1 => ?_⟩
    obtain ⟨l', vs', ei', es', eu', r', z'⟩ := q1.own e1
    rw [es] at es'
    cases es'
    cases e2 : items t with
    | none => simp only [e2] at p1; exact p1.elim
    | some xs =>
      simp only [e2] at p1
      split at p1
      · rename_i hz
        have hl : vs'.length = rs.length := by rw [r'.len, List.length_reverse]
        have hz := okN_le hz
        have rd : ∃ b zs, v = .ref b ∧ (Rd H1 b (.lst zs) ∨ H1 b = some (.tup zs)) ∧ Rps m1 H1 xs zs := by
          cases t with
          | un => cases e2
          | oD ks => cases e2
          | oK ks => cases e2
          | it ks => exact rt.elim
          | oL k rs2 =>
            cases e2
            obtain ⟨b, zs, rfl, eb, rb, _⟩ := rt
            exact ⟨b, zs, rfl, .inl (.of eb), rb⟩
          | fz d =>
            cases d with
            | tup ds => cases e2; obtain ⟨b, zs, rfl, eb, rb⟩ := rt; exact ⟨b, zs, rfl, .inr eb, rb⟩
            | lst ds => cases e2; obtain ⟨b, o, zs, rfl, eb, rb⟩ := rt; exact ⟨b, zs, rfl, .inl (.inr ⟨o, eb⟩), rb⟩
            | _ => cases e2
        obtain ⟨b, zs, rfl, hb, rz⟩ := rd
        refine ⟨l, b, vs', zs, rfl, rfl, eu', hb, by rw [hl, ← z', rz.len]; exact hz, ?_⟩
        obtain ⟨q2, pr⟩ := q1.upd (u' := .lst (vs' ++ zs)) (t' := .oL (n + xs.length) (xs.reverse ++ rs)) ei' rfl es eu' trivial fun pr =>
          ⟨l, _, rfl, upd_same, by rw [List.reverse_append, List.reverse_reverse]; exact (Rps.per pr _ _ r').app (Rps.per pr _ _ rz), by rw [z', List.length_append, List.length_reverse]; omega⟩
        exact p1 m1 σ _ q2 pr
      · exact p1.elim
  | _ => rw [e1] at p; exact p.elim
/-- e alone -/
theorem ss_exp {e : Expr} {a : E} {pos : Pos} (he : PE X e (te G Φ x W a)) (hs : swapsWith e none pos.line X.env = pure false := by rfl) : PS X (.Expr e pos) (ts G Φ x W m0 H0 (.exp a)) := by
  refine PSimp (ps_expr he hs) fun D σ H ⟨m, s, h, q, p⟩ => ?_
  rw [ex] at p
  exact ⟨m, s, h, q.sr, PstS.go q p fun m1 t h1 v H1 q1 y rt own p1 => p1 m1 σ H1 q1 Per.refl⟩
theorem ss_doc {z : Str} {j pos pos'} : PS X (.Expr (.Constant (.str z) j pos) pos') (ts G Φ x W m0 H0 .skip) := by
  refine PSimp ps_doc fun D σ H ⟨m, s, h, q, p⟩ => ?_
  rw [ex] at p
  exact p m σ H q Per.refl
/-- if -/
theorem ss_if {c : Expr} {a b : List Stmt} {e : E} {f g : S} {pos : Pos} (hc : PT X c (tt G Φ x W e)) (ha : PSs X a (ts G Φ x W m0 H0 f)) (hb : PSs X b (ts G Φ x W m0 H0 g)) : PS X (.If c a b pos) (ts G Φ x W m0 H0 (.ifs e f g)) := by
  refine PSimp (ps_if hc ha hb) fun D σ H ⟨m, s, h, q, p⟩ => ?_
  rw [ex] at p
  refine ⟨m, s, h, q.sr, PstS.go q p fun m1 t h1 v H1 q1 y rt own p1 => ?_⟩
  cases t with
  | fz d =>
    cases d with
    | bl k =>
      refine ⟨k, rt, ?_⟩
      cases k with
      | true => exact ⟨m1, s, h1, q1, p1⟩
      | false => exact ⟨m1, s, h1, q1, p1⟩
    | _ => exact p1.elim
  | _ => exact p1.elim
end
end Ma
set_option maxHeartbeats 4000000
/-! Loops. -/
namespace Ma
open PySem PySem.Spec L2
variable [TB]
section
variable {G : GC} {Φ : Cal} {x : List D} {W : WX} {X : Cx} {fr : Bool} {m0 m m' : List Addr} {σ : L2.St} {H0 H H' : Hp} {Q Q' : VK} {D : Ends}
/-- an iterator gives these data, one behind another, as long as what is locked stands -/
def Wk (S : List Addr → Hp → Prop) (ds : List Ma.D) (J : It) : Prop :=
  ∀ m2 h2 H2, S m2 H2 → RpH m2 h2 H2 → (∀ (i : Nat) d, ds[i]? = some d → J.go i H2 ∧ ∀ v H3, J.yld i H2 v H3 → Ex m2 H2 m2 H3 ∧ RpH m2 h2 H3 ∧ Rp m2 H3 d v) ∧ J.stop ds.length H2
/-- what is walked in a loop -/
def tW (G : GC) (Φ : Cal) (x : List Ma.D) (W : WX) (e : E) : TI := fun σ H R => ∃ m s h, SR m s h σ H ∧ match ev Φ x e s h with
  | .ok t h' => ∃ ds, items t = some ds ∧ ∀ m' H' J, Ex m H m' H' → RpH m' h' H' → Wk (Per m' H') ds J → R J H'
  | .exc c xs h' => ∀ m' H' cls d, Ex m H m' H' → RpH m' h' H' → RpX G m' H' c xs cls d → W cls d σ H'
  | .bad _ => False
/-- a list or a tuple is walked, whichever the value turns out to be -/
theorem pi_seqA {l tg : Expr} {tl : TE} (hl : PE X l tl) : PI X tg l (fun σ H R => tl σ H fun v H1 => ∃ a, v = .ref a ∧ (((∃ xs, SqL X.K H1 a xs) ∧ R (Itl X.K a) H1) ∨ ((∃ xs, SqT X.K H1 a xs) ∧ R (Itt X.K a) H1))) := by
  constructor
  intro pins st σ hp R inv go
  refine thn (hl.run pins st σ hp _ inv go) ?_
  rintro u st1 ⟨_, hp1, inv1, ru, a, rfl, ⟨⟨xs, sq⟩, q⟩ | ⟨⟨xs, sq⟩, q⟩⟩ <;> cases ru
  · have ⟨_, _, pl, _⟩ := inv1.list sq
    exact wpAny_pyIter_list pl.isList (pi_one (tk := st1.toks) inv1 _ (turn_list a _) ⟨_, Heap.get?_push_size _ rfl, rfl, rfl⟩ q)
  · have ⟨_, _, pt, _⟩ := inv1.tuple sq
    exact wpAny_pyIter_tuple pt (pi_one (tk := st1.toks) inv1 _ (turn_tuple a _) ⟨_, Heap.get?_push_size _ rfl, rfl, rfl⟩ q)
theorem wk_list {K : PySem.W.Frag} {S : List Addr → Hp → Prop} {ds : List Ma.D} {a : Addr} (h : ∀ m2 h2 H2, S m2 H2 → RpH m2 h2 H2 → ∃ vs, SqL K H2 a vs ∧ (∀ ws, SqL K H2 a ws → ws = vs) ∧ Rps m2 H2 ds vs) : Wk S ds (Itl K a) := by
  intro m2 h2 H2 hs rh
  obtain ⟨vs, e, un, r⟩ := h m2 h2 H2 hs rh
  refine ⟨fun i d ed => ?_, vs, e, by rw [r.len]; exact Nat.le_refl _⟩
  obtain ⟨v, ev, rv⟩ := r.get ed
  refine ⟨⟨vs, v, e, ev⟩, fun w H3 ⟨eH, q⟩ => ?_⟩
  subst eH
  have := q vs e
  rw [ev] at this
  cases this
  exact ⟨Ex.refl, rh, rv⟩
theorem wk_tup {K : PySem.W.Frag} {S : List Addr → Hp → Prop} {ds : List Ma.D} {a : Addr} (h : ∀ m2 h2 H2, S m2 H2 → RpH m2 h2 H2 → ∃ vs, SqT K H2 a vs ∧ Rps m2 H2 ds vs) : Wk S ds (Itt K a) := by
  intro m2 h2 H2 hs rh
  obtain ⟨vs, e, r⟩ := h m2 h2 H2 hs rh
  refine ⟨fun i d ed => ?_, vs, e, by rw [r.len]; exact Nat.le_refl _⟩
  obtain ⟨v, ev, rv⟩ := r.get ed
  refine ⟨⟨vs, v, e, ev⟩, fun w H3 ⟨eH, q⟩ => ?_⟩
  subst eH
  have := q vs e
  rw [ev] at this
  cases this
  exact ⟨Ex.refl, rh, rv⟩
theorem wk_list' {K : PySem.W.Frag} {S : List Addr → Hp → Prop} {ds : List Ma.D} {a : Addr} (h : ∀ m2 h2 H2, S m2 H2 → RpH m2 h2 H2 → ∃ vs, Rd H2 a (.lst vs) ∧ Rps m2 H2 ds vs) : Wk S ds (Itl K a) := by
  intro m2 h2 H2 hs rh
  obtain ⟨vs, e, r⟩ := h m2 h2 H2 hs rh
  refine ⟨fun i d ed => ?_, vs, .inl e, by rw [r.len]; exact Nat.le_refl _⟩
  obtain ⟨v, ev, rv⟩ := r.get ed
  refine ⟨⟨vs, v, .inl e, ev⟩, fun w H3 ⟨eH, q⟩ => ?_⟩
  subst eH
  have := q vs (.inl e)
  rw [ev] at this
  cases this
  exact ⟨Ex.refl, rh, rv⟩
theorem sw_data {tg py : Expr} {a : E} (he : PE X py (te G Φ x W a)) : PI X tg py (tW G Φ x W a) := by
  refine ⟨fun pins s σ H R I ⟨m, sl, h, r, p⟩ => (pi_seqA (pe_frz he)).run pins s σ H R I ?_⟩
  refine ⟨m, sl, h, r, ?_⟩
  cases e : ev Φ x a sl h with
  | bad w => rw [e] at p; exact p
  | exc c xs h' => rw [e] at p; exact p
  | ok t h' =>
    rw [e] at p
    obtain ⟨ds, ei, p⟩ := p
    intro m' v H' y rh rt own
    cases t with
    | un => cases ei
    | oD ks => cases ei
    | oK ks => cases ei
    | it ks => exact rt.elim
    | oL k rs =>
      cases ei
      obtain ⟨b, vs, rfl, eb, rb, _⟩ := rt
      refine .inr ⟨b, .lst vs, rfl, eb, trivial, fun od => ⟨b, rfl, .inl ⟨⟨vs, .inl (.inr ⟨od, upd_same⟩)⟩, ?_⟩⟩⟩
      have pr : Per m' H' m' (L2.upd H' b (.frz od (.lst vs))) := per_lock (h := h') (u := .lst vs) trivial eb
      refine p m' _ _ (y.lock ((own rfl b rfl).2 rfl)) (rh.lock trivial (fun _ z => HO.noConfusion z) eb (own rfl b rfl).1) (wk_list' fun m2 h2 H2 p2 rh2 => ⟨vs, .inr ⟨od, p2.frz b od _ upd_same⟩, Rps.per (pr.trans p2) _ _ rb⟩)
    | fz d =>
      cases d with
      | tup es =>
        cases ei
        obtain ⟨b, vs, rfl, eb, rb⟩ := rt
        exact .inl ⟨b, rfl, .inr ⟨⟨vs, .of eb⟩, p m' _ _ y rh (wk_tup fun m2 h2 H2 p2 rh2 => ⟨vs, .of (p2.tup b vs eb), Rps.per p2 _ _ rb⟩)⟩⟩
      | lst es =>
        cases ei
        obtain ⟨b, o, vs, rfl, eb, rb⟩ := rt
        exact .inl ⟨b, rfl, .inl ⟨⟨vs, .inl (.inr ⟨o, eb⟩)⟩, p m' _ _ y rh (wk_list' fun m2 h2 H2 p2 rh2 => ⟨vs, .inr ⟨o, p2.frz b o _ eb⟩, Rps.per p2 _ _ rb⟩)⟩⟩
      | _ => cases ei
theorem rangeD_get : ∀ (n : Nat) (a : Int) (i : Nat), (rangeD a n)[i]? = if i < n then some (.int (a + i)) else none
  | 0, a, i => by simp [rangeD]
  | n + 1, a, 0 => by simp [rangeD]
  | n + 1, a, i + 1 => by
    rw [rangeD, List.getElem?_cons_succ, rangeD_get n (a + 1) i]
    by_cases c : i < n
    · rw [if_pos c, if_pos (by omega)]
      congr 2
      omega
    · rw [if_neg c, if_neg (by omega)]
theorem rangeD_len : ∀ (n : Nat) (a : Int), (rangeD a n).length = n
  | 0, _ => rfl
  | n + 1, a => by rw [rangeD, List.length_cons, rangeD_len n]
theorem wk_range {S : List Addr → Hp → Prop} {lo : Int} {n : Nat} : Wk S (rangeD lo n) (Itr lo n) := by
  intro m2 h2 H2 hs rh
  refine ⟨fun i d ed => ?_, by rw [rangeD_len]; exact Nat.le_refl _⟩
  rw [rangeD_get] at ed
  by_cases c : i < n
  · rw [if_pos c] at ed
    cases ed
    refine ⟨c, fun v H3 ⟨eH, ev⟩ => ?_⟩
    subst eH ev
    exact ⟨Ex.refl, rh, rfl⟩
  · rw [if_neg c] at ed
    cases ed
theorem sm_ok {i : Int} (h : sm i = true) : -(2 ^ 62) ≤ i ∧ i < 2 ^ 62 := by
  unfold sm at h
  simp only [Bool.and_eq_true, decide_eq_true_eq] at h
  omega
theorem tW.pst {e : E} {m : List Addr} {s : Sl} {h : RH} {R : It → Hp → Prop} (r : SR m s h σ H) (p : match ev Φ x e s h with
  | .ok t h' => ∃ ds, items t = some ds ∧ ∀ m' H' J, Ex m H m' H' → RpH m' h' H' → Wk (Per m' H') ds J → R J H'
  | .exc c xs h' => ∀ m' H' cls d, Ex m H m' H' → RpH m' h' H' → RpX G m' H' c xs cls d → W cls d σ H'
  | .bad _ => False) : tW G Φ x W e σ H R := ⟨m, s, h, r, p⟩
/-- range(a, b) -/
theorem sw_rng2 {tg a1 b1 : Expr} {a b : E} {p pos : Pos} (hg : Gl X "range") (hm : X.mg "range" = none) (ha : PE X a1 (te G Φ x W a)) (hb : PE X b1 (te G Φ x W b))
    (hs1 : starEach [a1, b1] X.env = (false, eval a1 X.env) :: starEach [b1] X.env := by rfl) (hs2 : starEach [b1] X.env = (false, eval b1 X.env) :: starEach [] X.env := by rfl) (hs : starEach [a1, b1] X.env = [(false, eval a1 X.env), (false, eval b1 X.env)] := by rfl) :
    PI X tg (.Call (.Name "range" p) [a1, b1] [] pos) (tW G Φ x W (.rng a b)) := by
  refine ⟨fun pins s σ H R I ⟨m, sl, h, r, p⟩ => (pi_range2 hg hm (pa_cons ha (pa_cons hb pa_nil hs2) hs1) hs (by rw [hs2]; rfl)).run pins s σ H R I ?_⟩
  rw [ev] at p
  refine ⟨m, sl, h, r, ?_⟩
  cases e1 : ev Φ x a sl h with
  | bad w => rw [e1] at p; exact p
  | exc c xs h' => rw [e1] at p; exact p
  | ok t h' =>
    rw [e1] at p
    cases t with
    | fz d =>
      cases d with
      | int i =>
        intro m' v H' y rh rt own
        refine ⟨m', sl, h', r.stay y rh, ?_⟩
        simp only [RE.int, RE.bind] at p
        cases e2 : ev Φ x b sl h' with
        | bad w => rw [e2] at p; exact p
        | exc c xs h2 => rw [e2] at p; exact fun m2 H2 cls d z => p m2 H2 cls d (y.comp rh z)
        | ok t h2 =>
          rw [e2] at p
          cases t with
          | fz d =>
            cases d with
            | int j =>
              intro m2 w H2 y2 rh2 rt2 own2
              simp only at p
              by_cases hz : (sm i && sm j) = true
              · rw [if_pos hz] at p
                rw [Bool.and_eq_true] at hz
                have s1 := sm_ok hz.1
                have s2 := sm_ok hz.2
                obtain ⟨ds, ei, p⟩ := p
                cases ei
                exact ⟨i, j, by rw [show v = .int i from rt, show w = .int j from rt2], ⟨s1.1, s1.2, s2.1, s2.2⟩, p m2 H2 _ (y.comp rh y2) rh2 wk_range⟩
              · rw [if_neg hz] at p
                exact p.elim
            | _ => exact p.elim
          | _ => exact p.elim
      | _ => exact p.elim
    | _ => exact p.elim
/-- range(b) -/
theorem sw_rng1 {tg b1 : Expr} {b : E} {p pos : Pos} (hg : Gl X "range") (hm : X.mg "range" = none) (hb : PE X b1 (te G Φ x W b))
    (hs2 : starEach [b1] X.env = (false, eval b1 X.env) :: starEach [] X.env := by rfl) (hs : starEach [b1] X.env = [(false, eval b1 X.env)] := by rfl) :
    PI X tg (.Call (.Name "range" p) [b1] [] pos) (tW G Φ x W (.rng (.lit (.int 0)) b)) := by
  refine ⟨fun pins s σ H R I ⟨m, sl, h, r, p⟩ => (pi_range1 hg hm (pa_cons hb pa_nil hs2) hs).run pins s σ H R I ?_⟩
  rw [ev, ev] at p
  refine ⟨m, sl, h, r, ?_⟩
  simp only [RE.int, RE.bind] at p
  cases e2 : ev Φ x b sl h with
  | bad w => rw [e2] at p; exact p
  | exc c xs h2 => rw [e2] at p; exact p
  | ok t h2 =>
    rw [e2] at p
    cases t with
    | fz d =>
      cases d with
      | int j =>
        intro m2 w H2 y2 rh2 rt2 own2
        simp only at p
        by_cases hz : (sm 0 && sm j) = true
        · rw [if_pos hz] at p
          rw [Bool.and_eq_true] at hz
          have s2 := sm_ok hz.2
          obtain ⟨ds, ei, p⟩ := p
          cases ei
          rw [Int.sub_zero] at p
          exact ⟨j, by rw [show w = .int j from rt2], s2.1, s2.2, p m2 H2 _ y2 rh2 wk_range⟩
        · rw [if_neg hz] at p
          exact p.elim
      | _ => exact p.elim
    | _ => exact p.elim
theorem ss_for {tg iter : Expr} {body : List Stmt} {g : Tg} {a : E} {b : S} {pos : Pos} (hp : PassesOwn (model X.prog X.w) X.A X.env X.xe) (hc : X.calm = true) (hi : PI X tg iter (tW G Φ x W a)) (hg : PG X tg (gT (SF m0 H0) g)) (hb : PSs X body (ts G Φ x W m0 H0 b))
    (hs : ∀ z, foldedSetIterable iter X.env z = pure z := by intro _; rfl) : PS X (.For tg iter body [] pos) (ts G Φ x W m0 H0 (.for_ g a b)) := by
  refine PSimp (ps_for hp hc hi hg hb hs) fun D σ H ⟨m, s, h, q, p⟩ => ?_
  rw [ex] at p
  refine ⟨m, s, h, q.sr, ?_⟩
  cases e : ev Φ x a s h with
  | bad w => rw [e] at p; exact p
  | exc c xs h' => rw [e] at p; exact fun m' H' cls d y rh rx => p m' σ H' cls d (q.stay y rh) (y.per q.sr.hp) rx
  | ok t h' =>
    rw [e] at p
    simp only [RE.go] at p
    cases ei : items t with
    | none => rw [ei] at p; exact p.elim
    | some ds =>
      rw [ei] at p
      refine ⟨ds, ei, fun m' H' J y rh wk => ?_⟩
      refine ⟨fun i μ σ2 H2 => μ + i = ds.length ∧ ∃ m2 s2 h2, SF m0 H0 m2 s2 h2 σ2 H2 ∧ Per m' H' m2 H2 ∧ PstS G W m0 H0 m2 H2 D (forGo g (ex Φ x b) (ds.drop i) s2 h2), ⟨ds.length, rfl, m', s, h', q.stay y rh, Per.refl, PstS.from p (y.per q.sr.hp)⟩, ?_⟩
      rintro i μ σ2 H2 ⟨hμ, m2, s2, h2, q2, pr, p2⟩
      obtain ⟨go, stop⟩ := wk m2 h2 H2 pr q2.sr.hp
      by_cases c : i < ds.length
      · right
        have hd := List.drop_eq_getElem_cons c
        rw [hd, forGo] at p2
        obtain ⟨g1, g2⟩ := go i ds[i] (List.getElem?_eq_getElem c)
        refine ⟨g1, fun σ' H' => ∃ m3 s3 h3, SF m0 H0 m3 s3 h3 σ' H' ∧ Per m2 H2 m3 H' ∧ PstS G W m0 H0 m3 H' D (forGo g (ex Φ x b) (ds.drop (i + 1)) s3 h3), fun σ' H3 ⟨m3, s3, h3, q3, pr3, p3⟩ => ⟨μ - 1, by omega, by omega, m3, s3, h3, q3, pr.trans pr3, p3⟩, fun v H3 yl => ?_⟩
        obtain ⟨y3, rh3, rv⟩ := g2 v H3 yl
        cases eb : bindT g ds[i] s2 with
        | none => rw [eb] at p2; exact p2.elim
        | some s3 =>
          rw [eb] at p2
          refine ⟨m2, s2, h2, ds[i], s3, q2.stay y3 rh3, rv, eb, fun σ' q' => ⟨m2, s3, h2, q', ?_⟩⟩
          exact (PstS.from p2 (y3.per q2.sr.hp)).nxt'.ends (fun σ4 H4 ⟨m4, s4, h4, q4, pr4, p4⟩ => ⟨m4, s4, h4, q4, (y3.per q2.sr.hp).trans pr4, p4⟩) fun _ _ z => z
      · left
        have hi : i = ds.length := by omega
        subst hi
        rw [List.drop_length, forGo] at p2
        exact ⟨stop, p2 m2 σ2 H2 q2 Per.refl⟩
/-- while -/
theorem ss_whl {c : Expr} {body : List Stmt} {a : E} {b : S} {pos : Pos} (hp : PassesOwn (model X.prog X.w) X.A X.env X.xe) (hc : PT X c (tt G Φ x W a)) (hb : PSs X body (ts G Φ x W m0 H0 b)) : PS X (.While c body [] pos) (ts G Φ x W m0 H0 (.whl a b)) := by
  refine PSimp (ps_while hp hc hb) fun D σ H ⟨m, s, h, q, p⟩ => ?_
  rw [ex] at p
  refine ⟨fun μ σ2 H2 => ∃ m2 s2 h2, SF m0 H0 m2 s2 h2 σ2 H2 ∧ PstS G W m0 H0 m2 H2 D (whlGo (ev Φ x a) (ex Φ x b) μ s2 h2), ⟨1000000, m, s, h, q, p⟩, ?_⟩
  rintro μ σ2 H2 ⟨m2, s2, h2, q2, p2⟩
  cases μ with
  | zero => rw [whlGo] at p2; exact p2.elim
  | succ μ =>
    rw [whlGo] at p2
    refine ⟨m2, s2, h2, q2.sr, PstS.go q2 p2 fun m3 t h3 v H3 q3 y rt own p3 => ?_⟩
    cases t with
    | fz d =>
      cases d with
      | bl k =>
        refine ⟨k, rt, ?_⟩
        cases k with
        | true =>
          refine ⟨fun σ' H' => ∃ m4 s4 h4, SF m0 H0 m4 s4 h4 σ' H' ∧ PstS G W m0 H0 m4 H' D (whlGo (ev Φ x a) (ex Φ x b) μ s4 h4), fun σ' H' z => ⟨μ, Nat.lt_succ_self _, z⟩, m3, s2, h3, q3, ?_⟩
          exact (PstS.nxt p3).ends (fun _ _ z => z) fun _ _ z => z
        | false => exact p3 m3 σ2 H3 q3 Per.refl
      | _ => exact p3.elim
    | _ => exact p3.elim
end
end Ma
set_option maxHeartbeats 4000000
/-! Comprehensions. -/
namespace Ma
open PySem PySem.Spec L2
variable [TB]
/-- nothing is raised -/
abbrev W0 : WX := fun _ _ _ _ => False
section
variable {G : GC} {Φ : Cal} {x : List D} {W : WX} {X : Cx} {fr : Bool} {m0 m m' : List Addr} {σ : L2.St} {H0 H H' : Hp} {Q Q' : VK}
/-! ### wiped names -/
theorem wipe_at : ∀ (vs : List Nat) (σ : L2.St) (i : Nat), i ∉ vs → (wipe σ vs)[i]? = σ[i]?
  | [], _, _, _ => rfl
  | v :: vs, σ, i, h => by
    rw [wipe, List.getElem?_set_ne (fun z => h (by rw [z]; exact List.mem_cons_self ..)), wipe_at vs σ i fun z => h (List.mem_cons_of_mem _ z)]
theorem unT_len : ∀ (vs : List Nat) (s : Sl), (unT vs s).length = s.length
  | [], _ => rfl
  | v :: vs, s => by rw [unT, setT_len, unT_len vs s]
theorem unT_at : ∀ (vs : List Nat) (s : Sl) (i : Nat) (t : T), (unT vs s)[i]? = some t → t ≠ .un → i ∉ vs ∧ s[i]? = some t
  | [], _, _, _, e, _ => ⟨by simp, e⟩
  | v :: vs, s, i, t, e, n => by
    rw [unT, setT_at] at e
    by_cases c : v = i ∧ i < (unT vs s).length
    · rw [if_pos c] at e; cases e; exact absurd rfl n
    · rw [if_neg c] at e
      obtain ⟨h1, h2⟩ := unT_at vs s i t e n
      refine ⟨fun z => ?_, h2⟩
      rcases List.mem_cons.mp z with w | w
      · exact c ⟨w.symm, (List.getElem?_eq_some_iff.mp e).1⟩
      · exact h1 w
theorem SR.wipe {s : Sl} {h : RH} (vs : List Nat) (q : SR m s h σ H) : SR m (unT vs s) h (L2.wipe σ vs) H := by
  have ne : ∀ {t : T}, t.own = true → t ≠ .un := fun o z => by subst z; cases o
  refine ⟨by rw [unT_len, wipe_length, q.len], fun i t e n => ?_, fun i j t u a ei ej oi oj si sj => ?_, fun i t a e o si => ?_, q.hp⟩
  · obtain ⟨hi, e2⟩ := unT_at vs s i t e n
    rw [wipe_at vs σ i hi]
    exact q.at_ i t e2 n
  · obtain ⟨hi, e2⟩ := unT_at vs s i t ei (ne oi)
    obtain ⟨hj, e3⟩ := unT_at vs s j u ej (ne oj)
    rw [wipe_at vs σ i hi] at si
    rw [wipe_at vs σ j hj] at sj
    exact q.apart i j t u a e2 e3 oi oj si sj
  · obtain ⟨hi, e2⟩ := unT_at vs s i t e (ne o)
    rw [wipe_at vs σ i hi] at si
    exact q.off i t a e2 o si
theorem wipe_set : ∀ (vs : List Nat) (σ : L2.St) (i : Nat) (o : Option V), i ∈ vs → wipe (σ.set i o) vs = wipe σ vs
  | [], _, _, _, h => by cases h
  | v :: vs, σ, i, o, h => by
    have key : ∀ (vs : List Nat) (σ : L2.St), i ∉ vs → wipe (σ.set i o) vs = (wipe σ vs).set i o := by
      intro vs
      induction vs with
      | nil => intro σ _; rfl
      | cons w ws ih =>
        intro σ h
        rw [wipe, wipe, ih σ (fun z => h (List.mem_cons_of_mem _ z)), List.set_comm _ _ (fun z => h (by rw [z]; exact List.mem_cons_self ..))]
    rw [wipe, wipe]
    by_cases c : i ∈ vs
    · rw [wipe_set vs σ i o c]
    · rw [key vs σ c]
      have : v = i := by rcases List.mem_cons.mp h with w | w; exact w.symm; exact absurd w c
      subst this
      rw [List.set_set]
theorem wipe_sub : ∀ (us vs : List Nat) (σ : L2.St), (∀ i ∈ us, i ∈ vs) → wipe (wipe σ us) vs = wipe σ vs
  | [], _, _, _ => rfl
  | u :: us, vs, σ, h => by
    rw [wipe, wipe_set vs _ u none (h u (List.mem_cons_self ..)), wipe_sub us vs σ fun i z => h i (List.mem_cons_of_mem _ z)]
theorem wipe_wipe (vs : List Nat) (σ : L2.St) : wipe (wipe σ vs) vs = wipe σ vs := wipe_sub vs vs σ fun _ z => z
/-- no own slot stands at these -/
def Off (A : Addr → Prop) (s : Sl) (σ : L2.St) : Prop := ∀ (j : Nat) t a, s[j]? = some t → t.own = true → σ[j]? = some (some (.ref a)) → ¬ A a
/-- the state within a comprehension -/
def PC (vs : List Nat) (σ0 : L2.St) (A : Addr → Prop) : List Addr → Sl → RH → L2.St → Hp → Prop := fun m s h σ H => SR m s h σ H ∧ wipe σ vs = σ0 ∧ Off A s σ
theorem Off.set {A : Addr → Prop} {s : Sl} {i : Nat} {d : Ma.D} {v : V} (q : Off A s σ) : Off A (setT s i (.fz d)) (σ.set i (some v)) := by
  intro j t a e o es
  rw [setT_at] at e
  by_cases c : i = j ∧ j < s.length
  · rw [if_pos c] at e; cases e; cases o
  · rw [if_neg c] at e
    have hl := (List.getElem?_eq_some_iff.mp e).1
    rw [List.getElem?_set_ne (fun z => c ⟨z, hl⟩)] at es
    exact q j t a e o es
theorem Off.wipe {A : Addr → Prop} {s : Sl} (vs : List Nat) (q : Off A s σ) : Off A (unT vs s) (L2.wipe σ vs) := by
  intro j t a e o es
  obtain ⟨hj, e2⟩ := unT_at vs s j t e (by intro z; subst z; cases o)
  rw [wipe_at vs σ j hj] at es
  exact q j t a e2 o es
theorem clo_PC {vs : List Nat} {σ0 : L2.St} {A : Addr → Prop} : Clo (fun i => i ∈ vs) (PC vs σ0 A) := fun m s h σ H i d v hA q r =>
  ⟨clo_SR m s h σ H i d v trivial q.1 r, by rw [wipe_set vs σ i _ hA]; exact q.2.1, q.2.2.set⟩

/-! ### what is read -/
/-- what is walked stands: what is new since H, or a slot's own, is as it was -/
def Std (s : Sl) (σ : L2.St) (H : Hp) (m' : List Addr) (H' : Hp) : List Addr → Hp → Prop := fun m2 H2 =>
  Per m' H' m2 H2 ∧ ∀ a o, H' a = some o → a ∉ m' → (H a = none ∨ ∃ (j : Nat) (t : T), s[j]? = some t ∧ t.own = true ∧ σ[j]? = some (some (V.ref a))) → H2 a = some o
theorem Std.of {s : Sl} {h : RH} {m2 : List Addr} {H2 : Hp} (rh : RpH m' h H') (y : Ex m' H' m2 H2) : Std s σ H m' H' m2 H2 := ⟨y.per rh, fun a o e n _ => y.keep a o e n⟩
def tR (G : GC) (Φ : Cal) (x : List Ma.D) (W : WX) (e : E) : TI := fun σ H R => ∃ m s h, SR m s h σ H ∧ match rdv e s h (ev Φ x e s h) with
  | .ok t h' => ∃ ds, items t = some ds ∧ ∀ m' H' J, Ex m H m' H' → RpH m' h' H' → Wk (Std s σ H m' H') ds J → R J H'
  | .exc c xs h' => ∀ m' H' cls d, Ex m H m' H' → RpH m' h' H' → RpX G m' H' c xs cls d → W cls d σ H'
  | .bad _ => False
theorem sr_data {tg py : Expr} {a : E} (hn : isVr a = false) (he : PE X py (te G Φ x W a)) : PI X tg py (tR G Φ x W a) := by
  refine ⟨fun pins s σ H R I ⟨m, sl, h, r, p⟩ => (pi_seqA he).run pins s σ H R I ?_⟩
  rw [rdv_eq hn] at p
  refine ⟨m, sl, h, r, ?_⟩
  cases e : ev Φ x a sl h with
  | bad w => rw [e] at p; exact p
  | exc c xs h' => rw [e] at p; exact p
  | ok t h' =>
    rw [e] at p
    obtain ⟨ds, ei, p⟩ := p
    intro m' v H' y rh rt own
    cases t with
    | un => cases ei
    | oD ks => cases ei
    | oK ks => cases ei
    | it ks => exact rt.elim
    | oL k rs =>
      cases ei
      obtain ⟨b, vs, rfl, eb, rb, _⟩ := rt
      exact ⟨b, rfl, .inl ⟨⟨vs, .of eb⟩, p m' H' _ y rh (wk_list' fun m2 h2 H2 y2 rh2 => ⟨vs, .of (y2.2 b _ eb (own rfl b rfl).1 (.inl ((own rfl b rfl).2 rfl))), Rps.per y2.1 _ _ rb⟩)⟩⟩
    | fz d =>
      cases d with
      | tup es =>
        cases ei
        obtain ⟨b, vs, rfl, eb, rb⟩ := rt
        exact ⟨b, rfl, .inr ⟨⟨vs, .of eb⟩, p m' H' _ y rh (wk_tup fun m2 h2 H2 y2 rh2 => ⟨vs, .of (y2.1.tup b vs eb), Rps.per y2.1 _ _ rb⟩)⟩⟩
      | lst es =>
        cases ei
        obtain ⟨b, o, vs, rfl, eb, rb⟩ := rt
        exact ⟨b, rfl, .inl ⟨⟨vs, .inl (.inr ⟨o, eb⟩)⟩, p m' H' _ y rh (wk_list' fun m2 h2 H2 y2 rh2 => ⟨vs, .inr ⟨o, y2.1.frz b o _ eb⟩, Rps.per y2.1 _ _ rb⟩)⟩⟩
      | _ => cases ei
/-- a slot's own list is walked -/
theorem sr_own {tg : Expr} {i : Nat} {y : Str} {pos : Pos} (hN : X.N[i]? = some y) (hv : Vis X.env.scope y) (hd : (y == ("__debug__" : Str)) = false := by decide) (hcd : (y == ("__classdict__" : Str)) = false := by decide) : PI X tg (.Name y pos) (tR G Φ x W (.vr i)) := by
  refine ⟨fun pins s σ H R I ⟨m, sl, h, r, p⟩ => (pi_seqA (pe_var hN hv hd hcd)).run pins s σ H R I ?_⟩
  have key : ∀ t ds, getT sl i = t → t ≠ .un → items t = some ds → (∀ m' H' J, Ex m H m' H' → RpH m' h H' → Wk (Std sl σ H m' H') ds J → R J H') → ∃ v, σ[i]? = some (some v) ∧ ∃ a, v = .ref a ∧ (((∃ xs, SqL X.K H a xs) ∧ R (Itl X.K a) H) ∨ ((∃ xs, SqT X.K H a xs) ∧ R (Itt X.K a) H)) := fun t ds e n ei p => by
    obtain ⟨v, ev, rt, o⟩ := r.slot e n
    refine ⟨v, ev, ?_⟩
    cases t with
    | un => cases ei
    | oD ks => cases ei
    | oK ks => cases ei
    | it ks => exact rt.elim
    | oL k rs =>
      cases ei
      obtain ⟨b, vs, rfl, eb, rb, _⟩ := rt
      exact ⟨b, rfl, .inl ⟨⟨vs, .of eb⟩, p m H _ Ex.refl r.hp (wk_list' fun m2 h2 H2 y2 rh2 => ⟨vs, .of (y2.2 b _ eb (o rfl b rfl) (.inr ⟨i, _, getT_get e n, rfl, ev⟩)), Rps.per y2.1 _ _ rb⟩)⟩⟩
    | fz d =>
      cases d with
      | tup es =>
        cases ei
        obtain ⟨b, vs, rfl, eb, rb⟩ := rt
        exact ⟨b, rfl, .inr ⟨⟨vs, .of eb⟩, p m H _ Ex.refl r.hp (wk_tup fun m2 h2 H2 y2 rh2 => ⟨vs, .of (y2.1.tup b vs eb), Rps.per y2.1 _ _ rb⟩)⟩⟩
      | lst es =>
        cases ei
        obtain ⟨b, ob, vs, rfl, eb, rb⟩ := rt
        exact ⟨b, rfl, .inl ⟨⟨vs, .inl (.inr ⟨ob, eb⟩)⟩, p m H _ Ex.refl r.hp (wk_list' fun m2 h2 H2 y2 rh2 => ⟨vs, .inr ⟨ob, y2.1.frz b ob _ eb⟩, Rps.per y2.1 _ _ rb⟩)⟩⟩
      | _ => cases ei
  unfold rdv at p
  dsimp only at p
  cases e : getT sl i <;> rw [e] at p
  · exact p.elim
  all_goals
    obtain ⟨ds, ei, p⟩ := p
    exact key _ ds e (by simp) ei p
/-- what is walked in a loop is walked in a comprehension -/
theorem sr_walk {tg py : Expr} {a : E} (hn : isVr a = false) (h : PI X tg py (tW G Φ x W a)) : PI X tg py (tR G Φ x W a) := by
  refine ⟨fun pins s σ H R I ⟨m, sl, hh, r, p⟩ => h.run pins s σ H R I ⟨m, sl, hh, r, ?_⟩⟩
  rw [rdv_eq hn] at p
  cases e : ev Φ x a sl hh with
  | bad w => rw [e] at p; exact p
  | exc c xs h' => rw [e] at p; exact p
  | ok t h' =>
    rw [e] at p
    obtain ⟨ds, ei, p⟩ := p
    exact ⟨ds, ei, fun m' H' J y rh wk => p m' H' J y rh fun m2 h2 H2 y2 r2 => wk m2 h2 H2 y2.1 r2⟩

/-! ### no condition, one -/
theorem sc_nil : PTs X [] (tt G Φ x W0 (.lit (.bl true))) := by
  refine ⟨fun pins s σ H Q I ⟨m, sl, h, r, p⟩ => pts_nil.run pins s σ H Q I ?_⟩
  rw [ev] at p
  obtain ⟨b, e, q⟩ := Pst.fz p r.hp (show Rp m H (.bl true) (.bl true) from rfl)
  cases e
  exact q
theorem sc_one {c : Expr} {a : E} (h : PT X c (tt G Φ x W0 a)) : PTs X [c] (tt G Φ x W0 a) := pts_one h
theorem takes0 {Y : Cx} : Takes Y W0 := by
  rintro u s' ⟨_, _, _, _, _, _, _, _, _, _, _, _, _, _, _, _, h⟩
  exact h.elim
/-- nothing raised -/
theorem Pst.calm {W' : WX} {σ' : L2.St} {r : RE} {F : T → RH → RE} {R : VK} {m1 : List Addr} {H1 : Hp} (p : Pst G fr W m σ H Q (r.calm.frz.bind F)) (y : Ex m H m1 H1) (h1 : RH) (rh1 : RpH m1 h1 H1)
    (k : ∀ m2 d h2 v H2, RpH m2 h2 H2 → Ex m1 H1 m2 H2 → Rp m2 H2 d v → Pst G fr W m σ H Q (F (.fz d) h2) → R v H2) : Pst G true W' m1 σ' H1 R r.frz := by
  cases r with
  | bad w => exact p
  | exc c xs h' => exact p.elim
  | ok t h' => exact fun m2 v H2 z rh rt own => k m2 t.d h' v H2 rh z rt p
theorem Pst.calmT {W' : WX} {σ' : L2.St} {r : RE} {F : Bool → RH → RE} {R : Bool → Hp → Prop} {m1 : List Addr} {H1 : Hp} (p : Pst G fr W m σ H Q (r.calm.test F)) (y : Ex m H m1 H1) (h1 : RH) (rh1 : RpH m1 h1 H1)
    (k : ∀ m2 b h2 H2, RpH m2 h2 H2 → Ex m1 H1 m2 H2 → Pst G fr W m σ H Q (F b h2) → R b H2) : Pst G true W' m1 σ' H1 (fun v H' => ∃ b, v = .bl b ∧ R b H') r := by
  cases r with
  | bad w => exact p
  | exc c xs h' => exact p.elim
  | ok t h' =>
    cases t with
    | fz d =>
      cases d with
      | bl b => exact fun m2 v H2 z rh rt own => ⟨b, rt, k m2 b h' H2 rh z p⟩
      | _ => exact p.elim
    | _ => exact p.elim
/-- the list that is being made takes one more -/
theorem grow {h : RH} {D : Addr} {vs : List V} {v : V} {m1 : List Addr} {H1 : Hp} (rh : RpH m h H) (y : Ex m1 H1 m H) (hD : H D = some (.lst vs)) (nD : D ∉ m) (n1 : H1 D = none) :
    RpH m h (L2.upd H D (.lst (vs ++ [v]))) ∧ Ex m1 H1 m (L2.upd H D (.lst (vs ++ [v]))) ∧ Per m H m (L2.upd H D (.lst (vs ++ [v]))) := by
  have pr : Per m H m (L2.upd H D (.lst (vs ++ [v]))) := by
    refine ⟨fun a xs e => ?_, fun a o w e => ?_, fun _ _ e => e⟩
    · rw [upd_ne]; exact e
      intro z; subst z; rw [hD] at e; cases e
    · rw [upd_ne]; exact e
      intro z; subst z; rw [hD] at e; cases e
  refine ⟨⟨rh.nd, rh.len, fun n ob a e1 e2 => ?_⟩, ⟨y.pre, fun a o e hn => ?_⟩, pr⟩
  · have qa := rh.at_ n ob a e1 e2
    have ha : a ∈ m := List.mem_of_getElem? e2
    cases ob with
    | lst xs =>
      obtain ⟨ws, e3, r⟩ := qa
      exact ⟨ws, by rw [upd_ne (fun z => nD (by rw [← z]; exact ha))]; exact e3, Rps.per pr _ _ r⟩
    | ins c fs => exact qa
    | tab k =>
      obtain ⟨x, e3, t⟩ := qa
      exact ⟨x, e3, tab_stay t fun b o nl eb => by rw [upd_ne (fun z => by subst z; rw [hD] at eb; exact nl _ (Option.some.inj eb).symm)]; exact eb⟩
  · rw [upd_ne (fun z => by subst z; rw [n1] at e; cases e)]
    exact y.keep a o e hn
theorem Ex.notin {D : Addr} {m1 m2 : List Addr} {H1 H2 : Hp} (y : Ex m1 H1 m2 H2) {o : HO} (e : H1 D = some o) (n : D ∉ m1) : D ∉ m2 := fun z => by
  obtain ⟨ms, em, nm⟩ := y.pre
  rw [em] at z
  rcases List.mem_append.mp z with w | w
  · exact n w
  · rw [nm D w] at e; cases e
/-- the machine's comprehension, as the hand layer reads it -/
theorem lc_of {vs : List Nat} {a c e : E} {σ : L2.St} {H : Hp} {Q : VK} (hyp : te G Φ x W (.comp vs a c e) σ H Q) :
    tLc (tR G Φ x W a) (fun v σ H Q => ∃ σ0 A, gT (PC vs σ0 A) (tgOf vs) v σ H Q) (tt G Φ x W0 c) (fun σ H Q => ∃ m s h, SR m s h σ H ∧ Pst G true W0 m σ H Q (ev Φ x e s h).frz) vs σ H Q := by
  obtain ⟨m, sl, h, r, p⟩ := hyp
  rw [ev] at p
  refine ⟨m, sl, h, r, ?_⟩
  cases ea : rdv a sl h (ev Φ x a sl h) with
  | bad w => rw [ea] at p; exact p
  | exc cc xs h' => rw [ea] at p; exact p
  | ok t h1 =>
    rw [ea] at p
    simp only [RE.its, RE.bind] at p
    cases ei : items t with
    | none => rw [ei] at p; exact p.elim
    | some ds =>
      rw [ei] at p
      refine ⟨ds, ei, fun m1 H1 J y rh wk D hD => ?_⟩
      have p := Pst.from p y rh
      have r1 := (r.stay y rh).wipe vs
      refine ⟨fun i μ H => μ + i = ds.length ∧ ∃ m2 h2 acc vacc, RpH m2 h2 H ∧ Ex m1 H1 m2 H ∧ D ∉ m2 ∧ H D = some (.lst vacc) ∧ Rps m2 H acc.reverse vacc ∧
        Pst G true W m1 σ H1 Q (compGo (tgOf vs) (unT vs sl) (ev Φ x c) (ev Φ x e) (ds.drop i) acc.length acc h2), ?_, ?_⟩
      · exact ⟨ds.length, rfl, m1, h1, [], [], rh.new hD, ex_new hD, rh.notin hD, upd_same, rfl, p⟩
      · rintro i μ H2 ⟨hμ, m2, h2, acc, vacc, rh2, y2, nD, eD, racc, p2⟩
        obtain ⟨go, stop⟩ := wk m2 h2 H2 (Std.of rh y2) rh2
        by_cases cc : i < ds.length
        · right
          rw [List.drop_eq_getElem_cons cc, compGo] at p2
          obtain ⟨g1, g2⟩ := go i ds[i] (List.getElem?_eq_getElem cc)
          refine ⟨g1, fun H' => ∃ m3 h3 acc' vacc', RpH m3 h3 H' ∧ Ex m1 H1 m3 H' ∧ D ∉ m3 ∧ H' D = some (.lst vacc') ∧ Rps m3 H' acc'.reverse vacc' ∧
            Pst G true W m1 σ H1 Q (compGo (tgOf vs) (unT vs sl) (ev Φ x c) (ev Φ x e) (ds.drop (i + 1)) acc'.length acc' h3), fun H' z => ⟨μ - 1, by omega, by omega, z⟩, fun v H3 yl => ?_⟩
          obtain ⟨y3, rh3, rv⟩ := g2 v H3 yl
          cases eb : bindT (tgOf vs) ds[i] (unT vs sl) with
          | none => rw [eb] at p2; exact p2.elim
          | some s3 =>
            rw [eb] at p2
            have y13 : Ex m1 H1 m2 H3 := y2.comp rh2 y3
            refine ⟨_, (fun _ => False), m2, _, h2, ds[i], s3, ⟨r1.stay y13 rh3, ?_, fun _ _ _ _ _ _ z => z⟩, rv, eb, fun σ' q' => ⟨q'.2.1, m2, s3, h2, q'.1, ?_⟩⟩
            · exact wipe_wipe _ _
            · refine Pst.calmT p2 y13 h2 rh3 fun m4 b h4 H4 rh4 y4 p4 => ?_
              have e3 : H3 D = some (.lst vacc) := y3.keep D _ eD nD
              have e4 : H4 D = some (.lst vacc) := y4.keep D _ e3 nD
              have n4 : D ∉ m4 := y4.notin e3 nD
              have y14 : Ex m1 H1 m4 H4 := y13.comp rh3 y4
              have ra4 : Rps m4 H4 acc.reverse vacc := Rps.per (y4.per rh3) _ _ (Rps.per (y3.per rh2) _ _ racc)
              cases b with
              | false => exact ⟨m4, h4, acc, vacc, rh4, y14, n4, e4, ra4, p4⟩
              | true =>
                refine ⟨m4, s3, h4, q'.1.stay y4 rh4, Pst.calm p4 y14 h4 rh4 fun m5 d h5 w H5 rh5 y5 rw5 p5 => ?_⟩
                have e5 : H5 D = some (.lst vacc) := y5.keep D _ e4 n4
                have n5 : D ∉ m5 := y5.notin e4 n4
                have y15 : Ex m1 H1 m5 H5 := y14.comp rh4 y5
                have ra5 : Rps m5 H5 acc.reverse vacc := Rps.per (y5.per rh4) _ _ ra4
                split at p5
                · rename_i hz
                  refine ⟨vacc, e5, by rw [ra5.len, List.length_reverse]; exact line_lt hz, ?_⟩
                  obtain ⟨g1, g2, g3⟩ := grow (v := w) rh5 y15 e5 n5 hD
                  exact ⟨m5, h5, d :: acc, vacc ++ [w], g1, g2, n5, upd_same, by rw [List.reverse_cons]; exact (Rps.per g3 _ _ ra5).app (Rps.one (Rp.per g3 _ _ rw5)), p5⟩
                · exact p5.elim
        · left
          have hi : i = ds.length := by omega
          subst hi
          rw [List.drop_length, compGo] at p2
          exact ⟨stop, p2 m2 _ H2 y2 rh2 ⟨D, vacc, rfl, eD, racc, rfl⟩ fun _ b e => by cases e; exact ⟨nD, fun _ => hD⟩⟩
/-- names that take data in a comprehension, whatever the state it began in -/
theorem pg_any {Y : Cx} {tg : Expr} {vs : List Nat} {g : Tg} (h : ∀ (σ0 : L2.St) (A : Addr → Prop), PG Y tg (gT (PC vs σ0 A) g)) : PG Y tg (fun v σ H Q => ∃ σ0 A, gT (PC vs σ0 A) g v σ H Q) :=
  ⟨fun pins s σ H v u Q I r ⟨σ0, A, q⟩ => (h σ0 A).run pins s σ H v u Q I r q⟩
theorem se_comp {elt tg iter : Expr} {ifs : List Expr} {scope : Scope} {own : List (Str × Nat)} {pos : Pos} {vs : List Nat} {a c e : E} (hc : X.calm = true) (hN : X.N.Nodup) (hi : PI X tg iter (tR G Φ x W a)) (ok : BlkOk X.N X.env.scope scope own) (hv : own.map (·.2) = vs)
    (hg : ∀ (σ0 : L2.St) (A : Addr → Prop) (s : Shared) (H : Hp) (C : Addr) (cl : List (Str × Addr)) (fp : List Addr), PG (X.blk s H scope (compEnvC scope cl C X.env) fp) tg (gT (PC vs σ0 A) (tgOf vs)))
    (ht : ∀ (s : Shared) (H : Hp) (C : Addr) (cl : List (Str × Addr)) (fp : List Addr), PTs (X.blk s H scope (compEnvC scope cl C X.env) fp) ifs (tt G Φ x W0 c))
    (he : ∀ (s : Shared) (H : Hp) (C : Addr) (cl : List (Str × Addr)) (fp : List Addr), PE (X.blk s H scope (compEnvC scope cl C X.env) fp) elt (te G Φ x W0 e)) (hs : ∀ x, foldedSetIterable iter X.env x = pure x := by intro _; rfl) :
    PE X (.ListComp elt [⟨tg, iter, ifs, 0⟩] scope pos) (te G Φ x W (.comp vs a c e)) := by
  subst hv
  exact PEimp (pe_lc hc hN hi ok (fun s H C cl fp => pg_any fun σ0 A => hg σ0 A s H C cl fp) ht (fun s H C cl fp => sf_of (he s H C cl fp)) hs) fun σ H Q hyp => lc_of hyp
/-- a statement's state behind it, an own thing locked there -/
theorem ps_frz {st : Stmt} {t : TS} (h : PS X st t) : PS X st (fun D σ H => t { D with nx := fun σ' H' => D.nx σ' H' ∨ ∃ d u, H' d = some u ∧ Mut (some u) ∧ ∀ od, D.nx σ' (L2.upd H' d (.frz od u)) } σ H) := by
  refine ⟨fun pins s σ H D I q => thn (h.run pins s σ H _ I q) fun f s' z => ?_⟩
  cases f with
  | next =>
    obtain ⟨σ', H', I', q | ⟨d, u, e, mu, q⟩⟩ := z
    · exact ⟨σ', H', I', q⟩
    · obtain ⟨od, I2⟩ := I'.lock e mu
      exact ⟨σ', _, I2, q od⟩
  | brk => exact z
  | cont => exact z
  | ret v => exact z
/-- what an assignment of a new list must do -/
theorem set_new {i : Nat} {a : E} {t : TE} {D : Ends} (k : ∀ Q, te G Φ x W a σ H Q → t σ H Q) (hyp : ts G Φ x W m0 H0 (.set i a) D σ H) : tAsg t (gName i) D σ H := by
  obtain ⟨m, s, h, q, p⟩ := hyp
  rw [ex] at p
  exact k _ ⟨m, s, h, q.sr, PstS.go q p fun m1 t h1 v H1 q1 y rt own p1 => p1 m1 _ H1 (q.take q1 y rt own) Per.refl⟩
theorem setf_new {i : Nat} {a : E} {t : TE} {D : Ends} (k : ∀ Q, te G Φ x W a σ H Q → t σ H Q) (hyp : ts G Φ x W m0 H0 (.setf i a) D σ H) :
    tAsg t (gName i) { D with nx := fun σ' H' => D.nx σ' H' ∨ ∃ d u, H' d = some u ∧ Mut (some u) ∧ ∀ od, D.nx σ' (L2.upd H' d (.frz od u)) } σ H := by
  obtain ⟨m, s, h, q, p⟩ := hyp
  rw [ex] at p
  refine k _ ⟨m, s, h, q.sr, ?_⟩
  cases e : ev Φ x a s h with
  | bad w => rw [e] at p; exact p
  | exc c xs h' => rw [e] at p; exact fun m' H' cls d y rh rx => p m' σ H' cls d (q.stay y rh) (y.per q.sr.hp) rx
  | ok t h' =>
    rw [e] at p
    intro m' v H' y rh rt own
    have q1 := q.stay y rh
    rcases rt.lock rh (fun o a e => (own o a e).1) with r | ⟨l, u, rfl, el, mu, o, r⟩
    · exact .inl (p m' _ H' (q1.set (t := .fz t.d) r fun o => nomatch o) (y.per q.sr.hp))
    · refine .inr ⟨l, u, el, mu.1, fun od => ?_⟩
      have y2 : Ex m H m' (L2.upd H' l (.frz od u)) := y.lock ((own o l rfl).2 rfl)
      have rh2 := rh.lock (od := od) mu.1 mu.2 el (own o l rfl).1
      exact p m' _ _ ((q.stay y2 rh2).set (t := .fz t.d) (r od) fun o => nomatch o) (y2.per q.sr.hp)
/-- name = [.. for ..] on one line -/
theorem ss_setLc {own_ : Bool} {i : Nat} {y : Str} {py : Pos} {elt tg iter : Expr} {ifs : List Expr} {scope : Scope} {own : List (Str × Nat)} {pos spos : Pos} {vs : List Nat} {a c e : E} (hc : X.calm = true) (hN : X.N.Nodup) (hy : X.N[i]? = some y) (hyl : X.env.scope.names.lookup y = some .local)
    (hsw : swapsWith (.ListComp elt [⟨tg, iter, ifs, 0⟩] scope pos) (some (.Name y py)) spos.line X.env = pure true) (hi : PI X tg iter (tR G Φ x W a)) (ok : BlkOk X.N X.env.scope scope own) (hv : own.map (·.2) = vs)
    (hg : ∀ (σ0 : L2.St) (A : Addr → Prop) (s : Shared) (H : Hp) (C : Addr) (cl : List (Str × Addr)) (fp : List Addr), PG (X.blk s H scope (compEnvC scope cl C X.env) fp) tg (gT (PC vs σ0 A) (tgOf vs)))
    (ht : ∀ (s : Shared) (H : Hp) (C : Addr) (cl : List (Str × Addr)) (fp : List Addr), PTs (X.blk s H scope (compEnvC scope cl C X.env) fp) ifs (tt G Φ x W0 c))
    (he : ∀ (s : Shared) (H : Hp) (C : Addr) (cl : List (Str × Addr)) (fp : List Addr), PE (X.blk s H scope (compEnvC scope cl C X.env) fp) elt (te G Φ x W0 e)) (hs : ∀ x, foldedSetIterable iter X.env x = pure x := by intro _; rfl) :
    PS X (.Assign [.Name y py] (.ListComp elt [⟨tg, iter, ifs, 0⟩] scope pos) spos) (ts G Φ x W m0 H0 (if own_ then .set i (.comp vs a c e) else .setf i (.comp vs a c e))) := by
  subst hv
  have base := L2.ps_setLc hc hN hy hyl hsw hi ok (fun s H C cl fp => pg_any fun σ0 A => hg σ0 A s H C cl fp) ht (fun s H C cl fp => sf_of (he s H C cl fp)) hs
  cases own_ with
  | true => exact PSimp base fun D σ H hyp => set_new (fun Q => lc_of) hyp
  | false => exact PSimp (ps_frz base) fun D σ H hyp => setf_new (fun Q => lc_of) hyp
end
end Ma
set_option maxHeartbeats 4000000
/-! Built-in functions. -/
namespace Ma
open PySem PySem.Spec L2
variable [TB]
section
variable {G : GC} {Φ : Cal} {x : List D} {W : WX} {X : Cx} {fr : Bool} {m0 m m' : List Addr} {σ : L2.St} {H0 H H' : Hp} {Q Q' : VK}
/-- a built-in on one value does what the machine's does -/
def CaM (X : Cx) (f : Value) (F : T → Option T) : Prop :=
  CallR X f fun vs H Q => ∃ (m : List Addr) (h : RH) (t t' : T) (v : V), vs = [v] ∧ RpH m h H ∧ RpT m H t v ∧ F t = some t' ∧ PostT m h H t' Q
theorem row1 {s : Sl} {h : RH} {a : E} {r : RE} {F : T → RH → RE} (q : SR m s h σ H) (p : Pst G true W m σ H Q (r.bind F))
    (k : ∀ m1 t h1 v H1, SR m1 s h1 σ H1 → Ex m H m1 H1 → RpT m1 H1 t v → (t.own = true → ∀ a, v = .ref a → a ∉ m1) → Pst G true W m1 σ H1 Q (F t h1) → Q' v H1) : Pst G false W m σ H Q' r :=
  Pst.mono (Pst.bind q p) fun v H1 ⟨m1, t, h1, r1, y1, q1, o1, p1⟩ => k m1 t h1 v H1 r1 y1 q1 o1 p1
theorem tr_cons1 {py : Expr} {a : E} (ha : PE X py (tr G Φ x W a)) (hs : starEach [py] X.env = (false, eval py X.env) :: starEach [] X.env) : PA X [py] (tCons (tr G Φ x W a) tNil) := pa_cons ha pa_nil hs
theorem se_b1 {y id : Str} {f : String} {py : Expr} {a : E} {o : B1} {p pos : Pos} (hc : CaM X (.builtin f) (b1 o)) (hg : Gl X y) (hm : X.mg y = none) (hv : bootBuiltins y = some (.builtin f)) (ha : PE X py (tr G Φ x W a)) (hn : y ≠ "__name__" := by decide) (hdb : (y == ("__debug__" : Str)) = false := by decide)
    (he : starEach [py] X.env = (false, eval py X.env) :: starEach [] X.env := by rfl) (hpl : (backTo pos (starEach [] X.env)).any (·.1) = false := by rfl) : PE X (.Call (.Name y p) [py] [] pos) (te G Φ x W (.b1 o a)) := by
  refine PEimp (pe_callB hc hg hm hv (tr_cons1 ha he) hn hdb he hpl) fun σ H Q ⟨m, s, h, r, q⟩ => ?_
  rw [ev] at q
  refine ⟨m, s, h, r, row1 (a := a) r q fun m1 t h1 v H1 r1 y1 q1 o1 p1 => ?_⟩
  obtain ⟨t', e, p2⟩ := optE_ok p1
  exact ⟨m1, h1, t, t', v, rfl, r1.hp, q1, e, p2⟩
theorem se_b1T {y : Str} {f : String} {py : Expr} {a : E} {o : B1} {p pos : Pos} (hc : CaM X (.type f) (b1 o)) (hg : Gl X y) (hm : X.mg y = none) (hv : bootBuiltins y = some (.type f)) (ha : PE X py (tr G Φ x W a)) (hn : y ≠ "__name__" := by decide) (hdb : (y == ("__debug__" : Str)) = false := by decide)
    (he : starEach [py] X.env = (false, eval py X.env) :: starEach [] X.env := by rfl) (hpl : (backTo pos (starEach [] X.env)).any (·.1) = false := by rfl) : PE X (.Call (.Name y p) [py] [] pos) (te G Φ x W (.b1 o a)) := by
  refine PEimp (pe_callTy hc hg hm hv (tr_cons1 ha he) hn hdb he hpl) fun σ H Q ⟨m, s, h, r, q⟩ => ?_
  rw [ev] at q
  refine ⟨m, s, h, r, row1 (a := a) r q fun m1 t h1 v H1 r1 y1 q1 o1 p1 => ?_⟩
  obtain ⟨t', e, p2⟩ := optE_ok p1
  exact ⟨m1, h1, t, t', v, rfl, r1.hp, q1, e, p2⟩
theorem Rpk.len : ∀ {ks : List (Int × D)} {ws : List (Key × V)}, Rpk m H ks ws → ws.length = ks.length
  | [], _, h => by rw [show _ = [] from h]; rfl
  | (i, d) :: r, _, ⟨v, q, e, _, t⟩ => by rw [e, List.length_cons, List.length_cons, Rpk.len t]
theorem call_lenD : CallR X (.builtin "len") (fun xs H Q => ∃ a kvs, xs = [.ref a] ∧ Rd H a (.dK kvs) ∧ Q (.int kvs.length) H) := by
  intro pins s σ H xs us Q I r h
  obtain ⟨a, kvs, rfl, e, q⟩ := h
  obtain ⟨u, rfl, rx⟩ := vals1 r
  cases rx
  exact d_len I e fun t s' I' => ⟨.int kvs.length, H, I', ⟨t, rfl⟩, q⟩
theorem ca_len : CaM X (.builtin "len") (b1 .len) := by
  intro pins s σ H vs us Q I rv ⟨m, h, t, t', v, e, rh, rt, e2, p⟩
  subst e
  replace e2 : bLen t = some t' := e2
  have seq : ∀ {ds : List D} {a : Addr} {ws : List V}, v = .ref a → (SqL X.K H a ws ∨ SqT X.K H a ws) → Rps m H ds ws → t' = .fz (.int ds.length) → wpAny (model X.prog X.w) X.A (call (.builtin "len") us) (EP X pins σ Q) X.xe s := fun {ds a ws} ev hs r et => by
    subst ev et
    exact call_len_seq pins s σ H _ us Q I rv ⟨a, ws, rfl, hs, by rw [r.len]; exact p.fz rh rfl⟩
  have dic : ∀ {ks : List (Int × D)} {a : Addr} {ws : List (Key × V)}, v = .ref a → Rd H a (.dK ws) → Rpk m H ks ws → t' = .fz (.int ks.length) → wpAny (model X.prog X.w) X.A (call (.builtin "len") us) (EP X pins σ Q) X.xe s := fun {ks a ws} ev hs r et => by
    subst ev et
    exact call_lenD pins s σ H _ us Q I rv ⟨a, ws, rfl, hs, by rw [r.len]; exact p.fz rh rfl⟩
  unfold bLen at e2
  split at e2
  · obtain ⟨a, ws, ev, ha, r⟩ := rt
    exact seq ev (.inr (.of ha)) r (Option.some.inj e2).symm
  · obtain ⟨a, o, ws, ev, ha, r⟩ := rt
    exact seq ev (.inl (.inl (.inr ⟨o, ha⟩))) r (Option.some.inj e2).symm
  · obtain ⟨a, o, ws, ev, ha, r⟩ := rt
    exact dic ev (.inr ⟨o, ha⟩) r (Option.some.inj e2).symm
  · split at e2
    · rename_i xs hz
      cases e2
      obtain ⟨z, rfl, ez⟩ := rt
      have hl : z.length = xs.length := by rw [← ez]; simp [Str.length]
      refine call_len_str pins s σ H _ us Q I rv ⟨z, rfl, by rw [hl]; exact okN_le hz, ?_⟩
      rw [hl]
      exact p.fz rh rfl
    · cases e2
  · obtain ⟨a, ws, ev, ha, r, z⟩ := rt
    refine seq ev (.inl (.of ha)) r ?_
    rw [List.length_reverse, ← z]
    exact (Option.some.inj e2).symm
  · obtain ⟨a, ws, ev, ha, r⟩ := rt
    exact dic ev (.inl ha) r (Option.some.inj e2).symm
  · cases e2
/-- what is read as a row of items -/
theorem items_rd {t : T} {v : V} {ds : List D} (rt : RpT m H t v) (e : items t = some ds) : ∃ a ws, v = .ref a ∧ (Rd H a (.lst ws) ∨ H a = some (.tup ws)) ∧ Rps m H ds ws := by
  cases t with
  | un => cases e
  | oD ks => cases e
  | oK ks => cases e
  | it ks => exact rt.elim
  | oL k rs2 =>
    cases e
    obtain ⟨b, zs, rfl, eb, rb, _⟩ := rt
    exact ⟨b, zs, rfl, .inl (.of eb), rb⟩
  | fz d =>
    cases d with
    | tup ds => cases e; obtain ⟨b, zs, rfl, eb, rb⟩ := rt; exact ⟨b, zs, rfl, .inr eb, rb⟩
    | lst ds => cases e; obtain ⟨b, o, zs, rfl, eb, rb⟩ := rt; exact ⟨b, zs, rfl, .inl (.inr ⟨o, eb⟩), rb⟩
    | _ => cases e
theorem itL_rd {t : T} {v : V} {ds : List D} (rt : RpT m H t v) (e : itL t = some ds) : ∃ a ws, v = .ref a ∧ Rd H a (.lst ws) ∧ Rps m H ds ws := by
  cases t with
  | oL k rs2 =>
    cases e
    obtain ⟨b, zs, rfl, eb, rb, _⟩ := rt
    exact ⟨b, zs, rfl, .of eb, rb⟩
  | fz d =>
    cases d with
    | lst ds => cases e; obtain ⟨b, o, zs, rfl, eb, rb⟩ := rt; exact ⟨b, zs, rfl, .inr ⟨o, eb⟩, rb⟩
    | _ => cases e
  | _ => cases e
theorem ca_tuple : CaM X (.type "tuple") (b1 .tuple) := by
  intro pins s σ H vs us Q I rv ⟨m, h, t, t', v, e, rh, rt, e2, p⟩
  subst e
  obtain ⟨ds, ei, rfl⟩ := Option.map_eq_some_iff.mp (show (items t).map (fun xs => T.fz (.tup xs)) = some t' from e2)
  obtain ⟨a, ws, rfl, hs, r⟩ := items_rd rt ei
  rcases hs with hs | hs
  · exact call_tuple_of pins s σ H _ us Q I rv ⟨a, ws, rfl, .inl ⟨.inl hs, fun l n => p.tup rh n r⟩⟩
  · exact call_tuple_of pins s σ H _ us Q I rv ⟨a, ws, rfl, .inr ⟨.of hs, p.fz rh ⟨a, ws, rfl, hs, r⟩⟩⟩
theorem ca_list : CaM X (.type "list") (b1 .list) := by
  intro pins s σ H vs us Q I rv ⟨m, h, t, t', v, e, rh, rt, e2, p⟩
  subst e
  have key : ∀ ds, items t = some ds → t' = mkL ds → wpAny (model X.prog X.w) X.A (call (.type "list") us) (EP X pins σ Q) X.xe s := fun ds ei et => by
    subst et
    obtain ⟨a, ws, rfl, hs, r⟩ := items_rd rt ei
    exact call_list_of pins s σ H _ us Q I rv ⟨a, ws, rfl, hs.imp .inl .of, fun l n => p.lst rh n r⟩
  replace e2 : bLst t = some t' := e2
  unfold bLst at e2
  split at e2
  · exact rt.elim
  · obtain ⟨ds, ei, et⟩ := Option.map_eq_some_iff.mp e2
    exact key ds ei et.symm
theorem anyB_ok : ∀ {ds : List D} {ws : List V} {k : Bool}, anyB ds = some k → Rps m H ds ws → ∃ bs : List Bool, ws = bs.map V.bl ∧ k = bs.any id
  | [], ws, k, e, r => by cases e; exact ⟨[], r, rfl⟩
  | d :: ds, ws, k, e, ⟨v, w, ew, rv, rw'⟩ => by
    subst ew
    cases d with
    | bl b =>
      obtain ⟨k', e', ek⟩ := Option.map_eq_some_iff.mp (show (anyB ds).map (b || ·) = some k from e)
      obtain ⟨bs, eb, ek2⟩ := anyB_ok e' rw'
      exact ⟨b :: bs, by rw [eb, show v = .bl b from rv]; rfl, by rw [← ek, ek2]; rfl⟩
    | _ => cases e
theorem allB_ok : ∀ {ds : List D} {ws : List V} {k : Bool}, allB ds = some k → Rps m H ds ws → ∃ bs : List Bool, ws = bs.map V.bl ∧ k = bs.all id
  | [], ws, k, e, r => by cases e; exact ⟨[], r, rfl⟩
  | d :: ds, ws, k, e, ⟨v, w, ew, rv, rw'⟩ => by
    subst ew
    cases d with
    | bl b =>
      obtain ⟨k', e', ek⟩ := Option.map_eq_some_iff.mp (show (allB ds).map (b && ·) = some k from e)
      obtain ⟨bs, eb, ek2⟩ := allB_ok e' rw'
      exact ⟨b :: bs, by rw [eb, show v = .bl b from rv]; rfl, by rw [← ek, ek2]; rfl⟩
    | _ => cases e
theorem sumI_ok : ∀ {ds : List D} {ws : List V} {k : Int}, sumI ds = some k → Rps m H ds ws → ∃ bs : List Int, ws = bs.map V.int ∧ k = bs.sum
  | [], ws, k, e, r => by cases e; exact ⟨[], r, rfl⟩
  | d :: ds, ws, k, e, ⟨v, w, ew, rv, rw'⟩ => by
    subst ew
    cases d with
    | int b =>
      obtain ⟨k', e', ek⟩ := Option.map_eq_some_iff.mp (show (sumI ds).map (b + ·) = some k from e)
      obtain ⟨bs, eb, ek2⟩ := sumI_ok e' rw'
      exact ⟨b :: bs, by rw [eb, show v = .int b from rv]; rfl, by rw [← ek, ek2, List.sum_cons]⟩
    | _ => cases e
theorem ca_any (hc : X.calm = true) : CaM X (.builtin "any") (b1 .any) := by
  intro pins s σ H vs us Q I rv ⟨m, h, t, t', v, e, rh, rt, e2, p⟩
  subst e
  obtain ⟨k, e3, rfl⟩ := Option.map_eq_some_iff.mp (show ((itL t).bind anyB).map (fun b => T.fz (.bl b)) = some t' from e2)
  obtain ⟨ds, ei, e4⟩ := Option.bind_eq_some_iff.mp e3
  obtain ⟨a, ws, rfl, hs, r⟩ := itL_rd rt ei
  obtain ⟨bs, rfl, rfl⟩ := anyB_ok e4 r
  exact cr_any hc pins s σ H _ us Q I rv ⟨a, bs, rfl, .inl hs, p.fz rh rfl⟩
theorem ca_all (hc : X.calm = true) : CaM X (.builtin "all") (b1 .all) := by
  intro pins s σ H vs us Q I rv ⟨m, h, t, t', v, e, rh, rt, e2, p⟩
  subst e
  obtain ⟨k, e3, rfl⟩ := Option.map_eq_some_iff.mp (show ((itL t).bind allB).map (fun b => T.fz (.bl b)) = some t' from e2)
  obtain ⟨ds, ei, e4⟩ := Option.bind_eq_some_iff.mp e3
  obtain ⟨a, ws, rfl, hs, r⟩ := itL_rd rt ei
  obtain ⟨bs, rfl, rfl⟩ := allB_ok e4 r
  exact cr_all hc pins s σ H _ us Q I rv ⟨a, bs, rfl, .inl hs, p.fz rh rfl⟩
theorem ca_sum (hc : X.calm = true) : CaM X (.builtin "sum") (b1 .sum) := by
  intro pins s σ H vs us Q I rv ⟨m, h, t, t', v, e, rh, rt, e2, p⟩
  subst e
  obtain ⟨k, e3, rfl⟩ := Option.map_eq_some_iff.mp (show ((itL t).bind sumI).map (fun b => T.fz (.int b)) = some t' from e2)
  obtain ⟨ds, ei, e4⟩ := Option.bind_eq_some_iff.mp e3
  obtain ⟨a, ws, rfl, hs, r⟩ := itL_rd rt ei
  obtain ⟨bs, rfl, rfl⟩ := sumI_ok e4 r
  exact cr_sum hc pins s σ H _ us Q I rv ⟨a, bs, rfl, .inl hs, p.fz rh rfl⟩
theorem ca_int : CaM X (.type "int") (b1 .int) := by
  intro pins s σ H vs us Q I rv ⟨m, h, t, t', v, e, rh, rt, e2, p⟩
  subst e
  replace e2 : bInt t = some t' := e2
  unfold bInt at e2
  split at e2
  · cases e2
    exact call_int1 pins s σ H _ us Q I rv (.inl ⟨_, by rw [show v = .int _ from rt], p.fz rh rfl⟩)
  · cases e2
theorem se_b2 {y : Str} {f : String} {py1 py2 : Expr} {a b : E} {o : B2} {p pos : Pos} (hc : CallR X (.builtin f) fun vs H Q => ∃ (m : List Addr) (h : RH) (t u t' : T) (v w : V), vs = [v, w] ∧ RpH m h H ∧ RpT m H t v ∧ RpT m H u w ∧ b2 o t u = some t' ∧ PostT m h H t' Q) (hg : Gl X y) (hm : X.mg y = none) (hv : bootBuiltins y = some (.builtin f))
    (ha : PE X py1 (tr G Φ x W a)) (hb : PE X py2 (tr G Φ x W b)) (hn : y ≠ "__name__" := by decide) (hdb : (y == ("__debug__" : Str)) = false := by decide)
    (he : starEach [py1, py2] X.env = (false, eval py1 X.env) :: starEach [py2] X.env := by rfl) (he2 : starEach [py2] X.env = (false, eval py2 X.env) :: starEach [] X.env := by rfl) (hpl : (backTo pos (starEach [py2] X.env)).any (·.1) = false := by rfl) : PE X (.Call (.Name y p) [py1, py2] [] pos) (te G Φ x W (.b2 o a b)) := by
  refine PEimp (pe_callB hc hg hm hv (pa_cons ha (tr_cons1 hb he2) he) hn hdb he hpl) fun σ H Q ⟨m, s, h, r, q⟩ => ?_
  rw [ev] at q
  refine ⟨m, s, h, r, row1 (a := a) r q fun m1 t h1 v H1 r1 y1 q1 o1 p1 => ?_⟩
  refine ⟨m1, s, h1, r1, row1 (a := b) r1 p1 fun m2 t2 h2 v2 H2 r2 y2 q2 o2 p2 => ?_⟩
  obtain ⟨t', e, p3⟩ := optE_ok p2
  exact ⟨m2, h2, t, t2, t', v, v2, rfl, r2.hp, (q1.next r1.hp y2 o1).1, q2, e, p3⟩
theorem b2_min {t u t' : T} (e : b2 .min2 t u = some t') : ∃ i j, t = .fz (.int i) ∧ u = .fz (.int j) ∧ t' = .fz (.int (if j < i then j else i)) := by
  cases t with
  | fz d => cases d with
    | int i => cases u with
      | fz d => cases d with
        | int j => cases e; exact ⟨i, j, rfl, rfl, rfl⟩
        | _ => cases e
      | _ => cases e
    | _ => cases e
  | _ => cases e
theorem b2_max {t u t' : T} (e : b2 .max2 t u = some t') : ∃ i j, t = .fz (.int i) ∧ u = .fz (.int j) ∧ t' = .fz (.int (if j > i then j else i)) := by
  cases t with
  | fz d => cases d with
    | int i => cases u with
      | fz d => cases d with
        | int j => cases e; exact ⟨i, j, rfl, rfl, rfl⟩
        | _ => cases e
      | _ => cases e
    | _ => cases e
  | _ => cases e
theorem ca_min2 (hc : X.calm = true) : CallR X (.builtin "min") fun vs H Q => ∃ (m : List Addr) (h : RH) (t u t' : T) (v w : V), vs = [v, w] ∧ RpH m h H ∧ RpT m H t v ∧ RpT m H u w ∧ b2 .min2 t u = some t' ∧ PostT m h H t' Q := by
  intro pins s σ H vs us Q I rv ⟨m, h, t, u, t', v, w, e, rh, rt, ru, e2, p⟩
  subst e
  obtain ⟨i, j, rfl, rfl, rfl⟩ := b2_min e2
  exact call_min2 hc pins s σ H _ us Q I rv ⟨i, j, by rw [show v = .int i from rt, show w = .int j from ru], p.fz rh rfl⟩
theorem ca_max2 (hc : X.calm = true) : CallR X (.builtin "max") fun vs H Q => ∃ (m : List Addr) (h : RH) (t u t' : T) (v w : V), vs = [v, w] ∧ RpH m h H ∧ RpT m H t v ∧ RpT m H u w ∧ b2 .max2 t u = some t' ∧ PostT m h H t' Q := by
  intro pins s σ H vs us Q I rv ⟨m, h, t, u, t', v, w, e, rh, rt, ru, e2, p⟩
  subst e
  obtain ⟨i, j, rfl, rfl, rfl⟩ := b2_max e2
  exact call_max2 hc pins s σ H _ us Q I rv ⟨i, j, by rw [show v = .int i from rt, show w = .int j from ru], p.fz rh rfl⟩
/-- a module's constant -/
theorem se_glob {y : Str} {d : D} {v : V} {u : Value} {pos : Pos} (hg : Gl X y) (hm : X.mg y = some u) (r : RelV v u) (hd : ∀ m H, Rp m H d v) (hdb : (y == ("__debug__" : Str)) = false := by decide) : PE X (.Name y pos) (te G Φ x W (.lit d)) :=
  PEimp (pe_glob hg hm r hdb) fun σ H Q ⟨m, s, h, q, p⟩ => Pst.fz (d := d) (by rw [ev] at p; exact p) q.hp (hd m H)
end
end Ma
set_option maxHeartbeats 4000000
/-! Dicts, in. -/
namespace Ma
open PySem PySem.Spec L2
variable [TB]
section
variable {G : GC} {Φ : Cal} {x : List D} {W : WX} {X : Cx} {fr : Bool} {m0 m m' : List Addr} {σ : L2.St} {H0 H H' : Hp} {Q Q' : VK} {D : Ends}
theorem pyDs_any (a : Ma.D) (fa : flat a = true) : ∀ (xs : List Ma.D), flats xs = true → ((pyDs xs).any fun z => PyData.eqv z (pyD a)) = mem a xs
  | [], _ => rfl
  | y :: r, f => by
    rw [flats, flatsN, Bool.and_eq_true] at f
    rw [pyDs, List.any_cons, deq_eqv y a 60 60 f.1 fa, pyDs_any a fa r f.2]
    rfl
theorem shaped_flats {ds : List Ma.D} (f : flats ds = true) : SeqAt.shaped (.list (pyDs ds)) = true ∧ PyData.canLayAll0 (pyDs ds) = true := by
  have h := can_flats ds 60 f
  refine ⟨?_, h.1⟩
  unfold SeqAt.shaped
  rw [Bool.and_eq_true, decide_eq_true_eq]
  refine ⟨by rw [PyData.canLay0]; exact h.1, ?_⟩
  rw [PyData.depth]
  omega
theorem room_flat {a : Ma.D} (fa : flat a = true) (hu : X.A.units + 65 < cLine) (n : Nat) : X.A.units + 1 + min n (pyD a).depth < cLine := by
  have h := (can_flat a 60 fa).2
  omega
/-- x in xs, for the data of the machine -/
theorem in_m (hu : X.A.units + 65 < cLine) {pins : List (Addr × Obj)} {s : Shared} {u v : V} {ru rv : Value} {a b : Ma.D} {k : Bool} {h : RH} {R : Value → Shared → Prop} (I : L2.Inv X pins σ H s) (hu' : RelV u ru) (hv : RelV v rv) (rh : RpH m h H) (ra : RpR m H a u) (rb : RpR m H b v) (e : cIn a b = some k) :
    ((∀ s', L2.Inv X pins σ H s' → R (.bool k) s') → wpAny (model X.prog X.w) X.A (compareOp .In ru rv) R X.xe s) ∧ ((∀ s', L2.Inv X pins σ H s' → R (.bool (!k)) s') → wpAny (model X.prog X.w) X.A (compareOp .NotIn ru rv) R X.xe s) := by
  unfold cIn at e
  split at e
  · rename_i xs
    split at e
    · rename_i hf
      cases e
      rw [Bool.and_eq_true] at hf
      obtain ⟨p, vs, rfl, ha, r⟩ := rb
      obtain ⟨as, r1⟩ := Dp.reads I (pyD a) u ru (RpR.dp hf.1 ra) hu'
      obtain ⟨bs, r2⟩ := Dp.reads I (.tuple (pyDs xs)) (.ref p) rv (.tup (.of ha) (Rps.dp xs vs 60 hf.2 r)) hv
      have hs := shaped_flats hf.2
      rw [← pyDs_any a hf.1 xs hf.2]
      exact ⟨fun q => SeqAt.in_tuple_reads r2 r1 hs.2 (SeqAt.canLay_of_shaped (shaped_flat hf.1)) (room_flat hf.1 hu _) (q s I), fun q => SeqAt.notIn_tuple_reads r2 r1 hs.2 (SeqAt.canLay_of_shaped (shaped_flat hf.1)) (room_flat hf.1 hu _) (q s I)⟩
    · cases e
  · rename_i xs
    split at e
    · rename_i hf
      cases e
      rw [Bool.and_eq_true] at hf
      obtain ⟨p, vs, rfl, ha, r⟩ := rb.lst
      obtain ⟨as, r1⟩ := Dp.reads I (pyD a) u ru (RpR.dp hf.1 ra) hu'
      obtain ⟨bs, r2⟩ := Dp.reads I (.list (pyDs xs)) (.ref p) rv (.lst (.inl ha) (Rps.dp xs vs 60 hf.2 r)) hv
      have hs := shaped_flats hf.2
      rw [← pyDs_any a hf.1 xs hf.2]
      exact ⟨fun q => SeqAt.in_list_reads r2 r1 hs.2 (SeqAt.canLay_of_shaped (shaped_flat hf.1)) (room_flat hf.1 hu _) (q s I), fun q => SeqAt.notIn_list_reads r2 r1 hs.2 (SeqAt.canLay_of_shaped (shaped_flat hf.1)) (room_flat hf.1 hu _) (q s I)⟩
    · cases e
  · rename_i kvs
    split at e
    · rename_i i
      cases e
      obtain ⟨p, ws, rfl, ha, r⟩ := show ∃ a ws, v = .ref a ∧ Rd H a (.dK ws) ∧ Rpk m H _ ws from rb
      have l := lookK_rpk i r
      rw [show u = .int i from ra] at hu'
      obtain rfl : rv = Value.ref p := hv
      have g : DGet H p (V.int i) (valV ws (Sum.inl i)) := .inl ⟨ws, .inl i, ha, rfl, rfl⟩
      have hs : (lookK i kvs).isSome = (valV ws (Sum.inl i)).isSome := by
        cases e : lookK i kvs with
        | none => rw [e] at l; rw [show valV ws (Sum.inl i) = none from l]; rfl
        | some d => rw [e] at l; obtain ⟨v, ev, _⟩ := l; rw [ev]; rfl
      rw [hs]
      exact ⟨fun q => d_in (by omega) I g hu' q, fun q => d_notIn (by omega) I g hu' q⟩
    · cases e
  · cases e
theorem om_in (hu : X.A.units + 65 < cLine) : OpM X (compareOp .In) (cmpT .in_) := by
  intro pins s σ H u v ru rv Q I hu' hv ⟨m, h, a, b, t, rh, ra, rb, e, p⟩
  obtain ⟨k, e1, rfl⟩ := cmpT_ok e
  exact (in_m (R := EP X pins σ Q) hu I hu' hv rh ra rb (show cIn a b = some k from e1)).1 fun s' I' => ⟨.bl k, H, I', rfl, p.fz rh rfl⟩
theorem om_nin (hu : X.A.units + 65 < cLine) : OpM X (compareOp .NotIn) (cmpT .nin) := by
  intro pins s σ H u v ru rv Q I hu' hv ⟨m, h, a, b, t, rh, ra, rb, e, p⟩
  obtain ⟨k, e1, rfl⟩ := cmpT_ok e
  obtain ⟨j, e2, rfl⟩ := Option.map_eq_some_iff.mp (show (cIn a b).map (!·) = some k from e1)
  exact (in_m (R := EP X pins σ Q) hu I hu' hv rh ra rb e2).2 fun s' I' => ⟨.bl (!j), H, I', rfl, p.fz rh rfl⟩
/-! ### {} and d[k] = v -/
theorem se_dnew {pos : Pos} : PE X (.Dict [] [] pos) (te G Φ x W .dnew) := by
  refine PEimp pe_dnewK fun σ H Q ⟨m, s, h, r, p⟩ a n => ?_
  rw [ev] at p
  exact p m _ _ (ex_new n) (r.hp.new n) ⟨a, [], rfl, upd_same, rfl⟩ fun _ b e => by cases e; exact ⟨r.hp.notin n, fun _ => n⟩
theorem rpk_any : ∀ {ks : List (Int × Ma.D)} {ws : List (Key × V)} (i : Int), Rpk m H ks ws → (ks.any fun p => p.1 == i) = ws.any fun kv => decide (kv.1 = (Sum.inl i : Key))
  | [], ws, i, h => by rw [show ws = [] from h]; rfl
  | (a, d) :: ks, ws, i, ⟨w, q, e, hw, t⟩ => by
    subst e
    rw [List.any_cons, List.any_cons, rpk_any i t, key_ll]
theorem rpk_map : ∀ {ks : List (Int × Ma.D)} {ws : List (Key × V)} (i : Int) (d : Ma.D) (v : V), Rpk m H ks ws → Rp m H d v → Rpk m H (ks.map fun p => if p.1 == i then (p.1, d) else p) (ws.map fun kv => if kv.1 = (Sum.inl i : Key) then (kv.1, v) else kv)
  | [], ws, i, d, v, h, r => by rw [show ws = [] from h]; rfl
  | (a, d0) :: ks, ws, i, d, v, ⟨w, q, e, hw, t⟩, r => by
    subst e
    rw [List.map_cons, List.map_cons]
    by_cases c : a = i
    · subst c
      rw [if_pos (beq_self_eq_true a), if_pos rfl]
      exact ⟨v, _, rfl, r, rpk_map a d v t r⟩
    · rw [if_neg (by simpa using c), if_neg (fun z => c (Sum.inl.inj z))]
      exact ⟨w, _, rfl, hw, rpk_map i d v t r⟩
theorem rpk_app : ∀ {ks : List (Int × Ma.D)} {ws : List (Key × V)} (i : Int) (d : Ma.D) (v : V), Rpk m H ks ws → Rp m H d v → Rpk m H (ks ++ [(i, d)]) (ws ++ [(Sum.inl i, v)])
  | [], ws, i, d, v, h, r => by rw [show ws = [] from h]; exact ⟨v, [], rfl, r, rfl⟩
  | (a, d0) :: ks, ws, i, d, v, ⟨w, q, e, hw, t⟩, r => by
    subst e
    exact ⟨w, _, rfl, hw, rpk_app i d v t r⟩
theorem putK_rpk {ks : List (Int × Ma.D)} {ws : List (Key × V)} (i : Int) (d : Ma.D) (v : V) (h : Rpk m H ks ws) (r : Rp m H d v) : Rpk m H (Ma.putK i d ks) (L2.putK ws (Sum.inl i) v) := by
  unfold Ma.putK L2.putK
  rw [rpk_any i h]
  split
  · exact rpk_map i d v h r
  · exact rpk_app i d v h r
theorem ss_dput (hu : X.A.units + 1 < cLine) {i : Nat} {y : Str} {e1 e2 : Expr} {a b : E} {p pos pos' : Pos} (hN : X.N[i]? = some y) (hv : Vis X.env.scope y) (hk : PE X e1 (te G Φ x W a)) (he : PE X e2 (te G Φ x W b)) (hs : swapsWith e2 (some (.Subscript (.Name y p) e1 pos')) pos.line X.env = pure false := by rfl)
    (hd : (y == ("__debug__" : Str)) = false := by decide) (hcd : (y == ("__classdict__" : Str)) = false := by decide) : PS X (.Assign [.Subscript (.Name y p) e1 pos'] e2 pos) (ts G Φ x W m0 H0 (.dput i a b)) := by
  refine PSimp (ps_dput hu (pe_var hN hv hd hcd) hk (sf_of he) hs) fun D σ H ⟨m, s, h, q, p⟩ => ?_
  rw [ex] at p
  cases e : getT s i with
  | oD ks =>
    rw [e] at p
    refine ⟨m, s, h, q.sr, PstS.goz q p fun m1 d h1 v H1 q1 y1 rd p1 => ?_⟩
    obtain ⟨l, ws, ei, es, eu, r⟩ := q1.ownD e
    refine ⟨.ref l, es, m1, s, h1, q1.sr, PstS.go q1 p1 fun m2 t h2 w H2 q2 y2 rt own p2 => ?_⟩
    cases t with
    | fz d2 =>
      cases d2 with
      | int j =>
        simp only [T.d] at p2
        split at p2
        · rename_i hz
          obtain ⟨l', ws', ei', es', eu', r'⟩ := q2.ownD e
          rw [es] at es'
          cases es'
          have rd2 : Rp m2 H2 d v := Rp.per (y2.per q1.sr.hp) _ _ rd
          refine ⟨l, _, rfl, .inl ⟨ws', .inl j, eu', rt, by rw [r'.len]; exact line_lt hz, rfl⟩, ?_⟩
          obtain ⟨q3, pr⟩ := q2.upd (u' := .dK (L2.putK ws' (.inl j) v)) (t' := .oD (Ma.putK j d ks)) ei' rfl es eu' trivial fun pr => ⟨l, _, rfl, upd_same, Rpk.per pr _ _ (putK_rpk j d v r' rd2)⟩
          exact p2 m2 σ _ q3 pr
        · exact p2.elim
      | _ => exact p2.elim
    | _ => exact p2.elim
  | _ => rw [e] at p; exact p.elim
/-- d.get(k, z) -/
theorem se_dget (hu : X.A.units + 1 < cLine) {o e1 e2 : Expr} {a b c : E} {apos cpos : Pos} (ho : PE X o (tr G Φ x W a)) (hk : PE X e1 (te G Φ x W b)) (hz : PE X e2 (te G Φ x W c)) (mm : M2 X o "get" apos e1 e2 cpos) : PE X (.Call (.Attribute o "get" apos) [e1, e2] [] cpos) (te G Φ x W (.dget a b c)) := by
  refine PEimp (pe_dget2 hu ho hk (sf_of hz) mm) fun σ H Q ⟨m, s, h, r, p⟩ => ?_
  rw [ev] at p
  refine ⟨m, s, h, r, Pst.mono (Pst.bind r p) fun u H1 ⟨m1, t, h1, r1, y1, q1, o1, p1⟩ => ?_⟩
  have rd := q1.rd
  cases e : t.d with
  | dct kvs =>
    simp only [e] at p1
    rw [e] at rd
    obtain ⟨l, ws, rfl, hl, rl⟩ := show ∃ a ws, u = .ref a ∧ Rd H1 a (.dK ws) ∧ Rpk m1 H1 kvs ws from rd
    refine ⟨l, rfl, .inl ⟨ws, hl⟩, m1, s, h1, r1, Pst.mono (Pst.int r1 p1 (R := fun i H2 => ∃ m s h, SR m s h σ H2 ∧ Pst G true W m σ H2 (fun z H3 => ∃ o, DGet H3 l (.int i) o ∧ Q (o.getD z) H3) (ev Φ x c s h).frz) fun i m2 h2 H2 r2 y2 p2 => ?_) fun v H2 ⟨i, e, q⟩ => by rw [e]; exact q⟩
    refine ⟨m2, s, h2, r2, ?_⟩
    cases e2 : ev Φ x c s h2 with
    | bad w => rw [e2] at p2; exact p2
    | exc cc xs h3 => rw [e2] at p2; exact p2
    | ok t3 h3 =>
      rw [e2] at p2
      intro m3 v3 H3 y3 rh3 rt3 own3
      have n3 := q1.next r1.hp (y2.comp r2.hp y3) o1
      have rd3 := n3.1.rd
      rw [e] at rd3
      obtain ⟨l', ws', el, hl', rl'⟩ := show ∃ a ws, V.ref l = .ref a ∧ Rd H3 a (.dK ws) ∧ Rpk m3 H3 kvs ws from rd3
      cases el
      refine ⟨valV ws' (.inl i), .inl ⟨ws', .inl i, hl', rfl, rfl⟩, ?_⟩
      have lk := lookK_rpk i rl'
      have p3 := Pst.from p2 y3 rh3
      cases e3 : lookK i kvs with
      | none =>
        rw [e3] at lk p3
        rw [show valV ws' (Sum.inl i) = none from lk]
        exact Pst.fz (d := t3.d) p3 rh3 rt3
      | some d =>
        rw [e3] at lk p3
        obtain ⟨w, ew, rw'⟩ := lk
        rw [ew]
        exact Pst.fz (d := d) p3 rh3 rw'
  | _ => simp only [e] at p1; exact p1.elim
end
end Ma
set_option maxHeartbeats 4000000
/-! Defs. -/
namespace Ma
open PySem PySem.Spec L2
variable [TB]
theorem slots_len : ∀ (n : Nat) (xs : List D), (slots n xs).length = n
  | 0, _ => rfl
  | n + 1, [] => by rw [slots, List.length_cons, slots_len n []]
  | n + 1, _ :: xs => by rw [slots, List.length_cons, slots_len n xs]
theorem slots_at : ∀ (n : Nat) (xs : List D) (i : Nat) (t : T), (slots n xs)[i]? = some t → t ≠ .un → ∃ d, xs[i]? = some d ∧ t = .fz d
  | 0, _, _, _, e, _ => by simp [slots] at e
  | n + 1, [], 0, t, e, h => by simp [slots] at e; exact absurd e.symm h
  | n + 1, [], i + 1, t, e, h => by
    simp [slots] at e
    obtain ⟨d, z, _⟩ := slots_at n [] i t e h
    simp at z
  | n + 1, x :: xs, 0, t, e, h => by simp [slots] at e; exact ⟨x, rfl, e.symm⟩
  | n + 1, x :: xs, i + 1, t, e, h => by
    simp [slots] at e
    simpa using slots_at n xs i t e h
section
variable {P : Program} {w : World} {K : PySem.W.Frag} {mg : Str → Option Value} {base : Heap} {G : GC} {ds : List Def}
theorem SF.start {m : List Addr} {H : Hp} {h : RH} {N : List Str} {vs : List V} {xs : List D} (rh : RpH m h H) (r : Rps m H xs vs) (hl : vs.length ≤ N.length) : SF m H m (slots N.length xs) h (L2.start N vs) H := by
  have none_own : ∀ (i : Nat) t, (slots N.length xs)[i]? = some t → t.own = true → False := fun i t e o => by
    obtain ⟨d, _, rfl⟩ := slots_at _ _ i t e (by intro z; subst z; cases o)
    cases o
  refine ⟨⟨?_, fun i t e n => ?_, fun i j t u a e _ o => (none_own i t e o).elim, fun i t a e o => (none_own i t e o).elim, rh⟩, Ex.refl, fun i t a e o => (none_own i t e o).elim⟩
  · rw [slots_len]
    show N.length = (vs.map some ++ List.replicate (N.length - vs.length) none).length
    rw [List.length_append, List.length_map, List.length_replicate]
    omega
  · obtain ⟨d, ed, rfl⟩ := slots_at _ _ i t e n
    obtain ⟨v, ev, rv⟩ := r.get ed
    refine ⟨v, ?_, rv⟩
    show (vs.map some ++ List.replicate (N.length - vs.length) none)[i]? = some (some v)
    have hi := (List.getElem?_eq_some_iff.mp ev).1
    rw [List.getElem?_append_left (by rw [List.length_map]; exact hi), List.getElem?_map, ev]
    rfl
theorem start_post {Q : VK} {W : WX} {m : List Addr} {H : Hp} {h : RH} {n i np ns : Nat} {b : S} {xs : List D} {σ : L2.St} (hd : nth i ds = some ⟨np, ns, b⟩) (hl : xs.length = np) (p : Pst G true W m [] H Q (runs ds (n + 1) i xs h)) (hW : ∀ c d σ H', W c d [] H' → W c d σ H') :
    PstS G W m H m H { nx := fun _ H' => Q .non H', rt := Q } (ex (runs ds n) [] b (slots ns xs) h) := by
  unfold runs at p
  rw [hd] at p
  simp only [hl, beq_self_eq_true, if_true] at p
  cases e : ex (runs ds n) [] b (slots ns xs) h with
  | bad w => rw [e] at p; exact p
  | nx s h' => rw [e] at p; exact fun m' σ' H' q _ => p m' .non H' q.ex q.sr.hp rfl fun o => nomatch o
  | ret t h' => rw [e] at p; exact fun m' v H' rh y rt own => p m' v H' y rh rt fun o a z => ⟨(own o a z).1, fun _ => (own o a z).2⟩
  | exc c ys s h' => rw [e] at p; exact fun m' σ' H' cls d q _ rx => hW cls d σ' H' (p m' H' cls d q.ex q.sr.hp rx)
/-- a body's reading makes a promise, wherever there is room -/
theorem fn_at {x qual : Str} {params : Arguments} {body : List Stmt} {scope : Scope} {dvs : List V} {kws : List (Str × V)} {f : Addr} {fd : FuncData} {N ps : List Str} {k : Nat} {CX : CXT} {sp : Sp} (F : FunD K x qual params body scope dvs kws f fd) (S : FnScope N ps scope) (len : ∀ vs H Q E, sp vs H Q E → vs.length = ps.length)
    (hbody : ∀ (A : Around) (outer : List Env) (s : Shared) (H : Hp) (vs : List V) (Q : VK) (E : XK), Rm k (A.deeper (PyProof.Rows.envOfC qual scope s.heap.objs.size f fd.code)) → sp vs H Q E →
      ∃ t, PSs (cxOf CX P w K mg base N qual scope f fd.code A outer s H E) body t ∧ t { nx := fun _ H' => Q .non H', rt := Q } (L2.start N vs) H) : FnG P w K mg base CX (k + 1) f fd ps sp := by
  obtain ⟨oc, od, dV, kV, doc, pm, an, cdv, ct, osl, rfl, lk, hcd, _, _⟩ := F.ex
  exact ⟨len, fun A outer s H args us vs Q E hr e0 b r h => LamX.run_ofS lk hcd S hr.1 e0 b r (len _ _ _ _ h) fun room => hbody A outer s H vs Q E ⟨room, hr.2⟩ h⟩
/-- a def does what the machine does; its code object known -/
theorem fn_stepT {x qual : Str} {params : Arguments} {body : List Stmt} {scope : Scope} {dvs : List V} {kws : List (Str × V)} {f : Addr} {fd : FuncData} {N ps : List Str} {n i : Nat} {b : S} (F : FunD K x qual params body scope dvs kws f fd) (S : FnScope N ps scope) (hd : nth i ds = some ⟨ps.length, N.length, b⟩) (hl : ps.length ≤ N.length)
    (hbody : ∀ (A : Around) (outer : List Env) (s : Shared) (H H0 : Hp) (m0 : List Addr) (E : XK), Rm (3 * n + 4) (A.deeper (PyProof.Rows.envOfC qual scope s.heap.objs.size f fd.code)) →
      PSs (cxOf (L2.CX P w) P w K mg base N qual scope f fd.code A outer s H E) body (ts G (runs ds n) [] (fun c d _ H => E c d H) m0 H0 b)) :
    FnG P w K mg base (L2.CX P w) (3 * (n + 1) + 2) f fd ps (spF G (runs ds (n + 1)) i ps.length) := by
  rw [show 3 * (n + 1) + 2 = (3 * n + 4) + 1 by omega]
  refine fn_at F S (fun vs H Q E h => h.1) fun A outer s H vs Q E hr h => ?_
  obtain ⟨hv, m, rh, xs, r1, r2, p⟩ := h
  exact ⟨_, hbody A outer s H H m E hr, m, slots N.length xs, rh, SF.start r1 r2 (by rw [hv]; exact hl), start_post (σ := []) hd (by rw [← r2.len, hv]) p fun _ _ _ _ z => z⟩
/-- .. whatever it is -/
theorem fn_step {x qual : Str} {params : Arguments} {body : List Stmt} {scope : Scope} {dvs : List V} {kws : List (Str × V)} {f : Addr} {fd : FuncData} {N ps : List Str} {n i : Nat} {b : S} (F : FunD K x qual params body scope dvs kws f fd) (S : FnScope N ps scope) (hd : nth i ds = some ⟨ps.length, N.length, b⟩) (hl : ps.length ≤ N.length)
    (hbody : ∀ (cdv : Value) (A : Around) (outer : List Env) (s : Shared) (H H0 : Hp) (m0 : List Addr) (E : XK), Rm (3 * n + 2) (A.deeper (PyProof.Rows.envOfC qual scope s.heap.objs.size f cdv)) →
      PSs (cxOf (L2.CX P w) P w K mg base N qual scope f cdv A outer s H E) body (ts G (runs ds n) [] (fun c d _ H => E c d H) m0 H0 b)) :
    FnG P w K mg base (L2.CX P w) (3 * (n + 1) + 2) f fd ps (spF G (runs ds (n + 1)) i ps.length) :=
  fn_stepT F S hd hl fun A outer s H H0 m0 E hr => hbody _ A outer s H H0 m0 E (hr.mono (by omega))
theorem fn_zero {f : Addr} {fd : FuncData} {ps : List Str} {i : Nat} : FnG P w K mg base (L2.CX P w) (3 * 0 + 2) f fd ps (spF G (runs ds 0) i ps.length) :=
  ⟨fun vs H Q E h => h.1, fun A outer s H args us vs Q E _ _ _ _ ⟨_, m, h, xs, _, _, p⟩ => False.elim p⟩
/-- a def that stands under its name -/
structure Has (P : Program) (w : World) (K : PySem.W.Frag) (mg : Str → Option Value) (base : Heap) (G : GC) (ds : List Def) (n : Nat) (y : Str) (params : Arguments) (body : List Stmt) (scope : Scope) (dvs : List V) (kws : List (Str × V)) (i : Nat) (ps : List Str) : Prop where
  ex : ∃ f fd, FunD K y y params body scope dvs kws f fd ∧ mg y = some (.ref f) ∧ FnG P w K mg base (L2.CX P w) (3 * n + 2) f fd ps (spF G (runs ds n) i ps.length)
end
section
variable {G : GC} {Φ : Cal} {x : List D} {W : WX} {X : Cx} {ds : List Def}
/-- f(e, ..), all parameters given by place -/
theorem sh_call {y : Str} {n i : Nat} {params : Arguments} {body : List Stmt} {scope : Scope} {ps : List Str} {e : Expr} {es : List Expr} {a : E} {p pos : Pos} (F : Has X.prog X.w X.K X.mg X.base G ds n y params body scope [] [] i ps) (hr : Rm (3 * n + 2) X.A) (hg : Gl X y) (tk : Takes X W)
    (hb : ∀ (kV doc pm : Value) (an : Option Addr) (cdv ct : Value) (us : List Value), us.length = ps.length → bindArgs (PySem.W.fnOf y y params body scope .none kV doc pm an cdv ct) ⟨us, []⟩ = pure (ps.zip us))
    (ha : PA X (e :: es) (ta G (runs ds n) x W a)) (hrow : isRow a = true) (hn : rowN a = ps.length) (hdb : (y == ("__debug__" : Str)) = false := by decide)
    (he : starEach (e :: es) X.env = (false, eval e X.env) :: starEach es X.env := by rfl) (hpl : (backTo pos (starEach es X.env)).any (·.1) = false := by rfl) :
    PE X (.Call (.Name y p) (e :: es) [] pos) (te G (runs ds n) x W (.call i a)) := by
  obtain ⟨f, fd, hF, hm, ok⟩ := F.ex
  exact se_call ⟨ok, hr, hm, hF.kp⟩ hg tk (hF.bindsN hb) rfl ha hrow hn hdb he hpl
theorem sv (i : Nat) {Φ : Cal} {y : Str} {pos : Pos} (hN : X.N[i]? = some y := by rfl) (hv : Vis X.env.scope y := by first | exact Or.inl rfl | exact Or.inr (Or.inl rfl) | exact Or.inr (Or.inr rfl)) (hd : (y == ("__debug__" : Str)) = false := by decide) (hcd : (y == ("__classdict__" : Str)) = false := by decide) :
    PE X (.Name y pos) (te G Φ x W (.var i)) := se_var hN hv hd hcd
theorem sv' (i : Nat) {Φ : Cal} {y : Str} {pos : Pos} (hN : X.N[i]? = some y := by rfl) (hv : Vis X.env.scope y := by first | exact Or.inl rfl | exact Or.inr (Or.inl rfl) | exact Or.inr (Or.inr rfl)) (hd : (y == ("__debug__" : Str)) = false := by decide) (hcd : (y == ("__classdict__" : Str)) = false := by decide) :
    PE X (.Name y pos) (tr G Φ x W (.var i)) := sr_of rfl (se_var hN hv hd hcd)
theorem sw (i : Nat) {Φ : Cal} {y : Str} {pos : Pos} (hN : X.N[i]? = some y := by rfl) (hv : Vis X.env.scope y := by first | exact Or.inl rfl | exact Or.inr (Or.inl rfl) | exact Or.inr (Or.inr rfl)) (hd : (y == ("__debug__" : Str)) = false := by decide) (hcd : (y == ("__classdict__" : Str)) = false := by decide) :
    PE X (.Name y pos) (tr G Φ x W (.vr i)) := sr_vr hN hv hd hcd
/-- a module's constant, by a fact of the head -/
theorem sg {y : Str} {d : D} {v : V} {pos : Pos} {Φ : Cal} (c : ∃ u, X.mg y = some u ∧ RelV v u) (hg : Gl X y := by rfl) (hd : ∀ m H, Rp m H d v := by intro _ _; rfl) (hdb : (y == ("__debug__" : Str)) = false := by decide) : PE X (.Name y pos) (te G Φ x W (.lit d)) := by
  obtain ⟨u, hm, r⟩ := c
  exact se_glob hg hm r hd hdb
/-- f(), no parameters -/
theorem sh_call0 {y : Str} {n i : Nat} {params : Arguments} {body : List Stmt} {scope : Scope} {p pos : Pos} (F : Has X.prog X.w X.K X.mg X.base G ds n y params body scope [] [] i []) (hr : Rm (3 * n + 2) X.A) (hg : Gl X y) (tk : Takes X W)
    (hb : ∀ (kV doc pm : Value) (an : Option Addr) (cdv ct : Value), bindArgs (PySem.W.fnOf y y params body scope .none kV doc pm an cdv ct) ⟨[], []⟩ = pure []) (hdb : (y == ("__debug__" : Str)) = false := by decide) :
    PE X (.Call (.Name y p) [] [] pos) (te G (runs ds n) x W (.call i .nil)) := by
  obtain ⟨f, fd, hF, hm, ok⟩ := F.ex
  exact se_call0 ⟨ok, hr, hm, hF.kp⟩ hg tk (hF.bindsN fun _ _ _ _ _ _ us hl => by
    cases us with
    | nil => exact hb ..
    | cons a b => cases hl) rfl hdb
end
theorem Rm.u1 {k : Nat} {A : Around} (r : Rm k A) : A.units + 1 < cLine := by have := r.1.un; omega
theorem Rm.u64 {k : Nat} {A : Around} (r : Rm k A) : A.units + 64 < cLine := by have := r.1.un; omega
theorem Rm.u100 {k : Nat} {A : Around} (r : Rm k A) : A.units + 100 < cLine := by have := r.1.un; omega
theorem Rm.u65 {k : Nat} {A : Around} (r : Rm k A) : A.units + 65 < cLine := by have := r.1.un; omega
theorem bt_len : bootBuiltins "len" = some (.builtin "len") := by decide +kernel
theorem bt_sum : bootBuiltins "sum" = some (.builtin "sum") := by decide +kernel
theorem bt_any : bootBuiltins "any" = some (.builtin "any") := by decide +kernel
theorem bt_all : bootBuiltins "all" = some (.builtin "all") := by decide +kernel
theorem bt_min : bootBuiltins "min" = some (.builtin "min") := by decide +kernel
theorem bt_max : bootBuiltins "max" = some (.builtin "max") := by decide +kernel
theorem bt_sorted : bootBuiltins "sorted" = some (.builtin "sorted") := by decide +kernel
theorem bt_isinstance : bootBuiltins "isinstance" = some (.builtin "isinstance") := by decide +kernel
theorem bt_repr : bootBuiltins "repr" = some (.builtin "repr") := by decide +kernel
theorem bt_int : bootBuiltins "int" = some (.type "int") := by decide +kernel
theorem bt_tuple : bootBuiltins "tuple" = some (.type "tuple") := by decide +kernel
theorem bt_list : bootBuiltins "list" = some (.type "list") := by decide +kernel
theorem bt_set : bootBuiltins "set" = some (.type "set") := by decide +kernel
theorem bt_dict : bootBuiltins "dict" = some (.type "dict") := by decide +kernel
theorem bt_str : bootBuiltins "str" = some (.type "str") := by decide +kernel
theorem bt_enumerate : bootBuiltins "enumerate" = some (.type "enumerate") := by decide +kernel
theorem bt_zip : bootBuiltins "zip" = some (.type "zip") := by decide +kernel
theorem bt_range : bootBuiltins "range" = some (.type "range") := by decide +kernel
end Ma
set_option maxHeartbeats 4000000
/-! Comprehensions with two fors. -/
namespace Ma
open PySem PySem.Spec L2
variable [TB]
section
variable {G : GC} {Φ : Cal} {x : List D} {W : WX} {X : Cx} {fr : Bool} {m0 m m' : List Addr} {σ : L2.St} {H0 H H' : Hp} {Q Q' : VK}
theorem calmT2 {W' : WX} {σ' : L2.St} {r : RE} {F : Bool → RH → RE} {Kk : T → RH → RE} {R : Bool → Hp → Prop} {m1 : List Addr} {H1 : Hp} (p : Pst G fr W m σ H Q ((r.calm.test F).calm.bind Kk))
    (k : ∀ m2 b h2 H2, RpH m2 h2 H2 → Ex m1 H1 m2 H2 → Pst G fr W m σ H Q ((F b h2).calm.bind Kk) → R b H2) : Pst G true W' m1 σ' H1 (fun v H' => ∃ b, v = .bl b ∧ R b H') r := by
  cases r with
  | bad w => exact p
  | exc c xs h' => exact p.elim
  | ok t h' =>
    cases t with
    | fz d =>
      cases d with
      | bl b => exact fun m2 v H2 z rh rt own => ⟨b, rt, k m2 b h' H2 rh z p⟩
      | _ => exact p.elim
    | _ => exact p.elim
theorem calm2 {W' : WX} {σ' : L2.St} {r : RE} {F Kk : T → RH → RE} {R : VK} {m1 : List Addr} {H1 : Hp} (p : Pst G fr W m σ H Q ((r.calm.frz.bind F).calm.bind Kk))
    (k : ∀ m2 d h2 v H2, RpH m2 h2 H2 → Ex m1 H1 m2 H2 → Rp m2 H2 d v → Pst G fr W m σ H Q ((F (.fz d) h2).calm.bind Kk) → R v H2) : Pst G true W' m1 σ' H1 R r.frz := by
  cases r with
  | bad w => exact p
  | exc c xs h' => exact p.elim
  | ok t h' => exact fun m2 v H2 z rh rt own => k m2 t.d h' v H2 rh z rt p
/-- behind an expression while the list at B grows -/
structure KeepB (B : Addr) (m : List Addr) (H : Hp) (m' : List Addr) (H' : Hp) : Prop where
  pre : ∃ ms, m' = m ++ ms ∧ ∀ a ∈ ms, H a = none
  per : Per m H m' H'
  keep : ∀ a o, H a = some o → a ∉ m → a ≠ B → H' a = some o
theorem KeepB.refl {B : Addr} : KeepB B m H m H := ⟨⟨[], by simp, by simp⟩, Per.refl, fun _ _ h _ _ => h⟩
theorem KeepB.step {B : Addr} {h1 : RH} {m1 m2 : List Addr} {H1 H2 : Hp} (k : KeepB B m H m1 H1) (nB : B ∉ m1) (there : ∀ a o, H a = some o → ∃ o', H1 a = some o') (rh : RpH m1 h1 H1) (y : Ex m1 H1 m2 H2) : KeepB B m H m2 H2 := by
  obtain ⟨ms, e1, n1⟩ := k.pre
  obtain ⟨ns, e2, n2⟩ := y.pre
  refine ⟨⟨ms ++ ns, by rw [e2, e1, List.append_assoc], fun a ha => ?_⟩, k.per.trans (y.per rh), fun a o e n nb => ?_⟩
  · rcases List.mem_append.mp ha with z | z
    · exact n1 a z
    · cases e : H a with
      | none => rfl
      | some o =>
        obtain ⟨o', e'⟩ := there a o e
        rw [n2 a z] at e'
        cases e'
  · refine y.keep a o (k.keep a o e n nb) fun z => ?_
    rw [e1] at z
    rcases List.mem_append.mp z with w | w
    · exact n w
    · rw [n1 a w] at e; cases e
theorem KeepB.grow {B : Addr} {vs ws : List V} (k : KeepB B m H m' H') (eB : H' B = some (.lst vs)) (p : Per m' H' m' (L2.upd H' B (.lst ws))) : KeepB B m H m' (L2.upd H' B (.lst ws)) :=
  ⟨k.pre, k.per.trans p, fun a o e n nb => by rw [upd_ne nb]; exact k.keep a o e n nb⟩
theorem SR.stayP {s : Sl} {h h' : RH} (r : SR m s h σ H) (p : Per m H m' H') (k : ∀ (i : Nat) t a, s[i]? = some t → t.own = true → σ[i]? = some (some (.ref a)) → (∀ o, H a = some o → H' a = some o) ∧ a ∉ m') (rh : RpH m' h' H') : SR m' s h' σ H' := by
  refine ⟨r.len, fun i t e ht => ?_, r.apart, fun i t a e o es => (k i t a e o es).2, rh⟩
  obtain ⟨v, ev, q⟩ := r.at_ i t e ht
  refine ⟨v, ev, ?_⟩
  cases t with
  | fz d => exact Rp.per p d v q
  | oL n rs =>
    obtain ⟨a, vs, rfl, h1, h2, h3⟩ := q
    exact ⟨a, vs, rfl, (k i _ a e rfl ev).1 _ h1, Rps.per p _ _ h2, h3⟩
  | oD ks =>
    obtain ⟨a, ws, rfl, h1, h2⟩ := q
    exact ⟨a, ws, rfl, (k i _ a e rfl ev).1 _ h1, Rpk.per p _ _ h2⟩
  | _ => exact q.elim
theorem SR.taken' {s : Sl} {h : RH} {j : Nat} {u : T} {a : Addr} (q : SR m s h σ H) (e : s[j]? = some u) (o : u.own = true) (es : σ[j]? = some (some (.ref a))) : ∃ ob, H a = some ob := by
  obtain ⟨ob, e, _⟩ := q.taken e o es; exact ⟨ob, e⟩
/-- the machine's comprehension with two fors, as the hand layer reads it -/
theorem lc2_of {vs vs1 : List Nat} {a c a1 c1 e : E} {σ : L2.St} {H : Hp} {Q : VK} (hyp : te G Φ x W (.comp2 vs a c vs1 a1 c1 e) σ H Q) :
    tLc2 (tR G Φ x W a) (fun v σ H Q => ∃ σ0 A, gT (PC (vs ++ vs1) σ0 A) (tgOf vs) v σ H Q) (tt G Φ x W0 c) (tR G Φ x W0 a1) (fun v σ H Q => ∃ σ0 A, gT (PC vs1 σ0 A) (tgOf vs1) v σ H Q) (tt G Φ x W0 c1)
      (fun σ H Q => ∃ m s h, SR m s h σ H ∧ Pst G true W0 m σ H Q (ev Φ x e s h).frz) (vs ++ vs1) vs1 σ H Q := by
  obtain ⟨m, sl, h, r, p⟩ := hyp
  rw [ev] at p
  refine ⟨m, sl, h, r, ?_⟩
  cases ea : rdv a sl h (ev Φ x a sl h) with
  | bad w => rw [ea] at p; exact p
  | exc cc xs h' => rw [ea] at p; exact p
  | ok t h1 =>
    rw [ea] at p
    simp only [RE.its, RE.bind] at p
    cases ei : items t with
    | none => rw [ei] at p; exact p.elim
    | some ds =>
      rw [ei] at p
      refine ⟨ds, ei, fun m1 H1 J y rh wk D hD => ?_⟩
      have p := Pst.from p y rh
      have r1 := (r.stay y rh).wipe (vs ++ vs1)
      -- the inner walk
      obtain ⟨f2, hf2⟩ : ∃ f2, f2 = (fun (s : Sl) (n : Nat) (acc : List Ma.D) (h : RH) => (match rdv a1 s h (ev Φ x a1 s h) with
        | .ok t h => (match items t with | some ys => compGo (tgOf vs1) (unT vs1 s) (ev Φ x c1) (ev Φ x e) ys n acc h | none => .bad "items")
        | .exc c xs h => .exc c xs h
        | .bad w => .bad w : RE)) := ⟨_, rfl⟩
      have hf : ∀ s n acc h, f2 s n acc h = (match rdv a1 s h (ev Φ x a1 s h) with
        | .ok t h => (match items t with | some ys => compGo (tgOf vs1) (unT vs1 s) (ev Φ x c1) (ev Φ x e) ys n acc h | none => .bad "items")
        | .exc c xs h => .exc c xs h
        | .bad w => .bad w : RE) := fun s n acc h => by rw [hf2]
      have p : Pst G true W m1 σ H1 Q (comp2Go (tgOf vs) (unT (vs ++ vs1) sl) (ev Φ x c) f2 ds 0 [] h1) := by rw [hf2]; exact p
      let Inv2 : List Ma.D → Hp → Prop := fun rest H => ∃ m2 h2 acc vacc, RpH m2 h2 H ∧ Ex m1 H1 m2 H ∧ D ∉ m2 ∧ H D = some (.lst vacc) ∧ Rps m2 H acc.reverse vacc ∧
        Pst G true W m1 σ H1 Q (comp2Go (tgOf vs) (unT (vs ++ vs1) sl) (ev Φ x c) f2 rest acc.length acc h2)
      refine ⟨fun i μ H => μ + i = ds.length ∧ Inv2 (ds.drop i) H, ?_, ?_⟩
      · exact ⟨ds.length, rfl, m1, h1, [], [], rh.new hD, ex_new hD, rh.notin hD, upd_same, rfl, p⟩
      · rintro i μ H2 ⟨hμ, m2, h2, acc, vacc, rh2, y2, nD, eD, racc, p2⟩
        obtain ⟨go, stop⟩ := wk m2 h2 H2 (Std.of rh y2) rh2
        by_cases cc : i < ds.length
        · right
          rw [List.drop_eq_getElem_cons cc, comp2Go] at p2
          obtain ⟨g1, g2⟩ := go i ds[i] (List.getElem?_eq_getElem cc)
          refine ⟨g1, Inv2 (ds.drop (i + 1)), fun H' z => ⟨μ - 1, by omega, by omega, z⟩, fun v H3 yl => ?_⟩
          obtain ⟨y3, rh3, rv⟩ := g2 v H3 yl
          cases eb : bindT (tgOf vs) ds[i] (unT (vs ++ vs1) sl) with
          | none => rw [eb] at p2; exact p2.elim
          | some s3 =>
            rw [eb] at p2
            have y13 : Ex m1 H1 m2 H3 := y2.comp rh2 y3
            have off0 : Off (· = D) (unT (vs ++ vs1) sl) (wipe σ (vs ++ vs1)) := fun j t a ej oj sj z => by
              obtain ⟨ob, eo⟩ := r1.taken' ej oj sj
              rw [show a = D from z, hD] at eo
              cases eo
            refine ⟨wipe σ (vs ++ vs1), (· = D), m2, _, h2, ds[i], s3, ⟨r1.stay y13 rh3, wipe_wipe _ _, off0⟩, rv, eb, fun σ' q' => ⟨q'.2.1, m2, s3, h2, q'.1, ?_⟩⟩
            refine Pst.calmT p2 y13 h2 rh3 fun m4 b h4 H4 rh4 y4 p4 => ?_
            have e3 : H3 D = some (.lst vacc) := y3.keep D _ eD nD
            have e4 : H4 D = some (.lst vacc) := y4.keep D _ e3 nD
            have n4 : D ∉ m4 := y4.notin e3 nD
            have y14 : Ex m1 H1 m4 H4 := y13.comp rh3 y4
            have ra4 : Rps m4 H4 acc.reverse vacc := Rps.per (y4.per rh3) _ _ (Rps.per (y3.per rh2) _ _ racc)
            have q4 : SR m4 s3 h4 σ' H4 := q'.1.stay y4 rh4
            cases b with
            | false => exact ⟨m4, h4, acc, vacc, rh4, y14, n4, e4, ra4, p4⟩
            | true =>
              refine ⟨m4, s3, h4, q4, ?_⟩
              simp only at p4
              rw [hf] at p4
              cases er : rdv a1 s3 h4 (ev Φ x a1 s3 h4) with
              | bad w => rw [er] at p4; exact p4.elim
              | exc c2 xs h' => rw [er] at p4; exact p4.elim
              | ok t5 h5 =>
                rw [er] at p4
                dsimp only at p4
                cases et : items t5 with
                | none => rw [et] at p4; exact p4.elim
                | some ys =>
                  rw [et] at p4
                  refine ⟨ys, et, fun m5 H5 J1 y5 rh5 wk1 => ?_⟩
                  have q5 : SR m5 (unT vs1 s3) h5 (wipe σ' vs1) H5 := (q4.stay y5 rh5).wipe vs1
                  have y15 : Ex m1 H1 m5 H5 := y14.comp rh4 y5
                  let Inv3 : List Ma.D → Hp → Prop := fun rest H => ∃ m6 h6 acc vacc, RpH m6 h6 H ∧ Ex m1 H1 m6 H ∧ KeepB D m5 H5 m6 H ∧ D ∉ m6 ∧ H D = some (.lst vacc) ∧ Rps m6 H acc.reverse vacc ∧
                    Pst G true W m1 σ H1 Q ((compGo (tgOf vs1) (unT vs1 s3) (ev Φ x c1) (ev Φ x e) rest acc.length acc h6).calm.bind fun t h => match t with
                      | .oL n acc => comp2Go (tgOf vs) (unT (vs ++ vs1) sl) (ev Φ x c) f2 (ds.drop (i + 1)) n acc h
                      | _ => .bad "comp2")
                  have e5 : H5 D = some (.lst vacc) := y5.keep D _ e4 n4
                  have n5 : D ∉ m5 := y5.notin e4 n4
                  refine ⟨fun j k H => k + j = ys.length ∧ Inv3 (ys.drop j) H, ⟨ys.length, rfl, m5, h5, acc, vacc, rh5, y15, KeepB.refl, n5, e5, Rps.per (y5.per rh4) _ _ ra4, p4⟩, ?_⟩
                  rintro j k H6 ⟨hk, m6, h6, acc6, vacc6, rh6, y16, kb6, n6, e6, ra6, p6⟩
                  have st6 : Std s3 σ' H4 m5 H5 m6 H6 := ⟨kb6.per, fun a o ea na hor => kb6.keep a o ea na fun z => by
                    subst z
                    rcases hor with z | ⟨j, t, ej, oj, sj⟩
                    · rw [e4] at z; cases z
                    · exact q'.2.2 j t a ej oj sj rfl⟩
                  have th6 : ∀ a o, H5 a = some o → ∃ o', H6 a = some o' := fun a o ea => by
                    by_cases na : a ∈ m5
                    · obtain ⟨ms, em, _⟩ := kb6.pre
                      obtain ⟨vs, ev, _⟩ := rh6.mut (a := a) (by rw [em]; exact List.mem_append_left _ na)
                      exact ⟨_, ev⟩
                    · by_cases nb : a = D
                      · subst nb; exact ⟨_, e6⟩
                      · exact ⟨o, kb6.keep a o ea na nb⟩
                  obtain ⟨go1, stop1⟩ := wk1 m6 h6 H6 st6 rh6
                  by_cases c6 : j < ys.length
                  · right
                    rw [List.drop_eq_getElem_cons c6, compGo] at p6
                    obtain ⟨k1, k2⟩ := go1 j ys[j] (List.getElem?_eq_getElem c6)
                    refine ⟨k1, Inv3 (ys.drop (j + 1)), fun H' z => ⟨k - 1, by omega, by omega, z⟩, fun v6 H7 yl6 => ?_⟩
                    obtain ⟨y7, rh7, rv7⟩ := k2 v6 H7 yl6
                    cases eb7 : bindT (tgOf vs1) ys[j] (unT vs1 s3) with
                    | none => rw [eb7] at p6; exact p6.elim
                    | some s7 =>
                      rw [eb7] at p6
                      have y17 : Ex m1 H1 m6 H7 := y16.comp rh6 y7
                      have kb7 : KeepB D m5 H5 m6 H7 := kb6.step n6 th6 rh6 y7
                      have th7 : ∀ a o, H5 a = some o → ∃ o', H7 a = some o' := fun a o ea => by
                        obtain ⟨o', e'⟩ := th6 a o ea
                        by_cases na : a ∈ m6
                        · obtain ⟨vs, ev, _⟩ := rh7.mut na; exact ⟨_, ev⟩
                        · exact ⟨o', y7.keep a o' e' na⟩
                      have q7' : SR m6 (unT vs1 s3) h6 (wipe σ' vs1) H7 := q5.stayP kb7.per (fun i t a ei oi si => by
                        have hne : a ≠ D := fun z => (q'.2.2.wipe vs1) i t a ei oi si z
                        obtain ⟨ob, eo⟩ := q5.taken' ei oi si
                        have na : a ∉ m5 := q5.off i t a ei oi si
                        refine ⟨fun o eo => kb7.keep a o eo na hne, fun z => ?_⟩
                        obtain ⟨ms, em, nm⟩ := kb7.pre
                        rw [em] at z
                        rcases List.mem_append.mp z with w | w
                        · exact na w
                        · rw [nm a w] at eo; cases eo) rh7
                      refine ⟨wipe σ' vs1, (fun _ => False), m6, _, h6, ys[j], s7, ⟨q7', wipe_wipe _ _, fun _ _ _ _ _ _ z => z⟩, rv7, eb7, fun σ7 q7 => ⟨q7.2.1, m6, s7, h6, q7.1, ?_⟩⟩
                      refine calmT2 p6 fun m8 b8 h8 H8 rh8 y8 p8 => ?_
                      have e7 : H7 D = some (.lst vacc6) := y7.keep D _ e6 n6
                      have e8 : H8 D = some (.lst vacc6) := y8.keep D _ e7 n6
                      have n8 : D ∉ m8 := y8.notin e7 n6
                      have y18 : Ex m1 H1 m8 H8 := y17.comp rh7 y8
                      have kb8 : KeepB D m5 H5 m8 H8 := kb7.step n6 th7 rh7 y8
                      have th8 : ∀ a o, H5 a = some o → ∃ o', H8 a = some o' := fun a o ea => by
                        obtain ⟨o', e'⟩ := th7 a o ea
                        by_cases na : a ∈ m6
                        · obtain ⟨ms, em, _⟩ := y8.pre
                          obtain ⟨vs, ev, _⟩ := rh8.mut (a := a) (by rw [em]; exact List.mem_append_left _ na)
                          exact ⟨_, ev⟩
                        · exact ⟨o', y8.keep a o' e' na⟩
                      have ra8 : Rps m8 H8 acc6.reverse vacc6 := Rps.per (y8.per rh7) _ _ (Rps.per (y7.per rh6) _ _ ra6)
                      cases b8 with
                      | false => exact ⟨m8, h8, acc6, vacc6, rh8, y18, kb8, n8, e8, ra8, p8⟩
                      | true =>
                        refine ⟨m8, s7, h8, q7.1.stay y8 rh8, calm2 p8 fun m9 d h9 w H9 rh9 y9 rw9 p9 => ?_⟩
                        have e9 : H9 D = some (.lst vacc6) := y9.keep D _ e8 n8
                        have n9 : D ∉ m9 := y9.notin e8 n8
                        have y19 : Ex m1 H1 m9 H9 := y18.comp rh8 y9
                        have kb9 : KeepB D m5 H5 m9 H9 := kb8.step n8 th8 rh8 y9
                        have ra9 : Rps m9 H9 acc6.reverse vacc6 := Rps.per (y9.per rh8) _ _ ra8
                        by_cases hz : Nat.blt acc6.length line = true
                        · rw [if_pos hz] at p9
                          refine ⟨vacc6, e9, by rw [ra9.len, List.length_reverse]; exact line_lt hz, ?_⟩
                          obtain ⟨g1, g2, g3⟩ := grow (v := w) rh9 y19 e9 n9 hD
                          exact ⟨m9, h9, d :: acc6, vacc6 ++ [w], g1, g2, kb9.grow e9 g3, n9, upd_same, by rw [List.reverse_cons]; exact (Rps.per g3 _ _ ra9).app (Rps.one (Rp.per g3 _ _ rw9)), p9⟩
                        · rw [if_neg hz] at p9; exact p9.elim
                  · left
                    have hj : j = ys.length := by omega
                    subst hj
                    rw [List.drop_length, compGo] at p6
                    exact ⟨stop1, m6, h6, acc6, vacc6, rh6, y16, n6, e6, ra6, p6⟩
        · left
          have hi : i = ds.length := by omega
          subst hi
          rw [List.drop_length, comp2Go] at p2
          exact ⟨stop, p2 m2 _ H2 y2 rh2 ⟨D, vacc, rfl, eD, racc, rfl⟩ fun _ b e => by cases e; exact ⟨nD, fun _ => hD⟩⟩
theorem se_comp2 {elt tg iter tg1 iter1 : Expr} {ifs ifs1 : List Expr} {scope : Scope} {own : List (Str × Nat)} {pos : Pos} {vs vs1 : List Nat} {a c a1 c1 e : E} (hc : X.calm = true) (hN : X.N.Nodup) (hi : PI X tg iter (tR G Φ x W a)) (ok : BlkOk X.N X.env.scope scope own) (hv : own.map (·.2) = vs ++ vs1)
    (hg : ∀ (σ0 : L2.St) (A : Addr → Prop) (s : Shared) (H : Hp) (C : Addr) (cl : List (Str × Addr)) (fp : List Addr), PG (X.blk s H scope (compEnvC scope cl C X.env) fp) tg (gT (PC (vs ++ vs1) σ0 A) (tgOf vs)))
    (ht : ∀ (s : Shared) (H : Hp) (C : Addr) (cl : List (Str × Addr)) (fp : List Addr), PTs (X.blk s H scope (compEnvC scope cl C X.env) fp) ifs (tt G Φ x W0 c))
    (hi1 : ∀ (s : Shared) (H : Hp) (C : Addr) (cl : List (Str × Addr)) (fp : List Addr), PI (X.blk s H scope (compEnvC scope cl C X.env) fp) tg1 iter1 (tR G Φ x W0 a1))
    (hg1 : ∀ (σ0 : L2.St) (A : Addr → Prop) (s : Shared) (H : Hp) (C : Addr) (cl : List (Str × Addr)) (fp : List Addr), PG (X.blk s H scope (compEnvC scope cl C X.env) fp) tg1 (gT (PC vs1 σ0 A) (tgOf vs1)))
    (ht1 : ∀ (s : Shared) (H : Hp) (C : Addr) (cl : List (Str × Addr)) (fp : List Addr), PTs (X.blk s H scope (compEnvC scope cl C X.env) fp) ifs1 (tt G Φ x W0 c1))
    (he : ∀ (s : Shared) (H : Hp) (C : Addr) (cl : List (Str × Addr)) (fp : List Addr), PE (X.blk s H scope (compEnvC scope cl C X.env) fp) elt (te G Φ x W0 e)) (hs : ∀ x, foldedSetIterable iter X.env x = pure x := by intro _; rfl) (hs1 : ∀ env x, foldedSetIterable iter1 env x = pure x := by intro _ _; rfl) :
    PE X (.ListComp elt [⟨tg, iter, ifs, 0⟩, ⟨tg1, iter1, ifs1, 0⟩] scope pos) (te G Φ x W (.comp2 vs a c vs1 a1 c1 e)) := by
  have k := fun σ H Q (hyp : te G Φ x W (.comp2 vs a c vs1 a1 c1 e) σ H Q) => lc2_of hyp
  rw [← hv] at k
  rw [← hv] at hg
  exact PEimp (pe_lc2 hc hN hi ok (vs1 := vs1) (by intro i hi; rw [hv]; exact List.mem_append_right _ hi) (fun s H C cl fp => pg_any fun σ0 A => hg σ0 A s H C cl fp) ht hi1 (fun s H C cl fp => pg_any fun σ0 A => hg1 σ0 A s H C cl fp) ht1 (fun s H C cl fp => sf_of (he s H C cl fp)) hs hs1) k
/-- name = [.. for .. for ..] on one line -/
theorem ss_setLc2 {own_ : Bool} {i : Nat} {y : Str} {py spos : Pos} {elt tg iter tg1 iter1 : Expr} {ifs ifs1 : List Expr} {scope : Scope} {own : List (Str × Nat)} {pos : Pos} {vs vs1 : List Nat} {a c a1 c1 e : E} (hc : X.calm = true) (hN : X.N.Nodup) (hy : X.N[i]? = some y) (hyl : X.env.scope.names.lookup y = some .local)
    (hsw : swapsWith (.ListComp elt [⟨tg, iter, ifs, 0⟩, ⟨tg1, iter1, ifs1, 0⟩] scope pos) (some (.Name y py)) spos.line X.env = pure true) (hi : PI X tg iter (tR G Φ x W a)) (ok : BlkOk X.N X.env.scope scope own) (hv : own.map (·.2) = vs ++ vs1)
    (hg : ∀ (σ0 : L2.St) (A : Addr → Prop) (s : Shared) (H : Hp) (C : Addr) (cl : List (Str × Addr)) (fp : List Addr), PG (X.blk s H scope (compEnvC scope cl C X.env) fp) tg (gT (PC (vs ++ vs1) σ0 A) (tgOf vs)))
    (ht : ∀ (s : Shared) (H : Hp) (C : Addr) (cl : List (Str × Addr)) (fp : List Addr), PTs (X.blk s H scope (compEnvC scope cl C X.env) fp) ifs (tt G Φ x W0 c))
    (hi1 : ∀ (s : Shared) (H : Hp) (C : Addr) (cl : List (Str × Addr)) (fp : List Addr), PI (X.blk s H scope (compEnvC scope cl C X.env) fp) tg1 iter1 (tR G Φ x W0 a1))
    (hg1 : ∀ (σ0 : L2.St) (A : Addr → Prop) (s : Shared) (H : Hp) (C : Addr) (cl : List (Str × Addr)) (fp : List Addr), PG (X.blk s H scope (compEnvC scope cl C X.env) fp) tg1 (gT (PC vs1 σ0 A) (tgOf vs1)))
    (ht1 : ∀ (s : Shared) (H : Hp) (C : Addr) (cl : List (Str × Addr)) (fp : List Addr), PTs (X.blk s H scope (compEnvC scope cl C X.env) fp) ifs1 (tt G Φ x W0 c1))
    (he : ∀ (s : Shared) (H : Hp) (C : Addr) (cl : List (Str × Addr)) (fp : List Addr), PE (X.blk s H scope (compEnvC scope cl C X.env) fp) elt (te G Φ x W0 e)) (hs : ∀ x, foldedSetIterable iter X.env x = pure x := by intro _; rfl) (hs1 : ∀ env x, foldedSetIterable iter1 env x = pure x := by intro _ _; rfl) :
    PS X (.Assign [.Name y py] (.ListComp elt [⟨tg, iter, ifs, 0⟩, ⟨tg1, iter1, ifs1, 0⟩] scope pos) spos) (ts G Φ x W m0 H0 (if own_ then .set i (.comp2 vs a c vs1 a1 c1 e) else .setf i (.comp2 vs a c vs1 a1 c1 e))) := by
  have k := fun σ H Q (hyp : te G Φ x W (.comp2 vs a c vs1 a1 c1 e) σ H Q) => lc2_of hyp
  rw [← hv] at k
  rw [← hv] at hg
  have base := L2.ps_setLc2 hc hN hy hyl hsw hi ok (vs1 := vs1) (by intro i hi; rw [hv]; exact List.mem_append_right _ hi) (fun s H C cl fp => pg_any fun σ0 A => hg σ0 A s H C cl fp) ht hi1 (fun s H C cl fp => pg_any fun σ0 A => hg1 σ0 A s H C cl fp) ht1 (fun s H C cl fp => sf_of (he s H C cl fp)) hs hs1
  cases own_ with
  | true => exact PSimp base fun D σ H hyp => set_new (fun Q => k σ H Q) hyp
  | false => exact PSimp (ps_frz base) fun D σ H hyp => setf_new (fun Q => k σ H Q) hyp
end
end Ma
set_option maxHeartbeats 4000000
/-! Shared lists; calls with a list that is lent. -/
namespace Ma
open PySem PySem.Spec L2
variable [TB]
section
variable {G : GC} {Φ : Cal} {x : List D} {W : WX} {X : Cx} {fr : Bool} {m0 m m' : List Addr} {σ : L2.St} {H0 H H' : Hp} {Q Q' : VK}
/-! ### a new shared list -/
theorem RpH.more {h : RH} {p : Addr} {xs : List D} {vs : List V} (rh : RpH m h H) (n : H p = none) (r : Rps m H xs vs) : RpH (m ++ [p]) (h ++ [.lst xs]) (L2.upd H p (.lst vs)) ∧ Ex m H (m ++ [p]) (L2.upd H p (.lst vs)) := by
  have y : Ex m H (m ++ [p]) (L2.upd H p (.lst vs)) := ⟨⟨[p], rfl, fun a ha => by rw [List.mem_singleton] at ha; rw [ha]; exact n⟩, fun a o e _ => by rw [upd_ne (ne_of_none e n)]; exact e⟩
  have pr := y.per rh
  refine ⟨⟨?_, by rw [List.length_append, List.length_append, rh.len]; rfl, fun k ob a e1 e2 => ?_⟩, y⟩
  · rw [List.nodup_append]
    refine ⟨rh.nd, by simp, fun a ha b hb => ?_⟩
    rw [List.mem_singleton] at hb
    subst hb
    intro z
    subst z
    exact rh.notin n ha
  · by_cases c : k < h.length
    · rw [List.getElem?_append_left c] at e1
      rw [List.getElem?_append_left (by rw [rh.len]; exact c)] at e2
      have q := rh.at_ k ob a e1 e2
      cases ob with
      | lst ys =>
        obtain ⟨ws, e3, r3⟩ := q
        exact ⟨ws, by rw [upd_ne (ne_of_none e3 n)]; exact e3, Rps.per pr _ _ r3⟩
      | ins c fs => exact q
      | tab k => obtain ⟨x, e3, t⟩ := q; exact ⟨x, e3, tab_stay t fun b o _ eb => by rw [upd_ne (ne_of_none eb n)]; exact eb⟩
    · have hk : k = h.length := by
        have := (List.getElem?_eq_some_iff.mp e1).1
        rw [List.length_append, List.length_singleton] at this
        omega
      subst hk
      rw [List.getElem?_append_right (Nat.le_refl _), Nat.sub_self] at e1
      rw [List.getElem?_append_right (by rw [rh.len]; exact Nat.le_refl _), rh.len, Nat.sub_self] at e2
      cases e1
      cases e2
      exact ⟨vs, upd_same, Rps.per pr _ _ r⟩
theorem se_rnew {es : List Expr} {a : E} {pos : Pos} (ha : PA X es (ta G Φ x W a)) (hr : isRow a = true) (hn : Nat.ble (rowN a) 16777216 = true) : PE X (.List es pos) (te G Φ x W (.rnew a)) := by
  refine PEimp (pe_lst ha) fun σ H Q ⟨m, s, h, r, p⟩ => ?_
  rw [ev] at p
  refine ta_row hr r p fun ds h' m' vs H' r' y rs l p' => ⟨by rw [l]; exact okN_le hn, fun q n => ?_⟩
  obtain ⟨rh2, y2⟩ := r'.hp.more n rs
  refine p' _ _ _ y2 rh2 ⟨q, ?_, rfl⟩ fun o => nomatch o
  rw [List.getElem?_append_right (by rw [r'.hp.len]; exact Nat.le_refl _), r'.hp.len, Nat.sub_self]
  rfl
/-! ### x[i] = v, x shared -/
theorem setOb_at : ∀ (h : RH) (n k : Nat) (o : Ob), (setOb h n o)[k]? = if n = k ∧ k < h.length then some o else h[k]?
  | [], n, k, o => by simp [setOb]
  | x :: r, 0, 0, o => by simp [setOb]
  | x :: r, 0, k + 1, o => by simp [setOb]
  | x :: r, n + 1, 0, o => by simp [setOb]
  | x :: r, n + 1, k + 1, o => by
    rw [setOb, List.getElem?_cons_succ, setOb_at r n k o]
    simp
theorem setOb_len : ∀ (h : RH) (n : Nat) (o : Ob), (setOb h n o).length = h.length
  | [], _, _ => rfl
  | x :: r, 0, _ => rfl
  | x :: r, n + 1, o => by rw [setOb, List.length_cons, List.length_cons, setOb_len r n o]
theorem Rps.setD {d : D} {v : V} : ∀ {xs : List D} {vs : List V} (j : Nat), Rps m H xs vs → Rp m H d v → Rps m H (Ma.setD xs j d) (vs.set j v)
  | [], vs, j, h, r => by rw [show vs = [] from h]; rfl
  | y :: xs, vs, 0, ⟨w, q, e, _, t⟩, r => by subst e; exact ⟨v, q, rfl, r, t⟩
  | y :: xs, vs, j + 1, ⟨w, q, e, rw', t⟩, r => by subst e; exact ⟨w, _, rfl, rw', Rps.setD j t r⟩
theorem nodup_at {α : Type} : ∀ {l : List α} {i j : Nat} {a : α}, l.Nodup → l[i]? = some a → l[j]? = some a → i = j
  | [], i, j, a, _, e, _ => by simp at e
  | x :: l, 0, 0, a, _, _, _ => rfl
  | x :: l, 0, j + 1, a, h, e1, e2 => by
    simp at e1 e2
    subst e1
    exact absurd (List.mem_of_getElem? e2) (List.nodup_cons.mp h).1
  | x :: l, i + 1, 0, a, h, e1, e2 => by
    simp at e1 e2
    subst e2
    exact absurd (List.mem_of_getElem? e1) (List.nodup_cons.mp h).1
  | x :: l, i + 1, j + 1, a, h, e1, e2 => by
    simp at e1 e2
    rw [nodup_at (List.nodup_cons.mp h).2 e1 e2]
theorem SF.put {s : Sl} {h : RH} {n : Nat} {a : Addr} {xs : List D} {vs : List V} {j : Nat} {d : D} {v : V} (q : SF m0 H0 m s h σ H) (en : h[n]? = some (.lst xs)) (em : m[n]? = some a) (eH : H a = some (.lst vs)) (r : Rps m H xs vs) (rd : Rp m H d v) :
    SF m0 H0 m s (setOb h n (.lst (Ma.setD xs j d))) σ (L2.upd H a (.lst (vs.set j v))) ∧ Per m H m (L2.upd H a (.lst (vs.set j v))) := by
  have pr : Per m H m (L2.upd H a (.lst (vs.set j v))) := by
    refine ⟨fun b ys e => ?_, fun b o w e => ?_, fun _ _ e => e⟩
    · rw [upd_ne]; exact e
      intro z; subst z; rw [eH] at e; cases e
    · rw [upd_ne]; exact e
      intro z; subst z; rw [eH] at e; cases e
  have ha : a ∈ m := List.mem_of_getElem? em
  have rh : RpH m (setOb h n (.lst (Ma.setD xs j d))) (L2.upd H a (.lst (vs.set j v))) := by
    refine ⟨q.sr.hp.nd, by rw [setOb_len, q.sr.hp.len], fun k ob b e1 e2 => ?_⟩
    rw [setOb_at] at e1
    by_cases c : n = k ∧ k < h.length
    · rw [if_pos c] at e1
      cases e1
      obtain ⟨rfl, c⟩ := c
      rw [em] at e2
      cases e2
      exact ⟨_, upd_same, Rps.per pr _ _ (r.setD j rd)⟩
    · rw [if_neg c] at e1
      have hb : b ≠ a := fun z => by
        subst z
        have hk := (List.getElem?_eq_some_iff.mp e2).1
        have : n = k := nodup_at q.sr.hp.nd em e2
        exact c ⟨this, by rw [← q.sr.hp.len]; exact hk⟩
      have z := q.sr.hp.at_ k ob b e1 e2
      cases ob with
      | lst ys =>
        obtain ⟨ws, e3, r3⟩ := z
        exact ⟨ws, by rw [upd_ne hb]; exact e3, Rps.per pr _ _ r3⟩
      | ins c fs => exact z
      | tab k => obtain ⟨x, e3, t⟩ := z; exact ⟨x, e3, tab_stay t fun b2 o nl eb => by rw [upd_ne (fun z => by subst z; rw [eH] at eb; exact nl _ (Option.some.inj eb).symm)]; exact eb⟩
  refine ⟨⟨q.sr.stayP pr (fun i t b e o es => ⟨fun ob eo => ?_, q.sr.off i t b e o es⟩) rh, ⟨q.ex.pre, fun b o e hb => ?_⟩, q.new⟩, pr⟩
  · rw [upd_ne (fun z => q.sr.off i t b e o es (by rw [z]; exact ha))]; exact eo
  · rw [upd_ne]; exact q.ex.keep b o e hb
    intro z
    subst z
    obtain ⟨ms, em', nm⟩ := q.ex.pre
    rw [em'] at ha
    rcases List.mem_append.mp ha with w | w
    · exact hb w
    · rw [nm b w] at e; cases e
theorem ss_rput {o1 k1 e1 : Expr} {o k e : E} {pos pos' : Pos} (ho : PE X o1 (te G Φ x W o)) (hk : PE X k1 (te G Φ x W k)) (he : PE X e1 (te G Φ x W e))
    (ha : ∀ v, assign (.Subscript o1 k1 pos') X.env v = (do
      let ov ← holding [v] (eval o1 X.env)
      let iv ← holding [v, ov] (eval k1 X.env)
      standAt pos'
      holding [v, ov, iv] (setItem ov iv v)
      release [v, ov, iv] []) := by intro _; rfl)
    (hs : swapsWithSole [.Subscript o1 k1 pos'] e1 pos.line X.env = pure false := by rfl) (hw : swappedStores [.Subscript o1 k1 pos'] e1 X.env = pure none := by rfl)
    (h1 : (assignEach [.Subscript o1 k1 pos'] X.env).map (·.2) = [assign (.Subscript o1 k1 pos') X.env] := by rfl) : PS X (.Assign [.Subscript o1 k1 pos'] e1 pos) (ts G Φ x W m0 H0 (.rput o k e)) := by
  refine PSimp (ps_asg (sf_of he) (pg_sub ho hk set_list ha) hs hw h1) fun D σ H ⟨m, s, h, q, p⟩ => ?_
  rw [ex] at p
  refine ⟨m, s, h, q.sr, PstS.goz q p fun m1 d h1 v H1 q1 y1 rd p1 => ?_⟩
  refine ⟨m1, s, h1, q1.sr, PstS.go q1 p1 fun m2 t h2 ov H2 q2 y2 rt own p2 => ?_⟩
  cases t with
  | fz d2 =>
    cases d2 with
    | ref n =>
      refine ⟨m2, s, h2, q2.sr, PstS.go q2 p2 fun m3 t3 h3 iv H3 q3 y3 rt3 own3 p3 => ?_⟩
      cases t3 with
      | fz d3 =>
        cases d3 with
        | int i =>
          simp only [T.d] at p3
          cases en : h3[n]? with
          | none => rw [en] at p3; exact p3.elim
          | some ob =>
            rw [en] at p3
            cases ob with
            | lst xs =>
              simp only at p3
              cases ej : Ma.ixN xs.length i with
              | none => rw [ej] at p3; exact p3.elim
              | some j =>
                rw [ej] at p3
                have rn : Rp m3 H3 (.ref n) ov := Rp.per (y3.per q2.sr.hp) (.ref n) ov rt
                obtain ⟨a, vs, rfl, _, em, eH, r⟩ := q3.sr.hp.get rn en
                have rd3 : Rp m3 H3 d v := Rp.per ((y2.comp q2.sr.hp y3).per q1.sr.hp) _ _ rd
                obtain ⟨q4, pr⟩ := q3.put (j := j) en em eH r rd3
                refine ⟨a, vs, i, j, rfl, rt3, eH, ?_, p3 m3 σ _ q4 pr⟩
                rw [ixN_lib, r.len]
                exact ej
            | ins c fs => exact p3.elim
            | tab k => exact p3.elim
        | _ => exact p3.elim
      | _ => exact p3.elim
    | _ =>
      refine ⟨m2, s, h2, q2.sr, PstS.go q2 p2 fun m3 t3 h3 iv H3 q3 y3 rt3 own3 p3 => ?_⟩
      exact (show False from p3).elim
  | _ =>
    refine ⟨m2, s, h2, q2.sr, PstS.go q2 p2 fun m3 t3 h3 iv H3 q3 y3 rt3 own3 p3 => ?_⟩
    exact (show False from p3).elim
end
end Ma
set_option maxHeartbeats 4000000
/-! Calls with a list that is lent. -/
namespace Ma
open PySem PySem.Spec L2
variable [TB]
mutual
theorem Rp.bare {m : List Addr} {H : Hp} : ∀ (d : D) (v : V), norf d = true → Rp m H d v → Rp [] H d v
  | .non, _, _, h => h
  | .bl _, _, _, h => h
  | .int _, _, _, h => h
  | .str _, _, _, h => h
  | .tup ds, _, f, ⟨a, vs, e, h, r⟩ => ⟨a, vs, e, h, Rps.bare ds vs f r⟩
  | .lst ds, _, f, ⟨a, o, vs, e, h, r⟩ => ⟨a, o, vs, e, h, Rps.bare ds vs f r⟩
  | .dct _, _, f, _ => nomatch f
  | .kst _, _, f, _ => nomatch f
  | .ref _, _, f, _ => nomatch f
  | .clo _ _, _, f, _ => nomatch f
theorem Rps.bare {m : List Addr} {H : Hp} : ∀ (ds : List D) (vs : List V), norfs ds = true → Rps m H ds vs → Rps [] H ds vs
  | [], _, _, h => h
  | d :: ds, _, f, ⟨v, r, e, h, q⟩ => by
    rw [norfs, Bool.and_eq_true] at f
    exact ⟨v, r, e, Rp.bare d v f.1 h, Rps.bare ds r f.2 q⟩
end
theorem Rpk.bare {m : List Addr} {H : Hp} : ∀ (ks : List (Int × D)) (ws : List (Key × V)), norfK ks = true → Rpk m H ks ws → Rpk [] H ks ws
  | [], _, _, h => h
  | (i, d) :: ks, _, f, ⟨v, r, e, h, q⟩ => by
    rw [norfK, Bool.and_eq_true] at f
    exact ⟨v, r, e, Rp.bare d v f.1 h, Rpk.bare ks r f.2 q⟩
mutual
/-- scalars and tuples stand wherever the tuples stand -/
theorem Rp.pure {m m' : List Addr} {H H' : Hp} (k : ∀ a xs, H a = some (.tup xs) → H' a = some (.tup xs)) : ∀ (d : D) (v : V), pure_ d = true → Rp m H d v → Rp m' H' d v
  | .non, _, _, h => h
  | .bl _, _, _, h => h
  | .int _, _, _, h => h
  | .str _, _, _, h => h
  | .tup ds, _, f, ⟨a, vs, e, h, r⟩ => ⟨a, vs, e, k a vs h, Rps.pure k ds vs f r⟩
  | .lst _, _, f, _ => nomatch f
  | .dct _, _, f, _ => nomatch f
  | .kst _, _, f, _ => nomatch f
  | .ref _, _, f, _ => nomatch f
  | .clo _ _, _, f, _ => nomatch f
theorem Rps.pure {m m' : List Addr} {H H' : Hp} (k : ∀ a xs, H a = some (.tup xs) → H' a = some (.tup xs)) : ∀ (ds : List D) (vs : List V), pures ds = true → Rps m H ds vs → Rps m' H' ds vs
  | [], _, _, h => h
  | d :: ds, _, f, ⟨v, r, e, h, q⟩ => by
    rw [pures, Bool.and_eq_true] at f
    exact ⟨v, r, e, Rp.pure k d v f.1 h, Rps.pure k ds r f.2 q⟩
end
theorem pures_rev : ∀ {ds : List D}, pures ds = true → pures ds.reverse = true := by
  have app : ∀ (a b : List D), pures a = true → pures b = true → pures (a ++ b) = true := by
    intro a
    induction a with
    | nil => intro b _ h; exact h
    | cons x a ih =>
      intro b h1 h2
      rw [pures, Bool.and_eq_true] at h1
      rw [List.cons_append, pures, h1.1, ih b h1.2 h2]
      rfl
  intro ds h
  induction ds with
  | nil => rfl
  | cons x a ih =>
    rw [pures, Bool.and_eq_true] at h
    rw [List.reverse_cons]
    exact app _ _ (ih h.2) (by rw [pures, h.1]; rfl)
theorem norfs_rev : ∀ {ds : List D}, norfs ds = true → norfs ds.reverse = true := by
  have app : ∀ (a b : List D), norfs a = true → norfs b = true → norfs (a ++ b) = true := by
    intro a
    induction a with
    | nil => intro b _ h; exact h
    | cons x a ih =>
      intro b h1 h2
      rw [norfs, Bool.and_eq_true] at h1
      rw [List.cons_append, norfs, h1.1, ih b h1.2 h2]
      rfl
  intro ds h
  induction ds with
  | nil => rfl
  | cons x a ih =>
    rw [norfs, Bool.and_eq_true] at h
    rw [List.reverse_cons]
    exact app _ _ (ih h.2) (by rw [norfs, h.1]; rfl)
section
variable {G : GC} {Φ : Cal} {x : List D} {W : WX} {X : Cx} {fr : Bool} {m0 m m' : List Addr} {σ : L2.St} {H0 H H' : Hp} {Q Q' : VK}
theorem rpH_nil {H : Hp} : RpH [] [] H := ⟨List.nodup_nil, rfl, fun n ob a e => by simp at e⟩
/-- a slot's own thing, seen as locked data -/
theorem own_lent {s : Sl} {h : RH} {i : Nat} {t : T} (q : SR m s h σ H) (e : getT s i = t) (f : norfT t = true) : ∃ l u, σ[i]? = some (some (.ref l)) ∧ l ∉ m ∧ H l = some u ∧ Mut (some u) ∧ (∀ od, Rp [] (L2.upd H l (.frz od u)) t.d (.ref l)) := by
  cases t with
  | oL n rs =>
    obtain ⟨v, ev, ⟨a, vs, rfl, e1, r, z⟩, o⟩ := q.slot e (by simp)
    refine ⟨a, .lst vs, ev, o rfl a rfl, e1, trivial, fun od => ⟨a, od, vs, rfl, upd_same, Rps.bare _ _ (norfs_rev f) (Rps.per (per_lock (h := h) (u := .lst vs) trivial e1) _ _ r)⟩⟩
  | oD ks =>
    obtain ⟨v, ev, ⟨a, ws, rfl, e1, r⟩, o⟩ := q.slot e (by simp)
    refine ⟨a, .dK ws, ev, o rfl a rfl, e1, trivial, fun od => ⟨a, od, ws, rfl, upd_same, Rpk.bare _ _ f (Rpk.per (per_lock (h := h) (u := .dK ws) trivial e1) _ _ r)⟩⟩
  | _ => cases f
theorem lent_ok {r : RE} {F : T → RH → RE} (p : Pst G fr W m σ H Q ((lent r).bind F)) : ∃ t h', r = .ok t h' ∧ ((∃ d, t = .fz d ∧ pure_ d = true) ∨ ∃ n rs, t = .oL n rs ∧ pures rs = true) ∧ Pst G fr W m σ H Q (F t h') := by
  unfold lent at p
  split at p
  · rename_i d h'
    split at p
    · rename_i hd
      exact ⟨_, _, rfl, .inl ⟨d, rfl, hd⟩, p⟩
    · exact p.elim
  · rename_i n rs h'
    split at p
    · rename_i hd
      exact ⟨_, _, rfl, .inr ⟨n, rs, rfl, hd⟩, p⟩
    · exact p.elim
  · exact p.elim
/-- what comes back from a call with a lent thing -/
theorem lent_back {h : RH} {t : T} {l : Addr} {u : HO} {od : Obj} {m2 : List Addr} {v : V} {H2 : Hp} (rh : RpH m h H) (hl : l ∉ m) (eu : H l = some u) (mu : Mut (some u)) (ht : (∃ d, t = .fz d ∧ pure_ d = true) ∨ ∃ n rs, t = .oL n rs ∧ pures rs = true)
    (p : Pst G true W m σ H Q (.ok t h)) (y : Ex [] (L2.upd H l (.frz od u)) m2 H2) (rt : RpT m2 H2 t v) (own : t.own = true → ∀ a, v = .ref a → a ∉ m2 ∧ (true = true → L2.upd H l (.frz od u) a = none)) : H2 l = some (.frz od u) ∧ Q v (L2.upd H2 l u) := by
  have e2 : H2 l = some (.frz od u) := y.keep l _ upd_same (by simp)
  refine ⟨e2, ?_⟩
  have keep : ∀ a o, H a = some o → (L2.upd H2 l u) a = some o := fun a o e => by
    by_cases c : a = l
    · subst c; rw [eu] at e; cases e; exact upd_same
    · rw [upd_ne c]; exact y.keep a o (by rw [upd_ne c]; exact e) (by simp)
  have y2 : Ex m H m (L2.upd H2 l u) := ⟨⟨[], by simp, by simp⟩, fun a o e _ => keep a o e⟩
  have pr : Per m H m (L2.upd H2 l u) := ⟨fun a xs e => keep a _ e, fun a o w e => keep a _ e, fun _ _ e => e⟩
  have rh2 : RpH m h (L2.upd H2 l u) := ⟨rh.nd, rh.len, fun n ob a e1 e2 => by
    have q := rh.at_ n ob a e1 e2
    cases ob with
    | lst ys => obtain ⟨ws, e3, r3⟩ := q; exact ⟨ws, keep a _ e3, Rps.per pr _ _ r3⟩
    | ins c fs => exact q
    | tab k => obtain ⟨x, e3, t⟩ := q; exact ⟨x, e3, tab_stay t fun b o _ eb => keep b o eb⟩⟩
  have kt : ∀ a xs, H2 a = some (.tup xs) → (L2.upd H2 l u) a = some (.tup xs) := fun a xs e => by
    rw [upd_ne]; exact e
    intro z; subst z; rw [e2] at e; cases e
  rcases ht with ⟨d, rfl, hd⟩ | ⟨n, rs, rfl, hd⟩
  · exact p m v _ y2 rh2 (Rp.pure kt d v hd rt) fun o => nomatch o
  · obtain ⟨b, vs, rfl, eb, rb, z⟩ := rt
    have nb := (own rfl b rfl).2 rfl
    have hbl : b ≠ l := fun z => by subst z; rw [upd_same] at nb; cases nb
    have nH : H b = none := by rw [upd_ne hbl] at nb; exact nb
    refine p m _ _ y2 rh2 ⟨b, vs, rfl, by rw [upd_ne hbl]; exact eb, Rps.pure kt _ _ (pures_rev hd) rb, z⟩ fun _ a e => ?_
    cases e
    exact ⟨rh.notin nH, fun _ => nH⟩
theorem se_callB {y z : Str} {i j k : Nat} {f : Addr} {fd : FuncData} {ps : List Str} {e : Expr} {a : E} {p pz pos : Pos} (F : At X G Φ W y i 2 f fd ps k) (hg : Gl X y) (hb : L2.Binds X.K fd ps []) (hps : ps.length = 2)
    (ha : PE X e (te G Φ x W a)) (hN : X.N[j]? = some z) (hv : Vis X.env.scope z) (hd : (z == ("__debug__" : Str)) = false := by decide) (hcd : (z == ("__classdict__" : Str)) = false := by decide) (hdb : (y == ("__debug__" : Str)) = false := by decide)
    (he : starEach [e, .Name z pz] X.env = (false, eval e X.env) :: starEach [.Name z pz] X.env := by rfl) (he2 : starEach [.Name z pz] X.env = (false, eval (.Name z pz) X.env) :: starEach [] X.env := by rfl) (hpl : (backTo pos (starEach [.Name z pz] X.env)).any (·.1) = false := by rfl) :
    PE X (.Call (.Name y p) [e, .Name z pz] [] pos) (te G Φ x W (.callB i a j false)) := by
  refine ⟨fun pins s σ H Q I ⟨m, sl, h, r, q⟩ => ?_⟩
  rw [ev] at q
  refine wpAny_Call_Name_kw (ld_glob I hg F.mg ?_ hdb)
  have pa : PA X [e, .Name z pz] (tCons (fun σ H Q => ∃ m s h, SR m s h σ H ∧ Pst G true W m σ H Q (ev Φ x a s h).frz) (tCons (tVar j) tNil)) := pa_cons (sf_of ha) (pa_cons (pe_var hN hv hd hcd) pa_nil he2) he
  have main : ∀ (R : List V → Hp → Prop), (∀ m1 d h1 v H1 l u, SR m1 sl h1 σ H1 → Rp m1 H1 d v → norf d = true → σ[j]? = some (some (.ref l)) → l ∉ m1 → H1 l = some u → Mut (some u) → (∀ od, Rp [] (L2.upd H1 l (.frz od u)) (getT sl j).d (.ref l)) →
      Pst G true W m1 σ H1 Q ((lent (Φ i [d, (getT sl j).d] [])).bind fun t _ => .ok t h1) → R [v, .ref l] H1) → tCons (fun σ H Q => ∃ m s h, SR m s h σ H ∧ Pst G true W m σ H Q (ev Φ x a s h).frz) (tCons (tVar j) tNil) σ H R := fun R hR => by
    refine ⟨m, sl, h, r, ?_⟩
    cases ea : ev Φ x a sl h with
    | bad w => rw [ea] at q; exact q
    | exc cc xs h' => rw [ea] at q; exact q
    | ok t h1 =>
      rw [ea] at q
      intro m1 v H1 y1 rh1 rt own
      have q := Pst.from (show Pst G true W m σ H Q (if norf t.d && norfT (getT sl j) then (lent (Φ i [t.d, (getT sl j).d] [])).bind fun t _ => .ok t h1 else .bad "callB") from q) y1 rh1
      split at q
      · rename_i hf
        rw [Bool.and_eq_true] at hf
        have r1 := r.stay y1 rh1
        obtain ⟨l, u, es, hl, eu, mu, hlent⟩ := own_lent r1 rfl hf.2
        exact ⟨_, es, hR m1 t.d h1 v H1 l u r1 rt hf.1 es hl eu mu hlent q⟩
      · exact q.elim
  refine PySem.W.callWith_K (h₀ := X.base) I.ok.mod.kin F.kp (thn (pa.run pos pins s σ H (fun vs H1 => ∃ m1 d h1 v l u, vs = [v, .ref l] ∧ SR m1 sl h1 σ H1 ∧ Rp m1 H1 d v ∧ norf d = true ∧ l ∉ m1 ∧ H1 l = some u ∧ Mut (some u) ∧ (∀ od, Rp [] (L2.upd H1 l (.frz od u)) (getT sl j).d (.ref l)) ∧
      Pst G true W m1 σ H1 Q ((lent (Φ i [d, (getT sl j).d] [])).bind fun t _ => .ok t h1)) I (main _ fun m1 d h1 v H1 l u a1 a2 a3 a4 a5 a6 a7 a8 a9 => ⟨m1, d, h1, v, l, u, rfl, a1, a2, a3, a5, a6, a7, a8, a9⟩)) fun us s1 ⟨vs, H1, I1, rv, q3⟩ => ⟨I1.kIn, ?_⟩) he hpl
  obtain ⟨m1, d, h1, v, l, u, rfl, r1, rd, nf, hl, eu, mu, hlent, q4⟩ := q3
  obtain ⟨t, h', et, ht, q5⟩ := lent_ok q4
  obtain ⟨od, I2⟩ := I1.lock eu mu
  have hn := I1.nofrz eu mu
  have spec : spF G Φ i 2 [v, .ref l] (L2.upd H1 l (.frz od u)) (fun w H2 => H2 l = some (.frz od u) ∧ Q w (L2.upd H2 l u)) (WE W0 σ) := by
    refine ⟨rfl, [], [], [d, (getT sl j).d], rpH_nil, ⟨v, _, rfl, Rp.bare d v nf (Rp.per (per_lock (h := h1) mu eu) d v rd), .ref l, [], rfl, hlent od, rfl⟩, ?_⟩
    rw [et]
    intro m2 w H2 y2 rh2 rt2 own2
    exact lent_back r1.hp hl eu mu ht q5 y2 rt2 own2
  have b := hb s1 us I2.kIn (by rw [List.append_nil, ← rv.length, hps]; rfl)
  rw [List.append_nil] at b
  refine wpAny_mono (wpAny_call (run_fnM (W := W0) (us := us) F.ok F.room takes0 I2 b rv spec)) (fun w s2 ⟨v2, H2, I3, rv2, e2, q2⟩ => ⟨v2, _, I3.unlock e2 hn, rv2, q2⟩) fun _ _ z => z
/-- f(e, own): the slot's own thing is lent -/
theorem sh_lend {ds : List Def} {y z : Str} {n i j : Nat} {params : Arguments} {body : List Stmt} {scope : Scope} {p1 p2 : Str} {e : Expr} {a : E} {p pz pos : Pos} (F : Has X.prog X.w X.K X.mg X.base G ds n y params body scope [] [] i [p1, p2]) (hr : Rm (3 * n + 2) X.A) (hg : Gl X y)
    (hb : ∀ (kV doc pm : Value) (an : Option Addr) (cdv ct : Value) (us : List Value), us.length = [p1, p2].length → bindArgs (PySem.W.fnOf y y params body scope .none kV doc pm an cdv ct) ⟨us, []⟩ = pure ([p1, p2].zip us))
    (ha : PE X e (te G (runs ds n) x W a)) (hN : X.N[j]? = some z := by rfl) (hv : Vis X.env.scope z := by first | exact Or.inl rfl | exact Or.inr (Or.inl rfl) | exact Or.inr (Or.inr rfl)) (hd : (z == ("__debug__" : Str)) = false := by decide) (hcd : (z == ("__classdict__" : Str)) = false := by decide)
    (hdb : (y == ("__debug__" : Str)) = false := by decide) (he : starEach [e, .Name z pz] X.env = (false, eval e X.env) :: starEach [.Name z pz] X.env := by rfl) (he2 : starEach [.Name z pz] X.env = (false, eval (.Name z pz) X.env) :: starEach [] X.env := by rfl)
    (hpl : (backTo pos (starEach [.Name z pz] X.env)).any (·.1) = false := by rfl) : PE X (.Call (.Name y p) [e, .Name z pz] [] pos) (te G (runs ds n) x W (.callB i a j false)) := by
  obtain ⟨f, fd, hF, hm, ok⟩ := F.ex
  exact se_callB ⟨ok, hr, hm, hF.kp⟩ hg (hF.bindsN hb) rfl ha hN hv hd hcd hdb he he2 hpl
end
end Ma
set_option maxHeartbeats 4000000
/-! Three names at once; defaults and keywords of a def that stands under its name. -/
namespace Ma
open PySem PySem.Spec L2
variable [TB]
section
variable {G : GC} {Φ : Cal} {x : List D} {W : WX} {X : Cx} {m0 m m' : List Addr} {σ : L2.St} {H0 H H' : Hp} {Q Q' : VK}
/-- a, b, c = x, y, z, each kept as data -/
theorem ss_par3 {i j l : Nat} {y1 y2 y3 : Str} {e1 e2 e3 : Expr} {a b c : E} {p1 p2 p3 pt pos : Pos} {kt k2 pt2} (hc : X.calm = true) (hN : X.N.Nodup) (hi : X.N[i]? = some y1) (hj : X.N[j]? = some y2) (hl : X.N[l]? = some y3) (hij : i ≠ j) (hil : i ≠ l) (hjl : j ≠ l)
    (h1 : X.env.scope.names.lookup y1 = some .local) (h2 : X.env.scope.names.lookup y2 = some .local) (h3 : X.env.scope.names.lookup y3 = some .local) (ha : PE X e1 (te G Φ x W a)) (hb : PE X e2 (te G Φ x W b)) (hc3 : PE X e3 (te G Φ x W c))
    (hw : swappedStores [.Tuple [.Name y1 p1, .Name y2 p2, .Name y3 p3] kt pt] (.Tuple [e1, e2, e3] k2 pt2) X.env = pure (some [y1, y2, y3]))
    (hs : swapsWithSole [.Tuple [.Name y1 p1, .Name y2 p2, .Name y3 p3] kt pt] (.Tuple [e1, e2, e3] k2 pt2) pos.line X.env = pure false := by rfl)
    (s1 : starEach [e1, e2, e3] X.env = (false, eval e1 X.env) :: starEach [e2, e3] X.env := by rfl) (s2 : starEach [e2, e3] X.env = (false, eval e2 X.env) :: starEach [e3] X.env := by rfl) (s3 : starEach [e3] X.env = (false, eval e3 X.env) :: starEach [] X.env := by rfl) :
    PS X (.Assign [.Tuple [.Name y1 p1, .Name y2 p2, .Name y3 p3] kt pt] (.Tuple [e1, e2, e3] k2 pt2) pos) (ts G Φ x W m0 H0 (.par [(i, false), (j, false), (l, false)] [a, b, c])) := by
  refine PSimp (L2.ps_par3 hc hN hi hj hl hij hil hjl h1 h2 h3 (pa_cons (sf_of ha) (pa_cons (sf_of hb) (pa_cons (sf_of hc3) pa_nil s3) s2) s1) hw hs) ?_
  rintro D σ H ⟨m, s, h, q, p⟩
  rw [ex, parGo] at p
  refine ⟨m, s, h, q.sr, PstS.goz q p ?_⟩
  intro m1 d1 h1 v1 H1 q1 _ r1 p1
  rw [parGo] at p1
  refine ⟨m1, s, h1, q1.sr, PstS.goz q1 p1 ?_⟩
  intro m2 d2 h2 v2 H2 q2 y2 r2 p2
  rw [parGo] at p2
  refine ⟨m2, s, h2, q2.sr, PstS.goz q2 p2 ?_⟩
  intro m3 d3 h3 v3 H3 q3 y3 r3 p3
  rw [parGo] at p3
  have up1 : Rp m3 H3 d1 v1 := Rp.per ((y2.comp q2.sr.hp y3).per q1.sr.hp) _ _ r1
  have up2 : Rp m3 H3 d2 v2 := Rp.per (y3.per q2.sr.hp) _ _ r2
  have z1 := q3.set (i := i) (t := .fz d1) up1 fun o => nomatch o
  have z2 := z1.set (i := j) (t := .fz d2) up2 fun o => nomatch o
  have z3 := z2.set (i := l) (t := .fz d3) r3 fun o => nomatch o
  exact ⟨v1, v2, v3, rfl, p3 m3 _ H3 z3 Per.refl⟩
end
section
variable {G : GC} {x : List D} {W : WX} {X : Cx} {ds : List Def}
/-- f(e, ..), the parameters by name alone left to their defaults -/
theorem sh_dflt {y : Str} {n i : Nat} {params : Arguments} {body : List Stmt} {scope : Scope} {kws : List (Str × V)} {dd : List D} {ps : List Str} {e : Expr} {es : List Expr} {a b : E} {p pos : Pos} (F : Has X.prog X.w X.K X.mg X.base G ds n y params body scope [] kws i ps) (hr : Rm (3 * n + 2) X.A) (hg : Gl X y) (tk : Takes X W)
    (hk : kws ≠ []) (hD : ∀ m H, Rps m H dd (kws.map (·.2))) (k : Nat) (hl : k + kws.length = ps.length)
    (hb : ∀ (D : Addr) (doc pm : Value) (an : Option Addr) (cdv ct : Value) (us ks : List Value), us.length = k → ks.length = kws.length →
      KwChain D ((kws.map (·.1)).zip ks) (bindArgs (PySem.W.fnOf y y params body scope .none (.ref D) doc pm an cdv ct) ⟨us, []⟩) (ps.zip (us ++ ks)))
    (ha : PA X (e :: es) (ta G (runs ds n) x W a)) (hrow : isRow a = true) (hn : rowN a + dd.length = ps.length) (hE : b = rowCat a (litRow dd)) (hdb : (y == ("__debug__" : Str)) = false := by decide)
    (he : starEach (e :: es) X.env = (false, eval e X.env) :: starEach es X.env := by rfl) (hpl : (backTo pos (starEach es X.env)).any (·.1) = false := by rfl) :
    PE X (.Call (.Name y p) (e :: es) [] pos) (te G (runs ds n) x W (.call i b)) := by
  obtain ⟨f, fd, hF, hm, ok⟩ := F.ex
  obtain ⟨us0, hv, hB⟩ := hF.binds0 k hk hl hb
  exact se_callD ⟨ok, hr, hm, hF.kp⟩ hg tk hB hv hD rfl ha hrow hn hE hdb he hpl
/-- f(e, .., k = v, ..), every parameter given, in their order -/
theorem sh_kw {y : Str} {n i : Nat} {params : Arguments} {body : List Stmt} {scope : Scope} {kws : List (Str × V)} {ps ks : List Str} {e : Expr} {es : List Expr} {kw : List Keyword} {a b c : E} {p pos : Pos} (F : Has X.prog X.w X.K X.mg X.base G ds n y params body scope [] kws i ps) (hr : Rm (3 * n + 2) X.A) (hg : Gl X y) (tk : Takes X W)
    (k : Nat) (hl : k + ks.length = ps.length)
    (hb : ∀ (kV doc pm : Value) (an : Option Addr) (cdv ct : Value) (us ws : List Value), us.length = k → ws.length = ks.length → bindArgs (PySem.W.fnOf y y params body scope .none kV doc pm an cdv ct) ⟨us, ks.zip ws⟩ = pure (ps.zip (us ++ ws)))
    (ha : PA X (e :: es) (ta G (runs ds n) x W a)) (hkw : PK X kw (ta G (runs ds n) x W b)) (r1 : isRow a = true) (r2 : isRow b = true) (n1 : rowN a = k) (n2 : rowN b = ks.length) (hE : c = rowCat a b)
    (hall : (backToKw pos (keywordEach kw X.env)).all (·.1.isSome) = true := by rfl) (hks : (backToKw pos (keywordEach kw X.env)).filterMap (·.1) = ks := by rfl)
    (hdb : (y == ("__debug__" : Str)) = false := by decide) (he : starEach (e :: es) X.env = (false, eval e X.env) :: starEach es X.env := by rfl)
    (hpl : ((backTo pos (starEach (e :: es) X.env)).any (·.1) || (backToKw pos (keywordEach kw X.env)).any (·.1.isNone)) = false := by rfl) :
    PE X (.Call (.Name y p) (e :: es) kw pos) (te G (runs ds n) x W (.call i c)) := by
  obtain ⟨f, fd, hF, hm, ok⟩ := F.ex
  obtain ⟨oc, od, dV, kV, doc, pm, an, cdv, ct, osl, rfl, _, _, hD, _⟩ := hF.ex
  obtain rfl : dV = .none := by
    rcases hD with ⟨_, z⟩ | ⟨z, _⟩
    · exact z
    · exact absurd rfl z
  have B : KBn X.K (PySem.W.fnOf y y params body scope .none kV doc pm an cdv ct) ps k ks (fun us ws => us ++ ws) (fun vs zs => vs ++ zs) :=
    ⟨fun s us ws _ l1 l2 => .of_eq (hb kV doc pm an cdv ct us ws l1 l2), fun r q => r.append q⟩
  exact se_callK ⟨ok, hr, hm, hF.kp⟩ hg tk B (fun _ _ => rfl) ha hkw r1 r2 n1 n2 hl hE hall hks hdb he hpl
end
end Ma
set_option maxHeartbeats 4000000
/-! sorted: the machine's row is the library's. -/
namespace Ma
open PySem PySem.Spec L2
variable [TB]
/-! ### the machine's row in order is the one row in order -/
theorem ins_perm (x : D) : ∀ ys : List D, (insB x ys).Perm (x :: ys)
  | [] => .refl _
  | y :: r => by
    unfold insB
    split
    · exact ((ins_perm x r).cons y).trans (.swap x y r)
    · exact .refl _
theorem sort_perm : ∀ xs : List D, (sortB xs).Perm xs
  | [] => .refl _
  | x :: r => (ins_perm x (sortB r)).trans ((sort_perm r).cons x)
/-- no later one is less, where less is the library's -/
def Le (a b : D) : Prop := PySem.W.dataLt (pyD b) (pyD a) = false
theorem le_trans' {a b c : D} (h1 : Le a b) (h2 : Le b c) : Le a c := by
  have t := (PySem.W.sortLe_total (PyProof.Rows.listOrd PyProof.Rows.itemOrd) false fun d : D => PySem.W.keyToks (pyD d)).trans a b c
  have e : ∀ p q : D, (PySem.W.sortLe (PyProof.Rows.listOrd PyProof.Rows.itemOrd) false (fun d : D => PySem.W.keyToks (pyD d)) p q = true) = Le p q := fun p q => by
    show ((!PySem.W.dataLt (pyD q) (pyD p)) = true) = (PySem.W.dataLt (pyD q) (pyD p) = false)
    cases PySem.W.dataLt (pyD q) (pyD p) <;> simp
  rw [e, e, e] at t
  exact t h1 h2
theorem le_of_lt {a b : D} (h : PySem.W.dataLt (pyD a) (pyD b) = true) : Le a b := by
  have t := (PySem.W.sortLe_total (PyProof.Rows.listOrd PyProof.Rows.itemOrd) false fun d : D => PySem.W.keyToks (pyD d)).total a b
  have e : ∀ p q : D, (PySem.W.sortLe (PyProof.Rows.listOrd PyProof.Rows.itemOrd) false (fun d : D => PySem.W.keyToks (pyD d)) p q = true) = Le p q := fun p q => by
    show ((!PySem.W.dataLt (pyD q) (pyD p)) = true) = (PySem.W.dataLt (pyD q) (pyD p) = false)
    cases PySem.W.dataLt (pyD q) (pyD p) <;> simp
  rw [e, e] at t
  rcases t with t | t
  · exact t
  · unfold Le at t; rw [h] at t; cases t
/-- members of one row: flat, of one kind -/
structure Kin (xs : List D) : Prop where
  flat_ : ∀ a ∈ xs, flat a = true
  kind : ∀ a ∈ xs, ∀ b ∈ xs, alk a b = true
theorem Kin.lt {xs : List D} (k : Kin xs) {a b : D} (ha : a ∈ xs) (hb : b ∈ xs) : PySem.W.dataLt (pyD a) (pyD b) = dltB a b := dlt_py a b 60 60 (k.flat_ a ha) (k.flat_ b hb) (k.kind a ha b hb)
theorem ins_le {xs : List D} (k : Kin xs) {x : D} (hx : x ∈ xs) : ∀ ys : List D, (∀ y ∈ ys, y ∈ xs) → ys.Pairwise Le → (insB x ys).Pairwise Le
  | [], _, _ => List.pairwise_singleton _ _
  | y :: r, hm, hp => by
    have hy := hm y (List.mem_cons_self ..)
    obtain ⟨h1, h2⟩ := List.pairwise_cons.mp hp
    unfold insB
    split
    · rename_i c
      have lt : Le y x := le_of_lt (by rw [k.lt hy hx]; exact c)
      refine List.pairwise_cons.mpr ⟨fun z hz => ?_, ins_le k hx r (fun z hz => hm z (List.mem_cons_of_mem _ hz)) h2⟩
      rcases List.mem_cons.mp ((ins_perm x r).mem_iff.mp hz) with e | e
      · rw [e]; exact lt
      · exact h1 z e
    · rename_i c
      have le : Le x y := by unfold Le; rw [k.lt hy hx]; simpa using c
      exact List.pairwise_cons.mpr ⟨fun z hz => by
        rcases List.mem_cons.mp hz with e | e
        · rw [e]; exact le
        · exact le_trans' le (h1 z e), hp⟩
theorem sort_le {xs : List D} (k : Kin xs) : ∀ ys : List D, (∀ y ∈ ys, y ∈ xs) → (sortB ys).Pairwise Le
  | [], _ => .nil
  | y :: r, hm => ins_le k (hm y (List.mem_cons_self ..)) (sortB r) (fun z hz => hm z (List.mem_cons_of_mem _ ((sort_perm r).mem_iff.mp hz))) (sort_le k r fun z hz => hm z (List.mem_cons_of_mem _ hz))
end Ma
set_option maxHeartbeats 4000000
/-! sorted, called. -/
namespace Ma
open PySem PySem.Spec L2
variable [TB]
mutual
theorem deq_same : ∀ (a b : D), alk a b = true → deq a b = true → a = b
  | .non, b, h, _ => by cases b <;> first | rfl | cases h
  | .bl x, b, h, e => by
    cases b with
    | bl y => rw [deq] at e; rw [eq_of_beq e]
    | _ => cases h
  | .int x, b, h, e => by
    cases b with
    | int y => rw [deq] at e; rw [eq_of_beq e]
    | _ => cases h
  | .str x, b, h, e => by
    cases b with
    | str y => rw [deq] at e; rw [eq_of_beq e]
    | _ => cases h
  | .tup x, b, h, e => by
    cases b with
    | tup y => rw [deq] at e; rw [alk] at h; rw [deqs_same x y h e]
    | _ => cases h
  | .lst x, b, h, e => by
    cases b with
    | lst y => rw [deq] at e; rw [alk] at h; rw [deqs_same x y h e]
    | _ => cases h
  | .dct _, b, h, _ => by cases b <;> cases h
  | .kst _, b, h, _ => by cases b <;> cases h
  | .ref _, b, h, _ => by cases b <;> cases h
  | .clo _ _, b, h, _ => by cases b <;> cases h
theorem deqs_same : ∀ (a b : List D), alks a b = true → deqs a b = true → a = b
  | [], [], _, _ => rfl
  | [], _ :: _, _, e => by rw [deqs] at e <;> first | cases e | (intros; contradiction)
  | _ :: _, [], _, e => by rw [deqs] at e <;> first | cases e | (intros; contradiction)
  | a :: r, b :: q, h, e => by
    rw [deqs, Bool.and_eq_true] at e
    rw [alks, Bool.and_eq_true] at h
    rw [deq_same a b h.1 e.1, deqs_same r q h.2 e.2]
end
mutual
/-- neither is less: the same -/
theorem tie_same : ∀ (a b : D), alk a b = true → alk b a = true → dltB a b = false → dltB b a = false → a = b
  | .non, b, h, _, _, _ => by cases b <;> first | rfl | cases h
  | .bl x, b, h, _, e, f => by
    cases b with
    | bl y => cases x <;> cases y <;> first | rfl | (simp [dltB] at e f)
    | _ => cases h
  | .int x, b, h, _, e, f => by
    cases b with
    | int y => rw [dltB, decide_eq_false_iff_not] at e f; rw [show x = y by omega]
    | _ => cases h
  | .str x, b, h, _, e, f => by
    cases b with
    | str y => rw [dltB, decide_eq_false_iff_not] at e f; rw [List.le_antisymm (as := x) (bs := y) f e]
    | _ => cases h
  | .tup x, b, h, h', e, f => by
    cases b with
    | tup y => rw [dltB] at e f; rw [alk] at h h'; rw [ties_same x y h h' e f]
    | _ => cases h
  | .lst x, b, h, h', e, f => by
    cases b with
    | lst y => rw [dltB] at e f; rw [alk] at h h'; rw [ties_same x y h h' e f]
    | _ => cases h
  | .dct _, b, h, _, _, _ => by cases b <;> cases h
  | .kst _, b, h, _, _, _ => by cases b <;> cases h
  | .ref _, b, h, _, _, _ => by cases b <;> cases h
  | .clo _ _, b, h, _, _, _ => by cases b <;> cases h
theorem ties_same : ∀ (a b : List D), alks a b = true → alks b a = true → dltBs a b = false → dltBs b a = false → a = b
  | [], [], _, _, _, _ => rfl
  | [], _ :: _, _, _, e, _ => by rw [dltBs] at e; cases e
  | _ :: _, [], _, _, _, f => by rw [dltBs] at f; cases f
  | a :: r, b :: q, h, h', e, f => by
    rw [alks, Bool.and_eq_true] at h h'
    have hab : a = b := by
      by_cases c : deq a b = true
      · exact deq_same a b h.1 c
      · by_cases c' : deq b a = true
        · exact (deq_same b a h'.1 c').symm
        · rw [dltBs, if_neg c] at e
          rw [dltBs, if_neg c'] at f
          exact tie_same a b h.1 h'.1 e f
    subst hab
    have t : dltBs r q = false ∨ deq a a = false := by
      by_cases c : deq a a = true
      · rw [dltBs, if_pos c] at e; exact .inl e
      · exact .inr (by simpa using c)
    rcases t with t | t
    · have c : deq a a = true ∨ deq a a = false := by cases deq a a <;> simp
      rcases c with c | c
      · rw [dltBs, if_pos c] at f
        rw [ties_same r q h.2 h'.2 t f]
      · exact absurd (deq_refl' a h.1) (by rw [c]; simp)
    · exact absurd (deq_refl' a h.1) (by rw [t]; simp)
theorem deq_refl' : ∀ (a : D), alk a a = true → deq a a = true
  | .non, _ => rfl
  | .bl x, _ => by rw [deq]; exact beq_self_eq_true x
  | .int x, _ => by rw [deq]; exact beq_self_eq_true x
  | .str x, _ => by rw [deq]; exact beq_self_eq_true x
  | .tup x, h => by rw [alk] at h; rw [deq]; exact deqs_refl' x h
  | .lst x, h => by rw [alk] at h; rw [deq]; exact deqs_refl' x h
  | .dct _, h => by cases h
  | .kst _, h => by cases h
  | .ref _, h => by cases h
  | .clo _ _, h => by cases h
theorem deqs_refl' : ∀ (a : List D), alks a a = true → deqs a a = true
  | [], _ => rfl
  | a :: r, h => by
    rw [alks, Bool.and_eq_true] at h
    rw [deqs, deq_refl' a h.1, deqs_refl' r h.2]; rfl
end
/-- the library's row in order is the machine's -/
theorem merge_sortB {ds : List D} (k : Kin ds) : ds.mergeSort (PySem.W.dataLe false pyD) = sortB ds := by
  have hp := (List.mergeSort_perm ds (PySem.W.dataLe false pyD)).trans (sort_perm ds).symm
  refine List.Perm.eq_of_pairwise (le := Le) (fun a b ha hb x y => ?_) ?_ (sort_le k ds fun _ h => h) hp
  · have ma : a ∈ ds := (List.mergeSort_perm ds _).mem_iff.mp ha
    have mb : b ∈ ds := (sort_perm ds).mem_iff.mp hb
    unfold Le at x y
    rw [k.lt mb ma] at x
    rw [k.lt ma mb] at y
    exact tie_same a b (k.kind a ma b mb) (k.kind b mb a ma) y x
  · refine (PySem.W.sort_pairwise (PySem.W.sortLe_total (PyProof.Rows.listOrd PyProof.Rows.itemOrd) false fun d : D => PySem.W.keyToks (pyD d)) ds).imp fun {a b} t => ?_
    have u : (!PySem.W.dataLt (pyD b) (pyD a)) = true := t
    show PySem.W.dataLt (pyD b) (pyD a) = false
    simpa using u
section
variable {X : Cx}
/-- a row on three levels -/
theorem rows3 {m : List Addr} {H : Hp} : ∀ {ds : List D} {ws : List V} {us : List Value}, Rps m H ds ws → Vals ws us → PySem.W.EachIs (fun u (p : D × V) => RelV p.2 u ∧ Rp m H p.1 p.2) us (ds.zip ws)
  | [], _, _, r, w => by
    have e : _ = [] := r
    subst e
    cases w
    exact .nil
  | d :: ds, _, _, ⟨v, ws, e, r1, r2⟩, w => by
    subst e
    cases w with
    | cons w1 w2 => exact .cons ⟨w1, r1⟩ (rows3 r2 w2)
theorem rows3_back {m : List Addr} {H : Hp} : ∀ {zs : List (D × V)} {us : List Value}, PySem.W.EachIs (fun u (p : D × V) => RelV p.2 u ∧ Rp m H p.1 p.2) us zs → Rps m H (zs.map (·.1)) (zs.map (·.2)) ∧ Vals (zs.map (·.2)) us
  | [], _, .nil => ⟨rfl, .nil⟩
  | _ :: _, _, .cons h t => ⟨⟨_, _, rfl, h.2, (rows3_back t).1⟩, .cons h.1 (rows3_back t).2⟩
theorem okSort_kin {ds : List D} (h : okSort ds = true) : Kin ds ∧ ds.length ≤ sizeLine ∧ PySem.W.AllAlike (ds.map pyD) ∧ PySem.W.Sortable (ds.map pyD) := by
  unfold okSort okN at h
  rw [Bool.and_eq_true, Bool.and_eq_true, Bool.and_eq_true] at h
  obtain ⟨h1, h2, h3, h4⟩ := h
  have k : Kin ds := ⟨fun a ha => List.all_eq_true.mp h2 a ha, fun a ha b hb => fitAll_alk h3 a ha b hb⟩
  refine ⟨k, by rw [sizeLine_eq]; exact Nat.le_of_ble_eq_true h1, ?_, ?_⟩
  · intro d hd d' hd'
    obtain ⟨a, ha, rfl⟩ := List.mem_map.mp hd
    obtain ⟨b, hb, rfl⟩ := List.mem_map.mp hd'
    rw [alk_py a b 60 60 (k.flat_ a ha) (k.flat_ b hb)]
    exact k.kind a ha b hb
  · rcases Bool.or_eq_true_iff.mp h4 with h | h
    · refine .inl fun d hd => ?_
      obtain ⟨a, ha, rfl⟩ := List.mem_map.mp hd
      have t := List.all_eq_true.mp h a ha
      cases a with
      | tup xs => cases xs with
        | nil => cases t
        | cons x r => exact ⟨_, _, by rw [pyD, pyDs]⟩
      | _ => cases t
    · refine .inr fun d hd => ?_
      obtain ⟨a, ha, rfl⟩ := List.mem_map.mp hd
      have t := List.all_eq_true.mp h a ha
      have f := k.flat_ a ha
      cases a with
      | tup xs => cases t
      | non => cases t
      | bl _ => exact ⟨fun z => PyData.noConfusion z, fun _ z => PyData.noConfusion z⟩
      | int _ => exact ⟨fun z => PyData.noConfusion z, fun _ z => PyData.noConfusion z⟩
      | str _ => exact ⟨fun z => PyData.noConfusion z, fun _ z => PyData.noConfusion z⟩
      | lst xs => rw [pyD]; exact ⟨fun z => PyData.noConfusion z, fun _ z => PyData.noConfusion z⟩
      | _ => simp [flat, flatN] at f
theorem ca_sorted (hu : X.A.units + 64 < cLine) : CaM X (.builtin "sorted") (b1 .sorted) := by
  intro pins s σ H vs us Q I rv ⟨m, h, t, t', v, e, rh, rt, e2, p⟩
  subst e
  obtain ⟨xs, e3, rfl⟩ := Option.map_eq_some_iff.mp (show ((itL t).bind isort).map mkL = some t' from e2)
  obtain ⟨ds, ei, e4⟩ := Option.bind_eq_some_iff.mp e3
  obtain ⟨a, ws, rfl, hs, r⟩ := itL_rd rt ei
  unfold isort at e4
  split at e4
  · rename_i ok
    cases e4
    obtain ⟨k, hz, hal, hk⟩ := okSort_kin ok
    obtain ⟨u, rfl, ru⟩ := vals1 rv
    cases ru
    obtain ⟨its, r', pl, hz'⟩ := I.list (.inl hs)
    have hlen : ds.length = ws.length := (Rps.len r).symm
    have hmap : (ds.zip ws).map (fun p : D × V => pyD p.1) = ds.map pyD := by
      rw [show (fun p : D × V => pyD p.1) = pyD ∘ Prod.fst from rfl, ← List.map_map, List.map_fst_zip (by omega)]
    have mem : ∀ p ∈ ds.zip ws, p.1 ∈ ds := fun p hp => (List.of_mem_zip hp).1
    have er : PySem.W.EachIs (fun u (p : D × V) => ∃ as, Reads s.heap u (pyD p.1) as) its (ds.zip ws) :=
      (PySem.W.each_mem (rows3 r r')).mono fun u p q => Dp.reads I (pyD p.1) p.2 u (Rp.dp (K := X.K) p.1 p.2 60 (k.flat_ _ (mem p q.2)) q.1.2) q.1.1
    refine PySem.W.sorted_data (enc := fun p : D × V => pyD p.1) pl.isList (rows3 r r') er (by rw [hmap]; exact hal) (by rw [hmap]; exact hk) (by rw [List.length_zip]; omega) (fun p hp => ?_) fun out ho eo => ?_
    · have := (can_flat p.1 60 (k.flat_ _ (mem p hp))).2
      omega
    · have ez : ((ds.zip ws).mergeSort (PySem.W.dataLe false fun p : D × V => pyD p.1)).map (·.1) = sortB ds := by
        rw [List.map_mergeSort (r := PySem.W.dataLe false fun p : D × V => pyD p.1) (s := PySem.W.dataLe false pyD) (f := fun p : D × V => p.1) (fun a _ b _ => rfl), show (ds.zip ws).map (fun p : D × V => p.1) = ds from List.map_fst_zip (by omega), merge_sortB k]
      obtain ⟨b1, b2⟩ := rows3_back eo
      rw [ez] at b1
      obtain ⟨c, hc⟩ := PyProof.Rows.sortedAll_at s.heap its out.toArray
      have fr : H (s.heap.objs.size + 1) = none := I.hok.fresh (Nat.le_succ _)
      refine ⟨.ref (s.heap.objs.size + 1), _, I.laid (t' := s.toks) (fun _ _ => PyProof.Rows.sortedAll_old) (Nat.le_succ _) (show ObjOk X.prog X.w _ _ _ (.lst _) from ⟨?_, out, c, b2, hc⟩), rfl, p.lst rh fr b1⟩
      rw [b2.length, ho, List.length_zip]; omega
  · cases e4
end
end Ma
set_option maxHeartbeats 4000000
/-! enumerate over a tuple. -/
namespace Ma
section
open PySem PySem.Spec
/-- enumerate(v) makes its record behind v's iterator -/
theorem enum_one {v : Value} {o : Obj} {Hh : Heap → Prop} (B : Begins v o Hh) : Meets (Builtin.«enumerate.__new__» ⟨[.type "enumerate", v], []⟩) fun _ R st => Hh st.heap ∧
    R (.ok (.ret (.ref (st.heap.push o).objs.size))) { st with heap := (st.heap.push o).push { cls := .type "enumerate", data := .fields #[.none, .bool false, .ref st.heap.objs.size, rawInt 0, .none, .none] } } := by
  refine .of_wp fun prog w A R st hyp => ?_
  rcases st with ⟨hp, gs, dr, tk, os⟩
  rcases hyp with ⟨here, done⟩
  have sub := sub_enumerate
  have begin_ : ∀ {A' : Around} {E : Value → Shared → Prop} {Q : Value → Shared → Prop}, Q (.ref hp.objs.size) ⟨hp.push o, gs, dr, tk, os⟩ → wpAny (model prog w) A' (pyIter v) Q E ⟨hp, gs, dr, tk, os⟩ := fun q => B.iter prog w _ _ ⟨hp, gs, dr, tk, os⟩ _ here q
  wp_walk using begin_
  refine wpAny_stack_any fun _ => wpAny_pure ?_
  split
  all_goals try (rename_i c _ _ _ _ _; generalize (c == Value.type "enumerate") = short; cases short)
  all_goals (wp_walk using begin_; exact ⟨_, rfl, done⟩)
/-- enumerate(v), called -/
theorem call_enum {prog : Program} {w : World} {A : Around} {E : Value → Shared → Prop} {s : Shared} {v : Value} {o : Obj} {Hh : Heap → Prop} {Q : Value → Shared → Prop} (B : Begins v o Hh) (here : Hh s.heap)
    (q : ∀ h' : Heap, IsEnum h' (s.heap.objs.size + 1) s.heap.objs.size 0 .none → h'.get? s.heap.objs.size = some o → (∀ b u, s.heap.get? b = some u → h'.get? b = some u) → Q (.ref (s.heap.objs.size + 1)) { s with heap := h' }) :
    wpAny (model prog w) A (call (.type "enumerate") [v]) Q E s := by
  have one : (s.heap.push o).objs.size = s.heap.objs.size + 1 := Heap.size_push ..
  refine callType_new F.called_enumerate (by decide) (F.typeCall_enumerate_1 _) (F.newCall_enumerate_1 _) (fun obj => F.args_object_init_2 obj _) F.entry_enumerate_new (enum_one B) ⟨here, ?_⟩
  have rec_ : IsEnum ((s.heap.push o).push { cls := .type "enumerate", data := .fields #[.none, .bool false, .ref s.heap.objs.size, rawInt 0, .none, .none] }) (s.heap.objs.size + 1) s.heap.objs.size 0 .none := by
    rw [← one]; exact Heap.get?_push_size _ rfl
  show _ ∧ _
  rw [one]
  exact ⟨⟨_, rec_, rfl⟩, q _ rec_ (Heap.get?_push_of_some _ (Heap.get?_push_size _ B.free)) fun b u e => Heap.get?_push_of_some _ (Heap.get?_push_of_some _ e)⟩
end
section
open PySem PySem.Spec L2
variable [TB]
variable {X : Cx} {G : GC} {Φ : Cal} {x : List Ma.D} {W : WX}
/-- a row that stands: a tuple, or a locked list -/
def Row : Bool → Hp → Addr → List V → Prop
  | true, H, a, xs => H a = some (.tup xs)
  | false, H, a, xs => ∃ o, H a = some (.frz o (.lst xs))
/-- its iterator stands at i -/
def Sits : Bool → Heap → Addr → Addr → Nat → Prop
  | true, h, it, a, i => h.IsTupleIter it a i
  | false, h, it, a, i => h.IsListIter it a i
theorem Row.one {k : Bool} {H : Hp} {a : Addr} {xs ys : List V} (p : Row k H a xs) (q : Row k H a ys) : xs = ys := by
  cases k with
  | true => rw [Row] at p q; rw [p] at q; cases q; rfl
  | false => obtain ⟨o, p⟩ := p; obtain ⟨o', q⟩ := q; rw [p] at q; cases q; rfl
theorem Row.some {k : Bool} {H : Hp} {a : Addr} {xs : List V} (p : Row k H a xs) : H a ≠ none := fun z => by
  cases k with
  | true => rw [Row, z] at p; cases p
  | false => obtain ⟨o, p⟩ := p; rw [z] at p; cases p
theorem Sits.obj {k : Bool} {h : Heap} {it a : Addr} {i : Nat} (p : Sits k h it a i) : ∃ o, h.get? it = some o ∧ ∀ v, o.data ≠ .cell v := by
  cases k <;> exact let ⟨o, ho, _, hd⟩ := p; ⟨o, ho, fun v z => by rw [hd] at z; cases z⟩
theorem Sits.at_ {k : Bool} {h h' : Heap} {it a : Addr} {i : Nat} (p : Sits k h it a i) (e : ∀ o, h.get? it = some o → h'.get? it = some o) : Sits k h' it a i := by
  cases k <;> exact let ⟨o, ho, r⟩ := p; ⟨o, e o ho, r⟩
/-- what a standing row's iterator draws -/
theorem row_draws {k : Bool} {pins : List (Addr × Obj)} {σ : St} {H : Hp} {s : Shared} {a it : Addr} {xs : List V} (I : Inv X pins σ H s) (r : Row k H a xs) (ne : a ≠ it) :
    ∃ (its : List Value) (St : Nat → Heap → Prop), Vals xs its ∧ (∀ A : Around, A.handled = none → Draws X.prog X.w A it [it, a] its.toArray.size (fun i v => its.toArray[i]? = some v) St) ∧ (∀ i, Sits k s.heap it a i → St i s.heap) ∧ ∀ i h, St i h → Sits k h it a i := by
  cases k with
  | true =>
    obtain ⟨its, rv, p, _⟩ := I.tuple (.of r)
    exact ⟨its, _, rv, fun A hh => Draws.tuple hh it a ne its.toArray, fun i q => ⟨q, p⟩, fun i h q => q.1⟩
  | false =>
    obtain ⟨o, r⟩ := r
    obtain ⟨its, rv, p, _⟩ := I.list (.inl (.inr ⟨o, r⟩))
    exact ⟨its, _, rv, fun A hh => Draws.list hh it a ne its.toArray, fun i q => ⟨q, p.isList⟩, fun i h q => q.1⟩
/-- numbered items, each in a new pair -/
def ItN (k : Bool) (a : Addr) : It where
  go i H := ∃ xs, Row k H a xs ∧ i < xs.length
  yld i H v H' := ∃ xs u p, Row k H a xs ∧ xs[i]? = some u ∧ H p = none ∧ v = .ref p ∧ H' = upd H p (.tup [.int (i : Nat), u])
  stop i H := ∃ xs, Row k H a xs ∧ xs.length = i
theorem turn_num {P : Program} {w : World} {K : PySem.W.Frag} {elts : List Expr} {kk : Nat} {tpos : Pos} (k : Bool) (a e it : Addr) :
    Turn P w K (.Tuple elts kk tpos) (ItN k a) [e, it] e (fun i h => (∃ old, IsEnum h e it ((0 : Int) + (i : Nat)) old) ∧ Sits k h it a i ∧ e ≠ it) where
  mem := List.mem_cons_self ..
  obj := fun i h ⟨⟨old, he⟩, si, _⟩ b hb => by
    rcases List.mem_cons.mp hb with z | z
    · subst z; exact ⟨_, he, nofun⟩
    · rw [List.mem_singleton.mp z]; exact si.obj
  keep := fun i h h' ⟨⟨old, he⟩, si, ne⟩ st => ⟨⟨old, st e (by simp) _ he⟩, si.at_ (st it (by simp)), ne⟩
  item := by
    rintro X rfl rfl rfl calm i pins s σ H E I fp ⟨⟨old, he⟩, si, ne⟩ ⟨xs, row, lt⟩
    have ai : a ≠ it := fun z => row.some (by rw [z]; exact (fp it (by simp)).1)
    have ae : e ≠ a := fun z => row.some (by rw [← z]; exact (fp e (by simp)).1)
    obtain ⟨its, Sd, rv, dr, to_, fro⟩ := row_draws I row ai
    have len := rv.length
    have tw := WalksT.enumFrom 0 (dr X.A.in1 (I.ok.hd calm)) e ne (by simp [ne, ae]) (by simp)
    refine tw.item i s _ E (by simp; omega) ⟨⟨old, he⟩, to_ i si⟩ fun p vals h1 tk ⟨t, u, hu, ev⟩ new tup mid kept => ?_
    refine ⟨_, rfl, tw.go elts kk tpos i p { s with heap := h1, toks := tk } _ E mid fun h2 st2 kept2 => ?_⟩
    have far := tw.apart i p h1 mid
    obtain ⟨v, hv⟩ : ∃ v, xs[i]? = some v := ⟨xs[i], List.getElem?_eq_getElem lt⟩
    obtain ⟨u', hu', ru⟩ := rv.get hv
    have eu : u' = u := by
      have z : its[i]? = some u := by simpa using hu
      rw [hu'] at z; cases z; rfl
    subst eu
    have nw : ObjOk X.prog X.w (upd H p (.tup [.int (i : Nat), v])) h2 p (.tup [.int (i : Nat), v]) := by
      obtain ⟨o, ho, r⟩ := tup
      exact ⟨by show 2 ≤ sizeLine; decide, [.int (0 + (i : Int)) t, u'], .cons ⟨t, by simp⟩ (.cons ru .nil), ⟨o, kept2 p o far ho, by rw [ev] at r; exact r⟩⟩
    have I2 := I.turnedNew (t' := tk) (ch := [e, it]) (fun b o hb q => kept2 b o hb (kept b o hb q)) fp new nw
    refine ⟨.ref p, _, I2, rfl, ⟨xs, v, p, row, hv, I.hok.fresh new, rfl, rfl⟩, ⟨st2.1, fro _ _ st2.2, ne⟩, fun b hb => ?_⟩
    have old_ : b < s.heap.objs.size := by
      rcases List.mem_cons.mp hb with z | z
      · subst z; exact Heap.lt_size he
      · rw [List.mem_singleton.mp z]; obtain ⟨o, ho, _⟩ := si.obj; exact Heap.lt_size ho
    rw [upd_ne (Nat.ne_of_lt (Nat.lt_of_lt_of_le old_ new))]
    exact (fp b hb).1
  done := by
    rintro X rfl rfl rfl calm i pins s σ H E I fp ⟨⟨old, he⟩, si, ne⟩ ⟨xs, row, en⟩
    have ai : a ≠ it := fun z => row.some (by rw [z]; exact (fp it (by simp)).1)
    obtain ⟨its, Sd, rv, dr, to_, fro⟩ := row_draws I row ai
    have len := rv.length
    obtain ⟨g0, g1, g2, g3, g4, g5⟩ := fp it (by simp)
    have at_ : Sd its.toArray.size s.heap := by
      rw [show its.toArray.size = i by simp; omega]; exact to_ i si
    exact wpAny_pyNext_enum_endD (dr X.A.in1 (I.ok.hd calm)) he at_ fun h1 kept => ⟨rfl, I.turned (t' := s.toks) (fun b o hb q => kept b o hb q) g0 g1 g3 g4 g5⟩
  self := fun A i s Q E ⟨⟨_, he⟩, _⟩ q => wpAny_pyIter_enum he q
/-- enumerate(e) -/
theorem pi_num {e : Expr} {ta : TA} {p pos tpos : Pos} {elts : List Expr} {kk : Nat} (gl : Gl X "enumerate") (own : X.mg "enumerate" = none) (row : PA X [e] ta) (plain : starEach [e] X.env = [(false, eval e X.env)] := by rfl) :
    PI X (.Tuple elts kk tpos) (.Call (.Name "enumerate" p) [e] [] pos) (fun σ H R => ta σ H fun vs H1 => ∃ k a xs, vs = [.ref a] ∧ Row k H1 a xs ∧ R (ItN k a) H1) := by
  constructor
  intro pins s σ H R I go
  refine PyProof.Rows.Call_ (ld_blt I gl own PyProof.Rows.boot_enumerate (PyProof.Rows.callWith_type1 (thn (row.run pos pins s σ H _ I go) ?_) plain rfl))
  rintro us s1 ⟨vs, H1, I1, rv, k, a, xs, rfl, rw_, q⟩
  obtain ⟨u, rfl, ru⟩ := vals1 rv
  cases ru
  have last : ∀ h' : Heap, IsEnum h' (s1.heap.objs.size + 1) s1.heap.objs.size 0 .none → Sits k h' s1.heap.objs.size a 0 → (∀ b u, s1.heap.get? b = some u → h'.get? b = some u) →
      wpAny (model X.prog X.w) X.A (pyIter (.ref (s1.heap.objs.size + 1))) (PIE X pins σ (.Tuple elts kk tpos) R) X.xe { s1 with heap := h' } := fun h' en si kp =>
    wpAny_pyIter_enum en ⟨_, [s1.heap.objs.size + 1, s1.heap.objs.size], _, ItN k a, H1, rfl, I1.kept (t' := s1.toks) kp, turn_num k a _ s1.heap.objs.size, ⟨⟨.none, en⟩, si, Nat.succ_ne_self _⟩, fun b hb => by
      have le : s1.heap.objs.size ≤ b := by
        rcases List.mem_cons.mp hb with z | z
        · rw [z]; exact Nat.le_succ _
        · rw [List.mem_singleton.mp z]; exact Nat.le_refl _
      exact I1.fpOk le (I1.hok.fresh le), q⟩
  cases k with
  | true =>
    obtain ⟨its, _, tu, _⟩ := I1.tuple (.of rw_)
    exact call_enum (PySem.begins_tuple a its.toArray) tu fun h' en at_ kp => last h' en ⟨_, at_, rfl, rfl⟩ kp
  | false =>
    obtain ⟨o, lk⟩ := rw_
    obtain ⟨its, _, pl, _⟩ := I1.list (.inl (.inr ⟨o, lk⟩))
    exact call_enum (PySem.begins_list a its.toArray) pl.isList fun h' en at_ kp => last h' en ⟨_, at_, rfl, rfl⟩ kp
theorem enumD_get : ∀ (ds : List Ma.D) (j : Int) (i : Nat), (enumD j ds)[i]? = (ds[i]?).map fun d => .tup [.int (j + i), d]
  | [], j, i => rfl
  | d :: r, j, 0 => by simp [enumD]
  | d :: r, j, i + 1 => by
    rw [enumD, List.getElem?_cons_succ, List.getElem?_cons_succ, enumD_get r (j + 1) i, show j + 1 + (i : Int) = j + ((i + 1 : Nat) : Int) by omega]
theorem enumD_len : ∀ (ds : List Ma.D) (j : Int), (enumD j ds).length = ds.length
  | [], _ => rfl
  | _ :: r, j => by rw [enumD, List.length_cons, List.length_cons, enumD_len r]
theorem wk_num {S : List Addr → Hp → Prop} {ds : List Ma.D} {k : Bool} {a : Addr} (st : ∀ m2 h2 H2, S m2 H2 → RpH m2 h2 H2 → ∃ vs, Row k H2 a vs ∧ Rps m2 H2 ds vs) : Wk S (enumD 0 ds) (ItN k a) := by
  intro m2 h2 H2 here rh
  obtain ⟨vs, row, r⟩ := st m2 h2 H2 here rh
  have len := Rps.len r
  refine ⟨fun i d at_ => ?_, vs, row, by rw [enumD_len]; exact len⟩
  rw [enumD_get] at at_
  obtain ⟨d0, e0, rfl⟩ := Option.map_eq_some_iff.mp at_
  obtain ⟨v, ev, rv⟩ := r.get e0
  refine ⟨⟨vs, row, (List.getElem?_eq_some_iff.mp ev).1⟩, ?_⟩
  rintro w H3 ⟨ws, u, p, row', eu, new, rfl, rfl⟩
  cases row.one row'
  rw [ev] at eu
  cases eu
  exact ⟨ex_new new, rh.new new, p, _, rfl, upd_same, .int (i : Nat), [v], rfl, by rw [Rp]; simp, v, [], rfl, Rp.per ((ex_new new).per rh) _ _ rv, rfl⟩
/-- what has items is a row that stands, or is made one -/
theorem row_of {m : List Addr} {h : RH} {H H0 : Hp} {m0 : List Addr} {t : T} {v : V} {ds : List Ma.D} {Q : VK} (y : Ex m0 H0 m H) (rh : RpH m h H) (rt : RpT m H t v) (own : t.own = true → ∀ a, v = .ref a → a ∉ m ∧ (true = true → H0 a = none)) (ei : items t = some ds)
    (q : ∀ k a vs H1, v = .ref a → Ex m0 H0 m H1 → RpH m h H1 → Row k H1 a vs → Rps m H1 ds vs → Q v H1) : Frz Q v H := by
  cases t with
  | fz d =>
    cases d with
    | tup es => cases ei; obtain ⟨b, vs, rfl, eb, rb⟩ := rt; exact .inl (q true b vs H rfl y rh eb rb)
    | lst es => cases ei; obtain ⟨b, o, vs, rfl, eb, rb⟩ := rt; exact .inl (q false b vs H rfl y rh ⟨o, eb⟩ rb)
    | _ => cases ei
  | oL k rs =>
    cases ei
    obtain ⟨b, vs, rfl, eb, rb, _⟩ := rt
    refine .inr ⟨b, .lst vs, rfl, eb, trivial, fun od => q false b vs _ rfl (y.lock ((own rfl b rfl).2 rfl)) (rh.lock trivial (fun _ z => HO.noConfusion z) eb (own rfl b rfl).1) ⟨od, upd_same⟩ (Rps.per (per_lock (h := h) (u := .lst vs) trivial eb) _ _ rb)⟩
  | it _ => exact rt.elim
  | _ => cases ei
theorem Row.per {m m' : List Addr} {H H' : Hp} {k : Bool} {a : Addr} {vs : List V} (p : Per m H m' H') (r : Row k H a vs) : Row k H' a vs := by
  cases k with
  | true => exact p.tup a vs r
  | false => obtain ⟨o, r⟩ := r; exact ⟨o, p.frz a o _ r⟩
/-- enumerate(e), walked -/
theorem sw_num {py : Expr} {a : E} {p pos tpos : Pos} {elts : List Expr} {kk : Nat} (nv : isVr a = false) (gl : Gl X "enumerate") (own : X.mg "enumerate" = none) (he : PE X py (te G Φ x W a))
    (one : starEach [py] X.env = (false, eval py X.env) :: starEach [] X.env := by rfl) (plain : starEach [py] X.env = [(false, eval py X.env)] := by rfl) :
    PI X (.Tuple elts kk tpos) (.Call (.Name "enumerate" p) [py] [] pos) (tW G Φ x W (.enu a)) := by
  refine ⟨fun pins s σ H R I ⟨m, sl, h, r, q⟩ => (pi_num gl own (pa_cons (pe_frz he) pa_nil one) plain).run pins s σ H R I ?_⟩
  rw [ev, rdv_eq nv] at q
  refine ⟨m, sl, h, r, ?_⟩
  cases e : ev Φ x a sl h with
  | bad w => rw [e] at q; exact q
  | exc c xs h' => rw [e] at q; exact q
  | ok t h' =>
    rw [e] at q
    cases ei : items t with
    | none => simp only [RE.its, RE.bind, ei] at q
    | some ds =>
      simp only [RE.its, RE.bind, ei] at q
      obtain ⟨_, es, q⟩ := q
      cases es
      exact fun m' v H' y rh rt ow => row_of y rh rt ow ei fun k b vs H1 ev y1 rh1 row rb => ⟨k, b, vs, by rw [ev], row, q m' H1 _ y1 rh1 (wk_num fun m2 h2 H2 p2 _ => ⟨vs, row.per p2, Rps.per p2 _ _ rb⟩)⟩
end
end Ma
set_option maxHeartbeats 4000000
/-! min(row, default=0) over a list of whole numbers. -/
namespace Ma
open PySem PySem.Spec L2
variable [TB]
section
variable {G : GC} {Φ : Cal} {x : List Ma.D} {W : WX} {X : Cx}
theorem minI_ints : ∀ {ds : List Ma.D} {i k : Int}, minI i ds = some k → ∃ bs : List Int, ds = bs.map Ma.D.int ∧ PySem.W.minOf i bs = k
  | [], i, k, e => ⟨[], rfl, Option.some.inj e⟩
  | d :: r, i, k, e => by
    cases d with
    | int j =>
      obtain ⟨bs, eb, ek⟩ := minI_ints (show minI (if j < i then j else i) r = some k from e)
      refine ⟨j :: bs, by rw [eb]; rfl, ?_⟩
      rw [← ek, PySem.W.minOf, PySem.W.minOf, List.foldl_cons]
      congr 1
      show (if decide (j < i) = true then j else i) = _
      simp
    | _ => simp [minI] at e
theorem bMin0_ints {t t' : T} (e : bMin0 t = some t') : ∃ bs : List Int, itL t = some (bs.map Ma.D.int) ∧ ((bs = [] ∧ t' = .fz (.int 0)) ∨ ∃ i r, bs = i :: r ∧ t' = .fz (.int (PySem.W.minOf i r))) := by
  unfold bMin0 at e
  split at e
  · rename_i h; cases e; exact ⟨[], h, .inl ⟨rfl, rfl⟩⟩
  · rename_i i r h
    obtain ⟨k, ek, et⟩ := Option.map_eq_some_iff.mp e
    obtain ⟨bs, eb, eo⟩ := minI_ints ek
    exact ⟨i :: bs, by rw [h, eb]; rfl, .inr ⟨i, bs, rfl, by rw [eo, et]⟩⟩
  · cases e
theorem ints_pyD : ∀ bs : List Int, pyDs (bs.map Ma.D.int) = bs.map PySem.W.Datum.toD
  | [] => rfl
  | b :: r => by rw [List.map_cons, pyDs, ints_pyD r]; rfl
theorem ints_flat : ∀ bs : List Int, flats (bs.map Ma.D.int) = true
  | [] => rfl
  | b :: r => by
    show (flatN 60 (Ma.D.int b) && flats (r.map Ma.D.int)) = true
    rw [ints_flat r]; rfl
theorem ca_min0 (calm : X.calm = true) (room : X.A.units + 64 < cLine) : CallRK X (.builtin "min") [Str.ofString "default"] fun vs zs H Q => ∃ (m : List Addr) (h : RH) (t t' : T) (v : V), vs = [v] ∧ zs = [.int 0] ∧ RpH m h H ∧ RpT m H t v ∧ bMin0 t = some t' ∧ PostT m h H t' Q := by
  rintro pins s σ H vs zs us ws Q I rv rz ⟨m, h, t, t', v, rfl, rfl, rh, rt, e, p⟩
  obtain ⟨bs, ei, cs⟩ := bMin0_ints e
  obtain ⟨a, ls, rfl, hs, r⟩ := itL_rd rt ei
  obtain ⟨u, rfl, ru⟩ := vals1 rv
  cases ru
  obtain ⟨z, rfl, tz⟩ := vals1 rz
  obtain ⟨its, r', pl, _⟩ := I.list (.inl hs)
  have all : PySem.W.HoldAll s.heap its.toArray.toList bs := by
    obtain ⟨as, q⟩ := Dp.readsAll I _ ls its (Rps.dp (K := X.K) _ ls 60 (ints_flat bs) r) r'
    exact ⟨as, by rw [← ints_pyD]; simpa using q⟩
  refine PySem.W.min_list_datum_default (I.ok.hd calm) pl.isList all (by show X.A.units + 1 + 0 < cLine; omega) (fun e0 h' tk kp => ?_) fun y ys i w h' tk ey _ hold kp => ?_
  · rcases cs with ⟨_, rfl⟩ | ⟨_, _, e1, _⟩
    · exact ⟨.int 0, H, I.kept kp, tz, p.fz rh rfl⟩
    · rw [e0] at e1; cases e1
  · rcases cs with ⟨e1, _⟩ | ⟨j, r2, e1, rfl⟩
    · rw [e1] at ey; cases ey
    · rw [e1] at ey; cases ey
      obtain ⟨as, q⟩ := hold
      refine ⟨.int (PySem.W.minOf y ys), H, I.kept kp, ?_, p.fz rh rfl⟩
      have q' : Reads h' w (.int (PySem.W.minOf y ys)) as := q
      cases q'
      exact ⟨_, rfl⟩
theorem se_min0 {py : Expr} {a : E} {p pos kpos zpos : Pos} {j : Nat} (calm : X.calm = true) (room : X.A.units + 64 < cLine) (gl : Gl X "min") (own : X.mg "min" = none) (ha : PE X py (tr G Φ x W a))
    (he : starEach [py] X.env = (false, eval py X.env) :: starEach [] X.env := by rfl) (he2 : backTo pos (starEach [py] X.env) = (false, eval py X.env) :: backTo pos (starEach [] X.env) := by rfl) (hpl : (backTo pos (starEach [py] X.env)).any (·.1) = false := by rfl) : PE X (.Call (.Name "min" p) [py] [⟨some "default", .Constant (.int 0) j zpos, kpos⟩] pos) (te G Φ x W (.b1 .min0 a)) := by
  refine PEimp (pe_callBK (ca_min0 calm room) gl own bt_min (tr_cons1 ha he) (pk_cons pe_int pk_nil) (he := he2) (hpl := hpl)) fun σ H Q ⟨m, s, h, r, q⟩ => ?_
  rw [ev] at q
  refine ⟨m, s, h, r, row1 (a := a) r q fun m1 t h1 v H1 r1 y1 q1 o1 p1 => ?_⟩
  obtain ⟨t', e, p2⟩ := optE_ok p1
  exact ⟨m1, h1, t, t', v, rfl, rfl, r1.hp, q1, e, p2⟩
end
end Ma
set_option maxHeartbeats 4000000
/-! raise of an own error, what makes the error taken as a fact. -/
namespace Ma
open PySem PySem.Spec L2
variable [TB]
/-- a call of a class makes its error: new objects alone, the fields in a new dict -/
def Made (G : GC) (c : Nat) (vs : List V) (H : Hp) (Q : XK) : Prop :=
  ∀ (dd : Addr) (H2 : Hp) (fs : List (Str × V)), (∀ m h, RpH m h H → Ex m H m H2 ∧ RpH m h H2) → H2 dd = some (.xd fs) → (∀ (i : Nat) n v, (G.fs c)[i]? = some n → vs[i]? = some v → fs.lookup n = some v) → Q (.ref (G.cl c)) (some dd) H2
/-- .. written as a call with values -/
def Makes (X : Cx) (G : GC) (c n : Nat) (py : Expr) (tv : TA) : Prop := PMk X py fun σ H Q => tv σ H fun vs H1 => vs.length = n ∧ Made G c vs H1 Q
section
variable {G : GC} {Φ : Cal} {x : List Ma.D} {W : WX} {X : Cx} {m0 : List Addr} {H0 : Hp}
theorem ss_rais {py : Expr} {c : Nat} {es : E} {pos : Pos} (calm : X.calm = true) (tk : Takes X W) (hc : c < G.n) (hr : isRow es = true) (mk : Makes X G c (rowN es) py (ta G Φ x W es)) : PS X (.Raise (some py) none pos) (ts G Φ x W m0 H0 (.rais c es)) := by
  refine PSimp (ps_raise calm tk mk) fun D σ H ⟨m, s, h, q, p⟩ => ⟨m, s, h, q.sr, ?_⟩
  rw [ex] at p
  cases e : ev Φ x es s h with
  | bad w => rw [e] at p; exact p
  | exc k xs h' => rw [e] at p; exact fun m' H' cls d y rh rx => p m' σ H' cls d (q.stay y rh) (y.per q.sr.hp) rx
  | ok t h' =>
    rw [e] at p
    cases t with
    | fz d =>
      cases d with
      | tup ds =>
        intro m' vs H' y rh rs
        refine ⟨by rw [rs.len]; exact row_len es s h h' ds hr e, fun dd H2 fs st at_ look => ?_⟩
        obtain ⟨y2, rh2⟩ := st m' h' rh
        refine p m' σ H2 _ _ (q.stay (y.comp rh y2) rh2) ((y.comp rh y2).per q.sr.hp) ⟨⟨rfl, hc⟩, dd, fs, rfl, at_, fun i n u en eu => ?_⟩
        obtain ⟨v, ev, rv⟩ := rs.get eu
        exact ⟨v, look i n v en ev, Rp.per (y2.per rh) _ _ rv⟩
      | _ => exact p.elim
    | _ => exact p.elim
end
end Ma
set_option maxHeartbeats 4000000
/-! isinstance(x, a built-in type). -/
namespace Ma
open PySem PySem.Spec L2
variable [TB]
def Ty.nm : Ty → String
  | .int => "int"
  | .bool => "bool"
  | .str => "str"
  | .tuple => "tuple"
/-- the name of a value's type -/
def tyNm : Ma.D → String
  | .non => "NoneType"
  | .bl _ => "bool"
  | .int _ => "int"
  | .str _ => "str"
  | .tup _ => "tuple"
  | .lst _ => "list"
  | _ => "dict"
section
variable {G : GC} {Φ : Cal} {x : List Ma.D} {W : WX} {X : Cx}
theorem kit_nm : ∀ (k : Ty) (d : Ma.D) (b : Bool), isTy k d = some b → kitB (tyNm d) k.nm = some b := by
  have c1 : ∀ k : Ty, kitB "NoneType" k.nm = some false := fun k => by cases k <;> decide +kernel
  have c2 : kitB "bool" "int" = some true ∧ kitB "bool" "bool" = some true ∧ kitB "bool" "str" = some false ∧ kitB "bool" "tuple" = some false := by decide +kernel
  have c3 : kitB "int" "int" = some true ∧ kitB "int" "bool" = some false ∧ kitB "int" "str" = some false ∧ kitB "int" "tuple" = some false := by decide +kernel
  have c4 : kitB "str" "int" = some false ∧ kitB "str" "bool" = some false ∧ kitB "str" "str" = some true ∧ kitB "str" "tuple" = some false := by decide +kernel
  have c5 : kitB "tuple" "int" = some false ∧ kitB "tuple" "bool" = some false ∧ kitB "tuple" "str" = some false ∧ kitB "tuple" "tuple" = some true := by decide +kernel
  have c6 : ∀ k : Ty, kitB "list" k.nm = some false := fun k => by cases k <;> decide +kernel
  have c7 : ∀ k : Ty, kitB "dict" k.nm = some false := fun k => by cases k <;> decide +kernel
  intro k d b e
  cases d with
  | non => rw [← show some false = some b by cases k <;> exact e]; exact c1 k
  | bl _ => cases k <;> (cases e; first | exact c2.1 | exact c2.2.1 | exact c2.2.2.1 | exact c2.2.2.2)
  | int _ => cases k <;> (cases e; first | exact c3.1 | exact c3.2.1 | exact c3.2.2.1 | exact c3.2.2.2)
  | str _ => cases k <;> (cases e; first | exact c4.1 | exact c4.2.1 | exact c4.2.2.1 | exact c4.2.2.2)
  | tup _ => cases k <;> (cases e; first | exact c5.1 | exact c5.2.1 | exact c5.2.2.1 | exact c5.2.2.2)
  | lst _ => rw [← show some false = some b by cases k <;> exact e]; exact c6 k
  | dct _ => rw [← show some false = some b by cases k <;> exact e]; exact c7 k
  | kst _ => cases k <;> cases e
  | ref _ => cases k <;> cases e
  | clo _ _ => cases k <;> cases e
theorem ty_at {K : PySem.W.Frag} {m : List Addr} {H : Hp} {t : T} {v : V} {k : Ty} {b : Bool} (r : RpT m H t v) (e : isTy k t.d = some b) : TyX K H v (.type (tyNm t.d)) := by
  cases t with
  | fz d =>
    cases d with
    | non => rw [show v = .non from r]; exact .base .non
    | bl z => rw [show v = .bl z from r]; exact .base (.bl z)
    | int z => rw [show v = .int z from r]; exact .base (.int z)
    | str z => obtain ⟨y, rfl, _⟩ := r; exact .base (.str y)
    | tup z => obtain ⟨a, vs, rfl, h, _⟩ := r; exact .base (.tup h)
    | lst z => obtain ⟨a, o, vs, rfl, h, _⟩ := r; exact .base (.frz h)
    | dct z => obtain ⟨a, o, ws, rfl, h, _⟩ := r; exact .fDict h
    | kst z => cases k <;> cases e
    | ref z => cases k <;> cases e
    | clo _ _ => cases k <;> cases e
  | oL n rs => obtain ⟨a, vs, rfl, h, _⟩ := r; exact .base (.lst h)
  | oD ks => obtain ⟨a, ws, rfl, h, _⟩ := r; exact .base (.dK h)
  | _ => exact r.elim
/-- a built-in type, by its name -/
theorem pe_tyn {y : Str} {n : String} {p : Pos} (gl : Gl X y) (own : X.mg y = none) (bt : bootBuiltins y = some (.type n)) (hn : y ≠ "__name__" := by decide) (hd : (y == ("__debug__" : Str)) = false := by decide) : PE X (.Name y p) (tC (.ty n)) :=
  ⟨fun pins s σ H Q I q => ld_blt I gl own bt ⟨.ty n, H, I, rfl, q⟩ hn hd⟩
theorem se_isin {y : Str} {py : Expr} {a : E} {k : Ty} {p p2 pos : Pos} (gl : Gl X "isinstance") (own : X.mg "isinstance" = none) (gl2 : Gl X y) (own2 : X.mg y = none) (bt : bootBuiltins y = some (.type k.nm)) (ha : PE X py (tr G Φ x W a))
    (hn : y ≠ "__name__" := by decide) (hd : (y == ("__debug__" : Str)) = false := by decide)
    (he : starEach [py, .Name y p2] X.env = (false, eval py X.env) :: starEach [.Name y p2] X.env := by rfl) (he2 : starEach [.Name y p2] X.env = (false, eval (.Name y p2) X.env) :: starEach [] X.env := by rfl) (hpl : (backTo pos (starEach [.Name y p2] X.env)).any (·.1) = false := by rfl) :
    PE X (.Call (.Name "isinstance" p) [py, .Name y p2] [] pos) (te G Φ x W (.isin k a)) := by
  refine PEimp (pe_callB call_isi gl own bt_isinstance (pa_cons ha (pa_cons (pe_tyn gl2 own2 bt hn hd) pa_nil he2) he) (by decide) (by decide) he hpl) fun σ H Q ⟨m, s, h, r, q⟩ => ?_
  rw [ev] at q
  refine ⟨m, s, h, r, row1 (a := a) r q fun m1 t h1 v H1 r1 y1 q1 o1 p1 => ?_⟩
  cases e : isTy k t.d with
  | none => rw [e] at p1; exact p1.elim
  | some b =>
    rw [e] at p1
    exact ⟨v, .ty k.nm, _, _, b, rfl, .ty _, ty_at q1 e, kit_ty (kit_nm k _ b e), Pst.fz (d := .bl b) p1 r1.hp rfl⟩
end
theorem bt_bool : bootBuiltins "bool" = some (.type "bool") := by decide +kernel
end Ma
set_option maxHeartbeats 4000000
/-! Own classes of errors over any built-in one: their making. -/
namespace Ma
open PySem PySem.Spec L2
variable [TB]
/-- what is known of a built-in class of errors -/
structure Bas (y : Str) (B nw ini : String) (tl : List Value) : Prop where
  F : ExcBaseFacts B nw ini tl
  S : StoreFacts B tl "object.__setattr__" "object"
  bt : bootBuiltins y = some (.type B)
  ty : typeOf (.type B) = pure (.type "type")
  stub : Manifest.isStub B = false
  hand : PySem.W.handedIn (.builtin ini) = true
  get : ∀ K : PySem.W.Frag, PySem.W.findCls K (.type B) (.type "type") "__init__" = some (.val (.builtin ini))
/-- what the written part says of an own class C over it, whose __init__ is the def at f -/
structure Err (K : PySem.W.Frag) (nw : String) (tl : List Value) (C f : Addr) : Prop where
  made : PySem.W.excInitIn K C tl nw = true
  over : PySem.W.excOver K C tl = true
  dict : PySem.W.hasDictIn K C = true
  set : PySem.W.findIn K (.ref C) "__setattr__" = some (some (.builtin "object.__setattr__"))
  ini : PySem.W.findIn K (.ref C) "__init__" = some (some (.ref f))
  fty : PySem.W.typeIn K (.ref f) = some (.type "function")
  sub : PySem.W.subIn K (.ref C) (.type "BaseException") = some true
  ty : PySem.W.typeIn K (.ref C) = some (.type "type")
  keep : PySem.W.keepIn K (.ref C) = true
section
open Builtin Builtin.ObjectAttr
variable {prog : Program} {w : World} {A : Around} {h : Heap} {g : Array GenState} {d : Drawn} {t : Nat} {os : OsState} {K : PySem.W.Frag} {C : Addr} {B : String} {tl : List Value}
/-- the first field: the error's dict is made -/
theorem put_first {R : Result → Shared → Prop} {n : Str} {tk : Tok} {v : Value} {x u : Addr} (SF : StoreFacts B tl "object.__setattr__" "object") (kin : K.In h) (at_ : h.get? x = some (PySem.W.excObj C u none .none)) (ov : PySem.W.excOver K C tl = true) (hd : PySem.W.hasDictIn K C = true) (free : PySem.W.takerIn K C n = some none)
    (go : ∀ h' tk' a, h.objs.size ≤ a → a ≠ x → (∀ b o, b ≠ x → h.get? b = some o → h'.get? b = some o) → h'.get? x = some (PySem.W.excObj C u (some a) .none) → h'.Ns1 a (fun y => if y = n then some v else none) → R (.ok (.ret .none)) ⟨h', g, d, tk', os⟩) :
    codeAny (model prog w) A (.call (.builtin "object.__setattr__") ⟨[.ref x, .str n tk, v], []⟩) R ⟨h, g, d, t, os⟩ := by
  have new : h.objs.size ≠ x := Nat.ne_of_gt (Heap.lt_size at_)
  obtain ⟨cd, isC, has⟩ := PySem.W.any_some hd
  refine PySem.W.osa_openX (od := none) SF kin ⟨at_, rfl, rfl, trivial⟩ ov free fun _ => wpAny_bind (wpAny_pure (wpAny_bind (PySem.W.instanceDict_exc at_ (PySem.W.looks_clsIn kin isC) has (?_ : wpAny _ _ (storeInDict h.objs.size (.str n tk) n v) _ _ _))))
  have e0 : ((h.push (PySem.W.dictOf [] 0)).update x fun o => { o with dict := some h.objs.size }).get? h.objs.size = some (PySem.W.dictOf [] 0) := (Heap.get?_update_other _ _ new.symm).trans (Heap.get?_push_size h rfl)
  refine PySem.HandSPX.store_in_new ⟨_, #[], _, e0, rfl, (fun e z => absurd z (by simp)), fun _ => rfl⟩ fun h' tk' ns same => go h' tk' _ (Nat.le_refl _) new (fun b o nb eb => ?_) ?_ ns
  · rw [same.2 b (Nat.ne_of_lt (Heap.lt_size eb)), Heap.get?_update_other _ _ (Ne.symm nb)]
    exact Heap.get?_push_of_some _ eb
  · rw [same.2 x new.symm]
    exact Heap.get?_update_self _ (Heap.get?_push_of_some _ at_) rfl
/-- a further one -/
theorem put_more {R : Result → Shared → Prop} {n : Str} {tk : Tok} {v : Value} {x u a : Addr} {m0 : Str → Option Value} {nl : List Str} (SF : StoreFacts B tl "object.__setattr__" "object") (kin : K.In h) (at_ : h.get? x = some (PySem.W.excObj C u (some a) .none)) (ns : h.Ns1 a m0) (hw : Within m0 nl) (hz : nl.length ≤ 1000)
    (ov : PySem.W.excOver K C tl = true) (hd : PySem.W.hasDictIn K C = true) (free : PySem.W.takerIn K C n = some none)
    (go : ∀ h' tk', (∀ b o, b ≠ a → h.get? b = some o → h'.get? b = some o) → h'.Ns1 a (fun y => if y = n then some v else m0 y) → R (.ok (.ret .none)) ⟨h', g, d, tk', os⟩) :
    codeAny (model prog w) A (.call (.builtin "object.__setattr__") ⟨[.ref x, .str n tk, v], []⟩) R ⟨h, g, d, t, os⟩ := by
  obtain ⟨oD, _, _, atD, _⟩ := id ns
  obtain ⟨cd, isC, has⟩ := PySem.W.any_some hd
  refine PySem.W.osa_openX (od := some oD) SF kin ⟨at_, rfl, rfl, atD⟩ ov free fun _ => wpAny_bind (wpAny_pure (wpAny_bind (wpAny_bind (wpAny_loadPart at_ (wpAny_bind ((PySem.W.looks_clsIn kin isC).here ?_))))))
  rw [has]
  exact wpAny_pure (a := some a) (PySem.OEX.store_in_old ns hw hz fun h' tk' ns' same => go h' tk' (fun b o nb eb => (same.2 b nb).trans eb) ns')
end
section
variable {X : Cx} {pins : List (Addr × Obj)} {σ : L2.St} {H : Hp} {s : Shared} {a C fI : Addr} {f : Str} {y : V} {u : Value} {A : Around} {E : Value → Shared → Prop} {yB : Str} {B nw ini : String} {tl : List Value}
theorem upd_id {o : HO} (e : H a = some o) : upd H a o = H := funext fun b => by
  by_cases z : b = a
  · rw [z, upd_same]; exact e.symm
  · exact upd_ne z
/-- e.f = y, the first field -/
theorem store_first {Q : Unit → Shared → Prop} (b : Bas yB B nw ini tl) (T : Err X.K nw tl C fI) (I : Inv X pins σ H s) (e : H a = some (exo a C none)) (free : PySem.W.takerIn X.K C f = some none) (ry : RelV y u)
    (go : ∀ x s', H x = none → x ≠ a → Inv X pins σ (upd (upd H x (exd x [(f, y)])) a (exo a C (some x))) s' → Q () s') : wpAny (model X.prog X.w) A (setAttr (.ref a) f u) Q E s := by
  obtain ⟨t1, at_⟩ := exo_at I.hok e
  obtain ⟨hp, g, d, t, os⟩ := s
  refine PySem.W.set_plain I.kIn (od := none) ⟨at_, rfl, rfl, trivial⟩ T.set (put_first b.S I.kIn at_ T.over T.dict free fun h' tk' x hx nx keep atE ns => ?_)
  have old : (h'.update a fun _ => PySem.W.excObj C t1 none .none).get? a = some (PySem.W.excObj C t1 none .none) := Heap.get?_update_self _ atE rfl
  have oth : ∀ c, c ≠ a → (h'.update a fun _ => PySem.W.excObj C t1 none .none).get? c = h'.get? c := fun c n => Heap.get?_update_other _ _ (Ne.symm n)
  have I1 := I.laid (a := x) (o := exd x [(f, y)]) (t' := tk') (h' := h'.update a fun _ => PySem.W.excObj C t1 none .none) (fun c v ec => by
    by_cases z : c = a
    · subst z; exact old.trans (at_.symm.trans ec)
    · exact (oth c z).trans (keep c v z ec)) hx (exd_ok (ns.at fun o eo => (oth x nx).trans eo) (relO_put (fs := []) ry fun _ => True.intro))
  exact go x _ (I.hok.fresh hx) nx (I1.write (x := a) (e := a) (o := exo a C (some x)) (t' := tk') (h' := h') (by rw [upd_ne nx.symm, e]; exact True.intro) (.inl rfl) (fun c v n ec => (oth c n).symm.trans ec) ⟨_, atE⟩ (exo_ok atE))
/-- e.f = y, a further one -/
theorem store_more {Q : Unit → Shared → Prop} {x : Addr} {fs : List (Str × V)} (b : Bas yB B nw ini tl) (T : Err X.K nw tl C fI) (I : Inv X pins σ H s) (e : H a = some (exo a C (some x))) (ex : H x = some (exd x fs)) (hl : fs.length ≤ 900) (free : PySem.W.takerIn X.K C f = some none) (ry : RelV y u)
    (go : ∀ s', Inv X pins σ (upd H x (exd x ((f, y) :: fs))) s' → Q () s') : wpAny (model X.prog X.w) A (setAttr (.ref a) f u) Q E s := by
  obtain ⟨t1, at_⟩ := exo_at I.hok e
  obtain ⟨mA, ns, rel⟩ := exd_at I.hok ex
  obtain ⟨hp, g, d, t, os⟩ := s
  obtain ⟨oD, _, _, atD, _⟩ := id ns
  refine PySem.W.set_plain I.kIn (od := some oD) ⟨at_, rfl, rfl, atD⟩ T.set (put_more b.S I.kIn at_ ns (within_of rel) (by rw [List.length_map]; omega) T.over T.dict free fun h' tk' keep ns' => ?_)
  obtain ⟨oD', _, _, atD', _⟩ := id ns'
  exact go _ (I.write (x := x) (e := x) (t' := tk') (by rw [ex]; exact True.intro) (.inl rfl) keep ⟨_, atD'⟩ (exd_ok ns' (relO_put ry rel)))
/-- the built-in class's own __init__ -/
theorem init_up {us : List Value} {Q : Value → Shared → Prop} (b : Bas yB B nw ini tl) (T : Err X.K nw tl C fI) (I : Inv X pins σ H s) (e : H a = some (exo a C none)) (hl : us.length ≤ sizeLine) (go : ∀ s', Inv X pins σ H s' → Q .none s') :
    wpAny (model X.prog X.w) A (call (.builtin ini) (.ref a :: us)) Q E s := by
  obtain ⟨t1, at_⟩ := exo_at I.hok e
  obtain ⟨nm, N, qn, bs, bm, hdct, sn, sub, ab, col, dd, k0, k1, k2, k3, k5, hC, tail⟩ := PySem.W.excInit_of I.kIn T.made
  obtain ⟨hp, g, d, t, os⟩ := s
  refine wpAny_call (PySem.HandSPX.init_base b.F tail hC at_ hl fun h' t2 keep at2 => ?_)
  have J := I.write (x := a) (e := a) (o := exo a C none) (t' := t) (by rw [e]; exact True.intro) (.inl rfl) keep ⟨_, at2⟩ (exo_ok at2)
  rw [upd_id e] at J
  exact go _ J
/-- B.__init__(self, ..) -/
theorem pe_up {e : Expr} {es : List Expr} {tv : TA} {p1 p2 pos : Pos} {pl : Sem Bool} (b : Bas yB B nw ini tl) (T : Err X.K nw tl C fI) (gl : Gl X yB) (own : X.mg yB = none) (ha : PA X (e :: es) tv)
    (hn : yB ≠ "__name__" := by decide) (hd : (yB == ("__debug__" : Str)) = false := by decide)
    (hc : eval (.Call (.Attribute (.Name yB p1) "__init__" p2) (e :: es) [] pos) X.env = (do
      let o ← eval (.Name yB p1) X.env
      standAt p2.atName
      let m ← holding [o] (getMethod o "__init__" pl)
      callWith pos m.1 m.2 (backTo pos (starEach (e :: es) X.env)) (backToKw pos (keywordEach [] X.env))) := by rfl)
    (he : starEach (e :: es) X.env = (false, eval e X.env) :: starEach es X.env := by rfl) (hpl : (backTo pos (starEach es X.env)).any (·.1) = false := by rfl) :
    PE X (.Call (.Attribute (.Name yB p1) "__init__" p2) (e :: es) [] pos) (fun σ H Q => tv σ H fun vs H1 => ∃ a ws, vs = .ref a :: ws ∧ ws.length ≤ 1000 ∧ H1 a = some (exo a C none) ∧ Q .non H1) := by
  refine ⟨fun pins s σ H Q I h => PySem.W.methodCall_KW (ld_blt I gl own b.bt ?_ hn hd) hc⟩
  obtain ⟨m, fr⟩ := I.fr
  refine PySem.W.method_type fr I.ok.mod.kin b.ty b.stub (b.get _) b.hand (PyProof.Rows.callWith_method1 (first := []) (thn (ha.run pos pins _ σ H _ (I.tok _) h) fun us s1 ⟨vs, H1, I1, r1, a, ws, ev, hl, ea, q⟩ => ?_) he hpl)
  subst ev
  cases r1 with
  | @cons _ u0 _ ur ra rw' =>
    obtain rfl : u0 = Value.ref a := ra
    exact init_up b T I1 ea (by rw [← Paired.length rw', sizeLine_eq]; omega) fun s' J => ⟨.non, H1, J, rfl, q⟩
end
/-! ### an own __init__ that keeps one argument -/
/-- what it promises -/
def spIni (f : Str) (C : Addr) : Sp := fun vs H Q _ => ∃ a v, vs = [.ref a, v] ∧ H a = some (exo a C none) ∧ ∀ x, H x = none → x ≠ a → Q .non (upd (upd H x (exd x [(f, v)])) a (exo a C (some x)))
section
variable {X : Cx} {C fI : Addr} {yB : Str} {B nw ini : String} {tl : List Value} {f y : Str}
/-- its body's reading -/
def tIni (f : Str) (C : Addr) : TS := fun D σ H => ∃ a v, σ[0]? = some (some (.ref a)) ∧ σ[1]? = some (some v) ∧ H a = some (exo a C none) ∧ ∀ x, H x = none → x ≠ a → D.nx σ (upd (upd H x (exd x [(f, v)])) a (exo a C (some x)))
theorem ps_first {o e : Expr} {to tv : TE} {p pos : Pos} (b : Bas yB B nw ini tl) (T : Err X.K nw tl C fI) (free : PySem.W.takerIn X.K C f = some none) (ho : PE X o to) (he : PE X e tv) (hs : swapsWith e (some (.Attribute o f p)) pos.line X.env = pure false := by rfl) :
    PS X (.Assign [.Attribute o f p] e pos) (fun D σ H => tv σ H fun v H1 => to σ H1 fun u H2 => ∃ a, u = .ref a ∧ H2 a = some (exo a C none) ∧ ∀ x, H2 x = none → x ≠ a → D.nx σ (upd (upd H2 x (exd x [(f, v)])) a (exo a C (some x)))) := by
  refine ⟨fun pins s σ H D I h => plainObj_wpAny_Assign_Attribute (thn (he.run pins s σ H _ I h) fun v s1 ⟨y, H1, I1, ry, q1⟩ => thn (ho.run pins s1 σ H1 _ I1 q1) ?_) hs⟩
  rintro u s2 ⟨_, H2, I2, ru, a, rfl, ea, q⟩
  obtain rfl : u = Value.ref a := ru
  exact store_first b T I2 ea free ry fun x s' n ne J => ⟨σ, _, J, q x n ne⟩
theorem ini_body {p1 p2 p3 p4 p5 p6 p7 p8 p9 p10 : Pos} (b : Bas yB B nw ini tl) (T : Err X.K nw tl C fI) (free : PySem.W.takerIn X.K C f = some none) (gl : Gl X yB) (own : X.mg yB = none) (h0 : PE X (.Name "self" p3) (tVar 0)) (h1 : PE X (.Name y p4) (tVar 1)) (h2 : PE X (.Name "self" p7) (tVar 0)) (h3 : PE X (.Name y p9) (tVar 1))
    (pl : Sem Bool)
    (hn : yB ≠ "__name__") (hd : (yB == ("__debug__" : Str)) = false)
    (e1 : eval (.Call (.Attribute (.Name yB p1) "__init__" p2) [.Name "self" p3, .Name y p4] [] p5) X.env = (do
      let o ← eval (.Name yB p1) X.env
      standAt p2.atName
      let m ← holding [o] (getMethod o "__init__" pl)
      callWith p5 m.1 m.2 (backTo p5 (starEach [.Name "self" p3, .Name y p4] X.env)) (backToKw p5 (keywordEach [] X.env))))
    (e2 : starEach [.Name "self" p3, .Name y p4] X.env = (false, eval (.Name "self" p3) X.env) :: starEach [.Name y p4] X.env) (e3 : starEach [.Name y p4] X.env = (false, eval (.Name y p4) X.env) :: starEach [] X.env)
    (e4 : (backTo p5 (starEach [.Name y p4] X.env)).any (·.1) = false) (e5 : swapsWith (.Call (.Attribute (.Name yB p1) "__init__" p2) [.Name "self" p3, .Name y p4] [] p5) none p6.line X.env = pure false)
    (e6 : swapsWith (.Name y p9) (some (.Attribute (.Name "self" p7) f p8)) p10.line X.env = pure false) :
    PSs X [.Expr (.Call (.Attribute (.Name yB p1) "__init__" p2) [.Name "self" p3, .Name y p4] [] p5) p6, .Assign [.Attribute (.Name "self" p7) f p8] (.Name y p9) p10] (tIni f C) := by
  refine PSsimp (pss_cons (ps_expr (pe_up b T gl own (pa_cons h0 (pa_cons h1 pa_nil e3) e2) hn hd e1 e2 e4) e5) (pss_one (ps_first b T free h2 h3 e6))) fun D σ H ⟨a, v, s0, s1, ea, q⟩ => ?_
  exact ⟨_, s0, _, s1, a, [v], rfl, Nat.le_of_ble_eq_true rfl, ea, _, s1, _, s0, a, rfl, ea, q⟩
/-- C(e) makes the error -/
theorem mk_err {k : Nat} {fd : FuncData} {x : Str} {e : Expr} {tv : TA} {p pos : Pos} (b : Bas yB B nw ini tl) (T : Err X.K nw tl C fI) (F1 : FnOk X.prog X.w X.K X.mg X.base CX0 k fI fd ["self", y] (spIni f C)) (hr : Room (k + 1) X.A) (bi : L2.Binds X.K fd ["self", y] []) (gl : Gl X x) (hm : X.mg x = some (.ref C)) (ha : PA X [e] tv)
    (hdb : (x == ("__debug__" : Str)) = false := by decide) (he : starEach [e] X.env = (false, eval e X.env) :: starEach [] X.env := by rfl) (hpl : (backTo pos (starEach [] X.env)).any (·.1) = false := by rfl) :
    PMk X (.Call (.Name x p) [e] [] pos) (fun σ H Q => tv σ H fun vs H1 => ∃ v, vs = [v] ∧ ∀ d, H1 d = none → Q (.ref C) (some d) (upd H1 d (.xd [(f, v)]))) := by
  intro pins s σ H Q I h
  refine wpAny_Call_Name_kw (ld_glob I gl hm ?_ hdb)
  refine PySem.W.callWith_K (h₀ := X.base) I.ok.mod.kin T.keep (thn (ha.run pos pins s σ H _ I h) ?_) he hpl
  rintro us ⟨hp, g, dr, tk, os⟩ ⟨vs, H1, I1, rv, v, rfl, q⟩
  obtain ⟨nm, N, qn, bs, bm, hdct, sn, sub, ab, col, dd, k0, k1, k2, k3, k5, atC, tail⟩ := PySem.W.excInit_of I1.kIn T.made
  have l1 : us.length = 1 := rv.length.symm
  have above : hp.objs.size ≤ hp.objs.size + 1 := Nat.le_succ _
  have n1 : H1 (hp.objs.size + 1) = none := I1.hok.fresh above
  have stay : ∀ b o, hp.get? b = some o → ((hp.push (PySem.W.kdv_tup us)).push (PySem.HandSPX.excO C hp.objs.size)).get? b = some o := fun b o z => Heap.get?_push_of_some _ (Heap.get?_push_of_some _ z)
  have at2 : ((hp.push (PySem.W.kdv_tup us)).push (PySem.HandSPX.excO C hp.objs.size)).get? (hp.objs.size + 1) = some (PySem.HandSPX.excO C hp.objs.size) := by heap_get
  have I2 := I1.laid (t' := tk) (a := hp.objs.size + 1) (o := exo (hp.objs.size + 1) C none) stay above (exo_ok at2)
  refine ⟨I1.kIn, wpAny_call (PySem.HandSPX.call_own b.F tail atC (PySem.W.looks_findIn I1.kIn T.ini) (fun o => PySem.W.bind_fn I1.kIn o T.fty) (by show us.length ≤ _; rw [l1, sizeLine_eq]; omega)
    (codeAny_mono (F1.run _ X.stack _ _ ⟨.ref (hp.objs.size + 1) :: us, []⟩ (.ref (hp.objs.size + 1) :: us) (.ref (hp.objs.size + 1) :: [v])
      (fun u H2 => u = .non ∧ ∃ d, H1 d = none ∧ d ≠ hp.objs.size + 1 ∧ H2 = upd (upd (upd H1 (hp.objs.size + 1) (exo (hp.objs.size + 1) C none)) d (exd d [(f, v)])) (hp.objs.size + 1) (exo (hp.objs.size + 1) C (some d))) (fun _ _ _ => False)
      (hr.make C us []) (I2.env0.make C us []) ?_ (.cons rfl rv) ?_) fun r s' z => ?_))⟩
  · have := bi ⟨_, g, dr, tk, os⟩ (.ref (hp.objs.size + 1) :: us) I2.kIn (by simp [l1])
    rwa [List.append_nil] at this
  · exact ⟨_, v, rfl, upd_same, fun d nd ne => ⟨rfl, d, by rw [upd_ne ne] at nd; exact nd, ne, rfl⟩⟩
  · cases r with
    | error er => exact z.elim
    | ok fl =>
      cases fl with
      | ret u =>
        obtain ⟨_, H2, os2, bare2, un2, ok2, ru, rfl, d, nd, ne, rfl⟩ := z
        obtain ⟨h2, g2, d2, t2, os'⟩ := s'
        refine ⟨ru, mk_end (raises_own T.sub T.ty) I1 above stay un2 ok2 os2 bare2 upd_same (by rw [upd_ne ne, upd_same]) nd ?_⟩
        rw [show upd (L2.del (upd (upd (upd H1 (hp.objs.size + 1) (exo (hp.objs.size + 1) C none)) d (exd d [(f, v)])) (hp.objs.size + 1) (exo (hp.objs.size + 1) C (some d))) (hp.objs.size + 1)) d (.xd [(f, v)]) = upd H1 d (.xd [(f, v)]) from ?_]
        · exact q d nd
        · funext c
          by_cases zd : c = d
          · rw [zd, upd_same, upd_same]
          · rw [upd_ne zd, upd_ne zd]
            by_cases za : c = hp.objs.size + 1
            · rw [za, del_same, n1]
            · rw [del_ne za, upd_ne za, upd_ne zd, upd_ne za]
      | next => exact z.elim
      | brk => exact z.elim
      | cont => exact z.elim
end
end Ma
set_option maxHeartbeats 4000000
/-! zip(a, b, strict=True): its making, its turns. -/
namespace Ma
open PySem PySem.Spec
section
variable {prog : Program} {w : World} {A : Around} {E : Value → Shared → Prop} {s : Shared} {it : Addr} {fp : List Addr} {n i : Nat} {P : Nat → Value → Prop} {St : Nat → Heap → Prop}
/-- a draw that finds an item -/
theorem draw_one {Q : Option Value → Shared → Prop} (D : Draws prog w A it fp n P St) (lt : i < n) (st : St i s.heap) (q : ∀ x h' tk, P i x → St (i + 1) h' → Heap.SameBut it s.heap h' → Q (some x) { s with heap := h', toks := tk }) :
    wpAny (model prog w) A (Builtin.SmallTypes.nextOrEnd (.ref it)) Q E s := by
  unfold Builtin.SmallTypes.nextOrEnd
  exact wpAny_bind (wpAny_attempt (D.item i s _ _ lt st fun x h' tk a b c => wpAny_pure (q x h' tk a b c)))
/-- .. that finds the end -/
theorem draw_end {Q : Option Value → Shared → Prop} (D : Draws prog w A it fp n P St) (st : St n s.heap) (q : ∀ h', Heap.ExtBut it s.heap h' → Q none { s with heap := h' }) :
    wpAny (model prog w) A (Builtin.SmallTypes.nextOrEnd (.ref it)) Q E s := by
  unfold Builtin.SmallTypes.nextOrEnd
  refine wpAny_bind (wpAny_attempt (D.done s _ _ st ?_))
  rintro h' e ext ⟨o, eo, co⟩
  exact wpAny_bind (wpAny_isInstance (T := "StopIteration") (b := true) ⟨o, eo, co⟩ isSubtype_stop (wpAny_pure (q h' ext)))
end
/-- the record of such a zip -/
abbrev Zs (st : Bool) (h : Heap) (z ts to_ : Addr) (hold : Value) : Prop := h.get? z = some { cls := .type "zip", dict := none, data := .fields #[hold, .bool false, .bool st, .ref ts, .ref to_], slots := #[] }
section
variable {prog : Program} {w : World} {A : Around} {E : Value → Shared → Prop} {s : Shared} {z TI TO i1 i2 : Addr} {f1 f2 : List Addr} {n1 n2 i : Nat} {P1 P2 : Nat → Value → Prop} {S1 S2 : Nat → Heap → Prop} {a b : Value}
theorem zs_item {Q : Value → Shared → Prop} (S : ZipSep2 z TI TO i1 i2 f1 f2) (D1 : Draws prog w A i1 f1 n1 P1 S1) (D2 : Draws prog w A i2 f2 n2 P2 S2) (rc : Zs true s.heap z TI TO .none) (ti : IsTupOf2 s.heap TI (.ref i1) (.ref i2)) (tw : IsTupOf2 s.heap TO a b) (p1 : S1 i s.heap) (p2 : S2 i s.heap) (l1 : i < n1) (l2 : i < n2)
    (q : ∀ x y h' tk, P1 i x → P2 i y → Zs true h' z TI TO (rawInt s.heap.objs.size) → IsTupOf2 h' TO x y → S1 (i + 1) h' → S2 (i + 1) h' → IsTupOf2 h' s.heap.objs.size x y → (∀ c o, c ∉ [z, TO, i1, i2] → s.heap.get? c = some o → h'.get? c = some o) → Q (.ref s.heap.objs.size) { s with heap := h', toks := tk }) :
    wpAny (model prog w) A (Builtin.«zip.__next__» ⟨[.ref z], []⟩) (fun fin s' => ∃ v, fin = .done (.ret v) ∧ Q v s') E s := by
  rcases s with ⟨hp, gs, dr, tk, os⟩
  dsimp only at rc ti tw p1 p2 q
  have zlt : z < hp.objs.size := Heap.lt_size rc
  unfold Builtin.«zip.__next__»
  refine wpAny_bind (wpAny_of_eq (a := ((Value.ref z : Value), ([] : List Value))) (by first | rfl | (simp only [slotArgs]; rfl)) ?_)
  refine wpAny_bind (wpAny_field rc rfl (x := .bool true) rfl (wpAny_bind (wpAny_field rc rfl (x := .ref TI) rfl (wpAny_bind (wpAny_seqItems ti rfl ?_)))))
  refine wpAny_bind (m := Builtin.SmallTypes.ownedTupleIsFree (.ref z)) ?_
  unfold Builtin.SmallTypes.ownedTupleIsFree
  refine wpAny_bind (wpAny_field rc rfl (x := .none) rfl (wpAny_pure ?_))
  refine wpAny_bind (wpAny_rule (wpAny_bind (wpAny_field rc rfl (x := .ref TO) rfl (wpAny_bind (wpAny_setField_rec rc (by simp) fun h0 rc0 sb0 => ?_)))))
  replace rc0 : Zs true h0 z TI TO .ellipsis := rc0
  replace sb0 : Heap.SameBut z hp h0 := sb0
  refine wpAny_bind ?_
  simp only [List.zipIdx_cons, List.zipIdx_nil, List.forIn_cons, List.forIn_nil]
  refine wpAny_bind (wpAny_bind (wpAny_onRaise ?_))
  refine draw_one (s := ⟨h0, gs, dr, tk, os⟩) D1 l1 (D1.over p1 sb0 S.zf1) fun x h1 t1 px s1 sb1 => ?_
  replace sb1 : Heap.SameBut i1 h0 h1 := sb1
  have tw1 : IsTupOf2 h1 TO a b := sb1.extBut _ _ S.Ti1 (sb0.extBut _ _ S.TOz tw)
  dsimp only
  refine wpAny_bind (wpAny_seqItems (s := ⟨h1, gs, dr, t1, os⟩) tw1 rfl (wpAny_bind (updateSeq_IsTupOf2 (s := ⟨h1, gs, dr, t1, os⟩) tw1 fun h2 tw2 sb2 => wpAny_bind (wpAny_letGo (wpAny_pure ?_)))))
  replace tw2 : IsTupOf2 h2 TO x b := tw2
  replace sb2 : Heap.SameBut TO h1 h2 := sb2
  refine wpAny_bind (wpAny_bind (wpAny_onRaise ?_))
  refine draw_one (s := ⟨h2, gs, dr, t1, os⟩) D2 l2 (D2.over (D2.over (D2.over p2 sb0 S.zf2) sb1 S.sep1_2) sb2 S.Tf2) fun y h3 t3 py s2 sb3 => ?_
  replace sb3 : Heap.SameBut i2 h2 h3 := sb3
  have tw3 : IsTupOf2 h3 TO x b := sb3.extBut _ _ S.Ti2 tw2
  dsimp only
  refine wpAny_bind (wpAny_seqItems (s := ⟨h3, gs, dr, t3, os⟩) tw3 rfl (wpAny_bind (updateSeq_IsTupOf2 (s := ⟨h3, gs, dr, t3, os⟩) tw3 fun h4 tw4 sb4 => wpAny_bind (wpAny_letGo (wpAny_pure (wpAny_pure ?_))))))
  replace tw4 : IsTupOf2 h4 TO x y := tw4
  replace sb4 : Heap.SameBut TO h3 h4 := sb4
  have size4 : h4.objs.size = hp.objs.size := by rw [sb4.1, sb3.1, sb2.1, sb1.1, sb0.1]
  have rc4 : Zs true h4 z TI TO .ellipsis := sb4.extBut _ _ S.TOz.symm (sb3.extBut _ _ S.zi2 (sb2.extBut _ _ S.TOz.symm (sb1.extBut _ _ S.zi1 rc0)))
  refine wpAny_bind (wpAny_seqItems (s := ⟨h4, gs, dr, t3, os⟩) tw4 rfl (wpAny_bind (wpAny_newTuple ?_)))
  refine wpAny_bind (m := Builtin.SmallTypes.ownedTupleHandOut (.ref z) (.ref h4.objs.size)) ?_
  unfold Builtin.SmallTypes.ownedTupleHandOut
  have rc5 : Zs true (h4.push { cls := .type "tuple", data := .seq #[x, y] }) z TI TO .ellipsis := Heap.get?_push_of_some _ rc4
  refine wpAny_bind (wpAny_setField_rec rc5 (by simp) fun h6 rc6 sb6 => ?_)
  replace rc6 : Zs true h6 z TI TO (rawInt h4.objs.size) := rc6
  refine wpAny_setField_rec rc6 (by simp) fun h7 rc7 sb7 => wpAny_pure ⟨_, rfl, ?_⟩
  replace rc7 : Zs true h7 z TI TO (rawInt h4.objs.size) := rc7
  replace sb6 : Heap.SameBut z (h4.push { cls := .type "tuple", data := .seq #[x, y] }) h6 := sb6
  replace sb7 : Heap.SameBut z h6 h7 := sb7
  have on : ∀ c o, c ≠ z → h4.get? c = some o → h7.get? c = some o := fun c o n e => sb7.extBut _ _ n (sb6.extBut _ _ n (Heap.get?_push_of_some _ e))
  have nw : IsTupOf2 h7 h4.objs.size x y := by
    have n : h4.objs.size ≠ z := by rw [size4]; exact Nat.ne_of_gt zlt
    exact sb7.extBut _ _ n (sb6.extBut _ _ n (Heap.get?_push_size _ rfl))
  have e1 : S1 (i + 1) h7 := D1.frame _ _ _ (D1.over (D1.over (D1.over s1 sb2 S.Tf1) sb3 S.sep2_1) sb4 S.Tf1) fun c m o e => on c o (fun w => S.zf1 (w ▸ m)) e
  have e2 : S2 (i + 1) h7 := D2.frame _ _ _ (D2.over s2 sb4 S.Tf2) fun c m o e => on c o (fun w => S.zf2 (w ▸ m)) e
  show Q (.ref h4.objs.size) ⟨h7, gs, dr, t3, os⟩
  rw [size4] at rc7 nw ⊢
  refine q x y h7 t3 px py rc7 (on _ _ S.TOz tw4) e1 e2 nw fun c o far e => ?_
  simp only [List.mem_cons, List.not_mem_nil, or_false, not_or] at far
  exact on c o far.1 (sb4.extBut _ _ far.2.1 (sb3.extBut _ _ far.2.2.2 (sb2.extBut _ _ far.2.1 (sb1.extBut _ _ far.2.2.1 (sb0.extBut _ _ far.1 e)))))
/-- both at their ends at once -/
theorem zs_end {Q : Fin → Shared → Prop} (calm : A.handled = none) (S : ZipSep2 z TI TO i1 i2 f1 f2) (D1 : Draws prog w A i1 f1 i P1 S1) (D2 : Draws prog w A i2 f2 i P2 S2) (rc : Zs true s.heap z TI TO .none) (ti : IsTupOf2 s.heap TI (.ref i1) (.ref i2)) (tw : IsTupOf2 s.heap TO a b) (p1 : S1 i s.heap) (p2 : S2 i s.heap)
    (q : ∀ h' tk e, (∀ c o, c ∉ [z, TO, i1, i2] → s.heap.get? c = some o → h'.get? c = some o) → (∃ o, h'.get? e = some o ∧ o.cls = .type "StopIteration") → E (.ref e) { s with heap := h', toks := tk }) :
    wpAny (model prog w) A (Builtin.«zip.__next__» ⟨[.ref z], []⟩) Q E s := by
  rcases s with ⟨hp, gs, dr, tk, os⟩
  dsimp only at rc ti tw p1 p2 q
  unfold Builtin.«zip.__next__»
  refine wpAny_bind (wpAny_of_eq (a := ((Value.ref z : Value), ([] : List Value))) (by first | rfl | (simp only [slotArgs]; rfl)) ?_)
  refine wpAny_bind (wpAny_field rc rfl (x := .bool true) rfl (wpAny_bind (wpAny_field rc rfl (x := .ref TI) rfl (wpAny_bind (wpAny_seqItems ti rfl ?_)))))
  refine wpAny_bind (m := Builtin.SmallTypes.ownedTupleIsFree (.ref z)) ?_
  unfold Builtin.SmallTypes.ownedTupleIsFree
  refine wpAny_bind (wpAny_field rc rfl (x := .none) rfl (wpAny_pure ?_))
  refine wpAny_bind (wpAny_rule (wpAny_bind (wpAny_field rc rfl (x := .ref TO) rfl (wpAny_bind (wpAny_setField_rec rc (by simp) fun h0 rc0 sb0 => ?_)))))
  replace rc0 : Zs true h0 z TI TO .ellipsis := rc0
  replace sb0 : Heap.SameBut z hp h0 := sb0
  refine wpAny_bind ?_
  simp only [List.zipIdx_cons, List.zipIdx_nil, List.forIn_cons, List.forIn_nil]
  refine wpAny_bind (wpAny_bind (wpAny_onRaise ?_))
  refine draw_end (s := ⟨h0, gs, dr, tk, os⟩) D1 (D1.over p1 sb0 S.zf1) fun h1 x1 => ?_
  replace x1 : Heap.ExtBut i1 h0 h1 := x1
  have rc1 : Zs true h1 z TI TO .ellipsis := x1 _ _ S.zi1 rc0
  dsimp only
  refine wpAny_bind (wpAny_setField_rec (s := ⟨h1, gs, dr, tk, os⟩) rc1 (by simp) fun h2 rc2 sb2 => ?_)
  replace rc2 : Zs true h2 z TI TO .none := rc2
  replace sb2 : Heap.SameBut z h1 h2 := sb2
  have p2' : S2 i h2 := D2.over (D2.frame _ _ _ (D2.over p2 sb0 S.zf2) fun c m o e => x1 c o (fun w => S.sep1_2 (w ▸ m)) e) sb2 S.zf2
  refine wpAny_bind ?_
  change wpAny _ _ (_ >>= _) _ _ _
  refine wpAny_bind ?_
  simp only [List.drop_succ_cons, List.drop_zero, List.zipIdx_cons, List.zipIdx_nil, List.forIn_cons, List.forIn_nil]
  refine wpAny_bind (wpAny_bind (draw_end (s := ⟨h2, gs, dr, tk, os⟩) D2 p2' fun h3 x3 => ?_))
  replace x3 : Heap.ExtBut i2 h2 h3 := x3
  rw [if_neg (by decide)]
  refine wpAny_pure (wpAny_pure (wpAny_bind (wpAny_rule ?_)))
  unfold Builtin.SmallTypes.stopIteration
  simp only [newExc, newTuple]
  refine wpAny_bind (wpAny_bind (wpAny_newObj_type (wpAny_bind (m := firstArgMember _ _) (wpAny_of_eq (a := Value.none) (by first | rfl | (simp only [firstArgMember]; rfl)) (wpAny_newObj_type ?_ (by size_fits)))) (by size_fits)))
  simp only [raiseNew]
  refine wpAny_bind (wpAny_handled ?_)
  rw [calm]
  refine wpAny_bind (wpAny_pure (wpAny_throw (q _ _ _ (fun c o far e => ?_) ⟨_, Heap.get?_push_size _ rfl, rfl⟩)))
  simp only [List.mem_cons, List.not_mem_nil, or_false, not_or] at far
  exact Heap.get?_push_of_some _ (Heap.get?_push_of_some _ (x3 _ _ far.2.2.2 (sb2.extBut _ _ far.1 (x1 _ _ far.2.2.1 (sb0.extBut _ _ far.1 e)))))
end
end Ma
set_option maxHeartbeats 4000000
/-! list(it) of an iterator whose items are new objects. -/
namespace Ma
open PySem PySem.Spec
/-- what gives n items, of which P tells -/
structure Src (prog : Program) (w : World) (A : Around) (I S : Addr) (wr : List Addr) (n : Nat) (P : Nat → Value → Heap → Prop) (St : Nat → Heap → Prop) : Prop where
  item : ∀ i (s : Shared) (Q : Option Value → Shared → Prop) (E : Value → Shared → Prop), i < n → St i s.heap → S < s.heap.objs.size →
    (∀ v h' tk, P i v h' → St (i + 1) h' → (∀ b o, b ∉ wr → s.heap.get? b = some o → h'.get? b = some o) → Q (some v) { s with heap := h', toks := tk }) → wpAny (model prog w) A (pyNext (.ref I)) Q E s
  done : ∀ (s : Shared) (Q : Option Value → Shared → Prop) (E : Value → Shared → Prop), St n s.heap →
    (∀ h' tk, (∀ b o, b ∉ wr → s.heap.get? b = some o → h'.get? b = some o) → Q none { s with heap := h', toks := tk }) → wpAny (model prog w) A (pyNext (.ref I)) Q E s
  grow : ∀ i h f, St i h → St i (h.update S f)
  stay : ∀ i v h h', P i v h → (∀ b o, b ∉ wr → b ≠ S → h.get? b = some o → h'.get? b = some o) → P i v h'
  out : S ∉ wr
section
variable {prog : Program} {w : World} {A : Around} {I S : Addr} {wr : List Addr} {n : Nat} {P : Nat → Value → Heap → Prop} {St : Nat → Heap → Prop} {s : Shared} {R : Result → Shared → Prop}
abbrev lobj (xs : Array Value) (c : Nat) : Obj := { cls := .type "list", dict := none, data := .seq xs c, slots := #[] }
/-- so many items stand in the list -/
def Got (P : Nat → Value → Heap → Prop) (h : Heap) (xs : Array Value) (n : Nat) : Prop := xs.size = n ∧ ∀ j v, xs[j]? = some v → P j v h
theorem src_loop (T : Src prog w A.in1 I S wr n P St) (fits : n ≤ sizeLine) (res : Value) (h0 : Heap)
    (fin : ∀ h tk xs c, (∀ b o, b ∉ wr → b ≠ S → h0.get? b = some o → h.get? b = some o) → h.get? S = some (lobj xs c) → Got P h xs n → R (.ok (.ret res)) { s with heap := h, toks := tk }) (left : Nat) :
    ∀ (i : Nat) (h : Heap) (tk c : Nat) (xs : Array Value), i + left = n → St i h → (∀ b o, b ∉ wr → b ≠ S → h0.get? b = some o → h.get? b = some o) → h.get? S = some (lobj xs c) → Got P h xs i →
      codeAny (model prog w) A (.builtin "list.extend.loop" ⟨[.ref S, .ref I, res], []⟩) R { s with heap := h, toks := tk } := by
  induction left with
  | zero =>
    rintro i h tk c xs rfl st kept at_ got
    refine codeAny_builtin F.entry_extend_loop ?_
    rw [Around.under_plainId F.plain_extend_loop _]
    exact wpAny_bind (T.done { s with heap := h, toks := tk } _ _ st fun h' tk' k => wpAny_pure (fin h' tk' xs c (fun b o n1 n2 e => k b o n1 (kept b o n1 n2 e)) (k S _ T.out at_) ⟨got.1, fun j v e => T.stay j v h h' (got.2 j v e) fun b o n1 _ => k b o n1⟩))
  | succ left ih =>
    intro i h tk c xs en st kept at_ got
    refine codeAny_builtin F.entry_extend_loop ?_
    rw [Around.under_plainId F.plain_extend_loop _]
    refine wpAny_bind (T.item i { s with heap := h, toks := tk } _ _ (by omega) st (Heap.lt_size at_) fun v h' tk' pv st' k => ?_)
    have at' := k S _ T.out at_
    have up : ∀ b o, b ≠ S → h'.get? b = some o → (h'.update S (Obj.mapSeq (·.push v))).get? b = some o := fun b o ne e => (Heap.get?_update_other _ _ (Ne.symm ne)).trans e
    change wpAny _ A.in1 (updateSeq S (·.push v) >>= _) _ _ _
    refine wpAny_bind (wpAny_updateSeq at' rfl (wpAny_pure ⟨plainId_quiet F.plain_extend_loop _, ih (i + 1) _ tk' _ (xs.push v) (by omega) (T.grow _ _ _ st') (fun b o n1 n2 e => up b o n2 (k b o n1 (kept b o n1 n2 e))) (Heap.get?_update_self _ at' rfl) ⟨by rw [Array.size_push, got.1], fun j u e => ?_⟩⟩) (by rw [got.1]; omega) (by show (xs.push v).size ≤ sizeLine + 1; rw [Array.size_push, got.1]; omega))
    rcases Nat.lt_trichotomy j xs.size with z | z | z
    · rw [Array.getElem?_push_lt z] at e
      exact T.stay j u h _ (got.2 j u (by rw [Array.getElem?_eq_getElem z]; exact e)) fun b o n1 n2 eb => up b o n2 (k b o n1 eb)
    · subst z
      rw [Array.getElem?_push_size] at e
      cases e
      rw [got.1]
      exact T.stay i v h' _ pv fun b o _ n2 eb => up b o n2 eb
    · rw [Array.getElem?_eq_none (by rw [Array.size_push]; omega)] at e
      cases e
end
end Ma
set_option maxHeartbeats 4000000
/-! zip(a, b, strict=True) whose last pair is still held; the list of it. -/
namespace Ma
open PySem PySem.Spec
/-- its record while the tuple T is out -/
abbrev Zh (st : Bool) (h : Heap) (z ts to_ T : Addr) (f : Bool) : Prop := h.get? z = some { cls := .type "zip", dict := none, data := .fields #[rawInt T, .bool f, .bool st, .ref ts, .ref to_], slots := #[] }
section
variable {prog : Program} {w : World} {A : Around} {E : Value → Shared → Prop} {s : Shared} {z TI TO T i1 i2 : Addr} {f : Bool} {oT : Obj} {f1 f2 : List Addr} {n1 n2 i : Nat} {P1 P2 : Nat → Value → Prop} {S1 S2 : Nat → Heap → Prop}
theorem zh_asked {st : Bool} {Q : Bool → Shared → Prop} (rc : Zh st s.heap z TI TO T f) (alive : s.heap.get? T = some oT) (q : ∀ h', Zh st h' z TI TO T true → Heap.SameBut z s.heap h' → Q false { s with heap := h' }) : wpAny (model prog w) A (Builtin.SmallTypes.ownedTupleIsFree (.ref z)) Q E s := by
  unfold Builtin.SmallTypes.ownedTupleIsFree
  refine wpAny_bind (wpAny_field rc rfl (x := rawInt T) rfl (?_ : wpAny _ _ (loadIfAlive ((T : Int).toNat) >>= _) _ _ _))
  rw [Int.toNat_natCast]
  refine wpAny_bind (PySem.W.kdx_alive alive ?_)
  rw [if_neg (by simp)]
  refine wpAny_bind (wpAny_field rc rfl (x := .bool f) rfl ?_)
  cases f
  · rw [if_pos (by decide)]
    exact wpAny_bind (wpAny_setField_rec rc (by simp) fun h' rc' sb => wpAny_pure (q h' rc' sb))
  · rw [if_neg (by decide)]
    exact wpAny_pure (q s.heap rc (Heap.SameBut.refl _ _))
theorem zh_item {Q : Value → Shared → Prop} (S : ZipSep2 z TI TO i1 i2 f1 f2) (D1 : Draws prog w A i1 f1 n1 P1 S1) (D2 : Draws prog w A i2 f2 n2 P2 S2) (rc : Zh true s.heap z TI TO T f) (alive : s.heap.get? T = some oT) (ti : IsTupOf2 s.heap TI (.ref i1) (.ref i2)) (p1 : S1 i s.heap) (p2 : S2 i s.heap) (l1 : i < n1) (l2 : i < n2)
    (q : ∀ x y h' tk, P1 i x → P2 i y → Zh true h' z TI TO T true → S1 (i + 1) h' → S2 (i + 1) h' → IsTupOf2 h' s.heap.objs.size x y → (∀ c o, c ∉ [z, i1, i2] → s.heap.get? c = some o → h'.get? c = some o) → Q (.ref s.heap.objs.size) { s with heap := h', toks := tk }) :
    wpAny (model prog w) A (Builtin.«zip.__next__» ⟨[.ref z], []⟩) (fun fin s' => ∃ v, fin = .done (.ret v) ∧ Q v s') E s := by
  rcases s with ⟨hp, gs, dr, tk, os⟩
  dsimp only at rc alive ti p1 p2 q
  unfold Builtin.«zip.__next__»
  refine wpAny_bind (wpAny_of_eq (a := ((Value.ref z : Value), ([] : List Value))) (by first | rfl | (simp only [slotArgs]; rfl)) ?_)
  refine wpAny_bind (wpAny_field rc rfl (x := .bool true) rfl (wpAny_bind (wpAny_field rc rfl (x := .ref TI) rfl (wpAny_bind (wpAny_seqItems ti rfl ?_)))))
  refine wpAny_bind (m := Builtin.SmallTypes.ownedTupleIsFree (.ref z)) (zh_asked rc alive fun h0 rc0 sb0 => ?_)
  replace sb0 : Heap.SameBut z hp h0 := sb0
  simp only [Bool.false_eq_true, if_false]
  refine wpAny_bind ?_
  rw [← Array.forIn_toList]
  simp only [List.forIn_cons, List.forIn_nil]
  refine wpAny_bind (wpAny_bind (wpAny_holding ?_))
  refine draw_one (s := ⟨h0, gs, dr, tk, os⟩) D1 l1 (D1.over p1 sb0 S.zf1) fun x h1 t1 px s1 sb1 => wpAny_pure ?_
  replace sb1 : Heap.SameBut i1 h0 h1 := sb1
  refine wpAny_bind (wpAny_bind (wpAny_holding ?_))
  refine draw_one (s := ⟨h1, gs, dr, t1, os⟩) D2 l2 (D2.over (D2.over p2 sb0 S.zf2) sb1 S.sep1_2) fun y h2 t2 py s2 sb2 => wpAny_pure (wpAny_pure ?_)
  replace sb2 : Heap.SameBut i2 h1 h2 := sb2
  change wpAny _ _ (newTuple [x, y] >>= _) _ _ _
  have size2 : h2.objs.size = hp.objs.size := by rw [sb2.1, sb1.1, sb0.1]
  refine wpAny_bind (wpAny_newTuple (wpAny_pure ⟨_, rfl, (?_ : Q (.ref h2.objs.size) _)⟩))
  have nw : IsTupOf2 (h2.push { cls := .type "tuple", data := .seq #[x, y] }) h2.objs.size x y := Heap.get?_push_size _ rfl
  rw [size2] at nw ⊢
  have on : ∀ {c o}, h2.get? c = some o → (h2.push { cls := .type "tuple", data := .seq #[x, y] }).get? c = some o := fun e => Heap.get?_push_of_some _ e
  refine q x y _ t2 px py (on (sb2.extBut _ _ S.zi2 (sb1.extBut _ _ S.zi1 rc0))) (D1.frame _ _ _ (D1.over s1 sb2 S.sep2_1) fun c m o e => on e) (D2.frame _ _ _ s2 fun c m o e => on e) nw fun c o far e => ?_
  simp only [List.mem_cons, List.not_mem_nil, or_false, not_or] at far
  exact on (sb2.extBut _ _ far.2.2 (sb1.extBut _ _ far.2.1 (sb0.extBut _ _ far.1 e)))
theorem zh_end {Q : Fin → Shared → Prop} (calm : A.handled = none) (S : ZipSep2 z TI TO i1 i2 f1 f2) (D1 : Draws prog w A i1 f1 i P1 S1) (D2 : Draws prog w A i2 f2 i P2 S2) (rc : Zh true s.heap z TI TO T f) (alive : s.heap.get? T = some oT) (ti : IsTupOf2 s.heap TI (.ref i1) (.ref i2)) (p1 : S1 i s.heap) (p2 : S2 i s.heap)
    (q : ∀ h' tk e, (∀ c o, c ∉ [z, i1, i2] → s.heap.get? c = some o → h'.get? c = some o) → (∃ o, h'.get? e = some o ∧ o.cls = .type "StopIteration") → E (.ref e) { s with heap := h', toks := tk }) :
    wpAny (model prog w) A (Builtin.«zip.__next__» ⟨[.ref z], []⟩) Q E s := by
  rcases s with ⟨hp, gs, dr, tk, os⟩
  dsimp only at rc alive ti p1 p2 q
  unfold Builtin.«zip.__next__»
  refine wpAny_bind (wpAny_of_eq (a := ((Value.ref z : Value), ([] : List Value))) (by first | rfl | (simp only [slotArgs]; rfl)) ?_)
  refine wpAny_bind (wpAny_field rc rfl (x := .bool true) rfl (wpAny_bind (wpAny_field rc rfl (x := .ref TI) rfl (wpAny_bind (wpAny_seqItems ti rfl ?_)))))
  refine wpAny_bind (m := Builtin.SmallTypes.ownedTupleIsFree (.ref z)) (zh_asked rc alive fun h0 rc0 sb0 => ?_)
  replace sb0 : Heap.SameBut z hp h0 := sb0
  simp only [Bool.false_eq_true, if_false]
  refine wpAny_bind ?_
  rw [← Array.forIn_toList]
  simp only [List.forIn_cons, List.forIn_nil]
  refine wpAny_bind (wpAny_bind (wpAny_holding ?_))
  refine draw_end (s := ⟨h0, gs, dr, tk, os⟩) D1 (D1.over p1 sb0 S.zf1) fun h1 x1 => ?_
  replace x1 : Heap.ExtBut i1 h0 h1 := x1
  refine wpAny_bind ?_
  change wpAny _ _ (_ >>= _) _ _ _
  refine wpAny_bind ?_
  have p2' : S2 i h1 := D2.frame _ _ _ (D2.over p2 sb0 S.zf2) fun c m o e => x1 c o (fun w => S.sep1_2 (w ▸ m)) e
  simp only [List.drop_succ_cons, List.drop_zero, List.zipIdx_cons, List.zipIdx_nil, List.forIn_cons, List.forIn_nil]
  refine wpAny_bind (wpAny_bind (draw_end (s := ⟨h1, gs, dr, tk, os⟩) D2 p2' fun h3 x3 => ?_))
  replace x3 : Heap.ExtBut i2 h1 h3 := x3
  rw [if_neg (by decide)]
  refine wpAny_pure (wpAny_pure (wpAny_bind (wpAny_rule ?_)))
  unfold Builtin.SmallTypes.stopIteration
  simp only [newExc, newTuple]
  refine wpAny_bind (wpAny_bind (wpAny_newObj_type (wpAny_bind (m := firstArgMember _ _) (wpAny_of_eq (a := Value.none) (by first | rfl | (simp only [firstArgMember]; rfl)) (wpAny_newObj_type ?_ (by size_fits)))) (by size_fits)))
  simp only [raiseNew]
  refine wpAny_bind (wpAny_handled ?_)
  rw [calm]
  refine wpAny_bind (wpAny_pure (wpAny_throw (q _ _ _ (fun c o far e => ?_) ⟨_, Heap.get?_push_size _ rfl, rfl⟩)))
  simp only [List.mem_cons, List.not_mem_nil, or_false, not_or] at far
  exact Heap.get?_push_of_some _ (Heap.get?_push_of_some _ (x3 _ _ far.2.2 (x1 _ _ far.2.1 (sb0.extBut _ _ far.1 e))))
/-- not strict: an item -/
theorem zn_item {Q : Value → Shared → Prop} (S : ZipSep2 z TI TO i1 i2 f1 f2) (D1 : Draws prog w A i1 f1 n1 P1 S1) (D2 : Draws prog w A i2 f2 n2 P2 S2) (rc : Zh false s.heap z TI TO T f) (alive : s.heap.get? T = some oT) (ti : IsTupOf2 s.heap TI (.ref i1) (.ref i2)) (p1 : S1 i s.heap) (p2 : S2 i s.heap) (l1 : i < n1) (l2 : i < n2)
    (q : ∀ x y h' tk, P1 i x → P2 i y → Zh false h' z TI TO T true → S1 (i + 1) h' → S2 (i + 1) h' → IsTupOf2 h' s.heap.objs.size x y → (∀ c o, c ∉ [z, i1, i2] → s.heap.get? c = some o → h'.get? c = some o) → Q (.ref s.heap.objs.size) { s with heap := h', toks := tk }) :
    wpAny (model prog w) A (Builtin.«zip.__next__» ⟨[.ref z], []⟩) (fun fin s' => ∃ v, fin = .done (.ret v) ∧ Q v s') E s := by
  rcases s with ⟨hp, gs, dr, tk, os⟩
  dsimp only at rc alive ti p1 p2 q
  unfold Builtin.«zip.__next__»
  refine wpAny_bind (wpAny_of_eq (a := ((Value.ref z : Value), ([] : List Value))) (by first | rfl | (simp only [slotArgs]; rfl)) ?_)
  refine wpAny_bind (wpAny_field rc rfl (x := .bool false) rfl (wpAny_bind (wpAny_field rc rfl (x := .ref TI) rfl (wpAny_bind (wpAny_seqItems ti rfl ?_)))))
  refine wpAny_bind (m := Builtin.SmallTypes.ownedTupleIsFree (.ref z)) (zh_asked rc alive fun h0 rc0 sb0 => ?_)
  replace sb0 : Heap.SameBut z hp h0 := sb0
  simp only [Bool.false_eq_true, if_false]
  refine wpAny_bind ?_
  rw [← Array.forIn_toList]
  simp only [List.forIn_cons, List.forIn_nil]
  refine wpAny_bind (wpAny_bind (wpAny_holding ?_))
  change wpAny _ _ (Builtin.SmallTypes.nextOf (.ref i1) >>= _) _ _ ⟨h0, gs, dr, tk, os⟩
  refine wpAny_bind (D1.item i ⟨h0, gs, dr, tk, os⟩ _ _ l1 (D1.over p1 sb0 S.zf1) fun x h1 t1 px s1 sb1 => wpAny_pure (wpAny_pure ?_))
  replace sb1 : Heap.SameBut i1 h0 h1 := sb1
  refine wpAny_bind (wpAny_bind (wpAny_holding ?_))
  change wpAny _ _ (Builtin.SmallTypes.nextOf (.ref i2) >>= _) _ _ ⟨h1, gs, dr, t1, os⟩
  refine wpAny_bind (D2.item i ⟨h1, gs, dr, t1, os⟩ _ _ l2 (D2.over (D2.over p2 sb0 S.zf2) sb1 S.sep1_2) fun y h2 t2 py s2 sb2 => wpAny_pure (wpAny_pure (wpAny_pure ?_)))
  replace sb2 : Heap.SameBut i2 h1 h2 := sb2
  change wpAny _ _ (newTuple [x, y] >>= _) _ _ _
  have size2 : h2.objs.size = hp.objs.size := by rw [sb2.1, sb1.1, sb0.1]
  refine wpAny_bind (wpAny_newTuple (wpAny_pure ⟨_, rfl, (?_ : Q (.ref h2.objs.size) _)⟩))
  have nw : IsTupOf2 (h2.push { cls := .type "tuple", data := .seq #[x, y] }) h2.objs.size x y := Heap.get?_push_size _ rfl
  rw [size2] at nw ⊢
  have on : ∀ {c o}, h2.get? c = some o → (h2.push { cls := .type "tuple", data := .seq #[x, y] }).get? c = some o := fun e => Heap.get?_push_of_some _ e
  refine q x y _ t2 px py (on (sb2.extBut _ _ S.zi2 (sb1.extBut _ _ S.zi1 rc0))) (D1.frame _ _ _ (D1.over s1 sb2 S.sep2_1) fun c m o e => on e) (D2.frame _ _ _ s2 fun c m o e => on e) nw fun c o far e => ?_
  simp only [List.mem_cons, List.not_mem_nil, or_false, not_or] at far
  exact on (sb2.extBut _ _ far.2.2 (sb1.extBut _ _ far.2.1 (sb0.extBut _ _ far.1 e)))
/-- .. the end: the first has none -/
theorem zn_end {Q : Fin → Shared → Prop} (S : ZipSep2 z TI TO i1 i2 f1 f2) (D1 : Draws prog w A i1 f1 i P1 S1) (rc : Zh false s.heap z TI TO T f) (alive : s.heap.get? T = some oT) (ti : IsTupOf2 s.heap TI (.ref i1) (.ref i2)) (p1 : S1 i s.heap)
    (q : ∀ h' tk e, (∀ c o, c ∉ [z, i1, i2] → s.heap.get? c = some o → h'.get? c = some o) → (∃ o, h'.get? e = some o ∧ o.cls = .type "StopIteration") → E (.ref e) { s with heap := h', toks := tk }) :
    wpAny (model prog w) A (Builtin.«zip.__next__» ⟨[.ref z], []⟩) Q E s := by
  rcases s with ⟨hp, gs, dr, tk, os⟩
  dsimp only at rc alive ti p1 q
  unfold Builtin.«zip.__next__»
  refine wpAny_bind (wpAny_of_eq (a := ((Value.ref z : Value), ([] : List Value))) (by first | rfl | (simp only [slotArgs]; rfl)) ?_)
  refine wpAny_bind (wpAny_field rc rfl (x := .bool false) rfl (wpAny_bind (wpAny_field rc rfl (x := .ref TI) rfl (wpAny_bind (wpAny_seqItems ti rfl ?_)))))
  refine wpAny_bind (m := Builtin.SmallTypes.ownedTupleIsFree (.ref z)) (zh_asked rc alive fun h0 rc0 sb0 => ?_)
  replace sb0 : Heap.SameBut z hp h0 := sb0
  simp only [Bool.false_eq_true, if_false]
  refine wpAny_bind ?_
  rw [← Array.forIn_toList]
  simp only [List.forIn_cons, List.forIn_nil]
  refine wpAny_bind (wpAny_bind (wpAny_holding ?_))
  change wpAny _ _ (Builtin.SmallTypes.nextOf (.ref i1) >>= _) _ _ ⟨h0, gs, dr, tk, os⟩
  refine wpAny_bind (D1.done ⟨h0, gs, dr, tk, os⟩ _ _ (D1.over p1 sb0 S.zf1) fun h1 e x1 st => q h1 tk e (fun c o far ec => ?_) st)
  replace x1 : Heap.ExtBut i1 h0 h1 := x1
  simp only [List.mem_cons, List.not_mem_nil, or_false, not_or] at far
  exact x1 _ _ far.2.1 (sb0.extBut _ _ far.1 ec)
/-- whichever it is -/
theorem zf_item {ss : Bool} {a b : Value} {Q : Value → Shared → Prop} (S : ZipSep2 z TI TO i1 i2 f1 f2) (D1 : Draws prog w A i1 f1 n1 P1 S1) (D2 : Draws prog w A i2 f2 n2 P2 S2) (rc : Zs ss s.heap z TI TO .none) (ti : IsTupOf2 s.heap TI (.ref i1) (.ref i2)) (tw : IsTupOf2 s.heap TO a b) (p1 : S1 i s.heap) (p2 : S2 i s.heap) (l1 : i < n1) (l2 : i < n2)
    (q : ∀ x y h' tk, P1 i x → P2 i y → Zs ss h' z TI TO (rawInt s.heap.objs.size) → IsTupOf2 h' TO x y → S1 (i + 1) h' → S2 (i + 1) h' → IsTupOf2 h' s.heap.objs.size x y → (∀ c o, c ∉ [z, TO, i1, i2] → s.heap.get? c = some o → h'.get? c = some o) → Q (.ref s.heap.objs.size) { s with heap := h', toks := tk }) :
    wpAny (model prog w) A (Builtin.«zip.__next__» ⟨[.ref z], []⟩) (fun fin s' => ∃ v, fin = .done (.ret v) ∧ Q v s') E s := by
  cases ss with
  | true => exact zs_item S D1 D2 rc ti tw p1 p2 l1 l2 q
  | false => exact zipD2_next_item S D1 D2 rc ti tw p1 p2 l1 l2 fun x y h' tk px py rc' tw' s1 s2 nw _ k => q x y h' tk px py rc' tw' s1 s2 nw fun c o far e => k c o (fun m => far (by simp [m])) (fun m => far (by simp [m])) (fun m => far (by simp [m])) (fun m => far (by simp [m])) e
theorem zf_end {ss : Bool} {a b : Value} {Q : Fin → Shared → Prop} (calm : A.handled = none) (S : ZipSep2 z TI TO i1 i2 f1 f2) (D1 : Draws prog w A i1 f1 i P1 S1) (D2 : Draws prog w A i2 f2 i P2 S2) (rc : Zs ss s.heap z TI TO .none) (ti : IsTupOf2 s.heap TI (.ref i1) (.ref i2)) (tw : IsTupOf2 s.heap TO a b) (p1 : S1 i s.heap) (p2 : S2 i s.heap)
    (q : ∀ h' tk e, (∀ c o, c ∉ [z, TO, i1, i2] → s.heap.get? c = some o → h'.get? c = some o) → (∃ o, h'.get? e = some o ∧ o.cls = .type "StopIteration") → E (.ref e) { s with heap := h', toks := tk }) :
    wpAny (model prog w) A (Builtin.«zip.__next__» ⟨[.ref z], []⟩) Q E s := by
  cases ss with
  | true => exact zs_end calm S D1 D2 rc ti tw p1 p2 q
  | false => exact zipD2_next_end S D1 D2 rc ti tw p1 p2 (Nat.le_refl _) (Nat.le_refl _) (.inl rfl) fun h' tk e k x => q h' tk e (fun c o far ec => k c o (fun m => far (by simp [m])) (fun m => far (by simp [m])) (fun m => far (by simp [m])) (fun m => far (by simp [m])) ec) x
theorem zg_item {ss : Bool} {Q : Value → Shared → Prop} (S : ZipSep2 z TI TO i1 i2 f1 f2) (D1 : Draws prog w A i1 f1 n1 P1 S1) (D2 : Draws prog w A i2 f2 n2 P2 S2) (rc : Zh ss s.heap z TI TO T f) (alive : s.heap.get? T = some oT) (ti : IsTupOf2 s.heap TI (.ref i1) (.ref i2)) (p1 : S1 i s.heap) (p2 : S2 i s.heap) (l1 : i < n1) (l2 : i < n2)
    (q : ∀ x y h' tk, P1 i x → P2 i y → Zh ss h' z TI TO T true → S1 (i + 1) h' → S2 (i + 1) h' → IsTupOf2 h' s.heap.objs.size x y → (∀ c o, c ∉ [z, i1, i2] → s.heap.get? c = some o → h'.get? c = some o) → Q (.ref s.heap.objs.size) { s with heap := h', toks := tk }) :
    wpAny (model prog w) A (Builtin.«zip.__next__» ⟨[.ref z], []⟩) (fun fin s' => ∃ v, fin = .done (.ret v) ∧ Q v s') E s := by
  cases ss with
  | true => exact zh_item S D1 D2 rc alive ti p1 p2 l1 l2 q
  | false => exact zn_item S D1 D2 rc alive ti p1 p2 l1 l2 q
theorem zg_end {ss : Bool} {Q : Fin → Shared → Prop} (calm : A.handled = none) (S : ZipSep2 z TI TO i1 i2 f1 f2) (D1 : Draws prog w A i1 f1 i P1 S1) (D2 : Draws prog w A i2 f2 i P2 S2) (rc : Zh ss s.heap z TI TO T f) (alive : s.heap.get? T = some oT) (ti : IsTupOf2 s.heap TI (.ref i1) (.ref i2)) (p1 : S1 i s.heap) (p2 : S2 i s.heap)
    (q : ∀ h' tk e, (∀ c o, c ∉ [z, i1, i2] → s.heap.get? c = some o → h'.get? c = some o) → (∃ o, h'.get? e = some o ∧ o.cls = .type "StopIteration") → E (.ref e) { s with heap := h', toks := tk }) :
    wpAny (model prog w) A (Builtin.«zip.__next__» ⟨[.ref z], []⟩) Q E s := by
  cases ss with
  | true => exact zh_end calm S D1 D2 rc alive ti p1 p2 q
  | false => exact zn_end S D1 rc alive ti p1 q
/-! ### next -/
theorem in4 {z t a b c : Addr} {l : List Addr} (m : c ∈ [z, a, b]) : c ∈ z :: t :: a :: b :: l := by
  simp only [List.mem_cons, List.not_mem_nil, or_false] at m ⊢
  rcases m with h | h | h
  · exact .inl h
  · exact .inr (.inr (.inl h))
  · exact .inr (.inr (.inr (.inl h)))
/-- the state of a walk's zip: nothing given yet, or the last pair held -/
def Zst (st : Bool) (h : Heap) (z TI TO i1 i2 : Addr) (far : List Addr) : Prop := IsTupOf2 h TI (.ref i1) (.ref i2) ∧ ((Zs st h z TI TO .none ∧ ∃ a b, IsTupOf2 h TO a b) ∨ ∃ T f o, T ∉ z :: TO :: i1 :: i2 :: far ∧ Zh st h z TI TO T f ∧ h.get? T = some o)
theorem zip_next {ss : Bool} {Q : Option Value → Shared → Prop} {far : List Addr} (S : ZipSep2 z TI TO i1 i2 f1 f2) (D1 : Draws prog w A.in1 i1 f1 n1 P1 S1) (D2 : Draws prog w A.in1 i2 f2 n2 P2 S2) (st : Zst ss s.heap z TI TO i1 i2 far) (p1 : S1 i s.heap) (p2 : S2 i s.heap) (l1 : i < n1) (l2 : i < n2) (low : ∀ c ∈ far, c < s.heap.objs.size)
    (q : ∀ x y h' tk, P1 i x → P2 i y → Zst ss h' z TI TO i1 i2 far → S1 (i + 1) h' → S2 (i + 1) h' → IsTupOf2 h' s.heap.objs.size x y → (∀ c o, c ∉ [z, TO, i1, i2] → s.heap.get? c = some o → h'.get? c = some o) → Q (some (.ref s.heap.objs.size)) { s with heap := h', toks := tk }) :
    wpAny (model prog w) A (pyNext (.ref z)) Q E s := by
  obtain ⟨ti, st⟩ := st
  obtain ⟨o1, e1⟩ := D1.live _ _ p1
  obtain ⟨o2, e2⟩ := D2.live _ _ p2
  have tiN : TI ∉ [z, TO, i1, i2] := by simp [S.TIz, S.TITO, S.TIi1, S.TIi2]
  unfold pyNext
  rcases st with ⟨rc, a, b, tw⟩ | ⟨T, f, o, tf, rc, al⟩
  · refine wpAny_bind (wpAny_attempt (wpAny_callSpecial?_slot (name := Str.ofString "__next__") (⟨_, rc, rfl⟩ : s.TypeIs (.ref z) "zip") F.slot_zip_next (wpAny_call_entry F.slot_zip_next ⟨_, rc, rfl⟩ F.entry_zip_next (zf_item S D1 D2 rc ti tw p1 p2 l1 l2 fun x y h' tk px py rc' tw' s1 s2 nw k => wpAny_pure ?_) (F.args_zip_next_1 _))))
    refine q x y h' tk px py ⟨k _ _ tiN ti, .inr ⟨_, false, _, fun m => ?_, rc', nw⟩⟩ s1 s2 nw k
    have lt : ∀ c ∈ z :: TO :: i1 :: i2 :: far, c < s.heap.objs.size := by
      intro c hc
      simp only [List.mem_cons] at hc
      rcases hc with rfl | rfl | rfl | rfl | hc
      · exact Heap.lt_size rc
      · exact Heap.lt_size tw
      · exact Heap.lt_size e1
      · exact Heap.lt_size e2
      · exact low c hc
    exact Nat.lt_irrefl _ (lt _ m)
  · refine wpAny_bind (wpAny_attempt (wpAny_callSpecial?_slot (name := Str.ofString "__next__") (⟨_, rc, rfl⟩ : s.TypeIs (.ref z) "zip") F.slot_zip_next (wpAny_call_entry F.slot_zip_next ⟨_, rc, rfl⟩ F.entry_zip_next (zg_item S D1 D2 rc al ti p1 p2 l1 l2 fun x y h' tk px py rc' s1 s2 nw k => wpAny_pure ?_) (F.args_zip_next_1 _))))
    have k' : ∀ c o, c ∉ [z, TO, i1, i2] → s.heap.get? c = some o → h'.get? c = some o := fun c o n e => k c o (fun m => n (in4 m)) e
    refine q x y h' tk px py ⟨k' _ _ tiN ti, .inr ⟨T, true, o, tf, rc', k T o (fun m => tf (in4 m)) al⟩⟩ s1 s2 nw k'
theorem zip_over {ss : Bool} {Q : Option Value → Shared → Prop} {far : List Addr} (calm : A.handled = none) (S : ZipSep2 z TI TO i1 i2 f1 f2) (D1 : Draws prog w A.in1 i1 f1 i P1 S1) (D2 : Draws prog w A.in1 i2 f2 i P2 S2) (st : Zst ss s.heap z TI TO i1 i2 far) (p1 : S1 i s.heap) (p2 : S2 i s.heap)
    (q : ∀ h' tk, (∀ c o, c ∉ [z, TO, i1, i2] → s.heap.get? c = some o → h'.get? c = some o) → Q none { s with heap := h', toks := tk }) : wpAny (model prog w) A (pyNext (.ref z)) Q E s := by
  obtain ⟨ti, st⟩ := st
  unfold pyNext
  have fin : ∀ h' tk e, (∀ c o, c ∉ [z, TO, i1, i2] → s.heap.get? c = some o → h'.get? c = some o) → (∃ o, h'.get? e = some o ∧ o.cls = .type "StopIteration") → wpAny (model prog w) A (do if ← isInstance (.ref e) (.type "StopIteration") then pure none else throw (.ref e)) Q E { s with heap := h', toks := tk } := fun h' tk e k ⟨o, eo, co⟩ =>
    wpAny_bind (wpAny_isInstance (T := "StopIteration") (b := true) ⟨o, eo, co⟩ isSubtype_stop (wpAny_pure (q h' tk k)))
  rcases st with ⟨rc, a, b, tw⟩ | ⟨T, f, o, tf, rc, al⟩
  · exact wpAny_bind (wpAny_attempt (wpAny_callSpecial?_slot (name := Str.ofString "__next__") (⟨_, rc, rfl⟩ : s.TypeIs (.ref z) "zip") F.slot_zip_next (wpAny_call_entry F.slot_zip_next ⟨_, rc, rfl⟩ F.entry_zip_next (zf_end calm S D1 D2 rc ti tw p1 p2 fun h' tk e k x => fin h' tk e k x) (F.args_zip_next_1 _))))
  · exact wpAny_bind (wpAny_attempt (wpAny_callSpecial?_slot (name := Str.ofString "__next__") (⟨_, rc, rfl⟩ : s.TypeIs (.ref z) "zip") F.slot_zip_next (wpAny_call_entry F.slot_zip_next ⟨_, rc, rfl⟩ F.entry_zip_next (zg_end calm S D1 D2 rc al ti p1 p2 fun h' tk e k x => fin h' tk e (fun c o n => k c o (fun m => n (in4 m))) x) (F.args_zip_next_1 _))))
theorem zip_self {ss : Bool} {Q : Value → Shared → Prop} {far : List Addr} (st : Zst ss s.heap z TI TO i1 i2 far) (q : Q (.ref z) s) : wpAny (model prog w) A (pyIter (.ref z)) Q E s := by
  have ty : s.TypeIs (.ref z) "zip" := by
    rcases st.2 with ⟨rc, _⟩ | ⟨_, _, _, _, rc, _⟩ <;> exact ⟨_, rc, rfl⟩
  refine wpAny_pyIter_slot ty F.slot_zip_iter (wpAny_call_entry F.slot_zip_iter ty F.entry_zip_iter (?_ : wpAny _ _ (ret (.ref z)) _ _ s) (F.args_zip_iter_1 _))
  exact wpAny_pure ⟨_, rfl, "zip", _, ty, F.slot_zip_next.lookup, q⟩
end
end Ma
set_option maxHeartbeats 4000000
/-! zip(a, b, strict=True): its making; list of a source. -/
namespace Ma
open PySem PySem.Spec
theorem tc_zs (a b c : Value) : checkTypeCall "zip" ⟨[a, b], [(Str.ofString "strict", c)]⟩ = pure () := by kernel_rfl
theorem nc_zs (a b c : Value) : checkBuiltinCall "zip.__new__" ⟨[.type "zip", a, b], [(Str.ofString "strict", c)]⟩ = pure () := by kernel_rfl
theorem oi_zs (obj a b c : Value) : argsOk "object.__init__" ⟨[obj, a, b], [(Str.ofString "strict", c)]⟩ := by
  unfold argsOk; kernel_rfl
abbrev zsA (h : Heap) (o1 o2 : Obj) : Heap := ((h.push o1).push o2).push { cls := .type "tuple", data := .seq #[.ref h.objs.size, .ref (h.push o1).objs.size] }
abbrev zsB (h : Heap) (o1 o2 : Obj) : Heap := (zsA h o1 o2).push { cls := .type "tuple", data := .seq #[.none, .none] }
abbrev zsC (h : Heap) (o1 o2 : Obj) : Heap := (zsB h o1 o2).push { cls := .type "zip", data := .fields #[.none, .bool false, .bool true, .ref ((h.push o1).push o2).objs.size, .ref (zsA h o1 o2).objs.size] }
theorem zs_new {v1 v2 : Value} {o1 o2 : Obj} {H1 H2 : Heap → Prop} (B1 : Begins v1 o1 H1) (B2 : Begins v2 o2 H2) : Meets (Builtin.«zip.__new__» ⟨[.type "zip", v1, v2], [(Str.ofString "strict", .bool true)]⟩) fun _ R s => (H1 s.heap ∧ H2 s.heap) ∧
    R (.ok (.ret (.ref (zsB s.heap o1 o2).objs.size))) { s with heap := zsC s.heap o1 o2 } := by
  refine .of_wp fun prog w A R st hyp => ?_
  rcases st with ⟨hp, gs, dr, tk, os⟩
  rcases hyp with ⟨⟨k1, k2⟩, done⟩
  have sub := sub_zip
  have it1 : ∀ {A' : Around} {E : Value → Shared → Prop} {Q : Value → Shared → Prop}, Q (.ref hp.objs.size) ⟨hp.push o1, gs, dr, tk, os⟩ → wpAny (model prog w) A' (pyIter v1) Q E ⟨hp, gs, dr, tk, os⟩ := fun q => B1.iter prog w _ _ ⟨hp, gs, dr, tk, os⟩ _ k1 q
  have it2 : ∀ {A' : Around} {E : Value → Shared → Prop} {Q : Value → Shared → Prop}, Q (.ref (hp.push o1).objs.size) ⟨(hp.push o1).push o2, gs, dr, tk, os⟩ → wpAny (model prog w) A' (pyIter v2) Q E ⟨hp.push o1, gs, dr, tk, os⟩ := fun q => B2.iter prog w _ _ ⟨hp.push o1, gs, dr, tk, os⟩ _ (B2.keeps hp _ k2 fun b o e => Heap.get?_push_of_some _ e) q
  have e1 : (Str.ofString "strict" != ("strict" : Str)) = false := by decide +kernel
  wp_walk using it1, it2
  all_goals exact ⟨_, rfl, done⟩
/-- zip(v1, v2, strict=True), called -/
theorem zs_made {prog : Program} {w : World} {A : Around} {E : Value → Shared → Prop} {s : Shared} {v1 v2 : Value} {o1 o2 : Obj} {H1 H2 : Heap → Prop} {Q : Value → Shared → Prop} (B1 : Begins v1 o1 H1) (B2 : Begins v2 o2 H2) (k1 : H1 s.heap) (k2 : H2 s.heap)
    (q : ∀ h' : Heap, Zs true h' (s.heap.objs.size + 4) (s.heap.objs.size + 2) (s.heap.objs.size + 3) .none → IsTupOf2 h' (s.heap.objs.size + 2) (.ref s.heap.objs.size) (.ref (s.heap.objs.size + 1)) → IsTupOf2 h' (s.heap.objs.size + 3) .none .none → h'.get? s.heap.objs.size = some o1 → h'.get? (s.heap.objs.size + 1) = some o2 →
      h'.objs.size = s.heap.objs.size + 5 → (∀ b u, s.heap.get? b = some u → h'.get? b = some u) → Q (.ref (s.heap.objs.size + 4)) { s with heap := h' }) :
    wpAny (model prog w) A (call (.type "zip") [v1, v2] [(Str.ofString "strict", .bool true)]) Q E s := by
  have n1 : (s.heap.push o1).objs.size = s.heap.objs.size + 1 := Heap.size_push ..
  have n2 : ((s.heap.push o1).push o2).objs.size = s.heap.objs.size + 2 := by rw [Heap.size_push, n1]
  have n3 : (zsA s.heap o1 o2).objs.size = s.heap.objs.size + 3 := by rw [zsA, Heap.size_push, n2]
  have n4 : (zsB s.heap o1 o2).objs.size = s.heap.objs.size + 4 := by rw [zsB, Heap.size_push, n3]
  have n5 : (zsC s.heap o1 o2).objs.size = s.heap.objs.size + 5 := by rw [zsC, Heap.size_push, n4]
  refine callType_newKw F.called_zip (by decide) (tc_zs _ _ _) (nc_zs _ _ _) (fun obj => oi_zs obj _ _ _) F.entry_zip_new (zs_new B1 B2) ⟨⟨k1, k2⟩, ?_⟩
  have up : ∀ {b o} (x y z : Obj), ((s.heap.push o1).push o2).get? b = some o → ((((s.heap.push o1).push o2).push x).push y |>.push z).get? b = some o := fun x y z e => Heap.get?_push_of_some _ (Heap.get?_push_of_some _ (Heap.get?_push_of_some _ e))
  have g5 : Zs true (zsC s.heap o1 o2) (s.heap.objs.size + 4) (s.heap.objs.size + 2) (s.heap.objs.size + 3) .none := by
    have z : (zsC s.heap o1 o2).get? (zsB s.heap o1 o2).objs.size = some { cls := .type "zip", data := .fields #[.none, .bool false, .bool true, .ref ((s.heap.push o1).push o2).objs.size, .ref (zsA s.heap o1 o2).objs.size] } := Heap.get?_push_size (zsB s.heap o1 o2) rfl
    rw [n4] at z
    exact z.trans (by rw [n2, n3])
  show _ ∧ _
  rw [n4]
  refine ⟨⟨_, g5, rfl⟩, q _ g5 ?_ ?_ (up _ _ _ (Heap.get?_push_of_some _ (Heap.get?_push_size _ B1.free))) ?_ n5 fun b u e => up _ _ _ (Heap.get?_push_of_some _ (Heap.get?_push_of_some _ e))⟩
  · have := Heap.get?_push_size ((s.heap.push o1).push o2) (o := { cls := .type "tuple", data := .seq #[.ref s.heap.objs.size, .ref (s.heap.push o1).objs.size] }) rfl
    rw [n2, n1] at this
    have z := Heap.get?_push_of_some { cls := .type "zip", data := .fields #[.none, .bool false, .bool true, .ref ((s.heap.push o1).push o2).objs.size, .ref (zsA s.heap o1 o2).objs.size] } (Heap.get?_push_of_some { cls := .type "tuple", data := .seq #[.none, .none] } this)
    rw [← n1] at z
    rw [← n1]
    exact z
  · have := Heap.get?_push_size (zsA s.heap o1 o2) (o := { cls := .type "tuple", data := .seq #[.none, .none] }) rfl
    rw [n3] at this
    exact Heap.get?_push_of_some _ this
  · have := Heap.get?_push_size (s.heap.push o1) B2.free
    rw [n1] at this
    exact up _ _ _ this
end Ma
set_option maxHeartbeats 4000000
/-! list(it), it a zip. -/
namespace Ma
open PySem PySem.Spec
theorem zip_noLen : typeLookup (.type "zip") "__len__" = pure none := am_miss_of_fast (by decide +kernel)
theorem zip_noHint : typeLookup (.type "zip") "__length_hint__" = pure none := am_miss_of_fast (by decide +kernel)
section
variable {prog : Program} {w : World} {A : Around} {E : Value → Shared → Prop} {I S : Addr} {wr : List Addr} {n : Nat} {P : Nat → Value → Heap → Prop} {St : Nat → Heap → Prop} {s : Shared} {R : Result → Shared → Prop}
/-- what is extended by a source ends with its items -/
theorem src_extend (T : Src prog w A.in1 I S wr n P St) (ty : s.TypeIs (.ref I) "zip") (self : ∀ Q E, Q (Value.ref I) s → wpAny (model prog w) A.in1 (pyIter (.ref I)) Q E s) (ne : S ≠ I) (st : St 0 s.heap) (c : Nat) (at_ : s.heap.get? S = some (lobj #[] c)) (res : Value) (fits : n ≤ sizeLine)
    (fin : ∀ h tk xs c, (∀ b o, b ∉ wr → b ≠ S → s.heap.get? b = some o → h.get? b = some o) → h.get? S = some (lobj xs c) → Got P h xs n → R (.ok (.ret res)) { s with heap := h, toks := tk }) :
    wpAny (model prog w) A.in1 (Builtin.List.listExtendWith (.ref S) (.ref I) res)
      (fun fin s' => match fin with | .done f => R (.ok f) s' | .again c' => c'.quiet = true ∧ codeAny (model prog w) A c' R s') (fun e s' => R (.error e) s') s := by
  have a1 : Builtin.List.listSameRef (.ref S) (.ref I) = false := by simp [Builtin.List.listSameRef, ne]
  have a2 : (Value.type "zip" == Value.type "list") = false := by decide
  have a3 : (Value.type "zip" == Value.type "tuple") = false := by decide
  unfold Builtin.List.listExtendWith
  refine wpAny_bind (wpAny_typeOf ty ?_)
  rw [if_neg (by rw [a1, a2, a3]; decide)]
  refine wpAny_bind (self _ _ (wpAny_bind (wpAny_holding ?_)))
  unfold Builtin.List.listLengthHint
  refine wpAny_bind (wpAny_specialOf ty zip_noLen (wpAny_bind (m := specialOf (Value.ref I) (Str.ofString "__length_hint__")) (wpAny_specialOf ty zip_noHint (wpAny_pure ?_))))
  change wpAny _ _ (rule "list.extend.makes-room" >>= _) _ _ _
  refine wpAny_bind (wpAny_rule (wpAny_bind ?_))
  change wpAny _ _ (updateSeq S (·.push .none) >>= fun _ => updateSeq S (·.pop)) _ _ _
  have b1 := Heap.get?_update_self (Obj.mapSeq (·.push Value.none)) at_ rfl
  have b2 := Heap.get?_update_self (Obj.mapSeq (·.pop)) b1 rfl
  refine wpAny_bind (wpAny_updateSeq at_ rfl (wpAny_updateSeq (hz := by seq_fits) b1 rfl (wpAny_pure ⟨plainId_quiet F.plain_extend_loop _, src_loop T fits res s.heap fin n 0 _ _ _ #[] (Nat.zero_add n) (T.grow _ _ _ (T.grow _ _ _ st)) (fun b o _ nb e => ?_) b2 ⟨rfl, fun j v e => by simp at e⟩⟩)))
  exact (Heap.get?_update_other _ _ (Ne.symm nb)).trans ((Heap.get?_update_other _ _ (Ne.symm nb)).trans e)
theorem src_init (T : Src prog w A.in1 I S wr n P St) (ty : ∀ h : Heap, St 0 h → (⟨h, s.gens, s.drawn, s.toks, s.os⟩ : Shared).TypeIs (.ref I) "zip") (self : ∀ (h : Heap) Q E, St 0 h → Q (Value.ref I) ⟨h, s.gens, s.drawn, s.toks, s.os⟩ → wpAny (model prog w) A.in1 (pyIter (.ref I)) Q E ⟨h, s.gens, s.drawn, s.toks, s.os⟩) (ne : S ≠ I) (st : St 0 s.heap) (at_ : s.heap.get? S = some (lobj #[] 0)) (fits : n ≤ sizeLine)
    (fin : ∀ h tk xs c, (∀ b o, b ∉ wr → b ≠ S → s.heap.get? b = some o → h.get? b = some o) → h.get? S = some (lobj xs c) → Got P h xs n → R (.ok (.ret .none)) { s with heap := h, toks := tk }) :
    wpAny (model prog w) A.in1 (Builtin.«list.__init__» ⟨[.ref S, .ref I], []⟩)
      (fun fin s' => match fin with | .done f => R (.ok f) s' | .again c' => c'.quiet = true ∧ codeAny (model prog w) A c' R s') (fun e s' => R (.error e) s') s := by
  obtain ⟨hp, gs, dr, tk, os⟩ := s
  dsimp only at ty self st at_ fin
  have b1 := Heap.get?_update_self (Obj.mapSeq (fun _ => (#[] : Array Value))) at_ rfl
  change wpAny _ _ (Builtin.List.listItems (.ref S) >>= _) _ _ _
  unfold Builtin.List.listItems
  refine wpAny_bind (wpAny_bind (wpAny_seqItems (s := ⟨hp, gs, dr, tk, os⟩) at_ rfl (wpAny_pure ?_)))
  change wpAny _ _ (updateSeq S (fun _ => #[]) >>= _) _ _ _
  refine wpAny_bind (wpAny_updateSeq (s := ⟨hp, gs, dr, tk, os⟩) at_ rfl (wpAny_bind (m := letGo (#[] : Array Value).toList.reverse) (wpAny_letGo ?_)))
  have st1 := T.grow 0 hp (Obj.mapSeq (fun _ => (#[] : Array Value))) st
  exact src_extend (s := ⟨hp.update S (Obj.mapSeq (fun _ => (#[] : Array Value))), gs, dr, tk, os⟩) T (ty _ st1) (fun Q E q => self _ Q E st1 q) ne st1 _ b1 .none fits fun h tk' xs c k => fin h tk' xs c fun b o n1 n2 e => k b o n1 n2 ((Heap.get?_update_other _ _ (Ne.symm n2)).trans e)
theorem list_src {Q : Value → Shared → Prop} (T : Src prog w A.in1.in1 I s.heap.objs.size wr n P St) (ty : ∀ h : Heap, St 0 h → (⟨h, s.gens, s.drawn, s.toks, s.os⟩ : Shared).TypeIs (.ref I) "zip") (self : ∀ (h : Heap) Q E, St 0 h → Q (Value.ref I) ⟨h, s.gens, s.drawn, s.toks, s.os⟩ → wpAny (model prog w) A.in1.in1 (pyIter (.ref I)) Q E ⟨h, s.gens, s.drawn, s.toks, s.os⟩) (ne : s.heap.objs.size ≠ I) (st : St 0 (s.heap.push (lobj #[] 0))) (fits : n ≤ sizeLine)
    (q : ∀ h tk xs c, (∀ b o, b ∉ wr → s.heap.get? b = some o → h.get? b = some o) → h.get? s.heap.objs.size = some (lobj xs c) → Got P h xs n → Q (.ref s.heap.objs.size) { s with heap := h, toks := tk }) :
    wpAny (model prog w) A (call (.type "list") [.ref I]) Q E s := by
  refine callType_codes (Q₁ := fun o s1 => o = .ref s.heap.objs.size ∧ s1 = { s with heap := s.heap.push (lobj #[] 0) }) F.called_list (F.typeCall_list_1 _) F.entry_list_init (code_list_new _ ⟨rfl, rfl⟩) ?_
  rintro o s1 ⟨rfl, rfl⟩
  have at_ : (s.heap.push (lobj #[] 0)).get? s.heap.objs.size = some (lobj #[] 0) := Heap.get?_push_size _ rfl
  exact ⟨⟨_, at_, rfl⟩, F.args_list_init_2 _ _, src_init (s := { s with heap := s.heap.push (lobj #[] 0) }) T ty self ne st at_ fits fun h tk xs c k e g => ⟨rfl, q h tk xs c (fun b o n1 eb => k b o n1 (Nat.ne_of_lt (Heap.lt_size eb)) (Heap.get?_push_of_some _ eb)) e g⟩⟩
end
end Ma
set_option maxHeartbeats 4000000
/-! list(zip(a, b, strict=True)). -/
namespace Ma
open PySem PySem.Spec L2
variable [TB]
/-- a heap with several new objects -/
def plus (H N : Hp) : Hp := fun a => match N a with | some o => some o | none => H a
theorem plus_none {H N : Hp} {a : Addr} (e : N a = none) : plus H N a = H a := by unfold plus; rw [e]
theorem plus_some {H N : Hp} {a : Addr} {o : HO} (e : N a = some o) : plus H N a = some o := by unfold plus; rw [e]
section
variable {X : Cx} {pins : List (Addr × Obj)} {σ : L2.St} {H N : Hp} {s : Shared}
theorem plus_old {a : Addr} {u : HO} (nw : ∀ a o, N a = some o → H a = none) (e : H a = some u) : plus H N a = some u := by
  rw [plus_none, e]
  cases z : N a with
  | none => rfl
  | some o => rw [nw a o z] at e; cases e
theorem inv_plus {h' : Heap} {t' : Nat} (I : L2.Inv X pins σ H s) (k : ∀ b o, s.heap.get? b = some o → h'.get? b = some o) (nw : ∀ a o, N a = some o → s.heap.get? a = none ∧ ObjOk X.prog X.w (plus H N) h' a o) : L2.Inv X pins σ (plus H N) { s with heap := h', toks := t' } := by
  have gone : ∀ a o, N a = some o → H a = none := fun a o e => I.hok.gone (nw a o e).1
  have old : ∀ {b o}, s.heap.get? b = some o → N b = none := fun {b o} e => by
    cases z : N b with
    | none => rfl
    | some u => rw [(nw b u z).1] at e; cases e
  refine I.un ⟨fun b o e _ _ _ => k b o e, fun b o e _ _ _ => ⟨o.slots, k b o e⟩, fun b o e n _ => (plus_none (old e)).trans n, fun b o e _ => ⟨o, k b o e⟩, fun b xs e => plus_old gone e, fun b o u e => plus_old gone e, fun b ps e => ⟨#[], by rw [plus_old gone e]; simp⟩⟩ fun b u e => ?_
  cases z : N b with
  | some v => rw [plus_some z] at e; cases e; exact (nw b _ z).2
  | none =>
    rw [plus_none z] at e
    exact (I.hok b u e).stay (fun c v _ q => k c v q) (fun c q => plus_old gone q) fun c xs q => plus_old gone q
theorem ex_plus {m : List Addr} (nw : ∀ a o, N a = some o → H a = none) : Ex m H m (plus H N) := ⟨⟨[], by simp, by simp⟩, fun a u e _ => plus_old nw e⟩
theorem RpH.plus {m : List Addr} {h : RH} (r : RpH m h H) (nw : ∀ a o, N a = some o → H a = none) : RpH m h (plus H N) := by
  refine ⟨r.nd, r.len, fun n ob a e1 e2 => ?_⟩
  have q := r.at_ n ob a e1 e2
  cases ob with
  | lst xs => obtain ⟨vs, e, q⟩ := q; exact ⟨vs, plus_old nw e, Rps.per ((ex_plus nw).per r) _ _ q⟩
  | ins c fs => exact q
  | tab k => obtain ⟨x, e, t⟩ := q; exact ⟨x, e, tab_stay t fun b o _ eb => plus_old nw eb⟩
end
/-! ### the source -/
theorem sep5 (n a b : Nat) (la : a < n) (lb : b < n) : ZipSep2 (n + 4) (n + 2) (n + 3) n (n + 1) [n, a] [n + 1, b] := by
  constructor
  all_goals (try simp only [List.mem_cons, List.not_mem_nil, or_false, ne_eq, not_or])
  all_goals first | exact Or.inl rfl | exact Or.inl trivial | exact Nat.ne_of_lt (by omega) | exact Nat.ne_of_gt (by omega) | (refine ⟨?_, ?_⟩ <;> first | exact Nat.ne_of_lt (by omega) | exact Nat.ne_of_gt (by omega))
theorem big5 (n a b S : Nat) (la : a < n) (lb : b < n) (e : S = n + 5) : ∀ c ∈ [n + 4, n + 2, n + 3, n, n + 1, a, b], c < S := by
  intro c m
  simp only [List.mem_cons, List.not_mem_nil, or_false] at m
  omega
section
variable {prog : Program} {w : World} {A : Around} {s : Shared}
/-- the pairs of two rows -/
def Pz (lo : Nat) (far : List Addr) (xs ys : List Value) (i : Nat) (v : Value) (h : Heap) : Prop := ∃ T x y, v = .ref T ∧ lo ≤ T ∧ T ∉ far ∧ xs[i]? = some x ∧ ys[i]? = some y ∧ IsTupOf2 h T x y
theorem src_zip {ss : Bool} {z TI TO i1 i2 a b S lo : Addr} {xs ys : List Value} {S1 S2 : Nat → Heap → Prop} (apart : ZipSep2 z TI TO i1 i2 [i1, a] [i2, b]) (calm : A.handled = none)
    (D1 : Draws prog w A.in1 i1 [i1, a] xs.toArray.size (fun i v => xs.toArray[i]? = some v) S1) (D2 : Draws prog w A.in1 i2 [i2, b] ys.toArray.size (fun i v => ys.toArray[i]? = some v) S2) (len : xs.length = ys.length)
    (big : ∀ c ∈ [z, TI, TO, i1, i2, a, b], c < S) (low : lo ≤ S) : Src prog w A z S [z, TO, i1, i2] xs.length (Pz lo [z, TO, i1, i2, S] xs ys) fun i h => Zst ss h z TI TO i1 i2 [S] ∧ S1 i h ∧ S2 i h where
  item := by
    rintro i s Q E lt ⟨st, p1, p2⟩ sl q
    refine zip_next apart D1 D2 st p1 p2 (by simpa using lt) (by rw [len] at lt; simpa using lt) (fun c m => by rw [List.mem_singleton.mp m]; exact sl) fun x y h' tk px py st' p1' p2' nw k => ?_
    refine q _ h' tk ⟨_, x, y, rfl, Nat.le_of_lt (Nat.lt_of_le_of_lt low sl), (fun m => ?_), by simpa using px, by simpa using py, nw⟩ ⟨st', p1', p2'⟩ k
    have : s.heap.objs.size ≤ S := by
      simp only [List.mem_cons, List.not_mem_nil, or_false] at m
      rcases m with m | m | m | m | m
      · rw [m]; exact Nat.le_of_lt (big z (by simp))
      · rw [m]; exact Nat.le_of_lt (big TO (by simp))
      · rw [m]; exact Nat.le_of_lt (big i1 (by simp))
      · rw [m]; exact Nat.le_of_lt (big i2 (by simp))
      · rw [m]; exact Nat.le_refl _
    exact Nat.lt_irrefl _ (Nat.lt_of_lt_of_le sl this)
  done := by
    rintro s Q E ⟨st, p1, p2⟩ q
    have e1 : xs.toArray.size = xs.length := by simp
    have e2 : ys.toArray.size = xs.length := by simp [len]
    rw [e1] at D1
    rw [e2] at D2
    exact zip_over calm apart D1 D2 st p1 p2 fun h' tk k => q h' tk k
  grow := by
    rintro i h f ⟨⟨ti, st⟩, p1, p2⟩
    have up : ∀ c ∈ [z, TI, TO, i1, i2, a, b], ∀ o, h.get? c = some o → (h.update S f).get? c = some o := fun c m o e => (Heap.get?_update_other _ _ (Nat.ne_of_gt (big c m))).trans e
    refine ⟨⟨up TI (by simp) _ ti, ?_⟩, D1.frame _ _ _ p1 fun c m o e => up c (by simp at m ⊢; rcases m with m | m <;> simp [m]) o e, D2.frame _ _ _ p2 fun c m o e => up c (by simp at m ⊢; rcases m with m | m <;> simp [m]) o e⟩
    rcases st with ⟨rc, u, v, tw⟩ | ⟨T, g, o, tf, rc, al⟩
    · exact .inl ⟨up z (by simp) _ rc, u, v, up TO (by simp) _ tw⟩
    · refine .inr ⟨T, g, o, tf, up z (by simp) _ rc, (Heap.get?_update_other _ _ fun e => tf ?_).trans al⟩
      rw [← e]
      simp
  stay := by
    rintro i v h h' ⟨T, x, y, rfl, l, tf, ex, ey, tp⟩ k
    exact ⟨T, x, y, rfl, l, tf, ex, ey, k T _ (fun m => tf (by simp only [List.mem_cons, List.not_mem_nil, or_false] at m ⊢; rcases m with m | m | m | m <;> simp [m])) (fun e => tf (by simp [e])) tp⟩
  out := by
    intro m
    have : S < S := big S (by simp at m ⊢; rcases m with m | m | m | m <;> simp [m])
    exact Nat.lt_irrefl _ this
end
section
variable {X : Cx} {G : GC} {Φ : Cal} {x : List Ma.D} {W : WX}
/-- a row that is read: a tuple, a list, own or locked -/
def Rw : Bool → Hp → Addr → List V → Prop
  | true, H, a, xs => H a = some (.tup xs)
  | false, H, a, xs => Rd H a (.lst xs)
theorem rw_src {k : Bool} {pins : List (Addr × Obj)} {σ : L2.St} {H : Hp} {s : Shared} {a : Addr} {xs : List V} (I : L2.Inv X pins σ H s) (r : Rw k H a xs) :
    ∃ (its : List Value) (o : Obj) (Hh : Heap → Prop) (St : Addr → Nat → Heap → Prop), Vals xs its ∧ Begins (.ref a) o Hh ∧ Hh s.heap ∧ a < s.heap.objs.size ∧ xs.length ≤ sizeLine ∧ (∀ it, a ≠ it → ∀ A : Around, A.handled = none → Draws X.prog X.w A it [it, a] its.toArray.size (fun i v => its.toArray[i]? = some v) (St it)) ∧
      ∀ it h', h'.get? it = some o → (∀ u, s.heap.get? a = some u → h'.get? a = some u) → St it 0 h' := by
  cases k with
  | true =>
    obtain ⟨its, rv, p, z⟩ := I.tuple (.of r)
    obtain ⟨ob, at_, _⟩ := id p
    exact ⟨its, _, _, fun it i h => h.IsTupleIter it a i ∧ h.IsTuple a its.toArray, rv, PySem.begins_tuple a its.toArray, p, Heap.lt_size at_, z, fun it ne A hh => Draws.tuple hh it a ne its.toArray, fun it h' e k => ⟨⟨_, e, rfl, rfl⟩, let ⟨o, eo, r⟩ := p; ⟨o, k o eo, r⟩⟩⟩
  | false =>
    obtain ⟨its, rv, p, z⟩ := I.list (.inl r)
    exact ⟨its, _, _, fun it i h => h.IsListIter it a i ∧ h.IsList a its.toArray, rv, PySem.begins_list a its.toArray, p.isList, p.lt, z, fun it ne A hh => Draws.list hh it a ne its.toArray, fun it h' e k => ⟨⟨_, e, rfl, rfl⟩, p.isList.at fun o eo => k o eo⟩⟩
/-- the keywords of such a zip -/
def zkw : Bool → List (Str × Value)
  | true => [(Str.ofString "strict", .bool true)]
  | false => []
theorem zx_made {ss : Bool} {prog : Program} {w : World} {A : Around} {E : Value → Shared → Prop} {s : Shared} {v1 v2 : Value} {o1 o2 : Obj} {H1 H2 : Heap → Prop} {Q : Value → Shared → Prop} (B1 : Begins v1 o1 H1) (B2 : Begins v2 o2 H2) (k1 : H1 s.heap) (k2 : H2 s.heap)
    (q : ∀ h' : Heap, Zs ss h' (s.heap.objs.size + 4) (s.heap.objs.size + 2) (s.heap.objs.size + 3) .none → IsTupOf2 h' (s.heap.objs.size + 2) (.ref s.heap.objs.size) (.ref (s.heap.objs.size + 1)) → IsTupOf2 h' (s.heap.objs.size + 3) .none .none → h'.get? s.heap.objs.size = some o1 → h'.get? (s.heap.objs.size + 1) = some o2 →
      h'.objs.size = s.heap.objs.size + 5 → (∀ b u, s.heap.get? b = some u → h'.get? b = some u) → Q (.ref (s.heap.objs.size + 4)) { s with heap := h' }) :
    wpAny (model prog w) A (call (.type "zip") [v1, v2] (zkw ss)) Q E s := by
  cases ss with
  | true => exact zs_made B1 B2 k1 k2 q
  | false => exact zip_begins2 B1 B2 k1 k2 q
/-- what stands in a pair, read off -/
def pairAt (h : Heap) (a : Addr) : Option HO := match h.get? a with
  | some o => match o.data with
    | .seq its _ => some (.tup (its.toList.filterMap absV))
    | _ => none
  | none => none
theorem refs_of : ∀ {l : List Value}, (∀ v ∈ l, ∃ t : Addr, v = .ref t) → ∃ ts : List Addr, l = ts.map .ref
  | [], _ => ⟨[], rfl⟩
  | v :: r, h => by
    obtain ⟨t, rfl⟩ := h v List.mem_cons_self
    obtain ⟨ts, e⟩ := refs_of (l := r) fun u m => h u (List.mem_cons_of_mem _ m)
    exact ⟨t :: ts, by rw [e]; rfl⟩
theorem vals_refs : ∀ ts : List Addr, Vals (ts.map V.ref) (ts.map Value.ref)
  | [] => .nil
  | _ :: r => .cons rfl (vals_refs r)
theorem call_lzip {ss : Bool} {pins : List (Addr × Obj)} {σ : L2.St} {H : Hp} {s : Shared} {a b : Addr} {k1 k2 : Bool} {xs ys : List V} {Q : VK} {A : Around} (calm : A.handled = none) {E : Value → Shared → Prop} (I : L2.Inv X pins σ H s) (r1 : Rw k1 H a xs) (r2 : Rw k2 H b ys) (len : xs.length = ys.length)
    (q : ∀ p H', H p = none → (∃ N : Hp, H' = plus H N ∧ ∀ c o, N c = some o → H c = none) → (∃ ts : List Addr, H' p = some (.lst (ts.map .ref)) ∧ ts.length = xs.length ∧ ∀ (i : Nat) t v w, ts[i]? = some t → xs[i]? = some v → ys[i]? = some w → H' t = some (.tup [v, w])) → Q (.ref p) H') :
    wpAny (model X.prog X.w) A (call (.type "zip") [.ref a, .ref b] (zkw ss)) (fun u s1 => wpAny (model X.prog X.w) A (call (.type "list") [u]) (fun v s2 => ∃ y H2, L2.Inv X pins σ H2 s2 ∧ RelV y v ∧ Q y H2) E s1) E s := by
  obtain ⟨us, o1, h1, St1, v1, b1, here1, la, z1, d1, f1⟩ := rw_src I r1
  obtain ⟨ws, o2, h2, St2, v2, b2, here2, lb, z2, d2, f2⟩ := rw_src I r2
  refine zx_made b1 b2 here1 here2 fun h' rc ti tw e1 e2 size keep => ?_
  have apart := sep5 s.heap.objs.size a b la lb
  have D1 := d1 s.heap.objs.size (Nat.ne_of_lt la) A.in1.in1.in1 calm
  have D2 := d2 (s.heap.objs.size + 1) (Nat.ne_of_lt (Nat.lt_succ_of_lt lb)) A.in1.in1.in1 calm
  have st1 : St1 s.heap.objs.size 0 h' := f1 _ _ e1 fun u eu => keep a u eu
  have st2 : St2 (s.heap.objs.size + 1) 0 h' := f2 _ _ e2 fun u eu => keep b u eu
  have lens : us.length = ws.length := by rw [← v1.length, ← v2.length, len]
  have T := src_zip (ss := ss) (A := A.in1.in1) (S := h'.objs.size) (lo := s.heap.objs.size) apart calm D1 D2 lens (big5 _ _ _ _ la lb size) (by rw [size]; exact Nat.le_add_right _ _)
  have push : ∀ {c o}, h'.get? c = some o → (h'.push (lobj #[] 0)).get? c = some o := fun e => Heap.get?_push_of_some _ e
  have ty : ∀ h : Heap, (Zst ss h (s.heap.objs.size + 4) (s.heap.objs.size + 2) (s.heap.objs.size + 3) s.heap.objs.size (s.heap.objs.size + 1) [h'.objs.size] ∧ St1 s.heap.objs.size 0 h ∧ St2 (s.heap.objs.size + 1) 0 h) → (⟨h, s.gens, s.drawn, s.toks, s.os⟩ : Shared).TypeIs (.ref (s.heap.objs.size + 4)) "zip" := by
    rintro h ⟨⟨_, rc | ⟨_, _, _, _, rc, _⟩⟩, _⟩
    · exact ⟨_, rc.1, rfl⟩
    · exact ⟨_, rc, rfl⟩
  refine list_src (s := { s with heap := h' }) T ty (fun h Q E st q => zip_self st.1 q) (by rw [size]; exact Nat.ne_of_gt (Nat.lt_succ_self _)) ⟨⟨push ti, .inl ⟨push rc, .none, .none, push tw⟩⟩, D1.frame _ _ _ st1 fun c m o e => push e, D2.frame _ _ _ st2 fun c m o e => push e⟩ (by rw [← v1.length]; exact z1) fun hf tk items c kept at_ got => ?_
  have zip_ : ∀ (j : Nat) v, items[j]? = some v → ∃ T x y u w, v = .ref T ∧ s.heap.objs.size ≤ T ∧ T ≠ h'.objs.size ∧ xs[j]? = some u ∧ ys[j]? = some w ∧ RelV u x ∧ RelV w y ∧ IsTupOf2 hf T x y := by
    intro j v e
    obtain ⟨T, x, y, rfl, l, far, ex, ey, tp⟩ := got.2 j v e
    have lu := (List.getElem?_eq_some_iff.mp ex).1
    have lx : j < xs.length := by rw [v1.length]; exact lu
    have ly : j < ys.length := by rw [← len]; exact lx
    obtain ⟨x', ex', rx⟩ := v1.get (List.getElem?_eq_getElem lx)
    obtain ⟨y', ey', ry⟩ := v2.get (List.getElem?_eq_getElem ly)
    rw [ex] at ex'; cases ex'
    rw [ey] at ey'; cases ey'
    exact ⟨T, x, y, _, _, rfl, l, fun z => far (by simp [z]), List.getElem?_eq_getElem lx, List.getElem?_eq_getElem ly, rx, ry, tp⟩
  obtain ⟨ts, ets⟩ := refs_of (l := items.toList) fun v m => by
    obtain ⟨j, ej⟩ := List.mem_iff_getElem?.mp m
    obtain ⟨T, _, _, _, _, e, _⟩ := zip_ j v (by simpa using ej)
    exact ⟨T, e⟩
  have ht : ∀ (j : Nat) t, ts[j]? = some t → ∃ x y u w, s.heap.objs.size ≤ t ∧ t ≠ h'.objs.size ∧ xs[j]? = some u ∧ ys[j]? = some w ∧ RelV u x ∧ RelV w y ∧ IsTupOf2 hf t x y := by
    intro j t e
    have ej : items.toList[j]? = some (.ref t) := by rw [ets, List.getElem?_map, e]; rfl
    obtain ⟨T, x, y, u, w, eT, r⟩ := zip_ j (.ref t) (by simpa using ej)
    cases eT
    exact ⟨x, y, u, w, r⟩
  have pr : ∀ {t x y u w}, RelV u x → RelV w y → IsTupOf2 hf t x y → pairAt hf t = some (.tup [u, w]) := fun {t x y u w} ru rw' tp => by
    unfold pairAt
    rw [tp]
    simp [ru.abs, rw'.abs]
  have up : ∀ b o, s.heap.get? b = some o → hf.get? b = some o := fun b o e => kept b o (fun m => by
    have l : b < s.heap.objs.size := Heap.lt_size e
    simp only [List.mem_cons, List.not_mem_nil, or_false] at m
    rcases m with m | m | m | m
    all_goals (rw [m] at l; first | exact Nat.lt_irrefl _ l | exact Nat.not_lt.mpr (Nat.le_add_right _ _) l)) (keep b o e)
  have newp : s.heap.objs.size ≤ h'.objs.size := by rw [size]; exact Nat.le_add_right _ _
  let N : Hp := fun c => if c = h'.objs.size then some (.lst (ts.map V.ref)) else if c ∈ ts then pairAt hf c else none
  have Np : N h'.objs.size = some (.lst (ts.map V.ref)) := if_pos rfl
  have Nt : ∀ t, t ∈ ts → t ≠ h'.objs.size → N t = pairAt hf t := fun t m ne => (if_neg ne).trans (if_pos m)
  have lt : ts.length = xs.length := by
    have := got.1
    rw [← Array.length_toList, ets, List.length_map] at this
    rw [this, v1.length]
  have none_ : ∀ {c}, s.heap.objs.size ≤ c → s.heap.get? c = none := fun {c} l => by
    cases e : s.heap.get? c with
    | none => rfl
    | some o => exact absurd (Heap.lt_size e) (Nat.not_lt.mpr l)
  have nw : ∀ c o, N c = some o → s.heap.get? c = none ∧ ObjOk X.prog X.w (plus H N) hf c o := by
    intro c o e
    by_cases zc : c = h'.objs.size
    · subst zc
      rw [Np] at e
      cases e
      refine ⟨none_ newp, ?_, items.toList, _, by rw [ets]; exact vals_refs ts, at_⟩
      rw [List.length_map, lt]; exact z1
    · by_cases m : c ∈ ts
      · obtain ⟨j, ej⟩ := List.mem_iff_getElem?.mp m
        obtain ⟨x, y, u, w, l, _, _, _, ru, rw', tp⟩ := ht j c ej
        rw [Nt c m zc, pr ru rw' tp] at e
        cases e
        exact ⟨none_ l, by show 2 ≤ sizeLine; decide, [x, y], .cons ru (.cons rw' .nil), ⟨_, tp, rfl, _, rfl⟩⟩
      · have : N c = none := (if_neg zc).trans (if_neg m)
        rw [this] at e; cases e
  refine ⟨.ref h'.objs.size, plus H N, (inv_plus (s := s) (h' := hf) (t' := tk) I up nw :), rfl, q _ _ (I.hok.gone (none_ newp)) ⟨N, rfl, fun c o e => I.hok.gone (nw c o e).1⟩ ⟨ts, plus_some Np, lt, fun i t v w et ev ew => ?_⟩⟩
  obtain ⟨x, y, u, w', l, ne, eu, ew', ru, rw', tp⟩ := ht i t et
  rw [ev] at eu; cases eu
  rw [ew] at ew'; cases ew'
  exact plus_some ((Nt t (List.mem_of_getElem? et) ne).trans (pr ru rw' tp))
/-- a built-in type called with keywords -/
theorem cw_typeK {M : Model} {A : Around} {E : Value → Shared → Prop} {s : Shared} {env : Env} {pos : Pos} {T : String} {e : Expr} {rest : List Expr} {kws : List Keyword} {Q : Value → Shared → Prop}
    (h : wpAny M A (spliced ((false, eval e env) :: backTo pos (starEach rest env))) (fun vs s1 => wpAny M A (evalAll ((backToKw pos (keywordEach kws env)).map (·.2))) (fun ks s2 => wpAny M A (call (.type T) vs (((backToKw pos (keywordEach kws env)).filterMap (·.1)).zip ks)) Q E s2) E s1) E s)
    (he : backTo pos (starEach (e :: rest) env) = (false, eval e env) :: backTo pos (starEach rest env)) (plain : (backTo pos (starEach (e :: rest) env)).any (·.1) = false) (all_ : (backToKw pos (keywordEach kws env)).all (·.1.isSome) = true) (none_ : (backToKw pos (keywordEach kws env)).any (·.1.isNone) = false) :
    wpAny M A (callWith pos (.type T) [] (backTo pos (starEach (e :: rest) env)) (backToKw pos (keywordEach kws env))) Q E s := by
  unfold callWith
  rw [plain, none_, he]
  refine wpAny_bind (wpAny_holding (wpAny_mono (PyProof.Rows.evalArgs_kwB (Q := fun a s1 => wpAny M A (call (.type T) ([] ++ a.pos) a.kw) Q E s1) all_ h) ?_ fun _ _ z => z))
  intro a s1 h1
  refine wpAny_bind (wpAny_standAt (wpAny_bind (m := keeperOf (.type T)) (wpAny_pure (wpAny_bind (wpAny_mono h1 ?_ fun _ _ z => z)))))
  exact fun r s2 h2 => wpAny_bind (wpAny_holding (wpAny_point (wpAny_pure h2)))
/-- list(zip(e, e', strict=True)) -/
theorem pe_lzip {y1 y2 : Expr} {tv : TA} {p p2 kp kc pos pos2 : Pos} {j : Nat} (calm : X.calm = true) (gl : Gl X "list") (own : X.mg "list" = none) (gl2 : Gl X "zip") (own2 : X.mg "zip" = none) (ha : PA X [y1, y2] tv)
    (b1 : backTo pos2 (starEach [y1, y2] X.env) = (false, eval y1 X.env) :: backTo pos2 (starEach [y2] X.env) := by rfl) (pl : (backTo pos2 (starEach [y1, y2] X.env)).any (·.1) = false := by rfl) :
    PE X (.Call (.Name "list" p) [.Call (.Name "zip" p2) [y1, y2] [⟨some "strict", .Constant (.bool true) j kc, kp⟩] pos2] [] pos)
      (fun σ H Q => tv σ H fun us H2 => ∃ k1 k2 a b xs ys, us = [.ref a, .ref b] ∧ Rw k1 H2 a xs ∧ Rw k2 H2 b ys ∧ xs.length = ys.length ∧
        ∀ q H', H2 q = none → (∃ N : Hp, H' = plus H2 N ∧ ∀ c o, N c = some o → H2 c = none) → (∃ ts : List Addr, H' q = some (.lst (ts.map .ref)) ∧ ts.length = xs.length ∧ ∀ (i : Nat) t v w, ts[i]? = some t → xs[i]? = some v → ys[i]? = some w → H' t = some (.tup [v, w])) → Q (.ref q) H') := by
  refine ⟨fun pins s σ H Q I hq => ?_⟩
  refine PyProof.Rows.Call_ (ld_blt I gl own bt_list (PyProof.Rows.callWith_type1 (?_ : wpAny _ _ (spliced ((false, eval _ X.env) :: backTo pos (starEach [] X.env))) _ _ _) rfl rfl))
  refine Calls.spliced_cons (wpAny_Call_Name_kw (ld_blt I gl2 own2 bt_zip (cw_typeK ?_ b1 pl rfl rfl)))
  rw [← b1]
  refine thn (ha.run pos2 pins s σ H _ I hq) ?_
  rintro us s1 ⟨vs, H1, I1, rv, hf⟩
  refine thn ((pk_cons pe_bl pk_nil : PK X [⟨some "strict", .Constant (.bool true) j kc, kp⟩] _).run pos2 pins s1 σ H1 (fun ks H2 => ks = [.bl true] ∧ H2 = H1) I1 ⟨rfl, rfl⟩) ?_
  rintro ks s2 ⟨zs, H2, I2, rk, rfl, rfl⟩
  obtain ⟨k1, k2, a, b, xs, ys, rfl, r1, r2, len, q⟩ := hf
  obtain ⟨u1, u2, rfl, ra, rb⟩ : ∃ u1 u2, us = [u1, u2] ∧ RelV (.ref a) u1 ∧ RelV (.ref b) u2 := by
    cases rv with
    | cons x r => cases r with
      | cons y r => cases r; exact ⟨_, _, rfl, x, y⟩
  obtain ⟨u3, rfl, rt⟩ := vals1 rk
  cases ra
  cases rb
  cases rt
  refine wpAny_mono (call_lzip (ss := true) (A := X.A) (I1.ok.hd calm) I2 r1 r2 len q) (fun v s3 z => ?_) fun _ _ z => z
  exact Calls.spliced_nil z
/-- list(zip(e, e')), rows of one length -/
theorem pe_lzipN {y1 y2 : Expr} {tv : TA} {p p2 pos pos2 : Pos} (calm : X.calm = true) (gl : Gl X "list") (own : X.mg "list" = none) (gl2 : Gl X "zip") (own2 : X.mg "zip" = none) (ha : PA X [y1, y2] tv)
    (s1 : starEach [y1, y2] X.env = (false, eval y1 X.env) :: starEach [y2] X.env := by rfl) (pl : (backTo pos2 (starEach [y2] X.env)).any (·.1) = false := by rfl) :
    PE X (.Call (.Name "list" p) [.Call (.Name "zip" p2) [y1, y2] [] pos2] [] pos)
      (fun σ H Q => tv σ H fun us H2 => ∃ k1 k2 a b xs ys, us = [.ref a, .ref b] ∧ Rw k1 H2 a xs ∧ Rw k2 H2 b ys ∧ xs.length = ys.length ∧
        ∀ q H', H2 q = none → (∃ N : Hp, H' = plus H2 N ∧ ∀ c o, N c = some o → H2 c = none) → (∃ ts : List Addr, H' q = some (.lst (ts.map .ref)) ∧ ts.length = xs.length ∧ ∀ (i : Nat) t v w, ts[i]? = some t → xs[i]? = some v → ys[i]? = some w → H' t = some (.tup [v, w])) → Q (.ref q) H') := by
  refine ⟨fun pins s σ H Q I hq => ?_⟩
  refine PyProof.Rows.Call_ (ld_blt I gl own bt_list (PyProof.Rows.callWith_type1 (?_ : wpAny _ _ (spliced ((false, eval _ X.env) :: backTo pos (starEach [] X.env))) _ _ _) rfl rfl))
  refine Calls.spliced_cons (PyProof.Rows.Call_ (ld_blt I gl2 own2 bt_zip (PyProof.Rows.callWith_type1 (thn (ha.run pos2 pins s σ H _ I hq) ?_) s1 pl)))
  rintro us s1 ⟨vs, H2, I2, rv, k1, k2, a, b, xs, ys, rfl, r1, r2, len, q⟩
  obtain ⟨u1, u2, rfl, ra, rb⟩ : ∃ u1 u2, us = [u1, u2] ∧ RelV (.ref a) u1 ∧ RelV (.ref b) u2 := by
    cases rv with
    | cons x r => cases r with
      | cons y r => cases r; exact ⟨_, _, rfl, x, y⟩
  cases ra
  cases rb
  refine wpAny_mono (call_lzip (ss := false) (A := X.A) (I2.ok.hd calm) I2 r1 r2 len q) (fun v s3 z => ?_) fun _ _ z => z
  exact Calls.spliced_nil z
theorem rw_of {m : List Addr} {H : Hp} {t : T} {v : V} {ds : List Ma.D} (r : RpT m H t v) (e : items t = some ds) : ∃ k a vs, v = .ref a ∧ Rw k H a vs ∧ Rps m H ds vs := by
  cases t with
  | fz d =>
    cases d with
    | tup es => cases e; obtain ⟨a, vs, rfl, q, z⟩ := r; exact ⟨true, a, vs, rfl, q, z⟩
    | lst es => cases e; obtain ⟨a, o, vs, rfl, q, z⟩ := r; exact ⟨false, a, vs, rfl, .inr ⟨o, q⟩, z⟩
    | _ => cases e
  | oL n rs => cases e; obtain ⟨a, vs, rfl, q, z, _⟩ := r; exact ⟨false, a, vs, rfl, .inl q, z⟩
  | it _ => exact r.elim
  | _ => cases e
theorem zipD_rps {m : List Addr} {H H' : Hp} (p : Per m H m H') : ∀ {xs ys : List Ma.D} {vs ws : List V} {ts : List Addr}, Rps m H xs vs → Rps m H ys ws → vs.length = ws.length → ts.length = vs.length → (∀ (i : Nat) t v w, ts[i]? = some t → vs[i]? = some v → ws[i]? = some w → H' t = some (.tup [v, w])) → Rps m H' (zipD xs ys) (ts.map .ref)
  | [], ys, vs, ws, ts, r1, r2, l, lt, k => by
    rw [show vs = [] from r1] at lt
    rw [List.length_eq_zero_iff.mp lt]
    cases ys <;> rfl
  | x :: xs, [], vs, ws, ts, ⟨v, vr, e, _, _⟩, r2, l, lt, k => by
    rw [show ws = [] from r2, e] at l; cases l
  | x :: xs, y :: ys, vs, ws, [], ⟨v, vr, e, _, _⟩, _, l, lt, k => by rw [e] at lt; cases lt
  | x :: xs, y :: ys, vs, ws, t :: ts, ⟨v, vr, e1, rv, r1⟩, ⟨w, wr, e2, rw', r2⟩, l, lt, k => by
    subst e1 e2
    refine ⟨.ref t, ts.map .ref, rfl, ⟨t, [v, w], rfl, k 0 t v w rfl rfl rfl, v, [w], rfl, Rp.per p _ _ rv, w, [], rfl, Rp.per p _ _ rw', rfl⟩, ?_⟩
    exact zipD_rps p r1 r2 (by simpa using l) (by simpa using lt) fun i t' v' w' a b c => k (i + 1) t' v' w' a b c
theorem ev_lzip {a b : E} {s : Sl} {h : RH} : ev Φ x (.b1 .list (.zip true a b)) s h = (rdv a s h (ev Φ x a s h)).bind fun t h1 => match items t with
    | none => .bad "items"
    | some xs => (rdv b s h1 (ev Φ x b s h1)).bind fun u h2 => match items u with
      | none => .bad "items"
      | some ys => if xs.length = ys.length then .ok (mkL (zipD xs ys)) h2 else .bad "strict" := by
  rw [ev, rdv_eq rfl, ev]
  cases rdv a s h (ev Φ x a s h) with
  | bad w => rfl
  | exc c xs h' => rfl
  | ok t h1 =>
    simp only [RE.its, RE.bind]
    cases items t with
    | none => rfl
    | some xs =>
      simp only
      cases rdv b s h1 (ev Φ x b s h1) with
      | bad w => rfl
      | exc c xs h' => rfl
      | ok u h2 =>
        simp only
        cases items u with
        | none => rfl
        | some ys =>
          by_cases l : xs.length = ys.length
          · simp [l, b1, bLst, items, optE]
          · simp [l]
theorem se_lzip {y1 y2 : Expr} {a b : E} {p p2 kp kc pos pos2 : Pos} {j : Nat} (calm : X.calm = true) (gl : Gl X "list") (own : X.mg "list" = none) (gl2 : Gl X "zip") (own2 : X.mg "zip" = none) (ha : PE X y1 (tr G Φ x W a)) (hb : PE X y2 (tr G Φ x W b))
    (e1 : starEach [y1, y2] X.env = (false, eval y1 X.env) :: starEach [y2] X.env := by rfl) (e2 : starEach [y2] X.env = (false, eval y2 X.env) :: starEach [] X.env := by rfl)
    (b1 : backTo pos2 (starEach [y1, y2] X.env) = (false, eval y1 X.env) :: backTo pos2 (starEach [y2] X.env) := by rfl) (pl : (backTo pos2 (starEach [y1, y2] X.env)).any (·.1) = false := by rfl) :
    PE X (.Call (.Name "list" p) [.Call (.Name "zip" p2) [y1, y2] [⟨some "strict", .Constant (.bool true) j kc, kp⟩] pos2] [] pos) (te G Φ x W (.b1 .list (.zip true a b))) := by
  refine PEimp (pe_lzip calm gl own gl2 own2 (pa_cons ha (pa_cons hb pa_nil e2) e1) b1 pl) fun σ H Q ⟨m, s, h, r, p⟩ => ?_
  rw [ev_lzip] at p
  refine ⟨m, s, h, r, Pst.mono (Pst.bind r p) fun u H1 ⟨m1, t, h1, r1, y1, q1, o1, p1⟩ => ?_⟩
  dsimp only at p1
  cases ei : items t with
  | none => rw [ei] at p1; exact p1.elim
  | some xs =>
    rw [ei] at p1
    dsimp only at p1
    refine ⟨m1, s, h1, r1, Pst.mono (Pst.bind r1 p1) fun v H2 ⟨m2, t2, h2, r2, y2, q2, o2, p2⟩ => ?_⟩
    dsimp only at p2
    cases ej : items t2 with
    | none => rw [ej] at p2; exact p2.elim
    | some ys =>
      rw [ej] at p2
      dsimp only at p2
      by_cases l : xs.length = ys.length
      · rw [if_pos l] at p2
        obtain ⟨k1, a1, vs, rfl, w1, z1⟩ := rw_of (q1.next r1.hp y2 o1).1 ei
        obtain ⟨k2, a2, ws, rfl, w2, z2⟩ := rw_of q2 ej
        have lv : vs.length = ws.length := by rw [z1.len, z2.len, l]
        refine ⟨k1, k2, a1, a2, vs, ws, rfl, w1, w2, lv, ?_⟩
        rintro q H' nq ⟨N, rfl, nw⟩ ⟨ts, eq, lt, pr⟩
        have rp := zipD_rps ((ex_plus nw).per r2.hp) z1 z2 lv lt pr
        exact p2 m2 (.ref q) _ (ex_plus nw) (r2.hp.plus nw) (RpT.mk eq rp) fun _ c e => by cases e; exact ⟨r2.hp.notin nq, fun _ => nq⟩
      · rw [if_neg l] at p2; exact p2.elim
/-- .. without the flag: as the machine does it, rows of one length alone -/
theorem se_lzipN {y1 y2 : Expr} {a b : E} {p p2 pos pos2 : Pos} (calm : X.calm = true) (gl : Gl X "list") (own : X.mg "list" = none) (gl2 : Gl X "zip") (own2 : X.mg "zip" = none) (ha : PE X y1 (tr G Φ x W a)) (hb : PE X y2 (tr G Φ x W b))
    (e1 : starEach [y1, y2] X.env = (false, eval y1 X.env) :: starEach [y2] X.env := by rfl) (e2 : starEach [y2] X.env = (false, eval y2 X.env) :: starEach [] X.env := by rfl) (pl : (backTo pos2 (starEach [y2] X.env)).any (·.1) = false := by rfl) :
    PE X (.Call (.Name "list" p) [.Call (.Name "zip" p2) [y1, y2] [] pos2] [] pos) (te G Φ x W (.b1 .list (.zip true a b))) := by
  refine PEimp (pe_lzipN calm gl own gl2 own2 (pa_cons ha (pa_cons hb pa_nil e2) e1) e1 pl) fun σ H Q ⟨m, s, h, r, p⟩ => ?_
  rw [ev_lzip] at p
  refine ⟨m, s, h, r, Pst.mono (Pst.bind r p) fun u H1 ⟨m1, t, h1, r1, y1, q1, o1, p1⟩ => ?_⟩
  dsimp only at p1
  cases ei : items t with
  | none => rw [ei] at p1; exact p1.elim
  | some xs =>
    rw [ei] at p1
    dsimp only at p1
    refine ⟨m1, s, h1, r1, Pst.mono (Pst.bind r1 p1) fun v H2 ⟨m2, t2, h2, r2, y2, q2, o2, p2⟩ => ?_⟩
    dsimp only at p2
    cases ej : items t2 with
    | none => rw [ej] at p2; exact p2.elim
    | some ys =>
      rw [ej] at p2
      dsimp only at p2
      by_cases l : xs.length = ys.length
      · rw [if_pos l] at p2
        obtain ⟨k1, a1, vs, rfl, w1, z1⟩ := rw_of (q1.next r1.hp y2 o1).1 ei
        obtain ⟨k2, a2, ws, rfl, w2, z2⟩ := rw_of q2 ej
        have lv : vs.length = ws.length := by rw [z1.len, z2.len, l]
        refine ⟨k1, k2, a1, a2, vs, ws, rfl, w1, w2, lv, ?_⟩
        rintro q H' nq ⟨N, rfl, nw⟩ ⟨ts, eq, lt, pr⟩
        have rp := zipD_rps ((ex_plus nw).per r2.hp) z1 z2 lv lt pr
        exact p2 m2 (.ref q) _ (ex_plus nw) (r2.hp.plus nw) (RpT.mk eq rp) fun _ c e => by cases e; exact ⟨r2.hp.notin nq, fun _ => nq⟩
      · rw [if_neg l] at p2; exact p2.elim
end
end Ma
set_option maxHeartbeats 4000000
/-! Sets of nested tuples of ints: questions, the search. -/
namespace Ma
open PySem PySem.Spec L2
mutual
/-- ints and tuples alone -/
def numK : NestedKey → Bool
  | .num _ => true
  | .tup ks => numKs ks
  | _ => false
def numKs : List NestedKey → Bool
  | [] => true
  | k :: r => numK k && numKs r
end
section
variable {P : Program} {w : World} {A : Around} {E : Value → Shared → Prop} {s : Shared}
/-- a question asked of each item of a tuple -/
theorem each_item {ks : List NestedKey} {vs : Array Value} {α : Type} (f : Value → Option α × PUnit → Sem (ForInStep (Option α × PUnit))) {Q : Option α × PUnit → Shared → Prop} (all_ : NestedAll s.heap ks vs.toList)
    (one : ∀ k v, k ∈ ks → NestedIs s.heap k v → ∀ (Q' : ForInStep (Option α × PUnit) → Shared → Prop), Q' (.yield (none, ⟨⟩)) s → wpAny (model P w) A (f v (none, ⟨⟩)) Q' E s) (q : Q (none, ⟨⟩) s) : wpAny (model P w) A (forIn vs ((none, ⟨⟩) : Option α × PUnit) f) Q E s := by
  rw [← Array.forIn_toList]
  generalize vs.toList = l at all_
  induction l generalizing ks with
  | nil => exact wpAny_pure q
  | cons v l ih =>
    cases all_ with
    | @cons k _ ks _ h1 h2 =>
      rw [List.forIn_cons]
      exact wpAny_bind (one k v List.mem_cons_self h1 _ (ih (fun k' v' m => one k' v' (List.mem_cons_of_mem _ m)) h2))
theorem depth_item {k : NestedKey} : ∀ {ks : List NestedKey}, k ∈ ks → k.depth ≤ NestedKey.depthAll ks
  | a :: r, m => by
    rw [NestedKey.depthAll]
    rcases List.mem_cons.mp m with z | z
    · rw [z]; exact Nat.le_max_left _ _
    · exact Nat.le_trans (depth_item z) (Nat.le_max_right _ _)
theorem num_item {k : NestedKey} : ∀ {ks : List NestedKey}, numKs ks = true → k ∈ ks → numK k = true
  | a :: r, h, m => by
    rw [numKs, Bool.and_eq_true] at h
    rcases List.mem_cons.mp m with z | z
    · rw [z]; exact h.1
    · exact num_item h.2 z
/-- no key is of a class statement -/
theorem no_class : ∀ (n : Nat) (k : NestedKey) (v : Value), NestedIs s.heap k v → k.depth ≤ n → ∀ {Q : Bool → Shared → Prop}, Q false s → wpAny (model P w) A (ofAClassStatement n v) Q E s := by
  intro n
  induction n with
  | zero =>
    intro k v is_ le Q q
    cases is_ with
    | tup _ _ _ _ => rw [NestedKey.depth] at le; omega
    | _ => exact wpAny_pure q
  | succ n ih =>
    intro k v is_ le Q q
    cases is_ with
    | @tup a o vs m ks eo ec ed all_ =>
      rw [NestedKey.depth] at le
      unfold ofAClassStatement
      refine wpAny_bind (wpAny_typeOf (T := "tuple") ⟨o, eo, ec⟩ ?_)
      dsimp only
      rw [if_pos (by decide)]
      refine wpAny_bind (wpAny_pure ?_)
      rw [if_neg (by decide)]
      try refine wpAny_bind (wpAny_pure ?_)
      refine wpAny_bind (m := seqItems? (.ref a)) (wpAny_seqItems eo ed ?_)
      refine wpAny_bind (each_item _ all_ (fun k' v' m' is' Q' q' => ?_) ?_)
      · exact wpAny_bind (ih k' v' is' (by have := depth_item m'; omega) (wpAny_pure q'))
      · exact wpAny_pure q
    | _ => exact wpAny_pure q
/-- a key's hash is its value's -/
theorem by_value : ∀ (n : Nat) (k : NestedKey) (v : Value), NestedIs s.heap k v → k.depth ≤ n → numK k = true → ∀ {Q : Bool → Shared → Prop}, Q true s → wpAny (model P w) A (hashByValue n v) Q E s := by
  intro n
  induction n with
  | zero =>
    intro k v is_ le nu Q q
    cases is_ with
    | tup _ _ _ _ => rw [NestedKey.depth] at le; omega
    | text _ _ => cases nu
    | _ => exact wpAny_pure q
  | succ n ih =>
    intro k v is_ le nu Q q
    cases is_ with
    | @tup a o vs m ks eo ec ed all_ =>
      rw [NestedKey.depth] at le
      rw [numK] at nu
      unfold hashByValue
      refine wpAny_bind (wpAny_specialOf (T := "tuple") ⟨o, eo, ec⟩ F.slot_tuple_hash.lookup ?_)
      change wpAny _ _ (seqItems? (.ref a) >>= _) _ _ s
      refine wpAny_bind (wpAny_seqItems eo ed (wpAny_bind (each_item _ all_ (fun k' v' m' is' Q' q' => ?_) ?_)))
      · exact wpAny_bind (ih k' v' is' (by have := depth_item m'; omega) (num_item nu m') (wpAny_pure q'))
      · exact wpAny_pure q
    | text _ _ => cases nu
    | _ => exact wpAny_pure q
/-- what stands in such a set -/
structure Kv (h : Heap) (p : Value × NestedKey) : Prop where
  is_ : NestedIs h p.2 p.1
  dp : p.2.depth ≤ 8
  nu : numK p.2 = true
  rf : ∃ b, p.1 = .ref b
theorem Kv.at_ {h h' : Heap} {p : Value × NestedKey} (x : Kv h p) (k : ∀ a o vs n, h.get? a = some o → o.data = .seq vs n → h'.get? a = some o) : Kv h' p := ⟨NestedIs.at k _ _ x.is_, x.dp, x.nu, x.rf⟩
/-- a search among such shows nothing -/
theorem not_seen {p : Value × NestedKey} (x : Kv s.heap p) {ys : List Value} (all_ : ∀ y ∈ ys, ∃ k, Kv s.heap (y, k)) {Q : Bool → Shared → Prop} (q : Q false s) : wpAny (model P w) A (searchCouldBeSeen p.1 ys) Q E s := by
  unfold searchCouldBeSeen
  have loop : ∀ {Q' : Option Bool × PUnit → Shared → Prop} (f : Value → Option Bool × PUnit → Sem (ForInStep (Option Bool × PUnit))), (∀ y k, Kv s.heap (y, k) → ∀ Q2 : ForInStep (Option Bool × PUnit) → Shared → Prop, Q2 (.yield (none, ⟨⟩)) s → wpAny (model P w) A (f y (none, ⟨⟩)) Q2 E s) → Q' (none, ⟨⟩) s → wpAny (model P w) A (forIn ys ((none, ⟨⟩) : Option Bool × PUnit) f) Q' E s := by
    intro Q' f one q'
    induction ys with
    | nil => exact wpAny_pure q'
    | cons y r ih =>
      obtain ⟨k, ky⟩ := all_ y List.mem_cons_self
      rw [List.forIn_cons]
      exact wpAny_bind (one y k ky _ (ih fun z m => all_ z (List.mem_cons_of_mem _ m)))
  refine wpAny_bind (loop _ (fun y k ky Q2 q2 => ?_) (wpAny_pure q))
  obtain ⟨b, eb⟩ := x.rf
  obtain ⟨c, ec⟩ := ky.rf
  dsimp only at ec
  subst ec
  have qx : ∀ {Q : Bool → Shared → Prop}, Q true s → wpAny (model P w) A (eqIsQuiet 8 p.1) Q E s := fun q => quiet_key p.2 p.1 8 s x.is_ x.dp A E _ q
  have qy : ∀ {Q : Bool → Shared → Prop}, Q true s → wpAny (model P w) A (eqIsQuiet 8 (.ref c)) Q E s := fun q => quiet_key k _ 8 s ky.is_ ky.dp A E _ q
  have cx : ∀ {Q : Bool → Shared → Prop}, Q false s → wpAny (model P w) A (ofAClassStatement 8 p.1) Q E s := fun q => no_class 8 p.2 p.1 x.is_ x.dp q
  have cy : ∀ {Q : Bool → Shared → Prop}, Q false s → wpAny (model P w) A (ofAClassStatement 8 (.ref c)) Q E s := fun q => no_class 8 k _ ky.is_ ky.dp q
  rw [eb] at qx cx ⊢
  dsimp only
  by_cases same : (b == c || carriedByValue (.ref b) && carriedByValue (.ref c)) = true
  · exact wp_if_pos same (wpAny_pure q2)
  · exact wp_if_neg same (wpAny_bind (qx (wpAny_bind (qy (wpAny_bind (cx (wpAny_bind (cy (wpAny_pure q2)))))))))
end
/-! ### the set -/
section
variable {P : Program} {w : World} {A : Around} {E : Value → Shared → Prop} {s : Shared}
abbrev Ent : Type := Value × NestedKey
/-- a set of such keys at a, its rows, its table -/
structure Tb (w : World) (h : Heap) (a : Addr) (L : List Ent) (es : Array (Int × Value)) (ep : Nat) (t : SetTable) : Prop where
  ob : ∃ o, h.get? a = some o ∧ o.ExactSet ∧ o.data = .set es ep t
  es_ : es.toList = L.map fun p => (p.2.hash w, p.1)
  tab : TabOk t (L.map fun p => p.2.hash w)
  nd : (L.map (·.2)).Nodup
  kv : ∀ p ∈ L, Kv h p
  pl : t.plain = true
  ld : w.params.followText "set-order" = true ∨ t.led = true
  rm : L.length * 5 < t.mask * 3
  fw : L.length < 64
variable {a : Addr} {L : List Ent} {es : Array (Int × Value)} {ep : Nat} {t : SetTable}
theorem Tb.len (T : Tb w s.heap a L es ep t) : es.size = L.length := by
  have z := congrArg List.length T.es_
  simpa using z
theorem Tb.place (T : Tb w s.heap a L es ep t) : t.place.toList.length = L.length := by
  have z := T.tab.sz
  rw [List.length_map] at z
  rw [Array.length_toList, z]
theorem Tb.fit (T : Tb w s.heap a L es ep t) : t.fits es.size = true := by
  have z := T.tab.sz
  have r := T.rm
  rw [List.length_map] at z
  unfold SetTable.fits SetTable.fill
  rw [T.tab.dm, T.len, z]
  simp
  omega
theorem Tb.at_ (T : Tb w s.heap a L es ep t) {i : Nat} {p : Ent} (e : L[i]? = some p) : es[i]? = some (p.2.hash w, p.1) := by
  have : es.toList[i]? = some (p.2.hash w, p.1) := by rw [T.es_, List.getElem?_map, e]; rfl
  simpa using this
/-- the state of the set, read -/
theorem Tb.read (T : Tb w s.heap a L es ep t) {Q : Array (Int × Value) × Nat × SetTable → Shared → Prop} (q : Q (es, ep, t) s) : wpAny (model P w) A (setState a) Q E s := by
  obtain ⟨o, eo, _, ed⟩ := T.ob
  exact wpAny_setState_of eo ed T.fit q
/-- the i-th stop on the way of the hash g -/
abbrev stop (t : SetTable) (g : Int) (i : Nat) : SetTable.Probe := L2.nth t.mask (runAt t.mask (SetTable.bits g % (t.mask + 1)) (SetTable.bits g)) i
theorem stop_plain (t : SetTable) (g : Int) (i : Nat) : (stop t g i).dummy = none := by
  have z : ∀ (n : Nat) (p : SetTable.Probe), p.dummy = none → (L2.nth t.mask p n).dummy = none := by
    intro n
    induction n with
    | zero => exact fun p e => e
    | succ n ih =>
      intro p e
      have : (adv t.mask p).dummy = none := by unfold adv; split <;> exact e
      exact ih _ this
  exact z i _ rfl
/-- from its c-th stop on, a search for p meets the entry that is p's key, or the free slot at stop K -/
theorem look_on (T : Tb w s.heap a L es ep t) {p : Ent} (hp : Kv s.heap p) (hu : A.units + 8 < cLine) {K : Nat} (free : way t.mask (p.2.hash w) K ∉ t.place.toList) (full : ∀ i, i < K → way t.mask (p.2.hash w) i ∈ t.place.toList) (near : K < 10 * SetTable.turns t.mask) {Q : SetFound → Shared → Prop}
    (yes : p.2 ∈ L.map (·.2) → Q (.there none) s) (no : p.2 ∉ L.map (·.2) → Q (.free (way t.mask (p.2.hash w) K) false) s) (fuel : Nat) :
    ∀ (c : Nat) (from_ : Option SetTable.Probe), c ≤ K → K < c + fuel → from_.getD (t.probeStart (p.2.hash w)) = stop t (p.2.hash w) c →
      (∀ (i : Nat) r, L[i]? = some r → r.2 = p.2 → ∃ c', c ≤ c' ∧ c' < K ∧ t.place.toList[i]? = some (way t.mask (p.2.hash w) c')) → wpAny (model P w) A (setSearchFrom a p.1 (p.2.hash w) true fuel from_) Q E s := by
  induction fuel with
  | zero => intro c _ h1 h2; omega
  | succ fuel ih =>
    intro c from_ le lt at_ ahead
    have shift : ∀ i, L2.nth t.mask (stop t (p.2.hash w) c) i = stop t (p.2.hash w) (c + i) := fun i => (nth_add t.mask c _ i).symm
    have hash_at : ∀ {i : Nat} {r : Ent}, L[i]? = some r → (es[i]?.map (·.1)).getD 0 = r.2.hash w := fun e => by rw [T.at_ e]; rfl
    rw [setSearchFrom_succ]
    refine wpAny_bind (T.read ?_)
    dsimp only
    refine wp_if_neg (by unfold SetTable.gaveWay; rw [mask_odd T.tab.mok]; decide) ?_
    try refine wpAny_bind (wpAny_pure ?_)
    have gs := go_spec t T.tab.ris T.tab.dm (fun i => (es[i]?.map (·.1)).getD 0) (p.2.hash w) (10 * SetTable.turns t.mask) (K - c) (stop t (p.2.hash w) c) (stop_plain t _ c) (by omega) (fun i hi => by rw [shift]; exact full (c + i) (by omega)) (by rw [shift, Nat.add_sub_cancel' le]; exact free)
    rcases gs with ⟨j, i, hj, hi, hh, none_before, go⟩ | ⟨none_at_all, go⟩
    · rw [shift] at hi
      rw [shift, shift] at go
      have hit : t.probe (fun i => (es[i]?.map (·.1)).getD 0) (p.2.hash w) (from_.getD (t.probeStart (p.2.hash w))) = some (.candidate (way t.mask (p.2.hash w) (c + j)) i (stop t (p.2.hash w) (c + (j + 1)))) := by rw [at_]; exact go
      rw [hit]
      dsimp only
      obtain ⟨r, er⟩ : ∃ r, L[i]? = some r := ⟨L[i]'(by rw [← T.place]; exact (List.getElem?_eq_some_iff.mp hi).1), List.getElem?_eq_getElem _⟩
      have mr := List.mem_of_getElem? er
      have live := slot_live T.tab.ris hi
      have tail : wpAny (model P w) A (searchRest a p.1 (p.2.hash w) true fuel es t (way t.mask (p.2.hash w) (c + j)) i (stop t (p.2.hash w) (c + (j + 1)))) Q E s := by
        unfold searchRest
        rw [T.at_ er]
        refine wpAny_bind (wpAny_holding (eqAt_key r.2 p.2 A s r.1 p.1 (T.kv r mr).is_ hp.is_ (by have := (T.kv r mr).dp; omega) _ _ _ _ ?_))
        refine wpAny_bind (T.read ?_)
        dsimp only
        rw [← NestedKey.decide_eq]
        by_cases same : r.2 = p.2
        · exact wp_if_pos (by simp [same]) (wpAny_pure (yes (List.mem_map.mpr ⟨r, mr, same⟩)))
        · refine wp_if_neg (by simp [same]) ?_
          try refine wpAny_bind (wpAny_pure ?_)
          rw [sameMem]
          dsimp only
          rw [if_pos rfl, live]
          dsimp only
          rw [T.at_ er]
          dsimp only
          obtain ⟨b, eb⟩ := (T.kv r mr).rf
          rw [eb]
          refine wpAny_bind (wpAny_isSame_ref_self (wpAny_bind (wpAny_pure ?_)))
          simp only [if_true]
          refine wp_if_neg (by simp [same]) (ih (c + (j + 1)) _ (by omega) (by omega) rfl fun i2 r2 e2 k2 => ?_)
          obtain ⟨c2, g1, g2, g3⟩ := ahead i2 r2 e2 k2
          refine ⟨c2, ?_, g2, g3⟩
          rcases Nat.lt_trichotomy c2 (c + j) with z | z | z
          · refine absurd (show (es[i2]?.map (·.1)).getD 0 = p.2.hash w by rw [hash_at e2, k2]) (none_before (c2 - c) i2 (by omega) ?_)
            rw [shift, Nat.add_sub_cancel' g1]; exact g3
          · rw [z] at g3
            have l2 := slot_live T.tab.ris g3
            rw [live] at l2
            cases l2
            rw [er] at e2
            cases e2
            exact absurd k2 same
          · omega
      by_cases led : t.led = true
      · refine wp_if_neg (by simp [led]) ?_
        try refine wpAny_bind (wpAny_pure ?_)
        exact tail
      · refine wp_if_pos (by simp [led]) (wpAny_bind (not_seen hp (fun y my => ?_) (wp_if_neg (by decide) ?_)))
        · obtain ⟨e, me, ey⟩ := List.mem_map.mp my
          have me2 : e ∈ es.toList := by
            have z : e ∈ es ∧ e.1 = p.2.hash w := by simpa using me
            simpa using z.1
          rw [T.es_] at me2
          obtain ⟨r2, m2, e2⟩ := List.mem_map.mp me2
          exact ⟨r2.2, by rw [← ey, ← e2]; exact T.kv r2 m2⟩
        · try refine wpAny_bind (wpAny_pure ?_)
          exact tail
    · rw [shift, Nat.add_sub_cancel' le] at go
      have hit : t.probe (fun i => (es[i]?.map (·.1)).getD 0) (p.2.hash w) (from_.getD (t.probeStart (p.2.hash w))) = some (.empty (way t.mask (p.2.hash w) K) none) := by rw [at_]; exact go
      rw [hit]
      dsimp only
      refine wpAny_pure (no fun mem => ?_)
      obtain ⟨r, mr, kr⟩ := List.mem_map.mp mem
      obtain ⟨i, er⟩ := List.mem_iff_getElem?.mp mr
      obtain ⟨c2, g1, g2, g3⟩ := ahead i r er kr
      refine none_at_all (c2 - c) i (by omega) (by rw [shift, Nat.add_sub_cancel' g1]; exact g3) ?_
      show (es[i]?.map (·.1)).getD 0 = _
      rw [hash_at er, kr]
/-- the search of adding -/
theorem look_up (T : Tb w s.heap a L es ep t) {p : Ent} (hp : Kv s.heap p) (hu : A.units + 8 < cLine) {Q : SetFound → Shared → Prop} (yes : p.2 ∈ L.map (·.2) → Q (.there none) s)
    (no : ∀ K, p.2 ∉ L.map (·.2) → way t.mask (p.2.hash w) K ∉ t.place.toList → (∀ i, i < K → way t.mask (p.2.hash w) i ∈ t.place.toList) → Q (.free (way t.mask (p.2.hash w) K) false) s) : wpAny (model P w) A (setSearch a p.1 (p.2.hash w) true) Q E s := by
  have r := T.rm
  obtain ⟨K, near, free, full⟩ := T.tab.first (by rw [List.length_map]; omega) (p.2.hash w)
  have few : 10 * SetTable.turns t.mask ≤ 1420 := by
    unfold SetTable.turns
    rcases T.tab.mok with z | z | z <;> omega
  unfold setSearch
  refine look_on T hp hu free full near yes (fun n => no K n free full) 100000 0 none (Nat.zero_le _) (by omega) rfl fun i r er kr => ?_
  have il : i < t.place.toList.length := by rw [T.place]; exact (List.getElem?_eq_some_iff.mp er).1
  obtain ⟨c, c1, c2⟩ := T.tab.before free (show (L.map fun p => p.2.hash w)[i]? = some (p.2.hash w) by rw [List.getElem?_map, er, ← kr]; rfl) (List.getElem?_eq_getElem il)
  exact ⟨c, Nat.zero_le _, c1, by rw [List.getElem?_eq_getElem il, c2]⟩
end
end Ma
set_option maxHeartbeats 4000000
/-! Sets of nested tuples of ints: adding. -/
namespace Ma
open PySem PySem.Spec L2
section
variable {P : Program} {w : World} {A : Around} {E : Value → Shared → Prop} {s : Shared}
theorem kv_same {h h' : Heap} {p : Ent} {a : Addr} {o : Obj} {es : Array (Int × Value)} {ep : Nat} {t : SetTable} (x : Kv h p) (eo : h.get? a = some o) (ed : o.data = .set es ep t) (sb : Heap.SameBut a h h') : Kv h' p :=
  x.at_ fun b u vs n eb dt => (sb.2 b fun z => by rw [z, eo] at eb; cases eb; rw [ed] at dt; cases dt).trans eb
theorem put_in {α : Type} (l : List α) (n : Nat) (x : α) : (l.take n ++ x :: l.drop n).Perm (x :: l) := by
  have : (l.take n ++ x :: l.drop n).Perm (x :: (l.take n ++ l.drop n)) := List.perm_middle
  rwa [List.take_append_drop] at this
/-- rows by a list of their places -/
theorem by_places {L : List Ent} {es : Array (Int × Value)} (e : es.toList = L.map fun p => (p.2.hash w, p.1)) {ord : Array Nat} (pm : ord.toList.Perm (List.range L.length)) :
    ∃ M : List Ent, (ord.filterMap (es[·]?)).toList = M.map (fun p => (p.2.hash w, p.1)) ∧ M.Perm L ∧ (M.map fun p => p.2.hash w) = ord.toList.map fun i => (es.map (·.1)).getD i 0 := by
  have at_ : ∀ (i : Nat) p, L[i]? = some p → es[i]? = some (p.2.hash w, p.1) := fun i p z => by
    have : es.toList[i]? = some (p.2.hash w, p.1) := by rw [e, List.getElem?_map, z]; rfl
    simpa using this
  have one : ∀ l : List Nat, (∀ i ∈ l, i < L.length) → l.filterMap (fun i => es[i]?) = (l.filterMap fun i => L[i]?).map (fun p => (p.2.hash w, p.1)) ∧ ((l.filterMap fun i => L[i]?).map fun p => p.2.hash w) = l.map fun i => (es.map (·.1)).getD i 0 := by
    intro l
    induction l with
    | nil => exact fun _ => ⟨rfl, rfl⟩
    | cons i l ih =>
      intro small
      have li := small i List.mem_cons_self
      obtain ⟨i1, i2⟩ := ih fun j m => small j (List.mem_cons_of_mem _ m)
      have eL := List.getElem?_eq_getElem li
      have eE := at_ i _ eL
      rw [List.filterMap_cons_some eE, List.filterMap_cons_some eL, i1]
      refine ⟨rfl, ?_⟩
      rw [List.map_cons, List.map_cons, i2]
      have : (es.map (·.1))[i]? = some (L[i].2.hash w) := by rw [Array.getElem?_map, eE]; rfl
      rw [Array.getD_eq_getD_getElem?, this]
      rfl
  obtain ⟨o1, o2⟩ := one ord.toList fun i m => List.mem_range.mp (pm.mem_iff.mp m)
  have all_ : (List.range L.length).filterMap (fun i => L[i]?) = L := by
    have : ∀ n, n ≤ L.length → (List.range n).filterMap (fun i => L[i]?) = L.take n := by
      intro n
      induction n with
      | zero => intro _; simp
      | succ n ih =>
        intro le
        have ln : n < L.length := le
        rw [List.range_succ, List.filterMap_append, ih (Nat.le_of_lt ln), List.take_succ, List.filterMap_cons_some (List.getElem?_eq_getElem ln), List.getElem?_eq_getElem ln]
        rfl
    rw [this _ (Nat.le_refl _), List.take_length]
  refine ⟨_, by rw [Array.toList_filterMap]; exact o1, ?_, o2⟩
  have := pm.filterMap fun i => L[i]?
  rwa [all_] at this
variable {a : Addr} {L : List Ent} {es : Array (Int × Value)} {ep : Nat} {t : SetTable}
/-- all laid anew in a table of M + 1 slots -/
theorem lay_anew {o : Obj} (eo : s.heap.get? a = some o) (ex : o.ExactSet) (ed : o.data = .set es ep t) (e : es.toList = L.map fun p => (p.2.hash w, p.1)) (tab : TabOk t (L.map fun p => p.2.hash w)) (room : L.length ≤ t.mask) (nd : (L.map (·.2)).Nodup) (kv : ∀ p ∈ L, Kv s.heap p) (pl : t.plain = true)
    (ld : w.params.followText "set-order" = true ∨ t.led = true) (fw : L.length < 64) {n M : Nat} (size : SetTable.sizeAbove n - 1 = M) (mok : MaskOk M) (small : SetTable.sizeAbove n ≤ 128) (fits : L.length * 5 < M * 3) {Q : Unit → Shared → Prop}
    (q : ∀ h' L' es' ep' t', Heap.SameBut a s.heap h' → Tb w h' a L' es' ep' t' → L'.Perm L → Q () { s with heap := h' }) : wpAny (model P w) A (setRelay a n) Q E s := by
  have len : es.size = L.length := by have z := congrArg List.length e; simpa using z
  have fit : t.fits es.size = true := by
    have z := tab.sz
    rw [List.length_map] at z
    unfold SetTable.fits SetTable.fill
    rw [tab.dm, len, z]
    simpa using room
  obtain ⟨t', ord, er, pm, tab', em, el, epl, _⟩ := relaid_ok t (hs := es.map (·.1)) size mok (by rw [Array.size_map, len]; omega)
  rw [Array.size_map, len] at pm
  obtain ⟨M', e1, e2, e3⟩ := by_places e pm
  have len' : (ord.filterMap (es[·]?)).size = L.length := by
    have z := congrArg List.length e1
    rw [List.length_map, e2.length_eq] at z
    rw [← Array.length_toList]
    exact z
  rw [setRelay_eq]
  refine wpAny_bind (wpAny_setState_of eo ed fit ?_)
  dsimp only
  refine wp_if_neg (by rw [sizeLine_eq]; omega) ?_
  try refine wpAny_bind (wpAny_pure ?_)
  rw [er]
  dsimp only
  refine wpAny_bind (wp_if_neg (by rw [len', len]; simp) ?_)
  try refine wpAny_bind (wpAny_pure ?_)
  refine wpAny_pure (wpAny_storeSet_of eo ed ?_ (by rw [len', sizeLine_eq]; omega))
  have sb : Heap.SameBut a s.heap (s.heap.update a (Obj.putSet (ord.filterMap (es[·]?)) t')) := Heap.SameBut.update ..
  refine q _ M' _ (ep + 1) t' sb ⟨⟨_, store_at eo ed, ⟨ex.1, ex.2.1, ex.2.2⟩, rfl⟩, e1, by rw [e3]; exact tab', ((e2.map (·.2)).nodup_iff).mpr nd, fun p m => kv_same (kv p (e2.mem_iff.mp m)) eo ed sb, by rw [epl]; exact pl, by rw [el]; exact ld, ?_, ?_⟩ e2
  · rw [e2.length_eq, em]; exact fits
  · rw [e2.length_eq]; exact fw
/-- a key put into the set -/
theorem add_one (T : Tb w s.heap a L es ep t) {p : Ent} (hp : Kv s.heap p) (hu : A.units + 8 < cLine) (fw : L.length + 1 < 64) {Q : Bool → Shared → Prop}
    (q : ∀ b h' L' es' ep' t', Heap.SameBut a s.heap h' → Tb w h' a L' es' ep' t' → (p.2 ∈ L.map (·.2) ∧ L' = L ∨ p.2 ∉ L.map (·.2) ∧ L'.Perm (p :: L)) → Q b { s with heap := h' }) : wpAny (model P w) A (setAddHashed a p.1 (p.2.hash w)) Q E s := by
  obtain ⟨o, eo, ex, ed⟩ := T.ob
  obtain ⟨b, eb⟩ := hp.rf
  unfold setAddHashed
  refine wpAny_holding ?_
  rw [show (100000 : Nat) = 99999 + 1 from rfl, setAddHashedIn_succ]
  refine wpAny_bind (T.read ?_)
  dsimp only
  refine wp_if_neg (by rw [eb]; simp [byScan, Value.scannable]) ?_
  try refine wpAny_bind (wpAny_pure ?_)
  refine wpAny_bind (look_up T hp hu (fun m => ?_) fun K nm free full => ?_)
  · exact wpAny_pure (q false s.heap L es ep t (Heap.SameBut.refl a s.heap) T (.inl ⟨m, rfl⟩))
  · dsimp only
    refine wpAny_bind (T.read ?_)
    dsimp only
    obtain ⟨w1, w2, w3, w4, w5, w6, w7, w8, w9⟩ := T.tab.put free full
    generalize t.put (way t.mask (p.2.hash w) K) = pt at w1 w3 w4 w5 w6 w7 w8 w9 ⊢
    generalize SetTable.below t.place (way t.mask (p.2.hash w) K) = n at w1 w2 w3 ⊢
    obtain ⟨t1, n'⟩ := pt
    dsimp only at w1 w3 w4 w5 w6 w7 w8 w9 ⊢
    subst w1
    have pl1 : t1.plain = true := w6.trans T.pl
    first
      | (refine wpAny_bind ?_; refine wp_if_pos pl1 ?_; refine by_value 8 p.2 p.1 hp.is_ hp.dp hp.nu ?_)
      | refine wp_if_pos pl1 (wpAny_bind (by_value 8 p.2 p.1 hp.is_ hp.dp hp.nu ?_))
    rw [if_pos rfl]
    have pm := put_in L n' p
    have e1 : (SetTable.insertAt es n' (p.2.hash w, p.1)).toList = (L.take n' ++ p :: L.drop n').map fun p => (p.2.hash w, p.1) := by
      rw [SetTable.toList_insertAt, T.es_, List.map_append, List.map_cons, List.map_take, List.map_drop]
    have tab1 : TabOk t1 ((L.take n' ++ p :: L.drop n').map fun p => p.2.hash w) := by
      rw [List.map_append, List.map_cons, List.map_take, List.map_drop]; exact w3
    have nd1 : ((L.take n' ++ p :: L.drop n').map (·.2)).Nodup := by
      refine ((pm.map (·.2)).nodup_iff).mpr ?_
      rw [List.map_cons]
      exact List.nodup_cons.mpr ⟨nm, T.nd⟩
    have l1 : (L.take n' ++ p :: L.drop n').length = L.length + 1 := pm.length_eq
    generalize L.take n' ++ p :: L.drop n' = L1 at pm e1 tab1 nd1 l1
    have l2 : (SetTable.insertAt es n' (p.2.hash w, p.1)).size = L.length + 1 := by
      have z := congrArg List.length e1
      rw [List.length_map, l1] at z
      simpa using z
    generalize SetTable.insertAt es n' (p.2.hash w, p.1) = es1 at e1 l2 ⊢
    refine wpAny_bind (wpAny_storeSet_of eo ed ?_ (by rw [l2, sizeLine_eq]; omega))
    have sb : Heap.SameBut a s.heap (s.heap.update a (Obj.putSet es1 t1)) := Heap.SameBut.update ..
    have eo1 := store_at (es' := es1) (t' := t1) eo ed
    generalize s.heap.update a (Obj.putSet es1 t1) = h1 at sb eo1 ⊢
    have kv1 : ∀ r ∈ L1, Kv h1 r := fun r m => by
      rcases List.mem_cons.mp (pm.mem_iff.mp m) with z | z
      · rw [z]; exact kv_same hp eo ed sb
      · exact kv_same (T.kv r z) eo ed sb
    have ld1 : w.params.followText "set-order" = true ∨ t1.led = true := by rw [w5]; exact T.ld
    have rm := T.rm
    have full_ : t1.tooFull = decide ((L.length + 1) * 5 ≥ t.mask * 3) := by unfold SetTable.tooFull; rw [w9, w4, List.length_map]
    by_cases tf : t1.tooFull = true
    · first
        | (refine wpAny_bind ?_; refine wp_if_pos (by simp [tf]) ?_)
        | (refine wp_if_pos (by simp [tf]) ?_; refine wpAny_bind ?_)
      rw [full_, decide_eq_true_eq] at tf
      have grow : ∀ M, SetTable.sizeAbove (SetTable.grown (L.length + 1)) - 1 = M → MaskOk M → SetTable.sizeAbove (SetTable.grown (L.length + 1)) ≤ 128 → (L.length + 1) * 5 < M * 3 → wpAny (model P w) A (setRelay a (SetTable.grown (es.size + 1))) (fun _ s' => wpAny (model P w) A (pure true) Q E s') E { s with heap := h1 } := fun M g1 g2 g3 g4 => by
        rw [T.len]
        refine lay_anew (s := { s with heap := h1 }) eo1 ⟨ex.1, ex.2.1, ex.2.2⟩ rfl e1 tab1 (by rw [l1, w4]; omega) nd1 kv1 pl1 ld1 (by rw [l1]; exact fw) g1 g2 g3 (by rw [l1]; exact g4) fun h2 L2 es2 ep2 t2 sb2 T2 pm2 => ?_
        exact wpAny_pure (q true h2 L2 es2 ep2 t2 (sb.trans sb2) T2 (.inr ⟨nm, pm2.trans pm⟩))
      rcases T.tab.mok with z | z | z
      · rw [z] at rm tf
        have e4 : L.length = 4 := by omega
        exact grow 31 (by rw [e4, size_20]) (.inr (.inl rfl)) (by rw [e4, size_20]; decide) (by omega)
      · rw [z] at rm tf
        have e18 : L.length = 18 := by omega
        exact grow 127 (by rw [e18, size_76]) (.inr (.inr rfl)) (by rw [e18, size_76]; decide) (by omega)
      · rw [z] at rm tf
        omega
    · first
        | refine wp_if_neg (by simp [tf]) ?_
        | (refine wpAny_bind ?_; refine wp_if_neg (by simp [tf]) ?_; refine wpAny_pure ?_)
      rw [full_, decide_eq_true_eq] at tf
      exact wpAny_pure (q true h1 L1 es1 (ep + 1) t1 sb ⟨⟨_, eo1, ⟨ex.1, ex.2.1, ex.2.2⟩, rfl⟩, e1, tab1, nd1, kv1, pl1, ld1, by rw [l1, w4]; omega, by rw [l1]; exact fw⟩ (.inr ⟨nm, pm⟩))
end
end Ma
set_option maxHeartbeats 4000000
/-! Sets of nested tuples of ints: set(row). -/
namespace Ma
open PySem PySem.Spec L2 PyProof.Rows
/-- what a set has of the first i of a row -/
structure Hv (ks : List Ent) (i : Nat) (L : List Ent) : Prop where
  sub : ∀ p ∈ L, p ∈ ks.take i
  all_ : ∀ p ∈ ks.take i, p.2 ∈ L.map (·.2)
  len : L.length ≤ i
theorem Hv.next {ks L L' : List Ent} {i : Nat} {p : Ent} (g : Hv ks i L) (e : ks[i]? = some p) (r : p.2 ∈ L.map (·.2) ∧ L' = L ∨ p.2 ∉ L.map (·.2) ∧ L'.Perm (p :: L)) : Hv ks (i + 1) L' := by
  have more : ks.take (i + 1) = ks.take i ++ [p] := by rw [List.take_succ, e]; rfl
  rcases r with ⟨m, rfl⟩ | ⟨m, pm⟩
  · refine ⟨fun q mq => by rw [more]; exact List.mem_append_left _ (g.sub q mq), fun q mq => ?_, Nat.le_succ_of_le g.len⟩
    rw [more] at mq
    rcases List.mem_append.mp mq with z | z
    · exact g.all_ q z
    · rw [List.mem_singleton.mp z]; exact m
  · refine ⟨fun q mq => ?_, fun q mq => ?_, by rw [pm.length_eq]; exact Nat.succ_le_succ g.len⟩
    · rw [more]
      rcases List.mem_cons.mp (pm.mem_iff.mp mq) with z | z
      · rw [z]; exact List.mem_append_right _ (List.mem_singleton.mpr rfl)
      · exact List.mem_append_left _ (g.sub q z)
    · rw [(pm.map (·.2)).mem_iff]
      rw [more] at mq
      rcases List.mem_append.mp mq with z | z
      · exact List.mem_cons_of_mem _ (g.all_ q z)
      · rw [List.mem_singleton.mp z]; exact List.mem_cons_self
section
variable {P : Program} {w : World} {A : Around} {E : Value → Shared → Prop} {s : Shared}
theorem Kv.grow {h h' : Heap} {p : Ent} (x : Kv h p) (k : ∀ b o, h.get? b = some o → h'.get? b = some o) : Kv h' p := x.at_ fun b o _ _ e _ => k b o e
theorem Tb.move {h h' : Heap} {a : Addr} {L : List Ent} {es : Array (Int × Value)} {ep : Nat} {t : SetTable} (T : Tb w h a L es ep t) (k : ∀ o, h.get? a = some o → h'.get? a = some o) (kv : ∀ p ∈ L, Kv h' p) : Tb w h' a L es ep t :=
  ⟨let ⟨o, e, r⟩ := T.ob; ⟨o, k o e, r⟩, T.es_, T.tab, T.nd, kv, T.pl, T.ld, T.rm, T.fw⟩
abbrev newSetObj (w : World) : Obj := { cls := .type "set", dict := none, data := .set #[] 0 (.fresh 0 0 (!w.params.followText "set-order")) }
theorem tb_new {h : Heap} {a : Addr} (e : h.get? a = some (newSetObj w)) : Tb w h a [] #[] 0 (.fresh 0 0 (!w.params.followText "set-order")) := by
  refine ⟨⟨_, e, ⟨rfl, rfl, rfl⟩, rfl⟩, rfl, ⟨.nil, rfl, rfl, .inl rfl, nofun, fun i h j z => by simp at z⟩, .nil, nofun, rfl, ?_, (by decide : 0 * 5 < 7 * 3), (by decide : 0 < 64)⟩
  show _ ∨ (!w.params.followText "set-order") = true
  cases w.params.followText "set-order"
  · exact .inr rfl
  · exact .inl rfl
/-- the loop that fills it -/
theorem fill_loop {I S : Addr} {fp wr : List Addr} {n : Nat} {Pv : Nat → Value → Prop} {St : Nat → Heap → Prop} {R : Result → Shared → Prop} (W : Walks P w A.in1 I fp wr n Pv St) (out : S ∉ fp) (ks : List Ent) (hn : n = ks.length) (fw : ks.length < 64) (val : ∀ i v, Pv i v → ∃ p, ks[i]? = some p ∧ v = p.1)
    (h0 : Heap) (kv : ∀ p ∈ ks, Kv h0 p) (S0 : h0.get? S = none) (w0 : ∀ b ∈ wr, h0.get? b = none) (hu : A.in1.units + 8 < cLine) (fin : ∀ h tk L es ep t, Tb w h S L es ep t → Hv ks n L → (∀ b o, h0.get? b = some o → h.get? b = some o) → R (.ok (.ret .none)) { s with heap := h, toks := tk }) (left : Nat) :
    ∀ (i : Nat) (h : Heap) (tk : Nat), i + left = n → St i h → (∀ b o, h0.get? b = some o → h.get? b = some o) → (∃ L es ep t, Tb w h S L es ep t ∧ Hv ks i L) → codeAny (model P w) A (.builtin "set.update.loop" ⟨[.ref S, .ref I], []⟩) R { s with heap := h, toks := tk } := by
  have Sw : S ∉ wr := fun m => out (W.sub _ m)
  have on : ∀ {h h' : Heap}, (∀ b o, b ∉ wr → h.get? b = some o → h'.get? b = some o) → (∀ b o, h0.get? b = some o → h.get? b = some o) → ∀ b o, h0.get? b = some o → h'.get? b = some o := fun k k0 b o e => k b o (fun m => by rw [w0 b m] at e; cases e) (k0 b o e)
  induction left with
  | zero =>
    rintro i h tk rfl st k0 ⟨L, es, ep, t, T, g⟩
    refine codeAny_builtin PyProof.Rows.F.entry_set_update_loop ?_
    rw [Around.under_plainId PyProof.Rows.F.plain_set_update_loop _]
    refine wpAny_bind (W.done { s with heap := h, toks := tk } _ _ st fun h' tk' k => (?_ : wpAny _ A.in1 (ret Value.none) _ _ _))
    have k0' := on k k0
    exact wpAny_pure (fin h' tk' L es ep t (T.move (fun o e => k S o Sw e) fun p m => (kv p (List.mem_of_mem_take (g.sub p m))).grow k0') g k0')
  | succ left ih =>
    rintro i h tk en st k0 ⟨L, es, ep, t, T, g⟩
    refine codeAny_builtin PyProof.Rows.F.entry_set_update_loop ?_
    rw [Around.under_plainId PyProof.Rows.F.plain_set_update_loop _]
    refine wpAny_bind (W.item i { s with heap := h, toks := tk } _ _ (by omega) st fun v h' tk' pv st' k => ?_)
    obtain ⟨p, ep_, rfl⟩ := val i v pv
    have k0' := on k k0
    have T' := T.move (fun o e => k S o Sw e) fun q m => (kv q (List.mem_of_mem_take (g.sub q m))).grow k0'
    have hp := (kv p (List.mem_of_getElem? ep_)).grow k0'
    change wpAny _ A.in1 (holding [p.1] (setAdd S p.1) >>= _) _ _ _
    refine wpAny_bind (wpAny_holding ?_)
    unfold setAdd
    refine wpAny_holding (wpAny_bind (pyHash_key p.2 p.1 A.in1 ⟨h', s.gens, s.drawn, tk', s.os⟩ _ hp.is_ (by have := hp.dp; omega) ?_))
    refine add_one (s := ⟨h', s.gens, s.drawn, tk' + p.2.draws, s.os⟩) T' hp hu (by have := g.len; omega) fun b h2 L2 es2 ep2 t2 sb T2 how => ?_
    have k2 : ∀ b o, h0.get? b = some o → h2.get? b = some o := fun b o e => (sb.2 b fun z => by rw [z, S0] at e; cases e).trans (k0' b o e)
    exact wpAny_pure ⟨plainId_quiet PyProof.Rows.F.plain_set_update_loop _, ih (i + 1) h2 _ (by omega) (W.frame _ _ _ st' fun b m o e => (sb.2 b fun z => out (z ▸ m)).trans e) k2 ⟨L2, es2, ep2, t2, T2, g.next ep_ how⟩⟩
/-- set(x): what __new__ and __init__ do -/
theorem call_set_by {x : Value} {Q Q1 : Value → Shared → Prop} (new : codeAny (model P w) A.in1 (.call (.builtin "set.__new__") ⟨[.type "set", x], []⟩) (wants Q1 E) s)
    (init : ∀ o s1, Q1 o s1 → s1.TypeIs o "set" ∧ wpAny (model P w) A.in1.in1 (Builtin.«set.__init__» ⟨[o, x], []⟩)
      (fun fin s2 => match fin with | .done f => wants (fun r s3 => r = .none ∧ Q o s3) E (.ok f) s2 | .again c => c.quiet = true ∧ codeAny (model P w) A.in1 c (wants (fun r s3 => r = .none ∧ Q o s3) E) s2) (fun e s2 => wants (fun r s3 => r = .none ∧ Q o s3) E (.error e) s2) s1) :
    wpAny (model P w) A (call (.type "set") [x]) Q E s := by
  have ft := F.called_set
  obtain ⟨c, tl, e1⟩ := ft.mro
  have e2 := ft.made
  have e3 := ft.sub
  have e4 := ft.notType
  have e5 := ft.canCreate
  have e6 := F.typeCall_set_1 x
  refine wpAny_call (codeAny_of_tree (?_ : wpAny _ _ (callAny (.type "set") _) _ _ _))
  refine wpAny_pure ⟨Code.quiet_builtin _ (by decide +kernel), codeAny_builtin F.entry_type_call (Around.under_plain (weight_type_call_type "set" [x] []) rfl ▸ ?_)⟩
  repeat (any_goals (first | assumption | wp_step))
  refine codeAny_mono new fun r s1 z => ?_
  rcases r with e | fl
  · exact z
  · cases fl with
    | ret o =>
      obtain ⟨ty, body⟩ := init o s1 z
      have e7 := ft.init.lookup
      have e8 := ft.init.bind o
      repeat (any_goals (first | assumption | wp_step))
      refine codeAny_mono (codeAny_call_builtin ft.init.plain F.entry_set_init (check_set_init_1 ty body)) fun r2 s2 z2 => ?_
      rcases r2 with e | fl2
      · exact z2
      · cases fl2 with
        | ret r =>
          obtain ⟨rfl, q⟩ := z2
          repeat (any_goals (first | assumption | wp_step))
        | _ => exact z2.elim
    | _ => exact z.elim
/-- set(row), the row a list -/
theorem set_list {l : Addr} {items : Array Value} (ks : List Ent) {Q : Value → Shared → Prop} (calm : A.handled = none) (hl : s.heap.IsList l items) (hit : items.toList = ks.map (·.1)) (kv : ∀ p ∈ ks, Kv s.heap p) (fw : ks.length < 64) (hu : A.units + 20 < cLine)
    (q : ∀ (h' : Heap) (tk : Nat) L es ep t, Tb w h' s.heap.objs.size L es ep t → Hv ks ks.length L → (∀ b o, s.heap.get? b = some o → h'.get? b = some o) → Q (.ref s.heap.objs.size) { s with heap := h', toks := tk }) : wpAny (model P w) A (call (.type "set") [.ref l]) Q E s := by
  have isz : items.size = ks.length := by
    have z := congrArg List.length hit
    rw [List.length_map] at z
    simpa using z
  refine call_set_by (Q1 := fun o s1 => o = .ref s.heap.objs.size ∧ s1 = { s with heap := s.heap.push (newSetObj w) }) (code_set_led1 _ ⟨rfl, rfl⟩) ?_
  rintro o s1 ⟨rfl, rfl⟩
  have atS : (s.heap.push (newSetObj w)).get? s.heap.objs.size = some (newSetObj w) := Heap.get?_push_size _ rfl
  refine ⟨⟨_, atS, rfl⟩, ?_⟩
  obtain ⟨⟨oc, od, odt, osl⟩, eo, ec, n, ed⟩ := id hl
  dsimp only at ec ed
  subst ec ed
  have eo1 : (s.heap.push (newSetObj w)).get? l = some { cls := .type "list", dict := od, data := .seq items n, slots := osl } := Heap.get?_push_of_some _ eo
  have t1 := F.sub_list_set
  have t2 := F.sub_list_frozenset
  have t3 : (Value.type "list" == Value.type "dict") = false := by decide
  unfold Builtin.«set.__init__» noKeywords Builtin.Frozenset.updateFrom
  generalize iter_ : pyIter = it
  wp_walk
  subst iter_
  have ll : l < s.heap.objs.size := Heap.lt_size eo
  have size1 : (s.heap.push (newSetObj w)).objs.size = s.heap.objs.size + 1 := Heap.size_push ..
  have lst1 : (s.heap.push (newSetObj w)).IsList l items := ⟨_, eo1, rfl, n, rfl⟩
  have none_ : ∀ {b}, s.heap.objs.size ≤ b → s.heap.get? b = none := fun {b} le => by
    cases e : s.heap.get? b with
    | none => rfl
    | some o => exact absurd (Heap.lt_size e) (Nat.not_lt.mpr le)
  refine wpAny_pyIter_list lst1 (wpAny_bind (wpAny_runValue ?_))
  have ne1 : l ≠ (s.heap.push (newSetObj w)).objs.size := by rw [size1]; exact Nat.ne_of_lt (Nat.lt_succ_of_lt ll)
  have calm1 : A.in1.in1.in1.handled = none := calm
  refine fill_loop (s := s) (Walks.list calm1 _ l ne1 items) (S := s.heap.objs.size) (by
    rw [size1]
    simp only [List.mem_cons, List.not_mem_nil, or_false, not_or]
    exact ⟨Nat.ne_of_lt (Nat.lt_succ_self _), Nat.ne_of_gt ll⟩) ks isz fw (fun i v e => ?_) s.heap kv (none_ (Nat.le_refl _)) (fun b m => none_ (by rw [List.mem_singleton.mp m, size1]; exact Nat.le_succ _)) (by show A.units + 1 + 1 + 1 + 8 < cLine; omega) (fun h tk L es ep t T g k0 => ?_) items.size 0 _ s.toks (Nat.zero_add _) ⟨⟨_, Heap.get?_push_size _ rfl, rfl, rfl⟩, lst1.push _⟩ (fun b o e => Heap.get?_push_of_some _ (Heap.get?_push_of_some _ e)) ⟨[], #[], 0, _, tb_new (Heap.get?_push_of_some _ atS), ⟨nofun, fun p m => by simp at m, Nat.le_refl _⟩⟩
  · have z : items.toList[i]? = some v := by simpa using e
    rw [hit, List.getElem?_map] at z
    cases e2 : ks[i]? with
    | none => rw [e2] at z; cases z
    | some p => rw [e2] at z; cases z; exact ⟨p, rfl, rfl⟩
  · rw [isz] at g
    exact wpAny_pure (wpAny_pure ⟨rfl, q h tk L es ep t T g k0⟩)
/-- set(row), the row a tuple -/
theorem set_tuple {l : Addr} {items : Array Value} (ks : List Ent) {Q : Value → Shared → Prop} (calm : A.handled = none) (hl : s.heap.IsTuple l items) (hit : items.toList = ks.map (·.1)) (kv : ∀ p ∈ ks, Kv s.heap p) (fw : ks.length < 64) (hu : A.units + 20 < cLine)
    (q : ∀ (h' : Heap) (tk : Nat) L es ep t, Tb w h' s.heap.objs.size L es ep t → Hv ks ks.length L → (∀ b o, s.heap.get? b = some o → h'.get? b = some o) → Q (.ref s.heap.objs.size) { s with heap := h', toks := tk }) : wpAny (model P w) A (call (.type "set") [.ref l]) Q E s := by
  have isz : items.size = ks.length := by
    have z := congrArg List.length hit
    rw [List.length_map] at z
    simpa using z
  refine call_set_by (Q1 := fun o s1 => o = .ref s.heap.objs.size ∧ s1 = { s with heap := s.heap.push (newSetObj w) }) (code_set_led1 _ ⟨rfl, rfl⟩) ?_
  rintro o s1 ⟨rfl, rfl⟩
  have atS : (s.heap.push (newSetObj w)).get? s.heap.objs.size = some (newSetObj w) := Heap.get?_push_size _ rfl
  refine ⟨⟨_, atS, rfl⟩, ?_⟩
  obtain ⟨⟨oc, od, odt, osl⟩, eo, ec, n, ed⟩ := id hl
  dsimp only at ec ed
  subst ec ed
  have eo1 : (s.heap.push (newSetObj w)).get? l = some { cls := .type "tuple", dict := od, data := .seq items n, slots := osl } := Heap.get?_push_of_some _ eo
  have t1 := PySem.F.sub_tuple_set
  have t2 := PySem.F.sub_tuple_frozenset
  have t3 : (Value.type "tuple" == Value.type "dict") = false := by decide
  unfold Builtin.«set.__init__» noKeywords Builtin.Frozenset.updateFrom
  generalize iter_ : pyIter = it
  wp_walk
  subst iter_
  have ll : l < s.heap.objs.size := Heap.lt_size eo
  have size1 : (s.heap.push (newSetObj w)).objs.size = s.heap.objs.size + 1 := Heap.size_push ..
  have lst1 : (s.heap.push (newSetObj w)).IsTuple l items := ⟨_, eo1, rfl, n, rfl⟩
  have none_ : ∀ {b}, s.heap.objs.size ≤ b → s.heap.get? b = none := fun {b} le => by
    cases e : s.heap.get? b with
    | none => rfl
    | some o => exact absurd (Heap.lt_size e) (Nat.not_lt.mpr le)
  refine PySem.wpAny_pyIter_tuple lst1 (wpAny_bind (wpAny_runValue ?_))
  have ne1 : l ≠ (s.heap.push (newSetObj w)).objs.size := by rw [size1]; exact Nat.ne_of_lt (Nat.lt_succ_of_lt ll)
  have calm1 : A.in1.in1.in1.handled = none := calm
  refine fill_loop (s := s) (Walks.tuple calm1 _ l ne1 items) (S := s.heap.objs.size) (by
    rw [size1]
    simp only [List.mem_cons, List.not_mem_nil, or_false, not_or]
    exact ⟨Nat.ne_of_lt (Nat.lt_succ_self _), Nat.ne_of_gt ll⟩) ks isz fw (fun i v e => ?_) s.heap kv (none_ (Nat.le_refl _)) (fun b m => none_ (by rw [List.mem_singleton.mp m, size1]; exact Nat.le_succ _)) (by show A.units + 1 + 1 + 1 + 8 < cLine; omega) (fun h tk L es ep t T g k0 => ?_) items.size 0 _ s.toks (Nat.zero_add _) ⟨⟨_, Heap.get?_push_size _ rfl, rfl, rfl⟩, lst1.push _⟩ (fun b o e => Heap.get?_push_of_some _ (Heap.get?_push_of_some _ e)) ⟨[], #[], 0, _, tb_new (Heap.get?_push_of_some _ atS), ⟨nofun, fun p m => by simp at m, Nat.le_refl _⟩⟩
  · have z : items.toList[i]? = some v := by simpa using e
    rw [hit, List.getElem?_map] at z
    cases e2 : ks[i]? with
    | none => rw [e2] at z; cases z
    | some p => rw [e2] at z; cases z; exact ⟨p, rfl, rfl⟩
  · rw [isz] at g
    exact wpAny_pure (wpAny_pure ⟨rfl, q h tk L es ep t T g k0⟩)
/-- set(row) -/
theorem set_row {l : Addr} {items : Array Value} (ks : List Ent) {Q : Value → Shared → Prop} (calm : A.handled = none) (hl : s.heap.IsList l items ∨ s.heap.IsTuple l items) (hit : items.toList = ks.map (·.1)) (kv : ∀ p ∈ ks, Kv s.heap p) (fw : ks.length < 64) (hu : A.units + 20 < cLine)
    (q : ∀ (h' : Heap) (tk : Nat) L es ep t, Tb w h' s.heap.objs.size L es ep t → Hv ks ks.length L → (∀ b o, s.heap.get? b = some o → h'.get? b = some o) → Q (.ref s.heap.objs.size) { s with heap := h', toks := tk }) : wpAny (model P w) A (call (.type "set") [.ref l]) Q E s :=
  hl.elim (fun z => set_list ks calm z hit kv fw hu q) fun z => set_tuple ks calm z hit kv fw hu q
end
end Ma
set_option maxHeartbeats 4000000
/-! sorted(set(row)). -/
namespace Ma
open PySem PySem.Spec L2
variable [TB]
/-! ### rows -/
theorem perm_lift {α β : Type} {f : α → β} : ∀ {vs : List β} {L : List α}, vs.Perm (L.map f) → ∃ M : List α, M.Perm L ∧ vs = M.map f
  | [], L, h => ⟨L, .refl _, by have := h.length_eq; rw [List.length_map] at this; rw [List.length_eq_zero_iff.mp this.symm]; rfl⟩
  | v :: vs, L, h => by
    obtain ⟨p, mp, rfl⟩ := List.mem_map.mp (h.mem_iff.mp List.mem_cons_self)
    obtain ⟨l1, l2, rfl⟩ := List.append_of_mem mp
    rw [List.map_append, List.map_cons] at h
    have h2 := (h.trans List.perm_middle).cons_inv
    rw [← List.map_append] at h2
    obtain ⟨M, m1, m2⟩ := perm_lift h2
    exact ⟨p :: M, (m1.cons p).trans List.perm_middle.symm, by rw [m2]; rfl⟩
/-- a row in order depends on what it has alone -/
theorem sortB_perm {ds es : List Ma.D} (k : Kin ds) (p : es.Perm ds) : sortB es = sortB ds := by
  have sub : ∀ y ∈ es, y ∈ ds := fun y m => p.mem_iff.mp m
  refine List.Perm.eq_of_pairwise (le := Le) (fun a b ha hb x y => ?_) (sort_le k es sub) (sort_le k ds fun _ m => m) (((sort_perm es).trans p).trans (sort_perm ds).symm)
  have ma := sub a ((sort_perm es).mem_iff.mp ha)
  have mb := (sort_perm ds).mem_iff.mp hb
  unfold Le at x y
  rw [k.lt mb ma] at x
  rw [k.lt ma mb] at y
  exact tie_same a b (k.kind a ma b mb) (k.kind b mb a ma) y x
theorem Kin.sub {ds es : List Ma.D} (k : Kin ds) (s : ∀ y ∈ es, y ∈ ds) : Kin es := ⟨fun a m => k.flat_ a (s a m), fun a ma b mb => k.kind a (s a ma) b (s b mb)⟩
theorem mem_iff_ {ds : List Ma.D} (k : Kin ds) {x : Ma.D} (hx : x ∈ ds) {acc : List Ma.D} (s : ∀ y ∈ acc, y ∈ ds) : mem x acc = true ↔ x ∈ acc := by
  unfold mem
  rw [List.any_eq_true]
  constructor
  · rintro ⟨y, my, e⟩
    rw [← deq_same y x (k.kind y (s y my) x hx) e]
    exact my
  · exact fun m => ⟨x, m, deq_refl' x (k.kind x hx x hx)⟩
theorem dedup_spec {ds : List Ma.D} (k : Kin ds) : ∀ (xs acc : List Ma.D), (∀ y ∈ xs, y ∈ ds) → (∀ y ∈ acc, y ∈ ds) → acc.Nodup → (dedup acc xs).Nodup ∧ ∀ y, y ∈ dedup acc xs ↔ y ∈ acc ∨ y ∈ xs
  | [], acc, _, _, nd => by
    rw [dedup]
    exact ⟨(List.reverse_perm acc).nodup_iff.mpr nd, fun y => by simp⟩
  | x :: r, acc, hx, ha, nd => by
    have mx := hx x List.mem_cons_self
    have hr : ∀ y ∈ r, y ∈ ds := fun y m => hx y (List.mem_cons_of_mem _ m)
    rw [dedup]
    by_cases c : mem x acc = true
    · rw [if_pos c]
      obtain ⟨i1, i2⟩ := dedup_spec k r acc hr ha nd
      have mm := (mem_iff_ k mx ha).mp c
      refine ⟨i1, fun y => ?_⟩
      rw [i2, List.mem_cons]
      constructor
      · rintro (z | z)
        · exact .inl z
        · exact .inr (.inr z)
      · rintro (z | z | z)
        · exact .inl z
        · exact .inl (z ▸ mm)
        · exact .inr z
    · rw [if_neg c]
      have nm : x ∉ acc := fun m => c ((mem_iff_ k mx ha).mpr m)
      obtain ⟨i1, i2⟩ := dedup_spec k r (x :: acc) hr (fun y m => by rcases List.mem_cons.mp m with z | z; exact z ▸ mx; exact ha y z) (List.nodup_cons.mpr ⟨nm, nd⟩)
      refine ⟨i1, fun y => ?_⟩
      rw [i2, List.mem_cons, List.mem_cons]
      constructor
      · rintro ((z | z) | z)
        · exact .inr (.inl z)
        · exact .inl z
        · exact .inr (.inr z)
      · rintro (z | z | z)
        · exact .inl (.inr z)
        · exact .inl (.inl z)
        · exact .inr z
/-! ### data as keys -/
mutual
theorem kD_inj : ∀ (a b : Ma.D) (n n' : Nat), numD n a = true → numD n' b = true → kD a = kD b → a = b
  | .int i, .int j, _, _, _, _, e => by rw [kD, kD] at e; injection e with e; rw [e]
  | .tup xs, .tup ys, n + 1, n' + 1, h, h', e => by
    rw [kD, kD] at e
    injection e with e
    rw [numD] at h h'
    rw [kDs_inj xs ys n n' h h' e]
  | .int i, .tup ys, _, _, _, _, e => by rw [kD, kD] at e; cases e
  | .tup xs, .int j, _, _, _, _, e => by rw [kD, kD] at e; cases e
  | .tup _, .tup _, 0, _, h, _, _ => by simp [numD] at h
  | .tup _, .tup _, _ + 1, 0, _, h, _ => by simp [numD] at h
  | .non, _, _, _, h, _, _ => by simp [numD] at h
  | .bl _, _, _, _, h, _, _ => by simp [numD] at h
  | .str _, _, _, _, h, _, _ => by simp [numD] at h
  | .lst _, _, _, _, h, _, _ => by simp [numD] at h
  | .dct _, _, _, _, h, _, _ => by simp [numD] at h
  | .kst _, _, _, _, h, _, _ => by simp [numD] at h
  | .ref _, _, _, _, h, _, _ => by simp [numD] at h
  | .clo _ _, _, _, _, h, _, _ => by simp [numD] at h
  | _, .non, _, _, _, h, _ => by simp [numD] at h
  | _, .bl _, _, _, _, h, _ => by simp [numD] at h
  | _, .str _, _, _, _, h, _ => by simp [numD] at h
  | _, .lst _, _, _, _, h, _ => by simp [numD] at h
  | _, .dct _, _, _, _, h, _ => by simp [numD] at h
  | _, .kst _, _, _, _, h, _ => by simp [numD] at h
  | _, .ref _, _, _, _, h, _ => by simp [numD] at h
  | _, .clo _ _, _, _, _, h, _ => by simp [numD] at h
theorem kDs_inj : ∀ (a b : List Ma.D) (n n' : Nat), numDs n a = true → numDs n' b = true → kDs a = kDs b → a = b
  | [], [], _, _, _, _, _ => rfl
  | a :: r, b :: q, n, n', h, h', e => by
    rw [kDs, kDs] at e
    injection e with e1 e2
    rw [numDs, Bool.and_eq_true] at h h'
    rw [kD_inj a b n n' h.1 h'.1 e1, kDs_inj r q n n' h.2 h'.2 e2]
  | [], _ :: _, _, _, _, _, e => by rw [kDs, kDs] at e; cases e
  | _ :: _, [], _, _, _, _, e => by rw [kDs, kDs] at e; cases e
end
mutual
theorem kD_ok : ∀ (a : Ma.D) (n : Nat), numD n a = true → (kD a).depth ≤ n ∧ numK (kD a) = true
  | .int i, n, _ => by rw [kD, NestedKey.depth, numK]; exact ⟨Nat.zero_le _, rfl⟩
  | .tup xs, n + 1, h => by
    rw [numD] at h
    obtain ⟨h1, h2⟩ := kDs_ok xs n h
    rw [kD, NestedKey.depth, numK]
    exact ⟨Nat.succ_le_succ h1, h2⟩
  | .tup _, 0, h => by simp [numD] at h
  | .non, _, h => by simp [numD] at h
  | .bl _, _, h => by simp [numD] at h
  | .str _, _, h => by simp [numD] at h
  | .lst _, _, h => by simp [numD] at h
  | .dct _, _, h => by simp [numD] at h
  | .kst _, _, h => by simp [numD] at h
  | .ref _, _, h => by simp [numD] at h
  | .clo _ _, _, h => by simp [numD] at h
theorem kDs_ok : ∀ (a : List Ma.D) (n : Nat), numDs n a = true → NestedKey.depthAll (kDs a) ≤ n ∧ numKs (kDs a) = true
  | [], n, _ => by rw [kDs, NestedKey.depthAll, numKs]; exact ⟨Nat.zero_le _, rfl⟩
  | a :: r, n, h => by
    rw [numDs, Bool.and_eq_true] at h
    obtain ⟨a1, a2⟩ := kD_ok a n h.1
    obtain ⟨r1, r2⟩ := kDs_ok r n h.2
    rw [kDs, NestedKey.depthAll, numKs, a2, r2]
    exact ⟨Nat.max_le.mpr ⟨a1, r1⟩, rfl⟩
end
section
variable {X : Cx} {pins : List (Addr × Obj)} {σ : L2.St} {H : Hp} {s : Shared} {m : List Addr}
mutual
theorem kD_at (I : L2.Inv X pins σ H s) : ∀ (d : Ma.D) (n : Nat) (v : V) (u : Value), numD n d = true → Rp m H d v → RelV v u → NestedIs s.heap (kD d) u ∧ Reads s.heap u (pyD d) []
  | .int i, n, v, u, _, r, rv => by
    rw [show v = .int i from r] at rv
    obtain ⟨t, rfl⟩ := rv
    rw [kD, pyD]
    exact ⟨.int i t, .int i t⟩
  | .tup xs, n + 1, v, u, h, ⟨a, vs, e, ea, r⟩, rv => by
    subst e
    obtain rfl : u = .ref a := rv
    obtain ⟨its, rvs, ⟨o, eo, ec, k, ed⟩, _⟩ := I.tuple (.of ea)
    obtain ⟨q1, q2⟩ := kDs_at I xs n vs its (by rw [numD] at h; exact h) r rvs
    rw [kD, pyD]
    exact ⟨.tup eo ec ed q1, .tuple eo ec ed q2⟩
  | .tup _, 0, _, _, h, _, _ => by simp [numD] at h
  | .non, _, _, _, h, _, _ => by simp [numD] at h
  | .bl _, _, _, _, h, _, _ => by simp [numD] at h
  | .str _, _, _, _, h, _, _ => by simp [numD] at h
  | .lst _, _, _, _, h, _, _ => by simp [numD] at h
  | .dct _, _, _, _, h, _, _ => by simp [numD] at h
  | .kst _, _, _, _, h, _, _ => by simp [numD] at h
  | .ref _, _, _, _, h, _, _ => by simp [numD] at h
  | .clo _ _, _, _, _, h, _, _ => by simp [numD] at h
theorem kDs_at (I : L2.Inv X pins σ H s) : ∀ (ds : List Ma.D) (n : Nat) (vs : List V) (us : List Value), numDs n ds = true → Rps m H ds vs → Vals vs us → NestedAll s.heap (kDs ds) us ∧ ReadsAll s.heap us (pyDs ds) []
  | [], _, vs, us, _, r, rv => by
    rw [show vs = [] from r] at rv
    cases rv
    rw [kDs, pyDs]
    exact ⟨.nil, .nil⟩
  | d :: ds, n, vs, us, h, ⟨v, r, e, r1, r2⟩, rv => by
    subst e
    cases rv with
    | cons x y =>
      rw [numDs, Bool.and_eq_true] at h
      obtain ⟨a1, a2⟩ := kD_at I d n v _ h.1 r1 x
      obtain ⟨b1, b2⟩ := kDs_at I ds n _ _ h.2 r2 y
      rw [kDs, pyDs]
      exact ⟨.cons a1 b1, .cons (as := []) (bs := []) a2 b2⟩
end
/-- entries and the data they are of -/
theorem ents {ds : List Ma.D} {ks : List Ent} (src : ∀ p ∈ ks, ∃ d v, d ∈ ds ∧ p.2 = kD d ∧ RelV v p.1 ∧ Rp m H d v) : ∀ M : List Ent, (∀ p ∈ M, p ∈ ks) → ∃ zs : List (Ma.D × V), PySem.W.EachIs (fun u (z : Ma.D × V) => RelV z.2 u ∧ Rp m H z.1 z.2) (M.map (·.1)) zs ∧ zs.map (fun z => kD z.1) = M.map (·.2) ∧ ∀ z ∈ zs, z.1 ∈ ds
  | [], _ => ⟨[], .nil, rfl, nofun⟩
  | p :: M, h => by
    obtain ⟨d, v, md, ek, rv, rp⟩ := src p (h p List.mem_cons_self)
    obtain ⟨zs, e, k, u⟩ := ents src M fun q mq => h q (List.mem_cons_of_mem _ mq)
    exact ⟨(d, v) :: zs, .cons ⟨rv, rp⟩ e, by rw [List.map_cons, List.map_cons, k, ek], fun z mz => by rcases List.mem_cons.mp mz with y | y; exact y ▸ md; exact u z y⟩
theorem okSet_ {ds : List Ma.D} (h : okSet ds = true) : ds.length < 64 ∧ (∀ d ∈ ds, numD 8 d = true ∧ ∃ xs, d = .tup xs) ∧ okSort ds = true := by
  unfold okSet at h
  rw [Bool.and_eq_true, Bool.and_eq_true] at h
  obtain ⟨h1, h2, h3⟩ := h
  refine ⟨by simpa using h1, fun d md => ?_, h3⟩
  have := List.all_eq_true.mp h2 d md
  rw [Bool.and_eq_true] at this
  refine ⟨this.2, ?_⟩
  cases d with
  | tup xs => exact ⟨xs, rfl⟩
  | _ => simp [isRec] at this
open PyProof.Rows in
theorem call_sset {l : Addr} {ds : List Ma.D} {ws : List V} {Q : VK} {A : Around} {E : Value → Shared → Prop} (calm : A.handled = none) (hu : A.units + 100 < cLine) (I : L2.Inv X pins σ H s) (hl : Rd H l (.lst ws) ∨ H l = some (.tup ws)) (r : Rps m H ds ws) (ok : okSet ds = true)
    (q : ∀ p vs, H p = none → Rps m H (sortB (dedup [] ds)) vs → Q (.ref p) (upd H p (.lst vs))) :
    wpAny (model X.prog X.w) A (call (.type "set") [.ref l]) (fun u s1 => wpAny (model X.prog X.w) A (call (.builtin "sorted") [u]) (fun v s2 => ∃ y H2, L2.Inv X pins σ H2 s2 ∧ RelV y v ∧ Q y H2) E s1) E s := by
  obtain ⟨small, each, oks⟩ := okSet_ ok
  obtain ⟨kin, _, alike_, sortable⟩ := okSort_kin oks
  obtain ⟨its, rv, pl⟩ : ∃ its : List Value, Vals ws its ∧ (s.heap.IsList l its.toArray ∨ s.heap.IsTuple l its.toArray) := by
    rcases hl with hl | hl
    · obtain ⟨its, rv, pl, _⟩ := I.list (.inl hl)
      exact ⟨its, rv, .inl pl.isList⟩
    · obtain ⟨its, rv, pl, _⟩ := I.tuple (.of hl)
      exact ⟨its, rv, .inr pl⟩
  have len1 : its.length = ds.length := by rw [← rv.length]; exact r.len
  have len2 : (its.zip (ds.map kD)).length = ds.length := by rw [List.length_zip, List.length_map, len1, Nat.min_self]
  have fst_ : (its.zip (ds.map kD)).map (·.1) = its := List.map_fst_zip (by rw [List.length_map, len1]; exact Nat.le_refl _)
  have src : ∀ p ∈ its.zip (ds.map kD), ∃ d v, d ∈ ds ∧ p.2 = kD d ∧ RelV v p.1 ∧ Rp m H d v := by
    intro p mp
    obtain ⟨i, e⟩ := List.mem_iff_getElem?.mp mp
    obtain ⟨e1, e2⟩ := List.getElem?_zip_eq_some.mp e
    rw [List.getElem?_map] at e2
    obtain ⟨d, ed, ek⟩ := Option.map_eq_some_iff.mp e2
    obtain ⟨v, ev, rp⟩ := r.get ed
    obtain ⟨u, eu, ru⟩ := rv.get ev
    rw [e1] at eu
    cases eu
    exact ⟨d, v, List.mem_of_getElem? ed, ek.symm, ru, rp⟩
  have kv : ∀ p ∈ its.zip (ds.map kD), Kv s.heap p := by
    intro p mp
    obtain ⟨d, v, md, ek, ru, rp⟩ := src p mp
    obtain ⟨nd, xs, rfl⟩ := each d md
    obtain ⟨b1, b2⟩ := kD_ok _ 8 nd
    obtain ⟨a, vs, rfl, _⟩ := id rp
    exact ⟨by rw [ek]; exact (kD_at I _ 8 _ _ nd rp ru).1, by rw [ek]; exact b1, by rw [ek]; exact b2, a, ru⟩
  refine set_row (P := X.prog) (its.zip (ds.map kD)) calm pl (by rw [fst_]) kv (by rw [len2]; exact small) (by omega) fun h1 tk L es ep t T g k1 => ?_
  refine Calls.call_function_entry kind_sorted plain_sorted entry_sorted (args_sorted1 _) ?_
  unfold Builtin.«sorted»
  refine wpAny_bind (m := checkCount "sorted" 1 1 _) (wpAny_pure (wpAny_bind ?_))
  obtain ⟨oS, eS, xS, dS⟩ := T.ob
  have len3 := Tb.len (s := { s with heap := h1, toks := tk }) T
  have fit3 := Tb.fit (s := { s with heap := h1, toks := tk }) T
  have few := T.fw
  refine collect_set (s := { s with heap := h1, toks := tk }) (A := A.in1) calm ⟨oS, eS, xS.1, dS⟩ fit3 (by unfold scanBound; omega) T.tab.ris T.ld fun s2 vs k2 big g2 o2 pm => ?_
  rw [T.es_, List.map_map] at pm
  obtain ⟨M, pmM, rfl⟩ := perm_lift (f := fun p : Ent => p.1) pm
  obtain ⟨zs, ez, kz, uz⟩ := ents src M fun p mp => by
    have := g.sub p (pmM.mem_iff.mp mp)
    exact List.mem_of_mem_take this
  have lenM : M.length < 64 := by rw [pmM.length_eq]; exact few
  have lenz : zs.length = M.length := by have z := congrArg List.length kz; simpa using z
  have esub : ∀ y ∈ zs.map (·.1), y ∈ ds := fun y my => by obtain ⟨z, mz, rfl⟩ := List.mem_map.mp my; exact uz z mz
  have kine := kin.sub esub
  have pmz : (zs.map (·.1)).Perm (dedup [] ds) := by
    obtain ⟨dn, dm⟩ := dedup_spec kin ds [] (fun _ h => h) nofun .nil
    have ndz : (zs.map fun z => kD z.1).Nodup := by rw [kz]; exact ((pmM.map (·.2)).nodup_iff).mpr T.nd
    have ndz2 : (zs.map (·.1)).Nodup := by
      rw [show (fun z : Ma.D × V => kD z.1) = kD ∘ (·.1) from rfl, ← List.map_map] at ndz
      exact List.Pairwise.of_map kD (fun _ _ ne e => ne (congrArg kD e)) ndz
    refine (List.perm_ext_iff_of_nodup ndz2 dn).mpr fun y => ?_
    rw [dm]
    constructor
    · exact fun my => .inr (esub y my)
    · rintro (my | my)
      · cases my
      · obtain ⟨i, ei⟩ := List.mem_iff_getElem?.mp my
        have il : i < its.length := by rw [len1]; exact (List.getElem?_eq_some_iff.mp ei).1
        have mk : ((its[i], kD y) : Ent) ∈ its.zip (ds.map kD) := List.mem_of_getElem? (i := i) (List.getElem?_zip_eq_some.mpr ⟨List.getElem?_eq_getElem il, by rw [List.getElem?_map, ei]; rfl⟩)
        have inL : kD y ∈ L.map (·.2) := g.all_ (its[i], kD y) (by rw [List.take_length]; exact mk)
        have inM : kD y ∈ zs.map fun z => kD z.1 := by rw [kz]; exact (pmM.map (·.2)).mem_iff.mpr inL
        obtain ⟨z, mz, eq⟩ := List.mem_map.mp inM
        rw [← kD_inj z.1 y 8 8 (each _ (uz z mz)).1 (each y my).1 eq]
        exact List.mem_map_of_mem mz
  refine wpAny_bind (wpAny_newList ?_ (by rw [List.length_map, sizeLine_eq]; omega))
  have atL : (s2.heap.push (seqObj "list" (M.map (·.1)).toArray 0)).get? s2.heap.objs.size = some (seqObj "list" (M.map (·.1)).toArray 0) := Heap.get?_push_size _ rfl
  have keep2 : ∀ b o, s.heap.get? b = some o → (s2.heap.push (seqObj "list" (M.map (·.1)).toArray 0)).get? b = some o := fun b o e => Heap.get?_push_of_some _ (k2 b o (k1 b o e))
  have rd : PySem.W.EachIs (fun u (z : Ma.D × V) => ∃ as, Reads (s2.heap.push (seqObj "list" (M.map (·.1)).toArray 0)) u (pyD z.1) as ∧ s2.heap.objs.size ∉ as) (M.map (·.1)) zs :=
    (PySem.W.each_mem ez).mono fun u z p => ⟨[], PyProof.Rows.Reads.keeps keep2 (kD_at I z.1 8 z.2 u (each _ (uz z p.2)).1 p.1.2 p.1.1).2, nofun⟩
  have mapz : zs.map (fun z : Ma.D × V => pyD z.1) = (zs.map (·.1)).map pyD := by rw [List.map_map]; rfl
  have sub2 : ∀ d ∈ zs.map (fun z : Ma.D × V => pyD z.1), d ∈ ds.map pyD := fun d md => by
    rw [mapz] at md
    obtain ⟨y, my, rfl⟩ := List.mem_map.mp md
    exact List.mem_map_of_mem (esub y my)
  refine wpAny_bind (wpAny_holding (PySem.W.list_sort_data (s := { s2 with heap := s2.heap.push (seqObj "list" (M.map (·.1)).toArray 0) }) (enc := fun z : Ma.D × V => pyD z.1) atL ez rd (fun d md d' md' => alike_ d (sub2 d md) d' (sub2 d' md')) (sortable.imp (fun z d md => z d (sub2 d md)) fun z d md => z d (sub2 d md)) (by rw [lenz, sizeLine_eq]; omega) (fun z mz => ?_) fun out lo eo => ?_))
  · have := (can_flat z.1 60 (kin.flat_ _ (uz z mz))).2
    show A.units + 1 + 1 + (pyD z.1).depth < cLine
    omega
  · obtain ⟨c, atF⟩ := sortedHeap_at (vs := M.map (·.1)) (out := out.toArray) atL
    have key : ((zs.mergeSort (PySem.W.dataLe false fun z : Ma.D × V => pyD z.1)).map (·.1)) = sortB (dedup [] ds) := by
      rw [List.map_mergeSort (r := PySem.W.dataLe false fun z : Ma.D × V => pyD z.1) (s := PySem.W.dataLe false pyD) (f := fun z : Ma.D × V => z.1) (fun a _ b _ => rfl), merge_sortB kine]
      exact sortB_perm (kin.sub fun y my => by obtain ⟨_, dm⟩ := dedup_spec kin ds [] (fun _ h => h) nofun .nil; rcases (dm y).mp my with z | z; cases z; exact z) pmz
    obtain ⟨b1, b2⟩ := rows3_back eo
    rw [key] at b1
    have le2 : s.heap.objs.size ≤ s2.heap.objs.size := by
      rcases Nat.lt_or_ge s2.heap.objs.size s.heap.objs.size with z | z
      · exfalso
        have z2 : h1.objs.size ≤ s2.heap.objs.size := big
        have at1 := (T.ob)
        obtain ⟨o9, e9, _⟩ := at1
        exact absurd (Nat.lt_of_lt_of_le (Heap.lt_size e9) z2) (Nat.not_lt.mpr (Nat.le_of_lt z))
      · exact z
    have nH : H s2.heap.objs.size = none := I.hok.fresh le2
    have keep3 : ∀ b o, s.heap.get? b = some o → (sortedHeap (s2.heap.push (seqObj "list" (M.map (·.1)).toArray 0)) s2.heap.objs.size (M.map (·.1)) out.toArray).get? b = some o := fun b o e => by
      have lt := Heap.lt_size (k2 b o (k1 b o e))
      rw [sortedHeap_old (Nat.ne_of_lt lt) (by rw [size_push']; exact Nat.lt_succ_of_lt lt)]
      exact keep2 b o e
    have okL : ObjOk X.prog X.w (upd H s2.heap.objs.size (.lst ((zs.mergeSort (PySem.W.dataLe false fun z : Ma.D × V => pyD z.1)).map (·.2)))) (sortedHeap (s2.heap.push (seqObj "list" (M.map (·.1)).toArray 0)) s2.heap.objs.size (M.map (·.1)) out.toArray) s2.heap.objs.size (.lst _) :=
      ⟨by rw [b2.length, lo, lenz, sizeLine_eq]; omega, out, c, b2, atF⟩
    refine wpAny_pure ⟨_, rfl, .ref s2.heap.objs.size, _, I.call' (s' := { s2 with heap := sortedHeap (s2.heap.push (seqObj "list" (M.map (·.1)).toArray 0)) s2.heap.objs.size (M.map (·.1)) out.toArray }) (ch := []) o2 (Un.laid keep3 le2 nH) (I.hok.laid keep3 le2 okL) (by show AllBare s2.gens; rw [g2]; exact I.bare) (fun b z => absurd z (by simp)), rfl, q _ _ nH b1⟩
end
end Ma
set_option maxHeartbeats 4000000
/-! list(dict([(.., True), ..])), keys nested tuples. -/
namespace Ma
open PySem PySem.Spec L2
variable [TB]
theorem kdl_raw {P : Program} {w : World} {d : Addr} {es : Array DictEntry} {ep : Nat} (lo : (d == sysModules) = false) : PySem.W.KdlSrc P w "dict" d d es.size (fun i v => ∃ hi : i < es.size, v = es[i].key) (fun h => h.DictRaw d es ep) where
  type := fun _ x => x.typeIs
  there := fun _ ⟨o, eo, _⟩ => ⟨Heap.lt_size eo, Heap.lt_size eo⟩
  keep := fun _ _ x k => x.at fun o e => k d (.inl rfl) o e
  notList := by decide
  notTuple := by decide
  hint := fun _ _ _ _ x q => PySem.W.kdl_hint_dict x.typeIs q
  iter := fun _ s calm x => ⟨_, _, fun _ _ q => wpAny_pyIter_dict_raw lo x q, Walks.rawKeys calm _ d (let ⟨o, eo, _⟩ := x; Nat.ne_of_lt (Heap.lt_size eo)) es ep, ⟨⟨_, Heap.get?_push_size _ rfl, rfl, rfl⟩, x.at fun o e => Heap.get?_push_of_some _ e⟩⟩
/-- entries that have come about, and the data they stand for -/
theorem stored_dedup {ds : List Ma.D} (k : Kin ds) (nu : ∀ d ∈ ds, numD 8 d = true) {m : List Addr} {H : Hp} : ∀ (xs : List Ma.D) (ps E : List (NestedKey × Addr × Value)) (acc : List Ma.D) (as : List Addr), (∀ y ∈ xs, y ∈ ds) → (∀ y ∈ acc, y ∈ ds) → as.length = xs.length →
    ps.map (·.1) = xs.map kD → ps.map (·.2.1) = as → Rps m H xs (as.map V.ref) → E.map (·.1) = acc.reverse.map kD → Rps m H acc.reverse (E.map fun x => V.ref x.2.1) → Rps m H (dedup acc xs) ((storedAllH E ps).map fun x => V.ref x.2.1) ∧ (storedAllH E ps).map (·.1) = (dedup acc xs).map kD
  | [], ps, E, acc, as, _, _, _, e1, _, _, eE, r2 => by
    rw [dedup]
    cases ps with
    | nil => exact ⟨r2, eE⟩
    | cons _ _ => cases e1
  | x :: xs, ps, E, acc, as, hx, ha, la, e1, e2, r1, eE, r2 => by
    cases ps with
    | nil => cases e1
    | cons p ps =>
      obtain ⟨pk, pa, pv⟩ := p
      cases as with
      | nil => cases la
      | cons a as =>
        rw [List.map_cons, List.map_cons] at e1
        rw [List.map_cons] at e2
        injection e1 with k1 e1
        injection e2 with a1 e2
        dsimp only at k1 a1
        subst k1 a1
        obtain ⟨v, vr, ev, rx, rr⟩ := r1
        rw [List.map_cons] at ev
        injection ev with ev1 ev2
        subst ev1 ev2
        have mx := hx x List.mem_cons_self
        have step : storedAllH E ((kD x, pa, pv) :: ps) = storedAllH (storedH E (kD x) pa pv) ps := rfl
        have known : (atKey E (kD x)).isSome = true ↔ x ∈ acc := by
          have h1 : (atKey E (kD x)).isSome = true ↔ kD x ∈ E.map (·.1) := by
            unfold atKey
            rw [Option.isSome_map, List.find?_isSome, List.mem_map]
            constructor
            · rintro ⟨y, my, e⟩; exact ⟨y, my, by simpa using e⟩
            · rintro ⟨y, my, e⟩; exact ⟨y, my, by simpa using e⟩
          rw [h1, eE, List.mem_map]
          constructor
          · rintro ⟨y, my, e⟩
            have my' := List.mem_reverse.mp my
            rw [← kD_inj y x 8 8 (nu y (ha y my')) (nu x mx) e]
            exact my'
          · exact fun h => ⟨x, List.mem_reverse.mpr h, rfl⟩
        have hr : ∀ y ∈ xs, y ∈ ds := fun y my => hx y (List.mem_cons_of_mem _ my)
        rw [dedup, step]
        by_cases c : mem x acc = true
        · rw [if_pos c]
          have mm := (mem_iff_ k mx ha).mp c
          have is_ := known.mpr mm
          have e3 : storedH E (kD x) pa pv = E.map (PySem.putAt (kD x) pv) := by unfold storedH; rw [if_pos is_]
          have p1 : ∀ y : NestedKey × Addr × Value, (PySem.putAt (kD x) pv y).1 = y.1 ∧ (PySem.putAt (kD x) pv y).2.1 = y.2.1 := fun y => by unfold PySem.putAt; split <;> exact ⟨rfl, rfl⟩
          rw [e3]
          refine stored_dedup k nu xs ps _ acc as hr ha (by simpa using la) e1 e2 rr ?_ ?_
          · rw [List.map_map, ← eE]
            exact List.map_congr_left fun y _ => (p1 y).1
          · rw [List.map_map, show E.map ((fun x => V.ref x.2.1) ∘ PySem.putAt (kD x) pv) = E.map fun x => V.ref x.2.1 from List.map_congr_left fun y _ => by show V.ref _ = V.ref _; rw [(p1 y).2]]
            exact r2
        · rw [if_neg c]
          have nm : x ∉ acc := fun h => c ((mem_iff_ k mx ha).mpr h)
          have e3 : storedH E (kD x) pa pv = E ++ [(kD x, pa, pv)] := by unfold storedH; rw [if_neg (fun h => nm (known.mp h))]
          rw [e3]
          refine stored_dedup k nu xs ps _ (x :: acc) as hr (fun y my => by rcases List.mem_cons.mp my with z | z; exact z ▸ mx; exact ha y z) (by simpa using la) e1 e2 rr ?_ ?_
          · rw [List.reverse_cons, List.map_append, List.map_append, eE]; rfl
          · rw [List.reverse_cons, List.map_append]
            exact Rps.app r2 (Rps.one rx)
theorem fsts_rps {m : List Addr} {H : Hp} : ∀ {zs xs : List Ma.D} {ws : List V}, fsts zs = some xs → Rps m H zs ws → xs.length = zs.length ∧ ∃ ts vs : List V, ws = ts ∧ Rps m H xs vs ∧ ∀ (i : Nat) t, ts[i]? = some t → ∃ a v, t = .ref a ∧ vs[i]? = some v ∧ H a = some (.tup [v, .bl true])
  | [], xs, ws, e, r => by
    cases e
    exact ⟨rfl, ws, [], rfl, rfl, fun i t z => by rw [show ws = [] from r] at z; simp at z⟩
  | z :: zs, xs, ws, e, ⟨t, ts, ew, rt, r⟩ => by
    have : ∃ d, z = .tup [d, .bl true] ∧ ∃ ys, fsts zs = some ys ∧ xs = d :: ys := by
      cases z with
      | tup l => match l, e with
        | [d, .bl true], e =>
          obtain ⟨ys, e1, e2⟩ := Option.map_eq_some_iff.mp (show (fsts zs).map (d :: ·) = some xs from e)
          exact ⟨d, rfl, ys, e1, e2.symm⟩
      | _ => cases e
    obtain ⟨d, rfl, ys, e1, rfl⟩ := this
    obtain ⟨len, ts', vs, rfl, rv, each⟩ := fsts_rps e1 r
    obtain ⟨a, us, rfl, at_, v, r1, rfl, rd, u, r2, rfl, ru, r3⟩ := rt
    obtain rfl : r2 = [] := r3
    obtain rfl : u = .bl true := ru
    refine ⟨by rw [List.length_cons, List.length_cons, len], ws, v :: vs, rfl, ⟨v, vs, rfl, rd, rv⟩, fun i t' z => ?_⟩
    rw [ew] at z
    cases i with
    | zero => cases z; exact ⟨a, v, rfl, rfl, at_⟩
    | succ i => simpa using each i t' (by simpa using z)
theorem tups_refs {m : List Addr} {H : Hp} : ∀ {xs : List Ma.D} {vs : List V}, (∀ d ∈ xs, ∃ ys, d = .tup ys) → Rps m H xs vs → ∃ as : List Addr, vs = as.map V.ref
  | [], vs, _, r => ⟨[], r⟩
  | x :: xs, vs, t, ⟨v, vr, e, rx, r⟩ => by
    obtain ⟨ys, rfl⟩ := t x List.mem_cons_self
    obtain ⟨a, _, rfl, _⟩ := rx
    obtain ⟨as, rfl⟩ := tups_refs (fun d md => t d (List.mem_cons_of_mem _ md)) r
    exact ⟨a :: as, e⟩
section
variable {X : Cx} {pins : List (Addr × Obj)} {σ : L2.St} {H : Hp} {s : Shared} {m : List Addr}
/-- dict(pairs), keys nested tuples -/
theorem dict_of_pairs {l : Addr} {zs xs : List Ma.D} {ws : List V} {Q : Value → Shared → Prop} {A : Around} {E : Value → Shared → Prop} (calm : A.handled = none) (hu : A.units + 100 < cLine) (I : L2.Inv X pins σ H s) (hl : Rd H l (.lst ws)) (r : Rps m H zs ws) (e : fsts zs = some xs) (nu : ∀ d ∈ xs, numD 8 d = true ∧ ∃ ys, d = .tup ys) (oks : okSort xs = true)
    (go : ∀ (h1 : Heap) (tk : Nat) (ps : List (NestedKey × Addr × Value)), ps.length = xs.length → ps.map (·.1) = xs.map kD → Rps m H xs (ps.map fun x => V.ref x.2.1) → h1.DictOfH (nestedKind X.prog X.w) s.heap.objs.size (storedAllH [] ps) → (∀ b o, s.heap.get? b = some o → h1.get? b = some o) → Q (.ref s.heap.objs.size) { s with heap := h1, toks := tk }) :
    wpAny (model X.prog X.w) A (call (.type "dict") [.ref l]) Q E s := by
  obtain ⟨kin, fit, _, _⟩ := okSort_kin oks
  obtain ⟨its, rv, pl, _⟩ := I.list (.inl hl)
  obtain ⟨lenx, ts, vs, rfl, rx, each⟩ := fsts_rps e r
  obtain ⟨as, rfl⟩ := tups_refs (fun d md => (nu d md).2) rx
  have lena : as.length = xs.length := by have := rx.len; rwa [List.length_map] at this
  have leni : its.length = xs.length := by rw [← rv.length, r.len, lenx]
  have pair_ : ∀ (i : Nat) a, as[i]? = some a → ∃ T, its[i]? = some (.ref T) ∧ PySem.PairAt s.heap T (.ref a) (.bool true) := by
    intro i a ea
    have il : i < ws.length := by rw [rv.length, leni, ← lena]; exact (List.getElem?_eq_some_iff.mp ea).1
    obtain ⟨T, v, et, ev, at_⟩ := each i _ (List.getElem?_eq_getElem il)
    rw [List.getElem?_map, ea] at ev
    cases ev
    obtain ⟨u, eu, ru⟩ := rv.get (et ▸ List.getElem?_eq_getElem il)
    cases ru
    obtain ⟨is2, r2, tup, _⟩ := I.tuple (.of at_)
    refine ⟨T, eu, .inl ?_⟩
    cases r2 with
    | cons x1 r2 => cases r2 with
      | cons x2 r2 =>
        cases r2
        cases x1
        cases x2
        exact tup
  let Ts : Nat → Addr := fun j => match its[j]? with
    | some (.ref T) => T
    | _ => 0
  have ok_ : PySem.PlainSeq "list" s.heap l its.toArray ∧ PySem.PairItems s.heap its.toArray Ts (as.map fun a => (Value.ref a, Value.bool true)) := by
    refine ⟨pl, by simp [leni, lena], fun j k v ej => ?_⟩
    rw [List.getElem?_map] at ej
    obtain ⟨a, ea, eq⟩ := Option.map_eq_some_iff.mp ej
    cases eq
    obtain ⟨T, eT, pa⟩ := pair_ j a ea
    have : Ts j = T := by show (match its[j]? with | some (.ref T) => T | _ => 0) = T; rw [eT]
    rw [this]
    exact ⟨by simpa using eT, pa⟩
  let ps : List (NestedKey × Addr × Value) := (xs.map kD).zip (as.map fun a => (a, Value.bool true))
  have lenp : ps.length = as.length := by show ((xs.map kD).zip _).length = _; rw [List.length_zip, List.length_map, List.length_map, lena, Nat.min_self]
  have p1 : ps.map (·.1) = xs.map kD := List.map_fst_zip (by rw [List.length_map, List.length_map, lena]; exact Nat.le_refl _)
  have p2 : ps.map (·.2) = as.map fun a => (a, Value.bool true) := List.map_snd_zip (by rw [List.length_map, List.length_map, lena]; exact Nat.le_refl _)
  have p3 : ps.map (·.2.1) = as := by
    rw [show (fun x : NestedKey × Addr × Value => x.2.1) = (·.1) ∘ (·.2) from rfl, ← List.map_map, p2, List.map_map]
    exact List.map_id _
  have here : ∀ x ∈ ps, NestedIs s.heap x.1 (.ref x.2.1) ∧ x.1.depth ≤ 8 := by
    intro x mx
    obtain ⟨i, ei⟩ := List.mem_iff_getElem?.mp mx
    obtain ⟨e1, e2⟩ := List.getElem?_zip_eq_some.mp ei
    rw [List.getElem?_map] at e1 e2
    obtain ⟨d, ed, k1⟩ := Option.map_eq_some_iff.mp e1
    obtain ⟨a, ea, k2⟩ := Option.map_eq_some_iff.mp e2
    obtain ⟨v, ev, rd⟩ := rx.get ed
    rw [List.getElem?_map, ea] at ev
    cases ev
    rw [← k1, ← k2]
    have nd := (nu d (List.mem_of_getElem? ed)).1
    exact ⟨(kD_at I d 8 _ _ nd rd rfl).1, (kD_ok d 8 nd).1⟩
  refine PySem.call_dict_pairsH (knd := nestedKind X.prog X.w) (ps := ps) (PySem.PairArg.list l its.toArray Ts _) calm (by show A.units + 1 + 1 + 8 < cLine; omega) ok_ ⟨by rw [lenp, List.length_map], fun i key v rel => ?_⟩ (fun h' k x mx => ?_) (by rw [List.length_map, lena]; exact fit) fun h1 tk dh keep => ?_
  · have rel' : (as.map fun a => (Value.ref a, Value.bool true))[i]? = some (key, v) := rel
    rw [List.getElem?_map] at rel'
    obtain ⟨a, ea, eq⟩ := Option.map_eq_some_iff.mp rel'
    cases eq
    have il : i < xs.length := by rw [← lena]; exact (List.getElem?_eq_some_iff.mp ea).1
    exact ⟨kD xs[i], a, List.getElem?_zip_eq_some.mpr ⟨by rw [List.getElem?_map, List.getElem?_eq_getElem il]; rfl, by rw [List.getElem?_map, ea]; rfl⟩, rfl⟩
  · refine ⟨NestedIs.at (fun b o us n eb _ => k b o (Nat.ne_of_lt (Heap.lt_size eb)) (by simp) eb) _ _ (here x mx).1, (here x mx).2⟩
  · exact go h1 tk ps (by rw [lenp, lena]) p1 (by rw [show (fun x : NestedKey × Addr × Value => V.ref x.2.1) = V.ref ∘ (·.2.1) from rfl, ← List.map_map, p3]; exact rx) dh fun b o eb => keep b o (by simp) eb
theorem call_dkeys {l : Addr} {zs xs : List Ma.D} {ws : List V} {Q : VK} {A : Around} {E : Value → Shared → Prop} (calm : A.handled = none) (hu : A.units + 100 < cLine) (I : L2.Inv X pins σ H s) (hl : Rd H l (.lst ws)) (r : Rps m H zs ws) (e : fsts zs = some xs) (nu : ∀ d ∈ xs, numD 8 d = true ∧ ∃ ys, d = .tup ys) (oks : okSort xs = true)
    (q : ∀ p vs, H p = none → Rps m H (dedup [] xs) vs → Q (.ref p) (upd H p (.lst vs))) :
    wpAny (model X.prog X.w) A (call (.type "dict") [.ref l]) (fun u s1 => wpAny (model X.prog X.w) A (call (.type "list") [u]) (fun v s2 => ∃ y H2, L2.Inv X pins σ H2 s2 ∧ RelV y v ∧ Q y H2) E s1) E s := by
  obtain ⟨kin, fit, _, _⟩ := okSort_kin oks
  refine dict_of_pairs calm hu I hl r e nu oks fun h1 tk ps lenp p1 rx dh keep => ?_
  · obtain ⟨o, es, ep, eo, ex, ed, ees, _, _⟩ := dh
    have lo : (s.heap.objs.size == sysModules) = false := beq_eq_false_iff_ne.mpr (Nat.ne_of_gt I.big)
    have les : es.size = (storedAllH [] ps).length := by have z := congrArg List.length ees; simpa using z
    have few : (storedAllH [] ps).length ≤ xs.length := by have z := PySem.storedAllH_length ps []; rw [lenp] at z; simpa using z
    refine PySem.W.kdl_call (s := { s with heap := h1, toks := tk }) (kdl_raw lo) calm ⟨o, eo, ex, ed⟩ (by rw [les]; exact Nat.le_trans few fit) fun h2 tk2 acc c keep2 at2 got => ?_
    have accs : acc.toList = (storedAllH [] ps).map fun x => Value.ref x.2.1 := by
      refine List.ext_getElem? fun i => ?_
      rw [List.getElem?_map]
      by_cases il : i < es.size
      · have ia : i < acc.size := by rw [got.1]; exact il
        obtain ⟨_, ev⟩ := got.2 i acc[i] (Array.getElem?_eq_getElem ia)
        have ei : es.toList[i]? = some es[i] := by simp [il]
        rw [ees, List.getElem?_map] at ei
        obtain ⟨x, ex1, ex2⟩ := Option.map_eq_some_iff.mp ei
        rw [ex1, Array.getElem?_toList, Array.getElem?_eq_getElem ia, ev, ← ex2]
        rfl
      · rw [List.getElem?_eq_none (by rw [Array.length_toList, got.1]; omega), List.getElem?_eq_none (by rw [← les]; omega)]
        rfl
    have le1 : s.heap.objs.size ≤ h1.objs.size := Nat.le_of_lt (Heap.lt_size eo)
    have nH : H h1.objs.size = none := I.hok.fresh le1
    have keep3 : ∀ b o, s.heap.get? b = some o → h2.get? b = some o := fun b o eb => keep2 b o (keep b o eb)
    have rd := And.left <| stored_dedup kin (fun d md => (nu d md).1) (m := m) (H := H) xs ps [] [] (ps.map (·.2.1)) (fun _ h => h) nofun (by rw [List.length_map, lenp]) p1 rfl (by rw [List.map_map]; exact rx) rfl rfl
    have okL : ObjOk X.prog X.w (upd H h1.objs.size (.lst ((storedAllH [] ps).map fun x => V.ref x.2.1))) h2 h1.objs.size (.lst ((storedAllH [] ps).map fun x => V.ref x.2.1)) := by
      refine ⟨by rw [List.length_map]; exact Nat.le_trans few fit, acc.toList, c, ?_, by simpa using at2⟩
      rw [accs, show (storedAllH [] ps).map (fun x => V.ref x.2.1) = ((storedAllH [] ps).map (·.2.1)).map V.ref from by rw [List.map_map]; rfl, show (storedAllH [] ps).map (fun x => Value.ref x.2.1) = ((storedAllH [] ps).map (·.2.1)).map Value.ref from by rw [List.map_map]; rfl]
      exact vals_refs _
    exact ⟨.ref h1.objs.size, _, (I.laid (t' := tk2) keep3 le1 okL :), rfl, q _ _ nH rd⟩
end
section
variable {X : Cx} {G : GC} {Φ : Cal} {x : List Ma.D} {W : WX}
theorem pe_dkeys {y1 : Expr} {tv : TA} {p p2 pos pos2 : Pos} (calm : X.calm = true) (hu : X.A.units + 100 < cLine) (gl : Gl X "list") (own : X.mg "list" = none) (gl2 : Gl X "dict") (own2 : X.mg "dict" = none) (ha : PA X [y1] tv)
    (e1 : starEach [y1] X.env = (false, eval y1 X.env) :: starEach [] X.env := by rfl) :
    PE X (.Call (.Name "list" p) [.Call (.Name "dict" p2) [y1] [] pos2] [] pos) (fun σ H Q => tv σ H fun us H1 => ∃ m l zs xs ws, us = [.ref l] ∧ Rd H1 l (.lst ws) ∧ Rps m H1 zs ws ∧ fsts zs = some xs ∧ (∀ d ∈ xs, numD 8 d = true ∧ ∃ ys, d = .tup ys) ∧ okSort xs = true ∧ ∀ q vs, H1 q = none → Rps m H1 (dedup [] xs) vs → Q (.ref q) (upd H1 q (.lst vs))) := by
  refine ⟨fun pins s σ H Q I hq => ?_⟩
  refine PyProof.Rows.Call_ (ld_blt I gl own bt_list (PyProof.Rows.callWith_type1 (?_ : wpAny _ _ (spliced ((false, eval _ X.env) :: backTo pos (starEach [] X.env))) _ _ _) rfl rfl))
  refine Calls.spliced_cons (PyProof.Rows.Call_ (ld_blt I gl2 own2 bt_dict (PyProof.Rows.callWith_type1 (thn (ha.run pos2 pins s σ H _ I hq) ?_) e1 rfl)))
  rintro us s1 ⟨vs, H1, I1, rv, m, l, zs, xs, ws, rfl, rd, r, ef, nu, oks, q⟩
  obtain ⟨u, rfl, ru⟩ := vals1 rv
  cases ru
  exact wpAny_mono (call_dkeys (A := X.A) (I1.ok.hd calm) hu I1 rd r ef nu oks q) (fun v s2 z => Calls.spliced_nil z) fun _ _ z => z
theorem se_dkeys {y1 : Expr} {a : E} {p p2 pos pos2 : Pos} (calm : X.calm = true) (hu : X.A.units + 100 < cLine) (gl : Gl X "list") (own : X.mg "list" = none) (gl2 : Gl X "dict") (own2 : X.mg "dict" = none) (ha : PE X y1 (tr G Φ x W a))
    (e1 : starEach [y1] X.env = (false, eval y1 X.env) :: starEach [] X.env := by rfl) :
    PE X (.Call (.Name "list" p) [.Call (.Name "dict" p2) [y1] [] pos2] [] pos) (te G Φ x W (.b1 .dkeys a)) := by
  refine PEimp (pe_dkeys calm hu gl own gl2 own2 (tr_cons1 ha e1) e1) fun σ H Q ⟨m, s, h, r, q⟩ => ?_
  rw [ev] at q
  refine ⟨m, s, h, r, row1 (a := a) r q fun m1 t h1 v H1 r1 y1 q1 o1 p1 => ?_⟩
  obtain ⟨t', e, p2⟩ := optE_ok p1
  obtain ⟨xs, e3, e2⟩ := Option.bind_eq_some_iff.mp (show ((itL t).bind fsts).bind (fun xs => if ((xs.all fun d => isRec d && numD 8 d) && okSort xs) = true then some (mkL (dedup [] xs)) else none) = some t' from e)
  obtain ⟨zs, ei, ef⟩ := Option.bind_eq_some_iff.mp e3
  obtain ⟨l, ws, rfl, rd, rp⟩ := itL_rd q1 ei
  by_cases ok : ((xs.all fun d => isRec d && numD 8 d) && okSort xs) = true
  · rw [if_pos ok] at e2
    cases e2
    rw [Bool.and_eq_true] at ok
    refine ⟨m1, l, zs, xs, ws, rfl, rd, rp, ef, fun d md => ?_, ok.2, fun q vs nq rq => p2.lst r1.hp nq rq⟩
    have z := List.all_eq_true.mp ok.1 d md
    rw [Bool.and_eq_true] at z
    refine ⟨z.2, ?_⟩
    cases d with
    | tup ys => exact ⟨ys, rfl⟩
    | _ => simp [isRec] at z
  · rw [if_neg ok] at e2; cases e2
end
end Ma
set_option maxHeartbeats 4000000
/-! try .. except. -/
namespace Ma
open PySem PySem.Spec L2
variable [TB]
section
variable {G : GC} {Φ : Cal} {x : List Ma.D} {W : WX} {X : Cx} {m0 m : List Addr} {H0 H : Hp} {σ : L2.St} {s : Sl} {h : RH}
/-- a slot that is not set may hold anything -/
theorem SF.un (q : SF m0 H0 m s h σ H) (i : Nat) (o : Option V) : SF m0 H0 m (setT s i .un) h (σ.set i o) H := by
  have far : ∀ {j : Nat} {t : T}, (setT s i .un)[j]? = some t → t ≠ .un → i ≠ j ∧ s[j]? = some t := fun {j t} e n => by
    rw [setT_at] at e
    by_cases z : i = j ∧ j < s.length
    · rw [if_pos z] at e; exact absurd (Option.some.inj e).symm n
    · rw [if_neg z] at e
      exact ⟨fun w => z ⟨w, (List.getElem?_eq_some_iff.mp e).1⟩, e⟩
  have ow : ∀ {t : T}, t.own = true → t ≠ .un := fun o z => by subst z; cases o
  refine ⟨⟨by rw [setT_len, List.length_set]; exact q.sr.len, fun j t e n => ?_, fun j k t u a ej ek ot ou sj sk => ?_, fun j t a e ot sj => ?_, q.sr.hp⟩, q.ex, fun j t a e ot sj => ?_⟩
  · obtain ⟨ne, e'⟩ := far e n
    rw [List.getElem?_set_ne ne]
    exact q.sr.at_ j t e' n
  · obtain ⟨n1, e1⟩ := far ej (ow ot)
    obtain ⟨n2, e2⟩ := far ek (ow ou)
    rw [List.getElem?_set_ne n1] at sj
    rw [List.getElem?_set_ne n2] at sk
    exact q.sr.apart j k t u a e1 e2 ot ou sj sk
  · obtain ⟨n1, e1⟩ := far e (ow ot)
    rw [List.getElem?_set_ne n1] at sj
    exact q.sr.off j t a e1 ot sj
  · obtain ⟨n1, e1⟩ := far e (ow ot)
    rw [List.getElem?_set_ne n1] at sj
    exact q.new j t a e1 ot sj
/-- which errors a clause takes -/
def Takes1 (K : PySem.W.Frag) (G : GC) (c : Nat) : Prop := c < G.n ∧ ∀ k, k < G.n → PySem.W.exmOne K (.ref (G.cl k)) (.ref (G.cl c)) = some (k == c)
/-- a suite that holds an error of the class c at slot i -/
def tSu (G : GC) (Φ : Cal) (W : WX) (m0 : List Addr) (H0 : Hp) (c i : Nat) (b : S) (a : Addr) (cls : Value) (d : Option Addr) : TS := fun D σ H =>
  ∃ m s h xs, SF m0 H0 m s h σ H ∧ (i < σ.length → σ[i]? = some (some (.ref a))) ∧ RpX G m H c xs cls d ∧ PstS G W m0 H0 m H D (ex Φ xs b s h)
theorem exh_one {c k i : Nat} {xs : List Ma.D} {b : S} : exh Φ k xs (.hnd [c] i b .skip) s h = if k == c then (ex Φ xs b (setT s i .un) h).nxt fun s h => .nx (setT s i .un) h else .exc k xs s h := by
  rw [exh]
  by_cases z : k = c
  · subst z; simp
  · simp [z, exh]
theorem ss_try_as {y n : Str} {c i : Nat} {b hb : S} {body suite : List Stmt} {b0 : Stmt} {np pos pos' : Pos} (hs : X.stack = X.env :: X.outer) (hf : X.env.frame = some X.env.locals) (hN : X.N.Nodup) (hi : X.N[i]? = some n) (hln : X.env.kindOf n = some .local) (hc : Names X y (.ref (G.cl c))) (t1 : Takes1 X.K G c) (tk : Takes X W)
    (hbody : ∀ (W' : WX) (pn : List (Addr × Obj)) (xe : Value → Shared → Prop), Takes (X.tr pn xe) W' → PSs (X.tr pn xe) body (ts G Φ x W' m0 H0 b))
    (hsu : ∀ (a : Addr) (oe : Obj) (cls : Value) (d : Option Addr) (pn : List (Addr × Obj)), Zc cls d oe → (∃ vs, oe.data = .fields vs) → PSs (X.suite a ((a, oe) :: pn)) (b0 :: suite) (tSu G Φ W m0 H0 c i hb a cls d)) :
    PS X (.Try body [.ExceptHandler (some (.Name y np)) (some n) (b0 :: suite) pos'] [] [] pos) (ts G Φ x W m0 H0 (.try_ b (.hnd [c] i hb .skip))) := by
  refine PSimp (ps_try_as (c := .ref (G.cl c)) hs hf hN hi hln hc tk (fun W' pn xe t _ => hbody W' pn xe t) hsu) fun D σ H ⟨m, s, h, q, p⟩ => ⟨m, s, h, q, ?_⟩
  rw [ex] at p
  cases e : ex Φ x b s h with
  | nx s' h' => rw [e] at p; exact p
  | ret t h' => rw [e] at p; exact p
  | bad w => rw [e] at p; exact p
  | exc k xs s' h' =>
    rw [e] at p
    dsimp only at p
    rw [exh_one] at p
    intro m' σ' H' cls d sf per rx
    refine ⟨k == c, ?_, fun yes a na => ?_, fun no => ?_⟩
    · rw [rx.1.1]; exact t1.2 k rx.1.2
    · have ek : k = c := by simpa using yes
      subst ek
      rw [if_pos yes] at p
      refine ⟨m', setT s' i .un, h', xs, sf.un i _, fun l => by rw [List.length_set] at l; exact List.getElem?_set_self l, rx, ?_⟩
      cases r : ex Φ xs hb (setT s' i .un) h' with
      | nx s2 h2 => rw [r] at p; exact fun m2 σ2 H2 sf2 per2 => p m2 _ H2 (sf2.un i none) (per.trans per2)
      | ret t h2 => rw [r] at p; exact p
      | exc k2 ys s2 h2 => rw [r] at p; exact fun m2 σ2 H2 cls2 d2 sf2 per2 rx2 => p m2 σ2 H2 cls2 d2 sf2 (per.trans per2) rx2
      | bad w => rw [r] at p; exact p
    · rw [if_neg (by rw [no]; decide)] at p
      exact p m' σ' H' cls d sf per rx
theorem SF.un' (q : SF m0 H0 m s h σ H) (i : Nat) : SF m0 H0 m (setT s i .un) h σ H := by
  by_cases l : i < σ.length
  · have := q.un i σ[i]
    rwa [List.set_getElem_self] at this
  · have := q.un i none
    rwa [List.set_eq_of_length_le (Nat.le_of_not_lt l)] at this
/-- except X: no name -/
theorem ss_try {y : Str} {c i : Nat} {b hb : S} {body suite : List Stmt} {b0 : Stmt} {np pos pos' : Pos} (hs : X.stack = X.env :: X.outer) (hf : X.env.frame = some X.env.locals) (hc : Names X y (.ref (G.cl c))) (t1 : Takes1 X.K G c) (tk : Takes X W)
    (hbody : ∀ (W' : WX) (pn : List (Addr × Obj)) (xe : Value → Shared → Prop), Takes (X.tr pn xe) W' → PSs (X.tr pn xe) body (ts G Φ x W' m0 H0 b))
    (hsu : ∀ (xs : List Ma.D) (a : Addr) (oe : Obj) (pn : List (Addr × Obj)), PSs (X.suite a ((a, oe) :: pn)) (b0 :: suite) (ts G Φ xs W m0 H0 hb)) :
    PS X (.Try body [.ExceptHandler (some (.Name y np)) none (b0 :: suite) pos'] [] [] pos) (ts G Φ x W m0 H0 (.try_ b (.hnd [c] i hb .skip))) := by
  refine PSimp (ps_try_only (c := .ref (G.cl c)) (ts := fun _ _ _ D σ H => ∃ xs, ts G Φ xs W m0 H0 hb D σ H) hs hf hc tk (fun W' pn xe t _ => hbody W' pn xe t) fun a oe cls d pn z f => ⟨fun pins s σ H D I ⟨xs, q⟩ => (hsu xs a oe pn).run pins s σ H D I q⟩) fun D σ H ⟨m, s, h, q, p⟩ => ⟨m, s, h, q, ?_⟩
  rw [ex] at p
  cases e : ex Φ x b s h with
  | nx s' h' => rw [e] at p; exact p
  | ret t h' => rw [e] at p; exact p
  | bad w => rw [e] at p; exact p
  | exc k xs s' h' =>
    rw [e] at p
    dsimp only at p
    rw [exh_one] at p
    intro m' σ' H' cls d sf per rx
    refine ⟨k == c, by rw [rx.1.1]; exact t1.2 k rx.1.2, fun yes a na => ?_, fun no => ?_⟩
    · rw [if_pos yes] at p
      refine ⟨xs, m', setT s' i .un, h', sf.un' i, ?_⟩
      cases r : ex Φ xs hb (setT s' i .un) h' with
      | nx s2 h2 => rw [r] at p; exact fun m2 σ2 H2 sf2 per2 => p m2 _ H2 (sf2.un' i) (per.trans per2)
      | ret t h2 => rw [r] at p; exact p
      | exc k2 ys s2 h2 => rw [r] at p; exact fun m2 σ2 H2 cls2 d2 sf2 per2 rx2 => p m2 σ2 H2 cls2 d2 sf2 (per.trans per2) rx2
      | bad w => rw [r] at p; exact p
    · rw [if_neg (by rw [no]; decide)] at p
      exact p m' σ' H' cls d sf per rx
end
/-! ### in a suite that holds an error -/
section
variable {G : GC} {Φ : Cal} {W : WX} {X : Cx} {m0 : List Addr} {H0 : Hp} {c i : Nat} {a : Addr} {oe : Obj} {cls : Value} {d : Option Addr} {pn : List (Addr × Obj)}
/-- a field of the error, read where all stands as at the suite's start -/
structure Fld (X : Cx) (G : GC) (c k : Nat) (f : Str) : Prop where
  cl : XfC X.K (G.cl c)
  no : PySem.W.findIn X.K (.ref (G.cl c)) f = some none
  nm : (G.fs c)[k]? = some f
/-- .. what it gives -/
def tFl (G : GC) (c k : Nat) (i : Nat) (a : Addr) (cls : Value) (d : Option Addr) : TE := fun σ H Q => (σ[i]? = some (some (.ref a))) ∧ ∃ m xs y, RpX G m H c xs cls d ∧ xs[k]? = some y ∧ ∀ v, Rp m H y v → Q v H
theorem pe_fl {n f : Str} {k : Nat} {p pos : Pos} (F : Fld X G c k f) (hi : X.N[i]? = some n) (hz : Zc cls d oe) (hf : ∃ vs, oe.data = .fields vs) (hv : Vis X.env.scope n) (hd : (n == ("__debug__" : Str)) = false := by decide) (hcd : (n == ("__classdict__" : Str)) = false := by decide)
    (hb : attributeBase (.Name n p) f X.env (eval (.Name n p) X.env) = eval (.Name n p) X.env := by rfl) : PE (X.suite a ((a, oe) :: pn)) (.Attribute (.Name n p) f pos) (tFl G c k i a cls d) := by
  refine PEimp (pe_xf (e := .Name n p) F.cl F.no hz hf (pe_var (i := i) hi hv hd hcd) hb) ?_
  rintro σ H Q ⟨si, m, xs, y, ⟨⟨rfl, lt⟩, dd, fs, rfl, at_, look⟩, ey, q⟩
  obtain ⟨v, lk, rv⟩ := look k f y F.nm ey
  exact ⟨_, si, rfl, rfl, dd, fs, v, rfl, at_, lk, q v rv⟩
/-- return e.f -/
theorem su_fld {n f : Str} {k : Nat} {p pos rp : Pos} (F : Fld X G c k f) (hi : X.N[i]? = some n) (hz : Zc cls d oe) (hf : ∃ vs, oe.data = .fields vs) (hv : Vis X.env.scope n) (hd : (n == ("__debug__" : Str)) = false := by decide) (hcd : (n == ("__classdict__" : Str)) = false := by decide)
    (hb : attributeBase (.Name n p) f X.env (eval (.Name n p) X.env) = eval (.Name n p) X.env := by rfl) : PSs (X.suite a ((a, oe) :: pn)) [.Return (some (.Attribute (.Name n p) f pos)) rp] (tSu G Φ W m0 H0 c i (.ret (.exf k)) a cls d) := by
  refine ⟨fun pins s0 σ H D I ⟨m, s, h, xs, q, si, rx, pp⟩ => (pss_one (ps_ret (pe_fl F hi hz hf hv hd hcd hb))).run pins s0 σ H D I ?_⟩
  have lt : i < σ.length := by rw [I.len]; exact (List.getElem?_eq_some_iff.mp hi).1
  rw [ex, ev] at pp
  cases ey : xs[k]? with
  | none => rw [ey] at pp; exact pp.elim
  | some y =>
    rw [ey] at pp
    exact ⟨si lt, m, xs, y, rx, ey, fun v rv => pp m v H q.sr.hp q.ex rv fun o => nomatch o⟩
/-- return [.., e.f] -/
theorem su_lst {n f y : Str} {l : List Nat} {k j : Nat} {p p1 pos lp rp : Pos} (F : Fld X G c k f) (hi : X.N[i]? = some n) (hy : y.cps.toList = l) (hz : Zc cls d oe) (hf : ∃ vs, oe.data = .fields vs) (hv : Vis X.env.scope n) (hd : (n == ("__debug__" : Str)) = false := by decide) (hcd : (n == ("__classdict__" : Str)) = false := by decide)
    (hb : attributeBase (.Name n p) f X.env (eval (.Name n p) X.env) = eval (.Name n p) X.env := by rfl) :
    PSs (X.suite a ((a, oe) :: pn)) [.Return (some (.List [.Constant (.str y) j p1, .Attribute (.Name n p) f pos] lp)) rp] (tSu G Φ W m0 H0 c i (.ret (.lst (.cons (.lit (.str l)) (.cons (.exf k) .nil)))) a cls d) := by
  refine ⟨fun pins s0 σ H D I ⟨m, s, h, xs, q, si, rx, pp⟩ => (pss_one (ps_ret (pe_lst (pa_cons pe_str (pa_cons (pe_fl F hi hz hf hv hd hcd hb) pa_nil))))).run pins s0 σ H D I ?_⟩
  have lt : i < σ.length := by rw [I.len]; exact (List.getElem?_eq_some_iff.mp hi).1
  cases ey : xs[k]? with
  | none =>
    simp only [ex, ev, ey, RE.bind, RE.row, RE.go, optE, Option.map] at pp
    exact pp.elim
  | some u =>
    simp only [ex, ev, ey, RE.bind, RE.row, RE.go, optE, Option.map] at pp
    refine ⟨si lt, m, xs, u, rx, ey, fun v rv => ⟨by show 2 ≤ sizeLine; decide, fun b nb => ?_⟩⟩
    have pr := (ex_new (o := .lst [.str y, v]) nb : Ex m H m _).per q.sr.hp
    refine pp m (.ref b) _ (q.sr.hp.new nb) (q.ex.comp q.sr.hp (ex_new nb)) (RpT.mk upd_same ?_) fun _ z e => by cases e; exact ⟨q.sr.hp.notin nb, q.ex.none q.sr.hp nb⟩
    exact ⟨.str y, [v], rfl, ⟨y, rfl, hy⟩, v, [], rfl, Rp.per pr _ _ rv, rfl⟩
end
end Ma
set_option maxHeartbeats 4000000
/-! Own classes of errors that keep one argument: facts by name, raise. -/
namespace Ma
open PySem PySem.Spec L2
variable [TB]
section
variable {G : GC} {Φ : Cal} {x : List Ma.D} {W : WX} {X : Cx} {m0 : List Addr} {H0 : Hp}
theorem ta_mono {e : E} {σ : L2.St} {H : Hp} {Q Q' : List V → Hp → Prop} (h : ta G Φ x W e σ H Q) (k : ∀ vs H1, Q vs H1 → Q' vs H1) : ta G Φ x W e σ H Q' := by
  obtain ⟨m, s, h, r, p⟩ := h
  refine ⟨m, s, h, r, ?_⟩
  cases q : ev Φ x e s h with
  | bad w => rw [q] at p; exact p
  | exc c xs h' => rw [q] at p; exact p
  | ok t h' =>
    rw [q] at p
    cases t with
    | fz d => cases d with
      | tup ds => exact fun m' vs H' a b c => k _ _ (p m' vs H' a b c)
      | _ => exact p.elim
    | _ => exact p.elim
/-- such a class, by its name -/
structure Kls (P : Program) (w : World) (K : PySem.W.Frag) (mg : Str → Option Value) (base : Heap) (G : GC) (y : Str) (c : Nat) (f : Str) : Prop where
  ex : ∃ (yB : Str) (B nw ini : String) (tl : List Value) (fI : Addr) (fd : FuncData) (ar : Str), Bas yB B nw ini tl ∧ Err K nw tl (G.cl c) fI ∧ FnOk P w K mg base CX0 1 fI fd ["self", ar] (spIni f (G.cl c)) ∧ L2.Binds K fd ["self", ar] []
  lt : c < G.n
  fs : G.fs c = [f]
  mg : mg y = some (.ref (G.cl c))
  one : Takes1 K G c
  cl : XfC K (G.cl c)
  no : PySem.W.findIn K (.ref (G.cl c)) f = some none
theorem Kls.fld {y : Str} {c : Nat} {f : Str} (F : Kls X.prog X.w X.K X.mg X.base G y c f) : Fld X G c 0 f := ⟨F.cl, F.no, by rw [F.fs]; rfl⟩
theorem makes_one {k : Nat} {y : Str} {c : Nat} {f : Str} {e : Expr} {es : E} {p pos : Pos} (F : Kls X.prog X.w X.K X.mg X.base G y c f) (hr : Room (k + 2) X.A) (gl : Gl X y) (ha : PA X [e] (ta G Φ x W es)) (hdb : (y == ("__debug__" : Str)) = false := by decide)
    (he : starEach [e] X.env = (false, eval e X.env) :: starEach [] X.env := by rfl) (hpl : (backTo pos (starEach [] X.env)).any (·.1) = false := by rfl) : Makes X G c 1 (.Call (.Name y p) [e] [] pos) (ta G Φ x W es) := by
  obtain ⟨yB, B, nw, ini, tl, fI, fd, ar, b, T, ok, bi⟩ := F.ex
  refine fun pins s σ H Q I h => mk_err (k := 1) b T ok (hr.mono (by omega)) bi gl F.mg ha hdb he hpl pins s σ H Q I (ta_mono h ?_)
  rintro vs H1 ⟨l, md⟩
  obtain ⟨v, rfl⟩ : ∃ v, vs = [v] := by
    cases vs with
    | nil => cases l
    | cons v r => cases r with
      | nil => exact ⟨v, rfl⟩
      | cons _ _ => simp at l
  refine ⟨v, rfl, fun d nd => md d _ [(f, v)] (fun m h r => ⟨ex_new nd, r.new nd⟩) upd_same fun i n u en eu => ?_⟩
  rw [F.fs] at en
  cases i with
  | zero => cases en; cases eu; simp
  | succ i => simp at en
/-- raise C(e) -/
theorem sh_raise {k : Nat} {y : Str} {c : Nat} {f : Str} {e : Expr} {es : E} {p pos rp : Pos} (F : Kls X.prog X.w X.K X.mg X.base G y c f) (calm : X.calm = true) (tk : Takes X W) (hr : Room (k + 2) X.A) (gl : Gl X y) (ha : PA X [e] (ta G Φ x W es)) (row : isRow es = true) (n1 : rowN es = 1) (hdb : (y == ("__debug__" : Str)) = false := by decide)
    (he : starEach [e] X.env = (false, eval e X.env) :: starEach [] X.env := by rfl) (hpl : (backTo pos (starEach [] X.env)).any (·.1) = false := by rfl) : PS X (.Raise (some (.Call (.Name y p) [e] [] pos)) none rp) (ts G Φ x W m0 H0 (.rais c es)) :=
  ss_rais calm tk F.lt row (by rw [n1]; exact makes_one F hr gl ha hdb he hpl)
end
end Ma
set_option maxHeartbeats 4000000
/-! A lambda handed to a def that calls it under try. -/
namespace Ma
open PySem PySem.Spec L2 LamX
variable [TB]
section
variable {X : Cx} {pins : List (Addr × Obj)} {σ : L2.St} {H : Hp} {s : Shared}
/-- what making a lambda changes: nothing, or the table, and a new code object -/
def Lm (H H1 : Hp) (P : Addr) (q : Str) : Prop := H1 = H ∨ ∃ ps ps' c, H P = some (.tbl ps) ∧ H c = none ∧ H1 = upd (upd H P (.tbl ps')) c (CodeO c q)
theorem Lm.stay {H1 : Hp} {P : Addr} {q : Str} (l : Lm H H1 P q) {a : Addr} {o : HO} (e : H a = some o) (ne : a ≠ P) : H1 a = some o := by
  rcases l with rfl | ⟨ps, ps', c, eP, ec, rfl⟩
  · exact e
  · rw [upd_ne (ne_of_none e ec), upd_ne ne]; exact e
theorem lam_made {c P : Addr} {params : Arguments} {body : Expr} {scope : Scope} {pos : Pos} {E : Value → Shared → Prop} {Q : Value → Shared → Prop} (I : L2.Inv X pins σ H s) (tb : TabB X.base X.mg c P) (code : X.env.code = .ref c) (tab : TabS H P (X.env.qual ++ "<lambda>"))
    (plain : defaultsOf params X.env = ([], [])) (free : ∀ y ∈ scope.names, y.2 = .free → ∃ c, X.env.cells.lookup y.1 = some c)
    (go : ∀ (f c' : Addr) (pm ctv : Value) (H1 : Hp) (s' : Shared), L2.Inv X pins σ H1 s' → Lm H H1 P (X.env.qual ++ "<lambda>") → TabS H1 P (X.env.qual ++ "<lambda>") →
      s'.heap.get? f = some (PySem.W.kla_obj "<lambda>" (X.env.qual ++ "<lambda>") params body scope (cloFrom X.env.cells scope.names []) pm c' ctv) → H1 f = none → f ∉ frs X.stack → H1 c' = some (CodeO c' (X.env.qual ++ "<lambda>")) → Q (.ref f) s') :
    wpAny (model X.prog X.w) X.A (eval (.Lambda params body scope pos) X.env) Q E s := by
  obtain ⟨ps, aP, tri, am⟩ := tab
  have real : s.heap.get? P = some { cls := .none, data := .fields ps } := I.hok P _ aP
  have out : ∀ f, s.heap.objs.size ≤ f → f ∉ frs X.stack := fun f big z => by
    rcases List.mem_cons.mp (I.stkSub _ z) with w | w
    · subst w; exact absurd I.lt (Nat.not_lt.mpr big)
    · exact I.nofs big w
  refine PySem.W.kla_eval plain ?_
  cases known : codeAmong pos ps.toList with
  | some cv =>
    obtain ⟨c', rfl, co⟩ := am pos cv known
    exact PySem.W.kla_makeFunctionHit (mg := X.mg) (closure_ok free) I.ok.glob (I.mod.glob.keeps I.bk) code (tb.code.keeps I.bk) real tri known (tb.bm.keeps I.bk) fun ctv h' tk st le =>
      go _ c' _ ctv H _ (I.kept fun b o w => Heap.get?_push_of_some _ (st b o w)) (.inl rfl) ⟨ps, aP, tri, am⟩ (Heap.get?_push_size _ rfl) (I.hok.fresh le) (out _ le) co
  | none =>
    refine PySem.W.kla_makeFunction (mg := X.mg) (closure_ok free) I.ok.glob (I.mod.glob.keeps I.bk) code (tb.code.keeps I.bk) real tri known tb.gP (tb.bm.keeps I.bk) fun c' ctv h' tk st le lt rec_ mem => ?_
    obtain ⟨_, oc, vs, t, ⟨⟩, at_, fd, nm⟩ := rec_
    have none_c : H c' = none := I.hok.fresh le
    have le2 : s.heap.objs.size ≤ h'.objs.size := Nat.le_trans le (Nat.le_of_lt lt)
    have lP := Heap.lt_size real
    have J := inv_table (t' := tk) (q := X.env.qual ++ "<lambda>") I aP (h' := h'.push (PySem.W.kla_obj "<lambda>" (X.env.qual ++ "<lambda>") params body scope (cloFrom X.env.cells scope.names []) ((X.mg "__name__").getD .none) c' ctv))
      (fun b o ne w => Heap.get?_push_of_some _ (st b o ne w)) (Heap.get?_push_of_some _ mem) le ⟨oc, vs, t, Heap.get?_push_of_some _ at_, fd, nm⟩
    have list3 : (ps ++ #[rawInt pos.line, rawInt pos.col, .ref c']).toList = ps.toList ++ [rawInt pos.line, rawInt pos.col, .ref c'] := by simp
    refine go h'.objs.size c' _ ctv _ _ J (.inr ⟨ps, _, c', aP, none_c, rfl⟩) ⟨_, (upd_ne (ne_of_none aP none_c)).trans upd_same, by rw [list3]; exact PySem.TriplesOk_snoc _ _ _ _ tri, fun p' cv hcv => ?_⟩ (Heap.get?_push_size _ rfl) ?_ (out _ le2) upd_same
    · rw [list3] at hcv
      rcases among_app _ tri hcv with z | z
      · obtain ⟨c0, e1, e2⟩ := am p' cv z
        refine ⟨c0, e1, ?_⟩
        rw [upd_ne (ne_of_none e2 none_c), upd_ne (fun w => ?_)]
        · exact e2
        · rw [w, aP] at e2; exact codeO_ne ps (Option.some.inj e2).symm
      · exact ⟨c', z, upd_same⟩
    · rw [upd_ne (Nat.ne_of_gt lt), upd_ne (Nat.ne_of_gt (Nat.lt_of_lt_of_le lP le2))]
      exact I.hok.fresh le2
end
/-! ### the shared objects behind it -/
section
variable {m : List Addr} {h : RH} {H H1 : Hp} {P : Addr} {q : Str} {k : Nat}
theorem Lm.ex (l : Lm H H1 P q) (hP : P ∈ m) : Ex m H m H1 := ⟨⟨[], by simp, by simp⟩, fun a o e n => l.stay e fun z => n (z ▸ hP)⟩
theorem tab_at {i : Nat} (r : RpH m h H) (t : tabAt i h = true) (ei : TB.tabs[i]? = some (P, q)) : m[i]? = some P ∧ h[i]? = some (.tab i) ∧ TabS H P q := by
  unfold tabAt at t
  split at t
  · rename_i j ej
    have ej' : j = i := by simpa using t
    subst ej'
    obtain ⟨a, ea⟩ : ∃ a, m[j]? = some a := ⟨m[j]'(by rw [r.len]; exact (List.getElem?_eq_some_iff.mp ej).1), List.getElem?_eq_getElem _⟩
    obtain ⟨q', e2, e3⟩ := r.at_ j _ a ej ea
    rw [ei] at e2
    cases e2
    exact ⟨ea, ej, e3⟩
  · cases t
theorem Lm.hp (l : Lm H H1 P q) (r : RpH m h H) (t : tabAt k h = true) (ek : TB.tabs[k]? = some (P, q)) (t1 : TabS H1 P q) : RpH m h H1 := by
  obtain ⟨mk, hk, ⟨ps, aP, _⟩⟩ := tab_at r t ek
  have hP : P ∈ m := List.mem_of_getElem? mk
  refine ⟨r.nd, r.len, fun n ob a e1 e2 => ?_⟩
  have w := r.at_ n ob a e1 e2
  cases ob with
  | ins c fs => exact w
  | lst xs =>
    obtain ⟨vs, e, w⟩ := w
    exact ⟨vs, l.stay e fun z => (by rw [z, aP] at e; cases e), Rps.per ((l.ex hP).per r) _ _ w⟩
  | tab j =>
    obtain ⟨q', e3, t2⟩ := w
    by_cases z : a = P
    · subst z
      have : n = k := (List.getElem?_inj (List.getElem?_eq_some_iff.mp e2).1 r.nd).mp (e2.trans mk.symm)
      subst this
      rw [hk] at e1
      cases e1
      exact ⟨q, ek, t1⟩
    · obtain ⟨ps2, b1, b2, b3⟩ := t2
      refine ⟨q', e3, ps2, l.stay b1 z, b2, fun pos cv hc => ?_⟩
      obtain ⟨c0, e4, e5⟩ := b3 pos cv hc
      exact ⟨c0, e4, l.stay e5 fun y => (by rw [y, aP] at e5; exact codeO_ne ps (Option.some.inj e5).symm)⟩
end
/-! ### the def that calls it -/
/-- what it makes: the value in a list; the word and the field of an error of the class c -/
def TTo (G : GC) (c : Nat) (w : Str) : (XK → Hp → VK → Prop) → Hp → VK → Prop := fun tl H Q =>
  tl (fun cls d H' => ∃ m xs y, RpX G m H' c xs cls d ∧ xs[0]? = some y ∧ ∀ v, Rp m H' y v → ∀ b, H' b = none → Q (.ref b) (upd H' b (.lst [.str w, v]))) H (fun v H' => [v].length ≤ sizeLine ∧ ∀ b, H' b = none → Q (.ref b) (upd H' b (.lst [v])))
section
variable {X : Cx} {G : GC}
theorem out_gives {Ng : List Str} {x a e n f q w : Str} {c : Nat} {sg : Scope} {g : Addr} {cdg : Value} {j : Nat} {p1 p2 p3 p4 p5 p6 p7 p8 p9 p10 p11 p12 : Pos} (F : Fld X G c 0 f) (t1 : Takes1 X.K G c) (hme : X.mg e = some (.ref (G.cl c)))
    (hge : sg.names.lookup e = some .globalImplicit) (hde : (e == ("__debug__" : Str)) = false) (hN : Ng.Nodup) (hi : Ng[1]? = some n) (hln : sg.names.lookup n = some .local) (hd : (n == ("__debug__" : Str)) = false) (hcd : (n == ("__classdict__" : Str)) = false)
    (h0 : ∀ f : Addr, (L2.start Ng [V.ref f])[0]? = some (some (V.ref f))) :
    GivesTo X Ng x sg g cdg [.Try [.Return (some (.List [.Call (.Name a p1) [] [] p2] p11)) p3] [.ExceptHandler (some (.Name e p4)) (some n) [.Return (some (.List [.Constant (.str w) j p5, .Attribute (.Name n p9) f p10] p12)) p6] p7] [] [] p8] a q (TTo G c w) := by
  intro f' c' s H Q tl act hc h
  have hgl : Gl (cxOf C8.CX0 X.prog X.w X.K X.mg X.base Ng x sg g cdg X.A X.stack s H C8.E0).nox e := hge
  refine ⟨_, pss_one (ps_try_as (X := (cxOf C8.CX0 X.prog X.w X.K X.mg X.base Ng x sg g cdg X.A X.stack s H C8.E0).nox) (c := .ref (G.cl c)) (i := 1)
      (tb := fun W D σ H => ∃ Ech : XK, (∀ cls d σ' H', Ech cls d H' → W cls d σ' H') ∧ σ[0]? = some (some (.ref f')) ∧ H c' = some (CodeO c' q) ∧ tl Ech H (fun v H' => [v].length ≤ sizeLine ∧ ∀ b, H' b = none → D.rt (.ref b) (upd H' b (.lst [v]))))
      (ts := fun a cls d D σ H => (1 < σ.length → σ[1]? = some (some (.ref a))) ∧ ∃ m xs y, RpX G m H c xs cls d ∧ xs[0]? = some y ∧ ∀ v, Rp m H y v → ∀ b, H b = none → D.rt (.ref b) (upd H b (.lst [.str w, v])))
      rfl rfl hN hi hln ⟨hgl, hde, .inl hme⟩ takes0 (fun W pn xe tk _ => ?_) fun a oe cls d pn hz hf => ?_), ?_⟩
  · refine ⟨fun pins s' σ H' D I ⟨Ech, hW, h1, h2, h3⟩ => ?_⟩
    exact (pss_one (ps_ret (pos := p3) (pe_lst (pos := p11) (pa_cons (act W pn xe Ech p1 p2 tk hW) pa_nil)))).run pins s' σ H' D I ⟨h1, h2, h3⟩
  · refine ⟨fun pins s0 σ H2 D I ⟨si, m, xs, y, rx, ey, q⟩ => ?_⟩
    have F' : Fld (cxOf C8.CX0 X.prog X.w X.K X.mg X.base Ng x sg g cdg X.A X.stack s H C8.E0).nox G c 0 f := ⟨F.cl, F.no, F.nm⟩
    have lt : 1 < σ.length := by rw [I.len]; exact (List.getElem?_eq_some_iff.mp hi).1
    exact (pss_one (ps_ret (pos := p6) (pe_lst (pos := p12) (pa_cons pe_str (pa_cons (pe_fl (p := p9) (pos := p10) F' hi hz hf (.inl hln) hd hcd) pa_nil))))).run pins s0 σ H2 D I
      ⟨si lt, m, xs, y, rx, ey, fun v rv => ⟨by show 2 ≤ sizeLine; decide, fun b nb => q v rv b nb⟩⟩
  · refine ⟨_, fun cls d σ' H' z => ?_, h0 f', hc, h⟩
    obtain ⟨m, xs, y, rx, ey, k⟩ := z
    refine ⟨true, by rw [rx.1.1]; exact (t1.2 c t1.1).trans (by simp), fun _ a _ => ⟨fun l => List.getElem?_set_self (by simpa using l), m, xs, y, rx, ey, k⟩, fun z => nomatch z⟩
/-- what the call asks of the heap, and gives -/
def tOut (P : Addr) (q : Str) (TT : (XK → Hp → VK → Prop) → Hp → VK → Prop) (t : XK → TE) : TE := fun σ H Q => TabS H P q ∧ ∀ H1, Lm H H1 P q → TabS H1 P q → TT (fun E H' Q' => t E σ H' Q') H1 Q
/-- x(lambda: body), the table known -/
theorem pe_out {TT : (XK → Hp → VK → Prop) → Hp → VK → Prop} {x a : Str} {g c P : Addr} {k : Nat} {fd : FuncData} {pg : Arguments} {bg : List Stmt} {sg : Scope} {Ng : List Str}
    {params : Arguments} {body : Expr} {scope : Scope} {t : XK → TE} {p lpos pos : Pos} (hg : Gl X x) (hm : X.mg x = some (.ref g)) (D : FunD X.K x x pg bg sg [] [] g fd) (hb : L2.Binds X.K fd [a] []) (Sg : FnScope Ng [a] sg) (hNg : Ng[0]? = some a) (hva : Vis sg a)
    (hG : ∀ cdv, GivesTo X Ng x sg g cdv bg a (X.env.qual ++ "<lambda>") TT)
    (T : TabB X.base X.mg c P) (code : X.env.code = .ref c) (hr : Room (k + 2) X.A) (L : LamS X.env.scope scope) (plain : defaultsOf params X.env = ([], []))
    (hbind : ∀ (q : Str) (cl : List (Str × Addr)) (pm cv ctv : Value), bindArgs (PySem.W.kla_fn "<lambda>" q params body scope cl pm cv ctv) ⟨[], []⟩ = pure [])
    (hbody : ∀ (A : Around) (outer : List Env) (s : Shared) (H : Hp) (E : XK) (f c' : Addr), Room k (A.deeper (lamEnv X scope s.heap.objs.size f c')) → PE (lamCx X A outer s H E scope f c') body (t E))
    (hdb : (x == ("__debug__" : Str)) = false) (hd : (a == ("__debug__" : Str)) = false) (hcd : (a == ("__classdict__" : Str)) = false) :
    PE X (.Call (.Name x p) [.Lambda params body scope lpos] [] pos) (tOut P (X.env.qual ++ "<lambda>") TT t) := by
  obtain ⟨oc, od, dV, kV, doc, pm, an, cdv, ct, osl, rfl, lk, hcg, _, _⟩ := D.ex
  refine ⟨fun pins s σ H Q I ⟨hT, h⟩ => ?_⟩
  refine wpAny_Call_Name_kw (ld_glob I hg hm ?_ hdb)
  refine PySem.W.callWith_K (h₀ := X.base) I.ok.mod.kin D.kp ?_ (by rfl) (by rfl)
  show wpAny _ _ (spliced ((false, eval (.Lambda params body scope lpos) X.env) :: backTo pos (starEach [] X.env))) _ _ s
  refine Calls.spliced_cons (lam_made I T code hT plain (L.has I.ok) fun f c' pm' ctv H1 s' I1 l1 T1 at_ nf no co => Calls.spliced_nil ⟨I1.kIn, ?_⟩)
  have rc : codeAny (model X.prog X.w) X.A (.call (.ref g) ⟨[.ref f], []⟩) (CR C8.CX0 X.stack X.prog X.w H1 s' Q C8.E0) s' :=
    run_ofS (N := Ng) (ps := [a]) (us := [.ref f]) (vs := [.ref f]) lk hcg Sg hr I1.env0 (hb s' [.ref f] I1.kIn rfl) (.cons rfl .nil) rfl fun hr' => by
      obtain ⟨t', h1, h2⟩ := hG cdv f c' s' H1 Q (fun E H' Q' => t E σ H' Q') (fun W pn xe E p1 p2 tk hW => pe_act (i := 0) I1 L at_ nf no (hbind _ _ _ _ _) tk hW hr' (fun A outer s H hr2 => hbody A outer s H E f c' hr2) hNg hva hd hcd) co (h H1 l1 T1)
      exact ⟨t', h1.nox, h2⟩
  refine wpAny_call (codeAny_mono rc fun r s2 hq => ?_)
  match r, hq with
  | .ok (.ret u), hq => exact I1.after hq
/-- the def that calls what it got, by its name; its text is what pa says -/
structure Outs (K : PySem.W.Frag) (mg : Str → Option Value) (y : Str) (params : Arguments) (body : List Stmt) (scope : Scope) : Prop where
  ex : ∃ f fd, FunD K y y params body scope [] [] f fd ∧ mg y = some (.ref f)
/-- the maker's table of code objects is the k-th -/
def Tbk (mg : Str → Option Value) (base : Heap) (code : Value) (k : Nat) (q : Str) : Prop := ∃ c P, code = .ref c ∧ TabB base mg c P ∧ TB.tabs[k]? = some (P, q)
theorem se_out {Φ : Cal} {xx : List Ma.D} {W : WX} {x a : Str} {c i k : Nat} {w : Str} {l : List Nat} {b : E} {pg : Arguments} {bg : List Stmt} {sg : Scope} {Ng : List Str} {params : Arguments} {body : Expr} {scope : Scope} {p lpos pos : Pos}
    (F : Outs X.K X.mg x pg bg sg) (T : Tbk X.mg X.base X.env.code i (X.env.qual ++ "<lambda>")) (t1 : Takes1 X.K G c) (hr : Room (k + 2) X.A) (hg : Gl X x) (L : LamS X.env.scope scope) (Sg : FnScope Ng [a] sg) (hNg : Ng[0]? = some a) (hva : Vis sg a) (hw : w.cps.toList = l)
    (hG : ∀ g cdv q, GivesTo X Ng x sg g cdv bg a q (TTo G c w))
    (hb : ∀ (kV doc pm : Value) (an : Option Addr) (cdv ct : Value) (us : List Value), us.length = [a].length → bindArgs (PySem.W.fnOf x x pg bg sg .none kV doc pm an cdv ct) ⟨us, []⟩ = pure ([a].zip us))
    (plain : defaultsOf params X.env = ([], [])) (hbind : ∀ (q : Str) (cl : List (Str × Addr)) (pm cv ctv : Value), bindArgs (PySem.W.kla_fn "<lambda>" q params body scope cl pm cv ctv) ⟨[], []⟩ = pure [])
    (hbody : ∀ (A : Around) (outer : List Env) (s : Shared) (H : Hp) (E : XK) (f c' : Addr), Room k (A.deeper (lamEnv X scope s.heap.objs.size f c')) → Takes (lamCx X A outer s H E scope f c') (fun c d _ H => E c d H) → PE (lamCx X A outer s H E scope f c') body (te G Φ xx (fun c d _ H => E c d H) b))
    (hdb : (x == ("__debug__" : Str)) = false := by decide) (hd : (a == ("__debug__" : Str)) = false := by decide) (hcd : (a == ("__classdict__" : Str)) = false := by decide) :
    PE X (.Call (.Name x p) [.Lambda params body scope lpos] [] pos) (te G Φ xx W (.outc c i l b)) := by
  obtain ⟨g, fd, D, hm⟩ := F.ex
  obtain ⟨cc, P, code, tb, ek⟩ := T
  refine PEimp (pe_out (t := fun E σ H Q => ∃ m s h, SR m s h σ H ∧ Pst G true (fun c d _ H => E c d H) m σ H Q (ev Φ xx b s h).frz) hg hm D (D.bindsN hb) Sg hNg hva (fun cdv => hG g cdv _) tb code hr L plain hbind
    (fun A outer s H E f c' hr => sf_of (hbody A outer s H E f c' hr (takes_of (X := lamCx X A outer s H E scope f c') rfl rfl rfl rfl))) hdb hd hcd) fun σ H Q ⟨m, s, h, r, pp⟩ => ?_
  rw [ev] at pp
  split at pp
  case isFalse => exact pp.elim
  rename_i th
  obtain ⟨mk, hk, T0⟩ := tab_at r.hp th ek
  refine ⟨T0, fun H1 l1 T1 => ?_⟩
  have y1 : Ex m H m H1 := l1.ex (List.mem_of_getElem? mk)
  have rh1 := l1.hp r.hp th ek T1
  have r1 := r.stay y1 rh1
  refine ⟨m, s, h, r1, ?_⟩
  cases e : ev Φ xx b s h with
  | bad z => rw [e] at pp; exact pp.elim
  | ok t h' =>
    rw [e] at pp
    intro m' v H' y rh rt own
    refine ⟨by show 1 ≤ sizeLine; decide, fun n nn => ?_⟩
    have y2 := y1.comp rh1 y
    have up := ex_new (m := m') (o := .lst [v]) nn
    exact pp m' (.ref n) _ (y2.comp rh up) (rh.new nn) (RpT.mk upd_same (Rps.one (Rp.per (up.per rh) _ _ rt))) fun _ z e => by cases e; exact ⟨rh.notin nn, fun _ => y2.none rh nn⟩
  | exc k xs h' =>
    rw [e] at pp
    unfold told at pp
    split at pp
    · rename_i z; cases z
    · rename_i z
      cases z
      split at pp
      case isFalse => exact pp.elim
      rename_i ec
      have ec' : k = c := by simpa using ec
      subst ec'
      intro m' H' cls d y rh rx
      refine ⟨m', _, _, rx, rfl, fun v rv n nn => ?_⟩
      have y2 := y1.comp rh1 y
      have up := ex_new (m := m') (o := .lst [.str w, v]) nn
      exact pp m' (.ref n) _ (y2.comp rh up) (rh.new nn) (RpT.mk upd_same ⟨.str w, _, rfl, ⟨w, rfl, hw⟩, Rps.one (Rp.per (up.per rh) _ _ rv)⟩) fun _ z e => by cases e; exact ⟨rh.notin nn, fun _ => y2.none rh nn⟩
    · exact pp.elim
end

end Ma
set_option maxHeartbeats 4000000
/-! The head: what the facts of the written part say of defs, own errors, tables. -/
namespace Ma
open PySem PySem.Spec L2
theorem bas_over : Bas "OverflowError" "OverflowError" "OverflowError.__new__" "OverflowError.__init__" [.type "OverflowError", .type "ArithmeticError", .type "Exception", .type "BaseException", .type "object"] where
  F := PySem.F.excBase_OverflowError
  S := PySem.F.store_OverflowError
  bt := by decide +kernel
  ty := by kernel_rfl
  stub := by decide +kernel
  hand := by decide +kernel
  get := fun K => by kernel_rfl
theorem bas_run : Bas "RuntimeError" "RuntimeError" "RuntimeError.__new__" "RuntimeError.__init__" [.type "RuntimeError", .type "Exception", .type "BaseException", .type "object"] where
  F := PySem.F.excBase_RuntimeError
  S := PySem.F.store_RuntimeError
  bt := by decide +kernel
  ty := by kernel_rfl
  stub := by decide +kernel
  hand := by decide +kernel
  get := fun K => by kernel_rfl
theorem bas_val : Bas "ValueError" "ValueError" "ValueError.__new__" "ValueError.__init__" [.type "ValueError", .type "Exception", .type "BaseException", .type "object"] where
  F := PySem.F.excBase_ValueError
  S := PySem.F.store_ValueError
  bt := by decide +kernel
  ty := by kernel_rfl
  stub := by decide +kernel
  hand := by decide +kernel
  get := fun K => by kernel_rfl
/-! ### own errors -/
/-- the class y over the base with this making and this tail: all that is asked of it, f its only field -/
def errB (nw : String) (tl : List Value) (y f : Str) (K : PySem.W.Frag) : Bool :=
  PySem.W.excInitIn K (He.ga K y) tl nw && (PySem.W.excOver K (He.ga K y) tl && (PySem.W.hasDictIn K (He.ga K y) && (He.eqO (PySem.W.findIn K (.ref (He.ga K y)) "__setattr__") (some (some (.builtin "object.__setattr__"))) &&
    (He.eqO (PySem.W.findIn K (.ref (He.ga K y)) "__init__") (some (some (.ref (He.ma K (He.ga K y) "__init__")))) && (decide (PySem.W.typeIn K (.ref (He.ma K (He.ga K y) "__init__")) = some (.type "function")) &&
    (decide (PySem.W.subIn K (.ref (He.ga K y)) (.type "BaseException") = some true) && (decide (PySem.W.typeIn K (.ref (He.ga K y)) = some (.type "type")) && (PySem.W.keepIn K (.ref (He.ga K y)) &&
    (xfB K (He.ga K y) && (He.eqO (PySem.W.findIn K (.ref (He.ga K y)) f) (some none) && He.eqO (PySem.W.takerIn K (He.ga K y) f) (some none)))))))))))
section
variable {K : PySem.W.Frag} {nw : String} {tl : List Value} {y f : Str}
theorem errB_ok (h : errB nw tl y f K = true) : Err K nw tl (He.ga K y) (He.ma K (He.ga K y) "__init__") ∧ XfC K (He.ga K y) ∧ PySem.W.findIn K (.ref (He.ga K y)) f = some none ∧ PySem.W.takerIn K (He.ga K y) f = some none := by
  unfold errB at h
  simp only [Bool.and_eq_true] at h
  obtain ⟨a1, a2, a3, a4, a5, a6, a7, a8, a9, b1, b2, b3⟩ := h
  exact ⟨⟨a1, a2, a3, He.eqO_ok a4, He.eqO_ok a5, of_decide_eq_true a6, of_decide_eq_true a7, of_decide_eq_true a8, a9⟩, xfB_ok b1, He.eqO_ok b2, He.eqO_ok b3⟩
end
/-- no list stands in it -/
def noLists (K : PySem.W.Frag) : Bool := K.all fun q => match q.2.cls, q.2.data with
  | .type c, .seq _ _ => !decide (c = "list")
  | _, _ => true
theorem noLists_ok {K : PySem.W.Frag} (h : noLists K = true) {a : Addr} {o : Obj} {vs : Array Value} {n : Nat} (e : K.lookup a = some o) (c : o.cls = .type "list") (d : o.data = .seq vs n) : False := by
  have z := List.all_eq_true.mp h (a, o) (He.lookup_mem e)
  simp [c, d] at z
/-- the members of a class -/
def members : Stmt → List Stmt
  | .ClassDef _ _ _ b _ _ _ _ _ _ _ => b
  | _ => []
def member (st : Stmt) (i : Nat) : Stmt := (members st).getD i (.Pass ⟨0, 0, 0, 0⟩)
section
variable [TB]
variable {P : Program} {w : World} {K : PySem.W.Frag} {mg : Str → Option Value} {base : Heap} {G : GC}
theorem kls_of {y f ar yB : Str} {B nw ini : String} {tl : List Value} {c : Nat} {fd : FuncData} (b : Bas yB B nw ini tl) (e : errB nw tl y f K = true) (hc : G.cl c = He.ga K y) (lt : c < G.n) (fs : G.fs c = [f]) (hm : mg y = some (.ref (He.ga K y))) (one : Takes1 K G c)
    (ok : FnOk P w K mg base CX0 1 (He.ma K (He.ga K y) "__init__") fd ["self", ar] (spIni f (G.cl c))) (bi : L2.Binds K fd ["self", ar] []) : Kls P w K mg base G y c f := by
  obtain ⟨e1, e2, e3, e4⟩ := errB_ok e
  exact ⟨⟨yB, B, nw, ini, tl, _, fd, ar, b, by rw [hc]; exact e1, ok, bi⟩, lt, fs, by rw [hc]; exact hm, one, by rw [hc]; exact e2, by rw [hc]; exact e3⟩
/-- such an __init__ -/
theorem ini_ok {C fI : Addr} {x ar f : Str} {fd : FuncData} {params : Arguments} {body : List Stmt} {scope : Scope} {q : Str} (F : FunD K x q params body scope [] [] fI fd) (S : FnScope ["self", ar] ["self", ar] scope)
    (hb : ∀ (cdv : Value) (A : Around) (outer : List Env) (s : Shared) (H : Hp) (E : XK), PSs (cxOf CX0 P w K mg base ["self", ar] q scope fI cdv A outer s H E) body (tIni f C)) : FnOk P w K mg base CX0 1 fI fd ["self", ar] (spIni f C) := by
  refine F.ok S (fun vs H Q E ⟨a, v, e, _⟩ => by rw [e]; rfl) fun cdv A outer s H vs Q E _ h => ⟨_, hb cdv A outer s H E, ?_⟩
  obtain ⟨a, v, rfl, ea, q⟩ := h
  exact ⟨a, v, rfl, rfl, ea, q⟩
/-! ### tables -/
theorem tbk_of {p : He.Defn} {k : Nat} {fd : FuncData} {x q qq : Str} {params : Arguments} {body : List Stmt} {scope : Scope} {kws : List (Str × V)} (F : FunD K x q params body scope [] kws (He.fAd K p) fd) (tb : LamX.TabB base mg (He.cT K p).1 (He.cT K p).2) (ek : TB.tabs[k]? = some ((He.cT K p).2, qq)) : Tbk mg base fd.code k qq := by
  obtain ⟨oc, od, dV, kV, doc, pm, an, cdv, ct, osl, rfl, lk, hcd, _, _⟩ := F.ex
  obtain ⟨c, ec⟩ := He.codeIn_ref hcd
  have e1 : He.codeOf K p = c := He.codeOf_eq lk ec
  refine ⟨c, (He.cT K p).2, ec, ?_, ek⟩
  have e2 : (He.cT K p).1 = c := e1
  rw [← e2]
  exact tb
/-- what is known where the law starts: the script a list, the rows at ms; the machine's end -/
def spL (Φ : Cal) (ms : List Addr) (rows : RH) (np : Nat) (b : S) : Sp := fun vs H Q _ => ∃ (a : Addr) (ns : List Int) (h' : RH), vs = [.ref a] ∧ Rd H a (.lst (ns.map V.int)) ∧ RpH ms rows H ∧ a ∉ ms ∧ ex Φ [] b (slots np [.lst (ns.map D.int)]) rows = .ret (.fz (.bl true)) h' ∧ ∀ H', Q (.bl true) H'
theorem Rps.ints {m : List Addr} {H : Hp} : ∀ l : List Int, Rps m H (l.map D.int) (l.map V.int)
  | [] => rfl
  | _ :: r => ⟨_, _, rfl, rfl, Rps.ints r⟩
theorem law_fn {ds : List Def} {x y : Str} {params : Arguments} {body : List Stmt} {scope : Scope} {f : Addr} {fd : FuncData} {N : List Str} {ms : List Addr} {rows : RH} {n : Nat} {b : S} (F : FunD K x x params body scope [] [] f fd) (S : FnScope N [y] scope) (hl : 1 ≤ N.length)
    (hbody : ∀ (cdv : Value) (A : Around) (outer : List Env) (s : Shared) (H H0 : Hp) (m0 : List Addr) (E : XK), Rm (3 * n + 2) (A.deeper (PyProof.Rows.envOfC x scope s.heap.objs.size f cdv)) →
      PSs (cxOf (L2.CX P w) P w K mg base N x scope f cdv A outer s H E) body (ts G (runs ds n) [] (fun c d _ H => E c d H) m0 H0 b) ∧ PSs (cxOf (L2.CX P w) P w K mg base N x scope f cdv A outer s H E) body (ts G (runs ds n) [] (fun c d _ H => E c d H) m0 H0 (.seq (.frz 0) b))) :
    FnG P w K mg base (L2.CX P w) (3 * n + 2 + 1) f fd [y] (spL (runs ds n) ms rows N.length b) := by
  refine fn_at F S (fun vs H Q E ⟨a, _, _, e, _⟩ => by rw [e]; rfl) fun A outer s H vs Q E hr h => ?_
  obtain ⟨a, ns, h', rfl, rd, rh, out, e, q⟩ := h
  obtain ⟨k, hk⟩ : ∃ k, N.length = k + 1 := ⟨N.length - 1, by omega⟩
  rcases rd with own | ⟨o, fz⟩
  · -- a list that nobody locked: the law's own
    let H0 : Hp := fun c => if c = a then none else H c
    have up : ∀ c o, H0 c = some o → H c = some o := fun c o z => by
      have z : (if c = a then none else H c) = some o := z
      by_cases w : c = a
      · rw [if_pos w] at z; cases z
      · rw [if_neg w] at z; exact z
    have bare : ∀ (i : Nat) t, (slots N.length [])[i]? = some t → t.own = true → False := fun i t z o => by
      obtain ⟨d, w, _⟩ := slots_at _ _ i t z (by intro q; subst q; cases o)
      simp at w
    have start0 := SF.start (N := N) rh (show Rps ms H [] [] from rfl) (Nat.zero_le _)
    have start1 : SF ms H0 ms (slots N.length []) rows (L2.start N []) H := ⟨start0.sr, ⟨⟨[], by simp, by simp⟩, fun c o z _ => up c o z⟩, fun i t c z o => (bare i t z o).elim⟩
    have start2 := start1.set (i := 0) (t := mkL (ns.map D.int)) (v := .ref a) (RpT.mk own (Rps.ints ns)) fun _ c z => by
      cases z
      exact ⟨out, if_pos rfl, fun j u _ z o => (bare j u z o).elim⟩
    have sl : (L2.start N []).set 0 (some (V.ref a)) = L2.start N [V.ref a] := by
      show ([].map some ++ List.replicate (N.length - 0) none).set 0 (some (V.ref a)) = [V.ref a].map some ++ List.replicate (N.length - 1) none
      rw [hk]
      rfl
    rw [sl] at start2
    refine ⟨_, (hbody fd.code A outer s H H0 ms E hr).2, ms, _, rows, start2, ?_⟩
    have e2 : ex (runs ds n) [] (.seq (.frz 0) b) (setT (slots N.length []) 0 (mkL (ns.map D.int))) rows = .ret (.fz (.bl true)) h' := by
      rw [← e, hk]
      simp [ex, slots, setT, getT, mkL, RS.nxt, T.d]
    rw [e2]
    intro m' v H' _ _ rt _
    obtain rfl : v = .bl true := rt
    exact q H'
  · have row : Rps ms H [D.lst (ns.map D.int)] [V.ref a] := ⟨_, [], rfl, ⟨a, o, _, rfl, fz, Rps.ints ns⟩, rfl⟩
    refine ⟨_, (hbody fd.code A outer s H H ms E hr).1, ms, slots N.length [.lst (ns.map D.int)], rows, SF.start rh row hl, ?_⟩
    rw [e]
    intro m' v H' _ _ rt _
    obtain rfl : v = .bl true := rt
    exact q H'
/-- empty tables, one behind another -/
theorem tabs_hp {L : List (Addr × Str)} (hL : TB.tabs = L) {H : Hp} (nd : (L.map (·.1)).Nodup) (all : ∀ p ∈ L, H p.1 = some (.tbl #[])) : RpH (L.map (·.1)) ((List.range L.length).map Ob.tab) H := by
  refine ⟨nd, by simp, fun j ob b e1 e2 => ?_⟩
  rw [List.getElem?_map] at e1 e2
  cases r : L[j]? with
  | none => rw [r] at e2; cases e2
  | some p =>
    rw [r] at e2
    obtain rfl : p.1 = b := Option.some.inj e2
    have lt := (List.getElem?_eq_some_iff.mp r).1
    rw [List.getElem?_range lt] at e1
    obtain rfl : Ob.tab j = ob := Option.some.inj e1
    exact ⟨p.2, by rw [hL, r], LamX.TabS.nil (all p (List.mem_of_getElem? r))⟩
theorem law_says {Φ : Cal} {ms : List Addr} {rows : RH} {np : Nat} {b : S} {H : Hp} {a : Addr} {ns : List Int} (nl : noLists K = true) (sq : SqL K H a (ns.map V.int)) (rh : RpH ms rows H) (mt : ∀ c ∈ ms, ∃ ps, H c = some (.tbl ps))
    (law : ∃ h', ex Φ [] b (slots np [.lst (ns.map D.int)]) rows = .ret (.fz (.bl true)) h') : spL Φ ms rows np b [.ref a] H (fun v _ => v = .bl true) fun _ _ _ => False := by
  rcases sq with rd | ⟨o, its, n, e1, e2, _, e3, _⟩
  · obtain ⟨h', e⟩ := law
    refine ⟨a, ns, h', rfl, rd, rh, fun z => ?_, e, fun _ => rfl⟩
    obtain ⟨ps, w⟩ := mt a z
    rcases rd with q | ⟨od, q⟩ <;> (rw [w] at q; cases q)
  · exact (noLists_ok nl e1 e2 e3).elim
end
end Ma
set_option maxHeartbeats 4000000
/-! The end of a law's row for a law whose promise holds where nothing is being shown (repr): it is called from the claim itself. -/
namespace Ma
open PySem PySem.Spec L2 PyProof.Rows LamX
variable [TB]
/-- what is tracked at the start: the tables, and the script where it is no written one -/
def trk0 (ts : List Addr) (a : Addr) (fz : Option HO) : Hp := fun b => if b = a then fz else if b ∈ ts then some (.tbl #[]) else none
section
variable {P : Program} {w : World} {ts : List Addr} {a : Addr} {fz : Option HO} {h : Heap} {items : List Value} {ns : List Int} {b : Addr}
theorem trk0_tab (n : a ∉ ts) (m : b ∈ ts) : trk0 ts a fz b = some (.tbl #[]) := by
  unfold trk0
  rw [if_neg (fun z : b = a => n (z ▸ m)), if_pos m]
theorem trk0_self : trk0 ts a fz a = fz := if_pos rfl
theorem trk0_cases {o : HO} (e : trk0 ts a fz b = some o) : (b = a ∧ fz = some o) ∨ (b ∈ ts ∧ b ≠ a ∧ o = .tbl #[]) := by
  unfold trk0 at e
  by_cases z : b = a
  · rw [if_pos z] at e; exact .inl ⟨z, e⟩
  · rw [if_neg z] at e
    by_cases y : b ∈ ts
    · rw [if_pos y] at e; exact .inr ⟨y, z, (Option.some.inj e).symm⟩
    · rw [if_neg y] at e; cases e
/-- the script's object -/
abbrev scrO (items : List Value) : Obj := { cls := .type "list", data := .seq items.toArray }
/-- the claim calls the law -/
theorem law_run {K : PySem.W.Frag} {mg mb : Str → Option Value} {k : Nat} {fa : Addr} {cs : List (Addr × Addr)} {fd : FuncData} {x : Str} {sp : Sp} {s : Shared}
    (kin : K.In s.heap) (glob : s.heap.Ns mainGlobals mg) (blt : s.heap.Ns builtinsNs mb) (bltn : ∀ y : Str, y ≠ "__name__" → mb y = bootBuiltins y) (lim : s.heap.NoLimit) (gens : s.gens = #[])
    (tabs : ∀ p ∈ cs, s.heap.get? p.2 = some { cls := .none, data := .fields #[] }) (out : ∀ p ∈ cs, K.lookup p.2 = none) (codes : ∀ p ∈ cs, PySem.W.CodeHd s.heap p.1 p.2)
    (main : ∃ (bm : Addr) (ob : Obj), mg "__builtins__" = some (.ref bm) ∧ bm ≠ builtinsNs ∧ s.heap.get? bm = some ob ∧ ob.cls = .type "module" ∧ ob.dict = some builtinsNs ∧ ob.data = .plain)
    (at_ : s.heap.get? a = some (scrO items)) (nums : IntsAre items ns) (short : ns.length ≤ sizeLine) (room : Rm k callerA)
    (F : ∀ base : Heap, K.In base → base.Ns mainGlobals mg → (∀ p ∈ cs, TabB base mg p.1 p.2) → FnG P w K mg base (L2.CX P w) k fa fd [x] sp) (bind : ∀ (s : Shared) (u : Value), BindsTo s fd ⟨[u], []⟩ [(x, u)])
    (says : ∀ H : Hp, (∀ p ∈ cs, H p.2 = some (.tbl #[])) → SqL K H a (ns.map V.int) → sp [.ref a] H (fun v _ => v = .bl true) fun _ _ _ => False) :
    codeAny (model P w) callerA (.call (.ref fa) ⟨[.ref a], []⟩) (fun r s' => r = .ok (.ret (.bool true)) ∧ OldK s.heap s'.heap ∧ s'.os = s.os ∧ AllBare s'.gens) s := by
  have vals := vals_ints nums
  have tsz : ∀ {b}, b ∈ cs.map (·.2) → ∃ p ∈ cs, p.2 = b := fun m => List.mem_map.mp m
  have tab1 : ∀ {b}, b ∈ cs.map (·.2) → s.heap.get? b = some { cls := .none, data := .fields #[] } := fun m => by
    obtain ⟨p, mp, rfl⟩ := tsz m
    exact tabs p mp
  have aout : a ∉ cs.map (·.2) := fun m => by
    have z := tab1 m
    rw [at_] at z
    exact Data.noConfusion (congrArg Obj.data (Option.some.inj z))
  obtain ⟨fz, hfz, sq, free⟩ : ∃ fz : Option HO, (∀ o, fz = some o → o = .frz (scrO items) (.lst (ns.map V.int))) ∧ (∀ H : Hp, H a = fz → SqL K H a (ns.map V.int)) ∧ (fz ≠ none → K.lookup a = none) := by
    cases kl : K.lookup a with
    | none => exact ⟨some _, fun o z => (Option.some.inj z).symm, fun H z => .inl (.inr ⟨_, z⟩), fun _ => rfl⟩
    | some o =>
      obtain rfl : scrO items = o := Option.some.inj (at_.symm.trans (kin a o kl))
      exact ⟨none, (fun o z => nomatch z), fun H _ => .inr ⟨_, items.toArray, _, kl, rfl, rfl, rfl, by rw [List.size_toArray, nums.length]; exact short, by simpa using vals⟩, fun z => absurd rfl z⟩
  let H : Hp := trk0 (cs.map (·.2)) a fz
  have htab : ∀ p ∈ cs, H p.2 = some (.tbl #[]) := fun p mp => trk0_tab aout (List.mem_map_of_mem mp)
  -- what is tracked is the script or a table; all else is the base's
  have hid : ∀ {b : Addr} {o : Obj}, s.heap.get? b = some o → (∀ xs n, o.data ≠ .seq xs n) → o.data ≠ .fields #[] → H b = none := fun {b o} e n1 n2 => by
    cases q : H b with
    | none => rfl
    | some u =>
      rcases trk0_cases q with ⟨rfl, _⟩ | ⟨m, _, _⟩
      · rw [at_] at e; cases e; exact absurd rfl (n1 _ _)
      · rw [tab1 m] at e; cases e; exact absurd rfl n2
  have low : ∀ {b : Addr} {o : Obj}, s.heap.get? b = some o → (∀ xs n, o.data ≠ .seq xs n) → o.data ≠ .fields #[] → (hidT s.heap H).get? b = some o := fun e n1 n2 => hidT_get e (hid e n1 n2)
  have dic : ∀ {b : Addr} {m : Str → Option Value}, s.heap.Ns b m → (hidT s.heap H).Ns b m := fun ⟨o, es, ep, e, d, r⟩ => ⟨o, es, ep, low e (fun _ _ z => by rw [d] at z; cases z) (fun z => by rw [d] at z; cases z), d, r⟩
  have kinb : K.In (hidT s.heap H) := fun b o e => hidT_get (kin b o e) (by
    cases q : H b with
    | none => rfl
    | some u =>
      exfalso
      rcases trk0_cases q with ⟨rfl, z⟩ | ⟨m, _, _⟩
      · rw [free (by rw [z]; exact fun y => nomatch y)] at e; cases e
      · obtain ⟨p, mp, rfl⟩ := tsz m
        rw [out p mp] at e; cases e)
  have mods : L2.Mod K mg (hidT s.heap H) := ⟨kinb, dic glob, ⟨mb, dic blt, bltn⟩, by obtain ⟨mc, l1, l2⟩ := lim; exact ⟨mc, dic l1, l2⟩⟩
  have tb : ∀ p ∈ cs, TabB (hidT s.heap H) mg p.1 p.2 := fun p mp => by
    refine ⟨?_, ?_, fun z => ?_⟩
    · obtain ⟨o, us, file, tf, flags, tg, inF, text, tt, e1, r1, r2, r3, rest⟩ := codes p mp
      exact ⟨o, us, file, tf, flags, tg, inF, text, tt, low e1 (fun _ _ z => by rw [r2] at z; cases z) (fun z => by rw [r2] at z; cases z; simp at r3), r1, r2, r3, rest⟩
    · obtain ⟨bm, ob, c1, c2, c3, c4, c5, c6⟩ := main
      refine ⟨bm, ob, c1, c2, fun z => ?_, fun z => ?_, low c3 (fun _ _ z => by rw [c6] at z; cases z) (fun z => by rw [c6] at z; cases z), c4, c5, c6⟩
      · obtain ⟨o, es, ep, e, d, _⟩ := glob
        rw [z, e] at c3; cases c3
        rw [d] at c6; cases c6
      · rw [z, tabs p mp] at c3; cases c3
        cases c6
    · obtain ⟨o, es, ep, e, d, _⟩ := glob
      rw [z, tabs p mp] at e; cases e
      cases d
  have good : HOk P w H s.heap := fun b u q => by
    rcases trk0_cases q with ⟨rfl, z⟩ | ⟨m, _, rfl⟩
    · obtain rfl := hfz u z
      exact ⟨at_, by rw [List.length_map]; exact short, items, _, vals, at_⟩
    · exact tab1 m
  have env : Env0 P w K mg (hidT s.heap H) callerA [] s H := ⟨rfl, mods, fun b o e => of_hidT e, Nat.le_of_eq (hidT_size _ _), trivial, nofun, good, .of_eq gens⟩
  have run := (F _ kinb (dic glob) tb).run callerA [] s H ⟨[.ref a], []⟩ [.ref a] [.ref a] _ _ room env (bind s (.ref a)) (.cons rfl .nil) (says H htab (sq H trk0_self))
  refine codeAny_mono run fun r s2 q => ?_
  obtain ⟨u, rfl⟩ : ∃ u, r = .ok (.ret u) := by
    match r, q with
    | .error e, q => obtain ⟨_, _, _, _, _, _, _, _, _, _, _, _, z⟩ := q; exact z.elim
    | .ok (.ret u), _ => exact ⟨u, rfl⟩
    | .ok .next, q => exact False.elim q
    | .ok .brk, q => exact False.elim q
    | .ok .cont, q => exact False.elim q
  obtain ⟨v, H2, os, bare, un, good2, rv, rfl⟩ := q
  obtain rfl : u = Value.bool true := rv
  have stay : ∀ b o, b ∉ cs.map (·.2) → s.heap.get? b = some o → s2.heap.get? b = some o := fun b o nb e => by
    cases q : H b with
    | none => exact un.keep b o e q nofun nofun
    | some u =>
      rcases trk0_cases q with ⟨rfl, z⟩ | ⟨m, _, _⟩
      · obtain rfl := hfz u z
        have := (good2 _ _ (un.frzs _ _ _ q)).1
        rw [at_] at e; cases e
        exact this
      · exact absurd m nb
  have more : ∀ p ∈ cs, ∃ us : Array Value, s2.heap.get? p.2 = some { cls := .none, data := .fields us } := fun p mp => by
    obtain ⟨us, z⟩ := un.tbls p.2 #[] (htab p mp)
    exact ⟨_, good2 p.2 _ z⟩
  refine ⟨rfl, ⟨fun b o e => ?_, fun b o e => ?_⟩, os, bare⟩
  · by_cases m : b ∈ cs.map (·.2)
    · obtain ⟨p, mp, rfl⟩ := tsz m
      obtain ⟨us, z⟩ := more p mp
      obtain rfl := Option.some.inj ((tabs p mp).symm.trans e)
      exact .inr (.inl ⟨((codes p mp).tab (tabs p mp)).isCodeTable, rfl, #[], us, rfl, by rw [Array.empty_append]; exact z⟩)
    · exact .inl (stay b o m e)
  · by_cases m : b ∈ cs.map (·.2)
    · obtain ⟨p, mp, rfl⟩ := tsz m
      obtain ⟨us, z⟩ := more p mp
      exact ⟨_, z⟩
    · exact ⟨o, stay b o m e⟩
end
/-- what is known of the law's promise at the head's heap -/
def LawG (l : PySem.W.OpenLaw) (w : World) (K : PySem.W.Frag) (k n : Nat) (x : Str) (mg : Str → Option Value) (fa : Addr) (h : Heap) : Prop :=
  ∃ (fd : FuncData) (cs : List (Addr × Addr)) (sp : Sp), (∀ p ∈ cs, h.get? p.2 = some { cls := .none, data := .fields #[] }) ∧ (∀ p ∈ cs, K.lookup p.2 = none) ∧ (∀ p ∈ cs, PySem.W.CodeHd h p.1 p.2) ∧ (∀ (s : Shared) (u : Value), BindsTo s fd ⟨[u], []⟩ [(x, u)]) ∧
    (∀ (H : Hp) (a : Addr) (ns : List Int), ns.length ≤ n → (∀ z ∈ ns, Builtin.Int.intBits z ≤ 1048576) → (∀ p ∈ cs, H p.2 = some (.tbl #[])) → SqL K H a (ns.map V.int) → sp [.ref a] H (fun v _ => v = .bl true) fun _ _ _ => False) ∧
    ∀ base : Heap, K.In base → base.Ns mainGlobals mg → (∀ p ∈ cs, TabB base mg p.1 p.2) → FnG l.prog w K mg base (L2.CX l.prog w) k fa fd [x] sp
theorem walk_G {l : PySem.W.OpenLaw} {n k : Nat} {q : Program} {loose : List Str} {XP : (Str → Option Value) → Heap → Prop} {YP : World → Heap → Prop} {d : DefRec} {x : Str}
    (hn : l.most = some n) (hn2 : n ≤ sizeLine) (hdf : d.params.defaults = []) (room : Rm k callerA)
    (F : ∀ (w : World) (mg : Str → Option Value) (fa : Addr) (h : Heap), YP w h → h.Ns mainGlobals mg → mg d.name = some (.ref fa) → ∃ K : PySem.W.Frag, K.In h ∧ LawG l w K k n x mg fa h) :
    PySem.W.WalkO q loose XP YP l.row.toRowW d [] (fun f vs => PySem.call f vs) := by
  refine Att.attach_callB hn hdf fun w s₀ s₁ mg mb fa o pm cd doc a vs ns G Y _ _ _ hmg hobj hints hlen hbits hg => ?_
  obtain ⟨K, KX, fd, cs, sp, t1, t2, t3, b, says, fn⟩ := F w mg fa _ Y G.T.g hmg
  exact law_run KX G.T.g G.T.b G.T.builtins G.T.nolimit hg t1 t2 t3 G.T.bmain hobj hints (Nat.le_trans hlen hn2) room fn b fun H h1 h2 => says H a ns hlen hbits h1 h2
end Ma
set_option maxHeartbeats 4000000
/-! zip(a, b), walked. -/
namespace Ma
open PySem PySem.Spec L2
variable [TB]
section
variable {X : Cx} {G : GC} {Φ : Cal} {x : List Ma.D} {W : WX}
/-- items of two rows side by side, each two in a new pair -/
def ItZ (k1 k2 : Bool) (a b : Addr) : It where
  go i H := ∃ xs ys, Row k1 H a xs ∧ Row k2 H b ys ∧ i < xs.length ∧ i < ys.length
  yld i H v H' := ∃ xs ys u w p, Row k1 H a xs ∧ Row k2 H b ys ∧ xs[i]? = some u ∧ ys[i]? = some w ∧ H p = none ∧ v = .ref p ∧ H' = upd H p (.tup [u, w])
  stop i H := ∃ xs ys, Row k1 H a xs ∧ Row k2 H b ys ∧ min xs.length ys.length = i
theorem turn_side {P : Program} {w : World} {K : PySem.W.Frag} {elts : List Expr} {kk : Nat} {tpos : Pos} (k1 k2 : Bool) {a b z TI TO i1 i2 : Addr} (S : ZipSep2 z TI TO i1 i2 [i1, a] [i2, b]) :
    Turn P w K (.Tuple elts kk tpos) (ItZ k1 k2 a b) [z, TI, TO, i1, i2] z (fun i h => IsZip h z TI TO .none ∧ IsTupOf2 h TI (.ref i1) (.ref i2) ∧ (∃ x y, IsTupOf2 h TO x y) ∧ Sits k1 h i1 a i ∧ Sits k2 h i2 b i) where
  mem := List.mem_cons_self ..
  obj := fun i h ⟨hz, hi, ⟨_, _, ho⟩, s1, s2⟩ c hc => by
    simp only [List.mem_cons, List.not_mem_nil, or_false] at hc
    rcases hc with rfl | rfl | rfl | rfl | rfl
    · exact ⟨_, hz, nofun⟩
    · exact ⟨_, hi, nofun⟩
    · exact ⟨_, ho, nofun⟩
    · exact s1.obj
    · exact s2.obj
  keep := fun i h h' ⟨hz, hi, ⟨u, v, ho⟩, s1, s2⟩ st => ⟨st z (by simp) _ hz, st TI (by simp) _ hi, ⟨u, v, st TO (by simp) _ ho⟩, s1.at_ (st i1 (by simp)), s2.at_ (st i2 (by simp))⟩
  item := by
    rintro X rfl rfl rfl calm i pins s σ H E I fp ⟨hz, hi, ho, s1, s2⟩ ⟨xs, ys, r1, r2, l1, l2⟩
    have ai : a ≠ i1 := fun q => r1.some (by rw [q]; exact (fp i1 (by simp)).1)
    have bi : b ≠ i2 := fun q => r2.some (by rw [q]; exact (fp i2 (by simp)).1)
    obtain ⟨its1, Sd1, rv1, dr1, to1, fro1⟩ := row_draws I r1 ai
    obtain ⟨its2, Sd2, rv2, dr2, to2, fro2⟩ := row_draws I r2 bi
    have len1 := rv1.length
    have len2 := rv2.length
    have tw := WalksT.zipD2 S (dr1 X.A.in1 (I.ok.hd calm)) (dr2 X.A.in1 (I.ok.hd calm))
    have sub : ∀ {c}, c ∉ [z, TI, TO, i1, i2] → c ∉ [z, TO, i1, i2] := fun n m => n (by
      simp only [List.mem_cons, List.not_mem_nil, or_false] at m ⊢
      rcases m with q | q | q | q <;> simp [q])
    refine tw.item i s _ E (by simp; omega) ⟨hz, hi, ho, to1 i s1, to2 i s2⟩ fun p vals h1 tk ⟨t1, t2, e1, e2, ev⟩ new tup mid kept => ?_
    refine ⟨_, rfl, tw.go elts kk tpos i p { s with heap := h1, toks := tk } _ E mid fun h2 st2 kept2 => ?_⟩
    have far := tw.apart i p h1 mid
    obtain ⟨v1, ev1⟩ : ∃ v, xs[i]? = some v := ⟨xs[i], List.getElem?_eq_getElem l1⟩
    obtain ⟨v2, ev2⟩ : ∃ v, ys[i]? = some v := ⟨ys[i], List.getElem?_eq_getElem l2⟩
    obtain ⟨u1, eu1, ru1⟩ := rv1.get ev1
    obtain ⟨u2, eu2, ru2⟩ := rv2.get ev2
    obtain rfl : u1 = t1 := by have q : its1[i]? = some t1 := by simpa using e1
                               rw [eu1] at q; cases q; rfl
    obtain rfl : u2 = t2 := by have q : its2[i]? = some t2 := by simpa using e2
                               rw [eu2] at q; cases q; rfl
    have nw : ObjOk X.prog X.w (upd H p (.tup [v1, v2])) h2 p (.tup [v1, v2]) := by
      obtain ⟨o, hp, r⟩ := tup
      exact ⟨by show 2 ≤ sizeLine; decide, [u1, u2], .cons ru1 (.cons ru2 .nil), ⟨o, kept2 p o far hp, by rw [ev] at r; exact r⟩⟩
    have I2 := I.turnedNew (t' := tk) (ch := [z, TI, TO, i1, i2]) (fun c o hc q => kept2 c o (sub hc) (kept c o (sub hc) q)) fp new nw
    refine ⟨.ref p, _, I2, rfl, ⟨xs, ys, v1, v2, p, r1, r2, ev1, ev2, I.hok.fresh new, rfl, rfl⟩, ⟨st2.1, st2.2.1, st2.2.2.1, fro1 _ _ st2.2.2.2.1, fro2 _ _ st2.2.2.2.2⟩, fun c hc => ?_⟩
    have old : c < s.heap.objs.size := by
      obtain ⟨_, _, ho⟩ := ho
      simp only [List.mem_cons, List.not_mem_nil, or_false] at hc
      rcases hc with rfl | rfl | rfl | rfl | rfl
      · exact Heap.lt_size hz
      · exact Heap.lt_size hi
      · exact Heap.lt_size ho
      · obtain ⟨o, q, _⟩ := s1.obj; exact Heap.lt_size q
      · obtain ⟨o, q, _⟩ := s2.obj; exact Heap.lt_size q
    rw [upd_ne (Nat.ne_of_lt (Nat.lt_of_lt_of_le old new))]
    exact (fp c hc).1
  done := by
    rintro X rfl rfl rfl calm i pins s σ H E I fp ⟨hz, hi, ho, s1, s2⟩ ⟨xs, ys, r1, r2, en⟩
    have ai : a ≠ i1 := fun q => r1.some (by rw [q]; exact (fp i1 (by simp)).1)
    have bi : b ≠ i2 := fun q => r2.some (by rw [q]; exact (fp i2 (by simp)).1)
    obtain ⟨its1, Sd1, rv1, dr1, to1, fro1⟩ := row_draws I r1 ai
    obtain ⟨its2, Sd2, rv2, dr2, to2, fro2⟩ := row_draws I r2 bi
    have len1 := rv1.length
    have len2 := rv2.length
    have n : min its1.toArray.size its2.toArray.size = i := by simp; omega
    have tw := WalksT.zipD2 S (dr1 X.A.in1 (I.ok.hd calm)) (dr2 X.A.in1 (I.ok.hd calm))
    have sub : ∀ {c}, c ∉ [z, TI, TO, i1, i2] → c ∉ [z, TO, i1, i2] := fun n m => n (by
      simp only [List.mem_cons, List.not_mem_nil, or_false] at m ⊢
      rcases m with q | q | q | q <;> simp [q])
    refine tw.done s _ E (by rw [n]; exact ⟨hz, hi, ho, to1 i s1, to2 i s2⟩) fun h' tk kept => ⟨rfl, I.turnedL (t' := tk) (ch := [z, TI, TO, i1, i2]) (fun c o hc q => kept c o (sub hc) q) fp⟩
  self := fun A i s Q E ⟨hz, _⟩ q => wpAny_pyIter_zip hz q
theorem row_begins {k : Bool} {pins : List (Addr × Obj)} {σ : L2.St} {H : Hp} {s : Shared} {a : Addr} {xs : List V} (I : Inv X pins σ H s) (r : Row k H a xs) : ∃ (o : Obj) (Hh : Heap → Prop), Begins (.ref a) o Hh ∧ Hh s.heap ∧ a < s.heap.objs.size ∧ ∀ h' it, h'.get? it = some o → Sits k h' it a 0 := by
  cases k with
  | true =>
    obtain ⟨its, _, tu, _⟩ := I.tuple (.of r)
    obtain ⟨ob, at_, _⟩ := id tu
    exact ⟨_, _, PySem.begins_tuple a its.toArray, tu, Heap.lt_size at_, fun h' it e => ⟨_, e, rfl, rfl⟩⟩
  | false =>
    obtain ⟨o, lk⟩ := r
    obtain ⟨its, _, pl, _⟩ := I.list (.inl (.inr ⟨o, lk⟩))
    exact ⟨_, _, PySem.begins_list a its.toArray, pl.isList, pl.lt, fun h' it e => ⟨_, e, rfl, rfl⟩⟩
theorem apart5 (n a b : Nat) (la : a < n) (lb : b < n) : ZipSep2 (n + 4) (n + 2) (n + 3) n (n + 1) [n, a] [n + 1, b] := by
  constructor
  all_goals (try simp only [List.mem_cons, List.not_mem_nil, or_false, ne_eq, not_or])
  all_goals first | exact Or.inl rfl | exact Or.inl trivial | exact Nat.ne_of_lt (by omega) | exact Nat.ne_of_gt (by omega) | (refine ⟨?_, ?_⟩ <;> first | exact Nat.ne_of_lt (by omega) | exact Nat.ne_of_gt (by omega))
/-- zip(e1, e2) -/
theorem pi_side {e1 e2 : Expr} {ta : TA} {p pos tpos : Pos} {elts : List Expr} {kk : Nat} (gl : Gl X "zip") (own : X.mg "zip" = none) (rows : PA X [e1, e2] ta) (star : starEach [e1, e2] X.env = (false, eval e1 X.env) :: starEach [e2] X.env := by rfl) (plain : (backTo pos (starEach [e2] X.env)).any (·.1) = false := by rfl) :
    PI X (.Tuple elts kk tpos) (.Call (.Name "zip" p) [e1, e2] [] pos) (fun σ H R => ta σ H fun vs H1 => ∃ k1 k2 a b xs ys, vs = [.ref a, .ref b] ∧ Row k1 H1 a xs ∧ Row k2 H1 b ys ∧ R (ItZ k1 k2 a b) H1) := by
  constructor
  intro pins s σ H R I go
  refine PyProof.Rows.Call_ (ld_blt I gl own PyProof.Rows.boot_zip (PyProof.Rows.callWith_type1 (thn (rows.run pos pins s σ H _ I go) ?_) star plain))
  rintro us s1 ⟨vs, H1, I1, rv, k1, k2, a, b, xs, ys, rfl, r1, r2, q⟩
  obtain ⟨u1, u2, rfl, ra, rb⟩ : ∃ u1 u2, us = [u1, u2] ∧ RelV (.ref a) u1 ∧ RelV (.ref b) u2 := by
    cases rv with
    | cons x r => cases r with
      | cons y r => cases r; exact ⟨_, _, rfl, x, y⟩
  cases ra
  cases rb
  obtain ⟨o1, h1, b1, here1, la, at1⟩ := row_begins I1 r1
  obtain ⟨o2, h2, b2, here2, lb, at2⟩ := row_begins I1 r2
  refine zip_begins2 b1 b2 here1 here2 fun h' rc ti tw g1 g2 size keep => wpAny_pyIter_zip rc ?_
  refine ⟨s1.heap.objs.size + 4, [s1.heap.objs.size + 4, s1.heap.objs.size + 2, s1.heap.objs.size + 3, s1.heap.objs.size, s1.heap.objs.size + 1], _, ItZ k1 k2 a b, H1, rfl, I1.kept (t' := s1.toks) keep, turn_side k1 k2 (apart5 _ _ _ la lb), ⟨rc, ti, ⟨_, _, tw⟩, at1 _ _ g1, at2 _ _ g2⟩, fun c hc => ?_, q⟩
  have le : s1.heap.objs.size ≤ c := by
    simp only [List.mem_cons, List.not_mem_nil, or_false] at hc
    rcases hc with z | z | z | z | z <;> rw [z] <;> first | exact Nat.le_add_right _ _ | exact Nat.le_refl _
  exact I1.fpOk le (I1.hok.fresh le)
theorem zipD_get : ∀ (xs ys : List Ma.D) (i : Nat), (zipD xs ys)[i]? = match xs[i]?, ys[i]? with
    | some u, some w => some (.tup [u, w])
    | _, _ => none
  | [], ys, i => by simp [zipD]
  | x :: xs, [], i => by cases h : (x :: xs)[i]? <;> simp [zipD]
  | x :: xs, y :: ys, 0 => by simp [zipD]
  | x :: xs, y :: ys, i + 1 => by
    rw [zipD, List.getElem?_cons_succ, List.getElem?_cons_succ, List.getElem?_cons_succ]
    exact zipD_get xs ys i
theorem zipD_len : ∀ (xs ys : List Ma.D), (zipD xs ys).length = min xs.length ys.length
  | [], ys => by simp [zipD]
  | x :: xs, [] => by simp [zipD]
  | x :: xs, y :: ys => by rw [zipD, List.length_cons, List.length_cons, List.length_cons, zipD_len xs ys]; omega
theorem wk_side {S : List Addr → Hp → Prop} {ds es : List Ma.D} {k1 k2 : Bool} {a b : Addr} (st : ∀ m2 h2 H2, S m2 H2 → RpH m2 h2 H2 → ∃ vs ws, Row k1 H2 a vs ∧ Row k2 H2 b ws ∧ Rps m2 H2 ds vs ∧ Rps m2 H2 es ws) : Wk S (zipD ds es) (ItZ k1 k2 a b) := by
  intro m2 h2 H2 here rh
  obtain ⟨vs, ws, r1, r2, q1, q2⟩ := st m2 h2 H2 here rh
  have len1 := Rps.len q1
  have len2 := Rps.len q2
  refine ⟨fun i d at_ => ?_, vs, ws, r1, r2, by rw [zipD_len, len1, len2]⟩
  rw [zipD_get] at at_
  cases eu : ds[i]? with
  | none => rw [eu] at at_; cases at_
  | some u =>
    cases ew : es[i]? with
    | none => rw [eu, ew] at at_; cases at_
    | some w =>
      rw [eu, ew] at at_
      cases at_
      obtain ⟨v1, ev1, rv1⟩ := q1.get eu
      obtain ⟨v2, ev2, rv2⟩ := q2.get ew
      refine ⟨⟨vs, ws, r1, r2, (List.getElem?_eq_some_iff.mp ev1).1, (List.getElem?_eq_some_iff.mp ev2).1⟩, ?_⟩
      rintro z H3 ⟨xs, ys, a1, a2, p, s1, s2, x1, x2, new, rfl, rfl⟩
      cases r1.one s1
      cases r2.one s2
      rw [ev1] at x1
      rw [ev2] at x2
      cases x1
      cases x2
      exact ⟨ex_new new, rh.new new, p, _, rfl, upd_same, v1, [v2], rfl, Rp.per ((ex_new new).per rh) _ _ rv1, v2, [], rfl, Rp.per ((ex_new new).per rh) _ _ rv2, rfl⟩
/-- zip(e1, e2), walked -/
theorem sw_zip {y1 y2 : Expr} {a b : E} {p pos tpos : Pos} {elts : List Expr} {kk : Nat} (n1 : isVr a = false) (n2 : isVr b = false) (gl : Gl X "zip") (own : X.mg "zip" = none) (ha : PE X y1 (te G Φ x W a)) (hb : PE X y2 (te G Φ x W b))
    (s1 : starEach [y1, y2] X.env = (false, eval y1 X.env) :: starEach [y2] X.env := by rfl) (s2 : starEach [y2] X.env = (false, eval y2 X.env) :: starEach [] X.env := by rfl) (plain : (backTo pos (starEach [y2] X.env)).any (·.1) = false := by rfl) :
    PI X (.Tuple elts kk tpos) (.Call (.Name "zip" p) [y1, y2] [] pos) (tW G Φ x W (.zip false a b)) := by
  refine ⟨fun pins s σ H R I ⟨m, sl, h, r, q⟩ => (pi_side gl own (pa_cons (pe_frz ha) (pa_cons (pe_frz hb) pa_nil s2) s1) s1 plain).run pins s σ H R I ?_⟩
  rw [ev, rdv_eq n1] at q
  refine ⟨m, sl, h, r, ?_⟩
  cases e : ev Φ x a sl h with
  | bad w => rw [e] at q; exact q
  | exc c xs h' => rw [e] at q; exact q
  | ok t h1 =>
    rw [e] at q
    cases ei : items t with
    | none => simp only [RE.its, RE.bind, ei] at q
    | some ds =>
      simp only [RE.its, RE.bind, ei, rdv_eq n2] at q
      intro m1 v H1 y1 rh1 rt1 ow1
      refine row_of y1 rh1 rt1 ow1 ei fun k1 b1 vs H1 ev1 y1 rh1 row1 rb1 => ?_
      refine ⟨m1, sl, h1, r.stay y1 rh1, ?_⟩
      cases e2 : ev Φ x b sl h1 with
      | bad w => rw [e2] at q; exact q
      | exc c xs h' => rw [e2] at q; exact fun m' H' cls d z => q m' H' cls d (y1.comp rh1 z)
      | ok t2 h2 =>
        rw [e2] at q
        cases ej : items t2 with
        | none => simp only [ej] at q
        | some es =>
          simp only [ej, Bool.false_and, Bool.false_eq_true, if_false] at q
          obtain ⟨_, es_, q⟩ := q
          cases es_
          intro m2 w H2 y2 rh2 rt2 ow2
          refine row_of y2 rh2 rt2 ow2 ej fun k2 b2 ws H2 ev2 y2 rh2 row2 rb2 => ?_
          have p12 := y2.per rh1
          exact ⟨k1, k2, b1, b2, vs, ws, by rw [ev1, ev2], row1.per p12, row2, q m2 H2 _ (y1.comp rh1 y2) rh2 (wk_side fun m3 h3 H3 p3 _ => ⟨vs, ws, (row1.per p12).per p3, row2.per p3, Rps.per (p12.trans p3) _ _ rb1, Rps.per p3 _ _ rb2⟩)⟩
end
end Ma
set_option maxHeartbeats 4000000
/-! repr of data. -/
namespace Ma
open PySem PySem.Spec L2
variable [TB]
mutual
theorem shw_deep : ∀ (d : Ma.D) (n : Nat), shwN n d = true → (pyD d).depth ≤ n
  | .non, n, _ => by simp [pyD, PyData.depth]
  | .bl _, n, _ => by simp [pyD, PyData.depth]
  | .int _, n, _ => by simp [pyD, PyData.depth]
  | .str s, n, _ => by simp [pyD, PyData.depth]
  | .tup _, 0, h => nomatch h
  | .tup xs, n + 1, h => by
    have := shws_deep xs n h
    simp [pyD, PyData.depth]; omega
  | .lst _, n, h => by cases n <;> exact nomatch h
  | .dct [], n + 1, _ => by simp [pyD, PyData.depth, PyData.depthKv]
  | .dct [], 0, h => nomatch h
  | .dct (_ :: _), n, h => by cases n <;> exact nomatch h
  | .kst _, n, h => by cases n <;> exact nomatch h
  | .ref _, n, h => by cases n <;> exact nomatch h
  | .clo _ _, n, h => by cases n <;> exact nomatch h
theorem shws_deep : ∀ (ds : List Ma.D) (n : Nat), shwsN n ds = true → PyData.depthAll (pyDs ds) ≤ n
  | [], n, _ => by simp [pyDs, PyData.depthAll]
  | d :: r, n, h => by
    have e2 : shwsN n (d :: r) = (shwN n d && shwsN n r) := by cases n <;> rfl
    rw [e2, Bool.and_eq_true] at h
    have h1 := shw_deep d n h.1
    have h2 := shws_deep r n h.2
    simp [pyDs, PyData.depthAll]; omega
end
section
variable {X : Cx} {pins : List (Addr × Obj)} {σ : L2.St} {H : Hp} {s : Shared} {m : List Addr}
theorem empty_dict (I : L2.Inv X pins σ H s) {a : Addr} (rd : Rd H a (.dK [])) : Reads s.heap (.ref a) (.dict []) [a] ∧ sysModules ∉ [a] := by
  obtain ⟨_, ns, vs, kv, ob, es, ep, eo, ex, ed, _, prs, _⟩ := dk_rd I.hok rd
  cases kv
  have none_ : es.toList = [] := by
    generalize es.toList = l at prs
    cases prs
    rfl
  refine ⟨.dict (as := []) (bs := []) (kvs := []) eo ex.1 ed (by rw [none_]; exact .nil) (by rw [none_]; exact .nil), fun z => ?_⟩
  rw [List.mem_singleton.mp z] at ns
  simp at ns
mutual
theorem rds (I : L2.Inv X pins σ H s) : ∀ (d : Ma.D) (n : Nat) (v : V) (u : Value), shwN n d = true → Rp m H d v → RelV v u → ∃ as, Reads s.heap u (pyD d) as ∧ sysModules ∉ as
  | .non, _, _, _, _, h, r => by
    obtain rfl := (show _ = V.non from h)
    cases r
    exact ⟨_, .none, nofun⟩
  | .bl b, _, _, _, _, h, r => by
    obtain rfl := (show _ = V.bl b from h)
    cases r
    exact ⟨_, .bool b, nofun⟩
  | .int i, _, _, _, _, h, r => by
    obtain rfl := (show _ = V.int i from h)
    obtain ⟨t, rfl⟩ := r
    exact ⟨_, .int i t, nofun⟩
  | .str x, _, _, _, _, ⟨y, e, q⟩, r => by
    subst e
    obtain ⟨t, rfl⟩ := r
    rw [pyD, ← str_eta q]
    exact ⟨_, .str y t, nofun⟩
  | .tup _, 0, _, _, h, _, _ => nomatch h
  | .tup xs, n + 1, _, _, h, ⟨a, vs, e, ea, rs⟩, r => by
    subst e
    obtain rfl := (show _ = Value.ref a from r)
    obtain ⟨its, rv, ⟨o, eo, ec, k, ed⟩, _⟩ := I.tuple (.of ea)
    obtain ⟨as, q, ns⟩ := rdss I xs n vs its h rs rv
    exact ⟨as, .tuple eo ec ed q, ns⟩
  | .lst _, n, _, _, h, _, _ => by cases n <;> exact nomatch h
  | .dct [], 0, _, _, h, _, _ => nomatch h
  | .dct [], n + 1, _, _, _, ⟨a, o, ws, e, ea, rk⟩, r => by
    subst e
    obtain rfl := (show ws = [] from rk)
    obtain rfl := (show _ = Value.ref a from r)
    exact ⟨[a], empty_dict I (.inr ⟨o, ea⟩)⟩
  | .dct (_ :: _), n, _, _, h, _, _ => by cases n <;> exact nomatch h
  | .kst _, n, _, _, h, _, _ => by cases n <;> exact nomatch h
  | .ref _, n, _, _, h, _, _ => by cases n <;> exact nomatch h
  | .clo _ _, n, _, _, h, _, _ => by cases n <;> exact nomatch h
theorem rdss (I : L2.Inv X pins σ H s) : ∀ (ds : List Ma.D) (n : Nat) (vs : List V) (us : List Value), shwsN n ds = true → Rps m H ds vs → Vals vs us → ∃ as, ReadsAll s.heap us (pyDs ds) as ∧ sysModules ∉ as
  | [], _, _, _, _, r, rv => by
    obtain rfl := (show _ = [] from r)
    cases rv
    exact ⟨_, .nil, nofun⟩
  | d :: ds, n, _, _, h, ⟨v, r, e, r1, r2⟩, rv => by
    subst e
    have e2 : shwsN n (d :: ds) = (shwN n d && shwsN n ds) := by cases n <;> rfl
    rw [e2, Bool.and_eq_true] at h
    cases rv with
    | cons x y =>
      obtain ⟨as, q1, n1⟩ := rds I d n v _ h.1 r1 x
      obtain ⟨bs, q2, n2⟩ := rdss I ds n _ _ h.2 r2 y
      exact ⟨_, .cons q1 q2, fun z => (List.mem_append.mp z).elim n1 n2⟩
end
/-- .. of a row that is read alone, too -/
theorem rdsR (I : L2.Inv X pins σ H s) {d : Ma.D} {v : V} {u : Value} (h : (flat d || shwN 60 d) = true) (r : RpR m H d v) (rv : RelV v u) : (pyD d).depth ≤ 60 ∧ ∃ as, Reads s.heap u (pyD d) as ∧ ((pyD d).hasDict = true → sysModules ∉ as) := by
  rcases (Bool.or_eq_true _ _).mp h with f | f
  · obtain ⟨as, q⟩ := Dp.reads I _ _ _ (RpR.dp (K := X.K) f r) rv
    obtain ⟨can, deep⟩ := can_flat d 60 f
    exact ⟨deep, as, q, PyData.noDict_hsm (PyData.hasDict_of_canLay _ can)⟩
  · refine ⟨shw_deep d 60 f, ?_⟩
    have go : Rp m H d v → ∃ as, Reads s.heap u (pyD d) as ∧ ((pyD d).hasDict = true → sysModules ∉ as) := fun r => by
      obtain ⟨as, q, ns⟩ := rds I d 60 v u f r rv
      exact ⟨as, q, fun _ => ns⟩
    cases d with
    | dct ks =>
      cases ks with
      | cons _ _ => exact nomatch f
      | nil =>
        obtain ⟨a, ws, e, ea, rk⟩ := r
        subst e
        obtain rfl := (show ws = [] from rk)
        obtain rfl := (show _ = Value.ref a from rv)
        obtain ⟨q, ns⟩ := empty_dict I ea
        exact ⟨[a], q, fun _ => ns⟩
    | lst _ => exact nomatch f
    | kst _ => exact nomatch f
    | ref _ => exact nomatch f
    | clo _ _ => exact nomatch f
    | non => exact go r
    | bl _ => exact go r
    | int _ => exact go r
    | str _ => exact go r
    | tup _ => exact go r
end
section
variable {X : Cx}
theorem bRepr_ok {t t' : T} (e : bRepr t = some t') : (flat t.d || shwN 60 t.d) = true ∧ (pyD t.d).showable = true ∧ (pyD t.d).shown.length ≤ sizeLine ∧ t' = .fz (.str (txt t.d)) := by
  unfold bRepr at e
  split at e
  · rename_i ok
    simp only [okTxt, Bool.and_eq_true, Nat.ble_eq] at ok
    refine ⟨ok.1, ok.2.1, ?_, (Option.some.inj e).symm⟩
    have := ok.2.2
    rw [sizeLine_eq]
    simpa [txt, Str.length] using this
  · cases e
theorem ca_repr (hg : X.A.guards = some []) (hu : X.A.units + 100 < cLine) : CaM X (.builtin "repr") (b1 .repr) := by
  intro pins s σ H vs us Q I rv ⟨m, h, t, t', v, e, rh, rt, e2, p⟩
  subst e
  obtain ⟨u, rfl, ru⟩ := vals1 rv
  obtain ⟨fl, sh, sz, rfl⟩ := bRepr_ok (show bRepr t = some t' from e2)
  obtain ⟨dep, as, rd, sys⟩ := rdsR I fl rt.rd ru
  have fin : Q (.str (pyD t.d).shown) H := p.fz rh ⟨_, rfl, rfl⟩
  have onRef : ∀ a, u = .ref a → wpAny (model X.prog X.w) X.A (call (.builtin "repr") [u]) (EP X pins σ Q) X.xe s := fun a eu => by
    subst eu
    exact repr_of_reads' rd sh sys hg (by omega) (fun _ _ z => z) (fun h' _ tk k => ⟨.str _, H, I.kept k, ⟨_, rfl⟩, fin⟩) sz
  have rr := rt.rd
  cases ht : t.d with
  | non =>
    rw [ht] at rr fin
    obtain rfl := (show _ = V.non from rr)
    cases ru
    exact PySem.P.repr_of_none ⟨.str _, H, I.tok _, ⟨_, rfl⟩, fin⟩
  | bl b =>
    rw [ht] at rr fin
    obtain rfl := (show _ = V.bl b from rr)
    cases ru
    exact PySem.P.repr_of_bool ⟨.str _, H, I.tok _, ⟨_, rfl⟩, fin⟩
  | int i =>
    rw [ht] at rr fin sh
    obtain rfl := (show _ = V.int i from rr)
    obtain ⟨tk, rfl⟩ := ru
    exact PySem.P.repr_of_int (of_decide_eq_true sh) ⟨.str _, H, I.tok _, ⟨_, rfl⟩, fin⟩
  | str x =>
    rw [ht] at rr fin sz
    obtain ⟨y, rfl, ey⟩ := rr
    obtain ⟨tk, rfl⟩ := ru
    have z := str_eta ey
    subst z
    exact PySem.P.repr_of_str ⟨.str _, H, I.tok _, ⟨_, rfl⟩, fin⟩ sz
  | tup xs =>
    rw [ht] at rr
    obtain ⟨a, _, rfl, _⟩ := rr
    exact onRef _ ru
  | lst xs =>
    rw [ht] at rr
    obtain ⟨a, _, rfl, _⟩ := rr
    exact onRef _ ru
  | dct ks =>
    rw [ht] at rr
    obtain ⟨a, _, rfl, _⟩ := rr
    exact onRef _ ru
  | kst _ => rw [ht] at fl; cases fl
  | ref _ => rw [ht] at fl; cases fl
  | clo _ _ => rw [ht] at fl; cases fl
end
end Ma
set_option maxHeartbeats 4000000
/-! dict(pairs), dict(d). -/
namespace Ma
open PySem PySem.Spec L2
variable [TB]
section
variable {X : Cx} {m : List Addr} {H H' : Hp} {h : RH} {Q : VK}
theorem PostT.dict {ks : List (Int × Ma.D)} {a : Addr} {ws : List (Key × V)} (p : PostT m h H (.oD ks) Q) (hh : RpH m h H) (n : H a = none) (r : Rpk m H ks ws) : Q (.ref a) (upd H a (.dK ws)) :=
  p _ _ (ex_new n) (hh.new n) ⟨a, ws, rfl, upd_same, Rpk.per ((ex_new n).per hh) _ _ r⟩ fun _ b e => by cases e; exact ⟨hh.notin n, n⟩
/-- a row of pairs, key by key -/
theorem pairs_rows : ∀ {ds : List Ma.D} {vs : List V} {acc ks : List (Int × Ma.D)} {ws : List (Key × V)}, pairsD ds acc = some ks → Rps m H ds vs → Rpk m H acc ws → ∃ (ps : List Addr) (kvs : List (Key × V)), vs = ps.map V.ref ∧ Paired (fun p kv => H p = some (.tup [kV kv.1, kv.2])) ps kvs ∧ Rpk m H ks (mergeK ws kvs)
  | [], vs, acc, ks, ws, e, r, q => by
    cases e
    cases r
    exact ⟨[], [], rfl, .nil, q⟩
  | d :: ds, vs, acc, ks, ws, e, r, q => by
    obtain ⟨v, vr, rfl, rd, rr⟩ := r
    obtain ⟨k, y, rfl, e9⟩ : ∃ k y, d = .tup [.int k, y] ∧ pairsD ds (Ma.putK k y acc) = some ks := by
      unfold pairsD at e
      split at e
      · rename_i z; cases z
      · rename_i _ k y rest z
        injection z with z1 z2
        exact ⟨k, y, z1, by rw [z2]; exact e⟩
      · cases e
    obtain ⟨a, us, rfl, ha, u1, w1, rfl, ru, u2, w2, rfl, rv, rfl⟩ := rd
    obtain rfl : u1 = V.int k := ru
    obtain ⟨ps, kvs, e1, e2, e3⟩ := pairs_rows e9 rr (putK_rpk k y u2 q rv)
    exact ⟨a :: ps, (Sum.inl k, u2) :: kvs, by rw [e1]; rfl, .cons ha e2, e3⟩
theorem ca_dpairs (calm : X.calm = true) : CaM X (.type "dict") (b1 .dpairs) := by
  intro pins s σ H vs us Q I rv ⟨m, h, t, t', v, e, rh, rt, e2, p⟩
  subst e
  have e2 : ((itL t).bind (pairsD · [])).map .oD = some t' := e2
  obtain ⟨ks, e3, rfl⟩ := Option.map_eq_some_iff.mp e2
  obtain ⟨ds, e4, e5⟩ := Option.bind_eq_some_iff.mp e3
  have go : ∀ (a : Addr) (ws : List V), v = .ref a → Rd H a (.lst ws) → Rps m H ds ws → wpAny (model X.prog X.w) X.A (call (.type "dict") us) (EP X pins σ Q) X.xe s := fun a ws ev rd rr => by
    obtain ⟨ps, kvs, rfl, pr, rk⟩ := pairs_rows (ws := []) e5 rr rfl
    refine call_dictP calm pins s σ H _ us Q I rv ⟨a, ps, kvs, by rw [ev], .inl rd, ?_, fun q n => p.dict rh n rk⟩
    clear rk e5 rd rr
    induction pr with
    | nil => exact .nil
    | cons x _ ih => exact .cons (.inl (.inl x)) ih
  cases t with
  | fz d => cases d with
    | lst xs => cases e4; obtain ⟨a, o, ws, ev, hl, rr⟩ := rt; exact go a ws ev (.inr ⟨o, hl⟩) rr
    | _ => cases e4
  | oL n rs => cases e4; obtain ⟨a, ws, ev, hl, rr, _⟩ := rt; exact go a ws ev (.inl hl) rr
  | _ => cases e4
theorem ca_dcopy : CaM X (.type "dict") (b1 .dcopy) := by
  intro pins s σ H vs us Q I rv ⟨m, h, t, t', v, e, rh, rt, e2, p⟩
  subst e
  have e2 : bDcopy t = some t' := e2
  have go : ∀ (a : Addr) (ks : List (Int × Ma.D)) (ws : List (Key × V)), v = .ref a → Rd H a (.dK ws) → Rpk m H ks ws → t' = .oD ks → wpAny (model X.prog X.w) X.A (call (.type "dict") us) (EP X pins σ Q) X.xe s := fun a ks ws ev rd rr et => by
    subst et
    exact call_dictD pins s σ H _ us Q I rv ⟨a, ws, by rw [ev], rd, fun q n => p.dict rh n rr⟩
  cases t with
  | fz d => cases d with
    | dct ks => cases e2; obtain ⟨a, o, ws, ev, hl, rr⟩ := rt; exact go a _ ws ev (.inr ⟨o, hl⟩) rr rfl
    | _ => cases e2
  | oD ks => cases e2; obtain ⟨a, ws, ev, hl, rr⟩ := rt; exact go a _ ws ev (.inl hl) rr rfl
  | _ => cases e2
end
end Ma
set_option maxHeartbeats 4000000
/-! zip(a, b, strict=True), walked with a tuple of targets. -/
namespace Ma
open PySem PySem.Spec L2
variable [TB]
section
variable {prog : Program} {w : World} {A : Around} {E : Value → Shared → Prop} {s : Shared} {z TI TO i1 i2 : Addr} {f1 f2 : List Addr} {n1 n2 i : Nat} {P1 P2 : Nat → Value → Prop} {S1 S2 : Nat → Heap → Prop} {a b : Value}
/-- the next pair: a new tuple, which the zip holds -/
theorem zw_next {Q : Option Value → Shared → Prop} (S : ZipSep2 z TI TO i1 i2 f1 f2) (D1 : Draws prog w A.in1 i1 f1 n1 P1 S1) (D2 : Draws prog w A.in1 i2 f2 n2 P2 S2) (rc : Zs true s.heap z TI TO .none) (ti : IsTupOf2 s.heap TI (.ref i1) (.ref i2)) (tw : IsTupOf2 s.heap TO a b) (p1 : S1 i s.heap) (p2 : S2 i s.heap) (l1 : i < n1) (l2 : i < n2)
    (q : ∀ x y h' tk, P1 i x → P2 i y → Zs true h' z TI TO (rawInt s.heap.objs.size) → IsTupOf2 h' TO x y → S1 (i + 1) h' → S2 (i + 1) h' → IsTupOf2 h' s.heap.objs.size x y → (∀ c o, c ∉ [z, TO, i1, i2] → s.heap.get? c = some o → h'.get? c = some o) → Q (some (.ref s.heap.objs.size)) { s with heap := h', toks := tk }) :
    wpAny (model prog w) A (pyNext (.ref z)) Q E s := by
  unfold pyNext
  exact wpAny_bind (wpAny_attempt (wpAny_callSpecial?_slot (name := Str.ofString "__next__") (⟨_, rc, rfl⟩ : s.TypeIs (.ref z) "zip") F.slot_zip_next (wpAny_call_entry F.slot_zip_next ⟨_, rc, rfl⟩ F.entry_zip_next (zs_item S D1 D2 rc ti tw p1 p2 l1 l2 fun x y h' tk px py rc' tw' s1 s2 nw k => wpAny_pure (q x y h' tk px py rc' tw' s1 s2 nw k)) (F.args_zip_next_1 _))))
theorem zw_over {Q : Option Value → Shared → Prop} (calm : A.handled = none) (S : ZipSep2 z TI TO i1 i2 f1 f2) (D1 : Draws prog w A.in1 i1 f1 i P1 S1) (D2 : Draws prog w A.in1 i2 f2 i P2 S2) (rc : Zs true s.heap z TI TO .none) (ti : IsTupOf2 s.heap TI (.ref i1) (.ref i2)) (tw : IsTupOf2 s.heap TO a b) (p1 : S1 i s.heap) (p2 : S2 i s.heap)
    (q : ∀ h' tk, (∀ c o, c ∉ [z, TO, i1, i2] → s.heap.get? c = some o → h'.get? c = some o) → Q none { s with heap := h', toks := tk }) : wpAny (model prog w) A (pyNext (.ref z)) Q E s :=
  zip_over (ss := true) (far := []) calm S D1 D2 ⟨ti, .inl ⟨rc, a, b, tw⟩⟩ p1 p2 q
/-- the pair is unpacked: the zip holds it no longer -/
theorem zw_go {elts : List Expr} {kk : Nat} {pos : Pos} {T : Addr} {Q : Unit → Shared → Prop} (rc : Zs true s.heap z TI TO (rawInt T)) (q : ∀ h', Zs true h' z TI TO .none → Heap.SameBut z s.heap h' → Q () { s with heap := h' }) :
    wpAny (model prog w) A (letOwnedTupleGo (.Tuple elts kk pos) (.ref z) (.ref T)) Q E s := by
  have here : (["enumerate", "zip", "dict_itemiterator", "dict_reverseitemiterator", "odict_iterator", "itertools.zip_longest", "itertools.pairwise"].contains "zip" && (#[rawInt T, .bool false, .bool true, .ref TI, .ref TO] : Array Value)[0]? == some (rawInt T)) = true := by simp
  unfold letOwnedTupleGo
  refine wpAny_bind (wpAny_load rc ?_)
  dsimp only
  rw [if_pos here]
  exact wpAny_bind (wpAny_rule (wpAny_setField_rec rc (by simp) fun h' z1 z2 => q h' z1 z2))
end
section
variable {X : Cx} {G : GC} {Φ : Cal} {x : List Ma.D} {W : WX}
/-- items of two rows of one length side by side -/
def ItY (k1 k2 : Bool) (a b : Addr) : It where
  go i H := (ItZ k1 k2 a b).go i H
  yld i H v H' := (ItZ k1 k2 a b).yld i H v H'
  stop i H := ∃ xs ys, Row k1 H a xs ∧ Row k2 H b ys ∧ xs.length = i ∧ ys.length = i
theorem turn_even {P : Program} {w : World} {K : PySem.W.Frag} {elts : List Expr} {kk : Nat} {tpos : Pos} (k1 k2 : Bool) {a b z TI TO i1 i2 : Addr} (S : ZipSep2 z TI TO i1 i2 [i1, a] [i2, b]) :
    Turn P w K (.Tuple elts kk tpos) (ItY k1 k2 a b) [z, TI, TO, i1, i2] z (fun i h => Zs true h z TI TO .none ∧ IsTupOf2 h TI (.ref i1) (.ref i2) ∧ (∃ x y, IsTupOf2 h TO x y) ∧ Sits k1 h i1 a i ∧ Sits k2 h i2 b i) where
  mem := List.mem_cons_self ..
  obj := fun i h ⟨hz, hi, ⟨_, _, ho⟩, s1, s2⟩ c hc => by
    simp only [List.mem_cons, List.not_mem_nil, or_false] at hc
    rcases hc with rfl | rfl | rfl | rfl | rfl
    · exact ⟨_, hz, nofun⟩
    · exact ⟨_, hi, nofun⟩
    · exact ⟨_, ho, nofun⟩
    · exact s1.obj
    · exact s2.obj
  keep := fun i h h' ⟨hz, hi, ⟨u, v, ho⟩, s1, s2⟩ st => ⟨st z (by simp) _ hz, st TI (by simp) _ hi, ⟨u, v, st TO (by simp) _ ho⟩, s1.at_ (st i1 (by simp)), s2.at_ (st i2 (by simp))⟩
  item := by
    rintro X rfl rfl rfl calm i pins s σ H E I fp ⟨hz, hi, ⟨_, _, ho⟩, s1, s2⟩ ⟨xs, ys, r1, r2, l1, l2⟩
    have ai : a ≠ i1 := fun q => r1.some (by rw [q]; exact (fp i1 (by simp)).1)
    have bi : b ≠ i2 := fun q => r2.some (by rw [q]; exact (fp i2 (by simp)).1)
    obtain ⟨its1, Sd1, rv1, dr1, to1, fro1⟩ := row_draws I r1 ai
    obtain ⟨its2, Sd2, rv2, dr2, to2, fro2⟩ := row_draws I r2 bi
    have len1 := rv1.length
    have len2 := rv2.length
    have D1 := dr1 X.A.in1 (I.ok.hd calm)
    have D2 := dr2 X.A.in1 (I.ok.hd calm)
    have big : ∀ c ∈ [z, TI, TO, i1, i2], c < s.heap.objs.size := fun c hc => by
      simp only [List.mem_cons, List.not_mem_nil, or_false] at hc
      rcases hc with rfl | rfl | rfl | rfl | rfl
      · exact Heap.lt_size hz
      · exact Heap.lt_size hi
      · exact Heap.lt_size ho
      · obtain ⟨o, q, _⟩ := s1.obj; exact Heap.lt_size q
      · obtain ⟨o, q, _⟩ := s2.obj; exact Heap.lt_size q
    refine zw_next S D1 D2 hz hi ho (to1 i s1) (to2 i s2) (by simp; omega) (by simp; omega) fun t1 t2 h1 tk e1 e2 rc1 tw1 g1 g2 nw kept => ?_
    refine ⟨_, rfl, zw_go rc1 fun h2 rc2 same => ?_⟩
    obtain ⟨v1, ev1⟩ : ∃ v, xs[i]? = some v := ⟨xs[i], List.getElem?_eq_getElem l1⟩
    obtain ⟨v2, ev2⟩ : ∃ v, ys[i]? = some v := ⟨ys[i], List.getElem?_eq_getElem l2⟩
    obtain ⟨u1, eu1, ru1⟩ := rv1.get ev1
    obtain ⟨u2, eu2, ru2⟩ := rv2.get ev2
    obtain rfl : u1 = t1 := by have q : its1[i]? = some t1 := by simpa using e1
                               rw [eu1] at q; cases q; rfl
    obtain rfl : u2 = t2 := by have q : its2[i]? = some t2 := by simpa using e2
                               rw [eu2] at q; cases q; rfl
    have up : ∀ c o, c ≠ z → h1.get? c = some o → h2.get? c = some o := fun c o n e => same.extBut c o n e
    have zb : s.heap.objs.size ≠ z := Nat.ne_of_gt (big z (by simp))
    have tiN : TI ∉ [z, TO, i1, i2] := by simp [S.TIz, S.TITO, S.TIi1, S.TIi2]
    have nw2 : ObjOk X.prog X.w (upd H s.heap.objs.size (.tup [v1, v2])) h2 s.heap.objs.size (.tup [v1, v2]) := by
      have at2 : h2.get? s.heap.objs.size = some { cls := .type "tuple", data := .seq #[u1, u2] } := up _ _ zb nw
      exact ⟨by show 2 ≤ sizeLine; decide, [u1, u2], .cons ru1 (.cons ru2 .nil), ⟨_, at2, rfl, _, rfl⟩⟩
    have I2 := I.turnedNew (t' := tk) (ch := [z, TI, TO, i1, i2]) (T := s.heap.objs.size) (fun c o hc q => by
      have n2 : c ∉ [z, TO, i1, i2] := fun m => hc (by
        simp only [List.mem_cons, List.not_mem_nil, or_false] at m ⊢
        rcases m with q | q | q | q <;> simp [q])
      exact up c o (fun m => hc (by simp [m])) (kept c o n2 q)) fp (Nat.le_refl _) nw2
    refine ⟨.ref s.heap.objs.size, _, I2, rfl, ⟨xs, ys, v1, v2, _, r1, r2, ev1, ev2, I.hok.fresh (Nat.le_refl _), rfl, rfl⟩, ⟨rc2, up _ _ S.TIz (kept _ _ tiN hi), ⟨_, _, up _ _ S.TOz tw1⟩, fro1 _ _ (D1.over g1 same S.zf1), fro2 _ _ (D2.over g2 same S.zf2)⟩, fun c hc => ?_⟩
    rw [upd_ne (Nat.ne_of_lt (big c hc))]
    exact (fp c hc).1
  done := by
    rintro X rfl rfl rfl calm i pins s σ H E I fp ⟨hz, hi, ⟨_, _, ho⟩, s1, s2⟩ ⟨xs, ys, r1, r2, en1, en2⟩
    have ai : a ≠ i1 := fun q => r1.some (by rw [q]; exact (fp i1 (by simp)).1)
    have bi : b ≠ i2 := fun q => r2.some (by rw [q]; exact (fp i2 (by simp)).1)
    obtain ⟨its1, Sd1, rv1, dr1, to1, fro1⟩ := row_draws I r1 ai
    obtain ⟨its2, Sd2, rv2, dr2, to2, fro2⟩ := row_draws I r2 bi
    have len1 := rv1.length
    have len2 := rv2.length
    have D1 := dr1 X.A.in1 (I.ok.hd calm)
    have D2 := dr2 X.A.in1 (I.ok.hd calm)
    have m1 : its1.toArray.size = i := by simp; omega
    have m2 : its2.toArray.size = i := by simp; omega
    rw [m1] at D1
    rw [m2] at D2
    refine zw_over (I.ok.hd calm) S D1 D2 hz hi ho (to1 i s1) (to2 i s2) fun h' tk kept => ⟨rfl, I.turnedL (t' := tk) (ch := [z, TI, TO, i1, i2]) (fun c o hc q => kept c o (fun m => hc (by
      simp only [List.mem_cons, List.not_mem_nil, or_false] at m ⊢
      rcases m with q | q | q | q <;> simp [q])) q) fp⟩
  self := fun A i s Q E ⟨hz, hi, ho, _⟩ q => zip_self (ss := true) (far := []) ⟨hi, .inl ⟨hz, ho⟩⟩ q
/-- zip(e1, e2, strict=True) -/
theorem pi_even {e1 e2 : Expr} {ta : TA} {p kp kc pos tpos : Pos} {j : Nat} {elts : List Expr} {kk : Nat} (gl : Gl X "zip") (own : X.mg "zip" = none) (rows : PA X [e1, e2] ta)
    (b1 : backTo pos (starEach [e1, e2] X.env) = (false, eval e1 X.env) :: backTo pos (starEach [e2] X.env) := by rfl) (pl : (backTo pos (starEach [e1, e2] X.env)).any (·.1) = false := by rfl) :
    PI X (.Tuple elts kk tpos) (.Call (.Name "zip" p) [e1, e2] [⟨some "strict", .Constant (.bool true) j kc, kp⟩] pos) (fun σ H R => ta σ H fun vs H1 => ∃ k1 k2 a b xs ys, vs = [.ref a, .ref b] ∧ Row k1 H1 a xs ∧ Row k2 H1 b ys ∧ R (ItY k1 k2 a b) H1) := by
  constructor
  intro pins s σ H R I go
  refine wpAny_Call_Name_kw (ld_blt I gl own bt_zip (cw_typeK ?_ b1 pl rfl rfl))
  rw [← b1]
  refine thn (rows.run pos pins s σ H _ I go) ?_
  rintro us s1 ⟨vs, H1, I1, rv, k1, k2, a, b, xs, ys, rfl, r1, r2, q⟩
  refine thn ((pk_cons pe_bl pk_nil : PK X [⟨some "strict", .Constant (.bool true) j kc, kp⟩] _).run pos pins s1 σ H1 (fun ks H2 => ks = [.bl true] ∧ H2 = H1) I1 ⟨rfl, rfl⟩) ?_
  rintro ks s2 ⟨zs, H2, I2, rk, rfl, rfl⟩
  obtain ⟨u1, u2, rfl, ra, rb⟩ : ∃ u1 u2, us = [u1, u2] ∧ RelV (.ref a) u1 ∧ RelV (.ref b) u2 := by
    cases rv with
    | cons x r => cases r with
      | cons y r => cases r; exact ⟨_, _, rfl, x, y⟩
  obtain ⟨u3, rfl, rt⟩ := vals1 rk
  cases ra
  cases rb
  cases rt
  obtain ⟨o1, h1, b1, here1, la, at1⟩ := row_begins I2 r1
  obtain ⟨o2, h2, b2, here2, lb, at2⟩ := row_begins I2 r2
  refine zs_made b1 b2 here1 here2 fun h' rc ti tw g1 g2 size keep => zip_self (ss := true) (far := []) ⟨ti, .inl ⟨rc, _, _, tw⟩⟩ ?_
  refine ⟨s2.heap.objs.size + 4, [s2.heap.objs.size + 4, s2.heap.objs.size + 2, s2.heap.objs.size + 3, s2.heap.objs.size, s2.heap.objs.size + 1], _, ItY k1 k2 a b, H2, rfl, I2.kept (t' := s2.toks) keep, turn_even k1 k2 (apart5 _ _ _ la lb), ⟨rc, ti, ⟨_, _, tw⟩, at1 _ _ g1, at2 _ _ g2⟩, fun c hc => ?_, q⟩
  have le : s2.heap.objs.size ≤ c := by
    simp only [List.mem_cons, List.not_mem_nil, or_false] at hc
    rcases hc with z | z | z | z | z <;> rw [z] <;> first | exact Nat.le_add_right _ _ | exact Nat.le_refl _
  exact I2.fpOk le (I2.hok.fresh le)
theorem wk_even {S : List Addr → Hp → Prop} {ds es : List Ma.D} {k1 k2 : Bool} {a b : Addr} (el : ds.length = es.length) (st : ∀ m2 h2 H2, S m2 H2 → RpH m2 h2 H2 → ∃ vs ws, Row k1 H2 a vs ∧ Row k2 H2 b ws ∧ Rps m2 H2 ds vs ∧ Rps m2 H2 es ws) : Wk S (zipD ds es) (ItY k1 k2 a b) := by
  intro m2 h2 H2 here rh
  obtain ⟨g, _⟩ := wk_side st m2 h2 H2 here rh
  obtain ⟨vs, ws, r1, r2, q1, q2⟩ := st m2 h2 H2 here rh
  have len1 := Rps.len q1
  have len2 := Rps.len q2
  exact ⟨g, vs, ws, r1, r2, by rw [zipD_len, len1, el, Nat.min_self], by rw [zipD_len, len2, el, Nat.min_self]⟩
/-- zip(e1, e2, strict=True), walked -/
theorem sw_zipS {y1 y2 : Expr} {a b : E} {p kp kc pos tpos : Pos} {j : Nat} {elts : List Expr} {kk : Nat} (n1 : isVr a = false) (n2 : isVr b = false) (gl : Gl X "zip") (own : X.mg "zip" = none) (ha : PE X y1 (te G Φ x W a)) (hb : PE X y2 (te G Φ x W b))
    (s1 : starEach [y1, y2] X.env = (false, eval y1 X.env) :: starEach [y2] X.env := by rfl) (s2 : starEach [y2] X.env = (false, eval y2 X.env) :: starEach [] X.env := by rfl)
    (b1 : backTo pos (starEach [y1, y2] X.env) = (false, eval y1 X.env) :: backTo pos (starEach [y2] X.env) := by rfl) (pl : (backTo pos (starEach [y1, y2] X.env)).any (·.1) = false := by rfl) :
    PI X (.Tuple elts kk tpos) (.Call (.Name "zip" p) [y1, y2] [⟨some "strict", .Constant (.bool true) j kc, kp⟩] pos) (tW G Φ x W (.zip true a b)) := by
  refine ⟨fun pins s σ H R I ⟨m, sl, h, r, q⟩ => (pi_even gl own (pa_cons (pe_frz ha) (pa_cons (pe_frz hb) pa_nil s2) s1) b1 pl).run pins s σ H R I ?_⟩
  rw [ev, rdv_eq n1] at q
  refine ⟨m, sl, h, r, ?_⟩
  cases e : ev Φ x a sl h with
  | bad w => rw [e] at q; exact q
  | exc c xs h' => rw [e] at q; exact q
  | ok t h1 =>
    rw [e] at q
    cases ei : items t with
    | none => simp only [RE.its, RE.bind, ei] at q
    | some ds =>
      simp only [RE.its, RE.bind, ei, rdv_eq n2] at q
      intro m1 v H1 y1 rh1 rt1 ow1
      refine row_of y1 rh1 rt1 ow1 ei fun k1 b1 vs H1 ev1 y1 rh1 row1 rb1 => ?_
      refine ⟨m1, sl, h1, r.stay y1 rh1, ?_⟩
      cases e2 : ev Φ x b sl h1 with
      | bad w => rw [e2] at q; exact q
      | exc c xs h' => rw [e2] at q; exact fun m' H' cls d z => q m' H' cls d (y1.comp rh1 z)
      | ok t2 h2 =>
        rw [e2] at q
        cases ej : items t2 with
        | none => simp only [ej] at q
        | some es =>
          simp only [ej] at q
          by_cases el : ds.length = es.length
          · have ne : (true && ds.length != es.length) = false := by simp [el]
            rw [ne] at q
            simp only [Bool.false_eq_true, if_false] at q
            obtain ⟨_, es_, q⟩ := q
            cases es_
            intro m2 w H2 y2 rh2 rt2 ow2
            refine row_of y2 rh2 rt2 ow2 ej fun k2 b2 ws H2 ev2 y2 rh2 row2 rb2 => ?_
            have p12 := y2.per rh1
            exact ⟨k1, k2, b1, b2, vs, ws, by rw [ev1, ev2], row1.per p12, row2, q m2 H2 _ (y1.comp rh1 y2) rh2 (wk_even el fun m3 h3 H3 p3 _ => ⟨vs, ws, (row1.per p12).per p3, row2.per p3, Rps.per (p12.trans p3) _ _ rb1, Rps.per p3 _ _ rb2⟩)⟩
          · have ne : (true && ds.length != es.length) = true := by simpa using el
            rw [ne] at q
            simp only [if_true] at q
end
end Ma
set_option maxHeartbeats 4000000
/-! tuple(d): the keys of a dict. -/
namespace Ma
open PySem PySem.Spec L2
variable [TB]
section
variable {prog : Program} {w : World} {A : Around} {E : Value → Shared → Prop} {s : Shared} {T : String} {r d : Addr} {n : Nat} {P : Nat → Value → Prop} {OK : Heap → Prop}
/-- what is walked, gathered -/
theorem gather {Q : List Value → Shared → Prop} (K : PySem.W.KdlSrc prog w T r d n P OK) (calm : A.handled = none) (ok : OK s.heap) (fit : n ≤ sizeLine)
    (q : ∀ (h' : Heap) (tk : Nat) (acc : Array Value), (∀ b o, s.heap.get? b = some o → h'.get? b = some o) → s.heap.objs.size ≤ h'.objs.size → ItemsOf P acc n → Q acc.toList { s with heap := h', toks := tk }) : wpAny (model prog w) A (collect (.ref r)) Q E s := by
  obtain ⟨lr, ld⟩ := K.there _ ok
  let S := s.heap.objs.size
  let h0 := s.heap.push { cls := .type "list", data := .seq #[] 0 }
  have atS : h0.get? S = some { cls := .type "list", data := .seq #[] 0 } := Heap.get?_push_size _ rfl
  have old : ∀ b o, s.heap.get? b = some o → h0.get? b = some o := fun b o e => Heap.get?_push_of_some _ e
  have ok0 : OK h0 := K.keep _ _ ok fun b _ o e => old b o e
  -- how the walk ends
  let R : Result → Shared → Prop := fun f s' => f = .ok (.ret (.ref S)) ∧ ∃ h' tk acc c, s' = { s with heap := h', toks := tk } ∧ (∀ b o, s.heap.get? b = some o → h'.get? b = some o) ∧ h'.get? S = some { cls := .type "list", data := .seq acc c } ∧ ItemsOf P acc n
  have walk := PySem.W.kdl_extend (s := { s with heap := h0 }) (A := A) (R := R) K calm ok0 S (Nat.ne_of_gt lr) (Nat.ne_of_gt ld) (.ref S) 0 atS (fun h' tk acc c k at2 all_ => ⟨rfl, h', tk, acc, c, rfl, fun b o e => k b o (Nat.ne_of_lt (Heap.lt_size e)) (old b o e), at2, all_⟩) fit
  unfold collect
  refine wpAny_bind (wpAny_runValue (codeAny_builtin F.entry_proto_collect ?_))
  rw [Around.under_plainId F.plain_proto_collect _]
  refine wpAny_bind (wpAny_newObj_type ?_)
  refine wpAny_pure ⟨plainId_quiet F.plain_list_iadd _, codeAny_builtin F.entry_list_iadd ?_⟩
  rw [Around.under_plainId F.plain_list_iadd _]
  refine wpAny_mono walk (fun f s' z => ?_) fun e s' z => ?_
  · cases f with
    | done f =>
      obtain ⟨e, h', tk, acc, c, rfl, k, at2, all_⟩ := z
      cases e
      exact wpAny_bind (wpAny_load at2 (wpAny_pure (q h' tk acc k (Nat.le_of_lt (Heap.lt_size at2)) all_)))
    | again c =>
      refine ⟨z.1, codeAny_mono z.2 fun f s2 z => ?_⟩
      obtain ⟨rfl, h', tk, acc, c, rfl, k, at2, all_⟩ := z
      exact wpAny_bind (wpAny_load at2 (wpAny_pure (q h' tk acc k (Nat.le_of_lt (Heap.lt_size at2)) all_)))
  · obtain ⟨z, _⟩ := z
    cases z
/-- tuple(..) of it -/
theorem tuple_of {Q : Value → Shared → Prop} (K : PySem.W.KdlSrc prog w T r d n P OK) (calm : A.handled = none) (ok : OK s.heap) (fit : n ≤ sizeLine)
    (q : ∀ (h' : Heap) (tk : Nat) (acc : Array Value), (∀ b o, s.heap.get? b = some o → h'.get? b = some o) → s.heap.objs.size ≤ h'.objs.size → ItemsOf P acc n → Q (.ref h'.objs.size) { s with heap := h'.push { cls := .type "tuple", data := .seq acc }, toks := tk }) : wpAny (model prog w) A (call (.type "tuple") [.ref r]) Q E s := by
  have made : codeAny (model prog w) A.in1 (.call (.builtin "tuple.__new__") ⟨[.type "tuple", .ref r], []⟩) (wants (fun u st => st.TypeIs u "tuple" ∧ Q u st) E) s := by
    refine codeAny_of_tree ?_
    refine wpAny_bind (wpAny_of_eq (F.newCall_tuple_1 _) (wpAny_pure ⟨plainId_quiet F.plain_tuple_new _, codeAny_builtin F.entry_tuple_new ?_⟩))
    rw [Around.under_plainId F.plain_tuple_new _]
    have kind := K.type s ok
    have sub := sub_tuple_self
    have ini := init_tuple_lookup
    have here := madeHere_tuple
    have calm2 : A.in1.in1.handled = none := calm
    have ne := K.notTuple
    have ne2 := K.notList
    wp_walk using wpAny_typeOf kind, gather (A := A.in1.in1) K calm2 ok fit
    intro h' tk acc keep le all_
    refine wpAny_bind (wpAny_pure ?_)
    have ea : acc.toList.toArray = acc := by simp
    rw [ea]
    have sz : acc.size ≤ sizeLine := by rw [all_.1]; exact fit
    exact wpAny_bind (wpAny_newObj_type (wpAny_pure ⟨⟨_, Heap.get?_push_size _ rfl, rfl⟩, q h' tk acc keep le all_⟩) sz)
  refine callType_codes F.called_tuple (F.typeCall_tuple_1 _) F.entry_object_init made fun u st z => ?_
  exact ⟨z.1, F.args_object_init_2 u _, object_init_meets F.called_tuple.init.lookup F.called_tuple.made (by decide) prog w A.in1 _ st ⟨z.1, rfl, z.2⟩⟩
end
section
variable {X : Cx} {pins : List (Addr × Obj)} {σ : L2.St} {H : Hp} {s : Shared} {m : List Addr}
theorem keys_vals : ∀ {ks : List (Int × Ma.D)} {ws : List (Key × V)}, Rpk m H ks ws → ws.map (fun kv => kV kv.1) = ks.map fun p => V.int p.1
  | [], _, h => by rw [show _ = [] from h]; rfl
  | (i, d) :: r, _, ⟨v, q, e, _, t⟩ => by rw [e, List.map_cons, List.map_cons, keys_vals t]; rfl
theorem ints_rps (is_ : List Int) : Rps m H (is_.map Ma.D.int) (is_.map V.int) := by
  induction is_ with
  | nil => rfl
  | cons i r ih => exact ⟨_, _, rfl, rfl, ih⟩
/-- tuple(d) -/
theorem ca_tkeys (calm : X.calm = true) : CaM X (.type "tuple") (b1 .tkeys) := by
  intro pins s σ H vs us Q I rv ⟨m, h, t, t', v, e, rh, rt, e2, p⟩
  subst e
  have e2 : bTkeys t = some t' := e2
  have go : ∀ (a : Addr) (ks : List (Int × Ma.D)) (ws : List (Key × V)), v = .ref a → Rd H a (.dK ws) → Rpk m H ks ws → t' = .fz (.tup (ks.map fun p => .int p.1)) → wpAny (model X.prog X.w) X.A (call (.type "tuple") us) (EP X pins σ Q) X.xe s := fun a ks ws ev rd rr et => by
    subst ev et
    obtain ⟨u, rfl, ru⟩ := vals1 rv
    obtain rfl : u = Value.ref a := ru
    have okd : ObjOk X.prog X.w H s.heap a (.dK ws) := by
      rcases rd with rd | ⟨o, rd⟩
      · exact I.hok a _ rd
      · exact (I.hok a _ rd).2
    obtain ⟨few, low, kvs, rk, dct⟩ := okd
    obtain ⟨ep, at_⟩ := dct.dictAt
    have len : ws.length = kvs.length := Paired.length rk
    refine tuple_of (PySem.W.kdl_dict (knd := mixKind X.prog X.w) (kvs := kvs) (ep := ep) low) (I.ok.hd calm) at_ (by rw [← len]; exact few) fun h' tk acc keep le all_ => ?_
    have new : H h'.objs.size = none := I.hok.fresh le
    have vals : Vals (ws.map fun kv => kV kv.1) acc.toList := by
      refine vals_of_at (by rw [List.length_map, len]; simp [all_.1]) fun j x u h1 h2 => ?_
      obtain ⟨k, y, ek, is_⟩ := all_.2 j u (by rw [← Array.getElem?_toList]; exact h2)
      have e1 : (ws.map (·.1))[j]? = some k := by rw [KV.keys rk, List.getElem?_map, ek]; rfl
      rw [show (fun kv : Key × V => kV kv.1) = kV ∘ (·.1) from rfl, ← List.map_map, List.getElem?_map, e1] at h1
      cases h1
      exact keyIs_rel is_
    have good : ObjOk X.prog X.w (upd H h'.objs.size (.tup (ws.map fun kv => kV kv.1))) (h'.push { cls := .type "tuple", data := .seq acc }) h'.objs.size (.tup (ws.map fun kv => kV kv.1)) :=
      ⟨by rw [List.length_map]; exact few, acc.toList, vals, ⟨_, Heap.get?_push_size _ rfl, rfl, 0, by simp⟩⟩
    refine ⟨.ref h'.objs.size, _, I.laid (t' := tk) (fun b o eb => Heap.get?_push_of_some _ (keep b o eb)) le good, rfl, p.tup rh new ?_⟩
    rw [keys_vals rr]
    have z := ints_rps (m := m) (H := H) (ks.map (·.1))
    rw [List.map_map, List.map_map] at z
    exact z
  cases t with
  | fz d => cases d with
    | dct ks => cases e2; obtain ⟨a, o, ws, ev, hl, rr⟩ := rt; exact go a _ ws ev (.inr ⟨o, hl⟩) rr rfl
    | _ => cases e2
  | oD ks => cases e2; obtain ⟨a, ws, ev, hl, rr⟩ := rt; exact go a _ ws ev (.inl hl) rr rfl
  | _ => cases e2
end
end Ma
set_option maxHeartbeats 4000000
/-! n += e, ints. -/
namespace Ma
open PySem PySem.Spec L2
variable [TB]
section
variable {G : GC} {Φ : Cal} {x : List Ma.D} {W : WX} {X : Cx} {m0 : List Addr} {H0 : Hp}
theorem ss_aug {i : Nat} {y : Str} {e : Expr} {a : E} {pos pos' : Pos} (hN : X.N.Nodup) (hi : X.N[i]? = some y) (hy : Loc X.env.scope y) (he : PE X e (te G Φ x W a)) (hf : X.fn y = true ∨ X.env.scope.names.lookup y = some .local := by exact .inl rfl) :
    PS X (.AugAssign (.Name y pos') .Add e pos) (ts G Φ x W m0 H0 (.aug i a)) := by
  refine PSimp (ps_aug hN hi hy he ip_add hf) fun D σ H ⟨m, s, h, q, p⟩ => ?_
  rw [ex] at p
  cases eg : getT s i with
  | fz d => cases d with
    | int n =>
      rw [eg] at p
      obtain ⟨v, ev, rv, _⟩ := q.sr.slot eg (by simp)
      obtain rfl : v = .int n := rv
      refine ⟨.int n, ev, m, s, h, q.sr, PstS.go q p fun m1 t h1 v H1 q1 y1 rt own p1 => ?_⟩
      cases t with
      | fz d => cases d with
        | int k =>
          obtain rfl : v = .int k := rt
          exact ⟨n, k, rfl, rfl, p1 m1 _ H1 (q1.take q1 Ex.refl (t := .fz (.int (n + k))) rfl fun o => nomatch o) Per.refl⟩
        | _ => exact p1.elim
      | _ => exact p1.elim
    | _ => rw [eg] at p; exact p.elim
  | _ => rw [eg] at p; exact p.elim
end
end Ma
set_option maxHeartbeats 4000000
/-! len(set(a list of ints)). -/
namespace Ma
open PySem PySem.Spec L2
variable [TB]
theorem mem_ints (x : Int) : ∀ r : List Int, mem (.int x) (r.map Ma.D.int) = r.any (· == x)
  | [] => rfl
  | a :: r => by
    have h := mem_ints x r
    unfold mem at h ⊢
    rw [List.map_cons, List.any_cons, List.any_cons, h, deq]
theorem dedup_ints : ∀ (l r : List Int), dedup (r.reverse.map Ma.D.int) (l.map Ma.D.int) = (l.foldl PyProof.Rows.step_dedup r).map Ma.D.int
  | [], r => by rw [List.map_nil, dedup, ← List.map_reverse, List.reverse_reverse]; rfl
  | a :: l, r => by
    rw [List.map_cons, dedup, List.foldl_cons, mem_ints, List.any_reverse]
    unfold PyProof.Rows.step_dedup
    by_cases c : (r.any fun y => y == a) = true
    · rw [if_pos c, if_pos c]; exact dedup_ints l r
    · rw [if_neg c, if_neg c]
      have h := dedup_ints l (r ++ [a])
      rw [List.reverse_append, List.reverse_singleton, List.singleton_append, List.map_cons] at h
      exact h
theorem range_get (ns : List Int) : (List.range ns.length).map (fun i => ns.getD i 0) = ns := by
  apply List.ext_getElem
  · simp
  · intro i h1 h2
    simp at h1
    simp [List.getElem?_eq_getElem h1]
theorem first_len (ns : List Int) : (PyProof.Rows.firstMet (fun i => ns.getD i 0) ns.length).length = (dedup [] (ns.map Ma.D.int)).length := by
  unfold PyProof.Rows.firstMet
  rw [range_get]
  have h := dedup_ints ns []
  rw [List.reverse_nil, List.map_nil] at h
  rw [h, List.length_map]
theorem all_ints : ∀ {ds : List Ma.D}, ds.all isI = true → ∃ ns : List Int, ds = ns.map Ma.D.int
  | [], _ => ⟨[], rfl⟩
  | d :: r, h => by
    rw [List.all_cons, Bool.and_eq_true] at h
    obtain ⟨ns, rfl⟩ := all_ints h.2
    cases d with
    | int i => exact ⟨i :: ns, rfl⟩
    | _ => cases h.1
theorem rps_ints {m : List Addr} {H : Hp} : ∀ {ns : List Int} {vs : List V}, Rps m H (ns.map Ma.D.int) vs → vs = ns.map V.int
  | [], vs, h => h
  | n :: ns, vs, ⟨v, r, e, h, q⟩ => by rw [e, show v = .int n from h, rps_ints q]; rfl
section
variable {X : Cx} {G : GC} {Φ : Cal} {x : List Ma.D} {W : WX}
theorem se_lset {y1 : Expr} {a : E} {p p2 pos pos2 : Pos} (calm : X.calm = true) (gl : Gl X "len") (own : X.mg "len" = none) (gl2 : Gl X "set") (own2 : X.mg "set" = none) (ha : PE X y1 (tr G Φ x W a))
    (e1 : starEach [y1] X.env = (false, eval y1 X.env) :: starEach [] X.env := by rfl) :
    PE X (.Call (.Name "len" p) [.Call (.Name "set" p2) [y1] [] pos2] [] pos) (te G Φ x W (.b1 .lset a)) := by
  refine ⟨fun pins s σ H Q I ⟨m, sl, h, r, q⟩ => ?_⟩
  rw [ev] at q
  have q2 := row1 (a := a) (Q' := fun v H1 => ∃ (l : Addr) (ns : List Int), v = .ref l ∧ Rd H1 l (.lst (ns.map V.int)) ∧ ns.length ≤ 4000 ∧ Q (.int (dedup [] (ns.map Ma.D.int)).length) H1) r q fun m1 t h1 v H1 r1 y1 q1 o1 p1 => by
    obtain ⟨t', e, p2⟩ := optE_ok p1
    obtain ⟨ds, ei, e2⟩ := Option.bind_eq_some_iff.mp (show (itL t).bind (fun xs => if xs.all isI && Nat.ble xs.length 4000 then some (.fz (.int (dedup [] xs).length)) else none) = some t' from e)
    obtain ⟨l, ws, rfl, rd, rp⟩ := itL_rd q1 ei
    by_cases ok : (ds.all isI && Nat.ble ds.length 4000) = true
    · rw [if_pos ok] at e2
      cases e2
      rw [Bool.and_eq_true] at ok
      obtain ⟨ns, rfl⟩ := all_ints ok.1
      have ew := rps_ints rp
      subst ew
      exact ⟨l, ns, rfl, rd, by simpa using ok.2, PostT.fz (d := .int _) p2 r1.hp rfl⟩
    · rw [if_neg ok] at e2; cases e2
  refine PyProof.Rows.Call_ (ld_blt I gl own bt_len (PyProof.Rows.callWith_method1 (first := []) (?_ : wpAny _ _ (spliced ((false, eval _ X.env) :: backTo pos (starEach [] X.env))) _ _ _) rfl rfl))
  refine Calls.spliced_cons (PyProof.Rows.Call_ (ld_blt I gl2 own2 bt_set (PyProof.Rows.callWith_type1 (thn ((tr_cons1 ha e1).run pos2 pins s σ H (fun us H1 => ∃ (l : Addr) (ns : List Int), us = [.ref l] ∧ Rd H1 l (.lst (ns.map V.int)) ∧ ns.length ≤ 4000 ∧ Q (.int (dedup [] (ns.map Ma.D.int)).length) H1) I ?_) ?_) e1 rfl)))
  · refine ⟨m, sl, h, r, Pst.mono q2 fun v H1 ⟨l, ns, e, z⟩ => ?_⟩
    exact ⟨l, ns, by rw [e], z⟩
  rintro us s1 ⟨vs, H1, I1, rv, l, ns, rfl, rd, few, q⟩
  obtain ⟨u, rfl, ru⟩ := vals1 rv
  obtain rfl : u = Value.ref l := ru
  obtain ⟨its, r, pl, _⟩ := I1.list (.inl rd)
  have len1 : its.toArray.size = ns.length := by rw [List.size_toArray, ← r.length, List.length_map]
  refine PySem.call_set_list (I1.ok.hd calm) pl.isList (by simpa using RZ.intsAre_vals r) (by rw [len1]; unfold scanBound; omega) fun h' tk hS hk => ?_
  refine Calls.spliced_nil ?_
  rw [len1, first_len] at hS
  obtain ⟨o, es, ep, t, ho, hex, hd, _, _, _, hf, hn⟩ := hS
  have I2 : L2.Inv X pins σ H1 { s1 with heap := h', toks := tk } := I1.kept fun b o e => hk b o (Heap.lt_size e) e
  have le : (dedup [] (ns.map Ma.D.int)).length ≤ ns.length := by
    rw [← first_len]
    exact PyProof.Rows.firstMet_length_le _ _
  exact call_len_set ho hex hd hf (by rw [hn] <;> omega) ⟨.int (dedup [] (ns.map Ma.D.int)).length, H1, I2.tok _, ⟨_, by rw [hn]⟩, q⟩
end
end Ma
set_option maxHeartbeats 4000000
/-! sorted(set(a list of ints)). -/
namespace Ma
open PySem PySem.Spec L2 PyProof.Rows
section
variable {P : Program} {w : World} {A : Around} {E : Value → Shared → Prop} {s : Shared}
/-- the loop that fills it -/
theorem fill_ints {I S : Addr} {fp wr : List Addr} {n : Nat} {Pv : Nat → Value → Prop} {St : Nat → Heap → Prop} {R : Result → Shared → Prop} (W : Walks P w A.in1 I fp wr n Pv St) (out : S ∉ fp) (ks : List Int) (hn : n = ks.length) (fw : ks.length + 1 < scanBound) (val : ∀ i v, Pv i v → ∃ k t, ks[i]? = some k ∧ v = .int k t)
    (h0 : Heap) (S0 : h0.get? S = none) (w0 : ∀ b ∈ wr, h0.get? b = none) (fin : ∀ h tk c, SetR w h S (fun j => decide (j ∈ ks)) c → c ≤ n → (∀ b o, h0.get? b = some o → h.get? b = some o) → R (.ok (.ret .none)) { s with heap := h, toks := tk }) (left : Nat) :
    ∀ (i : Nat) (h : Heap) (tk c : Nat), i + left = n → St i h → (∀ b o, h0.get? b = some o → h.get? b = some o) → c ≤ i → SetR w h S (fun j => decide (j ∈ ks.take i)) c → codeAny (model P w) A (.builtin "set.update.loop" ⟨[.ref S, .ref I], []⟩) R { s with heap := h, toks := tk } := by
  have Sw : S ∉ wr := fun m => out (W.sub _ m)
  have on : ∀ {h h' : Heap}, (∀ b o, b ∉ wr → h.get? b = some o → h'.get? b = some o) → (∀ b o, h0.get? b = some o → h.get? b = some o) → ∀ b o, h0.get? b = some o → h'.get? b = some o := fun k k0 b o e => k b o (fun m => by rw [w0 b m] at e; cases e) (k0 b o e)
  induction left with
  | zero =>
    rintro i h tk c rfl st k0 le T
    refine codeAny_builtin PyProof.Rows.F.entry_set_update_loop ?_
    rw [Around.under_plainId PyProof.Rows.F.plain_set_update_loop _]
    refine wpAny_bind (W.done { s with heap := h, toks := tk } _ _ st fun h' tk' k => (?_ : wpAny _ A.in1 (ret Value.none) _ _ _))
    rw [List.take_of_length_le (by omega)] at T
    exact wpAny_pure (fin h' tk' c (T.at fun o e => k S o Sw e) le (on k k0))
  | succ left ih =>
    rintro i h tk c en st k0 le T
    refine codeAny_builtin PyProof.Rows.F.entry_set_update_loop ?_
    rw [Around.under_plainId PyProof.Rows.F.plain_set_update_loop _]
    refine wpAny_bind (W.item i { s with heap := h, toks := tk } _ _ (by omega) st fun v h' tk' pv st' k => ?_)
    obtain ⟨z, t, ez, rfl⟩ := val i v pv
    have k0' := on k k0
    have T' := T.at fun o e => k S o Sw e
    change wpAny _ A.in1 (holding [Value.int z t] (setAdd S (.int z t)) >>= _) _ _ _
    refine wpAny_bind (wpAny_holding ?_)
    unfold setAdd
    refine wpAny_holding (wpAny_bind ((intKind P w).pyHash (k := z) (intKind_is _ _ _ _) ?_))
    refine setR_add_hashed (s := ⟨h', s.gens, s.drawn, tk' + 1, s.os⟩) T' (by omega) fun h2 sb T2 => ?_
    have k2 : ∀ b o, h0.get? b = some o → h2.get? b = some o := fun b o e => (sb.2 b fun y => by rw [y, S0] at e; cases e).trans (k0' b o e)
    have T3 : SetR w h2 S (fun j => decide (j ∈ ks.take (i + 1))) (if decide (z ∈ ks.take i) = true then c else c + 1) := T2.congr fun j => by
      rw [List.take_add_one, ez]
      simp [List.mem_append]
    exact wpAny_pure ⟨plainId_quiet PyProof.Rows.F.plain_set_update_loop _, ih (i + 1) h2 _ _ (by omega) (W.frame _ _ _ st' fun b m o e => (sb.2 b fun y => out (y ▸ m)).trans e) k2 (by split <;> omega) T3⟩
/-- set(a list of ints) -/
theorem set_ints {l : Addr} {items : Array Value} (ks : List Int) {Q : Value → Shared → Prop} (calm : A.handled = none) (hl : s.heap.IsList l items) (hit : PyProof.Rows.IntsAre items.toList ks) (fw : ks.length + 1 < scanBound)
    (q : ∀ (h' : Heap) (tk c : Nat), SetR w h' s.heap.objs.size (fun j => decide (j ∈ ks)) c → c ≤ ks.length → (∀ b o, s.heap.get? b = some o → h'.get? b = some o) → Q (.ref s.heap.objs.size) { s with heap := h', toks := tk }) : wpAny (model P w) A (call (.type "set") [.ref l]) Q E s := by
  have isz : items.size = ks.length := by
    have z := hit.length
    rw [Array.length_toList] at z
    exact z
  refine call_set_by (Q1 := fun o s1 => o = .ref s.heap.objs.size ∧ s1 = { s with heap := s.heap.push (newSetObj w) }) (code_set_led1 _ ⟨rfl, rfl⟩) ?_
  rintro o s1 ⟨rfl, rfl⟩
  have atS : (s.heap.push (newSetObj w)).get? s.heap.objs.size = some (newSetObj w) := Heap.get?_push_size _ rfl
  refine ⟨⟨_, atS, rfl⟩, ?_⟩
  obtain ⟨⟨oc, od, odt, osl⟩, eo, ec, n, ed⟩ := id hl
  dsimp only at ec ed
  subst ec ed
  have eo1 : (s.heap.push (newSetObj w)).get? l = some { cls := .type "list", dict := od, data := .seq items n, slots := osl } := Heap.get?_push_of_some _ eo
  have t1 := F.sub_list_set
  have t2 := F.sub_list_frozenset
  have t3 : (Value.type "list" == Value.type "dict") = false := by decide
  unfold Builtin.«set.__init__» noKeywords Builtin.Frozenset.updateFrom
  generalize iter_ : pyIter = it
  wp_walk
  subst iter_
  have ll : l < s.heap.objs.size := Heap.lt_size eo
  have size1 : (s.heap.push (newSetObj w)).objs.size = s.heap.objs.size + 1 := Heap.size_push ..
  have lst1 : (s.heap.push (newSetObj w)).IsList l items := ⟨_, eo1, rfl, n, rfl⟩
  have none_ : ∀ {b}, s.heap.objs.size ≤ b → s.heap.get? b = none := fun {b} le => by
    cases e : s.heap.get? b with
    | none => rfl
    | some o => exact absurd (Heap.lt_size e) (Nat.not_lt.mpr le)
  refine wpAny_pyIter_list lst1 (wpAny_bind (wpAny_runValue ?_))
  have ne1 : l ≠ (s.heap.push (newSetObj w)).objs.size := by rw [size1]; exact Nat.ne_of_lt (Nat.lt_succ_of_lt ll)
  have calm1 : A.in1.in1.in1.handled = none := calm
  refine fill_ints (s := s) (Walks.list calm1 _ l ne1 items) (S := s.heap.objs.size) (by
    rw [size1]
    simp only [List.mem_cons, List.not_mem_nil, or_false, not_or]
    exact ⟨Nat.ne_of_lt (Nat.lt_succ_self _), Nat.ne_of_gt ll⟩) ks isz fw (fun i v e => ?_) s.heap (none_ (Nat.le_refl _)) (fun b m => none_ (by rw [List.mem_singleton.mp m, size1]; exact Nat.le_succ _)) (fun h tk c T le k0 => ?_) items.size 0 _ s.toks 0 (Nat.zero_add _) ⟨⟨_, Heap.get?_push_size _ rfl, rfl, rfl⟩, lst1.push _⟩ (fun b o e => Heap.get?_push_of_some _ (Heap.get?_push_of_some _ e)) (Nat.le_refl _) (setR_new_at (ns := ks) (Heap.get?_push_of_some _ atS))
  · have z : items.toList[i]? = some v := by simpa using e
    obtain ⟨k, t, e1, e2⟩ := hit.at i v z
    exact ⟨k, t, e2, e1⟩
  · rw [isz] at le
    exact wpAny_pure (wpAny_pure ⟨rfl, q h tk c T le k0⟩)
end
end Ma
namespace Ma
open PySem PySem.Spec L2 PyProof.Rows
variable [TB]
theorem sort_ints : ∀ {ns : List Int}, ns.Pairwise (· < ·) → sortB (ns.map Ma.D.int) = ns.map Ma.D.int
  | [], _ => rfl
  | [x], _ => rfl
  | x :: y :: r, h => by
    have i := sort_ints (List.pairwise_cons.mp h).2
    rw [List.map_cons, sortB, i, List.map_cons, insB]
    have lt : x < y := (List.pairwise_cons.mp h).1 y List.mem_cons_self
    have e : dltB (.int y) (.int x) = false := by
      simp [dltB]
      omega
    rw [e]
    rfl
theorem vals_ints_ : ∀ {ns : List Int} {us : List Value}, IntsAre us ns → Vals (ns.map V.int) us
  | _, _, .nil => .nil
  | _, _, .cons n t h => .cons ⟨t, rfl⟩ (vals_ints_ h)
section
variable {X : Cx} {pins : List (Addr × Obj)} {σ : L2.St} {H : Hp} {s : Shared} {m : List Addr}
theorem call_isset {l : Addr} {ns : List Int} {Q : VK} {A : Around} {E : Value → Shared → Prop} (calm : A.handled = none) (I : L2.Inv X pins σ H s) (hl : Rd H l (.lst (ns.map V.int))) (few : ns.length < 64) (kin : Kin (ns.map Ma.D.int))
    (q : ∀ p vs, H p = none → Rps m H (sortB (dedup [] (ns.map Ma.D.int))) vs → Q (.ref p) (upd H p (.lst vs))) :
    wpAny (model X.prog X.w) A (call (.type "set") [.ref l]) (fun u s1 => wpAny (model X.prog X.w) A (call (.builtin "sorted") [u]) (fun v s2 => ∃ y H2, L2.Inv X pins σ H2 s2 ∧ RelV y v ∧ Q y H2) E s1) E s := by
  obtain ⟨its, rv, pl, _⟩ := I.list (.inl hl)
  refine set_ints ns calm pl.isList (by simpa using RZ.intsAre_vals rv) (by unfold scanBound; omega) fun h1 tk c R le k1 => ?_
  refine sorted_set (s := { s with heap := h1, toks := tk }) R calm (by omega) fun s2 p out cc ns2 k2 g2 o2 big atp hI pw mem len => ?_
  have lt1 : s.heap.objs.size < h1.objs.size := R.lt
  have le2 : s.heap.objs.size ≤ p := Nat.le_trans (Nat.le_of_lt lt1) big
  have nH : H p = none := I.hok.fresh le2
  have keep : ∀ b o, s.heap.get? b = some o → s2.heap.get? b = some o := fun b o e => k2 b o (k1 b o e)
  have len2 : ns2.length ≤ 64 := by rw [len]; omega
  have okL : ObjOk X.prog X.w (upd H p (.lst (ns2.map V.int))) s2.heap p (.lst (ns2.map V.int)) :=
    ⟨by rw [List.length_map, sizeLine_eq]; omega, out.toList, cc, vals_ints_ hI, by simpa using atp⟩
  have same : sortB (dedup [] (ns.map Ma.D.int)) = ns2.map Ma.D.int := by
    obtain ⟨dn, dm⟩ := dedup_spec kin (ns.map Ma.D.int) [] (fun _ h => h) nofun .nil
    have nd2 : (ns2.map Ma.D.int).Nodup := by
      refine List.Pairwise.map _ (fun a b h z => ?_) pw
      cases z
      exact absurd h (by omega)
    have pm : (ns2.map Ma.D.int).Perm (dedup [] (ns.map Ma.D.int)) := (List.perm_ext_iff_of_nodup nd2 dn).mpr fun y => by
      rw [dm]
      constructor
      · intro my
        obtain ⟨k, mk, rfl⟩ := List.mem_map.mp my
        exact .inr (List.mem_map_of_mem (of_decide_eq_true ((mem k).mp mk)))
      · rintro (my | my)
        · cases my
        · obtain ⟨k, mk, rfl⟩ := List.mem_map.mp my
          exact List.mem_map_of_mem ((mem k).mpr (decide_eq_true mk))
    rw [← sortB_perm (kin.sub fun y my => by rcases (dm y).mp my with z | z; cases z; exact z) pm]
    exact sort_ints pw
  refine ⟨.ref p, _, I.call' (s' := s2) (ch := []) o2 (Un.laid keep le2 nH) (I.hok.laid keep le2 okL) (by rw [g2]; exact I.bare) (fun b z => absurd z (by simp)), rfl, q p (ns2.map V.int) nH ?_⟩
  rw [same]
  exact ints_rps' ns2
where ints_rps' {m : List Addr} {H : Hp} : ∀ l : List Int, Rps m H (l.map Ma.D.int) (l.map V.int)
  | [] => rfl
  | _ :: r => ⟨_, _, rfl, rfl, ints_rps' r⟩
end
end Ma
namespace Ma
open PySem PySem.Spec L2
variable [TB]
section
variable {X : Cx} {G : GC} {Φ : Cal} {x : List Ma.D} {W : WX}
theorem se_sset {y1 : Expr} {a : E} {p p2 pos pos2 : Pos} (calm : X.calm = true) (hu : X.A.units + 100 < cLine) (gl : Gl X "sorted") (own : X.mg "sorted" = none) (gl2 : Gl X "set") (own2 : X.mg "set" = none) (ha : PE X y1 (tr G Φ x W a))
    (e1 : starEach [y1] X.env = (false, eval y1 X.env) :: starEach [] X.env := by rfl) :
    PE X (.Call (.Name "sorted" p) [.Call (.Name "set" p2) [y1] [] pos2] [] pos) (te G Φ x W (.b1 .sset a)) := by
  refine ⟨fun pins s σ H Q I ⟨m, sl, h, r, q⟩ => ?_⟩
  rw [ev] at q
  have q2 := row1 (a := a) (Q' := fun v H1 => ∃ (m1 : List Addr) (l : Addr) (ds : List Ma.D) (ws : List V), v = .ref l ∧ Rps m1 H1 ds ws ∧ (((Rd H1 l (.lst ws) ∨ H1 l = some (.tup ws)) ∧ okSet ds = true) ∨ (Rd H1 l (.lst ws) ∧ okSetI ds = true)) ∧ ∀ q vs, H1 q = none → Rps m1 H1 (sortB (dedup [] ds)) vs → Q (.ref q) (upd H1 q (.lst vs))) r q fun m1 t h1 v H1 r1 y1 q1 o1 p1 => by
    obtain ⟨t', e, p2⟩ := optE_ok p1
    by_cases tp : ∃ xs, t = .fz (.tup xs)
    · obtain ⟨xs, rfl⟩ := tp
      obtain ⟨l, ws, rfl, rd, rp⟩ := q1
      have e2 : (if okSet xs then some (mkL (sortB (dedup [] xs))) else none) = some t' := e
      by_cases ok : okSet xs = true
      · rw [if_pos ok] at e2
        cases e2
        exact ⟨m1, l, xs, ws, rfl, rp, .inl ⟨.inr rd, ok⟩, fun q vs nq rq => p2.lst r1.hp nq rq⟩
      · rw [if_neg ok] at e2; cases e2
    · have e3 : (itL t).bind (fun xs => if okSet xs || okSetI xs then some (mkL (sortB (dedup [] xs))) else none) = some t' := by
        rw [← e]
        show _ = bSset t
        unfold bSset
        split
        · rename_i xs; exact absurd ⟨xs, rfl⟩ tp
        · rfl
      obtain ⟨ds, ei, e2⟩ := Option.bind_eq_some_iff.mp e3
      obtain ⟨l, ws, rfl, rd, rp⟩ := itL_rd q1 ei
      by_cases ok : (okSet ds || okSetI ds) = true
      · rw [if_pos ok] at e2
        cases e2
        refine ⟨m1, l, ds, ws, rfl, rp, ?_, fun q vs nq rq => p2.lst r1.hp nq rq⟩
        rcases (Bool.or_eq_true _ _).mp ok with z | z
        · exact .inl ⟨.inl rd, z⟩
        · exact .inr ⟨rd, z⟩
      · rw [if_neg ok] at e2; cases e2
  refine PyProof.Rows.Call_ (ld_blt I gl own bt_sorted (PyProof.Rows.callWith_method1 (first := []) (?_ : wpAny _ _ (spliced ((false, eval _ X.env) :: backTo pos (starEach [] X.env))) _ _ _) rfl rfl))
  refine Calls.spliced_cons (PyProof.Rows.Call_ (ld_blt I gl2 own2 bt_set (PyProof.Rows.callWith_type1 (thn ((tr_cons1 ha e1).run pos2 pins s σ H (fun us H1 => ∃ (m1 : List Addr) (l : Addr) (ds : List Ma.D) (ws : List V), us = [.ref l] ∧ Rps m1 H1 ds ws ∧ (((Rd H1 l (.lst ws) ∨ H1 l = some (.tup ws)) ∧ okSet ds = true) ∨ (Rd H1 l (.lst ws) ∧ okSetI ds = true)) ∧ ∀ q vs, H1 q = none → Rps m1 H1 (sortB (dedup [] ds)) vs → Q (.ref q) (upd H1 q (.lst vs))) I ?_) ?_) e1 rfl)))
  · exact ⟨m, sl, h, r, Pst.mono q2 fun v H1 ⟨m1, l, ds, ws, e, z⟩ => ⟨m1, l, ds, ws, by rw [e], z⟩⟩
  rintro us s1 ⟨vs, H1, I1, rv, m1, l, ds, ws, rfl, rp, ok, q⟩
  obtain ⟨u, rfl, ru⟩ := vals1 rv
  cases ru
  rcases ok with ⟨rd, ok⟩ | ⟨rd, ok⟩
  · exact wpAny_mono (call_sset (A := X.A) (I1.ok.hd calm) hu I1 rd rp ok q) (fun v s2 z => Calls.spliced_nil z) fun _ _ z => z
  · unfold okSetI at ok
    rw [Bool.and_eq_true, Bool.and_eq_true] at ok
    obtain ⟨o1, o2, o3⟩ := ok
    obtain ⟨ns, rfl⟩ := all_ints o1
    have ew := rps_ints rp
    subst ew
    exact wpAny_mono (call_isset (A := X.A) (I1.ok.hd calm) I1 rd (by simpa using o2) (okSort_kin o3).1 q) (fun v s2 z => Calls.spliced_nil z) fun _ _ z => z
end
end Ma
set_option maxHeartbeats 4000000
/-! Three names at once, the second one an own list. -/
namespace Ma
open PySem PySem.Spec L2
variable [TB]
section
variable {G : GC} {Φ : Cal} {x : List D} {W : WX} {X : Cx} {m0 m m' : List Addr} {σ : L2.St} {H0 H H' : Hp} {Q Q' : VK}
theorem ss_par3o {i j l : Nat} {y1 y2 y3 : Str} {e1 e2 e3 : Expr} {a b c : E} {p1 p2 p3 pt pos : Pos} {kt k2 pt2} (hc : X.calm = true) (hN : X.N.Nodup) (hi : X.N[i]? = some y1) (hj : X.N[j]? = some y2) (hl : X.N[l]? = some y3) (hij : i ≠ j) (hil : i ≠ l) (hjl : j ≠ l)
    (h1 : X.env.scope.names.lookup y1 = some .local) (h2 : X.env.scope.names.lookup y2 = some .local) (h3 : X.env.scope.names.lookup y3 = some .local) (ha : PE X e1 (te G Φ x W a)) (hb : PE X e2 (te G Φ x W b)) (hc3 : PE X e3 (te G Φ x W c))
    (hw : swappedStores [.Tuple [.Name y1 p1, .Name y2 p2, .Name y3 p3] kt pt] (.Tuple [e1, e2, e3] k2 pt2) X.env = pure (some [y1, y2, y3]))
    (hs : swapsWithSole [.Tuple [.Name y1 p1, .Name y2 p2, .Name y3 p3] kt pt] (.Tuple [e1, e2, e3] k2 pt2) pos.line X.env = pure false := by rfl)
    (s1 : starEach [e1, e2, e3] X.env = (false, eval e1 X.env) :: starEach [e2, e3] X.env := by rfl) (s2 : starEach [e2, e3] X.env = (false, eval e2 X.env) :: starEach [e3] X.env := by rfl) (s3 : starEach [e3] X.env = (false, eval e3 X.env) :: starEach [] X.env := by rfl) :
    PS X (.Assign [.Tuple [.Name y1 p1, .Name y2 p2, .Name y3 p3] kt pt] (.Tuple [e1, e2, e3] k2 pt2) pos) (ts G Φ x W m0 H0 (.par [(i, false), (j, true), (l, false)] [a, b, c])) := by
  refine PSimp (L2.ps_par3 hc hN hi hj hl hij hil hjl h1 h2 h3 (pa_cons (sf_of ha) (pa_cons hb (pa_cons (sf_of hc3) pa_nil s3) s2) s1) hw hs) ?_
  rintro D σ H ⟨m, s, h, q, p⟩
  rw [ex, parGo] at p
  refine ⟨m, s, h, q.sr, PstS.goz q p ?_⟩
  intro m1 d1 h1 v1 H1 q1 _ r1 p1
  rw [parGo] at p1
  refine ⟨m1, s, h1, q1.sr, PstS.go (s := s) q1 p1 ?_⟩
  intro m2 t2 h2 v2 H2 q2 y2 rt own p2
  rw [parGo] at p2
  refine ⟨m2, s, h2, q2.sr, PstS.goz q2 p2 ?_⟩
  intro m3 d3 h3 v3 H3 q3 y3 r3 p3
  rw [parGo] at p3
  have up1 : Rp m3 H3 d1 v1 := Rp.per ((y2.comp q2.sr.hp y3).per q1.sr.hp) _ _ r1
  have nx := rt.next q2.sr.hp y3 fun o a e => (own o a e).1
  have z1 := q3.set (i := i) (t := .fz d1) up1 fun o => nomatch o
  have z2 : SF m0 H0 m3 (setT (setT s i (.fz d1)) j t2) h3 ((σ.set i (some v1)).set j (some v2)) H3 := z1.set nx.1 fun o a e => ⟨nx.2 o a e, q1.ex.none q1.sr.hp ((own o a e).2 rfl), fun k u _ ek ou w => by
    rw [setT_at] at ek
    by_cases c : i = k ∧ k < s.length
    · rw [if_pos c] at ek
      cases ek
      cases ou
    · rw [if_neg c] at ek
      have hk := (List.getElem?_eq_some_iff.mp ek).1
      rw [List.getElem?_set_ne (fun z => c ⟨z, hk⟩)] at w
      obtain ⟨ob, eo, _⟩ := q1.sr.taken ek ou w
      rw [(own o a e).2 rfl] at eo
      cases eo⟩
  have z3 := z2.set (i := l) (t := .fz d3) r3 fun o => nomatch o
  exact ⟨v1, v2, v3, rfl, p3 m3 _ H3 z3 Per.refl⟩
end
end Ma
set_option maxHeartbeats 4000000
/-! A call of an own class of errors with keywords. -/
namespace Ma
open PySem PySem.Spec PySem.Calls L2
open PyProof.Rows hiding wpAt
section
variable {prog : Program} {w : World} {A : Around} {R : Result → Shared → Prop} {h : Heap} {g : Array GenState} {d : Drawn} {t : Nat} {os : OsState}
variable {nm q : Str} {C N fI : Addr} {bs bm tl : List Value} {hdct : Bool} {sn : List Str} {sub : List Value} {ab : Bool} {col : Option Bool} {dd : Option Addr} {k0 k1 k2 k3 k5 : Option Value} {B nw ini : String} {us : List Value} {kw : List (Str × Value)}
/-- the row of B.__new__ lets keywords pass: its check is that of a call without them -/
theorem kw_idle (F : ExcBaseFacts B nw ini tl) : checkBuiltinCall nw ⟨.ref C :: us, kw⟩ = checkBuiltinCall nw ⟨.ref C :: us, []⟩ := by
  unfold checkBuiltinCall
  rw [F.newRow, F.newKind, F.newSplit]
  rfl
/-- the heap with the new error, its arguments in a tuple -/
abbrev born (h : Heap) (C : Addr) (us : List Value) : Heap := (h.push (PySem.W.kdv_tup us)).push (PySem.HandSPX.excO C h.objs.size)
/-- a tree that asks first whose activation runs -/
theorem stack_first {α β : Type} {M : Model} {c : Code} {f : List (Code × Pos) → Sem α} {k : α → Sem β} {a : α} {Q : β → Shared → Prop} {E : Value → Shared → Prop} {s : Shared} (e : ∀ p l, f ((c, p) :: l) = pure a) (go : wpAny M A (k a) Q E s) : PyProof.Rows.wpAt M A c ((stack >>= f) >>= k) Q E s := by
  rintro Γ p rfl i
  have at_ := go Γ p i
  rw [Sem.wp_bind', Sem.wp_bind']
  show Sem.wp M Γ (f ((Γ.code, p) :: Γ.below)) _ _ p s
  rw [e]
  exact at_
theorem born_body (F : ExcBaseFacts B nw ini tl) (over : ∀ X : String, bm.contains (.type X) = tl.contains (.type X)) (atC : h.get? C = some (excClassObj nm q C N bs bm hdct sn sub ab col dd k0 k1 k2 k3 k5 nw)) (few : us.length ≤ sizeLine) {Q : Fin → Shared → Prop} {E : Value → Shared → Prop}
    (go : Q (.done (.ret (.ref (h.objs.size + 1)))) ⟨born h C us, g, d, t, os⟩) : PyProof.Rows.wpAt (model prog w) A (.builtin nw ⟨.ref C :: us, kw⟩) (Builtin.«BaseException.__new__» ⟨.ref C :: us, kw⟩) Q E ⟨h, g, d, t, os⟩ := by
  have sub_ : ∀ {X : String} {b : Bool}, tl.contains (.type X) = b → PySem.W.Looks (model prog w) h (isSubtype (.ref C) (.type X)) b := fun e A Q E s k q =>
    wpAny_isSubtype_exc (k _ _ atC) (by rw [List.contains_cons, over, e]; exact q)
  have typ_ : PySem.W.Looks (model prog w) h (isType (.ref C)) true := (PySem.W.Looks.ld (part := none) atC).andThen .now
  have mine : PySem.W.Looks (model prog w) h (Bind.madeHere "BaseException.__new__" (.ref C)) () := fun A Q E s k q => wpAny_madeHere_exc F.canon (k _ _ atC) q
  refine stack_first (a := B) (fun p l => ?_) ?_
  · dsimp only
    rw [if_pos F.ends, F.owner]
  · refine wpAny_bind (typ_.at (wpAny_bind ((sub_ F.hasB).at (wpAny_bind (mine.at (wpAny_bind (PySem.W.Looks.at (r := 0) ((sub_ F.noAttr).andThen ((sub_ F.noName).andThen .now)) ?_)))))))
    refine wpAny_bind (wpAny_newTuple ?_ few)
    have stays := Heap.get?_push_of_some (PySem.W.kdv_tup us) atC
    have far := Heap.get?_push_of_some (PySem.HandSPX.excO C h.objs.size) stays
    have size_ : (h.push (PySem.W.kdv_tup us)).objs.size = h.objs.size + 1 := Heap.size_push ..
    show wpAny _ _ (newObj _ (.fields #[.ref h.objs.size, .none, .none, .none, .bool false, .none]) >>= _) _ _ _
    have born_ : wpAny (model prog w) A (newObjAsIs (.ref C) (.fields #[.ref h.objs.size, .none, .none, .none, .bool false, .none])) (fun v s' => Q (.done (.ret v)) s') E ⟨h.push (PySem.W.kdv_tup us), g, d, t, os⟩ := by
      simp only [newObjAsIs, classHasDel]
      refine wpAny_bind (wpAny_alloc (wpAny_bind (wpAny_bind (wpAny_load far (wpAny_pure (wpAny_pure ?_))))))
      show Q (.done (.ret (.ref (h.push (PySem.W.kdv_tup us)).objs.size))) _
      rw [size_]
      exact go
    exact wpAny_bind (wpAny_mono born_ (fun v s' z => wpAny_pure z) fun _ _ z => z)
theorem born_keeps {b : Addr} {o : Obj} (e : h.get? b = some o) : (born h C us).get? b = some o := Heap.get?_push_of_some _ (Heap.get?_push_of_some _ e)
theorem born_at : (born h C us).get? (h.objs.size + 1) = some (PySem.HandSPX.excO C h.objs.size) := by heap_get
/-- B.__new__(C, .., k = v ..): keywords are passed over -/
theorem born_by (F : ExcBaseFacts B nw ini tl) (over : ∀ X : String, bm.contains (.type X) = tl.contains (.type X)) (atC : h.get? C = some (excClassObj nm q C N bs bm hdct sn sub ab col dd k0 k1 k2 k3 k5 nw)) (few : us.length ≤ sizeLine)
    (go : R (.ok (.ret (.ref (h.objs.size + 1)))) ⟨born h C us, g, d, t, os⟩) : codeAny (model prog w) A (.call (.builtin nw) ⟨.ref C :: us, kw⟩) R ⟨h, g, d, t, os⟩ :=
  codeAny_call_builtin_code (Code.quiet_builtin _ F.quiet) (kw_idle (us := us) (kw := kw) (C := C) F ▸ HandSPX.check_new_own F over atC (codeAny_builtinAt F.entry (born_body F over atC few go)))
/-- C(.., k = v ..): the error is born, its own __init__ runs on it -/
theorem born_call (F : ExcBaseFacts B nw ini tl) (over : ∀ X : String, bm.contains (.type X) = tl.contains (.type X)) (atC : h.get? C = some (excClassObj nm q C N bs bm hdct sn sub ab col dd k0 k1 k2 k3 k5 nw)) (few : us.length ≤ sizeLine)
    (init : PySem.W.Looks (model prog w) h (typeLookup (.ref C) "__init__") (some (.ref fI))) (binds : ∀ o, PySem.W.Looks (model prog w) h (bindSpecial (.ref fI) o) (.ref fI, [o]))
    (go : codeAny (model prog w) (A.under (.builtin "type.__call__" ⟨.ref C :: us, kw⟩)) (.call (.ref fI) ⟨.ref (h.objs.size + 1) :: us, kw⟩) (PySem.W.InitBack (h.objs.size + 1) R) ⟨born h C us, g, d, t, os⟩) :
    codeAny (model prog w) A (.call (.ref C) ⟨us, kw⟩) R ⟨h, g, d, t, os⟩ := by
  -- what is asked of the class alone
  have type_ : PySem.W.Looks (model prog w) h (typeOf (.ref C)) (.type "type") := (PySem.W.Looks.ld (part := none) atC).andThen .now
  have is_ : PySem.W.Looks (model prog w) h (isInstance (.ref C) (.type "type")) true := type_.andThen (PySem.W.Looks.of_pure tc_sub)
  have dunder : PySem.W.Looks (model prog w) h (specialOf (.ref C) "__call__") (some (.builtin "type.__call__")) := type_.andThen (PySem.W.Looks.of_pure tc_lookup)
  have bound : PySem.W.Looks (model prog w) h (bindSpecial (.builtin "type.__call__") (.ref C)) (.builtin "type.__call__", [.ref C]) := PySem.W.Looks.of_pure (tc_bind _)
  have plain_ : PySem.W.Looks (model prog w) h (callAny.plainCallee (.builtin "type.__call__")) true := PySem.W.Looks.of_pure rfl
  have via : PySem.W.Looks (model prog w) h (callAny.viaDunder (.ref C) ⟨us, kw⟩) (.again (.call (.builtin "type.__call__") ⟨.ref C :: us, kw⟩)) := by
    refine dunder.andThen ?_
    show PySem.W.Looks _ _ (bindSpecial _ _ >>= _) _
    refine bound.andThen ?_
    show PySem.W.Looks _ _ (callAny.plainCallee _ >>= _) _
    exact plain_.andThen .now
  have order : PySem.W.Looks (model prog w) h (mroOf (.ref C)) (.ref C :: bm) := fun A' Q E s k q => wpAny_mroOf_exc (k _ _ atC) q
  have made : PySem.W.Looks (model prog w) h (Bind.madeBy (.ref C)) (some nw) := fun A' Q E s k q => wpAny_madeBy_exc (k _ _ atC) q
  -- what is asked of the new error
  have kept : ∀ b o, h.get? b = some o → (born h C us).get? b = some o := fun b o => born_keeps
  have tyE : PySem.W.Looks (model prog w) (born h C us) (typeOf (.ref (h.objs.size + 1))) (.ref C) := (PySem.W.Looks.ld (part := none) born_at).andThen .now
  have ofC : PySem.W.Looks (model prog w) (born h C us) (isSubtype (.ref C) (.ref C)) true := fun A' Q E s k q => wpAny_isSubtype_exc (k _ _ (kept _ _ atC)) (by rw [show (Value.ref C :: bm).contains (.ref C) = true by simp]; exact q)
  refine codeAny_of_tree (wpAny_bind (wpAny_load atC (via.at (Q := fun fin s' => match fin with | .done f => R (.ok f) s' | .again c' => c'.quiet = true ∧ codeAny (model prog w) A c' R s') ⟨rfl, codeAny_call_builtin_at (Code.quiet_builtin _ (by decide +kernel)) entry_typeCall (PySem.W.check_slot tc_kind tc_split is_ (PySem.W.tc_args _ _ _) ?_)⟩)))
  refine wpAny_bind (order.at (wpAny_bind (made.at (wpAny_bind (wpAny_pure (wpAny_bind (wpAny_holding (wpAny_call (born_by F over atC few ?_)))))))))
  have inst : PySem.W.Looks (model prog w) (born h C us) (isInstance (.ref (h.objs.size + 1)) (.ref C)) true := tyE.andThen ofC
  have ini_ : PySem.W.Looks (model prog w) (born h C us) (specialOf (.ref (h.objs.size + 1)) "__init__") (some (.ref fI)) := tyE.andThen (init.keeps kept)
  have self_ := (binds (.ref (h.objs.size + 1))).keeps kept
  refine wpAny_bind (inst.at (wpAny_bind (wpAny_holding ?_)))
  show wpAny _ _ (specialOf _ _ >>= _) _ _ _
  refine wpAny_bind (ini_.at (wpAny_holding (wpAny_bind (self_.at (wpAny_bind (wpAny_call (codeAny_mono go fun r s' back => ?_)))))))
  match r with
  | .error e => exact back
  | .ok (.ret v) =>
    have none_ : v = .none := back.1
    subst none_
    exact wpAny_pure (wpAny_pure back.2)
end
end Ma
set_option maxHeartbeats 4000000
/-! Errors as values: made, kept, asked for their class and their fields. -/
namespace Ma
open PySem PySem.Spec L2
variable [TB]
/-- the promise of an own __init__ that keeps its arguments under the names ns -/
def spE (ns : List Str) (C : Addr) : Sp := fun vs H Q _ => ∃ a us, vs = .ref a :: us ∧ us.length = ns.length ∧ H a = some (exo a C none) ∧
  ∀ x fs, H x = none → x ≠ a → (∀ (i : Nat) n u, ns[i]? = some n → us[i]? = some u → fs.lookup n = some u) → Q .non (upd (upd H x (exd x fs)) a (exo a C (some x)))
section
variable {X : Cx} {pins : List (Addr × Obj)} {σ : L2.St} {H : Hp} {s : Shared} {C fI : Addr} {yB : Str} {B nw ini : String} {tl : List Value} {k : Nat} {fd : FuncData} {ps ns : List Str}
/-- two locked at once: an error and its dict -/
theorem shut {a x : Addr} {fs : List (Str × V)} {H1 : Hp} (I : L2.Inv X pins σ (upd (upd H1 x (exd x fs)) a (exo a C (some x))) s) (ne : x ≠ a) : ∃ o1 o2, L2.Inv X pins σ (upd (upd H1 x (.frz o2 (exd x fs))) a (.frz o1 (exo a C (some x)))) s := by
  obtain ⟨o1, I1⟩ := I.lock upd_same trivial
  obtain ⟨o2, I2⟩ := I1.lock (d := x) (u := exd x fs) (by rw [upd_ne ne, upd_ne ne, upd_same]) trivial
  refine ⟨o1, o2, ?_⟩
  rw [show upd (upd H1 x (.frz o2 (exd x fs))) a (.frz o1 (exo a C (some x))) = upd (upd (upd (upd H1 x (exd x fs)) a (exo a C (some x))) a (.frz o1 (exo a C (some x)))) x (.frz o2 (exd x fs)) from ?_]
  · exact I2
  · funext b
    by_cases e1 : b = a
    · subst e1; rw [upd_same, upd_ne (Ne.symm ne), upd_same]
    · by_cases e2 : b = x
      · subst e2; rw [upd_ne e1, upd_same, upd_same]
      · rw [upd_ne e1, upd_ne e2, upd_ne e2, upd_ne e1, upd_ne e1, upd_ne e2]
/-- C(.., k = v ..) -/
theorem run_err {us : List Value} {kw : List (Str × Value)} {full : List V} {fu : List Value} {Q : VK} (b : Bas yB B nw ini tl) (T : Err X.K nw tl C fI) (F1 : FnOk X.prog X.w X.K X.mg X.base CX0 k fI fd ps (spE ns C)) (hr : Room (k + 1) X.A) (few : us.length ≤ 1000)
    (bi : ∀ (s : Shared) o, X.K.In s.heap → BindsTo s fd ⟨o :: us, kw⟩ (ps.zip (o :: fu))) (rv : Vals full fu) (hl : full.length = ns.length) (I : L2.Inv X pins σ H s)
    (go : ∀ a x fs o1 o2, H a = none → H x = none → x ≠ a → (∀ (i : Nat) n u, ns[i]? = some n → full[i]? = some u → fs.lookup n = some u) → Q (.ref a) (upd (upd H x (.frz o2 (exd x fs))) a (.frz o1 (exo a C (some x))))) :
    wpAny (model X.prog X.w) X.A (call (.ref C) us kw) (EP X pins σ Q) X.xe s := by
  obtain ⟨hp, g, dr, tk, os⟩ := s
  obtain ⟨nm, N, qn, bs, bm, hdct, sn, sub, ab, col, dd, k0, k1, k2, k3, k5, atC, tail⟩ := PySem.W.excInit_of I.kIn T.made
  have new : H (hp.objs.size + 1) = none := I.hok.fresh (Nat.le_succ _)
  have J := I.laid (t' := tk) (a := hp.objs.size + 1) (o := exo (hp.objs.size + 1) C none) (h' := born hp C us) (fun b o z => born_keeps z) (Nat.le_succ _) (exo_ok born_at)
  refine wpAny_call (born_call b.F tail atC (by rw [sizeLine_eq]; omega) (PySem.W.looks_findIn I.kIn T.ini) (fun o => PySem.W.bind_fn I.kIn o T.fty)
    (codeAny_mono (F1.run _ X.stack _ _ ⟨.ref (hp.objs.size + 1) :: us, kw⟩ (.ref (hp.objs.size + 1) :: fu) (.ref (hp.objs.size + 1) :: full)
      (fun u H2 => u = .non ∧ ∃ x fs, H x = none ∧ x ≠ hp.objs.size + 1 ∧ (∀ (i : Nat) n v, ns[i]? = some n → full[i]? = some v → fs.lookup n = some v) ∧ H2 = upd (upd (upd H (hp.objs.size + 1) (exo (hp.objs.size + 1) C none)) x (exd x fs)) (hp.objs.size + 1) (exo (hp.objs.size + 1) C (some x))) (fun _ _ _ => False)
      (hr.make C us kw) (J.env0.make C us kw) (bi _ _ J.kIn) (.cons rfl rv) ⟨_, full, rfl, hl, upd_same, fun x fs nx ne look => ⟨rfl, x, fs, by rw [upd_ne ne] at nx; exact nx, ne, look, rfl⟩⟩) fun r s' z => ?_))
  cases r with
  | error e => exact z.elim
  | ok f =>
    cases f with
    | ret u =>
      obtain ⟨v, H2, I2, ru, rfl, x, fs, nx, ne, look, rfl⟩ := J.after z
      refine ⟨ru, ?_⟩
      rw [show upd (upd (upd H (hp.objs.size + 1) (exo (hp.objs.size + 1) C none)) x (exd x fs)) (hp.objs.size + 1) (exo (hp.objs.size + 1) C (some x)) = upd (upd H x (exd x fs)) (hp.objs.size + 1) (exo (hp.objs.size + 1) C (some x)) from ?_] at I2
      · obtain ⟨o1, o2, I3⟩ := shut I2 ne
        exact ⟨V.ref (hp.objs.size + 1), _, I3, rfl, go _ x fs o1 o2 new nx ne look⟩
      · funext c
        by_cases e1 : c = hp.objs.size + 1
        · rw [e1, upd_same, upd_same]
        · rw [upd_ne e1, upd_ne e1]
          by_cases e2 : c = x
          · rw [e2, upd_same, upd_same]
          · rw [upd_ne e2, upd_ne e2, upd_ne e1]
    | next => exact z.elim
    | brk => exact z.elim
    | cont => exact z.elim
end
/-- a class of errors that are kept as values: its name, its place in the table, its fields -/
structure Klv (P : Program) (w : World) (K : PySem.W.Frag) (mg : Str → Option Value) (base : Heap) (y : Str) (c : Nat) (ns : List Str) (kss : List (List Str × Bool)) : Prop where
  ex : ∃ (C : Addr) (yB : Str) (B nw ini : String) (tl : List Value) (fI : Addr) (fd : FuncData) (ps : List Str), Bas yB B nw ini tl ∧ Err K nw tl C fI ∧ FnOk P w K mg base CX0 1 fI fd ps (spE ns C) ∧ mg y = some (.ref C) ∧ TB.errs[c]? = some (C, ns) ∧
    (∀ (s : Shared) (us : List Value), us.length = ns.length + 1 → BindsTo s fd ⟨us, []⟩ (ps.zip us)) ∧
    ∀ q ∈ kss, ∀ (s : Shared) o (ws : List Value), ws.length = q.1.length → BindsTo s fd ⟨[o], q.1.zip ws⟩ (ps.zip (o :: if q.2 then ws.reverse else ws))
section
variable {G : GC} {Φ : Cal} {x : List Ma.D} {W : WX} {X : Cx}
/-- it stands as data behind the call -/
theorem kept {m : List Addr} {h : RH} {σ : L2.St} {H : Hp} {Q : VK} {c : Nat} {C : Addr} {ns : List Str} {ds : List Ma.D} {full : List V} (rh : RpH m h H) (te_ : TB.errs[c]? = some (C, ns)) (rs : Rps m H ds full) (p : Pst G true W m σ H Q (.ok (.fz (.clo c ds)) h))
    (a y : Addr) (fs : List (Str × V)) (o1 o2 : Obj) (na : H a = none) (ny : H y = none) (ne : y ≠ a) (look : ∀ (i : Nat) n u, ns[i]? = some n → full[i]? = some u → fs.lookup n = some u) :
    Q (.ref a) (upd (upd H y (.frz o2 (exd y fs))) a (.frz o1 (exo a C (some y)))) := by
  have na2 : upd H y (.frz o2 (exd y fs)) a = none := by rw [upd_ne (Ne.symm ne)]; exact na
  have r1 := rh.new (o := .frz o2 (exd y fs)) ny
  have e1 : Ex m H m (upd H y (.frz o2 (exd y fs))) := ex_new ny
  have e2 : Ex m (upd H y (.frz o2 (exd y fs))) m (upd (upd H y (.frz o2 (exd y fs))) a (.frz o1 (exo a C (some y)))) := ex_new na2
  have e := e1.comp r1 e2
  refine p m _ _ e (r1.new na2) ⟨a, C, ns, some y, o1, full, rfl, te_, upd_same, ⟨o2, fs, by rw [upd_ne ne, upd_same], look⟩, Rps.per (e.per rh) _ _ rs⟩ fun o => nomatch o
theorem se_mke {y : Str} {c : Nat} {ns : List Str} {kss : List (List Str × Bool)} {e : Expr} {es : List Expr} {a : E} {p pos : Pos} (V : Klv X.prog X.w X.K X.mg X.base y c ns kss) (hr : Room 2 X.A) (gl : Gl X y) (few : ns.length ≤ 1000) (row : isRow a = true) (n1 : rowN a = ns.length) (ha : PA X (e :: es) (ta G Φ x W a))
    (hdb : (y == ("__debug__" : Str)) = false := by decide) (he : starEach (e :: es) X.env = (false, eval e X.env) :: starEach es X.env := by rfl) (hpl : (backTo pos (starEach es X.env)).any (·.1) = false := by rfl) :
    PE X (.Call (.Name y p) (e :: es) [] pos) (te G Φ x W (.mke c false a)) := by
  obtain ⟨C, yB, B, nw, ini, tl, fI, fd, ps, b, T, F1, hm, te_, bi, _⟩ := V.ex
  refine ⟨fun pins s σ H Q I ⟨m, sl, h, r, q⟩ => ?_⟩
  rw [ev] at q
  have q2 := ta_row (R := fun vs H' => vs.length = ns.length ∧ ∃ m' h' ds, RpH m' h' H' ∧ Rps m' H' ds vs ∧ Pst G true W m' σ H' Q (.ok (.fz (.clo c ds)) h')) row r q fun ds h' m' vs H' r' y rs l q' => ⟨by rw [l, n1], m', h', ds, r'.hp, rs, q'⟩
  refine wpAny_Call_Name_kw (ld_glob I gl hm ?_ hdb)
  refine PySem.W.callWith_K (h₀ := X.base) I.ok.mod.kin T.keep (thn (ha.run pos pins s σ H _ I q2) fun us s1 ⟨vs, H1, I1, rv, l, m', h', ds, rh, rs, p1⟩ => ⟨I1.kIn, ?_⟩) he hpl
  exact run_err (us := us) b T F1 hr (by rw [← rv.length, l]; exact few) (fun s o _ => bi s (o :: us) (by rw [List.length_cons, ← rv.length, l])) rv l I1 fun a y fs o1 o2 na ny ne look => kept rh te_ rs p1 a y fs o1 o2 na ny ne look
theorem Rps.turn {m : List Addr} {H : Hp} {ds : List Ma.D} {vs : List V} (rv : Bool) (r : Rps m H ds vs) : Rps m H (if rv then ds.reverse else ds) (if rv then vs.reverse else vs) := by
  cases rv
  · exact r
  · exact r.rev
theorem se_mkeK {y : Str} {c : Nat} {ns ks : List Str} {rv : Bool} {kss : List (List Str × Bool)} {kws : List Keyword} {a : E} {p pos : Pos} (V : Klv X.prog X.w X.K X.mg X.base y c ns kss) (hr : Room 2 X.A) (gl : Gl X y) (hin : (ks, rv) ∈ kss) (row : isRow a = true) (n1 : rowN a = ns.length) (n2 : ks.length = ns.length) (hkw : PK X kws (ta G Φ x W a))
    (hall : (backToKw pos (keywordEach kws X.env)).all (·.1.isSome) = true := by rfl) (hks : (backToKw pos (keywordEach kws X.env)).filterMap (·.1) = ks := by rfl) (hdb : (y == ("__debug__" : Str)) = false := by decide)
    (hpl : ((backTo pos (starEach [] X.env)).any (·.1) || (backToKw pos (keywordEach kws X.env)).any (·.1.isNone)) = false := by rfl) :
    PE X (.Call (.Name y p) [] kws pos) (te G Φ x W (.mke c rv a)) := by
  obtain ⟨C, yB, B, nw, ini, tl, fI, fd, ps, b, T, F1, hm, te_, _, bi⟩ := V.ex
  refine ⟨fun pins s σ H Q I ⟨m, sl, h, r, q⟩ => ?_⟩
  rw [ev] at q
  have q2 := ta_row (R := fun vs H' => vs.length = ns.length ∧ ∃ m' h' ds, RpH m' h' H' ∧ Rps m' H' ds vs ∧ Pst G true W m' σ H' Q (.ok (.fz (.clo c (if rv then ds.reverse else ds))) h')) row r q fun ds h' m' vs H' r' y rs l q' => ⟨by rw [l, n1], m', h', ds, r'.hp, rs, q'⟩
  refine wpAny_Call_Name_kw (ld_glob I gl hm ?_ hdb)
  refine PySem.W.callWith_KW0 (h₀ := X.base) I.ok.mod.kin T.keep hall ?_ hpl
  refine thn (hkw.run pos pins s σ H _ I q2) fun ws s2 ⟨zs, H2, I2, rz, l, m', h', ds, rh, rs, p1⟩ => ⟨I2.kIn, ?_⟩
  rw [hks]
  have rv2 : Vals (if rv then zs.reverse else zs) (if rv then ws.reverse else ws) := by
    cases rv
    · exact rz
    · exact rz.reverse
  exact run_err (us := []) b T F1 hr (Nat.zero_le _) (fun s o _ => bi _ hin s o ws (by rw [← rz.length, l, n2])) rv2 (by cases rv <;> simp [l]) I2 fun a y fs o1 o2 na ny ne look => kept rh te_ (rs.turn rv) p1 a y fs o1 o2 na ny ne look
end
/-! ### asked for the class, for a field -/
/-- what the written part says of a class whose errors are asked -/
structure XcC (K : PySem.W.Frag) (C : Addr) : Prop extends XfC K C where
  cls : PySem.W.findIn K (.ref C) "__class__" = some (some (.builtin "object.__class__"))
  get : PySem.W.specialIn K (.builtin "object.__class__") "__get__" = some (some (.builtin "getset_descriptor.__get__"))
  takes : PySem.W.takesIn K (.builtin "object.__class__") = some true
  mro : PySem.W.mroIn K C (.type "object") = some true
def xcB (K : PySem.W.Frag) (C : Addr) : Bool := xfB K C && (He.eqO (PySem.W.findIn K (.ref C) "__class__") (some (some (.builtin "object.__class__"))) && (He.eqO (PySem.W.specialIn K (.builtin "object.__class__") "__get__") (some (some (.builtin "getset_descriptor.__get__"))) &&
  (decide (PySem.W.takesIn K (.builtin "object.__class__") = some true) && decide (PySem.W.mroIn K C (.type "object") = some true))))
theorem xcB_ok {K : PySem.W.Frag} {C : Addr} (h : xcB K C = true) : XcC K C := by
  unfold xcB at h
  simp only [Bool.and_eq_true] at h
  obtain ⟨a1, a2, a3, a4, a5⟩ := h
  exact ⟨xfB_ok a1, He.eqO_ok a2, He.eqO_ok a3, of_decide_eq_true a4, of_decide_eq_true a5⟩
section
variable {X : Cx} {pins : List (Addr × Obj)} {σ : L2.St} {H : Hp} {s : Shared} {C : Addr}
/-- where it stands in the model's heap -/
theorem inst_err {a : Addr} {od : Option Addr} {o : Obj} {ns : List Str} {vs : List V} (I : L2.Inv X pins σ H s) (e : H a = some (.frz o (exo a C od))) (f : EF H ns vs od) :
    ∃ (ox : Obj) (oo : Option Obj), PySem.W.InstAt s.heap a ox C oo ∧ ∀ (i : Nat) n u, ns[i]? = some n → vs[i]? = some u → ∃ d w, oo = some d ∧ PySem.W.lookIn n d = some (some w) ∧ RelV u w := by
  obtain ⟨_, ⟨t, at_⟩, _⟩ := (show ObjOk X.prog X.w H s.heap a (.frz o (exo a C od)) from I.hok a _ e)
  cases od with
  | none => exact ⟨_, none, ⟨at_, rfl, rfl, trivial⟩, fun i n u en _ => by rw [show ns = [] from f] at en; simp at en⟩
  | some dd =>
    obtain ⟨o2, fs, ed, look⟩ := f
    obtain ⟨_, ⟨mA, hns, rel⟩, _⟩ := (show ObjOk X.prog X.w H s.heap dd (.frz o2 (exd dd fs)) from I.hok dd _ ed)
    obtain ⟨d, hd, hl⟩ := lookIn_ns hns
    refine ⟨_, some d, ⟨at_, rfl, rfl, hd⟩, fun i n u en eu => ?_⟩
    obtain ⟨w, ew, rw'⟩ := RelO.some_of (v := u) (o := mA n) (by rw [← look i n u en eu]; exact rel n)
    exact ⟨d, w, rfl, by rw [hl, ew], rw'⟩
/-- isinstance(e, a class) -/
def rIsE (K : PySem.W.Frag) : List V → Hp → VK → Prop := fun xs H Q => ∃ (a C : Addr) (od : Option Addr) (o : Obj) (ns : List Str) (vs : List V) (c : V) (u : Value) (b : Bool), xs = [.ref a, c] ∧ ClsV c u ∧ H a = some (.frz o (exo a C od)) ∧ EF H ns vs od ∧ XcC K C ∧ PySem.W.kitOne K (.ref C) u = some b ∧ Q (.bl b) H
theorem call_isv : CallR X (.builtin "isinstance") (rIsE X.K) := by
  intro pins s σ H xs us Q I r h
  obtain ⟨a, C, od, o, ns, vs, c, u, b, rfl, k, ea, ef, xc, e, q⟩ := h
  obtain ⟨u1, u2, rfl, r1, r2⟩ := vals2 r
  have e2 := k.eq r2
  subst e2
  obtain rfl : u1 = Value.ref a := r1
  obtain ⟨ox, oo, J, _⟩ := inst_err I ea ef
  obtain ⟨cd, hcd, _⟩ := PySem.W.any_some xc.hdC
  exact PySem.W.kia_one (PySem.W.kitx_exc (by rw [hcd]; rfl) xc.ga xc.gg xc.exC xc.cls xc.get xc.takes xc.mro) I.kIn J e (fun z => nomatch z) fun tk => ⟨.bl b, H, I.tok tk, rfl, q⟩
end
/-- which of the kept errors are of the class u -/
def eclB (K : PySem.W.Frag) (u : Value) : List (Addr × List Str) → List Bool → Bool
  | [], _ => true
  | _ :: _, [] => false
  | q :: r, b :: t => decide (PySem.W.kitOne K (.ref q.1) u = some b) && eclB K u r t
theorem eclB_ok {K : PySem.W.Frag} {u : Value} : ∀ {es : List (Addr × List Str)} {bs : List Bool}, eclB K u es bs = true → ∀ (c : Nat) C ns, es[c]? = some (C, ns) → ∃ b, bs[c]? = some b ∧ PySem.W.kitOne K (.ref C) u = some b
  | [], _, _, c, C, ns, e => by simp at e
  | _ :: _, [], h, _, _, _, _ => by cases h
  | q :: r, b :: t, h, c, C, ns, e => by
    obtain ⟨h1, h2⟩ := Bool.and_eq_true_iff.mp h
    cases c with
    | zero =>
      simp at e
      subst e
      exact ⟨b, rfl, of_decide_eq_true h1⟩
    | succ c => simp only [List.getElem?_cons_succ] at e ⊢; exact eclB_ok h2 c C ns e
/-- which field of the kept errors has the name n -/
def efdB (K : PySem.W.Frag) (n : Str) : Nat → List (Addr × List Str) → List (Nat × Nat) → Bool
  | _, [], _ => true
  | c, q :: r, rows => (match rows.lookup c with
    | none => true
    | some i => decide (q.2[i]? = some n) && He.eqO (PySem.W.findIn K (.ref q.1) n) (some none)) && efdB K n (c + 1) r rows
theorem efdB_ok {K : PySem.W.Frag} {n : Str} {rows : List (Nat × Nat)} : ∀ {es : List (Addr × List Str)} {k : Nat}, efdB K n k es rows = true → ∀ (c : Nat) C ns i, es[c]? = some (C, ns) → rows.lookup (k + c) = some i → ns[i]? = some n ∧ PySem.W.findIn K (.ref C) n = some none
  | [], _, _, c, C, ns, i, e, _ => by simp at e
  | q :: r, k, h, c, C, ns, i, e, l => by
    obtain ⟨h1, h2⟩ := Bool.and_eq_true_iff.mp h
    cases c with
    | zero =>
      simp at e
      subst e
      rw [Nat.add_zero] at l
      rw [l] at h1
      obtain ⟨h3, h4⟩ := Bool.and_eq_true_iff.mp h1
      exact ⟨of_decide_eq_true h3, He.eqO_ok h4⟩
    | succ c =>
      simp only [List.getElem?_cons_succ] at e
      exact efdB_ok h2 c C ns i e (by rw [show k + 1 + c = k + (c + 1) by omega]; exact l)
/-- all kept errors can be asked -/
def XcAll (K : PySem.W.Frag) : Prop := ∀ (c : Nat) C ns, TB.errs[c]? = some (C, ns) → XcC K C
section
variable {G : GC} {Φ : Cal} {x : List Ma.D} {W : WX} {X : Cx}
theorem pe_own {y : Str} {C : Addr} {p : Pos} (gl : Gl X y) (hm : X.mg y = some (.ref C)) (hd : (y == ("__debug__" : Str)) = false := by decide) : PE X (.Name y p) (tC (.ref C)) :=
  ⟨fun pins s σ H Q I q => ld_glob I gl hm ⟨.ref C, H, I, rfl, q⟩ hd⟩
theorem se_ise {pc py : Expr} {a : E} {rows : List Bool} {cv : V} {u : Value} {p pos : Pos} (gl : Gl X "isinstance") (own : X.mg "isinstance" = none) (all : XcAll X.K) (kd : ClsV cv u) (ok : eclB X.K u TB.errs rows = true) (hc : PE X pc (tC cv)) (ha : PE X py (tr G Φ x W a))
    (he : starEach [py, pc] X.env = (false, eval py X.env) :: starEach [pc] X.env := by rfl) (he2 : starEach [pc] X.env = (false, eval pc X.env) :: starEach [] X.env := by rfl) (hpl : (backTo pos (starEach [pc] X.env)).any (·.1) = false := by rfl) :
    PE X (.Call (.Name "isinstance" p) [py, pc] [] pos) (te G Φ x W (.ise rows a)) := by
  refine PEimp (pe_callB call_isv gl own bt_isinstance (pa_cons ha (pa_cons hc pa_nil he2) he) (by decide) (by decide) he hpl) fun σ H Q ⟨m, s, h, r, q⟩ => ?_
  rw [ev] at q
  refine ⟨m, s, h, r, row1 (a := a) r q fun m1 t h1 v H1 r1 y1 q1 o1 p1 => ?_⟩
  cases t with
  | fz d => cases d with
    | clo c xs =>
      obtain ⟨A, C, ns, od, o, vs, rfl, et, ea, ef, _⟩ := q1
      obtain ⟨b, eb, ek⟩ := eclB_ok ok c C ns et
      simp only [eb] at p1
      exact ⟨A, C, od, o, ns, vs, cv, u, b, rfl, kd, ea, ef, all c C ns et, ek, Pst.fz (d := .bl b) p1 r1.hp rfl⟩
    | _ => exact p1.elim
  | _ => exact p1.elim
/-- e.f -/
theorem se_exg {py : Expr} {a : E} {rows : List (Nat × Nat)} {n : Str} {pos : Pos} (all : XcAll X.K) (ok : efdB X.K n 0 TB.errs rows = true) (ha : PE X py (tr G Φ x W a)) (hb : attributeBase py n X.env (eval py X.env) = eval py X.env := by rfl) :
    PE X (.Attribute py n pos) (te G Φ x W (.exg rows a)) := by
  refine ⟨fun pins s σ H Q I ⟨m, sl, h, r, q⟩ => ?_⟩
  rw [ev] at q
  refine attr_of hb (thn (ha.run pins s σ H (fun v H1 => ∃ (A C : Addr) (od : Option Addr) (o : Obj) (ns : List Str) (vs : List V) (i : Nat) (u : V), v = .ref A ∧ H1 A = some (.frz o (exo A C od)) ∧ EF H1 ns vs od ∧ XcC X.K C ∧ ns[i]? = some n ∧ PySem.W.findIn X.K (.ref C) n = some none ∧ vs[i]? = some u ∧ Q u H1) I ⟨m, sl, h, r, row1 (a := a) r q fun m1 t h1 v H1 r1 y1 q1 o1 p1 => ?_⟩) ?_)
  · cases t with
    | fz d => cases d with
      | clo c xs =>
        obtain ⟨A, C, ns, od, o, vs, rfl, et, ea, ef, rs⟩ := q1
        cases el : rows.lookup c with
        | none => simp only [el] at p1; exact p1.elim
        | some i =>
          simp only [el, Option.bind_some] at p1
          cases ex : xs[i]? with
          | none => rw [ex] at p1; exact p1.elim
          | some d =>
            rw [ex] at p1
            obtain ⟨u, eu, ru⟩ := rs.get ex
            obtain ⟨en, no⟩ := efdB_ok ok c C ns i et (by rw [Nat.zero_add]; exact el)
            exact ⟨A, C, od, o, ns, vs, i, u, rfl, ea, ef, all c C ns et, en, no, eu, Pst.fz (d := d) p1 r1.hp ru⟩
      | _ => exact p1.elim
    | _ => exact p1.elim
  · rintro w s1 ⟨v, H1, I1, rv, A, C, od, o, ns, vs, i, u, rfl, ea, ef, xc, en, no, eu, q⟩
    obtain rfl : w = Value.ref A := rv
    obtain ⟨ox, oo, J, look⟩ := inst_err I1 ea ef
    obtain ⟨d, z, rfl, l, ru⟩ := look i n u en eu
    exact HandSPX.exc_get I1.kIn J xc.ga xc.gg xc.exC (PySem.W.findObj_own xc.hdC no rfl l) (handed_of ru) ⟨u, H1, I1.tok _, ru, q⟩
end
end Ma
set_option maxHeartbeats 4000000
/-! In a suite that holds an error: [e.f] if isinstance(e, a built-in class) else .. -/
namespace Ma
open PySem PySem.Spec L2
variable [TB]
section
variable {G : GC} {Φ : Cal} {W : WX} {X : Cx} {m0 : List Addr} {H0 : Hp} {c i : Nat} {a : Addr} {oe : Obj} {cls : Value} {d : Option Addr} {pn : List (Addr × Obj)}
/-- isinstance(e, T) of the error that the suite holds -/
def tIe (G : GC) (c i : Nat) (a : Addr) (cls : Value) (d : Option Addr) (b : Bool) : TE := fun σ H Q => σ[i]? = some (some (.ref a)) ∧ ∃ m xs, RpX G m H c xs cls d ∧ Q (.bl b) H
theorem pe_ie {n y : Str} {T : String} {b : Bool} {p p1 p2 pos : Pos} (xc : XcC X.K (G.cl c)) (kit : PySem.W.kitOne X.K (.ref (G.cl c)) (.type T) = some b) (gl : Gl X "isinstance") (own : X.mg "isinstance" = none) (gl2 : Gl X y) (own2 : X.mg y = none) (bt : bootBuiltins y = some (.type T))
    (hi : X.N[i]? = some n) (hz : Zc cls d oe) (hf : ∃ vs, oe.data = .fields vs) (hv : Vis X.env.scope n) (hd : (n == ("__debug__" : Str)) = false := by decide) (hcd : (n == ("__classdict__" : Str)) = false := by decide) (hn : y ≠ "__name__" := by decide) (hd2 : (y == ("__debug__" : Str)) = false := by decide)
    (he : starEach [.Name n p1, .Name y p2] X.env = (false, eval (.Name n p1) X.env) :: starEach [.Name y p2] X.env := by rfl) (he2 : starEach [.Name y p2] X.env = (false, eval (.Name y p2) X.env) :: starEach [] X.env := by rfl) (hpl : (backTo pos (starEach [.Name y p2] X.env)).any (·.1) = false := by rfl) :
    PE (X.suite a ((a, oe) :: pn)) (.Call (.Name "isinstance" p) [.Name n p1, .Name y p2] [] pos) (tIe G c i a cls d b) := by
  have call : CallR (X.suite a ((a, oe) :: pn)) (.builtin "isinstance") (fun xs H Q => ∃ m ds, xs = [.ref a, .ty T] ∧ RpX G m H c ds cls d ∧ Q (.bl b) H) := by
    intro pins s σ H xs us Q I r ⟨m, ds, e, ⟨⟨ec, _⟩, dd, fs, ed, at_, _⟩, q⟩
    subst e; subst ec; subst ed
    obtain ⟨u1, u2, rfl, r1, r2⟩ := vals2 r
    obtain rfl : u1 = Value.ref a := r1
    obtain rfl : u2 = Value.type T := r2
    obtain ⟨ha, _⟩ := I.pin (a, oe) (List.mem_append_left _ List.mem_cons_self)
    obtain ⟨vs, hd⟩ := hf
    obtain ⟨mA, hns, hr⟩ := (show ObjOk X.prog X.w H s.heap dd (.xd fs) from I.hok dd _ at_)
    obtain ⟨od, ho, hl⟩ := lookIn_ns hns
    have J : PySem.W.InstAt s.heap a oe (G.cl c) (some od) := ⟨ha, hz.1, by unfold PySem.W.notCls; rw [hd] <;> rfl, by rw [hz.2]; exact ho⟩
    obtain ⟨cd, hcl, _⟩ := PySem.W.any_some xc.hdC
    exact PySem.W.kia_one (PySem.W.kitx_exc (by rw [hcl]; rfl) xc.ga xc.gg xc.exC xc.cls xc.get xc.takes xc.mro) I.kIn J kit (fun z => nomatch z) fun tk => ⟨.bl b, H, I.tok tk, rfl, q⟩
  refine PEimp (pe_callB (X := X.suite a ((a, oe) :: pn)) call gl own bt_isinstance (pa_cons (pe_var (i := i) hi hv hd hcd) (pa_cons (pe_tyn (n := T) gl2 own2 bt hn hd2) pa_nil he2) he) (by decide) (by decide) he hpl) ?_
  rintro σ H Q ⟨si, m, xs, rx, q⟩
  exact ⟨_, si, m, xs, rfl, rx, q⟩
/-- return [e.f] if isinstance(e, T) else [..] -/
theorem su_told {n f y w : Str} {T : String} {k j : Nat} {p p1 p2 p3 p4 p5 p6 p7 p8 pos rp : Pos} (F : Fld X G c k f) (xc : XcC X.K (G.cl c)) (kit : PySem.W.kitOne X.K (.ref (G.cl c)) (.type T) = some true) (gl : Gl X "isinstance") (own : X.mg "isinstance" = none) (gl2 : Gl X y) (own2 : X.mg y = none) (bt : bootBuiltins y = some (.type T))
    (hi : X.N[i]? = some n) (hz : Zc cls d oe) (hf : ∃ vs, oe.data = .fields vs) (hv : Vis X.env.scope n) (el : E) (hd : (n == ("__debug__" : Str)) = false := by decide) (hcd : (n == ("__classdict__" : Str)) = false := by decide) (hn : y ≠ "__name__" := by decide) (hd2 : (y == ("__debug__" : Str)) = false := by decide)
    (hb : attributeBase (.Name n p3) f X.env (eval (.Name n p3) X.env) = eval (.Name n p3) X.env := by rfl)
    (he : starEach [.Name n p1, .Name y p2] X.env = (false, eval (.Name n p1) X.env) :: starEach [.Name y p2] X.env := by rfl) (he2 : starEach [.Name y p2] X.env = (false, eval (.Name y p2) X.env) :: starEach [] X.env := by rfl) (hpl : (backTo pos (starEach [.Name y p2] X.env)).any (·.1) = false := by rfl) :
    PSs (X.suite a ((a, oe) :: pn)) [.Return (some (.IfExp (.Call (.Name "isinstance" p) [.Name n p1, .Name y p2] [] pos) (.List [.Attribute (.Name n p3) f p4] p5) (.List [.Constant (.str w) j p6] p7) p8)) rp]
      (tSu G Φ W m0 H0 c i (.ret (.ife (.lit (.bl true)) (.lst (.cons (.exf k) .nil)) el)) a cls d) := by
  refine ⟨fun pins s0 σ H D I ⟨m, s, h, xs, q, si, rx, pp⟩ => (pss_one (ps_ret (pe_ifExp (pt_val (pe_ie xc kit gl own gl2 own2 bt hi hz hf hv hd hcd hn hd2 he he2 hpl)) (pe_lst (pa_cons (pe_fl F hi hz hf hv hd hcd hb) pa_nil)) (pe_lst (pa_cons pe_str pa_nil))))).run pins s0 σ H D I ?_⟩
  have lt : i < σ.length := by rw [I.len]; exact (List.getElem?_eq_some_iff.mp hi).1
  refine ⟨si lt, m, xs, rx, true, rfl, ?_⟩
  show tLst (tCons (tFl G c k i a cls d) tNil) σ H D.rt
  cases ey : xs[k]? with
  | none =>
    simp only [ex, ev, ey, RE.bind, RE.row, RE.go, RE.test, optE, Option.map] at pp
    exact pp.elim
  | some u =>
    simp only [ex, ev, ey, RE.bind, RE.row, RE.go, RE.test, optE, Option.map] at pp
    refine ⟨si lt, m, xs, u, rx, ey, fun v rv => ⟨by show 1 ≤ sizeLine; decide, fun b nb => ?_⟩⟩
    have pr := (ex_new (o := .lst [v]) nb : Ex m H m _).per q.sr.hp
    refine pp m (.ref b) _ (q.sr.hp.new nb) (q.ex.comp q.sr.hp (ex_new nb)) (RpT.mk upd_same ?_) fun _ z e => by cases e; exact ⟨q.sr.hp.notin nb, q.ex.none q.sr.hp nb⟩
    exact ⟨v, [], rfl, Rp.per pr _ _ rv, rfl⟩
end
end Ma
set_option maxHeartbeats 4000000
/-! dict([(.., True), ..]) kept, keys nested tuples; what is in there. -/
namespace Ma
open PySem PySem.Spec L2
variable [TB]
mutual
theorem deq_kD : ∀ (a b : Ma.D) (n k : Nat), numD n a = true → numD k b = true → (deq a b = true ↔ kD a = kD b)
  | .int i, .int j, _, _, _, _ => by rw [deq, kD, kD, NestedKey.num.injEq, beq_iff_eq]
  | .int i, .tup y, _, _, _, _ => by simp [deq, kD]
  | .tup x, .int j, _, _, _, _ => by simp [deq, kD]
  | .tup x, .tup y, n + 1, k + 1, h, q => by
    rw [deq, kD, kD, NestedKey.tup.injEq]
    exact deqs_kD x y n k (by rw [numD] at h; exact h) (by rw [numD] at q; exact q)
  | .tup _, .tup _, 0, _, h, _ => by simp [numD] at h
  | .tup _, .tup _, _ + 1, 0, _, h => by simp [numD] at h
  | .non, _, _, _, h, _ => by simp [numD] at h
  | .bl _, _, _, _, h, _ => by simp [numD] at h
  | .str _, _, _, _, h, _ => by simp [numD] at h
  | .lst _, _, _, _, h, _ => by simp [numD] at h
  | .dct _, _, _, _, h, _ => by simp [numD] at h
  | .kst _, _, _, _, h, _ => by simp [numD] at h
  | .ref _, _, _, _, h, _ => by simp [numD] at h
  | .clo _ _, _, _, _, h, _ => by simp [numD] at h
  | _, .non, _, _, _, h => by simp [numD] at h
  | _, .bl _, _, _, _, h => by simp [numD] at h
  | _, .str _, _, _, _, h => by simp [numD] at h
  | _, .lst _, _, _, _, h => by simp [numD] at h
  | _, .dct _, _, _, _, h => by simp [numD] at h
  | _, .kst _, _, _, _, h => by simp [numD] at h
  | _, .ref _, _, _, _, h => by simp [numD] at h
  | _, .clo _ _, _, _, _, h => by simp [numD] at h
theorem deqs_kD : ∀ (a b : List Ma.D) (n k : Nat), numDs n a = true → numDs k b = true → (deqs a b = true ↔ kDs a = kDs b)
  | [], [], _, _, _, _ => by simp [deqs, kDs]
  | [], _ :: _, _, _, _, _ => by simp [deqs, kDs]
  | _ :: _, [], _, _, _, _ => by simp [deqs, kDs]
  | a :: r, b :: q, n, k, h, z => by
    rw [numDs, Bool.and_eq_true] at h z
    rw [deqs, kDs, kDs, List.cons.injEq, Bool.and_eq_true, deq_kD a b n k h.1 z.1, deqs_kD r q n k h.2 z.2]
end
theorem mem_kD {a : Ma.D} {ks : List Ma.D} {n : Nat} (ha : numD n a = true) (hk : ∀ k ∈ ks, numD 8 k = true) : (mem a ks = true) ↔ kD a ∈ ks.map kD := by
  unfold mem
  rw [List.any_eq_true, List.mem_map]
  exact ⟨fun ⟨y, my, e⟩ => ⟨y, my, (deq_kD y a 8 n (hk y my) ha).mp e⟩, fun ⟨y, my, e⟩ => ⟨y, my, (deq_kD y a 8 n (hk y my) ha).mpr e⟩⟩
theorem atKey_iff {xs : List (NestedKey × Addr × Value)} {k : NestedKey} : (atKey xs k).isSome = true ↔ k ∈ xs.map (·.1) := by
  unfold atKey
  rw [Option.isSome_map, List.find?_isSome, List.mem_map]
  exact ⟨fun ⟨y, my, e⟩ => ⟨y, my, of_decide_eq_true e⟩, fun ⟨y, my, e⟩ => ⟨y, my, decide_eq_true e⟩⟩
section
variable {X : Cx} {pins : List (Addr × Obj)} {σ : L2.St} {H : Hp} {s : Shared} {m : List Addr}
theorem call_dset {l : Addr} {zs xs : List Ma.D} {ws : List V} {Q : VK} {A : Around} {E : Value → Shared → Prop} (hs : TB.hsh = fun k => k.hash X.w) (calm : A.handled = none) (hu : A.units + 100 < cLine) (I : L2.Inv X pins σ H s) (hl : Rd H l (.lst ws)) (r : Rps m H zs ws) (e : fsts zs = some xs) (nu : ∀ d ∈ xs, numD 8 d = true ∧ ∃ ys, d = .tup ys) (oks : okSort xs = true)
    (q : ∀ p o, H p = none → (∀ h : RH, RpH m h H → RpT m (upd H p o) (.fz (.kst (dedup [] xs))) (.ref p)) → Q (.ref p) (upd H p o)) :
    wpAny (model X.prog X.w) A (call (.type "dict") [.ref l]) (fun v s2 => ∃ y H2, L2.Inv X pins σ H2 s2 ∧ RelV y v ∧ Q y H2) E s := by
  obtain ⟨kin, _, _, _⟩ := okSort_kin oks
  refine dict_of_pairs calm hu I hl r e nu oks fun h1 tk ps lenp p1 rx dh keep => ?_
  obtain ⟨o, es, ep, eo, ex, ed, ees, _, nd⟩ := dh
  have free : H s.heap.objs.size = none := I.hok.fresh (Nat.le_refl _)
  have lo : (s.heap.objs.size == sysModules) = false := beq_eq_false_iff_ne.mpr (Nat.ne_of_gt I.big)
  obtain ⟨rd, kd⟩ := stored_dedup kin (fun d md => (nu d md).1) (m := m) (H := H) xs ps [] [] (ps.map (·.2.1)) (fun _ h => h) nofun (by rw [List.length_map, lenp]) p1 rfl (by rw [List.map_map]; exact rx) rfl rfl
  have raw : h1.DictRaw s.heap.objs.size es ep := ⟨o, eo, ex, ed⟩
  have new : ObjOk X.prog X.w (upd H s.heap.objs.size (.frz o (.ext fun h => h.DictRaw s.heap.objs.size es ep))) h1 s.heap.objs.size (.frz o (.ext fun h => h.DictRaw s.heap.objs.size es ep)) :=
    ⟨eo, raw, ⟨o, eo⟩, fun _ _ ⟨o1, e1, z⟩ k => ⟨o1, k _ e1, z⟩⟩
  refine ⟨.ref s.heap.objs.size, _, I.laid (t' := tk) keep (Nat.le_refl _) new, rfl, q _ _ free fun h rh => ?_⟩
  have here : ∀ y ∈ dedup [] xs, numD 8 y = true := fun y my => by
    obtain ⟨_, dm⟩ := dedup_spec kin xs [] (fun _ h => h) nofun .nil
    rcases (dm y).mp my with z | z
    · cases z
    · exact (nu y z).1
  exact ⟨_, o, storedAllH [] ps, es, ep, rfl, lo, upd_same, ⟨kd, here, nd, by rw [ees, hs]; rfl⟩, Rps.per ((ex_new free).per rh) _ _ rd⟩
theorem ks_of (I : L2.Inv X pins σ H s) (hs : TB.hsh = fun k => k.hash X.w) {ks : List Ma.D} {a : Addr} {o : Obj} {xs : List (NestedKey × Addr × Value)} {es : Array DictEntry} {ep : Nat} (hH : H a = some (.frz o (.ext fun h => h.DictRaw a es ep))) (q : KsE ks xs es) (r : Rps m H ks (xs.map fun x => V.ref x.2.1)) : s.heap.DictOfH (nestedKind X.prog X.w) a xs := by
  obtain ⟨_, ⟨ob, eo, ex, ed⟩, _⟩ := I.hok a _ hH
  refine ⟨ob, es, ep, eo, ex, ed, ?_, fun x mx => ?_, q.nd⟩
  · rw [q.es, hs]; rfl
  · obtain ⟨i, ei⟩ := List.mem_iff_getElem?.mp mx
    have ek : (ks.map kD)[i]? = some x.1 := by rw [← q.keys, List.getElem?_map, ei]; rfl
    rw [List.getElem?_map] at ek
    obtain ⟨k, ek, e1⟩ := Option.map_eq_some_iff.mp ek
    obtain ⟨v, ev, rk⟩ := r.get ek
    rw [List.getElem?_map, ei] at ev
    cases ev
    have nk := q.num k (List.mem_of_getElem? ek)
    rw [← e1]
    exact ⟨(kD_at I k 8 _ (.ref x.2.1) nk rk rfl).1, (kD_ok k 8 nk).1⟩
end
section
variable {X : Cx} {G : GC} {Φ : Cal} {x : List Ma.D} {W : WX}
theorem om_kin (hs : TB.hsh = fun k => k.hash X.w) (hu : X.A.units + 100 < cLine) : OpM X (compareOp .In) kinT := by
  intro pins s σ H u v p q Q I hp hq ⟨m, h, a, b, t, rh, ra, rb, e, post⟩
  cases b with
  | kst ks =>
    have e : (if isRec a && numD 8 a then some (T.fz (.bl (mem a ks))) else none) = some t := e
    by_cases ok : (isRec a && numD 8 a) = true
    case neg => rw [if_neg ok] at e; cases e
    rw [if_pos ok] at e
    cases e
    have n8 := (Bool.and_eq_true _ _).mp ok
    obtain ⟨d, o, xs, es, ep, rfl, z, hH, ke, rk⟩ := rb
    cases a with
    | tup ys =>
      obtain ⟨l, vs, rfl, hl, rv⟩ := id ra
      obtain rfl : p = .ref l := hp
      obtain rfl : q = .ref d := hq
      have key := kD_at I (.tup ys) 8 _ (.ref l) n8.2 ra rfl
      refine wpAny_in_heap (knd := nestedKind X.prog X.w) (k := kD (.tup ys)) (by show X.A.units + 1 + 8 < cLine; omega) ⟨key.1, (kD_ok (.tup ys) 8 n8.2).1⟩ z (ks_of I hs hH ke rk) ⟨.bl _, H, I.tok _, rfl, ?_⟩
      have same : (atKey xs (kD (.tup ys))).isSome = mem (.tup ys) ks := by
        rw [Bool.eq_iff_iff, atKey_iff, ke.keys, mem_kD n8.2 ke.num]
      rw [same]
      exact post.fz rh rfl
    | _ => simp [isRec] at n8
  | _ => cases e
theorem ca_dset (hs : TB.hsh = fun k => k.hash X.w) (calm : X.calm = true) (hu : X.A.units + 100 < cLine) : CaM X (.type "dict") (b1 .dset) := by
  intro pins s σ H vs us Q I rv ⟨m, h, t, t', v, e, rh, rt, e2, p⟩
  subst e
  obtain ⟨xs, e3, e4⟩ := Option.bind_eq_some_iff.mp (show ((itL t).bind fsts).bind (fun xs => if ((xs.all fun d => isRec d && numD 8 d) && okSort xs) = true then some (T.fz (.kst (dedup [] xs))) else none) = some t' from e2)
  obtain ⟨zs, ei, ef⟩ := Option.bind_eq_some_iff.mp e3
  obtain ⟨l, ws, rfl, rd, rp⟩ := itL_rd rt ei
  by_cases ok : ((xs.all fun d => isRec d && numD 8 d) && okSort xs) = true
  case neg => rw [if_neg ok] at e4; cases e4
  rw [if_pos ok] at e4
  cases e4
  rw [Bool.and_eq_true] at ok
  obtain ⟨u, rfl, ru⟩ := vals1 rv
  obtain rfl : u = .ref l := ru
  refine call_dset hs (I.ok.hd calm) hu I rd rp ef (fun d md => ?_) ok.2 fun a o free go => p _ _ (ex_new free) (rh.new free) (go h rh) nofun
  have z := List.all_eq_true.mp ok.1 d md
  rw [Bool.and_eq_true] at z
  refine ⟨z.2, ?_⟩
  cases d with
  | tup ys => exact ⟨ys, rfl⟩
  | _ => simp [isRec] at z
theorem se_kin {py1 py2 : Expr} {a b : E} {pos : Pos} (hs : TB.hsh = fun k => k.hash X.w) (hu : X.A.units + 100 < cLine) (ha : PE X py1 (tr G Φ x W a)) (hb : PE X py2 (tr G Φ x W b)) (hm : behindInMarks .In py2 = false := by rfl) : PE X (.Compare py1 [.In] [py2] pos) (te G Φ x W (.kin a b)) :=
  se_bin2 (om_kin hs hu) ha hb (fun r ta tb ho ha hb => pe_cmpR ho ha hb hm) fun s h => by rw [ev]
end
end Ma
namespace Xk01
open Ma
def d0 : Def := ⟨0, 0, .skip⟩
def d1 : Def := ⟨0, 0, .skip⟩
def d2 : Def := ⟨0, 0, .skip⟩
def d3 : Def := ⟨0, 0, .skip⟩
/- is_whole -/
def d4 : Def := ⟨3, 3, (.ret (.and_ (.isin .int (.var 0)) (.and_ (.nt (.isin .bool (.var 0))) (.chn .le .le (.var 1) (.var 0) (.var 2)))))⟩
/- is_parts -/
def d5 : Def := ⟨2, 2, (.ret (.and_ (.isin .tuple (.var 0)) (.cmp .eq (.b1 .len (.var 0)) (.var 1))))⟩
/- are_things -/
def d6 : Def := ⟨2, 3, (.ret (.and_ (.call 5 (.cons (.var 0) (.cons (.var 1) .nil))) (.b1 .all (.comp [2] (.var 0) (.lit (.bl true)) (.call 4 (.cons (.var 2) (.cons (.lit (.int (0))) (.cons (.lit (.int (29))) .nil))))))))⟩
/- is_fact -/
def d7 : Def := ⟨2, 2, (.seq (.ifs (.or_ (.nt (.call 5 (.cons (.var 1) (.cons (.lit (.int (2))) .nil)))) (.nt (.call 4 (.cons (.idx (.var 1) (.lit (.int (0)))) (.cons (.lit (.int (0))) (.cons (.bin .sub (.b1 .len (.var 0)) (.lit (.int (1)))) .nil)))))) (.ret (.lit (.bl false))) .skip) (.ret (.call 6 (.cons (.idx (.var 1) (.lit (.int (1)))) (.cons (.idx (.var 0) (.idx (.var 1) (.lit (.int (0))))) .nil)))))⟩
/- store_fault -/
def d8 : Def := ⟨2, 4, (.seq (.ifs (.or_ (.nt (.isin .tuple (.var 1))) (.cmp .gt (.b1 .len (.var 1)) (.lit (.int (3600))))) (.ret (.tup (.cons (.lit .non) .nil))) .skip) (.seq (.for_ (.tp [(.nm 2), (.nm 3)]) (.enu (.var 1)) (.ifs (.or_ (.nt (.call 7 (.cons (.var 0) (.cons (.var 3) .nil)))) (.and_ (.cmp .gt (.var 2) (.lit (.int (0)))) (.nt (.cmp .lt (.idx (.var 1) (.bin .sub (.var 2) (.lit (.int (1))))) (.var 3))))) (.ret (.tup (.cons (.var 2) .nil))) .skip)) (.ret (.lit .non))))⟩
/- require_store -/
def d9 : Def := ⟨2, 3, (.seq (.setf 2 (.call 8 (.cons (.var 0) (.cons (.var 1) .nil)))) (.seq (.ifs (.cmp .isn (.var 2) (.lit .non)) (.rais 0 (.cons (.idx (.var 2) (.lit (.int (0)))) .nil)) .skip) (.ret (.var 1))))⟩
/- are_among -/
def d10 : Def := ⟨2, 4, (.seq (.setf 2 (.b1 .dset (.comp [3] (.var 1) (.lit (.bl true)) (.tup (.cons (.var 3) (.cons (.lit (.bl true)) .nil)))))) (.ret (.b1 .all (.comp [3] (.var 0) (.lit (.bl true)) (.kin (.var 3) (.var 2))))))⟩
/- _law_pen -/
def d11 : Def := ⟨1, 1, (.ret (.rnew (.cons (.b1 .list (.slc (.var 0) (.lit .non) (.lit (.int (63))))) (.cons (.lit (.int (0))) (.cons (.lit (.int (0))) (.cons (.lst (.cons (.lit (.int (1))) (.cons (.lit (.int (5))) .nil))) .nil))))))⟩
/- _law_fresh -/
def d12 : Def := ⟨1, 8, (.seq (.par [(1, false), (2, false)] [(.idx (.var 0) (.lit (.int (1)))), (.idx (.var 0) (.lit (.int (0))))]) (.seq (.rput (.var 0) (.lit (.int (1))) (.bin .add (.var 1) (.lit (.int (1))))) (.seq (.setf 3 (.ife (.cmp .ne (.var 2) (.lst .nil)) (.idx (.var 2) (.bin .mod (.b1 .int (.var 1)) (.b1 .len (.var 2)))) (.lit (.int (0))))) (.seq (.ifs (.and_ (.cmp .lt (.var 1) (.b1 .len (.var 2))) (.cmp .ge (.var 3) (.bin .pow (.lit (.int (10))) (.lit (.int (18)))))) (.ret (.bin .sub (.var 3) (.bin .pow (.lit (.int (10))) (.lit (.int (18)))))) .skip) (.seq (.setf 4 (.lit (.int (2305843009213693951)))) (.seq (.setf 5 (.bin .mod (.b1 .int (.bin .add (.bin .add (.bin .mul (.var 3) (.lit (.int (48271)))) (.bin .mul (.lit (.int (60013))) (.var 1))) (.lit (.int (31))))) (.var 4))) (.seq (.setf 6 (.var 5)) (.seq (.for_ (.nm 7) (.rng (.lit (.int 0)) (.lit (.int (6)))) (.seq (.setf 5 (.bin .mod (.b1 .int (.bin .add (.bin .add (.bin .mul (.var 5) (.var 5)) (.bin .mul (.bin .mul (.lit (.int (70139))) (.bin .add (.var 7) (.lit (.int (5))))) (.bin .add (.var 1) (.lit (.int (1)))))) (.var 3))) (.var 4))) (.setf 6 (.bin .add (.bin .mul (.var 6) (.var 4)) (.var 5))))) (.ret (.var 6))))))))))⟩
/- _law_draw -/
def d13 : Def := ⟨2, 3, (.seq (.ifs (.cmp .lt (.idx (.var 0) (.lit (.int (2)))) (.var 1)) (.rput (.var 0) (.lit (.int (2))) (.call 12 (.cons (.var 0) .nil))) .skip) (.seq (.setf 2 (.bin .mod (.b1 .int (.idx (.var 0) (.lit (.int (2))))) (.var 1))) (.seq (.rput (.var 0) (.lit (.int (2))) (.bin .fdiv (.b1 .int (.idx (.var 0) (.lit (.int (2))))) (.var 1))) (.ret (.var 2)))))⟩
/- _law_one_of -/
def d14 : Def := ⟨2, 2, (.ret (.idx (.var 1) (.call 13 (.cons (.var 0) (.cons (.b1 .len (.var 1)) .nil)))))⟩
/- _law_whole -/
def d15 : Def := ⟨3, 3, (.ret (.and_ (.isin .int (.var 0)) (.and_ (.nt (.isin .bool (.var 0))) (.chn .le .le (.var 1) (.var 0) (.var 2)))))⟩
/- _law_odd -/
def d16 : Def := ⟨1, 2, (.seq (.setf 1 (.lst (.cons (.lit .non) (.cons (.lit (.bl true)) (.cons (.lit (.bl false)) (.cons (.neg (.lit (.int (1)))) (.cons (.lit (.int (0))) (.cons (.lit (.int (1))) (.cons (.lit (.int (2))) (.cons (.lit (.int (3))) (.cons (.lit (.int (5))) (.cons (.lit (.int (30))) (.cons (.lit (.str [])) (.cons (.lit (.str [48])) (.cons (.lit (.str [112, 117, 116])) (.cons (.lit (.str [107, 101, 112, 116])) (.cons (.tup .nil) (.cons (.lst .nil) (.cons .dnew (.cons (.tup (.cons (.lit (.int (0))) .nil)) (.cons (.tup (.cons (.lit (.int (0))) (.cons (.lit (.int (1))) .nil))) (.cons (.tup (.cons (.tup .nil) .nil)) (.cons (.lst (.cons (.lit (.int (0))) .nil)) .nil))))))))))))))))))))))) (.ret (.call 14 (.cons (.var 0) (.cons (.bin .add (.var 1) (.lst (.cons (.bin .pow (.lit (.int (10))) (.lit (.int (41)))) (.cons (.tup (.cons (.lit (.int (0))) (.cons (.tup (.cons (.lit (.int (1))) .nil)) .nil))) (.cons (.tup (.cons (.lit (.int (0))) (.cons (.tup .nil) .nil))) (.cons (.tup (.cons (.tup (.cons (.neg (.lit (.int (1)))) .nil)) (.cons (.tup .nil) (.cons (.tup .nil) .nil)))) (.cons (.tup (.cons (.tup (.cons (.lit (.int (1))) .nil)) (.cons (.tup .nil) .nil))) (.cons (.tup (.cons (.lit (.int (1))) (.cons (.lst (.cons (.lit (.int (3))) .nil)) .nil))) (.cons (.neg (.lit (.int (2)))) (.cons (.neg (.lit (.int (9)))) .nil)))))))))) .nil)))))⟩
/- _law_bent -/
def d17 : Def := ⟨3, 6, (.seq (.ifs (.or_ (.nt (.isin .tuple (.var 1))) (.or_ (.cmp .eq (.var 1) (.tup .nil)) (.or_ (.cmp .eq (.var 2) (.lit (.int (0)))) (.cmp .eq (.call 13 (.cons (.var 0) (.cons (.lit (.int (6))) .nil))) (.lit (.int (0))))))) (.seq (.setf 3 (.call 13 (.cons (.var 0) (.cons (.lit (.int (8))) .nil)))) (.seq (.ifs (.and_ (.isin .int (.var 1)) (.and_ (.nt (.isin .bool (.var 1))) (.cmp .lt (.var 3) (.lit (.int (6)))))) (.ret (.idx (.lst (.cons (.bin .add (.var 1) (.lit (.int (1)))) (.cons (.bin .sub (.var 1) (.lit (.int (1)))) (.cons (.cmp .eq (.var 1) (.lit (.int (1)))) (.cons (.lit (.int (0))) (.cons (.neg (.var 1)) (.cons (.bin .add (.var 1) (.lit (.int (1)))) .nil))))))) (.var 3))) .skip) (.seq (.ifs (.and_ (.isin .tuple (.var 1)) (.cmp .lt (.var 3) (.lit (.int (6))))) (.ret (.idx (.lst (.cons (.slc (.var 1) (.lit (.int (1))) (.lit .non)) (.cons (.slc (.var 1) (.lit .non) (.neg (.lit (.int (1))))) (.cons (.bin .add (.var 1) (.slc (.var 1) (.lit .non) (.lit (.int (1))))) (.cons (.rev (.var 1)) (.cons (.b1 .list (.var 1)) (.cons (.bin .add (.var 1) (.tup (.cons (.lit (.int (0))) .nil))) .nil))))))) (.var 3))) .skip) (.ret (.call 16 (.cons (.var 0) .nil)))))) .skip) (.seq (.setf 4 (.call 13 (.cons (.var 0) (.cons (.b1 .len (.var 1)) .nil)))) (.seq (.setf 5 (.call 17 (.cons (.var 0) (.cons (.idx (.var 1) (.var 4)) (.cons (.bin .sub (.var 2) (.lit (.int (1)))) .nil))))) (.ret (.bin .add (.bin .add (.slc (.var 1) (.lit .non) (.var 4)) (.tup (.cons (.var 5) .nil))) (.slc (.var 1) (.bin .add (.var 4) (.lit (.int (1)))) (.lit .non)))))))⟩
/- _law_drawn_kinds -/
def d18 : Def := ⟨1, 1, (.seq (.rput (.var 0) (.lit (.int (3))) (.call 14 (.cons (.var 0) (.cons (.lst (.cons (.lst (.cons (.lit (.int (1))) (.cons (.lit (.int (5))) .nil))) (.cons (.lst (.cons (.lit (.int (0))) (.cons (.lit (.int (5))) .nil))) (.cons (.lst (.cons (.lit (.int (0))) (.cons (.lit (.int (9))) .nil))) (.cons (.lst (.cons (.lit (.int (1))) (.cons (.lit (.int (5))) .nil))) .nil))))) .nil)))) (.ret (.call 14 (.cons (.var 0) (.cons (.lst (.cons (.tup (.cons (.lit (.int (1))) (.cons (.lit (.int (1))) .nil))) (.cons (.tup (.cons (.lit (.int (2))) .nil)) (.cons (.tup (.cons (.lit (.int (1))) (.cons (.lit (.int (2))) .nil))) (.cons (.tup (.cons (.lit (.int (2))) (.cons (.lit (.int (2))) .nil))) (.cons (.tup (.cons (.lit (.int (2))) (.cons (.lit (.int (1))) (.cons (.lit (.int (0))) .nil)))) (.cons (.tup (.cons (.lit (.int (1))) (.cons (.lit (.int (1))) (.cons (.lit (.int (1))) .nil)))) (.cons (.tup (.cons (.lit (.int (1))) (.cons (.lit (.int (0))) (.cons (.lit (.int (1))) (.cons (.lit (.int (2))) .nil))))) .nil)))))))) .nil)))))⟩
/- _law_drawn_fact -/
def d19 : Def := ⟨2, 4, (.seq (.setf 2 (.call 13 (.cons (.var 0) (.cons (.b1 .len (.var 1)) .nil)))) (.ret (.tup (.cons (.var 2) (.cons (.b1 .tuple (.comp [3] (.rng (.lit (.int 0)) (.idx (.var 1) (.var 2))) (.lit (.bl true)) (.call 14 (.cons (.var 0) (.cons (.bin .add (.idx (.var 0) (.lit (.int (3)))) (.lst (.cons (.lit (.int (0))) (.cons (.lit (.int (3))) (.cons (.lit (.int (28))) .nil))))) .nil))))) .nil)))))⟩
/- _law_drawn_store -/
def d20 : Def := ⟨3, 4, (.ret (.b1 .tuple (.b1 .sset (.comp [3] (.rng (.lit (.int 0)) (.call 13 (.cons (.var 0) (.cons (.bin .add (.var 2) (.lit (.int (1)))) .nil)))) (.lit (.bl true)) (.call 19 (.cons (.var 0) (.cons (.var 1) .nil)))))))⟩
/- _law_is_fact -/
def d21 : Def := ⟨2, 3, (.seq (.ifs (.or_ (.nt (.isin .tuple (.var 1))) (.or_ (.cmp .ne (.b1 .len (.var 1)) (.lit (.int (2)))) (.nt (.call 15 (.cons (.idx (.var 1) (.lit (.int (0)))) (.cons (.lit (.int (0))) (.cons (.bin .sub (.b1 .len (.var 0)) (.lit (.int (1)))) .nil))))))) (.ret (.lit (.bl false))) .skip) (.seq (.ifs (.or_ (.nt (.isin .tuple (.idx (.var 1) (.lit (.int (1)))))) (.cmp .ne (.b1 .len (.idx (.var 1) (.lit (.int (1))))) (.idx (.var 0) (.idx (.var 1) (.lit (.int (0))))))) (.ret (.lit (.bl false))) .skip) (.ret (.cmp .eq (.comp [2] (.idx (.var 1) (.lit (.int (1)))) (.nt (.call 15 (.cons (.var 2) (.cons (.lit (.int (0))) (.cons (.lit (.int (29))) .nil))))) (.lit (.int (1)))) (.lst .nil)))))⟩
/- _law_due -/
def d22 : Def := ⟨2, 4, (.seq (.ifs (.or_ (.nt (.isin .tuple (.var 1))) (.cmp .gt (.b1 .len (.var 1)) (.lit (.int (3600))))) (.ret (.lst (.cons (.lit .non) .nil))) .skip) (.seq (.for_ (.tp [(.nm 2), (.nm 3)]) (.enu (.var 1)) (.ifs (.or_ (.nt (.call 21 (.cons (.var 0) (.cons (.var 3) .nil)))) (.and_ (.cmp .gt (.var 2) (.lit (.int (0)))) (.nt (.cmp .lt (.idx (.var 1) (.bin .sub (.var 2) (.lit (.int (1))))) (.var 3))))) (.ret (.lst (.cons (.var 2) .nil))) .skip)) (.ret (.lst .nil))))⟩
/- _law_told -/
def d23 : Def := ⟨2, 3, (.try_ (.ret (.ife (.cmp .eq (.call 9 (.cons (.var 0) (.cons (.var 1) .nil))) (.var 1)) (.lst .nil) (.lst (.cons (.lit (.str [111, 116, 104, 101, 114])) .nil)))) (.hnd [0] 2 (.ret (.ife (.lit (.bl true)) (.lst (.cons (.exf 0) .nil)) (.lst (.cons (.lit (.str [99, 108, 97, 115, 115])) .nil)))) .skip))⟩
/- _law_right -/
def d24 : Def := ⟨2, 3, (.seq (.setf 2 (.b1 .repr (.var 1))) (.ret (.and_ (.cmp .eq (.b1 .repr (.call 23 (.cons (.var 0) (.cons (.var 1) .nil)))) (.b1 .repr (.call 22 (.cons (.var 0) (.cons (.var 1) .nil))))) (.cmp .eq (.b1 .repr (.var 1)) (.var 2)))))⟩
/- _law_great_right -/
def d25 : Def := ⟨0, 5, (.seq (.par [(0, false), (1, true)] [(.tup (.cons (.lit (.int (2))) (.cons (.lit (.int (2))) (.cons (.lit (.int (2))) (.cons (.lit (.int (2))) .nil))))), (.lst .nil)]) (.seq (.for_ (.nm 2) (.rng (.lit (.int 0)) (.lit (.int (4)))) (.for_ (.nm 3) (.rng (.lit (.int 0)) (.lit (.int (30)))) (.ext 1 (.comp [4] (.rng (.lit (.int 0)) (.lit (.int (30)))) (.lit (.bl true)) (.tup (.cons (.var 2) (.cons (.tup (.cons (.var 3) (.cons (.var 4) .nil))) .nil))))))) (.seq (.ifs (.or_ (.nt (.call 24 (.cons (.var 0) (.cons (.b1 .tuple (.vr 1)) .nil)))) (.nt (.call 24 (.cons (.var 0) (.cons (.bin .add (.b1 .tuple (.vr 1)) (.tup (.cons (.tup (.cons (.lit (.int (0))) (.cons (.tup (.cons (.lit (.int (0))) (.cons (.lit (.int (0))) .nil))) .nil))) .nil))) .nil))))) (.ret (.lit (.bl false))) .skip) (.ret (.and_ (.call 7 (.cons (.var 0) (.cons (.tup (.cons (.lit (.int (3))) (.cons (.tup (.cons (.lit (.int (29))) (.cons (.lit (.int (29))) .nil))) .nil))) .nil))) (.and_ (.nt (.call 7 (.cons (.var 0) (.cons (.tup (.cons (.lit (.int (3))) (.cons (.tup (.cons (.lit (.int (29))) (.cons (.lit (.int (30))) .nil))) .nil))) .nil)))) (.nt (.call 7 (.cons (.var 0) (.cons (.tup (.cons (.lit (.int (4))) (.cons (.tup (.cons (.lit (.int (0))) (.cons (.lit (.int (0))) .nil))) .nil))) .nil))))))))))⟩
/- law -/
def d26 : Def := ⟨1, 15, (.seq (.setf 1 (.call 11 (.cons (.var 0) .nil))) (.seq (.for_ (.nm 2) (.rng (.lit (.int 0)) (.lit (.int (6)))) (.seq (.setf 3 (.call 18 (.cons (.var 1) .nil))) (.seq (.par [(4, false), (5, false)] [(.call 20 (.cons (.var 1) (.cons (.var 3) (.cons (.lit (.int (6))) .nil)))), (.call 20 (.cons (.var 1) (.cons (.var 3) (.cons (.lit (.int (6))) .nil))))]) (.seq (.set 6 (.lst (.cons (.var 4) (.cons (.rev (.var 4)) (.cons (.b1 .list (.var 4)) (.cons (.bin .add (.var 4) (.slc (.var 4) (.lit .non) (.lit (.int (1))))) (.cons (.bin .add (.var 4) (.slc (.var 4) (.neg (.lit (.int (1)))) (.lit .non))) (.cons (.call 16 (.cons (.var 1) .nil)) (.cons (.slc (.var 4) (.lit (.int (1))) (.lit .non)) .nil))))))))) (.seq (.for_ (.nm 7) (.rng (.lit (.int 0)) (.lit (.int (6)))) (.app 6 (.call 17 (.cons (.var 1) (.cons (.call 14 (.cons (.var 1) (.cons (.slc (.vr 6) (.lit .non) (.lit (.int (3)))) .nil))) (.cons (.bin .add (.lit (.int (1))) (.call 13 (.cons (.var 1) (.cons (.lit (.int (4))) .nil)))) .nil)))))) (.seq (.ifs (.cmp .ne (.comp [8] (.vr 6) (.nt (.call 24 (.cons (.var 3) (.cons (.var 8) .nil)))) (.lit (.int (1)))) (.lst .nil)) (.ret (.lit (.bl false))) .skip) (.seq (.setf 9 (.call 19 (.cons (.var 1) (.cons (.var 3) .nil)))) (.seq (.for_ (.nm 8) (.tup (.cons (.var 9) (.cons (.b1 .list (.var 9)) (.cons (.call 17 (.cons (.var 1) (.cons (.var 9) (.cons (.lit (.int (3))) .nil)))) (.cons (.call 16 (.cons (.var 1) .nil)) (.cons (.tup (.cons (.idx (.var 9) (.lit (.int (0)))) (.cons (.b1 .list (.idx (.var 9) (.lit (.int (1))))) .nil))) (.cons (.bin .add (.var 9) (.var 9)) .nil))))))) (.ifs (.cmp .ne (.b1 .repr (.call 7 (.cons (.var 3) (.cons (.var 8) .nil)))) (.b1 .repr (.call 21 (.cons (.var 3) (.cons (.var 8) .nil))))) (.ret (.lit (.bl false))) .skip)) (.seq (.setf 10 (.b1 .tuple (.b1 .sset (.bin .add (.var 4) (.var 5))))) (.for_ (.tp [(.nm 11), (.nm 12)]) (.tup (.cons (.tup (.cons (.var 4) (.cons (.var 5) .nil))) (.cons (.tup (.cons (.var 5) (.cons (.var 10) .nil))) (.cons (.tup (.cons (.var 10) (.cons (.var 4) .nil))) (.cons (.tup (.cons (.tup .nil) (.cons (.var 4) .nil))) (.cons (.tup (.cons (.var 4) (.cons (.tup .nil) .nil))) .nil)))))) (.seq (.setf 13 (.cmp .eq (.comp [14] (.var 11) (.cmp .nin (.var 14) (.var 12)) (.lit (.int (1)))) (.lst .nil))) (.ifs (.cmp .ne (.b1 .repr (.call 10 (.cons (.var 11) (.cons (.var 12) .nil)))) (.b1 .repr (.var 13))) (.ret (.lit (.bl false))) .skip)))))))))))) (.ret (.or_ (.cmp .lt (.call 13 (.cons (.var 1) (.cons (.lit (.int (6))) .nil))) (.lit (.int (5)))) (.call 25 .nil)))))⟩
def ds : List Def := [d0, d1, d2, d3, d4, d5, d6, d7, d8, d9, d10, d11, d12, d13, d14, d15, d16, d17, d18, d19, d20, d21, d22, d23, d24, d25, d26]
def law : Nat := 26
end Xk01
set_option maxHeartbeats 4000000
namespace Wk01
open PySem PySem.Spec L2 Ma Xk01
open LamX (lamS_by)
variable [TB]
def top (i : Nat) : Stmt := PySem.Challenge.pw_backasked_k01_stores_required.main.body.getD i (.Pass ⟨0, 0, 0, 0⟩)
structure Gam (P : Program) (w : World) (K : PySem.W.Frag) (mg : Str → Option Value) (base : Heap) (G : GC) (n : Nat) : Prop where
  hs : TB.hsh = fun k => k.hash w
  x_InvalidStore : XcC K (G.cl 0)
  b_ValueError : mg "ValueError" = none
  t_InvalidStore_ValueError : PySem.W.kitOne K (.ref (G.cl 0)) (.type "ValueError") = some true
  k_InvalidStore : Kls P w K mg base G "InvalidStore" 0 "index"
  f_is_whole : Has P w K mg base G ds n "is_whole" (defArgs (top 5)) (defBody (top 5)) (defScope (top 5)) [] [] 4 ["value", "least", "most"]
  f_is_parts : Has P w K mg base G ds n "is_parts" (defArgs (top 6)) (defBody (top 6)) (defScope (top 6)) [] [] 5 ["value", "count"]
  f_are_things : Has P w K mg base G ds n "are_things" (defArgs (top 7)) (defBody (top 7)) (defScope (top 7)) [] [] 6 ["value", "many"]
  f_is_fact : Has P w K mg base G ds n "is_fact" (defArgs (top 8)) (defBody (top 8)) (defScope (top 8)) [] [] 7 ["kinds", "value"]
  f_store_fault : Has P w K mg base G ds n "store_fault" (defArgs (top 9)) (defBody (top 9)) (defScope (top 9)) [] [] 8 ["kinds", "value"]
  f_require_store : Has P w K mg base G ds n "require_store" (defArgs (top 10)) (defBody (top 10)) (defScope (top 10)) [] [] 9 ["kinds", "value"]
  f_are_among : Has P w K mg base G ds n "are_among" (defArgs (top 11)) (defBody (top 11)) (defScope (top 11)) [] [] 10 ["facts", "others"]
  f__law_pen : Has P w K mg base G ds n "_law_pen" (defArgs (top 13)) (defBody (top 13)) (defScope (top 13)) [] [] 11 ["script"]
  f__law_fresh : Has P w K mg base G ds n "_law_fresh" (defArgs (top 14)) (defBody (top 14)) (defScope (top 14)) [] [] 12 ["pen"]
  f__law_draw : Has P w K mg base G ds n "_law_draw" (defArgs (top 15)) (defBody (top 15)) (defScope (top 15)) [] [] 13 ["pen", "bound"]
  f__law_one_of : Has P w K mg base G ds n "_law_one_of" (defArgs (top 16)) (defBody (top 16)) (defScope (top 16)) [] [] 14 ["pen", "some"]
  f__law_whole : Has P w K mg base G ds n "_law_whole" (defArgs (top 17)) (defBody (top 17)) (defScope (top 17)) [] [] 15 ["value", "low", "high"]
  f__law_odd : Has P w K mg base G ds n "_law_odd" (defArgs (top 18)) (defBody (top 18)) (defScope (top 18)) [] [] 16 ["pen"]
  f__law_bent : Has P w K mg base G ds n "_law_bent" (defArgs (top 19)) (defBody (top 19)) (defScope (top 19)) [] [] 17 ["pen", "value", "depth"]
  f__law_drawn_kinds : Has P w K mg base G ds n "_law_drawn_kinds" (defArgs (top 20)) (defBody (top 20)) (defScope (top 20)) [] [] 18 ["pen"]
  f__law_drawn_fact : Has P w K mg base G ds n "_law_drawn_fact" (defArgs (top 21)) (defBody (top 21)) (defScope (top 21)) [] [] 19 ["pen", "kinds"]
  f__law_drawn_store : Has P w K mg base G ds n "_law_drawn_store" (defArgs (top 22)) (defBody (top 22)) (defScope (top 22)) [] [] 20 ["pen", "kinds", "most"]
  f__law_is_fact : Has P w K mg base G ds n "_law_is_fact" (defArgs (top 23)) (defBody (top 23)) (defScope (top 23)) [] [] 21 ["kinds", "value"]
  f__law_due : Has P w K mg base G ds n "_law_due" (defArgs (top 24)) (defBody (top 24)) (defScope (top 24)) [] [] 22 ["kinds", "value"]
  f__law_told : Has P w K mg base G ds n "_law_told" (defArgs (top 25)) (defBody (top 25)) (defScope (top 25)) [] [] 23 ["kinds", "value"]
  f__law_right : Has P w K mg base G ds n "_law_right" (defArgs (top 26)) (defBody (top 26)) (defScope (top 26)) [] [] 24 ["kinds", "value"]
  f__law_great_right : Has P w K mg base G ds n "_law_great_right" (defArgs (top 27)) (defBody (top 27)) (defScope (top 27)) [] [] 25 []
  b_len : mg "len" = none
  b_sum : mg "sum" = none
  b_any : mg "any" = none
  b_all : mg "all" = none
  b_min : mg "min" = none
  b_max : mg "max" = none
  b_sorted : mg "sorted" = none
  b_isinstance : mg "isinstance" = none
  b_int : mg "int" = none
  b_bool : mg "bool" = none
  b_str : mg "str" = none
  b_tuple : mg "tuple" = none
  b_list : mg "list" = none
  b_set : mg "set" = none
  b_dict : mg "dict" = none
  b_enumerate : mg "enumerate" = none
  b_zip : mg "zip" = none
  b_range : mg "range" = none
  b_repr : mg "repr" = none
  c_MOST_THING : ∃ u, mg "MOST_THING" = some u ∧ RelV (.int (29)) u
  c_MOST_FACTS : ∃ u, mg "MOST_FACTS" = some u ∧ RelV (.int (3600)) u
section
variable {P : Program} {w : World} {K : PySem.W.Frag} {mg : Str → Option Value} {base : Heap} {G : GC}
theorem sc4 : FnScope ["value", "least", "most"] ["value", "least", "most"] (defScope (top 5)) := ⟨rfl, rfl, rfl, by decide +kernel, rfl, by decide +kernel, by decide +kernel⟩
theorem ok4 {n : Nat} {f : Addr} {fd : FuncData} (F : FunD K "is_whole" "is_whole" (defArgs (top 5)) (defBody (top 5)) (defScope (top 5)) [] [] f fd) (Γ : Gam P w K mg base G n) : FnG P w K mg base (L2.CX P w) (3 * (n + 1) + 2) f fd ["value", "least", "most"] (spF G (runs ds (n + 1)) 4 3) :=
  fn_step F sc4 rfl (by decide) fun cdv A outer s H H0 m0 E hr =>
    have SC := sc4
    have tk : Takes _ _ := L2.takes_of (X := cxOf (L2.CX P w) P w K mg base ["value", "least", "most"] "is_whole" (defScope (top 5)) f cdv A outer s H E) rfl rfl rfl rfl
    have own := L2.passes_of (X := cxOf (L2.CX P w) P w K mg base ["value", "least", "most"] "is_whole" (defScope (top 5)) f cdv A outer s H E) rfl
    (ss_one (ss_ret (se_and (se_isin (k := .int) rfl Γ.b_isinstance rfl Γ.b_int bt_int (sv' 0)) (se_and (se_nt (se_isin (k := .bool) rfl Γ.b_isinstance rfl Γ.b_bool bt_bool (sv' 0))) (se_one (se_chn om_le om_le (sv' 1) (sv' 0) (sv' 2)))))))
theorem sc5 : FnScope ["value", "count"] ["value", "count"] (defScope (top 6)) := ⟨rfl, rfl, rfl, by decide +kernel, rfl, by decide +kernel, by decide +kernel⟩
theorem ok5 {n : Nat} {f : Addr} {fd : FuncData} (F : FunD K "is_parts" "is_parts" (defArgs (top 6)) (defBody (top 6)) (defScope (top 6)) [] [] f fd) (Γ : Gam P w K mg base G n) : FnG P w K mg base (L2.CX P w) (3 * (n + 1) + 2) f fd ["value", "count"] (spF G (runs ds (n + 1)) 5 2) :=
  fn_step F sc5 rfl (by decide) fun cdv A outer s H H0 m0 E hr =>
    have SC := sc5
    have tk : Takes _ _ := L2.takes_of (X := cxOf (L2.CX P w) P w K mg base ["value", "count"] "is_parts" (defScope (top 6)) f cdv A outer s H E) rfl rfl rfl rfl
    have own := L2.passes_of (X := cxOf (L2.CX P w) P w K mg base ["value", "count"] "is_parts" (defScope (top 6)) f cdv A outer s H E) rfl
    (ss_one (ss_ret (se_and (se_isin (k := .tuple) rfl Γ.b_isinstance rfl Γ.b_tuple bt_tuple (sv' 0)) (se_one (se_cmp (om_eq (Rm.u64 hr)) (sr_of rfl (se_b1 (id := "") ca_len rfl Γ.b_len bt_len (sv' 0))) (sv' 1))))))
theorem sc6 : FnScope ["value", "many", "thing"] ["value", "many"] (defScope (top 7)) := ⟨rfl, rfl, rfl, by decide +kernel, rfl, by decide +kernel, by decide +kernel⟩
theorem ok6 {n : Nat} {f : Addr} {fd : FuncData} (F : FunD K "are_things" "are_things" (defArgs (top 7)) (defBody (top 7)) (defScope (top 7)) [] [] f fd) (Γ : Gam P w K mg base G n) : FnG P w K mg base (L2.CX P w) (3 * (n + 1) + 2) f fd ["value", "many"] (spF G (runs ds (n + 1)) 6 2) :=
  fn_step F sc6 rfl (by decide) fun cdv A outer s H H0 m0 E hr =>
    have SC := sc6
    have tk : Takes _ _ := L2.takes_of (X := cxOf (L2.CX P w) P w K mg base ["value", "many", "thing"] "are_things" (defScope (top 7)) f cdv A outer s H E) rfl rfl rfl rfl
    have own := L2.passes_of (X := cxOf (L2.CX P w) P w K mg base ["value", "many", "thing"] "are_things" (defScope (top 7)) f cdv A outer s H E) rfl
    (ss_one (ss_ret (se_and (sh_call Γ.f_is_parts hr rfl tk (fun _ _ _ _ _ _ us hl => match us, hl with | [_, _], _ => rfl) (sa_cons (sv 0) (sa_cons (sv 1) sa_nil)) rfl rfl) (se_one (se_b1 (id := "") (ca_all rfl) rfl Γ.b_all bt_all (sr_of rfl (se_comp (own := [("thing", 2)]) rfl SC.nd (sr_data rfl (sv 0)) (blkOk_by (by rfl)) rfl (fun _ _ _ _ _ _ _ => (sg_name (i := 2) clo_PC SC.nd rfl (by first | exact Or.inl rfl | exact Or.inr rfl))) (fun _ _ _ _ _ => sc_nil) (fun _ _ _ _ _ => (sh_call Γ.f_is_whole hr rfl takes0 (fun _ _ _ _ _ _ us hl => match us, hl with | [_, _, _], _ => rfl) (sa_cons (sv 2) (sa_cons se_int (sa_cons (sg Γ.c_MOST_THING) sa_nil))) rfl rfl)))))))))
theorem sc7 : FnScope ["kinds", "value"] ["kinds", "value"] (defScope (top 8)) := ⟨rfl, rfl, rfl, by decide +kernel, rfl, by decide +kernel, by decide +kernel⟩
theorem ok7 {n : Nat} {f : Addr} {fd : FuncData} (F : FunD K "is_fact" "is_fact" (defArgs (top 8)) (defBody (top 8)) (defScope (top 8)) [] [] f fd) (Γ : Gam P w K mg base G n) : FnG P w K mg base (L2.CX P w) (3 * (n + 1) + 2) f fd ["kinds", "value"] (spF G (runs ds (n + 1)) 7 2) :=
  fn_step F sc7 rfl (by decide) fun cdv A outer s H H0 m0 E hr =>
    have SC := sc7
    have tk : Takes _ _ := L2.takes_of (X := cxOf (L2.CX P w) P w K mg base ["kinds", "value"] "is_fact" (defScope (top 8)) f cdv A outer s H E) rfl rfl rfl rfl
    have own := L2.passes_of (X := cxOf (L2.CX P w) P w K mg base ["kinds", "value"] "is_fact" (defScope (top 8)) f cdv A outer s H E) rfl
    (ss_cons (ss_if (PW.pt (sw_or (st_nt (st_val (sh_call Γ.f_is_parts hr rfl tk (fun _ _ _ _ _ _ us hl => match us, hl with | [_, _], _ => rfl) (sa_cons (sv 1) (sa_cons se_int sa_nil)) rfl rfl))) (sw_or1 (st_nt (st_val (sh_call Γ.f_is_whole hr rfl tk (fun _ _ _ _ _ _ us hl => match us, hl with | [_, _, _], _ => rfl) (sa_cons (se_idx (Rm.u1 hr) (sv' 1) se_int) (sa_cons se_int (sa_cons (se_bin om_sub (sr_of rfl (se_b1 (id := "") ca_len rfl Γ.b_len bt_len (sv' 0))) (sr_of rfl se_int)) sa_nil))) rfl rfl)))))) (ss_one (ss_ret se_bl)) ss_nil) (ss_one (ss_ret (sh_call Γ.f_are_things hr rfl tk (fun _ _ _ _ _ _ us hl => match us, hl with | [_, _], _ => rfl) (sa_cons (se_idx (Rm.u1 hr) (sv' 1) se_int) (sa_cons (se_idx (Rm.u1 hr) (sv' 0) (se_idx (Rm.u1 hr) (sv' 1) se_int)) sa_nil)) rfl rfl))))
theorem sc8 : FnScope ["kinds", "value", "index", "fact"] ["kinds", "value"] (defScope (top 9)) := ⟨rfl, rfl, rfl, by decide +kernel, rfl, by decide +kernel, by decide +kernel⟩
theorem ok8 {n : Nat} {f : Addr} {fd : FuncData} (F : FunD K "store_fault" "store_fault" (defArgs (top 9)) (defBody (top 9)) (defScope (top 9)) [] [] f fd) (Γ : Gam P w K mg base G n) : FnG P w K mg base (L2.CX P w) (3 * (n + 1) + 2) f fd ["kinds", "value"] (spF G (runs ds (n + 1)) 8 2) :=
  fn_step F sc8 rfl (by decide) fun cdv A outer s H H0 m0 E hr =>
    have SC := sc8
    have tk : Takes _ _ := L2.takes_of (X := cxOf (L2.CX P w) P w K mg base ["kinds", "value", "index", "fact"] "store_fault" (defScope (top 9)) f cdv A outer s H E) rfl rfl rfl rfl
    have own := L2.passes_of (X := cxOf (L2.CX P w) P w K mg base ["kinds", "value", "index", "fact"] "store_fault" (defScope (top 9)) f cdv A outer s H E) rfl
    (ss_cons (ss_if (PW.pt (sw_or (st_nt (st_val (se_isin (k := .tuple) rfl Γ.b_isinstance rfl Γ.b_tuple bt_tuple (sv' 1)))) (sw_or1 (st_cmp om_gt (sr_of rfl (se_b1 (id := "") ca_len rfl Γ.b_len bt_len (sv' 1))) (sr_of rfl (sg Γ.c_MOST_FACTS)))))) (ss_one (ss_ret (se_tup (sa_cons se_non sa_nil) rfl rfl))) ss_nil) (ss_cons (ss_for own rfl (sw_num rfl rfl Γ.b_enumerate (sv 1)) (sg_tup rfl (sg_cons (sg_name (i := 2) clo_SF SC.nd rfl (by first | exact Or.inl rfl | exact Or.inr rfl)) (sg_cons (sg_name (i := 3) clo_SF SC.nd rfl (by first | exact Or.inl rfl | exact Or.inr rfl)) sg_nil))) (ss_one (ss_if (PW.pt (sw_or (st_nt (st_val (sh_call Γ.f_is_fact hr rfl tk (fun _ _ _ _ _ _ us hl => match us, hl with | [_, _], _ => rfl) (sa_cons (sv 0) (sa_cons (sv 3) sa_nil)) rfl rfl))) (sw_or1 (PW.pt (sw_and (st_cmp om_gt (sv' 2) (sr_of rfl se_int)) (sw_and1 (st_nt (st_cmp (om_lt (Rm.u64 hr)) (sr_of rfl (se_idx (Rm.u1 hr) (sv' 1) (se_bin om_sub (sv' 2) (sr_of rfl se_int)))) (sv' 3))))))))) (ss_one (ss_ret (se_tup (sa_cons (sv 2) sa_nil) rfl rfl))) ss_nil))) (ss_one (ss_ret se_non))))
theorem sc9 : FnScope ["kinds", "value", "fault"] ["kinds", "value"] (defScope (top 10)) := ⟨rfl, rfl, rfl, by decide +kernel, rfl, by decide +kernel, by decide +kernel⟩
theorem ok9 {n : Nat} {f : Addr} {fd : FuncData} (F : FunD K "require_store" "require_store" (defArgs (top 10)) (defBody (top 10)) (defScope (top 10)) [] [] f fd) (Γ : Gam P w K mg base G n) : FnG P w K mg base (L2.CX P w) (3 * (n + 1) + 2) f fd ["kinds", "value"] (spF G (runs ds (n + 1)) 9 2) :=
  fn_step F sc9 rfl (by decide) fun cdv A outer s H H0 m0 E hr =>
    have SC := sc9
    have tk : Takes _ _ := L2.takes_of (X := cxOf (L2.CX P w) P w K mg base ["kinds", "value", "fault"] "require_store" (defScope (top 10)) f cdv A outer s H E) rfl rfl rfl rfl
    have own := L2.passes_of (X := cxOf (L2.CX P w) P w K mg base ["kinds", "value", "fault"] "require_store" (defScope (top 10)) f cdv A outer s H E) rfl
    (ss_cons (ss_setf (i := 2) SC.nd rfl (by first | exact Or.inl rfl | exact Or.inr rfl) (sh_call Γ.f_store_fault hr rfl tk (fun _ _ _ _ _ _ us hl => match us, hl with | [_, _], _ => rfl) (sa_cons (sv 0) (sa_cons (sv 1) sa_nil)) rfl rfl)) (ss_cons (ss_if (st_cmp om_isn (sv' 2) (sr_of rfl se_non)) (ss_one (sh_raise Γ.k_InvalidStore rfl tk hr.1 rfl (sa_cons (se_idx (Rm.u1 hr) (sv' 2) se_int) sa_nil) rfl rfl)) ss_nil) (ss_one (ss_ret (sv 1)))))
theorem sc10 : FnScope ["facts", "others", "there", "fact"] ["facts", "others"] (defScope (top 11)) := ⟨rfl, rfl, rfl, by decide +kernel, rfl, by decide +kernel, by decide +kernel⟩
theorem ok10 {n : Nat} {f : Addr} {fd : FuncData} (F : FunD K "are_among" "are_among" (defArgs (top 11)) (defBody (top 11)) (defScope (top 11)) [] [] f fd) (Γ : Gam P w K mg base G n) : FnG P w K mg base (L2.CX P w) (3 * (n + 1) + 2) f fd ["facts", "others"] (spF G (runs ds (n + 1)) 10 2) :=
  fn_step F sc10 rfl (by decide) fun cdv A outer s H H0 m0 E hr =>
    have SC := sc10
    have tk : Takes _ _ := L2.takes_of (X := cxOf (L2.CX P w) P w K mg base ["facts", "others", "there", "fact"] "are_among" (defScope (top 11)) f cdv A outer s H E) rfl rfl rfl rfl
    have own := L2.passes_of (X := cxOf (L2.CX P w) P w K mg base ["facts", "others", "there", "fact"] "are_among" (defScope (top 11)) f cdv A outer s H E) rfl
    (ss_cons (ss_setf (i := 2) SC.nd rfl (by first | exact Or.inl rfl | exact Or.inr rfl) (se_b1T (ca_dset Γ.hs rfl (Rm.u100 hr)) rfl Γ.b_dict bt_dict (sr_of rfl (se_comp (own := [("fact", 3)]) rfl SC.nd (sr_data rfl (sv 1)) (blkOk_by (by rfl)) rfl (fun _ _ _ _ _ _ _ => (sg_name (i := 3) clo_PC SC.nd rfl (by first | exact Or.inl rfl | exact Or.inr rfl))) (fun _ _ _ _ _ => sc_nil) (fun _ _ _ _ _ => (se_tup (sa_cons (sv 3) (sa_cons se_bl sa_nil)) rfl rfl)))))) (ss_one (ss_ret (se_b1 (id := "") (ca_all rfl) rfl Γ.b_all bt_all (sr_of rfl (se_comp (own := [("fact", 3)]) rfl SC.nd (sr_data rfl (sv 0)) (blkOk_by (by rfl)) rfl (fun _ _ _ _ _ _ _ => (sg_name (i := 3) clo_PC SC.nd rfl (by first | exact Or.inl rfl | exact Or.inr rfl))) (fun _ _ _ _ _ => sc_nil) (fun _ _ _ _ _ => (se_kin Γ.hs (Rm.u100 hr) (sv' 3) (sv' 2)))))))))
theorem sc11 : FnScope ["script"] ["script"] (defScope (top 13)) := ⟨rfl, rfl, rfl, by decide +kernel, rfl, by decide +kernel, by decide +kernel⟩
theorem ok11 {n : Nat} {f : Addr} {fd : FuncData} (F : FunD K "_law_pen" "_law_pen" (defArgs (top 13)) (defBody (top 13)) (defScope (top 13)) [] [] f fd) (Γ : Gam P w K mg base G n) : FnG P w K mg base (L2.CX P w) (3 * (n + 1) + 2) f fd ["script"] (spF G (runs ds (n + 1)) 11 1) :=
  fn_step F sc11 rfl (by decide) fun cdv A outer s H H0 m0 E hr =>
    have SC := sc11
    have tk : Takes _ _ := L2.takes_of (X := cxOf (L2.CX P w) P w K mg base ["script"] "_law_pen" (defScope (top 13)) f cdv A outer s H E) rfl rfl rfl rfl
    have own := L2.passes_of (X := cxOf (L2.CX P w) P w K mg base ["script"] "_law_pen" (defScope (top 13)) f cdv A outer s H E) rfl
    (ss_one (ss_ret (se_rnew (sa_cons (se_b1T ca_list rfl Γ.b_list bt_list (sr_of rfl (se_slc (sv' 0) so_none (so_some se_int)))) (sa_cons se_int (sa_cons se_int (sa_cons (se_lst (sa_cons se_int (sa_cons se_int sa_nil)) rfl rfl) sa_nil)))) rfl rfl)))
theorem sc12 : FnScope ["pen", "seat", "given", "cell", "prime", "state", "found", "lap"] ["pen"] (defScope (top 14)) := ⟨rfl, rfl, rfl, by decide +kernel, rfl, by decide +kernel, by decide +kernel⟩
theorem ok12 {n : Nat} {f : Addr} {fd : FuncData} (F : FunD K "_law_fresh" "_law_fresh" (defArgs (top 14)) (defBody (top 14)) (defScope (top 14)) [] [] f fd) (Γ : Gam P w K mg base G n) : FnG P w K mg base (L2.CX P w) (3 * (n + 1) + 2) f fd ["pen"] (spF G (runs ds (n + 1)) 12 1) :=
  fn_step F sc12 rfl (by decide) fun cdv A outer s H H0 m0 E hr =>
    have SC := sc12
    have tk : Takes _ _ := L2.takes_of (X := cxOf (L2.CX P w) P w K mg base ["pen", "seat", "given", "cell", "prime", "state", "found", "lap"] "_law_fresh" (defScope (top 14)) f cdv A outer s H E) rfl rfl rfl rfl
    have own := L2.passes_of (X := cxOf (L2.CX P w) P w K mg base ["pen", "seat", "given", "cell", "prime", "state", "found", "lap"] "_law_fresh" (defScope (top 14)) f cdv A outer s H E) rfl
    (ss_cons (ss_par (i := 1) (j := 2) rfl SC.nd rfl rfl (by decide) rfl rfl (se_idx (Rm.u1 hr) (sv' 0) se_int) (se_idx (Rm.u1 hr) (sv' 0) se_int) rfl) (ss_cons (ss_rput (sv 0) se_int (se_bin om_add (sv' 1) (sr_of rfl se_int))) (ss_cons (ss_setf (i := 3) SC.nd rfl (by first | exact Or.inl rfl | exact Or.inr rfl) (se_ife (st_cmp (om_ne (Rm.u64 hr)) (sv' 2) (sr_of rfl (se_lst sa_nil rfl rfl))) (se_idx (Rm.u1 hr) (sv' 2) (se_bin om_mod (sr_of rfl (se_b1T ca_int rfl Γ.b_int bt_int (sv' 1))) (sr_of rfl (se_b1 (id := "") ca_len rfl Γ.b_len bt_len (sv' 2))))) se_int)) (ss_cons (ss_if (PW.pt (sw_and (st_cmp (om_lt (Rm.u64 hr)) (sv' 1) (sr_of rfl (se_b1 (id := "") ca_len rfl Γ.b_len bt_len (sv' 2)))) (sw_and1 (st_cmp om_ge (sv' 3) (sr_of rfl (se_bin om_pow (sr_of rfl se_int) (sr_of rfl se_int))))))) (ss_one (ss_ret (se_bin om_sub (sv' 3) (sr_of rfl (se_bin om_pow (sr_of rfl se_int) (sr_of rfl se_int)))))) ss_nil) (ss_cons (ss_setf (i := 4) SC.nd rfl (by first | exact Or.inl rfl | exact Or.inr rfl) se_int) (ss_cons (ss_setf (i := 5) SC.nd rfl (by first | exact Or.inl rfl | exact Or.inr rfl) (se_bin om_mod (sr_of rfl (se_b1T ca_int rfl Γ.b_int bt_int (sr_of rfl (se_bin om_add (sr_of rfl (se_bin om_add (sr_of rfl (se_bin om_mul (sv' 3) (sr_of rfl se_int))) (sr_of rfl (se_bin om_mul (sr_of rfl se_int) (sv' 1))))) (sr_of rfl se_int))))) (sv' 4))) (ss_cons (ss_setf (i := 6) SC.nd rfl (by first | exact Or.inl rfl | exact Or.inr rfl) (sv 5)) (ss_cons (ss_for own rfl (sw_rng1 rfl Γ.b_range se_int) (sg_name (i := 7) clo_SF SC.nd rfl (by first | exact Or.inl rfl | exact Or.inr rfl)) (ss_cons (ss_setf (i := 5) SC.nd rfl (by first | exact Or.inl rfl | exact Or.inr rfl) (se_bin om_mod (sr_of rfl (se_b1T ca_int rfl Γ.b_int bt_int (sr_of rfl (se_bin om_add (sr_of rfl (se_bin om_add (sr_of rfl (se_bin om_mul (sv' 5) (sv' 5))) (sr_of rfl (se_bin om_mul (sr_of rfl (se_bin om_mul (sr_of rfl se_int) (sr_of rfl (se_bin om_add (sv' 7) (sr_of rfl se_int))))) (sr_of rfl (se_bin om_add (sv' 1) (sr_of rfl se_int))))))) (sv' 3))))) (sv' 4))) (ss_one (ss_setf (i := 6) SC.nd rfl (by first | exact Or.inl rfl | exact Or.inr rfl) (se_bin om_add (sr_of rfl (se_bin om_mul (sv' 6) (sv' 4))) (sv' 5)))))) (ss_one (ss_ret (sv 6)))))))))))
theorem sc13 : FnScope ["pen", "bound", "digit"] ["pen", "bound"] (defScope (top 15)) := ⟨rfl, rfl, rfl, by decide +kernel, rfl, by decide +kernel, by decide +kernel⟩
theorem ok13 {n : Nat} {f : Addr} {fd : FuncData} (F : FunD K "_law_draw" "_law_draw" (defArgs (top 15)) (defBody (top 15)) (defScope (top 15)) [] [] f fd) (Γ : Gam P w K mg base G n) : FnG P w K mg base (L2.CX P w) (3 * (n + 1) + 2) f fd ["pen", "bound"] (spF G (runs ds (n + 1)) 13 2) :=
  fn_step F sc13 rfl (by decide) fun cdv A outer s H H0 m0 E hr =>
    have SC := sc13
    have tk : Takes _ _ := L2.takes_of (X := cxOf (L2.CX P w) P w K mg base ["pen", "bound", "digit"] "_law_draw" (defScope (top 15)) f cdv A outer s H E) rfl rfl rfl rfl
    have own := L2.passes_of (X := cxOf (L2.CX P w) P w K mg base ["pen", "bound", "digit"] "_law_draw" (defScope (top 15)) f cdv A outer s H E) rfl
    (ss_cons (ss_if (st_cmp (om_lt (Rm.u64 hr)) (sr_of rfl (se_idx (Rm.u1 hr) (sv' 0) se_int)) (sv' 1)) (ss_one (ss_rput (sv 0) se_int (sh_call Γ.f__law_fresh hr rfl tk (fun _ _ _ _ _ _ us hl => match us, hl with | [_], _ => rfl) (sa_cons (sv 0) sa_nil) rfl rfl))) ss_nil) (ss_cons (ss_setf (i := 2) SC.nd rfl (by first | exact Or.inl rfl | exact Or.inr rfl) (se_bin om_mod (sr_of rfl (se_b1T ca_int rfl Γ.b_int bt_int (sr_of rfl (se_idx (Rm.u1 hr) (sv' 0) se_int)))) (sv' 1))) (ss_cons (ss_rput (sv 0) se_int (se_bin om_div (sr_of rfl (se_b1T ca_int rfl Γ.b_int bt_int (sr_of rfl (se_idx (Rm.u1 hr) (sv' 0) se_int)))) (sv' 1))) (ss_one (ss_ret (sv 2))))))
theorem sc14 : FnScope ["pen", "some"] ["pen", "some"] (defScope (top 16)) := ⟨rfl, rfl, rfl, by decide +kernel, rfl, by decide +kernel, by decide +kernel⟩
theorem ok14 {n : Nat} {f : Addr} {fd : FuncData} (F : FunD K "_law_one_of" "_law_one_of" (defArgs (top 16)) (defBody (top 16)) (defScope (top 16)) [] [] f fd) (Γ : Gam P w K mg base G n) : FnG P w K mg base (L2.CX P w) (3 * (n + 1) + 2) f fd ["pen", "some"] (spF G (runs ds (n + 1)) 14 2) :=
  fn_step F sc14 rfl (by decide) fun cdv A outer s H H0 m0 E hr =>
    have SC := sc14
    have tk : Takes _ _ := L2.takes_of (X := cxOf (L2.CX P w) P w K mg base ["pen", "some"] "_law_one_of" (defScope (top 16)) f cdv A outer s H E) rfl rfl rfl rfl
    have own := L2.passes_of (X := cxOf (L2.CX P w) P w K mg base ["pen", "some"] "_law_one_of" (defScope (top 16)) f cdv A outer s H E) rfl
    (ss_one (ss_ret (se_idx (Rm.u1 hr) (sv' 1) (sh_call Γ.f__law_draw hr rfl tk (fun _ _ _ _ _ _ us hl => match us, hl with | [_, _], _ => rfl) (sa_cons (sv 0) (sa_cons (se_b1 (id := "") ca_len rfl Γ.b_len bt_len (sv' 1)) sa_nil)) rfl rfl))))
theorem sc15 : FnScope ["value", "low", "high"] ["value", "low", "high"] (defScope (top 17)) := ⟨rfl, rfl, rfl, by decide +kernel, rfl, by decide +kernel, by decide +kernel⟩
theorem ok15 {n : Nat} {f : Addr} {fd : FuncData} (F : FunD K "_law_whole" "_law_whole" (defArgs (top 17)) (defBody (top 17)) (defScope (top 17)) [] [] f fd) (Γ : Gam P w K mg base G n) : FnG P w K mg base (L2.CX P w) (3 * (n + 1) + 2) f fd ["value", "low", "high"] (spF G (runs ds (n + 1)) 15 3) :=
  fn_step F sc15 rfl (by decide) fun cdv A outer s H H0 m0 E hr =>
    have SC := sc15
    have tk : Takes _ _ := L2.takes_of (X := cxOf (L2.CX P w) P w K mg base ["value", "low", "high"] "_law_whole" (defScope (top 17)) f cdv A outer s H E) rfl rfl rfl rfl
    have own := L2.passes_of (X := cxOf (L2.CX P w) P w K mg base ["value", "low", "high"] "_law_whole" (defScope (top 17)) f cdv A outer s H E) rfl
    (ss_one (ss_ret (se_and (se_isin (k := .int) rfl Γ.b_isinstance rfl Γ.b_int bt_int (sv' 0)) (se_and (se_nt (se_isin (k := .bool) rfl Γ.b_isinstance rfl Γ.b_bool bt_bool (sv' 0))) (se_one (se_chn om_le om_le (sv' 1) (sv' 0) (sv' 2)))))))
theorem sc16 : FnScope ["pen", "some"] ["pen"] (defScope (top 18)) := ⟨rfl, rfl, rfl, by decide +kernel, rfl, by decide +kernel, by decide +kernel⟩
theorem ok16 {n : Nat} {f : Addr} {fd : FuncData} (F : FunD K "_law_odd" "_law_odd" (defArgs (top 18)) (defBody (top 18)) (defScope (top 18)) [] [] f fd) (Γ : Gam P w K mg base G n) : FnG P w K mg base (L2.CX P w) (3 * (n + 1) + 2) f fd ["pen"] (spF G (runs ds (n + 1)) 16 1) :=
  fn_step F sc16 rfl (by decide) fun cdv A outer s H H0 m0 E hr =>
    have SC := sc16
    have tk : Takes _ _ := L2.takes_of (X := cxOf (L2.CX P w) P w K mg base ["pen", "some"] "_law_odd" (defScope (top 18)) f cdv A outer s H E) rfl rfl rfl rfl
    have own := L2.passes_of (X := cxOf (L2.CX P w) P w K mg base ["pen", "some"] "_law_odd" (defScope (top 18)) f cdv A outer s H E) rfl
    (ss_cons (ss_setf (i := 1) SC.nd rfl (by first | exact Or.inl rfl | exact Or.inr rfl) (se_lst (sa_cons se_non (sa_cons se_bl (sa_cons se_bl (sa_cons (se_neg se_int) (sa_cons se_int (sa_cons se_int (sa_cons se_int (sa_cons se_int (sa_cons se_int (sa_cons se_int (sa_cons (se_str rfl) (sa_cons (se_str rfl) (sa_cons (se_str rfl) (sa_cons (se_str rfl) (sa_cons (se_tup sa_nil rfl rfl) (sa_cons (se_lst sa_nil rfl rfl) (sa_cons se_dnew (sa_cons (se_tup (sa_cons se_int sa_nil) rfl rfl) (sa_cons (se_tup (sa_cons se_int (sa_cons se_int sa_nil)) rfl rfl) (sa_cons (se_tup (sa_cons (se_tup sa_nil rfl rfl) sa_nil) rfl rfl) (sa_cons (se_lst (sa_cons se_int sa_nil) rfl rfl) sa_nil))))))))))))))))))))) rfl rfl)) (ss_one (ss_ret (sh_call Γ.f__law_one_of hr rfl tk (fun _ _ _ _ _ _ us hl => match us, hl with | [_, _], _ => rfl) (sa_cons (sv 0) (sa_cons (se_bin om_add (sv' 1) (sr_of rfl (se_lst (sa_cons (se_bin om_pow (sr_of rfl se_int) (sr_of rfl se_int)) (sa_cons (se_tup (sa_cons se_int (sa_cons (se_tup (sa_cons se_int sa_nil) rfl rfl) sa_nil)) rfl rfl) (sa_cons (se_tup (sa_cons se_int (sa_cons (se_tup sa_nil rfl rfl) sa_nil)) rfl rfl) (sa_cons (se_tup (sa_cons (se_tup (sa_cons (se_neg se_int) sa_nil) rfl rfl) (sa_cons (se_tup sa_nil rfl rfl) (sa_cons (se_tup sa_nil rfl rfl) sa_nil))) rfl rfl) (sa_cons (se_tup (sa_cons (se_tup (sa_cons se_int sa_nil) rfl rfl) (sa_cons (se_tup sa_nil rfl rfl) sa_nil)) rfl rfl) (sa_cons (se_tup (sa_cons se_int (sa_cons (se_lst (sa_cons se_int sa_nil) rfl rfl) sa_nil)) rfl rfl) (sa_cons (se_neg se_int) (sa_cons (se_neg se_int) sa_nil)))))))) rfl rfl))) sa_nil)) rfl rfl))))
theorem sc17 : FnScope ["pen", "value", "depth", "option", "at", "part"] ["pen", "value", "depth"] (defScope (top 19)) := ⟨rfl, rfl, rfl, by decide +kernel, rfl, by decide +kernel, by decide +kernel⟩
theorem ok17 {n : Nat} {f : Addr} {fd : FuncData} (F : FunD K "_law_bent" "_law_bent" (defArgs (top 19)) (defBody (top 19)) (defScope (top 19)) [] [] f fd) (Γ : Gam P w K mg base G n) : FnG P w K mg base (L2.CX P w) (3 * (n + 1) + 2) f fd ["pen", "value", "depth"] (spF G (runs ds (n + 1)) 17 3) :=
  fn_step F sc17 rfl (by decide) fun cdv A outer s H H0 m0 E hr =>
    have SC := sc17
    have tk : Takes _ _ := L2.takes_of (X := cxOf (L2.CX P w) P w K mg base ["pen", "value", "depth", "option", "at", "part"] "_law_bent" (defScope (top 19)) f cdv A outer s H E) rfl rfl rfl rfl
    have own := L2.passes_of (X := cxOf (L2.CX P w) P w K mg base ["pen", "value", "depth", "option", "at", "part"] "_law_bent" (defScope (top 19)) f cdv A outer s H E) rfl
    (ss_cons (ss_if (PW.pt (sw_or (st_nt (st_val (se_isin (k := .tuple) rfl Γ.b_isinstance rfl Γ.b_tuple bt_tuple (sv' 1)))) (sw_or (st_cmp (om_eq (Rm.u64 hr)) (sv' 1) (sr_of rfl (se_tup sa_nil rfl rfl))) (sw_or (st_cmp (om_eq (Rm.u64 hr)) (sv' 2) (sr_of rfl se_int)) (sw_or1 (st_cmp (om_eq (Rm.u64 hr)) (sr_of rfl (sh_call Γ.f__law_draw hr rfl tk (fun _ _ _ _ _ _ us hl => match us, hl with | [_, _], _ => rfl) (sa_cons (sv 0) (sa_cons se_int sa_nil)) rfl rfl)) (sr_of rfl se_int))))))) (ss_cons (ss_setf (i := 3) SC.nd rfl (by first | exact Or.inl rfl | exact Or.inr rfl) (sh_call Γ.f__law_draw hr rfl tk (fun _ _ _ _ _ _ us hl => match us, hl with | [_, _], _ => rfl) (sa_cons (sv 0) (sa_cons se_int sa_nil)) rfl rfl)) (ss_cons (ss_if (PW.pt (sw_and (st_val (se_isin (k := .int) rfl Γ.b_isinstance rfl Γ.b_int bt_int (sv' 1))) (sw_and (st_nt (st_val (se_isin (k := .bool) rfl Γ.b_isinstance rfl Γ.b_bool bt_bool (sv' 1)))) (sw_and1 (st_cmp (om_lt (Rm.u64 hr)) (sv' 3) (sr_of rfl se_int)))))) (ss_one (ss_ret (se_idx (Rm.u1 hr) (sr_of rfl (se_lst (sa_cons (se_bin om_add (sv' 1) (sr_of rfl se_int)) (sa_cons (se_bin om_sub (sv' 1) (sr_of rfl se_int)) (sa_cons (se_cmp (om_eq (Rm.u64 hr)) (sv' 1) (sr_of rfl se_int)) (sa_cons se_int (sa_cons (se_neg (sv 1)) (sa_cons (se_bin om_add (sv' 1) (sr_of rfl se_int)) sa_nil)))))) rfl rfl)) (sv 3)))) ss_nil) (ss_cons (ss_if (PW.pt (sw_and (st_val (se_isin (k := .tuple) rfl Γ.b_isinstance rfl Γ.b_tuple bt_tuple (sv' 1))) (sw_and1 (st_cmp (om_lt (Rm.u64 hr)) (sv' 3) (sr_of rfl se_int))))) (ss_one (ss_ret (se_idx (Rm.u1 hr) (sr_of rfl (se_lst (sa_cons (se_slc (sv' 1) (so_some se_int) so_none) (sa_cons (se_slc (sv' 1) so_none (so_some (se_neg se_int))) (sa_cons (se_bin om_add (sv' 1) (sr_of rfl (se_slc (sv' 1) so_none (so_some se_int)))) (sa_cons (se_rev (sv' 1)) (sa_cons (se_b1T ca_list rfl Γ.b_list bt_list (sv' 1)) (sa_cons (se_bin om_add (sv' 1) (sr_of rfl (se_tup (sa_cons se_int sa_nil) rfl rfl))) sa_nil)))))) rfl rfl)) (sv 3)))) ss_nil) (ss_one (ss_ret (sh_call Γ.f__law_odd hr rfl tk (fun _ _ _ _ _ _ us hl => match us, hl with | [_], _ => rfl) (sa_cons (sv 0) sa_nil) rfl rfl)))))) ss_nil) (ss_cons (ss_setf (i := 4) SC.nd rfl (by first | exact Or.inl rfl | exact Or.inr rfl) (sh_call Γ.f__law_draw hr rfl tk (fun _ _ _ _ _ _ us hl => match us, hl with | [_, _], _ => rfl) (sa_cons (sv 0) (sa_cons (se_b1 (id := "") ca_len rfl Γ.b_len bt_len (sv' 1)) sa_nil)) rfl rfl)) (ss_cons (ss_setf (i := 5) SC.nd rfl (by first | exact Or.inl rfl | exact Or.inr rfl) (sh_call Γ.f__law_bent hr rfl tk (fun _ _ _ _ _ _ us hl => match us, hl with | [_, _, _], _ => rfl) (sa_cons (sv 0) (sa_cons (se_idx (Rm.u1 hr) (sv' 1) (sv 4)) (sa_cons (se_bin om_sub (sv' 2) (sr_of rfl se_int)) sa_nil))) rfl rfl)) (ss_one (ss_ret (se_bin om_add (sr_of rfl (se_bin om_add (sr_of rfl (se_slc (sv' 1) so_none (so_some (sv 4)))) (sr_of rfl (se_tup (sa_cons (sv 5) sa_nil) rfl rfl)))) (sr_of rfl (se_slc (sv' 1) (so_some (se_bin om_add (sv' 4) (sr_of rfl se_int))) so_none))))))))
theorem sc18 : FnScope ["pen"] ["pen"] (defScope (top 20)) := ⟨rfl, rfl, rfl, by decide +kernel, rfl, by decide +kernel, by decide +kernel⟩
theorem ok18 {n : Nat} {f : Addr} {fd : FuncData} (F : FunD K "_law_drawn_kinds" "_law_drawn_kinds" (defArgs (top 20)) (defBody (top 20)) (defScope (top 20)) [] [] f fd) (Γ : Gam P w K mg base G n) : FnG P w K mg base (L2.CX P w) (3 * (n + 1) + 2) f fd ["pen"] (spF G (runs ds (n + 1)) 18 1) :=
  fn_step F sc18 rfl (by decide) fun cdv A outer s H H0 m0 E hr =>
    have SC := sc18
    have tk : Takes _ _ := L2.takes_of (X := cxOf (L2.CX P w) P w K mg base ["pen"] "_law_drawn_kinds" (defScope (top 20)) f cdv A outer s H E) rfl rfl rfl rfl
    have own := L2.passes_of (X := cxOf (L2.CX P w) P w K mg base ["pen"] "_law_drawn_kinds" (defScope (top 20)) f cdv A outer s H E) rfl
    (ss_cons (ss_rput (sv 0) se_int (sh_call Γ.f__law_one_of hr rfl tk (fun _ _ _ _ _ _ us hl => match us, hl with | [_, _], _ => rfl) (sa_cons (sv 0) (sa_cons (se_lst (sa_cons (se_lst (sa_cons se_int (sa_cons se_int sa_nil)) rfl rfl) (sa_cons (se_lst (sa_cons se_int (sa_cons se_int sa_nil)) rfl rfl) (sa_cons (se_lst (sa_cons se_int (sa_cons se_int sa_nil)) rfl rfl) (sa_cons (se_lst (sa_cons se_int (sa_cons se_int sa_nil)) rfl rfl) sa_nil)))) rfl rfl) sa_nil)) rfl rfl)) (ss_one (ss_ret (sh_call Γ.f__law_one_of hr rfl tk (fun _ _ _ _ _ _ us hl => match us, hl with | [_, _], _ => rfl) (sa_cons (sv 0) (sa_cons (se_lst (sa_cons (se_tup (sa_cons se_int (sa_cons se_int sa_nil)) rfl rfl) (sa_cons (se_tup (sa_cons se_int sa_nil) rfl rfl) (sa_cons (se_tup (sa_cons se_int (sa_cons se_int sa_nil)) rfl rfl) (sa_cons (se_tup (sa_cons se_int (sa_cons se_int sa_nil)) rfl rfl) (sa_cons (se_tup (sa_cons se_int (sa_cons se_int (sa_cons se_int sa_nil))) rfl rfl) (sa_cons (se_tup (sa_cons se_int (sa_cons se_int (sa_cons se_int sa_nil))) rfl rfl) (sa_cons (se_tup (sa_cons se_int (sa_cons se_int (sa_cons se_int (sa_cons se_int sa_nil)))) rfl rfl) sa_nil))))))) rfl rfl) sa_nil)) rfl rfl))))
theorem sc19 : FnScope ["pen", "kinds", "kind", "lap"] ["pen", "kinds"] (defScope (top 21)) := ⟨rfl, rfl, rfl, by decide +kernel, rfl, by decide +kernel, by decide +kernel⟩
theorem ok19 {n : Nat} {f : Addr} {fd : FuncData} (F : FunD K "_law_drawn_fact" "_law_drawn_fact" (defArgs (top 21)) (defBody (top 21)) (defScope (top 21)) [] [] f fd) (Γ : Gam P w K mg base G n) : FnG P w K mg base (L2.CX P w) (3 * (n + 1) + 2) f fd ["pen", "kinds"] (spF G (runs ds (n + 1)) 19 2) :=
  fn_step F sc19 rfl (by decide) fun cdv A outer s H H0 m0 E hr =>
    have SC := sc19
    have tk : Takes _ _ := L2.takes_of (X := cxOf (L2.CX P w) P w K mg base ["pen", "kinds", "kind", "lap"] "_law_drawn_fact" (defScope (top 21)) f cdv A outer s H E) rfl rfl rfl rfl
    have own := L2.passes_of (X := cxOf (L2.CX P w) P w K mg base ["pen", "kinds", "kind", "lap"] "_law_drawn_fact" (defScope (top 21)) f cdv A outer s H E) rfl
    (ss_cons (ss_setf (i := 2) SC.nd rfl (by first | exact Or.inl rfl | exact Or.inr rfl) (sh_call Γ.f__law_draw hr rfl tk (fun _ _ _ _ _ _ us hl => match us, hl with | [_, _], _ => rfl) (sa_cons (sv 0) (sa_cons (se_b1 (id := "") ca_len rfl Γ.b_len bt_len (sv' 1)) sa_nil)) rfl rfl)) (ss_one (ss_ret (se_tup (sa_cons (sv 2) (sa_cons (se_b1T ca_tuple rfl Γ.b_tuple bt_tuple (sr_of rfl (se_comp (own := [("lap", 3)]) rfl SC.nd (sr_walk rfl (sw_rng1 rfl Γ.b_range (se_idx (Rm.u1 hr) (sv' 1) (sv 2)))) (blkOk_by (by rfl)) rfl (fun _ _ _ _ _ _ _ => (sg_name (i := 3) clo_PC SC.nd rfl (by first | exact Or.inl rfl | exact Or.inr rfl))) (fun _ _ _ _ _ => sc_nil) (fun _ _ _ _ _ => (sh_call Γ.f__law_one_of hr rfl takes0 (fun _ _ _ _ _ _ us hl => match us, hl with | [_, _], _ => rfl) (sa_cons (sv 0) (sa_cons (se_bin om_add (sr_of rfl (se_idx (Rm.u1 hr) (sv' 0) se_int)) (sr_of rfl (se_lst (sa_cons se_int (sa_cons se_int (sa_cons se_int sa_nil))) rfl rfl))) sa_nil)) rfl rfl))))) sa_nil)) rfl rfl))))
theorem sc20 : FnScope ["pen", "kinds", "most", "lap"] ["pen", "kinds", "most"] (defScope (top 22)) := ⟨rfl, rfl, rfl, by decide +kernel, rfl, by decide +kernel, by decide +kernel⟩
theorem ok20 {n : Nat} {f : Addr} {fd : FuncData} (F : FunD K "_law_drawn_store" "_law_drawn_store" (defArgs (top 22)) (defBody (top 22)) (defScope (top 22)) [] [] f fd) (Γ : Gam P w K mg base G n) : FnG P w K mg base (L2.CX P w) (3 * (n + 1) + 2) f fd ["pen", "kinds", "most"] (spF G (runs ds (n + 1)) 20 3) :=
  fn_step F sc20 rfl (by decide) fun cdv A outer s H H0 m0 E hr =>
    have SC := sc20
    have tk : Takes _ _ := L2.takes_of (X := cxOf (L2.CX P w) P w K mg base ["pen", "kinds", "most", "lap"] "_law_drawn_store" (defScope (top 22)) f cdv A outer s H E) rfl rfl rfl rfl
    have own := L2.passes_of (X := cxOf (L2.CX P w) P w K mg base ["pen", "kinds", "most", "lap"] "_law_drawn_store" (defScope (top 22)) f cdv A outer s H E) rfl
    (ss_one (ss_ret (se_b1T ca_tuple rfl Γ.b_tuple bt_tuple (sr_of rfl (se_sset rfl (Rm.u100 hr) rfl Γ.b_sorted rfl Γ.b_set (sr_of rfl (se_comp (own := [("lap", 3)]) rfl SC.nd (sr_walk rfl (sw_rng1 rfl Γ.b_range (sh_call Γ.f__law_draw hr rfl tk (fun _ _ _ _ _ _ us hl => match us, hl with | [_, _], _ => rfl) (sa_cons (sv 0) (sa_cons (se_bin om_add (sv' 2) (sr_of rfl se_int)) sa_nil)) rfl rfl))) (blkOk_by (by rfl)) rfl (fun _ _ _ _ _ _ _ => (sg_name (i := 3) clo_PC SC.nd rfl (by first | exact Or.inl rfl | exact Or.inr rfl))) (fun _ _ _ _ _ => sc_nil) (fun _ _ _ _ _ => (sh_call Γ.f__law_drawn_fact hr rfl takes0 (fun _ _ _ _ _ _ us hl => match us, hl with | [_, _], _ => rfl) (sa_cons (sv 0) (sa_cons (sv 1) sa_nil)) rfl rfl)))))))))
theorem sc21 : FnScope ["kinds", "value", "thing"] ["kinds", "value"] (defScope (top 23)) := ⟨rfl, rfl, rfl, by decide +kernel, rfl, by decide +kernel, by decide +kernel⟩
theorem ok21 {n : Nat} {f : Addr} {fd : FuncData} (F : FunD K "_law_is_fact" "_law_is_fact" (defArgs (top 23)) (defBody (top 23)) (defScope (top 23)) [] [] f fd) (Γ : Gam P w K mg base G n) : FnG P w K mg base (L2.CX P w) (3 * (n + 1) + 2) f fd ["kinds", "value"] (spF G (runs ds (n + 1)) 21 2) :=
  fn_step F sc21 rfl (by decide) fun cdv A outer s H H0 m0 E hr =>
    have SC := sc21
    have tk : Takes _ _ := L2.takes_of (X := cxOf (L2.CX P w) P w K mg base ["kinds", "value", "thing"] "_law_is_fact" (defScope (top 23)) f cdv A outer s H E) rfl rfl rfl rfl
    have own := L2.passes_of (X := cxOf (L2.CX P w) P w K mg base ["kinds", "value", "thing"] "_law_is_fact" (defScope (top 23)) f cdv A outer s H E) rfl
    (ss_cons (ss_if (PW.pt (sw_or (st_nt (st_val (se_isin (k := .tuple) rfl Γ.b_isinstance rfl Γ.b_tuple bt_tuple (sv' 1)))) (sw_or (st_cmp (om_ne (Rm.u64 hr)) (sr_of rfl (se_b1 (id := "") ca_len rfl Γ.b_len bt_len (sv' 1))) (sr_of rfl se_int)) (sw_or1 (st_nt (st_val (sh_call Γ.f__law_whole hr rfl tk (fun _ _ _ _ _ _ us hl => match us, hl with | [_, _, _], _ => rfl) (sa_cons (se_idx (Rm.u1 hr) (sv' 1) se_int) (sa_cons se_int (sa_cons (se_bin om_sub (sr_of rfl (se_b1 (id := "") ca_len rfl Γ.b_len bt_len (sv' 0))) (sr_of rfl se_int)) sa_nil))) rfl rfl))))))) (ss_one (ss_ret se_bl)) ss_nil) (ss_cons (ss_if (PW.pt (sw_or (st_nt (st_val (se_isin (k := .tuple) rfl Γ.b_isinstance rfl Γ.b_tuple bt_tuple (sr_of rfl (se_idx (Rm.u1 hr) (sv' 1) se_int))))) (sw_or1 (st_cmp (om_ne (Rm.u64 hr)) (sr_of rfl (se_b1 (id := "") ca_len rfl Γ.b_len bt_len (sr_of rfl (se_idx (Rm.u1 hr) (sv' 1) se_int)))) (sr_of rfl (se_idx (Rm.u1 hr) (sv' 0) (se_idx (Rm.u1 hr) (sv' 1) se_int))))))) (ss_one (ss_ret se_bl)) ss_nil) (ss_one (ss_ret (se_cmp (om_eq (Rm.u64 hr)) (sr_of rfl (se_comp (own := [("thing", 2)]) rfl SC.nd (sr_data rfl (se_idx (Rm.u1 hr) (sv' 1) se_int)) (blkOk_by (by rfl)) rfl (fun _ _ _ _ _ _ _ => (sg_name (i := 2) clo_PC SC.nd rfl (by first | exact Or.inl rfl | exact Or.inr rfl))) (fun _ _ _ _ _ => (sc_one (st_nt (st_val (sh_call Γ.f__law_whole hr rfl takes0 (fun _ _ _ _ _ _ us hl => match us, hl with | [_, _, _], _ => rfl) (sa_cons (sv 2) (sa_cons se_int (sa_cons se_int sa_nil))) rfl rfl))))) (fun _ _ _ _ _ => se_int))) (sr_of rfl (se_lst sa_nil rfl rfl)))))))
theorem sc22 : FnScope ["kinds", "value", "index", "fact"] ["kinds", "value"] (defScope (top 24)) := ⟨rfl, rfl, rfl, by decide +kernel, rfl, by decide +kernel, by decide +kernel⟩
theorem ok22 {n : Nat} {f : Addr} {fd : FuncData} (F : FunD K "_law_due" "_law_due" (defArgs (top 24)) (defBody (top 24)) (defScope (top 24)) [] [] f fd) (Γ : Gam P w K mg base G n) : FnG P w K mg base (L2.CX P w) (3 * (n + 1) + 2) f fd ["kinds", "value"] (spF G (runs ds (n + 1)) 22 2) :=
  fn_step F sc22 rfl (by decide) fun cdv A outer s H H0 m0 E hr =>
    have SC := sc22
    have tk : Takes _ _ := L2.takes_of (X := cxOf (L2.CX P w) P w K mg base ["kinds", "value", "index", "fact"] "_law_due" (defScope (top 24)) f cdv A outer s H E) rfl rfl rfl rfl
    have own := L2.passes_of (X := cxOf (L2.CX P w) P w K mg base ["kinds", "value", "index", "fact"] "_law_due" (defScope (top 24)) f cdv A outer s H E) rfl
    (ss_cons (ss_if (PW.pt (sw_or (st_nt (st_val (se_isin (k := .tuple) rfl Γ.b_isinstance rfl Γ.b_tuple bt_tuple (sv' 1)))) (sw_or1 (st_cmp om_gt (sr_of rfl (se_b1 (id := "") ca_len rfl Γ.b_len bt_len (sv' 1))) (sr_of rfl se_int))))) (ss_one (ss_ret (se_lst (sa_cons se_non sa_nil) rfl rfl))) ss_nil) (ss_cons (ss_for own rfl (sw_num rfl rfl Γ.b_enumerate (sv 1)) (sg_tup rfl (sg_cons (sg_name (i := 2) clo_SF SC.nd rfl (by first | exact Or.inl rfl | exact Or.inr rfl)) (sg_cons (sg_name (i := 3) clo_SF SC.nd rfl (by first | exact Or.inl rfl | exact Or.inr rfl)) sg_nil))) (ss_one (ss_if (PW.pt (sw_or (st_nt (st_val (sh_call Γ.f__law_is_fact hr rfl tk (fun _ _ _ _ _ _ us hl => match us, hl with | [_, _], _ => rfl) (sa_cons (sv 0) (sa_cons (sv 3) sa_nil)) rfl rfl))) (sw_or1 (PW.pt (sw_and (st_cmp om_gt (sv' 2) (sr_of rfl se_int)) (sw_and1 (st_nt (st_cmp (om_lt (Rm.u64 hr)) (sr_of rfl (se_idx (Rm.u1 hr) (sv' 1) (se_bin om_sub (sv' 2) (sr_of rfl se_int)))) (sv' 3))))))))) (ss_one (ss_ret (se_lst (sa_cons (sv 2) sa_nil) rfl rfl))) ss_nil))) (ss_one (ss_ret (se_lst sa_nil rfl rfl)))))
theorem sc23 : FnScope ["kinds", "value", "e"] ["kinds", "value"] (defScope (top 25)) := ⟨rfl, rfl, rfl, by decide +kernel, rfl, by decide +kernel, by decide +kernel⟩
theorem ok23 {n : Nat} {f : Addr} {fd : FuncData} (F : FunD K "_law_told" "_law_told" (defArgs (top 25)) (defBody (top 25)) (defScope (top 25)) [] [] f fd) (Γ : Gam P w K mg base G n) : FnG P w K mg base (L2.CX P w) (3 * (n + 1) + 2) f fd ["kinds", "value"] (spF G (runs ds (n + 1)) 23 2) :=
  fn_step F sc23 rfl (by decide) fun cdv A outer s H H0 m0 E hr =>
    have SC := sc23
    have tk : Takes _ _ := L2.takes_of (X := cxOf (L2.CX P w) P w K mg base ["kinds", "value", "e"] "_law_told" (defScope (top 25)) f cdv A outer s H E) rfl rfl rfl rfl
    have own := L2.passes_of (X := cxOf (L2.CX P w) P w K mg base ["kinds", "value", "e"] "_law_told" (defScope (top 25)) f cdv A outer s H E) rfl
    (ss_one (ss_try_as (i := 2) rfl rfl SC.nd rfl rfl ⟨rfl, by decide, .inl Γ.k_InvalidStore.mg⟩ Γ.k_InvalidStore.one tk (fun W' pn xe tk => (ss_one (ss_ret (se_ife (st_cmp (om_eq (Rm.u64 hr)) (sr_of rfl (sh_call Γ.f_require_store hr rfl tk (fun _ _ _ _ _ _ us hl => match us, hl with | [_, _], _ => rfl) (sa_cons (sv 0) (sa_cons (sv 1) sa_nil)) rfl rfl)) (sv' 1)) (se_lst sa_nil rfl rfl) (se_lst (sa_cons (se_str rfl) sa_nil) rfl rfl))))) (fun a oe cls d pn hz hf => by exact su_told (X := cxOf (L2.CX P w) P w K mg base ["kinds", "value", "e"] "_law_told" (defScope (top 25)) f cdv A outer s H E) (y := "ValueError") (n := "e") Γ.k_InvalidStore.fld Γ.x_InvalidStore Γ.t_InvalidStore_ValueError rfl Γ.b_isinstance rfl Γ.b_ValueError (by decide +kernel) rfl hz hf (.inl rfl) _)))
theorem sc24 : FnScope ["kinds", "value", "kept"] ["kinds", "value"] (defScope (top 26)) := ⟨rfl, rfl, rfl, by decide +kernel, rfl, by decide +kernel, by decide +kernel⟩
theorem ok24 {n : Nat} {f : Addr} {fd : FuncData} (F : FunD K "_law_right" "_law_right" (defArgs (top 26)) (defBody (top 26)) (defScope (top 26)) [] [] f fd) (Γ : Gam P w K mg base G n) : FnG P w K mg base (L2.CX P w) (3 * (n + 1) + 2) f fd ["kinds", "value"] (spF G (runs ds (n + 1)) 24 2) :=
  fn_step F sc24 rfl (by decide) fun cdv A outer s H H0 m0 E hr =>
    have SC := sc24
    have tk : Takes _ _ := L2.takes_of (X := cxOf (L2.CX P w) P w K mg base ["kinds", "value", "kept"] "_law_right" (defScope (top 26)) f cdv A outer s H E) rfl rfl rfl rfl
    have own := L2.passes_of (X := cxOf (L2.CX P w) P w K mg base ["kinds", "value", "kept"] "_law_right" (defScope (top 26)) f cdv A outer s H E) rfl
    (ss_cons (ss_setf (i := 2) SC.nd rfl (by first | exact Or.inl rfl | exact Or.inr rfl) (se_b1 (id := "repr") (ca_repr hr.2 (Rm.u100 hr)) rfl Γ.b_repr bt_repr (sv' 1))) (ss_one (ss_ret (se_and (se_cmp (om_eq (Rm.u64 hr)) (sr_of rfl (se_b1 (id := "repr") (ca_repr hr.2 (Rm.u100 hr)) rfl Γ.b_repr bt_repr (sr_of rfl (sh_call Γ.f__law_told hr rfl tk (fun _ _ _ _ _ _ us hl => match us, hl with | [_, _], _ => rfl) (sa_cons (sv 0) (sa_cons (sv 1) sa_nil)) rfl rfl)))) (sr_of rfl (se_b1 (id := "repr") (ca_repr hr.2 (Rm.u100 hr)) rfl Γ.b_repr bt_repr (sr_of rfl (sh_call Γ.f__law_due hr rfl tk (fun _ _ _ _ _ _ us hl => match us, hl with | [_, _], _ => rfl) (sa_cons (sv 0) (sa_cons (sv 1) sa_nil)) rfl rfl))))) (se_one (se_cmp (om_eq (Rm.u64 hr)) (sr_of rfl (se_b1 (id := "repr") (ca_repr hr.2 (Rm.u100 hr)) rfl Γ.b_repr bt_repr (sv' 1))) (sv' 2)))))))
theorem sc25 : FnScope ["kinds", "some", "kind", "one", "other"] [] (defScope (top 27)) := ⟨rfl, rfl, rfl, by decide +kernel, rfl, by decide +kernel, by decide +kernel⟩
theorem ok25 {n : Nat} {f : Addr} {fd : FuncData} (F : FunD K "_law_great_right" "_law_great_right" (defArgs (top 27)) (defBody (top 27)) (defScope (top 27)) [] [] f fd) (Γ : Gam P w K mg base G n) : FnG P w K mg base (L2.CX P w) (3 * (n + 1) + 2) f fd [] (spF G (runs ds (n + 1)) 25 0) :=
  fn_step F sc25 rfl (by decide) fun cdv A outer s H H0 m0 E hr =>
    have SC := sc25
    have tk : Takes _ _ := L2.takes_of (X := cxOf (L2.CX P w) P w K mg base ["kinds", "some", "kind", "one", "other"] "_law_great_right" (defScope (top 27)) f cdv A outer s H E) rfl rfl rfl rfl
    have own := L2.passes_of (X := cxOf (L2.CX P w) P w K mg base ["kinds", "some", "kind", "one", "other"] "_law_great_right" (defScope (top 27)) f cdv A outer s H E) rfl
    (ss_cons (ss_par (i := 0) (j := 1) rfl SC.nd rfl rfl (by decide) rfl rfl (se_tup (sa_cons se_int (sa_cons se_int (sa_cons se_int (sa_cons se_int sa_nil)))) rfl rfl) (se_lst sa_nil rfl rfl) rfl) (ss_cons (ss_for own rfl (sw_rng1 rfl Γ.b_range se_int) (sg_name (i := 2) clo_SF SC.nd rfl (by first | exact Or.inl rfl | exact Or.inr rfl)) (ss_one (ss_for own rfl (sw_rng1 rfl Γ.b_range se_int) (sg_name (i := 3) clo_SF SC.nd rfl (by first | exact Or.inl rfl | exact Or.inr rfl)) (ss_one (ss_ext (i := 1) rfl (by first | exact Or.inl rfl | exact Or.inr (Or.inl rfl)) (sr_of rfl (se_comp (own := [("other", 4)]) rfl SC.nd (sr_walk rfl (sw_rng1 rfl Γ.b_range se_int)) (blkOk_by (by rfl)) rfl (fun _ _ _ _ _ _ _ => (sg_name (i := 4) clo_PC SC.nd rfl (by first | exact Or.inl rfl | exact Or.inr rfl))) (fun _ _ _ _ _ => sc_nil) (fun _ _ _ _ _ => (se_tup (sa_cons (sv 2) (sa_cons (se_tup (sa_cons (sv 3) (sa_cons (sv 4) sa_nil)) rfl rfl) sa_nil)) rfl rfl))))))))) (ss_cons (ss_if (PW.pt (sw_or (st_nt (st_val (sh_call Γ.f__law_right hr rfl tk (fun _ _ _ _ _ _ us hl => match us, hl with | [_, _], _ => rfl) (sa_cons (sv 0) (sa_cons (se_b1T ca_tuple rfl Γ.b_tuple bt_tuple (sw 1)) sa_nil)) rfl rfl))) (sw_or1 (st_nt (st_val (sh_call Γ.f__law_right hr rfl tk (fun _ _ _ _ _ _ us hl => match us, hl with | [_, _], _ => rfl) (sa_cons (sv 0) (sa_cons (se_bin om_add (sr_of rfl (se_b1T ca_tuple rfl Γ.b_tuple bt_tuple (sw 1))) (sr_of rfl (se_tup (sa_cons (se_tup (sa_cons se_int (sa_cons (se_tup (sa_cons se_int (sa_cons se_int sa_nil)) rfl rfl) sa_nil)) rfl rfl) sa_nil) rfl rfl))) sa_nil)) rfl rfl)))))) (ss_one (ss_ret se_bl)) ss_nil) (ss_one (ss_ret (se_and (sh_call Γ.f_is_fact hr rfl tk (fun _ _ _ _ _ _ us hl => match us, hl with | [_, _], _ => rfl) (sa_cons (sv 0) (sa_cons (se_tup (sa_cons se_int (sa_cons (se_tup (sa_cons se_int (sa_cons se_int sa_nil)) rfl rfl) sa_nil)) rfl rfl) sa_nil)) rfl rfl) (se_and (se_nt (sh_call Γ.f_is_fact hr rfl tk (fun _ _ _ _ _ _ us hl => match us, hl with | [_, _], _ => rfl) (sa_cons (sv 0) (sa_cons (se_tup (sa_cons se_int (sa_cons (se_tup (sa_cons se_int (sa_cons se_int sa_nil)) rfl rfl) sa_nil)) rfl rfl) sa_nil)) rfl rfl)) (se_one (se_nt (sh_call Γ.f_is_fact hr rfl tk (fun _ _ _ _ _ _ us hl => match us, hl with | [_, _], _ => rfl) (sa_cons (sv 0) (sa_cons (se_tup (sa_cons se_int (sa_cons (se_tup (sa_cons se_int (sa_cons se_int sa_nil)) rfl rfl) sa_nil)) rfl rfl) sa_nil)) rfl rfl))))))))))
theorem sc26 : FnScope ["script", "pen", "lap", "kinds", "store", "other", "some", "turn", "value", "fact", "both", "one", "two", "due", "one_fact"] ["script"] (defScope (top 28)) := ⟨rfl, rfl, rfl, by decide +kernel, rfl, by decide +kernel, by decide +kernel⟩
theorem bd26 {n : Nat} {f : Addr} (Γ : Gam P w K mg base G n) (cdv : Value) (A : Around) (outer : List Env) (s : Shared) (H H0 : Hp) (m0 : List Addr) (E : XK) (hr : Rm (3 * n + 2) (A.deeper (PyProof.Rows.envOfC "law" (defScope (top 28)) s.heap.objs.size f cdv))) : PSs (cxOf (L2.CX P w) P w K mg base ["script", "pen", "lap", "kinds", "store", "other", "some", "turn", "value", "fact", "both", "one", "two", "due", "one_fact"] "law" (defScope (top 28)) f cdv A outer s H E) (defBody (top 28)) (ts G (runs ds n) [] (fun c d _ H => E c d H) m0 H0 d26.body) :=
    have SC := sc26
    have tk : Takes _ _ := L2.takes_of (X := cxOf (L2.CX P w) P w K mg base ["script", "pen", "lap", "kinds", "store", "other", "some", "turn", "value", "fact", "both", "one", "two", "due", "one_fact"] "law" (defScope (top 28)) f cdv A outer s H E) rfl rfl rfl rfl
    have own := L2.passes_of (X := cxOf (L2.CX P w) P w K mg base ["script", "pen", "lap", "kinds", "store", "other", "some", "turn", "value", "fact", "both", "one", "two", "due", "one_fact"] "law" (defScope (top 28)) f cdv A outer s H E) rfl
    (ss_cons (ss_setf (i := 1) SC.nd rfl (by first | exact Or.inl rfl | exact Or.inr rfl) (sh_call Γ.f__law_pen hr rfl tk (fun _ _ _ _ _ _ us hl => match us, hl with | [_], _ => rfl) (sa_cons (sv 0) sa_nil) rfl rfl)) (ss_cons (ss_for own rfl (sw_rng1 rfl Γ.b_range se_int) (sg_name (i := 2) clo_SF SC.nd rfl (by first | exact Or.inl rfl | exact Or.inr rfl)) (ss_cons (ss_setf (i := 3) SC.nd rfl (by first | exact Or.inl rfl | exact Or.inr rfl) (sh_call Γ.f__law_drawn_kinds hr rfl tk (fun _ _ _ _ _ _ us hl => match us, hl with | [_], _ => rfl) (sa_cons (sv 1) sa_nil) rfl rfl)) (ss_cons (ss_par (i := 4) (j := 5) rfl SC.nd rfl rfl (by decide) rfl rfl (sh_call Γ.f__law_drawn_store hr rfl tk (fun _ _ _ _ _ _ us hl => match us, hl with | [_, _, _], _ => rfl) (sa_cons (sv 1) (sa_cons (sv 3) (sa_cons se_int sa_nil))) rfl rfl) (sh_call Γ.f__law_drawn_store hr rfl tk (fun _ _ _ _ _ _ us hl => match us, hl with | [_, _, _], _ => rfl) (sa_cons (sv 1) (sa_cons (sv 3) (sa_cons se_int sa_nil))) rfl rfl) rfl) (ss_cons (ss_set (i := 6) SC.nd rfl (by first | exact Or.inl rfl | exact Or.inr rfl) (se_lst (sa_cons (sv 4) (sa_cons (se_rev (sv' 4)) (sa_cons (se_b1T ca_list rfl Γ.b_list bt_list (sv' 4)) (sa_cons (se_bin om_add (sv' 4) (sr_of rfl (se_slc (sv' 4) so_none (so_some se_int)))) (sa_cons (se_bin om_add (sv' 4) (sr_of rfl (se_slc (sv' 4) (so_some (se_neg se_int)) so_none))) (sa_cons (sh_call Γ.f__law_odd hr rfl tk (fun _ _ _ _ _ _ us hl => match us, hl with | [_], _ => rfl) (sa_cons (sv 1) sa_nil) rfl rfl) (sa_cons (se_slc (sv' 4) (so_some se_int) so_none) sa_nil))))))) rfl rfl)) (ss_cons (ss_for own rfl (sw_rng1 rfl Γ.b_range se_int) (sg_name (i := 7) clo_SF SC.nd rfl (by first | exact Or.inl rfl | exact Or.inr rfl)) (ss_one (ss_app (i := 6) rfl (by first | exact Or.inl rfl | exact Or.inr (Or.inl rfl)) (sh_call Γ.f__law_bent hr rfl tk (fun _ _ _ _ _ _ us hl => match us, hl with | [_, _, _], _ => rfl) (sa_cons (sv 1) (sa_cons (sh_call Γ.f__law_one_of hr rfl tk (fun _ _ _ _ _ _ us hl => match us, hl with | [_, _], _ => rfl) (sa_cons (sv 1) (sa_cons (se_slc (sw 6) so_none (so_some se_int)) sa_nil)) rfl rfl) (sa_cons (se_bin om_add (sr_of rfl se_int) (sr_of rfl (sh_call Γ.f__law_draw hr rfl tk (fun _ _ _ _ _ _ us hl => match us, hl with | [_, _], _ => rfl) (sa_cons (sv 1) (sa_cons se_int sa_nil)) rfl rfl))) sa_nil))) rfl rfl)))) (ss_cons (ss_if (st_cmp (om_ne (Rm.u64 hr)) (sr_of rfl (se_comp (own := [("value", 8)]) rfl SC.nd (sr_own (i := 6) rfl (by first | exact Or.inl rfl | exact Or.inr (Or.inl rfl) | exact Or.inr (Or.inr rfl))) (blkOk_by (by rfl)) rfl (fun _ _ _ _ _ _ _ => (sg_name (i := 8) clo_PC SC.nd rfl (by first | exact Or.inl rfl | exact Or.inr rfl))) (fun _ _ _ _ _ => (sc_one (st_nt (st_val (sh_call Γ.f__law_right hr rfl takes0 (fun _ _ _ _ _ _ us hl => match us, hl with | [_, _], _ => rfl) (sa_cons (sv 3) (sa_cons (sv 8) sa_nil)) rfl rfl))))) (fun _ _ _ _ _ => se_int))) (sr_of rfl (se_lst sa_nil rfl rfl))) (ss_one (ss_ret se_bl)) ss_nil) (ss_cons (ss_setf (i := 9) SC.nd rfl (by first | exact Or.inl rfl | exact Or.inr rfl) (sh_call Γ.f__law_drawn_fact hr rfl tk (fun _ _ _ _ _ _ us hl => match us, hl with | [_, _], _ => rfl) (sa_cons (sv 1) (sa_cons (sv 3) sa_nil)) rfl rfl)) (ss_cons (ss_for own rfl (sw_data (se_tup (sa_cons (sv 9) (sa_cons (se_b1T ca_list rfl Γ.b_list bt_list (sv' 9)) (sa_cons (sh_call Γ.f__law_bent hr rfl tk (fun _ _ _ _ _ _ us hl => match us, hl with | [_, _, _], _ => rfl) (sa_cons (sv 1) (sa_cons (sv 9) (sa_cons se_int sa_nil))) rfl rfl) (sa_cons (sh_call Γ.f__law_odd hr rfl tk (fun _ _ _ _ _ _ us hl => match us, hl with | [_], _ => rfl) (sa_cons (sv 1) sa_nil) rfl rfl) (sa_cons (se_tup (sa_cons (se_idx (Rm.u1 hr) (sv' 9) se_int) (sa_cons (se_b1T ca_list rfl Γ.b_list bt_list (sr_of rfl (se_idx (Rm.u1 hr) (sv' 9) se_int))) sa_nil)) rfl rfl) (sa_cons (se_bin om_add (sv' 9) (sv' 9)) sa_nil)))))) rfl rfl)) (sg_name (i := 8) clo_SF SC.nd rfl (by first | exact Or.inl rfl | exact Or.inr rfl)) (ss_one (ss_if (st_cmp (om_ne (Rm.u64 hr)) (sr_of rfl (se_b1 (id := "repr") (ca_repr hr.2 (Rm.u100 hr)) rfl Γ.b_repr bt_repr (sr_of rfl (sh_call Γ.f_is_fact hr rfl tk (fun _ _ _ _ _ _ us hl => match us, hl with | [_, _], _ => rfl) (sa_cons (sv 3) (sa_cons (sv 8) sa_nil)) rfl rfl)))) (sr_of rfl (se_b1 (id := "repr") (ca_repr hr.2 (Rm.u100 hr)) rfl Γ.b_repr bt_repr (sr_of rfl (sh_call Γ.f__law_is_fact hr rfl tk (fun _ _ _ _ _ _ us hl => match us, hl with | [_, _], _ => rfl) (sa_cons (sv 3) (sa_cons (sv 8) sa_nil)) rfl rfl))))) (ss_one (ss_ret se_bl)) ss_nil))) (ss_cons (ss_setf (i := 10) SC.nd rfl (by first | exact Or.inl rfl | exact Or.inr rfl) (se_b1T ca_tuple rfl Γ.b_tuple bt_tuple (sr_of rfl (se_sset rfl (Rm.u100 hr) rfl Γ.b_sorted rfl Γ.b_set (sr_of rfl (se_bin om_add (sv' 4) (sv' 5))))))) (ss_one (ss_for own rfl (sw_data (se_tup (sa_cons (se_tup (sa_cons (sv 4) (sa_cons (sv 5) sa_nil)) rfl rfl) (sa_cons (se_tup (sa_cons (sv 5) (sa_cons (sv 10) sa_nil)) rfl rfl) (sa_cons (se_tup (sa_cons (sv 10) (sa_cons (sv 4) sa_nil)) rfl rfl) (sa_cons (se_tup (sa_cons (se_tup sa_nil rfl rfl) (sa_cons (sv 4) sa_nil)) rfl rfl) (sa_cons (se_tup (sa_cons (sv 4) (sa_cons (se_tup sa_nil rfl rfl) sa_nil)) rfl rfl) sa_nil))))) rfl rfl)) (sg_tup rfl (sg_cons (sg_name (i := 11) clo_SF SC.nd rfl (by first | exact Or.inl rfl | exact Or.inr rfl)) (sg_cons (sg_name (i := 12) clo_SF SC.nd rfl (by first | exact Or.inl rfl | exact Or.inr rfl)) sg_nil))) (ss_cons (ss_setf (i := 13) SC.nd rfl (by first | exact Or.inl rfl | exact Or.inr rfl) (se_cmp (om_eq (Rm.u64 hr)) (sr_of rfl (se_comp (own := [("one_fact", 14)]) rfl SC.nd (sr_data rfl (sv 11)) (blkOk_by (by rfl)) rfl (fun _ _ _ _ _ _ _ => (sg_name (i := 14) clo_PC SC.nd rfl (by first | exact Or.inl rfl | exact Or.inr rfl))) (fun _ _ _ _ _ => (sc_one (st_cmp (om_nin (Rm.u65 hr)) (sv' 14) (sv' 12)))) (fun _ _ _ _ _ => se_int))) (sr_of rfl (se_lst sa_nil rfl rfl)))) (ss_one (ss_if (st_cmp (om_ne (Rm.u64 hr)) (sr_of rfl (se_b1 (id := "repr") (ca_repr hr.2 (Rm.u100 hr)) rfl Γ.b_repr bt_repr (sr_of rfl (sh_call Γ.f_are_among hr rfl tk (fun _ _ _ _ _ _ us hl => match us, hl with | [_, _], _ => rfl) (sa_cons (sv 11) (sa_cons (sv 12) sa_nil)) rfl rfl)))) (sr_of rfl (se_b1 (id := "repr") (ca_repr hr.2 (Rm.u100 hr)) rfl Γ.b_repr bt_repr (sv' 13)))) (ss_one (ss_ret se_bl)) ss_nil)))))))))))))) (ss_one (ss_ret (se_or (se_cmp (om_lt (Rm.u64 hr)) (sr_of rfl (sh_call Γ.f__law_draw hr rfl tk (fun _ _ _ _ _ _ us hl => match us, hl with | [_, _], _ => rfl) (sa_cons (sv 1) (sa_cons se_int sa_nil)) rfl rfl)) (sr_of rfl se_int)) (se_one (sh_call0 Γ.f__law_great_right hr rfl tk (fun _ _ _ _ _ _ => rfl))))))))
end
/-- what the written part says -/
structure Hd (P : Program) (w : World) (K : PySem.W.Frag) (mg : Str → Option Value) (base : Heap) (G : GC) : Prop where
  d_is_whole : ∃ f fd, FunD K "is_whole" "is_whole" (defArgs (top 5)) (defBody (top 5)) (defScope (top 5)) [] [] f fd ∧ mg "is_whole" = some (.ref f)
  d_is_parts : ∃ f fd, FunD K "is_parts" "is_parts" (defArgs (top 6)) (defBody (top 6)) (defScope (top 6)) [] [] f fd ∧ mg "is_parts" = some (.ref f)
  d_are_things : ∃ f fd, FunD K "are_things" "are_things" (defArgs (top 7)) (defBody (top 7)) (defScope (top 7)) [] [] f fd ∧ mg "are_things" = some (.ref f)
  d_is_fact : ∃ f fd, FunD K "is_fact" "is_fact" (defArgs (top 8)) (defBody (top 8)) (defScope (top 8)) [] [] f fd ∧ mg "is_fact" = some (.ref f)
  d_store_fault : ∃ f fd, FunD K "store_fault" "store_fault" (defArgs (top 9)) (defBody (top 9)) (defScope (top 9)) [] [] f fd ∧ mg "store_fault" = some (.ref f)
  d_require_store : ∃ f fd, FunD K "require_store" "require_store" (defArgs (top 10)) (defBody (top 10)) (defScope (top 10)) [] [] f fd ∧ mg "require_store" = some (.ref f)
  d_are_among : ∃ f fd, FunD K "are_among" "are_among" (defArgs (top 11)) (defBody (top 11)) (defScope (top 11)) [] [] f fd ∧ mg "are_among" = some (.ref f)
  d__law_pen : ∃ f fd, FunD K "_law_pen" "_law_pen" (defArgs (top 13)) (defBody (top 13)) (defScope (top 13)) [] [] f fd ∧ mg "_law_pen" = some (.ref f)
  d__law_fresh : ∃ f fd, FunD K "_law_fresh" "_law_fresh" (defArgs (top 14)) (defBody (top 14)) (defScope (top 14)) [] [] f fd ∧ mg "_law_fresh" = some (.ref f)
  d__law_draw : ∃ f fd, FunD K "_law_draw" "_law_draw" (defArgs (top 15)) (defBody (top 15)) (defScope (top 15)) [] [] f fd ∧ mg "_law_draw" = some (.ref f)
  d__law_one_of : ∃ f fd, FunD K "_law_one_of" "_law_one_of" (defArgs (top 16)) (defBody (top 16)) (defScope (top 16)) [] [] f fd ∧ mg "_law_one_of" = some (.ref f)
  d__law_whole : ∃ f fd, FunD K "_law_whole" "_law_whole" (defArgs (top 17)) (defBody (top 17)) (defScope (top 17)) [] [] f fd ∧ mg "_law_whole" = some (.ref f)
  d__law_odd : ∃ f fd, FunD K "_law_odd" "_law_odd" (defArgs (top 18)) (defBody (top 18)) (defScope (top 18)) [] [] f fd ∧ mg "_law_odd" = some (.ref f)
  d__law_bent : ∃ f fd, FunD K "_law_bent" "_law_bent" (defArgs (top 19)) (defBody (top 19)) (defScope (top 19)) [] [] f fd ∧ mg "_law_bent" = some (.ref f)
  d__law_drawn_kinds : ∃ f fd, FunD K "_law_drawn_kinds" "_law_drawn_kinds" (defArgs (top 20)) (defBody (top 20)) (defScope (top 20)) [] [] f fd ∧ mg "_law_drawn_kinds" = some (.ref f)
  d__law_drawn_fact : ∃ f fd, FunD K "_law_drawn_fact" "_law_drawn_fact" (defArgs (top 21)) (defBody (top 21)) (defScope (top 21)) [] [] f fd ∧ mg "_law_drawn_fact" = some (.ref f)
  d__law_drawn_store : ∃ f fd, FunD K "_law_drawn_store" "_law_drawn_store" (defArgs (top 22)) (defBody (top 22)) (defScope (top 22)) [] [] f fd ∧ mg "_law_drawn_store" = some (.ref f)
  d__law_is_fact : ∃ f fd, FunD K "_law_is_fact" "_law_is_fact" (defArgs (top 23)) (defBody (top 23)) (defScope (top 23)) [] [] f fd ∧ mg "_law_is_fact" = some (.ref f)
  d__law_due : ∃ f fd, FunD K "_law_due" "_law_due" (defArgs (top 24)) (defBody (top 24)) (defScope (top 24)) [] [] f fd ∧ mg "_law_due" = some (.ref f)
  d__law_told : ∃ f fd, FunD K "_law_told" "_law_told" (defArgs (top 25)) (defBody (top 25)) (defScope (top 25)) [] [] f fd ∧ mg "_law_told" = some (.ref f)
  d__law_right : ∃ f fd, FunD K "_law_right" "_law_right" (defArgs (top 26)) (defBody (top 26)) (defScope (top 26)) [] [] f fd ∧ mg "_law_right" = some (.ref f)
  d__law_great_right : ∃ f fd, FunD K "_law_great_right" "_law_great_right" (defArgs (top 27)) (defBody (top 27)) (defScope (top 27)) [] [] f fd ∧ mg "_law_great_right" = some (.ref f)
  hs : TB.hsh = fun k => k.hash w
  x_InvalidStore : XcC K (G.cl 0)
  b_ValueError : mg "ValueError" = none
  t_InvalidStore_ValueError : PySem.W.kitOne K (.ref (G.cl 0)) (.type "ValueError") = some true
  k_InvalidStore : Kls P w K mg base G "InvalidStore" 0 "index"
  b_len : mg "len" = none
  b_sum : mg "sum" = none
  b_any : mg "any" = none
  b_all : mg "all" = none
  b_min : mg "min" = none
  b_max : mg "max" = none
  b_sorted : mg "sorted" = none
  b_isinstance : mg "isinstance" = none
  b_int : mg "int" = none
  b_bool : mg "bool" = none
  b_str : mg "str" = none
  b_tuple : mg "tuple" = none
  b_list : mg "list" = none
  b_set : mg "set" = none
  b_dict : mg "dict" = none
  b_enumerate : mg "enumerate" = none
  b_zip : mg "zip" = none
  b_range : mg "range" = none
  b_repr : mg "repr" = none
  c_MOST_THING : ∃ u, mg "MOST_THING" = some u ∧ RelV (.int (29)) u
  c_MOST_FACTS : ∃ u, mg "MOST_FACTS" = some u ∧ RelV (.int (3600)) u
theorem gam {P : Program} {w : World} {K : PySem.W.Frag} {mg : Str → Option Value} {base : Heap} {G : GC} (h : Hd P w K mg base G) : ∀ n, Gam P w K mg base G n
  | 0 => {
    f_is_whole := (by obtain ⟨f, fd, F, m⟩ := h.d_is_whole; exact ⟨f, fd, F, m, fn_zero⟩)
    f_is_parts := (by obtain ⟨f, fd, F, m⟩ := h.d_is_parts; exact ⟨f, fd, F, m, fn_zero⟩)
    f_are_things := (by obtain ⟨f, fd, F, m⟩ := h.d_are_things; exact ⟨f, fd, F, m, fn_zero⟩)
    f_is_fact := (by obtain ⟨f, fd, F, m⟩ := h.d_is_fact; exact ⟨f, fd, F, m, fn_zero⟩)
    f_store_fault := (by obtain ⟨f, fd, F, m⟩ := h.d_store_fault; exact ⟨f, fd, F, m, fn_zero⟩)
    f_require_store := (by obtain ⟨f, fd, F, m⟩ := h.d_require_store; exact ⟨f, fd, F, m, fn_zero⟩)
    f_are_among := (by obtain ⟨f, fd, F, m⟩ := h.d_are_among; exact ⟨f, fd, F, m, fn_zero⟩)
    f__law_pen := (by obtain ⟨f, fd, F, m⟩ := h.d__law_pen; exact ⟨f, fd, F, m, fn_zero⟩)
    f__law_fresh := (by obtain ⟨f, fd, F, m⟩ := h.d__law_fresh; exact ⟨f, fd, F, m, fn_zero⟩)
    f__law_draw := (by obtain ⟨f, fd, F, m⟩ := h.d__law_draw; exact ⟨f, fd, F, m, fn_zero⟩)
    f__law_one_of := (by obtain ⟨f, fd, F, m⟩ := h.d__law_one_of; exact ⟨f, fd, F, m, fn_zero⟩)
    f__law_whole := (by obtain ⟨f, fd, F, m⟩ := h.d__law_whole; exact ⟨f, fd, F, m, fn_zero⟩)
    f__law_odd := (by obtain ⟨f, fd, F, m⟩ := h.d__law_odd; exact ⟨f, fd, F, m, fn_zero⟩)
    f__law_bent := (by obtain ⟨f, fd, F, m⟩ := h.d__law_bent; exact ⟨f, fd, F, m, fn_zero⟩)
    f__law_drawn_kinds := (by obtain ⟨f, fd, F, m⟩ := h.d__law_drawn_kinds; exact ⟨f, fd, F, m, fn_zero⟩)
    f__law_drawn_fact := (by obtain ⟨f, fd, F, m⟩ := h.d__law_drawn_fact; exact ⟨f, fd, F, m, fn_zero⟩)
    f__law_drawn_store := (by obtain ⟨f, fd, F, m⟩ := h.d__law_drawn_store; exact ⟨f, fd, F, m, fn_zero⟩)
    f__law_is_fact := (by obtain ⟨f, fd, F, m⟩ := h.d__law_is_fact; exact ⟨f, fd, F, m, fn_zero⟩)
    f__law_due := (by obtain ⟨f, fd, F, m⟩ := h.d__law_due; exact ⟨f, fd, F, m, fn_zero⟩)
    f__law_told := (by obtain ⟨f, fd, F, m⟩ := h.d__law_told; exact ⟨f, fd, F, m, fn_zero⟩)
    f__law_right := (by obtain ⟨f, fd, F, m⟩ := h.d__law_right; exact ⟨f, fd, F, m, fn_zero⟩)
    f__law_great_right := (by obtain ⟨f, fd, F, m⟩ := h.d__law_great_right; exact ⟨f, fd, F, m, fn_zero⟩)
    hs := h.hs
    x_InvalidStore := h.x_InvalidStore
    b_ValueError := h.b_ValueError
    t_InvalidStore_ValueError := h.t_InvalidStore_ValueError
    k_InvalidStore := h.k_InvalidStore
    b_len := h.b_len
    b_sum := h.b_sum
    b_any := h.b_any
    b_all := h.b_all
    b_min := h.b_min
    b_max := h.b_max
    b_sorted := h.b_sorted
    b_isinstance := h.b_isinstance
    b_int := h.b_int
    b_bool := h.b_bool
    b_str := h.b_str
    b_tuple := h.b_tuple
    b_list := h.b_list
    b_set := h.b_set
    b_dict := h.b_dict
    b_enumerate := h.b_enumerate
    b_zip := h.b_zip
    b_range := h.b_range
    b_repr := h.b_repr
    c_MOST_THING := h.c_MOST_THING
    c_MOST_FACTS := h.c_MOST_FACTS }
  | n + 1 =>
    have Γ := gam h n
    {
    f_is_whole := (by obtain ⟨f, fd, F, m⟩ := h.d_is_whole; exact ⟨f, fd, F, m, ok4 F Γ⟩)
    f_is_parts := (by obtain ⟨f, fd, F, m⟩ := h.d_is_parts; exact ⟨f, fd, F, m, ok5 F Γ⟩)
    f_are_things := (by obtain ⟨f, fd, F, m⟩ := h.d_are_things; exact ⟨f, fd, F, m, ok6 F Γ⟩)
    f_is_fact := (by obtain ⟨f, fd, F, m⟩ := h.d_is_fact; exact ⟨f, fd, F, m, ok7 F Γ⟩)
    f_store_fault := (by obtain ⟨f, fd, F, m⟩ := h.d_store_fault; exact ⟨f, fd, F, m, ok8 F Γ⟩)
    f_require_store := (by obtain ⟨f, fd, F, m⟩ := h.d_require_store; exact ⟨f, fd, F, m, ok9 F Γ⟩)
    f_are_among := (by obtain ⟨f, fd, F, m⟩ := h.d_are_among; exact ⟨f, fd, F, m, ok10 F Γ⟩)
    f__law_pen := (by obtain ⟨f, fd, F, m⟩ := h.d__law_pen; exact ⟨f, fd, F, m, ok11 F Γ⟩)
    f__law_fresh := (by obtain ⟨f, fd, F, m⟩ := h.d__law_fresh; exact ⟨f, fd, F, m, ok12 F Γ⟩)
    f__law_draw := (by obtain ⟨f, fd, F, m⟩ := h.d__law_draw; exact ⟨f, fd, F, m, ok13 F Γ⟩)
    f__law_one_of := (by obtain ⟨f, fd, F, m⟩ := h.d__law_one_of; exact ⟨f, fd, F, m, ok14 F Γ⟩)
    f__law_whole := (by obtain ⟨f, fd, F, m⟩ := h.d__law_whole; exact ⟨f, fd, F, m, ok15 F Γ⟩)
    f__law_odd := (by obtain ⟨f, fd, F, m⟩ := h.d__law_odd; exact ⟨f, fd, F, m, ok16 F Γ⟩)
    f__law_bent := (by obtain ⟨f, fd, F, m⟩ := h.d__law_bent; exact ⟨f, fd, F, m, ok17 F Γ⟩)
    f__law_drawn_kinds := (by obtain ⟨f, fd, F, m⟩ := h.d__law_drawn_kinds; exact ⟨f, fd, F, m, ok18 F Γ⟩)
    f__law_drawn_fact := (by obtain ⟨f, fd, F, m⟩ := h.d__law_drawn_fact; exact ⟨f, fd, F, m, ok19 F Γ⟩)
    f__law_drawn_store := (by obtain ⟨f, fd, F, m⟩ := h.d__law_drawn_store; exact ⟨f, fd, F, m, ok20 F Γ⟩)
    f__law_is_fact := (by obtain ⟨f, fd, F, m⟩ := h.d__law_is_fact; exact ⟨f, fd, F, m, ok21 F Γ⟩)
    f__law_due := (by obtain ⟨f, fd, F, m⟩ := h.d__law_due; exact ⟨f, fd, F, m, ok22 F Γ⟩)
    f__law_told := (by obtain ⟨f, fd, F, m⟩ := h.d__law_told; exact ⟨f, fd, F, m, ok23 F Γ⟩)
    f__law_right := (by obtain ⟨f, fd, F, m⟩ := h.d__law_right; exact ⟨f, fd, F, m, ok24 F Γ⟩)
    f__law_great_right := (by obtain ⟨f, fd, F, m⟩ := h.d__law_great_right; exact ⟨f, fd, F, m, ok25 F Γ⟩)
    hs := h.hs
    x_InvalidStore := h.x_InvalidStore
    b_ValueError := h.b_ValueError
    t_InvalidStore_ValueError := h.t_InvalidStore_ValueError
    k_InvalidStore := h.k_InvalidStore
    b_len := h.b_len
    b_sum := h.b_sum
    b_any := h.b_any
    b_all := h.b_all
    b_min := h.b_min
    b_max := h.b_max
    b_sorted := h.b_sorted
    b_isinstance := h.b_isinstance
    b_int := h.b_int
    b_bool := h.b_bool
    b_str := h.b_str
    b_tuple := h.b_tuple
    b_list := h.b_list
    b_set := h.b_set
    b_dict := h.b_dict
    b_enumerate := h.b_enumerate
    b_zip := h.b_zip
    b_range := h.b_range
    b_repr := h.b_repr
    c_MOST_THING := h.c_MOST_THING
    c_MOST_FACTS := h.c_MOST_FACTS }
end Wk01
set_option maxHeartbeats 0
namespace Jk01
open PySem PySem.Spec PyProof.Rows L2 Ma Wk01
def D_is_whole : He.DefD := ⟨("is_whole", none), "is_whole", "is_whole", defArgs (top 5), defBody (top 5), defScope (top 5), [], []⟩
def D_is_parts : He.DefD := ⟨("is_parts", none), "is_parts", "is_parts", defArgs (top 6), defBody (top 6), defScope (top 6), [], []⟩
def D_are_things : He.DefD := ⟨("are_things", none), "are_things", "are_things", defArgs (top 7), defBody (top 7), defScope (top 7), [], []⟩
def D_is_fact : He.DefD := ⟨("is_fact", none), "is_fact", "is_fact", defArgs (top 8), defBody (top 8), defScope (top 8), [], []⟩
def D_store_fault : He.DefD := ⟨("store_fault", none), "store_fault", "store_fault", defArgs (top 9), defBody (top 9), defScope (top 9), [], []⟩
def D_require_store : He.DefD := ⟨("require_store", none), "require_store", "require_store", defArgs (top 10), defBody (top 10), defScope (top 10), [], []⟩
def D_are_among : He.DefD := ⟨("are_among", none), "are_among", "are_among", defArgs (top 11), defBody (top 11), defScope (top 11), [], []⟩
def D__law_pen : He.DefD := ⟨("_law_pen", none), "_law_pen", "_law_pen", defArgs (top 13), defBody (top 13), defScope (top 13), [], []⟩
def D__law_fresh : He.DefD := ⟨("_law_fresh", none), "_law_fresh", "_law_fresh", defArgs (top 14), defBody (top 14), defScope (top 14), [], []⟩
def D__law_draw : He.DefD := ⟨("_law_draw", none), "_law_draw", "_law_draw", defArgs (top 15), defBody (top 15), defScope (top 15), [], []⟩
def D__law_one_of : He.DefD := ⟨("_law_one_of", none), "_law_one_of", "_law_one_of", defArgs (top 16), defBody (top 16), defScope (top 16), [], []⟩
def D__law_whole : He.DefD := ⟨("_law_whole", none), "_law_whole", "_law_whole", defArgs (top 17), defBody (top 17), defScope (top 17), [], []⟩
def D__law_odd : He.DefD := ⟨("_law_odd", none), "_law_odd", "_law_odd", defArgs (top 18), defBody (top 18), defScope (top 18), [], []⟩
def D__law_bent : He.DefD := ⟨("_law_bent", none), "_law_bent", "_law_bent", defArgs (top 19), defBody (top 19), defScope (top 19), [], []⟩
def D__law_drawn_kinds : He.DefD := ⟨("_law_drawn_kinds", none), "_law_drawn_kinds", "_law_drawn_kinds", defArgs (top 20), defBody (top 20), defScope (top 20), [], []⟩
def D__law_drawn_fact : He.DefD := ⟨("_law_drawn_fact", none), "_law_drawn_fact", "_law_drawn_fact", defArgs (top 21), defBody (top 21), defScope (top 21), [], []⟩
def D__law_drawn_store : He.DefD := ⟨("_law_drawn_store", none), "_law_drawn_store", "_law_drawn_store", defArgs (top 22), defBody (top 22), defScope (top 22), [], []⟩
def D__law_is_fact : He.DefD := ⟨("_law_is_fact", none), "_law_is_fact", "_law_is_fact", defArgs (top 23), defBody (top 23), defScope (top 23), [], []⟩
def D__law_due : He.DefD := ⟨("_law_due", none), "_law_due", "_law_due", defArgs (top 24), defBody (top 24), defScope (top 24), [], []⟩
def D__law_told : He.DefD := ⟨("_law_told", none), "_law_told", "_law_told", defArgs (top 25), defBody (top 25), defScope (top 25), [], []⟩
def D__law_right : He.DefD := ⟨("_law_right", none), "_law_right", "_law_right", defArgs (top 26), defBody (top 26), defScope (top 26), [], []⟩
def D__law_great_right : He.DefD := ⟨("_law_great_right", none), "_law_great_right", "_law_great_right", defArgs (top 27), defBody (top 27), defScope (top 27), [], []⟩
def D_law : He.DefD := ⟨("law", none), "law", "law", defArgs (top 28), defBody (top 28), defScope (top 28), [], []⟩
abbrev I_InvalidStore : Stmt := member (top 1) 0
def D_InvalidStore : He.DefD := ⟨("InvalidStore", some "__init__"), "__init__", "InvalidStore.__init__", defArgs I_InvalidStore, defBody I_InvalidStore, defScope I_InvalidStore, [], []⟩
def fn : List He.DefD := [D_is_whole, D_is_parts, D_are_things, D_is_fact, D_store_fault, D_require_store,
  D_are_among, D__law_pen, D__law_fresh, D__law_draw, D__law_one_of, D__law_whole,
  D__law_odd, D__law_bent, D__law_drawn_kinds, D__law_drawn_fact, D__law_drawn_store, D__law_is_fact,
  D__law_due, D__law_told, D__law_right, D__law_great_right, D_law, D_InvalidStore]
def fa : List He.Fa := [.glo "is_whole", .glo "is_parts", .glo "are_things", .glo "is_fact", .glo "store_fault", .glo "require_store",
  .glo "are_among", .glo "_law_pen", .glo "_law_fresh", .glo "_law_draw", .glo "_law_one_of", .glo "_law_whole",
  .glo "_law_odd", .glo "_law_bent", .glo "_law_drawn_kinds", .glo "_law_drawn_fact", .glo "_law_drawn_store", .glo "_law_is_fact",
  .glo "_law_due", .glo "_law_told", .glo "_law_right", .glo "_law_great_right", .glo "law", .glo "InvalidStore",
  .exm "InvalidStore" "InvalidStore" true, .free "len", .free "sum", .free "any", .free "all", .free "min",
  .free "max", .free "sorted", .free "isinstance", .free "int", .free "bool", .free "str",
  .free "tuple", .free "list", .free "set", .free "dict", .free "enumerate", .free "zip",
  .free "range", .free "repr", .free "ValueError", .int "MOST_THING" (29), .int "MOST_FACTS" (3600)]
def tf : List He.Defn := []
def exB (K : PySem.W.Frag) : Bool := noLists K && (errB "ValueError.__new__" [.type "ValueError", .type "Exception", .type "BaseException", .type "object"] "InvalidStore" "index" K && (xcB K (He.ga K "InvalidStore") && (decide (PySem.W.kitOne K (.ref (He.ga K "InvalidStore")) (.type "ValueError") = some true))))
abbrev R : PySem.W.OpenRow := PySem.W.OpenLaw.row PySem.Challenge.rw_backasked_k01_stores_required
abbrev hk : PySem.W.Hook := He.hookX 6 fa fn [] tf exB
def ob (s : PySem.W.SharedT) : He.AlX := He.obsX 6 fa fn [] tf exB (HandSHeadRun.getT s)
theorem ob_eq (s : PySem.W.SharedT) : ob s = hk.obs s.abs := He.obsX_eq (HandSHeadRun.getT_eq s)
def loose0 : List PySem.Str := ["InvalidStore", "MOST_THING", "MOST_FACTS", "is_whole", "is_parts", "are_things", "is_fact", "store_fault",
  "require_store", "are_among", "_law_pen", "_law_fresh", "_law_draw", "_law_one_of", "_law_whole", "_law_odd",
  "_law_bent", "_law_drawn_kinds", "_law_drawn_fact", "_law_drawn_store"]
def loose1 : List PySem.Str := ["_law_is_fact", "_law_due", "_law_told", "_law_right", "_law_great_right"]
def loose : List PySem.Str := loose0 ++ loose1
theorem run (w : World) : HandSHeadRun.RunEq R (PySem.W.view R.prog [28]) hk ob 6000 loose w := by
  intro os
  kernel_rfl
section
variable {P : Program} {w : World} {K : PySem.W.Frag} {h base : Heap} {mg : Str → Option Value}
def gc (K : PySem.W.Frag) : GC := ⟨fun k => match k with
  | 0 => He.ga K "InvalidStore"
  | _ => 0, 1, fun k => match k with
  | 0 => ["index"]
  | _ => []⟩
theorem si_InvalidStore : FnScope ["self", "index"] ["self", "index"] (defScope I_InvalidStore) := ⟨rfl, rfl, rfl, by decide +kernel, rfl, by decide +kernel, by decide +kernel⟩
theorem er_InvalidStore (c : He.SaysX fa fn [] tf exB w h K) : errB "ValueError.__new__" [.type "ValueError", .type "Exception", .type "BaseException", .type "object"] "InvalidStore" "index" K = true := by
    have z := c.more
    simp only [exB, Bool.and_eq_true] at z
    exact z.2.1
theorem in_InvalidStore (X : K.In base) (Gn : base.Ns mainGlobals mg) (c : He.SaysX fa fn [] tf exB w h K) [TB] : Kls P w K mg base (gc K) "InvalidStore" 0 "index" := by
  obtain ⟨fd, F⟩ := c.t.d.def_ 23 (d := D_InvalidStore) rfl
  obtain ⟨T, _, _, free⟩ := errB_ok (er_InvalidStore c)
  exact kls_of bas_val (er_InvalidStore c) rfl (by show _ < 1; omega) rfl (He.glo_ok X Gn (c.t.d.fact 23 (f := .glo "InvalidStore") rfl)) ⟨by show _ < 1; omega, fun k hk => by
    have hk : k < 1 := hk
    match k, hk with
      | 0, _ => exact He.exm_ok (c.t.d.fact 24 rfl)⟩
    (ini_ok F si_InvalidStore fun cdv A outer s H E => ini_body bas_val T free rfl (He.free_ok X Gn (c.t.d.fact 44 (f := .free "ValueError") rfl)) (pv 0) (pv 1) (pv 0) (pv 1) _ (by decide) (by decide) rfl rfl rfl rfl rfl rfl)
    (FunD.bindsN F fun _ _ _ _ _ _ us hl => match us, hl with | [_, _], _ => rfl)
theorem hd (X : K.In base) (Gn : base.Ns mainGlobals mg) (c : He.SaysX fa fn [] tf exB w h K) [TB] (hT : TB.tabs = ([] : List (Addr × Str))) (hS : TB.hsh = fun k => NestedKey.hash w k) (tb : ∀ p ∈ tf.map (He.cT K), LamX.TabB base mg p.1 p.2) : Hd P w K mg base (gc K) where
  hs := hS
  d_is_whole := by obtain ⟨fd, F⟩ := c.t.d.def_ 0 (d := D_is_whole) rfl; exact ⟨_, fd, F, He.glo_ok X Gn (c.t.d.fact 0 (f := .glo "is_whole") rfl)⟩
  d_is_parts := by obtain ⟨fd, F⟩ := c.t.d.def_ 1 (d := D_is_parts) rfl; exact ⟨_, fd, F, He.glo_ok X Gn (c.t.d.fact 1 (f := .glo "is_parts") rfl)⟩
  d_are_things := by obtain ⟨fd, F⟩ := c.t.d.def_ 2 (d := D_are_things) rfl; exact ⟨_, fd, F, He.glo_ok X Gn (c.t.d.fact 2 (f := .glo "are_things") rfl)⟩
  d_is_fact := by obtain ⟨fd, F⟩ := c.t.d.def_ 3 (d := D_is_fact) rfl; exact ⟨_, fd, F, He.glo_ok X Gn (c.t.d.fact 3 (f := .glo "is_fact") rfl)⟩
  d_store_fault := by obtain ⟨fd, F⟩ := c.t.d.def_ 4 (d := D_store_fault) rfl; exact ⟨_, fd, F, He.glo_ok X Gn (c.t.d.fact 4 (f := .glo "store_fault") rfl)⟩
  d_require_store := by obtain ⟨fd, F⟩ := c.t.d.def_ 5 (d := D_require_store) rfl; exact ⟨_, fd, F, He.glo_ok X Gn (c.t.d.fact 5 (f := .glo "require_store") rfl)⟩
  d_are_among := by obtain ⟨fd, F⟩ := c.t.d.def_ 6 (d := D_are_among) rfl; exact ⟨_, fd, F, He.glo_ok X Gn (c.t.d.fact 6 (f := .glo "are_among") rfl)⟩
  d__law_pen := by obtain ⟨fd, F⟩ := c.t.d.def_ 7 (d := D__law_pen) rfl; exact ⟨_, fd, F, He.glo_ok X Gn (c.t.d.fact 7 (f := .glo "_law_pen") rfl)⟩
  d__law_fresh := by obtain ⟨fd, F⟩ := c.t.d.def_ 8 (d := D__law_fresh) rfl; exact ⟨_, fd, F, He.glo_ok X Gn (c.t.d.fact 8 (f := .glo "_law_fresh") rfl)⟩
  d__law_draw := by obtain ⟨fd, F⟩ := c.t.d.def_ 9 (d := D__law_draw) rfl; exact ⟨_, fd, F, He.glo_ok X Gn (c.t.d.fact 9 (f := .glo "_law_draw") rfl)⟩
  d__law_one_of := by obtain ⟨fd, F⟩ := c.t.d.def_ 10 (d := D__law_one_of) rfl; exact ⟨_, fd, F, He.glo_ok X Gn (c.t.d.fact 10 (f := .glo "_law_one_of") rfl)⟩
  d__law_whole := by obtain ⟨fd, F⟩ := c.t.d.def_ 11 (d := D__law_whole) rfl; exact ⟨_, fd, F, He.glo_ok X Gn (c.t.d.fact 11 (f := .glo "_law_whole") rfl)⟩
  d__law_odd := by obtain ⟨fd, F⟩ := c.t.d.def_ 12 (d := D__law_odd) rfl; exact ⟨_, fd, F, He.glo_ok X Gn (c.t.d.fact 12 (f := .glo "_law_odd") rfl)⟩
  d__law_bent := by obtain ⟨fd, F⟩ := c.t.d.def_ 13 (d := D__law_bent) rfl; exact ⟨_, fd, F, He.glo_ok X Gn (c.t.d.fact 13 (f := .glo "_law_bent") rfl)⟩
  d__law_drawn_kinds := by obtain ⟨fd, F⟩ := c.t.d.def_ 14 (d := D__law_drawn_kinds) rfl; exact ⟨_, fd, F, He.glo_ok X Gn (c.t.d.fact 14 (f := .glo "_law_drawn_kinds") rfl)⟩
  d__law_drawn_fact := by obtain ⟨fd, F⟩ := c.t.d.def_ 15 (d := D__law_drawn_fact) rfl; exact ⟨_, fd, F, He.glo_ok X Gn (c.t.d.fact 15 (f := .glo "_law_drawn_fact") rfl)⟩
  d__law_drawn_store := by obtain ⟨fd, F⟩ := c.t.d.def_ 16 (d := D__law_drawn_store) rfl; exact ⟨_, fd, F, He.glo_ok X Gn (c.t.d.fact 16 (f := .glo "_law_drawn_store") rfl)⟩
  d__law_is_fact := by obtain ⟨fd, F⟩ := c.t.d.def_ 17 (d := D__law_is_fact) rfl; exact ⟨_, fd, F, He.glo_ok X Gn (c.t.d.fact 17 (f := .glo "_law_is_fact") rfl)⟩
  d__law_due := by obtain ⟨fd, F⟩ := c.t.d.def_ 18 (d := D__law_due) rfl; exact ⟨_, fd, F, He.glo_ok X Gn (c.t.d.fact 18 (f := .glo "_law_due") rfl)⟩
  d__law_told := by obtain ⟨fd, F⟩ := c.t.d.def_ 19 (d := D__law_told) rfl; exact ⟨_, fd, F, He.glo_ok X Gn (c.t.d.fact 19 (f := .glo "_law_told") rfl)⟩
  d__law_right := by obtain ⟨fd, F⟩ := c.t.d.def_ 20 (d := D__law_right) rfl; exact ⟨_, fd, F, He.glo_ok X Gn (c.t.d.fact 20 (f := .glo "_law_right") rfl)⟩
  d__law_great_right := by obtain ⟨fd, F⟩ := c.t.d.def_ 21 (d := D__law_great_right) rfl; exact ⟨_, fd, F, He.glo_ok X Gn (c.t.d.fact 21 (f := .glo "_law_great_right") rfl)⟩
  k_InvalidStore := in_InvalidStore X Gn c
  x_InvalidStore := xcB_ok (by
      have z := c.more
      simp only [exB, Bool.and_eq_true] at z
      exact z.2.2.1)
  b_ValueError := He.free_ok X Gn (c.t.d.fact 44 (f := .free "ValueError") rfl)
  t_InvalidStore_ValueError := of_decide_eq_true (by
      have z := c.more
      simp only [exB, Bool.and_eq_true] at z
      exact z.2.2.2)
  b_len := He.free_ok X Gn (c.t.d.fact 25 (f := .free "len") rfl)
  b_sum := He.free_ok X Gn (c.t.d.fact 26 (f := .free "sum") rfl)
  b_any := He.free_ok X Gn (c.t.d.fact 27 (f := .free "any") rfl)
  b_all := He.free_ok X Gn (c.t.d.fact 28 (f := .free "all") rfl)
  b_min := He.free_ok X Gn (c.t.d.fact 29 (f := .free "min") rfl)
  b_max := He.free_ok X Gn (c.t.d.fact 30 (f := .free "max") rfl)
  b_sorted := He.free_ok X Gn (c.t.d.fact 31 (f := .free "sorted") rfl)
  b_isinstance := He.free_ok X Gn (c.t.d.fact 32 (f := .free "isinstance") rfl)
  b_int := He.free_ok X Gn (c.t.d.fact 33 (f := .free "int") rfl)
  b_bool := He.free_ok X Gn (c.t.d.fact 34 (f := .free "bool") rfl)
  b_str := He.free_ok X Gn (c.t.d.fact 35 (f := .free "str") rfl)
  b_tuple := He.free_ok X Gn (c.t.d.fact 36 (f := .free "tuple") rfl)
  b_list := He.free_ok X Gn (c.t.d.fact 37 (f := .free "list") rfl)
  b_set := He.free_ok X Gn (c.t.d.fact 38 (f := .free "set") rfl)
  b_dict := He.free_ok X Gn (c.t.d.fact 39 (f := .free "dict") rfl)
  b_enumerate := He.free_ok X Gn (c.t.d.fact 40 (f := .free "enumerate") rfl)
  b_zip := He.free_ok X Gn (c.t.d.fact 41 (f := .free "zip") rfl)
  b_range := He.free_ok X Gn (c.t.d.fact 42 (f := .free "range") rfl)
  b_repr := He.free_ok X Gn (c.t.d.fact 43 (f := .free "repr") rfl)
  c_MOST_THING := by obtain ⟨t, e⟩ := He.int_ok X Gn (c.t.d.fact 45 (f := .int "MOST_THING" (29)) rfl); exact ⟨_, e, t, rfl⟩
  c_MOST_FACTS := by obtain ⟨t, e⟩ := He.int_ok X Gn (c.t.d.fact 46 (f := .int "MOST_FACTS" (3600)) rfl); exact ⟨_, e, t, rfl⟩
end
abbrev tabsOf (K : PySem.W.Frag) : List (Addr × Str) := []
theorem apart {w : World} {K : PySem.W.Frag} {h : Heap} (c : He.SaysX fa fn [] tf exB w h K) : ((tabsOf K).map (·.1)).Nodup := by simp [tabsOf]
theorem lists {w : World} {K : PySem.W.Frag} {h : Heap} (c : He.SaysX fa fn [] tf exB w h K) : noLists K = true := by
  have z := c.more
  simp only [exB, Bool.and_eq_true] at z
  exact z.1
theorem ends (law : ∀ ns : List Int, ns.length ≤ 63 → ∃ h', ex (runs Xk01.ds 12) [] Xk01.d26.body (slots 15 [.lst (ns.map D.int)]) [] = .ret (.fz (.bl true)) h') : ∀ (w : World) (mg : Str → Option Value) (fa_ : Addr) (h : Heap), hk.says w h → h.Ns mainGlobals mg → mg ("law" : Str) = some (.ref fa_) → ∃ K : PySem.W.Frag, K.In h ∧ LawG PySem.Challenge.rw_backasked_k01_stores_required w K (3 * 12 + 2 + 1) 63 "script" mg fa_ h := by
  intro w mg fa_ h ⟨K, KX, c⟩ Gn hmg
  have e := hmg.symm.trans (He.glo_ok KX Gn (c.t.d.fact 22 (f := .glo "law") rfl))
  cases e
  obtain ⟨fd, F⟩ := c.t.d.def_ 22 (d := D_law) rfl
  letI : TB := { tabs := tabsOf K, hsh := fun k => k.hash w }
  have bi := FunD.bindsA (ps := ["script"]) F fun _ _ _ _ _ _ us hl => match us, hl with | [_], _ => rfl
  have onto : ∀ q ∈ tf.map (He.cT K), ∃ p ∈ tf, He.cT K p = q := fun q hq => List.mem_map.mp hq
  refine ⟨K, KX, fd, tf.map (He.cT K), spL (runs Xk01.ds 12) ((tabsOf K).map (·.1)) [] 15 Xk01.d26.body, fun q hq => ?_, fun q hq => ?_, fun q hq => ?_, fun s u => bi s [u] rfl, fun H a ns hl _ hH sq => ?_, fun base KB GB tb => ?_⟩
  · obtain ⟨p, hp, rfl⟩ := onto q hq; exact c.empty p hp
  · obtain ⟨p, hp, rfl⟩ := onto q hq; exact c.out p hp
  · obtain ⟨p, hp, rfl⟩ := onto q hq; exact PySem.W.codeHd_of_K KX (c.hd p hp)
  · have all : ∀ p ∈ tabsOf K, H p.1 = some (.tbl #[]) := fun p hp => by
      have z := hH
      simp only [tf, tabsOf, List.map_cons, List.map_nil, List.mem_cons, List.not_mem_nil, or_false, forall_eq_or_imp, forall_eq] at z hp
      all_goals skip
    exact law_says (lists c) sq (tabs_hp (L := tabsOf K) rfl (apart c) all) (fun b hb => by obtain ⟨p, hp, rfl⟩ := List.mem_map.mp hb; exact ⟨_, all p hp⟩) (law ns hl)
  · exact law_fn F sc26 (by decide) fun cdv A outer s H H0 m0 E hr => ⟨bd26 (gam (hd KB GB c rfl rfl tb) 12) cdv A outer s H H0 m0 E hr, ss_frz (bd26 (gam (hd KB GB c rfl rfl tb) 12) cdv A outer s H H0 m0 E hr)⟩
end Jk01
set_option maxHeartbeats 4000000
/-! The laws' own drawing: what comes of it, on the machine. -/
namespace Ma
/-- the bodies of pen, fresh, draw (f: where fresh stands) -/
def bPen : S := .ret (.rnew (.cons (.b1 .list (.slc (.var 0) (.lit .non) (.lit (.int (63))))) (.cons (.lit (.int (0))) (.cons (.lit (.int (0))) (.cons (.lst (.cons (.lit (.int (1))) (.cons (.lit (.int (5))) .nil))) .nil)))))
def bFre : S := .seq (.par [(1, false), (2, false)] [(.idx (.var 0) (.lit (.int (1)))), (.idx (.var 0) (.lit (.int (0))))]) (.seq (.rput (.var 0) (.lit (.int (1))) (.bin .add (.var 1) (.lit (.int (1))))) (.seq (.setf 3 (.ife (.cmp .ne (.var 2) (.lst .nil)) (.idx (.var 2) (.bin .mod (.b1 .int (.var 1)) (.b1 .len (.var 2)))) (.lit (.int (0))))) (.seq (.ifs (.and_ (.cmp .lt (.var 1) (.b1 .len (.var 2))) (.cmp .ge (.var 3) (.bin .pow (.lit (.int (10))) (.lit (.int (18)))))) (.ret (.bin .sub (.var 3) (.bin .pow (.lit (.int (10))) (.lit (.int (18)))))) .skip) (.seq (.setf 4 (.lit (.int (2305843009213693951)))) (.seq (.setf 5 (.bin .mod (.b1 .int (.bin .add (.bin .add (.bin .mul (.var 3) (.lit (.int (48271)))) (.bin .mul (.lit (.int (60013))) (.var 1))) (.lit (.int (31))))) (.var 4))) (.seq (.setf 6 (.var 5)) (.seq (.for_ (.nm 7) (.rng (.lit (.int 0)) (.lit (.int (6)))) (.seq (.setf 5 (.bin .mod (.b1 .int (.bin .add (.bin .add (.bin .mul (.var 5) (.var 5)) (.bin .mul (.bin .mul (.lit (.int (70139))) (.bin .add (.var 7) (.lit (.int (5))))) (.bin .add (.var 1) (.lit (.int (1)))))) (.var 3))) (.var 4))) (.setf 6 (.bin .add (.bin .mul (.var 6) (.var 4)) (.var 5))))) (.ret (.var 6)))))))))
def bDrw (f : Nat) : S := .seq (.ifs (.cmp .lt (.idx (.var 0) (.lit (.int (2)))) (.var 1)) (.rput (.var 0) (.lit (.int (2))) (.call f (.cons (.var 0) .nil))) .skip) (.seq (.setf 2 (.bin .mod (.b1 .int (.idx (.var 0) (.lit (.int (2))))) (.var 1))) (.seq (.rput (.var 0) (.lit (.int (2))) (.bin .fdiv (.b1 .int (.idx (.var 0) (.lit (.int (2))))) (.var 1))) (.ret (.var 2))))
/-- the pen: the script, the seat, what is left -/
abbrev penW (w : D) (xs : List Int) (s r : Int) : Ob := .lst [.lst (xs.map D.int), .int s, .int r, w]
abbrev penO (xs : List Int) (s r : Int) : Ob := penW (.lst [.int 1, .int 5]) xs s r
theorem flats_int (n : Nat) : ∀ xs : List Int, flatsN n (xs.map D.int) = true
  | [] => by cases n <;> rfl
  | x :: r => by cases n <;> simp [flatsN, flatN, flats_int _ r]
section
variable {Φ : Cal} {h : RH} {k : Nat} {xs : List Int} {s r : Int} {w : D}
theorem pen_is : ex Φ [] bPen [.fz (.lst (xs.map D.int))] h = .ret (.fz (.ref h.length)) (h ++ [penO (xs.take 63) 0 0]) := by
  have e : (min (min 63 xs.length) xs.length) = min 63 xs.length := by omega
  simp [bPen, ex, ev, rdv, RE.bind, RE.row, RE.go, RE.part, getT, optE, slcD, mkL, T.d, cut, sIx, b1, bLst, itL, items]
  split <;> omega
theorem atI_nat (ys : List D) {j : Nat} (lt : j < ys.length) : atI ys (j : Int) = ys[j]? := by
  show (ixN ys.length (.ofNat j)).bind _ = _
  rw [ixN, if_pos (by simpa [Nat.blt_eq] using lt)]
  rfl
theorem mod_at {n : Nat} (hs : 0 ≤ s) (hn : 0 < n) : ∃ j : Nat, s % (n : Int) = j ∧ j < n := by
  have h1 := Int.emod_nonneg s (show (n : Int) ≠ 0 by omega)
  have h2 := Int.emod_lt_of_pos s (show (0 : Int) < n by omega)
  exact ⟨(s % (n : Int)).toNat, by omega, by omega⟩
/-- a cell of the script -/
theorem cell_is (hs : 0 ≤ s) {h' : RH} {st : Sl} (e1 : getT st 1 = .fz (.int s)) (e2 : getT st 2 = .fz (.lst (xs.map D.int))) :
    ∃ c : Int, ev Φ [] (.ife (.cmp .ne (.var 2) (.lst .nil)) (.idx (.var 2) (.bin .mod (.b1 .int (.var 1)) (.b1 .len (.var 2)))) (.lit (.int (0)))) st h' = .ok (.fz (.int c)) h' := by
  have t : RE.test (ev Φ [] (.cmp .ne (.var 2) (.lst .nil)) st h') = fun f => f (!xs.isEmpty) h' := by
    funext f
    simp [ev, rdv, RE.bind, RE.row, RE.test, e2, mkL, T.d, cmpT, cmp, cEq, flat, flatN, flats_int, flatsN, optE]
    cases xs <;> simp [deq, deqs]
  rw [ev, t]
  cases xs with
  | nil => exact ⟨0, by simp [ev]⟩
  | cons x r =>
    obtain ⟨j, ej, lt⟩ := mod_at (n := (x :: r).length) hs (by simp)
    refine ⟨(x :: r)[j], ?_⟩
    simp only [List.length_cons] at ej lt
    have pos : (0 : Int) < ((r.length + 1 : Nat) : Int) := by omega
    simp [ev, rdv, RE.bind, RE.int, e1, e2, T.d, b1, bInt, bLen, optE, bin, bMod]
    have ej' : s % ((r.length : Int) + 1) = j := by rw [← ej]; simp
    rw [ej', idxD, atI_nat _ (by simpa using lt)]
    have g : (D.int x :: List.map D.int r)[j]? = some (D.int (x :: r)[j]) := by
      rw [show D.int x :: List.map D.int r = (x :: r).map D.int from rfl, List.getElem?_map, List.getElem?_eq_getElem (by simpa using lt)]
      rfl
    rw [g]
    rfl
theorem setOb_got : ∀ (h : RH) (k : Nat) (o : Ob) {o' : Ob}, h[k]? = some o' → (setOb h k o)[k]? = some o
  | [], k, _, _, e => by simp at e
  | _ :: r, 0, o, _, _ => rfl
  | x :: r, k + 1, o, _, e => by simpa [setOb] using setOb_got r k o (by simpa using e)
theorem setOb_twice : ∀ (h : RH) (k : Nat) (o o' : Ob), setOb (setOb h k o) k o' = setOb h k o'
  | [], _, _, _ => rfl
  | _ :: _, 0, _, _ => rfl
  | x :: r, k + 1, o, o' => by simp [setOb, setOb_twice r k o o']
theorem big_of {i : Int} (h1 : 0 ≤ i) (h2 : i < 18446744073709551616) : big i = true := by
  simp only [big, Nat.blt_eq]; omega
def bLap : S := .seq (.setf 5 (.bin .mod (.b1 .int (.bin .add (.bin .add (.bin .mul (.var 5) (.var 5)) (.bin .mul (.bin .mul (.lit (.int (70139))) (.bin .add (.var 7) (.lit (.int (5))))) (.bin .add (.var 1) (.lit (.int (1)))))) (.var 3))) (.var 4))) (.setf 6 (.bin .add (.bin .mul (.var 6) (.var 4)) (.var 5)))
/-- one lap -/
theorem lap_is {t0 t2 : T} {h' : RH} {c p l f q : Int} (hp : p = 2305843009213693951) (l0 : 0 ≤ l) (l9 : l < 9) (q0 : 0 ≤ q) (q1 : q < p) :
    ∃ q' f' : Int, 0 ≤ q' ∧ q' < p ∧ ex Φ [] bLap [t0, .fz (.int s), t2, .fz (.int c), .fz (.int p), .fz (.int q), .fz (.int f), .fz (.int l)] h' = .nx [t0, .fz (.int s), t2, .fz (.int c), .fz (.int p), .fz (.int q'), .fz (.int f'), .fz (.int l)] h' := by
  have b1 : big q = true := big_of q0 (by omega)
  have b2 : big (70139 : Int) = true := by decide
  have b3 : big (70139 * (l + 5)) = true := big_of (by omega) (by omega)
  have b4 : big p = true := big_of (by omega) (by omega)
  have pp : (0 : Int) < p := by omega
  refine ⟨(q * q + 70139 * (l + 5) * (s + 1) + c) % p, f * p + (q * q + 70139 * (l + 5) * (s + 1) + c) % p, Int.emod_nonneg _ (by omega), Int.emod_lt_of_pos _ pp, ?_⟩
  simp [bLap, ex, ev, rdv, RE.bind, RE.frz, RE.go, RS.nxt, T.d, getT, setT, bin, bMul, bAdd, bMod, b1, b2, b3, b4, optE, Ma.b1, bInt, pp]
/-- many laps -/
theorem laps_are {t0 t2 : T} {h' : RH} {c p : Int} (hp : p = 2305843009213693951) : ∀ (n : Nat) (a f q : Int) (t7 : T), 0 ≤ a → a + n ≤ 9 → 0 ≤ q → q < p →
    ∃ (q' f' : Int) (t7' : T), forGo (.nm 7) (ex Φ [] bLap) (rangeD a n) [t0, .fz (.int s), t2, .fz (.int c), .fz (.int p), .fz (.int q), .fz (.int f), t7] h' = .nx [t0, .fz (.int s), t2, .fz (.int c), .fz (.int p), .fz (.int q'), .fz (.int f'), t7'] h'
  | 0, a, f, q, t7, _, _, _, _ => ⟨q, f, t7, rfl⟩
  | n + 1, a, f, q, t7, a0, a9, q0, q1 => by
    obtain ⟨q', f', z0, z1, e⟩ := lap_is (Φ := Φ) (s := s) (t0 := t0) (t2 := t2) (h' := h') (c := c) (f := f) (l := a) hp a0 (by omega) q0 q1
    obtain ⟨q2, f2, t2', e2⟩ := laps_are hp n (a + 1) f' q' (.fz (.int a)) (by omega) (by omega) z0 z1
    refine ⟨q2, f2, t2', ?_⟩
    rw [rangeD, forGo]
    simp only [bindT, setT]
    rw [e]
    exact e2
/-- fresh: a number, the seat goes on -/
theorem fre_is (hk : h[k]? = some (penW w xs s r)) (hs : 0 ≤ s) : ∃ v : Int, ex Φ [] bFre [.fz (.ref k), .un, .un, .un, .un, .un, .un, .un] h = .ret (.fz (.int v)) (setOb h k (penW w xs (s + 1) r)) := by
  have at0 : atI [D.lst (xs.map D.int), .int s, .int r, w] 0 = some (.lst (xs.map D.int)) := rfl
  have at1 : atI [D.lst (xs.map D.int), .int s, .int r, w] 1 = some (.int s) := rfl
  have ix1 : ixN 4 1 = some 1 := rfl
  obtain ⟨c, ec⟩ := cell_is (Φ := Φ) (xs := xs) hs (h' := setOb h k (penW w xs (s + 1) r)) (st := [.fz (.ref k), .fz (.int s), .fz (.lst (xs.map D.int)), .un, .un, .un, .un, .un]) rfl rfl
  have oneA : ex Φ [] (.par [(1, false), (2, false)] [(.idx (.var 0) (.lit (.int (1)))), (.idx (.var 0) (.lit (.int (0))))]) [.fz (.ref k), .un, .un, .un, .un, .un, .un, .un] h = .nx [.fz (.ref k), .fz (.int s), .fz (.lst (xs.map D.int)), .un, .un, .un, .un, .un] h := by
    simp [ex, ev, parGo, rdv, RE.bind, RE.frz, RE.go, RE.int, RS.nxt, T.d, getT, setT, idxD, hk, at0, at1, optE, bin, bAdd, ix1, setD]
  have oneB : ex Φ [] (.rput (.var 0) (.lit (.int (1))) (.bin .add (.var 1) (.lit (.int (1))))) [.fz (.ref k), .fz (.int s), .fz (.lst (xs.map D.int)), .un, .un, .un, .un, .un] h = .nx [.fz (.ref k), .fz (.int s), .fz (.lst (xs.map D.int)), .un, .un, .un, .un, .un] (setOb h k (penW w xs (s + 1) r)) := by
    simp [ex, ev, parGo, rdv, RE.bind, RE.frz, RE.go, RE.int, RS.nxt, T.d, getT, setT, idxD, hk, at0, at1, optE, bin, bAdd, ix1, setD]
  have oneC : ex Φ [] (.setf 3 (.ife (.cmp .ne (.var 2) (.lst .nil)) (.idx (.var 2) (.bin .mod (.b1 .int (.var 1)) (.b1 .len (.var 2)))) (.lit (.int (0))))) [.fz (.ref k), .fz (.int s), .fz (.lst (xs.map D.int)), .un, .un, .un, .un, .un] (setOb h k (penW w xs (s + 1) r)) = .nx [.fz (.ref k), .fz (.int s), .fz (.lst (xs.map D.int)), .fz (.int c), .un, .un, .un, .un] (setOb h k (penW w xs (s + 1) r)) := by
    rw [ex, ec]
    rfl
  rw [bFre, ex, oneA]
  show ∃ v : Int, ex Φ [] (.seq _ _) _ _ = _
  rw [ex, oneB]
  show ∃ v : Int, ex Φ [] (.seq _ _) _ _ = _
  rw [ex, oneC]
  show ∃ v : Int, ex Φ [] (.seq _ _) _ _ = _
  generalize setOb h k (penW w xs (s + 1) r) = h'
  have cond : RE.go (ev Φ [] (.and_ (.cmp .lt (.var 1) (.b1 .len (.var 2))) (.cmp .ge (.var 3) (.bin .pow (.lit (.int (10))) (.lit (.int (18)))))) [.fz (.ref k), .fz (.int s), .fz (.lst (xs.map D.int)), .fz (.int c), .un, .un, .un, .un] h') = fun st f => f (.fz (.bl (decide (s < (xs.length : Int)) && decide (1000000000000000000 ≤ c)))) h' := by
    funext st f
    have ten : big (10 : Int) = true := by decide
    simp [ev, rdv, RE.bind, RE.test, RE.go, getT, T.d, cmpT, cmp, cLt, cLe, optE, bin, bPow, ten, Ma.b1, bLen]
    by_cases z : s < (xs.length : Int) <;> simp [z]
  rw [ex, ex, cond]
  have ten : big (10 : Int) = true := by decide
  cases hc : (decide (s < (xs.length : Int)) && decide (1000000000000000000 ≤ c)) with
  | true =>
    refine ⟨c - 1000000000000000000, ?_⟩
    simp [ex, ev, rdv, RE.bind, RE.go, RS.nxt, getT, T.d, bin, bPow, bSub, ten, optE]
  | false =>
    have pp : (0 : Int) < 2305843009213693951 := by decide
    obtain ⟨q, f, t7, e⟩ := laps_are (Φ := Φ) (s := s) (t0 := .fz (.ref k)) (t2 := .fz (.lst (xs.map D.int))) (h' := h') (c := c) rfl 6 0 ((c * 48271 + 60013 * s + 31) % 2305843009213693951) ((c * 48271 + 60013 * s + 31) % 2305843009213693951) .un (by omega) (by omega) (Int.emod_nonneg _ (by decide)) (Int.emod_lt_of_pos _ pp)
    refine ⟨f, ?_⟩
    have b1 : big (48271 : Int) = true := by decide
    have b2 : big (60013 : Int) = true := by decide
    have sm0 : sm 0 = true := by decide
    have sm6 : sm 6 = true := by decide
    rw [show ex Φ [] S.skip = fun s h => RS.nx s h from by funext s h; rw [ex]]
    dsimp only [RS.nxt]
    rw [← bLap]
    simp [ex, ev, rdv, RE.bind, RE.frz, RE.go, RE.int, RS.nxt, getT, setT, T.d, bin, bMul, bAdd, bMod, b1, b2, pp, Ma.b1, bInt, optE, items, sm0, sm6, -Int.reduceAdd]
    rw [e]
    simp [getT]
theorem pen_get (w : D) : atI [D.lst (xs.map D.int), .int s, .int r, w] 2 = some (.int r) := rfl
/-- draw: below the bound; the pen goes on -/
theorem drw_is {f : Nat} {b : Int} (hb : 0 < b) (hb2 : b < 1073741824) (hk : h[k]? = some (penW w xs s r)) (hs : 0 ≤ s) (hΦ : ∀ h' : RH, h'[k]? = some (penW w xs s r) → ∃ v : Int, Φ f [.ref k] h' = .ok (.fz (.int v)) (setOb h' k (penW w xs (s + 1) r))) :
    ∃ d s' r' : Int, 0 ≤ d ∧ d < b ∧ 0 ≤ s' ∧ ex Φ [] (bDrw f) [.fz (.ref k), .fz (.int b), .un] h = .ret (.fz (.int d)) (setOb h k (penW w xs s' r')) := by
  have ix2 : ixN 4 2 = some 2 := rfl
  have rest : ∀ (s' v : Int) (h' : RH), h'[k]? = some (penW w xs s' v) → ex Φ [] (.seq (.setf 2 (.bin .mod (.b1 .int (.idx (.var 0) (.lit (.int (2))))) (.var 1))) (.seq (.rput (.var 0) (.lit (.int (2))) (.bin .fdiv (.b1 .int (.idx (.var 0) (.lit (.int (2))))) (.var 1))) (.ret (.var 2)))) [.fz (.ref k), .fz (.int b), .un] h' = .ret (.fz (.int (v % b))) (setOb h' k (penW w xs s' (v / b))) := by
    intro s' v h' e
    simp [ex, ev, rdv, RE.bind, RE.frz, RE.go, RE.int, RS.nxt, getT, setT, T.d, idxD, e, pen_get, optE, Ma.b1, bInt, bin, bMod, bDiv, hb, hb2, ix2, setD]
  by_cases z : r < b
  · obtain ⟨v, ev_⟩ := hΦ h hk
    have one : ex Φ [] (.ifs (.cmp .lt (.idx (.var 0) (.lit (.int (2)))) (.var 1)) (.rput (.var 0) (.lit (.int (2))) (.call f (.cons (.var 0) .nil))) .skip) [.fz (.ref k), .fz (.int b), .un] h = .nx [.fz (.ref k), .fz (.int b), .un] (setOb h k (penW w xs (s + 1) v)) := by
      simp [ex, ev, rdv, RE.bind, RE.frz, RE.go, RE.int, RE.row, RS.nxt, getT, setT, T.d, idxD, hk, pen_get, optE, cmpT, cmp, cLt, z, ev_, setOb_got _ _ _ hk, ix2, setD, setOb_twice]
    refine ⟨v % b, s + 1, v / b, Int.emod_nonneg _ (by omega), Int.emod_lt_of_pos _ hb, by omega, ?_⟩
    rw [bDrw, ex, one]
    dsimp only [RS.nxt]
    rw [rest (s + 1) v _ (setOb_got _ _ _ hk), setOb_twice]
  · have one : ex Φ [] (.ifs (.cmp .lt (.idx (.var 0) (.lit (.int (2)))) (.var 1)) (.rput (.var 0) (.lit (.int (2))) (.call f (.cons (.var 0) .nil))) .skip) [.fz (.ref k), .fz (.int b), .un] h = .nx [.fz (.ref k), .fz (.int b), .un] h := by
      simp [ex, ev, rdv, RE.bind, RE.frz, RE.go, RE.int, RE.row, RS.nxt, getT, setT, T.d, idxD, hk, pen_get, optE, cmpT, cmp, cLt, z]
    refine ⟨r % b, s, r / b, Int.emod_nonneg _ (by omega), Int.emod_lt_of_pos _ hb, hs, ?_⟩
    rw [bDrw, ex, one]
    dsimp only [RS.nxt]
    rw [rest s r _ hk]
end
/-! ### as calls -/
section
variable {ds : List Def} {n : Nat} {h : RH} {k : Nat} {xs : List Int} {s r : Int} {w : D} {p f d : Nat}
theorem run_pen (hp : nth p ds = some ⟨1, 1, bPen⟩) : runs ds (n + 1) p [.lst (xs.map D.int)] h = .ok (.fz (.ref h.length)) (h ++ [penO (xs.take 63) 0 0]) := by
  rw [runs]
  dsimp only
  rw [hp]
  simp only [slots, List.length_cons, List.length_nil]
  rw [pen_is]
  rfl
theorem run_fre (hf : nth f ds = some ⟨1, 8, bFre⟩) (hk : h[k]? = some (penW w xs s r)) (hs : 0 ≤ s) : ∃ v : Int, runs ds (n + 1) f [.ref k] h = .ok (.fz (.int v)) (setOb h k (penW w xs (s + 1) r)) := by
  obtain ⟨v, e⟩ := fre_is (Φ := runs ds n) hk hs
  refine ⟨v, ?_⟩
  rw [runs]
  dsimp only
  rw [hf]
  simp only [slots, List.length_cons, List.length_nil]
  rw [e]
  rfl
theorem run_drw {b : Int} (hd : nth d ds = some ⟨2, 3, bDrw f⟩) (hf : nth f ds = some ⟨1, 8, bFre⟩) (hb : 0 < b) (hb2 : b < 1073741824) (hk : h[k]? = some (penW w xs s r)) (hs : 0 ≤ s) :
    ∃ v s' r' : Int, 0 ≤ v ∧ v < b ∧ 0 ≤ s' ∧ runs ds (n + 2) d [.ref k, .int b] h = .ok (.fz (.int v)) (setOb h k (penW w xs s' r')) := by
  obtain ⟨v, s', r', h1, h2, h3, e⟩ := drw_is (Φ := runs ds (n + 1)) (f := f) hb hb2 hk hs fun h' e => run_fre hf e hs
  refine ⟨v, s', r', h1, h2, h3, ?_⟩
  rw [runs]
  dsimp only
  rw [hd]
  simp only [slots, List.length_cons, List.length_nil]
  rw [e]
  rfl
end
end Ma
set_option maxHeartbeats 4000000
/-! Data of small ints and short texts, few at each level, can be shown. -/
namespace Ma
mutual
/-- at most b at each level, n levels -/
def tm (b : Nat) : Nat → D → Bool
  | _, .non => true
  | _, .bl _ => true
  | _, .int i => decide (-4000 < i) && decide (i < 4000)
  | _, .str s => Nat.ble s.length 8 && s.all fun c => Nat.blt c 1114112
  | n + 1, .tup xs => Nat.ble xs.length b && tms b n xs
  | n + 1, .lst xs => Nat.ble xs.length b && tms b n xs
  | _, _ => false
def tms (b : Nat) : Nat → List D → Bool
  | _, [] => true
  | n, x :: r => tm b n x && tms b n r
end
mutual
theorem tm_flat {b : Nat} : ∀ (d : D) (n m : Nat), n ≤ m → tm b n d = true → flatN m d = true
  | .non, _, m, _, _ => by cases m <;> rfl
  | .bl _, _, m, _, _ => by cases m <;> rfl
  | .int _, _, m, _, _ => by cases m <;> rfl
  | .str s, n, m, _, h => by
    have : tm b n (.str s) = (Nat.ble s.length 8 && s.all fun c => Nat.blt c 1114112) := by cases n <;> rfl
    rw [this, Bool.and_eq_true] at h
    cases m <;> exact h.2
  | .tup xs, n + 1, m + 1, le, h => by
    rw [tm, Bool.and_eq_true] at h
    exact tms_flat xs n m (by omega) h.2
  | .lst xs, n + 1, m + 1, le, h => by
    rw [tm, Bool.and_eq_true] at h
    exact tms_flat xs n m (by omega) h.2
  | .tup _, 0, _, _, h => nomatch h
  | .lst _, 0, _, _, h => nomatch h
  | .tup _, n + 1, 0, le, _ => by omega
  | .lst _, n + 1, 0, le, _ => by omega
  | .dct _, n, _, _, h => by cases n <;> exact nomatch h
  | .kst _, n, _, _, h => by cases n <;> exact nomatch h
  | .ref _, n, _, _, h => by cases n <;> exact nomatch h
  | .clo _ _, n, _, _, h => by cases n <;> exact nomatch h
theorem tms_flat {b : Nat} : ∀ (xs : List D) (n m : Nat), n ≤ m → tms b n xs = true → flatsN m xs = true
  | [], _, m, _, _ => by cases m <;> rfl
  | x :: r, n, m, le, h => by
    have e : tms b n (x :: r) = (tm b n x && tms b n r) := by cases n <;> rfl
    rw [e, Bool.and_eq_true] at h
    have e2 : flatsN m (x :: r) = (flatN m x && flatsN m r) := by cases m <;> rfl
    rw [e2, Bool.and_eq_true]
    exact ⟨tm_flat x n m le h.1, tms_flat r n m le h.2⟩
end
section
open PySem
theorem int_short {i : Int} (h1 : -4000 < i) (h2 : i < 4000) : (PyData.int i).leavesShort 13 = true ∧ (PyData.int i).showable = true ∧ (PyData.int i).weight ≤ 12 := by
  have a : i.natAbs < 4000 := by omega
  have l : i.natAbs.log2 < 12 := by
    by_cases z : i.natAbs = 0
    · rw [z]; decide
    · exact (Nat.log2_lt z).mpr (by omega)
  refine ⟨?_, ?_, ?_⟩
  · show decide _ = true
    exact decide_eq_true (PyData.shown_int_le (by omega))
  · show decide _ = true
    exact decide_eq_true (by omega)
  · show (if i == 0 then 0 else i.natAbs.log2 + 1) ≤ 12
    split <;> omega
mutual
theorem tm_py {b : Nat} : ∀ (d : D) (n : Nat), tm b n d = true → (pyD d).leavesShort 13 = true ∧ (pyD d).showable = true ∧ (pyD d).weight + 1 ≤ 13 * (b + 1) ^ n
  | .non, n, _ => ⟨rfl, rfl, by have := Nat.one_le_pow n (b + 1) (Nat.succ_pos b); show 0 + 1 ≤ _; omega⟩
  | .bl _, n, _ => ⟨rfl, rfl, by have := Nat.one_le_pow n (b + 1) (Nat.succ_pos b); show 0 + 1 ≤ _; omega⟩
  | .int i, n, h => by
    have e : tm b n (.int i) = (decide (-4000 < i) && decide (i < 4000)) := by cases n <;> rfl
    rw [e, Bool.and_eq_true, decide_eq_true_eq, decide_eq_true_eq] at h
    obtain ⟨a, c, d⟩ := int_short h.1 h.2
    have := Nat.one_le_pow n (b + 1) (Nat.succ_pos b)
    exact ⟨a, c, by show (PyData.int i).weight + 1 ≤ _; omega⟩
  | .str s, n, h => by
    have e : tm b n (.str s) = (Nat.ble s.length 8 && s.all fun c => Nat.blt c 1114112) := by cases n <;> rfl
    rw [e, Bool.and_eq_true, Nat.ble_eq, List.all_eq_true] at h
    have := Nat.one_le_pow n (b + 1) (Nat.succ_pos b)
    refine ⟨?_, rfl, ?_⟩
    · show (s.toArray.toList.all fun c => decide (c < 16 ^ 8)) = true
      rw [List.all_eq_true]
      intro c hc
      have := h.2 c (by simpa using hc)
      simp only [Nat.blt_eq] at this
      exact decide_eq_true (by omega)
    · show s.toArray.size + 1 ≤ _
      rw [List.size_toArray]; omega
  | .tup xs, n + 1, h => by
    rw [tm, Bool.and_eq_true, Nat.ble_eq] at h
    obtain ⟨a, c, d⟩ := tms_py xs n h.2
    have p := Nat.one_le_pow n (b + 1) (Nat.succ_pos b)
    refine ⟨a, c, ?_⟩
    show PyData.weightAll (pyDs xs) + 1 ≤ _
    have e1 := Nat.mul_le_mul_right (13 * (b + 1) ^ n) h.1
    have e2 : 13 * (b + 1) ^ (n + 1) = b * (13 * (b + 1) ^ n) + 13 * (b + 1) ^ n := by
      rw [Nat.pow_succ, Nat.mul_succ, Nat.mul_add, Nat.mul_comm ((b + 1) ^ n) b, Nat.mul_left_comm]
    omega
  | .lst xs, n + 1, h => by
    rw [tm, Bool.and_eq_true, Nat.ble_eq] at h
    obtain ⟨a, c, d⟩ := tms_py xs n h.2
    have p := Nat.one_le_pow n (b + 1) (Nat.succ_pos b)
    refine ⟨a, c, ?_⟩
    show PyData.weightAll (pyDs xs) + 1 ≤ _
    have e1 := Nat.mul_le_mul_right (13 * (b + 1) ^ n) h.1
    have e2 : 13 * (b + 1) ^ (n + 1) = b * (13 * (b + 1) ^ n) + 13 * (b + 1) ^ n := by
      rw [Nat.pow_succ, Nat.mul_succ, Nat.mul_add, Nat.mul_comm ((b + 1) ^ n) b, Nat.mul_left_comm]
    omega
  | .tup _, 0, h => nomatch h
  | .lst _, 0, h => nomatch h
  | .dct _, n, h => by cases n <;> exact nomatch h
  | .kst _, n, h => by cases n <;> exact nomatch h
  | .ref _, n, h => by cases n <;> exact nomatch h
  | .clo _ _, n, h => by cases n <;> exact nomatch h
theorem tms_py {b : Nat} : ∀ (xs : List D) (n : Nat), tms b n xs = true → PyData.leavesShortAll 13 (pyDs xs) = true ∧ PyData.showableAll (pyDs xs) = true ∧ PyData.weightAll (pyDs xs) ≤ xs.length * (13 * (b + 1) ^ n)
  | [], n, _ => ⟨rfl, rfl, by simp [pyDs, PyData.weightAll]⟩
  | x :: r, n, h => by
    have e : tms b n (x :: r) = (tm b n x && tms b n r) := by cases n <;> rfl
    rw [e, Bool.and_eq_true] at h
    obtain ⟨a1, c1, d1⟩ := tm_py x n h.1
    obtain ⟨a2, c2, d2⟩ := tms_py r n h.2
    refine ⟨?_, ?_, ?_⟩
    · show (PyData.leavesShort 13 (pyD x) && PyData.leavesShortAll 13 (pyDs r)) = true
      rw [a1, a2]; rfl
    · show (PyData.showable (pyD x) && PyData.showableAll (pyDs r)) = true
      rw [c1, c2]; rfl
    · show PyData.weight (pyD x) + 1 + PyData.weightAll (pyDs r) ≤ _
      rw [List.length_cons, Nat.succ_mul]; omega
end
theorem tm_okTxt {b n : Nat} {d : D} (h : tm b n d = true) (hn : n ≤ 60) (hb : 13 * (b + 1) ^ n ≤ 1048576) : okTxt d = true := by
  obtain ⟨a, c, e⟩ := tm_py d n h
  have f := PyData.shown_fits (B := 13) (by decide) (by decide) a (by have : (2:Nat) ^ 20 = 1048576 := by decide
                                                                      omega)
  unfold okTxt
  rw [Bool.and_eq_true, Bool.and_eq_true]
  refine ⟨by rw [show flat d = true from tm_flat d n 60 hn h, Bool.true_or], c, ?_⟩
  rw [Nat.ble_eq]
  show (pyD d).shown.cps.toList.length ≤ 16777216
  rw [Array.length_toList]
  have := f
  rw [sizeLine_eq] at this
  exact this
end
end Ma
set_option maxHeartbeats 4000000
/-! Running defs on the machine: calls, comprehensions, loops. -/
namespace Ma
section
variable {ds : List Def} {n f : Nat} {xs : List D} {h h' : RH} {d : Def}
theorem run_ret {t : T} (hd : nth f ds = some d) (hl : (xs.length == d.np) = true) (e : ex (runs ds n) [] d.body (slots d.ns xs) h = .ret t h') : runs ds (n + 1) f xs h = .ok t h' := by
  rw [runs]; dsimp only; rw [hd]; dsimp only; rw [if_pos hl, e]
theorem run_nx {s : Sl} (hd : nth f ds = some d) (hl : (xs.length == d.np) = true) (e : ex (runs ds n) [] d.body (slots d.ns xs) h = .nx s h') : runs ds (n + 1) f xs h = .ok (.fz .non) h' := by
  rw [runs]; dsimp only; rw [hd]; dsimp only; rw [if_pos hl, e]
end
/-! ### places -/
section
variable {a b c e g : D}
theorem at10 : atI [a] 0 = some a := rfl
theorem at20 : atI [a, b] 0 = some a := rfl
theorem at21 : atI [a, b] 1 = some b := rfl
theorem at30 : atI [a, b, c] 0 = some a := rfl
theorem at31 : atI [a, b, c] 1 = some b := rfl
theorem at32 : atI [a, b, c] 2 = some c := rfl
theorem at40 : atI [a, b, c, e] 0 = some a := rfl
theorem at41 : atI [a, b, c, e] 1 = some b := rfl
theorem at42 : atI [a, b, c, e] 2 = some c := rfl
theorem at43 : atI [a, b, c, e] 3 = some e := rfl
end
theorem fz_d (d : D) : (T.fz d).d = d := rfl
/-! ### comprehensions that change nothing shared -/
section
variable {Φ : Cal} {x : List D} {α : Type} {tg : Tg} {s : Sl} {fc fe : Sl → RH → RE} {h : RH}
theorem comp_map (hfc : ∀ s h, fc s h = .ok (.fz (.bl true)) h) (em out : α → D) : ∀ (l : List α) (n : Nat) (acc : List D), n + l.length ≤ line → (∀ a ∈ l, ∃ s' t, bindT tg (em a) s = some s' ∧ fe s' h = .ok t h ∧ t.d = out a) →
    compGo tg s fc fe (l.map em) n acc h = .ok (.oL (n + l.length) ((l.map out).reverse ++ acc)) h
  | [], n, acc, _, _ => by simp [compGo]
  | a :: l, n, acc, hl, hb => by
    obtain ⟨s', t, e1, e2, e3⟩ := hb a List.mem_cons_self
    have hlt : Nat.blt n line = true := by rw [Nat.blt_eq]; simp only [List.length_cons] at hl; omega
    rw [List.map_cons, compGo, e1]
    simp only [hfc, RE.calm, RE.test, RE.bind, e2, RE.frz, fz_d, e3, hlt, if_true]
    rw [comp_map hfc em out l (n + 1) (out a :: acc) (by simp only [List.length_cons] at hl; omega) fun b hb' => hb b (List.mem_cons_of_mem _ hb')]
    simp only [List.length_cons, List.map_cons, List.reverse_cons, List.append_assoc, List.singleton_append]; congr 2; omega
/-- .. that draw: each item gives something, and the heap goes on -/
theorem comp_draw {Inv : RH → Prop} {ok : D → Prop} (hfc : ∀ s h, fc s h = .ok (.fz (.bl true)) h) : ∀ (l : List D) (n : Nat) (acc : List D) (h : RH), n + l.length ≤ line → Inv h → (∀ a ∈ l, ∀ h, Inv h → ∃ s' t h', bindT tg a s = some s' ∧ fe s' h = .ok t h' ∧ Inv h' ∧ ok t.d) →
    ∃ (ys : List D) (h' : RH), compGo tg s fc fe l n acc h = .ok (.oL (n + l.length) (ys.reverse ++ acc)) h' ∧ ys.length = l.length ∧ Inv h' ∧ ∀ y ∈ ys, ok y
  | [], n, acc, h, _, i, _ => ⟨[], h, by simp [compGo], rfl, i, by simp⟩
  | a :: l, n, acc, h, hl, i, hb => by
    obtain ⟨s', t, h', e1, e2, i', ok'⟩ := hb a List.mem_cons_self h i
    have hlt : Nat.blt n line = true := by rw [Nat.blt_eq]; simp only [List.length_cons] at hl; omega
    obtain ⟨ys, h'', e3, e4, i'', e5⟩ := comp_draw hfc l (n + 1) (t.d :: acc) h' (by simp only [List.length_cons] at hl; omega) i' fun b hb' => hb b (List.mem_cons_of_mem _ hb')
    refine ⟨t.d :: ys, h'', ?_, by simp [e4], i'', by simpa using ⟨ok', e5⟩⟩
    rw [compGo, e1]
    simp only [hfc, RE.calm, RE.test, RE.bind, e2, RE.frz, fz_d, hlt, if_true]
    rw [e3]
    simp only [List.length_cons, List.map_cons, List.reverse_cons, List.append_assoc, List.singleton_append]; congr 2; omega
end
end Ma
set_option maxHeartbeats 4000000
/-! The machine's steps as rewriting rules (printed by gmst.py). -/
namespace Ma
section
variable {Φ : Cal} {x : List D} {s : Sl} {h : RH}
def vr1 (t : T) (h : RH) : RE := match t with | .fz d => .ok (.fz d) h | _ => .bad "var"
def rd1 (t : T) (h : RH) : RE := match t with | .un => .bad "vr" | t => .ok t h
@[simp] theorem vr1_fz (d : D) : vr1 (.fz d) h = .ok (.fz d) h := rfl
@[simp] theorem rd1_fz (d : D) : rd1 (.fz d) h = .ok (.fz d) h := rfl
@[simp] theorem rd1_oL (n : Nat) (rs : List D) : rd1 (.oL n rs) h = .ok (.oL n rs) h := rfl
@[simp] theorem rd1_oD (k : List (Int × D)) : rd1 (.oD k) h = .ok (.oD k) h := rfl
@[simp] theorem bind_ok (t : T) (f : T → RH → RE) : RE.bind (.ok t h) f = f t h := rfl
@[simp] theorem frz_ok (t : T) : RE.frz (.ok t h) = .ok (.fz t.d) h := rfl
@[simp] theorem calm_ok (t : T) : RE.calm (.ok t h) = .ok t h := rfl
@[simp] theorem test_ok (b : Bool) (f : Bool → RH → RE) : RE.test (.ok (.fz (.bl b)) h) f = f b h := rfl
@[simp] theorem int_ok (i : Int) (f : Int → RH → RE) : RE.int (.ok (.fz (.int i)) h) f = f i h := rfl
@[simp] theorem part_non (f : Option Int → RH → RE) : RE.part (.ok (.fz .non) h) f = f none h := rfl
@[simp] theorem part_int (i : Int) (f : Option Int → RH → RE) : RE.part (.ok (.fz (.int i)) h) f = f (some i) h := rfl
@[simp] theorem row_ok (xs : List D) (f : List D → RH → RE) : RE.row (.ok (.fz (.tup xs)) h) f = f xs h := rfl
@[simp] theorem its_tup (xs : List D) (f : List D → RH → RE) : RE.its (.ok (.fz (.tup xs)) h) f = f xs h := rfl
@[simp] theorem its_lst (xs : List D) (f : List D → RH → RE) : RE.its (.ok (.fz (.lst xs)) h) f = f xs h := rfl
@[simp] theorem its_oL (n : Nat) (rs : List D) (f : List D → RH → RE) : RE.its (.ok (.oL n rs) h) f = f rs.reverse h := rfl
@[simp] theorem its_it (xs : List D) (f : List D → RH → RE) : RE.its (.ok (.it xs) h) f = f xs h := rfl
@[simp] theorem go_ok (t : T) (f : T → RH → RS) : RE.go (.ok t h) s f = f t h := rfl
@[simp] theorem nxt_nx (f : Sl → RH → RS) : RS.nxt (.nx s h) f = f s h := rfl
@[simp] theorem nxt_ret (t : T) (f : Sl → RH → RS) : RS.nxt (.ret t h) f = .ret t h := rfl
@[simp] theorem optE_some (t : T) : optE (some t) h = .ok t h := rfl
@[simp] theorem optB_some (b : Bool) : optB (some b) h = .ok (.fz (.bl b)) h := rfl
@[simp] theorem d_fz (d : D) : (T.fz d).d = d := rfl
@[simp] theorem d_oL (n : Nat) (rs : List D) : (T.oL n rs).d = .lst rs.reverse := rfl
@[simp] theorem d_oD (k : List (Int × D)) : (T.oD k).d = .dct k := rfl
@[simp] theorem items_tup (xs : List D) : items (.fz (.tup xs)) = some xs := rfl
@[simp] theorem items_lst (xs : List D) : items (.fz (.lst xs)) = some xs := rfl
@[simp] theorem items_oL (n : Nat) (rs : List D) : items (.oL n rs) = some rs.reverse := rfl
@[simp] theorem items_it (xs : List D) : items (.it xs) = some xs := rfl
@[simp] theorem getT0 (t : T) (r : Sl) : getT (t :: r) 0 = t := rfl
@[simp] theorem getTS (t : T) (r : Sl) (i : Nat) : getT (t :: r) (i + 1) = getT r i := rfl
@[simp] theorem setT0 (t u : T) (r : Sl) : setT (t :: r) 0 u = u :: r := rfl
@[simp] theorem setTS (t u : T) (r : Sl) (i : Nat) : setT (t :: r) (i + 1) u = t :: setT r i u := rfl
@[simp] theorem unT_nil : unT [] s = s := rfl
@[simp] theorem unT_cons (i : Nat) (r : List Nat) : unT (i :: r) s = setT (unT r s) i .un := rfl
@[simp] theorem tgOf1 (i : Nat) : tgOf [i] = .nm i := rfl
@[simp] theorem tgOf2 (i j : Nat) (r : List Nat) : tgOf (i :: j :: r) = .tp (.nm i :: .nm j :: r.map .nm) := rfl
@[simp] theorem bindT_nm (i : Nat) (d : D) : bindT (.nm i) d s = some (setT s i (.fz d)) := by cases d <;> rfl
@[simp] theorem bindT_tp (ts : List Tg) (xs : List D) : bindT (.tp ts) (.tup xs) s = bindTs ts xs s := rfl
@[simp] theorem bindTs_nil : bindTs [] [] s = some s := rfl
@[simp] theorem bindTs_nm (i : Nat) (r : List Tg) (d : D) (q : List D) : bindTs (.nm i :: r) (d :: q) s = bindTs r q (setT s i (.fz d)) := by
  rw [bindTs, bindT_nm]
@[simp] theorem slots0 (xs : List D) : slots 0 xs = [] := rfl
@[simp] theorem slotsN (n : Nat) : slots (n + 1) [] = .un :: slots n [] := rfl
@[simp] theorem slotsC (n : Nat) (d : D) (r : List D) : slots (n + 1) (d :: r) = .fz d :: slots n r := rfl
@[simp] theorem idx_tup (xs : List D) (i : Int) : idxD (.tup xs) i h = atI xs i := rfl
@[simp] theorem idx_lst (xs : List D) (i : Int) : idxD (.lst xs) i h = atI xs i := rfl
@[simp] theorem par_nil (s0 : Sl) : parGo Φ x s0 [] [] s h = .nx s h := rfl
@[simp] theorem par_cons (s0 : Sl) (i : Nat) (r : List (Nat × Bool)) (e : E) (q : List E) : parGo Φ x s0 ((i, false) :: r) (e :: q) s h = (ev Φ x e s0 h).frz.go s0 fun t h => parGo Φ x s0 r q (setT s i t) h := rfl
@[simp] theorem par_consO (s0 : Sl) (i : Nat) (r : List (Nat × Bool)) (e : E) (q : List E) : parGo Φ x s0 ((i, true) :: r) (e :: q) s h = (ev Φ x e s0 h).go s0 fun t h => parGo Φ x s0 r q (setT s i t) h := rfl
theorem forGo_cons (g : Tg) (fb : Sl → RH → RS) (d : D) (r : List D) : forGo g fb (d :: r) s h = match bindT g d s with | none => .bad "for" | some s => (fb s h).nxt fun s h => forGo g fb r s h := rfl
@[simp] theorem in_dct (i : Int) (k : List (Int × D)) : cIn (.int i) (.dct k) = some (lookK i k).isSome := rfl
@[simp] theorem idx_dct (i : Int) (k : List (Int × D)) : idxD (.dct k) i h = lookK i k := rfl
@[simp] theorem cmpT_in (a b : D) : cmpT .in_ a b = (cIn a b).map fun b => .fz (.bl b) := rfl
@[simp] theorem cmpT_ge (a b : Int) : cmpT .ge (.int a) (.int b) = some (.fz (.bl (decide (b ≤ a)))) := rfl
@[simp] theorem cmpT_le (a b : Int) : cmpT .le (.int a) (.int b) = some (.fz (.bl (decide (a ≤ b)))) := rfl
@[simp] theorem cmpT_lt (a b : Int) : cmpT .lt (.int a) (.int b) = some (.fz (.bl (decide (a < b)))) := rfl
@[simp] theorem cmpT_gt (a b : Int) : cmpT .gt (.int a) (.int b) = some (.fz (.bl (decide (b < a)))) := rfl
@[simp] theorem cmpT_eqI (a b : Int) : cmpT .eq (.int a) (.int b) = some (.fz (.bl (a == b))) := rfl
@[simp] theorem cmpT_neI (a b : Int) : cmpT .ne (.int a) (.int b) = some (.fz (.bl (!(a == b)))) := rfl
@[simp] theorem cmpT_eqS (a b : List Nat) : cmpT .eq (.str a) (.str b) = some (.fz (.bl (a == b))) := rfl
@[simp] theorem cmpT_neS (a b : List Nat) : cmpT .ne (.str a) (.str b) = some (.fz (.bl (!(a == b)))) := rfl
@[simp] theorem bin_add (a b : D) : bin .add a b = bAdd a b := rfl
@[simp] theorem bin_sub (a b : D) : bin .sub a b = bSub a b := rfl
@[simp] theorem bin_mul (a b : D) : bin .mul a b = bMul a b := rfl
@[simp] theorem bAddI (a b : Int) : bAdd (.int a) (.int b) = some (.fz (.int (a + b))) := rfl
@[simp] theorem bSubI (a b : Int) : bSub (.int a) (.int b) = some (.fz (.int (a - b))) := rfl
@[simp] theorem b1_tuple (t : T) : b1 .tuple t = (items t).map fun xs => .fz (.tup xs) := rfl
@[simp] theorem rev_tup (xs : List D) : revD (.tup xs) = some (.fz (.tup xs.reverse)) := rfl
@[simp] theorem rev_lst (xs : List D) : revD (.lst xs) = some (mkL xs.reverse) := rfl
@[simp] theorem b1_dpairs (t : T) : b1 .dpairs t = bDpairs t := rfl
@[simp] theorem b1_sset (t : T) : b1 .sset t = bSset t := rfl
@[simp] theorem b1_sum (t : T) : b1 .sum t = bSum t := rfl
@[simp] theorem b1_repr (t : T) : b1 .repr t = bRepr t := rfl
@[simp] theorem b1_listO (n : Nat) (rs : List D) : b1 .list (.oL n rs) = some (mkL rs.reverse) := rfl
@[simp] theorem b1_listT (xs : List D) : b1 .list (.fz (.tup xs)) = some (mkL xs) := rfl
@[simp] theorem b1_listL (xs : List D) : b1 .list (.fz (.lst xs)) = some (mkL xs) := rfl
@[simp] theorem b1_listI (xs : List D) : b1 .list (.it xs) = some (mkL xs) := rfl
@[simp] theorem b1_lenT (xs : List D) : b1 .len (.fz (.tup xs)) = some (.fz (.int xs.length)) := rfl
@[simp] theorem b1_lenL (xs : List D) : b1 .len (.fz (.lst xs)) = some (.fz (.int xs.length)) := rfl
@[simp] theorem b1_lenO (n : Nat) (rs : List D) : b1 .len (.oL n rs) = some (.fz (.int n)) := rfl
@[simp] theorem d_mkL (xs : List D) : (mkL xs).d = .lst xs := by simp [mkL, T.d]
@[simp] theorem items_mkL (xs : List D) : items (mkL xs) = some xs := by simp [mkL, items]
@[simp] theorem its_mkL (xs : List D) (f : List D → RH → RE) : RE.its (.ok (mkL xs) h) f = f xs h := by simp [mkL]
@[simp] theorem forGo_nil (g : Tg) (fb : Sl → RH → RS) : forGo g fb [] s h = .nx s h := rfl
@[simp] theorem sat10 {a : D} : atI [a] 0 = some a := rfl
@[simp] theorem sat20 {a b : D} : atI [a, b] 0 = some a := rfl
@[simp] theorem sat21 {a b : D} : atI [a, b] 1 = some b := rfl
@[simp] theorem sat30 {a b c : D} : atI [a, b, c] 0 = some a := rfl
@[simp] theorem sat31 {a b c : D} : atI [a, b, c] 1 = some b := rfl
@[simp] theorem sat32 {a b c : D} : atI [a, b, c] 2 = some c := rfl
@[simp] theorem sat40 {a b c e : D} : atI [a, b, c, e] 0 = some a := rfl
@[simp] theorem sat41 {a b c e : D} : atI [a, b, c, e] 1 = some b := rfl
@[simp] theorem sat42 {a b c e : D} : atI [a, b, c, e] 2 = some c := rfl
@[simp] theorem sat43 {a b c e : D} : atI [a, b, c, e] 3 = some e := rfl
@[simp] theorem r_lit (v0 : D) (r : RE) : rdv (.lit v0) s h r = r := rfl
@[simp] theorem r_var (v0 : Nat) (r : RE) : rdv (.var v0) s h r = r := rfl
@[simp] theorem r_vr (v0 : Nat) (r : RE) : rdv (.vr v0) s h r = rd1 (getT s v0) h := by unfold rd1; show (match getT s v0 with | .un => RE.bad "vr" | t => .ok t h) = _; cases getT s v0 <;> rfl
@[simp] theorem r_nil  (r : RE) : rdv (.nil) s h r = r := rfl
@[simp] theorem r_cons (v0 : E) (v1 : E) (r : RE) : rdv (.cons v0 v1) s h r = r := rfl
@[simp] theorem r_tup (v0 : E) (r : RE) : rdv (.tup v0) s h r = r := rfl
@[simp] theorem r_lst (v0 : E) (r : RE) : rdv (.lst v0) s h r = r := rfl
@[simp] theorem r_bin (v0 : Bop) (v1 : E) (v2 : E) (r : RE) : rdv (.bin v0 v1 v2) s h r = r := rfl
@[simp] theorem r_neg (v0 : E) (r : RE) : rdv (.neg v0) s h r = r := rfl
@[simp] theorem r_nt (v0 : E) (r : RE) : rdv (.nt v0) s h r = r := rfl
@[simp] theorem r_and_ (v0 : E) (v1 : E) (r : RE) : rdv (.and_ v0 v1) s h r = r := rfl
@[simp] theorem r_or_ (v0 : E) (v1 : E) (r : RE) : rdv (.or_ v0 v1) s h r = r := rfl
@[simp] theorem r_ife (v0 : E) (v1 : E) (v2 : E) (r : RE) : rdv (.ife v0 v1 v2) s h r = r := rfl
@[simp] theorem r_cmp (v0 : Cop) (v1 : E) (v2 : E) (r : RE) : rdv (.cmp v0 v1 v2) s h r = r := rfl
@[simp] theorem r_chn (v0 : Cop) (v1 : Cop) (v2 : E) (v3 : E) (v4 : E) (r : RE) : rdv (.chn v0 v1 v2 v3 v4) s h r = r := rfl
@[simp] theorem r_idx (v0 : E) (v1 : E) (r : RE) : rdv (.idx v0 v1) s h r = r := rfl
@[simp] theorem r_slc (v0 : E) (v1 : E) (v2 : E) (r : RE) : rdv (.slc v0 v1 v2) s h r = r := rfl
@[simp] theorem r_rev (v0 : E) (r : RE) : rdv (.rev v0) s h r = r := rfl
@[simp] theorem r_call (v0 : Nat) (v1 : E) (r : RE) : rdv (.call v0 v1) s h r = r := rfl
@[simp] theorem r_callB (v0 : Nat) (v1 : E) (v2 : Nat) (v3 : Bool) (r : RE) : rdv (.callB v0 v1 v2 v3) s h r = r := rfl
@[simp] theorem r_clo (v0 : Nat) (v1 : List Nat) (r : RE) : rdv (.clo v0 v1) s h r = r := rfl
@[simp] theorem r_cc (v0 : E) (v1 : E) (r : RE) : rdv (.cc v0 v1) s h r = r := rfl
@[simp] theorem r_callT (v0 : List (List Nat × Nat)) (v1 : E) (v2 : E) (r : RE) : rdv (.callT v0 v1 v2) s h r = r := rfl
@[simp] theorem r_sidx (v0 : List (List Nat × D)) (v1 : E) (r : RE) : rdv (.sidx v0 v1) s h r = r := rfl
@[simp] theorem r_sin (v0 : List (List Nat × D)) (v1 : E) (r : RE) : rdv (.sin v0 v1) s h r = r := rfl
@[simp] theorem r_new (v0 : Nat) (v1 : Nat) (v2 : Nat) (v3 : E) (r : RE) : rdv (.new v0 v1 v2 v3) s h r = r := rfl
@[simp] theorem r_fget (v0 : E) (v1 : Nat) (r : RE) : rdv (.fget v0 v1) s h r = r := rfl
@[simp] theorem r_b1 (v0 : B1) (v1 : E) (r : RE) : rdv (.b1 v0 v1) s h r = r := rfl
@[simp] theorem r_b2 (v0 : B2) (v1 : E) (v2 : E) (r : RE) : rdv (.b2 v0 v1 v2) s h r = r := rfl
@[simp] theorem r_isin (v0 : Ty) (v1 : E) (r : RE) : rdv (.isin v0 v1) s h r = r := rfl
@[simp] theorem r_comp (v0 : List Nat) (v1 : E) (v2 : E) (v3 : E) (r : RE) : rdv (.comp v0 v1 v2 v3) s h r = r := rfl
@[simp] theorem r_comp2 (v0 : List Nat) (v1 : E) (v2 : E) (v3 : List Nat) (v4 : E) (v5 : E) (v6 : E) (r : RE) : rdv (.comp2 v0 v1 v2 v3 v4 v5 v6) s h r = r := rfl
@[simp] theorem r_rng (v0 : E) (v1 : E) (r : RE) : rdv (.rng v0 v1) s h r = r := rfl
@[simp] theorem r_enu (v0 : E) (r : RE) : rdv (.enu v0) s h r = r := rfl
@[simp] theorem r_zip (v0 : Bool) (v1 : E) (v2 : E) (r : RE) : rdv (.zip v0 v1 v2) s h r = r := rfl
@[simp] theorem r_dnew  (r : RE) : rdv (.dnew) s h r = r := rfl
@[simp] theorem r_dget (v0 : E) (v1 : E) (v2 : E) (r : RE) : rdv (.dget v0 v1 v2) s h r = r := rfl
@[simp] theorem r_exf (v0 : Nat) (r : RE) : rdv (.exf v0) s h r = r := rfl
@[simp] theorem r_rnew (v0 : E) (r : RE) : rdv (.rnew v0) s h r = r := rfl
@[simp] theorem r_outc (v0 : Nat) (v1 : Nat) (v2 : List Nat) (v3 : E) (r : RE) : rdv (.outc v0 v1 v2 v3) s h r = r := rfl
@[simp] theorem r_mke (v0 : Nat) (v1 : Bool) (v2 : E) (r : RE) : rdv (.mke v0 v1 v2) s h r = r := rfl
@[simp] theorem r_ise (v0 : List Bool) (v1 : E) (r : RE) : rdv (.ise v0 v1) s h r = r := rfl
@[simp] theorem r_exg (v0 : List (Nat × Nat)) (v1 : E) (r : RE) : rdv (.exg v0 v1) s h r = r := rfl
@[simp] theorem r_kin (v0 : E) (v1 : E) (r : RE) : rdv (.kin v0 v1) s h r = r := rfl
@[simp] theorem v_lit (d : D) (_s : Sl) (h : RH) : ev Φ x (.lit d) _s h = .ok (.fz d) h := rfl
@[simp] theorem v_var (i : Nat) (s : Sl) (h : RH) : ev Φ x (.var i) s h = vr1 (getT s i) h := by show (match getT s i with | .fz d => RE.ok (.fz d) h | _ => .bad "var") = vr1 (getT s i) h; unfold vr1; cases getT s i <;> rfl
@[simp] theorem v_vr (_u0 : Nat) (_s : Sl) (_h : RH) : ev Φ x (.vr _u0) _s _h = .bad "vr" := rfl
@[simp] theorem v_nil  (_s : Sl) (h : RH) : ev Φ x (.nil) _s h = .ok (.fz (.tup [])) h := rfl
@[simp] theorem v_cons (a : E) (b : E) (s : Sl) (h : RH) : ev Φ x (.cons a b) s h = (ev Φ x a s h).bind fun t h => (ev Φ x b s h).row fun r h => .ok (.fz (.tup (t.d :: r))) h := rfl
@[simp] theorem v_tup (a : E) (s : Sl) (h : RH) : ev Φ x (.tup a) s h = ev Φ x a s h := rfl
@[simp] theorem v_lst (a : E) (s : Sl) (h : RH) : ev Φ x (.lst a) s h = (ev Φ x a s h).row fun r h => .ok (mkL r) h := rfl
@[simp] theorem v_bin (o : Bop) (a : E) (b : E) (s : Sl) (h : RH) : ev Φ x (.bin o a b) s h = (rdv a s h (ev Φ x a s h)).bind fun t h => (rdv b s h (ev Φ x b s h)).bind fun u h => optE (bin o t.d u.d) h := rfl
@[simp] theorem v_neg (a : E) (s : Sl) (h : RH) : ev Φ x (.neg a) s h = (ev Φ x a s h).int fun i h => .ok (.fz (.int (-i))) h := rfl
@[simp] theorem v_nt (a : E) (s : Sl) (h : RH) : ev Φ x (.nt a) s h = (ev Φ x a s h).test fun b h => .ok (.fz (.bl (!b))) h := rfl
@[simp] theorem v_and_ (a : E) (b : E) (s : Sl) (h : RH) : ev Φ x (.and_ a b) s h = (ev Φ x a s h).test fun c h => match c with
    | true => (ev Φ x b s h).test fun b h => .ok (.fz (.bl b)) h
    | false => .ok (.fz (.bl false)) h := rfl
@[simp] theorem v_or_ (a : E) (b : E) (s : Sl) (h : RH) : ev Φ x (.or_ a b) s h = (ev Φ x a s h).test fun c h => match c with
    | true => .ok (.fz (.bl true)) h
    | false => (ev Φ x b s h).test fun b h => .ok (.fz (.bl b)) h := rfl
@[simp] theorem v_ife (c : E) (a : E) (b : E) (s : Sl) (h : RH) : ev Φ x (.ife c a b) s h = (ev Φ x c s h).test fun c h => match c with
    | true => ev Φ x a s h
    | false => ev Φ x b s h := rfl
@[simp] theorem v_cmp (o : Cop) (a : E) (b : E) (s : Sl) (h : RH) : ev Φ x (.cmp o a b) s h = (rdv a s h (ev Φ x a s h)).bind fun t h => (rdv b s h (ev Φ x b s h)).bind fun u h => optE (cmpT o t.d u.d) h := rfl
@[simp] theorem v_chn (o : Cop) (p : Cop) (a : E) (b : E) (c : E) (s : Sl) (h : RH) : ev Φ x (.chn o p a b c) s h = (rdv a s h (ev Φ x a s h)).bind fun t h => (rdv b s h (ev Φ x b s h)).bind fun u h => match cmp o t.d u.d with
    | some true => (rdv c s h (ev Φ x c s h)).bind fun v h => optE (cmpT p u.d v.d) h
    | some false => .ok (.fz (.bl false)) h
    | none => .bad "chn" := rfl
@[simp] theorem v_idx (a : E) (i : E) (s : Sl) (h : RH) : ev Φ x (.idx a i) s h = (rdv a s h (ev Φ x a s h)).bind fun t h => (ev Φ x i s h).int fun i h => optE ((idxD t.d i h).map .fz) h := rfl
@[simp] theorem v_slc (a : E) (lo : E) (hi : E) (s : Sl) (h : RH) : ev Φ x (.slc a lo hi) s h = (rdv a s h (ev Φ x a s h)).bind fun t h => (ev Φ x lo s h).part fun u h => (ev Φ x hi s h).part fun v h => optE (slcD t.d u v) h := rfl
@[simp] theorem v_rev (a : E) (s : Sl) (h : RH) : ev Φ x (.rev a) s h = (rdv a s h (ev Φ x a s h)).bind fun t h => optE (revD t.d) h := rfl
@[simp] theorem v_call (f : Nat) (es : E) (s : Sl) (h : RH) : ev Φ x (.call f es) s h = (ev Φ x es s h).row fun xs h => Φ f xs h := rfl
@[simp] theorem v_callB (f : Nat) (a : E) (i : Nat) (fst : Bool) (s : Sl) (h : RH) : ev Φ x (.callB f a i fst) s h = (ev Φ x a s h).frz.bind fun t h => if norf t.d && norfT (getT s i) then (lent (Φ f (if fst then [(getT s i).d, t.d] else [t.d, (getT s i).d]) [])).bind fun t _ => .ok t h else .bad "callB" := rfl
@[simp] theorem v_clo (f : Nat) (vs : List Nat) (s : Sl) (h : RH) : ev Φ x (.clo f vs) s h = .ok (.fz (.clo f (vs.map fun i => (getT s i).d))) h := rfl
@[simp] theorem v_cc (a : E) (es : E) (s : Sl) (h : RH) : ev Φ x (.cc a es) s h = (ev Φ x a s h).bind fun t h => match t with
    | .fz (.clo f env) => (ev Φ x es s h).row fun xs h => Φ f (env ++ xs) h
    | _ => .bad "cc" := rfl
@[simp] theorem v_callT (rows : List (List Nat × Nat)) (a : E) (es : E) (s : Sl) (h : RH) : ev Φ x (.callT rows a es) s h = (ev Φ x a s h).bind fun t h => match t with
    | .fz (.str w) => match rows.lookup w with
      | some f => (ev Φ x es s h).row fun xs h => Φ f xs h
      | none => .bad "callT"
    | _ => .bad "callT" := rfl
@[simp] theorem v_sidx (rows : List (List Nat × D)) (a : E) (s : Sl) (h : RH) : ev Φ x (.sidx rows a) s h = (ev Φ x a s h).bind fun t h => match t with
    | .fz (.str w) => optE ((rows.lookup w).map .fz) h
    | _ => .bad "sidx" := rfl
@[simp] theorem v_sin (rows : List (List Nat × D)) (a : E) (s : Sl) (h : RH) : ev Φ x (.sin rows a) s h = (ev Φ x a s h).bind fun t h => match t with
    | .fz (.str w) => .ok (.fz (.bl (rows.lookup w).isSome)) h
    | _ => .bad "sin" := rfl
@[simp] theorem v_new (c : Nat) (f : Nat) (n : Nat) (es : E) (s : Sl) (h : RH) : ev Φ x (.new c f n es) s h = (ev Φ x es s h).row fun xs h => (Φ f (.ref h.length :: xs) (h ++ [.ins c (List.replicate n .un)])).bind fun _ h' => .ok (.fz (.ref h.length)) h' := rfl
@[simp] theorem v_fget (o : E) (i : Nat) (s : Sl) (h : RH) : ev Φ x (.fget o i) s h = (ev Φ x o s h).bind fun t h => match t with
    | .fz (.ref n) => match h[n]? with
      | some (.ins _ fs) => match getT fs i with
        | .un => .bad "fget"
        | t => .ok t h
      | _ => .bad "fget"
    | _ => .bad "fget" := rfl
@[simp] theorem v_b1 (o : B1) (a : E) (s : Sl) (h : RH) : ev Φ x (.b1 o a) s h = (rdv a s h (ev Φ x a s h)).bind fun t h => optE (b1 o t) h := rfl
@[simp] theorem v_b2 (o : B2) (a : E) (b : E) (s : Sl) (h : RH) : ev Φ x (.b2 o a b) s h = (rdv a s h (ev Φ x a s h)).bind fun t h => (rdv b s h (ev Φ x b s h)).bind fun u h => optE (b2 o t u) h := rfl
@[simp] theorem v_isin (t : Ty) (a : E) (s : Sl) (h : RH) : ev Φ x (.isin t a) s h = (rdv a s h (ev Φ x a s h)).bind fun u h => optB (isTy t u.d) h := rfl
@[simp] theorem v_comp (tg : List Nat) (it : E) (c : E) (e : E) (s : Sl) (h : RH) : ev Φ x (.comp tg it c e) s h = (rdv it s h (ev Φ x it s h)).its fun xs h => compGo (tgOf tg) (unT tg s) (ev Φ x c) (ev Φ x e) xs 0 [] h := rfl
@[simp] theorem v_comp2 (tg : List Nat) (it : E) (c : E) (tg2 : List Nat) (it2 : E) (c2 : E) (e : E) (s : Sl) (h : RH) : ev Φ x (.comp2 tg it c tg2 it2 c2 e) s h = (rdv it s h (ev Φ x it s h)).its fun xs h =>
      comp2Go (tgOf tg) (unT (tg ++ tg2) s) (ev Φ x c) (fun s n acc h => (rdv it2 s h (ev Φ x it2 s h)).its fun ys h => compGo (tgOf tg2) (unT tg2 s) (ev Φ x c2) (ev Φ x e) ys n acc h) xs 0 [] h := rfl
@[simp] theorem v_rng (a : E) (b : E) (s : Sl) (h : RH) : ev Φ x (.rng a b) s h = (ev Φ x a s h).int fun i h => (ev Φ x b s h).int fun j h => if sm i && sm j then .ok (.it (rangeD i (j - i).toNat)) h else .bad "range" := rfl
@[simp] theorem v_enu (a : E) (s : Sl) (h : RH) : ev Φ x (.enu a) s h = (rdv a s h (ev Φ x a s h)).its fun xs h => .ok (.it (enumD 0 xs)) h := rfl
@[simp] theorem v_zip (st : Bool) (a : E) (b : E) (s : Sl) (h : RH) : ev Φ x (.zip st a b) s h = (rdv a s h (ev Φ x a s h)).its fun xs h => (rdv b s h (ev Φ x b s h)).its fun ys h => if st && xs.length != ys.length then .bad "strict" else .ok (.it (zipD xs ys)) h := rfl
@[simp] theorem v_dnew  (_s : Sl) (h : RH) : ev Φ x (.dnew) _s h = .ok (.oD []) h := rfl
@[simp] theorem v_dget (a : E) (k : E) (d : E) (s : Sl) (h : RH) : ev Φ x (.dget a k d) s h = (rdv a s h (ev Φ x a s h)).bind fun t h => match t.d with
    | .dct kvs => (ev Φ x k s h).int fun i h => (ev Φ x d s h).frz.bind fun v h => .ok (.fz ((lookK i kvs).getD v.d)) h
    | _ => .bad "dget" := rfl
@[simp] theorem v_exf (i : Nat) (_s : Sl) (h : RH) : ev Φ x (.exf i) _s h = optE ((x[i]?).map .fz) h := rfl
@[simp] theorem v_rnew (es : E) (s : Sl) (h : RH) : ev Φ x (.rnew es) s h = (ev Φ x es s h).row fun xs h => .ok (.fz (.ref h.length)) (h ++ [.lst xs]) := rfl
@[simp] theorem v_outc (c : Nat) (k : Nat) (w : List Nat) (e : E) (s : Sl) (h : RH) : ev Φ x (.outc c k w e) s h = if tabAt k h then told c w (ev Φ x e s h) else .bad "tab" := rfl
@[simp] theorem v_mke (c : Nat) (rv : Bool) (es : E) (s : Sl) (h : RH) : ev Φ x (.mke c rv es) s h = (ev Φ x es s h).row fun xs h => .ok (.fz (.clo c (if rv then xs.reverse else xs))) h := rfl
@[simp] theorem v_ise (rows : List Bool) (a : E) (s : Sl) (h : RH) : ev Φ x (.ise rows a) s h = (rdv a s h (ev Φ x a s h)).bind fun t h => match t with
    | .fz (.clo c _) => optE ((rows[c]?).map fun b => .fz (.bl b)) h
    | _ => .bad "ise" := rfl
@[simp] theorem v_exg (rows : List (Nat × Nat)) (a : E) (s : Sl) (h : RH) : ev Φ x (.exg rows a) s h = (rdv a s h (ev Φ x a s h)).bind fun t h => match t with
    | .fz (.clo c xs) => optE (((rows.lookup c).bind fun i => xs[i]?).map .fz) h
    | _ => .bad "exg" := rfl
@[simp] theorem v_kin (a : E) (b : E) (s : Sl) (h : RH) : ev Φ x (.kin a b) s h = (rdv a s h (ev Φ x a s h)).bind fun t h => (rdv b s h (ev Φ x b s h)).bind fun u h => optE (kinT t.d u.d) h := rfl
@[simp] theorem x_skip  (s : Sl) (h : RH) : ex Φ x (.skip) s h = .nx s h := by first | rfl | (rw [ex])
@[simp] theorem x_seq (a : S) (b : S) (s : Sl) (h : RH) : ex Φ x (.seq a b) s h = (ex Φ x a s h).nxt fun s h => ex Φ x b s h := by first | rfl | (rw [ex])
@[simp] theorem x_set (i : Nat) (e : E) (s : Sl) (h : RH) : ex Φ x (.set i e) s h = (ev Φ x e s h).go s fun t h => .nx (setT s i t) h := by first | rfl | (rw [ex])
@[simp] theorem x_setf (i : Nat) (e : E) (s : Sl) (h : RH) : ex Φ x (.setf i e) s h = (ev Φ x e s h).frz.go s fun t h => .nx (setT s i t) h := by first | rfl | (rw [ex])
@[simp] theorem x_asg (g : Tg) (e : E) (s : Sl) (h : RH) : ex Φ x (.asg g e) s h = (ev Φ x e s h).frz.go s fun t h => match bindT g t.d s with | some s => .nx s h | none => .bad "asg" := by first | rfl | (rw [ex])
@[simp] theorem x_par (is : List (Nat × Bool)) (es : List E) (s : Sl) (h : RH) : ex Φ x (.par is es) s h = parGo Φ x s is es s h := by first | rfl | (rw [ex])
@[simp] theorem x_frz (i : Nat) (s : Sl) (h : RH) : ex Φ x (.frz i) s h = match getT s i with
    | .un => .bad "frz"
    | t => .nx (setT s i (.fz t.d)) h := by first | rfl | (rw [ex])
@[simp] theorem x_mov (i : Nat) (j : Nat) (s : Sl) (h : RH) : ex Φ x (.mov i j) s h = match getT s j with
    | .un => .bad "mov"
    | t => .nx (setT (setT s j .un) i t) h := by first | rfl | (rw [ex])
@[simp] theorem x_retm (i : Nat) (s : Sl) (h : RH) : ex Φ x (.retm i) s h = match getT s i with
    | .un => .bad "retm"
    | t => .ret t h := by first | rfl | (rw [ex])
@[simp] theorem x_ret (e : E) (s : Sl) (h : RH) : ex Φ x (.ret e) s h = (ev Φ x e s h).go s fun t h => .ret t h := by first | rfl | (rw [ex])
@[simp] theorem x_app (i : Nat) (e : E) (s : Sl) (h : RH) : ex Φ x (.app i e) s h = match getT s i with
    | .oL n rs => (ev Φ x e s h).frz.go s fun t h => if Nat.blt n line then .nx (setT s i (.oL (n + 1) (t.d :: rs))) h else .bad "line"
    | _ => .bad "app" := by first | rfl | (rw [ex])
@[simp] theorem x_ext (i : Nat) (e : E) (s : Sl) (h : RH) : ex Φ x (.ext i e) s h = match getT s i with
    | .oL n rs => (rdv e s h (ev Φ x e s h)).go s fun t h => match items t with
      | some xs => if okN (n + xs.length) then .nx (setT s i (.oL (n + xs.length) (xs.reverse ++ rs))) h else .bad "line"
      | none => .bad "ext"
    | _ => .bad "ext" := by first | rfl | (rw [ex])
@[simp] theorem x_popi (i : Nat) (j : Nat) (s : Sl) (h : RH) : ex Φ x (.popi i j) s h = match getT s j with
    | .oL (n + 1) (d :: rs) => .nx (setT (setT s j (.oL n rs)) i (.fz d)) h
    | _ => .bad "pop" := by first | rfl | (rw [ex])
@[simp] theorem x_dput (i : Nat) (kk : E) (v : E) (s : Sl) (h : RH) : ex Φ x (.dput i kk v) s h = match getT s i with
    | .oD kvs => (ev Φ x v s h).frz.go s fun t h => (ev Φ x kk s h).go s fun u h => match u with
      | .fz (.int a) => if Nat.blt kvs.length line then .nx (setT s i (.oD (putK a t.d kvs))) h else .bad "dput"
      | _ => .bad "dput"
    | _ => .bad "dput" := by first | rfl | (rw [ex])
@[simp] theorem x_rput (o : E) (kk : E) (v : E) (s : Sl) (h : RH) : ex Φ x (.rput o kk v) s h = (ev Φ x v s h).frz.go s fun t h => (ev Φ x o s h).go s fun u h => (ev Φ x kk s h).go s fun w h => match u, w with
    | .fz (.ref n), .fz (.int a) => match h[n]? with
      | some (.lst xs) => match ixN xs.length a with
        | some j => .nx s (setOb h n (.lst (setD xs j t.d)))
        | none => .bad "rput"
      | _ => .bad "rput"
    | _, _ => .bad "rput" := by first | rfl | (rw [ex])
@[simp] theorem x_dapp (i : Nat) (kk : E) (v : E) (s : Sl) (h : RH) : ex Φ x (.dapp i kk v) s h = (ev Φ x v s h).go s fun t h => (ev Φ x kk s h).go s fun u h => match u, getT s i with
    | .fz (.int a), .oD kvs => match lookK a kvs with
      | some (.lst xs) => .nx (setT s i (.oD (putK a (.lst (xs ++ [t.d])) kvs))) h
      | _ => .bad "dapp"
    | _, _ => .bad "dapp" := by first | rfl | (rw [ex])
@[simp] theorem x_fput (o : E) (i : Nat) (own : Bool) (e : E) (s : Sl) (h : RH) : ex Φ x (.fput o i own e) s h = (ev Φ x e s h).go s fun t h => (ev Φ x o s h).go s fun u h => match u with
    | .fz (.ref n) => match h[n]? with
      | some (.ins c fs) => .nx s (setOb h n (.ins c (setT fs i (if own then t else .fz t.d))))
      | _ => .bad "fput"
    | _ => .bad "fput" := by first | rfl | (rw [ex])
@[simp] theorem x_fapp (o : E) (i : Nat) (e : E) (s : Sl) (h : RH) : ex Φ x (.fapp o i e) s h = (ev Φ x o s h).go s fun u h => (ev Φ x e s h).go s fun t h => match u with
    | .fz (.ref n) => match h[n]? with
      | some (.ins c fs) => match getT fs i with
        | .oL m rs => .nx s (setOb h n (.ins c (setT fs i (.oL (m + 1) (t.d :: rs)))))
        | _ => .bad "fapp"
      | _ => .bad "fapp"
    | _ => .bad "fapp" := by first | rfl | (rw [ex])
@[simp] theorem x_ifs (c : E) (a : S) (b : S) (s : Sl) (h : RH) : ex Φ x (.ifs c a b) s h = (ev Φ x c s h).go s fun t h => match t with
    | .fz (.bl true) => ex Φ x a s h
    | .fz (.bl false) => ex Φ x b s h
    | _ => .bad "ifs" := by first | rfl | (rw [ex])
@[simp] theorem x_for_ (g : Tg) (it : E) (b : S) (s : Sl) (h : RH) : ex Φ x (.for_ g it b) s h = (ev Φ x it s h).go s fun t h => match items t with
    | some xs => forGo g (ex Φ x b) xs s h
    | none => .bad "for" := by first | rfl | (rw [ex])
@[simp] theorem x_whl (c : E) (b : S) (s : Sl) (h : RH) : ex Φ x (.whl c b) s h = whlGo (ev Φ x c) (ex Φ x b) 1000000 s h := by first | rfl | (rw [ex])
@[simp] theorem x_rais (c : Nat) (es : E) (s : Sl) (h : RH) : ex Φ x (.rais c es) s h = (ev Φ x es s h).go s fun t h => match t with
    | .fz (.tup xs) => .exc c xs s h
    | _ => .bad "raise" := by first | rfl | (rw [ex])
@[simp] theorem x_try_ (b : S) (hs : S) (s : Sl) (h : RH) : ex Φ x (.try_ b hs) s h = match ex Φ x b s h with
    | .exc c xs s h => exh Φ c xs hs s h
    | e => e := by first | rfl | (rw [ex])
@[simp] theorem x_aug (i : Nat) (e : E) (s : Sl) (h : RH) : ex Φ x (.aug i e) s h = match getT s i with
    | .fz (.int a) => (ev Φ x e s h).go s fun t h => match t with
      | .fz (.int b) => .nx (setT s i (.fz (.int (a + b)))) h
      | _ => .bad "aug"
    | _ => .bad "aug" := by first | rfl | (rw [ex])
@[simp] theorem x_exp (e : E) (s : Sl) (h : RH) : ex Φ x (.exp e) s h = (ev Φ x e s h).go s fun _ h => .nx s h := by first | rfl | (rw [ex])
end
end Ma
set_option maxHeartbeats 4000000
/-! Data of few nodes, whose ints are short, can be shown: with lists, or with the empty dict. -/
namespace Ma
mutual
/-- ints below 10 ^ k, depth at most n; e: with the empty dict, without lists -/
def okl (e : Bool) (k : Nat) : Nat → D → Bool
  | _, .non => true
  | _, .bl _ => true
  | _, .int i => decide (i.natAbs < 10 ^ k)
  | _, .str s => Nat.ble s.length 8 && s.all fun c => Nat.blt c 1114112
  | n + 1, .tup xs => okls e k n xs
  | n + 1, .lst xs => !e && okls e k n xs
  | _ + 1, .dct [] => e
  | _, _ => false
def okls (e : Bool) (k : Nat) : Nat → List D → Bool
  | _, [] => true
  | n, x :: r => okl e k n x && okls e k n r
end
mutual
/-- how many nodes -/
def nds : D → Nat
  | .tup xs => ndss xs + 1
  | .lst xs => ndss xs + 1
  | _ => 1
def ndss : List D → Nat
  | [] => 0
  | x :: r => nds x + ndss r
end
theorem okls_cons {e : Bool} {k n : Nat} {x : D} {r : List D} : okls e k n (x :: r) = (okl e k n x && okls e k n r) := by cases n <;> rfl
theorem okls_iff {e : Bool} {k n : Nat} : ∀ {xs : List D}, okls e k n xs = true ↔ ∀ x ∈ xs, okl e k n x = true
  | [] => by cases n <;> simp [okls]
  | x :: r => by rw [okls_cons, Bool.and_eq_true, okls_iff (xs := r)]; simp
mutual
theorem okl_more {e : Bool} {k : Nat} : ∀ (d : D) (n m : Nat), n ≤ m → okl e k n d = true → okl e k m d = true
  | .non, _, m, _, _ => by cases m <;> rfl
  | .bl _, _, m, _, _ => by cases m <;> rfl
  | .int _, n, m, _, h => by cases n <;> cases m <;> exact h
  | .str _, n, m, _, h => by cases n <;> cases m <;> exact h
  | .tup xs, n + 1, m + 1, le, h => okls_more xs n m (by omega) h
  | .lst xs, n + 1, m + 1, le, h => by
    rw [okl, Bool.and_eq_true] at h ⊢
    exact ⟨h.1, okls_more xs n m (by omega) h.2⟩
  | .dct [], n + 1, m + 1, _, h => h
  | .tup _, 0, _, _, h => nomatch h
  | .lst _, 0, _, _, h => nomatch h
  | .dct [], 0, _, _, h => nomatch h
  | .tup _, n + 1, 0, le, _ => by omega
  | .lst _, n + 1, 0, le, _ => by omega
  | .dct [], n + 1, 0, le, _ => by omega
  | .dct (_ :: _), n, _, _, h => by cases n <;> exact nomatch h
  | .kst _, n, _, _, h => by cases n <;> exact nomatch h
  | .ref _, n, _, _, h => by cases n <;> exact nomatch h
  | .clo _ _, n, _, _, h => by cases n <;> exact nomatch h
theorem okls_more {e : Bool} {k : Nat} : ∀ (xs : List D) (n m : Nat), n ≤ m → okls e k n xs = true → okls e k m xs = true
  | [], _, m, _, _ => by cases m <;> rfl
  | x :: r, n, m, le, h => by
    rw [okls_cons, Bool.and_eq_true] at h ⊢
    exact ⟨okl_more x n m le h.1, okls_more r n m le h.2⟩
end
mutual
theorem okl_flat {k : Nat} : ∀ (d : D) (n : Nat), okl false k n d = true → flatN n d = true
  | .non, n, _ => by cases n <;> rfl
  | .bl _, n, _ => by cases n <;> rfl
  | .int _, n, _ => by cases n <;> rfl
  | .str s, n, h => by
    have e : okl false k n (.str s) = (Nat.ble s.length 8 && s.all fun c => Nat.blt c 1114112) := by cases n <;> rfl
    rw [e, Bool.and_eq_true] at h
    cases n <;> exact h.2
  | .tup xs, n + 1, h => okls_flat xs n h
  | .lst xs, n + 1, h => okls_flat xs n h
  | .tup _, 0, h => nomatch h
  | .lst _, 0, h => nomatch h
  | .dct [], n, h => by cases n <;> exact nomatch h
  | .dct (_ :: _), n, h => by cases n <;> exact nomatch h
  | .kst _, n, h => by cases n <;> exact nomatch h
  | .ref _, n, h => by cases n <;> exact nomatch h
  | .clo _ _, n, h => by cases n <;> exact nomatch h
theorem okls_flat {k : Nat} : ∀ (xs : List D) (n : Nat), okls false k n xs = true → flatsN n xs = true
  | [], n, _ => by cases n <;> rfl
  | x :: r, n, h => by
    rw [okls_cons, Bool.and_eq_true] at h
    have e2 : flatsN n (x :: r) = (flatN n x && flatsN n r) := by cases n <;> rfl
    rw [e2, Bool.and_eq_true]
    exact ⟨okl_flat x n h.1, okls_flat r n h.2⟩
end
mutual
theorem okl_shw {k : Nat} : ∀ (d : D) (n : Nat), okl true k n d = true → shwN n d = true
  | .non, n, _ => by cases n <;> rfl
  | .bl _, n, _ => by cases n <;> rfl
  | .int _, n, _ => by cases n <;> rfl
  | .str s, n, h => by
    have e : okl true k n (.str s) = (Nat.ble s.length 8 && s.all fun c => Nat.blt c 1114112) := by cases n <;> rfl
    rw [e, Bool.and_eq_true] at h
    cases n <;> exact h.2
  | .tup xs, n + 1, h => okls_shw xs n h
  | .lst xs, n, h => by cases n <;> exact nomatch h
  | .tup _, 0, h => nomatch h
  | .dct [], n + 1, h => rfl
  | .dct [], 0, h => nomatch h
  | .dct (_ :: _), n, h => by cases n <;> exact nomatch h
  | .kst _, n, h => by cases n <;> exact nomatch h
  | .ref _, n, h => by cases n <;> exact nomatch h
  | .clo _ _, n, h => by cases n <;> exact nomatch h
theorem okls_shw {k : Nat} : ∀ (xs : List D) (n : Nat), okls true k n xs = true → shwsN n xs = true
  | [], n, _ => by cases n <;> rfl
  | x :: r, n, h => by
    rw [okls_cons, Bool.and_eq_true] at h
    have e2 : shwsN n (x :: r) = (shwN n x && shwsN n r) := by cases n <;> rfl
    rw [e2, Bool.and_eq_true]
    exact ⟨okl_shw x n h.1, okls_shw r n h.2⟩
end
section
open PySem
theorem int_ok_k {k : Nat} {i : Int} (hk : k ≤ 400) (k0 : 0 < k) (h : i.natAbs < 10 ^ k) : (PyData.int i).leavesShort (k + 8) = true ∧ (PyData.int i).showable = true ∧ (PyData.int i).weight ≤ 4 * k := by
  have l : i.natAbs ≠ 0 → i.natAbs.log2 < 4 * k := fun z => by
    have : (10 : Nat) ^ k ≤ 16 ^ k := Nat.pow_le_pow_left (by decide) k
    have e : (16 : Nat) ^ k = 2 ^ (4 * k) := by rw [show (16 : Nat) = 2 ^ 4 from rfl, ← Nat.pow_mul]
    exact (Nat.log2_lt z).mpr (by omega)
  refine ⟨?_, ?_, ?_⟩
  · show decide _ = true
    have e := int_text_length_le10 (k := k) k0 h
    refine decide_eq_true ?_
    show (Str.ofString (toString i)).length ≤ k + 8
    rw [ofString_length]
    omega
  · show decide _ = true
    refine decide_eq_true ?_
    by_cases z : i.natAbs = 0
    · rw [z]; decide
    · have := l z; omega
  · show (if i == 0 then 0 else i.natAbs.log2 + 1) ≤ 4 * k
    split
    · omega
    · rename_i z
      have : i.natAbs ≠ 0 := fun y => z (by simpa using y)
      have := l this; omega
mutual
theorem okl_py {e : Bool} {k : Nat} (hk : k ≤ 400) (k2 : 2 ≤ k) : ∀ (d : D) (n : Nat), okl e k n d = true → (pyD d).leavesShort (k + 8) = true ∧ (pyD d).showable = true ∧ (pyD d).weight + 1 ≤ (4 * k + 1) * nds d
  | .non, n, _ => ⟨rfl, rfl, by show 0 + 1 ≤ (4 * k + 1) * 1; omega⟩
  | .bl _, n, _ => ⟨rfl, rfl, by show 0 + 1 ≤ (4 * k + 1) * 1; omega⟩
  | .int i, n, h => by
    have e : okl e k n (.int i) = decide (i.natAbs < 10 ^ k) := by cases n <;> rfl
    rw [e, decide_eq_true_eq] at h
    obtain ⟨a, c, d⟩ := int_ok_k hk (by omega) h
    exact ⟨a, c, by show (PyData.int i).weight + 1 ≤ (4 * k + 1) * 1; omega⟩
  | .str s, n, h => by
    have e : okl e k n (.str s) = (Nat.ble s.length 8 && s.all fun c => Nat.blt c 1114112) := by cases n <;> rfl
    rw [e, Bool.and_eq_true, Nat.ble_eq, List.all_eq_true] at h
    refine ⟨?_, rfl, ?_⟩
    · show (s.toArray.toList.all fun c => decide (c < 16 ^ 8)) = true
      rw [List.all_eq_true]
      intro c hc
      have := h.2 c (by simpa using hc)
      simp only [Nat.blt_eq] at this
      exact decide_eq_true (by omega)
    · show s.toArray.size + 1 ≤ (4 * k + 1) * 1
      rw [List.size_toArray]; omega
  | .tup xs, n + 1, h => by
    obtain ⟨a, c, d⟩ := okls_py hk k2 xs n h
    refine ⟨a, c, ?_⟩
    show PyData.weightAll (pyDs xs) + 1 ≤ (4 * k + 1) * (ndss xs + 1)
    rw [Nat.mul_succ]; omega
  | .lst xs, n + 1, h => by
    rw [okl, Bool.and_eq_true] at h
    obtain ⟨a, c, d⟩ := okls_py hk k2 xs n h.2
    refine ⟨a, c, ?_⟩
    show PyData.weightAll (pyDs xs) + 1 ≤ (4 * k + 1) * (ndss xs + 1)
    rw [Nat.mul_succ]; omega
  | .tup _, 0, h => nomatch h
  | .lst _, 0, h => nomatch h
  | .dct [], n, _ => ⟨rfl, rfl, by show 0 + 1 ≤ (4 * k + 1) * 1; omega⟩
  | .dct (_ :: _), n, h => by cases n <;> exact nomatch h
  | .kst _, n, h => by cases n <;> exact nomatch h
  | .ref _, n, h => by cases n <;> exact nomatch h
  | .clo _ _, n, h => by cases n <;> exact nomatch h
theorem okls_py {e : Bool} {k : Nat} (hk : k ≤ 400) (k2 : 2 ≤ k) : ∀ (xs : List D) (n : Nat), okls e k n xs = true → PyData.leavesShortAll (k + 8) (pyDs xs) = true ∧ PyData.showableAll (pyDs xs) = true ∧ PyData.weightAll (pyDs xs) ≤ (4 * k + 1) * ndss xs
  | [], n, _ => ⟨rfl, rfl, by simp [pyDs, PyData.weightAll]⟩
  | x :: r, n, h => by
    rw [okls_cons, Bool.and_eq_true] at h
    obtain ⟨a1, c1, d1⟩ := okl_py hk k2 x n h.1
    obtain ⟨a2, c2, d2⟩ := okls_py hk k2 r n h.2
    refine ⟨?_, ?_, ?_⟩
    · show (PyData.leavesShort (k + 8) (pyD x) && PyData.leavesShortAll (k + 8) (pyDs r)) = true
      rw [a1, a2]; rfl
    · show (PyData.showable (pyD x) && PyData.showableAll (pyDs r)) = true
      rw [c1, c2]; rfl
    · show PyData.weight (pyD x) + 1 + PyData.weightAll (pyDs r) ≤ (4 * k + 1) * (nds x + ndss r)
      rw [Nat.mul_add]; omega
end
theorem okl_okTxt {e : Bool} {k n : Nat} {d : D} (h : okl e k n d = true) (hk : k ≤ 400) (k2 : 2 ≤ k) (hn : n ≤ 60) (few : (k + 10) * ((4 * k + 1) * nds d) + (k + 8) ≤ 16777216) : okTxt d = true := by
  obtain ⟨a, c, w⟩ := okl_py hk k2 d n h
  have f := PyData.shown_le (k + 8) (by omega) (pyD d) a
  have g : (k + 8 + 2) * (pyD d).weight ≤ (k + 10) * ((4 * k + 1) * nds d) := Nat.mul_le_mul (by omega) (by omega)
  unfold okTxt
  rw [Bool.and_eq_true, Bool.and_eq_true]
  have h' := okl_more d n 60 hn h
  refine ⟨?_, c, ?_⟩
  · cases e with
    | false => rw [show flat d = true from okl_flat d 60 h']; rfl
    | true => rw [okl_shw d 60 h', Bool.or_true]
  · rw [Nat.ble_eq]
    show (pyD d).shown.cps.toList.length ≤ 16777216
    rw [Array.length_toList]
    show (pyD d).shown.length ≤ 16777216
    omega
end
end Ma
set_option maxHeartbeats 4000000
namespace Lk01
open Ma Xk01
/-- neither an object nor a table -/
def pl : D → Bool
  | .ref _ => false
  | .clo _ _ => false
  | .kst _ => false
  | _ => true
theorem okl_pl {e : Bool} {k n : Nat} {v : D} (h : okl e k n v = true) : pl v = true := by
  cases v with
  | ref _ => cases n <;> exact nomatch h
  | clo _ _ => cases n <;> exact nomatch h
  | kst _ => cases n <;> exact nomatch h
  | _ => rfl
def isT : D → Bool
  | .tup _ => true
  | _ => false
theorem ty_tup {v : D} (h : pl v = true) : isTy .tuple v = some (isT v) := by cases v <;> first | rfl | exact nomatch h
/-- an int between bounds -/
def wh (lo hi : Int) : D → Bool
  | .int i => decide (lo ≤ i) && decide (i ≤ hi)
  | _ => false
section
variable {n : Nat} {h : RH}
theorem whole_ok {v : D} (p : pl v = true) (lo hi : Int) : runs ds (n + 1) 4 [v, .int lo, .int hi] h = .ok (.fz (.bl (wh lo hi v))) h := by
  refine run_ret (d := d4) rfl rfl ?_
  cases v with
  | int i =>
    simp [d4, isTy, wh]
    cases c : decide (lo ≤ i) <;> simp [cmp, cLe, c]
  | ref _ => exact nomatch p
  | clo _ _ => exact nomatch p
  | kst _ => exact nomatch p
  | _ => simp [d4, isTy, wh]
theorem whole_ok' {v : D} (p : pl v = true) (lo hi : Int) : runs ds (n + 1) 15 [v, .int lo, .int hi] h = .ok (.fz (.bl (wh lo hi v))) h := by
  refine run_ret (d := d15) rfl rfl ?_
  cases v with
  | int i =>
    simp [d15, isTy, wh]
    cases c : decide (lo ≤ i) <;> simp [cmp, cLe, c]
  | ref _ => exact nomatch p
  | clo _ _ => exact nomatch p
  | kst _ => exact nomatch p
  | _ => simp [d15, isTy, wh]
/-- a tuple of so many parts -/
def isP (k : Int) : D → Bool
  | .tup xs => (xs.length : Int) == k
  | _ => false
theorem parts_ok {v : D} (p : pl v = true) (k : Int) : runs ds (n + 1) 5 [v, .int k] h = .ok (.fz (.bl (isP k v))) h := by
  refine run_ret (d := d5) rfl rfl ?_
  cases v with
  | ref _ => exact nomatch p
  | clo _ _ => exact nomatch p
  | kst _ => exact nomatch p
  | tup xs => simp [d5, isTy, isP]
  | _ => simp [d5, isTy, isP]
/-! ### comprehensions with a test -/
theorem comp_fil {Φ : Cal} {tg : Tg} {s : Sl} {fc fe : Sl → RH → RE} {h : RH} {c : D} {p : D → Bool} : ∀ (l : List D) (n m : Nat), n + l.length ≤ line → (∀ a ∈ l, ∃ s', bindT tg a s = some s' ∧ fc s' h = .ok (.fz (.bl (p a))) h ∧ fe s' h = .ok (.fz c) h) →
    ∃ m' : Nat, compGo tg s fc fe l n (List.replicate m c) h = .ok (.oL (n + m') (List.replicate (m' + m) c)) h ∧ (m' = 0 ↔ ∀ a ∈ l, p a = false)
  | [], n, m, _, _ => ⟨0, by simp [compGo], by simp⟩
  | a :: l, n, m, hl, hb => by
    obtain ⟨s', e1, e2, e3⟩ := hb a List.mem_cons_self
    simp only [List.length_cons] at hl
    have hlt : Nat.blt n line = true := by rw [Nat.blt_eq]; omega
    have hb' := fun b m => hb b (List.mem_cons_of_mem _ m)
    cases c1 : p a with
    | true =>
      obtain ⟨m', e, q⟩ := comp_fil (Φ := Φ) l (n + 1) (m + 1) (by omega) hb'
      refine ⟨m' + 1, ?_, by simp [c1]⟩
      rw [compGo, e1]
      simp only [e2, c1, RE.calm, RE.test, RE.bind, e3, RE.frz, fz_d, hlt, if_true]
      rw [← List.replicate_succ, e]
      congr 2
      · omega
      · congr 1; omega
    | false =>
      obtain ⟨m', e, q⟩ := comp_fil (Φ := Φ) l n m (by omega) hb'
      refine ⟨m', ?_, by simp [c1]; exact q⟩
      rw [compGo, e1]
      simp only [e2, c1, RE.calm, RE.test]
      exact e
theorem none_at (m : Nat) : cEq (.lst (List.replicate m (.int 1)).reverse) (.lst []) = some (decide (m = 0)) := by
  have e : (List.replicate m (D.int 1)).reverse = (List.replicate m (1 : Int)).map .int := by simp
  have f : flat (.lst ((List.replicate m (1 : Int)).map .int)) = true := flats_int 59 _
  rw [e]
  unfold cEq
  simp only [f, Bool.true_and, show flat (.lst []) = true from rfl, if_true]
  cases m with
  | zero => rfl
  | succ m => simp [List.replicate_succ, deq, deqs]
theorem cmp_eq {a b : D} {k : Bool} (e : cEq a b = some k) : cmpT .eq a b = some (.fz (.bl k)) := by
  have z : cmpT .eq a b = (cEq a b).map fun b => .fz (.bl b) := rfl
  rw [z, e]; rfl
theorem cmp_ne {a b : D} {k : Bool} (e : cEq a b = some k) : cmpT .ne a b = some (.fz (.bl (!k))) := by
  have z : cmpT .ne a b = ((cEq a b).map (!·)).map fun b => .fz (.bl b) := rfl
  rw [z, e]; rfl
theorem cmp_lt {a b : D} {k : Bool} (e : cLt a b = some k) : cmpT .lt a b = some (.fz (.bl k)) := by
  have z : cmpT .lt a b = (cLt a b).map fun b => .fz (.bl b) := rfl
  rw [z, e]; rfl
theorem none_eq (m : Nat) : cmpT .eq (.lst (List.replicate m (.int 1)).reverse) (.lst []) = some (.fz (.bl (decide (m = 0)))) := cmp_eq (none_at m)
theorem none_ne (m : Nat) : cmpT .ne (.lst (List.replicate m (.int 1)).reverse) (.lst []) = some (.fz (.bl (!decide (m = 0)))) := cmp_ne (none_at m)
end
end Lk01
set_option maxHeartbeats 4000000
namespace Lk01
open Ma Xk01
theorem okl_tup {e : Bool} {k n : Nat} {xs : List D} (h : okl e k n (.tup xs) = true) : ∃ m, ∀ x ∈ xs, okl e k m x = true := by
  cases n with
  | zero => exact nomatch h
  | succ n => exact ⟨n, okls_iff.mp h⟩
theorem allB_map {α : Type} (p : α → Bool) : ∀ l : List α, allB (l.map fun a => .bl (p a)) = some (l.all p)
  | [] => rfl
  | a :: l => by rw [List.map_cons, allB, allB_map p l]; rfl
def areT (m : Int) : D → Bool
  | .tup ts => ((ts.length : Int) == m) && ts.all (wh 0 29)
  | _ => false
section
variable {n : Nat} {h : RH} {e : Bool} {k j : Nat}
theorem things_ok {v : D} (o : okl e k j v = true) (few : ∀ ts, v = .tup ts → ts.length ≤ 1000000) (m : Int) : runs ds (n + 2) 6 [v, .int m] h = .ok (.fz (.bl (areT m v))) h := by
  refine run_ret (d := d6) rfl rfl ?_
  have p1 := parts_ok (n := n) (h := h) (okl_pl o) m
  simp only [d6]
  simp [p1]
  cases v with
  | tup ts =>
    obtain ⟨j', each⟩ := okl_tup o
    cases c : ((ts.length : Int) == m) with
    | false => simp [isP, areT, c]
    | true =>
      simp [isP, areT, c]
      rw [show ts = ts.map id by simp, comp_map (fun s h => v_lit ..) id (fun x => .bl (wh 0 29 x)) ts 0 [] (by have := few ts rfl; unfold line; omega) (fun a ha => ⟨_, _, bindT_nm .., by simp; exact whole_ok (okl_pl (each a ha)) 0 29, rfl⟩)]
      simp [b1, bAll, itL, allB_map]
  | _ => simp [isP, areT]
end
def kAt (ks : List Int) (i : Int) : Int := ks.getD i.toNat 0
theorem at_k {ks : List Int} {i : Int} (h0 : 0 ≤ i) (h1 : i < ks.length) : atI (ks.map D.int) i = some (.int (kAt ks i)) := by
  obtain ⟨j, rfl⟩ : ∃ j : Nat, i = j := ⟨i.toNat, by omega⟩
  have lt : j < ks.length := by omega
  rw [atI_nat _ (by simpa using lt)]
  simp [kAt, List.getElem?_eq_getElem lt]
/-- a fact of kinds -/
def isF (ks : List Int) : D → Bool
  | .tup [a, b] => wh 0 ((ks.length : Int) - 1) a && (match a with | .int i => areT (kAt ks i) b | _ => false)
  | _ => false
/-- no row in it is very long -/
def few (v : D) : Prop := ∀ xs, v = .tup xs → ∀ x ∈ xs, ∀ ts, x = .tup ts → ts.length ≤ 1000000
section
variable {n : Nat} {h : RH} {e : Bool} {k j : Nat}
theorem fact_ok {ks : List Int} {v : D} (o : okl e k j v = true) (f : few v) : runs ds (n + 3) 7 [.tup (ks.map .int), v] h = .ok (.fz (.bl (isF ks v))) h := by
  refine run_ret (d := d7) rfl rfl ?_
  have p1 := parts_ok (n := n + 1) (h := h) (okl_pl o) 2
  simp only [d7]
  cases v with
  | tup xs =>
    match xs with
    | [] => simp [p1, isP, isF]
    | [_] => simp [p1, isP, isF]
    | _ :: _ :: _ :: r =>
      have : (((r.length : Int) + 1 + 1 + 1 == 2)) = false := by rw [beq_eq_false_iff_ne]; omega
      simp [p1, isP, isF, this]
    | [a, b] =>
      obtain ⟨j', each⟩ := okl_tup o
      have oa := each a (by simp)
      have ob := each b (by simp)
      have w := whole_ok (n := n + 1) (h := h) (okl_pl oa) 0 ((ks.length : Int) - 1)
      simp [p1, isP, w]
      cases c : wh 0 ((ks.length : Int) - 1) a with
      | false => simp [isF, c]
      | true =>
        cases a with
        | int i =>
          simp only [wh, Bool.and_eq_true, decide_eq_true_eq] at c
          have at1 := at_k (ks := ks) c.1 (by omega)
          have t := things_ok (n := n) (h := h) ob (fun ts ets => f _ rfl b (by simp) ts ets) (kAt ks i)
          simp [isF, wh, c, at1, t]
        | _ => simp [wh] at c
  | _ => simp [p1, isP, isF]
theorem fact_ok' {ks : List Int} {v : D} (o : okl e k j v = true) (f : few v) : runs ds (n + 2) 21 [.tup (ks.map .int), v] h = .ok (.fz (.bl (isF ks v))) h := by
  cases hv : isT v with
  | false =>
    refine run_ret (d := d21) rfl rfl ?_
    simp only [d21]
    cases v with
    | tup xs => cases hv
    | ref _ => cases j <;> exact nomatch o
    | clo _ _ => cases j <;> exact nomatch o
    | kst _ => cases j <;> exact nomatch o
    | _ => simp [isTy, isF]
  | true =>
    cases v with
    | tup xs =>
      refine run_ret (d := d21) rfl rfl ?_
      simp only [d21]
      match xs with
      | [] => simp [isTy, isF]
      | [_] => simp [isTy, isF]
      | _ :: _ :: _ :: r =>
        have : (((r.length : Int) + 1 + 1 + 1 == 2)) = false := by rw [beq_eq_false_iff_ne]; omega
        simp [isTy, isF, this]
      | [a, b] =>
        obtain ⟨j', each⟩ := okl_tup o
        have oa := each a (by simp)
        have ob := each b (by simp)
        have w := whole_ok' (n := n) (h := h) (okl_pl oa) 0 ((ks.length : Int) - 1)
        simp [isTy, w]
        cases c : wh 0 ((ks.length : Int) - 1) a with
        | false => simp [isF, c]
        | true =>
          cases a with
          | int i =>
            simp only [wh, Bool.and_eq_true, decide_eq_true_eq] at c
            have at1 := at_k (ks := ks) c.1 (by omega)
            cases b with
            | tup ts =>
              obtain ⟨j2, each2⟩ := okl_tup ob
              have fw := f _ rfl (.tup ts) (by simp) ts rfl
              cases c2 : ((ts.length : Int) == kAt ks i) with
              | false => simp [at1, isF, areT, c2]
              | true =>
                obtain ⟨m, em, q⟩ := comp_fil (Φ := runs ds (n + 1)) (tg := .nm 2) (s := [.fz (.tup (ks.map .int)), .fz (.tup [.int i, .tup ts]), .un]) (fc := ev (runs ds (n + 1)) [] (.nt (.call 15 (.cons (.var 2) (.cons (.lit (.int (0))) (.cons (.lit (.int (29))) .nil)))))) (fe := ev (runs ds (n + 1)) [] (.lit (.int (1)))) (h := h) (c := .int 1) (p := fun x => !wh 0 29 x) ts 0 0 (by unfold line; omega) (fun a ha => ⟨_, bindT_nm .., by simp [whole_ok' (n := n) (okl_pl (each2 a ha)) 0 29], by simp⟩)
                rw [List.replicate_zero] at em
                have all_ : decide (m = 0) = ts.all (wh 0 29) := by
                  rw [Bool.eq_iff_iff, decide_eq_true_eq, q, List.all_eq_true]
                  simp
                simp [at1, isF, areT, c2, wh, c]
                rw [em]
                simp
                have ne := none_eq m
                simp only [List.reverse_replicate] at ne
                rw [ne]
                simp [all_]
            | ref _ => cases j' <;> exact nomatch ob
            | clo _ _ => cases j' <;> exact nomatch ob
            | kst _ => cases j' <;> exact nomatch ob
            | _ => simp [isTy, isF, areT]
          | _ => simp [wh] at c
    | _ => cases hv
end
end Lk01
set_option maxHeartbeats 4000000
namespace Lk01
open Ma Xk01
/-- facts as data -/
def fct (a : Int × List Int) : D := .tup [.int a.1, .tup (a.2.map .int)]
theorem wh_ints : ∀ ts : List D, ts.all (wh 0 29) = true → ∃ us : List Int, ts = us.map .int
  | [], _ => ⟨[], rfl⟩
  | t :: r, h => by
    rw [List.all_cons, Bool.and_eq_true] at h
    obtain ⟨us, rfl⟩ := wh_ints r h.2
    cases t with
    | int i => exact ⟨i :: us, rfl⟩
    | _ => simp [wh] at h
theorem isF_form {ks : List Int} {x : D} (h : isF ks x = true) : ∃ a, x = fct a ∧ (0 ≤ a.1 ∧ a.1 < ks.length) ∧ (a.2.length : Int) = kAt ks a.1 ∧ (a.2.map D.int).all (wh 0 29) = true := by
  unfold isF at h
  split at h
  · rename_i a b
    cases a with
    | int i =>
      cases b with
      | tup ts =>
        simp only [areT, Bool.and_eq_true] at h
        obtain ⟨us, rfl⟩ := wh_ints ts h.2.2
        refine ⟨(i, us), rfl, ?_, ?_, h.2.2⟩
        · have := h.1
          simp only [wh, Bool.and_eq_true, decide_eq_true_eq] at this
          exact ⟨this.1, by show i < _; omega⟩
        · have := h.2.1
          simpa using this
      | _ => simp [areT] at h
    | _ => simp at h
  · cases h
theorem alks_ints : ∀ us vs : List Int, alks (us.map .int) (vs.map .int) = true
  | [], vs => by cases vs <;> rfl
  | _ :: _, [] => rfl
  | u :: us, v :: vs => by rw [List.map_cons, List.map_cons, alks, alk, alks_ints us vs]; rfl
theorem fct_flat (a : Int × List Int) : flat (fct a) = true := by
  show flatsN 59 [.int a.1, .tup (a.2.map .int)] = true
  rw [flatsN, flatsN, flatN, flatN, flats_int]; rfl
theorem fct_alk (a b : Int × List Int) : alk (fct a) (fct b) = true := by
  rw [fct, fct, alk, alks, alks, alk, alk, alks_ints]; rfl
theorem fct_lt (a b : Int × List Int) : cLt (fct a) (fct b) = some (dltB (fct a) (fct b)) := by
  have f1 := fct_flat a
  have f2 := fct_flat b
  have al := fct_alk a b
  unfold fct at f1 f2 al ⊢
  rw [alk] at al
  rw [cLt, f1, f2, al, dltB]; rfl
/-- what stops a walk over a store -/
def bad1 (ks : List Int) (p : Option D) (x : D) : Bool := !isF ks x || (match p with | none => false | some q => !dltB q x)
def flt (ks : List Int) : Int → Option D → List D → Option Int
  | _, _, [] => none
  | i, p, x :: r => if bad1 ks p x then some i else flt ks (i + 1) (some x) r
theorem last_at (pre r : List D) {q : D} (e : pre.getLast? = some q) : atI (pre ++ r) ((pre.length : Int) - 1) = some q := by
  have pos : 0 < pre.length := by
    cases pre with
    | nil => cases e
    | cons _ _ => simp
  obtain ⟨j, ej⟩ : ∃ j : Nat, (pre.length : Int) - 1 = j := ⟨pre.length - 1, by omega⟩
  have jl : j = pre.length - 1 := by omega
  rw [ej, atI_nat _ (by rw [List.length_append]; omega), List.getElem?_append_left (by omega), jl]
  rw [List.getLast?_eq_getElem?] at e
  exact e
theorem last_some (p : D) (r : List D) : ∃ q, (p :: r).getLast? = some q := by
  cases c : (p :: r).getLast? with
  | none => simp at c
  | some q => exact ⟨q, rfl⟩
/-- the loop of the program, of the law -/
def sF : S := match d8.body with
  | .seq _ (.seq (.for_ _ _ b) _) => b
  | _ => .skip
def sD : S := match d22.body with
  | .seq _ (.seq (.for_ _ _ b) _) => b
  | _ => .skip
section
variable {n : Nat} {h : RH} {e : Bool} {k j : Nat}
theorem test_ok_ {ks : List Int} {pre r : List D} {x : D} (o : okl e k j x = true) (f : few x) (hp : ∀ q, pre.getLast? = some q → isF ks q = true) :
    isF ks x = true → ∀ q, pre.getLast? = some q → cmpT .lt q x = some (.fz (.bl (dltB q x))) := by
  intro hx q eq
  obtain ⟨a, rfl, _⟩ := isF_form hx
  obtain ⟨b, rfl, _⟩ := isF_form (hp q eq)
  exact cmp_lt (fct_lt b a)
theorem f_step {ks : List Int} {pre r : List D} {x : D} (t2 t3 : T) (o : okl e k j x = true) (f : few x) (hp : ∀ q, pre.getLast? = some q → isF ks q = true) (all : List D) (ha : all = pre ++ x :: r) :
    ex (runs ds (n + 3)) [] sF [.fz (.tup (ks.map .int)), .fz (.tup all), .fz (.int pre.length), .fz x] h = if bad1 ks pre.getLast? x then .ret (.fz (.tup [.int pre.length])) h else .nx [.fz (.tup (ks.map .int)), .fz (.tup all), .fz (.int pre.length), .fz x] h := by
  have c7 := fact_ok (n := n) (h := h) (ks := ks) o f
  subst ha
  simp only [sF, d8]
  simp [c7]
  cases c : isF ks x with
  | false => simp [bad1, c]
  | true =>
    cases pre with
    | nil => simp [bad1, c]
    | cons p0 pr =>
      obtain ⟨q, eq⟩ := last_some p0 pr
      have lt := test_ok_ o f hp c q eq (pre := p0 :: pr) (r := r)
      have at1 := last_at (p0 :: pr) (x :: r) eq
      have pos : 0 < (p0 :: pr).length := by simp
      generalize p0 :: pr = pre at *
      simp [pos, at1, lt, bad1, c, eq]
      cases dltB q x <;> simp
theorem d_step {ks : List Int} {pre r : List D} {x : D} (t2 t3 : T) (o : okl e k j x = true) (f : few x) (hp : ∀ q, pre.getLast? = some q → isF ks q = true) (all : List D) (ha : all = pre ++ x :: r) :
    ex (runs ds (n + 2)) [] sD [.fz (.tup (ks.map .int)), .fz (.tup all), .fz (.int pre.length), .fz x] h = if bad1 ks pre.getLast? x then .ret (mkL [.int pre.length]) h else .nx [.fz (.tup (ks.map .int)), .fz (.tup all), .fz (.int pre.length), .fz x] h := by
  have c7 := fact_ok' (n := n) (h := h) (ks := ks) o f
  subst ha
  simp only [sD, d22]
  simp [c7]
  cases c : isF ks x with
  | false => simp [bad1, c]
  | true =>
    cases pre with
    | nil => simp [bad1, c]
    | cons p0 pr =>
      obtain ⟨q, eq⟩ := last_some p0 pr
      have lt := test_ok_ o f hp c q eq (pre := p0 :: pr) (r := r)
      have at1 := last_at (p0 :: pr) (x :: r) eq
      have pos : 0 < (p0 :: pr).length := by simp
      generalize p0 :: pr = pre at *
      simp [pos, at1, lt, bad1, c, eq]
      cases dltB q x <;> simp
theorem enumD_cons (i : Int) (x : D) (r : List D) : enumD i (x :: r) = .tup [.int i, x] :: enumD (i + 1) r := rfl
theorem f_loop {ks : List Int} (all : List D) (oa : ∀ x ∈ all, okl e k j x = true) (fa : ∀ x ∈ all, few x) : ∀ (r pre : List D) (t2 t3 : T), all = pre ++ r → (∀ q, pre.getLast? = some q → isF ks q = true) →
    ∃ s', forGo (.tp [.nm 2, .nm 3]) (ex (runs ds (n + 3)) [] sF) (enumD pre.length r) [.fz (.tup (ks.map .int)), .fz (.tup all), t2, t3] h = match flt ks pre.length pre.getLast? r with
      | some i => .ret (.fz (.tup [.int i])) h
      | none => .nx s' h
  | [], pre, t2, t3, _, _ => ⟨_, rfl⟩
  | x :: r, pre, t2, t3, ha, hp => by
    have mx : x ∈ all := by rw [ha]; simp
    have st := f_step (n := n) (h := h) t2 t3 (oa x mx) (fa x mx) hp all ha
    rw [enumD_cons, forGo_cons]
    simp only [bindT_tp, bindTs_nm, bindTs_nil, setTS, setT0]
    rw [st, flt]
    cases c : bad1 ks pre.getLast? x with
    | true => exact ⟨[], by simp⟩
    | false =>
      have fx : isF ks x = true := by
        unfold bad1 at c
        simp only [Bool.or_eq_false_iff, Bool.not_eq_false'] at c
        exact c.1
      obtain ⟨s', z⟩ := f_loop all oa fa r (pre ++ [x]) (.fz (.int pre.length)) (.fz x) (by rw [ha]; simp) (fun q eq => by simp at eq; exact eq ▸ fx)
      refine ⟨s', ?_⟩
      simp only [List.length_append, List.length_cons, List.length_nil, List.getLast?_append, List.getLast?_singleton, Option.or_some] at z
      simp only [Bool.false_eq_true, if_false, nxt_nx]
      rw [show (pre.length : Int) + 1 = ((pre.length + (0 + 1) : Nat) : Int) by omega]
      simpa using z
theorem d_loop {ks : List Int} (all : List D) (oa : ∀ x ∈ all, okl e k j x = true) (fa : ∀ x ∈ all, few x) : ∀ (r pre : List D) (t2 t3 : T), all = pre ++ r → (∀ q, pre.getLast? = some q → isF ks q = true) →
    ∃ s', forGo (.tp [.nm 2, .nm 3]) (ex (runs ds (n + 2)) [] sD) (enumD pre.length r) [.fz (.tup (ks.map .int)), .fz (.tup all), t2, t3] h = match flt ks pre.length pre.getLast? r with
      | some i => .ret (mkL [.int i]) h
      | none => .nx s' h
  | [], pre, t2, t3, _, _ => ⟨_, rfl⟩
  | x :: r, pre, t2, t3, ha, hp => by
    have mx : x ∈ all := by rw [ha]; simp
    have st := d_step (n := n) (h := h) t2 t3 (oa x mx) (fa x mx) hp all ha
    rw [enumD_cons, forGo_cons]
    simp only [bindT_tp, bindTs_nm, bindTs_nil, setTS, setT0]
    rw [st, flt]
    cases c : bad1 ks pre.getLast? x with
    | true => exact ⟨[], by simp⟩
    | false =>
      have fx : isF ks x = true := by
        unfold bad1 at c
        simp only [Bool.or_eq_false_iff, Bool.not_eq_false'] at c
        exact c.1
      obtain ⟨s', z⟩ := d_loop all oa fa r (pre ++ [x]) (.fz (.int pre.length)) (.fz x) (by rw [ha]; simp) (fun q eq => by simp at eq; exact eq ▸ fx)
      refine ⟨s', ?_⟩
      simp only [List.length_append, List.length_cons, List.length_nil, List.getLast?_append, List.getLast?_singleton, Option.or_some] at z
      simp only [Bool.false_eq_true, if_false, nxt_nx]
      rw [show (pre.length : Int) + 1 = ((pre.length + (0 + 1) : Nat) : Int) by omega]
      simpa using z
/-- the place that is told for a value: none where it is a store -/
inductive Pl where | ok | no | at_ (i : Int)
def place (ks : List Int) : D → Pl
  | .tup xs => if xs.length > 3600 then .no else match flt ks 0 none xs with | some i => .at_ i | none => .ok
  | _ => .no
def Pl.t : Pl → D
  | .ok => .non
  | .no => .tup [.non]
  | .at_ i => .tup [.int i]
def Pl.l : Pl → List D
  | .ok => []
  | .no => [.non]
  | .at_ i => [.int i]
theorem fault_ok {ks : List Int} {v : D} (o : okl e k j v = true) (f : ∀ xs, v = .tup xs → ∀ x ∈ xs, few x) : runs ds (n + 4) 8 [.tup (ks.map .int), v] h = .ok (.fz (place ks v).t) h := by
  have p := ty_tup (okl_pl o)
  refine run_ret (d := d8) rfl rfl ?_
  have body : d8.body = .seq (.ifs (.or_ (.nt (.isin .tuple (.var 1))) (.cmp .gt (.b1 .len (.var 1)) (.lit (.int (3600))))) (.ret (.tup (.cons (.lit .non) .nil))) .skip) (.seq (.for_ (.tp [(.nm 2), (.nm 3)]) (.enu (.var 1)) sF) (.ret (.lit .non))) := rfl
  rw [body, show d8.ns = 4 from rfl]
  cases v with
  | tup xs =>
    obtain ⟨j', each⟩ := okl_tup o
    by_cases c : xs.length > 3600
    · have c' : (3600 : Int) < (xs.length : Int) := by omega
      simp [p, isT, place, c, c', Pl.t]
    · have c' : ¬ ((3600 : Int) < (xs.length : Int)) := by omega
      obtain ⟨s', z⟩ := f_loop (n := n) (h := h) (ks := ks) xs each (f xs rfl) xs [] .un .un rfl (by simp)
      simp only [List.length_nil, List.getLast?_nil] at z
      have z' : forGo (.tp [.nm 2, .nm 3]) (ex (runs ds (n + 3)) [] sF) (enumD 0 xs) [.fz (.tup (ks.map .int)), .fz (.tup xs), .un, .un] h = _ := z
      simp [p, isT, place, c, c']
      rw [z']
      cases flt ks (0 : Nat) none xs <;> simp [Pl.t]
  | _ => simp [p, isT, place, Pl.t]
theorem due_ok {ks : List Int} {v : D} (o : okl e k j v = true) (f : ∀ xs, v = .tup xs → ∀ x ∈ xs, few x) : runs ds (n + 3) 22 [.tup (ks.map .int), v] h = .ok (mkL (place ks v).l) h := by
  have p := ty_tup (okl_pl o)
  refine run_ret (d := d22) rfl rfl ?_
  have body : d22.body = .seq (.ifs (.or_ (.nt (.isin .tuple (.var 1))) (.cmp .gt (.b1 .len (.var 1)) (.lit (.int (3600))))) (.ret (.lst (.cons (.lit .non) .nil))) .skip) (.seq (.for_ (.tp [(.nm 2), (.nm 3)]) (.enu (.var 1)) sD) (.ret (.lst .nil))) := rfl
  rw [body, show d22.ns = 4 from rfl]
  cases v with
  | tup xs =>
    obtain ⟨j', each⟩ := okl_tup o
    by_cases c : xs.length > 3600
    · have c' : (3600 : Int) < (xs.length : Int) := by omega
      simp [p, isT, place, c, c', Pl.l]
    · have c' : ¬ ((3600 : Int) < (xs.length : Int)) := by omega
      obtain ⟨s', z⟩ := d_loop (n := n) (h := h) (ks := ks) xs each (f xs rfl) xs [] .un .un rfl (by simp)
      simp only [List.length_nil, List.getLast?_nil] at z
      have z' : forGo (.tp [.nm 2, .nm 3]) (ex (runs ds (n + 2)) [] sD) (enumD 0 xs) [.fz (.tup (ks.map .int)), .fz (.tup xs), .un, .un] h = _ := z
      simp [p, isT, place, c, c']
      rw [z']
      cases flt ks (0 : Nat) none xs <;> simp [Pl.l]
  | _ => simp [p, isT, place, Pl.l]
end
end Lk01
set_option maxHeartbeats 4000000
namespace Lk01
open Ma Xk01
theorem exc_bind (c : Nat) (xs : List D) (h : RH) (f : T → RH → RE) : RE.bind (.exc c xs h) f = .exc c xs h := rfl
theorem exc_test (c : Nat) (xs : List D) (h : RH) (f : Bool → RH → RE) : RE.test (.exc c xs h) f = .exc c xs h := rfl
theorem exc_go (c : Nat) (xs : List D) (h : RH) (s : Sl) (f : T → RH → RS) : RE.go (.exc c xs h) s f = .exc c xs s h := rfl
theorem deqs_ints : ∀ us vs : List Int, deqs (us.map .int) (vs.map .int) = (us == vs)
  | [], [] => rfl
  | [], _ :: _ => rfl
  | _ :: _, [] => rfl
  | u :: us, v :: vs => by rw [List.map_cons, List.map_cons, deqs, deq, deqs_ints us vs]; rfl
theorem fct_deq (a b : Int × List Int) : deq (fct a) (fct b) = (a == b) := by
  rw [fct, fct, deq, deqs, deqs, deq, deq, deqs_ints]
  simp [deqs]
  rfl
theorem fcts_deq : ∀ as : List (Int × List Int), deqs (as.map fct) (as.map fct) = true
  | [] => rfl
  | a :: r => by rw [List.map_cons, deqs, fct_deq, fcts_deq r]; simp
theorem fcts_flat (as : List (Int × List Int)) : flat (.tup (as.map fct)) = true := by
  show flatsN 59 (as.map fct) = true
  induction as with
  | nil => rfl
  | cons a r ih =>
    rw [List.map_cons, flatsN, ih, Bool.and_true]
    show flatsN 58 [.int a.1, .tup (a.2.map .int)] = true
    rw [flatsN, flatsN, flatN, flatN, flats_int]; rfl
theorem flt_facts {ks : List Int} : ∀ (xs : List D) (i : Int) (p : Option D), flt ks i p xs = none → ∀ x ∈ xs, isF ks x = true
  | [], _, _, _, x, m => nomatch m
  | y :: r, i, p, h, x, m => by
    rw [flt] at h
    cases c : bad1 ks p y with
    | true => rw [c] at h; cases h
    | false =>
      rw [c] at h
      rcases List.mem_cons.mp m with rfl | m
      · unfold bad1 at c
        simp only [Bool.or_eq_false_iff, Bool.not_eq_false'] at c
        exact c.1
      · exact flt_facts r _ _ h x m
theorem all_fcts {ks : List Int} : ∀ xs : List D, (∀ x ∈ xs, isF ks x = true) → ∃ as : List (Int × List Int), xs = as.map fct
  | [], _ => ⟨[], rfl⟩
  | x :: r, h => by
    obtain ⟨a, rfl, _⟩ := isF_form (h x List.mem_cons_self)
    obtain ⟨as, rfl⟩ := all_fcts r fun y m => h y (List.mem_cons_of_mem _ m)
    exact ⟨a :: as, rfl⟩
theorem store_is {ks : List Int} {v : D} (h : place ks v = .ok) : ∃ as : List (Int × List Int), v = .tup (as.map fct) := by
  unfold place at h
  split at h
  · rename_i xs
    split at h
    · cases h
    · split at h
      · cases h
      · rename_i e
        obtain ⟨as, rfl⟩ := all_fcts xs (flt_facts xs 0 none e)
        exact ⟨as, rfl⟩
  · cases h
theorem run_exc {ds : List Def} {n f c : Nat} {xs ys : List D} {h h' : RH} {d : Def} {s : Sl} (hd : nth f ds = some d) (hl : (xs.length == d.np) = true) (e : ex (runs ds n) [] d.body (slots d.ns xs) h = .exc c ys s h') : runs ds (n + 1) f xs h = .exc c ys h' := by
  rw [runs]; dsimp only; rw [hd]; dsimp only; rw [if_pos hl, e]
theorem txt_repr {d : D} (h : okTxt d = true) : bRepr (.fz d) = some (.fz (.str (txt d))) := by
  unfold bRepr
  rw [d_fz, h]; rfl
theorem txt_reprL {l : List D} (h : okTxt (.lst l) = true) : bRepr (mkL l) = some (.fz (.str (txt (.lst l)))) := by
  unfold bRepr
  rw [d_mkL, h]; rfl
theorem flt_lt {ks : List Int} : ∀ (xs : List D) (i j : Int) (p : Option D), flt ks i p xs = some j → i ≤ j ∧ j < i + xs.length
  | [], _, _, _, h => by cases h
  | y :: r, i, j, p, h => by
    rw [flt] at h
    cases c : bad1 ks p y with
    | true =>
      rw [c] at h
      have : i = j := Option.some.inj h
      subst this
      simp only [List.length_cons]; omega
    | false =>
      rw [c] at h
      have := flt_lt r (i + 1) j _ h
      simp only [List.length_cons]; omega
theorem place_txt (ks : List Int) (v : D) : okTxt (.lst (place ks v).l) = true := by
  have go : okl false 10 1 (.lst (place ks v).l) = true ∧ nds (.lst (place ks v).l) ≤ 2 := by
    unfold place
    split
    · rename_i xs
      split
      · exact ⟨rfl, by decide⟩
      · rename_i few_
        split
        · rename_i i e
          have := flt_lt xs 0 i none e
          refine ⟨?_, by show ndss [.int i] + 1 ≤ 2; simp [ndss, nds]⟩
          have : i.natAbs < 10 ^ 10 := by omega
          show (!false && okls false 10 0 [.int i]) = true
          simp [okls, okl, this]
        · exact ⟨rfl, by decide⟩
    · exact ⟨rfl, by decide⟩
  refine okl_okTxt go.1 (by decide) (by decide) (by decide) ?_
  have := go.2
  omega
section
variable {n : Nat} {h : RH} {e : Bool} {k j : Nat}
theorem require_ok {ks : List Int} {v : D} (o : okl e k j v = true) (f : ∀ xs, v = .tup xs → ∀ x ∈ xs, few x) : runs ds (n + 5) 9 [.tup (ks.map .int), v] h = match place ks v with
    | .ok => .ok (.fz v) h
    | .no => .exc 0 [.non] h
    | .at_ i => .exc 0 [.int i] h := by
  have z := fault_ok (n := n) (h := h) (ks := ks) o f
  cases c : place ks v with
  | ok =>
    rw [c] at z
    refine run_ret (d := d9) rfl rfl ?_
    simp only [d9]
    simp [z, Pl.t, cmpT, cmp, cIs, isNo]
  | no =>
    rw [c] at z
    refine run_exc (d := d9) (s := [.fz (.tup (ks.map .int)), .fz v, .fz (.tup [.non])]) rfl rfl ?_
    simp only [d9]
    simp [z, Pl.t, cmpT, cmp, cIs, isNo]
    rfl
  | at_ i =>
    rw [c] at z
    refine run_exc (d := d9) (s := [.fz (.tup (ks.map .int)), .fz v, .fz (.tup [.int i])]) rfl rfl ?_
    simp only [d9]
    simp [z, Pl.t, cmpT, cmp, cIs, isNo]
    rfl
theorem told_ok {ks : List Int} {v : D} (o : okl e k j v = true) (f : ∀ xs, v = .tup xs → ∀ x ∈ xs, few x) : runs ds (n + 6) 23 [.tup (ks.map .int), v] h = .ok (mkL (place ks v).l) h := by
  have z := require_ok (n := n) (h := h) (ks := ks) o f
  cases c : place ks v with
  | ok =>
    rw [c] at z
    obtain ⟨as, rfl⟩ := store_is c
    have eq : cEq (.tup (as.map fct)) (.tup (as.map fct)) = some true := by
      have f1 := fcts_flat as
      unfold cEq
      simp only [f1, Bool.and_self, if_true]
      rw [deq, fcts_deq]
    refine run_ret (d := d23) rfl rfl ?_
    simp only [d23]
    simp [z, cmp_eq eq, Pl.l]
  | no =>
    rw [c] at z
    refine run_ret (d := d23) rfl rfl ?_
    simp only [d23]
    simp [z, Pl.l, exh, exc_bind, exc_test, exc_go]
  | at_ i =>
    rw [c] at z
    refine run_ret (d := d23) rfl rfl ?_
    simp only [d23]
    simp [z, Pl.l, exh, exc_bind, exc_test, exc_go]
theorem right_ok {ks : List Int} {v : D} (o : okl e k j v = true) (f : ∀ xs, v = .tup xs → ∀ x ∈ xs, few x) (t : okTxt v = true) : runs ds (n + 7) 24 [.tup (ks.map .int), v] h = .ok (.fz (.bl true)) h := by
  have z1 := told_ok (n := n) (h := h) (ks := ks) o f
  have z2 := due_ok (n := n + 3) (h := h) (ks := ks) o f
  refine run_ret (d := d24) rfl rfl ?_
  simp only [d24]
  simp [z1, z2, txt_repr t, txt_reprL (place_txt ks v)]
end
end Lk01
set_option maxHeartbeats 4000000
namespace Lk01
open Ma Xk01
/-- the heap while a law draws: the pen, with things for questions -/
def Pn (h : RH) : Prop := ∃ (xs : List Int) (s r : Int) (w : List Int), h = [penW (.lst (w.map .int)) xs s r] ∧ 0 ≤ s ∧ w.length = 2 ∧ ∀ t ∈ w, 0 ≤ t ∧ t ≤ 9
theorem exists_map {α : Type} {em : α → D} {P : α → Prop} : ∀ ys : List D, (∀ y ∈ ys, ∃ a, y = em a ∧ P a) → ∃ l : List α, ys = l.map em ∧ ∀ a ∈ l, P a
  | [], _ => ⟨[], rfl, by simp⟩
  | y :: r, h => by
    obtain ⟨a, e, p⟩ := h y List.mem_cons_self
    obtain ⟨l, e2, q⟩ := exists_map r fun z m => h z (List.mem_cons_of_mem _ m)
    exact ⟨a :: l, by rw [e, e2]; rfl, by simpa using ⟨p, q⟩⟩
section
variable {n : Nat} {h : RH}
theorem draw_ok (i : Pn h) {b : Int} (hb : 0 < b) (hb2 : b < 1073741824) : ∃ v h', runs ds (n + 2) 13 [.ref 0, .int b] h = .ok (.fz (.int v)) h' ∧ Pn h' ∧ 0 ≤ v ∧ v < b := by
  obtain ⟨xs, s, r, w, rfl, hs, wl, wt⟩ := i
  obtain ⟨v, s', r', h1, h2, h3, e⟩ := run_drw (ds := ds) (n := n) (h := [penW (.lst (w.map .int)) xs s r]) (k := 0) (d := 13) (f := 12) (xs := xs) (s := s) (r := r) (w := .lst (w.map .int)) rfl rfl hb hb2 rfl hs
  exact ⟨v, _, e, ⟨xs, s', r', w, rfl, h3, wl, wt⟩, h1, h2⟩
theorem one_ok (i : Pn h) (ys : List D) (hy : ys ≠ []) (hl : ys.length < 1073741824) : ∃ v h', runs ds (n + 3) 14 [.ref 0, .lst ys] h = .ok (.fz v) h' ∧ Pn h' ∧ v ∈ ys := by
  have pos : 0 < ys.length := List.length_pos_iff.mpr hy
  obtain ⟨v, h', e, i', v0, vb⟩ := draw_ok (n := n) i (b := (ys.length : Int)) (by omega) (by omega)
  obtain ⟨k, rfl⟩ : ∃ k : Nat, v = k := ⟨v.toNat, by omega⟩
  have hk : k < ys.length := by omega
  refine ⟨ys[k], h', ?_, i', List.getElem_mem hk⟩
  refine run_ret (d := d14) rfl rfl ?_
  simp [d14, e, atI_nat ys hk, List.getElem?_eq_getElem hk]
/-- the things for questions -/
theorem pen_things (i : Pn h) : ∃ w : List Int, idxD (.ref 0) 3 h = some (.lst (w.map .int)) ∧ w.length = 2 ∧ ∀ t ∈ w, 0 ≤ t ∧ t ≤ 9 := by
  obtain ⟨xs, s, r, w, rfl, hs, wl, wt⟩ := i
  exact ⟨w, rfl, wl, wt⟩
/-- drawn kinds -/
theorem kinds_ok (i : Pn h) : ∃ (ks : List Int) (h' : RH), runs ds (n + 4) 18 [.ref 0] h = .ok (.fz (.tup (ks.map .int))) h' ∧ Pn h' ∧ (0 < ks.length ∧ ks.length ≤ 4) ∧ ∀ k ∈ ks, 0 ≤ k ∧ k ≤ 2 := by
  obtain ⟨v, h1, e1, i1, m1⟩ := one_ok (n := n) i [.lst [.int 1, .int 5], .lst [.int 0, .int 5], .lst [.int 0, .int 9], .lst [.int 1, .int 5]] (by simp) (by decide)
  obtain ⟨w, rfl, wl, wt⟩ : ∃ w : List Int, v = .lst (w.map .int) ∧ w.length = 2 ∧ ∀ t ∈ w, 0 ≤ t ∧ t ≤ 9 := by
    simp only [List.mem_cons, List.not_mem_nil, or_false] at m1
    rcases m1 with rfl | rfl | rfl | rfl
    · exact ⟨[1, 5], rfl, rfl, by simp⟩
    · exact ⟨[0, 5], rfl, rfl, by simp⟩
    · exact ⟨[0, 9], rfl, rfl, by simp⟩
    · exact ⟨[1, 5], rfl, rfl, by simp⟩
  obtain ⟨xs, s, r, w0, rfl, hs, _, _⟩ := i1
  have i2 : Pn [penW (.lst (w.map .int)) xs s r] := ⟨xs, s, r, w, rfl, hs, wl, wt⟩
  obtain ⟨v, h3, e3, i3, m3⟩ := one_ok (n := n) i2 [.tup [.int 1, .int 1], .tup [.int 2], .tup [.int 1, .int 2], .tup [.int 2, .int 2], .tup [.int 2, .int 1, .int 0], .tup [.int 1, .int 1, .int 1], .tup [.int 1, .int 0, .int 1, .int 2]] (by simp) (by decide)
  obtain ⟨ks, rfl, kl, kb⟩ : ∃ ks : List Int, v = .tup (ks.map .int) ∧ (0 < ks.length ∧ ks.length ≤ 4) ∧ ∀ k ∈ ks, 0 ≤ k ∧ k ≤ 2 := by
    simp only [List.mem_cons, List.not_mem_nil, or_false] at m3
    rcases m3 with rfl | rfl | rfl | rfl | rfl | rfl | rfl
    · exact ⟨[1, 1], rfl, by simp, by simp⟩
    · exact ⟨[2], rfl, by simp, by simp⟩
    · exact ⟨[1, 2], rfl, by simp, by simp⟩
    · exact ⟨[2, 2], rfl, by simp, by simp⟩
    · exact ⟨[2, 1, 0], rfl, by simp, by simp⟩
    · exact ⟨[1, 1, 1], rfl, by simp, by simp⟩
    · exact ⟨[1, 0, 1, 2], rfl, by simp, by simp⟩
  refine ⟨ks, h3, ?_, i3, kl, kb⟩
  refine run_ret (d := d18) rfl rfl ?_
  have ix : ixN 4 3 = some 3 := rfl
  simp [d18, mkL, e1, ix, setD, setOb, e3]
theorem rng_len : ∀ (k : Nat) (a : Int), (rangeD a k).length = k
  | 0, _ => rfl
  | k + 1, a => by rw [rangeD, List.length_cons, rng_len k]
end
/-! ### what is drawn can be shown -/
theorem mem_nds : ∀ (xs : List D) (x : D), x ∈ xs → nds x ≤ ndss xs
  | y :: r, x, m => by
    rw [ndss]
    rcases List.mem_cons.mp m with rfl | m
    · omega
    · have := mem_nds r x m; omega
theorem nds_pos (x : D) : 0 < nds x := by cases x <;> simp [nds]
theorem len_nds : ∀ xs : List D, xs.length ≤ ndss xs
  | [] => Nat.le_refl _
  | x :: r => by
    have := nds_pos x
    have := len_nds r
    rw [List.length_cons, ndss]; omega
theorem few_of {v : D} (h : nds v ≤ 1000000) : few v := by
  rintro xs rfl x m ts rfl
  have := mem_nds xs _ m
  have := len_nds ts
  simp only [nds] at *
  omega
theorem fews_of {v : D} (h : nds v ≤ 1000000) : ∀ xs, v = .tup xs → ∀ x ∈ xs, few x := by
  rintro xs rfl x m
  have := mem_nds xs _ m
  simp only [nds] at h
  exact few_of (by omega)
/-- it can be shown -/
def Shw (v : D) : Prop := ∃ e, okl e 42 10 v = true ∧ nds v ≤ 1000
theorem Shw.txt {v : D} (s : Shw v) : okTxt v = true := by
  obtain ⟨e, o, n⟩ := s
  refine okl_okTxt o (by decide) (by decide) (by decide) ?_
  omega
section
variable {n : Nat} {h : RH}
theorem shw_right {ks : List Int} {v : D} (s : Shw v) : runs ds (n + 7) 24 [.tup (ks.map .int), v] h = .ok (.fz (.bl true)) h := by
  obtain ⟨e, o, m⟩ := id s
  exact right_ok o (fews_of (by omega)) s.txt
/-- odd values -/
def odds : List D := [.non, .bl true, .bl false, .int (-1), .int 0, .int 1, .int 2, .int 3, .int 5, .int 30, .str [], .str [48], .str [112, 117, 116], .str [107, 101, 112, 116], .tup [], .lst [], .dct [], .tup [.int 0], .tup [.int 0, .int 1], .tup [.tup []], .lst [.int 0]]
def odds2 : List D := [.int 100000000000000000000000000000000000000000, .tup [.int 0, .tup [.int 1]], .tup [.int 0, .tup []], .tup [.tup [.int (-1)], .tup [], .tup []], .tup [.tup [.int 1], .tup []], .tup [.int 1, .lst [.int 3]], .int (-2), .int (-9)]
theorem odds_ok : ∀ v ∈ odds ++ odds2, (∃ e, okl e 42 3 v = true) ∧ nds v ≤ 8 := by
  have z : ((odds ++ odds2).all fun v => (okl false 42 3 v || okl true 42 3 v) && Nat.ble (nds v) 8) = true := by decide +kernel
  intro v m
  have := List.all_eq_true.mp z v m
  rw [Bool.and_eq_true, Bool.or_eq_true, Nat.ble_eq] at this
  exact ⟨this.1.elim (fun h => ⟨_, h⟩) fun h => ⟨_, h⟩, this.2⟩
theorem odd_ok (i : Pn h) : ∃ v h', runs ds (n + 4) 16 [.ref 0] h = .ok (.fz v) h' ∧ Pn h' ∧ (∃ e, okl e 42 3 v = true) ∧ nds v ≤ 8 := by
  obtain ⟨v, h1, e1, i1, m1⟩ := one_ok (n := n) i (odds ++ odds2) (by simp [odds]) (by decide)
  obtain ⟨o, l⟩ := odds_ok v m1
  refine ⟨v, h1, ?_, i1, o, l⟩
  refine run_ret (d := d16) rfl rfl ?_
  have a1 : ∀ (Φ : Cal) (s : Sl) (h : RH), ev Φ [] (match d16.body with | .seq (.setf _ e) _ => e | _ => .nil) s h = .ok (mkL odds) h := fun Φ s h => rfl
  have a2 : ∀ (Φ : Cal) (s : Sl) (h : RH), ev Φ [] (match d16.body with | .seq _ (.ret (.call _ (.cons _ (.cons (.bin _ _ e) _)))) => e | _ => .nil) s h = .ok (mkL odds2) h := fun Φ s h => rfl
  have ad : bAdd (.lst odds) (.lst odds2) = some (mkL (odds ++ odds2)) := rfl
  simp only [d16] at a1 a2 ⊢
  simp only [x_seq, x_setf, x_ret, a1, frz_ok, go_ok, nxt_nx, v_call, v_cons, v_bin, r_var, r_lst, a2]
  simp [ad, e1]
end
end Lk01
set_option maxHeartbeats 4000000
namespace Lk01
open Ma Xk01
theorem ndss_app : ∀ xs ys : List D, ndss (xs ++ ys) = ndss xs + ndss ys
  | [], ys => by simp [ndss]
  | x :: r, ys => by rw [List.cons_append, ndss, ndss, ndss_app r ys]; omega
theorem ndss_split (xs : List D) (a : Nat) : ndss (xs.take a) + ndss (xs.drop a) = ndss xs := by
  rw [← ndss_app, List.take_append_drop]
theorem ndss_rev : ∀ xs : List D, ndss xs.reverse = ndss xs
  | [] => rfl
  | x :: r => by rw [List.reverse_cons, ndss_app, ndss_rev r, ndss, ndss]; simp [ndss]; omega
theorem ndss_cut (xs : List D) (a b : Nat) : ndss (cut xs a b) ≤ ndss xs := by
  unfold cut
  have h1 := ndss_split (xs.drop a) (b - a)
  have h2 := ndss_split xs a
  omega
theorem mem_cut {xs : List D} {a b : Nat} {x : D} (h : x ∈ cut xs a b) : x ∈ xs := List.mem_of_mem_drop (List.mem_of_mem_take h)
/-- of short ints and tuples alone -/
def Tn (m : Nat) (v : D) : Prop := ∀ e, okl e 40 m v = true
theorem pow_40 : (10 : Nat) ^ 40 < 10 ^ 42 := by decide
mutual
theorem okl_wide {e : Bool} : ∀ (d : D) (n : Nat), okl e 40 n d = true → okl e 42 n d = true
  | .non, n, _ => by cases n <;> rfl
  | .bl _, n, _ => by cases n <;> rfl
  | .int i, n, h => by
    have z : ∀ k, okl e k n (.int i) = decide (i.natAbs < 10 ^ k) := fun k => by cases n <;> rfl
    rw [z, decide_eq_true_eq] at h ⊢
    have := pow_40; omega
  | .str s, n, h => by cases n <;> exact h
  | .tup xs, n + 1, h => okls_wide xs n h
  | .lst xs, n + 1, h => by
    rw [okl, Bool.and_eq_true] at h ⊢
    exact ⟨h.1, okls_wide xs n h.2⟩
  | .dct [], n + 1, h => h
  | .tup _, 0, h => nomatch h
  | .lst _, 0, h => nomatch h
  | .dct [], 0, h => nomatch h
  | .dct (_ :: _), n, h => by cases n <;> exact nomatch h
  | .kst _, n, h => by cases n <;> exact nomatch h
  | .ref _, n, h => by cases n <;> exact nomatch h
  | .clo _ _, n, h => by cases n <;> exact nomatch h
theorem okls_wide {e : Bool} : ∀ (xs : List D) (n : Nat), okls e 40 n xs = true → okls e 42 n xs = true
  | [], n, _ => by cases n <;> rfl
  | x :: r, n, h => by
    rw [okls_cons, Bool.and_eq_true] at h ⊢
    exact ⟨okl_wide x n h.1, okls_wide r n h.2⟩
end
theorem tn_tup {m : Nat} {xs : List D} (h : Tn m (.tup xs)) : ∃ j, m = j + 1 ∧ ∀ x ∈ xs, Tn j x := by
  cases m with
  | zero => exact nomatch h false
  | succ j => exact ⟨j, rfl, fun x mx e => okls_iff.mp (h e) x mx⟩
theorem okl_mk {e : Bool} {k j : Nat} {xs : List D} (h : ∀ x ∈ xs, okl e k j x = true) : okl e k (j + 1) (.tup xs) = true := okls_iff.mpr h
theorem okl_mkL {k j : Nat} {xs : List D} (h : ∀ x ∈ xs, okl false k j x = true) : okl false k (j + 1) (.lst xs) = true := by
  show (!false && okls false k j xs) = true
  rw [okls_iff.mpr h]; rfl
/-- the block where a value is bent -/
def sB : S := match d17.body with
  | .seq (.ifs _ b _) _ => b
  | _ => .skip
def sR : S := match d17.body with
  | .seq _ b => b
  | _ => .skip
def Bent (m : Nat) (v r : D) : Prop := (∃ e, okl e 42 (m + 3) r = true) ∧ nds r ≤ 2 * nds v + 20
theorem bent_odd {m : Nat} {v r : D} (o : ∃ e, okl e 42 3 r = true) (l : nds r ≤ 8) : Bent m v r := by
  obtain ⟨e, o⟩ := o
  exact ⟨⟨e, okl_more r 3 (m + 3) (by omega) o⟩, by omega⟩
section
variable {n : Nat} {h : RH}
theorem six (o : Int) (h0 : 0 ≤ o) (h6 : o < 6) (a b c d e f : D) : ∃ r, atI [a, b, c, d, e, f] o = some r ∧ (r = a ∨ r = b ∨ r = c ∨ r = d ∨ r = e ∨ r = f) := by
  have : o = 0 ∨ o = 1 ∨ o = 2 ∨ o = 3 ∨ o = 4 ∨ o = 5 := by omega
  rcases this with rfl | rfl | rfl | rfl | rfl | rfl
  · exact ⟨a, rfl, by simp⟩
  · exact ⟨b, rfl, by simp⟩
  · exact ⟨c, rfl, by simp⟩
  · exact ⟨d, rfl, by simp⟩
  · exact ⟨e, rfl, by simp⟩
  · exact ⟨f, rfl, by simp⟩
theorem stop_odd (i : Pn h) (m : Nat) (v dd : D) (h1 : ∃ b, isTy .int v = some b ∧ (b = true → isTy .bool v = some true)) (h2 : isTy .tuple v = some false) (t3 t4 t5 : T) :
    ∃ r h', ex (runs ds (n + 4)) [] sB [.fz (.ref 0), .fz v, .fz dd, t3, t4, t5] h = .ret (.fz r) h' ∧ Pn h' ∧ Bent m v r := by
  obtain ⟨o, h1', e1, i1, o0, o8⟩ := draw_ok (n := n + 2) i (b := 8) (by decide) (by decide)
  obtain ⟨r, h2', e2, i2, ok, l⟩ := odd_ok (n := n) i1
  refine ⟨r, h2', ?_, i2, bent_odd ok l⟩
  obtain ⟨b, hb, hbl⟩ := h1
  simp only [sB, d17]
  cases b with
  | true => simp [e1, hb, hbl rfl, h2, e2]
  | false => simp [e1, hb, h2, e2]
theorem stop_int (i : Pn h) (m : Nat) (v : Int) (ok : v.natAbs < 10 ^ 40) (dd : D) (t3 t4 t5 : T) :
    ∃ r h', ex (runs ds (n + 4)) [] sB [.fz (.ref 0), .fz (.int v), .fz dd, t3, t4, t5] h = .ret (.fz r) h' ∧ Pn h' ∧ Bent m (.int v) r := by
  obtain ⟨o, h1', e1, i1, o0, o8⟩ := draw_ok (n := n + 2) i (b := 8) (by decide) (by decide)
  by_cases c : o < 6
  · obtain ⟨r, er, hr⟩ := six o o0 c (.int (v + 1)) (.int (v - 1)) (.bl (v == 1)) (.int 0) (.int (-v)) (.int (v + 1))
    refine ⟨r, h1', ?_, i1, ?_⟩
    · simp only [sB, d17]
      simp [e1, isTy, c]
      rw [er]; rfl
    · have p := pow_40
      have z : ∀ w : Int, w.natAbs < 10 ^ 42 → Bent m (.int v) (.int w) := fun w hw => ⟨⟨false, by show decide _ = true; exact decide_eq_true hw⟩, by simp [nds]⟩
      rcases hr with rfl | rfl | rfl | rfl | rfl | rfl
      · exact z _ (by omega)
      · exact z _ (by omega)
      · exact ⟨⟨false, rfl⟩, by simp [nds]⟩
      · exact z _ (by decide)
      · exact z _ (by omega)
      · exact z _ (by omega)
  · obtain ⟨r, h2', e2, i2, ok, l⟩ := odd_ok (n := n) i1
    refine ⟨r, h2', ?_, i2, bent_odd ok l⟩
    simp only [sB, d17]
    simp [e1, isTy, c, e2]
theorem stop_tup (i : Pn h) (m : Nat) (xs : List D) (tn : Tn m (.tup xs)) (sz : nds (.tup xs) ≤ 500) (dd : D) (t3 t4 t5 : T) :
    ∃ r h', ex (runs ds (n + 4)) [] sB [.fz (.ref 0), .fz (.tup xs), .fz dd, t3, t4, t5] h = .ret (.fz r) h' ∧ Pn h' ∧ Bent m (.tup xs) r := by
  obtain ⟨o, h1', e1, i1, o0, o8⟩ := draw_ok (n := n + 2) i (b := 8) (by decide) (by decide)
  obtain ⟨j, rfl, each⟩ := tn_tup tn
  have sz' : ndss xs + 1 ≤ 500 := sz
  have lx := len_nds xs
  by_cases c : o < 6
  · have lc : (cut xs (sIx xs.length 0 none) (sIx xs.length xs.length (some 1))).length ≤ xs.length := by
      unfold cut; rw [List.length_take, List.length_drop]; omega
    have a1 : okN (xs.length + (cut xs (sIx xs.length 0 none) (sIx xs.length xs.length (some 1))).length) = true := by unfold okN; rw [Nat.ble_eq]; omega
    have a2 : okN (xs.length + 1) = true := by unfold okN; rw [Nat.ble_eq]; omega
    obtain ⟨r, er, hr⟩ := six o o0 c (.tup (cut xs (sIx xs.length 0 (some 1)) (sIx xs.length xs.length none))) (.tup (cut xs (sIx xs.length 0 none) (sIx xs.length xs.length (some (-1))))) (.tup (xs ++ cut xs (sIx xs.length 0 none) (sIx xs.length xs.length (some 1)))) (.tup xs.reverse) (.lst xs) (.tup (xs ++ [.int 0]))
    refine ⟨r, h1', ?_, i1, ?_⟩
    · simp only [sB, d17]
      simp [e1, isTy, c, slcD, bAdd, a1, a2]
      rw [er]; rfl
    · have z : ∀ ys : List D, (∀ y ∈ ys, y ∈ xs ∨ y = .int 0) → ndss ys ≤ 2 * ndss xs + 2 → Bent (j + 1) (.tup xs) (.tup ys) := fun ys hy hn => by
        refine ⟨⟨false, okl_more _ (j + 1) _ (by omega) (okl_mk fun y my => ?_)⟩, by simp only [nds]; omega⟩
        rcases hy y my with q | rfl
        · exact okl_wide y j (each y q false)
        · cases j <;> rfl
      rcases hr with rfl | rfl | rfl | rfl | rfl | rfl
      · exact z _ (fun y my => .inl (mem_cut my)) (by have := ndss_cut xs (sIx xs.length 0 (some 1)) (sIx xs.length xs.length none); omega)
      · exact z _ (fun y my => .inl (mem_cut my)) (by have := ndss_cut xs (sIx xs.length 0 none) (sIx xs.length xs.length (some (-1))); omega)
      · refine z _ (fun y my => .inl ?_) (by have := ndss_cut xs (sIx xs.length 0 none) (sIx xs.length xs.length (some 1)); rw [ndss_app]; omega)
        rcases List.mem_append.mp my with q | q
        · exact q
        · exact mem_cut q
      · exact z _ (fun y my => .inl (List.mem_reverse.mp my)) (by rw [ndss_rev]; omega)
      · refine ⟨⟨false, okl_more _ (j + 1) _ (by omega) (okl_mkL fun y my => okl_wide y j (each y my false))⟩, by simp only [nds]; omega⟩
      · refine z _ (fun y my => ?_) (by rw [ndss_app]; simp [ndss, nds]; omega)
        rcases List.mem_append.mp my with q | q
        · exact .inl q
        · exact .inr (by simpa using q)
  · obtain ⟨r, h2', e2, i2, ok, l⟩ := odd_ok (n := n) i1
    refine ⟨r, h2', ?_, i2, bent_odd ok l⟩
    simp only [sB, d17]
    simp [e1, isTy, c, e2]
end
end Lk01
set_option maxHeartbeats 4000000
namespace Lk01
open Ma Xk01
theorem okl_flat60 {k m : Nat} {v : D} (h : okl false k m v = true) (hm : m ≤ 60) : flat v = true := okl_flat v 60 (okl_more v m 60 hm h)
theorem empty_eq {xs : List D} (f : flat (.tup xs) = true) : cEq (.tup xs) (.tup []) = some xs.isEmpty := by
  unfold cEq
  simp only [f, Bool.true_and, show flat (.tup []) = true from rfl, if_true]
  cases xs <;> simp [deq, deqs]
theorem slc_to (xs : List D) (a : Nat) : slcD (.tup xs) none (some (a : Int)) = some (.fz (.tup (xs.take a))) := by
  have e : cut xs (sIx xs.length 0 none) (sIx xs.length xs.length (some (a : Int))) = xs.take a := by
    show ((xs.drop 0).take ((if Nat.blt xs.length a then xs.length else a) - 0)) = xs.take a
    rw [List.drop_zero, Nat.sub_zero]
    by_cases c : Nat.blt xs.length a = true
    · rw [if_pos c]
      rw [Nat.blt_eq] at c
      rw [List.take_of_length_le (Nat.le_refl _), List.take_of_length_le (by omega)]
    · rw [if_neg c]
  rw [slcD, e]
theorem slc_from (xs : List D) (a : Nat) (ha : a ≤ xs.length) : slcD (.tup xs) (some (a : Int)) none = some (.fz (.tup (xs.drop a))) := by
  have e : cut xs (sIx xs.length 0 (some (a : Int))) (sIx xs.length xs.length none) = xs.drop a := by
    show ((xs.drop (if Nat.blt xs.length a then xs.length else a)).take (xs.length - (if Nat.blt xs.length a then xs.length else a))) = xs.drop a
    have c : ¬ (Nat.blt xs.length a = true) := by rw [Nat.blt_eq]; omega
    rw [if_neg c, List.take_of_length_le (by rw [List.length_drop]; omega)]
  rw [slcD, e]
section
variable {h : RH}
theorem stop_ok {n : Nat} (i : Pn h) (m : Nat) (v : D) (tn : Tn m v) (sz : nds v ≤ 500) (dd : D) (t3 t4 t5 : T) :
    ∃ r h', ex (runs ds (n + 4)) [] sB [.fz (.ref 0), .fz v, .fz dd, t3, t4, t5] h = .ret (.fz r) h' ∧ Pn h' ∧ Bent m v r := by
  cases v with
  | tup xs => exact stop_tup i m xs tn sz dd t3 t4 t5
  | int z =>
    have := tn false
    have e : ∀ k, okl false k m (.int z) = decide (z.natAbs < 10 ^ k) := fun k => by cases m <;> rfl
    rw [e, decide_eq_true_eq] at this
    exact stop_int i m z this dd t3 t4 t5
  | non => exact stop_odd i m _ dd ⟨false, rfl, nofun⟩ rfl t3 t4 t5
  | bl b => exact stop_odd i m _ dd ⟨true, rfl, fun _ => rfl⟩ rfl t3 t4 t5
  | str s => exact stop_odd i m _ dd ⟨false, rfl, nofun⟩ rfl t3 t4 t5
  | lst s => have := tn true; cases m <;> exact nomatch this
  | dct s => have := tn false; cases m <;> cases s <;> exact nomatch this
  | kst _ => have := tn false; cases m <;> exact nomatch this
  | ref _ => have := tn false; cases m <;> exact nomatch this
  | clo _ _ => have := tn false; cases m <;> exact nomatch this
theorem bent_body : d17.body = .seq (.ifs (.or_ (.nt (.isin .tuple (.var 1))) (.or_ (.cmp .eq (.var 1) (.tup .nil)) (.or_ (.cmp .eq (.var 2) (.lit (.int (0)))) (.cmp .eq (.call 13 (.cons (.var 0) (.cons (.lit (.int (6))) .nil))) (.lit (.int (0))))))) sB .skip) sR := rfl
theorem bent_ok : ∀ (d n m : Nat) (v : D) (h : RH), Pn h → m ≤ 10 → Tn m v → nds v ≤ 500 → ∃ r h', runs ds (n + d + 5) 17 [.ref 0, v, .int d] h = .ok (.fz r) h' ∧ Pn h' ∧ Bent m v r := by
  intro d
  induction d with
  | zero =>
    intro n m v h i hm tn sz
    obtain ⟨r, h', e, i', b⟩ := stop_ok (n := n) i m v tn sz (.int 0) .un .un .un
    refine ⟨r, h', ?_, i', b⟩
    refine run_ret (d := d17) rfl rfl ?_
    rw [bent_body, show d17.ns = 6 from rfl]
    have ty := ty_tup (okl_pl (tn false))
    cases c : isT v with
    | false =>
      rw [c] at ty
      simp [ty, e]
    | true =>
      rw [c] at ty
      cases v with
      | tup xs =>
        have em := cmp_eq (empty_eq (okl_flat60 (tn false) (by omega)))
        cases c2 : xs.isEmpty <;> simp [ty, em, c2, e]
      | _ => cases c
  | succ d ih =>
    intro n m v h i hm tn sz
    have ty := ty_tup (okl_pl (tn false))
    cases c : isT v with
    | false =>
      obtain ⟨r, h', e, i', b⟩ := stop_ok (n := n + (d + 1)) i m v tn sz (.int (d + 1 : Nat)) .un .un .un
      refine ⟨r, h', ?_, i', b⟩
      refine run_ret (d := d17) rfl rfl ?_
      rw [bent_body, show d17.ns = 6 from rfl]
      rw [c] at ty
      simp at e
      simp [ty, e]
    | true =>
      rw [c] at ty
      cases v with
      | tup xs =>
        have em := cmp_eq (empty_eq (okl_flat60 (tn false) (by omega)))
        cases c2 : xs.isEmpty with
        | true =>
          obtain ⟨r, h', e, i', b⟩ := stop_ok (n := n + (d + 1)) i m (.tup xs) tn sz (.int (d + 1 : Nat)) .un .un .un
          refine ⟨r, h', ?_, i', b⟩
          refine run_ret (d := d17) rfl rfl ?_
          rw [bent_body, show d17.ns = 6 from rfl]
          simp at e
          simp [ty, em, c2, e]
        | false =>
          have pos : 0 < xs.length := by cases xs with | nil => cases c2 | cons _ _ => simp
          have nz : (((d : Int) + 1) == 0) = false := by rw [beq_eq_false_iff_ne]; omega
          obtain ⟨w, h1, e1, i1, w0, w6⟩ := draw_ok (n := n + d + 3) i (b := 6) (by decide) (by decide)
          have e1 : runs ds (n + (d + 1) + 4) 13 [.ref 0, .int 6] h = .ok (.fz (.int w)) h1 := by rw [show n + (d + 1) + 4 = n + d + 3 + 2 by omega]; exact e1
          cases c3 : (w == 0) with
          | true =>
            obtain ⟨r, h', e, i', b⟩ := stop_ok (n := n + (d + 1)) i1 m (.tup xs) tn sz (.int (d + 1 : Nat)) .un .un .un
            refine ⟨r, h', ?_, i', b⟩
            refine run_ret (d := d17) rfl rfl ?_
            rw [bent_body, show d17.ns = 6 from rfl]
            simp at e
            simp [ty, em, c2, nz, e1, c3, e]
          | false =>
            have sz' : ndss xs + 1 ≤ 500 := sz
            have lx := len_nds xs
            obtain ⟨a, h2, e2, i2, a0, al⟩ := draw_ok (n := n + d + 3) i1 (b := (xs.length : Int)) (by omega) (by omega)
            have e2 : runs ds (n + (d + 1) + 4) 13 [.ref 0, .int (xs.length : Int)] h1 = .ok (.fz (.int a)) h2 := by rw [show n + (d + 1) + 4 = n + d + 3 + 2 by omega]; exact e2
            obtain ⟨k, rfl⟩ : ∃ k : Nat, a = k := ⟨a.toNat, by omega⟩
            have kl : k < xs.length := by omega
            obtain ⟨j, rfl, each⟩ := tn_tup tn
            have mk : xs[k] ∈ xs := List.getElem_mem kl
            have ns := mem_nds xs _ mk
            obtain ⟨p, h3, e3, i3, ⟨ep, op⟩, np⟩ := ih n j xs[k] h2 i2 (by omega) (each _ mk) (by omega)
            have e3 : runs ds (n + (d + 1) + 4) 17 [.ref 0, xs[k], .int d] h2 = .ok (.fz p) h3 := by rw [show n + (d + 1) + 4 = n + d + 5 by omega]; exact e3
            have at1 : atI xs (k : Int) = some xs[k] := by rw [atI_nat xs kl, List.getElem?_eq_getElem kl]
            have s1 := slc_to xs k
            have s2 := slc_from xs (k + 1) (by omega)
            have o1 : okN ((xs.take k).length + 1) = true := by unfold okN; rw [Nat.ble_eq, List.length_take]; omega
            have o2 : okN ((xs.take k ++ [p]).length + (xs.drop (k + 1)).length) = true := by unfold okN; rw [Nat.ble_eq, List.length_append, List.length_take, List.length_drop]; simp; omega
            have b1 : bAdd (.tup (xs.take k)) (.tup [p]) = some (.fz (.tup (xs.take k ++ [p]))) := by
              show (if okN ((xs.take k).length + [p].length) then _ else _) = _
              rw [show [p].length = 1 from rfl, o1]; rfl
            have b2 : bAdd (.tup (xs.take k ++ [p])) (.tup (xs.drop (k + 1))) = some (.fz (.tup (xs.take k ++ [p] ++ xs.drop (k + 1)))) := by
              show (if okN _ then _ else _) = _
              rw [o2]; rfl
            refine ⟨.tup (xs.take k ++ [p] ++ xs.drop (k + 1)), h3, ?_, i3, ⟨ep, ?_⟩, ?_⟩
            · refine run_ret (d := d17) rfl rfl ?_
              rw [bent_body, show d17.ns = 6 from rfl]
              simp [ty, em, c2, nz, e1, c3]
              simp only [sR, d17]
              have s2' : slcD (.tup xs) (some ((k : Int) + 1)) none = some (.fz (.tup (xs.drop (k + 1)))) := s2
              simp [e2, at1, bSubI, show ((d : Int) + 1 - 1) = d by omega, e3, s1, b1, s2', b2]
            · refine okl_mk fun y my => ?_
              have w : ∀ y ∈ xs, okl ep 42 (j + 3) y = true := fun y my => okl_more y j (j + 3) (by omega) (okl_wide y j (each y my ep))
              simp only [List.mem_append, List.mem_cons, List.not_mem_nil, or_false] at my
              rcases my with (my | rfl) | my
              · exact w y (List.mem_of_mem_take my)
              · exact op
              · exact w y (List.mem_of_mem_drop my)
            · have q1 := ndss_split xs k
              have q2 : ndss (xs.drop k) = nds xs[k] + ndss (xs.drop (k + 1)) := by
                rw [List.drop_eq_getElem_cons kl, ndss]
              simp only [nds, ndss_app, ndss]
              omega
      | _ => cases c
end
end Lk01
set_option maxHeartbeats 4000000
namespace Lk01
open Ma Xk01
theorem mem_ins (x : D) : ∀ (l : List D) (y : D), y ∈ insB x l → y = x ∨ y ∈ l
  | [], y, h => by simpa [insB] using h
  | z :: r, y, h => by
    rw [insB] at h
    split at h
    · rcases List.mem_cons.mp h with e | m
      · exact .inr (by simp [e])
      · exact (mem_ins x r y m).imp id (List.mem_cons_of_mem _)
    · simpa using h
theorem len_ins (x : D) : ∀ l : List D, (insB x l).length = l.length + 1
  | [] => rfl
  | z :: r => by rw [insB]; split <;> simp [len_ins x r]
theorem mem_srt : ∀ (l : List D) (y : D), y ∈ sortB l → y ∈ l
  | [], y, h => h
  | x :: r, y, h => by
    rcases mem_ins x _ y h with e | m
    · simp [e]
    · exact List.mem_cons_of_mem _ (mem_srt r y m)
theorem len_srt : ∀ l : List D, (sortB l).length = l.length
  | [] => rfl
  | x :: r => by rw [sortB, len_ins, len_srt r]; rfl
theorem len_ddp : ∀ (l acc : List D), (dedup acc l).length ≤ acc.length + l.length
  | [], acc => by simp [dedup]
  | x :: r, acc => by
    rw [dedup]
    split
    · have := len_ddp r acc; simp only [List.length_cons]; omega
    · have := len_ddp r (x :: acc); simp only [List.length_cons] at this ⊢; omega
/-! ### facts in rows -/
theorem mem_fct (a : Int × List Int) : ∀ bs : List (Int × List Int), mem (fct a) (bs.map fct) = bs.contains a
  | [] => rfl
  | b :: r => by
    have h := mem_fct a r
    unfold mem at h ⊢
    rw [List.map_cons, List.any_cons, h, fct_deq, List.contains_cons, BEq.comm]
theorem ddp_fct : ∀ (xs acc : List (Int × List Int)), ∃ cs : List (Int × List Int), dedup (acc.map fct) (xs.map fct) = cs.map fct ∧ ∀ a, a ∈ cs ↔ a ∈ acc ∨ a ∈ xs
  | [], acc => ⟨acc.reverse, by rw [List.map_nil, dedup, ← List.map_reverse], by simp⟩
  | x :: r, acc => by
    rw [List.map_cons, dedup, mem_fct]
    by_cases c : acc.contains x = true
    · rw [if_pos c]
      obtain ⟨cs, e, q⟩ := ddp_fct r acc
      refine ⟨cs, e, fun a => ?_⟩
      rw [q, List.mem_cons]
      have mx : x ∈ acc := by simpa using c
      constructor
      · rintro (z | z)
        · exact .inl z
        · exact .inr (.inr z)
      · rintro (z | rfl | z)
        · exact .inl z
        · exact .inl mx
        · exact .inr z
    · rw [if_neg c]
      obtain ⟨cs, e, q⟩ := ddp_fct r (x :: acc)
      refine ⟨cs, by rw [← e]; rfl, fun a => ?_⟩
      rw [q]
      simp only [List.mem_cons]
      constructor
      · rintro ((z | z) | z)
        · exact .inr (.inl z)
        · exact .inl z
        · exact .inr (.inr z)
      · rintro (z | z | z)
        · exact .inl (.inr z)
        · exact .inl (.inl z)
        · exact .inr z
theorem as_map : ∀ ys : List D, (∀ y ∈ ys, ∃ a : Int × List Int, y = fct a) → ∃ as : List (Int × List Int), ys = as.map fct
  | [], _ => ⟨[], rfl⟩
  | y :: r, h => by
    obtain ⟨a, rfl⟩ := h y List.mem_cons_self
    obtain ⟨as, rfl⟩ := as_map r fun z m => h z (List.mem_cons_of_mem _ m)
    exact ⟨a :: as, rfl⟩
theorem fct_inj {a b : Int × List Int} (h : fct a = fct b) : a = b := by
  have : deq (fct a) (fct b) = true := by rw [h, fct_deq]; simp
  rw [fct_deq] at this
  simpa using this
/-- drawn facts -/
def G (a : Int × List Int) : Prop := (0 ≤ a.1 ∧ a.1 ≤ 4) ∧ a.2.length ≤ 2 ∧ ∀ t ∈ a.2, 0 ≤ t ∧ t ≤ 29
theorem set_facts (as : List (Int × List Int)) (g : ∀ a ∈ as, G a) : ∃ bs : List (Int × List Int), sortB (dedup [] (as.map fct)) = bs.map fct ∧ bs.length ≤ as.length ∧ ∀ b ∈ bs, G b := by
  obtain ⟨cs, e, q⟩ := ddp_fct as []
  simp only [List.map_nil] at e
  obtain ⟨bs, eb⟩ := as_map (sortB (dedup [] (as.map fct))) fun y my => by
    have := mem_srt _ y my
    rw [e] at this
    obtain ⟨a, _, rfl⟩ := List.mem_map.mp this
    exact ⟨a, rfl⟩
  refine ⟨bs, eb, ?_, fun b mb => ?_⟩
  · have l1 := len_srt (dedup [] (as.map fct))
    have l2 := len_ddp (as.map fct) []
    rw [eb] at l1
    simp only [List.length_map, List.length_nil] at l1 l2
    omega
  · have : fct b ∈ sortB (dedup [] (as.map fct)) := by rw [eb]; exact List.mem_map_of_mem mb
    have := mem_srt _ _ this
    rw [e] at this
    obtain ⟨a, ma, ea⟩ := List.mem_map.mp this
    rw [← fct_inj ea]
    exact g a (((q a).mp ma).elim (fun z => by cases z) id)
/-! ### they can be put in order -/
theorem mrgs_ints : ∀ us vs : List Int, ∃ ws : List Int, mrgs (us.map .int) (vs.map .int) = ws.map .int ∧ us.length ≤ ws.length ∧ vs.length ≤ ws.length
  | [], vs => ⟨vs, by rw [List.map_nil, mrgs], Nat.zero_le _, Nat.le_refl _⟩
  | u :: us, [] => ⟨u :: us, by rw [List.map_cons, List.map_nil, mrgs]; simp, Nat.le_refl _, Nat.zero_le _⟩
  | u :: us, v :: vs => by
    obtain ⟨ws, e, l1, l2⟩ := mrgs_ints us vs
    exact ⟨v :: ws, by rw [List.map_cons, List.map_cons, mrgs, e]; rfl, by simpa using l1, by simpa using l2⟩
theorem fits_ints : ∀ ws us : List Int, us.length ≤ ws.length → fits (ws.map .int) (us.map .int) = true
  | ws, [], _ => by cases ws <;> rfl
  | [], _ :: _, h => by simp at h
  | w :: ws, u :: us, h => by
    rw [List.map_cons, List.map_cons, fits, fits_ints ws us (by simpa using h)]; rfl
theorem mrg_fct (a b : Int × List Int) : ∃ c, mrg (fct a) (fct b) = fct c ∧ a.2.length ≤ c.2.length ∧ b.2.length ≤ c.2.length := by
  obtain ⟨ws, e, l1, l2⟩ := mrgs_ints a.2 b.2
  refine ⟨(b.1, ws), ?_, l1, l2⟩
  rw [fct, fct, mrg, mrgs, mrgs, mrgs, mrg, e]
  rfl
  all_goals (intros; contradiction)
theorem fold_fct : ∀ (as : List (Int × List Int)) (c0 : Int × List Int), ∃ c, (as.map fct).foldl mrg (fct c0) = fct c ∧ c0.2.length ≤ c.2.length ∧ ∀ a ∈ as, a.2.length ≤ c.2.length
  | [], c0 => ⟨c0, rfl, Nat.le_refl _, by simp⟩
  | a :: r, c0 => by
    obtain ⟨c1, e1, l1, l2⟩ := mrg_fct c0 a
    obtain ⟨c, e, l3, q⟩ := fold_fct r c1
    refine ⟨c, by rw [List.map_cons, List.foldl_cons, e1, e], by omega, fun b mb => ?_⟩
    rcases List.mem_cons.mp mb with rfl | mb
    · omega
    · exact q b mb
theorem fit_fct {c a : Int × List Int} (h : a.2.length ≤ c.2.length) : fitB (fct c) (fct a) = true := by
  rw [fct, fct, fitB, fits, fits, fits, fitB, fitB, fits_ints _ _ h]; rfl
theorem fit_all (as : List (Int × List Int)) : fitAll (as.map fct) = true := by
  cases as with
  | nil => rfl
  | cons a r =>
    obtain ⟨c, e, l, q⟩ := fold_fct r a
    unfold fitAll
    rw [List.map_cons, List.foldl_cons, show mrg .non (fct a) = fct a from rfl, e, List.all_cons, fit_fct l, Bool.true_and, List.all_eq_true]
    intro y my
    obtain ⟨b, mb, rfl⟩ := List.mem_map.mp my
    exact fit_fct (q b mb)
theorem numDs_ints (n : Nat) : ∀ us : List Int, numDs n (us.map .int) = true
  | [] => by cases n <;> rfl
  | u :: us => by cases n <;> simp [numDs, numD, numDs_ints _ us]
theorem fct_num (a : Int × List Int) : numD 8 (fct a) = true := by
  show numDs 7 [.int a.1, .tup (a.2.map .int)] = true
  rw [numDs, numDs, numD, numD, numDs_ints]; rfl
theorem keys_ok (as : List (Int × List Int)) (l : as.length ≤ 1000) : (((as.map fct).all fun d => isRec d && numD 8 d) && okSort (as.map fct)) = true := by
  have a1 : ((as.map fct).all fun d => isRec d && numD 8 d) = true := by
    rw [List.all_eq_true]
    intro y my
    obtain ⟨a, _, rfl⟩ := List.mem_map.mp my
    rw [fct_num]; rfl
  have a2 : (as.map fct).all flat = true := by
    rw [List.all_eq_true]
    intro y my
    obtain ⟨a, _, rfl⟩ := List.mem_map.mp my
    exact fct_flat a
  have a3 : (as.map fct).all isRec = true := by
    rw [List.all_eq_true]
    intro y my
    obtain ⟨a, _, rfl⟩ := List.mem_map.mp my
    rfl
  have a4 : okN (as.map fct).length = true := by unfold okN; rw [Nat.ble_eq, List.length_map]; omega
  rw [a1, okSort, a4, a2, fit_all, a3]; rfl
theorem okSet_facts (as : List (Int × List Int)) (l : as.length < 64) : okSet (as.map fct) = true := by
  have k := keys_ok as (by omega)
  unfold okSet
  rw [k, Bool.and_true, Nat.blt_eq, List.length_map]
  exact l
end Lk01
set_option maxHeartbeats 4000000
namespace Lk01
open Ma Xk01
/-- kinds that are drawn -/
def Kd (ks : List Int) : Prop := (0 < ks.length ∧ ks.length ≤ 4) ∧ ∀ k ∈ ks, 0 ≤ k ∧ k ≤ 2
section
variable {n : Nat} {h : RH}
theorem sset_facts (as : List (Int × List Int)) (l : as.length < 64) : bSset (mkL (as.map fct)) = some (mkL (sortB (dedup [] (as.map fct)))) := by
  have k := okSet_facts as l
  have z : bSset (mkL (as.map fct)) = (itL (mkL (as.map fct))).bind fun xs => if okSet xs || okSetI xs then some (mkL (sortB (dedup [] xs))) else none := rfl
  rw [z, show itL (mkL (as.map fct)) = some (as.map fct) by simp [mkL, itL]]
  show (if okSet _ || _ then _ else _) = _
  rw [k]; rfl
theorem sset_tup (as : List (Int × List Int)) (l : as.length < 64) : bSset (.fz (.tup (as.map fct))) = some (mkL (sortB (dedup [] (as.map fct)))) := by
  show (if okSet (as.map fct) then _ else _) = _
  rw [okSet_facts as l]; rfl
/-- a drawn fact -/
theorem fact_drawn (i : Pn h) (ks : List Int) (kd : Kd ks) : ∃ (a : Int × List Int) (h' : RH), runs ds (n + 4) 19 [.ref 0, .tup (ks.map .int)] h = .ok (.fz (fct a)) h' ∧ Pn h' ∧ G a := by
  obtain ⟨⟨k0, k4⟩, kb⟩ := kd
  obtain ⟨v, h1, e1, i1, v0, vb⟩ := draw_ok (n := n + 1) i (b := (ks.length : Int)) (by omega) (by omega)
  obtain ⟨k, rfl⟩ : ∃ k : Nat, v = k := ⟨v.toNat, by omega⟩
  have hkl : k < ks.length := by omega
  have at1 : atI (ks.map D.int) (k : Int) = some (.int ks[k]) := by
    rw [atI_nat _ (by simpa using hkl)]; simp [List.getElem?_eq_getElem hkl]
  have b1 := kb ks[k] (List.getElem_mem hkl)
  obtain ⟨ys, h2, e2, l2, i2, o2⟩ := comp_draw (tg := .nm 3) (s := [.fz (.ref 0), .fz (.tup (ks.map .int)), .fz (.int k), .un]) (fc := ev (runs ds (n + 3)) [] (.lit (.bl true))) (fe := ev (runs ds (n + 3)) [] (.call 14 (.cons (.var 0) (.cons (.bin .add (.idx (.var 0) (.lit (.int (3)))) (.lst (.cons (.lit (.int (0))) (.cons (.lit (.int (3))) (.cons (.lit (.int (28))) .nil))))) .nil)))) (Inv := Pn) (ok := fun d => ∃ t, d = .int t ∧ 0 ≤ t ∧ t ≤ 29)
    (fun s h => v_lit ..) (rangeD 0 ks[k].toNat) 0 [] h1 (by rw [rng_len]; unfold line; omega) i1 fun a _ h i => by
      obtain ⟨w, pw, wl, wt⟩ := pen_things i
      have ad : bAdd (.lst (w.map .int)) (.lst [.int 0, .int 3, .int 28]) = some (mkL ((w ++ [0, 3, 28]).map .int)) := by
        have : okN ((w.map D.int).length + 3) = true := by unfold okN; rw [Nat.ble_eq, List.length_map]; omega
        show (if okN ((w.map D.int).length + 3) then _ else _) = _
        rw [this]; simp
      obtain ⟨v, h', e, i', m⟩ := one_ok (n := n) i ((w ++ [0, 3, 28]).map .int) (by simp) (by rw [List.length_map, List.length_append]; simp; omega)
      obtain ⟨t, ht, rfl⟩ := List.mem_map.mp m
      refine ⟨_, .fz (.int t), h', bindT_nm .., by simp only [v_call, v_cons, v_bin, r_idx, r_lst]; simp [pw, ad]; simpa using e, i', t, rfl, ?_⟩
      simp only [List.mem_append, List.mem_cons, List.not_mem_nil, or_false] at ht
      rcases ht with ht | rfl | rfl | rfl
      · have := wt t ht; omega
      all_goals decide
  obtain ⟨us, rfl, hu⟩ := exists_map ys o2
  rw [rng_len, List.length_map] at l2
  refine ⟨(k, us), h2, ?_, i2, ⟨⟨by simp, by simp only; omega⟩, by simp only; omega, fun t ht => hu t ht⟩⟩
  refine run_ret (d := d19) rfl rfl ?_
  have sm0 : sm 0 = true := by decide
  have smk : sm ks[k] = true := by unfold sm; simp; omega
  simp [d19, e1, at1, sm0, smk]
  rw [e2]
  simp [fct]
theorem exists_fct {ok : D → Prop} : ∀ ys : List D, (∀ y ∈ ys, ∃ a, y = fct a ∧ G a) → ∃ as : List (Int × List Int), ys = as.map fct ∧ ∀ a ∈ as, G a := fun ys h => exists_map (em := fct) (P := G) ys h
/-- a drawn store -/
theorem store_drawn (i : Pn h) (ks : List Int) (kd : Kd ks) : ∃ (as : List (Int × List Int)) (h' : RH), runs ds (n + 5) 20 [.ref 0, .tup (ks.map .int), .int 6] h = .ok (.fz (.tup (as.map fct))) h' ∧ Pn h' ∧ as.length ≤ 6 ∧ ∀ a ∈ as, G a := by
  obtain ⟨v, h1, e1, i1, v0, v7⟩ := draw_ok (n := n + 2) i (b := 7) (by decide) (by decide)
  obtain ⟨ys, h2, e2, l2, i2, o2⟩ := comp_draw (tg := .nm 3) (s := [.fz (.ref 0), .fz (.tup (ks.map .int)), .fz (.int 6), .un]) (fc := ev (runs ds (n + 4)) [] (.lit (.bl true))) (fe := ev (runs ds (n + 4)) [] (.call 19 (.cons (.var 0) (.cons (.var 1) .nil)))) (Inv := Pn) (ok := fun d => ∃ a, d = fct a ∧ G a)
    (fun s h => v_lit ..) (rangeD 0 v.toNat) 0 [] h1 (by rw [rng_len]; unfold line; omega) i1 fun a _ h i => by
      obtain ⟨b, h', e, i', g⟩ := fact_drawn (n := n) i ks kd
      exact ⟨_, .fz (fct b), h', bindT_nm .., by simp [e], i', b, rfl, g⟩
  obtain ⟨us, rfl, hu⟩ := exists_map ys o2
  rw [rng_len, List.length_map] at l2
  obtain ⟨bs, eb, lb, gb⟩ := set_facts us hu
  refine ⟨bs, h2, ?_, i2, by omega, gb⟩
  refine run_ret (d := d20) rfl rfl ?_
  have sm0 : sm 0 = true := by decide
  have smv : sm v = true := by unfold sm; simp; omega
  have ss := sset_facts us (by omega)
  rw [eb] at ss
  simp [d20, e1, sm0, smv]
  rw [e2]
  have mk : T.oL (0 + (rangeD 0 v.toNat).length) ((List.map fct us).reverse ++ []) = mkL (us.map fct) := by
    rw [rng_len]; simp [mkL]; omega
  rw [mk]
  simp [ss]
/-! ### among -/
theorem fsts_map : ∀ as : List (Int × List Int), fsts (as.map fun a => .tup [fct a, .bl true]) = some (as.map fct)
  | [] => rfl
  | a :: r => by rw [List.map_cons, fsts, fsts_map r]; rfl
theorem among_ok (as bs : List (Int × List Int)) (la : as.length ≤ 100) (lb : bs.length ≤ 100) : runs ds (n + 1) 10 [.tup (as.map fct), .tup (bs.map fct)] h = .ok (.fz (.bl (as.all fun a => bs.contains a))) h := by
  obtain ⟨cs, ec, q⟩ := ddp_fct bs []
  simp only [List.map_nil] at ec
  have same : ∀ a, mem (fct a) (cs.map fct) = bs.contains a := fun a => by
    rw [mem_fct, Bool.eq_iff_iff]
    simp only [List.contains_iff_mem, q]
    simp
  have dk : bDset (mkL (bs.map fun a => .tup [fct a, .bl true])) = some (.fz (.kst (cs.map fct))) := by
    unfold bDset
    rw [show itL (mkL (bs.map fun a => D.tup [fct a, .bl true])) = some (bs.map fun a => .tup [fct a, .bl true]) by simp [mkL, itL]]
    show ((fsts _).bind _) = _
    rw [fsts_map]
    show (if _ then _ else _) = _
    rw [keys_ok bs (by omega), ec]; rfl
  refine run_ret (d := d10) rfl rfl ?_
  simp only [d10]
  simp
  rw [comp_map (fun s h => v_lit ..) fct (fun a => .tup [fct a, .bl true]) bs 0 [] (by unfold line; omega) (fun a ha => ⟨_, _, bindT_nm .., by simp; rfl, rfl⟩)]
  have mk : T.oL (0 + bs.length) ((bs.map fun a => D.tup [fct a, .bl true]).reverse ++ []) = mkL (bs.map fun a => .tup [fct a, .bl true]) := by simp [mkL]
  rw [mk]
  simp [b1, dk]
  rw [comp_map (fun s h => v_lit ..) fct (fun a => .bl (mem (fct a) (cs.map fct))) as 0 [] (by unfold line; omega) (fun a ha => ⟨_, .fz (.bl (mem (fct a) (cs.map fct))), bindT_nm .., by
    have kn : kinT (fct a) (.kst (cs.map fct)) = some (.fz (.bl (mem (fct a) (cs.map fct)))) := by
      show (if isRec (fct a) && numD 8 (fct a) then _ else _) = _
      rw [fct_num]; rfl
    simp [kn], rfl⟩)]
  simp [bAll, itL, allB_map, same]
end
end Lk01
set_option maxHeartbeats 4000000
namespace Lk01
open Ma Xk01
/-! ### facts can be shown -/
theorem small_lt {i : Int} (h0 : 0 ≤ i) (h1 : i ≤ 29) {k : Nat} (k2 : 2 ≤ k) : i.natAbs < 10 ^ k := by
  have : (10 : Nat) ^ 2 ≤ 10 ^ k := Nat.pow_le_pow_right (by decide) k2
  omega
theorem okl_int (e : Bool) {k : Nat} (n : Nat) {i : Int} (h : i.natAbs < 10 ^ k) : okl e k n (.int i) = true := by
  have : okl e k n (.int i) = decide (i.natAbs < 10 ^ k) := by cases n <;> rfl
  rw [this]; exact decide_eq_true h
theorem fct_okl {a : Int × List Int} (g : G a) (e : Bool) {k : Nat} (k2 : 2 ≤ k) : okl e k 2 (fct a) = true := by
  obtain ⟨⟨a0, a4⟩, _, at_⟩ := g
  refine okl_mk fun y my => ?_
  simp only [List.mem_cons, List.not_mem_nil, or_false] at my
  rcases my with rfl | rfl
  · exact okl_int e 1 (small_lt a0 (by omega) k2)
  · refine okl_mk fun y my => ?_
    obtain ⟨t, mt, rfl⟩ := List.mem_map.mp my
    exact okl_int e 0 (small_lt (at_ t mt).1 (at_ t mt).2 k2)
theorem ints_nds : ∀ us : List Int, ndss (us.map D.int) = us.length
  | [] => rfl
  | u :: us => by rw [List.map_cons, ndss, ints_nds us, List.length_cons]; simp [nds]; omega
theorem fct_nds {a : Int × List Int} (g : G a) : nds (fct a) ≤ 5 := by
  have := g.2.1
  have e : nds (fct a) = a.2.length + 3 := by simp [fct, nds, ndss, ints_nds]; omega
  omega
theorem fcts_nds : ∀ as : List (Int × List Int), (∀ a ∈ as, G a) → ndss (as.map fct) ≤ 5 * as.length
  | [], _ => by simp [ndss]
  | a :: r, g => by
    have h1 := fct_nds (g a List.mem_cons_self)
    have h2 := fcts_nds r fun b m => g b (List.mem_cons_of_mem _ m)
    rw [List.map_cons, ndss, List.length_cons]; omega
theorem fcts_okl {as : List (Int × List Int)} (g : ∀ a ∈ as, G a) (e : Bool) {k : Nat} (k2 : 2 ≤ k) : okl e k 3 (.tup (as.map fct)) = true :=
  okl_mk fun y my => by
    obtain ⟨a, ma, rfl⟩ := List.mem_map.mp my
    exact fct_okl (g a ma) e k2
theorem store_shw {as : List (Int × List Int)} (g : ∀ a ∈ as, G a) (l : as.length ≤ 100) : Shw (.tup (as.map fct)) := by
  refine ⟨false, okl_more _ 3 10 (by decide) (fcts_okl g false (by decide)), ?_⟩
  have := fcts_nds as g
  simp only [nds]; omega
theorem list_shw {as : List (Int × List Int)} (g : ∀ a ∈ as, G a) (l : as.length ≤ 100) : Shw (.lst (as.map fct)) := by
  refine ⟨false, okl_more _ 3 10 (by decide) (okl_mkL fun y my => ?_), ?_⟩
  · obtain ⟨a, ma, rfl⟩ := List.mem_map.mp my
    exact fct_okl (g a ma) false (by decide)
  · have := fcts_nds as g
    simp only [nds]; omega
theorem bent_shw {m : Nat} {v r : D} (b : Bent m v r) (hm : m ≤ 7) (l : nds v ≤ 400) : Shw r := by
  obtain ⟨⟨e, o⟩, n⟩ := b
  exact ⟨e, okl_more r (m + 3) 10 (by omega) o, by omega⟩
theorem odd_shw {v : D} (o : ∃ e, okl e 42 3 v = true) (l : nds v ≤ 8) : Shw v := by
  obtain ⟨e, o⟩ := o
  exact ⟨e, okl_more v 3 10 (by decide) o, by omega⟩
/-! ### 3,600 facts -/
def rngI (a : Int) : Nat → List Int
  | 0 => []
  | n + 1 => a :: rngI (a + 1) n
theorem rngI_map : ∀ (n : Nat) (a : Int), rangeD a n = (rngI a n).map .int
  | 0, _ => rfl
  | n + 1, a => by rw [rangeD, rngI, List.map_cons, rngI_map n]
theorem rngI_mem : ∀ (n : Nat) (a z : Int), z ∈ rngI a n → a ≤ z ∧ z < a + n
  | n + 1, a, z, h => by
    rcases List.mem_cons.mp h with rfl | h
    · omega
    · have := rngI_mem n (a + 1) z h; omega
theorem rngI_len : ∀ (n : Nat) (a : Int), (rngI a n).length = n
  | 0, _ => rfl
  | n + 1, a => by rw [rngI, List.length_cons, rngI_len n]
/-- the facts in the making -/
def oF (as : List (Int × List Int)) : T := .oL as.length (as.map fct).reverse
def sI : S := match d25.body with
  | .seq _ (.seq (.for_ _ _ (.for_ _ _ b)) _) => b
  | _ => .skip
section
variable {Φ : Cal} {h : RH}
theorem i_step (as : List (Int × List Int)) (k o : Int) (K t4 : T) (l : as.length ≤ 100000) :
    ex Φ [] sI [K, oF as, .fz (.int k), .fz (.int o), t4] h = .nx [K, oF (as ++ (rngI 0 30).map fun z => (k, [o, z])), .fz (.int k), .fz (.int o), t4] h := by
  have sm0 : sm 0 = true := by decide
  have sm30 : sm 30 = true := by decide
  simp only [sI, d25]
  simp [sm0, sm30, oF]
  rw [rngI_map, comp_map (fun s h => v_lit ..) D.int (fun z => fct (k, [o, z])) (rngI 0 30) 0 [] (by rw [rngI_len]; unfold line; omega) (fun z _ => ⟨_, _, bindT_nm .., by simp; rfl, rfl⟩)]
  have ok : okN (as.length + 30) = true := by unfold okN; rw [Nat.ble_eq]; omega
  simp [rngI_len, ok, List.map_map, Function.comp_def]
theorem i_loop (k : Int) (k0 : 0 ≤ k ∧ k ≤ 3) (K : T) : ∀ (os : List Int) (as : List (Int × List Int)) (t3 t4 : T), (∀ o ∈ os, 0 ≤ o ∧ o ≤ 29) → (∀ a ∈ as, G a) → as.length + 30 * os.length ≤ 100000 →
    ∃ (bs : List (Int × List Int)) (t3' : T), forGo (.nm 3) (ex Φ [] sI) (os.map .int) [K, oF as, .fz (.int k), t3, t4] h = .nx [K, oF bs, .fz (.int k), t3', t4] h ∧ (∀ b ∈ bs, G b) ∧ bs.length = as.length + 30 * os.length
  | [], as, t3, t4, _, g, _ => ⟨as, t3, rfl, g, by simp⟩
  | o :: os, as, t3, t4, ho, g, l => by
    simp only [List.length_cons] at l
    have g2 : ∀ a ∈ as ++ (rngI 0 30).map (fun z => (k, [o, z])), G a := fun a ma => by
      rcases List.mem_append.mp ma with m | m
      · exact g a m
      · obtain ⟨z, mz, rfl⟩ := List.mem_map.mp m
        have := rngI_mem 30 0 z mz
        have := ho o List.mem_cons_self
        refine ⟨⟨k0.1, by omega⟩, by simp, fun t mt => ?_⟩
        simp only [List.mem_cons, List.not_mem_nil, or_false] at mt
        rcases mt with rfl | rfl <;> omega
    have ll : (as ++ (rngI 0 30).map fun z => ((k, [o, z]) : Int × List Int)).length = as.length + 30 := by rw [List.length_append, List.length_map, rngI_len]
    obtain ⟨bs, t3', e, gb, lb⟩ := i_loop k k0 K os (as ++ (rngI 0 30).map fun z => (k, [o, z])) (.fz (.int o)) t4 (fun p m => ho p (List.mem_cons_of_mem _ m)) g2 (by rw [ll]; omega)
    refine ⟨bs, t3', ?_, gb, by rw [lb, ll, List.length_cons]; omega⟩
    rw [List.map_cons, forGo_cons]
    simp only [bindT_nm, setTS, setT0]
    rw [i_step _ _ _ _ _ (by omega)]
    exact e
theorem o_loop (K : T) : ∀ (ks : List Int) (as : List (Int × List Int)) (t2 t3 t4 : T), (∀ k ∈ ks, 0 ≤ k ∧ k ≤ 3) → (∀ a ∈ as, G a) → as.length + 900 * ks.length ≤ 100000 →
    ∃ (bs : List (Int × List Int)) (t2' t3' : T), forGo (.nm 2) (ex Φ [] (.for_ (.nm 3) (.rng (.lit (.int 0)) (.lit (.int (30)))) sI)) (ks.map .int) [K, oF as, t2, t3, t4] h = .nx [K, oF bs, t2', t3', t4] h ∧ (∀ b ∈ bs, G b) ∧ bs.length = as.length + 900 * ks.length
  | [], as, t2, t3, t4, _, g, _ => ⟨as, t2, t3, rfl, g, by simp⟩
  | k :: ks, as, t2, t3, t4, hk, g, l => by
    simp only [List.length_cons] at l
    obtain ⟨bs, t3', e, gb, lb⟩ := i_loop (Φ := Φ) (h := h) k (hk k List.mem_cons_self) K (rngI 0 30) as t3 t4 (fun o m => by have := rngI_mem 30 0 o m; omega) g (by rw [rngI_len]; omega)
    rw [rngI_len] at lb
    obtain ⟨cs, t2', t3'', e2, gc, lc⟩ := o_loop K ks bs (.fz (.int k)) t3' t4 (fun p m => hk p (List.mem_cons_of_mem _ m)) gb (by omega)
    refine ⟨cs, t2', t3'', ?_, gc, by rw [lc, lb, List.length_cons]; omega⟩
    have sm0 : sm 0 = true := by decide
    have sm30 : sm 30 = true := by decide
    rw [List.map_cons, forGo_cons]
    simp only [bindT_nm, setTS, setT0]
    simp [sm0, sm30]
    rw [rngI_map, e]
    exact e2
end
theorem great_txt {as : List (Int × List Int)} (g : ∀ a ∈ as, G a) (l : as.length ≤ 3700) : okTxt (.tup (as.map fct)) = true := by
  refine okl_okTxt (fcts_okl g false (k := 2) (by decide)) (by decide) (by decide) (by decide) ?_
  have := fcts_nds as g
  simp only [nds]; omega
theorem great_few {as : List (Int × List Int)} (g : ∀ a ∈ as, G a) (l : as.length ≤ 3700) : ∀ xs, D.tup (as.map fct) = .tup xs → ∀ x ∈ xs, few x := by
  refine fews_of ?_
  have := fcts_nds as g
  simp only [nds]; omega
section
variable {n : Nat} {h : RH}
def sG : S := match d25.body with
  | .seq _ (.seq _ b) => b
  | _ => .skip
abbrev K4 : D := .tup [.int 2, .int 2, .int 2, .int 2]
theorem g_first {Φ : Cal} {I Gs : S} {s' : Sl} {h h' : RH} (e : forGo (.nm 2) (ex Φ [] (.for_ (.nm 3) (.rng (.lit (.int 0)) (.lit (.int (30)))) I)) ((rngI 0 4).map .int) [.fz K4, oF [], .un, .un, .un] h = .nx s' h') :
    ex Φ [] (.seq (.par [(0, false), (1, true)] [(.tup (.cons (.lit (.int (2))) (.cons (.lit (.int (2))) (.cons (.lit (.int (2))) (.cons (.lit (.int (2))) .nil))))), (.lst .nil)]) (.seq (.for_ (.nm 2) (.rng (.lit (.int 0)) (.lit (.int (4)))) (.for_ (.nm 3) (.rng (.lit (.int 0)) (.lit (.int (30)))) I)) Gs)) (slots 5 []) h = ex Φ [] Gs s' h' := by
  have sm0 : sm 0 = true := by decide
  have sm4 : sm 4 = true := by decide
  have st : (T.oL 0 []) = oF [] := rfl
  rw [← rngI_map] at e
  rw [x_seq]
  simp only [x_par, par_cons, par_consO, par_nil, v_tup, v_cons, v_lit, v_nil, v_lst, row_ok, bind_ok, frz_ok, go_ok, slots0, slotsN, setT0, setTS, d_fz]
  rw [nxt_nx, x_seq, x_for_]
  rw [v_rng, v_lit, int_ok, v_lit, int_ok, sm0, sm4]
  rw [show (true && true) = true from rfl, if_pos rfl, go_ok, items_it]
  dsimp only
  rw [show ((4 : Int) - 0).toNat = 4 from rfl, show mkL [] = oF [] from rfl, e, nxt_nx]
theorem g_last {Φ : Cal} {as : List (Int × List Int)} {t2 t3 t4 : T} {h : RH} (l : as.length ≤ 3700) (r1 : Φ 24 [K4, .tup (as.map fct)] h = .ok (.fz (.bl true)) h) (r2 : Φ 24 [K4, .tup ((as ++ [((0 : Int), [(0 : Int), 0])]).map fct)] h = .ok (.fz (.bl true)) h)
    (f1 : Φ 7 [K4, .tup [.int 3, .tup [.int 29, .int 29]]] h = .ok (.fz (.bl true)) h) (f2 : Φ 7 [K4, .tup [.int 3, .tup [.int 29, .int 30]]] h = .ok (.fz (.bl false)) h) (f3 : Φ 7 [K4, .tup [.int 4, .tup [.int 0, .int 0]]] h = .ok (.fz (.bl false)) h) :
    ex Φ [] sG [.fz K4, oF as, t2, t3, t4] h = .ret (.fz (.bl true)) h := by
  have ok : okN ((as.map fct).length + 1) = true := by unfold okN; rw [Nat.ble_eq, List.length_map]; omega
  have ad : bAdd (.tup (as.map fct)) (.tup [.tup [.int 0, .tup [.int 0, .int 0]]]) = some (.fz (.tup ((as ++ [((0 : Int), [(0 : Int), 0])]).map fct))) := by
    show (if okN ((as.map fct).length + 1) then _ else _) = _
    rw [ok, List.map_append]; rfl
  simp only [K4] at r1 r2 f1 f2 f3
  simp only [sG, d25]
  simp [oF, r1, ad]
  simp at r2
  simp [r2, f1, f2, f3]
theorem great_ok : runs ds (n + 8) 25 [] h = .ok (.fz (.bl true)) h := by
  have body : d25.body = .seq (.par [(0, false), (1, true)] [(.tup (.cons (.lit (.int (2))) (.cons (.lit (.int (2))) (.cons (.lit (.int (2))) (.cons (.lit (.int (2))) .nil))))), (.lst .nil)]) (.seq (.for_ (.nm 2) (.rng (.lit (.int 0)) (.lit (.int (4)))) (.for_ (.nm 3) (.rng (.lit (.int 0)) (.lit (.int (30)))) sI)) sG) := rfl
  obtain ⟨as, t2, t3, e, g, l⟩ := o_loop (Φ := runs ds (n + 7)) (h := h) (.fz K4) (rngI 0 4) [] .un .un .un (fun k m => by have := rngI_mem 4 0 k m; omega) (by simp) (by rw [rngI_len]; simp)
  rw [rngI_len] at l
  simp only [List.length_nil] at l
  have r1 := right_ok (n := n) (h := h) (ks := [2, 2, 2, 2]) (fcts_okl g false (k := 2) (by decide)) (great_few g (by omega)) (great_txt g (by omega))
  have g2 : ∀ a ∈ as ++ [((0 : Int), [(0 : Int), 0])], G a := fun a m => by
    rcases List.mem_append.mp m with m | m
    · exact g a m
    · simp only [List.mem_cons, List.not_mem_nil, or_false] at m
      subst m
      exact ⟨by decide, by decide, by decide⟩
  have l2 : (as ++ [((0 : Int), [(0 : Int), 0])]).length ≤ 3700 := by rw [List.length_append]; simp; omega
  have r2 := right_ok (n := n) (h := h) (ks := [2, 2, 2, 2]) (fcts_okl g2 false (k := 2) (by decide)) (great_few g2 l2) (great_txt g2 l2)
  have f1 := fact_ok (n := n + 4) (h := h) (ks := [2, 2, 2, 2]) (v := .tup [.int 3, .tup [.int 29, .int 29]]) (e := false) (k := 2) (j := 3) (by decide) (few_of (by decide))
  have f2 := fact_ok (n := n + 4) (h := h) (ks := [2, 2, 2, 2]) (v := .tup [.int 3, .tup [.int 29, .int 30]]) (e := false) (k := 2) (j := 3) (by decide) (few_of (by decide))
  have f3 := fact_ok (n := n + 4) (h := h) (ks := [2, 2, 2, 2]) (v := .tup [.int 4, .tup [.int 0, .int 0]]) (e := false) (k := 2) (j := 3) (by decide) (few_of (by decide))
  rw [show isF [2, 2, 2, 2] (.tup [.int 3, .tup [.int 29, .int 29]]) = true by decide] at f1
  rw [show isF [2, 2, 2, 2] (.tup [.int 3, .tup [.int 29, .int 30]]) = false by decide] at f2
  rw [show isF [2, 2, 2, 2] (.tup [.int 4, .tup [.int 0, .int 0]]) = false by decide] at f3
  refine run_ret (d := d25) rfl rfl ?_
  rw [body, show d25.ns = 5 from rfl, g_first e]
  exact g_last (by omega) r1 r2 f1 f2 f3
end
end Lk01
set_option maxHeartbeats 4000000
namespace Lk01
open Ma Xk01
/-- parts of the law's body -/
def sLap : S := match d26.body with
  | .seq _ (.seq (.for_ _ _ b) _) => b
  | _ => .skip
/-- the n-th statement of a row -/
def nthS : Nat → S → S
  | 0, .seq a _ => a
  | 0, a => a
  | n + 1, .seq _ b => nthS n b
  | _ + 1, _ => .skip
def inner : S → S
  | .for_ _ _ b => b
  | _ => .skip
def sTurn : S := inner (nthS 3 sLap)
def sVal : S := inner (nthS 6 sLap)
def sAm : S := inner (nthS 8 sLap)
section
variable {h : RH}
theorem fcts_flats : ∀ as : List (Int × List Int), flats (as.map fct) = true
  | [] => rfl
  | a :: r => by
    show flatsN 60 (fct a :: r.map fct) = true
    rw [flatsN, show flatN 60 (fct a) = true from fct_flat a, show flatsN 60 (r.map fct) = true from fcts_flats r]; rfl
/-- a list is bent into an odd value -/
theorem bent_list {n : Nat} (i : Pn h) (xs : List D) (dd : D) : ∃ r h', runs ds (n + 5) 17 [.ref 0, .lst xs, dd] h = .ok (.fz r) h' ∧ Pn h' ∧ Shw r := by
  obtain ⟨r, h', e, i', ⟨⟨b, o⟩, l⟩⟩ := stop_odd (n := n) i 0 (.lst []) dd ⟨false, rfl, nofun⟩ rfl .un .un .un
  obtain ⟨o1, h1', e1, i1, o0, o8⟩ := draw_ok (n := n + 2) i (b := 8) (by decide) (by decide)
  obtain ⟨r, h2', e2, i2, ok, l⟩ := odd_ok (n := n) i1
  refine ⟨r, h2', ?_, i2, odd_shw ok l⟩
  refine run_ret (d := d17) rfl rfl ?_
  rw [bent_body, show d17.ns = 6 from rfl]
  simp only [sB, d17]
  simp [isTy, e1, e2]
/-- of what is bent: a store, turned round, as a list -/
inductive Bs : D → Prop where
  | tup {as : List (Int × List Int)} : (∀ a ∈ as, G a) → as.length ≤ 6 → Bs (.tup (as.map fct))
  | lst {xs : List D} : Bs (.lst xs)
theorem fcts_tn {as : List (Int × List Int)} (g : ∀ a ∈ as, G a) : Tn 3 (.tup (as.map fct)) := fun e => fcts_okl g e (by decide)
theorem bent_any (i : Pn h) (v : D) (b : Bs v) (d : Int) (d0 : 0 ≤ d) (d4 : d ≤ 4) : ∃ r h', runs ds 12 17 [.ref 0, v, .int d] h = .ok (.fz r) h' ∧ Pn h' ∧ Shw r := by
  obtain ⟨k, rfl⟩ : ∃ k : Nat, d = k := ⟨d.toNat, by omega⟩
  have hk : k ≤ 4 := by omega
  cases b with
  | tup g l =>
    rename_i as
    have sz : nds (.tup (as.map fct)) ≤ 100 := by
      have := fcts_nds as g
      simp only [nds]; omega
    obtain ⟨r, h', e, i', b⟩ := bent_ok k (7 - k) 3 _ h i (by decide) (fcts_tn g) (by omega)
    rw [show 7 - k + k + 5 = 12 by omega] at e
    exact ⟨r, h', e, i', bent_shw b (by decide) (by omega)⟩
  | lst => exact bent_list (n := 7) i _ _
/-- one turn -/
theorem turn_loop (b1 b2 b3 : D) (c1 : Bs b1) (c2 : Bs b2) (c3 : Bs b3) (s0 t2 t3 t4 t5 t8 t9 ta tb tc td te : T) : ∀ (l : List D) (rs : List D) (t7 : T) (h : RH), Pn h → (∀ x ∈ rs, Shw x) → 3 ≤ rs.length → rs.reverse.take 3 = [b1, b2, b3] → rs.length + l.length ≤ 100 →
    ∃ (rs' : List D) (t7' : T) (h' : RH), forGo (.nm 7) (ex (runs ds 12) [] sTurn) l [s0, .fz (.ref 0), t2, t3, t4, t5, .oL rs.length rs, t7, t8, t9, ta, tb, tc, td, te] h = .nx [s0, .fz (.ref 0), t2, t3, t4, t5, .oL rs'.length rs', t7', t8, t9, ta, tb, tc, td, te] h' ∧ Pn h' ∧ (∀ x ∈ rs', Shw x) ∧ rs'.length ≤ 100
  | [], rs, t7, h, i, sh, _, _, ll => ⟨rs, t7, h, rfl, i, sh, by simpa using ll⟩
  | a :: l, rs, t7, h, i, sh, r3, tk, ll => by
    simp only [List.length_cons] at ll
    obtain ⟨v, h1, e1, i1, m1⟩ := one_ok (n := 9) i [b1, b2, b3] (by simp) (by simp)
    have bv : Bs v := by
      simp only [List.mem_cons, List.not_mem_nil, or_false] at m1
      rcases m1 with rfl | rfl | rfl
      · exact c1
      · exact c2
      · exact c3
    obtain ⟨d, h2, e2, i2, d0, d4⟩ := draw_ok (n := 10) i1 (b := 4) (by decide) (by decide)
    obtain ⟨r, h3, e3, i3, sr⟩ := bent_any i2 v bv (1 + d) (by omega) (by omega)
    obtain ⟨rs', t7', h', e, i', sh', l'⟩ := turn_loop b1 b2 b3 c1 c2 c3 s0 t2 t3 t4 t5 t8 t9 ta tb tc td te l (r :: rs) (.fz a) h3 i3 (fun x m => by
      rcases List.mem_cons.mp m with rfl | m
      · exact sr
      · exact sh x m) (by simp; omega) (by rw [List.reverse_cons, List.take_append_of_le_length (by rw [List.length_reverse]; omega), tk]) (by simp; omega)
    refine ⟨rs', t7', h', ?_, i', sh', l'⟩
    have sl : slcD (.lst rs.reverse) none (some 3) = some (mkL [b1, b2, b3]) := by
      have e : cut rs.reverse (sIx rs.reverse.length 0 none) (sIx rs.reverse.length rs.reverse.length (some 3)) = rs.reverse.take 3 := by
        show ((rs.reverse.drop 0).take ((if Nat.blt rs.reverse.length 3 then rs.reverse.length else 3) - 0)) = _
        have c : ¬ (Nat.blt rs.reverse.length 3 = true) := by rw [Nat.blt_eq, List.length_reverse]; omega
        rw [if_neg c]; rfl
      rw [slcD, e, tk]
    have bl : Nat.blt rs.length line = true := by rw [Nat.blt_eq]; unfold line; omega
    simp only [List.length_cons] at e
    rw [forGo_cons]
    simp only [bindT_nm, setTS, setT0]
    simp only [sTurn, sLap, nthS, inner, d26]
    simp [sl, e1, e2, e3, bl]
    exact e
/-- values told alike -/
theorem val_loop (ks : List Int) (s0 t2 t4 t5 t6 t7 t9 ta tb tc td te : T) : ∀ (l : List D) (t8 : T), (∀ v ∈ l, Shw v) →
    ∃ t8', forGo (.nm 8) (ex (runs ds 12) [] sVal) l [s0, .fz (.ref 0), t2, .fz (.tup (ks.map .int)), t4, t5, t6, t7, t8, t9, ta, tb, tc, td, te] h = .nx [s0, .fz (.ref 0), t2, .fz (.tup (ks.map .int)), t4, t5, t6, t7, t8', t9, ta, tb, tc, td, te] h
  | [], t8, _ => ⟨t8, rfl⟩
  | v :: l, t8, sh => by
    obtain ⟨t8', e⟩ := val_loop ks s0 t2 t4 t5 t6 t7 t9 ta tb tc td te l (.fz v) fun x m => sh x (List.mem_cons_of_mem _ m)
    obtain ⟨ev_, o, nn⟩ := id (sh v List.mem_cons_self)
    have f1 := fact_ok (n := 9) (h := h) (ks := ks) o (few_of (by omega))
    have f2 := fact_ok' (n := 10) (h := h) (ks := ks) o (few_of (by omega))
    have rb : ∀ b : Bool, bRepr (.fz (.bl b)) = some (.fz (.str (txt (.bl b)))) := fun b => txt_repr (by cases b <;> decide)
    refine ⟨t8', ?_⟩
    rw [forGo_cons]
    simp only [bindT_nm, setTS, setT0]
    simp only [sVal, sLap, nthS, inner, d26]
    simp [f1, f2, rb]
    exact e
/-- stores among stores -/
theorem am_loop (s0 t2 t3 t4 t5 t6 t7 t8 t9 ta : T) : ∀ (l : List (List (Int × List Int) × List (Int × List Int))) (tb tc td te : T), (∀ p ∈ l, p.1.length ≤ 100 ∧ p.2.length ≤ 100) →
    ∃ (tb' tc' td' te' : T), forGo (.tp [.nm 11, .nm 12]) (ex (runs ds 12) [] sAm) (l.map fun p => .tup [.tup (p.1.map fct), .tup (p.2.map fct)]) [s0, .fz (.ref 0), t2, t3, t4, t5, t6, t7, t8, t9, ta, tb, tc, td, te] h = .nx [s0, .fz (.ref 0), t2, t3, t4, t5, t6, t7, t8, t9, ta, tb', tc', td', te'] h
  | [], tb, tc, td, te, _ => ⟨tb, tc, td, te, rfl⟩
  | p :: l, tb, tc, td, te, sh => by
    obtain ⟨l1, l2⟩ := sh p List.mem_cons_self
    have am := among_ok (n := 11) (h := h) p.1 p.2 l1 l2
    have rb : ∀ b : Bool, bRepr (.fz (.bl b)) = some (.fz (.str (txt (.bl b)))) := fun b => txt_repr (by cases b <;> decide)
    have nin : ∀ a ∈ p.1.map fct, cmpT .nin a (.tup (p.2.map fct)) = some (.fz (.bl (!mem a (p.2.map fct)))) := fun a ma => by
      obtain ⟨b, _, rfl⟩ := List.mem_map.mp ma
      have f1 : flat (fct b) = true := fct_flat b
      have f2 : flats (p.2.map fct) = true := fcts_flats p.2
      have z : cmpT .nin (fct b) (.tup (p.2.map fct)) = ((cIn (fct b) (.tup (p.2.map fct))).map (!·)).map fun b => .fz (.bl b) := rfl
      rw [z]
      show (((if flat (fct b) && flats (p.2.map fct) then some (mem (fct b) (p.2.map fct)) else none).map (!·)).map _) = _
      rw [f1, f2]; rfl
    obtain ⟨m, em, q⟩ := comp_fil (Φ := runs ds 12) (tg := .nm 14) (s := [s0, .fz (.ref 0), t2, t3, t4, t5, t6, t7, t8, t9, ta, .fz (.tup (p.1.map fct)), .fz (.tup (p.2.map fct)), td, .un]) (fc := ev (runs ds 12) [] (.cmp .nin (.var 14) (.var 12))) (fe := ev (runs ds 12) [] (.lit (.int (1)))) (h := h) (c := .int 1) (p := fun x => !mem x (p.2.map fct)) (p.1.map fct) 0 0 (by rw [List.length_map]; unfold line; omega) (fun a ha => ⟨_, bindT_nm .., by simp [nin a ha], by simp⟩)
    rw [List.replicate_zero] at em
    have all_ : decide (m = 0) = p.1.all fun a => p.2.contains a := by
      rw [Bool.eq_iff_iff, decide_eq_true_eq, q, List.all_eq_true]
      constructor
      · intro z a ma
        have := z (fct a) (List.mem_map_of_mem ma)
        rw [mem_fct] at this
        simpa using this
      · intro z x mx
        obtain ⟨a, ma, rfl⟩ := List.mem_map.mp mx
        rw [mem_fct]
        have := z a ma
        simpa using this
    have ne := none_eq m
    simp only [List.reverse_replicate] at ne
    obtain ⟨tb', tc', td', te', e⟩ := am_loop s0 t2 t3 t4 t5 t6 t7 t8 t9 ta l (.fz (.tup (p.1.map fct))) (.fz (.tup (p.2.map fct))) (.fz (.bl (p.1.all fun a => decide (a ∈ p.2)))) te fun x mx => sh x (List.mem_cons_of_mem _ mx)
    refine ⟨tb', tc', td', te', ?_⟩
    rw [List.map_cons, forGo_cons]
    simp only [bindT_tp, bindTs_nm, bindTs_nil, setTS, setT0]
    simp only [sAm, sLap, nthS, inner, d26]
    simp
    rw [em]
    simp
    rw [ne]
    simp [all_, am, rb]
    exact e
end
end Lk01
set_option maxHeartbeats 1000000
namespace Lk01
open Ma Xk01
theorem lap_parts : sLap = .seq (nthS 0 sLap) (.seq (nthS 1 sLap) (.seq (nthS 2 sLap) (.seq (.for_ (.nm 7) (.rng (.lit (.int 0)) (.lit (.int (6)))) sTurn) (.seq (nthS 4 sLap) (.seq (nthS 5 sLap) (.seq (nthS 6 sLap) (.seq (nthS 7 sLap) (nthS 8 sLap)))))))) := rfl
section
variable {Φ : Cal} {h h1 h2 h3 : RH} {s0 t2 t3 t4 t5 t6 t7 t8 t9 ta tb tc td te : T}
theorem q0 {K : D} (e : Φ 18 [.ref 0] h = .ok (.fz K) h1) : ex Φ [] (nthS 0 sLap) [s0, .fz (.ref 0), t2, t3, t4, t5, t6, t7, t8, t9, ta, tb, tc, td, te] h = .nx [s0, .fz (.ref 0), t2, .fz K, t4, t5, t6, t7, t8, t9, ta, tb, tc, td, te] h1 := by
  simp only [nthS, sLap, d26]
  simp [e]
theorem q1 {K a b : D} (e : Φ 20 [.ref 0, K, .int 6] h = .ok (.fz a) h1) (e2 : Φ 20 [.ref 0, K, .int 6] h1 = .ok (.fz b) h2) : ex Φ [] (nthS 1 sLap) [s0, .fz (.ref 0), t2, .fz K, t4, t5, t6, t7, t8, t9, ta, tb, tc, td, te] h = .nx [s0, .fz (.ref 0), t2, .fz K, .fz a, .fz b, t6, t7, t8, t9, ta, tb, tc, td, te] h2 := by
  simp only [nthS, sLap, d26]
  simp [e, e2]
abbrev c01 (xs : List D) : List D := cut xs (sIx xs.length 0 none) (sIx xs.length xs.length (some 1))
abbrev cm1 (xs : List D) : List D := cut xs (sIx xs.length 0 (some (-1))) (sIx xs.length xs.length none)
abbrev c1n (xs : List D) : List D := cut xs (sIx xs.length 0 (some 1)) (sIx xs.length xs.length none)
theorem cut_len (xs : List D) (a b : Nat) : (cut xs a b).length ≤ xs.length := by
  unfold cut; rw [List.length_take, List.length_drop]; omega
theorem q2 {K o : D} {xs : List D} (l : xs.length ≤ 100) (e : Φ 16 [.ref 0] h = .ok (.fz o) h1) : ex Φ [] (nthS 2 sLap) [s0, .fz (.ref 0), t2, .fz K, .fz (.tup xs), t5, t6, t7, t8, t9, ta, tb, tc, td, te] h =
    .nx [s0, .fz (.ref 0), t2, .fz K, .fz (.tup xs), t5, .oL 7 [.tup (c1n xs), o, .tup (xs ++ cm1 xs), .tup (xs ++ c01 xs), .lst xs, .tup xs.reverse, .tup xs], t7, t8, t9, ta, tb, tc, td, te] h1 := by
  have a1 : okN (xs.length + (c01 xs).length) = true := by unfold okN; rw [Nat.ble_eq]; have : (c01 xs).length ≤ xs.length := cut_len .. ; omega
  have a2 : okN (xs.length + (cm1 xs).length) = true := by unfold okN; rw [Nat.ble_eq]; have : (cm1 xs).length ≤ xs.length := cut_len .. ; omega
  simp only [nthS, sLap, d26]
  simp [e, slcD, bAdd, a1, a2, mkL]
theorem q4 {K : D} {n : Nat} {rs : List D} (l : rs.length ≤ 100) (e : ∀ v ∈ rs, Φ 24 [K, v] h = .ok (.fz (.bl true)) h) : ex Φ [] (nthS 4 sLap) [s0, .fz (.ref 0), t2, .fz K, t4, t5, .oL n rs, t7, t8, t9, ta, tb, tc, td, te] h = .nx [s0, .fz (.ref 0), t2, .fz K, t4, t5, .oL n rs, t7, t8, t9, ta, tb, tc, td, te] h := by
  obtain ⟨m, em, q⟩ := comp_fil (Φ := Φ) (tg := .nm 8) (s := [s0, .fz (.ref 0), t2, .fz K, t4, t5, .oL n rs, t7, .un, t9, ta, tb, tc, td, te]) (fc := ev Φ [] (.nt (.call 24 (.cons (.var 3) (.cons (.var 8) .nil))))) (fe := ev Φ [] (.lit (.int (1)))) (h := h) (c := .int 1) (p := fun _ => false) rs.reverse 0 0 (by rw [List.length_reverse]; unfold line; omega) (fun a ha => ⟨_, bindT_nm .., by simp [e a (List.mem_reverse.mp ha)], by simp⟩)
  rw [List.replicate_zero] at em
  have m0 : m = 0 := q.mpr fun _ _ => rfl
  subst m0
  have ne := none_ne 0
  simp only [List.replicate_zero, List.reverse_nil] at ne
  simp only [nthS, sLap, d26]
  simp
  rw [em]
  simp [ne]
theorem q5 {K f : D} (e : Φ 19 [.ref 0, K] h = .ok (.fz f) h1) : ex Φ [] (nthS 5 sLap) [s0, .fz (.ref 0), t2, .fz K, t4, t5, t6, t7, t8, t9, ta, tb, tc, td, te] h = .nx [s0, .fz (.ref 0), t2, .fz K, t4, t5, t6, t7, t8, .fz f, ta, tb, tc, td, te] h1 := by
  simp only [nthS, sLap, d26]
  simp [e]
theorem q6_ : nthS 6 sLap = .for_ (.nm 8) (match nthS 6 sLap with | .for_ _ e _ => e | _ => .nil) sVal := rfl
theorem q6e {r o : D} {i : Int} {ts : List D} (e : Φ 17 [.ref 0, .tup [.int i, .tup ts], .int 3] h = .ok (.fz r) h1) (e2 : Φ 16 [.ref 0] h1 = .ok (.fz o) h2) : ev Φ [] (match nthS 6 sLap with | .for_ _ e _ => e | _ => .nil) [s0, .fz (.ref 0), t2, t3, t4, t5, t6, t7, t8, .fz (.tup [.int i, .tup ts]), ta, tb, tc, td, te] h = .ok (.fz (.tup [.tup [.int i, .tup ts], .lst [.int i, .tup ts], r, o, .tup [.int i, .lst ts], .tup [.int i, .tup ts, .int i, .tup ts]])) h2 := by
  have ad : bAdd (.tup [.int i, .tup ts]) (.tup [.int i, .tup ts]) = some (.fz (.tup [.int i, .tup ts, .int i, .tup ts])) := rfl
  simp only [nthS, sLap, d26]
  simp [e, e2, ad]
theorem q7 {xs ys zs : List D} (l : xs.length + ys.length ≤ 100) (e' : bSset (.fz (.tup (xs ++ ys))) = some (mkL zs)) : ex Φ [] (nthS 7 sLap) [s0, .fz (.ref 0), t2, t3, .fz (.tup xs), .fz (.tup ys), t6, t7, t8, t9, ta, tb, tc, td, te] h = .nx [s0, .fz (.ref 0), t2, t3, .fz (.tup xs), .fz (.tup ys), t6, t7, t8, t9, .fz (.tup zs), tb, tc, td, te] h := by
  have a1 : okN (xs.length + ys.length) = true := by unfold okN; rw [Nat.ble_eq]; omega
  simp only [nthS, sLap, d26]
  simp [bAdd, a1, e']
theorem q8_ : nthS 8 sLap = .for_ (.tp [(.nm 11), (.nm 12)]) (match nthS 8 sLap with | .for_ _ e _ => e | _ => .nil) sAm := rfl
theorem q8e {a b c : D} : ev Φ [] (match nthS 8 sLap with | .for_ _ e _ => e | _ => .nil) [s0, .fz (.ref 0), t2, t3, .fz a, .fz b, t6, t7, t8, t9, .fz c, tb, tc, td, te] h = .ok (.fz (.tup [.tup [a, b], .tup [b, c], .tup [c, a], .tup [.tup [], a], .tup [a, .tup []]])) h := by
  simp only [nthS, sLap, d26]
  simp
end
end Lk01
set_option maxHeartbeats 1000000
namespace Lk01
open Ma Xk01
theorem cut_map (as : List (Int × List Int)) (a b : Nat) : cut (as.map fct) a b = (((as.drop a).take (b - a)).map fct) := by
  unfold cut; rw [List.map_take, List.map_drop]
theorem cut_G {as : List (Int × List Int)} (g : ∀ a ∈ as, G a) (a b : Nat) : ∀ x ∈ (as.drop a).take (b - a), G x := fun x m => g x (List.mem_of_mem_drop (List.mem_of_mem_take m))
theorem app_shw {as bs : List (Int × List Int)} (g : ∀ a ∈ as, G a) (gb : ∀ b ∈ bs, G b) (l : as.length + bs.length ≤ 100) : Shw (.tup (as.map fct ++ bs.map fct)) := by
  rw [← List.map_append]
  exact store_shw (fun a m => (List.mem_append.mp m).elim (g a) (gb a)) (by rw [List.length_append]; exact l)
section
variable {h : RH}
theorem fact_vals {a : Int × List Int} (g : G a) : Shw (fct a) ∧ Shw (.lst [.int a.1, .tup (a.2.map .int)]) ∧ Shw (.tup [.int a.1, .lst (a.2.map .int)]) ∧ Shw (.tup [.int a.1, .tup (a.2.map .int), .int a.1, .tup (a.2.map .int)]) ∧ Tn 2 (fct a) := by
  have tn : Tn 2 (fct a) := fun e => fct_okl g e (by decide)
  have n5 := fct_nds g
  obtain ⟨⟨a0, a4⟩, al, at_⟩ := id g
  have oi : ∀ n, okl false 42 n (.int a.1) = true := fun n => okl_int false n (small_lt a0 (by omega) (by decide))
  have ot : ∀ y ∈ a.2.map D.int, okl false 42 0 y = true := fun y my => by
    obtain ⟨t, mt, rfl⟩ := List.mem_map.mp my
    exact okl_int false 0 (small_lt (at_ t mt).1 (at_ t mt).2 (by decide))
  have o1 : okl false 42 1 (.tup (a.2.map .int)) = true := okl_mk ot
  have o2 : okl false 42 1 (.lst (a.2.map .int)) = true := okl_mkL ot
  have ni : ndss (a.2.map D.int) = a.2.length := ints_nds a.2
  refine ⟨⟨false, okl_more _ 2 10 (by decide) (fct_okl g false (by decide)), by omega⟩, ⟨false, okl_more _ 2 10 (by decide) (okl_mkL fun y my => ?_), ?_⟩, ⟨false, okl_more _ 2 10 (by decide) (okl_mk fun y my => ?_), ?_⟩, ⟨false, okl_more _ 2 10 (by decide) (okl_mk fun y my => ?_), ?_⟩, tn⟩
  · simp only [List.mem_cons, List.not_mem_nil, or_false] at my
    rcases my with rfl | rfl
    · exact oi 1
    · exact o1
  · simp only [nds, ndss, ni]; omega
  · simp only [List.mem_cons, List.not_mem_nil, or_false] at my
    rcases my with rfl | rfl
    · exact oi 1
    · exact o2
  · simp only [nds, ndss, ni]; omega
  · simp only [List.mem_cons, List.not_mem_nil, or_false] at my
    rcases my with rfl | rfl | rfl | rfl
    · exact oi 1
    · exact o1
    · exact oi 1
    · exact o1
  · simp only [nds, ndss, ni]; omega
theorem for_rng {Φ : Cal} {s s' : Sl} {h h' : RH} {b : S} {i k : Nat} {z : Int} (hz : z = (k : Int)) (hk : sm z = true) (e : forGo (.nm i) (ex Φ [] b) (rangeD 0 k) s h = .nx s' h') : ex Φ [] (.for_ (.nm i) (.rng (.lit (.int 0)) (.lit (.int z))) b) s h = .nx s' h' := by
  have sm0 : sm 0 = true := by decide
  rw [x_for_, v_rng, v_lit, int_ok, v_lit, int_ok, sm0, hk]
  rw [show (true && true) = true from rfl, if_pos rfl, go_ok, items_it]
  dsimp only
  rw [show (z - 0).toNat = k by omega, e]
theorem for_of {Φ : Cal} {s s' : Sl} {h h1 h' : RH} {b : S} {it : E} {g : Tg} {xs : List D} (ei : ev Φ [] it s h = .ok (.fz (.tup xs)) h1) (e : forGo g (ex Φ [] b) xs s h1 = .nx s' h') : ex Φ [] (.for_ g it b) s h = .nx s' h' := by
  rw [x_for_, ei, go_ok, items_tup]
  exact e
theorem lap_ok (s0 t2 t3 t4 t5 t6 t7 t8 t9 ta tb tc td te : T) (i : Pn h) : ∃ (u3 u4 u5 u6 u7 u8 u9 ua ub uc ud ue : T) (h' : RH),
    ex (runs ds 12) [] sLap [s0, .fz (.ref 0), t2, t3, t4, t5, t6, t7, t8, t9, ta, tb, tc, td, te] h = .nx [s0, .fz (.ref 0), t2, u3, u4, u5, u6, u7, u8, u9, ua, ub, uc, ud, ue] h' ∧ Pn h' := by
  obtain ⟨ks, h1, e1, i1, kd⟩ := kinds_ok (n := 8) i
  obtain ⟨as, h2, e2, i2, la, ga⟩ := store_drawn (n := 7) i1 ks kd
  obtain ⟨bs, h3, e3, i3, lb, gb⟩ := store_drawn (n := 7) i2 ks kd
  obtain ⟨o, h4, e4, i4, oo, on⟩ := odd_ok (n := 8) i3
  have lm : (as.map fct).length ≤ 100 := by rw [List.length_map]; omega
  have w0 : ∀ x ∈ [D.tup (c1n (as.map fct)), o, .tup (as.map fct ++ cm1 (as.map fct)), .tup (as.map fct ++ c01 (as.map fct)), .lst (as.map fct), .tup (as.map fct).reverse, .tup (as.map fct)], Shw x := by
    have cl : ∀ a b : Nat, ((as.drop a).take (b - a)).length ≤ 6 := fun a b => by rw [List.length_take, List.length_drop]; omega
    intro x mx
    simp only [List.mem_cons, List.not_mem_nil, or_false] at mx
    rcases mx with rfl | rfl | rfl | rfl | rfl | rfl | rfl
    · rw [c1n, cut_map]
      exact store_shw (cut_G ga _ _) (by have := cl (sIx (as.map fct).length 0 (some 1)) (sIx (as.map fct).length (as.map fct).length none); omega)
    · exact odd_shw oo on
    · rw [cm1, cut_map]
      exact app_shw ga (cut_G ga _ _) (by have := cl (sIx (as.map fct).length 0 (some (-1))) (sIx (as.map fct).length (as.map fct).length none); omega)
    · rw [c01, cut_map]
      exact app_shw ga (cut_G ga _ _) (by have := cl (sIx (as.map fct).length 0 none) (sIx (as.map fct).length (as.map fct).length (some 1)); omega)
    · exact list_shw ga (by omega)
    · rw [← List.map_reverse]
      exact store_shw (fun a m => ga a (List.mem_reverse.mp m)) (by rw [List.length_reverse]; omega)
    · exact store_shw ga (by omega)
  have rv : Bs (.tup (as.map fct).reverse) := by
    rw [← List.map_reverse]
    exact .tup (fun a m => ga a (List.mem_reverse.mp m)) (by rw [List.length_reverse]; omega)
  obtain ⟨rs, t7', h5, e5, i5, w5, l5⟩ := turn_loop (.tup (as.map fct)) (.tup (as.map fct).reverse) (.lst (as.map fct)) (.tup ga la) rv .lst s0 t2 (.fz (.tup (ks.map .int))) (.fz (.tup (as.map fct))) (.fz (.tup (bs.map fct))) t8 t9 ta tb tc td te (rangeD 0 6) _ t7 h4 i4 w0 (by simp) (by simp) (by rw [rng_len]; simp)
  obtain ⟨f, h6, e6, i6, gf⟩ := fact_drawn (n := 8) i5 ks kd
  obtain ⟨v1, v2, v3, v4, tnf⟩ := fact_vals gf
  obtain ⟨r, h7, e7, i7, br⟩ := bent_ok 3 4 2 (fct f) h6 i6 (by decide) tnf (by have := fct_nds gf; omega)
  have sr : Shw r := bent_shw br (by decide) (by have := fct_nds gf; omega)
  obtain ⟨o2, h8, e8, i8, oo2, on2⟩ := odd_ok (n := 8) i7
  obtain ⟨t8', e9⟩ := val_loop (h := h8) ks s0 t2 (.fz (.tup (as.map fct))) (.fz (.tup (bs.map fct))) (.oL rs.length rs) t7' (.fz (fct f)) ta tb tc td te [fct f, .lst [.int f.1, .tup (f.2.map .int)], r, o2, .tup [.int f.1, .lst (f.2.map .int)], .tup [.int f.1, .tup (f.2.map .int), .int f.1, .tup (f.2.map .int)]] t8 (fun x mx => by
    simp only [List.mem_cons, List.not_mem_nil, or_false] at mx
    rcases mx with rfl | rfl | rfl | rfl | rfl | rfl
    · exact v1
    · exact v2
    · exact sr
    · exact odd_shw oo2 on2
    · exact v3
    · exact v4)
  obtain ⟨cs, ec, lc, gc⟩ := set_facts (as ++ bs) (fun a m => (List.mem_append.mp m).elim (ga a) (gb a))
  rw [List.length_append] at lc
  have ss := sset_tup (as ++ bs) (by rw [List.length_append]; omega)
  rw [ec, List.map_append] at ss
  obtain ⟨tb', tc', td', te', e10⟩ := am_loop (h := h8) s0 t2 (.fz (.tup (ks.map .int))) (.fz (.tup (as.map fct))) (.fz (.tup (bs.map fct))) (.oL rs.length rs) t7' t8' (.fz (fct f)) (.fz (.tup (cs.map fct))) [(as, bs), (bs, cs), (cs, as), ([], as), (as, [])] tb tc td te (fun p m => by
    simp only [List.mem_cons, List.not_mem_nil, or_false] at m
    rcases m with rfl | rfl | rfl | rfl | rfl <;> refine ⟨?_, ?_⟩ <;> simp only [List.length_nil] <;> omega)
  have f5 : ex (runs ds 12) [] (.for_ (.nm 7) (.rng (.lit (.int 0)) (.lit (.int 6))) sTurn) [s0, .fz (.ref 0), t2, .fz (.tup (ks.map .int)), .fz (.tup (as.map fct)), .fz (.tup (bs.map fct)), .oL 7 [.tup (c1n (as.map fct)), o, .tup (as.map fct ++ cm1 (as.map fct)), .tup (as.map fct ++ c01 (as.map fct)), .lst (as.map fct), .tup (as.map fct).reverse, .tup (as.map fct)], t7, t8, t9, ta, tb, tc, td, te] h4 =
      .nx [s0, .fz (.ref 0), t2, .fz (.tup (ks.map .int)), .fz (.tup (as.map fct)), .fz (.tup (bs.map fct)), .oL rs.length rs, t7', t8, t9, ta, tb, tc, td, te] h5 := for_rng (k := 6) rfl (by decide) e5
  have f6 : ex (runs ds 12) [] (nthS 6 sLap) [s0, .fz (.ref 0), t2, .fz (.tup (ks.map .int)), .fz (.tup (as.map fct)), .fz (.tup (bs.map fct)), .oL rs.length rs, t7', t8, .fz (fct f), ta, tb, tc, td, te] h6 =
      .nx [s0, .fz (.ref 0), t2, .fz (.tup (ks.map .int)), .fz (.tup (as.map fct)), .fz (.tup (bs.map fct)), .oL rs.length rs, t7', t8', .fz (fct f), ta, tb, tc, td, te] h8 := by
    rw [q6_]
    exact for_of (q6e (Φ := runs ds 12) e7 e8) e9
  refine ⟨.fz (.tup (ks.map .int)), .fz (.tup (as.map fct)), .fz (.tup (bs.map fct)), .oL rs.length rs, t7', t8', .fz (fct f), .fz (.tup (cs.map fct)), tb', tc', td', te', h8, ?_, i8⟩
  rw [lap_parts, x_seq, q0 e1, nxt_nx, x_seq, q1 e2 e3, nxt_nx, x_seq, q2 lm e4, nxt_nx, x_seq, f5, nxt_nx, x_seq, q4 l5 (fun v m => shw_right (n := 5) (w5 v m)), nxt_nx, x_seq, q5 e6, nxt_nx, x_seq, f6, nxt_nx, x_seq, q7 (by rw [List.length_map, List.length_map]; omega) ss, nxt_nx, q8_]
  exact for_of q8e e10
end
theorem laps (s0 : T) : ∀ (l : List D) (t2 t3 t4 t5 t6 t7 t8 t9 ta tb tc td te : T) (h : RH), Pn h → ∃ (r : Sl) (h' : RH), forGo (.nm 2) (ex (runs ds 12) [] sLap) l [s0, .fz (.ref 0), t2, t3, t4, t5, t6, t7, t8, t9, ta, tb, tc, td, te] h = .nx (s0 :: .fz (.ref 0) :: r) h' ∧ Pn h'
  | [], t2, t3, t4, t5, t6, t7, t8, t9, ta, tb, tc, td, te, h, i => ⟨_, _, rfl, i⟩
  | d :: l, t2, t3, t4, t5, t6, t7, t8, t9, ta, tb, tc, td, te, h, i => by
    obtain ⟨u3, u4, u5, u6, u7, u8, u9, ua, ub, uc, ud, ue, h', e, i'⟩ := lap_ok s0 (.fz d) t3 t4 t5 t6 t7 t8 t9 ta tb tc td te i
    obtain ⟨r, h'', z, i''⟩ := laps s0 l (.fz d) u3 u4 u5 u6 u7 u8 u9 ua ub uc ud ue h' i'
    refine ⟨r, h'', ?_, i''⟩
    rw [forGo_cons]
    simp only [bindT_nm, setTS, setT0]
    rw [e, nxt_nx, z]
theorem law_parts : d26.body = .seq (nthS 0 d26.body) (.seq (.for_ (.nm 2) (.rng (.lit (.int 0)) (.lit (.int 6))) sLap) (nthS 2 d26.body)) := rfl
theorem l0 {Φ : Cal} {d : D} {r : Sl} {t1 : T} {h h1 : RH} (e : Φ 11 [d] h = .ok (.fz (.ref 0)) h1) : ex Φ [] (nthS 0 d26.body) (.fz d :: t1 :: r) h = .nx (.fz d :: .fz (.ref 0) :: r) h1 := by
  simp only [nthS, d26]
  simp [e]
theorem l2 {Φ : Cal} {t0 : T} {w : Int} {r : Sl} {h h1 : RH} (e : Φ 13 [.ref 0, .int 6] h = .ok (.fz (.int w)) h1) (e2 : Φ 25 [] h1 = .ok (.fz (.bl true)) h1) : ex Φ [] (nthS 2 d26.body) (t0 :: .fz (.ref 0) :: r) h = .ret (.fz (.bl true)) h1 := by
  simp only [nthS, d26]
  simp [e]
  by_cases c : w < 5 <;> simp [c, e2]
theorem law_ok (ns : List Int) (_ : ns.length ≤ 63) : ∃ h', ex (runs ds 12) [] d26.body (slots 15 [.lst (ns.map D.int)]) [] = .ret (.fz (.bl true)) h' := by
  have pen : runs ds 12 11 [.lst (ns.map D.int)] [] = .ok (.fz (.ref 0)) [penO (ns.take 63) 0 0] := run_pen (n := 11) rfl
  have i : Pn [penO (ns.take 63) 0 0] := ⟨ns.take 63, 0, 0, [1, 5], rfl, by decide, rfl, by simp⟩
  obtain ⟨r, h', z, i'⟩ := laps (.fz (.lst (ns.map .int))) (rangeD 0 6) .un .un .un .un .un .un .un .un .un .un .un .un .un _ i
  obtain ⟨w, h1, e1, i1, _, _⟩ := draw_ok (n := 10) i' (b := 6) (by decide) (by decide)
  refine ⟨h1, ?_⟩
  have z1 := for_rng (k := 6) (z := 6) rfl (by decide) z
  rw [law_parts, x_seq]
  simp only [slotsC, slotsN, slots0]
  rw [l0 pen, nxt_nx, x_seq, z1, nxt_nx]
  exact l2 e1 (great_ok (n := 4))
end Lk01
set_option maxHeartbeats 0
open PySem PySem.W PySem.Calls PyProof.Rows
theorem PySem.Challenge.cw_backasked_k01_stores_required_holds : PySem.Challenge.rw_backasked_k01_stores_required.Holds := by
  w_on; o_law
  haveI : Ma.TB := { tabs := [] }
  refine HandSHeadRun.head_any (r := OpenLaw.row PySem.Challenge.rw_backasked_k01_stores_required) (q := view (OpenLaw.row PySem.Challenge.rw_backasked_k01_stores_required).prog [28]) (H := Jk01.hk) (ob := Jk01.ob) (M := 6000) (loose := Jk01.loose) (d := HandSHeadRun.topDef (OpenLaw.row PySem.Challenge.rw_backasked_k01_stores_required).prog 28) (kwd := []) Jk01.ob_eq
    (by kernel_rfl) (fun s => by kernel_rfl) Jk01.run (by kernel_rfl) (by kernel_rfl) (by kernel_rfl) (by rfl) (by first | assumption | decide +kernel) (by decide +kernel) ⟨rfl, rfl, rfl, rfl, rfl, by decide +kernel⟩ ?hw ?hc
  case hw => w_witness2
  case hc =>
    refine Ma.walk_G (l := PySem.Challenge.rw_backasked_k01_stores_required) (n := 63) (k := 3 * 12 + 2 + 1) (x := "script") rfl (by decide) (by kernel_rfl) ⟨⟨rfl, by decide, by decide⟩, rfl⟩ ?F
    intro w mg fa h Y G hmg0
    refine Jk01.ends Lk01.law_ok w mg fa h Y G ?_
    have e : (HandSHeadRun.topDef (OpenLaw.row PySem.Challenge.rw_backasked_k01_stores_required).prog 28).name = ("law" : PySem.Str) := by kernel_rfl
    rw [← e]
    exact hmg0
