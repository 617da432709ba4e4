import PyProof.Rows.All
import Wide.All
import OpenK.AllK
import Wide.FinOn
import KE.KStateDown
import KE.GoesNew
import HandS.ForMost
import HandS.Exc
import HandS.TryOnly
import HandS.TryMany
import HandS.ExcOwn
import HandS.ExcBuiltin
import HandS.Small
import HandS.WordsExc
import HandS.IsInst
import HandS.StrMore
import HandS.TupAny
import HandS.Zip
import HandS.Defaults
import HandS.Head0
import HandS.Head1
import HandS.Head2
import HandS.HeadEnd
import HandS.HeadHook1
import HandS.HeadHook2
import HandS.Walk
import KE.GoesMore
import HandS.Iter
import PyProof.CollectStr
import HandS.Conv
import PyProof.ListStr
import PyProof.TupleOfStr
import HandS.Lambda
import HandS.Style
import KE.KDictKeyed
import HandS.Wide
import KE.KTupTabMore
import HandS.Rev
import HandS.RevRange
import HandS.SortInts
import HandS.ExcIs
import HandS.ExcField
import HandS.Rindex
import HandS.HeadHook4
import PyProof.StrLawsFrom
import PyProof.Rows.RegReprOcc
import PyProof.Rows.StrLast
import KE.KDictDisplayH
import HandS.SetKeys
import HandS.DictComp
import HandS.More
import PyProof.ReprBulk
import PyProof.ReprRoads
import PyProof.CallFns
import PyProof.RowDictHeap
import PyProof.Rows.StrRev
import KE.KRevSl
import HandS.Deep
import HandS.Call
import KE.KExcSuper
import HandS.TupMul
import HandS.ReplaceLit
import HandS.ReplaceList
import KE.KDictZip
import PyProof.ListNew
import HandS.ListItems
import HandS.Zip0
import HandS.TupSets
import KE.SortKeyHeap
import KE.KLam
import HandS.SortKw
import HandS.EndTab
import KE.KItemsList
import HandS.NoneIn
import KE.DataMinKey
import KE.DataFind
import KE.DatumOrd
import HandS.Finally
import HandS.Strs
import HandS.Nested
import PyProof.Rows.Walk
import PySem.Challenge.RW_saidacross_k02_parts_that_make_no_machin
set_option Elab.async false
set_option linter.all false
set_option maxRecDepth 100000
set_option maxHeartbeats 4000000
local macro_rules | `(tactic| walk_at "1") => `(tactic| first | exact Or.inl rfl | exact Or.inr rfl)
local macro_rules | `(tactic| walk_at "2") => `(tactic| first | exact Or.inl rfl | exact Or.inr rfl | assumption)
local macro_rules | `(tactic| walk_at "3") => `(tactic| exact ⟨rfl, rfl, rfl, by decide +kernel, rfl, by decide +kernel, by decide +kernel⟩)
local macro_rules | `(tactic| walk_at "4") => `(tactic| first | decide | omega)
namespace M
abbrev Tx := List Nat
abbrev d7' : Nat := 16777216
inductive D where
  | non | bl (b : Bool) | int (i : Int) | str (s : Tx)
  | tup (ds : List D) | lst (ds : List D) | dct (ks vs : List D)
  | obj (n : Nat) | ty (x : String) | fn (x : String) | exc (x : String) (ds : List D)
  | scr (ds : List D)
  /-- a dict whose keys are bools, or tuples; the text that repr gives -/
  | dcx (ks vs : List D) | rep (d : D)
  deriving Inhabited
inductive O where
  | fz (d : D) | lst (os : List O) | dct (ks : List D) (vs : List O) | tup (os : List O) | dcx (ks : List D) (vs : List O) | exn | clo
  deriving Inhabited
inductive Ob where
  | lst (os : List O) | dct (ks : List D) (vs : List O) | ins (C : String) (fs : List (String × O)) | dcx (ks : List D) (vs : List O)
abbrev W := List Ob
structure PSt where
  env : List (Option O)
  w : W
structure Exc where
  cls : String
  fs : List (String × D)
inductive Res (α : Type) where
  | ok (a : α) (ρ : PSt) | exc (x : Exc) (ρ : PSt) | bad
inductive Out where
  | nx (ρ : PSt) | rt (o : O) (w : W) | bk (ρ : PSt) | ct (ρ : PSt) | exc (x : Exc) (ρ : PSt) | bad
inductive FRes where
  | ok (o : O) (w : W) | exc (x : Exc) (w : W) | bad
def xI' : O -> Bool
  | .exn => false
  | .clo => false
  | _ => true
theorem ik' {o : O} (h : o ≠ .exn) (k : o ≠ .clo) : xI' o = true := by
  cases o <;> first | rfl | exact absurd rfl h | exact absurd rfl k
mutual
def frz : O -> D
  | .fz d => d
  | .lst os => .lst (frzs os)
  | .dct ks vs => .dct ks (frzs vs)
  | .tup os => .tup (frzs os)
  | .dcx ks vs => .dcx ks (frzs vs)
  | .exn => .non
  | .clo => .non
def frzs : List O -> List D
  | [] => []
  | o :: r => frz o :: frzs r
end
@[simp] theorem nx' (ds : List D) : frzs (ds.map .fz) = ds := by
  induction ds with
  | nil => rfl
  | cons d r ih => simp [frzs, frz, ih]
theorem ny' (os : List O) : frzs os = os.map frz := by
  induction os with
  | nil => rfl
  | cons d r ih => simp [frzs, ih]
mutual
/-- data that == compares, at most so deep -/
def dep : D -> Nat
  | .tup ds => deps ds + 1
  | .lst ds => deps ds + 1
  | _ => 0
def deps : List D -> Nat
  | [] => 0
  | d :: r => max (dep d) (deps r)
end
mutual
def dat : D -> Bool
  | .non => true | .bl _ => true | .int _ => true | .str _ => true
  | .tup ds => dats ds
  | .lst ds => dats ds
  | _ => false
def dats : List D -> Bool
  | [] => true
  | d :: r => dat d && dats r
end
mutual
def eqb : D -> D -> Bool
  | .non, .non => true
  | .bl a, .bl b => a == b
  | .bl a, .int j => (if a then 1 else 0) == j
  | .int i, .bl b => i == (if b then 1 else 0)
  | .int i, .int j => i == j
  | .str x, .str y => x == y
  | .lst xs, .lst ys => eqbs xs ys
  | .tup xs, .tup ys => eqbs xs ys
  | _, _ => false
def eqbs : List D -> List D -> Bool
  | [], [] => true
  | x :: xs, y :: ys => eqb x y && eqbs xs ys
  | _, _ => false
end
def eqv (d e : D) : Option Bool := if dat d = true /\ dat e = true /\ dep d <= 64 /\ dep e <= 64 then some (eqb d e) else none
mutual
/-- no whole number is too great to be shown -/
def oJ' : D -> Bool
  | .int i => decide (i.natAbs < 10 ^ 60)
  | .tup ds => repIs ds
  | .lst ds => repIs ds
  | .dct ks ds => repIs ks && repIs ds
  | _ => true
def repIs : List D -> Bool
  | [] => true
  | d :: r => oJ' d && repIs r
end
mutual
def oH' : D -> Nat
  | .str s => s.length
  | .tup ds => repWs ds
  | .lst ds => repWs ds
  | .dct ks ds => repWs ks + repWs ds
  | _ => 0
def repWs : List D -> Nat
  | [] => 0
  | d :: r => oH' d + 1 + repWs r
end
mutual
/-- the same data -/
def same : D -> D -> Bool
  | .non, .non => true
  | .bl a, .bl b => a == b
  | .int i, .int j => i == j
  | .str x, .str y => x == y
  | .lst xs, .lst ys => sames xs ys
  | .tup xs, .tup ys => sames xs ys
  | .dct ks xs, .dct ls ys => sames ks ls && sames xs ys
  | _, _ => false
def sames : List D -> List D -> Bool
  | [], [] => true
  | x :: xs, y :: ys => same x y && sames xs ys
  | _, _ => false
end
def k1' : D -> Bool
  | .non => true
  | .bl _ => true
  | .int _ => true
  | .str _ => true
  | _ => false
def sA' : D -> D -> Option D
  | .rep a, .rep b => if same a b = true then some (.bl false) else none
  | _, _ => none
def ob (o : Option Bool) : Option D := o.map .bl
def pEq (x y : D) : Option D := ob (eqv x y)
def pNe (x y : D) : Option D := ob ((eqv x y).map (!·))
def cT' : D -> Bool
  | .non => true
  | _ => false
def pIs : D -> D -> Option D
  | x, .non => some (.bl (cT' x))
  | .bl a, .bl b => some (.bl (a == b))
  | _, _ => none
def eC' (x y : D) : Option D := match pIs x y with | some (.bl b) => some (.bl (!b)) | _ => none
def pLt : D -> D -> Option D
  | .int i, .int j => some (.bl (decide (i < j)))
  | .str a, .str b => some (.bl (decide (a < b)))
  | _, _ => none
def pLe : D -> D -> Option D
  | .int i, .int j => some (.bl (decide (i <= j)))
  | .str a, .str b => some (.bl (!decide (b < a)))
  | _, _ => none
def pGt : D -> D -> Option D
  | .int i, .int j => some (.bl (decide (j < i)))
  | .str a, .str b => some (.bl (decide (b < a)))
  | _, _ => none
def pGe : D -> D -> Option D
  | .int i, .int j => some (.bl (decide (j <= i)))
  | .str a, .str b => some (.bl (!decide (a < b)))
  | _, _ => none
def bw' : D -> D -> Option D
  | .int i, .int j => some (.int (i + j))
  | .str a, .str b => if a.length + b.length <= d7' then some (.str (a ++ b)) else none
  | .lst a, .lst b => if a.length + b.length <= d7' then some (.lst (a ++ b)) else none
  | .tup a, .tup b => if a.length + b.length <= d7' then some (.tup (a ++ b)) else none
  | _, _ => none
def tW' : D -> D -> Option D
  | .int i, .int j => some (.int (i + j))
  | _, _ => none
def kW' : D -> D -> Option D
  | .int i, .int j => some (.int (i - j))
  | _, _ => none
def small64 (i : Int) : Bool := decide (-(2 ^ 64) < i) && decide (i < 2 ^ 64)
def ix' : D -> D -> Option D
  | .int i, .int j => if (small64 i = true \/ small64 j = true) \/ ((-2582249878086908589655919172003011874329705792829223512830659356540647622016841194629645353280137831435903171972747493376 < i /\ i < 2582249878086908589655919172003011874329705792829223512830659356540647622016841194629645353280137831435903171972747493376) /\ (-2582249878086908589655919172003011874329705792829223512830659356540647622016841194629645353280137831435903171972747493376 < j /\ j < 2582249878086908589655919172003011874329705792829223512830659356540647622016841194629645353280137831435903171972747493376)) then some (.int (i * j)) else none
  | .str a, .int j => if j < 2 ^ 62 /\ -(2 ^ 62) <= j /\ a.length * j.toNat <= d7' then some (.str (List.replicate j.toNat a).flatten) else none
  | .lst a, .int j => if j < 2 ^ 62 /\ -(2 ^ 62) <= j /\ a.length * j.toNat <= d7' then some (.lst (List.replicate j.toNat a).flatten) else none
  | _, _ => none
def e7' : D -> D -> Option D
  | .int i, .int j => if 0 < j /\ j < 1606938044258990275541962092341162602522202993782792835301376 then some (.int (i / j)) else none
  | _, _ => none
def gt' : D -> D -> Option D
  | .int i, .int j => if 0 < j then some (.int (i % j)) else none
  | _, _ => none
def tU' : D -> D -> Option D
  | .int i, .int j => if 0 <= j /\ j <= 1000 /\ small64 i = true then some (.int (i ^ j.toNat)) else none
  | _, _ => none
def tV' : D -> Option D
  | .int i => some (.int (-i))
  | _ => none
def chD (c : Nat) : D := .str [c]
def ixn (n : Nat) (i : Int) : Option Nat := if 0 <= i then (if i < n then some i.toNat else none) else (if -(n : Int) <= i then some (i + n).toNat else none)
def ati {α : Type} (xs : List α) (i : Int) : Option α := (ixn xs.length i).bind fun j => xs[j]?
def six (n : Nat) (d : Nat) : Option Int -> Nat
  | none => d
  | some i => if i < 0 then (i + (n : Int)).toNat else min i.toNat n
def cut {α : Type} (xs : List α) (lo hi : Option Int) : List α := (xs.drop (six xs.length 0 lo)).take (six xs.length xs.length hi - six xs.length 0 lo)
def cM' : D -> Option (List D)
  | .lst xs => some xs
  | .tup xs => some xs
  | .str s => some (s.map chD)
  | _ => none
def sca : D -> Bool
  | .non => true | .bl _ => true | .int _ => true | .str _ => true
  | _ => false
def pIn : D -> D -> Option D
  | .str [c], .str s => some (.bl (decide (c ∈ s)))
  | x, .lst ds => if sca x = true /\ ds.all sca = true then some (.bl (ds.any fun d => eqb d x)) else none
  | x, .tup ds => if sca x = true /\ ds.all sca = true then some (.bl (ds.any fun d => eqb d x)) else none
  | _, _ => none
mutual
def kat : D -> Bool
  | .non => true | .bl _ => true | .int _ => true | .str _ => true
  | .tup ds => kats ds
  | _ => false
def kats : List D -> Bool
  | [] => true
  | d :: r => kat d && kats r
end
def wB' (ks : List D) (k : D) : Bool := kat k && decide (dep k <= 8) && ks.all (fun d => sca d == sca k)
def sE' (ks : List D) (k : D) : Option Nat := ks.findIdx? fun d => eqb d k
def isK : D -> Bool
  | .int _ => true | .str _ => true
  | _ => false
def dget {α : Type} (ks : List D) (vs : List α) (k : D) : Option α := (sE' ks k).bind fun j => vs[j]?
def k0' : O -> D -> Option (Option O)
  | .dct ks os, k => if isK k = true then some (dget ks os k) else none
  | .dcx ks os, k => if wB' ks k = true then some (dget ks os k) else none
  | .fz (.dct ks vs), k => if isK k = true then some (dget ks (vs.map .fz) k) else none
  | .fz (.dcx ks vs), k => if wB' ks k = true then some (dget ks (vs.map .fz) k) else none
  | _, _ => none
def tR' {α : Type} (ks : List D) (os : List α) (k : D) (o : α) : Option (List D × List α) := match sE' ks k with
  | some j => some (ks, os.set j o)
  | none => if ks.length < d7' then some (ks ++ [k], os ++ [o]) else none
def wp' : O -> D -> O -> Option O
  | .dct ks os, k, o => if isK k = true then (tR' ks os k o).map fun p => .dct p.1 p.2 else none
  | .dcx ks os, k, o => if wB' ks k = true then (tR' ks os k o).map fun p => .dcx p.1 p.2 else none
  | _, _, _ => none
def dM' (x y : D) : Option D := match pIn x y with | some (.bl b) => some (.bl (!b)) | _ => none
def b9' : D -> Option D
  | .str s => some (.int s.length)
  | .lst ds => some (.int ds.length)
  | .tup ds => some (.int ds.length)
  | .dct ks _ => some (.int ks.length)
  | .dcx ks _ => some (.int ks.length)
  | _ => none
def pIx : D -> D -> Option D
  | .str s, .int i => (ati s i).map chD
  | .lst ds, .int i => ati ds i
  | .tup ds, .int i => ati ds i
  | _, _ => none
def pSl (d : D) (lo hi : Option Int) : Option D := match d with
  | .str s => some (.str (cut s lo hi))
  | .lst s => some (.lst (cut s lo hi))
  | .tup s => some (.tup (cut s lo hi))
  | .scr s => some (.lst (cut s lo hi))
  | _ => none
def sz' : D -> Option D
  | .str s => some (.str s.reverse)
  | .lst s => some (.lst s.reverse)
  | _ => none
def cE' : List D -> Option (List Tx)
  | [] => some []
  | .str s :: r => (cE' r).map (s :: ·)
  | _ :: _ => none
def b3' (sep : Tx) : List Tx -> Tx
  | [] => []
  | [x] => x
  | x :: y :: r => x ++ (sep ++ b3' sep (y :: r))
def hA' (a : Tx) : List D -> Option D
  | [.lst ds] => (cE' ds).bind fun ys => if (ys.map List.length).sum + ys.length * a.length <= d7' then some (.str (b3' a ys)) else none
  | [.tup ds] => (cE' ds).bind fun ys => if (ys.map List.length).sum + ys.length * a.length <= d7' then some (.str (b3' a ys)) else none
  | _ => none
def b4' : List D -> Option (List Int)
  | [] => some []
  | .int b :: r => (b4' r).map (b :: ·)
  | _ :: _ => none
def xQ' : D -> Option D
  | .lst ds => (b4' ds).map fun ns => .int ns.sum
  | _ => none
def ck' (l : List Nat) : List Nat := l.mergeSort fun a b => decide (a <= b)
def tp' (l : List Int) : List Int := l.mergeSort fun a b => decide (a <= b)
def km' : List D -> Option (List Nat)
  | [] => some []
  | .str [c] :: r => (km' r).map (c :: ·)
  | _ => none
def cp' : D -> Option D
  | .str s => if s.length < 64 then some (.lst ((ck' s).map chD)) else none
  | .lst ds => match b4' ds with
    | some ns => some (.lst ((tp' ns).map .int))
    | none => (km' ds).bind fun cs => if cs.length < 64 then some (.lst ((ck' cs).map chD)) else none
  | _ => none
def yr' (a b : Tx) (i : Nat) : Bool := decide (i + b.length <= a.length) && decide ((a.drop i).take b.length = b)
def sG' (a b : Tx) : Option Nat := (List.range (a.length + 1)).find? (yr' a b)
def fnd (o : Option Nat) : Int := match o with | some i => (i : Int) | none => -1
def ud' (a : Tx) : List D -> Option D
  | [.str b] => some (.int (fnd (sG' a b)))
  | _ => none
def ql' (a : Tx) : List D -> Option D
  | [.str b] => (sG' a b).map fun (i : Nat) => D.int (Int.ofNat i)
  | _ => none
def vC' (c : Nat) : Tx -> List Tx
  | [] => [[]]
  | x :: r => if x = c then [] :: vC' c r else (match vC' c r with
    | [] => [[x]]
    | y :: ys => (x :: y) :: ys)
def uc' (a : Tx) : List D -> Option D
  | [.str [c]] => if c < 128 /\ a.length + 2 <= d7' then some (.lst ((vC' c a).map .str)) else none
  | _ => none
def xW' (n : Nat) : Tx := (Nat.toDigits 10 n).map Char.toNat
def yl' : D -> Option D
  | .int i => if 0 <= i /\ i < 1000000000000000000000000000000000000000000000000000000000000 then some (.str (xW' i.toNat)) else none
  | _ => none
def up1 (c : Nat) : Nat := if 97 <= c /\ c <= 122 then c - 32 else c
def hh' : D -> Option D
  | .str s => if s.all (fun c => decide (c < 128)) = true /\ s.length <= 5592405 then some (.str (s.map up1)) else none
  | _ => none
def bools : List D -> Option (List Bool)
  | [] => some []
  | .bl b :: r => (bools r).map (b :: ·)
  | _ :: _ => none
def sB' : D -> Option D
  | .lst ds => (bools ds).map fun bs => .bl (bs.all id)
  | _ => none
def xR' : D -> Option D
  | .lst ds => (bools ds).map fun bs => .bl (bs.any id)
  | _ => none
def wt' : D -> Option D
  | .lst ds => some (.lst ds)
  | .tup ds => some (.lst ds)
  | .str s => some (.lst (s.map chD))
  | _ => none
def bZ' : D -> Option D
  | .str s => some (.lst (s.map chD))
  | d => wt' d
def c3' : D -> Option D
  | .str s => some (.tup (s.map chD))
  | .lst ds => some (.tup ds)
  | .tup ds => some (.tup ds)
  | _ => none
def gu' : D -> Option D
  | .int i => some (.int i)
  | .bl b => some (.int (if b then 1 else 0))
  | _ => none
def vI' : D -> Option D
  | .int i => some (.int (if i < 0 then -i else i))
  | _ => none
def iy' : D -> D -> Option D
  | .int i, .int j => some (.int (if j > i then j else i))
  | _, _ => none
def kX' : D -> D -> Option D
  | .int i, .int j => some (.int (if j < i then j else i))
  | _, _ => none
def tyn : D -> Option String
  | .non => some "NoneType" | .bl _ => some "bool" | .int _ => some "int" | .str _ => some "str"
  | .tup _ => some "tuple" | .lst _ => some "list" | .dct _ _ => some "dict"
  | _ => none
def bt' (t : String) (d : D) : Option D := (tyn d).map fun n => .bl (n == t || (n == "bool" && t == "int"))
abbrev ME := PSt -> Res D
abbrev MO := PSt -> Res O
abbrev MA := PSt -> Res (List D)
abbrev MT := PSt -> Res Bool
abbrev MS := PSt -> Out
abbrev MF := List D -> W -> FRes
abbrev MG := D -> PSt -> Option PSt
abbrev MI := PSt -> Res (List D)
@[simp] def Res.bind {α β : Type} (r : Res α) (f : α -> PSt -> Res β) : Res β := match r with
  | .ok a ρ => f a ρ
  | .exc x ρ => .exc x ρ
  | .bad => .bad
@[simp] def Res.out {α : Type} (r : Res α) (f : α -> PSt -> Out) : Out := match r with
  | .ok a ρ => f a ρ
  | .exc x ρ => .exc x ρ
  | .bad => .bad
@[simp] def ofO {α : Type} (o : Option α) (ρ : PSt) : Res α := match o with
  | some a => .ok a ρ
  | none => .bad
@[simp] def eC (d : D) : ME := fun ρ => .ok d ρ
@[simp] def eV (i : Nat) : ME := fun ρ => match ρ.env[i]? with
  | some (some (.fz d)) => .ok d ρ
  | some (some .exn) => .bad
  | some (some .clo) => .bad
  | some (some o) => .ok (frz o) ⟨ρ.env.set i (some (.fz (frz o))), ρ.w⟩
  | _ => .bad
@[simp] def eOp (f : D -> D -> Option D) (a b : ME) : ME := fun ρ => (a ρ).bind fun x ρ1 => (b ρ1).bind fun y ρ2 => ofO (f x y) ρ2
@[simp] def eUn (f : D -> Option D) (a : ME) : ME := fun ρ => (a ρ).bind fun x ρ1 => ofO (f x) ρ1
@[simp] def asB (d : D) (ρ : PSt) : Res Bool := match d with
  | .bl b => .ok b ρ
  | _ => .bad
@[simp] def nD' (a b : ME) : ME := fun ρ => (a ρ).bind fun x ρ1 => (asB x ρ1).bind fun k ρ1 => if k = true then b ρ1 else .ok (.bl false) ρ1
@[simp] def sH' (a : ME) : ME := fun ρ => (a ρ).bind fun x ρ1 => (asB x ρ1).bind fun k ρ1 => .ok (.bl (!k)) ρ1
@[simp] def eP' (f g : D -> D -> Option D) (a b c : ME) : ME := fun ρ => (a ρ).bind fun x ρ1 => (b ρ1).bind fun y ρ2 => (ofO (f x y) ρ2).bind fun r ρ2 => (asB r ρ2).bind fun k ρ2 =>
  if k = true then (c ρ2).bind fun z ρ3 => ofO (g y z) ρ3 else .ok (.bl false) ρ2
@[simp] def ba' : MA := fun ρ => .ok [] ρ
@[simp] def ae' (a : ME) (r : MA) : MA := fun ρ => (a ρ).bind fun x ρ1 => (r ρ1).bind fun xs ρ2 => .ok (x :: xs) ρ2
@[simp] def nC' (as : MA) : ME := fun ρ => (as ρ).bind fun xs ρ1 => if xs.length <= d7' then .ok (.tup xs) ρ1 else .bad
@[simp] def hH' (as : MA) : ME := fun ρ => (as ρ).bind fun xs ρ1 => if xs.length <= d7' then .ok (.lst xs) ρ1 else .bad
@[simp] def eMt (f : Tx -> List D -> Option D) (a : ME) (as : MA) : ME := fun ρ => (a ρ).bind fun x ρ1 => match x with
  | .str s => (as ρ1).bind fun ds ρ2 => ofO (f s ds) ρ2
  | _ => .bad
def nb' (ds : List D) : List D -> Option D
  | [.int v] => (b4' ds).bind fun ns => if v ∈ ns then some (.int ((ns.idxOf v : Nat) : Int)) else none
  | _ => none
abbrev MP := PSt -> Res (Option Int)
@[simp] def pNo : MP := fun ρ => .ok none ρ
@[simp] def pSo (a : ME) : MP := fun ρ => (a ρ).bind fun x ρ1 => match x with | .int i => .ok (some i) ρ1 | _ => .bad
@[simp] def eSl (a : ME) (lo hi : MP) : ME := fun ρ => (a ρ).bind fun x ρ1 => (lo ρ1).bind fun l ρ2 => (hi ρ2).bind fun h ρ3 => ofO (pSl x l h) ρ3
@[simp] def fin (r : FRes) (ρ : PSt) : Res O := match r with
  | .ok o w => .ok o ⟨ρ.env, w⟩
  | .exc x w => .exc x ⟨ρ.env, w⟩
  | .bad => .bad
@[simp] def aO' (f : MF) (as : MA) : MO := fun ρ => (as ρ).bind fun xs ρ1 => fin (f xs ρ1.w) ρ1
@[simp] def eO (a : MO) : ME := fun ρ => (a ρ).bind fun o ρ1 => .ok (frz o) ρ1
@[simp] def oE (a : ME) : MO := fun ρ => (a ρ).bind fun d ρ1 => .ok (.fz d) ρ1
@[simp] def oV (i : Nat) : MO := fun ρ => match ρ.env[i]? with
  | some (some (.fz d)) => .ok (.fz d) ρ
  | some (some .exn) => .bad
  | some (some .clo) => .bad
  | some (some o) => .ok o ⟨ρ.env.set i none, ρ.w⟩
  | _ => .bad
abbrev MOA := PSt -> Res (List O)
@[simp] def m5' (a : ME) : MO := fun ρ => (a ρ).bind fun d ρ1 => match d with | .lst ds => .ok (.lst (ds.map .fz)) ρ1 | _ => .bad
@[simp] def kZ' : MO := fun ρ => .ok (.dct [] []) ρ
def RgB (a b : Int) : Bool := decide (-(2 ^ 62) <= a) && decide (a < 2 ^ 62) && decide (-(2 ^ 62) <= b) && decide (b < 2 ^ 62) && decide ((b - a).toNat <= 16777216)
def dh' (a b : Int) : List D := (List.range (b - a).toNat).map fun i => .int (a + (i : Nat))
@[simp] def c4' : D -> Option D
  | .int b => if RgB 0 b = true then some (.lst (dh' 0 b)) else none
  | _ => none
@[simp] def hG' (i : Nat) (a : ME) : ME := fun ρ => match ρ.env[i]? with
  | some (some (.lst _)) => (a ρ).bind fun d ρ1 => match ρ1.env[i]?, d with
    | some (some (.lst os)), .int z => (match (if os.length <= d7' then ixn os.length z else none) with
      | some j => (match os[j]? with
        | some (.fz y) => .ok y ⟨ρ1.env.set i (some (.lst (os.eraseIdx j))), ρ1.w⟩
        | _ => .bad)
      | none => .bad)
    | _, _ => .bad
  | _ => .bad
@[simp] def items : O -> Option (List O)
  | .fz (.lst ds) => some (ds.map .fz)
  | .fz (.tup ds) => some (ds.map .fz)
  | .fz (.str s) => some (s.map fun c => .fz (chD c))
  | .lst os => some os
  | .tup os => some os
  | _ => none
@[simp] def ixO : O -> D -> Option D
  | .fz d, k => pIx d k
  | .lst os, .int i => match ati os i with | some (.fz d) => some d | _ => none
  | .tup os, .int i => match ati os i with | some (.fz d) => some d | _ => none
  | _, _ => none
@[simp] def inO (x : D) : O -> Option D
  | .fz d => pIn x d
  | .lst os => if os.all (fun o => match o with | .fz _ => true | _ => false) = true then pIn x (.lst (os.map frz)) else none
  | _ => none
@[simp] def t7' : Option D -> Option D
  | some (.bl b) => some (.bl (!b))
  | _ => none
@[simp] def nZ' : O -> Option D
  | .fz d => b9' d
  | .lst os => some (.int os.length)
  | .tup os => some (.int os.length)
  | .dct ks _ => some (.int ks.length)
  | .dcx ks _ => some (.int ks.length)
  | .exn => none
  | .clo => none
@[simp] def iH' (i : Nat) : ME := fun ρ => match ρ.env[i]? with
  | some (some o) => ofO (nZ' o) ρ
  | _ => .bad
@[simp] def vN' : Option (Option O) -> Option D
  | some (some (.fz d)) => some d
  | _ => none
def fH' (x : Bool) (y d : D) : Option O := if x = true then (if kat y = true /\ dep y <= 8 /\ sca y = false then some (.dcx [y] [.fz d]) else none) else (if isK y = true then some (.dct [y] [.fz d]) else none)
@[simp] def hw' (x : Bool) (k a : ME) : MO := fun ρ => (k ρ).bind fun y ρ1 => (a ρ1).bind fun d ρ2 => ofO (fH' x y d) ρ2
@[simp] def ixW (w : W) : D -> D -> Option D
  | .obj n, k => match w[n]? with | some (.lst os) => ixO (.lst os) k | _ => none
  | d, k => pIx d k
@[simp] def gy' (a b : ME) : ME := fun ρ => (a ρ).bind fun x ρ1 => (b ρ1).bind fun y ρ2 => ofO (ixW ρ2.w x y) ρ2
@[simp] def t6' (as : MA) : MO := fun ρ => (as ρ).bind fun xs ρ1 => if xs.length <= d7' then .ok (.fz (.obj ρ1.w.length)) ⟨ρ1.env, ρ1.w ++ [.lst (xs.map .fz)]⟩ else .bad
@[simp] def tE (a : ME) : MT := fun ρ => (a ρ).bind asB
@[simp] def fz' (a : MT) : MT := fun ρ => (a ρ).bind fun k ρ1 => .ok (!k) ρ1
@[simp] def p5' (a b : MT) : MT := fun ρ => (a ρ).bind fun k ρ1 => if k = true then b ρ1 else .ok false ρ1
@[simp] def tOr (a b : MT) : MT := fun ρ => (a ρ).bind fun k ρ1 => if k = true then .ok true ρ1 else b ρ1
@[simp] def n0' (a : ME) : MI := fun ρ => (a ρ).bind fun d ρ1 => ofO (cM' d) ρ1
def rgI (lo : Int) (n : Nat) : List D := (List.range n).map fun i => .int (lo + (i : Nat))
def n2' (i : Int) : Bool := decide (-(2 ^ 62) <= i) && decide (i < 2 ^ 62)
@[simp] def dy' : D -> Option (List D)
  | .int j => if n2' j = true then some (rgI 0 j.toNat) else none
  | _ => none
@[simp] def dx' : D -> D -> Option (List D)
  | .int i, .int j => if n2' i = true /\ n2' j = true then some (rgI i (j - i).toNat) else none
  | _, _ => none
@[simp] def br' (a : ME) : MI := fun ρ => (a ρ).bind fun x ρ1 => ofO (dy' x) ρ1
@[simp] def eM' (a b : ME) : MI := fun ρ => (a ρ).bind fun x ρ1 => (b ρ1).bind fun y ρ2 => ofO (dx' x y) ρ2
def cz' : List D -> List D -> List D
  | x :: xs, y :: ys => .tup [x, y] :: cz' xs ys
  | _, _ => []
def iG' (k : Nat) : List D -> List D
  | [] => []
  | x :: xs => .tup [.int k, x] :: iG' (k + 1) xs
@[simp] def ws' (x y : D) : Option (List D) := match cM' x, cM' y with
  | some a, some b => some (cz' a b)
  | _, _ => none
def nV' (x y : D) : Option (List D) := match x, y with
  | .str _, .str _ => ws' x y
  | .lst _, .lst _ => ws' x y
  | .tup _, .tup _ => ws' x y
  | _, _ => none
def enB : D -> Option (List D)
  | .str s => some (iG' 0 (s.map chD))
  | .lst ds => some (iG' 0 ds)
  | _ => none
def vG' : D -> Option (List D)
  | .lst ds => some ds.reverse
  | .tup ds => some ds.reverse
  | _ => none
def xG' (x y : D) : Option (List D) := match x, y with
  | .str s, .tup ds => some (cz' (s.map chD) ds)
  | _, _ => none
@[simp] def ut' (a b : ME) : MI := fun ρ => (a ρ).bind fun x ρ1 => (b ρ1).bind fun y ρ2 => ofO (nV' x y) ρ2
def xx' : D -> Option (List D)
  | .dct ks _ => some ks
  | _ => none
def xw' : D -> Option (List D)
  | .dct _ vs => some vs
  | _ => none
def vj' : D -> Option (List D)
  | .dct ks vs => some (cz' ks vs)
  | _ => none
@[simp] def gN (i : Nat) : MG := fun d ρ => if i < ρ.env.length then some ⟨ρ.env.set i (some (.fz d)), ρ.w⟩ else none
@[simp] def gNs : List Nat -> List D -> PSt -> Option PSt
  | [], [], ρ => some ρ
  | i :: is, d :: ds, ρ => (gN i d ρ).bind (gNs is ds)
  | _, _, _ => none
@[simp] def gT (is : List Nat) : MG := fun d ρ => match d with
  | .tup ds => gNs is ds ρ
  | _ => none
@[simp] def noX {α : Type} : Res α -> Res α
  | .exc _ _ => .bad
  | r => r
def bo' : List Nat -> List (Option O) -> List (Option O)
  | [], env => env
  | i :: is, env => (bo' is env).set i none
def back (env : List (Option O)) : List Nat -> List (Option O) -> List (Option O)
  | [], env' => env'
  | i :: is, env' => (back env is env').set i (match env[i]? with | some (some (.fz d)) => some (.fz d) | _ => none)
def lcL (own : List Nat) (g : MG) (t : MT) (e : ME) : List D -> List D -> PSt -> Res (List D)
  | [], acc, ρ => .ok acc ρ
  | x :: xs, acc, ρ => match g x ⟨bo' own ρ.env, ρ.w⟩ with
    | none => .bad
    | some ρ1 => (noX (t ρ1)).bind fun k ρ2 => if k = true then (noX (e ρ2)).bind fun y ρ3 => if acc.length < d7' then lcL own g t e xs (acc ++ [y]) ρ3 else .bad else lcL own g t e xs acc ρ2
@[simp] def eLc (own : List Nat) (it : MI) (g : MG) (t : MT) (e : ME) : ME := fun ρ => (it ρ).bind fun xs ρ1 =>
  (lcL own g t e xs [] ρ1).bind fun ys ρ2 => .ok (.lst ys) ⟨back ρ1.env own (bo' own ρ2.env), ρ2.w⟩
@[simp] def oLc (own : List Nat) (it : MI) (g : MG) (t : MT) (e : ME) : MO := fun ρ => (it ρ).bind fun xs ρ1 =>
  (lcL own g t e xs [] ρ1).bind fun ys ρ2 => .ok (.lst (ys.map .fz)) ⟨back ρ1.env own (bo' own ρ2.env), ρ2.w⟩
def dcL (own : List Nat) (g : MG) (t : MT) (ek ev : ME) : List D -> List D -> List D -> PSt -> Res (List D × List D)
  | [], ks, vs, ρ => .ok (ks, vs) ρ
  | x :: xs, ks, vs, ρ => match g x ⟨bo' own ρ.env, ρ.w⟩ with
    | none => .bad
    | some ρ1 => (noX (t ρ1)).bind fun k ρ2 => if k = true then (noX (ek ρ2)).bind fun y ρ3 => (noX (ev ρ3)).bind fun z ρ4 => (if isK y = true /\ ks.length < d7' then (match tR' ks vs y z with
      | some p => dcL own g t ek ev xs p.1 p.2 ρ4
      | none => .bad) else .bad) else dcL own g t ek ev xs ks vs ρ2
@[simp] def tT : MT := fun ρ => .ok true ρ
@[simp] def aM' : MS := fun ρ => .nx ρ
@[simp] def mH' (a : ME) : MS := fun ρ => (a ρ).out fun _ ρ1 => .nx ρ1
@[simp] def bn' (a : MO) : MS := fun ρ => (a ρ).out fun o ρ1 => .rt o ρ1.w
@[simp] def aL' (a b : MS) : MS := fun ρ => match a ρ with
  | .nx ρ1 => b ρ1
  | r => r
@[simp] def sIf (t : MT) (a b : MS) : MS := fun ρ => (t ρ).out fun k ρ1 => if k = true then a ρ1 else b ρ1
@[simp] def vE' (i : Nat) (o : O) (ρ : PSt) : Out := if i < ρ.env.length then .nx ⟨ρ.env.set i (some o), ρ.w⟩ else .bad
@[simp] def bl' (i : Nat) (a : MO) : MS := fun ρ => (a ρ).out fun o ρ1 => vE' i o ρ1
@[simp] def ty' (g : MG) (a : ME) : MS := fun ρ => (a ρ).out fun d ρ1 => match g d ρ1 with | some ρ2 => .nx ρ2 | none => .bad
@[simp] def cO' (x f : String) (a : ME) : MS := fun ρ => (a ρ).out fun d ρ1 => .exc ⟨x, [(f, d)]⟩ ρ1
@[simp] def qa' (i : Nat) (a : MO) : MS := fun ρ => match ρ.env[i]? with
  | some (some (.lst _)) => (a ρ).out fun o ρ1 => match ρ1.env[i]? with
    | some (some (.lst os)) => if os.length < d7' then .nx ⟨ρ1.env.set i (some (.lst (os ++ [o]))), ρ1.w⟩ else .bad
    | _ => .bad
  | _ => .bad
@[simp] def xV' (w : W) : D -> Option D
  | .obj n => (match w[n]? with
    | some (.lst os) => some (.int os.length)
    | _ => none)
  | _ => none
@[simp] def oq' (w : W) (x k d : D) : Option W := match x, k with
  | .obj n, .int z => match w[n]? with
    | some (.lst os) => (ixn os.length z).map fun j => w.set n (.lst (os.set j (.fz d)))
    | _ => none
  | _, _ => none
@[simp] def f1' (o k a : ME) : MS := fun ρ => (a ρ).out fun d ρ1 => (o ρ1).out fun x ρ2 => (k ρ2).out fun y ρ3 => match oq' ρ3.w x y d with
  | some w => .nx ⟨ρ3.env, w⟩
  | none => .bad
def gw' (g : MG) (b : MS) : List D -> MS
  | [], ρ => .nx ρ
  | d :: ds, ρ => match g d ρ with
    | none => .bad
    | some ρ1 => match b ρ1 with
      | .nx ρ2 => gw' g b ds ρ2
      | .ct ρ2 => gw' g b ds ρ2
      | .bk ρ2 => .nx ρ2
      | r => r
@[simp] def gs' (it : MI) (g : MG) (b : MS) : MS := fun ρ => (it ρ).out fun ds ρ1 => gw' g b ds ρ1
abbrev ET := List (String × String × Bool)
def sub : ET -> String -> String -> Option Bool
  | [], _, _ => none
  | (a, b, r) :: t, x, c => if a = x /\ b = c then some r else sub t x c
@[simp] def oX' : Out -> Out
  | .exc _ _ => .bad
  | r => r
@[simp] def hds (hs : List ((String -> Option Bool) × (Exc -> MS))) (x : Exc) (ρ : PSt) : Out := match hs with
  | [] => .exc x ρ
  | (g, h) :: r => (match g x.cls with
    | some true => oX' (h x ρ)
    | some false => hds r x ρ
    | none => .bad)
@[simp] def nY' (i m : Nat) : Out -> Out
  | .nx ρ => if ρ.env.length = i + m + 1 then .nx ⟨ρ.env.set i none, ρ.w⟩ else .bad
  | .bk ρ => if ρ.env.length = i + m + 1 then .bk ⟨ρ.env.set i none, ρ.w⟩ else .bad
  | .ct ρ => if ρ.env.length = i + m + 1 then .ct ⟨ρ.env.set i none, ρ.w⟩ else .bad
  | r => r
@[simp] def fE' (i m : Nat) (b : MS) (g : String -> Option Bool) (h : Exc -> MS) : MS := fun ρ => match b ρ with
  | .exc x ρ1 => (match g x.cls with
    | some true => if ρ1.env.length = i + m + 1 then nY' i m (oX' (h x ⟨ρ1.env.set i (some .exn), ρ1.w⟩)) else .bad
    | some false => .exc x ρ1
    | none => .bad)
  | r => r
@[simp] def eXf (i : Nat) (cs : List String) (f : String) (x : Exc) : ME := fun ρ => match ρ.env[i]? with
  | some (some .exn) => if x.cls ∈ cs then ofO (x.fs.lookup f) ρ else .bad
  | _ => .bad
def nX' (f : String) (o : O) : List (String × O) -> List (String × O)
  | [] => [(f, o)]
  | (g, x) :: r => if g = f then (g, o) :: r else (g, x) :: nX' f o r
@[simp] def gx' (cs : List String) (f : String) (w : W) : D -> Option D
  | .obj n => (match w[n]? with
    | some (.ins C fs) => if C ∈ cs then (match fs.lookup f with | some (.fz d) => some d | _ => none) else none
    | _ => none)
  | _ => none
@[simp] def qt' (cs : List String) (a : ME) (f : String) : ME := fun ρ => (a ρ).bind fun x ρ1 => ofO (gx' cs f ρ1.w x) ρ1
@[simp] def stF (cs : List String) (f : String) (o : O) (w : W) : D -> Option W
  | .obj n => (match w[n]? with
    | some (.ins C fs) => if C ∈ cs /\ fs.length < 1000 then some (w.set n (.ins C (nX' f o fs))) else none
    | _ => none)
  | _ => none
@[simp] def sFld (cs : List String) (a : ME) (f : String) (v : MO) : MS := fun ρ => (v ρ).out fun o ρ1 => (a ρ1).out fun x ρ2 => match stF cs f o ρ2.w x with
  | some w => .nx ⟨ρ2.env, w⟩
  | none => .bad
@[simp] def kY' (C : String) (init : MF) (as : MA) : MO := fun ρ => (as ρ).bind fun ds ρ1 => match init (.obj ρ1.w.length :: ds) (ρ1.w ++ [.ins C []]) with
  | .ok (.fz .non) w => .ok (.fz (.obj ρ1.w.length)) ⟨ρ1.env, w⟩
  | .ok _ _ => .bad
  | .exc x w => .exc x ⟨ρ1.env, w⟩
  | .bad => .bad
def dg' (cs : List String) (m : String) (w : W) : D -> Bool
  | .obj n => (match w[n]? with
    | some (.ins C' fs) => decide (C' ∈ cs) && (fs.lookup m).isNone
    | _ => false)
  | _ => false
@[simp] def e9' (cs : List String) (m : String) (f : MF) (a : ME) (as : MA) : MO := fun ρ => (a ρ).bind fun x ρ1 => if dg' cs m ρ1.w x = true then (as ρ1).bind fun ds ρ2 => fin (f (x :: ds) ρ2.w) ρ2 else .bad
def rU' : O -> Bool
  | .fz _ => true
  | _ => false
@[simp] def fnM (k n : Nat) (b : MS) : MF := fun ds w => if ds.length = k then (match b ⟨ds.map (fun d => some (.fz d)) ++ List.replicate (n - k) none, w⟩ with
    | .nx ρ => .ok (.fz .non) ρ.w
    | .rt o w => .ok o w
    | .exc x ρ => .exc x ρ.w
    | _ => .bad) else .bad
def x2' (x y : D) : Option (List D) := match x, y with
  | .str s, .lst ds => some (cz' (s.map chD) ds)
  | _, _ => none
end M
namespace M
mutual
def rdn : D -> Bool
  | .tup ds => rdns ds
  | .lst ds => rdns ds
  | .dct _ ds => rdns ds
  | d => k1' d
def rdns : List D -> Bool
  | [] => true
  | d :: r => rdn d && rdns r
end
mutual
def rZ' : D -> Nat
  | .tup ds => depRs ds + 1
  | .lst ds => depRs ds + 1
  | .dct _ ds => depRs ds + 1
  | _ => 0
def depRs : List D -> Nat
  | [] => 0
  | d :: r => max (rZ' d) (depRs r)
end
def iw' (d : D) : Option D := if rdn d = true /\ rZ' d <= 40 /\ oJ' d = true /\ oH' d <= 200000 then some (.rep d) else none
def oS' : D -> D -> Option D
  | .tup a, .int j => if 0 <= j /\ j <= 1000 /\ a.length <= 1000 then some (.tup (List.replicate j.toNat a).flatten) else none
  | _, _ => none
def rp' : D -> Option D
  | .tup a => some (.tup a.reverse)
  | _ => none
def yo' (c : Nat) : D -> Option D
  | .str s => if s.length <= 1000000 then some (.str (s.filter fun d => decide (d ≠ c))) else none
  | _ => none
end M
namespace M
def x1' : D -> D -> Option (List D)
  | .tup a, .tup b => some (cz' a b)
  | _, _ => none
def yt' : O -> D -> Option O
  | .lst os, .lst ds => if os.length + ds.length <= d7' then some (.lst (os ++ ds.map .fz)) else none
  | _, _ => none
mutual
def okO : O -> Bool
  | .fz d => dat d
  | .lst os => okOs os
  | .tup os => okOs os
  | _ => false
def okOs : List O -> Bool
  | [] => true
  | o :: r => okO o && okOs r
end
def okM : List Bool -> List (Option O) -> Bool
  | [], _ => true
  | _ :: _, [] => false
  | false :: m, _ :: r => okM m r
  | true :: m, some o :: r => okO o && okM m r
  | true :: _, none :: _ => false
def n1' : List Bool -> List (Option O) -> List (Option O)
  | _, [] => []
  | [], _ :: r => none :: n1' [] r
  | false :: m, _ :: r => none :: n1' m r
  | true :: m, x :: r => (x.map fun o => .fz (frz o)) :: n1' m r
def vF' : D -> Bool
  | .non => true | .bl _ => true | .int _ => true | .str _ => true
  | _ => false
def unO : O -> Option (List O)
  | .tup os => some os
  | .fz (.tup ds) => some (ds.map .fz)
  | _ => none
def sF' : List Nat -> List O -> PSt -> Option PSt
  | [], [], ρ => some ρ
  | i :: is, o :: os, ρ => if i < ρ.env.length then sF' is os ⟨ρ.env.set i (some o), ρ.w⟩ else none
  | _, _, _ => none
end M
namespace M
def ug' (a b : Tx) : Bool := !decide (b < a)
def to' (l : List Tx) : List Tx := l.mergeSort ug'
def oR' : D -> Option D
  | .lst ds => (cE' ds).bind fun xs => if xs.length < 64 then some (.lst ((to' xs).map .str)) else none
  | _ => none
end M
namespace M
end M
namespace M
end M
namespace M
def wq' (a b : Nat × Tx) : Bool := decide (a.1 < b.1) || (decide (a.1 = b.1) && ug' a.2 b.2)
def eB' : List D -> List O -> Option (List (Nat × Tx))
  | [], [] => some []
  | .int i :: ks, .fz (.str s) :: os => if 0 <= i then (eB' ks os).map ((i.toNat, s) :: ·) else none
  | _, _ => none
def p8' : O -> Option D
  | .dct ks os => (eB' ks os).map fun ps => .lst ((ps.mergeSort wq').map fun p => .tup [.int (p.1 : Nat), .str p.2])
  | _ => none
end M
namespace M
mutual
def xT' (kl kd : Bool) : D -> Bool
  | .tup ds => nodDs kl kd ds
  | .lst ds => !kl && nodDs kl kd ds
  | .scr ds => !kl && nodDs kl kd ds
  | .dct _ vs => !kd && nodDs kl kd vs
  | .dcx ks vs => nodDs kl kd ks && nodDs kl kd vs
  | _ => true
def nodDs (kl kd : Bool) : List D -> Bool
  | [] => true
  | d :: r => xT' kl kd d && nodDs kl kd r
end
mutual
def xS' (kl kd : Bool) : O -> Bool
  | .fz d => xT' kl kd d
  | .lst os => nodOs kl kd os
  | .tup os => nodOs kl kd os
  | .dct _ os => nodOs kl kd os
  | .dcx ks os => nodDs kl kd ks && nodOs kl kd os
  | .exn => true
  | .clo => true
def nodOs (kl kd : Bool) : List O -> Bool
  | [] => true
  | o :: r => xS' kl kd o && nodOs kl kd r
end
def lendO (kl kd : Bool) : O -> Bool
  | .fz _ => true
  | .lst os => kl && os.all rU'
  | .dct _ os => kd && os.all rU'
  | _ => false
def okL (kl kd : Bool) : List Bool -> List (Option O) -> Bool
  | [], _ => true
  | _ :: _, [] => false
  | false :: m, _ :: r => okL kl kd m r
  | true :: m, some o :: r => lendO kl kd o && okL kl kd m r
  | true :: _, none :: _ => false
def vJ' : O -> Nat
  | .fz _ => 0
  | _ => 1
def sn' : List Bool -> List (Option O) -> Nat
  | true :: m, some o :: r => vJ' o + sn' m r
  | false :: m, _ :: r => sn' m r
  | _, _ => 0
def yn' : D -> D -> Option D
  | .int i, .int j => if 0 <= j /\ j <= 1000 /\ small64 i = true then some (.int (i * 2 ^ j.toNat)) else none
  | _, _ => none
def ym' : D -> D -> Option D
  | .int i, .int j => if 0 <= j then some (.int (i / 2 ^ j.toNat)) else none
  | _, _ => none
@[simp] def gL (is : List Nat) : MG := fun d ρ => match d with
  | .lst ds => gNs is ds ρ
  | _ => none
def gSq : List MG -> List D -> PSt -> Option PSt
  | [], [], ρ => some ρ
  | g :: gs, d :: ds, ρ => (g d ρ).bind (gSq gs ds)
  | _, _, _ => none
def gTg (gs : List MG) : MG := fun d ρ => match d with
  | .tup ds => gSq gs ds ρ
  | _ => none
end M
namespace M
end M
namespace M
end M
namespace M
end M
namespace M
end M
namespace M
end M
namespace M
end M
namespace M
def uB' : List Bool -> List D -> Option (List (Option O))
  | [], [] => some []
  | true :: m, ds => (uB' m ds).map (some .clo :: ·)
  | false :: m, d :: ds => (uB' m ds).map (some (.fz d) :: ·)
  | _, _ => none
inductive AK where
  | e (a : ME) | c (f : MF) (js : List Nat)
end M
namespace M
def allFz : List O -> Option (List D)
  | [] => some []
  | .fz d :: r => (allFz r).map (d :: ·)
  | _ => none
end M
namespace M
end M
namespace M
end M
namespace S
open PySem PySem.Spec PyProof.Rows L2
def sK' (K : PySem.W.Frag) (cs : List String) (f : String) : Bool := cs.all fun c => xfB K (He.ga K (Str.ofString c)) && decide (PySem.W.findIn K (.ref (He.ga K (Str.ofString c))) (Str.ofString f) = some none)
def pB' : Arguments -> Option (Str × Str)
  | ⟨[], [a, b], none, [], [], none, []⟩ => some (a.arg, b.arg)
  | _ => none
def py' : FuncBody -> Option (Str × Str × Str × Str × Str)
  | .stmts [.Expr (.Call (.Attribute (.Call (.Name s _) [] [] _) m p) [.Constant (.str _) _ _] [] q) _, .Assign [.Attribute (.Name a _) f _] (.Name b _) _] => if (p.endLine == q.line) = true then some (s, m, a, f, b) else none
  | _ => none
def so' (K : PySem.W.Frag) (C : Addr) : Bool := match K.lookup C with
  | some ⟨.type t, _, .cls cd, sl⟩ => decide (t = "type") && (cd.hasDict && (!cd.hasDel && ((match cd.mro with
    | .ref D :: bm => decide (D = C) && HandSPX.refsVE bm
    | _ => false) && (match sl.toList with
    | [_, _, _, _, some (.builtin n), _] => decide (n = "ValueError.__new__")
    | _ => false))))
  | _ => false
def xY' (C : Addr) : Option Obj -> Bool
  | some ⟨_, _, .cell (some (.ref D)), _⟩ => decide (D = C)
  | _ => false
def tl' (file : Str) : Option Value -> Bool
  | some (.str fl _) => decide (fl = file)
  | _ => false
def uz' (file : Str) : Option Obj -> Bool
  | some ⟨_, _, .fields vs, _⟩ => tl' file vs[2]?
  | _ => false
def uC' (file : Str) (K : PySem.W.Frag) (C : Addr) (fld : Str) (fd : FuncData) : Bool := match pB' fd.params, fd.closure, fd.code, fd.defaults, fd.kwdefaults with
  | some (x, y), [(z, cc)], .ref cda, .none, .none => decide (py' fd.body = some (("super" : Str), ("__init__" : Str), x, fld, y)) && (decide (z = ("__class__" : Str)) && (decide (fd.globals = mainGlobals) && (decide (fd.builtins = builtinsNs) && (PySem.W.codeIn K (.ref cda) fd.qualname &&
    (decide (fd.scope.names.lookup ("super" : Str) = some .globalImplicit) && (decide (fd.scope.names.lookup ("__class__" : Str) = some .free) && (decide (fd.scope.names.lookup x = some .local) && (decide (fd.scope.names.lookup y = some .local) && ((fd.scope.names.all fun q => decide (q.2 ≠ .cell)) &&
    (decide (fd.scope.kind = .function) && (decide (fd.scope.isGenerator = false) && (decide (fd.scope.isCoroutine = false) && (decide (x = "self") && (decide (y = "part" \/ y = "most") &&
    (xY' C (K.lookup cc) && uz' file (K.lookup cda))))))))))))))))
  | _, _, _, _, _ => false
def v9' (file : Str) (K : PySem.W.Frag) (C f : Addr) (fld : Str) : Bool := (match K.lookup f with
    | some ⟨_, _, .func fd, _⟩ => uC' file K C fld fd
    | _ => false) && (decide (PySem.W.ks_superIn K C C "__init__" = some (some (.builtin "ValueError.__init__"))) && (decide (PySem.W.mroIn K C (.ref C) = some true) && (decide (PySem.W.subIn K (.ref C) (.type "ValueError") = some true) && (decide (PySem.W.nsIn K cStatics "thirdparty.any" = some none) &&
    (so' K C && (decide (PySem.W.findIn K (.ref C) "__setattr__" = some (some (.builtin "object.__setattr__"))) && (decide (PySem.W.subIn K (.ref C) (.type "BaseException") = some true) && (decide (PySem.W.typeIn K (.ref C) = some (.type "type")) && (PySem.W.keepIn K (.ref C) &&
    (decide (PySem.W.findIn K (.ref C) "__init__" = some (some (.ref f))) && (decide (PySem.W.typeIn K (.ref f) = some (.type "function")) && decide (PySem.W.findIn K (.ref C) fld = some none))))))))))))
end S
namespace M
def exT : ET := [("NoMachine", "NoMachine", true)]
def f_is_integer : MF := fnM 1 1 ((bn' (oE (nD' (eUn (bt' "int") (eV 0)) (sH' (eUn (bt' "bool") (eV 0)))))))
def f_is_string_of : MF := fnM 2 3 ((aL' (sIf (fz' (tE (eUn (bt' "str") (eV 0)))) (bn' (oE (eC (.bl false)))) aM')
  (aL' (gs' (n0' (eV 0)) (gN 2) (sIf (tE (eOp dM' (eV 2) (eV 1))) (bn' (oE (eC (.bl false)))) aM'))
  (bn' (oE (eC (.bl true)))))))
def f_is_ascending : MF := fnM 1 3 ((aL' (gs' (ut' (eV 0) (eSl (eV 0) (pSo (eC (.int 1))) pNo)) (gT [1, 2]) (sIf (tE (eOp pGe (eV 1) (eV 2))) (bn' (oE (eC (.bl false)))) aM'))
  (bn' (oE (eC (.bl true))))))
def f_is_choice : MF := fnM 2 2 ((bn' (oE (nD' (eO (aO' f_is_string_of (ae' (eV 0) (ae' (eV 1) ba')))) (eO (aO' f_is_ascending (ae' (eV 0) ba')))))))
def f_are_states : MF := fnM 2 3 ((aL' (sIf (fz' (tE (eUn (bt' "tuple") (eV 0)))) (bn' (oE (eC (.bl false)))) aM')
  (aL' (gs' (n0' (eV 0)) (gN 2) (sIf (tOr (fz' (tE (eO (aO' f_is_integer (ae' (eV 2) ba'))))) (tOr (tE (eOp pLt (eV 2) (eC (.int 0)))) (tE (eOp pGe (eV 2) (eV 1))))) (bn' (oE (eC (.bl false)))) aM'))
  (bn' (oE (eC (.bl true)))))))
def f_is_table : MF := fnM 2 3 ((aL' (sIf (tOr (fz' (tE (eUn (bt' "tuple") (eV 0)))) (fz' (tE (eP' pLe pLe (eC (.int 1)) (eUn b9' (eV 0)) (eC (.int 6)))))) (bn' (oE (eC (.bl false)))) aM')
  (aL' (gs' (n0' (eV 0)) (gN 2) (sIf (tOr (fz' (tE (eO (aO' f_are_states (ae' (eV 2) (ae' (eUn b9' (eV 0)) ba')))))) (tE (eOp pNe (eUn b9' (eV 2)) (eUn b9' (eV 1))))) (bn' (oE (eC (.bl false)))) aM'))
  (bn' (oE (eC (.bl true)))))))
def f_Machine_keep : MF := fnM 4 4 ((aL' (sFld ["Machine"] (eV 0) "kept_letters" (oE (eV 1)))
  (aL' (sFld ["Machine"] (eV 0) "kept_table" (oE (eV 2)))
  (aL' (sFld ["Machine"] (eV 0) "kept_accepts" (oE (eV 3)))
  (aL' (sFld ["Machine"] (eV 0) "kept_least" (oE (eC .non)))
  (aL' (sFld ["Machine"] (eV 0) "kept_field" (oE (eC .non)))
  (aL' (sFld ["Machine"] (eV 0) "kept_lots" kZ')
  (sFld ["Machine"] (eV 0) "kept_more" kZ'))))))))
def f_Machine___init__ : MF := fnM 4 4 ((aL' (sIf (tOr (fz' (tE (eO (aO' f_is_choice (ae' (eV 1) (ae' (eC (.str [97, 98, 99, 100, 101, 102, 103, 104, 105, 106, 107, 108, 109, 110, 111, 112, 113, 114, 115, 116, 117, 118, 119, 120, 121, 122])) ba')))))) (fz' (tE (eP' pLe pLe (eC (.int 1)) (eUn b9' (eV 1)) (eC (.int 4)))))) (cO' "NoMachine" "part" (eC (.str [108, 101, 116, 116, 101, 114, 115]))) aM')
  (aL' (sIf (fz' (tE (eO (aO' f_is_table (ae' (eV 2) (ae' (eV 1) ba')))))) (cO' "NoMachine" "part" (eC (.str [116, 97, 98, 108, 101]))) aM')
  (aL' (sIf (tOr (fz' (tE (eO (aO' f_are_states (ae' (eV 3) (ae' (eUn b9' (eV 2)) ba')))))) (fz' (tE (eO (aO' f_is_ascending (ae' (eV 3) ba')))))) (cO' "NoMachine" "part" (eC (.str [97, 99, 99, 101, 112, 116, 115]))) aM')
  (mH' (eO (e9' ["Machine"] "keep" f_Machine_keep (eV 0) (ae' (eV 1) (ae' (eV 2) (ae' (eV 3) ba'))))))))))
def f_Machine_letters : MF := fnM 1 1 ((bn' (oE (qt' ["Machine"] (eV 0) "kept_letters"))))
def f_Machine_table : MF := fnM 1 1 ((bn' (oE (qt' ["Machine"] (eV 0) "kept_table"))))
def f_Machine_accepts : MF := fnM 1 1 ((bn' (oE (qt' ["Machine"] (eV 0) "kept_accepts"))))
def f__law_hand : MF := fnM 1 3 ((aL' (bl' 1 (oLc [2] (n0' (eSl (eV 0) pNo (pSo (eC (.int 63))))) (gN 2) tT (eUn vI' (eUn gu' (eV 2)))))
  (bn' (t6' (ae' (eV 1) (ae' (eC (.int 0)) (ae' (eC (.int 0)) (ae' (eOp bw' (eC (.int 1)) (eUn b9' (eV 1))) (ae' (eC (.int 0)) ba')))))))))
def f__law_draw : MF := fnM 2 5 ((aL' (sIf (p5' (tE (eOp pEq (gy' (eV 0) (eC (.int 2))) (eC (.int 0)))) (tE (eOp pLt (gy' (eV 0) (eC (.int 1))) (eUn b9' (gy' (eV 0) (eC (.int 0))))))) (aL' (bl' 2 (oE (eOp pIx (gy' (eV 0) (eC (.int 0))) (gy' (eV 0) (eC (.int 1))))))
  (aL' (f1' (eV 0) (eC (.int 1)) (eOp bw' (gy' (eV 0) (eC (.int 1))) (eC (.int 1))))
  (aL' (f1' (eV 0) (eC (.int 3)) (eOp gt' (eUn gu' (eOp bw' (eOp bw' (eOp ix' (gy' (eV 0) (eC (.int 3))) (eC (.int 69621))) (eV 2)) (eC (.int 11)))) (eC (.int 2147483629))))
  (sIf (tE (eOp pGe (eV 2) (eOp tU' (eC (.int 10)) (eC (.int 18))))) (f1' (eV 0) (eC (.int 2)) (eV 2)) aM')))) aM')
  (aL' (sIf (tE (eOp pGt (gy' (eV 0) (eC (.int 2))) (eC (.int 0)))) (aL' (bl' 3 (oE (eOp gt' (eUn gu' (gy' (eV 0) (eC (.int 2)))) (eV 1))))
  (aL' (f1' (eV 0) (eC (.int 2)) (eOp e7' (gy' (eV 0) (eC (.int 2))) (eV 1)))
  (bn' (oV 3)))) aM')
  (aL' (f1' (eV 0) (eC (.int 4)) (eOp bw' (gy' (eV 0) (eC (.int 4))) (eC (.int 1))))
  (aL' (bl' 4 (oE (eOp gt' (eUn gu' (eOp ix' (eUn gu' (eOp bw' (gy' (eV 0) (eC (.int 3))) (eOp ix' (eC (.int 7919)) (gy' (eV 0) (eC (.int 4)))))) (eC (.int 48271)))) (eC (.int 2147483647)))))
  (aL' (bl' 4 (oE (eOp gt' (eUn gu' (eOp ix' (eV 4) (eOp bw' (eOp e7' (eV 4) (eC (.int 1009))) (eC (.int 69621))))) (eC (.int 2147483647)))))
  (aL' (bl' 4 (oE (eOp gt' (eUn gu' (eOp ix' (eV 4) (eOp bw' (eOp e7' (eV 4) (eC (.int 2003))) (eC (.int 40692))))) (eC (.int 2147483399)))))
  (bn' (oE (eOp gt' (eUn gu' (eOp e7' (eV 4) (eC (.int 16)))) (eV 1)))))))))))
def f__law_letters : MF := fnM 3 7 ((aL' (bl' 3 (oE (eV 1)))
  (aL' (bl' 4 (oE (eC (.str []))))
  (aL' (gs' (br' (eV 2)) (gN 5) (aL' (bl' 6 (aO' f__law_draw (ae' (eV 0) (ae' (eUn b9' (eV 3)) ba'))))
  (aL' (bl' 4 (oE (eOp bw' (eV 4) (eOp pIx (eV 3) (eV 6)))))
  (bl' 3 (oE (eOp bw' (eSl (eV 3) pNo (pSo (eV 6))) (eSl (eV 3) (pSo (eOp bw' (eV 6) (eC (.int 1)))) pNo)))))))
  (bn' (oV 4))))))
def f__law_shuffled : MF := fnM 2 5 ((aL' (bl' 2 (m5' (eUn bZ' (eV 1))))
  (aL' (bl' 3 (m5' (hH' ba')))
  (aL' (gs' (br' (eUn b9' (eV 1))) (gN 4) (qa' 3 (oE (hG' 2 (eO (aO' f__law_draw (ae' (eV 0) (ae' (iH' 2) ba'))))))))
  (bn' (oV 3))))))
def f__law_rows : MF := fnM 4 11 ((aL' (bl' 4 (m5' (hH' ba')))
  (aL' (bl' 5 (oLc [9] (br' (eV 3)) (gN 9) tT (eO (aO' f__law_draw (ae' (eV 0) (ae' (eV 2) ba'))))))
  (aL' (bl' 6 (oLc [9] (br' (eV 3)) (gN 9) tT (eO (aO' f__law_shuffled (ae' (eV 0) (ae' (eO (m5' (eUn c4' (eV 2)))) ba'))))))
  (aL' (gs' (br' (eV 2)) (gN 7) (aL' (bl' 8 (m5' (hH' ba')))
  (aL' (gs' (br' (eV 3)) (gN 9) (aL' (bl' 10 (aO' f__law_draw (ae' (eV 0) (ae' (eV 2) ba'))))
  (aL' (sIf (tE (eOp pEq (eV 1) (eC (.int 3)))) (bl' 10 (oE (eOp gt' (eUn gu' (eOp bw' (eV 7) (eOp pIx (eV 5) (eV 9)))) (eV 2)))) aM')
  (aL' (sIf (tE (eOp pEq (eV 1) (eC (.int 4)))) (bl' 10 (oE (eOp kX' (eOp kW' (eV 2) (eC (.int 1))) (eOp bw' (eV 7) (eOp pIx (eV 5) (eV 9)))))) aM')
  (aL' (sIf (tE (eOp pEq (eV 1) (eC (.int 5)))) (aL' (bl' 10 (oE (eV 7)))
  (sIf (tE (eOp pEq (eV 7) (eC (.int 0)))) (bl' 10 (oE (eOp gt' (eUn gu' (eOp bw' (eC (.int 1)) (eV 9))) (eV 2)))) aM')) aM')
  (aL' (sIf (tE (eOp pEq (eV 1) (eC (.int 6)))) (bl' 10 (oE (eOp gt' (eUn gu' (eOp bw' (eC (.int 1)) (eV 9))) (eV 2)))) aM')
  (aL' (sIf (tE (eOp pEq (eV 1) (eC (.int 7)))) (bl' 10 (oE (eOp kX' (eOp kW' (eV 2) (eC (.int 1))) (eOp bw' (eV 7) (eUn gu' (eOp pEq (eOp gt' (eV 7) (eV 3)) (eV 9))))))) aM')
  (aL' (sIf (tE (eOp pEq (eV 1) (eC (.int 8)))) (aL' (bl' 10 (oE (eOp kW' (eV 2) (eC (.int 1)))))
  (sIf (p5' (tE (eOp pLt (eV 7) (eOp kW' (eV 2) (eC (.int 1))))) (tE (eOp pEq (eOp gt' (eV 7) (eV 3)) (eV 9)))) (bl' 10 (oE (eOp gt' (eUn gu' (eOp bw' (eV 7) (eC (.int 1)))) (eOp kW' (eV 2) (eC (.int 1)))))) aM')) aM')
  (aL' (sIf (tE (eOp pEq (eV 1) (eC (.int 9)))) (bl' 10 (oE (eOp pIx (eOp pIx (eV 6) (eV 9)) (eV 7)))) aM')
  (qa' 8 (oE (eV 10))))))))))))
  (qa' 4 (oE (eUn c3' (eV 8)))))))
  (bn' (oE (eUn c3' (eV 4)))))))))
def f__law_parts : MF := fnM 3 10 ((aL' (bl' 3 (aO' f__law_draw (ae' (eV 0) (ae' (eC (.int 10)) ba'))))
  (aL' (bl' 4 (oE (eOp bw' (eC (.int 1)) (eO (aO' f__law_draw (ae' (eV 0) (ae' (eV 1) ba')))))))
  (aL' (bl' 5 (oE (eOp bw' (eC (.int 1)) (eO (aO' f__law_draw (ae' (eV 0) (ae' (eV 2) ba')))))))
  (aL' (sIf (tE (eOp pGt (eV 3) (eC (.int 4)))) (aL' (bl' 5 (oE (eOp iy' (eC (.int 2)) (eV 5))))
  (bl' 4 (oE (eOp iy' (eOp kX' (eC (.int 2)) (eV 1)) (eV 4))))) aM')
  (aL' (bl' 6 (oE (eMt hA' (eC (.str [])) (ae' (eUn cp' (eO (aO' f__law_letters (ae' (eV 0) (ae' (eC (.str [97, 98, 99, 100, 101, 102, 103, 104, 105, 106, 107, 108, 109, 110, 111, 112, 113, 114, 115, 116, 117, 118, 119, 120, 121, 122])) (ae' (eV 4) ba')))))) ba'))))
  (aL' (bl' 7 (aO' f__law_rows (ae' (eV 0) (ae' (eV 3) (ae' (eV 5) (ae' (eV 4) ba'))))))
  (aL' (bl' 8 (oE (eUn c3' (eLc [9] (br' (eV 5)) (gN 9) (tE (eOp pEq (eO (aO' f__law_draw (ae' (eV 0) (ae' (eC (.int 2)) ba')))) (eC (.int 1)))) (eV 9)))))
  (bn' (oE (nC' (ae' (eV 6) (ae' (eV 7) (ae' (eV 8) ba'))))))))))))))
def f__law_odd : MF := fnM 1 2 ((aL' (bl' 1 (oE (hH' (ae' (eC .non) (ae' (eC (.bl true)) (ae' (eC (.bl false)) (ae' (eC (.int 0)) (ae' (eUn tV' (eC (.int 1))) (ae' (eC (.int 7)) (ae' (eC (.str [])) (ae' (eC (.str [63])) (ae' (eC (.str [65])) (ae' (hH' ba') (ae' (nC' ba') (ae' (eO kZ') (ae' (hH' (ae' (eC (.str [97])) ba')) (ae' (nC' (ae' (eC (.str [97])) ba')) (ae' (eO (hw' false (eC (.str [97])) (eC (.int 0)))) (ae' (hH' (ae' (hH' (ae' (eC (.int 0)) ba')) ba')) ba')))))))))))))))))))
  (bn' (oE (eOp pIx (eV 1) (eO (aO' f__law_draw (ae' (eV 0) (ae' (eC (.int 16)) ba')))))))))
def f__law_signs : MF := fnM 2 5 ((aL' (bl' 2 (oE (eC (.str [32, 33, 34, 35, 36, 38, 39, 40, 41, 42, 43, 44, 45, 46, 47, 48, 49, 50, 51, 52, 53, 54, 55, 56, 57, 58, 59, 60, 61, 62, 63, 64, 65, 66, 67, 68, 69, 70, 71, 72, 73, 74, 75, 76, 77, 78, 79, 80, 81, 82, 83, 84, 85, 86, 87, 88, 89, 90, 91, 93, 94, 95, 97, 98, 99, 100, 101, 102, 103, 104, 105, 106, 107, 108, 109, 110, 111, 112, 113, 114, 115, 116, 117, 118, 119, 120, 121, 122, 123, 124, 125, 126, 10]))))
  (aL' (bl' 3 (oE (eC (.str []))))
  (aL' (gs' (br' (eV 1)) (gN 4) (bl' 3 (oE (eOp bw' (eV 3) (eOp pIx (eV 2) (eO (aO' f__law_draw (ae' (eV 0) (ae' (eUn b9' (eV 2)) ba')))))))))
  (bn' (oV 3))))))
def f__law_is_whole : MF := fnM 1 1 ((bn' (oE (nD' (eUn (bt' "int") (eV 0)) (sH' (eUn (bt' "bool") (eV 0)))))))
def f__law_is_states : MF := fnM 2 3 ((aL' (sIf (fz' (tE (eUn (bt' "tuple") (eV 0)))) (bn' (oE (eC (.bl false)))) aM')
  (bn' (oE (eUn sB' (eLc [2] (n0' (eV 0)) (gN 2) tT (nD' (eO (aO' f__law_is_whole (ae' (eV 2) ba'))) (nD' (eOp pLe (eC (.int 0)) (eV 2)) (eOp pLt (eV 2) (eV 1))))))))))
def f__law_fault : MF := fnM 3 5 ((aL' (sIf (tOr (fz' (tE (eUn (bt' "str") (eV 0)))) (tOr (tE (eOp pLt (eUn b9' (eV 0)) (eC (.int 1)))) (tE (eOp pGt (eUn b9' (eV 0)) (eC (.int 4)))))) (bn' (oE (eC (.str [108, 101, 116, 116, 101, 114, 115])))) aM')
  (aL' (gs' (br' (eUn b9' (eV 0))) (gN 3) (sIf (tOr (tE (eOp dM' (eOp pIx (eV 0) (eV 3)) (eUn bZ' (eC (.str [97, 98, 99, 100, 101, 102, 103, 104, 105, 106, 107, 108, 109, 110, 111, 112, 113, 114, 115, 116, 117, 118, 119, 120, 121, 122]))))) (p5' (tE (eOp pGt (eV 3) (eC (.int 0)))) (tE (eOp pGe (eOp pIx (eV 0) (eOp kW' (eV 3) (eC (.int 1)))) (eOp pIx (eV 0) (eV 3)))))) (bn' (oE (eC (.str [108, 101, 116, 116, 101, 114, 115])))) aM'))
  (aL' (sIf (tOr (fz' (tE (eUn (bt' "tuple") (eV 1)))) (tOr (tE (eOp pLt (eUn b9' (eV 1)) (eC (.int 1)))) (tE (eOp pGt (eUn b9' (eV 1)) (eC (.int 6)))))) (bn' (oE (eC (.str [116, 97, 98, 108, 101])))) aM')
  (aL' (gs' (n0' (eV 1)) (gN 4) (sIf (tOr (fz' (tE (eO (aO' f__law_is_states (ae' (eV 4) (ae' (eUn b9' (eV 1)) ba')))))) (tE (eOp pNe (eUn b9' (eV 4)) (eUn b9' (eV 0))))) (bn' (oE (eC (.str [116, 97, 98, 108, 101])))) aM'))
  (aL' (sIf (fz' (tE (eO (aO' f__law_is_states (ae' (eV 2) (ae' (eUn b9' (eV 1)) ba')))))) (bn' (oE (eC (.str [97, 99, 99, 101, 112, 116, 115])))) aM')
  (aL' (gs' (eM' (eC (.int 1)) (eUn b9' (eV 2))) (gN 3) (sIf (tE (eOp pGe (eOp pIx (eV 2) (eOp kW' (eV 3) (eC (.int 1)))) (eOp pIx (eV 2) (eV 3)))) (bn' (oE (eC (.str [97, 99, 99, 101, 112, 116, 115])))) aM'))
  (bn' (oE (eC .non))))))))))
def f__law_bad_letters : MF := fnM 2 4 ((aL' (bl' 2 (aO' f__law_draw (ae' (eV 0) (ae' (eC (.int 8)) ba'))))
  (aL' (bl' 3 (aO' f__law_draw (ae' (eV 0) (ae' (eOp bw' (eUn b9' (eV 1)) (eC (.int 1))) ba'))))
  (aL' (sIf (tE (eOp pEq (eV 2) (eC (.int 0)))) (bn' (aO' f__law_odd (ae' (eV 0) ba'))) aM')
  (aL' (sIf (tE (eOp pEq (eV 2) (eC (.int 1)))) (bn' (oE (eUn sz' (eV 1)))) aM')
  (aL' (sIf (tE (eOp pEq (eV 2) (eC (.int 2)))) (bn' (oE (eOp bw' (eSl (eV 1) pNo (pSo (eV 3))) (eSl (eV 1) (pSo (eOp iy' (eC (.int 0)) (eOp kW' (eV 3) (eC (.int 1))))) pNo)))) aM')
  (aL' (sIf (tE (eOp pEq (eV 2) (eC (.int 3)))) (bn' (oE (eOp bw' (eOp bw' (eSl (eV 1) pNo (pSo (eV 3))) (eO (aO' f__law_signs (ae' (eV 0) (ae' (eC (.int 1)) ba'))))) (eSl (eV 1) (pSo (eV 3)) pNo)))) aM')
  (aL' (sIf (tE (eOp pEq (eV 2) (eC (.int 4)))) (bn' (oE (eMt hA' (eC (.str [])) (ae' (eUn cp' (eO (aO' f__law_letters (ae' (eV 0) (ae' (eC (.str [97, 98, 99, 100, 101, 102, 103, 104, 105, 106, 107, 108, 109, 110, 111, 112, 113, 114, 115, 116, 117, 118, 119, 120, 121, 122])) (ae' (eOp bw' (eC (.int 3)) (eO (aO' f__law_draw (ae' (eV 0) (ae' (eC (.int 3)) ba'))))) ba')))))) ba')))) aM')
  (aL' (sIf (tE (eOp pEq (eV 2) (eC (.int 5)))) (bn' (oE (eUn bZ' (eV 1)))) aM')
  (aL' (sIf (tE (eOp pEq (eV 2) (eC (.int 6)))) (bn' (oE (eOp bw' (eSl (eV 1) pNo (pSo (eV 3))) (eUn hh' (eSl (eV 1) (pSo (eV 3)) pNo))))) aM')
  (bn' (oE (eSl (eV 1) pNo (pSo (eV 3)))))))))))))))
def f__law_bad_states : MF := fnM 3 6 ((aL' (bl' 3 (aO' f__law_draw (ae' (eV 0) (ae' (eC (.int 9)) ba'))))
  (aL' (bl' 4 (aO' f__law_draw (ae' (eV 0) (ae' (eOp bw' (eUn b9' (eV 1)) (eC (.int 1))) ba'))))
  (aL' (sIf (tE (eOp pEq (eV 3) (eC (.int 0)))) (bn' (aO' f__law_odd (ae' (eV 0) ba'))) aM')
  (aL' (sIf (tE (eOp pEq (eV 3) (eC (.int 1)))) (bn' (oE (eUn bZ' (eV 1)))) aM')
  (aL' (sIf (tE (eOp pEq (eV 3) (eC (.int 2)))) (bn' (oE (eOp bw' (eSl (eV 1) pNo (pSo (eV 4))) (eSl (eV 1) (pSo (eOp bw' (eV 4) (eC (.int 1)))) pNo)))) aM')
  (aL' (sIf (tE (eOp pEq (eV 3) (eC (.int 3)))) (bn' (oE (eOp bw' (eSl (eV 1) pNo (pSo (eV 4))) (eSl (eV 1) (pSo (eOp iy' (eC (.int 0)) (eOp kW' (eV 4) (eC (.int 1))))) pNo)))) aM')
  (aL' (sIf (tE (eOp pEq (eV 3) (eC (.int 4)))) (bn' (oE (eUn rp' (eV 1)))) aM')
  (aL' (bl' 5 (oE (hH' (ae' (eV 2) (ae' (eUn tV' (eC (.int 1))) (ae' (eOp kW' (eV 2) (eC (.int 1))) (ae' (eC (.bl true)) (ae' (eC (.bl false)) (ae' (eC .non) (ae' (eC (.str [48])) (ae' (nC' (ae' (eC (.int 0)) ba')) (ae' (eC (.int 0)) (ae' (eOp bw' (eV 2) (eC (.int 1))) ba')))))))))))))
  (aL' (sIf (tE (eOp pEq (eV 3) (eC (.int 5)))) (bn' (oE (eOp bw' (eOp bw' (eSl (eV 1) pNo (pSo (eV 4))) (nC' (ae' (eOp pIx (eV 5) (eO (aO' f__law_draw (ae' (eV 0) (ae' (eC (.int 10)) ba'))))) ba'))) (eSl (eV 1) (pSo (eV 4)) pNo)))) aM')
  (bn' (oE (eOp bw' (eOp bw' (eSl (eV 1) pNo (pSo (eV 4))) (nC' (ae' (eOp pIx (eV 5) (eO (aO' f__law_draw (ae' (eV 0) (ae' (eC (.int 10)) ba'))))) ba'))) (eSl (eV 1) (pSo (eOp bw' (eV 4) (eC (.int 1)))) pNo))))))))))))))
def f__law_bad_table : MF := fnM 2 4 ((aL' (bl' 2 (aO' f__law_draw (ae' (eV 0) (ae' (eC (.int 8)) ba'))))
  (aL' (bl' 3 (aO' f__law_draw (ae' (eV 0) (ae' (eUn b9' (eV 1)) ba'))))
  (aL' (sIf (tE (eOp pEq (eV 2) (eC (.int 0)))) (bn' (aO' f__law_odd (ae' (eV 0) ba'))) aM')
  (aL' (sIf (tE (eOp pEq (eV 2) (eC (.int 1)))) (bn' (oE (eUn bZ' (eV 1)))) aM')
  (aL' (sIf (tE (eOp pEq (eV 2) (eC (.int 2)))) (bn' (oE (eOp bw' (eSl (eV 1) pNo (pSo (eV 3))) (eSl (eV 1) (pSo (eOp bw' (eV 3) (eC (.int 1)))) pNo)))) aM')
  (aL' (sIf (tE (eOp pEq (eV 2) (eC (.int 3)))) (bn' (oE (eOp bw' (eV 1) (eOp oS' (eSl (eV 1) (pSo (eV 3)) (pSo (eOp bw' (eV 3) (eC (.int 1))))) (eO (aO' f__law_draw (ae' (eV 0) (ae' (eC (.int 7)) ba')))))))) aM')
  (bn' (oE (eOp bw' (eOp bw' (eSl (eV 1) pNo (pSo (eV 3))) (nC' (ae' (eO (aO' f__law_bad_states (ae' (eV 0) (ae' (eOp pIx (eV 1) (eV 3)) (ae' (eUn b9' (eV 1)) ba'))))) ba'))) (eSl (eV 1) (pSo (eOp bw' (eV 3) (eC (.int 1)))) pNo)))))))))))
def f_law : MF := fnM 1 13 ((aL' (bl' 1 (aO' f__law_hand (ae' (eV 0) ba')))
  (aL' (gs' (br' (eC (.int 12))) (gN 2) (aL' (ty' (gT [3, 4, 5]) (eO (aO' f__law_parts (ae' (eV 1) (ae' (eC (.int 4)) (ae' (eC (.int 6)) ba'))))))
  (aL' (bl' 6 (aO' f__law_draw (ae' (eV 1) (ae' (eC (.int 8)) ba'))))
  (aL' (bl' 7 (oE (eUn b9' (eV 4))))
  (aL' (sIf (tE (eOp pEq (eOp gt' (eV 6) (eC (.int 2))) (eC (.int 1)))) (bl' 3 (aO' f__law_bad_letters (ae' (eV 1) (ae' (eV 3) ba')))) aM')
  (aL' (sIf (tE (eOp pEq (eOp gt' (eOp e7' (eV 6) (eC (.int 2))) (eC (.int 2))) (eC (.int 1)))) (bl' 4 (aO' f__law_bad_table (ae' (eV 1) (ae' (eV 4) ba')))) aM')
  (aL' (sIf (tE (eOp pEq (eOp e7' (eV 6) (eC (.int 4))) (eC (.int 1)))) (bl' 5 (aO' f__law_bad_states (ae' (eV 1) (ae' (eV 5) (ae' (eV 7) ba'))))) aM')
  (aL' (bl' 8 (aO' f__law_fault (ae' (eV 3) (ae' (eV 4) (ae' (eV 5) ba')))))
  (aL' (bl' 9 (oE (eUn iw' (hH' (ae' (eV 3) (ae' (eV 4) (ae' (eV 5) ba')))))))
  (aL' (bl' 10 (oE (eC .non)))
  (aL' (bl' 11 (oE (eC .non)))
  (aL' (fE' 12 0 (bl' 10 (kY' "Machine" f_Machine___init__ (ae' (eV 3) (ae' (eV 4) (ae' (eV 5) ba'))))) (fun y_ => sub exT y_ "NoMachine") (fun x_ => (bl' 11 (oE (eXf 12 ["NoMachine"] "part" x_)))))
  (aL' (sIf (tOr (tE (eOp pNe (eOp pIs (eV 10) (eC .non)) (eOp eC' (eV 8) (eC .non)))) (tOr (tE (eOp pNe (eV 11) (eV 8))) (tE (eOp sA' (eUn iw' (hH' (ae' (eV 3) (ae' (eV 4) (ae' (eV 5) ba'))))) (eV 9))))) (bn' (oE (eC (.bl false)))) aM')
  (sIf (p5' (tE (eOp eC' (eV 10) (eC .non))) (tE (eOp sA' (eUn iw' (hH' (ae' (eO (e9' ["Machine"] "letters" f_Machine_letters (eV 10) ba')) (ae' (eO (e9' ["Machine"] "table" f_Machine_table (eV 10) ba')) (ae' (eO (e9' ["Machine"] "accepts" f_Machine_accepts (eV 10) ba')) ba'))))) (eV 9)))) (bn' (oE (eC (.bl false)))) aM'))))))))))))))
  (bn' (oE (eC (.bl true)))))))
end M
namespace S
open PySem PySem.Spec PyProof.Rows L2
def top (i : Nat) : Stmt := PySem.Challenge.pw_saidacross_k02_parts_that_make_no_machin.main.body.getD i (.Pass ⟨0, 0, 0, 0⟩)
abbrev aT' : Stmt := top 5
abbrev ib' : List Str := ["thing"]
theorem f0' : FnScope ib' ["thing"] (defScope aT') := (by walk_at "3")
def di' : He.DefD := ⟨("is_integer", none), "is_integer", "is_integer", defArgs aT', defBody aT', defScope aT', [], []⟩
abbrev aG' : Stmt := top 6
abbrev fm' : List Str := ["thing", "signs", "sign"]
theorem cn' : FnScope fm' ["thing", "signs"] (defScope aG') := (by walk_at "3")
def cu' : He.DefD := ⟨("is_string_of", none), "is_string_of", "is_string_of", defArgs aG', defBody aG', defScope aG', [], []⟩
abbrev aH' : Stmt := top 7
abbrev fn' : List Str := ["thing", "one", "other"]
theorem bK' : FnScope fn' ["thing"] (defScope aH') := (by walk_at "3")
def cv' : He.DefD := ⟨("is_ascending", none), "is_ascending", "is_ascending", defArgs aH', defBody aH', defScope aH', [], []⟩
abbrev a5' : Stmt := top 8
abbrev i7' : List Str := ["thing", "signs"]
theorem g8' : FnScope i7' ["thing", "signs"] (defScope a5') := (by walk_at "3")
def dS' : He.DefD := ⟨("is_choice", none), "is_choice", "is_choice", defArgs a5', defBody a5', defScope a5', [], []⟩
abbrev aU' : Stmt := top 10
abbrev ic' : List Str := ["thing", "many", "state"]
theorem c0' : FnScope ic' ["thing", "many"] (defScope aU') := (by walk_at "3")
def dj' : He.DefD := ⟨("are_states", none), "are_states", "are_states", defArgs aU', defBody aU', defScope aU', [], []⟩
abbrev bb' : Stmt := top 11
abbrev lf' : List Str := ["thing", "letters", "row"]
theorem ev' : FnScope lf' ["thing", "letters"] (defScope bb') := (by walk_at "3")
def eQ' : He.DefD := ⟨("is_table", none), "is_table", "is_table", defArgs bb', defBody bb', defScope bb', [], []⟩
abbrev as' : Stmt := inClass (top 12) 0
abbrev dr' : List Str := ["self", "letters", "table", "accepts"]
theorem cN' : FnScope dr' ["self", "letters", "table", "accepts"] (defScope as') := (by walk_at "3")
def bM' : He.DefD := ⟨("Machine", some "__init__"), "__init__", "Machine.__init__", defArgs as', defBody as', defScope as', [], []⟩
abbrev aJ' : Stmt := inClass (top 12) 1
abbrev fq' : List Str := ["self", "letters", "table", "accepts"]
theorem ex' : FnScope fq' ["self", "letters", "table", "accepts"] (defScope aJ') := (by walk_at "3")
def cx' : He.DefD := ⟨("Machine", some "keep"), "keep", "Machine.keep", defArgs aJ', defBody aJ', defScope aJ', [], []⟩
abbrev ax' : Stmt := inClass (top 12) 2
abbrev dK' : List Str := ["self"]
theorem c1' : FnScope dK' ["self"] (defScope ax') := (by walk_at "3")
def bR' : He.DefD := ⟨("Machine", some "letters"), "letters", "Machine.letters", defArgs ax', defBody ax', defScope ax', [], []⟩
abbrev aD' : Stmt := inClass (top 12) 3
abbrev e3' : List Str := ["self"]
theorem dZ' : FnScope e3' ["self"] (defScope aD') := (by walk_at "3")
def ci' : He.DefD := ⟨("Machine", some "table"), "table", "Machine.table", defArgs aD', defBody aD', defScope aD', [], []⟩
abbrev ay' : Stmt := inClass (top 12) 4
abbrev dL' : List Str := ["self"]
theorem c2' : FnScope dL' ["self"] (defScope ay') := (by walk_at "3")
def bS' : He.DefD := ⟨("Machine", some "accepts"), "accepts", "Machine.accepts", defArgs ay', defBody ay', defScope ay', [], []⟩
abbrev aZ' : Stmt := top 14
abbrev e2' : List Str := ["_law_script", "_law_cells", "_law_cell"]
theorem co' : FnScope e2' ["_law_script"] (defScope aZ') := (by walk_at "3")
def dU' : He.DefD := ⟨("_law_hand", none), "_law_hand", "_law_hand", defArgs aZ', defBody aZ', defScope aZ', [], []⟩
abbrev a6' : Stmt := top 15
abbrev i8' : List Str := ["_law_hand_here", "_law_many", "_law_cell", "_law_digit", "_law_number"]
theorem bm' : FnScope i8' ["_law_hand_here", "_law_many"] (defScope a6') := (by walk_at "3")
def dV' : He.DefD := ⟨("_law_draw", none), "_law_draw", "_law_draw", defArgs a6', defBody a6', defScope a6', [], []⟩
abbrev aI' : Stmt := top 16
abbrev fo' : List Str := ["_law_hand_here", "_law_signs_here", "_law_many", "_law_rest", "_law_found", "_law_turn", "_law_at"]
theorem aY' : FnScope fo' ["_law_hand_here", "_law_signs_here", "_law_many"] (defScope aI') := (by walk_at "3")
def cw' : He.DefD := ⟨("_law_letters", none), "_law_letters", "_law_letters", defArgs aI', defBody aI', defScope aI', [], []⟩
abbrev aS' : Stmt := top 17
abbrev cV' : List Str := ["_law_hand_here", "_law_kind", "_law_size", "_law_many", "_law_rows_here", "_law_steps", "_law_turns", "_law_state", "_law_row", "_law_letter", "_law_to"]
theorem ak' : FnScope cV' ["_law_hand_here", "_law_kind", "_law_size", "_law_many"] (defScope aS') := (by walk_at "3")
def dT' : He.DefD := ⟨("_law_rows", none), "_law_rows", "_law_rows", defArgs aS', defBody aS', defScope aS', [], []⟩
abbrev aB' : Stmt := top 18
abbrev e0' : List Str := ["_law_hand_here", "_law_things", "_law_rest", "_law_found", "_law_turn"]
theorem bj' : FnScope e0' ["_law_hand_here", "_law_things"] (defScope aB') := (by walk_at "3")
def cg' : He.DefD := ⟨("_law_shuffled", none), "_law_shuffled", "_law_shuffled", defArgs aB', defBody aB', defScope aB', [], []⟩
abbrev aN' : Stmt := top 19
abbrev dW' : List Str := ["_law_hand_here", "_law_most", "_law_states", "_law_kind", "_law_many", "_law_size", "_law_letters_here", "_law_table", "_law_accepts", "_law_state"]
theorem aK' : FnScope dW' ["_law_hand_here", "_law_most", "_law_states"] (defScope aN') := (by walk_at "3")
def dl' : He.DefD := ⟨("_law_parts", none), "_law_parts", "_law_parts", defArgs aN', defBody aN', defScope aN', [], []⟩
abbrev bc' : Stmt := top 20
abbrev lg' : List Str := ["_law_hand_here", "_law_odd_here"]
theorem ew' : FnScope lg' ["_law_hand_here"] (defScope bc') := (by walk_at "3")
def eR' : He.DefD := ⟨("_law_odd", none), "_law_odd", "_law_odd", defArgs bc', defBody bc', defScope bc', [], []⟩
abbrev aV' : Stmt := top 21
abbrev id' : List Str := ["_law_hand_here", "_law_many", "_law_signs_here", "_law_text", "_law_turn"]
theorem bq' : FnScope id' ["_law_hand_here", "_law_many"] (defScope aV') := (by walk_at "3")
def dk' : He.DefD := ⟨("_law_signs", none), "_law_signs", "_law_signs", defArgs aV', defBody aV', defScope aV', [], []⟩
abbrev aC' : Stmt := top 22
abbrev e1' : List Str := ["_law_thing"]
theorem dY' : FnScope e1' ["_law_thing"] (defScope aC') := (by walk_at "3")
def ch' : He.DefD := ⟨("_law_is_whole", none), "_law_is_whole", "_law_is_whole", defArgs aC', defBody aC', defScope aC', [], []⟩
abbrev av' : Stmt := top 23
abbrev cj' : List Str := ["_law_thing", "_law_many", "_law_state"]
theorem bu' : FnScope cj' ["_law_thing", "_law_many"] (defScope av') := (by walk_at "3")
def b6' : He.DefD := ⟨("_law_is_states", none), "_law_is_states", "_law_is_states", defArgs av', defBody av', defScope av', [], []⟩
abbrev aW' : Stmt := top 24
abbrev if' : List Str := ["_law_letters_here", "_law_table", "_law_accepts", "_law_k", "_law_row"]
theorem bG' : FnScope if' ["_law_letters_here", "_law_table", "_law_accepts"] (defScope aW') := (by walk_at "3")
def dm' : He.DefD := ⟨("_law_fault", none), "_law_fault", "_law_fault", defArgs aW', defBody aW', defScope aW', [], []⟩
abbrev ar' : Stmt := top 25
abbrev dq' : List Str := ["_law_hand_here", "_law_letters_here", "_law_way", "_law_at"]
theorem bk' : FnScope dq' ["_law_hand_here", "_law_letters_here"] (defScope ar') := (by walk_at "3")
def bL' : He.DefD := ⟨("_law_bad_letters", none), "_law_bad_letters", "_law_bad_letters", defArgs ar', defBody ar', defScope ar', [], []⟩
abbrev aw' : Stmt := top 26
abbrev dJ' : List Str := ["_law_hand_here", "_law_states", "_law_many", "_law_way", "_law_at", "_law_odd_here"]
theorem bf' : FnScope dJ' ["_law_hand_here", "_law_states", "_law_many"] (defScope aw') := (by walk_at "3")
def bQ' : He.DefD := ⟨("_law_bad_states", none), "_law_bad_states", "_law_bad_states", defArgs aw', defBody aw', defScope aw', [], []⟩
abbrev az' : Stmt := top 27
abbrev d6' : List Str := ["_law_hand_here", "_law_table", "_law_way", "_law_at"]
theorem bv' : FnScope d6' ["_law_hand_here", "_law_table"] (defScope az') := (by walk_at "3")
def b7' : He.DefD := ⟨("_law_bad_table", none), "_law_bad_table", "_law_bad_table", defArgs az', defBody az', defScope az', [], []⟩
abbrev e6' : Stmt := top 28
abbrev xD' : List Str := ["_law_script", "_law_hand_here", "_law_turn", "_law_letters_here", "_law_table", "_law_accepts", "_law_spoils", "_law_size", "_law_due", "_law_shown", "_law_machine", "_law_part", "error"]
theorem bs' : FnScope xD' ["_law_script"] (defScope e6') := (by walk_at "3")
def qu' : He.DefD := ⟨("law", none), "law", "law", defArgs e6', defBody e6', defScope e6', [], []⟩
def fns : List He.DefD := [di', cu', cv', dS', dj', eQ', bM', cx', bR', ci', bS', dU', dV', cw', dT', cg', dl', eR', dk', ch', b6', dm', bL', bQ', b7', qu']
def tbs : List He.Tab := []
def fas : List He.Fa := [.glo "is_integer", .glo "is_string_of", .glo "is_ascending", .glo "is_choice", .glo "are_states", .glo "is_table", .glo "_law_hand", .glo "_law_draw", .glo "_law_letters", .glo "_law_rows", .glo "_law_shuffled", .glo "_law_parts", .glo "_law_odd", .glo "_law_signs", .glo "_law_is_whole", .glo "_law_is_states", .glo "_law_fault", .glo "_law_bad_letters", .glo "_law_bad_states", .glo "_law_bad_table", .glo "law", .glo "SaidError", .exc "SaidError", .glo "NoMachine", .glo "Machine", .str "SMALL" "abcdefghijklmnopqrstuvwxyz", .free "zip", .free "range", .free "tuple", .free "list", .free "all", .free "isinstance", .free "int", .free "str", .free "abs", .free "len", .free "max", .free "sorted", .free "repr", .free "bool", .free "min", .cls "Machine", .noat "Machine" "kept_letters", .noat "Machine" "kept_table", .noat "Machine" "kept_accepts", .noat "Machine" "kept_least", .noat "Machine" "kept_field", .noat "Machine" "kept_lots", .noat "Machine" "kept_more", .mkr "Machine", .meth "Machine" "keep", .meth "Machine" "letters", .meth "Machine" "table", .meth "Machine" "accepts", .free "super"]
def exs : List (PySem.W.Frag -> Bool) := [fun K => (M.exT.all fun e => decide (PySem.W.exmOne K (.ref (He.ga K e.1)) (.ref (He.ga K e.2.1)) = some e.2.2)), fun K => v9' "/claim/cut.py" K (He.ga K "NoMachine") (He.ma K (He.ga K "NoMachine") "__init__") "part", fun K => (K.lookup sysModules).isSome, fun K => sK' K ["NoMachine"] "part"]
def exK (K : PySem.W.Frag) : Bool := exs.all fun f => f K
end S
set_option maxHeartbeats 0
namespace S
open PySem PySem.Spec PyProof.Rows L2
def uf' : List Str := ["SaidError", "NoMachine", "SMALL", "is_integer", "is_string_of", "is_ascending", "is_choice", "are_states", "is_table", "Machine", "_law_hand", "_law_draw", "_law_letters", "_law_rows", "_law_shuffled", "_law_parts", "_law_odd", "_law_signs", "_law_is_whole", "_law_is_states", "_law_fault", "_law_bad_letters", "_law_bad_states", "_law_bad_table"]
def loose : List Str := uf'
abbrev Rw : PySem.W.OpenRow := PySem.W.OpenLaw.row PySem.Challenge.rw_saidacross_k02_parts_that_make_no_machin
def asS (n : Nat) (g : Addr -> Option Obj) : List Addr := He.asD g n ++ [cStatics, sysModules]
def vL' (n : Nat) (g : Addr -> Option Obj) : He.AlX := (He.obsT fas fns tbs (He.frT g (asS n g)), exK (He.frT g (asS n g)))
theorem wc' {n : Nat} {w : World} {h : Heap} (e : vL' n h.get? = (He.valT fns tbs w, true)) : He.SaysX fas fns tbs [] exK w h (He.frT h.get? (asS n h.get?)) :=
  ⟨congrArg (fun z : He.AlX => z.1) e, congrArg (fun z : He.AlX => z.2) e, fun _ z => absurd z List.not_mem_nil, fun _ z => absurd z List.not_mem_nil, fun _ z => absurd z List.not_mem_nil⟩
def hkS (n : Nat) : PySem.W.Hook where
  α := He.AlX
  obs := fun s => vL' n s.heap.get?
  val := fun w => (He.valT fns tbs w, true)
  says := fun w h => ∃ K : PySem.W.Frag, K.In h /\ He.SaysX fas fns tbs [] exK w h K
  of := fun _ _ e => ⟨_, He.frT_in, wc' e⟩
  keeps := fun _ _ _ ⟨K, hK, c⟩ k => ⟨K, PySem.W.Frag.In.keeps hK k, ⟨c.t, c.more, c.hd, c.out, fun _ z => absurd z List.not_mem_nil⟩⟩
theorem rA' {n : Nat} {g : Addr -> Option Obj} {s : Shared} (h : ∀ a, g a = s.heap.get? a) : vL' n g = (hkS n).obs s := by
  have e : g = s.heap.get? := funext h
  rw [e]; rfl
abbrev hk : PySem.W.Hook := hkS 4
def ob (s : PySem.W.SharedT) : He.AlX := vL' 4 (HandSHeadRun.getT s)
theorem wy' (s : PySem.W.SharedT) : ob s = hk.obs s.abs := rA' (HandSHeadRun.getT_eq s)
theorem tT' {α β γ : Type} {x : Option α} {f : α -> β} {g : α -> γ} {b : β} {c : γ} (h1 : x.map f = some b) (h2 : x.map g = some c) : x.map (fun s => (f s, g s)) = some (b, c) := by
  cases x with
  | none => cases h1
  | some a =>
    obtain rfl := Option.some.inj h1
    obtain rfl := Option.some.inj h2
    rfl
section
open PySem.W HandSHeadRun
theorem yk' (w : World) (os : OsState) : (endF (stepQ (denQ tabQ) Rw.prog w) 2140 Rw.prog w os).map (fun s => looksF Rw.prog (boot_heap w.params) s.abs) = some true := by kernel_rfl
theorem yj' (w : World) (os : OsState) : (endF (stepQ (denQ tabQ) Rw.prog w) 2140 Rw.prog w os).map (fun s => seenQ (PySem.W.view Rw.prog [28]) loose (importedModules Rw.prog.main.body) (fun s => xlAt (PySem.W.view Rw.prog [28]) [] s && recOk Rw.toRowW.records s) s.abs) = some (openGood (PySem.W.view Rw.prog [28]) loose) := by kernel_rfl
theorem yi' (w : World) (os : OsState) : (endF (stepQ (denQ tabQ) Rw.prog w) 2140 Rw.prog w os).map (fun s => ob s) = some (hk.val w) := by kernel_rfl
end
theorem run (w : World) : HandSHeadRun.RunEq Rw (PySem.W.view Rw.prog [28]) hk ob 2140 loose w := fun os => tT' (yk' w os) (tT' (yj' w os) (yi' w os))
end S
set_option maxHeartbeats 4000000
namespace S
open PySem PySem.Spec PyProof.Rows L2
abbrev St := L2.St
section
variable {X : Cx}
def lh' (z : Str) (n : Nat) : Str := ⟨((List.replicate n z.cps.toList).flatten).toArray⟩
theorem hF' : ∀ (l : List (Array Nat)) (a : Array Nat), l.foldl (· ++ ·) a = (a.toList ++ (l.map Array.toList).flatten).toArray
  | [], a => by simp
  | b :: r, a => by
    rw [List.foldl_cons, hF' r]
    simp
theorem mN' (z : Str) (n : Nat) : (⟨(List.replicate n z.cps).foldl (· ++ ·) #[]⟩ : Str) = lh' z n := by
  unfold lh'
  rw [hF']
  simp
theorem oI' (z : Str) : lh' z 1 = z := by
  obtain ⟨c⟩ := z
  simp [lh']
theorem mM' (z : Str) : lh' z 0 = Str.empty := by
  simp [lh']
  rfl
theorem kT' (z : Str) (h : z.length = 0) (n : Nat) : lh' z n = z := by
  obtain ⟨c⟩ := z
  have e : c.toList = [] := by
    have h1 : c.size = 0 := h
    exact List.eq_nil_of_length_eq_zero (by simpa using h1)
  have e2 : c = #[] := by simpa using congrArg List.toArray e
  subst e2
  simp [lh']
theorem ir' (z : Str) (n : Nat) : (lh' z n).length = n * z.length := by
  show ((List.replicate n z.cps.toList).flatten).toArray.size = _
  rw [List.size_toArray, List.length_flatten]
  simp
  rfl
def qd' : R2 := fun x y H Q => ∃ z i, x = .str z /\ y = .int i /\ i < 2 ^ 62 /\ -(2 ^ 62) <= i /\ z.length * i.toNat <= sizeLine /\ Q (.str (lh' z i.toNat)) H
theorem oU' : OpR X (binaryOp .Mult) qd' := by
  intro pins s σ H x y v u Q I rx ry h
  obtain ⟨z, i, rfl, rfl, h1, h2, h3, q⟩ := h
  obtain ⟨t, rfl⟩ := rx
  obtain ⟨t', rfl⟩ := ry
  have h63 : (decide (i < -(2 ^ 63 : Int)) || decide (i >= 2 ^ 63)) = false := by
    rw [decide_eq_false (by omega), decide_eq_false (by omega)]; rfl
  have hsz : (sizeLine : Nat) < 2 ^ 62 := by rw [sizeLine_eq]; decide
  refine PySem.P.mul_str h63 (fun hn hz => ?_) (fun hn hz => ?_) ?_
  . intro hg
    have hpos : 0 < i := by omega
    have e : (i.toNat : Int) = i := by omega
    have h4 : (z.length : Int) * i <= sizeLine := by
      rw [<- e]; exact_mod_cast h3
    have h5 : (2 ^ 63 - 1) / i < (z.length : Int) := hg
    have h6 : (2 ^ 63 - 1 : Int) < z.length * i := by
      have := Int.lt_mul_of_ediv_lt hpos h5
      rw [Int.mul_comm] at this
      first
        | exact this
        | (rw [Int.mul_comm]; exact this)
    omega
  . exact decide_eq_false (by omega)
  . by_cases hn : i < 1
    . rw [if_pos hn]
      have e : i.toNat = 0 := by omega
      rw [e, mM'] at q
      exact ⟨by decide, .str Str.empty, H, I.tok _, ⟨_, rfl⟩, q⟩
    . rw [if_neg hn]
      by_cases hz : (i == 1 || z.length == 0) = true
      . rw [if_pos hz]
        have e : lh' z i.toNat = z := by
          rcases Bool.or_eq_true_iff.mp hz with h | h
          . have h' : i = 1 := eq_of_beq h
            rw [h']; exact oI' z
          . exact kT' z (eq_of_beq h) _
        rw [e] at q
        exact ⟨.str z, H, I, ⟨_, rfl⟩, q⟩
      . rw [if_neg hz, mN']
        exact ⟨by rw [ir', Nat.mul_comm]; omega, .str _, H, I.tok _, ⟨_, rfl⟩, q⟩
def tG' : R2 := fun x y H Q => rI CMul (fun i j => .int (i * j)) x y H Q \/ qd' x y H Q \/ rRep x y H Q
theorem rr' : OpR X (binaryOp .Mult) tG' := op_mul.or (oU'.or op_rep)
def tK' (f : List Nat -> List Nat -> Bool) : R2 := fun x y H Q => ∃ i j, x = .str i /\ y = .str j /\ Q (.bl (f i.cps.toList j.cps.toList)) H
def qf' (p : Int -> Int -> Bool) (f : List Nat -> List Nat -> Bool) : R2 := fun x y H Q => rI0 (fun i j => .bl (p i j)) x y H Q \/ tK' f x y H Q
theorem fJ' : OpR X (compareOp .Lt) (qf' (fun i j => decide (i < j)) fun a b => decide (a < b)) := op_lt.or (r' := tK' fun a b => decide (a < b)) op_lt_str
theorem hk' : OpR X (compareOp .LtE) (qf' (fun i j => decide (i <= j)) fun a b => !decide (b < a)) := op_le.or (r' := tK' fun a b => !decide (b < a)) op_le_str
theorem hm' : OpR X (compareOp .Gt) (qf' (fun i j => decide (j < i)) fun a b => decide (b < a)) := op_gt.or (r' := tK' fun a b => decide (b < a)) op_gt_str
theorem hn' : OpR X (compareOp .GtE) (qf' (fun i j => decide (j <= i)) fun a b => !decide (a < b)) := op_ge.or (r' := tK' fun a b => !decide (a < b)) op_ge_str
def tO' (K : PySem.W.Frag) : R2 := fun x y H Q => rI0 (fun i j => .int (i + j)) x y H Q \/ (∃ i j, x = .str i /\ y = .str j /\ i.length + j.length <= sizeLine /\ Q (.str (i ++ j)) H) \/ rCat x y H Q \/ rCatA K x y H Q
theorem am' : OpR X (binaryOp .Add) (tO' X.K) := op_add.or (op_add_str.or (op_cat.or op_catA))
def xP' (K : PySem.W.Frag) : R2 := fun x y H Q => rEq x y H Q \/ rEqD K x y H Q
theorem aX' (hu : X.A.units + 64 < cLine) : OpR X (compareOp .Eq) (xP' X.K) := op_eq.or (op_eqD hu)
def wn' (K : PySem.W.Frag) : R2 := fun x y H Q => rNe x y H Q \/ rNeD K x y H Q
theorem fI' (hu : X.A.units + 64 < cLine) : OpR X (compareOp .NotEq) (wn' X.K) := op_ne.or (op_neD hu)
def mU' : R2 := fun x y H Q => ∃ (c : Nat) (z : Str), x = .str ⟨#[c]⟩ /\ y = .str z /\ Q (.bl (!decide (c ∈ z.cps.toList))) H
def ki' : R2 := fun x y H Q => ∃ i j, x = .str i /\ y = .str j /\ Q (.bl (!(!(Builtin.Str.occurrences j i 0 j.length 1).isEmpty))) H
def mT' (K : PySem.W.Frag) : R2 := fun x y H Q => mU' x y H Q \/ rIn K true x y H Q \/ ki' x y H Q
theorem hi' : OpR X (compareOp .NotIn) (mT' X.K) := OpR.or (r := mU') op_notIn_sign (op_notIn_seq.or (r' := ki') op_notIn_str)
def xM' (K : PySem.W.Frag) : V -> Option Int -> Option Int -> Hp -> VK -> Prop := fun x lo hi H Q => rSlL K x lo hi H Q \/ rSlS x lo hi H Q \/ rSlA K x lo hi H Q
theorem ed' : SlR X (xM' X.K) := sl_list.or (sl_str.or sl_tupA)
def tL' (K : PySem.W.Frag) : List V -> Hp -> VK -> Prop := fun xs H Q => (∃ z, xs = [.str z] /\ z.length <= sizeLine /\ Q (.int z.length) H) \/ (∃ p ys, xs = [.ref p] /\ (SqL K H p ys \/ SqT K H p ys) /\ Q (.int ys.length) H) \/ (∃ a kvs, xs = [V.ref a] /\ Rd H a (.dK kvs) /\ Q (.int kvs.length) H)
theorem nJ' : CallR X (.builtin "len") (tL' X.K) := call_len_str.or (call_len_seq.or fun pins s σ H vs us Q I r h => by
  obtain ⟨a, kvs, rfl, e, q⟩ := h
  cases r with
  | cons ra rn =>
    cases rn
    cases (show _ = Value.ref a from ra)
    exact d_len I e fun t s' I' => ⟨.int kvs.length, H, I', ⟨t, rfl⟩, q⟩)
def qe' (K : PySem.W.Frag) : List V -> Hp -> VK -> Prop := fun xs H Q => (∃ p ys, xs = [.ref p] /\ (SqL K H p ys \/ SqT K H p ys) /\ ∀ l, H l = none -> Q (.ref l) (upd H l (.lst ys)))
theorem lb' : CallR X (.type "list") (qe' X.K) := call_list_of
def mR' (K : PySem.W.Frag) : List V -> Hp -> VK -> Prop := fun xs H Q => ∃ p ys, xs = [.ref p] /\ ((SqL K H p ys /\ ∀ l, H l = none -> Q (.ref l) (upd H l (.tup ys))) \/ (SqT K H p ys /\ Q (.ref p) H))
theorem iY' : CallR X (.type "tuple") (mR' X.K) := call_tuple_of
def tN' : List V -> Hp -> VK -> Prop := fun xs H Q => (∃ i, xs = [.int i] /\ Q (.int i) H) \/ ∃ k, xs = [.bl k] /\ Q (.int (if k then 1 else 0)) H
theorem a9' : CallR X (.type "int") tN' := call_int1
def tP' : List V -> Hp -> VK -> Prop := fun xs H Q => ∃ i, xs = [.int i] /\ Q (.int (if i < 0 then -i else i)) H
theorem nK' : CallR X (.builtin "abs") tP' := call_abs
def tJ' : List V -> Hp -> VK -> Prop := fun xs H Q => ∃ i j, xs = [.int i, .int j] /\ Q (.int (if j > i then j else i)) H
theorem cD' (hc : X.calm = true) : CallR X (.builtin "max") tJ' := call_max2 hc
def tI' : List V -> Hp -> VK -> Prop := fun xs H Q => ∃ i j, xs = [.int i, .int j] /\ Q (.int (if j < i then j else i)) H
theorem dE' (hc : X.calm = true) : CallR X (.builtin "min") tI' := call_min2 hc
def xO' : R2 := fun x y H Q => y = .non /\ Q (.bl (decide (x = .non))) H
theorem ru' : OpR X (compareOp .Is) xO' := op_isN
def tE' : R2 := fun x y H Q => y = .non /\ Q (.bl (!decide (x = .non))) H
theorem oT' : OpR X (compareOp .IsNot) tE' := op_notN
theorem ro' {x z : Str} {pos : Pos} (hg : Gl X x) (h : ∃ t, X.mg x = some (.str z t)) (hd : (x == ("__debug__" : Str)) = false := by decide) : PE X (.Name x pos) (tC (.str z)) := by
  obtain ⟨t, e⟩ := h
  exact pe_glob hg e ⟨t, rfl⟩ hd
end
section
variable {P : Program} {w : World} {K : PySem.W.Frag} {mg : Str -> Option Value} {base : Heap}
section
variable {X : Cx} {k : Nat} {x : Str} {ps : List Str} {sp : Sp} {p pos : Pos} {e : Expr} {es : List Expr} {t : TA} {W : WX}
end
end
end S
namespace S
open PySem PySem.Spec PyProof.Rows L2
section
variable {K : PySem.W.Frag} {D : Ends} {σ : St} {H H' : Hp} {Q : VK} {t u : TS} {te ta tb tc : TE} {tt tu : TT} {g : TG} {tl : TA} {v x y : V} {i j : Int} {a p : Addr} {xs ys : List V} {z z' : Str} {r : R2}
theorem vZ' {n : String} {tv : Value} {b : Bool} (ty : TyX K H x tv) (e : PySem.W.kitOne K tv (.type n) = some b) (h : Q (.bl b) H) : rIsi K [x, .ty n] H Q := ⟨x, .ty n, tv, _, b, rfl, .ty n, ty, e, h⟩
theorem Same.upd {H : Hp} {p : Addr} {o : HO} (h : H p = none) : Same H (upd H p o) := fun b u e => by
  rw [upd_ne (ne_of_none e h)]; exact e
theorem Same.app (s : Same H H') {o : HO} (h : H p = some o) : H' p = some o := s p o h
end
theorem FnOk.to0 {P : Program} {w : World} {K : PySem.W.Frag} {mg : Str -> Option Value} {base : Heap} {k : Nat} {f : Addr} {fd : FuncData} {ps : List Str} {sp : Sp} (F : FnOk P w K mg base (L2.CX P w) k f fd ps sp) :
    FnOk P w K mg base CX0 k f fd ps (fun vs H Q _ => sp vs H Q E0) :=
  ⟨fun vs H Q _ h => F.len vs H Q E0 h, fun A outer s H args us vs Q _ hr he hb hv hs => codeAny_mono (F.run A outer s H args us vs Q E0 hr he hb hv hs) fun r s' hq => by
    cases r with
    | error e =>
      obtain ⟨_, _, _, _, _, _, _, _, _, _, _, _, z⟩ := hq
      exact z.elim
    | ok fl =>
      cases fl with
      | ret u => exact hq
      | next => exact hq
      | brk => exact hq
      | cont => exact hq⟩
end S
namespace S
open PySem PySem.Spec PyProof.Rows L2
section
variable {α : Type} {as : List α} {J : It} {G : Hp -> Prop} {Y : α -> Hp -> V -> Hp -> Prop} {K : PySem.W.Frag} {D : Ends} {σ : St} {H : Hp} {g : TG} {tb : TS} {tt : TT} {te : TE} {a : Addr}
def yF' (J : It) (g : TG) (tb : TS) (D : Ends) (σ : St) (H1 : Hp) : Prop := ∃ W : Nat -> Nat -> St -> Hp -> Prop, (∃ m, W 0 m σ H1) /\ ∀ i m σ H, W i m σ H →
  (J.stop i H /\ D.nx σ H) \/ (J.go i H /\ ∃ N : St -> Hp -> Prop, (∀ σ' H', N σ' H' -> ∃ m', m' < m /\ W (i + 1) m' σ' H') /\ ∀ x H', J.yld i H x H' -> g x σ H' fun σ2 H2 => tb { D with nx := N, ct := N, bk := D.nx } σ2 H2)
theorem cd' {lo : Int} {n : Nat} (Pv : Nat -> St -> Hp -> Prop) (h0 : Pv 0 σ H)
    (hs : ∀ i σ H, i < n -> Pv i σ H -> g (.int (lo + (i : Nat))) σ H fun σ2 H2 => tb { D with nx := Pv (i + 1), ct := Pv (i + 1), bk := D.nx } σ2 H2) (hd : ∀ σ H, Pv n σ H -> D.nx σ H) : yF' (Itr lo n) g tb D σ H := for_range Pv h0 hs hd
end
def del (H : Hp) (p : Addr) : Hp := fun b => if b = p then none else H b
section
variable {H H' : Hp} {p q : Addr} {o : HO}
theorem Same.del : Same (del H p) H := fun b u e => by
  unfold S.del at e
  split at e
  . cases e
  . exact e
theorem seqT {K : PySem.W.Frag} {a : Addr} {xs : List V} (e : Same H H') (h : SqT K H a xs) : SqT K H' a xs := by
  rcases h with (h | ⟨o, h⟩) | h
  . exact .inl (.inl (e _ _ h))
  . exact .inl (.inr ⟨o, e _ _ h⟩)
  . exact .inr h
end
mutual
theorem Dp.same {K : PySem.W.Frag} {H H' : Hp} (s : Same H H') : ∀ {d : PyData} {v : V}, Dp K H v d -> Dp K H' v d
  | _, _, .non => .non
  | _, _, .bl b => .bl b
  | _, _, .int i => .int i
  | _, _, .str x => .str x
  | _, _, .lst h r => .lst (Same.seq s h) (DpAll.same s r)
  | _, _, .tup h r => .tup (seqT s h) (DpAll.same s r)
theorem DpAll.same {K : PySem.W.Frag} {H H' : Hp} (s : Same H H') : ∀ {ds : List PyData} {vs : List V}, DpAll K H vs ds -> DpAll K H' vs ds
  | _, _, .nil => .nil
  | _, _, .cons h r => .cons (Dp.same s h) (DpAll.same s r)
end
end S
namespace S
open PySem PySem.Spec PyProof.Rows L2
def xE' (c a : Addr) : HO := .ext fun h => ∃ (its : List Value) (n : Nat) (i s t k : Int), Vals [.ref c, .int i, .int s, .int t, .int k] its /\ h.get? a = some { cls := .type "list", data := .seq its.toArray n } /\ 0 <= i
def bA' (H : Hp) (a : Addr) : Prop := ∃ (c : Addr) (ns : List Int), H a = some (xE' c a) /\ H c = some (.lst (ns.map V.int))
theorem bA'.same {H H' : Hp} {a : Addr} (s : Same H H') (h : bA' H a) : bA' H' a := by
  obtain ⟨c, ns, h1, h2⟩ := h
  exact ⟨c, ns, s _ _ h1, s _ _ h2⟩
section
variable {P : Program} {w : World} {H H' : Hp} {h h' : Heap} {a c : Addr} {o o' : HO} {fs : List Addr}
end
section
variable {P : Program} {w : World} {K : PySem.W.Frag} {mg : Str -> Option Value} {base : Heap} {k : Nat} {f : Addr} {fd : FuncData} {ps : List Str}
end
end S
namespace S
open PySem PySem.Spec PyProof.Rows L2
def Sh (n : Nat) (d : PyData) : Prop := d.canLay0 = true /\ d.depth <= n
theorem Sh.shaped {n : Nat} {d : PyData} (h : Sh n d) (hn : n <= 64) : SeqAt.shaped d = true := by
  unfold SeqAt.shaped
  rw [h.1, Bool.true_and]
  exact decide_eq_true (Nat.le_trans h.2 hn)
theorem Sh.mono {n m : Nat} {d : PyData} (h : Sh n d) (e : n <= m) : Sh m d := ⟨h.1, Nat.le_trans h.2 e⟩
theorem Sh.int {n : Nat} {i : Int} : Sh n (.int i) := ⟨rfl, Nat.zero_le _⟩
theorem Sh.bool {n : Nat} {b : Bool} : Sh n (.bool b) := ⟨rfl, Nat.zero_le _⟩
theorem Sh.none {n : Nat} : Sh n .none := ⟨rfl, Nat.zero_le _⟩
theorem Sh.str {n : Nat} {z : Str} (h : ∀ c ∈ z.cps.toList, c < 128) : Sh n (.str z) := by
  refine ⟨?_, Nat.zero_le _⟩
  show PyData.strOk z = true
  unfold PyData.strOk
  rw [Array.all_eq_true']
  intro c hc
  have := h c (by simpa using hc)
  simp only [decide_eq_true_eq]
  omega
theorem Sh.all {n : Nat} : ∀ {ds : List PyData}, (∀ d ∈ ds, Sh n d) -> PyData.canLayAll0 ds = true /\ PyData.depthAll ds <= n
  | [], _ => ⟨rfl, Nat.zero_le _⟩
  | d :: r, h => by
    have h1 := h d (by simp)
    have h2 := Sh.all (ds := r) fun x hx => h x (by simp [hx])
    refine ⟨?_, ?_⟩
    . show (d.canLay0 && PyData.canLayAll0 r) = true
      rw [h1.1, h2.1]
      rfl
    . show max d.depth (PyData.depthAll r) <= n
      exact Nat.max_le.mpr ⟨h1.2, h2.2⟩
theorem Sh.list {n : Nat} {ds : List PyData} (h : ∀ d ∈ ds, Sh n d) : Sh (n + 1) (.list ds) := ⟨(Sh.all h).1, Nat.succ_le_succ (Sh.all h).2⟩
theorem Sh.tuple {n : Nat} {ds : List PyData} (h : ∀ d ∈ ds, Sh n d) : Sh (n + 1) (.tuple ds) := ⟨(Sh.all h).1, Nat.succ_le_succ (Sh.all h).2⟩
section
variable {K : PySem.W.Frag} {H H' : Hp} {v : V} {vs : List V} {ds es : List PyData} {p : Addr} {xs : List V}
theorem DpAll.append : ∀ {vs ws : List V} {ds es : List PyData}, DpAll K H vs ds -> DpAll K H ws es -> DpAll K H (vs ++ ws) (ds ++ es)
  | _, _, _, _, .nil, h => h
  | _, _, _, _, .cons a r, h => .cons a (DpAll.append r h)
theorem DpAll.length : ∀ {vs : List V} {ds : List PyData}, DpAll K H vs ds -> vs.length = ds.length
  | _, _, .nil => rfl
  | _, _, .cons _ r => congrArg (· + 1) (DpAll.length r)
theorem DpAll.split : ∀ {a b : List V} {ds : List PyData}, DpAll K H (a ++ b) ds -> ∃ d e, ds = d ++ e /\ DpAll K H a d /\ DpAll K H b e
  | [], b, ds, h => ⟨[], ds, rfl, .nil, h⟩
  | x :: a, b, _, .cons h r => by
    obtain ⟨d, e, rfl, h1, h2⟩ := DpAll.split (a := a) r
    exact ⟨_ :: d, e, rfl, .cons h h1, h2⟩
theorem DpAll.get : ∀ {vs : List V} {ds : List PyData} {i : Nat} {d : PyData}, DpAll K H vs ds -> ds[i]? = some d -> ∃ v, vs[i]? = some v /\ Dp K H v d
  | _, _, _, _, .nil, e => by cases e
  | _, _, 0, _, .cons h _, e => ⟨_, rfl, by rw [<- Option.some.inj e]; exact h⟩
  | _, _, i + 1, _, .cons _ r, e => DpAll.get (i := i) r e
theorem Dp.int_inv {i : Int} (h : Dp K H v (.int i)) : v = .int i := by cases h; rfl
theorem Dp.str_inv {z : Str} (h : Dp K H v (.str z)) : v = .str z := by cases h; rfl
theorem Dp.tup_inv (h : Dp K H v (.tuple ds)) : ∃ p xs, v = .ref p /\ SqT K H p xs /\ DpAll K H xs ds := by
  cases h with
  | tup h1 h2 => exact ⟨_, _, rfl, h1, h2⟩
theorem Dp.lst_inv (h : Dp K H v (.list ds)) : ∃ p xs, v = .ref p /\ SqL K H p xs /\ DpAll K H xs ds := by
  cases h with
  | lst h1 h2 => exact ⟨_, _, rfl, h1, h2⟩
theorem tyT (h : SqT K H p xs) : TyX K H (.ref p) (.type "tuple") := by
  rcases h with (h | ⟨o, h⟩) | ⟨o, its, n, h, c, _⟩
  . exact .base (.tup h)
  . exact .fTuple h
  . exact .kTuple h c
theorem tyL (h : SqL K H p xs) : TyX K H (.ref p) (.type "list") := by
  rcases h with (h | ⟨o, h⟩) | ⟨o, its, n, h, c, _⟩
  . exact .base (.lst h)
  . exact .base (.frz h)
  . exact .kList h c
def tyn : PyData -> String
  | .none => "NoneType" | .bool _ => "bool" | .int _ => "int" | .str _ => "str" | .list _ => "list" | .tuple _ => "tuple" | .dict _ => "dict"
theorem _root_.L2.Dp.ty {d : PyData} (h : Dp K H v d) : TyX K H v (.type (tyn d)) := by
  cases h with
  | non => exact .base .non
  | bl b => exact .base (.bl b)
  | int i => exact .base (.int i)
  | str z => exact .base (.str z)
  | lst h1 _ => exact tyL h1
  | tup h1 _ => exact tyT h1
variable {σ : St} {R : St -> Hp -> Prop}
end
theorem ep' {a b : Str} (h : a.cps.toList = b.cps.toList) : a = b := by
  obtain ⟨a⟩ := a
  obtain ⟨b⟩ := b
  have : a = b := by simpa using congrArg List.toArray h
  rw [this]
theorem pC' (a b : Str) : (a ++ b).cps.toList = a.cps.toList ++ b.cps.toList := by
  show (a.cps ++ b.cps).toList = _
  simp
theorem o2' (a : Str) : a.length = a.cps.toList.length := by
  show a.cps.size = _
  simp
section
variable {α β : Type}
def xX' (xs : List α) (lo hi : Option Int) : List α := (xs.drop (HT.sIx xs.length 0 lo)).take (HT.sIx xs.length xs.length hi - HT.sIx xs.length 0 lo)
theorem vk' (z : Str) (lo hi : Option Int) : (cutS z lo hi).cps.toList = xX' z.cps.toList lo hi := by
  unfold cutS xX'
  rw [o2']
end
end S
namespace S
open PySem PySem.Spec PyProof.Rows L2
section
variable {K : PySem.W.Frag} {H : Hp} {J : It} {g : TG} {tt : TT} {te : TE} {vs : List Nat} {σ : St} {Q : VK} {G : Hp -> Prop}
theorem DpAll.at {H : Hp} : ∀ {d r : List V} {x : V} {ds : List PyData}, DpAll K H (d ++ x :: r) ds -> ∃ e, ds[d.length]? = some e /\ Dp K H x e /\ ds.take (d.length + 1) = ds.take d.length ++ [e] := by
  intro d r x ds h
  obtain ⟨a, b, rfl, h1, h2⟩ := DpAll.split h
  cases h2 with
  | cons h3 h4 =>
    have hl := DpAll.length h1
    rename_i e es
    have e1 : (a ++ e :: es)[d.length]? = some e := by rw [List.getElem?_append_right (by omega), hl, Nat.sub_self]; rfl
    refine ⟨_, e1, h3, ?_⟩
    rw [List.take_add_one, e1]
    rfl
theorem _root_.L2.Dp.t2 {v : V} {d e : PyData} (h : Dp K H v (.tuple [d, e])) : ∃ p x y, v = .ref p /\ SqT K H p [x, y] /\ Dp K H x d /\ Dp K H y e := by
  obtain ⟨p, xs, rfl, q, a⟩ := Dp.tup_inv h
  cases a with
  | cons a1 a => cases a with
    | cons a2 a => cases a; exact ⟨p, _, _, rfl, q, a1, a2⟩
end
end S
namespace S
open PySem PySem.Spec PyProof.Rows L2
def ItP (xs ys : Nat -> Option V) (n : Nat) : It :=
  ⟨fun i _ => i < n, fun i H v H' => ∃ T x y, v = .ref T /\ H T = none /\ H' = upd H T (.tup [x, y]) /\ xs i = some x /\ ys i = some y, fun i _ => i = n⟩
theorem mu' {P : Program} {w : World} {K : PySem.W.Frag} {tg : Expr} {z : Addr} {fp wr : List Addr} {n : Nat} {P1 P2 : Nat -> Value -> Prop} {St : Nat -> Heap -> Prop} {xs ys : Nat -> Option V}
    (W : ∀ A : Around, A.handled = none -> GoesN P w A tg z fp wr n (fun i h₀ v h => ∃ T x y, v = .ref T /\ h₀.objs.size <= T /\ P1 i x /\ P2 i y /\ h.IsTuple T #[x, y]) St) (hz : z ∈ fp) (sf : ∀ (A : Around) (i : Nat) (s : Shared) (Q : Value -> Shared -> Prop) (E : Value -> Shared -> Prop), St i s.heap -> Q (.ref z) s -> wpAny (model P w) A (pyIter (.ref z)) Q E s)
    (ob : ∀ i h, St i h -> ∀ b ∈ fp, ∃ o, h.get? b = some o /\ ∀ v, o.data ≠ .cell v) (r1 : ∀ i u, i < n -> P1 i u -> ∃ x, xs i = some x /\ RelV x u) (r2 : ∀ i u, i < n -> P2 i u -> ∃ x, ys i = some x /\ RelV x u) :
    Turn P w K tg (ItP xs ys n) fp z St where
  mem := hz
  obj := ob
  keep := fun i h h' st k => (W callerA rfl).frame i h h' st k
  item := by
    intro X hP hw hK hc i pins s σ H E I hf st hg
    subst hP hw hK
    have Wa := W X.A (I.ok.hd hc)
    refine Wa.goes i s _ E hg st fun v h' tk hY st' hk htk => ?_
    obtain ⟨T, u1, u2, rfl, hT, p1, p2, o, ho, hoc, m, hod⟩ := hY
    obtain ⟨x, hx, rx⟩ := r1 i u1 hg p1
    obtain ⟨y, hy, ry⟩ := r2 i u2 hg p2
    have new : ObjOk X.prog X.w (upd H T (.tup [x, y])) h' T (.tup [x, y]) := ⟨by show 2 <= sizeLine; decide, [u1, u2], .cons rx (.cons ry .nil), ⟨_, ho, hoc, _, hod⟩⟩
    have I1 : Inv X pins σ (upd H T (.tup [x, y])) { s with heap := h', toks := tk } :=
      I.turnedNew (t' := tk) (ch := fp) (fun b o hb q => hk b o (fun z => hb (Wa.sub b z)) q) hf hT new
    refine ⟨.ref T, _, I1, rfl, ⟨T, x, y, rfl, I.hok.fresh hT, rfl, hx, hy⟩, st', fun b hb => ?_⟩
    obtain ⟨ob1, hob, _⟩ := ob i s.heap st b hb
    rw [upd_ne (Nat.ne_of_lt (Nat.lt_of_lt_of_le (Heap.lt_size hob) hT))]
    exact (hf b hb).1
  done := by
    intro X hP hw hK hc i pins s σ H E I hf st hg
    subst hP hw hK
    have Wa := W X.A (I.ok.hd hc)
    have hg' : i = n := hg
    subst hg'
    exact Wa.stops s _ E st fun h' tk hk htk => I.turnedL (t' := tk) (ch := fp) (fun b o hb q => hk b o (fun z => hb (Wa.sub b z)) q) hf
  self := sf
def chS (z : Str) (i : Nat) : Option V := (z.cps.toList[i]?).map fun c => .str ⟨#[c]⟩
theorem qz' {z : Str} {i : Nat} {u : Value} (h : ∃ c t, z.cps[i]? = some c /\ u = .str ⟨#[c]⟩ t) : ∃ x, chS z i = some x /\ RelV x u := by
  obtain ⟨c, t, hc, rfl⟩ := h
  refine ⟨.str ⟨#[c]⟩, ?_, ⟨t, rfl⟩⟩
  unfold chS
  rw [show z.cps.toList[i]? = some c by rw [<- hc]; simp]
  rfl
def us' (ta : TA) : TI := fun σ H R => ta σ H fun vs H1 => ∃ x y : Str, vs = [.str x, .str y] /\ R (ItP (chS x) (chS y) (min x.cps.size y.cps.size)) H1
theorem rk' {X : Cx} {e e2 : Expr} {ta : TA} {p pos tpos : Pos} {elts : List Expr} {kk} (hg : Gl X "zip") (hm : X.mg "zip" = none) (ha : PA X [e, e2] ta)
    (hs : starEach [e, e2] X.env = (false, eval e X.env) :: starEach [e2] X.env := by rfl) (hpl : (backTo pos (starEach [e2] X.env)).any (·.1) = false := by rfl) :
    PI X (.Tuple elts kk tpos) (.Call (.Name "zip" p) [e, e2] [] pos) (us' ta) := by
  refine ⟨fun pins s σ H R I h => ?_⟩
  refine Call_ (ld_blt I hg hm PyProof.Rows.boot_zip (PyProof.Rows.callWith_type1 (thn (ha.run pos pins s σ H _ I h) fun us s1 ⟨vs, H1, I1, r1, q1⟩ => ?_) hs hpl))
  obtain ⟨x, y, ex, q⟩ := q1
  subst ex
  cases r1 with
  | cons r rr =>
    cases rr with
    | cons r' rr =>
      cases rr
      obtain ⟨t1, rfl⟩ := r
      obtain ⟨t2, rfl⟩ := r'
      refine zip_begins2 (begins_text x _) (begins_text y _) True.intro True.intro fun h' hz hTI hTO h1 h2 hsz hk => wpAny_pyIter_zip hz ?_
      have I2 : Inv X pins σ H1 { s1 with heap := h' } := I1.kept (t' := s1.toks) hk
      have S2 : ZipSep2 (s1.heap.objs.size + 4) (s1.heap.objs.size + 2) (s1.heap.objs.size + 3) s1.heap.objs.size (s1.heap.objs.size + 1) [s1.heap.objs.size] [s1.heap.objs.size + 1] := by
        constructor <;> simp
      refine ⟨s1.heap.objs.size + 4, (s1.heap.objs.size + 4) :: (s1.heap.objs.size + 2) :: (s1.heap.objs.size + 3) :: ([s1.heap.objs.size] ++ [s1.heap.objs.size + 1]), _, _, H1, rfl, I2,
        mu' (fun A hA => GoesN.zip2 S2 (Draws.text (A := A.in1) hA _ x _) (Draws.text (A := A.in1) hA _ y _)) (by simp) (fun A i s Q E st h => wpAny_pyIter_zip st.1 h) (fun i h st b hb => ?_) (fun i u _ hu => qz' hu) (fun i u _ hu => qz' hu), ⟨hz, hTI, ⟨_, _, hTO⟩, ⟨_, h1, rfl, rfl⟩, ⟨_, h2, rfl, rfl⟩⟩, fun c hcm => ?_, q⟩
      . obtain ⟨hz, hTI, ⟨a1, a2, hTO⟩, ⟨o1, e1, _, d1⟩, ⟨o2, e2, _, d2⟩⟩ := st
        have e' : b = s1.heap.objs.size + 4 \/ b = s1.heap.objs.size + 2 \/ b = s1.heap.objs.size + 3 \/ b = s1.heap.objs.size \/ b = s1.heap.objs.size + 1 := by simpa using hb
        rcases e' with z | z | z | z | z
        . rw [z]; exact ⟨_, hz, fun v q => nomatch q⟩
        . rw [z]; exact ⟨_, hTI, fun v q => nomatch q⟩
        . rw [z]; exact ⟨_, hTO, fun v q => nomatch q⟩
        . rw [z]; exact ⟨o1, e1, fun v q => by rw [d1] at q; cases q⟩
        . rw [z]; exact ⟨o2, e2, fun v q => by rw [d2] at q; cases q⟩
      . have e' : c = s1.heap.objs.size + 4 \/ c = s1.heap.objs.size + 2 \/ c = s1.heap.objs.size + 3 \/ c = s1.heap.objs.size \/ c = s1.heap.objs.size + 1 := by simpa using hcm
        have hle : s1.heap.objs.size <= c := by
          rcases e' with z | z | z | z | z
          . rw [z]; exact Nat.le_add_right _ _
          . rw [z]; exact Nat.le_add_right _ _
          . rw [z]; exact Nat.le_add_right _ _
          . rw [z]; exact Nat.le_refl _
          . rw [z]; exact Nat.le_add_right _ _
        exact I1.fpOk hle (I1.hok.fresh hle)
end S
namespace S
open PySem PySem.Spec PyProof.Rows L2
section
variable {X : Cx} {K : PySem.W.Frag} {to te : TE} {o e : Expr} {H : Hp} {Q : VK}
def tM' (K : PySem.W.Frag) : V -> List V -> Hp -> VK -> Prop := fun x xs H Q => ∃ a p, ∃ ys : List Str, x = .str a /\ xs = [.ref p] /\ (SqL K H p (ys.map V.str) \/ SqT K H p (ys.map V.str)) ∧
    (ys.map (·.length)).sum + ys.length * a.length <= 16777216 /\ Q (.str (Txt.join a ys)) H
def chv (c : Nat) : V := .str ⟨#[c]⟩
end
end S
namespace S
open PySem PySem.Spec PyProof.Rows L2
end S
namespace S
open PySem PySem.Spec PyProof.Rows L2
theorem du' : ∀ (vs : List Value) (l : List Nat), vs.length = l.length -> (∀ (j : Nat) (v : Value), vs[j]? = some v -> ∃ c u, l[j]? = some c /\ v = .str ⟨#[c]⟩ u) -> StrsAre vs (l.map fun c => ⟨#[c]⟩)
  | [], [], _, _ => .nil
  | [], _ :: _, h, _ => by simp at h
  | _ :: _, [], h, _ => by simp at h
  | v :: vs, c :: l, h, hh => by
    obtain ⟨d, u, h1, rfl⟩ := hh 0 v rfl
    cases h1
    exact .cons _ _ (du' vs l (by simpa using h) fun j w hw => by
      have := hh (j + 1) w (by simpa using hw)
      simpa using this)
theorem in' {prog : Program} {w : World} {A : Around} {E : Value -> Shared -> Prop} {s : Shared} {x : Str} {t : Tok} {Q : Value -> Shared -> Prop} (hh : A.handled = none) (h64 : x.cps.size < 64)
    (h : ∀ (h' h'' : Heap) (tk : Nat) (out : List Value) (ss : List Str), (∀ b o, s.heap.get? b = some o -> h'.get? b = some o) -> (∀ b o, h'.get? b = some o -> h''.get? b = some o) -> (∃ e, h''.get? h'.objs.size = some (seqObj "list" out.toArray e)) →
      StrsAre out ss -> ss.Perm (x.cps.toList.map fun c => ⟨#[c]⟩) -> sortedS ss = true -> Q (.ref h'.objs.size) { s with heap := h'', toks := tk }) :
    wpAny (model prog w) A (call (.builtin "sorted") [.str x t]) Q E s := by
  refine Calls.call_function_entry kind_sorted plain_sorted entry_sorted (args_sorted1 _) ?_
  unfold Builtin.«sorted»
  refine wpAny_bind (m := checkCount "sorted" 1 1 _) (wpAny_pure ?_)
  refine wpAny_bind (m := collect (.str x t)) (wpAny_collect_str (A := A.in1) hh x t (fun s' acc hk hg hd ho hacc => ?_) (by rw [sizeLine_eq]; omega))
  obtain ⟨hp, g, d, tk, os⟩ := s
  obtain ⟨hp', g', d', tk', os'⟩ := s'
  obtain rfl : g' = g := hg
  obtain rfl : d' = d := hd
  obtain rfl : os' = os := ho
  have hS : StrsAre acc.toList (x.cps.toList.map fun c => ⟨#[c]⟩) := by
    refine du' _ _ (by rw [Array.length_toList, Array.length_toList]; exact hacc.1) fun j v hv => ?_
    obtain ⟨c, u, h1, h2⟩ := hacc.2 j v (by simpa using hv)
    exact ⟨c, u, by rw [<- h1]; simp, h2⟩
  have hl : acc.toList.length < 64 := by rw [Array.length_toList, hacc.1]; exact h64
  refine wpAny_bind (wpAny_newList ?_)
  have hoL : (hp'.push (seqObj "list" acc.toList.toArray 0)).get? hp'.objs.size = some (seqObj "list" acc.toList.toArray 0) := Heap.get?_push_size _ rfl
  refine wpAny_bind (wpAny_holding (wpAny_call_entry slot_list_sort ⟨_, hoL, rfl⟩ entry_list_sort (list_sort_treeK strKind_oneLt hoL hS.keysOf (fun v₁ v₂ rest e => keyKind_strs (by rw [<- e]; exact hS)) hl fun st' a1 a2 => ⟨_, rfl, ?_⟩) (args_list_sort _)))
  obtain ⟨ss', h1, h2, h3⟩ := sorted_out_str hS a1 a2
  refine wpAny_pure ⟨_, rfl, h hp' _ tk' _ ss' hk (fun b o hb => ?_) ?_ h1 h2 h3⟩
  . have hlt := Heap.lt_size hb
    rw [sortedHeap_old (Nat.ne_of_lt hlt) (by rw [size_push']; exact Nat.lt_succ_of_lt hlt)]
    exact Heap.get?_push_of_some _ hb
  . obtain ⟨e, he⟩ := sortedHeap_at (out := (arrOf st').map (·.2)) hoL
    exact ⟨e, by rw [he]⟩
def hd' : List V -> Hp -> VK -> Prop := fun vs H Q => ∃ x : Str, vs = [V.str x] /\ x.length < 64 /\ ∀ (ys : List Str) (p : Addr) (H' : Hp), ys.Perm (x.cps.toList.map fun c => ⟨#[c]⟩) -> sortedS ys = true -> H p = none -> Same H H' -> H' p = some (.lst (ys.map V.str)) -> Q (.ref p) H'
theorem iX' {X : Cx} (hc : X.calm = true) : CallR X (.builtin "sorted") hd' := by
  intro pins s σ H vs us Q I r h
  obtain ⟨x, rfl, h64, q⟩ := h
  cases r with
  | cons r rr =>
    cases rr
    obtain ⟨t, rfl⟩ := r
    refine in' (I.ok.hd hc) h64 fun h' h'' tk out ss hk hk2 ho h1 h2 h3 => ?_
    obtain ⟨e, he⟩ := ho
    have I1 : Inv X pins σ H { s with heap := h' } := I.kept (t' := s.toks) hk
    have hlen : (ss.map V.str).length <= sizeLine := by
      rw [List.length_map, h2.length_eq, List.length_map, Array.length_toList]
      exact small64 h64
    have I2 : Inv X pins σ (upd H h'.objs.size (.lst (ss.map V.str))) { s with heap := h'', toks := tk } :=
      I1.laid (t' := tk) (fun b u hb => hk2 b u hb) (Nat.le_refl _) ⟨hlen, out, e, vals_of_strs h1, he⟩
    have hn : H h'.objs.size = none := I1.hok.fresh (Nat.le_refl _)
    exact ⟨.ref _, _, I2, rfl, q ss _ _ h2 h3 hn (Same.upd hn) upd_same⟩
section
variable {K : PySem.W.Frag} {H : Hp} {Q : VK} {σ : St}
end
theorem rl' {X : Cx} {tg iter : Expr} {w1 w2 : TI} (h1 : PI X tg iter w1) (h2 : PI X tg iter w2) : PI X tg iter (fun σ H R => w1 σ H R \/ w2 σ H R) :=
  ⟨fun pins s σ H R I h => h.elim (h1.run pins s σ H R I) (h2.run pins s σ H R I)⟩
def ur' (K : PySem.W.Frag) (ta : TA) : TI := fun σ H R => us' ta σ H R \/ RZ.iZipA K ta σ H R
theorem rj' {X : Cx} {e e2 : Expr} {ta : TA} {p pos tpos : Pos} {elts : List Expr} {kk} (hg : Gl X "zip") (hm : X.mg "zip" = none) (ha : PA X [e, e2] ta)
    (hs : starEach [e, e2] X.env = (false, eval e X.env) :: starEach [e2] X.env := by rfl) (hpl : (backTo pos (starEach [e2] X.env)).any (·.1) = false := by rfl) :
    PI X (.Tuple elts kk tpos) (.Call (.Name "zip" p) [e, e2] [] pos) (ur' X.K ta) := rl' (rk' hg hm ha hs hpl) (RZ.pi_zipA hg hm ha hs hpl)
end S
namespace S
open PySem PySem.Spec PyProof.Rows L2
section
variable {K : PySem.W.Frag} {σ : St} {H : Hp} {Q : VK} {te ta tv : TE} {f : Str} {v y : V} {a C dx : Addr} {fs : List (Str × V)} {D : Ends} {R : Hp -> Prop}
end
def wo' (C : Addr) (m : Str) (sp : Sp) (E : XK) (σ : St) (t : TA) : V -> Hp -> VK -> Prop := fun x H Q => ∃ a dx fs, x = .ref a /\ H a = some (.ins C dx fs) /\ fs.lookup m = none /\ t σ H fun vs H2 => sp (x :: vs) H2 Q E
def p4' (C : Addr) (sp : Sp) (E : St -> XK) (t : TA) : TE := fun σ H Q => t σ H fun vs H1 => ∀ x dx, H1 x = none -> H1 dx = none -> dx ≠ x -> sp (.ref x :: vs) (upd (upd H1 dx (.own x)) x (.ins C dx [])) (fun v H2 => v = .non /\ Q (.ref x) H2) (E σ)
section
variable {K : PySem.W.Frag} {σ : St} {H : Hp} {Q : VK} {ta : TE} {t : TA} {C a dx : Addr} {m : Str} {sp : Sp} {E : St -> XK} {E' : XK} {fs : List (Str × V)} {vs : List V}
end
section
variable {X : Cx} {k : Nat} {C : Addr} {x m : Str} {ps : List Str} {sp : Sp} {p pos apos : Pos} {e o : Expr} {es : List Expr} {ta : TE} {t : TA} {W : WX} {CX : CXT} {f : Addr} {fd : FuncData} {E : St -> XK}
end
end S
namespace S
open PySem PySem.Spec PyProof.Rows L2
def signs (x : Str) : List V := x.cps.toList.map fun c => V.str ⟨#[c]⟩
theorem fC' {x : Str} {acc : Array Value} (h : ItemsOf (SignAt x) acc x.cps.size) : Vals (signs x) acc.toList := by
  have hS : StrsAre acc.toList (x.cps.toList.map fun c => ⟨#[c]⟩) := by
    refine du' _ _ (by rw [Array.length_toList, Array.length_toList]; exact h.1) fun j v hv => ?_
    obtain ⟨c, u, h1, h2⟩ := h.2 j v (by simpa using hv)
    exact ⟨c, u, by rw [<- h1]; simp, h2⟩
  have := vals_of_strs hS
  rw [List.map_map] at this
  exact this
def mW' : List V -> Hp -> VK -> Prop := fun vs H Q => ∃ x : Str, vs = [V.str x] /\ x.length <= sizeLine /\ ∀ p, H p = none -> Q (.ref p) (upd H p (.lst (signs x)))
theorem iZ' {X : Cx} (hc : X.calm = true) : CallR X (.type "list") mW' := by
  intro pins s σ H vs us Q I r h
  obtain ⟨x, rfl, hl, q⟩ := h
  cases r with
  | cons r rr =>
    cases rr
    obtain ⟨t, rfl⟩ := r
    refine call_list_str (I.ok.hd hc) x t (fun h' tk acc c' hk ho hacc => ?_) hl
    have hlen : (signs x).length <= sizeLine := by
      unfold signs
      rw [List.length_map, Array.length_toList]
      exact hl
    have I2 : Inv X pins σ (upd H s.heap.objs.size (.lst (signs x))) { s with heap := h', toks := tk } :=
      I.laid (t' := tk) (fun b u hb => hk b u hb) (Nat.le_refl _) ⟨hlen, acc.toList, c', fC' hacc, by rw [ho]⟩
    exact ⟨.ref _, _, I2, rfl, q _ (I.hok.fresh (Nat.le_refl _))⟩
def qc' : List V -> Hp -> VK -> Prop := fun vs H Q => ∃ x : Str, vs = [V.str x] /\ x.length <= sizeLine /\ ∀ p, H p = none -> Q (.ref p) (upd H p (.tup (signs x)))
theorem la' {X : Cx} (hc : X.calm = true) : CallR X (.type "tuple") qc' := by
  intro pins s σ H vs us Q I r h
  obtain ⟨x, rfl, hl, q⟩ := h
  cases r with
  | cons r rr =>
    cases rr
    obtain ⟨t, rfl⟩ := r
    refine call_tuple_str (I.ok.hd hc) x t (fun h' tk acc hk hacc => ?_) hl
    have hlen : (signs x).length <= sizeLine := by
      unfold signs
      rw [List.length_map, Array.length_toList]
      exact hl
    have I1 : Inv X pins σ H { s with heap := h' } := I.kept (t' := s.toks) hk
    have I2 : Inv X pins σ (upd H h'.objs.size (.tup (signs x))) { s with heap := h'.push { cls := .type "tuple", data := .seq acc }, toks := tk } :=
      I1.laid (t' := tk) (fun b u hb => Heap.get?_push_of_some _ hb) (Nat.le_refl _) ⟨hlen, acc.toList, fC' hacc, ⟨_, Heap.get?_push_size _ rfl, rfl, 0, by simp⟩⟩
    exact ⟨.ref _, _, I2, rfl, q _ (I1.hok.fresh (Nat.le_refl _))⟩
def mV' (K : PySem.W.Frag) : List V -> Hp -> VK -> Prop := fun vs H Q => qe' K vs H Q \/ mW' vs H Q
theorem b8' {X : Cx} (hc : X.calm = true) : CallR X (.type "list") (mV' X.K) := lb'.or (iZ' hc)
def mQ' (K : PySem.W.Frag) : List V -> Hp -> VK -> Prop := fun vs H Q => mR' K vs H Q \/ qc' vs H Q
theorem cU' {X : Cx} (hc : X.calm = true) : CallR X (.type "tuple") (mQ' X.K) := iY'.or (la' hc)
end S
namespace S
open PySem PySem.Spec PyProof.Rows L2
structure RoomG (k : Nat) (A : Around) : Prop where
  r : Room k A
  g : A.guards = some []
theorem RoomG.mono {j k : Nat} {A : Around} (h : RoomG k A) (l : j <= k) : RoomG j A := ⟨h.r.mono l, h.g⟩
theorem RoomG.units {k : Nat} {A : Around} (h : RoomG k A) : A.units + 64 < cLine := h.r.units
structure FnG (P : Program) (w : World) (K : PySem.W.Frag) (mg : Str -> Option Value) (base : Heap) (CX : CXT) (k : Nat) (f : Addr) (fd : FuncData) (ps : List Str) (sp : Sp) : Prop where
  len : ∀ vs H Q E, sp vs H Q E -> vs.length = ps.length
  run : ∀ (A : Around) (outer : List Env) (s : Shared) (H : Hp) (args : Args) (us : List Value) (vs : List V) (Q : VK) (E : XK), RoomG k A -> Env0 P w K mg base A outer s H →
    BindsTo s fd args (ps.zip us) -> Vals vs us -> sp vs H Q E -> codeAny (model P w) A (.call (.ref f) args) (CR CX outer P w H s Q E) s
theorem FnG.of {P : Program} {w : World} {K : PySem.W.Frag} {mg : Str -> Option Value} {base : Heap} {CX : CXT} {k : Nat} {f : Addr} {fd : FuncData} {ps : List Str} {sp : Sp} (F : FnOk P w K mg base CX k f fd ps sp) : FnG P w K mg base CX k f fd ps sp :=
  ⟨F.len, fun A o s H as us vs Q E h => F.run A o s H as us vs Q E h.r⟩
section
variable {P : Program} {w : World} {K : PySem.W.Frag} {mg : Str -> Option Value} {base : Heap} {CX : CXT} {f : Addr} {fd : FuncData}
theorem uu' {N ps : List Str} {scope : Scope} (S : FnScope N ps scope) (us : List Value) (n : Nat) : ∀ y ∈ ps.zip us,
    scope.names.lookup y.1 = some .local \/ (scope.names.lookup y.1 = some .cell /\ ((cellsFrom n scope.names []).lookup y.1).isSome = true) := by
  rintro ⟨nm, v⟩ hy
  have q := S.par nm (List.of_mem_zip hy).1
  exact q.imp id fun q => ⟨q, PySem.W.cellsFrom_some _ _ _ (.inl q)⟩
theorem rX' {x qual : Str} {params : Arguments} {body : List Stmt} {scope : Scope} {N ps : List Str} {k : Nat} {sp : Sp} (F : FunD K x qual params body scope [] [] f fd) (S : FnScope N ps scope)
    (len : ∀ vs H Q E, sp vs H Q E -> vs.length = ps.length)
    (hbody : ∀ (cdv oc : Value) (od : Option Addr) (osl : Array (Option Value)), K.lookup f = some ⟨oc, od, .func fd, osl⟩ -> fd.code = cdv -> PySem.W.codeIn K cdv qual = true -> ∀ (A : Around) (o : List Env) (s : Shared) (H : Hp) (vs : List V) (Q : VK) (E : XK), RoomG k (A.deeper (envOfC qual scope s.heap.objs.size f cdv)) -> sp vs H Q E →
      ∃ t, PSs (cxOf CX P w K mg base N qual scope f cdv A o s H E) body t /\ t { nx := fun _ H' => Q .non H', rt := Q } (start N vs) H) : FnG P w K mg base CX (k + 1) f fd ps sp := by
  obtain ⟨oc, od, dV, kV, doc, pm, an, cdv, ct, osl, rfl, lk, hcd, _, _⟩ := F.ex
  constructor
  . exact len
  intro A o s H args us vs Q E hg e0 hb r hsp
  have Ks : K.In s.heap := e0.mod.kin.keeps fun b u e => (e0.bs b u e).1
  have Ls : s.heap.NoLimit := e0.mod.nolimit.keeps fun b u e => (e0.bs b u e).1
  refine codeAny_call_function hg.r.depth (Ks _ _ lk) rfl S.co S.gen rfl (PySem.W.codeRec_of Ks hcd) (hb _ _ _ _ ?_)
  refine wpAny_newFunctionEnv_cells S.kind (uu' S us _) fun env he s1 z => ?_
  subst he
  refine ⟨Ls.keeps z.toInCall.keep, codeAny_func ?_⟩
  obtain ⟨t, pt, tq⟩ := hbody cdv oc od osl lk rfl hcd A o s H vs Q E ⟨hg.r.deeper _, hg.g⟩ hsp
  have J := inv_start (CX := CX) (E := E) S hg.r.hd e0 (len _ _ _ _ hsp) r z
  refine wpAny_mono (pt.run [] s1 (start N vs) H _ J tq) (fun fl s' q => ?_) fun _ _ q => q
  cases fl with
  | next =>
    obtain ⟨σ', H', I, q⟩ := q
    exact ⟨V.non, H', I.os, I.bare, I.base, I.hok, rfl, q⟩
  | ret u =>
    obtain ⟨v, σ', H', I, e, q⟩ := q
    exact ⟨v, H', I.os, I.bare, I.base, I.hok, e, q⟩
  | brk => exact (let ⟨_, _, _, z⟩ := q; z).elim
  | cont => exact (let ⟨_, _, _, z⟩ := q; z).elim
theorem qs' {X : Cx} {pins : List (Addr × Obj)} {σ : St} {H : Hp} {s s' : Shared} {Q : VK} {E : XK} (hx : PassesAt CX X σ E) (I : Inv X pins σ H s) : ∀ r : Result, CR CX X.stack X.prog X.w H s Q E r s' -> (match r with
    | .ok (.ret u) => EP X pins σ Q u s'
    | .ok _ => False
    | .error e => X.xe e s')
  | .error e, q => hx pins H s e s' I q
  | .ok (.ret u), q => I.after q
  | .ok .next, q => q
  | .ok .brk, q => q
  | .ok .cont, q => q
end
section
variable {X : Cx} {CX : CXT} {k : Nat} {f C : Addr} {fd : FuncData} {ps : List Str} {sp : Sp} {E : St -> XK} {x m : Str} {p pos apos : Pos} {e o : Expr} {es : List Expr} {ta : TE} {t : TA} {W : WX}
theorem f3' {pins : List (Addr × Obj)} {σ : St} {H : Hp} {s : Shared} {Q : VK} {us : List Value} {vs : List V} (F : FnG X.prog X.w X.K X.mg X.base CX k f fd ps sp) (hr : RoomG k X.A)
    (hb : Binds X.K fd ps []) (hx : PassesAt CX X σ (E σ)) (I : Inv X pins σ H s) (r : Vals vs us) (h : sp vs H Q (E σ)) : wpAny (model X.prog X.w) X.A (call (.ref f) us) (EP X pins σ Q) X.xe s := by
  have b := hb s us I.kIn (by rw [List.append_nil, <- r.length]; exact F.len _ _ _ _ h)
  rw [List.append_nil] at b
  refine wpAny_call (codeAny_mono (F.run X.A X.stack s H ⟨us, []⟩ us vs Q (E σ) hr I.env0 b r h) fun res s' q => ?_)
  have z := qs' hx I res q
  revert z
  cases res with
  | error e => exact id
  | ok fl => cases fl <;> exact id
def Og (P : Program) (w : World) (K : PySem.W.Frag) (mg : Str -> Option Value) (base : Heap) (k : Nat) (x : Str) (ps : List Str) (sp : Sp) : Prop :=
  ∃ fd, FnG P w K mg base (L2.CX P w) k (He.ga K x) fd ps sp /\ Binds K fd ps [] /\ PySem.W.keepIn K (.ref (He.ga K x)) = true /\ mg x = some (.ref (He.ga K x))
def OgM (P : Program) (w : World) (K : PySem.W.Frag) (mg : Str -> Option Value) (base : Heap) (k : Nat) (C : Addr) (m : Str) (ps : List Str) (sp : Sp) : Prop :=
  ∃ fd, FnG P w K mg base (L2.CX P w) k (He.ma K C m) fd ps sp /\ Binds K fd ps []
theorem oQ' (F : Og X.prog X.w X.K X.mg X.base k x ps sp) (hr : RoomG k X.A) (hg : Gl X x) (tk : Takes X W) (ha : PA X (e :: es) t) (hdb : (x == ("__debug__" : Str)) = false := by decide)
    (he : starEach (e :: es) X.env = (false, eval e X.env) :: starEach es X.env := by rfl) (hpl : (backTo pos (starEach es X.env)).any (·.1) = false := by rfl) : PE X (.Call (.Name x p) (e :: es) [] pos) (tCallS sp (WE W) t) := by
  obtain ⟨fd, F, b, kp, hm⟩ := F
  refine ⟨fun pins s σ H Q I h => wpAny_Call_Name_kw (ld_glob I hg hm ?_ hdb)⟩
  refine PySem.W.callWith_K (h₀ := X.base) I.ok.mod.kin kp (thn (ha.run pos pins s σ H _ I h) fun us s1 ⟨vs, H1, I1, r, q⟩ => ?_) he hpl
  exact ⟨I1.kIn, f3' F hr b (passAt tk σ) I1 r q⟩
def ig' (K : PySem.W.Frag) (cs : List String) (m : Str) (g : Addr) : Prop := ∀ C ∈ cs, Cls K (He.ga K (Str.ofString C)) /\ Meth K (He.ga K (Str.ofString C)) m g
def mw' (K : PySem.W.Frag) (cs : List String) (m : Str) (sp : Sp) (E : St -> XK) (ta : TE) (t : TA) : TE := fun σ H Q => ta σ H fun x H1 => ∃ C, C ∈ cs /\ wo' (He.ga K (Str.ofString C)) m sp (E σ) σ t x H1 Q
theorem oO' {pl : Sem Bool} {cs : List String} (he : PE X o ta) (F : OgM X.prog X.w X.K X.mg X.base k C m ps sp) (hr : RoomG k X.A) (hm : ig' X.K cs m (He.ma X.K C m)) (tk : Takes X W) (ha : PA X (e :: es) t)
    (hst : starEach (e :: es) X.env = (false, eval e X.env) :: starEach es X.env := by rfl) (hpl : (backTo pos (starEach es X.env)).any (·.1) = false := by rfl)
    (ht : eval (.Call (.Attribute o m apos) (e :: es) [] pos) X.env = (eval o X.env >>= fun ov => standAt apos.atName >>= fun _ => holding [ov] (getMethod ov m pl) >>= fun q =>
      callWith pos q.1 q.2 (backTo pos (starEach (e :: es) X.env)) (backToKw pos (keywordEach [] X.env))) := by rfl) :
    PE X (.Call (.Attribute o m apos) (e :: es) [] pos) (mw' X.K cs m sp (WE W) ta t) := by
  obtain ⟨fd, F, hb⟩ := F
  refine ⟨fun pins s σ H Q I h => PySem.W.methodCall_KW (pl := pl) (thn (he.run pins s σ H _ I h) fun u s1 ⟨x, H1, I1, rx, D, hD, a, dx, fs, ex, ea, l, q⟩ => ?_) ht⟩
  obtain ⟨c, hm⟩ := hm D hD
  subst ex
  cases (show u = Value.ref a from rx)
  refine getmeth_ok I1 ea c hm l (PySem.W.callWith_K (first := [.ref a]) (h₀ := X.base) I.ok.mod.kin hm.kp (thn (ha.run pos pins s1 σ H1 _ I1 q) fun us s2 ⟨vs, H2, I2, r, q2⟩ => ?_) hst hpl)
  exact ⟨I2.kIn, f3' (us := .ref a :: us) (vs := .ref a :: vs) F hr hb (passAt tk σ) I2 (.cons rfl r) q2⟩
theorem mZ' {pl : Sem Bool} {cs : List String} (he : PE X o ta) (F : OgM X.prog X.w X.K X.mg X.base k C m ps sp) (hr : RoomG k X.A) (hm : ig' X.K cs m (He.ma X.K C m)) (tk : Takes X W)
    (ht : eval (.Call (.Attribute o m apos) [] [] pos) X.env = (eval o X.env >>= fun ov => standAt apos.atName >>= fun _ => holding [ov] (getMethod ov m pl) >>= fun q =>
      callWith pos q.1 q.2 (backTo pos (starEach [] X.env)) (backToKw pos (keywordEach [] X.env))) := by rfl) :
    PE X (.Call (.Attribute o m apos) [] [] pos) (mw' X.K cs m sp (WE W) ta tNil) := by
  obtain ⟨fd, F, hb⟩ := F
  refine ⟨fun pins s σ H Q I h => PySem.W.methodCall_KW (pl := pl) (thn (he.run pins s σ H _ I h) fun u s1 ⟨x, H1, I1, rx, D, hD, a, dx, fs, ex, ea, l, q⟩ => ?_) ht⟩
  obtain ⟨c, hm⟩ := hm D hD
  subst ex
  cases (show u = Value.ref a from rx)
  exact getmeth_ok I1 ea c hm l (PySem.W.callWith_K0 (first := [.ref a]) I1.kIn hm.kp (f3' (us := [.ref a]) (vs := [.ref a]) F hr hb (passAt tk σ) I1 (.cons rfl .nil) q))
theorem kP' {A : Around} {C : Addr} {us : List Value} {kw : List (Str × Value)} (h : A.guards = some []) : (A.under (.builtin "type.__call__" ⟨.ref C :: us, kw⟩)).guards = some [] := by
  simp [Around.under, Code.guards, Code.isGuard, guardIds, pushGuards, h]
theorem oP' (F : OgM X.prog X.w X.K X.mg X.base k C "__init__" ps sp) (hr : RoomG (k + 1) X.A) (hg : Gl X x) (M : Mk X.K C (He.ma X.K C "__init__")) (hm : X.mg x = some (.ref C)) (tk : Takes X W)
    (ha : PA X (e :: es) t) (hdb : (x == ("__debug__" : Str)) = false := by decide) (he : starEach (e :: es) X.env = (false, eval e X.env) :: starEach es X.env := by rfl) (hpl : (backTo pos (starEach es X.env)).any (·.1) = false := by rfl) :
    PE X (.Call (.Name x p) (e :: es) [] pos) (p4' C sp (WE W) t) := by
  obtain ⟨fd, F, hb⟩ := F
  refine ⟨fun pins s σ H Q I h => wpAny_Call_Name_kw (ld_glob I hg hm ?_ hdb)⟩
  refine PySem.W.callWith_K (h₀ := X.base) I.ok.mod.kin M.kp (thn (ha.run pos pins s σ H _ I h) fun us s1 ⟨vs, H1, I1, r, q⟩ => ?_) he hpl
  have fr := fun n (l : s1.heap.objs.size <= n) => I1.hok.fresh l
  have q := q (s1.heap.objs.size + 1) s1.heap.objs.size (fr _ (Nat.le_succ _)) (fr _ (Nat.le_refl _)) (Nat.ne_of_lt (Nat.lt_succ_self _))
  have J := Inv.made (C := C) I1
  have b := hb (s := _) (us := Value.ref (s1.heap.objs.size + 1) :: us) J.kIn (by
    rw [List.append_nil, <- F.len _ _ _ _ q]
    simp [r.length])
  rw [List.append_nil] at b
  refine ⟨I1.kIn, wpAny_call (make_map (f := He.ma X.K C "__init__") I1.kIn M.makes M.init (beq_iff_eq.mp M.fn) (codeAny_mono (F.run _ X.stack _ _ ⟨Value.ref (s1.heap.objs.size + 1) :: us, []⟩ _ _ _ (WE W σ)
    (k := k) ⟨hr.r.make C _ [], kP' hr.g⟩ (J.env0.make C _ []) b (Paired.cons (show L2.RelV (.ref (s1.heap.objs.size + 1)) (.ref (s1.heap.objs.size + 1)) from rfl) r) q) fun res s' q' => ?_))⟩
  have z := qs' (passAt tk σ) J res q'
  revert z
  cases res with
  | error e => exact id
  | ok fl =>
    cases fl with
    | ret u =>
      rintro ⟨v, H', I3, rv, ev, q3⟩
      subst ev
      exact ⟨rv, ⟨V.ref (s1.heap.objs.size + 1), H', I3, rfl, q3⟩⟩
    | next => exact id
    | brk => exact id
    | cont => exact id
end
theorem k9' {P : Program} {w : World} {CX : CXT} {H : Hp} {s s' : Shared} (hO : Only H) (ok : HOk P w H s.heap) (hCX : ∀ e s', CX [] H s (fun _ _ _ => False) e s' -> False) : ∀ res : Result,
    CR CX [] P w H s (fun v _ => v = .bl true) (fun _ _ _ => False) res s' -> res = .ok (.ret (.bool true)) /\ OldK s.heap s'.heap /\ s'.os = s.os /\ AllBare s'.gens
  | .error e, q => (hCX e s' q).elim
  | .ok .next, q => False.elim q
  | .ok .brk, q => False.elim q
  | .ok .cont, q => False.elim q
  | .ok (.ret u), ⟨v, H', os, bare, un, ok', rv, q⟩ => by
    have q : v = .bl true := q
    rw [q] at rv
    cases (show u = Value.bool true from rv)
    refine ⟨rfl, OldK.of_keep fun b o e => ?_, os, bare⟩
    rcases hO b with z | ⟨ob, xs, z⟩
    . exact un.keep b o e z (List.not_mem_nil) (List.not_mem_nil)
    . have e1 := (ok b _ z).1
      have e2 := (ok' b _ (un.frzs b ob _ z)).1
      rw [e] at e1
      cases e1
      exact e2
theorem hC' {P : Program} {w : World} {K : PySem.W.Frag} {mg mb : Str -> Option Value} {CX : CXT} {k : Nat} {fa a : Addr} {fd : FuncData} {x : Str} {sp : Sp} {s : Shared} {vs : List Value} {n0 : Nat} {H : Hp}
    (KX : K.In s.heap) (n1 : s.heap.Ns mainGlobals mg) (n2 : s.heap.Ns builtinsNs mb) (n3 : ∀ x : Str, x ≠ "__name__" -> mb x = bootBuiltins x) (lim : s.heap.NoLimit) (hg : s.gens = #[])
    (ha : s.heap.get? a = some { cls := .type "list", data := .seq vs.toArray n0 }) (hr : Room k callerA) (F : ∀ base : Heap, K.In base -> base.Ns mainGlobals mg -> FnG P w K mg base CX k fa fd [x] sp)
    (hbind : ∀ (s : Shared) (u : Value), BindsTo s fd ⟨[u], []⟩ [(x, u)]) (hO : Only H) (hs : sp [.ref a] H (fun v _ => v = .bl true) fun _ _ _ => False) (hCX : ∀ e s', CX [] H s (fun _ _ _ => False) e s' -> False)
    (ok : HOk P w H s.heap) (one : ∀ b u, H b = some u -> b = a) (out : H a ≠ none -> K.lookup a = none) :
    codeAny (model P w) callerA (.call (.ref fa) ⟨[.ref a], []⟩) (fun r s' => r = .ok (.ret (.bool true)) /\ OldK s.heap s'.heap /\ s'.os = s.os /\ AllBare s'.gens) s := by
  -- an object that is no list of the script stands in the base
  have apart : ∀ {b : Addr} {o : Obj}, s.heap.get? b = some o -> (∀ l n, o.data ≠ .seq l n) -> H b = none := by
    intro b o e d
    cases q : H b with
    | none => rfl
    | some u =>
      have e' := one b u q
      rw [e', ha] at e
      cases e
      exact absurd rfl (d _ _)
  have keep : ∀ {b : Addr} {m : Str -> Option Value}, s.heap.Ns b m -> (hidT s.heap H).Ns b m := by
    rintro b m ⟨o, es, ep, e, d, r⟩
    exact ⟨o, es, ep, hidT_get e (apart e fun l n z => by rw [d] at z; cases z), d, r⟩
  have Kb : K.In (hidT s.heap H) := by
    intro b o e
    refine hidT_get (KX b o e) ?_
    cases q : H b with
    | none => rfl
    | some u =>
      have e' := one b u q
      subst e'
      rw [out (by rw [q]; exact fun z => nomatch z)] at e
      cases e
  have M : Mod K mg (hidT s.heap H) := { kin := Kb, glob := keep n1, blt := ⟨mb, keep n2, n3⟩, nolimit := (let ⟨m, q1, q2⟩ := lim; ⟨m, keep q1, q2⟩) }
  have e0 : Env0 P w K mg (hidT s.heap H) callerA [] s H := { frames := rfl, mod := M, bs := (fun b o e => of_hidT e), bsz := Nat.le_of_eq (hidT_size _ _), funs := trivial, frf := (fun b z => absurd z List.not_mem_nil), hok := ok, bare := .of_eq hg }
  exact codeAny_mono ((F _ Kb (keep n1)).run callerA [] s H ⟨[.ref a], []⟩ [.ref a] [.ref a] _ _ ⟨hr, rfl⟩ e0 (hbind s (.ref a)) (.cons rfl .nil) hs) fun r s' q => k9' hO ok hCX r q
theorem nl' {P : Program} {w : World} {K : PySem.W.Frag} {mg mb : Str -> Option Value} {CX : CXT} {k : Nat} {fa a : Addr} {fd : FuncData} {x : Str} {sp : Sp} {s : Shared} {vs : List Value} {ns : List Int}
    (KX : K.In s.heap) (n1 : s.heap.Ns mainGlobals mg) (n2 : s.heap.Ns builtinsNs mb) (n3 : ∀ x : Str, x ≠ "__name__" -> mb x = bootBuiltins x) (lim : s.heap.NoLimit) (hg : s.gens = #[])
    (ha : s.heap.get? a = some { cls := .type "list", data := .seq vs.toArray }) (hi : IntsAre vs ns) (hl : ns.length <= sizeLine) (hr : Room k callerA)
    (F : ∀ base : Heap, K.In base -> base.Ns mainGlobals mg -> FnG P w K mg base CX k fa fd [x] sp) (hbind : ∀ (s : Shared) (u : Value), BindsTo s fd ⟨[u], []⟩ [(x, u)])
    (hsp : ∀ H : Hp, Only H -> SqL K H a (ns.map V.int) -> sp [.ref a] H (fun v _ => v = .bl true) fun _ _ _ => False) (hCX : ∀ H e s', CX [] H s (fun _ _ _ => False) e s' -> False) :
    codeAny (model P w) callerA (.call (.ref fa) ⟨[.ref a], []⟩) (fun r s' => r = .ok (.ret (.bool true)) /\ OldK s.heap s'.heap /\ s'.os = s.os /\ AllBare s'.gens) s := by
  have rv := vals_ints hi
  have zl : (vs.toArray).size <= sizeLine := by rw [List.size_toArray, hi.length]; exact hl
  rcases hk : K.lookup a with _ | o
  . -- the script alone is tracked
    let H : Hp := fun b => if b = a then some (.frz { cls := .type "list", data := .seq vs.toArray } (.lst (ns.map V.int))) else none
    have Ha : H a = some (.frz { cls := .type "list", data := .seq vs.toArray } (.lst (ns.map V.int))) := if_pos rfl
    have Hb : ∀ b u, H b = some u -> b = a := fun b u z => Classical.byContradiction fun nb => by rw [show H b = none from if_neg nb] at z; cases z
    have hO : Only H := fun b => (Decidable.em (b = a)).elim (fun e => .inr ⟨_, _, if_pos e⟩) fun e => .inl (if_neg e)
    refine hC' KX n1 n2 n3 lim hg ha hr F hbind hO (hsp H hO (.inl (.inr ⟨_, Ha⟩))) (hCX H) (fun b u z => ?_) Hb fun _ => hk
    have eb := Hb b u z
    subst eb
    rw [Ha] at z
    cases z
    exact ⟨ha, by rw [List.length_map]; exact hl, vs, _, rv, ha⟩
  . -- it is one of the module's own
    have e := KX a o hk
    rw [ha] at e
    cases e
    let H : Hp := fun _ => none
    have hO : Only H := fun _ => .inl rfl
    refine hC' KX n1 n2 n3 lim hg ha hr F hbind hO (hsp H hO (.inr ⟨_, vs.toArray, _, hk, rfl, rfl, rfl, zl, rv⟩)) (hCX H) (fun b u z => nomatch z) (fun b u z => nomatch z) fun z => absurd rfl z
theorem n7' {l : PySem.W.OpenLaw} {n k : Nat} {q : Program} {loose : List Str} {XP : (Str -> Option Value) -> Heap -> Prop} {YP : World -> Heap -> Prop} {d : DefRec} {CX : CXT} {x : Str}
    (hn : l.most = some n) (hn2 : n <= sizeLine) (hdf : d.params.defaults = []) (hr : Room k callerA)
    (F : ∀ (w : World) (mg : Str -> Option Value) (fa : Addr) (h : Heap), YP w h -> h.Ns mainGlobals mg -> mg d.name = some (.ref fa) -> ∃ (K : PySem.W.Frag) (fd : FuncData) (sp : Sp), K.In h ∧
      (∀ (s : Shared) (u : Value), BindsTo s fd ⟨[u], []⟩ [(x, u)]) /\ (∀ (H : Hp) (a : Addr) (ns : List Int), ns.length <= n -> Only H -> SqL K H a (ns.map V.int) -> sp [.ref a] H (fun v _ => v = .bl true) fun _ _ _ => False) ∧
        ∀ base : Heap, K.In base -> base.Ns mainGlobals mg -> FnG l.prog w K mg base CX k fa fd [x] sp)
    (hCX : ∀ (H : Hp) (s : Shared) (e : Value) (s' : Shared), CX [] H s (fun _ _ _ => False) e s' -> False) : PySem.W.WalkO q loose XP YP l.row.toRowW d [] (fun f vs => PySem.call f vs) :=
  Att.attach_call hn hdf fun w s₀ s₁ mg mb fa o pm cd doc a vs ns G Y ho hd hcd hmg hobj hints hlen hg => by
    obtain ⟨K, fd, sp, KX, hb, hsp, hF⟩ := F w mg fa _ Y G.T.g hmg
    exact nl' KX G.T.g G.T.b G.T.builtins G.T.nolimit hg hobj hints (Nat.le_trans hlen hn2) hr hF hb (fun H hO hS => hsp H a ns hlen hO hS) fun H e s' => hCX H s₁ e s'
theorem FnG.to0 {P : Program} {w : World} {K : PySem.W.Frag} {mg : Str -> Option Value} {base : Heap} {k : Nat} {f : Addr} {fd : FuncData} {ps : List Str} {sp : Sp} (F : FnG P w K mg base (L2.CX P w) k f fd ps sp) :
    FnG P w K mg base CX0 k f fd ps (fun vs H Q _ => sp vs H Q E0) := by
  refine ⟨fun vs H Q _ h => F.len vs H Q E0 h, fun A o s H args us vs Q _ hr he hb hv hs => codeAny_mono (F.run A o s H args us vs Q E0 hr he hb hv hs) fun r s' q => ?_⟩
  rcases r with e | fl
  . obtain ⟨_, _, _, _, _, _, _, _, _, _, _, _, z⟩ := q
    exact z.elim
  . cases fl <;> exact q
end S
namespace S
open PySem PySem.Spec PyProof.Rows L2
def sx (s : M.Tx) : Str := ⟨s.toArray⟩
theorem fA' (s : M.Tx) : (sx s).cps.toList = s := rfl
theorem bV' (s : M.Tx) : (sx s).length = s.length := by show s.toArray.size = _; simp
theorem th' {a b : M.Tx} (h : sx a = sx b) : a = b := by have := congrArg (fun z : Str => z.cps.toList) h; exact this
theorem tj' (a b : M.Tx) : sx a ++ sx b = sx (a ++ b) := ep' (by rw [pC', fA', fA', fA'])
def okT (s : M.Tx) : Prop := (∀ c ∈ s, c < 1114112) /\ s.length <= M.d7'
def okK : Key -> Prop
  | .inl _ => True
  | .inr x => okT x.cps.toList
def kG' (kvs : List (Key × V)) : Prop := ∀ p ∈ kvs, okK p.1
theorem kG'.nil : kG' [] := fun _ h => nomatch h
theorem kG'.snoc {kvs : List (Key × V)} (h : kG' kvs) {k : Key} {v : V} (hk : okK k) : kG' (kvs ++ [(k, v)]) := fun p hp => by
  rcases List.mem_append.mp hp with hp | hp
  . exact h p hp
  . rw [List.mem_singleton.mp hp]; exact hk
theorem kG'.fst {kvs kvs' : List (Key × V)} (h : kG' kvs) (e : kvs'.map (·.1) = kvs.map (·.1)) : kG' kvs' := fun p hp => by
  have : p.1 ∈ kvs.map (·.1) := by rw [<- e]; exact List.mem_map_of_mem hp
  obtain ⟨q, h1, h2⟩ := List.mem_map.mp this
  rw [<- h2]; exact h q h1
def kD : Key -> M.D
  | .inl i => .int i
  | .inr x => .str x.cps.toList
mutual
def py : M.D -> PyData
  | .bl b => .bool b
  | .int i => .int i
  | .str s => .str (sx s)
  | .tup ds => .tuple (pys ds)
  | .lst ds => .list (pys ds)
  | .dct ks ds => .dict ((pys ks).zip (pys ds))
  | _ => .none
def pys : List M.D -> List PyData
  | [] => []
  | d :: r => py d :: pys r
end
class Wd where
  P : Program
  w : World
  ts : List (Addr × Str)
structure CloD where
  f : Addr
  c : Addr
  q : Str
  ob : Obj
  ws : List V
  caps : List M.D
class Hot where
  hot : Option (Addr × Nat × Option Addr × M.Exc)
  clo : List (Nat × CloD)
abbrev bT' (cs : List (Nat × CloD)) : Hot := ⟨none, cs⟩
instance coldI : Hot := ⟨none, []⟩
def FnO (f : Addr) (ob : Obj) : HO := .ext fun h => h.get? f = some ob
variable [Wd]
mutual
def nk : M.D -> NestedKey
  | .bl b => .num (if b = true then 1 else 0)
  | .int i => .num i
  | .str s => .text (sx s)
  | .tup ds => .tup (nks ds)
  | _ => .none
def nks : List M.D -> List NestedKey
  | [] => []
  | d :: r => nk d :: nks r
end
def lfD : M.D -> Leaf
  | .bl b => .num (if b = true then 1 else 0)
  | .int i => .num i
  | .str s => .text (sx s)
  | _ => .none
def dcL (p : Addr) (kvs : List (Leaf × V)) : HO := .ext fun h => (p == sysModules) = false /\ kvs.length <= sizeLine /\ ∃ vs, KV kvs vs /\ h.DictOf (leafKind Wd.P Wd.w) p vs
abbrev yD' : NestedKey × Addr × V -> NestedKey × Addr × Value -> Prop := fun x y => x.1 = y.1 /\ x.2.1 = y.2.1 /\ RelV x.2.2 y.2.2
def dcN (p : Addr) (xs : List (NestedKey × Addr × V)) : HO := .ext fun h => (p == sysModules) = false /\ xs.length <= sizeLine /\ (xs.map (·.1)).Nodup /\ ∃ ys, Paired yD' xs ys ∧
  ∃ o es ep, h.get? p = some o /\ o.ExactDict /\ o.data = .dict es ep /\ es.toList = ys.map (entryOfKey (nestedKind Wd.P Wd.w))
structure LeafKeys (ks : List M.D) (ls : List Leaf) : Prop where
  e : ls = ks.map lfD
  s : ∀ d ∈ ks, M.sca d = true
structure NestKeys (ks : List M.D) (xs : List (NestedKey × Addr × V)) : Prop where
  e : xs.map (·.1) = ks.map nk
  s : ∀ d ∈ ks, M.kat d = true /\ M.dep d <= 8 /\ M.sca d = false
section
variable (K : PySem.W.Frag)
mutual
/-- v stands for d: what it stands on lies in F and never changes; T: where the world's objects stand -/
inductive Fz (F : Hp) (T : List Addr) : V -> M.D -> Prop
  | non : Fz F T .non .non
  | bl (b : Bool) : Fz F T (.bl b) (.bl b)
  | int (i : Int) : Fz F T (.int i) (.int i)
  | str {s : M.Tx} : okT s -> Fz F T (.str (sx s)) (.str s)
  | tup {a : Addr} {vs : List V} {ds : List M.D} : SqT K F a vs -> FzA F T vs ds -> Fz F T (.ref a) (.tup ds)
  | lst {a : Addr} {vs : List V} {ds : List M.D} : F a = some (.lst vs) -> FzA F T vs ds -> Fz F T (.ref a) (.lst ds)
  | dct {a : Addr} {kvs : List (Key × V)} {ds : List M.D} : Rd F a (.dK kvs) -> kG' kvs -> FzA F T (kvs.map (·.2)) ds -> Fz F T (.ref a) (.dct (kvs.map fun p => kD p.1) ds)
  | dcl {a : Addr} {kvs : List (Leaf × V)} {ks ds : List M.D} : Rd F a (dcL a kvs) -> LeafKeys ks (kvs.map (·.1)) -> FzA F T (kvs.map (·.2)) ds -> Fz F T (.ref a) (.dcx ks ds)
  | dcn {a : Addr} {xs : List (NestedKey × Addr × V)} {ks ds : List M.D} : Rd F a (dcN a xs) -> NestKeys ks xs -> FzA F T (xs.map fun x => .ref x.2.1) ks -> FzA F T (xs.map (·.2.2)) ds -> Fz F T (.ref a) (.dcx ks ds)
  | rep (d : M.D) : Fz F T (.str (py d).shown) (.rep d)
  | obj {n : Nat} {a : Addr} : T[n]? = some a -> Fz F T (.ref a) (.obj n)
  | ty (n : String) : Fz F T (.ty n) (.ty n)
  | fn (x : String) : Fz F T (.ref (He.ga K x)) (.fn x)
  | scr {a : Addr} {vs : List V} {ds : List M.D} : SqL K F a vs -> FzA F T vs ds -> Fz F T (.ref a) (.scr ds)
inductive FzA (F : Hp) (T : List Addr) : List V -> List M.D -> Prop
  | nil : FzA F T [] []
  | cons {v : V} {vs : List V} {d : M.D} {ds : List M.D} : Fz F T v d -> FzA F T vs ds -> FzA F T (v :: vs) (d :: ds)
end
abbrev Fp := List (Addr × HO)
mutual
/-- v stands for o, alone; fp: what it stands on and may change -/
inductive Rp (F : Hp) (T : List Addr) : V -> M.O -> Fp -> Prop
  | fz {v : V} {d : M.D} : Fz K F T v d -> Rp F T v (.fz d) []
  | lst {p : Addr} {vs : List V} {os : List M.O} {fp : Fp} : RpA F T vs os fp -> Rp F T (.ref p) (.lst os) ((p, .lst vs) :: fp)
  | tup {p : Addr} {vs : List V} {os : List M.O} {fp : Fp} : RpA F T vs os fp -> Rp F T (.ref p) (.tup os) ((p, .tup vs) :: fp)
  | dct {p : Addr} {kvs : List (Key × V)} {os : List M.O} {fp : Fp} : kG' kvs -> RpA F T (kvs.map (·.2)) os fp -> Rp F T (.ref p) (.dct (kvs.map fun q => kD q.1) os) ((p, .dK kvs) :: fp)
  | dcl {p : Addr} {kvs : List (Leaf × V)} {ks : List M.D} {os : List M.O} {fp : Fp} : LeafKeys ks (kvs.map (·.1)) -> RpA F T (kvs.map (·.2)) os fp -> Rp F T (.ref p) (.dcx ks os) ((p, dcL p kvs) :: fp)
  | dcn {p : Addr} {xs : List (NestedKey × Addr × V)} {ks : List M.D} {os : List M.O} {fp : Fp} : NestKeys ks xs -> FzA K F T (xs.map fun x => .ref x.2.1) ks -> RpA F T (xs.map (·.2.2)) os fp -> Rp F T (.ref p) (.dcx ks os) ((p, dcN p xs) :: fp)
inductive RpA (F : Hp) (T : List Addr) : List V -> List M.O -> Fp -> Prop
  | nil : RpA F T [] [] []
  | cons {v : V} {vs : List V} {o : M.O} {os : List M.O} {fp fq : Fp} : Rp F T v o fp -> RpA F T vs os fq -> RpA F T (v :: vs) (o :: os) (fp ++ fq)
end
def XcR (F : Hp) (T : List Addr) (x : M.Exc) (cls : Value) (dd : Option Addr) : Prop :=
  cls = .ref (He.ga K x.cls) /\ ((x.fs = [] /\ dd = none) \/ ∃ (a : Addr) (f : String) (v : V) (d : M.D), x.fs = [(f, d)] /\ dd = some a /\ F a = some (.xd [(Str.ofString f, v)]) /\ Fz K F T v d)
structure CloAt (F : Hp) (T : List Addr) (c : CloD) : Prop where
  fn : Rd F c.f (FnO c.f c.ob)
  code : Rd F c.c (LamX.CodeO c.c c.q)
  caps : FzA K F T c.ws c.caps
variable [Hot]
inductive RpE (F : Hp) (T : List Addr) : St -> List (Option M.O) -> Fp -> Prop
  | nil : RpE F T [] [] []
  | off {x : Option V} {σ : St} {env : List (Option M.O)} {fp : Fp} : RpE F T σ env fp -> RpE F T (x :: σ) (none :: env) fp
  | on {v : V} {o : M.O} {σ : St} {env : List (Option M.O)} {fp fq : Fp} : Rp K F T v o fp -> RpE F T σ env fq -> RpE F T (some v :: σ) (some o :: env) (fp ++ fq)
  | hot {a : Addr} {dd : Option Addr} {x : M.Exc} {σ : St} {env : List (Option M.O)} {fp : Fp} : Hot.hot = some (a, env.length, dd, x) -> XcR K F T x (.ref (He.ga K x.cls)) dd -> RpE F T σ env fp -> RpE F T (some (.ref a) :: σ) (some .exn :: env) fp
  | clo {c : CloD} {σ : St} {env : List (Option M.O)} {fp : Fp} : Hot.clo.lookup env.length = some c -> CloAt K F T c -> RpE F T σ env fp -> RpE F T (some (.ref c.f) :: σ) (some .clo :: env) fp
inductive RpOb (F : Hp) (T : List Addr) : Addr -> M.Ob -> Fp -> Prop
  | lst {a : Addr} {vs : List V} {os : List M.O} {fp : Fp} : RpA K F T vs os fp -> RpOb F T a (.lst os) ((a, .lst vs) :: fp)
  | dct {a : Addr} {kvs : List (Key × V)} {os : List M.O} {fp : Fp} : kG' kvs -> RpA K F T (kvs.map (·.2)) os fp -> RpOb F T a (.dct (kvs.map fun q => kD q.1) os) ((a, .dK kvs) :: fp)
  | dcl {a : Addr} {kvs : List (Leaf × V)} {ks : List M.D} {os : List M.O} {fp : Fp} : LeafKeys ks (kvs.map (·.1)) -> RpA K F T (kvs.map (·.2)) os fp -> RpOb F T a (.dcx ks os) ((a, dcL a kvs) :: fp)
  | dcn {a : Addr} {xs : List (NestedKey × Addr × V)} {ks : List M.D} {os : List M.O} {fp : Fp} : NestKeys ks xs -> FzA K F T (xs.map fun x => .ref x.2.1) ks -> RpA K F T (xs.map (·.2.2)) os fp -> RpOb F T a (.dcx ks os) ((a, dcN a xs) :: fp)
  | ins {a dx : Addr} {C : String} {fs : List (String × V)} {os : List M.O} {fp : Fp} : F dx = some (.own a) -> RpA K F T (fs.map (·.2)) os fp →
      RpOb F T a (.ins C ((fs.map (·.1)).zip os)) ((a, .ins (He.ga K C) dx (fs.map fun q => (Str.ofString q.1, q.2))) :: fp)
inductive RpW (F : Hp) (T : List Addr) : List Addr -> M.W -> Fp -> Prop
  | nil : RpW F T [] [] []
  | cons {a : Addr} {l : List Addr} {ob : M.Ob} {w : M.W} {fp fq : Fp} : RpOb K F T a ob fp -> RpW F T l w fq -> RpW F T (a :: l) (ob :: w) (fp ++ fq)
structure Kept (F H : Hp) (fp : Fp) (F' H' : Hp) (fp' : Fp) : Prop where
  un : ∀ a, F a = none -> H a ≠ none -> (∀ e ∈ fp, e.1 ≠ a) -> F' a = none /\ H' a = H a /\ ∀ e ∈ fp', e.1 ≠ a
  cd : ∀ c q, Rd F c (LamX.CodeO c q) -> Rd F' c (LamX.CodeO c q)
structure TbAt (F H : Hp) (fp : Fp) (P : Addr) (q : Str) : Prop where
  f : F P = none
  n : ∀ e ∈ fp, e.1 ≠ P
  t : ∃ ps : Array Value, H P = some (.tbl ps) /\ TriplesOk ps.toList /\ ∀ (pos : Pos) (cv : Value), codeAmong pos ps.toList = some cv -> ∃ c, cv = .ref c /\ Rd F c (LamX.CodeO c q)
theorem TbAt.kept {F H F' H' : Hp} {fp fp' : Fp} {P : Addr} {q : Str} (h : TbAt F H fp P q) (k : Kept F H fp F' H' fp') : TbAt F' H' fp' P q := by
  obtain ⟨ps, h1, h2, h3⟩ := h.t
  obtain ⟨k1, k2, k3⟩ := k.un P h.f (by rw [h1]; simp) h.n
  refine ⟨k1, k3, ps, by rw [k2]; exact h1, h2, fun pos cv hc => ?_⟩
  obtain ⟨c, e1, e2⟩ := h3 pos cv hc
  exact ⟨c, e1, k.cd c q e2⟩
structure FpH (F H : Hp) (fp : Fp) : Prop where
  low : Same F H
  at_ : ∀ e ∈ fp, H e.1 = some e.2 /\ F e.1 = none
  nd : (fp.map (·.1)).Nodup
  tb : ∀ p ∈ Wd.ts, TbAt F H fp p.1 p.2
theorem FpH.tbs {F H F' H' : Hp} {fp fp' : Fp} (f : FpH F H fp) (un : ∀ a, F a = none -> H a ≠ none -> (∀ e ∈ fp, e.1 ≠ a) -> F' a = none /\ H' a = H a /\ ∀ e ∈ fp', e.1 ≠ a)
    (cd : ∀ c q, Rd F c (LamX.CodeO c q) -> Rd F' c (LamX.CodeO c q) := by exact fun _ _ h => h) : ∀ p ∈ Wd.ts, TbAt F' H' fp' p.1 p.2 := fun p hp => (f.tb p hp).kept ⟨un, cd⟩
theorem is' {F F' : Hp} (s : Same F F') {c : Addr} {o : HO} (h : Rd F c o) : Rd F' c o := by
  rcases h with h | ⟨od, h⟩
  . exact .inl (s _ _ h)
  . exact .inr ⟨od, s _ _ h⟩
def Rel (ρ : M.PSt) (σ : St) (H F : Hp) (T : List Addr) (fr : Fp) : Prop := ∃ fe fw, RpE K F T σ ρ.env fe /\ RpW K F T T ρ.w fw /\ FpH F H (fe ++ (fw ++ fr))
abbrev n3' (w : M.W) (H F : Hp) (T : List Addr) (fr : Fp) : Prop := @Rel _ K coldI ⟨[], w⟩ [] H F T fr
theorem t8' {K : PySem.W.Frag} {F : Hp} {T : List Addr} : @RpE _ K coldI F T [] [] [] := @RpE.nil _ K coldI F T
def Lkb (o : HO) : Prop := (∃ kvs, o = .dK kvs) \/ ∃ φ, o = .ext φ
def Wk (F F' : Hp) : Prop := ∀ a o, F a = some o -> F' a = some o \/ Lkb o /\ ∃ od, F' a = some (.frz od o)
theorem Wk.of {F F' : Hp} (s : Same F F') : Wk F F' := fun a o h => .inl (s a o h)
theorem Wk.trans {F F' F2 : Hp} (s : Wk F F') (r : Wk F' F2) : Wk F F2 := fun a o h => by
  rcases s a o h with h1 | ⟨hl, od, h1⟩
  . exact r a o h1
  . rcases r a _ h1 with h2 | ⟨⟨_, e⟩ | ⟨_, e⟩, _⟩
    . exact .inr ⟨hl, od, h2⟩
    . cases e
    . cases e
theorem Wk.at_ {F F' : Hp} (s : Wk F F') {a : Addr} {o : HO} (h : F a = some o) (n : ∀ kvs, o ≠ .dK kvs) (n2 : ∀ φ, o ≠ .ext φ := by intro _ e; cases e) : F' a = some o := by
  rcases s a o h with h | ⟨⟨kvs, rfl⟩ | ⟨φ, rfl⟩, od, _⟩
  . exact h
  . exact absurd rfl (n kvs)
  . exact absurd rfl (n2 φ)
theorem Wk.rd {F F' : Hp} (s : Wk F F') {a : Addr} {u : HO} (hl : Lkb u) (h : Rd F a u) : Rd F' a u := by
  rcases h with h | ⟨o, h⟩
  . rcases s _ _ h with h | ⟨_, od, h⟩
    . exact .inl h
    . exact .inr ⟨od, h⟩
  . exact .inr ⟨o, s.at_ h fun _ e => nomatch e⟩
theorem Wk.lst {F F' : Hp} (s : Wk F F') {a : Addr} {vs : List V} (h : F a = some (.lst vs)) : F' a = some (.lst vs) := s.at_ h fun _ e => nomatch e
theorem Wk.dict {F F' : Hp} (s : Wk F F') {a : Addr} {kvs : List (Key × V)} (h : Rd F a (.dK kvs)) : Rd F' a (.dK kvs) := by
  exact s.rd (.inl ⟨_, rfl⟩) h
theorem Wk.seqT {K : PySem.W.Frag} {F F' : Hp} (s : Wk F F') {a : Addr} {xs : List V} (h : SqT K F a xs) : SqT K F' a xs := by
  rcases h with (h | ⟨o, h⟩) | h
  . exact .inl (.inl (s.at_ h fun _ e => nomatch e))
  . exact .inl (.inr ⟨o, s.at_ h fun _ e => nomatch e⟩)
  . exact .inr h
theorem Wk.seqL {K : PySem.W.Frag} {F F' : Hp} (s : Wk F F') {a : Addr} {xs : List V} (h : SqL K F a xs) : SqL K F' a xs := by
  rcases h with (h | ⟨o, h⟩) | h
  . exact .inl (.inl (s.at_ h fun _ e => nomatch e))
  . exact .inl (.inr ⟨o, s.at_ h fun _ e => nomatch e⟩)
  . exact .inr h
structure Ext (F : Hp) (T : List Addr) (F' : Hp) (T' : List Addr) : Prop where
  f : Wk F F'
  t : T <+: T'
end
variable [Hot]
section
variable {K : PySem.W.Frag} {F F' F2 H H' : Hp} {T T' T2 : List Addr}
theorem Ext.refl : Ext F T F T := ⟨fun _ _ h => .inl h, List.prefix_refl _⟩
theorem Ext.trans (a : Ext F T F' T') (b : Ext F' T' F2 T2) : Ext F T F2 T2 := ⟨a.f.trans b.f, a.t.trans b.t⟩
theorem Ext.of (h : Same F F') : Ext F T F' T := ⟨.of h, List.prefix_refl _⟩
theorem Ext.get (e : Ext F T F' T') {n : Nat} {a : Addr} (h : T[n]? = some a) : T'[n]? = some a := by
  obtain ⟨r, rfl⟩ := e.t
  rw [List.getElem?_append_left (List.getElem?_eq_some_iff.mp h).1]
  exact h
mutual
theorem Fz.mono (e : Ext F T F' T') : ∀ {v : V} {d : M.D}, Fz K F T v d -> Fz K F' T' v d
  | _, _, .non => .non
  | _, _, .bl b => .bl b
  | _, _, .int i => .int i
  | _, _, .str h => .str h
  | _, _, .tup h r => .tup (e.f.seqT h) (FzA.mono e r)
  | _, _, .lst h r => .lst (e.f.lst h) (FzA.mono e r)
  | _, _, .dct h k r => .dct (e.f.dict h) k (FzA.mono e r)
  | _, _, .dcl h k r => .dcl (e.f.rd (.inr ⟨_, rfl⟩) h) k (FzA.mono e r)
  | _, _, .dcn h k q r => .dcn (e.f.rd (.inr ⟨_, rfl⟩) h) k (FzA.mono e q) (FzA.mono e r)
  | _, _, .rep d => .rep d
  | _, _, .obj h => .obj (e.get h)
  | _, _, .ty n => .ty n
  | _, _, .fn x => .fn x
  | _, _, .scr h r => .scr (e.f.seqL h) (FzA.mono e r)
theorem FzA.mono (e : Ext F T F' T') : ∀ {vs : List V} {ds : List M.D}, FzA K F T vs ds -> FzA K F' T' vs ds
  | _, _, .nil => .nil
  | _, _, .cons h r => .cons (Fz.mono e h) (FzA.mono e r)
end
mutual
theorem Rp.mono (e : Ext F T F' T') : ∀ {v : V} {o : M.O} {fp : Fp}, Rp K F T v o fp -> Rp K F' T' v o fp
  | _, _, _, .fz h => .fz (h.mono e)
  | _, _, _, .lst r => .lst (RpA.mono e r)
  | _, _, _, .tup r => .tup (RpA.mono e r)
  | _, _, _, .dct k r => .dct k (RpA.mono e r)
  | _, _, _, .dcl k r => .dcl k (RpA.mono e r)
  | _, _, _, .dcn k q r => .dcn k (q.mono e) (RpA.mono e r)
theorem RpA.mono (e : Ext F T F' T') : ∀ {vs : List V} {os : List M.O} {fp : Fp}, RpA K F T vs os fp -> RpA K F' T' vs os fp
  | _, _, _, .nil => .nil
  | _, _, _, .cons h r => .cons (Rp.mono e h) (RpA.mono e r)
end
theorem XcR.mono' (e : Ext F T F' T') {x : M.Exc} {cls : Value} {dd : Option Addr} (h : XcR K F T x cls dd) : XcR K F' T' x cls dd := by
  obtain ⟨h1, h2 | ⟨a, f, v, d, h3, h4, h5, h6⟩⟩ := h
  . exact ⟨h1, .inl h2⟩
  . exact ⟨h1, .inr ⟨a, f, v, d, h3, h4, e.f.at_ h5 (fun _ z => nomatch z), h6.mono e⟩⟩
theorem CloAt.mono (e : Ext F T F' T') {c : CloD} (h : CloAt K F T c) : CloAt K F' T' c := ⟨e.f.rd (.inr ⟨_, rfl⟩) h.fn, e.f.rd (.inr ⟨_, rfl⟩) h.code, h.caps.mono e⟩
theorem RpE.mono (e : Ext F T F' T') {σ : St} {env : List (Option M.O)} {fp : Fp} (h : RpE K F T σ env fp) : RpE K F' T' σ env fp := by
  induction h with
  | nil => exact .nil
  | off _ ih => exact .off ih
  | on r _ ih => exact .on (r.mono e) ih
  | hot h z _ ih => exact .hot h (z.mono' e) ih
  | clo h z _ ih => exact .clo h (z.mono e) ih
theorem RpOb.mono (e : Ext F T F' T') {a : Addr} {ob : M.Ob} {fp : Fp} (h : RpOb K F T a ob fp) : RpOb K F' T' a ob fp := by
  cases h with
  | lst r => exact .lst (r.mono e)
  | dct k r => exact .dct k (r.mono e)
  | dcl k r => exact .dcl k (r.mono e)
  | dcn k q r => exact .dcn k (q.mono e) (r.mono e)
  | ins d r => exact .ins (e.f.at_ d fun _ z => nomatch z) (r.mono e)
theorem RpW.mono (e : Ext F T F' T') {l : List Addr} {w : M.W} {fp : Fp} (h : RpW K F T l w fp) : RpW K F' T' l w fp := by
  induction h with
  | nil => exact .nil
  | cons r _ ih => exact .cons (r.mono e) ih
theorem FpH.new {p : Addr} {o : HO} {fp : Fp} (f : FpH F H fp) (hp : H p = none) : FpH (upd F p o) (upd H p o) fp := by
  have np : ∀ e ∈ fp, e.1 ≠ p := fun e he => ne_of_none (f.at_ e he).1 hp
  refine ⟨fun a u h => ?_, fun e he => ?_, f.nd, f.tbs (fun a h1 h2 h3 => ?_) fun c q h => is' (fun b u e => by rw [upd_ne (fun z => by rw [z] at e; rw [f.low _ _ e] at hp; cases hp)]; exact e) h⟩
  . by_cases ha : a = p
    . subst ha; rw [upd_same] at h ⊢; exact h
    . rw [upd_ne ha] at h ⊢; exact f.low _ _ h
  . rw [upd_ne (np e he), upd_ne (np e he)]; exact f.at_ e he
  . have ha : a ≠ p := fun z => h2 (by rw [z]; exact hp)
    exact ⟨by rw [upd_ne ha]; exact h1, upd_ne ha, h3⟩
theorem FpH.free {fp : Fp} (f : FpH F H fp) {p : Addr} (hp : H p = none) : F p = none := by
  cases h : F p with
  | none => rfl
  | some o => rw [f.low _ _ h] at hp; cases hp
theorem bO' {p : Addr} {o : HO} (h : F p = none) : Same F (upd F p o) := fun b u e => by rw [upd_ne (ne_of_none e h)]; exact e
end
section
variable {K : PySem.W.Frag} {W : WX} {α β : Type}
abbrev Wx := M.Exc -> M.PSt -> Prop
def a4' (r : M.Res α) (P : α -> M.PSt -> Prop) (X : Wx) : Prop := match r with
  | .ok a ρ => P a ρ
  | .exc x ρ => X x ρ
  | .bad => False
theorem a4'.bind {r : M.Res α} {f : α -> M.PSt -> M.Res β} {P : β -> M.PSt -> Prop} {X : Wx} (h : a4' (r.bind f) P X) : a4' r (fun a ρ => a4' (f a ρ) P X) X := by
  cases r with
  | ok a ρ => exact h
  | exc x ρ => exact h
  | bad => exact h
theorem a4'.ofO {o : Option α} {ρ : M.PSt} {P : α -> M.PSt -> Prop} {X : Wx} (h : a4' (M.ofO o ρ) P X) : ∃ a, o = some a /\ P a ρ := by
  cases o with
  | none => exact h.elim
  | some a => exact ⟨a, rfl, h⟩
theorem a4'.mono {r : M.Res α} {P P' : α -> M.PSt -> Prop} {X X' : Wx} (h : a4' r P X) (hp : ∀ a ρ, P a ρ -> P' a ρ) (hx : ∀ x ρ, X x ρ -> X' x ρ) : a4' r P' X' := by
  cases r with
  | ok a ρ => exact hp _ _ h
  | exc x ρ => exact hx _ _ h
  | bad => exact h
def EX (K : PySem.W.Frag) (W : WX) (σ : St) (F : Hp) (T : List Addr) (fr : Fp) : Wx := fun x ρ => ∀ cls dd H' F' T', Ext F T F' T' -> XcR K F' T' x cls dd -> Rel K ρ σ H' F' T' fr -> W cls dd σ H'
theorem EX.mono {σ : St} {F F' : Hp} {T T' : List Addr} {fr : Fp} {x : M.Exc} {ρ : M.PSt} (h : EX K W σ F T fr x ρ) (e : Ext F T F' T') : EX K W σ F' T' fr x ρ := fun cls dd H' F2 T2 e2 => h cls dd H' F2 T2 (e.trans e2)
def qE (K : PySem.W.Frag) (W : WX) (m : M.ME) : TE := fun σ H Q => ∃ ρ F T fr, Rel K ρ σ H F T fr ∧
  a4' (m ρ) (fun d ρ' => ∀ v H' F' T', Ext F T F' T' -> Fz K F' T' v d -> Rel K ρ' σ H' F' T' fr -> Q v H') (EX K W σ F T fr)
def qO (K : PySem.W.Frag) (W : WX) (m : M.MO) : TE := fun σ H Q => ∃ ρ F T fr, Rel K ρ σ H F T fr ∧
  a4' (m ρ) (fun o ρ' => ∀ v H' F' T' fp, Ext F T F' T' -> Rp K F' T' v o fp -> Rel K ρ' σ H' F' T' (fp ++ fr) -> Q v H') (EX K W σ F T fr)
def qA (K : PySem.W.Frag) (W : WX) (m : M.MA) : TA := fun σ H Q => ∃ ρ F T fr, Rel K ρ σ H F T fr ∧
  a4' (m ρ) (fun ds ρ' => ∀ vs H' F' T', Ext F T F' T' -> FzA K F' T' vs ds -> Rel K ρ' σ H' F' T' fr -> Q vs H') (EX K W σ F T fr)
def qT (K : PySem.W.Frag) (W : WX) (m : M.MT) : TT := fun σ H Q => ∃ ρ F T fr, Rel K ρ σ H F T fr ∧
  a4' (m ρ) (fun b ρ' => ∀ H' F' T', Ext F T F' T' -> Rel K ρ' σ H' F' T' fr -> Q b H') (EX K W σ F T fr)
def qP (K : PySem.W.Frag) (W : WX) (m : M.MP) : TO := fun σ H Q => ∃ ρ F T fr, Rel K ρ σ H F T fr ∧
  a4' (m ρ) (fun b ρ' => ∀ H' F' T', Ext F T F' T' -> Rel K ρ' σ H' F' T' fr -> Q b H') (EX K W σ F T fr)
def bg' (K : PySem.W.Frag) (W : WX) (D : Ends) (F : Hp) (T : List Addr) (fr : Fp) : M.Out -> Prop
  | .nx ρ => ∀ σ' H' F' T', Ext F T F' T' -> Rel K ρ σ' H' F' T' fr -> D.nx σ' H'
  | .bk ρ => ∀ σ' H' F' T', Ext F T F' T' -> Rel K ρ σ' H' F' T' fr -> D.bk σ' H'
  | .ct ρ => ∀ σ' H' F' T', Ext F T F' T' -> Rel K ρ σ' H' F' T' fr -> D.ct σ' H'
  | .rt o w => ∀ v H' F' T' fp, Ext F T F' T' -> Rp K F' T' v o fp -> n3' K (w) H' F' T' (fp ++ fr) -> D.rt v H'
  | .exc x ρ => ∀ σ' cls dd H' F' T', Ext F T F' T' -> XcR K F' T' x cls dd -> Rel K ρ σ' H' F' T' fr -> W cls dd σ' H'
  | .bad => False
def qS (K : PySem.W.Frag) (W : WX) (m : M.MS) : TS := fun D σ H => ∃ ρ F T fr, Rel K ρ σ H F T fr /\ bg' K W D F T fr (m ρ)
abbrev SE (X : Cx) (W : WX) (e : Expr) (m : M.ME) : Prop := PE X e (qE X.K W m)
abbrev SO (X : Cx) (W : WX) (e : Expr) (m : M.MO) : Prop := PE X e (qO X.K W m)
abbrev SA (X : Cx) (W : WX) (es : List Expr) (m : M.MA) : Prop := PA X es (qA X.K W m)
abbrev ST (X : Cx) (W : WX) (e : Expr) (m : M.MT) : Prop := PT X e (qT X.K W m)
abbrev SS (X : Cx) (W : WX) (s : Stmt) (m : M.MS) : Prop := PS X s (qS X.K W m)
abbrev SSs (X : Cx) (W : WX) (s : List Stmt) (m : M.MS) : Prop := PSs X s (qS X.K W m)
theorem PE.imp {X : Cx} {e : Expr} {t t' : TE} (h : PE X e t) (i : ∀ σ H Q, t' σ H Q -> t σ H Q) : PE X e t' := ⟨fun pins s σ H Q I q => h.run pins s σ H Q I (i σ H Q q)⟩
theorem PT.imp {X : Cx} {e : Expr} {t t' : TT} (h : PT X e t) (i : ∀ σ H Q, t' σ H Q -> t σ H Q) : PT X e t' := ⟨fun pins s σ H Q I q => h.run pins s σ H Q I (i σ H Q q)⟩
theorem PW.imp {X : Cx} {e : Expr} {t t' : TT} (h : PW X e t) (i : ∀ σ H Q, t' σ H Q -> t σ H Q) : PW X e t' := ⟨fun wh pins s σ H Q I q => h.run wh pins s σ H Q I (i σ H Q q)⟩
theorem PA.imp {X : Cx} {e : List Expr} {t t' : TA} (h : PA X e t) (i : ∀ σ H Q, t' σ H Q -> t σ H Q) : PA X e t' := ⟨fun pos pins s σ H Q I q => h.run pos pins s σ H Q I (i σ H Q q)⟩
theorem PS.imp {X : Cx} {e : Stmt} {t t' : TS} (h : PS X e t) (i : ∀ D σ H, t' D σ H -> t D σ H) : PS X e t' := ⟨fun pins s σ H Q I q => h.run pins s σ H Q I (i Q σ H q)⟩
theorem PSs.imp {X : Cx} {e : List Stmt} {t t' : TS} (h : PSs X e t) (i : ∀ D σ H, t' D σ H -> t D σ H) : PSs X e t' := ⟨fun pins s σ H Q I q => h.run pins s σ H Q I (i Q σ H q)⟩
theorem PO.imp {X : Cx} {e : Option Expr} {t t' : TO} (h : PO X e t) (i : ∀ σ H Q, t' σ H Q -> t σ H Q) : PO X e t' := ⟨fun pins s σ H Q I q => h.run pins s σ H Q I (i σ H Q q)⟩
variable {σ : St} {H F : Hp} {T : List Addr} {fr : Fp} {ρ : M.PSt} {P : β -> M.PSt -> Prop} {X : Wx}
theorem aF' {m : M.ME} {k : M.D -> M.PSt -> M.Res β} {Q : VK} (rel : Rel K ρ σ H F T fr) (h : a4' ((m ρ).bind k) P (EX K W σ F T fr))
    (q : ∀ d ρ1 v H1 F1 T1, Ext F T F1 T1 -> Fz K F1 T1 v d -> Rel K ρ1 σ H1 F1 T1 fr -> a4' (k d ρ1) P (EX K W σ F1 T1 fr) -> Q v H1) : qE K W m σ H Q :=
  ⟨ρ, F, T, fr, rel, (a4'.bind h).mono (fun d ρ1 h1 v H1 F1 T1 e z r => q d ρ1 v H1 F1 T1 e z r (h1.mono (fun _ _ z => z) fun _ _ z => z.mono e)) fun _ _ z => z⟩
theorem cb' {m : M.MA} {k : List M.D -> M.PSt -> M.Res β} {Q : List V -> Hp -> Prop} (rel : Rel K ρ σ H F T fr) (h : a4' ((m ρ).bind k) P (EX K W σ F T fr))
    (q : ∀ ds ρ1 vs H1 F1 T1, Ext F T F1 T1 -> FzA K F1 T1 vs ds -> Rel K ρ1 σ H1 F1 T1 fr -> a4' (k ds ρ1) P (EX K W σ F1 T1 fr) -> Q vs H1) : qA K W m σ H Q :=
  ⟨ρ, F, T, fr, rel, (a4'.bind h).mono (fun d ρ1 h1 v H1 F1 T1 e z r => q d ρ1 v H1 F1 T1 e z r (h1.mono (fun _ _ z => z) fun _ _ z => z.mono e)) fun _ _ z => z⟩
theorem iu' {m : M.MT} {k : Bool -> M.PSt -> M.Res β} {Q : Bool -> Hp -> Prop} (rel : Rel K ρ σ H F T fr) (h : a4' ((m ρ).bind k) P (EX K W σ F T fr))
    (q : ∀ b ρ1 H1 F1 T1, Ext F T F1 T1 -> Rel K ρ1 σ H1 F1 T1 fr -> a4' (k b ρ1) P (EX K W σ F1 T1 fr) -> Q b H1) : qT K W m σ H Q :=
  ⟨ρ, F, T, fr, rel, (a4'.bind h).mono (fun d ρ1 h1 H1 F1 T1 e r => q d ρ1 H1 F1 T1 e r (h1.mono (fun _ _ z => z) fun _ _ z => z.mono e)) fun _ _ z => z⟩
theorem mY' {m : M.MP} {k : Option Int -> M.PSt -> M.Res β} {Q : Option Int -> Hp -> Prop} (rel : Rel K ρ σ H F T fr) (h : a4' ((m ρ).bind k) P (EX K W σ F T fr))
    (q : ∀ b ρ1 H1 F1 T1, Ext F T F1 T1 -> Rel K ρ1 σ H1 F1 T1 fr -> a4' (k b ρ1) P (EX K W σ F1 T1 fr) -> Q b H1) : qP K W m σ H Q :=
  ⟨ρ, F, T, fr, rel, (a4'.bind h).mono (fun d ρ1 h1 H1 F1 T1 e r => q d ρ1 H1 F1 T1 e r (h1.mono (fun _ _ z => z) fun _ _ z => z.mono e)) fun _ _ z => z⟩
end
end S
namespace S
open PySem PySem.Spec PyProof.Rows L2
variable [Wd] [Hot]
section
variable {K : PySem.W.Frag} {F H : Hp} {T : List Addr} {v : V} {d : M.D} {vs ws : List V} {ds es : List M.D}
theorem Fz.int_inv {i : Int} (h : Fz K F T v (.int i)) : v = .int i := by cases h; rfl
theorem Fz.bl_inv {i : Bool} (h : Fz K F T v (.bl i)) : v = .bl i := by cases h; rfl
theorem Fz.non_inv (h : Fz K F T v .non) : v = .non := by cases h; rfl
theorem Fz.str_inv {s : M.Tx} (h : Fz K F T v (.str s)) : v = .str (sx s) /\ okT s := by cases h with | str h => exact ⟨rfl, h⟩
theorem Fz.tup_inv (h : Fz K F T v (.tup ds)) : ∃ a vs, v = .ref a /\ SqT K F a vs /\ FzA K F T vs ds := by cases h with | tup h r => exact ⟨_, _, rfl, h, r⟩
theorem Fz.lst_inv (h : Fz K F T v (.lst ds)) : ∃ a vs, v = .ref a /\ F a = some (.lst vs) /\ FzA K F T vs ds := by cases h with | lst h r => exact ⟨_, _, rfl, h, r⟩
theorem FzA.length : ∀ {vs : List V} {ds : List M.D}, FzA K F T vs ds -> vs.length = ds.length
  | _, _, .nil => rfl
  | _, _, .cons _ r => congrArg (· + 1) (FzA.length r)
theorem FzA.append : ∀ {vs ws : List V} {ds es : List M.D}, FzA K F T vs ds -> FzA K F T ws es -> FzA K F T (vs ++ ws) (ds ++ es)
  | _, _, _, _, .nil, h => h
  | _, _, _, _, .cons a r, h => .cons a (FzA.append r h)
theorem FzA.take : ∀ {vs : List V} {ds : List M.D} (n : Nat), FzA K F T vs ds -> FzA K F T (vs.take n) (ds.take n)
  | _, _, 0, _ => .nil
  | _, _, n + 1, .nil => .nil
  | _, _, n + 1, .cons a r => .cons a (FzA.take n r)
theorem FzA.drop : ∀ {vs : List V} {ds : List M.D} (n : Nat), FzA K F T vs ds -> FzA K F T (vs.drop n) (ds.drop n)
  | _, _, 0, h => h
  | _, _, n + 1, .nil => .nil
  | _, _, n + 1, .cons a r => FzA.drop n r
theorem FzA.get : ∀ {vs : List V} {ds : List M.D} {i : Nat} {d : M.D}, FzA K F T vs ds -> ds[i]? = some d -> ∃ v, vs[i]? = some v /\ Fz K F T v d
  | _, _, _, _, .nil, e => by cases e
  | _, _, 0, _, .cons h _, e => ⟨_, rfl, by rw [<- Option.some.inj e]; exact h⟩
  | _, _, i + 1, _, .cons _ r, e => FzA.get (i := i) r e
theorem FzA.rev {vs : List V} {ds : List M.D} (h : FzA K F T vs ds) : FzA K F T vs.reverse ds.reverse := by
  match vs, ds, h with
  | [], [], .nil => exact .nil
  | v :: vs, d :: ds, .cons a r =>
    rw [List.reverse_cons, List.reverse_cons]
    exact FzA.append (FzA.rev r) (.cons a .nil)
theorem FzA.rep {vs : List V} {ds : List M.D} (h : FzA K F T vs ds) : ∀ n, FzA K F T (List.replicate n vs).flatten (List.replicate n ds).flatten
  | 0 => .nil
  | n + 1 => FzA.append h (FzA.rep h n)
theorem FzA.cutV {lo hi : Option Int} (h : FzA K F T vs ds) : FzA K F T (cutV vs lo hi) (M.cut ds lo hi) := by
  unfold L2.cutV M.cut
  rw [h.length]
  exact FzA.take _ (FzA.drop _ h)
theorem FzA.of_all : ∀ {n : Nat} {f : Nat -> V} {g : Nat -> M.D}, (∀ i, Fz K F T (f i) (g i)) -> FzA K F T ((List.range n).map f) ((List.range n).map g) := by
  intro n f g h
  generalize List.range n = l
  induction l with
  | nil => exact .nil
  | cons a l ih => exact .cons (h a) ih
theorem nw' {c : Nat} (h : c < 1114112) : Fz K F T (.str ⟨#[c]⟩) (M.chD c) := Fz.str (s := [c]) ⟨fun x hx => by rw [List.mem_singleton.mp hx]; exact h, by show 1 <= 16777216; decide⟩
theorem FzA.chars : ∀ {s : M.Tx}, (∀ c ∈ s, c < 1114112) -> FzA K F T (s.map chv) (s.map M.chD)
  | [], _ => .nil
  | c :: s, h => .cons (nw' (h c (by simp))) (FzA.chars fun x hx => h x (by simp [hx]))
theorem SqT.low (s : Same F H) {a : Addr} (h : SqT K F a vs) : SqT K H a vs := seqT s h
theorem okT.app {a b : M.Tx} (h1 : okT a) (h2 : okT b) (h : a.length + b.length <= M.d7') : okT (a ++ b) :=
  ⟨fun c hc => (List.mem_append.mp hc).elim (h1.1 c) (h2.1 c), by rw [List.length_append]; exact h⟩
theorem okT.sub {a b : M.Tx} (h1 : okT a) (h : ∀ c ∈ b, c ∈ a) (hl : b.length <= a.length) : okT b := ⟨fun c hc => h1.1 c (h c hc), Nat.le_trans hl h1.2⟩
theorem okT.len {s : M.Tx} (h : okT s) : (sx s).length <= sizeLine := by rw [bV', sizeLine_eq]; exact h.2
theorem bD' : sizeLine = M.d7' := sizeLine_eq
theorem Rel.fp {ρ : M.PSt} {σ : St} {fr : Fp} (r : Rel K ρ σ H F T fr) : ∃ fp, FpH F H fp /\ ∀ H' F', Same F F' -> FpH F' H' fp -> Rel K ρ σ H' F' T fr := by
  obtain ⟨fe, fw, re, rw, f⟩ := r
  exact ⟨_, f, fun H' F' s f' => ⟨fe, fw, re.mono (.of s), rw.mono (.of s), f'⟩⟩
abbrev ds' (K : PySem.W.Frag) (F : Hp) (T : List Addr) (fp : Fp) (dz : M.D) (Q : VK) : Prop := ∀ v H' F', Same F F' -> Fz K F' T v dz -> FpH F' H' fp -> Q v H'
theorem ds'.here {fp : Fp} {dz : M.D} {Q : VK} (k : ds' K F T fp dz Q) (f : FpH F H fp) (z : Fz K F T v dz) : Q v H := k v H F (fun _ _ e => e) z f
theorem ds'.newT {fp : Fp} {Q : VK} (k : ds' K F T fp (.tup ds) Q) (f : FpH F H fp) (z : FzA K F T vs ds) {p : Addr} (hp : H p = none) : Q (.ref p) (upd H p (.tup vs)) := by
  have s : Same F (upd F p (.tup vs)) := bO' (f.free hp)
  exact k _ _ _ s (.tup (SqT.of upd_same) (z.mono (.of s))) (f.new hp)
theorem ds'.newL {fp : Fp} {Q : VK} (k : ds' K F T fp (.lst ds) Q) (f : FpH F H fp) (z : FzA K F T vs ds) {p : Addr} (hp : H p = none) : Q (.ref p) (upd H p (.lst vs)) := by
  have s : Same F (upd F p (.lst vs)) := bO' (f.free hp)
  exact k _ _ _ s (.lst upd_same (z.mono (.of s))) (f.new hp)
end
section
variable (K : PySem.W.Frag)
def Op1 (f : M.D -> Option M.D) (r : V -> Hp -> VK -> Prop) : Prop := ∀ {F H : Hp} {T : List Addr} {fp : Fp} {x : V} {dx dz : M.D} {Q : VK}, FpH F H fp -> Fz K F T x dx -> f dx = some dz -> ds' K F T fp dz Q -> r x H Q
def Op2 (f : M.D -> M.D -> Option M.D) (r : R2) : Prop := ∀ {F H : Hp} {T : List Addr} {fp : Fp} {x y : V} {dx dy dz : M.D} {Q : VK}, FpH F H fp -> Fz K F T x dx -> Fz K F T y dy -> f dx dy = some dz -> ds' K F T fp dz Q -> r x y H Q
end
section
variable {K : PySem.W.Frag}
mutual
theorem Fz.py {F H : Hp} {T : List Addr} (s : Same F H) : ∀ {v : V} {d : M.D}, Fz K F T v d -> M.dat d = true -> Dp K H v (py d)
  | _, _, .non, _ => .non
  | _, _, .bl b, _ => .bl b
  | _, _, .int i, _ => .int i
  | _, _, .str h, _ => .str _
  | _, _, .tup h r, e => .tup (seqT s h) (FzA.py s r e)
  | _, _, .lst h r, e => .lst (SqL.of (s _ _ h)) (FzA.py s r e)
  | _, _, .dct h _ r, e => by cases e
  | _, _, .dcl _ _ _, e => by cases e
  | _, _, .dcn _ _ _ _, e => by cases e
  | _, _, .rep _, e => by cases e
  | _, _, .obj h, e => by cases e
  | _, _, .ty n, e => by cases e
  | _, _, .fn x, e => by cases e
  | _, _, .scr h r, e => by cases e
theorem FzA.py {F H : Hp} {T : List Addr} (s : Same F H) : ∀ {vs : List V} {ds : List M.D}, FzA K F T vs ds -> M.dats ds = true -> DpAll K H vs (pys ds)
  | _, _, .nil, _ => .nil
  | _, _, .cons h r, e => by
    obtain ⟨e1, e2⟩ := Bool.and_eq_true_iff.mp (show (M.dat _ && M.dats _) = true from e)
    exact .cons (Fz.py s h e1) (FzA.py s r e2)
end
theorem on' {s : M.Tx} (h : okT s) : PyData.strOk (sx s) = true := by
  unfold PyData.strOk
  rw [Array.all_eq_true']
  intro c hc
  have := h.1 c (by simpa [sx] using hc)
  simp only [decide_eq_true_eq]
  omega
mutual
theorem nj' {F : Hp} {T : List Addr} : ∀ {v : V} {d : M.D}, Fz K F T v d -> M.dat d = true -> (py d).canLay0 = true /\ (py d).depth = M.dep d
  | _, _, .non, _ => ⟨rfl, rfl⟩
  | _, _, .bl b, _ => ⟨rfl, rfl⟩
  | _, _, .int i, _ => ⟨rfl, rfl⟩
  | _, _, .str h, _ => ⟨on' h, rfl⟩
  | _, _, .tup h r, e => by
    obtain ⟨h1, h2⟩ := lays_of r e
    exact ⟨h1, congrArg (· + 1) h2⟩
  | _, _, .lst h r, e => by
    obtain ⟨h1, h2⟩ := lays_of r e
    exact ⟨h1, congrArg (· + 1) h2⟩
  | _, _, .dct h _ r, e => by cases e
  | _, _, .dcl _ _ _, e => by cases e
  | _, _, .dcn _ _ _ _, e => by cases e
  | _, _, .rep _, e => by cases e
  | _, _, .obj h, e => by cases e
  | _, _, .ty n, e => by cases e
  | _, _, .fn x, e => by cases e
  | _, _, .scr h r, e => by cases e
theorem lays_of {F : Hp} {T : List Addr} : ∀ {vs : List V} {ds : List M.D}, FzA K F T vs ds -> M.dats ds = true -> PyData.canLayAll0 (pys ds) = true /\ PyData.depthAll (pys ds) = M.deps ds
  | _, _, .nil, _ => ⟨rfl, rfl⟩
  | _, _, .cons h r, e => by
    obtain ⟨e1, e2⟩ := Bool.and_eq_true_iff.mp (show (M.dat _ && M.dats _) = true from e)
    obtain ⟨a1, a2⟩ := nj' h e1
    obtain ⟨b1, b2⟩ := lays_of r e2
    refine ⟨?_, ?_⟩
    . show (PyData.canLay0 _ && PyData.canLayAll0 _) = true
      rw [a1, b1]; rfl
    . show max (PyData.depth _) (PyData.depthAll _) = max _ _
      rw [a2, b2]
end
theorem p6' (a b : M.Tx) : (sx a == sx b) = (a == b) := by
  rw [Bool.eq_iff_iff, beq_iff_eq, beq_iff_eq]
  exact ⟨th', fun h => by rw [h]⟩
mutual
theorem qr' : ∀ (d e : M.D), M.dat d = true -> M.dat e = true -> PyData.eqv (py d) (py e) = M.eqb d e
  | .non, e, _, h => by cases e <;> first | rfl | cases h
  | .bl a, e, _, h => by cases e <;> first | rfl | cases h
  | .int a, e, _, h => by cases e <;> first | rfl | cases h
  | .str a, e, _, h => by
    cases e with
    | str b => exact p6' a b
    | _ => first | rfl | cases h
  | .tup a, e, h1, h => by
    cases e with
    | tup b => exact eqvs_py a b h1 h
    | _ => first | rfl | cases h
  | .lst a, e, h1, h => by
    cases e with
    | lst b => exact eqvs_py a b h1 h
    | _ => first | rfl | cases h
  | .dct _ _, _, h, _ => by cases h
  | .obj _, _, h, _ => by cases h
  | .ty _, _, h, _ => by cases h
  | .fn _, _, h, _ => by cases h
  | .exc _ _, _, h, _ => by cases h
  | .scr _, _, h, _ => by cases h
theorem eqvs_py : ∀ (d e : List M.D), M.dats d = true -> M.dats e = true -> PyData.eqvAll (pys d) (pys e) = M.eqbs d e
  | [], [], _, _ => rfl
  | [], _ :: _, _, _ => rfl
  | _ :: _, [], _, _ => rfl
  | a :: d, b :: e, h1, h2 => by
    obtain ⟨a1, a2⟩ := Bool.and_eq_true_iff.mp (show (M.dat _ && M.dats _) = true from h1)
    obtain ⟨b1, b2⟩ := Bool.and_eq_true_iff.mp (show (M.dat _ && M.dats _) = true from h2)
    show (PyData.eqv (py a) (py b) && PyData.eqvAll (pys d) (pys e)) = (M.eqb a b && M.eqbs d e)
    rw [qr' a b a1 b1, eqvs_py d e a2 b2]
end
theorem uA' {F H : Hp} {T : List Addr} {fp : Fp} {x y : V} {dx dy : M.D} {b : Bool} (f : FpH F H fp) (hx : Fz K F T x dx) (hy : Fz K F T y dy) (h : M.eqv dx dy = some b) :
    ∃ d e, Dp K H x d /\ Dp K H y e /\ SeqAt.shaped d = true /\ SeqAt.shaped e = true /\ PyData.eqv d e = b := by
  unfold M.eqv at h
  split at h
  . rename_i c
    obtain ⟨c1, c2, c3, c4⟩ := c
    obtain ⟨a1, a2⟩ := nj' hx c1
    obtain ⟨b1, b2⟩ := nj' hy c2
    refine ⟨_, _, hx.py f.low c1, hy.py f.low c2, ?_, ?_, ?_⟩
    . exact Sh.shaped (n := 64) ⟨a1, by rw [a2]; exact c3⟩ (Nat.le_refl _)
    . exact Sh.shaped (n := 64) ⟨b1, by rw [b2]; exact c4⟩ (Nat.le_refl _)
    . rw [qr' _ _ c1 c2]; exact Option.some.inj h
  . cases h
theorem cJ' : Op2 K M.pEq (xP' K) := by
  intro F H T fp x y dx dy dz Q f hx hy h k
  unfold M.pEq M.ob at h
  cases e : M.eqv dx dy with
  | none => rw [e] at h; cases h
  | some b =>
    rw [e] at h
    cases h
    obtain ⟨d, e, h1, h2, h3, h4, h5⟩ := uA' f hx hy e
    exact .inr ⟨d, e, h1, h2, h3, h4, by rw [h5]; exact k.here f (.bl b)⟩
theorem vM' : Op2 K M.pNe (wn' K) := by
  intro F H T fp x y dx dy dz Q f hx hy h k
  unfold M.pNe M.ob at h
  cases e : M.eqv dx dy with
  | none => rw [e] at h; cases h
  | some b =>
    rw [e] at h
    cases h
    obtain ⟨d, e, h1, h2, h3, h4, h5⟩ := uA' f hx hy e
    exact .inr ⟨d, e, h1, h2, h3, h4, by rw [h5]; exact k.here f (.bl (!b))⟩
theorem a7' : Op2 K M.bw' (tO' K) := by
  intro F H T fp x y dx dy dz Q f hx hy h k
  cases dx <;> cases dy <;> try (cases h; done)
  . cases hx; cases hy; cases h
    exact .inl ⟨_, _, rfl, rfl, k.here f (.int _)⟩
  . obtain ⟨rfl, o1⟩ := hx.str_inv
    obtain ⟨rfl, o2⟩ := hy.str_inv
    simp only [M.bw'] at h
    split at h
    . rename_i hl
      cases h
      refine .inr (.inl ⟨_, _, rfl, rfl, by rw [bV', bV', bD']; exact hl, ?_⟩)
      rw [tj']
      exact k.here f (.str (o1.app o2 hl))
    . cases h
  . obtain ⟨a, vs, rfl, ha, za⟩ := hx.tup_inv
    obtain ⟨b, ws, rfl, hb, zb⟩ := hy.tup_inv
    simp only [M.bw'] at h
    split at h
    . rename_i hl
      cases h
      refine .inr (.inr (.inr ⟨a, b, vs, ws, rfl, rfl, seqT f.low ha, seqT f.low hb, by rw [za.length, zb.length, bD']; exact hl, fun e => ?_, fun _ e => ?_, fun _ _ p hp => k.newT f (za.append zb) hp⟩))
      . subst e
        cases za
        exact k.here f (.tup hb zb)
      . subst e
        cases zb
        refine k.here f ?_
        rw [List.append_nil]
        exact .tup ha za
    . cases h
  . obtain ⟨a, vs, rfl, ha, za⟩ := hx.lst_inv
    obtain ⟨b, ws, rfl, hb, zb⟩ := hy.lst_inv
    simp only [M.bw'] at h
    split at h
    . rename_i hl
      cases h
      exact .inr (.inr (.inl ⟨a, b, vs, ws, rfl, rfl, f.low _ _ ha, f.low _ _ hb, by rw [za.length, zb.length, bD']; exact hl, fun p hp => k.newL f (za.append zb) hp⟩))
    . cases h
theorem e8' : Op2 K M.kW' (rI0 fun i j => .int (i - j)) := by
  intro F H T fp x y dx dy dz Q f hx hy h k
  cases dx <;> cases dy <;> try (cases h; done)
  cases hx; cases hy; cases h
  exact ⟨_, _, rfl, rfl, k.here f (.int _)⟩
theorem tA' (s : M.Tx) (n : Nat) : lh' (sx s) n = sx (List.replicate n s).flatten := rfl
theorem tB' {s : M.Tx} {n : Nat} (h : okT s) (hl : s.length * n <= M.d7') : okT (List.replicate n s).flatten := by
  refine ⟨fun c hc => ?_, ?_⟩
  . obtain ⟨l, h1, h2⟩ := List.mem_flatten.mp hc
    rw [List.eq_of_mem_replicate h1] at h2
    exact h.1 c h2
  . rw [List.length_flatten]
    simp
    rw [Nat.mul_comm]
    exact hl
def tF' : R2 := fun x y H Q => tG' x y H Q \/ rI CMulW (fun i j => .int (i * j)) x y H Q
theorem eD' {X : Cx} : OpR X (binaryOp .Mult) tF' := rr'.or op_mulW
theorem ue' {i : Int} (h : -2582249878086908589655919172003011874329705792829223512830659356540647622016841194629645353280137831435903171972747493376 < i /\ i < 2582249878086908589655919172003011874329705792829223512830659356540647622016841194629645353280137831435903171972747493376) : i.natAbs < 2 ^ 400 := by
  have : (2 : Nat) ^ 400 = 2582249878086908589655919172003011874329705792829223512830659356540647622016841194629645353280137831435903171972747493376 := by decide +kernel
  omega
theorem m3' : Op2 K M.ix' tF' := by
  intro F H T fp x y dx dy dz Q f hx hy h k
  cases dx <;> cases dy <;> try (cases h; done)
  . cases hx; cases hy
    simp only [M.ix'] at h
    split at h
    . rename_i hc
      cases h
      rcases hc with hc | hc
      . refine .inl (.inl ⟨_, _, rfl, rfl, ?_, k.here f (.int _)⟩)
        rcases hc with hc | hc <;> simp only [M.small64, Bool.and_eq_true, decide_eq_true_eq] at hc
        . exact .inl hc
        . exact .inr hc
      . exact .inr ⟨_, _, rfl, rfl, wide_mul (ue' hc.1) (ue' hc.2) (by decide) (by decide) (by decide), k.here f (.int _)⟩
    . cases h
  . obtain ⟨rfl, o1⟩ := hx.str_inv
    cases hy
    simp only [M.ix'] at h
    split at h
    . rename_i hc
      cases h
      refine .inl (.inr (.inl ⟨_, _, rfl, rfl, hc.1, hc.2.1, by rw [bV', bD']; exact hc.2.2, ?_⟩))
      rw [tA']
      exact k.here f (.str (tB' o1 hc.2.2))
    . cases h
  . obtain ⟨a, vs, rfl, ha, za⟩ := hx.lst_inv
    cases hy
    simp only [M.ix'] at h
    split at h
    . rename_i hc
      cases h
      refine .inl (.inr (.inr ⟨a, _, vs, rfl, rfl, f.low _ _ ha, by omega, by omega, by rw [za.length, bD']; exact hc.2.2, fun p hp => k.newL f (za.rep _) hp⟩))
    . cases h
theorem fL' : Op2 K M.e7' (rI CDivW fun i j => .int (i / j)) := by
  intro F H T fp x y dx dy dz Q f hx hy h k
  cases dx <;> cases dy <;> try (cases h; done)
  cases hx; cases hy
  simp only [M.e7'] at h
  split at h
  . rename_i hc
    cases h
    refine ⟨_, _, rfl, rfl, wide_div (b := 200) hc.1 ?_ (by decide) (by decide), k.here f (.int _)⟩
    have : (2 : Nat) ^ 200 = 1606938044258990275541962092341162602522202993782792835301376 := by decide +kernel
    omega
  . cases h
theorem c9' : Op2 K M.gt' (rI (fun _ j => 0 < j) fun i j => .int (i % j)) := by
  intro F H T fp x y dx dy dz Q f hx hy h k
  cases dx <;> cases dy <;> try (cases h; done)
  cases hx; cases hy
  simp only [M.gt'] at h
  split at h
  . rename_i hc
    cases h
    exact ⟨_, _, rfl, rfl, hc, k.here f (.int _)⟩
  . cases h
theorem wz' : Op2 K M.tU' (rI CPow fun i j => .int (i ^ j.toNat)) := by
  intro F H T fp x y dx dy dz Q f hx hy h k
  cases dx <;> cases dy <;> try (cases h; done)
  cases hx; cases hy
  simp only [M.tU'] at h
  split at h
  . rename_i hc
    cases h
    obtain ⟨h1, h2, h3⟩ := hc
    simp only [M.small64, Bool.and_eq_true, decide_eq_true_eq] at h3
    exact ⟨_, _, rfl, rfl, ⟨h1, by omega, by omega⟩, k.here f (.int _)⟩
  . cases h
theorem sC' : Op2 K M.pLt (qf' (fun i j => decide (i < j)) fun a b => decide (a < b)) := by
  intro F H T fp x y dx dy dz Q f hx hy h k
  cases dx <;> cases dy <;> try (cases h; done)
  . cases hx; cases hy; cases h
    exact .inl ⟨_, _, rfl, rfl, k.here f (.bl _)⟩
  . obtain ⟨rfl, o1⟩ := hx.str_inv
    obtain ⟨rfl, o2⟩ := hy.str_inv
    cases h
    exact .inr ⟨_, _, rfl, rfl, k.here f (.bl _)⟩
theorem t3' : Op2 K M.pLe (qf' (fun i j => decide (i <= j)) fun a b => !decide (b < a)) := by
  intro F H T fp x y dx dy dz Q f hx hy h k
  cases dx <;> cases dy <;> try (cases h; done)
  . cases hx; cases hy; cases h
    exact .inl ⟨_, _, rfl, rfl, k.here f (.bl _)⟩
  . obtain ⟨rfl, o1⟩ := hx.str_inv
    obtain ⟨rfl, o2⟩ := hy.str_inv
    cases h
    exact .inr ⟨_, _, rfl, rfl, k.here f (.bl _)⟩
theorem t4' : Op2 K M.pGt (qf' (fun i j => decide (j < i)) fun a b => decide (b < a)) := by
  intro F H T fp x y dx dy dz Q f hx hy h k
  cases dx <;> cases dy <;> try (cases h; done)
  . cases hx; cases hy; cases h
    exact .inl ⟨_, _, rfl, rfl, k.here f (.bl _)⟩
  . obtain ⟨rfl, o1⟩ := hx.str_inv
    obtain ⟨rfl, o2⟩ := hy.str_inv
    cases h
    exact .inr ⟨_, _, rfl, rfl, k.here f (.bl _)⟩
theorem t5' : Op2 K M.pGe (qf' (fun i j => decide (j <= i)) fun a b => !decide (a < b)) := by
  intro F H T fp x y dx dy dz Q f hx hy h k
  cases dx <;> cases dy <;> try (cases h; done)
  . cases hx; cases hy; cases h
    exact .inl ⟨_, _, rfl, rfl, k.here f (.bl _)⟩
  . obtain ⟨rfl, o1⟩ := hx.str_inv
    obtain ⟨rfl, o2⟩ := hy.str_inv
    cases h
    exact .inr ⟨_, _, rfl, rfl, k.here f (.bl _)⟩
def xN' : R2 := fun x y H Q => xO' x y H Q \/ rIsB x y H Q
def mX' : R2 := fun x y H Q => tE' x y H Q \/ rNotB x y H Q
theorem rt' {X : Cx} : OpR X (compareOp .Is) xN' := ru'.or op_isBl
theorem fK' {X : Cx} : OpR X (compareOp .IsNot) mX' := oT'.or op_notBl
theorem qo' {F : Hp} {T : List Addr} {x : V} {d : M.D} (h : Fz K F T x d) : decide (x = .non) = M.cT' d := by cases h <;> rfl
theorem yq' : Op2 K M.pIs xN' := by
  intro F H T fp x y dx dy dz Q f hx hy h k
  cases dy with
  | non =>
    cases hy
    have e : M.D.bl (M.cT' dx) = dz := by cases dx <;> exact Option.some.inj h
    subst e
    exact .inl ⟨rfl, by rw [qo' hx]; exact k.here f (.bl _)⟩
  | bl b =>
    cases dx <;> try (cases h; done)
    cases hx; cases hy; cases h
    refine .inr ⟨_, _, rfl, rfl, ?_⟩
    rw [<- Bool.beq_eq_decide_eq]
    exact k.here f (.bl _)
  | _ => cases dx <;> cases h
theorem m4' : Op2 K M.eC' mX' := by
  intro F H T fp x y dx dy dz Q f hx hy h k
  cases dy with
  | non =>
    cases hy
    have e : M.D.bl (!M.cT' dx) = dz := by cases dx <;> exact Option.some.inj h
    subst e
    exact .inl ⟨rfl, by rw [qo' hx]; exact k.here f (.bl _)⟩
  | bl b =>
    cases dx <;> try (cases h; done)
    cases hx; cases hy; cases h
    refine .inr ⟨_, _, rfl, rfl, ?_⟩
    rw [<- Bool.beq_eq_decide_eq]
    exact k.here f (.bl _)
  | _ => cases dx <;> cases h
theorem FzA.ati {F : Hp} {T : List Addr} {vs : List V} {ds : List M.D} {i : Int} {d : M.D} (h : FzA K F T vs ds) (e : M.ati ds i = some d) : ∃ v, atI vs i = some v /\ Fz K F T v d := by
  unfold M.ati at e
  unfold atI
  rw [h.length]
  cases q : M.ixn ds.length i with
  | none => rw [q] at e; cases e
  | some j =>
    rw [q] at e
    obtain ⟨v, h1, h2⟩ := h.get (i := j) e
    have q' : ixN ds.length i = some j := q
    rw [q']
    exact ⟨v, h1, h2⟩
theorem hv' : Op2 K M.pIx (rIx K) := by
  intro F H T fp x y dx dy dz Q f hx hy h k
  cases dx <;> cases dy <;> try (cases h; done)
  . obtain ⟨rfl, o1⟩ := hx.str_inv
    cases hy
    simp only [M.pIx] at h
    rename_i s i
    cases q : M.ati s i with
    | none => rw [q] at h; cases h
    | some c =>
      rw [q] at h
      cases h
      have hc : c ∈ s := by
        unfold M.ati at q
        cases q2 : M.ixn s.length i with
        | none => rw [q2] at q; cases q
        | some j => rw [q2] at q; exact List.mem_of_getElem? q
      exact .inr (.inr ⟨_, _, c, rfl, rfl, o1.len, q, k.here f (nw' (o1.1 c hc))⟩)
  . obtain ⟨a, vs, rfl, ha, za⟩ := hx.tup_inv
    cases hy
    obtain ⟨v, h1, h2⟩ := za.ati h
    exact .inr (.inl ⟨a, vs, _, v, rfl, rfl, seqT f.low ha, h1, k.here f h2⟩)
  . obtain ⟨a, vs, rfl, ha, za⟩ := hx.lst_inv
    cases hy
    obtain ⟨v, h1, h2⟩ := za.ati h
    exact .inl ⟨a, vs, _, v, rfl, rfl, SqL.of (f.low _ _ ha), h1, k.here f h2⟩
def xZ' (K : PySem.W.Frag) (r : V -> Option Int -> Option Int -> Hp -> VK -> Prop) : Prop := ∀ {F H : Hp} {T : List Addr} {fp : Fp} {x : V} {dx dz : M.D} {lo hi : Option Int} {Q : VK}, FpH F H fp -> Fz K F T x dx -> M.pSl dx lo hi = some dz -> ds' K F T fp dz Q -> r x lo hi H Q
theorem nH' {s : M.Tx} {lo hi : Option Int} : (∀ c ∈ M.cut s lo hi, c ∈ s) /\ (M.cut s lo hi).length <= s.length := by
  unfold M.cut
  refine ⟨fun c hc => List.mem_of_mem_drop (List.mem_of_mem_take hc), ?_⟩
  rw [List.length_take, List.length_drop]
  omega
theorem eg' : xZ' K (xM' K) := by
  intro F H T fp x dx dz lo hi Q f hx h k
  cases dx <;> try (cases h; done)
  . obtain ⟨rfl, o1⟩ := hx.str_inv
    cases h
    refine .inr (.inl ⟨_, rfl, o1.len, ?_⟩)
    have e : cutS (sx ‹M.Tx›) lo hi = sx (M.cut ‹M.Tx› lo hi) := ep' (by rw [vk']; rfl)
    rw [e]
    exact k.here f (.str (o1.sub nH'.1 nH'.2))
  . obtain ⟨a, vs, rfl, ha, za⟩ := hx.tup_inv
    cases h
    refine .inr (.inr ⟨a, vs, rfl, seqT f.low ha, fun e => ?_, fun _ p hp => k.newT f za.cutV hp⟩)
    refine k.here f ?_
    have e2 : M.cut ‹List M.D› lo hi = ‹List M.D› := by
      unfold M.cut
      rw [<- za.length]
      have e1 : M.six vs.length 0 lo = 0 := e.1
      have e3 : M.six vs.length vs.length hi = vs.length := e.2
      rw [e1, e3, List.drop_zero, Nat.sub_zero, za.length, List.take_length]
    rw [e2]
    exact .tup ha za
  . obtain ⟨a, vs, rfl, ha, za⟩ := hx.lst_inv
    cases h
    exact .inl ⟨a, vs, rfl, SqL.of (f.low _ _ ha), fun p hp => k.newL f za.cutV hp⟩
  . cases hx with
    | scr ha za =>
      cases h
      exact .inl ⟨_, _, rfl, Same.seq f.low ha, fun p hp => k.newL f za.cutV hp⟩
end
end S
namespace S
open PySem PySem.Spec PyProof.Rows L2
variable [Wd] [Hot]
section
variable {K : PySem.W.Frag} {F F' H H' : Hp} {T T' : List Addr} {fp fq fr : Fp} {ρ : M.PSt} {σ : St}
abbrev keys (fp : Fp) : List Addr := fp.map (·.1)
theorem FpH.sub (f : FpH F H fp) (hm : ∀ e ∈ fq, e ∈ fp) (hc : ∀ a, (keys fq).count a <= (keys fp).count a) : FpH F H fq := by
  refine ⟨f.low, fun e he => f.at_ e (hm e he), ?_, f.tbs fun a h1 h2 h3 => ⟨h1, rfl, fun e he => h3 e (hm e he)⟩⟩
  rw [List.nodup_iff_count]
  exact fun a => Nat.le_trans (hc a) (List.nodup_iff_count.mp f.nd a)
structure Part (a b : Fp) : Prop where
  m : ∀ e ∈ a, e ∈ b
  c : ∀ x, (keys a).count x <= (keys b).count x
theorem FpH.part (f : FpH F H fp) (p : Part fq fp) : FpH F H fq := f.sub p.m p.c
theorem Part.refl {a : Fp} : Part a a := ⟨fun _ h => h, fun _ => Nat.le_refl _⟩
theorem Part.trans {a b c : Fp} (p : Part a b) (q : Part b c) : Part a c := ⟨fun e h => q.m e (p.m e h), fun x => Nat.le_trans (p.c x) (q.c x)⟩
theorem Part.app {a b c d : Fp} (p : Part a b) (q : Part c d) : Part (a ++ c) (b ++ d) := by
  refine ⟨fun e h => ?_, fun x => ?_⟩
  . rcases List.mem_append.mp h with h | h
    . exact List.mem_append_left _ (p.m e h)
    . exact List.mem_append_right _ (q.m e h)
  . have := p.c x
    have := q.c x
    simp only [keys, List.map_append, List.count_append] at *
    omega
theorem Part.left {a b c : Fp} (p : Part a b) : Part a (b ++ c) := by
  refine ⟨fun e h => List.mem_append_left _ (p.m e h), fun x => ?_⟩
  have := p.c x
  simp only [keys, List.map_append, List.count_append] at *
  omega
theorem Part.right {a b c : Fp} (p : Part a c) : Part a (b ++ c) := by
  refine ⟨fun e h => List.mem_append_right _ (p.m e h), fun x => ?_⟩
  have := p.c x
  simp only [keys, List.map_append, List.count_append] at *
  omega
theorem Part.nil {b : Fp} : Part [] b := ⟨fun e h => (nomatch h), fun x => by simp [keys]⟩
local macro_rules | `(tactic| walk_at "parts") => `(tactic| (constructor; (intro e h; simp only [List.mem_append, List.mem_cons] at *; grind); (intro x; simp only [keys, List.map_append, List.map_cons, List.count_append, List.count_cons] at *; omega)))
theorem Part.swap {a b c : Fp} : Part (a ++ (b ++ c)) (b ++ (a ++ c)) := by walk_at "parts"
theorem RpE.get {env : List (Option M.O)} {i : Nat} {o : M.O} (r : RpE K F T σ env fp) (h : env[i]? = some (some o)) (hne : M.xI' o = true := by first | assumption | rfl) : ∃ v f1 f2 f3, σ[i]? = some (some v) /\ fp = f1 ++ (f2 ++ f3) /\ Rp K F T v o f2 ∧
    RpE K F T σ (env.set i none) (f1 ++ f3) /\ ∀ F' T' v' o' f2', Ext F T F' T' -> Rp K F' T' v' o' f2' -> RpE K F' T' (σ.set i (some v')) (env.set i (some o')) (f1 ++ (f2' ++ f3)) := by
  induction r generalizing i with
  | nil => cases h
  | off r ih =>
    cases i with
    | zero => cases h
    | succ i =>
      obtain ⟨v, f1, f2, f3, h1, rfl, h3, h4, h5⟩ := ih (i := i) h
      exact ⟨v, f1, f2, f3, h1, rfl, h3, .off h4, fun F' T' v' o' f2' e r' => .off (h5 F' T' v' o' f2' e r')⟩
  | @on v0 o0 σ env fa fb r0 r ih =>
    cases i with
    | zero =>
      have e : o0 = o := Option.some.inj (Option.some.inj h)
      subst e
      exact ⟨v0, [], fa, fb, rfl, rfl, r0, .off r, fun F' T' v' o' f2' e r' => (RpE.on r' (r.mono e) : RpE K F' T' _ _ (f2' ++ fb))⟩
    | succ i =>
      obtain ⟨v, f1, f2, f3, h1, rfl, h3, h4, h5⟩ := ih (i := i) h
      refine ⟨v, fa ++ f1, f2, f3, h1, by simp, h3, ?_, fun F' T' v' o' f2' e r' => ?_⟩
      . rw [List.append_assoc]; exact .on r0 h4
      . rw [List.append_assoc]; exact .on (r0.mono e) (h5 F' T' v' o' f2' e r')
  | hot hh z r ih =>
    cases i with
    | zero => rw [<- Option.some.inj (Option.some.inj h)] at hne; cases hne
    | succ i =>
      obtain ⟨v, f1, f2, f3, h1, rfl, h3, h4, h5⟩ := ih (i := i) h
      exact ⟨v, f1, f2, f3, h1, rfl, h3, .hot (by rw [List.length_set]; exact hh) z h4, fun F' T' v' o' f2' e r' => .hot (by rw [List.length_set]; exact hh) (z.mono' e) (h5 F' T' v' o' f2' e r')⟩
  | clo hh z r ih =>
    cases i with
    | zero => rw [<- Option.some.inj (Option.some.inj h)] at hne; cases hne
    | succ i =>
      obtain ⟨v, f1, f2, f3, h1, rfl, h3, h4, h5⟩ := ih (i := i) h
      exact ⟨v, f1, f2, f3, h1, rfl, h3, .clo (by rw [List.length_set]; exact hh) z h4, fun F' T' v' o' f2' e r' => .clo (by rw [List.length_set]; exact hh) (z.mono e) (h5 F' T' v' o' f2' e r')⟩
theorem RpE.val {env : List (Option M.O)} {i : Nat} {o : M.O} (r : RpE K F T σ env fp) (h : env[i]? = some (some o)) : ∃ v, σ[i]? = some (some v) := by
  induction r generalizing i with
  | nil => cases h
  | off r ih => cases i with
    | zero => cases h
    | succ i => exact ih (i := i) h
  | on _ r ih => cases i with
    | zero => exact ⟨_, rfl⟩
    | succ i => exact ih (i := i) h
  | hot _ _ r ih => cases i with
    | zero => exact ⟨_, rfl⟩
    | succ i => exact ih (i := i) h
  | clo _ _ r ih => cases i with
    | zero => exact ⟨_, rfl⟩
    | succ i => exact ih (i := i) h
theorem RpE.exn {env : List (Option M.O)} {i : Nat} (r : RpE K F T σ env fp) (h : env[i]? = some (some .exn)) : ∃ a n dd x, Hot.hot = some (a, n, dd, x) /\ XcR K F T x (.ref (He.ga K x.cls)) dd /\ σ[i]? = some (some (.ref a)) := by
  induction r generalizing i with
  | nil => cases h
  | off r ih => cases i with
    | zero => cases h
    | succ i => exact ih (i := i) h
  | on q r ih => cases i with
    | zero =>
      have e := Option.some.inj (Option.some.inj h)
      subst e
      cases q
    | succ i => exact ih (i := i) h
  | hot hh z r ih => cases i with
    | zero => exact ⟨_, _, _, _, hh, z, rfl⟩
    | succ i => exact ih (i := i) h
  | clo hh z r ih => cases i with
    | zero => cases h
    | succ i => exact ih (i := i) h
theorem ee' {α : Type} : ∀ {l : List α} {i : Nat} {x : α}, l[i]? = some x -> l.set i x = l
  | [], _, _, h => by cases h
  | a :: l, 0, x, h => by rw [<- Option.some.inj h]; rfl
  | a :: l, i + 1, x, h => by
    show a :: l.set i x = a :: l
    rw [ee' (l := l) (i := i) h]
theorem RpE.len {env : List (Option M.O)} (r : RpE K F T σ env fp) : σ.length = env.length := by
  induction r with
  | nil => rfl
  | off _ ih => exact congrArg (· + 1) ih
  | on _ _ ih => exact congrArg (· + 1) ih
  | hot _ _ _ ih => exact congrArg (· + 1) ih
  | clo _ _ _ ih => exact congrArg (· + 1) ih
theorem RpE.drop {env : List (Option M.O)} (r : RpE K F T σ env fp) (i : Nat) (x : Option V) : ∃ fq, RpE K F T (σ.set i x) (env.set i none) fq /\ Part fq fp := by
  induction r generalizing i with
  | nil => exact ⟨[], .nil, .refl⟩
  | @off y σ env fp r ih =>
    cases i with
    | zero => exact ⟨_, .off r, .refl⟩
    | succ i =>
      obtain ⟨fq, h1, h2⟩ := ih i
      exact ⟨fq, .off h1, h2⟩
  | @on v0 o0 σ env fa fb r0 r ih =>
    cases i with
    | zero => exact ⟨_, .off r, .right .refl⟩
    | succ i =>
      obtain ⟨fq, h1, h2⟩ := ih i
      exact ⟨_, .on r0 h1, .app .refl h2⟩
  | hot hh z r ih =>
    cases i with
    | zero => exact ⟨_, .off r, .refl⟩
    | succ i =>
      obtain ⟨fq, h1, h2⟩ := ih i
      exact ⟨fq, .hot (by rw [List.length_set]; exact hh) z h1, h2⟩
  | clo hh z r ih =>
    cases i with
    | zero => exact ⟨_, .off r, .refl⟩
    | succ i =>
      obtain ⟨fq, h1, h2⟩ := ih i
      exact ⟨fq, .clo (by rw [List.length_set]; exact hh) z h1, h2⟩
theorem RpE.drop0 {env : List (Option M.O)} (r : RpE K F T σ env fp) (i : Nat) : ∃ fq, RpE K F T σ (env.set i none) fq /\ Part fq fp := by
  induction r generalizing i with
  | nil => exact ⟨[], .nil, .refl⟩
  | @off y σ env fp r ih =>
    cases i with
    | zero => exact ⟨_, .off r, .refl⟩
    | succ i =>
      obtain ⟨fq, h1, h2⟩ := ih i
      exact ⟨fq, .off h1, h2⟩
  | @on v0 o0 σ env fa fb r0 r ih =>
    cases i with
    | zero => exact ⟨_, .off r, .right .refl⟩
    | succ i =>
      obtain ⟨fq, h1, h2⟩ := ih i
      exact ⟨_, .on r0 h1, .app .refl h2⟩
  | hot hh z r ih =>
    cases i with
    | zero => exact ⟨_, .off r, .refl⟩
    | succ i =>
      obtain ⟨fq, h1, h2⟩ := ih i
      exact ⟨fq, .hot (by rw [List.length_set]; exact hh) z h1, h2⟩
  | clo hh z r ih =>
    cases i with
    | zero => exact ⟨_, .off r, .refl⟩
    | succ i =>
      obtain ⟨fq, h1, h2⟩ := ih i
      exact ⟨fq, .clo (by rw [List.length_set]; exact hh) z h1, h2⟩
theorem RpE.put {env : List (Option M.O)} (r : RpE K F T σ env fp) {i : Nat} (hi : i < env.length) {v : V} {o : M.O} {f2 : Fp} (q : Rp K F T v o f2) :
    ∃ fq, RpE K F T (σ.set i (some v)) (env.set i (some o)) fq /\ Part fq (fp ++ f2) := by
  induction r generalizing i with
  | nil => cases hi
  | @off y σ env fp r ih =>
    cases i with
    | zero => exact ⟨_, .on q r, by walk_at "parts"⟩
    | succ i =>
      obtain ⟨fq, h1, h2⟩ := ih (i := i) (Nat.lt_of_succ_lt_succ hi)
      exact ⟨fq, .off h1, h2⟩
  | @on v0 o0 σ env fa fb r0 r ih =>
    cases i with
    | zero => exact ⟨_, .on q r, by walk_at "parts"⟩
    | succ i =>
      obtain ⟨fq, h1, h2⟩ := ih (i := i) (Nat.lt_of_succ_lt_succ hi)
      refine ⟨_, .on r0 h1, ?_⟩
      rw [List.append_assoc]
      exact .app .refl h2
  | hot hh z r ih =>
    cases i with
    | zero => exact ⟨_, .on q r, by walk_at "parts"⟩
    | succ i =>
      obtain ⟨fq, h1, h2⟩ := ih (i := i) (Nat.lt_of_succ_lt_succ hi)
      exact ⟨fq, .hot (by rw [List.length_set]; exact hh) z h1, h2⟩
  | clo hh z r ih =>
    cases i with
    | zero => exact ⟨_, .on q r, by walk_at "parts"⟩
    | succ i =>
      obtain ⟨fq, h1, h2⟩ := ih (i := i) (Nat.lt_of_succ_lt_succ hi)
      exact ⟨fq, .clo (by rw [List.length_set]; exact hh) z h1, h2⟩
theorem RpE.put0 {env : List (Option M.O)} (r : RpE K F T σ env fp) {i : Nat} {v : V} (hi : σ[i]? = some (some v)) {o : M.O} {f2 : Fp} (q : Rp K F T v o f2) :
    ∃ fq, RpE K F T σ (env.set i (some o)) fq /\ Part fq (fp ++ f2) := by
  have hl : i < env.length := by rw [<- r.len]; exact (List.getElem?_eq_some_iff.mp hi).1
  obtain ⟨fq, h1, h2⟩ := r.put hl q
  rw [ee' hi] at h1
  exact ⟨fq, h1, h2⟩
def pD' (F : Hp) : Fp -> Hp
  | [] => F
  | e :: r => upd (pD' F r) e.1 e.2
theorem dp' {a : Addr} : ∀ {fp : Fp}, a ∉ keys fp -> pD' F fp a = F a
  | [], _ => rfl
  | e :: r, h => by
    have h' : a ≠ e.1 /\ a ∉ keys r := by simpa [keys] using h
    show upd (pD' F r) e.1 e.2 a = F a
    rw [upd_ne h'.1, dp' h'.2]
theorem eh' : ∀ {fp : Fp}, (keys fp).Nodup -> ∀ e ∈ fp, pD' F fp e.1 = some e.2
  | e :: r, h, e', he => by
    obtain ⟨h1, h2⟩ := List.nodup_cons.mp h
    show upd (pD' F r) e.1 e.2 e'.1 = _
    rcases List.mem_cons.mp he with rfl | he
    . exact upd_same
    . rw [upd_ne fun z => h1 (by have q : e'.1 ∈ keys r := List.mem_map_of_mem he; rw [z] at q; exact q)]
      exact eh' h2 e' he
theorem eZ' {fp : Fp} (h : ∀ e ∈ fp, F e.1 = none) : Same F (pD' F fp) := fun a o e => by
  rw [dp' fun z => ?_]
  . exact e
  . obtain ⟨x, h1, h2⟩ := List.mem_map.mp z
    rw [<- h2, h x h1] at e
    cases e
theorem FpH.freeze {a b : Fp} (f : FpH F H (a ++ b)) : FpH (pD' F a) H b := by
  have nd : (keys a ++ keys b).Nodup := by rw [<- List.map_append]; exact f.nd
  obtain ⟨n1, n2, n3⟩ := List.nodup_append.mp nd
  refine ⟨fun p o h => ?_, fun e he => ⟨(f.at_ e (List.mem_append_right _ he)).1, ?_⟩, n2, f.tbs (fun p h1 h2 h3 => ⟨?_, rfl, fun e he => h3 e (List.mem_append_right _ he)⟩) fun c q h => is' (eZ' fun e he => (f.at_ e (List.mem_append_left _ he)).2) h⟩
  . by_cases hp : p ∈ keys a
    . obtain ⟨x, h1, rfl⟩ := List.mem_map.mp hp
      rw [eh' n1 x h1] at h
      rw [(f.at_ x (List.mem_append_left _ h1)).1]
      exact h
    . rw [dp' hp] at h
      exact f.low _ _ h
  . rw [dp' fun z => n3 _ z _ (List.mem_map_of_mem he) rfl]
    exact (f.at_ e (List.mem_append_right _ he)).2
  . rw [dp' fun z => ?_]
    . exact h1
    . obtain ⟨x, hx, e⟩ := List.mem_map.mp z
      exact h3 x (List.mem_append_left _ hx) e
mutual
theorem Rp.freeze {G : Hp} (s : Same F G) : ∀ {v : V} {o : M.O} {fp : Fp}, Rp K F T v o fp -> (∀ e ∈ fp, G e.1 = some e.2) -> Fz K G T v (M.frz o)
  | _, _, _, .fz h, _ => h.mono (.of s)
  | _, _, _, .lst r, g => .lst (g _ List.mem_cons_self) (RpA.freeze s r fun e he => g e (List.mem_cons_of_mem _ he))
  | _, _, _, .tup r, g => .tup (SqT.of (g _ List.mem_cons_self)) (RpA.freeze s r fun e he => g e (List.mem_cons_of_mem _ he))
  | _, _, _, .dct k r, g => .dct (.inl (g _ List.mem_cons_self)) k (RpA.freeze s r fun e he => g e (List.mem_cons_of_mem _ he))
  | _, _, _, .dcl k r, g => .dcl (.inl (g _ List.mem_cons_self)) k (RpA.freeze s r fun e he => g e (List.mem_cons_of_mem _ he))
  | _, _, _, .dcn k q r, g => .dcn (.inl (g _ List.mem_cons_self)) k (q.mono (.of s)) (RpA.freeze s r fun e he => g e (List.mem_cons_of_mem _ he))
theorem RpA.freeze {G : Hp} (s : Same F G) : ∀ {vs : List V} {os : List M.O} {fp : Fp}, RpA K F T vs os fp -> (∀ e ∈ fp, G e.1 = some e.2) -> FzA K G T vs (M.frzs os)
  | _, _, _, .nil, _ => .nil
  | _, _, _, .cons h r, g => .cons (Rp.freeze s h fun e he => g e (List.mem_append_left _ he)) (RpA.freeze s r fun e he => g e (List.mem_append_right _ he))
end
theorem Rp.frozen {v : V} {o : M.O} {a b : Fp} (q : Rp K F T v o a) (f : FpH F H (a ++ b)) : ∃ G, Same F G /\ Fz K G T v (M.frz o) /\ FpH G H b := by
  have s : Same F (pD' F a) := eZ' fun e he => (f.at_ e (List.mem_append_left _ he)).2
  refine ⟨_, s, q.freeze s fun e he => eh' ?_ e he, f.freeze⟩
  have nd : (keys a ++ keys b).Nodup := by rw [<- List.map_append]; exact f.nd
  exact (List.nodup_append.mp nd).1
theorem RpA.frozen {v : List V} {o : List M.O} {a b : Fp} (q : RpA K F T v o a) (f : FpH F H (a ++ b)) : ∃ G, Same F G /\ FzA K G T v (M.frzs o) /\ FpH G H b := by
  have s : Same F (pD' F a) := eZ' fun e he => (f.at_ e (List.mem_append_left _ he)).2
  refine ⟨_, s, q.freeze s fun e he => eh' ?_ e he, f.freeze⟩
  have nd : (keys a ++ keys b).Nodup := by rw [<- List.map_append]; exact f.nd
  exact (List.nodup_append.mp nd).1
theorem Rel.frozen {v : V} {o : M.O} (r : Rel K ρ σ H F T (fp ++ fr)) (q : Rp K F T v o fp) : ∃ G, Same F G /\ Fz K G T v (M.frz o) /\ Rel K ρ σ H G T fr := by
  obtain ⟨fe, fw, re, rw, f⟩ := r
  have f' : FpH F H (fp ++ (fe ++ (fw ++ fr))) := f.part (by walk_at "parts")
  obtain ⟨G, s, z, f2⟩ := q.frozen f'
  exact ⟨G, s, z, fe, fw, re.mono (.of s), rw.mono (.of s), f2⟩
theorem Rel.part {fr' : Fp} (r : Rel K ρ σ H F T fr) (p : Part fr' fr) : Rel K ρ σ H F T fr' := by
  obtain ⟨fe, fw, re, rw, f⟩ := r
  exact ⟨fe, fw, re, rw, f.part (.app .refl (.app .refl p))⟩
theorem FpH.own {p : Addr} {o : HO} (f : FpH F H fp) (hp : H p = none) : FpH F (upd H p o) ((p, o) :: fp) := by
  have np : ∀ e ∈ fp, e.1 ≠ p := fun e he => ne_of_none (f.at_ e he).1 hp
  refine ⟨fun a u h => ?_, fun e he => ?_, ?_, f.tbs fun a h1 h2 h3 => ?_⟩
  . rw [upd_ne (ne_of_none (f.low _ _ h) hp)]; exact f.low _ _ h
  . rcases List.mem_cons.mp he with rfl | he
    . exact ⟨upd_same, f.free hp⟩
    . rw [upd_ne (np e he)]; exact f.at_ e he
  . refine List.nodup_cons.mpr ⟨fun h => ?_, f.nd⟩
    obtain ⟨x, h1, h2⟩ := List.mem_map.mp h
    exact np x h1 h2
  . have ha : a ≠ p := fun z => h2 (by rw [z]; exact hp)
    refine ⟨h1, upd_ne ha, fun e he => ?_⟩
    rcases List.mem_cons.mp he with rfl | he
    . exact Ne.symm ha
    . exact h3 e he
theorem FpH.write {p : Addr} {o o' : HO} {a b : Fp} (f : FpH F H (a ++ ((p, o) :: b))) : FpH F (upd H p o') (a ++ ((p, o') :: b)) := by
  have nd : (keys a ++ (p :: keys b)).Nodup := by
    have := f.nd
    simpa [keys] using this
  obtain ⟨n1, n2, n3⟩ := List.nodup_append.mp nd
  have hp : F p = none := (f.at_ (p, o) (by simp)).2
  refine ⟨fun x u h => ?_, fun e he => ?_, ?_, f.tbs fun x h1 h2 h3 => ?_⟩
  . rw [upd_ne (fun z => by rw [z, hp] at h; cases h)]; exact f.low _ _ h
  . rcases List.mem_append.mp he with h | h
    . rw [upd_ne (n3 _ (List.mem_map_of_mem h) _ List.mem_cons_self)]
      exact f.at_ e (List.mem_append_left _ h)
    . rcases List.mem_cons.mp h with rfl | h
      . exact ⟨upd_same, hp⟩
      . rw [upd_ne (fun z => (List.nodup_cons.mp n2).1 (by have q : e.1 ∈ keys b := List.mem_map_of_mem h; rw [z] at q; exact q))]
        exact f.at_ e (List.mem_append_right _ (List.mem_cons_of_mem _ h))
  . have e : (a ++ ((p, o') :: b)).map (·.1) = keys a ++ (p :: keys b) := by simp [keys]
    rw [e]
    exact nd
  . have ha : x ≠ p := fun z => h3 (p, o) (by simp) z.symm
    refine ⟨h1, upd_ne ha, fun e he => ?_⟩
    rcases List.mem_append.mp he with h | h
    . exact h3 e (List.mem_append_left _ h)
    . rcases List.mem_cons.mp h with rfl | h
      . exact Ne.symm ha
      . exact h3 e (List.mem_append_right _ (List.mem_cons_of_mem _ h))
end
section
variable {X : Cx} {W : WX} {K : PySem.W.Frag} {pos : Pos}
theorem ac' {i j pos} : SE X W (.Constant (.int i) j pos) (M.eC (.int i)) := PE.imp pe_int fun σ H Q ⟨ρ, F, T, fr, rel, h⟩ => h _ _ _ _ .refl (.int i) rel
theorem ca' {b j pos} : SE X W (.Constant (.bool b) j pos) (M.eC (.bl b)) := PE.imp pe_bl fun σ H Q ⟨ρ, F, T, fr, rel, h⟩ => h _ _ _ _ .refl (.bl b) rel
theorem cH' {j pos} : SE X W (.Constant .none j pos) (M.eC .non) := PE.imp pe_non fun σ H Q ⟨ρ, F, T, fr, rel, h⟩ => h _ _ _ _ .refl .non rel
def vK' (s : M.Tx) : Bool := s.all (fun c => decide (c < 1114112)) && decide (s.length <= 16777216)
theorem qj' {s : M.Tx} (h : vK' s = true) : okT s := by
  unfold vK' at h
  rw [Bool.and_eq_true, List.all_eq_true] at h
  exact ⟨fun c hc => of_decide_eq_true (h.1 c hc), of_decide_eq_true h.2⟩
theorem be' {x : Str} {j pos} (s : M.Tx) (hs : x = sx s) (ho : vK' s = true) : SE X W (.Constant (.str x) j pos) (M.eC (.str s)) := by
  subst hs
  exact PE.imp pe_str fun σ H Q ⟨ρ, F, T, fr, rel, h⟩ => h _ _ _ _ .refl (.str (qj' ho)) rel
theorem yg' {e : Expr} {v : V} {d : M.D} (h : PE X e (tC v)) (z : ∀ F T, Fz X.K F T v d) : SE X W e (M.eC d) := PE.imp h fun σ H Q ⟨ρ, F, T, fr, rel, h⟩ => h _ _ _ _ .refl (z F T) rel
theorem te' {i : Nat} {σ : St} {H : Hp} {Q : VK} (h : qE K W (M.eV i) σ H Q) : tVar i σ H Q := by
  obtain ⟨ρ, F, T, fr, rel, h⟩ := h
  unfold M.eV at h
  split at h
  . rename_i d e
    obtain ⟨fe, fw, re, rw, f⟩ := id rel
    obtain ⟨v, f1, f2, f3, h1, rfl, h3, h4, h5⟩ := re.get e
    cases h3 with
    | fz z => exact ⟨v, h1, h v H F T .refl z rel⟩
  . exact h.elim
  . exact h.elim
  . rename_i o _ hne hnc e
    obtain ⟨fe, fw, re, rw, f⟩ := rel
    obtain ⟨v, f1, f2, f3, h1, rfl, h3, h4, h5⟩ := re.get e (M.ik' (fun z => hne (by rw [z])) fun z => hnc (by rw [z]))
    have f' : FpH F H (f2 ++ (f1 ++ f3 ++ (fw ++ fr))) := f.part (by refine ⟨fun e h => ?_, fun x => ?_⟩; (simp only [List.mem_append] at *; grind); (simp only [keys, List.map_append, List.count_append] at *; omega))
    obtain ⟨G, s, z, fG⟩ := h3.frozen f'
    have re' := h5 G T v (.fz (M.frz o)) [] (.of s) (.fz z)
    rw [ee' h1] at re'
    exact ⟨v, h1, h v H G T (.of s) z ⟨_, fw, re', rw.mono (.of s), by simpa using fG⟩⟩
  . exact h.elim
theorem ad' {e : Expr} {i : Nat} (h : PE X e (tVar i)) : SE X W e (M.eV i) := PE.imp h fun _ _ _ => te'
variable {a b c : Expr} {ma mb mc : M.ME} {σ : St} {H : Hp} {Q : VK}
theorem f6' {f : M.D -> M.D -> Option M.D} {r : R2} (hf : Op2 K f r) (h : qE K W (M.eOp f ma mb) σ H Q) : tOp r (qE K W ma) (qE K W mb) σ H Q := by
  obtain ⟨ρ, F, T, fr, rel, h⟩ := h
  refine aF' rel h fun dx ρ1 v H1 F1 T1 e1 z1 r1 h1 => ?_
  refine aF' r1 h1 fun dy ρ2 u H2 F2 T2 e2 z2 r2 h2 => ?_
  obtain ⟨dz, ez, q⟩ := a4'.ofO h2
  obtain ⟨fp, f2, back⟩ := r2.fp
  exact hf f2 (z1.mono e2) z2 ez fun v' H3 F3 s zz f3 => q v' H3 F3 T2 (e1.trans (e2.trans (.of s))) zz (back H3 F3 s f3)
theorem at' {op : Operator} {f : M.D -> M.D -> Option M.D} {r : R2} (ho : OpR X (binaryOp op) r) (hf : Op2 X.K f r) (ha : SE X W a ma) (hb : SE X W b mb) : SE X W (.BinOp a op b pos) (M.eOp f ma mb) := PE.imp (pe_op ho ha hb) fun _ _ _ => f6' hf
theorem g6' {op : CmpOp} {f : M.D -> M.D -> Option M.D} {r : R2} (ho : OpR X (compareOp op) r) (hf : Op2 X.K f r) (hm : behindInMarks op b = false) (ha : SE X W a ma) (hb : SE X W b mb) : SE X W (.Compare a [op] [b] pos) (M.eOp f ma mb) := PE.imp (pe_cmpR ho ha hb hm) fun _ _ _ => f6' hf
theorem cF' {f : M.D -> M.D -> Option M.D} {r : R2} (ho : IxR X r) (hf : Op2 X.K f r) (ha : SE X W a ma) (hb : SE X W b mb) (hs : PlainIx b) : SE X W (.Subscript a b pos) (M.eOp f ma mb) := PE.imp (pe_ix ho ha hb hs) fun _ _ _ => f6' hf
theorem qR' {f : M.D -> Option M.D} {r : V -> Hp -> VK -> Prop} (hf : Op1 K f r) (h : qE K W (M.eUn f ma) σ H Q) : tUn r (qE K W ma) σ H Q := by
  obtain ⟨ρ, F, T, fr, rel, h⟩ := h
  refine aF' rel h fun dx ρ1 v H1 F1 T1 e1 z1 r1 h1 => ?_
  obtain ⟨dz, ez, q⟩ := a4'.ofO h1
  obtain ⟨fp, f2, back⟩ := r1.fp
  exact hf f2 z1 ez fun v' H3 F3 s zz f3 => q v' H3 F3 T1 (e1.trans (.of s)) zz (back H3 F3 s f3)
theorem ts' {op : UnaryOp} {f : M.D -> Option M.D} {r : V -> Hp -> VK -> Prop} (ho : UnR X (unaryOp op) r) (hf : Op1 X.K f r) (ha : SE X W a ma) : SE X W (.UnaryOp op a pos) (M.eUn f ma) := PE.imp (pe_un ho ha) fun _ _ _ => qR' hf
theorem a4'.asB {d : M.D} {ρ : M.PSt} {P : Bool -> M.PSt -> Prop} {Y : Wx} (h : a4' (M.asB d ρ) P Y) : ∃ b, d = .bl b /\ P b ρ := by
  cases d <;> first | exact h.elim | exact ⟨_, rfl, h⟩
theorem k8' {f g : M.D -> M.D -> Option M.D} {r r' : R2} (hf : Op2 K f r) (hg : Op2 K g r') (h : qE K W (M.eP' f g ma mb mc) σ H Q) : tChain r r' (qE K W ma) (qE K W mb) (qE K W mc) σ H Q := by
  obtain ⟨ρ, F, T, fr, rel, h⟩ := h
  refine aF' rel h fun dx ρ1 v H1 F1 T1 e1 z1 r1 h1 => ?_
  refine aF' r1 h1 fun dy ρ2 u H2 F2 T2 e2 z2 r2 h2 => ?_
  obtain ⟨dz, ez, h3⟩ := a4'.ofO (a4'.bind h2)
  obtain ⟨fp, f2, back⟩ := r2.fp
  refine hf f2 (z1.mono e2) z2 ez fun v' H3 F3 s zz f3 => ?_
  have h4 := a4'.bind h3
  obtain ⟨k, rfl, h5⟩ := a4'.asB h4
  refine ⟨k, zz.bl_inv, ?_⟩
  have r3 := back H3 F3 s f3
  cases k with
  | true =>
    rw [if_pos rfl] at h5 ⊢
    refine aF' r3 (h5.mono (fun _ _ z => z) fun _ _ z => z.mono (.of s)) fun dw ρ4 w' H4 F4 T4 e4 z4 r4 h6 => ?_
    obtain ⟨dz, ez, q⟩ := a4'.ofO h6
    obtain ⟨fp, f4, back⟩ := r4.fp
    exact hg f4 ((z2.mono (.of s)).mono e4) z4 ez fun v' H5 F5 s5 zz f5 => q v' H5 F5 T4 (e1.trans (e2.trans ((Ext.of s).trans (e4.trans (.of s5))))) zz (back H5 F5 s5 f5)
  | false =>
    rw [if_neg Bool.false_ne_true] at h5 ⊢
    exact h5 _ H3 F3 T2 (e1.trans (e2.trans (.of s))) (.bl false) r3
variable {rest : List Expr}
theorem g7' (ha : SE X W a ma) (hb : SE X W (.BoolOp .And (b :: rest) pos) mb) : SE X W (.BoolOp .And (a :: b :: rest) pos) (M.nD' ma mb) := PE.imp (pe_and ha hb) fun σ H Q ⟨ρ, F, T, fr, rel, h⟩ => by
  refine aF' rel h fun dx ρ1 v H1 F1 T1 e1 z1 r1 h1 => ?_
  obtain ⟨k, rfl, h2⟩ := a4'.asB (a4'.bind h1)
  refine ⟨k, z1.bl_inv, ?_⟩
  cases k with
  | true => rw [if_pos rfl] at h2 ⊢; exact ⟨ρ1, F1, T1, fr, r1, h2.mono (fun _ _ z v H' F' T' e => z v H' F' T' (e1.trans e)) fun _ _ z => z⟩
  | false => rw [if_neg Bool.false_ne_true] at h2 ⊢; exact h2 _ _ _ _ e1 (.bl false) r1
theorem kf' {op} (ha : SE X W a ma) : SE X W (.BoolOp op [a] pos) ma := pe_one ha
theorem p9' (ha : SE X W a ma) : SE X W (.UnaryOp .Not a pos) (M.sH' ma) := PE.imp (pe_not ha) fun σ H Q ⟨ρ, F, T, fr, rel, h⟩ => by
  refine aF' rel h fun dx ρ1 v H1 F1 T1 e1 z1 r1 h1 => ?_
  obtain ⟨k, rfl, h2⟩ := a4'.asB (a4'.bind h1)
  exact ⟨k, z1.bl_inv, h2 _ _ _ _ e1 (.bl _) r1⟩
variable {mt mu : M.MT}
theorem kc' (ha : SE X W a ma) (he : ∀ whole, isTrue a X.env whole = (do let v ← whole; standAt a.pos; holding [v] (truthy v)) := by intro _; rfl) : ST X W a (M.tE ma) := PT.imp (pt_val ha he) fun σ H Q ⟨ρ, F, T, fr, rel, h⟩ => by
  refine aF' rel h fun dx ρ1 v H1 F1 T1 e1 z1 r1 h1 => ?_
  obtain ⟨k, rfl, h2⟩ := a4'.asB h1
  exact ⟨k, z1.bl_inv, h2 _ _ _ e1 r1⟩
theorem ao' {op : CmpOp} {f : M.D -> M.D -> Option M.D} {r : R2} (ho : OpR X (compareOp op) r) (hf : Op2 X.K f r) (hm : behindInMarks op b = false) (ha : SE X W a ma) (hb : SE X W b mb) : ST X W (.Compare a [op] [b] pos) (M.tE (M.eOp f ma mb)) :=
  PT.imp (pt_cmpR ho ha hb hm) fun σ H Q ⟨ρ, F, T, fr, rel, h⟩ => by
    show tOp r (qE X.K W ma) (qE X.K W mb) σ H fun x H' => ∃ k, x = .bl k /\ Q k H'
    refine f6' hf ⟨ρ, F, T, fr, rel, (a4'.bind h).mono (fun d ρ1 h1 v H1 F1 T1 e z r => ?_) fun _ _ z => z⟩
    obtain ⟨k, rfl, h2⟩ := a4'.asB h1
    exact ⟨k, z.bl_inv, h2 _ _ _ e r⟩
theorem kd' {op op' : CmpOp} {f g : M.D -> M.D -> Option M.D} {r r' : R2} (ho : OpR X (compareOp op) r) (hf : Op2 X.K f r) (ho' : OpR X (compareOp op') r') (hg : Op2 X.K g r') (ha : SE X W a ma) (hb : SE X W b mb) (hc : SE X W c mc)
    (hm : lastMarks [op, op'] [b, c] = false := by with_unfolding_all rfl) : ST X W (.Compare a [op, op'] [b, c] pos) (M.tE (M.eP' f g ma mb mc)) := PT.imp (pt_chain ho ho' ha hb hc hm) fun σ H Q ⟨ρ, F, T, fr, rel, h⟩ => by
    show tChain r r' (qE X.K W ma) (qE X.K W mb) (qE X.K W mc) σ H fun x H' => ∃ k, x = .bl k /\ Q k H'
    refine k8' hf hg ⟨ρ, F, T, fr, rel, (a4'.bind h).mono (fun d ρ1 h1 v H1 F1 T1 e z r => ?_) fun _ _ z => z⟩
    obtain ⟨k, rfl, h2⟩ := a4'.asB h1
    exact ⟨k, z.bl_inv, h2 _ _ _ e r⟩
abbrev SW (X : Cx) (W : WX) (e : Expr) (m : M.MT) : Prop := PW X e (qT X.K W m)
theorem fV' (ha : ST X W a mt) : SW X W (.BoolOp .And [a] pos) mt := pw_and1 ha
theorem cG' (ha : ST X W a mt) : SW X W (.BoolOp .Or [a] pos) mt := pw_or1 ha
theorem j7' (ha : ST X W a mt) (hb : SW X W (.BoolOp .And (b :: rest) pos) mu) : SW X W (.BoolOp .And (a :: b :: rest) pos) (M.p5' mt mu) := PW.imp (pw_and ha hb) fun σ H Q ⟨ρ, F, T, fr, rel, h⟩ => by
  refine iu' rel h fun k ρ1 H1 F1 T1 e1 r1 h1 => ?_
  cases k with
  | true => rw [if_pos rfl] at h1 ⊢; exact ⟨ρ1, F1, T1, fr, r1, h1.mono (fun _ _ z H' F' T' e => z H' F' T' (e1.trans e)) fun _ _ z => z⟩
  | false => rw [if_neg Bool.false_ne_true] at h1 ⊢; exact h1 _ _ _ e1 r1
theorem cX' (ha : ST X W a mt) (hb : SW X W (.BoolOp .Or (b :: rest) pos) mu) : SW X W (.BoolOp .Or (a :: b :: rest) pos) (M.tOr mt mu) := PW.imp (pw_or ha hb) fun σ H Q ⟨ρ, F, T, fr, rel, h⟩ => by
  refine iu' rel h fun k ρ1 H1 F1 T1 e1 r1 h1 => ?_
  cases k with
  | true => rw [if_pos rfl] at h1 ⊢; exact h1 _ _ _ e1 r1
  | false => rw [if_neg Bool.false_ne_true] at h1 ⊢; exact ⟨ρ1, F1, T1, fr, r1, h1.mono (fun _ _ z H' F' T' e => z H' F' T' (e1.trans e)) fun _ _ z => z⟩
theorem ka' (h : SW X W a mt) : ST X W a mt := PW.pt h
theorem bE' (ha : ST X W a mt) : ST X W (.UnaryOp .Not a pos) (M.fz' mt) := PT.imp (pt_not ha) fun σ H Q ⟨ρ, F, T, fr, rel, h⟩ => iu' rel h fun k ρ1 H1 F1 T1 e1 r1 h1 => h1 _ _ _ e1 r1
variable {es : List Expr} {as : M.MA}
theorem ag' : SA X W [] M.ba' := PA.imp pa_nil fun σ H Q ⟨ρ, F, T, fr, rel, h⟩ => h [] H F T .refl .nil rel
theorem aa' (ha : SE X W a ma) (hr : SA X W es as) (hs : starEach (a :: es) X.env = (false, eval a X.env) :: starEach es X.env := by rfl) : SA X W (a :: es) (M.ae' ma as) := PA.imp (pa_cons ha hr hs) fun σ H Q ⟨ρ, F, T, fr, rel, h⟩ => by
  refine aF' rel h fun dx ρ1 v H1 F1 T1 e1 z1 r1 h1 => ?_
  refine cb' r1 h1 fun ds ρ2 vs H2 F2 T2 e2 z2 r2 h2 => ?_
  exact h2 _ _ _ _ (e1.trans e2) (.cons (z1.mono e2) z2) r2
theorem eu' {k} (h : SA X W es as) : SE X W (.Tuple es k pos) (M.nC' as) := PE.imp (pe_tup h) fun σ H Q ⟨ρ, F, T, fr, rel, h⟩ => by
  refine cb' rel h fun ds ρ1 vs H1 F1 T1 e1 z1 r1 h1 => ?_
  split at h1
  . rename_i hl
    refine ⟨by rw [z1.length, bD']; exact hl, fun p hp => ?_⟩
    obtain ⟨fp, f, back⟩ := r1.fp
    have s : Same F1 (upd F1 p (.tup vs)) := bO' (f.free hp)
    exact h1 _ _ _ _ (e1.trans (.of s)) (.tup (SqT.of upd_same) (z1.mono (.of s))) (back _ _ s (f.new hp))
  . exact h1.elim
theorem cZ' (h : SA X W es as) : SE X W (.List es pos) (M.hH' as) := PE.imp (pe_lst h) fun σ H Q ⟨ρ, F, T, fr, rel, h⟩ => by
  refine cb' rel h fun ds ρ1 vs H1 F1 T1 e1 z1 r1 h1 => ?_
  split at h1
  . rename_i hl
    refine ⟨by rw [z1.length, bD']; exact hl, fun p hp => ?_⟩
    obtain ⟨fp, f, back⟩ := r1.fp
    have s : Same F1 (upd F1 p (.lst vs)) := bO' (f.free hp)
    exact h1 _ _ _ _ (e1.trans (.of s)) (.lst upd_same (z1.mono (.of s))) (back _ _ s (f.new hp))
  . exact h1.elim
abbrev SP_ (X : Cx) (W : WX) (e : Option Expr) (m : M.MP) : Prop := PO X e (qP X.K W m)
theorem bJ' : SP_ X W none M.pNo := PO.imp po_none fun σ H Q ⟨ρ, F, T, fr, rel, h⟩ => h _ _ _ .refl rel
theorem bB' (ha : SE X W a ma) : SP_ X W (some a) (M.pSo ma) := PO.imp (po_some ha) fun σ H Q ⟨ρ, F, T, fr, rel, h⟩ => by
  refine aF' rel h fun dx ρ1 v H1 F1 T1 e1 z1 r1 h1 => ?_
  split at h1
  . exact ⟨_, z1.int_inv, h1 _ _ _ e1 r1⟩
  . exact h1.elim
theorem bF' {r : V -> Option Int -> Option Int -> Hp -> VK -> Prop} {lo hi : Option Expr} {ml mh : M.MP} {p2 : Pos} (ho : SlR X r) (hf : xZ' X.K r) (ha : SE X W a ma) (hl : SP_ X W lo ml) (hh : SP_ X W hi mh) : SE X W (.Subscript a (.Slice lo hi none p2) pos) (M.eSl ma ml mh) :=
  PE.imp (pe_slice ho ha hl hh) fun σ H Q ⟨ρ, F, T, fr, rel, h⟩ => by
    refine aF' rel h fun dx ρ1 v H1 F1 T1 e1 z1 r1 h1 => ?_
    refine mY' r1 h1 fun l ρ2 H2 F2 T2 e2 r2 h2 => ?_
    refine mY' r2 h2 fun u ρ3 H3 F3 T3 e3 r3 h3 => ?_
    obtain ⟨dz, ez, q⟩ := a4'.ofO h3
    obtain ⟨fp, f3, back⟩ := r3.fp
    exact hf f3 ((z1.mono e2).mono e3) ez fun v' H4 F4 s zz f4 => q v' H4 F4 T3 (e1.trans (e2.trans (e3.trans (.of s)))) zz (back H4 F4 s f4)
end
end S
namespace S
open PySem PySem.Spec PyProof.Rows L2
variable [Wd]
section
variable (K : PySem.W.Frag) (H : Hp)
mutual
inductive NkV : V -> NestedKey -> Prop
  | non : NkV .non .none
  | bl (b : Bool) : NkV (.bl b) (.num (if b = true then 1 else 0))
  | int (i : Int) : NkV (.int i) (.num i)
  | str (x : Str) : NkV (.str x) (.text x)
  | tup {a : Addr} {vs : List V} {ks : List NestedKey} : SqT K H a vs -> NkVs vs ks -> NkV (.ref a) (.tup ks)
inductive NkVs : List V -> List NestedKey -> Prop
  | nil : NkVs [] []
  | cons {v : V} {vs : List V} {k : NestedKey} {ks : List NestedKey} : NkV v k -> NkVs vs ks -> NkVs (v :: vs) (k :: ks)
end
end
section
variable {X : Cx} {pins : List (Addr × Obj)} {σ : St} {H : Hp} {s : Shared}
mutual
theorem NkV.is (I : Inv X pins σ H s) : ∀ {v : V} {k : NestedKey} {u : Value}, NkV X.K H v k -> RelV v u -> NestedIs s.heap k u
  | _, _, _, .non, r => by cases (show _ = Value.none from r); exact .none
  | _, _, _, .bl b, r => by cases (show _ = Value.bool b from r); exact .bool rfl
  | _, _, _, .int i, r => by obtain ⟨t, e⟩ := (show ∃ t, _ = Value.int i t from r); subst e; exact .int i t
  | _, _, _, .str x, r => by obtain ⟨t, e⟩ := (show ∃ t, _ = Value.str x t from r); subst e; exact .text x t
  | _, _, _, .tup (a := a) h q, r => by
    cases (show _ = Value.ref a from r)
    obtain ⟨its, rv, ⟨o, h1, h2, n, h3⟩, _⟩ := I.tuple h
    exact .tup h1 h2 h3 (NkVs.is I q rv)
theorem NkVs.is (I : Inv X pins σ H s) : ∀ {v : List V} {k : List NestedKey} {u : List Value}, NkVs X.K H v k -> Vals v u -> NestedAll s.heap k u
  | _, _, _, .nil, r => by cases r; exact .nil
  | _, _, _, .cons a q, r => by
    cases r with
    | cons ra rq => exact .cons (NkV.is I a ra) (NkVs.is I q rq)
end
end
section
variable {K : PySem.W.Frag} {F H : Hp} {T : List Addr}
mutual
theorem Fz.nk (s : Same F H) : ∀ {v : V} {d : M.D}, Fz K F T v d -> M.kat d = true -> NkV K H v (nk d)
  | _, _, .non, _ => .non
  | _, _, .bl b, _ => .bl b
  | _, _, .int i, _ => .int i
  | _, _, .str h, _ => .str _
  | _, _, .tup h r, e => .tup (seqT s h) (FzA.nk s r e)
  | _, _, .lst h r, e => by cases e
  | _, _, .dct h _ r, e => by cases e
  | _, _, .dcl h k r, e => by cases e
  | _, _, .dcn h k q r, e => by cases e
  | _, _, .rep d, e => by cases e
  | _, _, .obj h, e => by cases e
  | _, _, .ty n, e => by cases e
  | _, _, .fn x, e => by cases e
  | _, _, .scr h r, e => by cases e
theorem FzA.nk (s : Same F H) : ∀ {vs : List V} {ds : List M.D}, FzA K F T vs ds -> M.kats ds = true -> NkVs K H vs (nks ds)
  | _, _, .nil, _ => .nil
  | _, _, .cons h r, e => by
    obtain ⟨e1, e2⟩ := Bool.and_eq_true_iff.mp (show (M.kat _ && M.kats _) = true from e)
    exact .cons (Fz.nk s h e1) (FzA.nk s r e2)
end
def lfV : V -> Option Leaf
  | .non => some .none
  | .bl b => some (.num (if b = true then 1 else 0))
  | .int i => some (.num i)
  | .str x => some (.text x)
  | _ => none
end
section
variable {κ : Type} [DecidableEq κ]
end
abbrev xsV (xs : List (NestedKey × Addr × V)) : List (NestedKey × V) := xs.map fun x => (x.1, x.2.2)
def vO' (K : PySem.W.Frag) (H : Hp) (xs : List (NestedKey × Addr × V)) : Prop := ∀ x ∈ xs, NkV K H (.ref x.2.1) x.1 /\ x.1.depth <= 8
inductive DLk (K : PySem.W.Frag) (H : Hp) (a : Addr) : V -> Option V -> Prop
  | k {kvs : List (Key × V)} (k : Key) : Rd H a (.dK kvs) -> DLk K H a (kV k) (valV kvs k)
  | l {kvs : List (Leaf × V)} {y : V} {l : Leaf} : Rd H a (dcL a kvs) -> lfV y = some l -> DLk K H a y (valV kvs l)
  | n {xs : List (NestedKey × Addr × V)} {b : Addr} {k : NestedKey} : Rd H a (dcN a xs) -> vO' K H xs -> NkV K H (.ref b) k -> k.depth <= 8 -> DLk K H a (.ref b) (valV (xsV xs) k)
  | ln {b : Addr} {k : NestedKey} : Rd H a (dcL a []) -> NkV K H (.ref b) k -> k.depth <= 8 -> DLk K H a (.ref b) none
  | nl {y : V} {l : Leaf} : Rd H a (dcN a []) -> lfV y = some l -> DLk K H a y none
section
variable {X : Cx} {pins : List (Addr × Obj)} {σ : St} {H : Hp} {s : Shared} {a b : Addr} {y : V} {u : Value} {ov : Option V} {A : Around} {E : Value -> Shared -> Prop}
theorem tC' {u : HO} (I : Inv X pins σ H s) (h : Rd H a u) : ObjOk X.prog X.w H s.heap a u := by
  rcases h with h | ⟨o, h⟩
  . exact I.hok a _ h
  . exact (show ObjOk X.prog X.w H s.heap a (.frz o u) from I.hok a _ h).2
theorem uD' (hw : X.prog = Wd.P /\ X.w = Wd.w) (I : Inv X pins σ H s) {kvs : List (Leaf × V)} (h : Rd H a (dcL a kvs)) : (a == sysModules) = false /\ kvs.length <= sizeLine /\ ∃ vs, KV kvs vs /\ s.heap.DictOf (leafKind X.prog X.w) a vs := by
  obtain ⟨⟨h1, h2, vs, h3, h4⟩, _⟩ := (show ObjOk X.prog X.w H s.heap a (dcL a kvs) from tC' I h)
  refine ⟨h1, h2, vs, h3, ?_⟩
  rw [<- hw.1, <- hw.2] at h4
  exact h4
def vH' (xs : List (NestedKey × Addr × V)) (k : NestedKey) (b : Addr) (v : V) : List (NestedKey × Addr × V) :=
  if (xs.any fun x => decide (x.1 = k)) = true then xs.map (fun x => if x.1 = k then (x.1, x.2.1, v) else x) else xs ++ [(k, b, v)]
inductive DSt (K : PySem.W.Frag) (H : Hp) (a : Addr) (y v : V) (N : Hp -> Prop) : Prop
  | k {kvs : List (Key × V)} (k : Key) : H a = some (.dK kvs) -> y = kV k -> ((kvs.map (·.1)).Nodup -> (kvs.length <= sizeLine -> (putK kvs k v).length <= sizeLine) /\ N (upd H a (.dK (putK kvs k v)))) -> DSt K H a y v N
  | l {kvs : List (Leaf × V)} {l : Leaf} : H a = some (dcL a kvs) -> lfV y = some l -> ((kvs.map (·.1)).Nodup -> (kvs.length <= sizeLine -> (putK kvs l v).length <= sizeLine) /\ N (upd H a (dcL a (putK kvs l v)))) -> DSt K H a y v N
  | n {xs : List (NestedKey × Addr × V)} {b : Addr} {k : NestedKey} : H a = some (dcN a xs) -> vO' K H xs -> y = .ref b -> NkV K H (.ref b) k -> k.depth <= 8 -> ((xs.map (·.1)).Nodup -> (xs.length <= sizeLine -> (vH' xs k b v).length <= sizeLine) /\ N (upd H a (dcN a (vH' xs k b v)))) -> DSt K H a y v N
  | ln {b : Addr} {k : NestedKey} : H a = some (dcL a []) -> y = .ref b -> NkV K H (.ref b) k -> k.depth <= 8 -> N (upd H a (dcN a [(k, b, v)])) -> DSt K H a y v N
  | nl {l : Leaf} : H a = some (dcN a []) -> lfV y = some l -> N (upd H a (dcL a [(l, v)])) -> DSt K H a y v N
def rf' (K : PySem.W.Frag) : List V -> Hp -> VK -> Prop := fun xs H Q => tL' K xs H Q \/ (∃ a kvs, xs = [V.ref a] /\ Rd H a (dcL a kvs) /\ Q (.int kvs.length) H) \/ ∃ a ys, xs = [V.ref a] /\ Rd H a (dcN a ys) /\ Q (.int ys.length) H
theorem aq' (hw : X.prog = Wd.P /\ X.w = Wd.w) : CallR X (.builtin "len") (rf' X.K) := by
  intro pins s σ H vs us Q I r h
  rcases h with h | ⟨a, kvs, rfl, e, q⟩ | ⟨a, xs, rfl, e, q⟩
  . exact nJ' pins s σ H vs us Q I r h
  . cases r with
    | cons ra rn =>
      cases rn
      cases (show _ = Value.ref a from ra)
      obtain ⟨hd, z, ws, rel, dd⟩ := uD' hw I e
      refine call_len_dict hd dd (by rw [<- rel.length]; rw [sizeLine_eq] at z; omega) ?_
      rw [<- rel.length]
      exact ⟨.int kvs.length, H, I.tok _, ⟨_, rfl⟩, q⟩
  . cases r with
    | cons ra rn =>
      cases rn
      cases (show _ = Value.ref a from ra)
      obtain ⟨⟨hd, z, _, ys, rel, o, es, ep, g1, g2, g3, g4⟩, _⟩ := (show ObjOk X.prog X.w H s.heap a (dcN a xs) from tC' I e)
      have hl : es.size = xs.length := by
        have := congrArg List.length g4
        rw [List.length_map, <- Paired.length rel, Array.length_toList] at this
        exact this
      refine PyProof.Rows.call_len_slot (n := es.size) (show s.TypeIs (.ref a) "dict" from ⟨o, g1, g2.1⟩) PySem.F.slot_dict_len (fun Q' hq => call_len_raw hd ⟨o, g1, g2, g3⟩ hq) (by omega) (by rw [sizeLine_eq] at z; omega) ?_
      rw [hl]
      exact ⟨.int xs.length, H, I.tok _, ⟨_, rfl⟩, q⟩
end
end S
namespace S
open PySem PySem.Spec PyProof.Rows L2
variable [Wd] [Hot]
section
variable (K : PySem.W.Frag)
def Bi1 (f : M.D -> Option M.D) (r : List V -> Hp -> VK -> Prop) : Prop := ∀ {F H : Hp} {T : List Addr} {fp : Fp} {x : V} {dx dz : M.D} {Q : VK}, FpH F H fp -> Fz K F T x dx -> f dx = some dz -> ds' K F T fp dz Q -> r [x] H Q
def Bi2 (f : M.D -> M.D -> Option M.D) (r : List V -> Hp -> VK -> Prop) : Prop := ∀ {F H : Hp} {T : List Addr} {fp : Fp} {x y : V} {dx dy dz : M.D} {Q : VK}, FpH F H fp -> Fz K F T x dx -> Fz K F T y dy -> f dx dy = some dz -> ds' K F T fp dz Q -> r [x, y] H Q
end
section
variable {X : Cx} {W : WX} {K : PySem.W.Frag} {pos p : Pos} {x : Str} {id : String} {a b : Expr} {ma mb : M.ME} {σ : St} {H : Hp} {Q : VK} {r : List V -> Hp -> VK -> Prop}
theorem nQ' {f : M.D -> Option M.D} (hf : Bi1 K f r) (h : qE K W (M.eUn f ma) σ H Q) : tCB r (tCons (qE K W ma) tNil) σ H Q := by
  obtain ⟨ρ, F, T, fr, rel, h⟩ := h
  refine aF' rel h fun dx ρ1 v H1 F1 T1 e1 z1 r1 h1 => ?_
  obtain ⟨dz, ez, q⟩ := a4'.ofO h1
  obtain ⟨fp, f2, back⟩ := r1.fp
  exact hf f2 z1 ez fun v' H3 F3 s zz f3 => q v' H3 F3 T1 (e1.trans (.of s)) zz (back H3 F3 s f3)
theorem sr' {f : M.D -> M.D -> Option M.D} (hf : Bi2 K f r) (h : qE K W (M.eOp f ma mb) σ H Q) : tCB r (tCons (qE K W ma) (tCons (qE K W mb) tNil)) σ H Q := by
  obtain ⟨ρ, F, T, fr, rel, h⟩ := h
  refine aF' rel h fun dx ρ1 v H1 F1 T1 e1 z1 r1 h1 => ?_
  refine aF' r1 h1 fun dy ρ2 u H2 F2 T2 e2 z2 r2 h2 => ?_
  obtain ⟨dz, ez, q⟩ := a4'.ofO h2
  obtain ⟨fp, f2, back⟩ := r2.fp
  exact hf f2 (z1.mono e2) z2 ez fun v' H3 F3 s zz f3 => q v' H3 F3 T2 (e1.trans (e2.trans (.of s))) zz (back H3 F3 s f3)
theorem bh' {f : M.D -> Option M.D} (hc : CallR X (.builtin id) r) (hf : Bi1 X.K f r) (hg : Gl X x) (hm : X.mg x = none) (hv : bootBuiltins x = some (.builtin id)) (ha : SE X W a ma) (hn : x ≠ "__name__" := by decide) (hdb : (x == ("__debug__" : Str)) = false := by decide)
    (he : starEach [a] X.env = (false, eval a X.env) :: starEach [] X.env := by rfl) (hpl : (backTo pos (starEach [] X.env)).any (·.1) = false := by rfl) : SE X W (.Call (.Name x p) [a] [] pos) (M.eUn f ma) := PE.imp (pe_callB hc hg hm hv (pa_cons ha pa_nil he) hn hdb he hpl) fun _ _ _ => nQ' hf
theorem bX' {f : M.D -> Option M.D} (hc : CallR X (.type id) r) (hf : Bi1 X.K f r) (hg : Gl X x) (hm : X.mg x = none) (hv : bootBuiltins x = some (.type id)) (ha : SE X W a ma) (hn : x ≠ "__name__" := by decide) (hdb : (x == ("__debug__" : Str)) = false := by decide)
    (he : starEach [a] X.env = (false, eval a X.env) :: starEach [] X.env := by rfl) (hpl : (backTo pos (starEach [] X.env)).any (·.1) = false := by rfl) : SE X W (.Call (.Name x p) [a] [] pos) (M.eUn f ma) := PE.imp (pe_callTy hc hg hm hv (pa_cons ha pa_nil he) hn hdb he hpl) fun _ _ _ => nQ' hf
theorem ip' {f : M.D -> M.D -> Option M.D} (hc : CallR X (.builtin id) r) (hf : Bi2 X.K f r) (hg : Gl X x) (hm : X.mg x = none) (hv : bootBuiltins x = some (.builtin id)) (ha : SE X W a ma) (hb : SE X W b mb) (hn : x ≠ "__name__" := by decide) (hdb : (x == ("__debug__" : Str)) = false := by decide)
    (he : starEach [a, b] X.env = (false, eval a X.env) :: starEach [b] X.env := by rfl) (he2 : starEach [b] X.env = (false, eval b X.env) :: starEach [] X.env := by rfl) (hpl : (backTo pos (starEach [b] X.env)).any (·.1) = false := by rfl) : SE X W (.Call (.Name x p) [a, b] [] pos) (M.eOp f ma mb) := PE.imp (pe_callB hc hg hm hv (pa_cons ha (pa_cons hb pa_nil he2) he) hn hdb he hpl) fun _ _ _ => sr' hf
theorem qb' {F H : Hp} {a : Addr} {u : HO} (s : Same F H) (h : Rd F a u) : Rd H a u := h.imp (s _ _) fun ⟨o, h⟩ => ⟨o, s _ _ h⟩
theorem bx' : Bi1 K M.b9' (rf' K) := by
  intro F H T fp x dx dz Q f hx h k
  by_cases hX : ∃ ks vs, dx = .dcx ks vs
  . obtain ⟨ks, vs, rfl⟩ := hX
    cases h
    cases hx with
    | @dcl a kvs _ _ e ke z =>
      have q : kvs.length = ks.length := by have := congrArg List.length ke.e; simpa using this
      refine .inr (.inl ⟨_, _, rfl, e.imp (f.low _ _) fun ⟨o, h⟩ => ⟨o, f.low _ _ h⟩, ?_⟩)
      rw [q]
      exact k.here f (.int _)
    | @dcn a xs _ _ e ke z1 z2 =>
      have q : xs.length = ks.length := by have := congrArg List.length ke.e; simpa using this
      refine .inr (.inr ⟨_, _, rfl, e.imp (f.low _ _) fun ⟨o, h⟩ => ⟨o, f.low _ _ h⟩, ?_⟩)
      rw [q]
      exact k.here f (.int _)
  refine .inl ?_
  cases dx <;> try (cases h; done)
  . obtain ⟨rfl, o1⟩ := hx.str_inv
    cases h
    refine .inl ⟨_, rfl, o1.len, ?_⟩
    rw [bV']
    exact k.here f (.int _)
  . obtain ⟨a, vs, rfl, ha, za⟩ := hx.tup_inv
    cases h
    refine .inr (.inl ⟨a, vs, rfl, .inr (seqT f.low ha), ?_⟩)
    rw [za.length]
    exact k.here f (.int _)
  . obtain ⟨a, vs, rfl, ha, za⟩ := hx.lst_inv
    cases h
    refine .inr (.inl ⟨a, vs, rfl, .inl (SqL.of (f.low _ _ ha)), ?_⟩)
    rw [za.length]
    exact k.here f (.int _)
  . cases hx with
    | dct ha _ za =>
      cases h
      refine .inr (.inr ⟨_, _, rfl, qb' f.low ha, ?_⟩)
      refine k.here f ?_
      rw [List.length_map]
      exact .int _
  . exact absurd ⟨_, _, rfl⟩ hX
theorem h4' {F : Hp} {T : List Addr} : ∀ {vs : List V} {ds : List M.D} {bs : List Bool}, FzA K F T vs ds -> M.bools ds = some bs -> vs = bs.map V.bl
  | _, _, bs, .nil, h => by cases h; rfl
  | _, d :: ds, bs, .cons a r, h => by
    cases d <;> try (cases h; done)
    rename_i b
    cases q : M.bools ds with
    | none => simp only [M.bools, q] at h; cases h
    | some cs =>
      simp only [M.bools, q, Option.map_some] at h
      cases h
      rw [a.bl_inv, h4' r q]
      rfl
theorem xy' : Bi1 K M.sB' (rAll K) := by
  intro F H T fp x dx dz Q f hx h k
  cases dx <;> try (cases h; done)
  obtain ⟨a, vs, rfl, ha, za⟩ := hx.lst_inv
  rename_i ds
  cases q : M.bools ds with
  | none => simp only [M.sB', q] at h; cases h
  | some bs =>
    simp only [M.sB', q, Option.map_some] at h
    cases h
    exact ⟨a, bs, rfl, by rw [<- h4' za q]; exact SqL.of (f.low _ _ ha), k.here f (.bl _)⟩
theorem dF' : Bi1 K M.gu' tN' := by
  intro F H T fp x dx dz Q f hx h k
  cases dx <;> try (cases h; done)
  . cases hx; cases h
    exact .inr ⟨_, rfl, k.here f (.int _)⟩
  . cases hx; cases h
    exact .inl ⟨_, rfl, k.here f (.int _)⟩
theorem xz' : Bi1 K M.vI' tP' := by
  intro F H T fp x dx dz Q f hx h k
  cases dx <;> try (cases h; done)
  cases hx; cases h
  exact ⟨_, rfl, k.here f (.int _)⟩
theorem kz' : Bi2 K M.iy' tJ' := by
  intro F H T fp x y dx dy dz Q f hx hy h k
  cases dx <;> cases dy <;> try (cases h; done)
  cases hx; cases hy; cases h
  exact ⟨_, _, rfl, k.here f (.int _)⟩
theorem nM' : Bi2 K M.kX' tI' := by
  intro F H T fp x y dx dy dz Q f hx hy h k
  cases dx <;> cases dy <;> try (cases h; done)
  cases hx; cases hy; cases h
  exact ⟨_, _, rfl, k.here f (.int _)⟩
theorem ox' {s : M.Tx} : signs (sx s) = s.map chv := by
  unfold signs
  show (s.toArray.toList.map fun c => V.str ⟨#[c]⟩) = _
  simp
  intro a _
  rfl
theorem FzA.signs {K : PySem.W.Frag} {F : Hp} {T : List Addr} {s : M.Tx} (o : okT s) : FzA K F T (S.signs (sx s)) (s.map M.chD) := by
  rw [ox']
  exact FzA.chars o.1
theorem i0' : Bi1 K M.c3' (mQ' K) := by
  intro F H T fp x dx dz Q f hx h k
  cases dx <;> try (cases h; done)
  . obtain ⟨rfl, o⟩ := hx.str_inv
    cases h
    exact .inr ⟨_, rfl, o.len, fun l hl => k.newT f (FzA.signs o) hl⟩
  . obtain ⟨a, vs, rfl, ha, za⟩ := hx.tup_inv
    cases h
    exact .inl ⟨a, vs, rfl, .inr ⟨seqT f.low ha, k.here f (.tup ha za)⟩⟩
  . obtain ⟨a, vs, rfl, ha, za⟩ := hx.lst_inv
    cases h
    exact .inl ⟨a, vs, rfl, .inl ⟨SqL.of (f.low _ _ ha), fun l hl => k.newT f za hl⟩⟩
theorem kA' : Bi1 K M.bZ' (mV' K) := by
  intro F H T fp x dx dz Q f hx h k
  cases dx <;> try (cases h; done)
  . obtain ⟨rfl, o⟩ := hx.str_inv
    cases h
    exact .inr ⟨_, rfl, o.len, fun l hl => k.newL f (FzA.signs o) hl⟩
  . obtain ⟨a, vs, rfl, ha, za⟩ := hx.tup_inv
    cases h
    exact .inl ⟨a, vs, rfl, .inr (seqT f.low ha), fun l hl => k.newL f za hl⟩
  . obtain ⟨a, vs, rfl, ha, za⟩ := hx.lst_inv
    cases h
    exact .inl ⟨a, vs, rfl, .inl (SqL.of (f.low _ _ ha)), fun l hl => k.newL f za hl⟩
theorem tg' {F H : Hp} {T : List Addr} {v : V} {d : M.D} {n : String} (s : Same F H) (h : Fz K F T v d) (e : M.tyn d = some n) : TyX K H v (.type n) := by
  cases h with
  | non => cases e; exact .base .non
  | bl b => cases e; exact .base (.bl b)
  | int i => cases e; exact .base (.int i)
  | str z => cases e; exact .base (.str _)
  | lst h1 _ => cases e; exact tyL (SqL.of (s _ _ h1))
  | tup h1 _ => cases e; exact tyT (seqT s h1)
  | dct h1 _ _ =>
    cases e
    rcases h1 with h1 | ⟨o, h1⟩
    . exact .base (.dK (s _ _ h1))
    . exact .fDict (s _ _ h1)
  | dcl _ _ _ => cases e
  | dcn _ _ _ _ => cases e
  | rep _ => cases e
  | obj _ => cases e
  | ty _ => cases e
  | fn _ => cases e
  | scr _ _ => cases e
theorem rG' : ∀ n ∈ ["NoneType", "bool", "int", "str", "tuple", "list", "dict"], ∀ t ∈ ["bool", "int", "str", "tuple", "list", "dict"], kitB n t = some (n == t || (n == "bool" && t == "int")) := by decide +kernel
theorem qS' {d : M.D} {n : String} (e : M.tyn d = some n) : n ∈ ["NoneType", "bool", "int", "str", "tuple", "list", "dict"] := by
  cases d <;> first | (cases e; done) | (cases e; decide)
def kH' (K : PySem.W.Frag) (J : It) (ds : List M.D) (F : Hp) (T : List Addr) : Prop := ∀ F' T' H' fp i, Ext F T F' T' -> FpH F' H' fp -> i <= ds.length →
  (i = ds.length -> J.stop i H') /\ ∀ d, ds[i]? = some d -> J.go i H' /\ ∀ x H2, J.yld i H' x H2 -> ∃ F2, Same F' F2 /\ Fz K F2 T' x d /\ FpH F2 H2 fp
theorem kH'.mono {J : It} {ds : List M.D} {F F' : Hp} {T T' : List Addr} (h : kH' K J ds F T) (e : Ext F T F' T') : kH' K J ds F' T' := fun F2 T2 H2 fp i e2 => h F2 T2 H2 fp i (e.trans e2)
def qI (K : PySem.W.Frag) (W : WX) (m : M.MI) : TI := fun σ H R => ∃ ρ F T fr, Rel K ρ σ H F T fr ∧
  a4' (m ρ) (fun ds ρ' => ∀ J H' F' T', Ext F T F' T' -> kH' K J ds F' T' -> Rel K ρ' σ H' F' T' fr -> R J H') (EX K W σ F T fr)
abbrev SI (X : Cx) (W : WX) (tg e : Expr) (m : M.MI) : Prop := PI X tg e (qI X.K W m)
theorem PI.imp {tg e : Expr} {t t' : TI} (h : PI X tg e t) (i : ∀ σ H Q, t' σ H Q -> t σ H Q) : PI X tg e t' := ⟨fun pins s σ H Q I q => h.run pins s σ H Q I (i σ H Q q)⟩
theorem rN' {a : Addr} {vs : List V} {ds : List M.D} {F : Hp} {T : List Addr} (ha : F a = some (.lst vs)) (z : FzA K F T vs ds) : kH' K (Itl K a) ds F T := fun F' T' H' fp i e f hi => by
  have h' : SqL K H' a vs := SqL.of (f.low _ _ (e.f.lst ha))
  refine ⟨fun q => ⟨vs, h', by rw [z.length]; omega⟩, fun d hd => ?_⟩
  obtain ⟨v, h1, h2⟩ := z.get hd
  refine ⟨⟨vs, v, h', h1⟩, fun x H2 y => ?_⟩
  obtain ⟨rfl, y⟩ := y
  have := y vs h'
  rw [h1] at this
  cases this
  exact ⟨F', fun _ _ e => e, h2.mono e, f⟩
theorem um' {a : Addr} {vs : List V} {ds : List M.D} {F : Hp} {T : List Addr} (ha : SqT K F a vs) (z : FzA K F T vs ds) : kH' K (Itt K a) ds F T := fun F' T' H' fp i e f hi => by
  have h' : SqT K H' a vs := seqT f.low (e.f.seqT ha)
  refine ⟨fun q => ⟨vs, h', by rw [z.length]; omega⟩, fun d hd => ?_⟩
  obtain ⟨v, h1, h2⟩ := z.get hd
  refine ⟨⟨vs, v, h', h1⟩, fun x H2 y => ?_⟩
  obtain ⟨rfl, y⟩ := y
  have := y vs h'
  rw [h1] at this
  cases this
  exact ⟨F', fun _ _ e => e, h2.mono e, f⟩
theorem ti' (s : M.Tx) (i : Nat) : (sx s).cps[i]? = s[i]? := by simp [sx]
theorem un' {s : M.Tx} {F : Hp} {T : List Addr} (o : okT s) : kH' K (Its (sx s)) (s.map M.chD) F T := fun F' T' H' fp i e f hi => by
  have el : (sx s).cps.size = s.length := bV' s
  rw [List.length_map] at hi ⊢
  refine ⟨fun q => by show (sx s).cps.size <= i; omega, fun d hd => ?_⟩
  rw [List.getElem?_map] at hd
  cases q : s[i]? with
  | none => rw [q] at hd; cases hd
  | some c =>
    rw [q] at hd
    cases hd
    refine ⟨by show i < (sx s).cps.size; have := (List.getElem?_eq_some_iff.mp q).1; omega, fun x H2 y => ?_⟩
    obtain ⟨rfl, c', h1, rfl⟩ := y
    rw [ti', q] at h1
    cases h1
    exact ⟨F', fun _ _ e => e, nw' (o.1 c (List.mem_of_getElem? q)), f⟩
theorem qn' {lo : Int} {n : Nat} {F : Hp} {T : List Addr} : kH' K (Itr lo n) (M.rgI lo n) F T := fun F' T' H' fp i e f hi => by
  unfold M.rgI at hi ⊢
  rw [List.length_map, List.length_range] at hi ⊢
  refine ⟨fun q => by show n <= i; omega, fun d hd => ?_⟩
  rw [List.getElem?_map] at hd
  by_cases h : i < n
  . rw [List.getElem?_range h] at hd
    cases hd
    refine ⟨h, fun x H2 y => ?_⟩
    obtain ⟨rfl, rfl⟩ := y
    exact ⟨F', fun _ _ e => e, .int _, f⟩
  . rw [List.getElem?_eq_none (by rw [List.length_range]; omega)] at hd
    cases hd
theorem tS' {tg e : Expr} {te : TE} (h : PE X e te) : PI X tg e (fun σ H R => iStr te σ H R \/ iList X.K te σ H R \/ iTup X.K te σ H R) := rl' (pi_str h) (rl' (pi_list h) (pi_tup h))
theorem rg' {m : M.ME} {ρ ρ1 : M.PSt} {F : Hp} {T : List Addr} {fr : Fp} {d : M.D} (rel : Rel K ρ σ H F T fr) (em : m ρ = .ok d ρ1) (h : ∀ v H' F' T', Ext F T F' T' -> Fz K F' T' v d -> Rel K ρ1 σ H' F' T' fr -> Q v H') : qE K W m σ H Q :=
  ⟨ρ, F, T, fr, rel, by rw [em]; exact h⟩
theorem fD' {tg : Expr} (h : SE X W a ma) : SI X W tg a (M.n0' ma) := PI.imp (tS' h) fun σ H R ⟨ρ, F, T, fr, rel, q⟩ => by
  have q2 := a4'.bind q
  cases em : ma ρ with
  | bad => rw [em] at q2; exact q2.elim
  | exc x ρ1 =>
    rw [em] at q2
    exact .inl ⟨ρ, F, T, fr, rel, by rw [em]; exact q2⟩
  | ok d ρ1 =>
    rw [em] at q2
    obtain ⟨ds, e1, q3⟩ := a4'.ofO (show a4' _ _ _ from q2)
    cases d <;> try (cases e1; done)
    . cases e1
      refine .inl (rg' rel em fun v H' F' T' e z r => ?_)
      obtain ⟨rfl, o⟩ := z.str_inv
      exact ⟨_, rfl, q3 _ _ _ _ e (un' o) r⟩
    . cases e1
      refine .inr (.inr (rg' rel em fun v H' F' T' e z r => ?_))
      obtain ⟨p, vs, rfl, ha, za⟩ := z.tup_inv
      obtain ⟨fp, f, _⟩ := r.fp
      exact ⟨p, rfl, ⟨vs, seqT f.low ha⟩, q3 _ _ _ _ e (um' ha za) r⟩
    . cases e1
      refine .inr (.inl (rg' rel em fun v H' F' T' e z r => ?_))
      obtain ⟨p, vs, rfl, ha, za⟩ := z.lst_inv
      obtain ⟨fp, f, _⟩ := r.fp
      exact ⟨p, rfl, ⟨vs, SqL.of (f.low _ _ ha)⟩, q3 _ _ _ _ e (rN' ha za) r⟩
theorem sq' {i : Int} (h : M.n2' i = true) : -(2 ^ 62) <= i /\ i < 2 ^ 62 := by
  unfold M.n2' at h
  simpa [Bool.and_eq_true] using h
theorem bi' {tg : Expr} (hg : Gl X "range") (hm : X.mg "range" = none) (ha : SE X W a ma) (hs : starEach [a] X.env = [(false, eval a X.env)] := by rfl) : SI X W tg (.Call (.Name "range" p) [a] [] pos) (M.br' ma) :=
  PI.imp (pi_range1 hg hm (pa_cons ha pa_nil hs) hs) fun σ H R ⟨ρ, F, T, fr, rel, q⟩ => by
    refine aF' rel q fun dx ρ1 v H1 F1 T1 e1 z1 r1 h1 => ?_
    obtain ⟨ds, e2, q2⟩ := a4'.ofO h1
    unfold M.dy' at e2
    split at e2
    . split at e2
      . rename_i hb
        cases e2
        cases z1
        obtain ⟨b1, b2⟩ := sq' hb
        exact ⟨_, rfl, b1, b2, q2 _ _ _ _ e1 qn' r1⟩
      . cases e2
    . cases e2
theorem mC' {tg : Expr} (hg : Gl X "range") (hm : X.mg "range" = none) (ha : SE X W a ma) (hb : SE X W b mb) (hs : starEach [a, b] X.env = [(false, eval a X.env), (false, eval b X.env)] := by rfl) (hs2 : starEach [b] X.env = [(false, eval b X.env)] := by rfl) :
    SI X W tg (.Call (.Name "range" p) [a, b] [] pos) (M.eM' ma mb) :=
  PI.imp (pi_range2 hg hm (pa_cons ha (pa_cons hb pa_nil hs2) (hs.trans (by rw [hs2]))) hs hs2) fun σ H R ⟨ρ, F, T, fr, rel, q⟩ => by
    refine aF' rel q fun dx ρ1 v H1 F1 T1 e1 z1 r1 h1 => ?_
    refine aF' r1 h1 fun dy ρ2 u H2 F2 T2 e2 z2 r2 h2 => ?_
    obtain ⟨ds, e3, q2⟩ := a4'.ofO h2
    unfold M.dx' at e3
    split at e3
    . split at e3
      . rename_i hb
        cases e3
        cases z1
        cases z2
        obtain ⟨b1, b2⟩ := sq' hb.1
        obtain ⟨b3, b4⟩ := sq' hb.2
        exact ⟨_, _, rfl, ⟨b1, b2, b3, b4⟩, q2 _ _ _ _ (e1.trans e2) qn' r2⟩
      . cases e3
    . cases e3
theorem i9' : ∀ (a b : List M.D), (M.cz' a b).length = min a.length b.length
  | [], _ => by simp [M.cz']
  | _ :: _, [] => by simp [M.cz']
  | x :: a, y :: b => by
    show (M.cz' a b).length + 1 = _
    rw [i9' a b]
    simp only [List.length_cons]
    omega
theorem ja' : ∀ (a b : List M.D) (i : Nat) (d : M.D), (M.cz' a b)[i]? = some d -> ∃ x y, a[i]? = some x /\ b[i]? = some y /\ d = .tup [x, y]
  | [], _, i, d, h => by simp [M.cz'] at h
  | _ :: _, [], i, d, h => by simp [M.cz'] at h
  | x :: a, y :: b, 0, d, h => ⟨x, y, rfl, rfl, (Option.some.inj h).symm⟩
  | x :: a, y :: b, i + 1, d, h => ja' a b i d h
theorem iD' {J : It} {as bs : List M.D} {F : Hp} {T : List Addr} (hs : ∀ F' T' H' fp i, Ext F T F' T' -> FpH F' H' fp -> i = min as.length bs.length -> J.stop i H')
    (hy : ∀ F' T' H' fp i dx dy, Ext F T F' T' -> FpH F' H' fp -> as[i]? = some dx -> bs[i]? = some dy -> J.go i H' /\ ∀ v H2, J.yld i H' v H2 -> ∃ p x y, v = .ref p /\ H' p = none /\ H2 = upd H' p (.tup [x, y]) /\ Fz K F' T' x dx /\ Fz K F' T' y dy) : kH' K J (M.cz' as bs) F T := fun F' T' H' fp i e f hi => by
  rw [i9'] at hi ⊢
  refine ⟨fun q => hs F' T' H' fp i e f q, fun d hd => ?_⟩
  obtain ⟨dx, dy, h1, h2, rfl⟩ := ja' _ _ _ _ hd
  obtain ⟨g, y⟩ := hy F' T' H' fp i dx dy e f h1 h2
  refine ⟨g, fun v H2 q => ?_⟩
  obtain ⟨p, x, y', rfl, hp, rfl, zx, zy⟩ := y v H2 q
  have s : Same F' (upd F' p (.tup [x, y'])) := bO' (f.free hp)
  exact ⟨_, s, .tup (SqT.of upd_same) (.cons (zx.mono (.of s)) (.cons (zy.mono (.of s)) .nil)), f.new hp⟩
theorem rL' {s t : M.Tx} {F : Hp} {T : List Addr} (o : okT s) (o2 : okT t) : kH' K (ItP (chS (sx s)) (chS (sx t)) (min (sx s).cps.size (sx t).cps.size)) (M.cz' (s.map M.chD) (t.map M.chD)) F T := by
  have e1 : (sx s).cps.size = s.length := bV' s
  have e2 : (sx t).cps.size = t.length := bV' t
  refine iD' (fun F' T' H' fp i e f hi => ?_) fun F' T' H' fp i dx dy e f h1 h2 => ?_
  . rw [List.length_map, List.length_map] at hi
    show i = min (sx s).cps.size (sx t).cps.size
    omega
  . rw [List.getElem?_map] at h1 h2
    cases q1 : s[i]? with
    | none => rw [q1] at h1; cases h1
    | some c =>
      cases q2 : t[i]? with
      | none => rw [q2] at h2; cases h2
      | some d =>
        rw [q1] at h1
        rw [q2] at h2
        cases h1
        cases h2
        have l1 := (List.getElem?_eq_some_iff.mp q1).1
        have l2 := (List.getElem?_eq_some_iff.mp q2).1
        refine ⟨by show i < min (sx s).cps.size (sx t).cps.size; omega, fun v H2 y => ?_⟩
        obtain ⟨p, x, y', rfl, hp, rfl, c1, c2⟩ := y
        unfold chS at c1 c2
        rw [fA', q1] at c1
        rw [fA', q2] at c2
        cases c1
        cases c2
        exact ⟨p, _, _, rfl, hp, rfl, nw' (o.1 c (List.mem_of_getElem? q1)), nw' (o2.1 d (List.mem_of_getElem? q2))⟩
theorem rM' {a b : Addr} {vs ws : List V} {ds es : List M.D} {F : Hp} {T : List Addr} (ha : F a = some (.lst vs)) (z : FzA K F T vs ds) (hb : F b = some (.lst ws)) (z2 : FzA K F T ws es) : kH' K (Itz K a b) (M.cz' ds es) F T := by
  refine iD' (fun F' T' H' fp i e f hi => ?_) fun F' T' H' fp i dx dy e f h1 h2 => ?_
  . exact ⟨vs, ws, SqL.of (f.low _ _ (e.f.lst ha)), SqL.of (f.low _ _ (e.f.lst hb)), by rw [z.length, z2.length]; omega⟩
  . obtain ⟨x, x1, x2⟩ := z.get h1
    obtain ⟨y, y1, y2⟩ := z2.get h2
    have a1 : SqL K H' a vs := SqL.of (f.low _ _ (e.f.lst ha))
    have b1 : SqL K H' b ws := SqL.of (f.low _ _ (e.f.lst hb))
    refine ⟨⟨vs, ws, x, y, a1, b1, x1, y1⟩, fun v H2 q => ?_⟩
    obtain ⟨p, x', y', rfl, hp, rfl, q1, q2⟩ := q
    have := q1 vs a1
    rw [x1] at this
    cases this
    have := q2 ws b1
    rw [y1] at this
    cases this
    exact ⟨p, _, _, rfl, hp, rfl, x2.mono e, y2.mono e⟩
theorem rK' {a b : Addr} {vs ws : List V} {ds es : List M.D} {F : Hp} {T : List Addr} (ha : SqT K F a vs) (z : FzA K F T vs ds) (hb : SqT K F b ws) (z2 : FzA K F T ws es) : kH' K (RZ.ItzT K a b) (M.cz' ds es) F T := by
  refine iD' (fun F' T' H' fp i e f hi => ?_) fun F' T' H' fp i dx dy e f h1 h2 => ?_
  . exact ⟨vs, ws, seqT f.low (e.f.seqT ha), seqT f.low (e.f.seqT hb), by rw [z.length, z2.length]; omega⟩
  . obtain ⟨x, x1, x2⟩ := z.get h1
    obtain ⟨y, y1, y2⟩ := z2.get h2
    have a1 : SqT K H' a vs := seqT f.low (e.f.seqT ha)
    have b1 : SqT K H' b ws := seqT f.low (e.f.seqT hb)
    refine ⟨⟨vs, ws, x, y, a1, b1, x1, y1⟩, fun v H2 q => ?_⟩
    obtain ⟨p, x', y', rfl, hp, rfl, q1, q2⟩ := q
    have := q1 vs a1
    rw [x1] at this
    cases this
    have := q2 ws b1
    rw [y1] at this
    cases this
    exact ⟨p, _, _, rfl, hp, rfl, x2.mono e, y2.mono e⟩
theorem tr' {elts : List Expr} {kk : Nat} {tpos : Pos} (hg : Gl X "zip") (hm : X.mg "zip" = none) (ha : SE X W a ma) (hb : SE X W b mb)
    (hs : starEach [a, b] X.env = (false, eval a X.env) :: starEach [b] X.env := by rfl) (hs2 : starEach [b] X.env = (false, eval b X.env) :: starEach [] X.env := by rfl) (hpl : (backTo pos (starEach [b] X.env)).any (·.1) = false := by rfl) :
    SI X W (.Tuple elts kk tpos) (.Call (.Name "zip" p) [a, b] [] pos) (M.ut' ma mb) :=
  PI.imp (rj' hg hm (pa_cons ha (pa_cons hb pa_nil hs2) hs) hs hpl) fun σ H R ⟨ρ, F, T, fr, rel, q⟩ => by
    -- the kind of both is known ahead
    have fin : ∀ (isS : Bool), (∀ x ρ1, ma ρ = .ok x ρ1 -> ∀ y ρ2, mb ρ1 = .ok y ρ2 -> (isS = true ↔ ∃ s, x = .str s)) -> ur' X.K (tCons (qE X.K W ma) (tCons (qE X.K W mb) tNil)) σ H R := by
      intro isS hS
      have q1 := a4'.bind q
      have body : ∀ (G : List V -> Hp -> Prop), (∀ x y u v H2 F2 T2 ds ρ2, Ext F T F2 T2 -> Fz X.K F2 T2 u x -> Fz X.K F2 T2 v y -> M.nV' x y = some ds -> Rel X.K ρ2 σ H2 F2 T2 fr -> (isS = true ↔ ∃ s, x = .str s) →
          (∀ J H' F' T', Ext F T F' T' -> kH' X.K J ds F' T' -> Rel X.K ρ2 σ H' F' T' fr -> R J H') -> G [u, v] H2) -> tCons (qE X.K W ma) (tCons (qE X.K W mb) tNil) σ H G := by
        intro G hG
        refine ⟨ρ, F, T, fr, rel, ?_⟩
        cases em : ma ρ with
        | bad => rw [em] at q1; exact q1.elim
        | exc x ρ1 => rw [em] at q1; exact q1
        | ok x ρ1 =>
          rw [em] at q1
          have q2 := a4'.bind (show a4' ((mb ρ1).bind _) _ _ from q1)
          intro u H1 F1 T1 e1 z1 r1
          refine ⟨ρ1, F1, T1, fr, r1, ?_⟩
          cases en : mb ρ1 with
          | bad => rw [en] at q2; exact q2.elim
          | exc y ρ2 => rw [en] at q2; exact EX.mono (show EX X.K W σ F T fr y ρ2 from q2) e1
          | ok y ρ2 =>
            rw [en] at q2
            obtain ⟨ds, e3, q3⟩ := a4'.ofO (show a4' (M.ofO _ _) _ _ from q2)
            intro v H2 F2 T2 e2 z2 r2
            exact hG x y u v H2 F2 T2 ds ρ2 (e1.trans e2) (z1.mono e2) z2 e3 r2 (hS x ρ1 em y ρ2 en) q3
      cases isS with
      | true =>
        refine .inl (body _ fun x y u v H2 F2 T2 ds ρ2 e z1 z2 hz r2 hk q3 => ?_)
        obtain ⟨s, rfl⟩ := hk.mp rfl
        cases y <;> try (cases hz; done)
        obtain ⟨rfl, o1⟩ := z1.str_inv
        obtain ⟨rfl, o2⟩ := z2.str_inv
        cases hz
        exact ⟨_, _, rfl, q3 _ _ _ _ e (rL' o1 o2) r2⟩
      | false =>
        refine .inr (body _ fun x y u v H2 F2 T2 ds ρ2 e z1 z2 hz r2 hk q3 => ?_)
        obtain ⟨fp, f, _⟩ := r2.fp
        cases x <;> cases y <;> try (cases hz; done)
        . exact absurd (hk.mpr ⟨_, rfl⟩) Bool.false_ne_true
        . obtain ⟨a1, vs, rfl, ha, za⟩ := z1.tup_inv
          obtain ⟨b1, ws, rfl, hb, zb⟩ := z2.tup_inv
          cases hz
          exact ⟨a1, b1, vs, ws, rfl, .inr ⟨seqT f.low ha, seqT f.low hb, q3 _ _ _ _ e (rK' ha za hb zb) r2⟩⟩
        . obtain ⟨a1, vs, rfl, ha, za⟩ := z1.lst_inv
          obtain ⟨b1, ws, rfl, hb, zb⟩ := z2.lst_inv
          cases hz
          exact ⟨a1, b1, vs, ws, rfl, .inl ⟨SqL.of (f.low _ _ ha), SqL.of (f.low _ _ hb), q3 _ _ _ _ e (rM' ha za hb zb) r2⟩⟩
    cases em : ma ρ with
    | ok x ρ1 =>
      by_cases hx : ∃ s, x = .str s
      . exact fin true fun x' ρ1' e y ρ2 _ => by rw [em] at e; cases e; exact ⟨fun _ => hx, fun _ => rfl⟩
      . exact fin false fun x' ρ1' e y ρ2 _ => by rw [em] at e; cases e; exact ⟨fun z => (nomatch z), fun z => absurd z hx⟩
    | exc x ρ1 => exact fin true fun x' ρ1' e => by rw [em] at e; cases e
    | bad => exact fin true fun x' ρ1' e => by rw [em] at e; cases e
end
end S
namespace S
open PySem PySem.Spec PyProof.Rows L2
variable [Wd] [Hot]
section
variable {K : PySem.W.Frag} {F F' H H' : Hp} {T T' : List Addr} {fp fq fr : Fp} {ρ : M.PSt} {σ : St} {W : WX}
theorem d8' {i : Nat} {x : Option V} : ∀ (is : List Nat) (σ : St), (wipe (σ.set i x) is).set i none = (wipe σ is).set i none
  | [], σ => by show (σ.set i x).set i none = σ.set i none; rw [List.set_set]
  | k :: is, σ => by
    show ((wipe (σ.set i x) is).set k none).set i none = ((wipe σ is).set k none).set i none
    by_cases h : k = i
    . subst h
      rw [List.set_set, List.set_set, d8' is σ]
    . rw [List.set_comm _ _ h, d8' is σ, List.set_comm _ _ h]
theorem FzA.cons_inv {vs : List V} {d : M.D} {ds : List M.D} (h : FzA K F T vs (d :: ds)) : ∃ v r, vs = v :: r /\ Fz K F T v d /\ FzA K F T r ds := by
  cases h with
  | cons a b => exact ⟨_, _, rfl, a, b⟩
theorem RpA.of_fz : ∀ {vs : List V} {ds : List M.D}, FzA K F T vs ds -> RpA K F T vs (ds.map .fz) []
  | _, _, .nil => .nil
  | _, _, .cons z r => RpA.cons (fp := []) (fq := []) (.fz z) (RpA.of_fz r)
def qG (K : PySem.W.Frag) (sl : List Nat) (m : M.MG) : TG := fun v σ H Q => ∃ ρ F T fr d ρ', Rel K ρ σ H F T fr /\ Fz K F T v d /\ m d ρ = some ρ' /\ ∀ σ', wipe σ' sl = wipe σ sl -> Rel K ρ' σ' H F T fr -> Q σ' H
def qGs (K : PySem.W.Frag) (is : List Nat) : TGs := fun vs σ H Q => ∃ ρ F T fr ds ρ', Rel K ρ σ H F T fr /\ FzA K F T vs ds /\ M.gNs is ds ρ = some ρ' /\ ∀ σ', wipe σ' is = wipe σ is -> Rel K ρ' σ' H F T fr -> Q σ' H
abbrev SG (X : Cx) (tg : Expr) (sl : List Nat) (m : M.MG) : Prop := PG X tg (qG X.K sl m)
abbrev SGs (X : Cx) (ts : List Expr) (is : List Nat) : Prop := PGs X ts (qGs X.K is)
theorem PG.imp {X : Cx} {tg : Expr} {t t' : TG} (h : PG X tg t) (i : ∀ v σ H Q, t' v σ H Q -> t v σ H Q) : PG X tg t' := ⟨fun pins s σ H v u Q I r q => h.run pins s σ H v u Q I r (i v σ H Q q)⟩
theorem PGs.imp {X : Cx} {tg : List Expr} {t t' : TGs} (h : PGs X tg t) (i : ∀ v σ H Q, t' v σ H Q -> t v σ H Q) : PGs X tg t' := ⟨fun pins s σ H v u Q I r q => h.run pins s σ H v u Q I r (i v σ H Q q)⟩
theorem Rel.put (rel : Rel K ρ σ H F T fr) {i : Nat} (hi : i < ρ.env.length) {v : V} {o : M.O} {f2 fr' : Fp} (q : Rp K F T v o f2) (p : Part (f2 ++ fr') fr) : Rel K ⟨ρ.env.set i (some o), ρ.w⟩ (σ.set i (some v)) H F T fr' := by
  obtain ⟨fe, fw, re, rw, f⟩ := rel
  obtain ⟨fq, h1, h2⟩ := re.put hi q
  refine ⟨fq, fw, h1, rw, f.part ?_⟩
  have p1 : Part (fq ++ (fw ++ fr')) ((fe ++ f2) ++ (fw ++ fr')) := .app h2 .refl
  refine p1.trans ?_
  refine Part.trans (b := fe ++ (fw ++ (f2 ++ fr'))) ?_ (.app .refl (.app .refl p))
  constructor
  . intro e h
    simp only [List.mem_append] at *
    grind
  . intro x
    simp only [keys, List.map_append, List.count_append] at *
    omega
theorem Part.nilL {a : Fp} : Part ([] ++ a) a := ⟨fun _ h => h, fun _ => Nat.le_refl _⟩
theorem e5' {X : Cx} {pos : Pos} {x : Str} (i : Nat) (hN : X.N.Nodup) (hi : X.N[i]? = some x) (hx : Loc X.env.scope x) (hf : X.fn x = true \/ X.env.scope.names.lookup x = some .local) : SG X (.Name x pos) [i] (M.gN i) :=
  PG.imp (pg_name hN hi hx hf) fun v σ H Q ⟨ρ, F, T, fr, d, ρ', rel, z, e, q⟩ => by
    unfold M.gN at e
    split at e
    . rename_i hl
      cases e
      refine q _ ?_ (rel.put hl (.fz z) .nilL)
      show (σ.set i (some v)).set i none = σ.set i none
      rw [List.set_set]
    . cases e
theorem mD' {X : Cx} : SGs X [] [] := PGs.imp pgs_nil fun vs σ H Q ⟨ρ, F, T, fr, ds, ρ', rel, z, e, q⟩ => by
  cases ds with
  | nil =>
    cases z
    cases e
    exact ⟨rfl, q _ rfl rel⟩
  | cons d ds => cases e
theorem cY' {X : Cx} {e : Expr} {es : List Expr} {i : Nat} {is : List Nat} (hs : (assignEach (e :: es) X.env).map (·.2) = assign e X.env :: (assignEach es X.env).map (·.2)) (h1 : SG X e [i] (M.gN i)) (h2 : SGs X es is) : SGs X (e :: es) (i :: is) :=
  PGs.imp (pgs_cons h1 h2 hs) fun vs σ H Q ⟨ρ, F, T, fr, ds, ρ', rel, z, e, q⟩ => by
    cases ds with
    | nil => cases e
    | cons d ds =>
      obtain ⟨v, r, rfl, z, zs⟩ := z.cons_inv
      . cases e1 : M.gN i d ρ with
        | none => simp only [M.gNs, e1] at e; cases e
        | some ρ1 =>
          simp only [M.gNs, e1, Option.bind_some] at e
          refine ⟨v, r, rfl, ρ, F, T, fr, d, ρ1, rel, z, e1, fun σ1 w1 r1 => ⟨ρ1, F, T, fr, ds, ρ', r1, zs, e, fun σ2 w2 r2 => q σ2 ?_ r2⟩⟩
          show (wipe σ2 is).set i none = (wipe σ is).set i none
          rw [w2]
          have w1' : σ1.set i none = σ.set i none := w1
          rw [<- d8' (x := none) is σ1, w1', d8' is σ]
theorem xJ' {X : Cx} {es : List Expr} {k} {pos : Pos} {n : Nat} {is : List Nat} (hc : X.calm = true) (hn : (assignEach es X.env).length = n) (hst : (assignEach es X.env).findIdx? (·.1) = none) (hl : is.length = n) (h : SGs X es is) : SG X (.Tuple es k pos) is (M.gT is) :=
  PG.imp (pg_tup hc h hn hst) fun v σ H Q ⟨ρ, F, T, fr, d, ρ', rel, z, e, q⟩ => by
    cases d with
    | tup ds =>
      obtain ⟨a, vs, rfl, ha, za⟩ := z.tup_inv
      obtain ⟨fp, f, _⟩ := rel.fp
      refine ⟨a, vs, rfl, seqT f.low ha, ?_, ρ, F, T, fr, ds, ρ', rel, za, e, q⟩
      rw [za.length, <- hl]
      have : ∀ (is : List Nat) (ds : List M.D) (ρ ρ' : M.PSt), M.gNs is ds ρ = some ρ' -> ds.length = is.length := by
        intro is
        induction is with
        | nil => intro ds ρ ρ' h; cases ds with | nil => rfl | cons d ds => cases h
        | cons i is ih =>
          intro ds ρ ρ' h
          cases ds with
          | nil => cases h
          | cons d ds =>
            cases e1 : M.gN i d ρ with
            | none => simp only [M.gNs, e1] at h; cases h
            | some ρ1 =>
              simp only [M.gNs, e1, Option.bind_some] at h
              exact congrArg (· + 1) (ih ds ρ1 ρ' h)
      exact this is ds ρ ρ' e
    | _ => cases e
theorem RpE.wiped {env : List (Option M.O)} (r : RpE K F T σ env fp) : ∀ is : List Nat, ∃ fq, RpE K F T (wipe σ is) (M.bo' is env) fq /\ Part fq fp
  | [] => ⟨fp, r, .refl⟩
  | i :: is => by
    obtain ⟨fq, h1, h2⟩ := r.wiped is
    obtain ⟨fq2, h3, h4⟩ := h1.drop i none
    exact ⟨fq2, h3, h4.trans h2⟩
theorem fR' {σ : St} : ∀ {is : List Nat} {j : Nat}, j ∉ is -> (wipe σ is)[j]? = σ[j]?
  | [], _, _ => rfl
  | i :: is, j, h => by
    have h' : j ≠ i /\ j ∉ is := by simpa using h
    show ((wipe σ is).set i none)[j]? = _
    rw [List.getElem?_set_ne (Ne.symm h'.1), fR' h'.2]
theorem ii' {σ : St} : ∀ {is : List Nat} {j : Nat}, j ∈ is -> j < σ.length -> (wipe σ is)[j]? = some none
  | i :: is, j, h, hl => by
    show ((wipe σ is).set i none)[j]? = _
    by_cases e : i = j
    . subst e
      rw [List.getElem?_set_self (by rw [wipe_length]; exact hl)]
    . rw [List.getElem?_set_ne e]
      refine ii' ?_ hl
      rcases List.mem_cons.mp h with h | h
      . exact absurd h.symm e
      . exact h
theorem lm' {σ : St} (is : List Nat) : wipe (wipe σ is) is = wipe σ is := by
  refine List.ext_getElem? fun j => ?_
  by_cases h : j ∈ is
  . by_cases hl : j < σ.length
    . rw [ii' h hl, ii' h (by rw [wipe_length]; exact hl)]
    . rw [List.getElem?_eq_none (by rw [wipe_length, wipe_length]; omega), List.getElem?_eq_none (by rw [wipe_length]; omega)]
  . rw [fR' h]
theorem fs' {env : List (Option M.O)} : ∀ {is : List Nat} {j : Nat} {o : M.O}, (M.bo' is env)[j]? = some (some o) -> j ∉ is
  | [], _, _, _ => by simp
  | i :: is, j, o, h => by
    have h : ((M.bo' is env).set i none)[j]? = some (some o) := h
    by_cases hj : i = j
    . subst hj
      by_cases hl : i < (M.bo' is env).length
      . rw [List.getElem?_set_self hl] at h; cases h
      . rw [List.getElem?_eq_none (by simpa using hl)] at h; cases h
    . rw [List.getElem?_set_ne hj] at h
      have := fs' h
      simp only [List.mem_cons, not_or]
      exact ⟨Ne.symm hj, this⟩
theorem RpE.other {env : List (Option M.O)} {σ' : St} (r : RpE K F T σ env fp) (hl : σ'.length = σ.length) (h : ∀ (j : Nat) (o : M.O), env[j]? = some (some o) -> σ'[j]? = σ[j]?) : RpE K F T σ' env fp := by
  induction r generalizing σ' with
  | nil =>
    cases σ' with
    | nil => exact .nil
    | cons _ _ => cases hl
  | off r ih =>
    cases σ' with
    | nil => cases hl
    | cons y σ' => exact .off (ih (Nat.succ.inj hl) fun j o e => h (j + 1) o e)
  | on q r ih =>
    cases σ' with
    | nil => cases hl
    | cons y σ' =>
      have e : y = _ := Option.some.inj (h 0 _ rfl)
      subst e
      exact .on q (ih (Nat.succ.inj hl) fun j o e => h (j + 1) o e)
  | hot hh z r ih =>
    cases σ' with
    | nil => cases hl
    | cons y σ' =>
      have e : y = _ := Option.some.inj (h 0 _ rfl)
      subst e
      exact .hot hh z (ih (Nat.succ.inj hl) fun j o e => h (j + 1) o e)
  | clo hh z r ih =>
    cases σ' with
    | nil => cases hl
    | cons y σ' =>
      have e : y = _ := Option.some.inj (h 0 _ rfl)
      subst e
      exact .clo hh z (ih (Nat.succ.inj hl) fun j o e => h (j + 1) o e)
theorem RpE.backed {env0 : List (Option M.O)} (h0 : ∀ (i : Nat) (d : M.D), env0[i]? = some (some (M.O.fz d)) -> ∃ v, σ[i]? = some (some v) /\ Fz K F T v d) : ∀ (is : List Nat) {env : List (Option M.O)} {fp : Fp}, RpE K F T σ env fp -> ∃ fq, RpE K F T σ (M.back env0 is env) fq /\ Part fq fp
  | [], env, fp, r => ⟨fp, r, .refl⟩
  | i :: is, env, fp, r => by
    obtain ⟨fq, h1, h2⟩ := RpE.backed h0 is r
    unfold M.back
    split
    . rename_i d e
      obtain ⟨v, hv, z⟩ := h0 i d e
      obtain ⟨f2, h3, h4⟩ := h1.put0 hv (.fz z)
      refine ⟨f2, h3, h4.trans ?_⟩
      rw [List.append_nil]
      exact h2
    . obtain ⟨f2, h3, h4⟩ := h1.drop0 i
      exact ⟨f2, h3, h4.trans h2⟩
theorem RpE.data {env : List (Option M.O)} (r : RpE K F T σ env fp) {i : Nat} {d : M.D} (h : env[i]? = some (some (.fz d))) : ∃ v, σ[i]? = some (some v) /\ Fz K F T v d := by
  obtain ⟨v, f1, f2, f3, h1, _, h3, _⟩ := r.get h
  cases h3 with
  | fz z => exact ⟨v, h1, z⟩
abbrev W0 : WX := fun _ _ _ _ => False
theorem a4'.noX {α : Type} {r : M.Res α} {P : α -> M.PSt -> Prop} {Y Y' : Wx} (h : a4' (M.noX r) P Y) : a4' r P Y' := by
  cases r with
  | ok a ρ => exact h
  | exc x ρ => exact h.elim
  | bad => exact h
def vx' (K : PySem.W.Frag) (sl : List Nat) (g : M.MG) (t : M.MT) (e : M.ME) (ds : List M.D) (σ : St) (D : Addr) (fr : Fp) (F1 : Hp) (T1 : List Addr) (P : List M.D -> M.PSt -> Prop) (Y : Wx) (i : Nat) (H : Hp) : Prop :=
  i <= ds.length /\ ∃ ρ' F' T' acc vacc, Ext F1 T1 F' T' /\ FzA K F' T' vacc acc /\ Rel K ⟨M.bo' sl ρ'.env, ρ'.w⟩ (wipe σ sl) H F' T' ((D, .lst vacc) :: fr) /\ a4' (M.lcL sl g t e (ds.drop i) acc ρ') P Y
theorem Rel.wiped (r : Rel K ρ σ H F T fr) (is : List Nat) : Rel K ⟨M.bo' is ρ.env, ρ.w⟩ (wipe σ is) H F T fr := by
  obtain ⟨fe, fw, re, rw, f⟩ := r
  obtain ⟨fq, h1, h2⟩ := re.wiped is
  exact ⟨fq, fw, h1, rw, f.part (.app h2 .refl)⟩
theorem Rel.own (r : Rel K ρ σ H F T fr) {p : Addr} {o : HO} (hp : H p = none) : Rel K ρ σ (upd H p o) F T ((p, o) :: fr) := by
  obtain ⟨fe, fw, re, rw, f⟩ := r
  refine ⟨fe, fw, re, rw, (f.own hp).part ?_⟩
  constructor
  . intro e h
    simp only [List.mem_append, List.mem_cons] at *
    grind
  . intro x
    simp only [keys, List.map_append, List.map_cons, List.count_append, List.count_cons] at *
    omega
theorem Rel.at_ (r : Rel K ρ σ H F T fr) {e : Addr × HO} (h : e ∈ fr) : H e.1 = some e.2 := by
  obtain ⟨fe, fw, re, rw, f⟩ := r
  exact (f.at_ e (List.mem_append_right _ (List.mem_append_right _ h))).1
theorem Rel.write {p : Addr} {o o' : HO} (r : Rel K ρ σ H F T ((p, o) :: fr)) : Rel K ρ σ (upd H p o') F T ((p, o') :: fr) := by
  obtain ⟨fe, fw, re, rw, f⟩ := r
  have f' : FpH F H ((fe ++ fw) ++ ((p, o) :: fr)) := by rw [List.append_assoc]; exact f
  refine ⟨fe, fw, re, rw, ?_⟩
  have := f'.write (o' := o')
  rw [List.append_assoc] at this
  exact this
theorem ni' {sl : List Nat} {it : M.MI} {g : M.MG} {t : M.MT} {e : M.ME} {Q : VK} (h : qO K W (M.oLc sl it g t e) σ H Q) : tLc (qI K W it) (qG K sl g) (qT K W0 t) (qE K W0 e) sl σ H Q := by
  obtain ⟨ρ, F, T, fr, rel, h⟩ := h
  refine ⟨ρ, F, T, fr, rel, (a4'.bind h).mono (fun ds ρ1 h1 J H1 F1 T1 e1 io r1 => ?_) fun _ _ z => z⟩
  intro D hD
  have h2 := a4'.bind h1
  -- the loop's word
  refine ⟨fun i m H => m = ds.length - i /\ vx' K sl g t e ds σ D fr F1 T1 _ _ i H, ⟨ds.length, by simp, Nat.zero_le _, ρ1, F1, T1, [], [], .refl, .nil, (r1.wiped sl).own hD, h2⟩, ?_⟩
  rintro i m H2 ⟨rfl, hi, ρ2, F2, T2, acc, vacc, e2, za, r2, h3⟩
  have hH : H2 D = some (.lst vacc) := r2.at_ (e := (D, .lst vacc)) List.mem_cons_self
  obtain ⟨fp2, f2, _⟩ := r2.fp
  by_cases hl : i = ds.length
  . refine .inl ⟨(io F2 T2 H2 fp2 i e2 f2 hi).1 hl, ?_⟩
    rw [hl, List.drop_length] at h3
    have h4 : a4' (M.lcL sl g t e [] acc ρ2) _ _ := h3
    unfold M.lcL at h4
    have h5 := h4
    refine h5 (.ref D) H2 F2 T2 ((D, .lst vacc) :: []) (e1.trans e2) ?_ ?_
    . exact .lst (RpA.of_fz za)
    . obtain ⟨fe, fw, re, rw, f⟩ := r2
      have re1 : RpE K F2 T2 σ (M.bo' sl ρ2.env) fe := by
        refine re.other ?_ fun j o hj => (fR' (fs' hj)).symm
        rw [wipe_length]
      obtain ⟨fe0, fw0, re0, rw0, f0⟩ := r1
      obtain ⟨fq, h6, h7⟩ := RpE.backed (env0 := ρ1.env) (fun i d hd => by
        obtain ⟨v, hv, z⟩ := re0.data hd
        exact ⟨v, hv, z.mono e2⟩) sl re1
      exact ⟨fq, fw, h6, rw, f.part (.app h7 .refl)⟩
  . have hlt : i < ds.length := by omega
    have hd : ds[i]? = some ds[i] := List.getElem?_eq_getElem hlt
    obtain ⟨go, yl⟩ := (io F2 T2 H2 fp2 i e2 f2 hi).2 _ hd
    refine .inr ⟨go, vx' K sl g t e ds σ D fr F1 T1 _ _ (i + 1), fun H' n => ⟨ds.length - (i + 1), by omega, rfl, n⟩, fun x H3 y => ?_⟩
    obtain ⟨fe, fw, re, rw, f⟩ := id r2
    obtain ⟨yg, yh⟩ := (io F2 T2 H2 _ i e2 f hi).2 _ hd
    obtain ⟨F3, s3, zx, f3⟩ := yh x H3 y
    have r3 : Rel K ⟨M.bo' sl ρ2.env, ρ2.w⟩ (wipe σ sl) H3 F3 T2 ((D, .lst vacc) :: fr) := ⟨fe, fw, re.mono (.of s3), rw.mono (.of s3), f3⟩
    rw [List.drop_eq_getElem_cons hlt] at h3
    unfold M.lcL at h3
    cases eg : g ds[i] ⟨M.bo' sl ρ2.env, ρ2.w⟩ with
    | none => rw [eg] at h3; exact h3.elim
    | some ρ3 =>
      rw [eg] at h3
      refine ⟨_, F3, T2, _, ds[i], ρ3, r3, zx, eg, fun σ4 w4 r4 => ?_⟩
      rw [lm'] at w4
      refine ⟨w4, ?_⟩
      have h4 := a4'.bind h3
      refine ⟨ρ3, F3, T2, _, r4, (a4'.noX h4).mono (fun b ρ5 h5 H5 F5 T5 e5 r5 => ?_) fun _ _ z => z⟩
      cases b with
      | false =>
        rw [if_neg Bool.false_ne_true]
        refine ⟨hlt, ρ5, F5, T5, acc, vacc, e2.trans ((Ext.of s3).trans e5), (za.mono (.of s3)).mono e5, ?_, h5⟩
        rw [<- w4]
        exact r5.wiped sl
      | true =>
        rw [if_pos rfl] at h5 ⊢
        have h6 := a4'.bind h5
        refine ⟨ρ5, F5, T5, _, r5, (a4'.noX h6).mono (fun d ρ6 h7 y6 H6 F6 T6 e6 z6 r6 => ?_) fun _ _ z => z⟩
        split at h7
        . rename_i hacc
          have hH6 : H6 D = some (.lst vacc) := r6.at_ (e := (D, .lst vacc)) List.mem_cons_self
          refine ⟨vacc, hH6, by rw [bD', za.length]; exact hacc, hlt, ρ6, F6, T6, acc ++ [d], vacc ++ [y6], e2.trans ((Ext.of s3).trans (e5.trans e6)), (((za.mono (.of s3)).mono e5).mono e6).append (.cons z6 .nil), ?_, h7⟩
          rw [<- w4]
          exact (r6.wiped sl).write
        . exact h7.elim
end
section
variable {X : Cx} {W : WX} {pos : Pos} {elt tg iter : Expr} {ifs : List Expr} {scope : Scope} {own : List (Str × Nat)} {sl : List Nat} {it : M.MI} {g : M.MG} {t : M.MT} {e : M.ME}
theorem ec' {X : Cx} {W : WX} : PTs X [] (qT X.K W M.tT) := ⟨fun _ _ _ H Q I ⟨ρ, F, T, fr, rel, h⟩ => wpAny_tests_nil ⟨H, I, h _ _ _ .refl rel⟩⟩
theorem ot' {X : Cx} {W : WX} {c : Expr} {m : M.MT} (h : ST X W c m) : PTs X [c] (qT X.K W m) := pts_one h
theorem wa' (hc : X.calm = true) (hN : X.N.Nodup) (hi : SI X W tg iter it) (ok : BlkOk X.N X.env.scope scope own) (hsl : sl = own.map (·.2))
    (hg : ∀ (s : Shared) (H : Hp) (C : Addr) (cl : List (Str × Addr)) (fp : List Addr), SG (X.blk s H scope (compEnvC scope cl C X.env) fp) tg sl g) (ht : ∀ (s : Shared) (H : Hp) (C : Addr) (cl : List (Str × Addr)) (fp : List Addr), PTs (X.blk s H scope (compEnvC scope cl C X.env) fp) ifs (qT X.K W0 t))
    (he : ∀ (s : Shared) (H : Hp) (C : Addr) (cl : List (Str × Addr)) (fp : List Addr), SE (X.blk s H scope (compEnvC scope cl C X.env) fp) W0 elt e) (hs : ∀ x, foldedSetIterable iter X.env x = pure x := by intro _; rfl) :
    SO X W (.ListComp elt [⟨tg, iter, ifs, 0⟩] scope pos) (M.oLc sl it g t e) := by
  subst hsl
  exact PE.imp (pe_lc hc hN hi ok hg ht he hs) fun σ H Q h => ni' h
theorem tQ' {K : PySem.W.Frag} {m : M.MO} {σ : St} {H : Hp} {Q : VK} (h : qE K W (M.eO m) σ H Q) : qO K W m σ H Q := by
  obtain ⟨ρ, F, T, fr, rel, h⟩ := h
  refine ⟨ρ, F, T, fr, rel, (a4'.bind h).mono (fun o ρ1 h1 v H1 F1 T1 fp e1 z1 r1 => ?_) fun _ _ z => z⟩
  obtain ⟨G, s, z, r⟩ := r1.frozen z1
  exact h1 v H1 G T1 (e1.trans (.of s)) z r
theorem cl' {a : Expr} {m : M.MO} (h : SO X W a m) : SE X W a (M.eO m) := PE.imp h fun σ H Q h => tQ' h
theorem a0' {a : Expr} {m : M.ME} (h : SE X W a m) : SO X W a (M.oE m) := PE.imp h fun σ H Q ⟨ρ, F, T, fr, rel, h⟩ => aF' rel h fun d ρ1 v H1 F1 T1 e1 z1 r1 h1 => h1 v H1 F1 T1 [] e1 (.fz z1) r1
theorem ui' (xs : List M.D) : M.frz (.lst (xs.map .fz)) = .lst xs := by
  show M.D.lst (M.frzs _) = _
  rw [M.nx']
theorem tu' (hc : X.calm = true) (hN : X.N.Nodup) (hi : SI X W tg iter it) (ok : BlkOk X.N X.env.scope scope own) (hsl : sl = own.map (·.2))
    (hg : ∀ (s : Shared) (H : Hp) (C : Addr) (cl : List (Str × Addr)) (fp : List Addr), SG (X.blk s H scope (compEnvC scope cl C X.env) fp) tg sl g) (ht : ∀ (s : Shared) (H : Hp) (C : Addr) (cl : List (Str × Addr)) (fp : List Addr), PTs (X.blk s H scope (compEnvC scope cl C X.env) fp) ifs (qT X.K W0 t))
    (he : ∀ (s : Shared) (H : Hp) (C : Addr) (cl : List (Str × Addr)) (fp : List Addr), SE (X.blk s H scope (compEnvC scope cl C X.env) fp) W0 elt e) (hs : ∀ x, foldedSetIterable iter X.env x = pure x := by intro _; rfl) :
    SE X W (.ListComp elt [⟨tg, iter, ifs, 0⟩] scope pos) (M.eLc sl it g t e) := by
  have h := cl' (wa' (pos := pos) hc hN hi ok hsl hg ht he hs)
  have eq : M.eO (M.oLc sl it g t e) = M.eLc sl it g t e := by
    funext ρ
    show ((it ρ).bind fun xs ρ1 => _).bind _ = (it ρ).bind _
    cases it ρ with
    | bad => rfl
    | exc x ρ1 => rfl
    | ok xs ρ1 =>
      show ((M.lcL sl g t e xs [] ρ1).bind _).bind _ = (M.lcL sl g t e xs [] ρ1).bind _
      cases M.lcL sl g t e xs [] ρ1 with
      | bad => rfl
      | exc x ρ2 => rfl
      | ok ys ρ2 =>
        show M.Res.ok (M.frz (.lst (ys.map .fz))) _ = M.Res.ok (M.D.lst ys) _
        rw [ui']
  rw [eq] at h
  exact h
end
end S
namespace S
open PySem PySem.Spec PyProof.Rows L2
variable [Wd] [Hot]
section
variable {K : PySem.W.Frag} {F F' H H' : Hp} {T T' : List Addr} {fp fq fr : Fp} {ρ : M.PSt} {σ : St} {W : WX} {D : Ends} {Q : VK}
theorem bg'.mono {r : M.Out} (h : bg' K W D F T fr r) (e : Ext F T F' T') : bg' K W D F' T' fr r := by
  cases r with
  | nx ρ => exact fun σ' H' F2 T2 e2 => h σ' H' F2 T2 (e.trans e2)
  | bk ρ => exact fun σ' H' F2 T2 e2 => h σ' H' F2 T2 (e.trans e2)
  | ct ρ => exact fun σ' H' F2 T2 e2 => h σ' H' F2 T2 (e.trans e2)
  | rt o w => exact fun v H' F2 T2 fp e2 => h v H' F2 T2 fp (e.trans e2)
  | exc x ρ => exact fun σ' cls dd H' F2 T2 e2 => h σ' cls dd H' F2 T2 (e.trans e2)
  | bad => exact h
theorem bg'.imp {r : M.Out} {D' : Ends} {W' : WX} (h : bg' K W D F T fr r) (h1 : ∀ σ H, D.nx σ H -> D'.nx σ H) (h2 : ∀ σ H, D.bk σ H -> D'.bk σ H) (h3 : ∀ σ H, D.ct σ H -> D'.ct σ H) (h4 : ∀ v H, D.rt v H -> D'.rt v H) (h5 : ∀ c d σ H, W c d σ H -> W' c d σ H) : bg' K W' D' F T fr r := by
  cases r with
  | nx ρ => exact fun σ' H' F2 T2 e2 r => h1 _ _ (h σ' H' F2 T2 e2 r)
  | bk ρ => exact fun σ' H' F2 T2 e2 r => h2 _ _ (h σ' H' F2 T2 e2 r)
  | ct ρ => exact fun σ' H' F2 T2 e2 r => h3 _ _ (h σ' H' F2 T2 e2 r)
  | rt o w => exact fun v H' F2 T2 fp e2 z r => h4 _ _ (h v H' F2 T2 fp e2 z r)
  | exc x ρ => exact fun σ' cls dd H' F2 T2 e2 z r => h5 _ _ _ _ (h σ' cls dd H' F2 T2 e2 z r)
  | bad => exact h
theorem c5' {α : Type} {r : M.Res α} {f : α -> M.PSt -> M.Out} (h : bg' K W D F T fr (r.out f)) : a4' r (fun a ρ' => bg' K W D F T fr (f a ρ')) (EX K W σ F T fr) := by
  cases r with
  | ok a ρ => exact h
  | exc x ρ => exact fun cls dd H' F' T' e z r => h σ cls dd H' F' T' e z r
  | bad => exact h
theorem dw' {m : M.ME} {k : M.D -> M.PSt -> M.Out} (rel : Rel K ρ σ H F T fr) (h : bg' K W D F T fr ((m ρ).out k))
    (q : ∀ d ρ1 v H1 F1 T1, Ext F T F1 T1 -> Fz K F1 T1 v d -> Rel K ρ1 σ H1 F1 T1 fr -> bg' K W D F1 T1 fr (k d ρ1) -> Q v H1) : qE K W m σ H Q :=
  ⟨ρ, F, T, fr, rel, (c5' h).mono (fun d ρ1 h1 v H1 F1 T1 e z r => q d ρ1 v H1 F1 T1 e z r (h1.mono e)) fun _ _ z => z⟩
theorem ey' {m : M.MO} {k : M.O -> M.PSt -> M.Out} (rel : Rel K ρ σ H F T fr) (h : bg' K W D F T fr ((m ρ).out k))
    (q : ∀ o ρ1 v H1 F1 T1 fp, Ext F T F1 T1 -> Rp K F1 T1 v o fp -> Rel K ρ1 σ H1 F1 T1 (fp ++ fr) -> bg' K W D F1 T1 fr (k o ρ1) -> Q v H1) : qO K W m σ H Q :=
  ⟨ρ, F, T, fr, rel, (c5' h).mono (fun d ρ1 h1 v H1 F1 T1 fp e z r => q d ρ1 v H1 F1 T1 fp e z r (h1.mono e)) fun _ _ z => z⟩
theorem ra' {m : M.MT} {k : Bool -> M.PSt -> M.Out} {Q : Bool -> Hp -> Prop} (rel : Rel K ρ σ H F T fr) (h : bg' K W D F T fr ((m ρ).out k))
    (q : ∀ b ρ1 H1 F1 T1, Ext F T F1 T1 -> Rel K ρ1 σ H1 F1 T1 fr -> bg' K W D F1 T1 fr (k b ρ1) -> Q b H1) : qT K W m σ H Q :=
  ⟨ρ, F, T, fr, rel, (c5' h).mono (fun d ρ1 h1 H1 F1 T1 e r => q d ρ1 H1 F1 T1 e r (h1.mono e)) fun _ _ z => z⟩
theorem rb' {m : M.MI} {k : List M.D -> M.PSt -> M.Out} {R : It -> Hp -> Prop} (rel : Rel K ρ σ H F T fr) (h : bg' K W D F T fr ((m ρ).out k))
    (q : ∀ ds ρ1 J H1 F1 T1, Ext F T F1 T1 -> kH' K J ds F1 T1 -> Rel K ρ1 σ H1 F1 T1 fr -> bg' K W D F1 T1 fr (k ds ρ1) -> R J H1) : qI K W m σ H R :=
  ⟨ρ, F, T, fr, rel, (c5' h).mono (fun d ρ1 h1 J H1 F1 T1 e z r => q d ρ1 J H1 F1 T1 e z r (h1.mono e)) fun _ _ z => z⟩
theorem Rel.noenv (r : Rel K ρ σ H F T fr) : n3' K (ρ.w) H F T fr := by
  obtain ⟨fe, fw, re, rw, f⟩ := r
  exact ⟨[], fw, t8', rw, f.part (.app .nil .refl)⟩
end
section
variable {X : Cx} {W : WX} {pos : Pos} {a b c : Expr} {st : Stmt} {rest body : List Stmt} {ma mb : M.ME} {mo : M.MO} {mt : M.MT} {m1 m2 : M.MS} {D : Ends} {σ : St} {H : Hp}
theorem au' : SSs X W [] M.aM' := PSs.imp pss_nil fun D σ H ⟨ρ, F, T, fr, rel, h⟩ => h σ H F T .refl rel
theorem af' (h : SS X W st m1) : SSs X W [st] m1 := pss_one h
theorem ab' (h1 : SS X W st m1) (h2 : SSs X W rest m2) : SSs X W (st :: rest) (M.aL' m1 m2) := PSs.imp (pss_cons h1 h2) fun D σ H ⟨ρ, F, T, fr, rel, h⟩ => by
  refine ⟨ρ, F, T, fr, rel, ?_⟩
  unfold M.aL' at h
  cases e : m1 ρ with
  | nx ρ1 => rw [e] at h; exact fun σ1 H1 F1 T1 e1 r1 => ⟨ρ1, F1, T1, fr, r1, bg'.mono h e1⟩
  | bk ρ1 => rw [e] at h; exact h
  | ct ρ1 => rw [e] at h; exact h
  | rt o w => rw [e] at h; exact h
  | exc x ρ1 => rw [e] at h; exact h
  | bad => rw [e] at h; exact h
theorem qY' (ha : SE X W a ma) (hs : swapsWith a none pos.line X.env = pure false := by rfl) : SS X W (.Expr a pos) (M.mH' ma) := PS.imp (ps_expr ha hs) fun D σ H ⟨ρ, F, T, fr, rel, h⟩ =>
  dw' rel h fun d ρ1 v H1 F1 T1 e1 z1 r1 h1 => h1 σ H1 F1 T1 .refl r1
theorem al' (ha : SO X W a mo) : SS X W (.Return (some a) pos) (M.bn' mo) := PS.imp (ps_ret ha) fun D σ H ⟨ρ, F, T, fr, rel, h⟩ =>
  ey' rel h fun o ρ1 v H1 F1 T1 fp e1 z1 r1 h1 => h1 v H1 F1 T1 fp .refl z1 r1.noenv
theorem aP' (hc : ST X W c mt) (ha : SSs X W rest m1) (hb : SSs X W body m2) : SS X W (.If c rest body pos) (M.sIf mt m1 m2) := PS.imp (ps_if hc ha hb) fun D σ H ⟨ρ, F, T, fr, rel, h⟩ => by
  refine ra' rel h fun k ρ1 H1 F1 T1 e1 r1 h1 => ?_
  cases k with
  | true => rw [if_pos rfl] at h1 ⊢; exact ⟨ρ1, F1, T1, fr, r1, h1⟩
  | false => rw [if_neg Bool.false_ne_true] at h1 ⊢; exact ⟨ρ1, F1, T1, fr, r1, h1⟩
theorem ap' {i : Nat} {x : Str} {pos' : Pos} (hN : X.N.Nodup) (hi : X.N[i]? = some x) (hx : Loc X.env.scope x) (ha : SO X W a mo) (hs : swapsWith a (some (.Name x pos')) pos.line X.env = pure false := by rfl) (hf : X.fn x = true \/ X.env.scope.names.lookup x = some .local := by first | exact .inl rfl | exact .inr rfl | assumption) :
    SS X W (.Assign [.Name x pos'] a pos) (M.bl' i mo) := PS.imp (ps_set hN hi hx ha hs hf) fun D σ H ⟨ρ, F, T, fr, rel, h⟩ => by
  refine ey' rel h fun o ρ1 v H1 F1 T1 fp e1 z1 r1 h1 => ?_
  unfold M.vE' at h1
  split at h1
  . rename_i hl
    exact h1 _ H1 F1 T1 .refl (r1.put hl z1 .refl)
  . exact h1.elim
theorem fX' {i : Nat} {y : Str} {py : Pos} {elt tg iter : Expr} {ifs : List Expr} {scope : Scope} {own : List (Str × Nat)} {spos : Pos} {sl : List Nat} {it : M.MI} {g : M.MG} {t : M.MT} {e : M.ME} (hc : X.calm = true) (hN : X.N.Nodup) (hy : X.N[i]? = some y) (hyl : X.env.scope.names.lookup y = some .local)
    (hsw : swapsWith (.ListComp elt [⟨tg, iter, ifs, 0⟩] scope pos) (some (.Name y py)) spos.line X.env = pure true) (hi : SI X W tg iter it) (ok : BlkOk X.N X.env.scope scope own) (hsl : sl = own.map (·.2))
    (hg : ∀ (s : Shared) (H : Hp) (C : Addr) (cl : List (Str × Addr)) (fp : List Addr), SG (X.blk s H scope (compEnvC scope cl C X.env) fp) tg sl g) (ht : ∀ (s : Shared) (H : Hp) (C : Addr) (cl : List (Str × Addr)) (fp : List Addr), PTs (X.blk s H scope (compEnvC scope cl C X.env) fp) ifs (qT X.K W0 t))
    (he : ∀ (s : Shared) (H : Hp) (C : Addr) (cl : List (Str × Addr)) (fp : List Addr), SE (X.blk s H scope (compEnvC scope cl C X.env) fp) W0 elt e) (hs : ∀ x, foldedSetIterable iter X.env x = pure x := by intro _; rfl) :
    SS X W (.Assign [.Name y py] (.ListComp elt [⟨tg, iter, ifs, 0⟩] scope pos) spos) (M.bl' i (M.oLc sl it g t e)) := by
  subst hsl
  refine PS.imp (ps_setLc (g := qG X.K (own.map (·.2)) g) (tt := qT X.K W0 t) (te := qE X.K W0 e) hc hN hy hyl hsw hi ok hg ht he hs) fun D σ H ⟨ρ, F, T, fr, rel, h⟩ => ?_
  show tLc (qI X.K W it) (qG X.K (own.map (·.2)) g) (qT X.K W0 t) (qE X.K W0 e) (own.map (·.2)) σ H fun x H1 => gName i x σ H1 D.nx
  refine ni' (W := W) (ey' (D := D) rel h fun o ρ1 v H1 F1 T1 fp e1 z1 r1 h1 => ?_)
  unfold M.vE' at h1
  split at h1
  . rename_i hl
    exact h1 _ H1 F1 T1 .refl (r1.put hl z1 .refl)
  . exact h1.elim
theorem tn' {tg : Expr} {sl : List Nat} {g : M.MG} (ha : SE X W a ma) (hg : SG X tg sl g) (hs : swapsWithSole [tg] a pos.line X.env = pure false := by rfl) (hw : swappedStores [tg] a X.env = pure none := by rfl)
    (h1 : (assignEach [tg] X.env).map (·.2) = [assign tg X.env] := by rfl) : SS X W (.Assign [tg] a pos) (M.ty' g ma) := PS.imp (ps_asg ha hg hs hw h1) fun D σ H ⟨ρ, F, T, fr, rel, h⟩ => by
  refine dw' rel h fun d ρ1 v H1 F1 T1 e1 z1 r1 h1 => ?_
  cases e : g d ρ1 with
  | none => rw [e] at h1; exact h1.elim
  | some ρ2 =>
    rw [e] at h1
    exact ⟨ρ1, F1, T1, fr, d, ρ2, r1, z1, e, fun σ' _ r' => h1 σ' H1 F1 T1 .refl r'⟩
theorem RpA.app {K : PySem.W.Frag} {F : Hp} {T : List Addr} : ∀ {vs ws : List V} {os ps : List M.O} {fp fq : Fp}, RpA K F T vs os fp -> RpA K F T ws ps fq -> RpA K F T (vs ++ ws) (os ++ ps) (fp ++ fq)
  | _, _, _, _, _, _, .nil, h => h
  | _, _, _, _, _, _, .cons a r, h => by
    rw [List.append_assoc]
    exact .cons a (RpA.app r h)
theorem RpA.length {K : PySem.W.Frag} {F : Hp} {T : List Addr} : ∀ {vs : List V} {os : List M.O} {fp : Fp}, RpA K F T vs os fp -> vs.length = os.length
  | _, _, _, .nil => rfl
  | _, _, _, .cons _ r => congrArg (· + 1) (RpA.length r)
theorem Rel.slotW {K : PySem.W.Frag} {ρ : M.PSt} {F : Hp} {T : List Addr} {fr : Fp} {i : Nat} {p : Addr} {os : List M.O} (rel : Rel K ρ σ H F T fr) (e : ρ.env[i]? = some (some (.lst os))) (hp : σ[i]? = some (some (.ref p))) :
    ∃ vs f2, H p = some (.lst vs) /\ RpA K F T vs os f2 /\ ∀ vs' os' f2' fr', RpA K F T vs' os' f2' -> Part (f2' ++ fr') (f2 ++ fr) -> Rel K ⟨ρ.env.set i (some (.lst os')), ρ.w⟩ σ (upd H p (.lst vs')) F T fr' := by
  obtain ⟨fe, fw, re, rw, f⟩ := rel
  obtain ⟨v, f1, f2, f3, h1, rfl, h3, h4, h5⟩ := re.get e
  rw [h1] at hp
  cases hp
  cases h3 with
  | lst r =>
    rename_i vs0 fp0
    refine ⟨vs0, fp0, (f.at_ (p, .lst vs0) (by simp)).1, r, fun vs' os' f2' fr' r' pt => ?_⟩
    have e5 := h5 F T (.ref p) (.lst os') ((p, .lst vs') :: f2') .refl (.lst r')
    rw [ee' h1] at e5
    refine ⟨_, fw, e5, rw, ?_⟩
    have fA : FpH F H (f1 ++ ((p, .lst vs0) :: (f3 ++ (fw ++ (fp0 ++ fr))))) := f.part (by
      constructor
      . intro e h
        simp only [List.mem_append, List.mem_cons] at *
        grind
      . intro x
        simp only [keys, List.map_append, List.map_cons, List.count_append, List.count_cons] at *
        omega)
    have fB := fA.write (o' := .lst vs')
    refine fB.part (.trans (b := f1 ++ ((p, .lst vs') :: (f3 ++ (fw ++ (f2' ++ fr'))))) ?_ ?_)
    . constructor
      . intro e h
        simp only [List.mem_append, List.mem_cons] at *
        grind
      . intro x
        simp only [keys, List.map_append, List.map_cons, List.count_append, List.count_cons] at *
        omega
    . have := pt.m
      have := pt.c
      constructor
      . intro e h
        simp only [List.mem_append, List.mem_cons] at *
        grind
      . intro x
        have := pt.c x
        simp only [keys, List.map_append, List.map_cons, List.count_append, List.count_cons] at *
        omega
theorem mz' {i : Nat} {x : Str} {px apos cpos : Pos} (hv : PE X (.Name x px) (tVar i)) (ha : SO X W a mo)
    (hbase : attributeBase (.Name x px) "append" X.env (eval (.Name x px) X.env) = eval (.Name x px) X.env := by rfl)
    (hfew : ((backTo cpos (starEach [a] X.env)).all (fun x => !x.1) && (backToKw cpos (keywordEach [] X.env)).all (fun x => x.1.isSome)
      && decide ([a].length + ([] : List Keyword).length + (if ([] : List Keyword).isEmpty then 0 else 1) < 30)) = true := by rfl)
    (hline : (apos.endLine == cpos.line) = true := by rfl) (hs : starEach [a] X.env = (false, eval a X.env) :: starEach [] X.env := by rfl) (hplain : (backTo cpos (starEach [] X.env)).any (·.1) = false := by rfl)
    (hsw : swapsWith (.Call (.Attribute (.Name x px) "append" apos) [a] [] cpos) none pos.line X.env = pure false := by rfl) :
    SS X W (.Expr (.Call (.Attribute (.Name x px) "append" apos) [a] [] cpos) pos) (M.qa' i mo) :=
  PS.imp (ps_expr (pe_bm PySem.F.plainAttrs_list PySem.F.slot_list_append PySem.F.type_list_append mt_append hv (pa_cons ha pa_nil hs) hbase hfew hline hs hplain) hsw) fun D σ H ⟨ρ, F, T, fr, rel, h⟩ => by
    unfold M.qa' at h
    split at h
    . rename_i os0 e0
      obtain ⟨fe, fw, re, rw, ff⟩ := id rel
      obtain ⟨v, f1, f2, f3, h1, _, h3, _⟩ := re.get e0
      cases h3 with
      | @lst p vs0 _ fp0 r0 =>
        obtain ⟨vs1, f21, hH, _, _⟩ := rel.slotW e0 h1
        refine ⟨.ref p, h1, .inl ⟨rfl, vs1, SqL.of hH⟩, ey' rel h fun o ρ1 u H1 F1 T1 fp e1 z1 r1 h2 => ?_⟩
        split at h2
        . rename_i os e2
          split at h2
          . rename_i hl
            obtain ⟨vs, f2', hH2, r2, back⟩ := r1.slotW e2 h1
            refine ⟨p, vs, u, rfl, rfl, hH2, by rw [r2.length, bD']; exact hl, ?_⟩
            have z1' : RpA X.K F1 T1 [u] [o] (fp ++ []) := .cons z1 .nil
            exact h2 σ _ F1 T1 .refl (back _ _ _ fr (r2.app z1') (by
              constructor
              . intro e h
                simp only [List.mem_append, List.not_mem_nil] at *
                grind
              . intro x
                simp only [keys, List.map_append, List.map_nil, List.count_append, List.count_nil] at *
                omega))
          . exact h2.elim
        . exact h2.elim
    . exact h.elim
theorem pa' {K : PySem.W.Frag} {sl : List Nat} {it : M.MI} {g : M.MG} {b : M.MS} (h : qS K W (M.gs' it g b) D σ H) : tFor (qI K W it) (qG K sl g) (qS K W b) D σ H := by
  obtain ⟨ρ, F, T, fr, rel, h⟩ := h
  refine rb' rel h fun ds ρ1 J H1 F1 T1 e1 io r1 h1 => ?_
  refine ⟨fun i m σ2 H2 => m = ds.length - i /\ i <= ds.length /\ ∃ ρ2 F2 T2, Ext F1 T1 F2 T2 /\ Rel K ρ2 σ2 H2 F2 T2 fr /\ bg' K W D F2 T2 fr (M.gw' g b (ds.drop i) ρ2), ⟨ds.length, by simp, Nat.zero_le _, ρ1, F1, T1, .refl, r1, h1⟩, ?_⟩
  rintro i m σ2 H2 ⟨rfl, hi, ρ2, F2, T2, e2, r2, h2⟩
  obtain ⟨fe, fw, re, rw, f2⟩ := id r2
  obtain ⟨st, yl⟩ := io F2 T2 H2 _ i e2 f2 hi
  by_cases hl : i = ds.length
  . refine .inl ⟨st hl, ?_⟩
    rw [hl, List.drop_length] at h2
    exact h2 σ2 H2 F2 T2 .refl r2
  . have hlt : i < ds.length := by omega
    obtain ⟨go, yh⟩ := yl ds[i] (List.getElem?_eq_getElem hlt)
    refine .inr ⟨go, fun σ3 H3 => ∃ ρ3 F3 T3, Ext F1 T1 F3 T3 /\ Rel K ρ3 σ3 H3 F3 T3 fr /\ bg' K W D F3 T3 fr (M.gw' g b (ds.drop (i + 1)) ρ3), fun σ3 H3 n => ⟨ds.length - (i + 1), by omega, rfl, hlt, n⟩, fun x H3 y => ?_⟩
    obtain ⟨F3, s3, zx, f3⟩ := yh x H3 y
    have r3 : Rel K ρ2 σ2 H3 F3 T2 fr := ⟨fe, fw, re.mono (.of s3), rw.mono (.of s3), f3⟩
    rw [List.drop_eq_getElem_cons hlt] at h2
    unfold M.gw' at h2
    cases eg : g ds[i] ρ2 with
    | none => rw [eg] at h2; exact h2.elim
    | some ρ4 =>
      rw [eg] at h2
      refine ⟨ρ2, F3, T2, fr, ds[i], ρ4, r3, zx, eg, fun σ4 _ r4 => ⟨ρ4, F3, T2, fr, r4, ?_⟩⟩
      have h3 := bg'.mono h2 (.of s3)
      have e3 : Ext F1 T1 F3 T2 := e2.trans (.of s3)
      dsimp only at h3
      cases eb : b ρ4 with
      | nx ρ5 => rw [eb] at h3; exact fun σ5 H5 F5 T5 e5 r5 => ⟨ρ5, F5, T5, e3.trans e5, r5, bg'.mono h3 e5⟩
      | ct ρ5 => rw [eb] at h3; exact fun σ5 H5 F5 T5 e5 r5 => ⟨ρ5, F5, T5, e3.trans e5, r5, bg'.mono h3 e5⟩
      | bk ρ5 => rw [eb] at h3; exact fun σ5 H5 F5 T5 e5 r5 => h3 σ5 H5 F5 T5 e5 r5
      | rt o w => rw [eb] at h3; exact h3
      | exc x ρ5 => rw [eb] at h3; exact h3
      | bad => rw [eb] at h3; exact h3
theorem bW' {tg iter : Expr} {sl : List Nat} {it : M.MI} {g : M.MG} (hp : PassesOwn (model X.prog X.w) X.A X.env X.xe) (hc : X.calm = true) (hi : SI X W tg iter it) (hg : SG X tg sl g) (hb : SSs X W body m1)
    (hs : ∀ x, foldedSetIterable iter X.env x = pure x := by intro _; rfl) : SS X W (.For tg iter body [] pos) (M.gs' it g m1) := PS.imp (ps_for hp hc hi hg hb hs) fun D σ H h => pa' h
def sw' (K : PySem.W.Frag) (Q : VK) (E : XK) (F : Hp) (T : List Addr) (fr : Fp) : M.FRes -> Prop
  | .ok o w' => ∀ v H' F' T' fp, Ext F T F' T' -> Rp K F' T' v o fp -> n3' K (w') H' F' T' (fp ++ fr) -> Q v H'
  | .exc x w' => ∀ cls dd H' F' T', Ext F T F' T' -> XcR K F' T' x cls dd -> n3' K (w') H' F' T' fr -> E cls dd H'
  | .bad => False
def spM (K : PySem.W.Frag) (m : M.MF) : Sp := fun vs H Q E => ∃ ds w F T fr, FzA K F T vs ds /\ n3' K (w) H F T fr /\ sw' K Q E F T fr (m ds w)
theorem RpE.start {K : PySem.W.Frag} {F : Hp} {T : List Addr} {n : Nat} : ∀ {vs : List V} {ds : List M.D}, FzA K F T vs ds -> RpE K F T (vs.map some ++ List.replicate n none) (ds.map (fun d => some (.fz d)) ++ List.replicate n none) []
  | _, _, .nil => by
    show RpE K F T (List.replicate n none) (List.replicate n none) []
    induction n with
    | zero => exact .nil
    | succ n ih => exact .off ih
  | _, _, .cons z r => RpE.on (fp := []) (fq := []) (.fz z) (RpE.start r)
end
section
variable {P : Program} {w : World} {K : PySem.W.Frag} {mg : Str -> Option Value} {base : Heap}
end
section
variable {X : Cx} {k : Nat} {x : Str} {ps : List Str} {p pos : Pos} {e : Expr} {es : List Expr} {as : M.MA} {W : WX} {m : M.MF}
theorem nI' {K : PySem.W.Frag} {σ : St} {H : Hp} {Q : VK} (h : qO K W (M.aO' m as) σ H Q) : tCallS (spM K m) (WE W) (qA K W as) σ H Q := by
  obtain ⟨ρ, F, T, fr, rel, h⟩ := h
  refine cb' rel h fun ds ρ1 vs H1 F1 T1 e1 z1 r1 h1 => ?_
  obtain ⟨fe, fw, re, rw, f⟩ := r1
  refine ⟨ds, ρ1.w, F1, T1, fe ++ fr, z1, ⟨[], fw, t8', rw, f.part (Part.swap : Part (fw ++ (fe ++ fr)) (fe ++ (fw ++ fr)))⟩, ?_⟩
  cases em : m ds ρ1.w with
  | bad => rw [em] at h1; exact h1.elim
  | ok o w' =>
    rw [em] at h1
    refine fun v H' F' T' fp e z r => h1 v H' F' T' fp (e1.trans e) z ?_
    obtain ⟨fe', fw', re', rw', f'⟩ := r
    cases re'
    refine ⟨fe, fw', re.mono e, rw', f'.part ?_⟩
    constructor
    . intro e h
      simp only [List.mem_append, List.not_mem_nil] at *
      grind
    . intro x
      simp only [keys, List.map_append, List.map_nil, List.count_append, List.count_nil] at *
      omega
  | exc x w' =>
    rw [em] at h1
    refine fun cls dd H' F' T' e z r => h1 cls dd H' F' T' e z ?_
    obtain ⟨fe', fw', re', rw', f'⟩ := r
    cases re'
    refine ⟨fe, fw', re.mono e, rw', f'.part ?_⟩
    constructor
    . intro e h
      simp only [List.mem_append, List.not_mem_nil] at *
      grind
    . intro x
      simp only [keys, List.map_append, List.map_nil, List.count_append, List.count_nil] at *
      omega
theorem aj' (F : Og X.prog X.w X.K X.mg X.base k x ps (spM X.K m)) (hr : RoomG k X.A) (hg : Gl X x) (tk : Takes X W) (ha : SA X W (e :: es) as) (hdb : (x == ("__debug__" : Str)) = false := by decide)
    (he : starEach (e :: es) X.env = (false, eval e X.env) :: starEach es X.env := by rfl) (hpl : (backTo pos (starEach es X.env)).any (·.1) = false := by rfl) : SO X W (.Call (.Name x p) (e :: es) [] pos) (M.aO' m as) :=
  PE.imp (oQ' F hr hg tk ha hdb he hpl) fun _ _ _ h => nI' h
theorem eb' : Takes X W0 := fun _ _ ⟨_, _, _, _, _, _, _, _, _, _, _, _, _, _, _, _, w⟩ => w.elim
end
end S
namespace S
open PySem PySem.Spec PyProof.Rows L2
variable [Wd]
section
variable {P : Program} {w : World} {K : PySem.W.Frag} {mg : Str -> Option Value} {base : Heap}
theorem yp' {x qual : Str} {st : Stmt} {f : Addr} {fd : FuncData} {N ps : List Str} {k j n : Nat} {b : M.MS} (F : FunD K x qual (defArgs st) (defBody st) (defScope st) [] [] f fd) (S : FnScope N ps (defScope st)) (hj : ps.length = j) (hn : N.length = n)
    (hbody : ∀ (cdv oc : Value) (od : Option Addr) (osl : Array (Option Value)), K.lookup f = some ⟨oc, od, .func fd, osl⟩ -> fd.code = cdv -> PySem.W.codeIn K cdv qual = true -> ∀ (A : Around) (outer : List Env) (s : Shared) (H : Hp) (E : XK), RoomG k (A.deeper (envOfC qual (defScope st) s.heap.objs.size f cdv)) →
      SSs (cxOf (L2.CX P w) P w K mg base N qual (defScope st) f cdv A outer s H E) (fun cls d _ H => E cls d H) (defBody st) b)   : FnG P w K mg base (L2.CX P w) (k + 1) f fd ps (spM K (M.fnM j n b)) := by
  refine rX' F S (fun vs H Q E h => ?_) fun cdv oc od osl lk e1 e2 A outer s H vs Q E hr h => ⟨_, hbody cdv oc od osl lk e1 e2 A outer s H E hr, ?_⟩
  . obtain ⟨ds, w', F', T, fr, za, rel, h⟩ := h
    unfold M.fnM at h
    by_cases hl : ds.length = j
    . rw [za.length, hl, hj]
    . rw [if_neg hl] at h; exact h.elim
  . obtain ⟨ds, w', F', T, fr, za, rel, h⟩ := h
    unfold M.fnM at h
    by_cases hl : ds.length = j
    . rw [if_pos hl] at h
      obtain ⟨fe, fw, re, rw', ff⟩ := rel
      cases re
      have re' : RpE K F' T (L2.start N vs) (ds.map (fun d => some (.fz d)) ++ List.replicate (n - j) none) [] := by
        unfold L2.start
        rw [hn, za.length, hl]
        exact RpE.start za
      refine ⟨⟨_, w'⟩, F', T, fr, ⟨[], fw, re', rw', ff⟩, ?_⟩
      generalize b ⟨ds.map (fun d => some (.fz d)) ++ List.replicate (n - j) none, w'⟩ = r at h
      cases r with
      | nx ρ => exact fun σ' H' F2 T2 e2 r2 => h .non H' F2 T2 [] e2 (.fz .non) r2.noenv
      | rt o w2 => exact fun v H' F2 T2 fp e2 z2 r2 => h v H' F2 T2 fp e2 z2 r2
      | exc x ρ => exact fun σ' cls dd H' F2 T2 e2 z2 r2 => h cls dd H' F2 T2 e2 z2 r2.noenv
      | bk ρ => exact h.elim
      | ct ρ => exact h.elim
      | bad => exact h.elim
    . rw [if_neg hl] at h; exact h.elim
theorem okM {x qual : Str} {st : Stmt} {f : Addr} {fd : FuncData} {N ps : List Str} {k j n : Nat} {b : M.MS} (F : FunD K x qual (defArgs st) (defBody st) (defScope st) [] [] f fd) (S : FnScope N ps (defScope st)) (hj : ps.length = j) (hn : N.length = n)
    (hbody : ∀ (cdv : Value) (A : Around) (outer : List Env) (s : Shared) (H : Hp) (E : XK), RoomG k (A.deeper (envOfC qual (defScope st) s.heap.objs.size f cdv)) →
      SSs (cxOf (L2.CX P w) P w K mg base N qual (defScope st) f cdv A outer s H E) (fun cls d _ H => E cls d H) (defBody st) b)   : FnG P w K mg base (L2.CX P w) (k + 1) f fd ps (spM K (M.fnM j n b)) :=
  yp' F S hj hn fun cdv _ _ _ _ _ _ => hbody cdv
end
end S
namespace S
open PySem PySem.Spec PyProof.Rows L2
variable [Wd] [Hot]
section
variable {K : PySem.W.Frag}
theorem rY' {F : Hp} {T : List Addr} {x y : V} {dx dy : M.D} (hx : Fz K F T x dx) (hy : Fz K F T y dy) (sx' : M.sca dx = true) (sy : M.sca dy = true) : eqV y x = M.eqb dy dx /\ flatV x = true := by
  cases dx <;> try (cases sx'; done)
  all_goals cases dy <;> try (cases sy; done)
  all_goals first
    | (cases hx; cases hy; exact ⟨rfl, rfl⟩)
    | skip
  obtain ⟨rfl, _⟩ := hx.str_inv
  obtain ⟨rfl, _⟩ := hy.str_inv
  exact ⟨p6' _ _, rfl⟩
theorem rV' {F : Hp} {T : List Addr} {x : V} {dx : M.D} (hx : Fz K F T x dx) (sx' : M.sca dx = true) : ∀ {vs : List V} {ds : List M.D}, FzA K F T vs ds -> ds.all M.sca = true -> inV x vs = ds.any (fun d => M.eqb d dx) /\ vs.all flatV = true
  | _, _, .nil, _ => ⟨rfl, rfl⟩
  | _, _, .cons z r, h => by
    rw [List.all_cons, Bool.and_eq_true] at h
    obtain ⟨h1, h2⟩ := rV' hx sx' r h.2
    obtain ⟨h3, h4⟩ := rY' hx z sx' h.1
    obtain ⟨_, h5⟩ := rY' z z h.1 h.1
    refine ⟨?_, ?_⟩
    . show (eqV _ x || inV x _) = _
      rw [List.any_cons, h3, h1]
    . rw [List.all_cons, h5, h2]; rfl
theorem qq' {F : Hp} {T : List Addr} {x : V} {dx : M.D} (hx : Fz K F T x dx) (s : M.sca dx = true) : flatV x = true := (rY' hx hx s s).2
theorem o9' {dx dy dz : M.D} (h : M.pIn dx dy = some dz) : (∃ c s, dx = .str [c] /\ dy = .str s /\ dz = .bl (decide (c ∈ s))) \/ (∃ ds, (dy = .lst ds \/ dy = .tup ds) /\ M.sca dx = true /\ ds.all M.sca = true /\ dz = .bl (ds.any fun d => M.eqb d dx)) := by
  unfold M.pIn at h
  split at h
  . exact .inl ⟨_, _, rfl, rfl, (Option.some.inj h).symm⟩
  . split at h
    . rename_i c; exact .inr ⟨_, .inl rfl, c.1, c.2, (Option.some.inj h).symm⟩
    . cases h
  . split at h
    . rename_i c; exact .inr ⟨_, .inr rfl, c.1, c.2, (Option.some.inj h).symm⟩
    . cases h
  . cases h
theorem m2' : Op2 K M.dM' (mT' K) := by
  intro F H T fp x y dx dy dz Q f hx hy h k
  unfold M.dM' at h
  split at h
  . rename_i b hb
    cases h
    rcases o9' hb with ⟨c, s, rfl, rfl, eb⟩ | ⟨ds, e, h1, h2, eb⟩
    . cases eb
      obtain ⟨rfl, o1⟩ := hx.str_inv
      obtain ⟨rfl, o2⟩ := hy.str_inv
      exact .inl ⟨c, _, rfl, rfl, k.here f (.bl _)⟩
    . cases eb
      rcases e with rfl | rfl
      . obtain ⟨a, vs, rfl, ha, za⟩ := hy.lst_inv
        obtain ⟨e1, e2⟩ := rV' hx h1 za h2
        refine .inr (.inl ⟨a, vs, rfl, .inl (SqL.of (f.low _ _ ha)), qq' hx h1, e2, ?_⟩)
        rw [if_pos rfl, e1]
        exact k.here f (.bl _)
      . obtain ⟨a, vs, rfl, ha, za⟩ := hy.tup_inv
        obtain ⟨e1, e2⟩ := rV' hx h1 za h2
        refine .inr (.inl ⟨a, vs, rfl, .inr (seqT f.low ha), qq' hx h1, e2, ?_⟩)
        rw [if_pos rfl, e1]
        exact k.here f (.bl _)
  . cases h
theorem j9' {F : Hp} {T : List Addr} : ∀ {vs : List V} {ds : List M.D} {ss : List M.Tx}, FzA K F T vs ds -> M.cE' ds = some ss -> vs = (ss.map sx).map V.str /\ ∀ s ∈ ss, okT s
  | _, _, ss, .nil, h => by cases h; exact ⟨rfl, fun s h => nomatch h⟩
  | _, d :: ds, ss, .cons a r, h => by
    cases d <;> try (cases h; done)
    rename_i b
    cases q : M.cE' ds with
    | none => simp only [M.cE', q] at h; cases h
    | some cs =>
      simp only [M.cE', q, Option.map_some] at h
      cases h
      obtain ⟨rfl, o⟩ := a.str_inv
      obtain ⟨rfl, os⟩ := j9' r q
      refine ⟨rfl, fun s hs => ?_⟩
      rcases List.mem_cons.mp hs with rfl | hs
      . exact o
      . exact os s hs
theorem kq' (sep : M.Tx) : ∀ ss : List M.Tx, TL.joinL sep ss = M.b3' sep ss
  | [] => rfl
  | [_] => rfl
  | a :: b :: r => by
    show a ++ (sep ++ TL.joinL sep (b :: r)) = a ++ (sep ++ M.b3' sep (b :: r))
    rw [kq' sep (b :: r)]
theorem rI' (sep : M.Tx) (ss : List M.Tx) : Txt.join (sx sep) (ss.map sx) = sx (M.b3' sep ss) := by
  rw [TL.join_eq]
  refine ep' ?_
  have := TL.tl_join (sx sep) (ss.map sx)
  rw [List.map_map, show ss.map (TL.tl ∘ sx) = ss from (List.map_congr_left fun a _ => rfl).trans (List.map_id ss), show TL.tl (sx sep) = sep from rfl, kq'] at this
  exact this
theorem hE' (sep : M.Tx) : ∀ (ss : List M.Tx) (c : Nat), c ∈ M.b3' sep ss -> c ∈ sep \/ ∃ s ∈ ss, c ∈ s
  | [], c, h => by cases h
  | [a], c, h => .inr ⟨a, by simp, h⟩
  | a :: b :: r, c, h => by
    rcases List.mem_append.mp (show c ∈ a ++ (sep ++ M.b3' sep (b :: r)) from h) with h | h
    . exact .inr ⟨a, by simp, h⟩
    . rcases List.mem_append.mp h with h | h
      . exact .inl h
      . rcases hE' sep (b :: r) c h with h | ⟨s, h1, h2⟩
        . exact .inl h
        . exact .inr ⟨s, List.mem_cons_of_mem _ h1, h2⟩
theorem de' (sep : M.Tx) : ∀ (ss : List M.Tx), (M.b3' sep ss).length <= (ss.map List.length).sum + ss.length * sep.length
  | [] => by simp [M.b3']
  | [a] => by simp [M.b3']
  | a :: b :: r => by
    have ih := de' sep (b :: r)
    show (a ++ (sep ++ M.b3' sep (b :: r))).length <= _
    rw [List.length_append, List.length_append, List.map_cons, List.sum_cons, List.length_cons (as := b :: r), Nat.succ_mul]
    omega
def MtD (K : PySem.W.Frag) (f : M.Tx -> List M.D -> Option M.D) (r : V -> List V -> Hp -> VK -> Prop) : Prop := ∀ {F H : Hp} {T : List Addr} {fp : Fp} {s : M.Tx} {xs : List V} {ds : List M.D} {dz : M.D} {Q : VK}, FpH F H fp -> okT s -> FzA K F T xs ds -> f s ds = some dz -> ds' K F T fp dz Q -> r (.str (sx s)) xs H Q
theorem FzA.one {F : Hp} {T : List Addr} {xs : List V} {d : M.D} (h : FzA K F T xs [d]) : ∃ v, xs = [v] /\ Fz K F T v d := by
  cases h with
  | cons a r => cases r; exact ⟨_, rfl, a⟩
theorem qk' : MtD K M.hA' (tM' K) := by
  intro F H T fp a xs ds dz Q f oa hx h k
  have fin : ∀ {ds : List M.D} {p : Addr} {vs : List V}, (SqL K H p vs \/ SqT K H p vs) -> FzA K F T vs ds -> ((M.cE' ds).bind fun ys => if (ys.map List.length).sum + ys.length * a.length <= M.d7' then some (M.D.str (M.b3' a ys)) else none) = some dz -> tM' K (.str (sx a)) [.ref p] H Q := by
    intro ds p vs hp za e
    cases q : M.cE' ds with
    | none => rw [q] at e; cases e
    | some ss =>
      rw [q, Option.bind_some] at e
      split at e
      . rename_i hl
        cases e
        obtain ⟨rfl, os⟩ := j9' za q
        refine ⟨_, p, ss.map sx, rfl, rfl, hp, ?_, ?_⟩
        . rw [List.map_map, show ss.map (Str.length ∘ sx) = ss.map List.length from List.map_congr_left fun s _ => bV' s, List.length_map, bV']
          exact hl
        . rw [rI']
          refine k.here f (.str ⟨fun c hc => ?_, Nat.le_trans (de' a ss) hl⟩)
          rcases hE' a ss c hc with h | ⟨s, h1, h2⟩
          . exact oa.1 c h
          . exact (os s h1).1 c h2
      . cases e
  unfold M.hA' at h
  split at h
  . obtain ⟨v, rfl, z⟩ := hx.one
    obtain ⟨p, vs, rfl, ha, za⟩ := z.lst_inv
    exact fin (.inl (SqL.of (f.low _ _ ha))) za h
  . obtain ⟨v, rfl, z⟩ := hx.one
    obtain ⟨p, vs, rfl, ha, za⟩ := z.tup_inv
    exact fin (.inr (seqT f.low ha)) za h
  . cases h
end
section
variable {X : Cx} {W : WX} {K : PySem.W.Frag} {cpos apos p : Pos} {name : Str} {id T : String} {o e : Expr} {es : List Expr} {mo : M.ME} {as : M.MA} {σ : St} {H : Hp} {Q : VK}
theorem rC' {f : M.Tx -> List M.D -> Option M.D} {r : V -> List V -> Hp -> VK -> Prop} (hf : MtD K f r) (h : qE K W (M.eMt f mo as) σ H Q) : tBM K "str" r (qE K W mo) (qA K W as) σ H Q := by
  obtain ⟨ρ, F, T, fr, rel, h⟩ := h
  refine aF' rel h fun dx ρ1 v H1 F1 T1 e1 z1 r1 h1 => ?_
  cases dx <;> try exact h1.elim
  obtain ⟨rfl, o⟩ := z1.str_inv
  refine ⟨rfl, ?_⟩
  refine cb' r1 h1 fun ds ρ2 vs H2 F2 T2 e2 z2 r2 h2 => ?_
  obtain ⟨dz, ez, q⟩ := a4'.ofO h2
  obtain ⟨fp, f2, back⟩ := r2.fp
  exact hf f2 o z2 ez fun v' H3 F3 s zz f3 => q v' H3 F3 T2 (e1.trans (e2.trans (.of s))) zz (back H3 F3 s f3)
theorem tt' {f : M.Tx -> List M.D -> Option M.D} {r : V -> List V -> Hp -> VK -> Prop} (slot : Slot "str" name id) (hty : typeOf (.builtin id) = pure (.type "method_descriptor")) (hm : MtR X id r) (hf : MtD X.K f r) (ho : SE X W o mo) (ha : SA X W (e :: es) as)
    (hbase : attributeBase o name X.env (eval o X.env) = eval o X.env := by rfl)
    (hfew : ((backTo cpos (starEach (e :: es) X.env)).all (fun x => !x.1) && (backToKw cpos (keywordEach [] X.env)).all (fun x => x.1.isSome)
      && decide ((e :: es).length + ([] : List Keyword).length + (if ([] : List Keyword).isEmpty then 0 else 1) < 30)) = true := by rfl)
    (hline : (apos.endLine == cpos.line) = true := by rfl) (hs : starEach (e :: es) X.env = (false, eval e X.env) :: starEach es X.env := by rfl) (hplain : (backTo cpos (starEach es X.env)).any (·.1) = false := by rfl) :
    SE X W (.Call (.Attribute o name apos) (e :: es) [] cpos) (M.eMt f mo as) := PE.imp (pe_bm PySem.F.plainAttrs_str slot hty hm ho ha hbase hfew hline hs hplain) fun _ _ _ h => rC' hf h
end
end S
namespace S
open PySem PySem.Spec PyProof.Rows L2
variable [Wd] [Hot]
section
variable {K : PySem.W.Frag} {F F' H H' : Hp} {T T' : List Addr} {fp fq fr : Fp} {ρ : M.PSt} {σ : St} {W : WX} {Q : VK}
theorem RpW.get {l : List Addr} {w : M.W} {n : Nat} {ob : M.Ob} (r : RpW K F T l w fp) (h : w[n]? = some ob) : ∃ a f1 f2 f3, l[n]? = some a /\ fp = f1 ++ (f2 ++ f3) /\ RpOb K F T a ob f2 ∧
    ∀ F' T' ob' f2', Ext F T F' T' -> RpOb K F' T' a ob' f2' -> RpW K F' T' l (w.set n ob') (f1 ++ (f2' ++ f3)) := by
  induction r generalizing n with
  | nil => cases h
  | @cons a l ob0 w fa fb r0 r ih =>
    cases n with
    | zero =>
      cases h
      exact ⟨a, [], fa, fb, rfl, rfl, r0, fun F' T' ob' f2' e r' => (RpW.cons r' (r.mono e) : RpW K F' T' _ _ (f2' ++ fb))⟩
    | succ n =>
      obtain ⟨a', f1, f2, f3, h1, rfl, h3, h4⟩ := ih (n := n) h
      refine ⟨a', fa ++ f1, f2, f3, h1, by simp, h3, fun F' T' ob' f2' e r' => ?_⟩
      rw [List.append_assoc]
      exact .cons (r0.mono e) (h4 F' T' ob' f2' e r')
theorem RpW.len {l : List Addr} {w : M.W} (r : RpW K F T l w fp) : l.length = w.length := by
  induction r with
  | nil => rfl
  | cons _ _ ih => exact congrArg (· + 1) ih
theorem RpA.get : ∀ {vs : List V} {os : List M.O} {fp : Fp} {i : Nat} {d : M.D}, RpA K F T vs os fp -> os[i]? = some (.fz d) -> ∃ v, vs[i]? = some v /\ Fz K F T v d
  | _, _, _, _, _, .nil, e => by cases e
  | _, _, _, 0, _, .cons h _, e => by
    have e := Option.some.inj e
    subst e
    cases h with
    | fz z => exact ⟨_, rfl, z⟩
  | _, _, _, i + 1, _, .cons _ r, e => RpA.get (i := i) r e
theorem RpA.ati {vs : List V} {os : List M.O} {i : Int} {d : M.D} (h : RpA K F T vs os fp) (e : M.ati os i = some (.fz d)) : ∃ v, atI vs i = some v /\ Fz K F T v d := by
  unfold M.ati at e
  unfold atI
  rw [h.length]
  cases q : M.ixn os.length i with
  | none => rw [q] at e; cases e
  | some j =>
    rw [q] at e
    obtain ⟨v, h1, h2⟩ := h.get (i := j) e
    have q' : ixN os.length i = some j := q
    rw [q']
    exact ⟨v, h1, h2⟩
theorem Rel.wlist (rel : Rel K ρ σ H F T fr) {n : Nat} {os : List M.O} (h : ρ.w[n]? = some (.lst os)) : ∃ a vs f2, T[n]? = some a /\ H a = some (.lst vs) /\ RpA K F T vs os f2 ∧
    ∀ vs' os' f2' fr', RpA K F T vs' os' f2' -> Part (f2' ++ fr') (f2 ++ fr) -> Rel K ⟨ρ.env, ρ.w.set n (.lst os')⟩ σ (upd H a (.lst vs')) F T fr' := by
  obtain ⟨fe, fw, re, rw, f⟩ := rel
  obtain ⟨a, f1, f2, f3, h1, rfl, h3, h4⟩ := rw.get h
  cases h3 with
  | lst r =>
    rename_i vs fp0
    refine ⟨a, vs, fp0, h1, (f.at_ (a, .lst vs) (by simp)).1, r, fun vs' os' f2' fr' r' pt => ?_⟩
    have e5 := h4 F T (.lst os') ((a, .lst vs') :: f2') .refl (.lst r')
    refine ⟨fe, _, re, e5, ?_⟩
    have fA : FpH F H ((fe ++ f1) ++ ((a, .lst vs) :: (f3 ++ (fp0 ++ fr)))) := f.part (by
      constructor
      . intro e h
        simp only [List.mem_append, List.mem_cons] at *
        grind
      . intro x
        simp only [keys, List.map_append, List.map_cons, List.count_append, List.count_cons] at *
        omega)
    have fB := fA.write (o' := .lst vs')
    refine fB.part ?_
    have pm := pt.m
    constructor
    . intro e h
      have := pm e
      simp only [List.mem_append, List.mem_cons] at *
      grind
    . intro x
      have := pt.c x
      simp only [keys, List.map_append, List.map_cons, List.count_append, List.count_cons] at *
      omega
theorem RpA.set {v : V} {d : M.D} (zd : Fz K F T v d) : ∀ {os : List M.O} {vs : List V} {f2 : Fp} (j : Nat), RpA K F T vs os f2 -> ∃ f2', RpA K F T (vs.set j v) (os.set j (.fz d)) f2' /\ Part f2' f2
  | [], _, _, _, .nil => ⟨[], .nil, .refl⟩
  | o :: os, _, _, 0, .cons r0 r => ⟨_, RpA.cons (fp := []) (.fz zd) r, .right .refl⟩
  | o :: os, _, _, j + 1, .cons r0 r => by
    obtain ⟨f2', q1, q2⟩ := RpA.set zd j r
    exact ⟨_, .cons r0 q1, .app .refl q2⟩
theorem RpA.set' {v : V} {d : M.D} {vs : List V} {os : List M.O} {fp : Fp} (h : RpA K F T vs os fp) (j : Nat) (zd : Fz K F T v d) : ∃ f2', RpA K F T (vs.set j v) (os.set j (.fz d)) f2' /\ Part f2' fp := RpA.set zd j h
theorem oo' {w w' : M.W} {x k d : M.D} (h : M.oq' w x k d = some w') : ∃ n z os j, x = .obj n /\ k = .int z /\ w[n]? = some (.lst os) /\ M.ixn os.length z = some j /\ w' = w.set n (.lst (os.set j (.fz d))) := by
  unfold M.oq' at h
  split at h
  . rename_i n z
    split at h
    . rename_i os e
      cases q : M.ixn os.length z with
      | none => rw [q] at h; cases h
      | some j =>
        rw [q] at h
        cases h
        exact ⟨n, z, os, j, rfl, rfl, e, q, rfl⟩
    . cases h
  . cases h
theorem o5' {ma mb : M.ME} (h : qE K W (M.gy' ma mb) σ H Q) : tOp (rIx K) (qE K W ma) (qE K W mb) σ H Q := by
  obtain ⟨ρ, F, T, fr, rel, h⟩ := h
  refine aF' rel h fun dx ρ1 v H1 F1 T1 e1 z1 r1 h1 => ?_
  refine aF' r1 h1 fun dy ρ2 u H2 F2 T2 e2 z2 r2 h2 => ?_
  obtain ⟨dz, ez, q⟩ := a4'.ofO h2
  by_cases ho : ∃ n, dx = .obj n
  . obtain ⟨n, rfl⟩ := ho
    cases e : ρ2.w[n]? with
    | none => simp only [M.ixW, e] at ez; cases ez
    | some ob =>
      cases ob with
      | lst os =>
        simp only [M.ixW, e] at ez
        obtain ⟨a, vs, f2, h3, h4, h5, _⟩ := r2.wlist e
        cases z1.mono e2 with
        | obj t =>
          rw [h3] at t
          cases t
          cases dy <;> try (cases ez; done)
          rename_i i
          cases z2
          unfold M.ixO at ez
          cases e6 : M.ati os i with
          | none => simp only [e6] at ez; cases ez
          | some o =>
            cases o <;> simp only [e6] at ez <;> try (cases ez; done)
            cases ez
            obtain ⟨v', h7, h8⟩ := h5.ati e6
            exact .inl ⟨_, vs, i, v', rfl, rfl, SqL.of h4, h7, q v' H2 F2 T2 (e1.trans e2) h8 r2⟩
      | dct ks vs => simp only [M.ixW, e] at ez; cases ez
      | dcx ks vs => simp only [M.ixW, e] at ez; cases ez
      | ins C fs => simp only [M.ixW, e] at ez; cases ez
  . have ez' : M.pIx dx dy = some dz := by
      cases dx <;> first | exact ez | exact absurd ⟨_, rfl⟩ ho
    obtain ⟨fp, f2, back⟩ := r2.fp
    exact hv' f2 (z1.mono e2) z2 ez' fun v' H3 F3 s zz f3 => q v' H3 F3 T2 (e1.trans (e2.trans (.of s))) zz (back H3 F3 s f3)
end
section
variable {X : Cx} {W : WX} {pos tpos : Pos} {a b o i : Expr} {ma mb mo mi : M.ME} {as : M.MA} {es : List Expr} {σ : St} {H : Hp} {Q : VK}
theorem bY' (ha : SE X W a ma) (hb : SE X W b mb) (hs : PlainIx b) : SE X W (.Subscript a b pos) (M.gy' ma mb) := PE.imp (pe_ix ix_seq ha hb hs) fun _ _ _ h => o5' h
theorem er' (ha : SE X W a ma) (ho : SE X W o mo) (hi : SE X W i mi)
    (hst : ∀ v, assign (.Subscript o i tpos) X.env v = (do
      let ov ← holding [v] (eval o X.env)
      let iv ← holding [v, ov] (eval i X.env)
      standAt tpos
      holding [v, ov, iv] (setItem ov iv v)
      release [v, ov, iv] []) := by intro _; rfl)
    (hs : swapsWithSole [.Subscript o i tpos] a pos.line X.env = pure false := by rfl) (hw : swappedStores [.Subscript o i tpos] a X.env = pure none := by rfl)
    (h1 : (assignEach [.Subscript o i tpos] X.env).map (·.2) = [assign (.Subscript o i tpos) X.env] := by rfl) : SS X W (.Assign [.Subscript o i tpos] a pos) (M.f1' mo mi ma) :=
  PS.imp (ps_asg ha (pg_sub ho hi set_list hst) hs hw h1) fun D σ H ⟨ρ, F, T, fr, rel, h⟩ => by
    refine dw' rel h fun d ρ1 v H1 F1 T1 e1 z1 r1 h1 => ?_
    refine dw' r1 h1 fun dx ρ2 u H2 F2 T2 e2 z2 r2 h2 => ?_
    refine dw' r2 h2 fun dk ρ3 t H3 F3 T3 e3 z3 r3 h3 => ?_
    cases es : M.oq' ρ3.w dx dk d with
    | none => rw [es] at h3; exact h3.elim
    | some w' =>
      rw [es] at h3
      obtain ⟨n, z, os, j, rfl, rfl, e, ej, rfl⟩ := oo' es
      cases z3
      obtain ⟨p, vs, f2, h4, h5, h6, back⟩ := r3.wlist e
      cases z2.mono e3 with
      | obj t =>
        rw [h4] at t
        cases t
        have ej' : ixN vs.length z = some j := by rw [h6.length]; exact ej
        obtain ⟨f2', q1, q2⟩ := h6.set' j ((z1.mono e2).mono e3)
        exact ⟨p, vs, z, j, rfl, rfl, h5, ej', h3 σ _ F3 T3 .refl (back _ _ f2' fr q1 (.app q2 .refl))⟩
theorem tq' (h : SA X W es as) : SO X W (.List es pos) (M.t6' as) := PE.imp (pe_lst h) fun σ H Q ⟨ρ, F, T, fr, rel, h⟩ => by
  refine cb' rel h fun ds ρ1 vs H1 F1 T1 e1 z1 r1 h1 => ?_
  split at h1
  . rename_i hl
    refine ⟨by rw [z1.length, bD']; exact hl, fun p hp => ?_⟩
    obtain ⟨fe, fw, re, rw, f⟩ := r1
    have eT : Ext F1 T1 F1 (T1 ++ [p]) := ⟨fun _ _ h => .inl h, ⟨[p], rfl⟩⟩
    have hn : (T1 ++ [p])[ρ1.w.length]? = some p := by rw [<- rw.len, List.getElem?_append_right (Nat.le_refl _), Nat.sub_self]; rfl
    have app : ∀ {l : List Addr} {w : M.W} {fw : Fp}, RpW X.K F1 T1 l w fw -> ∃ fw', RpW X.K F1 (T1 ++ [p]) (l ++ [p]) (w ++ [.lst (ds.map .fz)]) fw' /\ Part fw' ((p, .lst vs) :: fw) := by
      intro l w fw r
      induction r with
      | nil => exact ⟨_, RpW.cons (RpOb.lst (RpA.of_fz (z1.mono eT))) .nil, by simp only [List.append_nil]; exact .refl⟩
      | @cons a l ob w fa fb r0 r ih =>
        obtain ⟨fw', q1, q2⟩ := ih
        refine ⟨fa ++ fw', .cons (r0.mono eT) q1, ?_⟩
        have p1 : Part (fa ++ fw') (fa ++ ((p, .lst vs) :: fb)) := .app .refl q2
        refine p1.trans ?_
        constructor
        . intro e h
          simp only [List.mem_append, List.mem_cons] at *
          grind
        . intro x
          simp only [keys, List.map_append, List.map_cons, List.count_append, List.count_cons] at *
          omega
    obtain ⟨fw', q1, q2⟩ := app rw
    refine h1 (.ref p) (upd H1 p (.lst vs)) F1 (T1 ++ [p]) [] (e1.trans eT) (.fz (.obj hn)) ⟨fe, fw', re.mono eT, q1, ?_⟩
    refine (f.own hp).part ?_
    have p1 : Part (fe ++ (fw' ++ ([] ++ fr))) (fe ++ (((p, .lst vs) :: fw) ++ fr)) := .app .refl (.app q2 .nilL)
    refine p1.trans ?_
    constructor
    . intro e h
      simp only [List.mem_append, List.mem_cons] at *
      grind
    . intro x
      simp only [keys, List.map_append, List.map_cons, List.count_append, List.count_cons] at *
      omega
  . exact h1.elim
theorem ng' {K : PySem.W.Frag} {n : Nat} (h : qE K W (M.iH' n) σ H Q) : tCB (rf' K) (tCons (tVar n) tNil) σ H Q := by
  obtain ⟨ρ, F, T, fr, rel, h⟩ := h
  unfold M.iH' at h
  split at h
  . rename_i o e
    obtain ⟨dz, ez, q⟩ := a4'.ofO h
    obtain ⟨fe, fw, re, rw, f⟩ := id rel
    obtain ⟨v, f1, f2, f3, h1, rfl, h3, _⟩ := re.get e (M.ik' (fun z => by rw [z] at ez; exact nomatch (show (none : Option M.D) = some dz from ez)) fun z => by rw [z] at ez; exact nomatch (show (none : Option M.D) = some dz from ez))
    refine ⟨v, h1, ?_⟩
    cases h3 with
    | fz z =>
      exact bx' f z ez fun v' H3 F3 s zz f3 => q v' H3 F3 T (.of s) zz ⟨_, fw, re.mono (.of s), rw.mono (.of s), f3⟩
    | @lst p vs os fp0 r =>
      cases ez
      refine .inl (.inr (.inl ⟨p, vs, rfl, .inl (SqL.of (f.at_ (p, .lst vs) (by simp)).1), ?_⟩))
      rw [r.length]
      exact q _ H F T .refl (.int _) rel
    | @tup p vs os fp0 r =>
      cases ez
      refine .inl (.inr (.inl ⟨p, vs, rfl, .inr (SqT.of (f.at_ (p, .tup vs) (by simp)).1), ?_⟩))
      rw [r.length]
      exact q _ H F T .refl (.int _) rel
    | @dct p kvs os fp0 _ r =>
      cases ez
      refine .inl (.inr (.inr ⟨p, kvs, rfl, .inl (f.at_ (p, .dK kvs) (by simp)).1, q _ H F T .refl ?_ rel⟩))
      rw [List.length_map]
      exact .int _
    | @dcl p kvs ks os fp0 ke r =>
      cases ez
      have e2 : kvs.length = ks.length := by have := congrArg List.length ke.e; simpa using this
      refine .inr (.inl ⟨p, kvs, rfl, .inl (f.at_ (p, dcL p kvs) (by simp)).1, q _ H F T .refl ?_ rel⟩)
      rw [e2]
      exact .int _
    | @dcn p xs ks os fp0 ke z r =>
      cases ez
      have e2 : xs.length = ks.length := by have := congrArg List.length ke.e; simpa using this
      refine .inr (.inr ⟨p, xs, rfl, .inl (f.at_ (p, dcN p xs) (by simp)).1, q _ H F T .refl ?_ rel⟩)
      rw [e2]
      exact .int _
  . exact h.elim
theorem q7' {n : Nat} {x : Str} {p : Pos} (hwd : X.prog = Wd.P /\ X.w = Wd.w) (hg : Gl X x) (hm : X.mg x = none) (hv : bootBuiltins x = some (.builtin "len")) (ha : PE X a (tVar n)) (hn : x ≠ "__name__" := by decide) (hdb : (x == ("__debug__" : Str)) = false := by decide)
    (he : starEach [a] X.env = (false, eval a X.env) :: starEach [] X.env := by rfl) (hpl : (backTo pos (starEach [] X.env)).any (·.1) = false := by rfl) : SE X W (.Call (.Name x p) [a] [] pos) (M.iH' n) := PE.imp (pe_callB (aq' hwd) hg hm hv (pa_cons ha pa_nil he) hn hdb he hpl) fun _ _ _ => ng'
end
end S
namespace S
open PySem PySem.Spec PyProof.Rows L2
variable [Wd] [Hot]
local macro_rules | `(tactic| walk_at "parts") => `(tactic| (constructor; (intro e h; simp only [List.mem_append, List.mem_cons, List.not_mem_nil] at *; grind); (intro x; simp only [keys, List.map_append, List.map_cons, List.map_nil, List.count_append, List.count_cons, List.count_nil] at *; omega)))
theorem dN' {a b : String} (h : Str.ofString a = Str.ofString b) : a = b := by
  rw [Str.ofString_eq_toList, Str.ofString_eq_toList] at h
  have h2 : a.toList.map Char.toNat = b.toList.map Char.toNat := by
    have := congrArg (fun z : Str => z.cps.toList) h
    simpa using this
  have h3 : a.toList = b.toList := by
    have inj : ∀ (x y : List Char), x.map Char.toNat = y.map Char.toNat -> x = y := by
      intro x
      induction x with
      | nil => intro y h; cases y with
        | nil => rfl
        | cons _ _ => cases h
      | cons c x ih => intro y h; cases y with
        | nil => cases h
        | cons d y =>
          rw [List.map_cons, List.map_cons] at h
          injection h with h1 h2
          rw [ih y h2, show c = d from Char.toNat_inj.mp h1]
    exact inj _ _ h2
  exact String.toList_inj.mp h3
section
variable {K : PySem.W.Frag} {F F' H H' : Hp} {T T' : List Addr} {fp fq fr : Fp} {ρ : M.PSt} {σ : St} {W : WX} {Q : VK}
abbrev nW' (q : String × V) : Str × V := (Str.ofString q.1, q.2)
theorem nd' (f : String) : ∀ fv : List (String × V), (fv.map nW').lookup (Str.ofString f) = fv.lookup f
  | [] => rfl
  | (g, v) :: r => by
    rw [List.map_cons]
    by_cases h : f = g
    . subst h
      show List.lookup _ ((Str.ofString f, v) :: _) = _
      rw [List.lookup_cons_self, List.lookup_cons_self]
    . have h1 : (f == g) = false := by simpa using h
      have h2 : (Str.ofString f == Str.ofString g) = false := by
        rw [beq_eq_false_iff_ne]
        exact fun e => h (dN' e)
      show List.lookup _ ((Str.ofString g, v) :: _) = _
      simp only [List.lookup, h1, h2]
      exact nd' f r
theorem RpA.lookup {f : String} {o : M.O} : ∀ {fv : List (String × V)} {os : List M.O} {fp : Fp}, RpA K F T (fv.map (·.2)) os fp -> ((fv.map (·.1)).zip os).lookup f = some o →
    ∃ v f1 f2 f3, fv.lookup f = some v /\ fp = f1 ++ (f2 ++ f3) /\ Rp K F T v o f2
  | [], _, _, r, h => by cases r; cases h
  | (g, v) :: fv, _, _, r, h => by
    cases r with
    | @cons _ _ o1 os fp fq r0 r =>
      rw [List.map_cons, List.zip_cons_cons] at h
      by_cases e : f = g
      . subst e
        rw [List.lookup_cons_self] at h
        cases h
        exact ⟨v, [], fp, fq, List.lookup_cons_self, rfl, r0⟩
      . have h1 : (f == g) = false := by simpa using e
        simp only [List.lookup, h1] at h
        obtain ⟨v', f1, f2, f3, e1, e2, e3⟩ := RpA.lookup r h
        refine ⟨v', fp ++ f1, f2, f3, ?_, by rw [e2, List.append_assoc], e3⟩
        simp only [List.lookup, h1]
        exact e1
theorem ne' {f : String} : ∀ {fv : List (String × V)} {os : List M.O}, fv.length = os.length -> ((fv.map (·.1)).zip os).lookup f = none -> fv.lookup f = none
  | [], _, _, _ => rfl
  | (g, v) :: fv, [], h, _ => by cases h
  | (g, v) :: fv, o :: os, hl, h => by
    rw [List.map_cons, List.zip_cons_cons] at h
    by_cases e : f = g
    . subst e
      rw [List.lookup_cons_self] at h
      cases h
    . have h1 : (f == g) = false := by simpa using e
      simp only [List.lookup, h1] at h ⊢
      exact ne' (Nat.succ.inj hl) h
def putS (f : String) (v : V) : List (String × V) -> List (String × V)
  | [] => [(f, v)]
  | (g, x) :: r => if g = f then (g, v) :: r else (g, x) :: putS f v r
theorem kj' (f : String) (v : V) : ∀ fv : List (String × V), putF (Str.ofString f) v (fv.map nW') = (putS f v fv).map nW'
  | [] => rfl
  | (g, x) :: r => by
    rw [List.map_cons]
    show (if Str.ofString g = Str.ofString f then _ else _) = _
    unfold putS
    by_cases h : g = f
    . rw [if_pos h, if_pos (by rw [h])]
      rfl
    . rw [if_neg h, if_neg (fun e => h (dN' e)), kj' f v r]
      rfl
theorem RpA.putS {f : String} {o : M.O} {v : V} (q : Rp K F T v o fq) : ∀ {fv : List (String × V)} {os : List M.O} {fp : Fp}, RpA K F T (fv.map (·.2)) os fp →
    ∃ os' fp', M.nX' f o ((fv.map (·.1)).zip os) = ((S.putS f v fv).map (·.1)).zip os' /\ RpA K F T ((S.putS f v fv).map (·.2)) os' fp' /\ Part fp' (fq ++ fp)
  | [], _, _, r => by
    cases r
    exact ⟨[o], fq ++ [], rfl, .cons q .nil, by walk_at "parts"⟩
  | (g, x) :: fv, _, _, r => by
    cases r with
    | @cons _ _ o1 os fp fp2 r0 r =>
      unfold S.putS
      by_cases h : g = f
      . refine ⟨o :: os, fq ++ fp2, ?_, ?_, by walk_at "parts"⟩
        . rw [if_pos h, List.map_cons, List.zip_cons_cons]
          show (if g = f then _ else _) = _
          rw [if_pos h, List.map_cons, List.zip_cons_cons]
        . rw [if_pos h]
          exact .cons q r
      . obtain ⟨os', fp', h1, h2, h3⟩ := RpA.putS q r
        refine ⟨o1 :: os', fp ++ fp', ?_, ?_, ?_⟩
        . rw [if_neg h, List.map_cons, List.zip_cons_cons]
          show (if g = f then _ else _) = _
          rw [if_neg h, h1, List.map_cons, List.zip_cons_cons]
        . rw [if_neg h]
          exact .cons r0 h2
        . have h4 : Part (fp ++ fp') (fp ++ (fq ++ fp2)) := .app .refl h3
          refine h4.trans ?_
          walk_at "parts"
theorem Rel.wins (rel : Rel K ρ σ H F T fr) {n : Nat} {C : String} {fs : List (String × M.O)} (h : ρ.w[n]? = some (.ins C fs)) :
    ∃ (a dx : Addr) (fv : List (String × V)) (os : List M.O) (f2 : Fp), T[n]? = some a /\ fs = (fv.map (·.1)).zip os /\ H a = some (.ins (He.ga K C) dx (fv.map nW')) /\ RpA K F T (fv.map (·.2)) os f2 ∧
    (∃ f0, FpH F H ((a, .ins (He.ga K C) dx (fv.map nW')) :: (f2 ++ f0))) ∧
    ∀ (fv' : List (String × V)) (os' : List M.O) (f2' fr' : Fp), RpA K F T (fv'.map (·.2)) os' f2' -> Part (f2' ++ fr') (f2 ++ fr) -> Rel K ⟨ρ.env, ρ.w.set n (.ins C ((fv'.map (·.1)).zip os'))⟩ σ (upd H a (.ins (He.ga K C) dx (fv'.map nW'))) F T fr' := by
  obtain ⟨fe, fw, re, rw, f⟩ := rel
  obtain ⟨a, f1, f2, f3, h1, rfl, h3, h4⟩ := rw.get h
  generalize eo : M.Ob.ins C fs = ob at h3
  cases h3 with
  | lst r => cases eo
  | dct _ r => cases eo
  | dcl _ r => cases eo
  | dcn _ _ r => cases eo
  | @ins dx C' fv os fp0 hd r =>
    cases eo
    have fA : FpH F H ((fe ++ f1) ++ ((a, .ins (He.ga K C) dx (fv.map nW')) :: (f3 ++ (fp0 ++ fr)))) := f.part (by walk_at "parts")
    refine ⟨a, dx, fv, os, fp0, h1, rfl, (f.at_ (a, .ins (He.ga K C) dx (fv.map nW')) (by simp)).1, r, ⟨fe ++ (f1 ++ (f3 ++ fr)), fA.part (by walk_at "parts")⟩, fun fv' os' f2' fr' r' pt => ?_⟩
    have e5 := h4 F T (.ins C ((fv'.map (·.1)).zip os')) ((a, .ins (He.ga K C) dx (fv'.map nW')) :: f2') .refl (.ins hd r')
    refine ⟨fe, _, re, e5, ?_⟩
    have fB := fA.write (o' := .ins (He.ga K C) dx (fv'.map nW'))
    refine fB.part ?_
    have pm := pt.m
    constructor
    . intro e h
      have := pm e
      simp only [List.mem_append, List.mem_cons] at *
      grind
    . intro x
      have := pt.c x
      simp only [keys, List.map_append, List.map_cons, List.count_append, List.count_cons] at *
      omega
theorem pd' {cs : List String} {f : String} {w : M.W} {x d : M.D} (h : M.gx' cs f w x = some d) : ∃ n C fs, x = .obj n /\ w[n]? = some (.ins C fs) /\ C ∈ cs /\ fs.lookup f = some (.fz d) := by
  unfold M.gx' at h
  split at h
  . rename_i n
    split at h
    . rename_i C fs e
      split at h
      . rename_i hC
        split at h
        . rename_i d' e2
          cases h
          exact ⟨n, C, fs, rfl, e, hC, e2⟩
        . cases h
      . cases h
    . cases h
  . cases h
theorem pc' {cs : List String} {f : String} {ma : M.ME} (hC : ∀ C ∈ cs, Cls K (He.ga K C) /\ NoAttr K (He.ga K C) (Str.ofString f)) (h : qE K W (M.qt' cs ma f) σ H Q) : tFld K (qE K W ma) (Str.ofString f) σ H Q := by
  obtain ⟨ρ, F, T, fr, rel, h⟩ := h
  refine aF' rel h fun dx ρ1 v H1 F1 T1 e1 z1 r1 h1 => ?_
  obtain ⟨d, ed, q⟩ := a4'.ofO h1
  obtain ⟨n, C, fs, rfl, ew, hm, el⟩ := pd' ed
  obtain ⟨a, dx, fv, os, f2, hT, rfl, hH, r, _, _⟩ := r1.wins ew
  obtain ⟨v', _, _, _, e2, _, e3⟩ := r.lookup el
  cases z1 with
  | obj t =>
    rw [hT] at t
    cases t
    cases e3 with
    | fz z => exact ⟨a, _, dx, _, v', rfl, hH, (hC C hm).1, (hC C hm).2, by rw [nd']; exact e2, q v' H1 F1 T1 e1 z r1⟩
theorem mO' {K : PySem.W.Frag} {w : M.W} {fr' : Fp} (r : n3' K w H F T fr) (p : Part fr' fr) : n3' K w H F T fr' := by
  obtain ⟨fe, fw, re, rw, f⟩ := r
  exact ⟨fe, fw, re, rw, f.part (.app .refl (.app .refl p))⟩
theorem bg'.frame {D : Ends} {r : M.Out} (h : bg' K W D F T fr r) (p : Part fr fq) : bg' K W D F T fq r := by
  cases r with
  | nx ρ => exact fun σ' H' F' T' e r => h σ' H' F' T' e (r.part p)
  | bk ρ => exact fun σ' H' F' T' e r => h σ' H' F' T' e (r.part p)
  | ct ρ => exact fun σ' H' F' T' e r => h σ' H' F' T' e (r.part p)
  | rt o w => exact fun v H' F' T' fp e z r => h v H' F' T' fp e z (mO' r (.app .refl p))
  | exc x ρ => exact fun σ' cls dd H' F' T' e z r => h σ' cls dd H' F' T' e z (r.part p)
  | bad => exact h
theorem EX.frame {x : M.Exc} (h : EX K W σ F T fr x ρ) (p : Part fr fq) : EX K W σ F T fq x ρ := fun cls dd H' F' T' e z r => h cls dd H' F' T' e z (r.part p)
theorem oF' {D : Ends} {m : M.ME} {k : M.D -> M.PSt -> M.Out} (rel : Rel K ρ σ H F T (fp ++ fr)) (h : bg' K W D F T fr ((m ρ).out k))
    (q : ∀ d ρ1 v H1 F1 T1, Ext F T F1 T1 -> Fz K F1 T1 v d -> Rel K ρ1 σ H1 F1 T1 (fp ++ fr) -> bg' K W D F1 T1 fr (k d ρ1) -> Q v H1) : qE K W m σ H Q :=
  ⟨ρ, F, T, fp ++ fr, rel, (c5' h).mono (fun d ρ1 h1 v H1 F1 T1 e z r => q d ρ1 v H1 F1 T1 e z r (h1.mono e)) fun _ _ z => z.frame (.right .refl)⟩
theorem qX' {cs : List String} {f : String} {o : M.O} {w w' : M.W} {x : M.D} (h : M.stF cs f o w x = some w') : ∃ n C fs, x = .obj n /\ w[n]? = some (.ins C fs) /\ C ∈ cs /\ fs.length < 1000 /\ w' = w.set n (.ins C (M.nX' f o fs)) := by
  unfold M.stF at h
  split at h
  . rename_i n
    split at h
    . rename_i C fs e
      split at h
      . rename_i hC
        cases h
        exact ⟨n, C, fs, rfl, e, hC.1, hC.2, rfl⟩
      . cases h
    . cases h
  . cases h
theorem mE' {cs : List String} {f : String} {ma : M.ME} {mo : M.MO} {D : Ends} (hC : ∀ C ∈ cs, Cls K (He.ga K C) /\ NoAttr K (He.ga K C) (Str.ofString f)) (h : qS K W (M.sFld cs ma f mo) D σ H) : sFld K (qE K W ma) (qO K W mo) (Str.ofString f) D σ H := by
  obtain ⟨ρ, F, T, fr, rel, h⟩ := h
  refine ey' rel h fun o ρ1 y H1 F1 T1 fp e1 z1 r1 h1 => ?_
  refine oF' r1 h1 fun d ρ2 x H2 F2 T2 e2 z2 r2 h2 => ?_
  cases es : M.stF cs f o ρ2.w d with
  | none => rw [es] at h2; exact h2.elim
  | some w' =>
    rw [es] at h2
    obtain ⟨n, C, fs, rfl, ew, hm, hl, rfl⟩ := qX' es
    obtain ⟨a, dx, fv, os, f2, hT, rfl, hH, r, _, back⟩ := r2.wins ew
    cases z2 with
    | obj t =>
      rw [hT] at t
      cases t
      obtain ⟨os', fp', p1, p2, p3⟩ := RpA.putS (z1.mono e2) r (f := f)
      have hlen := r.length
      rw [List.length_map] at hlen
      rw [List.length_zip, List.length_map, hlen, Nat.min_self] at hl
      refine ⟨a, _, dx, _, rfl, hH, (hC C hm).1, (hC C hm).2, by rw [List.length_map, hlen]; exact hl, ?_⟩
      rw [kj']
      refine h2 σ _ F2 T2 .refl ?_
      show Rel K ⟨ρ2.env, ρ2.w.set n (.ins C (M.nX' f o _))⟩ σ _ F2 T2 fr
      rw [p1]
      refine back _ _ fp' fr p2 ?_
      have h4 : Part (fp' ++ fr) ((fp ++ f2) ++ fr) := .app p3 .refl
      refine h4.trans ?_
      walk_at "parts"
theorem RpW.snoc {a : Addr} {ob : M.Ob} {fb : Fp} (q : RpOb K F T a ob fb) {l : List Addr} {w : M.W} {fw : Fp} (r : RpW K F T l w fw) : ∃ fw', RpW K F T (l ++ [a]) (w ++ [ob]) fw' /\ Part fw' (fb ++ fw) := by
  induction r with
  | nil => exact ⟨_, RpW.cons q .nil, by walk_at "parts"⟩
  | @cons a l ob w fa fb' r0 r ih =>
    obtain ⟨fw', q1, q2⟩ := ih
    refine ⟨fa ++ fw', .cons r0 q1, ?_⟩
    have p1 : Part (fa ++ fw') (fa ++ (fb ++ fb')) := .app .refl q2
    refine p1.trans ?_
    walk_at "parts"
theorem Rel.reenv {env : List (Option M.O)} {fe : Fp} {w' : M.W} {F0 : Hp} {T0 : List Addr} (re : RpE K F0 T0 σ env fe) (e : Ext F0 T0 F T) (r : n3' K (w') H F T (fp ++ (fe ++ fr))) : Rel K ⟨env, w'⟩ σ H F T (fp ++ fr) := by
  obtain ⟨fe', fw', re', rw', f'⟩ := r
  cases re'
  exact ⟨fe, fw', re.mono e, rw', f'.part (by walk_at "parts")⟩
theorem na' {C : String} {init : M.MF} {as : M.MA} (h : qO K W (M.kY' C init as) σ H Q) : p4' (He.ga K C) (spM K init) (WE W) (qA K W as) σ H Q := by
  obtain ⟨ρ, F, T, fr, rel, h⟩ := h
  refine cb' rel h fun ds ρ1 vs H1 F1 T1 e1 z1 r1 h1 => ?_
  intro x dx hx hdx hne
  obtain ⟨fe, fw, re, rw', f⟩ := r1
  have s1 : Same F1 (upd F1 dx (.own x)) := bO' (f.free hdx)
  have eT : Ext F1 T1 (upd F1 dx (.own x)) (T1 ++ [x]) := ⟨.of s1, ⟨[x], rfl⟩⟩
  have hn : (T1 ++ [x])[ρ1.w.length]? = some x := by rw [<- rw'.len, List.getElem?_append_right (Nat.le_refl _), Nat.sub_self]; rfl
  have qi : RpOb K (upd F1 dx (.own x)) (T1 ++ [x]) x (.ins C []) [(x, .ins (He.ga K C) dx [])] := RpOb.ins (fs := []) (os := []) (fp := []) upd_same .nil
  obtain ⟨fw', q1, q2⟩ := RpW.snoc qi (rw'.mono eT)
  have f1 : FpH (upd F1 dx (.own x)) (upd (upd H1 dx (.own x)) x (.ins (He.ga K C) dx [])) ((x, .ins (He.ga K C) dx []) :: (fe ++ (fw ++ fr))) := (f.new hdx).own (by rw [upd_ne (Ne.symm hne)]; exact hx)
  refine ⟨.obj ρ1.w.length :: ds, ρ1.w ++ [.ins C []], _, _, fe ++ fr, .cons (.obj hn) (z1.mono eT), ⟨[], fw', t8', q1, f1.part ?_⟩, ?_⟩
  . have p1 : Part ([] ++ (fw' ++ (fe ++ fr))) ([] ++ (([(x, .ins (He.ga K C) dx [])] ++ fw) ++ (fe ++ fr))) := .app .refl (.app q2 .refl)
    refine p1.trans ?_
    walk_at "parts"
  . cases em : init (.obj ρ1.w.length :: ds) (ρ1.w ++ [.ins C []]) with
    | bad => rw [em] at h1; exact h1.elim
    | ok o w' =>
      rw [em] at h1
      intro v H' F' T' fp e z r
      cases z with
      | fz z =>
        rename_i d
        cases d <;> try exact h1.elim
        refine ⟨z.non_inv, h1 (.ref x) H' F' T' [] (e1.trans (eT.trans e)) (.fz (.obj (e.get hn))) ?_⟩
        exact Rel.reenv (re.mono eT) e r
      | lst _ => exact h1.elim
      | tup _ => exact h1.elim
      | dct _ _ => exact h1.elim
      | dcl _ _ => exact h1.elim
      | dcn _ _ _ => exact h1.elim
    | exc x w' =>
      rw [em] at h1
      intro cls dd H' F' T' e z r
      refine h1 cls dd H' F' T' (eT.trans e) z ?_
      exact Rel.reenv (fp := []) (re.mono eT) e r
theorem np' {cs : List String} {m : String} {w : M.W} {x : M.D} (h : M.dg' cs m w x = true) : ∃ C n fs, C ∈ cs /\ x = .obj n /\ w[n]? = some (.ins C fs) /\ fs.lookup m = none := by
  unfold M.dg' at h
  split at h
  . rename_i n
    split at h
    . rename_i C' fs e
      rw [Bool.and_eq_true, decide_eq_true_eq, Option.isNone_iff_eq_none] at h
      exact ⟨C', n, fs, h.1, rfl, e, h.2⟩
    . cases h
  . cases h
theorem hz' {cs : List String} {m : String} {mf : M.MF} {ma : M.ME} {as : M.MA} (h : qO K W (M.e9' cs m mf ma as) σ H Q) : mw' K cs (Str.ofString m) (spM K mf) (WE W) (qE K W ma) (qA K W as) σ H Q := by
  obtain ⟨ρ, F, T, fr, rel, h⟩ := h
  refine aF' rel h fun dx ρ1 v H1 F1 T1 e1 z1 r1 h1 => ?_
  split at h1
  . rename_i hi
    obtain ⟨C, n, fs, hC, rfl, ew, el⟩ := np' hi
    obtain ⟨a, dx, fv, os, f2, hT, rfl, hH, r, _, _⟩ := r1.wins ew
    cases id z1 with
    | obj t =>
      rw [hT] at t
      cases t
      have hlen := r.length
      rw [List.length_map] at hlen
      refine ⟨C, hC, a, dx, _, rfl, hH, by rw [nd']; exact ne' hlen el, ?_⟩
      refine cb' r1 h1 fun ds ρ2 vs H2 F2 T2 e2 z2 r2 h2 => ?_
      obtain ⟨fe, fw, re, rw', f⟩ := r2
      refine ⟨.obj n :: ds, ρ2.w, F2, T2, fe ++ fr, .cons (z1.mono e2) z2, ⟨[], fw, t8', rw', f.part (by walk_at "parts")⟩, ?_⟩
      cases em : mf (.obj n :: ds) ρ2.w with
      | bad => rw [em] at h2; exact h2.elim
      | ok o w' =>
        rw [em] at h2
        exact fun v H' F' T' fp e z r => h2 v H' F' T' fp (e1.trans (e2.trans e)) z (Rel.reenv re e r)
      | exc x w' =>
        rw [em] at h2
        exact fun cls dd H' F' T' e z r => h2 cls dd H' F' T' e z (Rel.reenv (fp := []) re e r)
  . exact h1.elim
end
section
variable {X : Cx} {W : WX} {pos apos p pos' : Pos} {e o value : Expr} {es : List Expr} {ma : M.ME} {mo : M.MO} {as : M.MA} {k : Nat} {x : Str} {ps : List Str} {mf : M.MF}
theorem mF' {f : String} (cs : List String) (ha : SE X W e ma) (hC : ∀ C ∈ cs, Cls X.K (He.ga X.K C) /\ NoAttr X.K (He.ga X.K C) (Str.ofString f)) (hb : attributeBase e (Str.ofString f) X.env (eval e X.env) = eval e X.env := by rfl) :
    SE X W (.Attribute e (Str.ofString f) pos) (M.qt' cs ma f) := PE.imp (pe_fld ha hb) fun _ _ _ h => pc' hC h
theorem et' {f : String} (cs : List String) (ha : SE X W o ma) (hv : SO X W value mo) (hC : ∀ C ∈ cs, Cls X.K (He.ga X.K C) /\ NoAttr X.K (He.ga X.K C) (Str.ofString f)) (hs : swapsWith value (some (.Attribute o (Str.ofString f) pos')) pos.line X.env = pure false := by rfl) :
    SS X W (.Assign [.Attribute o (Str.ofString f) pos'] value pos) (M.sFld cs ma f mo) := PS.imp (ps_fld ha hv hs) fun _ _ _ h => mE' hC h
theorem q3' {C : String} (F : OgM X.prog X.w X.K X.mg X.base k (He.ga X.K C) "__init__" ps (spM X.K mf)) (hr : RoomG (k + 1) X.A) (hg : Gl X x) (Mk' : Mk X.K (He.ga X.K C) (He.ma X.K (He.ga X.K C) "__init__")) (hm : X.mg x = some (.ref (He.ga X.K C))) (tk : Takes X W)
    (ha : SA X W (e :: es) as) (hdb : (x == ("__debug__" : Str)) = false := by decide) (he : starEach (e :: es) X.env = (false, eval e X.env) :: starEach es X.env := by rfl) (hpl : (backTo pos (starEach es X.env)).any (·.1) = false := by rfl) :
    SO X W (.Call (.Name x p) (e :: es) [] pos) (M.kY' C mf as) := PE.imp (oP' F hr hg Mk' hm tk ha hdb he hpl) fun _ _ _ h => na' h
theorem q0' {C m : String} {cs : List String} {pl : Sem Bool} (he : SE X W o ma) (F : OgM X.prog X.w X.K X.mg X.base k (He.ga X.K C) (Str.ofString m) ps (spM X.K mf)) (hr : RoomG k X.A) (hm : ig' X.K cs (Str.ofString m) (He.ma X.K (He.ga X.K C) (Str.ofString m))) (tk : Takes X W)
    (ha : SA X W (e :: es) as)
    (hst : starEach (e :: es) X.env = (false, eval e X.env) :: starEach es X.env := by rfl) (hpl : (backTo pos (starEach es X.env)).any (·.1) = false := by rfl)
    (ht : eval (.Call (.Attribute o (Str.ofString m) apos) (e :: es) [] pos) X.env = (do
      let ov ← eval o X.env
      standAt apos.atName
      let (f, first) ← holding [ov] (getMethod ov (Str.ofString m) pl)
      callWith pos f first (backTo pos (starEach (e :: es) X.env)) (backToKw pos (keywordEach [] X.env))) := by rfl) :
    SO X W (.Call (.Attribute o (Str.ofString m) apos) (e :: es) [] pos) (M.e9' cs m mf ma as) := PE.imp (oO' he F hr hm tk ha hst hpl ht) fun _ _ _ h => hz' h
theorem fY' {C m : String} {cs : List String} {pl : Sem Bool} (he : SE X W o ma) (F : OgM X.prog X.w X.K X.mg X.base k (He.ga X.K C) (Str.ofString m) ps (spM X.K mf)) (hr : RoomG k X.A) (hm : ig' X.K cs (Str.ofString m) (He.ma X.K (He.ga X.K C) (Str.ofString m))) (tk : Takes X W)
    (ht : eval (.Call (.Attribute o (Str.ofString m) apos) [] [] pos) X.env = (do
      let ov ← eval o X.env
      standAt apos.atName
      let (f, first) ← holding [ov] (getMethod ov (Str.ofString m) pl)
      callWith pos f first (backTo pos (starEach [] X.env)) (backToKw pos (keywordEach [] X.env))) := by rfl) :
    SO X W (.Call (.Attribute o (Str.ofString m) apos) [] [] pos) (M.e9' cs m mf ma M.ba') := PE.imp (mZ' he F hr hm tk ht) fun σ H Q h => by
  have h2 := hz' h
  obtain ⟨ρ, F, T, fr, rel, q⟩ := h2
  refine ⟨ρ, F, T, fr, rel, q.mono (fun d ρ1 h1 v H1 F1 T1 e z r => ?_) fun _ _ z => z⟩
  obtain ⟨C, hC, a, dx, fs, e1, e2, e3, ρ2, F2, T2, fr2, rel2, q2⟩ := h1 v H1 F1 T1 e z r
  exact ⟨C, hC, a, dx, fs, e1, e2, e3, q2 [] H1 F2 T2 .refl .nil rel2⟩
end
end S
namespace S
open PySem PySem.Spec PyProof.Rows L2
variable [Wd] [Hot]
local macro_rules | `(tactic| walk_at "parts") => `(tactic| (constructor; (intro e h; simp only [List.mem_append, List.mem_cons, List.not_mem_nil] at *; grind); (intro x; simp only [keys, List.map_append, List.map_cons, List.map_nil, List.count_append, List.count_cons, List.count_nil] at *; omega)))
section
variable {K : PySem.W.Frag} {W : WX} {Q : VK} {σ : St} {H : Hp}
theorem t0' : Op1 K M.tV' (rU fun i => .int (-i)) := by
  intro F H T fp x dx dz Q f hx h k
  cases dx <;> try (cases h; done)
  cases hx; cases h
  exact ⟨_, rfl, k.here f (.int _)⟩
theorem kr' {F : Hp} {T : List Addr} : ∀ {vs : List V} {ds : List M.D} {ns : List Int}, FzA K F T vs ds -> M.b4' ds = some ns -> vs = ns.map V.int
  | _, _, ns, .nil, h => by cases h; rfl
  | _, d :: ds, ns, .cons a r, h => by
    cases d <;> try (cases h; done)
    rename_i b
    cases q : M.b4' ds with
    | none => simp only [M.b4', q] at h; cases h
    | some cs =>
      simp only [M.b4', q, Option.map_some] at h
      cases h
      rw [a.int_inv, kr' r q]
      rfl
theorem FzA.rgI {F : Hp} {T : List Addr} : ∀ ns : List Int, FzA K F T (ns.map V.int) (ns.map M.D.int)
  | [] => .nil
  | n :: r => .cons (.int n) (FzA.rgI r)
def kn' (c : Nat) : Str := ⟨#[c]⟩
def ol' (z : Str) : Nat := z.cps.toList.headD 0
theorem kk' {ys : List Str} {l : List Nat} (h : ys.Perm (l.map kn')) : ∃ l' : List Nat, ys = l'.map kn' /\ l'.Perm l := by
  refine ⟨ys.map ol', ?_, ?_⟩
  . rw [List.map_map]
    have : ∀ y ∈ ys, (kn' ∘ ol') y = y := fun y hy => by
      obtain ⟨c, _, rfl⟩ := List.mem_map.mp (h.subset hy)
      rfl
    exact (List.map_congr_left this).trans (List.map_id ys) |>.symm
  . have := h.map ol'
    rw [List.map_map] at this
    have e : l.map (ol' ∘ kn') = l := (List.map_congr_left fun c _ => rfl).trans (List.map_id l)
    rw [e] at this
    exact this
theorem kS' : ∀ (l : List Nat) (c : Nat), risingS (kn' c) (l.map kn') = true -> c <= l.headD c /\ sortedS (l.map kn') = true
  | [], c, _ => ⟨Nat.le_refl c, rfl⟩
  | e :: l, c, h => by
    rw [List.map_cons] at h ⊢
    unfold risingS at h
    rw [Bool.and_eq_true] at h
    obtain ⟨h1, h2⟩ := h
    refine ⟨?_, h2⟩
    show c <= e
    simp [ltCps, kn'] at h1
    omega
theorem dv' : ∀ l : List Nat, sortedS (l.map kn') = true -> l.Pairwise (· <= ·)
  | [], _ => .nil
  | c :: l, h => by
    obtain ⟨h1, h2⟩ := kS' l c h
    have ih := dv' l h2
    refine List.pairwise_cons.mpr ⟨fun d hd => ?_, ih⟩
    cases l with
    | nil => cases hd
    | cons e t =>
      have hce : c <= e := h1
      cases hd with
      | head => exact hce
      | tail _ hd => exact Nat.le_trans hce ((List.pairwise_cons.mp ih).1 d hd)
theorem ke' {l l' : List Nat} (p : l'.Perm l) (s : l'.Pairwise (· <= ·)) : l' = M.ck' l := by
  refine List.Perm.eq_of_pairwise (le := (· <= ·)) (fun a b _ _ h1 h2 => Nat.le_antisymm h1 h2) s ?_ (p.trans (List.mergeSort_perm l _).symm)
  exact (List.pairwise_mergeSort (le := fun a b => decide (a <= b)) (fun a b c h1 h2 => decide_eq_true (Nat.le_trans (of_decide_eq_true h1) (of_decide_eq_true h2))) (fun a b => by
    rw [Bool.or_eq_true, decide_eq_true_eq, decide_eq_true_eq]; omega) l).imp fun h => of_decide_eq_true h
theorem ow' {l l' : List Int} (p : l'.Perm l) (s : l'.Pairwise (· <= ·)) : l' = M.tp' l := by
  refine List.Perm.eq_of_pairwise (le := (· <= ·)) (fun a b _ _ h1 h2 => Int.le_antisymm h1 h2) s ?_ (p.trans (List.mergeSort_perm l _).symm)
  exact (List.pairwise_mergeSort (le := fun a b => decide (a <= b)) (fun a b c h1 h2 => decide_eq_true (Int.le_trans (of_decide_eq_true h1) (of_decide_eq_true h2))) (fun a b => by
    rw [Bool.or_eq_true, decide_eq_true_eq, decide_eq_true_eq]; omega) l).imp fun h => of_decide_eq_true h
def mS' (K : PySem.W.Frag) : List V -> Hp -> VK -> Prop := fun vs H Q => hd' vs H Q \/ rSortedI K vs H Q \/ rSortedS K vs H Q
theorem fN' {X : Cx} (hc : X.calm = true) : CallR X (.builtin "sorted") (mS' X.K) := (iX' hc).or (cr_sortedI.or cr_sortedS)
theorem g4' {s : M.Tx} {c : Nat} : c ∈ M.ck' s ↔ c ∈ s := (List.mergeSort_perm s _).mem_iff
theorem kl' {K : PySem.W.Frag} {F : Hp} {T : List Addr} : ∀ {vs : List V} {ds : List M.D} {cs : List Nat}, FzA K F T vs ds -> M.km' ds = some cs -> vs = (cs.map kn').map V.str /\ ∀ c ∈ cs, c < 1114112
  | _, [], _, .nil, h => by cases h; exact ⟨rfl, fun _ h => nomatch h⟩
  | _, d :: ds, cs, .cons z r, h => by
    unfold M.km' at h
    split at h
    . rename_i e
      cases e
    . rename_i c r' e
      cases e
      obtain ⟨cs', h1, rfl⟩ := Option.map_eq_some_iff.mp h
      obtain ⟨e2, h2⟩ := kl' r h1
      obtain ⟨rfl, o⟩ := z.str_inv
      refine ⟨by rw [e2]; rfl, fun c' hc => ?_⟩
      rcases List.mem_cons.mp hc with rfl | hc
      . exact o.1 _ List.mem_cons_self
      . exact h2 _ hc
    . cases h
theorem ky' : Bi1 K M.cp' (mS' K) := by
  intro F H T fp x dx dz Q f hx h k
  cases dx <;> try (cases h; done)
  . obtain ⟨rfl, o⟩ := hx.str_inv
    rename_i s
    simp only [M.cp'] at h
    split at h
    . rename_i hl
      cases h
      refine .inl ⟨_, rfl, by rw [bV']; exact hl, fun ys p H' hp hs hn s' e => ?_⟩
      obtain ⟨l', rfl, p'⟩ := kk' hp
      rw [ke' p' (dv' l' hs)] at *
      have z : FzA K F T (((M.ck' s).map kn').map V.str) ((M.ck' s).map M.chD) := by
        rw [List.map_map]
        exact FzA.chars fun c hc => o.1 c (g4'.mp hc)
      have hF : F p = none := f.free hn
      have sF : Same F (upd F p (.lst (((M.ck' s).map kn').map V.str))) := bO' hF
      refine k (.ref p) H' _ sF (.lst upd_same (z.mono (.of sF))) ⟨fun a u ha => ?_, fun q hq => ?_, f.nd, f.tbs (fun a h1 h2 h3 => ?_) fun c q h => is' sF h⟩
      . by_cases hap : a = p
        . subst hap
          rw [upd_same] at ha
          cases ha
          exact e
        . rw [upd_ne hap] at ha
          exact s' _ _ (f.low _ _ ha)
      . have np : q.1 ≠ p := ne_of_none (f.at_ q hq).1 hn
        exact ⟨s' _ _ (f.at_ q hq).1, by rw [upd_ne np]; exact (f.at_ q hq).2⟩
      . have hap : a ≠ p := fun z => h2 (by rw [z]; exact hn)
        refine ⟨by rw [upd_ne hap]; exact h1, ?_, h3⟩
        cases hh : H a with
        | none => exact absurd hh h2
        | some o => exact s' _ _ hh
    . cases h
  . obtain ⟨a, vs, rfl, ha, za⟩ := hx.lst_inv
    rename_i ds
    cases q : M.b4' ds with
    | none =>
      simp only [M.cp', q] at h
      obtain ⟨cs, h1, h2⟩ := Option.bind_eq_some_iff.mp h
      split at h2
      . rename_i hl
        cases h2
        obtain ⟨e2, hc⟩ := kl' za h1
        refine .inr (.inr ⟨a, cs.map kn', rfl, by rw [<- e2]; exact SqL.of (f.low _ _ ha), by rw [List.length_map]; exact hl, fun ys p hp hs hn => ?_⟩)
        obtain ⟨l', rfl, p'⟩ := kk' hp
        rw [ke' p' (dv' l' hs)]
        have z : FzA K F T (((M.ck' cs).map kn').map V.str) ((M.ck' cs).map M.chD) := by
          rw [List.map_map]
          exact FzA.chars fun c hc' => hc c (g4'.mp hc')
        exact k.newL f z hn
      . cases h2
    | some ns =>
      simp only [M.cp', q] at h
      cases h
      refine .inr (.inl ⟨a, ns, rfl, by rw [<- kr' za q]; exact SqL.of (f.low _ _ ha), fun ns' p hp hs hn => ?_⟩)
      rw [ow' hp hs]
      exact k.newL f (FzA.rgI _) hn
theorem tf' {c : Nat} (h : c < 128) : up1 c < 128 := by unfold up1; split <;> omega
theorem oj' {s : M.Tx} (h : s.all (fun c => decide (c < 128)) = true) : Txt.upper (sx s) = sx (s.map M.up1) := by
  rw [PyProof.Rows.upper_ascii (x := sx s) (fun c hc => of_decide_eq_true (List.all_eq_true.mp h c hc))]
  refine ep' ?_
  show (Array.map PyProof.Rows.up1 s.toArray).toList = (s.map M.up1).toArray.toList
  simp
  intro a _
  rfl
def wC' : M.D -> Option Key
  | .int i => some (.inl i)
  | .str s => some (.inr (sx s))
  | _ => none
theorem rH' {d : M.D} {k : Key} (h : wC' d = some k) : kD k = d := by
  cases d <;> cases h <;> rfl
theorem uj' {F : Hp} {T : List Addr} {v : V} {d : M.D} {k : Key} (z : Fz K F T v d) (h : wC' d = some k) : v = kV k := by
  cases d <;> cases h
  . cases z; rfl
  . obtain ⟨rfl, _⟩ := z.str_inv; rfl
end
section
variable {X : Cx} {W : WX} {pos p pos' : Pos} {a b e : Expr} {ma mb : M.ME} {mo : M.MO} {σ : St} {H : Hp} {Q : VK}
theorem oz' {o : Expr} {apos : Pos} (ho : SE X W o ma) (hbase : attributeBase o "upper" X.env (eval o X.env) = eval o X.env := by rfl) (hline : (apos.endLine == pos.line) = true := by rfl) : SE X W (.Call (.Attribute o "upper" apos) [] [] pos) (M.eUn M.hh' ma) :=
  PE.imp (pe_upper ho hbase hline) fun σ H Q ⟨ρ, F, T, fr, rel, h⟩ => by
    refine aF' rel h fun dx ρ1 v H1 F1 T1 e1 z1 r1 h1 => ?_
    obtain ⟨dz, ez, q⟩ := a4'.ofO h1
    unfold M.hh' at ez
    split at ez
    . split at ez
      . rename_i s hc
        cases ez
        obtain ⟨rfl, o⟩ := z1.str_inv
        refine ⟨⟨_, rfl⟩, _, rfl, rfl, by rw [bV']; exact hc.2, ?_⟩
        rw [oj' hc.1]
        refine q _ H1 F1 T1 e1 (.str ⟨fun c hc2 => ?_, by rw [List.length_map]; exact o.2⟩) r1
        obtain ⟨c0, h0, rfl⟩ := List.mem_map.mp hc2
        have := of_decide_eq_true (List.all_eq_true.mp hc.1 c0 h0)
        have : M.up1 c0 < 128 := tf' this
        omega
      . cases ez
    . cases ez
theorem cI' {x : Str} (t : String) (ht : t ∈ ["bool", "int", "str", "tuple", "list", "dict"]) (hg : Gl X x) (hm : X.mg x = none) (hv : bootBuiltins x = some (.builtin "isinstance")) (ha : SE X W a ma) (hb : PE X b (tC (.ty t))) (hn : x ≠ "__name__" := by decide) (hdb : (x == ("__debug__" : Str)) = false := by decide)
    (he : starEach [a, b] X.env = (false, eval a X.env) :: starEach [b] X.env := by rfl) (he2 : starEach [b] X.env = (false, eval b X.env) :: starEach [] X.env := by rfl) (hpl : (backTo pos (starEach [b] X.env)).any (·.1) = false := by rfl) : SE X W (.Call (.Name x p) [a, b] [] pos) (M.eUn (M.bt' t) ma) :=
  PE.imp (pe_callB call_isi hg hm hv (pa_cons ha (pa_cons hb pa_nil he2) he) hn hdb he hpl) fun σ H Q ⟨ρ, F, T, fr, rel, h⟩ => by
    refine aF' rel h fun dx ρ1 v H1 F1 T1 e1 z1 r1 h1 => ?_
    obtain ⟨dz, ez, q⟩ := a4'.ofO h1
    unfold M.bt' at ez
    cases eq : M.tyn dx with
    | none => rw [eq] at ez; cases ez
    | some n =>
      rw [eq] at ez
      cases ez
      obtain ⟨fp, f, _⟩ := r1.fp
      exact vZ' (tg' f.low z1 eq) (kit_ty (rG' n (qS' eq) t ht)) (q _ H1 F1 T1 e1 (.bl _) r1)
theorem io' : SO X W (.Dict [] [] pos) M.kZ' := PE.imp pe_dnewK fun σ H Q ⟨ρ, F, T, fr, rel, h⟩ => fun p hp => by
  have z : Rp X.K F T (.ref p) (.dct [] []) [(p, .dK [])] := Rp.dct (kvs := []) .nil .nil
  exact h (.ref p) _ F T _ .refl z (rel.own hp)
theorem qZ' {f : M.D -> Option M.D} {r : List V -> Hp -> VK -> Prop} {x : Str} {id : String} (hc : CallR X (.type id) r)
    (hf : ∀ {F H : Hp} {T : List Addr} {v : V} {d : M.D} {ds : List M.D} {Q : VK}, Same F H -> Fz X.K F T v d -> f d = some (.lst ds) -> (∀ l ws, H l = none -> FzA X.K F T ws ds -> Q (.ref l) (upd H l (.lst ws))) -> r [v] H Q)
    (hg : Gl X x) (hm : X.mg x = none) (hv : bootBuiltins x = some (.type id)) (ha : SE X W a ma) (hn : x ≠ "__name__" := by decide) (hdb : (x == ("__debug__" : Str)) = false := by decide)
    (he : starEach [a] X.env = (false, eval a X.env) :: starEach [] X.env := by rfl) (hpl : (backTo pos (starEach [] X.env)).any (·.1) = false := by rfl) : SO X W (.Call (.Name x p) [a] [] pos) (M.m5' (M.eUn f ma)) :=
  PE.imp (pe_callTy hc hg hm hv (pa_cons ha pa_nil he) hn hdb he hpl) fun σ H Q ⟨ρ, F, T, fr, rel, h⟩ => by
    have h0 := a4'.bind h
    refine aF' rel h0 fun dx ρ1 v H1 F1 T1 e1 z1 r1 h1 => ?_
    obtain ⟨dz, ez, q⟩ := a4'.ofO h1
    cases dz <;> try exact q.elim
    rename_i ds
    obtain ⟨fp, f1, _⟩ := r1.fp
    refine hf f1.low z1 ez fun l ws hl zw => ?_
    exact q (.ref l) _ F1 T1 _ e1 (.lst (RpA.of_fz zw)) (r1.own hl)
theorem oZ' {K : PySem.W.Frag} {F H : Hp} {T : List Addr} {v : V} {d : M.D} {ds : List M.D} {Q : VK} (s : Same F H) (z : Fz K F T v d) (h : M.bZ' d = some (.lst ds)) (k : ∀ l ws, H l = none -> FzA K F T ws ds -> Q (.ref l) (upd H l (.lst ws))) : mV' K [v] H Q := by
  cases d <;> try (cases h; done)
  . obtain ⟨rfl, o⟩ := z.str_inv
    cases h
    exact .inr ⟨_, rfl, o.len, fun l hl => k l _ hl (FzA.signs o)⟩
  . obtain ⟨a, vs, rfl, ha, za⟩ := z.tup_inv
    cases h
    exact .inl ⟨a, vs, rfl, .inr (seqT s ha), fun l hl => k l vs hl za⟩
  . obtain ⟨a, vs, rfl, ha, za⟩ := z.lst_inv
    cases h
    exact .inl ⟨a, vs, rfl, .inl (SqL.of (s _ _ ha)), fun l hl => k l vs hl za⟩
theorem FzA.rg {K : PySem.W.Frag} {F : Hp} {T : List Addr} (a b : Int) : FzA K F T (rgV a b) (M.dh' a b) := FzA.of_all fun i => .int _
theorem wk' {a b : Int} (h : M.RgB a b = true) : RgOk a b := by
  unfold M.RgB at h
  simp only [Bool.and_eq_true, decide_eq_true_eq] at h
  exact ⟨h.1.1.1.1, h.1.1.1.2, h.1.1.2, h.1.2, h.2⟩
theorem kQ' {q : Pos} (hc : X.calm = true) (hg : Gl X "list") (hm : X.mg "list" = none) (hg2 : Gl X "range") (hm2 : X.mg "range" = none) (ha : SE X W a ma)
    (na2 : starEach [a] X.env = (false, eval a X.env) :: starEach [] X.env := by rfl) (na : starEach [.Call (.Name "range" q) [a] [] pos'] X.env = (false, eval (.Call (.Name "range" q) [a] [] pos') X.env) :: starEach [] X.env := by rfl) :
    SO X W (.Call (.Name "list" p) [.Call (.Name "range" q) [a] [] pos'] [] pos) (M.m5' (M.eUn M.c4' ma)) :=
  PE.imp (pe_listRg hc hg hm (prg_1 hg2 hm2 ha na2) na) fun σ H Q ⟨ρ, F, T, fr, rel, h⟩ => by
    have h0 := a4'.bind h
    refine aF' rel h0 fun dx ρ1 v H1 F1 T1 e1 z1 r1 h1 => ?_
    obtain ⟨dz, ez, q⟩ := a4'.ofO h1
    unfold M.c4' at ez
    split at ez
    . split at ez
      . rename_i hr
        cases ez
        refine ⟨_, z1.int_inv, wk' hr, fun l hl => ?_⟩
        exact q (.ref l) _ F1 T1 _ e1 (.lst (RpA.of_fz (FzA.rg _ _))) (r1.own hl)
      . cases ez
    . cases ez
theorem RpA.erase {K : PySem.W.Frag} {F : Hp} {T : List Addr} {y : M.D} : ∀ {os : List M.O} {vs : List V} {f2 : Fp} {j : Nat}, RpA K F T vs os f2 -> os[j]? = some (.fz y) -> ∃ v, vs[j]? = some v /\ Fz K F T v y /\ RpA K F T (vs.eraseIdx j) (os.eraseIdx j) f2
  | [], _, _, _, r, h => by cases h
  | o :: os, _, _, 0, r, h => by
    cases r with
    | cons r0 r =>
      cases h
      cases r0 with
      | fz z => exact ⟨_, rfl, z, r⟩
  | o :: os, _, _, j + 1, r, h => by
    cases r with
    | cons r0 r =>
      obtain ⟨v, h1, h2, h3⟩ := RpA.erase (j := j) r h
      exact ⟨v, h1, h2, .cons r0 h3⟩
theorem oA' {n : Nat} {nm : Str} {px apos : Pos} (hv : PE X (.Name nm px) (tVar n)) (ha : SE X W a ma)
    (hbase : attributeBase (.Name nm px) "pop" X.env (eval (.Name nm px) X.env) = eval (.Name nm px) X.env := by rfl)
    (hfew : ((backTo pos (starEach [a] X.env)).all (fun x => !x.1) && (backToKw pos (keywordEach [] X.env)).all (fun x => x.1.isSome)
      && decide ([a].length + ([] : List Keyword).length + (if ([] : List Keyword).isEmpty then 0 else 1) < 30)) = true := by rfl)
    (hline : (apos.endLine == pos.line) = true := by rfl) (hs : starEach [a] X.env = (false, eval a X.env) :: starEach [] X.env := by rfl) (hplain : (backTo pos (starEach [] X.env)).any (·.1) = false := by rfl) :
    SE X W (.Call (.Attribute (.Name nm px) "pop" apos) [a] [] pos) (M.hG' n ma) :=
  PE.imp (pe_bm PySem.F.plainAttrs_list PySem.F.slot_list_pop PySem.F.type_list_pop mt_popAt hv (pa_cons ha pa_nil hs) hbase hfew hline hs hplain) fun σ H Q ⟨ρ, F, T, fr, rel, h⟩ => by
    unfold M.hG' at h
    split at h
    . rename_i os0 e0
      obtain ⟨fe, fw, re, rw, ff⟩ := id rel
      obtain ⟨v, f1, f2, f3, h1, _, h3, _⟩ := re.get e0
      cases h3 with
      | @lst p vs0 _ fp0 r0 =>
        obtain ⟨vs1, f21, hH, _, _⟩ := rel.slotW e0 h1
        refine ⟨.ref p, h1, .inl ⟨rfl, vs1, SqL.of hH⟩, aF' rel h fun d ρ1 u H1 F1 T1 e1 z1 r1 h2 => ?_⟩
        split at h2
        . rename_i os z e2
          split at h2
          . rename_i j ej
            split at h2
            . rename_i y ey
              cases z1
              obtain ⟨vs, f2', hH2, r2, back⟩ := r1.slotW e2 h1
              obtain ⟨vy, g1, g2, g3⟩ := RpA.erase r2 ey
              split at ej
              . rename_i hl
                have hlen : vs.length <= M.d7' := by rw [r2.length]; exact hl
                have ej' : ixN vs.length z = some j := by rw [r2.length]; exact ej
                obtain ⟨q1, q2, q3, q4⟩ := ixN_seq ej'
                have hlen' : vs.length <= 16777216 := hlen
                exact ⟨p, vs, z, j, vy, rfl, rfl, hH2, by omega, by omega, q1, g1, h2 vy _ F1 T1 e1 g2 (back _ _ f2' fr g3 .refl)⟩
              . cases ej
            . exact h2.elim
          . exact h2.elim
        . exact h2.elim
    . exact h.elim
end
end S
namespace S
open PySem PySem.Spec PyProof.Rows L2
variable [Wd] [Hot]
section
variable {X : Cx} {W : WX} {K : PySem.W.Frag} {D : Ends} {σ : St} {H : Hp} {F : Hp} {T : List Addr} {fr : Fp}
abbrev Hm := List ((String -> Option Bool) × (M.Exc -> M.MS))
def tsM (K : PySem.W.Frag) (h : M.Exc -> M.MS) : Addr -> Value -> Option Addr -> TS := fun _ cls _ D σ H => ∃ e : M.Exc, cls = .ref (He.ga K e.cls) /\ qS K W0 (h e) D σ H
inductive HdsM (X : Cx) : List ExceptHandler -> Hm -> List (Value × (Addr -> Value -> Option Addr -> TS)) -> Prop
  | nil : HdsM X [] [] []
  | cons {x : Str} {c : Value} {g : String -> Option Bool} {h : M.Exc -> M.MS} {b₀ : Stmt} {suite : List Stmt} {np pos' : Pos} {hds : List ExceptHandler} {l : Hm} {l' : List (Value × (Addr -> Value -> Option Addr -> TS))} (hc : Names X x c)
      (hg : ∀ y b, g y = some b -> PySem.W.exmOne X.K (.ref (He.ga X.K y)) c = some b)
      (hsu : ∀ (e : M.Exc) (a : Addr) (oe : Obj) (d : Option Addr) (pn : List (Addr × Obj)), Zc (.ref (He.ga X.K e.cls)) d oe -> (∃ vs, oe.data = .fields vs) -> SSs (X.suite a ((a, oe) :: pn)) W0 (b₀ :: suite) (h e)) (r : HdsM X hds l l') :
      HdsM X (.ExceptHandler (some (.Name x np)) none (b₀ :: suite) pos' :: hds) ((g, h) :: l) ((c, tsM X.K h) :: l')
theorem j8' {h : M.Exc -> M.MS} {b : List Stmt} (hsu : ∀ (e : M.Exc) (a : Addr) (oe : Obj) (d : Option Addr) (pn : List (Addr × Obj)), Zc (.ref (He.ga X.K e.cls)) d oe -> (∃ vs, oe.data = .fields vs) -> SSs (X.suite a ((a, oe) :: pn)) W0 b (h e)) :
    ∀ (a : Addr) (oe : Obj) (cls : Value) (d : Option Addr) (pn : List (Addr × Obj)), Zc cls d oe -> (∃ vs, oe.data = .fields vs) -> PSs (X.suite a ((a, oe) :: pn)) b (tsM X.K h a cls d) := by
  intro a oe cls d pn hz hf
  refine ⟨fun pins s σ H D I q => ?_⟩
  obtain ⟨e, rfl, q⟩ := q
  exact (hsu e a oe d pn hz hf).run pins s σ H D I q
theorem HdsM.ok {hds : List ExceptHandler} {l : Hm} {l' : List (Value × (Addr -> Value -> Option Addr -> TS))} (h : HdsM X hds l l') : HdsOk X hds l' := by
  induction h with
  | nil => exact .nil
  | cons hc hg hsu r ih => exact .cons hc (j8' hsu) ih
theorem bg'.noX {r : M.Out} (h : bg' K W D F T fr (M.oX' r)) : bg' K W0 D F T fr r := by
  cases r with
  | exc x ρ => exact h.elim
  | nx ρ => exact h
  | bk ρ => exact h
  | ct ρ => exact h
  | rt o w => exact h
  | bad => exact h
theorem Rel.off {K : PySem.W.Frag} {ρ : M.PSt} (r : Rel K ρ σ H F T fr) (i : Nat) (x : Option V) : Rel K ⟨ρ.env.set i none, ρ.w⟩ (σ.set i x) H F T fr := by
  obtain ⟨fe, fw, re, rw, f⟩ := r
  obtain ⟨fq, h1, h2⟩ := re.drop i x
  exact ⟨fq, fw, h1, rw, f.part (.app h2 .refl)⟩
end
def vv' (K : PySem.W.Frag) (t : M.ET) : Prop := ∀ e ∈ t, PySem.W.exmOne K (.ref (He.ga K e.1)) (.ref (He.ga K e.2.1)) = some e.2.2
theorem p7' {K : PySem.W.Frag} : ∀ {t : M.ET} (h : vv' K t) {y c : String} {b : Bool}, M.sub t y c = some b -> PySem.W.exmOne K (.ref (He.ga K y)) (.ref (He.ga K c)) = some b
  | [], _, _, _, _, e => by cases e
  | (a, b', r) :: t, h, y, c, b, e => by
    unfold M.sub at e
    split at e
    . rename_i q
      obtain ⟨rfl, rfl⟩ := q
      cases e
      exact h _ List.mem_cons_self
    . exact p7' (fun e he => h e (List.mem_cons_of_mem _ he)) e
end S
namespace S
open PySem PySem.Spec PyProof.Rows L2
variable [Wd] [Hot]
section
variable {X : Cx} {W : WX} {pos p : Pos} {a b e : Expr} {st : Stmt} {es : List Expr} {ma mb : M.ME} {as : M.MA}
theorem vD' {i : Nat} (h : PE X e (tVar i)) : SO X W e (M.oV i) := PE.imp h fun σ H Q ⟨ρ, F, T, fr, rel, h⟩ => by
  unfold M.oV at h
  split at h
  . rename_i d e
    obtain ⟨fe, fw, re, rw, f⟩ := id rel
    obtain ⟨v, f1, f2, f3, h1, rfl, h3, h4, h5⟩ := re.get e
    cases h3 with
    | fz z => exact ⟨v, h1, h v H F T [] .refl (.fz z) rel⟩
  . exact h.elim
  . exact h.elim
  . rename_i o _ hne hnc e
    obtain ⟨fe, fw, re, rw, f⟩ := rel
    obtain ⟨v, f1, f2, f3, h1, rfl, h3, h4, h5⟩ := re.get e (M.ik' (fun z => hne (by rw [z])) fun z => hnc (by rw [z]))
    refine ⟨v, h1, h v H F T f2 .refl h3 ⟨_, fw, h4, rw, f.part ?_⟩⟩
    constructor
    . intro e h
      simp only [List.mem_append] at *
      grind
    . intro x
      simp only [keys, List.map_append, List.count_append] at *
      omega
  . exact h.elim
theorem mA' (h : SA X W es as) : SO X W (.List es pos) (M.m5' (M.hH' as)) := PE.imp (pe_lst h) fun σ H Q ⟨ρ, F, T, fr, rel, h⟩ => by
  have h0 := a4'.bind h
  refine cb' rel h0 fun ds ρ1 vs H1 F1 T1 e1 z1 r1 h1 => ?_
  split at h1
  . rename_i hl
    refine ⟨by rw [z1.length, bD']; exact hl, fun p hp => ?_⟩
    exact h1 (.ref p) _ F1 T1 _ e1 (.lst (RpA.of_fz z1)) (r1.own hp)
  . exact h1.elim
end
section
variable {K : PySem.W.Frag} {F : Hp} {T : List Addr}
end
section
variable {X : Cx} {W : WX} {pos p tpos : Pos} {a : Expr} {ma : M.ME} {σ : St} {H : Hp} {elts : List Expr} {kk : Nat}
end
theorem uv' {K : PySem.W.Frag} {F : Hp} {T : List Addr} {x : Str} {s : M.Tx} (hs : x = sx s) (ho : vK' s = true) : Fz K F T (.str x) (.str s) := by subst hs; exact .str (qj' ho)
end S
namespace S
open PySem PySem.Spec PyProof.Rows L2
variable [Wd] [Hot]
section
variable {X : Cx} {W : WX} {K : PySem.W.Frag} {pos p : Pos} {a b : Expr} {ma : M.ME} {F H : Hp} {T : List Addr}
end
def sD' [Wd] (H : Hp) : Hp := fun b => if b ∈ Wd.ts.map (·.1) then none else H b
theorem m7' [Wd] (H : Hp) : Same (sD' H) H := fun b o h => by
  unfold sD' at h
  split at h
  . cases h
  . exact h
theorem m8' [Wd] {H : Hp} (hT : ∀ p ∈ Wd.ts, H p.1 = some (.tbl #[])) {b : Addr} {o : HO} (h : H b = some o) (ho : o ≠ .tbl #[]) : sD' H b = some o := by
  unfold sD'
  rw [if_neg fun z => ?_]
  . exact h
  . obtain ⟨p, hp, e⟩ := List.mem_map.mp z
    have := hT p hp
    rw [e, h] at this
    exact ho (Option.some.inj this)
theorem oY' [Wd] {K : PySem.W.Frag} {H : Hp} (hT : ∀ p ∈ Wd.ts, H p.1 = some (.tbl #[])) {a : Addr} {vs : List V} (h : SqL K H a vs) : SqL K (sD' H) a vs := by
  rcases h with (h | ⟨o, h⟩) | h
  . exact .inl (.inl (m8' hT h (by intro z; cases z)))
  . exact .inl (.inr ⟨o, m8' hT h (by intro z; cases z)⟩)
  . exact .inr h
theorem nk' [Wd] (K : PySem.W.Frag) (H : Hp) (hT : ∀ p ∈ Wd.ts, H p.1 = some (.tbl #[])) (a : Addr) (ns : List Int) (hn : ns.length <= 63) (hs : SqL K H a (ns.map V.int)) {m : M.MF} (h : ∀ ns : List Int, ns.length <= 63 -> ∃ w, m [.scr (ns.map .int)] [] = .ok (.fz (.bl true)) w) :
    spM K m [.ref a] H (fun v _ => v = .bl true) L2.E0 := by
  obtain ⟨w, e⟩ := h ns hn
  refine ⟨[.scr (ns.map .int)], [], sD' H, [], [], .cons (.scr (oY' hT hs) (FzA.rgI ns)) .nil, ⟨[], [], t8', .nil, ⟨m7' H, fun _ h => (nomatch h), .nil, fun p hp => ⟨if_pos (List.mem_map_of_mem hp), fun _ h => (nomatch h), #[], hT p hp, True.intro, fun pos cv hc => ?_⟩⟩⟩, ?_⟩
  . have z : codeAmong pos [] = some cv := hc
    simp [codeAmong] at z
  rw [e]
  intro v H' F' T' fp _ z _
  cases z with
  | fz z => exact z.bl_inv
end S
namespace S
open PySem PySem.Spec PyProof.Rows L2
variable [Wd] [Hot]
section
variable {X : Cx} {W : WX} {K : PySem.W.Frag} {cpos apos p : Pos} {name : Str} {id T : String} {o e : Expr} {es : List Expr} {mo : M.ME} {as : M.MA} {σ : St} {H : Hp} {Q : VK}
end
end S
namespace S
open PySem PySem.Spec PyProof.Rows L2
variable [Wd] [Hot]
section
variable {X : Cx} {W : WX} {K : PySem.W.Frag}
end
end S
namespace S
open PySem PySem.Spec PyProof.Rows L2
variable [Wd] [Hot]
section
variable {P : Program} {w : World} {K : PySem.W.Frag} {mg : Str -> Option Value} {base : Heap}
end
section
variable {X : Cx} {W : WX} {K : PySem.W.Frag}
end
end S
namespace S
open PySem PySem.Spec PyProof.Rows L2
variable [Wd] [Hot]
local macro_rules | `(tactic| walk_at "parts") => `(tactic| (constructor; (intro e h; simp only [List.mem_append, List.mem_cons, List.not_mem_nil] at *; grind); (intro x; simp only [keys, List.map_append, List.map_cons, List.map_nil, List.count_append, List.count_cons, List.count_nil] at *; omega)))
section
variable {K : PySem.W.Frag} {F F' H H' : Hp} {T T' : List Addr} {fp fq fr : Fp} {ρ : M.PSt} {σ : St} {W : WX} {Q : VK}
theorem up' {d : M.D} (h : M.isK d = true) : ∃ k, wC' d = some k := by cases d <;> first | exact ⟨_, rfl⟩ | (cases h)
theorem RpA.dget {vs : List V} {os : List M.O} {ks : List M.D} {dk : M.D} (h : RpA K F T vs os fp) : (M.dget ks vs dk).isSome = (M.dget ks os dk).isSome /\ ∀ d, M.dget ks os dk = some (.fz d) -> ∃ u, M.dget ks vs dk = some u /\ Fz K F T u d := by
  unfold M.dget
  cases M.sE' ks dk with
  | none => exact ⟨rfl, fun d e => nomatch e⟩
  | some j =>
    simp only [Option.bind_some]
    refine ⟨?_, fun d e => h.get e⟩
    rw [Bool.eq_iff_iff, Option.isSome_iff_exists, Option.isSome_iff_exists]
    constructor
    . rintro ⟨x, e⟩
      exact ⟨_, List.getElem?_eq_getElem (h.length ▸ (List.getElem?_eq_some_iff.mp e).1)⟩
    . rintro ⟨x, e⟩
      exact ⟨_, List.getElem?_eq_getElem (h.length ▸ (List.getElem?_eq_some_iff.mp e).1)⟩
theorem tY' {v : V} {k : Key} (z : Fz K F T v (kD k)) : okK k := by
  cases k with
  | inl i => exact True.intro
  | inr x =>
    obtain ⟨_, o⟩ := Fz.str_inv (s := x.cps.toList) z
    exact o
end
section
variable {X : Cx} {W : WX} {pos tpos : Pos} {a b o i : Expr} {ma mb mo mi : M.ME} {σ : St} {H : Hp} {Q : VK}
theorem mB' {k e : Expr} {mk me : M.ME} (hk : SE X W k mk) (hv : SE X W e me) : SO X W (.Dict [some k] [e] pos) (M.hw' false mk me) :=
  PE.imp (pe_disp (pps_cons hk hv pps_nil) rfl rfl (by intro z; cases z) (by simp)) fun σ H Q ⟨ρ, F, T, fr, rel, h⟩ => fun p hp => by
    have fr1 : Part fr ((p, HO.dK []) :: fr) := by walk_at "parts"
    refine ⟨ρ, F, T, (p, .dK []) :: fr, rel.own hp, (a4'.bind h).mono (fun dk ρ1 h1 y H1 F1 T1 e1 zk r1 => ?_) fun _ _ z => z.frame fr1⟩
    refine ⟨ρ1, F1, T1, (p, .dK []) :: fr, r1, (a4'.bind (h1.mono (fun _ _ z => z) fun _ _ z => z)).mono (fun d ρ2 h2 v H2 F2 T2 e2 zv r2 => ?_) fun _ _ z => (z.mono e1).frame fr1⟩
    obtain ⟨o, eo, q⟩ := a4'.ofO h2
    simp only [M.fH', Bool.false_eq_true, if_false] at eo
    split at eo
    . rename_i hc
      cases eo
      obtain ⟨key, hk⟩ := up' hc
      have e3 := uj' zk hk
      have e4 := rH' hk
      subst e3 e4
      refine ⟨r2.at_ (e := (p, .dK [])) List.mem_cons_self, [(key, v)], rfl, (by show 1 <= 15; decide), ?_⟩
      refine q (.ref p) _ F2 T2 [(p, .dK [(key, v)])] (e1.trans e2) ?_ ?_
      . exact .dct (kvs := [(key, v)]) (fun p hp => by rw [List.mem_singleton.mp hp]; exact tY' zk) (RpA.cons (fp := []) (fq := []) (.fz zv) .nil)
      . exact r2.write
    . cases eo
end
end S
namespace S
open PySem PySem.Spec PyProof.Rows L2
variable [Wd] [Hot]
section
variable {K : PySem.W.Frag} {F F' H H' : Hp} {T T' : List Addr} {fp fq fr : Fp} {ρ : M.PSt} {σ : St} {W : WX} {Q : VK}
theorem Wk.frz {a : Addr} {o : Obj} {u : HO} (s : Wk F F') (h : F a = some (.frz o u)) : F' a = some (.frz o u) := s.at_ h fun _ e => nomatch e
end
section
variable {X : Cx} {W : WX} {tg a : Expr} {ma : M.ME} {apos cpos : Pos}
end
section
variable {K : PySem.W.Frag} {F F' H H' : Hp} {T T' : List Addr} {fp fq fr : Fp} {ρ : M.PSt} {σ : St} {W : WX}
end
section
variable {X : Cx} {W : WX} {pos : Pos} {kx vx tg iter : Expr} {ifs : List Expr} {scope : Scope} {own : List (Str × Nat)} {sl : List Nat} {it : M.MI} {g : M.MG} {t : M.MT} {ek ev : M.ME}
end
section
variable {K : PySem.W.Frag}
end
section
variable {X : Cx} {W : WX} {e : Expr} {te : TE} {apos cpos pos p : Pos} {me : M.ME}
end
end S
namespace S
open PySem PySem.Spec PyProof.Rows L2
variable [Wd] [Hot]
section
variable {K : PySem.W.Frag} {F H : Hp} {T : List Addr}
mutual
theorem eA' : ∀ {v : V} {d : M.D}, Fz K F T v d -> M.dat d = true -> M.oJ' d = true -> (py d).leavesShort 62 = true /\ (py d).showable = true /\ (py d).hasDict = false /\ (py d).bulk = M.oH' d
  | _, _, .non, _, _ => ⟨rfl, rfl, rfl, rfl⟩
  | _, _, .bl b, _, _ => ⟨rfl, rfl, rfl, rfl⟩
  | _, _, .int i, _, h => by
    have h : i.natAbs < 10 ^ 60 := of_decide_eq_true h
    refine ⟨?_, ?_, rfl, rfl⟩
    . show decide ((Str.ofString (toString i)).length <= 62) = true
      rw [decide_eq_true_iff, PySem.ofString_length]
      have := int_text_length_le10 (k := 60) (by decide) h
      omega
    . show decide (i.natAbs.log2 < 1920) = true
      rw [decide_eq_true_iff]
      have h2 : i.natAbs < 2 ^ 1920 := Nat.lt_of_lt_of_le h (by decide +kernel)
      by_cases h0 : i.natAbs = 0
      . rw [h0]; decide
      . exact (Nat.log2_lt h0).mpr h2
  | _, _, .str (s := s) o, _, _ => by
    refine ⟨?_, rfl, rfl, ?_⟩
    . show (sx s).cps.toList.all _ = true
      rw [fA', List.all_eq_true]
      intro c hc
      rw [decide_eq_true_iff]
      have := o.1 c hc
      omega
    . exact bV' s
  | _, _, .tup h r, e, g => by
    obtain ⟨a, b, c, d⟩ := reps_facts r e g
    exact ⟨a, b, c, d⟩
  | _, _, .lst h r, e, g => by
    obtain ⟨a, b, c, d⟩ := reps_facts r e g
    exact ⟨a, b, c, d⟩
  | _, _, .dct h _ r, e, _ => by cases e
  | _, _, .dcl h k r, e, _ => by cases e
  | _, _, .dcn h k q r, e, _ => by cases e
  | _, _, .rep d, e, _ => by cases e
  | _, _, .obj h, e, _ => by cases e
  | _, _, .ty n, e, _ => by cases e
  | _, _, .fn x, e, _ => by cases e
  | _, _, .scr h r, e, _ => by cases e
theorem reps_facts : ∀ {vs : List V} {ds : List M.D}, FzA K F T vs ds -> M.dats ds = true -> M.repIs ds = true -> PyData.leavesShortAll 62 (pys ds) = true /\ PyData.showableAll (pys ds) = true /\ PyData.hasDictAll (pys ds) = false /\ PyData.bulkAll (pys ds) = M.repWs ds
  | _, _, .nil, _, _ => ⟨rfl, rfl, rfl, rfl⟩
  | _, _, .cons h r, e, g => by
    obtain ⟨e1, e2⟩ := Bool.and_eq_true_iff.mp (show (M.dat _ && M.dats _) = true from e)
    obtain ⟨g1, g2⟩ := Bool.and_eq_true_iff.mp (show (M.oJ' _ && M.repIs _) = true from g)
    obtain ⟨a1, a2, a3, a4⟩ := eA' h e1 g1
    obtain ⟨b1, b2, b3, b4⟩ := reps_facts r e2 g2
    refine ⟨?_, ?_, ?_, ?_⟩
    . show (PyData.leavesShort 62 _ && PyData.leavesShortAll 62 _) = true
      rw [a1, b1]; rfl
    . show (PyData.showable _ && PyData.showableAll _) = true
      rw [a2, b2]; rfl
    . show (PyData.hasDict _ || PyData.hasDictAll _) = false
      rw [a3, b3]; rfl
    . show PyData.bulk _ + 1 + PyData.bulkAll _ = M.oH' _ + 1 + M.repWs _
      rw [a4, b4]
end
mutual
theorem mG' : ∀ d e : M.D, M.same d e = true -> d = e
  | .non, e, h => by cases e <;> first | rfl | (cases h)
  | .bl a, e, h => by cases e <;> first | (have := eq_of_beq (show (_ == _) = true from h); rw [this]) | (cases h)
  | .int a, e, h => by cases e <;> first | (have := eq_of_beq (show (_ == _) = true from h); rw [this]) | (cases h)
  | .str a, e, h => by cases e <;> first | (have := eq_of_beq (show (_ == _) = true from h); rw [this]) | (cases h)
  | .lst a, e, h => by
    cases e with
    | lst b => rw [sames_eq a b h]
    | _ => cases h
  | .tup a, e, h => by
    cases e with
    | tup b => rw [sames_eq a b h]
    | _ => cases h
  | .dct a b, e, h => by
    cases e with
    | dct c d =>
      obtain ⟨h1, h2⟩ := Bool.and_eq_true_iff.mp (show (M.sames a c && M.sames b d) = true from h)
      rw [sames_eq a c h1, sames_eq b d h2]
    | _ => cases h
  | .dcx _ _, e, h => by cases e <;> cases h
  | .rep _, e, h => by cases e <;> cases h
  | .obj _, e, h => by cases e <;> cases h
  | .ty _, e, h => by cases e <;> cases h
  | .fn _, e, h => by cases e <;> cases h
  | .exc _ _, e, h => by cases e <;> cases h
  | .scr _, e, h => by cases e <;> cases h
theorem sames_eq : ∀ d e : List M.D, M.sames d e = true -> d = e
  | [], [], _ => rfl
  | [], _ :: _, h => by cases h
  | _ :: _, [], h => by cases h
  | a :: d, b :: e, h => by
    obtain ⟨h1, h2⟩ := Bool.and_eq_true_iff.mp (show (M.same a b && M.sames d e) = true from h)
    rw [mG' a b h1, sames_eq d e h2]
end
end
section
variable {K : PySem.W.Frag} {F H : Hp} {T : List Addr}
theorem FzA.keys : ∀ {kvs : List (Key × V)}, kG' kvs -> FzA K F T (kvs.map fun p => kV p.1) (kvs.map fun p => kD p.1)
  | [], _ => .nil
  | (k, v) :: r, h => by
    have hk := h (k, v) (List.mem_cons_self ..)
    refine .cons ?_ (FzA.keys fun p hp => h p (List.mem_cons_of_mem _ hp))
    cases k with
    | inl i => exact .int i
    | inr x =>
      have : Fz K F T (.str (sx x.cps.toList)) (.str x.cps.toList) := .str hk
      exact this
theorem eS' : ∀ kvs : List (Key × V), M.dats (kvs.map fun p => kD p.1) = true
  | [] => rfl
  | (k, v) :: r => by
    show (M.dat (kD k) && M.dats (r.map fun p => kD p.1)) = true
    rw [eS' r]
    cases k <;> rfl
theorem qm' : ∀ {ks ds : List PyData}, ks.length = ds.length -> PyData.leavesShortAll 62 ks = true -> PyData.leavesShortAll 62 ds = true -> PyData.showableAll ks = true -> PyData.showableAll ds = true →
    PyData.leavesShortKv 62 (ks.zip ds) = true /\ PyData.showableKv (ks.zip ds) = true /\ PyData.bulkKv (ks.zip ds) = PyData.bulkAll ks + PyData.bulkAll ds /\ PyData.depthKv (ks.zip ds) = max (PyData.depthAll ks) (PyData.depthAll ds)
  | [], [], _, _, _, _, _ => ⟨rfl, rfl, rfl, rfl⟩
  | [], _ :: _, e, _, _, _, _ => by cases e
  | _ :: _, [], e, _, _, _, _ => by cases e
  | k :: ks, d :: ds, e, a1, b1, a2, b2 => by
    obtain ⟨a1, a1'⟩ := Bool.and_eq_true_iff.mp (show (PyData.leavesShort 62 k && PyData.leavesShortAll 62 ks) = true from a1)
    obtain ⟨b1, b1'⟩ := Bool.and_eq_true_iff.mp (show (PyData.leavesShort 62 d && PyData.leavesShortAll 62 ds) = true from b1)
    obtain ⟨a2, a2'⟩ := Bool.and_eq_true_iff.mp (show (PyData.showable k && PyData.showableAll ks) = true from a2)
    obtain ⟨b2, b2'⟩ := Bool.and_eq_true_iff.mp (show (PyData.showable d && PyData.showableAll ds) = true from b2)
    obtain ⟨h1, h2, h3, h4⟩ := qm' (Nat.succ.inj e) a1' b1' a2' b2'
    refine ⟨?_, ?_, ?_, ?_⟩
    . show (PyData.leavesShort 62 k && PyData.leavesShort 62 d && PyData.leavesShortKv 62 (ks.zip ds)) = true
      rw [a1, b1, h1]; rfl
    . show (PyData.showable k && PyData.showable d && PyData.showableKv (ks.zip ds)) = true
      rw [a2, b2, h2]; rfl
    . show PyData.bulk k + PyData.bulk d + 2 + PyData.bulkKv (ks.zip ds) = (PyData.bulk k + 1 + PyData.bulkAll ks) + (PyData.bulk d + 1 + PyData.bulkAll ds)
      rw [h3]; omega
    . show max (max (PyData.depth k) (PyData.depth d)) (PyData.depthKv (ks.zip ds)) = max (max (PyData.depth k) (PyData.depthAll ks)) (max (PyData.depth d) (PyData.depthAll ds))
      rw [h4]; omega
theorem iv' : ∀ ds : List M.D, (pys ds).length = ds.length
  | [] => rfl
  | _ :: r => congrArg (· + 1) (iv' r)
theorem FzA.len : ∀ {vs : List V} {ds : List M.D}, FzA K F T vs ds -> vs.length = ds.length
  | _, _, .nil => rfl
  | _, _, .cons _ r => congrArg (· + 1) (FzA.len r)
theorem hI' : ∀ kvs : List (Key × V), M.deps (kvs.map fun p => kD p.1) = 0
  | [] => rfl
  | (k, v) :: r => by
    show max (M.dep (kD k)) (M.deps (r.map fun p => kD p.1)) = 0
    rw [hI' r]
    cases k <;> rfl
def kP : Key -> PyData := fun k => py (kD k)
inductive Dq0 (K : PySem.W.Frag) (H : Hp) : V -> PyData -> Prop
  | dp {v : V} {d : PyData} : Dp K H v d -> d.hasDict = false -> Dq0 K H v d
  | dct {a : Addr} {kvs : List (Key × V)} {ds : List M.D} : Rd H a (.dK kvs) -> kG' kvs -> DpAll K H (kvs.map (·.2)) (pys ds) -> ds.all M.k1' = true -> Dq0 K H (.ref a) (.dict ((pys (kvs.map fun p => kD p.1)).zip (pys ds)))
inductive LqAll (K : PySem.W.Frag) (H : Hp) : List V -> List M.D -> Prop
  | nil : LqAll K H [] []
  | leaf {v : V} {d : M.D} {vs : List V} {ds : List M.D} : Dp K H v (py d) -> M.k1' d = true -> LqAll K H vs ds -> LqAll K H (v :: vs) (d :: ds)
  | emp {a : Addr} {vs : List V} {ds : List M.D} : Rd H a (.dK []) -> LqAll K H vs ds -> LqAll K H (.ref a :: vs) (.dct [] [] :: ds)
inductive Dq (K : PySem.W.Frag) (H : Hp) : V -> PyData -> Prop
  | old {v : V} {d : PyData} : Dq0 K H v d -> Dq K H v d
  | tupE {a : Addr} {vs : List V} {ds : List M.D} : SqT K H a vs -> LqAll K H vs ds -> Dq K H (.ref a) (.tuple (pys ds))
end
section
variable {X : Cx} {pins : List (Addr × Obj)} {σ : St} {H : Hp} {s : Shared}
theorem cS' (I : Inv X pins σ H s) {d : M.D} {v : V} {u : Value} (l : M.k1' d = true) (h : Dp X.K H v (py d)) (r : RelV v u) : Reads s.heap u (py d) [] := by
  cases d with
  | non => cases h; cases r; exact .none
  | bl b => cases h; cases r; exact .bool b
  | int i => cases h; obtain ⟨t, rfl⟩ := r; exact .int i t
  | str x => cases h; obtain ⟨t, rfl⟩ := r; exact .str _ t
  | _ => cases l
theorem fF' (I : Inv X pins σ H s) : ∀ {kvs : List (Key × V)} {vs : List (Key × Value)} {ds : List M.D}, KV kvs vs -> DpAll X.K H (kvs.map (·.2)) (pys ds) -> ds.all M.k1' = true →
    PyProof.V.PairsRead s.heap kP vs ((pys (kvs.map fun p => kD p.1)).zip (pys ds)) []
  | _, _, [], .nil, _, _ => .nil
  | _, _, _ :: _, .nil, h, _ => by cases h
  | _, _, [], .cons _ _, h, _ => by cases h
  | (k, v) :: kvs, (k', u) :: vs, d :: ds, .cons hr hp, h, l => by
    obtain ⟨he, hr⟩ := hr
    have he : k = k' := he
    subst he
    rw [List.all_cons, Bool.and_eq_true] at l
    cases h with
    | cons h1 h2 =>
      have := PyProof.V.PairsRead.cons (enc := kP) (k := k) (cS' I l.1 h1 hr) (fF' I hp h2 l.2)
      exact this
theorem Dq0.reads (I : Inv X pins σ H s) {d : PyData} {v : V} {u : Value} (h : Dq0 X.K H v d) (r : RelV v u) : ∃ as, Reads s.heap u d as /\ (d.hasDict = true -> sysModules ∉ as) := by
  cases h with
  | dp dp e =>
    obtain ⟨as, rd⟩ := Dp.reads I d v u dp r
    exact ⟨as, rd, PyData.noDict_hsm e⟩
  | @dct a kvs ds e k dd l =>
    cases r
    obtain ⟨_, hs, vs, rk, hd⟩ := dk_rd I.hok e
    refine ⟨[a], PyProof.V.reads_dictOf (enc := kP) (fun k key hk => ?_) hd (fF' I rk dd l), fun _ hm => ?_⟩
    . rcases keyIs_shape hk with ⟨i, t, rfl, rfl⟩ | ⟨x, t, rfl, rfl⟩
      . exact .int i t
      . exact .str _ t
    . have := List.mem_singleton.mp hm
      rw [<- this] at hs
      simp at hs
theorem o0' (I : Inv X pins σ H s) : ∀ {vs : List V} {us : List Value} {ds : List M.D}, LqAll X.K H vs ds -> Vals vs us -> ∃ as, ReadsAll s.heap us (pys ds) as /\ sysModules ∉ as := by
  intro vs us ds h
  induction h generalizing us with
  | nil =>
    intro r
    cases r
    exact ⟨[], .nil, by simp⟩
  | leaf h1 h2 _ ih =>
    intro r
    cases r with
    | cons r1 r2 =>
      obtain ⟨bs, q2, q3⟩ := ih r2
      exact ⟨_, .cons (cS' I h2 h1 r1) q2, by simpa using q3⟩
  | emp h1 _ ih =>
    intro r
    cases r with
    | cons r1 r2 =>
      obtain ⟨bs, q2, q3⟩ := ih r2
      obtain ⟨as, q1, q4⟩ := Dq0.reads I (Dq0.dct (ds := []) h1 (fun p hp => by cases hp) .nil rfl) r1
      exact ⟨_, .cons q1 q2, by
        rw [List.mem_append]
        rintro (h | h)
        . exact q4 rfl h
        . exact q3 h⟩
theorem Dq.reads (I : Inv X pins σ H s) {d : PyData} {v : V} {u : Value} (h : Dq X.K H v d) (r : RelV v u) : ∃ as, Reads s.heap u d as /\ (d.hasDict = true -> sysModules ∉ as) := by
  cases h with
  | old h => exact h.reads I r
  | tupE hs la =>
    cases r
    obtain ⟨its, rv, ⟨o, ho, hc, n, hd⟩, _⟩ := I.tuple hs
    obtain ⟨as, hr, hm⟩ := o0' I la rv
    exact ⟨_, Reads.tuple ho hc hd hr, fun _ => hm⟩
end
def rRep (K : PySem.W.Frag) : List V -> Hp -> VK -> Prop := fun xs H Q => ∃ v d, xs = [v] /\ Dq K H v d /\ d.showable = true /\ d.depth <= 40 /\ d.shown.length <= sizeLine /\ Q (.str d.shown) H
section
variable {X : Cx}
end
section
variable {K : PySem.W.Frag}
theorem mL' {F : Hp} {T : List Addr} {v : V} {d : M.D} (h : Fz K F T v (.rep d)) : v = .str (py d).shown := by cases h; rfl
theorem t1' : Op2 K M.sA' (wn' K) := by
  intro F H T fp x y dx dy dz Q f hx hy h k
  cases dx <;> try (cases h; done)
  cases dy <;> try (cases h; done)
  simp only [M.sA'] at h
  split at h
  . rename_i hs
    cases h
    have e := mG' _ _ hs
    subst e
    obtain rfl := mL' hx
    obtain rfl := mL' hy
    exact .inl ⟨rfl, by rw [decide_eq_true rfl]; exact k.here f (.bl false)⟩
  . cases h
end
end S
namespace S
open PySem PySem.Spec PyProof.Rows L2
variable [Wd] [Hot]
local macro_rules | `(tactic| walk_at "parts") => `(tactic| (constructor; (intro e h; simp only [List.mem_append, List.mem_cons, List.not_mem_nil] at *; grind); (intro x; simp only [keys, List.map_append, List.map_cons, List.map_nil, List.count_append, List.count_cons, List.count_nil] at *; omega)))
section
variable {K : PySem.W.Frag} {σ : St} {H : Hp} {Q : VK} {W : WX}
end
section
variable {X : Cx} {W : WX} {pos p : Pos} {a b e : Expr} {ma mb : M.ME} {mo : M.MO} {k : Nat} {args : List Str} {mf : M.MF}
end
end S
namespace S
open PySem PySem.Spec PyProof.Rows L2
variable [Wd] {cc : List (Nat × CloD)}
abbrev gv' (a : Addr) (n : Nat) (dd : Option Addr) (x : M.Exc) (cs : List (Nat × CloD) := []) : Hot := ⟨some (a, n, dd, x), cs⟩
section
variable {K : PySem.W.Frag} {F H : Hp} {T : List Addr} {fp fr : Fp} {σ : St} {env : List (Option M.O)} {a : Addr} {n i : Nat} {dd : Option Addr} {x : M.Exc}
theorem RpE.warm (h : Hot) (hc : h.clo = cc) (r : @RpE _ K (bT' cc) F T σ env fp) : @RpE _ K h F T σ env fp := by
  induction r with
  | nil => exact @RpE.nil _ K h F T
  | off _ ih => exact @RpE.off _ K h F T _ _ _ _ ih
  | on q _ ih => exact @RpE.on _ K h F T _ _ _ _ _ _ q ih
  | hot z _ _ _ => cases z
  | clo z y _ ih => exact @RpE.clo _ K h F T _ _ _ _ (by rw [hc]; exact z) y ih
theorem RpE.cool (r : @RpE _ K (gv' a n dd x cc) F T σ env fp) (hl : env.length <= n) : @RpE _ K (bT' cc) F T σ env fp := by
  induction r with
  | nil => exact @RpE.nil _ K (bT' cc) F T
  | off _ ih => exact @RpE.off _ K (bT' cc) F T _ _ _ _ (ih (by simp at hl; omega))
  | on q _ ih => exact @RpE.on _ K (bT' cc) F T _ _ _ _ _ _ q (ih (by simp at hl; omega))
  | hot z _ _ _ =>
    have := (Prod.mk.inj (Prod.mk.inj (Option.some.inj z)).2).1
    simp at hl
    omega
  | clo z y _ ih => exact @RpE.clo _ K (bT' cc) F T _ _ _ _ z y (ih (by simp at hl; omega))
theorem RpE.heat (r : @RpE _ K (bT' cc) F T σ env fp) (hn : env.length = i + n + 1) (z : XcR K F T x (.ref (He.ga K x.cls)) dd) : ∃ fq, @RpE _ K (gv' a n dd x cc) F T (σ.set i (some (.ref a))) (env.set i (some .exn)) fq /\ Part fq fp := by
  induction r generalizing i with
  | nil => simp at hn
  | @off y σ env fp r ih =>
    cases i with
    | zero =>
      have hl : n = env.length := by simp at hn; omega
      exact ⟨_, @RpE.hot _ K (gv' a n dd x cc) F T _ _ _ _ _ _ (by show some (a, n, dd, x) = _; rw [hl]) z (r.warm _ rfl), .refl⟩
    | succ i =>
      obtain ⟨fq, h1, h2⟩ := ih (i := i) (by simp at hn; omega)
      exact ⟨fq, @RpE.off _ K (gv' a n dd x cc) F T _ _ _ _ h1, h2⟩
  | @on v0 o0 σ env fa fb q r ih =>
    cases i with
    | zero =>
      have hl : n = env.length := by simp at hn; omega
      exact ⟨_, @RpE.hot _ K (gv' a n dd x cc) F T _ _ _ _ _ _ (by show some (a, n, dd, x) = _; rw [hl]) z (r.warm _ rfl), .right .refl⟩
    | succ i =>
      obtain ⟨fq, h1, h2⟩ := ih (i := i) (by simp at hn; omega)
      exact ⟨_, @RpE.on _ K (gv' a n dd x cc) F T _ _ _ _ _ _ q h1, .app .refl h2⟩
  | hot z _ _ _ => cases z
  | clo zc y r ih =>
    cases i with
    | zero =>
      rename_i env _
      have hl : n = env.length := by simp at hn; omega
      exact ⟨_, @RpE.hot _ K (gv' a n dd x cc) F T _ _ _ _ _ _ (by show some (a, n, dd, x) = _; rw [hl]) z (r.warm _ rfl), .refl⟩
    | succ i =>
      obtain ⟨fq, h1, h2⟩ := ih (i := i) (by simp at hn; omega)
      exact ⟨fq, @RpE.clo _ K (gv' a n dd x cc) F T _ _ _ _ (by rw [List.length_set]; exact zc) y h1, h2⟩
theorem RpE.chill (r : @RpE _ K (gv' a n dd x cc) F T σ env fp) (hn : env.length = i + n + 1) : ∃ fq, @RpE _ K (bT' cc) F T (σ.set i none) (env.set i none) fq /\ Part fq fp := by
  induction r generalizing i with
  | nil => simp at hn
  | @off y σ env fp r ih =>
    cases i with
    | zero => exact ⟨_, @RpE.off _ K (bT' cc) F T _ _ _ _ (r.cool (by simp at hn; omega)), .refl⟩
    | succ i =>
      obtain ⟨fq, h1, h2⟩ := ih (i := i) (by simp at hn; omega)
      exact ⟨fq, @RpE.off _ K (bT' cc) F T _ _ _ _ h1, h2⟩
  | @on v0 o0 σ env fa fb q r ih =>
    cases i with
    | zero => exact ⟨_, @RpE.off _ K (bT' cc) F T _ _ _ _ (r.cool (by simp at hn; omega)), .right .refl⟩
    | succ i =>
      obtain ⟨fq, h1, h2⟩ := ih (i := i) (by simp at hn; omega)
      exact ⟨_, @RpE.on _ K (bT' cc) F T _ _ _ _ _ _ q h1, .app .refl h2⟩
  | @hot a' dd' x' σ env fp z zz r ih =>
    cases i with
    | zero => exact ⟨_, @RpE.off _ K (bT' cc) F T _ _ _ _ (r.cool (by simp at hn; omega)), .refl⟩
    | succ i =>
      have := (Prod.mk.inj (Prod.mk.inj (Option.some.inj z)).2).1
      simp at hn
      omega
  | clo zc y r ih =>
    cases i with
    | zero => exact ⟨_, @RpE.off _ K (bT' cc) F T _ _ _ _ (r.cool (by simp at hn; omega)), .refl⟩
    | succ i =>
      obtain ⟨fq, h1, h2⟩ := ih (i := i) (by simp at hn; omega)
      exact ⟨fq, @RpE.clo _ K (bT' cc) F T _ _ _ _ (by rw [List.length_set]; exact zc) y h1, h2⟩
theorem RpE.exnH (h : Hot) (r : @RpE _ K h F T σ env fp) (e : env[i]? = some (some .exn)) : ∃ a n dd x, h.hot = some (a, n, dd, x) /\ XcR K F T x (.ref (He.ga K x.cls)) dd /\ σ[i]? = some (some (.ref a)) := by
  letI := h
  exact RpE.exn r e
theorem Rel.heat {ρ : M.PSt} (r : @Rel _ K (bT' cc) ρ σ H F T fr) (hn : ρ.env.length = i + n + 1) (z : XcR K F T x (.ref (He.ga K x.cls)) dd) : @Rel _ K (gv' a n dd x cc) ⟨ρ.env.set i (some .exn), ρ.w⟩ (σ.set i (some (.ref a))) H F T fr := by
  obtain ⟨fe, fw, re, rw, f⟩ := r
  obtain ⟨fq, h1, h2⟩ := re.heat (a := a) hn z
  exact ⟨fq, fw, h1, rw, f.part (.app h2 .refl)⟩
theorem Rel.chill {ρ : M.PSt} (r : @Rel _ K (gv' a n dd x cc) ρ σ H F T fr) (hn : ρ.env.length = i + n + 1) : @Rel _ K (bT' cc) ⟨ρ.env.set i none, ρ.w⟩ (σ.set i none) H F T fr := by
  obtain ⟨fe, fw, re, rw, f⟩ := r
  obtain ⟨fq, h1, h2⟩ := re.chill hn
  exact ⟨fq, fw, h1, rw, f.part (.app h2 .refl)⟩
end
section
variable {X : Cx} {W : WX} {K : PySem.W.Frag} {D : Ends} {σ : St} {H : Hp} {F : Hp} {T : List Addr} {fr : Fp}
theorem bg'.chill {a : Addr} {n i : Nat} {dd : Option Addr} {x : M.Exc} {r : M.Out} (h : @bg' _ (bT' cc) K W D F T fr (M.nY' i n (M.oX' r))) :
    @bg' _ (gv' a n dd x cc) K W0 { nx := fun σ' H' => D.nx (σ'.set i none) H', rt := D.rt, bk := fun σ' H' => D.bk (σ'.set i none) H', ct := fun σ' H' => D.ct (σ'.set i none) H' } F T fr r := by
  cases r with
  | exc x ρ => exact h.elim
  | nx ρ =>
    unfold M.oX' M.nY' at h
    by_cases hl : ρ.env.length = i + n + 1
    . simp only [hl, if_true] at h
      exact fun σ' H' F' T' e r => h _ H' F' T' e (r.chill hl)
    . simp only [hl, if_false] at h; exact h.elim
  | bk ρ =>
    unfold M.oX' M.nY' at h
    by_cases hl : ρ.env.length = i + n + 1
    . simp only [hl, if_true] at h
      exact fun σ' H' F' T' e r => h _ H' F' T' e (r.chill hl)
    . simp only [hl, if_false] at h; exact h.elim
  | ct ρ =>
    unfold M.oX' M.nY' at h
    by_cases hl : ρ.env.length = i + n + 1
    . simp only [hl, if_true] at h
      exact fun σ' H' F' T' e r => h _ H' F' T' e (r.chill hl)
    . simp only [hl, if_false] at h; exact h.elim
  | rt o w => exact h
  | bad => exact h
def tsA (cc : List (Nat × CloD)) (K : PySem.W.Frag) (n : Nat) (h : M.Exc -> M.MS) : Addr -> Value -> Option Addr -> TS := fun a cls d D σ H => ∃ e : M.Exc, cls = .ref (He.ga K e.cls) /\ @qS _ (gv' a n d e cc) K W0 (h e) D σ H
theorem or' {x n : Str} {c : Value} {i m : Nat} {body suite : List Stmt} {b₀ : Stmt} {np pos pos' : Pos} {mb : M.MS} {g : String -> Option Bool} {h : M.Exc -> M.MS} (hs : X.stack = X.env :: X.outer) (hf : X.env.frame = some X.env.locals) (hN : X.N.Nodup) (hi : X.N[i]? = some n) (hln : X.env.kindOf n = some .local) (hc : Names X x c) (tk : Takes X W)
    (hg : ∀ y b, g y = some b -> PySem.W.exmOne X.K (.ref (He.ga X.K y)) c = some b)
    (hb : ∀ (W : WX) (pn : List (Addr × Obj)) (xe : Value -> Shared -> Prop), Takes (X.tr pn xe) W -> PassesOwn (model X.prog X.w) X.A X.env xe -> @SSs _ (bT' cc) (X.tr pn xe) W body mb)
    (hsu : ∀ (e : M.Exc) (a : Addr) (oe : Obj) (d : Option Addr) (pn : List (Addr × Obj)), Zc (.ref (He.ga X.K e.cls)) d oe -> (∃ vs, oe.data = .fields vs) -> @SSs _ (gv' a m d e cc) (X.suite a ((a, oe) :: pn)) W0 (b₀ :: suite) (h e)) :
    @SS _ (bT' cc) X W (.Try body [.ExceptHandler (some (.Name x np)) (some n) (b₀ :: suite) pos'] [] [] pos) (M.fE' i m mb g h) := by
  have ts : ∀ (a : Addr) (oe : Obj) (cls : Value) (d : Option Addr) (pn : List (Addr × Obj)), Zc cls d oe -> (∃ vs, oe.data = .fields vs) -> PSs (X.suite a ((a, oe) :: pn)) (b₀ :: suite) (tsA cc X.K m h a cls d) := by
    intro a oe cls d pn hz hf
    refine ⟨fun pins s σ H D I q => ?_⟩
    obtain ⟨e, rfl, q⟩ := q
    exact (hsu e a oe d pn hz hf).run pins s σ H D I q
  refine PS.imp (ps_try_as (tb := fun W => @qS _ (bT' cc) X.K W mb) hs hf hN hi hln hc tk hb ts) fun D σ H ⟨ρ, F, T, fr, rel, hh⟩ => ?_
  refine ⟨ρ, F, T, fr, rel, ?_⟩
  unfold M.fE' at hh
  cases e : mb ρ with
  | nx ρ1 => rw [e] at hh; exact hh
  | bk ρ1 => rw [e] at hh; exact hh
  | ct ρ1 => rw [e] at hh; exact hh
  | rt o w => rw [e] at hh; exact hh
  | bad => rw [e] at hh; exact hh
  | exc y ρ1 =>
    rw [e] at hh
    intro σ' cls dd H' F' T' e z r
    have ec := z.1
    subst ec
    dsimp only at hh
    cases eg : g y.cls with
    | none => rw [eg] at hh; exact hh.elim
    | some b =>
      rw [eg] at hh
      refine ⟨b, hg _ _ eg, fun hb a ha => ?_, fun hb => ?_⟩
      . subst hb
        dsimp only at hh
        by_cases hl : ρ1.env.length = i + m + 1
        . rw [if_pos hl] at hh
          exact ⟨y, rfl, _, F', T', fr, r.heat hl z, @bg'.mono _ (gv' a m dd y cc) _ _ _ _ _ _ _ _ _ (bg'.chill hh) e⟩
        . rw [if_neg hl] at hh; exact hh.elim
      . subst hb
        exact hh σ' _ dd H' F' T' e z r
end
section
variable {X : Cx} {W : WX} {pos p : Pos} {a b : Expr}
def xB' (K : PySem.W.Frag) (cs : List String) (f : String) : Prop := ∀ c ∈ cs, XfC K (He.ga K (Str.ofString c)) /\ PySem.W.findIn K (.ref (He.ga K (Str.ofString c))) (Str.ofString f) = some none
theorem n4' {K : PySem.W.Frag} {cs : List String} {f : String} (h : sK' K cs f = true) : xB' K cs f := fun c hc => by
  have z := List.all_eq_true.mp h c hc
  rw [Bool.and_eq_true, decide_eq_true_eq] at z
  exact ⟨xfB_ok z.1, z.2⟩
theorem wb' {f : String} {cs : List String} {i m : Nat} {ad : Addr} {oe : Obj} {dd : Option Addr} {e : M.Exc} {pn : List (Addr × Obj)} (T : xB' X.K cs f) (hz : Zc (.ref (He.ga X.K e.cls)) dd oe) (hf : ∃ vs, oe.data = .fields vs)
    (ha : PE (X.suite ad ((ad, oe) :: pn)) a (tVar i)) (hb : attributeBase a (Str.ofString f) X.env (eval a X.env) = eval a X.env := by rfl) : @SE _ (gv' ad m dd e cc) (X.suite ad ((ad, oe) :: pn)) W (.Attribute a (Str.ofString f) pos) (M.eXf i cs f e) := by
  by_cases hc : e.cls ∈ cs
  . refine PE.imp (pe_xf (T _ hc).1 (T _ hc).2 hz hf ha hb) fun σ H Q ⟨ρ, F, T, fr, rel, h⟩ => ?_
    unfold M.eXf at h
    split at h
    . rename_i ei
      rw [if_pos hc] at h
      obtain ⟨dz, ez, q⟩ := a4'.ofO h
      obtain ⟨fe, fw, re, rw', f'⟩ := id rel
      obtain ⟨a', n', dd', x', h1, ⟨_, h2⟩, h3⟩ := RpE.exnH _ re ei
      cases h1
      rcases h2 with ⟨h2, _⟩ | ⟨b, g, v, d, h4, h5, h6, h7⟩
      . rw [h2] at ez; cases ez
      . rw [h4, List.lookup_cons] at ez
        cases hfg : f == g with
        | false => rw [hfg] at ez; cases ez
        | true =>
          rw [hfg] at ez
          cases ez
          have efg : f = g := by simpa using hfg
          subst efg
          exact ⟨_, h3, rfl, rfl, b, _, v, h5, f'.low _ _ h6, by simp [List.lookup], q v H F T .refl h7 rel⟩
    . exact h.elim
  . refine ⟨fun pins s σ H Q I q => ?_⟩
    obtain ⟨ρ, F, T, fr, rel, q⟩ := q
    exfalso
    unfold M.eXf at q
    split at q
    . rw [if_neg hc] at q; exact q.elim
    . exact q.elim
end
end S
namespace S
open PySem PySem.Spec PyProof.Rows L2
section
variable {prog : Program} {w : World} {A : Around} {E : Value -> Shared -> Prop} {s : Shared} {K : PySem.W.Frag} {x C L f : Addr} {h₀ : Heap} {m : Str -> Option Value} {ox : Obj} {od : Option Obj} {b tb : Value}
open PySem.W in
end
end S
namespace S
open PySem PySem.Spec PyProof.Rows L2
variable [Wd] [Hot]
section
variable {K : PySem.W.Frag} {σ : St} {H : Hp} {Q : VK} {W : WX}
end
section
variable {X : Cx} {W : WX} {pos : Pos} {a b : Expr} {ma mb : M.ME} {k : Nat} {args : List Str} {mf : M.MF}
end
end S
namespace S
open PySem PySem.Spec PyProof.Rows L2
variable [Wd] [Hot]
def xK' (z : Str) : Str := ⟨z.cps.toList.reverse.toArray⟩
def wl' (K : PySem.W.Frag) : V -> Hp -> VK -> Prop := fun x H Q => (∃ z, x = .str z /\ z.length <= sizeLine /\ Q (.str (xK' z)) H) \/ (∃ a xs, x = .ref a /\ SqL K H a xs /\ ∀ p, H p = none -> Q (.ref p) (upd H p (.lst xs.reverse)))
theorem lc' {lo up by' : Value} (h1 : IsPart lo none) (h2 : IsPart up none) (h3 : IsPart by' (some (-1))) : lo = .none /\ up = .none /\ ∃ tk, by' = .int (-1) tk := by
  have no : ∀ {v : Value}, IsPart v none -> v = .none := fun {v} q => by
    obtain ⟨r, rfl, z⟩ := IsPart.raw q
    cases r with
    | none => rfl
    | some r => cases z
  obtain ⟨r, rfl, z⟩ := IsPart.raw h3
  cases r with
  | none => cases z
  | some r =>
    obtain ⟨i, tk⟩ := r
    obtain rfl : i = -1 := Option.some.inj z
    exact ⟨no h1, no h2, tk, rfl⟩
def pE' (X : Cx) (e sl : Expr) (r : V -> Hp -> VK -> Prop) : Prop := ∀ (pins : List (Addr × Obj)) (s : Shared) (σ : St) (H : Hp) (x : V) (v lo up by' : Value) (Q : VK), Inv X pins σ H s -> RelV x v -> IsPart lo none -> IsPart up none -> IsPart by' (some (-1)) -> r x H Q →
  Inv X pins σ H { s with heap := s.heap.push { cls := .type "slice", data := .fields #[lo, up, by'] } } →
  wpAny (model X.prog X.w) X.A (subscriptTail e sl v (.ref s.heap.objs.size)) (EP X pins σ Q) X.xe { s with heap := s.heap.push { cls := .type "slice", data := .fields #[lo, up, by'] } }
theorem m0' {X : Cx} {e : Expr} {te : TE} {k : Nat} {p1 p2 p3 pos : Pos} {r : V -> Hp -> VK -> Prop} (he : PE X e te) (tail : pE' X e (.Slice none none (some (.UnaryOp .USub (.Constant (.int 1) k p1) p2)) p3) r) :
    PE X (.Subscript e (.Slice none none (some (.UnaryOp .USub (.Constant (.int 1) k p1) p2)) p3) pos) (fun σ H Q => te σ H fun x H1 => r x H1 Q) := by
  have minus : PO X (some (.UnaryOp .USub (.Constant (.int 1) k p1) p2)) (tPart (tUn (rU fun i => .int (-i)) (tC (.int 1)))) := po_some (pe_un un_neg pe_int)
  -- a part that is left out changes nothing
  have left : ∀ (pins : List (Addr × Obj)) (s : Shared) (σ : St) (H : Hp), Inv X pins σ H s -> _ := fun pins s σ H I => po_none.run pins s σ H (fun o H2 => o = none /\ H2 = H) I ⟨rfl, rfl⟩
  exact ⟨fun pins s σ H Q I want => Subscript_ (thn (he.run pins s σ H _ I want) fun v sa ⟨x, Ha, Ia, rx, wx⟩ => wpAny_Slice (thn (left pins sa σ Ha Ia) fun lo sb ⟨o1, Hb, Ib, q1, z1, y1⟩ => by
    cases z1
    cases y1
    exact thn (left pins sb σ Ha Ib) fun up sc ⟨o2, Hc, Ic, q2, z2, y2⟩ => by
      cases z2
      cases y2
      exact thn (minus.run pins sc σ Ha (fun o H4 => o = some (-1) /\ H4 = Ha) Ic ⟨1, rfl, -1, rfl, rfl, rfl⟩) fun by' sd ⟨o3, Hd, Id, q3, z3, y3⟩ => by
        cases z3
        cases y3
        exact tail pins sd σ Ha x v lo up by' Q Id rx q1 q2 q3 wx (Id.kept (t' := sd.toks) fun _ _ there => Heap.get?_push_of_some _ there)))⟩
theorem rm' {X : Cx} {e : Expr} {te : TE} {k : Nat} {p1 p2 p3 pos : Pos} (he : PE X e te) : PE X (.Subscript e (.Slice none none (some (.UnaryOp .USub (.Constant (.int 1) k p1) p2)) p3) pos) (fun σ H Q => te σ H fun x H1 => wl' X.K x H1 Q) := m0' he fun pins s4 σ H4 x v vl vu vs Q I4 r1 pl pu ps q1 I5 => by
  rcases q1 with ⟨z, rfl, hz, q⟩ | ⟨a, xs, rfl, hx, q⟩
  . obtain ⟨t, rfl⟩ := r1
    show wpAny (model X.prog X.w) X.A (subscriptTail e (.Slice none none (some (.UnaryOp .USub (.Constant (.int 1) k p1) p2)) p3) (.str z t) (.ref s4.heap.objs.size)) (EP X pins σ Q) X.xe { s4 with heap := s4.heap.push { cls := .type "slice", data := .fields #[vl, vu, vs] } }
    refine tail_any (ops := [.str z t, .ref s4.heap.objs.size]) (typeIs_str _ z t) (F.slot_str_getitem.lookup) ?_ (by with_unfolding_all rfl)
    obtain ⟨rfl, rfl, tk, rfl⟩ : vl = .none /\ vu = .none /\ ∃ tk, vs = .int (-1) tk := lc' pl pu ps
    refine wpAny_getItem_str_slice (l := none) (u := none) (st := some (-1, tk)) ⟨_, Heap.get?_push_size _ rfl, rfl, rfl⟩ rfl ?_
    show Made.post (if (((-1 : Int) == 1) && _) = true then Made.val (.str z t) else Made.str ⟨((Builtin.Str.strSliceIndices none none (-1) z.length).filterMap (z.cps[·]?)).toArray⟩) (EP X pins σ Q) _
    rw [if_neg (by simp), picked_rev, PySem.W.krv_range, List.filterMap_reverse]
    rw [show (List.range z.length).filterMap (z.cps[·]?) = z.cps.toList from PySem.W.krv_all z.cps]
    refine ⟨?_, .str _, H4, I5.tok _, ⟨_, rfl⟩, q⟩
    show z.cps.toList.reverse.toArray.size <= sizeLine
    rw [List.size_toArray, List.length_reverse, Array.length_toList]
    exact hz
  . cases r1
    obtain ⟨its, r, ht, hz⟩ := I5.list hx
    have fits : its.toArray.size <= sizeLine := by rw [List.size_toArray, <- r.length]; exact hz
    have laid := I5.laid (t' := s4.toks) (o := .lst xs.reverse) (fun _ _ there => Heap.get?_push_of_some _ there) (Nat.le_refl _) ⟨by rw [List.length_reverse]; exact hz, _, 0, r.reverse, Heap.get?_push_size _ rfl⟩
    exact tail_any (ops := [.ref a, .ref s4.heap.objs.size]) ht.isList.typeIs PySem.slot_list_getitem.lookup
      (wpAny_getItem_list_slice ht.isList (Heap.IsSliceOf.new _ vl vu vs) pl pu ps (by decide) (by
        rw [PySem.W.krv_pick]
        exact ⟨.ref _, _, laid, rfl, q _ (I5.hok.fresh (Nat.le_refl _))⟩) fits) (by with_unfolding_all rfl)
theorem rv' {s : M.Tx} (o : okT s) : okT s.reverse := o.sub (fun c hc => List.mem_reverse.mp hc) (by rw [List.length_reverse]; exact Nat.le_refl _)
section
variable {X : Cx} {W : WX} {a : Expr} {ma : M.ME} {pos p1 p2 p3 : Pos} {k : Nat}
theorem q6' (ha : SE X W a ma) : SE X W (.Subscript a (.Slice none none (some (.UnaryOp .USub (.Constant (.int 1) k p1) p2)) p3) pos) (M.eUn M.sz' ma) :=
  PE.imp (rm' ha) fun σ H Q ⟨ρ, F, T, fr, rel, h⟩ => by
    refine aF' rel h fun dx ρ1 v H1 F1 T1 e1 z1 r1 h1 => ?_
    obtain ⟨dz, ez, q⟩ := a4'.ofO h1
    obtain ⟨fp, f1, back⟩ := r1.fp
    have g : ds' X.K F1 T1 fp dz fun v' H4 => Q v' H4 := fun v' H4 F4 s zz f4 => q v' H4 F4 T1 (e1.trans (.of s)) zz (back H4 F4 s f4)
    cases dx <;> try (cases ez; done)
    . obtain ⟨rfl, o1⟩ := z1.str_inv
      cases ez
      refine .inl ⟨_, rfl, o1.len, ?_⟩
      have e : xK' (sx ‹M.Tx›) = sx (‹M.Tx›.reverse) := ep' (by rfl)
      rw [e]
      exact g.here f1 (.str (rv' o1))
    . obtain ⟨a, vs, rfl, ha, za⟩ := z1.lst_inv
      cases ez
      exact .inr ⟨a, vs, rfl, SqL.of (f1.low _ _ ha), fun p hp => g.newL f1 za.rev hp⟩
end
end S
namespace S
open PySem PySem.Spec PyProof.Rows L2 TL
variable [Wd] [Hot]
section
variable {K : PySem.W.Frag}
end
end S
namespace S
open PySem PySem.Spec PyProof.Rows L2
variable [Wd] [Hot]
section
variable {X : Cx} {W : WX} {K : PySem.W.Frag} {a b : Expr} {ma : M.ME} {pos : Pos}
end
end S
namespace S
open PySem PySem.Spec PyProof.Rows L2
variable [Wd] [Hot]
section
variable {K : PySem.W.Frag} {W : WX} {σ : St} {H : Hp}
end
section
variable {X : Cx} {W : WX} {pos : Pos} {elt tg iter tg1 iter1 : Expr} {ifs ifs1 : List Expr} {scope : Scope} {own : List (Str × Nat)} {sl sl0 sl1 : List Nat} {it it1 : M.MI} {g g1 : M.MG} {t t1 : M.MT} {e : M.ME}
end
end S
namespace S
open PySem PySem.Spec PyProof.Rows L2
end S
namespace S
open PySem PySem.Spec PyProof.Rows L2
variable [Wd] [Hot]
section
variable {K : PySem.W.Frag} {W : WX} {X : Cx} {p pos : Pos} {a b : Expr} {ma mb : M.ME}
end
end S
namespace S
open PySem PySem.Spec PyProof.Rows L2
variable [Wd] [Hot]
section
variable {X : Cx} {W : WX} {K : PySem.W.Frag} {a : Expr} {ma : M.ME} {pos : Pos}
end
end S
namespace S
open PySem PySem.Spec PyProof.Rows L2
variable [Wd] [Hot]
section
variable {K : PySem.W.Frag} {W : WX} {σ : St} {H : Hp}
end
section
variable {X : Cx} {W : WX} {pos px : Pos} {elt tg : Expr} {ifs : List Expr} {scope : Scope} {own : List (Str × Nat)} {sl : List Nat} {i : Nat} {nm : Str} {g : M.MG} {t : M.MT} {e : M.ME}
end
end S
namespace S
open PySem PySem.Spec PyProof.Rows L2
variable [Wd] [Hot]
section
variable {X : Cx} {W : WX} {pos cpos apos : Pos} {o a : Expr} {mo : M.ME} {ma : M.MO}
end
end S
namespace S
open PySem PySem.Spec PyProof.Rows L2
theorem pA' {ps : Arguments} {x y : Str} (h : pB' ps = some (x, y)) : ∃ a b, ps = ⟨[], [a, b], none, [], [], none, []⟩ /\ a.arg = x /\ b.arg = y := by
  unfold pB' at h
  split at h
  . rename_i a b
    cases h
    exact ⟨a, b, rfl, rfl, rfl⟩
  . cases h
theorem px' {b : FuncBody} {s m x f y : Str} (h : py' b = some (s, m, x, f, y)) : ∃ p0 p1 p2 tx j p3 p4 p5 p6 p7 p8 p9, (p2.endLine == p4.line) = true ∧
    b = .stmts [.Expr (.Call (.Attribute (.Call (.Name s p0) [] [] p1) m p2) [.Constant (.str tx) j p3] [] p4) p5, .Assign [.Attribute (.Name x p6) f p7] (.Name y p8) p9] := by
  unfold py' at h
  split at h
  . split at h
    . rename_i hz
      cases h
      exact ⟨_, _, _, _, _, _, _, _, _, _, _, _, hz, rfl⟩
    . cases h
  . cases h
theorem pe' {o : Expr} {name : Str} {apos pos p3 : Pos} {tx : Str} {j : Nat} {env : Env} (hline : (apos.endLine == pos.line) = true) : eval (.Call (.Attribute o name apos) [.Constant (.str tx) j p3] [] pos) env = (do
      let ov ← attributeBase o name env (eval o env)
      standAt apos.atName
      let (f, first) ← holding [ov] (getMethod ov name (do return (← importBound o env).getD true))
      callWith pos f first (backTo pos (starEach [.Constant (.str tx) j p3] env)) []) := by
  have hpos : methodCallPos true o env apos pos = pure pos := by unfold methodCallPos; simp [hline]
  have hform : methodCallForm ([Expr.Constant (.str tx) j p3].length + ([] : List Keyword).length) (backTo pos (starEach [.Constant (.str tx) j p3] env)) (backToKw pos (keywordEach [] env)) = true := by rfl
  rw [arm_eval_Call]
  unfold methodCall
  rw [hform, hpos]
  simp only [pure_bind]
  rfl
structure SupF (file : Str) (K : PySem.W.Frag) (C f : Addr) (fld : Str) : Prop where
  ex : ∃ (oc : Value) (od : Option Addr) (fd : FuncData) (osl : Array (Option Value)) (x y : Str) (cc cda : Addr), K.lookup f = some ⟨oc, od, .func fd, osl⟩ /\ pB' fd.params = some (x, y) /\ py' fd.body = some (("super" : Str), ("__init__" : Str), x, fld, y) ∧
    fd.closure = [(("__class__" : Str), cc)] /\ fd.code = .ref cda /\ fd.defaults = .none /\ fd.kwdefaults = .none /\ fd.globals = mainGlobals /\ fd.builtins = builtinsNs /\ PySem.W.codeIn K (.ref cda) fd.qualname = true ∧
    fd.scope.names.lookup ("super" : Str) = some .globalImplicit /\ fd.scope.names.lookup ("__class__" : Str) = some .free /\ fd.scope.names.lookup x = some .local /\ fd.scope.names.lookup y = some .local /\ (∀ q ∈ fd.scope.names, q.2 ≠ .cell) ∧
    fd.scope.kind = .function /\ fd.scope.isGenerator = false /\ fd.scope.isCoroutine = false /\ x = "self" /\ (y = "part" \/ y = "most") ∧
    (∃ a b c, K.lookup cc = some ⟨a, b, .cell (some (.ref C)), c⟩) /\ (∃ a b c vs tf, K.lookup cda = some ⟨a, b, .fields vs, c⟩ /\ vs[2]? = some (.str file tf))
  sup : PySem.W.ks_superIn K C C "__init__" = some (some (.builtin "ValueError.__init__"))
  own : PySem.W.mroIn K C (.ref C) = some true
  ve : PySem.W.subIn K (.ref C) (.type "ValueError") = some true
  no3 : PySem.W.nsIn K cStatics "thirdparty.any" = some none
  cls : ∃ nm q N bs bm sn sub ab col dd k0 k1 k2 k3 k5, K.lookup C = some (excClassObj nm q C N bs bm true sn sub ab col dd k0 k1 k2 k3 k5 "ValueError.__new__") /\ HandSPX.refsVE bm = true
  sa : PySem.W.findIn K (.ref C) "__setattr__" = some (some (.builtin "object.__setattr__"))
  exC : PySem.W.subIn K (.ref C) (.type "BaseException") = some true
  tyC : PySem.W.typeIn K (.ref C) = some (.type "type")
  kC : PySem.W.keepIn K (.ref C) = true
  iC : PySem.W.findIn K (.ref C) "__init__" = some (some (.ref f))
  tI : PySem.W.typeIn K (.ref f) = some (.type "function")
  fl : PySem.W.findIn K (.ref C) fld = some none
theorem k4' {prog : Program} {w : World} {A : Around} {E : Value -> Shared -> Prop} {h : Heap} {g : Array GenState} {d : Drawn} {t : Nat} {os : OsState} {nm q : Str} {C N : Addr} {bs bm : List Value} {hdct : Bool} {sn : List Str} {sub : List Value} {ab : Bool} {col : Option Bool} {dd : Option Addr} {k0 k1 k2 k3 k5 : Option Value}
    {u e t0 : Addr} {rest : List Value} {Q : Value -> Shared -> Prop} (hC : h.get? C = some (excClassObj nm q C N bs bm hdct sn sub ab col dd k0 k1 k2 k3 k5 "ValueError.__new__")) (he : h.get? e = some (HandSPX.excO C t0)) (hu : h.get? u = some (PySem.W.kxs_mw "ValueError.__init__" e)) (hl : rest.length <= sizeLine)
    (hq : ∀ h' t1, (∀ b o, b ≠ e -> h.get? b = some o -> h'.get? b = some o) -> h'.get? e = some (HandSPX.excO C t1) -> Q .none ⟨h', g, d, t, os⟩) : wpAny (model prog w) A (call (.ref u) rest) Q E ⟨h, g, d, t, os⟩ := by
  refine wpAny_call (codeAny_of_tree ?_)
  show wpAny _ A.in1 (callAny (.ref u) ⟨rest, []⟩) _ _ _
  unfold callAny
  refine wpAny_bind (wpAny_load hu ?_)
  simp only [PySem.W.kxs_mw, show (Value.type "method-wrapper" == Value.type "method" || Value.type "method-wrapper" == Value.type "builtin_function_or_method" || Value.type "method-wrapper" == Value.type "method-wrapper") = true from by decide, if_true]
  refine PySem.W.KFB.if_so (by decide) ?_
  refine wpAny_bind (PySem.W.check_bound_init (F.excBase_ValueError).toExcCallFacts hC he rfl ?_)
  refine wpAny_bind (wpAny_pure (wpAny_pure ⟨Code.quiet_builtin _ (by decide +kernel), codeAny_builtin F.excBase_ValueError.initEntry ?_⟩))
  rw [Around.under_plainId F.excBase_ValueError.init.plain _]
  wp_walk
  exact hq _ h.objs.size (fun b o hb ho => (Heap.get?_update_other _ _ (Ne.symm hb)).trans (Heap.get?_push_of_some _ ho)) ((Heap.get?_update_self _ (Heap.get?_push_of_some _ he) rfl).trans rfl)
set_option maxHeartbeats 8000000 in
theorem qU' {P : Program} {w : World} {K : PySem.W.Frag} {mg mb : Str -> Option Value} {A : Around} {C f a t0 : Addr} {fld : Str} {u : Value} {R : Result -> Shared -> Prop} {hp : Heap} {g : Array GenState} {d : Drawn} {t : Nat} {os : OsState}
    (S : SupF P.main.file K C f fld) (X : K.In hp) (hg : hp.Ns mainGlobals mg) (hmg : mg "super" = none) (hb : hp.Ns builtinsNs mb) (hmb : mb "super" = some (.type "super")) (lim : hp.NoLimit) (room : A.depth < recursionLimit) (htop : (P.main.scope.names.lookup ("super" : Str)).isSome = false)
    (ha : hp.get? a = some (HandSPX.excO C t0)) (hKa : K.lookup a = none) (hga : mainGlobals ≠ a /\ builtinsNs ≠ a)
    (hq : ∀ h' t' dx t1, (∀ b o, b ≠ a -> hp.get? b = some o -> h'.get? b = some o) -> hp.objs.size <= dx -> dx ≠ a -> h'.get? a = some { cls := .ref C, dict := some dx, data := .fields #[.ref t1, .none, .none, .none, .bool false, .none] } →
      h'.Ns1 dx (fun y => if y = fld then some u else none) -> R (.ok (.ret .none)) ⟨h', g, d, t', os⟩) : codeAny (model P w) A (.call (.ref f) ⟨[.ref a, u], []⟩) R ⟨hp, g, d, t, os⟩ := by
  obtain ⟨oc, od, fd, osl, x, y, cc, cda, lk, hps, hbd, hcl, hcd, hdf, hkd, hgl, hbl, hci, s1, s2, s3, s4, s5, s6, s7, s8, hx, hy, ⟨c1, c2, c3, hcc⟩, d1, d2, d3, vs, tf, hcda, hvs⟩ := S.ex
  obtain ⟨nm, q, N, bs, bm, sn, sub, ab, col, dd, k0, k1, k2, k3, k5, hC, hbm⟩ := S.cls
  obtain ⟨a1, a2, eps, rfl, rfl⟩ := pA' hps
  obtain ⟨p0, p1, p2, tx, j, p3, p4, p5, p6, p7, p8, p9, hline, ebd⟩ := px' hbd
  have hcn : PySem.W.clsIn K C = some { name := nm, bases := bs, mro := .ref C :: bm, ns := N, qualname := q, hasDict := true, slotNames := sn, subclasses := sub, abstract := ab, collection := col, hasDel := false } := by unfold PySem.W.clsIn; rw [hC]
  have hbind : BindsTo (⟨hp, g, d, t, os⟩ : Shared) fd ⟨[.ref a, u], []⟩ [(a1.arg, .ref a), (a2.arg, u)] := by
    obtain ⟨n1, n2, n3, n4, n5, n6, n7, n8, n9, n10, n11, n12, n13, n14, n15⟩ := fd
    obtain ⟨b1, b2, b3⟩ := a1
    obtain ⟨b4, b5, b6⟩ := a2
    dsimp only at eps hdf hkd hx hy ⊢
    subst eps hdf hkd hx
    rcases hy with rfl | rfl
    . exact .of_eq rfl
    . exact .of_eq rfl
  have hxy : a1.arg ≠ a2.arg := by
    rcases hy with e | e <;> rw [hx, e] <;> decide
  have dx1 : (a1.arg == ("__debug__" : Str)) = false := by rw [hx]; decide
  have dy1 : (a2.arg == ("__debug__" : Str)) = false := by rcases hy with e | e <;> rw [e] <;> decide
  refine PySem.ks_codeAny_call_defAt (fd := fd) room (X _ _ lk) rfl lim (by rw [hcd]; exact PySem.W.codeRec_of X hci) ebd hbind s5 (fun z hz => ?_) (fun h₀ hns hk => ?_) s8 s7 s6
  . rcases List.mem_cons.mp hz with rfl | hz
    . exact s3
    . rcases List.mem_cons.mp hz with rfl | hz
      . exact s4
      . cases hz
  have eL : (callEnv fd hp.objs.size f).locals = hp.objs.size := rfl
  have v1 : ([(a1.arg, Value.ref a), (a2.arg, u)].reverse.lookup a1.arg) = some (.ref a) := by
    have e1 : (a1.arg == a2.arg) = false := by simpa using hxy
    show List.lookup a1.arg [(a2.arg, u), (a1.arg, Value.ref a)] = _
    rw [List.lookup_cons, e1]
    simp
  have v2 : ([(a1.arg, Value.ref a), (a2.arg, u)].reverse.lookup a2.arg) = some u := by
    show List.lookup a2.arg [(a2.arg, u), (a1.arg, Value.ref a)] = _
    simp
  have X0 : K.In h₀ := X.keeps hk
  have ha0 := hk _ _ ha
  refine PySem.ks_wpAt_execs_cons (PySem.ks_wpAt_Expr_any (PySem.ks_wpAt_MethodCall ?_ (pe' hline)) (by unfold interactive; simp [callEnv, newEnv, s6]))
  refine PySem.ks_wpAt_super_base (env := callEnv fd hp.objs.size f) (f := f) (fd := fd) (ar := a1) (cc := cda) (vs := vs) s1 s2 (by decide) rfl (X0 _ _ lk) rfl (by rw [eps]; rfl) hcd (X0 _ _ hcda) rfl hvs (by simp) htop ?_
  refine PySem.W.ks_loadName_global s6 s1 (PySem.Calls.loadGlobal_builtin (by rw [show (callEnv fd hp.objs.size f).globals = mainGlobals from hgl]; exact hg.keeps hk) hmg (by rw [show (callEnv fd hp.objs.size f).builtins = builtinsNs from hbl]; exact hb.keeps hk) hmb ⟨rfl, ?_⟩)
  refine wpAny_loadName_free s6 s2 (c := cc) (by show fd.closure.lookup _ = _; rw [hcl]; rfl) ⟨_, X0 _ _ hcc, rfl⟩ ?_
  refine wpAny_loadName_local s6 s3 hns v1 ?_
  refine PySem.ks_wpAny_isType_cls (X0 _ _ hC) rfl ⟨rfl, ?_⟩
  refine PySem.ks_wpAny_call_super (X0 _ _ hC) rfl ha0 rfl (fun c e => by cases e) (PySem.W.looks_mroIn X0 S.own) (fun h1 e1 kk1 => ?_)
  have X1 : K.In h1 := X0.keeps kk1
  have ha1 := kk1 _ _ ha0
  have I1 : PySem.W.InstAt h1 a (HandSPX.excO C t0) C none := ⟨ha1, rfl, rfl, trivial⟩
  have hsup : PySem.W.alongIn K "__init__" (((Value.ref C :: bm).dropWhile (· != .ref C)).drop 1) = some (some (.builtin "ValueError.__init__")) := by
    have z := S.sup
    unfold PySem.W.ks_superIn at z
    rw [hcn] at z
    exact z
  refine PySem.W.kxs_getMethod PySem.W.kxs_ValueError e1 (PySem.W.looks_opaque X1 S.no3) (l₀ := .ref C :: bm) (fun A Q E s k q => wpAny_bind ((PySem.W.looks_clsIn X1 hcn) A _ E s k (wpAny_pure q))) rfl X1 hsup (I1.type.andThen (PySem.W.looks_subIn X1 S.ve)) (PySem.W.ks_ne X1 I1 hcn) (by decide) ?_
  have kk2 : ∀ b o, h1.get? b = some o -> (h1.push (PySem.W.kxs_mw "ValueError.__init__" a)).get? b = some o := fun b o e => Heap.get?_push_of_some _ e
  have hmw : (h1.push (PySem.W.kxs_mw "ValueError.__init__" a)).get? h1.objs.size = some (PySem.W.kxs_mw "ValueError.__init__" a) := Heap.get?_push_at rfl rfl
  have ha2 := kk2 _ _ ha1
  have X2 : K.In (h1.push (PySem.W.kxs_mw "ValueError.__init__" a)) := X1.keeps kk2
  have hne : h1.objs.size ≠ a := (Nat.ne_of_lt (Heap.lt_size ha1)).symm
  have keep2 : ∀ b o, hp.get? b = some o -> (h1.push (PySem.W.kxs_mw "ValueError.__init__" a)).get? b = some o := fun b o e => kk2 _ _ (kk1 _ _ (hk _ _ e))
  have hL2 : (h1.push (PySem.W.kxs_mw "ValueError.__init__" a)).Ns hp.objs.size (fun x => [(a1.arg, Value.ref a), (a2.arg, u)].reverse.lookup x) := (hns.keeps kk1).keeps kk2
  have hLa : hp.objs.size ≠ a := (Nat.ne_of_lt (Heap.lt_size ha)).symm
  generalize h1.push (PySem.W.kxs_mw "ValueError.__init__" a) = h2 at *
  rw [show starEach [Expr.Constant (.str tx) j p3] (callEnv fd hp.objs.size f) = (false, eval (.Constant (.str tx) j p3) (callEnv fd hp.objs.size f)) :: starEach [] (callEnv fd hp.objs.size f) from rfl]
  refine PySem.W.kxs_callWith (i := "ValueError.__init__") (x := a) (by rfl) (PySem.Calls.evalArgs_plain ?_)
  refine PySem.Calls.spliced_cons ?_
  show wpAny _ _ (eval (.Constant (.str tx) j p3) (callEnv fd hp.objs.size f)) _ _ _
  refine PySem.Calls.Constant_str ?_
  refine PySem.Calls.spliced_nil ⟨hmw, ?_⟩
  refine k4' (X2 _ _ hC) ha2 hmw (by show 1 <= sizeLine; rw [sizeLine_eq]; omega) (fun h3 t1 k3 ha3 => ?_)
  have X3 : K.In h3 := fun b o e => k3 b o (fun z => by rw [z, hKa] at e; cases e) (X2 b o e)
  have hL3 : h3.Ns hp.objs.size (fun x => [(a1.arg, Value.ref a), (a2.arg, u)].reverse.lookup x) := by
    obtain ⟨o, es, ep, e, r⟩ := hL2
    exact ⟨o, es, ep, k3 _ _ hLa e, r⟩
  have keep3 : ∀ b o, b ≠ a -> hp.get? b = some o -> h3.get? b = some o := fun b o hb e => k3 b o hb (keep2 b o e)
  refine PySem.ks_wpAt_execs_cons (PySem.ks_wpAt_Assign_Attr (wpAt_of_wpAny ?_))
  refine wpAny_Name (wpAny_loadName_local s6 s4 hL3 v2 ?_) dy1
  refine wpAny_Name (wpAny_loadName_local s6 s3 hL3 v1 ?_) dx1
  refine PySem.W.set_plain X3 (ox := { cls := .ref C, dict := none, data := .fields #[.ref t1, .none, .none, .none, .bool false, .none] }) (od := none) ⟨ha3, rfl, rfl, trivial⟩ S.sa ?_
  have hsz : hp.objs.size <= h3.objs.size := by
    rcases Nat.lt_or_ge h3.objs.size hp.objs.size with q | q
    . exact absurd q (Nat.not_lt.mpr (Nat.le_of_lt (by obtain ⟨o, es, ep, e, r⟩ := hL3; exact Heap.lt_size e)))
    . exact q
  refine PySem.HandSPX.exc_osa X3 ha3 hcn (show PySem.HandSPX.refsVE (.ref C :: bm) = true from hbm) rfl S.fl (fun h4 tk4 dx k4 dn dne hx4 hn4 => ?_)
  refine wpAt_of_wpAny (wpAny_pure ?_)
  exact hq h4 tk4 dx t1 (fun b o hb e => k4 b o hb (keep3 b o hb e)) (Nat.le_trans hsz dn) dne hx4 hn4
theorem pv' {K : PySem.W.Frag} {C : Addr} (h : so' K C = true) : ∃ nm q N bs bm sn sub ab col dd k0 k1 k2 k3 k5, K.lookup C = some (excClassObj nm q C N bs bm true sn sub ab col dd k0 k1 k2 k3 k5 "ValueError.__new__") /\ HandSPX.refsVE bm = true := by
  unfold so' at h
  split at h
  . rename_i t dd cd sl e
    obtain ⟨nm, bases, mro, ns, qn, hd, sn, sb, ab, col, del⟩ := cd
    simp only [Bool.and_eq_true, decide_eq_true_eq, Bool.not_eq_true'] at h
    obtain ⟨rfl, rfl, rfl, h4, h5⟩ := h
    split at h4
    . rename_i D bm
      simp only [Bool.and_eq_true, decide_eq_true_eq] at h4
      obtain ⟨rfl, h4⟩ := h4
      split at h5
      . rename_i k0 k1 k2 k3 n k5 e5
        have en := of_decide_eq_true h5
        subst en
        have es : sl = #[k0, k1, k2, k3, some (.builtin "ValueError.__new__"), k5] := by rw [<- Array.toList_inj, e5]
        subst es
        exact ⟨_, _, _, _, _, _, _, _, _, _, _, _, _, _, _, e, h4⟩
      . cases h5
    . cases h4
  . cases h
theorem qV' {file : Str} {K : PySem.W.Frag} {C f : Addr} {fld : Str} (h : v9' file K C f fld = true) : SupF file K C f fld := by
  unfold v9' at h
  simp only [Bool.and_eq_true, decide_eq_true_eq] at h
  obtain ⟨h1, h2, h3, h4, h5, h6, h7, h8, h9, h10, h11, h12, h13⟩ := h
  refine ⟨?_, h2, h3, h4, h5, pv' h6, h7, h8, h9, h10, h11, h12, h13⟩
  split at h1
  . rename_i oc od fd osl e
    unfold uC' at h1
    split at h1
    . rename_i x y z cc cda q1 q2 q3 q4 q5
      simp only [Bool.and_eq_true, decide_eq_true_eq, List.all_eq_true] at h1
      obtain ⟨r1, rfl, r3, r4, r5, r6, r7, r8, r9, r10, r11, r12, r13, r14, r15, r16, r17⟩ := h1
      refine ⟨oc, od, fd, osl, x, y, cc, cda, e, q1, r1, q2, q3, q4, q5, r3, r4, r5, r6, r7, r8, r9, r10, r11, r12, r13, r14, r15, ?_, ?_⟩
      . unfold xY' at r16
        split at r16
        . rename_i D sl e2
          have := of_decide_eq_true r16
          subst this
          exact ⟨_, _, _, e2⟩
        . cases r16
      . unfold uz' at r17
        split at r17
        . rename_i vs sl e2
          unfold tl' at r17
          split at r17
          . rename_i fl tf e3
            have := of_decide_eq_true r17
            subst this
            exact ⟨_, _, _, _, _, e2, e3⟩
          . cases r17
        . cases r17
    . cases h1
  . cases h1
theorem ri' {X : Cx} {x : Str} {C f : Addr} {fld : Str} {e : Expr} {te : TE} {p pos : Pos} {k : Nat} (T : SupF X.prog.main.file X.K C f fld) (htop : (X.prog.main.scope.names.lookup ("super" : Str)).isSome = false) (hsu : X.mg "super" = none) (hr : Room (k + 1) X.A) (hg : Gl X x) (hm : X.mg x = some (.ref C)) (he : PE X e te)
    (hs : starEach [e] X.env = (false, eval e X.env) :: starEach [] X.env := by rfl) (hdb : (x == ("__debug__" : Str)) = false := by decide) :
    PMk X (.Call (.Name x p) [e] [] pos) (fun σ H Q => te σ H fun y H1 => ∀ d, H1 d = none -> Q (.ref C) (some d) (upd H1 d (.xd [(fld, y)]))) := by
  intro pins s σ H Q I h
  obtain ⟨nm, q, N, bs, bm, sn, sub, ab, col, dd, k0, k1, k2, k3, k5, hC, hbm⟩ := T.cls
  refine wpAny_Call_Name_kw (ld_glob I hg hm ?_ hdb)
  refine PySem.W.callWith_K (h₀ := X.base) I.ok.mod.kin T.kC ?_ hs (by rfl)
  rw [hs]
  refine PySem.Calls.spliced_cons ?_
  refine thn (he.run pins s σ H _ I h) fun u s1 ⟨y, H1, I1, r1, q1⟩ => ?_
  refine PySem.Calls.spliced_nil ⟨I1.kIn, ?_⟩
  show wpAny _ _ (call (.ref C) [u]) _ _ _
  obtain ⟨hp, g, dr, tk, os⟩ := s1
  have bnd : ∀ b o, X.base.get? b = some o -> b < hp.objs.size := fun b o e => Heap.lt_size (I1.bk b o e)
  have kk : ∀ b o, hp.get? b = some o -> ((hp.push (PySem.W.kdv_tup [u])).push (PySem.HandSPX.excO C hp.objs.size)).get? b = some o := fun b o e => Heap.get?_push_of_some _ (Heap.get?_push_of_some _ e)
  have hget : ((hp.push (PySem.W.kdv_tup [u])).push (PySem.HandSPX.excO C hp.objs.size)).get? (hp.objs.size + 1) = some (PySem.HandSPX.excO C hp.objs.size) := by heap_get
  have nsK : ∀ {b : Addr} {m : Str -> Option Value}, X.base.Ns b m -> ((hp.push (PySem.W.kdv_tup [u])).push (PySem.HandSPX.excO C hp.objs.size)).Ns b m := fun z => z.keeps fun b o e => kk _ _ (I1.bk b o e)
  have ltN : ∀ {b : Addr} {m : Str -> Option Value}, X.base.Ns b m -> b ≠ hp.objs.size + 1 := fun z => by
    obtain ⟨o, es, ep, e, _⟩ := z
    exact Nat.ne_of_lt (Nat.lt_succ_of_lt (bnd _ _ e))
  obtain ⟨mb, n2, n3⟩ := I1.ok.mod.blt
  have hKa : X.K.lookup (hp.objs.size + 1) = none := by
    cases z : X.K.lookup (hp.objs.size + 1) with
    | none => rfl
    | some o =>
      exact absurd (bnd _ _ (I1.ok.mod.kin _ _ z)) (Nat.not_lt.mpr (Nat.le_succ _))
  refine wpAny_call (PySem.HandSPX.call_own F.excBase_ValueError (fun Y => PySem.HandSPX.refsVE_contains Y bm hbm) (I1.kIn _ _ hC) (PySem.W.looks_findIn I1.kIn T.iC) (fun self => PySem.W.bind_fn I1.kIn self T.tI) (by show 1 <= sizeLine; rw [sizeLine_eq]; omega)
    (qU' (mg := X.mg) (mb := mb) T (I1.kIn.keeps kk) (nsK I1.ok.mod.glob) hsu (nsK n2) ((n3 _ (by decide)).trans (by rfl)) (I1.nolimit.keeps kk) (hr.make C [u] []).depth htop hget hKa ⟨ltN I1.ok.mod.glob, ltN n2⟩ fun h4 t4 dx t1 k4 dn dne hx hn => ?_))
  refine ⟨rfl, ?_⟩
  have keep : ∀ b o, hp.get? b = some o -> h4.get? b = some o := fun b o e => k4 b o (Nat.ne_of_lt (Nat.lt_succ_of_lt (Heap.lt_size e))) (kk b o e)
  obtain ⟨G, g1, g2⟩ := L2.restrict h4 fun b => decide (b ≠ hp.objs.size + 1)
  have ga : G.get? (hp.objs.size + 1) = none := g2 _ (by simp)
  have gk : ∀ b, b ≠ hp.objs.size + 1 -> G.get? b = h4.get? b := fun b hb => g1 b (decide_eq_true hb)
  have gs : ∀ b o, G.get? b = some o -> h4.get? b = some o := fun b o e => by
    by_cases hb : b = hp.objs.size + 1
    . rw [hb, ga] at e; cases e
    . rw [<- gk b hb]; exact e
  have szd : hp.objs.size <= dx := Nat.le_trans (Nat.le_trans (Nat.le_succ _) (Nat.le_of_lt (Heap.lt_size hget))) dn
  have nG : G.Ns1 dx (fun z => if z = fld then some u else none) := hn.at fun o e => (gk dx dne).trans e
  have J : Inv X pins σ (upd H1 dx (.xd [(fld, y)])) ⟨G, g, dr, t4, os⟩ := I1.laid (t' := t4) (a := dx) (o := .xd [(fld, y)]) (h' := G) (fun b o e => by
    rw [gk b (Nat.ne_of_lt (Nat.lt_succ_of_lt (Heap.lt_size e)))]
    exact keep b o e) szd ⟨_, nG, fun g => by
      by_cases hz : g = fld
      . subst hz
        simp only [List.lookup_cons, beq_self_eq_true, if_true]
        exact r1
      . have e : (g == fld) = false := by simpa using hz
        simp only [List.lookup_cons, e, List.lookup_nil, if_neg hz]
        trivial⟩
  have na : H1 (hp.objs.size + 1) = none := I1.hok.fresh (Nat.le_succ _)
  refine ⟨hp.objs.size + 1, _, _, ⟨G, g, dr, t4, os⟩, _, .ref C, some dx, rfl, J, gs, ga, hx, ⟨rfl, rfl⟩, rfl, rfl, ?_, rfl, I1.bare, raises_own T.exC T.tyC, q1 dx (I1.hok.fresh szd)⟩
  rw [upd_ne (Ne.symm dne)]
  exact na
end S
namespace S
open PySem PySem.Spec PyProof.Rows L2
variable [Wd] [Hot]
local macro_rules | `(tactic| walk_at "parts") => `(tactic| (constructor; (intro e h; simp only [List.mem_append, List.mem_cons, List.not_mem_nil] at *; grind); (intro x; simp only [keys, List.map_append, List.map_cons, List.map_nil, List.count_append, List.count_cons, List.count_nil] at *; omega)))
section
variable {prog : Program} {w : World} {A : Around} {E : Value -> Shared -> Prop} {s : Shared}
end
def yG' (K : PySem.W.Frag) (ps : List (String × String)) (g : Addr) : Prop := ∀ C, (C, C) ∈ ps -> PySem.W.findIn K (.ref (He.ga K (Str.ofString C))) "__eq__" = some (some (.ref g)) /\ PySem.W.isFn K (.ref g) = true ∧
  ∀ n ∈ ["NoneType", "bool", "int", "str", "tuple", "list", "dict"], PySem.W.notFirst K (He.ga K (Str.ofString C)) (.type n) = true
def rEqD (K : PySem.W.Frag) (ps : List (String × String)) (mf : M.MF) : R2 := fun x y H Q => ∃ (C n : String) (a dx : Addr) (fs : List (Str × V)), (C, C) ∈ ps /\ n ∈ ["NoneType", "bool", "int", "str", "tuple", "list", "dict"] /\ x = .ref a ∧
  H a = some (.ins (He.ga K (Str.ofString C)) dx fs) /\ TyX K H y (.type n) /\ spM K mf [x, y] H (fun v H' => ∃ r, v = .bl r /\ Q (.bl r) H') E0
theorem op_eqD {X : Cx} {k : Nat} {C0 : Addr} {args : List Str} {ps : List (String × String)} {mf : M.MF} (F : OgM X.prog X.w X.K X.mg X.base k C0 "__eq__" args (spM X.K mf)) (hr : RoomG k X.A) (hp : yG' X.K ps (He.ma X.K C0 "__eq__")) :
    OpR X (compareOp .Eq) (rEqD X.K ps mf) := by
  obtain ⟨fd, F, hb⟩ := F
  intro pins s σ H x y v u Q I rx ry h
  obtain ⟨C, n, a, dx, fs, hC, hn, rfl, ha, ht, hs⟩ := h
  cases (show v = Value.ref a from rx)
  obtain ⟨q1, q2, q3⟩ := hp _ hC
  obtain ⟨mA, J, _⟩ := ins_get I.hok ha
  obtain ⟨od, J, _⟩ := J.look
  obtain ⟨m, hF⟩ := I.fr
  obtain ⟨P, Z, hP, _⟩ := kit_of I ry ht
  show wpAny (model X.prog X.w) X.A (richCompare .Eq (.ref a) u) (EP X pins σ Q) X.xe s
  refine PySem.W.cmp_K (op := .Eq) (tb := .type n) hr.r.units0 hF I.ok.mod.kin J (Z.ty _ _ I.kIn hP) (q3 n hn) q1 q2 ?_
  refine wpAny_mono (f3' (E := fun _ => E0) (us := [.ref a, u]) (vs := [.ref a, y]) F hr hb (fun _ _ _ e s' _ c => ?_) I (.cons rfl (.cons ry .nil)) hs) (fun r s' q => ?_) fun _ _ z => z
  . obtain ⟨_, _, _, _, _, _, _, _, _, _, _, _, z⟩ := c
    exact z.elim
  . obtain ⟨z, H', I', rz, t, ez, q⟩ := q
    subst ez
    cases rz
    exact ⟨.bl t, H', I', rfl, q⟩
section
variable {K : PySem.W.Frag} {σ : St} {H : Hp} {Q : VK} {W : WX}
end
section
variable {X : Cx} {W : WX} {pos p tpos : Pos} {a b e o i : Expr} {ma mb mo mi : M.ME} {k : Nat} {args : List Str} {mf : M.MF}
theorem es' {x f : String} {me : M.ME} (hc : X.calm = true) (tk : Takes X W) (T : SupF X.prog.main.file X.K (He.ga X.K (Str.ofString x)) (He.ma X.K (He.ga X.K (Str.ofString x)) "__init__") (Str.ofString f)) (htop : (X.prog.main.scope.names.lookup ("super" : Str)).isSome = false) (hsu : X.mg "super" = none)
    (hr : RoomG (k + 1) X.A) (hg : Gl X (Str.ofString x)) (hm : X.mg (Str.ofString x) = some (.ref (He.ga X.K (Str.ofString x)))) (he : SE X W e me) (hs : starEach [e] X.env = (false, eval e X.env) :: starEach [] X.env := by rfl) (hdb : ((Str.ofString x) == ("__debug__" : Str)) = false := by decide) :
    SS X W (.Raise (some (.Call (.Name (Str.ofString x) p) [e] [] pos)) none tpos) (M.cO' x f me) := PS.imp (ps_raise hc tk (ri' T htop hsu hr.r hg hm he hs hdb)) fun D σ H ⟨ρ, F, T, fr, rel, h⟩ => by
  refine dw' rel h fun d ρ1 y H1 F1 T1 e1 z1 r1 h1 => fun q hq => ?_
  obtain ⟨fp, f1, back⟩ := r1.fp
  have s1 : Same F1 (upd F1 q (.xd [(Str.ofString f, y)])) := bO' (f1.free hq)
  exact h1 σ _ _ _ (upd F1 q (.xd [(Str.ofString f, y)])) T1 (.of s1) ⟨rfl, .inr ⟨q, f, y, d, rfl, rfl, upd_same, z1.mono (.of s1)⟩⟩ (back _ _ s1 (f1.new hq))
end
end S
namespace S
open PySem PySem.Spec PyProof.Rows L2
variable [Wd] [Hot]
mutual
inductive DqN (K : PySem.W.Frag) (H : Hp) : V -> M.D -> Prop
  | leaf {v : V} {d : M.D} : Dp K H v (py d) -> M.k1' d = true -> DqN K H v d
  | tup {a : Addr} {vs : List V} {ds : List M.D} : SqT K H a vs -> DqNs K H vs ds -> DqN K H (.ref a) (.tup ds)
  | lst {a : Addr} {vs : List V} {ds : List M.D} : H a = some (.lst vs) -> DqNs K H vs ds -> DqN K H (.ref a) (.lst ds)
  | dct {a : Addr} {kvs : List (Key × V)} {ds : List M.D} : Rd H a (.dK kvs) -> kG' kvs -> DqNs K H (kvs.map (·.2)) ds -> DqN K H (.ref a) (.dct (kvs.map fun p => kD p.1) ds)
inductive DqNs (K : PySem.W.Frag) (H : Hp) : List V -> List M.D -> Prop
  | nil : DqNs K H [] []
  | cons {v : V} {d : M.D} {vs : List V} {ds : List M.D} : DqN K H v d -> DqNs K H vs ds -> DqNs K H (v :: vs) (d :: ds)
end
section
variable {K : PySem.W.Frag} {F H : Hp} {T : List Addr}
mutual
theorem xL' (s : Same F H) : ∀ {v : V} {d : M.D}, Fz K F T v d -> M.rdn d = true -> M.oJ' d = true -> DqN K H v d /\ (py d).leavesShort 62 = true /\ (py d).showable = true /\ (py d).depth = M.rZ' d /\ (py d).bulk = M.oH' d
  | _, _, .non, _, _ => ⟨.leaf .non rfl, rfl, rfl, rfl, rfl⟩
  | _, _, .bl b, _, _ => ⟨.leaf (.bl b) rfl, rfl, rfl, rfl, rfl⟩
  | _, _, .int i, _, g => by
    obtain ⟨a1, a2, a3, a4⟩ := eA' (K := K) (F := F) (T := T) (.int i) rfl g
    exact ⟨.leaf (.int i) rfl, a1, a2, rfl, a4⟩
  | _, _, .str (s := x) o, _, g => by
    obtain ⟨a1, a2, a3, a4⟩ := eA' (K := K) (F := F) (T := T) (.str o) rfl g
    exact ⟨.leaf (.str _) rfl, a1, a2, rfl, a4⟩
  | _, _, .tup h r, e, g => by
    obtain ⟨b0, b1, b2, b3, b4⟩ := repns s r e g
    exact ⟨.tup (SqT.low s h) b0, b1, b2, congrArg (· + 1) b3, b4⟩
  | _, _, .lst h r, e, g => by
    obtain ⟨b0, b1, b2, b3, b4⟩ := repns s r e g
    exact ⟨.lst (s _ _ h) b0, b1, b2, congrArg (· + 1) b3, b4⟩
  | _, _, .dct (kvs := kvs) (ds := ds) h k r, e, g => by
    obtain ⟨g1, g2⟩ := Bool.and_eq_true_iff.mp (show (M.repIs (kvs.map fun p => kD p.1) && M.repIs ds) = true from g)
    obtain ⟨b0, b1, b2, b3, b4⟩ := repns s r e g2
    obtain ⟨a1, a2, a3, a4⟩ := reps_facts (FzA.keys (K := K) (F := F) (T := T) k) (eS' kvs) g1
    have hl : (pys (kvs.map fun p => kD p.1)).length = (pys ds).length := by
      rw [iv', iv', List.length_map, <- r.len, List.length_map]
    obtain ⟨z1, z2, z3, z4⟩ := qm' hl a1 b1 a2 b2
    refine ⟨.dct (qb' s h) k b0, z1, z2, ?_, ?_⟩
    . show PyData.depthKv _ + 1 = M.depRs ds + 1
      rw [z4, (lays_of (FzA.keys (K := K) (F := F) (T := T) k) (eS' kvs)).2, hI', b3, Nat.zero_max]
    . show PyData.bulkKv _ = M.repWs _ + M.repWs _
      rw [z3, a4, b4]
  | _, _, .dcl h k r, e, _ => by cases e
  | _, _, .dcn h k q r, e, _ => by cases e
  | _, _, .rep d, e, _ => by cases e
  | _, _, .obj h, e, _ => by cases e
  | _, _, .ty n, e, _ => by cases e
  | _, _, .fn x, e, _ => by cases e
  | _, _, .scr h r, e, _ => by cases e
theorem repns (s : Same F H) : ∀ {vs : List V} {ds : List M.D}, FzA K F T vs ds -> M.rdns ds = true -> M.repIs ds = true -> DqNs K H vs ds /\ PyData.leavesShortAll 62 (pys ds) = true /\ PyData.showableAll (pys ds) = true /\ PyData.depthAll (pys ds) = M.depRs ds /\ PyData.bulkAll (pys ds) = M.repWs ds
  | _, _, .nil, _, _ => ⟨.nil, rfl, rfl, rfl, rfl⟩
  | _, _, .cons h r, e, g => by
    obtain ⟨e1, e2⟩ := Bool.and_eq_true_iff.mp (show (M.rdn _ && M.rdns _) = true from e)
    obtain ⟨g1, g2⟩ := Bool.and_eq_true_iff.mp (show (M.oJ' _ && M.repIs _) = true from g)
    obtain ⟨a0, a1, a2, a3, a4⟩ := xL' s h e1 g1
    obtain ⟨b0, b1, b2, b3, b4⟩ := repns s r e2 g2
    refine ⟨.cons a0 b0, ?_, ?_, ?_, ?_⟩
    . show (PyData.leavesShort 62 _ && PyData.leavesShortAll 62 _) = true
      rw [a1, b1]; rfl
    . show (PyData.showable _ && PyData.showableAll _) = true
      rw [a2, b2]; rfl
    . show max (PyData.depth _) (PyData.depthAll _) = max (M.rZ' _) (M.depRs _)
      rw [a3, b3]
    . show PyData.bulk _ + 1 + PyData.bulkAll _ = M.oH' _ + 1 + M.repWs _
      rw [a4, b4]
end
end
section
variable {X : Cx} {pins : List (Addr × Obj)} {σ : St} {H : Hp} {s : Shared}
def sJ' (K : PySem.W.Frag) : Prop := ∃ o, K.lookup sysModules = some o
theorem qT' (I : Inv X pins σ H s) (h : sJ' X.K) {a : Addr} {o : HO} (ha : H a = some o) : a ≠ sysModules := fun e => by
  obtain ⟨ob, hk⟩ := h
  have := (I.bs _ _ (I.ok.mod.kin _ _ hk)).2
  rw [e, this] at ha
  cases ha
mutual
theorem DqN.reads (I : Inv X pins σ H s) (hS : sJ' X.K) : ∀ {v : V} {d : M.D} {u : Value}, DqN X.K H v d -> RelV v u -> ∃ as, Reads s.heap u (py d) as /\ sysModules ∉ as
  | _, _, _, .leaf h l, r => ⟨[], cS' I l h r, by simp⟩
  | _, _, _, .tup hs la, r => by
    cases r
    obtain ⟨its, rv, ⟨o, ho, hc, n, hd⟩, _⟩ := I.tuple hs
    obtain ⟨as, hr, hm⟩ := DqNs.reads I hS la rv
    exact ⟨_, Reads.tuple ho hc hd hr, hm⟩
  | _, _, _, .lst (a := a) hs la, r => by
    cases r
    obtain ⟨_, its, n, rv, hd⟩ := I.hok a _ hs
    obtain ⟨as, hr, hm⟩ := DqNs.reads I hS la rv
    refine ⟨_, Reads.list hd rfl rfl hr, fun z => ?_⟩
    rcases List.mem_cons.mp z with z | z
    . exact qT' I hS hs z.symm
    . exact hm z
  | _, _, _, .dct (a := a) (kvs := kvs) (ds := ds) e k la, r => by
    cases r
    obtain ⟨_, hs, vs, rk, hd⟩ := dk_rd I.hok e
    obtain ⟨bs, hp, hm⟩ := DqNs.pairs I hS la kvs rfl rk
    refine ⟨_, PyProof.V.reads_dictOf (enc := kP) (fun k key hk => ?_) hd hp, fun z => ?_⟩
    . rcases keyIs_shape hk with ⟨i, t, rfl, rfl⟩ | ⟨x, t, rfl, rfl⟩
      . exact .int i t
      . exact .str _ t
    . rcases List.mem_cons.mp z with z | z
      . rw [<- z] at hs
        simp at hs
      . exact hm z
theorem DqNs.reads (I : Inv X pins σ H s) (hS : sJ' X.K) : ∀ {vs : List V} {ds : List M.D} {us : List Value}, DqNs X.K H vs ds -> Vals vs us -> ∃ as, ReadsAll s.heap us (pys ds) as /\ sysModules ∉ as
  | _, _, _, .nil, r => by
    cases r
    exact ⟨[], .nil, by simp⟩
  | _, _, _, .cons h1 h2, r => by
    cases r with
    | cons r1 r2 =>
      obtain ⟨as, q1, q4⟩ := DqN.reads I hS h1 r1
      obtain ⟨bs, q2, q3⟩ := DqNs.reads I hS h2 r2
      exact ⟨_, .cons q1 q2, fun z => (List.mem_append.mp z).elim q4 q3⟩
theorem DqNs.pairs (I : Inv X pins σ H s) (hS : sJ' X.K) : ∀ {vs : List V} {ds : List M.D}, DqNs X.K H vs ds -> ∀ (kvs : List (Key × V)) {us : List (Key × Value)}, kvs.map (·.2) = vs -> KV kvs us →
    ∃ bs, PyProof.V.PairsRead s.heap kP us ((pys (kvs.map fun p => kD p.1)).zip (pys ds)) bs /\ sysModules ∉ bs
  | _, _, .nil, kvs, us, e, r => by
    cases kvs with
    | nil => cases r; exact ⟨[], .nil, by simp⟩
    | cons _ _ => cases e
  | _, _, .cons h1 h2, kvs, us, e, r => by
    cases kvs with
    | nil => cases e
    | cons p kvs =>
      obtain ⟨k, v⟩ := p
      obtain ⟨rfl, e2⟩ := List.cons.inj e
      cases r with
      | @cons _ q _ us hr hp =>
        obtain ⟨k', u⟩ := q
        obtain ⟨he, hr⟩ := hr
        have he : k = k' := he
        subst he
        obtain ⟨as, q1, q4⟩ := DqN.reads I hS h1 hr
        obtain ⟨bs, q2, q3⟩ := DqNs.pairs I hS h2 kvs e2 hp
        exact ⟨_, PyProof.V.PairsRead.cons (enc := kP) (k := k) q1 q2, fun z => (List.mem_append.mp z).elim q4 q3⟩
end
end
def tD' (K : PySem.W.Frag) : List V -> Hp -> VK -> Prop := fun xs H Q => ∃ v d, xs = [v] /\ DqN K H v d /\ (py d).showable = true /\ (py d).depth <= 40 /\ (py d).shown.length <= sizeLine /\ Q (.str (py d).shown) H
section
variable {X : Cx}
theorem eT' (hS : sJ' X.K) (hu : X.A.units + 64 < cLine) (hg : X.A.guards = some []) : CallR X (.builtin "repr") (tD' X.K) := by
  intro pins s σ H vs us Q I r h
  obtain ⟨v, d0, rfl, dp, h1, h3, h4, q⟩ := h
  cases r with
  | @cons _ u _ _ ru rn =>
    cases rn
    obtain ⟨as, rd, hm⟩ := dp.reads I hS ru
    generalize py d0 = d at *
    have hm : d.hasDict = true -> sysModules ∉ as := fun _ => hm
    cases rd with
    | none => exact P.repr_of_none ⟨.str _, H, I.tok _, ⟨_, rfl⟩, q⟩
    | bool b => exact P.repr_of_bool ⟨.str _, H, I.tok _, ⟨_, rfl⟩, q⟩
    | int i t => exact P.repr_of_int (of_decide_eq_true h1) ⟨.str _, H, I.tok _, ⟨_, rfl⟩, q⟩
    | str x t => exact P.repr_of_str (hsz := h4) ⟨.str _, H, I.tok _, ⟨_, rfl⟩, q⟩
    | list a b c e => exact repr_of_reads' (.list a b c e) h1 hm hg (by omega) (fun _ _ z => z) (fun h' u tk hk => ⟨.str _, H, I.kept hk, ⟨_, rfl⟩, q⟩) h4
    | tuple a b c e => exact repr_of_reads' (.tuple a b c e) h1 hm hg (by omega) (fun _ _ z => z) (fun h' u tk hk => ⟨.str _, H, I.kept hk, ⟨_, rfl⟩, q⟩) h4
    | dict a b c e f => exact repr_of_reads' (.dict a b c e f) h1 hm hg (by omega) (fun _ _ z => z) (fun h' u tk hk => ⟨.str _, H, I.kept hk, ⟨_, rfl⟩, q⟩) h4
end
theorem nL' {K : PySem.W.Frag} : Bi1 K M.iw' (tD' K) := by
  intro F H T fp x dx dz Q f hx h k
  unfold M.iw' at h
  split at h
  . rename_i hc
    obtain ⟨c1, c2, c3, c4⟩ := hc
    cases h
    obtain ⟨a0, a1, a2, a3, a4⟩ := xL' f.low hx c1 c3
    refine ⟨x, dx, rfl, a0, a2, by rw [a3]; exact c2, ?_, k.here f (.rep dx)⟩
    have := PyData.shown_le_bulk 62 (by decide) (py dx) a1
    rw [a4] at this
    rw [bD']
    show _ <= 16777216
    omega
  . cases h
end S
namespace S
open PySem PySem.Spec PyProof.Rows L2
variable [Wd] [Hot]
theorem g0' (l : Addr) (items : Array Value) (n : Nat) (dd : Option Addr) (sl : Array (Option Value)) (x : Int) (u : Tok) (c0 : (decide (x < -(2 ^ 63)) || decide (x >= 2 ^ 63)) = false) (c1 : (items.isEmpty || x == 1) = true) :
    Meets (Builtin.«tuple.__mul__» ⟨[.ref l, .int x u], []⟩) (fun _ R s => s.heap.get? l = some { cls := .type "tuple", dict := dd, data := .seq items n, slots := sl } /\ R (.ok (.ret (Value.ref l))) s) :=
  .of_wp fun prog w A R s h => by
    obtain ⟨hp, g, d, tk, os⟩ := s
    obtain ⟨hl, h⟩ := h
    have f1 := AutoSeq1.idx_int
    wp_walk using wpAny_loadPart' hl
    repeat (first
      | (refine wpAny_ite_false (decide_eq_false (by rw [c0]; exact Bool.false_ne_true)) ?_; wp_walk using wpAny_loadPart' hl)
      | (refine wpAny_ite_true (decide_eq_true c1) ?_; wp_walk using wpAny_loadPart' hl))
    exact ⟨_, rfl, h⟩
theorem fU' (l : Addr) (items : Array Value) (n : Nat) (dd : Option Addr) (sl : Array (Option Value)) (x : Int) (u : Tok) (c0 : (decide (x < -(2 ^ 63)) || decide (x >= 2 ^ 63)) = false) (c1 : (items.isEmpty || x == 1) = false) (c2 : (decide (x <= 0) || items.isEmpty) = true) :
    Meets (Builtin.«tuple.__mul__» ⟨[.ref l, .int x u], []⟩) (fun _ R s => s.heap.get? l = some { cls := .type "tuple", dict := dd, data := .seq items n, slots := sl } ∧
      R (.ok (.ret (Value.ref s.heap.objs.size))) { s with heap := s.heap.push { cls := Value.type "tuple", data := Data.seq #[] }, toks := s.toks }) :=
  .of_wp fun prog w A R s h => by
    obtain ⟨hp, g, d, tk, os⟩ := s
    obtain ⟨hl, h⟩ := h
    have f1 := AutoSeq1.idx_int
    wp_walk using wpAny_loadPart' hl
    repeat (first
      | (refine wpAny_ite_false (decide_eq_false (by rw [c0]; exact Bool.false_ne_true)) ?_; wp_walk using wpAny_loadPart' hl)
      | (refine wpAny_ite_false (decide_eq_false (by rw [c1]; exact Bool.false_ne_true)) ?_; wp_walk using wpAny_loadPart' hl)
      | (refine wpAny_ite_true (decide_eq_true c2) ?_; wp_walk using wpAny_loadPart' hl))
    exact ⟨_, rfl, h⟩
def tH' (K : PySem.W.Frag) : R2 := fun x y H Q => ∃ l k xs, x = .ref l /\ y = .int k /\ SqT K H l xs /\ 0 <= k /\ k <= 1000 /\ xs.length <= 1000 /\ ((xs = [] \/ k = 1) -> Q (.ref l) H) ∧
  (xs ≠ [] -> k ≠ 1 -> ∀ p, H p = none -> Q (.ref p) (upd H p (.tup (List.replicate k.toNat xs).flatten)))
theorem rs' {X : Cx} : OpR X (binaryOp .Mult) (tH' X.K) := by
  intro pins s σ H x y v u Q I rx ry h
  obtain ⟨l, k, xs, rfl, rfl, hT, h1, h2, hz, q1, q2⟩ := h
  by_cases hk : xs ≠ [] /\ 2 <= k
  . exact op_repT pins s σ H _ _ v u Q I rx ry ⟨l, k, xs, rfl, rfl, hT, hk.1, hk.2, h2, hz, q2 hk.1 (by omega)⟩
  cases rx
  obtain ⟨t, rfl⟩ := ry
  obtain ⟨its, r, ⟨⟨cls, dd, data, sl⟩, ho, hc, n, hd⟩, hs⟩ := I.tuple hT
  simp only at hc hd
  subst hc hd
  have hle : its.length = xs.length := r.length.symm
  have c0 : (decide (k < -(2 ^ 63)) || decide (k >= 2 ^ 63)) = false := by
    rw [decide_eq_false (by omega), decide_eq_false (by omega)] <;> rfl
  by_cases h3 : xs = [] \/ k = 1
  . have c1 : (its.toArray.isEmpty || k == 1) = true := by
      rcases h3 with e | e
      . subst e
        have : its = [] := List.eq_nil_of_length_eq_zero hle
        subst this
        rfl
      . subst e
        rw [Bool.or_eq_true]
        exact .inr rfl
    refine wpAny_binaryOp_repeat_ref (T := "tuple") (U := "int") (by decide) ⟨_, ho, rfl⟩ (fun s' => typeIs_int s' k t) noFill_tuple_mul F.fills_int_mul F.slot_int_rmul repeat_tuple F.slot_int_index.lookup
      (call_meets F.slot_int_rmul (typeIs_int s k t) F.entry_int_rmul (F.args_int_rmul_2 _ _) (int_rmul_tuple k t l its.toArray n dd sl)
        ⟨ho, rfl, ⟨_, ho, rfl⟩, call_meets F.slot_tuple_mul ⟨_, ho, rfl⟩ F.entry_tuple_mul (F.args_tuple_mul_2 _ _) (g0' l its.toArray n dd sl k t c0 c1) ⟨ho, ?_⟩⟩)
    exact ⟨.ref l, H, I, rfl, q1 h3⟩
  . have hn : xs ≠ [] := fun e => h3 (.inl e)
    have hk1 : k ≠ 1 := fun e => h3 (.inr e)
    have hk0 : k = 0 := by
      have : ¬ 2 <= k := fun e => hk ⟨hn, e⟩
      omega
    subst hk0
    have hi : its.toArray.isEmpty = false := by
      cases its with
      | nil => exact absurd (List.eq_nil_of_length_eq_zero hle.symm) hn
      | cons a b => rfl
    have c1 : (its.toArray.isEmpty || (0 : Int) == 1) = false := by rw [hi]; rfl
    have c2 : (decide ((0 : Int) <= 0) || its.toArray.isEmpty) = true := rfl
    refine wpAny_binaryOp_repeat_ref (T := "tuple") (U := "int") (by decide) ⟨_, ho, rfl⟩ (fun s' => typeIs_int s' 0 t) noFill_tuple_mul F.fills_int_mul F.slot_int_rmul repeat_tuple F.slot_int_index.lookup
      (call_meets F.slot_int_rmul (typeIs_int s 0 t) F.entry_int_rmul (F.args_int_rmul_2 _ _) (int_rmul_tuple 0 t l its.toArray n dd sl)
        ⟨ho, rfl, ⟨_, ho, rfl⟩, call_meets F.slot_tuple_mul ⟨_, ho, rfl⟩ F.entry_tuple_mul (F.args_tuple_mul_2 _ _) (fU' l its.toArray n dd sl 0 t c0 c1 c2) ⟨ho, ?_⟩⟩)
    refine ⟨.ref s.heap.objs.size, _, I.laid (t' := s.toks) (o := .tup []) (fun b ob q => Heap.get?_push_of_some _ q) (Nat.le_refl _) ?_, rfl, q2 hn hk1 _ (I.hok.fresh (Nat.le_refl _))⟩
    exact ⟨Nat.zero_le _, [], .nil, IsTup.new _ _⟩
theorem t2' {K : PySem.W.Frag} : Op2 K M.oS' (tH' K) := by
  intro F H T fp x y dx dy dz Q f hx hy h k
  cases dx <;> cases dy <;> try (cases h; done)
  obtain ⟨a, vs, rfl, ha, za⟩ := hx.tup_inv
  cases hy
  simp only [M.oS'] at h
  split at h
  . rename_i hc
    cases h
    refine ⟨a, _, vs, rfl, rfl, SqT.low f.low ha, hc.1, hc.2.1, by rw [za.length]; exact hc.2.2, fun e => ?_, fun _ _ p hp => k.newT f (za.rep _) hp⟩
    rcases e with e | e
    . subst e
      cases za
      refine k.here f ?_
      have e0 : ∀ n, (List.replicate n ([] : List M.D)).flatten = [] := fun n => by simp
      rw [e0]
      exact .tup ha .nil
    . subst e
      refine k.here f ?_
      have e0 : ∀ l : List M.D, (List.replicate (Int.toNat 1) l).flatten = l := fun l => by simp
      rw [e0]
      exact .tup ha za
  . cases h
end S
namespace S
open PySem PySem.Spec PyProof.Rows L2 HT
variable [Wd] [Hot]
section
variable {prog : Program} {w : World} {A : Around} {E : Value -> Shared -> Prop} {s : Shared}
theorem dX' {sl : Addr} {vs : Value} {n : Nat} {Q : Int × Int × Nat -> Shared -> Prop} (hs : s.heap.IsSliceOf sl .none .none vs) (ps : IsPart vs (some (-1)))
    (h : Q ((n : Int) - 1, -1, n) s) : wpAny (model prog w) A (Builtin.Slice.sliceApplied (.ref sl) (pure (n : Int))) Q E s := by
  obtain ⟨os, hos, hcs, hds⟩ := id hs
  unfold Builtin.Slice.sliceApplied Builtin.Slice.sliceFields
  refine wpAny_bind (wpAny_bind (wpAny_field hos hds (x := .none) rfl (wpAny_bind (wpAny_field hos hds (x := .none) rfl (wpAny_bind (wpAny_field hos hds (x := vs) rfl (wpAny_pure ?_)))))))
  refine wpAny_bind (slicePart_ ps ?_)
  show wpAny _ _ (if ((-1 : Int) == 0) = true then _ else _) _ _ s
  rw [if_neg (by decide)]
  refine wpAny_bind (slicePart_none (wpAny_bind (slicePart_none (wpAny_bind (wpAny_pure ?_)))))
  have e1 : Builtin.Slice.sliceAdjust none none (-1) (n : Int) = ((n : Int) - 1, -1) := rfl
  show wpAny _ _ (match Builtin.Slice.sliceAdjust none none (-1) (n : Int) with | (lo, hi) => pure (lo, (-1 : Int), Builtin.Slice.slicePlaces lo hi (-1))) _ _ s
  rw [e1]
  have e2 : Builtin.Slice.slicePlaces ((n : Int) - 1) (-1) (-1) = n := by
    unfold Builtin.Slice.slicePlaces
    rw [if_neg (by decide)]
    split
    . have : (n : Int) - 1 - -1 - 1 = (n : Int) - 1 := by omega
      rw [this, show -(-1 : Int) = 1 from rfl, Int.ediv_one]
      omega
    . show (0 : Int).toNat = n
      omega
  show wpAny _ _ (pure ((n : Int) - 1, (-1 : Int), Builtin.Slice.slicePlaces ((n : Int) - 1) (-1) (-1))) _ _ s
  rw [e2]
  exact wpAny_pure h
theorem kt' {α β : Type} {f g : α -> Option β} : ∀ {l : List α}, (∀ x ∈ l, f x = g x) -> l.filterMap f = l.filterMap g
  | [], _ => rfl
  | a :: l, h => by
    rw [List.filterMap_cons, List.filterMap_cons, h a (List.mem_cons_self ..), kt' fun x hx => h x (List.mem_cons_of_mem _ hx)]
theorem oN' (xs : Array Value) : ((List.range xs.size).filterMap fun (k : Nat) => xs[(((xs.size : Int) - 1) + (k : Int) * (-1)).toNat]?).toArray = xs.toList.reverse.toArray := by
  congr 1
  have e : (List.range xs.size).filterMap (fun (k : Nat) => xs[(((xs.size : Int) - 1) + (k : Int) * (-1)).toNat]?) = ((List.range xs.size).map fun k => xs.size - 1 - k).filterMap (xs[·]?) := by
    rw [List.filterMap_map]
    apply kt'
    intro k hk
    have hk := List.mem_range.mp hk
    show xs[_]? = xs[xs.size - 1 - k]?
    congr 1
    omega
  rw [e, PySem.W.krv_range, List.filterMap_reverse, PySem.W.krv_all]
theorem dC' {t sl : Addr} {items : Array Value} {vs : Value} {Q : Value -> Shared -> Prop} (ht : IsTup s.heap t items) (hs : s.heap.IsSliceOf sl .none .none vs) (ps : IsPart vs (some (-1)))
    (h : Q (.ref s.heap.objs.size) { s with heap := s.heap.push { cls := .type "tuple", data := .seq items.toList.reverse.toArray } })
    (hsz : items.size <= sizeLine) : wpAny (model prog w) A (getItem (.ref t) (.ref sl)) Q E s := by
  have room : sizeOk (.seq items.toList.reverse.toArray) := show items.toList.reverse.toArray.size <= sizeLine by simpa using hsz
  have never : ((((items.size : Int) - 1) == 0 && (-1 : Int) == 1 && items.size == items.size) = true) -> False := fun q => by simp at q
  -- what stands behind the look-up: the items, the slice applied, the new tuple
  have inner : wpAny (model prog w) A.in1 (Builtin.«tuple.__getitem__» ⟨[.ref t, .ref sl], []⟩) (fun r s' => ∃ v, r = .done (.ret v) /\ wpAny (model prog w) A (pure v) Q E s') E s := by
    show wpAny _ _ (Builtin.Tuple.tupleItemsOf (.ref t) >>= _) _ _ s
    refine wpAny_bind (tupleItemsOf_ ht (wpAny_bind (wpAny_typeOf (hs.imp fun _ z => ⟨z.1, z.2.1⟩) ?_)))
    rw [if_pos (by decide)]
    refine wpAny_bind (dX' hs ps ?_)
    show wpAny _ _ (if (((items.size : Int) - 1) == 0 && (-1 : Int) == 1 && items.size == items.size) = true then _ else _) _ _ s
    rw [if_neg never, oN']
    exact wpAny_bind (m := Builtin.Tuple.tupleExact _) (wpAny_newObj_type (wpAny_pure ⟨_, rfl, wpAny_pure h⟩) room)
  unfold getItem
  exact wpAny_holding (wpAny_bind (wpAny_sequenceKey ht.typeIs (by decide) (wpAny_bind (wpAny_callSpecial?_slot (name := Str.ofString "__getitem__") ht.typeIs PyProof.Rows.slot_tuple_getitem
    (wpAny_call_entry PyProof.Rows.slot_tuple_getitem ht.typeIs PyProof.Rows.entry_tuple_getitem inner (PyProof.Rows.args_tuple_getitem _ _))))))
end
def wm' (K : PySem.W.Frag) : V -> Hp -> VK -> Prop := fun x H Q => ∃ a xs, x = .ref a /\ SqT K H a xs /\ ∀ p, H p = none -> Q (.ref p) (upd H p (.tup xs.reverse))
theorem rn' {X : Cx} {e : Expr} {te : TE} {k : Nat} {p1 p2 p3 pos : Pos} (he : PE X e te) : PE X (.Subscript e (.Slice none none (some (.UnaryOp .USub (.Constant (.int 1) k p1) p2)) p3) pos) (fun σ H Q => te σ H fun x H1 => wm' X.K x H1 Q) := m0' he fun pins s4 σ H4 x v vl vu vs Q I4 r1 pl pu ps q1 I5 => by
  obtain ⟨a, xs, rfl, hx, q⟩ := q1
  cases r1
  cases pl
  cases pu
  obtain ⟨its, r, ht, hz⟩ := I5.tuple hx
  have hlen : its.toArray.size = xs.length := by rw [List.size_toArray]; exact r.length.symm
  show wpAny (model X.prog X.w) X.A (subscriptTail e (.Slice none none (some (.UnaryOp .USub (.Constant (.int 1) k p1) p2)) p3) (.ref a) (.ref s4.heap.objs.size)) (EP X pins σ Q) X.xe { s4 with heap := s4.heap.push { cls := .type "slice", data := .fields #[.none, .none, vs] } }
  refine tail_any (ops := [.ref a, .ref s4.heap.objs.size]) ht.typeIs (PyProof.Rows.slot_tuple_getitem.lookup) ?_ (by with_unfolding_all rfl)
  refine dC' ht (Heap.IsSliceOf.new _ .none .none vs) ps ?_ (by rw [hlen]; exact hz)
  refine ⟨.ref _, _, I5.laid (t' := s4.toks) (o := .tup xs.reverse) (fun b ob q => Heap.get?_push_of_some _ q) (Nat.le_refl _) ?_, rfl, q _ (I5.hok.fresh (Nat.le_refl _))⟩
  exact ⟨by rw [List.length_reverse]; exact hz, _, r.reverse, IsTup.new _ _⟩
section
variable {X : Cx} {W : WX} {a : Expr} {ma : M.ME} {pos p1 p2 p3 : Pos} {k : Nat}
theorem q5' (ha : SE X W a ma) : SE X W (.Subscript a (.Slice none none (some (.UnaryOp .USub (.Constant (.int 1) k p1) p2)) p3) pos) (M.eUn M.rp' ma) :=
  PE.imp (rn' ha) fun σ H Q ⟨ρ, F, T, fr, rel, h⟩ => by
    refine aF' rel h fun dx ρ1 v H1 F1 T1 e1 z1 r1 h1 => ?_
    obtain ⟨dz, ez, q⟩ := a4'.ofO h1
    obtain ⟨fp, f1, back⟩ := r1.fp
    have g : ds' X.K F1 T1 fp dz fun v' H4 => Q v' H4 := fun v' H4 F4 s zz f4 => q v' H4 F4 T1 (e1.trans (.of s)) zz (back H4 F4 s f4)
    cases dx <;> try (cases ez; done)
    obtain ⟨a, vs, rfl, ha, za⟩ := z1.tup_inv
    cases ez
    exact ⟨a, vs, rfl, SqT.low f1.low ha, fun p hp => g.newT f1 za.rev hp⟩
end
end S
namespace S
open PySem PySem.Spec PyProof.Rows L2
variable [Wd]
section
variable {X : Cx} {W : WX} {pos p : Pos} {a b : Expr}
end
end S
namespace S
open PySem PySem.Spec PyProof.Rows L2 CwR
section
variable {X : Cx} {o e : Expr} {te to : TE} {es : List Expr} {ta : TA} {y z : Str} {i : Int} {j j1 j2 : Nat} {c0 c1 apos pos p : Pos}
end
variable [Wd]
section
variable {X : Cx} {W : WX} {o : Expr} {mo : M.ME} {y z : Str} {i : Int} {j j1 j2 : Nat} {c0 c1 apos pos p : Pos}
end
end S
namespace S
open PySem PySem.Spec PyProof.Rows L2
variable [Wd]
section
variable {X : Cx} {W : WX} {a : Expr} {ma : M.ME} {pos : Pos}
end
end S
namespace S
open PySem PySem.Spec PyProof.Rows L2
end S
namespace S
open PySem PySem.Spec PyProof.Rows L2
variable [Wd] [Hot]
section
variable {K : PySem.W.Frag} {W : WX} {X : Cx} {p pos : Pos} {a b : Expr} {ma mb : M.ME}
end
end S
namespace S
open PySem PySem.Spec
open PySem (ZipApart)
structure ZlSt (h : Heap) (z TI TO i1 i2 l1 l2 : Addr) (xs ys : Array Value) (S : Addr) (i : Nat) : Prop where
  ti : IsPair h TI (.ref i1) (.ref i2)
  it1 : h.IsListIter i1 l1 i
  it2 : h.IsListIter i2 l2 i
  li1 : h.IsList l1 xs
  li2 : h.IsList l2 ys
  zz : (IsZip h z TI TO .none /\ ∃ a b, IsPair h TO a b) \/ ∃ T f oT, PySem.IsZipHeld h z TI TO T f /\ h.get? T = some oT /\ T ≠ z /\ T ≠ i1 /\ T ≠ i2 /\ T ≠ S
structure ZlA (z TI TO i1 i2 l1 l2 S : Addr) : Prop where
  z : z < S
  TI : TI < S
  TO : TO < S
  i1 : i1 < S
  i2 : i2 < S
  l1 : l1 < S
  l2 : l2 < S
section
variable {prog : Program} {w : World} {A : Around} {E : Value -> Shared -> Prop} {s : Shared} {z TI TO i1 i2 l1 l2 S : Addr} {xs ys : Array Value} {i : Nat}
theorem ZlSt.keep {h h' : Heap} (st : ZlSt h z TI TO i1 i2 l1 l2 xs ys S i) (L : ZlA z TI TO i1 i2 l1 l2 S) (hk : ∀ b o, b ≠ S -> h.get? b = some o -> h'.get? b = some o) : ZlSt h' z TI TO i1 i2 l1 l2 xs ys S i := by
  obtain ⟨a1, a2, a3, a4, a5, a6⟩ := st
  have n : ∀ {a : Addr}, a < S -> a ≠ S := fun h => Nat.ne_of_lt h
  refine ⟨hk _ _ (n L.TI) a1, a2.at fun o e => hk _ o (n L.i1) e, a3.at fun o e => hk _ o (n L.i2) e, a4.at fun o e => hk _ o (n L.l1) e, a5.at fun o e => hk _ o (n L.l2) e, ?_⟩
  rcases a6 with ⟨hz, a, b, hTO⟩ | ⟨T, f, oT, hz, hT, r1, r2, r3, r4⟩
  . exact .inl ⟨hk _ _ (n L.z) hz, a, b, hk _ _ (n L.TO) hTO⟩
  . exact .inr ⟨T, f, oT, hk _ _ (n L.z) hz, hk _ _ r4 hT, r1, r2, r3, r4⟩
structure ZlG (xs ys : Array Value) (lo : Addr) (h : Heap) (as : List Addr) : Prop where
  rise : as.Pairwise (· < ·)
  above : ∀ a ∈ as, lo < a
  pairs : ∀ (j : Nat) (a : Addr), as[j]? = some a -> ∃ x y, xs[j]? = some x /\ ys[j]? = some y /\ h.get? a = some { cls := .type "tuple", data := .seq #[x, y] }
theorem ZlG.there {lo : Addr} {h : Heap} {as : List Addr} (g : ZlG xs ys lo h as) {a : Addr} (ha : a ∈ as) : a < h.objs.size := by
  obtain ⟨j, hj⟩ := List.mem_iff_getElem?.mp ha
  obtain ⟨_, _, _, _, e⟩ := g.pairs j a hj
  exact Heap.lt_size e
end
section
variable {prog : Program} {w : World} {A : Around} {s : Shared} {R : Result -> Shared -> Prop} {z TI TO i1 i2 l1 l2 S : Addr} {xs ys : Array Value}
end
section
variable {prog : Program} {w : World} {A : Around} {E : Value -> Shared -> Prop} {s : Shared} {z TI TO i1 i2 l1 l2 S : Addr} {xs ys : Array Value}
theorem ZlSt.type {h : Heap} {i : Nat} (st : ZlSt h z TI TO i1 i2 l1 l2 xs ys S i) : ∃ o, h.get? z = some o /\ o.cls = .type "zip" := by
  rcases st.zz with ⟨hz, _⟩ | ⟨T, f, oT, hz, _⟩
  . exact ⟨_, hz, rfl⟩
  . exact ⟨_, hz, rfl⟩
end
end S
namespace S
open PySem PySem.Spec PyProof.Rows L2 LiI
section
variable {X : Cx}
end
section
variable {K : PySem.W.Frag} [Wd]
end
section
variable [Wd] {X : Cx} {W : WX} {a b : Expr} {ma mb : M.ME} {p p2 pos pos2 : Pos}
end
end S
namespace S
open PySem PySem.Spec PyProof.Rows L2
section
variable {prog : Program} {w : World} {A : Around} {E : Value -> Shared -> Prop} {s : Shared} {z TI TO i1 i2 l1 l2 : Addr} {xs ys : Array Value} {k : Nat}
abbrev ZO (h : Heap) (z TI TO : Addr) (f0 : Value) (b : Bool) : Prop :=
  h.get? z = some { cls := .type "zip", dict := none, data := .fields #[f0, .bool b, .bool false, .ref TI, .ref TO], slots := #[] }
def Gvn (f0 : Value) : Prop := f0 = .none \/ ∃ T : Addr, f0 = rawInt T
structure ZnSt (h : Heap) (z TI TO i1 i2 l1 l2 : Addr) (k : Nat) : Prop where
  zz : ∃ f0 b, ZO h z TI TO f0 b /\ Gvn f0
  ti : IsPair h TI (.ref i1) (.ref i2)
  to : ∃ x y, IsPair h TO x y
  h1 : h.IsTupleIter i1 l1 k
  h2 : h.IsTupleIter i2 l2 k
end
end S
namespace S
open PySem PySem.Spec PyProof.Rows L2
section
variable [Wd] [Hot] {X : Cx} {W : WX} {a b : Expr} {ma mb : M.ME} {p pos : Pos}
end
end S
namespace S
open PySem PySem.Spec PyProof.Rows L2
section
variable [Wd] [Hot] {X : Cx} {W : WX} {a : Expr} {ma : M.ME} {pos : Pos}
end
end S
namespace S
open PySem PySem.Spec PyProof.Rows L2
variable [Wd]
inductive DSd (K : PySem.W.Frag) (H : Hp) (a : Addr) (y v : V) (Q : V -> Hp -> Prop) : Prop
  | old {xs : List (NestedKey × Addr × V)} {b : Addr} {k : NestedKey} {u : V} : H a = some (dcN a xs) -> vO' K H xs -> y = .ref b -> NkV K H (.ref b) k -> k.depth <= 8 -> valV (xsV xs) k = some u -> xs.length <= sizeLine -> Q u H -> DSd K H a y v Q
  | new {xs : List (NestedKey × Addr × V)} {b : Addr} {k : NestedKey} : H a = some (dcN a xs) -> vO' K H xs -> y = .ref b -> NkV K H (.ref b) k -> k.depth <= 8 -> valV (xsV xs) k = none -> (vH' xs k b v).length <= sizeLine -> Q v (upd H a (dcN a (vH' xs k b v))) -> DSd K H a y v Q
  | fst {b : Addr} {k : NestedKey} : H a = some (dcL a []) -> y = .ref b -> NkV K H (.ref b) k -> k.depth <= 8 -> Q v (upd H a (dcN a [(k, b, v)])) -> DSd K H a y v Q
section
variable {X : Cx} {pins : List (Addr × Obj)} {σ : St} {H : Hp} {s : Shared} {a : Addr} {y : V} {u : Value} {A : Around} {E : Value -> Shared -> Prop}
end
section
variable [Hot] {X : Cx} {W : WX} {o : Expr}
end
end S
namespace PySem.W
open Spec PyProof PyProof.Rows
section
variable {prog : Program} {w : World} {A A₀ : Around} {E : Value -> Shared -> Prop} {s : Shared} {K : Frag} {x y C C' L f : Addr} {h₀ : Heap} {m : Str -> Option Value} {ox oy : Obj} {od od' : Option Obj} {b tb : Value}
end
end PySem.W
namespace S
open PySem PySem.Spec PyProof.Rows L2
variable [Wd] [Hot]
local macro_rules | `(tactic| walk_at "parts") => `(tactic| (constructor; (intro e h; simp only [List.mem_append, List.mem_cons, List.not_mem_nil] at *; grind); (intro x; simp only [keys, List.map_append, List.map_cons, List.map_nil, List.count_append, List.count_cons, List.count_nil] at *; omega)))
section
variable {K : PySem.W.Frag} {σ : St} {H : Hp} {Q : VK} {W : WX}
end
section
variable {X : Cx} {W : WX} {pos p : Pos} {a b e : Expr} {ma mb : M.ME} {k : Nat} {args : List Str} {mf : M.MF}
end
end S
namespace S
open PySem PySem.Spec PyProof.Rows L2
local macro_rules | `(tactic| walk_at "parts") => `(tactic| (constructor; (intro e h; simp only [List.mem_append, List.mem_cons, List.not_mem_nil] at *; grind); (intro x; simp only [keys, List.map_append, List.map_cons, List.map_nil, List.count_append, List.count_cons, List.count_nil] at *; omega)))
section
variable [Wd]
variable {K : PySem.W.Frag} {F H G : Hp} {T T' : List Addr}
end
section
variable [Wd]
variable {K : PySem.W.Frag} {F H G : Hp} {T T' : List Addr}
def NoD (fp : Fp) : Prop := ∀ e ∈ fp, (∀ kvs, e.2 ≠ .dK kvs) /\ (∀ φ, e.2 ≠ .ext φ) /\ ∀ od u, e.2 ≠ .frz od u
theorem NoD.app {a b : Fp} (h : NoD a) (g : NoD b) : NoD (a ++ b) := fun e he => (List.mem_append.mp he).elim (h e) (g e)
structure Split (C A B : Fp) : Prop where
  mem : ∀ e, e ∈ C ↔ e ∈ A \/ e ∈ B
  cnt : ∀ x, (keys C).count x = (keys A).count x + (keys B).count x
end
section
variable [Wd] [Hot] {X : Cx} {W : WX} {a b e : Expr} {ma mb me : M.ME} {p p2 pos pos2 : Pos}
variable {es : List Expr} {mo : M.MO} {moa : M.MOA}
theorem RpA.rev {K : PySem.W.Frag} {F : Hp} {T : List Addr} {vs : List V} {os : List M.O} {fp : Fp} (h : RpA K F T vs os fp) : ∃ fq, RpA K F T vs.reverse os.reverse fq /\ Part fq fp := by
  induction vs generalizing os fp with
  | nil => cases h; exact ⟨[], .nil, .refl⟩
  | cons v vs ih =>
    cases h with
    | @cons _ _ o os fa fb h r =>
      obtain ⟨fq, h1, h2⟩ := ih r
      rw [List.reverse_cons, List.reverse_cons]
      have z : RpA K F T [v] [o] (fa ++ []) := .cons h .nil
      refine ⟨_, h1.app z, ?_⟩
      have p1 : Part (fq ++ (fa ++ [])) (fb ++ (fa ++ [])) := .app h2 .refl
      exact p1.trans (by walk_at "parts")
end
section
variable [Wd] {X : Cx} {W : WX} {a b : Expr} {ma mb : M.ME} {p p2 pos pos2 : Pos}
end
end S
namespace PySem.W
open PySem PySem.Spec PySem.Calls PyProof PyProof.Rows
section
variable {x t : Value} {P : Heap -> Prop}
end
end PySem.W
namespace L2
open PySem PySem.Spec PyProof.Rows
end L2
namespace S
open PySem PySem.Spec PyProof.Rows L2
variable [Wd] {X : Cx} {W : WX} {pos p : Pos} {a b : Expr}
end S
namespace S
open PySem PySem.Spec PyProof.Rows L2
variable [Wd] [Hot]
local macro_rules | `(tactic| walk_at "parts") => `(tactic| (constructor; (intro e h; simp only [List.mem_append, List.mem_cons, List.not_mem_nil] at *; grind); (intro x; simp only [keys, List.map_append, List.map_cons, List.map_nil, List.count_append, List.count_cons, List.count_nil] at *; omega)))
section
variable {K : PySem.W.Frag} {F H : Hp} {T : List Addr} {fp fr : Fp} {ρ : M.PSt} {σ : St}
theorem RpA.named {f : String} {o : M.O} : ∀ {fv : List (String × V)} {os : List M.O} {fp : Fp}, RpA K F T (fv.map (·.2)) os fp -> ((fv.map (·.1)).zip os).lookup f = some o →
    ∃ v f1 f2 f3, fv.lookup f = some v /\ fp = f1 ++ (f2 ++ f3) /\ Rp K F T v o f2 /\ ∀ o' f2', Rp K F T v o' f2' -> ∃ os', RpA K F T (fv.map (·.2)) os' (f1 ++ (f2' ++ f3)) /\ M.nX' f o' ((fv.map (·.1)).zip os) = (fv.map (·.1)).zip os'
  | [], _, _, r, h => by cases r; cases h
  | (g, v) :: fv, _, _, r, h => by
    cases r with
    | @cons _ _ o1 os fa fb r0 r =>
      by_cases e : f = g
      . subst e
        have h : some o1 = some o := by rw [<- h, List.map_cons, List.zip_cons_cons, List.lookup_cons_self]
        cases h
        refine ⟨v, [], fa, fb, List.lookup_cons_self, rfl, r0, fun o' f2' q => ⟨o' :: os, (RpA.cons q r : RpA K F T _ _ (f2' ++ fb)), ?_⟩⟩
        rw [List.map_cons, List.zip_cons_cons, List.zip_cons_cons]
        exact if_pos rfl
      . have h1 : (f == g) = false := by simpa using e
        have h : ((fv.map (·.1)).zip os).lookup f = some o := by
          rw [<- h, List.map_cons, List.zip_cons_cons]
          simp only [List.lookup, h1]
        obtain ⟨v', f1, f2, f3, e1, e2, e3, e4⟩ := RpA.named r h
        refine ⟨v', fa ++ f1, f2, f3, by simp only [List.lookup, h1]; exact e1, by rw [e2, List.append_assoc], e3, fun o' f2' q => ?_⟩
        obtain ⟨os', q1, q2⟩ := e4 o' f2' q
        refine ⟨o1 :: os', by rw [List.append_assoc]; exact .cons r0 q1, ?_⟩
        rw [List.map_cons, List.zip_cons_cons, List.zip_cons_cons]
        show (if g = f then _ else _) = _
        rw [if_neg (fun z => e z.symm), q2]
end
section
variable {X : Cx} {W : WX} {pos apos cpos tpos p2 : Pos} {a b e k value : Expr} {ma mk mv : M.ME}
end
end S
namespace S
open PySem PySem.Spec PyProof.Rows L2
variable [Wd] [Hot]
section
variable {K : PySem.W.Frag}
end
end S
namespace S
open PySem PySem.Spec PyProof.Rows L2
variable [Wd] [Hot]
section
variable {X : Cx} {W : WX} {K : PySem.W.Frag} {a b : Expr} {ma mb : M.ME} {pos p apos : Pos} {x : Str}
end
end S
namespace S
open PySem PySem.Spec PyProof.Rows L2
variable [Wd] [Hot]
section
variable {X : Cx} {tg e : Expr} {td : TE}
end
section
variable {K : PySem.W.Frag} {F : Hp} {T : List Addr}
end
section
variable {X : Cx} {W : WX} {tg a : Expr} {ma : M.ME}
end
end S
namespace S
open PySem PySem.Spec PyProof.Rows L2
variable [Wd]
section
variable {K : PySem.W.Frag}
end
variable [Hot]
section
variable {X : Cx} {W : WX} {pos cpos apos spos ipos epos : Pos}
end
end S
namespace S
open PySem PySem.Spec PyProof.Rows L2
variable [Wd]
inductive CodeMade (Ck : Addr -> Prop) (H : Hp) (P : Addr) (q : Str) (c : Addr) : Hp -> Prop
  | told : Ck c -> CodeMade Ck H P q c H
  | fresh {ps ps' : Array Value} : H c = none -> H P = some (.tbl ps) -> TriplesOk ps'.toList -> (∀ (pos : Pos) (cv : Value), codeAmong pos ps'.toList = some cv -> codeAmong pos ps.toList = some cv \/ cv = .ref c) →
      CodeMade Ck H P q c (upd (upd H P (.tbl ps')) c (LamX.CodeO c q))
section
variable {X : Cx} {pins : List (Addr × Obj)} {σ : L2.St} {H : Hp} {s : Shared}
end
end S
namespace S
open PySem PySem.Spec PyProof.Rows L2
end S
namespace S
open PySem PySem.Spec PyProof.Rows L2
variable [Wd]
end S
namespace S
open PySem PySem.Spec PyProof.Rows L2
section
variable {P : Program} {w : World} {K : PySem.W.Frag} {mg mb : Str -> Option Value} {CX : CXT} {k : Nat} {fa a : Addr} {fd : FuncData} {x : Str} {sp : Sp} {s : Shared} {vs : List Value} {n0 : Nat} {H : Hp} {cs : List (Addr × Addr)}
end
end S
namespace S
open PySem PySem.Spec PyProof.Rows L2
variable [Wd] [Hot]
section
variable {X : Cx} {W : WX} {pos apos tpos p2 : Pos} {a value : Expr} {ma mv : M.ME} {t : Str} {j2 : Nat} {s : M.Tx}
end
end S
namespace S
open PySem PySem.Spec PyProof.Rows PySem.W
section
variable {prog : Program} {w : World} {A : Around} {E : Value -> Shared -> Prop} {s : Shared}
end
section
open L2
variable {X : Cx}
end
section
open L2
variable {X : Cx} {e : Expr} {te : TE} {p apos cpos pos : Pos} {sn : Str}
end
section
open L2
variable [Wd] [Hot]
end
section
open L2
variable [Wd] [Hot]
end
section
open L2
variable [Wd] [Hot] {X : Cx} {W : WX} {a : Expr} {ma : M.ME} {p apos iapos cpos pos : Pos} {sn : Str}
end
end S
namespace S
open PySem PySem.Spec PyProof.Rows L2
local macro_rules | `(tactic| walk_at "parts") => `(tactic| (constructor; (intro e h; simp only [List.mem_append, List.mem_cons, List.not_mem_nil] at *; grind); (intro x; simp only [keys, List.map_append, List.map_cons, List.map_nil, List.count_append, List.count_cons, List.count_nil] at *; omega)))
section
variable [Wd]
variable {K : PySem.W.Frag} {F H G : Hp} {T T' : List Addr}
def Drp (kl kd : Bool) (F G : Hp) : Prop := ∀ a o, F a = some o -> G a = some o \/ (kl = true /\ ∃ vs, o = .lst vs) \/ (kd = true /\ ∃ od kvs, o = .frz od (.dK kvs))
theorem Drp.keep {kl kd : Bool} (s : Drp kl kd F G) {a : Addr} {o : HO} (h : F a = some o) (n1 : ∀ vs, o ≠ .lst vs) (n2 : ∀ od kvs, o ≠ .frz od (.dK kvs)) : G a = some o := by
  rcases s a o h with h | ⟨_, vs, e⟩ | ⟨_, od, kvs, e⟩
  . exact h
  . exact absurd e (n1 vs)
  . exact absurd e (n2 od kvs)
theorem Drp.seqT {kl kd : Bool} (s : Drp kl kd F G) {a : Addr} {xs : List V} (h : SqT K F a xs) : SqT K G a xs := by
  rcases h with (h | ⟨o, h⟩) | h
  . exact .inl (.inl (s.keep h (fun _ z => nomatch z) fun _ _ z => nomatch z))
  . exact .inl (.inr ⟨o, s.keep h (fun _ z => nomatch z) fun _ _ z => nomatch z⟩)
  . exact .inr h
theorem Drp.lst {kd : Bool} (s : Drp false kd F G) {a : Addr} {vs : List V} (h : F a = some (.lst vs)) : G a = some (.lst vs) := by
  rcases s a _ h with h | ⟨z, _⟩ | ⟨_, od, kvs, e⟩
  . exact h
  . cases z
  . cases e
theorem Drp.seqL {kd : Bool} (s : Drp false kd F G) {a : Addr} {xs : List V} (h : SqL K F a xs) : SqL K G a xs := by
  rcases h with (h | ⟨o, h⟩) | h
  . exact .inl (.inl (s.lst h))
  . exact .inl (.inr ⟨o, s.keep h (fun _ z => nomatch z) fun _ _ z => nomatch z⟩)
  . exact .inr h
theorem Drp.dict {kl : Bool} (s : Drp kl false F G) {a : Addr} {kvs : List (Key × V)} (h : Rd F a (.dK kvs)) : Rd G a (.dK kvs) := by
  rcases h with h | ⟨o, h⟩
  . exact .inl (s.keep h (fun _ z => nomatch z) fun _ _ z => nomatch z)
  . rcases s a _ h with h | ⟨_, _, e⟩ | ⟨z, _⟩
    . exact .inr ⟨o, h⟩
    . cases e
    . cases z
theorem Drp.ext {kl kd : Bool} (s : Drp kl kd F G) {a : Addr} {φ : Heap -> Prop} (h : Rd F a (.ext φ)) : Rd G a (.ext φ) := by
  rcases h with h | ⟨o, h⟩
  . exact .inl (s.keep h (fun _ z => nomatch z) fun _ _ z => nomatch z)
  . exact .inr ⟨o, s.keep h (fun _ z => nomatch z) fun _ _ z => nomatch z⟩
theorem xA' {a b : Bool} (h : (a && b) = true) : a = true /\ b = true := Bool.and_eq_true_iff.mp h
def Lnt (kl kd : Bool) (o : HO) : Prop := (kl = true /\ ∃ vs, o = .lst vs) \/ (kd = true /\ ∃ kvs, o = .dK kvs)
def yE' (G : Hp) (e : Addr × HO) : Prop := G e.1 = some e.2 \/ ∃ od kvs, e.2 = .dK kvs /\ G e.1 = some (.frz od e.2)
theorem RpA.allFz {vs : List V} {os : List M.O} {fp : Fp} (r : RpA K F T vs os fp) (h : os.all M.rU' = true) : fp = [] /\ FzA K F T vs (M.frzs os) := by
  induction vs generalizing os fp with
  | nil => cases r; exact ⟨rfl, .nil⟩
  | cons v vs ih =>
    cases r with
    | @cons _ _ o os fa fb q r =>
      obtain ⟨h1, h2⟩ := xA' (show (M.rU' o && os.all M.rU') = true from h)
      obtain ⟨rfl, z⟩ := ih r h2
      cases o <;> try (cases h1; done)
      cases q with
      | fz q => exact ⟨rfl, .cons q z⟩
theorem Rp.lendO {kl kd : Bool} {v : V} {o : M.O} {fp : Fp} (q : Rp K F T v o fp) (h : M.lendO kl kd o = true) : (∀ e ∈ fp, Lnt kl kd e.2) /\ fp.length = M.vJ' o /\ ∀ G, Same F G -> (∀ e ∈ fp, yE' G e) -> Fz K G T v (M.frz o) := by
  cases q with
  | fz z => exact ⟨nofun, rfl, fun G s _ => z.mono (.of s)⟩
  | lst r =>
    obtain ⟨h1, h2⟩ := xA' (show (kl && _) = true from h)
    obtain ⟨rfl, z⟩ := r.allFz h2
    refine ⟨fun e he => ?_, rfl, fun G s g => ?_⟩
    . cases List.mem_singleton.mp he; exact .inl ⟨h1, _, rfl⟩
    . rcases g _ List.mem_cons_self with g | ⟨_, _, g, _⟩
      . exact .lst g (z.mono (.of s))
      . cases g
  | tup r => cases h
  | dct k r =>
    obtain ⟨h1, h2⟩ := xA' (show (kd && _) = true from h)
    obtain ⟨rfl, z⟩ := r.allFz h2
    refine ⟨fun e he => ?_, rfl, fun G s g => ?_⟩
    . cases List.mem_singleton.mp he; exact .inr ⟨h1, _, rfl⟩
    . rcases g _ List.mem_cons_self with g | ⟨od, _, _, g⟩
      . exact .dct (.inl g) k (z.mono (.of s))
      . exact .dct (.inr ⟨od, g⟩) k (z.mono (.of s))
  | dcl k r => cases h
  | dcn k q r => cases h
end
section
variable [Wd] [Hot] {X : Cx} {W : WX} {e : Expr} {mo : M.MO}
end
end S
namespace S
open PySem PySem.Spec PyProof.Rows L2
local macro_rules | `(tactic| walk_at "parts") => `(tactic| (constructor; (intro e h; simp only [List.mem_append, List.mem_cons, List.not_mem_nil] at *; grind); (intro x; simp only [keys, List.map_append, List.map_cons, List.map_nil, List.count_append, List.count_cons, List.count_nil] at *; omega)))
variable [Wd] [Hot]
section
variable {K : PySem.W.Frag}
end
section
variable {X : Cx} {W : WX} {a b : Expr} {mb : M.ME} {pos : Pos}
end
end S
namespace S
open PySem PySem.Spec PyProof.Rows L2
local macro_rules | `(tactic| walk_at "parts") => `(tactic| (constructor; (intro e h; simp only [List.mem_append, List.mem_cons, List.not_mem_nil] at *; grind); (intro x; simp only [keys, List.map_append, List.map_cons, List.map_nil, List.count_append, List.count_cons, List.count_nil] at *; omega)))
variable [Wd]
section
variable {X : Cx} {pins : List (Addr × Obj)} {σ : St} {H : Hp} {s : Shared} {a b : Addr} {y d : V} {u r : Value} {ov : Option V} {A : Around} {E : Value -> Shared -> Prop}
end
section
variable [Hot] {X : Cx} {W : WX} {o e f a i k l : Expr} {me mf ma mk ml : M.ME} {pos tpos tpos2 apos cpos : Pos}
end
section
variable {K : PySem.W.Frag}
end
section
variable [Hot]
end
end S
namespace S
open PySem PySem.Spec PyProof.Rows L2
variable [Wd]
end S
namespace S
open PySem PySem.Spec PyProof.Rows L2
variable [Wd] [Hot]
section
variable {X : Cx} {W : WX}
end
end S
namespace S
open PySem PySem.Spec PyProof.Rows L2
local macro_rules | `(tactic| walk_at "parts") => `(tactic| (constructor; (intro e h; simp only [List.mem_append, List.mem_cons, List.not_mem_nil] at *; grind); (intro x; simp only [keys, List.map_append, List.map_cons, List.map_nil, List.count_append, List.count_cons, List.count_nil] at *; omega)))
variable [Wd]
inductive HitsD (K : PySem.W.Frag) (H : Hp) (ls : List (Key × V)) : List (Key × V) -> Bool -> Prop
  | nil : HitsD K H ls [] true
  | miss {p : Key × V} {r : List (Key × V)} : valV ls p.1 = none -> HitsD K H ls (p :: r) false
  | hit {p : Key × V} {u : V} {d e : PyData} {r : List (Key × V)} {b : Bool} : valV ls p.1 = some u -> Dp K H p.2 d -> Dp K H u e -> SeqAt.shaped d = true -> SeqAt.shaped e = true -> HitsD K H ls r b -> HitsD K H ls (p :: r) (PyData.eqv d e && b)
section
variable {X : Cx}
end
section
variable {K : PySem.W.Frag}
end
section
variable {X : Cx} {pins : List (Addr × Obj)} {σ : St} {H : Hp} {s : Shared} {a b : Addr} {y d : V} {u r : Value} {ov : Option V} {A : Around} {E : Value -> Shared -> Prop}
end
section
variable [Hot] {X : Cx} {W : WX} {o e f a i k l : Expr} {me mf ma mk ml : M.ME} {pos tpos tpos2 apos cpos : Pos}
end
end S
namespace S
open PySem PySem.Spec PyProof.Rows L2 PySem.SeqAt
variable [Wd] [Hot]
variable {K : PySem.W.Frag}
end S
namespace S
open PySem PySem.Spec PyProof.Rows L2
local macro_rules | `(tactic| walk_at "parts") => `(tactic| (constructor; (intro e h; simp only [List.mem_append, List.mem_cons, List.not_mem_nil] at *; grind); (intro x; simp only [keys, List.map_append, List.map_cons, List.map_nil, List.count_append, List.count_cons, List.count_nil] at *; omega)))
section
variable [Wd] [Hot] {X : Cx} {W : WX} {pos : Pos}
end
end S
namespace S
open PySem PySem.Spec PyProof.Rows L2
variable [Wd] [Hot]
section
variable {K : PySem.W.Frag} {W : WX} {σ : St} {H : Hp} {D : Ends}
end
section
variable {X : Cx} {W : WX} {pos px ps pr : Pos} {tg c e : Expr} {sl : List Nat} {i : Nat} {nm : Str} {g : M.MG} {t : M.MT} {a : M.MO}
end
section
variable {X : Cx} {W : WX} {apos cpos : Pos} {o e : Expr} {es : List Expr} {x : Str} {as : M.MA}
end
end S
namespace L2
open PySem PySem.Spec PyProof.Rows
structure Lay (X : Cx) (pn : List (Addr × Obj)) (a : Addr) (cls : Value) (d : Option Addr) (σ : St) (H : Hp) (s : Shared) : Prop where
  src : ∃ B z, Inv X pn σ H z /\ (∀ b o, z.heap.get? b = some o -> b ∉ frs X.stack -> B.get? b = some o) /\ z.heap.UpToSlots s.heap /\ HandSPX.FlyingZ B (X.env :: X.outer) a (Zc cls d) s.heap /\ s.os = z.os /\ AllBare s.gens
  na : H a = none
section
variable {X : Cx} {pn : List (Addr × Obj)} {a : Addr} {cls : Value} {d : Option Addr} {σ : St} {H : Hp} {s : Shared}
theorem Lay.inv (y : Lay X pn a cls d σ H s) : Inv X pn σ H s := by
  obtain ⟨⟨B, z, I, h1, h2, h3, h4, h5⟩, -⟩ := y
  exact I.landed h1 h3.1 h2 h4 h5
theorem Lay.held (y : Lay X pn a cls d σ H s) (hf : X.env.frame = some X.env.locals) : ∃ oe, s.heap.get? a = some oe /\ Zc cls d oe /\ (∃ vs, oe.data = .fields vs) /\ Inv (X.suite a ((a, oe) :: (X.pn ++ pn))) [] σ H s := by
  have I := y.inv
  obtain ⟨⟨B, z, -, -, -, fl, -, -⟩, na⟩ := y
  obtain ⟨oe, vs, e1, e2, e3⟩ := fl.there
  have off : a ∉ frs (X.env :: X.outer) := by
    intro m
    obtain ⟨_, o2, e4, no⟩ := fl.2.2.1.mem m
    rw [e1] at e4
    cases e4
    exact no vs e3
  have q1 : a ≠ X.env.locals := by
    intro q
    refine off (List.mem_filterMap.2 ⟨X.env, by simp, ?_⟩)
    rw [hf, q]
  have q2 : a ∉ X.fs := by
    intro m
    obtain ⟨w, m1, m2⟩ := List.mem_filterMap.1 m
    exact off (List.mem_filterMap.2 ⟨w, by simp [m1], m2⟩)
  exact ⟨oe, e1, e2, ⟨vs, e3⟩, I.suite e1 e3 na q1 q2⟩
theorem Lay.cool {M : Model} {A : Around} {E : Value -> Shared -> Prop} {Q : Unit -> Shared -> Prop} (y : Lay X pn a cls d σ H s) (h : ∀ s', Lay X pn a cls d σ H s' -> Q () s') : wpAny M A (setFlight (.ref a) none) Q E s := by
  obtain ⟨⟨B, z, I, h1, h2, h3, h4, h5⟩, na⟩ := y
  exact HandSPX.lands_againZ h3 fun g k1 k2 => h _ ⟨⟨B, z, I, h1, h2.trans k2, k1, h4, h5⟩, na⟩
theorem Lay.out {W : WX} {Q : Flow -> Shared -> Prop} (y : Lay X pn a cls d σ H s) (hs : X.stack = X.env :: X.outer) (hf : X.env.frame = some X.env.locals) (tk : Takes X W) (w : W cls d σ H) : wpAny (model X.prog X.w) X.A (handleBy (.ref a) X.env []) Q X.xe s := by
  obtain ⟨⟨B, z, I, h1, h2, h3, h4, h5⟩, na⟩ := y
  obtain ⟨-, -, -, oe, vs, T, -, -, e1, -, e2, e3, -⟩ := id h3
  refine wpAny_handleBy_nil ?_
  unfold PySem.passOn
  refine wpAny_bind (wpAny_field e1 e2 e3 ?_)
  have nT : (Value.ref T == Value.none) = false := by simp
  rw [nT, if_neg Bool.false_ne_true]
  have up : wpAny (model X.prog X.w) X.A (setFlight (.ref a) X.env.frame) (fun _ r => wpAny (model X.prog X.w) X.A (throw (.ref a) : Sem Flow) Q X.xe r) X.xe s := by
    rw [hf]
    refine HandSPX.setFlight_upZ h3 fun g k1 k2 => wpAny_throw (tk (.ref a) _ ?_)
    refine ⟨a, B, z, pn, σ, H, cls, d, rfl, I, h1, h2.trans k2, ?_, na, h4, h5, w⟩
    rw [hs]
    exact .inr (.inr k1)
  first
    | exact wpAny_bind (wpAny_pure (wpAny_bind up))
    | exact wpAny_bind up
end
def yu' (D : Ends) (i : Nat) : Ends := { nx := fun σ H => D.nx (σ.set i none) H, rt := D.rt, bk := fun σ H => D.bk (σ.set i none) H, ct := fun σ H => D.ct (σ.set i none) H }
def tAs (i : Nat) (ts : Addr -> Value -> Option Addr -> TS) : Addr -> Value -> Option Addr -> TS := fun a cls d D σ H => ts a cls d (yu' D i) (σ.set i (some (.ref a))) H
inductive HdsN (X : Cx) : List ExceptHandler -> List (Value × (Addr -> Value -> Option Addr -> TS)) -> Prop
  | nil : HdsN X [] []
  | plain {x : Str} {c : Value} {ts : Addr -> Value -> Option Addr -> TS} {b : Stmt} {bs : List Stmt} {p q : Pos} {r : List ExceptHandler} {l : List (Value × (Addr -> Value -> Option Addr -> TS))} (hc : Names X x c)
      (h : ∀ (a : Addr) (oe : Obj) (cls : Value) (d : Option Addr) (pn : List (Addr × Obj)), Zc cls d oe -> (∃ vs, oe.data = .fields vs) -> PSs (X.suite a ((a, oe) :: pn)) (b :: bs) (ts a cls d)) : HdsN X r l →
      HdsN X (.ExceptHandler (some (.Name x p)) none (b :: bs) q :: r) ((c, ts) :: l)
  | named {x n : Str} {i : Nat} {c : Value} {ts : Addr -> Value -> Option Addr -> TS} {b : Stmt} {bs : List Stmt} {p q : Pos} {r : List ExceptHandler} {l : List (Value × (Addr -> Value -> Option Addr -> TS))} (hN : X.N.Nodup) (hi : X.N[i]? = some n) (hln : X.env.kindOf n = some .local) (hc : Names X x c)
      (h : ∀ (a : Addr) (oe : Obj) (cls : Value) (d : Option Addr) (pn : List (Addr × Obj)), Zc cls d oe -> (∃ vs, oe.data = .fields vs) -> PSs (X.suite a ((a, oe) :: pn)) (b :: bs) (ts a cls d)) : HdsN X r l →
      HdsN X (.ExceptHandler (some (.Name x p)) (some n) (b :: bs) q :: r) ((c, tAs i ts) :: l)
section
variable {X : Cx} {pn : List (Addr × Obj)} {a : Addr} {cls : Value} {d : Option Addr} {σ : St} {H : Hp} {s : Shared}
theorem Lay.asks {x : Str} {c : Value} {b : Bool} {nm : Option Str} {body : List Stmt} {p q : Pos} {r : List ExceptHandler} {Q : Flow -> Shared -> Prop} (y : Lay X pn a cls d σ H s) (hf : X.env.frame = some X.env.locals) (hc : Names X x c) (hb : PySem.W.exmOne X.K cls c = some b)
    (yes : b = true -> codeAny (model X.prog X.w) (X.A.mark (some (.ref a))) (.handlers (.ref a) [.ExceptHandler none nm body q] X.env) (fun o s₂ => match o with
          | .ok f => (match nm with
            | none => Q f s₂
            | some n => wpAny (model X.prog X.w) X.A (do bindName X.env n .none; unbindBehindTheSuite X.env n q) (fun _ s₃ => Q f s₃) X.xe s₂)
          | .error x => cameBackBy (model X.prog X.w) X.A X.env X.xe x s₂) s)
    (no : b = false -> wpAny (model X.prog X.w) X.A (handleBy (.ref a) X.env r) Q X.xe s) : wpAny (model X.prog X.w) X.A (handleBy (.ref a) X.env (.ExceptHandler (some (.Name x p)) nm body q :: r)) Q X.xe s := by
  obtain ⟨oe, e1, e2, e3, S⟩ := y.held hf
  have I := y.inv
  refine wpAny_handleBy_cons (codeAny_handlers_test ?_) (fun z => by cases z)
  have lt : PySem.W.Looks (model X.prog X.w) s.heap (typeOf (.ref a)) cls := fun A Q E s k q => wpAny_typeOf_ref (k _ _ e1) (by rw [e2.1]; exact q)
  have lm := PySem.W.exm_one (M := model X.prog X.w) I.kIn lt hb
  have ask : ∀ {Q E : Value -> Shared -> Prop}, Q c s -> wpAny (model X.prog X.w) (X.A.mark (some (.ref a))) (eval (.Name x p) X.env) Q E s := by
    intro Q E z
    obtain ⟨g1, g2, g3⟩ := hc
    rcases g3 with g3 | ⟨g3, g4, g5⟩
    . exact ld_glob (X := X.suite a ((a, oe) :: (X.pn ++ pn))) S g1 g3 z g2
    . exact ld_blt (X := X.suite a ((a, oe) :: (X.pn ++ pn))) S g1 g3 g4 z g5 g2
  refine ask (lm.here ?_)
  cases b with
  | false => exact no rfl
  | true => exact yes rfl
theorem Lay.run {W : WX} {D : Ends} (hs : X.stack = X.env :: X.outer) (hf : X.env.frame = some X.env.locals) (tk : Takes X W) {hds : List ExceptHandler} {l : List (Value × (Addr -> Value -> Option Addr -> TS))} (hh : HdsN X hds l) (y : Lay X pn a cls d σ H s) (w : wMany X.K W D l cls d σ H) :
    wpAny (model X.prog X.w) X.A (handleBy (.ref a) X.env hds) (SP X pn D) X.xe s := by
  have ok := y.inv.ok
  induction hh with
  | nil => exact y.out hs hf tk w
  | @plain x c ts b bs p q r l hc h _ ih =>
    obtain ⟨t, w1, w2, w3⟩ := w
    refine y.asks hf hc w1 (fun et => codeAny_handlers_suite (y.cool fun s2 y2 => ?_)) fun et => ih (w3 et)
    obtain ⟨oe, e1, e2, e3, S⟩ := y2.held hf
    refine wpAny_mono ((h a oe cls d (X.pn ++ pn) e2 e3).run [] s2 σ H D S (w2 et a y.na)) (fun f s3 z => ?_) (fun _ _ z => z.elim)
    cases f with
    | next =>
      obtain ⟨σ3, H3, S3, z⟩ := z
      exact ⟨σ3, H3, S3.unsuite ok, z⟩
    | brk =>
      obtain ⟨σ3, H3, S3, z⟩ := z
      exact ⟨σ3, H3, S3.unsuite ok, z⟩
    | cont =>
      obtain ⟨σ3, H3, S3, z⟩ := z
      exact ⟨σ3, H3, S3.unsuite ok, z⟩
    | ret u =>
      obtain ⟨v, σ3, H3, S3, z⟩ := z
      exact ⟨v, σ3, H3, S3.unsuite ok, z⟩
  | @named x n i c ts b bs p q r l hN hi hln hc h _ ih =>
    obtain ⟨t, w1, w2, w3⟩ := w
    refine y.asks hf hc w1 (fun et => codeAny_handlers_suite_as (y.cool fun s2 y2 => ?_)) fun et => ih (w3 et)
    obtain ⟨oe, e1, e2, e3, S⟩ := y2.held hf
    refine store_ok (X := X.suite a ((a, oe) :: (X.pn ++ pn))) (v := .ref a) S hN hi (.inl hln) rfl (fun s3 S3 => ?_) (.inr hln)
    refine wpAny_mono ((h a oe cls d (X.pn ++ pn) e2 e3).run [] s3 _ H _ S3 (w2 et a y.na)) (fun f s4 z => ?_) (fun _ _ z => z.elim)
    have gone : ∀ {σ4 : St} {H4 : Hp} {R : Shared -> Prop}, Inv (X.suite a ((a, oe) :: (X.pn ++ pn))) [] σ4 H4 s4 -> (∀ s5, Inv X pn (σ4.set i none) H4 s5 -> R s5) -> wpAny (model X.prog X.w) X.A (do bindName X.env n .none; unbindBehindTheSuite X.env n q) (fun _ s5 => R s5) X.xe s4 := by
      intro σ4 H4 R S4 k
      exact gone_ok (S4.unsuite ok) hN hi hln k
    cases f with
    | next =>
      obtain ⟨σ3, H3, S3, z⟩ := z
      exact gone S3 fun _ k => ⟨_, _, k, z⟩
    | brk =>
      obtain ⟨σ3, H3, S3, z⟩ := z
      exact gone S3 fun _ k => ⟨_, _, k, z⟩
    | cont =>
      obtain ⟨σ3, H3, S3, z⟩ := z
      exact gone S3 fun _ k => ⟨_, _, k, z⟩
    | ret u =>
      obtain ⟨v, σ3, H3, S3, z⟩ := z
      exact gone S3 fun _ k => ⟨_, _, _, k, z⟩
end
section
variable {X : Cx} {body : List Stmt} {h₀ : ExceptHandler} {hds : List ExceptHandler} {l : List (Value × (Addr -> Value -> Option Addr -> TS))} {pos : Pos} {tb : WX -> TS} {W : WX}
end
end L2
namespace S
open PySem PySem.Spec PyProof.Rows L2
variable [Wd]
section
variable {X : Cx} {W : WX} {D : Ends} {σ : St} {H : Hp} {F : Hp} {T : List Addr} {fr : Fp}
abbrev Hn := List (Option (Nat × Nat) × (String -> Option Bool) × (M.Exc -> M.MS))
inductive HdsMN (X : Cx) : List ExceptHandler -> Hn -> List (Value × (Addr -> Value -> Option Addr -> TS)) -> Prop
  | nil : HdsMN X [] [] []
  | plain {x : Str} {c : Value} {g : String -> Option Bool} {h : M.Exc -> M.MS} {b : Stmt} {bs : List Stmt} {p q : Pos} {r : List ExceptHandler} {l : Hn} {l' : List (Value × (Addr -> Value -> Option Addr -> TS))} (hc : Names X x c)
      (hg : ∀ y b, g y = some b -> PySem.W.exmOne X.K (.ref (He.ga X.K y)) c = some b)
      (hsu : ∀ (e : M.Exc) (a : Addr) (oe : Obj) (d : Option Addr) (pn : List (Addr × Obj)), Zc (.ref (He.ga X.K e.cls)) d oe -> (∃ vs, oe.data = .fields vs) -> SSs (X.suite a ((a, oe) :: pn)) W0 (b :: bs) (h e)) : HdsMN X r l l' →
      HdsMN X (.ExceptHandler (some (.Name x p)) none (b :: bs) q :: r) ((none, g, h) :: l) ((c, tsM X.K h) :: l')
  | named {x n : Str} {i m : Nat} {c : Value} {g : String -> Option Bool} {h : M.Exc -> M.MS} {b : Stmt} {bs : List Stmt} {p q : Pos} {r : List ExceptHandler} {l : Hn} {l' : List (Value × (Addr -> Value -> Option Addr -> TS))} (hN : X.N.Nodup) (hi : X.N[i]? = some n) (hln : X.env.kindOf n = some .local) (hc : Names X x c)
      (hg : ∀ y b, g y = some b -> PySem.W.exmOne X.K (.ref (He.ga X.K y)) c = some b)
      (hsu : ∀ (e : M.Exc) (a : Addr) (oe : Obj) (d : Option Addr) (pn : List (Addr × Obj)), Zc (.ref (He.ga X.K e.cls)) d oe -> (∃ vs, oe.data = .fields vs) -> @SSs _ (gv' a m d e) (X.suite a ((a, oe) :: pn)) W0 (b :: bs) (h e)) : HdsMN X r l l' →
      HdsMN X (.ExceptHandler (some (.Name x p)) (some n) (b :: bs) q :: r) ((some (i, m), g, h) :: l) ((c, tAs i (tsA [] X.K m h)) :: l')
theorem HdsMN.ok {hds : List ExceptHandler} {l : Hn} {l' : List (Value × (Addr -> Value -> Option Addr -> TS))} (h : HdsMN X hds l l') : HdsN X hds l' := by
  induction h with
  | nil => exact .nil
  | plain hc hg hsu r ih => exact .plain hc (j8' hsu) ih
  | named hN hi hln hc hg hsu r ih =>
    refine .named hN hi hln hc (fun a oe cls d pn hz hf => ⟨fun pins s σ H D I q => ?_⟩) ih
    obtain ⟨e, rfl, q⟩ := q
    exact (hsu e a oe d pn hz hf).run pins s σ H D I q
end
end S
namespace S
open PySem PySem.Spec PyProof.Rows L2
variable [Wd]
structure LamOk (P : Program) (w : World) (K : PySem.W.Frag) (mg : Str -> Option Value) (base : Heap) (k : Nat) (cl : List (Str × Addr)) (fr : List Str) (c : CloD) (U : M.MF) : Prop where
  isfn : ∀ h : Heap, h.get? c.f = some c.ob -> PySem.W.FnAt c.f h
  run : ∀ (A : Around) (outer : List Env) (s : Shared) (H : Hp) (us : List Value) (vs : List V) (Q : VK) (E : XK), RoomG k A -> Env0 P w K mg base A outer s H →
    NdefX.CellsAt cl fr (c.ws.map some) s.heap H -> Vals vs us →
    (∃ ds w' F T fp, FzA K F T vs ds /\ CloAt K F T c /\ n3' K w' H F T fp /\ sw' K Q E F T fp (U ds w')) -> codeAny (model P w) A (.call (.ref c.f) ⟨us, []⟩) (CR (L2.CX P w) outer P w H s Q E) s
theorem LamOk.mono {P : Program} {w : World} {K : PySem.W.Frag} {mg : Str -> Option Value} {base : Heap} {j k : Nat} {cl : List (Str × Addr)} {fr : List Str} {c : CloD} {U : M.MF} (h : LamOk P w K mg base j cl fr c U) (l : j <= k) : LamOk P w K mg base k cl fr c U :=
  ⟨h.isfn, fun A o s H us vs Q E hr => h.run A o s H us vs Q E (hr.mono l)⟩
section
variable {P : Program} {w : World} {K : PySem.W.Frag} {mg : Str -> Option Value} {base : Heap}
end
inductive ArgK (K : PySem.W.Frag) (F : Hp) (T : List Addr) : List Bool -> List V -> List M.D -> List CloD -> Prop
  | nil : ArgK K F T [] [] [] []
  | dat {m : List Bool} {v : V} {vs : List V} {d : M.D} {ds : List M.D} {cs : List CloD} : Fz K F T v d -> ArgK K F T m vs ds cs -> ArgK K F T (false :: m) (v :: vs) (d :: ds) cs
  | clo {m : List Bool} {vs : List V} {ds : List M.D} {c : CloD} {cs : List CloD} : CloAt K F T c -> ArgK K F T m vs ds cs -> ArgK K F T (true :: m) (.ref c.f :: vs) ds (c :: cs)
theorem ArgK.mono {K : PySem.W.Frag} {F F' : Hp} {T T' : List Addr} (e : Ext F T F' T') {m : List Bool} {vs : List V} {ds : List M.D} {cs : List CloD} (h : ArgK K F T m vs ds cs) : ArgK K F' T' m vs ds cs := by
  induction h with
  | nil => exact .nil
  | dat z _ ih => exact .dat (z.mono e) ih
  | clo z _ ih => exact .clo (z.mono e) ih
section
variable [Hot] {X : Cx} {W : WX} {k : Nat} {e : Expr} {es : List Expr} {a : M.ME} {as : List M.AK}
end
structure FnK (P : Program) (w : World) (K : PySem.W.Frag) (mg : Str -> Option Value) (base : Heap) (k : Nat) (f : Addr) (fd : FuncData) (ps : List Str) (kc : Nat) (mask : List Bool) (m : List M.MF -> M.MF) : Prop where
  len : mask.length = ps.length
  run : ∀ (A : Around) (outer : List Env) (s : Shared) (H : Hp) (args : Args) (us : List Value) (vs : List V) (Q : VK) (E : XK), RoomG k A -> Env0 P w K mg base A outer s H -> BindsTo s fd args (ps.zip us) -> Vals vs us →
    (∃ ds cs Us w' F T fr, ArgK K F T mask vs ds cs /\ Paired (fun c U => ∃ cl fr, LamOk P w K mg base kc cl fr c U /\ NdefX.CellsAt cl fr (c.ws.map some) s.heap H) cs Us /\ n3' K w' H F T fr /\ sw' K Q E F T fr (m Us ds w')) →
    codeAny (model P w) A (.call (.ref f) args) (CR (L2.CX P w) outer P w H s Q E) s
theorem ArgK.len {K : PySem.W.Frag} {F : Hp} {T : List Addr} {m : List Bool} {vs : List V} {ds : List M.D} {cs : List CloD} (h : ArgK K F T m vs ds cs) : vs.length = m.length := by
  induction h with
  | nil => rfl
  | dat _ _ ih => exact congrArg (· + 1) ih
  | clo _ _ ih => exact congrArg (· + 1) ih
def sy' : Nat -> List Bool -> List CloD -> List (Nat × CloD)
  | n, true :: m, c :: cs => (n - 1, c) :: sy' (n - 1) m cs
  | n, false :: m, cs => sy' (n - 1) m cs
  | _, _, _ => []
theorem RpE.offs [Hot] {K : PySem.W.Frag} {F : Hp} {T : List Addr} : ∀ r : Nat, RpE K F T (List.replicate r none) (List.replicate r none) []
  | 0 => .nil
  | r + 1 => .off (RpE.offs r)
theorem ArgK.start [Hot] {K : PySem.W.Frag} {F : Hp} {T : List Addr} {r : Nat} : ∀ {m : List Bool} {vs : List V} {ds : List M.D} {cs : List CloD}, ArgK K F T m vs ds cs -> (∀ i c, (i, c) ∈ sy' (m.length + r) m cs -> Hot.clo.lookup i = some c) →
    ∃ env, M.uB' m ds = some env /\ env.length = m.length /\ RpE K F T (vs.map some ++ List.replicate r none) (env ++ List.replicate r none) []
  | _, _, _, _, .nil, _ => ⟨[], rfl, rfl, RpE.offs r⟩
  | _, _, _, _, @ArgK.dat _ _ _ _ m v vs d ds cs z a, h => by
    obtain ⟨env, h1, h2, h3⟩ := ArgK.start (r := r) a fun i c hi => h i c (by
      show (i, c) ∈ sy' (m.length + 1 + r - 1) m cs
      rwa [show m.length + 1 + r - 1 = m.length + r by omega])
    exact ⟨some (.fz d) :: env, by show (M.uB' m ds).map _ = _; rw [h1]; rfl, congrArg (· + 1) h2, RpE.on (fp := []) (fq := []) (.fz z) h3⟩
  | _, _, _, _, @ArgK.clo _ _ _ _ m vs ds c cs z a, h => by
    have e1 : m.length + 1 + r - 1 = m.length + r := by omega
    obtain ⟨env, h1, h2, h3⟩ := ArgK.start (r := r) a fun i c' hi => h i c' (by
      show (i, c') ∈ (m.length + 1 + r - 1, c) :: sy' (m.length + 1 + r - 1) m cs
      rw [e1]
      exact List.mem_cons_of_mem _ hi)
    refine ⟨some .clo :: env, by show (M.uB' m ds).map _ = _; rw [h1]; rfl, congrArg (· + 1) h2, RpE.clo ?_ z h3⟩
    show Hot.clo.lookup (env ++ List.replicate r none).length = some c
    rw [List.length_append, List.length_replicate, h2]
    refine h _ c ?_
    show _ ∈ (m.length + 1 + r - 1, c) :: sy' (m.length + 1 + r - 1) m cs
    rw [e1]
    exact List.mem_cons_self
section
variable {P : Program} {w : World} {K : PySem.W.Frag} {mg : Str -> Option Value} {base : Heap}
end
section
variable [Hot] {X : Cx} {W : WX} {k kc : Nat} {x : Str} {ps : List Str} {p pos : Pos} {e : Expr} {es : List Expr} {as : List M.AK} {m : List M.MF -> M.MF}
end
section
variable [Hot] {X : Cx} {W : WX} {kc i : Nat} {x : Str} {p pos : Pos} {e : Expr} {es : List Expr} {as : M.MA} {U : M.MF}
end
end S
namespace S
open PySem PySem.Spec PyProof.Rows L2
variable [Wd] [Hot]
section
variable {K : PySem.W.Frag}
end
end S
namespace S
open PySem PySem.Spec PyProof.Rows L2
variable [Wd] [Hot]
section
variable {X : Cx} {W : WX} {pos p : Pos} {x : Str} {a : Expr} {σ : St} {H : Hp} {Q : VK}
end
end S
namespace S
open PySem PySem.Spec PyProof.Rows L2
variable [Wd] [Hot]
section
variable {K : PySem.W.Frag} {W : WX} {σ : St} {H : Hp} {D : Ends}
end
section
variable {X : Cx} {W : WX} {pos : Pos} {tg e : Expr} {body : List Stmt} {sl : List Nat} {a : M.ME} {g : M.MG} {m1 : M.MS}
end
end S
namespace S
open PySem PySem.Spec PyProof.Rows L2
variable [Wd] [Hot]
section
variable {K : PySem.W.Frag} {W : WX} {σ : St} {H : Hp} {D : Ends} {ρ : M.PSt} {F : Hp} {T : List Addr} {fr : Fp}
end
section
variable {X : Cx} {W : WX} {pos : Pos} {elt tg iter : Expr} {ifs : List Expr} {scope : Scope} {own : List (Str × Nat)} {sl : List Nat} {it : M.MI} {g : M.MG} {t : M.MT} {e : M.MO}
end
end S
namespace S
open PySem PySem.Spec PyProof.Rows L2
variable [Wd] [Hot]
section
variable {K : PySem.W.Frag} {W : WX} {σ : St} {H : Hp} {D : Ends} {ρ : M.PSt} {F : Hp} {T : List Addr} {fr : Fp}
end
section
variable {X : Cx} {W : WX} {pos px qx epos apos cpos : Pos} {tg a : Expr} {nm x : Str} {i r : Nat} {v : V} {d : M.D}
end
end S
namespace S
open PySem PySem.Spec PyProof.Rows L2
structure Ctx [Wd] (w : World) (K : PySem.W.Frag) (mg : Str -> Option Value) : Prop where
  says : ∃ (h : Heap), He.SaysX fas fns tbs [] exK w h K
  inn : ∃ h : Heap, K.In h /\ h.Ns mainGlobals mg
  file : Wd.P.main.file = "/claim/cut.py"
  nosup : (Wd.P.main.scope.names.lookup ("super" : Str)).isSome = false
section
variable [Wd] {w : World} {K : PySem.W.Frag} {mg : Str -> Option Value}
theorem Ctx.d (C : Ctx w K mg) : He.SaysD fas fns K := by
  obtain ⟨h, s⟩ := C.says
  exact s.t.d
theorem Ctx.more (C : Ctx w K mg) (i : Nat) {f : PySem.W.Frag -> Bool} (e : exs[i]? = some f) : f K = true := by
  obtain ⟨h, s⟩ := C.says
  exact List.all_eq_true.mp s.more f (List.mem_of_getElem? e)
theorem Ctx.glo (C : Ctx w K mg) {x : Str} (i : Nat) (h : fas[i]? = some (.glo x)) : mg x = some (.ref (He.ga K x)) := by
  obtain ⟨hp, X, G⟩ := C.inn
  exact He.glo_ok X G (C.d.fact i h)
theorem Ctx.g_is_integer (C : Ctx w K mg) : mg "is_integer" = some (.ref (He.ga K "is_integer")) := C.glo 0 rfl
theorem Ctx.g_is_string_of (C : Ctx w K mg) : mg "is_string_of" = some (.ref (He.ga K "is_string_of")) := C.glo 1 rfl
theorem Ctx.g_is_ascending (C : Ctx w K mg) : mg "is_ascending" = some (.ref (He.ga K "is_ascending")) := C.glo 2 rfl
theorem Ctx.g_is_choice (C : Ctx w K mg) : mg "is_choice" = some (.ref (He.ga K "is_choice")) := C.glo 3 rfl
theorem Ctx.g_are_states (C : Ctx w K mg) : mg "are_states" = some (.ref (He.ga K "are_states")) := C.glo 4 rfl
theorem Ctx.g_is_table (C : Ctx w K mg) : mg "is_table" = some (.ref (He.ga K "is_table")) := C.glo 5 rfl
theorem Ctx.g__law_hand (C : Ctx w K mg) : mg "_law_hand" = some (.ref (He.ga K "_law_hand")) := C.glo 6 rfl
theorem Ctx.g__law_draw (C : Ctx w K mg) : mg "_law_draw" = some (.ref (He.ga K "_law_draw")) := C.glo 7 rfl
theorem Ctx.g__law_letters (C : Ctx w K mg) : mg "_law_letters" = some (.ref (He.ga K "_law_letters")) := C.glo 8 rfl
theorem Ctx.g__law_rows (C : Ctx w K mg) : mg "_law_rows" = some (.ref (He.ga K "_law_rows")) := C.glo 9 rfl
theorem Ctx.g__law_shuffled (C : Ctx w K mg) : mg "_law_shuffled" = some (.ref (He.ga K "_law_shuffled")) := C.glo 10 rfl
theorem Ctx.g__law_parts (C : Ctx w K mg) : mg "_law_parts" = some (.ref (He.ga K "_law_parts")) := C.glo 11 rfl
theorem Ctx.g__law_odd (C : Ctx w K mg) : mg "_law_odd" = some (.ref (He.ga K "_law_odd")) := C.glo 12 rfl
theorem Ctx.g__law_signs (C : Ctx w K mg) : mg "_law_signs" = some (.ref (He.ga K "_law_signs")) := C.glo 13 rfl
theorem Ctx.g__law_is_whole (C : Ctx w K mg) : mg "_law_is_whole" = some (.ref (He.ga K "_law_is_whole")) := C.glo 14 rfl
theorem Ctx.g__law_is_states (C : Ctx w K mg) : mg "_law_is_states" = some (.ref (He.ga K "_law_is_states")) := C.glo 15 rfl
theorem Ctx.g__law_fault (C : Ctx w K mg) : mg "_law_fault" = some (.ref (He.ga K "_law_fault")) := C.glo 16 rfl
theorem Ctx.g__law_bad_letters (C : Ctx w K mg) : mg "_law_bad_letters" = some (.ref (He.ga K "_law_bad_letters")) := C.glo 17 rfl
theorem Ctx.g__law_bad_states (C : Ctx w K mg) : mg "_law_bad_states" = some (.ref (He.ga K "_law_bad_states")) := C.glo 18 rfl
theorem Ctx.g__law_bad_table (C : Ctx w K mg) : mg "_law_bad_table" = some (.ref (He.ga K "_law_bad_table")) := C.glo 19 rfl
theorem Ctx.g_law (C : Ctx w K mg) : mg "law" = some (.ref (He.ga K "law")) := C.glo 20 rfl
theorem Ctx.g_NoMachine (C : Ctx w K mg) : mg "NoMachine" = some (.ref (He.ga K "NoMachine")) := C.glo 23 rfl
theorem Ctx.g_Machine (C : Ctx w K mg) : mg "Machine" = some (.ref (He.ga K "Machine")) := C.glo 24 rfl
theorem Ctx.subs (C : Ctx w K mg) : vv' K M.exT := fun e he => of_decide_eq_true (List.all_eq_true.mp (C.more 0 rfl) e he)
theorem Ctx.c_SMALL (C : Ctx w K mg) : ∃ t, mg "SMALL" = some (.str "abcdefghijklmnopqrstuvwxyz" t) := by obtain ⟨h, X, G⟩ := C.inn; exact He.str_ok X G (C.d.fact 25 rfl)
theorem Ctx.free_zip (C : Ctx w K mg) : mg "zip" = none := by obtain ⟨h, X, G⟩ := C.inn; exact He.free_ok X G (C.d.fact 26 rfl)
theorem Ctx.free_range (C : Ctx w K mg) : mg "range" = none := by obtain ⟨h, X, G⟩ := C.inn; exact He.free_ok X G (C.d.fact 27 rfl)
theorem Ctx.free_tuple (C : Ctx w K mg) : mg "tuple" = none := by obtain ⟨h, X, G⟩ := C.inn; exact He.free_ok X G (C.d.fact 28 rfl)
theorem Ctx.free_list (C : Ctx w K mg) : mg "list" = none := by obtain ⟨h, X, G⟩ := C.inn; exact He.free_ok X G (C.d.fact 29 rfl)
theorem Ctx.free_all (C : Ctx w K mg) : mg "all" = none := by obtain ⟨h, X, G⟩ := C.inn; exact He.free_ok X G (C.d.fact 30 rfl)
theorem Ctx.free_isinstance (C : Ctx w K mg) : mg "isinstance" = none := by obtain ⟨h, X, G⟩ := C.inn; exact He.free_ok X G (C.d.fact 31 rfl)
theorem Ctx.free_int (C : Ctx w K mg) : mg "int" = none := by obtain ⟨h, X, G⟩ := C.inn; exact He.free_ok X G (C.d.fact 32 rfl)
theorem Ctx.free_str (C : Ctx w K mg) : mg "str" = none := by obtain ⟨h, X, G⟩ := C.inn; exact He.free_ok X G (C.d.fact 33 rfl)
theorem Ctx.free_abs (C : Ctx w K mg) : mg "abs" = none := by obtain ⟨h, X, G⟩ := C.inn; exact He.free_ok X G (C.d.fact 34 rfl)
theorem Ctx.free_len (C : Ctx w K mg) : mg "len" = none := by obtain ⟨h, X, G⟩ := C.inn; exact He.free_ok X G (C.d.fact 35 rfl)
theorem Ctx.free_max (C : Ctx w K mg) : mg "max" = none := by obtain ⟨h, X, G⟩ := C.inn; exact He.free_ok X G (C.d.fact 36 rfl)
theorem Ctx.free_sorted (C : Ctx w K mg) : mg "sorted" = none := by obtain ⟨h, X, G⟩ := C.inn; exact He.free_ok X G (C.d.fact 37 rfl)
theorem Ctx.free_repr (C : Ctx w K mg) : mg "repr" = none := by obtain ⟨h, X, G⟩ := C.inn; exact He.free_ok X G (C.d.fact 38 rfl)
theorem Ctx.free_bool (C : Ctx w K mg) : mg "bool" = none := by obtain ⟨h, X, G⟩ := C.inn; exact He.free_ok X G (C.d.fact 39 rfl)
theorem Ctx.free_min (C : Ctx w K mg) : mg "min" = none := by obtain ⟨h, X, G⟩ := C.inn; exact He.free_ok X G (C.d.fact 40 rfl)
theorem Ctx.cl_Machine (C : Ctx w K mg) : Cls K (He.ga K "Machine") := He.cls_ok (C.d.fact 41 rfl)
theorem Ctx.n_Machine_kept_letters (C : Ctx w K mg) : NoAttr K (He.ga K "Machine") "kept_letters" := He.noat_ok (C.d.fact 42 rfl)
theorem Ctx.n_Machine_kept_table (C : Ctx w K mg) : NoAttr K (He.ga K "Machine") "kept_table" := He.noat_ok (C.d.fact 43 rfl)
theorem Ctx.n_Machine_kept_accepts (C : Ctx w K mg) : NoAttr K (He.ga K "Machine") "kept_accepts" := He.noat_ok (C.d.fact 44 rfl)
theorem Ctx.n_Machine_kept_least (C : Ctx w K mg) : NoAttr K (He.ga K "Machine") "kept_least" := He.noat_ok (C.d.fact 45 rfl)
theorem Ctx.n_Machine_kept_field (C : Ctx w K mg) : NoAttr K (He.ga K "Machine") "kept_field" := He.noat_ok (C.d.fact 46 rfl)
theorem Ctx.n_Machine_kept_lots (C : Ctx w K mg) : NoAttr K (He.ga K "Machine") "kept_lots" := He.noat_ok (C.d.fact 47 rfl)
theorem Ctx.n_Machine_kept_more (C : Ctx w K mg) : NoAttr K (He.ga K "Machine") "kept_more" := He.noat_ok (C.d.fact 48 rfl)
theorem Ctx.mk_Machine (C : Ctx w K mg) : Mk K (He.ga K "Machine") (He.ma K (He.ga K "Machine") "__init__") := He.mkr_ok (C.d.fact 49 rfl)
theorem Ctx.ml_Machine_keep (C : Ctx w K mg) : ig' K ["Machine"] "keep" (He.ma K (He.ga K "Machine") "keep") := by
  intro c h
  rcases List.mem_cons.mp h with rfl | h
  . exact ⟨C.cl_Machine, He.meth_ok (C.d.fact 50 rfl)⟩
  cases h
theorem Ctx.ml_Machine_letters (C : Ctx w K mg) : ig' K ["Machine"] "letters" (He.ma K (He.ga K "Machine") "letters") := by
  intro c h
  rcases List.mem_cons.mp h with rfl | h
  . exact ⟨C.cl_Machine, He.meth_ok (C.d.fact 51 rfl)⟩
  cases h
theorem Ctx.ml_Machine_table (C : Ctx w K mg) : ig' K ["Machine"] "table" (He.ma K (He.ga K "Machine") "table") := by
  intro c h
  rcases List.mem_cons.mp h with rfl | h
  . exact ⟨C.cl_Machine, He.meth_ok (C.d.fact 52 rfl)⟩
  cases h
theorem Ctx.ml_Machine_accepts (C : Ctx w K mg) : ig' K ["Machine"] "accepts" (He.ma K (He.ga K "Machine") "accepts") := by
  intro c h
  rcases List.mem_cons.mp h with rfl | h
  . exact ⟨C.cl_Machine, He.meth_ok (C.d.fact 53 rfl)⟩
  cases h
theorem Ctx.sup_NoMachine (C : Ctx w K mg) : SupF Wd.P.main.file K (He.ga K "NoMachine") (He.ma K (He.ga K "NoMachine") "__init__") "part" := by
  rw [C.file]
  exact qV' (C.more 1 rfl)
theorem Ctx.sysm (C : Ctx w K mg) : sJ' K := Option.isSome_iff_exists.mp (C.more 2 rfl)
theorem Ctx.free_super (C : Ctx w K mg) : mg "super" = none := by obtain ⟨h, X, G⟩ := C.inn; exact He.free_ok X G (C.d.fact 54 rfl)
theorem Ctx.xf_part (C : Ctx w K mg) : xB' K ["NoMachine"] "part" := n4' (C.more 3 rfl)
theorem Ctx.at_kept_letters (C : Ctx w K mg) : ∀ c ∈ ["Machine"], Cls K (He.ga K (Str.ofString c)) /\ NoAttr K (He.ga K (Str.ofString c)) (Str.ofString "kept_letters") := by
  intro c h
  rcases List.mem_cons.mp h with rfl | h
  . exact ⟨C.cl_Machine, C.n_Machine_kept_letters⟩
  cases h
theorem Ctx.at_kept_table (C : Ctx w K mg) : ∀ c ∈ ["Machine"], Cls K (He.ga K (Str.ofString c)) /\ NoAttr K (He.ga K (Str.ofString c)) (Str.ofString "kept_table") := by
  intro c h
  rcases List.mem_cons.mp h with rfl | h
  . exact ⟨C.cl_Machine, C.n_Machine_kept_table⟩
  cases h
theorem Ctx.at_kept_accepts (C : Ctx w K mg) : ∀ c ∈ ["Machine"], Cls K (He.ga K (Str.ofString c)) /\ NoAttr K (He.ga K (Str.ofString c)) (Str.ofString "kept_accepts") := by
  intro c h
  rcases List.mem_cons.mp h with rfl | h
  . exact ⟨C.cl_Machine, C.n_Machine_kept_accepts⟩
  cases h
theorem Ctx.at_kept_least (C : Ctx w K mg) : ∀ c ∈ ["Machine"], Cls K (He.ga K (Str.ofString c)) /\ NoAttr K (He.ga K (Str.ofString c)) (Str.ofString "kept_least") := by
  intro c h
  rcases List.mem_cons.mp h with rfl | h
  . exact ⟨C.cl_Machine, C.n_Machine_kept_least⟩
  cases h
theorem Ctx.at_kept_field (C : Ctx w K mg) : ∀ c ∈ ["Machine"], Cls K (He.ga K (Str.ofString c)) /\ NoAttr K (He.ga K (Str.ofString c)) (Str.ofString "kept_field") := by
  intro c h
  rcases List.mem_cons.mp h with rfl | h
  . exact ⟨C.cl_Machine, C.n_Machine_kept_field⟩
  cases h
theorem Ctx.at_kept_lots (C : Ctx w K mg) : ∀ c ∈ ["Machine"], Cls K (He.ga K (Str.ofString c)) /\ NoAttr K (He.ga K (Str.ofString c)) (Str.ofString "kept_lots") := by
  intro c h
  rcases List.mem_cons.mp h with rfl | h
  . exact ⟨C.cl_Machine, C.n_Machine_kept_lots⟩
  cases h
theorem Ctx.at_kept_more (C : Ctx w K mg) : ∀ c ∈ ["Machine"], Cls K (He.ga K (Str.ofString c)) /\ NoAttr K (He.ga K (Str.ofString c)) (Str.ofString "kept_more") := by
  intro c h
  rcases List.mem_cons.mp h with rfl | h
  . exact ⟨C.cl_Machine, C.n_Machine_kept_more⟩
  cases h
theorem Ctx.f_is_integer (C : Ctx w K mg) : ∃ fd, FunD K "is_integer" "is_integer" (defArgs aT') (defBody aT') (defScope aT') [] [] (He.ga K "is_integer") fd := C.d.def_ 0 (d := di') rfl
theorem h5' {f : Addr} {fd : FuncData} (F : FunD K "is_integer" "is_integer" (defArgs aT') (defBody aT') (defScope aT') [] [] f fd) : Binds K fd ["thing"] [] := F.bindsN fun _ _ _ _ _ _ us hl => match us, hl with | [_], _ => rfl
theorem Ctx.f_is_string_of (C : Ctx w K mg) : ∃ fd, FunD K "is_string_of" "is_string_of" (defArgs aG') (defBody aG') (defScope aG') [] [] (He.ga K "is_string_of") fd := C.d.def_ 1 (d := cu') rfl
theorem fg' {f : Addr} {fd : FuncData} (F : FunD K "is_string_of" "is_string_of" (defArgs aG') (defBody aG') (defScope aG') [] [] f fd) : Binds K fd ["thing", "signs"] [] := F.bindsN fun _ _ _ _ _ _ us hl => match us, hl with | [_, _], _ => rfl
theorem Ctx.f_is_ascending (C : Ctx w K mg) : ∃ fd, FunD K "is_ascending" "is_ascending" (defArgs aH') (defBody aH') (defScope aH') [] [] (He.ga K "is_ascending") fd := C.d.def_ 2 (d := cv') rfl
theorem fh' {f : Addr} {fd : FuncData} (F : FunD K "is_ascending" "is_ascending" (defArgs aH') (defBody aH') (defScope aH') [] [] f fd) : Binds K fd ["thing"] [] := F.bindsN fun _ _ _ _ _ _ us hl => match us, hl with | [_], _ => rfl
theorem Ctx.f_is_choice (C : Ctx w K mg) : ∃ fd, FunD K "is_choice" "is_choice" (defArgs a5') (defBody a5') (defScope a5') [] [] (He.ga K "is_choice") fd := C.d.def_ 3 (d := dS') rfl
theorem i2' {f : Addr} {fd : FuncData} (F : FunD K "is_choice" "is_choice" (defArgs a5') (defBody a5') (defScope a5') [] [] f fd) : Binds K fd ["thing", "signs"] [] := F.bindsN fun _ _ _ _ _ _ us hl => match us, hl with | [_, _], _ => rfl
theorem Ctx.f_are_states (C : Ctx w K mg) : ∃ fd, FunD K "are_states" "are_states" (defArgs aU') (defBody aU') (defScope aU') [] [] (He.ga K "are_states") fd := C.d.def_ 4 (d := dj') rfl
theorem h6' {f : Addr} {fd : FuncData} (F : FunD K "are_states" "are_states" (defArgs aU') (defBody aU') (defScope aU') [] [] f fd) : Binds K fd ["thing", "many"] [] := F.bindsN fun _ _ _ _ _ _ us hl => match us, hl with | [_, _], _ => rfl
theorem Ctx.f_is_table (C : Ctx w K mg) : ∃ fd, FunD K "is_table" "is_table" (defArgs bb') (defBody bb') (defScope bb') [] [] (He.ga K "is_table") fd := C.d.def_ 5 (d := eQ') rfl
theorem ld' {f : Addr} {fd : FuncData} (F : FunD K "is_table" "is_table" (defArgs bb') (defBody bb') (defScope bb') [] [] f fd) : Binds K fd ["thing", "letters"] [] := F.bindsN fun _ _ _ _ _ _ us hl => match us, hl with | [_, _], _ => rfl
theorem Ctx.f_Machine___init__ (C : Ctx w K mg) : ∃ fd, FunD K "__init__" "Machine.__init__" (defArgs as') (defBody as') (defScope as') [] [] (He.ma K (He.ga K "Machine") "__init__") fd := C.d.def_ 6 (d := bM') rfl
theorem do' {f : Addr} {fd : FuncData} (F : FunD K "__init__" "Machine.__init__" (defArgs as') (defBody as') (defScope as') [] [] f fd) : Binds K fd ["self", "letters", "table", "accepts"] [] := F.bindsN fun _ _ _ _ _ _ us hl => match us, hl with | [_, _, _, _], _ => rfl
theorem Ctx.f_Machine_keep (C : Ctx w K mg) : ∃ fd, FunD K "keep" "Machine.keep" (defArgs aJ') (defBody aJ') (defScope aJ') [] [] (He.ma K (He.ga K "Machine") "keep") fd := C.d.def_ 7 (d := cx') rfl
theorem fj' {f : Addr} {fd : FuncData} (F : FunD K "keep" "Machine.keep" (defArgs aJ') (defBody aJ') (defScope aJ') [] [] f fd) : Binds K fd ["self", "letters", "table", "accepts"] [] := F.bindsN fun _ _ _ _ _ _ us hl => match us, hl with | [_, _, _, _], _ => rfl
theorem Ctx.f_Machine_letters (C : Ctx w K mg) : ∃ fd, FunD K "letters" "Machine.letters" (defArgs ax') (defBody ax') (defScope ax') [] [] (He.ma K (He.ga K "Machine") "letters") fd := C.d.def_ 8 (d := bR') rfl
theorem dH' {f : Addr} {fd : FuncData} (F : FunD K "letters" "Machine.letters" (defArgs ax') (defBody ax') (defScope ax') [] [] f fd) : Binds K fd ["self"] [] := F.bindsN fun _ _ _ _ _ _ us hl => match us, hl with | [_], _ => rfl
theorem Ctx.f_Machine_table (C : Ctx w K mg) : ∃ fd, FunD K "table" "Machine.table" (defArgs aD') (defBody aD') (defScope aD') [] [] (He.ma K (He.ga K "Machine") "table") fd := C.d.def_ 9 (d := ci') rfl
theorem eW' {f : Addr} {fd : FuncData} (F : FunD K "table" "Machine.table" (defArgs aD') (defBody aD') (defScope aD') [] [] f fd) : Binds K fd ["self"] [] := F.bindsN fun _ _ _ _ _ _ us hl => match us, hl with | [_], _ => rfl
theorem Ctx.f_Machine_accepts (C : Ctx w K mg) : ∃ fd, FunD K "accepts" "Machine.accepts" (defArgs ay') (defBody ay') (defScope ay') [] [] (He.ma K (He.ga K "Machine") "accepts") fd := C.d.def_ 10 (d := bS') rfl
theorem dI' {f : Addr} {fd : FuncData} (F : FunD K "accepts" "Machine.accepts" (defArgs ay') (defBody ay') (defScope ay') [] [] f fd) : Binds K fd ["self"] [] := F.bindsN fun _ _ _ _ _ _ us hl => match us, hl with | [_], _ => rfl
theorem Ctx.f__law_hand (C : Ctx w K mg) : ∃ fd, FunD K "_law_hand" "_law_hand" (defArgs aZ') (defBody aZ') (defScope aZ') [] [] (He.ga K "_law_hand") fd := C.d.def_ 11 (d := dU') rfl
theorem i4' {f : Addr} {fd : FuncData} (F : FunD K "_law_hand" "_law_hand" (defArgs aZ') (defBody aZ') (defScope aZ') [] [] f fd) : Binds K fd ["_law_script"] [] := F.bindsN fun _ _ _ _ _ _ us hl => match us, hl with | [_], _ => rfl
theorem Ctx.f__law_draw (C : Ctx w K mg) : ∃ fd, FunD K "_law_draw" "_law_draw" (defArgs a6') (defBody a6') (defScope a6') [] [] (He.ga K "_law_draw") fd := C.d.def_ 12 (d := dV') rfl
theorem i5' {f : Addr} {fd : FuncData} (F : FunD K "_law_draw" "_law_draw" (defArgs a6') (defBody a6') (defScope a6') [] [] f fd) : Binds K fd ["_law_hand_here", "_law_many"] [] := F.bindsN fun _ _ _ _ _ _ us hl => match us, hl with | [_, _], _ => rfl
theorem Ctx.f__law_letters (C : Ctx w K mg) : ∃ fd, FunD K "_law_letters" "_law_letters" (defArgs aI') (defBody aI') (defScope aI') [] [] (He.ga K "_law_letters") fd := C.d.def_ 13 (d := cw') rfl
theorem fi' {f : Addr} {fd : FuncData} (F : FunD K "_law_letters" "_law_letters" (defArgs aI') (defBody aI') (defScope aI') [] [] f fd) : Binds K fd ["_law_hand_here", "_law_signs_here", "_law_many"] [] := F.bindsN fun _ _ _ _ _ _ us hl => match us, hl with | [_, _, _], _ => rfl
theorem Ctx.f__law_rows (C : Ctx w K mg) : ∃ fd, FunD K "_law_rows" "_law_rows" (defArgs aS') (defBody aS') (defScope aS') [] [] (He.ga K "_law_rows") fd := C.d.def_ 14 (d := dT') rfl
theorem i3' {f : Addr} {fd : FuncData} (F : FunD K "_law_rows" "_law_rows" (defArgs aS') (defBody aS') (defScope aS') [] [] f fd) : Binds K fd ["_law_hand_here", "_law_kind", "_law_size", "_law_many"] [] := F.bindsN fun _ _ _ _ _ _ us hl => match us, hl with | [_, _, _, _], _ => rfl
theorem Ctx.f__law_shuffled (C : Ctx w K mg) : ∃ fd, FunD K "_law_shuffled" "_law_shuffled" (defArgs aB') (defBody aB') (defScope aB') [] [] (He.ga K "_law_shuffled") fd := C.d.def_ 15 (d := cg') rfl
theorem eU' {f : Addr} {fd : FuncData} (F : FunD K "_law_shuffled" "_law_shuffled" (defArgs aB') (defBody aB') (defScope aB') [] [] f fd) : Binds K fd ["_law_hand_here", "_law_things"] [] := F.bindsN fun _ _ _ _ _ _ us hl => match us, hl with | [_, _], _ => rfl
theorem Ctx.f__law_parts (C : Ctx w K mg) : ∃ fd, FunD K "_law_parts" "_law_parts" (defArgs aN') (defBody aN') (defScope aN') [] [] (He.ga K "_law_parts") fd := C.d.def_ 16 (d := dl') rfl
theorem h8' {f : Addr} {fd : FuncData} (F : FunD K "_law_parts" "_law_parts" (defArgs aN') (defBody aN') (defScope aN') [] [] f fd) : Binds K fd ["_law_hand_here", "_law_most", "_law_states"] [] := F.bindsN fun _ _ _ _ _ _ us hl => match us, hl with | [_, _, _], _ => rfl
theorem Ctx.f__law_odd (C : Ctx w K mg) : ∃ fd, FunD K "_law_odd" "_law_odd" (defArgs bc') (defBody bc') (defScope bc') [] [] (He.ga K "_law_odd") fd := C.d.def_ 17 (d := eR') rfl
theorem le' {f : Addr} {fd : FuncData} (F : FunD K "_law_odd" "_law_odd" (defArgs bc') (defBody bc') (defScope bc') [] [] f fd) : Binds K fd ["_law_hand_here"] [] := F.bindsN fun _ _ _ _ _ _ us hl => match us, hl with | [_], _ => rfl
theorem Ctx.f__law_signs (C : Ctx w K mg) : ∃ fd, FunD K "_law_signs" "_law_signs" (defArgs aV') (defBody aV') (defScope aV') [] [] (He.ga K "_law_signs") fd := C.d.def_ 18 (d := dk') rfl
theorem h7' {f : Addr} {fd : FuncData} (F : FunD K "_law_signs" "_law_signs" (defArgs aV') (defBody aV') (defScope aV') [] [] f fd) : Binds K fd ["_law_hand_here", "_law_many"] [] := F.bindsN fun _ _ _ _ _ _ us hl => match us, hl with | [_, _], _ => rfl
theorem Ctx.f__law_is_whole (C : Ctx w K mg) : ∃ fd, FunD K "_law_is_whole" "_law_is_whole" (defArgs aC') (defBody aC') (defScope aC') [] [] (He.ga K "_law_is_whole") fd := C.d.def_ 19 (d := ch') rfl
theorem eV' {f : Addr} {fd : FuncData} (F : FunD K "_law_is_whole" "_law_is_whole" (defArgs aC') (defBody aC') (defScope aC') [] [] f fd) : Binds K fd ["_law_thing"] [] := F.bindsN fun _ _ _ _ _ _ us hl => match us, hl with | [_], _ => rfl
theorem Ctx.f__law_is_states (C : Ctx w K mg) : ∃ fd, FunD K "_law_is_states" "_law_is_states" (defArgs av') (defBody av') (defScope av') [] [] (He.ga K "_law_is_states") fd := C.d.def_ 20 (d := b6') rfl
theorem d4' {f : Addr} {fd : FuncData} (F : FunD K "_law_is_states" "_law_is_states" (defArgs av') (defBody av') (defScope av') [] [] f fd) : Binds K fd ["_law_thing", "_law_many"] [] := F.bindsN fun _ _ _ _ _ _ us hl => match us, hl with | [_, _], _ => rfl
theorem Ctx.f__law_fault (C : Ctx w K mg) : ∃ fd, FunD K "_law_fault" "_law_fault" (defArgs aW') (defBody aW') (defScope aW') [] [] (He.ga K "_law_fault") fd := C.d.def_ 21 (d := dm') rfl
theorem h9' {f : Addr} {fd : FuncData} (F : FunD K "_law_fault" "_law_fault" (defArgs aW') (defBody aW') (defScope aW') [] [] f fd) : Binds K fd ["_law_letters_here", "_law_table", "_law_accepts"] [] := F.bindsN fun _ _ _ _ _ _ us hl => match us, hl with | [_, _, _], _ => rfl
theorem Ctx.f__law_bad_letters (C : Ctx w K mg) : ∃ fd, FunD K "_law_bad_letters" "_law_bad_letters" (defArgs ar') (defBody ar') (defScope ar') [] [] (He.ga K "_law_bad_letters") fd := C.d.def_ 22 (d := bL') rfl
theorem dn' {f : Addr} {fd : FuncData} (F : FunD K "_law_bad_letters" "_law_bad_letters" (defArgs ar') (defBody ar') (defScope ar') [] [] f fd) : Binds K fd ["_law_hand_here", "_law_letters_here"] [] := F.bindsN fun _ _ _ _ _ _ us hl => match us, hl with | [_, _], _ => rfl
theorem Ctx.f__law_bad_states (C : Ctx w K mg) : ∃ fd, FunD K "_law_bad_states" "_law_bad_states" (defArgs aw') (defBody aw') (defScope aw') [] [] (He.ga K "_law_bad_states") fd := C.d.def_ 23 (d := bQ') rfl
theorem dG' {f : Addr} {fd : FuncData} (F : FunD K "_law_bad_states" "_law_bad_states" (defArgs aw') (defBody aw') (defScope aw') [] [] f fd) : Binds K fd ["_law_hand_here", "_law_states", "_law_many"] [] := F.bindsN fun _ _ _ _ _ _ us hl => match us, hl with | [_, _, _], _ => rfl
theorem Ctx.f__law_bad_table (C : Ctx w K mg) : ∃ fd, FunD K "_law_bad_table" "_law_bad_table" (defArgs az') (defBody az') (defScope az') [] [] (He.ga K "_law_bad_table") fd := C.d.def_ 24 (d := b7') rfl
theorem d5' {f : Addr} {fd : FuncData} (F : FunD K "_law_bad_table" "_law_bad_table" (defArgs az') (defBody az') (defScope az') [] [] f fd) : Binds K fd ["_law_hand_here", "_law_table"] [] := F.bindsN fun _ _ _ _ _ _ us hl => match us, hl with | [_, _], _ => rfl
theorem Ctx.f_law (C : Ctx w K mg) : ∃ fd, FunD K "law" "law" (defArgs e6') (defBody e6') (defScope e6') [] [] (He.ga K "law") fd := C.d.def_ 25 (d := qu') rfl
end
end S
namespace M
structure En where
  nx : PSt -> Prop
  rt : O -> W -> Prop
  bk : PSt -> Prop
  ct : PSt -> Prop
  ex : Exc -> PSt -> Prop
def vE {α : Type} (r : Res α) (Q : α -> PSt -> Prop) (X : Exc -> PSt -> Prop) : Prop := match r with
  | .ok a ρ => Q a ρ
  | .exc x ρ => X x ρ
  | .bad => False
def vS (o : Out) (D : En) : Prop := match o with
  | .nx ρ => D.nx ρ
  | .rt o w => D.rt o w
  | .bk ρ => D.bk ρ
  | .ct ρ => D.ct ρ
  | .exc x ρ => D.ex x ρ
  | .bad => False
def vF (r : FRes) (Q : O -> W -> Prop) (X : Exc -> W -> Prop) : Prop := match r with
  | .ok o w => Q o w
  | .exc x w => X x w
  | .bad => False
def vD {α : Type} (o : Option α) (Q : α -> Prop) : Prop := match o with
  | some z => Q z
  | none => False
def vI (k : Bool) (A B : Prop) : Prop := if k = true then A else B
def vB (d : D) (P : Bool -> Prop) : Prop := match d with
  | .bl k => P k
  | _ => False
def vT (d : D) (P : Tx -> Prop) : Prop := match d with
  | .str s => P s
  | _ => False
def vN (d : D) (P : Int -> Prop) : Prop := match d with
  | .int s => P s
  | _ => False
def vV (o : Option (Option O)) (i : Nat) (ρ : PSt) (Q : D -> PSt -> Prop) : Prop := match o with
  | some (some (.fz d)) => Q d ρ
  | some (some .exn) => False
  | some (some .clo) => False
  | some (some o) => Q (frz o) ⟨ρ.env.set i (some (.fz (frz o))), ρ.w⟩
  | _ => False
def vG (o : Option (Option O)) (i : Nat) (ρ : PSt) (Q : O -> PSt -> Prop) : Prop := match o with
  | some (some (.fz d)) => Q (.fz d) ρ
  | some (some .exn) => False
  | some (some .clo) => False
  | some (some o) => Q o ⟨ρ.env.set i none, ρ.w⟩
  | _ => False
def vO (o : Option (Option O)) (Q : O -> Prop) : Prop := match o with
  | some (some o) => Q o
  | _ => False
def vL (o : Option (Option O)) (Q : List O -> Prop) : Prop := match o with
  | some (some (.lst os)) => Q os
  | _ => False
def asF : O -> Option D
  | .fz d => some d
  | _ => none
def asL : D -> Option (List D)
  | .lst ds => some ds
  | _ => none
abbrev FX : Exc -> W -> Prop := fun _ _ => False
abbrev PX : Exc -> PSt -> Prop := fun _ _ => False
section
variable {α β : Type} {Q : α -> PSt -> Prop} {X : Exc -> PSt -> Prop} {ρ : PSt} {P : D -> PSt -> Prop} {D0 : En}
theorem ah' (r : Res β) (f : β -> PSt -> Res α) : vE (r.bind f) Q X = vE r (fun b ρ => vE (f b ρ) Q X) X := by cases r <;> rfl
theorem bz' (r : Res β) (f : β -> PSt -> Out) : vS (r.out f) D0 = vE r (fun b ρ => vS (f b ρ) D0) D0.ex := by cases r <;> rfl
theorem bd' (o : Option α) : vE (ofO o ρ) Q X = vD o (fun z => Q z ρ) := by cases o <;> rfl
theorem el' (a : α) : vE (.ok a ρ) Q X = Q a ρ := rfl
theorem ea' (d : D) {Q : Bool -> PSt -> Prop} : vE (asB d ρ) Q X = vB d (fun k => Q k ρ) := by cases d <;> rfl
theorem d9' (k : Bool) (a b : Res α) : vE (if k = true then a else b) Q X = vI k (vE a Q X) (vE b Q X) := by cases k <;> rfl
theorem og' (k : Bool) (a b : Out) : vS (if k = true then a else b) D0 = vI k (vS a D0) (vS b D0) := by cases k <;> rfl
theorem gJ' (z : α) {Q : α -> Prop} : vD (some z) Q = Q z := rfl
theorem lE' (k : Bool) {Q : Bool -> Prop} : vB (.bl k) Q = Q k := rfl
theorem pR' (A B : Prop) : vI true A B = A := rfl
theorem pS' (A B : Prop) : vI false A B = B := rfl
theorem jt' (k : Bool) (A B : Prop) : vI (!k) A B = vI k B A := by cases k <;> rfl
theorem td' (d : D) : vE (eC d ρ) P X = P d ρ := rfl
theorem tb' (i : Nat) (env : List (Option O)) (w : W) : vE (eV i ⟨env, w⟩) P X = vV env[i]? i ⟨env, w⟩ P := by
  show vE (match env[i]? with | some (some (.fz d)) => Res.ok d ⟨env, w⟩ | some (some .exn) => .bad | some (some .clo) => .bad | some (some o) => .ok (frz o) ⟨env.set i (some (.fz (frz o))), w⟩ | _ => .bad) P X = _
  rcases env[i]? with _ | _ | o
  . rfl
  . rfl
  . cases o <;> rfl
theorem ly' (d : D) (i : Nat) (ρ : PSt) : vV (some (some (.fz d))) i ρ P = P d ρ := rfl
theorem jo' (os : List O) (i : Nat) (env : List (Option O)) (w : W) : vV (some (some (.lst os))) i ⟨env, w⟩ P = P (.lst (frzs os)) ⟨env.set i (some (.fz (.lst (frzs os)))), w⟩ := rfl
theorem jn' (os : List O) (i : Nat) (env : List (Option O)) (w : W) : vV (some (some (.tup os))) i ⟨env, w⟩ P = P (.tup (frzs os)) ⟨env.set i (some (.fz (.tup (frzs os)))), w⟩ := rfl
theorem jp' (ks : List D) (os : List O) (i : Nat) (env : List (Option O)) (w : W) : vV (some (some (.dct ks os))) i ⟨env, w⟩ P = P (.dct ks (frzs os)) ⟨env.set i (some (.fz (.dct ks (frzs os)))), w⟩ := rfl
theorem lA' (d : D) (i : Nat) (ρ : PSt) {P : O -> PSt -> Prop} : vG (some (some (.fz d))) i ρ P = P (.fz d) ρ := rfl
theorem jw' (os : List O) (i : Nat) (env : List (Option O)) (w : W) {P : O -> PSt -> Prop} : vG (some (some (.lst os))) i ⟨env, w⟩ P = P (.lst os) ⟨env.set i none, w⟩ := rfl
theorem jv' (os : List O) (i : Nat) (env : List (Option O)) (w : W) {P : O -> PSt -> Prop} : vG (some (some (.tup os))) i ⟨env, w⟩ P = P (.tup os) ⟨env.set i none, w⟩ := rfl
theorem jx' (ks : List D) (os : List O) (i : Nat) (env : List (Option O)) (w : W) {P : O -> PSt -> Prop} : vG (some (some (.dct ks os))) i ⟨env, w⟩ P = P (.dct ks os) ⟨env.set i none, w⟩ := rfl
theorem gH' (o : O) {P : O -> Prop} : vO (some (some o)) P = P o := rfl
theorem js' (os : List O) {P : List O -> Prop} : vL (some (some (.lst os))) P = P os := rfl
theorem pN' (f : D -> D -> Option D) (a b : ME) : vE (eOp f a b ρ) P X = vE (a ρ) (fun x ρ1 => vE (b ρ1) (fun y ρ2 => vD (f x y) (fun z => P z ρ2)) X) X := by simp only [eOp, ah', bd']
theorem pK' (f : D -> Option D) (a : ME) : vE (eUn f a ρ) P X = vE (a ρ) (fun x ρ1 => vD (f x) (fun z => P z ρ1)) X := by simp only [eUn, ah', bd']
theorem lx' (a b : ME) : vE (nD' a b ρ) P X = vE (a ρ) (fun x ρ1 => vB x fun k => vI k (vE (b ρ1) P X) (P (.bl false) ρ1)) X := by simp only [nD', ah', ea', d9', el']
theorem ls' (a : ME) : vE (sH' a ρ) P X = vE (a ρ) (fun x ρ1 => vB x fun k => P (.bl (!k)) ρ1) X := by simp only [sH', ah', ea', el']
theorem gE' (f g : D -> D -> Option D) (a b c : ME) : vE (eP' f g a b c ρ) P X = vE (a ρ) (fun x ρ1 => vE (b ρ1) (fun y ρ2 => vD (f x y) fun r => vB r fun k => vI k (vE (c ρ2) (fun z ρ3 => vD (g y z) fun v => P v ρ3) X) (P (.bl false) ρ2)) X) X := by
  simp only [eP', ah', bd', ea', d9', el']
theorem lt' {P : List D -> PSt -> Prop} : vE (ba' ρ) P X = P [] ρ := rfl
theorem jl' (a : ME) (r : MA) {P : List D -> PSt -> Prop} : vE (ae' a r ρ) P X = vE (a ρ) (fun x ρ1 => vE (r ρ1) (fun xs ρ2 => P (x :: xs) ρ2) X) X := by simp only [ae', ah', el']
def gr' (n : Nat) (A : Prop) : Prop := n <= 16777216 /\ A
theorem gI' {n : Nat} (h : n <= 16777216) (A : Prop) : gr' n A = A := by unfold gr'; simp [h]
theorem lq' (as : MA) : vE (nC' as ρ) P X = vE (as ρ) (fun xs ρ1 => gr' xs.length (P (.tup xs) ρ1)) X := by
  simp only [nC', ah']
  congr
  funext xs ρ1
  unfold gr'
  by_cases h : xs.length <= 16777216
  . rw [if_pos h]; simp [vE, h]
  . rw [if_neg h]; simp [vE, h]
theorem lu' (as : MA) : vE (hH' as ρ) P X = vE (as ρ) (fun xs ρ1 => gr' xs.length (P (.lst xs) ρ1)) X := by
  simp only [hH', ah']
  congr
  funext xs ρ1
  unfold gr'
  by_cases h : xs.length <= 16777216
  . rw [if_pos h]; simp [vE, h]
  . rw [if_neg h]; simp [vE, h]
theorem pP' (f : Tx -> List D -> Option D) (a : ME) (as : MA) : vE (eMt f a as ρ) P X = vE (a ρ) (fun x ρ1 => vT x fun s => vE (as ρ1) (fun ds ρ2 => vD (f s ds) fun z => P z ρ2) X) X := by
  simp only [eMt, ah']
  congr
  funext x ρ1
  cases x <;> simp only [ah', bd'] <;> rfl
theorem jq' (s : Tx) {P : Tx -> Prop} : vT (.str s) P = P s := rfl
theorem jr' (s : Int) {P : Int -> Prop} : vN (.int s) P = P s := rfl
theorem pO' {P : Option Int -> PSt -> Prop} : vE (pNo ρ) P X = P none ρ := rfl
theorem pL' (a : ME) {P : Option Int -> PSt -> Prop} : vE (pSo a ρ) P X = vE (a ρ) (fun x ρ1 => vN x fun i => P (some i) ρ1) X := by
  simp only [pSo, ah']
  congr
  funext x ρ1
  cases x <;> rfl
theorem pM' (a : ME) (lo hi : MP) : vE (eSl a lo hi ρ) P X = vE (a ρ) (fun x ρ1 => vE (lo ρ1) (fun l ρ2 => vE (hi ρ2) (fun h ρ3 => vD (pSl x l h) fun z => P z ρ3) X) X) X := by simp only [eSl, ah', bd']
theorem tc' (a : MO) : vE (eO a ρ) P X = vE (a ρ) (fun o ρ1 => P (frz o) ρ1) X := by simp only [eO, ah', el']
variable {R : O -> PSt -> Prop}
theorem pJ' (a : ME) : vE (oE a ρ) R X = vE (a ρ) (fun d ρ1 => R (.fz d) ρ1) X := by simp only [oE, ah', el']
theorem pI' (i : Nat) (env : List (Option O)) (w : W) : vE (oV i ⟨env, w⟩) R X = vG env[i]? i ⟨env, w⟩ R := by
  show vE (match env[i]? with | some (some (.fz d)) => Res.ok (O.fz d) ⟨env, w⟩ | some (some .exn) => .bad | some (some .clo) => .bad | some (some o) => .ok o ⟨env.set i none, w⟩ | _ => .bad) R X = _
  rcases env[i]? with _ | _ | o
  . rfl
  . rfl
  . cases o <;> rfl
theorem jm' (f : MF) (as : MA) : vE (aO' f as ρ) R X = vE (as ρ) (fun ds ρ1 => vF (f ds ρ1.w) (fun o w => R o ⟨ρ1.env, w⟩) fun x w => X x ⟨ρ1.env, w⟩) X := by
  simp only [aO', ah']
  congr
  funext ds ρ1
  cases f ds ρ1.w <;> rfl
theorem jf' (a : ME) : vE (m5' a ρ) R X = vE (a ρ) (fun d ρ1 => vD (asL d) fun ds => R (.lst (ds.map .fz)) ρ1) X := by
  simp only [m5', ah']
  congr
  funext d ρ1
  cases d <;> rfl
theorem gC' : vE (kZ' ρ) R X = R (.dct [] []) ρ := rfl
theorem gD' (i : Nat) (a : ME) (env : List (Option O)) (w : W) : vE (hG' i a ⟨env, w⟩) P X = vL env[i]? fun _ => vE (a ⟨env, w⟩) (fun d ρ1 => vN d fun z => vL ρ1.env[i]? fun os => gr' os.length (vD (ixn os.length z) fun j => vD os[j]? fun o => vD (asF o) fun y => P y ⟨ρ1.env.set i (some (.lst (os.eraseIdx j))), ρ1.w⟩)) X := by
  show vE (match env[i]? with
  | some (some (.lst _)) => (a ⟨env, w⟩).bind fun d ρ1 => match ρ1.env[i]?, d with
    | some (some (.lst os)), .int z => (match (if os.length <= d7' then ixn os.length z else none) with
      | some j => (match os[j]? with
        | some (.fz y) => .ok y ⟨ρ1.env.set i (some (.lst (os.eraseIdx j))), ρ1.w⟩
        | _ => .bad)
      | none => .bad)
    | _, _ => .bad
  | _ => .bad) P X = _
  rcases env[i]? with _ | _ | o
  . rfl
  . rfl
  cases o with
  | lst os0 =>
    simp only [ah', vL]
    congr
    funext d ρ1
    cases d with
    | int z =>
      simp only [vN]
      rcases ρ1.env[i]? with _ | _ | o
      . rfl
      . rfl
      cases o with
      | lst os =>
        simp only [gr']
        by_cases hl : os.length <= 16777216
        . simp only [hl, if_pos, true_and]
          cases ixn os.length z with
          | none => rfl
          | some j =>
            simp only [vD]
            rcases os[j]? with _ | o
            . rfl
            . cases o <;> rfl
        . simp only [hl, if_neg, false_and]; simp [vE]
      | _ => rfl
    | _ =>
      rcases ρ1.env[i]? with _ | _ | o
      . rfl
      . rfl
      cases o <;> rfl
  | _ => rfl
theorem jk' (i : Nat) : vE (iH' i ρ) P X = vO ρ.env[i]? fun o => vD (nZ' o) fun z => P z ρ := by
  unfold iH'
  rcases ρ.env[i]? with _ | _ | o
  . rfl
  . rfl
  exact bd' _
theorem lv' (a b : ME) : vE (gy' a b ρ) P X = vE (a ρ) (fun x ρ1 => vE (b ρ1) (fun y ρ2 => vD (ixW ρ2.w x y) fun z => P z ρ2) X) X := by simp only [gy', ah', bd']
theorem lr' (as : MA) : vE (t6' as ρ) R X = vE (as ρ) (fun xs ρ1 => gr' xs.length (R (.fz (.obj ρ1.w.length)) ⟨ρ1.env, ρ1.w ++ [.lst (xs.map .fz)]⟩)) X := by
  simp only [t6', ah']
  congr
  funext xs ρ1
  unfold gr'
  by_cases h : xs.length <= 16777216
  . rw [if_pos h]; simp [vE, h]
  . rw [if_neg h]; simp [vE, h]
theorem lw' (cs : List String) (a : ME) (f : String) : vE (qt' cs a f ρ) P X = vE (a ρ) (fun x ρ1 => vD (gx' cs f ρ1.w x) fun z => P z ρ1) X := by simp only [qt', ah', bd']
theorem jj' (C : String) (init : MF) (as : MA) : vE (kY' C init as ρ) R X = vE (as ρ) (fun ds ρ1 => vF (init (.obj ρ1.w.length :: ds) (ρ1.w ++ [.ins C []])) (fun o w => o = .fz .non /\ R (.fz (.obj ρ1.w.length)) ⟨ρ1.env, w⟩) fun x w => X x ⟨ρ1.env, w⟩) X := by
  simp only [kY', ah']
  congr
  funext ds ρ1
  cases init (.obj ρ1.w.length :: ds) (ρ1.w ++ [.ins C []]) with
  | ok o w =>
    cases o with
    | fz d => cases d <;> simp [vE, vF]
    | _ => simp [vE, vF]
  | _ => rfl
theorem ji' (C : List String) (m : String) (f : MF) (a : ME) (as : MA) : vE (e9' C m f a as ρ) R X = vE (a ρ) (fun x ρ1 => dg' C m ρ1.w x = true /\ vE (as ρ1) (fun ds ρ2 => vF (f (x :: ds) ρ2.w) (fun o w => R o ⟨ρ2.env, w⟩) fun x w => X x ⟨ρ2.env, w⟩) X) X := by
  simp only [e9', ah']
  congr
  funext x ρ1
  by_cases h : dg' C m ρ1.w x = true
  . rw [if_pos h]
    simp only [h, true_and, ah']
    congr
    funext ds ρ2
    cases f (x :: ds) ρ2.w <;> rfl
  . rw [if_neg h]
    simp [vE, h]
def vX (o : Option (Option O)) (A : Prop) : Prop := match o with
  | some (some .exn) => A
  | _ => False
theorem ta' (i : Nat) (cs : List String) (f : String) (x : Exc) : vE (eXf i cs f x ρ) P X = vX ρ.env[i]? (x.cls ∈ cs /\ vD (x.fs.lookup f) fun d => P d ρ) := by
  unfold eXf
  rcases ρ.env[i]? with _ | _ | o
  . rfl
  . rfl
  . cases o <;> try rfl
    show vE (if x.cls ∈ cs then _ else _) P X = (x.cls ∈ cs /\ _)
    by_cases h : x.cls ∈ cs
    . rw [if_pos h, bd']; simp only [h, true_and]
    . rw [if_neg h]; simp [h, vE]
variable {B : Bool -> PSt -> Prop}
theorem pH' (a : ME) : vE (tE a ρ) B X = vE (a ρ) (fun d ρ1 => vB d fun k => B k ρ1) X := by simp only [tE, ah', ea']
theorem jd' (a : MT) : vE (fz' a ρ) B X = vE (a ρ) (fun k ρ1 => B (!k) ρ1) X := by simp only [fz', ah', el']
theorem je' (a b : MT) : vE (p5' a b ρ) B X = vE (a ρ) (fun k ρ1 => vI k (vE (b ρ1) B X) (B false ρ1)) X := by simp only [p5', ah', d9', el']
theorem lo' (a b : MT) : vE (tOr a b ρ) B X = vE (a ρ) (fun k ρ1 => vI k (B true ρ1) (vE (b ρ1) B X)) X := by simp only [tOr, ah', d9', el']
theorem pG' : vE (tT ρ) B X = B true ρ := rfl
variable {Y : List D -> PSt -> Prop}
theorem jh' (a : ME) : vE (n0' a ρ) Y X = vE (a ρ) (fun d ρ1 => vD (cM' d) fun z => Y z ρ1) X := by simp only [n0', ah', bd']
theorem en' (a : ME) : vE (br' a ρ) Y X = vE (a ρ) (fun d ρ1 => vD (dy' d) fun z => Y z ρ1) X := by simp only [br', ah', bd']
theorem em' (a b : ME) : vE (eM' a b ρ) Y X = vE (a ρ) (fun d ρ1 => vE (b ρ1) (fun e ρ2 => vD (dx' d e) fun z => Y z ρ2) X) X := by simp only [eM', ah', bd']
theorem jg' (a b : ME) : vE (ut' a b ρ) Y X = vE (a ρ) (fun d ρ1 => vE (b ρ1) (fun e ρ2 => vD (nV' d e) fun z => Y z ρ2) X) X := by simp only [ut', ah', bd']
theorem pQ' (own : List Nat) (it : MI) (g : MG) (t : MT) (e : ME) : vE (eLc own it g t e ρ) P X = vE (it ρ) (fun xs ρ1 => vE (lcL own g t e xs [] ρ1) (fun ys ρ2 => P (.lst ys) ⟨back ρ1.env own (bo' own ρ2.env), ρ2.w⟩) X) X := by simp only [eLc, ah', el']
theorem lp' (own : List Nat) (it : MI) (g : MG) (t : MT) (e : ME) : vE (oLc own it g t e ρ) R X = vE (it ρ) (fun xs ρ1 => vE (lcL own g t e xs [] ρ1) (fun ys ρ2 => R (.lst (ys.map .fz)) ⟨back ρ1.env own (bo' own ρ2.env), ρ2.w⟩) X) X := by simp only [oLc, ah', el']
variable {N : PSt -> Prop} {rt : O -> W -> Prop} {bk ct : PSt -> Prop} {ex : Exc -> PSt -> Prop}
theorem jA' : vS (aM' ρ) ⟨N, rt, bk, ct, ex⟩ = N ρ := rfl
theorem jB' (a : ME) : vS (mH' a ρ) ⟨N, rt, bk, ct, ex⟩ = vE (a ρ) (fun _ ρ1 => N ρ1) ex := by simp only [mH', bz']; rfl
theorem lH' (a : MO) : vS (bn' a ρ) ⟨N, rt, bk, ct, ex⟩ = vE (a ρ) (fun o ρ1 => rt o ρ1.w) ex := by simp only [bn', bz']; rfl
theorem ij' (a b : MS) : vS (aL' a b ρ) ⟨N, rt, bk, ct, ex⟩ = vS (a ρ) ⟨fun ρ1 => vS (b ρ1) ⟨N, rt, bk, ct, ex⟩, rt, bk, ct, ex⟩ := by
  unfold aL'
  cases a ρ <;> rfl
theorem pT' (t : MT) (a b : MS) : vS (sIf t a b ρ) ⟨N, rt, bk, ct, ex⟩ = vE (t ρ) (fun k ρ1 => vI k (vS (a ρ1) ⟨N, rt, bk, ct, ex⟩) (vS (b ρ1) ⟨N, rt, bk, ct, ex⟩)) ex := by simp only [sIf, bz', og']
def mt' (i n : Nat) (A : Prop) : Prop := i < n /\ A
theorem gF' {i n : Nat} (h : i < n) (A : Prop) : mt' i n A = A := by unfold mt'; simp [h]
theorem lG' (i : Nat) (a : MO) : vS (bl' i a ρ) ⟨N, rt, bk, ct, ex⟩ = vE (a ρ) (fun o ρ1 => mt' i ρ1.env.length (N ⟨ρ1.env.set i (some o), ρ1.w⟩)) ex := by
  simp only [bl', bz']
  congr
  funext o ρ1
  unfold vE' mt'
  by_cases h : i < ρ1.env.length
  . rw [if_pos h]; simp [vS, h]
  . rw [if_neg h]; simp [vS, h]
theorem lK' (g : MG) (a : ME) : vS (ty' g a ρ) ⟨N, rt, bk, ct, ex⟩ = vE (a ρ) (fun d ρ1 => vD (g d ρ1) N) ex := by
  simp only [ty', bz']
  congr
  funext o ρ1
  cases g o ρ1 <;> rfl
theorem fu' (x f : String) (a : ME) : vS (cO' x f a ρ) ⟨N, rt, bk, ct, ex⟩ = vE (a ρ) (fun d ρ1 => ex ⟨x, [(f, d)]⟩ ρ1) ex := by simp only [cO', bz']; rfl
theorem lL' (i : Nat) (a : MO) : vS (qa' i a ρ) ⟨N, rt, bk, ct, ex⟩ = vL ρ.env[i]? fun _ => vE (a ρ) (fun o ρ1 => vL ρ1.env[i]? fun os => mt' os.length 16777216 (N ⟨ρ1.env.set i (some (.lst (os ++ [o]))), ρ1.w⟩)) ex := by
  unfold qa'
  rcases ρ.env[i]? with _ | _ | o
  . rfl
  . rfl
  cases o with
  | lst os0 =>
    simp only [bz', vL]
    congr
    funext o ρ1
    rcases ρ1.env[i]? with _ | _ | o2
    . rfl
    . rfl
    cases o2 with
    | lst os =>
      dsimp only
      unfold mt'
      by_cases h : os.length < 16777216
      . rw [if_pos h]; simp [vS, h]
      . rw [if_neg h]; simp [vS, h]
    | _ => rfl
  | _ => rfl
theorem jz' (o k a : ME) : vS (f1' o k a ρ) ⟨N, rt, bk, ct, ex⟩ = vE (a ρ) (fun d ρ1 => vE (o ρ1) (fun x ρ2 => vE (k ρ2) (fun y ρ3 => vD (oq' ρ3.w x y d) fun w => N ⟨ρ3.env, w⟩) ex) ex) ex := by
  simp only [f1', bz']
  congr
  funext d ρ1
  congr
  funext x ρ2
  congr
  funext y ρ3
  cases oq' ρ3.w x y d <;> rfl
def xU' (w : W) : D -> Option (List O)
  | .obj n => (match w[n]? with
    | some (.lst os) => some os
    | _ => none)
  | _ => none
def yf' (w : W) (b : Ob) : D -> W
  | .obj n => w.set n b
  | _ => w
theorem lJ' (cs : List String) (a : ME) (f : String) (v : MO) : vS (sFld cs a f v ρ) ⟨N, rt, bk, ct, ex⟩ = vE (v ρ) (fun o ρ1 => vE (a ρ1) (fun x ρ2 => vD (stF cs f o ρ2.w x) fun w => N ⟨ρ2.env, w⟩) ex) ex := by
  simp only [sFld, bz']
  congr
  funext d ρ1
  congr
  funext x ρ2
  cases stF cs f d ρ2.w x <;> rfl
theorem lI' (it : MI) (g : MG) (b : MS) : vS (gs' it g b ρ) ⟨N, rt, bk, ct, ex⟩ = vE (it ρ) (fun ds ρ1 => vS (gw' g b ds ρ1) ⟨N, rt, bk, ct, ex⟩) ex := by simp only [gs', bz']
theorem qO' (o : Out) : vS (oX' o) ⟨N, rt, bk, ct, ex⟩ = vS o ⟨N, rt, bk, ct, fun _ _ => False⟩ := by cases o <;> rfl
theorem qN' (i m : Nat) (o : Out) : vS (nY' i m o) ⟨N, rt, bk, ct, ex⟩ = vS o ⟨fun ρ => (ρ.env.length = i + m + 1 /\ N ⟨ρ.env.set i none, ρ.w⟩), rt, fun ρ => (ρ.env.length = i + m + 1 /\ bk ⟨ρ.env.set i none, ρ.w⟩), fun ρ => (ρ.env.length = i + m + 1 /\ ct ⟨ρ.env.set i none, ρ.w⟩), ex⟩ := by
  cases o with
  | nx ρ => by_cases h : ρ.env.length = i + m + 1 <;> simp [nY', vS, h]
  | bk ρ => by_cases h : ρ.env.length = i + m + 1 <;> simp [nY', vS, h]
  | ct ρ => by_cases h : ρ.env.length = i + m + 1 <;> simp [nY', vS, h]
  | _ => rfl
theorem lF' (i m : Nat) (b : MS) (g : String -> Option Bool) (h : Exc -> MS) : vS (fE' i m b g h ρ) ⟨N, rt, bk, ct, ex⟩ = vS (b ρ) ⟨N, rt, bk, ct, fun x ρ1 => vD (g x.cls) fun k => vI k (ρ1.env.length = i + m + 1 /\ vS (h x ⟨ρ1.env.set i (some .exn), ρ1.w⟩) ⟨fun ρ => (ρ.env.length = i + m + 1 /\ N ⟨ρ.env.set i none, ρ.w⟩), rt, fun ρ => (ρ.env.length = i + m + 1 /\ bk ⟨ρ.env.set i none, ρ.w⟩), fun ρ => (ρ.env.length = i + m + 1 /\ ct ⟨ρ.env.set i none, ρ.w⟩), fun _ _ => False⟩) (ex x ρ1)⟩ := by
  unfold fE'
  cases b ρ with
  | exc x ρ1 =>
    show vS (match g x.cls with | some true => if ρ1.env.length = i + m + 1 then nY' i m (oX' (h x ⟨ρ1.env.set i (some .exn), ρ1.w⟩)) else .bad | some false => .exc x ρ1 | none => .bad) _ = vD (g x.cls) _
    cases g x.cls with
    | none => rfl
    | some k => cases k with
      | false => rfl
      | true =>
        show vS (if ρ1.env.length = i + m + 1 then _ else _) _ = (ρ1.env.length = i + m + 1 /\ vS _ _)
        by_cases hl : ρ1.env.length = i + m + 1
        . rw [if_pos hl, qN', qO']; simp only [hl, true_and]
        . rw [if_neg hl]; simp [hl, vS]
  | _ => rfl
theorem qP' {k n : Nat} (b : MS) (ds : List D) (w : W) {Q : O -> W -> Prop} {X : Exc -> W -> Prop} (h : ds.length = k) : vF (fnM k n b ds w) Q X = vS (b ⟨ds.map (fun d => some (.fz d)) ++ List.replicate (n - k) none, w⟩) ⟨fun ρ => Q (.fz .non) ρ.w, Q, fun _ => False, fun _ => False, fun x ρ => X x ρ.w⟩ := by
  unfold fnM
  rw [if_pos h]
  cases b ⟨ds.map (fun d => some (.fz d)) ++ List.replicate (n - k) none, w⟩ <;> rfl
theorem jC' {k n : Nat} {b : MS} {ds : List D} {w : W} {Q : O -> W -> Prop} {X : Exc -> W -> Prop} (q : vS (b ⟨ds.map (fun d => some (.fz d)) ++ List.replicate (n - k) none, w⟩) ⟨fun ρ => Q (.fz .non) ρ.w, Q, fun _ => False, fun _ => False, fun x ρ => X x ρ.w⟩) (h : ds.length = k) : vF (fnM k n b ds w) Q X := by
  rw [qP' _ _ _ h]; exact q
theorem lB' (o : O) (w : W) {Q : O -> W -> Prop} {X : Exc -> W -> Prop} : vF (.ok o w) Q X = Q o w := rfl
theorem jy' (x : Exc) (w : W) {Q : O -> W -> Prop} {X : Exc -> W -> Prop} : vF (.exc x w) Q X = X x w := rfl
theorem vF.mono {r : FRes} {Q Q' : O -> W -> Prop} {X : Exc -> W -> Prop} (h : vF r Q FX) (k : ∀ o w, Q o w -> Q' o w) : vF r Q' X := by
  cases r with
  | ok o w => exact k _ _ h
  | exc x w => exact h.elim
  | bad => exact h
theorem vF.monoX {r : FRes} {Q Q' : O -> W -> Prop} {X X' : Exc -> W -> Prop} (h : vF r Q X) (k : ∀ o w, Q o w -> Q' o w) (k2 : ∀ x w, X x w -> X' x w) : vF r Q' X' := by
  cases r with
  | ok o w => exact k _ _ h
  | exc x w => exact k2 _ _ h
  | bad => exact h
theorem vF.exi {r : FRes} {Q : O -> W -> Prop} (h : vF r Q FX) : ∃ o w, r = .ok o w /\ Q o w := by
  cases r with
  | ok o w => exact ⟨o, w, rfl, h⟩
  | exc x w => exact h.elim
  | bad => exact h.elim
theorem vF.of {r : FRes} {Q : O -> W -> Prop} {X : Exc -> W -> Prop} {o : O} {w : W} (e : r = .ok o w) (h : Q o w) : vF r Q X := by rw [e]; exact h
theorem vS.mono {o : Out} {D1 D2 : En} (h : vS o D1) (h1 : ∀ ρ, D1.nx ρ -> D2.nx ρ) (h2 : ∀ o w, D1.rt o w -> D2.rt o w) (h3 : ∀ ρ, D1.bk ρ -> D2.bk ρ) (h4 : ∀ ρ, D1.ct ρ -> D2.ct ρ) (h5 : ∀ x ρ, D1.ex x ρ -> D2.ex x ρ) : vS o D2 := by
  cases o with
  | nx ρ => exact h1 _ h
  | rt o w => exact h2 _ _ h
  | bk ρ => exact h3 _ h
  | ct ρ => exact h4 _ h
  | exc x ρ => exact h5 _ _ h
  | bad => exact h
theorem vE.mono {r : Res α} {Q Q' : α -> PSt -> Prop} {X X' : Exc -> PSt -> Prop} (h : vE r Q X) (k : ∀ a ρ, Q a ρ -> Q' a ρ) (k2 : ∀ x ρ, X x ρ -> X' x ρ) : vE r Q' X' := by
  cases r with
  | ok a ρ => exact k _ _ h
  | exc x ρ => exact k2 _ _ h
  | bad => exact h
theorem gL' {a b : MS} (J : PSt -> Prop) (h : vS (a ρ) ⟨J, rt, bk, ct, ex⟩) (k : ∀ ρ1, J ρ1 -> vS (b ρ1) ⟨N, rt, bk, ct, ex⟩) : vS (aL' a b ρ) ⟨N, rt, bk, ct, ex⟩ := by
  rw [ij']
  exact h.mono k (fun _ _ z => z) (fun _ z => z) (fun _ z => z) (fun _ _ z => z)
theorem ju' {p : Prop} [Decidable p] {A B : Prop} (h1 : p -> A) (h2 : ¬ p -> B) : vI (decide p) A B := by
  by_cases h : p
  . rw [decide_eq_true h]; exact h1 h
  . rw [decide_eq_false h]; exact h2 h
theorem gN' {g : MG} {b : MS} {ds : List D} (Inv : List D -> PSt -> Prop) (h0 : Inv [] ρ)
    (step : ∀ pre d post ρ, ds = pre ++ d :: post -> Inv pre ρ -> vD (g d ρ) fun ρ1 => vS (b ρ1) ⟨Inv (pre ++ [d]), rt, N, Inv (pre ++ [d]), ex⟩)
    (hend : ∀ ρ, Inv ds ρ -> N ρ) : vS (gw' g b ds ρ) ⟨N, rt, bk, ct, ex⟩ := by
  have main : ∀ (post pre : List D) (ρ : PSt), ds = pre ++ post -> Inv pre ρ -> vS (gw' g b post ρ) ⟨N, rt, bk, ct, ex⟩ := by
    intro post
    induction post with
    | nil =>
      intro pre ρ e h
      rw [List.append_nil] at e
      exact hend ρ (e ▸ h)
    | cons d post ih =>
      intro pre ρ e h
      have s := step pre d post ρ e h
      unfold gw'
      cases eg : g d ρ with
      | none => rw [eg] at s; exact s
      | some ρ1 =>
        rw [eg] at s
        have s : vS (b ρ1) _ := s
        dsimp only
        cases eb : b ρ1 with
        | nx ρ2 => rw [eb] at s; exact ih (pre ++ [d]) ρ2 (by rw [e, List.append_assoc]; rfl) s
        | ct ρ2 => rw [eb] at s; exact ih (pre ++ [d]) ρ2 (by rw [e, List.append_assoc]; rfl) s
        | bk ρ2 => rw [eb] at s; exact s
        | rt o w => rw [eb] at s; exact s
        | exc x ρ2 => rw [eb] at s; exact s
        | bad => rw [eb] at s; exact s
  exact main ds [] ρ rfl h0
theorem eo' {γ : Type} {g : MG} {b : MS} {f : γ -> D} {cs : List γ} (Inv : List γ -> PSt -> Prop) (h0 : Inv [] ρ)
    (step : ∀ pre c post ρ, cs = pre ++ c :: post -> Inv pre ρ -> vD (g (f c) ρ) fun ρ1 => vS (b ρ1) ⟨Inv (pre ++ [c]), rt, N, Inv (pre ++ [c]), ex⟩)
    (hend : ∀ ρ, Inv cs ρ -> N ρ) : vS (gw' g b (cs.map f) ρ) ⟨N, rt, bk, ct, ex⟩ := by
  have main : ∀ (post pre : List γ) (ρ : PSt), cs = pre ++ post -> Inv pre ρ -> vS (gw' g b (post.map f) ρ) ⟨N, rt, bk, ct, ex⟩ := by
    intro post
    induction post with
    | nil =>
      intro pre ρ e h
      rw [List.append_nil] at e
      exact hend ρ (e ▸ h)
    | cons d post ih =>
      intro pre ρ e h
      have s := step pre d post ρ e h
      rw [List.map_cons]
      unfold gw'
      cases eg : g (f d) ρ with
      | none => rw [eg] at s; exact s
      | some ρ1 =>
        rw [eg] at s
        have s : vS (b ρ1) _ := s
        dsimp only
        cases eb : b ρ1 with
        | nx ρ2 => rw [eb] at s; exact ih (pre ++ [d]) ρ2 (by rw [e, List.append_assoc]; rfl) s
        | ct ρ2 => rw [eb] at s; exact ih (pre ++ [d]) ρ2 (by rw [e, List.append_assoc]; rfl) s
        | bk ρ2 => rw [eb] at s; exact s
        | rt o w => rw [eb] at s; exact s
        | exc x ρ2 => rw [eb] at s; exact s
        | bad => rw [eb] at s; exact s
  exact main cs [] ρ rfl h0
theorem gM' {g : MG} {b : MS} {lo : Int} {n : Nat} (Inv : Nat -> PSt -> Prop) (h0 : Inv 0 ρ)
    (step : ∀ k ρ, k < n -> Inv k ρ -> vD (g (.int (lo + (k : Nat))) ρ) fun ρ1 => vS (b ρ1) ⟨Inv (k + 1), rt, N, Inv (k + 1), ex⟩)
    (hend : ∀ ρ, Inv n ρ -> N ρ) : vS (gw' g b (rgI lo n) ρ) ⟨N, rt, bk, ct, ex⟩ := by
  unfold rgI
  refine eo' (fun pre ρ => Inv pre.length ρ) h0 (fun pre c post ρ e h => ?_) (fun ρ h => hend ρ (by rwa [List.length_range] at h))
  have hl : pre.length < n := by
    have := congrArg List.length e
    rw [List.length_range, List.length_append, List.length_cons] at this
    omega
  have hc : c = pre.length := by
    have h1 : (List.range n)[pre.length]? = some c := by rw [e, List.getElem?_append_right (Nat.le_refl _), Nat.sub_self]; rfl
    rw [List.getElem?_range hl] at h1
    exact (Option.some.inj h1).symm
  subst hc
  have := step pre.length ρ hl h
  simp only [List.length_append, List.length_cons, List.length_nil, Nat.zero_add]
  exact this
theorem jD' {own : List Nat} {g : MG} {t : MT} {e : ME} {γ : Type} {f : γ -> D} {cs : List γ} {Q : List D -> PSt -> Prop} (hl : cs.length <= 16777216) (Inv : List γ -> List D -> PSt -> Prop) (h0 : Inv [] [] ρ)
    (step : ∀ pre c post acc ρ, cs = pre ++ c :: post -> Inv pre acc ρ -> vD (g (f c) ⟨bo' own ρ.env, ρ.w⟩) fun ρ1 => vE (t ρ1) (fun k ρ2 => vI k (vE (e ρ2) (fun y ρ3 => Inv (pre ++ [c]) (acc ++ [y]) ρ3) PX) (Inv (pre ++ [c]) acc ρ2)) PX)
    (hend : ∀ acc ρ, Inv cs acc ρ -> Q acc ρ) : vE (lcL own g t e (cs.map f) [] ρ) Q X := by
  have main : ∀ (post pre : List γ) (acc : List D) (ρ : PSt), cs = pre ++ post -> acc.length <= pre.length -> Inv pre acc ρ -> vE (lcL own g t e (post.map f) acc ρ) Q X := by
    intro post
    induction post with
    | nil =>
      intro pre acc ρ e' hacc h
      rw [List.append_nil] at e'
      exact hend acc ρ (e' ▸ h)
    | cons d post ih =>
      intro pre acc ρ e' hacc h
      have s := step pre d post acc ρ e' h
      have hpre : pre.length < 16777216 := by
        have := congrArg List.length e'
        rw [List.length_append, List.length_cons] at this
        omega
      rw [List.map_cons]
      unfold lcL
      cases eg : g (f d) ⟨bo' own ρ.env, ρ.w⟩ with
      | none => rw [eg] at s; exact s
      | some ρ1 =>
        rw [eg] at s
        have s : vE (t ρ1) _ _ := s
        dsimp only
        cases et : t ρ1 with
        | bad => rw [et] at s; exact s
        | exc x ρ2 => rw [et] at s; exact s.elim
        | ok k ρ2 =>
          rw [et] at s
          have s : vI k _ _ := s
          show vE (if k = true then _ else _) Q X
          have e2 : cs = (pre ++ [d]) ++ post := by rw [e', List.append_assoc]; rfl
          cases k with
          | false =>
            rw [if_neg Bool.false_ne_true]
            exact ih (pre ++ [d]) acc ρ2 e2 (by rw [List.length_append]; omega) s
          | true =>
            rw [if_pos rfl]
            have s : vE (e ρ2) _ _ := s
            cases ee : e ρ2 with
            | bad => rw [ee] at s; exact s
            | exc x ρ3 => rw [ee] at s; exact s.elim
            | ok y ρ3 =>
              rw [ee] at s
              show vE (if acc.length < d7' then _ else _) Q X
              rw [if_pos (show acc.length < 16777216 by omega)]
              exact ih (pre ++ [d]) (acc ++ [y]) ρ3 e2 (by rw [List.length_append, List.length_append, List.length_cons, List.length_cons]; omega) s
  exact main cs [] [] ρ rfl (Nat.le_refl _) h0
end
end M
namespace M
def vC (c : Prop) (A : Prop) : Prop := c /\ A
def vOb (o : Option Ob) (P : List O -> Prop) : Prop := match o with
  | some (.lst os) => P os
  | _ => False
def vB' (o : Option Ob) (P : String -> List (String × O) -> Prop) : Prop := match o with
  | some (.ins C fs) => P C fs
  | _ => False
theorem lz' (C : String) (fs : List (String × O)) {P : String -> List (String × O) -> Prop} : vB' (some (.ins C fs)) P = P C fs := rfl
theorem qQ' (cs : List String) (f : String) (o : O) (w : W) (n : Nat) {N : W -> Prop} : vD (stF cs f o w (.obj n)) N = vB' w[n]? (fun C fs => vC (C ∈ cs /\ fs.length < 1000) (N (w.set n (.ins C (nX' f o fs))))) := by
  show vD (match w[n]? with | some (.ins C fs) => if C ∈ cs /\ fs.length < 1000 then some (w.set n (.ins C (nX' f o fs))) else none | _ => none) N = _
  rcases w[n]? with _ | ob
  . rfl
  . cases ob with
    | ins C fs =>
      show vD (if _ then _ else _) N = vC _ _
      unfold vC
      by_cases h : C ∈ cs /\ fs.length < 1000
      . rw [if_pos h]; simp [vD, h]
      . rw [if_neg h]
        show False = (_ /\ _)
        rw [eq_iff_iff]
        exact ⟨False.elim, fun a => h a.1⟩
    | _ => rfl
theorem gG' (os : List O) {P : List O -> Prop} : vOb (some (.lst os)) P = P os := rfl
theorem lD' {c : Prop} (h : c) (A : Prop) : vC c A = A := by unfold vC; simp [h]
theorem gK' (A : Prop) : vC True A = A := by unfold vC; simp
theorem aQ' {α : Type} {c : Prop} [Decidable c] {x : α} {Q : α -> Prop} : vD (if c then some x else none) Q = vC c (Q x) := by
  unfold vC
  by_cases h : c
  . rw [if_pos h]; simp [vD, h]
  . rw [if_neg h]; simp [vD, h]
theorem cA' {α β : Type} {f : α -> β} {o : Option α} {Q : β -> Prop} : vD (o.map f) Q = vD o (fun a => Q (f a)) := by cases o <;> rfl
theorem lC' {α β : Type} {f : α -> Option β} {o : Option α} {Q : β -> Prop} : vD (o.bind f) Q = vD o (fun a => vD (f a) Q) := by cases o <;> rfl
section
variable {Q : D -> Prop} {Y : List D -> Prop}
theorem j6' (i j : Int) : vD (bw' (.int i) (.int j)) Q = Q (.int (i + j)) := rfl
theorem j4' (a b : Tx) : vD (bw' (.str a) (.str b)) Q = gr' (a.length + b.length) (Q (.str (a ++ b))) := aQ'
theorem j5' (a b : List D) : vD (bw' (.lst a) (.lst b)) Q = gr' (a.length + b.length) (Q (.lst (a ++ b))) := aQ'
theorem j3' (a b : List D) : vD (bw' (.tup a) (.tup b)) Q = gr' (a.length + b.length) (Q (.tup (a ++ b))) := aQ'
theorem gY' (i j : Int) : vD (tW' (.int i) (.int j)) Q = Q (.int (i + j)) := rfl
theorem lN' (i j : Int) : vD (kW' (.int i) (.int j)) Q = Q (.int (i - j)) := rfl
theorem lY' (i j : Int) : vD (ix' (.int i) (.int j)) Q = vC (((-18446744073709551616 < i /\ i < 18446744073709551616) \/ (-18446744073709551616 < j /\ j < 18446744073709551616)) \/ ((-2582249878086908589655919172003011874329705792829223512830659356540647622016841194629645353280137831435903171972747493376 < i /\ i < 2582249878086908589655919172003011874329705792829223512830659356540647622016841194629645353280137831435903171972747493376) /\ (-2582249878086908589655919172003011874329705792829223512830659356540647622016841194629645353280137831435903171972747493376 < j /\ j < 2582249878086908589655919172003011874329705792829223512830659356540647622016841194629645353280137831435903171972747493376))) (Q (.int (i * j))) := by
  show vD (if (small64 i = true \/ small64 j = true) \/ _ then _ else _) Q = _
  rw [aQ']
  congr 1
  simp [small64]
theorem jR' (a : Tx) (j : Int) : vD (ix' (.str a) (.int j)) Q = vC (j < 4611686018427387904 /\ -4611686018427387904 <= j /\ a.length * j.toNat <= 16777216) (Q (.str (List.replicate j.toNat a).flatten)) := aQ'
theorem jS' (a : List D) (j : Int) : vD (ix' (.lst a) (.int j)) Q = vC (j < 4611686018427387904 /\ -4611686018427387904 <= j /\ a.length * j.toNat <= 16777216) (Q (.lst (List.replicate j.toNat a).flatten)) := aQ'
theorem j2' (i j : Int) : vD (e7' (.int i) (.int j)) Q = vC (0 < j /\ j < 1606938044258990275541962092341162602522202993782792835301376) (Q (.int (i / j))) := aQ'
theorem lZ' (i j : Int) : vD (gt' (.int i) (.int j)) Q = vC (0 < j) (Q (.int (i % j))) := aQ'
theorem lU' (i j : Int) : vD (tU' (.int i) (.int j)) Q = vC (0 <= j /\ j <= 1000 /\ -18446744073709551616 < i /\ i < 18446744073709551616) (Q (.int (i ^ j.toNat))) := by
  show vD (if 0 <= j /\ j <= 1000 /\ small64 i = true then _ else _) Q = _
  rw [aQ']
  congr 1
  simp [small64]
theorem lV' (i : Int) : vD (tV' (.int i)) Q = Q (.int (-i)) := rfl
theorem mk' (i j : Int) : vD (pEq (.int i) (.int j)) Q = Q (.bl (decide (i = j))) := by
  show Q (.bl (i == j)) = _
  congr 2
theorem mj' (i j : Tx) : vD (pEq (.str i) (.str j)) Q = Q (.bl (decide (i = j))) := by
  show Q (.bl (i == j)) = _
  congr 2
  rw [Bool.eq_iff_iff]
  simp
theorem ml' (i j : Bool) : vD (pEq (.bl i) (.bl j)) Q = Q (.bl (i == j)) := rfl
theorem lX' (i j : Int) : vD (pNe (.int i) (.int j)) Q = Q (.bl (!decide (i = j))) := by
  show Q (.bl (!(i == j))) = _
  congr 3
theorem lW' (i j : Tx) : vD (pNe (.str i) (.str j)) Q = Q (.bl (!decide (i = j))) := by
  show Q (.bl (!(i == j))) = _
  congr 3
  rw [Bool.eq_iff_iff]
  simp
theorem mc' (x : D) : vD (pIs x .non) Q = Q (.bl (cT' x)) := by cases x <;> rfl
theorem md' (x y : Bool) : vD (pIs (.bl x) (.bl y)) Q = Q (.bl (x == y)) := rfl
theorem fx' (x : D) : vD (eC' x .non) Q = Q (.bl (!cT' x)) := by cases x <;> rfl
theorem fy' (x y : Bool) : vD (eC' (.bl x) (.bl y)) Q = Q (.bl (!(x == y))) := rfl
theorem pU' (i j : Int) : vD (pLt (.int i) (.int j)) Q = Q (.bl (decide (i < j))) := rfl
theorem pV' (i j : Int) : vD (pLe (.int i) (.int j)) Q = Q (.bl (decide (i <= j))) := rfl
theorem pW' (i j : Int) : vD (pGt (.int i) (.int j)) Q = Q (.bl (decide (j < i))) := rfl
theorem pY' (i j : Int) : vD (pGe (.int i) (.int j)) Q = Q (.bl (decide (j <= i))) := rfl
theorem l4' (i j : Tx) : vD (pLt (.str i) (.str j)) Q = Q (.bl (decide (i < j))) := rfl
theorem l5' (i j : Tx) : vD (pLe (.str i) (.str j)) Q = Q (.bl (!decide (j < i))) := rfl
theorem mg' (i j : Tx) : vD (pGt (.str i) (.str j)) Q = Q (.bl (decide (j < i))) := rfl
theorem mi' (i j : Tx) : vD (pGe (.str i) (.str j)) Q = Q (.bl (!decide (i < j))) := rfl
theorem mf' (c : Nat) (s : Tx) : vD (pIn (.str [c]) (.str s)) Q = Q (.bl (decide (c ∈ s))) := rfl
theorem jQ' (c : Nat) (s : Tx) : vD (dM' (.str [c]) (.str s)) Q = Q (.bl (!decide (c ∈ s))) := rfl
theorem kh' (ns : List Int) : (ns.map D.int).all sca = true := by induction ns <;> simp_all [sca]
theorem kE' (i : Int) (ns : List Int) : ((ns.map D.int).any fun d => eqb d (.int i)) = decide (i ∈ ns) := by
  induction ns with
  | nil => rfl
  | cons n ns ih =>
    simp only [List.map_cons, List.any_cons, ih]
    rw [Bool.eq_iff_iff]
    simp [eqb]
    exact ⟨fun h => h.elim (fun e => .inl e.symm) .inr, fun h => h.elim (fun e => .inl e.symm) .inr⟩
theorem jZ' (i : Int) (ns : List Int) : vD (pIn (.int i) (.tup (ns.map .int))) Q = Q (.bl (decide (i ∈ ns))) := by
  show vD (if sca (.int i) = true /\ (ns.map D.int).all sca = true then some (D.bl ((ns.map D.int).any fun d => eqb d (.int i))) else none) Q = _
  rw [kh', kE']
  rfl
theorem j0' (i : Int) (ns : List Int) : vD (pIn (.int i) (.lst (ns.map .int))) Q = Q (.bl (decide (i ∈ ns))) := by
  show vD (if sca (.int i) = true /\ (ns.map D.int).all sca = true then some (D.bl ((ns.map D.int).any fun d => eqb d (.int i))) else none) Q = _
  rw [kh', kE']
  rfl
theorem jV' (s : Tx) : vD (b9' (.str s)) Q = Q (.int s.length) := rfl
theorem jW' (s : List D) : vD (b9' (.lst s)) Q = Q (.int s.length) := rfl
theorem jU' (s : List D) : vD (b9' (.tup s)) Q = Q (.int s.length) := rfl
theorem l8' (s : Tx) (i : Int) : vD (pIx (.str s) (.int i)) Q = vD (ati s i) (fun c => Q (.str [c])) := cA'
theorem ma' (s : List D) (i : Int) : vD (pIx (.lst s) (.int i)) Q = vD (ati s i) Q := rfl
theorem l7' (s : List D) (i : Int) : vD (pIx (.tup s) (.int i)) Q = vD (ati s i) Q := rfl
theorem ul' {n : Nat} {i : Int} (h : 0 <= i) (h2 : i < n) : ixn n i = some i.toNat := by unfold ixn; rw [if_pos h, if_pos h2]
theorem ia' {α : Type} {xs : List α} {i : Int} (h : 0 <= i) : ati xs i = xs[i.toNat]? := by
  unfold ati ixn
  rw [if_pos h]
  split
  . rfl
  . rename_i h2
    rw [List.getElem?_eq_none (by omega)]
    rfl
theorem lP' (s : Tx) (lo hi : Option Int) : vD (pSl (.str s) lo hi) Q = Q (.str (cut s lo hi)) := rfl
theorem lR' (s : List D) (lo hi : Option Int) : vD (pSl (.lst s) lo hi) Q = Q (.lst (cut s lo hi)) := rfl
theorem lO' (s : List D) (lo hi : Option Int) : vD (pSl (.tup s) lo hi) Q = Q (.tup (cut s lo hi)) := rfl
theorem lQ' (s : List D) (lo hi : Option Int) : vD (pSl (.scr s) lo hi) Q = Q (.lst (cut s lo hi)) := rfl
theorem qy' {α : Type} {s : List α} {i : Int} (h : 0 <= i) : cut s none (some i) = s.take i.toNat := by
  unfold cut six
  simp only [if_neg (show ¬ i < 0 by omega), List.drop_zero, Nat.sub_zero]
  rcases Nat.le_total i.toNat s.length with h | h
  . rw [Nat.min_eq_left h]
  . rw [Nat.min_eq_right h, List.take_length, List.take_of_length_le h]
theorem pt' {α : Type} {s : List α} {i : Int} (h : 0 <= i) : cut s (some i) none = s.drop i.toNat := by
  unfold cut six
  simp only [if_neg (show ¬ i < 0 by omega)]
  rcases Nat.le_total i.toNat s.length with h | h
  . rw [Nat.min_eq_left h, List.take_of_length_le (by rw [List.length_drop]; omega)]
  . rw [Nat.min_eq_right h, List.drop_length, List.drop_of_length_le h, List.take_nil]
theorem jO' (s : Tx) : vD (sz' (.str s)) Q = Q (.str s.reverse) := rfl
theorem jP' (s : List D) : vD (sz' (.lst s)) Q = Q (.lst s.reverse) := rfl
theorem om' (l : List Tx) : cE' (l.map .str) = some l := by
  induction l with
  | nil => rfl
  | cons a l ih => simp [cE', ih]
theorem hD' : ∀ l : List Tx, b3' [] l = l.flatten
  | [] => rfl
  | [x] => by simp [b3']
  | x :: y :: r => by
    have := hD' (y :: r)
    simp only [b3', this, List.flatten_cons, List.nil_append]
theorem fT' (l : List Tx) : vD (hA' [] [.lst (l.map .str)]) Q = gr' (l.map List.length).sum (Q (.str l.flatten)) := by
  show vD ((cE' (l.map .str)).bind _) Q = _
  rw [om']
  show vD (if _ then _ else _) Q = _
  rw [aQ', hD']
  simp [vC, gr']
theorem mx' : ∀ l : Tx, ((l.map fun c => [c]).map List.length).sum = l.length
  | [] => rfl
  | c :: l => by simp only [List.map_cons, List.sum_cons, mx' l, List.length_cons, List.length_nil]; omega
theorem ku' : ∀ l : Tx, (l.map fun c => [c]).flatten = l
  | [] => rfl
  | c :: l => by simp only [List.map_cons, List.flatten_cons, ku' l]; rfl
theorem gW' (l : Tx) : vD (hA' [] [.lst (l.map chD)]) Q = gr' l.length (Q (.str l)) := by
  have h := fT' (Q := Q) (l.map fun c => [c])
  rw [List.map_map, mx', ku'] at h
  exact h
theorem j1' (a b : Tx) : vD (ud' a [.str b]) Q = Q (.int (fnd (sG' a b))) := rfl
theorem gX' (a b : Tx) : vD (ql' a [.str b]) Q = vD (sG' a b) (fun i => Q (.int (i : Nat))) := cA'
theorem gO' (s : Tx) : vD (hh' (.str s)) Q = vC (s.all (fun c => decide (c < 128)) = true /\ s.length <= 5592405) (Q (.str (s.map up1))) := aQ'
theorem me' (i : Int) : vD (gu' (.int i)) Q = Q (.int i) := rfl
theorem jY' (b : Bool) : vD (gu' (.bl b)) Q = Q (.int (if b then 1 else 0)) := rfl
theorem ms' (i : Int) : vD (vI' (.int i)) Q = Q (.int (if i < 0 then -i else i)) := rfl
theorem l1' (i j : Int) : vD (iy' (.int i) (.int j)) Q = Q (.int (max i j)) := by
  show Q (.int (if j > i then j else i)) = _
  congr 2
  split <;> omega
theorem l0' (i j : Int) : vD (kX' (.int i) (.int j)) Q = Q (.int (min i j)) := by
  show Q (.int (if j < i then j else i)) = _
  congr 2
  split <;> omega
theorem jJ' (s : List D) : vD (c3' (.lst s)) Q = Q (.tup s) := rfl
theorem jI' (s : List D) : vD (c3' (.tup s)) Q = Q (.tup s) := rfl
theorem gT' (s : List D) : vD (bZ' (.lst s)) Q = Q (.lst s) := rfl
theorem gS' (s : List D) : vD (bZ' (.tup s)) Q = Q (.lst s) := rfl
theorem gP' (s : Tx) : vD (cp' (.str s)) Q = vC (s.length < 64) (Q (.lst ((ck' s).map chD))) := aQ'
theorem mb' (t : String) (d : D) : vD (bt' t d) Q = vD (tyn d) (fun n => Q (.bl (n == t || (n == "bool" && t == "int")))) := cA'
theorem nq' (l : List Int) : b4' (l.map .int) = some l := by
  induction l with
  | nil => rfl
  | cons a l ih => simp [b4', ih]
theorem kB' (l : List Bool) : bools (l.map .bl) = some l := by
  induction l with
  | nil => rfl
  | cons a l ih => simp [bools, ih]
theorem lM' (l : List Int) : vD (xQ' (.lst (l.map .int))) Q = Q (.int l.sum) := by
  show vD ((b4' (l.map .int)).map _) Q = _
  rw [nq']
  rfl
theorem mr' (l : List Bool) : vD (sB' (.lst (l.map .bl))) Q = Q (.bl (l.all id)) := by
  show vD ((bools (l.map .bl)).map _) Q = _
  rw [kB']
  rfl
theorem mq' (l : List Bool) : vD (xR' (.lst (l.map .bl))) Q = Q (.bl (l.any id)) := by
  show vD ((bools (l.map .bl)).map _) Q = _
  rw [kB']
  rfl
theorem jN' (s : List D) : vD (cM' (.lst s)) Y = Y s := rfl
theorem jL' (s : List D) : vD (cM' (.tup s)) Y = Y s := rfl
theorem jM' (s : Tx) : vD (cM' (.str s)) Y = Y (s.map chD) := rfl
theorem lT' (j : Int) : vD (dy' (.int j)) Y = vC (-4611686018427387904 <= j /\ j < 4611686018427387904) (Y (rgI 0 j.toNat)) := by
  show vD (if n2' j = true then _ else _) Y = _
  rw [aQ']
  congr 1
  simp [n2']
theorem lS' (i j : Int) : vD (dx' (.int i) (.int j)) Y = vC ((-4611686018427387904 <= i /\ i < 4611686018427387904) /\ (-4611686018427387904 <= j /\ j < 4611686018427387904)) (Y (rgI i (j - i).toNat)) := by
  show vD (if n2' i = true /\ n2' j = true then _ else _) Y = _
  rw [aQ']
  congr 1
  simp [n2']
theorem jF' (a b : Tx) : vD (nV' (.str a) (.str b)) Y = Y (cz' (a.map chD) (b.map chD)) := rfl
theorem jH' (a b : List D) : vD (nV' (.lst a) (.lst b)) Y = Y (cz' a b) := rfl
theorem jE' (a b : List D) : vD (nV' (.tup a) (.tup b)) Y = Y (cz' a b) := rfl
theorem jG' (a : Tx) (b : List D) : vD (xG' (.str a) (.tup b)) Y = Y (cz' (a.map chD) b) := rfl
theorem mm' (a : Tx) : vD (enB (.str a)) Y = Y (iG' 0 (a.map chD)) := rfl
theorem mn' (a : List D) : vD (enB (.lst a)) Y = Y (iG' 0 a) := rfl
theorem gR' (a : List D) : vD (vG' (.lst a)) Y = Y a.reverse := rfl
theorem gQ' (a : List D) : vD (vG' (.tup a)) Y = Y a.reverse := rfl
theorem jT' (j : Int) : vD (c4' (.int j)) Q = vC (RgB 0 j = true) (Q (.lst (dh' 0 j))) := aQ'
theorem vw' {a b : Int} (h1 : 0 <= a) (h2 : b <= 16777216) (h3 : a <= 16777216) (h4 : 0 <= b) : RgB a b = true := by
  unfold RgB
  simp only [Bool.and_eq_true, decide_eq_true_eq]
  omega
theorem p0' (i : Nat) (d : D) (env : List (Option O)) (w : W) {N : PSt -> Prop} : vD (gN i d ⟨env, w⟩) N = mt' i env.length (N ⟨env.set i (some (.fz d)), w⟩) := aQ'
theorem pZ' (is : List Nat) (ds : List D) (ρ : PSt) {N : PSt -> Prop} : vD (gT is (.tup ds) ρ) N = vD (gNs is ds ρ) N := rfl
theorem mh' (ρ : PSt) {N : PSt -> Prop} : vD (gNs [] [] ρ) N = N ρ := rfl
theorem pX' (i : Nat) (is : List Nat) (d : D) (ds : List D) (ρ : PSt) {N : PSt -> Prop} : vD (gNs (i :: is) (d :: ds) ρ) N = vD (gN i d ρ) (fun ρ1 => vD (gNs is ds ρ1) N) := lC'
theorem l6' (w : W) (n : Nat) (k : D) : vD (ixW w (.obj n) k) Q = vOb w[n]? (fun os => vD (ixO (.lst os) k) Q) := by
  show vD (match w[n]? with | some (.lst os) => ixO (.lst os) k | _ => none) Q = _
  rcases w[n]? with _ | ob
  . rfl
  . cases ob <;> rfl
theorem l9' (os : List O) (i : Int) : vD (ixO (.lst os) (.int i)) Q = vD (ati os i) (fun o => vD (asF o) Q) := by
  show vD (match ati os i with | some (.fz d) => some d | _ => none) Q = _
  rcases ati os i with _ | o
  . rfl
  . cases o <;> rfl
theorem mp' (d : D) : vD (asF (.fz d)) Q = Q d := rfl
theorem mo' (d : List D) {Q : List D -> Prop} : vD (asL (.lst d)) Q = Q d := rfl
theorem jX' (d k : D) : vD (ixO (.fz d) k) Q = vD (pIx d k) Q := rfl
theorem jK' (w : W) (n : Nat) (z : Int) (d : D) {N : W -> Prop} : vD (oq' w (.obj n) (.int z) d) N = vOb w[n]? (fun os => vD (ixn os.length z) (fun j => N (w.set n (.lst (os.set j (.fz d)))))) := by
  show vD (match w[n]? with | some (.lst os) => (ixn os.length z).map fun j => w.set n (.lst (os.set j (.fz d))) | _ => none) N = _
  rcases w[n]? with _ | ob
  . rfl
  . cases ob with
    | lst os => exact cA'
    | _ => rfl
theorem gU' (os : List O) : vD (nZ' (.lst os)) Q = Q (.int os.length) := rfl
theorem gV' (d : D) : vD (nZ' (.fz d)) Q = vD (b9' d) Q := rfl
end
structure U {α : Sort _} (a : α) : Type where
@[irreducible] def wE {α : Type} (r : Res α) (Q : α -> PSt -> Prop) (X : Exc -> PSt -> Prop) (_ : U (Q, X) := U.mk) : Prop := vE r Q X
@[irreducible] def wS (o : Out) (D : En) (_ : U D := U.mk) : Prop := vS o D
@[irreducible] def wF (r : FRes) (Q : O -> W -> Prop) (X : Exc -> W -> Prop) (_ : U (Q, X) := U.mk) : Prop := vF r Q X
@[irreducible] def wD {α : Type} (o : Option α) (Q : α -> Prop) (_ : U Q := U.mk) : Prop := vD o Q
@[irreducible] def wI (k : Bool) (A B : Prop) (_ : U (A, B) := U.mk) : Prop := vI k A B
@[irreducible] def wB (d : D) (P : Bool -> Prop) (_ : U P := U.mk) : Prop := vB d P
@[irreducible] def wT (d : D) (P : Tx -> Prop) (_ : U P := U.mk) : Prop := vT d P
@[irreducible] def wN (d : D) (P : Int -> Prop) (_ : U P := U.mk) : Prop := vN d P
@[irreducible] def wV (o : Option (Option O)) (i : Nat) (ρ : PSt) (Q : D -> PSt -> Prop) (_ : U Q := U.mk) : Prop := vV o i ρ Q
@[irreducible] def wG (o : Option (Option O)) (i : Nat) (ρ : PSt) (Q : O -> PSt -> Prop) (_ : U Q := U.mk) : Prop := vG o i ρ Q
@[irreducible] def wO (o : Option (Option O)) (Q : O -> Prop) (_ : U Q := U.mk) : Prop := vO o Q
@[irreducible] def wL (o : Option (Option O)) (Q : List O -> Prop) (_ : U Q := U.mk) : Prop := vL o Q
@[irreducible] def kK' (n : Nat) (A : Prop) (_ : U A := U.mk) : Prop := gr' n A
@[irreducible] def qG' (i n : Nat) (A : Prop) (_ : U A := U.mk) : Prop := mt' i n A
@[irreducible] def wC (c : Prop) (A : Prop) (_ : U A := U.mk) : Prop := vC c A
@[irreducible] def vz' (o : Option Ob) (P : String -> List (String × O) -> Prop) (_ : U P := U.mk) : Prop := vB' o P
@[irreducible] def wOb (o : Option Ob) (P : List O -> Prop) (_ : U P := U.mk) : Prop := vOb o P
theorem kN' {α : Type} (r : Res α) (Q : α -> PSt -> Prop) (X : Exc -> PSt -> Prop) (u : U (Q, X)) : wE r Q X u = vE r Q X := by unfold wE; rfl
theorem kJ' (o : Out) (D : En) (u : U D) : wS o D u = vS o D := by unfold wS; rfl
theorem kM' (r : FRes) (Q : O -> W -> Prop) (X : Exc -> W -> Prop) (u : U (Q, X)) : wF r Q X u = vF r Q X := by unfold wF; rfl
theorem aA' {α : Type} (o : Option α) (Q : α -> Prop) (u : U Q) : wD o Q u = vD o Q := by unfold wD; rfl
theorem oe' (k : Bool) (A B : Prop) (u : U (A, B)) : wI k A B u = vI k A B := by unfold wI; rfl
theorem of' (d : D) (P : Bool -> Prop) (u : U P) : wB d P u = vB d P := by unfold wB; rfl
theorem n8' (d : D) (P : Tx -> Prop) (u : U P) : wT d P u = vT d P := by unfold wT; rfl
theorem oa' (d : D) (P : Int -> Prop) (u : U P) : wN d P u = vN d P := by unfold wN; rfl
theorem kI' (o : Option (Option O)) (i : Nat) (ρ : PSt) (Q : D -> PSt -> Prop) (u : U Q) : wV o i ρ Q u = vV o i ρ Q := by unfold wV; rfl
theorem kL' (o : Option (Option O)) (i : Nat) (ρ : PSt) (Q : O -> PSt -> Prop) (u : U Q) : wG o i ρ Q u = vG o i ρ Q := by unfold wG; rfl
theorem n9' (o : Option (Option O)) (Q : O -> Prop) (u : U Q) : wO o Q u = vO o Q := by unfold wO; rfl
theorem oc' (o : Option (Option O)) (Q : List O -> Prop) (u : U Q) : wL o Q u = vL o Q := by unfold wL; rfl
theorem ek' (n : Nat) (A : Prop) (u : U A) : kK' n A u = gr' n A := by unfold kK'; rfl
theorem ei' (i n : Nat) (A : Prop) (u : U A) : qG' i n A u = mt' i n A := by unfold qG'; rfl
theorem gB' (c : Prop) (A : Prop) (u : U A) : wC c A u = vC c A := by unfold wC; rfl
theorem ft' (o : Option Ob) (P : List O -> Prop) (u : U P) : wOb o P u = vOb o P := by unfold wOb; rfl
theorem dt' (o : Option Ob) (P : String -> List (String × O) -> Prop) (u : U P) : vz' o P u = vB' o P := by unfold vz'; rfl
local macro_rules | `(tactic| walk_at "z") => `(tactic| simp only [kN', kJ', kM', aA', oe', of', n8', oa', kI', kL', n9', oc', ek', ei', gB', ft', dt'] at *)
section
variable {α β : Type} {Q : α -> PSt -> Prop} {X : Exc -> PSt -> Prop} {ρ : PSt} {P : D -> PSt -> Prop} {D0 : En}
theorem a3' (z : α) {Q : α -> Prop} : wD (some z) Q = Q z := by walk_at "z"; first | exact gJ' .. | (apply gJ' <;> assumption)
theorem v8' (k : Bool) {Q : Bool -> Prop} : wB (.bl k) Q = Q k := by walk_at "z"; first | exact lE' .. | (apply lE' <;> assumption)
theorem s4' (A B : Prop) : wI true A B = A := by walk_at "z"; first | exact pR' .. | (apply pR' <;> assumption)
theorem vA' (A B : Prop) : wI false A B = B := by walk_at "z"; first | exact pS' .. | (apply pS' <;> assumption)
theorem s5' (k : Bool) (A B : Prop) : wI (!k) A B = wI k B A := by walk_at "z"; first | exact jt' .. | (apply jt' <;> assumption)
theorem x_C (d : D) : wE (eC d ρ) P X = P d ρ := by walk_at "z"; first | exact td' .. | (apply td' <;> assumption)
theorem x_V (i : Nat) (env : List (Option O)) (w : W) : wE (eV i ⟨env, w⟩) P X = wV env[i]? i ⟨env, w⟩ P := by walk_at "z"; first | exact tb' .. | (apply tb' <;> assumption)
theorem v0' (d : D) (i : Nat) (ρ : PSt) : wV (some (some (.fz d))) i ρ P = P d ρ := by walk_at "z"; first | exact ly' .. | (apply ly' <;> assumption)
theorem sY' (os : List O) (i : Nat) (env : List (Option O)) (w : W) : wV (some (some (.lst os))) i ⟨env, w⟩ P = P (.lst (frzs os)) ⟨env.set i (some (.fz (.lst (frzs os)))), w⟩ := by walk_at "z"; first | exact jo' .. | (apply jo' <;> assumption)
theorem sX' (os : List O) (i : Nat) (env : List (Option O)) (w : W) : wV (some (some (.tup os))) i ⟨env, w⟩ P = P (.tup (frzs os)) ⟨env.set i (some (.fz (.tup (frzs os)))), w⟩ := by walk_at "z"; first | exact jn' .. | (apply jn' <;> assumption)
theorem sZ' (ks : List D) (os : List O) (i : Nat) (env : List (Option O)) (w : W) : wV (some (some (.dct ks os))) i ⟨env, w⟩ P = P (.dct ks (frzs os)) ⟨env.set i (some (.fz (.dct ks (frzs os)))), w⟩ := by walk_at "z"; first | exact jp' .. | (apply jp' <;> assumption)
theorem v4' (d : D) (i : Nat) (ρ : PSt) {P : O -> PSt -> Prop} : wG (some (some (.fz d))) i ρ P = P (.fz d) ρ := by walk_at "z"; first | exact lA' .. | (apply lA' <;> assumption)
theorem s7' (os : List O) (i : Nat) (env : List (Option O)) (w : W) {P : O -> PSt -> Prop} : wG (some (some (.lst os))) i ⟨env, w⟩ P = P (.lst os) ⟨env.set i none, w⟩ := by walk_at "z"; first | exact jw' .. | (apply jw' <;> assumption)
theorem s6' (os : List O) (i : Nat) (env : List (Option O)) (w : W) {P : O -> PSt -> Prop} : wG (some (some (.tup os))) i ⟨env, w⟩ P = P (.tup os) ⟨env.set i none, w⟩ := by walk_at "z"; first | exact jv' .. | (apply jv' <;> assumption)
theorem s8' (ks : List D) (os : List O) (i : Nat) (env : List (Option O)) (w : W) {P : O -> PSt -> Prop} : wG (some (some (.dct ks os))) i ⟨env, w⟩ P = P (.dct ks os) ⟨env.set i none, w⟩ := by walk_at "z"; first | exact jx' .. | (apply jx' <;> assumption)
theorem qI' (o : O) {P : O -> Prop} : wO (some (some o)) P = P o := by walk_at "z"; first | exact gH' .. | (apply gH' <;> assumption)
theorem s2' (os : List O) {P : List O -> Prop} : wL (some (some (.lst os))) P = P os := by walk_at "z"; first | exact js' .. | (apply js' <;> assumption)
theorem yb' (f : D -> D -> Option D) (a b : ME) : wE (eOp f a b ρ) P X = wE (a ρ) (fun x ρ1 => wE (b ρ1) (fun y ρ2 => wD (f x y) (fun z => P z ρ2)) X) X := by walk_at "z"; first | exact pN' .. | (apply pN' <;> assumption)
theorem x8' (f : D -> Option D) (a : ME) : wE (eUn f a ρ) P X = wE (a ρ) (fun x ρ1 => wD (f x) (fun z => P z ρ1)) X := by walk_at "z"; first | exact pK' .. | (apply pK' <;> assumption)
theorem vY' (a b : ME) : wE (nD' a b ρ) P X = wE (a ρ) (fun x ρ1 => wB x fun k => wI k (wE (b ρ1) P X) (P (.bl false) ρ1)) X := by walk_at "z"; first | exact lx' .. | (apply lx' <;> assumption)
theorem vT' (a : ME) : wE (sH' a ρ) P X = wE (a ρ) (fun x ρ1 => wB x fun k => P (.bl (!k)) ρ1) X := by walk_at "z"; first | exact ls' .. | (apply ls' <;> assumption)
theorem qE' (f g : D -> D -> Option D) (a b c : ME) : wE (eP' f g a b c ρ) P X = wE (a ρ) (fun x ρ1 => wE (b ρ1) (fun y ρ2 => wD (f x y) fun r => wB r fun k => wI k (wE (c ρ2) (fun z ρ3 => wD (g y z) fun v => P v ρ3) X) (P (.bl false) ρ2)) X) X := by walk_at "z"; first | exact gE' .. | (apply gE' <;> assumption)
theorem vU' {P : List D -> PSt -> Prop} : wE (ba' ρ) P X = P [] ρ := by walk_at "z"; first | exact lt' .. | (apply lt' <;> assumption)
theorem sU' (a : ME) (r : MA) {P : List D -> PSt -> Prop} : wE (ae' a r ρ) P X = wE (a ρ) (fun x ρ1 => wE (r ρ1) (fun xs ρ2 => P (x :: xs) ρ2) X) X := by walk_at "z"; first | exact jl' .. | (apply jl' <;> assumption)
theorem fS' {n : Nat} (h : n <= 16777216) (A : Prop) : kK' n A = A := by walk_at "z"; first | exact gI' .. | (apply gI' <;> assumption)
theorem vR' (as : MA) : wE (nC' as ρ) P X = wE (as ρ) (fun xs ρ1 => kK' xs.length (P (.tup xs) ρ1)) X := by walk_at "z"; first | exact lq' .. | (apply lq' <;> assumption)
theorem vV' (as : MA) : wE (hH' as ρ) P X = wE (as ρ) (fun xs ρ1 => kK' xs.length (P (.lst xs) ρ1)) X := by walk_at "z"; first | exact lu' .. | (apply lu' <;> assumption)
theorem yd' (f : Tx -> List D -> Option D) (a : ME) (as : MA) : wE (eMt f a as ρ) P X = wE (a ρ) (fun x ρ1 => wT x fun s => wE (as ρ1) (fun ds ρ2 => wD (f s ds) fun z => P z ρ2) X) X := by walk_at "z"; first | exact pP' .. | (apply pP' <;> assumption)
theorem s0' (s : Tx) {P : Tx -> Prop} : wT (.str s) P = P s := by walk_at "z"; first | exact jq' .. | (apply jq' <;> assumption)
theorem s1' (s : Int) {P : Int -> Prop} : wN (.int s) P = P s := by walk_at "z"; first | exact jr' .. | (apply jr' <;> assumption)
theorem yc' {P : Option Int -> PSt -> Prop} : wE (pNo ρ) P X = P none ρ := by walk_at "z"; first | exact pO' .. | (apply pO' <;> assumption)
theorem x9' (a : ME) {P : Option Int -> PSt -> Prop} : wE (pSo a ρ) P X = wE (a ρ) (fun x ρ1 => wN x fun i => P (some i) ρ1) X := by walk_at "z"; first | exact pL' .. | (apply pL' <;> assumption)
theorem ya' (a : ME) (lo hi : MP) : wE (eSl a lo hi ρ) P X = wE (a ρ) (fun x ρ1 => wE (lo ρ1) (fun l ρ2 => wE (hi ρ2) (fun h ρ3 => wD (pSl x l h) fun z => P z ρ3) X) X) X := by walk_at "z"; first | exact pM' .. | (apply pM' <;> assumption)
theorem x_O (a : MO) : wE (eO a ρ) P X = wE (a ρ) (fun o ρ1 => P (frz o) ρ1) X := by walk_at "z"; first | exact tc' .. | (apply tc' <;> assumption)
variable {R : O -> PSt -> Prop}
theorem x6' (a : ME) : wE (oE a ρ) R X = wE (a ρ) (fun d ρ1 => R (.fz d) ρ1) X := by walk_at "z"; first | exact pJ' .. | (apply pJ' <;> assumption)
theorem x5' (i : Nat) (env : List (Option O)) (w : W) : wE (oV i ⟨env, w⟩) R X = wG env[i]? i ⟨env, w⟩ R := by walk_at "z"; first | exact pI' .. | (apply pI' <;> assumption)
theorem sV' (f : MF) (as : MA) : wE (aO' f as ρ) R X = wE (as ρ) (fun ds ρ1 => wF (f ds ρ1.w) (fun o w => R o ⟨ρ1.env, w⟩) fun x w => X x ⟨ρ1.env, w⟩) X := by walk_at "z"; first | exact jm' .. | (apply jm' <;> assumption)
theorem sO' (a : ME) : wE (m5' a ρ) R X = wE (a ρ) (fun d ρ1 => wD (asL d) fun ds => R (.lst (ds.map .fz)) ρ1) X := by walk_at "z"; first | exact jf' .. | (apply jf' <;> assumption)
theorem qC' : wE (kZ' ρ) R X = R (.dct [] []) ρ := by walk_at "z"; first | exact gC' .. | (apply gC' <;> assumption)
theorem qD' (i : Nat) (a : ME) (env : List (Option O)) (w : W) : wE (hG' i a ⟨env, w⟩) P X = wL env[i]? fun _ => wE (a ⟨env, w⟩) (fun d ρ1 => wN d fun z => wL ρ1.env[i]? fun os => kK' os.length (wD (ixn os.length z) fun j => wD os[j]? fun o => wD (asF o) fun y => P y ⟨ρ1.env.set i (some (.lst (os.eraseIdx j))), ρ1.w⟩)) X := by walk_at "z"; first | exact gD' .. | (apply gD' <;> assumption)
theorem sT' (i : Nat) : wE (iH' i ρ) P X = wO ρ.env[i]? fun o => wD (nZ' o) fun z => P z ρ := by walk_at "z"; first | exact jk' .. | (apply jk' <;> assumption)
theorem vW' (a b : ME) : wE (gy' a b ρ) P X = wE (a ρ) (fun x ρ1 => wE (b ρ1) (fun y ρ2 => wD (ixW ρ2.w x y) fun z => P z ρ2) X) X := by walk_at "z"; first | exact lv' .. | (apply lv' <;> assumption)
theorem vS' (as : MA) : wE (t6' as ρ) R X = wE (as ρ) (fun xs ρ1 => kK' xs.length (R (.fz (.obj ρ1.w.length)) ⟨ρ1.env, ρ1.w ++ [.lst (xs.map .fz)]⟩)) X := by walk_at "z"; first | exact lr' .. | (apply lr' <;> assumption)
theorem vX' (cs : List String) (a : ME) (f : String) : wE (qt' cs a f ρ) P X = wE (a ρ) (fun x ρ1 => wD (gx' cs f ρ1.w x) fun z => P z ρ1) X := by walk_at "z"; first | exact lw' .. | (apply lw' <;> assumption)
theorem sS' (C : String) (init : MF) (as : MA) : wE (kY' C init as ρ) R X = wE (as ρ) (fun ds ρ1 => wF (init (.obj ρ1.w.length :: ds) (ρ1.w ++ [.ins C []])) (fun o w => o = .fz .non /\ R (.fz (.obj ρ1.w.length)) ⟨ρ1.env, w⟩) fun x w => X x ⟨ρ1.env, w⟩) X := by walk_at "z"; first | exact jj' .. | (apply jj' <;> assumption)
theorem sR' (C : List String) (m : String) (f : MF) (a : ME) (as : MA) : wE (e9' C m f a as ρ) R X = wE (a ρ) (fun x ρ1 => dg' C m ρ1.w x = true /\ wE (as ρ1) (fun ds ρ2 => wF (f (x :: ds) ρ2.w) (fun o w => R o ⟨ρ2.env, w⟩) fun x w => X x ⟨ρ2.env, w⟩) X) X := by walk_at "z"; first | exact ji' .. | (apply ji' <;> assumption)
theorem x7' (i : Nat) (cs : List String) (f : String) (x : Exc) : wE (eXf i cs f x ρ) P X = vX ρ.env[i]? (x.cls ∈ cs /\ wD (x.fs.lookup f) fun d => P d ρ) := by simp only [kN', kJ', kM', aA', oe', of', n8', oa', kI', kL', n9', oc', ek', ei', gB', ft', dt']; exact ta' ..
variable {B : Bool -> PSt -> Prop}
theorem x4' (a : ME) : wE (tE a ρ) B X = wE (a ρ) (fun d ρ1 => wB d fun k => B k ρ1) X := by walk_at "z"; first | exact pH' .. | (apply pH' <;> assumption)
theorem sM' (a : MT) : wE (fz' a ρ) B X = wE (a ρ) (fun k ρ1 => B (!k) ρ1) X := by walk_at "z"; first | exact jd' .. | (apply jd' <;> assumption)
theorem sN' (a b : MT) : wE (p5' a b ρ) B X = wE (a ρ) (fun k ρ1 => wI k (wE (b ρ1) B X) (B false ρ1)) X := by walk_at "z"; first | exact je' .. | (apply je' <;> assumption)
theorem vP' (a b : MT) : wE (tOr a b ρ) B X = wE (a ρ) (fun k ρ1 => wI k (B true ρ1) (wE (b ρ1) B X)) X := by walk_at "z"; first | exact lo' .. | (apply lo' <;> assumption)
theorem x3' : wE (tT ρ) B X = B true ρ := by walk_at "z"; first | exact pG' .. | (apply pG' <;> assumption)
variable {Y : List D -> PSt -> Prop}
theorem sQ' (a : ME) : wE (n0' a ρ) Y X = wE (a ρ) (fun d ρ1 => wD (cM' d) fun z => Y z ρ1) X := by walk_at "z"; first | exact jh' .. | (apply jh' <;> assumption)
theorem ll' (a : ME) : wE (br' a ρ) Y X = wE (a ρ) (fun d ρ1 => wD (dy' d) fun z => Y z ρ1) X := by walk_at "z"; first | exact en' .. | (apply en' <;> assumption)
theorem lk' (a b : ME) : wE (eM' a b ρ) Y X = wE (a ρ) (fun d ρ1 => wE (b ρ1) (fun e ρ2 => wD (dx' d e) fun z => Y z ρ2) X) X := by walk_at "z"; first | exact em' .. | (apply em' <;> assumption)
theorem sP' (a b : ME) : wE (ut' a b ρ) Y X = wE (a ρ) (fun d ρ1 => wE (b ρ1) (fun e ρ2 => wD (nV' d e) fun z => Y z ρ2) X) X := by walk_at "z"; first | exact jg' .. | (apply jg' <;> assumption)
theorem ye' (own : List Nat) (it : MI) (g : MG) (t : MT) (e : ME) : wE (eLc own it g t e ρ) P X = wE (it ρ) (fun xs ρ1 => wE (lcL own g t e xs [] ρ1) (fun ys ρ2 => P (.lst ys) ⟨back ρ1.env own (bo' own ρ2.env), ρ2.w⟩) X) X := by walk_at "z"; first | exact pQ' .. | (apply pQ' <;> assumption)
theorem vQ' (own : List Nat) (it : MI) (g : MG) (t : MT) (e : ME) : wE (oLc own it g t e ρ) R X = wE (it ρ) (fun xs ρ1 => wE (lcL own g t e xs [] ρ1) (fun ys ρ2 => R (.lst (ys.map .fz)) ⟨back ρ1.env own (bo' own ρ2.env), ρ2.w⟩) X) X := by walk_at "z"; first | exact lp' .. | (apply lp' <;> assumption)
variable {N : PSt -> Prop} {rt : O -> W -> Prop} {bk ct : PSt -> Prop} {ex : Exc -> PSt -> Prop}
theorem tw' : wS (aM' ρ) ⟨N, rt, bk, ct, ex⟩ = N ρ := by walk_at "z"; first | exact jA' .. | (apply jA' <;> assumption)
theorem tx' (a : ME) : wS (mH' a ρ) ⟨N, rt, bk, ct, ex⟩ = wE (a ρ) (fun _ ρ1 => N ρ1) ex := by walk_at "z"; first | exact jB' .. | (apply jB' <;> assumption)
theorem wf' (a : MO) : wS (bn' a ρ) ⟨N, rt, bk, ct, ex⟩ = wE (a ρ) (fun o ρ1 => rt o ρ1.w) ex := by walk_at "z"; first | exact lH' .. | (apply lH' <;> assumption)
theorem we' (a b : MS) : wS (aL' a b ρ) ⟨N, rt, bk, ct, ex⟩ = wS (a ρ) ⟨fun ρ1 => wS (b ρ1) ⟨N, rt, bk, ct, ex⟩, rt, bk, ct, ex⟩ := by walk_at "z"; first | exact ij' .. | (apply ij' <;> assumption)
theorem yh' (t : MT) (a b : MS) : wS (sIf t a b ρ) ⟨N, rt, bk, ct, ex⟩ = wE (t ρ) (fun k ρ1 => wI k (wS (a ρ1) ⟨N, rt, bk, ct, ex⟩) (wS (b ρ1) ⟨N, rt, bk, ct, ex⟩)) ex := by walk_at "z"; first | exact pT' .. | (apply pT' <;> assumption)
theorem qF' {i n : Nat} (h : i < n) (A : Prop) : qG' i n A = A := by walk_at "z"; first | exact gF' .. | (apply gF' <;> assumption)
theorem wd' (i : Nat) (a : MO) : wS (bl' i a ρ) ⟨N, rt, bk, ct, ex⟩ = wE (a ρ) (fun o ρ1 => qG' i ρ1.env.length (N ⟨ρ1.env.set i (some o), ρ1.w⟩)) ex := by walk_at "z"; first | exact lG' .. | (apply lG' <;> assumption)
theorem wi' (g : MG) (a : ME) : wS (ty' g a ρ) ⟨N, rt, bk, ct, ex⟩ = wE (a ρ) (fun d ρ1 => wD (g d ρ1) N) ex := by walk_at "z"; first | exact lK' .. | (apply lK' <;> assumption)
theorem oE' (x f : String) (a : ME) : wS (cO' x f a ρ) ⟨N, rt, bk, ct, ex⟩ = wE (a ρ) (fun d ρ1 => ex ⟨x, [(f, d)]⟩ ρ1) ex := by walk_at "z"; first | exact fu' .. | (apply fu' <;> assumption)
theorem wj' (i : Nat) (a : MO) : wS (qa' i a ρ) ⟨N, rt, bk, ct, ex⟩ = wL ρ.env[i]? fun _ => wE (a ρ) (fun o ρ1 => wL ρ1.env[i]? fun os => qG' os.length 16777216 (N ⟨ρ1.env.set i (some (.lst (os ++ [o]))), ρ1.w⟩)) ex := by walk_at "z"; first | exact lL' .. | (apply lL' <;> assumption)
theorem tv' (o k a : ME) : wS (f1' o k a ρ) ⟨N, rt, bk, ct, ex⟩ = wE (a ρ) (fun d ρ1 => wE (o ρ1) (fun x ρ2 => wE (k ρ2) (fun y ρ3 => wD (oq' ρ3.w x y d) fun w => N ⟨ρ3.env, w⟩) ex) ex) ex := by walk_at "z"; first | exact jz' .. | (apply jz' <;> assumption)
theorem oy' (w : W) (b : Ob) (n : Nat) : yf' w b (.obj n) = w.set n b := rfl
theorem wh' (cs : List String) (a : ME) (f : String) (v : MO) : wS (sFld cs a f v ρ) ⟨N, rt, bk, ct, ex⟩ = wE (v ρ) (fun o ρ1 => wE (a ρ1) (fun x ρ2 => wD (stF cs f o ρ2.w x) fun w => N ⟨ρ2.env, w⟩) ex) ex := by walk_at "z"; first | exact lJ' .. | (apply lJ' <;> assumption)
theorem wg' (it : MI) (g : MG) (b : MS) : wS (gs' it g b ρ) ⟨N, rt, bk, ct, ex⟩ = wE (it ρ) (fun ds ρ1 => wS (gw' g b ds ρ1) ⟨N, rt, bk, ct, ex⟩) ex := by walk_at "z"; first | exact lI' .. | (apply lI' <;> assumption)
theorem q9' (i m : Nat) (b : MS) (g : String -> Option Bool) (h : Exc -> MS) : wS (fE' i m b g h ρ) ⟨N, rt, bk, ct, ex⟩ = wS (b ρ) ⟨N, rt, bk, ct, fun x ρ1 => wD (g x.cls) fun k => wI k (wC (ρ1.env.length = i + m + 1) (wS (h x ⟨ρ1.env.set i (some .exn), ρ1.w⟩) ⟨fun ρ => wC (ρ.env.length = i + m + 1) (N ⟨ρ.env.set i none, ρ.w⟩), rt, fun ρ => wC (ρ.env.length = i + m + 1) (bk ⟨ρ.env.set i none, ρ.w⟩), fun ρ => wC (ρ.env.length = i + m + 1) (ct ⟨ρ.env.set i none, ρ.w⟩), fun _ _ => False⟩)) (ex x ρ1)⟩ := by simp only [kN', kJ', kM', aA', oe', of', n8', oa', kI', kL', n9', oc', ek', ei', gB', ft', dt']; exact lF' ..
theorem tZ' {k n : Nat} {b : MS} {ds : List D} {w : W} {Q : O -> W -> Prop} {X : Exc -> W -> Prop} (q : wS (b ⟨ds.map (fun d => some (.fz d)) ++ List.replicate (n - k) none, w⟩) ⟨fun ρ => Q (.fz .non) ρ.w, Q, fun _ => False, fun _ => False, fun x ρ => X x ρ.w⟩) (h : ds.length = k) : wF (fnM k n b ds w) Q X := by walk_at "z"; first | exact jC' .. | (apply jC' <;> assumption)
theorem v7' (o : O) (w : W) {Q : O -> W -> Prop} {X : Exc -> W -> Prop} : wF (.ok o w) Q X = Q o w := by walk_at "z"; first | exact lB' .. | (apply lB' <;> assumption)
theorem s9' (x : Exc) (w : W) {Q : O -> W -> Prop} {X : Exc -> W -> Prop} : wF (.exc x w) Q X = X x w := by walk_at "z"; first | exact jy' .. | (apply jy' <;> assumption)
theorem wF.mono {r : FRes} {Q Q' : O -> W -> Prop} {X : Exc -> W -> Prop} (h : wF r Q FX) (k : ∀ o w, Q o w -> Q' o w) : wF r Q' X := by walk_at "z"; first | exact vF.mono .. | (apply vF.mono <;> assumption)
theorem wF.monoX {r : FRes} {Q Q' : O -> W -> Prop} {X X' : Exc -> W -> Prop} (h : wF r Q X) (k : ∀ o w, Q o w -> Q' o w) (k2 : ∀ x w, X x w -> X' x w) : wF r Q' X' := by walk_at "z"; first | exact vF.monoX .. | (apply vF.monoX <;> assumption)
theorem wF.exi {r : FRes} {Q : O -> W -> Prop} (h : wF r Q FX) : ∃ o w, r = .ok o w /\ Q o w := by walk_at "z"; first | exact vF.exi .. | (apply vF.exi <;> assumption)
theorem wF.of {r : FRes} {Q : O -> W -> Prop} {X : Exc -> W -> Prop} {o : O} {w : W} (e : r = .ok o w) (h : Q o w) : wF r Q X := by walk_at "z"; first | exact vF.of .. | (apply vF.of <;> assumption)
theorem wS.mono {o : Out} {D1 D2 : En} (h : wS o D1) (h1 : ∀ ρ, D1.nx ρ -> D2.nx ρ) (h2 : ∀ o w, D1.rt o w -> D2.rt o w) (h3 : ∀ ρ, D1.bk ρ -> D2.bk ρ) (h4 : ∀ ρ, D1.ct ρ -> D2.ct ρ) (h5 : ∀ x ρ, D1.ex x ρ -> D2.ex x ρ) : wS o D2 := by walk_at "z"; first | exact vS.mono .. | (apply vS.mono <;> assumption)
theorem wE.mono {r : Res α} {Q Q' : α -> PSt -> Prop} {X X' : Exc -> PSt -> Prop} (h : wE r Q X) (k : ∀ a ρ, Q a ρ -> Q' a ρ) (k2 : ∀ x ρ, X x ρ -> X' x ρ) : wE r Q' X' := by walk_at "z"; first | exact vE.mono .. | (apply vE.mono <;> assumption)
theorem q4' {a b : MS} (J : PSt -> Prop) (h : wS (a ρ) ⟨J, rt, bk, ct, ex⟩) (k : ∀ ρ1, J ρ1 -> wS (b ρ1) ⟨N, rt, bk, ct, ex⟩) : wS (aL' a b ρ) ⟨N, rt, bk, ct, ex⟩ := by walk_at "z"; first | exact gL' .. | (apply gL' <;> assumption)
theorem an' {p : Prop} [Decidable p] {A B : Prop} (h1 : p -> A) (h2 : ¬ p -> B) : wI (decide p) A B := by walk_at "z"; first | exact ju' .. | (apply ju' <;> assumption)
theorem nz' {g : MG} {b : MS} {ds : List D} (Inv : List D -> PSt -> Prop) (h0 : Inv [] ρ)
    (step : ∀ pre d post ρ, ds = pre ++ d :: post -> Inv pre ρ -> wD (g d ρ) fun ρ1 => wS (b ρ1) ⟨Inv (pre ++ [d]), rt, N, Inv (pre ++ [d]), ex⟩)
    (hend : ∀ ρ, Inv ds ρ -> N ρ) : wS (gw' g b ds ρ) ⟨N, rt, bk, ct, ex⟩ := by walk_at "z"; first | exact gN' .. | (apply gN' <;> assumption)
theorem eN' {γ : Type} {g : MG} {b : MS} {f : γ -> D} {cs : List γ} (Inv : List γ -> PSt -> Prop) (h0 : Inv [] ρ)
    (step : ∀ pre c post ρ, cs = pre ++ c :: post -> Inv pre ρ -> wD (g (f c) ρ) fun ρ1 => wS (b ρ1) ⟨Inv (pre ++ [c]), rt, N, Inv (pre ++ [c]), ex⟩)
    (hend : ∀ ρ, Inv cs ρ -> N ρ) : wS (gw' g b (cs.map f) ρ) ⟨N, rt, bk, ct, ex⟩ := by walk_at "z"; first | exact eo' .. | (apply eo' <;> assumption)
theorem cd' {g : MG} {b : MS} {lo : Int} {n : Nat} (Inv : Nat -> PSt -> Prop) (h0 : Inv 0 ρ)
    (step : ∀ k ρ, k < n -> Inv k ρ -> wD (g (.int (lo + (k : Nat))) ρ) fun ρ1 => wS (b ρ1) ⟨Inv (k + 1), rt, N, Inv (k + 1), ex⟩)
    (hend : ∀ ρ, Inv n ρ -> N ρ) : wS (gw' g b (rgI lo n) ρ) ⟨N, rt, bk, ct, ex⟩ := by walk_at "z"; first | exact gM' .. | (apply gM' <;> assumption)
theorem hB' {own : List Nat} {g : MG} {t : MT} {e : ME} {γ : Type} {f : γ -> D} {cs : List γ} {Q : List D -> PSt -> Prop} (hl : cs.length <= 16777216) (Inv : List γ -> List D -> PSt -> Prop) (h0 : Inv [] [] ρ)
    (step : ∀ pre c post acc ρ, cs = pre ++ c :: post -> Inv pre acc ρ -> wD (g (f c) ⟨bo' own ρ.env, ρ.w⟩) fun ρ1 => wE (t ρ1) (fun k ρ2 => wI k (wE (e ρ2) (fun y ρ3 => Inv (pre ++ [c]) (acc ++ [y]) ρ3) PX) (Inv (pre ++ [c]) acc ρ2)) PX)
    (hend : ∀ acc ρ, Inv cs acc ρ -> Q acc ρ) : wE (lcL own g t e (cs.map f) [] ρ) Q X := by walk_at "z"; first | exact jD' .. | (apply jD' <;> assumption)
end
theorem qJ' (C : String) (fs : List (String × O)) {P : String -> List (String × O) -> Prop} : vz' (some (.ins C fs)) P = P C fs := by simp only [dt']; exact lz' ..
theorem wK' (cs : List String) (f : String) (o : O) (w : W) (n : Nat) {N : W -> Prop} : wD (stF cs f o w (.obj n)) N = vz' w[n]? (fun C fs => wC (C ∈ cs /\ fs.length < 1000) (N (w.set n (.ins C (nX' f o fs))))) := by simp only [aA', dt', gB']; exact qQ' ..
theorem oh' (w : W) (n : Nat) {Q : List O -> Prop} : vD (xU' w (.obj n)) Q = vOb w[n]? Q := by
  show vD (match w[n]? with | some (.lst os) => some os | _ => none) Q = _
  rcases w[n]? with _ | b
  . rfl
  cases b <;> rfl
theorem u1' (w : W) (n : Nat) {Q : List O -> Prop} : wD (xU' w (.obj n)) Q = wOb w[n]? Q := by simp only [kN', kJ', kM', aA', ft']; exact oh' w n
theorem oi' (w : W) (n : Nat) {Q : D -> Prop} : vD (xV' w (.obj n)) Q = vOb w[n]? fun os => Q (.int os.length) := by
  show vD (match w[n]? with | some (.lst os) => some (.int os.length) | _ => none) Q = _
  rcases w[n]? with _ | b
  . rfl
  cases b <;> rfl
theorem u4' (w : W) (n : Nat) {Q : D -> Prop} : wD (xV' w (.obj n)) Q = wOb w[n]? fun os => Q (.int os.length) := by simp only [kN', kJ', kM', aA', ft']; exact oi' w n
theorem qH' (os : List O) {P : List O -> Prop} : wOb (some (.lst os)) P = P os := by walk_at "z"; first | exact gG' .. | (apply gG' <;> assumption)
theorem qM' {c : Prop} (h : c) (A : Prop) : wC c A = A := by walk_at "z"; first | exact lD' .. | (apply lD' <;> assumption)
theorem qL' (A : Prop) : wC True A = A := by walk_at "z"; first | exact gK' .. | (apply gK' <;> assumption)
theorem cW' {α : Type} {c : Prop} [Decidable c] {x : α} {Q : α -> Prop} : wD (if c then some x else none) Q = wC c (Q x) := by walk_at "z"; first | exact aQ' .. | (apply aQ' <;> assumption)
theorem gA' {α β : Type} {f : α -> β} {o : Option α} {Q : β -> Prop} : wD (o.map f) Q = wD o (fun a => Q (f a)) := by walk_at "z"; first | exact cA' .. | (apply cA' <;> assumption)
section
variable {Q : D -> Prop} {Y : List D -> Prop}
theorem vi' (i j : Int) : wD (bw' (.int i) (.int j)) Q = Q (.int (i + j)) := by walk_at "z"; first | exact j6' .. | (apply j6' <;> assumption)
theorem vg' (a b : Tx) : wD (bw' (.str a) (.str b)) Q = kK' (a.length + b.length) (Q (.str (a ++ b))) := by walk_at "z"; first | exact j4' .. | (apply j4' <;> assumption)
theorem vh' (a b : List D) : wD (bw' (.lst a) (.lst b)) Q = kK' (a.length + b.length) (Q (.lst (a ++ b))) := by walk_at "z"; first | exact j5' .. | (apply j5' <;> assumption)
theorem qx' (a b : List D) : wD (bw' (.tup a) (.tup b)) Q = kK' (a.length + b.length) (Q (.tup (a ++ b))) := by walk_at "z"; first | exact j3' .. | (apply j3' <;> assumption)
theorem sm' (i j : Int) : wD (tW' (.int i) (.int j)) Q = Q (.int (i + j)) := by walk_at "z"; first | exact gY' .. | (apply gY' <;> assumption)
theorem wI' (i j : Int) : wD (kW' (.int i) (.int j)) Q = Q (.int (i - j)) := by walk_at "z"; first | exact lN' .. | (apply lN' <;> assumption)
theorem wZ' (i j : Int) : wD (ix' (.int i) (.int j)) Q = wC (((-18446744073709551616 < i /\ i < 18446744073709551616) \/ (-18446744073709551616 < j /\ j < 18446744073709551616)) \/ ((-2582249878086908589655919172003011874329705792829223512830659356540647622016841194629645353280137831435903171972747493376 < i /\ i < 2582249878086908589655919172003011874329705792829223512830659356540647622016841194629645353280137831435903171972747493376) /\ (-2582249878086908589655919172003011874329705792829223512830659356540647622016841194629645353280137831435903171972747493376 < j /\ j < 2582249878086908589655919172003011874329705792829223512830659356540647622016841194629645353280137831435903171972747493376))) (Q (.int (i * j))) := by walk_at "z"; first | exact lY' .. | (apply lY' <;> assumption)
theorem uZ' (a : Tx) (j : Int) : wD (ix' (.str a) (.int j)) Q = wC (j < 4611686018427387904 /\ -4611686018427387904 <= j /\ a.length * j.toNat <= 16777216) (Q (.str (List.replicate j.toNat a).flatten)) := by walk_at "z"; first | exact jR' .. | (apply jR' <;> assumption)
theorem u0' (a : List D) (j : Int) : wD (ix' (.lst a) (.int j)) Q = wC (j < 4611686018427387904 /\ -4611686018427387904 <= j /\ a.length * j.toNat <= 16777216) (Q (.lst (List.replicate j.toNat a).flatten)) := by walk_at "z"; first | exact jS' .. | (apply jS' <;> assumption)
theorem vf' (i j : Int) : wD (e7' (.int i) (.int j)) Q = wC (0 < j /\ j < 1606938044258990275541962092341162602522202993782792835301376) (Q (.int (i / j))) := by walk_at "z"; first | exact j2' .. | (apply j2' <;> assumption)
theorem w0' (i j : Int) : wD (gt' (.int i) (.int j)) Q = wC (0 < j) (Q (.int (i % j))) := by walk_at "z"; first | exact lZ' .. | (apply lZ' <;> assumption)
theorem wT' (i j : Int) : wD (tU' (.int i) (.int j)) Q = wC (0 <= j /\ j <= 1000 /\ -18446744073709551616 < i /\ i < 18446744073709551616) (Q (.int (i ^ j.toNat))) := by walk_at "z"; first | exact lU' .. | (apply lU' <;> assumption)
theorem wU' (i : Int) : wD (tV' (.int i)) Q = Q (.int (-i)) := by walk_at "z"; first | exact lV' .. | (apply lV' <;> assumption)
theorem xm' (i j : Int) : wD (pEq (.int i) (.int j)) Q = Q (.bl (decide (i = j))) := by walk_at "z"; first | exact mk' .. | (apply mk' <;> assumption)
theorem xl' (i j : Tx) : wD (pEq (.str i) (.str j)) Q = Q (.bl (decide (i = j))) := by walk_at "z"; first | exact mj' .. | (apply mj' <;> assumption)
theorem xn' (i j : Bool) : wD (pEq (.bl i) (.bl j)) Q = Q (.bl (i == j)) := by walk_at "z"; first | exact ml' .. | (apply ml' <;> assumption)
theorem wX' (i j : Int) : wD (pNe (.int i) (.int j)) Q = Q (.bl (!decide (i = j))) := by walk_at "z"; first | exact lX' .. | (apply lX' <;> assumption)
theorem wV' (i j : Tx) : wD (pNe (.str i) (.str j)) Q = Q (.bl (!decide (i = j))) := by walk_at "z"; first | exact lW' .. | (apply lW' <;> assumption)
theorem xb' (x : D) : wD (pIs x .non) Q = Q (.bl (cT' x)) := by walk_at "z"; first | exact mc' .. | (apply mc' <;> assumption)
theorem xc' (x y : Bool) : wD (pIs (.bl x) (.bl y)) Q = Q (.bl (x == y)) := by walk_at "z"; first | exact md' .. | (apply md' <;> assumption)
theorem po' (x : D) : wD (eC' x .non) Q = Q (.bl (!cT' x)) := by walk_at "z"; first | exact fx' .. | (apply fx' <;> assumption)
theorem pp' (x y : Bool) : wD (eC' (.bl x) (.bl y)) Q = Q (.bl (!(x == y))) := by walk_at "z"; first | exact fy' .. | (apply fy' <;> assumption)
theorem yv' (i j : Int) : wD (pLt (.int i) (.int j)) Q = Q (.bl (decide (i < j))) := by walk_at "z"; first | exact pU' .. | (apply pU' <;> assumption)
theorem yw' (i j : Int) : wD (pLe (.int i) (.int j)) Q = Q (.bl (decide (i <= j))) := by walk_at "z"; first | exact pV' .. | (apply pV' <;> assumption)
theorem yx' (i j : Int) : wD (pGt (.int i) (.int j)) Q = Q (.bl (decide (j < i))) := by walk_at "z"; first | exact pW' .. | (apply pW' <;> assumption)
theorem yz' (i j : Int) : wD (pGe (.int i) (.int j)) Q = Q (.bl (decide (j <= i))) := by walk_at "z"; first | exact pY' .. | (apply pY' <;> assumption)
theorem w4' (i j : Tx) : wD (pLt (.str i) (.str j)) Q = Q (.bl (decide (i < j))) := by walk_at "z"; first | exact l4' .. | (apply l4' <;> assumption)
theorem w5' (i j : Tx) : wD (pLe (.str i) (.str j)) Q = Q (.bl (!decide (j < i))) := by walk_at "z"; first | exact l5' .. | (apply l5' <;> assumption)
theorem xf' (i j : Tx) : wD (pGt (.str i) (.str j)) Q = Q (.bl (decide (j < i))) := by walk_at "z"; first | exact mg' .. | (apply mg' <;> assumption)
theorem xh' (i j : Tx) : wD (pGe (.str i) (.str j)) Q = Q (.bl (!decide (i < j))) := by walk_at "z"; first | exact mi' .. | (apply mi' <;> assumption)
theorem xe' (c : Nat) (s : Tx) : wD (pIn (.str [c]) (.str s)) Q = Q (.bl (decide (c ∈ s))) := by walk_at "z"; first | exact mf' .. | (apply mf' <;> assumption)
theorem uW' (c : Nat) (s : Tx) : wD (dM' (.str [c]) (.str s)) Q = Q (.bl (!decide (c ∈ s))) := by walk_at "z"; first | exact jQ' .. | (apply jQ' <;> assumption)
theorem qv' (i : Int) (ns : List Int) : wD (pIn (.int i) (.tup (ns.map .int))) Q = Q (.bl (decide (i ∈ ns))) := by walk_at "z"; first | exact jZ' .. | (apply jZ' <;> assumption)
theorem qw' (i : Int) (ns : List Int) : wD (pIn (.int i) (.lst (ns.map .int))) Q = Q (.bl (decide (i ∈ ns))) := by walk_at "z"; first | exact j0' .. | (apply j0' <;> assumption)
theorem u5' (s : Tx) : wD (b9' (.str s)) Q = Q (.int s.length) := by walk_at "z"; first | exact jV' .. | (apply jV' <;> assumption)
theorem u7' (s : List D) : wD (b9' (.lst s)) Q = Q (.int s.length) := by walk_at "z"; first | exact jW' .. | (apply jW' <;> assumption)
theorem kw' (s : List D) : wD (b9' (.tup s)) Q = Q (.int s.length) := by walk_at "z"; first | exact jU' .. | (apply jU' <;> assumption)
theorem w7' (s : Tx) (i : Int) : wD (pIx (.str s) (.int i)) Q = wD (ati s i) (fun c => Q (.str [c])) := by walk_at "z"; first | exact l8' .. | (apply l8' <;> assumption)
theorem xa' (s : List D) (i : Int) : wD (pIx (.lst s) (.int i)) Q = wD (ati s i) Q := by walk_at "z"; first | exact ma' .. | (apply ma' <;> assumption)
theorem pn' (s : List D) (i : Int) : wD (pIx (.tup s) (.int i)) Q = wD (ati s i) Q := by walk_at "z"; first | exact l7' .. | (apply l7' <;> assumption)
theorem wM' (s : Tx) (lo hi : Option Int) : wD (pSl (.str s) lo hi) Q = Q (.str (cut s lo hi)) := by walk_at "z"; first | exact lP' .. | (apply lP' <;> assumption)
theorem wO' (s : List D) (lo hi : Option Int) : wD (pSl (.lst s) lo hi) Q = Q (.lst (cut s lo hi)) := by walk_at "z"; first | exact lR' .. | (apply lR' <;> assumption)
theorem wL' (s : List D) (lo hi : Option Int) : wD (pSl (.tup s) lo hi) Q = Q (.tup (cut s lo hi)) := by walk_at "z"; first | exact lO' .. | (apply lO' <;> assumption)
theorem wN' (s : List D) (lo hi : Option Int) : wD (pSl (.scr s) lo hi) Q = Q (.lst (cut s lo hi)) := by walk_at "z"; first | exact lQ' .. | (apply lQ' <;> assumption)
theorem uR' (s : Tx) : wD (sz' (.str s)) Q = Q (.str s.reverse) := by walk_at "z"; first | exact jO' .. | (apply jO' <;> assumption)
theorem uS' (s : List D) : wD (sz' (.lst s)) Q = Q (.lst s.reverse) := by walk_at "z"; first | exact jP' .. | (apply jP' <;> assumption)
theorem u9' (l : List Tx) : wD (hA' [] [.lst (l.map .str)]) Q = kK' (l.map List.length).sum (Q (.str l.flatten)) := by walk_at "z"; first | exact fT' .. | (apply fT' <;> assumption)
theorem sf' (l : Tx) : wD (hA' [] [.lst (l.map chD)]) Q = kK' l.length (Q (.str l)) := by walk_at "z"; first | exact gW' .. | (apply gW' <;> assumption)
theorem ve' (a b : Tx) : wD (ud' a [.str b]) Q = Q (.int (fnd (sG' a b))) := by walk_at "z"; first | exact j1' .. | (apply j1' <;> assumption)
theorem sj' (a b : Tx) : wD (ql' a [.str b]) Q = wD (sG' a b) (fun i => Q (.int (i : Nat))) := by walk_at "z"; first | exact gX' .. | (apply gX' <;> assumption)
theorem r1' (s : Tx) : wD (hh' (.str s)) Q = wC (s.all (fun c => decide (c < 128)) = true /\ s.length <= 5592405) (Q (.str (s.map up1))) := by walk_at "z"; first | exact gO' .. | (apply gO' <;> assumption)
theorem xd' (i : Int) : wD (gu' (.int i)) Q = Q (.int i) := by walk_at "z"; first | exact me' .. | (apply me' <;> assumption)
theorem vc' (b : Bool) : wD (gu' (.bl b)) Q = Q (.int (if b then 1 else 0)) := by walk_at "z"; first | exact jY' .. | (apply jY' <;> assumption)
theorem xv' (i : Int) : wD (vI' (.int i)) Q = Q (.int (if i < 0 then -i else i)) := by walk_at "z"; first | exact ms' .. | (apply ms' <;> assumption)
theorem w3' (i j : Int) : wD (iy' (.int i) (.int j)) Q = Q (.int (max i j)) := by walk_at "z"; first | exact l1' .. | (apply l1' <;> assumption)
theorem w2' (i j : Int) : wD (kX' (.int i) (.int j)) Q = Q (.int (min i j)) := by walk_at "z"; first | exact l0' .. | (apply l0' <;> assumption)
theorem uM' (s : List D) : wD (c3' (.lst s)) Q = Q (.tup s) := by walk_at "z"; first | exact jJ' .. | (apply jJ' <;> assumption)
theorem uK' (s : List D) : wD (c3' (.tup s)) Q = Q (.tup s) := by walk_at "z"; first | exact jI' .. | (apply jI' <;> assumption)
theorem sa' (s : List D) : wD (bZ' (.lst s)) Q = Q (.lst s) := by walk_at "z"; first | exact gT' .. | (apply gT' <;> assumption)
theorem r9' (s : List D) : wD (bZ' (.tup s)) Q = Q (.lst s) := by walk_at "z"; first | exact gS' .. | (apply gS' <;> assumption)
theorem r4' (s : Tx) : wD (cp' (.str s)) Q = wC (s.length < 64) (Q (.lst ((ck' s).map chD))) := by walk_at "z"; first | exact gP' .. | (apply gP' <;> assumption)
theorem a8' (t : String) (d : D) : wD (bt' t d) Q = wD (tyn d) (fun n => Q (.bl (n == t || (n == "bool" && t == "int")))) := by walk_at "z"; first | exact mb' .. | (apply mb' <;> assumption)
theorem wH' (l : List Int) : wD (xQ' (.lst (l.map .int))) Q = Q (.int l.sum) := by walk_at "z"; first | exact lM' .. | (apply lM' <;> assumption)
theorem xu' (l : List Bool) : wD (sB' (.lst (l.map .bl))) Q = Q (.bl (l.all id)) := by walk_at "z"; first | exact mr' .. | (apply mr' <;> assumption)
theorem xt' (l : List Bool) : wD (xR' (.lst (l.map .bl))) Q = Q (.bl (l.any id)) := by walk_at "z"; first | exact mq' .. | (apply mq' <;> assumption)
theorem uP' (s : List D) : wD (cM' (.lst s)) Y = Y s := by walk_at "z"; first | exact jN' .. | (apply jN' <;> assumption)
theorem kv' (s : List D) : wD (cM' (.tup s)) Y = Y s := by walk_at "z"; first | exact jL' .. | (apply jL' <;> assumption)
theorem uO' (s : Tx) : wD (cM' (.str s)) Y = Y (s.map chD) := by walk_at "z"; first | exact jM' .. | (apply jM' <;> assumption)
theorem wS' (j : Int) : wD (dy' (.int j)) Y = wC (-4611686018427387904 <= j /\ j < 4611686018427387904) (Y (rgI 0 j.toNat)) := by walk_at "z"; first | exact lT' .. | (apply lT' <;> assumption)
theorem wR' (i j : Int) : wD (dx' (.int i) (.int j)) Y = wC ((-4611686018427387904 <= i /\ i < 4611686018427387904) /\ (-4611686018427387904 <= j /\ j < 4611686018427387904)) (Y (rgI i (j - i).toNat)) := by walk_at "z"; first | exact lS' .. | (apply lS' <;> assumption)
theorem uF' (a b : Tx) : wD (nV' (.str a) (.str b)) Y = Y (cz' (a.map chD) (b.map chD)) := by walk_at "z"; first | exact jF' .. | (apply jF' <;> assumption)
theorem uI' (a b : List D) : wD (nV' (.lst a) (.lst b)) Y = Y (cz' a b) := by walk_at "z"; first | exact jH' .. | (apply jH' <;> assumption)
theorem uE' (a b : List D) : wD (nV' (.tup a) (.tup b)) Y = Y (cz' a b) := by walk_at "z"; first | exact jE' .. | (apply jE' <;> assumption)
theorem uH' (a : Tx) (b : List D) : wD (xG' (.str a) (.tup b)) Y = Y (cz' (a.map chD) b) := by walk_at "z"; first | exact jG' .. | (apply jG' <;> assumption)
theorem xo' (a : Tx) : wD (enB (.str a)) Y = Y (iG' 0 (a.map chD)) := by walk_at "z"; first | exact mm' .. | (apply mm' <;> assumption)
theorem xp' (a : List D) : wD (enB (.lst a)) Y = Y (iG' 0 a) := by walk_at "z"; first | exact mn' .. | (apply mn' <;> assumption)
theorem r6' (a : List D) : wD (vG' (.lst a)) Y = Y a.reverse := by walk_at "z"; first | exact gR' .. | (apply gR' <;> assumption)
theorem r5' (a : List D) : wD (vG' (.tup a)) Y = Y a.reverse := by walk_at "z"; first | exact gQ' .. | (apply gQ' <;> assumption)
theorem u2' (j : Int) : wD (c4' (.int j)) Q = wC (RgB 0 j = true) (Q (.lst (dh' 0 j))) := by walk_at "z"; first | exact jT' .. | (apply jT' <;> assumption)
theorem yB' (i : Nat) (d : D) (env : List (Option O)) (w : W) {N : PSt -> Prop} : wD (gN i d ⟨env, w⟩) N = qG' i env.length (N ⟨env.set i (some (.fz d)), w⟩) := by walk_at "z"; first | exact p0' .. | (apply p0' <;> assumption)
theorem yA' (is : List Nat) (ds : List D) (ρ : PSt) {N : PSt -> Prop} : wD (gT is (.tup ds) ρ) N = wD (gNs is ds ρ) N := by walk_at "z"; first | exact pZ' .. | (apply pZ' <;> assumption)
theorem xg' (ρ : PSt) {N : PSt -> Prop} : wD (gNs [] [] ρ) N = N ρ := by walk_at "z"; first | exact mh' .. | (apply mh' <;> assumption)
theorem yy' (i : Nat) (is : List Nat) (d : D) (ds : List D) (ρ : PSt) {N : PSt -> Prop} : wD (gNs (i :: is) (d :: ds) ρ) N = wD (gN i d ρ) (fun ρ1 => wD (gNs is ds ρ1) N) := by walk_at "z"; first | exact pX' .. | (apply pX' <;> assumption)
theorem w6' (w : W) (n : Nat) (k : D) : wD (ixW w (.obj n) k) Q = wOb w[n]? (fun os => wD (ixO (.lst os) k) Q) := by walk_at "z"; first | exact l6' .. | (apply l6' <;> assumption)
theorem w8' (os : List O) (i : Int) : wD (ixO (.lst os) (.int i)) Q = wD (ati os i) (fun o => wD (asF o) Q) := by walk_at "z"; first | exact l9' .. | (apply l9' <;> assumption)
theorem xs' (d : D) : wD (asF (.fz d)) Q = Q d := by walk_at "z"; first | exact mp' .. | (apply mp' <;> assumption)
theorem xr' (d : List D) {Q : List D -> Prop} : wD (asL (.lst d)) Q = Q d := by walk_at "z"; first | exact mo' .. | (apply mo' <;> assumption)
theorem va' (d k : D) : wD (ixO (.fz d) k) Q = wD (pIx d k) Q := by walk_at "z"; first | exact jX' .. | (apply jX' <;> assumption)
theorem uN' (w : W) (n : Nat) (z : Int) (d : D) {N : W -> Prop} : wD (oq' w (.obj n) (.int z) d) N = wOb w[n]? (fun os => wD (ixn os.length z) (fun j => N (w.set n (.lst (os.set j (.fz d)))))) := by walk_at "z"; first | exact jK' .. | (apply jK' <;> assumption)
theorem sc' (os : List O) : wD (nZ' (.lst os)) Q = Q (.int os.length) := by walk_at "z"; first | exact gU' .. | (apply gU' <;> assumption)
theorem sd' (d : D) : wD (nZ' (.fz d)) Q = wD (b9' d) Q := by walk_at "z"; first | exact gV' .. | (apply gV' <;> assumption)
end
theorem iR'  {Q : D -> Prop} : wD (bt' "int" .non) Q = Q (.bl false) := by rw [a8', aA']; rfl
theorem k7' (a : Bool) {Q : D -> Prop} : wD (bt' "int" (.bl a)) Q = Q (.bl true) := by rw [a8', aA']; rfl
theorem iT' (a : Int) {Q : D -> Prop} : wD (bt' "int" (.int a)) Q = Q (.bl true) := by rw [a8', aA']; rfl
theorem iQ' (a : Tx) {Q : D -> Prop} : wD (bt' "int" (.str a)) Q = Q (.bl false) := by rw [a8', aA']; rfl
theorem iP' (a : List D) {Q : D -> Prop} : wD (bt' "int" (.tup a)) Q = Q (.bl false) := by rw [a8', aA']; rfl
theorem iS' (a : List D) {Q : D -> Prop} : wD (bt' "int" (.lst a)) Q = Q (.bl false) := by rw [a8', aA']; rfl
theorem iU' (a b : List D) {Q : D -> Prop} : wD (bt' "int" (.dct a b)) Q = Q (.bl false) := by rw [a8', aA']; rfl
theorem hY'  {Q : D -> Prop} : wD (bt' "bool" .non) Q = Q (.bl false) := by rw [a8', aA']; rfl
theorem iW' (a : Bool) {Q : D -> Prop} : wD (bt' "bool" (.bl a)) Q = Q (.bl true) := by rw [a8', aA']; rfl
theorem h0' (a : Int) {Q : D -> Prop} : wD (bt' "bool" (.int a)) Q = Q (.bl false) := by rw [a8', aA']; rfl
theorem hX' (a : Tx) {Q : D -> Prop} : wD (bt' "bool" (.str a)) Q = Q (.bl false) := by rw [a8', aA']; rfl
theorem hW' (a : List D) {Q : D -> Prop} : wD (bt' "bool" (.tup a)) Q = Q (.bl false) := by rw [a8', aA']; rfl
theorem hZ' (a : List D) {Q : D -> Prop} : wD (bt' "bool" (.lst a)) Q = Q (.bl false) := by rw [a8', aA']; rfl
theorem h3' (a b : List D) {Q : D -> Prop} : wD (bt' "bool" (.dct a b)) Q = Q (.bl false) := by rw [a8', aA']; rfl
theorem iK'  {Q : D -> Prop} : wD (bt' "str" .non) Q = Q (.bl false) := by rw [a8', aA']; rfl
theorem k6' (a : Bool) {Q : D -> Prop} : wD (bt' "str" (.bl a)) Q = Q (.bl false) := by rw [a8', aA']; rfl
theorem iM' (a : Int) {Q : D -> Prop} : wD (bt' "str" (.int a)) Q = Q (.bl false) := by rw [a8', aA']; rfl
theorem iJ' (a : Tx) {Q : D -> Prop} : wD (bt' "str" (.str a)) Q = Q (.bl true) := by rw [a8', aA']; rfl
theorem iI' (a : List D) {Q : D -> Prop} : wD (bt' "str" (.tup a)) Q = Q (.bl false) := by rw [a8', aA']; rfl
theorem iL' (a : List D) {Q : D -> Prop} : wD (bt' "str" (.lst a)) Q = Q (.bl false) := by rw [a8', aA']; rfl
theorem iN' (a b : List D) {Q : D -> Prop} : wD (bt' "str" (.dct a b)) Q = Q (.bl false) := by rw [a8', aA']; rfl
theorem gl'  {Q : D -> Prop} : wD (bt' "tuple" .non) Q = Q (.bl false) := by rw [a8', aA']; rfl
theorem hJ' (a : Bool) {Q : D -> Prop} : wD (bt' "tuple" (.bl a)) Q = Q (.bl false) := by rw [a8', aA']; rfl
theorem gn' (a : Int) {Q : D -> Prop} : wD (bt' "tuple" (.int a)) Q = Q (.bl false) := by rw [a8', aA']; rfl
theorem gk' (a : Tx) {Q : D -> Prop} : wD (bt' "tuple" (.str a)) Q = Q (.bl false) := by rw [a8', aA']; rfl
theorem gj' (a : List D) {Q : D -> Prop} : wD (bt' "tuple" (.tup a)) Q = Q (.bl true) := by rw [a8', aA']; rfl
theorem gm' (a : List D) {Q : D -> Prop} : wD (bt' "tuple" (.lst a)) Q = Q (.bl false) := by rw [a8', aA']; rfl
theorem go' (a b : List D) {Q : D -> Prop} : wD (bt' "tuple" (.dct a b)) Q = Q (.bl false) := by rw [a8', aA']; rfl
theorem hM'  {Q : D -> Prop} : wD (bt' "list" .non) Q = Q (.bl false) := by rw [a8', aA']; rfl
theorem iO' (a : Bool) {Q : D -> Prop} : wD (bt' "list" (.bl a)) Q = Q (.bl false) := by rw [a8', aA']; rfl
theorem hO' (a : Int) {Q : D -> Prop} : wD (bt' "list" (.int a)) Q = Q (.bl false) := by rw [a8', aA']; rfl
theorem hL' (a : Tx) {Q : D -> Prop} : wD (bt' "list" (.str a)) Q = Q (.bl false) := by rw [a8', aA']; rfl
theorem hK' (a : List D) {Q : D -> Prop} : wD (bt' "list" (.tup a)) Q = Q (.bl false) := by rw [a8', aA']; rfl
theorem hN' (a : List D) {Q : D -> Prop} : wD (bt' "list" (.lst a)) Q = Q (.bl true) := by rw [a8', aA']; rfl
theorem hP' (a b : List D) {Q : D -> Prop} : wD (bt' "list" (.dct a b)) Q = Q (.bl false) := by rw [a8', aA']; rfl
theorem hS'  {Q : D -> Prop} : wD (bt' "dict" .non) Q = Q (.bl false) := by rw [a8', aA']; rfl
theorem iV' (a : Bool) {Q : D -> Prop} : wD (bt' "dict" (.bl a)) Q = Q (.bl false) := by rw [a8', aA']; rfl
theorem hU' (a : Int) {Q : D -> Prop} : wD (bt' "dict" (.int a)) Q = Q (.bl false) := by rw [a8', aA']; rfl
theorem hR' (a : Tx) {Q : D -> Prop} : wD (bt' "dict" (.str a)) Q = Q (.bl false) := by rw [a8', aA']; rfl
theorem hQ' (a : List D) {Q : D -> Prop} : wD (bt' "dict" (.tup a)) Q = Q (.bl false) := by rw [a8', aA']; rfl
theorem hT' (a : List D) {Q : D -> Prop} : wD (bt' "dict" (.lst a)) Q = Q (.bl false) := by rw [a8', aA']; rfl
theorem hV' (a b : List D) {Q : D -> Prop} : wD (bt' "dict" (.dct a b)) Q = Q (.bl true) := by rw [a8', aA']; rfl
theorem kx' (l : List Int) (v : Int) {Q : D -> Prop} : wD (nb' (l.map .int) [.int v]) Q = wC (v ∈ l) (Q (.int (l.idxOf v : Nat))) := by
  show wD ((b4' (l.map .int)).bind fun ns => if v ∈ ns then some (D.int ((ns.idxOf v : Nat) : Int)) else none) Q = _
  rw [nq', Option.bind_some, cW']
theorem s3' {p : Prop} [Decidable p] (h : p) (A B : Prop) : wI (decide p) A B = A := by rw [decide_eq_true h]; exact s4' A B
theorem v3' {p : Prop} [Decidable p] (h : ¬ p) (A B : Prop) : wI (decide p) A B = B := by rw [decide_eq_false h]; exact vA' A B
theorem sI' {b : Bool} (h : b = true) : O.fz (.bl true) = O.fz (.bl b) := by rw [h]
theorem nN' {b : Bool} (h : b = false) : O.fz (.bl false) = O.fz (.bl b) := by rw [h]
theorem su' {α β : Type} (f : α -> β) (l : List α) (i : Int) : ati (l.map f) i = (ati l i).map f := by
  unfold ati
  rw [List.length_map]
  cases ixn l.length i with
  | none => rfl
  | some j => simp
theorem aR' {α : Type} {xs : List α} {i : Nat} {Q : α -> Prop} (h : i < xs.length) (k : ∀ x, x ∈ xs -> xs[i]? = some x -> Q x) : wD xs[i]? Q := by
  rw [List.getElem?_eq_getElem h, a3']
  exact k _ (List.getElem_mem h) (List.getElem?_eq_getElem h)
theorem dc' {α : Type} {l : List α} {i : Nat} {x : α} (h : l[i]? = some x) : i < l.length := (List.getElem?_eq_some_iff.mp h).1
theorem jc' {c A : Prop} (h : c) (a : A) : wC c A := by rw [gB']; exact ⟨h, a⟩
theorem bU' {n : Nat} {A : Prop} (h : n <= 16777216) (a : A) : kK' n A := by rw [ek']; exact ⟨h, a⟩
def But (n : Nat) (w w' : W) : Prop := w'.length = w.length /\ ∀ j, j ≠ n -> w'[j]? = w[j]?
theorem But.refl {n : Nat} {w : W} : But n w w := ⟨rfl, fun _ _ => rfl⟩
theorem But.trans {n : Nat} {w w1 w2 : W} (a : But n w w1) (b : But n w1 w2) : But n w w2 := ⟨b.1.trans a.1, fun j h => (b.2 j h).trans (a.2 j h)⟩
theorem But.set {n : Nat} {w w1 : W} {o : Ob} (a : But n w w1) : But n w (w1.set n o) := ⟨by rw [List.length_set]; exact a.1, fun j h => by rw [List.getElem?_set_ne (Ne.symm h)]; exact a.2 j h⟩
theorem tn1 (d : Nat) : ((d : Int) + 1).toNat = d + 1 := rfl
theorem vr' (l : List D) (d : D) : l.map O.fz ++ [O.fz d] = (l ++ [d]).map O.fz := by simp
theorem rW' (l : List D) : frz (.lst (l.map .fz)) = .lst l := by simp [frz]
theorem qK' {k : Bool} {A B : Prop} (h1 : k = true -> A) (h2 : k = false -> B) : wI k A B := by
  cases k
  . rw [vA']; exact h2 rfl
  . rw [s4']; exact h1 rfl
theorem cm' {k : Bool} {a b : Out} {N bk ct : PSt -> Prop} {rt : O -> W -> Prop} {ex : Exc -> PSt -> Prop} (J : PSt -> Prop) (h : wI k (wS a ⟨J, rt, bk, ct, ex⟩) (wS b ⟨J, rt, bk, ct, ex⟩)) (hk : ∀ ρ, J ρ -> N ρ) : wI k (wS a ⟨N, rt, bk, ct, ex⟩) (wS b ⟨N, rt, bk, ct, ex⟩) := by
  cases k
  . rw [vA'] at *
    exact wS.mono h hk (fun _ _ h => h) (fun _ h => h) (fun _ h => h) (fun _ _ h => h)
  . rw [s4'] at *
    exact wS.mono h hk (fun _ _ h => h) (fun _ h => h) (fun _ h => h) (fun _ _ h => h)
def bA' (w : W) (n : Nat) : Prop := ∃ (cells : List Int) (i b s c : Int), w[n]? = some (.lst [.fz (.lst (cells.map .int)), .fz (.int i), .fz (.int b), .fz (.int s), .fz (.int c)]) /\ 0 <= i
theorem sW' (A : Prop) : vX (some (some .exn)) A = A := rfl
end M
namespace M
def ef' (r : List Nat) : D := .tup (r.map fun t => .int (t : Nat))
def il' (T : List (List Nat)) : D := .tup (T.map ef')
def fl' (A : List Nat) : D := .tup (A.map fun a => .int (a : Nat))
def bI' (T : List (List Nat)) (size many : Nat) : Prop := T.length = size /\ ∀ r ∈ T, r.length = many /\ ∀ t ∈ r, t < size
abbrev abc : Tx := [97, 98, 99, 100, 101, 102, 103, 104, 105, 106, 107, 108, 109, 110, 111, 112, 113, 114, 115, 116, 117, 118, 119, 120, 121, 122]
theorem rD' {c : Nat} : c ∈ abc ↔ 97 <= c /\ c <= 122 := by
  simp only [List.mem_cons, List.not_mem_nil, or_false]
  omega
structure LetOk (L : Tx) (most : Nat) : Prop where
  ne : 1 <= L.length
  le : L.length <= most
  asc : L.Pairwise (· < ·)
  abc : ∀ c ∈ L, 97 <= c /\ c <= 122
structure AccOk (A : List Nat) (size : Nat) : Prop where
  asc : A.Pairwise (· < ·)
  lt : ∀ a ∈ A, a < size
structure MacOk (L : Tx) (T : List (List Nat)) (A : List Nat) (most states : Nat) : Prop where
  let' : LetOk L most
  tab : bI' T T.length L.length
  ne : 1 <= T.length
  le : T.length <= states
  acc : AccOk A T.length
theorem sg' (T : List (List Nat)) (s : Nat) {Q : D -> Prop} : wD (pIx (il' T) (.int (s : Nat))) Q = wD T[s]? (fun r => Q (ef' r)) := by
  unfold il'
  rw [pn', ia' (by omega), List.getElem?_map, gA', Int.toNat_natCast]
theorem sh' (r : List Nat) (s : Nat) {Q : D -> Prop} : wD (pIx (ef' r) (.int (s : Nat))) Q = wD r[s]? (fun t => Q (.int (t : Nat))) := by
  unfold ef'
  rw [pn', ia' (by omega), List.getElem?_map, gA', Int.toNat_natCast]
theorem nG' (A : List Nat) (s : Nat) {Q : D -> Prop} : wD (pIn (.int (s : Nat)) (fl' A)) Q = Q (.bl (decide (s ∈ A))) := by
  unfold fl'
  have := qv' (Q := Q) (s : Int) (A.map (Nat.cast : Nat -> Int))
  rw [List.map_map] at this
  rw [show (A.map fun a => D.int (a : Nat)) = A.map (D.int ∘ (Nat.cast : Nat -> Int)) from rfl, this]
  congr 2
  simp only [List.mem_map, decide_eq_decide]
  constructor
  . rintro ⟨a, h, e⟩
    have : a = s := by omega
    exact this ▸ h
  . exact fun h => ⟨s, h, rfl⟩
theorem pk' (T : List (List Nat)) {Q : D -> Prop} : wD (b9' (il' T)) Q = Q (.int T.length) := by
  unfold il'
  rw [kw', List.length_map]
theorem pl' (T : List Nat) {Q : D -> Prop} : wD (b9' (ef' T)) Q = Q (.int T.length) := by
  unfold ef'
  rw [kw', List.length_map]
theorem pm' (T : List Nat) {Q : D -> Prop} : wD (b9' (fl' T)) Q = Q (.int T.length) := by
  unfold fl'
  rw [kw', List.length_map]
theorem ks' (v : Nat) : ∀ l : List Nat, (l.map (Nat.cast : Nat -> Int)).idxOf (v : Int) = l.idxOf v
  | [] => rfl
  | a :: l => by
    simp only [List.map_cons, List.idxOf_cons, ks' v l]
    have : ((a : Int) == (v : Int)) = (a == v) := by rw [Bool.eq_iff_iff]; simp; omega
    rw [this]
theorem pq' (l : List Nat) (v : Nat) {Q : D -> Prop} : wD (nb' (l.map fun s => .int (s : Nat)) [.int (v : Nat)]) Q = wC (v ∈ l) (Q (.int (l.idxOf v : Nat))) := by
  have h := kx' (Q := Q) (l.map (Nat.cast : Nat -> Int)) (v : Int)
  rw [List.map_map, ks'] at h
  rw [show (l.map fun s => D.int (s : Nat)) = l.map (D.int ∘ (Nat.cast : Nat -> Int)) from rfl, h]
  congr 1
  simp only [List.mem_map]
  rw [eq_iff_iff]
  constructor
  . rintro ⟨a, h, e⟩
    have : a = v := by omega
    exact this ▸ h
  . exact fun h => ⟨v, h, rfl⟩
theorem pb' (i : Nat) : fnd (some i) = (i : Int) := rfl
def stp (L : Tx) (T : List (List Nat)) (s c : Nat) : Nat := (((T[s]?).getD [])[L.idxOf c]?).getD 0
def run (L : Tx) (T : List (List Nat)) (s : Nat) (x : Tx) : Nat := x.foldl (stp L T) s
theorem tm' {L : Tx} {T : List (List Nat)} (h : bI' T T.length L.length) {s c : Nat} (hs : s < T.length) (hc : c ∈ L) : ∃ r, T[s]? = some r /\ r[L.idxOf c]? = some (stp L T s c) /\ stp L T s c < T.length := by
  have hr := h.2 T[s] (List.getElem_mem hs)
  have hi : L.idxOf c < T[s].length := by rw [hr.1]; exact List.idxOf_lt_length_iff.mpr hc
  have e : stp L T s c = T[s][L.idxOf c] := by
    unfold stp
    rw [List.getElem?_eq_getElem hs, Option.getD_some, List.getElem?_eq_getElem hi, Option.getD_some]
  exact ⟨T[s], List.getElem?_eq_getElem hs, by rw [e, List.getElem?_eq_getElem hi], by rw [e]; exact hr.2 _ (List.getElem_mem hi)⟩
theorem rc' {L T s} : run L T s [] = s := rfl
theorem f4' {L T s c x} : run L T s (c :: x) = run L T (stp L T s c) x := rfl
def wA' (L : Tx) (T : List (List Nat)) (A : List Nat) : Ob := .ins "Machine" [("kept_letters", .fz (.str L)), ("kept_table", .fz (il' T)), ("kept_accepts", .fz (fl' A)), ("kept_least", .fz .non), ("kept_field", .fz .non), ("kept_lots", .dct [] []), ("kept_more", .dct [] [])]
structure Mac (w : W) (m : Nat) (L : Tx) (T : List (List Nat)) (A : List Nat) : Prop where
  fl : ∀ cs, "Machine" ∈ cs -> gx' cs "kept_letters" w (.obj m) = some (.str L)
  ft : ∀ cs, "Machine" ∈ cs -> gx' cs "kept_table" w (.obj m) = some (il' T)
  fa : ∀ cs, "Machine" ∈ cs -> gx' cs "kept_accepts" w (.obj m) = some (fl' A)
theorem Mac.new {w : W} {m : Nat} {L T A} (h : w[m]? = some (wA' L T A)) : Mac w m L T A := by
  refine ⟨fun cs hc => ?_, fun cs hc => ?_, fun cs hc => ?_⟩
  all_goals simp [gx', h, wA', hc, List.lookup]
theorem Mac.snoc {w : W} {m : Nat} {L T A} {o : Ob} (h : Mac w m L T A) (hn : m < w.length) : Mac (w ++ [o]) m L T A := by
  have e : (w ++ [o])[m]? = w[m]? := List.getElem?_append_left hn
  refine ⟨fun cs hc => ?_, fun cs hc => ?_, fun cs hc => ?_⟩
  . have := h.fl cs hc; simpa only [gx', e] using this
  . have := h.ft cs hc; simpa only [gx', e] using this
  . have := h.fa cs hc; simpa only [gx', e] using this
theorem bA'.snoc {w : W} {n : Nat} {o : Ob} (h : bA' w n) : bA' (w ++ [o]) n := by
  obtain ⟨c, i, b, s, k, e, hi⟩ := h
  exact ⟨c, i, b, s, k, by rw [List.getElem?_append_left (dc' e)]; exact e, hi⟩
theorem Mac.made {w : W} {L T A} : Mac (w ++ [wA' L T A]) w.length L T A := Mac.new (by rw [List.getElem?_append_right (by omega), Nat.sub_self]; rfl)
end M
namespace M
theorem wD.mono {α : Type} {o : Option α} {Q Q' : α -> Prop} (h : wD o Q) (k : ∀ a, Q a -> Q' a) : wD o Q' := by
  rw [aA'] at *
  cases o with
  | none => exact h
  | some a => exact k a h
theorem uh' {own : List Nat} {g : MG} {t : MT} {e : ME} {γ : Type} {f : γ -> D} {cs : List γ} {Q : List D -> PSt -> Prop} {X : Exc -> PSt -> Prop} {env : List (Option O)} {w : W} (v : γ -> D) (hl : cs.length <= 16777216)
    (step : ∀ c ∈ cs, wD (g (f c) ⟨bo' own env, w⟩) fun ρ1 => wE (t ρ1) (fun k ρ2 => k = true /\ wE (e ρ2) (fun y ρ3 => y = v c /\ ρ3.w = w /\ bo' own ρ3.env = bo' own env) PX) PX)
    (hend : ∀ env2, bo' own env2 = bo' own env -> Q (cs.map v) ⟨env2, w⟩) : wE (lcL own g t e (cs.map f) [] ⟨env, w⟩) Q X := by
  refine hB' hl (fun pre acc ρ => acc = pre.map v /\ ρ.w = w /\ bo' own ρ.env = bo' own env) ⟨rfl, rfl, rfl⟩ ?_ ?_
  . rintro pre c post acc ρ ec ⟨rfl, hw, he⟩
    have s := step c (by rw [ec]; simp)
    rw [he, hw]
    refine s.mono fun ρ1 s => ?_
    refine s.mono ?_ (fun _ _ z => z)
    rintro k ρ2 ⟨rfl, h3⟩
    rw [s4']
    refine h3.mono ?_ (fun _ _ z => z)
    rintro y ρ3 ⟨rfl, h4, h5⟩
    exact ⟨by simp, h4, h5⟩
  . rintro acc ⟨env2, w2⟩ ⟨rfl, hw, he⟩
    simp only at hw he
    subst hw
    exact hend env2 he
end M
namespace M
def wE' : O -> Prop
  | .dct _ _ => True
  | _ => False
section
variable {ρ : PSt} {P : D -> PSt -> Prop} {R : O -> PSt -> Prop} {X : Exc -> PSt -> Prop} {Y : List D -> PSt -> Prop}
theorem kO' (x : Bool) (k a : ME) : vE (hw' x k a ρ) R X = vE (k ρ) (fun y ρ1 => vE (a ρ1) (fun d ρ2 => vD (fH' x y d) fun o => R o ρ2) X) X := by simp only [hw', ah', bd']
variable {N : PSt -> Prop} {rt : O -> W -> Prop} {bk ct : PSt -> Prop} {ex : Exc -> PSt -> Prop}
theorem n6' (x : Bool) (k a : ME) : wE (hw' x k a ρ) R X = wE (k ρ) (fun y ρ1 => wE (a ρ1) (fun d ρ2 => wD (fH' x y d) fun o => R o ρ2) X) X := by simp only [kN', kJ', kM', aA', oe', of', n8', oa', kI', kL', n9', oc', ek', ei', gB', ft', dt']; exact kO' ..
theorem r0' (a : Tx) (b : List D) {Y : List D -> Prop} : wD (x2' (.str a) (.lst b)) Y = Y (cz' (a.map chD) b) := by rw [aA']; rfl
end
theorem gi' {γ δ α : Type} [DecidableEq γ] (e : γ -> D) (he : ∀ a b, eqb (e a) (e b) = decide (a = b)) (v : δ -> α) (k : γ) : ∀ l : List (γ × δ), dget (l.map fun p => e p.1) (l.map fun p => v p.2) (e k) = (l.lookup k).map v
  | [] => rfl
  | (a, b) :: l => by
    have ih := gi' e he v k l
    unfold dget sE' at *
    rw [List.map_cons, List.map_cons, List.findIdx?_cons, he, List.lookup_cons]
    by_cases h : a = k
    . subst h; simp
    . have h2 : (k == a) = false := by simp; exact fun e => h e.symm
      rw [decide_eq_false h, h2]
      simp only [Bool.false_eq_true, if_false]
      rw [<- ih]
      cases List.findIdx? (fun d => eqb d (e k)) (l.map fun p => e p.1) <;> simp
theorem kp' {γ δ : Type} [DecidableEq γ] (e : γ -> D) (he : ∀ a b, eqb (e a) (e b) = decide (a = b)) (k : γ) : ∀ l : List (γ × δ), l.lookup k = none -> sE' (l.map fun p => e p.1) (e k) = none
  | [], _ => rfl
  | (a, b) :: l, h => by
    rw [List.lookup_cons] at h
    by_cases hk : a = k
    . subst hk; simp at h
    . have h2 : (k == a) = false := by simp; exact fun e => hk e.symm
      rw [h2] at h
      have ih := kp' e he k l h
      unfold sE' at *
      rw [List.map_cons, List.findIdx?_cons, he, decide_eq_false hk]
      simp only [Bool.false_eq_true, if_false, ih, Option.map_none]
theorem iF' (a b : Nat) : eqb (.int (a : Nat)) (.int (b : Nat)) = decide (a = b) := by
  simp only [eqb]
  rw [Bool.eq_iff_iff]
  simp
  try omega
def dN (l : List (Nat × D)) : O := .dct (l.map fun p => .int (p.1 : Nat)) (l.map fun p => .fz p.2)
def dNz (l : List (Nat × D)) : D := .dct (l.map fun p => .int (p.1 : Nat)) (l.map fun p => p.2)
def dX {γ : Type} (e : γ -> D) (l : List (γ × D)) : O := .dcx (l.map fun p => e p.1) (l.map fun p => .fz p.2)
structure KeyE {γ : Type} [DecidableEq γ] (e : γ -> D) : Prop where
  eq : ∀ a b, eqb (e a) (e b) = decide (a = b)
  kat : ∀ a, kat (e a) = true
  dep : ∀ a, dep (e a) <= 8
  sca : ∀ a b, sca (e a) = sca (e b)
theorem qp' (l : List (Nat × D)) : frz (dN l) = dNz l := by
  unfold dN dNz
  simp only [frz, ny', List.map_map]
  rfl
theorem v2' (l : List (Nat × D)) (i : Nat) (env : List (Option O)) (w : W) {P : D -> PSt -> Prop} : wV (some (some (dN l))) i ⟨env, w⟩ P = P (dNz l) ⟨env.set i (some (.fz (dNz l))), w⟩ := by
  rw [kI']
  show vV (some (some (O.dct _ _))) _ _ _ = _
  rw [<- qp']; rfl
theorem v6' (l : List (Nat × D)) (i : Nat) (env : List (Option O)) (w : W) {P : O -> PSt -> Prop} : wG (some (some (dN l))) i ⟨env, w⟩ P = P (dN l) ⟨env.set i none, w⟩ := by
  rw [kL']; rfl
theorem nc' (l : List (Nat × D)) (k : Nat) : k0' (dN l) (.int (k : Nat)) = some ((l.lookup k).map .fz) := by
  show (if isK (.int (k : Nat)) = true then some (dget _ _ _) else none) = _
  rw [if_pos (show isK (.int (k : Nat)) = true from rfl), gi' (fun n : Nat => D.int (n : Nat)) iF' O.fz k l]
theorem ko' (l : List (Nat × D)) (k : Nat) : k0' (.fz (dNz l)) (.int (k : Nat)) = some ((l.lookup k).map .fz) := by
  show (if isK (.int (k : Nat)) = true then some (dget _ (List.map O.fz (l.map fun p => p.2)) _) else none) = _
  rw [if_pos (show isK (.int (k : Nat)) = true from rfl), List.map_map]
  exact congrArg some (gi' (fun n : Nat => D.int (n : Nat)) iF' O.fz k l)
section
variable {Q : Option O -> Prop} {P : D -> Prop} {N : O -> Prop} {Y : List D -> Prop}
theorem r8' (l : List (Nat × D)) (k : Nat) : wD (k0' (dN l) (.int (k : Nat))) Q = Q ((l.lookup k).map .fz) := by rw [nc', a3']
theorem pj' (l : List (Nat × D)) (k : Nat) : wD (k0' (.fz (dNz l)) (.int (k : Nat))) Q = Q ((l.lookup k).map .fz) := by rw [ko', a3']
theorem kD' (o : Option D) : vN' (some (o.map .fz)) = o := by cases o <;> rfl
theorem sv' (d : D) : vN' (some (some (.fz d))) = some d := rfl
theorem w9' (l : List (Nat × D)) (k : Nat) : wD (vN' (k0' (dN l) (.int (k : Nat)))) P = wD (l.lookup k) P := by rw [nc', kD']
theorem vb' (l : List (Nat × D)) (k : Nat) : wD (vN' (k0' (.fz (dNz l)) (.int (k : Nat)))) P = wD (l.lookup k) P := by rw [ko', kD']
theorem uU' {l : List (Nat × D)} {k : Nat} (h : l.lookup k = none) (hl : l.length < 16777216) (d : D) : wD (wp' (dN l) (.int (k : Nat)) (.fz d)) N = N (dN (l ++ [(k, d)])) := by
  show wD (if isK (.int (k : Nat)) = true then (tR' _ _ _ _).map (fun p => O.dct p.1 p.2) else none) N = _
  rw [if_pos (show isK (.int (k : Nat)) = true from rfl), gA']
  unfold tR'
  rw [kp' (fun n : Nat => D.int (n : Nat)) iF' k l h]
  simp only
  rw [if_pos (by rw [List.length_map]; exact hl), a3']
  unfold dN
  simp
theorem u6' (l : List (Nat × D)) : wD (nZ' (dN l)) P = P (.int l.length) := by
  show wD (some (D.int _)) P = _
  rw [a3', List.length_map]
theorem u3' {γ : Type} (e : γ -> D) (l : List (γ × D)) : wD (nZ' (dX e l)) P = P (.int l.length) := by
  show wD (some (D.int _)) P = _
  rw [a3', List.length_map]
theorem se' (l : List (Nat × D)) : wD (b9' (dNz l)) P = P (.int l.length) := by
  show wD (some (D.int _)) P = _
  rw [a3', List.length_map]
theorem o7' (l : List (Nat × D)) : wE' (dN l) = True := rfl
theorem gz' {γ : Type} (f g : γ -> D) : ∀ l : List γ, cz' (l.map f) (l.map g) = l.map fun p => .tup [f p, g p]
  | [] => rfl
  | a :: l => by
    simp only [List.map_cons, cz', gz' f g l]
theorem si' (l : List (Nat × D)) : wD (vj' (dNz l)) Y = Y (l.map fun p => .tup [.int (p.1 : Nat), p.2]) := by
  show wD (some (cz' _ _)) Y = _
  rw [a3', gz']
theorem uJ' (l : List (Nat × D)) : wD (xw' (dNz l)) Y = Y (l.map fun p => p.2) := by
  show wD (some _) Y = _
  rw [a3']
theorem u8' (l : List (Nat × D)) : wD (xx' (dNz l)) Y = Y (l.map fun p => .int (p.1 : Nat)) := by
  show wD (some _) Y = _
  rw [a3']
theorem pr' (k : Int) (d : D) : wD (fH' false (.int k) d) N = N (.dct [.int k] [.fz d]) := by
  show wD (some (O.dct [.int k] [.fz d])) N = _
  rw [a3']
theorem wY' (i j : Bool) : wD (pNe (.bl i) (.bl j)) P = P (.bl (!(i == j))) := by
  rw [show pNe (.bl i) (.bl j) = some (.bl (!(i == j))) from rfl, a3']
theorem wW' (a b : D) : wD (sA' (.rep a) (.rep b)) P = wC (same a b = true) (P (.bl false)) := cW'
end
section
variable {Q : D -> Prop} {Y : List D -> Prop}
theorem ph' (r : List Nat) : wD (cM' (ef' r)) Y = Y (r.map fun t => .int (t : Nat)) := by unfold ef'; rw [kv']
theorem pi' (r : List Nat) : wD (cM' (fl' r)) Y = Y (r.map fun t => .int (t : Nat)) := by unfold fl'; rw [kv']
theorem pg' (T : List (List Nat)) : wD (cM' (il' T)) Y = Y (T.map ef') := by unfold il'; rw [kv']
end
theorem rR' : cT' .non = true := rfl
theorem rQ' (n : Nat) : cT' (.obj n) = false := rfl
theorem rT' (n : Int) : cT' (.int n) = false := rfl
theorem rP' (n : Tx) : cT' (.str n) = false := rfl
theorem uo' (n : Bool) : cT' (.bl n) = false := rfl
theorem rO' (n : List D) : cT' (.tup n) = false := rfl
theorem rS' (n : List D) : cT' (.lst n) = false := rfl
section
variable {Q : D -> Prop}
theorem nF' (s : Tx) : wD (bZ' (.str s)) Q = Q (.lst (s.map chD)) := by
  show wD (some _) Q = _
  rw [a3']
end
theorem uX' (F : List Nat) (t : Nat) {P : D -> Prop} : wD (t7' (inO (.int (t : Nat)) (.lst (F.map fun s => .fz (.int (s : Nat)))))) P = P (.bl (!decide (t ∈ F))) := by
  have e1 : (F.map fun s => O.fz (.int (s : Nat))).all (fun o => match o with | .fz _ => true | _ => false) = true := by induction F <;> simp_all
  have e2 : (F.map fun s => O.fz (.int (s : Nat))).map frz = F.map fun s => .int (s : Nat) := by rw [List.map_map]; rfl
  have h := qw' (Q := fun d => wD (t7' (some d)) P) (t : Int) (F.map (Nat.cast : Nat -> Int))
  rw [List.map_map] at h
  show wD (t7' (if (F.map fun s => O.fz (.int (s : Nat))).all (fun o => match o with | .fz _ => true | _ => false) = true then pIn (.int (t : Nat)) (.lst ((F.map fun s => O.fz (.int (s : Nat))).map frz)) else none)) P = _
  rw [if_pos e1, e2]
  have e3 : ∀ o : Option D, wD (t7' o) P = wD o (fun d => wD (t7' (some d)) P) := fun o => by cases o with
    | none => rw [aA', aA']; rfl
    | some d => rw [a3']
  rw [e3]
  refine h.trans ?_
  show wD (some (D.bl (!decide _))) P = _
  rw [a3']
  congr 3
  rw [decide_eq_decide]
  constructor
  . intro hm
    obtain ⟨a, h1, h2⟩ := List.mem_map.mp hm
    have h2 : (a : Int) = (t : Int) := h2
    have : a = t := by omega
    exact this ▸ h1
  . exact fun hm => List.mem_map.mpr ⟨t, hm, rfl⟩
def nn' (o : Option (Option O)) : Option O := match o with
  | some (some (.fz d)) => some (.fz d)
  | _ => none
theorem pz' (env env' : List (Option O)) : back env [] env' = env' := rfl
theorem nP' (env env' : List (Option O)) (i : Nat) (is : List Nat) : back env (i :: is) env' = (back env is env').set i (nn' env[i]?) := by
  show (back env is env').set i _ = _
  congr 1
theorem k3' : nn' (some none) = none := rfl
theorem o4' (d : D) : nn' (some (some (.fz d))) = some (.fz d) := rfl
theorem nm' (os : List O) : nn' (some (some (.lst os))) = none := rfl
section
variable {Q : D -> Prop}
theorem r2' (a : Tx) (c : Nat) : wD (uc' a [.str [c]]) Q = wC (c < 128 /\ a.length + 2 <= 16777216) (Q (.lst ((vC' c a).map .str))) := cW'
theorem wJ' (i : Int) : wD (yl' (.int i)) Q = wC (0 <= i /\ i < 1000000000000000000000000000000000000000000000000000000000000) (Q (.str (xW' i.toNat))) := cW'
end
end M
namespace M
theorem uT' (d : D) {P : D -> Prop} : wD (iw' d) P = wC (rdn d = true /\ rZ' d <= 40 /\ oJ' d = true /\ oH' d <= 200000) (P (.rep d)) := cW'
theorem uY' (a : List D) (j : Int) {P : D -> Prop} : wD (oS' (.tup a) (.int j)) P = wC (0 <= j /\ j <= 1000 /\ a.length <= 1000) (P (.tup (List.replicate j.toNat a).flatten)) := cW'
theorem uQ' (a : List D) {P : D -> Prop} : wD (rp' (.tup a)) P = P (.tup a.reverse) := by
  show wD (some _) P = _
  rw [a3']
theorem xq' (c : Nat) (s : Tx) {P : D -> Prop} : wD (yo' c (.str s)) P = wC (s.length <= 1000000) (P (.str (s.filter fun d => decide (d ≠ c)))) := cW'
end M
namespace M
theorem uG' (a b : List D) {Y : List D -> Prop} : wD (x1' (.tup a) (.tup b)) Y = Y (cz' a b) := by rw [aA']; rfl
theorem xk' (os : List O) (ds : List D) {N : O -> Prop} : wD (yt' (.lst os) (.lst ds)) N = wC (os.length + ds.length <= 16777216) (N (.lst (os ++ ds.map .fz))) := cW'
def wD' : O -> Prop
  | .dcx _ _ => True
  | _ => False
theorem o6' {γ : Type} (e : γ -> D) (l : List (γ × D)) : wD' (dX e l) := True.intro
theorem wF' (os : List O) {N : List O -> Prop} : wD (unO (.tup os)) N = N os := by rw [aA']; rfl
theorem wG' (ds : List D) {N : List O -> Prop} : wD (unO (.fz (.tup ds))) N = N (ds.map .fz) := by rw [aA']; rfl
theorem sl' {ρ : PSt} {N : PSt -> Prop} : wD (sF' [] [] ρ) N = N ρ := by rw [aA']; rfl
theorem sk' (i : Nat) (is : List Nat) (o : O) (os : List O) {env : List (Option O)} {w : W} {N : PSt -> Prop} : wD (sF' (i :: is) (o :: os) ⟨env, w⟩) N = qG' i env.length (wD (sF' is os ⟨env.set i (some o), w⟩) N) := by
  rw [aA', aA', ei']
  by_cases h : i < env.length
  . simp [sF', mt', h]
  . simp [sF', mt', vD, h]
theorem pw' (m : List Bool) : n1' m [] = [] := by cases m <;> rfl
theorem vn' (x : Option O) (r : List (Option O)) : n1' [] (x :: r) = none :: n1' [] r := rfl
theorem vp' (m : List Bool) (x : Option O) (r : List (Option O)) : n1' (false :: m) (x :: r) = none :: n1' m r := rfl
theorem vo' (m : List Bool) (o : O) (r : List (Option O)) : n1' (true :: m) (some o :: r) = some (.fz (frz o)) :: n1' m r := rfl
theorem ry' (r : List (Option O)) : okM [] r = true := by cases r <;> rfl
theorem wv' (m : List Bool) (x : Option O) (r : List (Option O)) : okM (false :: m) (x :: r) = okM m r := rfl
theorem wu' (m : List Bool) (o : O) (r : List (Option O)) : okM (true :: m) (some o :: r) = (okO o && okM m r) := rfl
theorem tX' (d : D) : okO (.fz d) = dat d := rfl
theorem rx' (os : List O) : okO (.lst os) = okOs os := rfl
theorem m1' : ∀ ds : List D, okOs (ds.map .fz) = dats ds
  | [] => rfl
  | d :: r => by show (dat d && okOs (r.map .fz)) = (dat d && dats r); rw [m1' r]
theorem uw' (d : D) : frz (.fz d) = d := rfl
theorem q8' (b : Bool) : vF' (.bl b) = true := rfl
theorem oD' (b : Int) : vF' (.int b) = true := rfl
theorem oB' (b : Tx) : vF' (.str b) = true := rfl
theorem oC' : vF' .non = true := rfl
end M
namespace M
theorem gZ' : ∀ l : List Tx, cE' (l.map D.str) = some l
  | [] => rfl
  | a :: l => by show (cE' (l.map D.str)).map (a :: ·) = _; rw [gZ' l]; rfl
theorem r3' (l : List Tx) {P : D -> Prop} : wD (oR' (.lst (l.map .str))) P = wC (l.length < 64) (P (.lst ((to' l).map .str))) := by
  show wD ((cE' (l.map D.str)).bind _) P = _
  rw [gZ', Option.bind_some]
  exact cW'
theorem uL' (s : Tx) {P : D -> Prop} : wD (c3' (.str s)) P = P (.tup (s.map chD)) := by
  show wD (some _) P = _
  rw [a3']
theorem v5' {α : Type} (e : α -> D) (l : List (α × D)) (i : Nat) (env : List (Option O)) (w : W) {P : O -> PSt -> Prop} : wG (some (some (dX e l))) i ⟨env, w⟩ P = P (dX e l) ⟨env.set i none, w⟩ := by
  simp only [kL']; rfl
end M
namespace M
def dXz {γ : Type} (e : γ -> D) (l : List (γ × D)) : D := .dcx (l.map fun p => e p.1) (l.map fun p => p.2)
theorem ux' {γ : Type} (e : γ -> D) (l : List (γ × D)) : frz (dX e l) = dXz e l := by
  unfold dX dXz
  simp only [frz, ny', List.map_map]
  rfl
theorem v1' {γ : Type} (e : γ -> D) (l : List (γ × D)) (i : Nat) (env : List (Option O)) (w : W) {P : D -> PSt -> Prop} : wV (some (some (dX e l))) i ⟨env, w⟩ P = P (dXz e l) ⟨env.set i (some (.fz (dXz e l))), w⟩ := by
  rw [kI']
  show vV (some (some (O.dcx _ _))) _ _ _ = _
  rw [<- ux']; rfl
theorem sb' {γ : Type} (e : γ -> D) (l : List (γ × D)) {P : D -> Prop} : wD (nZ' (.fz (dXz e l))) P = P (.int l.length) := by
  show wD (some (D.int _)) P = _
  rw [a3', List.length_map]
end M
namespace M
end M
namespace M
theorem fG' : ∀ (es : List (Nat × Tx)), eB' (es.map fun p => .int (p.1 : Nat)) (es.map fun p => .fz (.str p.2)) = some es
  | [] => rfl
  | p :: es => by
    show (if (0 : Int) <= (p.1 : Nat) then (eB' (es.map fun p => .int (p.1 : Nat)) (es.map fun p => .fz (.str p.2))).map ((((p.1 : Nat) : Int).toNat, p.2) :: ·) else none) = _
    rw [if_pos (Int.natCast_nonneg _), fG' es]
    rfl
theorem pf' (es : List (Nat × Tx)) {P : D -> Prop} : wD (p8' (.dct (es.map fun p => .int (p.1 : Nat)) (es.map fun p => .fz (.str p.2)))) P = P (.lst ((es.mergeSort wq').map fun p => .tup [.int (p.1 : Nat), .str p.2])) := by
  have e : p8' (.dct (es.map fun p => .int (p.1 : Nat)) (es.map fun p => .fz (.str p.2))) = some (.lst ((es.mergeSort wq').map fun p => .tup [.int (p.1 : Nat), .str p.2])) := by
    show (eB' _ _).map _ = _
    rw [fG']
    rfl
  rw [e, aA']
  rfl
end M
namespace M
theorem rz' (kl kd : Bool) (r : List (Option O)) : okL kl kd [] r = true := by cases r <;> rfl
theorem wx' (kl kd : Bool) (m : List Bool) (x : Option O) (r : List (Option O)) : okL kl kd (false :: m) (x :: r) = okL kl kd m r := rfl
theorem ww' (kl kd : Bool) (m : List Bool) (o : O) (r : List (Option O)) : okL kl kd (true :: m) (some o :: r) = (lendO kl kd o && okL kl kd m r) := rfl
theorem pu' (r : List (Option O)) : sn' [] r = 0 := by cases r <;> rfl
theorem vm' (m : List Bool) (x : Option O) (r : List (Option O)) : sn' (false :: m) (x :: r) = sn' m r := rfl
theorem vl' (m : List Bool) (o : O) (r : List (Option O)) : sn' (true :: m) (some o :: r) = vJ' o + sn' m r := rfl
theorem o1' (kl kd : Bool) (d : D) : lendO kl kd (.fz d) = true := rfl
theorem rq' (d : D) : vJ' (.fz d) = 0 := rfl
theorem nf' (kd : Bool) (ds : List D) : lendO true kd (.lst (ds.map .fz)) = true := by
  show (true && (ds.map O.fz).all rU') = true
  simp [rU']
theorem oW' (kl kd : Bool) (n : Nat) : xS' kl kd (.fz (.obj n)) = true := rfl
def wr' : D -> Option (D × D)
  | .tup [x, y] => some (x, y)
  | _ => none
theorem uV' (x y : D) {P : D × D -> Prop} : wD (wr' (.tup [x, y])) P = P (x, y) := by rw [aA']; rfl
theorem wQ' (i j : Int) {Q : D -> Prop} : wD (yn' (.int i) (.int j)) Q = wC (0 <= j /\ j <= 1000 /\ -18446744073709551616 < i /\ i < 18446744073709551616) (Q (.int (i * 2 ^ j.toNat))) := by
  rw [aA', gB']
  show vD (if 0 <= j /\ j <= 1000 /\ small64 i = true then _ else _) Q = _
  rw [aQ']
  congr 1
  simp [small64]
theorem wP' (i j : Int) {Q : D -> Prop} : wD (ym' (.int i) (.int j)) Q = wC (0 <= j) (Q (.int (i / 2 ^ j.toNat))) := by
  rw [aA', gB']
  exact aQ'
theorem yC' (is : List Nat) (ds : List D) (ρ : PSt) {N : PSt -> Prop} : wD (gL is (.lst ds) ρ) N = wD (gNs is ds ρ) N := rfl
theorem xi' (gs : List MG) (ds : List D) (ρ : PSt) {N : PSt -> Prop} : wD (gTg gs (.tup ds) ρ) N = wD (gSq gs ds ρ) N := rfl
theorem vd' (ρ : PSt) {N : PSt -> Prop} : wD (gSq [] [] ρ) N = N ρ := by rw [aA']; rfl
theorem xj' (g : MG) (gs : List MG) (d : D) (ds : List D) (ρ : PSt) {N : PSt -> Prop} : wD (gSq (g :: gs) (d :: ds) ρ) N = wD (g d ρ) (fun ρ1 => wD (gSq gs ds ρ1) N) := by
  simp only [aA']
  show vD ((g d ρ).bind (gSq gs ds)) N = _
  cases g d ρ <;> rfl
end M
namespace M
section
variable {α : Type} {env : List (Option O)} {w : W} {ρ : PSt} {X : Exc -> PSt -> Prop}
end
end M
namespace M
section
variable {α β : Type} [DecidableEq α] [DecidableEq β]
def ins (F : List α) (x : α) : List α := if x ∈ F then F else F ++ [x]
def cL' (F xs : List α) : List α := xs.foldl ins F
def bC' (xs : List α) : List α := cL' [] xs
theorem eL' {F : List α} {x : α} (h : x ∈ F) : ins F x = F := if_pos h
theorem eK' {F : List α} {x : α} (h : x ∉ F) : ins F x = F ++ [x] := if_neg h
theorem m9' {F : List α} {x y : α} : y ∈ ins F x ↔ y ∈ F \/ y = x := by
  unfold ins
  split
  . rename_i h
    exact ⟨.inl, fun q => q.elim id fun e => e ▸ h⟩
  . simp
theorem b5' {F : List α} {x : α} {xs : List α} : cL' F (x :: xs) = cL' (ins F x) xs := rfl
theorem iE' {F xs ys : List α} : cL' F (xs ++ ys) = cL' (cL' F xs) ys := List.foldl_append ..
theorem nr' {F xs : List α} {x : α} : cL' F (xs ++ [x]) = ins (cL' F xs) x := by rw [iE']; rfl
theorem cC' {y : α} : ∀ {xs F : List α}, y ∈ cL' F xs ↔ y ∈ F \/ y ∈ xs
  | [], F => by simp [cL']
  | x :: xs, F => by
    rw [b5', cC', m9', List.mem_cons]
    constructor
    . rintro ((h | h) | h)
      . exact .inl h
      . exact .inr (.inl h)
      . exact .inr (.inr h)
    . rintro (h | h | h)
      . exact .inl (.inl h)
      . exact .inl (.inr h)
      . exact .inr h
theorem bH' {xs : List α} {y : α} : y ∈ bC' xs ↔ y ∈ xs := by rw [bC', cC']; simp
theorem rh' {F : List α} {x : α} : F <+: ins F x := by
  unfold ins
  split
  . exact List.prefix_refl _
  . exact List.prefix_append ..
theorem f5' : ∀ {xs F : List α}, F <+: cL' F xs
  | [], F => List.prefix_refl _
  | x :: xs, F => rh'.trans f5'
theorem ua' {F : List α} {x : α} (h : F.Nodup) : (ins F x).Nodup := by
  unfold ins
  split
  . exact h
  . rename_i q
    rw [List.nodup_append]
    exact ⟨h, by simp, fun a ha b hb e => q (by rw [List.mem_singleton] at hb; rw [<- hb, <- e]; exact ha)⟩
theorem gg' : ∀ {xs F : List α}, F.Nodup -> (cL' F xs).Nodup
  | [], _, h => h
  | _ :: xs, _, h => gg' (xs := xs) (ua' h)
theorem rB' {xs : List α} : (bC' xs).Nodup := gg' List.nodup_nil
theorem eG' {xs : List α} {x : α} : bC' (xs ++ [x]) = ins (bC' xs) x := nr'
theorem hy' (c : α -> β) (F : List α) (x : α) : bC' ((ins F x).map c) = ins (bC' (F.map c)) (c x) := by
  by_cases h : x ∈ F
  . rw [eL' h, eL' (bH'.mpr (List.mem_map.mpr ⟨x, h, rfl⟩))]
  . rw [eK' h, List.map_append, List.map_cons, List.map_nil, eG']
theorem da' (c : α -> β) : ∀ (xs F : List α), bC' ((cL' F xs).map c) = cL' (bC' (F.map c)) (xs.map c)
  | [], _ => rfl
  | x :: xs, F => by rw [b5', da' c xs, hy', List.map_cons, b5']
theorem gc' (c : α -> β) (xs : List α) : bC' ((bC' xs).map c) = bC' (xs.map c) := by
  have := da' c xs []
  exact this
theorem iB' (f : α -> β) {F : List α} {x : α} (h : ∀ y ∈ F, f y = f x -> y = x) : (ins F x).map f = ins (F.map f) (f x) := by
  by_cases hx : x ∈ F
  . rw [eL' hx, eL' (List.mem_map.mpr ⟨x, hx, rfl⟩)]
  . rw [eK' hx, eK']
    . simp
    . rw [List.mem_map]
      rintro ⟨y, hy, e⟩
      exact hx (h y hy e ▸ hy)
theorem dP' (f : α -> β) (U : α -> Prop) (inj : ∀ a b, U a -> U b -> f a = f b -> a = b) : ∀ (xs F : List α), (∀ x ∈ F, U x) -> (∀ x ∈ xs, U x) -> (cL' F xs).map f = cL' (F.map f) (xs.map f)
  | [], _, _, _ => rfl
  | x :: xs, F, hF, hx => by
    have ux := hx x (by simp)
    rw [b5', dP' f U inj xs (ins F x) (fun y hy => (m9'.mp hy).elim (hF y) fun e => e ▸ ux) (fun y hy => hx y (by simp [hy])), iB' f fun y hy e => inj y x (hF y hy) ux e, List.map_cons, b5']
theorem dO' (f : α -> β) (xs : List α) (inj : ∀ a ∈ xs, ∀ b ∈ xs, f a = f b -> a = b) : bC' (xs.map f) = (bC' xs).map f :=
  (dP' f (· ∈ xs) (fun a b ha hb => inj a ha b hb) xs [] (fun _ h => nomatch h) (fun _ h => h)).symm
theorem rE' : ∀ {xs : List α}, xs.Nodup -> xs.map (fun x => xs.idxOf x) = List.range xs.length := by
  intro xs h
  refine List.ext_getElem (by simp) fun i h1 h2 => ?_
  rw [List.getElem_map, List.getElem_range]
  rw [List.length_map] at h1
  exact List.Nodup.idxOf_getElem h i h1
theorem oV' (xs : List α) : bC' (xs.map fun x => (bC' xs).idxOf x) = List.range (bC' xs).length := by
  rw [dO' (fun x => (bC' xs).idxOf x) xs, rE' rB']
  intro a ha b hb e
  have h1 : (bC' xs)[(bC' xs).idxOf a]? = some a := by
    rw [List.getElem?_eq_getElem (List.idxOf_lt_length_iff.mpr (bH'.mpr ha)), List.getElem_idxOf]
  have h2 : (bC' xs)[(bC' xs).idxOf b]? = some b := by
    rw [List.getElem?_eq_getElem (List.idxOf_lt_length_iff.mpr (bH'.mpr hb)), List.getElem_idxOf]
  rw [e, h2] at h1
  exact (Option.some.inj h1).symm
theorem eH' (g : α -> β) (X : List α) : (bC' (X.map g)).length <= (bC' X).length := by
  have h := gc' g X
  rw [<- h]
  have go : ∀ (ys F : List β), (cL' F ys).length <= F.length + ys.length := by
    intro ys
    induction ys with
    | nil => intro F; simp [cL']
    | cons y ys ih =>
      intro F
      rw [b5']
      refine Nat.le_trans (ih _) ?_
      have : (ins F y).length <= F.length + 1 := by unfold ins; split <;> simp
      simp only [List.length_cons]
      omega
  have := go ((bC' X).map g) []
  simpa [bC'] using this
theorem iA' (g : α -> β) (X : List α) (h : (bC' (X.map g)).length = (bC' X).length) : ∀ a ∈ X, ∀ b ∈ X, g a = g b -> a = b := by
  have go : ∀ (l : List α), (bC' (l.reverse.map g)).length = (bC' l.reverse).length -> ∀ a ∈ l, ∀ b ∈ l, g a = g b -> a = b := by
    intro l
    induction l with
    | nil => intro _ a ha; cases ha
    | cons x l ih =>
      intro h
      rw [List.reverse_cons, List.map_append, List.map_cons, List.map_nil, eG', eG'] at h
      by_cases hx : x ∈ l
      . have hx' : x ∈ bC' l.reverse := bH'.mpr (List.mem_reverse.mpr hx)
        have hg : g x ∈ bC' (l.reverse.map g) := bH'.mpr (List.mem_map.mpr ⟨x, List.mem_reverse.mpr hx, rfl⟩)
        rw [eL' hx', eL' hg] at h
        intro a ha b hb e
        have ha' : a ∈ l := (List.mem_cons.mp ha).elim (fun e => e ▸ hx) id
        have hb' : b ∈ l := (List.mem_cons.mp hb).elim (fun e => e ▸ hx) id
        exact ih h a ha' b hb' e
      . have hx' : x ∉ bC' l.reverse := fun q => hx (List.mem_reverse.mp (bH'.mp q))
        rw [eK' hx', List.length_append, List.length_singleton] at h
        have le := eH' g l.reverse
        by_cases hg : g x ∈ bC' (l.reverse.map g)
        . rw [eL' hg] at h; omega
        . rw [eK' hg, List.length_append, List.length_singleton] at h
          have ih := ih (by omega)
          have no : ∀ a ∈ l, g a ≠ g x := fun a ha e => hg (bH'.mpr (List.mem_map.mpr ⟨a, List.mem_reverse.mpr ha, e⟩))
          intro a ha b hb e
          rcases List.mem_cons.mp ha with ea | ha2
          . rcases List.mem_cons.mp hb with eb | hb2
            . rw [ea, eb]
            . exact absurd (by rw [<- ea]; exact e.symm) (no b hb2)
          . rcases List.mem_cons.mp hb with eb | hb2
            . exact absurd (by rw [<- eb]; exact e) (no a ha2)
            . exact ih a ha2 b hb2 e
  intro a ha b hb e
  exact go X.reverse (by rw [List.reverse_reverse]; exact h) a (List.mem_reverse.mpr ha) b (List.mem_reverse.mpr hb) e
end
def bp' (T : List (List Nat)) (s : Nat) : List Nat := (T[s]?).getD []
def bfs (T : List (List Nat)) : Nat -> List Nat
  | 0 => [0]
  | j + 1 => match (bfs T j)[j]? with
    | some s => cL' (bfs T j) (bp' T s)
    | none => bfs T j
section
variable {T : List (List Nat)} {n m : Nat}
theorem tz' (h : bI' T n m) {s t : Nat} (ht : t ∈ bp' T s) : t < n := by
  unfold bp' at ht
  cases e : T[s]? with
  | none => rw [e] at ht; cases ht
  | some r =>
    rw [e] at ht
    exact (h.2 r (List.mem_of_getElem? e)).2 t ht
theorem iq' (h : bI' T n m) {s : Nat} (hs : s < n) : (bp' T s).length = m := by
  unfold bp'
  rw [List.getElem?_eq_getElem (by rw [h.1]; exact hs)]
  exact (h.2 _ (List.getElem_mem _)).1
theorem sp' : ∀ {j : Nat}, bfs T j <+: bfs T (j + 1) := by
  intro j
  show bfs T j <+: (match (bfs T j)[j]? with | some s => cL' (bfs T j) (bp' T s) | none => bfs T j)
  split
  . exact f5'
  . exact List.prefix_refl _
theorem gp' {i j : Nat} (h : i <= j) : bfs T i <+: bfs T j := by
  induction h with
  | refl => exact List.prefix_refl _
  | step _ ih => exact ih.trans sp'
theorem nO' : ∀ j : Nat, (bfs T j).Nodup
  | 0 => by simp [bfs]
  | j + 1 => by
    show (match (bfs T j)[j]? with | some s => cL' (bfs T j) (bp' T s) | none => bfs T j).Nodup
    split
    . exact gg' (nO' j)
    . exact nO' j
theorem qA' (h : bI' T n m) (hn : 1 <= n) : ∀ {j s : Nat}, s ∈ bfs T j -> s < n := by
  intro j
  induction j with
  | zero => intro s hs; simp [bfs] at hs; omega
  | succ j ih =>
    intro s hs
    have hs : s ∈ (match (bfs T j)[j]? with | some s => cL' (bfs T j) (bp' T s) | none => bfs T j) := hs
    split at hs
    . rcases cC'.mp hs with h1 | h1
      . exact ih h1
      . exact tz' h h1
    . exact ih hs
theorem t9' {l : List Nat} (hn : l.Nodup) (h : ∀ s ∈ l, s < n) : l.length <= n := by
  have := List.Nodup.length_le_of_subset hn fun s hs => List.mem_range.mpr (h s hs)
  simpa using this
theorem i1' (h : bI' T n m) (hn : 1 <= n) (j : Nat) : (bfs T j).length <= n := t9' (nO' j) fun _ hs => qA' h hn hs
theorem kC' {j : Nat} (h : (bfs T j).length <= j) : ∀ {i : Nat}, j <= i -> bfs T i = bfs T j := by
  intro i hi
  induction hi with
  | refl => rfl
  | @step i hi ih =>
    show (match (bfs T i)[i]? with | some s => cL' (bfs T i) (bp' T s) | none => bfs T i) = _
    have : (bfs T i)[i]? = none := by rw [ih]; exact List.getElem?_eq_none (Nat.le_trans h hi)
    rw [this, ih]
theorem vq' {j s : Nat} (h : (bfs T j)[j]? = some s) : bfs T (j + 1) = cL' (bfs T j) (bp' T s) := by
  show (match (bfs T j)[j]? with | some s => cL' (bfs T j) (bp' T s) | none => bfs T j) = _
  rw [h]
def bN' (T : List (List Nat)) : List Nat := bfs T T.length
theorem oK' (h : bI' T T.length m) (hn : 1 <= T.length) {j : Nat} (hj : (bfs T j).length <= j) : bfs T j = bN' T := by
  have hl := i1' h hn
  by_cases q : j <= T.length
  . exact (kC' hj q).symm
  . exact kC' (hl _) (by omega)
theorem mP' {j s : Nat} (h : bI' T T.length m) (hn : 1 <= T.length) (e : (bN' T)[j]? = some s) : (bfs T j)[j]? = some s := by
  -- what stands at j is found before j is walked
  have h1 : j < (bfs T j).length := by
    rcases Nat.lt_or_ge j (bfs T j).length with q | q
    . exact q
    . have := oK' h hn q
      rw [<- this] at e
      have := (List.getElem?_eq_some_iff.mp e).1
      omega
  have hle : j <= T.length := by
    have := (List.getElem?_eq_some_iff.mp e).1
    have := i1' h hn T.length
    unfold bN' at *
    omega
  obtain ⟨G, eG⟩ := gp' (T := T) hle
  unfold bN' at e
  rw [<- eG, List.getElem?_append_left h1] at e
  exact e
theorem oL' (h : bI' T T.length m) (hn : 1 <= T.length) {s : Nat} (hs : s ∈ bN' T) : s < T.length := qA' h hn hs
theorem rd' : (bN' T)[0]? = some 0 := by
  obtain ⟨G, e⟩ := gp' (T := T) (Nat.zero_le T.length)
  unfold bN'
  rw [<- e]
  rfl
theorem kU' : 0 ∈ bN' T := List.mem_of_getElem? rd'
theorem g9' (h : bI' T T.length m) (hn : 1 <= T.length) {s t : Nat} (hs : s ∈ bN' T) (ht : t ∈ bp' T s) : t ∈ bN' T := by
  obtain ⟨j, hj, e⟩ := List.getElem_of_mem hs
  have e : (bN' T)[j]? = some s := by rw [List.getElem?_eq_getElem hj, e]
  have e2 := vq' (mP' h hn e)
  have hl := i1' h hn T.length
  have hj' : j + 1 <= T.length := by unfold bN' at hj; omega
  exact (gp' hj').subset (by rw [e2]; exact cC'.mpr (.inr ht))
end
section
variable {γ : Type} [DecidableEq γ] {S : List Nat}
def m6' (S : List Nat) (f : Nat -> γ) (s : Nat) : Nat := (bC' (S.map f)).idxOf (f s)
theorem gd' (f : Nat -> γ) : bC' (S.map (m6' S f)) = List.range (bC' (S.map f)).length := by
  have := oV' (S.map f)
  rw [List.map_map] at this
  exact this
theorem ge' (f : Nat -> γ) {s : Nat} (hs : s ∈ S) : (bC' (S.map f))[m6' S f s]? = some (f s) := by
  have : m6' S f s < (bC' (S.map f)).length := List.idxOf_lt_length_iff.mpr (bH'.mpr (List.mem_map.mpr ⟨s, hs, rfl⟩))
  rw [List.getElem?_eq_getElem this]
  exact congrArg some (List.getElem_idxOf _)
theorem cB' (f : Nat -> γ) {s t : Nat} (hs : s ∈ S) (ht : t ∈ S) : m6' S f s = m6' S f t ↔ f s = f t := by
  constructor
  . intro e
    have h1 := ge' f hs
    rw [e, ge' f ht] at h1
    exact (Option.some.inj h1).symm
  . intro e; unfold m6'; rw [e]
end
def key (T : List (List Nat)) (c : Nat -> Nat) (s : Nat) : Nat × List Nat := (c s, (bp' T s).map c)
def Leq (L : Tx) (T : List (List Nat)) (A : List Nat) (s t : Nat) : Prop := ∀ x : Tx, (∀ a ∈ x, a ∈ L) -> (run L T s x ∈ A ↔ run L T t x ∈ A)
structure Clz (L : Tx) (T : List (List Nat)) (A : List Nat) (S : List Nat) (c : Nat -> Nat) (k : Nat) : Prop where
  num : bC' (S.map c) = List.range k
  ref : ∀ s ∈ S, ∀ t ∈ S, c s = c t -> (s ∈ A ↔ t ∈ A)
  co : ∀ s ∈ S, ∀ t ∈ S, Leq L T A s t -> c s = c t
section
variable {L : Tx} {T : List (List Nat)} {A S : List Nat} {c : Nat -> Nat} {k : Nat}
theorem im' (s a : Nat) : stp L T s a = ((bp' T s)[L.idxOf a]?).getD 0 := rfl
theorem my' (hL : L.Nodup) {s i : Nat} (hi : i < L.length) : stp L T s L[i] = ((bp' T s)[i]?).getD 0 := by rw [im', hL.idxOf_getElem i hi]
theorem eq' (h : bI' T T.length L.length) {s a : Nat} (hs : s < T.length) (ha : a ∈ L) : stp L T s a ∈ bp' T s := by
  obtain ⟨r, h1, h2, _⟩ := tm' h hs ha
  have : bp' T s = r := by unfold bp'; rw [h1]; rfl
  rw [this]
  exact List.mem_of_getElem? h2
theorem Leq.step (h : Leq L T A s t) (ha : a ∈ L) : Leq L T A (stp L T s a) (stp L T t a) := fun x hx => by
  have := h (a :: x) fun b hb => (List.mem_cons.mp hb).elim (fun e => e ▸ ha) (hx b)
  exact this
theorem Leq.refl (s : Nat) : Leq L T A s s := fun _ _ => Iff.rfl
theorem Leq.symm (h : Leq L T A s t) : Leq L T A t s := fun x hx => (h x hx).symm
theorem Leq.trans (h : Leq L T A s t) (h' : Leq L T A t u) : Leq L T A s u := fun x hx => (h x hx).trans (h' x hx)
theorem mK' (h : bI' T T.length L.length) (hL : L.Nodup) {s t : Nat} (hs : s < T.length) (ht : t < T.length) (hc : ∀ a ∈ L, c (stp L T s a) = c (stp L T t a)) : (bp' T s).map c = (bp' T t).map c := by
  have l1 := iq' h hs
  have l2 := iq' h ht
  refine List.ext_getElem (by simp [l1, l2]) fun i h1 h2 => ?_
  rw [List.getElem_map, List.getElem_map]
  rw [List.length_map] at h1 h2
  have := hc L[i] (List.getElem_mem (by omega))
  rw [my' hL (by omega), my' hL (by omega), List.getElem?_eq_getElem h1, List.getElem?_eq_getElem h2] at this
  exact this
theorem Clz.lt (h : Clz L T A S c k) {s : Nat} (hs : s ∈ S) : c s < k := by
  have : c s ∈ bC' (S.map c) := bH'.mpr (List.mem_map.mpr ⟨s, hs, rfl⟩)
  rw [h.num] at this
  exact List.mem_range.mp this
theorem Clz.first : Clz L T A S (m6' S fun s => decide (s ∈ A)) (bC' (S.map fun s => decide (s ∈ A))).length := by
  refine ⟨gd' _, fun s hs t ht e => ?_, fun s hs t ht e => (cB' _ hs ht).mpr ?_⟩
  . have := (cB' _ hs ht).mp e
    simpa using this
  . have := e [] (fun _ h => nomatch h)
    simpa [rc'] using this
theorem Clz.next (hT : bI' T T.length L.length) (hL : L.Nodup) (hS : ∀ s ∈ S, s < T.length) (hcl : ∀ s ∈ S, ∀ t ∈ bp' T s, t ∈ S) (h : Clz L T A S c k) : Clz L T A S (m6' S (key T c)) (bC' (S.map (key T c))).length := by
  refine ⟨gd' _, fun s hs t ht e => ?_, fun s hs t ht e => (cB' _ hs ht).mpr ?_⟩
  . have := (cB' _ hs ht).mp e
    exact h.ref s hs t ht (congrArg Prod.fst this)
  . refine Prod.ext (h.co s hs t ht e) (mK' hT hL (hS s hs) (hS t ht) fun a ha => ?_)
    exact h.co _ (hcl s hs _ (eq' hT (hS s hs) ha)) _ (hcl t ht _ (eq' hT (hS t ht) ha)) (e.step ha)
theorem gh' : (S.map (key T c)).map Prod.fst = S.map c := by rw [List.map_map]; rfl
theorem Clz.le (h : Clz L T A S c k) : k <= (bC' (S.map (key T c))).length := by
  have := eH' Prod.fst (S.map (key T c))
  rw [gh', h.num, List.length_range] at this
  exact this
theorem Clz.stable (h : Clz L T A S c k) (he : (bC' (S.map (key T c))).length <= k) : ∀ s ∈ S, ∀ t ∈ S, c s = c t -> key T c s = key T c t := fun s hs t ht e => by
  have hk := Nat.le_antisymm he h.le
  refine iA' Prod.fst (S.map (key T c)) ?_ _ (List.mem_map.mpr ⟨s, hs, rfl⟩) _ (List.mem_map.mpr ⟨t, ht, rfl⟩) e
  rw [gh', h.num, List.length_range, hk]
theorem Clz.same (h : Clz L T A S c k) (he : (bC' (S.map (key T c))).length <= k) : ∀ s ∈ S, m6' S (key T c) s = c s := fun s hs => by
  have st := h.stable he
  have e : bC' ((S.map (key T c)).map Prod.fst) = (bC' (S.map (key T c))).map Prod.fst := dO' Prod.fst _ fun a ha b hb q => by
    obtain ⟨s1, h1, rfl⟩ := List.mem_map.mp ha
    obtain ⟨s2, h2, rfl⟩ := List.mem_map.mp hb
    exact st s1 h1 s2 h2 q
  rw [gh', h.num] at e
  have g := ge' (key T c) hs
  have g2 : ((bC' (S.map (key T c))).map Prod.fst)[m6' S (key T c) s]? = some (c s) := by rw [List.getElem?_map, g]; rfl
  rw [<- e] at g2
  obtain ⟨hl, g3⟩ := List.getElem?_eq_some_iff.mp g2
  rw [List.getElem_range] at g3
  exact g3
end
structure IsLeast (L : Tx) (T : List (List Nat)) (A : List Nat) (c : Nat -> Nat) (T' : List (List Nat)) (A' : List Nat) : Prop where
  tab : bI' T' T'.length L.length
  ne : 1 <= T'.length
  le : T'.length <= T.length
  acc : AccOk A' T'.length
  c0 : c 0 = 0
  lt : ∀ s ∈ bN' T, c s < T'.length
  row : ∀ s ∈ bN' T, bp' T' (c s) = (bp' T s).map c
  fin : ∀ s ∈ bN' T, (c s ∈ A' ↔ s ∈ A)
  onto : ∀ q < T'.length, ∃ s ∈ bN' T, c s = q
  bN' : bN' T' = List.range T'.length
  apart : ∀ p < T'.length, ∀ q < T'.length, Leq L T' A' p q -> p = q
  num : bC' ((M.bN' T).map c) = List.range T'.length
section
variable {L : Tx} {T : List (List Nat)} {A : List Nat} {c : Nat -> Nat} {k : Nat}
theorem qW' {T' : List (List Nat)} (hT : bI' T T.length L.length) {s a : Nat} (hs : s < T.length) (ha : a ∈ L) (e : bp' T' (c s) = (bp' T s).map c) : stp L T' (c s) a = c (stp L T s a) := by
  rw [im', im', e]
  have l1 := iq' hT hs
  have hi : L.idxOf a < L.length := List.idxOf_lt_length_iff.mpr ha
  rw [List.getElem?_map, List.getElem?_eq_getElem (by omega)]
  rfl
theorem mI' {T' : List (List Nat)} {S : List Nat} (hT : bI' T T.length L.length) (hS : ∀ s ∈ S, s < T.length) (hcl : ∀ s ∈ S, ∀ t ∈ bp' T s, t ∈ S) (hr : ∀ s ∈ S, bp' T' (c s) = (bp' T s).map c) :
    ∀ x : Tx, (∀ a ∈ x, a ∈ L) -> ∀ s ∈ S, run L T' (c s) x = c (run L T s x) /\ run L T s x ∈ S
  | [], _, s, hs => ⟨rfl, hs⟩
  | a :: x, hx, s, hs => by
    have ha := hx a (by simp)
    rw [f4', f4', qW' hT (hS s hs) ha (hr s hs)]
    exact mI' hT hS hcl hr x (fun b hb => hx b (by simp [hb])) _ (hcl s hs _ (eq' hT (hS s hs) ha))
end
structure Cw (L : Tx) (T : List (List Nat)) (A : List Nat) (S : List Nat) (c : Nat -> Nat) : Prop where
  ref : ∀ s ∈ S, ∀ t ∈ S, c s = c t -> (s ∈ A ↔ t ∈ A)
  co : ∀ s ∈ S, ∀ t ∈ S, Leq L T A s t -> c s = c t
section
variable {L : Tx} {T : List (List Nat)} {A S : List Nat} {c : Nat -> Nat} {k : Nat}
theorem Cw.next (hT : bI' T T.length L.length) (hL : L.Nodup) (hS : ∀ s ∈ S, s < T.length) (hcl : ∀ s ∈ S, ∀ t ∈ bp' T s, t ∈ S) (h : Cw L T A S c) : Clz L T A S (m6' S (key T c)) (bC' (S.map (key T c))).length := by
  refine ⟨gd' _, fun s hs t ht e => ?_, fun s hs t ht e => (cB' _ hs ht).mpr ?_⟩
  . have := (cB' _ hs ht).mp e
    exact h.ref s hs t ht (congrArg Prod.fst this)
  . refine Prod.ext (h.co s hs t ht e) (mK' hT hL (hS s hs) (hS t ht) fun a ha => ?_)
    exact h.co _ (hcl s hs _ (eq' hT (hS s hs) ha)) _ (hcl t ht _ (eq' hT (hS t ht) ha)) (e.step ha)
end
def nT' (X : D) (T : List (List Nat)) : Prop := ∀ (s : Nat) (r : List Nat), T[s]? = some r -> ∃ R, pIx X (.int (s : Nat)) = some R /\ cM' R = some (r.map fun t => .int (t : Nat))
def nU' (Y : D) (A : List Nat) : Prop := ∀ s : Nat, pIn (.int (s : Nat)) Y = some (.bl (decide (s ∈ A)))
theorem nT'.tab (T : List (List Nat)) : nT' (il' T) T := fun s r h => ⟨ef' r, by
  show ati (T.map ef') (s : Int) = _
  rw [ia' (by omega), List.getElem?_map, Int.toNat_natCast, h]; rfl, rfl⟩
theorem nU'.acc (A : List Nat) : nU' (fl' A) A := fun s => by
  have h := nG' A s (Q := fun d => d = .bl (decide (s ∈ A)))
  have : wD (pIn (.int (s : Nat)) (fl' A)) (fun d => d = .bl (decide (s ∈ A))) := by rw [h]
  rw [aA'] at this
  cases e : pIn (.int (s : Nat)) (fl' A) with
  | none => rw [e] at this; exact this.elim
  | some d => rw [e] at this; exact congrArg some this
def ixo {γ : Type} [DecidableEq γ] (G : List γ) (a : γ) : Nat := G.idxOf a
section
variable {L : Tx} {T : List (List Nat)} {A : List Nat} {c c' : Nat -> Nat} {T1 T2 : List (List Nat)} {A1 A2 : List Nat}
end
def Pl (y : Option O) : Prop := y = none \/ ∃ d, y = some (.fz d)
theorem Pl.keep {y : Option O} (h : Pl y) : nn' (some y) = y := by rcases h with rfl | ⟨d, rfl⟩ <;> rfl
end M
namespace M
section
variable {L : Tx} {T T' U : List (List Nat)} {A A' B T1 A1 T2 A2 : List Nat} {m : Nat} {c : Nat -> Nat}
theorem IsLeast.run0 {T1 : List (List Nat)} (hT : bI' T T.length L.length) (hn : 1 <= T.length) (h : IsLeast L T A c T1 A1) {x : Tx} (hx : ∀ a ∈ x, a ∈ L) : run L T1 0 x ∈ A1 ↔ run L T 0 x ∈ A := by
  have hS : ∀ s ∈ M.bN' T, s < T.length := fun s hs => oL' hT hn hs
  have hcl : ∀ s ∈ M.bN' T, ∀ t ∈ bp' T s, t ∈ M.bN' T := fun s hs t ht => g9' hT hn hs ht
  have := mI' hT hS hcl h.row x hx 0 kU'
  rw [h.c0] at this
  rw [this.1, h.fin _ this.2]
end
end M
namespace M
section
variable {γ : Type} [DecidableEq γ] (L : Tx) (sx : γ -> Nat -> γ) (g0 : γ)
def nxG (g : γ) : List γ := L.map (sx g)
def xbf : Nat -> List γ
  | 0 => [g0]
  | j + 1 => match (xbf j)[j]? with
    | some g => cL' (xbf j) (nxG L sx g)
    | none => xbf j
def rF' (g : γ) (z : Tx) : γ := z.foldl sx g
def Rch (g : γ) : Prop := ∃ z : Tx, (∀ c ∈ z, c ∈ L) /\ g = rF' sx g0 z
def Few (N : Nat) : Prop := ∀ l : List γ, l.Nodup -> (∀ g ∈ l, Rch L sx g0 g) -> l.length <= N
def e4' (N : Nat) : List γ := xbf L sx g0 N
def vy' (F : List γ) (g : γ) : List Nat := L.map fun c => ixo F (sx g c)
def pF' (F : List γ) : List (List Nat) := F.map (vy' L sx F)
def xH' (F : List γ) (p : γ -> Bool) : List Nat := (List.range F.length).filter fun q => ((F[q]?).map p).getD false
variable {L sx g0}
theorem qB' {j : Nat} : xbf L sx g0 j <+: xbf L sx g0 (j + 1) := by
  show xbf L sx g0 j <+: (match (xbf L sx g0 j)[j]? with | some s => cL' (xbf L sx g0 j) (nxG L sx s) | none => xbf L sx g0 j)
  split
  . exact f5'
  . exact List.prefix_refl _
theorem n5' {i j : Nat} (h : i <= j) : xbf L sx g0 i <+: xbf L sx g0 j := by
  induction h with
  | refl => exact List.prefix_refl _
  | step _ ih => exact ih.trans qB'
theorem jb' : ∀ j : Nat, (xbf L sx g0 j).Nodup
  | 0 => by simp [xbf]
  | j + 1 => by
    show (match (xbf L sx g0 j)[j]? with | some s => cL' (xbf L sx g0 j) (nxG L sx s) | none => xbf L sx g0 j).Nodup
    split
    . exact gg' (jb' j)
    . exact jb' j
theorem nh' {g : γ} {z : Tx} {c : Nat} : rF' sx g (z ++ [c]) = sx (rF' sx g z) c := by unfold rF'; rw [List.foldl_append]; rfl
theorem fQ' : ∀ j : Nat, ∀ g ∈ xbf L sx g0 j, Rch L sx g0 g
  | 0, g, h => by
    have : g = g0 := by simpa [xbf] using h
    exact ⟨[], nofun, this⟩
  | j + 1, g, h => by
    have h : g ∈ (match (xbf L sx g0 j)[j]? with | some s => cL' (xbf L sx g0 j) (nxG L sx s) | none => xbf L sx g0 j) := h
    split at h
    . rename_i s e
      rcases cC'.mp h with q | q
      . exact fQ' j g q
      . obtain ⟨c, hc, rfl⟩ := List.mem_map.mp q
        obtain ⟨z, hz, rfl⟩ := fQ' j s (List.mem_of_getElem? e)
        exact ⟨z ++ [c], fun d hd => (List.mem_append.mp hd).elim (hz d) (fun q => List.mem_singleton.mp q ▸ hc), nh'.symm⟩
    . exact fQ' j g h
theorem fP' {j : Nat} (h : (xbf L sx g0 j).length <= j) : ∀ {i : Nat}, j <= i -> xbf L sx g0 i = xbf L sx g0 j := by
  intro i hi
  induction hi with
  | refl => rfl
  | @step i hi ih =>
    show (match (xbf L sx g0 i)[i]? with | some s => cL' (xbf L sx g0 i) (nxG L sx s) | none => xbf L sx g0 i) = _
    have : (xbf L sx g0 i)[i]? = none := by rw [ih]; exact List.getElem?_eq_none (Nat.le_trans h hi)
    rw [this, ih]
theorem sL' {j : Nat} {g : γ} (h : (xbf L sx g0 j)[j]? = some g) : xbf L sx g0 (j + 1) = cL' (xbf L sx g0 j) (nxG L sx g) := by
  show (match (xbf L sx g0 j)[j]? with | some s => cL' (xbf L sx g0 j) (nxG L sx s) | none => xbf L sx g0 j) = _
  rw [h]
variable {N : Nat}
theorem Few.len (h : Few L sx g0 N) (j : Nat) : (xbf L sx g0 j).length <= N := h _ (jb' j) (fQ' j)
theorem Few.all (h : Few L sx g0 N) {j : Nat} (hj : (xbf L sx g0 j).length <= j) : xbf L sx g0 j = e4' L sx g0 N := by
  by_cases q : j <= N
  . exact (fP' hj q).symm
  . exact fP' (h.len _) (by omega)
theorem Few.pre (h : Few L sx g0 N) (j : Nat) : xbf L sx g0 j <+: e4' L sx g0 N := by
  by_cases q : j <= N
  . exact n5' q
  . have : xbf L sx g0 j = e4' L sx g0 N := fP' (h.len _) (by omega)
    rw [this]
    exact List.prefix_refl _
theorem Few.get (h : Few L sx g0 N) {j : Nat} {g : γ} (e : (e4' L sx g0 N)[j]? = some g) : (xbf L sx g0 j)[j]? = some g := by
  have h1 : j < (xbf L sx g0 j).length := by
    rcases Nat.lt_or_ge j (xbf L sx g0 j).length with q | q
    . exact q
    . have := h.all q
      rw [<- this] at e
      have := (List.getElem?_eq_some_iff.mp e).1
      omega
  obtain ⟨G, eG⟩ := h.pre j
  rw [<- eG, List.getElem?_append_left h1] at e
  exact e
theorem Few.nd : (e4' L sx g0 N).Nodup := jb' N
theorem Few.zero (h : Few L sx g0 N) : (e4' L sx g0 N)[0]? = some g0 := by
  obtain ⟨G, e⟩ := h.pre 0
  rw [<- e]
  rfl
theorem Few.closed (h : Few L sx g0 N) {g : γ} (hg : g ∈ e4' L sx g0 N) {c : Nat} (hc : c ∈ L) : sx g c ∈ e4' L sx g0 N := by
  obtain ⟨j, hj, e⟩ := List.getElem_of_mem hg
  have e1 : (e4' L sx g0 N)[j]? = some g := by rw [List.getElem?_eq_getElem hj, e]
  have := sL' (h.get e1)
  exact (h.pre (j + 1)).subset (by rw [this]; exact cC'.mpr (.inr (List.mem_map.mpr ⟨c, hc, rfl⟩)))
theorem Few.mono {N' : Nat} (h : Few L sx g0 N) (hn : N <= N') : Few L sx g0 N' := fun l a b => Nat.le_trans (h l a b) hn
theorem uk' {F : List γ} {g : γ} (h : g ∈ F) : ixo F g < F.length := List.idxOf_lt_length_iff.mpr h
theorem rJ' {F : List γ} {g : γ} (h : g ∈ F) : F[ixo F g]? = some g := by
  unfold ixo
  rw [List.getElem?_eq_getElem (List.idxOf_lt_length_iff.mpr h), List.getElem_idxOf]
theorem Few.tab (h : Few L sx g0 N) : bI' (pF' L sx (e4' L sx g0 N)) (pF' L sx (e4' L sx g0 N)).length L.length := by
  refine ⟨rfl, fun r hr => ?_⟩
  obtain ⟨g, hg, rfl⟩ := List.mem_map.mp hr
  refine ⟨by simp [vy'], fun t ht => ?_⟩
  obtain ⟨c, hc, rfl⟩ := List.mem_map.mp ht
  rw [show (pF' L sx (e4' L sx g0 N)).length = (e4' L sx g0 N).length by simp [pF']]
  exact uk' (h.closed hg hc)
theorem Few.ne (h : Few L sx g0 N) : 1 <= (e4' L sx g0 N).length := by
  have := (List.getElem?_eq_some_iff.mp h.zero).1
  omega
theorem Few.run (h : Few L sx g0 N) : ∀ (z : Tx) (s : Nat) (g : γ), (∀ c ∈ z, c ∈ L) -> (e4' L sx g0 N)[s]? = some g -> (e4' L sx g0 N)[M.run L (pF' L sx (e4' L sx g0 N)) s z]? = some (rF' sx g z)
  | [], s, g, _, e => e
  | c :: z, s, g, hz, e => by
    have hc := hz c (by simp)
    have hg := List.mem_of_getElem? e
    rw [f4']
    have e1 : stp L (pF' L sx (e4' L sx g0 N)) s c = ixo (e4' L sx g0 N) (sx g c) := by
      unfold stp pF'
      rw [List.getElem?_map, e]
      show ((vy' L sx (e4' L sx g0 N) g)[L.idxOf c]?).getD 0 = _
      unfold vy'
      rw [List.getElem?_map, List.getElem?_eq_getElem (List.idxOf_lt_length_iff.mpr hc), List.getElem_idxOf]
      rfl
    rw [e1]
    exact Few.run h z _ (sx g c) (fun d hd => hz d (by simp [hd])) (rJ' (h.closed hg hc))
theorem Few.says (h : Few L sx g0 N) (p : γ -> Bool) {z : Tx} (hz : ∀ c ∈ z, c ∈ L) : M.run L (pF' L sx (e4' L sx g0 N)) 0 z ∈ xH' (e4' L sx g0 N) p ↔ p (rF' sx g0 z) = true := by
  have e := h.run z 0 g0 hz h.zero
  have hl := (List.getElem?_eq_some_iff.mp e).1
  unfold xH'
  rw [List.mem_filter, e]
  simp only [List.mem_range, Option.map_some, Option.getD_some]
  exact ⟨fun q => q.2, fun q => ⟨hl, q⟩⟩
end
end M
namespace M
theorem de' (c : Nat) : ∀ l : List Tx, (b3' [c] l).length <= (l.map List.length).sum + l.length
  | [] => by simp [b3']
  | [a] => by simp [b3']
  | a :: b :: r => by
    have ih := de' c (b :: r)
    show (a ++ ([c] ++ b3' [c] (b :: r))).length <= _
    rw [List.length_append, List.length_append, List.length_singleton, List.map_cons, List.sum_cons, List.length_cons]
    omega
end M
namespace M
def wlt (x y : Tx) : Prop := x.length < y.length \/ (x.length = y.length /\ x < y)
def wle (x y : Tx) : Prop := x = y \/ wlt x y
section
variable {γ : Type} [DecidableEq γ] (sx : γ -> Nat -> γ)
def ys' (p : γ × Tx) (F : List (γ × Tx)) (c : Nat) : List (γ × Tx) := if sx p.1 c ∈ F.map (·.1) then F else F ++ [(sx p.1 c, p.2 ++ [c])]
variable (L : Tx) (g0 : γ)
def xw : Nat -> List (γ × Tx)
  | 0 => [(g0, [])]
  | j + 1 => match (xw j)[j]? with
    | some p => L.foldl (ys' sx p) (xw j)
    | none => xw j
variable {sx L g0}
structure XwOk (sx : γ -> Nat -> γ) (L : Tx) (g0 : γ) (j : Nat) : Prop where
  asc : (xw sx L g0 j).Pairwise (fun a b => wlt a.2 b.2)
  led : ∀ q ∈ xw sx L g0 j, (∀ c ∈ q.2, c ∈ L) /\ q.1 = rF' sx g0 q.2
  old : ∀ (i : Nat) (q : γ × Tx), (xw sx L g0 j)[i]? = some q -> q.2 = [] \/ ∃ (k : Nat) (r : γ × Tx) (c : Nat), k < j /\ (xw sx L g0 j)[k]? = some r /\ q.2 = r.2 ++ [c]
  small : ∀ (k : Nat) (r : γ × Tx), k < j -> (xw sx L g0 j)[k]? = some r -> ∀ c ∈ L, ∃ q ∈ xw sx L g0 j, q.1 = sx r.1 c /\ wle q.2 (r.2 ++ [c])
end
end M
namespace M
section
variable {X : Exc -> PSt -> Prop} {ρ : PSt}
end
end M
namespace M
section
variable {α : Type} (mul : α -> α -> α) (one : α) (S : α -> Prop)
structure Mon (l : List α) : Prop where
  cl : ∀ {a b}, S a -> S b -> S (mul a b)
  as : ∀ {a b c}, S a -> S b -> S c -> mul (mul a b) c = mul a (mul b c)
  o : S one
  l1 : ∀ {a}, S a -> mul one a = a
  r1 : ∀ {a}, S a -> mul a one = a
  fin : ∀ a, S a -> a ∈ l
def pw (a : α) : Nat -> α
  | 0 => a
  | n + 1 => mul (pw a n) a
def Idm (e : α) : Prop := mul e e = e
def Om (a e : α) : Prop := ∃ n, e = pw mul a n /\ Idm mul e
def Ker (d : α) : Prop := S d /\ ∀ y, S y -> ∃ u v, S u /\ S v /\ d = mul u (mul y v)
end
section
variable {α : Type} {mul : α -> α -> α} {one : α} {S : α -> Prop} {l : List α}
theorem Mon.pw (h : Mon mul one S l) {a : α} (ha : S a) : ∀ n, S (M.pw mul a n)
  | 0 => ha
  | n + 1 => h.cl (h.pw ha n) ha
theorem Mon.pw_add (h : Mon mul one S l) {a : α} (ha : S a) (m : Nat) : ∀ n, mul (M.pw mul a m) (M.pw mul a n) = M.pw mul a (m + n + 1)
  | 0 => rfl
  | n + 1 => by
    show mul (M.pw mul a m) (mul (M.pw mul a n) a) = mul (M.pw mul a (m + n + 1)) a
    rw [<- h.as (h.pw ha m) (h.pw ha n) ha, h.pw_add ha m n]
theorem Mon.pw_comm (h : Mon mul one S l) {a : α} (ha : S a) (m n : Nat) : mul (M.pw mul a m) (M.pw mul a n) = mul (M.pw mul a n) (M.pw mul a m) := by
  rw [h.pw_add ha, h.pw_add ha, Nat.add_comm m n]
theorem Mon.om_ex (h : Mon mul one S l) {a : α} (ha : S a) : ∃ n, n <= l.length * (l.length + 1) /\ Idm mul (M.pw mul a n) := by
  have hnd : ¬ ((List.range (l.length + 1)).map (M.pw mul a)).Nodup := fun hn => by
    have := List.Nodup.length_le_of_subset hn (l₂ := l) fun x hx => by
      obtain ⟨n, _, rfl⟩ := List.mem_map.1 hx
      exact h.fin _ (h.pw ha n)
    simp at this
    omega
  obtain ⟨i, j, hij, hj, e⟩ : ∃ i j, i < j /\ j <= l.length /\ M.pw mul a i = M.pw mul a j := by
    refine Classical.byContradiction fun hc => hnd ?_
    rw [List.nodup_iff_pairwise_ne, List.pairwise_map]
    refine List.Pairwise.imp_of_mem ?_ List.pairwise_lt_range
    intro a b ha hb hab e
    exact hc ⟨a, b, hab, by have := List.mem_range.1 hb; omega, e⟩
  have per : ∀ k, M.pw mul a (i + k + (j - i)) = M.pw mul a (i + k) := by
    intro k
    cases k with
    | zero => rw [Nat.add_zero, show i + (j - i) = j by omega, e]
    | succ k =>
      have e1 := h.pw_add ha i k
      have e2 := h.pw_add ha j k
      rw [show i + (k + 1) + (j - i) = j + k + 1 by omega, <- e2, <- e, e1]
      rfl
  have pers : ∀ k m, M.pw mul a (i + k + m * (j - i)) = M.pw mul a (i + k) := by
    intro k m
    induction m with
    | zero => rw [Nat.zero_mul, Nat.add_zero]
    | succ m ih =>
      rw [Nat.add_mul, Nat.one_mul, <- Nat.add_assoc, show i + k + m * (j - i) + (j - i) = i + (k + m * (j - i)) + (j - i) by omega, per, <- Nat.add_assoc, ih]
  have hp : 1 <= j - i := by omega
  have hge : i + 1 <= (i + 1) * (j - i) := Nat.le_mul_of_pos_right _ hp
  have hle : (i + 1) * (j - i) <= (l.length + 1) * l.length := Nat.mul_le_mul (by omega) (by omega)
  refine ⟨(i + 1) * (j - i) - 1, by rw [Nat.mul_comm l.length]; omega, ?_⟩
  show mul _ _ = _
  rw [h.pw_add ha]
  have := pers ((i + 1) * (j - i) - 1 - i) (i + 1)
  rw [show i + ((i + 1) * (j - i) - 1 - i) = (i + 1) * (j - i) - 1 by omega] at this
  rw [<- this]
  congr 1
  omega
theorem Om.s (h : Mon mul one S l) {a e : α} (ha : S a) (o : Om mul a e) : S e := by
  obtain ⟨n, rfl, _⟩ := o
  exact h.pw ha n
theorem Mon.pw_split (h : Mon mul one S l) {a : α} (ha : S a) (n : Nat) : ∃ w, S w /\ M.pw mul a n = mul a w /\ M.pw mul a n = mul w a := by
  cases n with
  | zero => exact ⟨one, h.o, (h.r1 ha).symm, (h.l1 ha).symm⟩
  | succ n =>
    refine ⟨M.pw mul a n, h.pw ha n, ?_, rfl⟩
    have := h.pw_add ha 0 n
    rw [show 0 + n + 1 = n + 1 by omega] at this
    exact this.symm
theorem Ker.mul_l (h : Mon mul one S l) {d a : α} (hd : Ker mul S d) (ha : S a) : Ker mul S (mul a d) := by
  refine ⟨h.cl ha hd.1, fun y hy => ?_⟩
  obtain ⟨u, v, hu, hv, e⟩ := hd.2 y hy
  refine ⟨mul a u, v, h.cl ha hu, hv, ?_⟩
  rw [h.as ha hu (h.cl hy hv), <- e]
theorem Ker.pw (h : Mon mul one S l) {d : α} (hd : Ker mul S d) : ∀ n, Ker mul S (M.pw mul d n)
  | 0 => hd
  | n + 1 => Ker.mul_l h hd (h.pw hd.1 n)
theorem Ker.below (h : Mon mul one S l) {e f : α} (he : Ker mul S e) (ie : Idm mul e) (sf : S f) (jf : Idm mul f) (h1 : mul e f = f) (h2 : mul f e = f) : f = e := by
  have se := he.1
  obtain ⟨u, v, su, sv, eq⟩ := he.2 f sf
  have sfv := h.cl sf sv
  have sb := h.cl sfv se
  have sa := h.cl se (h.cl su sf)
  generalize ha : mul e (mul u f) = a at *
  generalize hb : mul (mul f v) e = b at *
  have ab : mul a b = e := by
    rw [<- ha, <- hb, h.as se (h.cl su sf) (h.cl sfv se), h.as su sf (h.cl sfv se), <- h.as sf sfv se, <- h.as sf sf sv, show mul f f = f from jf, <- h.as su sfv se, <- eq, show mul e e = e from ie]
    exact ie
  have eb : mul e b = b := by rw [<- hb, <- h.as se sfv se, <- h.as se sf sv, h1]
  have fb : mul f b = b := by rw [<- hb, <- h.as sf sfv se, <- h.as sf sf sv, show mul f f = f from jf]
  have ae : mul a e = a := by rw [<- ha, h.as se (h.cl su sf) se, h.as su sf se, h2]
  have key : ∀ n, mul (M.pw mul a n) (M.pw mul b n) = e := by
    intro n
    induction n with
    | zero => exact ab
    | succ n ih =>
      have sn := h.pw sa n
      have sm := h.pw sb n
      show mul (mul (M.pw mul a n) a) (mul (M.pw mul b n) b) = e
      rw [show mul (M.pw mul b n) b = mul b (M.pw mul b n) from h.pw_comm sb n 0, h.as sn sa (h.cl sb sm), <- h.as sa sb sm, ab]
      have : mul e (M.pw mul b n) = M.pw mul b n := by
        obtain ⟨r, sr, r1, -⟩ := h.pw_split sb n
        rw [r1, <- h.as se sb sr, eb]
      rw [this]
      exact ih
  obtain ⟨m, _, hm⟩ := h.om_ex sb
  have k := key m
  have sg := h.pw sb m
  have e1 : mul e (M.pw mul b m) = e := by
    rw [<- k, h.as (h.pw sa m) sg sg, show mul (M.pw mul b m) (M.pw mul b m) = _ from hm]
  obtain ⟨r, sr, r1, -⟩ := h.pw_split sb m
  have e2 : mul e (M.pw mul b m) = M.pw mul b m := by rw [r1, <- h.as se sb sr, eb]
  have e3 : mul f (M.pw mul b m) = M.pw mul b m := by rw [r1, <- h.as sf sb sr, fb]
  rw [<- e2, e1, h2] at e3
  exact e3
theorem oM' (h : Mon mul one S l) {e x : α} (se : S e) (sx : S x) (h1 : mul e x = x) (h2 : mul x e = x) (n : Nat) : mul e (M.pw mul x n) = M.pw mul x n /\ mul (M.pw mul x n) e = M.pw mul x n := by
  obtain ⟨r, sr, r1, r2⟩ := h.pw_split sx n
  exact ⟨by rw [r1, <- h.as se sx sr, h1], by rw [r2, h.as sr sx se, h2]⟩
theorem Ker.om_grp (h : Mon mul one S l) {e a f : α} (he : Ker mul S e) (ie : Idm mul e) (sa : S a) (h1 : mul e a = a) (h2 : mul a e = a) (o : Om mul a f) : f = e := by
  have sf := Om.s h sa o
  obtain ⟨n, rfl, jf⟩ := o
  obtain ⟨f1, f2⟩ := oM' h he.1 sa h1 h2 n
  exact he.below h ie sf jf f1 f2
theorem Ker.inv (h : Mon mul one S l) {e a : α} (he : Ker mul S e) (ie : Idm mul e) (sa : S a) (h1 : mul e a = a) (h2 : mul a e = a) : ∃ b, S b /\ mul e b = b /\ mul b e = b /\ mul a b = e /\ mul b a = e := by
  obtain ⟨n, _, hn⟩ := h.om_ex sa
  have en := he.om_grp h ie sa h1 h2 ⟨n, rfl, hn⟩
  obtain ⟨w, sw, w1, w2⟩ := h.pw_split sa n
  have sew := h.cl (h.cl he.1 sw) he.1
  refine ⟨mul (mul e w) e, sew, ?_, ?_, ?_, ?_⟩
  . rw [<- h.as he.1 (h.cl he.1 sw) he.1, <- h.as he.1 he.1 sw, show mul e e = e from ie]
  . rw [h.as (h.cl he.1 sw) he.1 he.1, show mul e e = e from ie]
  . rw [<- h.as sa (h.cl he.1 sw) he.1, <- h.as sa he.1 sw, h2, <- w1, en]
    exact ie
  . rw [h.as (h.cl he.1 sw) he.1 sa, h1, h.as he.1 sw sa, <- w2, en]
    exact ie
end
end M
namespace M
section
variable {β : Type} [Mul β]
structure FM (one : β) (l : List β) : Prop where
  as : ∀ a b c : β, a * b * c = a * (b * c)
  l1 : ∀ a : β, one * a = a
  r1 : ∀ a : β, a * one = a
  fin : ∀ a : β, a ∈ l
structure Sub (one : β) (S : β -> Prop) : Prop where
  cl : ∀ {a b}, S a -> S b -> S (a * b)
  o : S one
abbrev mu : β -> β -> β := fun a b => a * b
theorem Sub.all {one : β} : Sub one (fun _ => True) := ⟨fun _ _ => trivial, trivial⟩
def kF' (β : Type) [Mul β] : Prop := ∀ x y e f : β, Om mu (x * y) e -> Om mu (y * x) f -> e * (f * e) = e
structure Blk (e a b c d : β) : Prop where
  i : e * e = e
  one : e * (a * (c * e)) = e
  other : e * (b * (d * e)) = e
  both : e * (a * (b * (c * (d * e)))) ≠ e
theorem qi' {e : β} (h : e * e = e) : Om mu e e := ⟨0, rfl, h⟩
structure Un (e a : β) : Prop where
  l : e * a = a
  r : a * e = a
  ex : ∃ b, e * b = b /\ b * e = b /\ a * b = e /\ b * a = e
theorem Un.mul {one : β} {l : List β} (h : FM one l) {e a b : β} (ha : Un e a) (hb : Un e b) : Un e (a * b) := by
  obtain ⟨a', p1, p2, p3, p4⟩ := ha.ex
  obtain ⟨b', q1, q2, q3, q4⟩ := hb.ex
  refine ⟨by rw [<- h.as, ha.l], by rw [h.as, hb.r], b' * a', by rw [<- h.as, q1], by rw [h.as, p2], ?_, ?_⟩
  . rw [h.as, <- h.as b, q3, p1, p3]
  . rw [h.as, <- h.as a', p4, hb.l, q4]
theorem kF'.split {one : β} {l : List β} (h : FM one l) (st : kF' β) {e x y : β} (ie : e * e = e) (hx : Un e (e * (x * e))) (hy : Un e (e * (y * e))) : e * (x * (y * e)) = e * (x * e) * (e * (y * e)) := by
  obtain ⟨p', p1, p2, p3, p4⟩ := hx.ex
  obtain ⟨q', q1, q2, q3, q4⟩ := hy.ex
  have ie' : ∀ z, e * (e * z) = e * z := fun z => by rw [<- h.as, ie]
  have p1' : ∀ z, e * (p' * z) = p' * z := fun z => by rw [<- h.as, p1]
  have p2' : ∀ z, p' * (e * z) = p' * z := fun z => by rw [<- h.as, p2]
  have q1' : ∀ z, e * (q' * z) = q' * z := fun z => by rw [<- h.as, q1]
  have q2' : ∀ z, q' * (e * z) = q' * z := fun z => by rw [<- h.as, q2]
  -- g = p' x, h = y q'
  have a1 : p' * (x * e) = e := by rw [<- p2', p4]
  have a1' : ∀ z, p' * (x * (e * z)) = e * z := fun z => by
    have := congrArg (· * z) a1
    simpa only [h.as] using this
  have a2 : e * (x * p') = e := by
    have := p3
    rw [h.as, h.as, p1] at this
    exact this
  have a2' : ∀ z, e * (x * (p' * z)) = e * z := fun z => by
    have := congrArg (· * z) a2
    simpa only [h.as] using this
  have b1 : e * (y * q') = e := by
    have := q3
    rw [h.as, h.as, q1] at this
    exact this
  have b1' : ∀ z, e * (y * (q' * z)) = e * z := fun z => by
    have := congrArg (· * z) b1
    simpa only [h.as] using this
  have b2 : q' * (y * e) = e := by rw [<- q2', q4]
  have b2' : ∀ z, q' * (y * (e * z)) = e * z := fun z => by
    have := congrArg (· * z) b2
    simpa only [h.as] using this
  -- e, h g
  have gi : (p' * x) * (p' * x) = p' * x := by
    rw [h.as, <- p2', a2', p2']
  have hi : (y * q') * (y * q') = y * q' := by
    rw [h.as]
    have : q' * (y * q') = q' := by
      have := b2' q'
      rw [q1] at this
      exact this
    rw [this]
  have o1 : Om mu (e * ((y * q') * (p' * x))) (p' * x) := by
    have : e * ((y * q') * (p' * x)) = p' * x := by rw [h.as, b1', p1']
    rw [this]; exact qi' gi
  have o2 : Om mu (((y * q') * (p' * x)) * e) (y * q') := by
    have : ((y * q') * (p' * x)) * e = y * q' := by rw [h.as, h.as p', a1, h.as, q2]
    rw [this]; exact qi' hi
  have k := st _ _ _ _ o1 o2
  -- g h g = g
  have k2 : (p' * x) * (y * q') = e := by
    have := congrArg (· * e) k
    simp only [h.as, a1, q2] at this
    simpa only [h.as] using this
  have k2' : p' * (x * (y * q')) = e := by rw [<- h.as]; exact k2
  have f1 : e * (x * e) * (p' * (x * (y * (q' * (e * (y * e)))))) = e * (x * (y * e)) := by
    have : q' * (e * (y * e)) = e := q4
    rw [this, h.as, h.as, p1', a2']
  rw [<- f1]
  have f2 : p' * (x * (y * (q' * (e * (y * e))))) = e * (y * e) := by
    have := congrArg (· * (e * (y * e))) k2'
    simp only [h.as, ie'] at this
    exact this
  rw [f2]
section
variable {one : β} {l : List β} (gen : Nat -> β)
def dd (one : β) : List Nat -> β
  | [] => one
  | c :: z => gen c * dd one z
def DL (one : β) (lot : List Nat) (d : β) : Prop := ∃ z, (∀ c ∈ z, c ∈ lot) /\ d = dd gen one z
def FL (one : β) (lot : List Nat) (d : β) : Prop := ∃ z, (∀ c ∈ z, c ∈ lot) /\ (∀ c ∈ lot, c ∈ z) /\ d = dd gen one z
variable {gen}
theorem nE' (h : FM one l) (x y : List Nat) : dd gen one (x ++ y) = dd gen one x * dd gen one y := by
  induction x with
  | nil => exact (h.l1 _).symm
  | cons c x ih => show gen c * dd gen one (x ++ y) = gen c * dd gen one x * dd gen one y; rw [ih, h.as]
theorem DL.sub (h : FM one l) {lot : List Nat} : Sub one (DL gen one lot) where
  cl := by
    rintro _ _ ⟨x, hx, rfl⟩ ⟨y, hy, rfl⟩
    exact ⟨x ++ y, fun c hc => (List.mem_append.1 hc).elim (hx c) (hy c), (nE' h x y).symm⟩
  o := ⟨[], by simp, rfl⟩
theorem FL.mul (h : FM one l) {lot : List Nat} {a b c : β} (ha : DL gen one lot a) (hb : FL gen one lot b) (hc : DL gen one lot c) : FL gen one lot (a * (b * c)) := by
  obtain ⟨x, x1, rfl⟩ := ha
  obtain ⟨y, y1, y2, rfl⟩ := hb
  obtain ⟨z, z1, rfl⟩ := hc
  refine ⟨x ++ (y ++ z), fun c hc => ?_, fun c hc => ?_, by rw [nE' h, nE' h]⟩
  . simp only [List.mem_append] at hc
    rcases hc with q | q | q
    . exact x1 c q
    . exact y1 c q
    . exact z1 c q
  . simp only [List.mem_append]
    exact .inr (.inl (y2 c hc))
end
end
section
variable {β : Type} [Mul β] {one : β} {l : List β}
end
end M
namespace M
section
local macro_rules | `(tactic| walk_at "s") => `(tactic| simp (disch := first | assumption | omega | decide) only [*, ↓x_C, ↓x_V, ↓yb', ↓x8', ↓vY', ↓vT', ↓qE', ↓vU', ↓sU', ↓vR', ↓vV', ↓yd', ↓yc', ↓x9', ↓ya', ↓x_O, ↓x6', ↓x5', ↓sV', ↓sO', ↓qC', ↓qD', ↓sT', ↓vW', ↓vS', ↓vX', ↓sS', ↓sR', ↓x7', sW', ↓n6', uV', yC', xi', vd', xj', wQ', wP', rz', wx', ww', pu', vm', vl', o1', rq', nf', oW', pf', wF', wG', sl', sk', pw', vn', vp', vo', ry', wv', wu', tX', rx', m1', rW', uw', q8', oD', oB', oC', uG', xk', o6', r0', ↓x4', ↓sM', ↓sN', ↓vP', ↓x3', ↓sQ', ↓ll', ↓lk', ↓sP', ↓ye', ↓vQ',
  ↓tw', ↓tx', ↓wf', ↓we', ↓yh', ↓wd', ↓wi', ↓oE', ↓wj', ↓tv', ↓wh', ↓wg', ↓q9', ↓v7', ↓s9',
  v2', v6', v1', v5', sb', r8', pj', w9', vb', uU', u6', se', u3', o7', pr', ph', pi', pg', Option.map_some, Option.map_none, Option.isSome_some, Option.isSome_none, Bool.bne_true, Bool.bne_false, sv', rR', rQ', rT', rP', uo', rO', rS', nF', uX', si', uJ', u8', qp', v0', sY', sX', sZ', v4', s7', s6', s8', qI', s2', v8', s0', s1', s4', vA', s5', s3', v3', a3', fS', qF', qM', qL',
  vi', vg', vh', qx', sm', wI', wZ', uZ', u0', vf', w0', wT', wU', xm', xl', xn', wX', wV', wY', beq_self_eq_true, sg', sh', nG', pk', pl', pm', pb', xb', xc', po', pp', yv', yw', yx', yz', w4', w5', xf', xh', xe', uW', qv', qw', u5', u7', kw', w7', xa', pn', bo', pz', nP', k3', o4', nm', su', gA', List.getElem?_map, ia', ul', wM', wO', wL', wN', qy', pt', uR', uS', u9', sf', r2', wJ', ve', sj', kx', pq', r1', xd', vc', xv', w3', w2', uM', uK', uL', r3', sa', r9', r4', iR', k7', iT', iQ', iP', iS', iU', hY', iW', h0', hX', hW', hZ', h3', iK', k6', iM', iJ', iI', iL', iN', gl', hJ', gn', gk', gj', gm', go', hM', iO', hO', hL', hK', hN', hP', hS', iV', hU', hR', hQ', hT', hV', wH', xu', xt', uP', kv', uO', wS', wR', uF', uI', uE', uH', xo', xp', r6', r5', u2', vw', yB', yA', xg', yy', w6', u1', u4', oy', w8', va', uN', wK', qJ', nX', String.reduceEq, reduceIte, qH', List.getElem?_set_self, List.getElem?_set_ne, List.set_set, sc', xq', sd', xs', xr', chD,
  decide_true, decide_false, frz, nx', vr', tn1, Int.zero_add, Bool.not_false, Bool.not_true, Bool.and_true, Bool.true_and, Bool.and_false, Bool.false_and, Bool.or_true, Bool.true_or, Bool.or_false, Bool.false_or, List.getElem?_cons_zero, List.getElem?_cons_succ, List.set_cons_zero, List.set_cons_succ, List.length_cons, List.length_nil, List.map_cons, List.map_nil, List.cons_append, List.nil_append, List.replicate_succ, List.replicate_zero, List.length_map, List.length_range, List.length_set, Int.toNat_natCast, and_self, or_true, true_or, true_and, and_true, or_self, Int.reduceToNat, Int.toNat_zero, Int.toNat_one, Int.reduceNeg, Int.reducePow, Int.reduceAdd, Int.reduceSub, Int.reduceMul, Int.reduceLT, Int.reduceLE, Nat.reduceAdd, Nat.reduceSub, Nat.reduceLT, Nat.reduceLeDiff])
local macro_rules | `(tactic| walk_at "f0") => `(tactic| (refine tZ' ?_ rfl; simp only [List.map_cons, List.map_nil, List.replicate_succ, List.replicate_zero, List.cons_append, List.nil_append, Nat.reduceSub]))
local macro_rules | `(tactic| walk_at "f") => `(tactic| (walk_at "f0"; walk_at "s"))
local macro_rules | `(tactic| walk_at "l") => `(tactic| (intro env2_ he_; simp only [bo', List.set_cons_zero, List.set_cons_succ] at he_; rw [he_]; clear he_))
theorem k5' {w : W} {n : Nat} {m : Int} (h : bA' w n) (h1 : 0 < m) (h2 : m < 1606938044258990275541962092341162602522202993782792835301376) : wF (f__law_draw [.obj n, .int m] w) (fun o w' => ∃ d, o = .fz (.int d) /\ 0 <= d /\ d < m /\ bA' w' n /\ But n w w') FX := by
  obtain ⟨cells, i, b, s, c, hw, hi⟩ := h
  have hn := dc' hw
  unfold f__law_draw
  walk_at "f0"
  refine q4' (fun ρ => ∃ x w', ρ = ⟨[some (.fz (.obj n)), some (.fz (.int m)), x, none, none], w'⟩ /\ bA' w' n /\ But n w w') ?_ ?_
  . walk_at "s"
    refine an' (fun hb => ?_) (fun hb => ?_)
    . walk_at "s"
      refine an' (fun hc => ?_) (fun hc => ?_)
      . walk_at "s"
        refine aR' ?_ fun x _ hx => ?_
        . omega
        walk_at "s"
        refine an' (fun hc => ?_) (fun hc => ?_)
        . walk_at "s"
          exact ⟨_, _, rfl, ⟨cells, _, _, _, _, List.getElem?_set_self hn, by omega⟩, But.refl.set⟩
        . walk_at "s"
          exact ⟨_, _, rfl, ⟨cells, _, _, _, _, List.getElem?_set_self hn, by omega⟩, But.refl.set⟩
      . walk_at "s"
        exact ⟨_, _, rfl, ⟨cells, _, _, _, _, hw, hi⟩, But.refl⟩
    . walk_at "s"
      exact ⟨_, _, rfl, ⟨cells, _, _, _, _, hw, hi⟩, But.refl⟩
  . rintro ρ1 ⟨x, w1, rfl, ⟨cells1, i1, b1, s1, c1, hw1, hi1⟩, bt⟩
    have hn1 := dc' hw1
    walk_at "s"
    refine an' (fun hb => ?_) (fun hb => ?_)
    . walk_at "s"
      exact ⟨_, rfl, Int.emod_nonneg _ (by omega), Int.emod_lt_of_pos _ h1, ⟨cells1, _, _, _, _, List.getElem?_set_self hn1, hi1⟩, bt.set⟩
    . walk_at "s"
      exact ⟨_, rfl, Int.emod_nonneg _ (by omega), Int.emod_lt_of_pos _ h1, ⟨cells1, _, _, _, _, List.getElem?_set_self hn1, hi1⟩, bt.set⟩
theorem aE' {w : W} {n : Nat} {m : Int} (h : bA' w n) (h1 : 0 < m) (h2 : m < 1606938044258990275541962092341162602522202993782792835301376) : wF (f__law_draw [.obj n, .int m] w) (fun o w' => ∃ d : Nat, o = .fz (.int (d : Nat)) /\ (d : Int) < m /\ bA' w' n /\ But n w w') FX := by
  refine (k5' h h1 h2).mono ?_
  rintro _ w' ⟨d, rfl, h3, h4, h5, h6⟩
  exact ⟨d.toNat, by rw [Int.toNat_of_nonneg h3], by rw [Int.toNat_of_nonneg h3]; exact h4, h5, h6⟩
theorem nu' {w : W} {ns : List Int} (hl : ns.length <= 63) : wF (f__law_hand [.scr (ns.map .int)] w) (fun o w' => o = .fz (.obj w.length) /\ bA' w' w.length /\ w'.length = w.length + 1 /\ ∀ j, j < w.length -> w'[j]? = w[j]?) FX := by
  unfold f__law_hand
  walk_at "f"
  have e : cut (ns.map D.int) none (some 63) = (ns.take 63).map .int := by
    rw [qy' (by decide), <- List.map_take]
    rfl
  have e2 : ns.take 63 = ns := List.take_of_length_le hl
  rw [e2] at e
  try rw [e]
  try rw [show List.take 63 (List.map D.int ns) = ns.map D.int by rw [<- List.map_take, e2]]
  refine hB' (by omega) (fun pre acc ρ => acc = pre.map (fun i => .int (if i < 0 then -i else i)) /\ ∃ x, ρ = ⟨[some (.fz (.scr (ns.map .int))), none, x], w⟩) ⟨rfl, _, rfl⟩ ?_ ?_
  . rintro pre c post acc _ e ⟨rfl, x, rfl⟩
    walk_at "s"
    exact ⟨by simp, _, rfl⟩
  . rintro acc _ ⟨rfl, x, rfl⟩
    walk_at "s"
    refine ⟨⟨ns.map (fun i => if i < 0 then -i else i), 0, 0, 1 + ns.length, 0, ?_, by decide⟩, by simp, fun j hj => ?_⟩
    . rw [List.getElem?_append_right (Nat.le_refl _), Nat.sub_self]
      rw [List.map_map]
      rfl
    . rw [List.getElem?_append_left hj]
theorem he' {α : Type} {l f : List α} {d : Nat} {x : α} (h : l[d]? = some x) : ((l.take d ++ l.drop (d + 1)) ++ (f ++ [x])).Perm (l ++ f) := by
  obtain ⟨hd, e⟩ := List.getElem?_eq_some_iff.mp h
  have h1 : l = l.take d ++ x :: l.drop (d + 1) := by rw [<- e, List.getElem_cons_drop, List.take_append_drop]
  generalize l.take d = a at *
  generalize l.drop (d + 1) = b at *
  subst h1
  simp only [List.append_assoc, List.cons_append]
  refine List.Perm.append_left a ?_
  rw [<- List.append_assoc]
  exact List.perm_append_comm
theorem dQ' {w : W} {n : Nat} {s : Tx} {m : Nat} (h : bA' w n) (hs : s.length < 1073741) (hm : m <= s.length) : wF (f__law_letters [.obj n, .str s, .int m] w) (fun o w' => ∃ r t : Tx, o = .fz (.str r) /\ r.length = m /\ (t ++ r).Perm s /\ bA' w' n /\ But n w w') FX := by
  unfold f__law_letters
  walk_at "f"
  refine cd' (fun k ρ => ∃ x y, ∃ t r : Tx, ∃ w', ρ = ⟨[some (.fz (.obj n)), some (.fz (.str s)), some (.fz (.int m)), some (.fz (.str t)), some (.fz (.str r)), x, y], w'⟩ /\ r.length = k /\ (t ++ r).Perm s /\ bA' w' n /\ But n w w') ⟨_, _, _, _, _, rfl, rfl, by simp, h, But.refl⟩ ?_ ?_
  . rintro k ρ hk ⟨x, y, t, r, w1, rfl, rfl, hp, hh, hb⟩
    have hl := hp.length_eq
    rw [List.length_append] at hl
    walk_at "s"
    refine (aE' hh (by omega) (by omega)).mono ?_
    rintro _ w2 ⟨d, rfl, h3, h4, h5⟩
    walk_at "s"
    refine aR' (by omega) fun c _ hc => ?_
    walk_at "s"
    have hl2 : (t.take d).length + (t.drop (d + 1)).length <= 16777216 := by rw [List.length_take, List.length_drop]; omega
    walk_at "s"
    refine ⟨_, _, _, _, _, rfl, by simp, ?_, h4, hb.trans h5⟩
    exact (he' hc).trans hp
  . rintro ρ ⟨x, y, t, r, w1, rfl, e, hp, hh, hb⟩
    walk_at "s"
    exact ⟨r, t, rfl, e, hp⟩
theorem db' {α β : Type} (f : α -> β) : ∀ (l : List α) (i : Nat), (l.map f).eraseIdx i = (l.eraseIdx i).map f
  | [], _ => rfl
  | _ :: _, 0 => rfl
  | a :: l, i + 1 => by simp [List.eraseIdx, db' f l i]
theorem fZ' {w : W} {n : Nat} {l : List D} (h : bA' w n) (hs : l.length < 1073741) : wF (f__law_shuffled [.obj n, .lst l] w) (fun o w' => ∃ r : List D, o = .lst (r.map .fz) /\ r.Perm l /\ bA' w' n /\ But n w w') FX := by
  unfold f__law_shuffled
  walk_at "f"
  refine cd' (fun k ρ => ∃ x, ∃ t r : List D, ∃ w', ρ = ⟨[some (.fz (.obj n)), some (.fz (.lst l)), some (.lst (t.map .fz)), some (.lst (r.map .fz)), x], w'⟩ /\ r.length = k /\ (t ++ r).Perm l /\ bA' w' n /\ But n w w') ⟨_, _, [], _, rfl, rfl, by simp, h, But.refl⟩ ?_ ?_
  . rintro k ρ hk ⟨x, t, r, w1, rfl, rfl, hp, hh, hb⟩
    have hl := hp.length_eq
    rw [List.length_append] at hl
    walk_at "s"
    refine (aE' hh (by omega) (by omega)).mono ?_
    rintro _ w2 ⟨d, rfl, h3, h4, h5⟩
    have hd : d < t.length := by omega
    walk_at "s"
    refine aR' (by omega) fun c _ hc => ?_
    walk_at "s"
    refine ⟨_, t.eraseIdx d, r ++ [c], _, by rw [db'], by simp, ?_, h4, hb.trans h5⟩
    rw [List.eraseIdx_eq_take_drop_succ]
    exact (he' hc).trans hp
  . rintro ρ ⟨x, t, r, w1, rfl, e, hp, hh, hb⟩
    walk_at "s"
    have hl := hp.length_eq
    rw [List.length_append] at hl
    have ht : t = [] := List.eq_nil_of_length_eq_zero (by omega)
    subst ht
    exact ⟨r, rfl, hp⟩
def vu' (T : List (List Nat)) (k many size : Nat) : Prop := T.length = k /\ ∀ r ∈ T, r.length = many /\ ∀ t ∈ r, t < size
theorem cc' (a b : Int) : (dh' a b).length = (b - a).toNat := by simp [dh']
theorem fM' {m : Nat} {d : D} (h : d ∈ dh' 0 m) : ∃ v : Nat, v < m /\ d = .int (v : Nat) := by
  unfold dh' at h
  obtain ⟨v, hv, rfl⟩ := List.mem_map.mp h
  exact ⟨v, by have := List.mem_range.mp hv; omega, by simp⟩
def Hd (o : O) (ds : List D) : Prop := o = .lst (ds.map .fz) \/ o = .fz (.lst ds)
theorem oG' {w : W} {n : Nat} {kind size many : Nat} (h : bA' w n) (hs : 1 <= size) (hs2 : size < 1000) (hm : 1 <= many) (hm2 : many < 1000) : wF (f__law_rows [.obj n, .int kind, .int size, .int many] w) (fun o w' => ∃ T, o = .fz (il' T) /\ bI' T size many /\ bA' w' n /\ But n w w') FX := by
  unfold f__law_rows
  walk_at "f"
  refine hB' (by simp; omega) (fun pre acc ρ => (∃ l : List Nat, acc = l.map (fun t => .int (t : Nat)) /\ l.length = pre.length) /\ ∃ x w', ρ = ⟨[some (.fz (.obj n)), some (.fz (.int kind)), some (.fz (.int size)), some (.fz (.int many)), some (.lst []), none, none, none, none, x, none], w'⟩ /\ bA' w' n /\ But n w w') ⟨⟨[], rfl, rfl⟩, _, _, rfl, h, But.refl⟩ ?_ ?_
  . rintro pre c post acc _ e ⟨⟨l, rfl, hl⟩, x, w1, rfl, hh, hb⟩
    walk_at "s"
    refine (aE' hh (by omega) (by omega)).mono ?_
    rintro _ w2 ⟨d, rfl, h3, h4, h5⟩
    walk_at "s"
    exact ⟨⟨l ++ [d], by simp, by simp [hl]⟩, _, _, rfl, h4, hb.trans h5⟩
  . rintro _ _ ⟨⟨steps, rfl, hsteps⟩, x, w1, rfl, hh, hb⟩
    have hsl : steps.length = many := by rw [hsteps]; simp
    walk_at "s"
    refine hB' (by simp; omega) (fun pre acc ρ => (∃ l : List (List D), acc = l.map .lst /\ l.length = pre.length /\ ∀ r ∈ l, r.Perm (dh' 0 size)) /\ ∃ x w', ρ = ⟨[some (.fz (.obj n)), some (.fz (.int kind)), some (.fz (.int size)), some (.fz (.int many)), some (.lst []), some (.lst ((steps.map (fun t => D.int (t : Nat))).map .fz)), none, none, none, x, none], w'⟩ /\ bA' w' n /\ But n w w') ⟨⟨[], rfl, rfl, by simp⟩, _, _, rfl, hh, hb⟩ ?_ ?_
    . rintro pre c post acc _ e ⟨⟨l, rfl, hl, hp⟩, x, w1, rfl, hh, hb⟩
      walk_at "s"
      refine (fZ' hh (by rw [cc']; omega)).mono ?_
      rintro _ w2 ⟨d, rfl, h3, h4, h5⟩
      walk_at "s"
      exact ⟨⟨l ++ [d], by simp, by simp [hl], by simpa [or_imp, forall_and] using ⟨hp, h3⟩⟩, _, _, rfl, h4, hb.trans h5⟩
    . rintro _ _ ⟨⟨turns, rfl, hturns, hperm⟩, x, w2, rfl, hh, hb⟩
      have htl : turns.length = many := by rw [hturns]; simp
      walk_at "s"
      refine cd' (fun k ρ => ∃ o5 o6 x7 x8 x9 x10 w', ∃ T : List (List Nat), ρ = ⟨[some (.fz (.obj n)), some (.fz (.int kind)), some (.fz (.int size)), some (.fz (.int many)), some (.lst ((T.map ef').map .fz)), some o5, some o6, x7, x8, x9, x10], w'⟩ /\ Hd o5 (steps.map (fun t => D.int (t : Nat))) /\ Hd o6 (turns.map .lst) /\ bA' w' n /\ But n w w' /\ vu' T k many size) ⟨_, _, _, _, _, _, _, [], rfl, .inl rfl, .inl rfl, hh, hb, rfl, by simp⟩ ?_ ?_
      . rintro state _ hst ⟨o5, o6, x7, x8, x9, x10, w3, T, rfl, h5, h6, hh3, hb3, hT, hTr⟩
        walk_at "s"
        refine cd' (fun k ρ => ∃ o5 o6 x9 x10 w', ∃ row : List Nat, ρ = ⟨[some (.fz (.obj n)), some (.fz (.int kind)), some (.fz (.int size)), some (.fz (.int many)), some (.lst ((T.map ef').map .fz)), some o5, some o6, some (.fz (.int (state : Nat))), some (.lst ((row.map fun t => D.int (t : Nat)).map .fz)), x9, x10], w'⟩ /\ Hd o5 (steps.map (fun t => D.int (t : Nat))) /\ Hd o6 (turns.map .lst) /\ bA' w' n /\ But n w w' /\ row.length = k /\ ∀ t ∈ row, t < size) ⟨_, _, _, _, _, [], rfl, h5, h6, hh3, hb3, rfl, by simp⟩ ?_ ?_
        . rintro letter _ hle ⟨o5, o6, x9, x10, w4, row, rfl, h5, h6, hh4, hb4, hrow, hrt⟩
          walk_at "s"
          refine (aE' hh4 (by omega) (by omega)).mono ?_
          rintro _ w5 ⟨d, rfl, hd, hh5, hb5⟩
          walk_at "s"
          have ht0 : (0 : Int) <= d := by omega
          generalize (d : Int) = t at hd ht0
          refine cm' (fun ρ => ∃ o5 o6, ∃ t : Int, ρ = ⟨[some (.fz (.obj n)), some (.fz (.int kind)), some (.fz (.int size)), some (.fz (.int many)), some (.lst ((T.map ef').map .fz)), some o5, some o6, some (.fz (.int (state : Nat))), some (.lst ((row.map fun t => D.int (t : Nat)).map .fz)), some (.fz (.int (letter : Nat))), some (.fz (.int t))], w5⟩ /\ Hd o5 (steps.map (fun t => D.int (t : Nat))) /\ Hd o6 (turns.map .lst) /\ 0 <= t /\ t < size) (an' (fun hk3 => ?_) (fun _ => ?_)) ?_
          . walk_at "s"
            rcases h5 with rfl | rfl
            . walk_at "s"
              refine aR' (by omega) fun z hz _ => ?_
              walk_at "s"
              exact ⟨_, _, _, rfl, .inr rfl, h6, Int.emod_nonneg _ (by omega), Int.emod_lt_of_pos _ (by omega)⟩
            . walk_at "s"
              refine aR' (by omega) fun z hz _ => ?_
              walk_at "s"
              exact ⟨_, _, _, rfl, .inr rfl, h6, Int.emod_nonneg _ (by omega), Int.emod_lt_of_pos _ (by omega)⟩
          . walk_at "s"
            exact ⟨_, _, _, rfl, h5, h6, ht0, hd⟩
          rintro ρ5 hJ
          rcases hJ with ⟨o5, o6, t, rfl, h5, h6, ht0, hd⟩
          walk_at "s"
          refine cm' (fun ρ => ∃ o5 o6, ∃ t : Int, ρ = ⟨[some (.fz (.obj n)), some (.fz (.int kind)), some (.fz (.int size)), some (.fz (.int many)), some (.lst ((T.map ef').map .fz)), some o5, some o6, some (.fz (.int (state : Nat))), some (.lst ((row.map fun t => D.int (t : Nat)).map .fz)), some (.fz (.int (letter : Nat))), some (.fz (.int t))], w5⟩ /\ Hd o5 (steps.map (fun t => D.int (t : Nat))) /\ Hd o6 (turns.map .lst) /\ 0 <= t /\ t < size) (an' (fun hk3 => ?_) (fun _ => ?_)) ?_
          . walk_at "s"
            rcases h5 with rfl | rfl
            . walk_at "s"
              refine aR' (by omega) fun z hz _ => ?_
              walk_at "s"
              exact ⟨_, _, _, rfl, .inr rfl, h6, by omega, by omega⟩
            . walk_at "s"
              refine aR' (by omega) fun z hz _ => ?_
              walk_at "s"
              exact ⟨_, _, _, rfl, .inr rfl, h6, by omega, by omega⟩
          . walk_at "s"
            exact ⟨_, _, _, rfl, h5, h6, ht0, hd⟩
          rintro ρ5 hJ
          rcases hJ with ⟨o5, o6, t, rfl, h5, h6, ht0, hd⟩
          walk_at "s"
          refine cm' (fun ρ => ∃ o5 o6, ∃ t : Int, ρ = ⟨[some (.fz (.obj n)), some (.fz (.int kind)), some (.fz (.int size)), some (.fz (.int many)), some (.lst ((T.map ef').map .fz)), some o5, some o6, some (.fz (.int (state : Nat))), some (.lst ((row.map fun t => D.int (t : Nat)).map .fz)), some (.fz (.int (letter : Nat))), some (.fz (.int t))], w5⟩ /\ Hd o5 (steps.map (fun t => D.int (t : Nat))) /\ Hd o6 (turns.map .lst) /\ 0 <= t /\ t < size) (an' (fun hk3 => ?_) (fun _ => ?_)) ?_
          . walk_at "s"
            refine an' (fun _ => ?_) (fun _ => ?_)
            . walk_at "s"
              exact ⟨_, _, _, rfl, h5, h6, Int.emod_nonneg _ (by omega), Int.emod_lt_of_pos _ (by omega)⟩
            . walk_at "s"
              exact ⟨_, _, _, rfl, h5, h6, by omega, by omega⟩
          . walk_at "s"
            exact ⟨_, _, _, rfl, h5, h6, ht0, hd⟩
          rintro ρ5 hJ
          rcases hJ with ⟨o5, o6, t, rfl, h5, h6, ht0, hd⟩
          walk_at "s"
          refine cm' (fun ρ => ∃ o5 o6, ∃ t : Int, ρ = ⟨[some (.fz (.obj n)), some (.fz (.int kind)), some (.fz (.int size)), some (.fz (.int many)), some (.lst ((T.map ef').map .fz)), some o5, some o6, some (.fz (.int (state : Nat))), some (.lst ((row.map fun t => D.int (t : Nat)).map .fz)), some (.fz (.int (letter : Nat))), some (.fz (.int t))], w5⟩ /\ Hd o5 (steps.map (fun t => D.int (t : Nat))) /\ Hd o6 (turns.map .lst) /\ 0 <= t /\ t < size) (an' (fun hk3 => ?_) (fun _ => ?_)) ?_
          . walk_at "s"
            exact ⟨_, _, _, rfl, h5, h6, Int.emod_nonneg _ (by omega), Int.emod_lt_of_pos _ (by omega)⟩
          . walk_at "s"
            exact ⟨_, _, _, rfl, h5, h6, ht0, hd⟩
          rintro ρ5 hJ
          rcases hJ with ⟨o5, o6, t, rfl, h5, h6, ht0, hd⟩
          walk_at "s"
          refine cm' (fun ρ => ∃ o5 o6, ∃ t : Int, ρ = ⟨[some (.fz (.obj n)), some (.fz (.int kind)), some (.fz (.int size)), some (.fz (.int many)), some (.lst ((T.map ef').map .fz)), some o5, some o6, some (.fz (.int (state : Nat))), some (.lst ((row.map fun t => D.int (t : Nat)).map .fz)), some (.fz (.int (letter : Nat))), some (.fz (.int t))], w5⟩ /\ Hd o5 (steps.map (fun t => D.int (t : Nat))) /\ Hd o6 (turns.map .lst) /\ 0 <= t /\ t < size) (an' (fun hk3 => ?_) (fun _ => ?_)) ?_
          . walk_at "s"
            refine ⟨_, _, _, rfl, h5, h6, ?_, ?_⟩
            . split <;> omega
            . split <;> omega
          . walk_at "s"
            exact ⟨_, _, _, rfl, h5, h6, ht0, hd⟩
          rintro ρ5 hJ
          rcases hJ with ⟨o5, o6, t, rfl, h5, h6, ht0, hd⟩
          walk_at "s"
          refine cm' (fun ρ => ∃ o5 o6, ∃ t : Int, ρ = ⟨[some (.fz (.obj n)), some (.fz (.int kind)), some (.fz (.int size)), some (.fz (.int many)), some (.lst ((T.map ef').map .fz)), some o5, some o6, some (.fz (.int (state : Nat))), some (.lst ((row.map fun t => D.int (t : Nat)).map .fz)), some (.fz (.int (letter : Nat))), some (.fz (.int t))], w5⟩ /\ Hd o5 (steps.map (fun t => D.int (t : Nat))) /\ Hd o6 (turns.map .lst) /\ 0 <= t /\ t < size) (an' (fun hk3 => ?_) (fun _ => ?_)) ?_
          . walk_at "s"
            refine an' (fun _ => ?_) (fun _ => ?_)
            . walk_at "s"
              refine an' (fun _ => ?_) (fun _ => ?_)
              . walk_at "s"
                refine ⟨_, _, _, rfl, h5, h6, Int.emod_nonneg _ (by omega), ?_⟩
                have := Int.emod_lt_of_pos ((state : Int) + 1) (show (0 : Int) < (size : Int) - 1 by omega)
                omega
              . walk_at "s"
                exact ⟨_, _, _, rfl, h5, h6, by omega, by omega⟩
            . walk_at "s"
              exact ⟨_, _, _, rfl, h5, h6, by omega, by omega⟩
          . walk_at "s"
            exact ⟨_, _, _, rfl, h5, h6, ht0, hd⟩
          rintro ρ5 hJ
          rcases hJ with ⟨o5, o6, t, rfl, h5, h6, ht0, hd⟩
          walk_at "s"
          refine cm' (fun ρ => ∃ o5 o6, ∃ t : Int, ρ = ⟨[some (.fz (.obj n)), some (.fz (.int kind)), some (.fz (.int size)), some (.fz (.int many)), some (.lst ((T.map ef').map .fz)), some o5, some o6, some (.fz (.int (state : Nat))), some (.lst ((row.map fun t => D.int (t : Nat)).map .fz)), some (.fz (.int (letter : Nat))), some (.fz (.int t))], w5⟩ /\ Hd o5 (steps.map (fun t => D.int (t : Nat))) /\ Hd o6 (turns.map .lst) /\ 0 <= t /\ t < size) (an' (fun hk3 => ?_) (fun _ => ?_)) ?_
          . walk_at "s"
            rcases h6 with rfl | rfl
            . walk_at "s"
              refine aR' (by omega) fun z hz _ => ?_
              have hp := hperm z hz
              have hpl := hp.length_eq
              rw [cc'] at hpl
              walk_at "s"
              refine aR' (by omega) fun y hy _ => ?_
              obtain ⟨v, hv, rfl⟩ := fM' (hp.mem_iff.mp hy)
              walk_at "s"
              exact ⟨_, _, _, rfl, h5, .inr rfl, by omega, by omega⟩
            . walk_at "s"
              refine aR' (by omega) fun z hz _ => ?_
              have hp := hperm z hz
              have hpl := hp.length_eq
              rw [cc'] at hpl
              walk_at "s"
              refine aR' (by omega) fun y hy _ => ?_
              obtain ⟨v, hv, rfl⟩ := fM' (hp.mem_iff.mp hy)
              walk_at "s"
              exact ⟨_, _, _, rfl, h5, .inr rfl, by omega, by omega⟩
          . walk_at "s"
            exact ⟨_, _, _, rfl, h5, h6, ht0, hd⟩
          rintro ρ5 hJ
          rcases hJ with ⟨o5, o6, t, rfl, h5, h6, ht0, hd⟩
          obtain ⟨t, rfl⟩ := Int.eq_ofNat_of_zero_le ht0
          walk_at "s"
          exact ⟨_, _, _, _, _, row ++ [t], by simp; exact ⟨rfl, rfl⟩, h5, h6, hh5, hb4.trans hb5, by simp [hrow], by simpa [or_imp, forall_and] using ⟨hrt, by omega⟩⟩
        . rintro _ ⟨o5, o6, x9, x10, w4, row, rfl, h5, h6, hh4, hb4, hrow, hrt⟩
          walk_at "s"
          exact ⟨_, _, _, _, _, _, _, T ++ [row], by simp [ef']; exact ⟨rfl, rfl, rfl, rfl⟩, h5, h6, hh4, hb4, by simp [hT], by
            simp only [List.mem_append, List.mem_singleton]
            rintro r (hr | rfl)
            . exact hTr r hr
            . exact ⟨hrow, hrt⟩⟩
      . rintro _ ⟨o5, o6, x7, x8, x9, x10, w3, T, rfl, h5, h6, hh3, hb3, hT, hTr⟩
        walk_at "s"
        exact ⟨T, rfl, hT, hTr⟩
theorem mJ' {w : W} {n : Nat} {kind size many : Nat} (h : bA' w n) (hs : 1 <= size) (hs2 : size < 1000) (hm : 1 <= many) (hm2 : many < 1000) (hk : kind <= 4 \/ 2 <= size) : wF (f__law_rows [.obj n, .int kind, .int size, .int many] w) (fun o w' => ∃ T, o = .fz (il' T) /\ bI' T size many /\ bA' w' n /\ But n w w') FX := oG' h hs hs2 hm hm2
theorem it' {n : Nat} {pre post : List Nat} {c : Nat} (e : List.range n = pre ++ c :: post) : c = pre.length /\ pre.length < n := by
  have h1 : (List.range n)[pre.length]? = some c := by rw [e]; simp
  have h2 : pre.length < n := by
    have := congrArg List.length e
    simp at this
    omega
  rw [List.getElem?_range h2] at h1
  exact ⟨(Option.some.inj h1).symm, h2⟩
theorem g5' (s : Tx) : (ck' s).length = s.length := List.length_mergeSort s
theorem fB' (s : Tx) : (ck' s).Perm s := List.mergeSort_perm s _
theorem ov' (s : Tx) : (ck' s).Pairwise (· <= ·) := by
  have := List.pairwise_mergeSort (le := fun a b : Nat => decide (a <= b)) (fun a b c h1 h2 => by simp at *; omega) (fun a b => by simp; omega) s
  exact this.imp (by simp)
theorem ou' {s : Tx} (h : s.Nodup) : (ck' s).Pairwise (· < ·) := by
  have h1 := ov' s
  have h2 : (ck' s).Nodup := (fB' s).nodup_iff.mpr h
  exact (h1.and h2).imp (fun h => by have := h.1; have := h.2; omega)
theorem kV' {w : W} {n : Nat} {most states : Nat} (h : bA' w n) (hm : 1 <= most) (hm2 : most <= 26) (hs : 2 <= states) (hs2 : states < 100) : wF (f__law_parts [.obj n, .int most, .int states] w) (fun o w' => ∃ L T A, o = .fz (.tup [.str L, il' T, fl' A]) /\ MacOk L T A most states /\ bA' w' n /\ But n w w') FX := by
  unfold f__law_parts
  walk_at "f"
  refine (aE' h (by omega) (by omega)).mono ?_
  rintro _ w1 ⟨kind, rfl, hkind, h1, b1⟩
  walk_at "s"
  refine (aE' h1 (by omega) (by omega)).mono ?_
  rintro _ w2 ⟨many0, rfl, hmany0, h2, b2⟩
  walk_at "s"
  refine (aE' h2 (by omega) (by omega)).mono ?_
  rintro _ w3 ⟨size0, rfl, hsize0, h3, b3⟩
  walk_at "s"
  refine cm' (fun ρ => ∃ many size : Nat, ρ = ⟨[some (.fz (.obj n)), some (.fz (.int most)), some (.fz (.int states)), some (.fz (.int kind)), some (.fz (.int many)), some (.fz (.int size)), none, none, none, none], w3⟩ /\ 1 <= many /\ many <= most /\ 1 <= size /\ size <= states /\ (kind <= 4 \/ 2 <= size)) (an' (fun hk => ?_) (fun hk => ?_)) ?_
  . walk_at "s"
    refine ⟨max (min 2 most) (1 + many0), max 2 (1 + size0), ?_, by omega, by omega, by omega, by omega, by omega⟩
    have e1 : ((max (min 2 most) (1 + many0) : Nat) : Int) = max (min 2 (most : Int)) (1 + (many0 : Int)) := by omega
    have e2 : ((max 2 (1 + size0) : Nat) : Int) = max 2 (1 + (size0 : Int)) := by omega
    rw [e1, e2]
  . walk_at "s"
    refine ⟨1 + many0, 1 + size0, ?_, by omega, by omega, by omega, by omega, by omega⟩
    have e1 : ((1 + many0 : Nat) : Int) = (1 + (many0 : Int)) := by omega
    have e2 : ((1 + size0 : Nat) : Int) = (1 + (size0 : Int)) := by omega
    rw [e1, e2]
  rintro _ ⟨many, size, rfl, hm1, hmm, hs1, hss, hks⟩
  walk_at "s"
  refine (dQ' h3 (by decide) (by simp; omega)).mono ?_
  rintro _ w4 ⟨r, t, rfl, hr, hperm, h4, b4⟩
  have hnd : r.Nodup := by
    have : (t ++ r).Nodup := hperm.nodup_iff.mpr (by decide)
    exact (List.nodup_append.mp this).2.1
  have hlen := g5' r
  have hlow : ∀ c ∈ ck' r, 97 <= c /\ c <= 122 := fun c hc => rD'.mp (hperm.mem_iff.mp (List.mem_append_right t ((fB' r).mem_iff.mp hc)))
  walk_at "s"
  refine (mJ' h4 hs1 (by omega) hm1 (by omega) hks).mono ?_
  rintro _ w5 ⟨T, rfl, hT, h5, b5⟩
  walk_at "s"
  refine hB' (by simp; omega) (fun pre acc ρ => (∃ A : List Nat, acc = A.map (fun a => .int (a : Nat)) /\ A.Pairwise (· < ·) /\ ∀ a ∈ A, a < pre.length) /\ ∃ x w', ρ = ⟨[some (.fz (.obj n)), some (.fz (.int most)), some (.fz (.int states)), some (.fz (.int kind)), some (.fz (.int many)), some (.fz (.int size)), some (.fz (.str (ck' r))), some (.fz (il' T)), none, x], w'⟩ /\ bA' w' n /\ But n w w') ⟨⟨[], rfl, by simp, by simp⟩, _, _, rfl, h5, ((((b1.trans b2).trans b3).trans b4).trans b5)⟩ ?_ ?_
  . rintro pre c post acc _ e ⟨⟨A, rfl, hp, hA⟩, x, w6, rfl, h6, b6⟩
    obtain ⟨rfl, hlt⟩ := it' e
    walk_at "s"
    refine (aE' h6 (by omega) (by omega)).mono ?_
    rintro _ w7 ⟨d, rfl, hd, h7, b7⟩
    walk_at "s"
    refine an' (fun hd => ?_) (fun hd => ?_)
    . walk_at "s"
      refine ⟨⟨A ++ [pre.length], by simp, ?_, ?_⟩, _, _, rfl, h7, b6.trans b7⟩
      . rw [List.pairwise_append]
        exact ⟨hp, by simp, by simpa using hA⟩
      . simp only [List.mem_append, List.mem_singleton, List.length_append, List.length_singleton]
        rintro a (ha | rfl)
        . have := hA a ha; omega
        . omega
    . exact ⟨⟨A, rfl, hp, fun a ha => by have := hA a ha; simp; omega⟩, _, _, rfl, h7, b6.trans b7⟩
  . rintro _ _ ⟨⟨A, rfl, hp, hA⟩, x, w6, rfl, h6, b6⟩
    rw [List.length_range] at hA
    walk_at "s"
    refine ⟨_, T, A, rfl, ⟨⟨by omega, by omega, ou' hnd, hlow⟩, ?_, by rw [hT.1]; exact hs1, by rw [hT.1]; exact hss, ⟨hp, by rw [hT.1]; exact hA⟩⟩⟩
    rw [hlen, hr, hT.1]
    exact hT
theorem fO' {α β : Type} (f : α -> D) (g : β -> D) : ∀ (a : List α) (b : List β), cz' (a.map f) (b.map g) = (a.zip b).map fun p => .tup [f p.1, g p.2]
  | [], _ => by simp [cz']
  | _ :: _, [] => by simp [cz']
  | x :: a, y :: b => by simp [cz', fO' f g a b]
theorem eX' : ∀ s : List Nat, s.Pairwise (· < ·) ↔ ∀ p ∈ s.zip (s.drop 1), p.1 < p.2
  | [] => by simp
  | [a] => by simp
  | a :: b :: r => by
    have ih := eX' (b :: r)
    simp only [List.drop_succ_cons, List.drop_zero, List.zip_cons_cons, List.mem_cons, forall_eq_or_imp] at ih ⊢
    rw [List.pairwise_cons, <- ih]
    constructor
    . rintro ⟨h1, h2⟩
      exact ⟨h1 b (by simp), h2⟩
    . rintro ⟨h1, h2⟩
      refine ⟨?_, h2⟩
      rw [List.pairwise_cons] at h2
      intro c hc
      rcases List.mem_cons.mp hc with rfl | hc
      . exact h1
      . exact Nat.lt_trans h1 (h2.1 c hc)
theorem dA' (s S : Tx) (w : W) : wF (f_is_string_of [.str s, .str S] w) (fun o w' => o = .fz (.bl (s.all fun c => decide (c ∈ S))) /\ w' = w) FX := by
  unfold f_is_string_of
  walk_at "f"
  refine eN' (fun pre ρ => ∃ x, ρ = ⟨[some (.fz (.str s)), some (.fz (.str S)), x], w⟩ /\ ∀ c ∈ pre, c ∈ S) ⟨_, rfl, by simp⟩ ?_ ?_
  . rintro pre c post _ e ⟨x, rfl, hp⟩
    walk_at "s"
    refine an' (fun h => ?_) (fun h => ?_)
    . walk_at "s"
      exact ⟨_, rfl, by simpa [or_imp, forall_and] using ⟨hp, h⟩⟩
    . walk_at "s"
      refine nN' ?_
      rw [List.all_eq_false]
      exact ⟨c, by simp, by simpa using h⟩
  . rintro _ ⟨x, rfl, hp⟩
    walk_at "s"
    refine sI' ?_
    rw [List.all_eq_true]
    exact fun c hc => by simpa using hp c hc
theorem eI' {d : D} (h : ∃ t, tyn d = some t /\ t ≠ "str") (S : Tx) (w : W) : wF (f_is_string_of [d, .str S] w) (fun o w' => o = .fz (.bl false) /\ w' = w) FX := by
  unfold f_is_string_of
  cases d <;> simp [tyn] at h
  all_goals walk_at "f"
theorem dB' (s : Tx) (w : W) : wF (f_is_ascending [.str s] w) (fun o w' => o = .fz (.bl (decide (s.Pairwise (· < ·)))) /\ w' = w) FX := by
  unfold f_is_ascending
  walk_at "f"
  rw [fO']
  refine eN' (fun pre ρ => ∃ x y, ρ = ⟨[some (.fz (.str s)), x, y], w⟩ /\ ∀ p ∈ pre, p.1 < p.2) ⟨_, _, rfl, by simp⟩ ?_ ?_
  . rintro pre c post _ e ⟨x, y, rfl, hp⟩
    walk_at "s"
    refine an' (fun h => ?_) (fun h => ?_)
    . walk_at "s"
      refine ⟨_, _, rfl, ?_⟩
      have : c.1 < c.2 := by simpa [List.cons_lt_cons_iff] using h
      simp only [List.mem_append, List.mem_singleton]
      rintro p (hq | rfl)
      . exact hp p hq
      . exact this
    . walk_at "s"
      refine nN' ?_
      rw [decide_eq_false_iff_not, eX']
      intro h2
      have := h2 c (by rw [e]; simp)
      exact h (by simpa [List.cons_lt_cons_iff] using this)
  . rintro _ ⟨x, y, rfl, hp⟩
    walk_at "s"
    refine sI' ?_
    rw [decide_eq_true_iff, eX']
    exact hp
theorem fd' (s S : Tx) (w : W) : wF (f_is_choice [.str s, .str S] w) (fun o w' => o = .fz (.bl ((s.all fun c => decide (c ∈ S)) && decide (s.Pairwise (· < ·)))) /\ w' = w) FX := by
  unfold f_is_choice
  walk_at "f"
  refine (dA' s S w).mono ?_
  rintro _ _ ⟨rfl, rfl⟩
  walk_at "s"
  refine qK' (fun h => ?_) (fun h => ?_)
  . walk_at "s"
    refine (dB' s _).mono ?_
    rintro _ _ ⟨rfl, rfl⟩
    walk_at "s"
  . walk_at "s"
theorem eJ' (i : Int) (w : W) : wF (f_is_integer [.int i] w) (fun o w' => o = .fz (.bl true) /\ w' = w) FX := by
  unfold f_is_integer
  walk_at "f"
theorem cf' (A : List Nat) (w : W) : wF (f_is_ascending [fl' A] w) (fun o w' => o = .fz (.bl (decide (A.Pairwise (· < ·)))) /\ w' = w) FX := by
  unfold f_is_ascending fl'
  walk_at "f"
  have e0 : (A.map fun a => D.int (a : Nat)).drop 1 = (A.drop 1).map fun a => D.int (a : Nat) := by rw [List.map_drop]
  rw [e0, fO']
  refine eN' (fun pre ρ => ∃ x y, ρ = ⟨[some (.fz (.tup (A.map fun a => .int (a : Nat)))), x, y], w⟩ /\ ∀ p ∈ pre, p.1 < p.2) ⟨_, _, rfl, by simp⟩ ?_ ?_
  . rintro pre c post _ e ⟨x, y, rfl, hp⟩
    walk_at "s"
    refine an' (fun h => ?_) (fun h => ?_)
    . walk_at "s"
      refine nN' ?_
      rw [decide_eq_false_iff_not, eX']
      intro h2
      have := h2 c (by rw [e]; simp)
      omega
    . walk_at "s"
      refine ⟨_, _, rfl, ?_⟩
      simp only [List.mem_append, List.mem_singleton]
      rintro p (hq | rfl)
      . exact hp p hq
      . omega
  . rintro _ ⟨x, y, rfl, hp⟩
    walk_at "s"
    refine sI' ?_
    rw [decide_eq_true_iff, eX']
    exact hp
theorem eY' (A : List Nat) (m : Nat) (w : W) : wF (f_are_states [fl' A, .int m] w) (fun o w' => o = .fz (.bl (A.all fun a => decide (a < m))) /\ w' = w) FX := by
  unfold f_are_states fl'
  walk_at "f"
  refine eN' (fun pre ρ => ∃ x, ρ = ⟨[some (.fz (.tup (A.map fun a => .int (a : Nat)))), some (.fz (.int m)), x], w⟩ /\ ∀ a ∈ pre, a < m) ⟨_, rfl, by simp⟩ ?_ ?_
  . rintro pre c post _ e ⟨x, rfl, hp⟩
    walk_at "s"
    refine (eJ' _ _).mono ?_
    rintro _ _ ⟨rfl, rfl⟩
    walk_at "s"
    refine an' (fun h => ?_) (fun h => ?_)
    . walk_at "s"
      refine nN' ?_
      rw [List.all_eq_false]
      exact ⟨c, by simp, by simp; omega⟩
    . walk_at "s"
      exact ⟨_, rfl, by simpa [or_imp, forall_and] using ⟨hp, by omega⟩⟩
  . rintro _ ⟨x, rfl, hp⟩
    walk_at "s"
    refine sI' ?_
    rw [List.all_eq_true]
    exact fun c hc => by simpa using hp c hc
theorem gb' {w : W} {n : Nat} (h : bA' w n) : wF (f__law_odd [.obj n] w) (fun o w' => ∃ d, o = .fz d /\ (d ∈ [D.non, .bl true, .bl false, .int 0, .int (-1), .int 7, .str [], .str [63], .str [65], .lst [], .tup [], .dct [] [], .lst [.str [97]], .tup [.str [97]], .dct [.str [97]] [.int 0], .lst [.lst [.int 0]]]) /\ bA' w' n /\ But n w w') FX := by
  have e1 : ∀ Q : O -> Prop, wD (fH' false (.str [97]) (.int 0)) Q = Q (.dct [.str [97]] [.fz (.int 0)]) := fun Q => by
    show wD (some _) Q = _
    rw [a3']
  unfold f__law_odd
  walk_at "f0"
  walk_at "s"
  refine (aE' h (by omega) (by omega)).mono ?_
  rintro _ w1 ⟨d, rfl, hd, h1, b1⟩
  walk_at "s"
  refine aR' (by simp; omega) fun x hx _ => ?_
  walk_at "s"
  exact ⟨x, rfl, hx⟩
theorem kR' {w : W} {n : Nat} {m : Nat} (h : bA' w n) (hm : m < 100000) : wF (f__law_signs [.obj n, .int m] w) (fun o w' => ∃ s : Tx, o = .fz (.str s) /\ s.length = m /\ (∀ c ∈ s, c < 128) /\ bA' w' n /\ But n w w') FX := by
  unfold f__law_signs
  walk_at "f"
  refine cd' (fun k ρ => ∃ x w', ∃ s : Tx, ρ = ⟨[some (.fz (.obj n)), some (.fz (.int m)), some (.fz (.str _)), some (.fz (.str s)), x], w'⟩ /\ s.length = k /\ (∀ c ∈ s, c < 128) /\ bA' w' n /\ But n w w') ⟨_, _, _, rfl, rfl, by simp, h, But.refl⟩ ?_ ?_
  . rintro k _ hk ⟨x, w1, s, rfl, hs, hc, h1, b1⟩
    walk_at "s"
    refine (aE' h1 (by omega) (by omega)).mono ?_
    rintro _ w2 ⟨d, rfl, hd, h2, b2⟩
    walk_at "s"
    refine aR' (by simp; omega) fun c hcL hci => ?_
    walk_at "s"
    clear hci
    exact ⟨_, _, s ++ [c], rfl, by simp [hs], by
      simp only [List.mem_append, List.mem_singleton]
      rintro a (ha | rfl)
      . exact hc a ha
      . revert a; decide, h2, b1.trans b2⟩
  . rintro _ ⟨x, w1, s, rfl, hs, hc, h1, b1⟩
    walk_at "s"
    exact ⟨s, rfl, hs, hc⟩
def stD (m : Nat) : D -> Bool
  | .int i => decide (0 <= i) && decide (i < (m : Nat))
  | _ => false
def plD : D -> Bool := fun d => (tyn d).isSome
theorem fc' {d : D} (h : plD d = true) (w : W) : wF (f_is_integer [d] w) (fun o w' => o = .fz (.bl (match d with | .int _ => true | _ => false)) /\ w' = w) FX := by
  unfold f_is_integer
  cases d <;> simp [plD, tyn] at h
  all_goals walk_at "f"
theorem gq' {d : D} (h : plD d = true) (h2 : ∀ ds, d ≠ .tup ds) (m : D) (w : W) : wF (f_are_states [d, m] w) (fun o w' => o = .fz (.bl false) /\ w' = w) FX := by
  unfold f_are_states
  cases d <;> simp [plD, tyn] at h
  case tup ds => exact absurd rfl (h2 ds)
  all_goals walk_at "f"
theorem fk' (ds : List D) (hp : ∀ d ∈ ds, plD d = true) (m : Nat) (w : W) : wF (f_are_states [.tup ds, .int m] w) (fun o w' => o = .fz (.bl (ds.all (stD m))) /\ w' = w) FX := by
  unfold f_are_states
  walk_at "f"
  rw [show ds = ds.map id by simp]
  refine eN' (fun pre ρ => ∃ x, ρ = ⟨[some (.fz (.tup (ds.map id))), some (.fz (.int m)), x], w⟩ /\ ∀ a ∈ pre, stD m a = true) ⟨_, rfl, by simp⟩ ?_ ?_
  . rintro pre c post _ e ⟨x, rfl, hq⟩
    have hc : plD c = true := hp c (by rw [e]; simp)
    have hin : c ∈ ds.map id := by rw [List.map_id, e]; simp
    clear e
    simp only [id_eq]
    walk_at "s"
    refine (fc' hc _).mono ?_
    rintro _ _ ⟨rfl, rfl⟩
    cases c
    case int i =>
      walk_at "s"
      refine an' (fun h => ?_) (fun h => ?_)
      . walk_at "s"
        refine nN' ?_
        rw [List.all_eq_false]
        exact ⟨_, hin, by simp [stD]; omega⟩
      . walk_at "s"
        refine an' (fun h' => ?_) (fun h' => ?_)
        . walk_at "s"
          refine nN' ?_
          rw [List.all_eq_false]
          exact ⟨_, hin, by simp [stD]; omega⟩
        . walk_at "s"
          refine ⟨_, rfl, ?_⟩
          simp only [List.mem_append, List.mem_singleton]
          rintro a (ha | rfl)
          . exact hq a ha
          . simp [stD]; omega
    all_goals walk_at "s"
    all_goals
      refine nN' ?_
      rw [List.all_eq_false]
      exact ⟨_, hin, by simp [stD]⟩
  . rintro _ ⟨x, rfl, hq⟩
    walk_at "s"
    refine sI' ?_
    rw [List.map_id, List.all_eq_true]
    exact hq
def ih' (L : Tx) (T' : List (List Nat)) (A' : List Nat) (P : Tx -> Prop) : Prop := ∃ U B c, bI' U U.length L.length /\ 1 <= U.length /\ IsLeast L U B c T' A' /\ ∀ z : Tx, (∀ a ∈ z, a ∈ L) -> (run L U 0 z ∈ B ↔ P z)
theorem ih'.says {L : Tx} {T1 : List (List Nat)} {A1 : List Nat} {P : Tx -> Prop} (h1 : ih' L T1 A1 P) {z : Tx} (hz : ∀ a ∈ z, a ∈ L) : run L T1 0 z ∈ A1 ↔ P z := by
  obtain ⟨U1, B1, c1, a1, a2, a3, a4⟩ := h1
  rw [a3.run0 a1 a2 hz, a4 z hz]
theorem ih'.acc {L : Tx} {T1 : List (List Nat)} {A1 : List Nat} {P : Tx -> Prop} (h1 : ih' L T1 A1 P) : AccOk A1 T1.length := by
  obtain ⟨U1, B1, c1, a1, a2, a3, a4⟩ := h1
  exact a3.acc
theorem ih'.tab {L : Tx} {T1 : List (List Nat)} {A1 : List Nat} {P : Tx -> Prop} (h1 : ih' L T1 A1 P) : bI' T1 T1.length L.length := by
  obtain ⟨U1, B1, c1, a1, a2, a3, a4⟩ := h1
  exact a3.tab
theorem ih'.of {L : Tx} {T T' : List (List Nat)} {A A' : List Nat} {c : Nat -> Nat} {P : Tx -> Prop} (hT : bI' T T.length L.length) (hn : 1 <= T.length) (h : IsLeast L T A c T' A') (hp : ∀ z : Tx, (∀ a ∈ z, a ∈ L) -> (run L T 0 z ∈ A ↔ P z)) : ih' L T' A' P := ⟨T, A, c, hT, hn, h, hp⟩
def plR : D -> Bool
  | .tup es => es.all plD
  | d => plD d
def plT : D -> Bool
  | .tup ds => ds.all plR
  | d => plD d
def li' : D -> Bool
  | .str s => ((s.all fun c => decide (c ∈ abc)) && decide (s.Pairwise (· < ·))) && (decide (1 <= s.length) && decide (s.length <= 4))
  | _ => false
def okC : D -> Bool
  | .str s => (s.all fun c => decide (c ∈ abc)) && decide (s.Pairwise (· < ·))
  | _ => false
def okS (n : Nat) : D -> Bool
  | .tup es => es.all (stD n)
  | _ => false
def okR (n m : Nat) : D -> Bool
  | .tup es => es.all (stD n) && decide (es.length = m)
  | _ => false
def okT (m : Nat) : D -> Bool
  | .tup ds => (decide (1 <= ds.length) && decide (ds.length <= 6)) && ds.all (okR ds.length m)
  | _ => false
def ub' : D -> Nat
  | .int i => i.toNat
  | _ => 0
def okA (n : Nat) : D -> Bool
  | .tup es => es.all (stD n) && decide ((es.map ub').Pairwise (· < ·))
  | _ => false
def lj' : D -> Nat
  | .str s => s.length
  | .tup ds => ds.length
  | _ => 0
abbrev x0' : Tx := [108, 101, 116, 116, 101, 114, 115]
abbrev xC' : Tx := [116, 97, 98, 108, 101]
abbrev xF' : Tx := [97, 99, 99, 101, 112, 116, 115]
def ct' (d1 d2 d3 : D) : D := if li' d1 = false then .str x0' else if okT (lj' d1) d2 = false then .str xC' else if okA (lj' d2) d3 = false then .str xF' else .non
theorem qh' {d : D} (h : plR d = true) : plD d = true := by
  cases d <;> first | exact h | rfl
theorem qg' {d : D} (h : plT d = true) : plD d = true := by
  cases d <;> first | exact h | rfl
theorem fW' {n : Nat} : ∀ {es : List D}, es.all (stD n) = true -> ∃ A : List Nat, es = A.map (fun a => D.int (a : Nat)) /\ (∀ a ∈ A, a < n) /\ es.map ub' = A
  | [], _ => ⟨[], rfl, by simp, rfl⟩
  | e :: es, h => by
    rw [List.all_cons, Bool.and_eq_true] at h
    obtain ⟨A, h1, h2, h3⟩ := fW' h.2
    cases e <;> try (cases h.1; done)
    rename_i i
    have h4 := h.1
    simp only [stD, Bool.and_eq_true, decide_eq_true_eq] at h4
    refine ⟨i.toNat :: A, ?_, ?_, ?_⟩
    . rw [List.map_cons, <- h1]
      congr 2
      omega
    . intro a ha
      rcases List.mem_cons.mp ha with rfl | ha
      . omega
      . exact h2 a ha
    . rw [List.map_cons, h3]; rfl
theorem df' {d : D} (h : plD d = true) (w : W) : wF (f_is_choice [d, .str abc] w) (fun o w' => o = .fz (.bl (okC d)) /\ w' = w) FX := by
  by_cases hs : ∃ s, d = .str s
  . obtain ⟨s, rfl⟩ := hs
    exact fd' s abc w
  . have e1 : ∃ t, tyn d = some t /\ t ≠ "str" := by
      cases d <;> first | exact absurd ⟨_, rfl⟩ hs | (cases h; done) | exact ⟨_, rfl, by decide⟩
    have e2 : okC d = false := by
      cases d <;> first | exact absurd ⟨_, rfl⟩ hs | rfl
    rw [e2]
    have k := eI' e1 abc w
    clear e1 h hs e2
    unfold f_is_choice
    walk_at "f0"
    walk_at "s"
    refine k.mono ?_
    rintro _ _ ⟨rfl, rfl⟩
    walk_at "s"
theorem nS' {d : D} (h : plR d = true) (n : Nat) (w : W) : wF (f_are_states [d, .int n] w) (fun o w' => o = .fz (.bl (okS n d)) /\ w' = w) FX := by
  by_cases hs : ∃ s, d = .tup s
  . obtain ⟨es, rfl⟩ := hs
    exact fk' es (fun d hd => List.all_eq_true.mp h d hd) n w
  . have := gq' (qh' h) (fun ds e => hs ⟨ds, e⟩) (.int n) w
    have e2 : okS n d = false := by
      cases d <;> first | exact absurd ⟨_, rfl⟩ hs | rfl
    rw [e2]
    exact this
theorem dR' {d : D} (h : plT d = true) (s : Tx) (w : W) : wF (f_is_table [d, .str s] w) (fun o w' => o = .fz (.bl (okT s.length d)) /\ w' = w) FX := by
  by_cases hs : ∃ ds, d = .tup ds
  . obtain ⟨ds, rfl⟩ := hs
    have hp : ∀ d ∈ ds, plR d = true := fun d hd => List.all_eq_true.mp h d hd
    have e0 : okT s.length (.tup ds) = ((decide (1 <= ds.length) && decide (ds.length <= 6)) && ds.all (okR ds.length s.length)) := rfl
    rw [e0]
    clear e0 h
    unfold f_is_table
    walk_at "f0"
    have hp' := hp
    clear hp
    walk_at "s"
    refine an' (fun c1 => ?_) (fun c1 => ?_)
    . walk_at "s"
      refine an' (fun c2 => ?_) (fun c2 => ?_)
      . walk_at "s"
        refine nz' (fun pre ρ => ∃ x, ρ = ⟨[some (.fz (.tup ds)), some (.fz (.str s)), x], w⟩ /\ ∀ a ∈ pre, okR ds.length s.length a = true) ⟨_, rfl, by simp⟩ ?_ ?_
        . rintro pre c post _ e ⟨x, rfl, hq⟩
          have hc : plR c = true := hp' c (by rw [e]; simp)
          have hin : c ∈ ds := by rw [e]; simp
          have no : okR ds.length s.length c = false -> ((decide (1 <= ds.length) && decide (ds.length <= 6)) && ds.all (okR ds.length s.length)) = false := fun h => by
            rw [Bool.and_eq_false_iff]
            exact .inr (List.all_eq_false.mpr ⟨c, hin, by rw [h]; decide⟩)
          clear e hp'
          have k := fun n w => nS' hc n w
          walk_at "s"
          refine (k _ w).mono ?_
          rintro _ _ ⟨rfl, rfl⟩
          rename_i w
          cases ho : okS ds.length c with
          | false =>
            walk_at "s"
            refine nN' (no ?_)
            cases c <;> first | rfl | skip
            rename_i es
            have ho : es.all (stD ds.length) = false := ho
            show (es.all (stD ds.length) && _) = false
            rw [ho]; rfl
          | true =>
            obtain ⟨es, rfl⟩ : ∃ es, c = .tup es := by
              cases c <;> first | exact ⟨_, rfl⟩ | cases ho
            have ho : es.all (stD ds.length) = true := ho
            have er : okR ds.length s.length (.tup es) = (es.all (stD ds.length) && decide (es.length = s.length)) := rfl
            rw [ho, Bool.true_and] at er
            clear k hc
            walk_at "s"
            refine an' (fun c3 => ?_) (fun c3 => ?_)
            . walk_at "s"
              refine ⟨_, rfl, ?_⟩
              simp only [List.mem_append, List.mem_singleton]
              rintro a (ha | rfl)
              . exact hq a ha
              . rw [er, decide_eq_true]; omega
            . walk_at "s"
              refine nN' (no ?_)
              rw [er, decide_eq_false]; omega
        . rintro _ ⟨x, rfl, hq⟩
          walk_at "s"
          refine sI' ?_
          simp only [Bool.and_eq_true, decide_eq_true_eq, List.all_eq_true]
          exact ⟨⟨by omega, by omega⟩, hq⟩
      . walk_at "s"
        refine nN' ?_
        rw [decide_eq_false (p := ds.length <= 6) (by omega), Bool.and_false, Bool.false_and]
    . walk_at "s"
      refine nN' ?_
      rw [decide_eq_false (p := 1 <= ds.length) (by omega), Bool.false_and, Bool.false_and]
  . have e2 : okT s.length d = false := by
      cases d <;> first | exact absurd ⟨_, rfl⟩ hs | rfl
    rw [e2]
    have hp := qg' h
    unfold f_is_table
    clear h
    cases d <;> simp [plD, tyn] at hp
    case tup ds => exact absurd ⟨_, rfl⟩ hs
    all_goals walk_at "f"
theorem r7' (c : Nat) (l : List Nat) {Q : D -> Prop} : wD (dM' (.str [c]) (.lst (l.map chD))) Q = Q (.bl (!decide (c ∈ l))) := by
  have e1 : (l.map chD).all sca = true := by
    rw [List.all_map, List.all_eq_true]
    exact fun _ _ => rfl
  have e2 : ((l.map chD).any fun d => eqb d (.str [c])) = decide (c ∈ l) := by
    rw [Bool.eq_iff_iff, List.any_eq_true, decide_eq_true_iff]
    constructor
    . rintro ⟨d, hd, e⟩
      obtain ⟨x, hx, rfl⟩ := List.mem_map.mp hd
      have : ([x] == [c]) = true := e
      simp at this
      exact this ▸ hx
    . exact fun h => ⟨chD c, List.mem_map.mpr ⟨c, h, rfl⟩, by show ([c] == [c]) = true; simp⟩
  have e3 : pIn (.str [c]) (.lst (l.map chD)) = some (.bl (decide (c ∈ l))) := by
    show (if sca (.str [c]) = true /\ (l.map chD).all sca = true then some (D.bl ((l.map chD).any fun d => eqb d (.str [c]))) else none) = _
    rw [if_pos ⟨rfl, e1⟩, e2]
  show wD (match pIn (.str [c]) (.lst (l.map chD)) with | some (D.bl b) => some (D.bl (!b)) | _ => none) Q = _
  rw [e3, a3']
def uq' : D -> Bool
  | .int _ => true
  | _ => false
theorem ln' {d : D} (h : plD d = true) (w : W) : wF (f__law_is_whole [d] w) (fun o w' => o = .fz (.bl (uq' d)) /\ w' = w) FX := by
  unfold f__law_is_whole
  cases d <;> simp [plD, tyn] at h
  all_goals walk_at "f"
  all_goals rfl
theorem cK' {d : D} (h : plR d = true) (n : Nat) (w : W) (hl : ∀ es, d = .tup es -> es.length <= 16777216) : wF (f__law_is_states [d, .int n] w) (fun o w' => o = .fz (.bl (okS n d)) /\ w' = w) FX := by
  by_cases hs : ∃ s, d = .tup s
  . obtain ⟨es, rfl⟩ := hs
    have hp : ∀ e ∈ es, plD e = true := fun e he => List.all_eq_true.mp h e he
    have hl' := hl es rfl
    have e0 : okS n (.tup es) = (es.map (stD n)).all id := by
      show es.all (stD n) = _
      rw [List.all_map]; rfl
    rw [e0]
    clear e0 h hl
    unfold f__law_is_states
    walk_at "f0"
    have hp' := hp
    clear hp
    walk_at "s"
    have q := @uh' [2] (gN 2) tT (nD' (eO (aO' f__law_is_whole (ae' (eV 2) ba'))) (nD' (eOp pLe (eC (.int 0)) (eV 2)) (eOp pLt (eV 2) (eV 1)))) D id es
    rw [List.map_id] at q
    refine q (fun e => .bl (stD n e)) hl' ?_ ?_
    . intro e he
      have pe := hp' e he
      have k := fun w => ln' pe w
      clear q hp' he pe
      simp only [id_eq]
      walk_at "s"
      refine (k w).mono ?_
      rintro _ _ ⟨rfl, rfl⟩
      rename_i w
      cases hI : uq' e with
      | true =>
        obtain ⟨i, rfl⟩ : ∃ i, e = .int i := by
          cases e <;> first | exact ⟨_, rfl⟩ | cases hI
        have e1 : stD n (.int i) = (decide (0 <= i) && decide (i < (n : Nat))) := rfl
        rw [e1]
        clear k hI
        walk_at "s"
        refine an' (fun c => ?_) (fun c => ?_)
        . walk_at "s"
        . walk_at "s"
      | false =>
        have e1 : stD n e = false := by
          cases e <;> first | rfl | cases hI
        rw [e1]
        clear k hI
        walk_at "s"
    intro env2 _
    have e9 : es.map (fun e => D.bl (stD n e)) = (es.map (stD n)).map .bl := by rw [List.map_map]; rfl
    rw [e9]
    walk_at "s"
  . have e2 : okS n d = false := by
      cases d <;> first | exact absurd ⟨_, rfl⟩ hs | rfl
    rw [e2]
    have hp := qh' h
    unfold f__law_is_states
    clear h hl
    cases d <;> simp [plD, tyn] at hp
    case tup ds => exact absurd ⟨_, rfl⟩ hs
    all_goals walk_at "f"
theorem nR' {s : Tx} (h : ∀ i, i + 1 < s.length -> ∀ a b, s[i]? = some a -> s[i + 1]? = some b -> a < b) : s.Pairwise (· < ·) := by
  induction s with
  | nil => exact .nil
  | cons x r ih =>
    have hr := ih fun i hi a b ha hb => h (i + 1) (by simp; omega) a b (by simpa using ha) (by simpa using hb)
    refine List.pairwise_cons.mpr ⟨fun c hc => ?_, hr⟩
    cases r with
    | nil => cases hc
    | cons y r =>
      have hxy : x < y := h 0 (by simp) x y rfl rfl
      rcases List.mem_cons.mp hc with rfl | hc
      . exact hxy
      . exact Nat.lt_trans hxy ((List.pairwise_cons.mp hr).1 c hc)
theorem nv' {s : Tx} (h : s.Pairwise (· < ·)) {i j a b : Nat} (hij : i < j) (ha : s[i]? = some a) (hb : s[j]? = some b) : a < b := by
  obtain ⟨h1, rfl⟩ := List.getElem?_eq_some_iff.mp ha
  obtain ⟨h2, rfl⟩ := List.getElem?_eq_some_iff.mp hb
  exact List.pairwise_iff_getElem.mp h i j h1 h2 hij
theorem ce' {d1 d2 d3 : D} (h : li' d1 = false) : ct' d1 d2 d3 = .str x0' := if_pos h
theorem dD' {d1 d2 d3 : D} (h : li' d1 = true) (h2 : okT (lj' d1) d2 = false) : ct' d1 d2 d3 = .str xC' := by
  unfold ct'
  rw [if_neg (by rw [h]; decide), if_pos h2]
theorem eO' {d1 d2 d3 : D} (h : li' d1 = true) (h2 : okT (lj' d1) d2 = true) (h3 : okA (lj' d2) d3 = false) : ct' d1 d2 d3 = .str xF' := by
  unfold ct'
  rw [if_neg (by rw [h]; decide), if_neg (by rw [h2]; decide), if_pos h3]
theorem nB' {d1 d2 d3 : D} (h : li' d1 = true) (h2 : okT (lj' d1) d2 = true) (h3 : okA (lj' d2) d3 = true) : ct' d1 d2 d3 = .non := by
  unfold ct'
  rw [if_neg (by rw [h]; decide), if_neg (by rw [h2]; decide), if_neg (by rw [h3]; decide)]
theorem fa' {d1 d2 d3 : D} (p1 : plD d1 = true) (p2 : plT d2 = true) (p3 : plR d3 = true) (l2 : ∀ es, d2 = .tup es -> ∀ r ∈ es, ∀ fs, r = .tup fs -> fs.length <= 16777216) (l3 : ∀ es, d3 = .tup es -> es.length <= 16777216) (w : W) :
    wF (f__law_fault [d1, d2, d3] w) (fun o w' => o = .fz (ct' d1 d2 d3) /\ w' = w) FX := by
  unfold f__law_fault
  walk_at "f0"
  by_cases hs : ∃ s, d1 = .str s
  case neg =>
    have e1 : li' d1 = false := by
      cases d1 <;> first | exact absurd ⟨_, rfl⟩ hs | rfl
    rw [ce' e1]
    clear p2 p3 l2 l3 e1
    cases d1 <;> simp [plD, tyn] at p1
    case str s => exact absurd ⟨_, rfl⟩ hs
    all_goals walk_at "s"
  obtain ⟨s, rfl⟩ := hs
  have lx : ∀ c : Nat, ∀ Q : D -> Prop, wD (dM' (.str [c]) (.lst (abc.map chD))) Q = Q (.bl (!decide (c ∈ abc))) := fun c Q => r7' c abc
  simp only [List.map_cons, List.map_nil, chD] at lx
  have ex : ∀ Q : D -> Prop, wD (bZ' (.str abc)) Q = Q (.lst (abc.map chD)) := fun Q => nF' abc
  have ok0 : li' (.str s) = (((s.all fun c => decide (c ∈ abc)) && decide (s.Pairwise (· < ·))) && (decide (1 <= s.length) && decide (s.length <= 4))) := rfl
  have p2' := p2
  have p3' := p3
  have l2' := l2
  have l3' := l3
  clear p1 p2 p3 l2 l3
  walk_at "s"
  refine an' (fun c1 => ?_) (fun c1 => ?_)
  . walk_at "s"
    rw [ce']
    rw [ok0, decide_eq_false (p := 1 <= s.length) (by omega), Bool.false_and, Bool.and_false]
  walk_at "s"
  refine an' (fun c2 => ?_) (fun c2 => ?_)
  . walk_at "s"
    rw [ce']
    rw [ok0, decide_eq_false (p := s.length <= 4) (by omega), Bool.and_false, Bool.and_false]
  walk_at "s"
  refine cd' (fun k ρ => ∃ x3, ρ = ⟨[some (.fz (.str s)), some (.fz d2), some (.fz d3), x3, none], w⟩ /\ (∀ i c, i < k -> s[i]? = some c -> c ∈ abc) /\ ∀ i, i + 1 < k -> ∀ a b, s[i]? = some a -> s[i + 1]? = some b -> a < b) ⟨_, rfl, fun i c h => absurd h (by omega), fun i h => absurd h (by omega)⟩ ?_ ?_
  . rintro k _ hk ⟨x3, rfl, h1, h2⟩
    walk_at "s"
    refine aR' hk fun c hc ec => ?_
    have h1' := h1
    have h2' := h2
    clear h1 h2
    walk_at "s"
    refine an' (fun g1 => ?_) (fun g1 => ?_)
    . have g1 : c ∈ abc := g1
      walk_at "s"
      refine an' (fun g2 => ?_) (fun g2 => ?_)
      . have e1 : (0 : Int) <= (k : Int) - 1 := by omega
        have e2 : ((k : Int) - 1).toNat = k - 1 := by omega
        walk_at "s"
        refine aR' (by omega) fun a ha ea => ?_
        walk_at "s"
        refine an' (fun g3 => ?_) (fun g3 => ?_)
        . have g3 : a < c := by simpa [List.cons_lt_cons_iff] using g3
          walk_at "s"
          refine ⟨_, rfl, fun i c' hi hc' => ?_, fun i hi a' b' ha' hb' => ?_⟩
          . rcases Nat.lt_or_ge i k with q | q
            . exact h1' i c' q hc'
            . have : i = k := by omega
              subst this
              rw [ec] at hc'
              exact Option.some.inj hc' ▸ g1
          . rcases Nat.lt_or_ge (i + 1) k with q | q
            . exact h2' i q a' b' ha' hb'
            . have : i + 1 = k := by omega
              subst this
              rw [ec] at hb'
              rw [show i + 1 - 1 = i by omega] at ea
              rw [ea] at ha'
              rw [<- Option.some.inj ha', <- Option.some.inj hb']
              exact g3
        . have g3 : ¬ a < c := fun q => g3 (by simpa [List.cons_lt_cons_iff] using q)
          walk_at "s"
          rw [ce']
          rw [ok0, decide_eq_false (p := s.Pairwise (· < ·)) (fun q => g3 (nv' q (by omega) ea ec)), Bool.and_false, Bool.false_and]
      . walk_at "s"
        refine ⟨_, rfl, fun i c' hi hc' => ?_, fun i hi => absurd hi (by omega)⟩
        have : i = k := by omega
        subst this
        rw [ec] at hc'
        exact Option.some.inj hc' ▸ g1
    . have g1 : c ∉ abc := g1
      walk_at "s"
      rw [ce']
      have : (s.all fun c => decide (c ∈ abc)) = false := List.all_eq_false.mpr ⟨c, hc, by rw [decide_eq_false g1]; decide⟩
      rw [ok0, this, Bool.false_and, Bool.false_and]
  rintro _ ⟨x3, rfl, h1, h2⟩
  have okl : li' (.str s) = true := by
    rw [ok0, decide_eq_true (p := 1 <= s.length) (by omega), decide_eq_true (p := s.length <= 4) (by omega), decide_eq_true (nR' h2)]
    rw [List.all_eq_true.mpr fun c hc => ?_]
    . rfl
    . obtain ⟨i, hi, rfl⟩ := List.mem_iff_getElem.mp hc
      exact decide_eq_true (h1 i _ hi (List.getElem?_eq_getElem hi))
  have okd := okl
  clear h1 h2 ok0 lx ex okl
  by_cases ht : ∃ ds, d2 = .tup ds
  case neg =>
    have e1 : okT s.length d2 = false := by
      cases d2 <;> first | exact absurd ⟨_, rfl⟩ ht | rfl
    rw [dD' okd e1]
    have p2 := qg' p2'
    clear e1 p2' p3' l2' l3' okd
    cases d2 <;> simp [plD, tyn] at p2
    case tup s => exact absurd ⟨_, rfl⟩ ht
    all_goals walk_at "s"
  obtain ⟨ds, rfl⟩ := ht
  have okt0 : okT s.length (.tup ds) = ((decide (1 <= ds.length) && decide (ds.length <= 6)) && ds.all (okR ds.length s.length)) := rfl
  have hp2 : ∀ r ∈ ds, plR r = true := fun r hr => List.all_eq_true.mp p2' r hr
  have hl2 := l2' ds rfl
  clear p2' l2'
  walk_at "s"
  refine an' (fun c3 => ?_) (fun c3 => ?_)
  . walk_at "s"
    rw [dD' okd]
    show okT s.length _ = false
    rw [okt0, decide_eq_false (p := 1 <= ds.length) (by omega), Bool.false_and, Bool.false_and]
  walk_at "s"
  refine an' (fun c4 => ?_) (fun c4 => ?_)
  . walk_at "s"
    rw [dD' okd]
    show okT s.length _ = false
    rw [okt0, decide_eq_false (p := ds.length <= 6) (by omega), Bool.and_false, Bool.false_and]
  walk_at "s"
  refine nz' (fun pre ρ => ∃ x4, ρ = ⟨[some (.fz (.str s)), some (.fz (.tup ds)), some (.fz d3), x3, x4], w⟩ /\ ∀ a ∈ pre, okR ds.length s.length a = true) ⟨_, rfl, by simp⟩ ?_ ?_
  . rintro pre c post _ e ⟨x4, rfl, hq⟩
    have hin : c ∈ ds := by rw [e]; simp
    have hc : plR c = true := hp2 c hin
    have no : okR ds.length s.length c = false -> ct' (.str s) (.tup ds) d3 = .str xC' := fun h => by
      refine dD' okd ?_
      show okT s.length _ = false
      rw [okt0, Bool.and_eq_false_iff]
      exact .inr (List.all_eq_false.mpr ⟨c, hin, by rw [h]; decide⟩)
    have k := fun w => cK' hc ds.length w (hl2 c hin)
    clear e hp2 hl2 okt0
    walk_at "s"
    refine (k w).mono ?_
    rintro _ _ ⟨rfl, rfl⟩
    rename_i w
    cases ho : okS ds.length c with
    | false =>
      walk_at "s"
      rw [no]
      cases c <;> first | rfl | skip
      rename_i es
      have ho : es.all (stD ds.length) = false := ho
      show (es.all (stD ds.length) && _) = false
      rw [ho]; rfl
    | true =>
      obtain ⟨es, rfl⟩ : ∃ es, c = .tup es := by
        cases c <;> first | exact ⟨_, rfl⟩ | cases ho
      have ho : es.all (stD ds.length) = true := ho
      have er : okR ds.length s.length (.tup es) = (es.all (stD ds.length) && decide (es.length = s.length)) := rfl
      rw [ho, Bool.true_and] at er
      clear k hc
      walk_at "s"
      refine an' (fun c5 => ?_) (fun c5 => ?_)
      . walk_at "s"
        refine ⟨_, rfl, ?_⟩
        simp only [List.mem_append, List.mem_singleton]
        rintro a (ha | rfl)
        . exact hq a ha
        . rw [er, decide_eq_true]; omega
      . walk_at "s"
        rw [no]
        rw [er, decide_eq_false]; omega
  rintro _ ⟨x4, rfl, hq⟩
  have okt : okT (lj' (.str s)) (.tup ds) = true := by
    show okT s.length _ = true
    rw [okt0, decide_eq_true (p := 1 <= ds.length) (by omega), decide_eq_true (p := ds.length <= 6) (by omega), List.all_eq_true.mpr hq]; rfl
  have okd2 := okt
  have k := fun w => cK' p3' ds.length w l3'
  clear hp2 hl2 okt0 hq okt
  walk_at "s"
  refine (k w).mono ?_
  rintro _ _ ⟨rfl, rfl⟩
  rename_i w
  cases ho : okS ds.length d3 with
  | false =>
    have e1 : okA ds.length d3 = false := by
      cases d3 <;> first | rfl | skip
      rename_i es
      have ho : es.all (stD ds.length) = false := ho
      show (es.all (stD ds.length) && _) = false
      rw [ho]; rfl
    walk_at "s"
    rw [eO' okd okd2 e1]
  | true =>
    obtain ⟨es, rfl⟩ : ∃ es, d3 = .tup es := by
      cases d3 <;> first | exact ⟨_, rfl⟩ | cases ho
    have ho : es.all (stD ds.length) = true := ho
    have er : okA ds.length (.tup es) = (es.all (stD ds.length) && decide ((es.map ub').Pairwise (· < ·))) := rfl
    rw [ho, Bool.true_and] at er
    obtain ⟨A, rfl, hA, hN⟩ := fW' ho
    rw [hN] at er
    have hz := l3' _ rfl
    rw [List.length_map] at hz
    clear k p3' l3' ho hN
    have eA : ∀ i : Int, ∀ Q : D -> Prop, 0 <= i -> wD (pIx (.tup (A.map fun a => D.int (a : Nat))) (.int i)) Q = wD A[i.toNat]? fun t => Q (.int (t : Nat)) := fun i Q hi => by
      rw [pn', ia' hi, List.getElem?_map, gA']
    walk_at "s"
    have no : ∀ k a b, A[k]? = some a -> A[k + 1]? = some b -> ¬ a < b -> ct' (.str s) (.tup ds) (.tup (A.map fun a => D.int (a : Nat))) = .str xF' := fun k a b ha hb h => by
      refine eO' okd okd2 ?_
      show okA ds.length _ = false
      rw [er, decide_eq_false]
      exact fun q => h (nv' q (Nat.lt_succ_self k) ha hb)
    refine cd' (fun k ρ => ∃ x3, ρ = ⟨[some (.fz (.str s)), some (.fz (.tup ds)), some (.fz (.tup (A.map fun a => D.int (a : Nat)))), x3, x4], w⟩ /\ ∀ i, i < k -> ∀ a b, A[i]? = some a -> A[i + 1]? = some b -> a < b) ⟨_, rfl, fun i h => absurd h (by omega)⟩ ?_ ?_
    . rintro k _ hk ⟨y3, rfl, hq⟩
      have no' := no k
      have hq' := hq
      clear no hq er okd okd2
      have e1 : (0 : Int) <= 1 + (k : Int) - 1 := by omega
      have e2 : (1 + (k : Int) - 1).toNat = k := by omega
      have e3 : (0 : Int) <= 1 + (k : Int) := by omega
      have e4 : (1 + (k : Int)).toNat = k + 1 := by omega
      walk_at "s"
      refine aR' (by omega) fun a _ ha => ?_
      have ha' := ha
      clear ha
      walk_at "s"
      refine aR' (by omega) fun b _ hb => ?_
      have hb' := hb
      clear hb
      walk_at "s"
      refine an' (fun g => ?_) (fun g => ?_)
      . walk_at "s"
      . walk_at "s"
        refine ⟨_, rfl, fun i hi a' b' h1 h2 => ?_⟩
        rcases Nat.lt_or_ge i k with q | q
        . exact hq' i q a' b' h1 h2
        . have : i = k := by omega
          subst this
          rw [ha'] at h1
          rw [hb'] at h2
          rw [<- Option.some.inj h1, <- Option.some.inj h2]
          omega
    . rintro _ ⟨y3, rfl, hq⟩
      have e1 : okA ds.length (.tup (A.map fun a => D.int (a : Nat))) = true := by
        rw [er, decide_eq_true]
        exact nR' fun i hi a b ha hb => hq i (by omega) a b ha hb
      have e2 := nB' okd okd2 e1
      clear hq no er e1 okd okd2
      walk_at "s"
def gf' (d1 d2 d3 : D) : Ob := .ins "Machine" [("kept_letters", .fz d1), ("kept_table", .fz d2), ("kept_accepts", .fz d3), ("kept_least", .fz .non), ("kept_field", .fz .non), ("kept_lots", .dct [] []), ("kept_more", .dct [] [])]
theorem o3' {w : W} {m : Nat} {d1 d2 d3 : D} (h : w[m]? = some (.ins "Machine" [])) : wF (f_Machine_keep [.obj m, d1, d2, d3] w) (fun o w' => o = .fz .non /\ w' = w.set m (gf' d1 d2 d3)) FX := by
  have hm := dc' h
  unfold f_Machine_keep
  walk_at "f"
  rfl
def FN (d : D) (w : W) : Exc -> W -> Prop := fun x w' => x = ⟨"NoMachine", [("part", d)]⟩ /\ w' = w
theorem o8' {w : W} {m : Nat} {d1 d2 d3 : D} (p1 : plD d1 = true) (p2 : plT d2 = true) (p3 : plR d3 = true) (hf : ct' d1 d2 d3 ≠ .non) :
    wF (f_Machine___init__ [.obj m, d1, d2, d3] w) (fun _ _ => False) (FN (ct' d1 d2 d3) w) := by
  have k1 := fun w => df' p1 w
  unfold f_Machine___init__
  walk_at "f0"
  by_cases hc : okC d1 = true
  case neg =>
    have hc : okC d1 = false := by simpa using hc
    have e1 : li' d1 = false := by
      cases d1 with
      | str s =>
        show (okC (.str s) && _) = false
        rw [hc]; rfl
      | _ => rfl
    rw [ce' e1]
    clear p1 p2 p3 hf e1
    walk_at "s"
    refine (k1 w).monoX ?_ (fun _ _ h => h.elim)
    rintro _ _ ⟨rfl, rfl⟩
    rename_i w
    walk_at "s"
    exact ⟨rfl, rfl⟩
  obtain ⟨s, rfl⟩ : ∃ s, d1 = .str s := by
    cases d1 <;> first | exact ⟨_, rfl⟩ | cases hc
  have ok0 : li' (.str s) = (okC (.str s) && (decide (1 <= s.length) && decide (s.length <= 4))) := rfl
  rw [hc, Bool.true_and] at ok0
  have k2 := fun w => dR' p2 s w
  have hf' := hf
  have p3' := p3
  clear p1 p2 p3 hf
  walk_at "s"
  refine (k1 w).monoX ?_ (fun _ _ h => h.elim)
  rintro _ _ ⟨rfl, rfl⟩
  rename_i w
  rw [hc]
  clear k1
  walk_at "s"
  refine an' (fun c1 => ?_) (fun c1 => ?_)
  case refine_2 =>
    rw [ce' (by rw [ok0, decide_eq_false (p := 1 <= s.length) (by omega), Bool.false_and])]
    walk_at "s"
    exact ⟨rfl, rfl⟩
  walk_at "s"
  refine an' (fun c2 => ?_) (fun c2 => ?_)
  case refine_2 =>
    rw [ce' (by rw [ok0, decide_eq_false (p := s.length <= 4) (by omega), Bool.and_false])]
    walk_at "s"
    exact ⟨rfl, rfl⟩
  rw [decide_eq_true (p := 1 <= s.length) (by omega), decide_eq_true (p := s.length <= 4) (by omega), Bool.and_true] at ok0
  walk_at "s"
  refine (k2 w).monoX ?_ (fun _ _ h => h.elim)
  rintro _ _ ⟨rfl, rfl⟩
  rename_i w
  clear k2
  cases ht : okT s.length d2 with
  | false =>
    rw [dD' ok0 ht]
    walk_at "s"
    exact ⟨rfl, rfl⟩
  | true =>
    obtain ⟨ds, rfl⟩ : ∃ ds, d2 = .tup ds := by
      cases d2 <;> first | exact ⟨_, rfl⟩ | cases ht
    have k3 := fun w => nS' p3' ds.length w
    walk_at "s"
    refine (k3 w).monoX ?_ (fun _ _ h => h.elim)
    rintro _ _ ⟨rfl, rfl⟩
    rename_i w
    clear k3
    cases ho : okS ds.length d3 with
    | false =>
      have e1 : okA ds.length d3 = false := by
        cases d3 <;> first | rfl | skip
        rename_i es
        have ho : es.all (stD ds.length) = false := ho
        show (es.all (stD ds.length) && _) = false
        rw [ho]; rfl
      rw [eO' ok0 ht e1]
      walk_at "s"
      exact ⟨rfl, rfl⟩
    | true =>
      obtain ⟨es, rfl⟩ : ∃ es, d3 = .tup es := by
        cases d3 <;> first | exact ⟨_, rfl⟩ | cases ho
      have ho : es.all (stD ds.length) = true := ho
      have er : okA ds.length (.tup es) = (es.all (stD ds.length) && decide ((es.map ub').Pairwise (· < ·))) := rfl
      rw [ho, Bool.true_and] at er
      obtain ⟨A, rfl, hA, hN⟩ := fW' ho
      rw [hN] at er
      have k4 := fun w => cf' A w
      have ea : fl' A = .tup (A.map fun a => D.int (a : Nat)) := rfl
      rw [ea] at k4
      cases hz : decide (A.Pairwise (· < ·)) with
      | true =>
        rw [hz] at er
        exact absurd (nB' ok0 ht er) hf'
      | false =>
        rw [hz] at er k4
        rw [eO' ok0 ht er]
        clear hf' ok0 ht er p3' ho hN
        walk_at "s"
        refine (k4 w).monoX ?_ (fun _ _ h => h.elim)
        rintro _ _ ⟨rfl, rfl⟩
        rename_i w
        walk_at "s"
        exact ⟨rfl, rfl⟩
theorem nt' {w : W} {m : Nat} {d1 d2 d3 : D} (h : w[m]? = some (.ins "Machine" [])) (hf : ct' d1 d2 d3 = .non) :
    wF (f_Machine___init__ [.obj m, d1, d2, d3] w) (fun o w' => o = .fz .non /\ w' = w.set m (gf' d1 d2 d3)) FX := by
  have g1 : li' d1 = true := by
    cases q : li' d1 with
    | true => rfl
    | false => rw [ce' q] at hf; cases hf
  have g2 : okT (lj' d1) d2 = true := by
    cases q : okT (lj' d1) d2 with
    | true => rfl
    | false => rw [dD' g1 q] at hf; cases hf
  have g3 : okA (lj' d2) d3 = true := by
    cases q : okA (lj' d2) d3 with
    | true => rfl
    | false => rw [eO' g1 g2 q] at hf; cases hf
  obtain ⟨s, rfl⟩ : ∃ s, d1 = .str s := by
    cases d1 <;> first | exact ⟨_, rfl⟩ | cases g1
  obtain ⟨ds, rfl⟩ : ∃ ds, d2 = .tup ds := by
    cases d2 <;> first | exact ⟨_, rfl⟩ | cases g2
  obtain ⟨es, rfl⟩ : ∃ es, d3 = .tup es := by
    cases d3 <;> first | exact ⟨_, rfl⟩ | cases g3
  have t2 : okT s.length (.tup ds) = ((decide (1 <= ds.length) && decide (ds.length <= 6)) && ds.all (okR ds.length s.length)) := rfl
  have g2' : okT s.length (.tup ds) = true := g2
  have g3' : (es.all (stD ds.length) && decide ((es.map ub').Pairwise (· < ·))) = true := g3
  have g1' : (okC (.str s) && (decide (1 <= s.length) && decide (s.length <= 4))) = true := g1
  simp only [Bool.and_eq_true, decide_eq_true_eq] at g1' g3'
  obtain ⟨h1, h2, h3⟩ := g1'
  obtain ⟨h4, h5⟩ := g3'
  have pl : ∀ {n : Nat} {e : D}, stD n e = true -> plD e = true := fun {n e} h => by cases e <;> first | rfl | cases h
  have p2 : plT (.tup ds) = true := by
    rw [g2'] at t2
    have := (Bool.and_eq_true_iff.mp t2.symm).2
    refine List.all_eq_true.mpr fun r hr => ?_
    have q := List.all_eq_true.mp this r hr
    cases r <;> first | cases q | skip
    rename_i fs
    have q : (fs.all (stD ds.length) && decide (fs.length = s.length)) = true := q
    rw [Bool.and_eq_true] at q
    exact List.all_eq_true.mpr fun f hf => pl (List.all_eq_true.mp q.1 f hf)
  obtain ⟨A, rfl, hA, hN⟩ := fW' h4
  rw [hN] at h5
  have k1 := fun w => df' (d := .str s) rfl w
  have k2 := fun w => dR' p2 s w
  have k3 := fun w => eY' A ds.length w
  have k4 := fun w => cf' A w
  have ea : fl' A = .tup (A.map fun a => D.int (a : Nat)) := rfl
  rw [ea] at k3 k4
  rw [decide_eq_true h5] at k4
  have e9 : (A.all fun a => decide (a < ds.length)) = true := List.all_eq_true.mpr fun a ha => decide_eq_true (hA a ha)
  rw [e9] at k3
  rw [h1] at k1
  rw [g2'] at k2
  unfold f_Machine___init__
  walk_at "f0"
  clear hf g1 g2 g3 t2 g2' p2 hA hN h4 h5 e9 ea h1
  walk_at "s"
  refine (k1 w).mono ?_
  rintro _ _ ⟨rfl, rfl⟩
  rename_i w
  walk_at "s"
  refine (k2 w).mono ?_
  rintro _ _ ⟨rfl, rfl⟩
  rename_i w
  walk_at "s"
  refine (k3 w).mono ?_
  rintro _ _ ⟨rfl, rfl⟩
  rename_i w
  walk_at "s"
  refine (k4 w).mono ?_
  rintro _ _ ⟨rfl, rfl⟩
  rename_i w
  have hi : dg' ["Machine"] "keep" w (.obj m) = true := by simp [dg', h]
  have k5 := o3' (d1 := .str s) (d2 := .tup ds) (d3 := .tup (A.map fun a => D.int (a : Nat))) h
  clear k1 k2 k3 k4 h
  walk_at "s"
  refine k5.mono ?_
  rintro _ _ ⟨rfl, rfl⟩
  walk_at "s"
abbrev ODD : List D := [D.non, .bl true, .bl false, .int 0, .int (-1), .int 7, .str [], .str [63], .str [65], .lst [], .tup [], .dct [] [], .lst [.str [97]], .tup [.str [97]], .dct [.str [97]] [.int 0], .lst [.lst [.int 0]]]
structure RO (a b : Nat) (d : D) : Prop where
  hn : rdn d = true
  hd : rZ' d <= a
  hi : oJ' d = true
  hw : oH' d <= b
  hp : plD d = true
  hs : same d d = true
theorem RO.mono {a b a' b' : Nat} {d : D} (h : RO a b d) (h1 : a <= a') (h2 : b <= b') : RO a' b' d := ⟨h.hn, Nat.le_trans h.hd h1, h.hi, Nat.le_trans h.hw h2, h.hp, h.hs⟩
theorem ros {a b : Nat} : ∀ {ds : List D}, (∀ d ∈ ds, RO a b d) -> rdns ds = true /\ depRs ds <= a /\ repIs ds = true /\ repWs ds <= ds.length * (b + 1) /\ sames ds ds = true
  | [], _ => ⟨rfl, Nat.zero_le _, rfl, Nat.zero_le _, rfl⟩
  | d :: r, h => by
    obtain ⟨h1, h2, h3, h4, h5⟩ := ros fun e he => h e (List.mem_cons_of_mem _ he)
    have q := h d (List.mem_cons_self ..)
    refine ⟨?_, ?_, ?_, ?_, ?_⟩
    . show (rdn d && rdns r) = true
      rw [q.hn, h1]; rfl
    . show max (rZ' d) (depRs r) <= a
      have := q.hd
      omega
    . show (oJ' d && repIs r) = true
      rw [q.hi, h3]; rfl
    . show oH' d + 1 + repWs r <= (r.length + 1) * (b + 1)
      have := q.hw
      rw [Nat.succ_mul]
      omega
    . show (same d d && sames r r) = true
      rw [q.hs, h5]; rfl
theorem RO.tup {a b n : Nat} {ds : List D} (h : ∀ d ∈ ds, RO a b d) (hl : ds.length <= n) : RO (a + 1) (n * (b + 1)) (.tup ds) := by
  obtain ⟨h1, h2, h3, h4, h5⟩ := ros h
  exact ⟨h1, Nat.succ_le_succ h2, h3, Nat.le_trans h4 (Nat.mul_le_mul_right _ hl), rfl, h5⟩
theorem RO.lst {a b n : Nat} {ds : List D} (h : ∀ d ∈ ds, RO a b d) (hl : ds.length <= n) : RO (a + 1) (n * (b + 1)) (.lst ds) := by
  obtain ⟨h1, h2, h3, h4, h5⟩ := ros h
  exact ⟨h1, Nat.succ_le_succ h2, h3, Nat.le_trans h4 (Nat.mul_le_mul_right _ hl), rfl, h5⟩
theorem RO.int {a b : Nat} {i : Int} (h : i.natAbs < 10 ^ 60) : RO a b (.int i) := ⟨rfl, Nat.zero_le _, decide_eq_true h, Nat.zero_le _, rfl, by simp [same]⟩
theorem RO.str {a b : Nat} {s : Tx} (h : s.length <= b) : RO a b (.str s) := ⟨rfl, Nat.zero_le _, rfl, h, rfl, by simp [same]⟩
theorem RO.odd {d : D} (h : d ∈ ODD) : RO 2 10 d /\ plR d = true /\ plT d = true /\ (∀ es, d = .tup es -> es.length <= 1 /\ ∀ r ∈ es, ∀ fs, r ≠ .tup fs) := by
  simp only [List.mem_cons, List.not_mem_nil, or_false] at h
  rcases h with rfl | rfl | rfl | rfl | rfl | rfl | rfl | rfl | rfl | rfl | rfl | rfl | rfl | rfl | rfl | rfl
  all_goals refine ⟨⟨by decide, by decide, by decide, by decide, by decide, by decide⟩, by decide, by decide, fun es e => ?_⟩
  all_goals first | (cases e; done) | (cases e; simp)
theorem d3' {w : W} {n : Nat} {L : Tx} (h : bA' w n) (hL : LetOk L 4) : wF (f__law_bad_letters [.obj n, .str L] w) (fun o w' => ∃ d, o = .fz d /\ RO 10 1000 d /\ bA' w' n /\ But n w w') FX := by
  have hle := hL.le
  have hne := hL.ne
  have habc := hL.abc
  have ko := fun w1 (hh : bA' w1 n) => gb' hh
  have ks := fun w1 (hh : bA' w1 n) => kR' (m := 1) hh (by decide)
  unfold f__law_bad_letters
  walk_at "f0"
  clear hL
  walk_at "s"
  refine (aE' h (by omega) (by omega)).mono ?_
  rintro _ w1 ⟨way, rfl, hway, h1, b1⟩
  clear h
  walk_at "s"
  refine (aE' h1 (by omega) (by omega)).mono ?_
  rintro _ w2 ⟨at_, rfl, hat, h2, b2⟩
  have b2 := b1.trans b2
  clear h1 b1
  walk_at "s"
  refine an' (fun c => ?_) (fun c => ?_)
  . clear ks
    walk_at "s"
    refine (ko w2 h2).mono ?_
    rintro _ w3 ⟨d, rfl, hd, h3, b3⟩
    exact ⟨d, rfl, (RO.odd hd).1.mono (by decide) (by decide), h3, b2.trans b3⟩
  clear ko
  walk_at "s"
  refine an' (fun c => ?_) (fun c => ?_)
  . walk_at "s"
    exact ⟨_, rfl, RO.str (by rw [List.length_reverse]; omega)⟩
  walk_at "s"
  refine an' (fun c => ?_) (fun c => ?_)
  . walk_at "s"
    have q1 : (L.take at_).length <= 4 := by rw [List.length_take]; omega
    have q2 : (L.drop (max 0 ((at_ : Int) - 1)).toNat).length <= 4 := by rw [List.length_drop]; omega
    exact bU' (by omega) ⟨_, rfl, RO.str (by rw [List.length_append]; omega), h2, b2⟩
  walk_at "s"
  have q1 : (L.take at_).length <= 4 := by rw [List.length_take]; omega
  have q2 : (L.drop at_).length <= 4 := by rw [List.length_drop]; omega
  refine an' (fun c => ?_) (fun c => ?_)
  . walk_at "s"
    refine (ks w2 h2).mono ?_
    rintro _ w3 ⟨s, rfl, hs, hc, h3, b3⟩
    walk_at "s"
    try rw [fS' (by simp only [List.length_append]; omega)]
    try rw [fS' (by simp only [List.length_append]; omega)]
    exact (⟨_, rfl, RO.str (by rw [List.length_append, List.length_append]; omega), h3, b2.trans b3⟩)
  clear ks
  walk_at "s"
  refine an' (fun c => ?_) (fun c => ?_)
  . walk_at "s"
    refine (aE' h2 (by omega) (by omega)).mono ?_
    rintro _ w3 ⟨e, rfl, he, h3, b3⟩
    walk_at "s"
    have e1 : (3 : Int) + (e : Int) = ((3 + e : Nat) : Int) := by omega
    rw [e1]
    refine (dQ' h3 (by decide) (by simp; omega)).mono ?_
    rintro _ w4 ⟨r, t, rfl, hr, hp, h4, b4⟩
    have hl := g5' r
    walk_at "s"
    exact ⟨_, rfl, RO.str (by omega), (b2.trans b3).trans b4⟩
  walk_at "s"
  refine an' (fun c => ?_) (fun c => ?_)
  . walk_at "s"
    refine ⟨_, rfl, (RO.lst (a := 0) (b := 1) (n := 4) (fun d hd => ?_) ?_).mono (by decide) (by decide)⟩
    . obtain ⟨c, _, rfl⟩ := List.mem_map.mp hd
      exact RO.str (Nat.le_refl _)
    . rw [List.length_map]; exact hle
  walk_at "s"
  refine an' (fun c => ?_) (fun c => ?_)
  . walk_at "s"
    refine jc' ⟨List.all_eq_true.mpr fun x hx => decide_eq_true (by have := habc x (List.mem_of_mem_drop hx); omega), by omega⟩ ?_
    have q3 : ((L.drop at_).map up1).length <= 4 := by rw [List.length_map]; exact q2
    generalize (L.drop at_).map up1 = U at q3 ⊢
    walk_at "s"
    try rw [fS' (by simp only [List.length_append, List.length_map]; omega)]
    exact ⟨_, rfl, RO.str (by rw [List.length_append]; omega)⟩
  walk_at "s"
  exact ⟨_, rfl, RO.str (by omega)⟩
structure SP (d : D) : Prop where
  hr : RO 10 1000 d
  hp : plR d = true
  hl : ∀ es, d = .tup es -> es.length <= 100
theorem vt' {a b : Nat} {es : List D} (h : ∀ e ∈ es, RO a b e) : es.all plD = true := List.all_eq_true.mpr fun e he => (h e he).hp
theorem SP.tup {es : List D} (h : ∀ e ∈ es, RO 3 20 e) (hl : es.length <= 40) : SP (.tup es) :=
  ⟨(RO.tup h hl).mono (by decide) (by decide), vt' h, fun fs e => by cases e; omega⟩
theorem SP.lst {es : List D} (h : ∀ e ∈ es, RO 3 20 e) (hl : es.length <= 40) : SP (.lst es) :=
  ⟨(RO.lst h hl).mono (by decide) (by decide), rfl, fun fs e => by cases e⟩
theorem SP.odd {d : D} (h : d ∈ ODD) : SP d := by
  obtain ⟨h1, h2, h3, h4⟩ := RO.odd h
  exact ⟨h1.mono (by decide) (by decide), h2, fun es e => by have := (h4 es e).1; omega⟩
structure SD (ds : List D) : Prop where
  al : ∀ e ∈ ds, RO 3 20 e
  tk : ∀ k e, e ∈ ds.take k -> RO 3 20 e
  dr : ∀ k e, e ∈ ds.drop k -> RO 3 20 e
  lt : ∀ k, (ds.take k).length <= 10
  ld : ∀ k, (ds.drop k).length <= 10
theorem SD.cat {ds : List D} (h : SD ds) (i j : Nat) : SP (.tup (ds.take i ++ ds.drop j)) :=
  .tup (fun e he => (List.mem_append.mp he).elim (h.tk i e) (h.dr j e)) (by rw [List.length_append]; have := h.lt i; have := h.ld j; omega)
theorem SD.cat1 {ds : List D} (h : SD ds) (i j : Nat) {x : D} (hx : RO 3 20 x) : SP (.tup (ds.take i ++ [x] ++ ds.drop j)) :=
  .tup (fun e he => (List.mem_append.mp he).elim (fun he => (List.mem_append.mp he).elim (h.tk i e) (fun he => by rw [List.mem_singleton] at he; rw [he]; exact hx)) (h.dr j e)) (by simp only [List.length_append, List.length_singleton]; have := h.lt i; have := h.ld j; omega)
theorem SD.of {ds : List D} (hd : ∀ e ∈ ds, RO 3 20 e) (hl : ds.length <= 10) : SD ds :=
  ⟨hd, fun k e he => hd e (List.mem_of_mem_take he), fun k e he => hd e (List.mem_of_mem_drop he), fun k => by rw [List.length_take]; omega, fun k => by rw [List.length_drop]; omega⟩
theorem SD.one {m : Nat} {x : D} (hm : m <= 100) (hx : x ∈ [D.int (m : Nat), .int (-1), .int ((m : Int) - 1), .bl true, .bl false, .non, .str [48], .tup [.int 0], .int 0, .int ((m : Int) + 1)]) : RO 3 20 x := by
  simp only [List.mem_cons, List.not_mem_nil, or_false] at hx
  rcases hx with rfl | rfl | rfl | rfl | rfl | rfl | rfl | rfl | rfl | rfl
  . exact RO.int (by omega)
  . exact RO.int (by decide)
  . exact RO.int (by omega)
  . exact ⟨rfl, by decide, rfl, by decide, rfl, rfl⟩
  . exact ⟨rfl, by decide, rfl, by decide, rfl, rfl⟩
  . exact ⟨rfl, by decide, rfl, by decide, rfl, rfl⟩
  . exact ⟨rfl, by decide, rfl, by decide, rfl, rfl⟩
  . exact ⟨rfl, by decide, rfl, by decide, rfl, rfl⟩
  . exact RO.int (by decide)
  . exact RO.int (by omega)
theorem cy' {w : W} {n : Nat} {ds : List D} {m : Nat} (h : bA' w n) (hd : ∀ e ∈ ds, RO 3 20 e) (hl : ds.length <= 10) (hm : m <= 100) : wF (f__law_bad_states [.obj n, .tup ds, .int m] w) (fun o w' => ∃ d, o = .fz d /\ SP d /\ bA' w' n /\ But n w w') FX := by
  have ko := fun w1 (hh : bA' w1 n) => gb' hh
  have F := SD.of hd hl
  clear hd
  unfold f__law_bad_states
  walk_at "f0"
  walk_at "s"
  refine (aE' h (by omega) (by omega)).mono ?_
  rintro _ w1 ⟨way, rfl, hway, h1, b1⟩
  clear h
  walk_at "s"
  refine (aE' h1 (by omega) (by omega)).mono ?_
  rintro _ w2 ⟨at_, rfl, hat, h2, b2⟩
  have b2 := b1.trans b2
  clear h1 b1
  walk_at "s"
  refine an' (fun c => ?_) (fun c => ?_)
  . walk_at "s"
    refine (ko w2 h2).mono ?_
    rintro _ w3 ⟨d, rfl, hd, h3, b3⟩
    exact ⟨d, rfl, SP.odd hd, h3, b2.trans b3⟩
  clear ko
  walk_at "s"
  refine an' (fun c => ?_) (fun c => ?_)
  . walk_at "s"
    exact ⟨_, rfl, .lst F.al (by omega)⟩
  walk_at "s"
  have q1 := F.lt at_
  have q2 := F.ld at_
  have q3 := F.ld (at_ + 1)
  have q4 := F.ld (max 0 ((at_ : Int) - 1)).toNat
  refine an' (fun c => ?_) (fun c => ?_)
  . walk_at "s"
    exact ⟨_, rfl, F.cat _ _⟩
  walk_at "s"
  refine an' (fun c => ?_) (fun c => ?_)
  . walk_at "s"
    exact ⟨_, rfl, F.cat _ _⟩
  walk_at "s"
  refine an' (fun c => ?_) (fun c => ?_)
  . walk_at "s"
    rw [uQ']
    exact ⟨_, rfl, .tup (fun e he => F.al e (List.mem_reverse.mp he)) (by rw [List.length_reverse]; omega), h2, b2⟩
  walk_at "s"
  refine an' (fun c => ?_) (fun c => ?_)
  . walk_at "s"
    refine (aE' h2 (by omega) (by omega)).mono ?_
    rintro _ w3 ⟨k, rfl, hk, h3, b3⟩
    walk_at "s"
    refine aR' (by simp; omega) fun x hx _ => ?_
    walk_at "s"
    have hx := SD.one hm hx
    exact bU' (by simp only [List.length_append, List.length_singleton]; omega) ⟨_, rfl, F.cat1 _ _ hx, h3, b2.trans b3⟩
  walk_at "s"
  refine (aE' h2 (by omega) (by omega)).mono ?_
  rintro _ w3 ⟨k, rfl, hk, h3, b3⟩
  walk_at "s"
  refine aR' (by simp; omega) fun x hx _ => ?_
  walk_at "s"
  have hx := SD.one hm hx
  exact bU' (by simp only [List.length_append, List.length_singleton]; omega) ⟨_, rfl, F.cat1 _ _ hx, h3, b2.trans b3⟩
structure ST (d : D) : Prop where
  hr : RO 12 62000 d
  hp : plT d = true
  hl : ∀ es, d = .tup es -> ∀ r ∈ es, ∀ fs, r = .tup fs -> fs.length <= 100
theorem ST.tup {es : List D} (h : ∀ e ∈ es, SP e) (hl : es.length <= 60) : ST (.tup es) :=
  ⟨(RO.tup (fun e he => (h e he).hr) hl).mono (by decide) (by decide), List.all_eq_true.mpr fun e he => (h e he).hp, fun fs e r hr => by cases e; exact (h r hr).hl⟩
theorem ST.lst {es : List D} (h : ∀ e ∈ es, SP e) (hl : es.length <= 60) : ST (.lst es) :=
  ⟨(RO.lst (fun e he => (h e he).hr) hl).mono (by decide) (by decide), rfl, fun fs e => by cases e⟩
theorem ST.odd {d : D} (h : d ∈ ODD) : ST d := by
  obtain ⟨h1, h2, h3, h4⟩ := RO.odd h
  exact ⟨h1.mono (by decide) (by decide), h3, fun es e r hr fs e2 => absurd e2 ((h4 es e).2 r hr fs)⟩
structure GT (ts : List D) : Prop where
  al : ∀ r ∈ ts, ∃ ds, r = .tup ds /\ (∀ e ∈ ds, RO 3 20 e) /\ ds.length <= 10
  sp : ∀ r ∈ ts, SP r
  lt : ∀ k, (ts.take k).length <= 6
  ld : ∀ k, (ts.drop k).length <= 6
theorem GT.of {T : List (List Nat)} (h : ∀ r ∈ T, r.length <= 10 /\ ∀ t ∈ r, t < 100) (hl : T.length <= 6) : GT (T.map ef') := by
  have a : ∀ r ∈ T.map ef', ∃ ds, r = .tup ds /\ (∀ e ∈ ds, RO 3 20 e) /\ ds.length <= 10 := by
    intro r hr
    obtain ⟨r, hr', rfl⟩ := List.mem_map.mp hr
    refine ⟨_, rfl, fun e he => ?_, by rw [List.length_map]; exact (h r hr').1⟩
    obtain ⟨t, ht, rfl⟩ := List.mem_map.mp he
    have := (h r hr').2 t ht
    exact RO.int (by omega)
  refine ⟨a, fun r hr => ?_, fun k => by rw [List.length_take, List.length_map]; omega, fun k => by rw [List.length_drop, List.length_map]; omega⟩
  obtain ⟨ds, rfl, h1, h2⟩ := a r hr
  exact SP.tup h1 (by omega)
theorem GT.cat {ts : List D} (h : GT ts) (i j : Nat) : ST (.tup (ts.take i ++ ts.drop j)) :=
  .tup (fun e he => (List.mem_append.mp he).elim (fun he => h.sp e (List.mem_of_mem_take he)) fun he => h.sp e (List.mem_of_mem_drop he)) (by rw [List.length_append]; have := h.lt i; have := h.ld j; omega)
theorem GT.cat1 {ts : List D} (h : GT ts) (i j : Nat) {x : D} (hx : SP x) : ST (.tup (ts.take i ++ [x] ++ ts.drop j)) :=
  .tup (fun e he => (List.mem_append.mp he).elim (fun he => (List.mem_append.mp he).elim (fun he => h.sp e (List.mem_of_mem_take he)) (fun he => by rw [List.mem_singleton] at he; rw [he]; exact hx)) fun he => h.sp e (List.mem_of_mem_drop he)) (by simp only [List.length_append, List.length_singleton]; have := h.lt i; have := h.ld j; omega)
theorem ff' {w : W} {n : Nat} {ts : List D} (h : bA' w n) (F : GT ts) (h1 : 1 <= ts.length) (h6 : ts.length <= 6) : wF (f__law_bad_table [.obj n, .tup ts]  w) (fun o w' => ∃ d, o = .fz d /\ ST d /\ bA' w' n /\ But n w w') FX := by
  have ko := fun w1 (hh : bA' w1 n) => gb' hh
  unfold f__law_bad_table
  walk_at "f0"
  walk_at "s"
  refine (aE' h (by omega) (by omega)).mono ?_
  rintro _ w1 ⟨way, rfl, hway, h1, b1⟩
  clear h
  walk_at "s"
  refine (aE' h1 (by omega) (by omega)).mono ?_
  rintro _ w2 ⟨at_, rfl, hat, h2, b2⟩
  have b2 := b1.trans b2
  clear h1 b1
  walk_at "s"
  refine an' (fun c => ?_) (fun c => ?_)
  . walk_at "s"
    refine (ko w2 h2).mono ?_
    rintro _ w3 ⟨d, rfl, hd, h3, b3⟩
    exact ⟨d, rfl, ST.odd hd, h3, b2.trans b3⟩
  clear ko
  walk_at "s"
  refine an' (fun c => ?_) (fun c => ?_)
  . walk_at "s"
    exact ⟨_, rfl, .lst F.sp (by omega)⟩
  walk_at "s"
  have q1 := F.lt at_
  have q3 := F.ld (at_ + 1)
  refine an' (fun c => ?_) (fun c => ?_)
  . walk_at "s"
    exact ⟨_, rfl, F.cat _ _⟩
  walk_at "s"
  refine an' (fun c => ?_) (fun c => ?_)
  . walk_at "s"
    refine (aE' h2 (by omega) (by omega)).mono ?_
    rintro _ w3 ⟨k, rfl, hk, h3, b3⟩
    walk_at "s"
    have m1 : ∀ e ∈ cut ts (some (at_ : Int)) (some ((at_ : Int) + 1)), e ∈ ts := fun e he => by
      unfold cut at he
      exact List.mem_of_mem_drop (List.mem_of_mem_take he)
    have m2 : (cut ts (some (at_ : Int)) (some ((at_ : Int) + 1))).length <= 6 := by
      unfold cut
      rw [List.length_take, List.length_drop]
      omega
    generalize cut ts (some (at_ : Int)) (some ((at_ : Int) + 1)) = u at m1 m2 ⊢
    rw [uY']
    refine jc' ⟨by omega, by omega, by omega⟩ ?_
    have e2 : (List.replicate (k : Int).toNat u).flatten.length <= 36 := by
      rw [List.length_flatten, List.map_replicate, List.sum_replicate_nat]
      have : (k : Int).toNat <= 6 := by omega
      exact Nat.mul_le_mul this m2
    have e3 : ∀ e ∈ (List.replicate (k : Int).toNat u).flatten, e ∈ ts := fun e he => by
      obtain ⟨l, hl, he⟩ := List.mem_flatten.mp he
      rw [List.eq_of_mem_replicate hl] at he
      exact m1 e he
    generalize (List.replicate (k : Int).toNat u).flatten = v at e2 e3 ⊢
    clear m1
    rw [qx']
    refine bU' (by omega) ⟨_, rfl, .tup (fun e he => (List.mem_append.mp he).elim (F.sp e) fun he => F.sp e (e3 e he)) (by rw [List.length_append]; omega), h3, b2.trans b3⟩
  walk_at "s"
  refine aR' (by omega) fun x hx _ => ?_
  obtain ⟨ds, rfl, g1, g2⟩ := F.al x hx
  walk_at "s"
  refine (cy' h2 g1 g2 (by omega)).mono ?_
  rintro _ w3 ⟨d, rfl, hd, h3, b3⟩
  walk_at "s"
  exact bU' (by simp only [List.length_append, List.length_singleton]; omega) ⟨_, rfl, F.cat1 _ _ hd, h3, b2.trans b3⟩
theorem iC' {w : W} {m : Nat} {d1 d2 d3 : D} (h : w[m]? = some (gf' d1 d2 d3)) : wF (f_Machine_letters [.obj m] w) (fun o w' => o = .fz d1 /\ w' = w) FX := by
  have e : gx' ["Machine"] "kept_letters" w (.obj m) = some d1 := by simp [gx', h, gf', List.lookup]
  unfold f_Machine_letters
  walk_at "f"
theorem mv' {w : W} {m : Nat} {d1 d2 d3 : D} (h : w[m]? = some (gf' d1 d2 d3)) : wF (f_Machine_table [.obj m] w) (fun o w' => o = .fz d2 /\ w' = w) FX := by
  have e : gx' ["Machine"] "kept_table" w (.obj m) = some d2 := by simp [gx', h, gf', List.lookup]
  unfold f_Machine_table
  walk_at "f"
theorem i6' {w : W} {m : Nat} {d1 d2 d3 : D} (h : w[m]? = some (gf' d1 d2 d3)) : wF (f_Machine_accepts [.obj m] w) (fun o w' => o = .fz d3 /\ w' = w) FX := by
  have e : gx' ["Machine"] "kept_accepts" w (.obj m) = some d3 := by simp [gx', h, gf', List.lookup]
  unfold f_Machine_accepts
  walk_at "f"
theorem nA' (d1 d2 d3 : D) : ct' d1 d2 d3 = .non \/ ∃ s, ct' d1 d2 d3 = .str s /\ s ≠ [] /\ s.length <= 10 := by
  unfold ct'
  split
  . exact .inr ⟨_, rfl, by decide, by decide⟩
  split
  . exact .inr ⟨_, rfl, by decide, by decide⟩
  split
  . exact .inr ⟨_, rfl, by decide, by decide⟩
  exact .inl rfl
theorem RO.of_rowD {A : List Nat} {n : Nat} (h : ∀ a ∈ A, a < n) (hn : n <= 100) : ∀ e ∈ A.map (fun a => D.int (a : Nat)), RO 3 20 e := by
  intro e he
  obtain ⟨a, ha, rfl⟩ := List.mem_map.mp he
  have := h a ha
  exact RO.int (by omega)
abbrev ENV (ns : List Int) (j : Nat) (d1 d2 d3 : D) (b m : Int) (x8 x9 x10 x11 : Option O) : List (Option O) := [some (.fz (.scr (ns.map .int))), some (.fz (.obj 0)), some (.fz (.int (j : Nat))), some (.fz d1), some (.fz d2), some (.fz d3), some (.fz (.int b)), some (.fz (.int m)), x8, x9, x10, x11, none]
theorem law_true (ns : List Int) (hl : ns.length <= 63) : ∃ w, f_law [.scr (ns.map .int)] [] = .ok (.fz (.bl true)) w := by
  suffices h : wF (f_law [.scr (ns.map .int)] []) (fun o _ => o = .fz (.bl true)) FX by
    obtain ⟨o, w, e, rfl⟩ := h.exi
    exact ⟨w, e⟩
  unfold f_law
  walk_at "f"
  refine (nu' hl).mono ?_
  rintro _ w1 ⟨rfl, h1, hl1, -⟩
  change bA' w1 0 at h1
  clear hl1
  walk_at "s"
  refine cd' (fun j ρ => ∃ x2 x3 x4 x5 x6 x7 x8 x9 x10 x11 w', ρ = ⟨[some (.fz (.scr (ns.map .int))), some (.fz (.obj 0)), x2, x3, x4, x5, x6, x7, x8, x9, x10, x11, none], w'⟩ /\ bA' w' 0) ⟨_, _, _, _, _, _, _, _, _, _, _, rfl, h1⟩ ?_ ?_
  . clear h1 w1
    rintro j _ hj ⟨x2, x3, x4, x5, x6, x7, x8, x9, x10, x11, w1, rfl, h1⟩
    walk_at "s"
    refine (kV' (most := 4) (states := 6) h1 (by omega) (by omega) (by omega) (by omega)).mono ?_
    rintro _ w2 ⟨L, T, A, rfl, hM, h2, -⟩
    clear h1 w1
    walk_at "s"
    refine (aE' h2 (by omega) (by omega)).mono ?_
    rintro _ w3 ⟨b, rfl, hb, h3, -⟩
    clear h2 w2
    walk_at "s"
    have gT : GT (T.map ef') := GT.of (fun r hr => ⟨by rw [(hM.tab.2 r hr).1]; have := hM.let'.le; omega, fun t ht => by have := (hM.tab.2 r hr).2 t ht; have := hM.le; omega⟩) hM.le
    have gA := RO.of_rowD hM.acc.lt (by have := hM.le; omega)
    have lA : A.length <= 6 := Nat.le_trans (t9' (hM.acc.asc.imp fun h => Nat.ne_of_lt h) hM.acc.lt) hM.le
    have hLe := hM.let'
    have hn1 := hM.ne
    have hn6 := hM.le
    have sT : ST (il' T) := .tup gT.sp (by rw [List.length_map]; omega)
    have sA : SP (fl' A) := .tup gA (by rw [List.length_map]; omega)
    have sL : RO 12 62000 (.str L) := .str (by have := hLe.le; omega)
    clear hM
    refine cm' (fun ρ => ∃ d1 w', ρ = ⟨ENV ns j d1 (il' T) (fl' A) b T.length x8 x9 x10 x11, w'⟩ /\ RO 12 62000 d1 /\ bA' w' 0) (an' (fun c => ?_) (fun c => ?_)) ?_
    . walk_at "s"
      refine (d3' h3 hLe).mono ?_
      rintro _ w4 ⟨d1, rfl, hd1, h4, -⟩
      walk_at "s"
      exact ⟨_, _, rfl, hd1.mono (by decide) (by decide), h4⟩
    . walk_at "s"
      exact ⟨_, _, rfl, sL, h3⟩
    clear h3 w3 sL hLe
    rintro _ ⟨d1, w3, rfl, s1, h3⟩
    walk_at "s"
    refine cm' (fun ρ => ∃ d2 w', ρ = ⟨ENV ns j d1 d2 (fl' A) b T.length x8 x9 x10 x11, w'⟩ /\ ST d2 /\ bA' w' 0) (an' (fun c => ?_) (fun c => ?_)) ?_
    . walk_at "s"
      refine (ff' h3 gT (by rw [List.length_map]; exact hn1) (by rw [List.length_map]; exact hn6)).mono ?_
      rintro _ w4 ⟨d2, rfl, hd2, h4, -⟩
      walk_at "s"
      exact ⟨_, _, rfl, hd2, h4⟩
    . walk_at "s"
      exact ⟨_, _, rfl, sT, h3⟩
    clear h3 w3 sT gT
    rintro _ ⟨d2, w3, rfl, s2, h3⟩
    walk_at "s"
    refine cm' (fun ρ => ∃ d3 w', ρ = ⟨ENV ns j d1 d2 d3 b T.length x8 x9 x10 x11, w'⟩ /\ SP d3 /\ bA' w' 0) (an' (fun c => ?_) (fun c => ?_)) ?_
    . walk_at "s"
      refine (cy' h3 gA (by rw [List.length_map]; omega) (by omega)).mono ?_
      rintro _ w4 ⟨d3, rfl, hd3, h4, -⟩
      walk_at "s"
      exact ⟨_, _, rfl, hd3, h4⟩
    . walk_at "s"
      exact ⟨_, _, rfl, sA, h3⟩
    clear h3 w3 sA gA lA
    rintro _ ⟨d3, w3, rfl, s3, h3⟩
    have q3 : RO 12 62000 d3 := s3.hr.mono (by decide) (by decide)
    obtain ⟨r1, r2, r3, r4, r5⟩ := ros (ds := [d1, d2, d3]) (a := 12) (b := 62000) (by
      intro d hd
      simp only [List.mem_cons, List.not_mem_nil, or_false] at hd
      rcases hd with rfl | rfl | rfl
      . exact s1
      . exact s2.hr
      . exact q3)
    have kr : ∀ P : D -> Prop, wD (iw' (.lst [d1, d2, d3])) P = P (.rep (.lst [d1, d2, d3])) := fun P => by
      rw [uT', qM' ⟨r1, Nat.succ_le_succ (Nat.le_trans r2 (by decide)), r3, Nat.le_trans r4 (show 3 * (62000 + 1) <= 200000 by decide)⟩]
    have ks : ∀ P : D -> Prop, wD (sA' (.rep (.lst [d1, d2, d3])) (.rep (.lst [d1, d2, d3]))) P = P (.bl false) := fun P => by
      rw [wW', qM' (show same (.lst [d1, d2, d3]) (.lst [d1, d2, d3]) = true from r5)]
    have kf := fa' s1.hp s2.hp s3.hp (fun es e r hr fs e2 => Nat.le_trans (s2.hl es e r hr fs e2) (by decide)) (fun es e => Nat.le_trans (s3.hl es e) (by decide)) w3
    have kb := fun w m => o8' (w := w) (m := m) s1.hp s2.hp s3.hp
    have kg := fun w m h => nt' (w := w) (m := m) (d1 := d1) (d2 := d2) (d3 := d3) h
    have tw := nA' d1 d2 d3
    clear r1 r2 r3 r4 r5 q3 s1 s2 s3
    generalize ct' d1 d2 d3 = ft at kf kb kg tw
    have h4 : bA' (w3 ++ [.ins "Machine" []]) 0 := h3.snoc
    have h5 : bA' (w3 ++ [gf' d1 d2 d3]) 0 := h3.snoc
    rcases tw with rfl | ⟨s, rfl, hs, hs2⟩
    . have kg' := kg (w3 ++ [.ins "Machine" []]) w3.length (by rw [List.getElem?_append_right (by omega), Nat.sub_self]; rfl) rfl
      have e1 : (w3 ++ [Ob.ins "Machine" []]).set w3.length (gf' d1 d2 d3) = w3 ++ [gf' d1 d2 d3] := by
        rw [List.set_append_right _ _ (by omega), Nat.sub_self]; rfl
      have e2 : (w3 ++ [gf' d1 d2 d3])[w3.length]? = some (gf' d1 d2 d3) := by rw [List.getElem?_append_right (by omega), Nat.sub_self]; rfl
      rw [e1] at kg'
      have k1 := iC' e2
      have k2 := mv' e2
      have k3 := i6' e2
      have i1 : dg' ["Machine"] "letters" (w3 ++ [gf' d1 d2 d3]) (.obj w3.length) = true := by simp [dg', e2, gf']
      have i2 : dg' ["Machine"] "table" (w3 ++ [gf' d1 d2 d3]) (.obj w3.length) = true := by simp [dg', e2, gf']
      have i3 : dg' ["Machine"] "accepts" (w3 ++ [gf' d1 d2 d3]) (.obj w3.length) = true := by simp [dg', e2, gf']
      have kn : ∀ P : D -> Prop, wD (pNe .non .non) P = P (.bl false) := fun P => by
        show wD (some _) P = _
        rw [a3']; rfl
      clear kb kg e1 e2 h4
      walk_at "s"
      refine kf.mono ?_
      rintro _ _ ⟨rfl, rfl⟩
      clear kf
      rename_i w3
      walk_at "s"
      refine kg'.mono ?_
      rintro _ _ ⟨rfl, rfl⟩
      clear kg'
      walk_at "s"
      refine k1.mono ?_
      rintro _ _ ⟨rfl, h⟩
      subst h
      clear k1
      walk_at "s"
      refine k2.mono ?_
      rintro _ _ ⟨rfl, h⟩
      subst h
      clear k2
      walk_at "s"
      refine k3.mono ?_
      rintro _ _ ⟨rfl, h⟩
      subst h
      clear k3
      walk_at "s"
      exact ⟨_, _, _, _, _, _, _, _, _, _, _, rfl, h5⟩
    . have kb' := kb (w3 ++ [.ins "Machine" []]) w3.length (by simp)
      clear kb kg h5
      walk_at "s"
      refine kf.mono ?_
      rintro _ _ ⟨rfl, rfl⟩
      clear kf
      rename_i w3
      walk_at "s"
      refine kb'.monoX (fun _ _ h => h.elim) ?_
      rintro _ _ ⟨rfl, rfl⟩
      rw [show sub exT "NoMachine" "NoMachine" = some true by decide]
      have e3 : ([("part", D.str s)] : List (String × D)).lookup "part" = some (.str s) := rfl
      walk_at "s"
      exact ⟨by simp, _, _, _, _, _, _, _, _, _, _, _, rfl, h4⟩
  . rintro _ ⟨x2, x3, x4, x5, x6, x7, x8, x9, x10, x11, w1, rfl, h1⟩
    walk_at "s"
end
end M
namespace S
open PySem PySem.Spec PyProof.Rows L2
section
variable [Wd] {K : PySem.W.Frag} {mg : Str -> Option Value} {base : Heap}
theorem f7' (C : Ctx Wd.w K mg) : Og Wd.P Wd.w K mg base 1 "is_integer" ["thing"] (spM K M.f_is_integer) := by
  obtain ⟨fd, F⟩ := C.f_is_integer
  exact ⟨fd, okM F f0' rfl rfl (fun cdv A outer s H E hr =>
    (af' (al' (a0' (g7' (cI' "int" (by decide) rfl (C.free_isinstance) (by decide +kernel) (ad' (pv 0)) (pe_bltn (v := .ty "int") rfl (C.free_int) (by decide +kernel) rfl)) (kf' (p9' (cI' "bool" (by decide) rfl (C.free_isinstance) (by decide +kernel) (ad' (pv 0)) (pe_bltn (v := .ty "bool") rfl (C.free_bool) (by decide +kernel) rfl))))))))), h5' F, F.kp, C.g_is_integer⟩
theorem eE' (C : Ctx Wd.w K mg) : Og Wd.P Wd.w K mg base 1 "is_string_of" ["thing", "signs"] (spM K M.f_is_string_of) := by
  obtain ⟨fd, F⟩ := C.f_is_string_of
  exact ⟨fd, okM F cn' rfl rfl (fun cdv A outer s H E hr =>
    (ab' (aP' (bE' (kc' (cI' "str" (by decide) rfl (C.free_isinstance) (by decide +kernel) (ad' (pv 0)) (pe_bltn (v := .ty "str") rfl (C.free_str) (by decide +kernel) rfl)))) (af' (al' (a0' ca'))) au')
      (ab' (bW' (passes_of rfl) rfl (fD' (ad' (pv 0))) (e5' 2 cn'.nd rfl (by walk_at "1") (by walk_at "2")) (af' (aP' (ao' hi' m2' (by rfl) (ad' (pv 2)) (ad' (pv 1))) (af' (al' (a0' ca'))) au')))
      (af' (al' (a0' ca')))))), fg' F, F.kp, C.g_is_string_of⟩
theorem cq' (C : Ctx Wd.w K mg) : Og Wd.P Wd.w K mg base 1 "is_ascending" ["thing"] (spM K M.f_is_ascending) := by
  obtain ⟨fd, F⟩ := C.f_is_ascending
  exact ⟨fd, okM F bK' rfl rfl (fun cdv A outer s H E hr =>
    (ab' (bW' (passes_of rfl) rfl (tr' rfl (C.free_zip) (ad' (pv 0)) (bF' ed' eg' (ad' (pv 0)) (bB' ac') bJ')) (xJ' (n := 2) rfl rfl rfl rfl (cY' rfl (e5' 1 bK'.nd rfl (by walk_at "1") (by walk_at "2")) (cY' rfl (e5' 2 bK'.nd rfl (by walk_at "1") (by walk_at "2")) mD'))) (af' (aP' (ao' hn' t5' (nomark _) (ad' (pv 1)) (ad' (pv 2))) (af' (al' (a0' ca'))) au')))
      (af' (al' (a0' ca'))))), fh' F, F.kp, C.g_is_ascending⟩
theorem hs' (C : Ctx Wd.w K mg) : Og Wd.P Wd.w K mg base 2 "is_choice" ["thing", "signs"] (spM K M.f_is_choice) := by
  obtain ⟨fd, F⟩ := C.f_is_choice
  exact ⟨fd, okM F g8' rfl rfl (fun cdv A outer s H E hr =>
    (af' (al' (a0' (g7' (cl' (aj' (eE' C) (hr.mono (by walk_at "4")) rfl (takes_of rfl rfl rfl rfl) (aa' (ad' (pv 0)) (aa' (ad' (pv 1)) ag')))) (kf' (cl' (aj' (cq' C) (hr.mono (by walk_at "4")) rfl (takes_of rfl rfl rfl rfl) (aa' (ad' (pv 0)) ag'))))))))), i2' F, F.kp, C.g_is_choice⟩
theorem c6' (C : Ctx Wd.w K mg) : Og Wd.P Wd.w K mg base 2 "are_states" ["thing", "many"] (spM K M.f_are_states) := by
  obtain ⟨fd, F⟩ := C.f_are_states
  exact ⟨fd, okM F c0' rfl rfl (fun cdv A outer s H E hr =>
    (ab' (aP' (bE' (kc' (cI' "tuple" (by decide) rfl (C.free_isinstance) (by decide +kernel) (ad' (pv 0)) (pe_bltn (v := .ty "tuple") rfl (C.free_tuple) (by decide +kernel) rfl)))) (af' (al' (a0' ca'))) au')
      (ab' (bW' (passes_of rfl) rfl (fD' (ad' (pv 0))) (e5' 2 c0'.nd rfl (by walk_at "1") (by walk_at "2")) (af' (aP' (ka' (cX' (bE' (kc' (cl' (aj' (f7' C) (hr.mono (by walk_at "4")) rfl (takes_of rfl rfl rfl rfl) (aa' (ad' (pv 2)) ag'))))) (cX' (ao' fJ' sC' (nomark _) (ad' (pv 2)) ac') (cG' (ao' hn' t5' (nomark _) (ad' (pv 2)) (ad' (pv 1))))))) (af' (al' (a0' ca'))) au')))
      (af' (al' (a0' ca')))))), h6' F, F.kp, C.g_are_states⟩
theorem iz' (C : Ctx Wd.w K mg) : Og Wd.P Wd.w K mg base 3 "is_table" ["thing", "letters"] (spM K M.f_is_table) := by
  obtain ⟨fd, F⟩ := C.f_is_table
  exact ⟨fd, okM F ev' rfl rfl (fun cdv A outer s H E hr =>
    (ab' (aP' (ka' (cX' (bE' (kc' (cI' "tuple" (by decide) rfl (C.free_isinstance) (by decide +kernel) (ad' (pv 0)) (pe_bltn (v := .ty "tuple") rfl (C.free_tuple) (by decide +kernel) rfl)))) (cG' (bE' (kd' hk' t3' hk' t3' ac' (bh' (aq' ⟨rfl, rfl⟩) bx' rfl (C.free_len) (by decide +kernel) (ad' (pv 0))) ac'))))) (af' (al' (a0' ca'))) au')
      (ab' (bW' (passes_of rfl) rfl (fD' (ad' (pv 0))) (e5' 2 ev'.nd rfl (by walk_at "1") (by walk_at "2")) (af' (aP' (ka' (cX' (bE' (kc' (cl' (aj' (c6' C) (hr.mono (by walk_at "4")) rfl (takes_of rfl rfl rfl rfl) (aa' (ad' (pv 2)) (aa' (bh' (aq' ⟨rfl, rfl⟩) bx' rfl (C.free_len) (by decide +kernel) (ad' (pv 0))) ag')))))) (cG' (ao' (fI' hr.units) vM' (nomark _) (bh' (aq' ⟨rfl, rfl⟩) bx' rfl (C.free_len) (by decide +kernel) (ad' (pv 2))) (bh' (aq' ⟨rfl, rfl⟩) bx' rfl (C.free_len) (by decide +kernel) (ad' (pv 1))))))) (af' (al' (a0' ca'))) au')))
      (af' (al' (a0' ca')))))), ld' F, F.kp, C.g_is_table⟩
theorem eF' (C : Ctx Wd.w K mg) : OgM Wd.P Wd.w K mg base 1 (He.ga K "Machine") "keep" ["self", "letters", "table", "accepts"] (spM K M.f_Machine_keep) := by
  obtain ⟨fd, F⟩ := C.f_Machine_keep
  exact ⟨fd, okM F ex' rfl rfl (fun cdv A outer s H E hr =>
    (ab' (et' ["Machine"] (ad' (pv 0)) (a0' (ad' (pv 1))) C.at_kept_letters)
      (ab' (et' ["Machine"] (ad' (pv 0)) (a0' (ad' (pv 2))) C.at_kept_table)
      (ab' (et' ["Machine"] (ad' (pv 0)) (a0' (ad' (pv 3))) C.at_kept_accepts)
      (ab' (et' ["Machine"] (ad' (pv 0)) (a0' cH') C.at_kept_least)
      (ab' (et' ["Machine"] (ad' (pv 0)) (a0' cH') C.at_kept_field)
      (ab' (et' ["Machine"] (ad' (pv 0)) io' C.at_kept_lots)
      (af' (et' ["Machine"] (ad' (pv 0)) io' C.at_kept_more))))))))), fj' F⟩
theorem cR' (C : Ctx Wd.w K mg) : OgM Wd.P Wd.w K mg base 4 (He.ga K "Machine") "__init__" ["self", "letters", "table", "accepts"] (spM K M.f_Machine___init__) := by
  obtain ⟨fd, F⟩ := C.f_Machine___init__
  exact ⟨fd, okM F cN' rfl rfl (fun cdv A outer s H E hr =>
    (ab' (aP' (ka' (cX' (bE' (kc' (cl' (aj' (hs' C) (hr.mono (by walk_at "4")) rfl (takes_of rfl rfl rfl rfl) (aa' (ad' (pv 1)) (aa' (yg' (ro' rfl C.c_SMALL) fun _ _ => uv' (by decide +kernel) (by decide +kernel)) ag')))))) (cG' (bE' (kd' hk' t3' hk' t3' ac' (bh' (aq' ⟨rfl, rfl⟩) bx' rfl (C.free_len) (by decide +kernel) (ad' (pv 1))) ac'))))) (af' (es' (k := 0) rfl (takes_of rfl rfl rfl rfl) C.sup_NoMachine C.nosup C.free_super (hr.mono (by decide)) rfl C.g_NoMachine (be' [108, 101, 116, 116, 101, 114, 115] (by decide +kernel) (by decide +kernel)))) au')
      (ab' (aP' (bE' (kc' (cl' (aj' (iz' C) (hr.mono (by walk_at "4")) rfl (takes_of rfl rfl rfl rfl) (aa' (ad' (pv 2)) (aa' (ad' (pv 1)) ag')))))) (af' (es' (k := 0) rfl (takes_of rfl rfl rfl rfl) C.sup_NoMachine C.nosup C.free_super (hr.mono (by decide)) rfl C.g_NoMachine (be' [116, 97, 98, 108, 101] (by decide +kernel) (by decide +kernel)))) au')
      (ab' (aP' (ka' (cX' (bE' (kc' (cl' (aj' (c6' C) (hr.mono (by walk_at "4")) rfl (takes_of rfl rfl rfl rfl) (aa' (ad' (pv 3)) (aa' (bh' (aq' ⟨rfl, rfl⟩) bx' rfl (C.free_len) (by decide +kernel) (ad' (pv 2))) ag')))))) (cG' (bE' (kc' (cl' (aj' (cq' C) (hr.mono (by walk_at "4")) rfl (takes_of rfl rfl rfl rfl) (aa' (ad' (pv 3)) ag')))))))) (af' (es' (k := 0) rfl (takes_of rfl rfl rfl rfl) C.sup_NoMachine C.nosup C.free_super (hr.mono (by decide)) rfl C.g_NoMachine (be' [97, 99, 99, 101, 112, 116, 115] (by decide +kernel) (by decide +kernel)))) au')
      (af' (qY' (cl' (q0' (ad' (pv 0)) (eF' C) (hr.mono (by decide)) C.ml_Machine_keep (takes_of rfl rfl rfl rfl) (aa' (ad' (pv 1)) (aa' (ad' (pv 2)) (aa' (ad' (pv 3)) ag'))))))))))), do' F⟩
theorem c7' (C : Ctx Wd.w K mg) : OgM Wd.P Wd.w K mg base 1 (He.ga K "Machine") "letters" ["self"] (spM K M.f_Machine_letters) := by
  obtain ⟨fd, F⟩ := C.f_Machine_letters
  exact ⟨fd, okM F c1' rfl rfl (fun cdv A outer s H E hr =>
    (af' (al' (a0' (mF' ["Machine"] (ad' (pv 0)) C.at_kept_letters))))), dH' F⟩
theorem d2' (C : Ctx Wd.w K mg) : OgM Wd.P Wd.w K mg base 1 (He.ga K "Machine") "table" ["self"] (spM K M.f_Machine_table) := by
  obtain ⟨fd, F⟩ := C.f_Machine_table
  exact ⟨fd, okM F dZ' rfl rfl (fun cdv A outer s H E hr =>
    (af' (al' (a0' (mF' ["Machine"] (ad' (pv 0)) C.at_kept_table))))), eW' F⟩
theorem c8' (C : Ctx Wd.w K mg) : OgM Wd.P Wd.w K mg base 1 (He.ga K "Machine") "accepts" ["self"] (spM K M.f_Machine_accepts) := by
  obtain ⟨fd, F⟩ := C.f_Machine_accepts
  exact ⟨fd, okM F c2' rfl rfl (fun cdv A outer s H E hr =>
    (af' (al' (a0' (mF' ["Machine"] (ad' (pv 0)) C.at_kept_accepts))))), dI' F⟩
theorem hu' (C : Ctx Wd.w K mg) : Og Wd.P Wd.w K mg base 1 "_law_hand" ["_law_script"] (spM K M.f__law_hand) := by
  obtain ⟨fd, F⟩ := C.f__law_hand
  exact ⟨fd, okM F co' rfl rfl (fun cdv A outer s H E hr =>
    (ab' (fX' (i := 1) (own := [("_law_cell", 2)]) rfl co'.nd rfl rfl (sw_true (by rfl) (by rfl) (by rfl) (by decide +kernel)) (fD' (bF' ed' eg' (ad' (pv 0)) bJ' (bB' ac'))) (blkOk_by (own := [("_law_cell", 2)]) (N := e2') (sc := defScope aZ') (by decide +kernel)) rfl (fun _ _ _ _ _ => (e5' 2 co'.nd rfl (by walk_at "1") (by walk_at "2"))) (fun _ _ _ _ _ => ec') (fun _ _ _ _ _ => (bh' nK' xz' rfl (C.free_abs) (by decide +kernel) (bX' a9' dF' rfl (C.free_int) (by decide +kernel) (ad' (pv 2))))))
      (af' (al' (tq' (aa' (ad' (pv 1)) (aa' ac' (aa' ac' (aa' (at' am' a7' ac' (bh' (aq' ⟨rfl, rfl⟩) bx' rfl (C.free_len) (by decide +kernel) (ad' (pv 1)))) (aa' ac' ag')))))))))), i4' F, F.kp, C.g__law_hand⟩
end
end S
namespace S
open PySem PySem.Spec PyProof.Rows L2
section
variable [Wd] {K : PySem.W.Frag} {mg : Str -> Option Value} {base : Heap}
theorem ai' (C : Ctx Wd.w K mg) : Og Wd.P Wd.w K mg base 1 "_law_draw" ["_law_hand_here", "_law_many"] (spM K M.f__law_draw) := by
  obtain ⟨fd, F⟩ := C.f__law_draw
  exact ⟨fd, okM F bm' rfl rfl (fun cdv A outer s H E hr =>
    (ab' (aP' (ka' (j7' (ao' (aX' hr.units) cJ' (nomark _) (bY' (ad' (pv 0)) ac' (fun _ _ => rfl)) ac') (fV' (ao' fJ' sC' (nomark _) (bY' (ad' (pv 0)) ac' (fun _ _ => rfl)) (bh' (aq' ⟨rfl, rfl⟩) bx' rfl (C.free_len) (by decide +kernel) (bY' (ad' (pv 0)) ac' (fun _ _ => rfl))))))) (ab' (ap' (i := 2) bm'.nd rfl (by walk_at "1") (a0' (cF' ix_seq hv' (bY' (ad' (pv 0)) ac' (fun _ _ => rfl)) (bY' (ad' (pv 0)) ac' (fun _ _ => rfl)) (fun _ _ => rfl))))
      (ab' (er' (at' am' a7' (bY' (ad' (pv 0)) ac' (fun _ _ => rfl)) ac') (ad' (pv 0)) ac')
      (ab' (er' (at' op_mod c9' (bX' a9' dF' rfl (C.free_int) (by decide +kernel) (at' am' a7' (at' am' a7' (at' eD' m3' (bY' (ad' (pv 0)) ac' (fun _ _ => rfl)) ac') (ad' (pv 2))) ac')) ac') (ad' (pv 0)) ac')
      (af' (aP' (ao' hn' t5' (nomark _) (ad' (pv 2)) (at' op_pow wz' ac' ac')) (af' (er' (ad' (pv 2)) (ad' (pv 0)) ac')) au'))))) au')
      (ab' (aP' (ao' hm' t4' (nomark _) (bY' (ad' (pv 0)) ac' (fun _ _ => rfl)) ac') (ab' (ap' (i := 3) bm'.nd rfl (by walk_at "1") (a0' (at' op_mod c9' (bX' a9' dF' rfl (C.free_int) (by decide +kernel) (bY' (ad' (pv 0)) ac' (fun _ _ => rfl))) (ad' (pv 1)))))
      (ab' (er' (at' op_fdivW fL' (bY' (ad' (pv 0)) ac' (fun _ _ => rfl)) (ad' (pv 1))) (ad' (pv 0)) ac')
      (af' (al' (vD' (pv 3)))))) au')
      (ab' (er' (at' am' a7' (bY' (ad' (pv 0)) ac' (fun _ _ => rfl)) ac') (ad' (pv 0)) ac')
      (ab' (ap' (i := 4) bm'.nd rfl (by walk_at "1") (a0' (at' op_mod c9' (bX' a9' dF' rfl (C.free_int) (by decide +kernel) (at' eD' m3' (bX' a9' dF' rfl (C.free_int) (by decide +kernel) (at' am' a7' (bY' (ad' (pv 0)) ac' (fun _ _ => rfl)) (at' eD' m3' ac' (bY' (ad' (pv 0)) ac' (fun _ _ => rfl))))) ac')) ac')))
      (ab' (ap' (i := 4) bm'.nd rfl (by walk_at "1") (a0' (at' op_mod c9' (bX' a9' dF' rfl (C.free_int) (by decide +kernel) (at' eD' m3' (ad' (pv 4)) (at' am' a7' (at' op_fdivW fL' (ad' (pv 4)) ac') ac'))) ac')))
      (ab' (ap' (i := 4) bm'.nd rfl (by walk_at "1") (a0' (at' op_mod c9' (bX' a9' dF' rfl (C.free_int) (by decide +kernel) (at' eD' m3' (ad' (pv 4)) (at' am' a7' (at' op_fdivW fL' (ad' (pv 4)) ac') ac'))) ac')))
      (af' (al' (a0' (at' op_mod c9' (bX' a9' dF' rfl (C.free_int) (by decide +kernel) (at' op_fdivW fL' (ad' (pv 4)) ac')) (ad' (pv 1))))))))))))), i5' F, F.kp, C.g__law_draw⟩
theorem cr' (C : Ctx Wd.w K mg) : Og Wd.P Wd.w K mg base 2 "_law_letters" ["_law_hand_here", "_law_signs_here", "_law_many"] (spM K M.f__law_letters) := by
  obtain ⟨fd, F⟩ := C.f__law_letters
  exact ⟨fd, okM F aY' rfl rfl (fun cdv A outer s H E hr =>
    (ab' (ap' (i := 3) aY'.nd rfl (by walk_at "1") (a0' (ad' (pv 1))))
      (ab' (ap' (i := 4) aY'.nd rfl (by walk_at "1") (a0' (be' [] (by decide +kernel) (by decide +kernel))))
      (ab' (bW' (passes_of rfl) rfl (bi' rfl (C.free_range) (ad' (pv 2))) (e5' 5 aY'.nd rfl (by walk_at "1") (by walk_at "2")) (ab' (ap' (i := 6) aY'.nd rfl (by walk_at "1") (aj' (ai' C) (hr.mono (by walk_at "4")) rfl (takes_of rfl rfl rfl rfl) (aa' (ad' (pv 0)) (aa' (bh' (aq' ⟨rfl, rfl⟩) bx' rfl (C.free_len) (by decide +kernel) (ad' (pv 3))) ag'))))
      (ab' (ap' (i := 4) aY'.nd rfl (by walk_at "1") (a0' (at' am' a7' (ad' (pv 4)) (cF' ix_seq hv' (ad' (pv 3)) (ad' (pv 6)) (fun _ _ => rfl)))))
      (af' (ap' (i := 3) aY'.nd rfl (by walk_at "1") (a0' (at' am' a7' (bF' ed' eg' (ad' (pv 3)) bJ' (bB' (ad' (pv 6)))) (bF' ed' eg' (ad' (pv 3)) (bB' (at' am' a7' (ad' (pv 6)) ac')) bJ'))))))))
      (af' (al' (vD' (pv 4)))))))), fi' F, F.kp, C.g__law_letters⟩
theorem d0' (C : Ctx Wd.w K mg) : Og Wd.P Wd.w K mg base 2 "_law_shuffled" ["_law_hand_here", "_law_things"] (spM K M.f__law_shuffled) := by
  obtain ⟨fd, F⟩ := C.f__law_shuffled
  exact ⟨fd, okM F bj' rfl rfl (fun cdv A outer s H E hr =>
    (ab' (ap' (i := 2) bj'.nd rfl (by walk_at "1") (qZ' (b8' rfl) oZ' rfl (C.free_list) (by decide +kernel) (ad' (pv 1))))
      (ab' (ap' (i := 3) bj'.nd rfl (by walk_at "1") (mA' ag'))
      (ab' (bW' (passes_of rfl) rfl (bi' rfl (C.free_range) (bh' (aq' ⟨rfl, rfl⟩) bx' rfl (C.free_len) (by decide +kernel) (ad' (pv 1)))) (e5' 4 bj'.nd rfl (by walk_at "1") (by walk_at "2")) (af' (mz' (pv 3) (a0' (oA' (pv 2) (cl' (aj' (ai' C) (hr.mono (by walk_at "4")) rfl (takes_of rfl rfl rfl rfl) (aa' (ad' (pv 0)) (aa' (q7' ⟨rfl, rfl⟩ rfl (C.free_len) (by decide +kernel) (pv 2)) ag')))))))))
      (af' (al' (vD' (pv 3)))))))), eU' F, F.kp, C.g__law_shuffled⟩
theorem ht' (C : Ctx Wd.w K mg) : Og Wd.P Wd.w K mg base 3 "_law_rows" ["_law_hand_here", "_law_kind", "_law_size", "_law_many"] (spM K M.f__law_rows) := by
  obtain ⟨fd, F⟩ := C.f__law_rows
  exact ⟨fd, okM F ak' rfl rfl (fun cdv A outer s H E hr =>
    (ab' (ap' (i := 4) ak'.nd rfl (by walk_at "1") (mA' ag'))
      (ab' (fX' (i := 5) (own := [("_law_letter", 9)]) rfl ak'.nd rfl rfl (sw_true (by rfl) (by rfl) (by rfl) (by decide +kernel)) (bi' rfl (C.free_range) (ad' (pv 3))) (blkOk_by (own := [("_law_letter", 9)]) (N := cV') (sc := defScope aS') (by decide +kernel)) rfl (fun _ _ _ _ _ => (e5' 9 ak'.nd rfl (by walk_at "1") (by walk_at "2"))) (fun _ _ _ _ _ => ec') (fun _ _ _ _ _ => (cl' (aj' (ai' C) (hr.mono (by walk_at "4")) rfl eb' (aa' (ad' (pv 0)) (aa' (ad' (pv 2)) ag'))))))
      (ab' (fX' (i := 6) (own := [("_law_letter", 9)]) rfl ak'.nd rfl rfl (sw_true (by rfl) (by rfl) (by rfl) (by decide +kernel)) (bi' rfl (C.free_range) (ad' (pv 3))) (blkOk_by (own := [("_law_letter", 9)]) (N := cV') (sc := defScope aS') (by decide +kernel)) rfl (fun _ _ _ _ _ => (e5' 9 ak'.nd rfl (by walk_at "1") (by walk_at "2"))) (fun _ _ _ _ _ => ec') (fun _ _ _ _ _ => (cl' (aj' (d0' C) (hr.mono (by walk_at "4")) rfl eb' (aa' (ad' (pv 0)) (aa' (cl' (kQ' rfl rfl (C.free_list) rfl (C.free_range) (ad' (pv 2)))) ag'))))))
      (ab' (bW' (passes_of rfl) rfl (bi' rfl (C.free_range) (ad' (pv 2))) (e5' 7 ak'.nd rfl (by walk_at "1") (by walk_at "2")) (ab' (ap' (i := 8) ak'.nd rfl (by walk_at "1") (mA' ag'))
      (ab' (bW' (passes_of rfl) rfl (bi' rfl (C.free_range) (ad' (pv 3))) (e5' 9 ak'.nd rfl (by walk_at "1") (by walk_at "2")) (ab' (ap' (i := 10) ak'.nd rfl (by walk_at "1") (aj' (ai' C) (hr.mono (by walk_at "4")) rfl (takes_of rfl rfl rfl rfl) (aa' (ad' (pv 0)) (aa' (ad' (pv 2)) ag'))))
      (ab' (aP' (ao' (aX' hr.units) cJ' (nomark _) (ad' (pv 1)) ac') (af' (ap' (i := 10) ak'.nd rfl (by walk_at "1") (a0' (at' op_mod c9' (bX' a9' dF' rfl (C.free_int) (by decide +kernel) (at' am' a7' (ad' (pv 7)) (cF' ix_seq hv' (ad' (pv 5)) (ad' (pv 9)) (fun _ _ => rfl)))) (ad' (pv 2)))))) au')
      (ab' (aP' (ao' (aX' hr.units) cJ' (nomark _) (ad' (pv 1)) ac') (af' (ap' (i := 10) ak'.nd rfl (by walk_at "1") (a0' (ip' (dE' rfl) nM' rfl (C.free_min) (by decide +kernel) (at' op_sub e8' (ad' (pv 2)) ac') (at' am' a7' (ad' (pv 7)) (cF' ix_seq hv' (ad' (pv 5)) (ad' (pv 9)) (fun _ _ => rfl))))))) au')
      (ab' (aP' (ao' (aX' hr.units) cJ' (nomark _) (ad' (pv 1)) ac') (ab' (ap' (i := 10) ak'.nd rfl (by walk_at "1") (a0' (ad' (pv 7))))
      (af' (aP' (ao' (aX' hr.units) cJ' (nomark _) (ad' (pv 7)) ac') (af' (ap' (i := 10) ak'.nd rfl (by walk_at "1") (a0' (at' op_mod c9' (bX' a9' dF' rfl (C.free_int) (by decide +kernel) (at' am' a7' ac' (ad' (pv 9)))) (ad' (pv 2)))))) au'))) au')
      (ab' (aP' (ao' (aX' hr.units) cJ' (nomark _) (ad' (pv 1)) ac') (af' (ap' (i := 10) ak'.nd rfl (by walk_at "1") (a0' (at' op_mod c9' (bX' a9' dF' rfl (C.free_int) (by decide +kernel) (at' am' a7' ac' (ad' (pv 9)))) (ad' (pv 2)))))) au')
      (ab' (aP' (ao' (aX' hr.units) cJ' (nomark _) (ad' (pv 1)) ac') (af' (ap' (i := 10) ak'.nd rfl (by walk_at "1") (a0' (ip' (dE' rfl) nM' rfl (C.free_min) (by decide +kernel) (at' op_sub e8' (ad' (pv 2)) ac') (at' am' a7' (ad' (pv 7)) (bX' a9' dF' rfl (C.free_int) (by decide +kernel) (g6' (aX' hr.units) cJ' (nomark _) (at' op_mod c9' (ad' (pv 7)) (ad' (pv 3))) (ad' (pv 9))))))))) au')
      (ab' (aP' (ao' (aX' hr.units) cJ' (nomark _) (ad' (pv 1)) ac') (ab' (ap' (i := 10) ak'.nd rfl (by walk_at "1") (a0' (at' op_sub e8' (ad' (pv 2)) ac')))
      (af' (aP' (ka' (j7' (ao' fJ' sC' (nomark _) (ad' (pv 7)) (at' op_sub e8' (ad' (pv 2)) ac')) (fV' (ao' (aX' hr.units) cJ' (nomark _) (at' op_mod c9' (ad' (pv 7)) (ad' (pv 3))) (ad' (pv 9)))))) (af' (ap' (i := 10) ak'.nd rfl (by walk_at "1") (a0' (at' op_mod c9' (bX' a9' dF' rfl (C.free_int) (by decide +kernel) (at' am' a7' (ad' (pv 7)) ac')) (at' op_sub e8' (ad' (pv 2)) ac'))))) au'))) au')
      (ab' (aP' (ao' (aX' hr.units) cJ' (nomark _) (ad' (pv 1)) ac') (af' (ap' (i := 10) ak'.nd rfl (by walk_at "1") (a0' (cF' ix_seq hv' (cF' ix_seq hv' (ad' (pv 6)) (ad' (pv 9)) (fun _ _ => rfl)) (ad' (pv 7)) (fun _ _ => rfl))))) au')
      (af' (mz' (pv 8) (a0' (ad' (pv 10))))))))))))))
      (af' (mz' (pv 4) (a0' (bX' (cU' rfl) i0' rfl (C.free_tuple) (by decide +kernel) (ad' (pv 8)))))))))
      (af' (al' (a0' (bX' (cU' rfl) i0' rfl (C.free_tuple) (by decide +kernel) (ad' (pv 4))))))))))), i3' F, F.kp, C.g__law_rows⟩
theorem f9' (C : Ctx Wd.w K mg) : Og Wd.P Wd.w K mg base 4 "_law_parts" ["_law_hand_here", "_law_most", "_law_states"] (spM K M.f__law_parts) := by
  obtain ⟨fd, F⟩ := C.f__law_parts
  exact ⟨fd, okM F aK' rfl rfl (fun cdv A outer s H E hr =>
    (ab' (ap' (i := 3) aK'.nd rfl (by walk_at "1") (aj' (ai' C) (hr.mono (by walk_at "4")) rfl (takes_of rfl rfl rfl rfl) (aa' (ad' (pv 0)) (aa' ac' ag'))))
      (ab' (ap' (i := 4) aK'.nd rfl (by walk_at "1") (a0' (at' am' a7' ac' (cl' (aj' (ai' C) (hr.mono (by walk_at "4")) rfl (takes_of rfl rfl rfl rfl) (aa' (ad' (pv 0)) (aa' (ad' (pv 1)) ag')))))))
      (ab' (ap' (i := 5) aK'.nd rfl (by walk_at "1") (a0' (at' am' a7' ac' (cl' (aj' (ai' C) (hr.mono (by walk_at "4")) rfl (takes_of rfl rfl rfl rfl) (aa' (ad' (pv 0)) (aa' (ad' (pv 2)) ag')))))))
      (ab' (aP' (ao' hm' t4' (nomark _) (ad' (pv 3)) ac') (ab' (ap' (i := 5) aK'.nd rfl (by walk_at "1") (a0' (ip' (cD' rfl) kz' rfl (C.free_max) (by decide +kernel) ac' (ad' (pv 5)))))
      (af' (ap' (i := 4) aK'.nd rfl (by walk_at "1") (a0' (ip' (cD' rfl) kz' rfl (C.free_max) (by decide +kernel) (ip' (dE' rfl) nM' rfl (C.free_min) (by decide +kernel) ac' (ad' (pv 1))) (ad' (pv 4))))))) au')
      (ab' (ap' (i := 6) aK'.nd rfl (by walk_at "1") (a0' (tt' PySem.F.slot_str_join PySem.F.type_str_join mt_join qk' (be' [] (by decide +kernel) (by decide +kernel)) (aa' (bh' (fN' rfl) ky' rfl (C.free_sorted) (by decide +kernel) (cl' (aj' (cr' C) (hr.mono (by walk_at "4")) rfl (takes_of rfl rfl rfl rfl) (aa' (ad' (pv 0)) (aa' (be' [97, 98, 99, 100, 101, 102, 103, 104, 105, 106, 107, 108, 109, 110, 111, 112, 113, 114, 115, 116, 117, 118, 119, 120, 121, 122] (by decide +kernel) (by decide +kernel)) (aa' (ad' (pv 4)) ag')))))) ag'))))
      (ab' (ap' (i := 7) aK'.nd rfl (by walk_at "1") (aj' (ht' C) (hr.mono (by walk_at "4")) rfl (takes_of rfl rfl rfl rfl) (aa' (ad' (pv 0)) (aa' (ad' (pv 3)) (aa' (ad' (pv 5)) (aa' (ad' (pv 4)) ag'))))))
      (ab' (ap' (i := 8) aK'.nd rfl (by walk_at "1") (a0' (bX' (cU' rfl) i0' rfl (C.free_tuple) (by decide +kernel) (tu' (own := [("_law_state", 9)]) rfl aK'.nd (bi' rfl (C.free_range) (ad' (pv 5))) (blkOk_by (own := [("_law_state", 9)]) (N := dW') (sc := defScope aN') (by decide +kernel)) rfl (fun _ _ _ _ _ => (e5' 9 aK'.nd rfl (by walk_at "1") (by walk_at "2"))) (fun _ _ _ _ _ => (ot' (ao' (aX' hr.units) cJ' (nomark _) (cl' (aj' (ai' C) (hr.mono (by walk_at "4")) rfl eb' (aa' (ad' (pv 0)) (aa' ac' ag')))) ac'))) (fun _ _ _ _ _ => (ad' (pv 9)))))))
      (af' (al' (a0' (eu' (aa' (ad' (pv 6)) (aa' (ad' (pv 7)) (aa' (ad' (pv 8)) ag'))))))))))))))), h8' F, F.kp, C.g__law_parts⟩
theorem cP' (C : Ctx Wd.w K mg) : Og Wd.P Wd.w K mg base 2 "_law_odd" ["_law_hand_here"] (spM K M.f__law_odd) := by
  obtain ⟨fd, F⟩ := C.f__law_odd
  exact ⟨fd, okM F ew' rfl rfl (fun cdv A outer s H E hr =>
    (ab' (ap' (i := 1) ew'.nd rfl (by walk_at "1") (a0' (cZ' (aa' cH' (aa' ca' (aa' ca' (aa' ac' (aa' (ts' un_neg t0' ac') (aa' ac' (aa' (be' [] (by decide +kernel) (by decide +kernel)) (aa' (be' [63] (by decide +kernel) (by decide +kernel)) (aa' (be' [65] (by decide +kernel) (by decide +kernel)) (aa' (cZ' ag') (aa' (eu' ag') (aa' (cl' io') (aa' (cZ' (aa' (be' [97] (by decide +kernel) (by decide +kernel)) ag')) (aa' (eu' (aa' (be' [97] (by decide +kernel) (by decide +kernel)) ag')) (aa' (cl' (mB' (be' [97] (by decide +kernel) (by decide +kernel)) ac')) (aa' (cZ' (aa' (cZ' (aa' ac' ag')) ag')) ag')))))))))))))))))))
      (af' (al' (a0' (cF' ix_seq hv' (ad' (pv 1)) (cl' (aj' (ai' C) (hr.mono (by walk_at "4")) rfl (takes_of rfl rfl rfl rfl) (aa' (ad' (pv 0)) (aa' ac' ag')))) (fun _ _ => rfl))))))), le' F, F.kp, C.g__law_odd⟩
theorem f8' (C : Ctx Wd.w K mg) : Og Wd.P Wd.w K mg base 2 "_law_signs" ["_law_hand_here", "_law_many"] (spM K M.f__law_signs) := by
  obtain ⟨fd, F⟩ := C.f__law_signs
  exact ⟨fd, okM F bq' rfl rfl (fun cdv A outer s H E hr =>
    (ab' (ap' (i := 2) bq'.nd rfl (by walk_at "1") (a0' (be' [32, 33, 34, 35, 36, 38, 39, 40, 41, 42, 43, 44, 45, 46, 47, 48, 49, 50, 51, 52, 53, 54, 55, 56, 57, 58, 59, 60, 61, 62, 63, 64, 65, 66, 67, 68, 69, 70, 71, 72, 73, 74, 75, 76, 77, 78, 79, 80, 81, 82, 83, 84, 85, 86, 87, 88, 89, 90, 91, 93, 94, 95, 97, 98, 99, 100, 101, 102, 103, 104, 105, 106, 107, 108, 109, 110, 111, 112, 113, 114, 115, 116, 117, 118, 119, 120, 121, 122, 123, 124, 125, 126, 10] (by decide +kernel) (by decide +kernel))))
      (ab' (ap' (i := 3) bq'.nd rfl (by walk_at "1") (a0' (be' [] (by decide +kernel) (by decide +kernel))))
      (ab' (bW' (passes_of rfl) rfl (bi' rfl (C.free_range) (ad' (pv 1))) (e5' 4 bq'.nd rfl (by walk_at "1") (by walk_at "2")) (af' (ap' (i := 3) bq'.nd rfl (by walk_at "1") (a0' (at' am' a7' (ad' (pv 3)) (cF' ix_seq hv' (ad' (pv 2)) (cl' (aj' (ai' C) (hr.mono (by walk_at "4")) rfl (takes_of rfl rfl rfl rfl) (aa' (ad' (pv 0)) (aa' (bh' (aq' ⟨rfl, rfl⟩) bx' rfl (C.free_len) (by decide +kernel) (ad' (pv 2))) ag')))) (fun _ _ => rfl)))))))
      (af' (al' (vD' (pv 3)))))))), h7' F, F.kp, C.g__law_signs⟩
theorem d1' (C : Ctx Wd.w K mg) : Og Wd.P Wd.w K mg base 1 "_law_is_whole" ["_law_thing"] (spM K M.f__law_is_whole) := by
  obtain ⟨fd, F⟩ := C.f__law_is_whole
  exact ⟨fd, okM F dY' rfl rfl (fun cdv A outer s H E hr =>
    (af' (al' (a0' (g7' (cI' "int" (by decide) rfl (C.free_isinstance) (by decide +kernel) (ad' (pv 0)) (pe_bltn (v := .ty "int") rfl (C.free_int) (by decide +kernel) rfl)) (kf' (p9' (cI' "bool" (by decide) rfl (C.free_isinstance) (by decide +kernel) (ad' (pv 0)) (pe_bltn (v := .ty "bool") rfl (C.free_bool) (by decide +kernel) rfl))))))))), eV' F, F.kp, C.g__law_is_whole⟩
theorem b0' (C : Ctx Wd.w K mg) : Og Wd.P Wd.w K mg base 2 "_law_is_states" ["_law_thing", "_law_many"] (spM K M.f__law_is_states) := by
  obtain ⟨fd, F⟩ := C.f__law_is_states
  exact ⟨fd, okM F bu' rfl rfl (fun cdv A outer s H E hr =>
    (ab' (aP' (bE' (kc' (cI' "tuple" (by decide) rfl (C.free_isinstance) (by decide +kernel) (ad' (pv 0)) (pe_bltn (v := .ty "tuple") rfl (C.free_tuple) (by decide +kernel) rfl)))) (af' (al' (a0' ca'))) au')
      (af' (al' (a0' (bh' (cr_all rfl) xy' rfl (C.free_all) (by decide +kernel) (tu' (own := [("_law_state", 2)]) rfl bu'.nd (fD' (ad' (pv 0))) (blkOk_by (own := [("_law_state", 2)]) (N := cj') (sc := defScope av') (by decide +kernel)) rfl (fun _ _ _ _ _ => (e5' 2 bu'.nd rfl (by walk_at "1") (by walk_at "2"))) (fun _ _ _ _ _ => ec') (fun _ _ _ _ _ => (g7' (cl' (aj' (d1' C) (hr.mono (by walk_at "4")) rfl eb' (aa' (ad' (pv 2)) ag'))) (g7' (g6' hk' t3' (nomark _) ac' (ad' (pv 2))) (kf' (g6' fJ' sC' (nomark _) (ad' (pv 2)) (ad' (pv 1)))))))))))))), d4' F, F.kp, C.g__law_is_states⟩
theorem ga' (C : Ctx Wd.w K mg) : Og Wd.P Wd.w K mg base 3 "_law_fault" ["_law_letters_here", "_law_table", "_law_accepts"] (spM K M.f__law_fault) := by
  obtain ⟨fd, F⟩ := C.f__law_fault
  exact ⟨fd, okM F bG' rfl rfl (fun cdv A outer s H E hr =>
    (ab' (aP' (ka' (cX' (bE' (kc' (cI' "str" (by decide) rfl (C.free_isinstance) (by decide +kernel) (ad' (pv 0)) (pe_bltn (v := .ty "str") rfl (C.free_str) (by decide +kernel) rfl)))) (cX' (ao' fJ' sC' (nomark _) (bh' (aq' ⟨rfl, rfl⟩) bx' rfl (C.free_len) (by decide +kernel) (ad' (pv 0))) ac') (cG' (ao' hm' t4' (nomark _) (bh' (aq' ⟨rfl, rfl⟩) bx' rfl (C.free_len) (by decide +kernel) (ad' (pv 0))) ac'))))) (af' (al' (a0' (be' [108, 101, 116, 116, 101, 114, 115] (by decide +kernel) (by decide +kernel))))) au')
      (ab' (bW' (passes_of rfl) rfl (bi' rfl (C.free_range) (bh' (aq' ⟨rfl, rfl⟩) bx' rfl (C.free_len) (by decide +kernel) (ad' (pv 0)))) (e5' 3 bG'.nd rfl (by walk_at "1") (by walk_at "2")) (af' (aP' (ka' (cX' (ao' hi' m2' (by rfl) (cF' ix_seq hv' (ad' (pv 0)) (ad' (pv 3)) (fun _ _ => rfl)) (bX' (b8' rfl) kA' rfl (C.free_list) (by decide +kernel) (be' [97, 98, 99, 100, 101, 102, 103, 104, 105, 106, 107, 108, 109, 110, 111, 112, 113, 114, 115, 116, 117, 118, 119, 120, 121, 122] (by decide +kernel) (by decide +kernel)))) (cG' (ka' (j7' (ao' hm' t4' (nomark _) (ad' (pv 3)) ac') (fV' (ao' hn' t5' (nomark _) (cF' ix_seq hv' (ad' (pv 0)) (at' op_sub e8' (ad' (pv 3)) ac') (fun _ _ => rfl)) (cF' ix_seq hv' (ad' (pv 0)) (ad' (pv 3)) (fun _ _ => rfl))))))))) (af' (al' (a0' (be' [108, 101, 116, 116, 101, 114, 115] (by decide +kernel) (by decide +kernel))))) au')))
      (ab' (aP' (ka' (cX' (bE' (kc' (cI' "tuple" (by decide) rfl (C.free_isinstance) (by decide +kernel) (ad' (pv 1)) (pe_bltn (v := .ty "tuple") rfl (C.free_tuple) (by decide +kernel) rfl)))) (cX' (ao' fJ' sC' (nomark _) (bh' (aq' ⟨rfl, rfl⟩) bx' rfl (C.free_len) (by decide +kernel) (ad' (pv 1))) ac') (cG' (ao' hm' t4' (nomark _) (bh' (aq' ⟨rfl, rfl⟩) bx' rfl (C.free_len) (by decide +kernel) (ad' (pv 1))) ac'))))) (af' (al' (a0' (be' [116, 97, 98, 108, 101] (by decide +kernel) (by decide +kernel))))) au')
      (ab' (bW' (passes_of rfl) rfl (fD' (ad' (pv 1))) (e5' 4 bG'.nd rfl (by walk_at "1") (by walk_at "2")) (af' (aP' (ka' (cX' (bE' (kc' (cl' (aj' (b0' C) (hr.mono (by walk_at "4")) rfl (takes_of rfl rfl rfl rfl) (aa' (ad' (pv 4)) (aa' (bh' (aq' ⟨rfl, rfl⟩) bx' rfl (C.free_len) (by decide +kernel) (ad' (pv 1))) ag')))))) (cG' (ao' (fI' hr.units) vM' (nomark _) (bh' (aq' ⟨rfl, rfl⟩) bx' rfl (C.free_len) (by decide +kernel) (ad' (pv 4))) (bh' (aq' ⟨rfl, rfl⟩) bx' rfl (C.free_len) (by decide +kernel) (ad' (pv 0))))))) (af' (al' (a0' (be' [116, 97, 98, 108, 101] (by decide +kernel) (by decide +kernel))))) au')))
      (ab' (aP' (bE' (kc' (cl' (aj' (b0' C) (hr.mono (by walk_at "4")) rfl (takes_of rfl rfl rfl rfl) (aa' (ad' (pv 2)) (aa' (bh' (aq' ⟨rfl, rfl⟩) bx' rfl (C.free_len) (by decide +kernel) (ad' (pv 1))) ag')))))) (af' (al' (a0' (be' [97, 99, 99, 101, 112, 116, 115] (by decide +kernel) (by decide +kernel))))) au')
      (ab' (bW' (passes_of rfl) rfl (mC' rfl (C.free_range) ac' (bh' (aq' ⟨rfl, rfl⟩) bx' rfl (C.free_len) (by decide +kernel) (ad' (pv 2)))) (e5' 3 bG'.nd rfl (by walk_at "1") (by walk_at "2")) (af' (aP' (ao' hn' t5' (nomark _) (cF' ix_seq hv' (ad' (pv 2)) (at' op_sub e8' (ad' (pv 3)) ac') (fun _ _ => rfl)) (cF' ix_seq hv' (ad' (pv 2)) (ad' (pv 3)) (fun _ _ => rfl))) (af' (al' (a0' (be' [97, 99, 99, 101, 112, 116, 115] (by decide +kernel) (by decide +kernel))))) au')))
      (af' (al' (a0' cH')))))))))), h9' F, F.kp, C.g__law_fault⟩
theorem cQ' (C : Ctx Wd.w K mg) : Og Wd.P Wd.w K mg base 3 "_law_bad_letters" ["_law_hand_here", "_law_letters_here"] (spM K M.f__law_bad_letters) := by
  obtain ⟨fd, F⟩ := C.f__law_bad_letters
  exact ⟨fd, okM F bk' rfl rfl (fun cdv A outer s H E hr =>
    (ab' (ap' (i := 2) bk'.nd rfl (by walk_at "1") (aj' (ai' C) (hr.mono (by walk_at "4")) rfl (takes_of rfl rfl rfl rfl) (aa' (ad' (pv 0)) (aa' ac' ag'))))
      (ab' (ap' (i := 3) bk'.nd rfl (by walk_at "1") (aj' (ai' C) (hr.mono (by walk_at "4")) rfl (takes_of rfl rfl rfl rfl) (aa' (ad' (pv 0)) (aa' (at' am' a7' (bh' (aq' ⟨rfl, rfl⟩) bx' rfl (C.free_len) (by decide +kernel) (ad' (pv 1))) ac') ag'))))
      (ab' (aP' (ao' (aX' hr.units) cJ' (nomark _) (ad' (pv 2)) ac') (af' (al' (aj' (cP' C) (hr.mono (by walk_at "4")) rfl (takes_of rfl rfl rfl rfl) (aa' (ad' (pv 0)) ag')))) au')
      (ab' (aP' (ao' (aX' hr.units) cJ' (nomark _) (ad' (pv 2)) ac') (af' (al' (a0' (q6' (ad' (pv 1)))))) au')
      (ab' (aP' (ao' (aX' hr.units) cJ' (nomark _) (ad' (pv 2)) ac') (af' (al' (a0' (at' am' a7' (bF' ed' eg' (ad' (pv 1)) bJ' (bB' (ad' (pv 3)))) (bF' ed' eg' (ad' (pv 1)) (bB' (ip' (cD' rfl) kz' rfl (C.free_max) (by decide +kernel) ac' (at' op_sub e8' (ad' (pv 3)) ac'))) bJ'))))) au')
      (ab' (aP' (ao' (aX' hr.units) cJ' (nomark _) (ad' (pv 2)) ac') (af' (al' (a0' (at' am' a7' (at' am' a7' (bF' ed' eg' (ad' (pv 1)) bJ' (bB' (ad' (pv 3)))) (cl' (aj' (f8' C) (hr.mono (by walk_at "4")) rfl (takes_of rfl rfl rfl rfl) (aa' (ad' (pv 0)) (aa' ac' ag'))))) (bF' ed' eg' (ad' (pv 1)) (bB' (ad' (pv 3))) bJ'))))) au')
      (ab' (aP' (ao' (aX' hr.units) cJ' (nomark _) (ad' (pv 2)) ac') (af' (al' (a0' (tt' PySem.F.slot_str_join PySem.F.type_str_join mt_join qk' (be' [] (by decide +kernel) (by decide +kernel)) (aa' (bh' (fN' rfl) ky' rfl (C.free_sorted) (by decide +kernel) (cl' (aj' (cr' C) (hr.mono (by walk_at "4")) rfl (takes_of rfl rfl rfl rfl) (aa' (ad' (pv 0)) (aa' (be' [97, 98, 99, 100, 101, 102, 103, 104, 105, 106, 107, 108, 109, 110, 111, 112, 113, 114, 115, 116, 117, 118, 119, 120, 121, 122] (by decide +kernel) (by decide +kernel)) (aa' (at' am' a7' ac' (cl' (aj' (ai' C) (hr.mono (by walk_at "4")) rfl (takes_of rfl rfl rfl rfl) (aa' (ad' (pv 0)) (aa' ac' ag'))))) ag')))))) ag'))))) au')
      (ab' (aP' (ao' (aX' hr.units) cJ' (nomark _) (ad' (pv 2)) ac') (af' (al' (a0' (bX' (b8' rfl) kA' rfl (C.free_list) (by decide +kernel) (ad' (pv 1)))))) au')
      (ab' (aP' (ao' (aX' hr.units) cJ' (nomark _) (ad' (pv 2)) ac') (af' (al' (a0' (at' am' a7' (bF' ed' eg' (ad' (pv 1)) bJ' (bB' (ad' (pv 3)))) (oz' (bF' ed' eg' (ad' (pv 1)) (bB' (ad' (pv 3))) bJ')))))) au')
      (af' (al' (a0' (bF' ed' eg' (ad' (pv 1)) bJ' (bB' (ad' (pv 3))))))))))))))))), dn' F, F.kp, C.g__law_bad_letters⟩
theorem bP' (C : Ctx Wd.w K mg) : Og Wd.P Wd.w K mg base 3 "_law_bad_states" ["_law_hand_here", "_law_states", "_law_many"] (spM K M.f__law_bad_states) := by
  obtain ⟨fd, F⟩ := C.f__law_bad_states
  exact ⟨fd, okM F bf' rfl rfl (fun cdv A outer s H E hr =>
    (ab' (ap' (i := 3) bf'.nd rfl (by walk_at "1") (aj' (ai' C) (hr.mono (by walk_at "4")) rfl (takes_of rfl rfl rfl rfl) (aa' (ad' (pv 0)) (aa' ac' ag'))))
      (ab' (ap' (i := 4) bf'.nd rfl (by walk_at "1") (aj' (ai' C) (hr.mono (by walk_at "4")) rfl (takes_of rfl rfl rfl rfl) (aa' (ad' (pv 0)) (aa' (at' am' a7' (bh' (aq' ⟨rfl, rfl⟩) bx' rfl (C.free_len) (by decide +kernel) (ad' (pv 1))) ac') ag'))))
      (ab' (aP' (ao' (aX' hr.units) cJ' (nomark _) (ad' (pv 3)) ac') (af' (al' (aj' (cP' C) (hr.mono (by walk_at "4")) rfl (takes_of rfl rfl rfl rfl) (aa' (ad' (pv 0)) ag')))) au')
      (ab' (aP' (ao' (aX' hr.units) cJ' (nomark _) (ad' (pv 3)) ac') (af' (al' (a0' (bX' (b8' rfl) kA' rfl (C.free_list) (by decide +kernel) (ad' (pv 1)))))) au')
      (ab' (aP' (ao' (aX' hr.units) cJ' (nomark _) (ad' (pv 3)) ac') (af' (al' (a0' (at' am' a7' (bF' ed' eg' (ad' (pv 1)) bJ' (bB' (ad' (pv 4)))) (bF' ed' eg' (ad' (pv 1)) (bB' (at' am' a7' (ad' (pv 4)) ac')) bJ'))))) au')
      (ab' (aP' (ao' (aX' hr.units) cJ' (nomark _) (ad' (pv 3)) ac') (af' (al' (a0' (at' am' a7' (bF' ed' eg' (ad' (pv 1)) bJ' (bB' (ad' (pv 4)))) (bF' ed' eg' (ad' (pv 1)) (bB' (ip' (cD' rfl) kz' rfl (C.free_max) (by decide +kernel) ac' (at' op_sub e8' (ad' (pv 4)) ac'))) bJ'))))) au')
      (ab' (aP' (ao' (aX' hr.units) cJ' (nomark _) (ad' (pv 3)) ac') (af' (al' (a0' (q5' (ad' (pv 1)))))) au')
      (ab' (ap' (i := 5) bf'.nd rfl (by walk_at "1") (a0' (cZ' (aa' (ad' (pv 2)) (aa' (ts' un_neg t0' ac') (aa' (at' op_sub e8' (ad' (pv 2)) ac') (aa' ca' (aa' ca' (aa' cH' (aa' (be' [48] (by decide +kernel) (by decide +kernel)) (aa' (eu' (aa' ac' ag')) (aa' ac' (aa' (at' am' a7' (ad' (pv 2)) ac') ag')))))))))))))
      (ab' (aP' (ao' (aX' hr.units) cJ' (nomark _) (ad' (pv 3)) ac') (af' (al' (a0' (at' am' a7' (at' am' a7' (bF' ed' eg' (ad' (pv 1)) bJ' (bB' (ad' (pv 4)))) (eu' (aa' (cF' ix_seq hv' (ad' (pv 5)) (cl' (aj' (ai' C) (hr.mono (by walk_at "4")) rfl (takes_of rfl rfl rfl rfl) (aa' (ad' (pv 0)) (aa' ac' ag')))) (fun _ _ => rfl)) ag'))) (bF' ed' eg' (ad' (pv 1)) (bB' (ad' (pv 4))) bJ'))))) au')
      (af' (al' (a0' (at' am' a7' (at' am' a7' (bF' ed' eg' (ad' (pv 1)) bJ' (bB' (ad' (pv 4)))) (eu' (aa' (cF' ix_seq hv' (ad' (pv 5)) (cl' (aj' (ai' C) (hr.mono (by walk_at "4")) rfl (takes_of rfl rfl rfl rfl) (aa' (ad' (pv 0)) (aa' ac' ag')))) (fun _ _ => rfl)) ag'))) (bF' ed' eg' (ad' (pv 1)) (bB' (at' am' a7' (ad' (pv 4)) ac')) bJ'))))))))))))))), dG' F, F.kp, C.g__law_bad_states⟩
end
end S
namespace S
open PySem PySem.Spec PyProof.Rows L2
section
variable [Wd] {K : PySem.W.Frag} {mg : Str -> Option Value} {base : Heap}
theorem dz' (C : Ctx Wd.w K mg) : Og Wd.P Wd.w K mg base 4 "_law_bad_table" ["_law_hand_here", "_law_table"] (spM K M.f__law_bad_table) := by
  obtain ⟨fd, F⟩ := C.f__law_bad_table
  exact ⟨fd, okM F bv' rfl rfl (fun cdv A outer s H E hr =>
    (ab' (ap' (i := 2) bv'.nd rfl (by walk_at "1") (aj' (ai' C) (hr.mono (by walk_at "4")) rfl (takes_of rfl rfl rfl rfl) (aa' (ad' (pv 0)) (aa' ac' ag'))))
      (ab' (ap' (i := 3) bv'.nd rfl (by walk_at "1") (aj' (ai' C) (hr.mono (by walk_at "4")) rfl (takes_of rfl rfl rfl rfl) (aa' (ad' (pv 0)) (aa' (bh' (aq' ⟨rfl, rfl⟩) bx' rfl (C.free_len) (by decide +kernel) (ad' (pv 1))) ag'))))
      (ab' (aP' (ao' (aX' hr.units) cJ' (nomark _) (ad' (pv 2)) ac') (af' (al' (aj' (cP' C) (hr.mono (by walk_at "4")) rfl (takes_of rfl rfl rfl rfl) (aa' (ad' (pv 0)) ag')))) au')
      (ab' (aP' (ao' (aX' hr.units) cJ' (nomark _) (ad' (pv 2)) ac') (af' (al' (a0' (bX' (b8' rfl) kA' rfl (C.free_list) (by decide +kernel) (ad' (pv 1)))))) au')
      (ab' (aP' (ao' (aX' hr.units) cJ' (nomark _) (ad' (pv 2)) ac') (af' (al' (a0' (at' am' a7' (bF' ed' eg' (ad' (pv 1)) bJ' (bB' (ad' (pv 3)))) (bF' ed' eg' (ad' (pv 1)) (bB' (at' am' a7' (ad' (pv 3)) ac')) bJ'))))) au')
      (ab' (aP' (ao' (aX' hr.units) cJ' (nomark _) (ad' (pv 2)) ac') (af' (al' (a0' (at' am' a7' (ad' (pv 1)) (at' rs' t2' (bF' ed' eg' (ad' (pv 1)) (bB' (ad' (pv 3))) (bB' (at' am' a7' (ad' (pv 3)) ac'))) (cl' (aj' (ai' C) (hr.mono (by walk_at "4")) rfl (takes_of rfl rfl rfl rfl) (aa' (ad' (pv 0)) (aa' ac' ag'))))))))) au')
      (af' (al' (a0' (at' am' a7' (at' am' a7' (bF' ed' eg' (ad' (pv 1)) bJ' (bB' (ad' (pv 3)))) (eu' (aa' (cl' (aj' (bP' C) (hr.mono (by walk_at "4")) rfl (takes_of rfl rfl rfl rfl) (aa' (ad' (pv 0)) (aa' (cF' ix_seq hv' (ad' (pv 1)) (ad' (pv 3)) (fun _ _ => rfl)) (aa' (bh' (aq' ⟨rfl, rfl⟩) bx' rfl (C.free_len) (by decide +kernel) (ad' (pv 1))) ag'))))) ag'))) (bF' ed' eg' (ad' (pv 1)) (bB' (at' am' a7' (ad' (pv 3)) ac')) bJ')))))))))))), d5' F, F.kp, C.g__law_bad_table⟩
end
end S
namespace S
open PySem PySem.Spec PyProof.Rows L2
section
variable [Wd] {K : PySem.W.Frag} {mg : Str -> Option Value} {base : Heap}
theorem uy' (C : Ctx Wd.w K mg) {fd : FuncData} (F : FunD K "law" "law" (defArgs e6') (defBody e6') (defScope e6') [] [] (He.ga K "law") fd) : FnG Wd.P Wd.w K mg base (L2.CX Wd.P Wd.w) 6 (He.ga K "law") fd ["_law_script"] (spM K M.f_law) :=
  okM F bs' rfl rfl (fun cdv A outer s H E hr =>
    (ab' (ap' (i := 1) bs'.nd rfl (by walk_at "1") (aj' (hu' C) (hr.mono (by walk_at "4")) rfl (takes_of rfl rfl rfl rfl) (aa' (ad' (pv 0)) ag')))
      (ab' (bW' (passes_of rfl) rfl (bi' rfl (C.free_range) ac') (e5' 2 bs'.nd rfl (by walk_at "1") (by walk_at "2")) (ab' (tn' (cl' (aj' (f9' C) (hr.mono (by walk_at "4")) rfl (takes_of rfl rfl rfl rfl) (aa' (ad' (pv 1)) (aa' ac' (aa' ac' ag'))))) (xJ' (n := 3) rfl rfl rfl rfl (cY' rfl (e5' 3 bs'.nd rfl (by walk_at "1") (by walk_at "2")) (cY' rfl (e5' 4 bs'.nd rfl (by walk_at "1") (by walk_at "2")) (cY' rfl (e5' 5 bs'.nd rfl (by walk_at "1") (by walk_at "2")) mD')))))
      (ab' (ap' (i := 6) bs'.nd rfl (by walk_at "1") (aj' (ai' C) (hr.mono (by walk_at "4")) rfl (takes_of rfl rfl rfl rfl) (aa' (ad' (pv 1)) (aa' ac' ag'))))
      (ab' (ap' (i := 7) bs'.nd rfl (by walk_at "1") (a0' (bh' (aq' ⟨rfl, rfl⟩) bx' rfl (C.free_len) (by decide +kernel) (ad' (pv 4)))))
      (ab' (aP' (ao' (aX' hr.units) cJ' (nomark _) (at' op_mod c9' (ad' (pv 6)) ac') ac') (af' (ap' (i := 3) bs'.nd rfl (by walk_at "1") (aj' (cQ' C) (hr.mono (by walk_at "4")) rfl (takes_of rfl rfl rfl rfl) (aa' (ad' (pv 1)) (aa' (ad' (pv 3)) ag'))))) au')
      (ab' (aP' (ao' (aX' hr.units) cJ' (nomark _) (at' op_mod c9' (at' op_fdivW fL' (ad' (pv 6)) ac') ac') ac') (af' (ap' (i := 4) bs'.nd rfl (by walk_at "1") (aj' (dz' C) (hr.mono (by walk_at "4")) rfl (takes_of rfl rfl rfl rfl) (aa' (ad' (pv 1)) (aa' (ad' (pv 4)) ag'))))) au')
      (ab' (aP' (ao' (aX' hr.units) cJ' (nomark _) (at' op_fdivW fL' (ad' (pv 6)) ac') ac') (af' (ap' (i := 5) bs'.nd rfl (by walk_at "1") (aj' (bP' C) (hr.mono (by walk_at "4")) rfl (takes_of rfl rfl rfl rfl) (aa' (ad' (pv 1)) (aa' (ad' (pv 5)) (aa' (ad' (pv 7)) ag')))))) au')
      (ab' (ap' (i := 8) bs'.nd rfl (by walk_at "1") (aj' (ga' C) (hr.mono (by walk_at "4")) rfl (takes_of rfl rfl rfl rfl) (aa' (ad' (pv 3)) (aa' (ad' (pv 4)) (aa' (ad' (pv 5)) ag')))))
      (ab' (ap' (i := 9) bs'.nd rfl (by walk_at "1") (a0' (bh' (eT' C.sysm hr.units hr.g) nL' rfl (C.free_repr) (by decide +kernel) (cZ' (aa' (ad' (pv 3)) (aa' (ad' (pv 4)) (aa' (ad' (pv 5)) ag')))))))
      (ab' (ap' (i := 10) bs'.nd rfl (by walk_at "1") (a0' cH'))
      (ab' (ap' (i := 11) bs'.nd rfl (by walk_at "1") (a0' cH'))
      (ab' (or' (i := 12) (m := 0) rfl rfl bs'.nd rfl rfl ⟨rfl, by decide, Or.inl C.g_NoMachine⟩ (takes_of rfl rfl rfl rfl) (fun _ _ e_ => p7' C.subs e_) (fun W_ pn_ xe_ tk_ po_ => (af' (ap' (i := 10) bs'.nd rfl (by walk_at "1") (q3' (cR' C) (hr.mono (by decide)) rfl C.mk_Machine C.g_Machine tk_ (aa' (ad' (pv 3)) (aa' (ad' (pv 4)) (aa' (ad' (pv 5)) ag'))))))) (fun x_ a_ oe_ d_ pn_ hz_ hf_ => letI : Hot := gv' a_ 0 d_ x_; (af' (ap' (i := 11) bs'.nd rfl (by walk_at "1") (a0' (wb' (i := 12) C.xf_part hz_ hf_ (pv 12)))))))
      (ab' (aP' (ka' (cX' (ao' (fI' hr.units) vM' (nomark _) (g6' rt' yq' (nomark _) (ad' (pv 10)) cH') (g6' fK' m4' (nomark _) (ad' (pv 8)) cH')) (cX' (ao' (fI' hr.units) vM' (nomark _) (ad' (pv 11)) (ad' (pv 8))) (cG' (ao' (fI' hr.units) t1' (nomark _) (bh' (eT' C.sysm hr.units hr.g) nL' rfl (C.free_repr) (by decide +kernel) (cZ' (aa' (ad' (pv 3)) (aa' (ad' (pv 4)) (aa' (ad' (pv 5)) ag'))))) (ad' (pv 9))))))) (af' (al' (a0' ca'))) au')
      (af' (aP' (ka' (j7' (ao' fK' m4' (nomark _) (ad' (pv 10)) cH') (fV' (ao' (fI' hr.units) t1' (nomark _) (bh' (eT' C.sysm hr.units hr.g) nL' rfl (C.free_repr) (by decide +kernel) (cZ' (aa' (cl' (fY' (ad' (pv 10)) (c7' C) (hr.mono (by decide)) C.ml_Machine_letters (takes_of rfl rfl rfl rfl))) (aa' (cl' (fY' (ad' (pv 10)) (d2' C) (hr.mono (by decide)) C.ml_Machine_table (takes_of rfl rfl rfl rfl))) (aa' (cl' (fY' (ad' (pv 10)) (c8' C) (hr.mono (by decide)) C.ml_Machine_accepts (takes_of rfl rfl rfl rfl))) ag'))))) (ad' (pv 9)))))) (af' (al' (a0' ca'))) au')))))))))))))))
      (af' (al' (a0' ca'))))))
end
end S
open PySem PySem.W PySem.Calls PyProof.Rows
set_option maxRecDepth 100000 in
set_option maxHeartbeats 0 in
theorem PySem.Challenge.cw_saidacross_k02_parts_that_make_no_machin_holds : PySem.Challenge.rw_saidacross_k02_parts_that_make_no_machin.Holds := by
  w_on; o_law
  refine HandSHeadRun.head_any (r := OpenLaw.row PySem.Challenge.rw_saidacross_k02_parts_that_make_no_machin) (q := view (OpenLaw.row PySem.Challenge.rw_saidacross_k02_parts_that_make_no_machin).prog [28]) (H := S.hk) (ob := S.ob) (loose := S.loose) (d := HandSHeadRun.topDef (OpenLaw.row PySem.Challenge.rw_saidacross_k02_parts_that_make_no_machin).prog 28) (kwd := []) S.wy'
    (by kernel_rfl) (fun s => by kernel_rfl) S.run (by kernel_rfl) (by kernel_rfl) (by kernel_rfl) (by rfl) (by first | assumption | decide +kernel) (by decide +kernel) ⟨rfl, rfl, rfl, rfl, rfl, by decide +kernel⟩ ?hw ?hc
  case hw => w_witness2
  case hc =>
    refine S.n7' (l := PySem.Challenge.rw_saidacross_k02_parts_that_make_no_machin) (n := 63) (k := 6) (x := "_law_script") (CX := L2.CX0) rfl (by decide) (by kernel_rfl) ⟨rfl, by decide, by decide⟩ ?F (fun H s e s' z => z)
    intro w mg fa h Y G hmg0
    obtain ⟨K, KX, c⟩ := Y
    letI : S.Wd := ⟨(PySem.Challenge.rw_saidacross_k02_parts_that_make_no_machin).prog, w, []⟩
    have C : S.Ctx S.Wd.w K mg := ⟨⟨_, c⟩, ⟨h, KX, G⟩, by kernel_rfl, by kernel_rfl⟩
    have hmg : mg ("law" : PySem.Str) = some (.ref fa) := by
      have e : (HandSHeadRun.topDef (OpenLaw.row PySem.Challenge.rw_saidacross_k02_parts_that_make_no_machin).prog 28).name = ("law" : PySem.Str) := by kernel_rfl
      rw [<- e]
      exact hmg0
    obtain rfl : fa = He.ga K "law" := by
      have e := C.g_law
      rw [hmg] at e
      exact PySem.Value.ref.inj (Option.some.inj e)
    obtain ⟨fd, F⟩ := C.f_law
    refine ⟨K, fd, fun vs H Q _ => S.spM K M.f_law vs H Q L2.E0, KX, fun s u => ?_, ?_, fun base X N => ?_⟩
    . exact F.bindsA (ps := ["_law_script"]) (fun _ _ _ _ _ _ us hl => match us, hl with | [_], _ => rfl) s [u] rfl
    . intro H a ns hn _ hs
      exact S.nk' K H (fun p z => absurd (show p ∈ ([] : List (Addr × Str)) from z) List.not_mem_nil) a ns hn hs M.law_true
    . exact S.FnG.to0 (S.uy' (base := base) C F)
