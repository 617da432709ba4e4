import PyProof.Rows.All
import Wide.All
import OpenK.AllK
import Wide.FinOn
import KE.KStateDown
import KE.GoesNew
import HandS.ForMost
import HandS.Exc
import HandS.TryOnly
import HandS.TryMany
import HandS.ExcOwn
import HandS.ExcBuiltin
import HandS.Small
import HandS.WordsExc
import HandS.IsInst
import HandS.StrMore
import HandS.TupAny
import HandS.Zip
import HandS.Defaults
import HandS.Head0
import HandS.Head1
import HandS.Head2
import HandS.HeadEnd
import HandS.HeadHook1
import HandS.HeadHook2
import HandS.Walk
import KE.GoesMore
import HandS.Iter
import PyProof.CollectStr
import HandS.Conv
import PyProof.ListStr
import PyProof.TupleOfStr
import HandS.Lambda
import HandS.Style
import KE.KDictKeyed
import HandS.Wide
import KE.KTupTabMore
import HandS.Rev
import HandS.RevRange
import HandS.SortInts
import HandS.ExcIs
import HandS.ExcField
import HandS.Rindex
import HandS.HeadHook4
import PyProof.StrLawsFrom
import PyProof.Rows.RegReprOcc
import PyProof.Rows.StrLast
import KE.KDictDisplayH
import HandS.SetKeys
import HandS.DictComp
import HandS.More
import PyProof.ReprBulk
import PyProof.ReprRoads
import PyProof.CallFns
import PyProof.RowDictHeap
import PyProof.Rows.StrRev
import KE.KRevSl
import HandS.Deep
import HandS.Call
import KE.KExcSuper
import HandS.TupMul
import HandS.ReplaceLit
import HandS.ReplaceList
import KE.KDictZip
import PyProof.ListNew
import HandS.ListItems
import HandS.Zip0
import HandS.TupSets
import KE.SortKeyHeap
import KE.KLam
import HandS.SortKw
import HandS.EndTab
import KE.KItemsList
import HandS.NoneIn
import KE.DataMinKey
import KE.DataFind
import KE.DatumOrd
import HandS.Finally
import HandS.Strs
import HandS.Nested
import PyProof.Rows.Walk
import PySem.Challenge.RW_saidacross_k01_parts_and_equal_machines
set_option Elab.async false
set_option linter.all false
set_option maxRecDepth 100000
set_option maxHeartbeats 4000000
local macro_rules | `(tactic| walk_at "1") => `(tactic| first | exact Or.inl rfl | exact Or.inr rfl)
local macro_rules | `(tactic| walk_at "2") => `(tactic| first | exact Or.inl rfl | exact Or.inr rfl | assumption)
local macro_rules | `(tactic| walk_at "3") => `(tactic| exact ⟨rfl, rfl, rfl, by decide +kernel, rfl, by decide +kernel, by decide +kernel⟩)
local macro_rules | `(tactic| walk_at "4") => `(tactic| first | decide | omega)
namespace M
abbrev Tx := List Nat
abbrev dQ' : Nat := 16777216
inductive D where
  | non | bl (b : Bool) | int (i : Int) | str (s : Tx)
  | tup (ds : List D) | lst (ds : List D) | dct (ks vs : List D)
  | obj (n : Nat) | ty (x : String) | fn (x : String) | exc (x : String) (ds : List D)
  | scr (ds : List D)
  /-- a dict whose keys are bools, or tuples; the text that repr gives -/
  | dcx (ks vs : List D) | rep (d : D)
  deriving Inhabited
inductive O where
  | fz (d : D) | lst (os : List O) | dct (ks : List D) (vs : List O) | tup (os : List O) | dcx (ks : List D) (vs : List O) | exn | clo
  deriving Inhabited
inductive Ob where
  | lst (os : List O) | dct (ks : List D) (vs : List O) | ins (C : String) (fs : List (String × O)) | dcx (ks : List D) (vs : List O)
abbrev W := List Ob
structure PSt where
  env : List (Option O)
  w : W
structure Exc where
  cls : String
  fs : List (String × D)
inductive Res (α : Type) where
  | ok (a : α) (ρ : PSt) | exc (x : Exc) (ρ : PSt) | bad
inductive Out where
  | nx (ρ : PSt) | rt (o : O) (w : W) | bk (ρ : PSt) | ct (ρ : PSt) | exc (x : Exc) (ρ : PSt) | bad
inductive FRes where
  | ok (o : O) (w : W) | exc (x : Exc) (w : W) | bad
def wY' : O -> Bool
  | .exn => false
  | .clo => false
  | _ => true
theorem hU' {o : O} (h : o ≠ .exn) (k : o ≠ .clo) : wY' o = true := by
  cases o <;> first | rfl | exact absurd rfl h | exact absurd rfl k
mutual
def frz : O -> D
  | .fz d => d
  | .lst os => .lst (frzs os)
  | .dct ks vs => .dct ks (frzs vs)
  | .tup os => .tup (frzs os)
  | .dcx ks vs => .dcx ks (frzs vs)
  | .exn => .non
  | .clo => .non
def frzs : List O -> List D
  | [] => []
  | o :: r => frz o :: frzs r
end
@[simp] theorem no' (ds : List D) : frzs (ds.map .fz) = ds := by
  induction ds with
  | nil => rfl
  | cons d r ih => simp [frzs, frz, ih]
theorem np' (os : List O) : frzs os = os.map frz := by
  induction os with
  | nil => rfl
  | cons d r ih => simp [frzs, ih]
mutual
/-- data that == compares, at most so deep -/
def dep : D -> Nat
  | .tup ds => deps ds + 1
  | .lst ds => deps ds + 1
  | _ => 0
def deps : List D -> Nat
  | [] => 0
  | d :: r => max (dep d) (deps r)
end
mutual
def dat : D -> Bool
  | .non => true | .bl _ => true | .int _ => true | .str _ => true
  | .tup ds => dats ds
  | .lst ds => dats ds
  | _ => false
def dats : List D -> Bool
  | [] => true
  | d :: r => dat d && dats r
end
mutual
def eqb : D -> D -> Bool
  | .non, .non => true
  | .bl a, .bl b => a == b
  | .bl a, .int j => (if a then 1 else 0) == j
  | .int i, .bl b => i == (if b then 1 else 0)
  | .int i, .int j => i == j
  | .str x, .str y => x == y
  | .lst xs, .lst ys => eqbs xs ys
  | .tup xs, .tup ys => eqbs xs ys
  | _, _ => false
def eqbs : List D -> List D -> Bool
  | [], [] => true
  | x :: xs, y :: ys => eqb x y && eqbs xs ys
  | _, _ => false
end
def eqv (d e : D) : Option Bool := if dat d = true /\ dat e = true /\ dep d <= 64 /\ dep e <= 64 then some (eqb d e) else none
mutual
/-- no whole number is too great to be shown -/
def oh' : D -> Bool
  | .int i => decide (i.natAbs < 10 ^ 60)
  | .tup ds => repIs ds
  | .lst ds => repIs ds
  | .dct ks ds => repIs ks && repIs ds
  | _ => true
def repIs : List D -> Bool
  | [] => true
  | d :: r => oh' d && repIs r
end
mutual
def mx' : D -> Nat
  | .str s => s.length
  | .tup ds => repWs ds
  | .lst ds => repWs ds
  | .dct ks ds => repWs ks + repWs ds
  | _ => 0
def repWs : List D -> Nat
  | [] => 0
  | d :: r => mx' d + 1 + repWs r
end
mutual
/-- the same data -/
def same : D -> D -> Bool
  | .non, .non => true
  | .bl a, .bl b => a == b
  | .int i, .int j => i == j
  | .str x, .str y => x == y
  | .lst xs, .lst ys => sames xs ys
  | .tup xs, .tup ys => sames xs ys
  | .dct ks xs, .dct ls ys => sames ks ls && sames xs ys
  | _, _ => false
def sames : List D -> List D -> Bool
  | [], [] => true
  | x :: xs, y :: ys => same x y && sames xs ys
  | _, _ => false
end
def cD' : D -> Bool
  | .non => true
  | .bl _ => true
  | .int _ => true
  | .str _ => true
  | _ => false
def vX' : D -> Bool
  | .dct [] [] => true
  | _ => false
def rZ' : D -> Bool
  | .dct _ ds => ds.all cD'
  | .tup ds => dats ds || ds.all fun d => cD' d || vX' d
  | d => dat d
theorem mC' {d : D} (h : dat d = true) : rZ' d = true := by
  cases d with
  | tup ds => show (dats ds || _) = true; rw [show dats ds = true from h]; rfl
  | dct ks ds => cases h
  | _ => exact h
def or' (d : D) : Option D := if rZ' d = true /\ dep d <= 40 /\ oh' d = true /\ mx' d <= 200000 then some (.rep d) else none
def qO' : D -> D -> Option D
  | .rep a, .rep b => if same a b = true then some (.bl true) else none
  | _, _ => none
def ob (o : Option Bool) : Option D := o.map .bl
def pEq (x y : D) : Option D := ob (eqv x y)
def pNe (x y : D) : Option D := ob ((eqv x y).map (!·))
def cZ' : D -> Bool
  | .non => true
  | _ => false
def pIs : D -> D -> Option D
  | x, .non => some (.bl (cZ' x))
  | .bl a, .bl b => some (.bl (a == b))
  | _, _ => none
def cQ' (x y : D) : Option D := match pIs x y with | some (.bl b) => some (.bl (!b)) | _ => none
def pLt : D -> D -> Option D
  | .int i, .int j => some (.bl (decide (i < j)))
  | .str a, .str b => some (.bl (decide (a < b)))
  | _, _ => none
def pLe : D -> D -> Option D
  | .int i, .int j => some (.bl (decide (i <= j)))
  | .str a, .str b => some (.bl (!decide (b < a)))
  | _, _ => none
def pGt : D -> D -> Option D
  | .int i, .int j => some (.bl (decide (j < i)))
  | .str a, .str b => some (.bl (decide (b < a)))
  | _, _ => none
def pGe : D -> D -> Option D
  | .int i, .int j => some (.bl (decide (j <= i)))
  | .str a, .str b => some (.bl (!decide (a < b)))
  | _, _ => none
def bG' : D -> D -> Option D
  | .int i, .int j => some (.int (i + j))
  | .str a, .str b => if a.length + b.length <= dQ' then some (.str (a ++ b)) else none
  | .lst a, .lst b => if a.length + b.length <= dQ' then some (.lst (a ++ b)) else none
  | .tup a, .tup b => if a.length + b.length <= dQ' then some (.tup (a ++ b)) else none
  | _, _ => none
def tc' : D -> D -> Option D
  | .int i, .int j => some (.int (i + j))
  | _, _ => none
def pO' : D -> D -> Option D
  | .int i, .int j => some (.int (i - j))
  | _, _ => none
def small64 (i : Int) : Bool := decide (-(2 ^ 64) < i) && decide (i < 2 ^ 64)
def ib' : D -> D -> Option D
  | .int i, .int j => if (small64 i = true \/ small64 j = true) \/ ((-2582249878086908589655919172003011874329705792829223512830659356540647622016841194629645353280137831435903171972747493376 < i /\ i < 2582249878086908589655919172003011874329705792829223512830659356540647622016841194629645353280137831435903171972747493376) /\ (-2582249878086908589655919172003011874329705792829223512830659356540647622016841194629645353280137831435903171972747493376 < j /\ j < 2582249878086908589655919172003011874329705792829223512830659356540647622016841194629645353280137831435903171972747493376)) then some (.int (i * j)) else none
  | .str a, .int j => if j < 2 ^ 62 /\ -(2 ^ 62) <= j /\ a.length * j.toNat <= dQ' then some (.str (List.replicate j.toNat a).flatten) else none
  | .lst a, .int j => if j < 2 ^ 62 /\ -(2 ^ 62) <= j /\ a.length * j.toNat <= dQ' then some (.lst (List.replicate j.toNat a).flatten) else none
  | _, _ => none
def gO' : D -> D -> Option D
  | .int i, .int j => if 0 < j /\ j < 1606938044258990275541962092341162602522202993782792835301376 then some (.int (i / j)) else none
  | _, _ => none
def gN' : D -> D -> Option D
  | .int i, .int j => if 0 < j then some (.int (i % j)) else none
  | _, _ => none
def tb' : D -> D -> Option D
  | .int i, .int j => if 0 <= j /\ j <= 1000 /\ small64 i = true then some (.int (i ^ j.toNat)) else none
  | _, _ => none
def uR' : D -> Option D
  | .int i => some (.int (-i))
  | _ => none
def chD (c : Nat) : D := .str [c]
def ixn (n : Nat) (i : Int) : Option Nat := if 0 <= i then (if i < n then some i.toNat else none) else (if -(n : Int) <= i then some (i + n).toNat else none)
def ati {α : Type} (xs : List α) (i : Int) : Option α := (ixn xs.length i).bind fun j => xs[j]?
def six (n : Nat) (d : Nat) : Option Int -> Nat
  | none => d
  | some i => if i < 0 then (i + (n : Int)).toNat else min i.toNat n
def cut {α : Type} (xs : List α) (lo hi : Option Int) : List α := (xs.drop (six xs.length 0 lo)).take (six xs.length xs.length hi - six xs.length 0 lo)
def cz' : D -> Option (List D)
  | .lst xs => some xs
  | .tup xs => some xs
  | .str s => some (s.map chD)
  | _ => none
def sca : D -> Bool
  | .non => true | .bl _ => true | .int _ => true | .str _ => true
  | _ => false
def pIn : D -> D -> Option D
  | .str [c], .str s => some (.bl (decide (c ∈ s)))
  | x, .lst ds => if sca x = true /\ ds.all sca = true then some (.bl (ds.any fun d => eqb d x)) else none
  | x, .tup ds => if sca x = true /\ ds.all sca = true then some (.bl (ds.any fun d => eqb d x)) else none
  | _, _ => none
mutual
def kat : D -> Bool
  | .non => true | .bl _ => true | .int _ => true | .str _ => true
  | .tup ds => kats ds
  | _ => false
def kats : List D -> Bool
  | [] => true
  | d :: r => kat d && kats r
end
def vS' (ks : List D) (k : D) : Bool := kat k && decide (dep k <= 8) && ks.all (fun d => sca d == sca k)
def r2' (ks : List D) (k : D) : Option Nat := ks.findIdx? fun d => eqb d k
def isK : D -> Bool
  | .int _ => true | .str _ => true
  | _ => false
def dget {α : Type} (ks : List D) (vs : List α) (k : D) : Option α := (r2' ks k).bind fun j => vs[j]?
def kI' : O -> D -> Option (Option O)
  | .dct ks os, k => if isK k = true then some (dget ks os k) else none
  | .dcx ks os, k => if vS' ks k = true then some (dget ks os k) else none
  | .fz (.dct ks vs), k => if isK k = true then some (dget ks (vs.map .fz) k) else none
  | .fz (.dcx ks vs), k => if vS' ks k = true then some (dget ks (vs.map .fz) k) else none
  | _, _ => none
def s8' {α : Type} (ks : List D) (os : List α) (k : D) (o : α) : Option (List D × List α) := match r2' ks k with
  | some j => some (ks, os.set j o)
  | none => if ks.length < dQ' then some (ks ++ [k], os ++ [o]) else none
def vE' : O -> D -> O -> Option O
  | .dct ks os, k, o => if isK k = true then (s8' ks os k o).map fun p => .dct p.1 p.2 else none
  | .dcx ks os, k, o => if vS' ks k = true then (s8' ks os k o).map fun p => .dcx p.1 p.2 else none
  | _, _, _ => none
def fm' (x y : D) : Option D := match pIn x y with | some (.bl b) => some (.bl (!b)) | _ => none
def cG' : D -> Option D
  | .str s => some (.int s.length)
  | .lst ds => some (.int ds.length)
  | .tup ds => some (.int ds.length)
  | .dct ks _ => some (.int ks.length)
  | .dcx ks _ => some (.int ks.length)
  | _ => none
def pIx : D -> D -> Option D
  | .str s, .int i => (ati s i).map chD
  | .lst ds, .int i => ati ds i
  | .tup ds, .int i => ati ds i
  | _, _ => none
def pSl (d : D) (lo hi : Option Int) : Option D := match d with
  | .str s => some (.str (cut s lo hi))
  | .lst s => some (.lst (cut s lo hi))
  | .tup s => some (.tup (cut s lo hi))
  | .scr s => some (.lst (cut s lo hi))
  | _ => none
def uQ' : D -> Option D
  | .str s => some (.str s.reverse)
  | .lst s => some (.lst s.reverse)
  | _ => none
def cv' : List D -> Option (List Tx)
  | [] => some []
  | .str s :: r => (cv' r).map (s :: ·)
  | _ :: _ => none
def bS' (sep : Tx) : List Tx -> Tx
  | [] => []
  | [x] => x
  | x :: y :: r => x ++ (sep ++ bS' sep (y :: r))
def eX' (a : Tx) : List D -> Option D
  | [.lst ds] => (cv' ds).bind fun ys => if (ys.map List.length).sum + ys.length * a.length <= dQ' then some (.str (bS' a ys)) else none
  | [.tup ds] => (cv' ds).bind fun ys => if (ys.map List.length).sum + ys.length * a.length <= dQ' then some (.str (bS' a ys)) else none
  | _ => none
def bt' : List D -> Option (List Int)
  | [] => some []
  | .int b :: r => (bt' r).map (b :: ·)
  | _ :: _ => none
def w6' : D -> Option D
  | .lst ds => (bt' ds).map fun ns => .int ns.sum
  | _ => none
def bq' (l : List Nat) : List Nat := l.mergeSort fun a b => decide (a <= b)
def h0' (l : List Int) : List Int := l.mergeSort fun a b => decide (a <= b)
def j8' : List D -> Option (List Nat)
  | [] => some []
  | .str [c] :: r => (j8' r).map (c :: ·)
  | _ => none
def bY' : D -> Option D
  | .str s => if s.length < 64 then some (.lst ((bq' s).map chD)) else none
  | .lst ds => match bt' ds with
    | some ns => some (.lst ((h0' ns).map .int))
    | none => (j8' ds).bind fun cs => if cs.length < 64 then some (.lst ((bq' cs).map chD)) else none
  | _ => none
def xK' (a b : Tx) (i : Nat) : Bool := decide (i + b.length <= a.length) && decide ((a.drop i).take b.length = b)
def r4' (a b : Tx) : Option Nat := (List.range (a.length + 1)).find? (xK' a b)
def fnd (o : Option Nat) : Int := match o with | some i => (i : Int) | none => -1
def to' (a : Tx) : List D -> Option D
  | [.str b] => some (.int (fnd (r4' a b)))
  | _ => none
def pS' (a : Tx) : List D -> Option D
  | [.str b] => (r4' a b).map fun (i : Nat) => D.int (Int.ofNat i)
  | _ => none
def uK' (c : Nat) : Tx -> List Tx
  | [] => [[]]
  | x :: r => if x = c then [] :: uK' c r else (match uK' c r with
    | [] => [[x]]
    | y :: ys => (x :: y) :: ys)
def tn' (a : Tx) : List D -> Option D
  | [.str [c]] => if c < 128 /\ a.length + 2 <= dQ' then some (.lst ((uK' c a).map .str)) else none
  | _ => none
def xg' (n : Nat) : Tx := (Nat.toDigits 10 n).map Char.toNat
def xD' : D -> Option D
  | .int i => if 0 <= i /\ i < 1000000000000000000000000000000000000000000000000000000000000 then some (.str (xg' i.toNat)) else none
  | _ => none
def up1 (c : Nat) : Nat := if 97 <= c /\ c <= 122 then c - 32 else c
def pN' : D -> Option D
  | .str s => if s.all (fun c => decide (c < 128)) = true /\ s.length <= 5592405 then some (.str (s.map up1)) else none
  | _ => none
def bools : List D -> Option (List Bool)
  | [] => some []
  | .bl b :: r => (bools r).map (b :: ·)
  | _ :: _ => none
def w8' : D -> Option D
  | .lst ds => (bools ds).map fun bs => .bl (bs.all id)
  | _ => none
def w7' : D -> Option D
  | .lst ds => (bools ds).map fun bs => .bl (bs.any id)
  | _ => none
def vI' : D -> Option D
  | .lst ds => some (.lst ds)
  | .tup ds => some (.lst ds)
  | .str s => some (.lst (s.map chD))
  | _ => none
def el' : D -> Option D
  | .str s => some (.lst (s.map chD))
  | d => vI' d
def b3' : D -> Option D
  | .str s => some (.tup (s.map chD))
  | .lst ds => some (.tup ds)
  | .tup ds => some (.tup ds)
  | _ => none
def gc' : D -> Option D
  | .int i => some (.int i)
  | .bl b => some (.int (if b then 1 else 0))
  | _ => none
def uS' : D -> Option D
  | .int i => some (.int (if i < 0 then -i else i))
  | _ => none
def mO' : D -> D -> Option D
  | .int i, .int j => some (.int (if j > i then j else i))
  | _, _ => none
def kF' : D -> D -> Option D
  | .int i, .int j => some (.int (if j < i then j else i))
  | _, _ => none
def tyn : D -> Option String
  | .non => some "NoneType" | .bl _ => some "bool" | .int _ => some "int" | .str _ => some "str"
  | .tup _ => some "tuple" | .lst _ => some "list" | .dct _ _ => some "dict"
  | _ => none
def bs' (t : String) (d : D) : Option D := (tyn d).map fun n => .bl (n == t || (n == "bool" && t == "int"))
abbrev ME := PSt -> Res D
abbrev MO := PSt -> Res O
abbrev MA := PSt -> Res (List D)
abbrev MT := PSt -> Res Bool
abbrev MS := PSt -> Out
abbrev MF := List D -> W -> FRes
abbrev MG := D -> PSt -> Option PSt
abbrev MI := PSt -> Res (List D)
@[simp] def Res.bind {α β : Type} (r : Res α) (f : α -> PSt -> Res β) : Res β := match r with
  | .ok a ρ => f a ρ
  | .exc x ρ => .exc x ρ
  | .bad => .bad
@[simp] def Res.out {α : Type} (r : Res α) (f : α -> PSt -> Out) : Out := match r with
  | .ok a ρ => f a ρ
  | .exc x ρ => .exc x ρ
  | .bad => .bad
@[simp] def ofO {α : Type} (o : Option α) (ρ : PSt) : Res α := match o with
  | some a => .ok a ρ
  | none => .bad
@[simp] def eC (d : D) : ME := fun ρ => .ok d ρ
@[simp] def eV (i : Nat) : ME := fun ρ => match ρ.env[i]? with
  | some (some (.fz d)) => .ok d ρ
  | some (some .exn) => .bad
  | some (some .clo) => .bad
  | some (some o) => .ok (frz o) ⟨ρ.env.set i (some (.fz (frz o))), ρ.w⟩
  | _ => .bad
@[simp] def eOp (f : D -> D -> Option D) (a b : ME) : ME := fun ρ => (a ρ).bind fun x ρ1 => (b ρ1).bind fun y ρ2 => ofO (f x y) ρ2
@[simp] def eUn (f : D -> Option D) (a : ME) : ME := fun ρ => (a ρ).bind fun x ρ1 => ofO (f x) ρ1
@[simp] def asB (d : D) (ρ : PSt) : Res Bool := match d with
  | .bl b => .ok b ρ
  | _ => .bad
@[simp] def oR' (a b : ME) : ME := fun ρ => (a ρ).bind fun x ρ1 => (asB x ρ1).bind fun k ρ1 => if k = true then b ρ1 else .ok (.bl false) ρ1
@[simp] def tP' (a : ME) : ME := fun ρ => (a ρ).bind fun x ρ1 => (asB x ρ1).bind fun k ρ1 => .ok (.bl (!k)) ρ1
@[simp] def ey' (f g : D -> D -> Option D) (a b c : ME) : ME := fun ρ => (a ρ).bind fun x ρ1 => (b ρ1).bind fun y ρ2 => (ofO (f x y) ρ2).bind fun r ρ2 => (asB r ρ2).bind fun k ρ2 =>
  if k = true then (c ρ2).bind fun z ρ3 => ofO (g y z) ρ3 else .ok (.bl false) ρ2
@[simp] def bc' : MA := fun ρ => .ok [] ρ
@[simp] def ae' (a : ME) (r : MA) : MA := fun ρ => (a ρ).bind fun x ρ1 => (r ρ1).bind fun xs ρ2 => .ok (x :: xs) ρ2
@[simp] def kK' (as : MA) : ME := fun ρ => (as ρ).bind fun xs ρ1 => if xs.length <= dQ' then .ok (.tup xs) ρ1 else .bad
@[simp] def kL' (as : MA) : ME := fun ρ => (as ρ).bind fun xs ρ1 => if xs.length <= dQ' then .ok (.lst xs) ρ1 else .bad
@[simp] def eMt (f : Tx -> List D -> Option D) (a : ME) (as : MA) : ME := fun ρ => (a ρ).bind fun x ρ1 => match x with
  | .str s => (as ρ1).bind fun ds ρ2 => ofO (f s ds) ρ2
  | _ => .bad
def m2' (ds : List D) : List D -> Option D
  | [.int v] => (bt' ds).bind fun ns => if v ∈ ns then some (.int ((ns.idxOf v : Nat) : Int)) else none
  | _ => none
abbrev MP := PSt -> Res (Option Int)
@[simp] def pNo : MP := fun ρ => .ok none ρ
@[simp] def pSo (a : ME) : MP := fun ρ => (a ρ).bind fun x ρ1 => match x with | .int i => .ok (some i) ρ1 | _ => .bad
@[simp] def eSl (a : ME) (lo hi : MP) : ME := fun ρ => (a ρ).bind fun x ρ1 => (lo ρ1).bind fun l ρ2 => (hi ρ2).bind fun h ρ3 => ofO (pSl x l h) ρ3
@[simp] def fin (r : FRes) (ρ : PSt) : Res O := match r with
  | .ok o w => .ok o ⟨ρ.env, w⟩
  | .exc x w => .exc x ⟨ρ.env, w⟩
  | .bad => .bad
@[simp] def a3' (f : MF) (as : MA) : MO := fun ρ => (as ρ).bind fun xs ρ1 => fin (f xs ρ1.w) ρ1
@[simp] def eO (a : MO) : ME := fun ρ => (a ρ).bind fun o ρ1 => .ok (frz o) ρ1
@[simp] def oE (a : ME) : MO := fun ρ => (a ρ).bind fun d ρ1 => .ok (.fz d) ρ1
@[simp] def oV (i : Nat) : MO := fun ρ => match ρ.env[i]? with
  | some (some (.fz d)) => .ok (.fz d) ρ
  | some (some .exn) => .bad
  | some (some .clo) => .bad
  | some (some o) => .ok o ⟨ρ.env.set i none, ρ.w⟩
  | _ => .bad
abbrev MOA := PSt -> Res (List O)
@[simp] def mV' (a : ME) : MO := fun ρ => (a ρ).bind fun d ρ1 => match d with | .lst ds => .ok (.lst (ds.map .fz)) ρ1 | _ => .bad
@[simp] def kG' : MO := fun ρ => .ok (.dct [] []) ρ
def RgB (a b : Int) : Bool := decide (-(2 ^ 62) <= a) && decide (a < 2 ^ 62) && decide (-(2 ^ 62) <= b) && decide (b < 2 ^ 62) && decide ((b - a).toNat <= 16777216)
def c0' (a b : Int) : List D := (List.range (b - a).toNat).map fun i => .int (a + (i : Nat))
@[simp] def cP' : D -> Option D
  | .int b => if RgB 0 b = true then some (.lst (c0' 0 b)) else none
  | _ => none
@[simp] def g6' (i : Nat) (a : ME) : ME := fun ρ => match ρ.env[i]? with
  | some (some (.lst _)) => (a ρ).bind fun d ρ1 => match ρ1.env[i]?, d with
    | some (some (.lst os)), .int z => (match (if os.length <= dQ' then ixn os.length z else none) with
      | some j => (match os[j]? with
        | some (.fz y) => .ok y ⟨ρ1.env.set i (some (.lst (os.eraseIdx j))), ρ1.w⟩
        | _ => .bad)
      | none => .bad)
    | _, _ => .bad
  | _ => .bad
@[simp] def ixO : O -> D -> Option D
  | .fz d, k => pIx d k
  | .lst os, .int i => match ati os i with | some (.fz d) => some d | _ => none
  | .tup os, .int i => match ati os i with | some (.fz d) => some d | _ => none
  | _, _ => none
@[simp] def inO (x : D) : O -> Option D
  | .fz d => pIn x d
  | .lst os => if os.all (fun o => match o with | .fz _ => true | _ => false) = true then pIn x (.lst (os.map frz)) else none
  | _ => none
@[simp] def tl' : Option D -> Option D
  | some (.bl b) => some (.bl (!b))
  | _ => none
@[simp] def nO' : O -> Option D
  | .fz d => cG' d
  | .lst os => some (.int os.length)
  | .tup os => some (.int os.length)
  | .dct ks _ => some (.int ks.length)
  | .dcx ks _ => some (.int ks.length)
  | .exn => none
  | .clo => none
@[simp] def iq' (i : Nat) : ME := fun ρ => match ρ.env[i]? with
  | some (some o) => ofO (nO' o) ρ
  | _ => .bad
@[simp] def uZ' : Option (Option O) -> Option D
  | some (some (.fz d)) => some d
  | _ => none
def fn' (x : Bool) (y d : D) : Option O := if x = true then (if kat y = true /\ dep y <= 8 /\ sca y = false then some (.dcx [y] [.fz d]) else none) else (if isK y = true then some (.dct [y] [.fz d]) else none)
@[simp] def gV' (x : Bool) (k a : ME) : MO := fun ρ => (k ρ).bind fun y ρ1 => (a ρ1).bind fun d ρ2 => ofO (fn' x y d) ρ2
@[simp] def ixW (w : W) : D -> D -> Option D
  | .obj n, k => match w[n]? with | some (.lst os) => ixO (.lst os) k | _ => none
  | d, k => pIx d k
@[simp] def gd' (a b : ME) : ME := fun ρ => (a ρ).bind fun x ρ1 => (b ρ1).bind fun y ρ2 => ofO (ixW ρ2.w x y) ρ2
@[simp] def tj' (as : MA) : MO := fun ρ => (as ρ).bind fun xs ρ1 => if xs.length <= dQ' then .ok (.fz (.obj ρ1.w.length)) ⟨ρ1.env, ρ1.w ++ [.lst (xs.map .fz)]⟩ else .bad
@[simp] def tE (a : ME) : MT := fun ρ => (a ρ).bind asB
@[simp] def fa' (a : MT) : MT := fun ρ => (a ρ).bind fun k ρ1 => .ok (!k) ρ1
@[simp] def pE' (a b : MT) : MT := fun ρ => (a ρ).bind fun k ρ1 => if k = true then b ρ1 else .ok false ρ1
@[simp] def tOr (a b : MT) : MT := fun ρ => (a ρ).bind fun k ρ1 => if k = true then .ok true ρ1 else b ρ1
@[simp] def nl' (a : ME) : MI := fun ρ => (a ρ).bind fun d ρ1 => ofO (cz' d) ρ1
def rgI (lo : Int) (n : Nat) : List D := (List.range n).map fun i => .int (lo + (i : Nat))
def nQ' (i : Int) : Bool := decide (-(2 ^ 62) <= i) && decide (i < 2 ^ 62)
@[simp] def df' : D -> Option (List D)
  | .int j => if nQ' j = true then some (rgI 0 j.toNat) else none
  | _ => none
@[simp] def mN' : D -> D -> Option (List D)
  | .int i, .int j => if nQ' i = true /\ nQ' j = true then some (rgI i (j - i).toNat) else none
  | _, _ => none
@[simp] def bx' (a : ME) : MI := fun ρ => (a ρ).bind fun x ρ1 => ofO (df' x) ρ1
def cm' : List D -> List D -> List D
  | x :: xs, y :: ys => .tup [x, y] :: cm' xs ys
  | _, _ => []
def ip' (k : Nat) : List D -> List D
  | [] => []
  | x :: xs => .tup [.int k, x] :: ip' (k + 1) xs
@[simp] def vH' (x y : D) : Option (List D) := match cz' x, cz' y with
  | some a, some b => some (cm' a b)
  | _, _ => none
def nJ' (x y : D) : Option (List D) := match x, y with
  | .str _, .str _ => vH' x y
  | .lst _, .lst _ => vH' x y
  | .tup _, .tup _ => vH' x y
  | _, _ => none
def enB : D -> Option (List D)
  | .str s => some (ip' 0 (s.map chD))
  | .lst ds => some (ip' 0 ds)
  | _ => none
def uO' : D -> Option (List D)
  | .lst ds => some ds.reverse
  | .tup ds => some ds.reverse
  | _ => none
def wW' (x y : D) : Option (List D) := match x, y with
  | .str s, .tup ds => some (cm' (s.map chD) ds)
  | _, _ => none
@[simp] def tG' (a b : ME) : MI := fun ρ => (a ρ).bind fun x ρ1 => (b ρ1).bind fun y ρ2 => ofO (nJ' x y) ρ2
def wN' : D -> Option (List D)
  | .dct ks _ => some ks
  | _ => none
def wM' : D -> Option (List D)
  | .dct _ vs => some vs
  | _ => none
def uv' : D -> Option (List D)
  | .dct ks vs => some (cm' ks vs)
  | _ => none
@[simp] def gN (i : Nat) : MG := fun d ρ => if i < ρ.env.length then some ⟨ρ.env.set i (some (.fz d)), ρ.w⟩ else none
@[simp] def gNs : List Nat -> List D -> PSt -> Option PSt
  | [], [], ρ => some ρ
  | i :: is, d :: ds, ρ => (gN i d ρ).bind (gNs is ds)
  | _, _, _ => none
@[simp] def gT (is : List Nat) : MG := fun d ρ => match d with
  | .tup ds => gNs is ds ρ
  | _ => none
@[simp] def noX {α : Type} : Res α -> Res α
  | .exc _ _ => .bad
  | r => r
def a5' : List Nat -> List (Option O) -> List (Option O)
  | [], env => env
  | i :: is, env => (a5' is env).set i none
def back (env : List (Option O)) : List Nat -> List (Option O) -> List (Option O)
  | [], env' => env'
  | i :: is, env' => (back env is env').set i (match env[i]? with | some (some (.fz d)) => some (.fz d) | _ => none)
def lcL (own : List Nat) (g : MG) (t : MT) (e : ME) : List D -> List D -> PSt -> Res (List D)
  | [], acc, ρ => .ok acc ρ
  | x :: xs, acc, ρ => match g x ⟨a5' own ρ.env, ρ.w⟩ with
    | none => .bad
    | some ρ1 => (noX (t ρ1)).bind fun k ρ2 => if k = true then (noX (e ρ2)).bind fun y ρ3 => if acc.length < dQ' then lcL own g t e xs (acc ++ [y]) ρ3 else .bad else lcL own g t e xs acc ρ2
@[simp] def eLc (own : List Nat) (it : MI) (g : MG) (t : MT) (e : ME) : ME := fun ρ => (it ρ).bind fun xs ρ1 =>
  (lcL own g t e xs [] ρ1).bind fun ys ρ2 => .ok (.lst ys) ⟨back ρ1.env own (a5' own ρ2.env), ρ2.w⟩
@[simp] def oLc (own : List Nat) (it : MI) (g : MG) (t : MT) (e : ME) : MO := fun ρ => (it ρ).bind fun xs ρ1 =>
  (lcL own g t e xs [] ρ1).bind fun ys ρ2 => .ok (.lst (ys.map .fz)) ⟨back ρ1.env own (a5' own ρ2.env), ρ2.w⟩
def dcL (own : List Nat) (g : MG) (t : MT) (ek ev : ME) : List D -> List D -> List D -> PSt -> Res (List D × List D)
  | [], ks, vs, ρ => .ok (ks, vs) ρ
  | x :: xs, ks, vs, ρ => match g x ⟨a5' own ρ.env, ρ.w⟩ with
    | none => .bad
    | some ρ1 => (noX (t ρ1)).bind fun k ρ2 => if k = true then (noX (ek ρ2)).bind fun y ρ3 => (noX (ev ρ3)).bind fun z ρ4 => (if isK y = true /\ ks.length < dQ' then (match s8' ks vs y z with
      | some p => dcL own g t ek ev xs p.1 p.2 ρ4
      | none => .bad) else .bad) else dcL own g t ek ev xs ks vs ρ2
@[simp] def tT : MT := fun ρ => .ok true ρ
@[simp] def ba' : MS := fun ρ => .nx ρ
@[simp] def ms' (a : ME) : MS := fun ρ => (a ρ).out fun _ ρ1 => .nx ρ1
@[simp] def bR' (a : MO) : MS := fun ρ => (a ρ).out fun o ρ1 => .rt o ρ1.w
@[simp] def aS' (a b : MS) : MS := fun ρ => match a ρ with
  | .nx ρ1 => b ρ1
  | r => r
@[simp] def sIf (t : MT) (a b : MS) : MS := fun ρ => (t ρ).out fun k ρ1 => if k = true then a ρ1 else b ρ1
@[simp] def uL' (i : Nat) (o : O) (ρ : PSt) : Out := if i < ρ.env.length then .nx ⟨ρ.env.set i (some o), ρ.w⟩ else .bad
@[simp] def bj' (i : Nat) (a : MO) : MS := fun ρ => (a ρ).out fun o ρ1 => uL' i o ρ1
@[simp] def sP' (g : MG) (a : ME) : MS := fun ρ => (a ρ).out fun d ρ1 => match g d ρ1 with | some ρ2 => .nx ρ2 | none => .bad
@[simp] def pH' (i : Nat) (a : MO) : MS := fun ρ => match ρ.env[i]? with
  | some (some (.lst _)) => (a ρ).out fun o ρ1 => match ρ1.env[i]? with
    | some (some (.lst os)) => if os.length < dQ' then .nx ⟨ρ1.env.set i (some (.lst (os ++ [o]))), ρ1.w⟩ else .bad
    | _ => .bad
  | _ => .bad
@[simp] def xe' (w : W) : D -> Option D
  | .obj n => (match w[n]? with
    | some (.lst os) => some (.int os.length)
    | _ => none)
  | _ => none
@[simp] def n2' (w : W) (x k d : D) : Option W := match x, k with
  | .obj n, .int z => match w[n]? with
    | some (.lst os) => (ixn os.length z).map fun j => w.set n (.lst (os.set j (.fz d)))
    | _ => none
  | _, _ => none
@[simp] def fJ' (o k a : ME) : MS := fun ρ => (a ρ).out fun d ρ1 => (o ρ1).out fun x ρ2 => (k ρ2).out fun y ρ3 => match n2' ρ3.w x y d with
  | some w => .nx ⟨ρ3.env, w⟩
  | none => .bad
def ki' (g : MG) (b : MS) : List D -> MS
  | [], ρ => .nx ρ
  | d :: ds, ρ => match g d ρ with
    | none => .bad
    | some ρ1 => match b ρ1 with
      | .nx ρ2 => ki' g b ds ρ2
      | .ct ρ2 => ki' g b ds ρ2
      | .bk ρ2 => .nx ρ2
      | r => r
@[simp] def j1' (it : MI) (g : MG) (b : MS) : MS := fun ρ => (it ρ).out fun ds ρ1 => ki' g b ds ρ1
abbrev ET := List (String × String × Bool)
def sub : ET -> String -> String -> Option Bool
  | [], _, _ => none
  | (a, b, r) :: t, x, c => if a = x /\ b = c then some r else sub t x c
@[simp] def xc' : Out -> Out
  | .exc _ _ => .bad
  | r => r
@[simp] def uN' : MS := fun _ => .bad
@[simp] def hds (hs : List ((String -> Option Bool) × (Exc -> MS))) (x : Exc) (ρ : PSt) : Out := match hs with
  | [] => .exc x ρ
  | (g, h) :: r => (match g x.cls with
    | some true => xc' (h x ρ)
    | some false => hds r x ρ
    | none => .bad)
def nM' (f : String) (o : O) : List (String × O) -> List (String × O)
  | [] => [(f, o)]
  | (g, x) :: r => if g = f then (g, o) :: r else (g, x) :: nM' f o r
@[simp] def in' (cs : List String) (f : String) (w : W) : D -> Option D
  | .obj n => (match w[n]? with
    | some (.ins C fs) => if C ∈ cs then (match fs.lookup f with | some (.fz d) => some d | _ => none) else none
    | _ => none)
  | _ => none
@[simp] def nt' (cs : List String) (a : ME) (f : String) : ME := fun ρ => (a ρ).bind fun x ρ1 => ofO (in' cs f ρ1.w x) ρ1
@[simp] def stF (cs : List String) (f : String) (o : O) (w : W) : D -> Option W
  | .obj n => (match w[n]? with
    | some (.ins C fs) => if C ∈ cs /\ fs.length < 1000 then some (w.set n (.ins C (nM' f o fs))) else none
    | _ => none)
  | _ => none
@[simp] def sFld (cs : List String) (a : ME) (f : String) (v : MO) : MS := fun ρ => (v ρ).out fun o ρ1 => (a ρ1).out fun x ρ2 => match stF cs f o ρ2.w x with
  | some w => .nx ⟨ρ2.env, w⟩
  | none => .bad
@[simp] def if' (C : String) (init : MF) (as : MA) : MO := fun ρ => (as ρ).bind fun ds ρ1 => match init (.obj ρ1.w.length :: ds) (ρ1.w ++ [.ins C []]) with
  | .ok (.fz .non) w => .ok (.fz (.obj ρ1.w.length)) ⟨ρ1.env, w⟩
  | .ok _ _ => .bad
  | .exc x w => .exc x ⟨ρ1.env, w⟩
  | .bad => .bad
def isIns (cs : List String) (m : String) (w : W) : D -> Bool
  | .obj n => (match w[n]? with
    | some (.ins C' fs) => decide (C' ∈ cs) && (fs.lookup m).isNone
    | _ => false)
  | _ => false
@[simp] def dh' (cs : List String) (m : String) (f : MF) (a : ME) (as : MA) : MO := fun ρ => (a ρ).bind fun x ρ1 => if isIns cs m ρ1.w x = true then (as ρ1).bind fun ds ρ2 => fin (f (x :: ds) ρ2.w) ρ2 else .bad
def rj' (ps : List (String × String)) (w : W) : D -> D -> Bool
  | .obj n, .obj m => (match w[n]?, w[m]? with
    | some (.ins C _), some (.ins C' _) => decide ((C, C') ∈ ps)
    | _, _ => false)
  | _, _ => false
@[simp] def pY' (ps : List (String × String)) (f : MF) (a b : ME) : ME := fun ρ => (a ρ).bind fun x ρ1 => (b ρ1).bind fun y ρ2 => if rj' ps ρ2.w x y = true then (match f [x, y] ρ2.w with
    | .ok (.fz (.bl r)) w => .ok (.bl r) ⟨ρ2.env, w⟩
    | _ => .bad) else .bad
def isC (t : ET) (c : String) (w : W) : D -> Option Bool
  | .obj n => (match w[n]? with
    | some (.ins C _) => sub t C c
    | _ => none)
  | d => (tyn d).map fun _ => false
@[simp] def tQ' (t : ET) (c : String) (a : ME) : ME := fun ρ => (a ρ).bind fun x ρ1 => ofO ((isC t c ρ1.w x).map .bl) ρ1
def ri' : O -> Bool
  | .fz _ => true
  | _ => false
@[simp] def fnM (k n : Nat) (b : MS) : MF := fun ds w => if ds.length = k then (match b ⟨ds.map (fun d => some (.fz d)) ++ List.replicate (n - k) none, w⟩ with
    | .nx ρ => .ok (.fz .non) ρ.w
    | .rt o w => .ok o w
    | .exc x ρ => .exc x ρ.w
    | _ => .bad) else .bad
def rk' (ps : List (String × String)) (w : W) : D -> D -> Bool
  | .obj n, y => (match w[n]? with
    | some (.ins C _) => decide ((C, C) ∈ ps) && (tyn y).isSome
    | _ => false)
  | _, _ => false
@[simp] def pZ' (ps : List (String × String)) (f : MF) (a b : ME) : ME := fun ρ => (a ρ).bind fun x ρ1 => (b ρ1).bind fun y ρ2 => if rk' ps ρ2.w x y = true then (match f [x, y] ρ2.w with
    | .ok (.fz (.bl r)) w => .ok (.bl r) ⟨ρ2.env, w⟩
    | _ => .bad) else .bad
def fN' : D -> Option D
  | .tup ds => (bt' ds).map fun ns => .lst ((h0' ns).map .int)
  | _ => none
def xl' (x y : D) : Option (List D) := match x, y with
  | .str s, .lst ds => some (cm' (s.map chD) ds)
  | _, _ => none
end M
namespace M
def xG' (c : Nat) : D -> Option D
  | .str s => if s.length <= 1000000 then some (.str (s.filter fun d => decide (d ≠ c))) else none
  | _ => none
end M
namespace M
def xk' : D -> D -> Option (List D)
  | .tup a, .tup b => some (cm' a b)
  | _, _ => none
def xM' : O -> D -> Option O
  | .lst os, .lst ds => if os.length + ds.length <= dQ' then some (.lst (os ++ ds.map .fz)) else none
  | _, _ => none
mutual
def okO : O -> Bool
  | .fz d => dat d
  | .lst os => okOs os
  | .tup os => okOs os
  | _ => false
def okOs : List O -> Bool
  | [] => true
  | o :: r => okO o && okOs r
end
def okM : List Bool -> List (Option O) -> Bool
  | [], _ => true
  | _ :: _, [] => false
  | false :: m, _ :: r => okM m r
  | true :: m, some o :: r => okO o && okM m r
  | true :: _, none :: _ => false
def nP' : List Bool -> List (Option O) -> List (Option O)
  | _, [] => []
  | [], _ :: r => none :: nP' [] r
  | false :: m, _ :: r => none :: nP' m r
  | true :: m, x :: r => (x.map fun o => .fz (frz o)) :: nP' m r
def uM' : D -> Bool
  | .non => true | .bl _ => true | .int _ => true | .str _ => true
  | _ => false
def unO : O -> Option (List O)
  | .tup os => some os
  | .fz (.tup ds) => some (ds.map .fz)
  | _ => none
def r3' : List Nat -> List O -> PSt -> Option PSt
  | [], [], ρ => some ρ
  | i :: is, o :: os, ρ => if i < ρ.env.length then r3' is os ⟨ρ.env.set i (some o), ρ.w⟩ else none
  | _, _, _ => none
end M
namespace M
def ts' (a b : Tx) : Bool := !decide (b < a)
def sH' (l : List Tx) : List Tx := l.mergeSort ts'
def oq' : D -> Option D
  | .lst ds => (cv' ds).bind fun xs => if xs.length < 64 then some (.lst ((sH' xs).map .str)) else none
  | _ => none
end M
namespace M
end M
namespace M
end M
namespace M
def vF' (a b : Nat × Tx) : Bool := decide (a.1 < b.1) || (decide (a.1 = b.1) && ts' a.2 b.2)
def ek' : List D -> List O -> Option (List (Nat × Tx))
  | [], [] => some []
  | .int i :: ks, .fz (.str s) :: os => if 0 <= i then (ek' ks os).map ((i.toNat, s) :: ·) else none
  | _, _ => none
def pG' : O -> Option D
  | .dct ks os => (ek' ks os).map fun ps => .lst ((ps.mergeSort vF').map fun p => .tup [.int (p.1 : Nat), .str p.2])
  | _ => none
end M
namespace M
mutual
def xb' (kl kd : Bool) : D -> Bool
  | .tup ds => nodDs kl kd ds
  | .lst ds => !kl && nodDs kl kd ds
  | .scr ds => !kl && nodDs kl kd ds
  | .dct _ vs => !kd && nodDs kl kd vs
  | .dcx ks vs => nodDs kl kd ks && nodDs kl kd vs
  | _ => true
def nodDs (kl kd : Bool) : List D -> Bool
  | [] => true
  | d :: r => xb' kl kd d && nodDs kl kd r
end
mutual
def xa' (kl kd : Bool) : O -> Bool
  | .fz d => xb' kl kd d
  | .lst os => nodOs kl kd os
  | .tup os => nodOs kl kd os
  | .dct _ os => nodOs kl kd os
  | .dcx ks os => nodDs kl kd ks && nodOs kl kd os
  | .exn => true
  | .clo => true
def nodOs (kl kd : Bool) : List O -> Bool
  | [] => true
  | o :: r => xa' kl kd o && nodOs kl kd r
end
def lendO (kl kd : Bool) : O -> Bool
  | .fz _ => true
  | .lst os => kl && os.all ri'
  | .dct _ os => kd && os.all ri'
  | _ => false
def okL (kl kd : Bool) : List Bool -> List (Option O) -> Bool
  | [], _ => true
  | _ :: _, [] => false
  | false :: m, _ :: r => okL kl kd m r
  | true :: m, some o :: r => lendO kl kd o && okL kl kd m r
  | true :: _, none :: _ => false
def uT' : O -> Nat
  | .fz _ => 0
  | _ => 1
def rR' : List Bool -> List (Option O) -> Nat
  | true :: m, some o :: r => uT' o + rR' m r
  | false :: m, _ :: r => rR' m r
  | _, _ => 0
def xF' : D -> D -> Option D
  | .int i, .int j => if 0 <= j /\ j <= 1000 /\ small64 i = true then some (.int (i * 2 ^ j.toNat)) else none
  | _, _ => none
def xE' : D -> D -> Option D
  | .int i, .int j => if 0 <= j then some (.int (i / 2 ^ j.toNat)) else none
  | _, _ => none
@[simp] def gL (is : List Nat) : MG := fun d ρ => match d with
  | .lst ds => gNs is ds ρ
  | _ => none
def gSq : List MG -> List D -> PSt -> Option PSt
  | [], [], ρ => some ρ
  | g :: gs, d :: ds, ρ => (g d ρ).bind (gSq gs ds)
  | _, _, _ => none
def gTg (gs : List MG) : MG := fun d ρ => match d with
  | .tup ds => gSq gs ds ρ
  | _ => none
end M
namespace M
end M
namespace M
end M
namespace M
end M
namespace M
end M
namespace M
end M
namespace M
end M
namespace M
def tO' : List Bool -> List D -> Option (List (Option O))
  | [], [] => some []
  | true :: m, ds => (tO' m ds).map (some .clo :: ·)
  | false :: m, d :: ds => (tO' m ds).map (some (.fz d) :: ·)
  | _, _ => none
inductive AK where
  | e (a : ME) | c (f : MF) (js : List Nat)
end M
namespace M
def allFz : List O -> Option (List D)
  | [] => some []
  | .fz d :: r => (allFz r).map (d :: ·)
  | _ => none
end M
namespace M
end M
namespace M
end M
namespace S
open PySem PySem.Spec PyProof.Rows L2
def xf' (K : PySem.W.Frag) (ps : List (String × String)) (g : Addr) : Bool := ps.all fun p => decide (PySem.W.findIn K (.ref (He.ga K (Str.ofString p.1))) "__eq__" = some (some (.ref g))) && (PySem.W.isFn K (.ref g) &&
  PySem.W.notFirst K (He.ga K (Str.ofString p.1)) (.ref (He.ga K (Str.ofString p.2))))
def ra' (K : PySem.W.Frag) (t : M.ET) (c : String) : Bool := (t.all fun e => !decide (e.2.1 = c) || ((He.Fa.cls (Str.ofString e.1)).ok K && (decide (PySem.W.findIn K (.ref (He.ga K (Str.ofString e.1))) "__class__" = some (some (.builtin "object.__class__"))) &&
    (decide (PySem.W.specialIn K (.builtin "object.__class__") "__get__" = some (some (.builtin "getset_descriptor.__get__"))) && (decide (PySem.W.takesIn K (.builtin "object.__class__") = some true) && (decide (PySem.W.mroIn K (He.ga K (Str.ofString e.1)) (.type "object") = some true) &&
    decide (PySem.W.kitOne K (.ref (He.ga K (Str.ofString e.1))) (.ref (He.ga K (Str.ofString c))) = some e.2.2))))))) &&
  ["NoneType", "bool", "int", "str", "tuple", "list", "dict"].all fun n => decide (PySem.W.kitOne K (.type n) (.ref (He.ga K (Str.ofString c))) = some false)
def xJ' (K : PySem.W.Frag) (ps : List (String × String)) (g : Addr) : Bool := ps.all fun p => decide (PySem.W.findIn K (.ref (He.ga K (Str.ofString p.1))) "__ne__" = some (some (.builtin "object.__ne__"))) &&
  (decide (PySem.W.findIn K (.ref (He.ga K (Str.ofString p.1))) "__eq__" = some (some (.ref g))) && (PySem.W.isFn K (.ref g) && (decide (PySem.W.mroIn K (He.ga K (Str.ofString p.1)) (.type "object") = some true) &&
  PySem.W.notFirst K (He.ga K (Str.ofString p.1)) (.ref (He.ga K (Str.ofString p.2))))))
def wR' : Arguments -> Option (Str × Str)
  | ⟨[], [a, b], none, [], [], none, []⟩ => some (a.arg, b.arg)
  | _ => none
def wP' : FuncBody -> Option (Str × Str × Str × Str × Str)
  | .stmts [.Expr (.Call (.Attribute (.Call (.Name s _) [] [] _) m p) [.Constant (.str _) _ _] [] q) _, .Assign [.Attribute (.Name a _) f _] (.Name b _) _] => if (p.endLine == q.line) = true then some (s, m, a, f, b) else none
  | _ => none
def tN' (K : PySem.W.Frag) (ps : List (String × String)) (g : Addr) : Bool := ps.all fun p => !decide (p.1 = p.2) || (decide (PySem.W.findIn K (.ref (He.ga K (Str.ofString p.1))) "__eq__" = some (some (.ref g))) && (PySem.W.isFn K (.ref g) &&
  ["NoneType", "bool", "int", "str", "tuple", "list", "dict"].all fun n => PySem.W.notFirst K (He.ga K (Str.ofString p.1)) (.type n)))
end S
namespace M
def isT : ET := [("Machine", "Machine", true)]
def f_is_integer : MF := fnM 1 1 ((bR' (oE (oR' (eUn (bs' "int") (eV 0)) (tP' (eUn (bs' "bool") (eV 0)))))))
def f_is_string_of : MF := fnM 2 3 ((aS' (sIf (fa' (tE (eUn (bs' "str") (eV 0)))) (bR' (oE (eC (.bl false)))) ba')
  (aS' (j1' (nl' (eV 0)) (gN 2) (sIf (tE (eOp fm' (eV 2) (eV 1))) (bR' (oE (eC (.bl false)))) ba'))
  (bR' (oE (eC (.bl true)))))))
def f_is_ascending : MF := fnM 1 3 ((aS' (j1' (tG' (eV 0) (eSl (eV 0) (pSo (eC (.int 1))) pNo)) (gT [1, 2]) (sIf (tE (eOp pGe (eV 1) (eV 2))) (bR' (oE (eC (.bl false)))) ba'))
  (bR' (oE (eC (.bl true))))))
def f_is_choice : MF := fnM 2 2 ((bR' (oE (oR' (eO (a3' f_is_string_of (ae' (eV 0) (ae' (eV 1) bc')))) (eO (a3' f_is_ascending (ae' (eV 0) bc')))))))
def f_are_states : MF := fnM 2 3 ((aS' (sIf (fa' (tE (eUn (bs' "tuple") (eV 0)))) (bR' (oE (eC (.bl false)))) ba')
  (aS' (j1' (nl' (eV 0)) (gN 2) (sIf (tOr (fa' (tE (eO (a3' f_is_integer (ae' (eV 2) bc'))))) (tOr (tE (eOp pLt (eV 2) (eC (.int 0)))) (tE (eOp pGe (eV 2) (eV 1))))) (bR' (oE (eC (.bl false)))) ba'))
  (bR' (oE (eC (.bl true)))))))
def f_is_table : MF := fnM 2 3 ((aS' (sIf (tOr (fa' (tE (eUn (bs' "tuple") (eV 0)))) (fa' (tE (ey' pLe pLe (eC (.int 1)) (eUn cG' (eV 0)) (eC (.int 6)))))) (bR' (oE (eC (.bl false)))) ba')
  (aS' (j1' (nl' (eV 0)) (gN 2) (sIf (tOr (fa' (tE (eO (a3' f_are_states (ae' (eV 2) (ae' (eUn cG' (eV 0)) bc')))))) (tE (eOp pNe (eUn cG' (eV 2)) (eUn cG' (eV 1))))) (bR' (oE (eC (.bl false)))) ba'))
  (bR' (oE (eC (.bl true)))))))
def f_Machine_keep : MF := fnM 4 4 ((aS' (sFld ["Machine"] (eV 0) "kept_letters" (oE (eV 1)))
  (aS' (sFld ["Machine"] (eV 0) "kept_table" (oE (eV 2)))
  (aS' (sFld ["Machine"] (eV 0) "kept_accepts" (oE (eV 3)))
  (aS' (sFld ["Machine"] (eV 0) "kept_least" (oE (eC .non)))
  (aS' (sFld ["Machine"] (eV 0) "kept_field" (oE (eC .non)))
  (aS' (sFld ["Machine"] (eV 0) "kept_lots" kG')
  (sFld ["Machine"] (eV 0) "kept_more" kG'))))))))
def f_Machine___init__ : MF := fnM 4 4 ((aS' (sIf (tOr (fa' (tE (eO (a3' f_is_choice (ae' (eV 1) (ae' (eC (.str [97, 98, 99, 100, 101, 102, 103, 104, 105, 106, 107, 108, 109, 110, 111, 112, 113, 114, 115, 116, 117, 118, 119, 120, 121, 122])) bc')))))) (fa' (tE (ey' pLe pLe (eC (.int 1)) (eUn cG' (eV 1)) (eC (.int 4)))))) uN' ba')
  (aS' (sIf (fa' (tE (eO (a3' f_is_table (ae' (eV 2) (ae' (eV 1) bc')))))) uN' ba')
  (aS' (sIf (tOr (fa' (tE (eO (a3' f_are_states (ae' (eV 3) (ae' (eUn cG' (eV 2)) bc')))))) (fa' (tE (eO (a3' f_is_ascending (ae' (eV 3) bc')))))) uN' ba')
  (ms' (eO (dh' ["Machine"] "keep" f_Machine_keep (eV 0) (ae' (eV 1) (ae' (eV 2) (ae' (eV 3) bc'))))))))))
def f_Machine_letters : MF := fnM 1 1 ((bR' (oE (nt' ["Machine"] (eV 0) "kept_letters"))))
def f_Machine_table : MF := fnM 1 1 ((bR' (oE (nt' ["Machine"] (eV 0) "kept_table"))))
def f_Machine_accepts : MF := fnM 1 1 ((bR' (oE (nt' ["Machine"] (eV 0) "kept_accepts"))))
def f_Machine_parts : MF := fnM 1 1 ((bR' (oE (kK' (ae' (nt' ["Machine"] (eV 0) "kept_letters") (ae' (nt' ["Machine"] (eV 0) "kept_table") (ae' (nt' ["Machine"] (eV 0) "kept_accepts") bc')))))))
def f_Machine___eq__ : MF := fnM 2 2 ((bR' (oE (oR' (tQ' isT "Machine" (eV 1)) (eOp pEq (eO (dh' ["Machine"] "parts" f_Machine_parts (eV 0) bc')) (eO (dh' ["Machine"] "parts" f_Machine_parts (eV 1) bc')))))))
def f__law_hand : MF := fnM 1 3 ((aS' (bj' 1 (oLc [2] (nl' (eSl (eV 0) pNo (pSo (eC (.int 63))))) (gN 2) tT (eUn uS' (eUn gc' (eV 2)))))
  (bR' (tj' (ae' (eV 1) (ae' (eC (.int 0)) (ae' (eC (.int 0)) (ae' (eOp bG' (eC (.int 1)) (eUn cG' (eV 1))) (ae' (eC (.int 0)) bc')))))))))
def f__law_draw : MF := fnM 2 5 ((aS' (sIf (pE' (tE (eOp pEq (gd' (eV 0) (eC (.int 2))) (eC (.int 0)))) (tE (eOp pLt (gd' (eV 0) (eC (.int 1))) (eUn cG' (gd' (eV 0) (eC (.int 0))))))) (aS' (bj' 2 (oE (eOp pIx (gd' (eV 0) (eC (.int 0))) (gd' (eV 0) (eC (.int 1))))))
  (aS' (fJ' (eV 0) (eC (.int 1)) (eOp bG' (gd' (eV 0) (eC (.int 1))) (eC (.int 1))))
  (aS' (fJ' (eV 0) (eC (.int 3)) (eOp gN' (eUn gc' (eOp bG' (eOp bG' (eOp ib' (gd' (eV 0) (eC (.int 3))) (eC (.int 69621))) (eV 2)) (eC (.int 11)))) (eC (.int 2147483629))))
  (sIf (tE (eOp pGe (eV 2) (eOp tb' (eC (.int 10)) (eC (.int 18))))) (fJ' (eV 0) (eC (.int 2)) (eV 2)) ba')))) ba')
  (aS' (sIf (tE (eOp pGt (gd' (eV 0) (eC (.int 2))) (eC (.int 0)))) (aS' (bj' 3 (oE (eOp gN' (eUn gc' (gd' (eV 0) (eC (.int 2)))) (eV 1))))
  (aS' (fJ' (eV 0) (eC (.int 2)) (eOp gO' (gd' (eV 0) (eC (.int 2))) (eV 1)))
  (bR' (oV 3)))) ba')
  (aS' (fJ' (eV 0) (eC (.int 4)) (eOp bG' (gd' (eV 0) (eC (.int 4))) (eC (.int 1))))
  (aS' (bj' 4 (oE (eOp gN' (eUn gc' (eOp ib' (eUn gc' (eOp bG' (gd' (eV 0) (eC (.int 3))) (eOp ib' (eC (.int 7919)) (gd' (eV 0) (eC (.int 4)))))) (eC (.int 48271)))) (eC (.int 2147483647)))))
  (aS' (bj' 4 (oE (eOp gN' (eUn gc' (eOp ib' (eV 4) (eOp bG' (eOp gO' (eV 4) (eC (.int 1009))) (eC (.int 69621))))) (eC (.int 2147483647)))))
  (aS' (bj' 4 (oE (eOp gN' (eUn gc' (eOp ib' (eV 4) (eOp bG' (eOp gO' (eV 4) (eC (.int 2003))) (eC (.int 40692))))) (eC (.int 2147483399)))))
  (bR' (oE (eOp gN' (eUn gc' (eOp gO' (eV 4) (eC (.int 16)))) (eV 1)))))))))))
def f__law_letters : MF := fnM 3 7 ((aS' (bj' 3 (oE (eV 1)))
  (aS' (bj' 4 (oE (eC (.str []))))
  (aS' (j1' (bx' (eV 2)) (gN 5) (aS' (bj' 6 (a3' f__law_draw (ae' (eV 0) (ae' (eUn cG' (eV 3)) bc'))))
  (aS' (bj' 4 (oE (eOp bG' (eV 4) (eOp pIx (eV 3) (eV 6)))))
  (bj' 3 (oE (eOp bG' (eSl (eV 3) pNo (pSo (eV 6))) (eSl (eV 3) (pSo (eOp bG' (eV 6) (eC (.int 1)))) pNo)))))))
  (bR' (oV 4))))))
def f__law_shuffled : MF := fnM 2 5 ((aS' (bj' 2 (mV' (eUn el' (eV 1))))
  (aS' (bj' 3 (mV' (kL' bc')))
  (aS' (j1' (bx' (eUn cG' (eV 1))) (gN 4) (pH' 3 (oE (g6' 2 (eO (a3' f__law_draw (ae' (eV 0) (ae' (iq' 2) bc'))))))))
  (bR' (oV 3))))))
def f__law_rows : MF := fnM 4 11 ((aS' (bj' 4 (mV' (kL' bc')))
  (aS' (bj' 5 (oLc [9] (bx' (eV 3)) (gN 9) tT (eO (a3' f__law_draw (ae' (eV 0) (ae' (eV 2) bc'))))))
  (aS' (bj' 6 (oLc [9] (bx' (eV 3)) (gN 9) tT (eO (a3' f__law_shuffled (ae' (eV 0) (ae' (eO (mV' (eUn cP' (eV 2)))) bc'))))))
  (aS' (j1' (bx' (eV 2)) (gN 7) (aS' (bj' 8 (mV' (kL' bc')))
  (aS' (j1' (bx' (eV 3)) (gN 9) (aS' (bj' 10 (a3' f__law_draw (ae' (eV 0) (ae' (eV 2) bc'))))
  (aS' (sIf (tE (eOp pEq (eV 1) (eC (.int 3)))) (bj' 10 (oE (eOp gN' (eUn gc' (eOp bG' (eV 7) (eOp pIx (eV 5) (eV 9)))) (eV 2)))) ba')
  (aS' (sIf (tE (eOp pEq (eV 1) (eC (.int 4)))) (bj' 10 (oE (eOp kF' (eOp pO' (eV 2) (eC (.int 1))) (eOp bG' (eV 7) (eOp pIx (eV 5) (eV 9)))))) ba')
  (aS' (sIf (tE (eOp pEq (eV 1) (eC (.int 5)))) (aS' (bj' 10 (oE (eV 7)))
  (sIf (tE (eOp pEq (eV 7) (eC (.int 0)))) (bj' 10 (oE (eOp gN' (eUn gc' (eOp bG' (eC (.int 1)) (eV 9))) (eV 2)))) ba')) ba')
  (aS' (sIf (tE (eOp pEq (eV 1) (eC (.int 6)))) (bj' 10 (oE (eOp gN' (eUn gc' (eOp bG' (eC (.int 1)) (eV 9))) (eV 2)))) ba')
  (aS' (sIf (tE (eOp pEq (eV 1) (eC (.int 7)))) (bj' 10 (oE (eOp kF' (eOp pO' (eV 2) (eC (.int 1))) (eOp bG' (eV 7) (eUn gc' (eOp pEq (eOp gN' (eV 7) (eV 3)) (eV 9))))))) ba')
  (aS' (sIf (tE (eOp pEq (eV 1) (eC (.int 8)))) (aS' (bj' 10 (oE (eOp pO' (eV 2) (eC (.int 1)))))
  (sIf (pE' (tE (eOp pLt (eV 7) (eOp pO' (eV 2) (eC (.int 1))))) (tE (eOp pEq (eOp gN' (eV 7) (eV 3)) (eV 9)))) (bj' 10 (oE (eOp gN' (eUn gc' (eOp bG' (eV 7) (eC (.int 1)))) (eOp pO' (eV 2) (eC (.int 1)))))) ba')) ba')
  (aS' (sIf (tE (eOp pEq (eV 1) (eC (.int 9)))) (bj' 10 (oE (eOp pIx (eOp pIx (eV 6) (eV 9)) (eV 7)))) ba')
  (pH' 8 (oE (eV 10))))))))))))
  (pH' 4 (oE (eUn b3' (eV 8)))))))
  (bR' (oE (eUn b3' (eV 4)))))))))
def f__law_parts : MF := fnM 3 10 ((aS' (bj' 3 (a3' f__law_draw (ae' (eV 0) (ae' (eC (.int 10)) bc'))))
  (aS' (bj' 4 (oE (eOp bG' (eC (.int 1)) (eO (a3' f__law_draw (ae' (eV 0) (ae' (eV 1) bc')))))))
  (aS' (bj' 5 (oE (eOp bG' (eC (.int 1)) (eO (a3' f__law_draw (ae' (eV 0) (ae' (eV 2) bc')))))))
  (aS' (sIf (tE (eOp pGt (eV 3) (eC (.int 4)))) (aS' (bj' 5 (oE (eOp mO' (eC (.int 2)) (eV 5))))
  (bj' 4 (oE (eOp mO' (eOp kF' (eC (.int 2)) (eV 1)) (eV 4))))) ba')
  (aS' (bj' 6 (oE (eMt eX' (eC (.str [])) (ae' (eUn bY' (eO (a3' f__law_letters (ae' (eV 0) (ae' (eC (.str [97, 98, 99, 100, 101, 102, 103, 104, 105, 106, 107, 108, 109, 110, 111, 112, 113, 114, 115, 116, 117, 118, 119, 120, 121, 122])) (ae' (eV 4) bc')))))) bc'))))
  (aS' (bj' 7 (a3' f__law_rows (ae' (eV 0) (ae' (eV 3) (ae' (eV 5) (ae' (eV 4) bc'))))))
  (aS' (bj' 8 (oE (eUn b3' (eLc [9] (bx' (eV 5)) (gN 9) (tE (eOp pEq (eO (a3' f__law_draw (ae' (eV 0) (ae' (eC (.int 2)) bc')))) (eC (.int 1)))) (eV 9)))))
  (bR' (oE (kK' (ae' (eV 6) (ae' (eV 7) (ae' (eV 8) bc'))))))))))))))
def f__law_odd : MF := fnM 1 2 ((aS' (bj' 1 (oE (kL' (ae' (eC .non) (ae' (eC (.bl true)) (ae' (eC (.bl false)) (ae' (eC (.int 0)) (ae' (eUn uR' (eC (.int 1))) (ae' (eC (.int 7)) (ae' (eC (.str [])) (ae' (eC (.str [63])) (ae' (eC (.str [65])) (ae' (kL' bc') (ae' (kK' bc') (ae' (eO kG') (ae' (kL' (ae' (eC (.str [97])) bc')) (ae' (kK' (ae' (eC (.str [97])) bc')) (ae' (eO (gV' false (eC (.str [97])) (eC (.int 0)))) (ae' (kL' (ae' (kL' (ae' (eC (.int 0)) bc')) bc')) bc')))))))))))))))))))
  (bR' (oE (eOp pIx (eV 1) (eO (a3' f__law_draw (ae' (eV 0) (ae' (eC (.int 16)) bc')))))))))
def f__law_flag : MF := fnM 2 2 ((bR' (oE (oR' (eUn (bs' "bool") (eV 0)) (eOp pEq (eV 0) (eV 1))))))
def f__law_more : MF := fnM 2 4 ((aS' (sIf (tE (eOp pEq (eUn cG' (eV 1)) (eC (.int 4)))) (bR' (oE (eSl (eV 1) pNo (pSo (eC (.int 3)))))) ba')
  (aS' (bj' 2 (oE (eMt eX' (eC (.str [])) (ae' (eLc [3] (nl' (eC (.str [97, 98, 99, 100, 101, 102, 103, 104, 105, 106, 107, 108, 109, 110, 111, 112, 113, 114, 115, 116, 117, 118, 119, 120, 121, 122]))) (gN 3) (tE (eOp fm' (eV 3) (eV 1))) (eV 3)) bc'))))
  (bR' (oE (eMt eX' (eC (.str [])) (ae' (eUn bY' (eOp bG' (eV 1) (eOp pIx (eV 2) (eO (a3' f__law_draw (ae' (eV 0) (ae' (eUn cG' (eV 2)) bc'))))))) bc')))))))
def f__law_near : MF := fnM 2 12 ((aS' (sP' (gT [2, 3, 4]) (eV 1))
  (aS' (bj' 5 (a3' f__law_draw (ae' (eV 0) (ae' (eC (.int 8)) bc'))))
  (aS' (bj' 6 (oE (eUn cG' (eV 3))))
  (aS' (bj' 7 (a3' f__law_draw (ae' (eV 0) (ae' (eV 6) bc'))))
  (aS' (sIf (tE (eOp pEq (eV 5) (eC (.int 1)))) (bj' 2 (oE (eMt eX' (eC (.str [])) (ae' (eUn bY' (eO (a3' f__law_letters (ae' (eV 0) (ae' (eC (.str [97, 98, 99, 100, 101, 102, 103, 104, 105, 106, 107, 108, 109, 110, 111, 112, 113, 114, 115, 116, 117, 118, 119, 120, 121, 122])) (ae' (eUn cG' (eV 2)) bc')))))) bc')))) ba')
  (aS' (sIf (tE (eOp pEq (eV 5) (eC (.int 2)))) (aS' (bj' 8 (a3' f__law_draw (ae' (eV 0) (ae' (eUn cG' (eV 2)) bc'))))
  (aS' (bj' 9 (oE (eOp bG' (eOp bG' (eSl (eOp pIx (eV 3) (eV 7)) pNo (pSo (eV 8))) (kK' (ae' (eO (a3' f__law_draw (ae' (eV 0) (ae' (eV 6) bc')))) bc'))) (eSl (eOp pIx (eV 3) (eV 7)) (pSo (eOp bG' (eV 8) (eC (.int 1)))) pNo))))
  (bj' 3 (oE (eOp bG' (eOp bG' (eSl (eV 3) pNo (pSo (eV 7))) (kK' (ae' (eV 9) bc'))) (eSl (eV 3) (pSo (eOp bG' (eV 7) (eC (.int 1)))) pNo)))))) ba')
  (aS' (sIf (pE' (tE (eOp pEq (eV 5) (eC (.int 3)))) (tE (eOp pIn (eV 7) (eV 4)))) (bj' 4 (oE (eUn b3' (eLc [11] (nl' (eV 4)) (gN 11) (tE (eOp pNe (eV 11) (eV 7))) (eV 11))))) (sIf (tE (eOp pEq (eV 5) (eC (.int 3)))) (bj' 4 (oE (eUn b3' (eUn fN' (eOp bG' (eV 4) (kK' (ae' (eV 7) bc'))))))) ba'))
  (aS' (sIf (pE' (tE (eOp pEq (eV 5) (eC (.int 4)))) (tE (eOp pLt (eV 6) (eC (.int 6))))) (bj' 3 (oE (eOp bG' (eV 3) (kK' (ae' (eOp pIx (eV 3) (eV 7)) bc'))))) ba')
  (aS' (sIf (tE (eOp pEq (eV 5) (eC (.int 5)))) (aS' (bj' 10 (a3' f__law_more (ae' (eV 0) (ae' (eV 2) bc'))))
  (aS' (bj' 3 (oE (eUn b3' (eLc [9] (nl' (eV 3)) (gN 9) tT (eSl (eOp bG' (eV 9) (eV 9)) pNo (pSo (eUn cG' (eV 10))))))))
  (bj' 2 (oE (eV 10))))) ba')
  (aS' (sIf (tE (eOp pEq (eV 5) (eC (.int 6)))) (bR' (a3' f__law_parts (ae' (eV 0) (ae' (eC (.int 4)) (ae' (eC (.int 6)) bc'))))) ba')
  (bR' (oE (kK' (ae' (eV 2) (ae' (eV 3) (ae' (eV 4) bc')))))))))))))))))
def f__law_is_parts : MF := fnM 2 2 ((aS' (sIf (tOr (tE (eOp pNe (eO (dh' ["Machine"] "letters" f_Machine_letters (eV 0) bc')) (eOp pIx (eV 1) (eC (.int 0))))) (fa' (tE (eUn (bs' "str") (eO (dh' ["Machine"] "letters" f_Machine_letters (eV 0) bc')))))) (bR' (oE (eC (.bl false)))) ba')
  (bR' (oE (oR' (eOp qO' (eUn or' (eO (dh' ["Machine"] "table" f_Machine_table (eV 0) bc'))) (eUn or' (eOp pIx (eV 1) (eC (.int 1))))) (eOp qO' (eUn or' (eO (dh' ["Machine"] "accepts" f_Machine_accepts (eV 0) bc'))) (eUn or' (eOp pIx (eV 1) (eC (.int 2))))))))))
def f_law : MF := fnM 1 9 ((aS' (bj' 1 (a3' f__law_hand (ae' (eV 0) bc')))
  (aS' (bj' 2 (a3' f__law_parts (ae' (eV 1) (ae' (eC (.int 4)) (ae' (eC (.int 6)) bc')))))
  (aS' (bj' 3 (if' "Machine" f_Machine___init__ (ae' (eOp pIx (eV 2) (eC (.int 0))) (ae' (eOp pIx (eV 2) (eC (.int 1))) (ae' (eOp pIx (eV 2) (eC (.int 2))) bc')))))
  (aS' (j1' (bx' (eC (.int 8))) (gN 4) (aS' (bj' 5 (a3' f__law_near (ae' (eV 1) (ae' (eV 2) bc'))))
  (aS' (bj' 6 (if' "Machine" f_Machine___init__ (ae' (eOp pIx (eV 5) (eC (.int 0))) (ae' (eOp pIx (eV 5) (eC (.int 1))) (ae' (eOp pIx (eV 5) (eC (.int 2))) bc')))))
  (aS' (sIf (tOr (fa' (tE (eO (a3' f__law_is_parts (ae' (eV 3) (ae' (eV 2) bc')))))) (fa' (tE (eO (a3' f__law_is_parts (ae' (eV 6) (ae' (eV 5) bc'))))))) (bR' (oE (eC (.bl false)))) ba')
  (aS' (bj' 7 (oE (eOp pEq (eV 5) (eV 2))))
  (aS' (sIf (tOr (fa' (tE (eO (a3' f__law_flag (ae' (pY' [("Machine", "Machine")] f_Machine___eq__ (eV 3) (eV 6)) (ae' (eV 7) bc')))))) (tOr (fa' (tE (eO (a3' f__law_flag (ae' (pY' [("Machine", "Machine")] f_Machine___eq__ (eV 6) (eV 3)) (ae' (eV 7) bc')))))) (tE (eOp cQ' (pY' [("Machine", "Machine")] f_Machine___eq__ (eV 3) (eV 3)) (eC (.bl true)))))) (bR' (oE (eC (.bl false)))) ba')
  (aS' (bj' 8 (a3' f__law_odd (ae' (eV 1) bc')))
  (sIf (tOr (tE (eOp cQ' (pZ' [("Machine", "Machine")] f_Machine___eq__ (eV 3) (eV 8)) (eC (.bl false)))) (tOr (tE (eOp cQ' (pZ' [("Machine", "Machine")] f_Machine___eq__ (eV 3) (eV 2)) (eC (.bl false)))) (tE (eOp cQ' (pZ' [("Machine", "Machine")] f_Machine___eq__ (eV 3) (eOp pIx (eV 2) (eOp gN' (eV 4) (eC (.int 3))))) (eC (.bl false)))))) (bR' (oE (eC (.bl false)))) ba'))))))))
  (bR' (oE (eC (.bl true)))))))))
end M
namespace S
open PySem PySem.Spec PyProof.Rows L2
def top (i : Nat) : Stmt := PySem.Challenge.pw_saidacross_k01_parts_and_equal_machines.main.body.getD i (.Pass ⟨0, 0, 0, 0⟩)
abbrev aM' : Stmt := top 5
abbrev hG' : List Str := ["thing"]
theorem fI' : FnScope hG' ["thing"] (defScope aM') := (by walk_at "3")
def c1' : He.DefD := ⟨("is_integer", none), "is_integer", "is_integer", defArgs aM', defBody aM', defScope aM', [], []⟩
abbrev ax' : Stmt := top 6
abbrev e3' : List Str := ["thing", "signs", "sign"]
theorem cb' : FnScope e3' ["thing", "signs"] (defScope ax') := (by walk_at "3")
def cg' : He.DefD := ⟨("is_string_of", none), "is_string_of", "is_string_of", defArgs ax', defBody ax', defScope ax', [], []⟩
abbrev ay' : Stmt := top 7
abbrev e4' : List Str := ["thing", "one", "other"]
theorem bB' : FnScope e4' ["thing"] (defScope ay') := (by walk_at "3")
def ch' : He.DefD := ⟨("is_ascending", none), "is_ascending", "is_ascending", defArgs ay', defBody ay', defScope ay', [], []⟩
abbrev aW' : Stmt := top 8
abbrev iS' : List Str := ["thing", "signs"]
theorem gH' : FnScope iS' ["thing", "signs"] (defScope aW') := (by walk_at "3")
def dz' : He.DefD := ⟨("is_choice", none), "is_choice", "is_choice", defArgs aW', defBody aW', defScope aW', [], []⟩
abbrev aN' : Stmt := top 10
abbrev hI' : List Str := ["thing", "many", "state"]
theorem cM' : FnScope hI' ["thing", "many"] (defScope aN') := (by walk_at "3")
def c2' : He.DefD := ⟨("are_states", none), "are_states", "are_states", defArgs aN', defBody aN', defScope aN', [], []⟩
abbrev a8' : Stmt := top 11
abbrev kW' : List Str := ["thing", "letters", "row"]
theorem ea' : FnScope kW' ["thing", "letters"] (defScope a8') := (by walk_at "3")
def eB' : He.DefD := ⟨("is_table", none), "is_table", "is_table", defArgs a8', defBody a8', defScope a8', [], []⟩
abbrev al' : Stmt := inClass (top 12) 0
abbrev c8' : List Str := ["self", "letters", "table", "accepts"]
theorem cA' : FnScope c8' ["self", "letters", "table", "accepts"] (defScope al') := (by walk_at "3")
def bD' : He.DefD := ⟨("Machine", some "__init__"), "__init__", "Machine.__init__", defArgs al', defBody al', defScope al', [], []⟩
abbrev aA' : Stmt := inClass (top 12) 1
abbrev e6' : List Str := ["self", "letters", "table", "accepts"]
theorem ec' : FnScope e6' ["self", "letters", "table", "accepts"] (defScope aA') := (by walk_at "3")
def cj' : He.DefD := ⟨("Machine", some "keep"), "keep", "Machine.keep", defArgs aA', defBody aA', defScope aA', [], []⟩
abbrev am' : Stmt := inClass (top 12) 2
abbrev dr' : List Str := ["self"]
theorem cN' : FnScope dr' ["self"] (defScope am') := (by walk_at "3")
def bM' : He.DefD := ⟨("Machine", some "letters"), "letters", "Machine.letters", defArgs am', defBody am', defScope am', [], []⟩
abbrev au' : Stmt := inClass (top 12) 3
abbrev eP' : List Str := ["self"]
theorem dJ' : FnScope eP' ["self"] (defScope au') := (by walk_at "3")
def b8' : He.DefD := ⟨("Machine", some "table"), "table", "Machine.table", defArgs au', defBody au', defScope au', [], []⟩
abbrev an' : Stmt := inClass (top 12) 4
abbrev ds' : List Str := ["self"]
theorem cO' : FnScope ds' ["self"] (defScope an') := (by walk_at "3")
def bN' : He.DefD := ⟨("Machine", some "accepts"), "accepts", "Machine.accepts", defArgs an', defBody an', defScope an', [], []⟩
abbrev av' : Stmt := inClass (top 12) 5
abbrev eQ' : List Str := ["self"]
theorem dK' : FnScope eQ' ["self"] (defScope av') := (by walk_at "3")
def b9' : He.DefD := ⟨("Machine", some "parts"), "parts", "Machine.parts", defArgs av', defBody av', defScope av', [], []⟩
abbrev ap' : Stmt := inClass (top 12) 6
abbrev dP' : List Str := ["self", "other"]
theorem dc' : FnScope dP' ["self", "other"] (defScope ap') := (by walk_at "3")
def bU' : He.DefD := ⟨("Machine", some "__eq__"), "__eq__", "Machine.__eq__", defArgs ap', defBody ap', defScope ap', [], []⟩
abbrev aR' : Stmt := top 14
abbrev eO' : List Str := ["_law_script", "_law_cells", "_law_cell"]
theorem cc' : FnScope eO' ["_law_script"] (defScope aR') := (by walk_at "3")
def dD' : He.DefD := ⟨("_law_hand", none), "_law_hand", "_law_hand", defArgs aR', defBody aR', defScope aR', [], []⟩
abbrev aY' : Stmt := top 15
abbrev iU' : List Str := ["_law_hand_here", "_law_many", "_law_cell", "_law_digit", "_law_number"]
theorem bi' : FnScope iU' ["_law_hand_here", "_law_many"] (defScope aY') := (by walk_at "3")
def dF' : He.DefD := ⟨("_law_draw", none), "_law_draw", "_law_draw", defArgs aY', defBody aY', defScope aY', [], []⟩
abbrev az' : Stmt := top 16
abbrev e5' : List Str := ["_law_hand_here", "_law_signs", "_law_many", "_law_rest", "_law_found", "_law_turn", "_law_at"]
theorem aP' : FnScope e5' ["_law_hand_here", "_law_signs", "_law_many"] (defScope az') := (by walk_at "3")
def ci' : He.DefD := ⟨("_law_letters", none), "_law_letters", "_law_letters", defArgs az', defBody az', defScope az', [], []⟩
abbrev aK' : Stmt := top 17
abbrev cE' : List Str := ["_law_hand_here", "_law_kind", "_law_size", "_law_many", "_law_rows_here", "_law_steps", "_law_turns", "_law_state", "_law_row", "_law_letter", "_law_to"]
theorem aj' : FnScope cE' ["_law_hand_here", "_law_kind", "_law_size", "_law_many"] (defScope aK') := (by walk_at "3")
def dA' : He.DefD := ⟨("_law_rows", none), "_law_rows", "_law_rows", defArgs aK', defBody aK', defScope aK', [], []⟩
abbrev as' : Stmt := top 18
abbrev eL' : List Str := ["_law_hand_here", "_law_things", "_law_rest", "_law_found", "_law_turn"]
theorem bf' : FnScope eL' ["_law_hand_here", "_law_things"] (defScope as') := (by walk_at "3")
def b6' : He.DefD := ⟨("_law_shuffled", none), "_law_shuffled", "_law_shuffled", defArgs as', defBody as', defScope as', [], []⟩
abbrev aH' : Stmt := top 19
abbrev dG' : List Str := ["_law_hand_here", "_law_most", "_law_states", "_law_kind", "_law_many", "_law_size", "_law_letters_here", "_law_table", "_law_accepts", "_law_state"]
theorem aB' : FnScope dG' ["_law_hand_here", "_law_most", "_law_states"] (defScope aH') := (by walk_at "3")
def c4' : He.DefD := ⟨("_law_parts", none), "_law_parts", "_law_parts", defArgs aH', defBody aH', defScope aH', [], []⟩
abbrev a9' : Stmt := top 20
abbrev kX' : List Str := ["_law_hand_here", "_law_odd_here"]
theorem eb' : FnScope kX' ["_law_hand_here"] (defScope a9') := (by walk_at "3")
def eC' : He.DefD := ⟨("_law_odd", none), "_law_odd", "_law_odd", defArgs a9', defBody a9', defScope a9', [], []⟩
abbrev aX' : Stmt := top 21
abbrev iT' : List Str := ["_law_found", "_law_due"]
theorem gI' : FnScope iT' ["_law_found", "_law_due"] (defScope aX') := (by walk_at "3")
def dE' : He.DefD := ⟨("_law_flag", none), "_law_flag", "_law_flag", defArgs aX', defBody aX', defScope aX', [], []⟩
abbrev aQ' : Stmt := top 22
abbrev eM' : List Str := ["_law_hand_here", "_law_letters_here", "_law_free", "_law_sign"]
theorem bK' : FnScope eM' ["_law_hand_here", "_law_letters_here"] (defScope aQ') := (by walk_at "3")
def dC' : He.DefD := ⟨("_law_more", none), "_law_more", "_law_more", defArgs aQ', defBody aQ', defScope aQ', [], []⟩
abbrev aL' : Stmt := top 23
abbrev cF' : List Str := ["_law_hand_here", "_law_parts_here", "_law_letters_here", "_law_table", "_law_accepts", "_law_way", "_law_size", "_law_state", "_law_k", "_law_row", "_law_more_here", "_law_one"]
theorem ah' : FnScope cF' ["_law_hand_here", "_law_parts_here"] (defScope aL') := (by walk_at "3")
def dB' : He.DefD := ⟨("_law_near", none), "_law_near", "_law_near", defArgs aL', defBody aL', defScope aL', [], []⟩
abbrev at' : Stmt := top 24
abbrev eN' : List Str := ["_law_machine", "_law_parts_here"]
theorem dI' : FnScope eN' ["_law_machine", "_law_parts_here"] (defScope at') := (by walk_at "3")
def b7' : He.DefD := ⟨("_law_is_parts", none), "_law_is_parts", "_law_is_parts", defArgs at', defBody at', defScope at', [], []⟩
abbrev eW' : Stmt := top 25
abbrev wT' : List Str := ["_law_script", "_law_hand_here", "_law_parts_here", "_law_one", "_law_turn", "_law_near_here", "_law_other", "_law_due", "_law_odd_here"]
theorem cL' : FnScope wT' ["_law_script"] (defScope eW') := (by walk_at "3")
def p0' : He.DefD := ⟨("law", none), "law", "law", defArgs eW', defBody eW', defScope eW', [], []⟩
def fns : List He.DefD := [c1', cg', ch', dz', c2', eB', bD', cj', bM', b8', bN', b9', bU', dD', dF', ci', dA', b6', c4', eC', dE', dC', dB', b7', p0']
def tbs : List He.Tab := []
def fas : List He.Fa := [.glo "is_integer", .glo "is_string_of", .glo "is_ascending", .glo "is_choice", .glo "are_states", .glo "is_table", .glo "_law_hand", .glo "_law_draw", .glo "_law_letters", .glo "_law_rows", .glo "_law_shuffled", .glo "_law_parts", .glo "_law_odd", .glo "_law_flag", .glo "_law_more", .glo "_law_near", .glo "_law_is_parts", .glo "law", .glo "SaidError", .exc "SaidError", .glo "NoMachine", .glo "Machine", .str "SMALL" "abcdefghijklmnopqrstuvwxyz", .free "zip", .free "range", .free "tuple", .free "list", .free "len", .free "isinstance", .free "int", .free "str", .free "abs", .free "max", .free "sorted", .free "bool", .free "min", .free "repr", .cls "Machine", .noat "Machine" "kept_letters", .noat "Machine" "kept_table", .noat "Machine" "kept_accepts", .noat "Machine" "kept_least", .noat "Machine" "kept_field", .noat "Machine" "kept_lots", .noat "Machine" "kept_more", .mkr "Machine", .meth "Machine" "keep", .meth "Machine" "letters", .meth "Machine" "table", .meth "Machine" "accepts", .meth "Machine" "parts"]
def exs : List (PySem.W.Frag -> Bool) := [fun K => xf' K [("Machine", "Machine")] (He.ma K (He.ga K "Machine") "__eq__"), fun K => xJ' K [("Machine", "Machine")] (He.ma K (He.ga K "Machine") "__eq__"), fun K => tN' K [("Machine", "Machine")] (He.ma K (He.ga K "Machine") "__eq__"), fun K => ra' K M.isT "Machine"]
def exK (K : PySem.W.Frag) : Bool := exs.all fun f => f K
end S
set_option maxHeartbeats 0
namespace S
open PySem PySem.Spec PyProof.Rows L2
def tr' : List Str := ["SaidError", "NoMachine", "SMALL", "is_integer", "is_string_of", "is_ascending", "is_choice", "are_states", "is_table", "Machine", "_law_hand", "_law_draw", "_law_letters", "_law_rows", "_law_shuffled", "_law_parts", "_law_odd", "_law_flag", "_law_more", "_law_near", "_law_is_parts"]
def loose : List Str := tr'
abbrev Rw : PySem.W.OpenRow := PySem.W.OpenLaw.row PySem.Challenge.rw_saidacross_k01_parts_and_equal_machines
abbrev hk : PySem.W.Hook := He.hookX 4 fas fns tbs [] exK
def ob (s : PySem.W.SharedT) : He.AlX := He.obsX 4 fas fns tbs [] exK (HandSHeadRun.getT s)
theorem vN' (s : PySem.W.SharedT) : ob s = hk.obs s.abs := He.obsX_eq (HandSHeadRun.getT_eq s)
theorem ta' {α β γ : Type} {x : Option α} {f : α -> β} {g : α -> γ} {b : β} {c : γ} (h1 : x.map f = some b) (h2 : x.map g = some c) : x.map (fun s => (f s, g s)) = some (b, c) := by
  cases x with
  | none => cases h1
  | some a =>
    obtain rfl := Option.some.inj h1
    obtain rfl := Option.some.inj h2
    rfl
section
open PySem.W HandSHeadRun
theorem xC' (w : World) (os : OsState) : (endF (stepQ (denQ tabQ) Rw.prog w) 1960 Rw.prog w os).map (fun s => looksF Rw.prog (boot_heap w.params) s.abs) = some true := by kernel_rfl
theorem xB' (w : World) (os : OsState) : (endF (stepQ (denQ tabQ) Rw.prog w) 1960 Rw.prog w os).map (fun s => seenQ (PySem.W.view Rw.prog [25]) loose (importedModules Rw.prog.main.body) (fun s => xlAt (PySem.W.view Rw.prog [25]) [] s && recOk Rw.toRowW.records s) s.abs) = some (openGood (PySem.W.view Rw.prog [25]) loose) := by kernel_rfl
theorem xA' (w : World) (os : OsState) : (endF (stepQ (denQ tabQ) Rw.prog w) 1960 Rw.prog w os).map (fun s => ob s) = some (hk.val w) := by kernel_rfl
end
theorem run (w : World) : HandSHeadRun.RunEq Rw (PySem.W.view Rw.prog [25]) hk ob 1960 loose w := fun os => ta' (xC' w os) (ta' (xB' w os) (xA' w os))
end S
set_option maxHeartbeats 4000000
namespace S
open PySem PySem.Spec PyProof.Rows L2
abbrev St := L2.St
section
variable {X : Cx}
def kY' (z : Str) (n : Nat) : Str := ⟨((List.replicate n z.cps.toList).flatten).toArray⟩
theorem g4' : ∀ (l : List (Array Nat)) (a : Array Nat), l.foldl (· ++ ·) a = (a.toList ++ (l.map Array.toList).flatten).toArray
  | [], a => by simp
  | b :: r, a => by
    rw [List.foldl_cons, g4' r]
    simp
theorem mz' (z : Str) (n : Nat) : (⟨(List.replicate n z.cps).foldl (· ++ ·) #[]⟩ : Str) = kY' z n := by
  unfold kY'
  rw [g4']
  simp
theorem og' (z : Str) : kY' z 1 = z := by
  obtain ⟨c⟩ := z
  simp [kY']
theorem my' (z : Str) : kY' z 0 = Str.empty := by
  simp [kY']
  rfl
theorem kD' (z : Str) (h : z.length = 0) (n : Nat) : kY' z n = z := by
  obtain ⟨c⟩ := z
  have e : c.toList = [] := by
    have h1 : c.size = 0 := h
    exact List.eq_nil_of_length_eq_zero (by simpa using h1)
  have e2 : c = #[] := by simpa using congrArg List.toArray e
  subst e2
  simp [kY']
theorem h6' (z : Str) (n : Nat) : (kY' z n).length = n * z.length := by
  show ((List.replicate n z.cps.toList).flatten).toArray.size = _
  rw [List.size_toArray, List.length_flatten]
  simp
  rfl
def pJ' : R2 := fun x y H Q => ∃ z i, x = .str z /\ y = .int i /\ i < 2 ^ 62 /\ -(2 ^ 62) <= i /\ z.length * i.toNat <= sizeLine /\ Q (.str (kY' z i.toNat)) H
theorem ou' : OpR X (binaryOp .Mult) pJ' := by
  intro pins s σ H x y v u Q I rx ry h
  obtain ⟨z, i, rfl, rfl, h1, h2, h3, q⟩ := h
  obtain ⟨t, rfl⟩ := rx
  obtain ⟨t', rfl⟩ := ry
  have h63 : (decide (i < -(2 ^ 63 : Int)) || decide (i >= 2 ^ 63)) = false := by
    rw [decide_eq_false (by omega), decide_eq_false (by omega)]; rfl
  have hsz : (sizeLine : Nat) < 2 ^ 62 := by rw [sizeLine_eq]; decide
  refine PySem.P.mul_str h63 (fun hn hz => ?_) (fun hn hz => ?_) ?_
  . intro hg
    have hpos : 0 < i := by omega
    have e : (i.toNat : Int) = i := by omega
    have h4 : (z.length : Int) * i <= sizeLine := by
      rw [<- e]; exact_mod_cast h3
    have h5 : (2 ^ 63 - 1) / i < (z.length : Int) := hg
    have h6 : (2 ^ 63 - 1 : Int) < z.length * i := by
      have := Int.lt_mul_of_ediv_lt hpos h5
      rw [Int.mul_comm] at this
      first
        | exact this
        | (rw [Int.mul_comm]; exact this)
    omega
  . exact decide_eq_false (by omega)
  . by_cases hn : i < 1
    . rw [if_pos hn]
      have e : i.toNat = 0 := by omega
      rw [e, my'] at q
      exact ⟨by decide, .str Str.empty, H, I.tok _, ⟨_, rfl⟩, q⟩
    . rw [if_neg hn]
      by_cases hz : (i == 1 || z.length == 0) = true
      . rw [if_pos hz]
        have e : kY' z i.toNat = z := by
          rcases Bool.or_eq_true_iff.mp hz with h | h
          . have h' : i = 1 := eq_of_beq h
            rw [h']; exact og' z
          . exact kD' z (eq_of_beq h) _
        rw [e] at q
        exact ⟨.str z, H, I, ⟨_, rfl⟩, q⟩
      . rw [if_neg hz, mz']
        exact ⟨by rw [h6', Nat.mul_comm]; omega, .str _, H, I.tok _, ⟨_, rfl⟩, q⟩
def sX' : R2 := fun x y H Q => rI CMul (fun i j => .int (i * j)) x y H Q \/ pJ' x y H Q \/ rRep x y H Q
theorem qQ' : OpR X (binaryOp .Mult) sX' := op_mul.or (ou'.or op_rep)
def s0' (f : List Nat -> List Nat -> Bool) : R2 := fun x y H Q => ∃ i j, x = .str i /\ y = .str j /\ Q (.bl (f i.cps.toList j.cps.toList)) H
def pM' (p : Int -> Int -> Bool) (f : List Nat -> List Nat -> Bool) : R2 := fun x y H Q => rI0 (fun i j => .bl (p i j)) x y H Q \/ s0' f x y H Q
theorem j5' : OpR X (compareOp .Lt) (pM' (fun i j => decide (i < j)) fun a b => decide (a < b)) := op_lt.or (r' := s0' fun a b => decide (a < b)) op_lt_str
theorem j6' : OpR X (compareOp .LtE) (pM' (fun i j => decide (i <= j)) fun a b => !decide (b < a)) := op_le.or (r' := s0' fun a b => !decide (b < a)) op_le_str
theorem pP' : OpR X (compareOp .Gt) (pM' (fun i j => decide (j < i)) fun a b => decide (b < a)) := op_gt.or (r' := s0' fun a b => decide (b < a)) op_gt_str
theorem mQ' : OpR X (compareOp .GtE) (pM' (fun i j => decide (j <= i)) fun a b => !decide (a < b)) := op_ge.or (r' := s0' fun a b => !decide (a < b)) op_ge_str
def s5' (K : PySem.W.Frag) : R2 := fun x y H Q => rI0 (fun i j => .int (i + j)) x y H Q \/ (∃ i j, x = .str i /\ y = .str j /\ i.length + j.length <= sizeLine /\ Q (.str (i ++ j)) H) \/ rCat x y H Q \/ rCatA K x y H Q
theorem aC' : OpR X (binaryOp .Add) (s5' X.K) := op_add.or (op_add_str.or (op_cat.or op_catA))
def vD' (K : PySem.W.Frag) : R2 := fun x y H Q => rEq x y H Q \/ rEqD K x y H Q
theorem a6' (hu : X.A.units + 64 < cLine) : OpR X (compareOp .Eq) (vD' X.K) := op_eq.or (op_eqD hu)
def w2' (K : PySem.W.Frag) : R2 := fun x y H Q => rNe x y H Q \/ rNeD K x y H Q
theorem mP' (hu : X.A.units + 64 < cLine) : OpR X (compareOp .NotEq) (w2' X.K) := op_ne.or (op_neD hu)
def w4' : R2 := fun x y H Q => ∃ (c : Nat) (z : Str), x = .str ⟨#[c]⟩ /\ y = .str z /\ Q (.bl (decide (c ∈ z.cps.toList))) H
def mI' : R2 := fun x y H Q => ∃ (c : Nat) (z : Str), x = .str ⟨#[c]⟩ /\ y = .str z /\ Q (.bl (!decide (c ∈ z.cps.toList))) H
def s4' : R2 := fun x y H Q => ∃ i j, x = .str i /\ y = .str j /\ Q (.bl (!(Builtin.Str.occurrences j i 0 j.length 1).isEmpty)) H
def j2' : R2 := fun x y H Q => ∃ i j, x = .str i /\ y = .str j /\ Q (.bl (!(!(Builtin.Str.occurrences j i 0 j.length 1).isEmpty))) H
def w3' (K : PySem.W.Frag) : R2 := fun x y H Q => w4' x y H Q \/ rIn K false x y H Q \/ s4' x y H Q
def mH' (K : PySem.W.Frag) : R2 := fun x y H Q => mI' x y H Q \/ rIn K true x y H Q \/ j2' x y H Q
theorem td' : OpR X (compareOp .In) (w3' X.K) := OpR.or (r := w4') op_in_sign (op_in_seq.or (r' := s4') op_in_str)
theorem gP' : OpR X (compareOp .NotIn) (mH' X.K) := OpR.or (r := mI') op_notIn_sign (op_notIn_seq.or (r' := j2') op_notIn_str)
def w0' (K : PySem.W.Frag) : V -> Option Int -> Option Int -> Hp -> VK -> Prop := fun x lo hi H Q => rSlL K x lo hi H Q \/ rSlS x lo hi H Q \/ rSlA K x lo hi H Q
theorem nL' : SlR X (w0' X.K) := sl_list.or (sl_str.or sl_tupA)
def s1' (K : PySem.W.Frag) : List V -> Hp -> VK -> Prop := fun xs H Q => (∃ z, xs = [.str z] /\ z.length <= sizeLine /\ Q (.int z.length) H) \/ (∃ p ys, xs = [.ref p] /\ (SqL K H p ys \/ SqT K H p ys) /\ Q (.int ys.length) H) \/ (∃ a kvs, xs = [V.ref a] /\ Rd H a (.dK kvs) /\ Q (.int kvs.length) H)
theorem nA' : CallR X (.builtin "len") (s1' X.K) := call_len_str.or (call_len_seq.or fun pins s σ H vs us Q I r h => by
  obtain ⟨a, kvs, rfl, e, q⟩ := h
  cases r with
  | cons ra rn =>
    cases rn
    cases (show _ = Value.ref a from ra)
    exact d_len I e fun t s' I' => ⟨.int kvs.length, H, I', ⟨t, rfl⟩, q⟩)
def pL' (K : PySem.W.Frag) : List V -> Hp -> VK -> Prop := fun xs H Q => (∃ p ys, xs = [.ref p] /\ (SqL K H p ys \/ SqT K H p ys) /\ ∀ l, H l = none -> Q (.ref l) (upd H l (.lst ys)))
theorem kT' : CallR X (.type "list") (pL' X.K) := call_list_of
def mF' (K : PySem.W.Frag) : List V -> Hp -> VK -> Prop := fun xs H Q => ∃ p ys, xs = [.ref p] /\ ((SqL K H p ys /\ ∀ l, H l = none -> Q (.ref l) (upd H l (.tup ys))) \/ (SqT K H p ys /\ Q (.ref p) H))
theorem iH' : CallR X (.type "tuple") (mF' X.K) := call_tuple_of
def s3' : List V -> Hp -> VK -> Prop := fun xs H Q => (∃ i, xs = [.int i] /\ Q (.int i) H) \/ ∃ k, xs = [.bl k] /\ Q (.int (if k then 1 else 0)) H
theorem a4' : CallR X (.type "int") s3' := call_int1
def s6' : List V -> Hp -> VK -> Prop := fun xs H Q => ∃ i, xs = [.int i] /\ Q (.int (if i < 0 then -i else i)) H
theorem nB' : CallR X (.builtin "abs") s6' := call_abs
def sZ' : List V -> Hp -> VK -> Prop := fun xs H Q => ∃ i j, xs = [.int i, .int j] /\ Q (.int (if j > i then j else i)) H
theorem fu' (hc : X.calm = true) : CallR X (.builtin "max") sZ' := call_max2 hc
def sY' : List V -> Hp -> VK -> Prop := fun xs H Q => ∃ i j, xs = [.int i, .int j] /\ Q (.int (if j < i then j else i)) H
theorem dm' (hc : X.calm = true) : CallR X (.builtin "min") sY' := call_min2 hc
def sV' : R2 := fun x y H Q => y = .non /\ Q (.bl (!decide (x = .non))) H
theorem ot' : OpR X (compareOp .IsNot) sV' := op_notN
theorem qM' {x z : Str} {pos : Pos} (hg : Gl X x) (h : ∃ t, X.mg x = some (.str z t)) (hd : (x == ("__debug__" : Str)) = false := by decide) : PE X (.Name x pos) (tC (.str z)) := by
  obtain ⟨t, e⟩ := h
  exact pe_glob hg e ⟨t, rfl⟩ hd
theorem qN' {x : Str} {a : Addr} {pos : Pos} (hg : Gl X x) (h : X.mg x = some (.ref a)) (hd : (x == ("__debug__" : Str)) = false := by decide) : PE X (.Name x pos) (tC (.ref a)) := pe_glob hg h rfl hd
end
section
variable {P : Program} {w : World} {K : PySem.W.Frag} {mg : Str -> Option Value} {base : Heap}
section
variable {X : Cx} {k : Nat} {x : Str} {ps : List Str} {sp : Sp} {p pos : Pos} {e : Expr} {es : List Expr} {t : TA} {W : WX}
end
end
end S
namespace S
open PySem PySem.Spec PyProof.Rows L2
section
variable {K : PySem.W.Frag} {D : Ends} {σ : St} {H H' : Hp} {Q : VK} {t u : TS} {te ta tb tc : TE} {tt tu : TT} {g : TG} {tl : TA} {v x y : V} {i j : Int} {a p : Addr} {xs ys : List V} {z z' : Str} {r : R2}
theorem vg' {n : String} {tv : Value} {b : Bool} (ty : TyX K H x tv) (e : PySem.W.kitOne K tv (.type n) = some b) (h : Q (.bl b) H) : rIsi K [x, .ty n] H Q := ⟨x, .ty n, tv, _, b, rfl, .ty n, ty, e, h⟩
theorem Same.upd {H : Hp} {p : Addr} {o : HO} (h : H p = none) : Same H (upd H p o) := fun b u e => by
  rw [upd_ne (ne_of_none e h)]; exact e
theorem Same.app (s : Same H H') {o : HO} (h : H p = some o) : H' p = some o := s p o h
end
theorem FnOk.to0 {P : Program} {w : World} {K : PySem.W.Frag} {mg : Str -> Option Value} {base : Heap} {k : Nat} {f : Addr} {fd : FuncData} {ps : List Str} {sp : Sp} (F : FnOk P w K mg base (L2.CX P w) k f fd ps sp) :
    FnOk P w K mg base CX0 k f fd ps (fun vs H Q _ => sp vs H Q E0) :=
  ⟨fun vs H Q _ h => F.len vs H Q E0 h, fun A outer s H args us vs Q _ hr he hb hv hs => codeAny_mono (F.run A outer s H args us vs Q E0 hr he hb hv hs) fun r s' hq => by
    cases r with
    | error e =>
      obtain ⟨_, _, _, _, _, _, _, _, _, _, _, _, z⟩ := hq
      exact z.elim
    | ok fl =>
      cases fl with
      | ret u => exact hq
      | next => exact hq
      | brk => exact hq
      | cont => exact hq⟩
end S
namespace S
open PySem PySem.Spec PyProof.Rows L2
section
variable {α : Type} {as : List α} {J : It} {G : Hp -> Prop} {Y : α -> Hp -> V -> Hp -> Prop} {K : PySem.W.Frag} {D : Ends} {σ : St} {H : Hp} {g : TG} {tb : TS} {tt : TT} {te : TE} {a : Addr}
def xY' (J : It) (g : TG) (tb : TS) (D : Ends) (σ : St) (H1 : Hp) : Prop := ∃ W : Nat -> Nat -> St -> Hp -> Prop, (∃ m, W 0 m σ H1) /\ ∀ i m σ H, W i m σ H →
  (J.stop i H /\ D.nx σ H) \/ (J.go i H /\ ∃ N : St -> Hp -> Prop, (∀ σ' H', N σ' H' -> ∃ m', m' < m /\ W (i + 1) m' σ' H') /\ ∀ x H', J.yld i H x H' -> g x σ H' fun σ2 H2 => tb { D with nx := N, ct := N, bk := D.nx } σ2 H2)
theorem dk' {lo : Int} {n : Nat} (Pv : Nat -> St -> Hp -> Prop) (h0 : Pv 0 σ H)
    (hs : ∀ i σ H, i < n -> Pv i σ H -> g (.int (lo + (i : Nat))) σ H fun σ2 H2 => tb { D with nx := Pv (i + 1), ct := Pv (i + 1), bk := D.nx } σ2 H2) (hd : ∀ σ H, Pv n σ H -> D.nx σ H) : xY' (Itr lo n) g tb D σ H := for_range Pv h0 hs hd
end
section
variable {H H' : Hp} {p q : Addr} {o : HO}
theorem seqT {K : PySem.W.Frag} {a : Addr} {xs : List V} (e : Same H H') (h : SqT K H a xs) : SqT K H' a xs := by
  rcases h with (h | ⟨o, h⟩) | h
  . exact .inl (.inl (e _ _ h))
  . exact .inl (.inr ⟨o, e _ _ h⟩)
  . exact .inr h
end
mutual
theorem Dp.same {K : PySem.W.Frag} {H H' : Hp} (s : Same H H') : ∀ {d : PyData} {v : V}, Dp K H v d -> Dp K H' v d
  | _, _, .non => .non
  | _, _, .bl b => .bl b
  | _, _, .int i => .int i
  | _, _, .str x => .str x
  | _, _, .lst h r => .lst (Same.seq s h) (DpAll.same s r)
  | _, _, .tup h r => .tup (seqT s h) (DpAll.same s r)
theorem DpAll.same {K : PySem.W.Frag} {H H' : Hp} (s : Same H H') : ∀ {ds : List PyData} {vs : List V}, DpAll K H vs ds -> DpAll K H' vs ds
  | _, _, .nil => .nil
  | _, _, .cons h r => .cons (Dp.same s h) (DpAll.same s r)
end
end S
namespace S
open PySem PySem.Spec PyProof.Rows L2
def wV' (c a : Addr) : HO := .ext fun h => ∃ (its : List Value) (n : Nat) (i s t k : Int), Vals [.ref c, .int i, .int s, .int t, .int k] its /\ h.get? a = some { cls := .type "list", data := .seq its.toArray n } /\ 0 <= i
def bH' (H : Hp) (a : Addr) : Prop := ∃ (c : Addr) (ns : List Int), H a = some (wV' c a) /\ H c = some (.lst (ns.map V.int))
theorem bH'.same {H H' : Hp} {a : Addr} (s : Same H H') (h : bH' H a) : bH' H' a := by
  obtain ⟨c, ns, h1, h2⟩ := h
  exact ⟨c, ns, s _ _ h1, s _ _ h2⟩
section
variable {P : Program} {w : World} {H H' : Hp} {h h' : Heap} {a c : Addr} {o o' : HO} {fs : List Addr}
end
section
variable {P : Program} {w : World} {K : PySem.W.Frag} {mg : Str -> Option Value} {base : Heap} {k : Nat} {f : Addr} {fd : FuncData} {ps : List Str}
end
end S
namespace S
open PySem PySem.Spec PyProof.Rows L2
def Sh (n : Nat) (d : PyData) : Prop := d.canLay0 = true /\ d.depth <= n
theorem Sh.shaped {n : Nat} {d : PyData} (h : Sh n d) (hn : n <= 64) : SeqAt.shaped d = true := by
  unfold SeqAt.shaped
  rw [h.1, Bool.true_and]
  exact decide_eq_true (Nat.le_trans h.2 hn)
theorem Sh.mono {n m : Nat} {d : PyData} (h : Sh n d) (e : n <= m) : Sh m d := ⟨h.1, Nat.le_trans h.2 e⟩
theorem Sh.int {n : Nat} {i : Int} : Sh n (.int i) := ⟨rfl, Nat.zero_le _⟩
theorem Sh.bool {n : Nat} {b : Bool} : Sh n (.bool b) := ⟨rfl, Nat.zero_le _⟩
theorem Sh.none {n : Nat} : Sh n .none := ⟨rfl, Nat.zero_le _⟩
theorem Sh.str {n : Nat} {z : Str} (h : ∀ c ∈ z.cps.toList, c < 128) : Sh n (.str z) := by
  refine ⟨?_, Nat.zero_le _⟩
  show PyData.strOk z = true
  unfold PyData.strOk
  rw [Array.all_eq_true']
  intro c hc
  have := h c (by simpa using hc)
  simp only [decide_eq_true_eq]
  omega
theorem Sh.all {n : Nat} : ∀ {ds : List PyData}, (∀ d ∈ ds, Sh n d) -> PyData.canLayAll0 ds = true /\ PyData.depthAll ds <= n
  | [], _ => ⟨rfl, Nat.zero_le _⟩
  | d :: r, h => by
    have h1 := h d (by simp)
    have h2 := Sh.all (ds := r) fun x hx => h x (by simp [hx])
    refine ⟨?_, ?_⟩
    . show (d.canLay0 && PyData.canLayAll0 r) = true
      rw [h1.1, h2.1]
      rfl
    . show max d.depth (PyData.depthAll r) <= n
      exact Nat.max_le.mpr ⟨h1.2, h2.2⟩
theorem Sh.list {n : Nat} {ds : List PyData} (h : ∀ d ∈ ds, Sh n d) : Sh (n + 1) (.list ds) := ⟨(Sh.all h).1, Nat.succ_le_succ (Sh.all h).2⟩
theorem Sh.tuple {n : Nat} {ds : List PyData} (h : ∀ d ∈ ds, Sh n d) : Sh (n + 1) (.tuple ds) := ⟨(Sh.all h).1, Nat.succ_le_succ (Sh.all h).2⟩
section
variable {K : PySem.W.Frag} {H H' : Hp} {v : V} {vs : List V} {ds es : List PyData} {p : Addr} {xs : List V}
theorem DpAll.append : ∀ {vs ws : List V} {ds es : List PyData}, DpAll K H vs ds -> DpAll K H ws es -> DpAll K H (vs ++ ws) (ds ++ es)
  | _, _, _, _, .nil, h => h
  | _, _, _, _, .cons a r, h => .cons a (DpAll.append r h)
theorem DpAll.length : ∀ {vs : List V} {ds : List PyData}, DpAll K H vs ds -> vs.length = ds.length
  | _, _, .nil => rfl
  | _, _, .cons _ r => congrArg (· + 1) (DpAll.length r)
theorem DpAll.split : ∀ {a b : List V} {ds : List PyData}, DpAll K H (a ++ b) ds -> ∃ d e, ds = d ++ e /\ DpAll K H a d /\ DpAll K H b e
  | [], b, ds, h => ⟨[], ds, rfl, .nil, h⟩
  | x :: a, b, _, .cons h r => by
    obtain ⟨d, e, rfl, h1, h2⟩ := DpAll.split (a := a) r
    exact ⟨_ :: d, e, rfl, .cons h h1, h2⟩
theorem DpAll.get : ∀ {vs : List V} {ds : List PyData} {i : Nat} {d : PyData}, DpAll K H vs ds -> ds[i]? = some d -> ∃ v, vs[i]? = some v /\ Dp K H v d
  | _, _, _, _, .nil, e => by cases e
  | _, _, 0, _, .cons h _, e => ⟨_, rfl, by rw [<- Option.some.inj e]; exact h⟩
  | _, _, i + 1, _, .cons _ r, e => DpAll.get (i := i) r e
theorem Dp.int_inv {i : Int} (h : Dp K H v (.int i)) : v = .int i := by cases h; rfl
theorem Dp.str_inv {z : Str} (h : Dp K H v (.str z)) : v = .str z := by cases h; rfl
theorem Dp.tup_inv (h : Dp K H v (.tuple ds)) : ∃ p xs, v = .ref p /\ SqT K H p xs /\ DpAll K H xs ds := by
  cases h with
  | tup h1 h2 => exact ⟨_, _, rfl, h1, h2⟩
theorem Dp.lst_inv (h : Dp K H v (.list ds)) : ∃ p xs, v = .ref p /\ SqL K H p xs /\ DpAll K H xs ds := by
  cases h with
  | lst h1 h2 => exact ⟨_, _, rfl, h1, h2⟩
theorem DpAll.ints : ∀ {vs : List V} {ns : List Int}, DpAll K H vs (ns.map PyData.int) -> vs = ns.map V.int
  | _, [], .nil => rfl
  | _, n :: ns, .cons h r => by
    rw [Dp.int_inv h, DpAll.ints r]
    rfl
theorem tyT (h : SqT K H p xs) : TyX K H (.ref p) (.type "tuple") := by
  rcases h with (h | ⟨o, h⟩) | ⟨o, its, n, h, c, _⟩
  . exact .base (.tup h)
  . exact .fTuple h
  . exact .kTuple h c
theorem tyL (h : SqL K H p xs) : TyX K H (.ref p) (.type "list") := by
  rcases h with (h | ⟨o, h⟩) | ⟨o, its, n, h, c, _⟩
  . exact .base (.lst h)
  . exact .base (.frz h)
  . exact .kList h c
def tyn : PyData -> String
  | .none => "NoneType" | .bool _ => "bool" | .int _ => "int" | .str _ => "str" | .list _ => "list" | .tuple _ => "tuple" | .dict _ => "dict"
theorem _root_.L2.Dp.ty {d : PyData} (h : Dp K H v d) : TyX K H v (.type (tyn d)) := by
  cases h with
  | non => exact .base .non
  | bl b => exact .base (.bl b)
  | int i => exact .base (.int i)
  | str z => exact .base (.str z)
  | lst h1 _ => exact tyL h1
  | tup h1 _ => exact tyT h1
variable {σ : St} {R : St -> Hp -> Prop}
end
theorem hV' {a b : Str} (h : a.cps.toList = b.cps.toList) : a = b := by
  obtain ⟨a⟩ := a
  obtain ⟨b⟩ := b
  have : a = b := by simpa using congrArg List.toArray h
  rw [this]
theorem pd' (a b : Str) : (a ++ b).cps.toList = a.cps.toList ++ b.cps.toList := by
  show (a.cps ++ b.cps).toList = _
  simp
theorem oC' (a : Str) : a.length = a.cps.toList.length := by
  show a.cps.size = _
  simp
section
variable {α β : Type}
def xi' (xs : List α) (lo hi : Option Int) : List α := (xs.drop (HT.sIx xs.length 0 lo)).take (HT.sIx xs.length xs.length hi - HT.sIx xs.length 0 lo)
theorem uw' (z : Str) (lo hi : Option Int) : (cutS z lo hi).cps.toList = xi' z.cps.toList lo hi := by
  unfold cutS xi'
  rw [oC']
end
end S
namespace S
open PySem PySem.Spec PyProof.Rows L2
section
variable {K : PySem.W.Frag} {H : Hp} {J : It} {g : TG} {tt : TT} {te : TE} {vs : List Nat} {σ : St} {Q : VK} {G : Hp -> Prop}
theorem DpAll.at {H : Hp} : ∀ {d r : List V} {x : V} {ds : List PyData}, DpAll K H (d ++ x :: r) ds -> ∃ e, ds[d.length]? = some e /\ Dp K H x e /\ ds.take (d.length + 1) = ds.take d.length ++ [e] := by
  intro d r x ds h
  obtain ⟨a, b, rfl, h1, h2⟩ := DpAll.split h
  cases h2 with
  | cons h3 h4 =>
    have hl := DpAll.length h1
    rename_i e es
    have e1 : (a ++ e :: es)[d.length]? = some e := by rw [List.getElem?_append_right (by omega), hl, Nat.sub_self]; rfl
    refine ⟨_, e1, h3, ?_⟩
    rw [List.take_add_one, e1]
    rfl
theorem _root_.L2.Dp.t2 {v : V} {d e : PyData} (h : Dp K H v (.tuple [d, e])) : ∃ p x y, v = .ref p /\ SqT K H p [x, y] /\ Dp K H x d /\ Dp K H y e := by
  obtain ⟨p, xs, rfl, q, a⟩ := Dp.tup_inv h
  cases a with
  | cons a1 a => cases a with
    | cons a2 a => cases a; exact ⟨p, _, _, rfl, q, a1, a2⟩
end
end S
namespace S
open PySem PySem.Spec PyProof.Rows L2
def ItP (xs ys : Nat -> Option V) (n : Nat) : It :=
  ⟨fun i _ => i < n, fun i H v H' => ∃ T x y, v = .ref T /\ H T = none /\ H' = upd H T (.tup [x, y]) /\ xs i = some x /\ ys i = some y, fun i _ => i = n⟩
theorem mc' {P : Program} {w : World} {K : PySem.W.Frag} {tg : Expr} {z : Addr} {fp wr : List Addr} {n : Nat} {P1 P2 : Nat -> Value -> Prop} {St : Nat -> Heap -> Prop} {xs ys : Nat -> Option V}
    (W : ∀ A : Around, A.handled = none -> GoesN P w A tg z fp wr n (fun i h₀ v h => ∃ T x y, v = .ref T /\ h₀.objs.size <= T /\ P1 i x /\ P2 i y /\ h.IsTuple T #[x, y]) St) (hz : z ∈ fp) (sf : ∀ (A : Around) (i : Nat) (s : Shared) (Q : Value -> Shared -> Prop) (E : Value -> Shared -> Prop), St i s.heap -> Q (.ref z) s -> wpAny (model P w) A (pyIter (.ref z)) Q E s)
    (ob : ∀ i h, St i h -> ∀ b ∈ fp, ∃ o, h.get? b = some o /\ ∀ v, o.data ≠ .cell v) (r1 : ∀ i u, i < n -> P1 i u -> ∃ x, xs i = some x /\ RelV x u) (r2 : ∀ i u, i < n -> P2 i u -> ∃ x, ys i = some x /\ RelV x u) :
    Turn P w K tg (ItP xs ys n) fp z St where
  mem := hz
  obj := ob
  keep := fun i h h' st k => (W callerA rfl).frame i h h' st k
  item := by
    intro X hP hw hK hc i pins s σ H E I hf st hg
    subst hP hw hK
    have Wa := W X.A (I.ok.hd hc)
    refine Wa.goes i s _ E hg st fun v h' tk hY st' hk htk => ?_
    obtain ⟨T, u1, u2, rfl, hT, p1, p2, o, ho, hoc, m, hod⟩ := hY
    obtain ⟨x, hx, rx⟩ := r1 i u1 hg p1
    obtain ⟨y, hy, ry⟩ := r2 i u2 hg p2
    have new : ObjOk X.prog X.w (upd H T (.tup [x, y])) h' T (.tup [x, y]) := ⟨by show 2 <= sizeLine; decide, [u1, u2], .cons rx (.cons ry .nil), ⟨_, ho, hoc, _, hod⟩⟩
    have I1 : Inv X pins σ (upd H T (.tup [x, y])) { s with heap := h', toks := tk } :=
      I.turnedNew (t' := tk) (ch := fp) (fun b o hb q => hk b o (fun z => hb (Wa.sub b z)) q) hf hT new
    refine ⟨.ref T, _, I1, rfl, ⟨T, x, y, rfl, I.hok.fresh hT, rfl, hx, hy⟩, st', fun b hb => ?_⟩
    obtain ⟨ob1, hob, _⟩ := ob i s.heap st b hb
    rw [upd_ne (Nat.ne_of_lt (Nat.lt_of_lt_of_le (Heap.lt_size hob) hT))]
    exact (hf b hb).1
  done := by
    intro X hP hw hK hc i pins s σ H E I hf st hg
    subst hP hw hK
    have Wa := W X.A (I.ok.hd hc)
    have hg' : i = n := hg
    subst hg'
    exact Wa.stops s _ E st fun h' tk hk htk => I.turnedL (t' := tk) (ch := fp) (fun b o hb q => hk b o (fun z => hb (Wa.sub b z)) q) hf
  self := sf
def chS (z : Str) (i : Nat) : Option V := (z.cps.toList[i]?).map fun c => .str ⟨#[c]⟩
theorem p7' {z : Str} {i : Nat} {u : Value} (h : ∃ c t, z.cps[i]? = some c /\ u = .str ⟨#[c]⟩ t) : ∃ x, chS z i = some x /\ RelV x u := by
  obtain ⟨c, t, hc, rfl⟩ := h
  refine ⟨.str ⟨#[c]⟩, ?_, ⟨t, rfl⟩⟩
  unfold chS
  rw [show z.cps.toList[i]? = some c by rw [<- hc]; simp]
  rfl
def tF' (ta : TA) : TI := fun σ H R => ta σ H fun vs H1 => ∃ x y : Str, vs = [.str x, .str y] /\ R (ItP (chS x) (chS y) (min x.cps.size y.cps.size)) H1
theorem qK' {X : Cx} {e e2 : Expr} {ta : TA} {p pos tpos : Pos} {elts : List Expr} {kk} (hg : Gl X "zip") (hm : X.mg "zip" = none) (ha : PA X [e, e2] ta)
    (hs : starEach [e, e2] X.env = (false, eval e X.env) :: starEach [e2] X.env := by rfl) (hpl : (backTo pos (starEach [e2] X.env)).any (·.1) = false := by rfl) :
    PI X (.Tuple elts kk tpos) (.Call (.Name "zip" p) [e, e2] [] pos) (tF' ta) := by
  refine ⟨fun pins s σ H R I h => ?_⟩
  refine Call_ (ld_blt I hg hm PyProof.Rows.boot_zip (PyProof.Rows.callWith_type1 (thn (ha.run pos pins s σ H _ I h) fun us s1 ⟨vs, H1, I1, r1, q1⟩ => ?_) hs hpl))
  obtain ⟨x, y, ex, q⟩ := q1
  subst ex
  cases r1 with
  | cons r rr =>
    cases rr with
    | cons r' rr =>
      cases rr
      obtain ⟨t1, rfl⟩ := r
      obtain ⟨t2, rfl⟩ := r'
      refine zip_begins2 (begins_text x _) (begins_text y _) True.intro True.intro fun h' hz hTI hTO h1 h2 hsz hk => wpAny_pyIter_zip hz ?_
      have I2 : Inv X pins σ H1 { s1 with heap := h' } := I1.kept (t' := s1.toks) hk
      have S2 : ZipSep2 (s1.heap.objs.size + 4) (s1.heap.objs.size + 2) (s1.heap.objs.size + 3) s1.heap.objs.size (s1.heap.objs.size + 1) [s1.heap.objs.size] [s1.heap.objs.size + 1] := by
        constructor <;> simp
      refine ⟨s1.heap.objs.size + 4, (s1.heap.objs.size + 4) :: (s1.heap.objs.size + 2) :: (s1.heap.objs.size + 3) :: ([s1.heap.objs.size] ++ [s1.heap.objs.size + 1]), _, _, H1, rfl, I2,
        mc' (fun A hA => GoesN.zip2 S2 (Draws.text (A := A.in1) hA _ x _) (Draws.text (A := A.in1) hA _ y _)) (by simp) (fun A i s Q E st h => wpAny_pyIter_zip st.1 h) (fun i h st b hb => ?_) (fun i u _ hu => p7' hu) (fun i u _ hu => p7' hu), ⟨hz, hTI, ⟨_, _, hTO⟩, ⟨_, h1, rfl, rfl⟩, ⟨_, h2, rfl, rfl⟩⟩, fun c hcm => ?_, q⟩
      . obtain ⟨hz, hTI, ⟨a1, a2, hTO⟩, ⟨o1, e1, _, d1⟩, ⟨o2, e2, _, d2⟩⟩ := st
        have e' : b = s1.heap.objs.size + 4 \/ b = s1.heap.objs.size + 2 \/ b = s1.heap.objs.size + 3 \/ b = s1.heap.objs.size \/ b = s1.heap.objs.size + 1 := by simpa using hb
        rcases e' with z | z | z | z | z
        . rw [z]; exact ⟨_, hz, fun v q => nomatch q⟩
        . rw [z]; exact ⟨_, hTI, fun v q => nomatch q⟩
        . rw [z]; exact ⟨_, hTO, fun v q => nomatch q⟩
        . rw [z]; exact ⟨o1, e1, fun v q => by rw [d1] at q; cases q⟩
        . rw [z]; exact ⟨o2, e2, fun v q => by rw [d2] at q; cases q⟩
      . have e' : c = s1.heap.objs.size + 4 \/ c = s1.heap.objs.size + 2 \/ c = s1.heap.objs.size + 3 \/ c = s1.heap.objs.size \/ c = s1.heap.objs.size + 1 := by simpa using hcm
        have hle : s1.heap.objs.size <= c := by
          rcases e' with z | z | z | z | z
          . rw [z]; exact Nat.le_add_right _ _
          . rw [z]; exact Nat.le_add_right _ _
          . rw [z]; exact Nat.le_add_right _ _
          . rw [z]; exact Nat.le_refl _
          . rw [z]; exact Nat.le_add_right _ _
        exact I1.fpOk hle (I1.hok.fresh hle)
end S
namespace S
open PySem PySem.Spec PyProof.Rows L2
section
variable {X : Cx} {K : PySem.W.Frag} {to te : TE} {o e : Expr} {H : Hp} {Q : VK}
def s2' (K : PySem.W.Frag) : V -> List V -> Hp -> VK -> Prop := fun x xs H Q => ∃ a p, ∃ ys : List Str, x = .str a /\ xs = [.ref p] /\ (SqL K H p (ys.map V.str) \/ SqT K H p (ys.map V.str)) ∧
    (ys.map (·.length)).sum + ys.length * a.length <= 16777216 /\ Q (.str (Txt.join a ys)) H
def chv (c : Nat) : V := .str ⟨#[c]⟩
end
end S
namespace S
open PySem PySem.Spec PyProof.Rows L2
end S
namespace S
open PySem PySem.Spec PyProof.Rows L2
theorem da' : ∀ (vs : List Value) (l : List Nat), vs.length = l.length -> (∀ (j : Nat) (v : Value), vs[j]? = some v -> ∃ c u, l[j]? = some c /\ v = .str ⟨#[c]⟩ u) -> StrsAre vs (l.map fun c => ⟨#[c]⟩)
  | [], [], _, _ => .nil
  | [], _ :: _, h, _ => by simp at h
  | _ :: _, [], h, _ => by simp at h
  | v :: vs, c :: l, h, hh => by
    obtain ⟨d, u, h1, rfl⟩ := hh 0 v rfl
    cases h1
    exact .cons _ _ (da' vs l (by simpa using h) fun j w hw => by
      have := hh (j + 1) w (by simpa using hw)
      simpa using this)
theorem hZ' {prog : Program} {w : World} {A : Around} {E : Value -> Shared -> Prop} {s : Shared} {x : Str} {t : Tok} {Q : Value -> Shared -> Prop} (hh : A.handled = none) (h64 : x.cps.size < 64)
    (h : ∀ (h' h'' : Heap) (tk : Nat) (out : List Value) (ss : List Str), (∀ b o, s.heap.get? b = some o -> h'.get? b = some o) -> (∀ b o, h'.get? b = some o -> h''.get? b = some o) -> (∃ e, h''.get? h'.objs.size = some (seqObj "list" out.toArray e)) →
      StrsAre out ss -> ss.Perm (x.cps.toList.map fun c => ⟨#[c]⟩) -> sortedS ss = true -> Q (.ref h'.objs.size) { s with heap := h'', toks := tk }) :
    wpAny (model prog w) A (call (.builtin "sorted") [.str x t]) Q E s := by
  refine Calls.call_function_entry kind_sorted plain_sorted entry_sorted (args_sorted1 _) ?_
  unfold Builtin.«sorted»
  refine wpAny_bind (m := checkCount "sorted" 1 1 _) (wpAny_pure ?_)
  refine wpAny_bind (m := collect (.str x t)) (wpAny_collect_str (A := A.in1) hh x t (fun s' acc hk hg hd ho hacc => ?_) (by rw [sizeLine_eq]; omega))
  obtain ⟨hp, g, d, tk, os⟩ := s
  obtain ⟨hp', g', d', tk', os'⟩ := s'
  obtain rfl : g' = g := hg
  obtain rfl : d' = d := hd
  obtain rfl : os' = os := ho
  have hS : StrsAre acc.toList (x.cps.toList.map fun c => ⟨#[c]⟩) := by
    refine da' _ _ (by rw [Array.length_toList, Array.length_toList]; exact hacc.1) fun j v hv => ?_
    obtain ⟨c, u, h1, h2⟩ := hacc.2 j v (by simpa using hv)
    exact ⟨c, u, by rw [<- h1]; simp, h2⟩
  have hl : acc.toList.length < 64 := by rw [Array.length_toList, hacc.1]; exact h64
  refine wpAny_bind (wpAny_newList ?_)
  have hoL : (hp'.push (seqObj "list" acc.toList.toArray 0)).get? hp'.objs.size = some (seqObj "list" acc.toList.toArray 0) := Heap.get?_push_size _ rfl
  refine wpAny_bind (wpAny_holding (wpAny_call_entry slot_list_sort ⟨_, hoL, rfl⟩ entry_list_sort (list_sort_treeK strKind_oneLt hoL hS.keysOf (fun v₁ v₂ rest e => keyKind_strs (by rw [<- e]; exact hS)) hl fun st' a1 a2 => ⟨_, rfl, ?_⟩) (args_list_sort _)))
  obtain ⟨ss', h1, h2, h3⟩ := sorted_out_str hS a1 a2
  refine wpAny_pure ⟨_, rfl, h hp' _ tk' _ ss' hk (fun b o hb => ?_) ?_ h1 h2 h3⟩
  . have hlt := Heap.lt_size hb
    rw [sortedHeap_old (Nat.ne_of_lt hlt) (by rw [size_push']; exact Nat.lt_succ_of_lt hlt)]
    exact Heap.get?_push_of_some _ hb
  . obtain ⟨e, he⟩ := sortedHeap_at (out := (arrOf st').map (·.2)) hoL
    exact ⟨e, by rw [he]⟩
def gK' : List V -> Hp -> VK -> Prop := fun vs H Q => ∃ x : Str, vs = [V.str x] /\ x.length < 64 /\ ∀ (ys : List Str) (p : Addr) (H' : Hp), ys.Perm (x.cps.toList.map fun c => ⟨#[c]⟩) -> sortedS ys = true -> H p = none -> Same H H' -> H' p = some (.lst (ys.map V.str)) -> Q (.ref p) H'
theorem iG' {X : Cx} (hc : X.calm = true) : CallR X (.builtin "sorted") gK' := by
  intro pins s σ H vs us Q I r h
  obtain ⟨x, rfl, h64, q⟩ := h
  cases r with
  | cons r rr =>
    cases rr
    obtain ⟨t, rfl⟩ := r
    refine hZ' (I.ok.hd hc) h64 fun h' h'' tk out ss hk hk2 ho h1 h2 h3 => ?_
    obtain ⟨e, he⟩ := ho
    have I1 : Inv X pins σ H { s with heap := h' } := I.kept (t' := s.toks) hk
    have hlen : (ss.map V.str).length <= sizeLine := by
      rw [List.length_map, h2.length_eq, List.length_map, Array.length_toList]
      exact small64 h64
    have I2 : Inv X pins σ (upd H h'.objs.size (.lst (ss.map V.str))) { s with heap := h'', toks := tk } :=
      I1.laid (t' := tk) (fun b u hb => hk2 b u hb) (Nat.le_refl _) ⟨hlen, out, e, vals_of_strs h1, he⟩
    have hn : H h'.objs.size = none := I1.hok.fresh (Nat.le_refl _)
    exact ⟨.ref _, _, I2, rfl, q ss _ _ h2 h3 hn (Same.upd hn) upd_same⟩
section
variable {K : PySem.W.Frag} {H : Hp} {Q : VK} {σ : St}
end
theorem qL' {X : Cx} {tg iter : Expr} {w1 w2 : TI} (h1 : PI X tg iter w1) (h2 : PI X tg iter w2) : PI X tg iter (fun σ H R => w1 σ H R \/ w2 σ H R) :=
  ⟨fun pins s σ H R I h => h.elim (h1.run pins s σ H R I) (h2.run pins s σ H R I)⟩
def tE' (K : PySem.W.Frag) (ta : TA) : TI := fun σ H R => tF' ta σ H R \/ RZ.iZipA K ta σ H R
theorem qJ' {X : Cx} {e e2 : Expr} {ta : TA} {p pos tpos : Pos} {elts : List Expr} {kk} (hg : Gl X "zip") (hm : X.mg "zip" = none) (ha : PA X [e, e2] ta)
    (hs : starEach [e, e2] X.env = (false, eval e X.env) :: starEach [e2] X.env := by rfl) (hpl : (backTo pos (starEach [e2] X.env)).any (·.1) = false := by rfl) :
    PI X (.Tuple elts kk tpos) (.Call (.Name "zip" p) [e, e2] [] pos) (tE' X.K ta) := qL' (qK' hg hm ha hs hpl) (RZ.pi_zipA hg hm ha hs hpl)
end S
namespace S
open PySem PySem.Spec PyProof.Rows L2
section
variable {K : PySem.W.Frag} {σ : St} {H : Hp} {Q : VK} {te ta tv : TE} {f : Str} {v y : V} {a C dx : Addr} {fs : List (Str × V)} {D : Ends} {R : Hp -> Prop}
end
def vC' (C : Addr) (m : Str) (sp : Sp) (E : XK) (σ : St) (t : TA) : V -> Hp -> VK -> Prop := fun x H Q => ∃ a dx fs, x = .ref a /\ H a = some (.ins C dx fs) /\ fs.lookup m = none /\ t σ H fun vs H2 => sp (x :: vs) H2 Q E
def pD' (C : Addr) (sp : Sp) (E : St -> XK) (t : TA) : TE := fun σ H Q => t σ H fun vs H1 => ∀ x dx, H1 x = none -> H1 dx = none -> dx ≠ x -> sp (.ref x :: vs) (upd (upd H1 dx (.own x)) x (.ins C dx [])) (fun v H2 => v = .non /\ Q (.ref x) H2) (E σ)
section
variable {K : PySem.W.Frag} {σ : St} {H : Hp} {Q : VK} {ta : TE} {t : TA} {C a dx : Addr} {m : Str} {sp : Sp} {E : St -> XK} {E' : XK} {fs : List (Str × V)} {vs : List V}
end
section
variable {X : Cx} {k : Nat} {C : Addr} {x m : Str} {ps : List Str} {sp : Sp} {p pos apos : Pos} {e o : Expr} {es : List Expr} {ta : TE} {t : TA} {W : WX} {CX : CXT} {f : Addr} {fd : FuncData} {E : St -> XK}
end
end S
namespace S
open PySem PySem.Spec PyProof.Rows L2
def signs (x : Str) : List V := x.cps.toList.map fun c => V.str ⟨#[c]⟩
theorem fd' {x : Str} {acc : Array Value} (h : ItemsOf (SignAt x) acc x.cps.size) : Vals (signs x) acc.toList := by
  have hS : StrsAre acc.toList (x.cps.toList.map fun c => ⟨#[c]⟩) := by
    refine da' _ _ (by rw [Array.length_toList, Array.length_toList]; exact h.1) fun j v hv => ?_
    obtain ⟨c, u, h1, h2⟩ := h.2 j v (by simpa using hv)
    exact ⟨c, u, by rw [<- h1]; simp, h2⟩
  have := vals_of_strs hS
  rw [List.map_map] at this
  exact this
def mJ' : List V -> Hp -> VK -> Prop := fun vs H Q => ∃ x : Str, vs = [V.str x] /\ x.length <= sizeLine /\ ∀ p, H p = none -> Q (.ref p) (upd H p (.lst (signs x)))
theorem iJ' {X : Cx} (hc : X.calm = true) : CallR X (.type "list") mJ' := by
  intro pins s σ H vs us Q I r h
  obtain ⟨x, rfl, hl, q⟩ := h
  cases r with
  | cons r rr =>
    cases rr
    obtain ⟨t, rfl⟩ := r
    refine call_list_str (I.ok.hd hc) x t (fun h' tk acc c' hk ho hacc => ?_) hl
    have hlen : (signs x).length <= sizeLine := by
      unfold signs
      rw [List.length_map, Array.length_toList]
      exact hl
    have I2 : Inv X pins σ (upd H s.heap.objs.size (.lst (signs x))) { s with heap := h', toks := tk } :=
      I.laid (t' := tk) (fun b u hb => hk b u hb) (Nat.le_refl _) ⟨hlen, acc.toList, c', fd' hacc, by rw [ho]⟩
    exact ⟨.ref _, _, I2, rfl, q _ (I.hok.fresh (Nat.le_refl _))⟩
def pI' : List V -> Hp -> VK -> Prop := fun vs H Q => ∃ x : Str, vs = [V.str x] /\ x.length <= sizeLine /\ ∀ p, H p = none -> Q (.ref p) (upd H p (.tup (signs x)))
theorem kR' {X : Cx} (hc : X.calm = true) : CallR X (.type "tuple") pI' := by
  intro pins s σ H vs us Q I r h
  obtain ⟨x, rfl, hl, q⟩ := h
  cases r with
  | cons r rr =>
    cases rr
    obtain ⟨t, rfl⟩ := r
    refine call_tuple_str (I.ok.hd hc) x t (fun h' tk acc hk hacc => ?_) hl
    have hlen : (signs x).length <= sizeLine := by
      unfold signs
      rw [List.length_map, Array.length_toList]
      exact hl
    have I1 : Inv X pins σ H { s with heap := h' } := I.kept (t' := s.toks) hk
    have I2 : Inv X pins σ (upd H h'.objs.size (.tup (signs x))) { s with heap := h'.push { cls := .type "tuple", data := .seq acc }, toks := tk } :=
      I1.laid (t' := tk) (fun b u hb => Heap.get?_push_of_some _ hb) (Nat.le_refl _) ⟨hlen, acc.toList, fd' hacc, ⟨_, Heap.get?_push_size _ rfl, rfl, 0, by simp⟩⟩
    exact ⟨.ref _, _, I2, rfl, q _ (I1.hok.fresh (Nat.le_refl _))⟩
def pK' (K : PySem.W.Frag) : List V -> Hp -> VK -> Prop := fun vs H Q => pL' K vs H Q \/ mJ' vs H Q
theorem kS' {X : Cx} (hc : X.calm = true) : CallR X (.type "list") (pK' X.K) := kT'.or (iJ' hc)
def mE' (K : PySem.W.Frag) : List V -> Hp -> VK -> Prop := fun vs H Q => mF' K vs H Q \/ pI' vs H Q
theorem bo' {X : Cx} (hc : X.calm = true) : CallR X (.type "tuple") (mE' X.K) := iH'.or (kR' hc)
end S
namespace S
open PySem PySem.Spec PyProof.Rows L2
structure RoomG (k : Nat) (A : Around) : Prop where
  r : Room k A
  g : A.guards = some []
theorem RoomG.mono {j k : Nat} {A : Around} (h : RoomG k A) (l : j <= k) : RoomG j A := ⟨h.r.mono l, h.g⟩
theorem RoomG.units {k : Nat} {A : Around} (h : RoomG k A) : A.units + 64 < cLine := h.r.units
structure FnG (P : Program) (w : World) (K : PySem.W.Frag) (mg : Str -> Option Value) (base : Heap) (CX : CXT) (k : Nat) (f : Addr) (fd : FuncData) (ps : List Str) (sp : Sp) : Prop where
  len : ∀ vs H Q E, sp vs H Q E -> vs.length = ps.length
  run : ∀ (A : Around) (outer : List Env) (s : Shared) (H : Hp) (args : Args) (us : List Value) (vs : List V) (Q : VK) (E : XK), RoomG k A -> Env0 P w K mg base A outer s H →
    BindsTo s fd args (ps.zip us) -> Vals vs us -> sp vs H Q E -> codeAny (model P w) A (.call (.ref f) args) (CR CX outer P w H s Q E) s
theorem FnG.of {P : Program} {w : World} {K : PySem.W.Frag} {mg : Str -> Option Value} {base : Heap} {CX : CXT} {k : Nat} {f : Addr} {fd : FuncData} {ps : List Str} {sp : Sp} (F : FnOk P w K mg base CX k f fd ps sp) : FnG P w K mg base CX k f fd ps sp :=
  ⟨F.len, fun A o s H as us vs Q E h => F.run A o s H as us vs Q E h.r⟩
section
variable {P : Program} {w : World} {K : PySem.W.Frag} {mg : Str -> Option Value} {base : Heap} {CX : CXT} {f : Addr} {fd : FuncData}
theorem tH' {N ps : List Str} {scope : Scope} (S : FnScope N ps scope) (us : List Value) (n : Nat) : ∀ y ∈ ps.zip us,
    scope.names.lookup y.1 = some .local \/ (scope.names.lookup y.1 = some .cell /\ ((cellsFrom n scope.names []).lookup y.1).isSome = true) := by
  rintro ⟨nm, v⟩ hy
  have q := S.par nm (List.of_mem_zip hy).1
  exact q.imp id fun q => ⟨q, PySem.W.cellsFrom_some _ _ _ (.inl q)⟩
theorem rm' {x qual : Str} {params : Arguments} {body : List Stmt} {scope : Scope} {N ps : List Str} {k : Nat} {sp : Sp} (F : FunD K x qual params body scope [] [] f fd) (S : FnScope N ps scope)
    (len : ∀ vs H Q E, sp vs H Q E -> vs.length = ps.length)
    (hbody : ∀ (cdv oc : Value) (od : Option Addr) (osl : Array (Option Value)), K.lookup f = some ⟨oc, od, .func fd, osl⟩ -> fd.code = cdv -> PySem.W.codeIn K cdv qual = true -> ∀ (A : Around) (o : List Env) (s : Shared) (H : Hp) (vs : List V) (Q : VK) (E : XK), RoomG k (A.deeper (envOfC qual scope s.heap.objs.size f cdv)) -> sp vs H Q E →
      ∃ t, PSs (cxOf CX P w K mg base N qual scope f cdv A o s H E) body t /\ t { nx := fun _ H' => Q .non H', rt := Q } (start N vs) H) : FnG P w K mg base CX (k + 1) f fd ps sp := by
  obtain ⟨oc, od, dV, kV, doc, pm, an, cdv, ct, osl, rfl, lk, hcd, _, _⟩ := F.ex
  constructor
  . exact len
  intro A o s H args us vs Q E hg e0 hb r hsp
  have Ks : K.In s.heap := e0.mod.kin.keeps fun b u e => (e0.bs b u e).1
  have Ls : s.heap.NoLimit := e0.mod.nolimit.keeps fun b u e => (e0.bs b u e).1
  refine codeAny_call_function hg.r.depth (Ks _ _ lk) rfl S.co S.gen rfl (PySem.W.codeRec_of Ks hcd) (hb _ _ _ _ ?_)
  refine wpAny_newFunctionEnv_cells S.kind (tH' S us _) fun env he s1 z => ?_
  subst he
  refine ⟨Ls.keeps z.toInCall.keep, codeAny_func ?_⟩
  obtain ⟨t, pt, tq⟩ := hbody cdv oc od osl lk rfl hcd A o s H vs Q E ⟨hg.r.deeper _, hg.g⟩ hsp
  have J := inv_start (CX := CX) (E := E) S hg.r.hd e0 (len _ _ _ _ hsp) r z
  refine wpAny_mono (pt.run [] s1 (start N vs) H _ J tq) (fun fl s' q => ?_) fun _ _ q => q
  cases fl with
  | next =>
    obtain ⟨σ', H', I, q⟩ := q
    exact ⟨V.non, H', I.os, I.bare, I.base, I.hok, rfl, q⟩
  | ret u =>
    obtain ⟨v, σ', H', I, e, q⟩ := q
    exact ⟨v, H', I.os, I.bare, I.base, I.hok, e, q⟩
  | brk => exact (let ⟨_, _, _, z⟩ := q; z).elim
  | cont => exact (let ⟨_, _, _, z⟩ := q; z).elim
theorem pX' {X : Cx} {pins : List (Addr × Obj)} {σ : St} {H : Hp} {s s' : Shared} {Q : VK} {E : XK} (hx : PassesAt CX X σ E) (I : Inv X pins σ H s) : ∀ r : Result, CR CX X.stack X.prog X.w H s Q E r s' -> (match r with
    | .ok (.ret u) => EP X pins σ Q u s'
    | .ok _ => False
    | .error e => X.xe e s')
  | .error e, q => hx pins H s e s' I q
  | .ok (.ret u), q => I.after q
  | .ok .next, q => q
  | .ok .brk, q => q
  | .ok .cont, q => q
end
section
variable {X : Cx} {CX : CXT} {k : Nat} {f C : Addr} {fd : FuncData} {ps : List Str} {sp : Sp} {E : St -> XK} {x m : Str} {p pos apos : Pos} {e o : Expr} {es : List Expr} {ta : TE} {t : TA} {W : WX}
theorem eg' {pins : List (Addr × Obj)} {σ : St} {H : Hp} {s : Shared} {Q : VK} {us : List Value} {vs : List V} (F : FnG X.prog X.w X.K X.mg X.base CX k f fd ps sp) (hr : RoomG k X.A)
    (hb : Binds X.K fd ps []) (hx : PassesAt CX X σ (E σ)) (I : Inv X pins σ H s) (r : Vals vs us) (h : sp vs H Q (E σ)) : wpAny (model X.prog X.w) X.A (call (.ref f) us) (EP X pins σ Q) X.xe s := by
  have b := hb s us I.kIn (by rw [List.append_nil, <- r.length]; exact F.len _ _ _ _ h)
  rw [List.append_nil] at b
  refine wpAny_call (codeAny_mono (F.run X.A X.stack s H ⟨us, []⟩ us vs Q (E σ) hr I.env0 b r h) fun res s' q => ?_)
  have z := pX' hx I res q
  revert z
  cases res with
  | error e => exact id
  | ok fl => cases fl <;> exact id
def Og (P : Program) (w : World) (K : PySem.W.Frag) (mg : Str -> Option Value) (base : Heap) (k : Nat) (x : Str) (ps : List Str) (sp : Sp) : Prop :=
  ∃ fd, FnG P w K mg base (L2.CX P w) k (He.ga K x) fd ps sp /\ Binds K fd ps [] /\ PySem.W.keepIn K (.ref (He.ga K x)) = true /\ mg x = some (.ref (He.ga K x))
def OgM (P : Program) (w : World) (K : PySem.W.Frag) (mg : Str -> Option Value) (base : Heap) (k : Nat) (C : Addr) (m : Str) (ps : List Str) (sp : Sp) : Prop :=
  ∃ fd, FnG P w K mg base (L2.CX P w) k (He.ma K C m) fd ps sp /\ Binds K fd ps []
theorem oo' (F : Og X.prog X.w X.K X.mg X.base k x ps sp) (hr : RoomG k X.A) (hg : Gl X x) (tk : Takes X W) (ha : PA X (e :: es) t) (hdb : (x == ("__debug__" : Str)) = false := by decide)
    (he : starEach (e :: es) X.env = (false, eval e X.env) :: starEach es X.env := by rfl) (hpl : (backTo pos (starEach es X.env)).any (·.1) = false := by rfl) : PE X (.Call (.Name x p) (e :: es) [] pos) (tCallS sp (WE W) t) := by
  obtain ⟨fd, F, b, kp, hm⟩ := F
  refine ⟨fun pins s σ H Q I h => wpAny_Call_Name_kw (ld_glob I hg hm ?_ hdb)⟩
  refine PySem.W.callWith_K (h₀ := X.base) I.ok.mod.kin kp (thn (ha.run pos pins s σ H _ I h) fun us s1 ⟨vs, H1, I1, r, q⟩ => ?_) he hpl
  exact ⟨I1.kIn, eg' F hr b (passAt tk σ) I1 r q⟩
def ga' (K : PySem.W.Frag) (cs : List String) (m : Str) (g : Addr) : Prop := ∀ C ∈ cs, Cls K (He.ga K (Str.ofString C)) /\ Meth K (He.ga K (Str.ofString C)) m g
def md' (K : PySem.W.Frag) (cs : List String) (m : Str) (sp : Sp) (E : St -> XK) (ta : TE) (t : TA) : TE := fun σ H Q => ta σ H fun x H1 => ∃ C, C ∈ cs /\ vC' (He.ga K (Str.ofString C)) m sp (E σ) σ t x H1 Q
theorem om' {pl : Sem Bool} {cs : List String} (he : PE X o ta) (F : OgM X.prog X.w X.K X.mg X.base k C m ps sp) (hr : RoomG k X.A) (hm : ga' X.K cs m (He.ma X.K C m)) (tk : Takes X W) (ha : PA X (e :: es) t)
    (hst : starEach (e :: es) X.env = (false, eval e X.env) :: starEach es X.env := by rfl) (hpl : (backTo pos (starEach es X.env)).any (·.1) = false := by rfl)
    (ht : eval (.Call (.Attribute o m apos) (e :: es) [] pos) X.env = (eval o X.env >>= fun ov => standAt apos.atName >>= fun _ => holding [ov] (getMethod ov m pl) >>= fun q =>
      callWith pos q.1 q.2 (backTo pos (starEach (e :: es) X.env)) (backToKw pos (keywordEach [] X.env))) := by rfl) :
    PE X (.Call (.Attribute o m apos) (e :: es) [] pos) (md' X.K cs m sp (WE W) ta t) := by
  obtain ⟨fd, F, hb⟩ := F
  refine ⟨fun pins s σ H Q I h => PySem.W.methodCall_KW (pl := pl) (thn (he.run pins s σ H _ I h) fun u s1 ⟨x, H1, I1, rx, D, hD, a, dx, fs, ex, ea, l, q⟩ => ?_) ht⟩
  obtain ⟨c, hm⟩ := hm D hD
  subst ex
  cases (show u = Value.ref a from rx)
  refine getmeth_ok I1 ea c hm l (PySem.W.callWith_K (first := [.ref a]) (h₀ := X.base) I.ok.mod.kin hm.kp (thn (ha.run pos pins s1 σ H1 _ I1 q) fun us s2 ⟨vs, H2, I2, r, q2⟩ => ?_) hst hpl)
  exact ⟨I2.kIn, eg' (us := .ref a :: us) (vs := .ref a :: vs) F hr hb (passAt tk σ) I2 (.cons rfl r) q2⟩
theorem mM' {pl : Sem Bool} {cs : List String} (he : PE X o ta) (F : OgM X.prog X.w X.K X.mg X.base k C m ps sp) (hr : RoomG k X.A) (hm : ga' X.K cs m (He.ma X.K C m)) (tk : Takes X W)
    (ht : eval (.Call (.Attribute o m apos) [] [] pos) X.env = (eval o X.env >>= fun ov => standAt apos.atName >>= fun _ => holding [ov] (getMethod ov m pl) >>= fun q =>
      callWith pos q.1 q.2 (backTo pos (starEach [] X.env)) (backToKw pos (keywordEach [] X.env))) := by rfl) :
    PE X (.Call (.Attribute o m apos) [] [] pos) (md' X.K cs m sp (WE W) ta tNil) := by
  obtain ⟨fd, F, hb⟩ := F
  refine ⟨fun pins s σ H Q I h => PySem.W.methodCall_KW (pl := pl) (thn (he.run pins s σ H _ I h) fun u s1 ⟨x, H1, I1, rx, D, hD, a, dx, fs, ex, ea, l, q⟩ => ?_) ht⟩
  obtain ⟨c, hm⟩ := hm D hD
  subst ex
  cases (show u = Value.ref a from rx)
  exact getmeth_ok I1 ea c hm l (PySem.W.callWith_K0 (first := [.ref a]) I1.kIn hm.kp (eg' (us := [.ref a]) (vs := [.ref a]) F hr hb (passAt tk σ) I1 (.cons rfl .nil) q))
theorem ky' {A : Around} {C : Addr} {us : List Value} {kw : List (Str × Value)} (h : A.guards = some []) : (A.under (.builtin "type.__call__" ⟨.ref C :: us, kw⟩)).guards = some [] := by
  simp [Around.under, Code.guards, Code.isGuard, guardIds, pushGuards, h]
theorem on' (F : OgM X.prog X.w X.K X.mg X.base k C "__init__" ps sp) (hr : RoomG (k + 1) X.A) (hg : Gl X x) (M : Mk X.K C (He.ma X.K C "__init__")) (hm : X.mg x = some (.ref C)) (tk : Takes X W)
    (ha : PA X (e :: es) t) (hdb : (x == ("__debug__" : Str)) = false := by decide) (he : starEach (e :: es) X.env = (false, eval e X.env) :: starEach es X.env := by rfl) (hpl : (backTo pos (starEach es X.env)).any (·.1) = false := by rfl) :
    PE X (.Call (.Name x p) (e :: es) [] pos) (pD' C sp (WE W) t) := by
  obtain ⟨fd, F, hb⟩ := F
  refine ⟨fun pins s σ H Q I h => wpAny_Call_Name_kw (ld_glob I hg hm ?_ hdb)⟩
  refine PySem.W.callWith_K (h₀ := X.base) I.ok.mod.kin M.kp (thn (ha.run pos pins s σ H _ I h) fun us s1 ⟨vs, H1, I1, r, q⟩ => ?_) he hpl
  have fr := fun n (l : s1.heap.objs.size <= n) => I1.hok.fresh l
  have q := q (s1.heap.objs.size + 1) s1.heap.objs.size (fr _ (Nat.le_succ _)) (fr _ (Nat.le_refl _)) (Nat.ne_of_lt (Nat.lt_succ_self _))
  have J := Inv.made (C := C) I1
  have b := hb (s := _) (us := Value.ref (s1.heap.objs.size + 1) :: us) J.kIn (by
    rw [List.append_nil, <- F.len _ _ _ _ q]
    simp [r.length])
  rw [List.append_nil] at b
  refine ⟨I1.kIn, wpAny_call (make_map (f := He.ma X.K C "__init__") I1.kIn M.makes M.init (beq_iff_eq.mp M.fn) (codeAny_mono (F.run _ X.stack _ _ ⟨Value.ref (s1.heap.objs.size + 1) :: us, []⟩ _ _ _ (WE W σ)
    (k := k) ⟨hr.r.make C _ [], ky' hr.g⟩ (J.env0.make C _ []) b (Paired.cons (show L2.RelV (.ref (s1.heap.objs.size + 1)) (.ref (s1.heap.objs.size + 1)) from rfl) r) q) fun res s' q' => ?_))⟩
  have z := pX' (passAt tk σ) J res q'
  revert z
  cases res with
  | error e => exact id
  | ok fl =>
    cases fl with
    | ret u =>
      rintro ⟨v, H', I3, rv, ev, q3⟩
      subst ev
      exact ⟨rv, ⟨V.ref (s1.heap.objs.size + 1), H', I3, rfl, q3⟩⟩
    | next => exact id
    | brk => exact id
    | cont => exact id
end
theorem kQ' {P : Program} {w : World} {CX : CXT} {H : Hp} {s s' : Shared} (hO : Only H) (ok : HOk P w H s.heap) (hCX : ∀ e s', CX [] H s (fun _ _ _ => False) e s' -> False) : ∀ res : Result,
    CR CX [] P w H s (fun v _ => v = .bl true) (fun _ _ _ => False) res s' -> res = .ok (.ret (.bool true)) /\ OldK s.heap s'.heap /\ s'.os = s.os /\ AllBare s'.gens
  | .error e, q => (hCX e s' q).elim
  | .ok .next, q => False.elim q
  | .ok .brk, q => False.elim q
  | .ok .cont, q => False.elim q
  | .ok (.ret u), ⟨v, H', os, bare, un, ok', rv, q⟩ => by
    have q : v = .bl true := q
    rw [q] at rv
    cases (show u = Value.bool true from rv)
    refine ⟨rfl, OldK.of_keep fun b o e => ?_, os, bare⟩
    rcases hO b with z | ⟨ob, xs, z⟩
    . exact un.keep b o e z (List.not_mem_nil) (List.not_mem_nil)
    . have e1 := (ok b _ z).1
      have e2 := (ok' b _ (un.frzs b ob _ z)).1
      rw [e] at e1
      cases e1
      exact e2
theorem g1' {P : Program} {w : World} {K : PySem.W.Frag} {mg mb : Str -> Option Value} {CX : CXT} {k : Nat} {fa a : Addr} {fd : FuncData} {x : Str} {sp : Sp} {s : Shared} {vs : List Value} {n0 : Nat} {H : Hp}
    (KX : K.In s.heap) (n1 : s.heap.Ns mainGlobals mg) (n2 : s.heap.Ns builtinsNs mb) (n3 : ∀ x : Str, x ≠ "__name__" -> mb x = bootBuiltins x) (lim : s.heap.NoLimit) (hg : s.gens = #[])
    (ha : s.heap.get? a = some { cls := .type "list", data := .seq vs.toArray n0 }) (hr : Room k callerA) (F : ∀ base : Heap, K.In base -> base.Ns mainGlobals mg -> FnG P w K mg base CX k fa fd [x] sp)
    (hbind : ∀ (s : Shared) (u : Value), BindsTo s fd ⟨[u], []⟩ [(x, u)]) (hO : Only H) (hs : sp [.ref a] H (fun v _ => v = .bl true) fun _ _ _ => False) (hCX : ∀ e s', CX [] H s (fun _ _ _ => False) e s' -> False)
    (ok : HOk P w H s.heap) (one : ∀ b u, H b = some u -> b = a) (out : H a ≠ none -> K.lookup a = none) :
    codeAny (model P w) callerA (.call (.ref fa) ⟨[.ref a], []⟩) (fun r s' => r = .ok (.ret (.bool true)) /\ OldK s.heap s'.heap /\ s'.os = s.os /\ AllBare s'.gens) s := by
  -- an object that is no list of the script stands in the base
  have apart : ∀ {b : Addr} {o : Obj}, s.heap.get? b = some o -> (∀ l n, o.data ≠ .seq l n) -> H b = none := by
    intro b o e d
    cases q : H b with
    | none => rfl
    | some u =>
      have e' := one b u q
      rw [e', ha] at e
      cases e
      exact absurd rfl (d _ _)
  have keep : ∀ {b : Addr} {m : Str -> Option Value}, s.heap.Ns b m -> (hidT s.heap H).Ns b m := by
    rintro b m ⟨o, es, ep, e, d, r⟩
    exact ⟨o, es, ep, hidT_get e (apart e fun l n z => by rw [d] at z; cases z), d, r⟩
  have Kb : K.In (hidT s.heap H) := by
    intro b o e
    refine hidT_get (KX b o e) ?_
    cases q : H b with
    | none => rfl
    | some u =>
      have e' := one b u q
      subst e'
      rw [out (by rw [q]; exact fun z => nomatch z)] at e
      cases e
  have M : Mod K mg (hidT s.heap H) := { kin := Kb, glob := keep n1, blt := ⟨mb, keep n2, n3⟩, nolimit := (let ⟨m, q1, q2⟩ := lim; ⟨m, keep q1, q2⟩) }
  have e0 : Env0 P w K mg (hidT s.heap H) callerA [] s H := { frames := rfl, mod := M, bs := (fun b o e => of_hidT e), bsz := Nat.le_of_eq (hidT_size _ _), funs := trivial, frf := (fun b z => absurd z List.not_mem_nil), hok := ok, bare := .of_eq hg }
  exact codeAny_mono ((F _ Kb (keep n1)).run callerA [] s H ⟨[.ref a], []⟩ [.ref a] [.ref a] _ _ ⟨hr, rfl⟩ e0 (hbind s (.ref a)) (.cons rfl .nil) hs) fun r s' q => kQ' hO ok hCX r q
theorem nc' {P : Program} {w : World} {K : PySem.W.Frag} {mg mb : Str -> Option Value} {CX : CXT} {k : Nat} {fa a : Addr} {fd : FuncData} {x : Str} {sp : Sp} {s : Shared} {vs : List Value} {ns : List Int}
    (KX : K.In s.heap) (n1 : s.heap.Ns mainGlobals mg) (n2 : s.heap.Ns builtinsNs mb) (n3 : ∀ x : Str, x ≠ "__name__" -> mb x = bootBuiltins x) (lim : s.heap.NoLimit) (hg : s.gens = #[])
    (ha : s.heap.get? a = some { cls := .type "list", data := .seq vs.toArray }) (hi : IntsAre vs ns) (hl : ns.length <= sizeLine) (hr : Room k callerA)
    (F : ∀ base : Heap, K.In base -> base.Ns mainGlobals mg -> FnG P w K mg base CX k fa fd [x] sp) (hbind : ∀ (s : Shared) (u : Value), BindsTo s fd ⟨[u], []⟩ [(x, u)])
    (hsp : ∀ H : Hp, Only H -> SqL K H a (ns.map V.int) -> sp [.ref a] H (fun v _ => v = .bl true) fun _ _ _ => False) (hCX : ∀ H e s', CX [] H s (fun _ _ _ => False) e s' -> False) :
    codeAny (model P w) callerA (.call (.ref fa) ⟨[.ref a], []⟩) (fun r s' => r = .ok (.ret (.bool true)) /\ OldK s.heap s'.heap /\ s'.os = s.os /\ AllBare s'.gens) s := by
  have rv := vals_ints hi
  have zl : (vs.toArray).size <= sizeLine := by rw [List.size_toArray, hi.length]; exact hl
  rcases hk : K.lookup a with _ | o
  . -- the script alone is tracked
    let H : Hp := fun b => if b = a then some (.frz { cls := .type "list", data := .seq vs.toArray } (.lst (ns.map V.int))) else none
    have Ha : H a = some (.frz { cls := .type "list", data := .seq vs.toArray } (.lst (ns.map V.int))) := if_pos rfl
    have Hb : ∀ b u, H b = some u -> b = a := fun b u z => Classical.byContradiction fun nb => by rw [show H b = none from if_neg nb] at z; cases z
    have hO : Only H := fun b => (Decidable.em (b = a)).elim (fun e => .inr ⟨_, _, if_pos e⟩) fun e => .inl (if_neg e)
    refine g1' KX n1 n2 n3 lim hg ha hr F hbind hO (hsp H hO (.inl (.inr ⟨_, Ha⟩))) (hCX H) (fun b u z => ?_) Hb fun _ => hk
    have eb := Hb b u z
    subst eb
    rw [Ha] at z
    cases z
    exact ⟨ha, by rw [List.length_map]; exact hl, vs, _, rv, ha⟩
  . -- it is one of the module's own
    have e := KX a o hk
    rw [ha] at e
    cases e
    let H : Hp := fun _ => none
    have hO : Only H := fun _ => .inl rfl
    refine g1' KX n1 n2 n3 lim hg ha hr F hbind hO (hsp H hO (.inr ⟨_, vs.toArray, _, hk, rfl, rfl, rfl, zl, rv⟩)) (hCX H) (fun b u z => nomatch z) (fun b u z => nomatch z) fun z => absurd rfl z
theorem nU' {l : PySem.W.OpenLaw} {n k : Nat} {q : Program} {loose : List Str} {XP : (Str -> Option Value) -> Heap -> Prop} {YP : World -> Heap -> Prop} {d : DefRec} {CX : CXT} {x : Str}
    (hn : l.most = some n) (hn2 : n <= sizeLine) (hdf : d.params.defaults = []) (hr : Room k callerA)
    (F : ∀ (w : World) (mg : Str -> Option Value) (fa : Addr) (h : Heap), YP w h -> h.Ns mainGlobals mg -> mg d.name = some (.ref fa) -> ∃ (K : PySem.W.Frag) (fd : FuncData) (sp : Sp), K.In h ∧
      (∀ (s : Shared) (u : Value), BindsTo s fd ⟨[u], []⟩ [(x, u)]) /\ (∀ (H : Hp) (a : Addr) (ns : List Int), ns.length <= n -> Only H -> SqL K H a (ns.map V.int) -> sp [.ref a] H (fun v _ => v = .bl true) fun _ _ _ => False) ∧
        ∀ base : Heap, K.In base -> base.Ns mainGlobals mg -> FnG l.prog w K mg base CX k fa fd [x] sp)
    (hCX : ∀ (H : Hp) (s : Shared) (e : Value) (s' : Shared), CX [] H s (fun _ _ _ => False) e s' -> False) : PySem.W.WalkO q loose XP YP l.row.toRowW d [] (fun f vs => PySem.call f vs) :=
  Att.attach_call hn hdf fun w s₀ s₁ mg mb fa o pm cd doc a vs ns G Y ho hd hcd hmg hobj hints hlen hg => by
    obtain ⟨K, fd, sp, KX, hb, hsp, hF⟩ := F w mg fa _ Y G.T.g hmg
    exact nc' KX G.T.g G.T.b G.T.builtins G.T.nolimit hg hobj hints (Nat.le_trans hlen hn2) hr hF hb (fun H hO hS => hsp H a ns hlen hO hS) fun H e s' => hCX H s₁ e s'
theorem FnG.to0 {P : Program} {w : World} {K : PySem.W.Frag} {mg : Str -> Option Value} {base : Heap} {k : Nat} {f : Addr} {fd : FuncData} {ps : List Str} {sp : Sp} (F : FnG P w K mg base (L2.CX P w) k f fd ps sp) :
    FnG P w K mg base CX0 k f fd ps (fun vs H Q _ => sp vs H Q E0) := by
  refine ⟨fun vs H Q _ h => F.len vs H Q E0 h, fun A o s H args us vs Q _ hr he hb hv hs => codeAny_mono (F.run A o s H args us vs Q E0 hr he hb hv hs) fun r s' q => ?_⟩
  rcases r with e | fl
  . obtain ⟨_, _, _, _, _, _, _, _, _, _, _, _, z⟩ := q
    exact z.elim
  . cases fl <;> exact q
end S
namespace S
open PySem PySem.Spec PyProof.Rows L2
def sx (s : M.Tx) : Str := ⟨s.toArray⟩
theorem fc' (s : M.Tx) : (sx s).cps.toList = s := rfl
theorem b0' (s : M.Tx) : (sx s).length = s.length := by show s.toArray.size = _; simp
theorem sC' {a b : M.Tx} (h : sx a = sx b) : a = b := by have := congrArg (fun z : Str => z.cps.toList) h; exact this
theorem sE' (a b : M.Tx) : sx a ++ sx b = sx (a ++ b) := hV' (by rw [pd', fc', fc', fc'])
def okT (s : M.Tx) : Prop := (∀ c ∈ s, c < 1114112) /\ s.length <= M.dQ'
def okK : Key -> Prop
  | .inl _ => True
  | .inr x => okT x.cps.toList
def kv' (kvs : List (Key × V)) : Prop := ∀ p ∈ kvs, okK p.1
theorem kv'.nil : kv' [] := fun _ h => nomatch h
theorem kv'.snoc {kvs : List (Key × V)} (h : kv' kvs) {k : Key} {v : V} (hk : okK k) : kv' (kvs ++ [(k, v)]) := fun p hp => by
  rcases List.mem_append.mp hp with hp | hp
  . exact h p hp
  . rw [List.mem_singleton.mp hp]; exact hk
theorem kv'.fst {kvs kvs' : List (Key × V)} (h : kv' kvs) (e : kvs'.map (·.1) = kvs.map (·.1)) : kv' kvs' := fun p hp => by
  have : p.1 ∈ kvs.map (·.1) := by rw [<- e]; exact List.mem_map_of_mem hp
  obtain ⟨q, h1, h2⟩ := List.mem_map.mp this
  rw [<- h2]; exact h q h1
def kD : Key -> M.D
  | .inl i => .int i
  | .inr x => .str x.cps.toList
mutual
def py : M.D -> PyData
  | .bl b => .bool b
  | .int i => .int i
  | .str s => .str (sx s)
  | .tup ds => .tuple (pys ds)
  | .lst ds => .list (pys ds)
  | .dct ks ds => .dict ((pys ks).zip (pys ds))
  | _ => .none
def pys : List M.D -> List PyData
  | [] => []
  | d :: r => py d :: pys r
end
class Wd where
  P : Program
  w : World
  ts : List (Addr × Str)
structure CloD where
  f : Addr
  c : Addr
  q : Str
  ob : Obj
  ws : List V
  caps : List M.D
class Hot where
  hot : Option (Addr × Nat × Option Addr × M.Exc)
  clo : List (Nat × CloD)
abbrev nE' (cs : List (Nat × CloD)) : Hot := ⟨none, cs⟩
instance coldI : Hot := ⟨none, []⟩
def FnO (f : Addr) (ob : Obj) : HO := .ext fun h => h.get? f = some ob
variable [Wd]
mutual
def nk : M.D -> NestedKey
  | .bl b => .num (if b = true then 1 else 0)
  | .int i => .num i
  | .str s => .text (sx s)
  | .tup ds => .tup (nks ds)
  | _ => .none
def nks : List M.D -> List NestedKey
  | [] => []
  | d :: r => nk d :: nks r
end
def lfD : M.D -> Leaf
  | .bl b => .num (if b = true then 1 else 0)
  | .int i => .num i
  | .str s => .text (sx s)
  | _ => .none
def dcL (p : Addr) (kvs : List (Leaf × V)) : HO := .ext fun h => (p == sysModules) = false /\ kvs.length <= sizeLine /\ ∃ vs, KV kvs vs /\ h.DictOf (leafKind Wd.P Wd.w) p vs
abbrev xW' : NestedKey × Addr × V -> NestedKey × Addr × Value -> Prop := fun x y => x.1 = y.1 /\ x.2.1 = y.2.1 /\ RelV x.2.2 y.2.2
def dcN (p : Addr) (xs : List (NestedKey × Addr × V)) : HO := .ext fun h => (p == sysModules) = false /\ xs.length <= sizeLine /\ (xs.map (·.1)).Nodup /\ ∃ ys, Paired xW' xs ys ∧
  ∃ o es ep, h.get? p = some o /\ o.ExactDict /\ o.data = .dict es ep /\ es.toList = ys.map (entryOfKey (nestedKind Wd.P Wd.w))
structure LeafKeys (ks : List M.D) (ls : List Leaf) : Prop where
  e : ls = ks.map lfD
  s : ∀ d ∈ ks, M.sca d = true
structure NestKeys (ks : List M.D) (xs : List (NestedKey × Addr × V)) : Prop where
  e : xs.map (·.1) = ks.map nk
  s : ∀ d ∈ ks, M.kat d = true /\ M.dep d <= 8 /\ M.sca d = false
section
variable (K : PySem.W.Frag)
mutual
/-- v stands for d: what it stands on lies in F and never changes; T: where the world's objects stand -/
inductive Fz (F : Hp) (T : List Addr) : V -> M.D -> Prop
  | non : Fz F T .non .non
  | bl (b : Bool) : Fz F T (.bl b) (.bl b)
  | int (i : Int) : Fz F T (.int i) (.int i)
  | str {s : M.Tx} : okT s -> Fz F T (.str (sx s)) (.str s)
  | tup {a : Addr} {vs : List V} {ds : List M.D} : SqT K F a vs -> FzA F T vs ds -> Fz F T (.ref a) (.tup ds)
  | lst {a : Addr} {vs : List V} {ds : List M.D} : F a = some (.lst vs) -> FzA F T vs ds -> Fz F T (.ref a) (.lst ds)
  | dct {a : Addr} {kvs : List (Key × V)} {ds : List M.D} : Rd F a (.dK kvs) -> kv' kvs -> FzA F T (kvs.map (·.2)) ds -> Fz F T (.ref a) (.dct (kvs.map fun p => kD p.1) ds)
  | dcl {a : Addr} {kvs : List (Leaf × V)} {ks ds : List M.D} : Rd F a (dcL a kvs) -> LeafKeys ks (kvs.map (·.1)) -> FzA F T (kvs.map (·.2)) ds -> Fz F T (.ref a) (.dcx ks ds)
  | dcn {a : Addr} {xs : List (NestedKey × Addr × V)} {ks ds : List M.D} : Rd F a (dcN a xs) -> NestKeys ks xs -> FzA F T (xs.map fun x => .ref x.2.1) ks -> FzA F T (xs.map (·.2.2)) ds -> Fz F T (.ref a) (.dcx ks ds)
  | rep (d : M.D) : Fz F T (.str (py d).shown) (.rep d)
  | obj {n : Nat} {a : Addr} : T[n]? = some a -> Fz F T (.ref a) (.obj n)
  | ty (n : String) : Fz F T (.ty n) (.ty n)
  | fn (x : String) : Fz F T (.ref (He.ga K x)) (.fn x)
  | scr {a : Addr} {vs : List V} {ds : List M.D} : SqL K F a vs -> FzA F T vs ds -> Fz F T (.ref a) (.scr ds)
inductive FzA (F : Hp) (T : List Addr) : List V -> List M.D -> Prop
  | nil : FzA F T [] []
  | cons {v : V} {vs : List V} {d : M.D} {ds : List M.D} : Fz F T v d -> FzA F T vs ds -> FzA F T (v :: vs) (d :: ds)
end
abbrev Fp := List (Addr × HO)
mutual
/-- v stands for o, alone; fp: what it stands on and may change -/
inductive Rp (F : Hp) (T : List Addr) : V -> M.O -> Fp -> Prop
  | fz {v : V} {d : M.D} : Fz K F T v d -> Rp F T v (.fz d) []
  | lst {p : Addr} {vs : List V} {os : List M.O} {fp : Fp} : RpA F T vs os fp -> Rp F T (.ref p) (.lst os) ((p, .lst vs) :: fp)
  | tup {p : Addr} {vs : List V} {os : List M.O} {fp : Fp} : RpA F T vs os fp -> Rp F T (.ref p) (.tup os) ((p, .tup vs) :: fp)
  | dct {p : Addr} {kvs : List (Key × V)} {os : List M.O} {fp : Fp} : kv' kvs -> RpA F T (kvs.map (·.2)) os fp -> Rp F T (.ref p) (.dct (kvs.map fun q => kD q.1) os) ((p, .dK kvs) :: fp)
  | dcl {p : Addr} {kvs : List (Leaf × V)} {ks : List M.D} {os : List M.O} {fp : Fp} : LeafKeys ks (kvs.map (·.1)) -> RpA F T (kvs.map (·.2)) os fp -> Rp F T (.ref p) (.dcx ks os) ((p, dcL p kvs) :: fp)
  | dcn {p : Addr} {xs : List (NestedKey × Addr × V)} {ks : List M.D} {os : List M.O} {fp : Fp} : NestKeys ks xs -> FzA K F T (xs.map fun x => .ref x.2.1) ks -> RpA F T (xs.map (·.2.2)) os fp -> Rp F T (.ref p) (.dcx ks os) ((p, dcN p xs) :: fp)
inductive RpA (F : Hp) (T : List Addr) : List V -> List M.O -> Fp -> Prop
  | nil : RpA F T [] [] []
  | cons {v : V} {vs : List V} {o : M.O} {os : List M.O} {fp fq : Fp} : Rp F T v o fp -> RpA F T vs os fq -> RpA F T (v :: vs) (o :: os) (fp ++ fq)
end
def XcR (F : Hp) (T : List Addr) (x : M.Exc) (cls : Value) (dd : Option Addr) : Prop :=
  cls = .ref (He.ga K x.cls) /\ ((x.fs = [] /\ dd = none) \/ ∃ (a : Addr) (f : String) (v : V) (d : M.D), x.fs = [(f, d)] /\ dd = some a /\ F a = some (.xd [(Str.ofString f, v)]) /\ Fz K F T v d)
structure CloAt (F : Hp) (T : List Addr) (c : CloD) : Prop where
  fn : Rd F c.f (FnO c.f c.ob)
  code : Rd F c.c (LamX.CodeO c.c c.q)
  caps : FzA K F T c.ws c.caps
variable [Hot]
inductive RpE (F : Hp) (T : List Addr) : St -> List (Option M.O) -> Fp -> Prop
  | nil : RpE F T [] [] []
  | off {x : Option V} {σ : St} {env : List (Option M.O)} {fp : Fp} : RpE F T σ env fp -> RpE F T (x :: σ) (none :: env) fp
  | on {v : V} {o : M.O} {σ : St} {env : List (Option M.O)} {fp fq : Fp} : Rp K F T v o fp -> RpE F T σ env fq -> RpE F T (some v :: σ) (some o :: env) (fp ++ fq)
  | hot {a : Addr} {dd : Option Addr} {x : M.Exc} {σ : St} {env : List (Option M.O)} {fp : Fp} : Hot.hot = some (a, env.length, dd, x) -> XcR K F T x (.ref (He.ga K x.cls)) dd -> RpE F T σ env fp -> RpE F T (some (.ref a) :: σ) (some .exn :: env) fp
  | clo {c : CloD} {σ : St} {env : List (Option M.O)} {fp : Fp} : Hot.clo.lookup env.length = some c -> CloAt K F T c -> RpE F T σ env fp -> RpE F T (some (.ref c.f) :: σ) (some .clo :: env) fp
inductive RpOb (F : Hp) (T : List Addr) : Addr -> M.Ob -> Fp -> Prop
  | lst {a : Addr} {vs : List V} {os : List M.O} {fp : Fp} : RpA K F T vs os fp -> RpOb F T a (.lst os) ((a, .lst vs) :: fp)
  | dct {a : Addr} {kvs : List (Key × V)} {os : List M.O} {fp : Fp} : kv' kvs -> RpA K F T (kvs.map (·.2)) os fp -> RpOb F T a (.dct (kvs.map fun q => kD q.1) os) ((a, .dK kvs) :: fp)
  | dcl {a : Addr} {kvs : List (Leaf × V)} {ks : List M.D} {os : List M.O} {fp : Fp} : LeafKeys ks (kvs.map (·.1)) -> RpA K F T (kvs.map (·.2)) os fp -> RpOb F T a (.dcx ks os) ((a, dcL a kvs) :: fp)
  | dcn {a : Addr} {xs : List (NestedKey × Addr × V)} {ks : List M.D} {os : List M.O} {fp : Fp} : NestKeys ks xs -> FzA K F T (xs.map fun x => .ref x.2.1) ks -> RpA K F T (xs.map (·.2.2)) os fp -> RpOb F T a (.dcx ks os) ((a, dcN a xs) :: fp)
  | ins {a dx : Addr} {C : String} {fs : List (String × V)} {os : List M.O} {fp : Fp} : F dx = some (.own a) -> RpA K F T (fs.map (·.2)) os fp →
      RpOb F T a (.ins C ((fs.map (·.1)).zip os)) ((a, .ins (He.ga K C) dx (fs.map fun q => (Str.ofString q.1, q.2))) :: fp)
inductive RpW (F : Hp) (T : List Addr) : List Addr -> M.W -> Fp -> Prop
  | nil : RpW F T [] [] []
  | cons {a : Addr} {l : List Addr} {ob : M.Ob} {w : M.W} {fp fq : Fp} : RpOb K F T a ob fp -> RpW F T l w fq -> RpW F T (a :: l) (ob :: w) (fp ++ fq)
structure Kept (F H : Hp) (fp : Fp) (F' H' : Hp) (fp' : Fp) : Prop where
  un : ∀ a, F a = none -> H a ≠ none -> (∀ e ∈ fp, e.1 ≠ a) -> F' a = none /\ H' a = H a /\ ∀ e ∈ fp', e.1 ≠ a
  cd : ∀ c q, Rd F c (LamX.CodeO c q) -> Rd F' c (LamX.CodeO c q)
structure TbAt (F H : Hp) (fp : Fp) (P : Addr) (q : Str) : Prop where
  f : F P = none
  n : ∀ e ∈ fp, e.1 ≠ P
  t : ∃ ps : Array Value, H P = some (.tbl ps) /\ TriplesOk ps.toList /\ ∀ (pos : Pos) (cv : Value), codeAmong pos ps.toList = some cv -> ∃ c, cv = .ref c /\ Rd F c (LamX.CodeO c q)
theorem TbAt.kept {F H F' H' : Hp} {fp fp' : Fp} {P : Addr} {q : Str} (h : TbAt F H fp P q) (k : Kept F H fp F' H' fp') : TbAt F' H' fp' P q := by
  obtain ⟨ps, h1, h2, h3⟩ := h.t
  obtain ⟨k1, k2, k3⟩ := k.un P h.f (by rw [h1]; simp) h.n
  refine ⟨k1, k3, ps, by rw [k2]; exact h1, h2, fun pos cv hc => ?_⟩
  obtain ⟨c, e1, e2⟩ := h3 pos cv hc
  exact ⟨c, e1, k.cd c q e2⟩
structure FpH (F H : Hp) (fp : Fp) : Prop where
  low : Same F H
  at_ : ∀ e ∈ fp, H e.1 = some e.2 /\ F e.1 = none
  nd : (fp.map (·.1)).Nodup
  tb : ∀ p ∈ Wd.ts, TbAt F H fp p.1 p.2
theorem FpH.tbs {F H F' H' : Hp} {fp fp' : Fp} (f : FpH F H fp) (un : ∀ a, F a = none -> H a ≠ none -> (∀ e ∈ fp, e.1 ≠ a) -> F' a = none /\ H' a = H a /\ ∀ e ∈ fp', e.1 ≠ a)
    (cd : ∀ c q, Rd F c (LamX.CodeO c q) -> Rd F' c (LamX.CodeO c q) := by exact fun _ _ h => h) : ∀ p ∈ Wd.ts, TbAt F' H' fp' p.1 p.2 := fun p hp => (f.tb p hp).kept ⟨un, cd⟩
theorem h7' {F F' : Hp} (s : Same F F') {c : Addr} {o : HO} (h : Rd F c o) : Rd F' c o := by
  rcases h with h | ⟨od, h⟩
  . exact .inl (s _ _ h)
  . exact .inr ⟨od, s _ _ h⟩
def Rel (ρ : M.PSt) (σ : St) (H F : Hp) (T : List Addr) (fr : Fp) : Prop := ∃ fe fw, RpE K F T σ ρ.env fe /\ RpW K F T T ρ.w fw /\ FpH F H (fe ++ (fw ++ fr))
abbrev nR' (w : M.W) (H F : Hp) (T : List Addr) (fr : Fp) : Prop := @Rel _ K coldI ⟨[], w⟩ [] H F T fr
theorem qU' {K : PySem.W.Frag} {F : Hp} {T : List Addr} : @RpE _ K coldI F T [] [] [] := @RpE.nil _ K coldI F T
def Lkb (o : HO) : Prop := (∃ kvs, o = .dK kvs) \/ ∃ φ, o = .ext φ
def Wk (F F' : Hp) : Prop := ∀ a o, F a = some o -> F' a = some o \/ Lkb o /\ ∃ od, F' a = some (.frz od o)
theorem Wk.of {F F' : Hp} (s : Same F F') : Wk F F' := fun a o h => .inl (s a o h)
theorem Wk.trans {F F' F2 : Hp} (s : Wk F F') (r : Wk F' F2) : Wk F F2 := fun a o h => by
  rcases s a o h with h1 | ⟨hl, od, h1⟩
  . exact r a o h1
  . rcases r a _ h1 with h2 | ⟨⟨_, e⟩ | ⟨_, e⟩, _⟩
    . exact .inr ⟨hl, od, h2⟩
    . cases e
    . cases e
theorem Wk.at_ {F F' : Hp} (s : Wk F F') {a : Addr} {o : HO} (h : F a = some o) (n : ∀ kvs, o ≠ .dK kvs) (n2 : ∀ φ, o ≠ .ext φ := by intro _ e; cases e) : F' a = some o := by
  rcases s a o h with h | ⟨⟨kvs, rfl⟩ | ⟨φ, rfl⟩, od, _⟩
  . exact h
  . exact absurd rfl (n kvs)
  . exact absurd rfl (n2 φ)
theorem Wk.rd {F F' : Hp} (s : Wk F F') {a : Addr} {u : HO} (hl : Lkb u) (h : Rd F a u) : Rd F' a u := by
  rcases h with h | ⟨o, h⟩
  . rcases s _ _ h with h | ⟨_, od, h⟩
    . exact .inl h
    . exact .inr ⟨od, h⟩
  . exact .inr ⟨o, s.at_ h fun _ e => nomatch e⟩
theorem Wk.lst {F F' : Hp} (s : Wk F F') {a : Addr} {vs : List V} (h : F a = some (.lst vs)) : F' a = some (.lst vs) := s.at_ h fun _ e => nomatch e
theorem Wk.dict {F F' : Hp} (s : Wk F F') {a : Addr} {kvs : List (Key × V)} (h : Rd F a (.dK kvs)) : Rd F' a (.dK kvs) := by
  exact s.rd (.inl ⟨_, rfl⟩) h
theorem Wk.seqT {K : PySem.W.Frag} {F F' : Hp} (s : Wk F F') {a : Addr} {xs : List V} (h : SqT K F a xs) : SqT K F' a xs := by
  rcases h with (h | ⟨o, h⟩) | h
  . exact .inl (.inl (s.at_ h fun _ e => nomatch e))
  . exact .inl (.inr ⟨o, s.at_ h fun _ e => nomatch e⟩)
  . exact .inr h
theorem Wk.seqL {K : PySem.W.Frag} {F F' : Hp} (s : Wk F F') {a : Addr} {xs : List V} (h : SqL K F a xs) : SqL K F' a xs := by
  rcases h with (h | ⟨o, h⟩) | h
  . exact .inl (.inl (s.at_ h fun _ e => nomatch e))
  . exact .inl (.inr ⟨o, s.at_ h fun _ e => nomatch e⟩)
  . exact .inr h
structure Ext (F : Hp) (T : List Addr) (F' : Hp) (T' : List Addr) : Prop where
  f : Wk F F'
  t : T <+: T'
end
variable [Hot]
section
variable {K : PySem.W.Frag} {F F' F2 H H' : Hp} {T T' T2 : List Addr}
theorem Ext.refl : Ext F T F T := ⟨fun _ _ h => .inl h, List.prefix_refl _⟩
theorem Ext.trans (a : Ext F T F' T') (b : Ext F' T' F2 T2) : Ext F T F2 T2 := ⟨a.f.trans b.f, a.t.trans b.t⟩
theorem Ext.of (h : Same F F') : Ext F T F' T := ⟨.of h, List.prefix_refl _⟩
theorem Ext.get (e : Ext F T F' T') {n : Nat} {a : Addr} (h : T[n]? = some a) : T'[n]? = some a := by
  obtain ⟨r, rfl⟩ := e.t
  rw [List.getElem?_append_left (List.getElem?_eq_some_iff.mp h).1]
  exact h
mutual
theorem Fz.mono (e : Ext F T F' T') : ∀ {v : V} {d : M.D}, Fz K F T v d -> Fz K F' T' v d
  | _, _, .non => .non
  | _, _, .bl b => .bl b
  | _, _, .int i => .int i
  | _, _, .str h => .str h
  | _, _, .tup h r => .tup (e.f.seqT h) (FzA.mono e r)
  | _, _, .lst h r => .lst (e.f.lst h) (FzA.mono e r)
  | _, _, .dct h k r => .dct (e.f.dict h) k (FzA.mono e r)
  | _, _, .dcl h k r => .dcl (e.f.rd (.inr ⟨_, rfl⟩) h) k (FzA.mono e r)
  | _, _, .dcn h k q r => .dcn (e.f.rd (.inr ⟨_, rfl⟩) h) k (FzA.mono e q) (FzA.mono e r)
  | _, _, .rep d => .rep d
  | _, _, .obj h => .obj (e.get h)
  | _, _, .ty n => .ty n
  | _, _, .fn x => .fn x
  | _, _, .scr h r => .scr (e.f.seqL h) (FzA.mono e r)
theorem FzA.mono (e : Ext F T F' T') : ∀ {vs : List V} {ds : List M.D}, FzA K F T vs ds -> FzA K F' T' vs ds
  | _, _, .nil => .nil
  | _, _, .cons h r => .cons (Fz.mono e h) (FzA.mono e r)
end
mutual
theorem Rp.mono (e : Ext F T F' T') : ∀ {v : V} {o : M.O} {fp : Fp}, Rp K F T v o fp -> Rp K F' T' v o fp
  | _, _, _, .fz h => .fz (h.mono e)
  | _, _, _, .lst r => .lst (RpA.mono e r)
  | _, _, _, .tup r => .tup (RpA.mono e r)
  | _, _, _, .dct k r => .dct k (RpA.mono e r)
  | _, _, _, .dcl k r => .dcl k (RpA.mono e r)
  | _, _, _, .dcn k q r => .dcn k (q.mono e) (RpA.mono e r)
theorem RpA.mono (e : Ext F T F' T') : ∀ {vs : List V} {os : List M.O} {fp : Fp}, RpA K F T vs os fp -> RpA K F' T' vs os fp
  | _, _, _, .nil => .nil
  | _, _, _, .cons h r => .cons (Rp.mono e h) (RpA.mono e r)
end
theorem XcR.mono' (e : Ext F T F' T') {x : M.Exc} {cls : Value} {dd : Option Addr} (h : XcR K F T x cls dd) : XcR K F' T' x cls dd := by
  obtain ⟨h1, h2 | ⟨a, f, v, d, h3, h4, h5, h6⟩⟩ := h
  . exact ⟨h1, .inl h2⟩
  . exact ⟨h1, .inr ⟨a, f, v, d, h3, h4, e.f.at_ h5 (fun _ z => nomatch z), h6.mono e⟩⟩
theorem CloAt.mono (e : Ext F T F' T') {c : CloD} (h : CloAt K F T c) : CloAt K F' T' c := ⟨e.f.rd (.inr ⟨_, rfl⟩) h.fn, e.f.rd (.inr ⟨_, rfl⟩) h.code, h.caps.mono e⟩
theorem RpE.mono (e : Ext F T F' T') {σ : St} {env : List (Option M.O)} {fp : Fp} (h : RpE K F T σ env fp) : RpE K F' T' σ env fp := by
  induction h with
  | nil => exact .nil
  | off _ ih => exact .off ih
  | on r _ ih => exact .on (r.mono e) ih
  | hot h z _ ih => exact .hot h (z.mono' e) ih
  | clo h z _ ih => exact .clo h (z.mono e) ih
theorem RpOb.mono (e : Ext F T F' T') {a : Addr} {ob : M.Ob} {fp : Fp} (h : RpOb K F T a ob fp) : RpOb K F' T' a ob fp := by
  cases h with
  | lst r => exact .lst (r.mono e)
  | dct k r => exact .dct k (r.mono e)
  | dcl k r => exact .dcl k (r.mono e)
  | dcn k q r => exact .dcn k (q.mono e) (r.mono e)
  | ins d r => exact .ins (e.f.at_ d fun _ z => nomatch z) (r.mono e)
theorem RpW.mono (e : Ext F T F' T') {l : List Addr} {w : M.W} {fp : Fp} (h : RpW K F T l w fp) : RpW K F' T' l w fp := by
  induction h with
  | nil => exact .nil
  | cons r _ ih => exact .cons (r.mono e) ih
theorem FpH.new {p : Addr} {o : HO} {fp : Fp} (f : FpH F H fp) (hp : H p = none) : FpH (upd F p o) (upd H p o) fp := by
  have np : ∀ e ∈ fp, e.1 ≠ p := fun e he => ne_of_none (f.at_ e he).1 hp
  refine ⟨fun a u h => ?_, fun e he => ?_, f.nd, f.tbs (fun a h1 h2 h3 => ?_) fun c q h => h7' (fun b u e => by rw [upd_ne (fun z => by rw [z] at e; rw [f.low _ _ e] at hp; cases hp)]; exact e) h⟩
  . by_cases ha : a = p
    . subst ha; rw [upd_same] at h ⊢; exact h
    . rw [upd_ne ha] at h ⊢; exact f.low _ _ h
  . rw [upd_ne (np e he), upd_ne (np e he)]; exact f.at_ e he
  . have ha : a ≠ p := fun z => h2 (by rw [z]; exact hp)
    exact ⟨by rw [upd_ne ha]; exact h1, upd_ne ha, h3⟩
theorem FpH.free {fp : Fp} (f : FpH F H fp) {p : Addr} (hp : H p = none) : F p = none := by
  cases h : F p with
  | none => rfl
  | some o => rw [f.low _ _ h] at hp; cases hp
theorem bW' {p : Addr} {o : HO} (h : F p = none) : Same F (upd F p o) := fun b u e => by rw [upd_ne (ne_of_none e h)]; exact e
end
section
variable {K : PySem.W.Frag} {W : WX} {α β : Type}
abbrev Wx := M.Exc -> M.PSt -> Prop
def a0' (r : M.Res α) (P : α -> M.PSt -> Prop) (X : Wx) : Prop := match r with
  | .ok a ρ => P a ρ
  | .exc x ρ => X x ρ
  | .bad => False
theorem a0'.bind {r : M.Res α} {f : α -> M.PSt -> M.Res β} {P : β -> M.PSt -> Prop} {X : Wx} (h : a0' (r.bind f) P X) : a0' r (fun a ρ => a0' (f a ρ) P X) X := by
  cases r with
  | ok a ρ => exact h
  | exc x ρ => exact h
  | bad => exact h
theorem a0'.ofO {o : Option α} {ρ : M.PSt} {P : α -> M.PSt -> Prop} {X : Wx} (h : a0' (M.ofO o ρ) P X) : ∃ a, o = some a /\ P a ρ := by
  cases o with
  | none => exact h.elim
  | some a => exact ⟨a, rfl, h⟩
theorem a0'.mono {r : M.Res α} {P P' : α -> M.PSt -> Prop} {X X' : Wx} (h : a0' r P X) (hp : ∀ a ρ, P a ρ -> P' a ρ) (hx : ∀ x ρ, X x ρ -> X' x ρ) : a0' r P' X' := by
  cases r with
  | ok a ρ => exact hp _ _ h
  | exc x ρ => exact hx _ _ h
  | bad => exact h
def EX (K : PySem.W.Frag) (W : WX) (σ : St) (F : Hp) (T : List Addr) (fr : Fp) : Wx := fun x ρ => ∀ cls dd H' F' T', Ext F T F' T' -> XcR K F' T' x cls dd -> Rel K ρ σ H' F' T' fr -> W cls dd σ H'
theorem EX.mono {σ : St} {F F' : Hp} {T T' : List Addr} {fr : Fp} {x : M.Exc} {ρ : M.PSt} (h : EX K W σ F T fr x ρ) (e : Ext F T F' T') : EX K W σ F' T' fr x ρ := fun cls dd H' F2 T2 e2 => h cls dd H' F2 T2 (e.trans e2)
def qE (K : PySem.W.Frag) (W : WX) (m : M.ME) : TE := fun σ H Q => ∃ ρ F T fr, Rel K ρ σ H F T fr ∧
  a0' (m ρ) (fun d ρ' => ∀ v H' F' T', Ext F T F' T' -> Fz K F' T' v d -> Rel K ρ' σ H' F' T' fr -> Q v H') (EX K W σ F T fr)
def qO (K : PySem.W.Frag) (W : WX) (m : M.MO) : TE := fun σ H Q => ∃ ρ F T fr, Rel K ρ σ H F T fr ∧
  a0' (m ρ) (fun o ρ' => ∀ v H' F' T' fp, Ext F T F' T' -> Rp K F' T' v o fp -> Rel K ρ' σ H' F' T' (fp ++ fr) -> Q v H') (EX K W σ F T fr)
def qA (K : PySem.W.Frag) (W : WX) (m : M.MA) : TA := fun σ H Q => ∃ ρ F T fr, Rel K ρ σ H F T fr ∧
  a0' (m ρ) (fun ds ρ' => ∀ vs H' F' T', Ext F T F' T' -> FzA K F' T' vs ds -> Rel K ρ' σ H' F' T' fr -> Q vs H') (EX K W σ F T fr)
def qT (K : PySem.W.Frag) (W : WX) (m : M.MT) : TT := fun σ H Q => ∃ ρ F T fr, Rel K ρ σ H F T fr ∧
  a0' (m ρ) (fun b ρ' => ∀ H' F' T', Ext F T F' T' -> Rel K ρ' σ H' F' T' fr -> Q b H') (EX K W σ F T fr)
def qP (K : PySem.W.Frag) (W : WX) (m : M.MP) : TO := fun σ H Q => ∃ ρ F T fr, Rel K ρ σ H F T fr ∧
  a0' (m ρ) (fun b ρ' => ∀ H' F' T', Ext F T F' T' -> Rel K ρ' σ H' F' T' fr -> Q b H') (EX K W σ F T fr)
def bh' (K : PySem.W.Frag) (W : WX) (D : Ends) (F : Hp) (T : List Addr) (fr : Fp) : M.Out -> Prop
  | .nx ρ => ∀ σ' H' F' T', Ext F T F' T' -> Rel K ρ σ' H' F' T' fr -> D.nx σ' H'
  | .bk ρ => ∀ σ' H' F' T', Ext F T F' T' -> Rel K ρ σ' H' F' T' fr -> D.bk σ' H'
  | .ct ρ => ∀ σ' H' F' T', Ext F T F' T' -> Rel K ρ σ' H' F' T' fr -> D.ct σ' H'
  | .rt o w => ∀ v H' F' T' fp, Ext F T F' T' -> Rp K F' T' v o fp -> nR' K (w) H' F' T' (fp ++ fr) -> D.rt v H'
  | .exc x ρ => ∀ σ' cls dd H' F' T', Ext F T F' T' -> XcR K F' T' x cls dd -> Rel K ρ σ' H' F' T' fr -> W cls dd σ' H'
  | .bad => False
def qS (K : PySem.W.Frag) (W : WX) (m : M.MS) : TS := fun D σ H => ∃ ρ F T fr, Rel K ρ σ H F T fr /\ bh' K W D F T fr (m ρ)
abbrev SE (X : Cx) (W : WX) (e : Expr) (m : M.ME) : Prop := PE X e (qE X.K W m)
abbrev SO (X : Cx) (W : WX) (e : Expr) (m : M.MO) : Prop := PE X e (qO X.K W m)
abbrev SA (X : Cx) (W : WX) (es : List Expr) (m : M.MA) : Prop := PA X es (qA X.K W m)
abbrev ST (X : Cx) (W : WX) (e : Expr) (m : M.MT) : Prop := PT X e (qT X.K W m)
abbrev SS (X : Cx) (W : WX) (s : Stmt) (m : M.MS) : Prop := PS X s (qS X.K W m)
abbrev SSs (X : Cx) (W : WX) (s : List Stmt) (m : M.MS) : Prop := PSs X s (qS X.K W m)
theorem PE.imp {X : Cx} {e : Expr} {t t' : TE} (h : PE X e t) (i : ∀ σ H Q, t' σ H Q -> t σ H Q) : PE X e t' := ⟨fun pins s σ H Q I q => h.run pins s σ H Q I (i σ H Q q)⟩
theorem PT.imp {X : Cx} {e : Expr} {t t' : TT} (h : PT X e t) (i : ∀ σ H Q, t' σ H Q -> t σ H Q) : PT X e t' := ⟨fun pins s σ H Q I q => h.run pins s σ H Q I (i σ H Q q)⟩
theorem PW.imp {X : Cx} {e : Expr} {t t' : TT} (h : PW X e t) (i : ∀ σ H Q, t' σ H Q -> t σ H Q) : PW X e t' := ⟨fun wh pins s σ H Q I q => h.run wh pins s σ H Q I (i σ H Q q)⟩
theorem PA.imp {X : Cx} {e : List Expr} {t t' : TA} (h : PA X e t) (i : ∀ σ H Q, t' σ H Q -> t σ H Q) : PA X e t' := ⟨fun pos pins s σ H Q I q => h.run pos pins s σ H Q I (i σ H Q q)⟩
theorem PS.imp {X : Cx} {e : Stmt} {t t' : TS} (h : PS X e t) (i : ∀ D σ H, t' D σ H -> t D σ H) : PS X e t' := ⟨fun pins s σ H Q I q => h.run pins s σ H Q I (i Q σ H q)⟩
theorem PSs.imp {X : Cx} {e : List Stmt} {t t' : TS} (h : PSs X e t) (i : ∀ D σ H, t' D σ H -> t D σ H) : PSs X e t' := ⟨fun pins s σ H Q I q => h.run pins s σ H Q I (i Q σ H q)⟩
theorem PO.imp {X : Cx} {e : Option Expr} {t t' : TO} (h : PO X e t) (i : ∀ σ H Q, t' σ H Q -> t σ H Q) : PO X e t' := ⟨fun pins s σ H Q I q => h.run pins s σ H Q I (i σ H Q q)⟩
variable {σ : St} {H F : Hp} {T : List Addr} {fr : Fp} {ρ : M.PSt} {P : β -> M.PSt -> Prop} {X : Wx}
theorem aw' {m : M.ME} {k : M.D -> M.PSt -> M.Res β} {Q : VK} (rel : Rel K ρ σ H F T fr) (h : a0' ((m ρ).bind k) P (EX K W σ F T fr))
    (q : ∀ d ρ1 v H1 F1 T1, Ext F T F1 T1 -> Fz K F1 T1 v d -> Rel K ρ1 σ H1 F1 T1 fr -> a0' (k d ρ1) P (EX K W σ F1 T1 fr) -> Q v H1) : qE K W m σ H Q :=
  ⟨ρ, F, T, fr, rel, (a0'.bind h).mono (fun d ρ1 h1 v H1 F1 T1 e z r => q d ρ1 v H1 F1 T1 e z r (h1.mono (fun _ _ z => z) fun _ _ z => z.mono e)) fun _ _ z => z⟩
theorem bX' {m : M.MA} {k : List M.D -> M.PSt -> M.Res β} {Q : List V -> Hp -> Prop} (rel : Rel K ρ σ H F T fr) (h : a0' ((m ρ).bind k) P (EX K W σ F T fr))
    (q : ∀ ds ρ1 vs H1 F1 T1, Ext F T F1 T1 -> FzA K F1 T1 vs ds -> Rel K ρ1 σ H1 F1 T1 fr -> a0' (k ds ρ1) P (EX K W σ F1 T1 fr) -> Q vs H1) : qA K W m σ H Q :=
  ⟨ρ, F, T, fr, rel, (a0'.bind h).mono (fun d ρ1 h1 v H1 F1 T1 e z r => q d ρ1 v H1 F1 T1 e z r (h1.mono (fun _ _ z => z) fun _ _ z => z.mono e)) fun _ _ z => z⟩
theorem h9' {m : M.MT} {k : Bool -> M.PSt -> M.Res β} {Q : Bool -> Hp -> Prop} (rel : Rel K ρ σ H F T fr) (h : a0' ((m ρ).bind k) P (EX K W σ F T fr))
    (q : ∀ b ρ1 H1 F1 T1, Ext F T F1 T1 -> Rel K ρ1 σ H1 F1 T1 fr -> a0' (k b ρ1) P (EX K W σ F1 T1 fr) -> Q b H1) : qT K W m σ H Q :=
  ⟨ρ, F, T, fr, rel, (a0'.bind h).mono (fun d ρ1 h1 H1 F1 T1 e r => q d ρ1 H1 F1 T1 e r (h1.mono (fun _ _ z => z) fun _ _ z => z.mono e)) fun _ _ z => z⟩
theorem mL' {m : M.MP} {k : Option Int -> M.PSt -> M.Res β} {Q : Option Int -> Hp -> Prop} (rel : Rel K ρ σ H F T fr) (h : a0' ((m ρ).bind k) P (EX K W σ F T fr))
    (q : ∀ b ρ1 H1 F1 T1, Ext F T F1 T1 -> Rel K ρ1 σ H1 F1 T1 fr -> a0' (k b ρ1) P (EX K W σ F1 T1 fr) -> Q b H1) : qP K W m σ H Q :=
  ⟨ρ, F, T, fr, rel, (a0'.bind h).mono (fun d ρ1 h1 H1 F1 T1 e r => q d ρ1 H1 F1 T1 e r (h1.mono (fun _ _ z => z) fun _ _ z => z.mono e)) fun _ _ z => z⟩
end
end S
namespace S
open PySem PySem.Spec PyProof.Rows L2
variable [Wd] [Hot]
section
variable {K : PySem.W.Frag} {F H : Hp} {T : List Addr} {v : V} {d : M.D} {vs ws : List V} {ds es : List M.D}
theorem Fz.int_inv {i : Int} (h : Fz K F T v (.int i)) : v = .int i := by cases h; rfl
theorem Fz.bl_inv {i : Bool} (h : Fz K F T v (.bl i)) : v = .bl i := by cases h; rfl
theorem Fz.non_inv (h : Fz K F T v .non) : v = .non := by cases h; rfl
theorem Fz.str_inv {s : M.Tx} (h : Fz K F T v (.str s)) : v = .str (sx s) /\ okT s := by cases h with | str h => exact ⟨rfl, h⟩
theorem Fz.tup_inv (h : Fz K F T v (.tup ds)) : ∃ a vs, v = .ref a /\ SqT K F a vs /\ FzA K F T vs ds := by cases h with | tup h r => exact ⟨_, _, rfl, h, r⟩
theorem Fz.lst_inv (h : Fz K F T v (.lst ds)) : ∃ a vs, v = .ref a /\ F a = some (.lst vs) /\ FzA K F T vs ds := by cases h with | lst h r => exact ⟨_, _, rfl, h, r⟩
theorem FzA.length : ∀ {vs : List V} {ds : List M.D}, FzA K F T vs ds -> vs.length = ds.length
  | _, _, .nil => rfl
  | _, _, .cons _ r => congrArg (· + 1) (FzA.length r)
theorem FzA.append : ∀ {vs ws : List V} {ds es : List M.D}, FzA K F T vs ds -> FzA K F T ws es -> FzA K F T (vs ++ ws) (ds ++ es)
  | _, _, _, _, .nil, h => h
  | _, _, _, _, .cons a r, h => .cons a (FzA.append r h)
theorem FzA.take : ∀ {vs : List V} {ds : List M.D} (n : Nat), FzA K F T vs ds -> FzA K F T (vs.take n) (ds.take n)
  | _, _, 0, _ => .nil
  | _, _, n + 1, .nil => .nil
  | _, _, n + 1, .cons a r => .cons a (FzA.take n r)
theorem FzA.drop : ∀ {vs : List V} {ds : List M.D} (n : Nat), FzA K F T vs ds -> FzA K F T (vs.drop n) (ds.drop n)
  | _, _, 0, h => h
  | _, _, n + 1, .nil => .nil
  | _, _, n + 1, .cons a r => FzA.drop n r
theorem FzA.get : ∀ {vs : List V} {ds : List M.D} {i : Nat} {d : M.D}, FzA K F T vs ds -> ds[i]? = some d -> ∃ v, vs[i]? = some v /\ Fz K F T v d
  | _, _, _, _, .nil, e => by cases e
  | _, _, 0, _, .cons h _, e => ⟨_, rfl, by rw [<- Option.some.inj e]; exact h⟩
  | _, _, i + 1, _, .cons _ r, e => FzA.get (i := i) r e
theorem FzA.rep {vs : List V} {ds : List M.D} (h : FzA K F T vs ds) : ∀ n, FzA K F T (List.replicate n vs).flatten (List.replicate n ds).flatten
  | 0 => .nil
  | n + 1 => FzA.append h (FzA.rep h n)
theorem FzA.cutV {lo hi : Option Int} (h : FzA K F T vs ds) : FzA K F T (cutV vs lo hi) (M.cut ds lo hi) := by
  unfold L2.cutV M.cut
  rw [h.length]
  exact FzA.take _ (FzA.drop _ h)
theorem FzA.of_all : ∀ {n : Nat} {f : Nat -> V} {g : Nat -> M.D}, (∀ i, Fz K F T (f i) (g i)) -> FzA K F T ((List.range n).map f) ((List.range n).map g) := by
  intro n f g h
  generalize List.range n = l
  induction l with
  | nil => exact .nil
  | cons a l ih => exact .cons (h a) ih
theorem nn' {c : Nat} (h : c < 1114112) : Fz K F T (.str ⟨#[c]⟩) (M.chD c) := Fz.str (s := [c]) ⟨fun x hx => by rw [List.mem_singleton.mp hx]; exact h, by show 1 <= 16777216; decide⟩
theorem FzA.chars : ∀ {s : M.Tx}, (∀ c ∈ s, c < 1114112) -> FzA K F T (s.map chv) (s.map M.chD)
  | [], _ => .nil
  | c :: s, h => .cons (nn' (h c (by simp))) (FzA.chars fun x hx => h x (by simp [hx]))
theorem SqT.low (s : Same F H) {a : Addr} (h : SqT K F a vs) : SqT K H a vs := seqT s h
theorem okT.app {a b : M.Tx} (h1 : okT a) (h2 : okT b) (h : a.length + b.length <= M.dQ') : okT (a ++ b) :=
  ⟨fun c hc => (List.mem_append.mp hc).elim (h1.1 c) (h2.1 c), by rw [List.length_append]; exact h⟩
theorem okT.sub {a b : M.Tx} (h1 : okT a) (h : ∀ c ∈ b, c ∈ a) (hl : b.length <= a.length) : okT b := ⟨fun c hc => h1.1 c (h c hc), Nat.le_trans hl h1.2⟩
theorem okT.len {s : M.Tx} (h : okT s) : (sx s).length <= sizeLine := by rw [b0', sizeLine_eq]; exact h.2
theorem bw' : sizeLine = M.dQ' := sizeLine_eq
theorem Rel.fp {ρ : M.PSt} {σ : St} {fr : Fp} (r : Rel K ρ σ H F T fr) : ∃ fp, FpH F H fp /\ ∀ H' F', Same F F' -> FpH F' H' fp -> Rel K ρ σ H' F' T fr := by
  obtain ⟨fe, fw, re, rw, f⟩ := r
  exact ⟨_, f, fun H' F' s f' => ⟨fe, fw, re.mono (.of s), rw.mono (.of s), f'⟩⟩
abbrev dR' (K : PySem.W.Frag) (F : Hp) (T : List Addr) (fp : Fp) (dz : M.D) (Q : VK) : Prop := ∀ v H' F', Same F F' -> Fz K F' T v dz -> FpH F' H' fp -> Q v H'
theorem dR'.here {fp : Fp} {dz : M.D} {Q : VK} (k : dR' K F T fp dz Q) (f : FpH F H fp) (z : Fz K F T v dz) : Q v H := k v H F (fun _ _ e => e) z f
theorem dR'.newT {fp : Fp} {Q : VK} (k : dR' K F T fp (.tup ds) Q) (f : FpH F H fp) (z : FzA K F T vs ds) {p : Addr} (hp : H p = none) : Q (.ref p) (upd H p (.tup vs)) := by
  have s : Same F (upd F p (.tup vs)) := bW' (f.free hp)
  exact k _ _ _ s (.tup (SqT.of upd_same) (z.mono (.of s))) (f.new hp)
theorem dR'.newL {fp : Fp} {Q : VK} (k : dR' K F T fp (.lst ds) Q) (f : FpH F H fp) (z : FzA K F T vs ds) {p : Addr} (hp : H p = none) : Q (.ref p) (upd H p (.lst vs)) := by
  have s : Same F (upd F p (.lst vs)) := bW' (f.free hp)
  exact k _ _ _ s (.lst upd_same (z.mono (.of s))) (f.new hp)
end
section
variable (K : PySem.W.Frag)
def Op1 (f : M.D -> Option M.D) (r : V -> Hp -> VK -> Prop) : Prop := ∀ {F H : Hp} {T : List Addr} {fp : Fp} {x : V} {dx dz : M.D} {Q : VK}, FpH F H fp -> Fz K F T x dx -> f dx = some dz -> dR' K F T fp dz Q -> r x H Q
def Op2 (f : M.D -> M.D -> Option M.D) (r : R2) : Prop := ∀ {F H : Hp} {T : List Addr} {fp : Fp} {x y : V} {dx dy dz : M.D} {Q : VK}, FpH F H fp -> Fz K F T x dx -> Fz K F T y dy -> f dx dy = some dz -> dR' K F T fp dz Q -> r x y H Q
end
section
variable {K : PySem.W.Frag}
mutual
theorem Fz.py {F H : Hp} {T : List Addr} (s : Same F H) : ∀ {v : V} {d : M.D}, Fz K F T v d -> M.dat d = true -> Dp K H v (py d)
  | _, _, .non, _ => .non
  | _, _, .bl b, _ => .bl b
  | _, _, .int i, _ => .int i
  | _, _, .str h, _ => .str _
  | _, _, .tup h r, e => .tup (seqT s h) (FzA.py s r e)
  | _, _, .lst h r, e => .lst (SqL.of (s _ _ h)) (FzA.py s r e)
  | _, _, .dct h _ r, e => by cases e
  | _, _, .dcl _ _ _, e => by cases e
  | _, _, .dcn _ _ _ _, e => by cases e
  | _, _, .rep _, e => by cases e
  | _, _, .obj h, e => by cases e
  | _, _, .ty n, e => by cases e
  | _, _, .fn x, e => by cases e
  | _, _, .scr h r, e => by cases e
theorem FzA.py {F H : Hp} {T : List Addr} (s : Same F H) : ∀ {vs : List V} {ds : List M.D}, FzA K F T vs ds -> M.dats ds = true -> DpAll K H vs (pys ds)
  | _, _, .nil, _ => .nil
  | _, _, .cons h r, e => by
    obtain ⟨e1, e2⟩ := Bool.and_eq_true_iff.mp (show (M.dat _ && M.dats _) = true from e)
    exact .cons (Fz.py s h e1) (FzA.py s r e2)
end
theorem n0' {s : M.Tx} (h : okT s) : PyData.strOk (sx s) = true := by
  unfold PyData.strOk
  rw [Array.all_eq_true']
  intro c hc
  have := h.1 c (by simpa [sx] using hc)
  simp only [decide_eq_true_eq]
  omega
mutual
theorem kd' {F : Hp} {T : List Addr} : ∀ {v : V} {d : M.D}, Fz K F T v d -> M.dat d = true -> (py d).canLay0 = true /\ (py d).depth = M.dep d
  | _, _, .non, _ => ⟨rfl, rfl⟩
  | _, _, .bl b, _ => ⟨rfl, rfl⟩
  | _, _, .int i, _ => ⟨rfl, rfl⟩
  | _, _, .str h, _ => ⟨n0' h, rfl⟩
  | _, _, .tup h r, e => by
    obtain ⟨h1, h2⟩ := lays_of r e
    exact ⟨h1, congrArg (· + 1) h2⟩
  | _, _, .lst h r, e => by
    obtain ⟨h1, h2⟩ := lays_of r e
    exact ⟨h1, congrArg (· + 1) h2⟩
  | _, _, .dct h _ r, e => by cases e
  | _, _, .dcl _ _ _, e => by cases e
  | _, _, .dcn _ _ _ _, e => by cases e
  | _, _, .rep _, e => by cases e
  | _, _, .obj h, e => by cases e
  | _, _, .ty n, e => by cases e
  | _, _, .fn x, e => by cases e
  | _, _, .scr h r, e => by cases e
theorem lays_of {F : Hp} {T : List Addr} : ∀ {vs : List V} {ds : List M.D}, FzA K F T vs ds -> M.dats ds = true -> PyData.canLayAll0 (pys ds) = true /\ PyData.depthAll (pys ds) = M.deps ds
  | _, _, .nil, _ => ⟨rfl, rfl⟩
  | _, _, .cons h r, e => by
    obtain ⟨e1, e2⟩ := Bool.and_eq_true_iff.mp (show (M.dat _ && M.dats _) = true from e)
    obtain ⟨a1, a2⟩ := kd' h e1
    obtain ⟨b1, b2⟩ := lays_of r e2
    refine ⟨?_, ?_⟩
    . show (PyData.canLay0 _ && PyData.canLayAll0 _) = true
      rw [a1, b1]; rfl
    . show max (PyData.depth _) (PyData.depthAll _) = max _ _
      rw [a2, b2]
end
theorem pF' (a b : M.Tx) : (sx a == sx b) = (a == b) := by
  rw [Bool.eq_iff_iff, beq_iff_eq, beq_iff_eq]
  exact ⟨sC', fun h => by rw [h]⟩
mutual
theorem pW' : ∀ (d e : M.D), M.dat d = true -> M.dat e = true -> PyData.eqv (py d) (py e) = M.eqb d e
  | .non, e, _, h => by cases e <;> first | rfl | cases h
  | .bl a, e, _, h => by cases e <;> first | rfl | cases h
  | .int a, e, _, h => by cases e <;> first | rfl | cases h
  | .str a, e, _, h => by
    cases e with
    | str b => exact pF' a b
    | _ => first | rfl | cases h
  | .tup a, e, h1, h => by
    cases e with
    | tup b => exact eqvs_py a b h1 h
    | _ => first | rfl | cases h
  | .lst a, e, h1, h => by
    cases e with
    | lst b => exact eqvs_py a b h1 h
    | _ => first | rfl | cases h
  | .dct _ _, _, h, _ => by cases h
  | .obj _, _, h, _ => by cases h
  | .ty _, _, h, _ => by cases h
  | .fn _, _, h, _ => by cases h
  | .exc _ _, _, h, _ => by cases h
  | .scr _, _, h, _ => by cases h
theorem eqvs_py : ∀ (d e : List M.D), M.dats d = true -> M.dats e = true -> PyData.eqvAll (pys d) (pys e) = M.eqbs d e
  | [], [], _, _ => rfl
  | [], _ :: _, _, _ => rfl
  | _ :: _, [], _, _ => rfl
  | a :: d, b :: e, h1, h2 => by
    obtain ⟨a1, a2⟩ := Bool.and_eq_true_iff.mp (show (M.dat _ && M.dats _) = true from h1)
    obtain ⟨b1, b2⟩ := Bool.and_eq_true_iff.mp (show (M.dat _ && M.dats _) = true from h2)
    show (PyData.eqv (py a) (py b) && PyData.eqvAll (pys d) (pys e)) = (M.eqb a b && M.eqbs d e)
    rw [pW' a b a1 b1, eqvs_py d e a2 b2]
end
theorem tM' {F H : Hp} {T : List Addr} {fp : Fp} {x y : V} {dx dy : M.D} {b : Bool} (f : FpH F H fp) (hx : Fz K F T x dx) (hy : Fz K F T y dy) (h : M.eqv dx dy = some b) :
    ∃ d e, Dp K H x d /\ Dp K H y e /\ SeqAt.shaped d = true /\ SeqAt.shaped e = true /\ PyData.eqv d e = b := by
  unfold M.eqv at h
  split at h
  . rename_i c
    obtain ⟨c1, c2, c3, c4⟩ := c
    obtain ⟨a1, a2⟩ := kd' hx c1
    obtain ⟨b1, b2⟩ := kd' hy c2
    refine ⟨_, _, hx.py f.low c1, hy.py f.low c2, ?_, ?_, ?_⟩
    . exact Sh.shaped (n := 64) ⟨a1, by rw [a2]; exact c3⟩ (Nat.le_refl _)
    . exact Sh.shaped (n := 64) ⟨b1, by rw [b2]; exact c4⟩ (Nat.le_refl _)
    . rw [pW' _ _ c1 c2]; exact Option.some.inj h
  . cases h
theorem ep' : Op2 K M.pEq (vD' K) := by
  intro F H T fp x y dx dy dz Q f hx hy h k
  unfold M.pEq M.ob at h
  cases e : M.eqv dx dy with
  | none => rw [e] at h; cases h
  | some b =>
    rw [e] at h
    cases h
    obtain ⟨d, e, h1, h2, h3, h4, h5⟩ := tM' f hx hy e
    exact .inr ⟨d, e, h1, h2, h3, h4, by rw [h5]; exact k.here f (.bl b)⟩
theorem vQ' : Op2 K M.pNe (w2' K) := by
  intro F H T fp x y dx dy dz Q f hx hy h k
  unfold M.pNe M.ob at h
  cases e : M.eqv dx dy with
  | none => rw [e] at h; cases h
  | some b =>
    rw [e] at h
    cases h
    obtain ⟨d, e, h1, h2, h3, h4, h5⟩ := tM' f hx hy e
    exact .inr ⟨d, e, h1, h2, h3, h4, by rw [h5]; exact k.here f (.bl (!b))⟩
theorem bn' : Op2 K M.bG' (s5' K) := by
  intro F H T fp x y dx dy dz Q f hx hy h k
  cases dx <;> cases dy <;> try (cases h; done)
  . cases hx; cases hy; cases h
    exact .inl ⟨_, _, rfl, rfl, k.here f (.int _)⟩
  . obtain ⟨rfl, o1⟩ := hx.str_inv
    obtain ⟨rfl, o2⟩ := hy.str_inv
    simp only [M.bG'] at h
    split at h
    . rename_i hl
      cases h
      refine .inr (.inl ⟨_, _, rfl, rfl, by rw [b0', b0', bw']; exact hl, ?_⟩)
      rw [sE']
      exact k.here f (.str (o1.app o2 hl))
    . cases h
  . obtain ⟨a, vs, rfl, ha, za⟩ := hx.tup_inv
    obtain ⟨b, ws, rfl, hb, zb⟩ := hy.tup_inv
    simp only [M.bG'] at h
    split at h
    . rename_i hl
      cases h
      refine .inr (.inr (.inr ⟨a, b, vs, ws, rfl, rfl, seqT f.low ha, seqT f.low hb, by rw [za.length, zb.length, bw']; exact hl, fun e => ?_, fun _ e => ?_, fun _ _ p hp => k.newT f (za.append zb) hp⟩))
      . subst e
        cases za
        exact k.here f (.tup hb zb)
      . subst e
        cases zb
        refine k.here f ?_
        rw [List.append_nil]
        exact .tup ha za
    . cases h
  . obtain ⟨a, vs, rfl, ha, za⟩ := hx.lst_inv
    obtain ⟨b, ws, rfl, hb, zb⟩ := hy.lst_inv
    simp only [M.bG'] at h
    split at h
    . rename_i hl
      cases h
      exact .inr (.inr (.inl ⟨a, b, vs, ws, rfl, rfl, f.low _ _ ha, f.low _ _ hb, by rw [za.length, zb.length, bw']; exact hl, fun p hp => k.newL f (za.append zb) hp⟩))
    . cases h
theorem mS' : Op2 K M.pO' (rI0 fun i j => .int (i - j)) := by
  intro F H T fp x y dx dy dz Q f hx hy h k
  cases dx <;> cases dy <;> try (cases h; done)
  cases hx; cases hy; cases h
  exact ⟨_, _, rfl, rfl, k.here f (.int _)⟩
theorem sR' (s : M.Tx) (n : Nat) : kY' (sx s) n = sx (List.replicate n s).flatten := rfl
theorem sT' {s : M.Tx} {n : Nat} (h : okT s) (hl : s.length * n <= M.dQ') : okT (List.replicate n s).flatten := by
  refine ⟨fun c hc => ?_, ?_⟩
  . obtain ⟨l, h1, h2⟩ := List.mem_flatten.mp hc
    rw [List.eq_of_mem_replicate h1] at h2
    exact h.1 c h2
  . rw [List.length_flatten]
    simp
    rw [Nat.mul_comm]
    exact hl
def sW' : R2 := fun x y H Q => sX' x y H Q \/ rI CMulW (fun i j => .int (i * j)) x y H Q
theorem em' {X : Cx} : OpR X (binaryOp .Mult) sW' := qQ'.or op_mulW
theorem tp' {i : Int} (h : -2582249878086908589655919172003011874329705792829223512830659356540647622016841194629645353280137831435903171972747493376 < i /\ i < 2582249878086908589655919172003011874329705792829223512830659356540647622016841194629645353280137831435903171972747493376) : i.natAbs < 2 ^ 400 := by
  have : (2 : Nat) ^ 400 = 2582249878086908589655919172003011874329705792829223512830659356540647622016841194629645353280137831435903171972747493376 := by decide +kernel
  omega
theorem mU' : Op2 K M.ib' sW' := by
  intro F H T fp x y dx dy dz Q f hx hy h k
  cases dx <;> cases dy <;> try (cases h; done)
  . cases hx; cases hy
    simp only [M.ib'] at h
    split at h
    . rename_i hc
      cases h
      rcases hc with hc | hc
      . refine .inl (.inl ⟨_, _, rfl, rfl, ?_, k.here f (.int _)⟩)
        rcases hc with hc | hc <;> simp only [M.small64, Bool.and_eq_true, decide_eq_true_eq] at hc
        . exact .inl hc
        . exact .inr hc
      . exact .inr ⟨_, _, rfl, rfl, wide_mul (tp' hc.1) (tp' hc.2) (by decide) (by decide) (by decide), k.here f (.int _)⟩
    . cases h
  . obtain ⟨rfl, o1⟩ := hx.str_inv
    cases hy
    simp only [M.ib'] at h
    split at h
    . rename_i hc
      cases h
      refine .inl (.inr (.inl ⟨_, _, rfl, rfl, hc.1, hc.2.1, by rw [b0', bw']; exact hc.2.2, ?_⟩))
      rw [sR']
      exact k.here f (.str (sT' o1 hc.2.2))
    . cases h
  . obtain ⟨a, vs, rfl, ha, za⟩ := hx.lst_inv
    cases hy
    simp only [M.ib'] at h
    split at h
    . rename_i hc
      cases h
      refine .inl (.inr (.inr ⟨a, _, vs, rfl, rfl, f.low _ _ ha, by omega, by omega, by rw [za.length, bw']; exact hc.2.2, fun p hp => k.newL f (za.rep _) hp⟩))
    . cases h
theorem ka' : Op2 K M.gO' (rI CDivW fun i j => .int (i / j)) := by
  intro F H T fp x y dx dy dz Q f hx hy h k
  cases dx <;> cases dy <;> try (cases h; done)
  cases hx; cases hy
  simp only [M.gO'] at h
  split at h
  . rename_i hc
    cases h
    refine ⟨_, _, rfl, rfl, wide_div (b := 200) hc.1 ?_ (by decide) (by decide), k.here f (.int _)⟩
    have : (2 : Nat) ^ 200 = 1606938044258990275541962092341162602522202993782792835301376 := by decide +kernel
    omega
  . cases h
theorem dg' : Op2 K M.gN' (rI (fun _ j => 0 < j) fun i j => .int (i % j)) := by
  intro F H T fp x y dx dy dz Q f hx hy h k
  cases dx <;> cases dy <;> try (cases h; done)
  cases hx; cases hy
  simp only [M.gN'] at h
  split at h
  . rename_i hc
    cases h
    exact ⟨_, _, rfl, rfl, hc, k.here f (.int _)⟩
  . cases h
theorem vO' : Op2 K M.tb' (rI CPow fun i j => .int (i ^ j.toNat)) := by
  intro F H T fp x y dx dy dz Q f hx hy h k
  cases dx <;> cases dy <;> try (cases h; done)
  cases hx; cases hy
  simp only [M.tb'] at h
  split at h
  . rename_i hc
    cases h
    obtain ⟨h1, h2, h3⟩ := hc
    simp only [M.small64, Bool.and_eq_true, decide_eq_true_eq] at h3
    exact ⟨_, _, rfl, rfl, ⟨h1, by omega, by omega⟩, k.here f (.int _)⟩
  . cases h
theorem uV' : Op2 K M.pLt (pM' (fun i j => decide (i < j)) fun a b => decide (a < b)) := by
  intro F H T fp x y dx dy dz Q f hx hy h k
  cases dx <;> cases dy <;> try (cases h; done)
  . cases hx; cases hy; cases h
    exact .inl ⟨_, _, rfl, rfl, k.here f (.bl _)⟩
  . obtain ⟨rfl, o1⟩ := hx.str_inv
    obtain ⟨rfl, o2⟩ := hy.str_inv
    cases h
    exact .inr ⟨_, _, rfl, rfl, k.here f (.bl _)⟩
theorem uW' : Op2 K M.pLe (pM' (fun i j => decide (i <= j)) fun a b => !decide (b < a)) := by
  intro F H T fp x y dx dy dz Q f hx hy h k
  cases dx <;> cases dy <;> try (cases h; done)
  . cases hx; cases hy; cases h
    exact .inl ⟨_, _, rfl, rfl, k.here f (.bl _)⟩
  . obtain ⟨rfl, o1⟩ := hx.str_inv
    obtain ⟨rfl, o2⟩ := hy.str_inv
    cases h
    exact .inr ⟨_, _, rfl, rfl, k.here f (.bl _)⟩
theorem w9' : Op2 K M.pGt (pM' (fun i j => decide (j < i)) fun a b => decide (b < a)) := by
  intro F H T fp x y dx dy dz Q f hx hy h k
  cases dx <;> cases dy <;> try (cases h; done)
  . cases hx; cases hy; cases h
    exact .inl ⟨_, _, rfl, rfl, k.here f (.bl _)⟩
  . obtain ⟨rfl, o1⟩ := hx.str_inv
    obtain ⟨rfl, o2⟩ := hy.str_inv
    cases h
    exact .inr ⟨_, _, rfl, rfl, k.here f (.bl _)⟩
theorem vR' : Op2 K M.pGe (pM' (fun i j => decide (j <= i)) fun a b => !decide (a < b)) := by
  intro F H T fp x y dx dy dz Q f hx hy h k
  cases dx <;> cases dy <;> try (cases h; done)
  . cases hx; cases hy; cases h
    exact .inl ⟨_, _, rfl, rfl, k.here f (.bl _)⟩
  . obtain ⟨rfl, o1⟩ := hx.str_inv
    obtain ⟨rfl, o2⟩ := hy.str_inv
    cases h
    exact .inr ⟨_, _, rfl, rfl, k.here f (.bl _)⟩
def mK' : R2 := fun x y H Q => sV' x y H Q \/ rNotB x y H Q
theorem cp' {X : Cx} : OpR X (compareOp .IsNot) mK' := ot'.or op_notBl
theorem tB' {F : Hp} {T : List Addr} {x : V} {d : M.D} (h : Fz K F T x d) : decide (x = .non) = M.cZ' d := by cases h <;> rfl
theorem fQ' : Op2 K M.cQ' mK' := by
  intro F H T fp x y dx dy dz Q f hx hy h k
  cases dy with
  | non =>
    cases hy
    have e : M.D.bl (!M.cZ' dx) = dz := by cases dx <;> exact Option.some.inj h
    subst e
    exact .inl ⟨rfl, by rw [tB' hx]; exact k.here f (.bl _)⟩
  | bl b =>
    cases dx <;> try (cases h; done)
    cases hx; cases hy; cases h
    refine .inr ⟨_, _, rfl, rfl, ?_⟩
    rw [<- Bool.beq_eq_decide_eq]
    exact k.here f (.bl _)
  | _ => cases dx <;> cases h
theorem FzA.ati {F : Hp} {T : List Addr} {vs : List V} {ds : List M.D} {i : Int} {d : M.D} (h : FzA K F T vs ds) (e : M.ati ds i = some d) : ∃ v, atI vs i = some v /\ Fz K F T v d := by
  unfold M.ati at e
  unfold atI
  rw [h.length]
  cases q : M.ixn ds.length i with
  | none => rw [q] at e; cases e
  | some j =>
    rw [q] at e
    obtain ⟨v, h1, h2⟩ := h.get (i := j) e
    have q' : ixN ds.length i = some j := q
    rw [q']
    exact ⟨v, h1, h2⟩
theorem eS' : Op2 K M.pIx (rIx K) := by
  intro F H T fp x y dx dy dz Q f hx hy h k
  cases dx <;> cases dy <;> try (cases h; done)
  . obtain ⟨rfl, o1⟩ := hx.str_inv
    cases hy
    simp only [M.pIx] at h
    rename_i s i
    cases q : M.ati s i with
    | none => rw [q] at h; cases h
    | some c =>
      rw [q] at h
      cases h
      have hc : c ∈ s := by
        unfold M.ati at q
        cases q2 : M.ixn s.length i with
        | none => rw [q2] at q; cases q
        | some j => rw [q2] at q; exact List.mem_of_getElem? q
      exact .inr (.inr ⟨_, _, c, rfl, rfl, o1.len, q, k.here f (nn' (o1.1 c hc))⟩)
  . obtain ⟨a, vs, rfl, ha, za⟩ := hx.tup_inv
    cases hy
    obtain ⟨v, h1, h2⟩ := za.ati h
    exact .inr (.inl ⟨a, vs, _, v, rfl, rfl, seqT f.low ha, h1, k.here f h2⟩)
  . obtain ⟨a, vs, rfl, ha, za⟩ := hx.lst_inv
    cases hy
    obtain ⟨v, h1, h2⟩ := za.ati h
    exact .inl ⟨a, vs, _, v, rfl, rfl, SqL.of (f.low _ _ ha), h1, k.here f h2⟩
def xj' (K : PySem.W.Frag) (r : V -> Option Int -> Option Int -> Hp -> VK -> Prop) : Prop := ∀ {F H : Hp} {T : List Addr} {fp : Fp} {x : V} {dx dz : M.D} {lo hi : Option Int} {Q : VK}, FpH F H fp -> Fz K F T x dx -> M.pSl dx lo hi = some dz -> dR' K F T fp dz Q -> r x lo hi H Q
theorem nx' {s : M.Tx} {lo hi : Option Int} : (∀ c ∈ M.cut s lo hi, c ∈ s) /\ (M.cut s lo hi).length <= s.length := by
  unfold M.cut
  refine ⟨fun c hc => List.mem_of_mem_drop (List.mem_of_mem_take hc), ?_⟩
  rw [List.length_take, List.length_drop]
  omega
theorem nN' : xj' K (w0' K) := by
  intro F H T fp x dx dz lo hi Q f hx h k
  cases dx <;> try (cases h; done)
  . obtain ⟨rfl, o1⟩ := hx.str_inv
    cases h
    refine .inr (.inl ⟨_, rfl, o1.len, ?_⟩)
    have e : cutS (sx ‹M.Tx›) lo hi = sx (M.cut ‹M.Tx› lo hi) := hV' (by rw [uw']; rfl)
    rw [e]
    exact k.here f (.str (o1.sub nx'.1 nx'.2))
  . obtain ⟨a, vs, rfl, ha, za⟩ := hx.tup_inv
    cases h
    refine .inr (.inr ⟨a, vs, rfl, seqT f.low ha, fun e => ?_, fun _ p hp => k.newT f za.cutV hp⟩)
    refine k.here f ?_
    have e2 : M.cut ‹List M.D› lo hi = ‹List M.D› := by
      unfold M.cut
      rw [<- za.length]
      have e1 : M.six vs.length 0 lo = 0 := e.1
      have e3 : M.six vs.length vs.length hi = vs.length := e.2
      rw [e1, e3, List.drop_zero, Nat.sub_zero, za.length, List.take_length]
    rw [e2]
    exact .tup ha za
  . obtain ⟨a, vs, rfl, ha, za⟩ := hx.lst_inv
    cases h
    exact .inl ⟨a, vs, rfl, SqL.of (f.low _ _ ha), fun p hp => k.newL f za.cutV hp⟩
  . cases hx with
    | scr ha za =>
      cases h
      exact .inl ⟨_, _, rfl, Same.seq f.low ha, fun p hp => k.newL f za.cutV hp⟩
end
end S
namespace S
open PySem PySem.Spec PyProof.Rows L2
variable [Wd] [Hot]
section
variable {K : PySem.W.Frag} {F F' H H' : Hp} {T T' : List Addr} {fp fq fr : Fp} {ρ : M.PSt} {σ : St}
abbrev keys (fp : Fp) : List Addr := fp.map (·.1)
theorem FpH.sub (f : FpH F H fp) (hm : ∀ e ∈ fq, e ∈ fp) (hc : ∀ a, (keys fq).count a <= (keys fp).count a) : FpH F H fq := by
  refine ⟨f.low, fun e he => f.at_ e (hm e he), ?_, f.tbs fun a h1 h2 h3 => ⟨h1, rfl, fun e he => h3 e (hm e he)⟩⟩
  rw [List.nodup_iff_count]
  exact fun a => Nat.le_trans (hc a) (List.nodup_iff_count.mp f.nd a)
structure Part (a b : Fp) : Prop where
  m : ∀ e ∈ a, e ∈ b
  c : ∀ x, (keys a).count x <= (keys b).count x
theorem FpH.part (f : FpH F H fp) (p : Part fq fp) : FpH F H fq := f.sub p.m p.c
theorem Part.refl {a : Fp} : Part a a := ⟨fun _ h => h, fun _ => Nat.le_refl _⟩
theorem Part.trans {a b c : Fp} (p : Part a b) (q : Part b c) : Part a c := ⟨fun e h => q.m e (p.m e h), fun x => Nat.le_trans (p.c x) (q.c x)⟩
theorem Part.app {a b c d : Fp} (p : Part a b) (q : Part c d) : Part (a ++ c) (b ++ d) := by
  refine ⟨fun e h => ?_, fun x => ?_⟩
  . rcases List.mem_append.mp h with h | h
    . exact List.mem_append_left _ (p.m e h)
    . exact List.mem_append_right _ (q.m e h)
  . have := p.c x
    have := q.c x
    simp only [keys, List.map_append, List.count_append] at *
    omega
theorem Part.right {a b c : Fp} (p : Part a c) : Part a (b ++ c) := by
  refine ⟨fun e h => List.mem_append_right _ (p.m e h), fun x => ?_⟩
  have := p.c x
  simp only [keys, List.map_append, List.count_append] at *
  omega
theorem Part.nil {b : Fp} : Part [] b := ⟨fun e h => (nomatch h), fun x => by simp [keys]⟩
local macro_rules | `(tactic| walk_at "parts") => `(tactic| (constructor; (intro e h; simp only [List.mem_append, List.mem_cons] at *; grind); (intro x; simp only [keys, List.map_append, List.map_cons, List.count_append, List.count_cons] at *; omega)))
theorem Part.swap {a b c : Fp} : Part (a ++ (b ++ c)) (b ++ (a ++ c)) := by walk_at "parts"
theorem RpE.get {env : List (Option M.O)} {i : Nat} {o : M.O} (r : RpE K F T σ env fp) (h : env[i]? = some (some o)) (hne : M.wY' o = true := by first | assumption | rfl) : ∃ v f1 f2 f3, σ[i]? = some (some v) /\ fp = f1 ++ (f2 ++ f3) /\ Rp K F T v o f2 ∧
    RpE K F T σ (env.set i none) (f1 ++ f3) /\ ∀ F' T' v' o' f2', Ext F T F' T' -> Rp K F' T' v' o' f2' -> RpE K F' T' (σ.set i (some v')) (env.set i (some o')) (f1 ++ (f2' ++ f3)) := by
  induction r generalizing i with
  | nil => cases h
  | off r ih =>
    cases i with
    | zero => cases h
    | succ i =>
      obtain ⟨v, f1, f2, f3, h1, rfl, h3, h4, h5⟩ := ih (i := i) h
      exact ⟨v, f1, f2, f3, h1, rfl, h3, .off h4, fun F' T' v' o' f2' e r' => .off (h5 F' T' v' o' f2' e r')⟩
  | @on v0 o0 σ env fa fb r0 r ih =>
    cases i with
    | zero =>
      have e : o0 = o := Option.some.inj (Option.some.inj h)
      subst e
      exact ⟨v0, [], fa, fb, rfl, rfl, r0, .off r, fun F' T' v' o' f2' e r' => (RpE.on r' (r.mono e) : RpE K F' T' _ _ (f2' ++ fb))⟩
    | succ i =>
      obtain ⟨v, f1, f2, f3, h1, rfl, h3, h4, h5⟩ := ih (i := i) h
      refine ⟨v, fa ++ f1, f2, f3, h1, by simp, h3, ?_, fun F' T' v' o' f2' e r' => ?_⟩
      . rw [List.append_assoc]; exact .on r0 h4
      . rw [List.append_assoc]; exact .on (r0.mono e) (h5 F' T' v' o' f2' e r')
  | hot hh z r ih =>
    cases i with
    | zero => rw [<- Option.some.inj (Option.some.inj h)] at hne; cases hne
    | succ i =>
      obtain ⟨v, f1, f2, f3, h1, rfl, h3, h4, h5⟩ := ih (i := i) h
      exact ⟨v, f1, f2, f3, h1, rfl, h3, .hot (by rw [List.length_set]; exact hh) z h4, fun F' T' v' o' f2' e r' => .hot (by rw [List.length_set]; exact hh) (z.mono' e) (h5 F' T' v' o' f2' e r')⟩
  | clo hh z r ih =>
    cases i with
    | zero => rw [<- Option.some.inj (Option.some.inj h)] at hne; cases hne
    | succ i =>
      obtain ⟨v, f1, f2, f3, h1, rfl, h3, h4, h5⟩ := ih (i := i) h
      exact ⟨v, f1, f2, f3, h1, rfl, h3, .clo (by rw [List.length_set]; exact hh) z h4, fun F' T' v' o' f2' e r' => .clo (by rw [List.length_set]; exact hh) (z.mono e) (h5 F' T' v' o' f2' e r')⟩
theorem RpE.val {env : List (Option M.O)} {i : Nat} {o : M.O} (r : RpE K F T σ env fp) (h : env[i]? = some (some o)) : ∃ v, σ[i]? = some (some v) := by
  induction r generalizing i with
  | nil => cases h
  | off r ih => cases i with
    | zero => cases h
    | succ i => exact ih (i := i) h
  | on _ r ih => cases i with
    | zero => exact ⟨_, rfl⟩
    | succ i => exact ih (i := i) h
  | hot _ _ r ih => cases i with
    | zero => exact ⟨_, rfl⟩
    | succ i => exact ih (i := i) h
  | clo _ _ r ih => cases i with
    | zero => exact ⟨_, rfl⟩
    | succ i => exact ih (i := i) h
theorem RpE.exn {env : List (Option M.O)} {i : Nat} (r : RpE K F T σ env fp) (h : env[i]? = some (some .exn)) : ∃ a n dd x, Hot.hot = some (a, n, dd, x) /\ XcR K F T x (.ref (He.ga K x.cls)) dd /\ σ[i]? = some (some (.ref a)) := by
  induction r generalizing i with
  | nil => cases h
  | off r ih => cases i with
    | zero => cases h
    | succ i => exact ih (i := i) h
  | on q r ih => cases i with
    | zero =>
      have e := Option.some.inj (Option.some.inj h)
      subst e
      cases q
    | succ i => exact ih (i := i) h
  | hot hh z r ih => cases i with
    | zero => exact ⟨_, _, _, _, hh, z, rfl⟩
    | succ i => exact ih (i := i) h
  | clo hh z r ih => cases i with
    | zero => cases h
    | succ i => exact ih (i := i) h
theorem dX' {α : Type} : ∀ {l : List α} {i : Nat} {x : α}, l[i]? = some x -> l.set i x = l
  | [], _, _, h => by cases h
  | a :: l, 0, x, h => by rw [<- Option.some.inj h]; rfl
  | a :: l, i + 1, x, h => by
    show a :: l.set i x = a :: l
    rw [dX' (l := l) (i := i) h]
theorem RpE.len {env : List (Option M.O)} (r : RpE K F T σ env fp) : σ.length = env.length := by
  induction r with
  | nil => rfl
  | off _ ih => exact congrArg (· + 1) ih
  | on _ _ ih => exact congrArg (· + 1) ih
  | hot _ _ _ ih => exact congrArg (· + 1) ih
  | clo _ _ _ ih => exact congrArg (· + 1) ih
theorem RpE.drop {env : List (Option M.O)} (r : RpE K F T σ env fp) (i : Nat) (x : Option V) : ∃ fq, RpE K F T (σ.set i x) (env.set i none) fq /\ Part fq fp := by
  induction r generalizing i with
  | nil => exact ⟨[], .nil, .refl⟩
  | @off y σ env fp r ih =>
    cases i with
    | zero => exact ⟨_, .off r, .refl⟩
    | succ i =>
      obtain ⟨fq, h1, h2⟩ := ih i
      exact ⟨fq, .off h1, h2⟩
  | @on v0 o0 σ env fa fb r0 r ih =>
    cases i with
    | zero => exact ⟨_, .off r, .right .refl⟩
    | succ i =>
      obtain ⟨fq, h1, h2⟩ := ih i
      exact ⟨_, .on r0 h1, .app .refl h2⟩
  | hot hh z r ih =>
    cases i with
    | zero => exact ⟨_, .off r, .refl⟩
    | succ i =>
      obtain ⟨fq, h1, h2⟩ := ih i
      exact ⟨fq, .hot (by rw [List.length_set]; exact hh) z h1, h2⟩
  | clo hh z r ih =>
    cases i with
    | zero => exact ⟨_, .off r, .refl⟩
    | succ i =>
      obtain ⟨fq, h1, h2⟩ := ih i
      exact ⟨fq, .clo (by rw [List.length_set]; exact hh) z h1, h2⟩
theorem RpE.drop0 {env : List (Option M.O)} (r : RpE K F T σ env fp) (i : Nat) : ∃ fq, RpE K F T σ (env.set i none) fq /\ Part fq fp := by
  induction r generalizing i with
  | nil => exact ⟨[], .nil, .refl⟩
  | @off y σ env fp r ih =>
    cases i with
    | zero => exact ⟨_, .off r, .refl⟩
    | succ i =>
      obtain ⟨fq, h1, h2⟩ := ih i
      exact ⟨fq, .off h1, h2⟩
  | @on v0 o0 σ env fa fb r0 r ih =>
    cases i with
    | zero => exact ⟨_, .off r, .right .refl⟩
    | succ i =>
      obtain ⟨fq, h1, h2⟩ := ih i
      exact ⟨_, .on r0 h1, .app .refl h2⟩
  | hot hh z r ih =>
    cases i with
    | zero => exact ⟨_, .off r, .refl⟩
    | succ i =>
      obtain ⟨fq, h1, h2⟩ := ih i
      exact ⟨fq, .hot (by rw [List.length_set]; exact hh) z h1, h2⟩
  | clo hh z r ih =>
    cases i with
    | zero => exact ⟨_, .off r, .refl⟩
    | succ i =>
      obtain ⟨fq, h1, h2⟩ := ih i
      exact ⟨fq, .clo (by rw [List.length_set]; exact hh) z h1, h2⟩
theorem RpE.put {env : List (Option M.O)} (r : RpE K F T σ env fp) {i : Nat} (hi : i < env.length) {v : V} {o : M.O} {f2 : Fp} (q : Rp K F T v o f2) :
    ∃ fq, RpE K F T (σ.set i (some v)) (env.set i (some o)) fq /\ Part fq (fp ++ f2) := by
  induction r generalizing i with
  | nil => cases hi
  | @off y σ env fp r ih =>
    cases i with
    | zero => exact ⟨_, .on q r, by walk_at "parts"⟩
    | succ i =>
      obtain ⟨fq, h1, h2⟩ := ih (i := i) (Nat.lt_of_succ_lt_succ hi)
      exact ⟨fq, .off h1, h2⟩
  | @on v0 o0 σ env fa fb r0 r ih =>
    cases i with
    | zero => exact ⟨_, .on q r, by walk_at "parts"⟩
    | succ i =>
      obtain ⟨fq, h1, h2⟩ := ih (i := i) (Nat.lt_of_succ_lt_succ hi)
      refine ⟨_, .on r0 h1, ?_⟩
      rw [List.append_assoc]
      exact .app .refl h2
  | hot hh z r ih =>
    cases i with
    | zero => exact ⟨_, .on q r, by walk_at "parts"⟩
    | succ i =>
      obtain ⟨fq, h1, h2⟩ := ih (i := i) (Nat.lt_of_succ_lt_succ hi)
      exact ⟨fq, .hot (by rw [List.length_set]; exact hh) z h1, h2⟩
  | clo hh z r ih =>
    cases i with
    | zero => exact ⟨_, .on q r, by walk_at "parts"⟩
    | succ i =>
      obtain ⟨fq, h1, h2⟩ := ih (i := i) (Nat.lt_of_succ_lt_succ hi)
      exact ⟨fq, .clo (by rw [List.length_set]; exact hh) z h1, h2⟩
theorem RpE.put0 {env : List (Option M.O)} (r : RpE K F T σ env fp) {i : Nat} {v : V} (hi : σ[i]? = some (some v)) {o : M.O} {f2 : Fp} (q : Rp K F T v o f2) :
    ∃ fq, RpE K F T σ (env.set i (some o)) fq /\ Part fq (fp ++ f2) := by
  have hl : i < env.length := by rw [<- r.len]; exact (List.getElem?_eq_some_iff.mp hi).1
  obtain ⟨fq, h1, h2⟩ := r.put hl q
  rw [dX' hi] at h1
  exact ⟨fq, h1, h2⟩
def pe' (F : Hp) : Fp -> Hp
  | [] => F
  | e :: r => upd (pe' F r) e.1 e.2
theorem c7' {a : Addr} : ∀ {fp : Fp}, a ∉ keys fp -> pe' F fp a = F a
  | [], _ => rfl
  | e :: r, h => by
    have h' : a ≠ e.1 /\ a ∉ keys r := by simpa [keys] using h
    show upd (pe' F r) e.1 e.2 a = F a
    rw [upd_ne h'.1, c7' h'.2]
theorem dZ' : ∀ {fp : Fp}, (keys fp).Nodup -> ∀ e ∈ fp, pe' F fp e.1 = some e.2
  | e :: r, h, e', he => by
    obtain ⟨h1, h2⟩ := List.nodup_cons.mp h
    show upd (pe' F r) e.1 e.2 e'.1 = _
    rcases List.mem_cons.mp he with rfl | he
    . exact upd_same
    . rw [upd_ne fun z => h1 (by have q : e'.1 ∈ keys r := List.mem_map_of_mem he; rw [z] at q; exact q)]
      exact dZ' h2 e' he
theorem eK' {fp : Fp} (h : ∀ e ∈ fp, F e.1 = none) : Same F (pe' F fp) := fun a o e => by
  rw [c7' fun z => ?_]
  . exact e
  . obtain ⟨x, h1, h2⟩ := List.mem_map.mp z
    rw [<- h2, h x h1] at e
    cases e
theorem FpH.freeze {a b : Fp} (f : FpH F H (a ++ b)) : FpH (pe' F a) H b := by
  have nd : (keys a ++ keys b).Nodup := by rw [<- List.map_append]; exact f.nd
  obtain ⟨n1, n2, n3⟩ := List.nodup_append.mp nd
  refine ⟨fun p o h => ?_, fun e he => ⟨(f.at_ e (List.mem_append_right _ he)).1, ?_⟩, n2, f.tbs (fun p h1 h2 h3 => ⟨?_, rfl, fun e he => h3 e (List.mem_append_right _ he)⟩) fun c q h => h7' (eK' fun e he => (f.at_ e (List.mem_append_left _ he)).2) h⟩
  . by_cases hp : p ∈ keys a
    . obtain ⟨x, h1, rfl⟩ := List.mem_map.mp hp
      rw [dZ' n1 x h1] at h
      rw [(f.at_ x (List.mem_append_left _ h1)).1]
      exact h
    . rw [c7' hp] at h
      exact f.low _ _ h
  . rw [c7' fun z => n3 _ z _ (List.mem_map_of_mem he) rfl]
    exact (f.at_ e (List.mem_append_right _ he)).2
  . rw [c7' fun z => ?_]
    . exact h1
    . obtain ⟨x, hx, e⟩ := List.mem_map.mp z
      exact h3 x (List.mem_append_left _ hx) e
mutual
theorem Rp.freeze {G : Hp} (s : Same F G) : ∀ {v : V} {o : M.O} {fp : Fp}, Rp K F T v o fp -> (∀ e ∈ fp, G e.1 = some e.2) -> Fz K G T v (M.frz o)
  | _, _, _, .fz h, _ => h.mono (.of s)
  | _, _, _, .lst r, g => .lst (g _ List.mem_cons_self) (RpA.freeze s r fun e he => g e (List.mem_cons_of_mem _ he))
  | _, _, _, .tup r, g => .tup (SqT.of (g _ List.mem_cons_self)) (RpA.freeze s r fun e he => g e (List.mem_cons_of_mem _ he))
  | _, _, _, .dct k r, g => .dct (.inl (g _ List.mem_cons_self)) k (RpA.freeze s r fun e he => g e (List.mem_cons_of_mem _ he))
  | _, _, _, .dcl k r, g => .dcl (.inl (g _ List.mem_cons_self)) k (RpA.freeze s r fun e he => g e (List.mem_cons_of_mem _ he))
  | _, _, _, .dcn k q r, g => .dcn (.inl (g _ List.mem_cons_self)) k (q.mono (.of s)) (RpA.freeze s r fun e he => g e (List.mem_cons_of_mem _ he))
theorem RpA.freeze {G : Hp} (s : Same F G) : ∀ {vs : List V} {os : List M.O} {fp : Fp}, RpA K F T vs os fp -> (∀ e ∈ fp, G e.1 = some e.2) -> FzA K G T vs (M.frzs os)
  | _, _, _, .nil, _ => .nil
  | _, _, _, .cons h r, g => .cons (Rp.freeze s h fun e he => g e (List.mem_append_left _ he)) (RpA.freeze s r fun e he => g e (List.mem_append_right _ he))
end
theorem Rp.frozen {v : V} {o : M.O} {a b : Fp} (q : Rp K F T v o a) (f : FpH F H (a ++ b)) : ∃ G, Same F G /\ Fz K G T v (M.frz o) /\ FpH G H b := by
  have s : Same F (pe' F a) := eK' fun e he => (f.at_ e (List.mem_append_left _ he)).2
  refine ⟨_, s, q.freeze s fun e he => dZ' ?_ e he, f.freeze⟩
  have nd : (keys a ++ keys b).Nodup := by rw [<- List.map_append]; exact f.nd
  exact (List.nodup_append.mp nd).1
theorem RpA.frozen {v : List V} {o : List M.O} {a b : Fp} (q : RpA K F T v o a) (f : FpH F H (a ++ b)) : ∃ G, Same F G /\ FzA K G T v (M.frzs o) /\ FpH G H b := by
  have s : Same F (pe' F a) := eK' fun e he => (f.at_ e (List.mem_append_left _ he)).2
  refine ⟨_, s, q.freeze s fun e he => dZ' ?_ e he, f.freeze⟩
  have nd : (keys a ++ keys b).Nodup := by rw [<- List.map_append]; exact f.nd
  exact (List.nodup_append.mp nd).1
theorem Rel.frozen {v : V} {o : M.O} (r : Rel K ρ σ H F T (fp ++ fr)) (q : Rp K F T v o fp) : ∃ G, Same F G /\ Fz K G T v (M.frz o) /\ Rel K ρ σ H G T fr := by
  obtain ⟨fe, fw, re, rw, f⟩ := r
  have f' : FpH F H (fp ++ (fe ++ (fw ++ fr))) := f.part (by walk_at "parts")
  obtain ⟨G, s, z, f2⟩ := q.frozen f'
  exact ⟨G, s, z, fe, fw, re.mono (.of s), rw.mono (.of s), f2⟩
theorem Rel.part {fr' : Fp} (r : Rel K ρ σ H F T fr) (p : Part fr' fr) : Rel K ρ σ H F T fr' := by
  obtain ⟨fe, fw, re, rw, f⟩ := r
  exact ⟨fe, fw, re, rw, f.part (.app .refl (.app .refl p))⟩
theorem FpH.own {p : Addr} {o : HO} (f : FpH F H fp) (hp : H p = none) : FpH F (upd H p o) ((p, o) :: fp) := by
  have np : ∀ e ∈ fp, e.1 ≠ p := fun e he => ne_of_none (f.at_ e he).1 hp
  refine ⟨fun a u h => ?_, fun e he => ?_, ?_, f.tbs fun a h1 h2 h3 => ?_⟩
  . rw [upd_ne (ne_of_none (f.low _ _ h) hp)]; exact f.low _ _ h
  . rcases List.mem_cons.mp he with rfl | he
    . exact ⟨upd_same, f.free hp⟩
    . rw [upd_ne (np e he)]; exact f.at_ e he
  . refine List.nodup_cons.mpr ⟨fun h => ?_, f.nd⟩
    obtain ⟨x, h1, h2⟩ := List.mem_map.mp h
    exact np x h1 h2
  . have ha : a ≠ p := fun z => h2 (by rw [z]; exact hp)
    refine ⟨h1, upd_ne ha, fun e he => ?_⟩
    rcases List.mem_cons.mp he with rfl | he
    . exact Ne.symm ha
    . exact h3 e he
theorem FpH.write {p : Addr} {o o' : HO} {a b : Fp} (f : FpH F H (a ++ ((p, o) :: b))) : FpH F (upd H p o') (a ++ ((p, o') :: b)) := by
  have nd : (keys a ++ (p :: keys b)).Nodup := by
    have := f.nd
    simpa [keys] using this
  obtain ⟨n1, n2, n3⟩ := List.nodup_append.mp nd
  have hp : F p = none := (f.at_ (p, o) (by simp)).2
  refine ⟨fun x u h => ?_, fun e he => ?_, ?_, f.tbs fun x h1 h2 h3 => ?_⟩
  . rw [upd_ne (fun z => by rw [z, hp] at h; cases h)]; exact f.low _ _ h
  . rcases List.mem_append.mp he with h | h
    . rw [upd_ne (n3 _ (List.mem_map_of_mem h) _ List.mem_cons_self)]
      exact f.at_ e (List.mem_append_left _ h)
    . rcases List.mem_cons.mp h with rfl | h
      . exact ⟨upd_same, hp⟩
      . rw [upd_ne (fun z => (List.nodup_cons.mp n2).1 (by have q : e.1 ∈ keys b := List.mem_map_of_mem h; rw [z] at q; exact q))]
        exact f.at_ e (List.mem_append_right _ (List.mem_cons_of_mem _ h))
  . have e : (a ++ ((p, o') :: b)).map (·.1) = keys a ++ (p :: keys b) := by simp [keys]
    rw [e]
    exact nd
  . have ha : x ≠ p := fun z => h3 (p, o) (by simp) z.symm
    refine ⟨h1, upd_ne ha, fun e he => ?_⟩
    rcases List.mem_append.mp he with h | h
    . exact h3 e (List.mem_append_left _ h)
    . rcases List.mem_cons.mp h with rfl | h
      . exact Ne.symm ha
      . exact h3 e (List.mem_append_right _ (List.mem_cons_of_mem _ h))
end
section
variable {X : Cx} {W : WX} {K : PySem.W.Frag} {pos : Pos}
theorem ac' {i j pos} : SE X W (.Constant (.int i) j pos) (M.eC (.int i)) := PE.imp pe_int fun σ H Q ⟨ρ, F, T, fr, rel, h⟩ => h _ _ _ _ .refl (.int i) rel
theorem bE' {b j pos} : SE X W (.Constant (.bool b) j pos) (M.eC (.bl b)) := PE.imp pe_bl fun σ H Q ⟨ρ, F, T, fr, rel, h⟩ => h _ _ _ _ .refl (.bl b) rel
theorem mn' {j pos} : SE X W (.Constant .none j pos) (M.eC .non) := PE.imp pe_non fun σ H Q ⟨ρ, F, T, fr, rel, h⟩ => h _ _ _ _ .refl .non rel
def uU' (s : M.Tx) : Bool := s.all (fun c => decide (c < 1114112)) && decide (s.length <= 16777216)
theorem pR' {s : M.Tx} (h : uU' s = true) : okT s := by
  unfold uU' at h
  rw [Bool.and_eq_true, List.all_eq_true] at h
  exact ⟨fun c hc => of_decide_eq_true (h.1 c hc), of_decide_eq_true h.2⟩
theorem bJ' {x : Str} {j pos} (s : M.Tx) (hs : x = sx s) (ho : uU' s = true) : SE X W (.Constant (.str x) j pos) (M.eC (.str s)) := by
  subst hs
  exact PE.imp pe_str fun σ H Q ⟨ρ, F, T, fr, rel, h⟩ => h _ _ _ _ .refl (.str (pR' ho)) rel
theorem xy' {e : Expr} {v : V} {d : M.D} (h : PE X e (tC v)) (z : ∀ F T, Fz X.K F T v d) : SE X W e (M.eC d) := PE.imp h fun σ H Q ⟨ρ, F, T, fr, rel, h⟩ => h _ _ _ _ .refl (z F T) rel
theorem sA' {i : Nat} {σ : St} {H : Hp} {Q : VK} (h : qE K W (M.eV i) σ H Q) : tVar i σ H Q := by
  obtain ⟨ρ, F, T, fr, rel, h⟩ := h
  unfold M.eV at h
  split at h
  . rename_i d e
    obtain ⟨fe, fw, re, rw, f⟩ := id rel
    obtain ⟨v, f1, f2, f3, h1, rfl, h3, h4, h5⟩ := re.get e
    cases h3 with
    | fz z => exact ⟨v, h1, h v H F T .refl z rel⟩
  . exact h.elim
  . exact h.elim
  . rename_i o _ hne hnc e
    obtain ⟨fe, fw, re, rw, f⟩ := rel
    obtain ⟨v, f1, f2, f3, h1, rfl, h3, h4, h5⟩ := re.get e (M.hU' (fun z => hne (by rw [z])) fun z => hnc (by rw [z]))
    have f' : FpH F H (f2 ++ (f1 ++ f3 ++ (fw ++ fr))) := f.part (by refine ⟨fun e h => ?_, fun x => ?_⟩; (simp only [List.mem_append] at *; grind); (simp only [keys, List.map_append, List.count_append] at *; omega))
    obtain ⟨G, s, z, fG⟩ := h3.frozen f'
    have re' := h5 G T v (.fz (M.frz o)) [] (.of s) (.fz z)
    rw [dX' h1] at re'
    exact ⟨v, h1, h v H G T (.of s) z ⟨_, fw, re', rw.mono (.of s), by simpa using fG⟩⟩
  . exact h.elim
theorem ad' {e : Expr} {i : Nat} (h : PE X e (tVar i)) : SE X W e (M.eV i) := PE.imp h fun _ _ _ => sA'
variable {a b c : Expr} {ma mb mc : M.ME} {σ : St} {H : Hp} {Q : VK}
theorem fO' {f : M.D -> M.D -> Option M.D} {r : R2} (hf : Op2 K f r) (h : qE K W (M.eOp f ma mb) σ H Q) : tOp r (qE K W ma) (qE K W mb) σ H Q := by
  obtain ⟨ρ, F, T, fr, rel, h⟩ := h
  refine aw' rel h fun dx ρ1 v H1 F1 T1 e1 z1 r1 h1 => ?_
  refine aw' r1 h1 fun dy ρ2 u H2 F2 T2 e2 z2 r2 h2 => ?_
  obtain ⟨dz, ez, q⟩ := a0'.ofO h2
  obtain ⟨fp, f2, back⟩ := r2.fp
  exact hf f2 (z1.mono e2) z2 ez fun v' H3 F3 s zz f3 => q v' H3 F3 T2 (e1.trans (e2.trans (.of s))) zz (back H3 F3 s f3)
theorem aE' {op : Operator} {f : M.D -> M.D -> Option M.D} {r : R2} (ho : OpR X (binaryOp op) r) (hf : Op2 X.K f r) (ha : SE X W a ma) (hb : SE X W b mb) : SE X W (.BinOp a op b pos) (M.eOp f ma mb) := PE.imp (pe_op ho ha hb) fun _ _ _ => fO' hf
theorem fh' {op : CmpOp} {f : M.D -> M.D -> Option M.D} {r : R2} (ho : OpR X (compareOp op) r) (hf : Op2 X.K f r) (hm : behindInMarks op b = false) (ha : SE X W a ma) (hb : SE X W b mb) : SE X W (.Compare a [op] [b] pos) (M.eOp f ma mb) := PE.imp (pe_cmpR ho ha hb hm) fun _ _ _ => fO' hf
theorem bO' {f : M.D -> M.D -> Option M.D} {r : R2} (ho : IxR X r) (hf : Op2 X.K f r) (ha : SE X W a ma) (hb : SE X W b mb) (hs : PlainIx b) : SE X W (.Subscript a b pos) (M.eOp f ma mb) := PE.imp (pe_ix ho ha hb hs) fun _ _ _ => fO' hf
theorem qr' {f : M.D -> Option M.D} {r : V -> Hp -> VK -> Prop} (hf : Op1 K f r) (h : qE K W (M.eUn f ma) σ H Q) : tUn r (qE K W ma) σ H Q := by
  obtain ⟨ρ, F, T, fr, rel, h⟩ := h
  refine aw' rel h fun dx ρ1 v H1 F1 T1 e1 z1 r1 h1 => ?_
  obtain ⟨dz, ez, q⟩ := a0'.ofO h1
  obtain ⟨fp, f2, back⟩ := r1.fp
  exact hf f2 z1 ez fun v' H3 F3 s zz f3 => q v' H3 F3 T1 (e1.trans (.of s)) zz (back H3 F3 s f3)
theorem vt' {op : UnaryOp} {f : M.D -> Option M.D} {r : V -> Hp -> VK -> Prop} (ho : UnR X (unaryOp op) r) (hf : Op1 X.K f r) (ha : SE X W a ma) : SE X W (.UnaryOp op a pos) (M.eUn f ma) := PE.imp (pe_un ho ha) fun _ _ _ => qr' hf
theorem a0'.asB {d : M.D} {ρ : M.PSt} {P : Bool -> M.PSt -> Prop} {Y : Wx} (h : a0' (M.asB d ρ) P Y) : ∃ b, d = .bl b /\ P b ρ := by
  cases d <;> first | exact h.elim | exact ⟨_, rfl, h⟩
theorem kP' {f g : M.D -> M.D -> Option M.D} {r r' : R2} (hf : Op2 K f r) (hg : Op2 K g r') (h : qE K W (M.ey' f g ma mb mc) σ H Q) : tChain r r' (qE K W ma) (qE K W mb) (qE K W mc) σ H Q := by
  obtain ⟨ρ, F, T, fr, rel, h⟩ := h
  refine aw' rel h fun dx ρ1 v H1 F1 T1 e1 z1 r1 h1 => ?_
  refine aw' r1 h1 fun dy ρ2 u H2 F2 T2 e2 z2 r2 h2 => ?_
  obtain ⟨dz, ez, h3⟩ := a0'.ofO (a0'.bind h2)
  obtain ⟨fp, f2, back⟩ := r2.fp
  refine hf f2 (z1.mono e2) z2 ez fun v' H3 F3 s zz f3 => ?_
  have h4 := a0'.bind h3
  obtain ⟨k, rfl, h5⟩ := a0'.asB h4
  refine ⟨k, zz.bl_inv, ?_⟩
  have r3 := back H3 F3 s f3
  cases k with
  | true =>
    rw [if_pos rfl] at h5 ⊢
    refine aw' r3 (h5.mono (fun _ _ z => z) fun _ _ z => z.mono (.of s)) fun dw ρ4 w' H4 F4 T4 e4 z4 r4 h6 => ?_
    obtain ⟨dz, ez, q⟩ := a0'.ofO h6
    obtain ⟨fp, f4, back⟩ := r4.fp
    exact hg f4 ((z2.mono (.of s)).mono e4) z4 ez fun v' H5 F5 s5 zz f5 => q v' H5 F5 T4 (e1.trans (e2.trans ((Ext.of s).trans (e4.trans (.of s5))))) zz (back H5 F5 s5 f5)
  | false =>
    rw [if_neg Bool.false_ne_true] at h5 ⊢
    exact h5 _ H3 F3 T2 (e1.trans (e2.trans (.of s))) (.bl false) r3
variable {rest : List Expr}
theorem gG' (ha : SE X W a ma) (hb : SE X W (.BoolOp .And (b :: rest) pos) mb) : SE X W (.BoolOp .And (a :: b :: rest) pos) (M.oR' ma mb) := PE.imp (pe_and ha hb) fun σ H Q ⟨ρ, F, T, fr, rel, h⟩ => by
  refine aw' rel h fun dx ρ1 v H1 F1 T1 e1 z1 r1 h1 => ?_
  obtain ⟨k, rfl, h2⟩ := a0'.asB (a0'.bind h1)
  refine ⟨k, z1.bl_inv, ?_⟩
  cases k with
  | true => rw [if_pos rfl] at h2 ⊢; exact ⟨ρ1, F1, T1, fr, r1, h2.mono (fun _ _ z v H' F' T' e => z v H' F' T' (e1.trans e)) fun _ _ z => z⟩
  | false => rw [if_neg Bool.false_ne_true] at h2 ⊢; exact h2 _ _ _ _ e1 (.bl false) r1
theorem gE' {op} (ha : SE X W a ma) : SE X W (.BoolOp op [a] pos) ma := pe_one ha
theorem sK' (ha : SE X W a ma) : SE X W (.UnaryOp .Not a pos) (M.tP' ma) := PE.imp (pe_not ha) fun σ H Q ⟨ρ, F, T, fr, rel, h⟩ => by
  refine aw' rel h fun dx ρ1 v H1 F1 T1 e1 z1 r1 h1 => ?_
  obtain ⟨k, rfl, h2⟩ := a0'.asB (a0'.bind h1)
  exact ⟨k, z1.bl_inv, h2 _ _ _ _ e1 (.bl _) r1⟩
variable {mt mu : M.MT}
theorem jW' (ha : SE X W a ma) (he : ∀ whole, isTrue a X.env whole = (do let v ← whole; standAt a.pos; holding [v] (truthy v)) := by intro _; rfl) : ST X W a (M.tE ma) := PT.imp (pt_val ha he) fun σ H Q ⟨ρ, F, T, fr, rel, h⟩ => by
  refine aw' rel h fun dx ρ1 v H1 F1 T1 e1 z1 r1 h1 => ?_
  obtain ⟨k, rfl, h2⟩ := a0'.asB h1
  exact ⟨k, z1.bl_inv, h2 _ _ _ e1 r1⟩
theorem aD' {op : CmpOp} {f : M.D -> M.D -> Option M.D} {r : R2} (ho : OpR X (compareOp op) r) (hf : Op2 X.K f r) (hm : behindInMarks op b = false) (ha : SE X W a ma) (hb : SE X W b mb) : ST X W (.Compare a [op] [b] pos) (M.tE (M.eOp f ma mb)) :=
  PT.imp (pt_cmpR ho ha hb hm) fun σ H Q ⟨ρ, F, T, fr, rel, h⟩ => by
    show tOp r (qE X.K W ma) (qE X.K W mb) σ H fun x H' => ∃ k, x = .bl k /\ Q k H'
    refine fO' hf ⟨ρ, F, T, fr, rel, (a0'.bind h).mono (fun d ρ1 h1 v H1 F1 T1 e z r => ?_) fun _ _ z => z⟩
    obtain ⟨k, rfl, h2⟩ := a0'.asB h1
    exact ⟨k, z.bl_inv, h2 _ _ _ e r⟩
theorem jX' {op op' : CmpOp} {f g : M.D -> M.D -> Option M.D} {r r' : R2} (ho : OpR X (compareOp op) r) (hf : Op2 X.K f r) (ho' : OpR X (compareOp op') r') (hg : Op2 X.K g r') (ha : SE X W a ma) (hb : SE X W b mb) (hc : SE X W c mc)
    (hm : lastMarks [op, op'] [b, c] = false := by with_unfolding_all rfl) : ST X W (.Compare a [op, op'] [b, c] pos) (M.tE (M.ey' f g ma mb mc)) := PT.imp (pt_chain ho ho' ha hb hc hm) fun σ H Q ⟨ρ, F, T, fr, rel, h⟩ => by
    show tChain r r' (qE X.K W ma) (qE X.K W mb) (qE X.K W mc) σ H fun x H' => ∃ k, x = .bl k /\ Q k H'
    refine kP' hf hg ⟨ρ, F, T, fr, rel, (a0'.bind h).mono (fun d ρ1 h1 v H1 F1 T1 e z r => ?_) fun _ _ z => z⟩
    obtain ⟨k, rfl, h2⟩ := a0'.asB h1
    exact ⟨k, z.bl_inv, h2 _ _ _ e r⟩
abbrev SW (X : Cx) (W : WX) (e : Expr) (m : M.MT) : Prop := PW X e (qT X.K W m)
theorem fD' (ha : ST X W a mt) : SW X W (.BoolOp .And [a] pos) mt := pw_and1 ha
theorem cH' (ha : ST X W a mt) : SW X W (.BoolOp .Or [a] pos) mt := pw_or1 ha
theorem jT' (ha : ST X W a mt) (hb : SW X W (.BoolOp .And (b :: rest) pos) mu) : SW X W (.BoolOp .And (a :: b :: rest) pos) (M.pE' mt mu) := PW.imp (pw_and ha hb) fun σ H Q ⟨ρ, F, T, fr, rel, h⟩ => by
  refine h9' rel h fun k ρ1 H1 F1 T1 e1 r1 h1 => ?_
  cases k with
  | true => rw [if_pos rfl] at h1 ⊢; exact ⟨ρ1, F1, T1, fr, r1, h1.mono (fun _ _ z H' F' T' e => z H' F' T' (e1.trans e)) fun _ _ z => z⟩
  | false => rw [if_neg Bool.false_ne_true] at h1 ⊢; exact h1 _ _ _ e1 r1
theorem dH' (ha : ST X W a mt) (hb : SW X W (.BoolOp .Or (b :: rest) pos) mu) : SW X W (.BoolOp .Or (a :: b :: rest) pos) (M.tOr mt mu) := PW.imp (pw_or ha hb) fun σ H Q ⟨ρ, F, T, fr, rel, h⟩ => by
  refine h9' rel h fun k ρ1 H1 F1 T1 e1 r1 h1 => ?_
  cases k with
  | true => rw [if_pos rfl] at h1 ⊢; exact h1 _ _ _ e1 r1
  | false => rw [if_neg Bool.false_ne_true] at h1 ⊢; exact ⟨ρ1, F1, T1, fr, r1, h1.mono (fun _ _ z H' F' T' e => z H' F' T' (e1.trans e)) fun _ _ z => z⟩
theorem kz' (h : SW X W a mt) : ST X W a mt := PW.pt h
theorem by' (ha : ST X W a mt) : ST X W (.UnaryOp .Not a pos) (M.fa' mt) := PT.imp (pt_not ha) fun σ H Q ⟨ρ, F, T, fr, rel, h⟩ => h9' rel h fun k ρ1 H1 F1 T1 e1 r1 h1 => h1 _ _ _ e1 r1
variable {es : List Expr} {as : M.MA}
theorem ai' : SA X W [] M.bc' := PA.imp pa_nil fun σ H Q ⟨ρ, F, T, fr, rel, h⟩ => h [] H F T .refl .nil rel
theorem aa' (ha : SE X W a ma) (hr : SA X W es as) (hs : starEach (a :: es) X.env = (false, eval a X.env) :: starEach es X.env := by rfl) : SA X W (a :: es) (M.ae' ma as) := PA.imp (pa_cons ha hr hs) fun σ H Q ⟨ρ, F, T, fr, rel, h⟩ => by
  refine aw' rel h fun dx ρ1 v H1 F1 T1 e1 z1 r1 h1 => ?_
  refine bX' r1 h1 fun ds ρ2 vs H2 F2 T2 e2 z2 r2 h2 => ?_
  exact h2 _ _ _ _ (e1.trans e2) (.cons (z1.mono e2) z2) r2
theorem cK' {k} (h : SA X W es as) : SE X W (.Tuple es k pos) (M.kK' as) := PE.imp (pe_tup h) fun σ H Q ⟨ρ, F, T, fr, rel, h⟩ => by
  refine bX' rel h fun ds ρ1 vs H1 F1 T1 e1 z1 r1 h1 => ?_
  split at h1
  . rename_i hl
    refine ⟨by rw [z1.length, bw']; exact hl, fun p hp => ?_⟩
    obtain ⟨fp, f, back⟩ := r1.fp
    have s : Same F1 (upd F1 p (.tup vs)) := bW' (f.free hp)
    exact h1 _ _ _ _ (e1.trans (.of s)) (.tup (SqT.of upd_same) (z1.mono (.of s))) (back _ _ s (f.new hp))
  . exact h1.elim
theorem gF' (h : SA X W es as) : SE X W (.List es pos) (M.kL' as) := PE.imp (pe_lst h) fun σ H Q ⟨ρ, F, T, fr, rel, h⟩ => by
  refine bX' rel h fun ds ρ1 vs H1 F1 T1 e1 z1 r1 h1 => ?_
  split at h1
  . rename_i hl
    refine ⟨by rw [z1.length, bw']; exact hl, fun p hp => ?_⟩
    obtain ⟨fp, f, back⟩ := r1.fp
    have s : Same F1 (upd F1 p (.lst vs)) := bW' (f.free hp)
    exact h1 _ _ _ _ (e1.trans (.of s)) (.lst upd_same (z1.mono (.of s))) (back _ _ s (f.new hp))
  . exact h1.elim
abbrev SP_ (X : Cx) (W : WX) (e : Option Expr) (m : M.MP) : Prop := PO X e (qP X.K W m)
theorem eU' : SP_ X W none M.pNo := PO.imp po_none fun σ H Q ⟨ρ, F, T, fr, rel, h⟩ => h _ _ _ .refl rel
theorem eT' (ha : SE X W a ma) : SP_ X W (some a) (M.pSo ma) := PO.imp (po_some ha) fun σ H Q ⟨ρ, F, T, fr, rel, h⟩ => by
  refine aw' rel h fun dx ρ1 v H1 F1 T1 e1 z1 r1 h1 => ?_
  split at h1
  . exact ⟨_, z1.int_inv, h1 _ _ _ e1 r1⟩
  . exact h1.elim
theorem eV' {r : V -> Option Int -> Option Int -> Hp -> VK -> Prop} {lo hi : Option Expr} {ml mh : M.MP} {p2 : Pos} (ho : SlR X r) (hf : xj' X.K r) (ha : SE X W a ma) (hl : SP_ X W lo ml) (hh : SP_ X W hi mh) : SE X W (.Subscript a (.Slice lo hi none p2) pos) (M.eSl ma ml mh) :=
  PE.imp (pe_slice ho ha hl hh) fun σ H Q ⟨ρ, F, T, fr, rel, h⟩ => by
    refine aw' rel h fun dx ρ1 v H1 F1 T1 e1 z1 r1 h1 => ?_
    refine mL' r1 h1 fun l ρ2 H2 F2 T2 e2 r2 h2 => ?_
    refine mL' r2 h2 fun u ρ3 H3 F3 T3 e3 r3 h3 => ?_
    obtain ⟨dz, ez, q⟩ := a0'.ofO h3
    obtain ⟨fp, f3, back⟩ := r3.fp
    exact hf f3 ((z1.mono e2).mono e3) ez fun v' H4 F4 s zz f4 => q v' H4 F4 T3 (e1.trans (e2.trans (e3.trans (.of s)))) zz (back H4 F4 s f4)
end
end S
namespace S
open PySem PySem.Spec PyProof.Rows L2
variable [Wd]
section
variable (K : PySem.W.Frag) (H : Hp)
mutual
inductive NkV : V -> NestedKey -> Prop
  | non : NkV .non .none
  | bl (b : Bool) : NkV (.bl b) (.num (if b = true then 1 else 0))
  | int (i : Int) : NkV (.int i) (.num i)
  | str (x : Str) : NkV (.str x) (.text x)
  | tup {a : Addr} {vs : List V} {ks : List NestedKey} : SqT K H a vs -> NkVs vs ks -> NkV (.ref a) (.tup ks)
inductive NkVs : List V -> List NestedKey -> Prop
  | nil : NkVs [] []
  | cons {v : V} {vs : List V} {k : NestedKey} {ks : List NestedKey} : NkV v k -> NkVs vs ks -> NkVs (v :: vs) (k :: ks)
end
end
section
variable {X : Cx} {pins : List (Addr × Obj)} {σ : St} {H : Hp} {s : Shared}
mutual
theorem NkV.is (I : Inv X pins σ H s) : ∀ {v : V} {k : NestedKey} {u : Value}, NkV X.K H v k -> RelV v u -> NestedIs s.heap k u
  | _, _, _, .non, r => by cases (show _ = Value.none from r); exact .none
  | _, _, _, .bl b, r => by cases (show _ = Value.bool b from r); exact .bool rfl
  | _, _, _, .int i, r => by obtain ⟨t, e⟩ := (show ∃ t, _ = Value.int i t from r); subst e; exact .int i t
  | _, _, _, .str x, r => by obtain ⟨t, e⟩ := (show ∃ t, _ = Value.str x t from r); subst e; exact .text x t
  | _, _, _, .tup (a := a) h q, r => by
    cases (show _ = Value.ref a from r)
    obtain ⟨its, rv, ⟨o, h1, h2, n, h3⟩, _⟩ := I.tuple h
    exact .tup h1 h2 h3 (NkVs.is I q rv)
theorem NkVs.is (I : Inv X pins σ H s) : ∀ {v : List V} {k : List NestedKey} {u : List Value}, NkVs X.K H v k -> Vals v u -> NestedAll s.heap k u
  | _, _, _, .nil, r => by cases r; exact .nil
  | _, _, _, .cons a q, r => by
    cases r with
    | cons ra rq => exact .cons (NkV.is I a ra) (NkVs.is I q rq)
end
end
section
variable {K : PySem.W.Frag} {F H : Hp} {T : List Addr}
mutual
theorem Fz.nk (s : Same F H) : ∀ {v : V} {d : M.D}, Fz K F T v d -> M.kat d = true -> NkV K H v (nk d)
  | _, _, .non, _ => .non
  | _, _, .bl b, _ => .bl b
  | _, _, .int i, _ => .int i
  | _, _, .str h, _ => .str _
  | _, _, .tup h r, e => .tup (seqT s h) (FzA.nk s r e)
  | _, _, .lst h r, e => by cases e
  | _, _, .dct h _ r, e => by cases e
  | _, _, .dcl h k r, e => by cases e
  | _, _, .dcn h k q r, e => by cases e
  | _, _, .rep d, e => by cases e
  | _, _, .obj h, e => by cases e
  | _, _, .ty n, e => by cases e
  | _, _, .fn x, e => by cases e
  | _, _, .scr h r, e => by cases e
theorem FzA.nk (s : Same F H) : ∀ {vs : List V} {ds : List M.D}, FzA K F T vs ds -> M.kats ds = true -> NkVs K H vs (nks ds)
  | _, _, .nil, _ => .nil
  | _, _, .cons h r, e => by
    obtain ⟨e1, e2⟩ := Bool.and_eq_true_iff.mp (show (M.kat _ && M.kats _) = true from e)
    exact .cons (Fz.nk s h e1) (FzA.nk s r e2)
end
def lfV : V -> Option Leaf
  | .non => some .none
  | .bl b => some (.num (if b = true then 1 else 0))
  | .int i => some (.num i)
  | .str x => some (.text x)
  | _ => none
end
section
variable {κ : Type} [DecidableEq κ]
end
abbrev xsV (xs : List (NestedKey × Addr × V)) : List (NestedKey × V) := xs.map fun x => (x.1, x.2.2)
def u0' (K : PySem.W.Frag) (H : Hp) (xs : List (NestedKey × Addr × V)) : Prop := ∀ x ∈ xs, NkV K H (.ref x.2.1) x.1 /\ x.1.depth <= 8
inductive DLk (K : PySem.W.Frag) (H : Hp) (a : Addr) : V -> Option V -> Prop
  | k {kvs : List (Key × V)} (k : Key) : Rd H a (.dK kvs) -> DLk K H a (kV k) (valV kvs k)
  | l {kvs : List (Leaf × V)} {y : V} {l : Leaf} : Rd H a (dcL a kvs) -> lfV y = some l -> DLk K H a y (valV kvs l)
  | n {xs : List (NestedKey × Addr × V)} {b : Addr} {k : NestedKey} : Rd H a (dcN a xs) -> u0' K H xs -> NkV K H (.ref b) k -> k.depth <= 8 -> DLk K H a (.ref b) (valV (xsV xs) k)
  | ln {b : Addr} {k : NestedKey} : Rd H a (dcL a []) -> NkV K H (.ref b) k -> k.depth <= 8 -> DLk K H a (.ref b) none
  | nl {y : V} {l : Leaf} : Rd H a (dcN a []) -> lfV y = some l -> DLk K H a y none
section
variable {X : Cx} {pins : List (Addr × Obj)} {σ : St} {H : Hp} {s : Shared} {a b : Addr} {y : V} {u : Value} {ov : Option V} {A : Around} {E : Value -> Shared -> Prop}
theorem sU' {u : HO} (I : Inv X pins σ H s) (h : Rd H a u) : ObjOk X.prog X.w H s.heap a u := by
  rcases h with h | ⟨o, h⟩
  . exact I.hok a _ h
  . exact (show ObjOk X.prog X.w H s.heap a (.frz o u) from I.hok a _ h).2
theorem tR' (hw : X.prog = Wd.P /\ X.w = Wd.w) (I : Inv X pins σ H s) {kvs : List (Leaf × V)} (h : Rd H a (dcL a kvs)) : (a == sysModules) = false /\ kvs.length <= sizeLine /\ ∃ vs, KV kvs vs /\ s.heap.DictOf (leafKind X.prog X.w) a vs := by
  obtain ⟨⟨h1, h2, vs, h3, h4⟩, _⟩ := (show ObjOk X.prog X.w H s.heap a (dcL a kvs) from sU' I h)
  refine ⟨h1, h2, vs, h3, ?_⟩
  rw [<- hw.1, <- hw.2] at h4
  exact h4
def uP' (xs : List (NestedKey × Addr × V)) (k : NestedKey) (b : Addr) (v : V) : List (NestedKey × Addr × V) :=
  if (xs.any fun x => decide (x.1 = k)) = true then xs.map (fun x => if x.1 = k then (x.1, x.2.1, v) else x) else xs ++ [(k, b, v)]
inductive DSt (K : PySem.W.Frag) (H : Hp) (a : Addr) (y v : V) (N : Hp -> Prop) : Prop
  | k {kvs : List (Key × V)} (k : Key) : H a = some (.dK kvs) -> y = kV k -> ((kvs.map (·.1)).Nodup -> (kvs.length <= sizeLine -> (putK kvs k v).length <= sizeLine) /\ N (upd H a (.dK (putK kvs k v)))) -> DSt K H a y v N
  | l {kvs : List (Leaf × V)} {l : Leaf} : H a = some (dcL a kvs) -> lfV y = some l -> ((kvs.map (·.1)).Nodup -> (kvs.length <= sizeLine -> (putK kvs l v).length <= sizeLine) /\ N (upd H a (dcL a (putK kvs l v)))) -> DSt K H a y v N
  | n {xs : List (NestedKey × Addr × V)} {b : Addr} {k : NestedKey} : H a = some (dcN a xs) -> u0' K H xs -> y = .ref b -> NkV K H (.ref b) k -> k.depth <= 8 -> ((xs.map (·.1)).Nodup -> (xs.length <= sizeLine -> (uP' xs k b v).length <= sizeLine) /\ N (upd H a (dcN a (uP' xs k b v)))) -> DSt K H a y v N
  | ln {b : Addr} {k : NestedKey} : H a = some (dcL a []) -> y = .ref b -> NkV K H (.ref b) k -> k.depth <= 8 -> N (upd H a (dcN a [(k, b, v)])) -> DSt K H a y v N
  | nl {l : Leaf} : H a = some (dcN a []) -> lfV y = some l -> N (upd H a (dcL a [(l, v)])) -> DSt K H a y v N
def qG' (K : PySem.W.Frag) : List V -> Hp -> VK -> Prop := fun xs H Q => s1' K xs H Q \/ (∃ a kvs, xs = [V.ref a] /\ Rd H a (dcL a kvs) /\ Q (.int kvs.length) H) \/ ∃ a ys, xs = [V.ref a] /\ Rd H a (dcN a ys) /\ Q (.int ys.length) H
theorem aI' (hw : X.prog = Wd.P /\ X.w = Wd.w) : CallR X (.builtin "len") (qG' X.K) := by
  intro pins s σ H vs us Q I r h
  rcases h with h | ⟨a, kvs, rfl, e, q⟩ | ⟨a, xs, rfl, e, q⟩
  . exact nA' pins s σ H vs us Q I r h
  . cases r with
    | cons ra rn =>
      cases rn
      cases (show _ = Value.ref a from ra)
      obtain ⟨hd, z, ws, rel, dd⟩ := tR' hw I e
      refine call_len_dict hd dd (by rw [<- rel.length]; rw [sizeLine_eq] at z; omega) ?_
      rw [<- rel.length]
      exact ⟨.int kvs.length, H, I.tok _, ⟨_, rfl⟩, q⟩
  . cases r with
    | cons ra rn =>
      cases rn
      cases (show _ = Value.ref a from ra)
      obtain ⟨⟨hd, z, _, ys, rel, o, es, ep, g1, g2, g3, g4⟩, _⟩ := (show ObjOk X.prog X.w H s.heap a (dcN a xs) from sU' I e)
      have hl : es.size = xs.length := by
        have := congrArg List.length g4
        rw [List.length_map, <- Paired.length rel, Array.length_toList] at this
        exact this
      refine PyProof.Rows.call_len_slot (n := es.size) (show s.TypeIs (.ref a) "dict" from ⟨o, g1, g2.1⟩) PySem.F.slot_dict_len (fun Q' hq => call_len_raw hd ⟨o, g1, g2, g3⟩ hq) (by omega) (by rw [sizeLine_eq] at z; omega) ?_
      rw [hl]
      exact ⟨.int xs.length, H, I.tok _, ⟨_, rfl⟩, q⟩
end
end S
namespace S
open PySem PySem.Spec PyProof.Rows L2
variable [Wd] [Hot]
section
variable (K : PySem.W.Frag)
def Bi1 (f : M.D -> Option M.D) (r : List V -> Hp -> VK -> Prop) : Prop := ∀ {F H : Hp} {T : List Addr} {fp : Fp} {x : V} {dx dz : M.D} {Q : VK}, FpH F H fp -> Fz K F T x dx -> f dx = some dz -> dR' K F T fp dz Q -> r [x] H Q
def Bi2 (f : M.D -> M.D -> Option M.D) (r : List V -> Hp -> VK -> Prop) : Prop := ∀ {F H : Hp} {T : List Addr} {fp : Fp} {x y : V} {dx dy dz : M.D} {Q : VK}, FpH F H fp -> Fz K F T x dx -> Fz K F T y dy -> f dx dy = some dz -> dR' K F T fp dz Q -> r [x, y] H Q
end
section
variable {X : Cx} {W : WX} {K : PySem.W.Frag} {pos p : Pos} {x : Str} {id : String} {a b : Expr} {ma mb : M.ME} {σ : St} {H : Hp} {Q : VK} {r : List V -> Hp -> VK -> Prop}
theorem nG' {f : M.D -> Option M.D} (hf : Bi1 K f r) (h : qE K W (M.eUn f ma) σ H Q) : tCB r (tCons (qE K W ma) tNil) σ H Q := by
  obtain ⟨ρ, F, T, fr, rel, h⟩ := h
  refine aw' rel h fun dx ρ1 v H1 F1 T1 e1 z1 r1 h1 => ?_
  obtain ⟨dz, ez, q⟩ := a0'.ofO h1
  obtain ⟨fp, f2, back⟩ := r1.fp
  exact hf f2 z1 ez fun v' H3 F3 s zz f3 => q v' H3 F3 T1 (e1.trans (.of s)) zz (back H3 F3 s f3)
theorem rU' {f : M.D -> M.D -> Option M.D} (hf : Bi2 K f r) (h : qE K W (M.eOp f ma mb) σ H Q) : tCB r (tCons (qE K W ma) (tCons (qE K W mb) tNil)) σ H Q := by
  obtain ⟨ρ, F, T, fr, rel, h⟩ := h
  refine aw' rel h fun dx ρ1 v H1 F1 T1 e1 z1 r1 h1 => ?_
  refine aw' r1 h1 fun dy ρ2 u H2 F2 T2 e2 z2 r2 h2 => ?_
  obtain ⟨dz, ez, q⟩ := a0'.ofO h2
  obtain ⟨fp, f2, back⟩ := r2.fp
  exact hf f2 (z1.mono e2) z2 ez fun v' H3 F3 s zz f3 => q v' H3 F3 T2 (e1.trans (e2.trans (.of s))) zz (back H3 F3 s f3)
theorem bu' {f : M.D -> Option M.D} (hc : CallR X (.builtin id) r) (hf : Bi1 X.K f r) (hg : Gl X x) (hm : X.mg x = none) (hv : bootBuiltins x = some (.builtin id)) (ha : SE X W a ma) (hn : x ≠ "__name__" := by decide) (hdb : (x == ("__debug__" : Str)) = false := by decide)
    (he : starEach [a] X.env = (false, eval a X.env) :: starEach [] X.env := by rfl) (hpl : (backTo pos (starEach [] X.env)).any (·.1) = false := by rfl) : SE X W (.Call (.Name x p) [a] [] pos) (M.eUn f ma) := PE.imp (pe_callB hc hg hm hv (pa_cons ha pa_nil he) hn hdb he hpl) fun _ _ _ => nG' hf
theorem bV' {f : M.D -> Option M.D} (hc : CallR X (.type id) r) (hf : Bi1 X.K f r) (hg : Gl X x) (hm : X.mg x = none) (hv : bootBuiltins x = some (.type id)) (ha : SE X W a ma) (hn : x ≠ "__name__" := by decide) (hdb : (x == ("__debug__" : Str)) = false := by decide)
    (he : starEach [a] X.env = (false, eval a X.env) :: starEach [] X.env := by rfl) (hpl : (backTo pos (starEach [] X.env)).any (·.1) = false := by rfl) : SE X W (.Call (.Name x p) [a] [] pos) (M.eUn f ma) := PE.imp (pe_callTy hc hg hm hv (pa_cons ha pa_nil he) hn hdb he hpl) fun _ _ _ => nG' hf
theorem mq' {f : M.D -> M.D -> Option M.D} (hc : CallR X (.builtin id) r) (hf : Bi2 X.K f r) (hg : Gl X x) (hm : X.mg x = none) (hv : bootBuiltins x = some (.builtin id)) (ha : SE X W a ma) (hb : SE X W b mb) (hn : x ≠ "__name__" := by decide) (hdb : (x == ("__debug__" : Str)) = false := by decide)
    (he : starEach [a, b] X.env = (false, eval a X.env) :: starEach [b] X.env := by rfl) (he2 : starEach [b] X.env = (false, eval b X.env) :: starEach [] X.env := by rfl) (hpl : (backTo pos (starEach [b] X.env)).any (·.1) = false := by rfl) : SE X W (.Call (.Name x p) [a, b] [] pos) (M.eOp f ma mb) := PE.imp (pe_callB hc hg hm hv (pa_cons ha (pa_cons hb pa_nil he2) he) hn hdb he hpl) fun _ _ _ => rU' hf
theorem mD' {F H : Hp} {a : Addr} {u : HO} (s : Same F H) (h : Rd F a u) : Rd H a u := h.imp (s _ _) fun ⟨o, h⟩ => ⟨o, s _ _ h⟩
theorem ck' : Bi1 K M.cG' (qG' K) := by
  intro F H T fp x dx dz Q f hx h k
  by_cases hX : ∃ ks vs, dx = .dcx ks vs
  . obtain ⟨ks, vs, rfl⟩ := hX
    cases h
    cases hx with
    | @dcl a kvs _ _ e ke z =>
      have q : kvs.length = ks.length := by have := congrArg List.length ke.e; simpa using this
      refine .inr (.inl ⟨_, _, rfl, e.imp (f.low _ _) fun ⟨o, h⟩ => ⟨o, f.low _ _ h⟩, ?_⟩)
      rw [q]
      exact k.here f (.int _)
    | @dcn a xs _ _ e ke z1 z2 =>
      have q : xs.length = ks.length := by have := congrArg List.length ke.e; simpa using this
      refine .inr (.inr ⟨_, _, rfl, e.imp (f.low _ _) fun ⟨o, h⟩ => ⟨o, f.low _ _ h⟩, ?_⟩)
      rw [q]
      exact k.here f (.int _)
  refine .inl ?_
  cases dx <;> try (cases h; done)
  . obtain ⟨rfl, o1⟩ := hx.str_inv
    cases h
    refine .inl ⟨_, rfl, o1.len, ?_⟩
    rw [b0']
    exact k.here f (.int _)
  . obtain ⟨a, vs, rfl, ha, za⟩ := hx.tup_inv
    cases h
    refine .inr (.inl ⟨a, vs, rfl, .inr (seqT f.low ha), ?_⟩)
    rw [za.length]
    exact k.here f (.int _)
  . obtain ⟨a, vs, rfl, ha, za⟩ := hx.lst_inv
    cases h
    refine .inr (.inl ⟨a, vs, rfl, .inl (SqL.of (f.low _ _ ha)), ?_⟩)
    rw [za.length]
    exact k.here f (.int _)
  . cases hx with
    | dct ha _ za =>
      cases h
      refine .inr (.inr ⟨_, _, rfl, mD' f.low ha, ?_⟩)
      refine k.here f ?_
      rw [List.length_map]
      exact .int _
  . exact absurd ⟨_, _, rfl⟩ hX
theorem do' : Bi1 K M.gc' s3' := by
  intro F H T fp x dx dz Q f hx h k
  cases dx <;> try (cases h; done)
  . cases hx; cases h
    exact .inr ⟨_, rfl, k.here f (.int _)⟩
  . cases hx; cases h
    exact .inl ⟨_, rfl, k.here f (.int _)⟩
theorem wO' : Bi1 K M.uS' s6' := by
  intro F H T fp x dx dz Q f hx h k
  cases dx <;> try (cases h; done)
  cases hx; cases h
  exact ⟨_, rfl, k.here f (.int _)⟩
theorem p8' : Bi2 K M.mO' sZ' := by
  intro F H T fp x y dx dy dz Q f hx hy h k
  cases dx <;> cases dy <;> try (cases h; done)
  cases hx; cases hy; cases h
  exact ⟨_, _, rfl, k.here f (.int _)⟩
theorem nC' : Bi2 K M.kF' sY' := by
  intro F H T fp x y dx dy dz Q f hx hy h k
  cases dx <;> cases dy <;> try (cases h; done)
  cases hx; cases hy; cases h
  exact ⟨_, _, rfl, k.here f (.int _)⟩
theorem n4' {s : M.Tx} : signs (sx s) = s.map chv := by
  unfold signs
  show (s.toArray.toList.map fun c => V.str ⟨#[c]⟩) = _
  simp
  intro a _
  rfl
theorem FzA.signs {K : PySem.W.Frag} {F : Hp} {T : List Addr} {s : M.Tx} (o : okT s) : FzA K F T (S.signs (sx s)) (s.map M.chD) := by
  rw [n4']
  exact FzA.chars o.1
theorem dn' : Bi1 K M.b3' (mE' K) := by
  intro F H T fp x dx dz Q f hx h k
  cases dx <;> try (cases h; done)
  . obtain ⟨rfl, o⟩ := hx.str_inv
    cases h
    exact .inr ⟨_, rfl, o.len, fun l hl => k.newT f (FzA.signs o) hl⟩
  . obtain ⟨a, vs, rfl, ha, za⟩ := hx.tup_inv
    cases h
    exact .inl ⟨a, vs, rfl, .inr ⟨seqT f.low ha, k.here f (.tup ha za)⟩⟩
  . obtain ⟨a, vs, rfl, ha, za⟩ := hx.lst_inv
    cases h
    exact .inl ⟨a, vs, rfl, .inl ⟨SqL.of (f.low _ _ ha), fun l hl => k.newT f za hl⟩⟩
theorem mb' {F H : Hp} {T : List Addr} {v : V} {d : M.D} {n : String} (s : Same F H) (h : Fz K F T v d) (e : M.tyn d = some n) : TyX K H v (.type n) := by
  cases h with
  | non => cases e; exact .base .non
  | bl b => cases e; exact .base (.bl b)
  | int i => cases e; exact .base (.int i)
  | str z => cases e; exact .base (.str _)
  | lst h1 _ => cases e; exact tyL (SqL.of (s _ _ h1))
  | tup h1 _ => cases e; exact tyT (seqT s h1)
  | dct h1 _ _ =>
    cases e
    rcases h1 with h1 | ⟨o, h1⟩
    . exact .base (.dK (s _ _ h1))
    . exact .fDict (s _ _ h1)
  | dcl _ _ _ => cases e
  | dcn _ _ _ _ => cases e
  | rep _ => cases e
  | obj _ => cases e
  | ty _ => cases e
  | fn _ => cases e
  | scr _ _ => cases e
theorem q0' : ∀ n ∈ ["NoneType", "bool", "int", "str", "tuple", "list", "dict"], ∀ t ∈ ["bool", "int", "str", "tuple", "list", "dict"], kitB n t = some (n == t || (n == "bool" && t == "int")) := by decide +kernel
theorem qs' {d : M.D} {n : String} (e : M.tyn d = some n) : n ∈ ["NoneType", "bool", "int", "str", "tuple", "list", "dict"] := by
  cases d <;> first | (cases e; done) | (cases e; decide)
def kw' (K : PySem.W.Frag) (J : It) (ds : List M.D) (F : Hp) (T : List Addr) : Prop := ∀ F' T' H' fp i, Ext F T F' T' -> FpH F' H' fp -> i <= ds.length →
  (i = ds.length -> J.stop i H') /\ ∀ d, ds[i]? = some d -> J.go i H' /\ ∀ x H2, J.yld i H' x H2 -> ∃ F2, Same F' F2 /\ Fz K F2 T' x d /\ FpH F2 H2 fp
theorem kw'.mono {J : It} {ds : List M.D} {F F' : Hp} {T T' : List Addr} (h : kw' K J ds F T) (e : Ext F T F' T') : kw' K J ds F' T' := fun F2 T2 H2 fp i e2 => h F2 T2 H2 fp i (e.trans e2)
def qI (K : PySem.W.Frag) (W : WX) (m : M.MI) : TI := fun σ H R => ∃ ρ F T fr, Rel K ρ σ H F T fr ∧
  a0' (m ρ) (fun ds ρ' => ∀ J H' F' T', Ext F T F' T' -> kw' K J ds F' T' -> Rel K ρ' σ H' F' T' fr -> R J H') (EX K W σ F T fr)
abbrev SI (X : Cx) (W : WX) (tg e : Expr) (m : M.MI) : Prop := PI X tg e (qI X.K W m)
theorem PI.imp {tg e : Expr} {t t' : TI} (h : PI X tg e t) (i : ∀ σ H Q, t' σ H Q -> t σ H Q) : PI X tg e t' := ⟨fun pins s σ H Q I q => h.run pins s σ H Q I (i σ H Q q)⟩
theorem q9' {a : Addr} {vs : List V} {ds : List M.D} {F : Hp} {T : List Addr} (ha : F a = some (.lst vs)) (z : FzA K F T vs ds) : kw' K (Itl K a) ds F T := fun F' T' H' fp i e f hi => by
  have h' : SqL K H' a vs := SqL.of (f.low _ _ (e.f.lst ha))
  refine ⟨fun q => ⟨vs, h', by rw [z.length]; omega⟩, fun d hd => ?_⟩
  obtain ⟨v, h1, h2⟩ := z.get hd
  refine ⟨⟨vs, v, h', h1⟩, fun x H2 y => ?_⟩
  obtain ⟨rfl, y⟩ := y
  have := y vs h'
  rw [h1] at this
  cases this
  exact ⟨F', fun _ _ e => e, h2.mono e, f⟩
theorem ty' {a : Addr} {vs : List V} {ds : List M.D} {F : Hp} {T : List Addr} (ha : SqT K F a vs) (z : FzA K F T vs ds) : kw' K (Itt K a) ds F T := fun F' T' H' fp i e f hi => by
  have h' : SqT K H' a vs := seqT f.low (e.f.seqT ha)
  refine ⟨fun q => ⟨vs, h', by rw [z.length]; omega⟩, fun d hd => ?_⟩
  obtain ⟨v, h1, h2⟩ := z.get hd
  refine ⟨⟨vs, v, h', h1⟩, fun x H2 y => ?_⟩
  obtain ⟨rfl, y⟩ := y
  have := y vs h'
  rw [h1] at this
  cases this
  exact ⟨F', fun _ _ e => e, h2.mono e, f⟩
theorem sD' (s : M.Tx) (i : Nat) : (sx s).cps[i]? = s[i]? := by simp [sx]
theorem tz' {s : M.Tx} {F : Hp} {T : List Addr} (o : okT s) : kw' K (Its (sx s)) (s.map M.chD) F T := fun F' T' H' fp i e f hi => by
  have el : (sx s).cps.size = s.length := b0' s
  rw [List.length_map] at hi ⊢
  refine ⟨fun q => by show (sx s).cps.size <= i; omega, fun d hd => ?_⟩
  rw [List.getElem?_map] at hd
  cases q : s[i]? with
  | none => rw [q] at hd; cases hd
  | some c =>
    rw [q] at hd
    cases hd
    refine ⟨by show i < (sx s).cps.size; have := (List.getElem?_eq_some_iff.mp q).1; omega, fun x H2 y => ?_⟩
    obtain ⟨rfl, c', h1, rfl⟩ := y
    rw [sD', q] at h1
    cases h1
    exact ⟨F', fun _ _ e => e, nn' (o.1 c (List.mem_of_getElem? q)), f⟩
theorem tA' {lo : Int} {n : Nat} {F : Hp} {T : List Addr} : kw' K (Itr lo n) (M.rgI lo n) F T := fun F' T' H' fp i e f hi => by
  unfold M.rgI at hi ⊢
  rw [List.length_map, List.length_range] at hi ⊢
  refine ⟨fun q => by show n <= i; omega, fun d hd => ?_⟩
  rw [List.getElem?_map] at hd
  by_cases h : i < n
  . rw [List.getElem?_range h] at hd
    cases hd
    refine ⟨h, fun x H2 y => ?_⟩
    obtain ⟨rfl, rfl⟩ := y
    exact ⟨F', fun _ _ e => e, .int _, f⟩
  . rw [List.getElem?_eq_none (by rw [List.length_range]; omega)] at hd
    cases hd
theorem s9' {tg e : Expr} {te : TE} (h : PE X e te) : PI X tg e (fun σ H R => iStr te σ H R \/ iList X.K te σ H R \/ iTup X.K te σ H R) := qL' (pi_str h) (qL' (pi_list h) (pi_tup h))
theorem qH' {m : M.ME} {ρ ρ1 : M.PSt} {F : Hp} {T : List Addr} {fr : Fp} {d : M.D} (rel : Rel K ρ σ H F T fr) (em : m ρ = .ok d ρ1) (h : ∀ v H' F' T', Ext F T F' T' -> Fz K F' T' v d -> Rel K ρ1 σ H' F' T' fr -> Q v H') : qE K W m σ H Q :=
  ⟨ρ, F, T, fr, rel, by rw [em]; exact h⟩
theorem d8' {tg : Expr} (h : SE X W a ma) : SI X W tg a (M.nl' ma) := PI.imp (s9' h) fun σ H R ⟨ρ, F, T, fr, rel, q⟩ => by
  have q2 := a0'.bind q
  cases em : ma ρ with
  | bad => rw [em] at q2; exact q2.elim
  | exc x ρ1 =>
    rw [em] at q2
    exact .inl ⟨ρ, F, T, fr, rel, by rw [em]; exact q2⟩
  | ok d ρ1 =>
    rw [em] at q2
    obtain ⟨ds, e1, q3⟩ := a0'.ofO (show a0' _ _ _ from q2)
    cases d <;> try (cases e1; done)
    . cases e1
      refine .inl (qH' rel em fun v H' F' T' e z r => ?_)
      obtain ⟨rfl, o⟩ := z.str_inv
      exact ⟨_, rfl, q3 _ _ _ _ e (tz' o) r⟩
    . cases e1
      refine .inr (.inr (qH' rel em fun v H' F' T' e z r => ?_))
      obtain ⟨p, vs, rfl, ha, za⟩ := z.tup_inv
      obtain ⟨fp, f, _⟩ := r.fp
      exact ⟨p, rfl, ⟨vs, seqT f.low ha⟩, q3 _ _ _ _ e (ty' ha za) r⟩
    . cases e1
      refine .inr (.inl (qH' rel em fun v H' F' T' e z r => ?_))
      obtain ⟨p, vs, rfl, ha, za⟩ := z.lst_inv
      obtain ⟨fp, f, _⟩ := r.fp
      exact ⟨p, rfl, ⟨vs, SqL.of (f.low _ _ ha)⟩, q3 _ _ _ _ e (q9' ha za) r⟩
theorem wQ' {i : Int} (h : M.nQ' i = true) : -(2 ^ 62) <= i /\ i < 2 ^ 62 := by
  unfold M.nQ' at h
  simpa [Bool.and_eq_true] using h
theorem br' {tg : Expr} (hg : Gl X "range") (hm : X.mg "range" = none) (ha : SE X W a ma) (hs : starEach [a] X.env = [(false, eval a X.env)] := by rfl) : SI X W tg (.Call (.Name "range" p) [a] [] pos) (M.bx' ma) :=
  PI.imp (pi_range1 hg hm (pa_cons ha pa_nil hs) hs) fun σ H R ⟨ρ, F, T, fr, rel, q⟩ => by
    refine aw' rel q fun dx ρ1 v H1 F1 T1 e1 z1 r1 h1 => ?_
    obtain ⟨ds, e2, q2⟩ := a0'.ofO h1
    unfold M.df' at e2
    split at e2
    . split at e2
      . rename_i hb
        cases e2
        cases z1
        obtain ⟨b1, b2⟩ := wQ' hb
        exact ⟨_, rfl, b1, b2, q2 _ _ _ _ e1 tA' r1⟩
      . cases e2
    . cases e2
theorem iV' : ∀ (a b : List M.D), (M.cm' a b).length = min a.length b.length
  | [], _ => by simp [M.cm']
  | _ :: _, [] => by simp [M.cm']
  | x :: a, y :: b => by
    show (M.cm' a b).length + 1 = _
    rw [iV' a b]
    simp only [List.length_cons]
    omega
theorem iW' : ∀ (a b : List M.D) (i : Nat) (d : M.D), (M.cm' a b)[i]? = some d -> ∃ x y, a[i]? = some x /\ b[i]? = some y /\ d = .tup [x, y]
  | [], _, i, d, h => by simp [M.cm'] at h
  | _ :: _, [], i, d, h => by simp [M.cm'] at h
  | x :: a, y :: b, 0, d, h => ⟨x, y, rfl, rfl, (Option.some.inj h).symm⟩
  | x :: a, y :: b, i + 1, d, h => iW' a b i d h
theorem ii' {J : It} {as bs : List M.D} {F : Hp} {T : List Addr} (hs : ∀ F' T' H' fp i, Ext F T F' T' -> FpH F' H' fp -> i = min as.length bs.length -> J.stop i H')
    (hy : ∀ F' T' H' fp i dx dy, Ext F T F' T' -> FpH F' H' fp -> as[i]? = some dx -> bs[i]? = some dy -> J.go i H' /\ ∀ v H2, J.yld i H' v H2 -> ∃ p x y, v = .ref p /\ H' p = none /\ H2 = upd H' p (.tup [x, y]) /\ Fz K F' T' x dx /\ Fz K F' T' y dy) : kw' K J (M.cm' as bs) F T := fun F' T' H' fp i e f hi => by
  rw [iV'] at hi ⊢
  refine ⟨fun q => hs F' T' H' fp i e f q, fun d hd => ?_⟩
  obtain ⟨dx, dy, h1, h2, rfl⟩ := iW' _ _ _ _ hd
  obtain ⟨g, y⟩ := hy F' T' H' fp i dx dy e f h1 h2
  refine ⟨g, fun v H2 q => ?_⟩
  obtain ⟨p, x, y', rfl, hp, rfl, zx, zy⟩ := y v H2 q
  have s : Same F' (upd F' p (.tup [x, y'])) := bW' (f.free hp)
  exact ⟨_, s, .tup (SqT.of upd_same) (.cons (zx.mono (.of s)) (.cons (zy.mono (.of s)) .nil)), f.new hp⟩
theorem q7' {s t : M.Tx} {F : Hp} {T : List Addr} (o : okT s) (o2 : okT t) : kw' K (ItP (chS (sx s)) (chS (sx t)) (min (sx s).cps.size (sx t).cps.size)) (M.cm' (s.map M.chD) (t.map M.chD)) F T := by
  have e1 : (sx s).cps.size = s.length := b0' s
  have e2 : (sx t).cps.size = t.length := b0' t
  refine ii' (fun F' T' H' fp i e f hi => ?_) fun F' T' H' fp i dx dy e f h1 h2 => ?_
  . rw [List.length_map, List.length_map] at hi
    show i = min (sx s).cps.size (sx t).cps.size
    omega
  . rw [List.getElem?_map] at h1 h2
    cases q1 : s[i]? with
    | none => rw [q1] at h1; cases h1
    | some c =>
      cases q2 : t[i]? with
      | none => rw [q2] at h2; cases h2
      | some d =>
        rw [q1] at h1
        rw [q2] at h2
        cases h1
        cases h2
        have l1 := (List.getElem?_eq_some_iff.mp q1).1
        have l2 := (List.getElem?_eq_some_iff.mp q2).1
        refine ⟨by show i < min (sx s).cps.size (sx t).cps.size; omega, fun v H2 y => ?_⟩
        obtain ⟨p, x, y', rfl, hp, rfl, c1, c2⟩ := y
        unfold chS at c1 c2
        rw [fc', q1] at c1
        rw [fc', q2] at c2
        cases c1
        cases c2
        exact ⟨p, _, _, rfl, hp, rfl, nn' (o.1 c (List.mem_of_getElem? q1)), nn' (o2.1 d (List.mem_of_getElem? q2))⟩
theorem q8' {a b : Addr} {vs ws : List V} {ds es : List M.D} {F : Hp} {T : List Addr} (ha : F a = some (.lst vs)) (z : FzA K F T vs ds) (hb : F b = some (.lst ws)) (z2 : FzA K F T ws es) : kw' K (Itz K a b) (M.cm' ds es) F T := by
  refine ii' (fun F' T' H' fp i e f hi => ?_) fun F' T' H' fp i dx dy e f h1 h2 => ?_
  . exact ⟨vs, ws, SqL.of (f.low _ _ (e.f.lst ha)), SqL.of (f.low _ _ (e.f.lst hb)), by rw [z.length, z2.length]; omega⟩
  . obtain ⟨x, x1, x2⟩ := z.get h1
    obtain ⟨y, y1, y2⟩ := z2.get h2
    have a1 : SqL K H' a vs := SqL.of (f.low _ _ (e.f.lst ha))
    have b1 : SqL K H' b ws := SqL.of (f.low _ _ (e.f.lst hb))
    refine ⟨⟨vs, ws, x, y, a1, b1, x1, y1⟩, fun v H2 q => ?_⟩
    obtain ⟨p, x', y', rfl, hp, rfl, q1, q2⟩ := q
    have := q1 vs a1
    rw [x1] at this
    cases this
    have := q2 ws b1
    rw [y1] at this
    cases this
    exact ⟨p, _, _, rfl, hp, rfl, x2.mono e, y2.mono e⟩
theorem q6' {a b : Addr} {vs ws : List V} {ds es : List M.D} {F : Hp} {T : List Addr} (ha : SqT K F a vs) (z : FzA K F T vs ds) (hb : SqT K F b ws) (z2 : FzA K F T ws es) : kw' K (RZ.ItzT K a b) (M.cm' ds es) F T := by
  refine ii' (fun F' T' H' fp i e f hi => ?_) fun F' T' H' fp i dx dy e f h1 h2 => ?_
  . exact ⟨vs, ws, seqT f.low (e.f.seqT ha), seqT f.low (e.f.seqT hb), by rw [z.length, z2.length]; omega⟩
  . obtain ⟨x, x1, x2⟩ := z.get h1
    obtain ⟨y, y1, y2⟩ := z2.get h2
    have a1 : SqT K H' a vs := seqT f.low (e.f.seqT ha)
    have b1 : SqT K H' b ws := seqT f.low (e.f.seqT hb)
    refine ⟨⟨vs, ws, x, y, a1, b1, x1, y1⟩, fun v H2 q => ?_⟩
    obtain ⟨p, x', y', rfl, hp, rfl, q1, q2⟩ := q
    have := q1 vs a1
    rw [x1] at this
    cases this
    have := q2 ws b1
    rw [y1] at this
    cases this
    exact ⟨p, _, _, rfl, hp, rfl, x2.mono e, y2.mono e⟩
theorem sJ' {elts : List Expr} {kk : Nat} {tpos : Pos} (hg : Gl X "zip") (hm : X.mg "zip" = none) (ha : SE X W a ma) (hb : SE X W b mb)
    (hs : starEach [a, b] X.env = (false, eval a X.env) :: starEach [b] X.env := by rfl) (hs2 : starEach [b] X.env = (false, eval b X.env) :: starEach [] X.env := by rfl) (hpl : (backTo pos (starEach [b] X.env)).any (·.1) = false := by rfl) :
    SI X W (.Tuple elts kk tpos) (.Call (.Name "zip" p) [a, b] [] pos) (M.tG' ma mb) :=
  PI.imp (qJ' hg hm (pa_cons ha (pa_cons hb pa_nil hs2) hs) hs hpl) fun σ H R ⟨ρ, F, T, fr, rel, q⟩ => by
    -- the kind of both is known ahead
    have fin : ∀ (isS : Bool), (∀ x ρ1, ma ρ = .ok x ρ1 -> ∀ y ρ2, mb ρ1 = .ok y ρ2 -> (isS = true ↔ ∃ s, x = .str s)) -> tE' X.K (tCons (qE X.K W ma) (tCons (qE X.K W mb) tNil)) σ H R := by
      intro isS hS
      have q1 := a0'.bind q
      have body : ∀ (G : List V -> Hp -> Prop), (∀ x y u v H2 F2 T2 ds ρ2, Ext F T F2 T2 -> Fz X.K F2 T2 u x -> Fz X.K F2 T2 v y -> M.nJ' x y = some ds -> Rel X.K ρ2 σ H2 F2 T2 fr -> (isS = true ↔ ∃ s, x = .str s) →
          (∀ J H' F' T', Ext F T F' T' -> kw' X.K J ds F' T' -> Rel X.K ρ2 σ H' F' T' fr -> R J H') -> G [u, v] H2) -> tCons (qE X.K W ma) (tCons (qE X.K W mb) tNil) σ H G := by
        intro G hG
        refine ⟨ρ, F, T, fr, rel, ?_⟩
        cases em : ma ρ with
        | bad => rw [em] at q1; exact q1.elim
        | exc x ρ1 => rw [em] at q1; exact q1
        | ok x ρ1 =>
          rw [em] at q1
          have q2 := a0'.bind (show a0' ((mb ρ1).bind _) _ _ from q1)
          intro u H1 F1 T1 e1 z1 r1
          refine ⟨ρ1, F1, T1, fr, r1, ?_⟩
          cases en : mb ρ1 with
          | bad => rw [en] at q2; exact q2.elim
          | exc y ρ2 => rw [en] at q2; exact EX.mono (show EX X.K W σ F T fr y ρ2 from q2) e1
          | ok y ρ2 =>
            rw [en] at q2
            obtain ⟨ds, e3, q3⟩ := a0'.ofO (show a0' (M.ofO _ _) _ _ from q2)
            intro v H2 F2 T2 e2 z2 r2
            exact hG x y u v H2 F2 T2 ds ρ2 (e1.trans e2) (z1.mono e2) z2 e3 r2 (hS x ρ1 em y ρ2 en) q3
      cases isS with
      | true =>
        refine .inl (body _ fun x y u v H2 F2 T2 ds ρ2 e z1 z2 hz r2 hk q3 => ?_)
        obtain ⟨s, rfl⟩ := hk.mp rfl
        cases y <;> try (cases hz; done)
        obtain ⟨rfl, o1⟩ := z1.str_inv
        obtain ⟨rfl, o2⟩ := z2.str_inv
        cases hz
        exact ⟨_, _, rfl, q3 _ _ _ _ e (q7' o1 o2) r2⟩
      | false =>
        refine .inr (body _ fun x y u v H2 F2 T2 ds ρ2 e z1 z2 hz r2 hk q3 => ?_)
        obtain ⟨fp, f, _⟩ := r2.fp
        cases x <;> cases y <;> try (cases hz; done)
        . exact absurd (hk.mpr ⟨_, rfl⟩) Bool.false_ne_true
        . obtain ⟨a1, vs, rfl, ha, za⟩ := z1.tup_inv
          obtain ⟨b1, ws, rfl, hb, zb⟩ := z2.tup_inv
          cases hz
          exact ⟨a1, b1, vs, ws, rfl, .inr ⟨seqT f.low ha, seqT f.low hb, q3 _ _ _ _ e (q6' ha za hb zb) r2⟩⟩
        . obtain ⟨a1, vs, rfl, ha, za⟩ := z1.lst_inv
          obtain ⟨b1, ws, rfl, hb, zb⟩ := z2.lst_inv
          cases hz
          exact ⟨a1, b1, vs, ws, rfl, .inl ⟨SqL.of (f.low _ _ ha), SqL.of (f.low _ _ hb), q3 _ _ _ _ e (q8' ha za hb zb) r2⟩⟩
    cases em : ma ρ with
    | ok x ρ1 =>
      by_cases hx : ∃ s, x = .str s
      . exact fin true fun x' ρ1' e y ρ2 _ => by rw [em] at e; cases e; exact ⟨fun _ => hx, fun _ => rfl⟩
      . exact fin false fun x' ρ1' e y ρ2 _ => by rw [em] at e; cases e; exact ⟨fun z => (nomatch z), fun z => absurd z hx⟩
    | exc x ρ1 => exact fin true fun x' ρ1' e => by rw [em] at e; cases e
    | bad => exact fin true fun x' ρ1' e => by rw [em] at e; cases e
end
end S
namespace S
open PySem PySem.Spec PyProof.Rows L2
variable [Wd] [Hot]
section
variable {K : PySem.W.Frag} {F F' H H' : Hp} {T T' : List Addr} {fp fq fr : Fp} {ρ : M.PSt} {σ : St} {W : WX}
theorem dS' {i : Nat} {x : Option V} : ∀ (is : List Nat) (σ : St), (wipe (σ.set i x) is).set i none = (wipe σ is).set i none
  | [], σ => by show (σ.set i x).set i none = σ.set i none; rw [List.set_set]
  | k :: is, σ => by
    show ((wipe (σ.set i x) is).set k none).set i none = ((wipe σ is).set k none).set i none
    by_cases h : k = i
    . subst h
      rw [List.set_set, List.set_set, dS' is σ]
    . rw [List.set_comm _ _ h, dS' is σ, List.set_comm _ _ h]
theorem FzA.cons_inv {vs : List V} {d : M.D} {ds : List M.D} (h : FzA K F T vs (d :: ds)) : ∃ v r, vs = v :: r /\ Fz K F T v d /\ FzA K F T r ds := by
  cases h with
  | cons a b => exact ⟨_, _, rfl, a, b⟩
theorem RpA.of_fz : ∀ {vs : List V} {ds : List M.D}, FzA K F T vs ds -> RpA K F T vs (ds.map .fz) []
  | _, _, .nil => .nil
  | _, _, .cons z r => RpA.cons (fp := []) (fq := []) (.fz z) (RpA.of_fz r)
def qG (K : PySem.W.Frag) (sl : List Nat) (m : M.MG) : TG := fun v σ H Q => ∃ ρ F T fr d ρ', Rel K ρ σ H F T fr /\ Fz K F T v d /\ m d ρ = some ρ' /\ ∀ σ', wipe σ' sl = wipe σ sl -> Rel K ρ' σ' H F T fr -> Q σ' H
def qGs (K : PySem.W.Frag) (is : List Nat) : TGs := fun vs σ H Q => ∃ ρ F T fr ds ρ', Rel K ρ σ H F T fr /\ FzA K F T vs ds /\ M.gNs is ds ρ = some ρ' /\ ∀ σ', wipe σ' is = wipe σ is -> Rel K ρ' σ' H F T fr -> Q σ' H
abbrev SG (X : Cx) (tg : Expr) (sl : List Nat) (m : M.MG) : Prop := PG X tg (qG X.K sl m)
abbrev SGs (X : Cx) (ts : List Expr) (is : List Nat) : Prop := PGs X ts (qGs X.K is)
theorem PG.imp {X : Cx} {tg : Expr} {t t' : TG} (h : PG X tg t) (i : ∀ v σ H Q, t' v σ H Q -> t v σ H Q) : PG X tg t' := ⟨fun pins s σ H v u Q I r q => h.run pins s σ H v u Q I r (i v σ H Q q)⟩
theorem PGs.imp {X : Cx} {tg : List Expr} {t t' : TGs} (h : PGs X tg t) (i : ∀ v σ H Q, t' v σ H Q -> t v σ H Q) : PGs X tg t' := ⟨fun pins s σ H v u Q I r q => h.run pins s σ H v u Q I r (i v σ H Q q)⟩
theorem Rel.put (rel : Rel K ρ σ H F T fr) {i : Nat} (hi : i < ρ.env.length) {v : V} {o : M.O} {f2 fr' : Fp} (q : Rp K F T v o f2) (p : Part (f2 ++ fr') fr) : Rel K ⟨ρ.env.set i (some o), ρ.w⟩ (σ.set i (some v)) H F T fr' := by
  obtain ⟨fe, fw, re, rw, f⟩ := rel
  obtain ⟨fq, h1, h2⟩ := re.put hi q
  refine ⟨fq, fw, h1, rw, f.part ?_⟩
  have p1 : Part (fq ++ (fw ++ fr')) ((fe ++ f2) ++ (fw ++ fr')) := .app h2 .refl
  refine p1.trans ?_
  refine Part.trans (b := fe ++ (fw ++ (f2 ++ fr'))) ?_ (.app .refl (.app .refl p))
  constructor
  . intro e h
    simp only [List.mem_append] at *
    grind
  . intro x
    simp only [keys, List.map_append, List.count_append] at *
    omega
theorem Part.nilL {a : Fp} : Part ([] ++ a) a := ⟨fun _ h => h, fun _ => Nat.le_refl _⟩
theorem ff' {X : Cx} {pos : Pos} {x : Str} (i : Nat) (hN : X.N.Nodup) (hi : X.N[i]? = some x) (hx : Loc X.env.scope x) (hf : X.fn x = true \/ X.env.scope.names.lookup x = some .local) : SG X (.Name x pos) [i] (M.gN i) :=
  PG.imp (pg_name hN hi hx hf) fun v σ H Q ⟨ρ, F, T, fr, d, ρ', rel, z, e, q⟩ => by
    unfold M.gN at e
    split at e
    . rename_i hl
      cases e
      refine q _ ?_ (rel.put hl (.fz z) .nilL)
      show (σ.set i (some v)).set i none = σ.set i none
      rw [List.set_set]
    . cases e
theorem ml' {X : Cx} : SGs X [] [] := PGs.imp pgs_nil fun vs σ H Q ⟨ρ, F, T, fr, ds, ρ', rel, z, e, q⟩ => by
  cases ds with
  | nil =>
    cases z
    cases e
    exact ⟨rfl, q _ rfl rel⟩
  | cons d ds => cases e
theorem cJ' {X : Cx} {e : Expr} {es : List Expr} {i : Nat} {is : List Nat} (hs : (assignEach (e :: es) X.env).map (·.2) = assign e X.env :: (assignEach es X.env).map (·.2)) (h1 : SG X e [i] (M.gN i)) (h2 : SGs X es is) : SGs X (e :: es) (i :: is) :=
  PGs.imp (pgs_cons h1 h2 hs) fun vs σ H Q ⟨ρ, F, T, fr, ds, ρ', rel, z, e, q⟩ => by
    cases ds with
    | nil => cases e
    | cons d ds =>
      obtain ⟨v, r, rfl, z, zs⟩ := z.cons_inv
      . cases e1 : M.gN i d ρ with
        | none => simp only [M.gNs, e1] at e; cases e
        | some ρ1 =>
          simp only [M.gNs, e1, Option.bind_some] at e
          refine ⟨v, r, rfl, ρ, F, T, fr, d, ρ1, rel, z, e1, fun σ1 w1 r1 => ⟨ρ1, F, T, fr, ds, ρ', r1, zs, e, fun σ2 w2 r2 => q σ2 ?_ r2⟩⟩
          show (wipe σ2 is).set i none = (wipe σ is).set i none
          rw [w2]
          have w1' : σ1.set i none = σ.set i none := w1
          rw [<- dS' (x := none) is σ1, w1', dS' is σ]
theorem wZ' {X : Cx} {es : List Expr} {k} {pos : Pos} {n : Nat} {is : List Nat} (hc : X.calm = true) (hn : (assignEach es X.env).length = n) (hst : (assignEach es X.env).findIdx? (·.1) = none) (hl : is.length = n) (h : SGs X es is) : SG X (.Tuple es k pos) is (M.gT is) :=
  PG.imp (pg_tup hc h hn hst) fun v σ H Q ⟨ρ, F, T, fr, d, ρ', rel, z, e, q⟩ => by
    cases d with
    | tup ds =>
      obtain ⟨a, vs, rfl, ha, za⟩ := z.tup_inv
      obtain ⟨fp, f, _⟩ := rel.fp
      refine ⟨a, vs, rfl, seqT f.low ha, ?_, ρ, F, T, fr, ds, ρ', rel, za, e, q⟩
      rw [za.length, <- hl]
      have : ∀ (is : List Nat) (ds : List M.D) (ρ ρ' : M.PSt), M.gNs is ds ρ = some ρ' -> ds.length = is.length := by
        intro is
        induction is with
        | nil => intro ds ρ ρ' h; cases ds with | nil => rfl | cons d ds => cases h
        | cons i is ih =>
          intro ds ρ ρ' h
          cases ds with
          | nil => cases h
          | cons d ds =>
            cases e1 : M.gN i d ρ with
            | none => simp only [M.gNs, e1] at h; cases h
            | some ρ1 =>
              simp only [M.gNs, e1, Option.bind_some] at h
              exact congrArg (· + 1) (ih ds ρ1 ρ' h)
      exact this is ds ρ ρ' e
    | _ => cases e
theorem RpE.wiped {env : List (Option M.O)} (r : RpE K F T σ env fp) : ∀ is : List Nat, ∃ fq, RpE K F T (wipe σ is) (M.a5' is env) fq /\ Part fq fp
  | [] => ⟨fp, r, .refl⟩
  | i :: is => by
    obtain ⟨fq, h1, h2⟩ := r.wiped is
    obtain ⟨fq2, h3, h4⟩ := h1.drop i none
    exact ⟨fq2, h3, h4.trans h2⟩
theorem fA' {σ : St} : ∀ {is : List Nat} {j : Nat}, j ∉ is -> (wipe σ is)[j]? = σ[j]?
  | [], _, _ => rfl
  | i :: is, j, h => by
    have h' : j ≠ i /\ j ∉ is := by simpa using h
    show ((wipe σ is).set i none)[j]? = _
    rw [List.getElem?_set_ne (Ne.symm h'.1), fA' h'.2]
theorem hL' {σ : St} : ∀ {is : List Nat} {j : Nat}, j ∈ is -> j < σ.length -> (wipe σ is)[j]? = some none
  | i :: is, j, h, hl => by
    show ((wipe σ is).set i none)[j]? = _
    by_cases e : i = j
    . subst e
      rw [List.getElem?_set_self (by rw [wipe_length]; exact hl)]
    . rw [List.getElem?_set_ne e]
      refine hL' ?_ hl
      rcases List.mem_cons.mp h with h | h
      . exact absurd h.symm e
      . exact h
theorem k0' {σ : St} (is : List Nat) : wipe (wipe σ is) is = wipe σ is := by
  refine List.ext_getElem? fun j => ?_
  by_cases h : j ∈ is
  . by_cases hl : j < σ.length
    . rw [hL' h hl, hL' h (by rw [wipe_length]; exact hl)]
    . rw [List.getElem?_eq_none (by rw [wipe_length, wipe_length]; omega), List.getElem?_eq_none (by rw [wipe_length]; omega)]
  . rw [fA' h]
theorem e7' {env : List (Option M.O)} : ∀ {is : List Nat} {j : Nat} {o : M.O}, (M.a5' is env)[j]? = some (some o) -> j ∉ is
  | [], _, _, _ => by simp
  | i :: is, j, o, h => by
    have h : ((M.a5' is env).set i none)[j]? = some (some o) := h
    by_cases hj : i = j
    . subst hj
      by_cases hl : i < (M.a5' is env).length
      . rw [List.getElem?_set_self hl] at h; cases h
      . rw [List.getElem?_eq_none (by simpa using hl)] at h; cases h
    . rw [List.getElem?_set_ne hj] at h
      have := e7' h
      simp only [List.mem_cons, not_or]
      exact ⟨Ne.symm hj, this⟩
theorem RpE.other {env : List (Option M.O)} {σ' : St} (r : RpE K F T σ env fp) (hl : σ'.length = σ.length) (h : ∀ (j : Nat) (o : M.O), env[j]? = some (some o) -> σ'[j]? = σ[j]?) : RpE K F T σ' env fp := by
  induction r generalizing σ' with
  | nil =>
    cases σ' with
    | nil => exact .nil
    | cons _ _ => cases hl
  | off r ih =>
    cases σ' with
    | nil => cases hl
    | cons y σ' => exact .off (ih (Nat.succ.inj hl) fun j o e => h (j + 1) o e)
  | on q r ih =>
    cases σ' with
    | nil => cases hl
    | cons y σ' =>
      have e : y = _ := Option.some.inj (h 0 _ rfl)
      subst e
      exact .on q (ih (Nat.succ.inj hl) fun j o e => h (j + 1) o e)
  | hot hh z r ih =>
    cases σ' with
    | nil => cases hl
    | cons y σ' =>
      have e : y = _ := Option.some.inj (h 0 _ rfl)
      subst e
      exact .hot hh z (ih (Nat.succ.inj hl) fun j o e => h (j + 1) o e)
  | clo hh z r ih =>
    cases σ' with
    | nil => cases hl
    | cons y σ' =>
      have e : y = _ := Option.some.inj (h 0 _ rfl)
      subst e
      exact .clo hh z (ih (Nat.succ.inj hl) fun j o e => h (j + 1) o e)
theorem RpE.backed {env0 : List (Option M.O)} (h0 : ∀ (i : Nat) (d : M.D), env0[i]? = some (some (M.O.fz d)) -> ∃ v, σ[i]? = some (some v) /\ Fz K F T v d) : ∀ (is : List Nat) {env : List (Option M.O)} {fp : Fp}, RpE K F T σ env fp -> ∃ fq, RpE K F T σ (M.back env0 is env) fq /\ Part fq fp
  | [], env, fp, r => ⟨fp, r, .refl⟩
  | i :: is, env, fp, r => by
    obtain ⟨fq, h1, h2⟩ := RpE.backed h0 is r
    unfold M.back
    split
    . rename_i d e
      obtain ⟨v, hv, z⟩ := h0 i d e
      obtain ⟨f2, h3, h4⟩ := h1.put0 hv (.fz z)
      refine ⟨f2, h3, h4.trans ?_⟩
      rw [List.append_nil]
      exact h2
    . obtain ⟨f2, h3, h4⟩ := h1.drop0 i
      exact ⟨f2, h3, h4.trans h2⟩
theorem RpE.data {env : List (Option M.O)} (r : RpE K F T σ env fp) {i : Nat} {d : M.D} (h : env[i]? = some (some (.fz d))) : ∃ v, σ[i]? = some (some v) /\ Fz K F T v d := by
  obtain ⟨v, f1, f2, f3, h1, _, h3, _⟩ := r.get h
  cases h3 with
  | fz z => exact ⟨v, h1, z⟩
abbrev W0 : WX := fun _ _ _ _ => False
theorem a0'.noX {α : Type} {r : M.Res α} {P : α -> M.PSt -> Prop} {Y Y' : Wx} (h : a0' (M.noX r) P Y) : a0' r P Y' := by
  cases r with
  | ok a ρ => exact h
  | exc x ρ => exact h.elim
  | bad => exact h
def uG' (K : PySem.W.Frag) (sl : List Nat) (g : M.MG) (t : M.MT) (e : M.ME) (ds : List M.D) (σ : St) (D : Addr) (fr : Fp) (F1 : Hp) (T1 : List Addr) (P : List M.D -> M.PSt -> Prop) (Y : Wx) (i : Nat) (H : Hp) : Prop :=
  i <= ds.length /\ ∃ ρ' F' T' acc vacc, Ext F1 T1 F' T' /\ FzA K F' T' vacc acc /\ Rel K ⟨M.a5' sl ρ'.env, ρ'.w⟩ (wipe σ sl) H F' T' ((D, .lst vacc) :: fr) /\ a0' (M.lcL sl g t e (ds.drop i) acc ρ') P Y
theorem Rel.wiped (r : Rel K ρ σ H F T fr) (is : List Nat) : Rel K ⟨M.a5' is ρ.env, ρ.w⟩ (wipe σ is) H F T fr := by
  obtain ⟨fe, fw, re, rw, f⟩ := r
  obtain ⟨fq, h1, h2⟩ := re.wiped is
  exact ⟨fq, fw, h1, rw, f.part (.app h2 .refl)⟩
theorem Rel.own (r : Rel K ρ σ H F T fr) {p : Addr} {o : HO} (hp : H p = none) : Rel K ρ σ (upd H p o) F T ((p, o) :: fr) := by
  obtain ⟨fe, fw, re, rw, f⟩ := r
  refine ⟨fe, fw, re, rw, (f.own hp).part ?_⟩
  constructor
  . intro e h
    simp only [List.mem_append, List.mem_cons] at *
    grind
  . intro x
    simp only [keys, List.map_append, List.map_cons, List.count_append, List.count_cons] at *
    omega
theorem Rel.at_ (r : Rel K ρ σ H F T fr) {e : Addr × HO} (h : e ∈ fr) : H e.1 = some e.2 := by
  obtain ⟨fe, fw, re, rw, f⟩ := r
  exact (f.at_ e (List.mem_append_right _ (List.mem_append_right _ h))).1
theorem Rel.write {p : Addr} {o o' : HO} (r : Rel K ρ σ H F T ((p, o) :: fr)) : Rel K ρ σ (upd H p o') F T ((p, o') :: fr) := by
  obtain ⟨fe, fw, re, rw, f⟩ := r
  have f' : FpH F H ((fe ++ fw) ++ ((p, o) :: fr)) := by rw [List.append_assoc]; exact f
  refine ⟨fe, fw, re, rw, ?_⟩
  have := f'.write (o' := o')
  rw [List.append_assoc] at this
  exact this
theorem na' {sl : List Nat} {it : M.MI} {g : M.MG} {t : M.MT} {e : M.ME} {Q : VK} (h : qO K W (M.oLc sl it g t e) σ H Q) : tLc (qI K W it) (qG K sl g) (qT K W0 t) (qE K W0 e) sl σ H Q := by
  obtain ⟨ρ, F, T, fr, rel, h⟩ := h
  refine ⟨ρ, F, T, fr, rel, (a0'.bind h).mono (fun ds ρ1 h1 J H1 F1 T1 e1 io r1 => ?_) fun _ _ z => z⟩
  intro D hD
  have h2 := a0'.bind h1
  -- the loop's word
  refine ⟨fun i m H => m = ds.length - i /\ uG' K sl g t e ds σ D fr F1 T1 _ _ i H, ⟨ds.length, by simp, Nat.zero_le _, ρ1, F1, T1, [], [], .refl, .nil, (r1.wiped sl).own hD, h2⟩, ?_⟩
  rintro i m H2 ⟨rfl, hi, ρ2, F2, T2, acc, vacc, e2, za, r2, h3⟩
  have hH : H2 D = some (.lst vacc) := r2.at_ (e := (D, .lst vacc)) List.mem_cons_self
  obtain ⟨fp2, f2, _⟩ := r2.fp
  by_cases hl : i = ds.length
  . refine .inl ⟨(io F2 T2 H2 fp2 i e2 f2 hi).1 hl, ?_⟩
    rw [hl, List.drop_length] at h3
    have h4 : a0' (M.lcL sl g t e [] acc ρ2) _ _ := h3
    unfold M.lcL at h4
    have h5 := h4
    refine h5 (.ref D) H2 F2 T2 ((D, .lst vacc) :: []) (e1.trans e2) ?_ ?_
    . exact .lst (RpA.of_fz za)
    . obtain ⟨fe, fw, re, rw, f⟩ := r2
      have re1 : RpE K F2 T2 σ (M.a5' sl ρ2.env) fe := by
        refine re.other ?_ fun j o hj => (fA' (e7' hj)).symm
        rw [wipe_length]
      obtain ⟨fe0, fw0, re0, rw0, f0⟩ := r1
      obtain ⟨fq, h6, h7⟩ := RpE.backed (env0 := ρ1.env) (fun i d hd => by
        obtain ⟨v, hv, z⟩ := re0.data hd
        exact ⟨v, hv, z.mono e2⟩) sl re1
      exact ⟨fq, fw, h6, rw, f.part (.app h7 .refl)⟩
  . have hlt : i < ds.length := by omega
    have hd : ds[i]? = some ds[i] := List.getElem?_eq_getElem hlt
    obtain ⟨go, yl⟩ := (io F2 T2 H2 fp2 i e2 f2 hi).2 _ hd
    refine .inr ⟨go, uG' K sl g t e ds σ D fr F1 T1 _ _ (i + 1), fun H' n => ⟨ds.length - (i + 1), by omega, rfl, n⟩, fun x H3 y => ?_⟩
    obtain ⟨fe, fw, re, rw, f⟩ := id r2
    obtain ⟨yg, yh⟩ := (io F2 T2 H2 _ i e2 f hi).2 _ hd
    obtain ⟨F3, s3, zx, f3⟩ := yh x H3 y
    have r3 : Rel K ⟨M.a5' sl ρ2.env, ρ2.w⟩ (wipe σ sl) H3 F3 T2 ((D, .lst vacc) :: fr) := ⟨fe, fw, re.mono (.of s3), rw.mono (.of s3), f3⟩
    rw [List.drop_eq_getElem_cons hlt] at h3
    unfold M.lcL at h3
    cases eg : g ds[i] ⟨M.a5' sl ρ2.env, ρ2.w⟩ with
    | none => rw [eg] at h3; exact h3.elim
    | some ρ3 =>
      rw [eg] at h3
      refine ⟨_, F3, T2, _, ds[i], ρ3, r3, zx, eg, fun σ4 w4 r4 => ?_⟩
      rw [k0'] at w4
      refine ⟨w4, ?_⟩
      have h4 := a0'.bind h3
      refine ⟨ρ3, F3, T2, _, r4, (a0'.noX h4).mono (fun b ρ5 h5 H5 F5 T5 e5 r5 => ?_) fun _ _ z => z⟩
      cases b with
      | false =>
        rw [if_neg Bool.false_ne_true]
        refine ⟨hlt, ρ5, F5, T5, acc, vacc, e2.trans ((Ext.of s3).trans e5), (za.mono (.of s3)).mono e5, ?_, h5⟩
        rw [<- w4]
        exact r5.wiped sl
      | true =>
        rw [if_pos rfl] at h5 ⊢
        have h6 := a0'.bind h5
        refine ⟨ρ5, F5, T5, _, r5, (a0'.noX h6).mono (fun d ρ6 h7 y6 H6 F6 T6 e6 z6 r6 => ?_) fun _ _ z => z⟩
        split at h7
        . rename_i hacc
          have hH6 : H6 D = some (.lst vacc) := r6.at_ (e := (D, .lst vacc)) List.mem_cons_self
          refine ⟨vacc, hH6, by rw [bw', za.length]; exact hacc, hlt, ρ6, F6, T6, acc ++ [d], vacc ++ [y6], e2.trans ((Ext.of s3).trans (e5.trans e6)), (((za.mono (.of s3)).mono e5).mono e6).append (.cons z6 .nil), ?_, h7⟩
          rw [<- w4]
          exact (r6.wiped sl).write
        . exact h7.elim
end
section
variable {X : Cx} {W : WX} {pos : Pos} {elt tg iter : Expr} {ifs : List Expr} {scope : Scope} {own : List (Str × Nat)} {sl : List Nat} {it : M.MI} {g : M.MG} {t : M.MT} {e : M.ME}
theorem dV' {X : Cx} {W : WX} : PTs X [] (qT X.K W M.tT) := ⟨fun _ _ _ H Q I ⟨ρ, F, T, fr, rel, h⟩ => wpAny_tests_nil ⟨H, I, h _ _ _ .refl rel⟩⟩
theorem fF' {X : Cx} {W : WX} {c : Expr} {m : M.MT} (h : ST X W c m) : PTs X [c] (qT X.K W m) := pts_one h
theorem vr' (hc : X.calm = true) (hN : X.N.Nodup) (hi : SI X W tg iter it) (ok : BlkOk X.N X.env.scope scope own) (hsl : sl = own.map (·.2))
    (hg : ∀ (s : Shared) (H : Hp) (C : Addr) (cl : List (Str × Addr)) (fp : List Addr), SG (X.blk s H scope (compEnvC scope cl C X.env) fp) tg sl g) (ht : ∀ (s : Shared) (H : Hp) (C : Addr) (cl : List (Str × Addr)) (fp : List Addr), PTs (X.blk s H scope (compEnvC scope cl C X.env) fp) ifs (qT X.K W0 t))
    (he : ∀ (s : Shared) (H : Hp) (C : Addr) (cl : List (Str × Addr)) (fp : List Addr), SE (X.blk s H scope (compEnvC scope cl C X.env) fp) W0 elt e) (hs : ∀ x, foldedSetIterable iter X.env x = pure x := by intro _; rfl) :
    SO X W (.ListComp elt [⟨tg, iter, ifs, 0⟩] scope pos) (M.oLc sl it g t e) := by
  subst hsl
  exact PE.imp (pe_lc hc hN hi ok hg ht he hs) fun σ H Q h => na' h
theorem s7' {K : PySem.W.Frag} {m : M.MO} {σ : St} {H : Hp} {Q : VK} (h : qE K W (M.eO m) σ H Q) : qO K W m σ H Q := by
  obtain ⟨ρ, F, T, fr, rel, h⟩ := h
  refine ⟨ρ, F, T, fr, rel, (a0'.bind h).mono (fun o ρ1 h1 v H1 F1 T1 fp e1 z1 r1 => ?_) fun _ _ z => z⟩
  obtain ⟨G, s, z, r⟩ := r1.frozen z1
  exact h1 v H1 G T1 (e1.trans (.of s)) z r
theorem co' {a : Expr} {m : M.MO} (h : SO X W a m) : SE X W a (M.eO m) := PE.imp h fun σ H Q h => s7' h
theorem a7' {a : Expr} {m : M.ME} (h : SE X W a m) : SO X W a (M.oE m) := PE.imp h fun σ H Q ⟨ρ, F, T, fr, rel, h⟩ => aw' rel h fun d ρ1 v H1 F1 T1 e1 z1 r1 h1 => h1 v H1 F1 T1 [] e1 (.fz z1) r1
theorem tu' (xs : List M.D) : M.frz (.lst (xs.map .fz)) = .lst xs := by
  show M.D.lst (M.frzs _) = _
  rw [M.no']
theorem n8' (hc : X.calm = true) (hN : X.N.Nodup) (hi : SI X W tg iter it) (ok : BlkOk X.N X.env.scope scope own) (hsl : sl = own.map (·.2))
    (hg : ∀ (s : Shared) (H : Hp) (C : Addr) (cl : List (Str × Addr)) (fp : List Addr), SG (X.blk s H scope (compEnvC scope cl C X.env) fp) tg sl g) (ht : ∀ (s : Shared) (H : Hp) (C : Addr) (cl : List (Str × Addr)) (fp : List Addr), PTs (X.blk s H scope (compEnvC scope cl C X.env) fp) ifs (qT X.K W0 t))
    (he : ∀ (s : Shared) (H : Hp) (C : Addr) (cl : List (Str × Addr)) (fp : List Addr), SE (X.blk s H scope (compEnvC scope cl C X.env) fp) W0 elt e) (hs : ∀ x, foldedSetIterable iter X.env x = pure x := by intro _; rfl) :
    SE X W (.ListComp elt [⟨tg, iter, ifs, 0⟩] scope pos) (M.eLc sl it g t e) := by
  have h := co' (vr' (pos := pos) hc hN hi ok hsl hg ht he hs)
  have eq : M.eO (M.oLc sl it g t e) = M.eLc sl it g t e := by
    funext ρ
    show ((it ρ).bind fun xs ρ1 => _).bind _ = (it ρ).bind _
    cases it ρ with
    | bad => rfl
    | exc x ρ1 => rfl
    | ok xs ρ1 =>
      show ((M.lcL sl g t e xs [] ρ1).bind _).bind _ = (M.lcL sl g t e xs [] ρ1).bind _
      cases M.lcL sl g t e xs [] ρ1 with
      | bad => rfl
      | exc x ρ2 => rfl
      | ok ys ρ2 =>
        show M.Res.ok (M.frz (.lst (ys.map .fz))) _ = M.Res.ok (M.D.lst ys) _
        rw [tu']
  rw [eq] at h
  exact h
end
end S
namespace S
open PySem PySem.Spec PyProof.Rows L2
variable [Wd] [Hot]
section
variable {K : PySem.W.Frag} {F F' H H' : Hp} {T T' : List Addr} {fp fq fr : Fp} {ρ : M.PSt} {σ : St} {W : WX} {D : Ends} {Q : VK}
theorem bh'.mono {r : M.Out} (h : bh' K W D F T fr r) (e : Ext F T F' T') : bh' K W D F' T' fr r := by
  cases r with
  | nx ρ => exact fun σ' H' F2 T2 e2 => h σ' H' F2 T2 (e.trans e2)
  | bk ρ => exact fun σ' H' F2 T2 e2 => h σ' H' F2 T2 (e.trans e2)
  | ct ρ => exact fun σ' H' F2 T2 e2 => h σ' H' F2 T2 (e.trans e2)
  | rt o w => exact fun v H' F2 T2 fp e2 => h v H' F2 T2 fp (e.trans e2)
  | exc x ρ => exact fun σ' cls dd H' F2 T2 e2 => h σ' cls dd H' F2 T2 (e.trans e2)
  | bad => exact h
theorem bh'.imp {r : M.Out} {D' : Ends} {W' : WX} (h : bh' K W D F T fr r) (h1 : ∀ σ H, D.nx σ H -> D'.nx σ H) (h2 : ∀ σ H, D.bk σ H -> D'.bk σ H) (h3 : ∀ σ H, D.ct σ H -> D'.ct σ H) (h4 : ∀ v H, D.rt v H -> D'.rt v H) (h5 : ∀ c d σ H, W c d σ H -> W' c d σ H) : bh' K W' D' F T fr r := by
  cases r with
  | nx ρ => exact fun σ' H' F2 T2 e2 r => h1 _ _ (h σ' H' F2 T2 e2 r)
  | bk ρ => exact fun σ' H' F2 T2 e2 r => h2 _ _ (h σ' H' F2 T2 e2 r)
  | ct ρ => exact fun σ' H' F2 T2 e2 r => h3 _ _ (h σ' H' F2 T2 e2 r)
  | rt o w => exact fun v H' F2 T2 fp e2 z r => h4 _ _ (h v H' F2 T2 fp e2 z r)
  | exc x ρ => exact fun σ' cls dd H' F2 T2 e2 z r => h5 _ _ _ _ (h σ' cls dd H' F2 T2 e2 z r)
  | bad => exact h
theorem cR' {α : Type} {r : M.Res α} {f : α -> M.PSt -> M.Out} (h : bh' K W D F T fr (r.out f)) : a0' r (fun a ρ' => bh' K W D F T fr (f a ρ')) (EX K W σ F T fr) := by
  cases r with
  | ok a ρ => exact h
  | exc x ρ => exact fun cls dd H' F' T' e z r => h σ cls dd H' F' T' e z r
  | bad => exact h
theorem ef' {m : M.ME} {k : M.D -> M.PSt -> M.Out} (rel : Rel K ρ σ H F T fr) (h : bh' K W D F T fr ((m ρ).out k))
    (q : ∀ d ρ1 v H1 F1 T1, Ext F T F1 T1 -> Fz K F1 T1 v d -> Rel K ρ1 σ H1 F1 T1 fr -> bh' K W D F1 T1 fr (k d ρ1) -> Q v H1) : qE K W m σ H Q :=
  ⟨ρ, F, T, fr, rel, (cR' h).mono (fun d ρ1 h1 v H1 F1 T1 e z r => q d ρ1 v H1 F1 T1 e z r (h1.mono e)) fun _ _ z => z⟩
theorem ee' {m : M.MO} {k : M.O -> M.PSt -> M.Out} (rel : Rel K ρ σ H F T fr) (h : bh' K W D F T fr ((m ρ).out k))
    (q : ∀ o ρ1 v H1 F1 T1 fp, Ext F T F1 T1 -> Rp K F1 T1 v o fp -> Rel K ρ1 σ H1 F1 T1 (fp ++ fr) -> bh' K W D F1 T1 fr (k o ρ1) -> Q v H1) : qO K W m σ H Q :=
  ⟨ρ, F, T, fr, rel, (cR' h).mono (fun d ρ1 h1 v H1 F1 T1 fp e z r => q d ρ1 v H1 F1 T1 fp e z r (h1.mono e)) fun _ _ z => z⟩
theorem qC' {m : M.MT} {k : Bool -> M.PSt -> M.Out} {Q : Bool -> Hp -> Prop} (rel : Rel K ρ σ H F T fr) (h : bh' K W D F T fr ((m ρ).out k))
    (q : ∀ b ρ1 H1 F1 T1, Ext F T F1 T1 -> Rel K ρ1 σ H1 F1 T1 fr -> bh' K W D F1 T1 fr (k b ρ1) -> Q b H1) : qT K W m σ H Q :=
  ⟨ρ, F, T, fr, rel, (cR' h).mono (fun d ρ1 h1 H1 F1 T1 e r => q d ρ1 H1 F1 T1 e r (h1.mono e)) fun _ _ z => z⟩
theorem qD' {m : M.MI} {k : List M.D -> M.PSt -> M.Out} {R : It -> Hp -> Prop} (rel : Rel K ρ σ H F T fr) (h : bh' K W D F T fr ((m ρ).out k))
    (q : ∀ ds ρ1 J H1 F1 T1, Ext F T F1 T1 -> kw' K J ds F1 T1 -> Rel K ρ1 σ H1 F1 T1 fr -> bh' K W D F1 T1 fr (k ds ρ1) -> R J H1) : qI K W m σ H R :=
  ⟨ρ, F, T, fr, rel, (cR' h).mono (fun d ρ1 h1 J H1 F1 T1 e z r => q d ρ1 J H1 F1 T1 e z r (h1.mono e)) fun _ _ z => z⟩
theorem Rel.noenv (r : Rel K ρ σ H F T fr) : nR' K (ρ.w) H F T fr := by
  obtain ⟨fe, fw, re, rw, f⟩ := r
  exact ⟨[], fw, qU', rw, f.part (.app .nil .refl)⟩
end
section
variable {X : Cx} {W : WX} {pos : Pos} {a b c : Expr} {st : Stmt} {rest body : List Stmt} {ma mb : M.ME} {mo : M.MO} {mt : M.MT} {m1 m2 : M.MS} {D : Ends} {σ : St} {H : Hp}
theorem aJ' : SSs X W [] M.ba' := PSs.imp pss_nil fun D σ H ⟨ρ, F, T, fr, rel, h⟩ => h σ H F T .refl rel
theorem ag' (h : SS X W st m1) : SSs X W [st] m1 := pss_one h
theorem ab' (h1 : SS X W st m1) (h2 : SSs X W rest m2) : SSs X W (st :: rest) (M.aS' m1 m2) := PSs.imp (pss_cons h1 h2) fun D σ H ⟨ρ, F, T, fr, rel, h⟩ => by
  refine ⟨ρ, F, T, fr, rel, ?_⟩
  unfold M.aS' at h
  cases e : m1 ρ with
  | nx ρ1 => rw [e] at h; exact fun σ1 H1 F1 T1 e1 r1 => ⟨ρ1, F1, T1, fr, r1, bh'.mono h e1⟩
  | bk ρ1 => rw [e] at h; exact h
  | ct ρ1 => rw [e] at h; exact h
  | rt o w => rw [e] at h; exact h
  | exc x ρ1 => rw [e] at h; exact h
  | bad => rw [e] at h; exact h
theorem qx' (ha : SE X W a ma) (hs : swapsWith a none pos.line X.env = pure false := by rfl) : SS X W (.Expr a pos) (M.ms' ma) := PS.imp (ps_expr ha hs) fun D σ H ⟨ρ, F, T, fr, rel, h⟩ =>
  ef' rel h fun d ρ1 v H1 F1 T1 e1 z1 r1 h1 => h1 σ H1 F1 T1 .refl r1
theorem aF' (ha : SO X W a mo) : SS X W (.Return (some a) pos) (M.bR' mo) := PS.imp (ps_ret ha) fun D σ H ⟨ρ, F, T, fr, rel, h⟩ =>
  ee' rel h fun o ρ1 v H1 F1 T1 fp e1 z1 r1 h1 => h1 v H1 F1 T1 fp .refl z1 r1.noenv
theorem bb' (hc : ST X W c mt) (ha : SSs X W rest m1) (hb : SSs X W body m2) : SS X W (.If c rest body pos) (M.sIf mt m1 m2) := PS.imp (ps_if hc ha hb) fun D σ H ⟨ρ, F, T, fr, rel, h⟩ => by
  refine qC' rel h fun k ρ1 H1 F1 T1 e1 r1 h1 => ?_
  cases k with
  | true => rw [if_pos rfl] at h1 ⊢; exact ⟨ρ1, F1, T1, fr, r1, h1⟩
  | false => rw [if_neg Bool.false_ne_true] at h1 ⊢; exact ⟨ρ1, F1, T1, fr, r1, h1⟩
theorem ak' {i : Nat} {x : Str} {pos' : Pos} (hN : X.N.Nodup) (hi : X.N[i]? = some x) (hx : Loc X.env.scope x) (ha : SO X W a mo) (hs : swapsWith a (some (.Name x pos')) pos.line X.env = pure false := by rfl) (hf : X.fn x = true \/ X.env.scope.names.lookup x = some .local := by first | exact .inl rfl | exact .inr rfl | assumption) :
    SS X W (.Assign [.Name x pos'] a pos) (M.bj' i mo) := PS.imp (ps_set hN hi hx ha hs hf) fun D σ H ⟨ρ, F, T, fr, rel, h⟩ => by
  refine ee' rel h fun o ρ1 v H1 F1 T1 fp e1 z1 r1 h1 => ?_
  unfold M.uL' at h1
  split at h1
  . rename_i hl
    exact h1 _ H1 F1 T1 .refl (r1.put hl z1 .refl)
  . exact h1.elim
theorem fE' {i : Nat} {y : Str} {py : Pos} {elt tg iter : Expr} {ifs : List Expr} {scope : Scope} {own : List (Str × Nat)} {spos : Pos} {sl : List Nat} {it : M.MI} {g : M.MG} {t : M.MT} {e : M.ME} (hc : X.calm = true) (hN : X.N.Nodup) (hy : X.N[i]? = some y) (hyl : X.env.scope.names.lookup y = some .local)
    (hsw : swapsWith (.ListComp elt [⟨tg, iter, ifs, 0⟩] scope pos) (some (.Name y py)) spos.line X.env = pure true) (hi : SI X W tg iter it) (ok : BlkOk X.N X.env.scope scope own) (hsl : sl = own.map (·.2))
    (hg : ∀ (s : Shared) (H : Hp) (C : Addr) (cl : List (Str × Addr)) (fp : List Addr), SG (X.blk s H scope (compEnvC scope cl C X.env) fp) tg sl g) (ht : ∀ (s : Shared) (H : Hp) (C : Addr) (cl : List (Str × Addr)) (fp : List Addr), PTs (X.blk s H scope (compEnvC scope cl C X.env) fp) ifs (qT X.K W0 t))
    (he : ∀ (s : Shared) (H : Hp) (C : Addr) (cl : List (Str × Addr)) (fp : List Addr), SE (X.blk s H scope (compEnvC scope cl C X.env) fp) W0 elt e) (hs : ∀ x, foldedSetIterable iter X.env x = pure x := by intro _; rfl) :
    SS X W (.Assign [.Name y py] (.ListComp elt [⟨tg, iter, ifs, 0⟩] scope pos) spos) (M.bj' i (M.oLc sl it g t e)) := by
  subst hsl
  refine PS.imp (ps_setLc (g := qG X.K (own.map (·.2)) g) (tt := qT X.K W0 t) (te := qE X.K W0 e) hc hN hy hyl hsw hi ok hg ht he hs) fun D σ H ⟨ρ, F, T, fr, rel, h⟩ => ?_
  show tLc (qI X.K W it) (qG X.K (own.map (·.2)) g) (qT X.K W0 t) (qE X.K W0 e) (own.map (·.2)) σ H fun x H1 => gName i x σ H1 D.nx
  refine na' (W := W) (ee' (D := D) rel h fun o ρ1 v H1 F1 T1 fp e1 z1 r1 h1 => ?_)
  unfold M.uL' at h1
  split at h1
  . rename_i hl
    exact h1 _ H1 F1 T1 .refl (r1.put hl z1 .refl)
  . exact h1.elim
theorem sG' {tg : Expr} {sl : List Nat} {g : M.MG} (ha : SE X W a ma) (hg : SG X tg sl g) (hs : swapsWithSole [tg] a pos.line X.env = pure false := by rfl) (hw : swappedStores [tg] a X.env = pure none := by rfl)
    (h1 : (assignEach [tg] X.env).map (·.2) = [assign tg X.env] := by rfl) : SS X W (.Assign [tg] a pos) (M.sP' g ma) := PS.imp (ps_asg ha hg hs hw h1) fun D σ H ⟨ρ, F, T, fr, rel, h⟩ => by
  refine ef' rel h fun d ρ1 v H1 F1 T1 e1 z1 r1 h1 => ?_
  cases e : g d ρ1 with
  | none => rw [e] at h1; exact h1.elim
  | some ρ2 =>
    rw [e] at h1
    exact ⟨ρ1, F1, T1, fr, d, ρ2, r1, z1, e, fun σ' _ r' => h1 σ' H1 F1 T1 .refl r'⟩
theorem RpA.app {K : PySem.W.Frag} {F : Hp} {T : List Addr} : ∀ {vs ws : List V} {os ps : List M.O} {fp fq : Fp}, RpA K F T vs os fp -> RpA K F T ws ps fq -> RpA K F T (vs ++ ws) (os ++ ps) (fp ++ fq)
  | _, _, _, _, _, _, .nil, h => h
  | _, _, _, _, _, _, .cons a r, h => by
    rw [List.append_assoc]
    exact .cons a (RpA.app r h)
theorem RpA.length {K : PySem.W.Frag} {F : Hp} {T : List Addr} : ∀ {vs : List V} {os : List M.O} {fp : Fp}, RpA K F T vs os fp -> vs.length = os.length
  | _, _, _, .nil => rfl
  | _, _, _, .cons _ r => congrArg (· + 1) (RpA.length r)
theorem Rel.slotW {K : PySem.W.Frag} {ρ : M.PSt} {F : Hp} {T : List Addr} {fr : Fp} {i : Nat} {p : Addr} {os : List M.O} (rel : Rel K ρ σ H F T fr) (e : ρ.env[i]? = some (some (.lst os))) (hp : σ[i]? = some (some (.ref p))) :
    ∃ vs f2, H p = some (.lst vs) /\ RpA K F T vs os f2 /\ ∀ vs' os' f2' fr', RpA K F T vs' os' f2' -> Part (f2' ++ fr') (f2 ++ fr) -> Rel K ⟨ρ.env.set i (some (.lst os')), ρ.w⟩ σ (upd H p (.lst vs')) F T fr' := by
  obtain ⟨fe, fw, re, rw, f⟩ := rel
  obtain ⟨v, f1, f2, f3, h1, rfl, h3, h4, h5⟩ := re.get e
  rw [h1] at hp
  cases hp
  cases h3 with
  | lst r =>
    rename_i vs0 fp0
    refine ⟨vs0, fp0, (f.at_ (p, .lst vs0) (by simp)).1, r, fun vs' os' f2' fr' r' pt => ?_⟩
    have e5 := h5 F T (.ref p) (.lst os') ((p, .lst vs') :: f2') .refl (.lst r')
    rw [dX' h1] at e5
    refine ⟨_, fw, e5, rw, ?_⟩
    have fA : FpH F H (f1 ++ ((p, .lst vs0) :: (f3 ++ (fw ++ (fp0 ++ fr))))) := f.part (by
      constructor
      . intro e h
        simp only [List.mem_append, List.mem_cons] at *
        grind
      . intro x
        simp only [keys, List.map_append, List.map_cons, List.count_append, List.count_cons] at *
        omega)
    have fB := fA.write (o' := .lst vs')
    refine fB.part (.trans (b := f1 ++ ((p, .lst vs') :: (f3 ++ (fw ++ (f2' ++ fr'))))) ?_ ?_)
    . constructor
      . intro e h
        simp only [List.mem_append, List.mem_cons] at *
        grind
      . intro x
        simp only [keys, List.map_append, List.map_cons, List.count_append, List.count_cons] at *
        omega
    . have := pt.m
      have := pt.c
      constructor
      . intro e h
        simp only [List.mem_append, List.mem_cons] at *
        grind
      . intro x
        have := pt.c x
        simp only [keys, List.map_append, List.map_cons, List.count_append, List.count_cons] at *
        omega
theorem mh' {i : Nat} {x : Str} {px apos cpos : Pos} (hv : PE X (.Name x px) (tVar i)) (ha : SO X W a mo)
    (hbase : attributeBase (.Name x px) "append" X.env (eval (.Name x px) X.env) = eval (.Name x px) X.env := by rfl)
    (hfew : ((backTo cpos (starEach [a] X.env)).all (fun x => !x.1) && (backToKw cpos (keywordEach [] X.env)).all (fun x => x.1.isSome)
      && decide ([a].length + ([] : List Keyword).length + (if ([] : List Keyword).isEmpty then 0 else 1) < 30)) = true := by rfl)
    (hline : (apos.endLine == cpos.line) = true := by rfl) (hs : starEach [a] X.env = (false, eval a X.env) :: starEach [] X.env := by rfl) (hplain : (backTo cpos (starEach [] X.env)).any (·.1) = false := by rfl)
    (hsw : swapsWith (.Call (.Attribute (.Name x px) "append" apos) [a] [] cpos) none pos.line X.env = pure false := by rfl) :
    SS X W (.Expr (.Call (.Attribute (.Name x px) "append" apos) [a] [] cpos) pos) (M.pH' i mo) :=
  PS.imp (ps_expr (pe_bm PySem.F.plainAttrs_list PySem.F.slot_list_append PySem.F.type_list_append mt_append hv (pa_cons ha pa_nil hs) hbase hfew hline hs hplain) hsw) fun D σ H ⟨ρ, F, T, fr, rel, h⟩ => by
    unfold M.pH' at h
    split at h
    . rename_i os0 e0
      obtain ⟨fe, fw, re, rw, ff⟩ := id rel
      obtain ⟨v, f1, f2, f3, h1, _, h3, _⟩ := re.get e0
      cases h3 with
      | @lst p vs0 _ fp0 r0 =>
        obtain ⟨vs1, f21, hH, _, _⟩ := rel.slotW e0 h1
        refine ⟨.ref p, h1, .inl ⟨rfl, vs1, SqL.of hH⟩, ee' rel h fun o ρ1 u H1 F1 T1 fp e1 z1 r1 h2 => ?_⟩
        split at h2
        . rename_i os e2
          split at h2
          . rename_i hl
            obtain ⟨vs, f2', hH2, r2, back⟩ := r1.slotW e2 h1
            refine ⟨p, vs, u, rfl, rfl, hH2, by rw [r2.length, bw']; exact hl, ?_⟩
            have z1' : RpA X.K F1 T1 [u] [o] (fp ++ []) := .cons z1 .nil
            exact h2 σ _ F1 T1 .refl (back _ _ _ fr (r2.app z1') (by
              constructor
              . intro e h
                simp only [List.mem_append, List.not_mem_nil] at *
                grind
              . intro x
                simp only [keys, List.map_append, List.map_nil, List.count_append, List.count_nil] at *
                omega))
          . exact h2.elim
        . exact h2.elim
    . exact h.elim
theorem oK' {K : PySem.W.Frag} {sl : List Nat} {it : M.MI} {g : M.MG} {b : M.MS} (h : qS K W (M.j1' it g b) D σ H) : tFor (qI K W it) (qG K sl g) (qS K W b) D σ H := by
  obtain ⟨ρ, F, T, fr, rel, h⟩ := h
  refine qD' rel h fun ds ρ1 J H1 F1 T1 e1 io r1 h1 => ?_
  refine ⟨fun i m σ2 H2 => m = ds.length - i /\ i <= ds.length /\ ∃ ρ2 F2 T2, Ext F1 T1 F2 T2 /\ Rel K ρ2 σ2 H2 F2 T2 fr /\ bh' K W D F2 T2 fr (M.ki' g b (ds.drop i) ρ2), ⟨ds.length, by simp, Nat.zero_le _, ρ1, F1, T1, .refl, r1, h1⟩, ?_⟩
  rintro i m σ2 H2 ⟨rfl, hi, ρ2, F2, T2, e2, r2, h2⟩
  obtain ⟨fe, fw, re, rw, f2⟩ := id r2
  obtain ⟨st, yl⟩ := io F2 T2 H2 _ i e2 f2 hi
  by_cases hl : i = ds.length
  . refine .inl ⟨st hl, ?_⟩
    rw [hl, List.drop_length] at h2
    exact h2 σ2 H2 F2 T2 .refl r2
  . have hlt : i < ds.length := by omega
    obtain ⟨go, yh⟩ := yl ds[i] (List.getElem?_eq_getElem hlt)
    refine .inr ⟨go, fun σ3 H3 => ∃ ρ3 F3 T3, Ext F1 T1 F3 T3 /\ Rel K ρ3 σ3 H3 F3 T3 fr /\ bh' K W D F3 T3 fr (M.ki' g b (ds.drop (i + 1)) ρ3), fun σ3 H3 n => ⟨ds.length - (i + 1), by omega, rfl, hlt, n⟩, fun x H3 y => ?_⟩
    obtain ⟨F3, s3, zx, f3⟩ := yh x H3 y
    have r3 : Rel K ρ2 σ2 H3 F3 T2 fr := ⟨fe, fw, re.mono (.of s3), rw.mono (.of s3), f3⟩
    rw [List.drop_eq_getElem_cons hlt] at h2
    unfold M.ki' at h2
    cases eg : g ds[i] ρ2 with
    | none => rw [eg] at h2; exact h2.elim
    | some ρ4 =>
      rw [eg] at h2
      refine ⟨ρ2, F3, T2, fr, ds[i], ρ4, r3, zx, eg, fun σ4 _ r4 => ⟨ρ4, F3, T2, fr, r4, ?_⟩⟩
      have h3 := bh'.mono h2 (.of s3)
      have e3 : Ext F1 T1 F3 T2 := e2.trans (.of s3)
      dsimp only at h3
      cases eb : b ρ4 with
      | nx ρ5 => rw [eb] at h3; exact fun σ5 H5 F5 T5 e5 r5 => ⟨ρ5, F5, T5, e3.trans e5, r5, bh'.mono h3 e5⟩
      | ct ρ5 => rw [eb] at h3; exact fun σ5 H5 F5 T5 e5 r5 => ⟨ρ5, F5, T5, e3.trans e5, r5, bh'.mono h3 e5⟩
      | bk ρ5 => rw [eb] at h3; exact fun σ5 H5 F5 T5 e5 r5 => h3 σ5 H5 F5 T5 e5 r5
      | rt o w => rw [eb] at h3; exact h3
      | exc x ρ5 => rw [eb] at h3; exact h3
      | bad => rw [eb] at h3; exact h3
theorem cI' {tg iter : Expr} {sl : List Nat} {it : M.MI} {g : M.MG} (hp : PassesOwn (model X.prog X.w) X.A X.env X.xe) (hc : X.calm = true) (hi : SI X W tg iter it) (hg : SG X tg sl g) (hb : SSs X W body m1)
    (hs : ∀ x, foldedSetIterable iter X.env x = pure x := by intro _; rfl) : SS X W (.For tg iter body [] pos) (M.j1' it g m1) := PS.imp (ps_for hp hc hi hg hb hs) fun D σ H h => oK' h
def rX' (K : PySem.W.Frag) (Q : VK) (E : XK) (F : Hp) (T : List Addr) (fr : Fp) : M.FRes -> Prop
  | .ok o w' => ∀ v H' F' T' fp, Ext F T F' T' -> Rp K F' T' v o fp -> nR' K (w') H' F' T' (fp ++ fr) -> Q v H'
  | .exc x w' => ∀ cls dd H' F' T', Ext F T F' T' -> XcR K F' T' x cls dd -> nR' K (w') H' F' T' fr -> E cls dd H'
  | .bad => False
def spM (K : PySem.W.Frag) (m : M.MF) : Sp := fun vs H Q E => ∃ ds w F T fr, FzA K F T vs ds /\ nR' K (w) H F T fr /\ rX' K Q E F T fr (m ds w)
theorem RpE.start {K : PySem.W.Frag} {F : Hp} {T : List Addr} {n : Nat} : ∀ {vs : List V} {ds : List M.D}, FzA K F T vs ds -> RpE K F T (vs.map some ++ List.replicate n none) (ds.map (fun d => some (.fz d)) ++ List.replicate n none) []
  | _, _, .nil => by
    show RpE K F T (List.replicate n none) (List.replicate n none) []
    induction n with
    | zero => exact .nil
    | succ n ih => exact .off ih
  | _, _, .cons z r => RpE.on (fp := []) (fq := []) (.fz z) (RpE.start r)
end
section
variable {P : Program} {w : World} {K : PySem.W.Frag} {mg : Str -> Option Value} {base : Heap}
end
section
variable {X : Cx} {k : Nat} {x : Str} {ps : List Str} {p pos : Pos} {e : Expr} {es : List Expr} {as : M.MA} {W : WX} {m : M.MF}
theorem nz' {K : PySem.W.Frag} {σ : St} {H : Hp} {Q : VK} (h : qO K W (M.a3' m as) σ H Q) : tCallS (spM K m) (WE W) (qA K W as) σ H Q := by
  obtain ⟨ρ, F, T, fr, rel, h⟩ := h
  refine bX' rel h fun ds ρ1 vs H1 F1 T1 e1 z1 r1 h1 => ?_
  obtain ⟨fe, fw, re, rw, f⟩ := r1
  refine ⟨ds, ρ1.w, F1, T1, fe ++ fr, z1, ⟨[], fw, qU', rw, f.part (Part.swap : Part (fw ++ (fe ++ fr)) (fe ++ (fw ++ fr)))⟩, ?_⟩
  cases em : m ds ρ1.w with
  | bad => rw [em] at h1; exact h1.elim
  | ok o w' =>
    rw [em] at h1
    refine fun v H' F' T' fp e z r => h1 v H' F' T' fp (e1.trans e) z ?_
    obtain ⟨fe', fw', re', rw', f'⟩ := r
    cases re'
    refine ⟨fe, fw', re.mono e, rw', f'.part ?_⟩
    constructor
    . intro e h
      simp only [List.mem_append, List.not_mem_nil] at *
      grind
    . intro x
      simp only [keys, List.map_append, List.map_nil, List.count_append, List.count_nil] at *
      omega
  | exc x w' =>
    rw [em] at h1
    refine fun cls dd H' F' T' e z r => h1 cls dd H' F' T' e z ?_
    obtain ⟨fe', fw', re', rw', f'⟩ := r
    cases re'
    refine ⟨fe, fw', re.mono e, rw', f'.part ?_⟩
    constructor
    . intro e h
      simp only [List.mem_append, List.not_mem_nil] at *
      grind
    . intro x
      simp only [keys, List.map_append, List.map_nil, List.count_append, List.count_nil] at *
      omega
theorem ao' (F : Og X.prog X.w X.K X.mg X.base k x ps (spM X.K m)) (hr : RoomG k X.A) (hg : Gl X x) (tk : Takes X W) (ha : SA X W (e :: es) as) (hdb : (x == ("__debug__" : Str)) = false := by decide)
    (he : starEach (e :: es) X.env = (false, eval e X.env) :: starEach es X.env := by rfl) (hpl : (backTo pos (starEach es X.env)).any (·.1) = false := by rfl) : SO X W (.Call (.Name x p) (e :: es) [] pos) (M.a3' m as) :=
  PE.imp (oo' F hr hg tk ha hdb he hpl) fun _ _ _ h => nz' h
theorem fC' : Takes X W0 := fun _ _ ⟨_, _, _, _, _, _, _, _, _, _, _, _, _, _, _, _, w⟩ => w.elim
end
end S
namespace S
open PySem PySem.Spec PyProof.Rows L2
variable [Wd]
section
variable {P : Program} {w : World} {K : PySem.W.Frag} {mg : Str -> Option Value} {base : Heap}
theorem xH' {x qual : Str} {st : Stmt} {f : Addr} {fd : FuncData} {N ps : List Str} {k j n : Nat} {b : M.MS} (F : FunD K x qual (defArgs st) (defBody st) (defScope st) [] [] f fd) (S : FnScope N ps (defScope st)) (hj : ps.length = j) (hn : N.length = n)
    (hbody : ∀ (cdv oc : Value) (od : Option Addr) (osl : Array (Option Value)), K.lookup f = some ⟨oc, od, .func fd, osl⟩ -> fd.code = cdv -> PySem.W.codeIn K cdv qual = true -> ∀ (A : Around) (outer : List Env) (s : Shared) (H : Hp) (E : XK), RoomG k (A.deeper (envOfC qual (defScope st) s.heap.objs.size f cdv)) →
      SSs (cxOf (L2.CX P w) P w K mg base N qual (defScope st) f cdv A outer s H E) (fun cls d _ H => E cls d H) (defBody st) b)   : FnG P w K mg base (L2.CX P w) (k + 1) f fd ps (spM K (M.fnM j n b)) := by
  refine rm' F S (fun vs H Q E h => ?_) fun cdv oc od osl lk e1 e2 A outer s H vs Q E hr h => ⟨_, hbody cdv oc od osl lk e1 e2 A outer s H E hr, ?_⟩
  . obtain ⟨ds, w', F', T, fr, za, rel, h⟩ := h
    unfold M.fnM at h
    by_cases hl : ds.length = j
    . rw [za.length, hl, hj]
    . rw [if_neg hl] at h; exact h.elim
  . obtain ⟨ds, w', F', T, fr, za, rel, h⟩ := h
    unfold M.fnM at h
    by_cases hl : ds.length = j
    . rw [if_pos hl] at h
      obtain ⟨fe, fw, re, rw', ff⟩ := rel
      cases re
      have re' : RpE K F' T (L2.start N vs) (ds.map (fun d => some (.fz d)) ++ List.replicate (n - j) none) [] := by
        unfold L2.start
        rw [hn, za.length, hl]
        exact RpE.start za
      refine ⟨⟨_, w'⟩, F', T, fr, ⟨[], fw, re', rw', ff⟩, ?_⟩
      generalize b ⟨ds.map (fun d => some (.fz d)) ++ List.replicate (n - j) none, w'⟩ = r at h
      cases r with
      | nx ρ => exact fun σ' H' F2 T2 e2 r2 => h .non H' F2 T2 [] e2 (.fz .non) r2.noenv
      | rt o w2 => exact fun v H' F2 T2 fp e2 z2 r2 => h v H' F2 T2 fp e2 z2 r2
      | exc x ρ => exact fun σ' cls dd H' F2 T2 e2 z2 r2 => h cls dd H' F2 T2 e2 z2 r2.noenv
      | bk ρ => exact h.elim
      | ct ρ => exact h.elim
      | bad => exact h.elim
    . rw [if_neg hl] at h; exact h.elim
theorem okM {x qual : Str} {st : Stmt} {f : Addr} {fd : FuncData} {N ps : List Str} {k j n : Nat} {b : M.MS} (F : FunD K x qual (defArgs st) (defBody st) (defScope st) [] [] f fd) (S : FnScope N ps (defScope st)) (hj : ps.length = j) (hn : N.length = n)
    (hbody : ∀ (cdv : Value) (A : Around) (outer : List Env) (s : Shared) (H : Hp) (E : XK), RoomG k (A.deeper (envOfC qual (defScope st) s.heap.objs.size f cdv)) →
      SSs (cxOf (L2.CX P w) P w K mg base N qual (defScope st) f cdv A outer s H E) (fun cls d _ H => E cls d H) (defBody st) b)   : FnG P w K mg base (L2.CX P w) (k + 1) f fd ps (spM K (M.fnM j n b)) :=
  xH' F S hj hn fun cdv _ _ _ _ _ _ => hbody cdv
end
end S
namespace S
open PySem PySem.Spec PyProof.Rows L2
variable [Wd] [Hot]
section
variable {K : PySem.W.Frag}
theorem ro' {F : Hp} {T : List Addr} {x y : V} {dx dy : M.D} (hx : Fz K F T x dx) (hy : Fz K F T y dy) (sx' : M.sca dx = true) (sy : M.sca dy = true) : eqV y x = M.eqb dy dx /\ flatV x = true := by
  cases dx <;> try (cases sx'; done)
  all_goals cases dy <;> try (cases sy; done)
  all_goals first
    | (cases hx; cases hy; exact ⟨rfl, rfl⟩)
    | skip
  obtain ⟨rfl, _⟩ := hx.str_inv
  obtain ⟨rfl, _⟩ := hy.str_inv
  exact ⟨pF' _ _, rfl⟩
theorem nk' {F : Hp} {T : List Addr} {x : V} {dx : M.D} (hx : Fz K F T x dx) (sx' : M.sca dx = true) : ∀ {vs : List V} {ds : List M.D}, FzA K F T vs ds -> ds.all M.sca = true -> inV x vs = ds.any (fun d => M.eqb d dx) /\ vs.all flatV = true
  | _, _, .nil, _ => ⟨rfl, rfl⟩
  | _, _, .cons z r, h => by
    rw [List.all_cons, Bool.and_eq_true] at h
    obtain ⟨h1, h2⟩ := nk' hx sx' r h.2
    obtain ⟨h3, h4⟩ := ro' hx z sx' h.1
    obtain ⟨_, h5⟩ := ro' z z h.1 h.1
    refine ⟨?_, ?_⟩
    . show (eqV _ x || inV x _) = _
      rw [List.any_cons, h3, h1]
    . rw [List.all_cons, h5, h2]; rfl
theorem kk' {F : Hp} {T : List Addr} {x : V} {dx : M.D} (hx : Fz K F T x dx) (s : M.sca dx = true) : flatV x = true := (ro' hx hx s s).2
theorem kg' {dx dy dz : M.D} (h : M.pIn dx dy = some dz) : (∃ c s, dx = .str [c] /\ dy = .str s /\ dz = .bl (decide (c ∈ s))) \/ (∃ ds, (dy = .lst ds \/ dy = .tup ds) /\ M.sca dx = true /\ ds.all M.sca = true /\ dz = .bl (ds.any fun d => M.eqb d dx)) := by
  unfold M.pIn at h
  split at h
  . exact .inl ⟨_, _, rfl, rfl, (Option.some.inj h).symm⟩
  . split at h
    . rename_i c; exact .inr ⟨_, .inl rfl, c.1, c.2, (Option.some.inj h).symm⟩
    . cases h
  . split at h
    . rename_i c; exact .inr ⟨_, .inr rfl, c.1, c.2, (Option.some.inj h).symm⟩
    . cases h
  . cases h
theorem xI' : Op2 K M.pIn (w3' K) := by
  intro F H T fp x y dx dy dz Q f hx hy h k
  rcases kg' h with ⟨c, s, rfl, rfl, rfl⟩ | ⟨ds, e, h1, h2, rfl⟩
  . obtain ⟨rfl, o1⟩ := hx.str_inv
    obtain ⟨rfl, o2⟩ := hy.str_inv
    exact .inl ⟨c, _, rfl, rfl, k.here f (.bl _)⟩
  . rcases e with rfl | rfl
    . obtain ⟨a, vs, rfl, ha, za⟩ := hy.lst_inv
      obtain ⟨e1, e2⟩ := nk' hx h1 za h2
      refine .inr (.inl ⟨a, vs, rfl, .inl (SqL.of (f.low _ _ ha)), kk' hx h1, e2, ?_⟩)
      rw [if_neg Bool.false_ne_true, e1]
      exact k.here f (.bl _)
    . obtain ⟨a, vs, rfl, ha, za⟩ := hy.tup_inv
      obtain ⟨e1, e2⟩ := nk' hx h1 za h2
      refine .inr (.inl ⟨a, vs, rfl, .inr (seqT f.low ha), kk' hx h1, e2, ?_⟩)
      rw [if_neg Bool.false_ne_true, e1]
      exact k.here f (.bl _)
theorem mT' : Op2 K M.fm' (mH' K) := by
  intro F H T fp x y dx dy dz Q f hx hy h k
  unfold M.fm' at h
  split at h
  . rename_i b hb
    cases h
    rcases kg' hb with ⟨c, s, rfl, rfl, eb⟩ | ⟨ds, e, h1, h2, eb⟩
    . cases eb
      obtain ⟨rfl, o1⟩ := hx.str_inv
      obtain ⟨rfl, o2⟩ := hy.str_inv
      exact .inl ⟨c, _, rfl, rfl, k.here f (.bl _)⟩
    . cases eb
      rcases e with rfl | rfl
      . obtain ⟨a, vs, rfl, ha, za⟩ := hy.lst_inv
        obtain ⟨e1, e2⟩ := nk' hx h1 za h2
        refine .inr (.inl ⟨a, vs, rfl, .inl (SqL.of (f.low _ _ ha)), kk' hx h1, e2, ?_⟩)
        rw [if_pos rfl, e1]
        exact k.here f (.bl _)
      . obtain ⟨a, vs, rfl, ha, za⟩ := hy.tup_inv
        obtain ⟨e1, e2⟩ := nk' hx h1 za h2
        refine .inr (.inl ⟨a, vs, rfl, .inr (seqT f.low ha), kk' hx h1, e2, ?_⟩)
        rw [if_pos rfl, e1]
        exact k.here f (.bl _)
  . cases h
theorem jV' {F : Hp} {T : List Addr} : ∀ {vs : List V} {ds : List M.D} {ss : List M.Tx}, FzA K F T vs ds -> M.cv' ds = some ss -> vs = (ss.map sx).map V.str /\ ∀ s ∈ ss, okT s
  | _, _, ss, .nil, h => by cases h; exact ⟨rfl, fun s h => nomatch h⟩
  | _, d :: ds, ss, .cons a r, h => by
    cases d <;> try (cases h; done)
    rename_i b
    cases q : M.cv' ds with
    | none => simp only [M.cv', q] at h; cases h
    | some cs =>
      simp only [M.cv', q, Option.map_some] at h
      cases h
      obtain ⟨rfl, o⟩ := a.str_inv
      obtain ⟨rfl, os⟩ := jV' r q
      refine ⟨rfl, fun s hs => ?_⟩
      rcases List.mem_cons.mp hs with rfl | hs
      . exact o
      . exact os s hs
theorem kf' (sep : M.Tx) : ∀ ss : List M.Tx, TL.joinL sep ss = M.bS' sep ss
  | [] => rfl
  | [_] => rfl
  | a :: b :: r => by
    show a ++ (sep ++ TL.joinL sep (b :: r)) = a ++ (sep ++ M.bS' sep (b :: r))
    rw [kf' sep (b :: r)]
theorem q4' (sep : M.Tx) (ss : List M.Tx) : Txt.join (sx sep) (ss.map sx) = sx (M.bS' sep ss) := by
  rw [TL.join_eq]
  refine hV' ?_
  have := TL.tl_join (sx sep) (ss.map sx)
  rw [List.map_map, show ss.map (TL.tl ∘ sx) = ss from (List.map_congr_left fun a _ => rfl).trans (List.map_id ss), show TL.tl (sx sep) = sep from rfl, kf'] at this
  exact this
theorem g3' (sep : M.Tx) : ∀ (ss : List M.Tx) (c : Nat), c ∈ M.bS' sep ss -> c ∈ sep \/ ∃ s ∈ ss, c ∈ s
  | [], c, h => by cases h
  | [a], c, h => .inr ⟨a, by simp, h⟩
  | a :: b :: r, c, h => by
    rcases List.mem_append.mp (show c ∈ a ++ (sep ++ M.bS' sep (b :: r)) from h) with h | h
    . exact .inr ⟨a, by simp, h⟩
    . rcases List.mem_append.mp h with h | h
      . exact .inl h
      . rcases g3' sep (b :: r) c h with h | ⟨s, h1, h2⟩
        . exact .inl h
        . exact .inr ⟨s, List.mem_cons_of_mem _ h1, h2⟩
theorem cX' (sep : M.Tx) : ∀ (ss : List M.Tx), (M.bS' sep ss).length <= (ss.map List.length).sum + ss.length * sep.length
  | [] => by simp [M.bS']
  | [a] => by simp [M.bS']
  | a :: b :: r => by
    have ih := cX' sep (b :: r)
    show (a ++ (sep ++ M.bS' sep (b :: r))).length <= _
    rw [List.length_append, List.length_append, List.map_cons, List.sum_cons, List.length_cons (as := b :: r), Nat.succ_mul]
    omega
def MtD (K : PySem.W.Frag) (f : M.Tx -> List M.D -> Option M.D) (r : V -> List V -> Hp -> VK -> Prop) : Prop := ∀ {F H : Hp} {T : List Addr} {fp : Fp} {s : M.Tx} {xs : List V} {ds : List M.D} {dz : M.D} {Q : VK}, FpH F H fp -> okT s -> FzA K F T xs ds -> f s ds = some dz -> dR' K F T fp dz Q -> r (.str (sx s)) xs H Q
theorem FzA.one {F : Hp} {T : List Addr} {xs : List V} {d : M.D} (h : FzA K F T xs [d]) : ∃ v, xs = [v] /\ Fz K F T v d := by
  cases h with
  | cons a r => cases r; exact ⟨_, rfl, a⟩
theorem kb' : MtD K M.eX' (s2' K) := by
  intro F H T fp a xs ds dz Q f oa hx h k
  have fin : ∀ {ds : List M.D} {p : Addr} {vs : List V}, (SqL K H p vs \/ SqT K H p vs) -> FzA K F T vs ds -> ((M.cv' ds).bind fun ys => if (ys.map List.length).sum + ys.length * a.length <= M.dQ' then some (M.D.str (M.bS' a ys)) else none) = some dz -> s2' K (.str (sx a)) [.ref p] H Q := by
    intro ds p vs hp za e
    cases q : M.cv' ds with
    | none => rw [q] at e; cases e
    | some ss =>
      rw [q, Option.bind_some] at e
      split at e
      . rename_i hl
        cases e
        obtain ⟨rfl, os⟩ := jV' za q
        refine ⟨_, p, ss.map sx, rfl, rfl, hp, ?_, ?_⟩
        . rw [List.map_map, show ss.map (Str.length ∘ sx) = ss.map List.length from List.map_congr_left fun s _ => b0' s, List.length_map, b0']
          exact hl
        . rw [q4']
          refine k.here f (.str ⟨fun c hc => ?_, Nat.le_trans (cX' a ss) hl⟩)
          rcases g3' a ss c hc with h | ⟨s, h1, h2⟩
          . exact oa.1 c h
          . exact (os s h1).1 c h2
      . cases e
  unfold M.eX' at h
  split at h
  . obtain ⟨v, rfl, z⟩ := hx.one
    obtain ⟨p, vs, rfl, ha, za⟩ := z.lst_inv
    exact fin (.inl (SqL.of (f.low _ _ ha))) za h
  . obtain ⟨v, rfl, z⟩ := hx.one
    obtain ⟨p, vs, rfl, ha, za⟩ := z.tup_inv
    exact fin (.inr (seqT f.low ha)) za h
  . cases h
end
section
variable {X : Cx} {W : WX} {K : PySem.W.Frag} {cpos apos p : Pos} {name : Str} {id T : String} {o e : Expr} {es : List Expr} {mo : M.ME} {as : M.MA} {σ : St} {H : Hp} {Q : VK}
theorem qX' {f : M.Tx -> List M.D -> Option M.D} {r : V -> List V -> Hp -> VK -> Prop} (hf : MtD K f r) (h : qE K W (M.eMt f mo as) σ H Q) : tBM K "str" r (qE K W mo) (qA K W as) σ H Q := by
  obtain ⟨ρ, F, T, fr, rel, h⟩ := h
  refine aw' rel h fun dx ρ1 v H1 F1 T1 e1 z1 r1 h1 => ?_
  cases dx <;> try exact h1.elim
  obtain ⟨rfl, o⟩ := z1.str_inv
  refine ⟨rfl, ?_⟩
  refine bX' r1 h1 fun ds ρ2 vs H2 F2 T2 e2 z2 r2 h2 => ?_
  obtain ⟨dz, ez, q⟩ := a0'.ofO h2
  obtain ⟨fp, f2, back⟩ := r2.fp
  exact hf f2 o z2 ez fun v' H3 F3 s zz f3 => q v' H3 F3 T2 (e1.trans (e2.trans (.of s))) zz (back H3 F3 s f3)
theorem n7' {f : M.Tx -> List M.D -> Option M.D} {r : V -> List V -> Hp -> VK -> Prop} (slot : Slot "str" name id) (hty : typeOf (.builtin id) = pure (.type "method_descriptor")) (hm : MtR X id r) (hf : MtD X.K f r) (ho : SE X W o mo) (ha : SA X W (e :: es) as)
    (hbase : attributeBase o name X.env (eval o X.env) = eval o X.env := by rfl)
    (hfew : ((backTo cpos (starEach (e :: es) X.env)).all (fun x => !x.1) && (backToKw cpos (keywordEach [] X.env)).all (fun x => x.1.isSome)
      && decide ((e :: es).length + ([] : List Keyword).length + (if ([] : List Keyword).isEmpty then 0 else 1) < 30)) = true := by rfl)
    (hline : (apos.endLine == cpos.line) = true := by rfl) (hs : starEach (e :: es) X.env = (false, eval e X.env) :: starEach es X.env := by rfl) (hplain : (backTo cpos (starEach es X.env)).any (·.1) = false := by rfl) :
    SE X W (.Call (.Attribute o name apos) (e :: es) [] cpos) (M.eMt f mo as) := PE.imp (pe_bm PySem.F.plainAttrs_str slot hty hm ho ha hbase hfew hline hs hplain) fun _ _ _ h => qX' hf h
end
end S
namespace S
open PySem PySem.Spec PyProof.Rows L2
variable [Wd] [Hot]
section
variable {K : PySem.W.Frag} {F F' H H' : Hp} {T T' : List Addr} {fp fq fr : Fp} {ρ : M.PSt} {σ : St} {W : WX} {Q : VK}
theorem RpW.get {l : List Addr} {w : M.W} {n : Nat} {ob : M.Ob} (r : RpW K F T l w fp) (h : w[n]? = some ob) : ∃ a f1 f2 f3, l[n]? = some a /\ fp = f1 ++ (f2 ++ f3) /\ RpOb K F T a ob f2 ∧
    ∀ F' T' ob' f2', Ext F T F' T' -> RpOb K F' T' a ob' f2' -> RpW K F' T' l (w.set n ob') (f1 ++ (f2' ++ f3)) := by
  induction r generalizing n with
  | nil => cases h
  | @cons a l ob0 w fa fb r0 r ih =>
    cases n with
    | zero =>
      cases h
      exact ⟨a, [], fa, fb, rfl, rfl, r0, fun F' T' ob' f2' e r' => (RpW.cons r' (r.mono e) : RpW K F' T' _ _ (f2' ++ fb))⟩
    | succ n =>
      obtain ⟨a', f1, f2, f3, h1, rfl, h3, h4⟩ := ih (n := n) h
      refine ⟨a', fa ++ f1, f2, f3, h1, by simp, h3, fun F' T' ob' f2' e r' => ?_⟩
      rw [List.append_assoc]
      exact .cons (r0.mono e) (h4 F' T' ob' f2' e r')
theorem RpW.len {l : List Addr} {w : M.W} (r : RpW K F T l w fp) : l.length = w.length := by
  induction r with
  | nil => rfl
  | cons _ _ ih => exact congrArg (· + 1) ih
theorem RpA.get : ∀ {vs : List V} {os : List M.O} {fp : Fp} {i : Nat} {d : M.D}, RpA K F T vs os fp -> os[i]? = some (.fz d) -> ∃ v, vs[i]? = some v /\ Fz K F T v d
  | _, _, _, _, _, .nil, e => by cases e
  | _, _, _, 0, _, .cons h _, e => by
    have e := Option.some.inj e
    subst e
    cases h with
    | fz z => exact ⟨_, rfl, z⟩
  | _, _, _, i + 1, _, .cons _ r, e => RpA.get (i := i) r e
theorem RpA.ati {vs : List V} {os : List M.O} {i : Int} {d : M.D} (h : RpA K F T vs os fp) (e : M.ati os i = some (.fz d)) : ∃ v, atI vs i = some v /\ Fz K F T v d := by
  unfold M.ati at e
  unfold atI
  rw [h.length]
  cases q : M.ixn os.length i with
  | none => rw [q] at e; cases e
  | some j =>
    rw [q] at e
    obtain ⟨v, h1, h2⟩ := h.get (i := j) e
    have q' : ixN os.length i = some j := q
    rw [q']
    exact ⟨v, h1, h2⟩
theorem Rel.wlist (rel : Rel K ρ σ H F T fr) {n : Nat} {os : List M.O} (h : ρ.w[n]? = some (.lst os)) : ∃ a vs f2, T[n]? = some a /\ H a = some (.lst vs) /\ RpA K F T vs os f2 ∧
    ∀ vs' os' f2' fr', RpA K F T vs' os' f2' -> Part (f2' ++ fr') (f2 ++ fr) -> Rel K ⟨ρ.env, ρ.w.set n (.lst os')⟩ σ (upd H a (.lst vs')) F T fr' := by
  obtain ⟨fe, fw, re, rw, f⟩ := rel
  obtain ⟨a, f1, f2, f3, h1, rfl, h3, h4⟩ := rw.get h
  cases h3 with
  | lst r =>
    rename_i vs fp0
    refine ⟨a, vs, fp0, h1, (f.at_ (a, .lst vs) (by simp)).1, r, fun vs' os' f2' fr' r' pt => ?_⟩
    have e5 := h4 F T (.lst os') ((a, .lst vs') :: f2') .refl (.lst r')
    refine ⟨fe, _, re, e5, ?_⟩
    have fA : FpH F H ((fe ++ f1) ++ ((a, .lst vs) :: (f3 ++ (fp0 ++ fr)))) := f.part (by
      constructor
      . intro e h
        simp only [List.mem_append, List.mem_cons] at *
        grind
      . intro x
        simp only [keys, List.map_append, List.map_cons, List.count_append, List.count_cons] at *
        omega)
    have fB := fA.write (o' := .lst vs')
    refine fB.part ?_
    have pm := pt.m
    constructor
    . intro e h
      have := pm e
      simp only [List.mem_append, List.mem_cons] at *
      grind
    . intro x
      have := pt.c x
      simp only [keys, List.map_append, List.map_cons, List.count_append, List.count_cons] at *
      omega
theorem RpA.set {v : V} {d : M.D} (zd : Fz K F T v d) : ∀ {os : List M.O} {vs : List V} {f2 : Fp} (j : Nat), RpA K F T vs os f2 -> ∃ f2', RpA K F T (vs.set j v) (os.set j (.fz d)) f2' /\ Part f2' f2
  | [], _, _, _, .nil => ⟨[], .nil, .refl⟩
  | o :: os, _, _, 0, .cons r0 r => ⟨_, RpA.cons (fp := []) (.fz zd) r, .right .refl⟩
  | o :: os, _, _, j + 1, .cons r0 r => by
    obtain ⟨f2', q1, q2⟩ := RpA.set zd j r
    exact ⟨_, .cons r0 q1, .app .refl q2⟩
theorem RpA.set' {v : V} {d : M.D} {vs : List V} {os : List M.O} {fp : Fp} (h : RpA K F T vs os fp) (j : Nat) (zd : Fz K F T v d) : ∃ f2', RpA K F T (vs.set j v) (os.set j (.fz d)) f2' /\ Part f2' fp := RpA.set zd j h
theorem n1' {w w' : M.W} {x k d : M.D} (h : M.n2' w x k d = some w') : ∃ n z os j, x = .obj n /\ k = .int z /\ w[n]? = some (.lst os) /\ M.ixn os.length z = some j /\ w' = w.set n (.lst (os.set j (.fz d))) := by
  unfold M.n2' at h
  split at h
  . rename_i n z
    split at h
    . rename_i os e
      cases q : M.ixn os.length z with
      | none => rw [q] at h; cases h
      | some j =>
        rw [q] at h
        cases h
        exact ⟨n, z, os, j, rfl, rfl, e, q, rfl⟩
    . cases h
  . cases h
theorem oE' {ma mb : M.ME} (h : qE K W (M.gd' ma mb) σ H Q) : tOp (rIx K) (qE K W ma) (qE K W mb) σ H Q := by
  obtain ⟨ρ, F, T, fr, rel, h⟩ := h
  refine aw' rel h fun dx ρ1 v H1 F1 T1 e1 z1 r1 h1 => ?_
  refine aw' r1 h1 fun dy ρ2 u H2 F2 T2 e2 z2 r2 h2 => ?_
  obtain ⟨dz, ez, q⟩ := a0'.ofO h2
  by_cases ho : ∃ n, dx = .obj n
  . obtain ⟨n, rfl⟩ := ho
    cases e : ρ2.w[n]? with
    | none => simp only [M.ixW, e] at ez; cases ez
    | some ob =>
      cases ob with
      | lst os =>
        simp only [M.ixW, e] at ez
        obtain ⟨a, vs, f2, h3, h4, h5, _⟩ := r2.wlist e
        cases z1.mono e2 with
        | obj t =>
          rw [h3] at t
          cases t
          cases dy <;> try (cases ez; done)
          rename_i i
          cases z2
          unfold M.ixO at ez
          cases e6 : M.ati os i with
          | none => simp only [e6] at ez; cases ez
          | some o =>
            cases o <;> simp only [e6] at ez <;> try (cases ez; done)
            cases ez
            obtain ⟨v', h7, h8⟩ := h5.ati e6
            exact .inl ⟨_, vs, i, v', rfl, rfl, SqL.of h4, h7, q v' H2 F2 T2 (e1.trans e2) h8 r2⟩
      | dct ks vs => simp only [M.ixW, e] at ez; cases ez
      | dcx ks vs => simp only [M.ixW, e] at ez; cases ez
      | ins C fs => simp only [M.ixW, e] at ez; cases ez
  . have ez' : M.pIx dx dy = some dz := by
      cases dx <;> first | exact ez | exact absurd ⟨_, rfl⟩ ho
    obtain ⟨fp, f2, back⟩ := r2.fp
    exact eS' f2 (z1.mono e2) z2 ez' fun v' H3 F3 s zz f3 => q v' H3 F3 T2 (e1.trans (e2.trans (.of s))) zz (back H3 F3 s f3)
end
section
variable {X : Cx} {W : WX} {pos tpos : Pos} {a b o i : Expr} {ma mb mo mi : M.ME} {as : M.MA} {es : List Expr} {σ : St} {H : Hp} {Q : VK}
theorem bQ' (ha : SE X W a ma) (hb : SE X W b mb) (hs : PlainIx b) : SE X W (.Subscript a b pos) (M.gd' ma mb) := PE.imp (pe_ix ix_seq ha hb hs) fun _ _ _ h => oE' h
theorem d6' (ha : SE X W a ma) (ho : SE X W o mo) (hi : SE X W i mi)
    (hst : ∀ v, assign (.Subscript o i tpos) X.env v = (do
      let ov ← holding [v] (eval o X.env)
      let iv ← holding [v, ov] (eval i X.env)
      standAt tpos
      holding [v, ov, iv] (setItem ov iv v)
      release [v, ov, iv] []) := by intro _; rfl)
    (hs : swapsWithSole [.Subscript o i tpos] a pos.line X.env = pure false := by rfl) (hw : swappedStores [.Subscript o i tpos] a X.env = pure none := by rfl)
    (h1 : (assignEach [.Subscript o i tpos] X.env).map (·.2) = [assign (.Subscript o i tpos) X.env] := by rfl) : SS X W (.Assign [.Subscript o i tpos] a pos) (M.fJ' mo mi ma) :=
  PS.imp (ps_asg ha (pg_sub ho hi set_list hst) hs hw h1) fun D σ H ⟨ρ, F, T, fr, rel, h⟩ => by
    refine ef' rel h fun d ρ1 v H1 F1 T1 e1 z1 r1 h1 => ?_
    refine ef' r1 h1 fun dx ρ2 u H2 F2 T2 e2 z2 r2 h2 => ?_
    refine ef' r2 h2 fun dk ρ3 t H3 F3 T3 e3 z3 r3 h3 => ?_
    cases es : M.n2' ρ3.w dx dk d with
    | none => rw [es] at h3; exact h3.elim
    | some w' =>
      rw [es] at h3
      obtain ⟨n, z, os, j, rfl, rfl, e, ej, rfl⟩ := n1' es
      cases z3
      obtain ⟨p, vs, f2, h4, h5, h6, back⟩ := r3.wlist e
      cases z2.mono e3 with
      | obj t =>
        rw [h4] at t
        cases t
        have ej' : ixN vs.length z = some j := by rw [h6.length]; exact ej
        obtain ⟨f2', q1, q2⟩ := h6.set' j ((z1.mono e2).mono e3)
        exact ⟨p, vs, z, j, rfl, rfl, h5, ej', h3 σ _ F3 T3 .refl (back _ _ f2' fr q1 (.app q2 .refl))⟩
theorem sI' (h : SA X W es as) : SO X W (.List es pos) (M.tj' as) := PE.imp (pe_lst h) fun σ H Q ⟨ρ, F, T, fr, rel, h⟩ => by
  refine bX' rel h fun ds ρ1 vs H1 F1 T1 e1 z1 r1 h1 => ?_
  split at h1
  . rename_i hl
    refine ⟨by rw [z1.length, bw']; exact hl, fun p hp => ?_⟩
    obtain ⟨fe, fw, re, rw, f⟩ := r1
    have eT : Ext F1 T1 F1 (T1 ++ [p]) := ⟨fun _ _ h => .inl h, ⟨[p], rfl⟩⟩
    have hn : (T1 ++ [p])[ρ1.w.length]? = some p := by rw [<- rw.len, List.getElem?_append_right (Nat.le_refl _), Nat.sub_self]; rfl
    have app : ∀ {l : List Addr} {w : M.W} {fw : Fp}, RpW X.K F1 T1 l w fw -> ∃ fw', RpW X.K F1 (T1 ++ [p]) (l ++ [p]) (w ++ [.lst (ds.map .fz)]) fw' /\ Part fw' ((p, .lst vs) :: fw) := by
      intro l w fw r
      induction r with
      | nil => exact ⟨_, RpW.cons (RpOb.lst (RpA.of_fz (z1.mono eT))) .nil, by simp only [List.append_nil]; exact .refl⟩
      | @cons a l ob w fa fb r0 r ih =>
        obtain ⟨fw', q1, q2⟩ := ih
        refine ⟨fa ++ fw', .cons (r0.mono eT) q1, ?_⟩
        have p1 : Part (fa ++ fw') (fa ++ ((p, .lst vs) :: fb)) := .app .refl q2
        refine p1.trans ?_
        constructor
        . intro e h
          simp only [List.mem_append, List.mem_cons] at *
          grind
        . intro x
          simp only [keys, List.map_append, List.map_cons, List.count_append, List.count_cons] at *
          omega
    obtain ⟨fw', q1, q2⟩ := app rw
    refine h1 (.ref p) (upd H1 p (.lst vs)) F1 (T1 ++ [p]) [] (e1.trans eT) (.fz (.obj hn)) ⟨fe, fw', re.mono eT, q1, ?_⟩
    refine (f.own hp).part ?_
    have p1 : Part (fe ++ (fw' ++ ([] ++ fr))) (fe ++ (((p, .lst vs) :: fw) ++ fr)) := .app .refl (.app q2 .nilL)
    refine p1.trans ?_
    constructor
    . intro e h
      simp only [List.mem_append, List.mem_cons] at *
      grind
    . intro x
      simp only [keys, List.map_append, List.map_cons, List.count_append, List.count_cons] at *
      omega
  . exact h1.elim
theorem m7' {K : PySem.W.Frag} {n : Nat} (h : qE K W (M.iq' n) σ H Q) : tCB (qG' K) (tCons (tVar n) tNil) σ H Q := by
  obtain ⟨ρ, F, T, fr, rel, h⟩ := h
  unfold M.iq' at h
  split at h
  . rename_i o e
    obtain ⟨dz, ez, q⟩ := a0'.ofO h
    obtain ⟨fe, fw, re, rw, f⟩ := id rel
    obtain ⟨v, f1, f2, f3, h1, rfl, h3, _⟩ := re.get e (M.hU' (fun z => by rw [z] at ez; exact nomatch (show (none : Option M.D) = some dz from ez)) fun z => by rw [z] at ez; exact nomatch (show (none : Option M.D) = some dz from ez))
    refine ⟨v, h1, ?_⟩
    cases h3 with
    | fz z =>
      exact ck' f z ez fun v' H3 F3 s zz f3 => q v' H3 F3 T (.of s) zz ⟨_, fw, re.mono (.of s), rw.mono (.of s), f3⟩
    | @lst p vs os fp0 r =>
      cases ez
      refine .inl (.inr (.inl ⟨p, vs, rfl, .inl (SqL.of (f.at_ (p, .lst vs) (by simp)).1), ?_⟩))
      rw [r.length]
      exact q _ H F T .refl (.int _) rel
    | @tup p vs os fp0 r =>
      cases ez
      refine .inl (.inr (.inl ⟨p, vs, rfl, .inr (SqT.of (f.at_ (p, .tup vs) (by simp)).1), ?_⟩))
      rw [r.length]
      exact q _ H F T .refl (.int _) rel
    | @dct p kvs os fp0 _ r =>
      cases ez
      refine .inl (.inr (.inr ⟨p, kvs, rfl, .inl (f.at_ (p, .dK kvs) (by simp)).1, q _ H F T .refl ?_ rel⟩))
      rw [List.length_map]
      exact .int _
    | @dcl p kvs ks os fp0 ke r =>
      cases ez
      have e2 : kvs.length = ks.length := by have := congrArg List.length ke.e; simpa using this
      refine .inr (.inl ⟨p, kvs, rfl, .inl (f.at_ (p, dcL p kvs) (by simp)).1, q _ H F T .refl ?_ rel⟩)
      rw [e2]
      exact .int _
    | @dcn p xs ks os fp0 ke z r =>
      cases ez
      have e2 : xs.length = ks.length := by have := congrArg List.length ke.e; simpa using this
      refine .inr (.inr ⟨p, xs, rfl, .inl (f.at_ (p, dcN p xs) (by simp)).1, q _ H F T .refl ?_ rel⟩)
      rw [e2]
      exact .int _
  . exact h.elim
theorem qA' {n : Nat} {x : Str} {p : Pos} (hwd : X.prog = Wd.P /\ X.w = Wd.w) (hg : Gl X x) (hm : X.mg x = none) (hv : bootBuiltins x = some (.builtin "len")) (ha : PE X a (tVar n)) (hn : x ≠ "__name__" := by decide) (hdb : (x == ("__debug__" : Str)) = false := by decide)
    (he : starEach [a] X.env = (false, eval a X.env) :: starEach [] X.env := by rfl) (hpl : (backTo pos (starEach [] X.env)).any (·.1) = false := by rfl) : SE X W (.Call (.Name x p) [a] [] pos) (M.iq' n) := PE.imp (pe_callB (aI' hwd) hg hm hv (pa_cons ha pa_nil he) hn hdb he hpl) fun _ _ _ => m7'
end
end S
namespace S
open PySem PySem.Spec PyProof.Rows L2
variable [Wd] [Hot]
local macro_rules | `(tactic| walk_at "parts") => `(tactic| (constructor; (intro e h; simp only [List.mem_append, List.mem_cons, List.not_mem_nil] at *; grind); (intro x; simp only [keys, List.map_append, List.map_cons, List.map_nil, List.count_append, List.count_cons, List.count_nil] at *; omega)))
theorem dv' {a b : String} (h : Str.ofString a = Str.ofString b) : a = b := by
  rw [Str.ofString_eq_toList, Str.ofString_eq_toList] at h
  have h2 : a.toList.map Char.toNat = b.toList.map Char.toNat := by
    have := congrArg (fun z : Str => z.cps.toList) h
    simpa using this
  have h3 : a.toList = b.toList := by
    have inj : ∀ (x y : List Char), x.map Char.toNat = y.map Char.toNat -> x = y := by
      intro x
      induction x with
      | nil => intro y h; cases y with
        | nil => rfl
        | cons _ _ => cases h
      | cons c x ih => intro y h; cases y with
        | nil => cases h
        | cons d y =>
          rw [List.map_cons, List.map_cons] at h
          injection h with h1 h2
          rw [ih y h2, show c = d from Char.toNat_inj.mp h1]
    exact inj _ _ h2
  exact String.toList_inj.mp h3
section
variable {K : PySem.W.Frag} {F F' H H' : Hp} {T T' : List Addr} {fp fq fr : Fp} {ρ : M.PSt} {σ : St} {W : WX} {Q : VK}
abbrev nK' (q : String × V) : Str × V := (Str.ofString q.1, q.2)
theorem m4' (f : String) : ∀ fv : List (String × V), (fv.map nK').lookup (Str.ofString f) = fv.lookup f
  | [] => rfl
  | (g, v) :: r => by
    rw [List.map_cons]
    by_cases h : f = g
    . subst h
      show List.lookup _ ((Str.ofString f, v) :: _) = _
      rw [List.lookup_cons_self, List.lookup_cons_self]
    . have h1 : (f == g) = false := by simpa using h
      have h2 : (Str.ofString f == Str.ofString g) = false := by
        rw [beq_eq_false_iff_ne]
        exact fun e => h (dv' e)
      show List.lookup _ ((Str.ofString g, v) :: _) = _
      simp only [List.lookup, h1, h2]
      exact m4' f r
theorem RpA.lookup {f : String} {o : M.O} : ∀ {fv : List (String × V)} {os : List M.O} {fp : Fp}, RpA K F T (fv.map (·.2)) os fp -> ((fv.map (·.1)).zip os).lookup f = some o →
    ∃ v f1 f2 f3, fv.lookup f = some v /\ fp = f1 ++ (f2 ++ f3) /\ Rp K F T v o f2
  | [], _, _, r, h => by cases r; cases h
  | (g, v) :: fv, _, _, r, h => by
    cases r with
    | @cons _ _ o1 os fp fq r0 r =>
      rw [List.map_cons, List.zip_cons_cons] at h
      by_cases e : f = g
      . subst e
        rw [List.lookup_cons_self] at h
        cases h
        exact ⟨v, [], fp, fq, List.lookup_cons_self, rfl, r0⟩
      . have h1 : (f == g) = false := by simpa using e
        simp only [List.lookup, h1] at h
        obtain ⟨v', f1, f2, f3, e1, e2, e3⟩ := RpA.lookup r h
        refine ⟨v', fp ++ f1, f2, f3, ?_, by rw [e2, List.append_assoc], e3⟩
        simp only [List.lookup, h1]
        exact e1
theorem m5' {f : String} : ∀ {fv : List (String × V)} {os : List M.O}, fv.length = os.length -> ((fv.map (·.1)).zip os).lookup f = none -> fv.lookup f = none
  | [], _, _, _ => rfl
  | (g, v) :: fv, [], h, _ => by cases h
  | (g, v) :: fv, o :: os, hl, h => by
    rw [List.map_cons, List.zip_cons_cons] at h
    by_cases e : f = g
    . subst e
      rw [List.lookup_cons_self] at h
      cases h
    . have h1 : (f == g) = false := by simpa using e
      simp only [List.lookup, h1] at h ⊢
      exact m5' (Nat.succ.inj hl) h
def putS (f : String) (v : V) : List (String × V) -> List (String × V)
  | [] => [(f, v)]
  | (g, x) :: r => if g = f then (g, v) :: r else (g, x) :: putS f v r
theorem j3' (f : String) (v : V) : ∀ fv : List (String × V), putF (Str.ofString f) v (fv.map nK') = (putS f v fv).map nK'
  | [] => rfl
  | (g, x) :: r => by
    rw [List.map_cons]
    show (if Str.ofString g = Str.ofString f then _ else _) = _
    unfold putS
    by_cases h : g = f
    . rw [if_pos h, if_pos (by rw [h])]
      rfl
    . rw [if_neg h, if_neg (fun e => h (dv' e)), j3' f v r]
      rfl
theorem RpA.putS {f : String} {o : M.O} {v : V} (q : Rp K F T v o fq) : ∀ {fv : List (String × V)} {os : List M.O} {fp : Fp}, RpA K F T (fv.map (·.2)) os fp →
    ∃ os' fp', M.nM' f o ((fv.map (·.1)).zip os) = ((S.putS f v fv).map (·.1)).zip os' /\ RpA K F T ((S.putS f v fv).map (·.2)) os' fp' /\ Part fp' (fq ++ fp)
  | [], _, _, r => by
    cases r
    exact ⟨[o], fq ++ [], rfl, .cons q .nil, by walk_at "parts"⟩
  | (g, x) :: fv, _, _, r => by
    cases r with
    | @cons _ _ o1 os fp fp2 r0 r =>
      unfold S.putS
      by_cases h : g = f
      . refine ⟨o :: os, fq ++ fp2, ?_, ?_, by walk_at "parts"⟩
        . rw [if_pos h, List.map_cons, List.zip_cons_cons]
          show (if g = f then _ else _) = _
          rw [if_pos h, List.map_cons, List.zip_cons_cons]
        . rw [if_pos h]
          exact .cons q r
      . obtain ⟨os', fp', h1, h2, h3⟩ := RpA.putS q r
        refine ⟨o1 :: os', fp ++ fp', ?_, ?_, ?_⟩
        . rw [if_neg h, List.map_cons, List.zip_cons_cons]
          show (if g = f then _ else _) = _
          rw [if_neg h, h1, List.map_cons, List.zip_cons_cons]
        . rw [if_neg h]
          exact .cons r0 h2
        . have h4 : Part (fp ++ fp') (fp ++ (fq ++ fp2)) := .app .refl h3
          refine h4.trans ?_
          walk_at "parts"
theorem Rel.wins (rel : Rel K ρ σ H F T fr) {n : Nat} {C : String} {fs : List (String × M.O)} (h : ρ.w[n]? = some (.ins C fs)) :
    ∃ (a dx : Addr) (fv : List (String × V)) (os : List M.O) (f2 : Fp), T[n]? = some a /\ fs = (fv.map (·.1)).zip os /\ H a = some (.ins (He.ga K C) dx (fv.map nK')) /\ RpA K F T (fv.map (·.2)) os f2 ∧
    (∃ f0, FpH F H ((a, .ins (He.ga K C) dx (fv.map nK')) :: (f2 ++ f0))) ∧
    ∀ (fv' : List (String × V)) (os' : List M.O) (f2' fr' : Fp), RpA K F T (fv'.map (·.2)) os' f2' -> Part (f2' ++ fr') (f2 ++ fr) -> Rel K ⟨ρ.env, ρ.w.set n (.ins C ((fv'.map (·.1)).zip os'))⟩ σ (upd H a (.ins (He.ga K C) dx (fv'.map nK'))) F T fr' := by
  obtain ⟨fe, fw, re, rw, f⟩ := rel
  obtain ⟨a, f1, f2, f3, h1, rfl, h3, h4⟩ := rw.get h
  generalize eo : M.Ob.ins C fs = ob at h3
  cases h3 with
  | lst r => cases eo
  | dct _ r => cases eo
  | dcl _ r => cases eo
  | dcn _ _ r => cases eo
  | @ins dx C' fv os fp0 hd r =>
    cases eo
    have fA : FpH F H ((fe ++ f1) ++ ((a, .ins (He.ga K C) dx (fv.map nK')) :: (f3 ++ (fp0 ++ fr)))) := f.part (by walk_at "parts")
    refine ⟨a, dx, fv, os, fp0, h1, rfl, (f.at_ (a, .ins (He.ga K C) dx (fv.map nK')) (by simp)).1, r, ⟨fe ++ (f1 ++ (f3 ++ fr)), fA.part (by walk_at "parts")⟩, fun fv' os' f2' fr' r' pt => ?_⟩
    have e5 := h4 F T (.ins C ((fv'.map (·.1)).zip os')) ((a, .ins (He.ga K C) dx (fv'.map nK')) :: f2') .refl (.ins hd r')
    refine ⟨fe, _, re, e5, ?_⟩
    have fB := fA.write (o' := .ins (He.ga K C) dx (fv'.map nK'))
    refine fB.part ?_
    have pm := pt.m
    constructor
    . intro e h
      have := pm e
      simp only [List.mem_append, List.mem_cons] at *
      grind
    . intro x
      have := pt.c x
      simp only [keys, List.map_append, List.map_cons, List.count_append, List.count_cons] at *
      omega
theorem oN' {cs : List String} {f : String} {w : M.W} {x d : M.D} (h : M.in' cs f w x = some d) : ∃ n C fs, x = .obj n /\ w[n]? = some (.ins C fs) /\ C ∈ cs /\ fs.lookup f = some (.fz d) := by
  unfold M.in' at h
  split at h
  . rename_i n
    split at h
    . rename_i C fs e
      split at h
      . rename_i hC
        split at h
        . rename_i d' e2
          cases h
          exact ⟨n, C, fs, rfl, e, hC, e2⟩
        . cases h
      . cases h
    . cases h
  . cases h
theorem oM' {cs : List String} {f : String} {ma : M.ME} (hC : ∀ C ∈ cs, Cls K (He.ga K C) /\ NoAttr K (He.ga K C) (Str.ofString f)) (h : qE K W (M.nt' cs ma f) σ H Q) : tFld K (qE K W ma) (Str.ofString f) σ H Q := by
  obtain ⟨ρ, F, T, fr, rel, h⟩ := h
  refine aw' rel h fun dx ρ1 v H1 F1 T1 e1 z1 r1 h1 => ?_
  obtain ⟨d, ed, q⟩ := a0'.ofO h1
  obtain ⟨n, C, fs, rfl, ew, hm, el⟩ := oN' ed
  obtain ⟨a, dx, fv, os, f2, hT, rfl, hH, r, _, _⟩ := r1.wins ew
  obtain ⟨v', _, _, _, e2, _, e3⟩ := r.lookup el
  cases z1 with
  | obj t =>
    rw [hT] at t
    cases t
    cases e3 with
    | fz z => exact ⟨a, _, dx, _, v', rfl, hH, (hC C hm).1, (hC C hm).2, by rw [m4']; exact e2, q v' H1 F1 T1 e1 z r1⟩
theorem mA' {K : PySem.W.Frag} {w : M.W} {fr' : Fp} (r : nR' K w H F T fr) (p : Part fr' fr) : nR' K w H F T fr' := by
  obtain ⟨fe, fw, re, rw, f⟩ := r
  exact ⟨fe, fw, re, rw, f.part (.app .refl (.app .refl p))⟩
theorem bh'.frame {D : Ends} {r : M.Out} (h : bh' K W D F T fr r) (p : Part fr fq) : bh' K W D F T fq r := by
  cases r with
  | nx ρ => exact fun σ' H' F' T' e r => h σ' H' F' T' e (r.part p)
  | bk ρ => exact fun σ' H' F' T' e r => h σ' H' F' T' e (r.part p)
  | ct ρ => exact fun σ' H' F' T' e r => h σ' H' F' T' e (r.part p)
  | rt o w => exact fun v H' F' T' fp e z r => h v H' F' T' fp e z (mA' r (.app .refl p))
  | exc x ρ => exact fun σ' cls dd H' F' T' e z r => h σ' cls dd H' F' T' e z (r.part p)
  | bad => exact h
theorem EX.frame {x : M.Exc} (h : EX K W σ F T fr x ρ) (p : Part fr fq) : EX K W σ F T fq x ρ := fun cls dd H' F' T' e z r => h cls dd H' F' T' e z (r.part p)
theorem oe' {D : Ends} {m : M.ME} {k : M.D -> M.PSt -> M.Out} (rel : Rel K ρ σ H F T (fp ++ fr)) (h : bh' K W D F T fr ((m ρ).out k))
    (q : ∀ d ρ1 v H1 F1 T1, Ext F T F1 T1 -> Fz K F1 T1 v d -> Rel K ρ1 σ H1 F1 T1 (fp ++ fr) -> bh' K W D F1 T1 fr (k d ρ1) -> Q v H1) : qE K W m σ H Q :=
  ⟨ρ, F, T, fp ++ fr, rel, (cR' h).mono (fun d ρ1 h1 v H1 F1 T1 e z r => q d ρ1 v H1 F1 T1 e z r (h1.mono e)) fun _ _ z => z.frame (.right .refl)⟩
theorem qw' {cs : List String} {f : String} {o : M.O} {w w' : M.W} {x : M.D} (h : M.stF cs f o w x = some w') : ∃ n C fs, x = .obj n /\ w[n]? = some (.ins C fs) /\ C ∈ cs /\ fs.length < 1000 /\ w' = w.set n (.ins C (M.nM' f o fs)) := by
  unfold M.stF at h
  split at h
  . rename_i n
    split at h
    . rename_i C fs e
      split at h
      . rename_i hC
        cases h
        exact ⟨n, C, fs, rfl, e, hC.1, hC.2, rfl⟩
      . cases h
    . cases h
  . cases h
theorem mm' {cs : List String} {f : String} {ma : M.ME} {mo : M.MO} {D : Ends} (hC : ∀ C ∈ cs, Cls K (He.ga K C) /\ NoAttr K (He.ga K C) (Str.ofString f)) (h : qS K W (M.sFld cs ma f mo) D σ H) : sFld K (qE K W ma) (qO K W mo) (Str.ofString f) D σ H := by
  obtain ⟨ρ, F, T, fr, rel, h⟩ := h
  refine ee' rel h fun o ρ1 y H1 F1 T1 fp e1 z1 r1 h1 => ?_
  refine oe' r1 h1 fun d ρ2 x H2 F2 T2 e2 z2 r2 h2 => ?_
  cases es : M.stF cs f o ρ2.w d with
  | none => rw [es] at h2; exact h2.elim
  | some w' =>
    rw [es] at h2
    obtain ⟨n, C, fs, rfl, ew, hm, hl, rfl⟩ := qw' es
    obtain ⟨a, dx, fv, os, f2, hT, rfl, hH, r, _, back⟩ := r2.wins ew
    cases z2 with
    | obj t =>
      rw [hT] at t
      cases t
      obtain ⟨os', fp', p1, p2, p3⟩ := RpA.putS (z1.mono e2) r (f := f)
      have hlen := r.length
      rw [List.length_map] at hlen
      rw [List.length_zip, List.length_map, hlen, Nat.min_self] at hl
      refine ⟨a, _, dx, _, rfl, hH, (hC C hm).1, (hC C hm).2, by rw [List.length_map, hlen]; exact hl, ?_⟩
      rw [j3']
      refine h2 σ _ F2 T2 .refl ?_
      show Rel K ⟨ρ2.env, ρ2.w.set n (.ins C (M.nM' f o _))⟩ σ _ F2 T2 fr
      rw [p1]
      refine back _ _ fp' fr p2 ?_
      have h4 : Part (fp' ++ fr) ((fp ++ f2) ++ fr) := .app p3 .refl
      refine h4.trans ?_
      walk_at "parts"
theorem RpW.snoc {a : Addr} {ob : M.Ob} {fb : Fp} (q : RpOb K F T a ob fb) {l : List Addr} {w : M.W} {fw : Fp} (r : RpW K F T l w fw) : ∃ fw', RpW K F T (l ++ [a]) (w ++ [ob]) fw' /\ Part fw' (fb ++ fw) := by
  induction r with
  | nil => exact ⟨_, RpW.cons q .nil, by walk_at "parts"⟩
  | @cons a l ob w fa fb' r0 r ih =>
    obtain ⟨fw', q1, q2⟩ := ih
    refine ⟨fa ++ fw', .cons r0 q1, ?_⟩
    have p1 : Part (fa ++ fw') (fa ++ (fb ++ fb')) := .app .refl q2
    refine p1.trans ?_
    walk_at "parts"
theorem Rel.reenv {env : List (Option M.O)} {fe : Fp} {w' : M.W} {F0 : Hp} {T0 : List Addr} (re : RpE K F0 T0 σ env fe) (e : Ext F0 T0 F T) (r : nR' K (w') H F T (fp ++ (fe ++ fr))) : Rel K ⟨env, w'⟩ σ H F T (fp ++ fr) := by
  obtain ⟨fe', fw', re', rw', f'⟩ := r
  cases re'
  exact ⟨fe, fw', re.mono e, rw', f'.part (by walk_at "parts")⟩
theorem m1' {C : String} {init : M.MF} {as : M.MA} (h : qO K W (M.if' C init as) σ H Q) : pD' (He.ga K C) (spM K init) (WE W) (qA K W as) σ H Q := by
  obtain ⟨ρ, F, T, fr, rel, h⟩ := h
  refine bX' rel h fun ds ρ1 vs H1 F1 T1 e1 z1 r1 h1 => ?_
  intro x dx hx hdx hne
  obtain ⟨fe, fw, re, rw', f⟩ := r1
  have s1 : Same F1 (upd F1 dx (.own x)) := bW' (f.free hdx)
  have eT : Ext F1 T1 (upd F1 dx (.own x)) (T1 ++ [x]) := ⟨.of s1, ⟨[x], rfl⟩⟩
  have hn : (T1 ++ [x])[ρ1.w.length]? = some x := by rw [<- rw'.len, List.getElem?_append_right (Nat.le_refl _), Nat.sub_self]; rfl
  have qi : RpOb K (upd F1 dx (.own x)) (T1 ++ [x]) x (.ins C []) [(x, .ins (He.ga K C) dx [])] := RpOb.ins (fs := []) (os := []) (fp := []) upd_same .nil
  obtain ⟨fw', q1, q2⟩ := RpW.snoc qi (rw'.mono eT)
  have f1 : FpH (upd F1 dx (.own x)) (upd (upd H1 dx (.own x)) x (.ins (He.ga K C) dx [])) ((x, .ins (He.ga K C) dx []) :: (fe ++ (fw ++ fr))) := (f.new hdx).own (by rw [upd_ne (Ne.symm hne)]; exact hx)
  refine ⟨.obj ρ1.w.length :: ds, ρ1.w ++ [.ins C []], _, _, fe ++ fr, .cons (.obj hn) (z1.mono eT), ⟨[], fw', qU', q1, f1.part ?_⟩, ?_⟩
  . have p1 : Part ([] ++ (fw' ++ (fe ++ fr))) ([] ++ (([(x, .ins (He.ga K C) dx [])] ++ fw) ++ (fe ++ fr))) := .app .refl (.app q2 .refl)
    refine p1.trans ?_
    walk_at "parts"
  . cases em : init (.obj ρ1.w.length :: ds) (ρ1.w ++ [.ins C []]) with
    | bad => rw [em] at h1; exact h1.elim
    | ok o w' =>
      rw [em] at h1
      intro v H' F' T' fp e z r
      cases z with
      | fz z =>
        rename_i d
        cases d <;> try exact h1.elim
        refine ⟨z.non_inv, h1 (.ref x) H' F' T' [] (e1.trans (eT.trans e)) (.fz (.obj (e.get hn))) ?_⟩
        exact Rel.reenv (re.mono eT) e r
      | lst _ => exact h1.elim
      | tup _ => exact h1.elim
      | dct _ _ => exact h1.elim
      | dcl _ _ => exact h1.elim
      | dcn _ _ _ => exact h1.elim
    | exc x w' =>
      rw [em] at h1
      intro cls dd H' F' T' e z r
      refine h1 cls dd H' F' T' (eT.trans e) z ?_
      exact Rel.reenv (fp := []) (re.mono eT) e r
theorem ng' {cs : List String} {m : String} {w : M.W} {x : M.D} (h : M.isIns cs m w x = true) : ∃ C n fs, C ∈ cs /\ x = .obj n /\ w[n]? = some (.ins C fs) /\ fs.lookup m = none := by
  unfold M.isIns at h
  split at h
  . rename_i n
    split at h
    . rename_i C' fs e
      rw [Bool.and_eq_true, decide_eq_true_eq, Option.isNone_iff_eq_none] at h
      exact ⟨C', n, fs, h.1, rfl, e, h.2⟩
    . cases h
  . cases h
theorem gY' {cs : List String} {m : String} {mf : M.MF} {ma : M.ME} {as : M.MA} (h : qO K W (M.dh' cs m mf ma as) σ H Q) : md' K cs (Str.ofString m) (spM K mf) (WE W) (qE K W ma) (qA K W as) σ H Q := by
  obtain ⟨ρ, F, T, fr, rel, h⟩ := h
  refine aw' rel h fun dx ρ1 v H1 F1 T1 e1 z1 r1 h1 => ?_
  split at h1
  . rename_i hi
    obtain ⟨C, n, fs, hC, rfl, ew, el⟩ := ng' hi
    obtain ⟨a, dx, fv, os, f2, hT, rfl, hH, r, _, _⟩ := r1.wins ew
    cases id z1 with
    | obj t =>
      rw [hT] at t
      cases t
      have hlen := r.length
      rw [List.length_map] at hlen
      refine ⟨C, hC, a, dx, _, rfl, hH, by rw [m4']; exact m5' hlen el, ?_⟩
      refine bX' r1 h1 fun ds ρ2 vs H2 F2 T2 e2 z2 r2 h2 => ?_
      obtain ⟨fe, fw, re, rw', f⟩ := r2
      refine ⟨.obj n :: ds, ρ2.w, F2, T2, fe ++ fr, .cons (z1.mono e2) z2, ⟨[], fw, qU', rw', f.part (by walk_at "parts")⟩, ?_⟩
      cases em : mf (.obj n :: ds) ρ2.w with
      | bad => rw [em] at h2; exact h2.elim
      | ok o w' =>
        rw [em] at h2
        exact fun v H' F' T' fp e z r => h2 v H' F' T' fp (e1.trans (e2.trans e)) z (Rel.reenv re e r)
      | exc x w' =>
        rw [em] at h2
        exact fun cls dd H' F' T' e z r => h2 cls dd H' F' T' e z (Rel.reenv (fp := []) re e r)
  . exact h1.elim
end
section
variable {X : Cx} {W : WX} {pos apos p pos' : Pos} {e o value : Expr} {es : List Expr} {ma : M.ME} {mo : M.MO} {as : M.MA} {k : Nat} {x : Str} {ps : List Str} {mf : M.MF}
theorem fg' {f : String} (cs : List String) (ha : SE X W e ma) (hC : ∀ C ∈ cs, Cls X.K (He.ga X.K C) /\ NoAttr X.K (He.ga X.K C) (Str.ofString f)) (hb : attributeBase e (Str.ofString f) X.env (eval e X.env) = eval e X.env := by rfl) :
    SE X W (.Attribute e (Str.ofString f) pos) (M.nt' cs ma f) := PE.imp (pe_fld ha hb) fun _ _ _ h => oM' hC h
theorem d7' {f : String} (cs : List String) (ha : SE X W o ma) (hv : SO X W value mo) (hC : ∀ C ∈ cs, Cls X.K (He.ga X.K C) /\ NoAttr X.K (He.ga X.K C) (Str.ofString f)) (hs : swapsWith value (some (.Attribute o (Str.ofString f) pos')) pos.line X.env = pure false := by rfl) :
    SS X W (.Assign [.Attribute o (Str.ofString f) pos'] value pos) (M.sFld cs ma f mo) := PS.imp (ps_fld ha hv hs) fun _ _ _ h => mm' hC h
theorem mi' {C : String} (F : OgM X.prog X.w X.K X.mg X.base k (He.ga X.K C) "__init__" ps (spM X.K mf)) (hr : RoomG (k + 1) X.A) (hg : Gl X x) (Mk' : Mk X.K (He.ga X.K C) (He.ma X.K (He.ga X.K C) "__init__")) (hm : X.mg x = some (.ref (He.ga X.K C))) (tk : Takes X W)
    (ha : SA X W (e :: es) as) (hdb : (x == ("__debug__" : Str)) = false := by decide) (he : starEach (e :: es) X.env = (false, eval e X.env) :: starEach es X.env := by rfl) (hpl : (backTo pos (starEach es X.env)).any (·.1) = false := by rfl) :
    SO X W (.Call (.Name x p) (e :: es) [] pos) (M.if' C mf as) := PE.imp (on' F hr hg Mk' hm tk ha hdb he hpl) fun _ _ _ h => m1' h
theorem qz' {C m : String} {cs : List String} {pl : Sem Bool} (he : SE X W o ma) (F : OgM X.prog X.w X.K X.mg X.base k (He.ga X.K C) (Str.ofString m) ps (spM X.K mf)) (hr : RoomG k X.A) (hm : ga' X.K cs (Str.ofString m) (He.ma X.K (He.ga X.K C) (Str.ofString m))) (tk : Takes X W)
    (ha : SA X W (e :: es) as)
    (hst : starEach (e :: es) X.env = (false, eval e X.env) :: starEach es X.env := by rfl) (hpl : (backTo pos (starEach es X.env)).any (·.1) = false := by rfl)
    (ht : eval (.Call (.Attribute o (Str.ofString m) apos) (e :: es) [] pos) X.env = (do
      let ov ← eval o X.env
      standAt apos.atName
      let (f, first) ← holding [ov] (getMethod ov (Str.ofString m) pl)
      callWith pos f first (backTo pos (starEach (e :: es) X.env)) (backToKw pos (keywordEach [] X.env))) := by rfl) :
    SO X W (.Call (.Attribute o (Str.ofString m) apos) (e :: es) [] pos) (M.dh' cs m mf ma as) := PE.imp (om' he F hr hm tk ha hst hpl ht) fun _ _ _ h => gY' h
theorem cn' {C m : String} {cs : List String} {pl : Sem Bool} (he : SE X W o ma) (F : OgM X.prog X.w X.K X.mg X.base k (He.ga X.K C) (Str.ofString m) ps (spM X.K mf)) (hr : RoomG k X.A) (hm : ga' X.K cs (Str.ofString m) (He.ma X.K (He.ga X.K C) (Str.ofString m))) (tk : Takes X W)
    (ht : eval (.Call (.Attribute o (Str.ofString m) apos) [] [] pos) X.env = (do
      let ov ← eval o X.env
      standAt apos.atName
      let (f, first) ← holding [ov] (getMethod ov (Str.ofString m) pl)
      callWith pos f first (backTo pos (starEach [] X.env)) (backToKw pos (keywordEach [] X.env))) := by rfl) :
    SO X W (.Call (.Attribute o (Str.ofString m) apos) [] [] pos) (M.dh' cs m mf ma M.bc') := PE.imp (mM' he F hr hm tk ht) fun σ H Q h => by
  have h2 := gY' h
  obtain ⟨ρ, F, T, fr, rel, q⟩ := h2
  refine ⟨ρ, F, T, fr, rel, q.mono (fun d ρ1 h1 v H1 F1 T1 e z r => ?_) fun _ _ z => z⟩
  obtain ⟨C, hC, a, dx, fs, e1, e2, e3, ρ2, F2, T2, fr2, rel2, q2⟩ := h1 v H1 F1 T1 e z r
  exact ⟨C, hC, a, dx, fs, e1, e2, e3, q2 [] H1 F2 T2 .refl .nil rel2⟩
end
end S
namespace S
open PySem PySem.Spec PyProof.Rows L2
variable [Wd] [Hot]
local macro_rules | `(tactic| walk_at "parts") => `(tactic| (constructor; (intro e h; simp only [List.mem_append, List.mem_cons, List.not_mem_nil] at *; grind); (intro x; simp only [keys, List.map_append, List.map_cons, List.map_nil, List.count_append, List.count_cons, List.count_nil] at *; omega)))
section
variable {K : PySem.W.Frag} {W : WX} {Q : VK} {σ : St} {H : Hp}
theorem vP' : Op1 K M.uR' (rU fun i => .int (-i)) := by
  intro F H T fp x dx dz Q f hx h k
  cases dx <;> try (cases h; done)
  cases hx; cases h
  exact ⟨_, rfl, k.here f (.int _)⟩
theorem fX' {F : Hp} {T : List Addr} : ∀ {vs : List V} {ds : List M.D} {ns : List Int}, FzA K F T vs ds -> M.bt' ds = some ns -> vs = ns.map V.int
  | _, _, ns, .nil, h => by cases h; rfl
  | _, d :: ds, ns, .cons a r, h => by
    cases d <;> try (cases h; done)
    rename_i b
    cases q : M.bt' ds with
    | none => simp only [M.bt', q] at h; cases h
    | some cs =>
      simp only [M.bt', q, Option.map_some] at h
      cases h
      rw [a.int_inv, fX' r q]
      rfl
theorem FzA.rgI {F : Hp} {T : List Addr} : ∀ ns : List Int, FzA K F T (ns.map V.int) (ns.map M.D.int)
  | [] => .nil
  | n :: r => .cons (.int n) (FzA.rgI r)
def j9' (c : Nat) : Str := ⟨#[c]⟩
def nY' (z : Str) : Nat := z.cps.toList.headD 0
theorem j4' {ys : List Str} {l : List Nat} (h : ys.Perm (l.map j9')) : ∃ l' : List Nat, ys = l'.map j9' /\ l'.Perm l := by
  refine ⟨ys.map nY', ?_, ?_⟩
  . rw [List.map_map]
    have : ∀ y ∈ ys, (j9' ∘ nY') y = y := fun y hy => by
      obtain ⟨c, _, rfl⟩ := List.mem_map.mp (h.subset hy)
      rfl
    exact (List.map_congr_left this).trans (List.map_id ys) |>.symm
  . have := h.map nY'
    rw [List.map_map] at this
    have e : l.map (nY' ∘ j9') = l := (List.map_congr_left fun c _ => rfl).trans (List.map_id l)
    rw [e] at this
    exact this
theorem kC' : ∀ (l : List Nat) (c : Nat), risingS (j9' c) (l.map j9') = true -> c <= l.headD c /\ sortedS (l.map j9') = true
  | [], c, _ => ⟨Nat.le_refl c, rfl⟩
  | e :: l, c, h => by
    rw [List.map_cons] at h ⊢
    unfold risingS at h
    rw [Bool.and_eq_true] at h
    obtain ⟨h1, h2⟩ := h
    refine ⟨?_, h2⟩
    show c <= e
    simp [ltCps, j9'] at h1
    omega
theorem db' : ∀ l : List Nat, sortedS (l.map j9') = true -> l.Pairwise (· <= ·)
  | [], _ => .nil
  | c :: l, h => by
    obtain ⟨h1, h2⟩ := kC' l c h
    have ih := db' l h2
    refine List.pairwise_cons.mpr ⟨fun d hd => ?_, ih⟩
    cases l with
    | nil => cases hd
    | cons e t =>
      have hce : c <= e := h1
      cases hd with
      | head => exact hce
      | tail _ hd => exact Nat.le_trans hce ((List.pairwise_cons.mp ih).1 d hd)
theorem jY' {l l' : List Nat} (p : l'.Perm l) (s : l'.Pairwise (· <= ·)) : l' = M.bq' l := by
  refine List.Perm.eq_of_pairwise (le := (· <= ·)) (fun a b _ _ h1 h2 => Nat.le_antisymm h1 h2) s ?_ (p.trans (List.mergeSort_perm l _).symm)
  exact (List.pairwise_mergeSort (le := fun a b => decide (a <= b)) (fun a b c h1 h2 => decide_eq_true (Nat.le_trans (of_decide_eq_true h1) (of_decide_eq_true h2))) (fun a b => by
    rw [Bool.or_eq_true, decide_eq_true_eq, decide_eq_true_eq]; omega) l).imp fun h => of_decide_eq_true h
theorem jZ' {l l' : List Int} (p : l'.Perm l) (s : l'.Pairwise (· <= ·)) : l' = M.h0' l := by
  refine List.Perm.eq_of_pairwise (le := (· <= ·)) (fun a b _ _ h1 h2 => Int.le_antisymm h1 h2) s ?_ (p.trans (List.mergeSort_perm l _).symm)
  exact (List.pairwise_mergeSort (le := fun a b => decide (a <= b)) (fun a b c h1 h2 => decide_eq_true (Int.le_trans (of_decide_eq_true h1) (of_decide_eq_true h2))) (fun a b => by
    rw [Bool.or_eq_true, decide_eq_true_eq, decide_eq_true_eq]; omega) l).imp fun h => of_decide_eq_true h
def mG' (K : PySem.W.Frag) : List V -> Hp -> VK -> Prop := fun vs H Q => gK' vs H Q \/ rSortedI K vs H Q \/ rSortedS K vs H Q
theorem dl' {X : Cx} (hc : X.calm = true) : CallR X (.builtin "sorted") (mG' X.K) := (iG' hc).or (cr_sortedI.or cr_sortedS)
theorem gD' {s : M.Tx} {c : Nat} : c ∈ M.bq' s ↔ c ∈ s := (List.mergeSort_perm s _).mem_iff
theorem j7' {K : PySem.W.Frag} {F : Hp} {T : List Addr} : ∀ {vs : List V} {ds : List M.D} {cs : List Nat}, FzA K F T vs ds -> M.j8' ds = some cs -> vs = (cs.map j9').map V.str /\ ∀ c ∈ cs, c < 1114112
  | _, [], _, .nil, h => by cases h; exact ⟨rfl, fun _ h => nomatch h⟩
  | _, d :: ds, cs, .cons z r, h => by
    unfold M.j8' at h
    split at h
    . rename_i e
      cases e
    . rename_i c r' e
      cases e
      obtain ⟨cs', h1, rfl⟩ := Option.map_eq_some_iff.mp h
      obtain ⟨e2, h2⟩ := j7' r h1
      obtain ⟨rfl, o⟩ := z.str_inv
      refine ⟨by rw [e2]; rfl, fun c' hc => ?_⟩
      rcases List.mem_cons.mp hc with rfl | hc
      . exact o.1 _ List.mem_cons_self
      . exact h2 _ hc
    . cases h
theorem f8' : Bi1 K M.bY' (mG' K) := by
  intro F H T fp x dx dz Q f hx h k
  cases dx <;> try (cases h; done)
  . obtain ⟨rfl, o⟩ := hx.str_inv
    rename_i s
    simp only [M.bY'] at h
    split at h
    . rename_i hl
      cases h
      refine .inl ⟨_, rfl, by rw [b0']; exact hl, fun ys p H' hp hs hn s' e => ?_⟩
      obtain ⟨l', rfl, p'⟩ := j4' hp
      rw [jY' p' (db' l' hs)] at *
      have z : FzA K F T (((M.bq' s).map j9').map V.str) ((M.bq' s).map M.chD) := by
        rw [List.map_map]
        exact FzA.chars fun c hc => o.1 c (gD'.mp hc)
      have hF : F p = none := f.free hn
      have sF : Same F (upd F p (.lst (((M.bq' s).map j9').map V.str))) := bW' hF
      refine k (.ref p) H' _ sF (.lst upd_same (z.mono (.of sF))) ⟨fun a u ha => ?_, fun q hq => ?_, f.nd, f.tbs (fun a h1 h2 h3 => ?_) fun c q h => h7' sF h⟩
      . by_cases hap : a = p
        . subst hap
          rw [upd_same] at ha
          cases ha
          exact e
        . rw [upd_ne hap] at ha
          exact s' _ _ (f.low _ _ ha)
      . have np : q.1 ≠ p := ne_of_none (f.at_ q hq).1 hn
        exact ⟨s' _ _ (f.at_ q hq).1, by rw [upd_ne np]; exact (f.at_ q hq).2⟩
      . have hap : a ≠ p := fun z => h2 (by rw [z]; exact hn)
        refine ⟨by rw [upd_ne hap]; exact h1, ?_, h3⟩
        cases hh : H a with
        | none => exact absurd hh h2
        | some o => exact s' _ _ hh
    . cases h
  . obtain ⟨a, vs, rfl, ha, za⟩ := hx.lst_inv
    rename_i ds
    cases q : M.bt' ds with
    | none =>
      simp only [M.bY', q] at h
      obtain ⟨cs, h1, h2⟩ := Option.bind_eq_some_iff.mp h
      split at h2
      . rename_i hl
        cases h2
        obtain ⟨e2, hc⟩ := j7' za h1
        refine .inr (.inr ⟨a, cs.map j9', rfl, by rw [<- e2]; exact SqL.of (f.low _ _ ha), by rw [List.length_map]; exact hl, fun ys p hp hs hn => ?_⟩)
        obtain ⟨l', rfl, p'⟩ := j4' hp
        rw [jY' p' (db' l' hs)]
        have z : FzA K F T (((M.bq' cs).map j9').map V.str) ((M.bq' cs).map M.chD) := by
          rw [List.map_map]
          exact FzA.chars fun c hc' => hc c (gD'.mp hc')
        exact k.newL f z hn
      . cases h2
    | some ns =>
      simp only [M.bY', q] at h
      cases h
      refine .inr (.inl ⟨a, ns, rfl, by rw [<- fX' za q]; exact SqL.of (f.low _ _ ha), fun ns' p hp hs hn => ?_⟩)
      rw [jZ' hp hs]
      exact k.newL f (FzA.rgI _) hn
def vT' : M.D -> Option Key
  | .int i => some (.inl i)
  | .str s => some (.inr (sx s))
  | _ => none
theorem q3' {d : M.D} {k : Key} (h : vT' d = some k) : kD k = d := by
  cases d <;> cases h <;> rfl
theorem tv' {F : Hp} {T : List Addr} {v : V} {d : M.D} {k : Key} (z : Fz K F T v d) (h : vT' d = some k) : v = kV k := by
  cases d <;> cases h
  . cases z; rfl
  . obtain ⟨rfl, _⟩ := z.str_inv; rfl
end
section
variable {X : Cx} {W : WX} {pos p pos' : Pos} {a b e : Expr} {ma mb : M.ME} {mo : M.MO} {σ : St} {H : Hp} {Q : VK}
theorem d9' {x : Str} (t : String) (ht : t ∈ ["bool", "int", "str", "tuple", "list", "dict"]) (hg : Gl X x) (hm : X.mg x = none) (hv : bootBuiltins x = some (.builtin "isinstance")) (ha : SE X W a ma) (hb : PE X b (tC (.ty t))) (hn : x ≠ "__name__" := by decide) (hdb : (x == ("__debug__" : Str)) = false := by decide)
    (he : starEach [a, b] X.env = (false, eval a X.env) :: starEach [b] X.env := by rfl) (he2 : starEach [b] X.env = (false, eval b X.env) :: starEach [] X.env := by rfl) (hpl : (backTo pos (starEach [b] X.env)).any (·.1) = false := by rfl) : SE X W (.Call (.Name x p) [a, b] [] pos) (M.eUn (M.bs' t) ma) :=
  PE.imp (pe_callB call_isi hg hm hv (pa_cons ha (pa_cons hb pa_nil he2) he) hn hdb he hpl) fun σ H Q ⟨ρ, F, T, fr, rel, h⟩ => by
    refine aw' rel h fun dx ρ1 v H1 F1 T1 e1 z1 r1 h1 => ?_
    obtain ⟨dz, ez, q⟩ := a0'.ofO h1
    unfold M.bs' at ez
    cases eq : M.tyn dx with
    | none => rw [eq] at ez; cases ez
    | some n =>
      rw [eq] at ez
      cases ez
      obtain ⟨fp, f, _⟩ := r1.fp
      exact vg' (mb' f.low z1 eq) (kit_ty (q0' n (qs' eq) t ht)) (q _ H1 F1 T1 e1 (.bl _) r1)
theorem h4' : SO X W (.Dict [] [] pos) M.kG' := PE.imp pe_dnewK fun σ H Q ⟨ρ, F, T, fr, rel, h⟩ => fun p hp => by
  have z : Rp X.K F T (.ref p) (.dct [] []) [(p, .dK [])] := Rp.dct (kvs := []) .nil .nil
  exact h (.ref p) _ F T _ .refl z (rel.own hp)
theorem qy' {f : M.D -> Option M.D} {r : List V -> Hp -> VK -> Prop} {x : Str} {id : String} (hc : CallR X (.type id) r)
    (hf : ∀ {F H : Hp} {T : List Addr} {v : V} {d : M.D} {ds : List M.D} {Q : VK}, Same F H -> Fz X.K F T v d -> f d = some (.lst ds) -> (∀ l ws, H l = none -> FzA X.K F T ws ds -> Q (.ref l) (upd H l (.lst ws))) -> r [v] H Q)
    (hg : Gl X x) (hm : X.mg x = none) (hv : bootBuiltins x = some (.type id)) (ha : SE X W a ma) (hn : x ≠ "__name__" := by decide) (hdb : (x == ("__debug__" : Str)) = false := by decide)
    (he : starEach [a] X.env = (false, eval a X.env) :: starEach [] X.env := by rfl) (hpl : (backTo pos (starEach [] X.env)).any (·.1) = false := by rfl) : SO X W (.Call (.Name x p) [a] [] pos) (M.mV' (M.eUn f ma)) :=
  PE.imp (pe_callTy hc hg hm hv (pa_cons ha pa_nil he) hn hdb he hpl) fun σ H Q ⟨ρ, F, T, fr, rel, h⟩ => by
    have h0 := a0'.bind h
    refine aw' rel h0 fun dx ρ1 v H1 F1 T1 e1 z1 r1 h1 => ?_
    obtain ⟨dz, ez, q⟩ := a0'.ofO h1
    cases dz <;> try exact q.elim
    rename_i ds
    obtain ⟨fp, f1, _⟩ := r1.fp
    refine hf f1.low z1 ez fun l ws hl zw => ?_
    exact q (.ref l) _ F1 T1 _ e1 (.lst (RpA.of_fz zw)) (r1.own hl)
theorem oz' {K : PySem.W.Frag} {F H : Hp} {T : List Addr} {v : V} {d : M.D} {ds : List M.D} {Q : VK} (s : Same F H) (z : Fz K F T v d) (h : M.el' d = some (.lst ds)) (k : ∀ l ws, H l = none -> FzA K F T ws ds -> Q (.ref l) (upd H l (.lst ws))) : pK' K [v] H Q := by
  cases d <;> try (cases h; done)
  . obtain ⟨rfl, o⟩ := z.str_inv
    cases h
    exact .inr ⟨_, rfl, o.len, fun l hl => k l _ hl (FzA.signs o)⟩
  . obtain ⟨a, vs, rfl, ha, za⟩ := z.tup_inv
    cases h
    exact .inl ⟨a, vs, rfl, .inr (seqT s ha), fun l hl => k l vs hl za⟩
  . obtain ⟨a, vs, rfl, ha, za⟩ := z.lst_inv
    cases h
    exact .inl ⟨a, vs, rfl, .inl (SqL.of (s _ _ ha)), fun l hl => k l vs hl za⟩
theorem FzA.rg {K : PySem.W.Frag} {F : Hp} {T : List Addr} (a b : Int) : FzA K F T (rgV a b) (M.c0' a b) := FzA.of_all fun i => .int _
theorem vB' {a b : Int} (h : M.RgB a b = true) : RgOk a b := by
  unfold M.RgB at h
  simp only [Bool.and_eq_true, decide_eq_true_eq] at h
  exact ⟨h.1.1.1.1, h.1.1.1.2, h.1.1.2, h.1.2, h.2⟩
theorem kB' {q : Pos} (hc : X.calm = true) (hg : Gl X "list") (hm : X.mg "list" = none) (hg2 : Gl X "range") (hm2 : X.mg "range" = none) (ha : SE X W a ma)
    (na2 : starEach [a] X.env = (false, eval a X.env) :: starEach [] X.env := by rfl) (na : starEach [.Call (.Name "range" q) [a] [] pos'] X.env = (false, eval (.Call (.Name "range" q) [a] [] pos') X.env) :: starEach [] X.env := by rfl) :
    SO X W (.Call (.Name "list" p) [.Call (.Name "range" q) [a] [] pos'] [] pos) (M.mV' (M.eUn M.cP' ma)) :=
  PE.imp (pe_listRg hc hg hm (prg_1 hg2 hm2 ha na2) na) fun σ H Q ⟨ρ, F, T, fr, rel, h⟩ => by
    have h0 := a0'.bind h
    refine aw' rel h0 fun dx ρ1 v H1 F1 T1 e1 z1 r1 h1 => ?_
    obtain ⟨dz, ez, q⟩ := a0'.ofO h1
    unfold M.cP' at ez
    split at ez
    . split at ez
      . rename_i hr
        cases ez
        refine ⟨_, z1.int_inv, vB' hr, fun l hl => ?_⟩
        exact q (.ref l) _ F1 T1 _ e1 (.lst (RpA.of_fz (FzA.rg _ _))) (r1.own hl)
      . cases ez
    . cases ez
theorem RpA.erase {K : PySem.W.Frag} {F : Hp} {T : List Addr} {y : M.D} : ∀ {os : List M.O} {vs : List V} {f2 : Fp} {j : Nat}, RpA K F T vs os f2 -> os[j]? = some (.fz y) -> ∃ v, vs[j]? = some v /\ Fz K F T v y /\ RpA K F T (vs.eraseIdx j) (os.eraseIdx j) f2
  | [], _, _, _, r, h => by cases h
  | o :: os, _, _, 0, r, h => by
    cases r with
    | cons r0 r =>
      cases h
      cases r0 with
      | fz z => exact ⟨_, rfl, z, r⟩
  | o :: os, _, _, j + 1, r, h => by
    cases r with
    | cons r0 r =>
      obtain ⟨v, h1, h2, h3⟩ := RpA.erase (j := j) r h
      exact ⟨v, h1, h2, .cons r0 h3⟩
theorem n6' {n : Nat} {nm : Str} {px apos : Pos} (hv : PE X (.Name nm px) (tVar n)) (ha : SE X W a ma)
    (hbase : attributeBase (.Name nm px) "pop" X.env (eval (.Name nm px) X.env) = eval (.Name nm px) X.env := by rfl)
    (hfew : ((backTo pos (starEach [a] X.env)).all (fun x => !x.1) && (backToKw pos (keywordEach [] X.env)).all (fun x => x.1.isSome)
      && decide ([a].length + ([] : List Keyword).length + (if ([] : List Keyword).isEmpty then 0 else 1) < 30)) = true := by rfl)
    (hline : (apos.endLine == pos.line) = true := by rfl) (hs : starEach [a] X.env = (false, eval a X.env) :: starEach [] X.env := by rfl) (hplain : (backTo pos (starEach [] X.env)).any (·.1) = false := by rfl) :
    SE X W (.Call (.Attribute (.Name nm px) "pop" apos) [a] [] pos) (M.g6' n ma) :=
  PE.imp (pe_bm PySem.F.plainAttrs_list PySem.F.slot_list_pop PySem.F.type_list_pop mt_popAt hv (pa_cons ha pa_nil hs) hbase hfew hline hs hplain) fun σ H Q ⟨ρ, F, T, fr, rel, h⟩ => by
    unfold M.g6' at h
    split at h
    . rename_i os0 e0
      obtain ⟨fe, fw, re, rw, ff⟩ := id rel
      obtain ⟨v, f1, f2, f3, h1, _, h3, _⟩ := re.get e0
      cases h3 with
      | @lst p vs0 _ fp0 r0 =>
        obtain ⟨vs1, f21, hH, _, _⟩ := rel.slotW e0 h1
        refine ⟨.ref p, h1, .inl ⟨rfl, vs1, SqL.of hH⟩, aw' rel h fun d ρ1 u H1 F1 T1 e1 z1 r1 h2 => ?_⟩
        split at h2
        . rename_i os z e2
          split at h2
          . rename_i j ej
            split at h2
            . rename_i y ey
              cases z1
              obtain ⟨vs, f2', hH2, r2, back⟩ := r1.slotW e2 h1
              obtain ⟨vy, g1, g2, g3⟩ := RpA.erase r2 ey
              split at ej
              . rename_i hl
                have hlen : vs.length <= M.dQ' := by rw [r2.length]; exact hl
                have ej' : ixN vs.length z = some j := by rw [r2.length]; exact ej
                obtain ⟨q1, q2, q3, q4⟩ := ixN_seq ej'
                have hlen' : vs.length <= 16777216 := hlen
                exact ⟨p, vs, z, j, vy, rfl, rfl, hH2, by omega, by omega, q1, g1, h2 vy _ F1 T1 e1 g2 (back _ _ f2' fr g3 .refl)⟩
              . cases ej
            . exact h2.elim
          . exact h2.elim
        . exact h2.elim
    . exact h.elim
end
end S
namespace S
open PySem PySem.Spec PyProof.Rows L2
variable [Wd] [Hot]
section
variable {X : Cx} {W : WX} {K : PySem.W.Frag} {D : Ends} {σ : St} {H : Hp} {F : Hp} {T : List Addr} {fr : Fp}
abbrev Hm := List ((String -> Option Bool) × (M.Exc -> M.MS))
def tsM (K : PySem.W.Frag) (h : M.Exc -> M.MS) : Addr -> Value -> Option Addr -> TS := fun _ cls _ D σ H => ∃ e : M.Exc, cls = .ref (He.ga K e.cls) /\ qS K W0 (h e) D σ H
inductive HdsM (X : Cx) : List ExceptHandler -> Hm -> List (Value × (Addr -> Value -> Option Addr -> TS)) -> Prop
  | nil : HdsM X [] [] []
  | cons {x : Str} {c : Value} {g : String -> Option Bool} {h : M.Exc -> M.MS} {b₀ : Stmt} {suite : List Stmt} {np pos' : Pos} {hds : List ExceptHandler} {l : Hm} {l' : List (Value × (Addr -> Value -> Option Addr -> TS))} (hc : Names X x c)
      (hg : ∀ y b, g y = some b -> PySem.W.exmOne X.K (.ref (He.ga X.K y)) c = some b)
      (hsu : ∀ (e : M.Exc) (a : Addr) (oe : Obj) (d : Option Addr) (pn : List (Addr × Obj)), Zc (.ref (He.ga X.K e.cls)) d oe -> (∃ vs, oe.data = .fields vs) -> SSs (X.suite a ((a, oe) :: pn)) W0 (b₀ :: suite) (h e)) (r : HdsM X hds l l') :
      HdsM X (.ExceptHandler (some (.Name x np)) none (b₀ :: suite) pos' :: hds) ((g, h) :: l) ((c, tsM X.K h) :: l')
theorem jU' {h : M.Exc -> M.MS} {b : List Stmt} (hsu : ∀ (e : M.Exc) (a : Addr) (oe : Obj) (d : Option Addr) (pn : List (Addr × Obj)), Zc (.ref (He.ga X.K e.cls)) d oe -> (∃ vs, oe.data = .fields vs) -> SSs (X.suite a ((a, oe) :: pn)) W0 b (h e)) :
    ∀ (a : Addr) (oe : Obj) (cls : Value) (d : Option Addr) (pn : List (Addr × Obj)), Zc cls d oe -> (∃ vs, oe.data = .fields vs) -> PSs (X.suite a ((a, oe) :: pn)) b (tsM X.K h a cls d) := by
  intro a oe cls d pn hz hf
  refine ⟨fun pins s σ H D I q => ?_⟩
  obtain ⟨e, rfl, q⟩ := q
  exact (hsu e a oe d pn hz hf).run pins s σ H D I q
theorem HdsM.ok {hds : List ExceptHandler} {l : Hm} {l' : List (Value × (Addr -> Value -> Option Addr -> TS))} (h : HdsM X hds l l') : HdsOk X hds l' := by
  induction h with
  | nil => exact .nil
  | cons hc hg hsu r ih => exact .cons hc (jU' hsu) ih
theorem bh'.noX {r : M.Out} (h : bh' K W D F T fr (M.xc' r)) : bh' K W0 D F T fr r := by
  cases r with
  | exc x ρ => exact h.elim
  | nx ρ => exact h
  | bk ρ => exact h
  | ct ρ => exact h
  | rt o w => exact h
  | bad => exact h
theorem Rel.off {K : PySem.W.Frag} {ρ : M.PSt} (r : Rel K ρ σ H F T fr) (i : Nat) (x : Option V) : Rel K ⟨ρ.env.set i none, ρ.w⟩ (σ.set i x) H F T fr := by
  obtain ⟨fe, fw, re, rw, f⟩ := r
  obtain ⟨fq, h1, h2⟩ := re.drop i x
  exact ⟨fq, fw, h1, rw, f.part (.app h2 .refl)⟩
end
end S
namespace S
open PySem PySem.Spec PyProof.Rows L2
variable [Wd] [Hot]
section
variable {X : Cx} {W : WX} {pos p : Pos} {a b e : Expr} {st : Stmt} {es : List Expr} {ma mb : M.ME} {as : M.MA}
theorem vq' {i : Nat} (h : PE X e (tVar i)) : SO X W e (M.oV i) := PE.imp h fun σ H Q ⟨ρ, F, T, fr, rel, h⟩ => by
  unfold M.oV at h
  split at h
  . rename_i d e
    obtain ⟨fe, fw, re, rw, f⟩ := id rel
    obtain ⟨v, f1, f2, f3, h1, rfl, h3, h4, h5⟩ := re.get e
    cases h3 with
    | fz z => exact ⟨v, h1, h v H F T [] .refl (.fz z) rel⟩
  . exact h.elim
  . exact h.elim
  . rename_i o _ hne hnc e
    obtain ⟨fe, fw, re, rw, f⟩ := rel
    obtain ⟨v, f1, f2, f3, h1, rfl, h3, h4, h5⟩ := re.get e (M.hU' (fun z => hne (by rw [z])) fun z => hnc (by rw [z]))
    refine ⟨v, h1, h v H F T f2 .refl h3 ⟨_, fw, h4, rw, f.part ?_⟩⟩
    constructor
    . intro e h
      simp only [List.mem_append] at *
      grind
    . intro x
      simp only [keys, List.map_append, List.count_append] at *
      omega
  . exact h.elim
theorem mj' (h : SA X W es as) : SO X W (.List es pos) (M.mV' (M.kL' as)) := PE.imp (pe_lst h) fun σ H Q ⟨ρ, F, T, fr, rel, h⟩ => by
  have h0 := a0'.bind h
  refine bX' rel h0 fun ds ρ1 vs H1 F1 T1 e1 z1 r1 h1 => ?_
  split at h1
  . rename_i hl
    refine ⟨by rw [z1.length, bw']; exact hl, fun p hp => ?_⟩
    exact h1 (.ref p) _ F1 T1 _ e1 (.lst (RpA.of_fz z1)) (r1.own hp)
  . exact h1.elim
theorem hX' : SS X W st M.uN' := ⟨fun _ _ _ _ _ _ ⟨_, _, _, _, _, h⟩ => h.elim⟩
end
section
variable {K : PySem.W.Frag} {F : Hp} {T : List Addr}
end
section
variable {X : Cx} {W : WX} {pos p tpos : Pos} {a : Expr} {ma : M.ME} {σ : St} {H : Hp} {elts : List Expr} {kk : Nat}
end
theorem tI' {K : PySem.W.Frag} {F : Hp} {T : List Addr} {x : Str} {s : M.Tx} (hs : x = sx s) (ho : uU' s = true) : Fz K F T (.str x) (.str s) := by subst hs; exact .str (pR' ho)
end S
namespace S
open PySem PySem.Spec PyProof.Rows L2
variable [Wd] [Hot]
section
variable {X : Cx} {W : WX} {K : PySem.W.Frag} {pos p : Pos} {a b : Expr} {ma : M.ME} {F H : Hp} {T : List Addr}
end
def r1' [Wd] (H : Hp) : Hp := fun b => if b ∈ Wd.ts.map (·.1) then none else H b
theorem mX' [Wd] (H : Hp) : Same (r1' H) H := fun b o h => by
  unfold r1' at h
  split at h
  . cases h
  . exact h
theorem mY' [Wd] {H : Hp} (hT : ∀ p ∈ Wd.ts, H p.1 = some (.tbl #[])) {b : Addr} {o : HO} (h : H b = some o) (ho : o ≠ .tbl #[]) : r1' H b = some o := by
  unfold r1'
  rw [if_neg fun z => ?_]
  . exact h
  . obtain ⟨p, hp, e⟩ := List.mem_map.mp z
    have := hT p hp
    rw [e, h] at this
    exact ho (Option.some.inj this)
theorem oy' [Wd] {K : PySem.W.Frag} {H : Hp} (hT : ∀ p ∈ Wd.ts, H p.1 = some (.tbl #[])) {a : Addr} {vs : List V} (h : SqL K H a vs) : SqL K (r1' H) a vs := by
  rcases h with (h | ⟨o, h⟩) | h
  . exact .inl (.inl (mY' hT h (by intro z; cases z)))
  . exact .inl (.inr ⟨o, mY' hT h (by intro z; cases z)⟩)
  . exact .inr h
theorem nb' [Wd] (K : PySem.W.Frag) (H : Hp) (hT : ∀ p ∈ Wd.ts, H p.1 = some (.tbl #[])) (a : Addr) (ns : List Int) (hn : ns.length <= 63) (hs : SqL K H a (ns.map V.int)) {m : M.MF} (h : ∀ ns : List Int, ns.length <= 63 -> ∃ w, m [.scr (ns.map .int)] [] = .ok (.fz (.bl true)) w) :
    spM K m [.ref a] H (fun v _ => v = .bl true) L2.E0 := by
  obtain ⟨w, e⟩ := h ns hn
  refine ⟨[.scr (ns.map .int)], [], r1' H, [], [], .cons (.scr (oy' hT hs) (FzA.rgI ns)) .nil, ⟨[], [], qU', .nil, ⟨mX' H, fun _ h => (nomatch h), .nil, fun p hp => ⟨if_pos (List.mem_map_of_mem hp), fun _ h => (nomatch h), #[], hT p hp, True.intro, fun pos cv hc => ?_⟩⟩⟩, ?_⟩
  . have z : codeAmong pos [] = some cv := hc
    simp [codeAmong] at z
  rw [e]
  intro v H' F' T' fp _ z _
  cases z with
  | fz z => exact z.bl_inv
end S
namespace S
open PySem PySem.Spec PyProof.Rows L2
variable [Wd] [Hot]
section
variable {X : Cx} {W : WX} {K : PySem.W.Frag} {cpos apos p : Pos} {name : Str} {id T : String} {o e : Expr} {es : List Expr} {mo : M.ME} {as : M.MA} {σ : St} {H : Hp} {Q : VK}
end
end S
namespace S
open PySem PySem.Spec PyProof.Rows L2
variable [Wd] [Hot]
section
variable {X : Cx} {W : WX} {K : PySem.W.Frag}
end
end S
namespace S
open PySem PySem.Spec PyProof.Rows L2
variable [Wd] [Hot]
section
variable {P : Program} {w : World} {K : PySem.W.Frag} {mg : Str -> Option Value} {base : Heap}
end
section
variable {X : Cx} {W : WX} {K : PySem.W.Frag}
end
end S
namespace S
open PySem PySem.Spec PyProof.Rows L2
variable [Wd] [Hot]
local macro_rules | `(tactic| walk_at "parts") => `(tactic| (constructor; (intro e h; simp only [List.mem_append, List.mem_cons, List.not_mem_nil] at *; grind); (intro x; simp only [keys, List.map_append, List.map_cons, List.map_nil, List.count_append, List.count_cons, List.count_nil] at *; omega)))
section
variable {K : PySem.W.Frag} {F F' H H' : Hp} {T T' : List Addr} {fp fq fr : Fp} {ρ : M.PSt} {σ : St} {W : WX} {Q : VK}
theorem tD' {d : M.D} (h : M.isK d = true) : ∃ k, vT' d = some k := by cases d <;> first | exact ⟨_, rfl⟩ | (cases h)
theorem RpA.dget {vs : List V} {os : List M.O} {ks : List M.D} {dk : M.D} (h : RpA K F T vs os fp) : (M.dget ks vs dk).isSome = (M.dget ks os dk).isSome /\ ∀ d, M.dget ks os dk = some (.fz d) -> ∃ u, M.dget ks vs dk = some u /\ Fz K F T u d := by
  unfold M.dget
  cases M.r2' ks dk with
  | none => exact ⟨rfl, fun d e => nomatch e⟩
  | some j =>
    simp only [Option.bind_some]
    refine ⟨?_, fun d e => h.get e⟩
    rw [Bool.eq_iff_iff, Option.isSome_iff_exists, Option.isSome_iff_exists]
    constructor
    . rintro ⟨x, e⟩
      exact ⟨_, List.getElem?_eq_getElem (h.length ▸ (List.getElem?_eq_some_iff.mp e).1)⟩
    . rintro ⟨x, e⟩
      exact ⟨_, List.getElem?_eq_getElem (h.length ▸ (List.getElem?_eq_some_iff.mp e).1)⟩
theorem tg' {v : V} {k : Key} (z : Fz K F T v (kD k)) : okK k := by
  cases k with
  | inl i => exact True.intro
  | inr x =>
    obtain ⟨_, o⟩ := Fz.str_inv (s := x.cps.toList) z
    exact o
end
section
variable {X : Cx} {W : WX} {pos tpos : Pos} {a b o i : Expr} {ma mb mo mi : M.ME} {σ : St} {H : Hp} {Q : VK}
theorem mk' {k e : Expr} {mk me : M.ME} (hk : SE X W k mk) (hv : SE X W e me) : SO X W (.Dict [some k] [e] pos) (M.gV' false mk me) :=
  PE.imp (pe_disp (pps_cons hk hv pps_nil) rfl rfl (by intro z; cases z) (by simp)) fun σ H Q ⟨ρ, F, T, fr, rel, h⟩ => fun p hp => by
    have fr1 : Part fr ((p, HO.dK []) :: fr) := by walk_at "parts"
    refine ⟨ρ, F, T, (p, .dK []) :: fr, rel.own hp, (a0'.bind h).mono (fun dk ρ1 h1 y H1 F1 T1 e1 zk r1 => ?_) fun _ _ z => z.frame fr1⟩
    refine ⟨ρ1, F1, T1, (p, .dK []) :: fr, r1, (a0'.bind (h1.mono (fun _ _ z => z) fun _ _ z => z)).mono (fun d ρ2 h2 v H2 F2 T2 e2 zv r2 => ?_) fun _ _ z => (z.mono e1).frame fr1⟩
    obtain ⟨o, eo, q⟩ := a0'.ofO h2
    simp only [M.fn', Bool.false_eq_true, if_false] at eo
    split at eo
    . rename_i hc
      cases eo
      obtain ⟨key, hk⟩ := tD' hc
      have e3 := tv' zk hk
      have e4 := q3' hk
      subst e3 e4
      refine ⟨r2.at_ (e := (p, .dK [])) List.mem_cons_self, [(key, v)], rfl, (by show 1 <= 15; decide), ?_⟩
      refine q (.ref p) _ F2 T2 [(p, .dK [(key, v)])] (e1.trans e2) ?_ ?_
      . exact .dct (kvs := [(key, v)]) (fun p hp => by rw [List.mem_singleton.mp hp]; exact tg' zk) (RpA.cons (fp := []) (fq := []) (.fz zv) .nil)
      . exact r2.write
    . cases eo
end
end S
namespace S
open PySem PySem.Spec PyProof.Rows L2
variable [Wd] [Hot]
section
variable {K : PySem.W.Frag} {F F' H H' : Hp} {T T' : List Addr} {fp fq fr : Fp} {ρ : M.PSt} {σ : St} {W : WX} {Q : VK}
theorem Wk.frz {a : Addr} {o : Obj} {u : HO} (s : Wk F F') (h : F a = some (.frz o u)) : F' a = some (.frz o u) := s.at_ h fun _ e => nomatch e
end
section
variable {X : Cx} {W : WX} {tg a : Expr} {ma : M.ME} {apos cpos : Pos}
end
section
variable {K : PySem.W.Frag} {F F' H H' : Hp} {T T' : List Addr} {fp fq fr : Fp} {ρ : M.PSt} {σ : St} {W : WX}
end
section
variable {X : Cx} {W : WX} {pos : Pos} {kx vx tg iter : Expr} {ifs : List Expr} {scope : Scope} {own : List (Str × Nat)} {sl : List Nat} {it : M.MI} {g : M.MG} {t : M.MT} {ek ev : M.ME}
end
section
variable {K : PySem.W.Frag}
end
section
variable {X : Cx} {W : WX} {e : Expr} {te : TE} {apos cpos pos p : Pos} {me : M.ME}
end
end S
namespace S
open PySem PySem.Spec PyProof.Rows L2
variable [Wd] [Hot]
section
variable {K : PySem.W.Frag} {F H : Hp} {T : List Addr}
mutual
theorem eh' : ∀ {v : V} {d : M.D}, Fz K F T v d -> M.dat d = true -> M.oh' d = true -> (py d).leavesShort 62 = true /\ (py d).showable = true /\ (py d).hasDict = false /\ (py d).bulk = M.mx' d
  | _, _, .non, _, _ => ⟨rfl, rfl, rfl, rfl⟩
  | _, _, .bl b, _, _ => ⟨rfl, rfl, rfl, rfl⟩
  | _, _, .int i, _, h => by
    have h : i.natAbs < 10 ^ 60 := of_decide_eq_true h
    refine ⟨?_, ?_, rfl, rfl⟩
    . show decide ((Str.ofString (toString i)).length <= 62) = true
      rw [decide_eq_true_iff, PySem.ofString_length]
      have := int_text_length_le10 (k := 60) (by decide) h
      omega
    . show decide (i.natAbs.log2 < 1920) = true
      rw [decide_eq_true_iff]
      have h2 : i.natAbs < 2 ^ 1920 := Nat.lt_of_lt_of_le h (by decide +kernel)
      by_cases h0 : i.natAbs = 0
      . rw [h0]; decide
      . exact (Nat.log2_lt h0).mpr h2
  | _, _, .str (s := s) o, _, _ => by
    refine ⟨?_, rfl, rfl, ?_⟩
    . show (sx s).cps.toList.all _ = true
      rw [fc', List.all_eq_true]
      intro c hc
      rw [decide_eq_true_iff]
      have := o.1 c hc
      omega
    . exact b0' s
  | _, _, .tup h r, e, g => by
    obtain ⟨a, b, c, d⟩ := reps_facts r e g
    exact ⟨a, b, c, d⟩
  | _, _, .lst h r, e, g => by
    obtain ⟨a, b, c, d⟩ := reps_facts r e g
    exact ⟨a, b, c, d⟩
  | _, _, .dct h _ r, e, _ => by cases e
  | _, _, .dcl h k r, e, _ => by cases e
  | _, _, .dcn h k q r, e, _ => by cases e
  | _, _, .rep d, e, _ => by cases e
  | _, _, .obj h, e, _ => by cases e
  | _, _, .ty n, e, _ => by cases e
  | _, _, .fn x, e, _ => by cases e
  | _, _, .scr h r, e, _ => by cases e
theorem reps_facts : ∀ {vs : List V} {ds : List M.D}, FzA K F T vs ds -> M.dats ds = true -> M.repIs ds = true -> PyData.leavesShortAll 62 (pys ds) = true /\ PyData.showableAll (pys ds) = true /\ PyData.hasDictAll (pys ds) = false /\ PyData.bulkAll (pys ds) = M.repWs ds
  | _, _, .nil, _, _ => ⟨rfl, rfl, rfl, rfl⟩
  | _, _, .cons h r, e, g => by
    obtain ⟨e1, e2⟩ := Bool.and_eq_true_iff.mp (show (M.dat _ && M.dats _) = true from e)
    obtain ⟨g1, g2⟩ := Bool.and_eq_true_iff.mp (show (M.oh' _ && M.repIs _) = true from g)
    obtain ⟨a1, a2, a3, a4⟩ := eh' h e1 g1
    obtain ⟨b1, b2, b3, b4⟩ := reps_facts r e2 g2
    refine ⟨?_, ?_, ?_, ?_⟩
    . show (PyData.leavesShort 62 _ && PyData.leavesShortAll 62 _) = true
      rw [a1, b1]; rfl
    . show (PyData.showable _ && PyData.showableAll _) = true
      rw [a2, b2]; rfl
    . show (PyData.hasDict _ || PyData.hasDictAll _) = false
      rw [a3, b3]; rfl
    . show PyData.bulk _ + 1 + PyData.bulkAll _ = M.mx' _ + 1 + M.repWs _
      rw [a4, b4]
end
mutual
theorem mr' : ∀ d e : M.D, M.same d e = true -> d = e
  | .non, e, h => by cases e <;> first | rfl | (cases h)
  | .bl a, e, h => by cases e <;> first | (have := eq_of_beq (show (_ == _) = true from h); rw [this]) | (cases h)
  | .int a, e, h => by cases e <;> first | (have := eq_of_beq (show (_ == _) = true from h); rw [this]) | (cases h)
  | .str a, e, h => by cases e <;> first | (have := eq_of_beq (show (_ == _) = true from h); rw [this]) | (cases h)
  | .lst a, e, h => by
    cases e with
    | lst b => rw [sames_eq a b h]
    | _ => cases h
  | .tup a, e, h => by
    cases e with
    | tup b => rw [sames_eq a b h]
    | _ => cases h
  | .dct a b, e, h => by
    cases e with
    | dct c d =>
      obtain ⟨h1, h2⟩ := Bool.and_eq_true_iff.mp (show (M.sames a c && M.sames b d) = true from h)
      rw [sames_eq a c h1, sames_eq b d h2]
    | _ => cases h
  | .dcx _ _, e, h => by cases e <;> cases h
  | .rep _, e, h => by cases e <;> cases h
  | .obj _, e, h => by cases e <;> cases h
  | .ty _, e, h => by cases e <;> cases h
  | .fn _, e, h => by cases e <;> cases h
  | .exc _ _, e, h => by cases e <;> cases h
  | .scr _, e, h => by cases e <;> cases h
theorem sames_eq : ∀ d e : List M.D, M.sames d e = true -> d = e
  | [], [], _ => rfl
  | [], _ :: _, h => by cases h
  | _ :: _, [], h => by cases h
  | a :: d, b :: e, h => by
    obtain ⟨h1, h2⟩ := Bool.and_eq_true_iff.mp (show (M.same a b && M.sames d e) = true from h)
    rw [mr' a b h1, sames_eq d e h2]
end
end
section
variable {K : PySem.W.Frag} {F H : Hp} {T : List Addr}
theorem FzA.keys : ∀ {kvs : List (Key × V)}, kv' kvs -> FzA K F T (kvs.map fun p => kV p.1) (kvs.map fun p => kD p.1)
  | [], _ => .nil
  | (k, v) :: r, h => by
    have hk := h (k, v) (List.mem_cons_self ..)
    refine .cons ?_ (FzA.keys fun p hp => h p (List.mem_cons_of_mem _ hp))
    cases k with
    | inl i => exact .int i
    | inr x =>
      have : Fz K F T (.str (sx x.cps.toList)) (.str x.cps.toList) := .str hk
      exact this
theorem eE' : ∀ kvs : List (Key × V), M.dats (kvs.map fun p => kD p.1) = true
  | [] => rfl
  | (k, v) :: r => by
    show (M.dat (kD k) && M.dats (r.map fun p => kD p.1)) = true
    rw [eE' r]
    cases k <;> rfl
theorem cu' : ∀ {ds : List M.D}, ds.all M.cD' = true -> M.dats ds = true
  | [], _ => rfl
  | d :: r, h => by
    rw [List.all_cons, Bool.and_eq_true] at h
    show (M.dat d && M.dats r) = true
    rw [cu' h.2]
    cases d <;> first | rfl | cases h.1
theorem pU' : ∀ {ks ds : List PyData}, ks.length = ds.length -> PyData.leavesShortAll 62 ks = true -> PyData.leavesShortAll 62 ds = true -> PyData.showableAll ks = true -> PyData.showableAll ds = true →
    PyData.leavesShortKv 62 (ks.zip ds) = true /\ PyData.showableKv (ks.zip ds) = true /\ PyData.bulkKv (ks.zip ds) = PyData.bulkAll ks + PyData.bulkAll ds /\ PyData.depthKv (ks.zip ds) = max (PyData.depthAll ks) (PyData.depthAll ds)
  | [], [], _, _, _, _, _ => ⟨rfl, rfl, rfl, rfl⟩
  | [], _ :: _, e, _, _, _, _ => by cases e
  | _ :: _, [], e, _, _, _, _ => by cases e
  | k :: ks, d :: ds, e, a1, b1, a2, b2 => by
    obtain ⟨a1, a1'⟩ := Bool.and_eq_true_iff.mp (show (PyData.leavesShort 62 k && PyData.leavesShortAll 62 ks) = true from a1)
    obtain ⟨b1, b1'⟩ := Bool.and_eq_true_iff.mp (show (PyData.leavesShort 62 d && PyData.leavesShortAll 62 ds) = true from b1)
    obtain ⟨a2, a2'⟩ := Bool.and_eq_true_iff.mp (show (PyData.showable k && PyData.showableAll ks) = true from a2)
    obtain ⟨b2, b2'⟩ := Bool.and_eq_true_iff.mp (show (PyData.showable d && PyData.showableAll ds) = true from b2)
    obtain ⟨h1, h2, h3, h4⟩ := pU' (Nat.succ.inj e) a1' b1' a2' b2'
    refine ⟨?_, ?_, ?_, ?_⟩
    . show (PyData.leavesShort 62 k && PyData.leavesShort 62 d && PyData.leavesShortKv 62 (ks.zip ds)) = true
      rw [a1, b1, h1]; rfl
    . show (PyData.showable k && PyData.showable d && PyData.showableKv (ks.zip ds)) = true
      rw [a2, b2, h2]; rfl
    . show PyData.bulk k + PyData.bulk d + 2 + PyData.bulkKv (ks.zip ds) = (PyData.bulk k + 1 + PyData.bulkAll ks) + (PyData.bulk d + 1 + PyData.bulkAll ds)
      rw [h3]; omega
    . show max (max (PyData.depth k) (PyData.depth d)) (PyData.depthKv (ks.zip ds)) = max (max (PyData.depth k) (PyData.depthAll ks)) (max (PyData.depth d) (PyData.depthAll ds))
      rw [h4]; omega
theorem ia' : ∀ ds : List M.D, (pys ds).length = ds.length
  | [] => rfl
  | _ :: r => congrArg (· + 1) (ia' r)
theorem FzA.len : ∀ {vs : List V} {ds : List M.D}, FzA K F T vs ds -> vs.length = ds.length
  | _, _, .nil => rfl
  | _, _, .cons _ r => congrArg (· + 1) (FzA.len r)
theorem g7' : ∀ kvs : List (Key × V), M.deps (kvs.map fun p => kD p.1) = 0
  | [] => rfl
  | (k, v) :: r => by
    show max (M.dep (kD k)) (M.deps (r.map fun p => kD p.1)) = 0
    rw [g7' r]
    cases k <;> rfl
theorem ft' : ∀ {ds : List M.D}, ds.all M.cD' = true -> M.deps ds = 0
  | [], _ => rfl
  | d :: r, h => by
    rw [List.all_cons, Bool.and_eq_true] at h
    show max (M.dep d) (M.deps r) = 0
    rw [ft' h.2]
    cases d <;> first | rfl | cases h.1
def kP : Key -> PyData := fun k => py (kD k)
inductive Dq0 (K : PySem.W.Frag) (H : Hp) : V -> PyData -> Prop
  | dp {v : V} {d : PyData} : Dp K H v d -> d.hasDict = false -> Dq0 K H v d
  | dct {a : Addr} {kvs : List (Key × V)} {ds : List M.D} : Rd H a (.dK kvs) -> kv' kvs -> DpAll K H (kvs.map (·.2)) (pys ds) -> ds.all M.cD' = true -> Dq0 K H (.ref a) (.dict ((pys (kvs.map fun p => kD p.1)).zip (pys ds)))
inductive LqAll (K : PySem.W.Frag) (H : Hp) : List V -> List M.D -> Prop
  | nil : LqAll K H [] []
  | leaf {v : V} {d : M.D} {vs : List V} {ds : List M.D} : Dp K H v (py d) -> M.cD' d = true -> LqAll K H vs ds -> LqAll K H (v :: vs) (d :: ds)
  | emp {a : Addr} {vs : List V} {ds : List M.D} : Rd H a (.dK []) -> LqAll K H vs ds -> LqAll K H (.ref a :: vs) (.dct [] [] :: ds)
inductive Dq (K : PySem.W.Frag) (H : Hp) : V -> PyData -> Prop
  | old {v : V} {d : PyData} : Dq0 K H v d -> Dq K H v d
  | tupE {a : Addr} {vs : List V} {ds : List M.D} : SqT K H a vs -> LqAll K H vs ds -> Dq K H (.ref a) (.tuple (pys ds))
theorem g0' {d : M.D} (h : M.cD' d = true) : M.dat d = true := by cases d <;> first | rfl | cases h
theorem m9' {d : M.D} (h : M.cD' d = true) : (py d).depth = 0 := by cases d <;> first | rfl | cases h
theorem tq' (s : Same F H) : ∀ {vs : List V} {ds : List M.D}, FzA K F T vs ds -> (ds.all fun d => M.cD' d || M.vX' d) = true -> M.repIs ds = true →
    LqAll K H vs ds /\ PyData.leavesShortAll 62 (pys ds) = true /\ PyData.showableAll (pys ds) = true /\ PyData.depthAll (pys ds) <= 1 /\ PyData.bulkAll (pys ds) = M.repWs ds
  | _, _, .nil, _, _ => ⟨.nil, rfl, rfl, Nat.zero_le 1, rfl⟩
  | _, _, .cons (v := v) (d := d) (ds := ds) h r, e, g => by
    rw [List.all_cons, Bool.and_eq_true] at e
    obtain ⟨g1, g2⟩ := Bool.and_eq_true_iff.mp (show (M.oh' _ && M.repIs _) = true from g)
    obtain ⟨b0, b1, b2, b3, b4⟩ := tq' s r e.2 g2
    cases hl : M.cD' d with
    | true =>
      obtain ⟨a1, a2, a3, a4⟩ := eh' h (g0' hl) g1
      refine ⟨.leaf (h.py s (g0' hl)) hl b0, ?_, ?_, ?_, ?_⟩
      . show (PyData.leavesShort 62 _ && PyData.leavesShortAll 62 _) = true
        rw [a1, b1]; rfl
      . show (PyData.showable _ && PyData.showableAll _) = true
        rw [a2, b2]; rfl
      . show max (PyData.depth _) (PyData.depthAll _) <= 1
        rw [m9' hl]; omega
      . show PyData.bulk _ + 1 + PyData.bulkAll _ = M.mx' _ + 1 + M.repWs _
        rw [a4, b4]
    | false =>
      have e1 := e.1
      rw [hl, Bool.false_or] at e1
      cases h with
      | @dct a kvs es hr k r' =>
        have h1 : kvs = [] /\ es = [] := by
          cases kvs with
          | nil => cases es with
            | nil => exact ⟨rfl, rfl⟩
            | cons _ _ => cases e1
          | cons _ _ => cases e1
        obtain ⟨rfl, rfl⟩ := h1
        refine ⟨.emp (mD' s hr) b0, ?_, ?_, ?_, ?_⟩
        . show (PyData.leavesShort 62 (.dict []) && PyData.leavesShortAll 62 _) = true
          rw [b1]; rfl
        . show (PyData.showable (.dict []) && PyData.showableAll _) = true
          rw [b2]; rfl
        . show max (PyData.depth (.dict [])) (PyData.depthAll _) <= 1
          rw [show PyData.depth (.dict []) = 1 from rfl]; omega
        . show PyData.bulk (.dict []) + 1 + PyData.bulkAll _ = M.mx' (.dct [] []) + 1 + M.repWs _
          rw [b4]; rfl
      | _ => cases e1
theorem sS' {v : V} {d : M.D} (s : Same F H) (h : Fz K F T v d) (c1 : M.rZ' d = true) (c2 : M.dep d <= 40) (c3 : M.oh' d = true) :
    Dq K H v (py d) /\ (py d).leavesShort 62 = true /\ (py d).showable = true /\ (py d).depth <= 40 /\ (py d).bulk = M.mx' d := by
  have old (e : M.dat d = true) : Dq K H v (py d) /\ (py d).leavesShort 62 = true /\ (py d).showable = true /\ (py d).depth <= 40 /\ (py d).bulk = M.mx' d := by
    obtain ⟨a1, a2, a3, a4⟩ := eh' h e c3
    exact ⟨.old (.dp (h.py s e) a3), a1, a2, by rw [(kd' h e).2]; exact c2, a4⟩
  cases h with
  | @dct a kvs ds h k r =>
    have c1 : ds.all M.cD' = true := c1
    obtain ⟨c3, c3'⟩ := Bool.and_eq_true_iff.mp (show (M.repIs (kvs.map fun p => kD p.1) && M.repIs ds) = true from c3)
    obtain ⟨a1, a2, a3, a4⟩ := reps_facts (FzA.keys (K := K) (F := F) (T := T) k) (eE' kvs) c3
    obtain ⟨b1, b2, b3, b4⟩ := reps_facts r (cu' c1) c3'
    have hl : (pys (kvs.map fun p => kD p.1)).length = (pys ds).length := by
      rw [ia', ia', List.length_map, <- r.len, List.length_map]
    obtain ⟨z1, z2, z3, z4⟩ := pU' hl a1 b1 a2 b2
    refine ⟨.old (.dct (mD' s h) k (r.py s (cu' c1)) c1), z1, z2, ?_, ?_⟩
    . show PyData.depthKv _ + 1 <= 40
      rw [z4, (lays_of (FzA.keys (K := K) (F := F) (T := T) k) (eE' kvs)).2, g7', (lays_of r (cu' c1)).2, ft' c1]
      decide
    . show PyData.bulkKv _ = M.repWs _ + M.repWs _
      rw [z3, a4, b4]
  | @tup a vs ds h r =>
    cases hd : M.dats ds with
    | true => exact old hd
    | false =>
      have c1 : (M.dats ds || ds.all fun d => M.cD' d || M.vX' d) = true := c1
      rw [hd, Bool.false_or] at c1
      obtain ⟨b0, b1, b2, b3, b4⟩ := tq' s r c1 c3
      refine ⟨.tupE (SqT.low s h) b0, b1, b2, ?_, b4⟩
      show PyData.depthAll _ + 1 <= 40
      omega
  | _ => exact old c1
end
section
variable {X : Cx} {pins : List (Addr × Obj)} {σ : St} {H : Hp} {s : Shared}
theorem cC' (I : Inv X pins σ H s) {d : M.D} {v : V} {u : Value} (l : M.cD' d = true) (h : Dp X.K H v (py d)) (r : RelV v u) : Reads s.heap u (py d) [] := by
  cases d with
  | non => cases h; cases r; exact .none
  | bl b => cases h; cases r; exact .bool b
  | int i => cases h; obtain ⟨t, rfl⟩ := r; exact .int i t
  | str x => cases h; obtain ⟨t, rfl⟩ := r; exact .str _ t
  | _ => cases l
theorem fk' (I : Inv X pins σ H s) : ∀ {kvs : List (Key × V)} {vs : List (Key × Value)} {ds : List M.D}, KV kvs vs -> DpAll X.K H (kvs.map (·.2)) (pys ds) -> ds.all M.cD' = true →
    PyProof.V.PairsRead s.heap kP vs ((pys (kvs.map fun p => kD p.1)).zip (pys ds)) []
  | _, _, [], .nil, _, _ => .nil
  | _, _, _ :: _, .nil, h, _ => by cases h
  | _, _, [], .cons _ _, h, _ => by cases h
  | (k, v) :: kvs, (k', u) :: vs, d :: ds, .cons hr hp, h, l => by
    obtain ⟨he, hr⟩ := hr
    have he : k = k' := he
    subst he
    rw [List.all_cons, Bool.and_eq_true] at l
    cases h with
    | cons h1 h2 =>
      have := PyProof.V.PairsRead.cons (enc := kP) (k := k) (cC' I l.1 h1 hr) (fk' I hp h2 l.2)
      exact this
theorem Dq0.reads (I : Inv X pins σ H s) {d : PyData} {v : V} {u : Value} (h : Dq0 X.K H v d) (r : RelV v u) : ∃ as, Reads s.heap u d as /\ (d.hasDict = true -> sysModules ∉ as) := by
  cases h with
  | dp dp e =>
    obtain ⟨as, rd⟩ := Dp.reads I d v u dp r
    exact ⟨as, rd, PyData.noDict_hsm e⟩
  | @dct a kvs ds e k dd l =>
    cases r
    obtain ⟨_, hs, vs, rk, hd⟩ := dk_rd I.hok e
    refine ⟨[a], PyProof.V.reads_dictOf (enc := kP) (fun k key hk => ?_) hd (fk' I rk dd l), fun _ hm => ?_⟩
    . rcases keyIs_shape hk with ⟨i, t, rfl, rfl⟩ | ⟨x, t, rfl, rfl⟩
      . exact .int i t
      . exact .str _ t
    . have := List.mem_singleton.mp hm
      rw [<- this] at hs
      simp at hs
theorem oA' (I : Inv X pins σ H s) : ∀ {vs : List V} {us : List Value} {ds : List M.D}, LqAll X.K H vs ds -> Vals vs us -> ∃ as, ReadsAll s.heap us (pys ds) as /\ sysModules ∉ as := by
  intro vs us ds h
  induction h generalizing us with
  | nil =>
    intro r
    cases r
    exact ⟨[], .nil, by simp⟩
  | leaf h1 h2 _ ih =>
    intro r
    cases r with
    | cons r1 r2 =>
      obtain ⟨bs, q2, q3⟩ := ih r2
      exact ⟨_, .cons (cC' I h2 h1 r1) q2, by simpa using q3⟩
  | emp h1 _ ih =>
    intro r
    cases r with
    | cons r1 r2 =>
      obtain ⟨bs, q2, q3⟩ := ih r2
      obtain ⟨as, q1, q4⟩ := Dq0.reads I (Dq0.dct (ds := []) h1 (fun p hp => by cases hp) .nil rfl) r1
      exact ⟨_, .cons q1 q2, by
        rw [List.mem_append]
        rintro (h | h)
        . exact q4 rfl h
        . exact q3 h⟩
theorem Dq.reads (I : Inv X pins σ H s) {d : PyData} {v : V} {u : Value} (h : Dq X.K H v d) (r : RelV v u) : ∃ as, Reads s.heap u d as /\ (d.hasDict = true -> sysModules ∉ as) := by
  cases h with
  | old h => exact h.reads I r
  | tupE hs la =>
    cases r
    obtain ⟨its, rv, ⟨o, ho, hc, n, hd⟩, _⟩ := I.tuple hs
    obtain ⟨as, hr, hm⟩ := oA' I la rv
    exact ⟨_, Reads.tuple ho hc hd hr, fun _ => hm⟩
end
def rRep (K : PySem.W.Frag) : List V -> Hp -> VK -> Prop := fun xs H Q => ∃ v d, xs = [v] /\ Dq K H v d /\ d.showable = true /\ d.depth <= 40 /\ d.shown.length <= sizeLine /\ Q (.str d.shown) H
section
variable {X : Cx}
theorem dY' (hu : X.A.units + 64 < cLine) (hg : X.A.guards = some []) : CallR X (.builtin "repr") (rRep X.K) := by
  intro pins s σ H vs us Q I r h
  obtain ⟨v, d, rfl, dp, h1, h3, h4, q⟩ := h
  cases r with
  | @cons _ u _ _ ru rn =>
    cases rn
    obtain ⟨as, rd, hm⟩ := dp.reads I ru
    cases rd with
    | none => exact P.repr_of_none ⟨.str _, H, I.tok _, ⟨_, rfl⟩, q⟩
    | bool b => exact P.repr_of_bool ⟨.str _, H, I.tok _, ⟨_, rfl⟩, q⟩
    | int i t => exact P.repr_of_int (of_decide_eq_true h1) ⟨.str _, H, I.tok _, ⟨_, rfl⟩, q⟩
    | str x t => exact P.repr_of_str (hsz := h4) ⟨.str _, H, I.tok _, ⟨_, rfl⟩, q⟩
    | list a b c e => exact repr_of_reads' (.list a b c e) h1 hm hg (by omega) (fun _ _ z => z) (fun h' u tk hk => ⟨.str _, H, I.kept hk, ⟨_, rfl⟩, q⟩) h4
    | tuple a b c e => exact repr_of_reads' (.tuple a b c e) h1 hm hg (by omega) (fun _ _ z => z) (fun h' u tk hk => ⟨.str _, H, I.kept hk, ⟨_, rfl⟩, q⟩) h4
    | dict a b c e f => exact repr_of_reads' (.dict a b c e f) h1 hm hg (by omega) (fun _ _ z => z) (fun h' u tk hk => ⟨.str _, H, I.kept hk, ⟨_, rfl⟩, q⟩) h4
end
section
variable {K : PySem.W.Frag}
theorem pa' : Bi1 K M.or' (rRep K) := by
  intro F H T fp x dx dz Q f hx h k
  unfold M.or' at h
  split at h
  . rename_i hc
    obtain ⟨c1, c2, c3, c4⟩ := hc
    cases h
    obtain ⟨a0, a1, a2, a3, a4⟩ := sS' f.low hx c1 c2 c3
    refine ⟨x, py dx, rfl, a0, a2, a3, ?_, k.here f (.rep dx)⟩
    have := PyData.shown_le_bulk 62 (by decide) (py dx) a1
    rw [a4] at this
    rw [bw']
    show _ <= 16777216
    omega
  . cases h
theorem mw' {F : Hp} {T : List Addr} {v : V} {d : M.D} (h : Fz K F T v (.rep d)) : v = .str (py d).shown := by cases h; rfl
theorem ti' : Op2 K M.qO' (vD' K) := by
  intro F H T fp x y dx dy dz Q f hx hy h k
  cases dx <;> try (cases h; done)
  cases dy <;> try (cases h; done)
  simp only [M.qO'] at h
  split at h
  . rename_i hs
    cases h
    have e := mr' _ _ hs
    subst e
    obtain rfl := mw' hx
    obtain rfl := mw' hy
    exact .inl ⟨rfl, by rw [decide_eq_true rfl]; exact k.here f (.bl true)⟩
  . cases h
end
end S
namespace S
open PySem PySem.Spec PyProof.Rows L2
variable [Wd] [Hot]
local macro_rules | `(tactic| walk_at "parts") => `(tactic| (constructor; (intro e h; simp only [List.mem_append, List.mem_cons, List.not_mem_nil] at *; grind); (intro x; simp only [keys, List.map_append, List.map_cons, List.map_nil, List.count_append, List.count_cons, List.count_nil] at *; omega)))
def EqP (K : PySem.W.Frag) (ps : List (String × String)) (g : Addr) : Prop := ∀ p ∈ ps, PySem.W.findIn K (.ref (He.ga K (Str.ofString p.1))) "__eq__" = some (some (.ref g)) /\ PySem.W.isFn K (.ref g) = true ∧
  PySem.W.notFirst K (He.ga K (Str.ofString p.1)) (.ref (He.ga K (Str.ofString p.2))) = true
theorem rp' {K : PySem.W.Frag} {ps : List (String × String)} {g : Addr} (h : xf' K ps g = true) : EqP K ps g := fun p hp => by
  have z := List.all_eq_true.mp h p hp
  rw [Bool.and_eq_true, Bool.and_eq_true, decide_eq_true_eq] at z
  exact z
def w5' (K : PySem.W.Frag) (ps : List (String × String)) (mf : M.MF) : R2 := fun x y H Q => ∃ (C C' : String) (a b dx dy : Addr) (fs gs : List (Str × V)), (C, C') ∈ ps /\ x = .ref a /\ y = .ref b ∧
  H a = some (.ins (He.ga K (Str.ofString C)) dx fs) /\ H b = some (.ins (He.ga K (Str.ofString C')) dy gs) /\ spM K mf [x, y] H (fun v H' => ∃ r, v = .bl r /\ Q (.bl r) H') E0
theorem te' {X : Cx} {k : Nat} {C0 : Addr} {args : List Str} {ps : List (String × String)} {mf : M.MF} (F : OgM X.prog X.w X.K X.mg X.base k C0 "__eq__" args (spM X.K mf)) (hr : RoomG k X.A) (hp : EqP X.K ps (He.ma X.K C0 "__eq__")) :
    OpR X (compareOp .Eq) (w5' X.K ps mf) := by
  obtain ⟨fd, F, hb⟩ := F
  intro pins s σ H x y v u Q I rx ry h
  obtain ⟨C, C', a, b, dx, dy, fs, gs, hC, rfl, rfl, ha, hb', hs⟩ := h
  cases (show v = Value.ref a from rx)
  cases (show u = Value.ref b from ry)
  obtain ⟨q1, q2, q3⟩ := hp _ hC
  obtain ⟨mA, J, _⟩ := ins_get I.hok ha
  obtain ⟨mB, J', _⟩ := ins_get I.hok hb'
  obtain ⟨od, J, _⟩ := J.look
  obtain ⟨od', J', _⟩ := J'.look
  obtain ⟨m, hF⟩ := I.fr
  show wpAny (model X.prog X.w) X.A (richCompare .Eq (.ref a) (.ref b)) (EP X pins σ Q) X.xe s
  refine PySem.W.cmp_K (op := .Eq) (tb := .ref (He.ga X.K (Str.ofString C'))) hr.r.units0 hF I.ok.mod.kin J J'.type q3 q1 q2 ?_
  refine wpAny_mono (eg' (E := fun _ => E0) (us := [.ref a, .ref b]) (vs := [.ref a, .ref b]) F hr hb (fun _ _ _ e s' _ c => ?_) I (.cons rfl (.cons rfl .nil)) hs) (fun r s' q => ?_) fun _ _ z => z
  . obtain ⟨_, _, _, _, _, _, _, _, _, _, _, _, z⟩ := c
    exact z.elim
  . obtain ⟨z, H', I', rz, t, ez, q⟩ := q
    subst ez
    cases rz
    exact ⟨.bl t, H', I', rfl, q⟩
section
variable {K : PySem.W.Frag} {σ : St} {H : Hp} {Q : VK} {W : WX}
theorem oI' {ps : List (String × String)} {w : M.W} {x y : M.D} (h : M.rj' ps w x y = true) : ∃ n m C C' fs gs, x = .obj n /\ y = .obj m /\ w[n]? = some (.ins C fs) /\ w[m]? = some (.ins C' gs) /\ (C, C') ∈ ps := by
  unfold M.rj' at h
  split at h
  . rename_i n m
    split at h
    . rename_i C fs C' gs e1 e2
      exact ⟨n, m, C, C', fs, gs, rfl, rfl, e1, e2, of_decide_eq_true h⟩
    . cases h
  . cases h
theorem oP' {ps : List (String × String)} {mf : M.MF} {ma mb : M.ME} (h : qE K W (M.pY' ps mf ma mb) σ H Q) : tOp (w5' K ps mf) (qE K W ma) (qE K W mb) σ H Q := by
  obtain ⟨ρ, F, T, fr, rel, h⟩ := h
  refine aw' rel h fun dx ρ1 v H1 F1 T1 e1 z1 r1 h1 => ?_
  refine aw' r1 h1 fun dy ρ2 u H2 F2 T2 e2 z2 r2 h2 => ?_
  split at h2
  . rename_i hi
    obtain ⟨n, m, C, C', fs, gs, rfl, rfl, ew, ew', hC⟩ := oI' hi
    obtain ⟨a, d1, fv, os, f2, hT, rfl, hH, _⟩ := r2.wins ew
    obtain ⟨b, d2, fv', os', f2', hT', rfl, hH', _⟩ := r2.wins ew'
    have z1 := z1.mono e2
    cases z1 with
    | obj t =>
      rw [hT] at t
      cases t
      cases z2 with
      | obj t =>
        rw [hT'] at t
        cases t
        refine ⟨C, C', a, b, d1, d2, _, _, hC, rfl, rfl, hH, hH', ?_⟩
        obtain ⟨fe, fw, re, rw, f⟩ := r2
        refine ⟨[.obj n, .obj m], ρ2.w, F2, T2, fe ++ fr, .cons (.obj hT) (.cons (.obj hT') .nil), ⟨[], fw, qU', rw, f.part (by walk_at "parts")⟩, ?_⟩
        cases em : mf [.obj n, .obj m] ρ2.w with
        | bad => rw [em] at h2; exact h2.elim
        | exc x w' => rw [em] at h2; exact h2.elim
        | ok o w' =>
          rw [em] at h2
          intro w H' F' T' fp e z r
          cases z with
          | fz z =>
            rename_i d
            cases d <;> try exact h2.elim
            cases z
            exact ⟨_, rfl, h2 _ H' F' T' (e1.trans (e2.trans e)) (.bl _) (Rel.reenv (fp := []) re e r)⟩
          | lst _ => exact h2.elim
          | tup _ => exact h2.elim
          | dct _ _ => exact h2.elim
          | dcl _ _ => exact h2.elim
          | dcn _ _ _ => exact h2.elim
  . exact h2.elim
end
section
variable {X : Cx} {W : WX} {pos p : Pos} {a b e : Expr} {ma mb : M.ME} {mo : M.MO} {k : Nat} {args : List Str} {mf : M.MF}
theorem mo' {C : String} {ps : List (String × String)} (F : OgM X.prog X.w X.K X.mg X.base k (He.ga X.K C) "__eq__" args (spM X.K mf)) (hr : RoomG k X.A) (hp : EqP X.K ps (He.ma X.K (He.ga X.K C) "__eq__")) (ha : SE X W a ma) (hb : SE X W b mb) :
    SE X W (.Compare a [.Eq] [b] pos) (M.pY' ps mf ma mb) := PE.imp (pe_cmpR (te' F hr hp) ha hb (nomark _)) fun _ _ _ h => oP' h
def wU' (K : PySem.W.Frag) (t : M.ET) (c : String) : Prop := (∀ e ∈ t, e.2.1 = c -> Cls K (He.ga K (Str.ofString e.1)) /\ PySem.W.findIn K (.ref (He.ga K (Str.ofString e.1))) "__class__" = some (some (.builtin "object.__class__")) ∧
    PySem.W.specialIn K (.builtin "object.__class__") "__get__" = some (some (.builtin "getset_descriptor.__get__")) /\ PySem.W.takesIn K (.builtin "object.__class__") = some true /\ PySem.W.mroIn K (He.ga K (Str.ofString e.1)) (.type "object") = some true ∧
    PySem.W.kitOne K (.ref (He.ga K (Str.ofString e.1))) (.ref (He.ga K (Str.ofString c))) = some e.2.2) ∧
  ∀ n ∈ ["NoneType", "bool", "int", "str", "tuple", "list", "dict"], PySem.W.kitOne K (.type n) (.ref (He.ga K (Str.ofString c))) = some false
theorem oF' {K : PySem.W.Frag} {t : M.ET} {c : String} (h : ra' K t c = true) : wU' K t c := by
  unfold ra' at h
  rw [Bool.and_eq_true] at h
  refine ⟨fun e he hc => ?_, fun n hn => of_decide_eq_true (List.all_eq_true.mp h.2 n hn)⟩
  have z := List.all_eq_true.mp h.1 e he
  rw [hc] at z
  simp only [decide_true, Bool.not_true, Bool.false_or, Bool.and_eq_true, decide_eq_true_eq] at z
  exact ⟨He.cls_ok z.1, z.2⟩
theorem mf' : ∀ {t : M.ET} {x c : String} {b : Bool}, M.sub t x c = some b -> (x, c, b) ∈ t
  | [], _, _, _, h => by cases h
  | (a, b, r) :: t, x, c, y, h => by
    unfold M.sub at h
    split at h
    . rename_i q
      obtain ⟨rfl, rfl⟩ := q
      cases h
      exact List.mem_cons_self
    . exact List.mem_cons_of_mem _ (mf' h)
theorem sL' {x : Str} (t : M.ET) (c : String) (hI : wU' X.K t c) (hg : Gl X x) (hm : X.mg x = none) (hv : bootBuiltins x = some (.builtin "isinstance")) (ha : SE X W a ma) (hb : PE X b (tC (.ref (He.ga X.K (Str.ofString c))))) (hn : x ≠ "__name__" := by decide) (hdb : (x == ("__debug__" : Str)) = false := by decide)
    (he : starEach [a, b] X.env = (false, eval a X.env) :: starEach [b] X.env := by rfl) (he2 : starEach [b] X.env = (false, eval b X.env) :: starEach [] X.env := by rfl) (hpl : (backTo pos (starEach [b] X.env)).any (·.1) = false := by rfl) : SE X W (.Call (.Name x p) [a, b] [] pos) (M.tQ' t c ma) :=
  PE.imp (pe_callB call_isi hg hm hv (pa_cons ha (pa_cons hb pa_nil he2) he) hn hdb he hpl) fun σ H Q ⟨ρ, F, T, fr, rel, h⟩ => by
    refine aw' rel h fun dx ρ1 v H1 F1 T1 e1 z1 r1 h1 => ?_
    obtain ⟨dz, ez, q⟩ := a0'.ofO h1
    by_cases ho : ∃ n, dx = .obj n
    . obtain ⟨n, rfl⟩ := ho
      simp only [M.isC] at ez
      cases ew : ρ1.w[n]? with
      | none => rw [ew] at ez; cases ez
      | some ob =>
        rw [ew] at ez
        cases ob <;> try (cases ez; done)
        rename_i C fs
        cases es : M.sub t C c with
        | none => simp only [es] at ez; cases ez
        | some r =>
          simp only [es] at ez
          cases ez
          obtain ⟨a, d1, fv, os, f2, hT, rfl, hH, _⟩ := r1.wins ew
          obtain ⟨q1, q2, q3, q4, q5, q6⟩ := hI.1 _ (mf' es) rfl
          cases id z1 with
          | obj t =>
            rw [hT] at t
            cases t
            exact ⟨.ref a, .ref _, _, _, r, rfl, .own _, .base (.ins hH q1 q2 q3 q4 q5), q6, q _ H1 F1 T1 e1 (.bl _) r1⟩
    . have e2 : ∃ n, M.tyn dx = some n /\ dz = .bl false := by
        cases dx <;> first | exact absurd ⟨_, rfl⟩ ho | (cases ez; exact ⟨_, rfl, rfl⟩) | (cases ez; done)
      obtain ⟨n, en, rfl⟩ := e2
      obtain ⟨fp, f, _⟩ := r1.fp
      exact ⟨_, .ref _, _, _, false, rfl, .own _, mb' f.low z1 en, hI.2 n (by cases dx <;> cases en <;> decide), q _ H1 F1 T1 e1 (.bl _) r1⟩
end
end S
namespace S
open PySem PySem.Spec PyProof.Rows L2
variable [Wd] {cc : List (Nat × CloD)}
abbrev vW' (a : Addr) (n : Nat) (dd : Option Addr) (x : M.Exc) (cs : List (Nat × CloD) := []) : Hot := ⟨some (a, n, dd, x), cs⟩
section
variable {K : PySem.W.Frag} {F H : Hp} {T : List Addr} {fp fr : Fp} {σ : St} {env : List (Option M.O)} {a : Addr} {n i : Nat} {dd : Option Addr} {x : M.Exc}
theorem RpE.cool (r : @RpE _ K (vW' a n dd x cc) F T σ env fp) (hl : env.length <= n) : @RpE _ K (nE' cc) F T σ env fp := by
  induction r with
  | nil => exact @RpE.nil _ K (nE' cc) F T
  | off _ ih => exact @RpE.off _ K (nE' cc) F T _ _ _ _ (ih (by simp at hl; omega))
  | on q _ ih => exact @RpE.on _ K (nE' cc) F T _ _ _ _ _ _ q (ih (by simp at hl; omega))
  | hot z _ _ _ =>
    have := (Prod.mk.inj (Prod.mk.inj (Option.some.inj z)).2).1
    simp at hl
    omega
  | clo z y _ ih => exact @RpE.clo _ K (nE' cc) F T _ _ _ _ z y (ih (by simp at hl; omega))
end
section
variable {X : Cx} {W : WX} {K : PySem.W.Frag} {D : Ends} {σ : St} {H : Hp} {F : Hp} {T : List Addr} {fr : Fp}
def tsA (cc : List (Nat × CloD)) (K : PySem.W.Frag) (n : Nat) (h : M.Exc -> M.MS) : Addr -> Value -> Option Addr -> TS := fun a cls d D σ H => ∃ e : M.Exc, cls = .ref (He.ga K e.cls) /\ @qS _ (vW' a n d e cc) K W0 (h e) D σ H
end
section
variable {X : Cx} {W : WX} {pos p : Pos} {a b : Expr}
end
end S
namespace S
open PySem PySem.Spec PyProof.Rows L2
section
variable {prog : Program} {w : World} {A : Around} {E : Value -> Shared -> Prop} {s : Shared} {K : PySem.W.Frag} {x C L f : Addr} {h₀ : Heap} {m : Str -> Option Value} {ox : Obj} {od : Option Obj} {b tb : Value}
open PySem.W in
end
end S
namespace S
open PySem PySem.Spec PyProof.Rows L2
variable [Wd] [Hot]
section
variable {K : PySem.W.Frag} {σ : St} {H : Hp} {Q : VK} {W : WX}
end
section
variable {X : Cx} {W : WX} {pos : Pos} {a b : Expr} {ma mb : M.ME} {k : Nat} {args : List Str} {mf : M.MF}
end
end S
namespace S
open PySem PySem.Spec PyProof.Rows L2
variable [Wd] [Hot]
section
variable {X : Cx} {W : WX} {a : Expr} {ma : M.ME} {pos p1 p2 p3 : Pos} {k : Nat}
end
end S
namespace S
open PySem PySem.Spec PyProof.Rows L2 TL
variable [Wd] [Hot]
section
variable {K : PySem.W.Frag}
end
end S
namespace S
open PySem PySem.Spec PyProof.Rows L2
variable [Wd] [Hot]
section
variable {X : Cx} {W : WX} {K : PySem.W.Frag} {a b : Expr} {ma : M.ME} {pos : Pos}
end
end S
namespace S
open PySem PySem.Spec PyProof.Rows L2
variable [Wd] [Hot]
section
variable {K : PySem.W.Frag} {W : WX} {σ : St} {H : Hp}
end
section
variable {X : Cx} {W : WX} {pos : Pos} {elt tg iter tg1 iter1 : Expr} {ifs ifs1 : List Expr} {scope : Scope} {own : List (Str × Nat)} {sl sl0 sl1 : List Nat} {it it1 : M.MI} {g g1 : M.MG} {t t1 : M.MT} {e : M.ME}
end
end S
namespace S
open PySem PySem.Spec PyProof.Rows L2
end S
namespace S
open PySem PySem.Spec PyProof.Rows L2
variable [Wd] [Hot]
section
variable {K : PySem.W.Frag} {W : WX} {X : Cx} {p pos : Pos} {a b : Expr} {ma mb : M.ME}
end
end S
namespace S
open PySem PySem.Spec PyProof.Rows L2
variable [Wd] [Hot]
section
variable {X : Cx} {W : WX} {K : PySem.W.Frag} {a : Expr} {ma : M.ME} {pos : Pos}
end
end S
namespace S
open PySem PySem.Spec PyProof.Rows L2
variable [Wd] [Hot]
section
variable {K : PySem.W.Frag} {W : WX} {σ : St} {H : Hp}
end
section
variable {X : Cx} {W : WX} {pos px : Pos} {elt tg : Expr} {ifs : List Expr} {scope : Scope} {own : List (Str × Nat)} {sl : List Nat} {i : Nat} {nm : Str} {g : M.MG} {t : M.MT} {e : M.ME}
end
end S
namespace S
open PySem PySem.Spec PyProof.Rows L2
variable [Wd] [Hot]
section
variable {X : Cx} {W : WX} {pos cpos apos : Pos} {o a : Expr} {mo : M.ME} {ma : M.MO}
end
end S
namespace S
open PySem PySem.Spec PyProof.Rows L2
structure SupF (file : Str) (K : PySem.W.Frag) (C f : Addr) (fld : Str) : Prop where
  ex : ∃ (oc : Value) (od : Option Addr) (fd : FuncData) (osl : Array (Option Value)) (x y : Str) (cc cda : Addr), K.lookup f = some ⟨oc, od, .func fd, osl⟩ /\ wR' fd.params = some (x, y) /\ wP' fd.body = some (("super" : Str), ("__init__" : Str), x, fld, y) ∧
    fd.closure = [(("__class__" : Str), cc)] /\ fd.code = .ref cda /\ fd.defaults = .none /\ fd.kwdefaults = .none /\ fd.globals = mainGlobals /\ fd.builtins = builtinsNs /\ PySem.W.codeIn K (.ref cda) fd.qualname = true ∧
    fd.scope.names.lookup ("super" : Str) = some .globalImplicit /\ fd.scope.names.lookup ("__class__" : Str) = some .free /\ fd.scope.names.lookup x = some .local /\ fd.scope.names.lookup y = some .local /\ (∀ q ∈ fd.scope.names, q.2 ≠ .cell) ∧
    fd.scope.kind = .function /\ fd.scope.isGenerator = false /\ fd.scope.isCoroutine = false /\ x = "self" /\ (y = "part" \/ y = "most") ∧
    (∃ a b c, K.lookup cc = some ⟨a, b, .cell (some (.ref C)), c⟩) /\ (∃ a b c vs tf, K.lookup cda = some ⟨a, b, .fields vs, c⟩ /\ vs[2]? = some (.str file tf))
  sup : PySem.W.ks_superIn K C C "__init__" = some (some (.builtin "ValueError.__init__"))
  own : PySem.W.mroIn K C (.ref C) = some true
  ve : PySem.W.subIn K (.ref C) (.type "ValueError") = some true
  no3 : PySem.W.nsIn K cStatics "thirdparty.any" = some none
  cls : ∃ nm q N bs bm sn sub ab col dd k0 k1 k2 k3 k5, K.lookup C = some (excClassObj nm q C N bs bm true sn sub ab col dd k0 k1 k2 k3 k5 "ValueError.__new__") /\ HandSPX.refsVE bm = true
  sa : PySem.W.findIn K (.ref C) "__setattr__" = some (some (.builtin "object.__setattr__"))
  exC : PySem.W.subIn K (.ref C) (.type "BaseException") = some true
  tyC : PySem.W.typeIn K (.ref C) = some (.type "type")
  kC : PySem.W.keepIn K (.ref C) = true
  iC : PySem.W.findIn K (.ref C) "__init__" = some (some (.ref f))
  tI : PySem.W.typeIn K (.ref f) = some (.type "function")
  fl : PySem.W.findIn K (.ref C) fld = some none
end S
namespace S
open PySem PySem.Spec PyProof.Rows L2
variable [Wd] [Hot]
local macro_rules | `(tactic| walk_at "parts") => `(tactic| (constructor; (intro e h; simp only [List.mem_append, List.mem_cons, List.not_mem_nil] at *; grind); (intro x; simp only [keys, List.map_append, List.map_cons, List.map_nil, List.count_append, List.count_cons, List.count_nil] at *; omega)))
section
variable {prog : Program} {w : World} {A : Around} {E : Value -> Shared -> Prop} {s : Shared}
theorem hB' {l : Addr} {vs : List Value} {Q : List Value -> Shared -> Prop} (hl : IsTup s.heap l vs.toArray) (hz : vs.length <= sizeLine)
    (q : Q vs { s with heap := (s.heap.push (seqObj "list" #[] 0)).update s.heap.objs.size (Obj.mapSeq (· ++ vs.toArray)) }) : wpAny (model prog w) A (collect (.ref l)) Q E s := by
  obtain ⟨o, ho, hc, n, hd⟩ := id hl
  have g1 : (s.heap.push (seqObj "list" #[] 0)).get? l = some o := Heap.get?_push_of_some _ ho
  have g2 : (s.heap.push (seqObj "list" #[] 0)).get? s.heap.objs.size = some (seqObj "list" #[] 0) := Heap.get?_push_size _ rfl
  unfold collect
  refine wpAny_bind (wpAny_runValue (codeAny_builtin entry_proto_collect' ?_))
  show wpAny _ _ (do again (.builtin "list.__iadd__" ⟨[<- newList [], .ref l], []⟩)) _ _ s
  refine wpAny_bind (wpAny_newList (wpAny_pure ⟨Code.quiet_builtin _ (by decide +kernel), codeAny_builtin entry_list_iadd' ?_⟩))
  show wpAny _ _ (Builtin.List.listExtendWith (.ref s.heap.objs.size) (.ref l) (.ref s.heap.objs.size)) _ _ { s with heap := s.heap.push (seqObj "list" #[] 0) }
  unfold Builtin.List.listExtendWith
  refine wpAny_bind (wpAny_typeOf (T := "tuple") ⟨o, g1, hc⟩ ?_)
  have ht : ((Value.type "tuple" == Value.type "list") || (Value.type "tuple" == Value.type "tuple")) = true := by rfl
  rw [if_pos (by simpa using ht)]
  refine wpAny_bind (listItems_at g1 hd (wpAny_bind (listItems_at (xs := #[]) (n := 0) g2 rfl ?_)))
  rw [if_neg (by simp)]
  refine wpAny_bind (listUpdate_at (xs := #[]) (n := 0) g2 rfl ?_ (Nat.zero_le _) (by show (#[] ++ vs.toArray).size <= sizeLine + 1; simp only [Array.size_append, List.size_toArray, List.length_nil]; omega))
  refine wpAny_pure ?_
  show wpAny (model prog w) A (do
      let ob ← load s.heap.objs.size
      match ob.data with
      | .seq ys _ => pure ys.toList
      | _ => unsupported "internal:collect") Q E _
  refine wpAny_bind (wpAny_load (get?_update_seq g2 _) ?_)
  show wpAny _ _ (pure ((#[] : Array Value) ++ vs.toArray).toList) Q E _
  rw [show ((#[] : Array Value) ++ vs.toArray).toList = vs by simp]
  exact wpAny_pure q
theorem hY' {l : Addr} {vs : List Value} {ns : List Int} {Q : Value -> Shared -> Prop} (hl : IsTup s.heap l vs.toArray) (hz : vs.length <= sizeLine) (hi : IntsAre vs ns)
    (q : ∀ out : List Value, SrtO.Srtd SrtO.ltIv out -> SrtO.Stb SrtO.ltIv out vs -> Q (.ref (s.heap.objs.size + 1)) { s with heap := sortedAll s.heap vs out.toArray }) : wpAny (model prog w) A (call (.builtin "sorted") [.ref l]) Q E s := by
  refine Calls.call_function_entry kind_sorted plain_sorted entry_sorted (args_sorted1 _) ?_
  unfold Builtin.«sorted»
  refine wpAny_bind (m := checkCount "sorted" 1 1 _) (wpAny_pure (wpAny_bind (hB' hl hz (wpAny_bind (wpAny_newList ?_ hz)))))
  generalize e1 : (s.heap.push (seqObj "list" #[] 0)).update s.heap.objs.size (Obj.mapSeq (· ++ vs.toArray)) = h1
  have z1 : h1.objs.size = s.heap.objs.size + 1 := by rw [<- e1, Heap.size_update, size_push']
  have g1 : (h1.push (seqObj "list" vs.toArray 0)).get? (s.heap.objs.size + 1) = some (seqObj "list" vs.toArray 0) := by
    rw [<- z1]; exact Heap.get?_push_size _ rfl
  show wpAny _ _ _ _ _ { s with heap := h1.push (seqObj "list" vs.toArray 0) }
  rw [z1]
  refine wpAny_bind (wpAny_holding (wpAny_call_entry slot_list_sort ⟨_, g1, rfl⟩ entry_list_sort (SrtO.list_sort_ord SrtO.swo_int g1 hz (fun h2 => SrtO.ints_sortable hi h2) fun out hs hb => ⟨_, rfl, ?_⟩) (args_list_sort _)))
  refine wpAny_pure ⟨_, rfl, ?_⟩
  have := q out hs hb
  unfold sortedAll at this
  rw [e1] at this
  exact this
end
def gL' (K : PySem.W.Frag) : List V -> Hp -> VK -> Prop := fun vs H Q => ∃ (a : Addr) (ns : List Int), vs = [V.ref a] /\ SqT K H a (ns.map V.int) /\ ∀ (ns' : List Int) (p : Addr), ns'.Perm ns -> ns'.Pairwise (· <= ·) -> H p = none -> Q (.ref p) (upd H p (.lst (ns'.map V.int)))
theorem iI' {X : Cx} : CallR X (.builtin "sorted") (gL' X.K) := by
  intro pins s σ H vs us Q I r h
  obtain ⟨a, ns, rfl, hs, q⟩ := h
  obtain ⟨its, rv, hl, hz⟩ := I.tuple hs
  rw [Vals.ref1 r]
  refine hY' hl (by rw [<- rv.length]; exact hz) rv.ints fun out h1 h2 => ?_
  obtain ⟨k1, k2, k3⟩ := SrtO.ints_out rv.ints h1 h2
  obtain ⟨ep, he'⟩ := PyProof.Rows.sortedAll_at s.heap its out.toArray
  have hlen : ((out.map SrtO.iv).map V.int).length <= sizeLine := by
    rw [List.length_map, k2.length_eq, <- List.length_map (f := V.int)]
    exact hz
  exact ⟨.ref _, _, I.laid (t' := s.toks) (a := s.heap.objs.size + 1) (o := .lst ((out.map SrtO.iv).map V.int)) (fun _ _ => PyProof.Rows.sortedAll_old) (Nat.le_succ _) ⟨hlen, out, ep, vals_of_ints k1, he'⟩, rfl, q _ _ k2 k3 (I.hok.fresh (Nat.le_succ _))⟩
theorem rS' {K : PySem.W.Frag} : Bi1 K M.fN' (gL' K) := by
  intro F H T fp x dx dz Q f hx h k
  cases dx <;> try (cases h; done)
  obtain ⟨a, vs, rfl, ha, za⟩ := hx.tup_inv
  obtain ⟨ns, h1, rfl⟩ := Option.map_eq_some_iff.mp h
  have e2 := fX' za h1
  subst e2
  refine ⟨a, ns, rfl, seqT f.low ha, fun ns' p hp hs hn => ?_⟩
  rw [jZ' hp hs]
  exact k.newL f (FzA.rgI _) hn
def u2' (K : PySem.W.Frag) (ps : List (String × String)) (g : Addr) : Prop := ∀ C, (C, C) ∈ ps -> PySem.W.findIn K (.ref (He.ga K (Str.ofString C))) "__eq__" = some (some (.ref g)) /\ PySem.W.isFn K (.ref g) = true ∧
  ∀ n ∈ ["NoneType", "bool", "int", "str", "tuple", "list", "dict"], PySem.W.notFirst K (He.ga K (Str.ofString C)) (.type n) = true
theorem oO' {K : PySem.W.Frag} {ps : List (String × String)} {g : Addr} (h : tN' K ps g = true) : u2' K ps g := fun C hp => by
  have z := List.all_eq_true.mp h (C, C) hp
  simp only [decide_true, Bool.not_true, Bool.false_or, Bool.and_eq_true, decide_eq_true_eq, List.all_eq_true] at z
  exact z
def rEqD (K : PySem.W.Frag) (ps : List (String × String)) (mf : M.MF) : R2 := fun x y H Q => ∃ (C n : String) (a dx : Addr) (fs : List (Str × V)), (C, C) ∈ ps /\ n ∈ ["NoneType", "bool", "int", "str", "tuple", "list", "dict"] /\ x = .ref a ∧
  H a = some (.ins (He.ga K (Str.ofString C)) dx fs) /\ TyX K H y (.type n) /\ spM K mf [x, y] H (fun v H' => ∃ r, v = .bl r /\ Q (.bl r) H') E0
theorem op_eqD {X : Cx} {k : Nat} {C0 : Addr} {args : List Str} {ps : List (String × String)} {mf : M.MF} (F : OgM X.prog X.w X.K X.mg X.base k C0 "__eq__" args (spM X.K mf)) (hr : RoomG k X.A) (hp : u2' X.K ps (He.ma X.K C0 "__eq__")) :
    OpR X (compareOp .Eq) (rEqD X.K ps mf) := by
  obtain ⟨fd, F, hb⟩ := F
  intro pins s σ H x y v u Q I rx ry h
  obtain ⟨C, n, a, dx, fs, hC, hn, rfl, ha, ht, hs⟩ := h
  cases (show v = Value.ref a from rx)
  obtain ⟨q1, q2, q3⟩ := hp _ hC
  obtain ⟨mA, J, _⟩ := ins_get I.hok ha
  obtain ⟨od, J, _⟩ := J.look
  obtain ⟨m, hF⟩ := I.fr
  obtain ⟨P, Z, hP, _⟩ := kit_of I ry ht
  show wpAny (model X.prog X.w) X.A (richCompare .Eq (.ref a) u) (EP X pins σ Q) X.xe s
  refine PySem.W.cmp_K (op := .Eq) (tb := .type n) hr.r.units0 hF I.ok.mod.kin J (Z.ty _ _ I.kIn hP) (q3 n hn) q1 q2 ?_
  refine wpAny_mono (eg' (E := fun _ => E0) (us := [.ref a, u]) (vs := [.ref a, y]) F hr hb (fun _ _ _ e s' _ c => ?_) I (.cons rfl (.cons ry .nil)) hs) (fun r s' q => ?_) fun _ _ z => z
  . obtain ⟨_, _, _, _, _, _, _, _, _, _, _, _, z⟩ := c
    exact z.elim
  . obtain ⟨z, H', I', rz, t, ez, q⟩ := q
    subst ez
    cases rz
    exact ⟨.bl t, H', I', rfl, q⟩
section
variable {K : PySem.W.Frag} {σ : St} {H : Hp} {Q : VK} {W : WX}
theorem oJ' {ps : List (String × String)} {w : M.W} {x y : M.D} (h : M.rk' ps w x y = true) : ∃ n C fs t, x = .obj n /\ w[n]? = some (.ins C fs) /\ (C, C) ∈ ps /\ M.tyn y = some t := by
  cases x <;> try (cases h; done)
  rename_i n
  simp only [M.rk'] at h
  split at h
  . rename_i C fs e1
    rw [Bool.and_eq_true, Option.isSome_iff_exists] at h
    obtain ⟨t, et⟩ := h.2
    exact ⟨n, C, fs, t, rfl, e1, of_decide_eq_true h.1, et⟩
  . cases h
theorem sB' {y : M.D} {t : String} (h : M.tyn y = some t) : t ∈ ["NoneType", "bool", "int", "str", "tuple", "list", "dict"] := by
  cases y <;> cases h <;> decide
theorem oQ' {ps : List (String × String)} {mf : M.MF} {ma mb : M.ME} (h : qE K W (M.pZ' ps mf ma mb) σ H Q) : tOp (rEqD K ps mf) (qE K W ma) (qE K W mb) σ H Q := by
  obtain ⟨ρ, F, T, fr, rel, h⟩ := h
  refine aw' rel h fun dx ρ1 v H1 F1 T1 e1 z1 r1 h1 => ?_
  refine aw' r1 h1 fun dy ρ2 u H2 F2 T2 e2 z2 r2 h2 => ?_
  split at h2
  . rename_i hi
    obtain ⟨n, C, fs, t, rfl, ew, hC, et⟩ := oJ' hi
    obtain ⟨a, d1, fv, os, f2, hT, rfl, hH, _⟩ := r2.wins ew
    have z1 := z1.mono e2
    cases z1 with
    | obj t =>
      rw [hT] at t
      cases t
      obtain ⟨fp, f, _⟩ := r2.fp
      refine ⟨C, _, a, d1, _, hC, sB' et, rfl, hH, mb' f.low z2 et, ?_⟩
      obtain ⟨fe, fw, re, rw, f⟩ := r2
      refine ⟨[.obj n, dy], ρ2.w, F2, T2, fe ++ fr, .cons (.obj hT) (.cons z2 .nil), ⟨[], fw, qU', rw, f.part (by walk_at "parts")⟩, ?_⟩
      cases em : mf [.obj n, dy] ρ2.w with
      | bad => rw [em] at h2; exact h2.elim
      | exc x w' => rw [em] at h2; exact h2.elim
      | ok o w' =>
        rw [em] at h2
        intro w H' F' T' fp e z r
        cases z with
        | fz z =>
          rename_i d
          cases d <;> try exact h2.elim
          cases z
          exact ⟨_, rfl, h2 _ H' F' T' (e1.trans (e2.trans e)) (.bl _) (Rel.reenv (fp := []) re e r)⟩
        | lst _ => exact h2.elim
        | tup _ => exact h2.elim
        | dct _ _ => exact h2.elim
        | dcl _ _ => exact h2.elim
        | dcn _ _ _ => exact h2.elim
  . exact h2.elim
end
section
variable {X : Cx} {W : WX} {pos p tpos : Pos} {a b e o i : Expr} {ma mb mo mi : M.ME} {k : Nat} {args : List Str} {mf : M.MF}
theorem mp' {C : String} {ps : List (String × String)} (F : OgM X.prog X.w X.K X.mg X.base k (He.ga X.K C) "__eq__" args (spM X.K mf)) (hr : RoomG k X.A) (hp : u2' X.K ps (He.ma X.K (He.ga X.K C) "__eq__")) (ha : SE X W a ma) (hb : SE X W b mb) :
    SE X W (.Compare a [.Eq] [b] pos) (M.pZ' ps mf ma mb) := PE.imp (pe_cmpR (op_eqD F hr hp) ha hb (nomark _)) fun _ _ _ h => oQ' h
end
end S
namespace S
open PySem PySem.Spec PyProof.Rows L2
variable [Wd] [Hot]
mutual
inductive DqN (K : PySem.W.Frag) (H : Hp) : V -> M.D -> Prop
  | leaf {v : V} {d : M.D} : Dp K H v (py d) -> M.cD' d = true -> DqN K H v d
  | tup {a : Addr} {vs : List V} {ds : List M.D} : SqT K H a vs -> DqNs K H vs ds -> DqN K H (.ref a) (.tup ds)
  | lst {a : Addr} {vs : List V} {ds : List M.D} : H a = some (.lst vs) -> DqNs K H vs ds -> DqN K H (.ref a) (.lst ds)
  | dct {a : Addr} {kvs : List (Key × V)} {ds : List M.D} : Rd H a (.dK kvs) -> kv' kvs -> DqNs K H (kvs.map (·.2)) ds -> DqN K H (.ref a) (.dct (kvs.map fun p => kD p.1) ds)
inductive DqNs (K : PySem.W.Frag) (H : Hp) : List V -> List M.D -> Prop
  | nil : DqNs K H [] []
  | cons {v : V} {d : M.D} {vs : List V} {ds : List M.D} : DqN K H v d -> DqNs K H vs ds -> DqNs K H (v :: vs) (d :: ds)
end
section
variable {K : PySem.W.Frag} {F H : Hp} {T : List Addr}
end
section
variable {X : Cx} {pins : List (Addr × Obj)} {σ : St} {H : Hp} {s : Shared}
def u1' (K : PySem.W.Frag) : Prop := ∃ o, K.lookup sysModules = some o
theorem qu' (I : Inv X pins σ H s) (h : u1' X.K) {a : Addr} {o : HO} (ha : H a = some o) : a ≠ sysModules := fun e => by
  obtain ⟨ob, hk⟩ := h
  have := (I.bs _ _ (I.ok.mod.kin _ _ hk)).2
  rw [e, this] at ha
  cases ha
mutual
theorem DqN.reads (I : Inv X pins σ H s) (hS : u1' X.K) : ∀ {v : V} {d : M.D} {u : Value}, DqN X.K H v d -> RelV v u -> ∃ as, Reads s.heap u (py d) as /\ sysModules ∉ as
  | _, _, _, .leaf h l, r => ⟨[], cC' I l h r, by simp⟩
  | _, _, _, .tup hs la, r => by
    cases r
    obtain ⟨its, rv, ⟨o, ho, hc, n, hd⟩, _⟩ := I.tuple hs
    obtain ⟨as, hr, hm⟩ := DqNs.reads I hS la rv
    exact ⟨_, Reads.tuple ho hc hd hr, hm⟩
  | _, _, _, .lst (a := a) hs la, r => by
    cases r
    obtain ⟨_, its, n, rv, hd⟩ := I.hok a _ hs
    obtain ⟨as, hr, hm⟩ := DqNs.reads I hS la rv
    refine ⟨_, Reads.list hd rfl rfl hr, fun z => ?_⟩
    rcases List.mem_cons.mp z with z | z
    . exact qu' I hS hs z.symm
    . exact hm z
  | _, _, _, .dct (a := a) (kvs := kvs) (ds := ds) e k la, r => by
    cases r
    obtain ⟨_, hs, vs, rk, hd⟩ := dk_rd I.hok e
    obtain ⟨bs, hp, hm⟩ := DqNs.pairs I hS la kvs rfl rk
    refine ⟨_, PyProof.V.reads_dictOf (enc := kP) (fun k key hk => ?_) hd hp, fun z => ?_⟩
    . rcases keyIs_shape hk with ⟨i, t, rfl, rfl⟩ | ⟨x, t, rfl, rfl⟩
      . exact .int i t
      . exact .str _ t
    . rcases List.mem_cons.mp z with z | z
      . rw [<- z] at hs
        simp at hs
      . exact hm z
theorem DqNs.reads (I : Inv X pins σ H s) (hS : u1' X.K) : ∀ {vs : List V} {ds : List M.D} {us : List Value}, DqNs X.K H vs ds -> Vals vs us -> ∃ as, ReadsAll s.heap us (pys ds) as /\ sysModules ∉ as
  | _, _, _, .nil, r => by
    cases r
    exact ⟨[], .nil, by simp⟩
  | _, _, _, .cons h1 h2, r => by
    cases r with
    | cons r1 r2 =>
      obtain ⟨as, q1, q4⟩ := DqN.reads I hS h1 r1
      obtain ⟨bs, q2, q3⟩ := DqNs.reads I hS h2 r2
      exact ⟨_, .cons q1 q2, fun z => (List.mem_append.mp z).elim q4 q3⟩
theorem DqNs.pairs (I : Inv X pins σ H s) (hS : u1' X.K) : ∀ {vs : List V} {ds : List M.D}, DqNs X.K H vs ds -> ∀ (kvs : List (Key × V)) {us : List (Key × Value)}, kvs.map (·.2) = vs -> KV kvs us →
    ∃ bs, PyProof.V.PairsRead s.heap kP us ((pys (kvs.map fun p => kD p.1)).zip (pys ds)) bs /\ sysModules ∉ bs
  | _, _, .nil, kvs, us, e, r => by
    cases kvs with
    | nil => cases r; exact ⟨[], .nil, by simp⟩
    | cons _ _ => cases e
  | _, _, .cons h1 h2, kvs, us, e, r => by
    cases kvs with
    | nil => cases e
    | cons p kvs =>
      obtain ⟨k, v⟩ := p
      obtain ⟨rfl, e2⟩ := List.cons.inj e
      cases r with
      | @cons _ q _ us hr hp =>
        obtain ⟨k', u⟩ := q
        obtain ⟨he, hr⟩ := hr
        have he : k = k' := he
        subst he
        obtain ⟨as, q1, q4⟩ := DqN.reads I hS h1 hr
        obtain ⟨bs, q2, q3⟩ := DqNs.pairs I hS h2 kvs e2 hp
        exact ⟨_, PyProof.V.PairsRead.cons (enc := kP) (k := k) q1 q2, fun z => (List.mem_append.mp z).elim q4 q3⟩
end
end
section
variable {X : Cx}
end
end S
namespace S
open PySem PySem.Spec PyProof.Rows L2
variable [Wd] [Hot]
end S
namespace S
open PySem PySem.Spec PyProof.Rows L2 HT
variable [Wd] [Hot]
section
variable {prog : Program} {w : World} {A : Around} {E : Value -> Shared -> Prop} {s : Shared}
end
section
variable {X : Cx} {W : WX} {a : Expr} {ma : M.ME} {pos p1 p2 p3 : Pos} {k : Nat}
end
end S
namespace S
open PySem PySem.Spec PyProof.Rows L2
variable [Wd]
section
variable {X : Cx} {W : WX} {pos p : Pos} {a b : Expr}
end
end S
namespace S
open PySem PySem.Spec PyProof.Rows L2 CwR
section
variable {X : Cx} {o e : Expr} {te to : TE} {es : List Expr} {ta : TA} {y z : Str} {i : Int} {j j1 j2 : Nat} {c0 c1 apos pos p : Pos}
end
variable [Wd]
section
variable {X : Cx} {W : WX} {o : Expr} {mo : M.ME} {y z : Str} {i : Int} {j j1 j2 : Nat} {c0 c1 apos pos p : Pos}
end
end S
namespace S
open PySem PySem.Spec PyProof.Rows L2
variable [Wd]
section
variable {X : Cx} {W : WX} {a : Expr} {ma : M.ME} {pos : Pos}
end
end S
namespace S
open PySem PySem.Spec PyProof.Rows L2
end S
namespace S
open PySem PySem.Spec PyProof.Rows L2
variable [Wd] [Hot]
section
variable {K : PySem.W.Frag} {W : WX} {X : Cx} {p pos : Pos} {a b : Expr} {ma mb : M.ME}
end
end S
namespace S
open PySem PySem.Spec
open PySem (ZipApart)
structure ZlSt (h : Heap) (z TI TO i1 i2 l1 l2 : Addr) (xs ys : Array Value) (S : Addr) (i : Nat) : Prop where
  ti : IsPair h TI (.ref i1) (.ref i2)
  it1 : h.IsListIter i1 l1 i
  it2 : h.IsListIter i2 l2 i
  li1 : h.IsList l1 xs
  li2 : h.IsList l2 ys
  zz : (IsZip h z TI TO .none /\ ∃ a b, IsPair h TO a b) \/ ∃ T f oT, PySem.IsZipHeld h z TI TO T f /\ h.get? T = some oT /\ T ≠ z /\ T ≠ i1 /\ T ≠ i2 /\ T ≠ S
structure ZlA (z TI TO i1 i2 l1 l2 S : Addr) : Prop where
  z : z < S
  TI : TI < S
  TO : TO < S
  i1 : i1 < S
  i2 : i2 < S
  l1 : l1 < S
  l2 : l2 < S
section
variable {prog : Program} {w : World} {A : Around} {E : Value -> Shared -> Prop} {s : Shared} {z TI TO i1 i2 l1 l2 S : Addr} {xs ys : Array Value} {i : Nat}
theorem ZlSt.keep {h h' : Heap} (st : ZlSt h z TI TO i1 i2 l1 l2 xs ys S i) (L : ZlA z TI TO i1 i2 l1 l2 S) (hk : ∀ b o, b ≠ S -> h.get? b = some o -> h'.get? b = some o) : ZlSt h' z TI TO i1 i2 l1 l2 xs ys S i := by
  obtain ⟨a1, a2, a3, a4, a5, a6⟩ := st
  have n : ∀ {a : Addr}, a < S -> a ≠ S := fun h => Nat.ne_of_lt h
  refine ⟨hk _ _ (n L.TI) a1, a2.at fun o e => hk _ o (n L.i1) e, a3.at fun o e => hk _ o (n L.i2) e, a4.at fun o e => hk _ o (n L.l1) e, a5.at fun o e => hk _ o (n L.l2) e, ?_⟩
  rcases a6 with ⟨hz, a, b, hTO⟩ | ⟨T, f, oT, hz, hT, r1, r2, r3, r4⟩
  . exact .inl ⟨hk _ _ (n L.z) hz, a, b, hk _ _ (n L.TO) hTO⟩
  . exact .inr ⟨T, f, oT, hk _ _ (n L.z) hz, hk _ _ r4 hT, r1, r2, r3, r4⟩
structure ZlG (xs ys : Array Value) (lo : Addr) (h : Heap) (as : List Addr) : Prop where
  rise : as.Pairwise (· < ·)
  above : ∀ a ∈ as, lo < a
  pairs : ∀ (j : Nat) (a : Addr), as[j]? = some a -> ∃ x y, xs[j]? = some x /\ ys[j]? = some y /\ h.get? a = some { cls := .type "tuple", data := .seq #[x, y] }
theorem ZlG.there {lo : Addr} {h : Heap} {as : List Addr} (g : ZlG xs ys lo h as) {a : Addr} (ha : a ∈ as) : a < h.objs.size := by
  obtain ⟨j, hj⟩ := List.mem_iff_getElem?.mp ha
  obtain ⟨_, _, _, _, e⟩ := g.pairs j a hj
  exact Heap.lt_size e
end
section
variable {prog : Program} {w : World} {A : Around} {s : Shared} {R : Result -> Shared -> Prop} {z TI TO i1 i2 l1 l2 S : Addr} {xs ys : Array Value}
end
section
variable {prog : Program} {w : World} {A : Around} {E : Value -> Shared -> Prop} {s : Shared} {z TI TO i1 i2 l1 l2 S : Addr} {xs ys : Array Value}
theorem ZlSt.type {h : Heap} {i : Nat} (st : ZlSt h z TI TO i1 i2 l1 l2 xs ys S i) : ∃ o, h.get? z = some o /\ o.cls = .type "zip" := by
  rcases st.zz with ⟨hz, _⟩ | ⟨T, f, oT, hz, _⟩
  . exact ⟨_, hz, rfl⟩
  . exact ⟨_, hz, rfl⟩
end
end S
namespace S
open PySem PySem.Spec PyProof.Rows L2 LiI
section
variable {X : Cx}
end
section
variable {K : PySem.W.Frag} [Wd]
end
section
variable [Wd] {X : Cx} {W : WX} {a b : Expr} {ma mb : M.ME} {p p2 pos pos2 : Pos}
end
end S
namespace S
open PySem PySem.Spec PyProof.Rows L2
section
variable {prog : Program} {w : World} {A : Around} {E : Value -> Shared -> Prop} {s : Shared} {z TI TO i1 i2 l1 l2 : Addr} {xs ys : Array Value} {k : Nat}
abbrev ZO (h : Heap) (z TI TO : Addr) (f0 : Value) (b : Bool) : Prop :=
  h.get? z = some { cls := .type "zip", dict := none, data := .fields #[f0, .bool b, .bool false, .ref TI, .ref TO], slots := #[] }
def Gvn (f0 : Value) : Prop := f0 = .none \/ ∃ T : Addr, f0 = rawInt T
structure ZnSt (h : Heap) (z TI TO i1 i2 l1 l2 : Addr) (k : Nat) : Prop where
  zz : ∃ f0 b, ZO h z TI TO f0 b /\ Gvn f0
  ti : IsPair h TI (.ref i1) (.ref i2)
  to : ∃ x y, IsPair h TO x y
  h1 : h.IsTupleIter i1 l1 k
  h2 : h.IsTupleIter i2 l2 k
end
end S
namespace S
open PySem PySem.Spec PyProof.Rows L2
section
variable [Wd] [Hot] {X : Cx} {W : WX} {a b : Expr} {ma mb : M.ME} {p pos : Pos}
end
end S
namespace S
open PySem PySem.Spec PyProof.Rows L2
section
variable [Wd] [Hot] {X : Cx} {W : WX} {a : Expr} {ma : M.ME} {pos : Pos}
end
end S
namespace S
open PySem PySem.Spec PyProof.Rows L2
variable [Wd]
inductive DSd (K : PySem.W.Frag) (H : Hp) (a : Addr) (y v : V) (Q : V -> Hp -> Prop) : Prop
  | old {xs : List (NestedKey × Addr × V)} {b : Addr} {k : NestedKey} {u : V} : H a = some (dcN a xs) -> u0' K H xs -> y = .ref b -> NkV K H (.ref b) k -> k.depth <= 8 -> valV (xsV xs) k = some u -> xs.length <= sizeLine -> Q u H -> DSd K H a y v Q
  | new {xs : List (NestedKey × Addr × V)} {b : Addr} {k : NestedKey} : H a = some (dcN a xs) -> u0' K H xs -> y = .ref b -> NkV K H (.ref b) k -> k.depth <= 8 -> valV (xsV xs) k = none -> (uP' xs k b v).length <= sizeLine -> Q v (upd H a (dcN a (uP' xs k b v))) -> DSd K H a y v Q
  | fst {b : Addr} {k : NestedKey} : H a = some (dcL a []) -> y = .ref b -> NkV K H (.ref b) k -> k.depth <= 8 -> Q v (upd H a (dcN a [(k, b, v)])) -> DSd K H a y v Q
section
variable {X : Cx} {pins : List (Addr × Obj)} {σ : St} {H : Hp} {s : Shared} {a : Addr} {y : V} {u : Value} {A : Around} {E : Value -> Shared -> Prop}
end
section
variable [Hot] {X : Cx} {W : WX} {o : Expr}
end
end S
namespace PySem.W
open Spec PyProof PyProof.Rows
section
variable {prog : Program} {w : World} {A A₀ : Around} {E : Value -> Shared -> Prop} {s : Shared} {K : Frag} {x y C C' L f : Addr} {h₀ : Heap} {m : Str -> Option Value} {ox oy : Obj} {od od' : Option Obj} {b tb : Value}
end
end PySem.W
namespace S
open PySem PySem.Spec PyProof.Rows L2
variable [Wd] [Hot]
local macro_rules | `(tactic| walk_at "parts") => `(tactic| (constructor; (intro e h; simp only [List.mem_append, List.mem_cons, List.not_mem_nil] at *; grind); (intro x; simp only [keys, List.map_append, List.map_cons, List.map_nil, List.count_append, List.count_cons, List.count_nil] at *; omega)))
section
variable {K : PySem.W.Frag} {σ : St} {H : Hp} {Q : VK} {W : WX}
end
section
variable {X : Cx} {W : WX} {pos p : Pos} {a b e : Expr} {ma mb : M.ME} {k : Nat} {args : List Str} {mf : M.MF}
end
end S
namespace S
open PySem PySem.Spec PyProof.Rows L2
local macro_rules | `(tactic| walk_at "parts") => `(tactic| (constructor; (intro e h; simp only [List.mem_append, List.mem_cons, List.not_mem_nil] at *; grind); (intro x; simp only [keys, List.map_append, List.map_cons, List.map_nil, List.count_append, List.count_cons, List.count_nil] at *; omega)))
section
variable [Wd]
variable {K : PySem.W.Frag} {F H G : Hp} {T T' : List Addr}
end
section
variable [Wd]
variable {K : PySem.W.Frag} {F H G : Hp} {T T' : List Addr}
def NoD (fp : Fp) : Prop := ∀ e ∈ fp, (∀ kvs, e.2 ≠ .dK kvs) /\ (∀ φ, e.2 ≠ .ext φ) /\ ∀ od u, e.2 ≠ .frz od u
theorem NoD.app {a b : Fp} (h : NoD a) (g : NoD b) : NoD (a ++ b) := fun e he => (List.mem_append.mp he).elim (h e) (g e)
structure Split (C A B : Fp) : Prop where
  mem : ∀ e, e ∈ C ↔ e ∈ A \/ e ∈ B
  cnt : ∀ x, (keys C).count x = (keys A).count x + (keys B).count x
end
section
variable [Wd] [Hot] {X : Cx} {W : WX} {a b e : Expr} {ma mb me : M.ME} {p p2 pos pos2 : Pos}
variable {es : List Expr} {mo : M.MO} {moa : M.MOA}
end
section
variable [Wd] {X : Cx} {W : WX} {a b : Expr} {ma mb : M.ME} {p p2 pos pos2 : Pos}
end
end S
namespace PySem.W
open PySem PySem.Spec PySem.Calls PyProof PyProof.Rows
section
variable {x t : Value} {P : Heap -> Prop}
end
end PySem.W
namespace L2
open PySem PySem.Spec PyProof.Rows
end L2
namespace S
open PySem PySem.Spec PyProof.Rows L2
variable [Wd] {X : Cx} {W : WX} {pos p : Pos} {a b : Expr}
end S
namespace S
open PySem PySem.Spec PyProof.Rows L2
variable [Wd] [Hot]
local macro_rules | `(tactic| walk_at "parts") => `(tactic| (constructor; (intro e h; simp only [List.mem_append, List.mem_cons, List.not_mem_nil] at *; grind); (intro x; simp only [keys, List.map_append, List.map_cons, List.map_nil, List.count_append, List.count_cons, List.count_nil] at *; omega)))
section
variable {K : PySem.W.Frag} {F H : Hp} {T : List Addr} {fp fr : Fp} {ρ : M.PSt} {σ : St}
theorem RpA.named {f : String} {o : M.O} : ∀ {fv : List (String × V)} {os : List M.O} {fp : Fp}, RpA K F T (fv.map (·.2)) os fp -> ((fv.map (·.1)).zip os).lookup f = some o →
    ∃ v f1 f2 f3, fv.lookup f = some v /\ fp = f1 ++ (f2 ++ f3) /\ Rp K F T v o f2 /\ ∀ o' f2', Rp K F T v o' f2' -> ∃ os', RpA K F T (fv.map (·.2)) os' (f1 ++ (f2' ++ f3)) /\ M.nM' f o' ((fv.map (·.1)).zip os) = (fv.map (·.1)).zip os'
  | [], _, _, r, h => by cases r; cases h
  | (g, v) :: fv, _, _, r, h => by
    cases r with
    | @cons _ _ o1 os fa fb r0 r =>
      by_cases e : f = g
      . subst e
        have h : some o1 = some o := by rw [<- h, List.map_cons, List.zip_cons_cons, List.lookup_cons_self]
        cases h
        refine ⟨v, [], fa, fb, List.lookup_cons_self, rfl, r0, fun o' f2' q => ⟨o' :: os, (RpA.cons q r : RpA K F T _ _ (f2' ++ fb)), ?_⟩⟩
        rw [List.map_cons, List.zip_cons_cons, List.zip_cons_cons]
        exact if_pos rfl
      . have h1 : (f == g) = false := by simpa using e
        have h : ((fv.map (·.1)).zip os).lookup f = some o := by
          rw [<- h, List.map_cons, List.zip_cons_cons]
          simp only [List.lookup, h1]
        obtain ⟨v', f1, f2, f3, e1, e2, e3, e4⟩ := RpA.named r h
        refine ⟨v', fa ++ f1, f2, f3, by simp only [List.lookup, h1]; exact e1, by rw [e2, List.append_assoc], e3, fun o' f2' q => ?_⟩
        obtain ⟨os', q1, q2⟩ := e4 o' f2' q
        refine ⟨o1 :: os', by rw [List.append_assoc]; exact .cons r0 q1, ?_⟩
        rw [List.map_cons, List.zip_cons_cons, List.zip_cons_cons]
        show (if g = f then _ else _) = _
        rw [if_neg (fun z => e z.symm), q2]
end
section
variable {X : Cx} {W : WX} {pos apos cpos tpos p2 : Pos} {a b e k value : Expr} {ma mk mv : M.ME}
end
end S
namespace S
open PySem PySem.Spec PyProof.Rows L2
variable [Wd] [Hot]
section
variable {K : PySem.W.Frag}
end
end S
namespace S
open PySem PySem.Spec PyProof.Rows L2
variable [Wd] [Hot]
section
variable {X : Cx} {W : WX} {K : PySem.W.Frag} {a b : Expr} {ma mb : M.ME} {pos p apos : Pos} {x : Str}
end
end S
namespace S
open PySem PySem.Spec PyProof.Rows L2
variable [Wd] [Hot]
section
variable {X : Cx} {tg e : Expr} {td : TE}
end
section
variable {K : PySem.W.Frag} {F : Hp} {T : List Addr}
end
section
variable {X : Cx} {W : WX} {tg a : Expr} {ma : M.ME}
end
end S
namespace S
open PySem PySem.Spec PyProof.Rows L2
variable [Wd]
section
variable {K : PySem.W.Frag}
end
variable [Hot]
section
variable {X : Cx} {W : WX} {pos cpos apos spos ipos epos : Pos}
end
end S
namespace S
open PySem PySem.Spec PyProof.Rows L2
variable [Wd]
inductive CodeMade (Ck : Addr -> Prop) (H : Hp) (P : Addr) (q : Str) (c : Addr) : Hp -> Prop
  | told : Ck c -> CodeMade Ck H P q c H
  | fresh {ps ps' : Array Value} : H c = none -> H P = some (.tbl ps) -> TriplesOk ps'.toList -> (∀ (pos : Pos) (cv : Value), codeAmong pos ps'.toList = some cv -> codeAmong pos ps.toList = some cv \/ cv = .ref c) →
      CodeMade Ck H P q c (upd (upd H P (.tbl ps')) c (LamX.CodeO c q))
section
variable {X : Cx} {pins : List (Addr × Obj)} {σ : L2.St} {H : Hp} {s : Shared}
end
end S
namespace S
open PySem PySem.Spec PyProof.Rows L2
end S
namespace S
open PySem PySem.Spec PyProof.Rows L2
variable [Wd]
end S
namespace S
open PySem PySem.Spec PyProof.Rows L2
section
variable {P : Program} {w : World} {K : PySem.W.Frag} {mg mb : Str -> Option Value} {CX : CXT} {k : Nat} {fa a : Addr} {fd : FuncData} {x : Str} {sp : Sp} {s : Shared} {vs : List Value} {n0 : Nat} {H : Hp} {cs : List (Addr × Addr)}
end
end S
namespace S
open PySem PySem.Spec PyProof.Rows L2
variable [Wd] [Hot]
section
variable {X : Cx} {W : WX} {pos apos tpos p2 : Pos} {a value : Expr} {ma mv : M.ME} {t : Str} {j2 : Nat} {s : M.Tx}
end
end S
namespace S
open PySem PySem.Spec PyProof.Rows PySem.W
section
variable {prog : Program} {w : World} {A : Around} {E : Value -> Shared -> Prop} {s : Shared}
end
section
open L2
variable {X : Cx}
end
section
open L2
variable {X : Cx} {e : Expr} {te : TE} {p apos cpos pos : Pos} {sn : Str}
end
section
open L2
variable [Wd] [Hot]
end
section
open L2
variable [Wd] [Hot]
end
section
open L2
variable [Wd] [Hot] {X : Cx} {W : WX} {a : Expr} {ma : M.ME} {p apos iapos cpos pos : Pos} {sn : Str}
end
end S
namespace S
open PySem PySem.Spec PyProof.Rows L2
local macro_rules | `(tactic| walk_at "parts") => `(tactic| (constructor; (intro e h; simp only [List.mem_append, List.mem_cons, List.not_mem_nil] at *; grind); (intro x; simp only [keys, List.map_append, List.map_cons, List.map_nil, List.count_append, List.count_cons, List.count_nil] at *; omega)))
section
variable [Wd]
variable {K : PySem.W.Frag} {F H G : Hp} {T T' : List Addr}
def Drp (kl kd : Bool) (F G : Hp) : Prop := ∀ a o, F a = some o -> G a = some o \/ (kl = true /\ ∃ vs, o = .lst vs) \/ (kd = true /\ ∃ od kvs, o = .frz od (.dK kvs))
theorem Drp.keep {kl kd : Bool} (s : Drp kl kd F G) {a : Addr} {o : HO} (h : F a = some o) (n1 : ∀ vs, o ≠ .lst vs) (n2 : ∀ od kvs, o ≠ .frz od (.dK kvs)) : G a = some o := by
  rcases s a o h with h | ⟨_, vs, e⟩ | ⟨_, od, kvs, e⟩
  . exact h
  . exact absurd e (n1 vs)
  . exact absurd e (n2 od kvs)
theorem Drp.seqT {kl kd : Bool} (s : Drp kl kd F G) {a : Addr} {xs : List V} (h : SqT K F a xs) : SqT K G a xs := by
  rcases h with (h | ⟨o, h⟩) | h
  . exact .inl (.inl (s.keep h (fun _ z => nomatch z) fun _ _ z => nomatch z))
  . exact .inl (.inr ⟨o, s.keep h (fun _ z => nomatch z) fun _ _ z => nomatch z⟩)
  . exact .inr h
theorem Drp.lst {kd : Bool} (s : Drp false kd F G) {a : Addr} {vs : List V} (h : F a = some (.lst vs)) : G a = some (.lst vs) := by
  rcases s a _ h with h | ⟨z, _⟩ | ⟨_, od, kvs, e⟩
  . exact h
  . cases z
  . cases e
theorem Drp.seqL {kd : Bool} (s : Drp false kd F G) {a : Addr} {xs : List V} (h : SqL K F a xs) : SqL K G a xs := by
  rcases h with (h | ⟨o, h⟩) | h
  . exact .inl (.inl (s.lst h))
  . exact .inl (.inr ⟨o, s.keep h (fun _ z => nomatch z) fun _ _ z => nomatch z⟩)
  . exact .inr h
theorem Drp.dict {kl : Bool} (s : Drp kl false F G) {a : Addr} {kvs : List (Key × V)} (h : Rd F a (.dK kvs)) : Rd G a (.dK kvs) := by
  rcases h with h | ⟨o, h⟩
  . exact .inl (s.keep h (fun _ z => nomatch z) fun _ _ z => nomatch z)
  . rcases s a _ h with h | ⟨_, _, e⟩ | ⟨z, _⟩
    . exact .inr ⟨o, h⟩
    . cases e
    . cases z
theorem Drp.ext {kl kd : Bool} (s : Drp kl kd F G) {a : Addr} {φ : Heap -> Prop} (h : Rd F a (.ext φ)) : Rd G a (.ext φ) := by
  rcases h with h | ⟨o, h⟩
  . exact .inl (s.keep h (fun _ z => nomatch z) fun _ _ z => nomatch z)
  . exact .inr ⟨o, s.keep h (fun _ z => nomatch z) fun _ _ z => nomatch z⟩
theorem wS' {a b : Bool} (h : (a && b) = true) : a = true /\ b = true := Bool.and_eq_true_iff.mp h
def Lnt (kl kd : Bool) (o : HO) : Prop := (kl = true /\ ∃ vs, o = .lst vs) \/ (kd = true /\ ∃ kvs, o = .dK kvs)
def xX' (G : Hp) (e : Addr × HO) : Prop := G e.1 = some e.2 \/ ∃ od kvs, e.2 = .dK kvs /\ G e.1 = some (.frz od e.2)
theorem RpA.allFz {vs : List V} {os : List M.O} {fp : Fp} (r : RpA K F T vs os fp) (h : os.all M.ri' = true) : fp = [] /\ FzA K F T vs (M.frzs os) := by
  induction vs generalizing os fp with
  | nil => cases r; exact ⟨rfl, .nil⟩
  | cons v vs ih =>
    cases r with
    | @cons _ _ o os fa fb q r =>
      obtain ⟨h1, h2⟩ := wS' (show (M.ri' o && os.all M.ri') = true from h)
      obtain ⟨rfl, z⟩ := ih r h2
      cases o <;> try (cases h1; done)
      cases q with
      | fz q => exact ⟨rfl, .cons q z⟩
theorem Rp.lendO {kl kd : Bool} {v : V} {o : M.O} {fp : Fp} (q : Rp K F T v o fp) (h : M.lendO kl kd o = true) : (∀ e ∈ fp, Lnt kl kd e.2) /\ fp.length = M.uT' o /\ ∀ G, Same F G -> (∀ e ∈ fp, xX' G e) -> Fz K G T v (M.frz o) := by
  cases q with
  | fz z => exact ⟨nofun, rfl, fun G s _ => z.mono (.of s)⟩
  | lst r =>
    obtain ⟨h1, h2⟩ := wS' (show (kl && _) = true from h)
    obtain ⟨rfl, z⟩ := r.allFz h2
    refine ⟨fun e he => ?_, rfl, fun G s g => ?_⟩
    . cases List.mem_singleton.mp he; exact .inl ⟨h1, _, rfl⟩
    . rcases g _ List.mem_cons_self with g | ⟨_, _, g, _⟩
      . exact .lst g (z.mono (.of s))
      . cases g
  | tup r => cases h
  | dct k r =>
    obtain ⟨h1, h2⟩ := wS' (show (kd && _) = true from h)
    obtain ⟨rfl, z⟩ := r.allFz h2
    refine ⟨fun e he => ?_, rfl, fun G s g => ?_⟩
    . cases List.mem_singleton.mp he; exact .inr ⟨h1, _, rfl⟩
    . rcases g _ List.mem_cons_self with g | ⟨od, _, _, g⟩
      . exact .dct (.inl g) k (z.mono (.of s))
      . exact .dct (.inr ⟨od, g⟩) k (z.mono (.of s))
  | dcl k r => cases h
  | dcn k q r => cases h
end
section
variable [Wd] [Hot] {X : Cx} {W : WX} {e : Expr} {mo : M.MO}
end
end S
namespace S
open PySem PySem.Spec PyProof.Rows L2
local macro_rules | `(tactic| walk_at "parts") => `(tactic| (constructor; (intro e h; simp only [List.mem_append, List.mem_cons, List.not_mem_nil] at *; grind); (intro x; simp only [keys, List.map_append, List.map_cons, List.map_nil, List.count_append, List.count_cons, List.count_nil] at *; omega)))
variable [Wd] [Hot]
section
variable {K : PySem.W.Frag}
end
section
variable {X : Cx} {W : WX} {a b : Expr} {mb : M.ME} {pos : Pos}
end
end S
namespace S
open PySem PySem.Spec PyProof.Rows L2
local macro_rules | `(tactic| walk_at "parts") => `(tactic| (constructor; (intro e h; simp only [List.mem_append, List.mem_cons, List.not_mem_nil] at *; grind); (intro x; simp only [keys, List.map_append, List.map_cons, List.map_nil, List.count_append, List.count_cons, List.count_nil] at *; omega)))
variable [Wd]
section
variable {X : Cx} {pins : List (Addr × Obj)} {σ : St} {H : Hp} {s : Shared} {a b : Addr} {y d : V} {u r : Value} {ov : Option V} {A : Around} {E : Value -> Shared -> Prop}
end
section
variable [Hot] {X : Cx} {W : WX} {o e f a i k l : Expr} {me mf ma mk ml : M.ME} {pos tpos tpos2 apos cpos : Pos}
end
section
variable {K : PySem.W.Frag}
end
section
variable [Hot]
end
end S
namespace S
open PySem PySem.Spec PyProof.Rows L2
variable [Wd]
end S
namespace S
open PySem PySem.Spec PyProof.Rows L2
variable [Wd] [Hot]
section
variable {X : Cx} {W : WX}
end
end S
namespace S
open PySem PySem.Spec PyProof.Rows L2
local macro_rules | `(tactic| walk_at "parts") => `(tactic| (constructor; (intro e h; simp only [List.mem_append, List.mem_cons, List.not_mem_nil] at *; grind); (intro x; simp only [keys, List.map_append, List.map_cons, List.map_nil, List.count_append, List.count_cons, List.count_nil] at *; omega)))
variable [Wd]
inductive HitsD (K : PySem.W.Frag) (H : Hp) (ls : List (Key × V)) : List (Key × V) -> Bool -> Prop
  | nil : HitsD K H ls [] true
  | miss {p : Key × V} {r : List (Key × V)} : valV ls p.1 = none -> HitsD K H ls (p :: r) false
  | hit {p : Key × V} {u : V} {d e : PyData} {r : List (Key × V)} {b : Bool} : valV ls p.1 = some u -> Dp K H p.2 d -> Dp K H u e -> SeqAt.shaped d = true -> SeqAt.shaped e = true -> HitsD K H ls r b -> HitsD K H ls (p :: r) (PyData.eqv d e && b)
section
variable {X : Cx}
end
section
variable {K : PySem.W.Frag}
end
section
variable {X : Cx} {pins : List (Addr × Obj)} {σ : St} {H : Hp} {s : Shared} {a b : Addr} {y d : V} {u r : Value} {ov : Option V} {A : Around} {E : Value -> Shared -> Prop}
end
section
variable [Hot] {X : Cx} {W : WX} {o e f a i k l : Expr} {me mf ma mk ml : M.ME} {pos tpos tpos2 apos cpos : Pos}
end
end S
namespace S
open PySem PySem.Spec PyProof.Rows L2 PySem.SeqAt
variable [Wd] [Hot]
variable {K : PySem.W.Frag}
end S
namespace S
open PySem PySem.Spec PyProof.Rows L2
local macro_rules | `(tactic| walk_at "parts") => `(tactic| (constructor; (intro e h; simp only [List.mem_append, List.mem_cons, List.not_mem_nil] at *; grind); (intro x; simp only [keys, List.map_append, List.map_cons, List.map_nil, List.count_append, List.count_cons, List.count_nil] at *; omega)))
section
variable [Wd] [Hot] {X : Cx} {W : WX} {pos : Pos}
end
end S
namespace S
open PySem PySem.Spec PyProof.Rows L2
variable [Wd] [Hot]
section
variable {K : PySem.W.Frag} {W : WX} {σ : St} {H : Hp} {D : Ends}
end
section
variable {X : Cx} {W : WX} {pos px ps pr : Pos} {tg c e : Expr} {sl : List Nat} {i : Nat} {nm : Str} {g : M.MG} {t : M.MT} {a : M.MO}
end
section
variable {X : Cx} {W : WX} {apos cpos : Pos} {o e : Expr} {es : List Expr} {x : Str} {as : M.MA}
end
end S
namespace L2
open PySem PySem.Spec PyProof.Rows
structure Lay (X : Cx) (pn : List (Addr × Obj)) (a : Addr) (cls : Value) (d : Option Addr) (σ : St) (H : Hp) (s : Shared) : Prop where
  src : ∃ B z, Inv X pn σ H z /\ (∀ b o, z.heap.get? b = some o -> b ∉ frs X.stack -> B.get? b = some o) /\ z.heap.UpToSlots s.heap /\ HandSPX.FlyingZ B (X.env :: X.outer) a (Zc cls d) s.heap /\ s.os = z.os /\ AllBare s.gens
  na : H a = none
section
variable {X : Cx} {pn : List (Addr × Obj)} {a : Addr} {cls : Value} {d : Option Addr} {σ : St} {H : Hp} {s : Shared}
theorem Lay.inv (y : Lay X pn a cls d σ H s) : Inv X pn σ H s := by
  obtain ⟨⟨B, z, I, h1, h2, h3, h4, h5⟩, -⟩ := y
  exact I.landed h1 h3.1 h2 h4 h5
theorem Lay.held (y : Lay X pn a cls d σ H s) (hf : X.env.frame = some X.env.locals) : ∃ oe, s.heap.get? a = some oe /\ Zc cls d oe /\ (∃ vs, oe.data = .fields vs) /\ Inv (X.suite a ((a, oe) :: (X.pn ++ pn))) [] σ H s := by
  have I := y.inv
  obtain ⟨⟨B, z, -, -, -, fl, -, -⟩, na⟩ := y
  obtain ⟨oe, vs, e1, e2, e3⟩ := fl.there
  have off : a ∉ frs (X.env :: X.outer) := by
    intro m
    obtain ⟨_, o2, e4, no⟩ := fl.2.2.1.mem m
    rw [e1] at e4
    cases e4
    exact no vs e3
  have q1 : a ≠ X.env.locals := by
    intro q
    refine off (List.mem_filterMap.2 ⟨X.env, by simp, ?_⟩)
    rw [hf, q]
  have q2 : a ∉ X.fs := by
    intro m
    obtain ⟨w, m1, m2⟩ := List.mem_filterMap.1 m
    exact off (List.mem_filterMap.2 ⟨w, by simp [m1], m2⟩)
  exact ⟨oe, e1, e2, ⟨vs, e3⟩, I.suite e1 e3 na q1 q2⟩
theorem Lay.cool {M : Model} {A : Around} {E : Value -> Shared -> Prop} {Q : Unit -> Shared -> Prop} (y : Lay X pn a cls d σ H s) (h : ∀ s', Lay X pn a cls d σ H s' -> Q () s') : wpAny M A (setFlight (.ref a) none) Q E s := by
  obtain ⟨⟨B, z, I, h1, h2, h3, h4, h5⟩, na⟩ := y
  exact HandSPX.lands_againZ h3 fun g k1 k2 => h _ ⟨⟨B, z, I, h1, h2.trans k2, k1, h4, h5⟩, na⟩
theorem Lay.out {W : WX} {Q : Flow -> Shared -> Prop} (y : Lay X pn a cls d σ H s) (hs : X.stack = X.env :: X.outer) (hf : X.env.frame = some X.env.locals) (tk : Takes X W) (w : W cls d σ H) : wpAny (model X.prog X.w) X.A (handleBy (.ref a) X.env []) Q X.xe s := by
  obtain ⟨⟨B, z, I, h1, h2, h3, h4, h5⟩, na⟩ := y
  obtain ⟨-, -, -, oe, vs, T, -, -, e1, -, e2, e3, -⟩ := id h3
  refine wpAny_handleBy_nil ?_
  unfold PySem.passOn
  refine wpAny_bind (wpAny_field e1 e2 e3 ?_)
  have nT : (Value.ref T == Value.none) = false := by simp
  rw [nT, if_neg Bool.false_ne_true]
  have up : wpAny (model X.prog X.w) X.A (setFlight (.ref a) X.env.frame) (fun _ r => wpAny (model X.prog X.w) X.A (throw (.ref a) : Sem Flow) Q X.xe r) X.xe s := by
    rw [hf]
    refine HandSPX.setFlight_upZ h3 fun g k1 k2 => wpAny_throw (tk (.ref a) _ ?_)
    refine ⟨a, B, z, pn, σ, H, cls, d, rfl, I, h1, h2.trans k2, ?_, na, h4, h5, w⟩
    rw [hs]
    exact .inr (.inr k1)
  first
    | exact wpAny_bind (wpAny_pure (wpAny_bind up))
    | exact wpAny_bind up
end
def xN' (D : Ends) (i : Nat) : Ends := { nx := fun σ H => D.nx (σ.set i none) H, rt := D.rt, bk := fun σ H => D.bk (σ.set i none) H, ct := fun σ H => D.ct (σ.set i none) H }
def tAs (i : Nat) (ts : Addr -> Value -> Option Addr -> TS) : Addr -> Value -> Option Addr -> TS := fun a cls d D σ H => ts a cls d (xN' D i) (σ.set i (some (.ref a))) H
inductive HdsN (X : Cx) : List ExceptHandler -> List (Value × (Addr -> Value -> Option Addr -> TS)) -> Prop
  | nil : HdsN X [] []
  | plain {x : Str} {c : Value} {ts : Addr -> Value -> Option Addr -> TS} {b : Stmt} {bs : List Stmt} {p q : Pos} {r : List ExceptHandler} {l : List (Value × (Addr -> Value -> Option Addr -> TS))} (hc : Names X x c)
      (h : ∀ (a : Addr) (oe : Obj) (cls : Value) (d : Option Addr) (pn : List (Addr × Obj)), Zc cls d oe -> (∃ vs, oe.data = .fields vs) -> PSs (X.suite a ((a, oe) :: pn)) (b :: bs) (ts a cls d)) : HdsN X r l →
      HdsN X (.ExceptHandler (some (.Name x p)) none (b :: bs) q :: r) ((c, ts) :: l)
  | named {x n : Str} {i : Nat} {c : Value} {ts : Addr -> Value -> Option Addr -> TS} {b : Stmt} {bs : List Stmt} {p q : Pos} {r : List ExceptHandler} {l : List (Value × (Addr -> Value -> Option Addr -> TS))} (hN : X.N.Nodup) (hi : X.N[i]? = some n) (hln : X.env.kindOf n = some .local) (hc : Names X x c)
      (h : ∀ (a : Addr) (oe : Obj) (cls : Value) (d : Option Addr) (pn : List (Addr × Obj)), Zc cls d oe -> (∃ vs, oe.data = .fields vs) -> PSs (X.suite a ((a, oe) :: pn)) (b :: bs) (ts a cls d)) : HdsN X r l →
      HdsN X (.ExceptHandler (some (.Name x p)) (some n) (b :: bs) q :: r) ((c, tAs i ts) :: l)
section
variable {X : Cx} {pn : List (Addr × Obj)} {a : Addr} {cls : Value} {d : Option Addr} {σ : St} {H : Hp} {s : Shared}
theorem Lay.asks {x : Str} {c : Value} {b : Bool} {nm : Option Str} {body : List Stmt} {p q : Pos} {r : List ExceptHandler} {Q : Flow -> Shared -> Prop} (y : Lay X pn a cls d σ H s) (hf : X.env.frame = some X.env.locals) (hc : Names X x c) (hb : PySem.W.exmOne X.K cls c = some b)
    (yes : b = true -> codeAny (model X.prog X.w) (X.A.mark (some (.ref a))) (.handlers (.ref a) [.ExceptHandler none nm body q] X.env) (fun o s₂ => match o with
          | .ok f => (match nm with
            | none => Q f s₂
            | some n => wpAny (model X.prog X.w) X.A (do bindName X.env n .none; unbindBehindTheSuite X.env n q) (fun _ s₃ => Q f s₃) X.xe s₂)
          | .error x => cameBackBy (model X.prog X.w) X.A X.env X.xe x s₂) s)
    (no : b = false -> wpAny (model X.prog X.w) X.A (handleBy (.ref a) X.env r) Q X.xe s) : wpAny (model X.prog X.w) X.A (handleBy (.ref a) X.env (.ExceptHandler (some (.Name x p)) nm body q :: r)) Q X.xe s := by
  obtain ⟨oe, e1, e2, e3, S⟩ := y.held hf
  have I := y.inv
  refine wpAny_handleBy_cons (codeAny_handlers_test ?_) (fun z => by cases z)
  have lt : PySem.W.Looks (model X.prog X.w) s.heap (typeOf (.ref a)) cls := fun A Q E s k q => wpAny_typeOf_ref (k _ _ e1) (by rw [e2.1]; exact q)
  have lm := PySem.W.exm_one (M := model X.prog X.w) I.kIn lt hb
  have ask : ∀ {Q E : Value -> Shared -> Prop}, Q c s -> wpAny (model X.prog X.w) (X.A.mark (some (.ref a))) (eval (.Name x p) X.env) Q E s := by
    intro Q E z
    obtain ⟨g1, g2, g3⟩ := hc
    rcases g3 with g3 | ⟨g3, g4, g5⟩
    . exact ld_glob (X := X.suite a ((a, oe) :: (X.pn ++ pn))) S g1 g3 z g2
    . exact ld_blt (X := X.suite a ((a, oe) :: (X.pn ++ pn))) S g1 g3 g4 z g5 g2
  refine ask (lm.here ?_)
  cases b with
  | false => exact no rfl
  | true => exact yes rfl
theorem Lay.run {W : WX} {D : Ends} (hs : X.stack = X.env :: X.outer) (hf : X.env.frame = some X.env.locals) (tk : Takes X W) {hds : List ExceptHandler} {l : List (Value × (Addr -> Value -> Option Addr -> TS))} (hh : HdsN X hds l) (y : Lay X pn a cls d σ H s) (w : wMany X.K W D l cls d σ H) :
    wpAny (model X.prog X.w) X.A (handleBy (.ref a) X.env hds) (SP X pn D) X.xe s := by
  have ok := y.inv.ok
  induction hh with
  | nil => exact y.out hs hf tk w
  | @plain x c ts b bs p q r l hc h _ ih =>
    obtain ⟨t, w1, w2, w3⟩ := w
    refine y.asks hf hc w1 (fun et => codeAny_handlers_suite (y.cool fun s2 y2 => ?_)) fun et => ih (w3 et)
    obtain ⟨oe, e1, e2, e3, S⟩ := y2.held hf
    refine wpAny_mono ((h a oe cls d (X.pn ++ pn) e2 e3).run [] s2 σ H D S (w2 et a y.na)) (fun f s3 z => ?_) (fun _ _ z => z.elim)
    cases f with
    | next =>
      obtain ⟨σ3, H3, S3, z⟩ := z
      exact ⟨σ3, H3, S3.unsuite ok, z⟩
    | brk =>
      obtain ⟨σ3, H3, S3, z⟩ := z
      exact ⟨σ3, H3, S3.unsuite ok, z⟩
    | cont =>
      obtain ⟨σ3, H3, S3, z⟩ := z
      exact ⟨σ3, H3, S3.unsuite ok, z⟩
    | ret u =>
      obtain ⟨v, σ3, H3, S3, z⟩ := z
      exact ⟨v, σ3, H3, S3.unsuite ok, z⟩
  | @named x n i c ts b bs p q r l hN hi hln hc h _ ih =>
    obtain ⟨t, w1, w2, w3⟩ := w
    refine y.asks hf hc w1 (fun et => codeAny_handlers_suite_as (y.cool fun s2 y2 => ?_)) fun et => ih (w3 et)
    obtain ⟨oe, e1, e2, e3, S⟩ := y2.held hf
    refine store_ok (X := X.suite a ((a, oe) :: (X.pn ++ pn))) (v := .ref a) S hN hi (.inl hln) rfl (fun s3 S3 => ?_) (.inr hln)
    refine wpAny_mono ((h a oe cls d (X.pn ++ pn) e2 e3).run [] s3 _ H _ S3 (w2 et a y.na)) (fun f s4 z => ?_) (fun _ _ z => z.elim)
    have gone : ∀ {σ4 : St} {H4 : Hp} {R : Shared -> Prop}, Inv (X.suite a ((a, oe) :: (X.pn ++ pn))) [] σ4 H4 s4 -> (∀ s5, Inv X pn (σ4.set i none) H4 s5 -> R s5) -> wpAny (model X.prog X.w) X.A (do bindName X.env n .none; unbindBehindTheSuite X.env n q) (fun _ s5 => R s5) X.xe s4 := by
      intro σ4 H4 R S4 k
      exact gone_ok (S4.unsuite ok) hN hi hln k
    cases f with
    | next =>
      obtain ⟨σ3, H3, S3, z⟩ := z
      exact gone S3 fun _ k => ⟨_, _, k, z⟩
    | brk =>
      obtain ⟨σ3, H3, S3, z⟩ := z
      exact gone S3 fun _ k => ⟨_, _, k, z⟩
    | cont =>
      obtain ⟨σ3, H3, S3, z⟩ := z
      exact gone S3 fun _ k => ⟨_, _, k, z⟩
    | ret u =>
      obtain ⟨v, σ3, H3, S3, z⟩ := z
      exact gone S3 fun _ k => ⟨_, _, _, k, z⟩
end
section
variable {X : Cx} {body : List Stmt} {h₀ : ExceptHandler} {hds : List ExceptHandler} {l : List (Value × (Addr -> Value -> Option Addr -> TS))} {pos : Pos} {tb : WX -> TS} {W : WX}
end
end L2
namespace S
open PySem PySem.Spec PyProof.Rows L2
variable [Wd]
section
variable {X : Cx} {W : WX} {D : Ends} {σ : St} {H : Hp} {F : Hp} {T : List Addr} {fr : Fp}
abbrev Hn := List (Option (Nat × Nat) × (String -> Option Bool) × (M.Exc -> M.MS))
inductive HdsMN (X : Cx) : List ExceptHandler -> Hn -> List (Value × (Addr -> Value -> Option Addr -> TS)) -> Prop
  | nil : HdsMN X [] [] []
  | plain {x : Str} {c : Value} {g : String -> Option Bool} {h : M.Exc -> M.MS} {b : Stmt} {bs : List Stmt} {p q : Pos} {r : List ExceptHandler} {l : Hn} {l' : List (Value × (Addr -> Value -> Option Addr -> TS))} (hc : Names X x c)
      (hg : ∀ y b, g y = some b -> PySem.W.exmOne X.K (.ref (He.ga X.K y)) c = some b)
      (hsu : ∀ (e : M.Exc) (a : Addr) (oe : Obj) (d : Option Addr) (pn : List (Addr × Obj)), Zc (.ref (He.ga X.K e.cls)) d oe -> (∃ vs, oe.data = .fields vs) -> SSs (X.suite a ((a, oe) :: pn)) W0 (b :: bs) (h e)) : HdsMN X r l l' →
      HdsMN X (.ExceptHandler (some (.Name x p)) none (b :: bs) q :: r) ((none, g, h) :: l) ((c, tsM X.K h) :: l')
  | named {x n : Str} {i m : Nat} {c : Value} {g : String -> Option Bool} {h : M.Exc -> M.MS} {b : Stmt} {bs : List Stmt} {p q : Pos} {r : List ExceptHandler} {l : Hn} {l' : List (Value × (Addr -> Value -> Option Addr -> TS))} (hN : X.N.Nodup) (hi : X.N[i]? = some n) (hln : X.env.kindOf n = some .local) (hc : Names X x c)
      (hg : ∀ y b, g y = some b -> PySem.W.exmOne X.K (.ref (He.ga X.K y)) c = some b)
      (hsu : ∀ (e : M.Exc) (a : Addr) (oe : Obj) (d : Option Addr) (pn : List (Addr × Obj)), Zc (.ref (He.ga X.K e.cls)) d oe -> (∃ vs, oe.data = .fields vs) -> @SSs _ (vW' a m d e) (X.suite a ((a, oe) :: pn)) W0 (b :: bs) (h e)) : HdsMN X r l l' →
      HdsMN X (.ExceptHandler (some (.Name x p)) (some n) (b :: bs) q :: r) ((some (i, m), g, h) :: l) ((c, tAs i (tsA [] X.K m h)) :: l')
theorem HdsMN.ok {hds : List ExceptHandler} {l : Hn} {l' : List (Value × (Addr -> Value -> Option Addr -> TS))} (h : HdsMN X hds l l') : HdsN X hds l' := by
  induction h with
  | nil => exact .nil
  | plain hc hg hsu r ih => exact .plain hc (jU' hsu) ih
  | named hN hi hln hc hg hsu r ih =>
    refine .named hN hi hln hc (fun a oe cls d pn hz hf => ⟨fun pins s σ H D I q => ?_⟩) ih
    obtain ⟨e, rfl, q⟩ := q
    exact (hsu e a oe d pn hz hf).run pins s σ H D I q
end
end S
namespace S
open PySem PySem.Spec PyProof.Rows L2
variable [Wd]
structure LamOk (P : Program) (w : World) (K : PySem.W.Frag) (mg : Str -> Option Value) (base : Heap) (k : Nat) (cl : List (Str × Addr)) (fr : List Str) (c : CloD) (U : M.MF) : Prop where
  isfn : ∀ h : Heap, h.get? c.f = some c.ob -> PySem.W.FnAt c.f h
  run : ∀ (A : Around) (outer : List Env) (s : Shared) (H : Hp) (us : List Value) (vs : List V) (Q : VK) (E : XK), RoomG k A -> Env0 P w K mg base A outer s H →
    NdefX.CellsAt cl fr (c.ws.map some) s.heap H -> Vals vs us →
    (∃ ds w' F T fp, FzA K F T vs ds /\ CloAt K F T c /\ nR' K w' H F T fp /\ rX' K Q E F T fp (U ds w')) -> codeAny (model P w) A (.call (.ref c.f) ⟨us, []⟩) (CR (L2.CX P w) outer P w H s Q E) s
theorem LamOk.mono {P : Program} {w : World} {K : PySem.W.Frag} {mg : Str -> Option Value} {base : Heap} {j k : Nat} {cl : List (Str × Addr)} {fr : List Str} {c : CloD} {U : M.MF} (h : LamOk P w K mg base j cl fr c U) (l : j <= k) : LamOk P w K mg base k cl fr c U :=
  ⟨h.isfn, fun A o s H us vs Q E hr => h.run A o s H us vs Q E (hr.mono l)⟩
section
variable {P : Program} {w : World} {K : PySem.W.Frag} {mg : Str -> Option Value} {base : Heap}
end
inductive ArgK (K : PySem.W.Frag) (F : Hp) (T : List Addr) : List Bool -> List V -> List M.D -> List CloD -> Prop
  | nil : ArgK K F T [] [] [] []
  | dat {m : List Bool} {v : V} {vs : List V} {d : M.D} {ds : List M.D} {cs : List CloD} : Fz K F T v d -> ArgK K F T m vs ds cs -> ArgK K F T (false :: m) (v :: vs) (d :: ds) cs
  | clo {m : List Bool} {vs : List V} {ds : List M.D} {c : CloD} {cs : List CloD} : CloAt K F T c -> ArgK K F T m vs ds cs -> ArgK K F T (true :: m) (.ref c.f :: vs) ds (c :: cs)
theorem ArgK.mono {K : PySem.W.Frag} {F F' : Hp} {T T' : List Addr} (e : Ext F T F' T') {m : List Bool} {vs : List V} {ds : List M.D} {cs : List CloD} (h : ArgK K F T m vs ds cs) : ArgK K F' T' m vs ds cs := by
  induction h with
  | nil => exact .nil
  | dat z _ ih => exact .dat (z.mono e) ih
  | clo z _ ih => exact .clo (z.mono e) ih
section
variable [Hot] {X : Cx} {W : WX} {k : Nat} {e : Expr} {es : List Expr} {a : M.ME} {as : List M.AK}
end
structure FnK (P : Program) (w : World) (K : PySem.W.Frag) (mg : Str -> Option Value) (base : Heap) (k : Nat) (f : Addr) (fd : FuncData) (ps : List Str) (kc : Nat) (mask : List Bool) (m : List M.MF -> M.MF) : Prop where
  len : mask.length = ps.length
  run : ∀ (A : Around) (outer : List Env) (s : Shared) (H : Hp) (args : Args) (us : List Value) (vs : List V) (Q : VK) (E : XK), RoomG k A -> Env0 P w K mg base A outer s H -> BindsTo s fd args (ps.zip us) -> Vals vs us →
    (∃ ds cs Us w' F T fr, ArgK K F T mask vs ds cs /\ Paired (fun c U => ∃ cl fr, LamOk P w K mg base kc cl fr c U /\ NdefX.CellsAt cl fr (c.ws.map some) s.heap H) cs Us /\ nR' K w' H F T fr /\ rX' K Q E F T fr (m Us ds w')) →
    codeAny (model P w) A (.call (.ref f) args) (CR (L2.CX P w) outer P w H s Q E) s
theorem ArgK.len {K : PySem.W.Frag} {F : Hp} {T : List Addr} {m : List Bool} {vs : List V} {ds : List M.D} {cs : List CloD} (h : ArgK K F T m vs ds cs) : vs.length = m.length := by
  induction h with
  | nil => rfl
  | dat _ _ ih => exact congrArg (· + 1) ih
  | clo _ _ ih => exact congrArg (· + 1) ih
def r0' : Nat -> List Bool -> List CloD -> List (Nat × CloD)
  | n, true :: m, c :: cs => (n - 1, c) :: r0' (n - 1) m cs
  | n, false :: m, cs => r0' (n - 1) m cs
  | _, _, _ => []
theorem RpE.offs [Hot] {K : PySem.W.Frag} {F : Hp} {T : List Addr} : ∀ r : Nat, RpE K F T (List.replicate r none) (List.replicate r none) []
  | 0 => .nil
  | r + 1 => .off (RpE.offs r)
theorem ArgK.start [Hot] {K : PySem.W.Frag} {F : Hp} {T : List Addr} {r : Nat} : ∀ {m : List Bool} {vs : List V} {ds : List M.D} {cs : List CloD}, ArgK K F T m vs ds cs -> (∀ i c, (i, c) ∈ r0' (m.length + r) m cs -> Hot.clo.lookup i = some c) →
    ∃ env, M.tO' m ds = some env /\ env.length = m.length /\ RpE K F T (vs.map some ++ List.replicate r none) (env ++ List.replicate r none) []
  | _, _, _, _, .nil, _ => ⟨[], rfl, rfl, RpE.offs r⟩
  | _, _, _, _, @ArgK.dat _ _ _ _ m v vs d ds cs z a, h => by
    obtain ⟨env, h1, h2, h3⟩ := ArgK.start (r := r) a fun i c hi => h i c (by
      show (i, c) ∈ r0' (m.length + 1 + r - 1) m cs
      rwa [show m.length + 1 + r - 1 = m.length + r by omega])
    exact ⟨some (.fz d) :: env, by show (M.tO' m ds).map _ = _; rw [h1]; rfl, congrArg (· + 1) h2, RpE.on (fp := []) (fq := []) (.fz z) h3⟩
  | _, _, _, _, @ArgK.clo _ _ _ _ m vs ds c cs z a, h => by
    have e1 : m.length + 1 + r - 1 = m.length + r := by omega
    obtain ⟨env, h1, h2, h3⟩ := ArgK.start (r := r) a fun i c' hi => h i c' (by
      show (i, c') ∈ (m.length + 1 + r - 1, c) :: r0' (m.length + 1 + r - 1) m cs
      rw [e1]
      exact List.mem_cons_of_mem _ hi)
    refine ⟨some .clo :: env, by show (M.tO' m ds).map _ = _; rw [h1]; rfl, congrArg (· + 1) h2, RpE.clo ?_ z h3⟩
    show Hot.clo.lookup (env ++ List.replicate r none).length = some c
    rw [List.length_append, List.length_replicate, h2]
    refine h _ c ?_
    show _ ∈ (m.length + 1 + r - 1, c) :: r0' (m.length + 1 + r - 1) m cs
    rw [e1]
    exact List.mem_cons_self
section
variable {P : Program} {w : World} {K : PySem.W.Frag} {mg : Str -> Option Value} {base : Heap}
end
section
variable [Hot] {X : Cx} {W : WX} {k kc : Nat} {x : Str} {ps : List Str} {p pos : Pos} {e : Expr} {es : List Expr} {as : List M.AK} {m : List M.MF -> M.MF}
end
section
variable [Hot] {X : Cx} {W : WX} {kc i : Nat} {x : Str} {p pos : Pos} {e : Expr} {es : List Expr} {as : M.MA} {U : M.MF}
end
end S
namespace S
open PySem PySem.Spec PyProof.Rows L2
variable [Wd] [Hot]
section
variable {K : PySem.W.Frag}
end
end S
namespace S
open PySem PySem.Spec PyProof.Rows L2
variable [Wd] [Hot]
section
variable {X : Cx} {W : WX} {pos p : Pos} {x : Str} {a : Expr} {σ : St} {H : Hp} {Q : VK}
end
end S
namespace S
open PySem PySem.Spec PyProof.Rows L2
variable [Wd] [Hot]
section
variable {K : PySem.W.Frag} {W : WX} {σ : St} {H : Hp} {D : Ends}
end
section
variable {X : Cx} {W : WX} {pos : Pos} {tg e : Expr} {body : List Stmt} {sl : List Nat} {a : M.ME} {g : M.MG} {m1 : M.MS}
end
end S
namespace S
open PySem PySem.Spec PyProof.Rows L2
variable [Wd] [Hot]
section
variable {K : PySem.W.Frag} {W : WX} {σ : St} {H : Hp} {D : Ends} {ρ : M.PSt} {F : Hp} {T : List Addr} {fr : Fp}
end
section
variable {X : Cx} {W : WX} {pos : Pos} {elt tg iter : Expr} {ifs : List Expr} {scope : Scope} {own : List (Str × Nat)} {sl : List Nat} {it : M.MI} {g : M.MG} {t : M.MT} {e : M.MO}
end
end S
namespace S
open PySem PySem.Spec PyProof.Rows L2
variable [Wd] [Hot]
section
variable {K : PySem.W.Frag} {W : WX} {σ : St} {H : Hp} {D : Ends} {ρ : M.PSt} {F : Hp} {T : List Addr} {fr : Fp}
end
section
variable {X : Cx} {W : WX} {pos px qx epos apos cpos : Pos} {tg a : Expr} {nm x : Str} {i r : Nat} {v : V} {d : M.D}
end
end S
namespace S
open PySem PySem.Spec PyProof.Rows L2
variable [Wd] [Hot]
local macro_rules | `(tactic| walk_at "parts") => `(tactic| (constructor; (intro e h; simp only [List.mem_append, List.mem_cons, List.not_mem_nil] at *; grind); (intro x; simp only [keys, List.map_append, List.map_cons, List.map_nil, List.count_append, List.count_cons, List.count_nil] at *; omega)))
end S
namespace S
open PySem PySem.Spec PyProof.Rows L2
structure Ctx (w : World) (K : PySem.W.Frag) (mg : Str -> Option Value) : Prop where
  says : ∃ (h : Heap), He.SaysX fas fns tbs [] exK w h K
  inn : ∃ h : Heap, K.In h /\ h.Ns mainGlobals mg
section
variable [Wd] {w : World} {K : PySem.W.Frag} {mg : Str -> Option Value}
theorem Ctx.d (C : Ctx w K mg) : He.SaysD fas fns K := by
  obtain ⟨h, s⟩ := C.says
  exact s.t.d
theorem Ctx.more (C : Ctx w K mg) (i : Nat) {f : PySem.W.Frag -> Bool} (e : exs[i]? = some f) : f K = true := by
  obtain ⟨h, s⟩ := C.says
  exact List.all_eq_true.mp s.more f (List.mem_of_getElem? e)
theorem Ctx.glo (C : Ctx w K mg) {x : Str} (i : Nat) (h : fas[i]? = some (.glo x)) : mg x = some (.ref (He.ga K x)) := by
  obtain ⟨hp, X, G⟩ := C.inn
  exact He.glo_ok X G (C.d.fact i h)
theorem Ctx.g_is_integer (C : Ctx w K mg) : mg "is_integer" = some (.ref (He.ga K "is_integer")) := C.glo 0 rfl
theorem Ctx.g_is_string_of (C : Ctx w K mg) : mg "is_string_of" = some (.ref (He.ga K "is_string_of")) := C.glo 1 rfl
theorem Ctx.g_is_ascending (C : Ctx w K mg) : mg "is_ascending" = some (.ref (He.ga K "is_ascending")) := C.glo 2 rfl
theorem Ctx.g_is_choice (C : Ctx w K mg) : mg "is_choice" = some (.ref (He.ga K "is_choice")) := C.glo 3 rfl
theorem Ctx.g_are_states (C : Ctx w K mg) : mg "are_states" = some (.ref (He.ga K "are_states")) := C.glo 4 rfl
theorem Ctx.g_is_table (C : Ctx w K mg) : mg "is_table" = some (.ref (He.ga K "is_table")) := C.glo 5 rfl
theorem Ctx.g__law_hand (C : Ctx w K mg) : mg "_law_hand" = some (.ref (He.ga K "_law_hand")) := C.glo 6 rfl
theorem Ctx.g__law_draw (C : Ctx w K mg) : mg "_law_draw" = some (.ref (He.ga K "_law_draw")) := C.glo 7 rfl
theorem Ctx.g__law_letters (C : Ctx w K mg) : mg "_law_letters" = some (.ref (He.ga K "_law_letters")) := C.glo 8 rfl
theorem Ctx.g__law_rows (C : Ctx w K mg) : mg "_law_rows" = some (.ref (He.ga K "_law_rows")) := C.glo 9 rfl
theorem Ctx.g__law_shuffled (C : Ctx w K mg) : mg "_law_shuffled" = some (.ref (He.ga K "_law_shuffled")) := C.glo 10 rfl
theorem Ctx.g__law_parts (C : Ctx w K mg) : mg "_law_parts" = some (.ref (He.ga K "_law_parts")) := C.glo 11 rfl
theorem Ctx.g__law_odd (C : Ctx w K mg) : mg "_law_odd" = some (.ref (He.ga K "_law_odd")) := C.glo 12 rfl
theorem Ctx.g__law_flag (C : Ctx w K mg) : mg "_law_flag" = some (.ref (He.ga K "_law_flag")) := C.glo 13 rfl
theorem Ctx.g__law_more (C : Ctx w K mg) : mg "_law_more" = some (.ref (He.ga K "_law_more")) := C.glo 14 rfl
theorem Ctx.g__law_near (C : Ctx w K mg) : mg "_law_near" = some (.ref (He.ga K "_law_near")) := C.glo 15 rfl
theorem Ctx.g__law_is_parts (C : Ctx w K mg) : mg "_law_is_parts" = some (.ref (He.ga K "_law_is_parts")) := C.glo 16 rfl
theorem Ctx.g_law (C : Ctx w K mg) : mg "law" = some (.ref (He.ga K "law")) := C.glo 17 rfl
theorem Ctx.g_Machine (C : Ctx w K mg) : mg "Machine" = some (.ref (He.ga K "Machine")) := C.glo 21 rfl
theorem Ctx.c_SMALL (C : Ctx w K mg) : ∃ t, mg "SMALL" = some (.str "abcdefghijklmnopqrstuvwxyz" t) := by obtain ⟨h, X, G⟩ := C.inn; exact He.str_ok X G (C.d.fact 22 rfl)
theorem Ctx.free_zip (C : Ctx w K mg) : mg "zip" = none := by obtain ⟨h, X, G⟩ := C.inn; exact He.free_ok X G (C.d.fact 23 rfl)
theorem Ctx.free_range (C : Ctx w K mg) : mg "range" = none := by obtain ⟨h, X, G⟩ := C.inn; exact He.free_ok X G (C.d.fact 24 rfl)
theorem Ctx.free_tuple (C : Ctx w K mg) : mg "tuple" = none := by obtain ⟨h, X, G⟩ := C.inn; exact He.free_ok X G (C.d.fact 25 rfl)
theorem Ctx.free_list (C : Ctx w K mg) : mg "list" = none := by obtain ⟨h, X, G⟩ := C.inn; exact He.free_ok X G (C.d.fact 26 rfl)
theorem Ctx.free_len (C : Ctx w K mg) : mg "len" = none := by obtain ⟨h, X, G⟩ := C.inn; exact He.free_ok X G (C.d.fact 27 rfl)
theorem Ctx.free_isinstance (C : Ctx w K mg) : mg "isinstance" = none := by obtain ⟨h, X, G⟩ := C.inn; exact He.free_ok X G (C.d.fact 28 rfl)
theorem Ctx.free_int (C : Ctx w K mg) : mg "int" = none := by obtain ⟨h, X, G⟩ := C.inn; exact He.free_ok X G (C.d.fact 29 rfl)
theorem Ctx.free_str (C : Ctx w K mg) : mg "str" = none := by obtain ⟨h, X, G⟩ := C.inn; exact He.free_ok X G (C.d.fact 30 rfl)
theorem Ctx.free_abs (C : Ctx w K mg) : mg "abs" = none := by obtain ⟨h, X, G⟩ := C.inn; exact He.free_ok X G (C.d.fact 31 rfl)
theorem Ctx.free_max (C : Ctx w K mg) : mg "max" = none := by obtain ⟨h, X, G⟩ := C.inn; exact He.free_ok X G (C.d.fact 32 rfl)
theorem Ctx.free_sorted (C : Ctx w K mg) : mg "sorted" = none := by obtain ⟨h, X, G⟩ := C.inn; exact He.free_ok X G (C.d.fact 33 rfl)
theorem Ctx.free_bool (C : Ctx w K mg) : mg "bool" = none := by obtain ⟨h, X, G⟩ := C.inn; exact He.free_ok X G (C.d.fact 34 rfl)
theorem Ctx.free_min (C : Ctx w K mg) : mg "min" = none := by obtain ⟨h, X, G⟩ := C.inn; exact He.free_ok X G (C.d.fact 35 rfl)
theorem Ctx.free_repr (C : Ctx w K mg) : mg "repr" = none := by obtain ⟨h, X, G⟩ := C.inn; exact He.free_ok X G (C.d.fact 36 rfl)
theorem Ctx.cl_Machine (C : Ctx w K mg) : Cls K (He.ga K "Machine") := He.cls_ok (C.d.fact 37 rfl)
theorem Ctx.n_Machine_kept_letters (C : Ctx w K mg) : NoAttr K (He.ga K "Machine") "kept_letters" := He.noat_ok (C.d.fact 38 rfl)
theorem Ctx.n_Machine_kept_table (C : Ctx w K mg) : NoAttr K (He.ga K "Machine") "kept_table" := He.noat_ok (C.d.fact 39 rfl)
theorem Ctx.n_Machine_kept_accepts (C : Ctx w K mg) : NoAttr K (He.ga K "Machine") "kept_accepts" := He.noat_ok (C.d.fact 40 rfl)
theorem Ctx.n_Machine_kept_least (C : Ctx w K mg) : NoAttr K (He.ga K "Machine") "kept_least" := He.noat_ok (C.d.fact 41 rfl)
theorem Ctx.n_Machine_kept_field (C : Ctx w K mg) : NoAttr K (He.ga K "Machine") "kept_field" := He.noat_ok (C.d.fact 42 rfl)
theorem Ctx.n_Machine_kept_lots (C : Ctx w K mg) : NoAttr K (He.ga K "Machine") "kept_lots" := He.noat_ok (C.d.fact 43 rfl)
theorem Ctx.n_Machine_kept_more (C : Ctx w K mg) : NoAttr K (He.ga K "Machine") "kept_more" := He.noat_ok (C.d.fact 44 rfl)
theorem Ctx.mk_Machine (C : Ctx w K mg) : Mk K (He.ga K "Machine") (He.ma K (He.ga K "Machine") "__init__") := He.mkr_ok (C.d.fact 45 rfl)
theorem Ctx.ml_Machine_keep (C : Ctx w K mg) : ga' K ["Machine"] "keep" (He.ma K (He.ga K "Machine") "keep") := by
  intro c h
  rcases List.mem_cons.mp h with rfl | h
  . exact ⟨C.cl_Machine, He.meth_ok (C.d.fact 46 rfl)⟩
  cases h
theorem Ctx.ml_Machine_letters (C : Ctx w K mg) : ga' K ["Machine"] "letters" (He.ma K (He.ga K "Machine") "letters") := by
  intro c h
  rcases List.mem_cons.mp h with rfl | h
  . exact ⟨C.cl_Machine, He.meth_ok (C.d.fact 47 rfl)⟩
  cases h
theorem Ctx.ml_Machine_table (C : Ctx w K mg) : ga' K ["Machine"] "table" (He.ma K (He.ga K "Machine") "table") := by
  intro c h
  rcases List.mem_cons.mp h with rfl | h
  . exact ⟨C.cl_Machine, He.meth_ok (C.d.fact 48 rfl)⟩
  cases h
theorem Ctx.ml_Machine_accepts (C : Ctx w K mg) : ga' K ["Machine"] "accepts" (He.ma K (He.ga K "Machine") "accepts") := by
  intro c h
  rcases List.mem_cons.mp h with rfl | h
  . exact ⟨C.cl_Machine, He.meth_ok (C.d.fact 49 rfl)⟩
  cases h
theorem Ctx.ml_Machine_parts (C : Ctx w K mg) : ga' K ["Machine"] "parts" (He.ma K (He.ga K "Machine") "parts") := by
  intro c h
  rcases List.mem_cons.mp h with rfl | h
  . exact ⟨C.cl_Machine, He.meth_ok (C.d.fact 50 rfl)⟩
  cases h
theorem Ctx.eq_Machine (C : Ctx w K mg) : EqP K [("Machine", "Machine")] (He.ma K (He.ga K "Machine") "__eq__") := rp' (C.more 0 rfl)
theorem Ctx.eqd_Machine (C : Ctx w K mg) : u2' K [("Machine", "Machine")] (He.ma K (He.ga K "Machine") "__eq__") := oO' (C.more 2 rfl)
theorem Ctx.is_Machine (C : Ctx w K mg) : wU' K M.isT "Machine" := oF' (C.more 3 rfl)
theorem Ctx.at_kept_letters (C : Ctx w K mg) : ∀ c ∈ ["Machine"], Cls K (He.ga K (Str.ofString c)) /\ NoAttr K (He.ga K (Str.ofString c)) (Str.ofString "kept_letters") := by
  intro c h
  rcases List.mem_cons.mp h with rfl | h
  . exact ⟨C.cl_Machine, C.n_Machine_kept_letters⟩
  cases h
theorem Ctx.at_kept_table (C : Ctx w K mg) : ∀ c ∈ ["Machine"], Cls K (He.ga K (Str.ofString c)) /\ NoAttr K (He.ga K (Str.ofString c)) (Str.ofString "kept_table") := by
  intro c h
  rcases List.mem_cons.mp h with rfl | h
  . exact ⟨C.cl_Machine, C.n_Machine_kept_table⟩
  cases h
theorem Ctx.at_kept_accepts (C : Ctx w K mg) : ∀ c ∈ ["Machine"], Cls K (He.ga K (Str.ofString c)) /\ NoAttr K (He.ga K (Str.ofString c)) (Str.ofString "kept_accepts") := by
  intro c h
  rcases List.mem_cons.mp h with rfl | h
  . exact ⟨C.cl_Machine, C.n_Machine_kept_accepts⟩
  cases h
theorem Ctx.at_kept_least (C : Ctx w K mg) : ∀ c ∈ ["Machine"], Cls K (He.ga K (Str.ofString c)) /\ NoAttr K (He.ga K (Str.ofString c)) (Str.ofString "kept_least") := by
  intro c h
  rcases List.mem_cons.mp h with rfl | h
  . exact ⟨C.cl_Machine, C.n_Machine_kept_least⟩
  cases h
theorem Ctx.at_kept_field (C : Ctx w K mg) : ∀ c ∈ ["Machine"], Cls K (He.ga K (Str.ofString c)) /\ NoAttr K (He.ga K (Str.ofString c)) (Str.ofString "kept_field") := by
  intro c h
  rcases List.mem_cons.mp h with rfl | h
  . exact ⟨C.cl_Machine, C.n_Machine_kept_field⟩
  cases h
theorem Ctx.at_kept_lots (C : Ctx w K mg) : ∀ c ∈ ["Machine"], Cls K (He.ga K (Str.ofString c)) /\ NoAttr K (He.ga K (Str.ofString c)) (Str.ofString "kept_lots") := by
  intro c h
  rcases List.mem_cons.mp h with rfl | h
  . exact ⟨C.cl_Machine, C.n_Machine_kept_lots⟩
  cases h
theorem Ctx.at_kept_more (C : Ctx w K mg) : ∀ c ∈ ["Machine"], Cls K (He.ga K (Str.ofString c)) /\ NoAttr K (He.ga K (Str.ofString c)) (Str.ofString "kept_more") := by
  intro c h
  rcases List.mem_cons.mp h with rfl | h
  . exact ⟨C.cl_Machine, C.n_Machine_kept_more⟩
  cases h
theorem Ctx.f_is_integer (C : Ctx w K mg) : ∃ fd, FunD K "is_integer" "is_integer" (defArgs aM') (defBody aM') (defScope aM') [] [] (He.ga K "is_integer") fd := C.d.def_ 0 (d := c1') rfl
theorem hC' {f : Addr} {fd : FuncData} (F : FunD K "is_integer" "is_integer" (defArgs aM') (defBody aM') (defScope aM') [] [] f fd) : Binds K fd ["thing"] [] := F.bindsN fun _ _ _ _ _ _ us hl => match us, hl with | [_], _ => rfl
theorem Ctx.f_is_string_of (C : Ctx w K mg) : ∃ fd, FunD K "is_string_of" "is_string_of" (defArgs ax') (defBody ax') (defScope ax') [] [] (He.ga K "is_string_of") fd := C.d.def_ 1 (d := cg') rfl
theorem eZ' {f : Addr} {fd : FuncData} (F : FunD K "is_string_of" "is_string_of" (defArgs ax') (defBody ax') (defScope ax') [] [] f fd) : Binds K fd ["thing", "signs"] [] := F.bindsN fun _ _ _ _ _ _ us hl => match us, hl with | [_, _], _ => rfl
theorem Ctx.f_is_ascending (C : Ctx w K mg) : ∃ fd, FunD K "is_ascending" "is_ascending" (defArgs ay') (defBody ay') (defScope ay') [] [] (He.ga K "is_ascending") fd := C.d.def_ 2 (d := ch') rfl
theorem e0' {f : Addr} {fd : FuncData} (F : FunD K "is_ascending" "is_ascending" (defArgs ay') (defBody ay') (defScope ay') [] [] f fd) : Binds K fd ["thing"] [] := F.bindsN fun _ _ _ _ _ _ us hl => match us, hl with | [_], _ => rfl
theorem Ctx.f_is_choice (C : Ctx w K mg) : ∃ fd, FunD K "is_choice" "is_choice" (defArgs aW') (defBody aW') (defScope aW') [] [] (He.ga K "is_choice") fd := C.d.def_ 3 (d := dz') rfl
theorem iL' {f : Addr} {fd : FuncData} (F : FunD K "is_choice" "is_choice" (defArgs aW') (defBody aW') (defScope aW') [] [] f fd) : Binds K fd ["thing", "signs"] [] := F.bindsN fun _ _ _ _ _ _ us hl => match us, hl with | [_, _], _ => rfl
theorem Ctx.f_are_states (C : Ctx w K mg) : ∃ fd, FunD K "are_states" "are_states" (defArgs aN') (defBody aN') (defScope aN') [] [] (He.ga K "are_states") fd := C.d.def_ 4 (d := c2') rfl
theorem hD' {f : Addr} {fd : FuncData} (F : FunD K "are_states" "are_states" (defArgs aN') (defBody aN') (defScope aN') [] [] f fd) : Binds K fd ["thing", "many"] [] := F.bindsN fun _ _ _ _ _ _ us hl => match us, hl with | [_, _], _ => rfl
theorem Ctx.f_is_table (C : Ctx w K mg) : ∃ fd, FunD K "is_table" "is_table" (defArgs a8') (defBody a8') (defScope a8') [] [] (He.ga K "is_table") fd := C.d.def_ 5 (d := eB') rfl
theorem kU' {f : Addr} {fd : FuncData} (F : FunD K "is_table" "is_table" (defArgs a8') (defBody a8') (defScope a8') [] [] f fd) : Binds K fd ["thing", "letters"] [] := F.bindsN fun _ _ _ _ _ _ us hl => match us, hl with | [_, _], _ => rfl
theorem Ctx.f_Machine___init__ (C : Ctx w K mg) : ∃ fd, FunD K "__init__" "Machine.__init__" (defArgs al') (defBody al') (defScope al') [] [] (He.ma K (He.ga K "Machine") "__init__") fd := C.d.def_ 6 (d := bD') rfl
theorem c6' {f : Addr} {fd : FuncData} (F : FunD K "__init__" "Machine.__init__" (defArgs al') (defBody al') (defScope al') [] [] f fd) : Binds K fd ["self", "letters", "table", "accepts"] [] := F.bindsN fun _ _ _ _ _ _ us hl => match us, hl with | [_, _, _, _], _ => rfl
theorem Ctx.f_Machine_keep (C : Ctx w K mg) : ∃ fd, FunD K "keep" "Machine.keep" (defArgs aA') (defBody aA') (defScope aA') [] [] (He.ma K (He.ga K "Machine") "keep") fd := C.d.def_ 7 (d := cj') rfl
theorem e2' {f : Addr} {fd : FuncData} (F : FunD K "keep" "Machine.keep" (defArgs aA') (defBody aA') (defScope aA') [] [] f fd) : Binds K fd ["self", "letters", "table", "accepts"] [] := F.bindsN fun _ _ _ _ _ _ us hl => match us, hl with | [_, _, _, _], _ => rfl
theorem Ctx.f_Machine_letters (C : Ctx w K mg) : ∃ fd, FunD K "letters" "Machine.letters" (defArgs am') (defBody am') (defScope am') [] [] (He.ma K (He.ga K "Machine") "letters") fd := C.d.def_ 8 (d := bM') rfl
theorem dp' {f : Addr} {fd : FuncData} (F : FunD K "letters" "Machine.letters" (defArgs am') (defBody am') (defScope am') [] [] f fd) : Binds K fd ["self"] [] := F.bindsN fun _ _ _ _ _ _ us hl => match us, hl with | [_], _ => rfl
theorem Ctx.f_Machine_table (C : Ctx w K mg) : ∃ fd, FunD K "table" "Machine.table" (defArgs au') (defBody au') (defScope au') [] [] (He.ma K (He.ga K "Machine") "table") fd := C.d.def_ 9 (d := b8') rfl
theorem eH' {f : Addr} {fd : FuncData} (F : FunD K "table" "Machine.table" (defArgs au') (defBody au') (defScope au') [] [] f fd) : Binds K fd ["self"] [] := F.bindsN fun _ _ _ _ _ _ us hl => match us, hl with | [_], _ => rfl
theorem Ctx.f_Machine_accepts (C : Ctx w K mg) : ∃ fd, FunD K "accepts" "Machine.accepts" (defArgs an') (defBody an') (defScope an') [] [] (He.ma K (He.ga K "Machine") "accepts") fd := C.d.def_ 10 (d := bN') rfl
theorem dq' {f : Addr} {fd : FuncData} (F : FunD K "accepts" "Machine.accepts" (defArgs an') (defBody an') (defScope an') [] [] f fd) : Binds K fd ["self"] [] := F.bindsN fun _ _ _ _ _ _ us hl => match us, hl with | [_], _ => rfl
theorem Ctx.f_Machine_parts (C : Ctx w K mg) : ∃ fd, FunD K "parts" "Machine.parts" (defArgs av') (defBody av') (defScope av') [] [] (He.ma K (He.ga K "Machine") "parts") fd := C.d.def_ 11 (d := b9') rfl
theorem eI' {f : Addr} {fd : FuncData} (F : FunD K "parts" "Machine.parts" (defArgs av') (defBody av') (defScope av') [] [] f fd) : Binds K fd ["self"] [] := F.bindsN fun _ _ _ _ _ _ us hl => match us, hl with | [_], _ => rfl
theorem Ctx.f_Machine___eq__ (C : Ctx w K mg) : ∃ fd, FunD K "__eq__" "Machine.__eq__" (defArgs ap') (defBody ap') (defScope ap') [] [] (He.ma K (He.ga K "Machine") "__eq__") fd := C.d.def_ 12 (d := bU') rfl
theorem dO' {f : Addr} {fd : FuncData} (F : FunD K "__eq__" "Machine.__eq__" (defArgs ap') (defBody ap') (defScope ap') [] [] f fd) : Binds K fd ["self", "other"] [] := F.bindsN fun _ _ _ _ _ _ us hl => match us, hl with | [_, _], _ => rfl
theorem Ctx.f__law_hand (C : Ctx w K mg) : ∃ fd, FunD K "_law_hand" "_law_hand" (defArgs aR') (defBody aR') (defScope aR') [] [] (He.ga K "_law_hand") fd := C.d.def_ 13 (d := dD') rfl
theorem iP' {f : Addr} {fd : FuncData} (F : FunD K "_law_hand" "_law_hand" (defArgs aR') (defBody aR') (defScope aR') [] [] f fd) : Binds K fd ["_law_script"] [] := F.bindsN fun _ _ _ _ _ _ us hl => match us, hl with | [_], _ => rfl
theorem Ctx.f__law_draw (C : Ctx w K mg) : ∃ fd, FunD K "_law_draw" "_law_draw" (defArgs aY') (defBody aY') (defScope aY') [] [] (He.ga K "_law_draw") fd := C.d.def_ 14 (d := dF') rfl
theorem iR' {f : Addr} {fd : FuncData} (F : FunD K "_law_draw" "_law_draw" (defArgs aY') (defBody aY') (defScope aY') [] [] f fd) : Binds K fd ["_law_hand_here", "_law_many"] [] := F.bindsN fun _ _ _ _ _ _ us hl => match us, hl with | [_, _], _ => rfl
theorem Ctx.f__law_letters (C : Ctx w K mg) : ∃ fd, FunD K "_law_letters" "_law_letters" (defArgs az') (defBody az') (defScope az') [] [] (He.ga K "_law_letters") fd := C.d.def_ 15 (d := ci') rfl
theorem e1' {f : Addr} {fd : FuncData} (F : FunD K "_law_letters" "_law_letters" (defArgs az') (defBody az') (defScope az') [] [] f fd) : Binds K fd ["_law_hand_here", "_law_signs", "_law_many"] [] := F.bindsN fun _ _ _ _ _ _ us hl => match us, hl with | [_, _, _], _ => rfl
theorem Ctx.f__law_rows (C : Ctx w K mg) : ∃ fd, FunD K "_law_rows" "_law_rows" (defArgs aK') (defBody aK') (defScope aK') [] [] (He.ga K "_law_rows") fd := C.d.def_ 16 (d := dA') rfl
theorem iM' {f : Addr} {fd : FuncData} (F : FunD K "_law_rows" "_law_rows" (defArgs aK') (defBody aK') (defScope aK') [] [] f fd) : Binds K fd ["_law_hand_here", "_law_kind", "_law_size", "_law_many"] [] := F.bindsN fun _ _ _ _ _ _ us hl => match us, hl with | [_, _, _, _], _ => rfl
theorem Ctx.f__law_shuffled (C : Ctx w K mg) : ∃ fd, FunD K "_law_shuffled" "_law_shuffled" (defArgs as') (defBody as') (defScope as') [] [] (He.ga K "_law_shuffled") fd := C.d.def_ 17 (d := b6') rfl
theorem eF' {f : Addr} {fd : FuncData} (F : FunD K "_law_shuffled" "_law_shuffled" (defArgs as') (defBody as') (defScope as') [] [] f fd) : Binds K fd ["_law_hand_here", "_law_things"] [] := F.bindsN fun _ _ _ _ _ _ us hl => match us, hl with | [_, _], _ => rfl
theorem Ctx.f__law_parts (C : Ctx w K mg) : ∃ fd, FunD K "_law_parts" "_law_parts" (defArgs aH') (defBody aH') (defScope aH') [] [] (He.ga K "_law_parts") fd := C.d.def_ 18 (d := c4') rfl
theorem hE' {f : Addr} {fd : FuncData} (F : FunD K "_law_parts" "_law_parts" (defArgs aH') (defBody aH') (defScope aH') [] [] f fd) : Binds K fd ["_law_hand_here", "_law_most", "_law_states"] [] := F.bindsN fun _ _ _ _ _ _ us hl => match us, hl with | [_, _, _], _ => rfl
theorem Ctx.f__law_odd (C : Ctx w K mg) : ∃ fd, FunD K "_law_odd" "_law_odd" (defArgs a9') (defBody a9') (defScope a9') [] [] (He.ga K "_law_odd") fd := C.d.def_ 19 (d := eC') rfl
theorem kV' {f : Addr} {fd : FuncData} (F : FunD K "_law_odd" "_law_odd" (defArgs a9') (defBody a9') (defScope a9') [] [] f fd) : Binds K fd ["_law_hand_here"] [] := F.bindsN fun _ _ _ _ _ _ us hl => match us, hl with | [_], _ => rfl
theorem Ctx.f__law_flag (C : Ctx w K mg) : ∃ fd, FunD K "_law_flag" "_law_flag" (defArgs aX') (defBody aX') (defScope aX') [] [] (He.ga K "_law_flag") fd := C.d.def_ 20 (d := dE') rfl
theorem iQ' {f : Addr} {fd : FuncData} (F : FunD K "_law_flag" "_law_flag" (defArgs aX') (defBody aX') (defScope aX') [] [] f fd) : Binds K fd ["_law_found", "_law_due"] [] := F.bindsN fun _ _ _ _ _ _ us hl => match us, hl with | [_, _], _ => rfl
theorem Ctx.f__law_more (C : Ctx w K mg) : ∃ fd, FunD K "_law_more" "_law_more" (defArgs aQ') (defBody aQ') (defScope aQ') [] [] (He.ga K "_law_more") fd := C.d.def_ 21 (d := dC') rfl
theorem iO' {f : Addr} {fd : FuncData} (F : FunD K "_law_more" "_law_more" (defArgs aQ') (defBody aQ') (defScope aQ') [] [] f fd) : Binds K fd ["_law_hand_here", "_law_letters_here"] [] := F.bindsN fun _ _ _ _ _ _ us hl => match us, hl with | [_, _], _ => rfl
theorem Ctx.f__law_near (C : Ctx w K mg) : ∃ fd, FunD K "_law_near" "_law_near" (defArgs aL') (defBody aL') (defScope aL') [] [] (He.ga K "_law_near") fd := C.d.def_ 22 (d := dB') rfl
theorem iN' {f : Addr} {fd : FuncData} (F : FunD K "_law_near" "_law_near" (defArgs aL') (defBody aL') (defScope aL') [] [] f fd) : Binds K fd ["_law_hand_here", "_law_parts_here"] [] := F.bindsN fun _ _ _ _ _ _ us hl => match us, hl with | [_, _], _ => rfl
theorem Ctx.f__law_is_parts (C : Ctx w K mg) : ∃ fd, FunD K "_law_is_parts" "_law_is_parts" (defArgs at') (defBody at') (defScope at') [] [] (He.ga K "_law_is_parts") fd := C.d.def_ 23 (d := b7') rfl
theorem eG' {f : Addr} {fd : FuncData} (F : FunD K "_law_is_parts" "_law_is_parts" (defArgs at') (defBody at') (defScope at') [] [] f fd) : Binds K fd ["_law_machine", "_law_parts_here"] [] := F.bindsN fun _ _ _ _ _ _ us hl => match us, hl with | [_, _], _ => rfl
theorem Ctx.f_law (C : Ctx w K mg) : ∃ fd, FunD K "law" "law" (defArgs eW') (defBody eW') (defScope eW') [] [] (He.ga K "law") fd := C.d.def_ 24 (d := p0') rfl
end
end S
namespace M
structure En where
  nx : PSt -> Prop
  rt : O -> W -> Prop
  bk : PSt -> Prop
  ct : PSt -> Prop
  ex : Exc -> PSt -> Prop
def vE {α : Type} (r : Res α) (Q : α -> PSt -> Prop) (X : Exc -> PSt -> Prop) : Prop := match r with
  | .ok a ρ => Q a ρ
  | .exc x ρ => X x ρ
  | .bad => False
def vS (o : Out) (D : En) : Prop := match o with
  | .nx ρ => D.nx ρ
  | .rt o w => D.rt o w
  | .bk ρ => D.bk ρ
  | .ct ρ => D.ct ρ
  | .exc x ρ => D.ex x ρ
  | .bad => False
def vF (r : FRes) (Q : O -> W -> Prop) (X : Exc -> W -> Prop) : Prop := match r with
  | .ok o w => Q o w
  | .exc x w => X x w
  | .bad => False
def vD {α : Type} (o : Option α) (Q : α -> Prop) : Prop := match o with
  | some z => Q z
  | none => False
def vI (k : Bool) (A B : Prop) : Prop := if k = true then A else B
def vB (d : D) (P : Bool -> Prop) : Prop := match d with
  | .bl k => P k
  | _ => False
def vT (d : D) (P : Tx -> Prop) : Prop := match d with
  | .str s => P s
  | _ => False
def vN (d : D) (P : Int -> Prop) : Prop := match d with
  | .int s => P s
  | _ => False
def vV (o : Option (Option O)) (i : Nat) (ρ : PSt) (Q : D -> PSt -> Prop) : Prop := match o with
  | some (some (.fz d)) => Q d ρ
  | some (some .exn) => False
  | some (some .clo) => False
  | some (some o) => Q (frz o) ⟨ρ.env.set i (some (.fz (frz o))), ρ.w⟩
  | _ => False
def vG (o : Option (Option O)) (i : Nat) (ρ : PSt) (Q : O -> PSt -> Prop) : Prop := match o with
  | some (some (.fz d)) => Q (.fz d) ρ
  | some (some .exn) => False
  | some (some .clo) => False
  | some (some o) => Q o ⟨ρ.env.set i none, ρ.w⟩
  | _ => False
def vO (o : Option (Option O)) (Q : O -> Prop) : Prop := match o with
  | some (some o) => Q o
  | _ => False
def vL (o : Option (Option O)) (Q : List O -> Prop) : Prop := match o with
  | some (some (.lst os)) => Q os
  | _ => False
def asF : O -> Option D
  | .fz d => some d
  | _ => none
def asL : D -> Option (List D)
  | .lst ds => some ds
  | _ => none
abbrev FX : Exc -> W -> Prop := fun _ _ => False
abbrev PX : Exc -> PSt -> Prop := fun _ _ => False
section
variable {α β : Type} {Q : α -> PSt -> Prop} {X : Exc -> PSt -> Prop} {ρ : PSt} {P : D -> PSt -> Prop} {D0 : En}
theorem af' (r : Res β) (f : β -> PSt -> Res α) : vE (r.bind f) Q X = vE r (fun b ρ => vE (f b ρ) Q X) X := by cases r <;> rfl
theorem bz' (r : Res β) (f : β -> PSt -> Out) : vS (r.out f) D0 = vE r (fun b ρ => vS (f b ρ) D0) D0.ex := by cases r <;> rfl
theorem bd' (o : Option α) : vE (ofO o ρ) Q X = vD o (fun z => Q z ρ) := by cases o <;> rfl
theorem d2' (a : α) : vE (.ok a ρ) Q X = Q a ρ := rfl
theorem dU' (d : D) {Q : Bool -> PSt -> Prop} : vE (asB d ρ) Q X = vB d (fun k => Q k ρ) := by cases d <;> rfl
theorem dT' (k : Bool) (a b : Res α) : vE (if k = true then a else b) Q X = vI k (vE a Q X) (vE b Q X) := by cases k <;> rfl
theorem nV' (k : Bool) (a b : Out) : vS (if k = true then a else b) D0 = vI k (vS a D0) (vS b D0) := by cases k <;> rfl
theorem gn' (z : α) {Q : α -> Prop} : vD (some z) Q = Q z := rfl
theorem lo' (k : Bool) {Q : Bool -> Prop} : vB (.bl k) Q = Q k := rfl
theorem pr' (A B : Prop) : vI true A B = A := rfl
theorem pt' (A B : Prop) : vI false A B = B := rfl
theorem jf' (k : Bool) (A B : Prop) : vI (!k) A B = vI k B A := by cases k <;> rfl
theorem sz' (d : D) : vE (eC d ρ) P X = P d ρ := rfl
theorem sw' (i : Nat) (env : List (Option O)) (w : W) : vE (eV i ⟨env, w⟩) P X = vV env[i]? i ⟨env, w⟩ P := by
  show vE (match env[i]? with | some (some (.fz d)) => Res.ok d ⟨env, w⟩ | some (some .exn) => .bad | some (some .clo) => .bad | some (some o) => .ok (frz o) ⟨env.set i (some (.fz (frz o))), w⟩ | _ => .bad) P X = _
  rcases env[i]? with _ | _ | o
  . rfl
  . rfl
  . cases o <;> rfl
theorem li' (d : D) (i : Nat) (ρ : PSt) : vV (some (some (.fz d))) i ρ P = P d ρ := rfl
theorem ja' (os : List O) (i : Nat) (env : List (Option O)) (w : W) : vV (some (some (.lst os))) i ⟨env, w⟩ P = P (.lst (frzs os)) ⟨env.set i (some (.fz (.lst (frzs os)))), w⟩ := rfl
theorem i9' (os : List O) (i : Nat) (env : List (Option O)) (w : W) : vV (some (some (.tup os))) i ⟨env, w⟩ P = P (.tup (frzs os)) ⟨env.set i (some (.fz (.tup (frzs os)))), w⟩ := rfl
theorem jb' (ks : List D) (os : List O) (i : Nat) (env : List (Option O)) (w : W) : vV (some (some (.dct ks os))) i ⟨env, w⟩ P = P (.dct ks (frzs os)) ⟨env.set i (some (.fz (.dct ks (frzs os)))), w⟩ := rfl
theorem lk' (d : D) (i : Nat) (ρ : PSt) {P : O -> PSt -> Prop} : vG (some (some (.fz d))) i ρ P = P (.fz d) ρ := rfl
theorem ji' (os : List O) (i : Nat) (env : List (Option O)) (w : W) {P : O -> PSt -> Prop} : vG (some (some (.lst os))) i ⟨env, w⟩ P = P (.lst os) ⟨env.set i none, w⟩ := rfl
theorem jh' (os : List O) (i : Nat) (env : List (Option O)) (w : W) {P : O -> PSt -> Prop} : vG (some (some (.tup os))) i ⟨env, w⟩ P = P (.tup os) ⟨env.set i none, w⟩ := rfl
theorem jj' (ks : List D) (os : List O) (i : Nat) (env : List (Option O)) (w : W) {P : O -> PSt -> Prop} : vG (some (some (.dct ks os))) i ⟨env, w⟩ P = P (.dct ks os) ⟨env.set i none, w⟩ := rfl
theorem gl' (o : O) {P : O -> Prop} : vO (some (some o)) P = P o := rfl
theorem je' (os : List O) {P : List O -> Prop} : vL (some (some (.lst os))) P = P os := rfl
theorem pn' (f : D -> D -> Option D) (a b : ME) : vE (eOp f a b ρ) P X = vE (a ρ) (fun x ρ1 => vE (b ρ1) (fun y ρ2 => vD (f x y) (fun z => P z ρ2)) X) X := by simp only [eOp, af', bd']
theorem pk' (f : D -> Option D) (a : ME) : vE (eUn f a ρ) P X = vE (a ρ) (fun x ρ1 => vD (f x) (fun z => P z ρ1)) X := by simp only [eUn, af', bd']
theorem lh' (a b : ME) : vE (oR' a b ρ) P X = vE (a ρ) (fun x ρ1 => vB x fun k => vI k (vE (b ρ1) P X) (P (.bl false) ρ1)) X := by simp only [oR', af', dU', dT', d2']
theorem lc' (a : ME) : vE (tP' a ρ) P X = vE (a ρ) (fun x ρ1 => vB x fun k => P (.bl (!k)) ρ1) X := by simp only [tP', af', dU', d2']
theorem gi' (f g : D -> D -> Option D) (a b c : ME) : vE (ey' f g a b c ρ) P X = vE (a ρ) (fun x ρ1 => vE (b ρ1) (fun y ρ2 => vD (f x y) fun r => vB r fun k => vI k (vE (c ρ2) (fun z ρ3 => vD (g y z) fun v => P v ρ3) X) (P (.bl false) ρ2)) X) X := by
  simp only [ey', af', bd', dU', dT', d2']
theorem ld' {P : List D -> PSt -> Prop} : vE (bc' ρ) P X = P [] ρ := rfl
theorem i7' (a : ME) (r : MA) {P : List D -> PSt -> Prop} : vE (ae' a r ρ) P X = vE (a ρ) (fun x ρ1 => vE (r ρ1) (fun xs ρ2 => P (x :: xs) ρ2) X) X := by simp only [ae', af', d2']
def gb' (n : Nat) (A : Prop) : Prop := n <= 16777216 /\ A
theorem gm' {n : Nat} (h : n <= 16777216) (A : Prop) : gb' n A = A := by unfold gb'; simp [h]
theorem la' (as : MA) : vE (kK' as ρ) P X = vE (as ρ) (fun xs ρ1 => gb' xs.length (P (.tup xs) ρ1)) X := by
  simp only [kK', af']
  congr
  funext xs ρ1
  unfold gb'
  by_cases h : xs.length <= 16777216
  . rw [if_pos h]; simp [vE, h]
  . rw [if_neg h]; simp [vE, h]
theorem le' (as : MA) : vE (kL' as ρ) P X = vE (as ρ) (fun xs ρ1 => gb' xs.length (P (.lst xs) ρ1)) X := by
  simp only [kL', af']
  congr
  funext xs ρ1
  unfold gb'
  by_cases h : xs.length <= 16777216
  . rw [if_pos h]; simp [vE, h]
  . rw [if_neg h]; simp [vE, h]
theorem pp' (f : Tx -> List D -> Option D) (a : ME) (as : MA) : vE (eMt f a as ρ) P X = vE (a ρ) (fun x ρ1 => vT x fun s => vE (as ρ1) (fun ds ρ2 => vD (f s ds) fun z => P z ρ2) X) X := by
  simp only [eMt, af']
  congr
  funext x ρ1
  cases x <;> simp only [af', bd'] <;> rfl
theorem jc' (s : Tx) {P : Tx -> Prop} : vT (.str s) P = P s := rfl
theorem jd' (s : Int) {P : Int -> Prop} : vN (.int s) P = P s := rfl
theorem po' {P : Option Int -> PSt -> Prop} : vE (pNo ρ) P X = P none ρ := rfl
theorem pl' (a : ME) {P : Option Int -> PSt -> Prop} : vE (pSo a ρ) P X = vE (a ρ) (fun x ρ1 => vN x fun i => P (some i) ρ1) X := by
  simp only [pSo, af']
  congr
  funext x ρ1
  cases x <;> rfl
theorem pm' (a : ME) (lo hi : MP) : vE (eSl a lo hi ρ) P X = vE (a ρ) (fun x ρ1 => vE (lo ρ1) (fun l ρ2 => vE (hi ρ2) (fun h ρ3 => vD (pSl x l h) fun z => P z ρ3) X) X) X := by simp only [eSl, af', bd']
theorem sy' (a : MO) : vE (eO a ρ) P X = vE (a ρ) (fun o ρ1 => P (frz o) ρ1) X := by simp only [eO, af', d2']
variable {R : O -> PSt -> Prop}
theorem pj' (a : ME) : vE (oE a ρ) R X = vE (a ρ) (fun d ρ1 => R (.fz d) ρ1) X := by simp only [oE, af', d2']
theorem pi' (i : Nat) (env : List (Option O)) (w : W) : vE (oV i ⟨env, w⟩) R X = vG env[i]? i ⟨env, w⟩ R := by
  show vE (match env[i]? with | some (some (.fz d)) => Res.ok (O.fz d) ⟨env, w⟩ | some (some .exn) => .bad | some (some .clo) => .bad | some (some o) => .ok o ⟨env.set i none, w⟩ | _ => .bad) R X = _
  rcases env[i]? with _ | _ | o
  . rfl
  . rfl
  . cases o <;> rfl
theorem i8' (f : MF) (as : MA) : vE (a3' f as ρ) R X = vE (as ρ) (fun ds ρ1 => vF (f ds ρ1.w) (fun o w => R o ⟨ρ1.env, w⟩) fun x w => X x ⟨ρ1.env, w⟩) X := by
  simp only [a3', af']
  congr
  funext ds ρ1
  cases f ds ρ1.w <;> rfl
theorem i1' (a : ME) : vE (mV' a ρ) R X = vE (a ρ) (fun d ρ1 => vD (asL d) fun ds => R (.lst (ds.map .fz)) ρ1) X := by
  simp only [mV', af']
  congr
  funext d ρ1
  cases d <;> rfl
theorem gg' : vE (kG' ρ) R X = R (.dct [] []) ρ := rfl
theorem gh' (i : Nat) (a : ME) (env : List (Option O)) (w : W) : vE (g6' i a ⟨env, w⟩) P X = vL env[i]? fun _ => vE (a ⟨env, w⟩) (fun d ρ1 => vN d fun z => vL ρ1.env[i]? fun os => gb' os.length (vD (ixn os.length z) fun j => vD os[j]? fun o => vD (asF o) fun y => P y ⟨ρ1.env.set i (some (.lst (os.eraseIdx j))), ρ1.w⟩)) X := by
  show vE (match env[i]? with
  | some (some (.lst _)) => (a ⟨env, w⟩).bind fun d ρ1 => match ρ1.env[i]?, d with
    | some (some (.lst os)), .int z => (match (if os.length <= dQ' then ixn os.length z else none) with
      | some j => (match os[j]? with
        | some (.fz y) => .ok y ⟨ρ1.env.set i (some (.lst (os.eraseIdx j))), ρ1.w⟩
        | _ => .bad)
      | none => .bad)
    | _, _ => .bad
  | _ => .bad) P X = _
  rcases env[i]? with _ | _ | o
  . rfl
  . rfl
  cases o with
  | lst os0 =>
    simp only [af', vL]
    congr
    funext d ρ1
    cases d with
    | int z =>
      simp only [vN]
      rcases ρ1.env[i]? with _ | _ | o
      . rfl
      . rfl
      cases o with
      | lst os =>
        simp only [gb']
        by_cases hl : os.length <= 16777216
        . simp only [hl, if_pos, true_and]
          cases ixn os.length z with
          | none => rfl
          | some j =>
            simp only [vD]
            rcases os[j]? with _ | o
            . rfl
            . cases o <;> rfl
        . simp only [hl, if_neg, false_and]; simp [vE]
      | _ => rfl
    | _ =>
      rcases ρ1.env[i]? with _ | _ | o
      . rfl
      . rfl
      cases o <;> rfl
  | _ => rfl
theorem i6' (i : Nat) : vE (iq' i ρ) P X = vO ρ.env[i]? fun o => vD (nO' o) fun z => P z ρ := by
  unfold iq'
  rcases ρ.env[i]? with _ | _ | o
  . rfl
  . rfl
  exact bd' _
theorem lf' (a b : ME) : vE (gd' a b ρ) P X = vE (a ρ) (fun x ρ1 => vE (b ρ1) (fun y ρ2 => vD (ixW ρ2.w x y) fun z => P z ρ2) X) X := by simp only [gd', af', bd']
theorem lb' (as : MA) : vE (tj' as ρ) R X = vE (as ρ) (fun xs ρ1 => gb' xs.length (R (.fz (.obj ρ1.w.length)) ⟨ρ1.env, ρ1.w ++ [.lst (xs.map .fz)]⟩)) X := by
  simp only [tj', af']
  congr
  funext xs ρ1
  unfold gb'
  by_cases h : xs.length <= 16777216
  . rw [if_pos h]; simp [vE, h]
  . rw [if_neg h]; simp [vE, h]
theorem lg' (cs : List String) (a : ME) (f : String) : vE (nt' cs a f ρ) P X = vE (a ρ) (fun x ρ1 => vD (in' cs f ρ1.w x) fun z => P z ρ1) X := by simp only [nt', af', bd']
theorem i5' (C : String) (init : MF) (as : MA) : vE (if' C init as ρ) R X = vE (as ρ) (fun ds ρ1 => vF (init (.obj ρ1.w.length :: ds) (ρ1.w ++ [.ins C []])) (fun o w => o = .fz .non /\ R (.fz (.obj ρ1.w.length)) ⟨ρ1.env, w⟩) fun x w => X x ⟨ρ1.env, w⟩) X := by
  simp only [if', af']
  congr
  funext ds ρ1
  cases init (.obj ρ1.w.length :: ds) (ρ1.w ++ [.ins C []]) with
  | ok o w =>
    cases o with
    | fz d => cases d <;> simp [vE, vF]
    | _ => simp [vE, vF]
  | _ => rfl
theorem i4' (C : List String) (m : String) (f : MF) (a : ME) (as : MA) : vE (dh' C m f a as ρ) R X = vE (a ρ) (fun x ρ1 => isIns C m ρ1.w x = true /\ vE (as ρ1) (fun ds ρ2 => vF (f (x :: ds) ρ2.w) (fun o w => R o ⟨ρ2.env, w⟩) fun x w => X x ⟨ρ2.env, w⟩) X) X := by
  simp only [dh', af']
  congr
  funext x ρ1
  by_cases h : isIns C m ρ1.w x = true
  . rw [if_pos h]
    simp only [h, true_and, af']
    congr
    funext ds ρ2
    cases f (x :: ds) ρ2.w <;> rfl
  . rw [if_neg h]
    simp [vE, h]
def vX (o : Option (Option O)) (A : Prop) : Prop := match o with
  | some (some .exn) => A
  | _ => False
variable {B : Bool -> PSt -> Prop}
theorem ph' (a : ME) : vE (tE a ρ) B X = vE (a ρ) (fun d ρ1 => vB d fun k => B k ρ1) X := by simp only [tE, af', dU']
theorem iZ' (a : MT) : vE (fa' a ρ) B X = vE (a ρ) (fun k ρ1 => B (!k) ρ1) X := by simp only [fa', af', d2']
theorem i0' (a b : MT) : vE (pE' a b ρ) B X = vE (a ρ) (fun k ρ1 => vI k (vE (b ρ1) B X) (B false ρ1)) X := by simp only [pE', af', dT', d2']
theorem k8' (a b : MT) : vE (tOr a b ρ) B X = vE (a ρ) (fun k ρ1 => vI k (B true ρ1) (vE (b ρ1) B X)) X := by simp only [tOr, af', dT', d2']
theorem pg' : vE (tT ρ) B X = B true ρ := rfl
variable {Y : List D -> PSt -> Prop}
theorem i3' (a : ME) : vE (nl' a ρ) Y X = vE (a ρ) (fun d ρ1 => vD (cz' d) fun z => Y z ρ1) X := by simp only [nl', af', bd']
theorem d3' (a : ME) : vE (bx' a ρ) Y X = vE (a ρ) (fun d ρ1 => vD (df' d) fun z => Y z ρ1) X := by simp only [bx', af', bd']
theorem i2' (a b : ME) : vE (tG' a b ρ) Y X = vE (a ρ) (fun d ρ1 => vE (b ρ1) (fun e ρ2 => vD (nJ' d e) fun z => Y z ρ2) X) X := by simp only [tG', af', bd']
theorem pq' (own : List Nat) (it : MI) (g : MG) (t : MT) (e : ME) : vE (eLc own it g t e ρ) P X = vE (it ρ) (fun xs ρ1 => vE (lcL own g t e xs [] ρ1) (fun ys ρ2 => P (.lst ys) ⟨back ρ1.env own (a5' own ρ2.env), ρ2.w⟩) X) X := by simp only [eLc, af', d2']
theorem k9' (own : List Nat) (it : MI) (g : MG) (t : MT) (e : ME) : vE (oLc own it g t e ρ) R X = vE (it ρ) (fun xs ρ1 => vE (lcL own g t e xs [] ρ1) (fun ys ρ2 => R (.lst (ys.map .fz)) ⟨back ρ1.env own (a5' own ρ2.env), ρ2.w⟩) X) X := by simp only [oLc, af', d2']
variable {N : PSt -> Prop} {rt : O -> W -> Prop} {bk ct : PSt -> Prop} {ex : Exc -> PSt -> Prop}
theorem jm' : vS (ba' ρ) ⟨N, rt, bk, ct, ex⟩ = N ρ := rfl
theorem jn' (a : ME) : vS (ms' a ρ) ⟨N, rt, bk, ct, ex⟩ = vE (a ρ) (fun _ ρ1 => N ρ1) ex := by simp only [ms', bz']; rfl
theorem lq' (a : MO) : vS (bR' a ρ) ⟨N, rt, bk, ct, ex⟩ = vE (a ρ) (fun o ρ1 => rt o ρ1.w) ex := by simp only [bR', bz']; rfl
theorem hS' (a b : MS) : vS (aS' a b ρ) ⟨N, rt, bk, ct, ex⟩ = vS (a ρ) ⟨fun ρ1 => vS (b ρ1) ⟨N, rt, bk, ct, ex⟩, rt, bk, ct, ex⟩ := by
  unfold aS'
  cases a ρ <;> rfl
theorem pu' (t : MT) (a b : MS) : vS (sIf t a b ρ) ⟨N, rt, bk, ct, ex⟩ = vE (t ρ) (fun k ρ1 => vI k (vS (a ρ1) ⟨N, rt, bk, ct, ex⟩) (vS (b ρ1) ⟨N, rt, bk, ct, ex⟩)) ex := by simp only [sIf, bz', nV']
def ma' (i n : Nat) (A : Prop) : Prop := i < n /\ A
theorem gj' {i n : Nat} (h : i < n) (A : Prop) : ma' i n A = A := by unfold ma'; simp [h]
theorem lp' (i : Nat) (a : MO) : vS (bj' i a ρ) ⟨N, rt, bk, ct, ex⟩ = vE (a ρ) (fun o ρ1 => ma' i ρ1.env.length (N ⟨ρ1.env.set i (some o), ρ1.w⟩)) ex := by
  simp only [bj', bz']
  congr
  funext o ρ1
  unfold uL' ma'
  by_cases h : i < ρ1.env.length
  . rw [if_pos h]; simp [vS, h]
  . rw [if_neg h]; simp [vS, h]
theorem lt' (g : MG) (a : ME) : vS (sP' g a ρ) ⟨N, rt, bk, ct, ex⟩ = vE (a ρ) (fun d ρ1 => vD (g d ρ1) N) ex := by
  simp only [sP', bz']
  congr
  funext o ρ1
  cases g o ρ1 <;> rfl
theorem lu' (i : Nat) (a : MO) : vS (pH' i a ρ) ⟨N, rt, bk, ct, ex⟩ = vL ρ.env[i]? fun _ => vE (a ρ) (fun o ρ1 => vL ρ1.env[i]? fun os => ma' os.length 16777216 (N ⟨ρ1.env.set i (some (.lst (os ++ [o]))), ρ1.w⟩)) ex := by
  unfold pH'
  rcases ρ.env[i]? with _ | _ | o
  . rfl
  . rfl
  cases o with
  | lst os0 =>
    simp only [bz', vL]
    congr
    funext o ρ1
    rcases ρ1.env[i]? with _ | _ | o2
    . rfl
    . rfl
    cases o2 with
    | lst os =>
      dsimp only
      unfold ma'
      by_cases h : os.length < 16777216
      . rw [if_pos h]; simp [vS, h]
      . rw [if_neg h]; simp [vS, h]
    | _ => rfl
  | _ => rfl
theorem jl' (o k a : ME) : vS (fJ' o k a ρ) ⟨N, rt, bk, ct, ex⟩ = vE (a ρ) (fun d ρ1 => vE (o ρ1) (fun x ρ2 => vE (k ρ2) (fun y ρ3 => vD (n2' ρ3.w x y d) fun w => N ⟨ρ3.env, w⟩) ex) ex) ex := by
  simp only [fJ', bz']
  congr
  funext d ρ1
  congr
  funext x ρ2
  congr
  funext y ρ3
  cases n2' ρ3.w x y d <;> rfl
def xd' (w : W) : D -> Option (List O)
  | .obj n => (match w[n]? with
    | some (.lst os) => some os
    | _ => none)
  | _ => none
def xx' (w : W) (b : Ob) : D -> W
  | .obj n => w.set n b
  | _ => w
theorem ls' (cs : List String) (a : ME) (f : String) (v : MO) : vS (sFld cs a f v ρ) ⟨N, rt, bk, ct, ex⟩ = vE (v ρ) (fun o ρ1 => vE (a ρ1) (fun x ρ2 => vD (stF cs f o ρ2.w x) fun w => N ⟨ρ2.env, w⟩) ex) ex := by
  simp only [sFld, bz']
  congr
  funext d ρ1
  congr
  funext x ρ2
  cases stF cs f d ρ2.w x <;> rfl
theorem lr' (it : MI) (g : MG) (b : MS) : vS (j1' it g b ρ) ⟨N, rt, bk, ct, ex⟩ = vE (it ρ) (fun ds ρ1 => vS (ki' g b ds ρ1) ⟨N, rt, bk, ct, ex⟩) ex := by simp only [j1', bz']
theorem qp' {k n : Nat} (b : MS) (ds : List D) (w : W) {Q : O -> W -> Prop} {X : Exc -> W -> Prop} (h : ds.length = k) : vF (fnM k n b ds w) Q X = vS (b ⟨ds.map (fun d => some (.fz d)) ++ List.replicate (n - k) none, w⟩) ⟨fun ρ => Q (.fz .non) ρ.w, Q, fun _ => False, fun _ => False, fun x ρ => X x ρ.w⟩ := by
  unfold fnM
  rw [if_pos h]
  cases b ⟨ds.map (fun d => some (.fz d)) ++ List.replicate (n - k) none, w⟩ <;> rfl
theorem jo' {k n : Nat} {b : MS} {ds : List D} {w : W} {Q : O -> W -> Prop} {X : Exc -> W -> Prop} (q : vS (b ⟨ds.map (fun d => some (.fz d)) ++ List.replicate (n - k) none, w⟩) ⟨fun ρ => Q (.fz .non) ρ.w, Q, fun _ => False, fun _ => False, fun x ρ => X x ρ.w⟩) (h : ds.length = k) : vF (fnM k n b ds w) Q X := by
  rw [qp' _ _ _ h]; exact q
theorem ll' (o : O) (w : W) {Q : O -> W -> Prop} {X : Exc -> W -> Prop} : vF (.ok o w) Q X = Q o w := rfl
theorem jk' (x : Exc) (w : W) {Q : O -> W -> Prop} {X : Exc -> W -> Prop} : vF (.exc x w) Q X = X x w := rfl
theorem vF.mono {r : FRes} {Q Q' : O -> W -> Prop} {X : Exc -> W -> Prop} (h : vF r Q FX) (k : ∀ o w, Q o w -> Q' o w) : vF r Q' X := by
  cases r with
  | ok o w => exact k _ _ h
  | exc x w => exact h.elim
  | bad => exact h
theorem vF.exi {r : FRes} {Q : O -> W -> Prop} (h : vF r Q FX) : ∃ o w, r = .ok o w /\ Q o w := by
  cases r with
  | ok o w => exact ⟨o, w, rfl, h⟩
  | exc x w => exact h.elim
  | bad => exact h.elim
theorem vF.of {r : FRes} {Q : O -> W -> Prop} {X : Exc -> W -> Prop} {o : O} {w : W} (e : r = .ok o w) (h : Q o w) : vF r Q X := by rw [e]; exact h
theorem vS.mono {o : Out} {D1 D2 : En} (h : vS o D1) (h1 : ∀ ρ, D1.nx ρ -> D2.nx ρ) (h2 : ∀ o w, D1.rt o w -> D2.rt o w) (h3 : ∀ ρ, D1.bk ρ -> D2.bk ρ) (h4 : ∀ ρ, D1.ct ρ -> D2.ct ρ) (h5 : ∀ x ρ, D1.ex x ρ -> D2.ex x ρ) : vS o D2 := by
  cases o with
  | nx ρ => exact h1 _ h
  | rt o w => exact h2 _ _ h
  | bk ρ => exact h3 _ h
  | ct ρ => exact h4 _ h
  | exc x ρ => exact h5 _ _ h
  | bad => exact h
theorem vE.mono {r : Res α} {Q Q' : α -> PSt -> Prop} {X X' : Exc -> PSt -> Prop} (h : vE r Q X) (k : ∀ a ρ, Q a ρ -> Q' a ρ) (k2 : ∀ x ρ, X x ρ -> X' x ρ) : vE r Q' X' := by
  cases r with
  | ok a ρ => exact k _ _ h
  | exc x ρ => exact k2 _ _ h
  | bad => exact h
theorem gp' {a b : MS} (J : PSt -> Prop) (h : vS (a ρ) ⟨J, rt, bk, ct, ex⟩) (k : ∀ ρ1, J ρ1 -> vS (b ρ1) ⟨N, rt, bk, ct, ex⟩) : vS (aS' a b ρ) ⟨N, rt, bk, ct, ex⟩ := by
  rw [hS']
  exact h.mono k (fun _ _ z => z) (fun _ z => z) (fun _ z => z) (fun _ _ z => z)
theorem jg' {p : Prop} [Decidable p] {A B : Prop} (h1 : p -> A) (h2 : ¬ p -> B) : vI (decide p) A B := by
  by_cases h : p
  . rw [decide_eq_true h]; exact h1 h
  . rw [decide_eq_false h]; exact h2 h
theorem d4' {γ : Type} {g : MG} {b : MS} {f : γ -> D} {cs : List γ} (Inv : List γ -> PSt -> Prop) (h0 : Inv [] ρ)
    (step : ∀ pre c post ρ, cs = pre ++ c :: post -> Inv pre ρ -> vD (g (f c) ρ) fun ρ1 => vS (b ρ1) ⟨Inv (pre ++ [c]), rt, N, Inv (pre ++ [c]), ex⟩)
    (hend : ∀ ρ, Inv cs ρ -> N ρ) : vS (ki' g b (cs.map f) ρ) ⟨N, rt, bk, ct, ex⟩ := by
  have main : ∀ (post pre : List γ) (ρ : PSt), cs = pre ++ post -> Inv pre ρ -> vS (ki' g b (post.map f) ρ) ⟨N, rt, bk, ct, ex⟩ := by
    intro post
    induction post with
    | nil =>
      intro pre ρ e h
      rw [List.append_nil] at e
      exact hend ρ (e ▸ h)
    | cons d post ih =>
      intro pre ρ e h
      have s := step pre d post ρ e h
      rw [List.map_cons]
      unfold ki'
      cases eg : g (f d) ρ with
      | none => rw [eg] at s; exact s
      | some ρ1 =>
        rw [eg] at s
        have s : vS (b ρ1) _ := s
        dsimp only
        cases eb : b ρ1 with
        | nx ρ2 => rw [eb] at s; exact ih (pre ++ [d]) ρ2 (by rw [e, List.append_assoc]; rfl) s
        | ct ρ2 => rw [eb] at s; exact ih (pre ++ [d]) ρ2 (by rw [e, List.append_assoc]; rfl) s
        | bk ρ2 => rw [eb] at s; exact s
        | rt o w => rw [eb] at s; exact s
        | exc x ρ2 => rw [eb] at s; exact s
        | bad => rw [eb] at s; exact s
  exact main cs [] ρ rfl h0
theorem gq' {g : MG} {b : MS} {lo : Int} {n : Nat} (Inv : Nat -> PSt -> Prop) (h0 : Inv 0 ρ)
    (step : ∀ k ρ, k < n -> Inv k ρ -> vD (g (.int (lo + (k : Nat))) ρ) fun ρ1 => vS (b ρ1) ⟨Inv (k + 1), rt, N, Inv (k + 1), ex⟩)
    (hend : ∀ ρ, Inv n ρ -> N ρ) : vS (ki' g b (rgI lo n) ρ) ⟨N, rt, bk, ct, ex⟩ := by
  unfold rgI
  refine d4' (fun pre ρ => Inv pre.length ρ) h0 (fun pre c post ρ e h => ?_) (fun ρ h => hend ρ (by rwa [List.length_range] at h))
  have hl : pre.length < n := by
    have := congrArg List.length e
    rw [List.length_range, List.length_append, List.length_cons] at this
    omega
  have hc : c = pre.length := by
    have h1 : (List.range n)[pre.length]? = some c := by rw [e, List.getElem?_append_right (Nat.le_refl _), Nat.sub_self]; rfl
    rw [List.getElem?_range hl] at h1
    exact (Option.some.inj h1).symm
  subst hc
  have := step pre.length ρ hl h
  simp only [List.length_append, List.length_cons, List.length_nil, Nat.zero_add]
  exact this
theorem jp' {own : List Nat} {g : MG} {t : MT} {e : ME} {γ : Type} {f : γ -> D} {cs : List γ} {Q : List D -> PSt -> Prop} (hl : cs.length <= 16777216) (Inv : List γ -> List D -> PSt -> Prop) (h0 : Inv [] [] ρ)
    (step : ∀ pre c post acc ρ, cs = pre ++ c :: post -> Inv pre acc ρ -> vD (g (f c) ⟨a5' own ρ.env, ρ.w⟩) fun ρ1 => vE (t ρ1) (fun k ρ2 => vI k (vE (e ρ2) (fun y ρ3 => Inv (pre ++ [c]) (acc ++ [y]) ρ3) PX) (Inv (pre ++ [c]) acc ρ2)) PX)
    (hend : ∀ acc ρ, Inv cs acc ρ -> Q acc ρ) : vE (lcL own g t e (cs.map f) [] ρ) Q X := by
  have main : ∀ (post pre : List γ) (acc : List D) (ρ : PSt), cs = pre ++ post -> acc.length <= pre.length -> Inv pre acc ρ -> vE (lcL own g t e (post.map f) acc ρ) Q X := by
    intro post
    induction post with
    | nil =>
      intro pre acc ρ e' hacc h
      rw [List.append_nil] at e'
      exact hend acc ρ (e' ▸ h)
    | cons d post ih =>
      intro pre acc ρ e' hacc h
      have s := step pre d post acc ρ e' h
      have hpre : pre.length < 16777216 := by
        have := congrArg List.length e'
        rw [List.length_append, List.length_cons] at this
        omega
      rw [List.map_cons]
      unfold lcL
      cases eg : g (f d) ⟨a5' own ρ.env, ρ.w⟩ with
      | none => rw [eg] at s; exact s
      | some ρ1 =>
        rw [eg] at s
        have s : vE (t ρ1) _ _ := s
        dsimp only
        cases et : t ρ1 with
        | bad => rw [et] at s; exact s
        | exc x ρ2 => rw [et] at s; exact s.elim
        | ok k ρ2 =>
          rw [et] at s
          have s : vI k _ _ := s
          show vE (if k = true then _ else _) Q X
          have e2 : cs = (pre ++ [d]) ++ post := by rw [e', List.append_assoc]; rfl
          cases k with
          | false =>
            rw [if_neg Bool.false_ne_true]
            exact ih (pre ++ [d]) acc ρ2 e2 (by rw [List.length_append]; omega) s
          | true =>
            rw [if_pos rfl]
            have s : vE (e ρ2) _ _ := s
            cases ee : e ρ2 with
            | bad => rw [ee] at s; exact s
            | exc x ρ3 => rw [ee] at s; exact s.elim
            | ok y ρ3 =>
              rw [ee] at s
              show vE (if acc.length < dQ' then _ else _) Q X
              rw [if_pos (show acc.length < 16777216 by omega)]
              exact ih (pre ++ [d]) (acc ++ [y]) ρ3 e2 (by rw [List.length_append, List.length_append, List.length_cons, List.length_cons]; omega) s
  exact main cs [] [] ρ rfl (Nat.le_refl _) h0
end
end M
namespace M
def vC (c : Prop) (A : Prop) : Prop := c /\ A
def vOb (o : Option Ob) (P : List O -> Prop) : Prop := match o with
  | some (.lst os) => P os
  | _ => False
def uJ' (o : Option Ob) (P : String -> List (String × O) -> Prop) : Prop := match o with
  | some (.ins C fs) => P C fs
  | _ => False
theorem lj' (C : String) (fs : List (String × O)) {P : String -> List (String × O) -> Prop} : uJ' (some (.ins C fs)) P = P C fs := rfl
theorem qq' (cs : List String) (f : String) (o : O) (w : W) (n : Nat) {N : W -> Prop} : vD (stF cs f o w (.obj n)) N = uJ' w[n]? (fun C fs => vC (C ∈ cs /\ fs.length < 1000) (N (w.set n (.ins C (nM' f o fs))))) := by
  show vD (match w[n]? with | some (.ins C fs) => if C ∈ cs /\ fs.length < 1000 then some (w.set n (.ins C (nM' f o fs))) else none | _ => none) N = _
  rcases w[n]? with _ | ob
  . rfl
  . cases ob with
    | ins C fs =>
      show vD (if _ then _ else _) N = vC _ _
      unfold vC
      by_cases h : C ∈ cs /\ fs.length < 1000
      . rw [if_pos h]; simp [vD, h]
      . rw [if_neg h]
        show False = (_ /\ _)
        rw [eq_iff_iff]
        exact ⟨False.elim, fun a => h a.1⟩
    | _ => rfl
theorem gk' (os : List O) {P : List O -> Prop} : vOb (some (.lst os)) P = P os := rfl
theorem ln' {c : Prop} (h : c) (A : Prop) : vC c A = A := by unfold vC; simp [h]
theorem go' (A : Prop) : vC True A = A := by unfold vC; simp
theorem aG' {α : Type} {c : Prop} [Decidable c] {x : α} {Q : α -> Prop} : vD (if c then some x else none) Q = vC c (Q x) := by
  unfold vC
  by_cases h : c
  . rw [if_pos h]; simp [vD, h]
  . rw [if_neg h]; simp [vD, h]
theorem bI' {α β : Type} {f : α -> β} {o : Option α} {Q : β -> Prop} : vD (o.map f) Q = vD o (fun a => Q (f a)) := by cases o <;> rfl
theorem lm' {α β : Type} {f : α -> Option β} {o : Option α} {Q : β -> Prop} : vD (o.bind f) Q = vD o (fun a => vD (f a) Q) := by cases o <;> rfl
section
variable {Q : D -> Prop} {Y : List D -> Prop}
theorem jS' (i j : Int) : vD (bG' (.int i) (.int j)) Q = Q (.int (i + j)) := rfl
theorem jQ' (a b : Tx) : vD (bG' (.str a) (.str b)) Q = gb' (a.length + b.length) (Q (.str (a ++ b))) := aG'
theorem jR' (a b : List D) : vD (bG' (.lst a) (.lst b)) Q = gb' (a.length + b.length) (Q (.lst (a ++ b))) := aG'
theorem jP' (a b : List D) : vD (bG' (.tup a) (.tup b)) Q = gb' (a.length + b.length) (Q (.tup (a ++ b))) := aG'
theorem gB' (i j : Int) : vD (tc' (.int i) (.int j)) Q = Q (.int (i + j)) := rfl
theorem lw' (i j : Int) : vD (pO' (.int i) (.int j)) Q = Q (.int (i - j)) := rfl
theorem lH' (i j : Int) : vD (ib' (.int i) (.int j)) Q = vC (((-18446744073709551616 < i /\ i < 18446744073709551616) \/ (-18446744073709551616 < j /\ j < 18446744073709551616)) \/ ((-2582249878086908589655919172003011874329705792829223512830659356540647622016841194629645353280137831435903171972747493376 < i /\ i < 2582249878086908589655919172003011874329705792829223512830659356540647622016841194629645353280137831435903171972747493376) /\ (-2582249878086908589655919172003011874329705792829223512830659356540647622016841194629645353280137831435903171972747493376 < j /\ j < 2582249878086908589655919172003011874329705792829223512830659356540647622016841194629645353280137831435903171972747493376))) (Q (.int (i * j))) := by
  show vD (if (small64 i = true \/ small64 j = true) \/ _ then _ else _) Q = _
  rw [aG']
  congr 1
  simp [small64]
theorem jD' (a : Tx) (j : Int) : vD (ib' (.str a) (.int j)) Q = vC (j < 4611686018427387904 /\ -4611686018427387904 <= j /\ a.length * j.toNat <= 16777216) (Q (.str (List.replicate j.toNat a).flatten)) := aG'
theorem jE' (a : List D) (j : Int) : vD (ib' (.lst a) (.int j)) Q = vC (j < 4611686018427387904 /\ -4611686018427387904 <= j /\ a.length * j.toNat <= 16777216) (Q (.lst (List.replicate j.toNat a).flatten)) := aG'
theorem jO' (i j : Int) : vD (gO' (.int i) (.int j)) Q = vC (0 < j /\ j < 1606938044258990275541962092341162602522202993782792835301376) (Q (.int (i / j))) := aG'
theorem lI' (i j : Int) : vD (gN' (.int i) (.int j)) Q = vC (0 < j) (Q (.int (i % j))) := aG'
theorem lD' (i j : Int) : vD (tb' (.int i) (.int j)) Q = vC (0 <= j /\ j <= 1000 /\ -18446744073709551616 < i /\ i < 18446744073709551616) (Q (.int (i ^ j.toNat))) := by
  show vD (if 0 <= j /\ j <= 1000 /\ small64 i = true then _ else _) Q = _
  rw [aG']
  congr 1
  simp [small64]
theorem lE' (i : Int) : vD (uR' (.int i)) Q = Q (.int (-i)) := rfl
theorem l1' (i j : Int) : vD (pEq (.int i) (.int j)) Q = Q (.bl (decide (i = j))) := by
  show Q (.bl (i == j)) = _
  congr 2
theorem l0' (i j : Tx) : vD (pEq (.str i) (.str j)) Q = Q (.bl (decide (i = j))) := by
  show Q (.bl (i == j)) = _
  congr 2
  rw [Bool.eq_iff_iff]
  simp
theorem l2' (i j : Bool) : vD (pEq (.bl i) (.bl j)) Q = Q (.bl (i == j)) := rfl
theorem pC' (x y : D) : vD (pEq x y) Q = vC (dat x = true /\ dat y = true /\ dep x <= 64 /\ dep y <= 64) (Q (.bl (eqb x y))) := by
  unfold pEq ob eqv
  rw [bI', aG']
theorem lG' (i j : Int) : vD (pNe (.int i) (.int j)) Q = Q (.bl (!decide (i = j))) := by
  show Q (.bl (!(i == j))) = _
  congr 3
theorem lF' (i j : Tx) : vD (pNe (.str i) (.str j)) Q = Q (.bl (!decide (i = j))) := by
  show Q (.bl (!(i == j))) = _
  congr 3
  rw [Bool.eq_iff_iff]
  simp
theorem lT' (x : D) : vD (pIs x .non) Q = Q (.bl (cZ' x)) := by cases x <;> rfl
theorem lU' (x y : Bool) : vD (pIs (.bl x) (.bl y)) Q = Q (.bl (x == y)) := rfl
theorem e8' (x : D) : vD (cQ' x .non) Q = Q (.bl (!cZ' x)) := by cases x <;> rfl
theorem e9' (x y : Bool) : vD (cQ' (.bl x) (.bl y)) Q = Q (.bl (!(x == y))) := rfl
theorem pv' (i j : Int) : vD (pLt (.int i) (.int j)) Q = Q (.bl (decide (i < j))) := rfl
theorem pw' (i j : Int) : vD (pLe (.int i) (.int j)) Q = Q (.bl (decide (i <= j))) := rfl
theorem px' (i j : Int) : vD (pGt (.int i) (.int j)) Q = Q (.bl (decide (j < i))) := rfl
theorem pz' (i j : Int) : vD (pGe (.int i) (.int j)) Q = Q (.bl (decide (j <= i))) := rfl
theorem lL' (i j : Tx) : vD (pLt (.str i) (.str j)) Q = Q (.bl (decide (i < j))) := rfl
theorem lM' (i j : Tx) : vD (pLe (.str i) (.str j)) Q = Q (.bl (!decide (j < i))) := rfl
theorem lX' (i j : Tx) : vD (pGt (.str i) (.str j)) Q = Q (.bl (decide (j < i))) := rfl
theorem lZ' (i j : Tx) : vD (pGe (.str i) (.str j)) Q = Q (.bl (!decide (i < j))) := rfl
theorem lW' (c : Nat) (s : Tx) : vD (pIn (.str [c]) (.str s)) Q = Q (.bl (decide (c ∈ s))) := rfl
theorem jC' (c : Nat) (s : Tx) : vD (fm' (.str [c]) (.str s)) Q = Q (.bl (!decide (c ∈ s))) := rfl
theorem j0' (ns : List Int) : (ns.map D.int).all sca = true := by induction ns <;> simp_all [sca]
theorem kt' (i : Int) (ns : List Int) : ((ns.map D.int).any fun d => eqb d (.int i)) = decide (i ∈ ns) := by
  induction ns with
  | nil => rfl
  | cons n ns ih =>
    simp only [List.map_cons, List.any_cons, ih]
    rw [Bool.eq_iff_iff]
    simp [eqb]
    exact ⟨fun h => h.elim (fun e => .inl e.symm) .inr, fun h => h.elim (fun e => .inl e.symm) .inr⟩
theorem jL' (i : Int) (ns : List Int) : vD (pIn (.int i) (.tup (ns.map .int))) Q = Q (.bl (decide (i ∈ ns))) := by
  show vD (if sca (.int i) = true /\ (ns.map D.int).all sca = true then some (D.bl ((ns.map D.int).any fun d => eqb d (.int i))) else none) Q = _
  rw [j0', kt']
  rfl
theorem jM' (i : Int) (ns : List Int) : vD (pIn (.int i) (.lst (ns.map .int))) Q = Q (.bl (decide (i ∈ ns))) := by
  show vD (if sca (.int i) = true /\ (ns.map D.int).all sca = true then some (D.bl ((ns.map D.int).any fun d => eqb d (.int i))) else none) Q = _
  rw [j0', kt']
  rfl
theorem jH' (s : Tx) : vD (cG' (.str s)) Q = Q (.int s.length) := rfl
theorem jI' (s : List D) : vD (cG' (.lst s)) Q = Q (.int s.length) := rfl
theorem jG' (s : List D) : vD (cG' (.tup s)) Q = Q (.int s.length) := rfl
theorem lP' (s : Tx) (i : Int) : vD (pIx (.str s) (.int i)) Q = vD (ati s i) (fun c => Q (.str [c])) := bI'
theorem lR' (s : List D) (i : Int) : vD (pIx (.lst s) (.int i)) Q = vD (ati s i) Q := rfl
theorem lO' (s : List D) (i : Int) : vD (pIx (.tup s) (.int i)) Q = vD (ati s i) Q := rfl
theorem tx' {n : Nat} {i : Int} (h : 0 <= i) (h2 : i < n) : ixn n i = some i.toNat := by unfold ixn; rw [if_pos h, if_pos h2]
theorem hF' {α : Type} {xs : List α} {i : Int} (h : 0 <= i) : ati xs i = xs[i.toNat]? := by
  unfold ati ixn
  rw [if_pos h]
  split
  . rfl
  . rename_i h2
    rw [List.getElem?_eq_none (by omega)]
    rfl
theorem ly' (s : Tx) (lo hi : Option Int) : vD (pSl (.str s) lo hi) Q = Q (.str (cut s lo hi)) := rfl
theorem lA' (s : List D) (lo hi : Option Int) : vD (pSl (.lst s) lo hi) Q = Q (.lst (cut s lo hi)) := rfl
theorem lx' (s : List D) (lo hi : Option Int) : vD (pSl (.tup s) lo hi) Q = Q (.tup (cut s lo hi)) := rfl
theorem lz' (s : List D) (lo hi : Option Int) : vD (pSl (.scr s) lo hi) Q = Q (.lst (cut s lo hi)) := rfl
theorem p6' {α : Type} {s : List α} {i : Int} (h : 0 <= i) : cut s none (some i) = s.take i.toNat := by
  unfold cut six
  simp only [if_neg (show ¬ i < 0 by omega), List.drop_zero, Nat.sub_zero]
  rcases Nat.le_total i.toNat s.length with h | h
  . rw [Nat.min_eq_left h]
  . rw [Nat.min_eq_right h, List.take_length, List.take_of_length_le h]
theorem o8' {α : Type} {s : List α} {i : Int} (h : 0 <= i) : cut s (some i) none = s.drop i.toNat := by
  unfold cut six
  simp only [if_neg (show ¬ i < 0 by omega)]
  rcases Nat.le_total i.toNat s.length with h | h
  . rw [Nat.min_eq_left h, List.take_of_length_le (by rw [List.length_drop]; omega)]
  . rw [Nat.min_eq_right h, List.drop_length, List.drop_of_length_le h, List.take_nil]
theorem jA' (s : Tx) : vD (uQ' (.str s)) Q = Q (.str s.reverse) := rfl
theorem jB' (s : List D) : vD (uQ' (.lst s)) Q = Q (.lst s.reverse) := rfl
theorem nZ' (l : List Tx) : cv' (l.map .str) = some l := by
  induction l with
  | nil => rfl
  | cons a l ih => simp [cv', ih]
theorem g2' : ∀ l : List Tx, bS' [] l = l.flatten
  | [] => rfl
  | [x] => by simp [bS']
  | x :: y :: r => by
    have := g2' (y :: r)
    simp only [bS', this, List.flatten_cons, List.nil_append]
theorem fB' (l : List Tx) : vD (eX' [] [.lst (l.map .str)]) Q = gb' (l.map List.length).sum (Q (.str l.flatten)) := by
  show vD ((cv' (l.map .str)).bind _) Q = _
  rw [nZ']
  show vD (if _ then _ else _) Q = _
  rw [aG', g2']
  simp [vC, gb']
theorem me' : ∀ l : Tx, ((l.map fun c => [c]).map List.length).sum = l.length
  | [] => rfl
  | c :: l => by simp only [List.map_cons, List.sum_cons, me' l, List.length_cons, List.length_nil]; omega
theorem kj' : ∀ l : Tx, (l.map fun c => [c]).flatten = l
  | [] => rfl
  | c :: l => by simp only [List.map_cons, List.flatten_cons, kj' l]; rfl
theorem gz' (l : Tx) : vD (eX' [] [.lst (l.map chD)]) Q = gb' l.length (Q (.str l)) := by
  have h := fB' (Q := Q) (l.map fun c => [c])
  rw [List.map_map, me', kj'] at h
  exact h
theorem jN' (a b : Tx) : vD (to' a [.str b]) Q = Q (.int (fnd (r4' a b))) := rfl
theorem gA' (a b : Tx) : vD (pS' a [.str b]) Q = vD (r4' a b) (fun i => Q (.int (i : Nat))) := bI'
theorem gr' (s : Tx) : vD (pN' (.str s)) Q = vC (s.all (fun c => decide (c < 128)) = true /\ s.length <= 5592405) (Q (.str (s.map up1))) := aG'
theorem lV' (i : Int) : vD (gc' (.int i)) Q = Q (.int i) := rfl
theorem jK' (b : Bool) : vD (gc' (.bl b)) Q = Q (.int (if b then 1 else 0)) := rfl
theorem l9' (i : Int) : vD (uS' (.int i)) Q = Q (.int (if i < 0 then -i else i)) := rfl
theorem lK' (i j : Int) : vD (mO' (.int i) (.int j)) Q = Q (.int (max i j)) := by
  show Q (.int (if j > i then j else i)) = _
  congr 2
  split <;> omega
theorem lJ' (i j : Int) : vD (kF' (.int i) (.int j)) Q = Q (.int (min i j)) := by
  show Q (.int (if j < i then j else i)) = _
  congr 2
  split <;> omega
theorem jv' (s : List D) : vD (b3' (.lst s)) Q = Q (.tup s) := rfl
theorem ju' (s : List D) : vD (b3' (.tup s)) Q = Q (.tup s) := rfl
theorem gw' (s : List D) : vD (el' (.lst s)) Q = Q (.lst s) := rfl
theorem gv' (s : List D) : vD (el' (.tup s)) Q = Q (.lst s) := rfl
theorem gs' (s : Tx) : vD (bY' (.str s)) Q = vC (s.length < 64) (Q (.lst ((bq' s).map chD))) := aG'
theorem lS' (t : String) (d : D) : vD (bs' t d) Q = vD (tyn d) (fun n => Q (.bl (n == t || (n == "bool" && t == "int")))) := bI'
theorem nh' (l : List Int) : bt' (l.map .int) = some l := by
  induction l with
  | nil => rfl
  | cons a l ih => simp [bt', ih]
theorem kq' (l : List Bool) : bools (l.map .bl) = some l := by
  induction l with
  | nil => rfl
  | cons a l ih => simp [bools, ih]
theorem lv' (l : List Int) : vD (w6' (.lst (l.map .int))) Q = Q (.int l.sum) := by
  show vD ((bt' (l.map .int)).map _) Q = _
  rw [nh']
  rfl
theorem l8' (l : List Bool) : vD (w8' (.lst (l.map .bl))) Q = Q (.bl (l.all id)) := by
  show vD ((bools (l.map .bl)).map _) Q = _
  rw [kq']
  rfl
theorem l7' (l : List Bool) : vD (w7' (.lst (l.map .bl))) Q = Q (.bl (l.any id)) := by
  show vD ((bools (l.map .bl)).map _) Q = _
  rw [kq']
  rfl
theorem jz' (s : List D) : vD (cz' (.lst s)) Y = Y s := rfl
theorem jx' (s : List D) : vD (cz' (.tup s)) Y = Y s := rfl
theorem jy' (s : Tx) : vD (cz' (.str s)) Y = Y (s.map chD) := rfl
theorem lC' (j : Int) : vD (df' (.int j)) Y = vC (-4611686018427387904 <= j /\ j < 4611686018427387904) (Y (rgI 0 j.toNat)) := by
  show vD (if nQ' j = true then _ else _) Y = _
  rw [aG']
  congr 1
  simp [nQ']
theorem lB' (i j : Int) : vD (mN' (.int i) (.int j)) Y = vC ((-4611686018427387904 <= i /\ i < 4611686018427387904) /\ (-4611686018427387904 <= j /\ j < 4611686018427387904)) (Y (rgI i (j - i).toNat)) := by
  show vD (if nQ' i = true /\ nQ' j = true then _ else _) Y = _
  rw [aG']
  congr 1
  simp [nQ']
theorem jr' (a b : Tx) : vD (nJ' (.str a) (.str b)) Y = Y (cm' (a.map chD) (b.map chD)) := rfl
theorem jt' (a b : List D) : vD (nJ' (.lst a) (.lst b)) Y = Y (cm' a b) := rfl
theorem jq' (a b : List D) : vD (nJ' (.tup a) (.tup b)) Y = Y (cm' a b) := rfl
theorem js' (a : Tx) (b : List D) : vD (wW' (.str a) (.tup b)) Y = Y (cm' (a.map chD) b) := rfl
theorem l3' (a : Tx) : vD (enB (.str a)) Y = Y (ip' 0 (a.map chD)) := rfl
theorem l4' (a : List D) : vD (enB (.lst a)) Y = Y (ip' 0 a) := rfl
theorem gu' (a : List D) : vD (uO' (.lst a)) Y = Y a.reverse := rfl
theorem gt' (a : List D) : vD (uO' (.tup a)) Y = Y a.reverse := rfl
theorem jF' (j : Int) : vD (cP' (.int j)) Q = vC (RgB 0 j = true) (Q (.lst (c0' 0 j))) := aG'
theorem uF' {a b : Int} (h1 : 0 <= a) (h2 : b <= 16777216) (h3 : a <= 16777216) (h4 : 0 <= b) : RgB a b = true := by
  unfold RgB
  simp only [Bool.and_eq_true, decide_eq_true_eq]
  omega
theorem pB' (i : Nat) (d : D) (env : List (Option O)) (w : W) {N : PSt -> Prop} : vD (gN i d ⟨env, w⟩) N = ma' i env.length (N ⟨env.set i (some (.fz d)), w⟩) := aG'
theorem pA' (is : List Nat) (ds : List D) (ρ : PSt) {N : PSt -> Prop} : vD (gT is (.tup ds) ρ) N = vD (gNs is ds ρ) N := rfl
theorem lY' (ρ : PSt) {N : PSt -> Prop} : vD (gNs [] [] ρ) N = N ρ := rfl
theorem py' (i : Nat) (is : List Nat) (d : D) (ds : List D) (ρ : PSt) {N : PSt -> Prop} : vD (gNs (i :: is) (d :: ds) ρ) N = vD (gN i d ρ) (fun ρ1 => vD (gNs is ds ρ1) N) := lm'
theorem lN' (w : W) (n : Nat) (k : D) : vD (ixW w (.obj n) k) Q = vOb w[n]? (fun os => vD (ixO (.lst os) k) Q) := by
  show vD (match w[n]? with | some (.lst os) => ixO (.lst os) k | _ => none) Q = _
  rcases w[n]? with _ | ob
  . rfl
  . cases ob <;> rfl
theorem lQ' (os : List O) (i : Int) : vD (ixO (.lst os) (.int i)) Q = vD (ati os i) (fun o => vD (asF o) Q) := by
  show vD (match ati os i with | some (.fz d) => some d | _ => none) Q = _
  rcases ati os i with _ | o
  . rfl
  . cases o <;> rfl
theorem l6' (d : D) : vD (asF (.fz d)) Q = Q d := rfl
theorem l5' (d : List D) {Q : List D -> Prop} : vD (asL (.lst d)) Q = Q d := rfl
theorem jJ' (d k : D) : vD (ixO (.fz d) k) Q = vD (pIx d k) Q := rfl
theorem jw' (w : W) (n : Nat) (z : Int) (d : D) {N : W -> Prop} : vD (n2' w (.obj n) (.int z) d) N = vOb w[n]? (fun os => vD (ixn os.length z) (fun j => N (w.set n (.lst (os.set j (.fz d)))))) := by
  show vD (match w[n]? with | some (.lst os) => (ixn os.length z).map fun j => w.set n (.lst (os.set j (.fz d))) | _ => none) N = _
  rcases w[n]? with _ | ob
  . rfl
  . cases ob with
    | lst os => exact bI'
    | _ => rfl
theorem gx' (os : List O) : vD (nO' (.lst os)) Q = Q (.int os.length) := rfl
theorem gy' (d : D) : vD (nO' (.fz d)) Q = vD (cG' d) Q := rfl
end
structure U {α : Sort _} (a : α) : Type where
@[irreducible] def wE {α : Type} (r : Res α) (Q : α -> PSt -> Prop) (X : Exc -> PSt -> Prop) (_ : U (Q, X) := U.mk) : Prop := vE r Q X
@[irreducible] def wS (o : Out) (D : En) (_ : U D := U.mk) : Prop := vS o D
@[irreducible] def wF (r : FRes) (Q : O -> W -> Prop) (X : Exc -> W -> Prop) (_ : U (Q, X) := U.mk) : Prop := vF r Q X
@[irreducible] def wD {α : Type} (o : Option α) (Q : α -> Prop) (_ : U Q := U.mk) : Prop := vD o Q
@[irreducible] def wI (k : Bool) (A B : Prop) (_ : U (A, B) := U.mk) : Prop := vI k A B
@[irreducible] def wB (d : D) (P : Bool -> Prop) (_ : U P := U.mk) : Prop := vB d P
@[irreducible] def wT (d : D) (P : Tx -> Prop) (_ : U P := U.mk) : Prop := vT d P
@[irreducible] def wN (d : D) (P : Int -> Prop) (_ : U P := U.mk) : Prop := vN d P
@[irreducible] def wV (o : Option (Option O)) (i : Nat) (ρ : PSt) (Q : D -> PSt -> Prop) (_ : U Q := U.mk) : Prop := vV o i ρ Q
@[irreducible] def wG (o : Option (Option O)) (i : Nat) (ρ : PSt) (Q : O -> PSt -> Prop) (_ : U Q := U.mk) : Prop := vG o i ρ Q
@[irreducible] def wO (o : Option (Option O)) (Q : O -> Prop) (_ : U Q := U.mk) : Prop := vO o Q
@[irreducible] def wL (o : Option (Option O)) (Q : List O -> Prop) (_ : U Q := U.mk) : Prop := vL o Q
@[irreducible] def hK' (n : Nat) (A : Prop) (_ : U A := U.mk) : Prop := gb' n A
@[irreducible] def qf' (i n : Nat) (A : Prop) (_ : U A := U.mk) : Prop := ma' i n A
@[irreducible] def wC (c : Prop) (A : Prop) (_ : U A := U.mk) : Prop := vC c A
@[irreducible] def uI' (o : Option Ob) (P : String -> List (String × O) -> Prop) (_ : U P := U.mk) : Prop := uJ' o P
@[irreducible] def wOb (o : Option Ob) (P : List O -> Prop) (_ : U P := U.mk) : Prop := vOb o P
theorem hQ' {α : Type} (r : Res α) (Q : α -> PSt -> Prop) (X : Exc -> PSt -> Prop) (u : U (Q, X)) : wE r Q X u = vE r Q X := by unfold wE; rfl
theorem hN' (o : Out) (D : En) (u : U D) : wS o D u = vS o D := by unfold wS; rfl
theorem hP' (r : FRes) (Q : O -> W -> Prop) (X : Exc -> W -> Prop) (u : U (Q, X)) : wF r Q X u = vF r Q X := by unfold wF; rfl
theorem aq' {α : Type} (o : Option α) (Q : α -> Prop) (u : U Q) : wD o Q u = vD o Q := by unfold wD; rfl
theorem k6' (k : Bool) (A B : Prop) (u : U (A, B)) : wI k A B u = vI k A B := by unfold wI; rfl
theorem k7' (d : D) (P : Bool -> Prop) (u : U P) : wB d P u = vB d P := by unfold wB; rfl
theorem k1' (d : D) (P : Tx -> Prop) (u : U P) : wT d P u = vT d P := by unfold wT; rfl
theorem k4' (d : D) (P : Int -> Prop) (u : U P) : wN d P u = vN d P := by unfold wN; rfl
theorem hM' (o : Option (Option O)) (i : Nat) (ρ : PSt) (Q : D -> PSt -> Prop) (u : U Q) : wV o i ρ Q u = vV o i ρ Q := by unfold wV; rfl
theorem hO' (o : Option (Option O)) (i : Nat) (ρ : PSt) (Q : O -> PSt -> Prop) (u : U Q) : wG o i ρ Q u = vG o i ρ Q := by unfold wG; rfl
theorem k3' (o : Option (Option O)) (Q : O -> Prop) (u : U Q) : wO o Q u = vO o Q := by unfold wO; rfl
theorem k5' (o : Option (Option O)) (Q : List O -> Prop) (u : U Q) : wL o Q u = vL o Q := by unfold wL; rfl
theorem d1' (n : Nat) (A : Prop) (u : U A) : hK' n A u = gb' n A := by unfold hK'; rfl
theorem c9' (i n : Nat) (A : Prop) (u : U A) : qf' i n A u = ma' i n A := by unfold qf'; rfl
theorem gf' (c : Prop) (A : Prop) (u : U A) : wC c A u = vC c A := by unfold wC; rfl
theorem d0' (o : Option Ob) (P : List O -> Prop) (u : U P) : wOb o P u = vOb o P := by unfold wOb; rfl
theorem cy' (o : Option Ob) (P : String -> List (String × O) -> Prop) (u : U P) : uI' o P u = uJ' o P := by unfold uI'; rfl
local macro_rules | `(tactic| walk_at "z") => `(tactic| simp only [hQ', hN', hP', aq', k6', k7', k1', k4', hM', hO', k3', k5', d1', c9', gf', d0', cy'] at *)
section
variable {α β : Type} {Q : α -> PSt -> Prop} {X : Exc -> PSt -> Prop} {ρ : PSt} {P : D -> PSt -> Prop} {D0 : En}
theorem aV' (z : α) {Q : α -> Prop} : wD (some z) Q = Q z := by walk_at "z"; first | exact gn' .. | (apply gn' <;> assumption)
theorem vp' (k : Bool) {Q : Bool -> Prop} : wB (.bl k) Q = Q k := by walk_at "z"; first | exact lo' .. | (apply lo' <;> assumption)
theorem rY' (A B : Prop) : wI true A B = A := by walk_at "z"; first | exact pr' .. | (apply pr' <;> assumption)
theorem sp' (A B : Prop) : wI false A B = B := by walk_at "z"; first | exact pt' .. | (apply pt' <;> assumption)
theorem so' (k : Bool) (A B : Prop) : wI (!k) A B = wI k B A := by walk_at "z"; first | exact jf' .. | (apply jf' <;> assumption)
theorem x_C (d : D) : wE (eC d ρ) P X = P d ρ := by walk_at "z"; first | exact sz' .. | (apply sz' <;> assumption)
theorem x_V (i : Nat) (env : List (Option O)) (w : W) : wE (eV i ⟨env, w⟩) P X = wV env[i]? i ⟨env, w⟩ P := by walk_at "z"; first | exact sw' .. | (apply sw' <;> assumption)
theorem vh' (d : D) (i : Nat) (ρ : PSt) : wV (some (some (.fz d))) i ρ P = P d ρ := by walk_at "z"; first | exact li' .. | (apply li' <;> assumption)
theorem si' (os : List O) (i : Nat) (env : List (Option O)) (w : W) : wV (some (some (.lst os))) i ⟨env, w⟩ P = P (.lst (frzs os)) ⟨env.set i (some (.fz (.lst (frzs os)))), w⟩ := by walk_at "z"; first | exact ja' .. | (apply ja' <;> assumption)
theorem sh' (os : List O) (i : Nat) (env : List (Option O)) (w : W) : wV (some (some (.tup os))) i ⟨env, w⟩ P = P (.tup (frzs os)) ⟨env.set i (some (.fz (.tup (frzs os)))), w⟩ := by walk_at "z"; first | exact i9' .. | (apply i9' <;> assumption)
theorem sj' (ks : List D) (os : List O) (i : Nat) (env : List (Option O)) (w : W) : wV (some (some (.dct ks os))) i ⟨env, w⟩ P = P (.dct ks (frzs os)) ⟨env.set i (some (.fz (.dct ks (frzs os)))), w⟩ := by walk_at "z"; first | exact jb' .. | (apply jb' <;> assumption)
theorem vl' (d : D) (i : Nat) (ρ : PSt) {P : O -> PSt -> Prop} : wG (some (some (.fz d))) i ρ P = P (.fz d) ρ := by walk_at "z"; first | exact lk' .. | (apply lk' <;> assumption)
theorem sr' (os : List O) (i : Nat) (env : List (Option O)) (w : W) {P : O -> PSt -> Prop} : wG (some (some (.lst os))) i ⟨env, w⟩ P = P (.lst os) ⟨env.set i none, w⟩ := by walk_at "z"; first | exact ji' .. | (apply ji' <;> assumption)
theorem sq' (os : List O) (i : Nat) (env : List (Option O)) (w : W) {P : O -> PSt -> Prop} : wG (some (some (.tup os))) i ⟨env, w⟩ P = P (.tup os) ⟨env.set i none, w⟩ := by walk_at "z"; first | exact jh' .. | (apply jh' <;> assumption)
theorem su' (ks : List D) (os : List O) (i : Nat) (env : List (Option O)) (w : W) {P : O -> PSt -> Prop} : wG (some (some (.dct ks os))) i ⟨env, w⟩ P = P (.dct ks os) ⟨env.set i none, w⟩ := by walk_at "z"; first | exact jj' .. | (apply jj' <;> assumption)
theorem qh' (o : O) {P : O -> Prop} : wO (some (some o)) P = P o := by walk_at "z"; first | exact gl' .. | (apply gl' <;> assumption)
theorem sm' (os : List O) {P : List O -> Prop} : wL (some (some (.lst os))) P = P os := by walk_at "z"; first | exact je' .. | (apply je' <;> assumption)
theorem xt' (f : D -> D -> Option D) (a b : ME) : wE (eOp f a b ρ) P X = wE (a ρ) (fun x ρ1 => wE (b ρ1) (fun y ρ2 => wD (f x y) (fun z => P z ρ2)) X) X := by walk_at "z"; first | exact pn' .. | (apply pn' <;> assumption)
theorem xq' (f : D -> Option D) (a : ME) : wE (eUn f a ρ) P X = wE (a ρ) (fun x ρ1 => wD (f x) (fun z => P z ρ1)) X := by walk_at "z"; first | exact pk' .. | (apply pk' <;> assumption)
theorem vf' (a b : ME) : wE (oR' a b ρ) P X = wE (a ρ) (fun x ρ1 => wB x fun k => wI k (wE (b ρ1) P X) (P (.bl false) ρ1)) X := by walk_at "z"; first | exact lh' .. | (apply lh' <;> assumption)
theorem u7' (a : ME) : wE (tP' a ρ) P X = wE (a ρ) (fun x ρ1 => wB x fun k => P (.bl (!k)) ρ1) X := by walk_at "z"; first | exact lc' .. | (apply lc' <;> assumption)
theorem qd' (f g : D -> D -> Option D) (a b c : ME) : wE (ey' f g a b c ρ) P X = wE (a ρ) (fun x ρ1 => wE (b ρ1) (fun y ρ2 => wD (f x y) fun r => wB r fun k => wI k (wE (c ρ2) (fun z ρ3 => wD (g y z) fun v => P v ρ3) X) (P (.bl false) ρ2)) X) X := by walk_at "z"; first | exact gi' .. | (apply gi' <;> assumption)
theorem u8' {P : List D -> PSt -> Prop} : wE (bc' ρ) P X = P [] ρ := by walk_at "z"; first | exact ld' .. | (apply ld' <;> assumption)
theorem se' (a : ME) (r : MA) {P : List D -> PSt -> Prop} : wE (ae' a r ρ) P X = wE (a ρ) (fun x ρ1 => wE (r ρ1) (fun xs ρ2 => P (x :: xs) ρ2) X) X := by walk_at "z"; first | exact i7' .. | (apply i7' <;> assumption)
theorem qi' {n : Nat} (h : n <= 16777216) (A : Prop) : hK' n A = A := by walk_at "z"; first | exact gm' .. | (apply gm' <;> assumption)
theorem u5' (as : MA) : wE (kK' as ρ) P X = wE (as ρ) (fun xs ρ1 => hK' xs.length (P (.tup xs) ρ1)) X := by walk_at "z"; first | exact la' .. | (apply la' <;> assumption)
theorem u9' (as : MA) : wE (kL' as ρ) P X = wE (as ρ) (fun xs ρ1 => hK' xs.length (P (.lst xs) ρ1)) X := by walk_at "z"; first | exact le' .. | (apply le' <;> assumption)
theorem xv' (f : Tx -> List D -> Option D) (a : ME) (as : MA) : wE (eMt f a as ρ) P X = wE (a ρ) (fun x ρ1 => wT x fun s => wE (as ρ1) (fun ds ρ2 => wD (f s ds) fun z => P z ρ2) X) X := by walk_at "z"; first | exact pp' .. | (apply pp' <;> assumption)
theorem sk' (s : Tx) {P : Tx -> Prop} : wT (.str s) P = P s := by walk_at "z"; first | exact jc' .. | (apply jc' <;> assumption)
theorem sl' (s : Int) {P : Int -> Prop} : wN (.int s) P = P s := by walk_at "z"; first | exact jd' .. | (apply jd' <;> assumption)
theorem xu' {P : Option Int -> PSt -> Prop} : wE (pNo ρ) P X = P none ρ := by walk_at "z"; first | exact po' .. | (apply po' <;> assumption)
theorem xr' (a : ME) {P : Option Int -> PSt -> Prop} : wE (pSo a ρ) P X = wE (a ρ) (fun x ρ1 => wN x fun i => P (some i) ρ1) X := by walk_at "z"; first | exact pl' .. | (apply pl' <;> assumption)
theorem xs' (a : ME) (lo hi : MP) : wE (eSl a lo hi ρ) P X = wE (a ρ) (fun x ρ1 => wE (lo ρ1) (fun l ρ2 => wE (hi ρ2) (fun h ρ3 => wD (pSl x l h) fun z => P z ρ3) X) X) X := by walk_at "z"; first | exact pm' .. | (apply pm' <;> assumption)
theorem x_O (a : MO) : wE (eO a ρ) P X = wE (a ρ) (fun o ρ1 => P (frz o) ρ1) X := by walk_at "z"; first | exact sy' .. | (apply sy' <;> assumption)
variable {R : O -> PSt -> Prop}
theorem xp' (a : ME) : wE (oE a ρ) R X = wE (a ρ) (fun d ρ1 => R (.fz d) ρ1) X := by walk_at "z"; first | exact pj' .. | (apply pj' <;> assumption)
theorem xo' (i : Nat) (env : List (Option O)) (w : W) : wE (oV i ⟨env, w⟩) R X = wG env[i]? i ⟨env, w⟩ R := by walk_at "z"; first | exact pi' .. | (apply pi' <;> assumption)
theorem sf' (f : MF) (as : MA) : wE (a3' f as ρ) R X = wE (as ρ) (fun ds ρ1 => wF (f ds ρ1.w) (fun o w => R o ⟨ρ1.env, w⟩) fun x w => X x ⟨ρ1.env, w⟩) X := by walk_at "z"; first | exact i8' .. | (apply i8' <;> assumption)
theorem r8' (a : ME) : wE (mV' a ρ) R X = wE (a ρ) (fun d ρ1 => wD (asL d) fun ds => R (.lst (ds.map .fz)) ρ1) X := by walk_at "z"; first | exact i1' .. | (apply i1' <;> assumption)
theorem qb' : wE (kG' ρ) R X = R (.dct [] []) ρ := by walk_at "z"; first | exact gg' .. | (apply gg' <;> assumption)
theorem qc' (i : Nat) (a : ME) (env : List (Option O)) (w : W) : wE (g6' i a ⟨env, w⟩) P X = wL env[i]? fun _ => wE (a ⟨env, w⟩) (fun d ρ1 => wN d fun z => wL ρ1.env[i]? fun os => hK' os.length (wD (ixn os.length z) fun j => wD os[j]? fun o => wD (asF o) fun y => P y ⟨ρ1.env.set i (some (.lst (os.eraseIdx j))), ρ1.w⟩)) X := by walk_at "z"; first | exact gh' .. | (apply gh' <;> assumption)
theorem sd' (i : Nat) : wE (iq' i ρ) P X = wO ρ.env[i]? fun o => wD (nO' o) fun z => P z ρ := by walk_at "z"; first | exact i6' .. | (apply i6' <;> assumption)
theorem va' (a b : ME) : wE (gd' a b ρ) P X = wE (a ρ) (fun x ρ1 => wE (b ρ1) (fun y ρ2 => wD (ixW ρ2.w x y) fun z => P z ρ2) X) X := by walk_at "z"; first | exact lf' .. | (apply lf' <;> assumption)
theorem u6' (as : MA) : wE (tj' as ρ) R X = wE (as ρ) (fun xs ρ1 => hK' xs.length (R (.fz (.obj ρ1.w.length)) ⟨ρ1.env, ρ1.w ++ [.lst (xs.map .fz)]⟩)) X := by walk_at "z"; first | exact lb' .. | (apply lb' <;> assumption)
theorem vc' (cs : List String) (a : ME) (f : String) : wE (nt' cs a f ρ) P X = wE (a ρ) (fun x ρ1 => wD (in' cs f ρ1.w x) fun z => P z ρ1) X := by walk_at "z"; first | exact lg' .. | (apply lg' <;> assumption)
theorem sc' (C : String) (init : MF) (as : MA) : wE (if' C init as ρ) R X = wE (as ρ) (fun ds ρ1 => wF (init (.obj ρ1.w.length :: ds) (ρ1.w ++ [.ins C []])) (fun o w => o = .fz .non /\ R (.fz (.obj ρ1.w.length)) ⟨ρ1.env, w⟩) fun x w => X x ⟨ρ1.env, w⟩) X := by walk_at "z"; first | exact i5' .. | (apply i5' <;> assumption)
theorem sb' (C : List String) (m : String) (f : MF) (a : ME) (as : MA) : wE (dh' C m f a as ρ) R X = wE (a ρ) (fun x ρ1 => isIns C m ρ1.w x = true /\ wE (as ρ1) (fun ds ρ2 => wF (f (x :: ds) ρ2.w) (fun o w => R o ⟨ρ2.env, w⟩) fun x w => X x ⟨ρ2.env, w⟩) X) X := by walk_at "z"; first | exact i4' .. | (apply i4' <;> assumption)
variable {B : Bool -> PSt -> Prop}
theorem xn' (a : ME) : wE (tE a ρ) B X = wE (a ρ) (fun d ρ1 => wB d fun k => B k ρ1) X := by walk_at "z"; first | exact ph' .. | (apply ph' <;> assumption)
theorem r6' (a : MT) : wE (fa' a ρ) B X = wE (a ρ) (fun k ρ1 => B (!k) ρ1) X := by walk_at "z"; first | exact iZ' .. | (apply iZ' <;> assumption)
theorem r7' (a b : MT) : wE (pE' a b ρ) B X = wE (a ρ) (fun k ρ1 => wI k (wE (b ρ1) B X) (B false ρ1)) X := by walk_at "z"; first | exact i0' .. | (apply i0' <;> assumption)
theorem u3' (a b : MT) : wE (tOr a b ρ) B X = wE (a ρ) (fun k ρ1 => wI k (B true ρ1) (wE (b ρ1) B X)) X := by walk_at "z"; first | exact k8' .. | (apply k8' <;> assumption)
theorem xm' : wE (tT ρ) B X = B true ρ := by walk_at "z"; first | exact pg' .. | (apply pg' <;> assumption)
variable {Y : List D -> PSt -> Prop}
theorem sa' (a : ME) : wE (nl' a ρ) Y X = wE (a ρ) (fun d ρ1 => wD (cz' d) fun z => Y z ρ1) X := by walk_at "z"; first | exact i3' .. | (apply i3' <;> assumption)
theorem kZ' (a : ME) : wE (bx' a ρ) Y X = wE (a ρ) (fun d ρ1 => wD (df' d) fun z => Y z ρ1) X := by walk_at "z"; first | exact d3' .. | (apply d3' <;> assumption)
theorem r9' (a b : ME) : wE (tG' a b ρ) Y X = wE (a ρ) (fun d ρ1 => wE (b ρ1) (fun e ρ2 => wD (nJ' d e) fun z => Y z ρ2) X) X := by walk_at "z"; first | exact i2' .. | (apply i2' <;> assumption)
theorem xw' (own : List Nat) (it : MI) (g : MG) (t : MT) (e : ME) : wE (eLc own it g t e ρ) P X = wE (it ρ) (fun xs ρ1 => wE (lcL own g t e xs [] ρ1) (fun ys ρ2 => P (.lst ys) ⟨back ρ1.env own (a5' own ρ2.env), ρ2.w⟩) X) X := by walk_at "z"; first | exact pq' .. | (apply pq' <;> assumption)
theorem u4' (own : List Nat) (it : MI) (g : MG) (t : MT) (e : ME) : wE (oLc own it g t e ρ) R X = wE (it ρ) (fun xs ρ1 => wE (lcL own g t e xs [] ρ1) (fun ys ρ2 => R (.lst (ys.map .fz)) ⟨back ρ1.env own (a5' own ρ2.env), ρ2.w⟩) X) X := by walk_at "z"; first | exact k9' .. | (apply k9' <;> assumption)
variable {N : PSt -> Prop} {rt : O -> W -> Prop} {bk ct : PSt -> Prop} {ex : Exc -> PSt -> Prop}
theorem sN' : wS (ba' ρ) ⟨N, rt, bk, ct, ex⟩ = N ρ := by walk_at "z"; first | exact jm' .. | (apply jm' <;> assumption)
theorem sO' (a : ME) : wS (ms' a ρ) ⟨N, rt, bk, ct, ex⟩ = wE (a ρ) (fun _ ρ1 => N ρ1) ex := by walk_at "z"; first | exact jn' .. | (apply jn' <;> assumption)
theorem vw' (a : MO) : wS (bR' a ρ) ⟨N, rt, bk, ct, ex⟩ = wE (a ρ) (fun o ρ1 => rt o ρ1.w) ex := by walk_at "z"; first | exact lq' .. | (apply lq' <;> assumption)
theorem vv' (a b : MS) : wS (aS' a b ρ) ⟨N, rt, bk, ct, ex⟩ = wS (a ρ) ⟨fun ρ1 => wS (b ρ1) ⟨N, rt, bk, ct, ex⟩, rt, bk, ct, ex⟩ := by walk_at "z"; first | exact hS' .. | (apply hS' <;> assumption)
theorem xz' (t : MT) (a b : MS) : wS (sIf t a b ρ) ⟨N, rt, bk, ct, ex⟩ = wE (t ρ) (fun k ρ1 => wI k (wS (a ρ1) ⟨N, rt, bk, ct, ex⟩) (wS (b ρ1) ⟨N, rt, bk, ct, ex⟩)) ex := by walk_at "z"; first | exact pu' .. | (apply pu' <;> assumption)
theorem qe' {i n : Nat} (h : i < n) (A : Prop) : qf' i n A = A := by walk_at "z"; first | exact gj' .. | (apply gj' <;> assumption)
theorem vu' (i : Nat) (a : MO) : wS (bj' i a ρ) ⟨N, rt, bk, ct, ex⟩ = wE (a ρ) (fun o ρ1 => qf' i ρ1.env.length (N ⟨ρ1.env.set i (some o), ρ1.w⟩)) ex := by walk_at "z"; first | exact lp' .. | (apply lp' <;> assumption)
theorem vz' (g : MG) (a : ME) : wS (sP' g a ρ) ⟨N, rt, bk, ct, ex⟩ = wE (a ρ) (fun d ρ1 => wD (g d ρ1) N) ex := by walk_at "z"; first | exact lt' .. | (apply lt' <;> assumption)
theorem vA' (i : Nat) (a : MO) : wS (pH' i a ρ) ⟨N, rt, bk, ct, ex⟩ = wL ρ.env[i]? fun _ => wE (a ρ) (fun o ρ1 => wL ρ1.env[i]? fun os => qf' os.length 16777216 (N ⟨ρ1.env.set i (some (.lst (os ++ [o]))), ρ1.w⟩)) ex := by walk_at "z"; first | exact lu' .. | (apply lu' <;> assumption)
theorem sM' (o k a : ME) : wS (fJ' o k a ρ) ⟨N, rt, bk, ct, ex⟩ = wE (a ρ) (fun d ρ1 => wE (o ρ1) (fun x ρ2 => wE (k ρ2) (fun y ρ3 => wD (n2' ρ3.w x y d) fun w => N ⟨ρ3.env, w⟩) ex) ex) ex := by walk_at "z"; first | exact jl' .. | (apply jl' <;> assumption)
theorem n5' (w : W) (b : Ob) (n : Nat) : xx' w b (.obj n) = w.set n b := rfl
theorem vy' (cs : List String) (a : ME) (f : String) (v : MO) : wS (sFld cs a f v ρ) ⟨N, rt, bk, ct, ex⟩ = wE (v ρ) (fun o ρ1 => wE (a ρ1) (fun x ρ2 => wD (stF cs f o ρ2.w x) fun w => N ⟨ρ2.env, w⟩) ex) ex := by walk_at "z"; first | exact ls' .. | (apply ls' <;> assumption)
theorem vx' (it : MI) (g : MG) (b : MS) : wS (j1' it g b ρ) ⟨N, rt, bk, ct, ex⟩ = wE (it ρ) (fun ds ρ1 => wS (ki' g b ds ρ1) ⟨N, rt, bk, ct, ex⟩) ex := by walk_at "z"; first | exact lr' .. | (apply lr' <;> assumption)
theorem th' {k n : Nat} {b : MS} {ds : List D} {w : W} {Q : O -> W -> Prop} {X : Exc -> W -> Prop} (q : wS (b ⟨ds.map (fun d => some (.fz d)) ++ List.replicate (n - k) none, w⟩) ⟨fun ρ => Q (.fz .non) ρ.w, Q, fun _ => False, fun _ => False, fun x ρ => X x ρ.w⟩) (h : ds.length = k) : wF (fnM k n b ds w) Q X := by walk_at "z"; first | exact jo' .. | (apply jo' <;> assumption)
theorem vo' (o : O) (w : W) {Q : O -> W -> Prop} {X : Exc -> W -> Prop} : wF (.ok o w) Q X = Q o w := by walk_at "z"; first | exact ll' .. | (apply ll' <;> assumption)
theorem sv' (x : Exc) (w : W) {Q : O -> W -> Prop} {X : Exc -> W -> Prop} : wF (.exc x w) Q X = X x w := by walk_at "z"; first | exact jk' .. | (apply jk' <;> assumption)
theorem wF.mono {r : FRes} {Q Q' : O -> W -> Prop} {X : Exc -> W -> Prop} (h : wF r Q FX) (k : ∀ o w, Q o w -> Q' o w) : wF r Q' X := by walk_at "z"; first | exact vF.mono .. | (apply vF.mono <;> assumption)
theorem wF.exi {r : FRes} {Q : O -> W -> Prop} (h : wF r Q FX) : ∃ o w, r = .ok o w /\ Q o w := by walk_at "z"; first | exact vF.exi .. | (apply vF.exi <;> assumption)
theorem wF.of {r : FRes} {Q : O -> W -> Prop} {X : Exc -> W -> Prop} {o : O} {w : W} (e : r = .ok o w) (h : Q o w) : wF r Q X := by walk_at "z"; first | exact vF.of .. | (apply vF.of <;> assumption)
theorem wS.mono {o : Out} {D1 D2 : En} (h : wS o D1) (h1 : ∀ ρ, D1.nx ρ -> D2.nx ρ) (h2 : ∀ o w, D1.rt o w -> D2.rt o w) (h3 : ∀ ρ, D1.bk ρ -> D2.bk ρ) (h4 : ∀ ρ, D1.ct ρ -> D2.ct ρ) (h5 : ∀ x ρ, D1.ex x ρ -> D2.ex x ρ) : wS o D2 := by walk_at "z"; first | exact vS.mono .. | (apply vS.mono <;> assumption)
theorem wE.mono {r : Res α} {Q Q' : α -> PSt -> Prop} {X X' : Exc -> PSt -> Prop} (h : wE r Q X) (k : ∀ a ρ, Q a ρ -> Q' a ρ) (k2 : ∀ x ρ, X x ρ -> X' x ρ) : wE r Q' X' := by walk_at "z"; first | exact vE.mono .. | (apply vE.mono <;> assumption)
theorem fH' {a b : MS} (J : PSt -> Prop) (h : wS (a ρ) ⟨J, rt, bk, ct, ex⟩) (k : ∀ ρ1, J ρ1 -> wS (b ρ1) ⟨N, rt, bk, ct, ex⟩) : wS (aS' a b ρ) ⟨N, rt, bk, ct, ex⟩ := by walk_at "z"; first | exact gp' .. | (apply gp' <;> assumption)
theorem aT' {p : Prop} [Decidable p] {A B : Prop} (h1 : p -> A) (h2 : ¬ p -> B) : wI (decide p) A B := by walk_at "z"; first | exact jg' .. | (apply jg' <;> assumption)
theorem ev' {γ : Type} {g : MG} {b : MS} {f : γ -> D} {cs : List γ} (Inv : List γ -> PSt -> Prop) (h0 : Inv [] ρ)
    (step : ∀ pre c post ρ, cs = pre ++ c :: post -> Inv pre ρ -> wD (g (f c) ρ) fun ρ1 => wS (b ρ1) ⟨Inv (pre ++ [c]), rt, N, Inv (pre ++ [c]), ex⟩)
    (hend : ∀ ρ, Inv cs ρ -> N ρ) : wS (ki' g b (cs.map f) ρ) ⟨N, rt, bk, ct, ex⟩ := by walk_at "z"; first | exact d4' .. | (apply d4' <;> assumption)
theorem dk' {g : MG} {b : MS} {lo : Int} {n : Nat} (Inv : Nat -> PSt -> Prop) (h0 : Inv 0 ρ)
    (step : ∀ k ρ, k < n -> Inv k ρ -> wD (g (.int (lo + (k : Nat))) ρ) fun ρ1 => wS (b ρ1) ⟨Inv (k + 1), rt, N, Inv (k + 1), ex⟩)
    (hend : ∀ ρ, Inv n ρ -> N ρ) : wS (ki' g b (rgI lo n) ρ) ⟨N, rt, bk, ct, ex⟩ := by walk_at "z"; first | exact gq' .. | (apply gq' <;> assumption)
theorem fq' {own : List Nat} {g : MG} {t : MT} {e : ME} {γ : Type} {f : γ -> D} {cs : List γ} {Q : List D -> PSt -> Prop} (hl : cs.length <= 16777216) (Inv : List γ -> List D -> PSt -> Prop) (h0 : Inv [] [] ρ)
    (step : ∀ pre c post acc ρ, cs = pre ++ c :: post -> Inv pre acc ρ -> wD (g (f c) ⟨a5' own ρ.env, ρ.w⟩) fun ρ1 => wE (t ρ1) (fun k ρ2 => wI k (wE (e ρ2) (fun y ρ3 => Inv (pre ++ [c]) (acc ++ [y]) ρ3) PX) (Inv (pre ++ [c]) acc ρ2)) PX)
    (hend : ∀ acc ρ, Inv cs acc ρ -> Q acc ρ) : wE (lcL own g t e (cs.map f) [] ρ) Q X := by walk_at "z"; first | exact jp' .. | (apply jp' <;> assumption)
end
theorem qj' (C : String) (fs : List (String × O)) {P : String -> List (String × O) -> Prop} : uI' (some (.ins C fs)) P = P C fs := by simp only [cy']; exact lj' ..
theorem v3' (cs : List String) (f : String) (o : O) (w : W) (n : Nat) {N : W -> Prop} : wD (stF cs f o w (.obj n)) N = uI' w[n]? (fun C fs => wC (C ∈ cs /\ fs.length < 1000) (N (w.set n (.ins C (nM' f o fs))))) := by simp only [aq', cy', gf']; exact qq' ..
theorem nW' (w : W) (n : Nat) {Q : List O -> Prop} : vD (xd' w (.obj n)) Q = vOb w[n]? Q := by
  show vD (match w[n]? with | some (.lst os) => some os | _ => none) Q = _
  rcases w[n]? with _ | b
  . rfl
  cases b <;> rfl
theorem uc' (w : W) (n : Nat) {Q : List O -> Prop} : wD (xd' w (.obj n)) Q = wOb w[n]? Q := by simp only [hQ', hN', hP', aq', d0']; exact nW' w n
theorem nX' (w : W) (n : Nat) {Q : D -> Prop} : vD (xe' w (.obj n)) Q = vOb w[n]? fun os => Q (.int os.length) := by
  show vD (match w[n]? with | some (.lst os) => some (.int os.length) | _ => none) Q = _
  rcases w[n]? with _ | b
  . rfl
  cases b <;> rfl
theorem uf' (w : W) (n : Nat) {Q : D -> Prop} : wD (xe' w (.obj n)) Q = wOb w[n]? fun os => Q (.int os.length) := by simp only [hQ', hN', hP', aq', d0']; exact nX' w n
theorem qg' (os : List O) {P : List O -> Prop} : wOb (some (.lst os)) P = P os := by walk_at "z"; first | exact gk' .. | (apply gk' <;> assumption)
theorem hR' {c : Prop} (h : c) (A : Prop) : wC c A = A := by walk_at "z"; first | exact ln' .. | (apply ln' <;> assumption)
theorem ql' (A : Prop) : wC True A = A := by walk_at "z"; first | exact go' .. | (apply go' <;> assumption)
theorem dt' {α : Type} {c : Prop} [Decidable c] {x : α} {Q : α -> Prop} : wD (if c then some x else none) Q = wC c (Q x) := by walk_at "z"; first | exact aG' .. | (apply aG' <;> assumption)
theorem iY' {α β : Type} {f : α -> β} {o : Option α} {Q : β -> Prop} : wD (o.map f) Q = wD o (fun a => Q (f a)) := by walk_at "z"; first | exact bI' .. | (apply bI' <;> assumption)
section
variable {Q : D -> Prop} {Y : List D -> Prop}
theorem uu' (i j : Int) : wD (bG' (.int i) (.int j)) Q = Q (.int (i + j)) := by walk_at "z"; first | exact jS' .. | (apply jS' <;> assumption)
theorem us' (a b : Tx) : wD (bG' (.str a) (.str b)) Q = hK' (a.length + b.length) (Q (.str (a ++ b))) := by walk_at "z"; first | exact jQ' .. | (apply jQ' <;> assumption)
theorem ut' (a b : List D) : wD (bG' (.lst a) (.lst b)) Q = hK' (a.length + b.length) (Q (.lst (a ++ b))) := by walk_at "z"; first | exact jR' .. | (apply jR' <;> assumption)
theorem nw' (a b : List D) : wD (bG' (.tup a) (.tup b)) Q = hK' (a.length + b.length) (Q (.tup (a ++ b))) := by walk_at "z"; first | exact jP' .. | (apply jP' <;> assumption)
theorem rQ' (i j : Int) : wD (tc' (.int i) (.int j)) Q = Q (.int (i + j)) := by walk_at "z"; first | exact gB' .. | (apply gB' <;> assumption)
theorem v1' (i j : Int) : wD (pO' (.int i) (.int j)) Q = Q (.int (i - j)) := by walk_at "z"; first | exact lw' .. | (apply lw' <;> assumption)
theorem wg' (i j : Int) : wD (ib' (.int i) (.int j)) Q = wC (((-18446744073709551616 < i /\ i < 18446744073709551616) \/ (-18446744073709551616 < j /\ j < 18446744073709551616)) \/ ((-2582249878086908589655919172003011874329705792829223512830659356540647622016841194629645353280137831435903171972747493376 < i /\ i < 2582249878086908589655919172003011874329705792829223512830659356540647622016841194629645353280137831435903171972747493376) /\ (-2582249878086908589655919172003011874329705792829223512830659356540647622016841194629645353280137831435903171972747493376 < j /\ j < 2582249878086908589655919172003011874329705792829223512830659356540647622016841194629645353280137831435903171972747493376))) (Q (.int (i * j))) := by walk_at "z"; first | exact lH' .. | (apply lH' <;> assumption)
theorem ua' (a : Tx) (j : Int) : wD (ib' (.str a) (.int j)) Q = wC (j < 4611686018427387904 /\ -4611686018427387904 <= j /\ a.length * j.toNat <= 16777216) (Q (.str (List.replicate j.toNat a).flatten)) := by walk_at "z"; first | exact jD' .. | (apply jD' <;> assumption)
theorem ub' (a : List D) (j : Int) : wD (ib' (.lst a) (.int j)) Q = wC (j < 4611686018427387904 /\ -4611686018427387904 <= j /\ a.length * j.toNat <= 16777216) (Q (.lst (List.replicate j.toNat a).flatten)) := by walk_at "z"; first | exact jE' .. | (apply jE' <;> assumption)
theorem uq' (i j : Int) : wD (gO' (.int i) (.int j)) Q = wC (0 < j /\ j < 1606938044258990275541962092341162602522202993782792835301376) (Q (.int (i / j))) := by walk_at "z"; first | exact jO' .. | (apply jO' <;> assumption)
theorem wh' (i j : Int) : wD (gN' (.int i) (.int j)) Q = wC (0 < j) (Q (.int (i % j))) := by walk_at "z"; first | exact lI' .. | (apply lI' <;> assumption)
theorem wb' (i j : Int) : wD (tb' (.int i) (.int j)) Q = wC (0 <= j /\ j <= 1000 /\ -18446744073709551616 < i /\ i < 18446744073709551616) (Q (.int (i ^ j.toNat))) := by walk_at "z"; first | exact lD' .. | (apply lD' <;> assumption)
theorem wc' (i : Int) : wD (uR' (.int i)) Q = Q (.int (-i)) := by walk_at "z"; first | exact lE' .. | (apply lE' <;> assumption)
theorem wC' (i j : Int) : wD (pEq (.int i) (.int j)) Q = Q (.bl (decide (i = j))) := by walk_at "z"; first | exact l1' .. | (apply l1' <;> assumption)
theorem wB' (i j : Tx) : wD (pEq (.str i) (.str j)) Q = Q (.bl (decide (i = j))) := by walk_at "z"; first | exact l0' .. | (apply l0' <;> assumption)
theorem wD' (i j : Bool) : wD (pEq (.bl i) (.bl j)) Q = Q (.bl (i == j)) := by walk_at "z"; first | exact l2' .. | (apply l2' <;> assumption)
theorem xh' (x y : D) : wD (pEq x y) Q = wC (dat x = true /\ dat y = true /\ dep x <= 64 /\ dep y <= 64) (Q (.bl (eqb x y))) := by walk_at "z"; first | exact pC' .. | (apply pC' <;> assumption)
theorem we' (i j : Int) : wD (pNe (.int i) (.int j)) Q = Q (.bl (!decide (i = j))) := by walk_at "z"; first | exact lG' .. | (apply lG' <;> assumption)
theorem wd' (i j : Tx) : wD (pNe (.str i) (.str j)) Q = Q (.bl (!decide (i = j))) := by walk_at "z"; first | exact lF' .. | (apply lF' <;> assumption)
theorem wr' (x : D) : wD (pIs x .non) Q = Q (.bl (cZ' x)) := by walk_at "z"; first | exact lT' .. | (apply lT' <;> assumption)
theorem ws' (x y : Bool) : wD (pIs (.bl x) (.bl y)) Q = Q (.bl (x == y)) := by walk_at "z"; first | exact lU' .. | (apply lU' <;> assumption)
theorem o2' (x : D) : wD (cQ' x .non) Q = Q (.bl (!cZ' x)) := by walk_at "z"; first | exact e8' .. | (apply e8' <;> assumption)
theorem o3' (x y : Bool) : wD (cQ' (.bl x) (.bl y)) Q = Q (.bl (!(x == y))) := by walk_at "z"; first | exact e9' .. | (apply e9' <;> assumption)
theorem xO' (i j : Int) : wD (pLt (.int i) (.int j)) Q = Q (.bl (decide (i < j))) := by walk_at "z"; first | exact pv' .. | (apply pv' <;> assumption)
theorem xP' (i j : Int) : wD (pLe (.int i) (.int j)) Q = Q (.bl (decide (i <= j))) := by walk_at "z"; first | exact pw' .. | (apply pw' <;> assumption)
theorem xQ' (i j : Int) : wD (pGt (.int i) (.int j)) Q = Q (.bl (decide (j < i))) := by walk_at "z"; first | exact px' .. | (apply px' <;> assumption)
theorem xS' (i j : Int) : wD (pGe (.int i) (.int j)) Q = Q (.bl (decide (j <= i))) := by walk_at "z"; first | exact pz' .. | (apply pz' <;> assumption)
theorem wk' (i j : Tx) : wD (pLt (.str i) (.str j)) Q = Q (.bl (decide (i < j))) := by walk_at "z"; first | exact lL' .. | (apply lL' <;> assumption)
theorem wl' (i j : Tx) : wD (pLe (.str i) (.str j)) Q = Q (.bl (!decide (j < i))) := by walk_at "z"; first | exact lM' .. | (apply lM' <;> assumption)
theorem wv' (i j : Tx) : wD (pGt (.str i) (.str j)) Q = Q (.bl (decide (j < i))) := by walk_at "z"; first | exact lX' .. | (apply lX' <;> assumption)
theorem wx' (i j : Tx) : wD (pGe (.str i) (.str j)) Q = Q (.bl (!decide (i < j))) := by walk_at "z"; first | exact lZ' .. | (apply lZ' <;> assumption)
theorem wu' (c : Nat) (s : Tx) : wD (pIn (.str [c]) (.str s)) Q = Q (.bl (decide (c ∈ s))) := by walk_at "z"; first | exact lW' .. | (apply lW' <;> assumption)
theorem t8' (c : Nat) (s : Tx) : wD (fm' (.str [c]) (.str s)) Q = Q (.bl (!decide (c ∈ s))) := by walk_at "z"; first | exact jC' .. | (apply jC' <;> assumption)
theorem p4' (i : Int) (ns : List Int) : wD (pIn (.int i) (.tup (ns.map .int))) Q = Q (.bl (decide (i ∈ ns))) := by walk_at "z"; first | exact jL' .. | (apply jL' <;> assumption)
theorem p5' (i : Int) (ns : List Int) : wD (pIn (.int i) (.lst (ns.map .int))) Q = Q (.bl (decide (i ∈ ns))) := by walk_at "z"; first | exact jM' .. | (apply jM' <;> assumption)
theorem ug' (s : Tx) : wD (cG' (.str s)) Q = Q (.int s.length) := by walk_at "z"; first | exact jH' .. | (apply jH' <;> assumption)
theorem ui' (s : List D) : wD (cG' (.lst s)) Q = Q (.int s.length) := by walk_at "z"; first | exact jI' .. | (apply jI' <;> assumption)
theorem kn' (s : List D) : wD (cG' (.tup s)) Q = Q (.int s.length) := by walk_at "z"; first | exact jG' .. | (apply jG' <;> assumption)
theorem wn' (s : Tx) (i : Int) : wD (pIx (.str s) (.int i)) Q = wD (ati s i) (fun c => Q (.str [c])) := by walk_at "z"; first | exact lP' .. | (apply lP' <;> assumption)
theorem wq' (s : List D) (i : Int) : wD (pIx (.lst s) (.int i)) Q = wD (ati s i) Q := by walk_at "z"; first | exact lR' .. | (apply lR' <;> assumption)
theorem o1' (s : List D) (i : Int) : wD (pIx (.tup s) (.int i)) Q = wD (ati s i) Q := by walk_at "z"; first | exact lO' .. | (apply lO' <;> assumption)
theorem v4' (s : Tx) (lo hi : Option Int) : wD (pSl (.str s) lo hi) Q = Q (.str (cut s lo hi)) := by walk_at "z"; first | exact ly' .. | (apply ly' <;> assumption)
theorem v6' (s : List D) (lo hi : Option Int) : wD (pSl (.lst s) lo hi) Q = Q (.lst (cut s lo hi)) := by walk_at "z"; first | exact lA' .. | (apply lA' <;> assumption)
theorem rx' (s : List D) (lo hi : Option Int) : wD (pSl (.tup s) lo hi) Q = Q (.tup (cut s lo hi)) := by walk_at "z"; first | exact lx' .. | (apply lx' <;> assumption)
theorem v5' (s : List D) (lo hi : Option Int) : wD (pSl (.scr s) lo hi) Q = Q (.lst (cut s lo hi)) := by walk_at "z"; first | exact lz' .. | (apply lz' <;> assumption)
theorem t4' (s : Tx) : wD (uQ' (.str s)) Q = Q (.str s.reverse) := by walk_at "z"; first | exact jA' .. | (apply jA' <;> assumption)
theorem t5' (s : List D) : wD (uQ' (.lst s)) Q = Q (.lst s.reverse) := by walk_at "z"; first | exact jB' .. | (apply jB' <;> assumption)
theorem uk' (l : List Tx) : wD (eX' [] [.lst (l.map .str)]) Q = hK' (l.map List.length).sum (Q (.str l.flatten)) := by walk_at "z"; first | exact fB' .. | (apply fB' <;> assumption)
theorem rJ' (l : Tx) : wD (eX' [] [.lst (l.map chD)]) Q = hK' l.length (Q (.str l)) := by walk_at "z"; first | exact gz' .. | (apply gz' <;> assumption)
theorem up' (a b : Tx) : wD (to' a [.str b]) Q = Q (.int (fnd (r4' a b))) := by walk_at "z"; first | exact jN' .. | (apply jN' <;> assumption)
theorem rN' (a b : Tx) : wD (pS' a [.str b]) Q = wD (r4' a b) (fun i => Q (.int (i : Nat))) := by walk_at "z"; first | exact gA' .. | (apply gA' <;> assumption)
theorem rr' (s : Tx) : wD (pN' (.str s)) Q = wC (s.all (fun c => decide (c < 128)) = true /\ s.length <= 5592405) (Q (.str (s.map up1))) := by walk_at "z"; first | exact gr' .. | (apply gr' <;> assumption)
theorem wt' (i : Int) : wD (gc' (.int i)) Q = Q (.int i) := by walk_at "z"; first | exact lV' .. | (apply lV' <;> assumption)
theorem un' (b : Bool) : wD (gc' (.bl b)) Q = Q (.int (if b then 1 else 0)) := by walk_at "z"; first | exact jK' .. | (apply jK' <;> assumption)
theorem wL' (i : Int) : wD (uS' (.int i)) Q = Q (.int (if i < 0 then -i else i)) := by walk_at "z"; first | exact l9' .. | (apply l9' <;> assumption)
theorem wj' (i j : Int) : wD (mO' (.int i) (.int j)) Q = Q (.int (max i j)) := by walk_at "z"; first | exact lK' .. | (apply lK' <;> assumption)
theorem wi' (i j : Int) : wD (kF' (.int i) (.int j)) Q = Q (.int (min i j)) := by walk_at "z"; first | exact lJ' .. | (apply lJ' <;> assumption)
theorem t0' (s : List D) : wD (b3' (.lst s)) Q = Q (.tup s) := by walk_at "z"; first | exact jv' .. | (apply jv' <;> assumption)
theorem tY' (s : List D) : wD (b3' (.tup s)) Q = Q (.tup s) := by walk_at "z"; first | exact ju' .. | (apply ju' <;> assumption)
theorem rE' (s : List D) : wD (el' (.lst s)) Q = Q (.lst s) := by walk_at "z"; first | exact gw' .. | (apply gw' <;> assumption)
theorem rC' (s : List D) : wD (el' (.tup s)) Q = Q (.lst s) := by walk_at "z"; first | exact gv' .. | (apply gv' <;> assumption)
theorem ru' (s : Tx) : wD (bY' (.str s)) Q = wC (s.length < 64) (Q (.lst ((bq' s).map chD))) := by walk_at "z"; first | exact gs' .. | (apply gs' <;> assumption)
theorem aZ' (t : String) (d : D) : wD (bs' t d) Q = wD (tyn d) (fun n => Q (.bl (n == t || (n == "bool" && t == "int")))) := by walk_at "z"; first | exact lS' .. | (apply lS' <;> assumption)
theorem v0' (l : List Int) : wD (w6' (.lst (l.map .int))) Q = Q (.int l.sum) := by walk_at "z"; first | exact lv' .. | (apply lv' <;> assumption)
theorem wK' (l : List Bool) : wD (w8' (.lst (l.map .bl))) Q = Q (.bl (l.all id)) := by walk_at "z"; first | exact l8' .. | (apply l8' <;> assumption)
theorem wJ' (l : List Bool) : wD (w7' (.lst (l.map .bl))) Q = Q (.bl (l.any id)) := by walk_at "z"; first | exact l7' .. | (apply l7' <;> assumption)
theorem t3' (s : List D) : wD (cz' (.lst s)) Y = Y s := by walk_at "z"; first | exact jz' .. | (apply jz' <;> assumption)
theorem km' (s : List D) : wD (cz' (.tup s)) Y = Y s := by walk_at "z"; first | exact jx' .. | (apply jx' <;> assumption)
theorem t2' (s : Tx) : wD (cz' (.str s)) Y = Y (s.map chD) := by walk_at "z"; first | exact jy' .. | (apply jy' <;> assumption)
theorem wa' (j : Int) : wD (df' (.int j)) Y = wC (-4611686018427387904 <= j /\ j < 4611686018427387904) (Y (rgI 0 j.toNat)) := by walk_at "z"; first | exact lC' .. | (apply lC' <;> assumption)
theorem v9' (i j : Int) : wD (mN' (.int i) (.int j)) Y = wC ((-4611686018427387904 <= i /\ i < 4611686018427387904) /\ (-4611686018427387904 <= j /\ j < 4611686018427387904)) (Y (rgI i (j - i).toNat)) := by walk_at "z"; first | exact lB' .. | (apply lB' <;> assumption)
theorem tT' (a b : Tx) : wD (nJ' (.str a) (.str b)) Y = Y (cm' (a.map chD) (b.map chD)) := by walk_at "z"; first | exact jr' .. | (apply jr' <;> assumption)
theorem tW' (a b : List D) : wD (nJ' (.lst a) (.lst b)) Y = Y (cm' a b) := by walk_at "z"; first | exact jt' .. | (apply jt' <;> assumption)
theorem tS' (a b : List D) : wD (nJ' (.tup a) (.tup b)) Y = Y (cm' a b) := by walk_at "z"; first | exact jq' .. | (apply jq' <;> assumption)
theorem tV' (a : Tx) (b : List D) : wD (wW' (.str a) (.tup b)) Y = Y (cm' (a.map chD) b) := by walk_at "z"; first | exact js' .. | (apply js' <;> assumption)
theorem wE' (a : Tx) : wD (enB (.str a)) Y = Y (ip' 0 (a.map chD)) := by walk_at "z"; first | exact l3' .. | (apply l3' <;> assumption)
theorem wF' (a : List D) : wD (enB (.lst a)) Y = Y (ip' 0 a) := by walk_at "z"; first | exact l4' .. | (apply l4' <;> assumption)
theorem rA' (a : List D) : wD (uO' (.lst a)) Y = Y a.reverse := by walk_at "z"; first | exact gu' .. | (apply gu' <;> assumption)
theorem rz' (a : List D) : wD (uO' (.tup a)) Y = Y a.reverse := by walk_at "z"; first | exact gt' .. | (apply gt' <;> assumption)
theorem ud' (j : Int) : wD (cP' (.int j)) Q = wC (RgB 0 j = true) (Q (.lst (c0' 0 j))) := by walk_at "z"; first | exact jF' .. | (apply jF' <;> assumption)
theorem xU' (i : Nat) (d : D) (env : List (Option O)) (w : W) {N : PSt -> Prop} : wD (gN i d ⟨env, w⟩) N = qf' i env.length (N ⟨env.set i (some (.fz d)), w⟩) := by walk_at "z"; first | exact pB' .. | (apply pB' <;> assumption)
theorem xT' (is : List Nat) (ds : List D) (ρ : PSt) {N : PSt -> Prop} : wD (gT is (.tup ds) ρ) N = wD (gNs is ds ρ) N := by walk_at "z"; first | exact pA' .. | (apply pA' <;> assumption)
theorem ww' (ρ : PSt) {N : PSt -> Prop} : wD (gNs [] [] ρ) N = N ρ := by walk_at "z"; first | exact lY' .. | (apply lY' <;> assumption)
theorem xR' (i : Nat) (is : List Nat) (d : D) (ds : List D) (ρ : PSt) {N : PSt -> Prop} : wD (gNs (i :: is) (d :: ds) ρ) N = wD (gN i d ρ) (fun ρ1 => wD (gNs is ds ρ1) N) := by walk_at "z"; first | exact py' .. | (apply py' <;> assumption)
theorem wm' (w : W) (n : Nat) (k : D) : wD (ixW w (.obj n) k) Q = wOb w[n]? (fun os => wD (ixO (.lst os) k) Q) := by walk_at "z"; first | exact lN' .. | (apply lN' <;> assumption)
theorem wo' (os : List O) (i : Int) : wD (ixO (.lst os) (.int i)) Q = wD (ati os i) (fun o => wD (asF o) Q) := by walk_at "z"; first | exact lQ' .. | (apply lQ' <;> assumption)
theorem wI' (d : D) : wD (asF (.fz d)) Q = Q d := by walk_at "z"; first | exact l6' .. | (apply l6' <;> assumption)
theorem wH' (d : List D) {Q : List D -> Prop} : wD (asL (.lst d)) Q = Q d := by walk_at "z"; first | exact l5' .. | (apply l5' <;> assumption)
theorem ul' (d k : D) : wD (ixO (.fz d) k) Q = wD (pIx d k) Q := by walk_at "z"; first | exact jJ' .. | (apply jJ' <;> assumption)
theorem t1' (w : W) (n : Nat) (z : Int) (d : D) {N : W -> Prop} : wD (n2' w (.obj n) (.int z) d) N = wOb w[n]? (fun os => wD (ixn os.length z) (fun j => N (w.set n (.lst (os.set j (.fz d)))))) := by walk_at "z"; first | exact jw' .. | (apply jw' <;> assumption)
theorem rG' (os : List O) : wD (nO' (.lst os)) Q = Q (.int os.length) := by walk_at "z"; first | exact gx' .. | (apply gx' <;> assumption)
theorem rH' (d : D) : wD (nO' (.fz d)) Q = wD (cG' d) Q := by walk_at "z"; first | exact gy' .. | (apply gy' <;> assumption)
end
theorem iA'  {Q : D -> Prop} : wD (bs' "int" .non) Q = Q (.bl false) := by rw [aZ', aq']; rfl
theorem kO' (a : Bool) {Q : D -> Prop} : wD (bs' "int" (.bl a)) Q = Q (.bl true) := by rw [aZ', aq']; rfl
theorem iC' (a : Int) {Q : D -> Prop} : wD (bs' "int" (.int a)) Q = Q (.bl true) := by rw [aZ', aq']; rfl
theorem iz' (a : Tx) {Q : D -> Prop} : wD (bs' "int" (.str a)) Q = Q (.bl false) := by rw [aZ', aq']; rfl
theorem iy' (a : List D) {Q : D -> Prop} : wD (bs' "int" (.tup a)) Q = Q (.bl false) := by rw [aZ', aq']; rfl
theorem iB' (a : List D) {Q : D -> Prop} : wD (bs' "int" (.lst a)) Q = Q (.bl false) := by rw [aZ', aq']; rfl
theorem iD' (a b : List D) {Q : D -> Prop} : wD (bs' "int" (.dct a b)) Q = Q (.bl false) := by rw [aZ', aq']; rfl
theorem hw'  {Q : D -> Prop} : wD (bs' "bool" .non) Q = Q (.bl false) := by rw [aZ', aq']; rfl
theorem iF' (a : Bool) {Q : D -> Prop} : wD (bs' "bool" (.bl a)) Q = Q (.bl true) := by rw [aZ', aq']; rfl
theorem hz' (a : Int) {Q : D -> Prop} : wD (bs' "bool" (.int a)) Q = Q (.bl false) := by rw [aZ', aq']; rfl
theorem hv' (a : Tx) {Q : D -> Prop} : wD (bs' "bool" (.str a)) Q = Q (.bl false) := by rw [aZ', aq']; rfl
theorem hu' (a : List D) {Q : D -> Prop} : wD (bs' "bool" (.tup a)) Q = Q (.bl false) := by rw [aZ', aq']; rfl
theorem hy' (a : List D) {Q : D -> Prop} : wD (bs' "bool" (.lst a)) Q = Q (.bl false) := by rw [aZ', aq']; rfl
theorem hA' (a b : List D) {Q : D -> Prop} : wD (bs' "bool" (.dct a b)) Q = Q (.bl false) := by rw [aZ', aq']; rfl
theorem it'  {Q : D -> Prop} : wD (bs' "str" .non) Q = Q (.bl false) := by rw [aZ', aq']; rfl
theorem kN' (a : Bool) {Q : D -> Prop} : wD (bs' "str" (.bl a)) Q = Q (.bl false) := by rw [aZ', aq']; rfl
theorem iv' (a : Int) {Q : D -> Prop} : wD (bs' "str" (.int a)) Q = Q (.bl false) := by rw [aZ', aq']; rfl
theorem is' (a : Tx) {Q : D -> Prop} : wD (bs' "str" (.str a)) Q = Q (.bl true) := by rw [aZ', aq']; rfl
theorem ir' (a : List D) {Q : D -> Prop} : wD (bs' "str" (.tup a)) Q = Q (.bl false) := by rw [aZ', aq']; rfl
theorem iu' (a : List D) {Q : D -> Prop} : wD (bs' "str" (.lst a)) Q = Q (.bl false) := by rw [aZ', aq']; rfl
theorem iw' (a b : List D) {Q : D -> Prop} : wD (bs' "str" (.dct a b)) Q = Q (.bl false) := by rw [aZ', aq']; rfl
theorem f4'  {Q : D -> Prop} : wD (bs' "tuple" .non) Q = Q (.bl false) := by rw [aZ', aq']; rfl
theorem g8' (a : Bool) {Q : D -> Prop} : wD (bs' "tuple" (.bl a)) Q = Q (.bl false) := by rw [aZ', aq']; rfl
theorem f6' (a : Int) {Q : D -> Prop} : wD (bs' "tuple" (.int a)) Q = Q (.bl false) := by rw [aZ', aq']; rfl
theorem f3' (a : Tx) {Q : D -> Prop} : wD (bs' "tuple" (.str a)) Q = Q (.bl false) := by rw [aZ', aq']; rfl
theorem f1' (a : List D) {Q : D -> Prop} : wD (bs' "tuple" (.tup a)) Q = Q (.bl true) := by rw [aZ', aq']; rfl
theorem f5' (a : List D) {Q : D -> Prop} : wD (bs' "tuple" (.lst a)) Q = Q (.bl false) := by rw [aZ', aq']; rfl
theorem f7' (a b : List D) {Q : D -> Prop} : wD (bs' "tuple" (.dct a b)) Q = Q (.bl false) := by rw [aZ', aq']; rfl
theorem hf'  {Q : D -> Prop} : wD (bs' "list" .non) Q = Q (.bl false) := by rw [aZ', aq']; rfl
theorem ix' (a : Bool) {Q : D -> Prop} : wD (bs' "list" (.bl a)) Q = Q (.bl false) := by rw [aZ', aq']; rfl
theorem hi' (a : Int) {Q : D -> Prop} : wD (bs' "list" (.int a)) Q = Q (.bl false) := by rw [aZ', aq']; rfl
theorem hd' (a : Tx) {Q : D -> Prop} : wD (bs' "list" (.str a)) Q = Q (.bl false) := by rw [aZ', aq']; rfl
theorem g9' (a : List D) {Q : D -> Prop} : wD (bs' "list" (.tup a)) Q = Q (.bl false) := by rw [aZ', aq']; rfl
theorem hh' (a : List D) {Q : D -> Prop} : wD (bs' "list" (.lst a)) Q = Q (.bl true) := by rw [aZ', aq']; rfl
theorem hk' (a b : List D) {Q : D -> Prop} : wD (bs' "list" (.dct a b)) Q = Q (.bl false) := by rw [aZ', aq']; rfl
theorem hn'  {Q : D -> Prop} : wD (bs' "dict" .non) Q = Q (.bl false) := by rw [aZ', aq']; rfl
theorem iE' (a : Bool) {Q : D -> Prop} : wD (bs' "dict" (.bl a)) Q = Q (.bl false) := by rw [aZ', aq']; rfl
theorem hs' (a : Int) {Q : D -> Prop} : wD (bs' "dict" (.int a)) Q = Q (.bl false) := by rw [aZ', aq']; rfl
theorem hm' (a : Tx) {Q : D -> Prop} : wD (bs' "dict" (.str a)) Q = Q (.bl false) := by rw [aZ', aq']; rfl
theorem hl' (a : List D) {Q : D -> Prop} : wD (bs' "dict" (.tup a)) Q = Q (.bl false) := by rw [aZ', aq']; rfl
theorem hq' (a : List D) {Q : D -> Prop} : wD (bs' "dict" (.lst a)) Q = Q (.bl false) := by rw [aZ', aq']; rfl
theorem ht' (a b : List D) {Q : D -> Prop} : wD (bs' "dict" (.dct a b)) Q = Q (.bl true) := by rw [aZ', aq']; rfl
theorem ko' (l : List Int) (v : Int) {Q : D -> Prop} : wD (m2' (l.map .int) [.int v]) Q = wC (v ∈ l) (Q (.int (l.idxOf v : Nat))) := by
  show wD ((bt' (l.map .int)).bind fun ns => if v ∈ ns then some (D.int ((ns.idxOf v : Nat) : Int)) else none) Q = _
  rw [nh', Option.bind_some, dt']
theorem sn' {p : Prop} [Decidable p] (h : p) (A B : Prop) : wI (decide p) A B = A := by rw [decide_eq_true h]; exact rY' A B
theorem vk' {p : Prop} [Decidable p] (h : ¬ p) (A B : Prop) : wI (decide p) A B = B := by rw [decide_eq_false h]; exact sp' A B
theorem uX' {b : Bool} (h : b = true) : O.fz (.bl true) = O.fz (.bl b) := by rw [h]
theorem uY' {b : Bool} (h : b = false) : O.fz (.bl false) = O.fz (.bl b) := by rw [h]
theorem rV' {α β : Type} (f : α -> β) (l : List α) (i : Int) : ati (l.map f) i = (ati l i).map f := by
  unfold ati
  rw [List.length_map]
  cases ixn l.length i with
  | none => rfl
  | some j => simp
theorem be' {α : Type} {xs : List α} {i : Nat} {Q : α -> Prop} (h : i < xs.length) (k : ∀ x, x ∈ xs -> xs[i]? = some x -> Q x) : wD xs[i]? Q := by
  rw [List.getElem?_eq_getElem h, aV']
  exact k _ (List.getElem_mem h) (List.getElem?_eq_getElem h)
theorem cf' {α : Type} {l : List α} {i : Nat} {x : α} (h : l[i]? = some x) : i < l.length := (List.getElem?_eq_some_iff.mp h).1
def But (n : Nat) (w w' : W) : Prop := w'.length = w.length /\ ∀ j, j ≠ n -> w'[j]? = w[j]?
theorem But.refl {n : Nat} {w : W} : But n w w := ⟨rfl, fun _ _ => rfl⟩
theorem But.trans {n : Nat} {w w1 w2 : W} (a : But n w w1) (b : But n w1 w2) : But n w w2 := ⟨b.1.trans a.1, fun j h => (b.2 j h).trans (a.2 j h)⟩
theorem But.set {n : Nat} {w w1 : W} {o : Ob} (a : But n w w1) : But n w (w1.set n o) := ⟨by rw [List.length_set]; exact a.1, fun j h => by rw [List.getElem?_set_ne (Ne.symm h)]; exact a.2 j h⟩
theorem tn1 (d : Nat) : ((d : Int) + 1).toNat = d + 1 := rfl
theorem uD' (l : List D) (d : D) : l.map O.fz ++ [O.fz d] = (l ++ [d]).map O.fz := by simp
theorem rl' (l : List D) : frz (.lst (l.map .fz)) = .lst l := by simp [frz]
theorem qk' {k : Bool} {A B : Prop} (h1 : k = true -> A) (h2 : k = false -> B) : wI k A B := by
  cases k
  . rw [sp']; exact h2 rfl
  . rw [rY']; exact h1 rfl
theorem cw' {k : Bool} {a b : Out} {N bk ct : PSt -> Prop} {rt : O -> W -> Prop} {ex : Exc -> PSt -> Prop} (J : PSt -> Prop) (h : wI k (wS a ⟨J, rt, bk, ct, ex⟩) (wS b ⟨J, rt, bk, ct, ex⟩)) (hk : ∀ ρ, J ρ -> N ρ) : wI k (wS a ⟨N, rt, bk, ct, ex⟩) (wS b ⟨N, rt, bk, ct, ex⟩) := by
  cases k
  . rw [sp'] at *
    exact wS.mono h hk (fun _ _ h => h) (fun _ h => h) (fun _ h => h) (fun _ _ h => h)
  . rw [rY'] at *
    exact wS.mono h hk (fun _ _ h => h) (fun _ h => h) (fun _ h => h) (fun _ _ h => h)
def bH' (w : W) (n : Nat) : Prop := ∃ (cells : List Int) (i b s c : Int), w[n]? = some (.lst [.fz (.lst (cells.map .int)), .fz (.int i), .fz (.int b), .fz (.int s), .fz (.int c)]) /\ 0 <= i
theorem sg' (A : Prop) : vX (some (some .exn)) A = A := rfl
end M
namespace M
mutual
theorem kl' : ∀ (d : D), dat d = true -> eqb d d = true
  | .non, _ => rfl
  | .bl b, _ => by simp [eqb]
  | .int i, _ => by simp [eqb]
  | .str s, _ => by simp [eqb]
  | .tup ds, h => by simp only [eqb]; exact eqbs_refl ds (by simpa [dat] using h)
  | .lst ds, h => by simp only [eqb]; exact eqbs_refl ds (by simpa [dat] using h)
theorem eqbs_refl : ∀ (ds : List D), dats ds = true -> eqbs ds ds = true
  | [], _ => rfl
  | d :: r, h => by
    simp only [dats, Bool.and_eq_true] at h
    simp only [eqbs, kl' d h.1, eqbs_refl r h.2, Bool.and_self]
end
def bp' (r : List Nat) : D := .tup (r.map fun t => .int (t : Nat))
def bg' (T : List (List Nat)) : D := .tup (T.map bp')
def bm' (A : List Nat) : D := .tup (A.map fun a => .int (a : Nat))
def bl' (T : List (List Nat)) (size many : Nat) : Prop := T.length = size /\ ∀ r ∈ T, r.length = many /\ ∀ t ∈ r, t < size
abbrev abc : Tx := [97, 98, 99, 100, 101, 102, 103, 104, 105, 106, 107, 108, 109, 110, 111, 112, 113, 114, 115, 116, 117, 118, 119, 120, 121, 122]
theorem fV' {c : Nat} : c ∈ abc ↔ 97 <= c /\ c <= 122 := by
  simp only [List.mem_cons, List.not_mem_nil, or_false]
  omega
structure LetOk (L : Tx) (most : Nat) : Prop where
  ne : 1 <= L.length
  le : L.length <= most
  asc : L.Pairwise (· < ·)
  abc : ∀ c ∈ L, 97 <= c /\ c <= 122
structure AccOk (A : List Nat) (size : Nat) : Prop where
  asc : A.Pairwise (· < ·)
  lt : ∀ a ∈ A, a < size
structure MacOk (L : Tx) (T : List (List Nat)) (A : List Nat) (most states : Nat) : Prop where
  let' : LetOk L most
  tab : bl' T T.length L.length
  ne : 1 <= T.length
  le : T.length <= states
  acc : AccOk A T.length
theorem rK' (T : List (List Nat)) (s : Nat) {Q : D -> Prop} : wD (pIx (bg' T) (.int (s : Nat))) Q = wD T[s]? (fun r => Q (bp' r)) := by
  unfold bg'
  rw [o1', hF' (by omega), List.getElem?_map, iY', Int.toNat_natCast]
theorem rL' (r : List Nat) (s : Nat) {Q : D -> Prop} : wD (pIx (bp' r) (.int (s : Nat))) Q = wD r[s]? (fun t => Q (.int (t : Nat))) := by
  unfold bp'
  rw [o1', hF' (by omega), List.getElem?_map, iY', Int.toNat_natCast]
theorem nv' (A : List Nat) (s : Nat) {Q : D -> Prop} : wD (pIn (.int (s : Nat)) (bm' A)) Q = Q (.bl (decide (s ∈ A))) := by
  unfold bm'
  have := p4' (Q := Q) (s : Int) (A.map (Nat.cast : Nat -> Int))
  rw [List.map_map] at this
  rw [show (A.map fun a => D.int (a : Nat)) = A.map (D.int ∘ (Nat.cast : Nat -> Int)) from rfl, this]
  congr 2
  simp only [List.mem_map, decide_eq_decide]
  constructor
  . rintro ⟨a, h, e⟩
    have : a = s := by omega
    exact this ▸ h
  . exact fun h => ⟨s, h, rfl⟩
theorem oY' (T : List (List Nat)) {Q : D -> Prop} : wD (cG' (bg' T)) Q = Q (.int T.length) := by
  unfold bg'
  rw [kn', List.length_map]
theorem oZ' (T : List Nat) {Q : D -> Prop} : wD (cG' (bp' T)) Q = Q (.int T.length) := by
  unfold bp'
  rw [kn', List.length_map]
theorem o0' (T : List Nat) {Q : D -> Prop} : wD (cG' (bm' T)) Q = Q (.int T.length) := by
  unfold bm'
  rw [kn', List.length_map]
theorem kh' (v : Nat) : ∀ l : List Nat, (l.map (Nat.cast : Nat -> Int)).idxOf (v : Int) = l.idxOf v
  | [] => rfl
  | a :: l => by
    simp only [List.map_cons, List.idxOf_cons, kh' v l]
    have : ((a : Int) == (v : Int)) = (a == v) := by rw [Bool.eq_iff_iff]; simp; omega
    rw [this]
theorem o4' (l : List Nat) (v : Nat) {Q : D -> Prop} : wD (m2' (l.map fun s => .int (s : Nat)) [.int (v : Nat)]) Q = wC (v ∈ l) (Q (.int (l.idxOf v : Nat))) := by
  have h := ko' (Q := Q) (l.map (Nat.cast : Nat -> Int)) (v : Int)
  rw [List.map_map, kh'] at h
  rw [show (l.map fun s => D.int (s : Nat)) = l.map (D.int ∘ (Nat.cast : Nat -> Int)) from rfl, h]
  congr 1
  simp only [List.mem_map]
  rw [eq_iff_iff]
  constructor
  . rintro ⟨a, h, e⟩
    have : a = v := by omega
    exact this ▸ h
  . exact fun h => ⟨v, h, rfl⟩
theorem oL' (i : Nat) : fnd (some i) = (i : Int) := rfl
def stp (L : Tx) (T : List (List Nat)) (s c : Nat) : Nat := (((T[s]?).getD [])[L.idxOf c]?).getD 0
def run (L : Tx) (T : List (List Nat)) (s : Nat) (x : Tx) : Nat := x.foldl (stp L T) s
theorem sF' {L : Tx} {T : List (List Nat)} (h : bl' T T.length L.length) {s c : Nat} (hs : s < T.length) (hc : c ∈ L) : ∃ r, T[s]? = some r /\ r[L.idxOf c]? = some (stp L T s c) /\ stp L T s c < T.length := by
  have hr := h.2 T[s] (List.getElem_mem hs)
  have hi : L.idxOf c < T[s].length := by rw [hr.1]; exact List.idxOf_lt_length_iff.mpr hc
  have e : stp L T s c = T[s][L.idxOf c] := by
    unfold stp
    rw [List.getElem?_eq_getElem hs, Option.getD_some, List.getElem?_eq_getElem hi, Option.getD_some]
  exact ⟨T[s], List.getElem?_eq_getElem hs, by rw [e, List.getElem?_eq_getElem hi], by rw [e]; exact hr.2 _ (List.getElem_mem hi)⟩
theorem qE' {L T s} : run L T s [] = s := rfl
theorem fK' {L T s c x} : run L T s (c :: x) = run L T (stp L T s c) x := rfl
def kH' (L : Tx) (T : List (List Nat)) (A : List Nat) : Ob := .ins "Machine" [("kept_letters", .fz (.str L)), ("kept_table", .fz (bg' T)), ("kept_accepts", .fz (bm' A)), ("kept_least", .fz .non), ("kept_field", .fz .non), ("kept_lots", .dct [] []), ("kept_more", .dct [] [])]
structure Mac (w : W) (m : Nat) (L : Tx) (T : List (List Nat)) (A : List Nat) : Prop where
  fl : ∀ cs, "Machine" ∈ cs -> in' cs "kept_letters" w (.obj m) = some (.str L)
  ft : ∀ cs, "Machine" ∈ cs -> in' cs "kept_table" w (.obj m) = some (bg' T)
  fa : ∀ cs, "Machine" ∈ cs -> in' cs "kept_accepts" w (.obj m) = some (bm' A)
theorem Mac.new {w : W} {m : Nat} {L T A} (h : w[m]? = some (kH' L T A)) : Mac w m L T A := by
  refine ⟨fun cs hc => ?_, fun cs hc => ?_, fun cs hc => ?_⟩
  all_goals simp [in', h, kH', hc, List.lookup]
theorem Mac.but {w w' : W} {m n : Nat} {L T A} (h : Mac w m L T A) (hb : But n w w') (hn : m ≠ n) : Mac w' m L T A := by
  refine ⟨fun cs hc => ?_, fun cs hc => ?_, fun cs hc => ?_⟩
  . have := h.fl cs hc; simpa only [in', hb.2 m hn] using this
  . have := h.ft cs hc; simpa only [in', hb.2 m hn] using this
  . have := h.fa cs hc; simpa only [in', hb.2 m hn] using this
theorem Mac.snoc {w : W} {m : Nat} {L T A} {o : Ob} (h : Mac w m L T A) (hn : m < w.length) : Mac (w ++ [o]) m L T A := by
  have e : (w ++ [o])[m]? = w[m]? := List.getElem?_append_left hn
  refine ⟨fun cs hc => ?_, fun cs hc => ?_, fun cs hc => ?_⟩
  . have := h.fl cs hc; simpa only [in', e] using this
  . have := h.ft cs hc; simpa only [in', e] using this
  . have := h.fa cs hc; simpa only [in', e] using this
theorem bH'.snoc {w : W} {n : Nat} {o : Ob} (h : bH' w n) : bH' (w ++ [o]) n := by
  obtain ⟨c, i, b, s, k, e, hi⟩ := h
  exact ⟨c, i, b, s, k, by rw [List.getElem?_append_left (cf' e)]; exact e, hi⟩
theorem Mac.made {w : W} {L T A} : Mac (w ++ [kH' L T A]) w.length L T A := Mac.new (by rw [List.getElem?_append_right (by omega), Nat.sub_self]; rfl)
end M
namespace M
theorem wD.mono {α : Type} {o : Option α} {Q Q' : α -> Prop} (h : wD o Q) (k : ∀ a, Q a -> Q' a) : wD o Q' := by
  rw [aq'] at *
  cases o with
  | none => exact h
  | some a => exact k a h
theorem pT' {own : List Nat} {g : MG} {t : MT} {e : ME} {γ : Type} {f : γ -> D} {cs : List γ} {Q : List D -> PSt -> Prop} {X : Exc -> PSt -> Prop} {env : List (Option O)} {w : W} (p : γ -> Bool) (v : γ -> D) (hl : cs.length <= 16777216)
    (step : ∀ c ∈ cs, wD (g (f c) ⟨a5' own env, w⟩) fun ρ1 => wE (t ρ1) (fun k ρ2 => k = p c /\ ρ2.w = w /\ a5' own ρ2.env = a5' own env /\ (p c = true -> wE (e ρ2) (fun y ρ3 => y = v c /\ ρ3.w = w /\ a5' own ρ3.env = a5' own env) PX)) PX)
    (hend : ∀ env2, a5' own env2 = a5' own env -> Q ((cs.filter p).map v) ⟨env2, w⟩) : wE (lcL own g t e (cs.map f) [] ⟨env, w⟩) Q X := by
  refine fq' hl (fun pre acc ρ => acc = (pre.filter p).map v /\ ρ.w = w /\ a5' own ρ.env = a5' own env) ⟨rfl, rfl, rfl⟩ ?_ ?_
  . rintro pre c post acc ρ ec ⟨rfl, hw, he⟩
    have s := step c (by rw [ec]; simp)
    rw [he, hw]
    refine s.mono fun ρ1 s => ?_
    refine s.mono ?_ (fun _ _ z => z)
    rintro k ρ2 ⟨rfl, h1, h2, h3⟩
    cases hp : p c with
    | false =>
      rw [sp']
      exact ⟨by simp [hp], h1, h2⟩
    | true =>
      rw [rY']
      refine (h3 hp).mono ?_ (fun _ _ z => z)
      rintro y ρ3 ⟨rfl, h4, h5⟩
      exact ⟨by simp [hp], h4, h5⟩
  . rintro acc ⟨env2, w2⟩ ⟨rfl, hw, he⟩
    simp only at hw he
    subst hw
    exact hend env2 he
theorem tt' {own : List Nat} {g : MG} {t : MT} {e : ME} {γ : Type} {f : γ -> D} {cs : List γ} {Q : List D -> PSt -> Prop} {X : Exc -> PSt -> Prop} {env : List (Option O)} {w : W} (v : γ -> D) (hl : cs.length <= 16777216)
    (step : ∀ c ∈ cs, wD (g (f c) ⟨a5' own env, w⟩) fun ρ1 => wE (t ρ1) (fun k ρ2 => k = true /\ wE (e ρ2) (fun y ρ3 => y = v c /\ ρ3.w = w /\ a5' own ρ3.env = a5' own env) PX) PX)
    (hend : ∀ env2, a5' own env2 = a5' own env -> Q (cs.map v) ⟨env2, w⟩) : wE (lcL own g t e (cs.map f) [] ⟨env, w⟩) Q X := by
  refine fq' hl (fun pre acc ρ => acc = pre.map v /\ ρ.w = w /\ a5' own ρ.env = a5' own env) ⟨rfl, rfl, rfl⟩ ?_ ?_
  . rintro pre c post acc ρ ec ⟨rfl, hw, he⟩
    have s := step c (by rw [ec]; simp)
    rw [he, hw]
    refine s.mono fun ρ1 s => ?_
    refine s.mono ?_ (fun _ _ z => z)
    rintro k ρ2 ⟨rfl, h3⟩
    rw [rY']
    refine h3.mono ?_ (fun _ _ z => z)
    rintro y ρ3 ⟨rfl, h4, h5⟩
    exact ⟨by simp, h4, h5⟩
  . rintro acc ⟨env2, w2⟩ ⟨rfl, hw, he⟩
    simp only at hw he
    subst hw
    exact hend env2 he
end M
namespace M
def vV' : O -> Prop
  | .dct _ _ => True
  | _ => False
section
variable {ρ : PSt} {P : D -> PSt -> Prop} {R : O -> PSt -> Prop} {X : Exc -> PSt -> Prop} {Y : List D -> PSt -> Prop}
theorem kx' (x : Bool) (k a : ME) : vE (gV' x k a ρ) R X = vE (k ρ) (fun y ρ1 => vE (a ρ1) (fun d ρ2 => vD (fn' x y d) fun o => R o ρ2) X) X := by simp only [gV', af', bd']
theorem qn' (ps : List (String × String)) (f : MF) (a b : ME) : vE (pY' ps f a b ρ) P X = vE (a ρ) (fun x ρ1 => vE (b ρ1) (fun y ρ2 => rj' ps ρ2.w x y = true /\ vF (f [x, y] ρ2.w) (fun o w => ∃ r, o = .fz (.bl r) /\ P (.bl r) ⟨ρ2.env, w⟩) (fun _ _ => False)) X) X := by
  simp only [pY', af']
  congr
  funext x ρ1
  congr
  funext y ρ2
  by_cases h : rj' ps ρ2.w x y = true
  . rw [if_pos h]
    simp only [h, true_and]
    cases f [x, y] ρ2.w with
    | ok o w =>
      show vE (match O.fz (.bl true) with | _ => _) P X = _
      cases o with
      | fz d => cases d <;> simp [vE, vF]
      | _ => simp [vE, vF]
    | exc x w => rfl
    | bad => rfl
  . rw [if_neg h]
    simp [vE, h]
theorem qm' (t : ET) (c : String) (a : ME) : vE (tQ' t c a ρ) P X = vE (a ρ) (fun x ρ1 => vD (isC t c ρ1.w x) fun b => P (.bl b) ρ1) X := by simp only [tQ', af', bd', bI']
variable {N : PSt -> Prop} {rt : O -> W -> Prop} {bk ct : PSt -> Prop} {ex : Exc -> PSt -> Prop}
theorem nT' (x : Bool) (k a : ME) : wE (gV' x k a ρ) R X = wE (k ρ) (fun y ρ1 => wE (a ρ1) (fun d ρ2 => wD (fn' x y d) fun o => R o ρ2) X) X := by simp only [hQ', hN', hP', aq', k6', k7', k1', k4', hM', hO', k3', k5', d1', c9', gf', d0', cy']; exact kx' ..
theorem vd' (ps : List (String × String)) (f : MF) (a b : ME) : wE (pY' ps f a b ρ) P X = wE (a ρ) (fun x ρ1 => wE (b ρ1) (fun y ρ2 => rj' ps ρ2.w x y = true /\ wF (f [x, y] ρ2.w) (fun o w => ∃ r, o = .fz (.bl r) /\ P (.bl r) ⟨ρ2.env, w⟩) (fun _ _ => False)) X) X := by simp only [hQ', hN', hP', aq', k6', k7', k1', k4', hM', hO', k3', k5', d1', c9', gf', d0', cy']; exact qn' ..
theorem vb' (t : ET) (c : String) (a : ME) : wE (tQ' t c a ρ) P X = wE (a ρ) (fun x ρ1 => wD (isC t c ρ1.w x) fun b => P (.bl b) ρ1) X := by simp only [hQ', hN', hP', aq', k6', k7', k1', k4', hM', hO', k3', k5', d1', c9', gf', d0', cy']; exact qm' ..
theorem qo' (ps : List (String × String)) (f : MF) (a b : ME) : vE (pZ' ps f a b ρ) P X = vE (a ρ) (fun x ρ1 => vE (b ρ1) (fun y ρ2 => rk' ps ρ2.w x y = true /\ vF (f [x, y] ρ2.w) (fun o w => ∃ r, o = .fz (.bl r) /\ P (.bl r) ⟨ρ2.env, w⟩) (fun _ _ => False)) X) X := by
  simp only [pZ', af']
  congr
  funext x ρ1
  congr
  funext y ρ2
  by_cases h : rk' ps ρ2.w x y = true
  . rw [if_pos h]
    simp only [h, true_and]
    cases f [x, y] ρ2.w with
    | ok o w =>
      show vE (match O.fz (.bl true) with | _ => _) P X = _
      cases o with
      | fz d => cases d <;> simp [vE, vF]
      | _ => simp [vE, vF]
    | exc x w => rfl
    | bad => rfl
  . rw [if_neg h]
    simp [vE, h]
theorem ve' (ps : List (String × String)) (f : MF) (a b : ME) : wE (pZ' ps f a b ρ) P X = wE (a ρ) (fun x ρ1 => wE (b ρ1) (fun y ρ2 => rk' ps ρ2.w x y = true /\ wF (f [x, y] ρ2.w) (fun o w => ∃ r, o = .fz (.bl r) /\ P (.bl r) ⟨ρ2.env, w⟩) (fun _ _ => False)) X) X := by simp only [hQ', hN', hP', aq', k6', k7', k1', k4', hM', hO', k3', k5', d1', c9', gf', d0', cy']; exact qo' ..
theorem rq' (a : Tx) (b : List D) {Y : List D -> Prop} : wD (xl' (.str a) (.lst b)) Y = Y (cm' (a.map chD) b) := by rw [aq']; rfl
end
theorem f0' {γ δ α : Type} [DecidableEq γ] (e : γ -> D) (he : ∀ a b, eqb (e a) (e b) = decide (a = b)) (v : δ -> α) (k : γ) : ∀ l : List (γ × δ), dget (l.map fun p => e p.1) (l.map fun p => v p.2) (e k) = (l.lookup k).map v
  | [] => rfl
  | (a, b) :: l => by
    have ih := f0' e he v k l
    unfold dget r2' at *
    rw [List.map_cons, List.map_cons, List.findIdx?_cons, he, List.lookup_cons]
    by_cases h : a = k
    . subst h; simp
    . have h2 : (k == a) = false := by simp; exact fun e => h e.symm
      rw [decide_eq_false h, h2]
      simp only [Bool.false_eq_true, if_false]
      rw [<- ih]
      cases List.findIdx? (fun d => eqb d (e k)) (l.map fun p => e p.1) <;> simp
theorem ke' {γ δ : Type} [DecidableEq γ] (e : γ -> D) (he : ∀ a b, eqb (e a) (e b) = decide (a = b)) (k : γ) : ∀ l : List (γ × δ), l.lookup k = none -> r2' (l.map fun p => e p.1) (e k) = none
  | [], _ => rfl
  | (a, b) :: l, h => by
    rw [List.lookup_cons] at h
    by_cases hk : a = k
    . subst hk; simp at h
    . have h2 : (k == a) = false := by simp; exact fun e => hk e.symm
      rw [h2] at h
      have ih := ke' e he k l h
      unfold r2' at *
      rw [List.map_cons, List.findIdx?_cons, he, decide_eq_false hk]
      simp only [Bool.false_eq_true, if_false, ih, Option.map_none]
theorem fZ' (a b : Nat) : eqb (.int (a : Nat)) (.int (b : Nat)) = decide (a = b) := by
  simp only [eqb]
  rw [Bool.eq_iff_iff]
  simp
  try omega
def dN (l : List (Nat × D)) : O := .dct (l.map fun p => .int (p.1 : Nat)) (l.map fun p => .fz p.2)
def dNz (l : List (Nat × D)) : D := .dct (l.map fun p => .int (p.1 : Nat)) (l.map fun p => p.2)
def dX {γ : Type} (e : γ -> D) (l : List (γ × D)) : O := .dcx (l.map fun p => e p.1) (l.map fun p => .fz p.2)
structure KeyE {γ : Type} [DecidableEq γ] (e : γ -> D) : Prop where
  eq : ∀ a b, eqb (e a) (e b) = decide (a = b)
  kat : ∀ a, kat (e a) = true
  dep : ∀ a, dep (e a) <= 8
  sca : ∀ a b, sca (e a) = sca (e b)
theorem pV' (l : List (Nat × D)) : frz (dN l) = dNz l := by
  unfold dN dNz
  simp only [frz, np', List.map_map]
  rfl
theorem vj' (l : List (Nat × D)) (i : Nat) (env : List (Option O)) (w : W) {P : D -> PSt -> Prop} : wV (some (some (dN l))) i ⟨env, w⟩ P = P (dNz l) ⟨env.set i (some (.fz (dNz l))), w⟩ := by
  rw [hM']
  show vV (some (some (O.dct _ _))) _ _ _ = _
  rw [<- pV']; rfl
theorem vn' (l : List (Nat × D)) (i : Nat) (env : List (Option O)) (w : W) {P : O -> PSt -> Prop} : wG (some (some (dN l))) i ⟨env, w⟩ P = P (dN l) ⟨env.set i none, w⟩ := by
  rw [hO']; rfl
theorem m3' (l : List (Nat × D)) (k : Nat) : kI' (dN l) (.int (k : Nat)) = some ((l.lookup k).map .fz) := by
  show (if isK (.int (k : Nat)) = true then some (dget _ _ _) else none) = _
  rw [if_pos (show isK (.int (k : Nat)) = true from rfl), f0' (fun n : Nat => D.int (n : Nat)) fZ' O.fz k l]
theorem kc' (l : List (Nat × D)) (k : Nat) : kI' (.fz (dNz l)) (.int (k : Nat)) = some ((l.lookup k).map .fz) := by
  show (if isK (.int (k : Nat)) = true then some (dget _ (List.map O.fz (l.map fun p => p.2)) _) else none) = _
  rw [if_pos (show isK (.int (k : Nat)) = true from rfl), List.map_map]
  exact congrArg some (f0' (fun n : Nat => D.int (n : Nat)) fZ' O.fz k l)
section
variable {Q : Option O -> Prop} {P : D -> Prop} {N : O -> Prop} {Y : List D -> Prop}
theorem rB' (l : List (Nat × D)) (k : Nat) : wD (kI' (dN l) (.int (k : Nat))) Q = Q ((l.lookup k).map .fz) := by rw [m3', aV']
theorem oX' (l : List (Nat × D)) (k : Nat) : wD (kI' (.fz (dNz l)) (.int (k : Nat))) Q = Q ((l.lookup k).map .fz) := by rw [kc', aV']
theorem ks' (o : Option D) : uZ' (some (o.map .fz)) = o := by cases o <;> rfl
theorem rW' (d : D) : uZ' (some (some (.fz d))) = some d := rfl
theorem wp' (l : List (Nat × D)) (k : Nat) : wD (uZ' (kI' (dN l) (.int (k : Nat)))) P = wD (l.lookup k) P := by rw [m3', ks']
theorem um' (l : List (Nat × D)) (k : Nat) : wD (uZ' (kI' (.fz (dNz l)) (.int (k : Nat)))) P = wD (l.lookup k) P := by rw [kc', ks']
theorem t6' {l : List (Nat × D)} {k : Nat} (h : l.lookup k = none) (hl : l.length < 16777216) (d : D) : wD (vE' (dN l) (.int (k : Nat)) (.fz d)) N = N (dN (l ++ [(k, d)])) := by
  show wD (if isK (.int (k : Nat)) = true then (s8' _ _ _ _).map (fun p => O.dct p.1 p.2) else none) N = _
  rw [if_pos (show isK (.int (k : Nat)) = true from rfl), iY']
  unfold s8'
  rw [ke' (fun n : Nat => D.int (n : Nat)) fZ' k l h]
  simp only
  rw [if_pos (by rw [List.length_map]; exact hl), aV']
  unfold dN
  simp
theorem uh' (l : List (Nat × D)) : wD (nO' (dN l)) P = P (.int l.length) := by
  show wD (some (D.int _)) P = _
  rw [aV', List.length_map]
theorem ue' {γ : Type} (e : γ -> D) (l : List (γ × D)) : wD (nO' (dX e l)) P = P (.int l.length) := by
  show wD (some (D.int _)) P = _
  rw [aV', List.length_map]
theorem rI' (l : List (Nat × D)) : wD (cG' (dNz l)) P = P (.int l.length) := by
  show wD (some (D.int _)) P = _
  rw [aV', List.length_map]
theorem oH' (l : List (Nat × D)) : vV' (dN l) = True := rfl
theorem ge' {γ : Type} (f g : γ -> D) : ∀ l : List γ, cm' (l.map f) (l.map g) = l.map fun p => .tup [f p, g p]
  | [] => rfl
  | a :: l => by
    simp only [List.map_cons, cm', ge' f g l]
theorem rM' (l : List (Nat × D)) : wD (uv' (dNz l)) Y = Y (l.map fun p => .tup [.int (p.1 : Nat), p.2]) := by
  show wD (some (cm' _ _)) Y = _
  rw [aV', ge']
theorem tX' (l : List (Nat × D)) : wD (wM' (dNz l)) Y = Y (l.map fun p => p.2) := by
  show wD (some _) Y = _
  rw [aV']
theorem uj' (l : List (Nat × D)) : wD (wN' (dNz l)) Y = Y (l.map fun p => .int (p.1 : Nat)) := by
  show wD (some _) Y = _
  rw [aV']
theorem o5' (k : Int) (d : D) : wD (fn' false (.int k) d) N = N (.dct [.int k] [.fz d]) := by
  show wD (some (O.dct [.int k] [.fz d])) N = _
  rw [aV']
theorem p3' (d : D) : wD (or' d) P = wC (rZ' d = true /\ dep d <= 40 /\ oh' d = true /\ mx' d <= 200000) (P (.rep d)) := dt'
theorem wf' (i j : Bool) : wD (pNe (.bl i) (.bl j)) P = P (.bl (!(i == j))) := by
  rw [show pNe (.bl i) (.bl j) = some (.bl (!(i == j))) from rfl, aV']
theorem ur' (a b : D) : wD (qO' (.rep a) (.rep b)) P = wC (same a b = true) (P (.bl true)) := dt'
end
mutual
theorem ed' : ∀ (d : D), dat d = true -> same d d = true
  | .non, _ => rfl
  | .bl b, _ => by simp [same]
  | .int i, _ => by simp [same]
  | .str s, _ => by simp [same]
  | .tup ds, h => by simp only [same]; exact sames_refl ds (by simpa [dat] using h)
  | .lst ds, h => by simp only [same]; exact sames_refl ds (by simpa [dat] using h)
theorem sames_refl : ∀ (ds : List D), dats ds = true -> sames ds ds = true
  | [], _ => rfl
  | d :: r, h => by
    simp only [dats, Bool.and_eq_true] at h
    simp only [sames, ed' d h.1, sames_refl r h.2, Bool.and_self]
end
section
variable {Q : D -> Prop} {Y : List D -> Prop}
theorem oV' (r : List Nat) : wD (cz' (bp' r)) Y = Y (r.map fun t => .int (t : Nat)) := by unfold bp'; rw [km']
theorem oW' (r : List Nat) : wD (cz' (bm' r)) Y = Y (r.map fun t => .int (t : Nat)) := by unfold bm'; rw [km']
theorem oU' (T : List (List Nat)) : wD (cz' (bg' T)) Y = Y (T.map bp') := by unfold bg'; rw [km']
end
theorem rf' : cZ' .non = true := rfl
theorem rd' (n : Nat) : cZ' (.obj n) = false := rfl
theorem rh' (n : Int) : cZ' (.int n) = false := rfl
theorem rc' (n : Tx) : cZ' (.str n) = false := rfl
theorem tC' (n : Bool) : cZ' (.bl n) = false := rfl
theorem rb' (n : List D) : cZ' (.tup n) = false := rfl
theorem rg' (n : List D) : cZ' (.lst n) = false := rfl
section
variable {Q : D -> Prop}
theorem rD' (s : Tx) : wD (el' (.str s)) Q = Q (.lst (s.map chD)) := by
  show wD (some _) Q = _
  rw [aV']
end
theorem t9' (F : List Nat) (t : Nat) {P : D -> Prop} : wD (tl' (inO (.int (t : Nat)) (.lst (F.map fun s => .fz (.int (s : Nat)))))) P = P (.bl (!decide (t ∈ F))) := by
  have e1 : (F.map fun s => O.fz (.int (s : Nat))).all (fun o => match o with | .fz _ => true | _ => false) = true := by induction F <;> simp_all
  have e2 : (F.map fun s => O.fz (.int (s : Nat))).map frz = F.map fun s => .int (s : Nat) := by rw [List.map_map]; rfl
  have h := p5' (Q := fun d => wD (tl' (some d)) P) (t : Int) (F.map (Nat.cast : Nat -> Int))
  rw [List.map_map] at h
  show wD (tl' (if (F.map fun s => O.fz (.int (s : Nat))).all (fun o => match o with | .fz _ => true | _ => false) = true then pIn (.int (t : Nat)) (.lst ((F.map fun s => O.fz (.int (s : Nat))).map frz)) else none)) P = _
  rw [if_pos e1, e2]
  have e3 : ∀ o : Option D, wD (tl' o) P = wD o (fun d => wD (tl' (some d)) P) := fun o => by cases o with
    | none => rw [aq', aq']; rfl
    | some d => rw [aV']
  rw [e3]
  refine h.trans ?_
  show wD (some (D.bl (!decide _))) P = _
  rw [aV']
  congr 3
  rw [decide_eq_decide]
  constructor
  . intro hm
    obtain ⟨a, h1, h2⟩ := List.mem_map.mp hm
    have h2 : (a : Int) = (t : Int) := h2
    have : a = t := by omega
    exact this ▸ h1
  . exact fun hm => List.mem_map.mpr ⟨t, hm, rfl⟩
def nf' (o : Option (Option O)) : Option O := match o with
  | some (some (.fz d)) => some (.fz d)
  | _ => none
theorem pc' (env env' : List (Option O)) : back env [] env' = env' := rfl
theorem nF' (env env' : List (Option O)) (i : Nat) (is : List Nat) : back env (i :: is) env' = (back env is env').set i (nf' env[i]?) := by
  show (back env is env').set i _ = _
  congr 1
theorem kJ' : nf' (some none) = none := rfl
theorem oD' (d : D) : nf' (some (some (.fz d))) = some (.fz d) := rfl
theorem ne' (os : List O) : nf' (some (some (.lst os))) = none := rfl
section
variable {Q : D -> Prop}
theorem rs' (a : Tx) (c : Nat) : wD (tn' a [.str [c]]) Q = wC (c < 128 /\ a.length + 2 <= 16777216) (Q (.lst ((uK' c a).map .str))) := dt'
theorem v2' (i : Int) : wD (xD' (.int i)) Q = wC (0 <= i /\ i < 1000000000000000000000000000000000000000000000000000000000000) (Q (.str (xg' i.toNat))) := dt'
end
end M
namespace M
theorem wG' (c : Nat) (s : Tx) {P : D -> Prop} : wD (xG' c (.str s)) P = wC (s.length <= 1000000) (P (.str (s.filter fun d => decide (d ≠ c)))) := dt'
end M
namespace M
theorem tU' (a b : List D) {Y : List D -> Prop} : wD (xk' (.tup a) (.tup b)) Y = Y (cm' a b) := by rw [aq']; rfl
theorem wA' (os : List O) (ds : List D) {N : O -> Prop} : wD (xM' (.lst os) (.lst ds)) N = wC (os.length + ds.length <= 16777216) (N (.lst (os ++ ds.map .fz))) := dt'
def vU' : O -> Prop
  | .dcx _ _ => True
  | _ => False
theorem oG' {γ : Type} (e : γ -> D) (l : List (γ × D)) : vU' (dX e l) := True.intro
theorem vY' (os : List O) {N : List O -> Prop} : wD (unO (.tup os)) N = N os := by rw [aq']; rfl
theorem vZ' (ds : List D) {N : List O -> Prop} : wD (unO (.fz (.tup ds))) N = N (ds.map .fz) := by rw [aq']; rfl
theorem rP' {ρ : PSt} {N : PSt -> Prop} : wD (r3' [] [] ρ) N = N ρ := by rw [aq']; rfl
theorem rO' (i : Nat) (is : List Nat) (o : O) (os : List O) {env : List (Option O)} {w : W} {N : PSt -> Prop} : wD (r3' (i :: is) (o :: os) ⟨env, w⟩) N = qf' i env.length (wD (r3' is os ⟨env.set i (some o), w⟩) N) := by
  rw [aq', aq', c9']
  by_cases h : i < env.length
  . simp [r3', ma', h]
  . simp [r3', ma', vD, h]
theorem pb' (m : List Bool) : nP' m [] = [] := by cases m <;> rfl
theorem uz' (x : Option O) (r : List (Option O)) : nP' [] (x :: r) = none :: nP' [] r := rfl
theorem uB' (m : List Bool) (x : Option O) (r : List (Option O)) : nP' (false :: m) (x :: r) = none :: nP' m r := rfl
theorem uA' (m : List Bool) (o : O) (r : List (Option O)) : nP' (true :: m) (some o :: r) = some (.fz (frz o)) :: nP' m r := rfl
theorem qS' (r : List (Option O)) : okM [] r = true := by cases r <;> rfl
theorem vK' (m : List Bool) (x : Option O) (r : List (Option O)) : okM (false :: m) (x :: r) = okM m r := rfl
theorem vJ' (m : List Bool) (o : O) (r : List (Option O)) : okM (true :: m) (some o :: r) = (okO o && okM m r) := rfl
theorem tf' (d : D) : okO (.fz d) = dat d := rfl
theorem qR' (os : List O) : okO (.lst os) = okOs os := rfl
theorem mR' : ∀ ds : List D, okOs (ds.map .fz) = dats ds
  | [] => rfl
  | d :: r => by show (dat d && okOs (r.map .fz)) = (dat d && dats r); rw [mR' r]
theorem tJ' (d : D) : frz (.fz d) = d := rfl
theorem qB' (b : Bool) : uM' (.bl b) = true := rfl
theorem oc' (b : Int) : uM' (.int b) = true := rfl
theorem n9' (b : Tx) : uM' (.str b) = true := rfl
theorem oa' : uM' .non = true := rfl
end M
namespace M
theorem gC' : ∀ l : List Tx, cv' (l.map D.str) = some l
  | [] => rfl
  | a :: l => by show (cv' (l.map D.str)).map (a :: ·) = _; rw [gC' l]; rfl
theorem rt' (l : List Tx) {P : D -> Prop} : wD (oq' (.lst (l.map .str))) P = wC (l.length < 64) (P (.lst ((sH' l).map .str))) := by
  show wD ((cv' (l.map D.str)).bind _) P = _
  rw [gC', Option.bind_some]
  exact dt'
theorem tZ' (s : Tx) {P : D -> Prop} : wD (b3' (.str s)) P = P (.tup (s.map chD)) := by
  show wD (some _) P = _
  rw [aV']
theorem vm' {α : Type} (e : α -> D) (l : List (α × D)) (i : Nat) (env : List (Option O)) (w : W) {P : O -> PSt -> Prop} : wG (some (some (dX e l))) i ⟨env, w⟩ P = P (dX e l) ⟨env.set i none, w⟩ := by
  simp only [hO']; rfl
end M
namespace M
theorem ij' (l : List Nat) : bt' (l.map fun n => D.int (n : Nat)) = some (l.map fun n : Nat => (n : Int)) := by
  induction l with
  | nil => rfl
  | cons a l ih => show (bt' (l.map fun n => D.int (n : Nat))).map _ = _; rw [ih]; rfl
def dXz {γ : Type} (e : γ -> D) (l : List (γ × D)) : D := .dcx (l.map fun p => e p.1) (l.map fun p => p.2)
theorem tK' {γ : Type} (e : γ -> D) (l : List (γ × D)) : frz (dX e l) = dXz e l := by
  unfold dX dXz
  simp only [frz, np', List.map_map]
  rfl
theorem vi' {γ : Type} (e : γ -> D) (l : List (γ × D)) (i : Nat) (env : List (Option O)) (w : W) {P : D -> PSt -> Prop} : wV (some (some (dX e l))) i ⟨env, w⟩ P = P (dXz e l) ⟨env.set i (some (.fz (dXz e l))), w⟩ := by
  rw [hM']
  show vV (some (some (O.dcx _ _))) _ _ _ = _
  rw [<- tK']; rfl
theorem rF' {γ : Type} (e : γ -> D) (l : List (γ × D)) {P : D -> Prop} : wD (nO' (.fz (dXz e l))) P = P (.int l.length) := by
  show wD (some (D.int _)) P = _
  rw [aV', List.length_map]
end M
namespace M
end M
namespace M
theorem fl' : ∀ (es : List (Nat × Tx)), ek' (es.map fun p => .int (p.1 : Nat)) (es.map fun p => .fz (.str p.2)) = some es
  | [] => rfl
  | p :: es => by
    show (if (0 : Int) <= (p.1 : Nat) then (ek' (es.map fun p => .int (p.1 : Nat)) (es.map fun p => .fz (.str p.2))).map ((((p.1 : Nat) : Int).toNat, p.2) :: ·) else none) = _
    rw [if_pos (Int.natCast_nonneg _), fl' es]
    rfl
theorem oT' (es : List (Nat × Tx)) {P : D -> Prop} : wD (pG' (.dct (es.map fun p => .int (p.1 : Nat)) (es.map fun p => .fz (.str p.2)))) P = P (.lst ((es.mergeSort vF').map fun p => .tup [.int (p.1 : Nat), .str p.2])) := by
  have e : pG' (.dct (es.map fun p => .int (p.1 : Nat)) (es.map fun p => .fz (.str p.2))) = some (.lst ((es.mergeSort vF').map fun p => .tup [.int (p.1 : Nat), .str p.2])) := by
    show (ek' _ _).map _ = _
    rw [fl']
    rfl
  rw [e, aq']
  rfl
end M
namespace M
theorem qT' (kl kd : Bool) (r : List (Option O)) : okL kl kd [] r = true := by cases r <;> rfl
theorem vM' (kl kd : Bool) (m : List Bool) (x : Option O) (r : List (Option O)) : okL kl kd (false :: m) (x :: r) = okL kl kd m r := rfl
theorem vL' (kl kd : Bool) (m : List Bool) (o : O) (r : List (Option O)) : okL kl kd (true :: m) (some o :: r) = (lendO kl kd o && okL kl kd m r) := rfl
theorem o9' (r : List (Option O)) : rR' [] r = 0 := by cases r <;> rfl
theorem uy' (m : List Bool) (x : Option O) (r : List (Option O)) : rR' (false :: m) (x :: r) = rR' m r := rfl
theorem ux' (m : List Bool) (o : O) (r : List (Option O)) : rR' (true :: m) (some o :: r) = uT' o + rR' m r := rfl
theorem oB' (kl kd : Bool) (d : D) : lendO kl kd (.fz d) = true := rfl
theorem qP' (d : D) : uT' (.fz d) = 0 := rfl
theorem m6' (kd : Bool) (ds : List D) : lendO true kd (.lst (ds.map .fz)) = true := by
  show (true && (ds.map O.fz).all ri') = true
  simp [ri']
theorem ox' (kl kd : Bool) (n : Nat) : xa' kl kd (.fz (.obj n)) = true := rfl
def vG' : D -> Option (D × D)
  | .tup [x, y] => some (x, y)
  | _ => none
theorem t7' (x y : D) {P : D × D -> Prop} : wD (vG' (.tup [x, y])) P = P (x, y) := by rw [aq']; rfl
theorem v8' (i j : Int) {Q : D -> Prop} : wD (xF' (.int i) (.int j)) Q = wC (0 <= j /\ j <= 1000 /\ -18446744073709551616 < i /\ i < 18446744073709551616) (Q (.int (i * 2 ^ j.toNat))) := by
  rw [aq', gf']
  show vD (if 0 <= j /\ j <= 1000 /\ small64 i = true then _ else _) Q = _
  rw [aG']
  congr 1
  simp [small64]
theorem v7' (i j : Int) {Q : D -> Prop} : wD (xE' (.int i) (.int j)) Q = wC (0 <= j) (Q (.int (i / 2 ^ j.toNat))) := by
  rw [aq', gf']
  exact aG'
theorem xV' (is : List Nat) (ds : List D) (ρ : PSt) {N : PSt -> Prop} : wD (gL is (.lst ds) ρ) N = wD (gNs is ds ρ) N := rfl
theorem wy' (gs : List MG) (ds : List D) (ρ : PSt) {N : PSt -> Prop} : wD (gTg gs (.tup ds) ρ) N = wD (gSq gs ds ρ) N := rfl
theorem uo' (ρ : PSt) {N : PSt -> Prop} : wD (gSq [] [] ρ) N = N ρ := by rw [aq']; rfl
theorem wz' (g : MG) (gs : List MG) (d : D) (ds : List D) (ρ : PSt) {N : PSt -> Prop} : wD (gSq (g :: gs) (d :: ds) ρ) N = wD (g d ρ) (fun ρ1 => wD (gSq gs ds ρ1) N) := by
  simp only [aq']
  show vD ((g d ρ).bind (gSq gs ds)) N = _
  cases g d ρ <;> rfl
end M
namespace M
section
variable {α : Type} {env : List (Option O)} {w : W} {ρ : PSt} {X : Exc -> PSt -> Prop}
end
end M
namespace M
section
variable {α β : Type} [DecidableEq α] [DecidableEq β]
def ins (F : List α) (x : α) : List α := if x ∈ F then F else F ++ [x]
def cx' (F xs : List α) : List α := xs.foldl ins F
def bv' (xs : List α) : List α := cx' [] xs
theorem eu' {F : List α} {x : α} (h : x ∈ F) : ins F x = F := if_pos h
theorem et' {F : List α} {x : α} (h : x ∉ F) : ins F x = F ++ [x] := if_neg h
theorem m0' {F : List α} {x y : α} : y ∈ ins F x ↔ y ∈ F \/ y = x := by
  unfold ins
  split
  . rename_i h
    exact ⟨.inl, fun q => q.elim id fun e => e ▸ h⟩
  . simp
theorem bT' {F : List α} {x : α} {xs : List α} : cx' F (x :: xs) = cx' (ins F x) xs := rfl
theorem il' {F xs ys : List α} : cx' F (xs ++ ys) = cx' (cx' F xs) ys := List.foldl_append ..
theorem ni' {F xs : List α} {x : α} : cx' F (xs ++ [x]) = ins (cx' F xs) x := by rw [il']; rfl
theorem cr' {y : α} : ∀ {xs F : List α}, y ∈ cx' F xs ↔ y ∈ F \/ y ∈ xs
  | [], F => by simp [cx']
  | x :: xs, F => by
    rw [bT', cr', m0', List.mem_cons]
    constructor
    . rintro ((h | h) | h)
      . exact .inl h
      . exact .inr (.inl h)
      . exact .inr (.inr h)
    . rintro (h | h | h)
      . exact .inl (.inl h)
      . exact .inl (.inr h)
      . exact .inr h
theorem bA' {xs : List α} {y : α} : y ∈ bv' xs ↔ y ∈ xs := by rw [bv', cr']; simp
theorem qI' {F : List α} {x : α} : F <+: ins F x := by
  unfold ins
  split
  . exact List.prefix_refl _
  . exact List.prefix_append ..
theorem fM' : ∀ {xs F : List α}, F <+: cx' F xs
  | [], F => List.prefix_refl _
  | x :: xs, F => qI'.trans fM'
theorem tm' {F : List α} {x : α} (h : F.Nodup) : (ins F x).Nodup := by
  unfold ins
  split
  . exact h
  . rename_i q
    rw [List.nodup_append]
    exact ⟨h, by simp, fun a ha b hb e => q (by rw [List.mem_singleton] at hb; rw [<- hb, <- e]; exact ha)⟩
theorem fU' : ∀ {xs F : List α}, F.Nodup -> (cx' F xs).Nodup
  | [], _, h => h
  | _ :: xs, _, h => fU' (xs := xs) (tm' h)
theorem qV' {xs : List α} : (bv' xs).Nodup := fU' List.nodup_nil
theorem eq' {xs : List α} {x : α} : bv' (xs ++ [x]) = ins (bv' xs) x := ni'
theorem gW' (c : α -> β) (F : List α) (x : α) : bv' ((ins F x).map c) = ins (bv' (F.map c)) (c x) := by
  by_cases h : x ∈ F
  . rw [eu' h, eu' (bA'.mpr (List.mem_map.mpr ⟨x, h, rfl⟩))]
  . rw [et' h, List.map_append, List.map_cons, List.map_nil, eq']
theorem cV' (c : α -> β) : ∀ (xs F : List α), bv' ((cx' F xs).map c) = cx' (bv' (F.map c)) (xs.map c)
  | [], _ => rfl
  | x :: xs, F => by rw [bT', cV' c xs, gW', List.map_cons, bT']
theorem fR' (c : α -> β) (xs : List α) : bv' ((bv' xs).map c) = bv' (xs.map c) := by
  have := cV' c xs []
  exact this
theorem ih' (f : α -> β) {F : List α} {x : α} (h : ∀ y ∈ F, f y = f x -> y = x) : (ins F x).map f = ins (F.map f) (f x) := by
  by_cases hx : x ∈ F
  . rw [eu' hx, eu' (List.mem_map.mpr ⟨x, hx, rfl⟩)]
  . rw [et' hx, et']
    . simp
    . rw [List.mem_map]
      rintro ⟨y, hy, e⟩
      exact hx (h y hy e ▸ hy)
theorem dx' (f : α -> β) (U : α -> Prop) (inj : ∀ a b, U a -> U b -> f a = f b -> a = b) : ∀ (xs F : List α), (∀ x ∈ F, U x) -> (∀ x ∈ xs, U x) -> (cx' F xs).map f = cx' (F.map f) (xs.map f)
  | [], _, _, _ => rfl
  | x :: xs, F, hF, hx => by
    have ux := hx x (by simp)
    rw [bT', dx' f U inj xs (ins F x) (fun y hy => (m0'.mp hy).elim (hF y) fun e => e ▸ ux) (fun y hy => hx y (by simp [hy])), ih' f fun y hy e => inj y x (hF y hy) ux e, List.map_cons, bT']
theorem dw' (f : α -> β) (xs : List α) (inj : ∀ a ∈ xs, ∀ b ∈ xs, f a = f b -> a = b) : bv' (xs.map f) = (bv' xs).map f :=
  (dx' f (· ∈ xs) (fun a b ha hb => inj a ha b hb) xs [] (fun _ h => nomatch h) (fun _ h => h)).symm
theorem qY' : ∀ {xs : List α}, xs.Nodup -> xs.map (fun x => xs.idxOf x) = List.range xs.length := by
  intro xs h
  refine List.ext_getElem (by simp) fun i h1 h2 => ?_
  rw [List.getElem_map, List.getElem_range]
  rw [List.length_map] at h1
  exact List.Nodup.idxOf_getElem h i h1
theorem ow' (xs : List α) : bv' (xs.map fun x => (bv' xs).idxOf x) = List.range (bv' xs).length := by
  rw [dw' (fun x => (bv' xs).idxOf x) xs, qY' qV']
  intro a ha b hb e
  have h1 : (bv' xs)[(bv' xs).idxOf a]? = some a := by
    rw [List.getElem?_eq_getElem (List.idxOf_lt_length_iff.mpr (bA'.mpr ha)), List.getElem_idxOf]
  have h2 : (bv' xs)[(bv' xs).idxOf b]? = some b := by
    rw [List.getElem?_eq_getElem (List.idxOf_lt_length_iff.mpr (bA'.mpr hb)), List.getElem_idxOf]
  rw [e, h2] at h1
  exact (Option.some.inj h1).symm
theorem er' (g : α -> β) (X : List α) : (bv' (X.map g)).length <= (bv' X).length := by
  have h := fR' g X
  rw [<- h]
  have go : ∀ (ys F : List β), (cx' F ys).length <= F.length + ys.length := by
    intro ys
    induction ys with
    | nil => intro F; simp [cx']
    | cons y ys ih =>
      intro F
      rw [bT']
      refine Nat.le_trans (ih _) ?_
      have : (ins F y).length <= F.length + 1 := by unfold ins; split <;> simp
      simp only [List.length_cons]
      omega
  have := go ((bv' X).map g) []
  simpa [bv'] using this
theorem ig' (g : α -> β) (X : List α) (h : (bv' (X.map g)).length = (bv' X).length) : ∀ a ∈ X, ∀ b ∈ X, g a = g b -> a = b := by
  have go : ∀ (l : List α), (bv' (l.reverse.map g)).length = (bv' l.reverse).length -> ∀ a ∈ l, ∀ b ∈ l, g a = g b -> a = b := by
    intro l
    induction l with
    | nil => intro _ a ha; cases ha
    | cons x l ih =>
      intro h
      rw [List.reverse_cons, List.map_append, List.map_cons, List.map_nil, eq', eq'] at h
      by_cases hx : x ∈ l
      . have hx' : x ∈ bv' l.reverse := bA'.mpr (List.mem_reverse.mpr hx)
        have hg : g x ∈ bv' (l.reverse.map g) := bA'.mpr (List.mem_map.mpr ⟨x, List.mem_reverse.mpr hx, rfl⟩)
        rw [eu' hx', eu' hg] at h
        intro a ha b hb e
        have ha' : a ∈ l := (List.mem_cons.mp ha).elim (fun e => e ▸ hx) id
        have hb' : b ∈ l := (List.mem_cons.mp hb).elim (fun e => e ▸ hx) id
        exact ih h a ha' b hb' e
      . have hx' : x ∉ bv' l.reverse := fun q => hx (List.mem_reverse.mp (bA'.mp q))
        rw [et' hx', List.length_append, List.length_singleton] at h
        have le := er' g l.reverse
        by_cases hg : g x ∈ bv' (l.reverse.map g)
        . rw [eu' hg] at h; omega
        . rw [et' hg, List.length_append, List.length_singleton] at h
          have ih := ih (by omega)
          have no : ∀ a ∈ l, g a ≠ g x := fun a ha e => hg (bA'.mpr (List.mem_map.mpr ⟨a, List.mem_reverse.mpr ha, e⟩))
          intro a ha b hb e
          rcases List.mem_cons.mp ha with ea | ha2
          . rcases List.mem_cons.mp hb with eb | hb2
            . rw [ea, eb]
            . exact absurd (by rw [<- ea]; exact e.symm) (no b hb2)
          . rcases List.mem_cons.mp hb with eb | hb2
            . exact absurd (by rw [<- eb]; exact e) (no a ha2)
            . exact ih a ha2 b hb2 e
  intro a ha b hb e
  exact go X.reverse (by rw [List.reverse_reverse]; exact h) a (List.mem_reverse.mpr ha) b (List.mem_reverse.mpr hb) e
end
def bk' (T : List (List Nat)) (s : Nat) : List Nat := (T[s]?).getD []
def bfs (T : List (List Nat)) : Nat -> List Nat
  | 0 => [0]
  | j + 1 => match (bfs T j)[j]? with
    | some s => cx' (bfs T j) (bk' T s)
    | none => bfs T j
section
variable {T : List (List Nat)} {n m : Nat}
theorem sQ' (h : bl' T n m) {s t : Nat} (ht : t ∈ bk' T s) : t < n := by
  unfold bk' at ht
  cases e : T[s]? with
  | none => rw [e] at ht; cases ht
  | some r =>
    rw [e] at ht
    exact (h.2 r (List.mem_of_getElem? e)).2 t ht
theorem h5' (h : bl' T n m) {s : Nat} (hs : s < n) : (bk' T s).length = m := by
  unfold bk'
  rw [List.getElem?_eq_getElem (by rw [h.1]; exact hs)]
  exact (h.2 _ (List.getElem_mem _)).1
theorem rT' : ∀ {j : Nat}, bfs T j <+: bfs T (j + 1) := by
  intro j
  show bfs T j <+: (match (bfs T j)[j]? with | some s => cx' (bfs T j) (bk' T s) | none => bfs T j)
  split
  . exact fM'
  . exact List.prefix_refl _
theorem f9' {i j : Nat} (h : i <= j) : bfs T i <+: bfs T j := by
  induction h with
  | refl => exact List.prefix_refl _
  | step _ ih => exact ih.trans rT'
theorem nD' : ∀ j : Nat, (bfs T j).Nodup
  | 0 => by simp [bfs]
  | j + 1 => by
    show (match (bfs T j)[j]? with | some s => cx' (bfs T j) (bk' T s) | none => bfs T j).Nodup
    split
    . exact fU' (nD' j)
    . exact nD' j
theorem p9' (h : bl' T n m) (hn : 1 <= n) : ∀ {j s : Nat}, s ∈ bfs T j -> s < n := by
  intro j
  induction j with
  | zero => intro s hs; simp [bfs] at hs; omega
  | succ j ih =>
    intro s hs
    have hs : s ∈ (match (bfs T j)[j]? with | some s => cx' (bfs T j) (bk' T s) | none => bfs T j) := hs
    split at hs
    . rcases cr'.mp hs with h1 | h1
      . exact ih h1
      . exact sQ' h h1
    . exact ih hs
theorem qW' {l : List Nat} (hn : l.Nodup) (h : ∀ s ∈ l, s < n) : l.length <= n := by
  have := List.Nodup.length_le_of_subset hn fun s hs => List.mem_range.mpr (h s hs)
  simpa using this
theorem iK' (h : bl' T n m) (hn : 1 <= n) (j : Nat) : (bfs T j).length <= n := qW' (nD' j) fun _ hs => p9' h hn hs
theorem kr' {j : Nat} (h : (bfs T j).length <= j) : ∀ {i : Nat}, j <= i -> bfs T i = bfs T j := by
  intro i hi
  induction hi with
  | refl => rfl
  | @step i hi ih =>
    show (match (bfs T i)[i]? with | some s => cx' (bfs T i) (bk' T s) | none => bfs T i) = _
    have : (bfs T i)[i]? = none := by rw [ih]; exact List.getElem?_eq_none (Nat.le_trans h hi)
    rw [this, ih]
theorem uC' {j s : Nat} (h : (bfs T j)[j]? = some s) : bfs T (j + 1) = cx' (bfs T j) (bk' T s) := by
  show (match (bfs T j)[j]? with | some s => cx' (bfs T j) (bk' T s) | none => bfs T j) = _
  rw [h]
def bF' (T : List (List Nat)) : List Nat := bfs T T.length
theorem oi' (h : bl' T T.length m) (hn : 1 <= T.length) {j : Nat} (hj : (bfs T j).length <= j) : bfs T j = bF' T := by
  have hl := iK' h hn
  by_cases q : j <= T.length
  . exact (kr' hj q).symm
  . exact kr' (hl _) (by omega)
theorem mB' {j s : Nat} (h : bl' T T.length m) (hn : 1 <= T.length) (e : (bF' T)[j]? = some s) : (bfs T j)[j]? = some s := by
  -- what stands at j is found before j is walked
  have h1 : j < (bfs T j).length := by
    rcases Nat.lt_or_ge j (bfs T j).length with q | q
    . exact q
    . have := oi' h hn q
      rw [<- this] at e
      have := (List.getElem?_eq_some_iff.mp e).1
      omega
  have hle : j <= T.length := by
    have := (List.getElem?_eq_some_iff.mp e).1
    have := iK' h hn T.length
    unfold bF' at *
    omega
  obtain ⟨G, eG⟩ := f9' (T := T) hle
  unfold bF' at e
  rw [<- eG, List.getElem?_append_left h1] at e
  exact e
theorem oj' (h : bl' T T.length m) (hn : 1 <= T.length) {s : Nat} (hs : s ∈ bF' T) : s < T.length := p9' h hn hs
theorem qF' : (bF' T)[0]? = some 0 := by
  obtain ⟨G, e⟩ := f9' (T := T) (Nat.zero_le T.length)
  unfold bF'
  rw [<- e]
  rfl
theorem kE' : 0 ∈ bF' T := List.mem_of_getElem? qF'
theorem gJ' (h : bl' T T.length m) (hn : 1 <= T.length) {s t : Nat} (hs : s ∈ bF' T) (ht : t ∈ bk' T s) : t ∈ bF' T := by
  obtain ⟨j, hj, e⟩ := List.getElem_of_mem hs
  have e : (bF' T)[j]? = some s := by rw [List.getElem?_eq_getElem hj, e]
  have e2 := uC' (mB' h hn e)
  have hl := iK' h hn T.length
  have hj' : j + 1 <= T.length := by unfold bF' at hj; omega
  exact (f9' hj').subset (by rw [e2]; exact cr'.mpr (.inr ht))
end
section
variable {γ : Type} [DecidableEq γ] {S : List Nat}
def mW' (S : List Nat) (f : Nat -> γ) (s : Nat) : Nat := (bv' (S.map f)).idxOf (f s)
theorem fS' (f : Nat -> γ) : bv' (S.map (mW' S f)) = List.range (bv' (S.map f)).length := by
  have := ow' (S.map f)
  rw [List.map_map] at this
  exact this
theorem fT' (f : Nat -> γ) {s : Nat} (hs : s ∈ S) : (bv' (S.map f))[mW' S f s]? = some (f s) := by
  have : mW' S f s < (bv' (S.map f)).length := List.idxOf_lt_length_iff.mpr (bA'.mpr (List.mem_map.mpr ⟨s, hs, rfl⟩))
  rw [List.getElem?_eq_getElem this]
  exact congrArg some (List.getElem_idxOf _)
theorem cq' (f : Nat -> γ) {s t : Nat} (hs : s ∈ S) (ht : t ∈ S) : mW' S f s = mW' S f t ↔ f s = f t := by
  constructor
  . intro e
    have h1 := fT' f hs
    rw [e, fT' f ht] at h1
    exact (Option.some.inj h1).symm
  . intro e; unfold mW'; rw [e]
end
def key (T : List (List Nat)) (c : Nat -> Nat) (s : Nat) : Nat × List Nat := (c s, (bk' T s).map c)
def Leq (L : Tx) (T : List (List Nat)) (A : List Nat) (s t : Nat) : Prop := ∀ x : Tx, (∀ a ∈ x, a ∈ L) -> (run L T s x ∈ A ↔ run L T t x ∈ A)
structure Clz (L : Tx) (T : List (List Nat)) (A : List Nat) (S : List Nat) (c : Nat -> Nat) (k : Nat) : Prop where
  num : bv' (S.map c) = List.range k
  ref : ∀ s ∈ S, ∀ t ∈ S, c s = c t -> (s ∈ A ↔ t ∈ A)
  co : ∀ s ∈ S, ∀ t ∈ S, Leq L T A s t -> c s = c t
section
variable {L : Tx} {T : List (List Nat)} {A S : List Nat} {c : Nat -> Nat} {k : Nat}
theorem hW' (s a : Nat) : stp L T s a = ((bk' T s)[L.idxOf a]?).getD 0 := rfl
theorem mg' (hL : L.Nodup) {s i : Nat} (hi : i < L.length) : stp L T s L[i] = ((bk' T s)[i]?).getD 0 := by rw [hW', hL.idxOf_getElem i hi]
theorem d5' (h : bl' T T.length L.length) {s a : Nat} (hs : s < T.length) (ha : a ∈ L) : stp L T s a ∈ bk' T s := by
  obtain ⟨r, h1, h2, _⟩ := sF' h hs ha
  have : bk' T s = r := by unfold bk'; rw [h1]; rfl
  rw [this]
  exact List.mem_of_getElem? h2
theorem Leq.step (h : Leq L T A s t) (ha : a ∈ L) : Leq L T A (stp L T s a) (stp L T t a) := fun x hx => by
  have := h (a :: x) fun b hb => (List.mem_cons.mp hb).elim (fun e => e ▸ ha) (hx b)
  exact this
theorem Leq.refl (s : Nat) : Leq L T A s s := fun _ _ => Iff.rfl
theorem Leq.symm (h : Leq L T A s t) : Leq L T A t s := fun x hx => (h x hx).symm
theorem Leq.trans (h : Leq L T A s t) (h' : Leq L T A t u) : Leq L T A s u := fun x hx => (h x hx).trans (h' x hx)
theorem mv' (h : bl' T T.length L.length) (hL : L.Nodup) {s t : Nat} (hs : s < T.length) (ht : t < T.length) (hc : ∀ a ∈ L, c (stp L T s a) = c (stp L T t a)) : (bk' T s).map c = (bk' T t).map c := by
  have l1 := h5' h hs
  have l2 := h5' h ht
  refine List.ext_getElem (by simp [l1, l2]) fun i h1 h2 => ?_
  rw [List.getElem_map, List.getElem_map]
  rw [List.length_map] at h1 h2
  have := hc L[i] (List.getElem_mem (by omega))
  rw [mg' hL (by omega), mg' hL (by omega), List.getElem?_eq_getElem h1, List.getElem?_eq_getElem h2] at this
  exact this
theorem Clz.lt (h : Clz L T A S c k) {s : Nat} (hs : s ∈ S) : c s < k := by
  have : c s ∈ bv' (S.map c) := bA'.mpr (List.mem_map.mpr ⟨s, hs, rfl⟩)
  rw [h.num] at this
  exact List.mem_range.mp this
theorem Clz.first : Clz L T A S (mW' S fun s => decide (s ∈ A)) (bv' (S.map fun s => decide (s ∈ A))).length := by
  refine ⟨fS' _, fun s hs t ht e => ?_, fun s hs t ht e => (cq' _ hs ht).mpr ?_⟩
  . have := (cq' _ hs ht).mp e
    simpa using this
  . have := e [] (fun _ h => nomatch h)
    simpa [qE'] using this
theorem Clz.next (hT : bl' T T.length L.length) (hL : L.Nodup) (hS : ∀ s ∈ S, s < T.length) (hcl : ∀ s ∈ S, ∀ t ∈ bk' T s, t ∈ S) (h : Clz L T A S c k) : Clz L T A S (mW' S (key T c)) (bv' (S.map (key T c))).length := by
  refine ⟨fS' _, fun s hs t ht e => ?_, fun s hs t ht e => (cq' _ hs ht).mpr ?_⟩
  . have := (cq' _ hs ht).mp e
    exact h.ref s hs t ht (congrArg Prod.fst this)
  . refine Prod.ext (h.co s hs t ht e) (mv' hT hL (hS s hs) (hS t ht) fun a ha => ?_)
    exact h.co _ (hcl s hs _ (d5' hT (hS s hs) ha)) _ (hcl t ht _ (d5' hT (hS t ht) ha)) (e.step ha)
theorem fY' : (S.map (key T c)).map Prod.fst = S.map c := by rw [List.map_map]; rfl
theorem Clz.le (h : Clz L T A S c k) : k <= (bv' (S.map (key T c))).length := by
  have := er' Prod.fst (S.map (key T c))
  rw [fY', h.num, List.length_range] at this
  exact this
theorem Clz.stable (h : Clz L T A S c k) (he : (bv' (S.map (key T c))).length <= k) : ∀ s ∈ S, ∀ t ∈ S, c s = c t -> key T c s = key T c t := fun s hs t ht e => by
  have hk := Nat.le_antisymm he h.le
  refine ig' Prod.fst (S.map (key T c)) ?_ _ (List.mem_map.mpr ⟨s, hs, rfl⟩) _ (List.mem_map.mpr ⟨t, ht, rfl⟩) e
  rw [fY', h.num, List.length_range, hk]
theorem Clz.same (h : Clz L T A S c k) (he : (bv' (S.map (key T c))).length <= k) : ∀ s ∈ S, mW' S (key T c) s = c s := fun s hs => by
  have st := h.stable he
  have e : bv' ((S.map (key T c)).map Prod.fst) = (bv' (S.map (key T c))).map Prod.fst := dw' Prod.fst _ fun a ha b hb q => by
    obtain ⟨s1, h1, rfl⟩ := List.mem_map.mp ha
    obtain ⟨s2, h2, rfl⟩ := List.mem_map.mp hb
    exact st s1 h1 s2 h2 q
  rw [fY', h.num] at e
  have g := fT' (key T c) hs
  have g2 : ((bv' (S.map (key T c))).map Prod.fst)[mW' S (key T c) s]? = some (c s) := by rw [List.getElem?_map, g]; rfl
  rw [<- e] at g2
  obtain ⟨hl, g3⟩ := List.getElem?_eq_some_iff.mp g2
  rw [List.getElem_range] at g3
  exact g3
end
structure IsLeast (L : Tx) (T : List (List Nat)) (A : List Nat) (c : Nat -> Nat) (T' : List (List Nat)) (A' : List Nat) : Prop where
  tab : bl' T' T'.length L.length
  ne : 1 <= T'.length
  le : T'.length <= T.length
  acc : AccOk A' T'.length
  c0 : c 0 = 0
  lt : ∀ s ∈ bF' T, c s < T'.length
  row : ∀ s ∈ bF' T, bk' T' (c s) = (bk' T s).map c
  fin : ∀ s ∈ bF' T, (c s ∈ A' ↔ s ∈ A)
  onto : ∀ q < T'.length, ∃ s ∈ bF' T, c s = q
  bF' : bF' T' = List.range T'.length
  apart : ∀ p < T'.length, ∀ q < T'.length, Leq L T' A' p q -> p = q
  num : bv' ((M.bF' T).map c) = List.range T'.length
section
variable {L : Tx} {T : List (List Nat)} {A : List Nat} {c : Nat -> Nat} {k : Nat}
theorem qv' {T' : List (List Nat)} (hT : bl' T T.length L.length) {s a : Nat} (hs : s < T.length) (ha : a ∈ L) (e : bk' T' (c s) = (bk' T s).map c) : stp L T' (c s) a = c (stp L T s a) := by
  rw [hW', hW', e]
  have l1 := h5' hT hs
  have hi : L.idxOf a < L.length := List.idxOf_lt_length_iff.mpr ha
  rw [List.getElem?_map, List.getElem?_eq_getElem (by omega)]
  rfl
theorem mt' {T' : List (List Nat)} {S : List Nat} (hT : bl' T T.length L.length) (hS : ∀ s ∈ S, s < T.length) (hcl : ∀ s ∈ S, ∀ t ∈ bk' T s, t ∈ S) (hr : ∀ s ∈ S, bk' T' (c s) = (bk' T s).map c) :
    ∀ x : Tx, (∀ a ∈ x, a ∈ L) -> ∀ s ∈ S, run L T' (c s) x = c (run L T s x) /\ run L T s x ∈ S
  | [], _, s, hs => ⟨rfl, hs⟩
  | a :: x, hx, s, hs => by
    have ha := hx a (by simp)
    rw [fK', fK', qv' hT (hS s hs) ha (hr s hs)]
    exact mt' hT hS hcl hr x (fun b hb => hx b (by simp [hb])) _ (hcl s hs _ (d5' hT (hS s hs) ha))
end
structure Cw (L : Tx) (T : List (List Nat)) (A : List Nat) (S : List Nat) (c : Nat -> Nat) : Prop where
  ref : ∀ s ∈ S, ∀ t ∈ S, c s = c t -> (s ∈ A ↔ t ∈ A)
  co : ∀ s ∈ S, ∀ t ∈ S, Leq L T A s t -> c s = c t
section
variable {L : Tx} {T : List (List Nat)} {A S : List Nat} {c : Nat -> Nat} {k : Nat}
theorem Cw.next (hT : bl' T T.length L.length) (hL : L.Nodup) (hS : ∀ s ∈ S, s < T.length) (hcl : ∀ s ∈ S, ∀ t ∈ bk' T s, t ∈ S) (h : Cw L T A S c) : Clz L T A S (mW' S (key T c)) (bv' (S.map (key T c))).length := by
  refine ⟨fS' _, fun s hs t ht e => ?_, fun s hs t ht e => (cq' _ hs ht).mpr ?_⟩
  . have := (cq' _ hs ht).mp e
    exact h.ref s hs t ht (congrArg Prod.fst this)
  . refine Prod.ext (h.co s hs t ht e) (mv' hT hL (hS s hs) (hS t ht) fun a ha => ?_)
    exact h.co _ (hcl s hs _ (d5' hT (hS s hs) ha)) _ (hcl t ht _ (d5' hT (hS t ht) ha)) (e.step ha)
end
def nH' (X : D) (T : List (List Nat)) : Prop := ∀ (s : Nat) (r : List Nat), T[s]? = some r -> ∃ R, pIx X (.int (s : Nat)) = some R /\ cz' R = some (r.map fun t => .int (t : Nat))
def nI' (Y : D) (A : List Nat) : Prop := ∀ s : Nat, pIn (.int (s : Nat)) Y = some (.bl (decide (s ∈ A)))
theorem nH'.tab (T : List (List Nat)) : nH' (bg' T) T := fun s r h => ⟨bp' r, by
  show ati (T.map bp') (s : Int) = _
  rw [hF' (by omega), List.getElem?_map, Int.toNat_natCast, h]; rfl, rfl⟩
theorem nI'.acc (A : List Nat) : nI' (bm' A) A := fun s => by
  have h := nv' A s (Q := fun d => d = .bl (decide (s ∈ A)))
  have : wD (pIn (.int (s : Nat)) (bm' A)) (fun d => d = .bl (decide (s ∈ A))) := by rw [h]
  rw [aq'] at this
  cases e : pIn (.int (s : Nat)) (bm' A) with
  | none => rw [e] at this; exact this.elim
  | some d => rw [e] at this; exact congrArg some this
def ixo {γ : Type} [DecidableEq γ] (G : List γ) (a : γ) : Nat := G.idxOf a
section
variable {L : Tx} {T : List (List Nat)} {A : List Nat} {c c' : Nat -> Nat} {T1 T2 : List (List Nat)} {A1 A2 : List Nat}
end
def Pl (y : Option O) : Prop := y = none \/ ∃ d, y = some (.fz d)
theorem Pl.keep {y : Option O} (h : Pl y) : nf' (some y) = y := by rcases h with rfl | ⟨d, rfl⟩ <;> rfl
end M
namespace M
section
variable {L : Tx} {T T' U : List (List Nat)} {A A' B T1 A1 T2 A2 : List Nat} {m : Nat} {c : Nat -> Nat}
theorem IsLeast.run0 {T1 : List (List Nat)} (hT : bl' T T.length L.length) (hn : 1 <= T.length) (h : IsLeast L T A c T1 A1) {x : Tx} (hx : ∀ a ∈ x, a ∈ L) : run L T1 0 x ∈ A1 ↔ run L T 0 x ∈ A := by
  have hS : ∀ s ∈ M.bF' T, s < T.length := fun s hs => oj' hT hn hs
  have hcl : ∀ s ∈ M.bF' T, ∀ t ∈ bk' T s, t ∈ M.bF' T := fun s hs t ht => gJ' hT hn hs ht
  have := mt' hT hS hcl h.row x hx 0 kE'
  rw [h.c0] at this
  rw [this.1, h.fin _ this.2]
end
end M
namespace M
section
variable {γ : Type} [DecidableEq γ] (L : Tx) (sx : γ -> Nat -> γ) (g0 : γ)
def nxG (g : γ) : List γ := L.map (sx g)
def xbf : Nat -> List γ
  | 0 => [g0]
  | j + 1 => match (xbf j)[j]? with
    | some g => cx' (xbf j) (nxG L sx g)
    | none => xbf j
def qZ' (g : γ) (z : Tx) : γ := z.foldl sx g
def Rch (g : γ) : Prop := ∃ z : Tx, (∀ c ∈ z, c ∈ L) /\ g = qZ' sx g0 z
def Few (N : Nat) : Prop := ∀ l : List γ, l.Nodup -> (∀ g ∈ l, Rch L sx g0 g) -> l.length <= N
def eR' (N : Nat) : List γ := xbf L sx g0 N
def uH' (F : List γ) (g : γ) : List Nat := L.map fun c => ixo F (sx g c)
def pf' (F : List γ) : List (List Nat) := F.map (uH' L sx F)
def wX' (F : List γ) (p : γ -> Bool) : List Nat := (List.range F.length).filter fun q => ((F[q]?).map p).getD false
variable {L sx g0}
theorem qa' {j : Nat} : xbf L sx g0 j <+: xbf L sx g0 (j + 1) := by
  show xbf L sx g0 j <+: (match (xbf L sx g0 j)[j]? with | some s => cx' (xbf L sx g0 j) (nxG L sx s) | none => xbf L sx g0 j)
  split
  . exact fM'
  . exact List.prefix_refl _
theorem nS' {i j : Nat} (h : i <= j) : xbf L sx g0 i <+: xbf L sx g0 j := by
  induction h with
  | refl => exact List.prefix_refl _
  | step _ ih => exact ih.trans qa'
theorem iX' : ∀ j : Nat, (xbf L sx g0 j).Nodup
  | 0 => by simp [xbf]
  | j + 1 => by
    show (match (xbf L sx g0 j)[j]? with | some s => cx' (xbf L sx g0 j) (nxG L sx s) | none => xbf L sx g0 j).Nodup
    split
    . exact fU' (iX' j)
    . exact iX' j
theorem m8' {g : γ} {z : Tx} {c : Nat} : qZ' sx g (z ++ [c]) = sx (qZ' sx g z) c := by unfold qZ'; rw [List.foldl_append]; rfl
theorem fz' : ∀ j : Nat, ∀ g ∈ xbf L sx g0 j, Rch L sx g0 g
  | 0, g, h => by
    have : g = g0 := by simpa [xbf] using h
    exact ⟨[], nofun, this⟩
  | j + 1, g, h => by
    have h : g ∈ (match (xbf L sx g0 j)[j]? with | some s => cx' (xbf L sx g0 j) (nxG L sx s) | none => xbf L sx g0 j) := h
    split at h
    . rename_i s e
      rcases cr'.mp h with q | q
      . exact fz' j g q
      . obtain ⟨c, hc, rfl⟩ := List.mem_map.mp q
        obtain ⟨z, hz, rfl⟩ := fz' j s (List.mem_of_getElem? e)
        exact ⟨z ++ [c], fun d hd => (List.mem_append.mp hd).elim (hz d) (fun q => List.mem_singleton.mp q ▸ hc), m8'.symm⟩
    . exact fz' j g h
theorem fy' {j : Nat} (h : (xbf L sx g0 j).length <= j) : ∀ {i : Nat}, j <= i -> xbf L sx g0 i = xbf L sx g0 j := by
  intro i hi
  induction hi with
  | refl => rfl
  | @step i hi ih =>
    show (match (xbf L sx g0 i)[i]? with | some s => cx' (xbf L sx g0 i) (nxG L sx s) | none => xbf L sx g0 i) = _
    have : (xbf L sx g0 i)[i]? = none := by rw [ih]; exact List.getElem?_eq_none (Nat.le_trans h hi)
    rw [this, ih]
theorem r5' {j : Nat} {g : γ} (h : (xbf L sx g0 j)[j]? = some g) : xbf L sx g0 (j + 1) = cx' (xbf L sx g0 j) (nxG L sx g) := by
  show (match (xbf L sx g0 j)[j]? with | some s => cx' (xbf L sx g0 j) (nxG L sx s) | none => xbf L sx g0 j) = _
  rw [h]
variable {N : Nat}
theorem Few.len (h : Few L sx g0 N) (j : Nat) : (xbf L sx g0 j).length <= N := h _ (iX' j) (fz' j)
theorem Few.all (h : Few L sx g0 N) {j : Nat} (hj : (xbf L sx g0 j).length <= j) : xbf L sx g0 j = eR' L sx g0 N := by
  by_cases q : j <= N
  . exact (fy' hj q).symm
  . exact fy' (h.len _) (by omega)
theorem Few.pre (h : Few L sx g0 N) (j : Nat) : xbf L sx g0 j <+: eR' L sx g0 N := by
  by_cases q : j <= N
  . exact nS' q
  . have : xbf L sx g0 j = eR' L sx g0 N := fy' (h.len _) (by omega)
    rw [this]
    exact List.prefix_refl _
theorem Few.get (h : Few L sx g0 N) {j : Nat} {g : γ} (e : (eR' L sx g0 N)[j]? = some g) : (xbf L sx g0 j)[j]? = some g := by
  have h1 : j < (xbf L sx g0 j).length := by
    rcases Nat.lt_or_ge j (xbf L sx g0 j).length with q | q
    . exact q
    . have := h.all q
      rw [<- this] at e
      have := (List.getElem?_eq_some_iff.mp e).1
      omega
  obtain ⟨G, eG⟩ := h.pre j
  rw [<- eG, List.getElem?_append_left h1] at e
  exact e
theorem Few.nd : (eR' L sx g0 N).Nodup := iX' N
theorem Few.zero (h : Few L sx g0 N) : (eR' L sx g0 N)[0]? = some g0 := by
  obtain ⟨G, e⟩ := h.pre 0
  rw [<- e]
  rfl
theorem Few.closed (h : Few L sx g0 N) {g : γ} (hg : g ∈ eR' L sx g0 N) {c : Nat} (hc : c ∈ L) : sx g c ∈ eR' L sx g0 N := by
  obtain ⟨j, hj, e⟩ := List.getElem_of_mem hg
  have e1 : (eR' L sx g0 N)[j]? = some g := by rw [List.getElem?_eq_getElem hj, e]
  have := r5' (h.get e1)
  exact (h.pre (j + 1)).subset (by rw [this]; exact cr'.mpr (.inr (List.mem_map.mpr ⟨c, hc, rfl⟩)))
theorem Few.mono {N' : Nat} (h : Few L sx g0 N) (hn : N <= N') : Few L sx g0 N' := fun l a b => Nat.le_trans (h l a b) hn
theorem tw' {F : List γ} {g : γ} (h : g ∈ F) : ixo F g < F.length := List.idxOf_lt_length_iff.mpr h
theorem q5' {F : List γ} {g : γ} (h : g ∈ F) : F[ixo F g]? = some g := by
  unfold ixo
  rw [List.getElem?_eq_getElem (List.idxOf_lt_length_iff.mpr h), List.getElem_idxOf]
theorem Few.tab (h : Few L sx g0 N) : bl' (pf' L sx (eR' L sx g0 N)) (pf' L sx (eR' L sx g0 N)).length L.length := by
  refine ⟨rfl, fun r hr => ?_⟩
  obtain ⟨g, hg, rfl⟩ := List.mem_map.mp hr
  refine ⟨by simp [uH'], fun t ht => ?_⟩
  obtain ⟨c, hc, rfl⟩ := List.mem_map.mp ht
  rw [show (pf' L sx (eR' L sx g0 N)).length = (eR' L sx g0 N).length by simp [pf']]
  exact tw' (h.closed hg hc)
theorem Few.ne (h : Few L sx g0 N) : 1 <= (eR' L sx g0 N).length := by
  have := (List.getElem?_eq_some_iff.mp h.zero).1
  omega
theorem Few.run (h : Few L sx g0 N) : ∀ (z : Tx) (s : Nat) (g : γ), (∀ c ∈ z, c ∈ L) -> (eR' L sx g0 N)[s]? = some g -> (eR' L sx g0 N)[M.run L (pf' L sx (eR' L sx g0 N)) s z]? = some (qZ' sx g z)
  | [], s, g, _, e => e
  | c :: z, s, g, hz, e => by
    have hc := hz c (by simp)
    have hg := List.mem_of_getElem? e
    rw [fK']
    have e1 : stp L (pf' L sx (eR' L sx g0 N)) s c = ixo (eR' L sx g0 N) (sx g c) := by
      unfold stp pf'
      rw [List.getElem?_map, e]
      show ((uH' L sx (eR' L sx g0 N) g)[L.idxOf c]?).getD 0 = _
      unfold uH'
      rw [List.getElem?_map, List.getElem?_eq_getElem (List.idxOf_lt_length_iff.mpr hc), List.getElem_idxOf]
      rfl
    rw [e1]
    exact Few.run h z _ (sx g c) (fun d hd => hz d (by simp [hd])) (q5' (h.closed hg hc))
theorem Few.says (h : Few L sx g0 N) (p : γ -> Bool) {z : Tx} (hz : ∀ c ∈ z, c ∈ L) : M.run L (pf' L sx (eR' L sx g0 N)) 0 z ∈ wX' (eR' L sx g0 N) p ↔ p (qZ' sx g0 z) = true := by
  have e := h.run z 0 g0 hz h.zero
  have hl := (List.getElem?_eq_some_iff.mp e).1
  unfold wX'
  rw [List.mem_filter, e]
  simp only [List.mem_range, Option.map_some, Option.getD_some]
  exact ⟨fun q => q.2, fun q => ⟨hl, q⟩⟩
end
end M
namespace M
theorem ny' {α β : Type} (f : α -> β) (l : List α) (lo hi : Option Int) : cut (l.map f) lo hi = (cut l lo hi).map f := by
  unfold cut
  rw [List.length_map, List.map_take, List.map_drop]
theorem ry' {Q : D -> Prop} (r : List Nat) (lo hi : Option Int) : wD (pSl (bp' r) lo hi) Q = Q (bp' (cut r lo hi)) := by
  unfold bp'
  rw [rx', ny']
theorem rv' {Q : D -> Prop} (T : List (List Nat)) (lo hi : Option Int) : wD (pSl (bg' T) lo hi) Q = Q (bg' (cut T lo hi)) := by
  unfold bg'
  rw [rx', ny']
theorem kp' {Q : D -> Prop} (a b : List Nat) : wD (bG' (bp' a) (bp' b)) Q = hK' (a.length + b.length) (Q (bp' (a ++ b))) := by
  unfold bp'
  rw [nw', List.length_map, List.length_map, List.map_append]
theorem o6' {Q : D -> Prop} (a b : List (List Nat)) : wD (bG' (bg' a) (bg' b)) Q = hK' (a.length + b.length) (Q (bg' (a ++ b))) := by
  unfold bg'
  rw [nw', List.length_map, List.length_map, List.map_append]
theorem cX' (c : Nat) : ∀ l : List Tx, (bS' [c] l).length <= (l.map List.length).sum + l.length
  | [] => by simp [bS']
  | [a] => by simp [bS']
  | a :: b :: r => by
    have ih := cX' c (b :: r)
    show (a ++ ([c] ++ bS' [c] (b :: r))).length <= _
    rw [List.length_append, List.length_append, List.length_singleton, List.map_cons, List.sum_cons, List.length_cons]
    omega
end M
namespace M
def wlt (x y : Tx) : Prop := x.length < y.length \/ (x.length = y.length /\ x < y)
def wle (x y : Tx) : Prop := x = y \/ wlt x y
section
variable {γ : Type} [DecidableEq γ] (sx : γ -> Nat -> γ)
def xL' (p : γ × Tx) (F : List (γ × Tx)) (c : Nat) : List (γ × Tx) := if sx p.1 c ∈ F.map (·.1) then F else F ++ [(sx p.1 c, p.2 ++ [c])]
variable (L : Tx) (g0 : γ)
def xw : Nat -> List (γ × Tx)
  | 0 => [(g0, [])]
  | j + 1 => match (xw j)[j]? with
    | some p => L.foldl (xL' sx p) (xw j)
    | none => xw j
variable {sx L g0}
structure XwOk (sx : γ -> Nat -> γ) (L : Tx) (g0 : γ) (j : Nat) : Prop where
  asc : (xw sx L g0 j).Pairwise (fun a b => wlt a.2 b.2)
  led : ∀ q ∈ xw sx L g0 j, (∀ c ∈ q.2, c ∈ L) /\ q.1 = qZ' sx g0 q.2
  old : ∀ (i : Nat) (q : γ × Tx), (xw sx L g0 j)[i]? = some q -> q.2 = [] \/ ∃ (k : Nat) (r : γ × Tx) (c : Nat), k < j /\ (xw sx L g0 j)[k]? = some r /\ q.2 = r.2 ++ [c]
  small : ∀ (k : Nat) (r : γ × Tx), k < j -> (xw sx L g0 j)[k]? = some r -> ∀ c ∈ L, ∃ q ∈ xw sx L g0 j, q.1 = sx r.1 c /\ wle q.2 (r.2 ++ [c])
end
end M
namespace M
section
variable {X : Exc -> PSt -> Prop} {ρ : PSt}
end
end M
namespace M
section
variable {α : Type} (mul : α -> α -> α) (one : α) (S : α -> Prop)
structure Mon (l : List α) : Prop where
  cl : ∀ {a b}, S a -> S b -> S (mul a b)
  as : ∀ {a b c}, S a -> S b -> S c -> mul (mul a b) c = mul a (mul b c)
  o : S one
  l1 : ∀ {a}, S a -> mul one a = a
  r1 : ∀ {a}, S a -> mul a one = a
  fin : ∀ a, S a -> a ∈ l
def pw (a : α) : Nat -> α
  | 0 => a
  | n + 1 => mul (pw a n) a
def Idm (e : α) : Prop := mul e e = e
def Om (a e : α) : Prop := ∃ n, e = pw mul a n /\ Idm mul e
def Ker (d : α) : Prop := S d /\ ∀ y, S y -> ∃ u v, S u /\ S v /\ d = mul u (mul y v)
end
section
variable {α : Type} {mul : α -> α -> α} {one : α} {S : α -> Prop} {l : List α}
theorem Mon.pw (h : Mon mul one S l) {a : α} (ha : S a) : ∀ n, S (M.pw mul a n)
  | 0 => ha
  | n + 1 => h.cl (h.pw ha n) ha
theorem Mon.pw_add (h : Mon mul one S l) {a : α} (ha : S a) (m : Nat) : ∀ n, mul (M.pw mul a m) (M.pw mul a n) = M.pw mul a (m + n + 1)
  | 0 => rfl
  | n + 1 => by
    show mul (M.pw mul a m) (mul (M.pw mul a n) a) = mul (M.pw mul a (m + n + 1)) a
    rw [<- h.as (h.pw ha m) (h.pw ha n) ha, h.pw_add ha m n]
theorem Mon.pw_comm (h : Mon mul one S l) {a : α} (ha : S a) (m n : Nat) : mul (M.pw mul a m) (M.pw mul a n) = mul (M.pw mul a n) (M.pw mul a m) := by
  rw [h.pw_add ha, h.pw_add ha, Nat.add_comm m n]
theorem Mon.om_ex (h : Mon mul one S l) {a : α} (ha : S a) : ∃ n, n <= l.length * (l.length + 1) /\ Idm mul (M.pw mul a n) := by
  have hnd : ¬ ((List.range (l.length + 1)).map (M.pw mul a)).Nodup := fun hn => by
    have := List.Nodup.length_le_of_subset hn (l₂ := l) fun x hx => by
      obtain ⟨n, _, rfl⟩ := List.mem_map.1 hx
      exact h.fin _ (h.pw ha n)
    simp at this
    omega
  obtain ⟨i, j, hij, hj, e⟩ : ∃ i j, i < j /\ j <= l.length /\ M.pw mul a i = M.pw mul a j := by
    refine Classical.byContradiction fun hc => hnd ?_
    rw [List.nodup_iff_pairwise_ne, List.pairwise_map]
    refine List.Pairwise.imp_of_mem ?_ List.pairwise_lt_range
    intro a b ha hb hab e
    exact hc ⟨a, b, hab, by have := List.mem_range.1 hb; omega, e⟩
  have per : ∀ k, M.pw mul a (i + k + (j - i)) = M.pw mul a (i + k) := by
    intro k
    cases k with
    | zero => rw [Nat.add_zero, show i + (j - i) = j by omega, e]
    | succ k =>
      have e1 := h.pw_add ha i k
      have e2 := h.pw_add ha j k
      rw [show i + (k + 1) + (j - i) = j + k + 1 by omega, <- e2, <- e, e1]
      rfl
  have pers : ∀ k m, M.pw mul a (i + k + m * (j - i)) = M.pw mul a (i + k) := by
    intro k m
    induction m with
    | zero => rw [Nat.zero_mul, Nat.add_zero]
    | succ m ih =>
      rw [Nat.add_mul, Nat.one_mul, <- Nat.add_assoc, show i + k + m * (j - i) + (j - i) = i + (k + m * (j - i)) + (j - i) by omega, per, <- Nat.add_assoc, ih]
  have hp : 1 <= j - i := by omega
  have hge : i + 1 <= (i + 1) * (j - i) := Nat.le_mul_of_pos_right _ hp
  have hle : (i + 1) * (j - i) <= (l.length + 1) * l.length := Nat.mul_le_mul (by omega) (by omega)
  refine ⟨(i + 1) * (j - i) - 1, by rw [Nat.mul_comm l.length]; omega, ?_⟩
  show mul _ _ = _
  rw [h.pw_add ha]
  have := pers ((i + 1) * (j - i) - 1 - i) (i + 1)
  rw [show i + ((i + 1) * (j - i) - 1 - i) = (i + 1) * (j - i) - 1 by omega] at this
  rw [<- this]
  congr 1
  omega
theorem Om.s (h : Mon mul one S l) {a e : α} (ha : S a) (o : Om mul a e) : S e := by
  obtain ⟨n, rfl, _⟩ := o
  exact h.pw ha n
theorem Mon.pw_split (h : Mon mul one S l) {a : α} (ha : S a) (n : Nat) : ∃ w, S w /\ M.pw mul a n = mul a w /\ M.pw mul a n = mul w a := by
  cases n with
  | zero => exact ⟨one, h.o, (h.r1 ha).symm, (h.l1 ha).symm⟩
  | succ n =>
    refine ⟨M.pw mul a n, h.pw ha n, ?_, rfl⟩
    have := h.pw_add ha 0 n
    rw [show 0 + n + 1 = n + 1 by omega] at this
    exact this.symm
theorem Ker.mul_l (h : Mon mul one S l) {d a : α} (hd : Ker mul S d) (ha : S a) : Ker mul S (mul a d) := by
  refine ⟨h.cl ha hd.1, fun y hy => ?_⟩
  obtain ⟨u, v, hu, hv, e⟩ := hd.2 y hy
  refine ⟨mul a u, v, h.cl ha hu, hv, ?_⟩
  rw [h.as ha hu (h.cl hy hv), <- e]
theorem Ker.pw (h : Mon mul one S l) {d : α} (hd : Ker mul S d) : ∀ n, Ker mul S (M.pw mul d n)
  | 0 => hd
  | n + 1 => Ker.mul_l h hd (h.pw hd.1 n)
theorem Ker.below (h : Mon mul one S l) {e f : α} (he : Ker mul S e) (ie : Idm mul e) (sf : S f) (jf : Idm mul f) (h1 : mul e f = f) (h2 : mul f e = f) : f = e := by
  have se := he.1
  obtain ⟨u, v, su, sv, eq⟩ := he.2 f sf
  have sfv := h.cl sf sv
  have sb := h.cl sfv se
  have sa := h.cl se (h.cl su sf)
  generalize ha : mul e (mul u f) = a at *
  generalize hb : mul (mul f v) e = b at *
  have ab : mul a b = e := by
    rw [<- ha, <- hb, h.as se (h.cl su sf) (h.cl sfv se), h.as su sf (h.cl sfv se), <- h.as sf sfv se, <- h.as sf sf sv, show mul f f = f from jf, <- h.as su sfv se, <- eq, show mul e e = e from ie]
    exact ie
  have eb : mul e b = b := by rw [<- hb, <- h.as se sfv se, <- h.as se sf sv, h1]
  have fb : mul f b = b := by rw [<- hb, <- h.as sf sfv se, <- h.as sf sf sv, show mul f f = f from jf]
  have ae : mul a e = a := by rw [<- ha, h.as se (h.cl su sf) se, h.as su sf se, h2]
  have key : ∀ n, mul (M.pw mul a n) (M.pw mul b n) = e := by
    intro n
    induction n with
    | zero => exact ab
    | succ n ih =>
      have sn := h.pw sa n
      have sm := h.pw sb n
      show mul (mul (M.pw mul a n) a) (mul (M.pw mul b n) b) = e
      rw [show mul (M.pw mul b n) b = mul b (M.pw mul b n) from h.pw_comm sb n 0, h.as sn sa (h.cl sb sm), <- h.as sa sb sm, ab]
      have : mul e (M.pw mul b n) = M.pw mul b n := by
        obtain ⟨r, sr, r1, -⟩ := h.pw_split sb n
        rw [r1, <- h.as se sb sr, eb]
      rw [this]
      exact ih
  obtain ⟨m, _, hm⟩ := h.om_ex sb
  have k := key m
  have sg := h.pw sb m
  have e1 : mul e (M.pw mul b m) = e := by
    rw [<- k, h.as (h.pw sa m) sg sg, show mul (M.pw mul b m) (M.pw mul b m) = _ from hm]
  obtain ⟨r, sr, r1, -⟩ := h.pw_split sb m
  have e2 : mul e (M.pw mul b m) = M.pw mul b m := by rw [r1, <- h.as se sb sr, eb]
  have e3 : mul f (M.pw mul b m) = M.pw mul b m := by rw [r1, <- h.as sf sb sr, fb]
  rw [<- e2, e1, h2] at e3
  exact e3
theorem ol' (h : Mon mul one S l) {e x : α} (se : S e) (sx : S x) (h1 : mul e x = x) (h2 : mul x e = x) (n : Nat) : mul e (M.pw mul x n) = M.pw mul x n /\ mul (M.pw mul x n) e = M.pw mul x n := by
  obtain ⟨r, sr, r1, r2⟩ := h.pw_split sx n
  exact ⟨by rw [r1, <- h.as se sx sr, h1], by rw [r2, h.as sr sx se, h2]⟩
theorem Ker.om_grp (h : Mon mul one S l) {e a f : α} (he : Ker mul S e) (ie : Idm mul e) (sa : S a) (h1 : mul e a = a) (h2 : mul a e = a) (o : Om mul a f) : f = e := by
  have sf := Om.s h sa o
  obtain ⟨n, rfl, jf⟩ := o
  obtain ⟨f1, f2⟩ := ol' h he.1 sa h1 h2 n
  exact he.below h ie sf jf f1 f2
theorem Ker.inv (h : Mon mul one S l) {e a : α} (he : Ker mul S e) (ie : Idm mul e) (sa : S a) (h1 : mul e a = a) (h2 : mul a e = a) : ∃ b, S b /\ mul e b = b /\ mul b e = b /\ mul a b = e /\ mul b a = e := by
  obtain ⟨n, _, hn⟩ := h.om_ex sa
  have en := he.om_grp h ie sa h1 h2 ⟨n, rfl, hn⟩
  obtain ⟨w, sw, w1, w2⟩ := h.pw_split sa n
  have sew := h.cl (h.cl he.1 sw) he.1
  refine ⟨mul (mul e w) e, sew, ?_, ?_, ?_, ?_⟩
  . rw [<- h.as he.1 (h.cl he.1 sw) he.1, <- h.as he.1 he.1 sw, show mul e e = e from ie]
  . rw [h.as (h.cl he.1 sw) he.1 he.1, show mul e e = e from ie]
  . rw [<- h.as sa (h.cl he.1 sw) he.1, <- h.as sa he.1 sw, h2, <- w1, en]
    exact ie
  . rw [h.as (h.cl he.1 sw) he.1 sa, h1, h.as he.1 sw sa, <- w2, en]
    exact ie
end
end M
namespace M
section
variable {β : Type} [Mul β]
structure FM (one : β) (l : List β) : Prop where
  as : ∀ a b c : β, a * b * c = a * (b * c)
  l1 : ∀ a : β, one * a = a
  r1 : ∀ a : β, a * one = a
  fin : ∀ a : β, a ∈ l
structure Sub (one : β) (S : β -> Prop) : Prop where
  cl : ∀ {a b}, S a -> S b -> S (a * b)
  o : S one
abbrev mu : β -> β -> β := fun a b => a * b
theorem Sub.all {one : β} : Sub one (fun _ => True) := ⟨fun _ _ => trivial, trivial⟩
def ku' (β : Type) [Mul β] : Prop := ∀ x y e f : β, Om mu (x * y) e -> Om mu (y * x) f -> e * (f * e) = e
structure Blk (e a b c d : β) : Prop where
  i : e * e = e
  one : e * (a * (c * e)) = e
  other : e * (b * (d * e)) = e
  both : e * (a * (b * (c * (d * e)))) ≠ e
theorem pQ' {e : β} (h : e * e = e) : Om mu e e := ⟨0, rfl, h⟩
structure Un (e a : β) : Prop where
  l : e * a = a
  r : a * e = a
  ex : ∃ b, e * b = b /\ b * e = b /\ a * b = e /\ b * a = e
theorem Un.mul {one : β} {l : List β} (h : FM one l) {e a b : β} (ha : Un e a) (hb : Un e b) : Un e (a * b) := by
  obtain ⟨a', p1, p2, p3, p4⟩ := ha.ex
  obtain ⟨b', q1, q2, q3, q4⟩ := hb.ex
  refine ⟨by rw [<- h.as, ha.l], by rw [h.as, hb.r], b' * a', by rw [<- h.as, q1], by rw [h.as, p2], ?_, ?_⟩
  . rw [h.as, <- h.as b, q3, p1, p3]
  . rw [h.as, <- h.as a', p4, hb.l, q4]
theorem ku'.split {one : β} {l : List β} (h : FM one l) (st : ku' β) {e x y : β} (ie : e * e = e) (hx : Un e (e * (x * e))) (hy : Un e (e * (y * e))) : e * (x * (y * e)) = e * (x * e) * (e * (y * e)) := by
  obtain ⟨p', p1, p2, p3, p4⟩ := hx.ex
  obtain ⟨q', q1, q2, q3, q4⟩ := hy.ex
  have ie' : ∀ z, e * (e * z) = e * z := fun z => by rw [<- h.as, ie]
  have p1' : ∀ z, e * (p' * z) = p' * z := fun z => by rw [<- h.as, p1]
  have p2' : ∀ z, p' * (e * z) = p' * z := fun z => by rw [<- h.as, p2]
  have q1' : ∀ z, e * (q' * z) = q' * z := fun z => by rw [<- h.as, q1]
  have q2' : ∀ z, q' * (e * z) = q' * z := fun z => by rw [<- h.as, q2]
  -- g = p' x, h = y q'
  have a1 : p' * (x * e) = e := by rw [<- p2', p4]
  have a1' : ∀ z, p' * (x * (e * z)) = e * z := fun z => by
    have := congrArg (· * z) a1
    simpa only [h.as] using this
  have a2 : e * (x * p') = e := by
    have := p3
    rw [h.as, h.as, p1] at this
    exact this
  have a2' : ∀ z, e * (x * (p' * z)) = e * z := fun z => by
    have := congrArg (· * z) a2
    simpa only [h.as] using this
  have b1 : e * (y * q') = e := by
    have := q3
    rw [h.as, h.as, q1] at this
    exact this
  have b1' : ∀ z, e * (y * (q' * z)) = e * z := fun z => by
    have := congrArg (· * z) b1
    simpa only [h.as] using this
  have b2 : q' * (y * e) = e := by rw [<- q2', q4]
  have b2' : ∀ z, q' * (y * (e * z)) = e * z := fun z => by
    have := congrArg (· * z) b2
    simpa only [h.as] using this
  -- e, h g
  have gi : (p' * x) * (p' * x) = p' * x := by
    rw [h.as, <- p2', a2', p2']
  have hi : (y * q') * (y * q') = y * q' := by
    rw [h.as]
    have : q' * (y * q') = q' := by
      have := b2' q'
      rw [q1] at this
      exact this
    rw [this]
  have o1 : Om mu (e * ((y * q') * (p' * x))) (p' * x) := by
    have : e * ((y * q') * (p' * x)) = p' * x := by rw [h.as, b1', p1']
    rw [this]; exact pQ' gi
  have o2 : Om mu (((y * q') * (p' * x)) * e) (y * q') := by
    have : ((y * q') * (p' * x)) * e = y * q' := by rw [h.as, h.as p', a1, h.as, q2]
    rw [this]; exact pQ' hi
  have k := st _ _ _ _ o1 o2
  -- g h g = g
  have k2 : (p' * x) * (y * q') = e := by
    have := congrArg (· * e) k
    simp only [h.as, a1, q2] at this
    simpa only [h.as] using this
  have k2' : p' * (x * (y * q')) = e := by rw [<- h.as]; exact k2
  have f1 : e * (x * e) * (p' * (x * (y * (q' * (e * (y * e)))))) = e * (x * (y * e)) := by
    have : q' * (e * (y * e)) = e := q4
    rw [this, h.as, h.as, p1', a2']
  rw [<- f1]
  have f2 : p' * (x * (y * (q' * (e * (y * e))))) = e * (y * e) := by
    have := congrArg (· * (e * (y * e))) k2'
    simp only [h.as, ie'] at this
    exact this
  rw [f2]
section
variable {one : β} {l : List β} (gen : Nat -> β)
def dd (one : β) : List Nat -> β
  | [] => one
  | c :: z => gen c * dd one z
def DL (one : β) (lot : List Nat) (d : β) : Prop := ∃ z, (∀ c ∈ z, c ∈ lot) /\ d = dd gen one z
def FL (one : β) (lot : List Nat) (d : β) : Prop := ∃ z, (∀ c ∈ z, c ∈ lot) /\ (∀ c ∈ lot, c ∈ z) /\ d = dd gen one z
variable {gen}
theorem nu' (h : FM one l) (x y : List Nat) : dd gen one (x ++ y) = dd gen one x * dd gen one y := by
  induction x with
  | nil => exact (h.l1 _).symm
  | cons c x ih => show gen c * dd gen one (x ++ y) = gen c * dd gen one x * dd gen one y; rw [ih, h.as]
theorem DL.sub (h : FM one l) {lot : List Nat} : Sub one (DL gen one lot) where
  cl := by
    rintro _ _ ⟨x, hx, rfl⟩ ⟨y, hy, rfl⟩
    exact ⟨x ++ y, fun c hc => (List.mem_append.1 hc).elim (hx c) (hy c), (nu' h x y).symm⟩
  o := ⟨[], by simp, rfl⟩
theorem FL.mul (h : FM one l) {lot : List Nat} {a b c : β} (ha : DL gen one lot a) (hb : FL gen one lot b) (hc : DL gen one lot c) : FL gen one lot (a * (b * c)) := by
  obtain ⟨x, x1, rfl⟩ := ha
  obtain ⟨y, y1, y2, rfl⟩ := hb
  obtain ⟨z, z1, rfl⟩ := hc
  refine ⟨x ++ (y ++ z), fun c hc => ?_, fun c hc => ?_, by rw [nu' h, nu' h]⟩
  . simp only [List.mem_append] at hc
    rcases hc with q | q | q
    . exact x1 c q
    . exact y1 c q
    . exact z1 c q
  . simp only [List.mem_append]
    exact .inr (.inl (y2 c hc))
end
end
section
variable {β : Type} [Mul β] {one : β} {l : List β}
end
end M
namespace M
section
local macro_rules | `(tactic| walk_at "s") => `(tactic| simp (disch := first | assumption | omega | decide) only [*, ↓x_C, ↓x_V, ↓xt', ↓xq', ↓vf', ↓u7', ↓qd', ↓u8', ↓se', ↓u5', ↓u9', ↓xv', ↓xu', ↓xr', ↓xs', ↓x_O, ↓xp', ↓xo', ↓sf', ↓r8', ↓qb', ↓qc', ↓sd', ↓va', ↓u6', ↓vc', ↓sc', ↓sb', sg', ↓nT', ↓vd', t7', xV', wy', uo', wz', v8', v7', qT', vM', vL', o9', uy', ux', oB', qP', m6', ox', oT', vY', vZ', rP', rO', pb', uz', uB', uA', qS', vK', vJ', tf', qR', mR', rl', tJ', qB', oc', n9', oa', ↓ve', tU', wA', oG', rq', ↓vb', ↓xn', ↓r6', ↓r7', ↓u3', ↓xm', ↓sa', ↓kZ', ↓r9', ↓xw', ↓u4',
  ↓sN', ↓sO', ↓vw', ↓vv', ↓xz', ↓vu', ↓vz', ↓vA', ↓sM', ↓vy', ↓vx', ↓vo', ↓sv',
  vj', vn', vi', vm', rF', rB', oX', wp', um', t6', uh', rI', ue', oH', o5', oV', oW', oU', Option.map_some, Option.map_none, Option.isSome_some, Option.isSome_none, Bool.bne_true, Bool.bne_false, rW', rf', rd', rh', rc', tC', rb', rg', rD', t9', rM', tX', uj', pV', vh', si', sh', sj', vl', sr', sq', su', qh', sm', vp', sk', sl', rY', sp', so', sn', vk', aV', qi', qe', hR', ql',
  uu', us', ut', nw', rQ', v1', wg', ua', ub', uq', wh', wb', wc', wC', wB', wD', we', wd', wf', beq_self_eq_true, rK', rL', nv', oY', oZ', o0', oL', wr', ws', o2', o3', xO', xP', xQ', xS', wk', wl', wv', wx', wu', t8', p4', p5', ug', ui', kn', wn', wq', o1', a5', pc', nF', kJ', oD', ne', rV', iY', List.getElem?_map, hF', tx', v4', v6', rx', v5', p6', o8', t4', t5', uk', rJ', rs', v2', up', rN', ko', o4', rr', wt', un', wL', wj', wi', t0', tY', tZ', rt', rE', rC', ru', iA', kO', iC', iz', iy', iB', iD', hw', iF', hz', hv', hu', hy', hA', it', kN', iv', is', ir', iu', iw', f4', g8', f6', f3', f1', f5', f7', hf', ix', hi', hd', g9', hh', hk', hn', iE', hs', hm', hl', hq', ht', v0', wK', wJ', t3', km', t2', wa', v9', tT', tW', tS', tV', wE', wF', rA', rz', ud', uF', xU', xT', ww', xR', wm', uc', uf', n5', wo', ul', t1', v3', qj', nM', String.reduceEq, reduceIte, qg', List.getElem?_set_self, List.getElem?_set_ne, List.set_set, rG', wG', rH', wI', wH', chD,
  decide_true, decide_false, frz, no', uD', tn1, Int.zero_add, Bool.not_false, Bool.not_true, Bool.and_true, Bool.true_and, Bool.and_false, Bool.false_and, Bool.or_true, Bool.true_or, Bool.or_false, Bool.false_or, List.getElem?_cons_zero, List.getElem?_cons_succ, List.set_cons_zero, List.set_cons_succ, List.length_cons, List.length_nil, List.map_cons, List.map_nil, List.cons_append, List.nil_append, List.replicate_succ, List.replicate_zero, List.length_map, List.length_range, List.length_set, Int.toNat_natCast, and_self, or_true, true_or, true_and, and_true, or_self, Int.reduceToNat, Int.toNat_zero, Int.toNat_one, Int.reduceNeg, Int.reducePow, Int.reduceAdd, Int.reduceSub, Int.reduceMul, Int.reduceLT, Int.reduceLE, Nat.reduceAdd, Nat.reduceSub, Nat.reduceLT, Nat.reduceLeDiff])
local macro_rules | `(tactic| walk_at "f0") => `(tactic| (refine th' ?_ rfl; simp only [List.map_cons, List.map_nil, List.replicate_succ, List.replicate_zero, List.cons_append, List.nil_append, Nat.reduceSub]))
local macro_rules | `(tactic| walk_at "f") => `(tactic| (walk_at "f0"; walk_at "s"))
local macro_rules | `(tactic| walk_at "l") => `(tactic| (intro env2_ he_; simp only [a5', List.set_cons_zero, List.set_cons_succ] at he_; rw [he_]; clear he_))
theorem kM' {w : W} {n : Nat} {m : Int} (h : bH' w n) (h1 : 0 < m) (h2 : m < 1606938044258990275541962092341162602522202993782792835301376) : wF (f__law_draw [.obj n, .int m] w) (fun o w' => ∃ d, o = .fz (.int d) /\ 0 <= d /\ d < m /\ bH' w' n /\ But n w w') FX := by
  obtain ⟨cells, i, b, s, c, hw, hi⟩ := h
  have hn := cf' hw
  unfold f__law_draw
  walk_at "f0"
  refine fH' (fun ρ => ∃ x w', ρ = ⟨[some (.fz (.obj n)), some (.fz (.int m)), x, none, none], w'⟩ /\ bH' w' n /\ But n w w') ?_ ?_
  . walk_at "s"
    refine aT' (fun hb => ?_) (fun hb => ?_)
    . walk_at "s"
      refine aT' (fun hc => ?_) (fun hc => ?_)
      . walk_at "s"
        refine be' ?_ fun x _ hx => ?_
        . omega
        walk_at "s"
        refine aT' (fun hc => ?_) (fun hc => ?_)
        . walk_at "s"
          exact ⟨_, _, rfl, ⟨cells, _, _, _, _, List.getElem?_set_self hn, by omega⟩, But.refl.set⟩
        . walk_at "s"
          exact ⟨_, _, rfl, ⟨cells, _, _, _, _, List.getElem?_set_self hn, by omega⟩, But.refl.set⟩
      . walk_at "s"
        exact ⟨_, _, rfl, ⟨cells, _, _, _, _, hw, hi⟩, But.refl⟩
    . walk_at "s"
      exact ⟨_, _, rfl, ⟨cells, _, _, _, _, hw, hi⟩, But.refl⟩
  . rintro ρ1 ⟨x, w1, rfl, ⟨cells1, i1, b1, s1, c1, hw1, hi1⟩, bt⟩
    have hn1 := cf' hw1
    walk_at "s"
    refine aT' (fun hb => ?_) (fun hb => ?_)
    . walk_at "s"
      exact ⟨_, rfl, Int.emod_nonneg _ (by omega), Int.emod_lt_of_pos _ h1, ⟨cells1, _, _, _, _, List.getElem?_set_self hn1, hi1⟩, bt.set⟩
    . walk_at "s"
      exact ⟨_, rfl, Int.emod_nonneg _ (by omega), Int.emod_lt_of_pos _ h1, ⟨cells1, _, _, _, _, List.getElem?_set_self hn1, hi1⟩, bt.set⟩
theorem aU' {w : W} {n : Nat} {m : Int} (h : bH' w n) (h1 : 0 < m) (h2 : m < 1606938044258990275541962092341162602522202993782792835301376) : wF (f__law_draw [.obj n, .int m] w) (fun o w' => ∃ d : Nat, o = .fz (.int (d : Nat)) /\ (d : Int) < m /\ bH' w' n /\ But n w w') FX := by
  refine (kM' h h1 h2).mono ?_
  rintro _ w' ⟨d, rfl, h3, h4, h5, h6⟩
  exact ⟨d.toNat, by rw [Int.toNat_of_nonneg h3], by rw [Int.toNat_of_nonneg h3]; exact h4, h5, h6⟩
theorem nm' {w : W} {ns : List Int} (hl : ns.length <= 63) : wF (f__law_hand [.scr (ns.map .int)] w) (fun o w' => o = .fz (.obj w.length) /\ bH' w' w.length /\ w'.length = w.length + 1 /\ ∀ j, j < w.length -> w'[j]? = w[j]?) FX := by
  unfold f__law_hand
  walk_at "f"
  have e : cut (ns.map D.int) none (some 63) = (ns.take 63).map .int := by
    rw [p6' (by decide), <- List.map_take]
    rfl
  have e2 : ns.take 63 = ns := List.take_of_length_le hl
  rw [e2] at e
  try rw [e]
  try rw [show List.take 63 (List.map D.int ns) = ns.map D.int by rw [<- List.map_take, e2]]
  refine fq' (by omega) (fun pre acc ρ => acc = pre.map (fun i => .int (if i < 0 then -i else i)) /\ ∃ x, ρ = ⟨[some (.fz (.scr (ns.map .int))), none, x], w⟩) ⟨rfl, _, rfl⟩ ?_ ?_
  . rintro pre c post acc _ e ⟨rfl, x, rfl⟩
    walk_at "s"
    exact ⟨by simp, _, rfl⟩
  . rintro acc _ ⟨rfl, x, rfl⟩
    walk_at "s"
    refine ⟨⟨ns.map (fun i => if i < 0 then -i else i), 0, 0, 1 + ns.length, 0, ?_, by decide⟩, by simp, fun j hj => ?_⟩
    . rw [List.getElem?_append_right (Nat.le_refl _), Nat.sub_self]
      rw [List.map_map]
      rfl
    . rw [List.getElem?_append_left hj]
theorem gM' {α : Type} {l f : List α} {d : Nat} {x : α} (h : l[d]? = some x) : ((l.take d ++ l.drop (d + 1)) ++ (f ++ [x])).Perm (l ++ f) := by
  obtain ⟨hd, e⟩ := List.getElem?_eq_some_iff.mp h
  have h1 : l = l.take d ++ x :: l.drop (d + 1) := by rw [<- e, List.getElem_cons_drop, List.take_append_drop]
  generalize l.take d = a at *
  generalize l.drop (d + 1) = b at *
  subst h1
  simp only [List.append_assoc, List.cons_append]
  refine List.Perm.append_left a ?_
  rw [<- List.append_assoc]
  exact List.perm_append_comm
theorem dy' {w : W} {n : Nat} {s : Tx} {m : Nat} (h : bH' w n) (hs : s.length < 1073741) (hm : m <= s.length) : wF (f__law_letters [.obj n, .str s, .int m] w) (fun o w' => ∃ r t : Tx, o = .fz (.str r) /\ r.length = m /\ (t ++ r).Perm s /\ bH' w' n /\ But n w w') FX := by
  unfold f__law_letters
  walk_at "f"
  refine dk' (fun k ρ => ∃ x y, ∃ t r : Tx, ∃ w', ρ = ⟨[some (.fz (.obj n)), some (.fz (.str s)), some (.fz (.int m)), some (.fz (.str t)), some (.fz (.str r)), x, y], w'⟩ /\ r.length = k /\ (t ++ r).Perm s /\ bH' w' n /\ But n w w') ⟨_, _, _, _, _, rfl, rfl, by simp, h, But.refl⟩ ?_ ?_
  . rintro k ρ hk ⟨x, y, t, r, w1, rfl, rfl, hp, hh, hb⟩
    have hl := hp.length_eq
    rw [List.length_append] at hl
    walk_at "s"
    refine (aU' hh (by omega) (by omega)).mono ?_
    rintro _ w2 ⟨d, rfl, h3, h4, h5⟩
    walk_at "s"
    refine be' (by omega) fun c _ hc => ?_
    walk_at "s"
    have hl2 : (t.take d).length + (t.drop (d + 1)).length <= 16777216 := by rw [List.length_take, List.length_drop]; omega
    walk_at "s"
    refine ⟨_, _, _, _, _, rfl, by simp, ?_, h4, hb.trans h5⟩
    exact (gM' hc).trans hp
  . rintro ρ ⟨x, y, t, r, w1, rfl, e, hp, hh, hb⟩
    walk_at "s"
    exact ⟨r, t, rfl, e, hp⟩
theorem cW' {α β : Type} (f : α -> β) : ∀ (l : List α) (i : Nat), (l.map f).eraseIdx i = (l.eraseIdx i).map f
  | [], _ => rfl
  | _ :: _, 0 => rfl
  | a :: l, i + 1 => by simp [List.eraseIdx, cW' f l i]
theorem fG' {w : W} {n : Nat} {l : List D} (h : bH' w n) (hs : l.length < 1073741) : wF (f__law_shuffled [.obj n, .lst l] w) (fun o w' => ∃ r : List D, o = .lst (r.map .fz) /\ r.Perm l /\ bH' w' n /\ But n w w') FX := by
  unfold f__law_shuffled
  walk_at "f"
  refine dk' (fun k ρ => ∃ x, ∃ t r : List D, ∃ w', ρ = ⟨[some (.fz (.obj n)), some (.fz (.lst l)), some (.lst (t.map .fz)), some (.lst (r.map .fz)), x], w'⟩ /\ r.length = k /\ (t ++ r).Perm l /\ bH' w' n /\ But n w w') ⟨_, _, [], _, rfl, rfl, by simp, h, But.refl⟩ ?_ ?_
  . rintro k ρ hk ⟨x, t, r, w1, rfl, rfl, hp, hh, hb⟩
    have hl := hp.length_eq
    rw [List.length_append] at hl
    walk_at "s"
    refine (aU' hh (by omega) (by omega)).mono ?_
    rintro _ w2 ⟨d, rfl, h3, h4, h5⟩
    have hd : d < t.length := by omega
    walk_at "s"
    refine be' (by omega) fun c _ hc => ?_
    walk_at "s"
    refine ⟨_, t.eraseIdx d, r ++ [c], _, by rw [cW'], by simp, ?_, h4, hb.trans h5⟩
    rw [List.eraseIdx_eq_take_drop_succ]
    exact (gM' hc).trans hp
  . rintro ρ ⟨x, t, r, w1, rfl, e, hp, hh, hb⟩
    walk_at "s"
    have hl := hp.length_eq
    rw [List.length_append] at hl
    have ht : t = [] := List.eq_nil_of_length_eq_zero (by omega)
    subst ht
    exact ⟨r, rfl, hp⟩
def uE' (T : List (List Nat)) (k many size : Nat) : Prop := T.length = k /\ ∀ r ∈ T, r.length = many /\ ∀ t ∈ r, t < size
theorem bZ' (a b : Int) : (c0' a b).length = (b - a).toNat := by simp [c0']
theorem fo' {m : Nat} {d : D} (h : d ∈ c0' 0 m) : ∃ v : Nat, v < m /\ d = .int (v : Nat) := by
  unfold c0' at h
  obtain ⟨v, hv, rfl⟩ := List.mem_map.mp h
  exact ⟨v, by have := List.mem_range.mp hv; omega, by simp⟩
def Hd (o : O) (ds : List D) : Prop := o = .lst (ds.map .fz) \/ o = .fz (.lst ds)
theorem of' {w : W} {n : Nat} {kind size many : Nat} (h : bH' w n) (hs : 1 <= size) (hs2 : size < 1000) (hm : 1 <= many) (hm2 : many < 1000) : wF (f__law_rows [.obj n, .int kind, .int size, .int many] w) (fun o w' => ∃ T, o = .fz (bg' T) /\ bl' T size many /\ bH' w' n /\ But n w w') FX := by
  unfold f__law_rows
  walk_at "f"
  refine fq' (by simp; omega) (fun pre acc ρ => (∃ l : List Nat, acc = l.map (fun t => .int (t : Nat)) /\ l.length = pre.length) /\ ∃ x w', ρ = ⟨[some (.fz (.obj n)), some (.fz (.int kind)), some (.fz (.int size)), some (.fz (.int many)), some (.lst []), none, none, none, none, x, none], w'⟩ /\ bH' w' n /\ But n w w') ⟨⟨[], rfl, rfl⟩, _, _, rfl, h, But.refl⟩ ?_ ?_
  . rintro pre c post acc _ e ⟨⟨l, rfl, hl⟩, x, w1, rfl, hh, hb⟩
    walk_at "s"
    refine (aU' hh (by omega) (by omega)).mono ?_
    rintro _ w2 ⟨d, rfl, h3, h4, h5⟩
    walk_at "s"
    exact ⟨⟨l ++ [d], by simp, by simp [hl]⟩, _, _, rfl, h4, hb.trans h5⟩
  . rintro _ _ ⟨⟨steps, rfl, hsteps⟩, x, w1, rfl, hh, hb⟩
    have hsl : steps.length = many := by rw [hsteps]; simp
    walk_at "s"
    refine fq' (by simp; omega) (fun pre acc ρ => (∃ l : List (List D), acc = l.map .lst /\ l.length = pre.length /\ ∀ r ∈ l, r.Perm (c0' 0 size)) /\ ∃ x w', ρ = ⟨[some (.fz (.obj n)), some (.fz (.int kind)), some (.fz (.int size)), some (.fz (.int many)), some (.lst []), some (.lst ((steps.map (fun t => D.int (t : Nat))).map .fz)), none, none, none, x, none], w'⟩ /\ bH' w' n /\ But n w w') ⟨⟨[], rfl, rfl, by simp⟩, _, _, rfl, hh, hb⟩ ?_ ?_
    . rintro pre c post acc _ e ⟨⟨l, rfl, hl, hp⟩, x, w1, rfl, hh, hb⟩
      walk_at "s"
      refine (fG' hh (by rw [bZ']; omega)).mono ?_
      rintro _ w2 ⟨d, rfl, h3, h4, h5⟩
      walk_at "s"
      exact ⟨⟨l ++ [d], by simp, by simp [hl], by simpa [or_imp, forall_and] using ⟨hp, h3⟩⟩, _, _, rfl, h4, hb.trans h5⟩
    . rintro _ _ ⟨⟨turns, rfl, hturns, hperm⟩, x, w2, rfl, hh, hb⟩
      have htl : turns.length = many := by rw [hturns]; simp
      walk_at "s"
      refine dk' (fun k ρ => ∃ o5 o6 x7 x8 x9 x10 w', ∃ T : List (List Nat), ρ = ⟨[some (.fz (.obj n)), some (.fz (.int kind)), some (.fz (.int size)), some (.fz (.int many)), some (.lst ((T.map bp').map .fz)), some o5, some o6, x7, x8, x9, x10], w'⟩ /\ Hd o5 (steps.map (fun t => D.int (t : Nat))) /\ Hd o6 (turns.map .lst) /\ bH' w' n /\ But n w w' /\ uE' T k many size) ⟨_, _, _, _, _, _, _, [], rfl, .inl rfl, .inl rfl, hh, hb, rfl, by simp⟩ ?_ ?_
      . rintro state _ hst ⟨o5, o6, x7, x8, x9, x10, w3, T, rfl, h5, h6, hh3, hb3, hT, hTr⟩
        walk_at "s"
        refine dk' (fun k ρ => ∃ o5 o6 x9 x10 w', ∃ row : List Nat, ρ = ⟨[some (.fz (.obj n)), some (.fz (.int kind)), some (.fz (.int size)), some (.fz (.int many)), some (.lst ((T.map bp').map .fz)), some o5, some o6, some (.fz (.int (state : Nat))), some (.lst ((row.map fun t => D.int (t : Nat)).map .fz)), x9, x10], w'⟩ /\ Hd o5 (steps.map (fun t => D.int (t : Nat))) /\ Hd o6 (turns.map .lst) /\ bH' w' n /\ But n w w' /\ row.length = k /\ ∀ t ∈ row, t < size) ⟨_, _, _, _, _, [], rfl, h5, h6, hh3, hb3, rfl, by simp⟩ ?_ ?_
        . rintro letter _ hle ⟨o5, o6, x9, x10, w4, row, rfl, h5, h6, hh4, hb4, hrow, hrt⟩
          walk_at "s"
          refine (aU' hh4 (by omega) (by omega)).mono ?_
          rintro _ w5 ⟨d, rfl, hd, hh5, hb5⟩
          walk_at "s"
          have ht0 : (0 : Int) <= d := by omega
          generalize (d : Int) = t at hd ht0
          refine cw' (fun ρ => ∃ o5 o6, ∃ t : Int, ρ = ⟨[some (.fz (.obj n)), some (.fz (.int kind)), some (.fz (.int size)), some (.fz (.int many)), some (.lst ((T.map bp').map .fz)), some o5, some o6, some (.fz (.int (state : Nat))), some (.lst ((row.map fun t => D.int (t : Nat)).map .fz)), some (.fz (.int (letter : Nat))), some (.fz (.int t))], w5⟩ /\ Hd o5 (steps.map (fun t => D.int (t : Nat))) /\ Hd o6 (turns.map .lst) /\ 0 <= t /\ t < size) (aT' (fun hk3 => ?_) (fun _ => ?_)) ?_
          . walk_at "s"
            rcases h5 with rfl | rfl
            . walk_at "s"
              refine be' (by omega) fun z hz _ => ?_
              walk_at "s"
              exact ⟨_, _, _, rfl, .inr rfl, h6, Int.emod_nonneg _ (by omega), Int.emod_lt_of_pos _ (by omega)⟩
            . walk_at "s"
              refine be' (by omega) fun z hz _ => ?_
              walk_at "s"
              exact ⟨_, _, _, rfl, .inr rfl, h6, Int.emod_nonneg _ (by omega), Int.emod_lt_of_pos _ (by omega)⟩
          . walk_at "s"
            exact ⟨_, _, _, rfl, h5, h6, ht0, hd⟩
          rintro ρ5 hJ
          rcases hJ with ⟨o5, o6, t, rfl, h5, h6, ht0, hd⟩
          walk_at "s"
          refine cw' (fun ρ => ∃ o5 o6, ∃ t : Int, ρ = ⟨[some (.fz (.obj n)), some (.fz (.int kind)), some (.fz (.int size)), some (.fz (.int many)), some (.lst ((T.map bp').map .fz)), some o5, some o6, some (.fz (.int (state : Nat))), some (.lst ((row.map fun t => D.int (t : Nat)).map .fz)), some (.fz (.int (letter : Nat))), some (.fz (.int t))], w5⟩ /\ Hd o5 (steps.map (fun t => D.int (t : Nat))) /\ Hd o6 (turns.map .lst) /\ 0 <= t /\ t < size) (aT' (fun hk3 => ?_) (fun _ => ?_)) ?_
          . walk_at "s"
            rcases h5 with rfl | rfl
            . walk_at "s"
              refine be' (by omega) fun z hz _ => ?_
              walk_at "s"
              exact ⟨_, _, _, rfl, .inr rfl, h6, by omega, by omega⟩
            . walk_at "s"
              refine be' (by omega) fun z hz _ => ?_
              walk_at "s"
              exact ⟨_, _, _, rfl, .inr rfl, h6, by omega, by omega⟩
          . walk_at "s"
            exact ⟨_, _, _, rfl, h5, h6, ht0, hd⟩
          rintro ρ5 hJ
          rcases hJ with ⟨o5, o6, t, rfl, h5, h6, ht0, hd⟩
          walk_at "s"
          refine cw' (fun ρ => ∃ o5 o6, ∃ t : Int, ρ = ⟨[some (.fz (.obj n)), some (.fz (.int kind)), some (.fz (.int size)), some (.fz (.int many)), some (.lst ((T.map bp').map .fz)), some o5, some o6, some (.fz (.int (state : Nat))), some (.lst ((row.map fun t => D.int (t : Nat)).map .fz)), some (.fz (.int (letter : Nat))), some (.fz (.int t))], w5⟩ /\ Hd o5 (steps.map (fun t => D.int (t : Nat))) /\ Hd o6 (turns.map .lst) /\ 0 <= t /\ t < size) (aT' (fun hk3 => ?_) (fun _ => ?_)) ?_
          . walk_at "s"
            refine aT' (fun _ => ?_) (fun _ => ?_)
            . walk_at "s"
              exact ⟨_, _, _, rfl, h5, h6, Int.emod_nonneg _ (by omega), Int.emod_lt_of_pos _ (by omega)⟩
            . walk_at "s"
              exact ⟨_, _, _, rfl, h5, h6, by omega, by omega⟩
          . walk_at "s"
            exact ⟨_, _, _, rfl, h5, h6, ht0, hd⟩
          rintro ρ5 hJ
          rcases hJ with ⟨o5, o6, t, rfl, h5, h6, ht0, hd⟩
          walk_at "s"
          refine cw' (fun ρ => ∃ o5 o6, ∃ t : Int, ρ = ⟨[some (.fz (.obj n)), some (.fz (.int kind)), some (.fz (.int size)), some (.fz (.int many)), some (.lst ((T.map bp').map .fz)), some o5, some o6, some (.fz (.int (state : Nat))), some (.lst ((row.map fun t => D.int (t : Nat)).map .fz)), some (.fz (.int (letter : Nat))), some (.fz (.int t))], w5⟩ /\ Hd o5 (steps.map (fun t => D.int (t : Nat))) /\ Hd o6 (turns.map .lst) /\ 0 <= t /\ t < size) (aT' (fun hk3 => ?_) (fun _ => ?_)) ?_
          . walk_at "s"
            exact ⟨_, _, _, rfl, h5, h6, Int.emod_nonneg _ (by omega), Int.emod_lt_of_pos _ (by omega)⟩
          . walk_at "s"
            exact ⟨_, _, _, rfl, h5, h6, ht0, hd⟩
          rintro ρ5 hJ
          rcases hJ with ⟨o5, o6, t, rfl, h5, h6, ht0, hd⟩
          walk_at "s"
          refine cw' (fun ρ => ∃ o5 o6, ∃ t : Int, ρ = ⟨[some (.fz (.obj n)), some (.fz (.int kind)), some (.fz (.int size)), some (.fz (.int many)), some (.lst ((T.map bp').map .fz)), some o5, some o6, some (.fz (.int (state : Nat))), some (.lst ((row.map fun t => D.int (t : Nat)).map .fz)), some (.fz (.int (letter : Nat))), some (.fz (.int t))], w5⟩ /\ Hd o5 (steps.map (fun t => D.int (t : Nat))) /\ Hd o6 (turns.map .lst) /\ 0 <= t /\ t < size) (aT' (fun hk3 => ?_) (fun _ => ?_)) ?_
          . walk_at "s"
            refine ⟨_, _, _, rfl, h5, h6, ?_, ?_⟩
            . split <;> omega
            . split <;> omega
          . walk_at "s"
            exact ⟨_, _, _, rfl, h5, h6, ht0, hd⟩
          rintro ρ5 hJ
          rcases hJ with ⟨o5, o6, t, rfl, h5, h6, ht0, hd⟩
          walk_at "s"
          refine cw' (fun ρ => ∃ o5 o6, ∃ t : Int, ρ = ⟨[some (.fz (.obj n)), some (.fz (.int kind)), some (.fz (.int size)), some (.fz (.int many)), some (.lst ((T.map bp').map .fz)), some o5, some o6, some (.fz (.int (state : Nat))), some (.lst ((row.map fun t => D.int (t : Nat)).map .fz)), some (.fz (.int (letter : Nat))), some (.fz (.int t))], w5⟩ /\ Hd o5 (steps.map (fun t => D.int (t : Nat))) /\ Hd o6 (turns.map .lst) /\ 0 <= t /\ t < size) (aT' (fun hk3 => ?_) (fun _ => ?_)) ?_
          . walk_at "s"
            refine aT' (fun _ => ?_) (fun _ => ?_)
            . walk_at "s"
              refine aT' (fun _ => ?_) (fun _ => ?_)
              . walk_at "s"
                refine ⟨_, _, _, rfl, h5, h6, Int.emod_nonneg _ (by omega), ?_⟩
                have := Int.emod_lt_of_pos ((state : Int) + 1) (show (0 : Int) < (size : Int) - 1 by omega)
                omega
              . walk_at "s"
                exact ⟨_, _, _, rfl, h5, h6, by omega, by omega⟩
            . walk_at "s"
              exact ⟨_, _, _, rfl, h5, h6, by omega, by omega⟩
          . walk_at "s"
            exact ⟨_, _, _, rfl, h5, h6, ht0, hd⟩
          rintro ρ5 hJ
          rcases hJ with ⟨o5, o6, t, rfl, h5, h6, ht0, hd⟩
          walk_at "s"
          refine cw' (fun ρ => ∃ o5 o6, ∃ t : Int, ρ = ⟨[some (.fz (.obj n)), some (.fz (.int kind)), some (.fz (.int size)), some (.fz (.int many)), some (.lst ((T.map bp').map .fz)), some o5, some o6, some (.fz (.int (state : Nat))), some (.lst ((row.map fun t => D.int (t : Nat)).map .fz)), some (.fz (.int (letter : Nat))), some (.fz (.int t))], w5⟩ /\ Hd o5 (steps.map (fun t => D.int (t : Nat))) /\ Hd o6 (turns.map .lst) /\ 0 <= t /\ t < size) (aT' (fun hk3 => ?_) (fun _ => ?_)) ?_
          . walk_at "s"
            rcases h6 with rfl | rfl
            . walk_at "s"
              refine be' (by omega) fun z hz _ => ?_
              have hp := hperm z hz
              have hpl := hp.length_eq
              rw [bZ'] at hpl
              walk_at "s"
              refine be' (by omega) fun y hy _ => ?_
              obtain ⟨v, hv, rfl⟩ := fo' (hp.mem_iff.mp hy)
              walk_at "s"
              exact ⟨_, _, _, rfl, h5, .inr rfl, by omega, by omega⟩
            . walk_at "s"
              refine be' (by omega) fun z hz _ => ?_
              have hp := hperm z hz
              have hpl := hp.length_eq
              rw [bZ'] at hpl
              walk_at "s"
              refine be' (by omega) fun y hy _ => ?_
              obtain ⟨v, hv, rfl⟩ := fo' (hp.mem_iff.mp hy)
              walk_at "s"
              exact ⟨_, _, _, rfl, h5, .inr rfl, by omega, by omega⟩
          . walk_at "s"
            exact ⟨_, _, _, rfl, h5, h6, ht0, hd⟩
          rintro ρ5 hJ
          rcases hJ with ⟨o5, o6, t, rfl, h5, h6, ht0, hd⟩
          obtain ⟨t, rfl⟩ := Int.eq_ofNat_of_zero_le ht0
          walk_at "s"
          exact ⟨_, _, _, _, _, row ++ [t], by simp; exact ⟨rfl, rfl⟩, h5, h6, hh5, hb4.trans hb5, by simp [hrow], by simpa [or_imp, forall_and] using ⟨hrt, by omega⟩⟩
        . rintro _ ⟨o5, o6, x9, x10, w4, row, rfl, h5, h6, hh4, hb4, hrow, hrt⟩
          walk_at "s"
          exact ⟨_, _, _, _, _, _, _, T ++ [row], by simp [bp']; exact ⟨rfl, rfl, rfl, rfl⟩, h5, h6, hh4, hb4, by simp [hT], by
            simp only [List.mem_append, List.mem_singleton]
            rintro r (hr | rfl)
            . exact hTr r hr
            . exact ⟨hrow, hrt⟩⟩
      . rintro _ ⟨o5, o6, x7, x8, x9, x10, w3, T, rfl, h5, h6, hh3, hb3, hT, hTr⟩
        walk_at "s"
        exact ⟨T, rfl, hT, hTr⟩
theorem mu' {w : W} {n : Nat} {kind size many : Nat} (h : bH' w n) (hs : 1 <= size) (hs2 : size < 1000) (hm : 1 <= many) (hm2 : many < 1000) (hk : kind <= 4 \/ 2 <= size) : wF (f__law_rows [.obj n, .int kind, .int size, .int many] w) (fun o w' => ∃ T, o = .fz (bg' T) /\ bl' T size many /\ bH' w' n /\ But n w w') FX := of' h hs hs2 hm hm2
theorem h8' {n : Nat} {pre post : List Nat} {c : Nat} (e : List.range n = pre ++ c :: post) : c = pre.length /\ pre.length < n := by
  have h1 : (List.range n)[pre.length]? = some c := by rw [e]; simp
  have h2 : pre.length < n := by
    have := congrArg List.length e
    simp at this
    omega
  rw [List.getElem?_range h2] at h1
  exact ⟨(Option.some.inj h1).symm, h2⟩
theorem ca' (s : Tx) : (bq' s).length = s.length := List.length_mergeSort s
theorem bP' (s : Tx) : (bq' s).Perm s := List.mergeSort_perm s _
theorem n3' (s : Tx) : (bq' s).Pairwise (· <= ·) := by
  have := List.pairwise_mergeSort (le := fun a b : Nat => decide (a <= b)) (fun a b c h1 h2 => by simp at *; omega) (fun a b => by simp; omega) s
  exact this.imp (by simp)
theorem dW' {s : Tx} (h : s.Nodup) : (bq' s).Pairwise (· < ·) := by
  have h1 := n3' s
  have h2 : (bq' s).Nodup := (bP' s).nodup_iff.mpr h
  exact (h1.and h2).imp (fun h => by have := h.1; have := h.2; omega)
theorem de' {w : W} {n : Nat} {most states : Nat} (h : bH' w n) (hm : 1 <= most) (hm2 : most <= 26) (hs : 2 <= states) (hs2 : states < 100) : wF (f__law_parts [.obj n, .int most, .int states] w) (fun o w' => ∃ L T A, o = .fz (.tup [.str L, bg' T, bm' A]) /\ MacOk L T A most states /\ bH' w' n /\ But n w w') FX := by
  unfold f__law_parts
  walk_at "f"
  refine (aU' h (by omega) (by omega)).mono ?_
  rintro _ w1 ⟨kind, rfl, hkind, h1, b1⟩
  walk_at "s"
  refine (aU' h1 (by omega) (by omega)).mono ?_
  rintro _ w2 ⟨many0, rfl, hmany0, h2, b2⟩
  walk_at "s"
  refine (aU' h2 (by omega) (by omega)).mono ?_
  rintro _ w3 ⟨size0, rfl, hsize0, h3, b3⟩
  walk_at "s"
  refine cw' (fun ρ => ∃ many size : Nat, ρ = ⟨[some (.fz (.obj n)), some (.fz (.int most)), some (.fz (.int states)), some (.fz (.int kind)), some (.fz (.int many)), some (.fz (.int size)), none, none, none, none], w3⟩ /\ 1 <= many /\ many <= most /\ 1 <= size /\ size <= states /\ (kind <= 4 \/ 2 <= size)) (aT' (fun hk => ?_) (fun hk => ?_)) ?_
  . walk_at "s"
    refine ⟨max (min 2 most) (1 + many0), max 2 (1 + size0), ?_, by omega, by omega, by omega, by omega, by omega⟩
    have e1 : ((max (min 2 most) (1 + many0) : Nat) : Int) = max (min 2 (most : Int)) (1 + (many0 : Int)) := by omega
    have e2 : ((max 2 (1 + size0) : Nat) : Int) = max 2 (1 + (size0 : Int)) := by omega
    rw [e1, e2]
  . walk_at "s"
    refine ⟨1 + many0, 1 + size0, ?_, by omega, by omega, by omega, by omega, by omega⟩
    have e1 : ((1 + many0 : Nat) : Int) = (1 + (many0 : Int)) := by omega
    have e2 : ((1 + size0 : Nat) : Int) = (1 + (size0 : Int)) := by omega
    rw [e1, e2]
  rintro _ ⟨many, size, rfl, hm1, hmm, hs1, hss, hks⟩
  walk_at "s"
  refine (dy' h3 (by decide) (by simp; omega)).mono ?_
  rintro _ w4 ⟨r, t, rfl, hr, hperm, h4, b4⟩
  have hnd : r.Nodup := by
    have : (t ++ r).Nodup := hperm.nodup_iff.mpr (by decide)
    exact (List.nodup_append.mp this).2.1
  have hlen := ca' r
  have hlow : ∀ c ∈ bq' r, 97 <= c /\ c <= 122 := fun c hc => fV'.mp (hperm.mem_iff.mp (List.mem_append_right t ((bP' r).mem_iff.mp hc)))
  walk_at "s"
  refine (mu' h4 hs1 (by omega) hm1 (by omega) hks).mono ?_
  rintro _ w5 ⟨T, rfl, hT, h5, b5⟩
  walk_at "s"
  refine fq' (by simp; omega) (fun pre acc ρ => (∃ A : List Nat, acc = A.map (fun a => .int (a : Nat)) /\ A.Pairwise (· < ·) /\ ∀ a ∈ A, a < pre.length) /\ ∃ x w', ρ = ⟨[some (.fz (.obj n)), some (.fz (.int most)), some (.fz (.int states)), some (.fz (.int kind)), some (.fz (.int many)), some (.fz (.int size)), some (.fz (.str (bq' r))), some (.fz (bg' T)), none, x], w'⟩ /\ bH' w' n /\ But n w w') ⟨⟨[], rfl, by simp, by simp⟩, _, _, rfl, h5, ((((b1.trans b2).trans b3).trans b4).trans b5)⟩ ?_ ?_
  . rintro pre c post acc _ e ⟨⟨A, rfl, hp, hA⟩, x, w6, rfl, h6, b6⟩
    obtain ⟨rfl, hlt⟩ := h8' e
    walk_at "s"
    refine (aU' h6 (by omega) (by omega)).mono ?_
    rintro _ w7 ⟨d, rfl, hd, h7, b7⟩
    walk_at "s"
    refine aT' (fun hd => ?_) (fun hd => ?_)
    . walk_at "s"
      refine ⟨⟨A ++ [pre.length], by simp, ?_, ?_⟩, _, _, rfl, h7, b6.trans b7⟩
      . rw [List.pairwise_append]
        exact ⟨hp, by simp, by simpa using hA⟩
      . simp only [List.mem_append, List.mem_singleton, List.length_append, List.length_singleton]
        rintro a (ha | rfl)
        . have := hA a ha; omega
        . omega
    . exact ⟨⟨A, rfl, hp, fun a ha => by have := hA a ha; simp; omega⟩, _, _, rfl, h7, b6.trans b7⟩
  . rintro _ _ ⟨⟨A, rfl, hp, hA⟩, x, w6, rfl, h6, b6⟩
    rw [List.length_range] at hA
    walk_at "s"
    refine ⟨_, T, A, rfl, ⟨⟨by omega, by omega, dW' hnd, hlow⟩, ?_, by rw [hT.1]; exact hs1, by rw [hT.1]; exact hss, ⟨hp, by rw [hT.1]; exact hA⟩⟩⟩
    rw [hlen, hr, hT.1]
    exact hT
theorem fx' {α β : Type} (f : α -> D) (g : β -> D) : ∀ (a : List α) (b : List β), cm' (a.map f) (b.map g) = (a.zip b).map fun p => .tup [f p.1, g p.2]
  | [], _ => by simp [cm']
  | _ :: _, [] => by simp [cm']
  | x :: a, y :: b => by simp [cm', fx' f g a b]
theorem eJ' : ∀ s : List Nat, s.Pairwise (· < ·) ↔ ∀ p ∈ s.zip (s.drop 1), p.1 < p.2
  | [] => by simp
  | [a] => by simp
  | a :: b :: r => by
    have ih := eJ' (b :: r)
    simp only [List.drop_succ_cons, List.drop_zero, List.zip_cons_cons, List.mem_cons, forall_eq_or_imp] at ih ⊢
    rw [List.pairwise_cons, <- ih]
    constructor
    . rintro ⟨h1, h2⟩
      exact ⟨h1 b (by simp), h2⟩
    . rintro ⟨h1, h2⟩
      refine ⟨?_, h2⟩
      rw [List.pairwise_cons] at h2
      intro c hc
      rcases List.mem_cons.mp hc with rfl | hc
      . exact h1
      . exact Nat.lt_trans h1 (h2.1 c hc)
theorem di' (s S : Tx) (w : W) : wF (f_is_string_of [.str s, .str S] w) (fun o w' => o = .fz (.bl (s.all fun c => decide (c ∈ S))) /\ w' = w) FX := by
  unfold f_is_string_of
  walk_at "f"
  refine ev' (fun pre ρ => ∃ x, ρ = ⟨[some (.fz (.str s)), some (.fz (.str S)), x], w⟩ /\ ∀ c ∈ pre, c ∈ S) ⟨_, rfl, by simp⟩ ?_ ?_
  . rintro pre c post _ e ⟨x, rfl, hp⟩
    walk_at "s"
    refine aT' (fun h => ?_) (fun h => ?_)
    . walk_at "s"
      exact ⟨_, rfl, by simpa [or_imp, forall_and] using ⟨hp, h⟩⟩
    . walk_at "s"
      refine uY' ?_
      rw [List.all_eq_false]
      exact ⟨c, by simp, by simpa using h⟩
  . rintro _ ⟨x, rfl, hp⟩
    walk_at "s"
    refine uX' ?_
    rw [List.all_eq_true]
    exact fun c hc => by simpa using hp c hc
theorem dj' (s : Tx) (w : W) : wF (f_is_ascending [.str s] w) (fun o w' => o = .fz (.bl (decide (s.Pairwise (· < ·)))) /\ w' = w) FX := by
  unfold f_is_ascending
  walk_at "f"
  rw [fx']
  refine ev' (fun pre ρ => ∃ x y, ρ = ⟨[some (.fz (.str s)), x, y], w⟩ /\ ∀ p ∈ pre, p.1 < p.2) ⟨_, _, rfl, by simp⟩ ?_ ?_
  . rintro pre c post _ e ⟨x, y, rfl, hp⟩
    walk_at "s"
    refine aT' (fun h => ?_) (fun h => ?_)
    . walk_at "s"
      refine ⟨_, _, rfl, ?_⟩
      have : c.1 < c.2 := by simpa [List.cons_lt_cons_iff] using h
      simp only [List.mem_append, List.mem_singleton]
      rintro p (hq | rfl)
      . exact hp p hq
      . exact this
    . walk_at "s"
      refine uY' ?_
      rw [decide_eq_false_iff_not, eJ']
      intro h2
      have := h2 c (by rw [e]; simp)
      exact h (by simpa [List.cons_lt_cons_iff] using this)
  . rintro _ ⟨x, y, rfl, hp⟩
    walk_at "s"
    refine uX' ?_
    rw [decide_eq_true_iff, eJ']
    exact hp
theorem eY' (s S : Tx) (w : W) : wF (f_is_choice [.str s, .str S] w) (fun o w' => o = .fz (.bl ((s.all fun c => decide (c ∈ S)) && decide (s.Pairwise (· < ·)))) /\ w' = w) FX := by
  unfold f_is_choice
  walk_at "f"
  refine (di' s S w).mono ?_
  rintro _ _ ⟨rfl, rfl⟩
  walk_at "s"
  refine qk' (fun h => ?_) (fun h => ?_)
  . walk_at "s"
    refine (dj' s _).mono ?_
    rintro _ _ ⟨rfl, rfl⟩
    walk_at "s"
  . walk_at "s"
theorem es' (i : Int) (w : W) : wF (f_is_integer [.int i] w) (fun o w' => o = .fz (.bl true) /\ w' = w) FX := by
  unfold f_is_integer
  walk_at "f"
theorem dN' (A : List Nat) (w : W) : wF (f_is_ascending [bm' A] w) (fun o w' => o = .fz (.bl (decide (A.Pairwise (· < ·)))) /\ w' = w) FX := by
  unfold f_is_ascending bm'
  walk_at "f"
  have e0 : (A.map fun a => D.int (a : Nat)).drop 1 = (A.drop 1).map fun a => D.int (a : Nat) := by rw [List.map_drop]
  rw [e0, fx']
  refine ev' (fun pre ρ => ∃ x y, ρ = ⟨[some (.fz (.tup (A.map fun a => .int (a : Nat)))), x, y], w⟩ /\ ∀ p ∈ pre, p.1 < p.2) ⟨_, _, rfl, by simp⟩ ?_ ?_
  . rintro pre c post _ e ⟨x, y, rfl, hp⟩
    walk_at "s"
    refine aT' (fun h => ?_) (fun h => ?_)
    . walk_at "s"
      refine uY' ?_
      rw [decide_eq_false_iff_not, eJ']
      intro h2
      have := h2 c (by rw [e]; simp)
      omega
    . walk_at "s"
      refine ⟨_, _, rfl, ?_⟩
      simp only [List.mem_append, List.mem_singleton]
      rintro p (hq | rfl)
      . exact hp p hq
      . omega
  . rintro _ ⟨x, y, rfl, hp⟩
    walk_at "s"
    refine uX' ?_
    rw [decide_eq_true_iff, eJ']
    exact hp
theorem cl' (A : List Nat) (m : Nat) (w : W) : wF (f_are_states [bm' A, .int m] w) (fun o w' => o = .fz (.bl (A.all fun a => decide (a < m))) /\ w' = w) FX := by
  unfold f_are_states bm'
  walk_at "f"
  refine ev' (fun pre ρ => ∃ x, ρ = ⟨[some (.fz (.tup (A.map fun a => .int (a : Nat)))), some (.fz (.int m)), x], w⟩ /\ ∀ a ∈ pre, a < m) ⟨_, rfl, by simp⟩ ?_ ?_
  . rintro pre c post _ e ⟨x, rfl, hp⟩
    walk_at "s"
    refine (es' _ _).mono ?_
    rintro _ _ ⟨rfl, rfl⟩
    walk_at "s"
    refine aT' (fun h => ?_) (fun h => ?_)
    . walk_at "s"
      refine uY' ?_
      rw [List.all_eq_false]
      exact ⟨c, by simp, by simp; omega⟩
    . walk_at "s"
      exact ⟨_, rfl, by simpa [or_imp, forall_and] using ⟨hp, by omega⟩⟩
  . rintro _ ⟨x, rfl, hp⟩
    walk_at "s"
    refine uX' ?_
    rw [List.all_eq_true]
    exact fun c hc => by simpa using hp c hc
theorem fW' {T : List (List Nat)} {L : Tx} (h : bl' T T.length L.length) (h1 : 1 <= T.length) (h2 : T.length <= 6) (w : W) : wF (f_is_table [bg' T, .str L] w) (fun o w' => o = .fz (.bl true) /\ w' = w) FX := by
  unfold f_is_table bg'
  walk_at "f"
  refine ev' (fun pre ρ => ∃ x, ρ = ⟨[some (.fz (.tup (T.map bp'))), some (.fz (.str L)), x], w⟩) ⟨_, rfl⟩ ?_ ?_
  . rintro pre c post _ e ⟨x, rfl⟩
    have hc := h.2 c (by rw [e]; simp)
    clear e
    walk_at "s"
    refine (cl' c T.length w).mono ?_
    rintro _ _ ⟨rfl, rfl⟩
    have e2 : (c.all fun a => decide (a < T.length)) = true := by rw [List.all_eq_true]; exact fun a ha => by simpa using hc.2 a ha
    have e3 := hc.1
    clear hc
    rw [e2]
    unfold bp'
    walk_at "s"
    exact ⟨_, rfl⟩
  . rintro _ ⟨x, rfl⟩
    walk_at "s"
theorem ov' {w : W} {n : Nat} (h : bH' w n) : wF (f__law_odd [.obj n] w) (fun o w' => ∃ d, o = .fz d /\ (d ∈ [D.non, .bl true, .bl false, .int 0, .int (-1), .int 7, .str [], .str [63], .str [65], .lst [], .tup [], .dct [] [], .lst [.str [97]], .tup [.str [97]], .dct [.str [97]] [.int 0], .lst [.lst [.int 0]]]) /\ bH' w' n /\ But n w w') FX := by
  have e1 : ∀ Q : O -> Prop, wD (fn' false (.str [97]) (.int 0)) Q = Q (.dct [.str [97]] [.fz (.int 0)]) := fun Q => by
    show wD (some _) Q = _
    rw [aV']
  unfold f__law_odd
  walk_at "f0"
  walk_at "s"
  refine (aU' h (by omega) (by omega)).mono ?_
  rintro _ w1 ⟨d, rfl, hd, h1, b1⟩
  walk_at "s"
  refine be' (by simp; omega) fun x hx _ => ?_
  walk_at "s"
  exact ⟨x, rfl, hx⟩
theorem nd' {w : W} {m : Nat} {L : Tx} {T : List (List Nat)} {A : List Nat} (h : w[m]? = some (.ins "Machine" [])) : wF (f_Machine_keep [.obj m, .str L, bg' T, bm' A] w) (fun o w' => o = .fz .non /\ w' = w.set m (kH' L T A)) FX := by
  have hm := cf' h
  unfold f_Machine_keep
  walk_at "f"
  rfl
theorem nj' {w : W} {m : Nat} {L : Tx} {T : List (List Nat)} {A : List Nat} (h : w[m]? = some (.ins "Machine" [])) (hM : MacOk L T A 4 6) : wF (f_Machine___init__ [.obj m, .str L, bg' T, bm' A] w) (fun o w' => o = .fz .non /\ w' = w.set m (kH' L T A)) FX := by
  have hL := hM.let'
  have h1 := hL.ne
  have h2 := hL.le
  have e1 : (L.all fun c => decide (c ∈ abc)) = true := by
    rw [List.all_eq_true]
    exact fun c hc => by rw [decide_eq_true_iff]; exact fV'.mpr (hL.abc c hc)
  have e2 : (A.all fun a => decide (a < T.length)) = true := by
    rw [List.all_eq_true]
    exact fun a ha => by simpa using hM.acc.lt a ha
  unfold f_Machine___init__
  walk_at "f0"
  walk_at "s"
  refine (eY' L abc w).mono ?_
  rintro _ _ ⟨rfl, rfl⟩
  rw [e1, decide_eq_true hL.asc]
  walk_at "s"
  refine (fW' hM.tab hM.ne hM.le _).mono ?_
  rintro _ _ ⟨rfl, rfl⟩
  walk_at "s"
  refine (cl' A T.length _).mono ?_
  rintro _ _ ⟨rfl, rfl⟩
  rw [e2]
  walk_at "s"
  refine (dN' A _).mono ?_
  rintro _ _ ⟨rfl, rfl⟩
  rw [decide_eq_true hM.acc.asc]
  walk_at "s"
  refine ⟨by simp [isIns, h], ?_⟩
  refine (nd' h).mono ?_
  rintro _ _ ⟨rfl, rfl⟩
  walk_at "s"
theorem gZ' {w : W} {m : Nat} {L : Tx} {T : List (List Nat)} {A : List Nat} (hm : w.length = m) (hM : MacOk L T A 4 6) : wF (f_Machine___init__ [.obj m, .str L, bg' T, bm' A] (w ++ [.ins "Machine" []])) (fun o w' => o = .fz .non /\ w' = w ++ [kH' L T A]) FX := by
  subst hm
  refine (nj' (by rw [List.getElem?_append_right (by omega), Nat.sub_self]; rfl) hM).mono ?_
  rintro _ _ ⟨rfl, rfl⟩
  refine ⟨rfl, ?_⟩
  rw [List.set_append_right _ _ (by omega), Nat.sub_self]; rfl
theorem c5' : ∀ a : List Nat, dats (a.map fun t => D.int (t : Nat)) = true
  | [] => rfl
  | x :: r => by show (true && _) = true; rw [c5' r]; rfl
theorem eD' : ∀ T : List (List Nat), dats (T.map bp') = true
  | [] => rfl
  | x :: r => by
    show (dats (x.map fun t => D.int (t : Nat)) && dats (r.map bp')) = true
    rw [c5', eD' r]; rfl
theorem ct' : ∀ a : List Nat, deps (a.map fun t => D.int (t : Nat)) = 0
  | [] => rfl
  | x :: r => by show max 0 _ = 0; rw [ct' r]; rfl
theorem eA' : ∀ T : List (List Nat), deps (T.map bp') <= 1
  | [] => Nat.zero_le 1
  | x :: r => by
    show max (deps (x.map fun t => D.int (t : Nat)) + 1) (deps (r.map bp')) <= 1
    have := eA' r
    rw [ct']
    omega
def ptD (L : Tx) (T : List (List Nat)) (A : List Nat) : D := .tup [.str L, bg' T, bm' A]
theorem ei' (L : Tx) (T : List (List Nat)) (A : List Nat) : dat (ptD L T A) = true := by
  show (true && (dats (T.map bp') && (dats (A.map fun t => D.int (t : Nat)) && true))) = true
  rw [eD', c5']; rfl
theorem fL' (L : Tx) (T : List (List Nat)) (A : List Nat) : dep (ptD L T A) <= 3 := by
  show max 0 (max (deps (T.map bp') + 1) (max (deps (A.map fun t => D.int (t : Nat)) + 1) 0)) + 1 <= 3
  have := eA' T
  rw [ct']
  omega
theorem dd' : ∀ {a : List Nat} {k : Nat}, k <= 1000 -> (∀ x ∈ a, x < k) -> repIs (a.map fun t => D.int (t : Nat)) = true
  | [], _, _, _ => rfl
  | x :: r, k, hk, h => by
    show (decide ((x : Int).natAbs < 10 ^ 60) && _) = true
    have h1 := h x (by simp)
    have h2 : (x : Int).natAbs < 10 ^ 60 := Nat.lt_of_lt_of_le (m := 1000) (by omega) (by decide)
    rw [decide_eq_true h2, dd' hk fun y hy => h y (by simp [hy])]; rfl
theorem cB' : ∀ a : List Nat, repWs (a.map fun t => D.int (t : Nat)) = a.length
  | [] => rfl
  | x :: r => by show 0 + 1 + repWs (r.map fun t => D.int (t : Nat)) = r.length + 1; rw [cB' r]; omega
theorem fj' : ∀ {T : List (List Nat)} {k : Nat}, k <= 1000 -> (∀ r ∈ T, ∀ t ∈ r, t < k) -> repIs (T.map bp') = true
  | [], _, _, _ => rfl
  | x :: r, k, hk, h => by
    show (repIs (x.map fun t => D.int (t : Nat)) && repIs (r.map bp')) = true
    rw [dd' hk (h x (by simp)), fj' hk fun y hy => h y (by simp [hy])]; rfl
theorem fi' : ∀ {T : List (List Nat)} {m : Nat}, (∀ r ∈ T, r.length = m) -> repWs (T.map bp') = T.length * (m + 1)
  | [], _, _ => by simp [repWs]
  | x :: r, m, h => by
    show repWs (x.map fun t => D.int (t : Nat)) + 1 + repWs (r.map bp') = (r.length + 1) * (m + 1)
    rw [cB', fi' fun y hy => h y (by simp [hy]), h x (by simp), Nat.succ_mul]; omega
theorem ex' : ∀ a b : List Nat, eqbs (a.map fun t => .int (t : Nat)) (b.map fun t => .int (t : Nat)) = decide (a = b)
  | [], [] => rfl
  | [], _ :: _ => rfl
  | _ :: _, [] => rfl
  | a :: l, b :: r => by
    simp only [List.map_cons, eqbs, fZ', ex' l r]
    rw [Bool.eq_iff_iff]
    simp
theorem g5' : ∀ a b : List (List Nat), eqbs (a.map bp') (b.map bp') = decide (a = b)
  | [], [] => rfl
  | [], _ :: _ => rfl
  | _ :: _, [] => rfl
  | a :: l, b :: r => by
    show (eqbs (a.map fun t => .int (t : Nat)) (b.map fun t => .int (t : Nat)) && eqbs (l.map bp') (r.map bp')) = _
    rw [ex', g5' l r, Bool.eq_iff_iff]
    simp
theorem nr' (L L' : Tx) (T T' : List (List Nat)) (A A' : List Nat) : eqb (ptD L T A) (ptD L' T' A') = (decide (L = L') && (decide (T = T') && decide (A = A'))) := by
  show ((L == L') && (eqbs (T.map bp') (T'.map bp') && (eqbs (A.map fun t => .int (t : Nat)) (A'.map fun t => .int (t : Nat)) && true))) = _
  rw [g5', ex', Bool.and_true]
  congr 1
  rw [Bool.eq_iff_iff]; simp
def hJ' (L : Tx) (T' : List (List Nat)) (A' : List Nat) (P : Tx -> Prop) : Prop := ∃ U B c, bl' U U.length L.length /\ 1 <= U.length /\ IsLeast L U B c T' A' /\ ∀ z : Tx, (∀ a ∈ z, a ∈ L) -> (run L U 0 z ∈ B ↔ P z)
theorem hJ'.says {L : Tx} {T1 : List (List Nat)} {A1 : List Nat} {P : Tx -> Prop} (h1 : hJ' L T1 A1 P) {z : Tx} (hz : ∀ a ∈ z, a ∈ L) : run L T1 0 z ∈ A1 ↔ P z := by
  obtain ⟨U1, B1, c1, a1, a2, a3, a4⟩ := h1
  rw [a3.run0 a1 a2 hz, a4 z hz]
theorem hJ'.acc {L : Tx} {T1 : List (List Nat)} {A1 : List Nat} {P : Tx -> Prop} (h1 : hJ' L T1 A1 P) : AccOk A1 T1.length := by
  obtain ⟨U1, B1, c1, a1, a2, a3, a4⟩ := h1
  exact a3.acc
theorem hJ'.tab {L : Tx} {T1 : List (List Nat)} {A1 : List Nat} {P : Tx -> Prop} (h1 : hJ' L T1 A1 P) : bl' T1 T1.length L.length := by
  obtain ⟨U1, B1, c1, a1, a2, a3, a4⟩ := h1
  exact a3.tab
theorem hJ'.of {L : Tx} {T T' : List (List Nat)} {A A' : List Nat} {c : Nat -> Nat} {P : Tx -> Prop} (hT : bl' T T.length L.length) (hn : 1 <= T.length) (h : IsLeast L T A c T' A') (hp : ∀ z : Tx, (∀ a ∈ z, a ∈ L) -> (run L T 0 z ∈ A ↔ P z)) : hJ' L T' A' P := ⟨T, A, c, hT, hn, h, hp⟩
theorem kA' (l : List Nat) : h0' (l.map fun q => ((q : Nat) : Int)) = (bq' l).map fun q => ((q : Nat) : Int) := by
  unfold h0' bq'
  refine (List.map_mergeSort (f := fun q : Nat => (q : Int)) fun a _ b _ => ?_).symm
  simp
theorem oS' {Q : D -> Prop} (l : List Nat) : wD (fN' (bm' l)) Q = Q (.lst ((bq' l).map fun q => D.int (q : Nat))) := by
  show wD ((bt' (l.map fun q => D.int (q : Nat))).map fun ns => .lst ((h0' ns).map .int)) Q = _
  rw [ij']
  show wD (some (D.lst ((h0' (l.map fun q => ((q : Nat) : Int))).map .int))) Q = _
  rw [kA', aV', List.map_map]
  rfl
theorem o7' {Q : D -> Prop} (a b : List Nat) : wD (bG' (bm' a) (bm' b)) Q = hK' (a.length + b.length) (Q (bm' (a ++ b))) := kp' a b
theorem gX' {w : W} {n : Nat} {L : Tx} (h : bH' w n) (hL : LetOk L 4) : wF (f__law_more [.obj n, .str L] w) (fun o w' => ∃ L2 : Tx, o = .fz (.str L2) /\ LetOk L2 4 /\ L2.length <= L.length + 1 /\ bH' w' n /\ But n w w') FX := by
  have hle := hL.le
  have hne := hL.ne
  have hasc := hL.asc
  unfold f__law_more
  walk_at "f0"
  walk_at "s"
  refine aT' (fun c0 => ?_) (fun c0 => ?_)
  . walk_at "s"
    refine ⟨List.take 3 L, rfl, ⟨by rw [List.length_take]; omega, by rw [List.length_take]; omega, hasc.sublist (List.take_sublist ..), fun c hc => hL.abc c (List.mem_of_mem_take hc)⟩, by rw [List.length_take]; omega, But.refl⟩
  . walk_at "s"
    refine pT' (f := fun c : Nat => D.str [c]) (cs := abc) (fun c => decide (c ∉ L)) (fun c => D.str [c]) (by decide) ?_ ?_
    . intro c hc
      walk_at "s"
      exact ⟨by simp, fun _ => trivial⟩
    walk_at "l"
    rw [show ((abc.filter fun c => decide (c ∉ L)).map fun c => D.str [c]) = (abc.filter fun c => decide (c ∉ L)).map chD from rfl]
    have hfl : 1 <= (abc.filter fun c => decide (c ∉ L)).length := by
      have : ¬ abc ⊆ L := fun hs => by
        have := List.Nodup.length_le_of_subset (show abc.Nodup by decide) hs
        have : 26 <= L.length := this
        omega
      have ⟨c, hc, hc2⟩ : ∃ c ∈ abc, c ∉ L := Classical.byContradiction fun q => this fun c hc => Classical.byContradiction fun q2 => q ⟨c, hc, q2⟩
      exact List.length_pos_of_mem (List.mem_filter.mpr ⟨hc, decide_eq_true hc2⟩)
    have hfl2 : (abc.filter fun c => decide (c ∉ L)).length <= 26 := List.length_filter_le ..
    have hfm : ∀ c ∈ abc.filter fun c => decide (c ∉ L), c ∈ abc /\ c ∉ L := fun c hc => ⟨(List.mem_filter.mp hc).1, of_decide_eq_true (List.mem_filter.mp hc).2⟩
    generalize (abc.filter fun c => decide (c ∉ L)) = fr at *
    have put : ∀ c ∈ fr, ∃ L2 : Tx, bq' (L ++ [c]) = L2 /\ LetOk L2 4 /\ L2.length <= L.length + 1 := fun c hcm => by
      obtain ⟨c1, c2⟩ := hfm c hcm
      have hnd : (L ++ [c]).Nodup := by
        refine List.nodup_append.mpr ⟨(hasc.imp fun h => Nat.ne_of_lt h), by simp, fun x hx y hy e => ?_⟩
        rw [List.mem_singleton.mp hy] at e
        exact c2 (e ▸ hx)
      refine ⟨_, rfl, ⟨by rw [ca']; simp, by rw [ca']; simp; omega, dW' hnd, fun x hx => ?_⟩, by rw [ca']; simp⟩
      rcases List.mem_append.mp ((bP' _).mem_iff.mp hx) with q | q
      . exact hL.abc x q
      . rw [List.mem_singleton.mp q]; exact fV'.mp c1
    clear hfm
    walk_at "s"
    refine (aU' h (by omega) (by omega)).mono ?_
    rintro _ w2 ⟨d, rfl, hd, h2, b2⟩
    clear h
    walk_at "s"
    refine be' (by omega) fun c hcm hc => ?_
    obtain ⟨L2, e1, e2, e4⟩ := put c hcm
    have hl2 : (L ++ [c]).length < 64 := by simp; omega
    have hl3 : L2.length <= 16777216 := by omega
    have hl4 : L.length + 1 <= 16777216 := by omega
    clear put
    walk_at "s"
    exact ⟨L2, rfl, e2, e4⟩
theorem mZ' {w : W} {n : Nat} {L : Tx} {T : List (List Nat)} {A : List Nat} (h : bH' w n) (hM : MacOk L T A 4 6) : wF (f__law_near [.obj n, ptD L T A] w) (fun o w' => ∃ L2 T2 A2, o = .fz (ptD L2 T2 A2) /\ MacOk L2 T2 A2 4 6 /\ bH' w' n /\ But n w w') FX := by
  have hL := hM.let'
  have hT := hM.tab
  have hn := hM.ne
  have hle := hM.le
  have hA := hM.acc
  have hLn := hL.ne
  have hLm := hL.le
  have q1 : ptD L T A = .tup [.str L, bg' T, bm' A] := rfl
  have kp : ∀ w1 : W, bH' w1 n -> wF (f__law_parts [.obj n, .int 4, .int 6] w1) _ FX := fun w1 hh => de' (most := 4) (states := 6) hh (by decide) (by decide) (by decide) (by decide)
  have km : ∀ w1 : W, bH' w1 n -> wF (f__law_more [.obj n, .str L] w1) _ FX := fun w1 hh => gX' hh hL
  rw [q1]
  unfold f__law_near
  walk_at "f0"
  walk_at "s"
  refine (aU' h (by omega) (by omega)).mono ?_
  rintro _ w1 ⟨way, rfl, hway, h1, b1⟩
  clear h
  walk_at "s"
  refine (aU' h1 (by omega) (by omega)).mono ?_
  rintro _ w2 ⟨st, rfl, hst, h2, b2⟩
  have b2 := b1.trans b2
  clear h1 b1
  have st0 : st < T.length := by omega
  walk_at "s"
  refine cw' (fun ρ => ∃ L2, ρ = ⟨[some (.fz (.obj n)), some (.fz (.tup [.str L, bg' T, bm' A])), some (.fz (.str L2)), some (.fz (bg' T)), some (.fz (bm' A)), some (.fz (.int (way : Nat))), some (.fz (.int (T.length : Nat))), some (.fz (.int (st : Nat))), none, none, none, none], ρ.w⟩ /\ LetOk L2 4 /\ L2.length = L.length /\ bH' ρ.w n /\ But n w ρ.w) (aT' (fun c => ?_) (fun c => ?_)) ?_
  . walk_at "s"
    refine (dy' h2 (by decide) (by simp; omega)).mono ?_
    rintro _ w4 ⟨r, t, rfl, hr, hperm, h4, b4⟩
    have hnd : r.Nodup := by
      have : (t ++ r).Nodup := hperm.nodup_iff.mpr (by decide)
      exact (List.nodup_append.mp this).2.1
    have hlen := ca' r
    have hlow : ∀ c ∈ bq' r, 97 <= c /\ c <= 122 := fun c hc => fV'.mp (hperm.mem_iff.mp (List.mem_append_right t ((bP' r).mem_iff.mp hc)))
    have hl64 : r.length < 64 := by omega
    have hl16 : (bq' r).length <= 16777216 := by omega
    walk_at "s"
    exact ⟨bq' r, rfl, ⟨by omega, by omega, dW' hnd, hlow⟩, by omega, b2.trans b4⟩
  . walk_at "s"
    exact ⟨L, rfl, hL, rfl⟩
  clear h2 b2 q1
  rintro ⟨_, w3⟩ ⟨L2, e0, hL2, hl2, h3, b3⟩
  obtain ⟨rfl, -⟩ := PSt.mk.inj e0
  dsimp only at h3 b3
  clear e0
  have hT2 : bl' T T.length L2.length := by rw [hl2]; exact hT
  have hLn2 := hL2.ne
  have hLm2 := hL2.le
  clear hT hLn hLm hL hl2
  have r1 := fun Q => @ry' Q
  have r2 := fun Q => @rv' Q
  have r3 := fun Q => @kp' Q
  have r4 := fun Q => @o6' Q
  have e1 : ∀ t : Nat, D.tup [.int (t : Nat)] = bp' [t] := fun t => rfl
  have e6 : ∀ r : List Nat, D.tup [bp' r] = bg' [r] := fun r => rfl
  walk_at "s"
  refine cw' (fun ρ => ∃ T2 x8 x9, ρ = ⟨[some (.fz (.obj n)), some (.fz (.tup [.str L, bg' T, bm' A])), some (.fz (.str L2)), some (.fz (bg' T2)), some (.fz (bm' A)), some (.fz (.int (way : Nat))), some (.fz (.int (T.length : Nat))), some (.fz (.int (st : Nat))), x8, x9, none, none], ρ.w⟩ /\ bl' T2 T.length L2.length /\ Pl x9 /\ bH' ρ.w n /\ But n w ρ.w) (aT' (fun c => ?_) (fun c => ?_)) ?_
  . walk_at "s"
    refine (aU' h3 (by omega) (by omega)).mono ?_
    rintro _ w4 ⟨k, rfl, hk, h4, b4⟩
    have b4 := b3.trans b4
    have hr : T[st]? = some T[st] := List.getElem?_eq_getElem st0
    have hrm := hT2.2 T[st] (List.getElem_mem st0)
    generalize T[st] = r at hr hrm
    clear h3 b3
    walk_at "s"
    refine (aU' h4 (by omega) (by omega)).mono ?_
    rintro _ w5 ⟨t, rfl, ht, h5, b5⟩
    have b5 := b4.trans b5
    clear h4 b4
    have e2 : ((k : Int) + 1).toNat = k + 1 := by omega
    have e3 : (0 : Int) <= (k : Int) + 1 := by omega
    have e4 : ((st : Int) + 1).toNat = st + 1 := by omega
    have e5 : (0 : Int) <= (st : Int) + 1 := by omega
    have l1 : (List.take k r).length + [t].length <= 16777216 := by rw [List.length_take]; simp; omega
    have l2 : (List.take k r ++ [t]).length + (List.drop (k + 1) r).length <= 16777216 := by rw [List.length_append, List.length_take, List.length_drop]; simp; omega
    have l3 : (List.take st T).length + 1 <= 16777216 := by rw [List.length_take]; omega
    have l4 : (List.take st T ++ [List.take k r ++ [t] ++ List.drop (k + 1) r]).length + (List.drop (st + 1) T).length <= 16777216 := by rw [List.length_append, List.length_take, List.length_drop]; simp; omega
    walk_at "s"
    refine ⟨_, _, _, rfl, ⟨by simp; omega, fun r' hr' => ?_⟩, .inr ⟨_, rfl⟩⟩
    rcases List.mem_append.mp hr' with q | q
    . rcases List.mem_append.mp q with q | q
      . exact hT2.2 r' (List.mem_of_mem_take q)
      . rw [List.mem_singleton.mp q]
        refine ⟨by simp; omega, fun u hu => ?_⟩
        rcases List.mem_append.mp hu with z | z
        . rcases List.mem_append.mp z with z | z
          . exact hrm.2 u (List.mem_of_mem_take z)
          . rw [List.mem_singleton.mp z]; omega
        . exact hrm.2 u (List.mem_of_mem_drop z)
    . exact hT2.2 r' (List.mem_of_mem_drop q)
  . walk_at "s"
    exact ⟨T, _, _, rfl, hT2, .inl rfl⟩
  clear h3 b3 hT2
  rintro ⟨_, w4⟩ ⟨T2, x8, x9, e0, hT2, p9, h4, b4⟩
  obtain ⟨rfl, -⟩ := PSt.mk.inj e0
  dsimp only at h4 b4
  clear e0
  have hl3 := hT2.1
  refine fH' (fun ρ => ∃ A2, ρ = ⟨[some (.fz (.obj n)), some (.fz (.tup [.str L, bg' T, bm' A])), some (.fz (.str L2)), some (.fz (bg' T2)), some (.fz (bm' A2)), some (.fz (.int (way : Nat))), some (.fz (.int (T.length : Nat))), some (.fz (.int (st : Nat))), x8, x9, none, none], w4⟩ /\ AccOk A2 T.length) ?_ ?_
  . have a1 : ∀ Q : D -> Prop, wD (bG' (bm' A) (bp' [st])) Q = hK' (A.length + [st].length) (Q (bm' (A ++ [st]))) := fun Q => o7' A [st]
    have a2 := fun Q => @oS' Q
    have la : A.length + [st].length <= 16777216 := by
      have := qW' (hA.asc.imp fun h => Nat.ne_of_lt h) hA.lt
      simp; omega
    have skip : ∀ (a b : Prop), a -> b -> a /\ b := fun _ _ x y => ⟨x, y⟩
    walk_at "s"
    refine aT' (fun c3 => ?_) (fun c3 => ?_)
    . walk_at "s"
      refine aT' (fun c4 => ?_) (fun c4 => ?_)
      . walk_at "s"
        refine pT' (f := fun a : Nat => D.int (a : Nat)) (cs := A) (fun a => decide (a ≠ st)) (fun a => D.int (a : Nat)) (by simp at la; omega) ?_ ?_
        . intro a ha
          have e9 : (!decide ((a : Int) = (st : Nat))) = decide (a ≠ st) := by
            rw [Bool.eq_iff_iff]; simp; omega
          walk_at "s"
          exact fun _ => trivial
        walk_at "l"
        walk_at "s"
        exact ⟨A.filter fun a => decide (a ≠ st), rfl, hA.asc.filter _, fun a ha => hA.lt a (List.mem_filter.mp ha).1⟩
      . walk_at "s"
        have hnm : st ∉ A := c4
        have hnd : (A ++ [st]).Nodup := by
          refine List.nodup_append.mpr ⟨(hA.asc.imp fun h => Nat.ne_of_lt h), by simp, fun x hx y hy e => ?_⟩
          rw [List.mem_singleton.mp hy] at e
          exact hnm (e ▸ hx)
        refine ⟨bq' (A ++ [st]), rfl, dW' hnd, fun a ha => ?_⟩
        rcases List.mem_append.mp ((bP' _).mem_iff.mp ha) with q | q
        . exact hA.lt a q
        . rw [List.mem_singleton.mp q]; exact st0
    . walk_at "s"
      exact ⟨A, rfl, hA⟩
  rintro _ ⟨A2, rfl, hA2⟩
  clear hA hM
  refine fH' (fun ρ => ∃ T3, ρ = ⟨[some (.fz (.obj n)), some (.fz (.tup [.str L, bg' T, bm' A])), some (.fz (.str L2)), some (.fz (bg' T3)), some (.fz (bm' A2)), some (.fz (.int (way : Nat))), some (.fz (.int (T.length : Nat))), some (.fz (.int (st : Nat))), x8, x9, none, none], w4⟩ /\ bl' T3 T3.length L2.length /\ T.length <= T3.length /\ T3.length <= 6) ?_ ?_
  . have hr : T2[st]? = some T2[st] := List.getElem?_eq_getElem (by omega)
    have hrm := hT2.2 T2[st] (List.getElem_mem (by omega))
    generalize T2[st] = r at hr hrm
    have l4 : T2.length + 1 <= 16777216 := by omega
    have hT3 : bl' T2 T2.length L2.length := ⟨rfl, fun r hr => by rw [hl3]; exact hT2.2 r hr⟩
    walk_at "s"
    refine aT' (fun c5 => ?_) (fun c5 => ?_)
    . walk_at "s"
      refine aT' (fun c6 => ?_) (fun c6 => ?_)
      . walk_at "s"
        refine ⟨T2 ++ [r], rfl, ⟨rfl, fun q hq => ?_⟩, by simp; omega, by simp; omega⟩
        have e8 : (T2 ++ [r]).length = T.length + 1 := by simp; omega
        rw [e8]
        rcases List.mem_append.mp hq with q' | q'
        . exact ⟨(hT2.2 q q').1, fun t ht => Nat.lt_succ_of_lt ((hT2.2 q q').2 t ht)⟩
        . rw [List.mem_singleton.mp q']
          exact ⟨hrm.1, fun t ht => Nat.lt_succ_of_lt (hrm.2 t ht)⟩
      . walk_at "s"
        exact ⟨T2, rfl, hT3, by omega, by omega⟩
    . walk_at "s"
      exact ⟨T2, rfl, hT3, by omega, by omega⟩
  rintro _ ⟨T3, rfl, hT3, hn3, hle3⟩
  clear hT2 hl3
  have q9 := p9.keep
  refine fH' (fun ρ => ∃ L3 T4 x10 w', ρ = ⟨[some (.fz (.obj n)), some (.fz (.tup [.str L, bg' T, bm' A])), some (.fz (.str L3)), some (.fz (bg' T4)), some (.fz (bm' A2)), some (.fz (.int (way : Nat))), some (.fz (.int (T.length : Nat))), some (.fz (.int (st : Nat))), x8, x9, x10, none], w'⟩ /\ LetOk L3 4 /\ bl' T4 T3.length L3.length /\ bH' w' n /\ But n w w') ?_ ?_
  . have km := fun w1 hh => gX' (w := w1) (n := n) hh hL2
    walk_at "s"
    refine aT' (fun c7 => ?_) (fun c7 => ?_)
    . walk_at "s"
      refine (km w4 h4).mono ?_
      rintro _ w5 ⟨L3, rfl, hL3, hl5, h5, b5⟩
      have b5 := b4.trans b5
      have hl6 := hL3.le
      clear km h4 b4
      walk_at "s"
      refine tt' (f := bp') (cs := T3) (fun r => bp' ((r ++ r).take L3.length)) (by omega) ?_ ?_
      . intro r hr
        have l9 : r.length + r.length <= 16777216 := by rw [(hT3.2 r hr).1]; omega
        have e8 : (0 : Int) <= ((List.length L3 : Nat) : Int) := by omega
        walk_at "s"
      walk_at "l"
      have e9 : D.tup (T3.map fun r => bp' ((r ++ r).take L3.length)) = bg' (T3.map fun r => (r ++ r).take L3.length) := by
        unfold bg'
        rw [List.map_map]; rfl
      walk_at "s"
      refine ⟨L3, T3.map fun r => (r ++ r).take L3.length, _, _, rfl, hL3, ⟨by simp, fun r hr => ?_⟩, h5, b5⟩
      obtain ⟨r0, hr0, rfl⟩ := List.mem_map.mp hr
      refine ⟨by rw [List.length_take, List.length_append, (hT3.2 r0 hr0).1]; omega, fun t ht => ?_⟩
      rcases List.mem_append.mp (List.mem_of_mem_take ht) with q | q <;> exact (hT3.2 r0 hr0).2 t q
    . walk_at "s"
      exact ⟨_, _, _, _, rfl, hL2, hT3, h4, b4⟩
  rintro _ ⟨L3, T4, x10, w5, rfl, hL3, hT4, h5, b5⟩
  clear h4 b4 hT3
  have hl4 := hT4.1
  walk_at "s"
  refine aT' (fun c8 => ?_) (fun c8 => ?_)
  . walk_at "s"
    refine (de' (most := 4) (states := 6) h5 (by decide) (by decide) (by decide) (by decide)).mono ?_
    rintro _ w6 ⟨L6, T6, A6, rfl, hM6, h6, b6⟩
    exact ⟨L6, T6, A6, rfl, hM6, h6, b5.trans b6⟩
  . walk_at "s"
    exact ⟨L3, T4, A2, rfl, ⟨hL3, ⟨rfl, fun r hr => by rw [hl4]; exact hT4.2 r hr⟩, by omega, by omega, ⟨hA2.asc, fun a ha => by have := hA2.lt a ha; omega⟩⟩⟩
structure Mc (w : W) (m : Nat) (L : Tx) (T : List (List Nat)) (A : List Nat) : Prop where
  ins : ∃ fs, w[m]? = some (.ins "Machine" fs) /\ fs.lookup "letters" = none /\ fs.lookup "table" = none /\ fs.lookup "accepts" = none /\ fs.lookup "parts" = none
  mac : Mac w m L T A
theorem Mc.but {w w' : W} {m n : Nat} {L T A} (h : Mc w m L T A) (hb : But n w w') (hn : m ≠ n) : Mc w' m L T A := by
  obtain ⟨⟨fs, h1, h2⟩, h3⟩ := h
  exact ⟨⟨fs, (hb.2 m hn).trans h1, h2⟩, h3.but hb hn⟩
theorem Mc.snoc {w : W} {m : Nat} {L T A} {o : Ob} (h : Mc w m L T A) : Mc (w ++ [o]) m L T A := by
  obtain ⟨⟨fs, h1, h2⟩, h3⟩ := h
  have hm := cf' h1
  exact ⟨⟨fs, by rw [List.getElem?_append_left hm]; exact h1, h2⟩, h3.snoc hm⟩
theorem Mc.made {w : W} {L T A} : Mc (w ++ [kH' L T A]) w.length L T A := by
  refine ⟨⟨_, by rw [List.getElem?_append_right (Nat.le_refl _), Nat.sub_self]; rfl, by rfl, by rfl, by rfl, by rfl⟩, Mac.made⟩
theorem Mc.isIns {w : W} {m : Nat} {L T A} (h : Mc w m L T A) (x : String) (hx : x = "letters" \/ x = "table" \/ x = "accepts" \/ x = "parts") : isIns ["Machine"] x w (.obj m) = true := by
  obtain ⟨⟨fs, h1, h2, h3, h4, h5⟩, _⟩ := h
  show (match w[m]? with | some (.ins C' fs) => decide (C' ∈ ["Machine"]) && (fs.lookup x).isNone | _ => false) = true
  rw [h1]
  rcases hx with rfl | rfl | rfl | rfl
  . show (true && (fs.lookup "letters").isNone) = true; rw [h2]; rfl
  . show (true && (fs.lookup "table").isNone) = true; rw [h3]; rfl
  . show (true && (fs.lookup "accepts").isNone) = true; rw [h4]; rfl
  . show (true && (fs.lookup "parts").isNone) = true; rw [h5]; rfl
theorem Mc.isC {w : W} {m : Nat} {L T A} (h : Mc w m L T A) : isC isT "Machine" w (.obj m) = some true := by
  obtain ⟨⟨fs, h1, _⟩, _⟩ := h
  show (match w[m]? with | some (.ins C _) => sub isT C "Machine" | _ => none) = some true
  rw [h1]
  show sub isT "Machine" "Machine" = some true
  decide
theorem io' {w : W} {m n : Nat} {L L' : Tx} {T T' : List (List Nat)} {A A' : List Nat} (h : Mc w m L T A) (h' : Mc w n L' T' A') :
    wF (f_Machine___eq__ [.obj m, .obj n] w) (fun o w' => o = .fz (.bl (eqb (ptD L T A) (ptD L' T' A'))) /\ w' = w) FX := by
  have e1 := h'.isC
  have e2 := h.isIns "parts" (by simp)
  have e3 := h'.isIns "parts" (by simp)
  have h1 := h.mac.fl ["Machine"] (by simp)
  have h2 := h.mac.ft ["Machine"] (by simp)
  have h3 := h.mac.fa ["Machine"] (by simp)
  have h1' := h'.mac.fl ["Machine"] (by simp)
  have h2' := h'.mac.ft ["Machine"] (by simp)
  have h3' := h'.mac.fa ["Machine"] (by simp)
  unfold f_Machine___eq__
  walk_at "f0"
  clear h h'
  walk_at "s"
  unfold f_Machine_parts
  walk_at "f"
  walk_at "f"
  rw [show D.tup [.str L, bg' T, bm' A] = ptD L T A from rfl, show D.tup [.str L', bg' T', bm' A'] = ptD L' T' A' from rfl]
  rw [xh', hR' ⟨ei' L T A, ei' L' T' A', Nat.le_trans (fL' L T A) (by decide), Nat.le_trans (fL' L' T' A') (by decide)⟩]
  walk_at "s"
theorem rn' {w : W} {m : Nat} {d : D} {t : String} (hd : tyn d = some t) :
    wF (f_Machine___eq__ [.obj m, d] w) (fun o w' => o = .fz (.bl false) /\ w' = w) FX := by
  have e1 : isC isT "Machine" w d = some false := by
    cases d <;> first | rfl | cases hd
  unfold f_Machine___eq__
  walk_at "f0"
  clear hd
  walk_at "s"
theorem ik' {w : W} {m n : Nat} {L L' T T' A A'} (h : Mc w m L T A) (h' : Mc w n L' T' A') : rj' [("Machine", "Machine")] w (.obj m) (.obj n) = true := by
  obtain ⟨⟨fs, h1, _⟩, _⟩ := h
  obtain ⟨⟨fs', h1', _⟩, _⟩ := h'
  show (match w[m]?, w[n]? with | some (.ins C _), some (.ins C' _) => decide ((C, C') ∈ [("Machine", "Machine")]) | _, _ => false) = true
  rw [h1, h1']
  exact decide_eq_true (by simp)
theorem im' {w : W} {m : Nat} {L T A} {d : D} {t : String} (h : Mc w m L T A) (hd : tyn d = some t) : rk' [("Machine", "Machine")] w (.obj m) d = true := by
  obtain ⟨⟨fs, h1, _⟩, _⟩ := h
  show (match w[m]? with | some (.ins C _) => decide ((C, C) ∈ [("Machine", "Machine")]) && (tyn d).isSome | _ => false) = true
  rw [h1, hd]
  show (decide (("Machine", "Machine") ∈ [("Machine", "Machine")]) && true) = true
  rw [decide_eq_true (by simp)]; rfl
theorem qt' {L : Tx} {T : List (List Nat)} {A : List Nat} (hM : MacOk L T A 4 6) : (rZ' (bg' T) = true /\ dep (bg' T) <= 40 /\ oh' (bg' T) = true /\ mx' (bg' T) <= 200000) /\ same (bg' T) (bg' T) = true ∧
    (rZ' (bm' A) = true /\ dep (bm' A) <= 40 /\ oh' (bm' A) = true /\ mx' (bm' A) <= 200000) /\ same (bm' A) (bm' A) = true := by
  have dT : dat (bg' T) = true := eD' T
  have dA : dat (bm' A) = true := c5' A
  have hT := hM.tab
  have h1 := fi' (T := T) (m := L.length) fun r hr => (hT.2 r hr).1
  have h2 := qW' (hM.acc.asc.imp fun h => Nat.ne_of_lt h) hM.acc.lt
  have h4 := hM.let'.le
  have h5 := hM.le
  have h3 : T.length * (L.length + 1) <= 6 * 5 := Nat.mul_le_mul h5 (by omega)
  refine ⟨⟨mC' dT, ?_, fj' (k := T.length) (by omega) (fun r hr => (hT.2 r hr).2), ?_⟩, ed' _ dT, ⟨mC' dA, ?_, dd' (k := T.length) (by omega) hM.acc.lt, ?_⟩, ed' _ dA⟩
  . show deps (T.map bp') + 1 <= 40
    have := eA' T
    omega
  . show repWs (T.map bp') <= 200000
    omega
  . show deps (A.map fun t => D.int (t : Nat)) + 1 <= 40
    rw [ct']; decide
  . show repWs (A.map fun t => D.int (t : Nat)) <= 200000
    rw [cB']; omega
theorem cY' {w : W} {m : Nat} {L : Tx} {T : List (List Nat)} {A : List Nat} (h : Mc w m L T A) (hM : MacOk L T A 4 6) : wF (f__law_is_parts [.obj m, ptD L T A] w) (fun o w' => o = .fz (.bl true) /\ w' = w) FX := by
  obtain ⟨z1, z2, z3, z4⟩ := qt' hM
  have e2 := h.isIns "letters" (by simp)
  have e3 := h.isIns "table" (by simp)
  have e4 := h.isIns "accepts" (by simp)
  have h1 := h.mac.fl ["Machine"] (by simp)
  have h2 := h.mac.ft ["Machine"] (by simp)
  have h3 := h.mac.fa ["Machine"] (by simp)
  have q1 : ptD L T A = .tup [.str L, bg' T, bm' A] := rfl
  rw [q1]
  have kl : wF (f_Machine_letters [.obj m] w) (fun o w' => o = .fz (.str L) /\ w' = w) FX := by
    unfold f_Machine_letters
    walk_at "f"
  have kt : wF (f_Machine_table [.obj m] w) (fun o w' => o = .fz (bg' T) /\ w' = w) FX := by
    unfold f_Machine_table
    walk_at "f"
  have ka : wF (f_Machine_accepts [.obj m] w) (fun o w' => o = .fz (bm' A) /\ w' = w) FX := by
    unfold f_Machine_accepts
    walk_at "f"
  have r1 : ∀ Q : D -> Prop, wD (or' (bg' T)) Q = Q (.rep (bg' T)) := fun Q => by rw [p3', hR' z1]
  have r2 : ∀ Q : D -> Prop, wD (or' (bm' A)) Q = Q (.rep (bm' A)) := fun Q => by rw [p3', hR' z3]
  have r3 : ∀ Q : D -> Prop, wD (qO' (.rep (bg' T)) (.rep (bg' T))) Q = Q (.bl true) := fun Q => by rw [ur', hR' z2]
  have r4 : ∀ Q : D -> Prop, wD (qO' (.rep (bm' A)) (.rep (bm' A))) Q = Q (.bl true) := fun Q => by rw [ur', hR' z4]
  unfold f__law_is_parts
  walk_at "f0"
  clear h hM h1 h2 h3 z1 z2 z3 z4
  walk_at "s"
  refine kl.mono ?_
  rintro _ _ ⟨rfl, rfl⟩
  rename_i w
  walk_at "s"
  refine kl.mono ?_
  rintro _ _ ⟨rfl, rfl⟩
  rename_i w
  walk_at "s"
  refine kt.mono ?_
  rintro _ _ ⟨rfl, rfl⟩
  rename_i w
  walk_at "s"
  refine ka.mono ?_
  rintro _ _ ⟨rfl, rfl⟩
  rename_i w
  walk_at "s"
theorem nq' (a b : Bool) (w : W) : wF (f__law_flag [.bl a, .bl b] w) (fun o w' => o = .fz (.bl (a == b)) /\ w' = w) FX := by
  unfold f__law_flag
  walk_at "f"
theorem law_true (ns : List Int) (hl : ns.length <= 63) : ∃ w, f_law [.scr (ns.map .int)] [] = .ok (.fz (.bl true)) w := by
  suffices h : wF (f_law [.scr (ns.map .int)] []) (fun o _ => o = .fz (.bl true)) FX by
    obtain ⟨o, w, e, rfl⟩ := h.exi
    exact ⟨w, e⟩
  unfold f_law
  walk_at "f"
  refine (nm' hl).mono ?_
  rintro _ w1 ⟨rfl, h1, hl1, -⟩
  change bH' w1 0 at h1
  walk_at "s"
  refine (de' (most := 4) (states := 6) h1 (by omega) (by omega) (by omega) (by omega)).mono ?_
  rintro _ w2 ⟨L, T, A, rfl, hM, h2, b2⟩
  have hl2 : w2.length = 1 := b2.1.trans hl1
  clear h1 b2
  walk_at "s"
  refine (gZ' hl2 hM).mono ?_
  rintro _ _ ⟨rfl, rfl⟩
  have hm : Mc (w2 ++ [kH' L T A]) 1 L T A := by
    have := Mc.made (w := w2) (L := L) (T := T) (A := A)
    rw [hl2] at this
    exact this
  have h3 : bH' (w2 ++ [kH' L T A]) 0 := h2.snoc
  rw [hl2]
  generalize w2 ++ [kH' L T A] = w3 at hm h3
  clear h2 hl2 hl1
  have q1 : ptD L T A = .tup [.str L, bg' T, bm' A] := rfl
  walk_at "s"
  refine dk' (fun j ρ => ∃ x4 x5 x6 x7 x8 w', ρ = ⟨[some (.fz (.scr (ns.map .int))), some (.fz (.obj 0)), some (.fz (ptD L T A)), some (.fz (.obj 1)), x4, x5, x6, x7, x8], w'⟩ /\ bH' w' 0 /\ Mc w' 1 L T A) ⟨_, _, _, _, _, _, rfl, h3, hm⟩ ?_ ?_
  . clear hm h3 w3
    rintro j _ hj ⟨x4, x5, x6, x7, x8, w4, rfl, h4, m4⟩
    walk_at "s"
    refine (mZ' h4 hM).mono ?_
    rintro _ w5 ⟨L2, T2, A2, rfl, hM2, h5, b5⟩
    have m5 := m4.but b5 (by decide)
    have q2 : ptD L2 T2 A2 = .tup [.str L2, bg' T2, bm' A2] := rfl
    clear h4 m4 b5
    walk_at "s"
    refine (gZ' rfl hM2).mono ?_
    rintro _ _ ⟨rfl, rfl⟩
    have n6 := Mc.made (w := w5) (L := L2) (T := T2) (A := A2)
    have m6 : Mc (w5 ++ [kH' L2 T2 A2]) 1 L T A := m5.snoc
    have h6 : bH' (w5 ++ [kH' L2 T2 A2]) 0 := h5.snoc
    generalize w5 ++ [kH' L2 T2 A2] = w6 at n6 m6 h6
    generalize w5.length = p at n6
    clear h5 m5 w5
    have k1 := cY' m6 hM
    have k2 := cY' n6 hM2
    rw [q1] at k1
    rw [q2] at k2
    walk_at "s"
    refine k1.mono ?_
    rintro _ _ ⟨rfl, rfl⟩
    rename_i w6
    walk_at "s"
    refine k2.mono ?_
    rintro _ _ ⟨rfl, rfl⟩
    rename_i w6
    clear k1 k2
    have e5 : ∀ Q : D -> Prop, wD (pEq (.tup [.str L2, bg' T2, bm' A2]) (.tup [.str L, bg' T, bm' A])) Q = Q (.bl (eqb (ptD L2 T2 A2) (ptD L T A))) := fun Q => by
      rw [<- q1, <- q2, xh', hR' ⟨ei' .., ei' .., Nat.le_trans (fL' ..) (by decide), Nat.le_trans (fL' ..) (by decide)⟩]
    have esy : eqb (ptD L T A) (ptD L2 T2 A2) = eqb (ptD L2 T2 A2) (ptD L T A) := by
      rw [nr', nr', Bool.eq_iff_iff]
      simp only [Bool.and_eq_true, decide_eq_true_eq]
      exact ⟨fun ⟨a, b, c⟩ => ⟨a.symm, b.symm, c.symm⟩, fun ⟨a, b, c⟩ => ⟨a.symm, b.symm, c.symm⟩⟩
    have ese : eqb (ptD L T A) (ptD L T A) = true := kl' _ (ei' L T A)
    walk_at "s"
    refine ⟨ik' m6 n6, ?_⟩
    refine (io' m6 n6).mono ?_
    rintro _ _ ⟨rfl, rfl⟩
    rename_i w6
    refine ⟨_, rfl, ?_⟩
    rw [esy]
    have kf := nq' (eqb (ptD L2 T2 A2) (ptD L T A)) (eqb (ptD L2 T2 A2) (ptD L T A)) w6
    rw [beq_self_eq_true] at kf
    walk_at "s"
    refine kf.mono ?_
    rintro _ _ ⟨rfl, rfl⟩
    rename_i w6
    walk_at "s"
    refine ⟨ik' n6 m6, ?_⟩
    refine (io' n6 m6).mono ?_
    rintro _ _ ⟨rfl, rfl⟩
    rename_i w6
    refine ⟨_, rfl, ?_⟩
    walk_at "s"
    refine kf.mono ?_
    rintro _ _ ⟨rfl, rfl⟩
    rename_i w6
    walk_at "s"
    refine ⟨ik' m6 m6, ?_⟩
    refine (io' m6 m6).mono ?_
    rintro _ _ ⟨rfl, rfl⟩
    rename_i w6
    refine ⟨_, rfl, ?_⟩
    rw [ese]
    clear kf e5 esy ese n6
    walk_at "s"
    refine (ov' h6).mono ?_
    rintro _ w7 ⟨d, rfl, hd, h7, b7⟩
    have m7 := m6.but b7 (by decide)
    obtain ⟨t, ht⟩ : ∃ t, tyn d = some t := by
      revert d
      simp only [List.mem_cons, List.not_mem_nil, or_false]
      rintro d (rfl | rfl | rfl | rfl | rfl | rfl | rfl | rfl | rfl | rfl | rfl | rfl | rfl | rfl | rfl | rfl) <;> exact ⟨_, rfl⟩
    have k1 := im' m7 ht
    have k2 := rn' (w := w7) (m := 1) ht
    have k3 := im' (d := .tup [.str L, bg' T, bm' A]) m7 (t := "tuple") rfl
    have k4 := rn' (w := w7) (m := 1) (d := .tup [.str L, bg' T, bm' A]) (t := "tuple") rfl
    have k5 : ∃ e t, ([D.str L, bg' T, bm' A] : List D)[j % 3]? = some e /\ tyn e = some t := by
      rcases (show j % 3 = 0 \/ j % 3 = 1 \/ j % 3 = 2 by omega) with e | e | e <;> rw [e] <;> exact ⟨_, _, rfl, rfl⟩
    obtain ⟨e, te, k6, k7⟩ := k5
    have k8 := im' m7 k7
    have k9 := rn' (w := w7) (m := 1) k7
    have k10 : ∀ Q : D -> Prop, wD (pIx (.tup [.str L, bg' T, bm' A]) (.int ((j : Int) % 3))) Q = Q e := fun Q => by
      rw [show (j : Int) % 3 = ((j % 3 : Nat) : Int) by omega, o1', hF' (by omega), Int.toNat_natCast, k6, aV']
    clear h6 m6 hd ht b7 k6
    walk_at "s"
    refine k2.mono ?_
    rintro _ _ ⟨rfl, rfl⟩
    rename_i w7
    refine ⟨_, rfl, ?_⟩
    walk_at "s"
    refine k4.mono ?_
    rintro _ _ ⟨rfl, rfl⟩
    rename_i w7
    refine ⟨_, rfl, ?_⟩
    walk_at "s"
    refine k9.mono ?_
    rintro _ _ ⟨rfl, rfl⟩
    rename_i w7
    refine ⟨_, rfl, ?_⟩
    walk_at "s"
    exact ⟨_, _, _, _, _, _, rfl, h7, m7⟩
  . rintro _ ⟨x4, x5, x6, x7, x8, w4, rfl, h4, m4⟩
    walk_at "s"
end
end M
namespace S
open PySem PySem.Spec PyProof.Rows L2
section
variable [Wd] {K : PySem.W.Frag} {mg : Str -> Option Value} {base : Heap}
theorem fP' (C : Ctx Wd.w K mg) : Og Wd.P Wd.w K mg base 1 "is_integer" ["thing"] (spM K M.f_is_integer) := by
  obtain ⟨fd, F⟩ := C.f_is_integer
  exact ⟨fd, okM F fI' rfl rfl (fun cdv A outer s H E hr =>
    (ag' (aF' (a7' (gG' (d9' "int" (by decide) rfl (C.free_isinstance) (by decide +kernel) (ad' (pv 0)) (pe_bltn (v := .ty "int") rfl (C.free_int) (by decide +kernel) rfl)) (gE' (sK' (d9' "bool" (by decide) rfl (C.free_isinstance) (by decide +kernel) (ad' (pv 0)) (pe_bltn (v := .ty "bool") rfl (C.free_bool) (by decide +kernel) rfl))))))))), hC' F, F.kp, C.g_is_integer⟩
theorem en' (C : Ctx Wd.w K mg) : Og Wd.P Wd.w K mg base 1 "is_string_of" ["thing", "signs"] (spM K M.f_is_string_of) := by
  obtain ⟨fd, F⟩ := C.f_is_string_of
  exact ⟨fd, okM F cb' rfl rfl (fun cdv A outer s H E hr =>
    (ab' (bb' (by' (jW' (d9' "str" (by decide) rfl (C.free_isinstance) (by decide +kernel) (ad' (pv 0)) (pe_bltn (v := .ty "str") rfl (C.free_str) (by decide +kernel) rfl)))) (ag' (aF' (a7' bE'))) aJ')
      (ab' (cI' (passes_of rfl) rfl (d8' (ad' (pv 0))) (ff' 2 cb'.nd rfl (by walk_at "1") (by walk_at "2")) (ag' (bb' (aD' gP' mT' (by rfl) (ad' (pv 2)) (ad' (pv 1))) (ag' (aF' (a7' bE'))) aJ')))
      (ag' (aF' (a7' bE')))))), eZ' F, F.kp, C.g_is_string_of⟩
theorem cd' (C : Ctx Wd.w K mg) : Og Wd.P Wd.w K mg base 1 "is_ascending" ["thing"] (spM K M.f_is_ascending) := by
  obtain ⟨fd, F⟩ := C.f_is_ascending
  exact ⟨fd, okM F bB' rfl rfl (fun cdv A outer s H E hr =>
    (ab' (cI' (passes_of rfl) rfl (sJ' rfl (C.free_zip) (ad' (pv 0)) (eV' nL' nN' (ad' (pv 0)) (eT' ac') eU')) (wZ' (n := 2) rfl rfl rfl rfl (cJ' rfl (ff' 1 bB'.nd rfl (by walk_at "1") (by walk_at "2")) (cJ' rfl (ff' 2 bB'.nd rfl (by walk_at "1") (by walk_at "2")) ml'))) (ag' (bb' (aD' mQ' vR' (nomark _) (ad' (pv 1)) (ad' (pv 2))) (ag' (aF' (a7' bE'))) aJ')))
      (ag' (aF' (a7' bE'))))), e0' F, F.kp, C.g_is_ascending⟩
theorem gQ' (C : Ctx Wd.w K mg) : Og Wd.P Wd.w K mg base 2 "is_choice" ["thing", "signs"] (spM K M.f_is_choice) := by
  obtain ⟨fd, F⟩ := C.f_is_choice
  exact ⟨fd, okM F gH' rfl rfl (fun cdv A outer s H E hr =>
    (ag' (aF' (a7' (gG' (co' (ao' (en' C) (hr.mono (by walk_at "4")) rfl (takes_of rfl rfl rfl rfl) (aa' (ad' (pv 0)) (aa' (ad' (pv 1)) ai')))) (gE' (co' (ao' (cd' C) (hr.mono (by walk_at "4")) rfl (takes_of rfl rfl rfl rfl) (aa' (ad' (pv 0)) ai'))))))))), iL' F, F.kp, C.g_is_choice⟩
theorem cS' (C : Ctx Wd.w K mg) : Og Wd.P Wd.w K mg base 2 "are_states" ["thing", "many"] (spM K M.f_are_states) := by
  obtain ⟨fd, F⟩ := C.f_are_states
  exact ⟨fd, okM F cM' rfl rfl (fun cdv A outer s H E hr =>
    (ab' (bb' (by' (jW' (d9' "tuple" (by decide) rfl (C.free_isinstance) (by decide +kernel) (ad' (pv 0)) (pe_bltn (v := .ty "tuple") rfl (C.free_tuple) (by decide +kernel) rfl)))) (ag' (aF' (a7' bE'))) aJ')
      (ab' (cI' (passes_of rfl) rfl (d8' (ad' (pv 0))) (ff' 2 cM'.nd rfl (by walk_at "1") (by walk_at "2")) (ag' (bb' (kz' (dH' (by' (jW' (co' (ao' (fP' C) (hr.mono (by walk_at "4")) rfl (takes_of rfl rfl rfl rfl) (aa' (ad' (pv 2)) ai'))))) (dH' (aD' j5' uV' (nomark _) (ad' (pv 2)) ac') (cH' (aD' mQ' vR' (nomark _) (ad' (pv 2)) (ad' (pv 1))))))) (ag' (aF' (a7' bE'))) aJ')))
      (ag' (aF' (a7' bE')))))), hD' F, F.kp, C.g_are_states⟩
theorem ic' (C : Ctx Wd.w K mg) : Og Wd.P Wd.w K mg base 3 "is_table" ["thing", "letters"] (spM K M.f_is_table) := by
  obtain ⟨fd, F⟩ := C.f_is_table
  exact ⟨fd, okM F ea' rfl rfl (fun cdv A outer s H E hr =>
    (ab' (bb' (kz' (dH' (by' (jW' (d9' "tuple" (by decide) rfl (C.free_isinstance) (by decide +kernel) (ad' (pv 0)) (pe_bltn (v := .ty "tuple") rfl (C.free_tuple) (by decide +kernel) rfl)))) (cH' (by' (jX' j6' uW' j6' uW' ac' (bu' (aI' ⟨rfl, rfl⟩) ck' rfl (C.free_len) (by decide +kernel) (ad' (pv 0))) ac'))))) (ag' (aF' (a7' bE'))) aJ')
      (ab' (cI' (passes_of rfl) rfl (d8' (ad' (pv 0))) (ff' 2 ea'.nd rfl (by walk_at "1") (by walk_at "2")) (ag' (bb' (kz' (dH' (by' (jW' (co' (ao' (cS' C) (hr.mono (by walk_at "4")) rfl (takes_of rfl rfl rfl rfl) (aa' (ad' (pv 2)) (aa' (bu' (aI' ⟨rfl, rfl⟩) ck' rfl (C.free_len) (by decide +kernel) (ad' (pv 0))) ai')))))) (cH' (aD' (mP' hr.units) vQ' (nomark _) (bu' (aI' ⟨rfl, rfl⟩) ck' rfl (C.free_len) (by decide +kernel) (ad' (pv 2))) (bu' (aI' ⟨rfl, rfl⟩) ck' rfl (C.free_len) (by decide +kernel) (ad' (pv 1))))))) (ag' (aF' (a7' bE'))) aJ')))
      (ag' (aF' (a7' bE')))))), kU' F, F.kp, C.g_is_table⟩
theorem eo' (C : Ctx Wd.w K mg) : OgM Wd.P Wd.w K mg base 1 (He.ga K "Machine") "keep" ["self", "letters", "table", "accepts"] (spM K M.f_Machine_keep) := by
  obtain ⟨fd, F⟩ := C.f_Machine_keep
  exact ⟨fd, okM F ec' rfl rfl (fun cdv A outer s H E hr =>
    (ab' (d7' ["Machine"] (ad' (pv 0)) (a7' (ad' (pv 1))) C.at_kept_letters)
      (ab' (d7' ["Machine"] (ad' (pv 0)) (a7' (ad' (pv 2))) C.at_kept_table)
      (ab' (d7' ["Machine"] (ad' (pv 0)) (a7' (ad' (pv 3))) C.at_kept_accepts)
      (ab' (d7' ["Machine"] (ad' (pv 0)) (a7' mn') C.at_kept_least)
      (ab' (d7' ["Machine"] (ad' (pv 0)) (a7' mn') C.at_kept_field)
      (ab' (d7' ["Machine"] (ad' (pv 0)) h4' C.at_kept_lots)
      (ag' (d7' ["Machine"] (ad' (pv 0)) h4' C.at_kept_more))))))))), e2' F⟩
theorem bC' (C : Ctx Wd.w K mg) : OgM Wd.P Wd.w K mg base 4 (He.ga K "Machine") "__init__" ["self", "letters", "table", "accepts"] (spM K M.f_Machine___init__) := by
  obtain ⟨fd, F⟩ := C.f_Machine___init__
  exact ⟨fd, okM F cA' rfl rfl (fun cdv A outer s H E hr =>
    (ab' (bb' (kz' (dH' (by' (jW' (co' (ao' (gQ' C) (hr.mono (by walk_at "4")) rfl (takes_of rfl rfl rfl rfl) (aa' (ad' (pv 1)) (aa' (xy' (qM' rfl C.c_SMALL) fun _ _ => tI' (by decide +kernel) (by decide +kernel)) ai')))))) (cH' (by' (jX' j6' uW' j6' uW' ac' (bu' (aI' ⟨rfl, rfl⟩) ck' rfl (C.free_len) (by decide +kernel) (ad' (pv 1))) ac'))))) (ag' hX') aJ')
      (ab' (bb' (by' (jW' (co' (ao' (ic' C) (hr.mono (by walk_at "4")) rfl (takes_of rfl rfl rfl rfl) (aa' (ad' (pv 2)) (aa' (ad' (pv 1)) ai')))))) (ag' hX') aJ')
      (ab' (bb' (kz' (dH' (by' (jW' (co' (ao' (cS' C) (hr.mono (by walk_at "4")) rfl (takes_of rfl rfl rfl rfl) (aa' (ad' (pv 3)) (aa' (bu' (aI' ⟨rfl, rfl⟩) ck' rfl (C.free_len) (by decide +kernel) (ad' (pv 2))) ai')))))) (cH' (by' (jW' (co' (ao' (cd' C) (hr.mono (by walk_at "4")) rfl (takes_of rfl rfl rfl rfl) (aa' (ad' (pv 3)) ai')))))))) (ag' hX') aJ')
      (ag' (qx' (co' (qz' (ad' (pv 0)) (eo' C) (hr.mono (by decide)) C.ml_Machine_keep (takes_of rfl rfl rfl rfl) (aa' (ad' (pv 1)) (aa' (ad' (pv 2)) (aa' (ad' (pv 3)) ai'))))))))))), c6' F⟩
theorem bL' (C : Ctx Wd.w K mg) : OgM Wd.P Wd.w K mg base 1 (He.ga K "Machine") "letters" ["self"] (spM K M.f_Machine_letters) := by
  obtain ⟨fd, F⟩ := C.f_Machine_letters
  exact ⟨fd, okM F cN' rfl rfl (fun cdv A outer s H E hr =>
    (ag' (aF' (a7' (fg' ["Machine"] (ad' (pv 0)) C.at_kept_letters))))), dp' F⟩
theorem dM' (C : Ctx Wd.w K mg) : OgM Wd.P Wd.w K mg base 1 (He.ga K "Machine") "table" ["self"] (spM K M.f_Machine_table) := by
  obtain ⟨fd, F⟩ := C.f_Machine_table
  exact ⟨fd, okM F dJ' rfl rfl (fun cdv A outer s H E hr =>
    (ag' (aF' (a7' (fg' ["Machine"] (ad' (pv 0)) C.at_kept_table))))), eH' F⟩
theorem cU' (C : Ctx Wd.w K mg) : OgM Wd.P Wd.w K mg base 1 (He.ga K "Machine") "accepts" ["self"] (spM K M.f_Machine_accepts) := by
  obtain ⟨fd, F⟩ := C.f_Machine_accepts
  exact ⟨fd, okM F cO' rfl rfl (fun cdv A outer s H E hr =>
    (ag' (aF' (a7' (fg' ["Machine"] (ad' (pv 0)) C.at_kept_accepts))))), dq' F⟩
theorem b5' (C : Ctx Wd.w K mg) : OgM Wd.P Wd.w K mg base 1 (He.ga K "Machine") "parts" ["self"] (spM K M.f_Machine_parts) := by
  obtain ⟨fd, F⟩ := C.f_Machine_parts
  exact ⟨fd, okM F dK' rfl rfl (fun cdv A outer s H E hr =>
    (ag' (aF' (a7' (cK' (aa' (fg' ["Machine"] (ad' (pv 0)) C.at_kept_letters) (aa' (fg' ["Machine"] (ad' (pv 0)) C.at_kept_table) (aa' (fg' ["Machine"] (ad' (pv 0)) C.at_kept_accepts) ai')))))))), eI' F⟩
end
end S
namespace S
open PySem PySem.Spec PyProof.Rows L2
section
variable [Wd] {K : PySem.W.Frag} {mg : Str -> Option Value} {base : Heap}
theorem aO' (C : Ctx Wd.w K mg) : OgM Wd.P Wd.w K mg base 2 (He.ga K "Machine") "__eq__" ["self", "other"] (spM K M.f_Machine___eq__) := by
  obtain ⟨fd, F⟩ := C.f_Machine___eq__
  exact ⟨fd, okM F dc' rfl rfl (fun cdv A outer s H E hr =>
    (ag' (aF' (a7' (gG' (sL' M.isT "Machine" C.is_Machine rfl (C.free_isinstance) (by decide +kernel) (ad' (pv 1)) (qN' rfl C.g_Machine)) (gE' (fh' (a6' hr.units) ep' (nomark _) (co' (cn' (ad' (pv 0)) (b5' C) (hr.mono (by decide)) C.ml_Machine_parts (takes_of rfl rfl rfl rfl))) (co' (cn' (ad' (pv 1)) (b5' C) (hr.mono (by decide)) C.ml_Machine_parts (takes_of rfl rfl rfl rfl)))))))))), dO' F⟩
theorem gU' (C : Ctx Wd.w K mg) : Og Wd.P Wd.w K mg base 1 "_law_hand" ["_law_script"] (spM K M.f__law_hand) := by
  obtain ⟨fd, F⟩ := C.f__law_hand
  exact ⟨fd, okM F cc' rfl rfl (fun cdv A outer s H E hr =>
    (ab' (fE' (i := 1) (own := [("_law_cell", 2)]) rfl cc'.nd rfl rfl (sw_true (by rfl) (by rfl) (by rfl) (by decide +kernel)) (d8' (eV' nL' nN' (ad' (pv 0)) eU' (eT' ac'))) (blkOk_by (own := [("_law_cell", 2)]) (N := eO') (sc := defScope aR') (by decide +kernel)) rfl (fun _ _ _ _ _ => (ff' 2 cc'.nd rfl (by walk_at "1") (by walk_at "2"))) (fun _ _ _ _ _ => dV') (fun _ _ _ _ _ => (bu' nB' wO' rfl (C.free_abs) (by decide +kernel) (bV' a4' do' rfl (C.free_int) (by decide +kernel) (ad' (pv 2))))))
      (ag' (aF' (sI' (aa' (ad' (pv 1)) (aa' ac' (aa' ac' (aa' (aE' aC' bn' ac' (bu' (aI' ⟨rfl, rfl⟩) ck' rfl (C.free_len) (by decide +kernel) (ad' (pv 1)))) (aa' ac' ai')))))))))), iP' F, F.kp, C.g__law_hand⟩
theorem ar' (C : Ctx Wd.w K mg) : Og Wd.P Wd.w K mg base 1 "_law_draw" ["_law_hand_here", "_law_many"] (spM K M.f__law_draw) := by
  obtain ⟨fd, F⟩ := C.f__law_draw
  exact ⟨fd, okM F bi' rfl rfl (fun cdv A outer s H E hr =>
    (ab' (bb' (kz' (jT' (aD' (a6' hr.units) ep' (nomark _) (bQ' (ad' (pv 0)) ac' (fun _ _ => rfl)) ac') (fD' (aD' j5' uV' (nomark _) (bQ' (ad' (pv 0)) ac' (fun _ _ => rfl)) (bu' (aI' ⟨rfl, rfl⟩) ck' rfl (C.free_len) (by decide +kernel) (bQ' (ad' (pv 0)) ac' (fun _ _ => rfl))))))) (ab' (ak' (i := 2) bi'.nd rfl (by walk_at "1") (a7' (bO' ix_seq eS' (bQ' (ad' (pv 0)) ac' (fun _ _ => rfl)) (bQ' (ad' (pv 0)) ac' (fun _ _ => rfl)) (fun _ _ => rfl))))
      (ab' (d6' (aE' aC' bn' (bQ' (ad' (pv 0)) ac' (fun _ _ => rfl)) ac') (ad' (pv 0)) ac')
      (ab' (d6' (aE' op_mod dg' (bV' a4' do' rfl (C.free_int) (by decide +kernel) (aE' aC' bn' (aE' aC' bn' (aE' em' mU' (bQ' (ad' (pv 0)) ac' (fun _ _ => rfl)) ac') (ad' (pv 2))) ac')) ac') (ad' (pv 0)) ac')
      (ag' (bb' (aD' mQ' vR' (nomark _) (ad' (pv 2)) (aE' op_pow vO' ac' ac')) (ag' (d6' (ad' (pv 2)) (ad' (pv 0)) ac')) aJ'))))) aJ')
      (ab' (bb' (aD' pP' w9' (nomark _) (bQ' (ad' (pv 0)) ac' (fun _ _ => rfl)) ac') (ab' (ak' (i := 3) bi'.nd rfl (by walk_at "1") (a7' (aE' op_mod dg' (bV' a4' do' rfl (C.free_int) (by decide +kernel) (bQ' (ad' (pv 0)) ac' (fun _ _ => rfl))) (ad' (pv 1)))))
      (ab' (d6' (aE' op_fdivW ka' (bQ' (ad' (pv 0)) ac' (fun _ _ => rfl)) (ad' (pv 1))) (ad' (pv 0)) ac')
      (ag' (aF' (vq' (pv 3)))))) aJ')
      (ab' (d6' (aE' aC' bn' (bQ' (ad' (pv 0)) ac' (fun _ _ => rfl)) ac') (ad' (pv 0)) ac')
      (ab' (ak' (i := 4) bi'.nd rfl (by walk_at "1") (a7' (aE' op_mod dg' (bV' a4' do' rfl (C.free_int) (by decide +kernel) (aE' em' mU' (bV' a4' do' rfl (C.free_int) (by decide +kernel) (aE' aC' bn' (bQ' (ad' (pv 0)) ac' (fun _ _ => rfl)) (aE' em' mU' ac' (bQ' (ad' (pv 0)) ac' (fun _ _ => rfl))))) ac')) ac')))
      (ab' (ak' (i := 4) bi'.nd rfl (by walk_at "1") (a7' (aE' op_mod dg' (bV' a4' do' rfl (C.free_int) (by decide +kernel) (aE' em' mU' (ad' (pv 4)) (aE' aC' bn' (aE' op_fdivW ka' (ad' (pv 4)) ac') ac'))) ac')))
      (ab' (ak' (i := 4) bi'.nd rfl (by walk_at "1") (a7' (aE' op_mod dg' (bV' a4' do' rfl (C.free_int) (by decide +kernel) (aE' em' mU' (ad' (pv 4)) (aE' aC' bn' (aE' op_fdivW ka' (ad' (pv 4)) ac') ac'))) ac')))
      (ag' (aF' (a7' (aE' op_mod dg' (bV' a4' do' rfl (C.free_int) (by decide +kernel) (aE' op_fdivW ka' (ad' (pv 4)) ac')) (ad' (pv 1))))))))))))), iR' F, F.kp, C.g__law_draw⟩
theorem ce' (C : Ctx Wd.w K mg) : Og Wd.P Wd.w K mg base 2 "_law_letters" ["_law_hand_here", "_law_signs", "_law_many"] (spM K M.f__law_letters) := by
  obtain ⟨fd, F⟩ := C.f__law_letters
  exact ⟨fd, okM F aP' rfl rfl (fun cdv A outer s H E hr =>
    (ab' (ak' (i := 3) aP'.nd rfl (by walk_at "1") (a7' (ad' (pv 1))))
      (ab' (ak' (i := 4) aP'.nd rfl (by walk_at "1") (a7' (bJ' [] (by decide +kernel) (by decide +kernel))))
      (ab' (cI' (passes_of rfl) rfl (br' rfl (C.free_range) (ad' (pv 2))) (ff' 5 aP'.nd rfl (by walk_at "1") (by walk_at "2")) (ab' (ak' (i := 6) aP'.nd rfl (by walk_at "1") (ao' (ar' C) (hr.mono (by walk_at "4")) rfl (takes_of rfl rfl rfl rfl) (aa' (ad' (pv 0)) (aa' (bu' (aI' ⟨rfl, rfl⟩) ck' rfl (C.free_len) (by decide +kernel) (ad' (pv 3))) ai'))))
      (ab' (ak' (i := 4) aP'.nd rfl (by walk_at "1") (a7' (aE' aC' bn' (ad' (pv 4)) (bO' ix_seq eS' (ad' (pv 3)) (ad' (pv 6)) (fun _ _ => rfl)))))
      (ag' (ak' (i := 3) aP'.nd rfl (by walk_at "1") (a7' (aE' aC' bn' (eV' nL' nN' (ad' (pv 3)) eU' (eT' (ad' (pv 6)))) (eV' nL' nN' (ad' (pv 3)) (eT' (aE' aC' bn' (ad' (pv 6)) ac')) eU'))))))))
      (ag' (aF' (vq' (pv 4)))))))), e1' F, F.kp, C.g__law_letters⟩
theorem dL' (C : Ctx Wd.w K mg) : Og Wd.P Wd.w K mg base 2 "_law_shuffled" ["_law_hand_here", "_law_things"] (spM K M.f__law_shuffled) := by
  obtain ⟨fd, F⟩ := C.f__law_shuffled
  exact ⟨fd, okM F bf' rfl rfl (fun cdv A outer s H E hr =>
    (ab' (ak' (i := 2) bf'.nd rfl (by walk_at "1") (qy' (kS' rfl) oz' rfl (C.free_list) (by decide +kernel) (ad' (pv 1))))
      (ab' (ak' (i := 3) bf'.nd rfl (by walk_at "1") (mj' ai'))
      (ab' (cI' (passes_of rfl) rfl (br' rfl (C.free_range) (bu' (aI' ⟨rfl, rfl⟩) ck' rfl (C.free_len) (by decide +kernel) (ad' (pv 1)))) (ff' 4 bf'.nd rfl (by walk_at "1") (by walk_at "2")) (ag' (mh' (pv 3) (a7' (n6' (pv 2) (co' (ao' (ar' C) (hr.mono (by walk_at "4")) rfl (takes_of rfl rfl rfl rfl) (aa' (ad' (pv 0)) (aa' (qA' ⟨rfl, rfl⟩ rfl (C.free_len) (by decide +kernel) (pv 2)) ai')))))))))
      (ag' (aF' (vq' (pv 3)))))))), eF' F, F.kp, C.g__law_shuffled⟩
theorem gR' (C : Ctx Wd.w K mg) : Og Wd.P Wd.w K mg base 3 "_law_rows" ["_law_hand_here", "_law_kind", "_law_size", "_law_many"] (spM K M.f__law_rows) := by
  obtain ⟨fd, F⟩ := C.f__law_rows
  exact ⟨fd, okM F aj' rfl rfl (fun cdv A outer s H E hr =>
    (ab' (ak' (i := 4) aj'.nd rfl (by walk_at "1") (mj' ai'))
      (ab' (fE' (i := 5) (own := [("_law_letter", 9)]) rfl aj'.nd rfl rfl (sw_true (by rfl) (by rfl) (by rfl) (by decide +kernel)) (br' rfl (C.free_range) (ad' (pv 3))) (blkOk_by (own := [("_law_letter", 9)]) (N := cE') (sc := defScope aK') (by decide +kernel)) rfl (fun _ _ _ _ _ => (ff' 9 aj'.nd rfl (by walk_at "1") (by walk_at "2"))) (fun _ _ _ _ _ => dV') (fun _ _ _ _ _ => (co' (ao' (ar' C) (hr.mono (by walk_at "4")) rfl fC' (aa' (ad' (pv 0)) (aa' (ad' (pv 2)) ai'))))))
      (ab' (fE' (i := 6) (own := [("_law_letter", 9)]) rfl aj'.nd rfl rfl (sw_true (by rfl) (by rfl) (by rfl) (by decide +kernel)) (br' rfl (C.free_range) (ad' (pv 3))) (blkOk_by (own := [("_law_letter", 9)]) (N := cE') (sc := defScope aK') (by decide +kernel)) rfl (fun _ _ _ _ _ => (ff' 9 aj'.nd rfl (by walk_at "1") (by walk_at "2"))) (fun _ _ _ _ _ => dV') (fun _ _ _ _ _ => (co' (ao' (dL' C) (hr.mono (by walk_at "4")) rfl fC' (aa' (ad' (pv 0)) (aa' (co' (kB' rfl rfl (C.free_list) rfl (C.free_range) (ad' (pv 2)))) ai'))))))
      (ab' (cI' (passes_of rfl) rfl (br' rfl (C.free_range) (ad' (pv 2))) (ff' 7 aj'.nd rfl (by walk_at "1") (by walk_at "2")) (ab' (ak' (i := 8) aj'.nd rfl (by walk_at "1") (mj' ai'))
      (ab' (cI' (passes_of rfl) rfl (br' rfl (C.free_range) (ad' (pv 3))) (ff' 9 aj'.nd rfl (by walk_at "1") (by walk_at "2")) (ab' (ak' (i := 10) aj'.nd rfl (by walk_at "1") (ao' (ar' C) (hr.mono (by walk_at "4")) rfl (takes_of rfl rfl rfl rfl) (aa' (ad' (pv 0)) (aa' (ad' (pv 2)) ai'))))
      (ab' (bb' (aD' (a6' hr.units) ep' (nomark _) (ad' (pv 1)) ac') (ag' (ak' (i := 10) aj'.nd rfl (by walk_at "1") (a7' (aE' op_mod dg' (bV' a4' do' rfl (C.free_int) (by decide +kernel) (aE' aC' bn' (ad' (pv 7)) (bO' ix_seq eS' (ad' (pv 5)) (ad' (pv 9)) (fun _ _ => rfl)))) (ad' (pv 2)))))) aJ')
      (ab' (bb' (aD' (a6' hr.units) ep' (nomark _) (ad' (pv 1)) ac') (ag' (ak' (i := 10) aj'.nd rfl (by walk_at "1") (a7' (mq' (dm' rfl) nC' rfl (C.free_min) (by decide +kernel) (aE' op_sub mS' (ad' (pv 2)) ac') (aE' aC' bn' (ad' (pv 7)) (bO' ix_seq eS' (ad' (pv 5)) (ad' (pv 9)) (fun _ _ => rfl))))))) aJ')
      (ab' (bb' (aD' (a6' hr.units) ep' (nomark _) (ad' (pv 1)) ac') (ab' (ak' (i := 10) aj'.nd rfl (by walk_at "1") (a7' (ad' (pv 7))))
      (ag' (bb' (aD' (a6' hr.units) ep' (nomark _) (ad' (pv 7)) ac') (ag' (ak' (i := 10) aj'.nd rfl (by walk_at "1") (a7' (aE' op_mod dg' (bV' a4' do' rfl (C.free_int) (by decide +kernel) (aE' aC' bn' ac' (ad' (pv 9)))) (ad' (pv 2)))))) aJ'))) aJ')
      (ab' (bb' (aD' (a6' hr.units) ep' (nomark _) (ad' (pv 1)) ac') (ag' (ak' (i := 10) aj'.nd rfl (by walk_at "1") (a7' (aE' op_mod dg' (bV' a4' do' rfl (C.free_int) (by decide +kernel) (aE' aC' bn' ac' (ad' (pv 9)))) (ad' (pv 2)))))) aJ')
      (ab' (bb' (aD' (a6' hr.units) ep' (nomark _) (ad' (pv 1)) ac') (ag' (ak' (i := 10) aj'.nd rfl (by walk_at "1") (a7' (mq' (dm' rfl) nC' rfl (C.free_min) (by decide +kernel) (aE' op_sub mS' (ad' (pv 2)) ac') (aE' aC' bn' (ad' (pv 7)) (bV' a4' do' rfl (C.free_int) (by decide +kernel) (fh' (a6' hr.units) ep' (nomark _) (aE' op_mod dg' (ad' (pv 7)) (ad' (pv 3))) (ad' (pv 9))))))))) aJ')
      (ab' (bb' (aD' (a6' hr.units) ep' (nomark _) (ad' (pv 1)) ac') (ab' (ak' (i := 10) aj'.nd rfl (by walk_at "1") (a7' (aE' op_sub mS' (ad' (pv 2)) ac')))
      (ag' (bb' (kz' (jT' (aD' j5' uV' (nomark _) (ad' (pv 7)) (aE' op_sub mS' (ad' (pv 2)) ac')) (fD' (aD' (a6' hr.units) ep' (nomark _) (aE' op_mod dg' (ad' (pv 7)) (ad' (pv 3))) (ad' (pv 9)))))) (ag' (ak' (i := 10) aj'.nd rfl (by walk_at "1") (a7' (aE' op_mod dg' (bV' a4' do' rfl (C.free_int) (by decide +kernel) (aE' aC' bn' (ad' (pv 7)) ac')) (aE' op_sub mS' (ad' (pv 2)) ac'))))) aJ'))) aJ')
      (ab' (bb' (aD' (a6' hr.units) ep' (nomark _) (ad' (pv 1)) ac') (ag' (ak' (i := 10) aj'.nd rfl (by walk_at "1") (a7' (bO' ix_seq eS' (bO' ix_seq eS' (ad' (pv 6)) (ad' (pv 9)) (fun _ _ => rfl)) (ad' (pv 7)) (fun _ _ => rfl))))) aJ')
      (ag' (mh' (pv 8) (a7' (ad' (pv 10))))))))))))))
      (ag' (mh' (pv 4) (a7' (bV' (bo' rfl) dn' rfl (C.free_tuple) (by decide +kernel) (ad' (pv 8)))))))))
      (ag' (aF' (a7' (bV' (bo' rfl) dn' rfl (C.free_tuple) (by decide +kernel) (ad' (pv 4))))))))))), iM' F, F.kp, C.g__law_rows⟩
theorem cT' (C : Ctx Wd.w K mg) : Og Wd.P Wd.w K mg base 4 "_law_parts" ["_law_hand_here", "_law_most", "_law_states"] (spM K M.f__law_parts) := by
  obtain ⟨fd, F⟩ := C.f__law_parts
  exact ⟨fd, okM F aB' rfl rfl (fun cdv A outer s H E hr =>
    (ab' (ak' (i := 3) aB'.nd rfl (by walk_at "1") (ao' (ar' C) (hr.mono (by walk_at "4")) rfl (takes_of rfl rfl rfl rfl) (aa' (ad' (pv 0)) (aa' ac' ai'))))
      (ab' (ak' (i := 4) aB'.nd rfl (by walk_at "1") (a7' (aE' aC' bn' ac' (co' (ao' (ar' C) (hr.mono (by walk_at "4")) rfl (takes_of rfl rfl rfl rfl) (aa' (ad' (pv 0)) (aa' (ad' (pv 1)) ai')))))))
      (ab' (ak' (i := 5) aB'.nd rfl (by walk_at "1") (a7' (aE' aC' bn' ac' (co' (ao' (ar' C) (hr.mono (by walk_at "4")) rfl (takes_of rfl rfl rfl rfl) (aa' (ad' (pv 0)) (aa' (ad' (pv 2)) ai')))))))
      (ab' (bb' (aD' pP' w9' (nomark _) (ad' (pv 3)) ac') (ab' (ak' (i := 5) aB'.nd rfl (by walk_at "1") (a7' (mq' (fu' rfl) p8' rfl (C.free_max) (by decide +kernel) ac' (ad' (pv 5)))))
      (ag' (ak' (i := 4) aB'.nd rfl (by walk_at "1") (a7' (mq' (fu' rfl) p8' rfl (C.free_max) (by decide +kernel) (mq' (dm' rfl) nC' rfl (C.free_min) (by decide +kernel) ac' (ad' (pv 1))) (ad' (pv 4))))))) aJ')
      (ab' (ak' (i := 6) aB'.nd rfl (by walk_at "1") (a7' (n7' PySem.F.slot_str_join PySem.F.type_str_join mt_join kb' (bJ' [] (by decide +kernel) (by decide +kernel)) (aa' (bu' (dl' rfl) f8' rfl (C.free_sorted) (by decide +kernel) (co' (ao' (ce' C) (hr.mono (by walk_at "4")) rfl (takes_of rfl rfl rfl rfl) (aa' (ad' (pv 0)) (aa' (bJ' [97, 98, 99, 100, 101, 102, 103, 104, 105, 106, 107, 108, 109, 110, 111, 112, 113, 114, 115, 116, 117, 118, 119, 120, 121, 122] (by decide +kernel) (by decide +kernel)) (aa' (ad' (pv 4)) ai')))))) ai'))))
      (ab' (ak' (i := 7) aB'.nd rfl (by walk_at "1") (ao' (gR' C) (hr.mono (by walk_at "4")) rfl (takes_of rfl rfl rfl rfl) (aa' (ad' (pv 0)) (aa' (ad' (pv 3)) (aa' (ad' (pv 5)) (aa' (ad' (pv 4)) ai'))))))
      (ab' (ak' (i := 8) aB'.nd rfl (by walk_at "1") (a7' (bV' (bo' rfl) dn' rfl (C.free_tuple) (by decide +kernel) (n8' (own := [("_law_state", 9)]) rfl aB'.nd (br' rfl (C.free_range) (ad' (pv 5))) (blkOk_by (own := [("_law_state", 9)]) (N := dG') (sc := defScope aH') (by decide +kernel)) rfl (fun _ _ _ _ _ => (ff' 9 aB'.nd rfl (by walk_at "1") (by walk_at "2"))) (fun _ _ _ _ _ => (fF' (aD' (a6' hr.units) ep' (nomark _) (co' (ao' (ar' C) (hr.mono (by walk_at "4")) rfl fC' (aa' (ad' (pv 0)) (aa' ac' ai')))) ac'))) (fun _ _ _ _ _ => (ad' (pv 9)))))))
      (ag' (aF' (a7' (cK' (aa' (ad' (pv 6)) (aa' (ad' (pv 7)) (aa' (ad' (pv 8)) ai'))))))))))))))), hE' F, F.kp, C.g__law_parts⟩
theorem id' (C : Ctx Wd.w K mg) : Og Wd.P Wd.w K mg base 2 "_law_odd" ["_law_hand_here"] (spM K M.f__law_odd) := by
  obtain ⟨fd, F⟩ := C.f__law_odd
  exact ⟨fd, okM F eb' rfl rfl (fun cdv A outer s H E hr =>
    (ab' (ak' (i := 1) eb'.nd rfl (by walk_at "1") (a7' (gF' (aa' mn' (aa' bE' (aa' bE' (aa' ac' (aa' (vt' un_neg vP' ac') (aa' ac' (aa' (bJ' [] (by decide +kernel) (by decide +kernel)) (aa' (bJ' [63] (by decide +kernel) (by decide +kernel)) (aa' (bJ' [65] (by decide +kernel) (by decide +kernel)) (aa' (gF' ai') (aa' (cK' ai') (aa' (co' h4') (aa' (gF' (aa' (bJ' [97] (by decide +kernel) (by decide +kernel)) ai')) (aa' (cK' (aa' (bJ' [97] (by decide +kernel) (by decide +kernel)) ai')) (aa' (co' (mk' (bJ' [97] (by decide +kernel) (by decide +kernel)) ac')) (aa' (gF' (aa' (gF' (aa' ac' ai')) ai')) ai')))))))))))))))))))
      (ag' (aF' (a7' (bO' ix_seq eS' (ad' (pv 1)) (co' (ao' (ar' C) (hr.mono (by walk_at "4")) rfl (takes_of rfl rfl rfl rfl) (aa' (ad' (pv 0)) (aa' ac' ai')))) (fun _ _ => rfl))))))), kV' F, F.kp, C.g__law_odd⟩
theorem du' (C : Ctx Wd.w K mg) : Og Wd.P Wd.w K mg base 1 "_law_flag" ["_law_found", "_law_due"] (spM K M.f__law_flag) := by
  obtain ⟨fd, F⟩ := C.f__law_flag
  exact ⟨fd, okM F gI' rfl rfl (fun cdv A outer s H E hr =>
    (ag' (aF' (a7' (gG' (d9' "bool" (by decide) rfl (C.free_isinstance) (by decide +kernel) (ad' (pv 0)) (pe_bltn (v := .ty "bool") rfl (C.free_bool) (by decide +kernel) rfl)) (gE' (fh' (a6' hr.units) ep' (nomark _) (ad' (pv 0)) (ad' (pv 1))))))))), iQ' F, F.kp, C.g__law_flag⟩
theorem gT' (C : Ctx Wd.w K mg) : Og Wd.P Wd.w K mg base 2 "_law_more" ["_law_hand_here", "_law_letters_here"] (spM K M.f__law_more) := by
  obtain ⟨fd, F⟩ := C.f__law_more
  exact ⟨fd, okM F bK' rfl rfl (fun cdv A outer s H E hr =>
    (ab' (bb' (aD' (a6' hr.units) ep' (nomark _) (bu' (aI' ⟨rfl, rfl⟩) ck' rfl (C.free_len) (by decide +kernel) (ad' (pv 1))) ac') (ag' (aF' (a7' (eV' nL' nN' (ad' (pv 1)) eU' (eT' ac'))))) aJ')
      (ab' (ak' (i := 2) bK'.nd rfl (by walk_at "1") (a7' (n7' PySem.F.slot_str_join PySem.F.type_str_join mt_join kb' (bJ' [] (by decide +kernel) (by decide +kernel)) (aa' (n8' (own := [("_law_sign", 3)]) rfl bK'.nd (d8' (bJ' [97, 98, 99, 100, 101, 102, 103, 104, 105, 106, 107, 108, 109, 110, 111, 112, 113, 114, 115, 116, 117, 118, 119, 120, 121, 122] (by decide +kernel) (by decide +kernel))) (blkOk_by (own := [("_law_sign", 3)]) (N := eM') (sc := defScope aQ') (by decide +kernel)) rfl (fun _ _ _ _ _ => (ff' 3 bK'.nd rfl (by walk_at "1") (by walk_at "2"))) (fun _ _ _ _ _ => (fF' (aD' gP' mT' (by rfl) (ad' (pv 3)) (ad' (pv 1))))) (fun _ _ _ _ _ => (ad' (pv 3)))) ai'))))
      (ag' (aF' (a7' (n7' PySem.F.slot_str_join PySem.F.type_str_join mt_join kb' (bJ' [] (by decide +kernel) (by decide +kernel)) (aa' (bu' (dl' rfl) f8' rfl (C.free_sorted) (by decide +kernel) (aE' aC' bn' (ad' (pv 1)) (bO' ix_seq eS' (ad' (pv 2)) (co' (ao' (ar' C) (hr.mono (by walk_at "4")) rfl (takes_of rfl rfl rfl rfl) (aa' (ad' (pv 0)) (aa' (bu' (aI' ⟨rfl, rfl⟩) ck' rfl (C.free_len) (by decide +kernel) (ad' (pv 2))) ai')))) (fun _ _ => rfl)))) ai')))))))), iO' F, F.kp, C.g__law_more⟩
theorem gS' (C : Ctx Wd.w K mg) : Og Wd.P Wd.w K mg base 5 "_law_near" ["_law_hand_here", "_law_parts_here"] (spM K M.f__law_near) := by
  obtain ⟨fd, F⟩ := C.f__law_near
  exact ⟨fd, okM F ah' rfl rfl (fun cdv A outer s H E hr =>
    (ab' (sG' (ad' (pv 1)) (wZ' (n := 3) rfl rfl rfl rfl (cJ' rfl (ff' 2 ah'.nd rfl (by walk_at "1") (by walk_at "2")) (cJ' rfl (ff' 3 ah'.nd rfl (by walk_at "1") (by walk_at "2")) (cJ' rfl (ff' 4 ah'.nd rfl (by walk_at "1") (by walk_at "2")) ml')))))
      (ab' (ak' (i := 5) ah'.nd rfl (by walk_at "1") (ao' (ar' C) (hr.mono (by walk_at "4")) rfl (takes_of rfl rfl rfl rfl) (aa' (ad' (pv 0)) (aa' ac' ai'))))
      (ab' (ak' (i := 6) ah'.nd rfl (by walk_at "1") (a7' (bu' (aI' ⟨rfl, rfl⟩) ck' rfl (C.free_len) (by decide +kernel) (ad' (pv 3)))))
      (ab' (ak' (i := 7) ah'.nd rfl (by walk_at "1") (ao' (ar' C) (hr.mono (by walk_at "4")) rfl (takes_of rfl rfl rfl rfl) (aa' (ad' (pv 0)) (aa' (ad' (pv 6)) ai'))))
      (ab' (bb' (aD' (a6' hr.units) ep' (nomark _) (ad' (pv 5)) ac') (ag' (ak' (i := 2) ah'.nd rfl (by walk_at "1") (a7' (n7' PySem.F.slot_str_join PySem.F.type_str_join mt_join kb' (bJ' [] (by decide +kernel) (by decide +kernel)) (aa' (bu' (dl' rfl) f8' rfl (C.free_sorted) (by decide +kernel) (co' (ao' (ce' C) (hr.mono (by walk_at "4")) rfl (takes_of rfl rfl rfl rfl) (aa' (ad' (pv 0)) (aa' (bJ' [97, 98, 99, 100, 101, 102, 103, 104, 105, 106, 107, 108, 109, 110, 111, 112, 113, 114, 115, 116, 117, 118, 119, 120, 121, 122] (by decide +kernel) (by decide +kernel)) (aa' (bu' (aI' ⟨rfl, rfl⟩) ck' rfl (C.free_len) (by decide +kernel) (ad' (pv 2))) ai')))))) ai'))))) aJ')
      (ab' (bb' (aD' (a6' hr.units) ep' (nomark _) (ad' (pv 5)) ac') (ab' (ak' (i := 8) ah'.nd rfl (by walk_at "1") (ao' (ar' C) (hr.mono (by walk_at "4")) rfl (takes_of rfl rfl rfl rfl) (aa' (ad' (pv 0)) (aa' (bu' (aI' ⟨rfl, rfl⟩) ck' rfl (C.free_len) (by decide +kernel) (ad' (pv 2))) ai'))))
      (ab' (ak' (i := 9) ah'.nd rfl (by walk_at "1") (a7' (aE' aC' bn' (aE' aC' bn' (eV' nL' nN' (bO' ix_seq eS' (ad' (pv 3)) (ad' (pv 7)) (fun _ _ => rfl)) eU' (eT' (ad' (pv 8)))) (cK' (aa' (co' (ao' (ar' C) (hr.mono (by walk_at "4")) rfl (takes_of rfl rfl rfl rfl) (aa' (ad' (pv 0)) (aa' (ad' (pv 6)) ai')))) ai'))) (eV' nL' nN' (bO' ix_seq eS' (ad' (pv 3)) (ad' (pv 7)) (fun _ _ => rfl)) (eT' (aE' aC' bn' (ad' (pv 8)) ac')) eU'))))
      (ag' (ak' (i := 3) ah'.nd rfl (by walk_at "1") (a7' (aE' aC' bn' (aE' aC' bn' (eV' nL' nN' (ad' (pv 3)) eU' (eT' (ad' (pv 7)))) (cK' (aa' (ad' (pv 9)) ai'))) (eV' nL' nN' (ad' (pv 3)) (eT' (aE' aC' bn' (ad' (pv 7)) ac')) eU'))))))) aJ')
      (ab' (bb' (kz' (jT' (aD' (a6' hr.units) ep' (nomark _) (ad' (pv 5)) ac') (fD' (aD' td' xI' (by rfl) (ad' (pv 7)) (ad' (pv 4)))))) (ag' (ak' (i := 4) ah'.nd rfl (by walk_at "1") (a7' (bV' (bo' rfl) dn' rfl (C.free_tuple) (by decide +kernel) (n8' (own := [("_law_one", 11)]) rfl ah'.nd (d8' (ad' (pv 4))) (blkOk_by (own := [("_law_one", 11)]) (N := cF') (sc := defScope aL') (by decide +kernel)) rfl (fun _ _ _ _ _ => (ff' 11 ah'.nd rfl (by walk_at "1") (by walk_at "2"))) (fun _ _ _ _ _ => (fF' (aD' (mP' hr.units) vQ' (nomark _) (ad' (pv 11)) (ad' (pv 7))))) (fun _ _ _ _ _ => (ad' (pv 11)))))))) (ag' (bb' (aD' (a6' hr.units) ep' (nomark _) (ad' (pv 5)) ac') (ag' (ak' (i := 4) ah'.nd rfl (by walk_at "1") (a7' (bV' (bo' rfl) dn' rfl (C.free_tuple) (by decide +kernel) (bu' iI' rS' rfl (C.free_sorted) (by decide +kernel) (aE' aC' bn' (ad' (pv 4)) (cK' (aa' (ad' (pv 7)) ai')))))))) aJ')))
      (ab' (bb' (kz' (jT' (aD' (a6' hr.units) ep' (nomark _) (ad' (pv 5)) ac') (fD' (aD' j5' uV' (nomark _) (ad' (pv 6)) ac')))) (ag' (ak' (i := 3) ah'.nd rfl (by walk_at "1") (a7' (aE' aC' bn' (ad' (pv 3)) (cK' (aa' (bO' ix_seq eS' (ad' (pv 3)) (ad' (pv 7)) (fun _ _ => rfl)) ai')))))) aJ')
      (ab' (bb' (aD' (a6' hr.units) ep' (nomark _) (ad' (pv 5)) ac') (ab' (ak' (i := 10) ah'.nd rfl (by walk_at "1") (ao' (gT' C) (hr.mono (by walk_at "4")) rfl (takes_of rfl rfl rfl rfl) (aa' (ad' (pv 0)) (aa' (ad' (pv 2)) ai'))))
      (ab' (ak' (i := 3) ah'.nd rfl (by walk_at "1") (a7' (bV' (bo' rfl) dn' rfl (C.free_tuple) (by decide +kernel) (n8' (own := [("_law_row", 9)]) rfl ah'.nd (d8' (ad' (pv 3))) (blkOk_by (own := [("_law_row", 9)]) (N := cF') (sc := defScope aL') (by decide +kernel)) rfl (fun _ _ _ _ _ => (ff' 9 ah'.nd rfl (by walk_at "1") (by walk_at "2"))) (fun _ _ _ _ _ => dV') (fun _ _ _ _ _ => (eV' nL' nN' (aE' aC' bn' (ad' (pv 9)) (ad' (pv 9))) eU' (eT' (bu' (aI' ⟨rfl, rfl⟩) ck' rfl (C.free_len) (by decide +kernel) (ad' (pv 10))))))))))
      (ag' (ak' (i := 2) ah'.nd rfl (by walk_at "1") (a7' (ad' (pv 10))))))) aJ')
      (ab' (bb' (aD' (a6' hr.units) ep' (nomark _) (ad' (pv 5)) ac') (ag' (aF' (ao' (cT' C) (hr.mono (by walk_at "4")) rfl (takes_of rfl rfl rfl rfl) (aa' (ad' (pv 0)) (aa' ac' (aa' ac' ai')))))) aJ')
      (ag' (aF' (a7' (cK' (aa' (ad' (pv 2)) (aa' (ad' (pv 3)) (aa' (ad' (pv 4)) ai')))))))))))))))))), iN' F, F.kp, C.g__law_near⟩
theorem b4' (C : Ctx Wd.w K mg) : Og Wd.P Wd.w K mg base 2 "_law_is_parts" ["_law_machine", "_law_parts_here"] (spM K M.f__law_is_parts) := by
  obtain ⟨fd, F⟩ := C.f__law_is_parts
  exact ⟨fd, okM F dI' rfl rfl (fun cdv A outer s H E hr =>
    (ab' (bb' (kz' (dH' (aD' (mP' hr.units) vQ' (nomark _) (co' (cn' (ad' (pv 0)) (bL' C) (hr.mono (by decide)) C.ml_Machine_letters (takes_of rfl rfl rfl rfl))) (bO' ix_seq eS' (ad' (pv 1)) ac' (fun _ _ => rfl))) (cH' (by' (jW' (d9' "str" (by decide) rfl (C.free_isinstance) (by decide +kernel) (co' (cn' (ad' (pv 0)) (bL' C) (hr.mono (by decide)) C.ml_Machine_letters (takes_of rfl rfl rfl rfl))) (pe_bltn (v := .ty "str") rfl (C.free_str) (by decide +kernel) rfl))))))) (ag' (aF' (a7' bE'))) aJ')
      (ag' (aF' (a7' (gG' (fh' (a6' hr.units) ti' (nomark _) (bu' (dY' hr.units hr.g) pa' rfl (C.free_repr) (by decide +kernel) (co' (cn' (ad' (pv 0)) (dM' C) (hr.mono (by decide)) C.ml_Machine_table (takes_of rfl rfl rfl rfl)))) (bu' (dY' hr.units hr.g) pa' rfl (C.free_repr) (by decide +kernel) (bO' ix_seq eS' (ad' (pv 1)) ac' (fun _ _ => rfl)))) (gE' (fh' (a6' hr.units) ti' (nomark _) (bu' (dY' hr.units hr.g) pa' rfl (C.free_repr) (by decide +kernel) (co' (cn' (ad' (pv 0)) (cU' C) (hr.mono (by decide)) C.ml_Machine_accepts (takes_of rfl rfl rfl rfl)))) (bu' (dY' hr.units hr.g) pa' rfl (C.free_repr) (by decide +kernel) (bO' ix_seq eS' (ad' (pv 1)) ac' (fun _ _ => rfl))))))))))), eG' F, F.kp, C.g__law_is_parts⟩
end
end S
namespace S
open PySem PySem.Spec PyProof.Rows L2
section
variable [Wd] {K : PySem.W.Frag} {mg : Str -> Option Value} {base : Heap}
end
end S
namespace S
open PySem PySem.Spec PyProof.Rows L2
section
variable [Wd] {K : PySem.W.Frag} {mg : Str -> Option Value} {base : Heap}
theorem tL' (C : Ctx Wd.w K mg) {fd : FuncData} (F : FunD K "law" "law" (defArgs eW') (defBody eW') (defScope eW') [] [] (He.ga K "law") fd) : FnG Wd.P Wd.w K mg base (L2.CX Wd.P Wd.w) 6 (He.ga K "law") fd ["_law_script"] (spM K M.f_law) :=
  okM F cL' rfl rfl (fun cdv A outer s H E hr =>
    (ab' (ak' (i := 1) cL'.nd rfl (by walk_at "1") (ao' (gU' C) (hr.mono (by walk_at "4")) rfl (takes_of rfl rfl rfl rfl) (aa' (ad' (pv 0)) ai')))
      (ab' (ak' (i := 2) cL'.nd rfl (by walk_at "1") (ao' (cT' C) (hr.mono (by walk_at "4")) rfl (takes_of rfl rfl rfl rfl) (aa' (ad' (pv 1)) (aa' ac' (aa' ac' ai')))))
      (ab' (ak' (i := 3) cL'.nd rfl (by walk_at "1") (mi' (bC' C) (hr.mono (by decide)) rfl C.mk_Machine C.g_Machine (takes_of rfl rfl rfl rfl) (aa' (bO' ix_seq eS' (ad' (pv 2)) ac' (fun _ _ => rfl)) (aa' (bO' ix_seq eS' (ad' (pv 2)) ac' (fun _ _ => rfl)) (aa' (bO' ix_seq eS' (ad' (pv 2)) ac' (fun _ _ => rfl)) ai')))))
      (ab' (cI' (passes_of rfl) rfl (br' rfl (C.free_range) ac') (ff' 4 cL'.nd rfl (by walk_at "1") (by walk_at "2")) (ab' (ak' (i := 5) cL'.nd rfl (by walk_at "1") (ao' (gS' C) (hr.mono (by walk_at "4")) rfl (takes_of rfl rfl rfl rfl) (aa' (ad' (pv 1)) (aa' (ad' (pv 2)) ai'))))
      (ab' (ak' (i := 6) cL'.nd rfl (by walk_at "1") (mi' (bC' C) (hr.mono (by decide)) rfl C.mk_Machine C.g_Machine (takes_of rfl rfl rfl rfl) (aa' (bO' ix_seq eS' (ad' (pv 5)) ac' (fun _ _ => rfl)) (aa' (bO' ix_seq eS' (ad' (pv 5)) ac' (fun _ _ => rfl)) (aa' (bO' ix_seq eS' (ad' (pv 5)) ac' (fun _ _ => rfl)) ai')))))
      (ab' (bb' (kz' (dH' (by' (jW' (co' (ao' (b4' C) (hr.mono (by walk_at "4")) rfl (takes_of rfl rfl rfl rfl) (aa' (ad' (pv 3)) (aa' (ad' (pv 2)) ai')))))) (cH' (by' (jW' (co' (ao' (b4' C) (hr.mono (by walk_at "4")) rfl (takes_of rfl rfl rfl rfl) (aa' (ad' (pv 6)) (aa' (ad' (pv 5)) ai'))))))))) (ag' (aF' (a7' bE'))) aJ')
      (ab' (ak' (i := 7) cL'.nd rfl (by walk_at "1") (a7' (fh' (a6' hr.units) ep' (nomark _) (ad' (pv 5)) (ad' (pv 2)))))
      (ab' (bb' (kz' (dH' (by' (jW' (co' (ao' (du' C) (hr.mono (by walk_at "4")) rfl (takes_of rfl rfl rfl rfl) (aa' (mo' (aO' C) (hr.mono (by decide)) C.eq_Machine (ad' (pv 3)) (ad' (pv 6))) (aa' (ad' (pv 7)) ai')))))) (dH' (by' (jW' (co' (ao' (du' C) (hr.mono (by walk_at "4")) rfl (takes_of rfl rfl rfl rfl) (aa' (mo' (aO' C) (hr.mono (by decide)) C.eq_Machine (ad' (pv 6)) (ad' (pv 3))) (aa' (ad' (pv 7)) ai')))))) (cH' (aD' cp' fQ' (nomark _) (mo' (aO' C) (hr.mono (by decide)) C.eq_Machine (ad' (pv 3)) (ad' (pv 3))) bE'))))) (ag' (aF' (a7' bE'))) aJ')
      (ab' (ak' (i := 8) cL'.nd rfl (by walk_at "1") (ao' (id' C) (hr.mono (by walk_at "4")) rfl (takes_of rfl rfl rfl rfl) (aa' (ad' (pv 1)) ai')))
      (ag' (bb' (kz' (dH' (aD' cp' fQ' (nomark _) (mp' (aO' C) (hr.mono (by decide)) C.eqd_Machine (ad' (pv 3)) (ad' (pv 8))) bE') (dH' (aD' cp' fQ' (nomark _) (mp' (aO' C) (hr.mono (by decide)) C.eqd_Machine (ad' (pv 3)) (ad' (pv 2))) bE') (cH' (aD' cp' fQ' (nomark _) (mp' (aO' C) (hr.mono (by decide)) C.eqd_Machine (ad' (pv 3)) (bO' ix_seq eS' (ad' (pv 2)) (aE' op_mod dg' (ad' (pv 4)) ac') (fun _ _ => rfl))) bE'))))) (ag' (aF' (a7' bE'))) aJ')))))))))
      (ag' (aF' (a7' bE'))))))))
end
end S
open PySem PySem.W PySem.Calls PyProof.Rows
set_option maxRecDepth 100000 in
set_option maxHeartbeats 0 in
theorem PySem.Challenge.cw_saidacross_k01_parts_and_equal_machines_holds : PySem.Challenge.rw_saidacross_k01_parts_and_equal_machines.Holds := by
  w_on; o_law
  refine HandSHeadRun.head_any (r := OpenLaw.row PySem.Challenge.rw_saidacross_k01_parts_and_equal_machines) (q := view (OpenLaw.row PySem.Challenge.rw_saidacross_k01_parts_and_equal_machines).prog [25]) (H := S.hk) (ob := S.ob) (loose := S.loose) (d := HandSHeadRun.topDef (OpenLaw.row PySem.Challenge.rw_saidacross_k01_parts_and_equal_machines).prog 25) (kwd := []) S.vN'
    (by kernel_rfl) (fun s => by kernel_rfl) S.run (by kernel_rfl) (by kernel_rfl) (by kernel_rfl) (by rfl) (by first | assumption | decide +kernel) (by decide +kernel) ⟨rfl, rfl, rfl, rfl, rfl, by decide +kernel⟩ ?hw ?hc
  case hw => w_witness2
  case hc =>
    refine S.nU' (l := PySem.Challenge.rw_saidacross_k01_parts_and_equal_machines) (n := 63) (k := 6) (x := "_law_script") (CX := L2.CX0) rfl (by decide) (by kernel_rfl) ⟨rfl, by decide, by decide⟩ ?F (fun H s e s' z => z)
    intro w mg fa h Y G hmg0
    obtain ⟨K, KX, c⟩ := Y
    letI : S.Wd := ⟨(PySem.Challenge.rw_saidacross_k01_parts_and_equal_machines).prog, w, []⟩
    have C : S.Ctx S.Wd.w K mg := ⟨⟨_, c⟩, h, KX, G⟩
    have hmg : mg ("law" : PySem.Str) = some (.ref fa) := by
      have e : (HandSHeadRun.topDef (OpenLaw.row PySem.Challenge.rw_saidacross_k01_parts_and_equal_machines).prog 25).name = ("law" : PySem.Str) := by kernel_rfl
      rw [<- e]
      exact hmg0
    obtain rfl : fa = He.ga K "law" := by
      have e := C.g_law
      rw [hmg] at e
      exact PySem.Value.ref.inj (Option.some.inj e)
    obtain ⟨fd, F⟩ := C.f_law
    refine ⟨K, fd, fun vs H Q _ => S.spM K M.f_law vs H Q L2.E0, KX, fun s u => ?_, ?_, fun base X N => ?_⟩
    . exact F.bindsA (ps := ["_law_script"]) (fun _ _ _ _ _ _ us hl => match us, hl with | [_], _ => rfl) s [u] rfl
    . intro H a ns hn _ hs
      exact S.nb' K H (fun p z => absurd (show p ∈ ([] : List (Addr × Str)) from z) List.not_mem_nil) a ns hn hs M.law_true
    . exact S.FnG.to0 (S.tL' (base := base) C F)
