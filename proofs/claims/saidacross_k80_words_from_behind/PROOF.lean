import PyProof.Rows.All
import Wide.All
import OpenK.AllK
import Wide.FinOn
import KE.KStateDown
import KE.GoesNew
import HandS.ForMost
import HandS.Exc
import HandS.TryOnly
import HandS.TryMany
import HandS.ExcOwn
import HandS.ExcBuiltin
import HandS.Small
import HandS.WordsExc
import HandS.IsInst
import HandS.StrMore
import HandS.TupAny
import HandS.Zip
import HandS.Defaults
import HandS.Head0
import HandS.Head1
import HandS.Head2
import HandS.HeadEnd
import HandS.HeadHook1
import HandS.HeadHook2
import HandS.Walk
import KE.GoesMore
import HandS.Iter
import PyProof.CollectStr
import HandS.Conv
import PyProof.ListStr
import PyProof.TupleOfStr
import HandS.Lambda
import HandS.Style
import KE.KDictKeyed
import HandS.Wide
import KE.KTupTabMore
import HandS.Rev
import HandS.RevRange
import HandS.SortInts
import HandS.ExcIs
import HandS.ExcField
import HandS.Rindex
import HandS.HeadHook4
import PyProof.StrLawsFrom
import PyProof.Rows.RegReprOcc
import PyProof.Rows.StrLast
import KE.KDictDisplayH
import HandS.SetKeys
import HandS.DictComp
import HandS.More
import PyProof.ReprBulk
import PyProof.ReprRoads
import PyProof.CallFns
import PyProof.RowDictHeap
import PyProof.Rows.StrRev
import KE.KRevSl
import HandS.Deep
import HandS.Call
import KE.KExcSuper
import HandS.TupMul
import HandS.ReplaceLit
import HandS.ReplaceList
import KE.KDictZip
import PyProof.ListNew
import HandS.ListItems
import HandS.Zip0
import HandS.TupSets
import KE.SortKeyHeap
import KE.KLam
import HandS.SortKw
import HandS.EndTab
import KE.KItemsList
import HandS.NoneIn
import KE.DataMinKey
import KE.DataFind
import KE.DatumOrd
import HandS.Finally
import HandS.Strs
import HandS.Nested
import PyProof.Rows.Walk
import PySem.Challenge.RW_saidacross_k80_words_from_behind
set_option Elab.async false
set_option linter.all false
set_option maxRecDepth 100000
set_option maxHeartbeats 4000000
local macro_rules | `(tactic| walk_at "1") => `(tactic| first | exact Or.inl rfl | exact Or.inr rfl)
local macro_rules | `(tactic| walk_at "2") => `(tactic| first | exact Or.inl rfl | exact Or.inr rfl | assumption)
local macro_rules | `(tactic| walk_at "3") => `(tactic| exact ⟨rfl, rfl, rfl, by decide +kernel, rfl, by decide +kernel, by decide +kernel⟩)
local macro_rules | `(tactic| walk_at "4") => `(tactic| first | decide | omega)
namespace M
abbrev Tx := List Nat
abbrev di' : Nat := 16777216
inductive D where
  | non | bl (b : Bool) | int (i : Int) | str (s : Tx)
  | tup (ds : List D) | lst (ds : List D) | dct (ks vs : List D)
  | obj (n : Nat) | ty (x : String) | fn (x : String) | exc (x : String) (ds : List D)
  | scr (ds : List D)
  /-- a dict whose keys are bools, or tuples; the text that repr gives -/
  | dcx (ks vs : List D) | rep (d : D)
  deriving Inhabited
inductive O where
  | fz (d : D) | lst (os : List O) | dct (ks : List D) (vs : List O) | tup (os : List O) | dcx (ks : List D) (vs : List O) | exn | clo
  deriving Inhabited
inductive Ob where
  | lst (os : List O) | dct (ks : List D) (vs : List O) | ins (C : String) (fs : List (String × O)) | dcx (ks : List D) (vs : List O)
abbrev W := List Ob
structure PSt where
  env : List (Option O)
  w : W
structure Exc where
  cls : String
  fs : List (String × D)
inductive Res (α : Type) where
  | ok (a : α) (ρ : PSt) | exc (x : Exc) (ρ : PSt) | bad
inductive Out where
  | nx (ρ : PSt) | rt (o : O) (w : W) | bk (ρ : PSt) | ct (ρ : PSt) | exc (x : Exc) (ρ : PSt) | bad
inductive FRes where
  | ok (o : O) (w : W) | exc (x : Exc) (w : W) | bad
def Ax' : O -> Bool
  | .exn => false
  | .clo => false
  | _ => true
theorem do' {o : O} (h : o ≠ .exn) (k : o ≠ .clo) : Ax' o = true := by
  cases o <;> first | rfl | exact absurd rfl h | exact absurd rfl k
mutual
def frz : O -> D
  | .fz d => d
  | .lst os => .lst (frzs os)
  | .dct ks vs => .dct ks (frzs vs)
  | .tup os => .tup (frzs os)
  | .dcx ks vs => .dcx ks (frzs vs)
  | .exn => .non
  | .clo => .non
def frzs : List O -> List D
  | [] => []
  | o :: r => frz o :: frzs r
end
@[simp] theorem rm' (ds : List D) : frzs (ds.map .fz) = ds := by
  induction ds with
  | nil => rfl
  | cons d r ih => simp [frzs, frz, ih]
theorem cj' (os : List O) : frzs os = os.map frz := by
  induction os with
  | nil => rfl
  | cons d r ih => simp [frzs, ih]
mutual
/-- data that == compares, at most so deep -/
def dep : D -> Nat
  | .tup ds => deps ds + 1
  | .lst ds => deps ds + 1
  | _ => 0
def deps : List D -> Nat
  | [] => 0
  | d :: r => max (dep d) (deps r)
end
mutual
def dat : D -> Bool
  | .non => true | .bl _ => true | .int _ => true | .str _ => true
  | .tup ds => dats ds
  | .lst ds => dats ds
  | _ => false
def dats : List D -> Bool
  | [] => true
  | d :: r => dat d && dats r
end
mutual
def eqb : D -> D -> Bool
  | .non, .non => true
  | .bl a, .bl b => a == b
  | .bl a, .int j => (if a then 1 else 0) == j
  | .int i, .bl b => i == (if b then 1 else 0)
  | .int i, .int j => i == j
  | .str x, .str y => x == y
  | .lst xs, .lst ys => eqbs xs ys
  | .tup xs, .tup ys => eqbs xs ys
  | _, _ => false
def eqbs : List D -> List D -> Bool
  | [], [] => true
  | x :: xs, y :: ys => eqb x y && eqbs xs ys
  | _, _ => false
end
def eqv (d e : D) : Option Bool := if dat d = true /\ dat e = true /\ dep d <= 64 /\ dep e <= 64 then some (eqb d e) else none
mutual
/-- no whole number is too great to be shown -/
def t3' : D -> Bool
  | .int i => decide (i.natAbs < 10 ^ 60)
  | .tup ds => repIs ds
  | .lst ds => repIs ds
  | .dct ks ds => repIs ks && repIs ds
  | _ => true
def repIs : List D -> Bool
  | [] => true
  | d :: r => t3' d && repIs r
end
mutual
def rS' : D -> Nat
  | .str s => s.length
  | .tup ds => repWs ds
  | .lst ds => repWs ds
  | .dct ks ds => repWs ks + repWs ds
  | _ => 0
def repWs : List D -> Nat
  | [] => 0
  | d :: r => rS' d + 1 + repWs r
end
mutual
/-- the same data -/
def same : D -> D -> Bool
  | .non, .non => true
  | .bl a, .bl b => a == b
  | .int i, .int j => i == j
  | .str x, .str y => x == y
  | .lst xs, .lst ys => sames xs ys
  | .tup xs, .tup ys => sames xs ys
  | .dct ks xs, .dct ls ys => sames ks ls && sames xs ys
  | _, _ => false
def sames : List D -> List D -> Bool
  | [], [] => true
  | x :: xs, y :: ys => same x y && sames xs ys
  | _, _ => false
end
def ei' : D -> Bool
  | .non => true
  | .bl _ => true
  | .int _ => true
  | .str _ => true
  | _ => false
def A9' : D -> Bool
  | .dct [] [] => true
  | _ => false
def xK' : D -> Bool
  | .dct _ ds => ds.all ei'
  | .tup ds => dats ds || ds.all fun d => ei' d || A9' d
  | d => dat d
theorem vl' {d : D} (h : dat d = true) : xK' d = true := by
  cases d with
  | tup ds => show (dats ds || _) = true; rw [show dats ds = true from h]; rfl
  | dct ks ds => cases h
  | _ => exact h
def x3' (d : D) : Option D := if xK' d = true /\ dep d <= 40 /\ t3' d = true /\ rS' d <= 200000 then some (.rep d) else none
def zU' : D -> D -> Option D
  | .rep a, .rep b => if same a b = true then some (.bl true) else none
  | _, _ => none
def ob (o : Option Bool) : Option D := o.map .bl
def pEq (x y : D) : Option D := ob (eqv x y)
def pNe (x y : D) : Option D := ob ((eqv x y).map (!·))
def eS' : D -> Bool
  | .non => true
  | _ => false
def pIs : D -> D -> Option D
  | x, .non => some (.bl (eS' x))
  | .bl a, .bl b => some (.bl (a == b))
  | _, _ => none
def nk' (x y : D) : Option D := match pIs x y with | some (.bl b) => some (.bl (!b)) | _ => none
def pLt : D -> D -> Option D
  | .int i, .int j => some (.bl (decide (i < j)))
  | .str a, .str b => some (.bl (decide (a < b)))
  | _, _ => none
def pLe : D -> D -> Option D
  | .int i, .int j => some (.bl (decide (i <= j)))
  | .str a, .str b => some (.bl (!decide (b < a)))
  | _, _ => none
def pGt : D -> D -> Option D
  | .int i, .int j => some (.bl (decide (j < i)))
  | .str a, .str b => some (.bl (decide (b < a)))
  | _, _ => none
def pGe : D -> D -> Option D
  | .int i, .int j => some (.bl (decide (j <= i)))
  | .str a, .str b => some (.bl (!decide (a < b)))
  | _, _ => none
def dj' : D -> D -> Option D
  | .int i, .int j => some (.int (i + j))
  | .str a, .str b => if a.length + b.length <= di' then some (.str (a ++ b)) else none
  | .lst a, .lst b => if a.length + b.length <= di' then some (.lst (a ++ b)) else none
  | .tup a, .tup b => if a.length + b.length <= di' then some (.tup (a ++ b)) else none
  | _, _ => none
def sH' : D -> D -> Option D
  | .int i, .int j => some (.int (i + j))
  | _, _ => none
def ua' : D -> D -> Option D
  | .int i, .int j => some (.int (i - j))
  | _, _ => none
def small64 (i : Int) : Bool := decide (-(2 ^ 64) < i) && decide (i < 2 ^ 64)
def jX' : D -> D -> Option D
  | .int i, .int j => if (small64 i = true \/ small64 j = true) \/ ((-2582249878086908589655919172003011874329705792829223512830659356540647622016841194629645353280137831435903171972747493376 < i /\ i < 2582249878086908589655919172003011874329705792829223512830659356540647622016841194629645353280137831435903171972747493376) /\ (-2582249878086908589655919172003011874329705792829223512830659356540647622016841194629645353280137831435903171972747493376 < j /\ j < 2582249878086908589655919172003011874329705792829223512830659356540647622016841194629645353280137831435903171972747493376)) then some (.int (i * j)) else none
  | .str a, .int j => if j < 2 ^ 62 /\ -(2 ^ 62) <= j /\ a.length * j.toNat <= di' then some (.str (List.replicate j.toNat a).flatten) else none
  | .lst a, .int j => if j < 2 ^ 62 /\ -(2 ^ 62) <= j /\ a.length * j.toNat <= di' then some (.lst (List.replicate j.toNat a).flatten) else none
  | _, _ => none
def iE' : D -> D -> Option D
  | .int i, .int j => if 0 < j /\ j < 1606938044258990275541962092341162602522202993782792835301376 then some (.int (i / j)) else none
  | _, _ => none
def jY' : D -> D -> Option D
  | .int i, .int j => if 0 < j then some (.int (i % j)) else none
  | _, _ => none
def x4' : D -> D -> Option D
  | .int i, .int j => if 0 <= j /\ j <= 1000 /\ small64 i = true then some (.int (i ^ j.toNat)) else none
  | _, _ => none
def Cm' : D -> Option D
  | .int i => some (.int (-i))
  | _ => none
def chD (c : Nat) : D := .str [c]
def ixn (n : Nat) (i : Int) : Option Nat := if 0 <= i then (if i < n then some i.toNat else none) else (if -(n : Int) <= i then some (i + n).toNat else none)
def ati {α : Type} (xs : List α) (i : Int) : Option α := (ixn xs.length i).bind fun j => xs[j]?
def six (n : Nat) (d : Nat) : Option Int -> Nat
  | none => d
  | some i => if i < 0 then (i + (n : Int)).toNat else min i.toNat n
def cut {α : Type} (xs : List α) (lo hi : Option Int) : List α := (xs.drop (six xs.length 0 lo)).take (six xs.length xs.length hi - six xs.length 0 lo)
def ea' : D -> Option (List D)
  | .lst xs => some xs
  | .tup xs => some xs
  | .str s => some (s.map chD)
  | _ => none
def sca : D -> Bool
  | .non => true | .bl _ => true | .int _ => true | .str _ => true
  | _ => false
def pIn : D -> D -> Option D
  | .str [c], .str s => some (.bl (decide (c ∈ s)))
  | x, .lst ds => if sca x = true /\ ds.all sca = true then some (.bl (ds.any fun d => eqb d x)) else none
  | x, .tup ds => if sca x = true /\ ds.all sca = true then some (.bl (ds.any fun d => eqb d x)) else none
  | _, _ => none
mutual
def kat : D -> Bool
  | .non => true | .bl _ => true | .int _ => true | .str _ => true
  | .tup ds => kats ds
  | _ => false
def kats : List D -> Bool
  | [] => true
  | d :: r => kat d && kats r
end
def rb' (ks : List D) (k : D) : Bool := kat k && decide (dep k <= 8) && ks.all (fun d => sca d == sca k)
def gg' (ks : List D) (k : D) : Option Nat := ks.findIdx? fun d => eqb d k
def isK : D -> Bool
  | .int _ => true | .str _ => true
  | _ => false
def dget {α : Type} (ks : List D) (vs : List α) (k : D) : Option α := (gg' ks k).bind fun j => vs[j]?
def cd' : O -> D -> Option (Option O)
  | .dct ks os, k => if isK k = true then some (dget ks os k) else none
  | .dcx ks os, k => if rb' ks k = true then some (dget ks os k) else none
  | .fz (.dct ks vs), k => if isK k = true then some (dget ks (vs.map .fz) k) else none
  | .fz (.dcx ks vs), k => if rb' ks k = true then some (dget ks (vs.map .fz) k) else none
  | _, _ => none
def ni' {α : Type} (ks : List D) (os : List α) (k : D) (o : α) : Option (List D × List α) := match gg' ks k with
  | some j => some (ks, os.set j o)
  | none => if ks.length < di' then some (ks ++ [k], os ++ [o]) else none
def eH' : O -> D -> O -> Option O
  | .dct ks os, k, o => if isK k = true then (ni' ks os k o).map fun p => .dct p.1 p.2 else none
  | .dcx ks os, k, o => if rb' ks k = true then (ni' ks os k o).map fun p => .dcx p.1 p.2 else none
  | _, _, _ => none
def h6' (x y : D) : Option D := match pIn x y with | some (.bl b) => some (.bl (!b)) | _ => none
def ee' : D -> Option D
  | .str s => some (.int s.length)
  | .lst ds => some (.int ds.length)
  | .tup ds => some (.int ds.length)
  | .dct ks _ => some (.int ks.length)
  | .dcx ks _ => some (.int ks.length)
  | _ => none
def pIx : D -> D -> Option D
  | .str s, .int i => (ati s i).map chD
  | .lst ds, .int i => ati ds i
  | .tup ds, .int i => ati ds i
  | _, _ => none
def pSl (d : D) (lo hi : Option Int) : Option D := match d with
  | .str s => some (.str (cut s lo hi))
  | .lst s => some (.lst (cut s lo hi))
  | .tup s => some (.tup (cut s lo hi))
  | .scr s => some (.lst (cut s lo hi))
  | _ => none
def wS' : D -> Option D
  | .str s => some (.str s.reverse)
  | .lst s => some (.lst s.reverse)
  | _ => none
def dY' : List D -> Option (List Tx)
  | [] => some []
  | .str s :: r => (dY' r).map (s :: ·)
  | _ :: _ => none
def cW' (sep : Tx) : List Tx -> Tx
  | [] => []
  | [x] => x
  | x :: y :: r => x ++ (sep ++ cW' sep (y :: r))
def ln' (a : Tx) : List D -> Option D
  | [.lst ds] => (dY' ds).bind fun ys => if (ys.map List.length).sum + ys.length * a.length <= di' then some (.str (cW' a ys)) else none
  | [.tup ds] => (dY' ds).bind fun ys => if (ys.map List.length).sum + ys.length * a.length <= di' then some (.str (cW' a ys)) else none
  | _ => none
def bz' : List D -> Option (List Int)
  | [] => some []
  | .int b :: r => (bz' r).map (b :: ·)
  | _ :: _ => none
def Cl' : D -> Option D
  | .lst ds => (bz' ds).map fun ns => .int ns.sum
  | _ => none
def cy' (l : List Nat) : List Nat := l.mergeSort fun a b => decide (a <= b)
def k8' (l : List Int) : List Int := l.mergeSort fun a b => decide (a <= b)
def dT' : D -> Option D
  | .dct ks _ => (bz' ks).bind fun ns => if ns.length <= di' then some (.lst ((k8' ns).map .int)) else none
  | _ => none
def gL' : List D -> Option (List Nat)
  | [] => some []
  | .str [c] :: r => (gL' r).map (c :: ·)
  | _ => none
def c2' : D -> Option D
  | .str s => if s.length < 64 then some (.lst ((cy' s).map chD)) else none
  | .lst ds => match bz' ds with
    | some ns => some (.lst ((k8' ns).map .int))
    | none => (gL' ds).bind fun cs => if cs.length < 64 then some (.lst ((cy' cs).map chD)) else none
  | _ => none
def uk' (a b : Tx) (i : Nat) : Bool := decide (i + b.length <= a.length) && decide ((a.drop i).take b.length = b)
def nE' (a b : Tx) : Option Nat := (List.range (a.length + 1)).find? (uk' a b)
def fnd (o : Option Nat) : Int := match o with | some i => (i : Int) | none => -1
def yf' (a : Tx) : List D -> Option D
  | [.str b] => some (.int (fnd (nE' a b)))
  | _ => none
def ka' (a : Tx) : List D -> Option D
  | [.str b] => (nE' a b).map fun (i : Nat) => D.int (Int.ofNat i)
  | _ => none
def zQ' (c : Nat) : Tx -> List Tx
  | [] => [[]]
  | x :: r => if x = c then [] :: zQ' c r else (match zQ' c r with
    | [] => [[x]]
    | y :: ys => (x :: y) :: ys)
def ye' (a : Tx) : List D -> Option D
  | [.str [c]] => if c < 128 /\ a.length + 2 <= di' then some (.lst ((zQ' c a).map .str)) else none
  | _ => none
def Cx' (n : Nat) : Tx := (Nat.toDigits 10 n).map Char.toNat
def CU' : D -> Option D
  | .int i => if 0 <= i /\ i < 1000000000000000000000000000000000000000000000000000000000000 then some (.str (Cx' i.toNat)) else none
  | _ => none
def up1 (c : Nat) : Nat := if 97 <= c /\ c <= 122 then c - 32 else c
def t9' : D -> Option D
  | .str s => if s.all (fun c => decide (c < 128)) = true /\ s.length <= 5592405 then some (.str (s.map up1)) else none
  | _ => none
def bools : List D -> Option (List Bool)
  | [] => some []
  | .bl b :: r => (bools r).map (b :: ·)
  | _ :: _ => none
def Co' : D -> Option D
  | .lst ds => (bools ds).map fun bs => .bl (bs.all id)
  | _ => none
def Cn' : D -> Option D
  | .lst ds => (bools ds).map fun bs => .bl (bs.any id)
  | _ => none
def AW' : D -> Option D
  | .lst ds => some (.lst ds)
  | .tup ds => some (.lst ds)
  | .str s => some (.lst (s.map chD))
  | _ => none
def eJ' : D -> Option D
  | .str s => some (.lst (s.map chD))
  | d => AW' d
def bl' : D -> Option D
  | .str s => some (.tup (s.map chD))
  | .lst ds => some (.tup ds)
  | .tup ds => some (.tup ds)
  | _ => none
def hC' : D -> Option D
  | .int i => some (.int i)
  | .bl b => some (.int (if b then 1 else 0))
  | _ => none
def zV' : D -> Option D
  | .int i => some (.int (if i < 0 then -i else i))
  | _ => none
def qH' : D -> D -> Option D
  | .int i, .int j => some (.int (if j > i then j else i))
  | _, _ => none
def n7' : D -> D -> Option D
  | .int i, .int j => some (.int (if j < i then j else i))
  | _, _ => none
def nu' : List Int -> Int
  | [] => 0
  | [x] => x
  | x :: r => max x (nu' r)
def n8' : D -> Option D
  | .dct _ vs => (bz' vs).bind fun ns => if ns = [] then none else some (.int (nu' ns))
  | _ => none
def tyn : D -> Option String
  | .non => some "NoneType" | .bl _ => some "bool" | .int _ => some "int" | .str _ => some "str"
  | .tup _ => some "tuple" | .lst _ => some "list" | .dct _ _ => some "dict"
  | _ => none
def ci' (t : String) (d : D) : Option D := (tyn d).map fun n => .bl (n == t || (n == "bool" && t == "int"))
abbrev ME := PSt -> Res D
abbrev MO := PSt -> Res O
abbrev MA := PSt -> Res (List D)
abbrev MT := PSt -> Res Bool
abbrev MS := PSt -> Out
abbrev MF := List D -> W -> FRes
abbrev MG := D -> PSt -> Option PSt
abbrev MI := PSt -> Res (List D)
@[simp] def Res.bind {α β : Type} (r : Res α) (f : α -> PSt -> Res β) : Res β := match r with
  | .ok a ρ => f a ρ
  | .exc x ρ => .exc x ρ
  | .bad => .bad
@[simp] def Res.out {α : Type} (r : Res α) (f : α -> PSt -> Out) : Out := match r with
  | .ok a ρ => f a ρ
  | .exc x ρ => .exc x ρ
  | .bad => .bad
@[simp] def ofO {α : Type} (o : Option α) (ρ : PSt) : Res α := match o with
  | some a => .ok a ρ
  | none => .bad
@[simp] def eC (d : D) : ME := fun ρ => .ok d ρ
@[simp] def eV (i : Nat) : ME := fun ρ => match ρ.env[i]? with
  | some (some (.fz d)) => .ok d ρ
  | some (some .exn) => .bad
  | some (some .clo) => .bad
  | some (some o) => .ok (frz o) ⟨ρ.env.set i (some (.fz (frz o))), ρ.w⟩
  | _ => .bad
@[simp] def eOp (f : D -> D -> Option D) (a b : ME) : ME := fun ρ => (a ρ).bind fun x ρ1 => (b ρ1).bind fun y ρ2 => ofO (f x y) ρ2
@[simp] def eUn (f : D -> Option D) (a : ME) : ME := fun ρ => (a ρ).bind fun x ρ1 => ofO (f x) ρ1
@[simp] def asB (d : D) (ρ : PSt) : Res Bool := match d with
  | .bl b => .ok b ρ
  | _ => .bad
@[simp] def ur' (a b : ME) : ME := fun ρ => (a ρ).bind fun x ρ1 => (asB x ρ1).bind fun k ρ1 => if k = true then b ρ1 else .ok (.bl false) ρ1
@[simp] def yO' (a : ME) : ME := fun ρ => (a ρ).bind fun x ρ1 => (asB x ρ1).bind fun k ρ1 => .ok (.bl (!k)) ρ1
@[simp] def g0' (f g : D -> D -> Option D) (a b c : ME) : ME := fun ρ => (a ρ).bind fun x ρ1 => (b ρ1).bind fun y ρ2 => (ofO (f x y) ρ2).bind fun r ρ2 => (asB r ρ2).bind fun k ρ2 =>
  if k = true then (c ρ2).bind fun z ρ3 => ofO (g y z) ρ3 else .ok (.bl false) ρ2
@[simp] def bk' : MA := fun ρ => .ok [] ρ
@[simp] def ad' (a : ME) (r : MA) : MA := fun ρ => (a ρ).bind fun x ρ1 => (r ρ1).bind fun xs ρ2 => .ok (x :: xs) ρ2
@[simp] def rq' (as : MA) : ME := fun ρ => (as ρ).bind fun xs ρ1 => if xs.length <= di' then .ok (.tup xs) ρ1 else .bad
@[simp] def jc' (as : MA) : ME := fun ρ => (as ρ).bind fun xs ρ1 => if xs.length <= di' then .ok (.lst xs) ρ1 else .bad
@[simp] def eMt (f : Tx -> List D -> Option D) (a : ME) (as : MA) : ME := fun ρ => (a ρ).bind fun x ρ1 => match x with
  | .str s => (as ρ1).bind fun ds ρ2 => ofO (f s ds) ρ2
  | _ => .bad
def qV' (ds : List D) : List D -> Option D
  | [.int v] => (bz' ds).bind fun ns => if v ∈ ns then some (.int ((ns.idxOf v : Nat) : Int)) else none
  | _ => none
abbrev MP := PSt -> Res (Option Int)
@[simp] def pNo : MP := fun ρ => .ok none ρ
@[simp] def pSo (a : ME) : MP := fun ρ => (a ρ).bind fun x ρ1 => match x with | .int i => .ok (some i) ρ1 | _ => .bad
@[simp] def eSl (a : ME) (lo hi : MP) : ME := fun ρ => (a ρ).bind fun x ρ1 => (lo ρ1).bind fun l ρ2 => (hi ρ2).bind fun h ρ3 => ofO (pSl x l h) ρ3
@[simp] def fin (r : FRes) (ρ : PSt) : Res O := match r with
  | .ok o w => .ok o ⟨ρ.env, w⟩
  | .exc x w => .exc x ⟨ρ.env, w⟩
  | .bad => .bad
@[simp] def aQ' (f : MF) (as : MA) : MO := fun ρ => (as ρ).bind fun xs ρ1 => fin (f xs ρ1.w) ρ1
@[simp] def eO (a : MO) : ME := fun ρ => (a ρ).bind fun o ρ1 => .ok (frz o) ρ1
@[simp] def oE (a : ME) : MO := fun ρ => (a ρ).bind fun d ρ1 => .ok (.fz d) ρ1
@[simp] def oV (i : Nat) : MO := fun ρ => match ρ.env[i]? with
  | some (some (.fz d)) => .ok (.fz d) ρ
  | some (some .exn) => .bad
  | some (some .clo) => .bad
  | some (some o) => .ok o ⟨ρ.env.set i none, ρ.w⟩
  | _ => .bad
abbrev MOA := PSt -> Res (List O)
@[simp] def hz' (a : ME) : MO := fun ρ => (a ρ).bind fun d ρ1 => match d with | .lst ds => .ok (.lst (ds.map .fz)) ρ1 | _ => .bad
@[simp] def gP' : MO := fun ρ => .ok (.dct [] []) ρ
def RgB (a b : Int) : Bool := decide (-(2 ^ 62) <= a) && decide (a < 2 ^ 62) && decide (-(2 ^ 62) <= b) && decide (b < 2 ^ 62) && decide ((b - a).toNat <= 16777216)
def eU' (a b : Int) : List D := (List.range (b - a).toNat).map fun i => .int (a + (i : Nat))
@[simp] def eI' : D -> Option D
  | .int b => if RgB 0 b = true then some (.lst (eU' 0 b)) else none
  | _ => none
@[simp] def kq' (i : Nat) (a : ME) : ME := fun ρ => match ρ.env[i]? with
  | some (some (.lst _)) => (a ρ).bind fun d ρ1 => match ρ1.env[i]?, d with
    | some (some (.lst os)), .int z => (match (if os.length <= di' then ixn os.length z else none) with
      | some j => (match os[j]? with
        | some (.fz y) => .ok y ⟨ρ1.env.set i (some (.lst (os.eraseIdx j))), ρ1.w⟩
        | _ => .bad)
      | none => .bad)
    | _, _ => .bad
  | _ => .bad
@[simp] def items : O -> Option (List O)
  | .fz (.lst ds) => some (ds.map .fz)
  | .fz (.tup ds) => some (ds.map .fz)
  | .fz (.str s) => some (s.map fun c => .fz (chD c))
  | .lst os => some os
  | .tup os => some os
  | _ => none
@[simp] def ixO : O -> D -> Option D
  | .fz d, k => pIx d k
  | .lst os, .int i => match ati os i with | some (.fz d) => some d | _ => none
  | .tup os, .int i => match ati os i with | some (.fz d) => some d | _ => none
  | _, _ => none
@[simp] def rr' (i : Nat) (b : ME) : ME := fun ρ => match ρ.env[i]? with
  | some (some _) => (b ρ).bind fun k ρ1 => match ρ1.env[i]? with
    | some (some o) => ofO (ixO o k) ρ1
    | _ => .bad
  | _ => .bad
@[simp] def inO (x : D) : O -> Option D
  | .fz d => pIn x d
  | .lst os => if os.all (fun o => match o with | .fz _ => true | _ => false) = true then pIn x (.lst (os.map frz)) else none
  | _ => none
@[simp] def C4' (i : Nat) (a : ME) : ME := fun ρ => (a ρ).bind fun x ρ1 => match ρ1.env[i]? with
  | some (some o) => ofO (inO x o) ρ1
  | _ => .bad
@[simp] def qN' : Option D -> Option D
  | some (.bl b) => some (.bl (!b))
  | _ => none
@[simp] def fz' (i : Nat) (a : ME) : ME := fun ρ => (a ρ).bind fun x ρ1 => match ρ1.env[i]? with
  | some (some o) => ofO (qN' (inO x o)) ρ1
  | _ => .bad
@[simp] def rT' : O -> Option D
  | .fz d => ee' d
  | .lst os => some (.int os.length)
  | .tup os => some (.int os.length)
  | .dct ks _ => some (.int ks.length)
  | .dcx ks _ => some (.int ks.length)
  | .exn => none
  | .clo => none
@[simp] def cD' (i : Nat) : ME := fun ρ => match ρ.env[i]? with
  | some (some o) => ofO (rT' o) ρ
  | _ => .bad
@[simp] def rN' : Option (Option O) -> Option D
  | some (some (.fz d)) => some d
  | _ => none
@[simp] def rs' (neg : Bool) (i : Nat) (a : ME) : ME := fun ρ => (a ρ).bind fun k ρ1 => match ρ1.env[i]? with
  | some (some o) => ofO ((cd' o k).map fun r => .bl (r.isSome != neg)) ρ1
  | _ => .bad
@[simp] def ig' (i : Nat) (a : ME) : ME := fun ρ => match ρ.env[i]? with
  | some (some _) => (a ρ).bind fun k ρ1 => match ρ1.env[i]? with
    | some (some o) => ofO (rN' (cd' o k)) ρ1
    | _ => .bad
  | _ => .bad
@[simp] def if' (i : Nat) (k a : ME) : ME := fun ρ => match ρ.env[i]? with
  | some (some (.dct _ _)) => (k ρ).bind fun y ρ1 => (a ρ1).bind fun d ρ2 => match ρ2.env[i]? with
    | some (some (.dct ks os)) => if isK y = true /\ ks.length < di' then (match dget ks os y with
      | some (.fz e) => .ok e ρ2
      | some _ => .bad
      | none => .ok d ⟨ρ2.env.set i (some (.dct (ks ++ [y]) (os ++ [.fz d]))), ρ2.w⟩) else .bad
    | _ => .bad
  | _ => .bad
@[simp] def qM' : MO := fun ρ => .ok (.dcx [] []) ρ
def fM' (x : Bool) (y d : D) : Option O := if x = true then (if kat y = true /\ dep y <= 8 /\ sca y = false then some (.dcx [y] [.fz d]) else none) else (if isK y = true then some (.dct [y] [.fz d]) else none)
@[simp] def fO' (x : Bool) (k a : ME) : MO := fun ρ => (k ρ).bind fun y ρ1 => (a ρ1).bind fun d ρ2 => ofO (fM' x y d) ρ2
@[simp] def na' (i : Nat) (k a : ME) : MS := fun ρ => (a ρ).out fun d ρ1 => match ρ1.env[i]? with
  | some (some _) => (k ρ1).out fun y ρ2 => match ρ2.env[i]? with
    | some (some o) => (match eH' o y (.fz d) with
      | some o' => .nx ⟨ρ2.env.set i (some o'), ρ2.w⟩
      | none => .bad)
    | _ => .bad
  | _ => .bad
@[simp] def ixW (w : W) : D -> D -> Option D
  | .obj n, k => match w[n]? with | some (.lst os) => ixO (.lst os) k | _ => none
  | d, k => pIx d k
@[simp] def jd' (a b : ME) : ME := fun ρ => (a ρ).bind fun x ρ1 => (b ρ1).bind fun y ρ2 => ofO (ixW ρ2.w x y) ρ2
@[simp] def ya' (as : MA) : MO := fun ρ => (as ρ).bind fun xs ρ1 => if xs.length <= di' then .ok (.fz (.obj ρ1.w.length)) ⟨ρ1.env, ρ1.w ++ [.lst (xs.map .fz)]⟩ else .bad
@[simp] def tE (a : ME) : MT := fun ρ => (a ρ).bind asB
@[simp] def hy' (a : MT) : MT := fun ρ => (a ρ).bind fun k ρ1 => .ok (!k) ρ1
@[simp] def wO' (a b : MT) : MT := fun ρ => (a ρ).bind fun k ρ1 => if k = true then b ρ1 else .ok false ρ1
@[simp] def tOr (a b : MT) : MT := fun ρ => (a ρ).bind fun k ρ1 => if k = true then .ok true ρ1 else b ρ1
@[simp] def gi' (a : ME) : MI := fun ρ => (a ρ).bind fun d ρ1 => ofO (ea' d) ρ1
def rgI (lo : Int) (n : Nat) : List D := (List.range n).map fun i => .int (lo + (i : Nat))
def rV' (i : Int) : Bool := decide (-(2 ^ 62) <= i) && decide (i < 2 ^ 62)
@[simp] def fn' : D -> Option (List D)
  | .int j => if rV' j = true then some (rgI 0 j.toNat) else none
  | _ => none
@[simp] def qG' : D -> D -> Option (List D)
  | .int i, .int j => if rV' i = true /\ rV' j = true then some (rgI i (j - i).toNat) else none
  | _, _ => none
@[simp] def bi' (a : ME) : MI := fun ρ => (a ρ).bind fun x ρ1 => ofO (fn' x) ρ1
def dk' : List D -> List D -> List D
  | x :: xs, y :: ys => .tup [x, y] :: dk' xs ys
  | _, _ => []
def el' (k : Nat) : List D -> List D
  | [] => []
  | x :: xs => .tup [.int k, x] :: el' (k + 1) xs
@[simp] def AV' (x y : D) : Option (List D) := match ea' x, ea' y with
  | some a, some b => some (dk' a b)
  | _, _ => none
def rQ' (x y : D) : Option (List D) := match x, y with
  | .str _, .str _ => AV' x y
  | .lst _, .lst _ => AV' x y
  | .tup _, .tup _ => AV' x y
  | _, _ => none
def enB : D -> Option (List D)
  | .str s => some (el' 0 (s.map chD))
  | .lst ds => some (el' 0 ds)
  | _ => none
def zS' : D -> Option (List D)
  | .lst ds => some ds.reverse
  | .tup ds => some ds.reverse
  | _ => none
def Cc' (x y : D) : Option (List D) := match x, y with
  | .str s, .tup ds => some (dk' (s.map chD) ds)
  | _, _ => none
@[simp] def yC' (a b : ME) : MI := fun ρ => (a ρ).bind fun x ρ1 => (b ρ1).bind fun y ρ2 => ofO (rQ' x y) ρ2
@[simp] def rj' (a : ME) : MI := fun ρ => (a ρ).bind fun x ρ1 => ofO (enB x) ρ1
def B1' : D -> Option (List D)
  | .dct ks _ => some ks
  | _ => none
def B0' : D -> Option (List D)
  | .dct _ vs => some vs
  | _ => none
def ry' : D -> Option (List D)
  | .dct ks vs => some (dk' ks vs)
  | _ => none
@[simp] def rk' (f : D -> Option (List D)) (a : ME) : MI := fun ρ => (a ρ).bind fun x ρ1 => ofO (f x) ρ1
@[simp] def gN (i : Nat) : MG := fun d ρ => if i < ρ.env.length then some ⟨ρ.env.set i (some (.fz d)), ρ.w⟩ else none
@[simp] def gNs : List Nat -> List D -> PSt -> Option PSt
  | [], [], ρ => some ρ
  | i :: is, d :: ds, ρ => (gN i d ρ).bind (gNs is ds)
  | _, _, _ => none
@[simp] def gT (is : List Nat) : MG := fun d ρ => match d with
  | .tup ds => gNs is ds ρ
  | _ => none
@[simp] def noX {α : Type} : Res α -> Res α
  | .exc _ _ => .bad
  | r => r
def aD' : List Nat -> List (Option O) -> List (Option O)
  | [], env => env
  | i :: is, env => (aD' is env).set i none
def back (env : List (Option O)) : List Nat -> List (Option O) -> List (Option O)
  | [], env' => env'
  | i :: is, env' => (back env is env').set i (match env[i]? with | some (some (.fz d)) => some (.fz d) | _ => none)
def lcL (own : List Nat) (g : MG) (t : MT) (e : ME) : List D -> List D -> PSt -> Res (List D)
  | [], acc, ρ => .ok acc ρ
  | x :: xs, acc, ρ => match g x ⟨aD' own ρ.env, ρ.w⟩ with
    | none => .bad
    | some ρ1 => (noX (t ρ1)).bind fun k ρ2 => if k = true then (noX (e ρ2)).bind fun y ρ3 => if acc.length < di' then lcL own g t e xs (acc ++ [y]) ρ3 else .bad else lcL own g t e xs acc ρ2
@[simp] def eLc (own : List Nat) (it : MI) (g : MG) (t : MT) (e : ME) : ME := fun ρ => (it ρ).bind fun xs ρ1 =>
  (lcL own g t e xs [] ρ1).bind fun ys ρ2 => .ok (.lst ys) ⟨back ρ1.env own (aD' own ρ2.env), ρ2.w⟩
@[simp] def oLc (own : List Nat) (it : MI) (g : MG) (t : MT) (e : ME) : MO := fun ρ => (it ρ).bind fun xs ρ1 =>
  (lcL own g t e xs [] ρ1).bind fun ys ρ2 => .ok (.lst (ys.map .fz)) ⟨back ρ1.env own (aD' own ρ2.env), ρ2.w⟩
def dcL (own : List Nat) (g : MG) (t : MT) (ek ev : ME) : List D -> List D -> List D -> PSt -> Res (List D × List D)
  | [], ks, vs, ρ => .ok (ks, vs) ρ
  | x :: xs, ks, vs, ρ => match g x ⟨aD' own ρ.env, ρ.w⟩ with
    | none => .bad
    | some ρ1 => (noX (t ρ1)).bind fun k ρ2 => if k = true then (noX (ek ρ2)).bind fun y ρ3 => (noX (ev ρ3)).bind fun z ρ4 => (if isK y = true /\ ks.length < di' then (match ni' ks vs y z with
      | some p => dcL own g t ek ev xs p.1 p.2 ρ4
      | none => .bad) else .bad) else dcL own g t ek ev xs ks vs ρ2
@[simp] def oDc (own : List Nat) (it : MI) (g : MG) (t : MT) (ek ev : ME) : MO := fun ρ => (it ρ).bind fun xs ρ1 =>
  (dcL own g t ek ev xs [] [] ρ1).bind fun p ρ2 => .ok (.dct p.1 (p.2.map .fz)) ⟨back ρ1.env own (aD' own ρ2.env), ρ2.w⟩
@[simp] def tT : MT := fun ρ => .ok true ρ
@[simp] def br' : MS := fun ρ => .nx ρ
@[simp] def nb' : MS := fun ρ => .bk ρ
@[simp] def jR' (a : ME) : MS := fun ρ => (a ρ).out fun _ ρ1 => .nx ρ1
@[simp] def cC' (a : MO) : MS := fun ρ => (a ρ).out fun o ρ1 => .rt o ρ1.w
@[simp] def au' (a b : MS) : MS := fun ρ => match a ρ with
  | .nx ρ1 => b ρ1
  | r => r
@[simp] def sIf (t : MT) (a b : MS) : MS := fun ρ => (t ρ).out fun k ρ1 => if k = true then a ρ1 else b ρ1
@[simp] def u9' (i : Nat) (o : O) (ρ : PSt) : Out := if i < ρ.env.length then .nx ⟨ρ.env.set i (some o), ρ.w⟩ else .bad
@[simp] def bg' (i : Nat) (a : MO) : MS := fun ρ => (a ρ).out fun o ρ1 => u9' i o ρ1
@[simp] def vj' (g : MG) (a : ME) : MS := fun ρ => (a ρ).out fun d ρ1 => match g d ρ1 with | some ρ2 => .nx ρ2 | none => .bad
@[simp] def wQ' (f : D -> D -> Option D) (i : Nat) (a : ME) : MS := fun ρ => match ρ.env[i]? with
  | some (some (.fz d)) => (a ρ).out fun y ρ1 => match f d y with | some z => u9' i (.fz z) ρ1 | none => .bad
  | _ => .bad
@[simp] def m9' (x : String) : MS := fun ρ => .exc ⟨x, []⟩ ρ
@[simp] def iA' (i : Nat) (a : MO) : MS := fun ρ => match ρ.env[i]? with
  | some (some (.lst _)) => (a ρ).out fun o ρ1 => match ρ1.env[i]? with
    | some (some (.lst os)) => if os.length < di' then .nx ⟨ρ1.env.set i (some (.lst (os ++ [o]))), ρ1.w⟩ else .bad
    | _ => .bad
  | _ => .bad
@[simp] def Cv' (w : W) : D -> Option D
  | .obj n => (match w[n]? with
    | some (.lst os) => some (.int os.length)
    | _ => none)
  | _ => none
@[simp] def sb' (w : W) (x k d : D) : Option W := match x, k with
  | .obj n, .int z => match w[n]? with
    | some (.lst os) => (ixn os.length z).map fun j => w.set n (.lst (os.set j (.fz d)))
    | _ => none
  | _, _ => none
@[simp] def iz' (o k a : ME) : MS := fun ρ => (a ρ).out fun d ρ1 => (o ρ1).out fun x ρ2 => (k ρ2).out fun y ρ3 => match sb' ρ3.w x y d with
  | some w => .nx ⟨ρ3.env, w⟩
  | none => .bad
def nF' (g : MG) (b : MS) : List D -> MS
  | [], ρ => .nx ρ
  | d :: ds, ρ => match g d ρ with
    | none => .bad
    | some ρ1 => match b ρ1 with
      | .nx ρ2 => nF' g b ds ρ2
      | .ct ρ2 => nF' g b ds ρ2
      | .bk ρ2 => .nx ρ2
      | r => r
@[simp] def e7' (it : MI) (g : MG) (b : MS) : MS := fun ρ => (it ρ).out fun ds ρ1 => nF' g b ds ρ1
def d0' (t : MT) (b : MS) : Nat -> MS
  | 0, _ => .bad
  | n + 1, ρ => (t ρ).out fun k ρ1 => if k = true then (match b ρ1 with
      | .nx ρ2 => d0' t b n ρ2
      | .ct ρ2 => d0' t b n ρ2
      | .bk ρ2 => .nx ρ2
      | r => r) else .nx ρ1
def rY' : Nat := 2 ^ 40
@[simp] def fK' (n : Nat) (t : MT) (b : MS) : MS := fun ρ => d0' t b n ρ
abbrev ET := List (String × String × Bool)
def sub : ET -> String -> String -> Option Bool
  | [], _, _ => none
  | (a, b, r) :: t, x, c => if a = x /\ b = c then some r else sub t x c
@[simp] def Cs' : Out -> Out
  | .exc _ _ => .bad
  | r => r
@[simp] def xG' : MS := fun _ => .bad
@[simp] def hds (hs : List ((String -> Option Bool) × (Exc -> MS))) (x : Exc) (ρ : PSt) : Out := match hs with
  | [] => .exc x ρ
  | (g, h) :: r => (match g x.cls with
    | some true => Cs' (h x ρ)
    | some false => hds r x ρ
    | none => .bad)
def qz' (f : String) (o : O) : List (String × O) -> List (String × O)
  | [] => [(f, o)]
  | (g, x) :: r => if g = f then (g, o) :: r else (g, x) :: qz' f o r
@[simp] def gZ' (cs : List String) (f : String) (w : W) : D -> Option D
  | .obj n => (match w[n]? with
    | some (.ins C fs) => if C ∈ cs then (match fs.lookup f with | some (.fz d) => some d | _ => none) else none
    | _ => none)
  | _ => none
@[simp] def en' (cs : List String) (a : ME) (f : String) : ME := fun ρ => (a ρ).bind fun x ρ1 => ofO (gZ' cs f ρ1.w x) ρ1
@[simp] def stF (cs : List String) (f : String) (o : O) (w : W) : D -> Option W
  | .obj n => (match w[n]? with
    | some (.ins C fs) => if C ∈ cs /\ fs.length < 1000 then some (w.set n (.ins C (qz' f o fs))) else none
    | _ => none)
  | _ => none
@[simp] def sFld (cs : List String) (a : ME) (f : String) (v : MO) : MS := fun ρ => (v ρ).out fun o ρ1 => (a ρ1).out fun x ρ2 => match stF cs f o ρ2.w x with
  | some w => .nx ⟨ρ2.env, w⟩
  | none => .bad
@[simp] def j4' (C : String) (init : MF) (as : MA) : MO := fun ρ => (as ρ).bind fun ds ρ1 => match init (.obj ρ1.w.length :: ds) (ρ1.w ++ [.ins C []]) with
  | .ok (.fz .non) w => .ok (.fz (.obj ρ1.w.length)) ⟨ρ1.env, w⟩
  | .ok _ _ => .bad
  | .exc x w => .exc x ⟨ρ1.env, w⟩
  | .bad => .bad
def iU' (cs : List String) (m : String) (w : W) : D -> Bool
  | .obj n => (match w[n]? with
    | some (.ins C' fs) => decide (C' ∈ cs) && (fs.lookup m).isNone
    | _ => false)
  | _ => false
@[simp] def fq' (cs : List String) (m : String) (f : MF) (a : ME) (as : MA) : MO := fun ρ => (a ρ).bind fun x ρ1 => if iU' cs m ρ1.w x = true then (as ρ1).bind fun ds ρ2 => fin (f (x :: ds) ρ2.w) ρ2 else .bad
def v1' (ps : List (String × String)) (w : W) : D -> D -> Bool
  | .obj n, .obj m => (match w[n]?, w[m]? with
    | some (.ins C _), some (.ins C' _) => decide ((C, C') ∈ ps)
    | _, _ => false)
  | _, _ => false
@[simp] def uq' (ps : List (String × String)) (f : MF) (a b : ME) : ME := fun ρ => (a ρ).bind fun x ρ1 => (b ρ1).bind fun y ρ2 => if v1' ps ρ2.w x y = true then (match f [x, y] ρ2.w with
    | .ok (.fz (.bl r)) w => .ok (.bl r) ⟨ρ2.env, w⟩
    | _ => .bad) else .bad
def isC (t : ET) (c : String) (w : W) : D -> Option Bool
  | .obj n => (match w[n]? with
    | some (.ins C _) => sub t C c
    | _ => none)
  | d => (tyn d).map fun _ => false
@[simp] def wX' (t : ET) (c : String) (a : ME) : ME := fun ρ => (a ρ).bind fun x ρ1 => ofO ((isC t c ρ1.w x).map .bl) ρ1
def vZ' : O -> Bool
  | .fz _ => true
  | _ => false
@[simp] def fnM (k n : Nat) (b : MS) : MF := fun ds w => if ds.length = k then (match b ⟨ds.map (fun d => some (.fz d)) ++ List.replicate (n - k) none, w⟩ with
    | .nx ρ => .ok (.fz .non) ρ.w
    | .rt o w => .ok o w
    | .exc x ρ => .exc x ρ.w
    | _ => .bad) else .bad
def CB' (x y : D) : Option (List D) := match x, y with
  | .str s, .lst ds => some (dk' (s.map chD) ds)
  | _, _ => none
end M
namespace M
def CX' (c : Nat) : D -> Option D
  | .str s => if s.length <= 1000000 then some (.str (s.filter fun d => decide (d ≠ c))) else none
  | _ => none
end M
namespace M
def CA' : D -> D -> Option (List D)
  | .tup a, .tup b => some (dk' a b)
  | _, _ => none
def C2' : O -> D -> Option O
  | .lst os, .lst ds => if os.length + ds.length <= di' then some (.lst (os ++ ds.map .fz)) else none
  | _, _ => none
mutual
def okO : O -> Bool
  | .fz d => dat d
  | .lst os => okOs os
  | .tup os => okOs os
  | _ => false
def okOs : List O -> Bool
  | [] => true
  | o :: r => okO o && okOs r
end
def okM : List Bool -> List (Option O) -> Bool
  | [], _ => true
  | _ :: _, [] => false
  | false :: m, _ :: r => okM m r
  | true :: m, some o :: r => okO o && okM m r
  | true :: _, none :: _ => false
def rU' : List Bool -> List (Option O) -> List (Option O)
  | _, [] => []
  | [], _ :: r => none :: rU' [] r
  | false :: m, _ :: r => none :: rU' m r
  | true :: m, x :: r => (x.map fun o => .fz (frz o)) :: rU' m r
def zR' : D -> Bool
  | .non => true | .bl _ => true | .int _ => true | .str _ => true
  | _ => false
def unO : O -> Option (List O)
  | .tup os => some os
  | .fz (.tup ds) => some (ds.map .fz)
  | _ => none
def wW' : List Nat -> List O -> PSt -> Option PSt
  | [], [], ρ => some ρ
  | i :: is, o :: os, ρ => if i < ρ.env.length then wW' is os ⟨ρ.env.set i (some o), ρ.w⟩ else none
  | _, _, _ => none
end M
namespace M
def yk' (a b : Tx) : Bool := !decide (b < a)
def xx' (l : List Tx) : List Tx := l.mergeSort yk'
def sG' : D -> Option D
  | .lst ds => (dY' ds).bind fun xs => if xs.length < 64 then some (.lst ((xx' xs).map .str)) else none
  | _ => none
end M
namespace M
end M
namespace M
end M
namespace M
def AR' (a b : Nat × Tx) : Bool := decide (a.1 < b.1) || (decide (a.1 = b.1) && yk' a.2 b.2)
def gG' : List D -> List O -> Option (List (Nat × Tx))
  | [], [] => some []
  | .int i :: ks, .fz (.str s) :: os => if 0 <= i then (gG' ks os).map ((i.toNat, s) :: ·) else none
  | _, _ => none
def tZ' : O -> Option D
  | .dct ks os => (gG' ks os).map fun ps => .lst ((ps.mergeSort AR').map fun p => .tup [.int (p.1 : Nat), .str p.2])
  | _ => none
end M
namespace M
mutual
def Cr' (kl kd : Bool) : D -> Bool
  | .tup ds => nodDs kl kd ds
  | .lst ds => !kl && nodDs kl kd ds
  | .scr ds => !kl && nodDs kl kd ds
  | .dct _ vs => !kd && nodDs kl kd vs
  | .dcx ks vs => nodDs kl kd ks && nodDs kl kd vs
  | _ => true
def nodDs (kl kd : Bool) : List D -> Bool
  | [] => true
  | d :: r => Cr' kl kd d && nodDs kl kd r
end
mutual
def Cq' (kl kd : Bool) : O -> Bool
  | .fz d => Cr' kl kd d
  | .lst os => nodOs kl kd os
  | .tup os => nodOs kl kd os
  | .dct _ os => nodOs kl kd os
  | .dcx ks os => nodDs kl kd ks && nodOs kl kd os
  | .exn => true
  | .clo => true
def nodOs (kl kd : Bool) : List O -> Bool
  | [] => true
  | o :: r => Cq' kl kd o && nodOs kl kd r
end
def lendO (kl kd : Bool) : O -> Bool
  | .fz _ => true
  | .lst os => kl && os.all vZ'
  | .dct _ os => kd && os.all vZ'
  | _ => false
def okL (kl kd : Bool) : List Bool -> List (Option O) -> Bool
  | [], _ => true
  | _ :: _, [] => false
  | false :: m, _ :: r => okL kl kd m r
  | true :: m, some o :: r => lendO kl kd o && okL kl kd m r
  | true :: _, none :: _ => false
def zW' : O -> Nat
  | .fz _ => 0
  | _ => 1
def wD' : List Bool -> List (Option O) -> Nat
  | true :: m, some o :: r => zW' o + wD' m r
  | false :: m, _ :: r => wD' m r
  | _, _ => 0
def CW' : D -> D -> Option D
  | .int i, .int j => if 0 <= j /\ j <= 1000 /\ small64 i = true then some (.int (i * 2 ^ j.toNat)) else none
  | _, _ => none
def CV' : D -> D -> Option D
  | .int i, .int j => if 0 <= j then some (.int (i / 2 ^ j.toNat)) else none
  | _, _ => none
@[simp] def gL (is : List Nat) : MG := fun d ρ => match d with
  | .lst ds => gNs is ds ρ
  | _ => none
def gSq : List MG -> List D -> PSt -> Option PSt
  | [], [], ρ => some ρ
  | g :: gs, d :: ds, ρ => (g d ρ).bind (gSq gs ds)
  | _, _, _ => none
def gTg (gs : List MG) : MG := fun d ρ => match d with
  | .tup ds => gSq gs ds ρ
  | _ => none
end M
namespace M
end M
namespace M
end M
namespace M
end M
namespace M
end M
namespace M
end M
namespace M
end M
namespace M
def yN' : List Bool -> List D -> Option (List (Option O))
  | [], [] => some []
  | true :: m, ds => (yN' m ds).map (some .clo :: ·)
  | false :: m, d :: ds => (yN' m ds).map (some (.fz d) :: ·)
  | _, _ => none
inductive AK where
  | e (a : ME) | c (f : MF) (js : List Nat)
end M
namespace M
def allFz : List O -> Option (List D)
  | [] => some []
  | .fz d :: r => (allFz r).map (d :: ·)
  | _ => none
end M
namespace M
end M
namespace M
end M
namespace S
open PySem PySem.Spec PyProof.Rows L2
def Cw' (K : PySem.W.Frag) (ps : List (String × String)) (g : Addr) : Bool := ps.all fun p => decide (PySem.W.findIn K (.ref (He.ga K (Str.ofString p.1))) "__eq__" = some (some (.ref g))) && (PySem.W.isFn K (.ref g) &&
  PySem.W.notFirst K (He.ga K (Str.ofString p.1)) (.ref (He.ga K (Str.ofString p.2))))
def vS' (K : PySem.W.Frag) (t : M.ET) (c : String) : Bool := (t.all fun e => !decide (e.2.1 = c) || ((He.Fa.cls (Str.ofString e.1)).ok K && (decide (PySem.W.findIn K (.ref (He.ga K (Str.ofString e.1))) "__class__" = some (some (.builtin "object.__class__"))) &&
    (decide (PySem.W.specialIn K (.builtin "object.__class__") "__get__" = some (some (.builtin "getset_descriptor.__get__"))) && (decide (PySem.W.takesIn K (.builtin "object.__class__") = some true) && (decide (PySem.W.mroIn K (He.ga K (Str.ofString e.1)) (.type "object") = some true) &&
    decide (PySem.W.kitOne K (.ref (He.ga K (Str.ofString e.1))) (.ref (He.ga K (Str.ofString c))) = some e.2.2))))))) &&
  ["NoneType", "bool", "int", "str", "tuple", "list", "dict"].all fun n => decide (PySem.W.kitOne K (.type n) (.ref (He.ga K (Str.ofString c))) = some false)
def Ct' (K : PySem.W.Frag) (ps : List (String × String)) (g : Addr) : Bool := ps.all fun p => decide (PySem.W.findIn K (.ref (He.ga K (Str.ofString p.1))) "__ne__" = some (some (.builtin "object.__ne__"))) &&
  (decide (PySem.W.findIn K (.ref (He.ga K (Str.ofString p.1))) "__eq__" = some (some (.ref g))) && (PySem.W.isFn K (.ref g) && (decide (PySem.W.mroIn K (He.ga K (Str.ofString p.1)) (.type "object") = some true) &&
  PySem.W.notFirst K (He.ga K (Str.ofString p.1)) (.ref (He.ga K (Str.ofString p.2))))))
def B6' : Arguments -> Option (Str × Str)
  | ⟨[], [a, b], none, [], [], none, []⟩ => some (a.arg, b.arg)
  | _ => none
def B3' : FuncBody -> Option (Str × Str × Str × Str × Str)
  | .stmts [.Expr (.Call (.Attribute (.Call (.Name s _) [] [] _) m p) [.Constant (.str _) _ _] [] q) _, .Assign [.Attribute (.Name a _) f _] (.Name b _) _] => if (p.endLine == q.line) = true then some (s, m, a, f, b) else none
  | _ => none
def bmB (K : PySem.W.Frag) : Bool := match K.lookup (He.ga K "__builtins__") with
  | some ⟨.type m, some d, .plain, _⟩ => decide (m = "module") && (decide (d = builtinsNs) && (decide (He.ga K "__builtins__" ≠ builtinsNs) && decide (He.ga K "__builtins__" ≠ mainGlobals)))
  | _ => false
end S
namespace M
def isT : ET := [("Machine", "Machine", true), ("RawMachine", "Machine", true)]
def f_is_integer : MF := fnM 1 1 ((cC' (oE (ur' (eUn (ci' "int") (eV 0)) (yO' (eUn (ci' "bool") (eV 0)))))))
def f_is_string_of : MF := fnM 2 3 ((au' (sIf (hy' (tE (eUn (ci' "str") (eV 0)))) (cC' (oE (eC (.bl false)))) br')
  (au' (e7' (gi' (eV 0)) (gN 2) (sIf (tE (eOp h6' (eV 2) (eV 1))) (cC' (oE (eC (.bl false)))) br'))
  (cC' (oE (eC (.bl true)))))))
def f_is_ascending : MF := fnM 1 3 ((au' (e7' (yC' (eV 0) (eSl (eV 0) (pSo (eC (.int 1))) pNo)) (gT [1, 2]) (sIf (tE (eOp pGe (eV 1) (eV 2))) (cC' (oE (eC (.bl false)))) br'))
  (cC' (oE (eC (.bl true))))))
def f_is_choice : MF := fnM 2 2 ((cC' (oE (ur' (eO (aQ' f_is_string_of (ad' (eV 0) (ad' (eV 1) bk')))) (eO (aQ' f_is_ascending (ad' (eV 0) bk')))))))
def f_is_word : MF := fnM 2 2 ((cC' (aQ' f_is_string_of (ad' (eV 1) (ad' (en' ["Machine", "RawMachine"] (eV 0) "kept_letters") bk')))))
def f_check_word : MF := fnM 2 2 ((sIf (hy' (tE (eO (aQ' f_is_word (ad' (eV 0) (ad' (eV 1) bk')))))) (m9' "NoWord") br'))
def f_are_states : MF := fnM 2 3 ((au' (sIf (hy' (tE (eUn (ci' "tuple") (eV 0)))) (cC' (oE (eC (.bl false)))) br')
  (au' (e7' (gi' (eV 0)) (gN 2) (sIf (tOr (hy' (tE (eO (aQ' f_is_integer (ad' (eV 2) bk'))))) (tOr (tE (eOp pLt (eV 2) (eC (.int 0)))) (tE (eOp pGe (eV 2) (eV 1))))) (cC' (oE (eC (.bl false)))) br'))
  (cC' (oE (eC (.bl true)))))))
def f_is_table : MF := fnM 2 3 ((au' (sIf (tOr (hy' (tE (eUn (ci' "tuple") (eV 0)))) (hy' (tE (g0' pLe pLe (eC (.int 1)) (eUn ee' (eV 0)) (eC (.int 6)))))) (cC' (oE (eC (.bl false)))) br')
  (au' (e7' (gi' (eV 0)) (gN 2) (sIf (tOr (hy' (tE (eO (aQ' f_are_states (ad' (eV 2) (ad' (eUn ee' (eV 0)) bk')))))) (tE (eOp pNe (eUn ee' (eV 2)) (eUn ee' (eV 1))))) (cC' (oE (eC (.bl false)))) br'))
  (cC' (oE (eC (.bl true)))))))
def f_Machine_keep : MF := fnM 4 4 ((au' (sFld ["Machine", "RawMachine"] (eV 0) "kept_letters" (oE (eV 1)))
  (au' (sFld ["Machine", "RawMachine"] (eV 0) "kept_table" (oE (eV 2)))
  (au' (sFld ["Machine", "RawMachine"] (eV 0) "kept_accepts" (oE (eV 3)))
  (au' (sFld ["Machine", "RawMachine"] (eV 0) "kept_least" (oE (eC .non)))
  (au' (sFld ["Machine", "RawMachine"] (eV 0) "kept_field" (oE (eC .non)))
  (au' (sFld ["Machine", "RawMachine"] (eV 0) "kept_lots" gP')
  (sFld ["Machine", "RawMachine"] (eV 0) "kept_more" gP'))))))))
def f_Machine___init__ : MF := fnM 4 4 ((au' (sIf (tOr (hy' (tE (eO (aQ' f_is_choice (ad' (eV 1) (ad' (eC (.str [97, 98, 99, 100, 101, 102, 103, 104, 105, 106, 107, 108, 109, 110, 111, 112, 113, 114, 115, 116, 117, 118, 119, 120, 121, 122])) bk')))))) (hy' (tE (g0' pLe pLe (eC (.int 1)) (eUn ee' (eV 1)) (eC (.int 4)))))) xG' br')
  (au' (sIf (hy' (tE (eO (aQ' f_is_table (ad' (eV 2) (ad' (eV 1) bk')))))) xG' br')
  (au' (sIf (tOr (hy' (tE (eO (aQ' f_are_states (ad' (eV 3) (ad' (eUn ee' (eV 2)) bk')))))) (hy' (tE (eO (aQ' f_is_ascending (ad' (eV 3) bk')))))) xG' br')
  (jR' (eO (fq' ["Machine", "RawMachine"] "keep" f_Machine_keep (eV 0) (ad' (eV 1) (ad' (eV 2) (ad' (eV 3) bk'))))))))))
def f_Machine_letters : MF := fnM 1 1 ((cC' (oE (en' ["Machine", "RawMachine"] (eV 0) "kept_letters"))))
def f_Machine_table : MF := fnM 1 1 ((cC' (oE (en' ["Machine", "RawMachine"] (eV 0) "kept_table"))))
def f_Machine_accepts : MF := fnM 1 1 ((cC' (oE (en' ["Machine", "RawMachine"] (eV 0) "kept_accepts"))))
def f_Machine_parts : MF := fnM 1 1 ((cC' (oE (rq' (ad' (en' ["Machine", "RawMachine"] (eV 0) "kept_letters") (ad' (en' ["Machine", "RawMachine"] (eV 0) "kept_table") (ad' (en' ["Machine", "RawMachine"] (eV 0) "kept_accepts") bk')))))))
def f_Machine___eq__ : MF := fnM 2 2 ((cC' (oE (ur' (wX' isT "Machine" (eV 1)) (eOp pEq (eO (fq' ["Machine", "RawMachine"] "parts" f_Machine_parts (eV 0) bk')) (eO (fq' ["Machine", "RawMachine"] "parts" f_Machine_parts (eV 1) bk')))))))
def f_RawMachine___init__ : MF := fnM 4 4 ((jR' (eO (fq' ["Machine", "RawMachine"] "keep" f_Machine_keep (eV 0) (ad' (eV 1) (ad' (eV 2) (ad' (eV 3) bk')))))))
def f_led : MF := fnM 3 4 ((au' (e7' (gi' (eV 2)) (gN 3) (bg' 1 (oE (eOp pIx (eOp pIx (en' ["Machine", "RawMachine"] (eV 0) "kept_table") (eV 1)) (eMt ka' (en' ["Machine", "RawMachine"] (eV 0) "kept_letters") (ad' (eV 3) bk'))))))
  (cC' (oV 1))))
def f_says : MF := fnM 2 2 ((au' (jR' (eO (aQ' f_check_word (ad' (eV 0) (ad' (eV 1) bk')))))
  (cC' (oE (eOp pIn (eO (aQ' f_led (ad' (eV 0) (ad' (eC (.int 0)) (ad' (eV 1) bk'))))) (en' ["Machine", "RawMachine"] (eV 0) "kept_accepts"))))))
def f_reached : MF := fnM 1 5 ((au' (bg' 1 (hz' (jc' (ad' (eC (.int 0)) bk'))))
  (au' (bg' 2 (fO' false (eC (.int 0)) (eC (.bl true))))
  (au' (bg' 3 (oE (eC (.int 0))))
  (au' (fK' rY' (tE (eOp pLt (eV 3) (cD' 1))) (au' (e7' (gi' (eOp pIx (en' ["Machine", "RawMachine"] (eV 0) "kept_table") (rr' 1 (eV 3)))) (gN 4) (sIf (tE (rs' true 2 (eV 4))) (au' (na' 2 (eV 4) (eC (.bl true)))
  (iA' 1 (oE (eV 4)))) br'))
  (wQ' sH' 3 (eC (.int 1)))))
  (cC' (oV 1)))))))
def f_numbered : MF := fnM 1 5 ((au' (bg' 1 qM')
  (au' (bg' 2 gP')
  (au' (e7' (rk' ry' (eV 0)) (gT [3, 4]) (au' (sIf (tE (rs' true 1 (eV 4))) (na' 1 (eV 4) (cD' 1)) br')
  (na' 2 (eV 3) (ig' 1 (eV 4)))))
  (cC' (oV 2))))))
def f_alike_states : MF := fnM 2 7 ((au' (bg' 2 (aQ' f_numbered (ad' (eO (oDc [5] (gi' (eV 1)) (gN 5) tT (eV 5) (eOp pIn (eV 5) (en' ["Machine", "RawMachine"] (eV 0) "kept_accepts")))) bk')))
  (au' (bg' 3 (oE (eC (.int 0))))
  (au' (fK' rY' (tE (eOp pGe (eUn n8' (eV 2)) (eV 3))) (au' (bg' 3 (oE (eOp dj' (eUn n8' (eV 2)) (eC (.int 1)))))
  (au' (bg' 4 gP')
  (au' (e7' (gi' (eV 1)) (gN 5) (na' 4 (eV 5) (rq' (ad' (ig' 2 (eV 5)) (ad' (eUn bl' (eLc [6] (gi' (eOp pIx (en' ["Machine", "RawMachine"] (eV 0) "kept_table") (eV 5))) (gN 6) tT (ig' 2 (eV 6)))) bk')))))
  (bg' 2 (aQ' f_numbered (ad' (eV 4) bk')))))))
  (cC' (oV 2))))))
def f_least : MF := fnM 1 9 ((au' (sIf (tE (eOp pIs (en' ["Machine", "RawMachine"] (eV 0) "kept_least") (eC .non))) (au' (bg' 1 (aQ' f_reached (ad' (eV 0) bk')))
  (au' (bg' 2 (aQ' f_alike_states (ad' (eV 0) (ad' (eV 1) bk'))))
  (au' (bg' 3 gP')
  (au' (e7' (gi' (eV 1)) (gN 4) (jR' (if' 3 (ig' 2 (eV 4)) (eV 4))))
  (au' (bg' 5 (hz' (jc' bk')))
  (au' (e7' (gi' (eUn dT' (eV 3))) (gN 6) (iA' 5 (oE (eUn bl' (eLc [8] (gi' (eOp pIx (en' ["Machine", "RawMachine"] (eV 0) "kept_table") (ig' 3 (eV 6)))) (gN 8) tT (ig' 2 (eV 8)))))))
  (au' (bg' 7 (oE (eUn bl' (eLc [6] (gi' (eUn dT' (eV 3))) (gN 6) (tE (eOp pIn (ig' 3 (eV 6)) (en' ["Machine", "RawMachine"] (eV 0) "kept_accepts"))) (eV 6)))))
  (au' (sFld ["Machine", "RawMachine"] (eV 0) "kept_least" (j4' "RawMachine" f_RawMachine___init__ (ad' (en' ["Machine", "RawMachine"] (eV 0) "kept_letters") (ad' (eUn bl' (eV 5)) (ad' (eV 7) bk')))))
  (sFld ["Machine", "RawMachine"] (en' ["Machine", "RawMachine"] (eV 0) "kept_least") "kept_least" (oE (en' ["Machine", "RawMachine"] (eV 0) "kept_least"))))))))))) br')
  (cC' (oE (en' ["Machine", "RawMachine"] (eV 0) "kept_least")))))
def f_backward : MF := fnM 1 14 ((au' (bg' 1 (aQ' f_least (ad' (eV 0) bk')))
  (au' (bg' 2 (oE (eUn ee' (en' ["Machine", "RawMachine"] (eV 1) "kept_table"))))
  (au' (bg' 3 (oE (eUn bl' (eLc [12] (bi' (eV 2)) (gN 12) tT (eOp pIn (eV 12) (en' ["Machine", "RawMachine"] (eV 1) "kept_accepts"))))))
  (au' (bg' 4 (hz' (jc' (ad' (eV 3) bk'))))
  (au' (bg' 5 (fO' true (eV 3) (eC (.int 0))))
  (au' (bg' 6 (hz' (jc' bk')))
  (au' (fK' rY' (tE (eOp pLt (cD' 6) (cD' 4))) (au' (bg' 7 (oE (rr' 4 (cD' 6))))
  (au' (bg' 8 (hz' (jc' bk')))
  (au' (e7' (bi' (eUn ee' (en' ["Machine", "RawMachine"] (eV 1) "kept_letters"))) (gN 9) (au' (bg' 10 (oE (eUn bl' (eLc [12] (bi' (eV 2)) (gN 12) tT (eOp pIx (eV 7) (eOp pIx (eOp pIx (en' ["Machine", "RawMachine"] (eV 1) "kept_table") (eV 12)) (eV 9)))))))
  (au' (sIf (tE (rs' true 5 (eV 10))) (au' (na' 5 (eV 10) (cD' 4))
  (iA' 4 (oE (eV 10)))) br')
  (iA' 8 (oE (ig' 5 (eV 10)))))))
  (au' (iA' 6 (oE (eUn bl' (eV 8))))
  (sIf (tE (eOp pGt (cD' 4) (eC (.int 200)))) xG' br'))))))
  (au' (bg' 11 (oE (eUn bl' (eLc [9, 13] (rj' (eV 4)) (gT [9, 13]) (tE (eOp pIx (eV 13) (eC (.int 0)))) (eV 9)))))
  (cC' (aQ' f_least (ad' (eO (j4' "RawMachine" f_RawMachine___init__ (ad' (en' ["Machine", "RawMachine"] (eV 1) "kept_letters") (ad' (eUn bl' (eV 6)) (ad' (eV 11) bk'))))) bk'))))))))))))
def f__law_hand : MF := fnM 1 3 ((au' (bg' 1 (oLc [2] (gi' (eSl (eV 0) pNo (pSo (eC (.int 63))))) (gN 2) tT (eUn zV' (eUn hC' (eV 2)))))
  (cC' (ya' (ad' (eV 1) (ad' (eC (.int 0)) (ad' (eC (.int 0)) (ad' (eOp dj' (eC (.int 1)) (eUn ee' (eV 1))) (ad' (eC (.int 0)) bk')))))))))
def f__law_draw : MF := fnM 2 5 ((au' (sIf (wO' (tE (eOp pEq (jd' (eV 0) (eC (.int 2))) (eC (.int 0)))) (tE (eOp pLt (jd' (eV 0) (eC (.int 1))) (eUn ee' (jd' (eV 0) (eC (.int 0))))))) (au' (bg' 2 (oE (eOp pIx (jd' (eV 0) (eC (.int 0))) (jd' (eV 0) (eC (.int 1))))))
  (au' (iz' (eV 0) (eC (.int 1)) (eOp dj' (jd' (eV 0) (eC (.int 1))) (eC (.int 1))))
  (au' (iz' (eV 0) (eC (.int 3)) (eOp jY' (eUn hC' (eOp dj' (eOp dj' (eOp jX' (jd' (eV 0) (eC (.int 3))) (eC (.int 69621))) (eV 2)) (eC (.int 11)))) (eC (.int 2147483629))))
  (sIf (tE (eOp pGe (eV 2) (eOp x4' (eC (.int 10)) (eC (.int 18))))) (iz' (eV 0) (eC (.int 2)) (eV 2)) br')))) br')
  (au' (sIf (tE (eOp pGt (jd' (eV 0) (eC (.int 2))) (eC (.int 0)))) (au' (bg' 3 (oE (eOp jY' (eUn hC' (jd' (eV 0) (eC (.int 2)))) (eV 1))))
  (au' (iz' (eV 0) (eC (.int 2)) (eOp iE' (jd' (eV 0) (eC (.int 2))) (eV 1)))
  (cC' (oV 3)))) br')
  (au' (iz' (eV 0) (eC (.int 4)) (eOp dj' (jd' (eV 0) (eC (.int 4))) (eC (.int 1))))
  (au' (bg' 4 (oE (eOp jY' (eUn hC' (eOp jX' (eUn hC' (eOp dj' (jd' (eV 0) (eC (.int 3))) (eOp jX' (eC (.int 7919)) (jd' (eV 0) (eC (.int 4)))))) (eC (.int 48271)))) (eC (.int 2147483647)))))
  (au' (bg' 4 (oE (eOp jY' (eUn hC' (eOp jX' (eV 4) (eOp dj' (eOp iE' (eV 4) (eC (.int 1009))) (eC (.int 69621))))) (eC (.int 2147483647)))))
  (au' (bg' 4 (oE (eOp jY' (eUn hC' (eOp jX' (eV 4) (eOp dj' (eOp iE' (eV 4) (eC (.int 2003))) (eC (.int 40692))))) (eC (.int 2147483399)))))
  (cC' (oE (eOp jY' (eUn hC' (eOp iE' (eV 4) (eC (.int 16)))) (eV 1)))))))))))
def f__law_shuffled : MF := fnM 2 5 ((au' (bg' 2 (hz' (eUn eJ' (eV 1))))
  (au' (bg' 3 (hz' (jc' bk')))
  (au' (e7' (bi' (eUn ee' (eV 1))) (gN 4) (iA' 3 (oE (kq' 2 (eO (aQ' f__law_draw (ad' (eV 0) (ad' (cD' 2) bk'))))))))
  (cC' (oV 3))))))
def f__law_rows : MF := fnM 4 11 ((au' (bg' 4 (hz' (jc' bk')))
  (au' (bg' 5 (oLc [9] (bi' (eV 3)) (gN 9) tT (eO (aQ' f__law_draw (ad' (eV 0) (ad' (eV 2) bk'))))))
  (au' (bg' 6 (oLc [9] (bi' (eV 3)) (gN 9) tT (eO (aQ' f__law_shuffled (ad' (eV 0) (ad' (eO (hz' (eUn eI' (eV 2)))) bk'))))))
  (au' (e7' (bi' (eV 2)) (gN 7) (au' (bg' 8 (hz' (jc' bk')))
  (au' (e7' (bi' (eV 3)) (gN 9) (au' (bg' 10 (aQ' f__law_draw (ad' (eV 0) (ad' (eV 2) bk'))))
  (au' (sIf (tE (eOp pEq (eV 1) (eC (.int 3)))) (bg' 10 (oE (eOp jY' (eUn hC' (eOp dj' (eV 7) (eOp pIx (eV 5) (eV 9)))) (eV 2)))) br')
  (au' (sIf (tE (eOp pEq (eV 1) (eC (.int 4)))) (bg' 10 (oE (eOp n7' (eOp ua' (eV 2) (eC (.int 1))) (eOp dj' (eV 7) (eOp pIx (eV 5) (eV 9)))))) br')
  (au' (sIf (tE (eOp pEq (eV 1) (eC (.int 5)))) (au' (bg' 10 (oE (eV 7)))
  (sIf (tE (eOp pEq (eV 7) (eC (.int 0)))) (bg' 10 (oE (eOp jY' (eUn hC' (eOp dj' (eC (.int 1)) (eV 9))) (eV 2)))) br')) br')
  (au' (sIf (tE (eOp pEq (eV 1) (eC (.int 6)))) (bg' 10 (oE (eOp jY' (eUn hC' (eOp dj' (eC (.int 1)) (eV 9))) (eV 2)))) br')
  (au' (sIf (tE (eOp pEq (eV 1) (eC (.int 7)))) (bg' 10 (oE (eOp n7' (eOp ua' (eV 2) (eC (.int 1))) (eOp dj' (eV 7) (eUn hC' (eOp pEq (eOp jY' (eV 7) (eV 3)) (eV 9))))))) br')
  (au' (sIf (tE (eOp pEq (eV 1) (eC (.int 8)))) (au' (bg' 10 (oE (eOp ua' (eV 2) (eC (.int 1)))))
  (sIf (wO' (tE (eOp pLt (eV 7) (eOp ua' (eV 2) (eC (.int 1))))) (tE (eOp pEq (eOp jY' (eV 7) (eV 3)) (eV 9)))) (bg' 10 (oE (eOp jY' (eUn hC' (eOp dj' (eV 7) (eC (.int 1)))) (eOp ua' (eV 2) (eC (.int 1)))))) br')) br')
  (au' (sIf (tE (eOp pEq (eV 1) (eC (.int 9)))) (bg' 10 (oE (eOp pIx (eOp pIx (eV 6) (eV 9)) (eV 7)))) br')
  (iA' 8 (oE (eV 10))))))))))))
  (iA' 4 (oE (eUn bl' (eV 8)))))))
  (cC' (oE (eUn bl' (eV 4)))))))))
def f__law_woven : MF := fnM 2 10 ((au' (bg' 2 (aQ' f__law_rows (ad' (eV 0) (ad' (eOp dj' (eC (.int 3)) (eO (aQ' f__law_draw (ad' (eV 0) (ad' (eC (.int 7)) bk'))))) (ad' (eC (.int 2)) (ad' (eV 1) bk'))))))
  (au' (bg' 3 (oE (eOp dj' (eC (.int 2)) (eO (aQ' f__law_draw (ad' (eV 0) (ad' (eC (.int 2)) bk')))))))
  (au' (bg' 4 (aQ' f__law_rows (ad' (eV 0) (ad' (eOp dj' (eC (.int 3)) (eO (aQ' f__law_draw (ad' (eV 0) (ad' (eC (.int 7)) bk'))))) (ad' (eV 3) (ad' (eV 1) bk'))))))
  (au' (bg' 5 (hz' (jc' bk')))
  (au' (e7' (bi' (eOp jX' (eC (.int 2)) (eV 3))) (gN 6) (au' (bg' 7 (oE (eOp pIx (eV 2) (eOp iE' (eV 6) (eV 3)))))
  (au' (bg' 8 (oE (eOp pIx (eV 4) (eOp jY' (eUn hC' (eV 6)) (eV 3)))))
  (iA' 5 (oE (eUn bl' (eLc [9] (bi' (eV 1)) (gN 9) tT (eOp dj' (eOp jX' (eOp pIx (eV 7) (eV 9)) (eV 3)) (eOp pIx (eV 8) (eV 9))))))))))
  (cC' (oE (eUn bl' (eV 5))))))))))
def f__law_parts : MF := fnM 3 11 ((au' (bg' 3 (aQ' f__law_draw (ad' (eV 0) (ad' (eC (.int 13)) bk'))))
  (au' (bg' 4 (oE (eOp dj' (eC (.int 1)) (eO (aQ' f__law_draw (ad' (eV 0) (ad' (eV 1) bk')))))))
  (au' (bg' 5 (oE (eOp dj' (eC (.int 1)) (eO (aQ' f__law_draw (ad' (eV 0) (ad' (eV 2) bk')))))))
  (au' (sIf (tE (eOp pGt (eV 3) (eC (.int 4)))) (au' (bg' 5 (oE (eOp qH' (eC (.int 2)) (eV 5))))
  (bg' 4 (oE (eOp qH' (eOp n7' (eC (.int 2)) (eV 1)) (eV 4))))) br')
  (au' (bg' 6 (aQ' f__law_shuffled (ad' (eV 0) (ad' (eUn eJ' (eC (.str [97, 98, 99, 100, 101, 102, 103, 104, 105, 106, 107, 108, 109, 110, 111, 112, 113, 114, 115, 116, 117, 118, 119, 120, 121, 122]))) bk'))))
  (au' (bg' 7 (oE (eMt ln' (eC (.str [])) (ad' (eUn c2' (eSl (eV 6) pNo (pSo (eV 4)))) bk'))))
  (au' (sIf (tE (eOp pGt (eV 3) (eC (.int 9)))) (bg' 8 (aQ' f__law_woven (ad' (eV 0) (ad' (eV 4) bk')))) (bg' 8 (aQ' f__law_rows (ad' (eV 0) (ad' (eV 3) (ad' (eV 5) (ad' (eV 4) bk')))))))
  (au' (bg' 9 (oE (eUn bl' (eLc [10] (bi' (eUn ee' (eV 8))) (gN 10) (tE (eOp pEq (eO (aQ' f__law_draw (ad' (eV 0) (ad' (eC (.int 2)) bk')))) (eC (.int 1)))) (eV 10)))))
  (cC' (oE (rq' (ad' (eV 7) (ad' (eV 8) (ad' (eV 9) bk')))))))))))))))
def f__law_classes : MF := fnM 3 11 ((au' (bg' 3 gP')
  (au' (e7' (gi' (eV 2)) (gN 4) (na' 3 (eV 4) (eUn hC' (eOp pIn (eV 4) (eV 1)))))
  (au' (bg' 5 (oE (eC (.int 0))))
  (au' (e7' (bi' (eUn ee' (eV 2))) (gN 6) (au' (bg' 7 qM')
  (au' (bg' 8 gP')
  (au' (e7' (gi' (eV 2)) (gN 4) (au' (bg' 9 (oE (rq' (ad' (ig' 3 (eV 4)) (ad' (eUn bl' (eLc [10] (gi' (eOp pIx (eV 0) (eV 4))) (gN 10) tT (ig' 3 (eV 10)))) bk')))))
  (au' (sIf (tE (rs' true 7 (eV 9))) (na' 7 (eV 9) (cD' 7)) br')
  (na' 8 (eV 4) (ig' 7 (eV 9))))))
  (au' (bg' 3 (oE (eV 8)))
  (au' (sIf (tE (eOp pEq (cD' 7) (eV 5))) nb' br')
  (bg' 5 (oE (cD' 7)))))))))
  (cC' (oV 3)))))))
def f__law_least : MF := fnM 2 11 ((au' (bg' 2 (hz' (jc' (ad' (eC (.int 0)) bk'))))
  (au' (bg' 3 (oE (eC (.int 0))))
  (au' (fK' rY' (tE (eOp pLt (eV 3) (cD' 2))) (au' (e7' (gi' (eOp pIx (eV 0) (rr' 2 (eV 3)))) (gN 4) (sIf (tE (fz' 2 (eV 4))) (iA' 2 (oE (eV 4))) br'))
  (bg' 3 (oE (eOp dj' (eV 3) (eC (.int 1)))))))
  (au' (bg' 5 (aQ' f__law_classes (ad' (eV 0) (ad' (eV 1) (ad' (eV 2) bk')))))
  (au' (bg' 6 gP')
  (au' (bg' 7 (hz' (jc' bk')))
  (au' (e7' (gi' (eV 2)) (gN 8) (sIf (tE (rs' true 6 (ig' 5 (eV 8)))) (au' (na' 6 (ig' 5 (eV 8)) (cD' 7))
  (iA' 7 (oE (eV 8)))) br'))
  (au' (bg' 9 (oE (eUn bl' (eLc [8] (gi' (eV 7)) (gN 8) tT (eUn bl' (eLc [4] (gi' (eOp pIx (eV 0) (eV 8))) (gN 4) tT (ig' 6 (ig' 5 (eV 4)))))))))
  (cC' (oE (rq' (ad' (eV 9) (ad' (eUn bl' (eLc [10] (bi' (cD' 7)) (gN 10) (tE (eOp pIn (rr' 7 (eV 10)) (eV 1))) (eV 10))) bk'))))))))))))))
def f__law_word : MF := fnM 3 5 ((au' (bg' 3 (oE (eC (.str []))))
  (au' (e7' (bi' (eV 2)) (gN 4) (bg' 3 (oE (eOp dj' (eV 3) (eOp pIx (eV 1) (eO (aQ' f__law_draw (ad' (eV 0) (ad' (eUn ee' (eV 1)) bk')))))))))
  (cC' (oV 3)))))
def f__law_is_machine : MF := fnM 4 4 ((au' (sIf (hy' (tE (wX' isT "Machine" (eV 0)))) (cC' (oE (eC (.bl false)))) br')
  (cC' (oE (eOp zU' (eUn x3' (rq' (ad' (eO (fq' ["Machine", "RawMachine"] "letters" f_Machine_letters (eV 0) bk')) (ad' (eO (fq' ["Machine", "RawMachine"] "table" f_Machine_table (eV 0) bk')) (ad' (eO (fq' ["Machine", "RawMachine"] "accepts" f_Machine_accepts (eV 0) bk')) bk'))))) (eUn x3' (rq' (ad' (eV 1) (ad' (eV 2) (ad' (eV 3) bk'))))))))))
def f__law_turned : MF := fnM 3 11 ((au' (bg' 3 (hz' (jc' (ad' (eUn bl' (eLc [10] (bi' (eUn ee' (eV 0))) (gN 10) tT (eUn hC' (eOp pIn (eV 10) (eV 1))))) bk'))))
  (au' (bg' 4 (fO' true (rr' 3 (eC (.int 0))) (eC (.int 0))))
  (au' (bg' 5 (hz' (jc' bk')))
  (au' (bg' 6 (oE (eC (.int 0))))
  (au' (fK' rY' (tE (eOp pLt (eV 6) (cD' 3))) (au' (bg' 7 (hz' (jc' bk')))
  (au' (e7' (bi' (eV 2)) (gN 8) (au' (bg' 9 (oE (eUn bl' (eLc [10] (bi' (eUn ee' (eV 0))) (gN 10) tT (eOp pIx (rr' 3 (eV 6)) (eOp pIx (eOp pIx (eV 0) (eV 10)) (eV 8)))))))
  (au' (sIf (tE (rs' true 4 (eV 9))) (au' (na' 4 (eV 9) (cD' 3))
  (iA' 3 (oE (eV 9)))) br')
  (iA' 7 (oE (ig' 4 (eV 9)))))))
  (au' (iA' 5 (oE (eUn bl' (eV 7))))
  (bg' 6 (oE (eOp dj' (eV 6) (eC (.int 1)))))))))
  (cC' (aQ' f__law_least (ad' (eUn bl' (eV 5)) (ad' (eUn bl' (eLc [8] (bi' (cD' 3)) (gN 8) (tE (eOp pEq (eOp pIx (rr' 3 (eV 8)) (eC (.int 0))) (eC (.int 1)))) (eV 8))) bk'))))))))))
def f_law : MF := fnM 1 11 ((au' (bg' 1 (aQ' f__law_hand (ad' (eV 0) bk')))
  (au' (vj' (gT [2, 3, 4]) (eO (aQ' f__law_parts (ad' (eV 1) (ad' (eC (.int 4)) (ad' (eC (.int 6)) bk'))))))
  (au' (bg' 5 (j4' "Machine" f_Machine___init__ (ad' (eV 2) (ad' (eV 3) (ad' (eV 4) bk')))))
  (au' (vj' (gT [6, 7]) (eO (aQ' f__law_turned (ad' (eV 3) (ad' (eV 4) (ad' (eUn ee' (eV 2)) bk'))))))
  (au' (bg' 8 (aQ' f_backward (ad' (eV 5) bk')))
  (au' (sIf (hy' (tE (eO (aQ' f__law_is_machine (ad' (eV 8) (ad' (eV 2) (ad' (eV 6) (ad' (eV 7) bk')))))))) (cC' (oE (eC (.bl false)))) br')
  (au' (vj' (gT [6, 7]) (eO (aQ' f__law_least (ad' (eV 3) (ad' (eV 4) bk')))))
  (au' (sIf (tOr (hy' (tE (eO (aQ' f__law_is_machine (ad' (eO (aQ' f_backward (ad' (eV 8) bk'))) (ad' (eV 2) (ad' (eV 6) (ad' (eV 7) bk')))))))) (hy' (tE (uq' [("Machine", "Machine"), ("RawMachine", "Machine"), ("RawMachine", "RawMachine")] f_Machine___eq__ (eO (aQ' f_backward (ad' (eV 8) bk'))) (eO (aQ' f_least (ad' (eV 5) bk'))))))) (cC' (oE (eC (.bl false)))) br')
  (au' (e7' (bi' (eC (.int 8))) (gN 9) (au' (bg' 10 (aQ' f__law_word (ad' (eV 1) (ad' (eV 2) (ad' (eO (aQ' f__law_draw (ad' (eV 1) (ad' (eC (.int 13)) bk')))) bk')))))
  (sIf (tE (eOp pNe (eO (aQ' f_says (ad' (eV 8) (ad' (eV 10) bk')))) (eO (aQ' f_says (ad' (eV 5) (ad' (eUn wS' (eV 10)) bk')))))) (cC' (oE (eC (.bl false)))) br')))
  (cC' (oE (ur' (eO (aQ' f__law_is_machine (ad' (eV 5) (ad' (eV 2) (ad' (eV 3) (ad' (eV 4) bk')))))) (uq' [("Machine", "Machine"), ("RawMachine", "Machine"), ("RawMachine", "RawMachine")] f_Machine___eq__ (eO (aQ' f_backward (ad' (eV 5) bk'))) (eV 8)))))))))))))))
end M
namespace S
open PySem PySem.Spec PyProof.Rows L2
def top (i : Nat) : Stmt := PySem.Challenge.pw_saidacross_k80_words_from_behind.main.body.getD i (.Pass ⟨0, 0, 0, 0⟩)
abbrev ba' : Stmt := top 7
abbrev kV' : List Str := ["thing"]
theorem ix' : FnScope kV' ["thing"] (defScope ba') := (by walk_at "3")
def eW' : He.DefD := ⟨("is_integer", none), "is_integer", "is_integer", defArgs ba', defBody ba', defScope ba', [], []⟩
abbrev aM' : Stmt := top 8
abbrev hL' : List Str := ["thing", "signs", "sign"]
theorem dr' : FnScope hL' ["thing", "signs"] (defScope aM') := (by walk_at "3")
def dF' : He.DefD := ⟨("is_string_of", none), "is_string_of", "is_string_of", defArgs aM', defBody aM', defScope aM', [], []⟩
abbrev aN' : Stmt := top 9
abbrev hM' : List Str := ["thing", "one", "other"]
theorem cB' : FnScope hM' ["thing"] (defScope aN') := (by walk_at "3")
def dG' : He.DefD := ⟨("is_ascending", none), "is_ascending", "is_ascending", defArgs aN', defBody aN', defScope aN', [], []⟩
abbrev bm' : Stmt := top 10
abbrev lV' : List Str := ["thing", "signs"]
theorem jP' : FnScope lV' ["thing", "signs"] (defScope bm') := (by walk_at "3")
def fR' : He.DefD := ⟨("is_choice", none), "is_choice", "is_choice", defArgs bm', defBody bm', defScope bm', [], []⟩
abbrev bN' : Stmt := top 11
abbrev rP' : List Str := ["machine", "thing"]
theorem n4' : FnScope rP' ["machine", "thing"] (defScope bN') := (by walk_at "3")
def ij' : He.DefD := ⟨("is_word", none), "is_word", "is_word", defArgs bN', defBody bN', defScope bN', [], []⟩
abbrev bc' : Stmt := top 12
abbrev kW' : List Str := ["machine", "thing"]
theorem iy' : FnScope kW' ["machine", "thing"] (defScope bc') := (by walk_at "3")
def eX' : He.DefD := ⟨("check_word", none), "check_word", "check_word", defArgs bc', defBody bc', defScope bc', [], []⟩
abbrev bd' : Stmt := top 14
abbrev kX' : List Str := ["thing", "many", "state"]
theorem eC' : FnScope kX' ["thing", "many"] (defScope bd') := (by walk_at "3")
def eY' : He.DefD := ⟨("are_states", none), "are_states", "are_states", defArgs bd', defBody bd', defScope bd', [], []⟩
abbrev bD' : Stmt := top 15
abbrev oE' : List Str := ["thing", "letters", "row"]
theorem gz' : FnScope oE' ["thing", "letters"] (defScope bD') := (by walk_at "3")
def g2' : He.DefD := ⟨("is_table", none), "is_table", "is_table", defArgs bD', defBody bD', defScope bD', [], []⟩
abbrev as' : Stmt := inClass (top 16) 0
abbrev e4' : List Str := ["self", "letters", "table", "accepts"]
theorem ec' : FnScope e4' ["self", "letters", "table", "accepts"] (defScope as') := (by walk_at "3")
def cE' : He.DefD := ⟨("Machine", some "__init__"), "__init__", "Machine.__init__", defArgs as', defBody as', defScope as', [], []⟩
abbrev aO' : Stmt := inClass (top 16) 1
abbrev hN' : List Str := ["self", "letters", "table", "accepts"]
theorem gA' : FnScope hN' ["self", "letters", "table", "accepts"] (defScope aO') := (by walk_at "3")
def dJ' : He.DefD := ⟨("Machine", some "keep"), "keep", "Machine.keep", defArgs aO', defBody aO', defScope aO', [], []⟩
abbrev aw' : Stmt := inClass (top 16) 2
abbrev fG' : List Str := ["self"]
theorem eE' : FnScope fG' ["self"] (defScope aw') := (by walk_at "3")
def cM' : He.DefD := ⟨("Machine", some "letters"), "letters", "Machine.letters", defArgs aw', defBody aw', defScope aw', [], []⟩
abbrev aK' : Stmt := inClass (top 16) 3
abbrev ht' : List Str := ["self"]
theorem fZ' : FnScope ht' ["self"] (defScope aK') := (by walk_at "3")
def de' : He.DefD := ⟨("Machine", some "table"), "table", "Machine.table", defArgs aK', defBody aK', defScope aK', [], []⟩
abbrev ax' : Stmt := inClass (top 16) 4
abbrev fH' : List Str := ["self"]
theorem eF' : FnScope fH' ["self"] (defScope ax') := (by walk_at "3")
def cN' : He.DefD := ⟨("Machine", some "accepts"), "accepts", "Machine.accepts", defArgs ax', defBody ax', defScope ax', [], []⟩
abbrev aL' : Stmt := inClass (top 16) 5
abbrev hu' : List Str := ["self"]
theorem f0' : FnScope hu' ["self"] (defScope aL') := (by walk_at "3")
def df' : He.DefD := ⟨("Machine", some "parts"), "parts", "Machine.parts", defArgs aL', defBody aL', defScope aL', [], []⟩
abbrev aC' : Stmt := inClass (top 16) 6
abbrev f8' : List Str := ["self", "other"]
theorem fl' : FnScope f8' ["self", "other"] (defScope aC') := (by walk_at "3")
def cY' : He.DefD := ⟨("Machine", some "__eq__"), "__eq__", "Machine.__eq__", defArgs aC', defBody aC', defScope aC', [], []⟩
abbrev ak' : Stmt := inClass (top 17) 0
abbrev dN' : List Str := ["self", "letters", "table", "accepts"]
theorem dg' : FnScope dN' ["self", "letters", "table", "accepts"] (defScope ak') := (by walk_at "3")
def b7' : He.DefD := ⟨("RawMachine", some "__init__"), "__init__", "RawMachine.__init__", defArgs ak', defBody ak', defScope ak', [], []⟩
abbrev hA' : Stmt := top 18
abbrev B8' : List Str := ["machine", "state", "word", "letter"]
theorem qc' : FnScope B8' ["machine", "state", "word"] (defScope hA') := (by walk_at "3")
def us' : He.DefD := ⟨("led", none), "led", "led", defArgs hA', defBody hA', defScope hA', [], []⟩
abbrev d4' : Stmt := top 19
abbrev zL' : List Str := ["machine", "word"]
theorem ve' : FnScope zL' ["machine", "word"] (defScope d4') := (by walk_at "3")
def rt' : He.DefD := ⟨("says", none), "says", "says", defArgs d4', defBody d4', defScope d4', [], []⟩
abbrev bM' : Stmt := top 20
abbrev rO' : List Str := ["machine", "found", "known", "at", "state"]
theorem cv' : FnScope rO' ["machine"] (defScope bM') := (by walk_at "3")
def ii' : He.DefD := ⟨("reached", none), "reached", "reached", defArgs bM', defBody bM', defScope bM', [], []⟩
abbrev bC' : Stmt := top 21
abbrev oD' : List Str := ["keys", "numbers", "found", "item", "key"]
theorem cA' : FnScope oD' ["keys"] (defScope bC') := (by walk_at "3")
def g1' : He.DefD := ⟨("numbered", none), "numbered", "numbered", defArgs bC', defBody bC', defScope bC', [], []⟩
abbrev aB' : Stmt := top 22
abbrev cR' : List Str := ["machine", "states", "classes", "many", "keys", "state", "step"]
theorem aA' : FnScope cR' ["machine", "states"] (defScope aB') := (by walk_at "3")
def dH' : He.DefD := ⟨("alike_states", none), "alike_states", "alike_states", defArgs aB', defBody aB', defScope aB', [], []⟩
abbrev ch' : Stmt := top 23
abbrev lU' : List Str := ["machine", "states", "classes", "firsts", "state", "table", "one", "accepts", "step"]
theorem bP' : FnScope lU' ["machine"] (defScope ch') := (by walk_at "3")
def nL' : He.DefD := ⟨("least", none), "least", "least", defArgs ch', defBody ch', defScope ch', [], []⟩
abbrev be' : Stmt := top 26
abbrev dX' : List Str := ["machine", "small", "many", "start", "found", "number", "table", "here", "row", "index", "to", "accepts", "state", "told"]
theorem at' : FnScope dX' ["machine"] (defScope be') := (by walk_at "3")
def g3' : He.DefD := ⟨("backward", none), "backward", "backward", defArgs be', defBody be', defScope be', [], []⟩
abbrev bh' : Stmt := top 28
abbrev hq' : List Str := ["_law_script", "_law_cells", "_law_cell"]
theorem ds' : FnScope hq' ["_law_script"] (defScope bh') := (by walk_at "3")
def fU' : He.DefD := ⟨("_law_hand", none), "_law_hand", "_law_hand", defArgs bh', defBody bh', defScope bh', [], []⟩
abbrev bo' : Stmt := top 29
abbrev lX' : List Str := ["_law_hand_here", "_law_many", "_law_cell", "_law_digit", "_law_number"]
theorem bU' : FnScope lX' ["_law_hand_here", "_law_many"] (defScope bo') := (by walk_at "3")
def fV' : He.DefD := ⟨("_law_draw", none), "_law_draw", "_law_draw", defArgs bo', defBody bo', defScope bo', [], []⟩
abbrev aI' : Stmt := top 30
abbrev hk' : List Str := ["_law_hand_here", "_law_things", "_law_rest", "_law_found", "_law_turn"]
theorem bQ' : FnScope hk' ["_law_hand_here", "_law_things"] (defScope aI') := (by walk_at "3")
def dc' : He.DefD := ⟨("_law_shuffled", none), "_law_shuffled", "_law_shuffled", defArgs aI', defBody aI', defScope aI', [], []⟩
abbrev a5' : Stmt := top 31
abbrev em' : List Str := ["_law_hand_here", "_law_kind", "_law_size", "_law_many", "_law_rows_here", "_law_steps", "_law_turns", "_law_state", "_law_row", "_law_letter", "_law_to"]
theorem am' : FnScope em' ["_law_hand_here", "_law_kind", "_law_size", "_law_many"] (defScope a5') := (by walk_at "3")
def fT' : He.DefD := ⟨("_law_rows", none), "_law_rows", "_law_rows", defArgs a5', defBody a5', defScope a5', [], []⟩
abbrev aZ' : Stmt := top 32
abbrev fW' : List Str := ["_law_hand_here", "_law_many", "_law_one", "_law_size", "_law_other", "_law_rows_here", "_law_state", "_law_left", "_law_right", "_law_k"]
theorem aY' : FnScope fW' ["_law_hand_here", "_law_many"] (defScope aZ') := (by walk_at "3")
def eZ' : He.DefD := ⟨("_law_woven", none), "_law_woven", "_law_woven", defArgs aZ', defBody aZ', defScope aZ', [], []⟩
abbrev a0' : Stmt := top 33
abbrev fX' : List Str := ["_law_hand_here", "_law_most", "_law_states", "_law_kind", "_law_many", "_law_size", "_law_signs", "_law_letters", "_law_table", "_law_accepts", "_law_state"]
theorem aE' : FnScope fX' ["_law_hand_here", "_law_most", "_law_states"] (defScope a0') := (by walk_at "3")
def e0' : He.DefD := ⟨("_law_parts", none), "_law_parts", "_law_parts", defArgs a0', defBody a0', defScope a0', [], []⟩
abbrev aJ' : Stmt := top 34
abbrev d8' : List Str := ["_law_table", "_law_accepts", "_law_states", "_law_classes_here", "_law_state", "_law_many", "_law_turn", "_law_numbers", "_law_later", "_law_key", "_law_to"]
theorem ar' : FnScope d8' ["_law_table", "_law_accepts", "_law_states"] (defScope aJ') := (by walk_at "3")
def dI' : He.DefD := ⟨("_law_classes", none), "_law_classes", "_law_classes", defArgs aJ', defBody aJ', defScope aJ', [], []⟩
abbrev aS' : Stmt := top 35
abbrev cO' : List Str := ["_law_table", "_law_accepts", "_law_states", "_law_at", "_law_to", "_law_classes_here", "_law_numbers", "_law_order", "_law_state", "_law_rows_here", "_law_k"]
theorem ap' : FnScope cO' ["_law_table", "_law_accepts"] (defScope aS') := (by walk_at "3")
def e1' : He.DefD := ⟨("_law_least", none), "_law_least", "_law_least", defArgs aS', defBody aS', defScope aS', [], []⟩
abbrev bn' : Stmt := top 36
abbrev lW' : List Str := ["_law_hand_here", "_law_letters", "_law_many", "_law_word_here", "_law_turn"]
theorem cI' : FnScope lW' ["_law_hand_here", "_law_letters", "_law_many"] (defScope bn') := (by walk_at "3")
def fS' : He.DefD := ⟨("_law_word", none), "_law_word", "_law_word", defArgs bn', defBody bn', defScope bn', [], []⟩
abbrev av' : Stmt := top 37
abbrev fF' : List Str := ["_law_found", "_law_letters", "_law_rows_here", "_law_yes"]
theorem eD' : FnScope fF' ["_law_found", "_law_letters", "_law_rows_here", "_law_yes"] (defScope av') := (by walk_at "3")
def cL' : He.DefD := ⟨("_law_is_machine", none), "_law_is_machine", "_law_is_machine", defArgs av', defBody av', defScope av', [], []⟩
abbrev aF' : Stmt := top 38
abbrev cu' : List Str := ["_law_table", "_law_accepts", "_law_many", "_law_order", "_law_number", "_law_rows_here", "_law_at", "_law_row", "_law_k", "_law_flags", "_law_state"]
theorem ao' : FnScope cu' ["_law_table", "_law_accepts", "_law_many"] (defScope aF') := (by walk_at "3")
def d6' : He.DefD := ⟨("_law_turned", none), "_law_turned", "_law_turned", defArgs aF', defBody aF', defScope aF', [], []⟩
abbrev hB' : Stmt := top 39
abbrev B9' : List Str := ["_law_script", "_law_hand_here", "_law_letters", "_law_table", "_law_accepts", "_law_machine", "_law_rows_here", "_law_yes", "_law_found", "_law_turn", "_law_word_here"]
theorem cU' : FnScope B9' ["_law_script"] (defScope hB') := (by walk_at "3")
def ut' : He.DefD := ⟨("law", none), "law", "law", defArgs hB', defBody hB', defScope hB', [], []⟩
def fns : List He.DefD := [eW', dF', dG', fR', ij', eX', eY', g2', cE', dJ', cM', de', cN', df', cY', b7', us', rt', ii', g1', dH', nL', g3', fU', fV', dc', fT', eZ', e0', dI', e1', fS', cL', d6', ut']
def tbs : List He.Tab := []
def fas : List He.Fa := [.glo "is_integer", .glo "is_string_of", .glo "is_ascending", .glo "is_choice", .glo "is_word", .glo "check_word", .glo "are_states", .glo "is_table", .glo "led", .glo "says", .glo "reached", .glo "numbered", .glo "alike_states", .glo "least", .glo "backward", .glo "_law_hand", .glo "_law_draw", .glo "_law_shuffled", .glo "_law_rows", .glo "_law_woven", .glo "_law_parts", .glo "_law_classes", .glo "_law_least", .glo "_law_word", .glo "_law_is_machine", .glo "_law_turned", .glo "law", .glo "SaidError", .exc "SaidError", .glo "NoWord", .exc "NoWord", .glo "NoMachine", .glo "TooMany", .glo "Machine", .glo "RawMachine", .str "SMALL" "abcdefghijklmnopqrstuvwxyz", .int "MOST_STATES" (200), .free "zip", .free "len", .free "tuple", .free "list", .free "range", .free "isinstance", .free "int", .free "str", .free "max", .free "sorted", .free "abs", .free "repr", .free "bool", .free "min", .free "enumerate", .cls "Machine", .noat "Machine" "kept_letters", .noat "Machine" "kept_table", .noat "Machine" "kept_accepts", .noat "Machine" "kept_least", .noat "Machine" "kept_field", .noat "Machine" "kept_lots", .noat "Machine" "kept_more", .mkr "Machine", .cls "RawMachine", .noat "RawMachine" "kept_letters", .noat "RawMachine" "kept_table", .noat "RawMachine" "kept_accepts", .noat "RawMachine" "kept_least", .noat "RawMachine" "kept_field", .noat "RawMachine" "kept_lots", .noat "RawMachine" "kept_more", .mkr "RawMachine", .meth "Machine" "keep", .meth "RawMachine" "keep", .meth "Machine" "letters", .meth "RawMachine" "letters", .meth "Machine" "table", .meth "RawMachine" "table", .meth "Machine" "accepts", .meth "RawMachine" "accepts", .meth "Machine" "parts", .meth "RawMachine" "parts"]
def exs : List (PySem.W.Frag -> Bool) := [fun K => (decide (He.ma K (He.ga K "RawMachine") "keep" = He.ma K (He.ga K "Machine") "keep")), fun K => (decide (He.ma K (He.ga K "RawMachine") "letters" = He.ma K (He.ga K "Machine") "letters")), fun K => (decide (He.ma K (He.ga K "RawMachine") "table" = He.ma K (He.ga K "Machine") "table")), fun K => (decide (He.ma K (He.ga K "RawMachine") "accepts" = He.ma K (He.ga K "Machine") "accepts")), fun K => (decide (He.ma K (He.ga K "RawMachine") "parts" = He.ma K (He.ga K "Machine") "parts")), fun K => Cw' K [("Machine", "Machine"), ("RawMachine", "Machine"), ("RawMachine", "RawMachine")] (He.ma K (He.ga K "Machine") "__eq__"), fun K => Ct' K [("Machine", "Machine"), ("RawMachine", "Machine"), ("RawMachine", "RawMachine")] (He.ma K (He.ga K "Machine") "__eq__"), fun K => vS' K M.isT "Machine"]
def exK (K : PySem.W.Frag) : Bool := exs.all fun f => f K
end S
set_option maxHeartbeats 0
namespace S
open PySem PySem.Spec PyProof.Rows L2
def yj' : List Str := ["SaidError", "NoWord", "NoMachine", "TooMany", "SMALL", "is_integer", "is_string_of", "is_ascending", "is_choice", "is_word", "check_word", "are_states", "is_table", "Machine", "RawMachine", "led", "says", "reached", "numbered", "alike_states", "least", "MOST_STATES", "backward", "_law_hand"]
def yi' : List Str := ["_law_draw", "_law_shuffled", "_law_rows", "_law_woven", "_law_parts", "_law_classes", "_law_least", "_law_word", "_law_is_machine", "_law_turned"]
def loose : List Str := yj' ++ yi'
abbrev Rw : PySem.W.OpenRow := PySem.W.OpenLaw.row PySem.Challenge.rw_saidacross_k80_words_from_behind
abbrev hk : PySem.W.Hook := He.hookX 4 fas fns tbs [] exK
def ob (s : PySem.W.SharedT) : He.AlX := He.obsX 4 fas fns tbs [] exK (HandSHeadRun.getT s)
theorem A1' (s : PySem.W.SharedT) : ob s = hk.obs s.abs := He.obsX_eq (HandSHeadRun.getT_eq s)
theorem x2' {α β γ : Type} {x : Option α} {f : α -> β} {g : α -> γ} {b : β} {c : γ} (h1 : x.map f = some b) (h2 : x.map g = some c) : x.map (fun s => (f s, g s)) = some (b, c) := by
  cases x with
  | none => cases h1
  | some a =>
    obtain rfl := Option.some.inj h1
    obtain rfl := Option.some.inj h2
    rfl
section
open PySem.W HandSHeadRun
theorem CR' (w : World) (os : OsState) : (endF (stepQ (denQ tabQ) Rw.prog w) 2800 Rw.prog w os).map (fun s => looksF Rw.prog (boot_heap w.params) s.abs) = some true := by kernel_rfl
theorem CQ' (w : World) (os : OsState) : (endF (stepQ (denQ tabQ) Rw.prog w) 2800 Rw.prog w os).map (fun s => seenQ (PySem.W.view Rw.prog [39]) loose (importedModules Rw.prog.main.body) (fun s => xlAt (PySem.W.view Rw.prog [39]) [] s && recOk Rw.toRowW.records s) s.abs) = some (openGood (PySem.W.view Rw.prog [39]) loose) := by kernel_rfl
theorem CP' (w : World) (os : OsState) : (endF (stepQ (denQ tabQ) Rw.prog w) 2800 Rw.prog w os).map (fun s => ob s) = some (hk.val w) := by kernel_rfl
end
theorem run (w : World) : HandSHeadRun.RunEq Rw (PySem.W.view Rw.prog [39]) hk ob 2800 loose w := fun os => x2' (CR' w os) (x2' (CQ' w os) (CP' w os))
end S
set_option maxHeartbeats 4000000
namespace S
open PySem PySem.Spec PyProof.Rows L2
abbrev St := L2.St
section
variable {X : Cx}
def oG' (z : Str) (n : Nat) : Str := ⟨((List.replicate n z.cps.toList).flatten).toArray⟩
theorem kl' : ∀ (l : List (Array Nat)) (a : Array Nat), l.foldl (· ++ ·) a = (a.toList ++ (l.map Array.toList).flatten).toArray
  | [], a => by simp
  | b :: r, a => by
    rw [List.foldl_cons, kl' r]
    simp
theorem qm' (z : Str) (n : Nat) : (⟨(List.replicate n z.cps).foldl (· ++ ·) #[]⟩ : Str) = oG' z n := by
  unfold oG'
  rw [kl']
  simp
theorem sq' (z : Str) : oG' z 1 = z := by
  obtain ⟨c⟩ := z
  simp [oG']
theorem ql' (z : Str) : oG' z 0 = Str.empty := by
  simp [oG']
  rfl
theorem n6' (z : Str) (h : z.length = 0) (n : Nat) : oG' z n = z := by
  obtain ⟨c⟩ := z
  have e : c.toList = [] := by
    have h1 : c.size = 0 := h
    exact List.eq_nil_of_length_eq_zero (by simpa using h1)
  have e2 : c = #[] := by simpa using congrArg List.toArray e
  subst e2
  simp [oG']
theorem lb' (z : Str) (n : Nat) : (oG' z n).length = n * z.length := by
  show ((List.replicate n z.cps.toList).flatten).toArray.size = _
  rw [List.size_toArray, List.length_flatten]
  simp
  rfl
def t6' : R2 := fun x y H Q => ∃ z i, x = .str z /\ y = .int i /\ i < 2 ^ 62 /\ -(2 ^ 62) <= i /\ z.length * i.toNat <= sizeLine /\ Q (.str (oG' z i.toNat)) H
theorem sI' : OpR X (binaryOp .Mult) t6' := by
  intro pins s σ H x y v u Q I rx ry h
  obtain ⟨z, i, rfl, rfl, h1, h2, h3, q⟩ := h
  obtain ⟨t, rfl⟩ := rx
  obtain ⟨t', rfl⟩ := ry
  have h63 : (decide (i < -(2 ^ 63 : Int)) || decide (i >= 2 ^ 63)) = false := by
    rw [decide_eq_false (by omega), decide_eq_false (by omega)]; rfl
  have hsz : (sizeLine : Nat) < 2 ^ 62 := by rw [sizeLine_eq]; decide
  refine PySem.P.mul_str h63 (fun hn hz => ?_) (fun hn hz => ?_) ?_
  . intro hg
    have hpos : 0 < i := by omega
    have e : (i.toNat : Int) = i := by omega
    have h4 : (z.length : Int) * i <= sizeLine := by
      rw [<- e]; exact_mod_cast h3
    have h5 : (2 ^ 63 - 1) / i < (z.length : Int) := hg
    have h6 : (2 ^ 63 - 1 : Int) < z.length * i := by
      have := Int.lt_mul_of_ediv_lt hpos h5
      rw [Int.mul_comm] at this
      first
        | exact this
        | (rw [Int.mul_comm]; exact this)
    omega
  . exact decide_eq_false (by omega)
  . by_cases hn : i < 1
    . rw [if_pos hn]
      have e : i.toNat = 0 := by omega
      rw [e, ql'] at q
      exact ⟨by decide, .str Str.empty, H, I.tok _, ⟨_, rfl⟩, q⟩
    . rw [if_neg hn]
      by_cases hz : (i == 1 || z.length == 0) = true
      . rw [if_pos hz]
        have e : oG' z i.toNat = z := by
          rcases Bool.or_eq_true_iff.mp hz with h | h
          . have h' : i = 1 := eq_of_beq h
            rw [h']; exact sq' z
          . exact n6' z (eq_of_beq h) _
        rw [e] at q
        exact ⟨.str z, H, I, ⟨_, rfl⟩, q⟩
      . rw [if_neg hz, qm']
        exact ⟨by rw [lb', Nat.mul_comm]; omega, .str _, H, I.tok _, ⟨_, rfl⟩, q⟩
def xM' : R2 := fun x y H Q => rI CMul (fun i j => .int (i * j)) x y H Q \/ t6' x y H Q \/ rRep x y H Q
theorem vx' : OpR X (binaryOp .Mult) xM' := op_mul.or (sI'.or op_rep)
def xP' (f : List Nat -> List Nat -> Bool) : R2 := fun x y H Q => ∃ i j, x = .str i /\ y = .str j /\ Q (.bl (f i.cps.toList j.cps.toList)) H
def t8' (p : Int -> Int -> Bool) (f : List Nat -> List Nat -> Bool) : R2 := fun x y H Q => rI0 (fun i j => .bl (p i j)) x y H Q \/ xP' f x y H Q
theorem gJ' : OpR X (compareOp .Lt) (t8' (fun i j => decide (i < j)) fun a b => decide (a < b)) := op_lt.or (r' := xP' fun a b => decide (a < b)) op_lt_str
theorem nl' : OpR X (compareOp .LtE) (t8' (fun i j => decide (i <= j)) fun a b => !decide (b < a)) := op_le.or (r' := xP' fun a b => !decide (b < a)) op_le_str
theorem nm' : OpR X (compareOp .Gt) (t8' (fun i j => decide (j < i)) fun a b => decide (b < a)) := op_gt.or (r' := xP' fun a b => decide (b < a)) op_gt_str
theorem nn' : OpR X (compareOp .GtE) (t8' (fun i j => decide (j <= i)) fun a b => !decide (a < b)) := op_ge.or (r' := xP' fun a b => !decide (a < b)) op_ge_str
def xU' (K : PySem.W.Frag) : R2 := fun x y H Q => rI0 (fun i j => .int (i + j)) x y H Q \/ (∃ i j, x = .str i /\ y = .str j /\ i.length + j.length <= sizeLine /\ Q (.str (i ++ j)) H) \/ rCat x y H Q \/ rCatA K x y H Q
theorem a9' : OpR X (binaryOp .Add) (xU' X.K) := op_add.or (op_add_str.or (op_cat.or op_catA))
def AP' (K : PySem.W.Frag) : R2 := fun x y H Q => rEq x y H Q \/ rEqD K x y H Q
theorem cm' (hu : X.A.units + 64 < cLine) : OpR X (compareOp .Eq) (AP' X.K) := op_eq.or (op_eqD hu)
def Cg' (K : PySem.W.Frag) : R2 := fun x y H Q => rNe x y H Q \/ rNeD K x y H Q
theorem ub' (hu : X.A.units + 64 < cLine) : OpR X (compareOp .NotEq) (Cg' X.K) := op_ne.or (op_neD hu)
def Cj' : R2 := fun x y H Q => ∃ (c : Nat) (z : Str), x = .str ⟨#[c]⟩ /\ y = .str z /\ Q (.bl (decide (c ∈ z.cps.toList))) H
def qs' : R2 := fun x y H Q => ∃ (c : Nat) (z : Str), x = .str ⟨#[c]⟩ /\ y = .str z /\ Q (.bl (!decide (c ∈ z.cps.toList))) H
def xT' : R2 := fun x y H Q => ∃ i j, x = .str i /\ y = .str j /\ Q (.bl (!(Builtin.Str.occurrences j i 0 j.length 1).isEmpty)) H
def ne' : R2 := fun x y H Q => ∃ i j, x = .str i /\ y = .str j /\ Q (.bl (!(!(Builtin.Str.occurrences j i 0 j.length 1).isEmpty))) H
def zT' (K : PySem.W.Frag) : R2 := fun x y H Q => Cj' x y H Q \/ rIn K false x y H Q \/ xT' x y H Q
def iD' (K : PySem.W.Frag) : R2 := fun x y H Q => qs' x y H Q \/ rIn K true x y H Q \/ ne' x y H Q
theorem gK' : OpR X (compareOp .In) (zT' X.K) := OpR.or (r := Cj') op_in_sign (op_in_seq.or (r' := xT') op_in_str)
theorem jZ' : OpR X (compareOp .NotIn) (iD' X.K) := OpR.or (r := qs') op_notIn_sign (op_notIn_seq.or (r' := ne') op_notIn_str)
def Cf' (K : PySem.W.Frag) : V -> Option Int -> Option Int -> Hp -> VK -> Prop := fun x lo hi H Q => rSlL K x lo hi H Q \/ rSlS x lo hi H Q \/ rSlA K x lo hi H Q
theorem AB' : SlR X (Cf' X.K) := sl_list.or (sl_str.or sl_tupA)
def xQ' (K : PySem.W.Frag) : List V -> Hp -> VK -> Prop := fun xs H Q => (∃ z, xs = [.str z] /\ z.length <= sizeLine /\ Q (.int z.length) H) \/ (∃ p ys, xs = [.ref p] /\ (SqL K H p ys \/ SqT K H p ys) /\ Q (.int ys.length) H) \/ (∃ a kvs, xs = [V.ref a] /\ Rd H a (.dK kvs) /\ Q (.int kvs.length) H)
theorem rC' : CallR X (.builtin "len") (xQ' X.K) := call_len_str.or (call_len_seq.or fun pins s σ H vs us Q I r h => by
  obtain ⟨a, kvs, rfl, e, q⟩ := h
  cases r with
  | cons ra rn =>
    cases rn
    cases (show _ = Value.ref a from ra)
    exact d_len I e fun t s' I' => ⟨.int kvs.length, H, I', ⟨t, rfl⟩, q⟩)
def t7' (K : PySem.W.Frag) : List V -> Hp -> VK -> Prop := fun xs H Q => (∃ p ys, xs = [.ref p] /\ (SqL K H p ys \/ SqT K H p ys) /\ ∀ l, H l = none -> Q (.ref l) (upd H l (.lst ys)))
theorem ox' : CallR X (.type "list") (t7' X.K) := call_list_of
def qq' (K : PySem.W.Frag) : List V -> Hp -> VK -> Prop := fun xs H Q => ∃ p ys, xs = [.ref p] /\ ((SqL K H p ys /\ ∀ l, H l = none -> Q (.ref l) (upd H l (.tup ys))) \/ (SqT K H p ys /\ Q (.ref p) H))
theorem lN' : CallR X (.type "tuple") (qq' X.K) := call_tuple_of
def xS' : List V -> Hp -> VK -> Prop := fun xs H Q => (∃ i, xs = [.int i] /\ Q (.int i) H) \/ ∃ k, xs = [.bl k] /\ Q (.int (if k then 1 else 0)) H
theorem a6' : CallR X (.type "int") xS' := call_int1
def xV' : List V -> Hp -> VK -> Prop := fun xs H Q => ∃ i, xs = [.int i] /\ Q (.int (if i < 0 then -i else i)) H
theorem rD' : CallR X (.builtin "abs") xV' := call_abs
def xO' : List V -> Hp -> VK -> Prop := fun xs H Q => ∃ i j, xs = [.int i, .int j] /\ Q (.int (if j > i then j else i)) H
theorem im' (hc : X.calm = true) : CallR X (.builtin "max") xO' := call_max2 hc
def xN' : List V -> Hp -> VK -> Prop := fun xs H Q => ∃ i j, xs = [.int i, .int j] /\ Q (.int (if j < i then j else i)) H
theorem fB' (hc : X.calm = true) : CallR X (.builtin "min") xN' := call_min2 hc
def Ci' : R2 := fun x y H Q => y = .non /\ Q (.bl (decide (x = .non))) H
theorem vz' : OpR X (compareOp .Is) Ci' := op_isN
theorem vt' {x z : Str} {pos : Pos} (hg : Gl X x) (h : ∃ t, X.mg x = some (.str z t)) (hd : (x == ("__debug__" : Str)) = false := by decide) : PE X (.Name x pos) (tC (.str z)) := by
  obtain ⟨t, e⟩ := h
  exact pe_glob hg e ⟨t, rfl⟩ hd
theorem vu' {x : Str} {i : Int} {pos : Pos} (hg : Gl X x) (h : ∃ t, X.mg x = some (.int i t)) (hd : (x == ("__debug__" : Str)) = false := by decide) : PE X (.Name x pos) (tC (.int i)) := by
  obtain ⟨t, e⟩ := h
  exact pe_glob hg e ⟨t, rfl⟩ hd
theorem qF' {x : Str} {a : Addr} {pos : Pos} (hg : Gl X x) (h : X.mg x = some (.ref a)) (hd : (x == ("__debug__" : Str)) = false := by decide) : PE X (.Name x pos) (tC (.ref a)) := pe_glob hg h rfl hd
theorem sz' {C : Addr} {bmB : List Value} {B newId initId : String} {x : Str} {p pos : Pos} (F : ExcBaseFacts B newId initId bmB) (q : PySem.W.excIn X.K C bmB newId = true) (gC : X.mg x = some (.ref C))
    (kC : PySem.W.keepIn X.K (.ref C) = true) (r : Raises X (.ref C)) (hg : Gl X x) (hdb : (x == ("__debug__" : Str)) = false := by decide) : PMk X (.Call (.Name x p) [] [] pos) (fun _ H Q => Q (.ref C) none H) := by
  intro pins s σ H Q I h
  refine wpAny_Call_Name_kw (ld_glob I hg gC ?_ hdb)
  refine PySem.W.callWith_K0 I.kIn kC ?_
  show wpAny _ _ (call (.ref C) []) _ _ _
  obtain ⟨bm, N, nm, qn, bs, hdct, sn, sub, ab, col, dd, k0, k1, k2, k3, k5, mN, hC, hN, hni, T⟩ := exc_obj I.kIn q
  refine wpAny_call_exc_subT F T hC hN hni (fun h' e hm => ?_) (Nat.zero_le _)
  exact mk_of I hm r h (I.hok.gone hm.new)
end
section
variable {P : Program} {w : World} {K : PySem.W.Frag} {mg : Str -> Option Value} {base : Heap}
section
variable {X : Cx} {k : Nat} {x : Str} {ps : List Str} {sp : Sp} {p pos : Pos} {e : Expr} {es : List Expr} {t : TA} {W : WX}
end
end
end S
namespace S
open PySem PySem.Spec PyProof.Rows L2
section
variable {K : PySem.W.Frag} {D : Ends} {σ : St} {H H' : Hp} {Q : VK} {t u : TS} {te ta tb tc : TE} {tt tu : TT} {g : TG} {tl : TA} {v x y : V} {i j : Int} {a p : Addr} {xs ys : List V} {z z' : Str} {r : R2}
theorem An' {n : String} {tv : Value} {b : Bool} (ty : TyX K H x tv) (e : PySem.W.kitOne K tv (.type n) = some b) (h : Q (.bl b) H) : rIsi K [x, .ty n] H Q := ⟨x, .ty n, tv, _, b, rfl, .ty n, ty, e, h⟩
theorem Same.upd {H : Hp} {p : Addr} {o : HO} (h : H p = none) : Same H (upd H p o) := fun b u e => by
  rw [upd_ne (ne_of_none e h)]; exact e
theorem Same.app (s : Same H H') {o : HO} (h : H p = some o) : H' p = some o := s p o h
end
theorem FnOk.to0 {P : Program} {w : World} {K : PySem.W.Frag} {mg : Str -> Option Value} {base : Heap} {k : Nat} {f : Addr} {fd : FuncData} {ps : List Str} {sp : Sp} (F : FnOk P w K mg base (L2.CX P w) k f fd ps sp) :
    FnOk P w K mg base CX0 k f fd ps (fun vs H Q _ => sp vs H Q E0) :=
  ⟨fun vs H Q _ h => F.len vs H Q E0 h, fun A outer s H args us vs Q _ hr he hb hv hs => codeAny_mono (F.run A outer s H args us vs Q E0 hr he hb hv hs) fun r s' hq => by
    cases r with
    | error e =>
      obtain ⟨_, _, _, _, _, _, _, _, _, _, _, _, z⟩ := hq
      exact z.elim
    | ok fl =>
      cases fl with
      | ret u => exact hq
      | next => exact hq
      | brk => exact hq
      | cont => exact hq⟩
end S
namespace S
open PySem PySem.Spec PyProof.Rows L2
section
variable {α : Type} {as : List α} {J : It} {G : Hp -> Prop} {Y : α -> Hp -> V -> Hp -> Prop} {K : PySem.W.Frag} {D : Ends} {σ : St} {H : Hp} {g : TG} {tb : TS} {tt : TT} {te : TE} {a : Addr}
def Df' (J : It) (g : TG) (tb : TS) (D : Ends) (σ : St) (H1 : Hp) : Prop := ∃ W : Nat -> Nat -> St -> Hp -> Prop, (∃ m, W 0 m σ H1) /\ ∀ i m σ H, W i m σ H →
  (J.stop i H /\ D.nx σ H) \/ (J.go i H /\ ∃ N : St -> Hp -> Prop, (∀ σ' H', N σ' H' -> ∃ m', m' < m /\ W (i + 1) m' σ' H') /\ ∀ x H', J.yld i H x H' -> g x σ H' fun σ2 H2 => tb { D with nx := N, ct := N, bk := D.nx } σ2 H2)
theorem cQ' {lo : Int} {n : Nat} (Pv : Nat -> St -> Hp -> Prop) (h0 : Pv 0 σ H)
    (hs : ∀ i σ H, i < n -> Pv i σ H -> g (.int (lo + (i : Nat))) σ H fun σ2 H2 => tb { D with nx := Pv (i + 1), ct := Pv (i + 1), bk := D.nx } σ2 H2) (hd : ∀ σ H, Pv n σ H -> D.nx σ H) : Df' (Itr lo n) g tb D σ H := for_range Pv h0 hs hd
end
section
variable {H H' : Hp} {p q : Addr} {o : HO}
theorem seqT {K : PySem.W.Frag} {a : Addr} {xs : List V} (e : Same H H') (h : SqT K H a xs) : SqT K H' a xs := by
  rcases h with (h | ⟨o, h⟩) | h
  . exact .inl (.inl (e _ _ h))
  . exact .inl (.inr ⟨o, e _ _ h⟩)
  . exact .inr h
end
mutual
theorem Dp.same {K : PySem.W.Frag} {H H' : Hp} (s : Same H H') : ∀ {d : PyData} {v : V}, Dp K H v d -> Dp K H' v d
  | _, _, .non => .non
  | _, _, .bl b => .bl b
  | _, _, .int i => .int i
  | _, _, .str x => .str x
  | _, _, .lst h r => .lst (Same.seq s h) (DpAll.same s r)
  | _, _, .tup h r => .tup (seqT s h) (DpAll.same s r)
theorem DpAll.same {K : PySem.W.Frag} {H H' : Hp} (s : Same H H') : ∀ {ds : List PyData} {vs : List V}, DpAll K H vs ds -> DpAll K H' vs ds
  | _, _, .nil => .nil
  | _, _, .cons h r => .cons (Dp.same s h) (DpAll.same s r)
end
end S
namespace S
open PySem PySem.Spec PyProof.Rows L2
def Cb' (c a : Addr) : HO := .ext fun h => ∃ (its : List Value) (n : Nat) (i s t k : Int), Vals [.ref c, .int i, .int s, .int t, .int k] its /\ h.get? a = some { cls := .type "list", data := .seq its.toArray n } /\ 0 <= i
def c0' (H : Hp) (a : Addr) : Prop := ∃ (c : Addr) (ns : List Int), H a = some (Cb' c a) /\ H c = some (.lst (ns.map V.int))
theorem c0'.same {H H' : Hp} {a : Addr} (s : Same H H') (h : c0' H a) : c0' H' a := by
  obtain ⟨c, ns, h1, h2⟩ := h
  exact ⟨c, ns, s _ _ h1, s _ _ h2⟩
section
variable {P : Program} {w : World} {H H' : Hp} {h h' : Heap} {a c : Addr} {o o' : HO} {fs : List Addr}
end
section
variable {P : Program} {w : World} {K : PySem.W.Frag} {mg : Str -> Option Value} {base : Heap} {k : Nat} {f : Addr} {fd : FuncData} {ps : List Str}
end
end S
namespace S
open PySem PySem.Spec PyProof.Rows L2
def Sh (n : Nat) (d : PyData) : Prop := d.canLay0 = true /\ d.depth <= n
theorem Sh.shaped {n : Nat} {d : PyData} (h : Sh n d) (hn : n <= 64) : SeqAt.shaped d = true := by
  unfold SeqAt.shaped
  rw [h.1, Bool.true_and]
  exact decide_eq_true (Nat.le_trans h.2 hn)
theorem Sh.mono {n m : Nat} {d : PyData} (h : Sh n d) (e : n <= m) : Sh m d := ⟨h.1, Nat.le_trans h.2 e⟩
theorem Sh.int {n : Nat} {i : Int} : Sh n (.int i) := ⟨rfl, Nat.zero_le _⟩
theorem Sh.bool {n : Nat} {b : Bool} : Sh n (.bool b) := ⟨rfl, Nat.zero_le _⟩
theorem Sh.none {n : Nat} : Sh n .none := ⟨rfl, Nat.zero_le _⟩
theorem Sh.str {n : Nat} {z : Str} (h : ∀ c ∈ z.cps.toList, c < 128) : Sh n (.str z) := by
  refine ⟨?_, Nat.zero_le _⟩
  show PyData.strOk z = true
  unfold PyData.strOk
  rw [Array.all_eq_true']
  intro c hc
  have := h c (by simpa using hc)
  simp only [decide_eq_true_eq]
  omega
theorem Sh.all {n : Nat} : ∀ {ds : List PyData}, (∀ d ∈ ds, Sh n d) -> PyData.canLayAll0 ds = true /\ PyData.depthAll ds <= n
  | [], _ => ⟨rfl, Nat.zero_le _⟩
  | d :: r, h => by
    have h1 := h d (by simp)
    have h2 := Sh.all (ds := r) fun x hx => h x (by simp [hx])
    refine ⟨?_, ?_⟩
    . show (d.canLay0 && PyData.canLayAll0 r) = true
      rw [h1.1, h2.1]
      rfl
    . show max d.depth (PyData.depthAll r) <= n
      exact Nat.max_le.mpr ⟨h1.2, h2.2⟩
theorem Sh.list {n : Nat} {ds : List PyData} (h : ∀ d ∈ ds, Sh n d) : Sh (n + 1) (.list ds) := ⟨(Sh.all h).1, Nat.succ_le_succ (Sh.all h).2⟩
theorem Sh.tuple {n : Nat} {ds : List PyData} (h : ∀ d ∈ ds, Sh n d) : Sh (n + 1) (.tuple ds) := ⟨(Sh.all h).1, Nat.succ_le_succ (Sh.all h).2⟩
section
variable {K : PySem.W.Frag} {H H' : Hp} {v : V} {vs : List V} {ds es : List PyData} {p : Addr} {xs : List V}
theorem DpAll.append : ∀ {vs ws : List V} {ds es : List PyData}, DpAll K H vs ds -> DpAll K H ws es -> DpAll K H (vs ++ ws) (ds ++ es)
  | _, _, _, _, .nil, h => h
  | _, _, _, _, .cons a r, h => .cons a (DpAll.append r h)
theorem DpAll.length : ∀ {vs : List V} {ds : List PyData}, DpAll K H vs ds -> vs.length = ds.length
  | _, _, .nil => rfl
  | _, _, .cons _ r => congrArg (· + 1) (DpAll.length r)
theorem DpAll.split : ∀ {a b : List V} {ds : List PyData}, DpAll K H (a ++ b) ds -> ∃ d e, ds = d ++ e /\ DpAll K H a d /\ DpAll K H b e
  | [], b, ds, h => ⟨[], ds, rfl, .nil, h⟩
  | x :: a, b, _, .cons h r => by
    obtain ⟨d, e, rfl, h1, h2⟩ := DpAll.split (a := a) r
    exact ⟨_ :: d, e, rfl, .cons h h1, h2⟩
theorem DpAll.get : ∀ {vs : List V} {ds : List PyData} {i : Nat} {d : PyData}, DpAll K H vs ds -> ds[i]? = some d -> ∃ v, vs[i]? = some v /\ Dp K H v d
  | _, _, _, _, .nil, e => by cases e
  | _, _, 0, _, .cons h _, e => ⟨_, rfl, by rw [<- Option.some.inj e]; exact h⟩
  | _, _, i + 1, _, .cons _ r, e => DpAll.get (i := i) r e
theorem Dp.int_inv {i : Int} (h : Dp K H v (.int i)) : v = .int i := by cases h; rfl
theorem Dp.str_inv {z : Str} (h : Dp K H v (.str z)) : v = .str z := by cases h; rfl
theorem Dp.tup_inv (h : Dp K H v (.tuple ds)) : ∃ p xs, v = .ref p /\ SqT K H p xs /\ DpAll K H xs ds := by
  cases h with
  | tup h1 h2 => exact ⟨_, _, rfl, h1, h2⟩
theorem Dp.lst_inv (h : Dp K H v (.list ds)) : ∃ p xs, v = .ref p /\ SqL K H p xs /\ DpAll K H xs ds := by
  cases h with
  | lst h1 h2 => exact ⟨_, _, rfl, h1, h2⟩
theorem tyT (h : SqT K H p xs) : TyX K H (.ref p) (.type "tuple") := by
  rcases h with (h | ⟨o, h⟩) | ⟨o, its, n, h, c, _⟩
  . exact .base (.tup h)
  . exact .fTuple h
  . exact .kTuple h c
theorem tyL (h : SqL K H p xs) : TyX K H (.ref p) (.type "list") := by
  rcases h with (h | ⟨o, h⟩) | ⟨o, its, n, h, c, _⟩
  . exact .base (.lst h)
  . exact .base (.frz h)
  . exact .kList h c
def tyn : PyData -> String
  | .none => "NoneType" | .bool _ => "bool" | .int _ => "int" | .str _ => "str" | .list _ => "list" | .tuple _ => "tuple" | .dict _ => "dict"
theorem _root_.L2.Dp.ty {d : PyData} (h : Dp K H v d) : TyX K H v (.type (tyn d)) := by
  cases h with
  | non => exact .base .non
  | bl b => exact .base (.bl b)
  | int i => exact .base (.int i)
  | str z => exact .base (.str z)
  | lst h1 _ => exact tyL h1
  | tup h1 _ => exact tyT h1
variable {σ : St} {R : St -> Hp -> Prop}
end
theorem it' {a b : Str} (h : a.cps.toList = b.cps.toList) : a = b := by
  obtain ⟨a⟩ := a
  obtain ⟨b⟩ := b
  have : a = b := by simpa using congrArg List.toArray h
  rw [this]
theorem tt' (a b : Str) : (a ++ b).cps.toList = a.cps.toList ++ b.cps.toList := by
  show (a.cps ++ b.cps).toList = _
  simp
theorem sS' (a : Str) : a.length = a.cps.toList.length := by
  show a.cps.size = _
  simp
section
variable {α β : Type}
def Cy' (xs : List α) (lo hi : Option Int) : List α := (xs.drop (HT.sIx xs.length 0 lo)).take (HT.sIx xs.length xs.length hi - HT.sIx xs.length 0 lo)
theorem zz' (z : Str) (lo hi : Option Int) : (cutS z lo hi).cps.toList = Cy' z.cps.toList lo hi := by
  unfold cutS Cy'
  rw [sS']
end
end S
namespace S
open PySem PySem.Spec PyProof.Rows L2
section
variable {K : PySem.W.Frag} {H : Hp} {J : It} {g : TG} {tt : TT} {te : TE} {vs : List Nat} {σ : St} {Q : VK} {G : Hp -> Prop}
theorem DpAll.at {H : Hp} : ∀ {d r : List V} {x : V} {ds : List PyData}, DpAll K H (d ++ x :: r) ds -> ∃ e, ds[d.length]? = some e /\ Dp K H x e /\ ds.take (d.length + 1) = ds.take d.length ++ [e] := by
  intro d r x ds h
  obtain ⟨a, b, rfl, h1, h2⟩ := DpAll.split h
  cases h2 with
  | cons h3 h4 =>
    have hl := DpAll.length h1
    rename_i e es
    have e1 : (a ++ e :: es)[d.length]? = some e := by rw [List.getElem?_append_right (by omega), hl, Nat.sub_self]; rfl
    refine ⟨_, e1, h3, ?_⟩
    rw [List.take_add_one, e1]
    rfl
theorem _root_.L2.Dp.t2 {v : V} {d e : PyData} (h : Dp K H v (.tuple [d, e])) : ∃ p x y, v = .ref p /\ SqT K H p [x, y] /\ Dp K H x d /\ Dp K H y e := by
  obtain ⟨p, xs, rfl, q, a⟩ := Dp.tup_inv h
  cases a with
  | cons a1 a => cases a with
    | cons a2 a => cases a; exact ⟨p, _, _, rfl, q, a1, a2⟩
end
end S
namespace S
open PySem PySem.Spec PyProof.Rows L2
def ItP (xs ys : Nat -> Option V) (n : Nat) : It :=
  ⟨fun i _ => i < n, fun i H v H' => ∃ T x y, v = .ref T /\ H T = none /\ H' = upd H T (.tup [x, y]) /\ xs i = some x /\ ys i = some y, fun i _ => i = n⟩
theorem jK' {P : Program} {w : World} {K : PySem.W.Frag} {tg : Expr} {z : Addr} {fp wr : List Addr} {n : Nat} {P1 P2 : Nat -> Value -> Prop} {St : Nat -> Heap -> Prop} {xs ys : Nat -> Option V}
    (W : ∀ A : Around, A.handled = none -> GoesN P w A tg z fp wr n (fun i h₀ v h => ∃ T x y, v = .ref T /\ h₀.objs.size <= T /\ P1 i x /\ P2 i y /\ h.IsTuple T #[x, y]) St) (hz : z ∈ fp) (sf : ∀ (A : Around) (i : Nat) (s : Shared) (Q : Value -> Shared -> Prop) (E : Value -> Shared -> Prop), St i s.heap -> Q (.ref z) s -> wpAny (model P w) A (pyIter (.ref z)) Q E s)
    (ob : ∀ i h, St i h -> ∀ b ∈ fp, ∃ o, h.get? b = some o /\ ∀ v, o.data ≠ .cell v) (r1 : ∀ i u, i < n -> P1 i u -> ∃ x, xs i = some x /\ RelV x u) (r2 : ∀ i u, i < n -> P2 i u -> ∃ x, ys i = some x /\ RelV x u) :
    Turn P w K tg (ItP xs ys n) fp z St where
  mem := hz
  obj := ob
  keep := fun i h h' st k => (W callerA rfl).frame i h h' st k
  item := by
    intro X hP hw hK hc i pins s σ H E I hf st hg
    subst hP hw hK
    have Wa := W X.A (I.ok.hd hc)
    refine Wa.goes i s _ E hg st fun v h' tk hY st' hk htk => ?_
    obtain ⟨T, u1, u2, rfl, hT, p1, p2, o, ho, hoc, m, hod⟩ := hY
    obtain ⟨x, hx, rx⟩ := r1 i u1 hg p1
    obtain ⟨y, hy, ry⟩ := r2 i u2 hg p2
    have new : ObjOk X.prog X.w (upd H T (.tup [x, y])) h' T (.tup [x, y]) := ⟨by show 2 <= sizeLine; decide, [u1, u2], .cons rx (.cons ry .nil), ⟨_, ho, hoc, _, hod⟩⟩
    have I1 : Inv X pins σ (upd H T (.tup [x, y])) { s with heap := h', toks := tk } :=
      I.turnedNew (t' := tk) (ch := fp) (fun b o hb q => hk b o (fun z => hb (Wa.sub b z)) q) hf hT new
    refine ⟨.ref T, _, I1, rfl, ⟨T, x, y, rfl, I.hok.fresh hT, rfl, hx, hy⟩, st', fun b hb => ?_⟩
    obtain ⟨ob1, hob, _⟩ := ob i s.heap st b hb
    rw [upd_ne (Nat.ne_of_lt (Nat.lt_of_lt_of_le (Heap.lt_size hob) hT))]
    exact (hf b hb).1
  done := by
    intro X hP hw hK hc i pins s σ H E I hf st hg
    subst hP hw hK
    have Wa := W X.A (I.ok.hd hc)
    have hg' : i = n := hg
    subst hg'
    exact Wa.stops s _ E st fun h' tk hk htk => I.turnedL (t' := tk) (ch := fp) (fun b o hb q => hk b o (fun z => hb (Wa.sub b z)) q) hf
  self := sf
def chS (z : Str) (i : Nat) : Option V := (z.cps.toList[i]?).map fun c => .str ⟨#[c]⟩
theorem rA' {z : Str} {i : Nat} {u : Value} (h : ∃ c t, z.cps[i]? = some c /\ u = .str ⟨#[c]⟩ t) : ∃ x, chS z i = some x /\ RelV x u := by
  obtain ⟨c, t, hc, rfl⟩ := h
  refine ⟨.str ⟨#[c]⟩, ?_, ⟨t, rfl⟩⟩
  unfold chS
  rw [show z.cps.toList[i]? = some c by rw [<- hc]; simp]
  rfl
def yB' (ta : TA) : TI := fun σ H R => ta σ H fun vs H1 => ∃ x y : Str, vs = [.str x, .str y] /\ R (ItP (chS x) (chS y) (min x.cps.size y.cps.size)) H1
theorem vp' {X : Cx} {e e2 : Expr} {ta : TA} {p pos tpos : Pos} {elts : List Expr} {kk} (hg : Gl X "zip") (hm : X.mg "zip" = none) (ha : PA X [e, e2] ta)
    (hs : starEach [e, e2] X.env = (false, eval e X.env) :: starEach [e2] X.env := by rfl) (hpl : (backTo pos (starEach [e2] X.env)).any (·.1) = false := by rfl) :
    PI X (.Tuple elts kk tpos) (.Call (.Name "zip" p) [e, e2] [] pos) (yB' ta) := by
  refine ⟨fun pins s σ H R I h => ?_⟩
  refine Call_ (ld_blt I hg hm PyProof.Rows.boot_zip (PyProof.Rows.callWith_type1 (thn (ha.run pos pins s σ H _ I h) fun us s1 ⟨vs, H1, I1, r1, q1⟩ => ?_) hs hpl))
  obtain ⟨x, y, ex, q⟩ := q1
  subst ex
  cases r1 with
  | cons r rr =>
    cases rr with
    | cons r' rr =>
      cases rr
      obtain ⟨t1, rfl⟩ := r
      obtain ⟨t2, rfl⟩ := r'
      refine zip_begins2 (begins_text x _) (begins_text y _) True.intro True.intro fun h' hz hTI hTO h1 h2 hsz hk => wpAny_pyIter_zip hz ?_
      have I2 : Inv X pins σ H1 { s1 with heap := h' } := I1.kept (t' := s1.toks) hk
      have S2 : ZipSep2 (s1.heap.objs.size + 4) (s1.heap.objs.size + 2) (s1.heap.objs.size + 3) s1.heap.objs.size (s1.heap.objs.size + 1) [s1.heap.objs.size] [s1.heap.objs.size + 1] := by
        constructor <;> simp
      refine ⟨s1.heap.objs.size + 4, (s1.heap.objs.size + 4) :: (s1.heap.objs.size + 2) :: (s1.heap.objs.size + 3) :: ([s1.heap.objs.size] ++ [s1.heap.objs.size + 1]), _, _, H1, rfl, I2,
        jK' (fun A hA => GoesN.zip2 S2 (Draws.text (A := A.in1) hA _ x _) (Draws.text (A := A.in1) hA _ y _)) (by simp) (fun A i s Q E st h => wpAny_pyIter_zip st.1 h) (fun i h st b hb => ?_) (fun i u _ hu => rA' hu) (fun i u _ hu => rA' hu), ⟨hz, hTI, ⟨_, _, hTO⟩, ⟨_, h1, rfl, rfl⟩, ⟨_, h2, rfl, rfl⟩⟩, fun c hcm => ?_, q⟩
      . obtain ⟨hz, hTI, ⟨a1, a2, hTO⟩, ⟨o1, e1, _, d1⟩, ⟨o2, e2, _, d2⟩⟩ := st
        have e' : b = s1.heap.objs.size + 4 \/ b = s1.heap.objs.size + 2 \/ b = s1.heap.objs.size + 3 \/ b = s1.heap.objs.size \/ b = s1.heap.objs.size + 1 := by simpa using hb
        rcases e' with z | z | z | z | z
        . rw [z]; exact ⟨_, hz, fun v q => nomatch q⟩
        . rw [z]; exact ⟨_, hTI, fun v q => nomatch q⟩
        . rw [z]; exact ⟨_, hTO, fun v q => nomatch q⟩
        . rw [z]; exact ⟨o1, e1, fun v q => by rw [d1] at q; cases q⟩
        . rw [z]; exact ⟨o2, e2, fun v q => by rw [d2] at q; cases q⟩
      . have e' : c = s1.heap.objs.size + 4 \/ c = s1.heap.objs.size + 2 \/ c = s1.heap.objs.size + 3 \/ c = s1.heap.objs.size \/ c = s1.heap.objs.size + 1 := by simpa using hcm
        have hle : s1.heap.objs.size <= c := by
          rcases e' with z | z | z | z | z
          . rw [z]; exact Nat.le_add_right _ _
          . rw [z]; exact Nat.le_add_right _ _
          . rw [z]; exact Nat.le_add_right _ _
          . rw [z]; exact Nat.le_refl _
          . rw [z]; exact Nat.le_add_right _ _
        exact I1.fpOk hle (I1.hok.fresh hle)
end S
namespace S
open PySem PySem.Spec PyProof.Rows L2
section
variable {X : Cx} {K : PySem.W.Frag} {to te : TE} {o e : Expr} {H : Hp} {Q : VK}
def qv' : V -> List V -> Hp -> VK -> Prop := fun x xs H Q => ∃ a b i rest, x = .str a /\ xs = [.str b] /\ Builtin.Str.occurrences a b 0 a.length 1 = i :: rest /\ Q (.int (i : Nat)) H
theorem qQ' : MtR X "str.index" qv' := by
  intro pins s σ H x xs v us Q I rx rs h
  obtain ⟨a, b, i, rest, rfl, rfl, ho, h⟩ := h
  obtain ⟨t, rfl⟩ := rx
  cases rs with
  | cons r1 rs =>
    cases rs
    obtain ⟨u, rfl⟩ := r1
    exact PySem.call_gives F.slot_str_index (typeIs_str _ _ _) F.entry_str_index (F.args_str_index_2 _ _) (gives_str_index a b t u i rest ho) ⟨.int (i : Nat), H, I.tok (s.toks + 1), ⟨_, rfl⟩, h⟩
def xR' (K : PySem.W.Frag) : V -> List V -> Hp -> VK -> Prop := fun x xs H Q => ∃ a p, ∃ ys : List Str, x = .str a /\ xs = [.ref p] /\ (SqL K H p (ys.map V.str) \/ SqT K H p (ys.map V.str)) ∧
    (ys.map (·.length)).sum + ys.length * a.length <= 16777216 /\ Q (.str (Txt.join a ys)) H
def chv (c : Nat) : V := .str ⟨#[c]⟩
end
end S
namespace S
open PySem PySem.Spec PyProof.Rows L2
def yD' (ta : TA) : TI := fun σ H R => ta σ H fun vs H1 => ∃ x : Str, vs = [.str x] /\ R (ItP (fun i => some (.int (i : Nat))) (chS x) x.cps.size) H1
theorem sB' {X : Cx} {e : Expr} {ta : TA} {p pos tpos : Pos} {elts : List Expr} {kk} (hg : Gl X "enumerate") (hm : X.mg "enumerate" = none) (ha : PA X [e] ta) (hs : starEach [e] X.env = [(false, eval e X.env)] := by rfl) :
    PI X (.Tuple elts kk tpos) (.Call (.Name "enumerate" p) [e] [] pos) (yD' ta) := by
  refine ⟨fun pins s σ H R I h => ?_⟩
  refine Call_ (ld_blt I hg hm boot_enumerate (PyProof.Rows.callWith_type1 (thn (ha.run pos pins s σ H _ I h) fun us s1 ⟨vs, H1, I1, r1, q1⟩ => ?_) hs rfl))
  obtain ⟨x, ex, q⟩ := q1
  subst ex
  cases r1 with
  | cons r rr =>
    cases rr
    obtain ⟨t, rfl⟩ := r
    refine call_enumerate_str fun h' he hit hsz hk => wpAny_pyIter_enum he ?_
    have I2 : Inv X pins σ H1 { s1 with heap := h' } := I1.kept (t' := s1.toks) hk
    refine ⟨s1.heap.objs.size + 1, [s1.heap.objs.size + 1, s1.heap.objs.size], fun i h => (∃ old, IsEnum h (s1.heap.objs.size + 1) s1.heap.objs.size ((0 : Int) + (i : Nat)) old) /\ h.IsStrIter s1.heap.objs.size (strIterType x) x t i, _, H1, rfl, I2,
      jK' (P1 := fun i u => ∃ t, u = .int ((0 : Int) + (i : Nat)) t) (P2 := fun i v => ∃ c u, x.cps[i]? = some c /\ v = .str ⟨#[c]⟩ u) (wr := [s1.heap.objs.size + 1, s1.heap.objs.size])
        (fun A hA => (GoesN.enumFrom 0 (Draws.text (A := A.in1) hA s1.heap.objs.size x t) (s1.heap.objs.size + 1) (Nat.succ_ne_self _) (by simp) (by simp)).mono fun i h₀ v h _ ⟨T, t, y, ev, hn, hy, hT⟩ => ⟨T, _, y, ev, hn, ⟨t, rfl⟩, hy, hT⟩)
        (by simp) (fun A i s Q E st h => let ⟨⟨_, he⟩, _⟩ := st; wpAny_pyIter_enum he h) (fun i h st b hb => ?_) (fun i u _ hu => ?_) (fun i u _ hu => rA' hu), ⟨⟨_, he⟩, hit⟩, fun c hcm => ?_, q⟩
    . obtain ⟨⟨old, he⟩, ⟨o1, e1, _, d1⟩⟩ := st
      have e' : b = s1.heap.objs.size + 1 \/ b = s1.heap.objs.size := by simpa using hb
      rcases e' with z | z
      . rw [z]; exact ⟨_, he, fun v q => nomatch q⟩
      . rw [z]; exact ⟨o1, e1, fun v q => by rw [d1] at q; cases q⟩
    . obtain ⟨t, rfl⟩ := hu
      exact ⟨_, rfl, ⟨t, by rw [Int.zero_add]⟩⟩
    . have e' : c = s1.heap.objs.size + 1 \/ c = s1.heap.objs.size := by simpa using hcm
      have hle : s1.heap.objs.size <= c := by
        rcases e' with z | z
        . rw [z]; exact Nat.le_add_right _ _
        . rw [z]; exact Nat.le_refl _
      exact I1.fpOk hle (I1.hok.fresh hle)
end S
namespace S
open PySem PySem.Spec PyProof.Rows L2
theorem fg' : ∀ (vs : List Value) (l : List Nat), vs.length = l.length -> (∀ (j : Nat) (v : Value), vs[j]? = some v -> ∃ c u, l[j]? = some c /\ v = .str ⟨#[c]⟩ u) -> StrsAre vs (l.map fun c => ⟨#[c]⟩)
  | [], [], _, _ => .nil
  | [], _ :: _, h, _ => by simp at h
  | _ :: _, [], h, _ => by simp at h
  | v :: vs, c :: l, h, hh => by
    obtain ⟨d, u, h1, rfl⟩ := hh 0 v rfl
    cases h1
    exact .cons _ _ (fg' vs l (by simpa using h) fun j w hw => by
      have := hh (j + 1) w (by simpa using hw)
      simpa using this)
theorem k6' {prog : Program} {w : World} {A : Around} {E : Value -> Shared -> Prop} {s : Shared} {x : Str} {t : Tok} {Q : Value -> Shared -> Prop} (hh : A.handled = none) (h64 : x.cps.size < 64)
    (h : ∀ (h' h'' : Heap) (tk : Nat) (out : List Value) (ss : List Str), (∀ b o, s.heap.get? b = some o -> h'.get? b = some o) -> (∀ b o, h'.get? b = some o -> h''.get? b = some o) -> (∃ e, h''.get? h'.objs.size = some (seqObj "list" out.toArray e)) →
      StrsAre out ss -> ss.Perm (x.cps.toList.map fun c => ⟨#[c]⟩) -> sortedS ss = true -> Q (.ref h'.objs.size) { s with heap := h'', toks := tk }) :
    wpAny (model prog w) A (call (.builtin "sorted") [.str x t]) Q E s := by
  refine Calls.call_function_entry kind_sorted plain_sorted entry_sorted (args_sorted1 _) ?_
  unfold Builtin.«sorted»
  refine wpAny_bind (m := checkCount "sorted" 1 1 _) (wpAny_pure ?_)
  refine wpAny_bind (m := collect (.str x t)) (wpAny_collect_str (A := A.in1) hh x t (fun s' acc hk hg hd ho hacc => ?_) (by rw [sizeLine_eq]; omega))
  obtain ⟨hp, g, d, tk, os⟩ := s
  obtain ⟨hp', g', d', tk', os'⟩ := s'
  obtain rfl : g' = g := hg
  obtain rfl : d' = d := hd
  obtain rfl : os' = os := ho
  have hS : StrsAre acc.toList (x.cps.toList.map fun c => ⟨#[c]⟩) := by
    refine fg' _ _ (by rw [Array.length_toList, Array.length_toList]; exact hacc.1) fun j v hv => ?_
    obtain ⟨c, u, h1, h2⟩ := hacc.2 j v (by simpa using hv)
    exact ⟨c, u, by rw [<- h1]; simp, h2⟩
  have hl : acc.toList.length < 64 := by rw [Array.length_toList, hacc.1]; exact h64
  refine wpAny_bind (wpAny_newList ?_)
  have hoL : (hp'.push (seqObj "list" acc.toList.toArray 0)).get? hp'.objs.size = some (seqObj "list" acc.toList.toArray 0) := Heap.get?_push_size _ rfl
  refine wpAny_bind (wpAny_holding (wpAny_call_entry slot_list_sort ⟨_, hoL, rfl⟩ entry_list_sort (list_sort_treeK strKind_oneLt hoL hS.keysOf (fun v₁ v₂ rest e => keyKind_strs (by rw [<- e]; exact hS)) hl fun st' a1 a2 => ⟨_, rfl, ?_⟩) (args_list_sort _)))
  obtain ⟨ss', h1, h2, h3⟩ := sorted_out_str hS a1 a2
  refine wpAny_pure ⟨_, rfl, h hp' _ tk' _ ss' hk (fun b o hb => ?_) ?_ h1 h2 h3⟩
  . have hlt := Heap.lt_size hb
    rw [sortedHeap_old (Nat.ne_of_lt hlt) (by rw [size_push']; exact Nat.lt_succ_of_lt hlt)]
    exact Heap.get?_push_of_some _ hb
  . obtain ⟨e, he⟩ := sortedHeap_at (out := (arrOf st').map (·.2)) hoL
    exact ⟨e, by rw [he]⟩
def jU' : List V -> Hp -> VK -> Prop := fun vs H Q => ∃ x : Str, vs = [V.str x] /\ x.length < 64 /\ ∀ (ys : List Str) (p : Addr) (H' : Hp), ys.Perm (x.cps.toList.map fun c => ⟨#[c]⟩) -> sortedS ys = true -> H p = none -> Same H H' -> H' p = some (.lst (ys.map V.str)) -> Q (.ref p) H'
theorem lM' {X : Cx} (hc : X.calm = true) : CallR X (.builtin "sorted") jU' := by
  intro pins s σ H vs us Q I r h
  obtain ⟨x, rfl, h64, q⟩ := h
  cases r with
  | cons r rr =>
    cases rr
    obtain ⟨t, rfl⟩ := r
    refine k6' (I.ok.hd hc) h64 fun h' h'' tk out ss hk hk2 ho h1 h2 h3 => ?_
    obtain ⟨e, he⟩ := ho
    have I1 : Inv X pins σ H { s with heap := h' } := I.kept (t' := s.toks) hk
    have hlen : (ss.map V.str).length <= sizeLine := by
      rw [List.length_map, h2.length_eq, List.length_map, Array.length_toList]
      exact small64 h64
    have I2 : Inv X pins σ (upd H h'.objs.size (.lst (ss.map V.str))) { s with heap := h'', toks := tk } :=
      I1.laid (t' := tk) (fun b u hb => hk2 b u hb) (Nat.le_refl _) ⟨hlen, out, e, vals_of_strs h1, he⟩
    have hn : H h'.objs.size = none := I1.hok.fresh (Nat.le_refl _)
    exact ⟨.ref _, _, I2, rfl, q ss _ _ h2 h3 hn (Same.upd hn) upd_same⟩
section
variable {K : PySem.W.Frag} {H : Hp} {Q : VK} {σ : St}
end
theorem sA' {X : Cx} {tg iter : Expr} {w1 w2 : TI} (h1 : PI X tg iter w1) (h2 : PI X tg iter w2) : PI X tg iter (fun σ H R => w1 σ H R \/ w2 σ H R) :=
  ⟨fun pins s σ H R I h => h.elim (h1.run pins s σ H R I) (h2.run pins s σ H R I)⟩
def yA' (K : PySem.W.Frag) (ta : TA) : TI := fun σ H R => yB' ta σ H R \/ RZ.iZipA K ta σ H R
theorem vo' {X : Cx} {e e2 : Expr} {ta : TA} {p pos tpos : Pos} {elts : List Expr} {kk} (hg : Gl X "zip") (hm : X.mg "zip" = none) (ha : PA X [e, e2] ta)
    (hs : starEach [e, e2] X.env = (false, eval e X.env) :: starEach [e2] X.env := by rfl) (hpl : (backTo pos (starEach [e2] X.env)).any (·.1) = false := by rfl) :
    PI X (.Tuple elts kk tpos) (.Call (.Name "zip" p) [e, e2] [] pos) (yA' X.K ta) := sA' (vp' hg hm ha hs hpl) (RZ.pi_zipA hg hm ha hs hpl)
end S
namespace S
open PySem PySem.Spec PyProof.Rows L2
section
variable {K : PySem.W.Frag} {σ : St} {H : Hp} {Q : VK} {te ta tv : TE} {f : Str} {v y : V} {a C dx : Addr} {fs : List (Str × V)} {D : Ends} {R : Hp -> Prop}
end
def AN' (C : Addr) (m : Str) (sp : Sp) (E : XK) (σ : St) (t : TA) : V -> Hp -> VK -> Prop := fun x H Q => ∃ a dx fs, x = .ref a /\ H a = some (.ins C dx fs) /\ fs.lookup m = none /\ t σ H fun vs H2 => sp (x :: vs) H2 Q E
def tU' (C : Addr) (sp : Sp) (E : St -> XK) (t : TA) : TE := fun σ H Q => t σ H fun vs H1 => ∀ x dx, H1 x = none -> H1 dx = none -> dx ≠ x -> sp (.ref x :: vs) (upd (upd H1 dx (.own x)) x (.ins C dx [])) (fun v H2 => v = .non /\ Q (.ref x) H2) (E σ)
section
variable {K : PySem.W.Frag} {σ : St} {H : Hp} {Q : VK} {ta : TE} {t : TA} {C a dx : Addr} {m : Str} {sp : Sp} {E : St -> XK} {E' : XK} {fs : List (Str × V)} {vs : List V}
end
section
variable {X : Cx} {k : Nat} {C : Addr} {x m : Str} {ps : List Str} {sp : Sp} {p pos apos : Pos} {e o : Expr} {es : List Expr} {ta : TE} {t : TA} {W : WX} {CX : CXT} {f : Addr} {fd : FuncData} {E : St -> XK}
end
end S
namespace S
open PySem PySem.Spec PyProof.Rows L2
def signs (x : Str) : List V := x.cps.toList.map fun c => V.str ⟨#[c]⟩
theorem hX' {x : Str} {acc : Array Value} (h : ItemsOf (SignAt x) acc x.cps.size) : Vals (signs x) acc.toList := by
  have hS : StrsAre acc.toList (x.cps.toList.map fun c => ⟨#[c]⟩) := by
    refine fg' _ _ (by rw [Array.length_toList, Array.length_toList]; exact h.1) fun j v hv => ?_
    obtain ⟨c, u, h1, h2⟩ := h.2 j v (by simpa using hv)
    exact ⟨c, u, by rw [<- h1]; simp, h2⟩
  have := vals_of_strs hS
  rw [List.map_map] at this
  exact this
def qu' : List V -> Hp -> VK -> Prop := fun vs H Q => ∃ x : Str, vs = [V.str x] /\ x.length <= sizeLine /\ ∀ p, H p = none -> Q (.ref p) (upd H p (.lst (signs x)))
theorem lO' {X : Cx} (hc : X.calm = true) : CallR X (.type "list") qu' := by
  intro pins s σ H vs us Q I r h
  obtain ⟨x, rfl, hl, q⟩ := h
  cases r with
  | cons r rr =>
    cases rr
    obtain ⟨t, rfl⟩ := r
    refine call_list_str (I.ok.hd hc) x t (fun h' tk acc c' hk ho hacc => ?_) hl
    have hlen : (signs x).length <= sizeLine := by
      unfold signs
      rw [List.length_map, Array.length_toList]
      exact hl
    have I2 : Inv X pins σ (upd H s.heap.objs.size (.lst (signs x))) { s with heap := h', toks := tk } :=
      I.laid (t' := tk) (fun b u hb => hk b u hb) (Nat.le_refl _) ⟨hlen, acc.toList, c', hX' hacc, by rw [ho]⟩
    exact ⟨.ref _, _, I2, rfl, q _ (I.hok.fresh (Nat.le_refl _))⟩
def t4' : List V -> Hp -> VK -> Prop := fun vs H Q => ∃ x : Str, vs = [V.str x] /\ x.length <= sizeLine /\ ∀ p, H p = none -> Q (.ref p) (upd H p (.tup (signs x)))
theorem ov' {X : Cx} (hc : X.calm = true) : CallR X (.type "tuple") t4' := by
  intro pins s σ H vs us Q I r h
  obtain ⟨x, rfl, hl, q⟩ := h
  cases r with
  | cons r rr =>
    cases rr
    obtain ⟨t, rfl⟩ := r
    refine call_tuple_str (I.ok.hd hc) x t (fun h' tk acc hk hacc => ?_) hl
    have hlen : (signs x).length <= sizeLine := by
      unfold signs
      rw [List.length_map, Array.length_toList]
      exact hl
    have I1 : Inv X pins σ H { s with heap := h' } := I.kept (t' := s.toks) hk
    have I2 : Inv X pins σ (upd H h'.objs.size (.tup (signs x))) { s with heap := h'.push { cls := .type "tuple", data := .seq acc }, toks := tk } :=
      I1.laid (t' := tk) (fun b u hb => Heap.get?_push_of_some _ hb) (Nat.le_refl _) ⟨hlen, acc.toList, hX' hacc, ⟨_, Heap.get?_push_size _ rfl, rfl, 0, by simp⟩⟩
    exact ⟨.ref _, _, I2, rfl, q _ (I1.hok.fresh (Nat.le_refl _))⟩
def qt' (K : PySem.W.Frag) : List V -> Hp -> VK -> Prop := fun vs H Q => t7' K vs H Q \/ qu' vs H Q
theorem in' {X : Cx} (hc : X.calm = true) : CallR X (.type "list") (qt' X.K) := ox'.or (lO' hc)
def qp' (K : PySem.W.Frag) : List V -> Hp -> VK -> Prop := fun vs H Q => qq' K vs H Q \/ t4' vs H Q
theorem al' {X : Cx} (hc : X.calm = true) : CallR X (.type "tuple") (qp' X.K) := lN'.or (ov' hc)
end S
namespace S
open PySem PySem.Spec PyProof.Rows L2
structure RoomG (k : Nat) (A : Around) : Prop where
  r : Room k A
  g : A.guards = some []
theorem RoomG.mono {j k : Nat} {A : Around} (h : RoomG k A) (l : j <= k) : RoomG j A := ⟨h.r.mono l, h.g⟩
theorem RoomG.units {k : Nat} {A : Around} (h : RoomG k A) : A.units + 64 < cLine := h.r.units
structure FnG (P : Program) (w : World) (K : PySem.W.Frag) (mg : Str -> Option Value) (base : Heap) (CX : CXT) (k : Nat) (f : Addr) (fd : FuncData) (ps : List Str) (sp : Sp) : Prop where
  len : ∀ vs H Q E, sp vs H Q E -> vs.length = ps.length
  run : ∀ (A : Around) (outer : List Env) (s : Shared) (H : Hp) (args : Args) (us : List Value) (vs : List V) (Q : VK) (E : XK), RoomG k A -> Env0 P w K mg base A outer s H →
    BindsTo s fd args (ps.zip us) -> Vals vs us -> sp vs H Q E -> codeAny (model P w) A (.call (.ref f) args) (CR CX outer P w H s Q E) s
theorem FnG.of {P : Program} {w : World} {K : PySem.W.Frag} {mg : Str -> Option Value} {base : Heap} {CX : CXT} {k : Nat} {f : Addr} {fd : FuncData} {ps : List Str} {sp : Sp} (F : FnOk P w K mg base CX k f fd ps sp) : FnG P w K mg base CX k f fd ps sp :=
  ⟨F.len, fun A o s H as us vs Q E h => F.run A o s H as us vs Q E h.r⟩
section
variable {P : Program} {w : World} {K : PySem.W.Frag} {mg : Str -> Option Value} {base : Heap} {CX : CXT} {f : Addr} {fd : FuncData}
theorem yE' {N ps : List Str} {scope : Scope} (S : FnScope N ps scope) (us : List Value) (n : Nat) : ∀ y ∈ ps.zip us,
    scope.names.lookup y.1 = some .local \/ (scope.names.lookup y.1 = some .cell /\ ((cellsFrom n scope.names []).lookup y.1).isSome = true) := by
  rintro ⟨nm, v⟩ hy
  have q := S.par nm (List.of_mem_zip hy).1
  exact q.imp id fun q => ⟨q, PySem.W.cellsFrom_some _ _ _ (.inl q)⟩
theorem v4' {x qual : Str} {params : Arguments} {body : List Stmt} {scope : Scope} {N ps : List Str} {k : Nat} {sp : Sp} (F : FunD K x qual params body scope [] [] f fd) (S : FnScope N ps scope)
    (len : ∀ vs H Q E, sp vs H Q E -> vs.length = ps.length)
    (hbody : ∀ (cdv oc : Value) (od : Option Addr) (osl : Array (Option Value)), K.lookup f = some ⟨oc, od, .func fd, osl⟩ -> fd.code = cdv -> PySem.W.codeIn K cdv qual = true -> ∀ (A : Around) (o : List Env) (s : Shared) (H : Hp) (vs : List V) (Q : VK) (E : XK), RoomG k (A.deeper (envOfC qual scope s.heap.objs.size f cdv)) -> sp vs H Q E →
      ∃ t, PSs (cxOf CX P w K mg base N qual scope f cdv A o s H E) body t /\ t { nx := fun _ H' => Q .non H', rt := Q } (start N vs) H) : FnG P w K mg base CX (k + 1) f fd ps sp := by
  obtain ⟨oc, od, dV, kV, doc, pm, an, cdv, ct, osl, rfl, lk, hcd, _, _⟩ := F.ex
  constructor
  . exact len
  intro A o s H args us vs Q E hg e0 hb r hsp
  have Ks : K.In s.heap := e0.mod.kin.keeps fun b u e => (e0.bs b u e).1
  have Ls : s.heap.NoLimit := e0.mod.nolimit.keeps fun b u e => (e0.bs b u e).1
  refine codeAny_call_function hg.r.depth (Ks _ _ lk) rfl S.co S.gen rfl (PySem.W.codeRec_of Ks hcd) (hb _ _ _ _ ?_)
  refine wpAny_newFunctionEnv_cells S.kind (yE' S us _) fun env he s1 z => ?_
  subst he
  refine ⟨Ls.keeps z.toInCall.keep, codeAny_func ?_⟩
  obtain ⟨t, pt, tq⟩ := hbody cdv oc od osl lk rfl hcd A o s H vs Q E ⟨hg.r.deeper _, hg.g⟩ hsp
  have J := inv_start (CX := CX) (E := E) S hg.r.hd e0 (len _ _ _ _ hsp) r z
  refine wpAny_mono (pt.run [] s1 (start N vs) H _ J tq) (fun fl s' q => ?_) fun _ _ q => q
  cases fl with
  | next =>
    obtain ⟨σ', H', I, q⟩ := q
    exact ⟨V.non, H', I.os, I.bare, I.base, I.hok, rfl, q⟩
  | ret u =>
    obtain ⟨v, σ', H', I, e, q⟩ := q
    exact ⟨v, H', I.os, I.bare, I.base, I.hok, e, q⟩
  | brk => exact (let ⟨_, _, _, z⟩ := q; z).elim
  | cont => exact (let ⟨_, _, _, z⟩ := q; z).elim
theorem rp' {X : Cx} {pins : List (Addr × Obj)} {σ : St} {H : Hp} {s s' : Shared} {Q : VK} {E : XK} (hx : PassesAt CX X σ E) (I : Inv X pins σ H s) : ∀ r : Result, CR CX X.stack X.prog X.w H s Q E r s' -> (match r with
    | .ok (.ret u) => EP X pins σ Q u s'
    | .ok _ => False
    | .error e => X.xe e s')
  | .error e, q => hx pins H s e s' I q
  | .ok (.ret u), q => I.after q
  | .ok .next, q => q
  | .ok .brk, q => q
  | .ok .cont, q => q
end
section
variable {X : Cx} {CX : CXT} {k : Nat} {f C : Addr} {fd : FuncData} {ps : List Str} {sp : Sp} {E : St -> XK} {x m : Str} {p pos apos : Pos} {e o : Expr} {es : List Expr} {ta : TE} {t : TA} {W : WX}
theorem gC' {pins : List (Addr × Obj)} {σ : St} {H : Hp} {s : Shared} {Q : VK} {us : List Value} {vs : List V} (F : FnG X.prog X.w X.K X.mg X.base CX k f fd ps sp) (hr : RoomG k X.A)
    (hb : Binds X.K fd ps []) (hx : PassesAt CX X σ (E σ)) (I : Inv X pins σ H s) (r : Vals vs us) (h : sp vs H Q (E σ)) : wpAny (model X.prog X.w) X.A (call (.ref f) us) (EP X pins σ Q) X.xe s := by
  have b := hb s us I.kIn (by rw [List.append_nil, <- r.length]; exact F.len _ _ _ _ h)
  rw [List.append_nil] at b
  refine wpAny_call (codeAny_mono (F.run X.A X.stack s H ⟨us, []⟩ us vs Q (E σ) hr I.env0 b r h) fun res s' q => ?_)
  have z := rp' hx I res q
  revert z
  cases res with
  | error e => exact id
  | ok fl => cases fl <;> exact id
def Og (P : Program) (w : World) (K : PySem.W.Frag) (mg : Str -> Option Value) (base : Heap) (k : Nat) (x : Str) (ps : List Str) (sp : Sp) : Prop :=
  ∃ fd, FnG P w K mg base (L2.CX P w) k (He.ga K x) fd ps sp /\ Binds K fd ps [] /\ PySem.W.keepIn K (.ref (He.ga K x)) = true /\ mg x = some (.ref (He.ga K x))
def OgM (P : Program) (w : World) (K : PySem.W.Frag) (mg : Str -> Option Value) (base : Heap) (k : Nat) (C : Addr) (m : Str) (ps : List Str) (sp : Sp) : Prop :=
  ∃ fd, FnG P w K mg base (L2.CX P w) k (He.ma K C m) fd ps sp /\ Binds K fd ps []
theorem sF' (F : Og X.prog X.w X.K X.mg X.base k x ps sp) (hr : RoomG k X.A) (hg : Gl X x) (tk : Takes X W) (ha : PA X (e :: es) t) (hdb : (x == ("__debug__" : Str)) = false := by decide)
    (he : starEach (e :: es) X.env = (false, eval e X.env) :: starEach es X.env := by rfl) (hpl : (backTo pos (starEach es X.env)).any (·.1) = false := by rfl) : PE X (.Call (.Name x p) (e :: es) [] pos) (tCallS sp (WE W) t) := by
  obtain ⟨fd, F, b, kp, hm⟩ := F
  refine ⟨fun pins s σ H Q I h => wpAny_Call_Name_kw (ld_glob I hg hm ?_ hdb)⟩
  refine PySem.W.callWith_K (h₀ := X.base) I.ok.mod.kin kp (thn (ha.run pos pins s σ H _ I h) fun us s1 ⟨vs, H1, I1, r, q⟩ => ?_) he hpl
  exact ⟨I1.kIn, gC' F hr b (passAt tk σ) I1 r q⟩
def i9' (K : PySem.W.Frag) (cs : List String) (m : Str) (g : Addr) : Prop := ∀ C ∈ cs, Cls K (He.ga K (Str.ofString C)) /\ Meth K (He.ga K (Str.ofString C)) m g
def pU' (K : PySem.W.Frag) (cs : List String) (m : Str) (sp : Sp) (E : St -> XK) (ta : TE) (t : TA) : TE := fun σ H Q => ta σ H fun x H1 => ∃ C, C ∈ cs /\ AN' (He.ga K (Str.ofString C)) m sp (E σ) σ t x H1 Q
theorem sC' {pl : Sem Bool} {cs : List String} (he : PE X o ta) (F : OgM X.prog X.w X.K X.mg X.base k C m ps sp) (hr : RoomG k X.A) (hm : i9' X.K cs m (He.ma X.K C m)) (tk : Takes X W) (ha : PA X (e :: es) t)
    (hst : starEach (e :: es) X.env = (false, eval e X.env) :: starEach es X.env := by rfl) (hpl : (backTo pos (starEach es X.env)).any (·.1) = false := by rfl)
    (ht : eval (.Call (.Attribute o m apos) (e :: es) [] pos) X.env = (eval o X.env >>= fun ov => standAt apos.atName >>= fun _ => holding [ov] (getMethod ov m pl) >>= fun q =>
      callWith pos q.1 q.2 (backTo pos (starEach (e :: es) X.env)) (backToKw pos (keywordEach [] X.env))) := by rfl) :
    PE X (.Call (.Attribute o m apos) (e :: es) [] pos) (pU' X.K cs m sp (WE W) ta t) := by
  obtain ⟨fd, F, hb⟩ := F
  refine ⟨fun pins s σ H Q I h => PySem.W.methodCall_KW (pl := pl) (thn (he.run pins s σ H _ I h) fun u s1 ⟨x, H1, I1, rx, D, hD, a, dx, fs, ex, ea, l, q⟩ => ?_) ht⟩
  obtain ⟨c, hm⟩ := hm D hD
  subst ex
  cases (show u = Value.ref a from rx)
  refine getmeth_ok I1 ea c hm l (PySem.W.callWith_K (first := [.ref a]) (h₀ := X.base) I.ok.mod.kin hm.kp (thn (ha.run pos pins s1 σ H1 _ I1 q) fun us s2 ⟨vs, H2, I2, r, q2⟩ => ?_) hst hpl)
  exact ⟨I2.kIn, gC' (us := .ref a :: us) (vs := .ref a :: vs) F hr hb (passAt tk σ) I2 (.cons rfl r) q2⟩
theorem qE' {pl : Sem Bool} {cs : List String} (he : PE X o ta) (F : OgM X.prog X.w X.K X.mg X.base k C m ps sp) (hr : RoomG k X.A) (hm : i9' X.K cs m (He.ma X.K C m)) (tk : Takes X W)
    (ht : eval (.Call (.Attribute o m apos) [] [] pos) X.env = (eval o X.env >>= fun ov => standAt apos.atName >>= fun _ => holding [ov] (getMethod ov m pl) >>= fun q =>
      callWith pos q.1 q.2 (backTo pos (starEach [] X.env)) (backToKw pos (keywordEach [] X.env))) := by rfl) :
    PE X (.Call (.Attribute o m apos) [] [] pos) (pU' X.K cs m sp (WE W) ta tNil) := by
  obtain ⟨fd, F, hb⟩ := F
  refine ⟨fun pins s σ H Q I h => PySem.W.methodCall_KW (pl := pl) (thn (he.run pins s σ H _ I h) fun u s1 ⟨x, H1, I1, rx, D, hD, a, dx, fs, ex, ea, l, q⟩ => ?_) ht⟩
  obtain ⟨c, hm⟩ := hm D hD
  subst ex
  cases (show u = Value.ref a from rx)
  exact getmeth_ok I1 ea c hm l (PySem.W.callWith_K0 (first := [.ref a]) I1.kIn hm.kp (gC' (us := [.ref a]) (vs := [.ref a]) F hr hb (passAt tk σ) I1 (.cons rfl .nil) q))
theorem n2' {A : Around} {C : Addr} {us : List Value} {kw : List (Str × Value)} (h : A.guards = some []) : (A.under (.builtin "type.__call__" ⟨.ref C :: us, kw⟩)).guards = some [] := by
  simp [Around.under, Code.guards, Code.isGuard, guardIds, pushGuards, h]
theorem sD' (F : OgM X.prog X.w X.K X.mg X.base k C "__init__" ps sp) (hr : RoomG (k + 1) X.A) (hg : Gl X x) (M : Mk X.K C (He.ma X.K C "__init__")) (hm : X.mg x = some (.ref C)) (tk : Takes X W)
    (ha : PA X (e :: es) t) (hdb : (x == ("__debug__" : Str)) = false := by decide) (he : starEach (e :: es) X.env = (false, eval e X.env) :: starEach es X.env := by rfl) (hpl : (backTo pos (starEach es X.env)).any (·.1) = false := by rfl) :
    PE X (.Call (.Name x p) (e :: es) [] pos) (tU' C sp (WE W) t) := by
  obtain ⟨fd, F, hb⟩ := F
  refine ⟨fun pins s σ H Q I h => wpAny_Call_Name_kw (ld_glob I hg hm ?_ hdb)⟩
  refine PySem.W.callWith_K (h₀ := X.base) I.ok.mod.kin M.kp (thn (ha.run pos pins s σ H _ I h) fun us s1 ⟨vs, H1, I1, r, q⟩ => ?_) he hpl
  have fr := fun n (l : s1.heap.objs.size <= n) => I1.hok.fresh l
  have q := q (s1.heap.objs.size + 1) s1.heap.objs.size (fr _ (Nat.le_succ _)) (fr _ (Nat.le_refl _)) (Nat.ne_of_lt (Nat.lt_succ_self _))
  have J := Inv.made (C := C) I1
  have b := hb (s := _) (us := Value.ref (s1.heap.objs.size + 1) :: us) J.kIn (by
    rw [List.append_nil, <- F.len _ _ _ _ q]
    simp [r.length])
  rw [List.append_nil] at b
  refine ⟨I1.kIn, wpAny_call (make_map (f := He.ma X.K C "__init__") I1.kIn M.makes M.init (beq_iff_eq.mp M.fn) (codeAny_mono (F.run _ X.stack _ _ ⟨Value.ref (s1.heap.objs.size + 1) :: us, []⟩ _ _ _ (WE W σ)
    (k := k) ⟨hr.r.make C _ [], n2' hr.g⟩ (J.env0.make C _ []) b (Paired.cons (show L2.RelV (.ref (s1.heap.objs.size + 1)) (.ref (s1.heap.objs.size + 1)) from rfl) r) q) fun res s' q' => ?_))⟩
  have z := rp' (passAt tk σ) J res q'
  revert z
  cases res with
  | error e => exact id
  | ok fl =>
    cases fl with
    | ret u =>
      rintro ⟨v, H', I3, rv, ev, q3⟩
      subst ev
      exact ⟨rv, ⟨V.ref (s1.heap.objs.size + 1), H', I3, rfl, q3⟩⟩
    | next => exact id
    | brk => exact id
    | cont => exact id
end
theorem ou' {P : Program} {w : World} {CX : CXT} {H : Hp} {s s' : Shared} (hO : Only H) (ok : HOk P w H s.heap) (hCX : ∀ e s', CX [] H s (fun _ _ _ => False) e s' -> False) : ∀ res : Result,
    CR CX [] P w H s (fun v _ => v = .bl true) (fun _ _ _ => False) res s' -> res = .ok (.ret (.bool true)) /\ OldK s.heap s'.heap /\ s'.os = s.os /\ AllBare s'.gens
  | .error e, q => (hCX e s' q).elim
  | .ok .next, q => False.elim q
  | .ok .brk, q => False.elim q
  | .ok .cont, q => False.elim q
  | .ok (.ret u), ⟨v, H', os, bare, un, ok', rv, q⟩ => by
    have q : v = .bl true := q
    rw [q] at rv
    cases (show u = Value.bool true from rv)
    refine ⟨rfl, OldK.of_keep fun b o e => ?_, os, bare⟩
    rcases hO b with z | ⟨ob, xs, z⟩
    . exact un.keep b o e z (List.not_mem_nil) (List.not_mem_nil)
    . have e1 := (ok b _ z).1
      have e2 := (ok' b _ (un.frzs b ob _ z)).1
      rw [e] at e1
      cases e1
      exact e2
theorem kd' {P : Program} {w : World} {K : PySem.W.Frag} {mg mb : Str -> Option Value} {CX : CXT} {k : Nat} {fa a : Addr} {fd : FuncData} {x : Str} {sp : Sp} {s : Shared} {vs : List Value} {n0 : Nat} {H : Hp}
    (KX : K.In s.heap) (n1 : s.heap.Ns mainGlobals mg) (n2 : s.heap.Ns builtinsNs mb) (n3 : ∀ x : Str, x ≠ "__name__" -> mb x = bootBuiltins x) (lim : s.heap.NoLimit) (hg : s.gens = #[])
    (ha : s.heap.get? a = some { cls := .type "list", data := .seq vs.toArray n0 }) (hr : Room k callerA) (F : ∀ base : Heap, K.In base -> base.Ns mainGlobals mg -> FnG P w K mg base CX k fa fd [x] sp)
    (hbind : ∀ (s : Shared) (u : Value), BindsTo s fd ⟨[u], []⟩ [(x, u)]) (hO : Only H) (hs : sp [.ref a] H (fun v _ => v = .bl true) fun _ _ _ => False) (hCX : ∀ e s', CX [] H s (fun _ _ _ => False) e s' -> False)
    (ok : HOk P w H s.heap) (one : ∀ b u, H b = some u -> b = a) (out : H a ≠ none -> K.lookup a = none) :
    codeAny (model P w) callerA (.call (.ref fa) ⟨[.ref a], []⟩) (fun r s' => r = .ok (.ret (.bool true)) /\ OldK s.heap s'.heap /\ s'.os = s.os /\ AllBare s'.gens) s := by
  -- an object that is no list of the script stands in the base
  have apart : ∀ {b : Addr} {o : Obj}, s.heap.get? b = some o -> (∀ l n, o.data ≠ .seq l n) -> H b = none := by
    intro b o e d
    cases q : H b with
    | none => rfl
    | some u =>
      have e' := one b u q
      rw [e', ha] at e
      cases e
      exact absurd rfl (d _ _)
  have keep : ∀ {b : Addr} {m : Str -> Option Value}, s.heap.Ns b m -> (hidT s.heap H).Ns b m := by
    rintro b m ⟨o, es, ep, e, d, r⟩
    exact ⟨o, es, ep, hidT_get e (apart e fun l n z => by rw [d] at z; cases z), d, r⟩
  have Kb : K.In (hidT s.heap H) := by
    intro b o e
    refine hidT_get (KX b o e) ?_
    cases q : H b with
    | none => rfl
    | some u =>
      have e' := one b u q
      subst e'
      rw [out (by rw [q]; exact fun z => nomatch z)] at e
      cases e
  have M : Mod K mg (hidT s.heap H) := { kin := Kb, glob := keep n1, blt := ⟨mb, keep n2, n3⟩, nolimit := (let ⟨m, q1, q2⟩ := lim; ⟨m, keep q1, q2⟩) }
  have e0 : Env0 P w K mg (hidT s.heap H) callerA [] s H := { frames := rfl, mod := M, bs := (fun b o e => of_hidT e), bsz := Nat.le_of_eq (hidT_size _ _), funs := trivial, frf := (fun b z => absurd z List.not_mem_nil), hok := ok, bare := .of_eq hg }
  exact codeAny_mono ((F _ Kb (keep n1)).run callerA [] s H ⟨[.ref a], []⟩ [.ref a] [.ref a] _ _ ⟨hr, rfl⟩ e0 (hbind s (.ref a)) (.cons rfl .nil) hs) fun r s' q => ou' hO ok hCX r q
theorem ra' {P : Program} {w : World} {K : PySem.W.Frag} {mg mb : Str -> Option Value} {CX : CXT} {k : Nat} {fa a : Addr} {fd : FuncData} {x : Str} {sp : Sp} {s : Shared} {vs : List Value} {ns : List Int}
    (KX : K.In s.heap) (n1 : s.heap.Ns mainGlobals mg) (n2 : s.heap.Ns builtinsNs mb) (n3 : ∀ x : Str, x ≠ "__name__" -> mb x = bootBuiltins x) (lim : s.heap.NoLimit) (hg : s.gens = #[])
    (ha : s.heap.get? a = some { cls := .type "list", data := .seq vs.toArray }) (hi : IntsAre vs ns) (hl : ns.length <= sizeLine) (hr : Room k callerA)
    (F : ∀ base : Heap, K.In base -> base.Ns mainGlobals mg -> FnG P w K mg base CX k fa fd [x] sp) (hbind : ∀ (s : Shared) (u : Value), BindsTo s fd ⟨[u], []⟩ [(x, u)])
    (hsp : ∀ H : Hp, Only H -> SqL K H a (ns.map V.int) -> sp [.ref a] H (fun v _ => v = .bl true) fun _ _ _ => False) (hCX : ∀ H e s', CX [] H s (fun _ _ _ => False) e s' -> False) :
    codeAny (model P w) callerA (.call (.ref fa) ⟨[.ref a], []⟩) (fun r s' => r = .ok (.ret (.bool true)) /\ OldK s.heap s'.heap /\ s'.os = s.os /\ AllBare s'.gens) s := by
  have rv := vals_ints hi
  have zl : (vs.toArray).size <= sizeLine := by rw [List.size_toArray, hi.length]; exact hl
  rcases hk : K.lookup a with _ | o
  . -- the script alone is tracked
    let H : Hp := fun b => if b = a then some (.frz { cls := .type "list", data := .seq vs.toArray } (.lst (ns.map V.int))) else none
    have Ha : H a = some (.frz { cls := .type "list", data := .seq vs.toArray } (.lst (ns.map V.int))) := if_pos rfl
    have Hb : ∀ b u, H b = some u -> b = a := fun b u z => Classical.byContradiction fun nb => by rw [show H b = none from if_neg nb] at z; cases z
    have hO : Only H := fun b => (Decidable.em (b = a)).elim (fun e => .inr ⟨_, _, if_pos e⟩) fun e => .inl (if_neg e)
    refine kd' KX n1 n2 n3 lim hg ha hr F hbind hO (hsp H hO (.inl (.inr ⟨_, Ha⟩))) (hCX H) (fun b u z => ?_) Hb fun _ => hk
    have eb := Hb b u z
    subst eb
    rw [Ha] at z
    cases z
    exact ⟨ha, by rw [List.length_map]; exact hl, vs, _, rv, ha⟩
  . -- it is one of the module's own
    have e := KX a o hk
    rw [ha] at e
    cases e
    let H : Hp := fun _ => none
    have hO : Only H := fun _ => .inl rfl
    refine kd' KX n1 n2 n3 lim hg ha hr F hbind hO (hsp H hO (.inr ⟨_, vs.toArray, _, hk, rfl, rfl, rfl, zl, rv⟩)) (hCX H) (fun b u z => nomatch z) (fun b u z => nomatch z) fun z => absurd rfl z
theorem r2' {l : PySem.W.OpenLaw} {n k : Nat} {q : Program} {loose : List Str} {XP : (Str -> Option Value) -> Heap -> Prop} {YP : World -> Heap -> Prop} {d : DefRec} {CX : CXT} {x : Str}
    (hn : l.most = some n) (hn2 : n <= sizeLine) (hdf : d.params.defaults = []) (hr : Room k callerA)
    (F : ∀ (w : World) (mg : Str -> Option Value) (fa : Addr) (h : Heap), YP w h -> h.Ns mainGlobals mg -> mg d.name = some (.ref fa) -> ∃ (K : PySem.W.Frag) (fd : FuncData) (sp : Sp), K.In h ∧
      (∀ (s : Shared) (u : Value), BindsTo s fd ⟨[u], []⟩ [(x, u)]) /\ (∀ (H : Hp) (a : Addr) (ns : List Int), ns.length <= n -> Only H -> SqL K H a (ns.map V.int) -> sp [.ref a] H (fun v _ => v = .bl true) fun _ _ _ => False) ∧
        ∀ base : Heap, K.In base -> base.Ns mainGlobals mg -> FnG l.prog w K mg base CX k fa fd [x] sp)
    (hCX : ∀ (H : Hp) (s : Shared) (e : Value) (s' : Shared), CX [] H s (fun _ _ _ => False) e s' -> False) : PySem.W.WalkO q loose XP YP l.row.toRowW d [] (fun f vs => PySem.call f vs) :=
  Att.attach_call hn hdf fun w s₀ s₁ mg mb fa o pm cd doc a vs ns G Y ho hd hcd hmg hobj hints hlen hg => by
    obtain ⟨K, fd, sp, KX, hb, hsp, hF⟩ := F w mg fa _ Y G.T.g hmg
    exact ra' KX G.T.g G.T.b G.T.builtins G.T.nolimit hg hobj hints (Nat.le_trans hlen hn2) hr hF hb (fun H hO hS => hsp H a ns hlen hO hS) fun H e s' => hCX H s₁ e s'
theorem FnG.to0 {P : Program} {w : World} {K : PySem.W.Frag} {mg : Str -> Option Value} {base : Heap} {k : Nat} {f : Addr} {fd : FuncData} {ps : List Str} {sp : Sp} (F : FnG P w K mg base (L2.CX P w) k f fd ps sp) :
    FnG P w K mg base CX0 k f fd ps (fun vs H Q _ => sp vs H Q E0) := by
  refine ⟨fun vs H Q _ h => F.len vs H Q E0 h, fun A o s H args us vs Q _ hr he hb hv hs => codeAny_mono (F.run A o s H args us vs Q E0 hr he hb hv hs) fun r s' q => ?_⟩
  rcases r with e | fl
  . obtain ⟨_, _, _, _, _, _, _, _, _, _, _, _, z⟩ := q
    exact z.elim
  . cases fl <;> exact q
end S
namespace S
open PySem PySem.Spec PyProof.Rows L2
def sx (s : M.Tx) : Str := ⟨s.toArray⟩
theorem et' (s : M.Tx) : (sx s).cps.toList = s := rfl
theorem ck' (s : M.Tx) : (sx s).length = s.length := by show s.toArray.size = _; simp
theorem u1' (z : Str) : sx z.cps.toList = z := by cases z; rfl
theorem tV' {a b : M.Tx} (h : sx a = sx b) : a = b := by have := congrArg (fun z : Str => z.cps.toList) h; exact this
theorem xt' (a b : M.Tx) : sx a ++ sx b = sx (a ++ b) := it' (by rw [tt', et', et', et'])
def okT (s : M.Tx) : Prop := (∀ c ∈ s, c < 1114112) /\ s.length <= M.di'
def okK : Key -> Prop
  | .inl _ => True
  | .inr x => okT x.cps.toList
def kU' (kvs : List (Key × V)) : Prop := ∀ p ∈ kvs, okK p.1
theorem kU'.nil : kU' [] := fun _ h => nomatch h
theorem kU'.snoc {kvs : List (Key × V)} (h : kU' kvs) {k : Key} {v : V} (hk : okK k) : kU' (kvs ++ [(k, v)]) := fun p hp => by
  rcases List.mem_append.mp hp with hp | hp
  . exact h p hp
  . rw [List.mem_singleton.mp hp]; exact hk
theorem kU'.fst {kvs kvs' : List (Key × V)} (h : kU' kvs) (e : kvs'.map (·.1) = kvs.map (·.1)) : kU' kvs' := fun p hp => by
  have : p.1 ∈ kvs.map (·.1) := by rw [<- e]; exact List.mem_map_of_mem hp
  obtain ⟨q, h1, h2⟩ := List.mem_map.mp this
  rw [<- h2]; exact h q h1
def kD : Key -> M.D
  | .inl i => .int i
  | .inr x => .str x.cps.toList
mutual
def py : M.D -> PyData
  | .bl b => .bool b
  | .int i => .int i
  | .str s => .str (sx s)
  | .tup ds => .tuple (pys ds)
  | .lst ds => .list (pys ds)
  | .dct ks ds => .dict ((pys ks).zip (pys ds))
  | _ => .none
def pys : List M.D -> List PyData
  | [] => []
  | d :: r => py d :: pys r
end
class Wd where
  P : Program
  w : World
  ts : List (Addr × Str)
structure CloD where
  f : Addr
  c : Addr
  q : Str
  ob : Obj
  ws : List V
  caps : List M.D
class Hot where
  hot : Option (Addr × Nat × Option Addr × M.Exc)
  clo : List (Nat × CloD)
abbrev rG' (cs : List (Nat × CloD)) : Hot := ⟨none, cs⟩
instance coldI : Hot := ⟨none, []⟩
def FnO (f : Addr) (ob : Obj) : HO := .ext fun h => h.get? f = some ob
variable [Wd]
mutual
def nk : M.D -> NestedKey
  | .bl b => .num (if b = true then 1 else 0)
  | .int i => .num i
  | .str s => .text (sx s)
  | .tup ds => .tup (nks ds)
  | _ => .none
def nks : List M.D -> List NestedKey
  | [] => []
  | d :: r => nk d :: nks r
end
def lfD : M.D -> Leaf
  | .bl b => .num (if b = true then 1 else 0)
  | .int i => .num i
  | .str s => .text (sx s)
  | _ => .none
def dcL (p : Addr) (kvs : List (Leaf × V)) : HO := .ext fun h => (p == sysModules) = false /\ kvs.length <= sizeLine /\ ∃ vs, KV kvs vs /\ h.DictOf (leafKind Wd.P Wd.w) p vs
abbrev oH' : NestedKey × Addr × V -> NestedKey × Addr × Value -> Prop := fun x y => x.1 = y.1 /\ x.2.1 = y.2.1 /\ RelV x.2.2 y.2.2
def dcN (p : Addr) (xs : List (NestedKey × Addr × V)) : HO := .ext fun h => (p == sysModules) = false /\ xs.length <= sizeLine /\ (xs.map (·.1)).Nodup /\ ∃ ys, Paired oH' xs ys ∧
  ∃ o es ep, h.get? p = some o /\ o.ExactDict /\ o.data = .dict es ep /\ es.toList = ys.map (entryOfKey (nestedKind Wd.P Wd.w))
structure LeafKeys (ks : List M.D) (ls : List Leaf) : Prop where
  e : ls = ks.map lfD
  s : ∀ d ∈ ks, M.sca d = true
structure NestKeys (ks : List M.D) (xs : List (NestedKey × Addr × V)) : Prop where
  e : xs.map (·.1) = ks.map nk
  s : ∀ d ∈ ks, M.kat d = true /\ M.dep d <= 8 /\ M.sca d = false
section
variable (K : PySem.W.Frag)
mutual
/-- v stands for d: what it stands on lies in F and never changes; T: where the world's objects stand -/
inductive Fz (F : Hp) (T : List Addr) : V -> M.D -> Prop
  | non : Fz F T .non .non
  | bl (b : Bool) : Fz F T (.bl b) (.bl b)
  | int (i : Int) : Fz F T (.int i) (.int i)
  | str {s : M.Tx} : okT s -> Fz F T (.str (sx s)) (.str s)
  | tup {a : Addr} {vs : List V} {ds : List M.D} : SqT K F a vs -> FzA F T vs ds -> Fz F T (.ref a) (.tup ds)
  | lst {a : Addr} {vs : List V} {ds : List M.D} : F a = some (.lst vs) -> FzA F T vs ds -> Fz F T (.ref a) (.lst ds)
  | dct {a : Addr} {kvs : List (Key × V)} {ds : List M.D} : Rd F a (.dK kvs) -> kU' kvs -> FzA F T (kvs.map (·.2)) ds -> Fz F T (.ref a) (.dct (kvs.map fun p => kD p.1) ds)
  | dcl {a : Addr} {kvs : List (Leaf × V)} {ks ds : List M.D} : Rd F a (dcL a kvs) -> LeafKeys ks (kvs.map (·.1)) -> FzA F T (kvs.map (·.2)) ds -> Fz F T (.ref a) (.dcx ks ds)
  | dcn {a : Addr} {xs : List (NestedKey × Addr × V)} {ks ds : List M.D} : Rd F a (dcN a xs) -> NestKeys ks xs -> FzA F T (xs.map fun x => .ref x.2.1) ks -> FzA F T (xs.map (·.2.2)) ds -> Fz F T (.ref a) (.dcx ks ds)
  | rep (d : M.D) : Fz F T (.str (py d).shown) (.rep d)
  | obj {n : Nat} {a : Addr} : T[n]? = some a -> Fz F T (.ref a) (.obj n)
  | ty (n : String) : Fz F T (.ty n) (.ty n)
  | fn (x : String) : Fz F T (.ref (He.ga K x)) (.fn x)
  | scr {a : Addr} {vs : List V} {ds : List M.D} : SqL K F a vs -> FzA F T vs ds -> Fz F T (.ref a) (.scr ds)
inductive FzA (F : Hp) (T : List Addr) : List V -> List M.D -> Prop
  | nil : FzA F T [] []
  | cons {v : V} {vs : List V} {d : M.D} {ds : List M.D} : Fz F T v d -> FzA F T vs ds -> FzA F T (v :: vs) (d :: ds)
end
abbrev Fp := List (Addr × HO)
mutual
/-- v stands for o, alone; fp: what it stands on and may change -/
inductive Rp (F : Hp) (T : List Addr) : V -> M.O -> Fp -> Prop
  | fz {v : V} {d : M.D} : Fz K F T v d -> Rp F T v (.fz d) []
  | lst {p : Addr} {vs : List V} {os : List M.O} {fp : Fp} : RpA F T vs os fp -> Rp F T (.ref p) (.lst os) ((p, .lst vs) :: fp)
  | tup {p : Addr} {vs : List V} {os : List M.O} {fp : Fp} : RpA F T vs os fp -> Rp F T (.ref p) (.tup os) ((p, .tup vs) :: fp)
  | dct {p : Addr} {kvs : List (Key × V)} {os : List M.O} {fp : Fp} : kU' kvs -> RpA F T (kvs.map (·.2)) os fp -> Rp F T (.ref p) (.dct (kvs.map fun q => kD q.1) os) ((p, .dK kvs) :: fp)
  | dcl {p : Addr} {kvs : List (Leaf × V)} {ks : List M.D} {os : List M.O} {fp : Fp} : LeafKeys ks (kvs.map (·.1)) -> RpA F T (kvs.map (·.2)) os fp -> Rp F T (.ref p) (.dcx ks os) ((p, dcL p kvs) :: fp)
  | dcn {p : Addr} {xs : List (NestedKey × Addr × V)} {ks : List M.D} {os : List M.O} {fp : Fp} : NestKeys ks xs -> FzA K F T (xs.map fun x => .ref x.2.1) ks -> RpA F T (xs.map (·.2.2)) os fp -> Rp F T (.ref p) (.dcx ks os) ((p, dcN p xs) :: fp)
inductive RpA (F : Hp) (T : List Addr) : List V -> List M.O -> Fp -> Prop
  | nil : RpA F T [] [] []
  | cons {v : V} {vs : List V} {o : M.O} {os : List M.O} {fp fq : Fp} : Rp F T v o fp -> RpA F T vs os fq -> RpA F T (v :: vs) (o :: os) (fp ++ fq)
end
def XcR (F : Hp) (T : List Addr) (x : M.Exc) (cls : Value) (dd : Option Addr) : Prop :=
  cls = .ref (He.ga K x.cls) /\ ((x.fs = [] /\ dd = none) \/ ∃ (a : Addr) (f : String) (v : V) (d : M.D), x.fs = [(f, d)] /\ dd = some a /\ F a = some (.xd [(Str.ofString f, v)]) /\ Fz K F T v d)
structure CloAt (F : Hp) (T : List Addr) (c : CloD) : Prop where
  fn : Rd F c.f (FnO c.f c.ob)
  code : Rd F c.c (LamX.CodeO c.c c.q)
  caps : FzA K F T c.ws c.caps
variable [Hot]
inductive RpE (F : Hp) (T : List Addr) : St -> List (Option M.O) -> Fp -> Prop
  | nil : RpE F T [] [] []
  | off {x : Option V} {σ : St} {env : List (Option M.O)} {fp : Fp} : RpE F T σ env fp -> RpE F T (x :: σ) (none :: env) fp
  | on {v : V} {o : M.O} {σ : St} {env : List (Option M.O)} {fp fq : Fp} : Rp K F T v o fp -> RpE F T σ env fq -> RpE F T (some v :: σ) (some o :: env) (fp ++ fq)
  | hot {a : Addr} {dd : Option Addr} {x : M.Exc} {σ : St} {env : List (Option M.O)} {fp : Fp} : Hot.hot = some (a, env.length, dd, x) -> XcR K F T x (.ref (He.ga K x.cls)) dd -> RpE F T σ env fp -> RpE F T (some (.ref a) :: σ) (some .exn :: env) fp
  | clo {c : CloD} {σ : St} {env : List (Option M.O)} {fp : Fp} : Hot.clo.lookup env.length = some c -> CloAt K F T c -> RpE F T σ env fp -> RpE F T (some (.ref c.f) :: σ) (some .clo :: env) fp
inductive RpOb (F : Hp) (T : List Addr) : Addr -> M.Ob -> Fp -> Prop
  | lst {a : Addr} {vs : List V} {os : List M.O} {fp : Fp} : RpA K F T vs os fp -> RpOb F T a (.lst os) ((a, .lst vs) :: fp)
  | dct {a : Addr} {kvs : List (Key × V)} {os : List M.O} {fp : Fp} : kU' kvs -> RpA K F T (kvs.map (·.2)) os fp -> RpOb F T a (.dct (kvs.map fun q => kD q.1) os) ((a, .dK kvs) :: fp)
  | dcl {a : Addr} {kvs : List (Leaf × V)} {ks : List M.D} {os : List M.O} {fp : Fp} : LeafKeys ks (kvs.map (·.1)) -> RpA K F T (kvs.map (·.2)) os fp -> RpOb F T a (.dcx ks os) ((a, dcL a kvs) :: fp)
  | dcn {a : Addr} {xs : List (NestedKey × Addr × V)} {ks : List M.D} {os : List M.O} {fp : Fp} : NestKeys ks xs -> FzA K F T (xs.map fun x => .ref x.2.1) ks -> RpA K F T (xs.map (·.2.2)) os fp -> RpOb F T a (.dcx ks os) ((a, dcN a xs) :: fp)
  | ins {a dx : Addr} {C : String} {fs : List (String × V)} {os : List M.O} {fp : Fp} : F dx = some (.own a) -> RpA K F T (fs.map (·.2)) os fp →
      RpOb F T a (.ins C ((fs.map (·.1)).zip os)) ((a, .ins (He.ga K C) dx (fs.map fun q => (Str.ofString q.1, q.2))) :: fp)
inductive RpW (F : Hp) (T : List Addr) : List Addr -> M.W -> Fp -> Prop
  | nil : RpW F T [] [] []
  | cons {a : Addr} {l : List Addr} {ob : M.Ob} {w : M.W} {fp fq : Fp} : RpOb K F T a ob fp -> RpW F T l w fq -> RpW F T (a :: l) (ob :: w) (fp ++ fq)
structure Kept (F H : Hp) (fp : Fp) (F' H' : Hp) (fp' : Fp) : Prop where
  un : ∀ a, F a = none -> H a ≠ none -> (∀ e ∈ fp, e.1 ≠ a) -> F' a = none /\ H' a = H a /\ ∀ e ∈ fp', e.1 ≠ a
  cd : ∀ c q, Rd F c (LamX.CodeO c q) -> Rd F' c (LamX.CodeO c q)
structure TbAt (F H : Hp) (fp : Fp) (P : Addr) (q : Str) : Prop where
  f : F P = none
  n : ∀ e ∈ fp, e.1 ≠ P
  t : ∃ ps : Array Value, H P = some (.tbl ps) /\ TriplesOk ps.toList /\ ∀ (pos : Pos) (cv : Value), codeAmong pos ps.toList = some cv -> ∃ c, cv = .ref c /\ Rd F c (LamX.CodeO c q)
theorem TbAt.kept {F H F' H' : Hp} {fp fp' : Fp} {P : Addr} {q : Str} (h : TbAt F H fp P q) (k : Kept F H fp F' H' fp') : TbAt F' H' fp' P q := by
  obtain ⟨ps, h1, h2, h3⟩ := h.t
  obtain ⟨k1, k2, k3⟩ := k.un P h.f (by rw [h1]; simp) h.n
  refine ⟨k1, k3, ps, by rw [k2]; exact h1, h2, fun pos cv hc => ?_⟩
  obtain ⟨c, e1, e2⟩ := h3 pos cv hc
  exact ⟨c, e1, k.cd c q e2⟩
structure FpH (F H : Hp) (fp : Fp) : Prop where
  low : Same F H
  at_ : ∀ e ∈ fp, H e.1 = some e.2 /\ F e.1 = none
  nd : (fp.map (·.1)).Nodup
  tb : ∀ p ∈ Wd.ts, TbAt F H fp p.1 p.2
theorem FpH.tbs {F H F' H' : Hp} {fp fp' : Fp} (f : FpH F H fp) (un : ∀ a, F a = none -> H a ≠ none -> (∀ e ∈ fp, e.1 ≠ a) -> F' a = none /\ H' a = H a /\ ∀ e ∈ fp', e.1 ≠ a)
    (cd : ∀ c q, Rd F c (LamX.CodeO c q) -> Rd F' c (LamX.CodeO c q) := by exact fun _ _ h => h) : ∀ p ∈ Wd.ts, TbAt F' H' fp' p.1 p.2 := fun p hp => (f.tb p hp).kept ⟨un, cd⟩
theorem lc' {F F' : Hp} (s : Same F F') {c : Addr} {o : HO} (h : Rd F c o) : Rd F' c o := by
  rcases h with h | ⟨od, h⟩
  . exact .inl (s _ _ h)
  . exact .inr ⟨od, s _ _ h⟩
def Rel (ρ : M.PSt) (σ : St) (H F : Hp) (T : List Addr) (fr : Fp) : Prop := ∃ fe fw, RpE K F T σ ρ.env fe /\ RpW K F T T ρ.w fw /\ FpH F H (fe ++ (fw ++ fr))
abbrev rX' (w : M.W) (H F : Hp) (T : List Addr) (fr : Fp) : Prop := @Rel _ K coldI ⟨[], w⟩ [] H F T fr
theorem wU' {K : PySem.W.Frag} {F : Hp} {T : List Addr} : @RpE _ K coldI F T [] [] [] := @RpE.nil _ K coldI F T
def Lkb (o : HO) : Prop := (∃ kvs, o = .dK kvs) \/ ∃ φ, o = .ext φ
def Wk (F F' : Hp) : Prop := ∀ a o, F a = some o -> F' a = some o \/ Lkb o /\ ∃ od, F' a = some (.frz od o)
theorem Wk.of {F F' : Hp} (s : Same F F') : Wk F F' := fun a o h => .inl (s a o h)
theorem Wk.trans {F F' F2 : Hp} (s : Wk F F') (r : Wk F' F2) : Wk F F2 := fun a o h => by
  rcases s a o h with h1 | ⟨hl, od, h1⟩
  . exact r a o h1
  . rcases r a _ h1 with h2 | ⟨⟨_, e⟩ | ⟨_, e⟩, _⟩
    . exact .inr ⟨hl, od, h2⟩
    . cases e
    . cases e
theorem Wk.at_ {F F' : Hp} (s : Wk F F') {a : Addr} {o : HO} (h : F a = some o) (n : ∀ kvs, o ≠ .dK kvs) (n2 : ∀ φ, o ≠ .ext φ := by intro _ e; cases e) : F' a = some o := by
  rcases s a o h with h | ⟨⟨kvs, rfl⟩ | ⟨φ, rfl⟩, od, _⟩
  . exact h
  . exact absurd rfl (n kvs)
  . exact absurd rfl (n2 φ)
theorem Wk.rd {F F' : Hp} (s : Wk F F') {a : Addr} {u : HO} (hl : Lkb u) (h : Rd F a u) : Rd F' a u := by
  rcases h with h | ⟨o, h⟩
  . rcases s _ _ h with h | ⟨_, od, h⟩
    . exact .inl h
    . exact .inr ⟨od, h⟩
  . exact .inr ⟨o, s.at_ h fun _ e => nomatch e⟩
theorem Wk.lst {F F' : Hp} (s : Wk F F') {a : Addr} {vs : List V} (h : F a = some (.lst vs)) : F' a = some (.lst vs) := s.at_ h fun _ e => nomatch e
theorem Wk.dict {F F' : Hp} (s : Wk F F') {a : Addr} {kvs : List (Key × V)} (h : Rd F a (.dK kvs)) : Rd F' a (.dK kvs) := by
  exact s.rd (.inl ⟨_, rfl⟩) h
theorem Wk.seqT {K : PySem.W.Frag} {F F' : Hp} (s : Wk F F') {a : Addr} {xs : List V} (h : SqT K F a xs) : SqT K F' a xs := by
  rcases h with (h | ⟨o, h⟩) | h
  . exact .inl (.inl (s.at_ h fun _ e => nomatch e))
  . exact .inl (.inr ⟨o, s.at_ h fun _ e => nomatch e⟩)
  . exact .inr h
theorem Wk.seqL {K : PySem.W.Frag} {F F' : Hp} (s : Wk F F') {a : Addr} {xs : List V} (h : SqL K F a xs) : SqL K F' a xs := by
  rcases h with (h | ⟨o, h⟩) | h
  . exact .inl (.inl (s.at_ h fun _ e => nomatch e))
  . exact .inl (.inr ⟨o, s.at_ h fun _ e => nomatch e⟩)
  . exact .inr h
structure Ext (F : Hp) (T : List Addr) (F' : Hp) (T' : List Addr) : Prop where
  f : Wk F F'
  t : T <+: T'
end
variable [Hot]
section
variable {K : PySem.W.Frag} {F F' F2 H H' : Hp} {T T' T2 : List Addr}
theorem Ext.refl : Ext F T F T := ⟨fun _ _ h => .inl h, List.prefix_refl _⟩
theorem Ext.trans (a : Ext F T F' T') (b : Ext F' T' F2 T2) : Ext F T F2 T2 := ⟨a.f.trans b.f, a.t.trans b.t⟩
theorem Ext.of (h : Same F F') : Ext F T F' T := ⟨.of h, List.prefix_refl _⟩
theorem Ext.get (e : Ext F T F' T') {n : Nat} {a : Addr} (h : T[n]? = some a) : T'[n]? = some a := by
  obtain ⟨r, rfl⟩ := e.t
  rw [List.getElem?_append_left (List.getElem?_eq_some_iff.mp h).1]
  exact h
mutual
theorem Fz.mono (e : Ext F T F' T') : ∀ {v : V} {d : M.D}, Fz K F T v d -> Fz K F' T' v d
  | _, _, .non => .non
  | _, _, .bl b => .bl b
  | _, _, .int i => .int i
  | _, _, .str h => .str h
  | _, _, .tup h r => .tup (e.f.seqT h) (FzA.mono e r)
  | _, _, .lst h r => .lst (e.f.lst h) (FzA.mono e r)
  | _, _, .dct h k r => .dct (e.f.dict h) k (FzA.mono e r)
  | _, _, .dcl h k r => .dcl (e.f.rd (.inr ⟨_, rfl⟩) h) k (FzA.mono e r)
  | _, _, .dcn h k q r => .dcn (e.f.rd (.inr ⟨_, rfl⟩) h) k (FzA.mono e q) (FzA.mono e r)
  | _, _, .rep d => .rep d
  | _, _, .obj h => .obj (e.get h)
  | _, _, .ty n => .ty n
  | _, _, .fn x => .fn x
  | _, _, .scr h r => .scr (e.f.seqL h) (FzA.mono e r)
theorem FzA.mono (e : Ext F T F' T') : ∀ {vs : List V} {ds : List M.D}, FzA K F T vs ds -> FzA K F' T' vs ds
  | _, _, .nil => .nil
  | _, _, .cons h r => .cons (Fz.mono e h) (FzA.mono e r)
end
mutual
theorem Rp.mono (e : Ext F T F' T') : ∀ {v : V} {o : M.O} {fp : Fp}, Rp K F T v o fp -> Rp K F' T' v o fp
  | _, _, _, .fz h => .fz (h.mono e)
  | _, _, _, .lst r => .lst (RpA.mono e r)
  | _, _, _, .tup r => .tup (RpA.mono e r)
  | _, _, _, .dct k r => .dct k (RpA.mono e r)
  | _, _, _, .dcl k r => .dcl k (RpA.mono e r)
  | _, _, _, .dcn k q r => .dcn k (q.mono e) (RpA.mono e r)
theorem RpA.mono (e : Ext F T F' T') : ∀ {vs : List V} {os : List M.O} {fp : Fp}, RpA K F T vs os fp -> RpA K F' T' vs os fp
  | _, _, _, .nil => .nil
  | _, _, _, .cons h r => .cons (Rp.mono e h) (RpA.mono e r)
end
theorem XcR.mono' (e : Ext F T F' T') {x : M.Exc} {cls : Value} {dd : Option Addr} (h : XcR K F T x cls dd) : XcR K F' T' x cls dd := by
  obtain ⟨h1, h2 | ⟨a, f, v, d, h3, h4, h5, h6⟩⟩ := h
  . exact ⟨h1, .inl h2⟩
  . exact ⟨h1, .inr ⟨a, f, v, d, h3, h4, e.f.at_ h5 (fun _ z => nomatch z), h6.mono e⟩⟩
theorem CloAt.mono (e : Ext F T F' T') {c : CloD} (h : CloAt K F T c) : CloAt K F' T' c := ⟨e.f.rd (.inr ⟨_, rfl⟩) h.fn, e.f.rd (.inr ⟨_, rfl⟩) h.code, h.caps.mono e⟩
theorem RpE.mono (e : Ext F T F' T') {σ : St} {env : List (Option M.O)} {fp : Fp} (h : RpE K F T σ env fp) : RpE K F' T' σ env fp := by
  induction h with
  | nil => exact .nil
  | off _ ih => exact .off ih
  | on r _ ih => exact .on (r.mono e) ih
  | hot h z _ ih => exact .hot h (z.mono' e) ih
  | clo h z _ ih => exact .clo h (z.mono e) ih
theorem RpOb.mono (e : Ext F T F' T') {a : Addr} {ob : M.Ob} {fp : Fp} (h : RpOb K F T a ob fp) : RpOb K F' T' a ob fp := by
  cases h with
  | lst r => exact .lst (r.mono e)
  | dct k r => exact .dct k (r.mono e)
  | dcl k r => exact .dcl k (r.mono e)
  | dcn k q r => exact .dcn k (q.mono e) (r.mono e)
  | ins d r => exact .ins (e.f.at_ d fun _ z => nomatch z) (r.mono e)
theorem RpW.mono (e : Ext F T F' T') {l : List Addr} {w : M.W} {fp : Fp} (h : RpW K F T l w fp) : RpW K F' T' l w fp := by
  induction h with
  | nil => exact .nil
  | cons r _ ih => exact .cons (r.mono e) ih
theorem FpH.new {p : Addr} {o : HO} {fp : Fp} (f : FpH F H fp) (hp : H p = none) : FpH (upd F p o) (upd H p o) fp := by
  have np : ∀ e ∈ fp, e.1 ≠ p := fun e he => ne_of_none (f.at_ e he).1 hp
  refine ⟨fun a u h => ?_, fun e he => ?_, f.nd, f.tbs (fun a h1 h2 h3 => ?_) fun c q h => lc' (fun b u e => by rw [upd_ne (fun z => by rw [z] at e; rw [f.low _ _ e] at hp; cases hp)]; exact e) h⟩
  . by_cases ha : a = p
    . subst ha; rw [upd_same] at h ⊢; exact h
    . rw [upd_ne ha] at h ⊢; exact f.low _ _ h
  . rw [upd_ne (np e he), upd_ne (np e he)]; exact f.at_ e he
  . have ha : a ≠ p := fun z => h2 (by rw [z]; exact hp)
    exact ⟨by rw [upd_ne ha]; exact h1, upd_ne ha, h3⟩
theorem FpH.free {fp : Fp} (f : FpH F H fp) {p : Addr} (hp : H p = none) : F p = none := by
  cases h : F p with
  | none => rfl
  | some o => rw [f.low _ _ h] at hp; cases hp
theorem cJ' {p : Addr} {o : HO} (h : F p = none) : Same F (upd F p o) := fun b u e => by rw [upd_ne (ne_of_none e h)]; exact e
end
section
variable {K : PySem.W.Frag} {W : WX} {α β : Type}
abbrev Wx := M.Exc -> M.PSt -> Prop
def aU' (r : M.Res α) (P : α -> M.PSt -> Prop) (X : Wx) : Prop := match r with
  | .ok a ρ => P a ρ
  | .exc x ρ => X x ρ
  | .bad => False
theorem aU'.bind {r : M.Res α} {f : α -> M.PSt -> M.Res β} {P : β -> M.PSt -> Prop} {X : Wx} (h : aU' (r.bind f) P X) : aU' r (fun a ρ => aU' (f a ρ) P X) X := by
  cases r with
  | ok a ρ => exact h
  | exc x ρ => exact h
  | bad => exact h
theorem aU'.ofO {o : Option α} {ρ : M.PSt} {P : α -> M.PSt -> Prop} {X : Wx} (h : aU' (M.ofO o ρ) P X) : ∃ a, o = some a /\ P a ρ := by
  cases o with
  | none => exact h.elim
  | some a => exact ⟨a, rfl, h⟩
theorem aU'.mono {r : M.Res α} {P P' : α -> M.PSt -> Prop} {X X' : Wx} (h : aU' r P X) (hp : ∀ a ρ, P a ρ -> P' a ρ) (hx : ∀ x ρ, X x ρ -> X' x ρ) : aU' r P' X' := by
  cases r with
  | ok a ρ => exact hp _ _ h
  | exc x ρ => exact hx _ _ h
  | bad => exact h
def EX (K : PySem.W.Frag) (W : WX) (σ : St) (F : Hp) (T : List Addr) (fr : Fp) : Wx := fun x ρ => ∀ cls dd H' F' T', Ext F T F' T' -> XcR K F' T' x cls dd -> Rel K ρ σ H' F' T' fr -> W cls dd σ H'
theorem EX.mono {σ : St} {F F' : Hp} {T T' : List Addr} {fr : Fp} {x : M.Exc} {ρ : M.PSt} (h : EX K W σ F T fr x ρ) (e : Ext F T F' T') : EX K W σ F' T' fr x ρ := fun cls dd H' F2 T2 e2 => h cls dd H' F2 T2 (e.trans e2)
def qE (K : PySem.W.Frag) (W : WX) (m : M.ME) : TE := fun σ H Q => ∃ ρ F T fr, Rel K ρ σ H F T fr ∧
  aU' (m ρ) (fun d ρ' => ∀ v H' F' T', Ext F T F' T' -> Fz K F' T' v d -> Rel K ρ' σ H' F' T' fr -> Q v H') (EX K W σ F T fr)
def qO (K : PySem.W.Frag) (W : WX) (m : M.MO) : TE := fun σ H Q => ∃ ρ F T fr, Rel K ρ σ H F T fr ∧
  aU' (m ρ) (fun o ρ' => ∀ v H' F' T' fp, Ext F T F' T' -> Rp K F' T' v o fp -> Rel K ρ' σ H' F' T' (fp ++ fr) -> Q v H') (EX K W σ F T fr)
def qA (K : PySem.W.Frag) (W : WX) (m : M.MA) : TA := fun σ H Q => ∃ ρ F T fr, Rel K ρ σ H F T fr ∧
  aU' (m ρ) (fun ds ρ' => ∀ vs H' F' T', Ext F T F' T' -> FzA K F' T' vs ds -> Rel K ρ' σ H' F' T' fr -> Q vs H') (EX K W σ F T fr)
def qT (K : PySem.W.Frag) (W : WX) (m : M.MT) : TT := fun σ H Q => ∃ ρ F T fr, Rel K ρ σ H F T fr ∧
  aU' (m ρ) (fun b ρ' => ∀ H' F' T', Ext F T F' T' -> Rel K ρ' σ H' F' T' fr -> Q b H') (EX K W σ F T fr)
def qP (K : PySem.W.Frag) (W : WX) (m : M.MP) : TO := fun σ H Q => ∃ ρ F T fr, Rel K ρ σ H F T fr ∧
  aU' (m ρ) (fun b ρ' => ∀ H' F' T', Ext F T F' T' -> Rel K ρ' σ H' F' T' fr -> Q b H') (EX K W σ F T fr)
def bF' (K : PySem.W.Frag) (W : WX) (D : Ends) (F : Hp) (T : List Addr) (fr : Fp) : M.Out -> Prop
  | .nx ρ => ∀ σ' H' F' T', Ext F T F' T' -> Rel K ρ σ' H' F' T' fr -> D.nx σ' H'
  | .bk ρ => ∀ σ' H' F' T', Ext F T F' T' -> Rel K ρ σ' H' F' T' fr -> D.bk σ' H'
  | .ct ρ => ∀ σ' H' F' T', Ext F T F' T' -> Rel K ρ σ' H' F' T' fr -> D.ct σ' H'
  | .rt o w => ∀ v H' F' T' fp, Ext F T F' T' -> Rp K F' T' v o fp -> rX' K (w) H' F' T' (fp ++ fr) -> D.rt v H'
  | .exc x ρ => ∀ σ' cls dd H' F' T', Ext F T F' T' -> XcR K F' T' x cls dd -> Rel K ρ σ' H' F' T' fr -> W cls dd σ' H'
  | .bad => False
def qS (K : PySem.W.Frag) (W : WX) (m : M.MS) : TS := fun D σ H => ∃ ρ F T fr, Rel K ρ σ H F T fr /\ bF' K W D F T fr (m ρ)
abbrev SE (X : Cx) (W : WX) (e : Expr) (m : M.ME) : Prop := PE X e (qE X.K W m)
abbrev SO (X : Cx) (W : WX) (e : Expr) (m : M.MO) : Prop := PE X e (qO X.K W m)
abbrev SA (X : Cx) (W : WX) (es : List Expr) (m : M.MA) : Prop := PA X es (qA X.K W m)
abbrev ST (X : Cx) (W : WX) (e : Expr) (m : M.MT) : Prop := PT X e (qT X.K W m)
abbrev SS (X : Cx) (W : WX) (s : Stmt) (m : M.MS) : Prop := PS X s (qS X.K W m)
abbrev SSs (X : Cx) (W : WX) (s : List Stmt) (m : M.MS) : Prop := PSs X s (qS X.K W m)
theorem PE.imp {X : Cx} {e : Expr} {t t' : TE} (h : PE X e t) (i : ∀ σ H Q, t' σ H Q -> t σ H Q) : PE X e t' := ⟨fun pins s σ H Q I q => h.run pins s σ H Q I (i σ H Q q)⟩
theorem PT.imp {X : Cx} {e : Expr} {t t' : TT} (h : PT X e t) (i : ∀ σ H Q, t' σ H Q -> t σ H Q) : PT X e t' := ⟨fun pins s σ H Q I q => h.run pins s σ H Q I (i σ H Q q)⟩
theorem PW.imp {X : Cx} {e : Expr} {t t' : TT} (h : PW X e t) (i : ∀ σ H Q, t' σ H Q -> t σ H Q) : PW X e t' := ⟨fun wh pins s σ H Q I q => h.run wh pins s σ H Q I (i σ H Q q)⟩
theorem PA.imp {X : Cx} {e : List Expr} {t t' : TA} (h : PA X e t) (i : ∀ σ H Q, t' σ H Q -> t σ H Q) : PA X e t' := ⟨fun pos pins s σ H Q I q => h.run pos pins s σ H Q I (i σ H Q q)⟩
theorem PS.imp {X : Cx} {e : Stmt} {t t' : TS} (h : PS X e t) (i : ∀ D σ H, t' D σ H -> t D σ H) : PS X e t' := ⟨fun pins s σ H Q I q => h.run pins s σ H Q I (i Q σ H q)⟩
theorem PSs.imp {X : Cx} {e : List Stmt} {t t' : TS} (h : PSs X e t) (i : ∀ D σ H, t' D σ H -> t D σ H) : PSs X e t' := ⟨fun pins s σ H Q I q => h.run pins s σ H Q I (i Q σ H q)⟩
theorem PO.imp {X : Cx} {e : Option Expr} {t t' : TO} (h : PO X e t) (i : ∀ σ H Q, t' σ H Q -> t σ H Q) : PO X e t' := ⟨fun pins s σ H Q I q => h.run pins s σ H Q I (i σ H Q q)⟩
variable {σ : St} {H F : Hp} {T : List Addr} {fr : Fp} {ρ : M.PSt} {P : β -> M.PSt -> Prop} {X : Wx}
theorem az' {m : M.ME} {k : M.D -> M.PSt -> M.Res β} {Q : VK} (rel : Rel K ρ σ H F T fr) (h : aU' ((m ρ).bind k) P (EX K W σ F T fr))
    (q : ∀ d ρ1 v H1 F1 T1, Ext F T F1 T1 -> Fz K F1 T1 v d -> Rel K ρ1 σ H1 F1 T1 fr -> aU' (k d ρ1) P (EX K W σ F1 T1 fr) -> Q v H1) : qE K W m σ H Q :=
  ⟨ρ, F, T, fr, rel, (aU'.bind h).mono (fun d ρ1 h1 v H1 F1 T1 e z r => q d ρ1 v H1 F1 T1 e z r (h1.mono (fun _ _ z => z) fun _ _ z => z.mono e)) fun _ _ z => z⟩
theorem dv' {m : M.MA} {k : List M.D -> M.PSt -> M.Res β} {Q : List V -> Hp -> Prop} (rel : Rel K ρ σ H F T fr) (h : aU' ((m ρ).bind k) P (EX K W σ F T fr))
    (q : ∀ ds ρ1 vs H1 F1 T1, Ext F T F1 T1 -> FzA K F1 T1 vs ds -> Rel K ρ1 σ H1 F1 T1 fr -> aU' (k ds ρ1) P (EX K W σ F1 T1 fr) -> Q vs H1) : qA K W m σ H Q :=
  ⟨ρ, F, T, fr, rel, (aU'.bind h).mono (fun d ρ1 h1 v H1 F1 T1 e z r => q d ρ1 v H1 F1 T1 e z r (h1.mono (fun _ _ z => z) fun _ _ z => z.mono e)) fun _ _ z => z⟩
theorem le' {m : M.MT} {k : Bool -> M.PSt -> M.Res β} {Q : Bool -> Hp -> Prop} (rel : Rel K ρ σ H F T fr) (h : aU' ((m ρ).bind k) P (EX K W σ F T fr))
    (q : ∀ b ρ1 H1 F1 T1, Ext F T F1 T1 -> Rel K ρ1 σ H1 F1 T1 fr -> aU' (k b ρ1) P (EX K W σ F1 T1 fr) -> Q b H1) : qT K W m σ H Q :=
  ⟨ρ, F, T, fr, rel, (aU'.bind h).mono (fun d ρ1 h1 H1 F1 T1 e r => q d ρ1 H1 F1 T1 e r (h1.mono (fun _ _ z => z) fun _ _ z => z.mono e)) fun _ _ z => z⟩
theorem qw' {m : M.MP} {k : Option Int -> M.PSt -> M.Res β} {Q : Option Int -> Hp -> Prop} (rel : Rel K ρ σ H F T fr) (h : aU' ((m ρ).bind k) P (EX K W σ F T fr))
    (q : ∀ b ρ1 H1 F1 T1, Ext F T F1 T1 -> Rel K ρ1 σ H1 F1 T1 fr -> aU' (k b ρ1) P (EX K W σ F1 T1 fr) -> Q b H1) : qP K W m σ H Q :=
  ⟨ρ, F, T, fr, rel, (aU'.bind h).mono (fun d ρ1 h1 H1 F1 T1 e r => q d ρ1 H1 F1 T1 e r (h1.mono (fun _ _ z => z) fun _ _ z => z.mono e)) fun _ _ z => z⟩
end
end S
namespace S
open PySem PySem.Spec PyProof.Rows L2
variable [Wd] [Hot]
section
variable {K : PySem.W.Frag} {F H : Hp} {T : List Addr} {v : V} {d : M.D} {vs ws : List V} {ds es : List M.D}
theorem Fz.int_inv {i : Int} (h : Fz K F T v (.int i)) : v = .int i := by cases h; rfl
theorem Fz.bl_inv {i : Bool} (h : Fz K F T v (.bl i)) : v = .bl i := by cases h; rfl
theorem Fz.non_inv (h : Fz K F T v .non) : v = .non := by cases h; rfl
theorem Fz.str_inv {s : M.Tx} (h : Fz K F T v (.str s)) : v = .str (sx s) /\ okT s := by cases h with | str h => exact ⟨rfl, h⟩
theorem Fz.tup_inv (h : Fz K F T v (.tup ds)) : ∃ a vs, v = .ref a /\ SqT K F a vs /\ FzA K F T vs ds := by cases h with | tup h r => exact ⟨_, _, rfl, h, r⟩
theorem Fz.lst_inv (h : Fz K F T v (.lst ds)) : ∃ a vs, v = .ref a /\ F a = some (.lst vs) /\ FzA K F T vs ds := by cases h with | lst h r => exact ⟨_, _, rfl, h, r⟩
theorem FzA.length : ∀ {vs : List V} {ds : List M.D}, FzA K F T vs ds -> vs.length = ds.length
  | _, _, .nil => rfl
  | _, _, .cons _ r => congrArg (· + 1) (FzA.length r)
theorem FzA.append : ∀ {vs ws : List V} {ds es : List M.D}, FzA K F T vs ds -> FzA K F T ws es -> FzA K F T (vs ++ ws) (ds ++ es)
  | _, _, _, _, .nil, h => h
  | _, _, _, _, .cons a r, h => .cons a (FzA.append r h)
theorem FzA.take : ∀ {vs : List V} {ds : List M.D} (n : Nat), FzA K F T vs ds -> FzA K F T (vs.take n) (ds.take n)
  | _, _, 0, _ => .nil
  | _, _, n + 1, .nil => .nil
  | _, _, n + 1, .cons a r => .cons a (FzA.take n r)
theorem FzA.drop : ∀ {vs : List V} {ds : List M.D} (n : Nat), FzA K F T vs ds -> FzA K F T (vs.drop n) (ds.drop n)
  | _, _, 0, h => h
  | _, _, n + 1, .nil => .nil
  | _, _, n + 1, .cons a r => FzA.drop n r
theorem FzA.get : ∀ {vs : List V} {ds : List M.D} {i : Nat} {d : M.D}, FzA K F T vs ds -> ds[i]? = some d -> ∃ v, vs[i]? = some v /\ Fz K F T v d
  | _, _, _, _, .nil, e => by cases e
  | _, _, 0, _, .cons h _, e => ⟨_, rfl, by rw [<- Option.some.inj e]; exact h⟩
  | _, _, i + 1, _, .cons _ r, e => FzA.get (i := i) r e
theorem FzA.rev {vs : List V} {ds : List M.D} (h : FzA K F T vs ds) : FzA K F T vs.reverse ds.reverse := by
  match vs, ds, h with
  | [], [], .nil => exact .nil
  | v :: vs, d :: ds, .cons a r =>
    rw [List.reverse_cons, List.reverse_cons]
    exact FzA.append (FzA.rev r) (.cons a .nil)
theorem FzA.rep {vs : List V} {ds : List M.D} (h : FzA K F T vs ds) : ∀ n, FzA K F T (List.replicate n vs).flatten (List.replicate n ds).flatten
  | 0 => .nil
  | n + 1 => FzA.append h (FzA.rep h n)
theorem FzA.cutV {lo hi : Option Int} (h : FzA K F T vs ds) : FzA K F T (cutV vs lo hi) (M.cut ds lo hi) := by
  unfold L2.cutV M.cut
  rw [h.length]
  exact FzA.take _ (FzA.drop _ h)
theorem FzA.of_all : ∀ {n : Nat} {f : Nat -> V} {g : Nat -> M.D}, (∀ i, Fz K F T (f i) (g i)) -> FzA K F T ((List.range n).map f) ((List.range n).map g) := by
  intro n f g h
  generalize List.range n = l
  induction l with
  | nil => exact .nil
  | cons a l ih => exact .cons (h a) ih
theorem om' {c : Nat} (h : c < 1114112) : Fz K F T (.str ⟨#[c]⟩) (M.chD c) := Fz.str (s := [c]) ⟨fun x hx => by rw [List.mem_singleton.mp hx]; exact h, by show 1 <= 16777216; decide⟩
theorem FzA.chars : ∀ {s : M.Tx}, (∀ c ∈ s, c < 1114112) -> FzA K F T (s.map chv) (s.map M.chD)
  | [], _ => .nil
  | c :: s, h => .cons (om' (h c (by simp))) (FzA.chars fun x hx => h x (by simp [hx]))
theorem SqT.low (s : Same F H) {a : Addr} (h : SqT K F a vs) : SqT K H a vs := seqT s h
theorem okT.app {a b : M.Tx} (h1 : okT a) (h2 : okT b) (h : a.length + b.length <= M.di') : okT (a ++ b) :=
  ⟨fun c hc => (List.mem_append.mp hc).elim (h1.1 c) (h2.1 c), by rw [List.length_append]; exact h⟩
theorem okT.sub {a b : M.Tx} (h1 : okT a) (h : ∀ c ∈ b, c ∈ a) (hl : b.length <= a.length) : okT b := ⟨fun c hc => h1.1 c (h c hc), Nat.le_trans hl h1.2⟩
theorem okT.len {s : M.Tx} (h : okT s) : (sx s).length <= sizeLine := by rw [ck', sizeLine_eq]; exact h.2
theorem bL' : sizeLine = M.di' := sizeLine_eq
theorem Rel.fp {ρ : M.PSt} {σ : St} {fr : Fp} (r : Rel K ρ σ H F T fr) : ∃ fp, FpH F H fp /\ ∀ H' F', Same F F' -> FpH F' H' fp -> Rel K ρ σ H' F' T fr := by
  obtain ⟨fe, fw, re, rw, f⟩ := r
  exact ⟨_, f, fun H' F' s f' => ⟨fe, fw, re.mono (.of s), rw.mono (.of s), f'⟩⟩
abbrev e5' (K : PySem.W.Frag) (F : Hp) (T : List Addr) (fp : Fp) (dz : M.D) (Q : VK) : Prop := ∀ v H' F', Same F F' -> Fz K F' T v dz -> FpH F' H' fp -> Q v H'
theorem e5'.here {fp : Fp} {dz : M.D} {Q : VK} (k : e5' K F T fp dz Q) (f : FpH F H fp) (z : Fz K F T v dz) : Q v H := k v H F (fun _ _ e => e) z f
theorem e5'.newT {fp : Fp} {Q : VK} (k : e5' K F T fp (.tup ds) Q) (f : FpH F H fp) (z : FzA K F T vs ds) {p : Addr} (hp : H p = none) : Q (.ref p) (upd H p (.tup vs)) := by
  have s : Same F (upd F p (.tup vs)) := cJ' (f.free hp)
  exact k _ _ _ s (.tup (SqT.of upd_same) (z.mono (.of s))) (f.new hp)
theorem e5'.newL {fp : Fp} {Q : VK} (k : e5' K F T fp (.lst ds) Q) (f : FpH F H fp) (z : FzA K F T vs ds) {p : Addr} (hp : H p = none) : Q (.ref p) (upd H p (.lst vs)) := by
  have s : Same F (upd F p (.lst vs)) := cJ' (f.free hp)
  exact k _ _ _ s (.lst upd_same (z.mono (.of s))) (f.new hp)
end
section
variable (K : PySem.W.Frag)
def Op2 (f : M.D -> M.D -> Option M.D) (r : R2) : Prop := ∀ {F H : Hp} {T : List Addr} {fp : Fp} {x y : V} {dx dy dz : M.D} {Q : VK}, FpH F H fp -> Fz K F T x dx -> Fz K F T y dy -> f dx dy = some dz -> e5' K F T fp dz Q -> r x y H Q
end
section
variable {K : PySem.W.Frag}
mutual
theorem Fz.py {F H : Hp} {T : List Addr} (s : Same F H) : ∀ {v : V} {d : M.D}, Fz K F T v d -> M.dat d = true -> Dp K H v (py d)
  | _, _, .non, _ => .non
  | _, _, .bl b, _ => .bl b
  | _, _, .int i, _ => .int i
  | _, _, .str h, _ => .str _
  | _, _, .tup h r, e => .tup (seqT s h) (FzA.py s r e)
  | _, _, .lst h r, e => .lst (SqL.of (s _ _ h)) (FzA.py s r e)
  | _, _, .dct h _ r, e => by cases e
  | _, _, .dcl _ _ _, e => by cases e
  | _, _, .dcn _ _ _ _, e => by cases e
  | _, _, .rep _, e => by cases e
  | _, _, .obj h, e => by cases e
  | _, _, .ty n, e => by cases e
  | _, _, .fn x, e => by cases e
  | _, _, .scr h r, e => by cases e
theorem FzA.py {F H : Hp} {T : List Addr} (s : Same F H) : ∀ {vs : List V} {ds : List M.D}, FzA K F T vs ds -> M.dats ds = true -> DpAll K H vs (pys ds)
  | _, _, .nil, _ => .nil
  | _, _, .cons h r, e => by
    obtain ⟨e1, e2⟩ := Bool.and_eq_true_iff.mp (show (M.dat _ && M.dats _) = true from e)
    exact .cons (Fz.py s h e1) (FzA.py s r e2)
end
theorem r9' {s : M.Tx} (h : okT s) : PyData.strOk (sx s) = true := by
  unfold PyData.strOk
  rw [Array.all_eq_true']
  intro c hc
  have := h.1 c (by simpa [sx] using hc)
  simp only [decide_eq_true_eq]
  omega
mutual
theorem nx' {F : Hp} {T : List Addr} : ∀ {v : V} {d : M.D}, Fz K F T v d -> M.dat d = true -> (py d).canLay0 = true /\ (py d).depth = M.dep d
  | _, _, .non, _ => ⟨rfl, rfl⟩
  | _, _, .bl b, _ => ⟨rfl, rfl⟩
  | _, _, .int i, _ => ⟨rfl, rfl⟩
  | _, _, .str h, _ => ⟨r9' h, rfl⟩
  | _, _, .tup h r, e => by
    obtain ⟨h1, h2⟩ := lays_of r e
    exact ⟨h1, congrArg (· + 1) h2⟩
  | _, _, .lst h r, e => by
    obtain ⟨h1, h2⟩ := lays_of r e
    exact ⟨h1, congrArg (· + 1) h2⟩
  | _, _, .dct h _ r, e => by cases e
  | _, _, .dcl _ _ _, e => by cases e
  | _, _, .dcn _ _ _ _, e => by cases e
  | _, _, .rep _, e => by cases e
  | _, _, .obj h, e => by cases e
  | _, _, .ty n, e => by cases e
  | _, _, .fn x, e => by cases e
  | _, _, .scr h r, e => by cases e
theorem lays_of {F : Hp} {T : List Addr} : ∀ {vs : List V} {ds : List M.D}, FzA K F T vs ds -> M.dats ds = true -> PyData.canLayAll0 (pys ds) = true /\ PyData.depthAll (pys ds) = M.deps ds
  | _, _, .nil, _ => ⟨rfl, rfl⟩
  | _, _, .cons h r, e => by
    obtain ⟨e1, e2⟩ := Bool.and_eq_true_iff.mp (show (M.dat _ && M.dats _) = true from e)
    obtain ⟨a1, a2⟩ := nx' h e1
    obtain ⟨b1, b2⟩ := lays_of r e2
    refine ⟨?_, ?_⟩
    . show (PyData.canLay0 _ && PyData.canLayAll0 _) = true
      rw [a1, b1]; rfl
    . show max (PyData.depth _) (PyData.depthAll _) = max _ _
      rw [a2, b2]
end
theorem tW' (a b : M.Tx) : (sx a == sx b) = (a == b) := by
  rw [Bool.eq_iff_iff, beq_iff_eq, beq_iff_eq]
  exact ⟨tV', fun h => by rw [h]⟩
mutual
theorem un' : ∀ (d e : M.D), M.dat d = true -> M.dat e = true -> PyData.eqv (py d) (py e) = M.eqb d e
  | .non, e, _, h => by cases e <;> first | rfl | cases h
  | .bl a, e, _, h => by cases e <;> first | rfl | cases h
  | .int a, e, _, h => by cases e <;> first | rfl | cases h
  | .str a, e, _, h => by
    cases e with
    | str b => exact tW' a b
    | _ => first | rfl | cases h
  | .tup a, e, h1, h => by
    cases e with
    | tup b => exact eqvs_py a b h1 h
    | _ => first | rfl | cases h
  | .lst a, e, h1, h => by
    cases e with
    | lst b => exact eqvs_py a b h1 h
    | _ => first | rfl | cases h
  | .dct _ _, _, h, _ => by cases h
  | .obj _, _, h, _ => by cases h
  | .ty _, _, h, _ => by cases h
  | .fn _, _, h, _ => by cases h
  | .exc _ _, _, h, _ => by cases h
  | .scr _, _, h, _ => by cases h
theorem eqvs_py : ∀ (d e : List M.D), M.dats d = true -> M.dats e = true -> PyData.eqvAll (pys d) (pys e) = M.eqbs d e
  | [], [], _, _ => rfl
  | [], _ :: _, _, _ => rfl
  | _ :: _, [], _, _ => rfl
  | a :: d, b :: e, h1, h2 => by
    obtain ⟨a1, a2⟩ := Bool.and_eq_true_iff.mp (show (M.dat _ && M.dats _) = true from h1)
    obtain ⟨b1, b2⟩ := Bool.and_eq_true_iff.mp (show (M.dat _ && M.dats _) = true from h2)
    show (PyData.eqv (py a) (py b) && PyData.eqvAll (pys d) (pys e)) = (M.eqb a b && M.eqbs d e)
    rw [un' a b a1 b1, eqvs_py d e a2 b2]
end
theorem yK' {F H : Hp} {T : List Addr} {fp : Fp} {x y : V} {dx dy : M.D} {b : Bool} (f : FpH F H fp) (hx : Fz K F T x dx) (hy : Fz K F T y dy) (h : M.eqv dx dy = some b) :
    ∃ d e, Dp K H x d /\ Dp K H y e /\ SeqAt.shaped d = true /\ SeqAt.shaped e = true /\ PyData.eqv d e = b := by
  unfold M.eqv at h
  split at h
  . rename_i c
    obtain ⟨c1, c2, c3, c4⟩ := c
    obtain ⟨a1, a2⟩ := nx' hx c1
    obtain ⟨b1, b2⟩ := nx' hy c2
    refine ⟨_, _, hx.py f.low c1, hy.py f.low c2, ?_, ?_, ?_⟩
    . exact Sh.shaped (n := 64) ⟨a1, by rw [a2]; exact c3⟩ (Nat.le_refl _)
    . exact Sh.shaped (n := 64) ⟨b1, by rw [b2]; exact c4⟩ (Nat.le_refl _)
    . rw [un' _ _ c1 c2]; exact Option.some.inj h
  . cases h
theorem ll' : Op2 K M.pEq (AP' K) := by
  intro F H T fp x y dx dy dz Q f hx hy h k
  unfold M.pEq M.ob at h
  cases e : M.eqv dx dy with
  | none => rw [e] at h; cases h
  | some b =>
    rw [e] at h
    cases h
    obtain ⟨d, e, h1, h2, h3, h4, h5⟩ := yK' f hx hy e
    exact .inr ⟨d, e, h1, h2, h3, h4, by rw [h5]; exact k.here f (.bl b)⟩
theorem Cp' : Op2 K M.pNe (Cg' K) := by
  intro F H T fp x y dx dy dz Q f hx hy h k
  unfold M.pNe M.ob at h
  cases e : M.eqv dx dy with
  | none => rw [e] at h; cases h
  | some b =>
    rw [e] at h
    cases h
    obtain ⟨d, e, h1, h2, h3, h4, h5⟩ := yK' f hx hy e
    exact .inr ⟨d, e, h1, h2, h3, h4, by rw [h5]; exact k.here f (.bl (!b))⟩
theorem cr' : Op2 K M.dj' (xU' K) := by
  intro F H T fp x y dx dy dz Q f hx hy h k
  cases dx <;> cases dy <;> try (cases h; done)
  . cases hx; cases hy; cases h
    exact .inl ⟨_, _, rfl, rfl, k.here f (.int _)⟩
  . obtain ⟨rfl, o1⟩ := hx.str_inv
    obtain ⟨rfl, o2⟩ := hy.str_inv
    simp only [M.dj'] at h
    split at h
    . rename_i hl
      cases h
      refine .inr (.inl ⟨_, _, rfl, rfl, by rw [ck', ck', bL']; exact hl, ?_⟩)
      rw [xt']
      exact k.here f (.str (o1.app o2 hl))
    . cases h
  . obtain ⟨a, vs, rfl, ha, za⟩ := hx.tup_inv
    obtain ⟨b, ws, rfl, hb, zb⟩ := hy.tup_inv
    simp only [M.dj'] at h
    split at h
    . rename_i hl
      cases h
      refine .inr (.inr (.inr ⟨a, b, vs, ws, rfl, rfl, seqT f.low ha, seqT f.low hb, by rw [za.length, zb.length, bL']; exact hl, fun e => ?_, fun _ e => ?_, fun _ _ p hp => k.newT f (za.append zb) hp⟩))
      . subst e
        cases za
        exact k.here f (.tup hb zb)
      . subst e
        cases zb
        refine k.here f ?_
        rw [List.append_nil]
        exact .tup ha za
    . cases h
  . obtain ⟨a, vs, rfl, ha, za⟩ := hx.lst_inv
    obtain ⟨b, ws, rfl, hb, zb⟩ := hy.lst_inv
    simp only [M.dj'] at h
    split at h
    . rename_i hl
      cases h
      exact .inr (.inr (.inl ⟨a, b, vs, ws, rfl, rfl, f.low _ _ ha, f.low _ _ hb, by rw [za.length, zb.length, bL']; exact hl, fun p hp => k.newL f (za.append zb) hp⟩))
    . cases h
theorem qK' : Op2 K M.ua' (rI0 fun i j => .int (i - j)) := by
  intro F H T fp x y dx dy dz Q f hx hy h k
  cases dx <;> cases dy <;> try (cases h; done)
  cases hx; cases hy; cases h
  exact ⟨_, _, rfl, rfl, k.here f (.int _)⟩
theorem xH' (s : M.Tx) (n : Nat) : oG' (sx s) n = sx (List.replicate n s).flatten := rfl
theorem xJ' {s : M.Tx} {n : Nat} (h : okT s) (hl : s.length * n <= M.di') : okT (List.replicate n s).flatten := by
  refine ⟨fun c hc => ?_, ?_⟩
  . obtain ⟨l, h1, h2⟩ := List.mem_flatten.mp hc
    rw [List.eq_of_mem_replicate h1] at h2
    exact h.1 c h2
  . rw [List.length_flatten]
    simp
    rw [Nat.mul_comm]
    exact hl
def xL' : R2 := fun x y H Q => xM' x y H Q \/ rI CMulW (fun i j => .int (i * j)) x y H Q
theorem ef' {X : Cx} : OpR X (binaryOp .Mult) xL' := vx'.or op_mulW
theorem yg' {i : Int} (h : -2582249878086908589655919172003011874329705792829223512830659356540647622016841194629645353280137831435903171972747493376 < i /\ i < 2582249878086908589655919172003011874329705792829223512830659356540647622016841194629645353280137831435903171972747493376) : i.natAbs < 2 ^ 400 := by
  have : (2 : Nat) ^ 400 = 2582249878086908589655919172003011874329705792829223512830659356540647622016841194629645353280137831435903171972747493376 := by decide +kernel
  omega
theorem lk' : Op2 K M.jX' xL' := by
  intro F H T fp x y dx dy dz Q f hx hy h k
  cases dx <;> cases dy <;> try (cases h; done)
  . cases hx; cases hy
    simp only [M.jX'] at h
    split at h
    . rename_i hc
      cases h
      rcases hc with hc | hc
      . refine .inl (.inl ⟨_, _, rfl, rfl, ?_, k.here f (.int _)⟩)
        rcases hc with hc | hc <;> simp only [M.small64, Bool.and_eq_true, decide_eq_true_eq] at hc
        . exact .inl hc
        . exact .inr hc
      . exact .inr ⟨_, _, rfl, rfl, wide_mul (yg' hc.1) (yg' hc.2) (by decide) (by decide) (by decide), k.here f (.int _)⟩
    . cases h
  . obtain ⟨rfl, o1⟩ := hx.str_inv
    cases hy
    simp only [M.jX'] at h
    split at h
    . rename_i hc
      cases h
      refine .inl (.inr (.inl ⟨_, _, rfl, rfl, hc.1, hc.2.1, by rw [ck', bL']; exact hc.2.2, ?_⟩))
      rw [xH']
      exact k.here f (.str (xJ' o1 hc.2.2))
    . cases h
  . obtain ⟨a, vs, rfl, ha, za⟩ := hx.lst_inv
    cases hy
    simp only [M.jX'] at h
    split at h
    . rename_i hc
      cases h
      refine .inl (.inr (.inr ⟨a, _, vs, rfl, rfl, f.low _ _ ha, by omega, by omega, by rw [za.length, bL']; exact hc.2.2, fun p hp => k.newL f (za.rep _) hp⟩))
    . cases h
theorem j3' : Op2 K M.iE' (rI CDivW fun i j => .int (i / j)) := by
  intro F H T fp x y dx dy dz Q f hx hy h k
  cases dx <;> cases dy <;> try (cases h; done)
  cases hx; cases hy
  simp only [M.iE'] at h
  split at h
  . rename_i hc
    cases h
    refine ⟨_, _, rfl, rfl, wide_div (b := 200) hc.1 ?_ (by decide) (by decide), k.here f (.int _)⟩
    have : (2 : Nat) ^ 200 = 1606938044258990275541962092341162602522202993782792835301376 := by decide +kernel
    omega
  . cases h
theorem fo' : Op2 K M.jY' (rI (fun _ j => 0 < j) fun i j => .int (i % j)) := by
  intro F H T fp x y dx dy dz Q f hx hy h k
  cases dx <;> cases dy <;> try (cases h; done)
  cases hx; cases hy
  simp only [M.jY'] at h
  split at h
  . rename_i hc
    cases h
    exact ⟨_, _, rfl, rfl, hc, k.here f (.int _)⟩
  . cases h
theorem A3' : Op2 K M.x4' (rI CPow fun i j => .int (i ^ j.toNat)) := by
  intro F H T fp x y dx dy dz Q f hx hy h k
  cases dx <;> cases dy <;> try (cases h; done)
  cases hx; cases hy
  simp only [M.x4'] at h
  split at h
  . rename_i hc
    cases h
    obtain ⟨h1, h2, h3⟩ := hc
    simp only [M.small64, Bool.and_eq_true, decide_eq_true_eq] at h3
    exact ⟨_, _, rfl, rfl, ⟨h1, by omega, by omega⟩, k.here f (.int _)⟩
  . cases h
theorem vF' : Op2 K M.pLt (t8' (fun i j => decide (i < j)) fun a b => decide (a < b)) := by
  intro F H T fp x y dx dy dz Q f hx hy h k
  cases dx <;> cases dy <;> try (cases h; done)
  . cases hx; cases hy; cases h
    exact .inl ⟨_, _, rfl, rfl, k.here f (.bl _)⟩
  . obtain ⟨rfl, o1⟩ := hx.str_inv
    obtain ⟨rfl, o2⟩ := hy.str_inv
    cases h
    exact .inr ⟨_, _, rfl, rfl, k.here f (.bl _)⟩
theorem zY' : Op2 K M.pLe (t8' (fun i j => decide (i <= j)) fun a b => !decide (b < a)) := by
  intro F H T fp x y dx dy dz Q f hx hy h k
  cases dx <;> cases dy <;> try (cases h; done)
  . cases hx; cases hy; cases h
    exact .inl ⟨_, _, rfl, rfl, k.here f (.bl _)⟩
  . obtain ⟨rfl, o1⟩ := hx.str_inv
    obtain ⟨rfl, o2⟩ := hy.str_inv
    cases h
    exact .inr ⟨_, _, rfl, rfl, k.here f (.bl _)⟩
theorem zZ' : Op2 K M.pGt (t8' (fun i j => decide (j < i)) fun a b => decide (b < a)) := by
  intro F H T fp x y dx dy dz Q f hx hy h k
  cases dx <;> cases dy <;> try (cases h; done)
  . cases hx; cases hy; cases h
    exact .inl ⟨_, _, rfl, rfl, k.here f (.bl _)⟩
  . obtain ⟨rfl, o1⟩ := hx.str_inv
    obtain ⟨rfl, o2⟩ := hy.str_inv
    cases h
    exact .inr ⟨_, _, rfl, rfl, k.here f (.bl _)⟩
theorem z0' : Op2 K M.pGe (t8' (fun i j => decide (j <= i)) fun a b => !decide (a < b)) := by
  intro F H T fp x y dx dy dz Q f hx hy h k
  cases dx <;> cases dy <;> try (cases h; done)
  . cases hx; cases hy; cases h
    exact .inl ⟨_, _, rfl, rfl, k.here f (.bl _)⟩
  . obtain ⟨rfl, o1⟩ := hx.str_inv
    obtain ⟨rfl, o2⟩ := hy.str_inv
    cases h
    exact .inr ⟨_, _, rfl, rfl, k.here f (.bl _)⟩
def Ch' : R2 := fun x y H Q => Ci' x y H Q \/ rIsB x y H Q
theorem vy' {X : Cx} : OpR X (compareOp .Is) Ch' := vz'.or op_isBl
theorem yx' {F : Hp} {T : List Addr} {x : V} {d : M.D} (h : Fz K F T x d) : decide (x = .non) = M.eS' d := by cases h <;> rfl
theorem CZ' : Op2 K M.pIs Ch' := by
  intro F H T fp x y dx dy dz Q f hx hy h k
  cases dy with
  | non =>
    cases hy
    have e : M.D.bl (M.eS' dx) = dz := by cases dx <;> exact Option.some.inj h
    subst e
    exact .inl ⟨rfl, by rw [yx' hx]; exact k.here f (.bl _)⟩
  | bl b =>
    cases dx <;> try (cases h; done)
    cases hx; cases hy; cases h
    refine .inr ⟨_, _, rfl, rfl, ?_⟩
    rw [<- Bool.beq_eq_decide_eq]
    exact k.here f (.bl _)
  | _ => cases dx <;> cases h
theorem FzA.ati {F : Hp} {T : List Addr} {vs : List V} {ds : List M.D} {i : Int} {d : M.D} (h : FzA K F T vs ds) (e : M.ati ds i = some d) : ∃ v, atI vs i = some v /\ Fz K F T v d := by
  unfold M.ati at e
  unfold atI
  rw [h.length]
  cases q : M.ixn ds.length i with
  | none => rw [q] at e; cases e
  | some j =>
    rw [q] at e
    obtain ⟨v, h1, h2⟩ := h.get (i := j) e
    have q' : ixN ds.length i = some j := q
    rw [q']
    exact ⟨v, h1, h2⟩
theorem e8' : Op2 K M.pIx (rIx K) := by
  intro F H T fp x y dx dy dz Q f hx hy h k
  cases dx <;> cases dy <;> try (cases h; done)
  . obtain ⟨rfl, o1⟩ := hx.str_inv
    cases hy
    simp only [M.pIx] at h
    rename_i s i
    cases q : M.ati s i with
    | none => rw [q] at h; cases h
    | some c =>
      rw [q] at h
      cases h
      have hc : c ∈ s := by
        unfold M.ati at q
        cases q2 : M.ixn s.length i with
        | none => rw [q2] at q; cases q
        | some j => rw [q2] at q; exact List.mem_of_getElem? q
      exact .inr (.inr ⟨_, _, c, rfl, rfl, o1.len, q, k.here f (om' (o1.1 c hc))⟩)
  . obtain ⟨a, vs, rfl, ha, za⟩ := hx.tup_inv
    cases hy
    obtain ⟨v, h1, h2⟩ := za.ati h
    exact .inr (.inl ⟨a, vs, _, v, rfl, rfl, seqT f.low ha, h1, k.here f h2⟩)
  . obtain ⟨a, vs, rfl, ha, za⟩ := hx.lst_inv
    cases hy
    obtain ⟨v, h1, h2⟩ := za.ati h
    exact .inl ⟨a, vs, _, v, rfl, rfl, SqL.of (f.low _ _ ha), h1, k.here f h2⟩
def Cz' (K : PySem.W.Frag) (r : V -> Option Int -> Option Int -> Hp -> VK -> Prop) : Prop := ∀ {F H : Hp} {T : List Addr} {fp : Fp} {x : V} {dx dz : M.D} {lo hi : Option Int} {Q : VK}, FpH F H fp -> Fz K F T x dx -> M.pSl dx lo hi = some dz -> e5' K F T fp dz Q -> r x lo hi H Q
theorem rz' {s : M.Tx} {lo hi : Option Int} : (∀ c ∈ M.cut s lo hi, c ∈ s) /\ (M.cut s lo hi).length <= s.length := by
  unfold M.cut
  refine ⟨fun c hc => List.mem_of_mem_drop (List.mem_of_mem_take hc), ?_⟩
  rw [List.length_take, List.length_drop]
  omega
theorem A2' : Cz' K (Cf' K) := by
  intro F H T fp x dx dz lo hi Q f hx h k
  cases dx <;> try (cases h; done)
  . obtain ⟨rfl, o1⟩ := hx.str_inv
    cases h
    refine .inr (.inl ⟨_, rfl, o1.len, ?_⟩)
    have e : cutS (sx ‹M.Tx›) lo hi = sx (M.cut ‹M.Tx› lo hi) := it' (by rw [zz']; rfl)
    rw [e]
    exact k.here f (.str (o1.sub rz'.1 rz'.2))
  . obtain ⟨a, vs, rfl, ha, za⟩ := hx.tup_inv
    cases h
    refine .inr (.inr ⟨a, vs, rfl, seqT f.low ha, fun e => ?_, fun _ p hp => k.newT f za.cutV hp⟩)
    refine k.here f ?_
    have e2 : M.cut ‹List M.D› lo hi = ‹List M.D› := by
      unfold M.cut
      rw [<- za.length]
      have e1 : M.six vs.length 0 lo = 0 := e.1
      have e3 : M.six vs.length vs.length hi = vs.length := e.2
      rw [e1, e3, List.drop_zero, Nat.sub_zero, za.length, List.take_length]
    rw [e2]
    exact .tup ha za
  . obtain ⟨a, vs, rfl, ha, za⟩ := hx.lst_inv
    cases h
    exact .inl ⟨a, vs, rfl, SqL.of (f.low _ _ ha), fun p hp => k.newL f za.cutV hp⟩
  . cases hx with
    | scr ha za =>
      cases h
      exact .inl ⟨_, _, rfl, Same.seq f.low ha, fun p hp => k.newL f za.cutV hp⟩
end
end S
namespace S
open PySem PySem.Spec PyProof.Rows L2
variable [Wd] [Hot]
section
variable {K : PySem.W.Frag} {F F' H H' : Hp} {T T' : List Addr} {fp fq fr : Fp} {ρ : M.PSt} {σ : St}
abbrev keys (fp : Fp) : List Addr := fp.map (·.1)
theorem FpH.sub (f : FpH F H fp) (hm : ∀ e ∈ fq, e ∈ fp) (hc : ∀ a, (keys fq).count a <= (keys fp).count a) : FpH F H fq := by
  refine ⟨f.low, fun e he => f.at_ e (hm e he), ?_, f.tbs fun a h1 h2 h3 => ⟨h1, rfl, fun e he => h3 e (hm e he)⟩⟩
  rw [List.nodup_iff_count]
  exact fun a => Nat.le_trans (hc a) (List.nodup_iff_count.mp f.nd a)
structure Part (a b : Fp) : Prop where
  m : ∀ e ∈ a, e ∈ b
  c : ∀ x, (keys a).count x <= (keys b).count x
theorem FpH.part (f : FpH F H fp) (p : Part fq fp) : FpH F H fq := f.sub p.m p.c
theorem Part.refl {a : Fp} : Part a a := ⟨fun _ h => h, fun _ => Nat.le_refl _⟩
theorem Part.trans {a b c : Fp} (p : Part a b) (q : Part b c) : Part a c := ⟨fun e h => q.m e (p.m e h), fun x => Nat.le_trans (p.c x) (q.c x)⟩
theorem Part.app {a b c d : Fp} (p : Part a b) (q : Part c d) : Part (a ++ c) (b ++ d) := by
  refine ⟨fun e h => ?_, fun x => ?_⟩
  . rcases List.mem_append.mp h with h | h
    . exact List.mem_append_left _ (p.m e h)
    . exact List.mem_append_right _ (q.m e h)
  . have := p.c x
    have := q.c x
    simp only [keys, List.map_append, List.count_append] at *
    omega
theorem Part.left {a b c : Fp} (p : Part a b) : Part a (b ++ c) := by
  refine ⟨fun e h => List.mem_append_left _ (p.m e h), fun x => ?_⟩
  have := p.c x
  simp only [keys, List.map_append, List.count_append] at *
  omega
theorem Part.right {a b c : Fp} (p : Part a c) : Part a (b ++ c) := by
  refine ⟨fun e h => List.mem_append_right _ (p.m e h), fun x => ?_⟩
  have := p.c x
  simp only [keys, List.map_append, List.count_append] at *
  omega
theorem Part.nil {b : Fp} : Part [] b := ⟨fun e h => (nomatch h), fun x => by simp [keys]⟩
local macro_rules | `(tactic| walk_at "parts") => `(tactic| (constructor; (intro e h; simp only [List.mem_append, List.mem_cons] at *; grind); (intro x; simp only [keys, List.map_append, List.map_cons, List.count_append, List.count_cons] at *; omega)))
theorem Part.swap {a b c : Fp} : Part (a ++ (b ++ c)) (b ++ (a ++ c)) := by walk_at "parts"
theorem RpE.get {env : List (Option M.O)} {i : Nat} {o : M.O} (r : RpE K F T σ env fp) (h : env[i]? = some (some o)) (hne : M.Ax' o = true := by first | assumption | rfl) : ∃ v f1 f2 f3, σ[i]? = some (some v) /\ fp = f1 ++ (f2 ++ f3) /\ Rp K F T v o f2 ∧
    RpE K F T σ (env.set i none) (f1 ++ f3) /\ ∀ F' T' v' o' f2', Ext F T F' T' -> Rp K F' T' v' o' f2' -> RpE K F' T' (σ.set i (some v')) (env.set i (some o')) (f1 ++ (f2' ++ f3)) := by
  induction r generalizing i with
  | nil => cases h
  | off r ih =>
    cases i with
    | zero => cases h
    | succ i =>
      obtain ⟨v, f1, f2, f3, h1, rfl, h3, h4, h5⟩ := ih (i := i) h
      exact ⟨v, f1, f2, f3, h1, rfl, h3, .off h4, fun F' T' v' o' f2' e r' => .off (h5 F' T' v' o' f2' e r')⟩
  | @on v0 o0 σ env fa fb r0 r ih =>
    cases i with
    | zero =>
      have e : o0 = o := Option.some.inj (Option.some.inj h)
      subst e
      exact ⟨v0, [], fa, fb, rfl, rfl, r0, .off r, fun F' T' v' o' f2' e r' => (RpE.on r' (r.mono e) : RpE K F' T' _ _ (f2' ++ fb))⟩
    | succ i =>
      obtain ⟨v, f1, f2, f3, h1, rfl, h3, h4, h5⟩ := ih (i := i) h
      refine ⟨v, fa ++ f1, f2, f3, h1, by simp, h3, ?_, fun F' T' v' o' f2' e r' => ?_⟩
      . rw [List.append_assoc]; exact .on r0 h4
      . rw [List.append_assoc]; exact .on (r0.mono e) (h5 F' T' v' o' f2' e r')
  | hot hh z r ih =>
    cases i with
    | zero => rw [<- Option.some.inj (Option.some.inj h)] at hne; cases hne
    | succ i =>
      obtain ⟨v, f1, f2, f3, h1, rfl, h3, h4, h5⟩ := ih (i := i) h
      exact ⟨v, f1, f2, f3, h1, rfl, h3, .hot (by rw [List.length_set]; exact hh) z h4, fun F' T' v' o' f2' e r' => .hot (by rw [List.length_set]; exact hh) (z.mono' e) (h5 F' T' v' o' f2' e r')⟩
  | clo hh z r ih =>
    cases i with
    | zero => rw [<- Option.some.inj (Option.some.inj h)] at hne; cases hne
    | succ i =>
      obtain ⟨v, f1, f2, f3, h1, rfl, h3, h4, h5⟩ := ih (i := i) h
      exact ⟨v, f1, f2, f3, h1, rfl, h3, .clo (by rw [List.length_set]; exact hh) z h4, fun F' T' v' o' f2' e r' => .clo (by rw [List.length_set]; exact hh) (z.mono e) (h5 F' T' v' o' f2' e r')⟩
theorem RpE.val {env : List (Option M.O)} {i : Nat} {o : M.O} (r : RpE K F T σ env fp) (h : env[i]? = some (some o)) : ∃ v, σ[i]? = some (some v) := by
  induction r generalizing i with
  | nil => cases h
  | off r ih => cases i with
    | zero => cases h
    | succ i => exact ih (i := i) h
  | on _ r ih => cases i with
    | zero => exact ⟨_, rfl⟩
    | succ i => exact ih (i := i) h
  | hot _ _ r ih => cases i with
    | zero => exact ⟨_, rfl⟩
    | succ i => exact ih (i := i) h
  | clo _ _ r ih => cases i with
    | zero => exact ⟨_, rfl⟩
    | succ i => exact ih (i := i) h
theorem RpE.exn {env : List (Option M.O)} {i : Nat} (r : RpE K F T σ env fp) (h : env[i]? = some (some .exn)) : ∃ a n dd x, Hot.hot = some (a, n, dd, x) /\ XcR K F T x (.ref (He.ga K x.cls)) dd /\ σ[i]? = some (some (.ref a)) := by
  induction r generalizing i with
  | nil => cases h
  | off r ih => cases i with
    | zero => cases h
    | succ i => exact ih (i := i) h
  | on q r ih => cases i with
    | zero =>
      have e := Option.some.inj (Option.some.inj h)
      subst e
      cases q
    | succ i => exact ih (i := i) h
  | hot hh z r ih => cases i with
    | zero => exact ⟨_, _, _, _, hh, z, rfl⟩
    | succ i => exact ih (i := i) h
  | clo hh z r ih => cases i with
    | zero => cases h
    | succ i => exact ih (i := i) h
theorem eB' {α : Type} : ∀ {l : List α} {i : Nat} {x : α}, l[i]? = some x -> l.set i x = l
  | [], _, _, h => by cases h
  | a :: l, 0, x, h => by rw [<- Option.some.inj h]; rfl
  | a :: l, i + 1, x, h => by
    show a :: l.set i x = a :: l
    rw [eB' (l := l) (i := i) h]
theorem RpE.len {env : List (Option M.O)} (r : RpE K F T σ env fp) : σ.length = env.length := by
  induction r with
  | nil => rfl
  | off _ ih => exact congrArg (· + 1) ih
  | on _ _ ih => exact congrArg (· + 1) ih
  | hot _ _ _ ih => exact congrArg (· + 1) ih
  | clo _ _ _ ih => exact congrArg (· + 1) ih
theorem RpE.drop {env : List (Option M.O)} (r : RpE K F T σ env fp) (i : Nat) (x : Option V) : ∃ fq, RpE K F T (σ.set i x) (env.set i none) fq /\ Part fq fp := by
  induction r generalizing i with
  | nil => exact ⟨[], .nil, .refl⟩
  | @off y σ env fp r ih =>
    cases i with
    | zero => exact ⟨_, .off r, .refl⟩
    | succ i =>
      obtain ⟨fq, h1, h2⟩ := ih i
      exact ⟨fq, .off h1, h2⟩
  | @on v0 o0 σ env fa fb r0 r ih =>
    cases i with
    | zero => exact ⟨_, .off r, .right .refl⟩
    | succ i =>
      obtain ⟨fq, h1, h2⟩ := ih i
      exact ⟨_, .on r0 h1, .app .refl h2⟩
  | hot hh z r ih =>
    cases i with
    | zero => exact ⟨_, .off r, .refl⟩
    | succ i =>
      obtain ⟨fq, h1, h2⟩ := ih i
      exact ⟨fq, .hot (by rw [List.length_set]; exact hh) z h1, h2⟩
  | clo hh z r ih =>
    cases i with
    | zero => exact ⟨_, .off r, .refl⟩
    | succ i =>
      obtain ⟨fq, h1, h2⟩ := ih i
      exact ⟨fq, .clo (by rw [List.length_set]; exact hh) z h1, h2⟩
theorem RpE.drop0 {env : List (Option M.O)} (r : RpE K F T σ env fp) (i : Nat) : ∃ fq, RpE K F T σ (env.set i none) fq /\ Part fq fp := by
  induction r generalizing i with
  | nil => exact ⟨[], .nil, .refl⟩
  | @off y σ env fp r ih =>
    cases i with
    | zero => exact ⟨_, .off r, .refl⟩
    | succ i =>
      obtain ⟨fq, h1, h2⟩ := ih i
      exact ⟨fq, .off h1, h2⟩
  | @on v0 o0 σ env fa fb r0 r ih =>
    cases i with
    | zero => exact ⟨_, .off r, .right .refl⟩
    | succ i =>
      obtain ⟨fq, h1, h2⟩ := ih i
      exact ⟨_, .on r0 h1, .app .refl h2⟩
  | hot hh z r ih =>
    cases i with
    | zero => exact ⟨_, .off r, .refl⟩
    | succ i =>
      obtain ⟨fq, h1, h2⟩ := ih i
      exact ⟨fq, .hot (by rw [List.length_set]; exact hh) z h1, h2⟩
  | clo hh z r ih =>
    cases i with
    | zero => exact ⟨_, .off r, .refl⟩
    | succ i =>
      obtain ⟨fq, h1, h2⟩ := ih i
      exact ⟨fq, .clo (by rw [List.length_set]; exact hh) z h1, h2⟩
theorem RpE.put {env : List (Option M.O)} (r : RpE K F T σ env fp) {i : Nat} (hi : i < env.length) {v : V} {o : M.O} {f2 : Fp} (q : Rp K F T v o f2) :
    ∃ fq, RpE K F T (σ.set i (some v)) (env.set i (some o)) fq /\ Part fq (fp ++ f2) := by
  induction r generalizing i with
  | nil => cases hi
  | @off y σ env fp r ih =>
    cases i with
    | zero => exact ⟨_, .on q r, by walk_at "parts"⟩
    | succ i =>
      obtain ⟨fq, h1, h2⟩ := ih (i := i) (Nat.lt_of_succ_lt_succ hi)
      exact ⟨fq, .off h1, h2⟩
  | @on v0 o0 σ env fa fb r0 r ih =>
    cases i with
    | zero => exact ⟨_, .on q r, by walk_at "parts"⟩
    | succ i =>
      obtain ⟨fq, h1, h2⟩ := ih (i := i) (Nat.lt_of_succ_lt_succ hi)
      refine ⟨_, .on r0 h1, ?_⟩
      rw [List.append_assoc]
      exact .app .refl h2
  | hot hh z r ih =>
    cases i with
    | zero => exact ⟨_, .on q r, by walk_at "parts"⟩
    | succ i =>
      obtain ⟨fq, h1, h2⟩ := ih (i := i) (Nat.lt_of_succ_lt_succ hi)
      exact ⟨fq, .hot (by rw [List.length_set]; exact hh) z h1, h2⟩
  | clo hh z r ih =>
    cases i with
    | zero => exact ⟨_, .on q r, by walk_at "parts"⟩
    | succ i =>
      obtain ⟨fq, h1, h2⟩ := ih (i := i) (Nat.lt_of_succ_lt_succ hi)
      exact ⟨fq, .clo (by rw [List.length_set]; exact hh) z h1, h2⟩
theorem RpE.put0 {env : List (Option M.O)} (r : RpE K F T σ env fp) {i : Nat} {v : V} (hi : σ[i]? = some (some v)) {o : M.O} {f2 : Fp} (q : Rp K F T v o f2) :
    ∃ fq, RpE K F T σ (env.set i (some o)) fq /\ Part fq (fp ++ f2) := by
  have hl : i < env.length := by rw [<- r.len]; exact (List.getElem?_eq_some_iff.mp hi).1
  obtain ⟨fq, h1, h2⟩ := r.put hl q
  rw [eB' hi] at h1
  exact ⟨fq, h1, h2⟩
def tu' (F : Hp) : Fp -> Hp
  | [] => F
  | e :: r => upd (tu' F r) e.1 e.2
theorem e3' {a : Addr} : ∀ {fp : Fp}, a ∉ keys fp -> tu' F fp a = F a
  | [], _ => rfl
  | e :: r, h => by
    have h' : a ≠ e.1 /\ a ∉ keys r := by simpa [keys] using h
    show upd (tu' F r) e.1 e.2 a = F a
    rw [upd_ne h'.1, e3' h'.2]
theorem gk' : ∀ {fp : Fp}, (keys fp).Nodup -> ∀ e ∈ fp, tu' F fp e.1 = some e.2
  | e :: r, h, e', he => by
    obtain ⟨h1, h2⟩ := List.nodup_cons.mp h
    show upd (tu' F r) e.1 e.2 e'.1 = _
    rcases List.mem_cons.mp he with rfl | he
    . exact upd_same
    . rw [upd_ne fun z => h1 (by have q : e'.1 ∈ keys r := List.mem_map_of_mem he; rw [z] at q; exact q)]
      exact gk' h2 e' he
theorem hf' {fp : Fp} (h : ∀ e ∈ fp, F e.1 = none) : Same F (tu' F fp) := fun a o e => by
  rw [e3' fun z => ?_]
  . exact e
  . obtain ⟨x, h1, h2⟩ := List.mem_map.mp z
    rw [<- h2, h x h1] at e
    cases e
theorem FpH.freeze {a b : Fp} (f : FpH F H (a ++ b)) : FpH (tu' F a) H b := by
  have nd : (keys a ++ keys b).Nodup := by rw [<- List.map_append]; exact f.nd
  obtain ⟨n1, n2, n3⟩ := List.nodup_append.mp nd
  refine ⟨fun p o h => ?_, fun e he => ⟨(f.at_ e (List.mem_append_right _ he)).1, ?_⟩, n2, f.tbs (fun p h1 h2 h3 => ⟨?_, rfl, fun e he => h3 e (List.mem_append_right _ he)⟩) fun c q h => lc' (hf' fun e he => (f.at_ e (List.mem_append_left _ he)).2) h⟩
  . by_cases hp : p ∈ keys a
    . obtain ⟨x, h1, rfl⟩ := List.mem_map.mp hp
      rw [gk' n1 x h1] at h
      rw [(f.at_ x (List.mem_append_left _ h1)).1]
      exact h
    . rw [e3' hp] at h
      exact f.low _ _ h
  . rw [e3' fun z => n3 _ z _ (List.mem_map_of_mem he) rfl]
    exact (f.at_ e (List.mem_append_right _ he)).2
  . rw [e3' fun z => ?_]
    . exact h1
    . obtain ⟨x, hx, e⟩ := List.mem_map.mp z
      exact h3 x (List.mem_append_left _ hx) e
mutual
theorem Rp.freeze {G : Hp} (s : Same F G) : ∀ {v : V} {o : M.O} {fp : Fp}, Rp K F T v o fp -> (∀ e ∈ fp, G e.1 = some e.2) -> Fz K G T v (M.frz o)
  | _, _, _, .fz h, _ => h.mono (.of s)
  | _, _, _, .lst r, g => .lst (g _ List.mem_cons_self) (RpA.freeze s r fun e he => g e (List.mem_cons_of_mem _ he))
  | _, _, _, .tup r, g => .tup (SqT.of (g _ List.mem_cons_self)) (RpA.freeze s r fun e he => g e (List.mem_cons_of_mem _ he))
  | _, _, _, .dct k r, g => .dct (.inl (g _ List.mem_cons_self)) k (RpA.freeze s r fun e he => g e (List.mem_cons_of_mem _ he))
  | _, _, _, .dcl k r, g => .dcl (.inl (g _ List.mem_cons_self)) k (RpA.freeze s r fun e he => g e (List.mem_cons_of_mem _ he))
  | _, _, _, .dcn k q r, g => .dcn (.inl (g _ List.mem_cons_self)) k (q.mono (.of s)) (RpA.freeze s r fun e he => g e (List.mem_cons_of_mem _ he))
theorem RpA.freeze {G : Hp} (s : Same F G) : ∀ {vs : List V} {os : List M.O} {fp : Fp}, RpA K F T vs os fp -> (∀ e ∈ fp, G e.1 = some e.2) -> FzA K G T vs (M.frzs os)
  | _, _, _, .nil, _ => .nil
  | _, _, _, .cons h r, g => .cons (Rp.freeze s h fun e he => g e (List.mem_append_left _ he)) (RpA.freeze s r fun e he => g e (List.mem_append_right _ he))
end
theorem Rp.frozen {v : V} {o : M.O} {a b : Fp} (q : Rp K F T v o a) (f : FpH F H (a ++ b)) : ∃ G, Same F G /\ Fz K G T v (M.frz o) /\ FpH G H b := by
  have s : Same F (tu' F a) := hf' fun e he => (f.at_ e (List.mem_append_left _ he)).2
  refine ⟨_, s, q.freeze s fun e he => gk' ?_ e he, f.freeze⟩
  have nd : (keys a ++ keys b).Nodup := by rw [<- List.map_append]; exact f.nd
  exact (List.nodup_append.mp nd).1
theorem RpA.frozen {v : List V} {o : List M.O} {a b : Fp} (q : RpA K F T v o a) (f : FpH F H (a ++ b)) : ∃ G, Same F G /\ FzA K G T v (M.frzs o) /\ FpH G H b := by
  have s : Same F (tu' F a) := hf' fun e he => (f.at_ e (List.mem_append_left _ he)).2
  refine ⟨_, s, q.freeze s fun e he => gk' ?_ e he, f.freeze⟩
  have nd : (keys a ++ keys b).Nodup := by rw [<- List.map_append]; exact f.nd
  exact (List.nodup_append.mp nd).1
theorem Rel.frozen {v : V} {o : M.O} (r : Rel K ρ σ H F T (fp ++ fr)) (q : Rp K F T v o fp) : ∃ G, Same F G /\ Fz K G T v (M.frz o) /\ Rel K ρ σ H G T fr := by
  obtain ⟨fe, fw, re, rw, f⟩ := r
  have f' : FpH F H (fp ++ (fe ++ (fw ++ fr))) := f.part (by walk_at "parts")
  obtain ⟨G, s, z, f2⟩ := q.frozen f'
  exact ⟨G, s, z, fe, fw, re.mono (.of s), rw.mono (.of s), f2⟩
theorem Rel.part {fr' : Fp} (r : Rel K ρ σ H F T fr) (p : Part fr' fr) : Rel K ρ σ H F T fr' := by
  obtain ⟨fe, fw, re, rw, f⟩ := r
  exact ⟨fe, fw, re, rw, f.part (.app .refl (.app .refl p))⟩
theorem FpH.own {p : Addr} {o : HO} (f : FpH F H fp) (hp : H p = none) : FpH F (upd H p o) ((p, o) :: fp) := by
  have np : ∀ e ∈ fp, e.1 ≠ p := fun e he => ne_of_none (f.at_ e he).1 hp
  refine ⟨fun a u h => ?_, fun e he => ?_, ?_, f.tbs fun a h1 h2 h3 => ?_⟩
  . rw [upd_ne (ne_of_none (f.low _ _ h) hp)]; exact f.low _ _ h
  . rcases List.mem_cons.mp he with rfl | he
    . exact ⟨upd_same, f.free hp⟩
    . rw [upd_ne (np e he)]; exact f.at_ e he
  . refine List.nodup_cons.mpr ⟨fun h => ?_, f.nd⟩
    obtain ⟨x, h1, h2⟩ := List.mem_map.mp h
    exact np x h1 h2
  . have ha : a ≠ p := fun z => h2 (by rw [z]; exact hp)
    refine ⟨h1, upd_ne ha, fun e he => ?_⟩
    rcases List.mem_cons.mp he with rfl | he
    . exact Ne.symm ha
    . exact h3 e he
theorem FpH.write {p : Addr} {o o' : HO} {a b : Fp} (f : FpH F H (a ++ ((p, o) :: b))) : FpH F (upd H p o') (a ++ ((p, o') :: b)) := by
  have nd : (keys a ++ (p :: keys b)).Nodup := by
    have := f.nd
    simpa [keys] using this
  obtain ⟨n1, n2, n3⟩ := List.nodup_append.mp nd
  have hp : F p = none := (f.at_ (p, o) (by simp)).2
  refine ⟨fun x u h => ?_, fun e he => ?_, ?_, f.tbs fun x h1 h2 h3 => ?_⟩
  . rw [upd_ne (fun z => by rw [z, hp] at h; cases h)]; exact f.low _ _ h
  . rcases List.mem_append.mp he with h | h
    . rw [upd_ne (n3 _ (List.mem_map_of_mem h) _ List.mem_cons_self)]
      exact f.at_ e (List.mem_append_left _ h)
    . rcases List.mem_cons.mp h with rfl | h
      . exact ⟨upd_same, hp⟩
      . rw [upd_ne (fun z => (List.nodup_cons.mp n2).1 (by have q : e.1 ∈ keys b := List.mem_map_of_mem h; rw [z] at q; exact q))]
        exact f.at_ e (List.mem_append_right _ (List.mem_cons_of_mem _ h))
  . have e : (a ++ ((p, o') :: b)).map (·.1) = keys a ++ (p :: keys b) := by simp [keys]
    rw [e]
    exact nd
  . have ha : x ≠ p := fun z => h3 (p, o) (by simp) z.symm
    refine ⟨h1, upd_ne ha, fun e he => ?_⟩
    rcases List.mem_append.mp he with h | h
    . exact h3 e (List.mem_append_left _ h)
    . rcases List.mem_cons.mp h with rfl | h
      . exact Ne.symm ha
      . exact h3 e (List.mem_append_right _ (List.mem_cons_of_mem _ h))
end
section
variable {X : Cx} {W : WX} {K : PySem.W.Frag} {pos : Pos}
theorem ae' {i j pos} : SE X W (.Constant (.int i) j pos) (M.eC (.int i)) := PE.imp pe_int fun σ H Q ⟨ρ, F, T, fr, rel, h⟩ => h _ _ _ _ .refl (.int i) rel
theorem dq' {b j pos} : SE X W (.Constant (.bool b) j pos) (M.eC (.bl b)) := PE.imp pe_bl fun σ H Q ⟨ρ, F, T, fr, rel, h⟩ => h _ _ _ _ .refl (.bl b) rel
theorem p8' {j pos} : SE X W (.Constant .none j pos) (M.eC .non) := PE.imp pe_non fun σ H Q ⟨ρ, F, T, fr, rel, h⟩ => h _ _ _ _ .refl .non rel
def zX' (s : M.Tx) : Bool := s.all (fun c => decide (c < 1114112)) && decide (s.length <= 16777216)
theorem ud' {s : M.Tx} (h : zX' s = true) : okT s := by
  unfold zX' at h
  rw [Bool.and_eq_true, List.all_eq_true] at h
  exact ⟨fun c hc => of_decide_eq_true (h.1 c hc), of_decide_eq_true h.2⟩
theorem p7' {x : Str} {j pos} (s : M.Tx) (hs : x = sx s) (ho : zX' s = true) : SE X W (.Constant (.str x) j pos) (M.eC (.str s)) := by
  subst hs
  exact PE.imp pe_str fun σ H Q ⟨ρ, F, T, fr, rel, h⟩ => h _ _ _ _ .refl (.str (ud' ho)) rel
theorem Cd' {e : Expr} {v : V} {d : M.D} (h : PE X e (tC v)) (z : ∀ F T, Fz X.K F T v d) : SE X W e (M.eC d) := PE.imp h fun σ H Q ⟨ρ, F, T, fr, rel, h⟩ => h _ _ _ _ .refl (z F T) rel
theorem xq' {i : Nat} {σ : St} {H : Hp} {Q : VK} (h : qE K W (M.eV i) σ H Q) : tVar i σ H Q := by
  obtain ⟨ρ, F, T, fr, rel, h⟩ := h
  unfold M.eV at h
  split at h
  . rename_i d e
    obtain ⟨fe, fw, re, rw, f⟩ := id rel
    obtain ⟨v, f1, f2, f3, h1, rfl, h3, h4, h5⟩ := re.get e
    cases h3 with
    | fz z => exact ⟨v, h1, h v H F T .refl z rel⟩
  . exact h.elim
  . exact h.elim
  . rename_i o _ hne hnc e
    obtain ⟨fe, fw, re, rw, f⟩ := rel
    obtain ⟨v, f1, f2, f3, h1, rfl, h3, h4, h5⟩ := re.get e (M.do' (fun z => hne (by rw [z])) fun z => hnc (by rw [z]))
    have f' : FpH F H (f2 ++ (f1 ++ f3 ++ (fw ++ fr))) := f.part (by refine ⟨fun e h => ?_, fun x => ?_⟩; (simp only [List.mem_append] at *; grind); (simp only [keys, List.map_append, List.count_append] at *; omega))
    obtain ⟨G, s, z, fG⟩ := h3.frozen f'
    have re' := h5 G T v (.fz (M.frz o)) [] (.of s) (.fz z)
    rw [eB' h1] at re'
    exact ⟨v, h1, h v H G T (.of s) z ⟨_, fw, re', rw.mono (.of s), by simpa using fG⟩⟩
  . exact h.elim
theorem ac' {e : Expr} {i : Nat} (h : PE X e (tVar i)) : SE X W e (M.eV i) := PE.imp h fun _ _ _ => xq'
variable {a b c : Expr} {ma mb mc : M.ME} {σ : St} {H : Hp} {Q : VK}
theorem iF' {f : M.D -> M.D -> Option M.D} {r : R2} (hf : Op2 K f r) (h : qE K W (M.eOp f ma mb) σ H Q) : tOp r (qE K W ma) (qE K W mb) σ H Q := by
  obtain ⟨ρ, F, T, fr, rel, h⟩ := h
  refine az' rel h fun dx ρ1 v H1 F1 T1 e1 z1 r1 h1 => ?_
  refine az' r1 h1 fun dy ρ2 u H2 F2 T2 e2 z2 r2 h2 => ?_
  obtain ⟨dz, ez, q⟩ := aU'.ofO h2
  obtain ⟨fp, f2, back⟩ := r2.fp
  exact hf f2 (z1.mono e2) z2 ez fun v' H3 F3 s zz f3 => q v' H3 F3 T2 (e1.trans (e2.trans (.of s))) zz (back H3 F3 s f3)
theorem aW' {op : Operator} {f : M.D -> M.D -> Option M.D} {r : R2} (ho : OpR X (binaryOp op) r) (hf : Op2 X.K f r) (ha : SE X W a ma) (hb : SE X W b mb) : SE X W (.BinOp a op b pos) (M.eOp f ma mb) := PE.imp (pe_op ho ha hb) fun _ _ _ => iF' hf
theorem fJ' {op : CmpOp} {f : M.D -> M.D -> Option M.D} {r : R2} (ho : OpR X (compareOp op) r) (hf : Op2 X.K f r) (hm : behindInMarks op b = false) (ha : SE X W a ma) (hb : SE X W b mb) : SE X W (.Compare a [op] [b] pos) (M.eOp f ma mb) := PE.imp (pe_cmpR ho ha hb hm) fun _ _ _ => iF' hf
theorem cc' {f : M.D -> M.D -> Option M.D} {r : R2} (ho : IxR X r) (hf : Op2 X.K f r) (ha : SE X W a ma) (hb : SE X W b mb) (hs : PlainIx b) : SE X W (.Subscript a b pos) (M.eOp f ma mb) := PE.imp (pe_ix ho ha hb hs) fun _ _ _ => iF' hf
theorem aU'.asB {d : M.D} {ρ : M.PSt} {P : Bool -> M.PSt -> Prop} {Y : Wx} (h : aU' (M.asB d ρ) P Y) : ∃ b, d = .bl b /\ P b ρ := by
  cases d <;> first | exact h.elim | exact ⟨_, rfl, h⟩
theorem ot' {f g : M.D -> M.D -> Option M.D} {r r' : R2} (hf : Op2 K f r) (hg : Op2 K g r') (h : qE K W (M.g0' f g ma mb mc) σ H Q) : tChain r r' (qE K W ma) (qE K W mb) (qE K W mc) σ H Q := by
  obtain ⟨ρ, F, T, fr, rel, h⟩ := h
  refine az' rel h fun dx ρ1 v H1 F1 T1 e1 z1 r1 h1 => ?_
  refine az' r1 h1 fun dy ρ2 u H2 F2 T2 e2 z2 r2 h2 => ?_
  obtain ⟨dz, ez, h3⟩ := aU'.ofO (aU'.bind h2)
  obtain ⟨fp, f2, back⟩ := r2.fp
  refine hf f2 (z1.mono e2) z2 ez fun v' H3 F3 s zz f3 => ?_
  have h4 := aU'.bind h3
  obtain ⟨k, rfl, h5⟩ := aU'.asB h4
  refine ⟨k, zz.bl_inv, ?_⟩
  have r3 := back H3 F3 s f3
  cases k with
  | true =>
    rw [if_pos rfl] at h5 ⊢
    refine az' r3 (h5.mono (fun _ _ z => z) fun _ _ z => z.mono (.of s)) fun dw ρ4 w' H4 F4 T4 e4 z4 r4 h6 => ?_
    obtain ⟨dz, ez, q⟩ := aU'.ofO h6
    obtain ⟨fp, f4, back⟩ := r4.fp
    exact hg f4 ((z2.mono (.of s)).mono e4) z4 ez fun v' H5 F5 s5 zz f5 => q v' H5 F5 T4 (e1.trans (e2.trans ((Ext.of s).trans (e4.trans (.of s5))))) zz (back H5 F5 s5 f5)
  | false =>
    rw [if_neg Bool.false_ne_true] at h5 ⊢
    exact h5 _ H3 F3 T2 (e1.trans (e2.trans (.of s))) (.bl false) r3
variable {rest : List Expr}
theorem m7' (ha : SE X W a ma) (hb : SE X W (.BoolOp .And (b :: rest) pos) mb) : SE X W (.BoolOp .And (a :: b :: rest) pos) (M.ur' ma mb) := PE.imp (pe_and ha hb) fun σ H Q ⟨ρ, F, T, fr, rel, h⟩ => by
  refine az' rel h fun dx ρ1 v H1 F1 T1 e1 z1 r1 h1 => ?_
  obtain ⟨k, rfl, h2⟩ := aU'.asB (aU'.bind h1)
  refine ⟨k, z1.bl_inv, ?_⟩
  cases k with
  | true => rw [if_pos rfl] at h2 ⊢; exact ⟨ρ1, F1, T1, fr, r1, h2.mono (fun _ _ z v H' F' T' e => z v H' F' T' (e1.trans e)) fun _ _ z => z⟩
  | false => rw [if_neg Bool.false_ne_true] at h2 ⊢; exact h2 _ _ _ _ e1 (.bl false) r1
theorem m6' {op} (ha : SE X W a ma) : SE X W (.BoolOp op [a] pos) ma := pe_one ha
theorem xA' (ha : SE X W a ma) : SE X W (.UnaryOp .Not a pos) (M.yO' ma) := PE.imp (pe_not ha) fun σ H Q ⟨ρ, F, T, fr, rel, h⟩ => by
  refine az' rel h fun dx ρ1 v H1 F1 T1 e1 z1 r1 h1 => ?_
  obtain ⟨k, rfl, h2⟩ := aU'.asB (aU'.bind h1)
  exact ⟨k, z1.bl_inv, h2 _ _ _ _ e1 (.bl _) r1⟩
variable {mt mu : M.MT}
theorem mZ' (ha : SE X W a ma) (he : ∀ whole, isTrue a X.env whole = (do let v ← whole; standAt a.pos; holding [v] (truthy v)) := by intro _; rfl) : ST X W a (M.tE ma) := PT.imp (pt_val ha he) fun σ H Q ⟨ρ, F, T, fr, rel, h⟩ => by
  refine az' rel h fun dx ρ1 v H1 F1 T1 e1 z1 r1 h1 => ?_
  obtain ⟨k, rfl, h2⟩ := aU'.asB h1
  exact ⟨k, z1.bl_inv, h2 _ _ _ e1 r1⟩
theorem a4' {op : CmpOp} {f : M.D -> M.D -> Option M.D} {r : R2} (ho : OpR X (compareOp op) r) (hf : Op2 X.K f r) (hm : behindInMarks op b = false) (ha : SE X W a ma) (hb : SE X W b mb) : ST X W (.Compare a [op] [b] pos) (M.tE (M.eOp f ma mb)) :=
  PT.imp (pt_cmpR ho ha hb hm) fun σ H Q ⟨ρ, F, T, fr, rel, h⟩ => by
    show tOp r (qE X.K W ma) (qE X.K W mb) σ H fun x H' => ∃ k, x = .bl k /\ Q k H'
    refine iF' hf ⟨ρ, F, T, fr, rel, (aU'.bind h).mono (fun d ρ1 h1 v H1 F1 T1 e z r => ?_) fun _ _ z => z⟩
    obtain ⟨k, rfl, h2⟩ := aU'.asB h1
    exact ⟨k, z.bl_inv, h2 _ _ _ e r⟩
theorem m0' {op op' : CmpOp} {f g : M.D -> M.D -> Option M.D} {r r' : R2} (ho : OpR X (compareOp op) r) (hf : Op2 X.K f r) (ho' : OpR X (compareOp op') r') (hg : Op2 X.K g r') (ha : SE X W a ma) (hb : SE X W b mb) (hc : SE X W c mc)
    (hm : lastMarks [op, op'] [b, c] = false := by with_unfolding_all rfl) : ST X W (.Compare a [op, op'] [b, c] pos) (M.tE (M.g0' f g ma mb mc)) := PT.imp (pt_chain ho ho' ha hb hc hm) fun σ H Q ⟨ρ, F, T, fr, rel, h⟩ => by
    show tChain r r' (qE X.K W ma) (qE X.K W mb) (qE X.K W mc) σ H fun x H' => ∃ k, x = .bl k /\ Q k H'
    refine ot' hf hg ⟨ρ, F, T, fr, rel, (aU'.bind h).mono (fun d ρ1 h1 v H1 F1 T1 e z r => ?_) fun _ _ z => z⟩
    obtain ⟨k, rfl, h2⟩ := aU'.asB h1
    exact ⟨k, z.bl_inv, h2 _ _ _ e r⟩
abbrev SW (X : Cx) (W : WX) (e : Expr) (m : M.MT) : Prop := PW X e (qT X.K W m)
theorem pV' (ha : ST X W a mt) : SW X W (.BoolOp .And [a] pos) mt := pw_and1 ha
theorem hU' (ha : ST X W a mt) : SW X W (.BoolOp .Or [a] pos) mt := pw_or1 ha
theorem tX' (ha : ST X W a mt) (hb : SW X W (.BoolOp .And (b :: rest) pos) mu) : SW X W (.BoolOp .And (a :: b :: rest) pos) (M.wO' mt mu) := PW.imp (pw_and ha hb) fun σ H Q ⟨ρ, F, T, fr, rel, h⟩ => by
  refine le' rel h fun k ρ1 H1 F1 T1 e1 r1 h1 => ?_
  cases k with
  | true => rw [if_pos rfl] at h1 ⊢; exact ⟨ρ1, F1, T1, fr, r1, h1.mono (fun _ _ z H' F' T' e => z H' F' T' (e1.trans e)) fun _ _ z => z⟩
  | false => rw [if_neg Bool.false_ne_true] at h1 ⊢; exact h1 _ _ _ e1 r1
theorem k4' (ha : ST X W a mt) (hb : SW X W (.BoolOp .Or (b :: rest) pos) mu) : SW X W (.BoolOp .Or (a :: b :: rest) pos) (M.tOr mt mu) := PW.imp (pw_or ha hb) fun σ H Q ⟨ρ, F, T, fr, rel, h⟩ => by
  refine le' rel h fun k ρ1 H1 F1 T1 e1 r1 h1 => ?_
  cases k with
  | true => rw [if_pos rfl] at h1 ⊢; exact h1 _ _ _ e1 r1
  | false => rw [if_neg Bool.false_ne_true] at h1 ⊢; exact ⟨ρ1, F1, T1, fr, r1, h1.mono (fun _ _ z H' F' T' e => z H' F' T' (e1.trans e)) fun _ _ z => z⟩
theorem tY' (h : SW X W a mt) : ST X W a mt := PW.pt h
theorem cx' (ha : ST X W a mt) : ST X W (.UnaryOp .Not a pos) (M.hy' mt) := PT.imp (pt_not ha) fun σ H Q ⟨ρ, F, T, fr, rel, h⟩ => le' rel h fun k ρ1 H1 F1 T1 e1 r1 h1 => h1 _ _ _ e1 r1
variable {es : List Expr} {as : M.MA}
theorem ai' : SA X W [] M.bk' := PA.imp pa_nil fun σ H Q ⟨ρ, F, T, fr, rel, h⟩ => h [] H F T .refl .nil rel
theorem aa' (ha : SE X W a ma) (hr : SA X W es as) (hs : starEach (a :: es) X.env = (false, eval a X.env) :: starEach es X.env := by rfl) : SA X W (a :: es) (M.ad' ma as) := PA.imp (pa_cons ha hr hs) fun σ H Q ⟨ρ, F, T, fr, rel, h⟩ => by
  refine az' rel h fun dx ρ1 v H1 F1 T1 e1 z1 r1 h1 => ?_
  refine dv' r1 h1 fun ds ρ2 vs H2 F2 T2 e2 z2 r2 h2 => ?_
  exact h2 _ _ _ _ (e1.trans e2) (.cons (z1.mono e2) z2) r2
theorem gx' {k} (h : SA X W es as) : SE X W (.Tuple es k pos) (M.rq' as) := PE.imp (pe_tup h) fun σ H Q ⟨ρ, F, T, fr, rel, h⟩ => by
  refine dv' rel h fun ds ρ1 vs H1 F1 T1 e1 z1 r1 h1 => ?_
  split at h1
  . rename_i hl
    refine ⟨by rw [z1.length, bL']; exact hl, fun p hp => ?_⟩
    obtain ⟨fp, f, back⟩ := r1.fp
    have s : Same F1 (upd F1 p (.tup vs)) := cJ' (f.free hp)
    exact h1 _ _ _ _ (e1.trans (.of s)) (.tup (SqT.of upd_same) (z1.mono (.of s))) (back _ _ s (f.new hp))
  . exact h1.elim
abbrev SP_ (X : Cx) (W : WX) (e : Option Expr) (m : M.MP) : Prop := PO X e (qP X.K W m)
theorem u6' : SP_ X W none M.pNo := PO.imp po_none fun σ H Q ⟨ρ, F, T, fr, rel, h⟩ => h _ _ _ .refl rel
theorem u5' (ha : SE X W a ma) : SP_ X W (some a) (M.pSo ma) := PO.imp (po_some ha) fun σ H Q ⟨ρ, F, T, fr, rel, h⟩ => by
  refine az' rel h fun dx ρ1 v H1 F1 T1 e1 z1 r1 h1 => ?_
  split at h1
  . exact ⟨_, z1.int_inv, h1 _ _ _ e1 r1⟩
  . exact h1.elim
theorem vb' {r : V -> Option Int -> Option Int -> Hp -> VK -> Prop} {lo hi : Option Expr} {ml mh : M.MP} {p2 : Pos} (ho : SlR X r) (hf : Cz' X.K r) (ha : SE X W a ma) (hl : SP_ X W lo ml) (hh : SP_ X W hi mh) : SE X W (.Subscript a (.Slice lo hi none p2) pos) (M.eSl ma ml mh) :=
  PE.imp (pe_slice ho ha hl hh) fun σ H Q ⟨ρ, F, T, fr, rel, h⟩ => by
    refine az' rel h fun dx ρ1 v H1 F1 T1 e1 z1 r1 h1 => ?_
    refine qw' r1 h1 fun l ρ2 H2 F2 T2 e2 r2 h2 => ?_
    refine qw' r2 h2 fun u ρ3 H3 F3 T3 e3 r3 h3 => ?_
    obtain ⟨dz, ez, q⟩ := aU'.ofO h3
    obtain ⟨fp, f3, back⟩ := r3.fp
    exact hf f3 ((z1.mono e2).mono e3) ez fun v' H4 F4 s zz f4 => q v' H4 F4 T3 (e1.trans (e2.trans (e3.trans (.of s)))) zz (back H4 F4 s f4)
end
end S
namespace S
open PySem PySem.Spec PyProof.Rows L2
variable [Wd]
section
variable (K : PySem.W.Frag) (H : Hp)
mutual
inductive NkV : V -> NestedKey -> Prop
  | non : NkV .non .none
  | bl (b : Bool) : NkV (.bl b) (.num (if b = true then 1 else 0))
  | int (i : Int) : NkV (.int i) (.num i)
  | str (x : Str) : NkV (.str x) (.text x)
  | tup {a : Addr} {vs : List V} {ks : List NestedKey} : SqT K H a vs -> NkVs vs ks -> NkV (.ref a) (.tup ks)
inductive NkVs : List V -> List NestedKey -> Prop
  | nil : NkVs [] []
  | cons {v : V} {vs : List V} {k : NestedKey} {ks : List NestedKey} : NkV v k -> NkVs vs ks -> NkVs (v :: vs) (k :: ks)
end
end
section
variable {X : Cx} {pins : List (Addr × Obj)} {σ : St} {H : Hp} {s : Shared}
mutual
theorem NkV.is (I : Inv X pins σ H s) : ∀ {v : V} {k : NestedKey} {u : Value}, NkV X.K H v k -> RelV v u -> NestedIs s.heap k u
  | _, _, _, .non, r => by cases (show _ = Value.none from r); exact .none
  | _, _, _, .bl b, r => by cases (show _ = Value.bool b from r); exact .bool rfl
  | _, _, _, .int i, r => by obtain ⟨t, e⟩ := (show ∃ t, _ = Value.int i t from r); subst e; exact .int i t
  | _, _, _, .str x, r => by obtain ⟨t, e⟩ := (show ∃ t, _ = Value.str x t from r); subst e; exact .text x t
  | _, _, _, .tup (a := a) h q, r => by
    cases (show _ = Value.ref a from r)
    obtain ⟨its, rv, ⟨o, h1, h2, n, h3⟩, _⟩ := I.tuple h
    exact .tup h1 h2 h3 (NkVs.is I q rv)
theorem NkVs.is (I : Inv X pins σ H s) : ∀ {v : List V} {k : List NestedKey} {u : List Value}, NkVs X.K H v k -> Vals v u -> NestedAll s.heap k u
  | _, _, _, .nil, r => by cases r; exact .nil
  | _, _, _, .cons a q, r => by
    cases r with
    | cons ra rq => exact .cons (NkV.is I a ra) (NkVs.is I q rq)
end
end
section
variable {K : PySem.W.Frag} {F H : Hp} {T : List Addr}
mutual
theorem Fz.nk (s : Same F H) : ∀ {v : V} {d : M.D}, Fz K F T v d -> M.kat d = true -> NkV K H v (nk d)
  | _, _, .non, _ => .non
  | _, _, .bl b, _ => .bl b
  | _, _, .int i, _ => .int i
  | _, _, .str h, _ => .str _
  | _, _, .tup h r, e => .tup (seqT s h) (FzA.nk s r e)
  | _, _, .lst h r, e => by cases e
  | _, _, .dct h _ r, e => by cases e
  | _, _, .dcl h k r, e => by cases e
  | _, _, .dcn h k q r, e => by cases e
  | _, _, .rep d, e => by cases e
  | _, _, .obj h, e => by cases e
  | _, _, .ty n, e => by cases e
  | _, _, .fn x, e => by cases e
  | _, _, .scr h r, e => by cases e
theorem FzA.nk (s : Same F H) : ∀ {vs : List V} {ds : List M.D}, FzA K F T vs ds -> M.kats ds = true -> NkVs K H vs (nks ds)
  | _, _, .nil, _ => .nil
  | _, _, .cons h r, e => by
    obtain ⟨e1, e2⟩ := Bool.and_eq_true_iff.mp (show (M.kat _ && M.kats _) = true from e)
    exact .cons (Fz.nk s h e1) (FzA.nk s r e2)
end
def lfV : V -> Option Leaf
  | .non => some .none
  | .bl b => some (.num (if b = true then 1 else 0))
  | .int i => some (.num i)
  | .str x => some (.text x)
  | _ => none
theorem Fz.lf {v : V} {d : M.D} (h : Fz K F T v d) (e : M.sca d = true) : lfV v = some (lfD d) := by
  cases h <;> first | rfl | (cases e)
theorem qZ' {P : Program} {w : World} {v : V} {l : Leaf} {u : Value} (h : lfV v = some l) (r : RelV v u) : (leafKind P w).is l u = true := by
  cases v with
  | non => cases h; cases (show _ = Value.none from r); rfl
  | bl b => cases h; cases (show _ = Value.bool b from r); cases b <;> rfl
  | int i => cases h; obtain ⟨t, e⟩ := (show ∃ t, _ = Value.int i t from r); subst e; exact leaf_int i t
  | str x => cases h; obtain ⟨t, e⟩ := (show ∃ t, _ = Value.str x t from r); subst e; exact leaf_str x t
  | _ => cases h
end
mutual
theorem iO' : ∀ d : M.D, M.kat d = true -> (nk d).depth = M.dep d
  | .non, _ => rfl
  | .bl _, _ => rfl
  | .int _, _ => rfl
  | .str _, _ => rfl
  | .tup ds, e => congrArg (· + 1) (nks_depth ds e)
  | .lst _, e => by cases e
  | .dct _ _, e => by cases e
  | .dcx _ _, e => by cases e
  | .rep _, e => by cases e
  | .obj _, e => by cases e
  | .ty _, e => by cases e
  | .fn _, e => by cases e
  | .exc _ _, e => by cases e
  | .scr _, e => by cases e
theorem nks_depth : ∀ ds : List M.D, M.kats ds = true -> NestedKey.depthAll (nks ds) = M.deps ds
  | [], _ => rfl
  | d :: r, e => by
    obtain ⟨e1, e2⟩ := Bool.and_eq_true_iff.mp (show (M.kat d && M.kats r) = true from e)
    show max _ _ = max _ _
    rw [iO' d e1, nks_depth r e2]
end
mutual
theorem uo' : ∀ d e : M.D, M.kat d = true -> M.kat e = true -> M.eqb d e = NestedKey.beq (nk d) (nk e)
  | .non, e, _, h => by cases e <;> first | rfl | (cases h)
  | .bl a, e, _, h => by
    cases e with
    | bl b => cases a <;> cases b <;> rfl
    | int j => show ((if a then 1 else 0 : Int) == j) = decide _; rw [Bool.eq_iff_iff]; simp
    | _ => first | rfl | (cases h)
  | .int i, e, _, h => by
    cases e with
    | bl b => show (i == (if b then 1 else 0 : Int)) = decide _; rw [Bool.eq_iff_iff]; simp
    | int j => show (i == j) = decide _; rw [Bool.eq_iff_iff]; simp
    | _ => first | rfl | (cases h)
  | .str a, e, _, h => by
    cases e with
    | str b => show (a == b) = decide _; rw [Bool.eq_iff_iff, beq_iff_eq, decide_eq_true_iff]; exact ⟨fun h => by rw [h], tV'⟩
    | _ => first | rfl | (cases h)
  | .tup a, e, h1, h => by
    cases e with
    | tup b => exact eqbs_nk a b h1 h
    | _ => first | rfl | (cases h)
  | .lst _, _, h, _ => by cases h
  | .dct _ _, _, h, _ => by cases h
  | .dcx _ _, _, h, _ => by cases h
  | .rep _, _, h, _ => by cases h
  | .obj _, _, h, _ => by cases h
  | .ty _, _, h, _ => by cases h
  | .fn _, _, h, _ => by cases h
  | .exc _ _, _, h, _ => by cases h
  | .scr _, _, h, _ => by cases h
theorem eqbs_nk : ∀ d e : List M.D, M.kats d = true -> M.kats e = true -> M.eqbs d e = NestedKey.beqAll (nks d) (nks e)
  | [], [], _, _ => rfl
  | [], _ :: _, _, _ => rfl
  | _ :: _, [], _, _ => rfl
  | a :: d, b :: e, h1, h2 => by
    obtain ⟨a1, a2⟩ := Bool.and_eq_true_iff.mp (show (M.kat a && M.kats d) = true from h1)
    obtain ⟨b1, b2⟩ := Bool.and_eq_true_iff.mp (show (M.kat b && M.kats e) = true from h2)
    show (M.eqb a b && M.eqbs d e) = (NestedKey.beq (nk a) (nk b) && NestedKey.beqAll (nks d) (nks e))
    rw [uo' a b a1 b1, eqbs_nk d e a2 b2]
end
theorem ro' {d e : M.D} (h1 : M.kat d = true) (h2 : M.kat e = true) : M.eqb d e = decide (nk d = nk e) := by
  rw [uo' d e h1 h2, NestedKey.decide_eq]
theorem qb' {d : M.D} (h : M.sca d = true) : M.kat d = true := by cases d <;> first | rfl | (cases h)
theorem uf' {d : M.D} (h : M.sca d = true) : (lfD d).key = nk d := by cases d <;> first | rfl | (cases h)
theorem yL' {d e : M.D} (h1 : M.sca d = true) (h2 : M.sca e = true) : M.eqb d e = decide (lfD d = lfD e) := by
  rw [ro' (qb' h1) (qb' h2), <- uf' h1, <- uf' h2]
  by_cases q : lfD d = lfD e
  . rw [decide_eq_true q, decide_eq_true (congrArg Leaf.key q)]
  . rw [decide_eq_false q, decide_eq_false fun r => q (Leaf.key_inj r)]
theorem up' (k j : Key) : M.eqb (kD k) (kD j) = decide (k = j) := by
  cases k with
  | inl a => cases j with
    | inl b => rw [key_ll]; rfl
    | inr b => rw [key_lr]; rfl
  | inr a => cases j with
    | inl b => rw [key_rl]; rfl
    | inr b =>
      rw [key_rr]
      show (a.cps.toList == b.cps.toList) = _
      rw [Bool.eq_iff_iff, beq_iff_eq, decide_eq_true_iff]
      exact ⟨fun h => by rw [<- u1' a, <- u1' b, h], fun h => by rw [h]⟩
section
variable {κ : Type} [DecidableEq κ]
theorem d9' {dk : M.D} {k : κ} : ∀ {kvs : List (κ × V)} {ks : List M.D}, Paired (fun p d => M.eqb d dk = decide (p.1 = k)) kvs ks -> valV kvs k = M.dget ks (kvs.map (·.2)) dk
  | _, _, .nil => rfl
  | p :: kvs, d :: ks, .cons h r => by
    have ih := d9' r
    unfold M.dget M.gg' at ih ⊢
    rw [List.findIdx?_cons, h]
    by_cases e : p.1 = k
    . rw [valV_pos e, decide_eq_true e]; rfl
    . rw [valV_neg e, decide_eq_false e, ih]
      cases ks.findIdx? fun d => M.eqb d dk <;> rfl
theorem c1' {dk : M.D} {k : κ} {v : V} : ∀ {kvs : List (κ × V)} {ks : List M.D}, Paired (fun p d => M.eqb d dk = decide (p.1 = k)) kvs ks -> (kvs.map (·.1)).Nodup →
    (∀ j, M.gg' ks dk = some j -> (putK kvs k v).map (·.1) = kvs.map (·.1) /\ (putK kvs k v).map (·.2) = (kvs.map (·.2)).set j v) /\ (M.gg' ks dk = none -> putK kvs k v = kvs ++ [(k, v)])
  | _, _, .nil, _ => ⟨fun j h => (nomatch (show (none : Option Nat) = some j from h)), fun _ => rfl⟩
  | p :: kvs, d :: ks, .cons h r, nd => by
    rw [List.map_cons, List.nodup_cons] at nd
    obtain ⟨i1, i2⟩ := c1' (v := v) r nd.2
    have hk : M.gg' (d :: ks) dk = if p.1 = k then some 0 else (M.gg' ks dk).map (· + 1) := by
      unfold M.gg'
      rw [List.findIdx?_cons, h]
      by_cases e : p.1 = k <;> simp [e]
    by_cases e : p.1 = k
    . rw [hk, if_pos e]
      refine ⟨fun j hj => ?_, fun hj => nomatch hj⟩
      cases hj
      have no : ∀ q ∈ kvs, ¬ q.1 = k := fun q hq z => nd.1 (by rw [e, <- z]; exact List.mem_map_of_mem hq)
      have same : kvs.map (fun kv => if kv.1 = k then (kv.1, v) else kv) = kvs := by
        conv => rhs; rw [<- List.map_id kvs]
        exact List.map_congr_left fun q hq => by rw [if_neg (no q hq)]; rfl
      have hp : putK (p :: kvs) k v = (p.1, v) :: kvs := by
        unfold putK
        rw [if_pos (by simp [e]), List.map_cons, if_pos e, same]
      rw [hp]
      exact ⟨rfl, rfl⟩
    . have hp : putK (p :: kvs) k v = p :: putK kvs k v := by
        unfold putK
        simp only [List.any_cons, decide_eq_false e, Bool.false_or, List.map_cons, if_neg e, List.cons_append]
        split <;> rfl
      rw [hk, if_neg e, hp]
      refine ⟨fun j hj => ?_, fun hj => ?_⟩
      . cases q : M.gg' ks dk with
        | none => rw [q] at hj; cases hj
        | some j' =>
          rw [q] at hj
          cases hj
          obtain ⟨a, b⟩ := i1 j' q
          simp only [List.map_cons, a, b, List.set_cons_succ, and_self]
      . cases q : M.gg' ks dk with
        | none => rw [i2 q]; rfl
        | some j' => rw [q] at hj; cases hj
end
theorem gI' {κ : Type} [DecidableEq κ] {g : M.D -> κ} {dk : M.D} {k : κ} : ∀ {kvs : List (κ × V)} {ks : List M.D}, kvs.map (·.1) = ks.map g -> (∀ d ∈ ks, M.eqb d dk = decide (g d = k)) -> Paired (fun p d => M.eqb d dk = decide (p.1 = k)) kvs ks
  | [], [], _, _ => .nil
  | [], _ :: _, e, _ => by cases e
  | _ :: _, [], e, _ => by cases e
  | p :: kvs, d :: ks, e, h => by
    simp only [List.map_cons, List.cons.injEq] at e
    exact .cons (by rw [h d (by simp), e.1]) (gI' e.2 fun d hd => h d (by simp [hd]))
abbrev xsV (xs : List (NestedKey × Addr × V)) : List (NestedKey × V) := xs.map fun x => (x.1, x.2.2)
def wK' (K : PySem.W.Frag) (H : Hp) (xs : List (NestedKey × Addr × V)) : Prop := ∀ x ∈ xs, NkV K H (.ref x.2.1) x.1 /\ x.1.depth <= 8
inductive DLk (K : PySem.W.Frag) (H : Hp) (a : Addr) : V -> Option V -> Prop
  | k {kvs : List (Key × V)} (k : Key) : Rd H a (.dK kvs) -> DLk K H a (kV k) (valV kvs k)
  | l {kvs : List (Leaf × V)} {y : V} {l : Leaf} : Rd H a (dcL a kvs) -> lfV y = some l -> DLk K H a y (valV kvs l)
  | n {xs : List (NestedKey × Addr × V)} {b : Addr} {k : NestedKey} : Rd H a (dcN a xs) -> wK' K H xs -> NkV K H (.ref b) k -> k.depth <= 8 -> DLk K H a (.ref b) (valV (xsV xs) k)
  | ln {b : Addr} {k : NestedKey} : Rd H a (dcL a []) -> NkV K H (.ref b) k -> k.depth <= 8 -> DLk K H a (.ref b) none
  | nl {y : V} {l : Leaf} : Rd H a (dcN a []) -> lfV y = some l -> DLk K H a y none
section
variable {X : Cx} {pins : List (Addr × Obj)} {σ : St} {H : Hp} {s : Shared} {a b : Addr} {y : V} {u : Value} {ov : Option V} {A : Around} {E : Value -> Shared -> Prop}
theorem sr' {u : HO} (I : Inv X pins σ H s) (h : Rd H a u) : ObjOk X.prog X.w H s.heap a u := by
  rcases h with h | ⟨o, h⟩
  . exact I.hok a _ h
  . exact (show ObjOk X.prog X.w H s.heap a (.frz o u) from I.hok a _ h).2
theorem ik' (hw : X.prog = Wd.P /\ X.w = Wd.w) (I : Inv X pins σ H s) {kvs : List (Leaf × V)} (h : Rd H a (dcL a kvs)) : (a == sysModules) = false /\ kvs.length <= sizeLine /\ ∃ vs, KV kvs vs /\ s.heap.DictOf (leafKind X.prog X.w) a vs := by
  obtain ⟨⟨h1, h2, vs, h3, h4⟩, _⟩ := (show ObjOk X.prog X.w H s.heap a (dcL a kvs) from sr' I h)
  refine ⟨h1, h2, vs, h3, ?_⟩
  rw [<- hw.1, <- hw.2] at h4
  exact h4
theorem gH' {xs : List (NestedKey × Addr × V)} {ys : List (NestedKey × Addr × Value)} (p : Paired oH' xs ys) : xs.map (·.1) = ys.map (·.1) := by
  induction p with
  | nil => rfl
  | cons h _ ih => rw [List.map_cons, List.map_cons, h.1, ih]
theorem uA' {xs : List (NestedKey × Addr × V)} {ys : List (NestedKey × Addr × Value)} (p : Paired oH' xs ys) (k : NestedKey) : RelO (valV (xsV xs) k) ((atKey ys k).map (·.2)) := by
  induction p with
  | nil => exact True.intro
  | @cons x y xs ys h r ih =>
    by_cases e : x.1 = k
    . have e' : y.1 = k := by rw [<- h.1]; exact e
      rw [show xsV (x :: xs) = (x.1, x.2.2) :: xsV xs from rfl, valV_pos (p := (x.1, x.2.2)) e]
      have : atKey (y :: ys) k = some y.2 := by simp [atKey, List.find?_cons, e']
      rw [this]
      exact h.2.2
    . have e' : ¬ y.1 = k := by rw [<- h.1]; exact e
      rw [show xsV (x :: xs) = (x.1, x.2.2) :: xsV xs from rfl, valV_neg (p := (x.1, x.2.2)) e]
      have : atKey (y :: ys) k = atKey ys k := by simp [atKey, List.find?_cons, e']
      rw [this]
      exact ih
theorem nM' (hw : X.prog = Wd.P /\ X.w = Wd.w) (I : Inv X pins σ H s) {xs : List (NestedKey × Addr × V)} (h : Rd H a (dcN a xs)) (ok : wK' X.K H xs) : (a == sysModules) = false /\ xs.length <= sizeLine /\ (xs.map (·.1)).Nodup ∧
    ∃ ys, Paired oH' xs ys /\ s.heap.DictOfH (nestedKind X.prog X.w) a ys := by
  obtain ⟨⟨h1, h2, h3, ys, h4, o, es, ep, g1, g2, g3, g4⟩, _⟩ := (show ObjOk X.prog X.w H s.heap a (dcN a xs) from sr' I h)
  refine ⟨h1, h2, h3, ys, h4, o, es, ep, g1, g2, g3, ?_, ?_, ?_⟩
  . rw [<- hw.1, <- hw.2] at g4
    exact g4
  . have main : ∀ {xs : List (NestedKey × Addr × V)} {ys : List (NestedKey × Addr × Value)}, Paired oH' xs ys -> wK' X.K H xs -> ∀ y ∈ ys, (nestedKind X.prog X.w).is s.heap y.1 y.2.1 := by
      intro xs ys p ok
      induction p with
      | nil => exact fun _ z => nomatch z
      | @cons x y xs ys h r ih =>
        intro z hz
        rcases List.mem_cons.mp hz with rfl | hz
        . obtain ⟨q1, q2⟩ := ok x (by simp)
          rw [<- h.1, <- h.2.1]
          exact ⟨q1.is I rfl, q2⟩
        . exact ih (fun w hw => ok w (by simp [hw])) z hz
    exact main h4 ok
  . rw [<- gH' h4]; exact h3
theorem fu' (hw : X.prog = Wd.P /\ X.w = Wd.w) (I : Inv X pins σ H s) (h : Rd H a (dcL a [])) : (a == sysModules) = false /\ s.heap.DictOfH (nestedKind X.prog X.w) a [] := by
  obtain ⟨h1, _, vs, h3, o, es, ep, g1, g2, g3, _, g5, _⟩ := ik' hw I h
  cases h3
  obtain ⟨l⟩ := es
  have e : l = [] := by
    have g5 : PySem.Pairs (leafKind X.prog X.w) l [] := g5
    cases g5
    rfl
  exact ⟨h1, o, _, ep, g1, g2, g3, e, (fun _ z => nomatch z), List.nodup_nil⟩
theorem fs' (I : Inv X pins σ H s) (h : Rd H a (dcN a [])) : (a == sysModules) = false /\ s.heap.DictOf (leafKind X.prog X.w) a [] := by
  obtain ⟨⟨h1, _, _, ys, h4, o, es, ep, g1, g2, g3, g4⟩, _⟩ := (show ObjOk X.prog X.w H s.heap a (dcN a []) from sr' I h)
  cases h4
  obtain ⟨l⟩ := es
  have e : l = [] := g4
  subst e
  exact ⟨h1, o, #[], ep, g1, g2, g3, (fun _ z => by simp at z), .nil, List.nodup_nil⟩
theorem v9' (hw : X.prog = Wd.P /\ X.w = Wd.w) (I : Inv X pins σ H s) (g : DLk X.K H a y ov) : s.TypeIs (.ref a) "dict" := by
  cases g with
  | k k e => obtain ⟨_, _, vs, _, dd⟩ := dk_rd I.hok e; exact dd.typeIs
  | l e _ => obtain ⟨_, _, vs, _, dd⟩ := ik' hw I e; exact dd.typeIs
  | n e ok _ _ => obtain ⟨_, _, _, ys, _, dd⟩ := nM' hw I e ok; exact dd.typeIs
  | ln e _ _ => exact (fu' hw I e).2.typeIs
  | nl e _ => exact (fs' I e).2.typeIs
theorem qj' {P : Program} {w : World} (hu : A.units + 64 < cLine) : (nestedKind P w).room A.in1 := by
  show A.units + 1 + 8 < cLine
  omega
theorem yR' {v : V} {Q : Value -> Shared -> Prop} (hw : X.prog = Wd.P /\ X.w = Wd.w) (hu : A.units + 64 < cLine) (I : Inv X pins σ H s) (g : DLk X.K H a y (some v)) (ry : RelV y u)
    (h : ∀ w' s', Inv X pins σ H s' -> RelV v w' -> Q w' s') : wpAny (model X.prog X.w) A (getItem (.ref a) u) Q E s := by
  generalize hov : some v = ov at g
  cases g with
  | k k e =>
    obtain ⟨_, _, vs, rel, dd⟩ := dk_rd I.hok e
    obtain ⟨w', q1, q2⟩ := RelO.some_of (v := v) (o := valueAt vs k) (by rw [hov]; exact rel.val k)
    exact wpAny_getItem_of (kV_is ry) dd.mapOf q1 (h w' _ (I.tok _) q2)
  | @l kvs _ l e hy =>
    obtain ⟨_, _, vs, rel, dd⟩ := ik' hw I e
    obtain ⟨w', q1, q2⟩ := RelO.some_of (v := v) (o := valueAt vs l) (by rw [hov]; exact rel.val l)
    exact wpAny_getItem_of (qZ' hy ry) dd.mapOf q1 (h w' _ (I.tok _) q2)
  | @n xs b k e ok hk hd =>
    obtain ⟨_, _, _, ys, rel, dd⟩ := nM' hw I e ok
    cases (show u = Value.ref b from ry)
    obtain ⟨w', q1, q2⟩ := RelO.some_of (v := v) (o := (atKey ys k).map (·.2)) (by rw [hov]; exact uA' rel k)
    obtain ⟨p, hp, hp2⟩ := Option.map_eq_some_iff.mp q1
    refine wpAny_getItem_heap (qj' hu) ⟨hk.is I rfl, hd⟩ dd hp ?_
    rw [hp2]
    exact h w' _ (I.tok _) q2
  | ln _ _ _ => cases hov
  | nl _ _ => cases hov
theorem yQ' {Q : Value -> Shared -> Prop} (hw : X.prog = Wd.P /\ X.w = Wd.w) (hu : A.units + 64 < cLine) (I : Inv X pins σ H s) (g : DLk X.K H a y ov) (ry : RelV y u)
    (h : ∀ s', Inv X pins σ H s' -> Q (.bool (!ov.isSome)) s') : wpAny (model X.prog X.w) A (compareOp .NotIn u (.ref a)) Q E s := by
  cases g with
  | k k e =>
    obtain ⟨_, hd, vs, rel, dd⟩ := dk_rd I.hok e
    refine wpAny_notIn_of (kV_is ry) hd dd.mapOf ?_
    rw [<- (rel.val k).isSome_eq]
    exact h _ (I.tok _)
  | @l kvs _ l e hy =>
    obtain ⟨hd, _, vs, rel, dd⟩ := ik' hw I e
    refine wpAny_notIn_of (qZ' hy ry) hd dd.mapOf ?_
    rw [<- (rel.val l).isSome_eq]
    exact h _ (I.tok _)
  | @n xs b k e ok hk hdp =>
    obtain ⟨hd, _, _, ys, rel, dd⟩ := nM' hw I e ok
    cases (show u = Value.ref b from ry)
    refine wpAny_notIn_heap (qj' hu) ⟨hk.is I rfl, hdp⟩ hd dd ?_
    have q := (uA' rel k).isSome_eq
    rw [Option.isSome_map] at q
    rw [<- q]
    exact h _ (I.tok _)
  | @ln b k e hk hdp =>
    obtain ⟨hd, dd⟩ := fu' hw I e
    cases (show u = Value.ref b from ry)
    exact wpAny_notIn_heap (qj' hu) ⟨hk.is I rfl, hdp⟩ hd dd (h _ (I.tok _))
  | @nl _ l e hy =>
    obtain ⟨hd, dd⟩ := fs' I e
    exact wpAny_notIn_of (qZ' hy ry) hd dd.mapOf (h _ (I.tok _))
def kZ' (xs : List (NestedKey × Addr × V)) (k : NestedKey) (b : Addr) (v : V) : List (NestedKey × Addr × V) :=
  if (xs.any fun x => decide (x.1 = k)) = true then xs.map (fun x => if x.1 = k then (x.1, x.2.1, v) else x) else xs ++ [(k, b, v)]
theorem nf' (xs : List (NestedKey × Addr × V)) (k : NestedKey) (b : Addr) (v : V) : xsV (kZ' xs k b v) = putK (xsV xs) k v := by
  have e : ((xsV xs).any fun kv => decide (kv.1 = k)) = xs.any fun x => decide (x.1 = k) := by rw [xsV, List.any_map]; rfl
  unfold kZ' putK
  rw [e]
  split
  . rw [xsV, xsV, List.map_map, List.map_map]
    refine List.map_congr_left fun x _ => ?_
    by_cases h : x.1 = k <;> simp [h]
  . simp [xsV]
theorem qy' {xs : List (NestedKey × Addr × V)} {k : NestedKey} {b : Addr} {v : V} (h : (xs.any fun x => decide (x.1 = k)) = true) : (kZ' xs k b v).map (fun x => V.ref x.2.1) = xs.map fun x => V.ref x.2.1 := by
  unfold kZ'
  rw [if_pos h, List.map_map]
  refine List.map_congr_left fun x _ => ?_
  by_cases h : x.1 = k <;> simp [h]
theorem jV' (k : NestedKey) {v : V} {r : Value} (rv : RelV v r) : ∀ {xs : List (NestedKey × Addr × V)} {ys : List (NestedKey × Addr × Value)}, Paired oH' xs ys -> Paired oH' (xs.map fun x => if x.1 = k then (x.1, x.2.1, v) else x) (ys.map (putAt k r))
  | _, _, .nil => .nil
  | x :: _, y :: _, .cons h p => by
    refine .cons ?_ (jV' k rv p)
    unfold putAt
    by_cases e : x.1 = k
    . simp only [if_pos e, if_pos (show y.1 = k from h.1 ▸ e)]
      exact ⟨h.1, h.2.1, rv⟩
    . simp only [if_neg e, if_neg (show ¬ y.1 = k from h.1 ▸ e)]
      exact h
theorem m5' (k : NestedKey) (b : Addr) {v : V} {r : Value} (rv : RelV v r) : ∀ {xs : List (NestedKey × Addr × V)} {ys : List (NestedKey × Addr × Value)}, Paired oH' xs ys -> Paired oH' (xs ++ [(k, b, v)]) (ys ++ [(k, b, r)])
  | _, _, .nil => .cons ⟨rfl, rfl, rv⟩ .nil
  | _, _, .cons h p => .cons h (m5' k b rv p)
theorem ng' {xs : List (NestedKey × Addr × V)} {ys : List (NestedKey × Addr × Value)} (p : Paired oH' xs ys) (k : NestedKey) (b : Addr) {v : V} {r : Value} (rv : RelV v r) : Paired oH' (kZ' xs k b v) (storedH ys k b r) := by
  have ea : (xs.any fun x => decide (x.1 = k)) = (atKey ys k).isSome := by
    have q := (uA' p k).isSome_eq
    rw [Option.isSome_map] at q
    rw [<- q, <- valV_any, xsV, List.any_map]
    rfl
  unfold kZ' storedH
  rw [ea]
  split
  . exact jV' k rv p
  . exact m5' k b rv p
inductive DSt (K : PySem.W.Frag) (H : Hp) (a : Addr) (y v : V) (N : Hp -> Prop) : Prop
  | k {kvs : List (Key × V)} (k : Key) : H a = some (.dK kvs) -> y = kV k -> ((kvs.map (·.1)).Nodup -> (kvs.length <= sizeLine -> (putK kvs k v).length <= sizeLine) /\ N (upd H a (.dK (putK kvs k v)))) -> DSt K H a y v N
  | l {kvs : List (Leaf × V)} {l : Leaf} : H a = some (dcL a kvs) -> lfV y = some l -> ((kvs.map (·.1)).Nodup -> (kvs.length <= sizeLine -> (putK kvs l v).length <= sizeLine) /\ N (upd H a (dcL a (putK kvs l v)))) -> DSt K H a y v N
  | n {xs : List (NestedKey × Addr × V)} {b : Addr} {k : NestedKey} : H a = some (dcN a xs) -> wK' K H xs -> y = .ref b -> NkV K H (.ref b) k -> k.depth <= 8 -> ((xs.map (·.1)).Nodup -> (xs.length <= sizeLine -> (kZ' xs k b v).length <= sizeLine) /\ N (upd H a (dcN a (kZ' xs k b v)))) -> DSt K H a y v N
  | ln {b : Addr} {k : NestedKey} : H a = some (dcL a []) -> y = .ref b -> NkV K H (.ref b) k -> k.depth <= 8 -> N (upd H a (dcN a [(k, b, v)])) -> DSt K H a y v N
  | nl {l : Leaf} : H a = some (dcN a []) -> lfV y = some l -> N (upd H a (dcL a [(l, v)])) -> DSt K H a y v N
theorem lw' {P : Program} {H' : Hp} {h' : Heap} {kvs : List (Leaf × V)} {vs : List (Leaf × Value)} (z : kvs.length <= sizeLine) (hd : (a == sysModules) = false) (rel : KV kvs vs) (dd : h'.DictOf (leafKind Wd.P Wd.w) a vs) :
    ObjOk P Wd.w H' h' a (dcL a kvs) := by
  obtain ⟨o, es, ep, g⟩ := id dd
  refine ⟨⟨hd, z, vs, rel, dd⟩, ⟨o, g.1⟩, ?_⟩
  rintro h1 h2 ⟨a1, a2, vs', a3, o', es', ep', g1, g2⟩ k
  exact ⟨a1, a2, vs', a3, o', es', ep', k _ g1, g2⟩
theorem lv' {P : Program} {H' : Hp} {h' : Heap} {xs : List (NestedKey × Addr × V)} {ys : List (NestedKey × Addr × Value)} (z : xs.length <= sizeLine) (hd : (a == sysModules) = false) (rel : Paired oH' xs ys) (dd : h'.DictOfH (nestedKind Wd.P Wd.w) a ys) :
    ObjOk P Wd.w H' h' a (dcN a xs) := by
  obtain ⟨o, es, ep, g1, g2, g3, g4, g5, g6⟩ := dd
  refine ⟨⟨hd, z, by rw [gH' rel]; exact g6, ys, rel, o, es, ep, g1, g2, g3, g4⟩, ⟨o, g1⟩, ?_⟩
  rintro h1 h2 ⟨a1, a2, a3, ys', a4, o', es', ep', g1, g2⟩ k
  exact ⟨a1, a2, a3, ys', a4, o', es', ep', k _ g1, g2⟩
theorem yP' {v : V} {r : Value} {N : Hp -> Prop} {Q : Unit -> Shared -> Prop} (hw : X.prog = Wd.P /\ X.w = Wd.w) (hu : A.units + 64 < cLine) (I : Inv X pins σ H s) (g : DSt X.K H a y v N) (ry : RelV y u) (rv : RelV v r)
    (h : ∀ H' s', Inv X pins σ H' s' -> N H' -> Q () s') : wpAny (model X.prog X.w) A (setItem (.ref a) u r) Q E s := by
  cases g with
  | @k kvs k e ey n =>
    subst ey
    obtain ⟨z, hd, vs, rel, dd⟩ := dk_of I.hok e
    have hz : vs.length <= sizeLine := by rw [<- rel.length]; exact z
    have nd : (kvs.map (·.1)).Nodup := by
      rw [rel.keys]
      obtain ⟨_, _, _, _, _, _, _, _, nd⟩ := id dd
      exact nd
    obtain ⟨n1, n2⟩ := n nd
    exact wpAny_setItem_pairs (hsz := hz) (kV_is ry) dd fun h' dd' hs => h _ _ (d_write I (by rw [e]; exact True.intro) hs (let ⟨q, _, _, hq, _⟩ := dd'; ⟨q, hq⟩) (dk_new (n1 z) hd (rel.put k rv) dd')) n2
  | @l kvs l e hy n =>
    obtain ⟨hd, z, vs, rel, dd⟩ := ik' hw I (.inl e)
    have hz : vs.length <= sizeLine := by rw [<- rel.length]; exact z
    have nd : (kvs.map (·.1)).Nodup := by
      rw [rel.keys]
      obtain ⟨_, _, _, _, _, _, _, _, nd⟩ := id dd
      exact nd
    obtain ⟨n1, n2⟩ := n nd
    refine wpAny_setItem_pairs (hsz := hz) (qZ' hy ry) dd fun h' dd' hs => h _ _ (d_write I (by rw [e]; exact True.intro) hs (let ⟨q, _, _, hq, _⟩ := dd'; ⟨q, hq⟩) ?_) n2
    rw [hw.1, hw.2] at dd'
    rw [hw.2]
    exact lw' (n1 z) hd (rel.put l rv) dd'
  | @n xs b k e ok ey hk hdp n =>
    subst ey
    cases (show u = Value.ref b from ry)
    obtain ⟨hd, z, nd, ys, rel, dd⟩ := nM' hw I (.inl e) ok
    have hz : ys.length <= sizeLine := by rw [<- Paired.length rel]; exact z
    obtain ⟨n1, n2⟩ := n nd
    refine wpAny_setItem_heap (hsz := hz) (qj' hu) ⟨hk.is I rfl, hdp⟩ dd fun h' dd' hs => h _ _ (d_write I (by rw [e]; exact True.intro) hs (let ⟨q, _, _, hq, _⟩ := dd'; ⟨q, hq⟩) ?_) n2
    rw [hw.1, hw.2] at dd'
    rw [hw.2]
    exact lv' (n1 z) hd (ng' rel k b rv) dd'
  | @ln b k e ey hk hdp n =>
    subst ey
    cases (show u = Value.ref b from ry)
    obtain ⟨hd, dd⟩ := fu' hw I (.inl e)
    refine wpAny_setItem_heap (hsz := Nat.zero_le _) (qj' hu) ⟨hk.is I rfl, hdp⟩ dd fun h' dd' hs => h _ _ (d_write I (by rw [e]; exact True.intro) hs (let ⟨q, _, _, hq, _⟩ := dd'; ⟨q, hq⟩) ?_) n
    rw [hw.1, hw.2] at dd'
    rw [hw.2]
    exact lv' (by rw [sizeLine_eq]; show 1 <= 16777216; decide) hd (ng' .nil k b rv) dd'
  | @nl l e hy n =>
    obtain ⟨hd, dd⟩ := fs' I (.inl e)
    refine wpAny_setItem_pairs (hsz := Nat.zero_le _) (qZ' hy ry) dd fun h' dd' hs => h _ _ (d_write I (by rw [e]; exact True.intro) hs (let ⟨q, _, _, hq, _⟩ := dd'; ⟨q, hq⟩) ?_) n
    rw [hw.1, hw.2] at dd'
    rw [hw.2]
    exact lw' (by rw [sizeLine_eq]; show 1 <= 16777216; decide) hd (KV.put (kvs := []) .nil l rv) dd'
def vm' (K : PySem.W.Frag) : List V -> Hp -> VK -> Prop := fun xs H Q => xQ' K xs H Q \/ (∃ a kvs, xs = [V.ref a] /\ Rd H a (dcL a kvs) /\ Q (.int kvs.length) H) \/ ∃ a ys, xs = [V.ref a] /\ Rd H a (dcN a ys) /\ Q (.int ys.length) H
theorem aV' (hw : X.prog = Wd.P /\ X.w = Wd.w) : CallR X (.builtin "len") (vm' X.K) := by
  intro pins s σ H vs us Q I r h
  rcases h with h | ⟨a, kvs, rfl, e, q⟩ | ⟨a, xs, rfl, e, q⟩
  . exact rC' pins s σ H vs us Q I r h
  . cases r with
    | cons ra rn =>
      cases rn
      cases (show _ = Value.ref a from ra)
      obtain ⟨hd, z, ws, rel, dd⟩ := ik' hw I e
      refine call_len_dict hd dd (by rw [<- rel.length]; rw [sizeLine_eq] at z; omega) ?_
      rw [<- rel.length]
      exact ⟨.int kvs.length, H, I.tok _, ⟨_, rfl⟩, q⟩
  . cases r with
    | cons ra rn =>
      cases rn
      cases (show _ = Value.ref a from ra)
      obtain ⟨⟨hd, z, _, ys, rel, o, es, ep, g1, g2, g3, g4⟩, _⟩ := (show ObjOk X.prog X.w H s.heap a (dcN a xs) from sr' I e)
      have hl : es.size = xs.length := by
        have := congrArg List.length g4
        rw [List.length_map, <- Paired.length rel, Array.length_toList] at this
        exact this
      refine PyProof.Rows.call_len_slot (n := es.size) (show s.TypeIs (.ref a) "dict" from ⟨o, g1, g2.1⟩) PySem.F.slot_dict_len (fun Q' hq => call_len_raw hd ⟨o, g1, g2, g3⟩ hq) (by omega) (by rw [sizeLine_eq] at z; omega) ?_
      rw [hl]
      exact ⟨.int xs.length, H, I.tok _, ⟨_, rfl⟩, q⟩
end
end S
namespace S
open PySem PySem.Spec PyProof.Rows L2
variable [Wd] [Hot]
section
variable (K : PySem.W.Frag)
def Bi1 (f : M.D -> Option M.D) (r : List V -> Hp -> VK -> Prop) : Prop := ∀ {F H : Hp} {T : List Addr} {fp : Fp} {x : V} {dx dz : M.D} {Q : VK}, FpH F H fp -> Fz K F T x dx -> f dx = some dz -> e5' K F T fp dz Q -> r [x] H Q
def Bi2 (f : M.D -> M.D -> Option M.D) (r : List V -> Hp -> VK -> Prop) : Prop := ∀ {F H : Hp} {T : List Addr} {fp : Fp} {x y : V} {dx dy dz : M.D} {Q : VK}, FpH F H fp -> Fz K F T x dx -> Fz K F T y dy -> f dx dy = some dz -> e5' K F T fp dz Q -> r [x, y] H Q
end
section
variable {X : Cx} {W : WX} {K : PySem.W.Frag} {pos p : Pos} {x : Str} {id : String} {a b : Expr} {ma mb : M.ME} {σ : St} {H : Hp} {Q : VK} {r : List V -> Hp -> VK -> Prop}
theorem rK' {f : M.D -> Option M.D} (hf : Bi1 K f r) (h : qE K W (M.eUn f ma) σ H Q) : tCB r (tCons (qE K W ma) tNil) σ H Q := by
  obtain ⟨ρ, F, T, fr, rel, h⟩ := h
  refine az' rel h fun dx ρ1 v H1 F1 T1 e1 z1 r1 h1 => ?_
  obtain ⟨dz, ez, q⟩ := aU'.ofO h1
  obtain ⟨fp, f2, back⟩ := r1.fp
  exact hf f2 z1 ez fun v' H3 F3 s zz f3 => q v' H3 F3 T1 (e1.trans (.of s)) zz (back H3 F3 s f3)
theorem wH' {f : M.D -> M.D -> Option M.D} (hf : Bi2 K f r) (h : qE K W (M.eOp f ma mb) σ H Q) : tCB r (tCons (qE K W ma) (tCons (qE K W mb) tNil)) σ H Q := by
  obtain ⟨ρ, F, T, fr, rel, h⟩ := h
  refine az' rel h fun dx ρ1 v H1 F1 T1 e1 z1 r1 h1 => ?_
  refine az' r1 h1 fun dy ρ2 u H2 F2 T2 e2 z2 r2 h2 => ?_
  obtain ⟨dz, ez, q⟩ := aU'.ofO h2
  obtain ⟨fp, f2, back⟩ := r2.fp
  exact hf f2 (z1.mono e2) z2 ez fun v' H3 F3 s zz f3 => q v' H3 F3 T2 (e1.trans (e2.trans (.of s))) zz (back H3 F3 s f3)
theorem cz' {f : M.D -> Option M.D} (hc : CallR X (.builtin id) r) (hf : Bi1 X.K f r) (hg : Gl X x) (hm : X.mg x = none) (hv : bootBuiltins x = some (.builtin id)) (ha : SE X W a ma) (hn : x ≠ "__name__" := by decide) (hdb : (x == ("__debug__" : Str)) = false := by decide)
    (he : starEach [a] X.env = (false, eval a X.env) :: starEach [] X.env := by rfl) (hpl : (backTo pos (starEach [] X.env)).any (·.1) = false := by rfl) : SE X W (.Call (.Name x p) [a] [] pos) (M.eUn f ma) := PE.imp (pe_callB hc hg hm hv (pa_cons ha pa_nil he) hn hdb he hpl) fun _ _ _ => rK' hf
theorem bu' {f : M.D -> Option M.D} (hc : CallR X (.type id) r) (hf : Bi1 X.K f r) (hg : Gl X x) (hm : X.mg x = none) (hv : bootBuiltins x = some (.type id)) (ha : SE X W a ma) (hn : x ≠ "__name__" := by decide) (hdb : (x == ("__debug__" : Str)) = false := by decide)
    (he : starEach [a] X.env = (false, eval a X.env) :: starEach [] X.env := by rfl) (hpl : (backTo pos (starEach [] X.env)).any (·.1) = false := by rfl) : SE X W (.Call (.Name x p) [a] [] pos) (M.eUn f ma) := PE.imp (pe_callTy hc hg hm hv (pa_cons ha pa_nil he) hn hdb he hpl) fun _ _ _ => rK' hf
theorem qa' {f : M.D -> M.D -> Option M.D} (hc : CallR X (.builtin id) r) (hf : Bi2 X.K f r) (hg : Gl X x) (hm : X.mg x = none) (hv : bootBuiltins x = some (.builtin id)) (ha : SE X W a ma) (hb : SE X W b mb) (hn : x ≠ "__name__" := by decide) (hdb : (x == ("__debug__" : Str)) = false := by decide)
    (he : starEach [a, b] X.env = (false, eval a X.env) :: starEach [b] X.env := by rfl) (he2 : starEach [b] X.env = (false, eval b X.env) :: starEach [] X.env := by rfl) (hpl : (backTo pos (starEach [b] X.env)).any (·.1) = false := by rfl) : SE X W (.Call (.Name x p) [a, b] [] pos) (M.eOp f ma mb) := PE.imp (pe_callB hc hg hm hv (pa_cons ha (pa_cons hb pa_nil he2) he) hn hdb he hpl) fun _ _ _ => wH' hf
theorem fL' {F H : Hp} {a : Addr} {u : HO} (s : Same F H) (h : Rd F a u) : Rd H a u := h.imp (s _ _) fun ⟨o, h⟩ => ⟨o, s _ _ h⟩
theorem dh' : Bi1 K M.ee' (vm' K) := by
  intro F H T fp x dx dz Q f hx h k
  by_cases hX : ∃ ks vs, dx = .dcx ks vs
  . obtain ⟨ks, vs, rfl⟩ := hX
    cases h
    cases hx with
    | @dcl a kvs _ _ e ke z =>
      have q : kvs.length = ks.length := by have := congrArg List.length ke.e; simpa using this
      refine .inr (.inl ⟨_, _, rfl, e.imp (f.low _ _) fun ⟨o, h⟩ => ⟨o, f.low _ _ h⟩, ?_⟩)
      rw [q]
      exact k.here f (.int _)
    | @dcn a xs _ _ e ke z1 z2 =>
      have q : xs.length = ks.length := by have := congrArg List.length ke.e; simpa using this
      refine .inr (.inr ⟨_, _, rfl, e.imp (f.low _ _) fun ⟨o, h⟩ => ⟨o, f.low _ _ h⟩, ?_⟩)
      rw [q]
      exact k.here f (.int _)
  refine .inl ?_
  cases dx <;> try (cases h; done)
  . obtain ⟨rfl, o1⟩ := hx.str_inv
    cases h
    refine .inl ⟨_, rfl, o1.len, ?_⟩
    rw [ck']
    exact k.here f (.int _)
  . obtain ⟨a, vs, rfl, ha, za⟩ := hx.tup_inv
    cases h
    refine .inr (.inl ⟨a, vs, rfl, .inr (seqT f.low ha), ?_⟩)
    rw [za.length]
    exact k.here f (.int _)
  . obtain ⟨a, vs, rfl, ha, za⟩ := hx.lst_inv
    cases h
    refine .inr (.inl ⟨a, vs, rfl, .inl (SqL.of (f.low _ _ ha)), ?_⟩)
    rw [za.length]
    exact k.here f (.int _)
  . cases hx with
    | dct ha _ za =>
      cases h
      refine .inr (.inr ⟨_, _, rfl, fL' f.low ha, ?_⟩)
      refine k.here f ?_
      rw [List.length_map]
      exact .int _
  . exact absurd ⟨_, _, rfl⟩ hX
theorem dZ' : Bi1 K M.hC' xS' := by
  intro F H T fp x dx dz Q f hx h k
  cases dx <;> try (cases h; done)
  . cases hx; cases h
    exact .inr ⟨_, rfl, k.here f (.int _)⟩
  . cases hx; cases h
    exact .inl ⟨_, rfl, k.here f (.int _)⟩
theorem B2' : Bi1 K M.zV' xV' := by
  intro F H T fp x dx dz Q f hx h k
  cases dx <;> try (cases h; done)
  cases hx; cases h
  exact ⟨_, rfl, k.here f (.int _)⟩
theorem ux' : Bi2 K M.qH' xO' := by
  intro F H T fp x y dx dy dz Q f hx hy h k
  cases dx <;> cases dy <;> try (cases h; done)
  cases hx; cases hy; cases h
  exact ⟨_, _, rfl, k.here f (.int _)⟩
theorem rF' : Bi2 K M.n7' xN' := by
  intro F H T fp x y dx dy dz Q f hx hy h k
  cases dx <;> cases dy <;> try (cases h; done)
  cases hx; cases hy; cases h
  exact ⟨_, _, rfl, k.here f (.int _)⟩
theorem sg' {s : M.Tx} : signs (sx s) = s.map chv := by
  unfold signs
  show (s.toArray.toList.map fun c => V.str ⟨#[c]⟩) = _
  simp
  intro a _
  rfl
theorem FzA.signs {K : PySem.W.Frag} {F : Hp} {T : List Addr} {s : M.Tx} (o : okT s) : FzA K F T (S.signs (sx s)) (s.map M.chD) := by
  rw [sg']
  exact FzA.chars o.1
theorem bj' : Bi1 K M.bl' (qp' K) := by
  intro F H T fp x dx dz Q f hx h k
  cases dx <;> try (cases h; done)
  . obtain ⟨rfl, o⟩ := hx.str_inv
    cases h
    exact .inr ⟨_, rfl, o.len, fun l hl => k.newT f (FzA.signs o) hl⟩
  . obtain ⟨a, vs, rfl, ha, za⟩ := hx.tup_inv
    cases h
    exact .inl ⟨a, vs, rfl, .inr ⟨seqT f.low ha, k.here f (.tup ha za)⟩⟩
  . obtain ⟨a, vs, rfl, ha, za⟩ := hx.lst_inv
    cases h
    exact .inl ⟨a, vs, rfl, .inl ⟨SqL.of (f.low _ _ ha), fun l hl => k.newT f za hl⟩⟩
theorem zD' : Bi1 K M.eJ' (qt' K) := by
  intro F H T fp x dx dz Q f hx h k
  cases dx <;> try (cases h; done)
  . obtain ⟨rfl, o⟩ := hx.str_inv
    cases h
    exact .inr ⟨_, rfl, o.len, fun l hl => k.newL f (FzA.signs o) hl⟩
  . obtain ⟨a, vs, rfl, ha, za⟩ := hx.tup_inv
    cases h
    exact .inl ⟨a, vs, rfl, .inr (seqT f.low ha), fun l hl => k.newL f za hl⟩
  . obtain ⟨a, vs, rfl, ha, za⟩ := hx.lst_inv
    cases h
    exact .inl ⟨a, vs, rfl, .inl (SqL.of (f.low _ _ ha)), fun l hl => k.newL f za hl⟩
theorem tT' {F H : Hp} {T : List Addr} {v : V} {d : M.D} {n : String} (s : Same F H) (h : Fz K F T v d) (e : M.tyn d = some n) : TyX K H v (.type n) := by
  cases h with
  | non => cases e; exact .base .non
  | bl b => cases e; exact .base (.bl b)
  | int i => cases e; exact .base (.int i)
  | str z => cases e; exact .base (.str _)
  | lst h1 _ => cases e; exact tyL (SqL.of (s _ _ h1))
  | tup h1 _ => cases e; exact tyT (seqT s h1)
  | dct h1 _ _ =>
    cases e
    rcases h1 with h1 | ⟨o, h1⟩
    . exact .base (.dK (s _ _ h1))
    . exact .fDict (s _ _ h1)
  | dcl _ _ _ => cases e
  | dcn _ _ _ _ => cases e
  | rep _ => cases e
  | obj _ => cases e
  | ty _ => cases e
  | fn _ => cases e
  | scr _ _ => cases e
theorem vL' : ∀ n ∈ ["NoneType", "bool", "int", "str", "tuple", "list", "dict"], ∀ t ∈ ["bool", "int", "str", "tuple", "list", "dict"], kitB n t = some (n == t || (n == "bool" && t == "int")) := by decide +kernel
theorem uZ' {d : M.D} {n : String} (e : M.tyn d = some n) : n ∈ ["NoneType", "bool", "int", "str", "tuple", "list", "dict"] := by
  cases d <;> first | (cases e; done) | (cases e; decide)
def je' (K : PySem.W.Frag) (J : It) (ds : List M.D) (F : Hp) (T : List Addr) : Prop := ∀ F' T' H' fp i, Ext F T F' T' -> FpH F' H' fp -> i <= ds.length →
  (i = ds.length -> J.stop i H') /\ ∀ d, ds[i]? = some d -> J.go i H' /\ ∀ x H2, J.yld i H' x H2 -> ∃ F2, Same F' F2 /\ Fz K F2 T' x d /\ FpH F2 H2 fp
theorem je'.mono {J : It} {ds : List M.D} {F F' : Hp} {T T' : List Addr} (h : je' K J ds F T) (e : Ext F T F' T') : je' K J ds F' T' := fun F2 T2 H2 fp i e2 => h F2 T2 H2 fp i (e.trans e2)
def qI (K : PySem.W.Frag) (W : WX) (m : M.MI) : TI := fun σ H R => ∃ ρ F T fr, Rel K ρ σ H F T fr ∧
  aU' (m ρ) (fun ds ρ' => ∀ J H' F' T', Ext F T F' T' -> je' K J ds F' T' -> Rel K ρ' σ H' F' T' fr -> R J H') (EX K W σ F T fr)
abbrev SI (X : Cx) (W : WX) (tg e : Expr) (m : M.MI) : Prop := PI X tg e (qI X.K W m)
theorem PI.imp {tg e : Expr} {t t' : TI} (h : PI X tg e t) (i : ∀ σ H Q, t' σ H Q -> t σ H Q) : PI X tg e t' := ⟨fun pins s σ H Q I q => h.run pins s σ H Q I (i σ H Q q)⟩
theorem vR' {a : Addr} {vs : List V} {ds : List M.D} {F : Hp} {T : List Addr} (ha : F a = some (.lst vs)) (z : FzA K F T vs ds) : je' K (Itl K a) ds F T := fun F' T' H' fp i e f hi => by
  have h' : SqL K H' a vs := SqL.of (f.low _ _ (e.f.lst ha))
  refine ⟨fun q => ⟨vs, h', by rw [z.length]; omega⟩, fun d hd => ?_⟩
  obtain ⟨v, h1, h2⟩ := z.get hd
  refine ⟨⟨vs, v, h', h1⟩, fun x H2 y => ?_⟩
  obtain ⟨rfl, y⟩ := y
  have := y vs h'
  rw [h1] at this
  cases this
  exact ⟨F', fun _ _ e => e, h2.mono e, f⟩
theorem yq' {a : Addr} {vs : List V} {ds : List M.D} {F : Hp} {T : List Addr} (ha : SqT K F a vs) (z : FzA K F T vs ds) : je' K (Itt K a) ds F T := fun F' T' H' fp i e f hi => by
  have h' : SqT K H' a vs := seqT f.low (e.f.seqT ha)
  refine ⟨fun q => ⟨vs, h', by rw [z.length]; omega⟩, fun d hd => ?_⟩
  obtain ⟨v, h1, h2⟩ := z.get hd
  refine ⟨⟨vs, v, h', h1⟩, fun x H2 y => ?_⟩
  obtain ⟨rfl, y⟩ := y
  have := y vs h'
  rw [h1] at this
  cases this
  exact ⟨F', fun _ _ e => e, h2.mono e, f⟩
theorem xs' (s : M.Tx) (i : Nat) : (sx s).cps[i]? = s[i]? := by simp [sx]
theorem yr' {s : M.Tx} {F : Hp} {T : List Addr} (o : okT s) : je' K (Its (sx s)) (s.map M.chD) F T := fun F' T' H' fp i e f hi => by
  have el : (sx s).cps.size = s.length := ck' s
  rw [List.length_map] at hi ⊢
  refine ⟨fun q => by show (sx s).cps.size <= i; omega, fun d hd => ?_⟩
  rw [List.getElem?_map] at hd
  cases q : s[i]? with
  | none => rw [q] at hd; cases hd
  | some c =>
    rw [q] at hd
    cases hd
    refine ⟨by show i < (sx s).cps.size; have := (List.getElem?_eq_some_iff.mp q).1; omega, fun x H2 y => ?_⟩
    obtain ⟨rfl, c', h1, rfl⟩ := y
    rw [xs', q] at h1
    cases h1
    exact ⟨F', fun _ _ e => e, om' (o.1 c (List.mem_of_getElem? q)), f⟩
theorem yt' {lo : Int} {n : Nat} {F : Hp} {T : List Addr} : je' K (Itr lo n) (M.rgI lo n) F T := fun F' T' H' fp i e f hi => by
  unfold M.rgI at hi ⊢
  rw [List.length_map, List.length_range] at hi ⊢
  refine ⟨fun q => by show n <= i; omega, fun d hd => ?_⟩
  rw [List.getElem?_map] at hd
  by_cases h : i < n
  . rw [List.getElem?_range h] at hd
    cases hd
    refine ⟨h, fun x H2 y => ?_⟩
    obtain ⟨rfl, rfl⟩ := y
    exact ⟨F', fun _ _ e => e, .int _, f⟩
  . rw [List.getElem?_eq_none (by rw [List.length_range]; omega)] at hd
    cases hd
theorem x0' {tg e : Expr} {te : TE} (h : PE X e te) : PI X tg e (fun σ H R => iStr te σ H R \/ iList X.K te σ H R \/ iTup X.K te σ H R) := sA' (pi_str h) (sA' (pi_list h) (pi_tup h))
theorem vn' {m : M.ME} {ρ ρ1 : M.PSt} {F : Hp} {T : List Addr} {fr : Fp} {d : M.D} (rel : Rel K ρ σ H F T fr) (em : m ρ = .ok d ρ1) (h : ∀ v H' F' T', Ext F T F' T' -> Fz K F' T' v d -> Rel K ρ1 σ H' F' T' fr -> Q v H') : qE K W m σ H Q :=
  ⟨ρ, F, T, fr, rel, by rw [em]; exact h⟩
theorem bT' {tg : Expr} (h : SE X W a ma) : SI X W tg a (M.gi' ma) := PI.imp (x0' h) fun σ H R ⟨ρ, F, T, fr, rel, q⟩ => by
  have q2 := aU'.bind q
  cases em : ma ρ with
  | bad => rw [em] at q2; exact q2.elim
  | exc x ρ1 =>
    rw [em] at q2
    exact .inl ⟨ρ, F, T, fr, rel, by rw [em]; exact q2⟩
  | ok d ρ1 =>
    rw [em] at q2
    obtain ⟨ds, e1, q3⟩ := aU'.ofO (show aU' _ _ _ from q2)
    cases d <;> try (cases e1; done)
    . cases e1
      refine .inl (vn' rel em fun v H' F' T' e z r => ?_)
      obtain ⟨rfl, o⟩ := z.str_inv
      exact ⟨_, rfl, q3 _ _ _ _ e (yr' o) r⟩
    . cases e1
      refine .inr (.inr (vn' rel em fun v H' F' T' e z r => ?_))
      obtain ⟨p, vs, rfl, ha, za⟩ := z.tup_inv
      obtain ⟨fp, f, _⟩ := r.fp
      exact ⟨p, rfl, ⟨vs, seqT f.low ha⟩, q3 _ _ _ _ e (yq' ha za) r⟩
    . cases e1
      refine .inr (.inl (vn' rel em fun v H' F' T' e z r => ?_))
      obtain ⟨p, vs, rfl, ha, za⟩ := z.lst_inv
      obtain ⟨fp, f, _⟩ := r.fp
      exact ⟨p, rfl, ⟨vs, SqL.of (f.low _ _ ha)⟩, q3 _ _ _ _ e (vR' ha za) r⟩
theorem B4' {i : Int} (h : M.rV' i = true) : -(2 ^ 62) <= i /\ i < 2 ^ 62 := by
  unfold M.rV' at h
  simpa [Bool.and_eq_true] using h
theorem aP' {tg : Expr} (hg : Gl X "range") (hm : X.mg "range" = none) (ha : SE X W a ma) (hs : starEach [a] X.env = [(false, eval a X.env)] := by rfl) : SI X W tg (.Call (.Name "range" p) [a] [] pos) (M.bi' ma) :=
  PI.imp (pi_range1 hg hm (pa_cons ha pa_nil hs) hs) fun σ H R ⟨ρ, F, T, fr, rel, q⟩ => by
    refine az' rel q fun dx ρ1 v H1 F1 T1 e1 z1 r1 h1 => ?_
    obtain ⟨ds, e2, q2⟩ := aU'.ofO h1
    unfold M.fn' at e2
    split at e2
    . split at e2
      . rename_i hb
        cases e2
        cases z1
        obtain ⟨b1, b2⟩ := B4' hb
        exact ⟨_, rfl, b1, b2, q2 _ _ _ _ e1 yt' r1⟩
      . cases e2
    . cases e2
theorem lY' : ∀ (a b : List M.D), (M.dk' a b).length = min a.length b.length
  | [], _ => by simp [M.dk']
  | _ :: _, [] => by simp [M.dk']
  | x :: a, y :: b => by
    show (M.dk' a b).length + 1 = _
    rw [lY' a b]
    simp only [List.length_cons]
    omega
theorem lZ' : ∀ (a b : List M.D) (i : Nat) (d : M.D), (M.dk' a b)[i]? = some d -> ∃ x y, a[i]? = some x /\ b[i]? = some y /\ d = .tup [x, y]
  | [], _, i, d, h => by simp [M.dk'] at h
  | _ :: _, [], i, d, h => by simp [M.dk'] at h
  | x :: a, y :: b, 0, d, h => ⟨x, y, rfl, rfl, (Option.some.inj h).symm⟩
  | x :: a, y :: b, i + 1, d, h => lZ' a b i d h
theorem iS' {J : It} {as bs : List M.D} {F : Hp} {T : List Addr} (hs : ∀ F' T' H' fp i, Ext F T F' T' -> FpH F' H' fp -> i = min as.length bs.length -> J.stop i H')
    (hy : ∀ F' T' H' fp i dx dy, Ext F T F' T' -> FpH F' H' fp -> as[i]? = some dx -> bs[i]? = some dy -> J.go i H' /\ ∀ v H2, J.yld i H' v H2 -> ∃ p x y, v = .ref p /\ H' p = none /\ H2 = upd H' p (.tup [x, y]) /\ Fz K F' T' x dx /\ Fz K F' T' y dy) : je' K J (M.dk' as bs) F T := fun F' T' H' fp i e f hi => by
  rw [lY'] at hi ⊢
  refine ⟨fun q => hs F' T' H' fp i e f q, fun d hd => ?_⟩
  obtain ⟨dx, dy, h1, h2, rfl⟩ := lZ' _ _ _ _ hd
  obtain ⟨g, y⟩ := hy F' T' H' fp i dx dy e f h1 h2
  refine ⟨g, fun v H2 q => ?_⟩
  obtain ⟨p, x, y', rfl, hp, rfl, zx, zy⟩ := y v H2 q
  have s : Same F' (upd F' p (.tup [x, y'])) := cJ' (f.free hp)
  exact ⟨_, s, .tup (SqT.of upd_same) (.cons (zx.mono (.of s)) (.cons (zy.mono (.of s)) .nil)), f.new hp⟩
theorem vP' {s t : M.Tx} {F : Hp} {T : List Addr} (o : okT s) (o2 : okT t) : je' K (ItP (chS (sx s)) (chS (sx t)) (min (sx s).cps.size (sx t).cps.size)) (M.dk' (s.map M.chD) (t.map M.chD)) F T := by
  have e1 : (sx s).cps.size = s.length := ck' s
  have e2 : (sx t).cps.size = t.length := ck' t
  refine iS' (fun F' T' H' fp i e f hi => ?_) fun F' T' H' fp i dx dy e f h1 h2 => ?_
  . rw [List.length_map, List.length_map] at hi
    show i = min (sx s).cps.size (sx t).cps.size
    omega
  . rw [List.getElem?_map] at h1 h2
    cases q1 : s[i]? with
    | none => rw [q1] at h1; cases h1
    | some c =>
      cases q2 : t[i]? with
      | none => rw [q2] at h2; cases h2
      | some d =>
        rw [q1] at h1
        rw [q2] at h2
        cases h1
        cases h2
        have l1 := (List.getElem?_eq_some_iff.mp q1).1
        have l2 := (List.getElem?_eq_some_iff.mp q2).1
        refine ⟨by show i < min (sx s).cps.size (sx t).cps.size; omega, fun v H2 y => ?_⟩
        obtain ⟨p, x, y', rfl, hp, rfl, c1, c2⟩ := y
        unfold chS at c1 c2
        rw [et', q1] at c1
        rw [et', q2] at c2
        cases c1
        cases c2
        exact ⟨p, _, _, rfl, hp, rfl, om' (o.1 c (List.mem_of_getElem? q1)), om' (o2.1 d (List.mem_of_getElem? q2))⟩
theorem vQ' {a b : Addr} {vs ws : List V} {ds es : List M.D} {F : Hp} {T : List Addr} (ha : F a = some (.lst vs)) (z : FzA K F T vs ds) (hb : F b = some (.lst ws)) (z2 : FzA K F T ws es) : je' K (Itz K a b) (M.dk' ds es) F T := by
  refine iS' (fun F' T' H' fp i e f hi => ?_) fun F' T' H' fp i dx dy e f h1 h2 => ?_
  . exact ⟨vs, ws, SqL.of (f.low _ _ (e.f.lst ha)), SqL.of (f.low _ _ (e.f.lst hb)), by rw [z.length, z2.length]; omega⟩
  . obtain ⟨x, x1, x2⟩ := z.get h1
    obtain ⟨y, y1, y2⟩ := z2.get h2
    have a1 : SqL K H' a vs := SqL.of (f.low _ _ (e.f.lst ha))
    have b1 : SqL K H' b ws := SqL.of (f.low _ _ (e.f.lst hb))
    refine ⟨⟨vs, ws, x, y, a1, b1, x1, y1⟩, fun v H2 q => ?_⟩
    obtain ⟨p, x', y', rfl, hp, rfl, q1, q2⟩ := q
    have := q1 vs a1
    rw [x1] at this
    cases this
    have := q2 ws b1
    rw [y1] at this
    cases this
    exact ⟨p, _, _, rfl, hp, rfl, x2.mono e, y2.mono e⟩
theorem vO' {a b : Addr} {vs ws : List V} {ds es : List M.D} {F : Hp} {T : List Addr} (ha : SqT K F a vs) (z : FzA K F T vs ds) (hb : SqT K F b ws) (z2 : FzA K F T ws es) : je' K (RZ.ItzT K a b) (M.dk' ds es) F T := by
  refine iS' (fun F' T' H' fp i e f hi => ?_) fun F' T' H' fp i dx dy e f h1 h2 => ?_
  . exact ⟨vs, ws, seqT f.low (e.f.seqT ha), seqT f.low (e.f.seqT hb), by rw [z.length, z2.length]; omega⟩
  . obtain ⟨x, x1, x2⟩ := z.get h1
    obtain ⟨y, y1, y2⟩ := z2.get h2
    have a1 : SqT K H' a vs := seqT f.low (e.f.seqT ha)
    have b1 : SqT K H' b ws := seqT f.low (e.f.seqT hb)
    refine ⟨⟨vs, ws, x, y, a1, b1, x1, y1⟩, fun v H2 q => ?_⟩
    obtain ⟨p, x', y', rfl, hp, rfl, q1, q2⟩ := q
    have := q1 vs a1
    rw [x1] at this
    cases this
    have := q2 ws b1
    rw [y1] at this
    cases this
    exact ⟨p, _, _, rfl, hp, rfl, x2.mono e, y2.mono e⟩
theorem xz' {elts : List Expr} {kk : Nat} {tpos : Pos} (hg : Gl X "zip") (hm : X.mg "zip" = none) (ha : SE X W a ma) (hb : SE X W b mb)
    (hs : starEach [a, b] X.env = (false, eval a X.env) :: starEach [b] X.env := by rfl) (hs2 : starEach [b] X.env = (false, eval b X.env) :: starEach [] X.env := by rfl) (hpl : (backTo pos (starEach [b] X.env)).any (·.1) = false := by rfl) :
    SI X W (.Tuple elts kk tpos) (.Call (.Name "zip" p) [a, b] [] pos) (M.yC' ma mb) :=
  PI.imp (vo' hg hm (pa_cons ha (pa_cons hb pa_nil hs2) hs) hs hpl) fun σ H R ⟨ρ, F, T, fr, rel, q⟩ => by
    -- the kind of both is known ahead
    have fin : ∀ (isS : Bool), (∀ x ρ1, ma ρ = .ok x ρ1 -> ∀ y ρ2, mb ρ1 = .ok y ρ2 -> (isS = true ↔ ∃ s, x = .str s)) -> yA' X.K (tCons (qE X.K W ma) (tCons (qE X.K W mb) tNil)) σ H R := by
      intro isS hS
      have q1 := aU'.bind q
      have body : ∀ (G : List V -> Hp -> Prop), (∀ x y u v H2 F2 T2 ds ρ2, Ext F T F2 T2 -> Fz X.K F2 T2 u x -> Fz X.K F2 T2 v y -> M.rQ' x y = some ds -> Rel X.K ρ2 σ H2 F2 T2 fr -> (isS = true ↔ ∃ s, x = .str s) →
          (∀ J H' F' T', Ext F T F' T' -> je' X.K J ds F' T' -> Rel X.K ρ2 σ H' F' T' fr -> R J H') -> G [u, v] H2) -> tCons (qE X.K W ma) (tCons (qE X.K W mb) tNil) σ H G := by
        intro G hG
        refine ⟨ρ, F, T, fr, rel, ?_⟩
        cases em : ma ρ with
        | bad => rw [em] at q1; exact q1.elim
        | exc x ρ1 => rw [em] at q1; exact q1
        | ok x ρ1 =>
          rw [em] at q1
          have q2 := aU'.bind (show aU' ((mb ρ1).bind _) _ _ from q1)
          intro u H1 F1 T1 e1 z1 r1
          refine ⟨ρ1, F1, T1, fr, r1, ?_⟩
          cases en : mb ρ1 with
          | bad => rw [en] at q2; exact q2.elim
          | exc y ρ2 => rw [en] at q2; exact EX.mono (show EX X.K W σ F T fr y ρ2 from q2) e1
          | ok y ρ2 =>
            rw [en] at q2
            obtain ⟨ds, e3, q3⟩ := aU'.ofO (show aU' (M.ofO _ _) _ _ from q2)
            intro v H2 F2 T2 e2 z2 r2
            exact hG x y u v H2 F2 T2 ds ρ2 (e1.trans e2) (z1.mono e2) z2 e3 r2 (hS x ρ1 em y ρ2 en) q3
      cases isS with
      | true =>
        refine .inl (body _ fun x y u v H2 F2 T2 ds ρ2 e z1 z2 hz r2 hk q3 => ?_)
        obtain ⟨s, rfl⟩ := hk.mp rfl
        cases y <;> try (cases hz; done)
        obtain ⟨rfl, o1⟩ := z1.str_inv
        obtain ⟨rfl, o2⟩ := z2.str_inv
        cases hz
        exact ⟨_, _, rfl, q3 _ _ _ _ e (vP' o1 o2) r2⟩
      | false =>
        refine .inr (body _ fun x y u v H2 F2 T2 ds ρ2 e z1 z2 hz r2 hk q3 => ?_)
        obtain ⟨fp, f, _⟩ := r2.fp
        cases x <;> cases y <;> try (cases hz; done)
        . exact absurd (hk.mpr ⟨_, rfl⟩) Bool.false_ne_true
        . obtain ⟨a1, vs, rfl, ha, za⟩ := z1.tup_inv
          obtain ⟨b1, ws, rfl, hb, zb⟩ := z2.tup_inv
          cases hz
          exact ⟨a1, b1, vs, ws, rfl, .inr ⟨seqT f.low ha, seqT f.low hb, q3 _ _ _ _ e (vO' ha za hb zb) r2⟩⟩
        . obtain ⟨a1, vs, rfl, ha, za⟩ := z1.lst_inv
          obtain ⟨b1, ws, rfl, hb, zb⟩ := z2.lst_inv
          cases hz
          exact ⟨a1, b1, vs, ws, rfl, .inl ⟨SqL.of (f.low _ _ ha), SqL.of (f.low _ _ hb), q3 _ _ _ _ e (vQ' ha za hb zb) r2⟩⟩
    cases em : ma ρ with
    | ok x ρ1 =>
      by_cases hx : ∃ s, x = .str s
      . exact fin true fun x' ρ1' e y ρ2 _ => by rw [em] at e; cases e; exact ⟨fun _ => hx, fun _ => rfl⟩
      . exact fin false fun x' ρ1' e y ρ2 _ => by rw [em] at e; cases e; exact ⟨fun z => (nomatch z), fun z => absurd z hx⟩
    | exc x ρ1 => exact fin true fun x' ρ1' e => by rw [em] at e; cases e
    | bad => exact fin true fun x' ρ1' e => by rw [em] at e; cases e
end
end S
namespace S
open PySem PySem.Spec PyProof.Rows L2
variable [Wd] [Hot]
section
variable {K : PySem.W.Frag} {F F' H H' : Hp} {T T' : List Addr} {fp fq fr : Fp} {ρ : M.PSt} {σ : St} {W : WX}
theorem f9' {i : Nat} {x : Option V} : ∀ (is : List Nat) (σ : St), (wipe (σ.set i x) is).set i none = (wipe σ is).set i none
  | [], σ => by show (σ.set i x).set i none = σ.set i none; rw [List.set_set]
  | k :: is, σ => by
    show ((wipe (σ.set i x) is).set k none).set i none = ((wipe σ is).set k none).set i none
    by_cases h : k = i
    . subst h
      rw [List.set_set, List.set_set, f9' is σ]
    . rw [List.set_comm _ _ h, f9' is σ, List.set_comm _ _ h]
theorem FzA.cons_inv {vs : List V} {d : M.D} {ds : List M.D} (h : FzA K F T vs (d :: ds)) : ∃ v r, vs = v :: r /\ Fz K F T v d /\ FzA K F T r ds := by
  cases h with
  | cons a b => exact ⟨_, _, rfl, a, b⟩
theorem RpA.of_fz : ∀ {vs : List V} {ds : List M.D}, FzA K F T vs ds -> RpA K F T vs (ds.map .fz) []
  | _, _, .nil => .nil
  | _, _, .cons z r => RpA.cons (fp := []) (fq := []) (.fz z) (RpA.of_fz r)
def qG (K : PySem.W.Frag) (sl : List Nat) (m : M.MG) : TG := fun v σ H Q => ∃ ρ F T fr d ρ', Rel K ρ σ H F T fr /\ Fz K F T v d /\ m d ρ = some ρ' /\ ∀ σ', wipe σ' sl = wipe σ sl -> Rel K ρ' σ' H F T fr -> Q σ' H
def qGs (K : PySem.W.Frag) (is : List Nat) : TGs := fun vs σ H Q => ∃ ρ F T fr ds ρ', Rel K ρ σ H F T fr /\ FzA K F T vs ds /\ M.gNs is ds ρ = some ρ' /\ ∀ σ', wipe σ' is = wipe σ is -> Rel K ρ' σ' H F T fr -> Q σ' H
abbrev SG (X : Cx) (tg : Expr) (sl : List Nat) (m : M.MG) : Prop := PG X tg (qG X.K sl m)
abbrev SGs (X : Cx) (ts : List Expr) (is : List Nat) : Prop := PGs X ts (qGs X.K is)
theorem PG.imp {X : Cx} {tg : Expr} {t t' : TG} (h : PG X tg t) (i : ∀ v σ H Q, t' v σ H Q -> t v σ H Q) : PG X tg t' := ⟨fun pins s σ H v u Q I r q => h.run pins s σ H v u Q I r (i v σ H Q q)⟩
theorem PGs.imp {X : Cx} {tg : List Expr} {t t' : TGs} (h : PGs X tg t) (i : ∀ v σ H Q, t' v σ H Q -> t v σ H Q) : PGs X tg t' := ⟨fun pins s σ H v u Q I r q => h.run pins s σ H v u Q I r (i v σ H Q q)⟩
theorem Rel.put (rel : Rel K ρ σ H F T fr) {i : Nat} (hi : i < ρ.env.length) {v : V} {o : M.O} {f2 fr' : Fp} (q : Rp K F T v o f2) (p : Part (f2 ++ fr') fr) : Rel K ⟨ρ.env.set i (some o), ρ.w⟩ (σ.set i (some v)) H F T fr' := by
  obtain ⟨fe, fw, re, rw, f⟩ := rel
  obtain ⟨fq, h1, h2⟩ := re.put hi q
  refine ⟨fq, fw, h1, rw, f.part ?_⟩
  have p1 : Part (fq ++ (fw ++ fr')) ((fe ++ f2) ++ (fw ++ fr')) := .app h2 .refl
  refine p1.trans ?_
  refine Part.trans (b := fe ++ (fw ++ (f2 ++ fr'))) ?_ (.app .refl (.app .refl p))
  constructor
  . intro e h
    simp only [List.mem_append] at *
    grind
  . intro x
    simp only [keys, List.map_append, List.count_append] at *
    omega
theorem Part.nilL {a : Fp} : Part ([] ++ a) a := ⟨fun _ h => h, fun _ => Nat.le_refl _⟩
theorem cf' {X : Cx} {pos : Pos} {x : Str} (i : Nat) (hN : X.N.Nodup) (hi : X.N[i]? = some x) (hx : Loc X.env.scope x) (hf : X.fn x = true \/ X.env.scope.names.lookup x = some .local) : SG X (.Name x pos) [i] (M.gN i) :=
  PG.imp (pg_name hN hi hx hf) fun v σ H Q ⟨ρ, F, T, fr, d, ρ', rel, z, e, q⟩ => by
    unfold M.gN at e
    split at e
    . rename_i hl
      cases e
      refine q _ ?_ (rel.put hl (.fz z) .nilL)
      show (σ.set i (some v)).set i none = σ.set i none
      rw [List.set_set]
    . cases e
theorem fk' {X : Cx} : SGs X [] [] := PGs.imp pgs_nil fun vs σ H Q ⟨ρ, F, T, fr, ds, ρ', rel, z, e, q⟩ => by
  cases ds with
  | nil =>
    cases z
    cases e
    exact ⟨rfl, q _ rfl rel⟩
  | cons d ds => cases e
theorem bK' {X : Cx} {e : Expr} {es : List Expr} {i : Nat} {is : List Nat} (hs : (assignEach (e :: es) X.env).map (·.2) = assign e X.env :: (assignEach es X.env).map (·.2)) (h1 : SG X e [i] (M.gN i)) (h2 : SGs X es is) : SGs X (e :: es) (i :: is) :=
  PGs.imp (pgs_cons h1 h2 hs) fun vs σ H Q ⟨ρ, F, T, fr, ds, ρ', rel, z, e, q⟩ => by
    cases ds with
    | nil => cases e
    | cons d ds =>
      obtain ⟨v, r, rfl, z, zs⟩ := z.cons_inv
      . cases e1 : M.gN i d ρ with
        | none => simp only [M.gNs, e1] at e; cases e
        | some ρ1 =>
          simp only [M.gNs, e1, Option.bind_some] at e
          refine ⟨v, r, rfl, ρ, F, T, fr, d, ρ1, rel, z, e1, fun σ1 w1 r1 => ⟨ρ1, F, T, fr, ds, ρ', r1, zs, e, fun σ2 w2 r2 => q σ2 ?_ r2⟩⟩
          show (wipe σ2 is).set i none = (wipe σ is).set i none
          rw [w2]
          have w1' : σ1.set i none = σ.set i none := w1
          rw [<- f9' (x := none) is σ1, w1', f9' is σ]
theorem wP' {X : Cx} {es : List Expr} {k} {pos : Pos} {n : Nat} {is : List Nat} (hc : X.calm = true) (hn : (assignEach es X.env).length = n) (hst : (assignEach es X.env).findIdx? (·.1) = none) (hl : is.length = n) (h : SGs X es is) : SG X (.Tuple es k pos) is (M.gT is) :=
  PG.imp (pg_tup hc h hn hst) fun v σ H Q ⟨ρ, F, T, fr, d, ρ', rel, z, e, q⟩ => by
    cases d with
    | tup ds =>
      obtain ⟨a, vs, rfl, ha, za⟩ := z.tup_inv
      obtain ⟨fp, f, _⟩ := rel.fp
      refine ⟨a, vs, rfl, seqT f.low ha, ?_, ρ, F, T, fr, ds, ρ', rel, za, e, q⟩
      rw [za.length, <- hl]
      have : ∀ (is : List Nat) (ds : List M.D) (ρ ρ' : M.PSt), M.gNs is ds ρ = some ρ' -> ds.length = is.length := by
        intro is
        induction is with
        | nil => intro ds ρ ρ' h; cases ds with | nil => rfl | cons d ds => cases h
        | cons i is ih =>
          intro ds ρ ρ' h
          cases ds with
          | nil => cases h
          | cons d ds =>
            cases e1 : M.gN i d ρ with
            | none => simp only [M.gNs, e1] at h; cases h
            | some ρ1 =>
              simp only [M.gNs, e1, Option.bind_some] at h
              exact congrArg (· + 1) (ih ds ρ1 ρ' h)
      exact this is ds ρ ρ' e
    | _ => cases e
theorem RpE.wiped {env : List (Option M.O)} (r : RpE K F T σ env fp) : ∀ is : List Nat, ∃ fq, RpE K F T (wipe σ is) (M.aD' is env) fq /\ Part fq fp
  | [] => ⟨fp, r, .refl⟩
  | i :: is => by
    obtain ⟨fq, h1, h2⟩ := r.wiped is
    obtain ⟨fq2, h3, h4⟩ := h1.drop i none
    exact ⟨fq2, h3, h4.trans h2⟩
theorem ga' {σ : St} : ∀ {is : List Nat} {j : Nat}, j ∉ is -> (wipe σ is)[j]? = σ[j]?
  | [], _, _ => rfl
  | i :: is, j, h => by
    have h' : j ≠ i /\ j ∉ is := by simpa using h
    show ((wipe σ is).set i none)[j]? = _
    rw [List.getElem?_set_ne (Ne.symm h'.1), ga' h'.2]
theorem k1' {σ : St} : ∀ {is : List Nat} {j : Nat}, j ∈ is -> j < σ.length -> (wipe σ is)[j]? = some none
  | i :: is, j, h, hl => by
    show ((wipe σ is).set i none)[j]? = _
    by_cases e : i = j
    . subst e
      rw [List.getElem?_set_self (by rw [wipe_length]; exact hl)]
    . rw [List.getElem?_set_ne e]
      refine k1' ?_ hl
      rcases List.mem_cons.mp h with h | h
      . exact absurd h.symm e
      . exact h
theorem ji' {σ : St} (is : List Nat) : wipe (wipe σ is) is = wipe σ is := by
  refine List.ext_getElem? fun j => ?_
  by_cases h : j ∈ is
  . by_cases hl : j < σ.length
    . rw [k1' h hl, k1' h (by rw [wipe_length]; exact hl)]
    . rw [List.getElem?_eq_none (by rw [wipe_length, wipe_length]; omega), List.getElem?_eq_none (by rw [wipe_length]; omega)]
  . rw [ga' h]
theorem e9' {env : List (Option M.O)} : ∀ {is : List Nat} {j : Nat} {o : M.O}, (M.aD' is env)[j]? = some (some o) -> j ∉ is
  | [], _, _, _ => by simp
  | i :: is, j, o, h => by
    have h : ((M.aD' is env).set i none)[j]? = some (some o) := h
    by_cases hj : i = j
    . subst hj
      by_cases hl : i < (M.aD' is env).length
      . rw [List.getElem?_set_self hl] at h; cases h
      . rw [List.getElem?_eq_none (by simpa using hl)] at h; cases h
    . rw [List.getElem?_set_ne hj] at h
      have := e9' h
      simp only [List.mem_cons, not_or]
      exact ⟨Ne.symm hj, this⟩
theorem RpE.other {env : List (Option M.O)} {σ' : St} (r : RpE K F T σ env fp) (hl : σ'.length = σ.length) (h : ∀ (j : Nat) (o : M.O), env[j]? = some (some o) -> σ'[j]? = σ[j]?) : RpE K F T σ' env fp := by
  induction r generalizing σ' with
  | nil =>
    cases σ' with
    | nil => exact .nil
    | cons _ _ => cases hl
  | off r ih =>
    cases σ' with
    | nil => cases hl
    | cons y σ' => exact .off (ih (Nat.succ.inj hl) fun j o e => h (j + 1) o e)
  | on q r ih =>
    cases σ' with
    | nil => cases hl
    | cons y σ' =>
      have e : y = _ := Option.some.inj (h 0 _ rfl)
      subst e
      exact .on q (ih (Nat.succ.inj hl) fun j o e => h (j + 1) o e)
  | hot hh z r ih =>
    cases σ' with
    | nil => cases hl
    | cons y σ' =>
      have e : y = _ := Option.some.inj (h 0 _ rfl)
      subst e
      exact .hot hh z (ih (Nat.succ.inj hl) fun j o e => h (j + 1) o e)
  | clo hh z r ih =>
    cases σ' with
    | nil => cases hl
    | cons y σ' =>
      have e : y = _ := Option.some.inj (h 0 _ rfl)
      subst e
      exact .clo hh z (ih (Nat.succ.inj hl) fun j o e => h (j + 1) o e)
theorem RpE.backed {env0 : List (Option M.O)} (h0 : ∀ (i : Nat) (d : M.D), env0[i]? = some (some (M.O.fz d)) -> ∃ v, σ[i]? = some (some v) /\ Fz K F T v d) : ∀ (is : List Nat) {env : List (Option M.O)} {fp : Fp}, RpE K F T σ env fp -> ∃ fq, RpE K F T σ (M.back env0 is env) fq /\ Part fq fp
  | [], env, fp, r => ⟨fp, r, .refl⟩
  | i :: is, env, fp, r => by
    obtain ⟨fq, h1, h2⟩ := RpE.backed h0 is r
    unfold M.back
    split
    . rename_i d e
      obtain ⟨v, hv, z⟩ := h0 i d e
      obtain ⟨f2, h3, h4⟩ := h1.put0 hv (.fz z)
      refine ⟨f2, h3, h4.trans ?_⟩
      rw [List.append_nil]
      exact h2
    . obtain ⟨f2, h3, h4⟩ := h1.drop0 i
      exact ⟨f2, h3, h4.trans h2⟩
theorem RpE.data {env : List (Option M.O)} (r : RpE K F T σ env fp) {i : Nat} {d : M.D} (h : env[i]? = some (some (.fz d))) : ∃ v, σ[i]? = some (some v) /\ Fz K F T v d := by
  obtain ⟨v, f1, f2, f3, h1, _, h3, _⟩ := r.get h
  cases h3 with
  | fz z => exact ⟨v, h1, z⟩
abbrev W0 : WX := fun _ _ _ _ => False
theorem aU'.noX {α : Type} {r : M.Res α} {P : α -> M.PSt -> Prop} {Y Y' : Wx} (h : aU' (M.noX r) P Y) : aU' r P Y' := by
  cases r with
  | ok a ρ => exact h
  | exc x ρ => exact h.elim
  | bad => exact h
def zM' (K : PySem.W.Frag) (sl : List Nat) (g : M.MG) (t : M.MT) (e : M.ME) (ds : List M.D) (σ : St) (D : Addr) (fr : Fp) (F1 : Hp) (T1 : List Addr) (P : List M.D -> M.PSt -> Prop) (Y : Wx) (i : Nat) (H : Hp) : Prop :=
  i <= ds.length /\ ∃ ρ' F' T' acc vacc, Ext F1 T1 F' T' /\ FzA K F' T' vacc acc /\ Rel K ⟨M.aD' sl ρ'.env, ρ'.w⟩ (wipe σ sl) H F' T' ((D, .lst vacc) :: fr) /\ aU' (M.lcL sl g t e (ds.drop i) acc ρ') P Y
theorem Rel.wiped (r : Rel K ρ σ H F T fr) (is : List Nat) : Rel K ⟨M.aD' is ρ.env, ρ.w⟩ (wipe σ is) H F T fr := by
  obtain ⟨fe, fw, re, rw, f⟩ := r
  obtain ⟨fq, h1, h2⟩ := re.wiped is
  exact ⟨fq, fw, h1, rw, f.part (.app h2 .refl)⟩
theorem Rel.own (r : Rel K ρ σ H F T fr) {p : Addr} {o : HO} (hp : H p = none) : Rel K ρ σ (upd H p o) F T ((p, o) :: fr) := by
  obtain ⟨fe, fw, re, rw, f⟩ := r
  refine ⟨fe, fw, re, rw, (f.own hp).part ?_⟩
  constructor
  . intro e h
    simp only [List.mem_append, List.mem_cons] at *
    grind
  . intro x
    simp only [keys, List.map_append, List.map_cons, List.count_append, List.count_cons] at *
    omega
theorem Rel.at_ (r : Rel K ρ σ H F T fr) {e : Addr × HO} (h : e ∈ fr) : H e.1 = some e.2 := by
  obtain ⟨fe, fw, re, rw, f⟩ := r
  exact (f.at_ e (List.mem_append_right _ (List.mem_append_right _ h))).1
theorem Rel.write {p : Addr} {o o' : HO} (r : Rel K ρ σ H F T ((p, o) :: fr)) : Rel K ρ σ (upd H p o') F T ((p, o') :: fr) := by
  obtain ⟨fe, fw, re, rw, f⟩ := r
  have f' : FpH F H ((fe ++ fw) ++ ((p, o) :: fr)) := by rw [List.append_assoc]; exact f
  refine ⟨fe, fw, re, rw, ?_⟩
  have := f'.write (o' := o')
  rw [List.append_assoc] at this
  exact this
theorem q7' {sl : List Nat} {it : M.MI} {g : M.MG} {t : M.MT} {e : M.ME} {Q : VK} (h : qO K W (M.oLc sl it g t e) σ H Q) : tLc (qI K W it) (qG K sl g) (qT K W0 t) (qE K W0 e) sl σ H Q := by
  obtain ⟨ρ, F, T, fr, rel, h⟩ := h
  refine ⟨ρ, F, T, fr, rel, (aU'.bind h).mono (fun ds ρ1 h1 J H1 F1 T1 e1 io r1 => ?_) fun _ _ z => z⟩
  intro D hD
  have h2 := aU'.bind h1
  -- the loop's word
  refine ⟨fun i m H => m = ds.length - i /\ zM' K sl g t e ds σ D fr F1 T1 _ _ i H, ⟨ds.length, by simp, Nat.zero_le _, ρ1, F1, T1, [], [], .refl, .nil, (r1.wiped sl).own hD, h2⟩, ?_⟩
  rintro i m H2 ⟨rfl, hi, ρ2, F2, T2, acc, vacc, e2, za, r2, h3⟩
  have hH : H2 D = some (.lst vacc) := r2.at_ (e := (D, .lst vacc)) List.mem_cons_self
  obtain ⟨fp2, f2, _⟩ := r2.fp
  by_cases hl : i = ds.length
  . refine .inl ⟨(io F2 T2 H2 fp2 i e2 f2 hi).1 hl, ?_⟩
    rw [hl, List.drop_length] at h3
    have h4 : aU' (M.lcL sl g t e [] acc ρ2) _ _ := h3
    unfold M.lcL at h4
    have h5 := h4
    refine h5 (.ref D) H2 F2 T2 ((D, .lst vacc) :: []) (e1.trans e2) ?_ ?_
    . exact .lst (RpA.of_fz za)
    . obtain ⟨fe, fw, re, rw, f⟩ := r2
      have re1 : RpE K F2 T2 σ (M.aD' sl ρ2.env) fe := by
        refine re.other ?_ fun j o hj => (ga' (e9' hj)).symm
        rw [wipe_length]
      obtain ⟨fe0, fw0, re0, rw0, f0⟩ := r1
      obtain ⟨fq, h6, h7⟩ := RpE.backed (env0 := ρ1.env) (fun i d hd => by
        obtain ⟨v, hv, z⟩ := re0.data hd
        exact ⟨v, hv, z.mono e2⟩) sl re1
      exact ⟨fq, fw, h6, rw, f.part (.app h7 .refl)⟩
  . have hlt : i < ds.length := by omega
    have hd : ds[i]? = some ds[i] := List.getElem?_eq_getElem hlt
    obtain ⟨go, yl⟩ := (io F2 T2 H2 fp2 i e2 f2 hi).2 _ hd
    refine .inr ⟨go, zM' K sl g t e ds σ D fr F1 T1 _ _ (i + 1), fun H' n => ⟨ds.length - (i + 1), by omega, rfl, n⟩, fun x H3 y => ?_⟩
    obtain ⟨fe, fw, re, rw, f⟩ := id r2
    obtain ⟨yg, yh⟩ := (io F2 T2 H2 _ i e2 f hi).2 _ hd
    obtain ⟨F3, s3, zx, f3⟩ := yh x H3 y
    have r3 : Rel K ⟨M.aD' sl ρ2.env, ρ2.w⟩ (wipe σ sl) H3 F3 T2 ((D, .lst vacc) :: fr) := ⟨fe, fw, re.mono (.of s3), rw.mono (.of s3), f3⟩
    rw [List.drop_eq_getElem_cons hlt] at h3
    unfold M.lcL at h3
    cases eg : g ds[i] ⟨M.aD' sl ρ2.env, ρ2.w⟩ with
    | none => rw [eg] at h3; exact h3.elim
    | some ρ3 =>
      rw [eg] at h3
      refine ⟨_, F3, T2, _, ds[i], ρ3, r3, zx, eg, fun σ4 w4 r4 => ?_⟩
      rw [ji'] at w4
      refine ⟨w4, ?_⟩
      have h4 := aU'.bind h3
      refine ⟨ρ3, F3, T2, _, r4, (aU'.noX h4).mono (fun b ρ5 h5 H5 F5 T5 e5 r5 => ?_) fun _ _ z => z⟩
      cases b with
      | false =>
        rw [if_neg Bool.false_ne_true]
        refine ⟨hlt, ρ5, F5, T5, acc, vacc, e2.trans ((Ext.of s3).trans e5), (za.mono (.of s3)).mono e5, ?_, h5⟩
        rw [<- w4]
        exact r5.wiped sl
      | true =>
        rw [if_pos rfl] at h5 ⊢
        have h6 := aU'.bind h5
        refine ⟨ρ5, F5, T5, _, r5, (aU'.noX h6).mono (fun d ρ6 h7 y6 H6 F6 T6 e6 z6 r6 => ?_) fun _ _ z => z⟩
        split at h7
        . rename_i hacc
          have hH6 : H6 D = some (.lst vacc) := r6.at_ (e := (D, .lst vacc)) List.mem_cons_self
          refine ⟨vacc, hH6, by rw [bL', za.length]; exact hacc, hlt, ρ6, F6, T6, acc ++ [d], vacc ++ [y6], e2.trans ((Ext.of s3).trans (e5.trans e6)), (((za.mono (.of s3)).mono e5).mono e6).append (.cons z6 .nil), ?_, h7⟩
          rw [<- w4]
          exact (r6.wiped sl).write
        . exact h7.elim
end
section
variable {X : Cx} {W : WX} {pos : Pos} {elt tg iter : Expr} {ifs : List Expr} {scope : Scope} {own : List (Str × Nat)} {sl : List Nat} {it : M.MI} {g : M.MG} {t : M.MT} {e : M.ME}
theorem bE' {X : Cx} {W : WX} : PTs X [] (qT X.K W M.tT) := ⟨fun _ _ _ H Q I ⟨ρ, F, T, fr, rel, h⟩ => wpAny_tests_nil ⟨H, I, h _ _ _ .refl rel⟩⟩
theorem ex' {X : Cx} {W : WX} {c : Expr} {m : M.MT} (h : ST X W c m) : PTs X [c] (qT X.K W m) := pts_one h
theorem Az' (hc : X.calm = true) (hN : X.N.Nodup) (hi : SI X W tg iter it) (ok : BlkOk X.N X.env.scope scope own) (hsl : sl = own.map (·.2))
    (hg : ∀ (s : Shared) (H : Hp) (C : Addr) (cl : List (Str × Addr)) (fp : List Addr), SG (X.blk s H scope (compEnvC scope cl C X.env) fp) tg sl g) (ht : ∀ (s : Shared) (H : Hp) (C : Addr) (cl : List (Str × Addr)) (fp : List Addr), PTs (X.blk s H scope (compEnvC scope cl C X.env) fp) ifs (qT X.K W0 t))
    (he : ∀ (s : Shared) (H : Hp) (C : Addr) (cl : List (Str × Addr)) (fp : List Addr), SE (X.blk s H scope (compEnvC scope cl C X.env) fp) W0 elt e) (hs : ∀ x, foldedSetIterable iter X.env x = pure x := by intro _; rfl) :
    SO X W (.ListComp elt [⟨tg, iter, ifs, 0⟩] scope pos) (M.oLc sl it g t e) := by
  subst hsl
  exact PE.imp (pe_lc hc hN hi ok hg ht he hs) fun σ H Q h => q7' h
theorem xY' {K : PySem.W.Frag} {m : M.MO} {σ : St} {H : Hp} {Q : VK} (h : qE K W (M.eO m) σ H Q) : qO K W m σ H Q := by
  obtain ⟨ρ, F, T, fr, rel, h⟩ := h
  refine ⟨ρ, F, T, fr, rel, (aU'.bind h).mono (fun o ρ1 h1 v H1 F1 T1 fp e1 z1 r1 => ?_) fun _ _ z => z⟩
  obtain ⟨G, s, z, r⟩ := r1.frozen z1
  exact h1 v H1 G T1 (e1.trans (.of s)) z r
theorem cF' {a : Expr} {m : M.MO} (h : SO X W a m) : SE X W a (M.eO m) := PE.imp h fun σ H Q h => xY' h
theorem bf' {a : Expr} {m : M.ME} (h : SE X W a m) : SO X W a (M.oE m) := PE.imp h fun σ H Q ⟨ρ, F, T, fr, rel, h⟩ => az' rel h fun d ρ1 v H1 F1 T1 e1 z1 r1 h1 => h1 v H1 F1 T1 [] e1 (.fz z1) r1
theorem ym' (xs : List M.D) : M.frz (.lst (xs.map .fz)) = .lst xs := by
  show M.D.lst (M.frzs _) = _
  rw [M.rm']
theorem eb' (hc : X.calm = true) (hN : X.N.Nodup) (hi : SI X W tg iter it) (ok : BlkOk X.N X.env.scope scope own) (hsl : sl = own.map (·.2))
    (hg : ∀ (s : Shared) (H : Hp) (C : Addr) (cl : List (Str × Addr)) (fp : List Addr), SG (X.blk s H scope (compEnvC scope cl C X.env) fp) tg sl g) (ht : ∀ (s : Shared) (H : Hp) (C : Addr) (cl : List (Str × Addr)) (fp : List Addr), PTs (X.blk s H scope (compEnvC scope cl C X.env) fp) ifs (qT X.K W0 t))
    (he : ∀ (s : Shared) (H : Hp) (C : Addr) (cl : List (Str × Addr)) (fp : List Addr), SE (X.blk s H scope (compEnvC scope cl C X.env) fp) W0 elt e) (hs : ∀ x, foldedSetIterable iter X.env x = pure x := by intro _; rfl) :
    SE X W (.ListComp elt [⟨tg, iter, ifs, 0⟩] scope pos) (M.eLc sl it g t e) := by
  have h := cF' (Az' (pos := pos) hc hN hi ok hsl hg ht he hs)
  have eq : M.eO (M.oLc sl it g t e) = M.eLc sl it g t e := by
    funext ρ
    show ((it ρ).bind fun xs ρ1 => _).bind _ = (it ρ).bind _
    cases it ρ with
    | bad => rfl
    | exc x ρ1 => rfl
    | ok xs ρ1 =>
      show ((M.lcL sl g t e xs [] ρ1).bind _).bind _ = (M.lcL sl g t e xs [] ρ1).bind _
      cases M.lcL sl g t e xs [] ρ1 with
      | bad => rfl
      | exc x ρ2 => rfl
      | ok ys ρ2 =>
        show M.Res.ok (M.frz (.lst (ys.map .fz))) _ = M.Res.ok (M.D.lst ys) _
        rw [ym']
  rw [eq] at h
  exact h
end
end S
namespace S
open PySem PySem.Spec PyProof.Rows L2
variable [Wd] [Hot]
section
variable {K : PySem.W.Frag} {F F' H H' : Hp} {T T' : List Addr} {fp fq fr : Fp} {ρ : M.PSt} {σ : St} {W : WX} {D : Ends} {Q : VK}
theorem bF'.mono {r : M.Out} (h : bF' K W D F T fr r) (e : Ext F T F' T') : bF' K W D F' T' fr r := by
  cases r with
  | nx ρ => exact fun σ' H' F2 T2 e2 => h σ' H' F2 T2 (e.trans e2)
  | bk ρ => exact fun σ' H' F2 T2 e2 => h σ' H' F2 T2 (e.trans e2)
  | ct ρ => exact fun σ' H' F2 T2 e2 => h σ' H' F2 T2 (e.trans e2)
  | rt o w => exact fun v H' F2 T2 fp e2 => h v H' F2 T2 fp (e.trans e2)
  | exc x ρ => exact fun σ' cls dd H' F2 T2 e2 => h σ' cls dd H' F2 T2 (e.trans e2)
  | bad => exact h
theorem bF'.imp {r : M.Out} {D' : Ends} {W' : WX} (h : bF' K W D F T fr r) (h1 : ∀ σ H, D.nx σ H -> D'.nx σ H) (h2 : ∀ σ H, D.bk σ H -> D'.bk σ H) (h3 : ∀ σ H, D.ct σ H -> D'.ct σ H) (h4 : ∀ v H, D.rt v H -> D'.rt v H) (h5 : ∀ c d σ H, W c d σ H -> W' c d σ H) : bF' K W' D' F T fr r := by
  cases r with
  | nx ρ => exact fun σ' H' F2 T2 e2 r => h1 _ _ (h σ' H' F2 T2 e2 r)
  | bk ρ => exact fun σ' H' F2 T2 e2 r => h2 _ _ (h σ' H' F2 T2 e2 r)
  | ct ρ => exact fun σ' H' F2 T2 e2 r => h3 _ _ (h σ' H' F2 T2 e2 r)
  | rt o w => exact fun v H' F2 T2 fp e2 z r => h4 _ _ (h v H' F2 T2 fp e2 z r)
  | exc x ρ => exact fun σ' cls dd H' F2 T2 e2 z r => h5 _ _ _ _ (h σ' cls dd H' F2 T2 e2 z r)
  | bad => exact h
theorem eK' {α : Type} {r : M.Res α} {f : α -> M.PSt -> M.Out} (h : bF' K W D F T fr (r.out f)) : aU' r (fun a ρ' => bF' K W D F T fr (f a ρ')) (EX K W σ F T fr) := by
  cases r with
  | ok a ρ => exact h
  | exc x ρ => exact fun cls dd H' F' T' e z r => h σ cls dd H' F' T' e z r
  | bad => exact h
theorem dt' {m : M.ME} {k : M.D -> M.PSt -> M.Out} (rel : Rel K ρ σ H F T fr) (h : bF' K W D F T fr ((m ρ).out k))
    (q : ∀ d ρ1 v H1 F1 T1, Ext F T F1 T1 -> Fz K F1 T1 v d -> Rel K ρ1 σ H1 F1 T1 fr -> bF' K W D F1 T1 fr (k d ρ1) -> Q v H1) : qE K W m σ H Q :=
  ⟨ρ, F, T, fr, rel, (eK' h).mono (fun d ρ1 h1 v H1 F1 T1 e z r => q d ρ1 v H1 F1 T1 e z r (h1.mono e)) fun _ _ z => z⟩
theorem gB' {m : M.MO} {k : M.O -> M.PSt -> M.Out} (rel : Rel K ρ σ H F T fr) (h : bF' K W D F T fr ((m ρ).out k))
    (q : ∀ o ρ1 v H1 F1 T1 fp, Ext F T F1 T1 -> Rp K F1 T1 v o fp -> Rel K ρ1 σ H1 F1 T1 (fp ++ fr) -> bF' K W D F1 T1 fr (k o ρ1) -> Q v H1) : qO K W m σ H Q :=
  ⟨ρ, F, T, fr, rel, (eK' h).mono (fun d ρ1 h1 v H1 F1 T1 fp e z r => q d ρ1 v H1 F1 T1 fp e z r (h1.mono e)) fun _ _ z => z⟩
theorem qf' {m : M.MT} {k : Bool -> M.PSt -> M.Out} {Q : Bool -> Hp -> Prop} (rel : Rel K ρ σ H F T fr) (h : bF' K W D F T fr ((m ρ).out k))
    (q : ∀ b ρ1 H1 F1 T1, Ext F T F1 T1 -> Rel K ρ1 σ H1 F1 T1 fr -> bF' K W D F1 T1 fr (k b ρ1) -> Q b H1) : qT K W m σ H Q :=
  ⟨ρ, F, T, fr, rel, (eK' h).mono (fun d ρ1 h1 H1 F1 T1 e r => q d ρ1 H1 F1 T1 e r (h1.mono e)) fun _ _ z => z⟩
theorem vi' {m : M.MI} {k : List M.D -> M.PSt -> M.Out} {R : It -> Hp -> Prop} (rel : Rel K ρ σ H F T fr) (h : bF' K W D F T fr ((m ρ).out k))
    (q : ∀ ds ρ1 J H1 F1 T1, Ext F T F1 T1 -> je' K J ds F1 T1 -> Rel K ρ1 σ H1 F1 T1 fr -> bF' K W D F1 T1 fr (k ds ρ1) -> R J H1) : qI K W m σ H R :=
  ⟨ρ, F, T, fr, rel, (eK' h).mono (fun d ρ1 h1 J H1 F1 T1 e z r => q d ρ1 J H1 F1 T1 e z r (h1.mono e)) fun _ _ z => z⟩
theorem Rel.noenv (r : Rel K ρ σ H F T fr) : rX' K (ρ.w) H F T fr := by
  obtain ⟨fe, fw, re, rw, f⟩ := r
  exact ⟨[], fw, wU', rw, f.part (.app .nil .refl)⟩
end
section
variable {X : Cx} {W : WX} {pos : Pos} {a b c : Expr} {st : Stmt} {rest body : List Stmt} {ma mb : M.ME} {mo : M.MO} {mt : M.MT} {m1 m2 : M.MS} {D : Ends} {σ : St} {H : Hp}
theorem aR' : SSs X W [] M.br' := PSs.imp pss_nil fun D σ H ⟨ρ, F, T, fr, rel, h⟩ => h σ H F T .refl rel
theorem af' (h : SS X W st m1) : SSs X W [st] m1 := pss_one h
theorem ab' (h1 : SS X W st m1) (h2 : SSs X W rest m2) : SSs X W (st :: rest) (M.au' m1 m2) := PSs.imp (pss_cons h1 h2) fun D σ H ⟨ρ, F, T, fr, rel, h⟩ => by
  refine ⟨ρ, F, T, fr, rel, ?_⟩
  unfold M.au' at h
  cases e : m1 ρ with
  | nx ρ1 => rw [e] at h; exact fun σ1 H1 F1 T1 e1 r1 => ⟨ρ1, F1, T1, fr, r1, bF'.mono h e1⟩
  | bk ρ1 => rw [e] at h; exact h
  | ct ρ1 => rw [e] at h; exact h
  | rt o w => rw [e] at h; exact h
  | exc x ρ1 => rw [e] at h; exact h
  | bad => rw [e] at h; exact h
theorem sd' : SS X W (.Break pos) M.nb' := PS.imp ps_break fun D σ H ⟨ρ, F, T, fr, rel, h⟩ => h σ H F T .refl rel
theorem iv' (ha : SE X W a ma) (hs : swapsWith a none pos.line X.env = pure false := by rfl) : SS X W (.Expr a pos) (M.jR' ma) := PS.imp (ps_expr ha hs) fun D σ H ⟨ρ, F, T, fr, rel, h⟩ =>
  dt' rel h fun d ρ1 v H1 F1 T1 e1 z1 r1 h1 => h1 σ H1 F1 T1 .refl r1
theorem aH' (ha : SO X W a mo) : SS X W (.Return (some a) pos) (M.cC' mo) := PS.imp (ps_ret ha) fun D σ H ⟨ρ, F, T, fr, rel, h⟩ =>
  gB' rel h fun o ρ1 v H1 F1 T1 fp e1 z1 r1 h1 => h1 v H1 F1 T1 fp .refl z1 r1.noenv
theorem bv' (hc : ST X W c mt) (ha : SSs X W rest m1) (hb : SSs X W body m2) : SS X W (.If c rest body pos) (M.sIf mt m1 m2) := PS.imp (ps_if hc ha hb) fun D σ H ⟨ρ, F, T, fr, rel, h⟩ => by
  refine qf' rel h fun k ρ1 H1 F1 T1 e1 r1 h1 => ?_
  cases k with
  | true => rw [if_pos rfl] at h1 ⊢; exact ⟨ρ1, F1, T1, fr, r1, h1⟩
  | false => rw [if_neg Bool.false_ne_true] at h1 ⊢; exact ⟨ρ1, F1, T1, fr, r1, h1⟩
theorem ag' {i : Nat} {x : Str} {pos' : Pos} (hN : X.N.Nodup) (hi : X.N[i]? = some x) (hx : Loc X.env.scope x) (ha : SO X W a mo) (hs : swapsWith a (some (.Name x pos')) pos.line X.env = pure false := by rfl) (hf : X.fn x = true \/ X.env.scope.names.lookup x = some .local := by first | exact .inl rfl | exact .inr rfl | assumption) :
    SS X W (.Assign [.Name x pos'] a pos) (M.bg' i mo) := PS.imp (ps_set hN hi hx ha hs hf) fun D σ H ⟨ρ, F, T, fr, rel, h⟩ => by
  refine gB' rel h fun o ρ1 v H1 F1 T1 fp e1 z1 r1 h1 => ?_
  unfold M.u9' at h1
  split at h1
  . rename_i hl
    exact h1 _ H1 F1 T1 .refl (r1.put hl z1 .refl)
  . exact h1.elim
theorem iu' {i : Nat} {y : Str} {py : Pos} {elt tg iter : Expr} {ifs : List Expr} {scope : Scope} {own : List (Str × Nat)} {spos : Pos} {sl : List Nat} {it : M.MI} {g : M.MG} {t : M.MT} {e : M.ME} (hc : X.calm = true) (hN : X.N.Nodup) (hy : X.N[i]? = some y) (hyl : X.env.scope.names.lookup y = some .local)
    (hsw : swapsWith (.ListComp elt [⟨tg, iter, ifs, 0⟩] scope pos) (some (.Name y py)) spos.line X.env = pure true) (hi : SI X W tg iter it) (ok : BlkOk X.N X.env.scope scope own) (hsl : sl = own.map (·.2))
    (hg : ∀ (s : Shared) (H : Hp) (C : Addr) (cl : List (Str × Addr)) (fp : List Addr), SG (X.blk s H scope (compEnvC scope cl C X.env) fp) tg sl g) (ht : ∀ (s : Shared) (H : Hp) (C : Addr) (cl : List (Str × Addr)) (fp : List Addr), PTs (X.blk s H scope (compEnvC scope cl C X.env) fp) ifs (qT X.K W0 t))
    (he : ∀ (s : Shared) (H : Hp) (C : Addr) (cl : List (Str × Addr)) (fp : List Addr), SE (X.blk s H scope (compEnvC scope cl C X.env) fp) W0 elt e) (hs : ∀ x, foldedSetIterable iter X.env x = pure x := by intro _; rfl) :
    SS X W (.Assign [.Name y py] (.ListComp elt [⟨tg, iter, ifs, 0⟩] scope pos) spos) (M.bg' i (M.oLc sl it g t e)) := by
  subst hsl
  refine PS.imp (ps_setLc (g := qG X.K (own.map (·.2)) g) (tt := qT X.K W0 t) (te := qE X.K W0 e) hc hN hy hyl hsw hi ok hg ht he hs) fun D σ H ⟨ρ, F, T, fr, rel, h⟩ => ?_
  show tLc (qI X.K W it) (qG X.K (own.map (·.2)) g) (qT X.K W0 t) (qE X.K W0 e) (own.map (·.2)) σ H fun x H1 => gName i x σ H1 D.nx
  refine q7' (W := W) (gB' (D := D) rel h fun o ρ1 v H1 F1 T1 fp e1 z1 r1 h1 => ?_)
  unfold M.u9' at h1
  split at h1
  . rename_i hl
    exact h1 _ H1 F1 T1 .refl (r1.put hl z1 .refl)
  . exact h1.elim
theorem pZ' {tg : Expr} {sl : List Nat} {g : M.MG} (ha : SE X W a ma) (hg : SG X tg sl g) (hs : swapsWithSole [tg] a pos.line X.env = pure false := by rfl) (hw : swappedStores [tg] a X.env = pure none := by rfl)
    (h1 : (assignEach [tg] X.env).map (·.2) = [assign tg X.env] := by rfl) : SS X W (.Assign [tg] a pos) (M.vj' g ma) := PS.imp (ps_asg ha hg hs hw h1) fun D σ H ⟨ρ, F, T, fr, rel, h⟩ => by
  refine dt' rel h fun d ρ1 v H1 F1 T1 e1 z1 r1 h1 => ?_
  cases e : g d ρ1 with
  | none => rw [e] at h1; exact h1.elim
  | some ρ2 =>
    rw [e] at h1
    exact ⟨ρ1, F1, T1, fr, d, ρ2, r1, z1, e, fun σ' _ r' => h1 σ' H1 F1 T1 .refl r'⟩
theorem xw' {i : Nat} {x : Str} {op : Operator} {f : M.D -> M.D -> Option M.D} {ti : TIp} {pos' : Pos} (hN : X.N.Nodup) (hi : X.N[i]? = some x) (hx : Loc X.env.scope x) (ha : SE X W a ma) (ho : PIp X op ti)
    (hf2 : ∀ {F H : Hp} {T : List Addr} {fp : Fp} {x y : V} {dx dy dz : M.D} {Q : VK}, FpH F H fp -> Fz X.K F T x dx -> Fz X.K F T y dy -> f dx dy = some dz -> e5' X.K F T fp dz Q -> ti x y H Q)
    (hf : X.fn x = true \/ X.env.scope.names.lookup x = some .local := by first | exact .inl rfl | exact .inr rfl | assumption) :
    SS X W (.AugAssign (.Name x pos') op a pos) (M.wQ' f i ma) := PS.imp (ps_aug hN hi hx ha ho hf) fun D σ H ⟨ρ, F, T, fr, rel, h⟩ => by
  unfold M.wQ' at h
  split at h
  . rename_i d e
    obtain ⟨fe, fw, re, rw, ff⟩ := id rel
    obtain ⟨v, hv, zv⟩ := re.data e
    refine ⟨v, hv, dt' rel h fun d2 ρ1 u H1 F1 T1 e1 z1 r1 h1 => ?_⟩
    cases q : f d d2 with
    | none => rw [q] at h1; exact h1.elim
    | some z =>
      rw [q] at h1
      obtain ⟨fp, f1, back⟩ := r1.fp
      refine hf2 f1 (zv.mono e1) z1 q fun v2 H2 F2 s2 z2 f2 => ?_
      unfold M.u9' at h1
      dsimp only at h1
      split at h1
      . rename_i hl
        exact h1 _ H2 F2 T1 (.of s2) ((back H2 F2 s2 f2).put hl (.fz z2) .nilL)
      . exact h1.elim
  . exact h.elim
theorem AU' {F H : Hp} {T : List Addr} {fp : Fp} {x y : V} {dx dy dz : M.D} {Q : VK} {K : PySem.W.Frag} (f : FpH F H fp) (hx : Fz K F T x dx) (hy : Fz K F T y dy) (h : M.sH' dx dy = some dz) (k : e5' K F T fp dz Q) : ipI (fun i j => i + j) x y H Q := by
  cases dx <;> cases dy <;> try (cases h; done)
  cases hx; cases hy; cases h
  exact ⟨_, _, rfl, rfl, k.here f (.int _)⟩
theorem RpA.app {K : PySem.W.Frag} {F : Hp} {T : List Addr} : ∀ {vs ws : List V} {os ps : List M.O} {fp fq : Fp}, RpA K F T vs os fp -> RpA K F T ws ps fq -> RpA K F T (vs ++ ws) (os ++ ps) (fp ++ fq)
  | _, _, _, _, _, _, .nil, h => h
  | _, _, _, _, _, _, .cons a r, h => by
    rw [List.append_assoc]
    exact .cons a (RpA.app r h)
theorem RpA.length {K : PySem.W.Frag} {F : Hp} {T : List Addr} : ∀ {vs : List V} {os : List M.O} {fp : Fp}, RpA K F T vs os fp -> vs.length = os.length
  | _, _, _, .nil => rfl
  | _, _, _, .cons _ r => congrArg (· + 1) (RpA.length r)
theorem Rel.slotW {K : PySem.W.Frag} {ρ : M.PSt} {F : Hp} {T : List Addr} {fr : Fp} {i : Nat} {p : Addr} {os : List M.O} (rel : Rel K ρ σ H F T fr) (e : ρ.env[i]? = some (some (.lst os))) (hp : σ[i]? = some (some (.ref p))) :
    ∃ vs f2, H p = some (.lst vs) /\ RpA K F T vs os f2 /\ ∀ vs' os' f2' fr', RpA K F T vs' os' f2' -> Part (f2' ++ fr') (f2 ++ fr) -> Rel K ⟨ρ.env.set i (some (.lst os')), ρ.w⟩ σ (upd H p (.lst vs')) F T fr' := by
  obtain ⟨fe, fw, re, rw, f⟩ := rel
  obtain ⟨v, f1, f2, f3, h1, rfl, h3, h4, h5⟩ := re.get e
  rw [h1] at hp
  cases hp
  cases h3 with
  | lst r =>
    rename_i vs0 fp0
    refine ⟨vs0, fp0, (f.at_ (p, .lst vs0) (by simp)).1, r, fun vs' os' f2' fr' r' pt => ?_⟩
    have e5 := h5 F T (.ref p) (.lst os') ((p, .lst vs') :: f2') .refl (.lst r')
    rw [eB' h1] at e5
    refine ⟨_, fw, e5, rw, ?_⟩
    have fA : FpH F H (f1 ++ ((p, .lst vs0) :: (f3 ++ (fw ++ (fp0 ++ fr))))) := f.part (by
      constructor
      . intro e h
        simp only [List.mem_append, List.mem_cons] at *
        grind
      . intro x
        simp only [keys, List.map_append, List.map_cons, List.count_append, List.count_cons] at *
        omega)
    have fB := fA.write (o' := .lst vs')
    refine fB.part (.trans (b := f1 ++ ((p, .lst vs') :: (f3 ++ (fw ++ (f2' ++ fr'))))) ?_ ?_)
    . constructor
      . intro e h
        simp only [List.mem_append, List.mem_cons] at *
        grind
      . intro x
        simp only [keys, List.map_append, List.map_cons, List.count_append, List.count_cons] at *
        omega
    . have := pt.m
      have := pt.c
      constructor
      . intro e h
        simp only [List.mem_append, List.mem_cons] at *
        grind
      . intro x
        have := pt.c x
        simp only [keys, List.map_append, List.map_cons, List.count_append, List.count_cons] at *
        omega
theorem cG' {i : Nat} {x : Str} {px apos cpos : Pos} (hv : PE X (.Name x px) (tVar i)) (ha : SO X W a mo)
    (hbase : attributeBase (.Name x px) "append" X.env (eval (.Name x px) X.env) = eval (.Name x px) X.env := by rfl)
    (hfew : ((backTo cpos (starEach [a] X.env)).all (fun x => !x.1) && (backToKw cpos (keywordEach [] X.env)).all (fun x => x.1.isSome)
      && decide ([a].length + ([] : List Keyword).length + (if ([] : List Keyword).isEmpty then 0 else 1) < 30)) = true := by rfl)
    (hline : (apos.endLine == cpos.line) = true := by rfl) (hs : starEach [a] X.env = (false, eval a X.env) :: starEach [] X.env := by rfl) (hplain : (backTo cpos (starEach [] X.env)).any (·.1) = false := by rfl)
    (hsw : swapsWith (.Call (.Attribute (.Name x px) "append" apos) [a] [] cpos) none pos.line X.env = pure false := by rfl) :
    SS X W (.Expr (.Call (.Attribute (.Name x px) "append" apos) [a] [] cpos) pos) (M.iA' i mo) :=
  PS.imp (ps_expr (pe_bm PySem.F.plainAttrs_list PySem.F.slot_list_append PySem.F.type_list_append mt_append hv (pa_cons ha pa_nil hs) hbase hfew hline hs hplain) hsw) fun D σ H ⟨ρ, F, T, fr, rel, h⟩ => by
    unfold M.iA' at h
    split at h
    . rename_i os0 e0
      obtain ⟨fe, fw, re, rw, ff⟩ := id rel
      obtain ⟨v, f1, f2, f3, h1, _, h3, _⟩ := re.get e0
      cases h3 with
      | @lst p vs0 _ fp0 r0 =>
        obtain ⟨vs1, f21, hH, _, _⟩ := rel.slotW e0 h1
        refine ⟨.ref p, h1, .inl ⟨rfl, vs1, SqL.of hH⟩, gB' rel h fun o ρ1 u H1 F1 T1 fp e1 z1 r1 h2 => ?_⟩
        split at h2
        . rename_i os e2
          split at h2
          . rename_i hl
            obtain ⟨vs, f2', hH2, r2, back⟩ := r1.slotW e2 h1
            refine ⟨p, vs, u, rfl, rfl, hH2, by rw [r2.length, bL']; exact hl, ?_⟩
            have z1' : RpA X.K F1 T1 [u] [o] (fp ++ []) := .cons z1 .nil
            exact h2 σ _ F1 T1 .refl (back _ _ _ fr (r2.app z1') (by
              constructor
              . intro e h
                simp only [List.mem_append, List.not_mem_nil] at *
                grind
              . intro x
                simp only [keys, List.map_append, List.map_nil, List.count_append, List.count_nil] at *
                omega))
          . exact h2.elim
        . exact h2.elim
    . exact h.elim
theorem s4' {K : PySem.W.Frag} {sl : List Nat} {it : M.MI} {g : M.MG} {b : M.MS} (h : qS K W (M.e7' it g b) D σ H) : tFor (qI K W it) (qG K sl g) (qS K W b) D σ H := by
  obtain ⟨ρ, F, T, fr, rel, h⟩ := h
  refine vi' rel h fun ds ρ1 J H1 F1 T1 e1 io r1 h1 => ?_
  refine ⟨fun i m σ2 H2 => m = ds.length - i /\ i <= ds.length /\ ∃ ρ2 F2 T2, Ext F1 T1 F2 T2 /\ Rel K ρ2 σ2 H2 F2 T2 fr /\ bF' K W D F2 T2 fr (M.nF' g b (ds.drop i) ρ2), ⟨ds.length, by simp, Nat.zero_le _, ρ1, F1, T1, .refl, r1, h1⟩, ?_⟩
  rintro i m σ2 H2 ⟨rfl, hi, ρ2, F2, T2, e2, r2, h2⟩
  obtain ⟨fe, fw, re, rw, f2⟩ := id r2
  obtain ⟨st, yl⟩ := io F2 T2 H2 _ i e2 f2 hi
  by_cases hl : i = ds.length
  . refine .inl ⟨st hl, ?_⟩
    rw [hl, List.drop_length] at h2
    exact h2 σ2 H2 F2 T2 .refl r2
  . have hlt : i < ds.length := by omega
    obtain ⟨go, yh⟩ := yl ds[i] (List.getElem?_eq_getElem hlt)
    refine .inr ⟨go, fun σ3 H3 => ∃ ρ3 F3 T3, Ext F1 T1 F3 T3 /\ Rel K ρ3 σ3 H3 F3 T3 fr /\ bF' K W D F3 T3 fr (M.nF' g b (ds.drop (i + 1)) ρ3), fun σ3 H3 n => ⟨ds.length - (i + 1), by omega, rfl, hlt, n⟩, fun x H3 y => ?_⟩
    obtain ⟨F3, s3, zx, f3⟩ := yh x H3 y
    have r3 : Rel K ρ2 σ2 H3 F3 T2 fr := ⟨fe, fw, re.mono (.of s3), rw.mono (.of s3), f3⟩
    rw [List.drop_eq_getElem_cons hlt] at h2
    unfold M.nF' at h2
    cases eg : g ds[i] ρ2 with
    | none => rw [eg] at h2; exact h2.elim
    | some ρ4 =>
      rw [eg] at h2
      refine ⟨ρ2, F3, T2, fr, ds[i], ρ4, r3, zx, eg, fun σ4 _ r4 => ⟨ρ4, F3, T2, fr, r4, ?_⟩⟩
      have h3 := bF'.mono h2 (.of s3)
      have e3 : Ext F1 T1 F3 T2 := e2.trans (.of s3)
      dsimp only at h3
      cases eb : b ρ4 with
      | nx ρ5 => rw [eb] at h3; exact fun σ5 H5 F5 T5 e5 r5 => ⟨ρ5, F5, T5, e3.trans e5, r5, bF'.mono h3 e5⟩
      | ct ρ5 => rw [eb] at h3; exact fun σ5 H5 F5 T5 e5 r5 => ⟨ρ5, F5, T5, e3.trans e5, r5, bF'.mono h3 e5⟩
      | bk ρ5 => rw [eb] at h3; exact fun σ5 H5 F5 T5 e5 r5 => h3 σ5 H5 F5 T5 e5 r5
      | rt o w => rw [eb] at h3; exact h3
      | exc x ρ5 => rw [eb] at h3; exact h3
      | bad => rw [eb] at h3; exact h3
theorem bG' {tg iter : Expr} {sl : List Nat} {it : M.MI} {g : M.MG} (hp : PassesOwn (model X.prog X.w) X.A X.env X.xe) (hc : X.calm = true) (hi : SI X W tg iter it) (hg : SG X tg sl g) (hb : SSs X W body m1)
    (hs : ∀ x, foldedSetIterable iter X.env x = pure x := by intro _; rfl) : SS X W (.For tg iter body [] pos) (M.e7' it g m1) := PS.imp (ps_for hp hc hi hg hb hs) fun D σ H h => s4' h
theorem eu' (n : Nat) (hp : PassesOwn (model X.prog X.w) X.A X.env X.xe) (hc : ST X W c mt) (hb : SSs X W body m1) : SS X W (.While c body [] pos) (M.fK' n mt m1) := PS.imp (ps_while hp hc hb) fun D σ H ⟨ρ, F, T, fr, rel, h⟩ => by
  refine ⟨fun m σ2 H2 => ∃ ρ2 F2 T2, Ext F T F2 T2 /\ Rel X.K ρ2 σ2 H2 F2 T2 fr /\ bF' X.K W D F2 T2 fr (M.d0' mt m1 m ρ2), ⟨n, ρ, F, T, .refl, rel, h⟩, ?_⟩
  rintro m σ2 H2 ⟨ρ2, F2, T2, e2, r2, h2⟩
  cases m with
  | zero => exact h2.elim
  | succ m =>
    refine qf' r2 (show bF' X.K W D F2 T2 fr ((mt ρ2).out _) from h2) fun k ρ3 H3 F3 T3 e3 r3 h3 => ?_
    cases k with
    | false => rw [if_neg Bool.false_ne_true] at h3 ⊢; exact h3 σ2 H3 F3 T3 .refl r3
    | true =>
      rw [if_pos rfl] at h3 ⊢
      have e4 := e2.trans e3
      refine ⟨fun σ4 H4 => ∃ ρ4 F4 T4, Ext F T F4 T4 /\ Rel X.K ρ4 σ4 H4 F4 T4 fr /\ bF' X.K W D F4 T4 fr (M.d0' mt m1 m ρ4), fun σ' H' q => ⟨m, Nat.lt_succ_self m, q⟩, ρ3, F3, T3, fr, r3, ?_⟩
      cases eb : m1 ρ3 with
      | nx ρ5 => rw [eb] at h3; exact fun σ5 H5 F5 T5 e5 r5 => ⟨ρ5, F5, T5, e4.trans e5, r5, bF'.mono h3 e5⟩
      | ct ρ5 => rw [eb] at h3; exact fun σ5 H5 F5 T5 e5 r5 => ⟨ρ5, F5, T5, e4.trans e5, r5, bF'.mono h3 e5⟩
      | bk ρ5 => rw [eb] at h3; exact fun σ5 H5 F5 T5 e5 r5 => h3 σ5 H5 F5 T5 e5 r5
      | rt o w => rw [eb] at h3; exact h3
      | exc x ρ5 => rw [eb] at h3; exact h3
      | bad => rw [eb] at h3; exact h3
theorem sc' {e : Expr} {x : String} (hc : X.calm = true) (tk : Takes X W) (he : PMk X e (fun _ H Q => Q (.ref (He.ga X.K x)) none H)) : SS X W (.Raise (some e) none pos) (M.m9' x) := PS.imp (ps_raise hc tk he) fun D σ H ⟨ρ, F, T, fr, rel, h⟩ =>
  h σ _ _ H F T .refl ⟨rfl, .inl ⟨rfl, rfl⟩⟩ rel
def wL' (K : PySem.W.Frag) (Q : VK) (E : XK) (F : Hp) (T : List Addr) (fr : Fp) : M.FRes -> Prop
  | .ok o w' => ∀ v H' F' T' fp, Ext F T F' T' -> Rp K F' T' v o fp -> rX' K (w') H' F' T' (fp ++ fr) -> Q v H'
  | .exc x w' => ∀ cls dd H' F' T', Ext F T F' T' -> XcR K F' T' x cls dd -> rX' K (w') H' F' T' fr -> E cls dd H'
  | .bad => False
def spM (K : PySem.W.Frag) (m : M.MF) : Sp := fun vs H Q E => ∃ ds w F T fr, FzA K F T vs ds /\ rX' K (w) H F T fr /\ wL' K Q E F T fr (m ds w)
theorem RpE.start {K : PySem.W.Frag} {F : Hp} {T : List Addr} {n : Nat} : ∀ {vs : List V} {ds : List M.D}, FzA K F T vs ds -> RpE K F T (vs.map some ++ List.replicate n none) (ds.map (fun d => some (.fz d)) ++ List.replicate n none) []
  | _, _, .nil => by
    show RpE K F T (List.replicate n none) (List.replicate n none) []
    induction n with
    | zero => exact .nil
    | succ n ih => exact .off ih
  | _, _, .cons z r => RpE.on (fp := []) (fq := []) (.fz z) (RpE.start r)
end
section
variable {P : Program} {w : World} {K : PySem.W.Frag} {mg : Str -> Option Value} {base : Heap}
end
section
variable {X : Cx} {k : Nat} {x : Str} {ps : List Str} {p pos : Pos} {e : Expr} {es : List Expr} {as : M.MA} {W : WX} {m : M.MF}
theorem rB' {K : PySem.W.Frag} {σ : St} {H : Hp} {Q : VK} (h : qO K W (M.aQ' m as) σ H Q) : tCallS (spM K m) (WE W) (qA K W as) σ H Q := by
  obtain ⟨ρ, F, T, fr, rel, h⟩ := h
  refine dv' rel h fun ds ρ1 vs H1 F1 T1 e1 z1 r1 h1 => ?_
  obtain ⟨fe, fw, re, rw, f⟩ := r1
  refine ⟨ds, ρ1.w, F1, T1, fe ++ fr, z1, ⟨[], fw, wU', rw, f.part (Part.swap : Part (fw ++ (fe ++ fr)) (fe ++ (fw ++ fr)))⟩, ?_⟩
  cases em : m ds ρ1.w with
  | bad => rw [em] at h1; exact h1.elim
  | ok o w' =>
    rw [em] at h1
    refine fun v H' F' T' fp e z r => h1 v H' F' T' fp (e1.trans e) z ?_
    obtain ⟨fe', fw', re', rw', f'⟩ := r
    cases re'
    refine ⟨fe, fw', re.mono e, rw', f'.part ?_⟩
    constructor
    . intro e h
      simp only [List.mem_append, List.not_mem_nil] at *
      grind
    . intro x
      simp only [keys, List.map_append, List.map_nil, List.count_append, List.count_nil] at *
      omega
  | exc x w' =>
    rw [em] at h1
    refine fun cls dd H' F' T' e z r => h1 cls dd H' F' T' e z ?_
    obtain ⟨fe', fw', re', rw', f'⟩ := r
    cases re'
    refine ⟨fe, fw', re.mono e, rw', f'.part ?_⟩
    constructor
    . intro e h
      simp only [List.mem_append, List.not_mem_nil] at *
      grind
    . intro x
      simp only [keys, List.map_append, List.map_nil, List.count_append, List.count_nil] at *
      omega
theorem aj' (F : Og X.prog X.w X.K X.mg X.base k x ps (spM X.K m)) (hr : RoomG k X.A) (hg : Gl X x) (tk : Takes X W) (ha : SA X W (e :: es) as) (hdb : (x == ("__debug__" : Str)) = false := by decide)
    (he : starEach (e :: es) X.env = (false, eval e X.env) :: starEach es X.env := by rfl) (hpl : (backTo pos (starEach es X.env)).any (·.1) = false := by rfl) : SO X W (.Call (.Name x p) (e :: es) [] pos) (M.aQ' m as) :=
  PE.imp (sF' F hr hg tk ha hdb he hpl) fun _ _ _ h => rB' h
theorem is' : Takes X W0 := fun _ _ ⟨_, _, _, _, _, _, _, _, _, _, _, _, _, _, _, _, w⟩ => w.elim
end
end S
namespace S
open PySem PySem.Spec PyProof.Rows L2
variable [Wd]
section
variable {P : Program} {w : World} {K : PySem.W.Frag} {mg : Str -> Option Value} {base : Heap}
theorem CY' {x qual : Str} {st : Stmt} {f : Addr} {fd : FuncData} {N ps : List Str} {k j n : Nat} {b : M.MS} (F : FunD K x qual (defArgs st) (defBody st) (defScope st) [] [] f fd) (S : FnScope N ps (defScope st)) (hj : ps.length = j) (hn : N.length = n)
    (hbody : ∀ (cdv oc : Value) (od : Option Addr) (osl : Array (Option Value)), K.lookup f = some ⟨oc, od, .func fd, osl⟩ -> fd.code = cdv -> PySem.W.codeIn K cdv qual = true -> ∀ (A : Around) (outer : List Env) (s : Shared) (H : Hp) (E : XK), RoomG k (A.deeper (envOfC qual (defScope st) s.heap.objs.size f cdv)) →
      SSs (cxOf (L2.CX P w) P w K mg base N qual (defScope st) f cdv A outer s H E) (fun cls d _ H => E cls d H) (defBody st) b)   : FnG P w K mg base (L2.CX P w) (k + 1) f fd ps (spM K (M.fnM j n b)) := by
  refine v4' F S (fun vs H Q E h => ?_) fun cdv oc od osl lk e1 e2 A outer s H vs Q E hr h => ⟨_, hbody cdv oc od osl lk e1 e2 A outer s H E hr, ?_⟩
  . obtain ⟨ds, w', F', T, fr, za, rel, h⟩ := h
    unfold M.fnM at h
    by_cases hl : ds.length = j
    . rw [za.length, hl, hj]
    . rw [if_neg hl] at h; exact h.elim
  . obtain ⟨ds, w', F', T, fr, za, rel, h⟩ := h
    unfold M.fnM at h
    by_cases hl : ds.length = j
    . rw [if_pos hl] at h
      obtain ⟨fe, fw, re, rw', ff⟩ := rel
      cases re
      have re' : RpE K F' T (L2.start N vs) (ds.map (fun d => some (.fz d)) ++ List.replicate (n - j) none) [] := by
        unfold L2.start
        rw [hn, za.length, hl]
        exact RpE.start za
      refine ⟨⟨_, w'⟩, F', T, fr, ⟨[], fw, re', rw', ff⟩, ?_⟩
      generalize b ⟨ds.map (fun d => some (.fz d)) ++ List.replicate (n - j) none, w'⟩ = r at h
      cases r with
      | nx ρ => exact fun σ' H' F2 T2 e2 r2 => h .non H' F2 T2 [] e2 (.fz .non) r2.noenv
      | rt o w2 => exact fun v H' F2 T2 fp e2 z2 r2 => h v H' F2 T2 fp e2 z2 r2
      | exc x ρ => exact fun σ' cls dd H' F2 T2 e2 z2 r2 => h cls dd H' F2 T2 e2 z2 r2.noenv
      | bk ρ => exact h.elim
      | ct ρ => exact h.elim
      | bad => exact h.elim
    . rw [if_neg hl] at h; exact h.elim
theorem okM {x qual : Str} {st : Stmt} {f : Addr} {fd : FuncData} {N ps : List Str} {k j n : Nat} {b : M.MS} (F : FunD K x qual (defArgs st) (defBody st) (defScope st) [] [] f fd) (S : FnScope N ps (defScope st)) (hj : ps.length = j) (hn : N.length = n)
    (hbody : ∀ (cdv : Value) (A : Around) (outer : List Env) (s : Shared) (H : Hp) (E : XK), RoomG k (A.deeper (envOfC qual (defScope st) s.heap.objs.size f cdv)) →
      SSs (cxOf (L2.CX P w) P w K mg base N qual (defScope st) f cdv A outer s H E) (fun cls d _ H => E cls d H) (defBody st) b)   : FnG P w K mg base (L2.CX P w) (k + 1) f fd ps (spM K (M.fnM j n b)) :=
  CY' F S hj hn fun cdv _ _ _ _ _ _ => hbody cdv
end
end S
namespace S
open PySem PySem.Spec PyProof.Rows L2
variable [Wd] [Hot]
section
variable {K : PySem.W.Frag}
theorem v6' {F : Hp} {T : List Addr} {x y : V} {dx dy : M.D} (hx : Fz K F T x dx) (hy : Fz K F T y dy) (sx' : M.sca dx = true) (sy : M.sca dy = true) : eqV y x = M.eqb dy dx /\ flatV x = true := by
  cases dx <;> try (cases sx'; done)
  all_goals cases dy <;> try (cases sy; done)
  all_goals first
    | (cases hx; cases hy; exact ⟨rfl, rfl⟩)
    | skip
  obtain ⟨rfl, _⟩ := hx.str_inv
  obtain ⟨rfl, _⟩ := hy.str_inv
  exact ⟨tW' _ _, rfl⟩
theorem lt' {F : Hp} {T : List Addr} {x : V} {dx : M.D} (hx : Fz K F T x dx) (sx' : M.sca dx = true) : ∀ {vs : List V} {ds : List M.D}, FzA K F T vs ds -> ds.all M.sca = true -> inV x vs = ds.any (fun d => M.eqb d dx) /\ vs.all flatV = true
  | _, _, .nil, _ => ⟨rfl, rfl⟩
  | _, _, .cons z r, h => by
    rw [List.all_cons, Bool.and_eq_true] at h
    obtain ⟨h1, h2⟩ := lt' hx sx' r h.2
    obtain ⟨h3, h4⟩ := v6' hx z sx' h.1
    obtain ⟨_, h5⟩ := v6' z z h.1 h.1
    refine ⟨?_, ?_⟩
    . show (eqV _ x || inV x _) = _
      rw [List.any_cons, h3, h1]
    . rw [List.all_cons, h5, h2]; rfl
theorem id' {F : Hp} {T : List Addr} {x : V} {dx : M.D} (hx : Fz K F T x dx) (s : M.sca dx = true) : flatV x = true := (v6' hx hx s s).2
theorem iX' {dx dy dz : M.D} (h : M.pIn dx dy = some dz) : (∃ c s, dx = .str [c] /\ dy = .str s /\ dz = .bl (decide (c ∈ s))) \/ (∃ ds, (dy = .lst ds \/ dy = .tup ds) /\ M.sca dx = true /\ ds.all M.sca = true /\ dz = .bl (ds.any fun d => M.eqb d dx)) := by
  unfold M.pIn at h
  split at h
  . exact .inl ⟨_, _, rfl, rfl, (Option.some.inj h).symm⟩
  . split at h
    . rename_i c; exact .inr ⟨_, .inl rfl, c.1, c.2, (Option.some.inj h).symm⟩
    . cases h
  . split at h
    . rename_i c; exact .inr ⟨_, .inr rfl, c.1, c.2, (Option.some.inj h).symm⟩
    . cases h
  . cases h
theorem ue' : Op2 K M.pIn (zT' K) := by
  intro F H T fp x y dx dy dz Q f hx hy h k
  rcases iX' h with ⟨c, s, rfl, rfl, rfl⟩ | ⟨ds, e, h1, h2, rfl⟩
  . obtain ⟨rfl, o1⟩ := hx.str_inv
    obtain ⟨rfl, o2⟩ := hy.str_inv
    exact .inl ⟨c, _, rfl, rfl, k.here f (.bl _)⟩
  . rcases e with rfl | rfl
    . obtain ⟨a, vs, rfl, ha, za⟩ := hy.lst_inv
      obtain ⟨e1, e2⟩ := lt' hx h1 za h2
      refine .inr (.inl ⟨a, vs, rfl, .inl (SqL.of (f.low _ _ ha)), id' hx h1, e2, ?_⟩)
      rw [if_neg Bool.false_ne_true, e1]
      exact k.here f (.bl _)
    . obtain ⟨a, vs, rfl, ha, za⟩ := hy.tup_inv
      obtain ⟨e1, e2⟩ := lt' hx h1 za h2
      refine .inr (.inl ⟨a, vs, rfl, .inr (seqT f.low ha), id' hx h1, e2, ?_⟩)
      rw [if_neg Bool.false_ne_true, e1]
      exact k.here f (.bl _)
theorem qL' : Op2 K M.h6' (iD' K) := by
  intro F H T fp x y dx dy dz Q f hx hy h k
  unfold M.h6' at h
  split at h
  . rename_i b hb
    cases h
    rcases iX' hb with ⟨c, s, rfl, rfl, eb⟩ | ⟨ds, e, h1, h2, eb⟩
    . cases eb
      obtain ⟨rfl, o1⟩ := hx.str_inv
      obtain ⟨rfl, o2⟩ := hy.str_inv
      exact .inl ⟨c, _, rfl, rfl, k.here f (.bl _)⟩
    . cases eb
      rcases e with rfl | rfl
      . obtain ⟨a, vs, rfl, ha, za⟩ := hy.lst_inv
        obtain ⟨e1, e2⟩ := lt' hx h1 za h2
        refine .inr (.inl ⟨a, vs, rfl, .inl (SqL.of (f.low _ _ ha)), id' hx h1, e2, ?_⟩)
        rw [if_pos rfl, e1]
        exact k.here f (.bl _)
      . obtain ⟨a, vs, rfl, ha, za⟩ := hy.tup_inv
        obtain ⟨e1, e2⟩ := lt' hx h1 za h2
        refine .inr (.inl ⟨a, vs, rfl, .inr (seqT f.low ha), id' hx h1, e2, ?_⟩)
        rw [if_pos rfl, e1]
        exact k.here f (.bl _)
  . cases h
theorem mY' {F : Hp} {T : List Addr} : ∀ {vs : List V} {ds : List M.D} {ss : List M.Tx}, FzA K F T vs ds -> M.dY' ds = some ss -> vs = (ss.map sx).map V.str /\ ∀ s ∈ ss, okT s
  | _, _, ss, .nil, h => by cases h; exact ⟨rfl, fun s h => nomatch h⟩
  | _, d :: ds, ss, .cons a r, h => by
    cases d <;> try (cases h; done)
    rename_i b
    cases q : M.dY' ds with
    | none => simp only [M.dY', q] at h; cases h
    | some cs =>
      simp only [M.dY', q, Option.map_some] at h
      cases h
      obtain ⟨rfl, o⟩ := a.str_inv
      obtain ⟨rfl, os⟩ := mY' r q
      refine ⟨rfl, fun s hs => ?_⟩
      rcases List.mem_cons.mp hs with rfl | hs
      . exact o
      . exact os s hs
theorem nB' (sep : M.Tx) : ∀ ss : List M.Tx, TL.joinL sep ss = M.cW' sep ss
  | [] => rfl
  | [_] => rfl
  | a :: b :: r => by
    show a ++ (sep ++ TL.joinL sep (b :: r)) = a ++ (sep ++ M.cW' sep (b :: r))
    rw [nB' sep (b :: r)]
theorem vM' (sep : M.Tx) (ss : List M.Tx) : Txt.join (sx sep) (ss.map sx) = sx (M.cW' sep ss) := by
  rw [TL.join_eq]
  refine it' ?_
  have := TL.tl_join (sx sep) (ss.map sx)
  rw [List.map_map, show ss.map (TL.tl ∘ sx) = ss from (List.map_congr_left fun a _ => rfl).trans (List.map_id ss), show TL.tl (sx sep) = sep from rfl, nB'] at this
  exact this
theorem kg' (sep : M.Tx) : ∀ (ss : List M.Tx) (c : Nat), c ∈ M.cW' sep ss -> c ∈ sep \/ ∃ s ∈ ss, c ∈ s
  | [], c, h => by cases h
  | [a], c, h => .inr ⟨a, by simp, h⟩
  | a :: b :: r, c, h => by
    rcases List.mem_append.mp (show c ∈ a ++ (sep ++ M.cW' sep (b :: r)) from h) with h | h
    . exact .inr ⟨a, by simp, h⟩
    . rcases List.mem_append.mp h with h | h
      . exact .inl h
      . rcases kg' sep (b :: r) c h with h | ⟨s, h1, h2⟩
        . exact .inl h
        . exact .inr ⟨s, List.mem_cons_of_mem _ h1, h2⟩
theorem eR' (sep : M.Tx) : ∀ (ss : List M.Tx), (M.cW' sep ss).length <= (ss.map List.length).sum + ss.length * sep.length
  | [] => by simp [M.cW']
  | [a] => by simp [M.cW']
  | a :: b :: r => by
    have ih := eR' sep (b :: r)
    show (a ++ (sep ++ M.cW' sep (b :: r))).length <= _
    rw [List.length_append, List.length_append, List.map_cons, List.sum_cons, List.length_cons (as := b :: r), Nat.succ_mul]
    omega
def MtD (K : PySem.W.Frag) (f : M.Tx -> List M.D -> Option M.D) (r : V -> List V -> Hp -> VK -> Prop) : Prop := ∀ {F H : Hp} {T : List Addr} {fp : Fp} {s : M.Tx} {xs : List V} {ds : List M.D} {dz : M.D} {Q : VK}, FpH F H fp -> okT s -> FzA K F T xs ds -> f s ds = some dz -> e5' K F T fp dz Q -> r (.str (sx s)) xs H Q
theorem FzA.one {F : Hp} {T : List Addr} {xs : List V} {d : M.D} (h : FzA K F T xs [d]) : ∃ v, xs = [v] /\ Fz K F T v d := by
  cases h with
  | cons a r => cases r; exact ⟨_, rfl, a⟩
theorem yd' : MtD K M.ln' (xR' K) := by
  intro F H T fp a xs ds dz Q f oa hx h k
  have fin : ∀ {ds : List M.D} {p : Addr} {vs : List V}, (SqL K H p vs \/ SqT K H p vs) -> FzA K F T vs ds -> ((M.dY' ds).bind fun ys => if (ys.map List.length).sum + ys.length * a.length <= M.di' then some (M.D.str (M.cW' a ys)) else none) = some dz -> xR' K (.str (sx a)) [.ref p] H Q := by
    intro ds p vs hp za e
    cases q : M.dY' ds with
    | none => rw [q] at e; cases e
    | some ss =>
      rw [q, Option.bind_some] at e
      split at e
      . rename_i hl
        cases e
        obtain ⟨rfl, os⟩ := mY' za q
        refine ⟨_, p, ss.map sx, rfl, rfl, hp, ?_, ?_⟩
        . rw [List.map_map, show ss.map (Str.length ∘ sx) = ss.map List.length from List.map_congr_left fun s _ => ck' s, List.length_map, ck']
          exact hl
        . rw [vM']
          refine k.here f (.str ⟨fun c hc => ?_, Nat.le_trans (eR' a ss) hl⟩)
          rcases kg' a ss c hc with h | ⟨s, h1, h2⟩
          . exact oa.1 c h
          . exact (os s h1).1 c h2
      . cases e
  unfold M.ln' at h
  split at h
  . obtain ⟨v, rfl, z⟩ := hx.one
    obtain ⟨p, vs, rfl, ha, za⟩ := z.lst_inv
    exact fin (.inl (SqL.of (f.low _ _ ha))) za h
  . obtain ⟨v, rfl, z⟩ := hx.one
    obtain ⟨p, vs, rfl, ha, za⟩ := z.tup_inv
    exact fin (.inr (seqT f.low ha)) za h
  . cases h
theorem v0' (a b : M.Tx) (i : Nat) : (decide (i + (sx b).length <= (sx a).length) && Builtin.Str.subAt (sx a) (sx b) i) = M.uk' a b i := by
  rw [ck', ck', PySem.StrLaws.subAt_eq, et', et', ck']
  unfold M.uk'
  congr 1
  rw [Bool.eq_iff_iff]
  simp
end
section
variable {X : Cx} {W : WX} {K : PySem.W.Frag} {cpos apos p : Pos} {name : Str} {id T : String} {o e : Expr} {es : List Expr} {mo : M.ME} {as : M.MA} {σ : St} {H : Hp} {Q : VK}
theorem vH' {f : M.Tx -> List M.D -> Option M.D} {r : V -> List V -> Hp -> VK -> Prop} (hf : MtD K f r) (h : qE K W (M.eMt f mo as) σ H Q) : tBM K "str" r (qE K W mo) (qA K W as) σ H Q := by
  obtain ⟨ρ, F, T, fr, rel, h⟩ := h
  refine az' rel h fun dx ρ1 v H1 F1 T1 e1 z1 r1 h1 => ?_
  cases dx <;> try exact h1.elim
  obtain ⟨rfl, o⟩ := z1.str_inv
  refine ⟨rfl, ?_⟩
  refine dv' r1 h1 fun ds ρ2 vs H2 F2 T2 e2 z2 r2 h2 => ?_
  obtain ⟨dz, ez, q⟩ := aU'.ofO h2
  obtain ⟨fp, f2, back⟩ := r2.fp
  exact hf f2 o z2 ez fun v' H3 F3 s zz f3 => q v' H3 F3 T2 (e1.trans (e2.trans (.of s))) zz (back H3 F3 s f3)
theorem xB' {f : M.Tx -> List M.D -> Option M.D} {r : V -> List V -> Hp -> VK -> Prop} (slot : Slot "str" name id) (hty : typeOf (.builtin id) = pure (.type "method_descriptor")) (hm : MtR X id r) (hf : MtD X.K f r) (ho : SE X W o mo) (ha : SA X W (e :: es) as)
    (hbase : attributeBase o name X.env (eval o X.env) = eval o X.env := by rfl)
    (hfew : ((backTo cpos (starEach (e :: es) X.env)).all (fun x => !x.1) && (backToKw cpos (keywordEach [] X.env)).all (fun x => x.1.isSome)
      && decide ((e :: es).length + ([] : List Keyword).length + (if ([] : List Keyword).isEmpty then 0 else 1) < 30)) = true := by rfl)
    (hline : (apos.endLine == cpos.line) = true := by rfl) (hs : starEach (e :: es) X.env = (false, eval e X.env) :: starEach es X.env := by rfl) (hplain : (backTo cpos (starEach es X.env)).any (·.1) = false := by rfl) :
    SE X W (.Call (.Attribute o name apos) (e :: es) [] cpos) (M.eMt f mo as) := PE.imp (pe_bm PySem.F.plainAttrs_str slot hty hm ho ha hbase hfew hline hs hplain) fun _ _ _ h => vH' hf h
end
end S
namespace S
open PySem PySem.Spec PyProof.Rows L2
variable [Wd] [Hot]
section
variable {K : PySem.W.Frag} {F F' H H' : Hp} {T T' : List Addr} {fp fq fr : Fp} {ρ : M.PSt} {σ : St} {W : WX} {Q : VK}
theorem RpW.get {l : List Addr} {w : M.W} {n : Nat} {ob : M.Ob} (r : RpW K F T l w fp) (h : w[n]? = some ob) : ∃ a f1 f2 f3, l[n]? = some a /\ fp = f1 ++ (f2 ++ f3) /\ RpOb K F T a ob f2 ∧
    ∀ F' T' ob' f2', Ext F T F' T' -> RpOb K F' T' a ob' f2' -> RpW K F' T' l (w.set n ob') (f1 ++ (f2' ++ f3)) := by
  induction r generalizing n with
  | nil => cases h
  | @cons a l ob0 w fa fb r0 r ih =>
    cases n with
    | zero =>
      cases h
      exact ⟨a, [], fa, fb, rfl, rfl, r0, fun F' T' ob' f2' e r' => (RpW.cons r' (r.mono e) : RpW K F' T' _ _ (f2' ++ fb))⟩
    | succ n =>
      obtain ⟨a', f1, f2, f3, h1, rfl, h3, h4⟩ := ih (n := n) h
      refine ⟨a', fa ++ f1, f2, f3, h1, by simp, h3, fun F' T' ob' f2' e r' => ?_⟩
      rw [List.append_assoc]
      exact .cons (r0.mono e) (h4 F' T' ob' f2' e r')
theorem RpW.len {l : List Addr} {w : M.W} (r : RpW K F T l w fp) : l.length = w.length := by
  induction r with
  | nil => rfl
  | cons _ _ ih => exact congrArg (· + 1) ih
theorem RpA.get : ∀ {vs : List V} {os : List M.O} {fp : Fp} {i : Nat} {d : M.D}, RpA K F T vs os fp -> os[i]? = some (.fz d) -> ∃ v, vs[i]? = some v /\ Fz K F T v d
  | _, _, _, _, _, .nil, e => by cases e
  | _, _, _, 0, _, .cons h _, e => by
    have e := Option.some.inj e
    subst e
    cases h with
    | fz z => exact ⟨_, rfl, z⟩
  | _, _, _, i + 1, _, .cons _ r, e => RpA.get (i := i) r e
theorem RpA.ati {vs : List V} {os : List M.O} {i : Int} {d : M.D} (h : RpA K F T vs os fp) (e : M.ati os i = some (.fz d)) : ∃ v, atI vs i = some v /\ Fz K F T v d := by
  unfold M.ati at e
  unfold atI
  rw [h.length]
  cases q : M.ixn os.length i with
  | none => rw [q] at e; cases e
  | some j =>
    rw [q] at e
    obtain ⟨v, h1, h2⟩ := h.get (i := j) e
    have q' : ixN os.length i = some j := q
    rw [q']
    exact ⟨v, h1, h2⟩
theorem Rel.wlist (rel : Rel K ρ σ H F T fr) {n : Nat} {os : List M.O} (h : ρ.w[n]? = some (.lst os)) : ∃ a vs f2, T[n]? = some a /\ H a = some (.lst vs) /\ RpA K F T vs os f2 ∧
    ∀ vs' os' f2' fr', RpA K F T vs' os' f2' -> Part (f2' ++ fr') (f2 ++ fr) -> Rel K ⟨ρ.env, ρ.w.set n (.lst os')⟩ σ (upd H a (.lst vs')) F T fr' := by
  obtain ⟨fe, fw, re, rw, f⟩ := rel
  obtain ⟨a, f1, f2, f3, h1, rfl, h3, h4⟩ := rw.get h
  cases h3 with
  | lst r =>
    rename_i vs fp0
    refine ⟨a, vs, fp0, h1, (f.at_ (a, .lst vs) (by simp)).1, r, fun vs' os' f2' fr' r' pt => ?_⟩
    have e5 := h4 F T (.lst os') ((a, .lst vs') :: f2') .refl (.lst r')
    refine ⟨fe, _, re, e5, ?_⟩
    have fA : FpH F H ((fe ++ f1) ++ ((a, .lst vs) :: (f3 ++ (fp0 ++ fr)))) := f.part (by
      constructor
      . intro e h
        simp only [List.mem_append, List.mem_cons] at *
        grind
      . intro x
        simp only [keys, List.map_append, List.map_cons, List.count_append, List.count_cons] at *
        omega)
    have fB := fA.write (o' := .lst vs')
    refine fB.part ?_
    have pm := pt.m
    constructor
    . intro e h
      have := pm e
      simp only [List.mem_append, List.mem_cons] at *
      grind
    . intro x
      have := pt.c x
      simp only [keys, List.map_append, List.map_cons, List.count_append, List.count_cons] at *
      omega
theorem RpA.set {v : V} {d : M.D} (zd : Fz K F T v d) : ∀ {os : List M.O} {vs : List V} {f2 : Fp} (j : Nat), RpA K F T vs os f2 -> ∃ f2', RpA K F T (vs.set j v) (os.set j (.fz d)) f2' /\ Part f2' f2
  | [], _, _, _, .nil => ⟨[], .nil, .refl⟩
  | o :: os, _, _, 0, .cons r0 r => ⟨_, RpA.cons (fp := []) (.fz zd) r, .right .refl⟩
  | o :: os, _, _, j + 1, .cons r0 r => by
    obtain ⟨f2', q1, q2⟩ := RpA.set zd j r
    exact ⟨_, .cons r0 q1, .app .refl q2⟩
theorem RpA.set' {v : V} {d : M.D} {vs : List V} {os : List M.O} {fp : Fp} (h : RpA K F T vs os fp) (j : Nat) (zd : Fz K F T v d) : ∃ f2', RpA K F T (vs.set j v) (os.set j (.fz d)) f2' /\ Part f2' fp := RpA.set zd j h
theorem sa' {w w' : M.W} {x k d : M.D} (h : M.sb' w x k d = some w') : ∃ n z os j, x = .obj n /\ k = .int z /\ w[n]? = some (.lst os) /\ M.ixn os.length z = some j /\ w' = w.set n (.lst (os.set j (.fz d))) := by
  unfold M.sb' at h
  split at h
  . rename_i n z
    split at h
    . rename_i os e
      cases q : M.ixn os.length z with
      | none => rw [q] at h; cases h
      | some j =>
        rw [q] at h
        cases h
        exact ⟨n, z, os, j, rfl, rfl, e, q, rfl⟩
    . cases h
  . cases h
theorem sV' {ma mb : M.ME} (h : qE K W (M.jd' ma mb) σ H Q) : tOp (rIx K) (qE K W ma) (qE K W mb) σ H Q := by
  obtain ⟨ρ, F, T, fr, rel, h⟩ := h
  refine az' rel h fun dx ρ1 v H1 F1 T1 e1 z1 r1 h1 => ?_
  refine az' r1 h1 fun dy ρ2 u H2 F2 T2 e2 z2 r2 h2 => ?_
  obtain ⟨dz, ez, q⟩ := aU'.ofO h2
  by_cases ho : ∃ n, dx = .obj n
  . obtain ⟨n, rfl⟩ := ho
    cases e : ρ2.w[n]? with
    | none => simp only [M.ixW, e] at ez; cases ez
    | some ob =>
      cases ob with
      | lst os =>
        simp only [M.ixW, e] at ez
        obtain ⟨a, vs, f2, h3, h4, h5, _⟩ := r2.wlist e
        cases z1.mono e2 with
        | obj t =>
          rw [h3] at t
          cases t
          cases dy <;> try (cases ez; done)
          rename_i i
          cases z2
          unfold M.ixO at ez
          cases e6 : M.ati os i with
          | none => simp only [e6] at ez; cases ez
          | some o =>
            cases o <;> simp only [e6] at ez <;> try (cases ez; done)
            cases ez
            obtain ⟨v', h7, h8⟩ := h5.ati e6
            exact .inl ⟨_, vs, i, v', rfl, rfl, SqL.of h4, h7, q v' H2 F2 T2 (e1.trans e2) h8 r2⟩
      | dct ks vs => simp only [M.ixW, e] at ez; cases ez
      | dcx ks vs => simp only [M.ixW, e] at ez; cases ez
      | ins C fs => simp only [M.ixW, e] at ez; cases ez
  . have ez' : M.pIx dx dy = some dz := by
      cases dx <;> first | exact ez | exact absurd ⟨_, rfl⟩ ho
    obtain ⟨fp, f2, back⟩ := r2.fp
    exact e8' f2 (z1.mono e2) z2 ez' fun v' H3 F3 s zz f3 => q v' H3 F3 T2 (e1.trans (e2.trans (.of s))) zz (back H3 F3 s f3)
end
section
variable {X : Cx} {W : WX} {pos tpos : Pos} {a b o i : Expr} {ma mb mo mi : M.ME} {as : M.MA} {es : List Expr} {σ : St} {H : Hp} {Q : VK}
theorem cT' (ha : SE X W a ma) (hb : SE X W b mb) (hs : PlainIx b) : SE X W (.Subscript a b pos) (M.jd' ma mb) := PE.imp (pe_ix ix_seq ha hb hs) fun _ _ _ h => sV' h
theorem gw' (ha : SE X W a ma) (ho : SE X W o mo) (hi : SE X W i mi)
    (hst : ∀ v, assign (.Subscript o i tpos) X.env v = (do
      let ov ← holding [v] (eval o X.env)
      let iv ← holding [v, ov] (eval i X.env)
      standAt tpos
      holding [v, ov, iv] (setItem ov iv v)
      release [v, ov, iv] []) := by intro _; rfl)
    (hs : swapsWithSole [.Subscript o i tpos] a pos.line X.env = pure false := by rfl) (hw : swappedStores [.Subscript o i tpos] a X.env = pure none := by rfl)
    (h1 : (assignEach [.Subscript o i tpos] X.env).map (·.2) = [assign (.Subscript o i tpos) X.env] := by rfl) : SS X W (.Assign [.Subscript o i tpos] a pos) (M.iz' mo mi ma) :=
  PS.imp (ps_asg ha (pg_sub ho hi set_list hst) hs hw h1) fun D σ H ⟨ρ, F, T, fr, rel, h⟩ => by
    refine dt' rel h fun d ρ1 v H1 F1 T1 e1 z1 r1 h1 => ?_
    refine dt' r1 h1 fun dx ρ2 u H2 F2 T2 e2 z2 r2 h2 => ?_
    refine dt' r2 h2 fun dk ρ3 t H3 F3 T3 e3 z3 r3 h3 => ?_
    cases es : M.sb' ρ3.w dx dk d with
    | none => rw [es] at h3; exact h3.elim
    | some w' =>
      rw [es] at h3
      obtain ⟨n, z, os, j, rfl, rfl, e, ej, rfl⟩ := sa' es
      cases z3
      obtain ⟨p, vs, f2, h4, h5, h6, back⟩ := r3.wlist e
      cases z2.mono e3 with
      | obj t =>
        rw [h4] at t
        cases t
        have ej' : ixN vs.length z = some j := by rw [h6.length]; exact ej
        obtain ⟨f2', q1, q2⟩ := h6.set' j ((z1.mono e2).mono e3)
        exact ⟨p, vs, z, j, rfl, rfl, h5, ej', h3 σ _ F3 T3 .refl (back _ _ f2' fr q1 (.app q2 .refl))⟩
theorem xy' (h : SA X W es as) : SO X W (.List es pos) (M.ya' as) := PE.imp (pe_lst h) fun σ H Q ⟨ρ, F, T, fr, rel, h⟩ => by
  refine dv' rel h fun ds ρ1 vs H1 F1 T1 e1 z1 r1 h1 => ?_
  split at h1
  . rename_i hl
    refine ⟨by rw [z1.length, bL']; exact hl, fun p hp => ?_⟩
    obtain ⟨fe, fw, re, rw, f⟩ := r1
    have eT : Ext F1 T1 F1 (T1 ++ [p]) := ⟨fun _ _ h => .inl h, ⟨[p], rfl⟩⟩
    have hn : (T1 ++ [p])[ρ1.w.length]? = some p := by rw [<- rw.len, List.getElem?_append_right (Nat.le_refl _), Nat.sub_self]; rfl
    have app : ∀ {l : List Addr} {w : M.W} {fw : Fp}, RpW X.K F1 T1 l w fw -> ∃ fw', RpW X.K F1 (T1 ++ [p]) (l ++ [p]) (w ++ [.lst (ds.map .fz)]) fw' /\ Part fw' ((p, .lst vs) :: fw) := by
      intro l w fw r
      induction r with
      | nil => exact ⟨_, RpW.cons (RpOb.lst (RpA.of_fz (z1.mono eT))) .nil, by simp only [List.append_nil]; exact .refl⟩
      | @cons a l ob w fa fb r0 r ih =>
        obtain ⟨fw', q1, q2⟩ := ih
        refine ⟨fa ++ fw', .cons (r0.mono eT) q1, ?_⟩
        have p1 : Part (fa ++ fw') (fa ++ ((p, .lst vs) :: fb)) := .app .refl q2
        refine p1.trans ?_
        constructor
        . intro e h
          simp only [List.mem_append, List.mem_cons] at *
          grind
        . intro x
          simp only [keys, List.map_append, List.map_cons, List.count_append, List.count_cons] at *
          omega
    obtain ⟨fw', q1, q2⟩ := app rw
    refine h1 (.ref p) (upd H1 p (.lst vs)) F1 (T1 ++ [p]) [] (e1.trans eT) (.fz (.obj hn)) ⟨fe, fw', re.mono eT, q1, ?_⟩
    refine (f.own hp).part ?_
    have p1 : Part (fe ++ (fw' ++ ([] ++ fr))) (fe ++ (((p, .lst vs) :: fw) ++ fr)) := .app .refl (.app q2 .nilL)
    refine p1.trans ?_
    constructor
    . intro e h
      simp only [List.mem_append, List.mem_cons] at *
      grind
    . intro x
      simp only [keys, List.map_append, List.map_cons, List.count_append, List.count_cons] at *
      omega
  . exact h1.elim
theorem gy' {n : Nat} (hv : PE X a (tVar n)) (hb : SE X W b mb) (hs : PlainIx b) : SE X W (.Subscript a b pos) (M.rr' n mb) := PE.imp (pe_ix ix_seq hv hb hs) fun σ H Q ⟨ρ, F, T, fr, rel, h⟩ => by
  unfold M.rr' at h
  split at h
  . rename_i o0 e0
    obtain ⟨fe, fw, re, rw, f⟩ := id rel
    obtain ⟨v, h1⟩ := re.val e0
    refine ⟨v, h1, az' rel h fun dk ρ1 u H1 F1 T1 e1 z1 r1 h2 => ?_⟩
    split at h2
    . rename_i o e2
      obtain ⟨dz, ez, q⟩ := aU'.ofO h2
      obtain ⟨fe', fw', re', rw', f'⟩ := id r1
      obtain ⟨v', f1', f2', f3', h1', rfl, h3', _⟩ := re'.get e2 (M.do' (fun z => by rw [z] at ez; exact nomatch (show (none : Option M.D) = some dz from ez)) fun z => by rw [z] at ez; exact nomatch (show (none : Option M.D) = some dz from ez))
      rw [h1] at h1'
      cases h1'
      cases h3' with
      | fz z =>
        obtain ⟨fx, f4, back⟩ := r1.fp
        exact e8' f4 z z1 ez fun v' H3 F3 s zz f3 => q v' H3 F3 T1 (e1.trans (.of s)) zz (back H3 F3 s f3)
      | @lst p vs os fp0 r =>
        cases dk <;> try (cases ez; done)
        rename_i i
        cases z1
        unfold M.ixO at ez
        cases e6 : M.ati os i with
        | none => simp only [e6] at ez; cases ez
        | some o =>
          cases o <;> simp only [e6] at ez <;> try (cases ez; done)
          cases ez
          obtain ⟨v', h7, h8⟩ := r.ati e6
          exact .inl ⟨p, vs, i, v', rfl, rfl, SqL.of (f'.at_ (p, .lst vs) (by simp)).1, h7, q v' H1 F1 T1 e1 h8 r1⟩
      | @tup p vs os fp0 r =>
        cases dk <;> try (cases ez; done)
        rename_i i
        cases z1
        unfold M.ixO at ez
        cases e6 : M.ati os i with
        | none => simp only [e6] at ez; cases ez
        | some o =>
          cases o <;> simp only [e6] at ez <;> try (cases ez; done)
          cases ez
          obtain ⟨v', h7, h8⟩ := r.ati e6
          exact .inr (.inl ⟨p, vs, i, v', rfl, rfl, SqT.of (f'.at_ (p, .tup vs) (by simp)).1, h7, q v' H1 F1 T1 e1 h8 r1⟩)
      | dct _ r => cases dk <;> cases ez
      | dcl _ r => cases dk <;> cases ez
      | dcn _ _ r => cases dk <;> cases ez
    . exact h2.elim
  . exact h.elim
theorem q3' {K : PySem.W.Frag} {n : Nat} (h : qE K W (M.cD' n) σ H Q) : tCB (vm' K) (tCons (tVar n) tNil) σ H Q := by
  obtain ⟨ρ, F, T, fr, rel, h⟩ := h
  unfold M.cD' at h
  split at h
  . rename_i o e
    obtain ⟨dz, ez, q⟩ := aU'.ofO h
    obtain ⟨fe, fw, re, rw, f⟩ := id rel
    obtain ⟨v, f1, f2, f3, h1, rfl, h3, _⟩ := re.get e (M.do' (fun z => by rw [z] at ez; exact nomatch (show (none : Option M.D) = some dz from ez)) fun z => by rw [z] at ez; exact nomatch (show (none : Option M.D) = some dz from ez))
    refine ⟨v, h1, ?_⟩
    cases h3 with
    | fz z =>
      exact dh' f z ez fun v' H3 F3 s zz f3 => q v' H3 F3 T (.of s) zz ⟨_, fw, re.mono (.of s), rw.mono (.of s), f3⟩
    | @lst p vs os fp0 r =>
      cases ez
      refine .inl (.inr (.inl ⟨p, vs, rfl, .inl (SqL.of (f.at_ (p, .lst vs) (by simp)).1), ?_⟩))
      rw [r.length]
      exact q _ H F T .refl (.int _) rel
    | @tup p vs os fp0 r =>
      cases ez
      refine .inl (.inr (.inl ⟨p, vs, rfl, .inr (SqT.of (f.at_ (p, .tup vs) (by simp)).1), ?_⟩))
      rw [r.length]
      exact q _ H F T .refl (.int _) rel
    | @dct p kvs os fp0 _ r =>
      cases ez
      refine .inl (.inr (.inr ⟨p, kvs, rfl, .inl (f.at_ (p, .dK kvs) (by simp)).1, q _ H F T .refl ?_ rel⟩))
      rw [List.length_map]
      exact .int _
    | @dcl p kvs ks os fp0 ke r =>
      cases ez
      have e2 : kvs.length = ks.length := by have := congrArg List.length ke.e; simpa using this
      refine .inr (.inl ⟨p, kvs, rfl, .inl (f.at_ (p, dcL p kvs) (by simp)).1, q _ H F T .refl ?_ rel⟩)
      rw [e2]
      exact .int _
    | @dcn p xs ks os fp0 ke z r =>
      cases ez
      have e2 : xs.length = ks.length := by have := congrArg List.length ke.e; simpa using this
      refine .inr (.inr ⟨p, xs, rfl, .inl (f.at_ (p, dcN p xs) (by simp)).1, q _ H F T .refl ?_ rel⟩)
      rw [e2]
      exact .int _
  . exact h.elim
theorem bH' {n : Nat} {x : Str} {p : Pos} (hwd : X.prog = Wd.P /\ X.w = Wd.w) (hg : Gl X x) (hm : X.mg x = none) (hv : bootBuiltins x = some (.builtin "len")) (ha : PE X a (tVar n)) (hn : x ≠ "__name__" := by decide) (hdb : (x == ("__debug__" : Str)) = false := by decide)
    (he : starEach [a] X.env = (false, eval a X.env) :: starEach [] X.env := by rfl) (hpl : (backTo pos (starEach [] X.env)).any (·.1) = false := by rfl) : SE X W (.Call (.Name x p) [a] [] pos) (M.cD' n) := PE.imp (pe_callB (aV' hwd) hg hm hv (pa_cons ha pa_nil he) hn hdb he hpl) fun _ _ _ => q3'
end
end S
namespace S
open PySem PySem.Spec PyProof.Rows L2
variable [Wd] [Hot]
local macro_rules | `(tactic| walk_at "parts") => `(tactic| (constructor; (intro e h; simp only [List.mem_append, List.mem_cons, List.not_mem_nil] at *; grind); (intro x; simp only [keys, List.map_append, List.map_cons, List.map_nil, List.count_append, List.count_cons, List.count_nil] at *; omega)))
theorem fN' {a b : String} (h : Str.ofString a = Str.ofString b) : a = b := by
  rw [Str.ofString_eq_toList, Str.ofString_eq_toList] at h
  have h2 : a.toList.map Char.toNat = b.toList.map Char.toNat := by
    have := congrArg (fun z : Str => z.cps.toList) h
    simpa using this
  have h3 : a.toList = b.toList := by
    have inj : ∀ (x y : List Char), x.map Char.toNat = y.map Char.toNat -> x = y := by
      intro x
      induction x with
      | nil => intro y h; cases y with
        | nil => rfl
        | cons _ _ => cases h
      | cons c x ih => intro y h; cases y with
        | nil => cases h
        | cons d y =>
          rw [List.map_cons, List.map_cons] at h
          injection h with h1 h2
          rw [ih y h2, show c = d from Char.toNat_inj.mp h1]
    exact inj _ _ h2
  exact String.toList_inj.mp h3
section
variable {K : PySem.W.Frag} {F F' H H' : Hp} {T T' : List Addr} {fp fq fr : Fp} {ρ : M.PSt} {σ : St} {W : WX} {Q : VK}
abbrev rR' (q : String × V) : Str × V := (Str.ofString q.1, q.2)
theorem qX' (f : String) : ∀ fv : List (String × V), (fv.map rR').lookup (Str.ofString f) = fv.lookup f
  | [] => rfl
  | (g, v) :: r => by
    rw [List.map_cons]
    by_cases h : f = g
    . subst h
      show List.lookup _ ((Str.ofString f, v) :: _) = _
      rw [List.lookup_cons_self, List.lookup_cons_self]
    . have h1 : (f == g) = false := by simpa using h
      have h2 : (Str.ofString f == Str.ofString g) = false := by
        rw [beq_eq_false_iff_ne]
        exact fun e => h (fN' e)
      show List.lookup _ ((Str.ofString g, v) :: _) = _
      simp only [List.lookup, h1, h2]
      exact qX' f r
theorem RpA.lookup {f : String} {o : M.O} : ∀ {fv : List (String × V)} {os : List M.O} {fp : Fp}, RpA K F T (fv.map (·.2)) os fp -> ((fv.map (·.1)).zip os).lookup f = some o →
    ∃ v f1 f2 f3, fv.lookup f = some v /\ fp = f1 ++ (f2 ++ f3) /\ Rp K F T v o f2
  | [], _, _, r, h => by cases r; cases h
  | (g, v) :: fv, _, _, r, h => by
    cases r with
    | @cons _ _ o1 os fp fq r0 r =>
      rw [List.map_cons, List.zip_cons_cons] at h
      by_cases e : f = g
      . subst e
        rw [List.lookup_cons_self] at h
        cases h
        exact ⟨v, [], fp, fq, List.lookup_cons_self, rfl, r0⟩
      . have h1 : (f == g) = false := by simpa using e
        simp only [List.lookup, h1] at h
        obtain ⟨v', f1, f2, f3, e1, e2, e3⟩ := RpA.lookup r h
        refine ⟨v', fp ++ f1, f2, f3, ?_, by rw [e2, List.append_assoc], e3⟩
        simp only [List.lookup, h1]
        exact e1
theorem qY' {f : String} : ∀ {fv : List (String × V)} {os : List M.O}, fv.length = os.length -> ((fv.map (·.1)).zip os).lookup f = none -> fv.lookup f = none
  | [], _, _, _ => rfl
  | (g, v) :: fv, [], h, _ => by cases h
  | (g, v) :: fv, o :: os, hl, h => by
    rw [List.map_cons, List.zip_cons_cons] at h
    by_cases e : f = g
    . subst e
      rw [List.lookup_cons_self] at h
      cases h
    . have h1 : (f == g) = false := by simpa using e
      simp only [List.lookup, h1] at h ⊢
      exact qY' (Nat.succ.inj hl) h
def putS (f : String) (v : V) : List (String × V) -> List (String × V)
  | [] => [(f, v)]
  | (g, x) :: r => if g = f then (g, v) :: r else (g, x) :: putS f v r
theorem nh' (f : String) (v : V) : ∀ fv : List (String × V), putF (Str.ofString f) v (fv.map rR') = (putS f v fv).map rR'
  | [] => rfl
  | (g, x) :: r => by
    rw [List.map_cons]
    show (if Str.ofString g = Str.ofString f then _ else _) = _
    unfold putS
    by_cases h : g = f
    . rw [if_pos h, if_pos (by rw [h])]
      rfl
    . rw [if_neg h, if_neg (fun e => h (fN' e)), nh' f v r]
      rfl
theorem RpA.putS {f : String} {o : M.O} {v : V} (q : Rp K F T v o fq) : ∀ {fv : List (String × V)} {os : List M.O} {fp : Fp}, RpA K F T (fv.map (·.2)) os fp →
    ∃ os' fp', M.qz' f o ((fv.map (·.1)).zip os) = ((S.putS f v fv).map (·.1)).zip os' /\ RpA K F T ((S.putS f v fv).map (·.2)) os' fp' /\ Part fp' (fq ++ fp)
  | [], _, _, r => by
    cases r
    exact ⟨[o], fq ++ [], rfl, .cons q .nil, by walk_at "parts"⟩
  | (g, x) :: fv, _, _, r => by
    cases r with
    | @cons _ _ o1 os fp fp2 r0 r =>
      unfold S.putS
      by_cases h : g = f
      . refine ⟨o :: os, fq ++ fp2, ?_, ?_, by walk_at "parts"⟩
        . rw [if_pos h, List.map_cons, List.zip_cons_cons]
          show (if g = f then _ else _) = _
          rw [if_pos h, List.map_cons, List.zip_cons_cons]
        . rw [if_pos h]
          exact .cons q r
      . obtain ⟨os', fp', h1, h2, h3⟩ := RpA.putS q r
        refine ⟨o1 :: os', fp ++ fp', ?_, ?_, ?_⟩
        . rw [if_neg h, List.map_cons, List.zip_cons_cons]
          show (if g = f then _ else _) = _
          rw [if_neg h, h1, List.map_cons, List.zip_cons_cons]
        . rw [if_neg h]
          exact .cons r0 h2
        . have h4 : Part (fp ++ fp') (fp ++ (fq ++ fp2)) := .app .refl h3
          refine h4.trans ?_
          walk_at "parts"
theorem Rel.wins (rel : Rel K ρ σ H F T fr) {n : Nat} {C : String} {fs : List (String × M.O)} (h : ρ.w[n]? = some (.ins C fs)) :
    ∃ (a dx : Addr) (fv : List (String × V)) (os : List M.O) (f2 : Fp), T[n]? = some a /\ fs = (fv.map (·.1)).zip os /\ H a = some (.ins (He.ga K C) dx (fv.map rR')) /\ RpA K F T (fv.map (·.2)) os f2 ∧
    (∃ f0, FpH F H ((a, .ins (He.ga K C) dx (fv.map rR')) :: (f2 ++ f0))) ∧
    ∀ (fv' : List (String × V)) (os' : List M.O) (f2' fr' : Fp), RpA K F T (fv'.map (·.2)) os' f2' -> Part (f2' ++ fr') (f2 ++ fr) -> Rel K ⟨ρ.env, ρ.w.set n (.ins C ((fv'.map (·.1)).zip os'))⟩ σ (upd H a (.ins (He.ga K C) dx (fv'.map rR'))) F T fr' := by
  obtain ⟨fe, fw, re, rw, f⟩ := rel
  obtain ⟨a, f1, f2, f3, h1, rfl, h3, h4⟩ := rw.get h
  generalize eo : M.Ob.ins C fs = ob at h3
  cases h3 with
  | lst r => cases eo
  | dct _ r => cases eo
  | dcl _ r => cases eo
  | dcn _ _ r => cases eo
  | @ins dx C' fv os fp0 hd r =>
    cases eo
    have fA : FpH F H ((fe ++ f1) ++ ((a, .ins (He.ga K C) dx (fv.map rR')) :: (f3 ++ (fp0 ++ fr)))) := f.part (by walk_at "parts")
    refine ⟨a, dx, fv, os, fp0, h1, rfl, (f.at_ (a, .ins (He.ga K C) dx (fv.map rR')) (by simp)).1, r, ⟨fe ++ (f1 ++ (f3 ++ fr)), fA.part (by walk_at "parts")⟩, fun fv' os' f2' fr' r' pt => ?_⟩
    have e5 := h4 F T (.ins C ((fv'.map (·.1)).zip os')) ((a, .ins (He.ga K C) dx (fv'.map rR')) :: f2') .refl (.ins hd r')
    refine ⟨fe, _, re, e5, ?_⟩
    have fB := fA.write (o' := .ins (He.ga K C) dx (fv'.map rR'))
    refine fB.part ?_
    have pm := pt.m
    constructor
    . intro e h
      have := pm e
      simp only [List.mem_append, List.mem_cons] at *
      grind
    . intro x
      have := pt.c x
      simp only [keys, List.map_append, List.map_cons, List.count_append, List.count_cons] at *
      omega
theorem s7' {cs : List String} {f : String} {w : M.W} {x d : M.D} (h : M.gZ' cs f w x = some d) : ∃ n C fs, x = .obj n /\ w[n]? = some (.ins C fs) /\ C ∈ cs /\ fs.lookup f = some (.fz d) := by
  unfold M.gZ' at h
  split at h
  . rename_i n
    split at h
    . rename_i C fs e
      split at h
      . rename_i hC
        split at h
        . rename_i d' e2
          cases h
          exact ⟨n, C, fs, rfl, e, hC, e2⟩
        . cases h
      . cases h
    . cases h
  . cases h
theorem s6' {cs : List String} {f : String} {ma : M.ME} (hC : ∀ C ∈ cs, Cls K (He.ga K C) /\ NoAttr K (He.ga K C) (Str.ofString f)) (h : qE K W (M.en' cs ma f) σ H Q) : tFld K (qE K W ma) (Str.ofString f) σ H Q := by
  obtain ⟨ρ, F, T, fr, rel, h⟩ := h
  refine az' rel h fun dx ρ1 v H1 F1 T1 e1 z1 r1 h1 => ?_
  obtain ⟨d, ed, q⟩ := aU'.ofO h1
  obtain ⟨n, C, fs, rfl, ew, hm, el⟩ := s7' ed
  obtain ⟨a, dx, fv, os, f2, hT, rfl, hH, r, _, _⟩ := r1.wins ew
  obtain ⟨v', _, _, _, e2, _, e3⟩ := r.lookup el
  cases z1 with
  | obj t =>
    rw [hT] at t
    cases t
    cases e3 with
    | fz z => exact ⟨a, _, dx, _, v', rfl, hH, (hC C hm).1, (hC C hm).2, by rw [qX']; exact e2, q v' H1 F1 T1 e1 z r1⟩
theorem qn' {K : PySem.W.Frag} {w : M.W} {fr' : Fp} (r : rX' K w H F T fr) (p : Part fr' fr) : rX' K w H F T fr' := by
  obtain ⟨fe, fw, re, rw, f⟩ := r
  exact ⟨fe, fw, re, rw, f.part (.app .refl (.app .refl p))⟩
theorem bF'.frame {D : Ends} {r : M.Out} (h : bF' K W D F T fr r) (p : Part fr fq) : bF' K W D F T fq r := by
  cases r with
  | nx ρ => exact fun σ' H' F' T' e r => h σ' H' F' T' e (r.part p)
  | bk ρ => exact fun σ' H' F' T' e r => h σ' H' F' T' e (r.part p)
  | ct ρ => exact fun σ' H' F' T' e r => h σ' H' F' T' e (r.part p)
  | rt o w => exact fun v H' F' T' fp e z r => h v H' F' T' fp e z (qn' r (.app .refl p))
  | exc x ρ => exact fun σ' cls dd H' F' T' e z r => h σ' cls dd H' F' T' e z (r.part p)
  | bad => exact h
theorem EX.frame {x : M.Exc} (h : EX K W σ F T fr x ρ) (p : Part fr fq) : EX K W σ F T fq x ρ := fun cls dd H' F' T' e z r => h cls dd H' F' T' e z (r.part p)
theorem so' {D : Ends} {m : M.ME} {k : M.D -> M.PSt -> M.Out} (rel : Rel K ρ σ H F T (fp ++ fr)) (h : bF' K W D F T fr ((m ρ).out k))
    (q : ∀ d ρ1 v H1 F1 T1, Ext F T F1 T1 -> Fz K F1 T1 v d -> Rel K ρ1 σ H1 F1 T1 (fp ++ fr) -> bF' K W D F1 T1 fr (k d ρ1) -> Q v H1) : qE K W m σ H Q :=
  ⟨ρ, F, T, fp ++ fr, rel, (eK' h).mono (fun d ρ1 h1 v H1 F1 T1 e z r => q d ρ1 v H1 F1 T1 e z r (h1.mono e)) fun _ _ z => z.frame (.right .refl)⟩
theorem u4' {cs : List String} {f : String} {o : M.O} {w w' : M.W} {x : M.D} (h : M.stF cs f o w x = some w') : ∃ n C fs, x = .obj n /\ w[n]? = some (.ins C fs) /\ C ∈ cs /\ fs.length < 1000 /\ w' = w.set n (.ins C (M.qz' f o fs)) := by
  unfold M.stF at h
  split at h
  . rename_i n
    split at h
    . rename_i C fs e
      split at h
      . rename_i hC
        cases h
        exact ⟨n, C, fs, rfl, e, hC.1, hC.2, rfl⟩
      . cases h
    . cases h
  . cases h
theorem p6' {cs : List String} {f : String} {ma : M.ME} {mo : M.MO} {D : Ends} (hC : ∀ C ∈ cs, Cls K (He.ga K C) /\ NoAttr K (He.ga K C) (Str.ofString f)) (h : qS K W (M.sFld cs ma f mo) D σ H) : sFld K (qE K W ma) (qO K W mo) (Str.ofString f) D σ H := by
  obtain ⟨ρ, F, T, fr, rel, h⟩ := h
  refine gB' rel h fun o ρ1 y H1 F1 T1 fp e1 z1 r1 h1 => ?_
  refine so' r1 h1 fun d ρ2 x H2 F2 T2 e2 z2 r2 h2 => ?_
  cases es : M.stF cs f o ρ2.w d with
  | none => rw [es] at h2; exact h2.elim
  | some w' =>
    rw [es] at h2
    obtain ⟨n, C, fs, rfl, ew, hm, hl, rfl⟩ := u4' es
    obtain ⟨a, dx, fv, os, f2, hT, rfl, hH, r, _, back⟩ := r2.wins ew
    cases z2 with
    | obj t =>
      rw [hT] at t
      cases t
      obtain ⟨os', fp', p1, p2, p3⟩ := RpA.putS (z1.mono e2) r (f := f)
      have hlen := r.length
      rw [List.length_map] at hlen
      rw [List.length_zip, List.length_map, hlen, Nat.min_self] at hl
      refine ⟨a, _, dx, _, rfl, hH, (hC C hm).1, (hC C hm).2, by rw [List.length_map, hlen]; exact hl, ?_⟩
      rw [nh']
      refine h2 σ _ F2 T2 .refl ?_
      show Rel K ⟨ρ2.env, ρ2.w.set n (.ins C (M.qz' f o _))⟩ σ _ F2 T2 fr
      rw [p1]
      refine back _ _ fp' fr p2 ?_
      have h4 : Part (fp' ++ fr) ((fp ++ f2) ++ fr) := .app p3 .refl
      refine h4.trans ?_
      walk_at "parts"
theorem RpW.snoc {a : Addr} {ob : M.Ob} {fb : Fp} (q : RpOb K F T a ob fb) {l : List Addr} {w : M.W} {fw : Fp} (r : RpW K F T l w fw) : ∃ fw', RpW K F T (l ++ [a]) (w ++ [ob]) fw' /\ Part fw' (fb ++ fw) := by
  induction r with
  | nil => exact ⟨_, RpW.cons q .nil, by walk_at "parts"⟩
  | @cons a l ob w fa fb' r0 r ih =>
    obtain ⟨fw', q1, q2⟩ := ih
    refine ⟨fa ++ fw', .cons r0 q1, ?_⟩
    have p1 : Part (fa ++ fw') (fa ++ (fb ++ fb')) := .app .refl q2
    refine p1.trans ?_
    walk_at "parts"
theorem Rel.reenv {env : List (Option M.O)} {fe : Fp} {w' : M.W} {F0 : Hp} {T0 : List Addr} (re : RpE K F0 T0 σ env fe) (e : Ext F0 T0 F T) (r : rX' K (w') H F T (fp ++ (fe ++ fr))) : Rel K ⟨env, w'⟩ σ H F T (fp ++ fr) := by
  obtain ⟨fe', fw', re', rw', f'⟩ := r
  cases re'
  exact ⟨fe, fw', re.mono e, rw', f'.part (by walk_at "parts")⟩
theorem qU' {C : String} {init : M.MF} {as : M.MA} (h : qO K W (M.j4' C init as) σ H Q) : tU' (He.ga K C) (spM K init) (WE W) (qA K W as) σ H Q := by
  obtain ⟨ρ, F, T, fr, rel, h⟩ := h
  refine dv' rel h fun ds ρ1 vs H1 F1 T1 e1 z1 r1 h1 => ?_
  intro x dx hx hdx hne
  obtain ⟨fe, fw, re, rw', f⟩ := r1
  have s1 : Same F1 (upd F1 dx (.own x)) := cJ' (f.free hdx)
  have eT : Ext F1 T1 (upd F1 dx (.own x)) (T1 ++ [x]) := ⟨.of s1, ⟨[x], rfl⟩⟩
  have hn : (T1 ++ [x])[ρ1.w.length]? = some x := by rw [<- rw'.len, List.getElem?_append_right (Nat.le_refl _), Nat.sub_self]; rfl
  have qi : RpOb K (upd F1 dx (.own x)) (T1 ++ [x]) x (.ins C []) [(x, .ins (He.ga K C) dx [])] := RpOb.ins (fs := []) (os := []) (fp := []) upd_same .nil
  obtain ⟨fw', q1, q2⟩ := RpW.snoc qi (rw'.mono eT)
  have f1 : FpH (upd F1 dx (.own x)) (upd (upd H1 dx (.own x)) x (.ins (He.ga K C) dx [])) ((x, .ins (He.ga K C) dx []) :: (fe ++ (fw ++ fr))) := (f.new hdx).own (by rw [upd_ne (Ne.symm hne)]; exact hx)
  refine ⟨.obj ρ1.w.length :: ds, ρ1.w ++ [.ins C []], _, _, fe ++ fr, .cons (.obj hn) (z1.mono eT), ⟨[], fw', wU', q1, f1.part ?_⟩, ?_⟩
  . have p1 : Part ([] ++ (fw' ++ (fe ++ fr))) ([] ++ (([(x, .ins (He.ga K C) dx [])] ++ fw) ++ (fe ++ fr))) := .app .refl (.app q2 .refl)
    refine p1.trans ?_
    walk_at "parts"
  . cases em : init (.obj ρ1.w.length :: ds) (ρ1.w ++ [.ins C []]) with
    | bad => rw [em] at h1; exact h1.elim
    | ok o w' =>
      rw [em] at h1
      intro v H' F' T' fp e z r
      cases z with
      | fz z =>
        rename_i d
        cases d <;> try exact h1.elim
        refine ⟨z.non_inv, h1 (.ref x) H' F' T' [] (e1.trans (eT.trans e)) (.fz (.obj (e.get hn))) ?_⟩
        exact Rel.reenv (re.mono eT) e r
      | lst _ => exact h1.elim
      | tup _ => exact h1.elim
      | dct _ _ => exact h1.elim
      | dcl _ _ => exact h1.elim
      | dcn _ _ _ => exact h1.elim
    | exc x w' =>
      rw [em] at h1
      intro cls dd H' F' T' e z r
      refine h1 cls dd H' F' T' (eT.trans e) z ?_
      exact Rel.reenv (fp := []) (re.mono eT) e r
theorem rg' {cs : List String} {m : String} {w : M.W} {x : M.D} (h : M.iU' cs m w x = true) : ∃ C n fs, C ∈ cs /\ x = .obj n /\ w[n]? = some (.ins C fs) /\ fs.lookup m = none := by
  unfold M.iU' at h
  split at h
  . rename_i n
    split at h
    . rename_i C' fs e
      rw [Bool.and_eq_true, decide_eq_true_eq, Option.isNone_iff_eq_none] at h
      exact ⟨C', n, fs, h.1, rfl, e, h.2⟩
    . cases h
  . cases h
theorem j8' {cs : List String} {m : String} {mf : M.MF} {ma : M.ME} {as : M.MA} (h : qO K W (M.fq' cs m mf ma as) σ H Q) : pU' K cs (Str.ofString m) (spM K mf) (WE W) (qE K W ma) (qA K W as) σ H Q := by
  obtain ⟨ρ, F, T, fr, rel, h⟩ := h
  refine az' rel h fun dx ρ1 v H1 F1 T1 e1 z1 r1 h1 => ?_
  split at h1
  . rename_i hi
    obtain ⟨C, n, fs, hC, rfl, ew, el⟩ := rg' hi
    obtain ⟨a, dx, fv, os, f2, hT, rfl, hH, r, _, _⟩ := r1.wins ew
    cases id z1 with
    | obj t =>
      rw [hT] at t
      cases t
      have hlen := r.length
      rw [List.length_map] at hlen
      refine ⟨C, hC, a, dx, _, rfl, hH, by rw [qX']; exact qY' hlen el, ?_⟩
      refine dv' r1 h1 fun ds ρ2 vs H2 F2 T2 e2 z2 r2 h2 => ?_
      obtain ⟨fe, fw, re, rw', f⟩ := r2
      refine ⟨.obj n :: ds, ρ2.w, F2, T2, fe ++ fr, .cons (z1.mono e2) z2, ⟨[], fw, wU', rw', f.part (by walk_at "parts")⟩, ?_⟩
      cases em : mf (.obj n :: ds) ρ2.w with
      | bad => rw [em] at h2; exact h2.elim
      | ok o w' =>
        rw [em] at h2
        exact fun v H' F' T' fp e z r => h2 v H' F' T' fp (e1.trans (e2.trans e)) z (Rel.reenv re e r)
      | exc x w' =>
        rw [em] at h2
        exact fun cls dd H' F' T' e z r => h2 cls dd H' F' T' e z (Rel.reenv (fp := []) re e r)
  . exact h1.elim
end
section
variable {X : Cx} {W : WX} {pos apos p pos' : Pos} {e o value : Expr} {es : List Expr} {ma : M.ME} {mo : M.MO} {as : M.MA} {k : Nat} {x : Str} {ps : List Str} {mf : M.MF}
theorem bw' {f : String} (cs : List String) (ha : SE X W e ma) (hC : ∀ C ∈ cs, Cls X.K (He.ga X.K C) /\ NoAttr X.K (He.ga X.K C) (Str.ofString f)) (hb : attributeBase e (Str.ofString f) X.env (eval e X.env) = eval e X.env := by rfl) :
    SE X W (.Attribute e (Str.ofString f) pos) (M.en' cs ma f) := PE.imp (pe_fld ha hb) fun _ _ _ h => s6' hC h
theorem ev' {f : String} (cs : List String) (ha : SE X W o ma) (hv : SO X W value mo) (hC : ∀ C ∈ cs, Cls X.K (He.ga X.K C) /\ NoAttr X.K (He.ga X.K C) (Str.ofString f)) (hs : swapsWith value (some (.Attribute o (Str.ofString f) pos')) pos.line X.env = pure false := by rfl) :
    SS X W (.Assign [.Attribute o (Str.ofString f) pos'] value pos) (M.sFld cs ma f mo) := PS.imp (ps_fld ha hv hs) fun _ _ _ h => p6' hC h
theorem k9' {C : String} (F : OgM X.prog X.w X.K X.mg X.base k (He.ga X.K C) "__init__" ps (spM X.K mf)) (hr : RoomG (k + 1) X.A) (hg : Gl X x) (Mk' : Mk X.K (He.ga X.K C) (He.ma X.K (He.ga X.K C) "__init__")) (hm : X.mg x = some (.ref (He.ga X.K C))) (tk : Takes X W)
    (ha : SA X W (e :: es) as) (hdb : (x == ("__debug__" : Str)) = false := by decide) (he : starEach (e :: es) X.env = (false, eval e X.env) :: starEach es X.env := by rfl) (hpl : (backTo pos (starEach es X.env)).any (·.1) = false := by rfl) :
    SO X W (.Call (.Name x p) (e :: es) [] pos) (M.j4' C mf as) := PE.imp (sD' F hr hg Mk' hm tk ha hdb he hpl) fun _ _ _ h => qU' h
theorem p3' {C m : String} {cs : List String} {pl : Sem Bool} (he : SE X W o ma) (F : OgM X.prog X.w X.K X.mg X.base k (He.ga X.K C) (Str.ofString m) ps (spM X.K mf)) (hr : RoomG k X.A) (hm : i9' X.K cs (Str.ofString m) (He.ma X.K (He.ga X.K C) (Str.ofString m))) (tk : Takes X W)
    (ha : SA X W (e :: es) as)
    (hst : starEach (e :: es) X.env = (false, eval e X.env) :: starEach es X.env := by rfl) (hpl : (backTo pos (starEach es X.env)).any (·.1) = false := by rfl)
    (ht : eval (.Call (.Attribute o (Str.ofString m) apos) (e :: es) [] pos) X.env = (do
      let ov ← eval o X.env
      standAt apos.atName
      let (f, first) ← holding [ov] (getMethod ov (Str.ofString m) pl)
      callWith pos f first (backTo pos (starEach (e :: es) X.env)) (backToKw pos (keywordEach [] X.env))) := by rfl) :
    SO X W (.Call (.Attribute o (Str.ofString m) apos) (e :: es) [] pos) (M.fq' cs m mf ma as) := PE.imp (sC' he F hr hm tk ha hst hpl ht) fun _ _ _ h => j8' h
theorem ey' {C m : String} {cs : List String} {pl : Sem Bool} (he : SE X W o ma) (F : OgM X.prog X.w X.K X.mg X.base k (He.ga X.K C) (Str.ofString m) ps (spM X.K mf)) (hr : RoomG k X.A) (hm : i9' X.K cs (Str.ofString m) (He.ma X.K (He.ga X.K C) (Str.ofString m))) (tk : Takes X W)
    (ht : eval (.Call (.Attribute o (Str.ofString m) apos) [] [] pos) X.env = (do
      let ov ← eval o X.env
      standAt apos.atName
      let (f, first) ← holding [ov] (getMethod ov (Str.ofString m) pl)
      callWith pos f first (backTo pos (starEach [] X.env)) (backToKw pos (keywordEach [] X.env))) := by rfl) :
    SO X W (.Call (.Attribute o (Str.ofString m) apos) [] [] pos) (M.fq' cs m mf ma M.bk') := PE.imp (qE' he F hr hm tk ht) fun σ H Q h => by
  have h2 := j8' h
  obtain ⟨ρ, F, T, fr, rel, q⟩ := h2
  refine ⟨ρ, F, T, fr, rel, q.mono (fun d ρ1 h1 v H1 F1 T1 e z r => ?_) fun _ _ z => z⟩
  obtain ⟨C, hC, a, dx, fs, e1, e2, e3, ρ2, F2, T2, fr2, rel2, q2⟩ := h1 v H1 F1 T1 e z r
  exact ⟨C, hC, a, dx, fs, e1, e2, e3, q2 [] H1 F2 T2 .refl .nil rel2⟩
end
end S
namespace S
open PySem PySem.Spec PyProof.Rows L2
variable [Wd] [Hot]
local macro_rules | `(tactic| walk_at "parts") => `(tactic| (constructor; (intro e h; simp only [List.mem_append, List.mem_cons, List.not_mem_nil] at *; grind); (intro x; simp only [keys, List.map_append, List.map_cons, List.map_nil, List.count_append, List.count_cons, List.count_nil] at *; omega)))
section
variable {K : PySem.W.Frag} {W : WX} {Q : VK} {σ : St} {H : Hp}
theorem iV' {F : Hp} {T : List Addr} : ∀ {vs : List V} {ds : List M.D} {ns : List Int}, FzA K F T vs ds -> M.bz' ds = some ns -> vs = ns.map V.int
  | _, _, ns, .nil, h => by cases h; rfl
  | _, d :: ds, ns, .cons a r, h => by
    cases d <;> try (cases h; done)
    rename_i b
    cases q : M.bz' ds with
    | none => simp only [M.bz', q] at h; cases h
    | some cs =>
      simp only [M.bz', q, Option.map_some] at h
      cases h
      rw [a.int_inv, iV' r q]
      rfl
theorem FzA.rgI {F : Hp} {T : List Addr} : ∀ ns : List Int, FzA K F T (ns.map V.int) (ns.map M.D.int)
  | [] => .nil
  | n :: r => .cons (.int n) (FzA.rgI r)
theorem j9' : ∀ (ns : List Int) (m : Int), m ∈ ns -> (∀ y ∈ ns, y <= m) -> M.nu' ns = m
  | [x], m, h, _ => by rw [List.mem_singleton.mp h]; rfl
  | x :: y :: r, m, h, hm => by
    show max x (M.nu' (y :: r)) = m
    have ge : ∀ (l : List Int) (a : Int), l ≠ [] -> (∀ z ∈ l, z <= a) -> M.nu' l <= a := by
      intro l
      induction l with
      | nil => intro a h; exact absurd rfl h
      | cons z t ih =>
        intro a _ hz
        cases t with
        | nil => exact hz z (by simp)
        | cons u t =>
          show max z (M.nu' (u :: t)) <= a
          have := ih a (by simp) fun q hq => hz q (by simp [hq])
          have := hz z (by simp)
          omega
    have ge2 := ge (y :: r) m (by simp) fun z hz => hm z (List.mem_cons_of_mem _ hz)
    have hx := hm x List.mem_cons_self
    rcases List.mem_cons.mp h with rfl | h
    . omega
    . rw [j9' (y :: r) m h fun z hz => hm z (List.mem_cons_of_mem _ hz)]
      omega
def np' (c : Nat) : Str := ⟨#[c]⟩
def r7' (z : Str) : Nat := z.cps.toList.headD 0
theorem nj' {ys : List Str} {l : List Nat} (h : ys.Perm (l.map np')) : ∃ l' : List Nat, ys = l'.map np' /\ l'.Perm l := by
  refine ⟨ys.map r7', ?_, ?_⟩
  . rw [List.map_map]
    have : ∀ y ∈ ys, (np' ∘ r7') y = y := fun y hy => by
      obtain ⟨c, _, rfl⟩ := List.mem_map.mp (h.subset hy)
      rfl
    exact (List.map_congr_left this).trans (List.map_id ys) |>.symm
  . have := h.map r7'
    rw [List.map_map] at this
    have e : l.map (r7' ∘ np') = l := (List.map_congr_left fun c _ => rfl).trans (List.map_id l)
    rw [e] at this
    exact this
theorem n5' : ∀ (l : List Nat) (c : Nat), risingS (np' c) (l.map np') = true -> c <= l.headD c /\ sortedS (l.map np') = true
  | [], c, _ => ⟨Nat.le_refl c, rfl⟩
  | e :: l, c, h => by
    rw [List.map_cons] at h ⊢
    unfold risingS at h
    rw [Bool.and_eq_true] at h
    obtain ⟨h1, h2⟩ := h
    refine ⟨?_, h2⟩
    show c <= e
    simp [ltCps, np'] at h1
    omega
theorem fj' : ∀ l : List Nat, sortedS (l.map np') = true -> l.Pairwise (· <= ·)
  | [], _ => .nil
  | c :: l, h => by
    obtain ⟨h1, h2⟩ := n5' l c h
    have ih := fj' l h2
    refine List.pairwise_cons.mpr ⟨fun d hd => ?_, ih⟩
    cases l with
    | nil => cases hd
    | cons e t =>
      have hce : c <= e := h1
      cases hd with
      | head => exact hce
      | tail _ hd => exact Nat.le_trans hce ((List.pairwise_cons.mp ih).1 d hd)
theorem m3' {l l' : List Nat} (p : l'.Perm l) (s : l'.Pairwise (· <= ·)) : l' = M.cy' l := by
  refine List.Perm.eq_of_pairwise (le := (· <= ·)) (fun a b _ _ h1 h2 => Nat.le_antisymm h1 h2) s ?_ (p.trans (List.mergeSort_perm l _).symm)
  exact (List.pairwise_mergeSort (le := fun a b => decide (a <= b)) (fun a b c h1 h2 => decide_eq_true (Nat.le_trans (of_decide_eq_true h1) (of_decide_eq_true h2))) (fun a b => by
    rw [Bool.or_eq_true, decide_eq_true_eq, decide_eq_true_eq]; omega) l).imp fun h => of_decide_eq_true h
theorem m4' {l l' : List Int} (p : l'.Perm l) (s : l'.Pairwise (· <= ·)) : l' = M.k8' l := by
  refine List.Perm.eq_of_pairwise (le := (· <= ·)) (fun a b _ _ h1 h2 => Int.le_antisymm h1 h2) s ?_ (p.trans (List.mergeSort_perm l _).symm)
  exact (List.pairwise_mergeSort (le := fun a b => decide (a <= b)) (fun a b c h1 h2 => decide_eq_true (Int.le_trans (of_decide_eq_true h1) (of_decide_eq_true h2))) (fun a b => by
    rw [Bool.or_eq_true, decide_eq_true_eq, decide_eq_true_eq]; omega) l).imp fun h => of_decide_eq_true h
def qr' (K : PySem.W.Frag) : List V -> Hp -> VK -> Prop := fun vs H Q => jU' vs H Q \/ rSortedI K vs H Q \/ rSortedS K vs H Q
theorem ow' {X : Cx} (hc : X.calm = true) : CallR X (.builtin "sorted") (qr' X.K) := (lM' hc).or (cr_sortedI.or cr_sortedS)
theorem jM' {s : M.Tx} {c : Nat} : c ∈ M.cy' s ↔ c ∈ s := (List.mergeSort_perm s _).mem_iff
theorem no' {K : PySem.W.Frag} {F : Hp} {T : List Addr} : ∀ {vs : List V} {ds : List M.D} {cs : List Nat}, FzA K F T vs ds -> M.gL' ds = some cs -> vs = (cs.map np').map V.str /\ ∀ c ∈ cs, c < 1114112
  | _, [], _, .nil, h => by cases h; exact ⟨rfl, fun _ h => nomatch h⟩
  | _, d :: ds, cs, .cons z r, h => by
    unfold M.gL' at h
    split at h
    . rename_i e
      cases e
    . rename_i c r' e
      cases e
      obtain ⟨cs', h1, rfl⟩ := Option.map_eq_some_iff.mp h
      obtain ⟨e2, h2⟩ := no' r h1
      obtain ⟨rfl, o⟩ := z.str_inv
      refine ⟨by rw [e2]; rfl, fun c' hc => ?_⟩
      rcases List.mem_cons.mp hc with rfl | hc
      . exact o.1 _ List.mem_cons_self
      . exact h2 _ hc
    . cases h
theorem tq' : Bi1 K M.c2' (qr' K) := by
  intro F H T fp x dx dz Q f hx h k
  cases dx <;> try (cases h; done)
  . obtain ⟨rfl, o⟩ := hx.str_inv
    rename_i s
    simp only [M.c2'] at h
    split at h
    . rename_i hl
      cases h
      refine .inl ⟨_, rfl, by rw [ck']; exact hl, fun ys p H' hp hs hn s' e => ?_⟩
      obtain ⟨l', rfl, p'⟩ := nj' hp
      rw [m3' p' (fj' l' hs)] at *
      have z : FzA K F T (((M.cy' s).map np').map V.str) ((M.cy' s).map M.chD) := by
        rw [List.map_map]
        exact FzA.chars fun c hc => o.1 c (jM'.mp hc)
      have hF : F p = none := f.free hn
      have sF : Same F (upd F p (.lst (((M.cy' s).map np').map V.str))) := cJ' hF
      refine k (.ref p) H' _ sF (.lst upd_same (z.mono (.of sF))) ⟨fun a u ha => ?_, fun q hq => ?_, f.nd, f.tbs (fun a h1 h2 h3 => ?_) fun c q h => lc' sF h⟩
      . by_cases hap : a = p
        . subst hap
          rw [upd_same] at ha
          cases ha
          exact e
        . rw [upd_ne hap] at ha
          exact s' _ _ (f.low _ _ ha)
      . have np : q.1 ≠ p := ne_of_none (f.at_ q hq).1 hn
        exact ⟨s' _ _ (f.at_ q hq).1, by rw [upd_ne np]; exact (f.at_ q hq).2⟩
      . have hap : a ≠ p := fun z => h2 (by rw [z]; exact hn)
        refine ⟨by rw [upd_ne hap]; exact h1, ?_, h3⟩
        cases hh : H a with
        | none => exact absurd hh h2
        | some o => exact s' _ _ hh
    . cases h
  . obtain ⟨a, vs, rfl, ha, za⟩ := hx.lst_inv
    rename_i ds
    cases q : M.bz' ds with
    | none =>
      simp only [M.c2', q] at h
      obtain ⟨cs, h1, h2⟩ := Option.bind_eq_some_iff.mp h
      split at h2
      . rename_i hl
        cases h2
        obtain ⟨e2, hc⟩ := no' za h1
        refine .inr (.inr ⟨a, cs.map np', rfl, by rw [<- e2]; exact SqL.of (f.low _ _ ha), by rw [List.length_map]; exact hl, fun ys p hp hs hn => ?_⟩)
        obtain ⟨l', rfl, p'⟩ := nj' hp
        rw [m3' p' (fj' l' hs)]
        have z : FzA K F T (((M.cy' cs).map np').map V.str) ((M.cy' cs).map M.chD) := by
          rw [List.map_map]
          exact FzA.chars fun c hc' => hc c (jM'.mp hc')
        exact k.newL f z hn
      . cases h2
    | some ns =>
      simp only [M.c2', q] at h
      cases h
      refine .inr (.inl ⟨a, ns, rfl, by rw [<- iV' za q]; exact SqL.of (f.low _ _ ha), fun ns' p hp hs hn => ?_⟩)
      rw [m4' hp hs]
      exact k.newL f (FzA.rgI _) hn
theorem rL' (a b : M.Tx) (i : Nat) : StrLaws.At (sx a) (sx b) (sx a).length i ↔ M.uk' a b i = true := by
  rw [<- v0', Bool.and_eq_true, decide_eq_true_eq]
  exact Iff.rfl
theorem sv' {p : Nat -> Bool} {n i : Nat} (h : p i = true) (hi : i < n) (hm : ∀ k, k < i -> p k = false) : (List.range n).find? p = some i := by
  rw [List.find?_eq_some_iff_getElem]
  refine ⟨h, i, by simpa using hi, by simp, fun j hj => ?_⟩
  rw [List.getElem_range, hm j hj]
  rfl
theorem s2' (a b : M.Tx) : Txt.find (sx a) (sx b) = M.fnd (M.nE' a b) := by
  rcases find_whole (sx a) (sx b) with ⟨h1, h2⟩ | ⟨i, h1, h2, h3⟩
  . rw [h1]
    have : M.nE' a b = none := by
      unfold M.nE'
      rw [List.find?_eq_none]
      intro i _ h
      exact h2 i ((rL' a b i).mpr h)
    rw [this]
    rfl
  . rw [h1]
    have hi : M.uk' a b i = true := (rL' a b i).mp h2
    have hl : i < a.length + 1 := by
      unfold M.uk' at hi
      rw [Bool.and_eq_true, decide_eq_true_eq] at hi
      omega
    have : M.nE' a b = some i := sv' hi hl fun k hk => by
      have := h3 k hk
      rw [rL'] at this
      exact Bool.eq_false_iff.mpr this
    rw [this]
    rfl
theorem FzA.str1 {F : Hp} {T : List Addr} {xs : List V} {b : M.Tx} (h : FzA K F T xs [.str b]) : xs = [.str (sx b)] /\ okT b := by
  obtain ⟨v, rfl, z⟩ := h.one
  obtain ⟨rfl, o⟩ := z.str_inv
  exact ⟨rfl, o⟩
theorem oc' {a b : M.Tx} {i : Nat} (h : M.nE' a b = some i) : ∃ rest, Builtin.Str.occurrences (sx a) (sx b) 0 (sx a).length 1 = i :: rest := by
  have h1 := s2' a b
  rw [h] at h1
  unfold Txt.find at h1
  cases e : Builtin.Str.occurrences (sx a) (sx b) 0 (sx a).length 1 with
  | nil => rw [e] at h1; exact absurd h1 (by show ¬ (-1 : Int) = (i : Int); omega)
  | cons j rest =>
    rw [e] at h1
    have h2 : (j : Int) = (i : Int) := h1
    exact ⟨rest, by rw [show j = i by omega]⟩
theorem vJ' : MtD K M.ka' qv' := by
  intro F H T fp s xs ds dz Q f o hx h k
  unfold M.ka' at h
  split at h
  . obtain ⟨rfl, o2⟩ := hx.str1
    rename_i b
    cases q : M.nE' s b with
    | none => rw [q] at h; cases h
    | some i =>
      rw [q] at h
      cases h
      obtain ⟨rest, e⟩ := oc' q
      exact ⟨_, _, i, rest, rfl, rfl, e, k.here f (.int _)⟩
  . cases h
def A6' : M.D -> Option Key
  | .int i => some (.inl i)
  | .str s => some (.inr (sx s))
  | _ => none
theorem gV' {d : M.D} {k : Key} (h : A6' d = some k) : kD k = d := by
  cases d <;> cases h <;> rfl
theorem ke' {F : Hp} {T : List Addr} {v : V} {d : M.D} {k : Key} (z : Fz K F T v d) (h : A6' d = some k) : v = kV k := by
  cases d <;> cases h
  . cases z; rfl
  . obtain ⟨rfl, _⟩ := z.str_inv; rfl
end
section
variable {X : Cx} {W : WX} {pos p pos' : Pos} {a b e : Expr} {ma mb : M.ME} {mo : M.MO} {σ : St} {H : Hp} {Q : VK}
theorem jO' {x : Str} (t : String) (ht : t ∈ ["bool", "int", "str", "tuple", "list", "dict"]) (hg : Gl X x) (hm : X.mg x = none) (hv : bootBuiltins x = some (.builtin "isinstance")) (ha : SE X W a ma) (hb : PE X b (tC (.ty t))) (hn : x ≠ "__name__" := by decide) (hdb : (x == ("__debug__" : Str)) = false := by decide)
    (he : starEach [a, b] X.env = (false, eval a X.env) :: starEach [b] X.env := by rfl) (he2 : starEach [b] X.env = (false, eval b X.env) :: starEach [] X.env := by rfl) (hpl : (backTo pos (starEach [b] X.env)).any (·.1) = false := by rfl) : SE X W (.Call (.Name x p) [a, b] [] pos) (M.eUn (M.ci' t) ma) :=
  PE.imp (pe_callB call_isi hg hm hv (pa_cons ha (pa_cons hb pa_nil he2) he) hn hdb he hpl) fun σ H Q ⟨ρ, F, T, fr, rel, h⟩ => by
    refine az' rel h fun dx ρ1 v H1 F1 T1 e1 z1 r1 h1 => ?_
    obtain ⟨dz, ez, q⟩ := aU'.ofO h1
    unfold M.ci' at ez
    cases eq : M.tyn dx with
    | none => rw [eq] at ez; cases ez
    | some n =>
      rw [eq] at ez
      cases ez
      obtain ⟨fp, f, _⟩ := r1.fp
      exact An' (tT' f.low z1 eq) (kit_ty (vL' n (uZ' eq) t ht)) (q _ H1 F1 T1 e1 (.bl _) r1)
theorem dp' : SO X W (.Dict [] [] pos) M.gP' := PE.imp pe_dnewK fun σ H Q ⟨ρ, F, T, fr, rel, h⟩ => fun p hp => by
  have z : Rp X.K F T (.ref p) (.dct [] []) [(p, .dK [])] := Rp.dct (kvs := []) .nil .nil
  exact h (.ref p) _ F T _ .refl z (rel.own hp)
theorem u7' {f : M.D -> Option M.D} {r : List V -> Hp -> VK -> Prop} {x : Str} {id : String} (hc : CallR X (.type id) r)
    (hf : ∀ {F H : Hp} {T : List Addr} {v : V} {d : M.D} {ds : List M.D} {Q : VK}, Same F H -> Fz X.K F T v d -> f d = some (.lst ds) -> (∀ l ws, H l = none -> FzA X.K F T ws ds -> Q (.ref l) (upd H l (.lst ws))) -> r [v] H Q)
    (hg : Gl X x) (hm : X.mg x = none) (hv : bootBuiltins x = some (.type id)) (ha : SE X W a ma) (hn : x ≠ "__name__" := by decide) (hdb : (x == ("__debug__" : Str)) = false := by decide)
    (he : starEach [a] X.env = (false, eval a X.env) :: starEach [] X.env := by rfl) (hpl : (backTo pos (starEach [] X.env)).any (·.1) = false := by rfl) : SO X W (.Call (.Name x p) [a] [] pos) (M.hz' (M.eUn f ma)) :=
  PE.imp (pe_callTy hc hg hm hv (pa_cons ha pa_nil he) hn hdb he hpl) fun σ H Q ⟨ρ, F, T, fr, rel, h⟩ => by
    have h0 := aU'.bind h
    refine az' rel h0 fun dx ρ1 v H1 F1 T1 e1 z1 r1 h1 => ?_
    obtain ⟨dz, ez, q⟩ := aU'.ofO h1
    cases dz <;> try exact q.elim
    rename_i ds
    obtain ⟨fp, f1, _⟩ := r1.fp
    refine hf f1.low z1 ez fun l ws hl zw => ?_
    exact q (.ref l) _ F1 T1 _ e1 (.lst (RpA.of_fz zw)) (r1.own hl)
theorem sO' {K : PySem.W.Frag} {F H : Hp} {T : List Addr} {v : V} {d : M.D} {ds : List M.D} {Q : VK} (s : Same F H) (z : Fz K F T v d) (h : M.eJ' d = some (.lst ds)) (k : ∀ l ws, H l = none -> FzA K F T ws ds -> Q (.ref l) (upd H l (.lst ws))) : qt' K [v] H Q := by
  cases d <;> try (cases h; done)
  . obtain ⟨rfl, o⟩ := z.str_inv
    cases h
    exact .inr ⟨_, rfl, o.len, fun l hl => k l _ hl (FzA.signs o)⟩
  . obtain ⟨a, vs, rfl, ha, za⟩ := z.tup_inv
    cases h
    exact .inl ⟨a, vs, rfl, .inr (seqT s ha), fun l hl => k l vs hl za⟩
  . obtain ⟨a, vs, rfl, ha, za⟩ := z.lst_inv
    cases h
    exact .inl ⟨a, vs, rfl, .inl (SqL.of (s _ _ ha)), fun l hl => k l vs hl za⟩
theorem FzA.rg {K : PySem.W.Frag} {F : Hp} {T : List Addr} (a b : Int) : FzA K F T (rgV a b) (M.eU' a b) := FzA.of_all fun i => .int _
theorem AL' {a b : Int} (h : M.RgB a b = true) : RgOk a b := by
  unfold M.RgB at h
  simp only [Bool.and_eq_true, decide_eq_true_eq] at h
  exact ⟨h.1.1.1.1, h.1.1.1.2, h.1.1.2, h.1.2, h.2⟩
theorem n3' {q : Pos} (hc : X.calm = true) (hg : Gl X "list") (hm : X.mg "list" = none) (hg2 : Gl X "range") (hm2 : X.mg "range" = none) (ha : SE X W a ma)
    (na2 : starEach [a] X.env = (false, eval a X.env) :: starEach [] X.env := by rfl) (na : starEach [.Call (.Name "range" q) [a] [] pos'] X.env = (false, eval (.Call (.Name "range" q) [a] [] pos') X.env) :: starEach [] X.env := by rfl) :
    SO X W (.Call (.Name "list" p) [.Call (.Name "range" q) [a] [] pos'] [] pos) (M.hz' (M.eUn M.eI' ma)) :=
  PE.imp (pe_listRg hc hg hm (prg_1 hg2 hm2 ha na2) na) fun σ H Q ⟨ρ, F, T, fr, rel, h⟩ => by
    have h0 := aU'.bind h
    refine az' rel h0 fun dx ρ1 v H1 F1 T1 e1 z1 r1 h1 => ?_
    obtain ⟨dz, ez, q⟩ := aU'.ofO h1
    unfold M.eI' at ez
    split at ez
    . split at ez
      . rename_i hr
        cases ez
        refine ⟨_, z1.int_inv, AL' hr, fun l hl => ?_⟩
        exact q (.ref l) _ F1 T1 _ e1 (.lst (RpA.of_fz (FzA.rg _ _))) (r1.own hl)
      . cases ez
    . cases ez
theorem RpA.erase {K : PySem.W.Frag} {F : Hp} {T : List Addr} {y : M.D} : ∀ {os : List M.O} {vs : List V} {f2 : Fp} {j : Nat}, RpA K F T vs os f2 -> os[j]? = some (.fz y) -> ∃ v, vs[j]? = some v /\ Fz K F T v y /\ RpA K F T (vs.eraseIdx j) (os.eraseIdx j) f2
  | [], _, _, _, r, h => by cases h
  | o :: os, _, _, 0, r, h => by
    cases r with
    | cons r0 r =>
      cases h
      cases r0 with
      | fz z => exact ⟨_, rfl, z, r⟩
  | o :: os, _, _, j + 1, r, h => by
    cases r with
    | cons r0 r =>
      obtain ⟨v, h1, h2, h3⟩ := RpA.erase (j := j) r h
      exact ⟨v, h1, h2, .cons r0 h3⟩
theorem sj' {n : Nat} {nm : Str} {px apos : Pos} (hv : PE X (.Name nm px) (tVar n)) (ha : SE X W a ma)
    (hbase : attributeBase (.Name nm px) "pop" X.env (eval (.Name nm px) X.env) = eval (.Name nm px) X.env := by rfl)
    (hfew : ((backTo pos (starEach [a] X.env)).all (fun x => !x.1) && (backToKw pos (keywordEach [] X.env)).all (fun x => x.1.isSome)
      && decide ([a].length + ([] : List Keyword).length + (if ([] : List Keyword).isEmpty then 0 else 1) < 30)) = true := by rfl)
    (hline : (apos.endLine == pos.line) = true := by rfl) (hs : starEach [a] X.env = (false, eval a X.env) :: starEach [] X.env := by rfl) (hplain : (backTo pos (starEach [] X.env)).any (·.1) = false := by rfl) :
    SE X W (.Call (.Attribute (.Name nm px) "pop" apos) [a] [] pos) (M.kq' n ma) :=
  PE.imp (pe_bm PySem.F.plainAttrs_list PySem.F.slot_list_pop PySem.F.type_list_pop mt_popAt hv (pa_cons ha pa_nil hs) hbase hfew hline hs hplain) fun σ H Q ⟨ρ, F, T, fr, rel, h⟩ => by
    unfold M.kq' at h
    split at h
    . rename_i os0 e0
      obtain ⟨fe, fw, re, rw, ff⟩ := id rel
      obtain ⟨v, f1, f2, f3, h1, _, h3, _⟩ := re.get e0
      cases h3 with
      | @lst p vs0 _ fp0 r0 =>
        obtain ⟨vs1, f21, hH, _, _⟩ := rel.slotW e0 h1
        refine ⟨.ref p, h1, .inl ⟨rfl, vs1, SqL.of hH⟩, az' rel h fun d ρ1 u H1 F1 T1 e1 z1 r1 h2 => ?_⟩
        split at h2
        . rename_i os z e2
          split at h2
          . rename_i j ej
            split at h2
            . rename_i y ey
              cases z1
              obtain ⟨vs, f2', hH2, r2, back⟩ := r1.slotW e2 h1
              obtain ⟨vy, g1, g2, g3⟩ := RpA.erase r2 ey
              split at ej
              . rename_i hl
                have hlen : vs.length <= M.di' := by rw [r2.length]; exact hl
                have ej' : ixN vs.length z = some j := by rw [r2.length]; exact ej
                obtain ⟨q1, q2, q3, q4⟩ := ixN_seq ej'
                have hlen' : vs.length <= 16777216 := hlen
                exact ⟨p, vs, z, j, vy, rfl, rfl, hH2, by omega, by omega, q1, g1, h2 vy _ F1 T1 e1 g2 (back _ _ f2' fr g3 .refl)⟩
              . cases ej
            . exact h2.elim
          . exact h2.elim
        . exact h2.elim
    . exact h.elim
end
end S
namespace S
open PySem PySem.Spec PyProof.Rows L2
variable [Wd] [Hot]
section
variable {X : Cx} {W : WX} {K : PySem.W.Frag} {D : Ends} {σ : St} {H : Hp} {F : Hp} {T : List Addr} {fr : Fp}
abbrev Hm := List ((String -> Option Bool) × (M.Exc -> M.MS))
def tsM (K : PySem.W.Frag) (h : M.Exc -> M.MS) : Addr -> Value -> Option Addr -> TS := fun _ cls _ D σ H => ∃ e : M.Exc, cls = .ref (He.ga K e.cls) /\ qS K W0 (h e) D σ H
inductive HdsM (X : Cx) : List ExceptHandler -> Hm -> List (Value × (Addr -> Value -> Option Addr -> TS)) -> Prop
  | nil : HdsM X [] [] []
  | cons {x : Str} {c : Value} {g : String -> Option Bool} {h : M.Exc -> M.MS} {b₀ : Stmt} {suite : List Stmt} {np pos' : Pos} {hds : List ExceptHandler} {l : Hm} {l' : List (Value × (Addr -> Value -> Option Addr -> TS))} (hc : Names X x c)
      (hg : ∀ y b, g y = some b -> PySem.W.exmOne X.K (.ref (He.ga X.K y)) c = some b)
      (hsu : ∀ (e : M.Exc) (a : Addr) (oe : Obj) (d : Option Addr) (pn : List (Addr × Obj)), Zc (.ref (He.ga X.K e.cls)) d oe -> (∃ vs, oe.data = .fields vs) -> SSs (X.suite a ((a, oe) :: pn)) W0 (b₀ :: suite) (h e)) (r : HdsM X hds l l') :
      HdsM X (.ExceptHandler (some (.Name x np)) none (b₀ :: suite) pos' :: hds) ((g, h) :: l) ((c, tsM X.K h) :: l')
theorem mX' {h : M.Exc -> M.MS} {b : List Stmt} (hsu : ∀ (e : M.Exc) (a : Addr) (oe : Obj) (d : Option Addr) (pn : List (Addr × Obj)), Zc (.ref (He.ga X.K e.cls)) d oe -> (∃ vs, oe.data = .fields vs) -> SSs (X.suite a ((a, oe) :: pn)) W0 b (h e)) :
    ∀ (a : Addr) (oe : Obj) (cls : Value) (d : Option Addr) (pn : List (Addr × Obj)), Zc cls d oe -> (∃ vs, oe.data = .fields vs) -> PSs (X.suite a ((a, oe) :: pn)) b (tsM X.K h a cls d) := by
  intro a oe cls d pn hz hf
  refine ⟨fun pins s σ H D I q => ?_⟩
  obtain ⟨e, rfl, q⟩ := q
  exact (hsu e a oe d pn hz hf).run pins s σ H D I q
theorem HdsM.ok {hds : List ExceptHandler} {l : Hm} {l' : List (Value × (Addr -> Value -> Option Addr -> TS))} (h : HdsM X hds l l') : HdsOk X hds l' := by
  induction h with
  | nil => exact .nil
  | cons hc hg hsu r ih => exact .cons hc (mX' hsu) ih
theorem bF'.noX {r : M.Out} (h : bF' K W D F T fr (M.Cs' r)) : bF' K W0 D F T fr r := by
  cases r with
  | exc x ρ => exact h.elim
  | nx ρ => exact h
  | bk ρ => exact h
  | ct ρ => exact h
  | rt o w => exact h
  | bad => exact h
theorem Rel.off {K : PySem.W.Frag} {ρ : M.PSt} (r : Rel K ρ σ H F T fr) (i : Nat) (x : Option V) : Rel K ⟨ρ.env.set i none, ρ.w⟩ (σ.set i x) H F T fr := by
  obtain ⟨fe, fw, re, rw, f⟩ := r
  obtain ⟨fq, h1, h2⟩ := re.drop i x
  exact ⟨fq, fw, h1, rw, f.part (.app h2 .refl)⟩
end
end S
namespace S
open PySem PySem.Spec PyProof.Rows L2
variable [Wd] [Hot]
section
variable {X : Cx} {W : WX} {pos p : Pos} {a b e : Expr} {st : Stmt} {es : List Expr} {ma mb : M.ME} {as : M.MA}
theorem t0' {i : Nat} (h : PE X e (tVar i)) : SO X W e (M.oV i) := PE.imp h fun σ H Q ⟨ρ, F, T, fr, rel, h⟩ => by
  unfold M.oV at h
  split at h
  . rename_i d e
    obtain ⟨fe, fw, re, rw, f⟩ := id rel
    obtain ⟨v, f1, f2, f3, h1, rfl, h3, h4, h5⟩ := re.get e
    cases h3 with
    | fz z => exact ⟨v, h1, h v H F T [] .refl (.fz z) rel⟩
  . exact h.elim
  . exact h.elim
  . rename_i o _ hne hnc e
    obtain ⟨fe, fw, re, rw, f⟩ := rel
    obtain ⟨v, f1, f2, f3, h1, rfl, h3, h4, h5⟩ := re.get e (M.do' (fun z => hne (by rw [z])) fun z => hnc (by rw [z]))
    refine ⟨v, h1, h v H F T f2 .refl h3 ⟨_, fw, h4, rw, f.part ?_⟩⟩
    constructor
    . intro e h
      simp only [List.mem_append] at *
      grind
    . intro x
      simp only [keys, List.map_append, List.count_append] at *
      omega
  . exact h.elim
theorem cH' (h : SA X W es as) : SO X W (.List es pos) (M.hz' (M.jc' as)) := PE.imp (pe_lst h) fun σ H Q ⟨ρ, F, T, fr, rel, h⟩ => by
  have h0 := aU'.bind h
  refine dv' rel h0 fun ds ρ1 vs H1 F1 T1 e1 z1 r1 h1 => ?_
  split at h1
  . rename_i hl
    refine ⟨by rw [z1.length, bL']; exact hl, fun p hp => ?_⟩
    exact h1 (.ref p) _ F1 T1 _ e1 (.lst (RpA.of_fz z1)) (r1.own hp)
  . exact h1.elim
theorem iw' : SS X W st M.xG' := ⟨fun _ _ _ _ _ _ ⟨_, _, _, _, _, h⟩ => h.elim⟩
end
section
variable {K : PySem.W.Frag} {F : Hp} {T : List Addr}
theorem ko' : ∀ (ds : List M.D) (k : Nat), (M.el' k ds).length = ds.length
  | [], _ => rfl
  | _ :: ds, k => congrArg (· + 1) (ko' ds (k + 1))
theorem kp' : ∀ (ds : List M.D) (k i : Nat) (d : M.D), (M.el' k ds)[i]? = some d -> ∃ x, ds[i]? = some x /\ d = .tup [.int ((k + i : Nat) : Int), x]
  | [], _, i, d, h => by simp [M.el'] at h
  | x :: ds, k, 0, d, h => ⟨x, rfl, (Option.some.inj h).symm⟩
  | x :: ds, k, i + 1, d, h => by
    obtain ⟨y, h1, h2⟩ := kp' ds (k + 1) i d h
    exact ⟨y, h1, by rw [h2, show k + 1 + i = k + (i + 1) by omega]⟩
theorem yw' {J : It} {ds : List M.D} (hs : ∀ F' T' H' fp i, Ext F T F' T' -> FpH F' H' fp -> i = ds.length -> J.stop i H')
    (hy : ∀ F' T' H' fp i dx, Ext F T F' T' -> FpH F' H' fp -> ds[i]? = some dx -> J.go i H' /\ ∀ v H2, J.yld i H' v H2 -> ∃ p x, v = .ref p /\ H' p = none /\ H2 = upd H' p (.tup [.int (i : Nat), x]) /\ Fz K F' T' x dx) : je' K J (M.el' 0 ds) F T := fun F' T' H' fp i e f hi => by
  rw [ko'] at hi ⊢
  refine ⟨fun q => hs F' T' H' fp i e f q, fun d hd => ?_⟩
  obtain ⟨dx, h1, rfl⟩ := kp' _ _ _ _ hd
  obtain ⟨g, y⟩ := hy F' T' H' fp i dx e f h1
  refine ⟨g, fun v H2 q => ?_⟩
  obtain ⟨p, x, rfl, hp, rfl, zx⟩ := y v H2 q
  have s : Same F' (upd F' p (.tup [.int (i : Nat), x])) := cJ' (f.free hp)
  refine ⟨_, s, .tup (SqT.of upd_same) (.cons ?_ (.cons (zx.mono (.of s)) .nil)), f.new hp⟩
  rw [Nat.zero_add]
  exact .int _
theorem yu' {s : M.Tx} (o : okT s) : je' K (ItP (fun i => some (.int (i : Nat))) (chS (sx s)) (sx s).cps.size) (M.el' 0 (s.map M.chD)) F T := by
  have e1 : (sx s).cps.size = s.length := ck' s
  refine yw' (fun F' T' H' fp i e f hi => ?_) fun F' T' H' fp i dx e f h1 => ?_
  . rw [List.length_map] at hi
    show i = (sx s).cps.size
    omega
  . rw [List.getElem?_map] at h1
    cases q1 : s[i]? with
    | none => rw [q1] at h1; cases h1
    | some c =>
      rw [q1] at h1
      cases h1
      have l1 := (List.getElem?_eq_some_iff.mp q1).1
      refine ⟨by show i < (sx s).cps.size; omega, fun v H2 y => ?_⟩
      obtain ⟨p, x, y', rfl, hp, rfl, c1, c2⟩ := y
      cases c1
      unfold chS at c2
      rw [et', q1] at c2
      cases c2
      exact ⟨p, _, rfl, hp, rfl, om' (o.1 c (List.mem_of_getElem? q1))⟩
theorem yv' {a : Addr} {vs : List V} {ds : List M.D} (ha : F a = some (.lst vs)) (z : FzA K F T vs ds) : je' K (Ite K a) (M.el' 0 ds) F T := by
  refine yw' (fun F' T' H' fp i e f hi => ?_) fun F' T' H' fp i dx e f h1 => ?_
  . exact ⟨vs, SqL.of (f.low _ _ (e.f.lst ha)), by rw [z.length]; omega⟩
  . obtain ⟨x, x1, x2⟩ := z.get h1
    have a1 : SqL K H' a vs := SqL.of (f.low _ _ (e.f.lst ha))
    refine ⟨⟨vs, x, a1, x1⟩, fun v H2 q => ?_⟩
    obtain ⟨p, x', rfl, hp, rfl, q1⟩ := q
    have := q1 vs a1
    rw [x1] at this
    cases this
    exact ⟨p, _, rfl, hp, rfl, x2.mono e⟩
end
section
variable {X : Cx} {W : WX} {pos p tpos : Pos} {a : Expr} {ma : M.ME} {σ : St} {H : Hp} {elts : List Expr} {kk : Nat}
theorem mW' {K : PySem.W.Frag} {m : M.ME} {ρ ρ1 : M.PSt} {F : Hp} {T : List Addr} {fr : Fp} {d : M.D} {R : List V -> Hp -> Prop} (rel : Rel K ρ σ H F T fr) (em : m ρ = .ok d ρ1) (h : ∀ v H' F' T', Ext F T F' T' -> Fz K F' T' v d -> Rel K ρ1 σ H' F' T' fr -> R [v] H') : tCons (qE K W m) tNil σ H R :=
  ⟨ρ, F, T, fr, rel, by rw [em]; exact h⟩
theorem u8' (hg : Gl X "enumerate") (hm : X.mg "enumerate" = none) (h : SE X W a ma) (hs : starEach [a] X.env = [(false, eval a X.env)] := by rfl) : SI X W (.Tuple elts kk tpos) (.Call (.Name "enumerate" p) [a] [] pos) (M.rj' ma) :=
  PI.imp (sA' (sB' hg hm (pa_cons h pa_nil hs) hs) (pi_enum hg hm (pa_cons h pa_nil hs) hs)) fun σ H R ⟨ρ, F, T, fr, rel, q⟩ => by
    have q2 := aU'.bind q
    cases em : ma ρ with
    | bad => rw [em] at q2; exact q2.elim
    | exc x ρ1 =>
      rw [em] at q2
      exact .inl ⟨ρ, F, T, fr, rel, by rw [em]; exact q2⟩
    | ok d ρ1 =>
      rw [em] at q2
      obtain ⟨ds, e1, q3⟩ := aU'.ofO (show aU' _ _ _ from q2)
      cases d <;> try (cases e1; done)
      . cases e1
        refine .inl (mW' rel em fun v H' F' T' e z r => ?_)
        obtain ⟨rfl, o⟩ := z.str_inv
        exact ⟨_, rfl, q3 _ _ _ _ e (yu' o) r⟩
      . cases e1
        refine .inr (mW' rel em fun v H' F' T' e z r => ?_)
        obtain ⟨p, vs, rfl, ha, za⟩ := z.lst_inv
        obtain ⟨fp, f, _⟩ := r.fp
        exact ⟨p, vs, rfl, SqL.of (f.low _ _ ha), q3 _ _ _ _ e (yv' ha za) r⟩
end
theorem yF' {K : PySem.W.Frag} {F : Hp} {T : List Addr} {x : Str} {s : M.Tx} (hs : x = sx s) (ho : zX' s = true) : Fz K F T (.str x) (.str s) := by subst hs; exact .str (ud' ho)
end S
namespace S
open PySem PySem.Spec PyProof.Rows L2
variable [Wd] [Hot]
section
variable {X : Cx} {W : WX} {K : PySem.W.Frag} {pos p : Pos} {a b : Expr} {ma : M.ME} {F H : Hp} {T : List Addr}
theorem RpA.datas : ∀ {vs : List V} {os : List M.O} {fp : Fp}, RpA K F T vs os fp -> os.all (fun o => match o with | .fz _ => true | _ => false) = true -> FzA K F T vs (os.map M.frz)
  | _, _, _, .nil, _ => .nil
  | _, _, _, .cons r0 r, h => by
    rw [List.all_cons, Bool.and_eq_true] at h
    cases r0 with
    | fz z => exact .cons z (RpA.datas r h.2)
    | _ => exact absurd h.1 (by simp)
theorem v2' {neg : Bool} {x : V} {dx dz : M.D} {o : M.O} {v : V} {f2 fp : Fp} {Q : VK} (f : FpH F H (f2 ++ fp)) (hx : Fz K F T x dx) (r : Rp K F T v o f2)
    (h : (if neg = true then M.qN' (M.inO dx o) else M.inO dx o) = some dz) (k : ∀ v' H' F' , Same F F' -> Fz K F' T v' dz -> FpH F' H' (f2 ++ fp) -> Q v' H') : (if neg = true then iD' K x v H Q else zT' K x v H Q) := by
  cases r with
  | @fz v d z =>
    cases neg with
    | false =>
      rw [if_neg Bool.false_ne_true] at h ⊢
      exact ue' f hx z h k
    | true =>
      rw [if_pos rfl] at h ⊢
      refine qL' f hx z (dz := dz) ?_ k
      unfold M.h6'
      cases e : M.pIn dx d with
      | none => simp [M.inO, e, M.qN'] at h
      | some y =>
        simp only [M.inO, e] at h
        cases y <;> first | exact h | cases h
  | @lst pa vs os fp0 r =>
    have hH : H pa = some (.lst vs) := (f.at_ (pa, .lst vs) (by simp)).1
    have main : ∀ {dz : M.D}, M.inO dx (.lst os) = some dz -> ∃ ds, M.sca dx = true /\ ds.all M.sca = true /\ FzA K F T vs ds /\ dz = .bl (ds.any fun d => M.eqb d dx) := by
      intro dz h
      have h : (if os.all (fun o => match o with | .fz _ => true | _ => false) = true then M.pIn dx (.lst (os.map M.frz)) else none) = some dz := h
      split at h
      . rename_i hd
        rcases iX' h with ⟨c, s, _, e, _⟩ | ⟨ds, e, h1, h2, h3⟩
        . cases e
        . rcases e with e | e
          . cases e
            exact ⟨_, h1, h2, r.datas hd, h3⟩
          . cases e
      . cases h
    cases neg with
    | false =>
      rw [if_neg Bool.false_ne_true] at h ⊢
      obtain ⟨ds, h1, h2, za, rfl⟩ := main h
      obtain ⟨e1, e2⟩ := lt' hx h1 za h2
      refine .inr (.inl ⟨pa, vs, rfl, .inl (SqL.of hH), id' hx h1, e2, ?_⟩)
      rw [if_neg Bool.false_ne_true, e1]
      exact k _ H F (fun _ _ e => e) (.bl _) f
    | true =>
      rw [if_pos rfl] at h ⊢
      cases e : M.inO dx (.lst os) with
      | none => rw [e] at h; cases h
      | some y =>
        obtain ⟨ds, h1, h2, za, rfl⟩ := main e
        rw [e] at h
        cases h
        obtain ⟨e1, e2⟩ := lt' hx h1 za h2
        refine .inr (.inl ⟨pa, vs, rfl, .inl (SqL.of hH), id' hx h1, e2, ?_⟩)
        rw [if_pos rfl, e1]
        exact k _ H F (fun _ _ e => e) (.bl _) f
  | tup r => cases neg <;> cases h
  | dct _ r => cases neg <;> cases h
  | dcl _ r => cases neg <;> cases h
  | dcn _ _ r => cases neg <;> cases h
theorem s1' {neg : Bool} {i : Nat} {σ : St} {H : Hp} {Q : VK} (h : qE K W (if neg = true then M.fz' i ma else M.C4' i ma) σ H Q) : tOp (fun x y H Q => if neg = true then iD' K x y H Q else zT' K x y H Q) (qE K W ma) (tVar i) σ H Q := by
  obtain ⟨ρ, F, T, fr, rel, h⟩ := h
  have h' : aU' ((ma ρ).bind fun x ρ1 => match ρ1.env[i]? with
    | some (some o) => M.ofO (if neg = true then M.qN' (M.inO x o) else M.inO x o) ρ1
    | _ => .bad) (fun d ρ' => ∀ v H' F' T', Ext F T F' T' -> Fz K F' T' v d -> Rel K ρ' σ H' F' T' fr -> Q v H') (EX K W σ F T fr) := by
    cases neg <;> exact h
  refine az' rel h' fun dx ρ1 v H1 F1 T1 e1 z1 r1 h1 => ?_
  split at h1
  . rename_i o e
    obtain ⟨dz, ez, q⟩ := aU'.ofO h1
    obtain ⟨fe, fw, re, rw, f⟩ := r1
    obtain ⟨u, f1, f2, f3, g1, rfl, g3, g4, g5⟩ := re.get e (M.do' (fun z => by rw [z] at ez; cases neg <;> exact nomatch (show (none : Option M.D) = some dz from ez)) fun z => by rw [z] at ez; cases neg <;> exact nomatch (show (none : Option M.D) = some dz from ez))
    refine ⟨u, g1, ?_⟩
    have f' : FpH F1 H1 (f2 ++ (f1 ++ (f3 ++ (fw ++ fr)))) := f.part (by
      constructor
      . intro e h
        simp only [List.mem_append] at *
        grind
      . intro x
        simp only [keys, List.map_append, List.count_append] at *
        omega)
    refine v2' f' z1 g3 ez fun v' H' F' s zz ff => ?_
    refine q v' H' F' T1 (e1.trans (.of s)) zz ⟨_, fw, re.mono (.of s), rw.mono (.of s), ff.part ?_⟩
    constructor
    . intro e h
      simp only [List.mem_append] at *
      grind
    . intro x
      simp only [keys, List.map_append, List.count_append] at *
      omega
  . exact h1.elim
end
def wT' [Wd] (H : Hp) : Hp := fun b => if b ∈ Wd.ts.map (·.1) then none else H b
theorem qO' [Wd] (H : Hp) : Same (wT' H) H := fun b o h => by
  unfold wT' at h
  split at h
  . cases h
  . exact h
theorem qP' [Wd] {H : Hp} (hT : ∀ p ∈ Wd.ts, H p.1 = some (.tbl #[])) {b : Addr} {o : HO} (h : H b = some o) (ho : o ≠ .tbl #[]) : wT' H b = some o := by
  unfold wT'
  rw [if_neg fun z => ?_]
  . exact h
  . obtain ⟨p, hp, e⟩ := List.mem_map.mp z
    have := hT p hp
    rw [e, h] at this
    exact ho (Option.some.inj this)
theorem sN' [Wd] {K : PySem.W.Frag} {H : Hp} (hT : ∀ p ∈ Wd.ts, H p.1 = some (.tbl #[])) {a : Addr} {vs : List V} (h : SqL K H a vs) : SqL K (wT' H) a vs := by
  rcases h with (h | ⟨o, h⟩) | h
  . exact .inl (.inl (qP' hT h (by intro z; cases z)))
  . exact .inl (.inr ⟨o, qP' hT h (by intro z; cases z)⟩)
  . exact .inr h
theorem q9' [Wd] (K : PySem.W.Frag) (H : Hp) (hT : ∀ p ∈ Wd.ts, H p.1 = some (.tbl #[])) (a : Addr) (ns : List Int) (hn : ns.length <= 63) (hs : SqL K H a (ns.map V.int)) {m : M.MF} (h : ∀ ns : List Int, ns.length <= 63 -> ∃ w, m [.scr (ns.map .int)] [] = .ok (.fz (.bl true)) w) :
    spM K m [.ref a] H (fun v _ => v = .bl true) L2.E0 := by
  obtain ⟨w, e⟩ := h ns hn
  refine ⟨[.scr (ns.map .int)], [], wT' H, [], [], .cons (.scr (sN' hT hs) (FzA.rgI ns)) .nil, ⟨[], [], wU', .nil, ⟨qO' H, fun _ h => (nomatch h), .nil, fun p hp => ⟨if_pos (List.mem_map_of_mem hp), fun _ h => (nomatch h), #[], hT p hp, True.intro, fun pos cv hc => ?_⟩⟩⟩, ?_⟩
  . have z : codeAmong pos [] = some cv := hc
    simp [codeAmong] at z
  rw [e]
  intro v H' F' T' fp _ z _
  cases z with
  | fz z => exact z.bl_inv
end S
namespace S
open PySem PySem.Spec PyProof.Rows L2
variable [Wd] [Hot]
section
variable {X : Cx} {W : WX} {K : PySem.W.Frag} {cpos apos p : Pos} {name : Str} {id T : String} {o e : Expr} {es : List Expr} {mo : M.ME} {as : M.MA} {σ : St} {H : Hp} {Q : VK}
end
end S
namespace S
open PySem PySem.Spec PyProof.Rows L2
variable [Wd] [Hot]
section
variable {X : Cx} {W : WX} {K : PySem.W.Frag}
theorem FzA.two {F : Hp} {T : List Addr} {xs : List V} {d e : M.D} (h : FzA K F T xs [d, e]) : ∃ v u, xs = [v, u] /\ Fz K F T v d /\ Fz K F T u e := by
  cases h with
  | cons a r =>
    cases r with
    | cons b r => cases r; exact ⟨_, _, rfl, a, b⟩
end
end S
namespace S
open PySem PySem.Spec PyProof.Rows L2
variable [Wd] [Hot]
section
variable {P : Program} {w : World} {K : PySem.W.Frag} {mg : Str -> Option Value} {base : Heap}
end
section
variable {X : Cx} {W : WX} {K : PySem.W.Frag}
end
end S
namespace S
open PySem PySem.Spec PyProof.Rows L2
variable [Wd] [Hot]
local macro_rules | `(tactic| walk_at "parts") => `(tactic| (constructor; (intro e h; simp only [List.mem_append, List.mem_cons, List.not_mem_nil] at *; grind); (intro x; simp only [keys, List.map_append, List.map_cons, List.map_nil, List.count_append, List.count_cons, List.count_nil] at *; omega)))
section
variable {K : PySem.W.Frag} {F F' H H' : Hp} {T T' : List Addr} {fp fq fr : Fp} {ρ : M.PSt} {σ : St} {W : WX} {Q : VK}
theorem kh' {d : M.D} (h : M.isK d = true) : ∃ k, A6' d = some k := by cases d <;> first | exact ⟨_, rfl⟩ | (cases h)
theorem RpA.dget {vs : List V} {os : List M.O} {ks : List M.D} {dk : M.D} (h : RpA K F T vs os fp) : (M.dget ks vs dk).isSome = (M.dget ks os dk).isSome /\ ∀ d, M.dget ks os dk = some (.fz d) -> ∃ u, M.dget ks vs dk = some u /\ Fz K F T u d := by
  unfold M.dget
  cases M.gg' ks dk with
  | none => exact ⟨rfl, fun d e => nomatch e⟩
  | some j =>
    simp only [Option.bind_some]
    refine ⟨?_, fun d e => h.get e⟩
    rw [Bool.eq_iff_iff, Option.isSome_iff_exists, Option.isSome_iff_exists]
    constructor
    . rintro ⟨x, e⟩
      exact ⟨_, List.getElem?_eq_getElem (h.length ▸ (List.getElem?_eq_some_iff.mp e).1)⟩
    . rintro ⟨x, e⟩
      exact ⟨_, List.getElem?_eq_getElem (h.length ▸ (List.getElem?_eq_some_iff.mp e).1)⟩
theorem ib' {kvs : List (Key × V)} (k : Key) : Paired (fun p d => M.eqb d (kD k) = decide (p.1 = k)) kvs (kvs.map fun p => kD p.1) := by
  induction kvs with
  | nil => exact .nil
  | cons p kvs ih => exact .cons (up' p.1 k) ih
theorem gh' {ks : List M.D} {k : M.D} (h : M.rb' ks k = true) : M.kat k = true /\ M.dep k <= 8 /\ ∀ d ∈ ks, M.sca d = M.sca k := by
  unfold M.rb' at h
  rw [Bool.and_eq_true, Bool.and_eq_true, decide_eq_true_iff, List.all_eq_true] at h
  exact ⟨h.1.1, h.1.2, fun d hd => by simpa using h.2 d hd⟩
theorem uz' {xs : List (NestedKey × Addr × V)} {ks : List M.D} (s : Same F H) (n : NestKeys ks xs) (z : FzA K F T (xs.map fun x => .ref x.2.1) ks) : wK' K H xs := by
  obtain ⟨e, q⟩ := n
  induction xs generalizing ks with
  | nil => exact fun _ z => nomatch z
  | cons x xs ih =>
    cases z with
    | @cons _ _ d ds z1 z2 =>
      simp only [List.map_cons, List.cons.injEq] at e
      obtain ⟨q1, q2, q3⟩ := q d (by simp)
      intro y hy
      rcases List.mem_cons.mp hy with rfl | hy
      . have := z1.nk s q1
        rw [<- e.1] at this
        refine ⟨this, ?_⟩
        rw [e.1, iO' d q1]
        exact q2
      . exact ih z2 e.2 (fun d hd => q d (by simp [hd])) y hy
theorem jS' {y : V} {dk : M.D} (z : Fz K F T y dk) (h1 : M.kat dk = true) (h2 : M.sca dk = false) : ∃ b, y = .ref b := by
  cases z with
  | tup _ _ => exact ⟨_, rfl⟩
  | non => cases h2
  | bl _ => cases h2
  | int _ => cases h2
  | str _ => cases h2
  | _ => cases h1
theorem j6' {y : V} {dk : M.D} (s : Same F H) (z : Fz K F T y dk) (h1 : M.kat dk = true) (h3 : M.dep dk <= 8) : NkV K H y (nk dk) /\ (nk dk).depth <= 8 := ⟨z.nk s h1, by rw [iO' dk h1]; exact h3⟩
theorem gl' {xs : List (NestedKey × Addr × V)} {ks : List M.D} {dk : M.D} (n : NestKeys ks xs) (h : M.kat dk = true) : Paired (fun p d => M.eqb d dk = decide (p.1 = nk dk)) (xsV xs) ks := by
  refine gI' (g := nk) ?_ fun d hd => ro' (n.s d hd).1 h
  rw [xsV, List.map_map]
  exact n.e
theorem lq' {kvs : List (Leaf × V)} {ks : List M.D} {dk : M.D} (n : LeafKeys ks (kvs.map (·.1))) (h : M.sca dk = true) : Paired (fun p d => M.eqb d dk = decide (p.1 = lfD dk)) kvs ks :=
  gI' (g := lfD) n.e fun d hd => yL' (n.s d hd) h
def Ans (K : PySem.W.Frag) (F : Hp) (T : List Addr) (ov : Option V) (r : Option M.O) : Prop := ov.isSome = r.isSome /\ ∀ d, r = some (.fz d) -> ∃ u, ov = some u /\ Fz K F T u d
theorem kc' {a : Addr} {kvs : List (Leaf × V)} {ks : List M.D} {os : List M.O} {y : V} {dk : M.D} (s : Same F H) (hH : Rd H a (dcL a kvs)) (n : LeafKeys ks (kvs.map (·.1))) (ra : RpA K F T (kvs.map (·.2)) os fp)
    (zk : Fz K F T y dk) (hf : M.rb' ks dk = true) : ∃ ov, DLk K H a y ov /\ Ans K F T ov (M.dget ks os dk) := by
  obtain ⟨h1, h2, h3⟩ := gh' hf
  cases hs : M.sca dk with
  | true =>
    refine ⟨_, .l hH (zk.lf hs), ?_⟩
    rw [d9' (lq' n hs)]
    exact ra.dget
  | false =>
    have e : ks = [] := by
      cases ks with
      | nil => rfl
      | cons d ks => have q1 := h3 d (by simp); rw [n.s d (by simp), hs] at q1; cases q1
    subst e
    have e2 : kvs = [] := by have := congrArg List.length n.e; simpa using this
    subst e2
    obtain ⟨b, rfl⟩ := jS' zk h1 hs
    obtain ⟨q1, q2⟩ := j6' s zk h1 h2
    exact ⟨none, .ln hH q1 q2, rfl, fun d e => nomatch e⟩
theorem j7' {a : Addr} {xs : List (NestedKey × Addr × V)} {ks : List M.D} {os : List M.O} {y : V} {dk : M.D} (s : Same F H) (hH : Rd H a (dcN a xs)) (n : NestKeys ks xs) (zx : FzA K F T (xs.map fun x => .ref x.2.1) ks)
    (ra : RpA K F T (xs.map (·.2.2)) os fp) (zk : Fz K F T y dk) (hf : M.rb' ks dk = true) : ∃ ov, DLk K H a y ov /\ Ans K F T ov (M.dget ks os dk) := by
  obtain ⟨h1, h2, h3⟩ := gh' hf
  cases hs : M.sca dk with
  | true =>
    have e : ks = [] := by
      cases ks with
      | nil => rfl
      | cons d ks => have q1 := h3 d (by simp); rw [(n.s d (by simp)).2.2, hs] at q1; cases q1
    subst e
    have e2 : xs = [] := by have := congrArg List.length n.e; simpa using this
    subst e2
    exact ⟨none, .nl hH (zk.lf hs), rfl, fun d e => nomatch e⟩
  | false =>
    obtain ⟨b, rfl⟩ := jS' zk h1 hs
    obtain ⟨q1, q2⟩ := j6' s zk h1 h2
    refine ⟨_, .n hH (uz' s n zx) q1 q2, ?_⟩
    rw [d9' (gl' n h1)]
    have e : (xsV xs).map (·.2) = xs.map (·.2.2) := by rw [xsV, List.map_map]; rfl
    rw [e]
    exact ra.dget
theorem nz' {a : Addr} {kvs : List (Key × V)} {os : List M.O} {y : V} {dk : M.D} (hH : Rd H a (.dK kvs)) (ra : RpA K F T (kvs.map (·.2)) os fp) (zk : Fz K F T y dk) (hf : M.isK dk = true) :
    ∃ ov, DLk K H a y ov /\ Ans K F T ov (M.dget (kvs.map fun p => kD p.1) os dk) := by
  obtain ⟨k, hk⟩ := kh' hf
  have e := ke' zk hk
  subst e
  have e2 := gV' hk
  subst e2
  refine ⟨_, .k k hH, ?_⟩
  rw [d9' (ib' k)]
  exact ra.dget
theorem nq' {v : V} {k : Key} (z : Fz K F T v (kD k)) : okK k := by
  cases k with
  | inl i => exact True.intro
  | inr x =>
    obtain ⟨_, o⟩ := Fz.str_inv (s := x.cps.toList) z
    exact o
theorem qW' {v : V} {o : M.O} {y : V} {dk : M.D} {r : Option M.O} (f : FpH F H (fp ++ fr)) (q : Rp K F T v o fp) (zk : Fz K F T y dk) (e : M.cd' o dk = some r) : ∃ a ov, v = .ref a /\ DLk K H a y ov /\ Ans K F T ov r := by
  cases q with
  | fz z =>
    rename_i d
    cases d <;> try (cases e; done)
    . cases z with
      | dct h _ z =>
        simp only [M.cd'] at e
        split at e
        . rename_i hk
          cases e
          obtain ⟨ov, g1, g2⟩ := nz' (fL' f.low h) (.of_fz z) zk hk
          exact ⟨_, ov, rfl, g1, g2⟩
        . cases e
    . simp only [M.cd'] at e
      split at e
      . rename_i hk
        cases e
        cases z with
        | dcl h n z =>
          obtain ⟨ov, g1, g2⟩ := kc' f.low (fL' f.low h) n (.of_fz z) zk hk
          exact ⟨_, ov, rfl, g1, g2⟩
        | dcn h n zx z =>
          obtain ⟨ov, g1, g2⟩ := j7' f.low (fL' f.low h) n zx (.of_fz z) zk hk
          exact ⟨_, ov, rfl, g1, g2⟩
      . cases e
  | lst _ => cases e
  | tup _ => cases e
  | @dct p kvs os fp0 _ ra =>
    simp only [M.cd'] at e
    split at e
    . rename_i hk
      cases e
      obtain ⟨ov, g1, g2⟩ := nz' (.inl (f.at_ (p, .dK kvs) (by simp)).1) ra zk hk
      exact ⟨_, ov, rfl, g1, g2⟩
    . cases e
  | @dcl p kvs ks os fp0 n ra =>
    simp only [M.cd'] at e
    split at e
    . rename_i hk
      cases e
      obtain ⟨ov, g1, g2⟩ := kc' f.low (.inl (f.at_ (p, dcL p kvs) (by simp)).1) n ra zk hk
      exact ⟨_, ov, rfl, g1, g2⟩
    . cases e
  | @dcn p xs ks os fp0 n zx ra =>
    simp only [M.cd'] at e
    split at e
    . rename_i hk
      cases e
      obtain ⟨ov, g1, g2⟩ := j7' f.low (.inl (f.at_ (p, dcN p xs) (by simp)).1) n zx ra zk hk
      exact ⟨_, ov, rfl, g1, g2⟩
    . cases e
def Put (K : PySem.W.Frag) (F H : Hp) (T : List Addr) (a : Addr) (y v : V) (h0 : HO) (f0 : Fp) (o' : M.O) (fv : Fp) : Prop :=
  H a = some h0 /\ ∀ N : Hp -> Prop, (∀ h1 f1, Rp K F T (.ref a) o' ((a, h1) :: f1) -> Part f1 (f0 ++ fv) -> N (upd H a h1)) -> DSt K H a y v N
theorem RpA.setO {v : V} {o : M.O} {fv : Fp} (zd : Rp K F T v o fv) : ∀ {os : List M.O} {vs : List V} {f2 : Fp} (j : Nat), RpA K F T vs os f2 -> ∃ f2', RpA K F T (vs.set j v) (os.set j o) f2' /\ Part f2' (f2 ++ fv)
  | [], _, _, _, .nil => ⟨[], .nil, .nil⟩
  | _ :: os, _, _, 0, .cons (fp := fa) (fq := fb) r0 r => ⟨_, RpA.cons zd r, by walk_at "parts"⟩
  | _ :: os, _, _, j + 1, .cons (fp := fa) (fq := fb) r0 r => by
    obtain ⟨f2', q1, q2⟩ := RpA.setO zd j r
    refine ⟨_, .cons r0 q1, ?_⟩
    rw [List.append_assoc]
    exact .app .refl q2
theorem dS' {α : Type} {ks ks' : List M.D} {os os' : List α} {k : M.D} {o : α} (h : M.ni' ks os k o = some (ks', os')) : (∃ j, M.gg' ks k = some j /\ ks' = ks /\ os' = os.set j o) \/ (M.gg' ks k = none /\ ks.length < M.di' /\ ks' = ks ++ [k] /\ os' = os ++ [o]) := by
  unfold M.ni' at h
  split at h
  . rename_i j e
    cases h
    exact .inl ⟨j, e, rfl, rfl⟩
  . rename_i e
    split at h
    . rename_i hl
      cases h
      exact .inr ⟨e, hl, rfl, rfl⟩
    . cases h
theorem h8' {kvs kvs' : List (Key × V)} (h : kvs'.map (·.1) = kvs.map (·.1)) : (kvs'.map fun p => kD p.1) = kvs.map fun p => kD p.1 := by
  have := congrArg (List.map kD) h
  rw [List.map_map, List.map_map] at this
  exact this
theorem xZ' {a : Addr} {o o' ov : M.O} {h0 : HO} {f0 fv : Fp} {y v : V} {dk : M.D} (f : FpH F H (((a, h0) :: f0) ++ fr)) (q : Rp K F T (.ref a) o ((a, h0) :: f0)) (zk : Fz K F T y dk) (zv : Rp K F T v ov fv)
    (e : M.eH' o dk ov = some o') : Put K F H T a y v h0 f0 o' fv := by
  have hH : H a = some h0 := (f.at_ (a, h0) (by simp)).1
  have zv' : RpA K F T [v] [ov] (fv ++ []) := .cons zv .nil
  rw [List.append_nil] at zv'
  refine ⟨hH, fun N hN => ?_⟩
  cases q with
  | lst _ => cases e
  | tup _ => cases e
  | @dct _ kvs os _ okk ra =>
    simp only [M.eH'] at e
    split at e
    . rename_i hk
      obtain ⟨k, hk⟩ := kh' hk
      have e1 := ke' zk hk
      subst e1
      have e2 := gV' hk
      subst e2
      cases el : M.ni' (kvs.map fun p => kD p.1) os (kD k) ov with
      | none => rw [el] at e; cases e
      | some p =>
        obtain ⟨ks', os'⟩ := p
        rw [el] at e
        cases e
        rcases dS' el with ⟨j, ej, rfl, rfl⟩ | ⟨ej, hl, rfl, rfl⟩
        . obtain ⟨f2', q1, q2⟩ := RpA.setO zv j ra
          refine .k k hH rfl fun nd => ?_
          obtain ⟨g1, g2⟩ := (c1' (v := v) (ib' k) nd).1 j ej
          refine ⟨fun z => by have := congrArg List.length g1; simp only [List.length_map] at this; omega, hN _ f2' ?_ q2⟩
          rw [<- h8' g1]
          rw [<- g2] at q1
          exact .dct (okk.fst g1) q1
        . rw [List.length_map] at hl
          refine .k k hH rfl fun nd => ?_
          have g := (c1' (v := v) (ib' k) nd).2 ej
          rw [g]
          refine ⟨fun _ => by rw [bL', List.length_append]; simp only [List.length_singleton]; omega, hN _ (f0 ++ fv) ?_ .refl⟩
          have q1 := ra.app zv'
          have e3 : ((kvs.map fun p => kD p.1) ++ [kD k]) = (kvs ++ [(k, v)]).map fun p => kD p.1 := by simp
          rw [e3]
          exact .dct (okk.snoc (nq' zk)) (by simpa using q1)
    . cases e
  | @dcl _ kvs ks os _ n ra =>
    simp only [M.eH'] at e
    split at e
    . rename_i hk
      obtain ⟨h1, h2, h3⟩ := gh' hk
      cases el : M.ni' ks os dk ov with
      | none => rw [el] at e; cases e
      | some p =>
        obtain ⟨ks', os'⟩ := p
        rw [el] at e
        cases e
        cases hs : M.sca dk with
        | true =>
          rcases dS' el with ⟨j, ej, rfl, rfl⟩ | ⟨ej, hl, rfl, rfl⟩
          . obtain ⟨f2', q1, q2⟩ := RpA.setO zv j ra
            refine .l hH (zk.lf hs) fun nd => ?_
            obtain ⟨g1, g2⟩ := (c1' (v := v) (lq' n hs) nd).1 j ej
            refine ⟨fun z => by have := congrArg List.length g1; simp only [List.length_map] at this; omega, hN _ f2' ?_ q2⟩
            rw [<- g2] at q1
            rw [<- g1] at n
            exact .dcl n q1
          . have e4 : kvs.length = ks.length := by have := congrArg List.length n.e; simpa using this
            refine .l hH (zk.lf hs) fun nd => ?_
            have g := (c1' (v := v) (lq' n hs) nd).2 ej
            rw [g]
            refine ⟨fun _ => by rw [bL', List.length_append]; simp only [List.length_singleton]; omega, hN _ (f0 ++ fv) ?_ .refl⟩
            have q1 := ra.app zv'
            refine .dcl ⟨by simp [n.e], fun d hd => ?_⟩ (by simpa using q1)
            rcases List.mem_append.mp hd with hd | hd
            . exact n.s d hd
            . rw [List.mem_singleton.mp hd]; exact hs
        | false =>
          have e5 : ks = [] := by
            cases ks with
            | nil => rfl
            | cons d ks => have q1 := h3 d (by simp); rw [n.s d (by simp), hs] at q1; cases q1
          subst e5
          have e6 : kvs = [] := by have := congrArg List.length n.e; simpa using this
          subst e6
          cases ra
          obtain ⟨b, rfl⟩ := jS' zk h1 hs
          obtain ⟨q1, q2⟩ := j6' f.low zk h1 h2
          rcases dS' el with ⟨j, ej, rfl, rfl⟩ | ⟨ej, hl, rfl, rfl⟩
          . cases ej
          . refine .ln hH rfl q1 q2 (hN _ fv ?_ (.right .refl))
            exact .dcn (xs := [(nk dk, b, v)]) ⟨rfl, fun d hd => by rw [List.mem_singleton.mp hd]; exact ⟨h1, h2, hs⟩⟩ (.cons zk .nil) zv'
    . cases e
  | @dcn _ xs ks os _ n zx ra =>
    simp only [M.eH'] at e
    split at e
    . rename_i hk
      obtain ⟨h1, h2, h3⟩ := gh' hk
      cases el : M.ni' ks os dk ov with
      | none => rw [el] at e; cases e
      | some p =>
        obtain ⟨ks', os'⟩ := p
        rw [el] at e
        cases e
        cases hs : M.sca dk with
        | true =>
          have e5 : ks = [] := by
            cases ks with
            | nil => rfl
            | cons d ks => have q1 := h3 d (by simp); rw [(n.s d (by simp)).2.2, hs] at q1; cases q1
          subst e5
          have e6 : xs = [] := by have := congrArg List.length n.e; simpa using this
          subst e6
          cases ra
          rcases dS' el with ⟨j, ej, rfl, rfl⟩ | ⟨ej, hl, rfl, rfl⟩
          . cases ej
          . refine .nl hH (zk.lf hs) (hN _ fv ?_ (.right .refl))
            exact .dcl (kvs := [(lfD dk, v)]) ⟨rfl, fun d hd => by rw [List.mem_singleton.mp hd]; exact hs⟩ zv'
        | false =>
          obtain ⟨b, rfl⟩ := jS' zk h1 hs
          obtain ⟨q1, q2⟩ := j6' f.low zk h1 h2
          have ev : (xsV xs).map (·.2) = xs.map (·.2.2) := by rw [xsV, List.map_map]; rfl
          have ek : (xsV xs).map (·.1) = xs.map (·.1) := by rw [xsV, List.map_map]; rfl
          have evp : ∀ k b v, (xsV (kZ' xs k b v)).map (·.2) = (kZ' xs k b v).map (·.2.2) := fun k b v => by rw [xsV, List.map_map]; rfl
          have ekp : ∀ k b v, (xsV (kZ' xs k b v)).map (·.1) = (kZ' xs k b v).map (·.1) := fun k b v => by rw [xsV, List.map_map]; rfl
          rcases dS' el with ⟨j, ej, rfl, rfl⟩ | ⟨ej, hl, rfl, rfl⟩
          . obtain ⟨f2', r1, r2⟩ := RpA.setO zv j ra
            refine .n hH (uz' f.low n zx) rfl q1 q2 fun nd => ?_
            obtain ⟨g1, g2⟩ := (c1' (v := v) (gl' n h1) (by rw [ek]; exact nd)).1 j ej
            rw [<- nf' xs (nk dk) b v, evp, ev] at g2
            rw [<- nf' xs (nk dk) b v, ekp, ek] at g1
            have hany : (xs.any fun x => decide (x.1 = nk dk)) = true := by
              have e7 := d9' (gl' (dk := dk) n h1)
              have e8 : (M.dget ks' ((xsV xs).map (·.2)) dk).isSome = true := by
                unfold M.dget
                rw [ej, Option.bind_some, ev]
                have hj : j < ks'.length := by
                  unfold M.gg' at ej
                  exact (List.findIdx?_eq_some_iff_getElem.mp ej).1
                have e9 : xs.length = ks'.length := by have := congrArg List.length n.e; simpa using this
                rw [List.getElem?_eq_getElem (by rw [List.length_map]; omega)]
                rfl
              rw [<- e7, <- valV_any, xsV, List.any_map] at e8
              exact e8
            refine ⟨fun z => by have := congrArg List.length g1; simp only [List.length_map] at this; omega, hN _ f2' ?_ r2⟩
            rw [<- g2] at r1
            refine .dcn ⟨by rw [g1]; exact n.e, n.s⟩ ?_ r1
            rw [qy' hany]
            exact zx
          . have e4 : xs.length = ks.length := by have := congrArg List.length n.e; simpa using this
            refine .n hH (uz' f.low n zx) rfl q1 q2 fun nd => ?_
            have g := (c1' (v := v) (gl' n h1) (by rw [ek]; exact nd)).2 ej
            have gx : kZ' xs (nk dk) b v = xs ++ [(nk dk, b, v)] := by
              unfold kZ'
              rw [if_neg]
              intro hany
              have e7 := d9' (gl' (dk := dk) n h1)
              have e8 : (valV (xsV xs) (nk dk)).isSome = true := by
                rw [<- valV_any, xsV, List.any_map]
                exact hany
              rw [e7] at e8
              unfold M.dget at e8
              rw [ej] at e8
              cases e8
            rw [gx]
            refine ⟨fun _ => by rw [bL', List.length_append]; simp only [List.length_singleton]; omega, hN _ (f0 ++ fv) ?_ .refl⟩
            have r1 := ra.app zv'
            refine .dcn ⟨by simp [n.e], fun d hd => ?_⟩ ?_ (by simpa using r1)
            . rcases List.mem_append.mp hd with hd | hd
              . exact n.s d hd
              . rw [List.mem_singleton.mp hd]; exact ⟨h1, h2, hs⟩
            . rw [List.map_append]
              exact zx.append (.cons zk .nil)
    . cases e
end
def Ck' (K : PySem.W.Frag) (neg : Bool) : R2 := fun y x H Q => ∃ a ov, x = .ref a /\ DLk K H a y ov /\ Q (.bl (ov.isSome != neg)) H
def CT' (K : PySem.W.Frag) : R2 := fun x y H Q => ∃ a v, x = .ref a /\ DLk K H a y (some v) /\ Q v H
section
variable {X : Cx} {W : WX} {pos tpos : Pos} {a b o i : Expr} {ma mb mo mi : M.ME} {σ : St} {H : Hp} {Q : VK}
theorem vA' (hw : X.prog = Wd.P /\ X.w = Wd.w) (hu : X.A.units + 64 < cLine) : OpR X (compareOp .NotIn) (Ck' X.K true) := by
  intro pins s σ H y x iv u Q I ry rx h
  obtain ⟨a, ov, ex, g, q⟩ := h
  subst ex
  cases (show u = Value.ref a from rx)
  exact yQ' hw hu I g ry fun s' I' => ⟨.bl (ov.isSome != true), H, I', by rw [Bool.bne_true]; exact rfl, q⟩
theorem tn' {neg : Bool} {i : Nat} (h : qE X.K W (M.rs' neg i ma) σ H Q) : tOp (Ck' X.K neg) (qE X.K W ma) (tVar i) σ H Q := by
  obtain ⟨ρ, F, T, fr, rel, h⟩ := h
  refine az' rel h fun dk ρ1 y H1 F1 T1 e1 zk r1 h1 => ?_
  split at h1
  . rename_i o e
    obtain ⟨dz, ez, q⟩ := aU'.ofO h1
    obtain ⟨r, er, rfl⟩ := Option.map_eq_some_iff.mp ez
    obtain ⟨fe, fw, re, rw, f⟩ := id r1
    obtain ⟨u, f1, f2, f3, g1, rfl, g3, _, _⟩ := re.get e (M.do' (fun z => by rw [z] at er; exact nomatch (show (none : Option (Option M.O)) = some r from er)) (fun z => by rw [z] at er; exact nomatch (show (none : Option (Option M.O)) = some r from er)))
    have f' : FpH F1 H1 (f2 ++ (f1 ++ (f3 ++ (fw ++ fr)))) := f.part (by walk_at "parts")
    obtain ⟨p, ov, rfl, g, a1, _⟩ := qW' f' g3 zk er
    refine ⟨_, g1, p, ov, rfl, g, ?_⟩
    rw [a1]
    exact q _ H1 F1 T1 e1 (.bl _) r1
  . exact h1.elim
theorem x1' {te ti : TE} (hw : X.prog = Wd.P /\ X.w = Wd.w) (hu : X.A.units + 64 < cLine) (ho : PE X o te) (hi : PE X i ti) (hs : NoSl i) : PE X (.Subscript o i pos) (tOp (CT' X.K) te ti) := by
  refine ⟨fun pins s σ H Q I h => subD_of PySem.F.slot_dict_getitem.lookup hs (thn (ho.run pins s σ H _ I h) fun u s1 ⟨x, H1, I1, rx, q1⟩ => thn (hi.run pins s1 σ H1 _ I1 q1) fun iv s2 ⟨y, H2, I2, ry, q2⟩ => ?_)⟩
  obtain ⟨a, v, ex, g, q2⟩ := q2
  subst ex
  cases (show u = Value.ref a from rx)
  exact ⟨v9' hw I2 g, yR' hw hu I2 g ry fun w' s3 I3 rw' => ⟨v, H2, I3, rw', q2⟩⟩
theorem cl' {n : Nat} (hw : X.prog = Wd.P /\ X.w = Wd.w) (hu : X.A.units + 64 < cLine) (hv : PE X o (tVar n)) (hi : SE X W i mi) (hs : NoSl i) : SE X W (.Subscript o i pos) (M.ig' n mi) :=
  PE.imp (x1' hw hu hv hi hs) fun σ H Q ⟨ρ, F, T, fr, rel, h⟩ => by
    unfold M.ig' at h
    split at h
    . rename_i o0 e0
      obtain ⟨fe, fw, re, rw, f⟩ := id rel
      obtain ⟨v, h1⟩ := re.val e0
      refine ⟨v, h1, az' rel h fun dk ρ1 y H1 F1 T1 e1 zk r1 h2 => ?_⟩
      split at h2
      . rename_i o e2
        obtain ⟨dz, ez, q⟩ := aU'.ofO h2
        obtain ⟨fe', fw', re', rw', f'⟩ := id r1
        obtain ⟨u, f1', f2', f3', h1', rfl, h3', _⟩ := re'.get e2 (M.do' (fun z => by rw [z] at ez; exact nomatch (show (none : Option M.D) = some dz from ez)) fun z => by rw [z] at ez; exact nomatch (show (none : Option M.D) = some dz from ez))
        rw [h1] at h1'
        cases h1'
        have f4 : FpH F1 H1 (f2' ++ (f1' ++ (f3' ++ (fw' ++ fr)))) := f'.part (by walk_at "parts")
        obtain ⟨r, er, hr⟩ : ∃ r, M.cd' o dk = some r /\ r = some (.fz dz) := by
          unfold M.rN' at ez
          split at ez
          . rename_i d er
            cases ez
            exact ⟨_, er, rfl⟩
          . cases ez
        obtain ⟨p, ov, rfl, g, _, a2⟩ := qW' f4 h3' zk er
        obtain ⟨w, rfl, zw⟩ := a2 dz hr
        exact ⟨p, w, rfl, g, q w H1 F1 T1 e1 zw r1⟩
      . exact h2.elim
    . exact h.elim
theorem Rel.slotX {K : PySem.W.Frag} {ρ : M.PSt} {F : Hp} {T : List Addr} {fr : Fp} {i : Nat} {o : M.O} {v : V} (rel : Rel K ρ σ H F T fr) (e : ρ.env[i]? = some (some o)) (hp : σ[i]? = some (some v)) (hne : M.Ax' o = true := by first | assumption | rfl) :
    ∃ f2 fz, Rp K F T v o f2 /\ FpH F H (f2 ++ (fz ++ fr)) /\ ∀ p h0 f0 h1 o' f1 fr', f2 = (p, h0) :: f0 -> v = .ref p -> Rp K F T v o' ((p, h1) :: f1) -> Part (f1 ++ fr') (f0 ++ fr) -> Rel K ⟨ρ.env.set i (some o'), ρ.w⟩ σ (upd H p h1) F T fr' := by
  obtain ⟨fe, fw, re, rw, f⟩ := rel
  obtain ⟨v', f1, f2, f3, g1, rfl, g3, _, g5⟩ := re.get e
  rw [g1] at hp
  cases hp
  refine ⟨f2, f1 ++ (f3 ++ fw), g3, f.part (by walk_at "parts"), ?_⟩
  intro p h0 f0 h1 o' f1' fr' e2 ev r pt
  subst e2 ev
  have e5 := g5 F T (.ref p) o' ((p, h1) :: f1') .refl r
  rw [eB' g1] at e5
  refine ⟨_, fw, e5, rw, ?_⟩
  have fA : FpH F H (f1 ++ ((p, h0) :: (f3 ++ (fw ++ (f0 ++ fr))))) := f.part (by walk_at "parts")
  have fB := fA.write (o' := h1)
  have pm := pt.m
  have pc := pt.c
  refine fB.part ?_
  constructor
  . intro e h
    have := pm e
    simp only [List.mem_append, List.mem_cons] at *
    grind
  . intro x
    have := pc x
    simp only [keys, List.map_append, List.map_cons, List.count_append, List.count_cons] at *
    omega
theorem sy' {value : Expr} {te ti tv : TE} (hwd : X.prog = Wd.P /\ X.w = Wd.w) (hu : X.A.units + 64 < cLine) (ho : PE X o te) (hi : PE X i ti) (hv : PE X value tv) (hs : swapsWith value (some (.Subscript o i tpos)) pos.line X.env = pure false) :
    PS X (.Assign [.Subscript o i tpos] value pos) (fun D σ H => tv σ H fun v H1 => te σ H1 fun x H2 => ti σ H2 fun y H3 => ∃ a, x = .ref a /\ DSt X.K H3 a y v (fun H4 => D.nx σ H4)) := by
  refine ⟨fun pins s σ H D I h => wpAny_Assign_Subscript (thn (hv.run pins s σ H _ I h) fun r s1 ⟨v, H1, I1, rv, q1⟩ => thn (ho.run pins s1 σ H1 _ I1 q1) fun u s2 ⟨x, H2, I2, rx, q2⟩ => thn (hi.run pins s2 σ H2 _ I2 q2) fun iv s3 ⟨y, H3, I3, ry, q3⟩ => ?_) hs⟩
  obtain ⟨a, ex, g⟩ := q3
  subst ex
  cases (show u = Value.ref a from rx)
  exact yP' hwd hu I3 g ry rv fun H4 s4 I4 q4 => ⟨σ, H4, I4, q4⟩
theorem qA' {o o' ov : M.O} {dk : M.D} (h : M.eH' o dk ov = some o') {K : PySem.W.Frag} {F : Hp} {T : List Addr} {v : V} {fp : Fp} (q : Rp K F T v o fp) : ∃ p h0 f0, v = .ref p /\ fp = (p, h0) :: f0 := by
  cases q with
  | fz z => cases h
  | lst _ => exact ⟨_, _, _, rfl, rfl⟩
  | tup _ => exact ⟨_, _, _, rfl, rfl⟩
  | dct _ _ => exact ⟨_, _, _, rfl, rfl⟩
  | dcl _ _ => exact ⟨_, _, _, rfl, rfl⟩
  | dcn _ _ _ => exact ⟨_, _, _, rfl, rfl⟩
theorem d3' {n : Nat} (hwd : X.prog = Wd.P /\ X.w = Wd.w) (hu : X.A.units + 64 < cLine) (ha : SE X W a ma) (ho : PE X o (tVar n)) (hi : SE X W i mi) (hs : swapsWith a (some (.Subscript o i tpos)) pos.line X.env = pure false := by rfl) :
    SS X W (.Assign [.Subscript o i tpos] a pos) (M.na' n mi ma) := PS.imp (sy' hwd hu ho hi ha hs) fun D σ H ⟨ρ, F, T, fr, rel, h⟩ => by
  refine dt' rel h fun d ρ1 v H1 F1 T1 e1 z1 r1 h1 => ?_
  split at h1
  . rename_i o0 e0
    obtain ⟨fe, fw, re, rw, f⟩ := id r1
    obtain ⟨x, g1⟩ := re.val e0
    refine ⟨x, g1, dt' r1 h1 fun dk ρ2 y H2 F2 T2 e2 zk r2 h2 => ?_⟩
    split at h2
    . rename_i o1 e3
      split at h2
      . rename_i o' eo
        obtain ⟨f2', fz, q1, q2, q3⟩ := r2.slotX e3 g1 (M.do' (fun z => by rw [z] at eo; exact nomatch (show (none : Option M.O) = some o' from eo)) (fun z => by rw [z] at eo; exact nomatch (show (none : Option M.O) = some o' from eo)))
        obtain ⟨p, h0, f0, rfl, rfl⟩ := qA' eo q1
        have hp := xZ' (fr := fz ++ fr) q2 q1 zk (.fz (z1.mono e2)) eo
        refine ⟨p, rfl, hp.2 _ fun h1' f1' r3 pt => ?_⟩
        refine h2 σ _ F2 T2 .refl (q3 p h0 f0 h1' o' f1' fr rfl rfl r3 (.app ?_ .refl))
        simpa using pt
      . exact h2.elim
    . exact h2.elim
  . exact h1.elim
theorem p5' (hwd : X.prog = Wd.P /\ X.w = Wd.w) : SO X W (.Dict [] [] pos) M.qM' := by
  refine ⟨fun pins s σ H Q I ⟨ρ, F, T, fr, rel, h⟩ => wpAny_Dict_empty ⟨.ref s.heap.objs.size, upd H s.heap.objs.size (dcL s.heap.objs.size []), ?_, rfl, ?_⟩⟩
  . refine I.laid (a := s.heap.objs.size) (t' := s.toks) (fun _ _ q => Heap.get?_push_of_some _ q) (Nat.le_refl _) ?_
    rw [hwd.2]
    exact lw' (Nat.zero_le _) (beq_eq_false_iff_ne.mpr (Ne.symm (Nat.ne_of_lt I.big))) .nil (Heap.DictOf.new s.heap)
  . have z : Rp X.K F T (.ref s.heap.objs.size) (.dcx [] []) [(s.heap.objs.size, dcL s.heap.objs.size [])] := Rp.dcl (kvs := []) ⟨rfl, fun _ h => nomatch h⟩ .nil
    exact h _ _ F T _ .refl z (rel.own (I.hok.fresh (Nat.le_refl _)))
def xr' (K : PySem.W.Frag) (tk tv : TE) : TE := fun σ H Q => ∀ p, H p = none -> tPairs [(tk, tv)] σ (upd H p (.dK [])) fun ps H2 => H2 p = some (.dK []) /\ ∃ b k v, ps = [(.ref b, v)] /\ NkV K H2 (.ref b) k /\ k.depth <= 8 /\ Q (.ref p) (upd H2 p (dcN p [(k, b, v)]))
theorem rc' {pins : List (Addr × Obj)} {s : Shared} {p : Addr} (I : Inv X pins σ H s) (h : H p = some (.dK [])) : (p == sysModules) = false /\ s.heap.DictOfH (nestedKind X.prog X.w) p [] := by
  obtain ⟨_, hd, vs, rel, dd⟩ := dk_of I.hok h
  cases rel
  obtain ⟨o, ⟨l⟩, ep, g1, g2, g3, g4, g5, g6⟩ := id dd
  have e : l = [] := by
    have g5 : PySem.Pairs (mixKind X.prog X.w) l [] := g5
    cases g5
    rfl
  subst e
  exact ⟨hd, o, _, ep, g1, g2, g3, rfl, (fun _ z => nomatch z), List.nodup_nil⟩
theorem sE' {k e : Expr} {tk tv : TE} (hwd : X.prog = Wd.P /\ X.w = Wd.w) (hu : X.A.units + 64 < cLine) (hk : PE X k tk) (hv : PE X e tv) : PE X (.Dict [some k] [e] pos) (xr' X.K tk tv) := by
  refine ⟨fun pins s σ H Q I q => ?_⟩
  have J := I.laid (a := s.heap.objs.size) (o := .dK []) (h' := s.heap.push { cls := .type "dict", data := .dict #[] }) (t' := s.toks) (fun _ _ q => Heap.get?_push_of_some _ q) (Nat.le_refl _) (dk_empty s.heap I.big)
  have run := (pps_cons (pos := pos) hk hv pps_nil).run pins _ σ _ _ J (q _ (I.hok.fresh (Nat.le_refl s.heap.objs.size)))
  rw [arm_eval_Dict, zip_pairTrees [some k] [e] X.env pos rfl rfl, dictDisplay_pairs (pairTrees [some k] [e] X.env pos) (by rintro ⟨⟩) (by show 1 < 17; decide)]
  refine wpAny_bind (wpAny_standAt (wpAny_bind (wpAny_subDictH (knd := nestedKind X.prog X.w) (Q := fun d s' => wpAny (model X.prog X.w) X.A (pure (Value.ref d)) (EP X pins σ Q) X.xe s') (by show X.A.units + 8 < cLine; omega) (by show 1 <= 15; decide) ?_)))
  refine thn run fun vs s1 ⟨ps, H2, I2, rel, e0, b, nk, v, ep, h1, h2, q2⟩ => ?_
  subst ep
  cases rel with
  | @cons _ uv _ _ r rn =>
    cases rn
    obtain ⟨ku, vu⟩ := uv
    obtain ⟨r1, r2⟩ := r
    cases (show ku = Value.ref b from r1)
    obtain ⟨hd, dd⟩ := rc' I2 e0
    refine ⟨[(nk, b, vu)], ⟨rfl, rfl, ⟨h1.is I2 rfl, h2⟩, trivial⟩, dd, fun h' tk' dd' hs => wpAny_pure ⟨V.ref s.heap.objs.size, _, d_write I2 (by rw [e0]; exact True.intro) hs (let ⟨q, _, _, hq, _⟩ := dd'; ⟨q, hq⟩) ?_, rfl, q2⟩⟩
    have dd' : h'.DictOfH (nestedKind X.prog X.w) s.heap.objs.size [(nk, b, vu)] := dd'
    rw [hwd.1, hwd.2] at dd'
    rw [hwd.2]
    exact lv' (by rw [sizeLine_eq]; show 1 <= 16777216; decide) hd (.cons ⟨rfl, rfl, r2⟩ .nil) dd'
theorem jN' {k e : Expr} {mk me : M.ME} (hwd : X.prog = Wd.P /\ X.w = Wd.w) (hu : X.A.units + 64 < cLine) (hk : SE X W k mk) (hv : SE X W e me) : SO X W (.Dict [some k] [e] pos) (M.fO' true mk me) :=
  PE.imp (sE' hwd hu hk hv) fun σ H Q ⟨ρ, F, T, fr, rel, h⟩ => fun p hp => by
    have fr1 : Part fr ((p, HO.dK []) :: fr) := by walk_at "parts"
    refine ⟨ρ, F, T, (p, .dK []) :: fr, rel.own hp, (aU'.bind h).mono (fun dk ρ1 h1 y H1 F1 T1 e1 zk r1 => ?_) fun _ _ z => z.frame fr1⟩
    refine ⟨ρ1, F1, T1, (p, .dK []) :: fr, r1, (aU'.bind (h1.mono (fun _ _ z => z) fun _ _ z => z)).mono (fun d ρ2 h2 v H2 F2 T2 e2 zv r2 => ?_) fun _ _ z => (z.mono e1).frame fr1⟩
    obtain ⟨o, eo, q⟩ := aU'.ofO h2
    simp only [M.fM', if_true] at eo
    split at eo
    . rename_i hc
      obtain ⟨c1, c2, c3⟩ := hc
      cases eo
      have zk' := zk.mono e2
      obtain ⟨b, rfl⟩ := jS' zk c1 c3
      obtain ⟨fe, fw, re, rw', f⟩ := id r2
      obtain ⟨n1, n2⟩ := j6' f.low zk' c1 c2
      refine ⟨r2.at_ (e := (p, .dK [])) List.mem_cons_self, b, _, v, rfl, n1, n2, ?_⟩
      refine q (.ref p) _ F2 T2 [(p, dcN p [(nk dk, b, v)])] (e1.trans e2) ?_ ?_
      . refine .dcn (xs := [(nk dk, b, v)]) ⟨rfl, fun d hd => by rw [List.mem_singleton.mp hd]; exact ⟨c1, c2, c3⟩⟩ (.cons zk' .nil) ?_
        exact (RpA.cons (fp := []) (fq := []) (.fz zv) .nil)
      . exact r2.write
    . cases eo
theorem p4' {k e : Expr} {mk me : M.ME} (hk : SE X W k mk) (hv : SE X W e me) : SO X W (.Dict [some k] [e] pos) (M.fO' false mk me) :=
  PE.imp (pe_disp (pps_cons hk hv pps_nil) rfl rfl (by intro z; cases z) (by simp)) fun σ H Q ⟨ρ, F, T, fr, rel, h⟩ => fun p hp => by
    have fr1 : Part fr ((p, HO.dK []) :: fr) := by walk_at "parts"
    refine ⟨ρ, F, T, (p, .dK []) :: fr, rel.own hp, (aU'.bind h).mono (fun dk ρ1 h1 y H1 F1 T1 e1 zk r1 => ?_) fun _ _ z => z.frame fr1⟩
    refine ⟨ρ1, F1, T1, (p, .dK []) :: fr, r1, (aU'.bind (h1.mono (fun _ _ z => z) fun _ _ z => z)).mono (fun d ρ2 h2 v H2 F2 T2 e2 zv r2 => ?_) fun _ _ z => (z.mono e1).frame fr1⟩
    obtain ⟨o, eo, q⟩ := aU'.ofO h2
    simp only [M.fM', Bool.false_eq_true, if_false] at eo
    split at eo
    . rename_i hc
      cases eo
      obtain ⟨key, hk⟩ := kh' hc
      have e3 := ke' zk hk
      have e4 := gV' hk
      subst e3 e4
      refine ⟨r2.at_ (e := (p, .dK [])) List.mem_cons_self, [(key, v)], rfl, (by show 1 <= 15; decide), ?_⟩
      refine q (.ref p) _ F2 T2 [(p, .dK [(key, v)])] (e1.trans e2) ?_ ?_
      . exact .dct (kvs := [(key, v)]) (fun p hp => by rw [List.mem_singleton.mp hp]; exact nq' zk) (RpA.cons (fp := []) (fq := []) (.fz zv) .nil)
      . exact r2.write
    . cases eo
theorem sk' {n : Nat} {e f : Expr} {me mf : M.ME} {apos cpos : Pos} (hv : PE X o (tVar n)) (he : SE X W e me) (hf : SE X W f mf) (m : M2 X o "setdefault" apos e f cpos) :
    SE X W (.Call (.Attribute o "setdefault" apos) [e, f] [] cpos) (M.if' n me mf) := PE.imp (pe_dsetd hv he hf m) fun σ H Q ⟨ρ, F, T, fr, rel, h⟩ => by
  unfold M.if' at h
  split at h
  . rename_i ks0 os0 e0
    obtain ⟨fe, fw, re, rw, f⟩ := id rel
    obtain ⟨x, f1, f2, f3, g1, eq, g3, _⟩ := re.get e0
    cases g3 with
    | @dct p kvs0 _ fp0 okk0 ra0 =>
      have hH0 : H p = some (.dK kvs0) := (f.at_ (p, .dK kvs0) (by rw [eq]; simp)).1
      refine ⟨_, g1, p, rfl, .inl ⟨_, .inl hH0⟩, az' rel h fun dk ρ1 y H1 F1 T1 e1 zk r1 h1 => az' r1 h1 fun d ρ2 z H2 F2 T2 e2 zd r2 h2 => ?_⟩
      split at h2
      . rename_i ks os e3
        split at h2
        . rename_i hc
          obtain ⟨hk, hl⟩ := hc
          obtain ⟨f2', fz, q1, q2, q3⟩ := r2.slotX e3 g1
          cases q1 with
          | @dct _ kvs _ fp1 okk ra =>
            have hH : H2 p = some (.dK kvs) := (q2.at_ (p, .dK kvs) (by simp)).1
            obtain ⟨key, hkey⟩ := kh' hk
            have e4 := ke' zk hkey
            have e5 := gV' hkey
            subst e4 e5
            rw [List.length_map] at hl
            have hv := d9' (ib' (kvs := kvs) key)
            obtain ⟨a1, a2⟩ := ra.dget (ks := kvs.map fun p => kD p.1) (dk := kD key)
            refine ⟨kvs, key, hH, rfl, by rw [bL']; exact hl, fun v ev => ?_, fun ev => ?_⟩
            . rw [hv] at ev
              rw [ev] at a1
              split at h2
              . rename_i d' ed
                obtain ⟨u, g4, g5⟩ := a2 d' ed
                rw [ev] at g4
                cases g4
                exact h2 v H2 F2 T2 (e1.trans e2) g5 r2
              . exact h2.elim
              . rename_i ed
                rw [ed] at a1
                cases a1
            . rw [hv] at ev
              rw [ev] at a1
              split at h2
              . rename_i d' ed
                rw [ed] at a1
                cases a1
              . exact h2.elim
              . have hn : M.gg' (kvs.map fun p => kD p.1) (kD key) = none := by
                  unfold M.dget at ev
                  cases q : M.gg' (kvs.map fun p => kD p.1) (kD key) with
                  | none => rfl
                  | some j =>
                    rw [q, Option.bind_some] at ev
                    unfold M.gg' at q
                    have hj := (List.findIdx?_eq_some_iff_getElem.mp q).1
                    rw [List.length_map] at hj
                    rw [List.getElem?_eq_getElem (by rw [List.length_map]; exact hj)] at ev
                    cases ev
                have hp : putK kvs key z = kvs ++ [(key, z)] := putK_new z (by rw [hv]; exact ev)
                rw [hp]
                refine h2 z _ F2 T2 (e1.trans e2) zd (q3 p _ fp1 (.dK (kvs ++ [(key, z)])) (.dct ((kvs.map fun p => kD p.1) ++ [kD key]) (os ++ [.fz d])) fp1 fr rfl rfl ?_ (.app .refl .refl))
                have r5 := ra.app (RpA.cons (fp := []) (fq := []) (.fz zd) .nil)
                rw [List.append_nil, List.append_nil] at r5
                have e6 : ((kvs.map fun p => kD p.1) ++ [kD key]) = (kvs ++ [(key, z)]).map fun p => kD p.1 := by simp
                rw [e6]
                exact .dct (okk.snoc (nq' zk)) (by simpa using r5)
        . exact h2.elim
      . exact h2.elim
  . exact h.elim
end
end S
namespace S
open PySem PySem.Spec PyProof.Rows L2
variable [Wd] [Hot]
section
variable {K : PySem.W.Frag} {F F' H H' : Hp} {T T' : List Addr} {fp fq fr : Fp} {ρ : M.PSt} {σ : St} {W : WX} {Q : VK}
theorem FpH.lock {d : Addr} {u : HO} {od : Obj} (hl : Lkb u) (f : FpH F H fp) (h : F d = some u) : FpH (upd F d (.frz od u)) (upd H d (.frz od u)) fp := by
  have np : ∀ e ∈ fp, e.1 ≠ d := fun e he z => by have := (f.at_ e he).2; rw [z, h] at this; cases this
  refine ⟨fun a u e => ?_, fun e he => ?_, f.nd, f.tbs (fun a h1 h2 h3 => ?_) fun c q hc => ?_⟩
  rotate_left 3
  . rcases hc with hc | ⟨o, hc⟩
    . by_cases ha : c = d
      . subst ha
        rw [h] at hc
        cases hc
        exact .inr ⟨od, upd_same⟩
      . exact .inl (by rw [upd_ne ha]; exact hc)
    . by_cases ha : c = d
      . subst ha
        rw [h] at hc
        cases hc
        rcases hl with ⟨_, e⟩ | ⟨_, e⟩ <;> cases e
      . exact .inr ⟨o, by rw [upd_ne ha]; exact hc⟩
  . by_cases ha : a = d
    . subst ha; rw [upd_same] at e ⊢; exact e
    . rw [upd_ne ha] at e ⊢; exact f.low _ _ e
  . rw [upd_ne (np e he), upd_ne (np e he)]; exact f.at_ e he
  . have ha : a ≠ d := fun z => by rw [z, h] at h1; cases h1
    exact ⟨by rw [upd_ne ha]; exact h1, upd_ne ha, h3⟩
theorem Wk.lock {d : Addr} {u : HO} {od : Obj} (hl : Lkb u) (h : F d = some u) : Wk F (upd F d (.frz od u)) := fun a o e => by
  by_cases ha : a = d
  . subst ha
    rw [h] at e
    cases e
    exact .inr ⟨hl, od, upd_same⟩
  . exact .inl (by rw [upd_ne ha]; exact e)
theorem Rel.lock {d : Addr} {u : HO} {od : Obj} (hl : Lkb u) (r : Rel K ρ σ H F T fr) (h : F d = some u) : Rel K ρ σ (upd H d (.frz od u)) (upd F d (.frz od u)) T fr := by
  obtain ⟨fe, fw, re, rw, f⟩ := r
  have e : Ext F T (upd F d (.frz od u)) T := ⟨.lock hl h, List.prefix_refl _⟩
  exact ⟨fe, fw, re.mono e, rw.mono e, f.lock hl h⟩
def tLk (te : TE) : TE := fun σ H Q => te σ H fun x H1 => (∃ d u, x = .ref d /\ H1 d = some u /\ Mut (some u) /\ ∀ od, Q x (upd H1 d (.frz od u))) \/ Q x H1
theorem AS' {X : Cx} {e : Expr} {te : TE} (h : PE X e te) : PE X e (tLk te) := by
  refine ⟨fun pins s σ H Q I q => thn (h.run pins s σ H _ I q) fun u s1 ⟨x, H1, I1, rx, q1⟩ => ?_⟩
  rcases q1 with ⟨d, v, rfl, hd, mu, q1⟩ | q1
  . obtain ⟨od, I2⟩ := I1.lock hd mu
    exact ⟨_, _, I2, rx, q1 od⟩
  . exact ⟨x, H1, I1, rx, q1⟩
theorem vK' {ma : M.ME} {G : M.D -> Option (List M.D)} {R : List M.D -> M.PSt -> Prop} {W : WX} {P : V -> Hp -> Prop} (hG : ∀ d ds, G d = some ds -> ∃ ks vs, d = .dct ks vs)
    (rel : Rel K ρ σ H F T fr) (h : aU' ((ma ρ).bind fun x ρ1 => M.ofO (G x) ρ1) R (EX K W σ F T fr))
    (k : ∀ d o kvs ds vs H' F' T' ρ', Ext F T F' T' -> F' d = some (.frz o (.dK kvs)) -> kU' kvs -> FzA K F' T' (kvs.map (·.2)) vs -> G (.dct (kvs.map fun p => kD p.1) vs) = some ds -> Rel K ρ' σ H' F' T' fr -> R ds ρ' -> P (.ref d) H') : tLk (qE K W ma) σ H P := by
  refine ⟨ρ, F, T, fr, rel, (aU'.bind h).mono (fun dx ρ1 h1 v H1 F1 T1 e1 z1 r1 => ?_) fun _ _ z => z⟩
  obtain ⟨ds, eg, hR⟩ := aU'.ofO h1
  obtain ⟨ks, vs, rfl⟩ := hG _ _ eg
  cases z1 with
  | @dct a kvs _ hd ok za =>
    rcases hd with hd | ⟨o, hd⟩
    . refine .inl ⟨a, .dK kvs, rfl, ?_, True.intro, fun od => ?_⟩
      . obtain ⟨fp, f, _⟩ := r1.fp
        exact f.low _ _ hd
      . have e2 : Ext F1 T1 (upd F1 a (.frz od (.dK kvs))) T1 := ⟨.lock (.inl ⟨_, rfl⟩) hd, List.prefix_refl _⟩
        exact k a od kvs ds vs _ _ T1 ρ1 (e1.trans e2) upd_same ok (za.mono e2) eg (r1.lock (.inl ⟨_, rfl⟩) hd) hR
    . exact .inr (k a o kvs ds vs _ _ T1 ρ1 e1 hd ok za eg r1 hR)
theorem Wk.frz {a : Addr} {o : Obj} {u : HO} (s : Wk F F') (h : F a = some (.frz o u)) : F' a = some (.frz o u) := s.at_ h fun _ e => nomatch e
theorem yG' {p : Key} (h : okK p) : Fz K F T (kV p) (kD p) := by
  cases p with
  | inl i => exact .int i
  | inr x =>
    have := Fz.str (K := K) (F := F) (T := T) (s := x.cps.toList) h
    rw [u1'] at this
    exact this
theorem sW' {d : Addr} {o : Obj} {kvs : List (Key × V)} {vs : List M.D} (hd : F d = some (.frz o (.dK kvs))) (ok : kU' kvs) (za : FzA K F T (kvs.map (·.2)) vs) : je' K (Iti d o kvs) (M.dk' (kvs.map fun p => kD p.1) vs) F T := by
  have hl := za.length
  rw [List.length_map] at hl
  refine iS' (fun F' T' H' fp i e f hi => ?_) fun F' T' H' fp i dx dy e f h1 h2 => ?_
  . rw [List.length_map] at hi
    exact ⟨f.low _ _ (e.f.frz hd), by omega⟩
  . rw [List.getElem?_map] at h1
    obtain ⟨p, hp, rfl⟩ := Option.map_eq_some_iff.mp h1
    obtain ⟨v, g1, g2⟩ := za.get h2
    rw [List.getElem?_map, hp] at g1
    cases g1
    refine ⟨⟨f.low _ _ (e.f.frz hd), (List.getElem?_eq_some_iff.mp hp).1⟩, ?_⟩
    rintro x H2 ⟨T0, k, v', ek, rfl, hT, rfl⟩
    rw [hp] at ek
    cases ek
    exact ⟨T0, _, _, rfl, hT, rfl, yG' (ok _ (List.mem_of_getElem? hp)), g2.mono e⟩
end
section
variable {X : Cx} {W : WX} {tg a : Expr} {ma : M.ME} {apos cpos : Pos}
theorem sh' {elts : List Expr} {kk : Nat} {tpos : Pos} (ha : SE X W a ma) (hbase : attributeBase a "items" X.env (eval a X.env) = eval a X.env := by rfl) (hline : (apos.endLine == cpos.line) = true := by rfl) :
    SI X W (.Tuple elts kk tpos) (.Call (.Attribute a "items" apos) [] [] cpos) (M.rk' M.ry' ma) := PI.imp (pi_items (AS' ha) hbase hline) fun σ H R ⟨ρ, F, T, fr, rel, h⟩ => by
  refine vK' (fun d ds e => by cases d <;> first | exact ⟨_, _, rfl⟩ | (cases e)) rel h fun d o kvs ds vs H' F' T' ρ' e hd ok za eg r hR => ?_
  cases eg
  obtain ⟨fp, f, _⟩ := r.fp
  exact ⟨d, o, kvs, rfl, f.low _ _ hd, hR _ _ _ _ e (sW' hd ok za) r⟩
end
section
variable {K : PySem.W.Frag} {F F' H H' : Hp} {T T' : List Addr} {fp fq fr : Fp} {ρ : M.PSt} {σ : St} {W : WX}
def zN' (K : PySem.W.Frag) (sl : List Nat) (g : M.MG) (t : M.MT) (ek ev : M.ME) (ds : List M.D) (σ : St) (D : Addr) (fr : Fp) (F1 : Hp) (T1 : List Addr) (P : List M.D × List M.D -> M.PSt -> Prop) (Y : Wx) (i : Nat) (H : Hp) : Prop :=
  i <= ds.length /\ ∃ ρ' F' T' kvs vs, Ext F1 T1 F' T' /\ (kvs.map (·.1)).Nodup /\ kU' kvs /\ FzA K F' T' (kvs.map (·.2)) vs /\ Rel K ⟨M.aD' sl ρ'.env, ρ'.w⟩ (wipe σ sl) H F' T' ((D, .dK kvs) :: fr) ∧
    aU' (M.dcL sl g t ek ev (ds.drop i) (kvs.map fun p => kD p.1) vs ρ') P Y
theorem wa' {sl : List Nat} {it : M.MI} {g : M.MG} {t : M.MT} {ek ev : M.ME} {Q : VK} (h : qO K W (M.oDc sl it g t ek ev) σ H Q) : tDc (qI K W it) (qG K sl g) (qT K W0 t) (qE K W0 ek) (qE K W0 ev) sl σ H Q := by
  obtain ⟨ρ, F, T, fr, rel, h⟩ := h
  refine ⟨ρ, F, T, fr, rel, (aU'.bind h).mono (fun ds ρ1 h1 J H1 F1 T1 e1 io r1 => ?_) fun _ _ z => z⟩
  intro D hD
  have h2 := aU'.bind h1
  refine ⟨fun i m H => m = ds.length - i /\ zN' K sl g t ek ev ds σ D fr F1 T1 _ _ i H, ⟨ds.length, by simp, Nat.zero_le _, ρ1, F1, T1, [], [], .refl, List.nodup_nil, .nil, .nil, (r1.wiped sl).own hD, h2⟩, ?_⟩
  rintro i m H2 ⟨rfl, hi, ρ2, F2, T2, kvs, vs, e2, nd, okk, za, r2, h3⟩
  have hH : H2 D = some (.dK kvs) := r2.at_ (e := (D, .dK kvs)) List.mem_cons_self
  obtain ⟨fp2, f2, _⟩ := r2.fp
  by_cases hl : i = ds.length
  . refine .inl ⟨(io F2 T2 H2 fp2 i e2 f2 hi).1 hl, ?_⟩
    rw [hl, List.drop_length] at h3
    have h4 : aU' (M.dcL sl g t ek ev [] _ vs ρ2) _ _ := h3
    unfold M.dcL at h4
    have h5 := h4
    refine h5 (.ref D) H2 F2 T2 ((D, .dK kvs) :: []) (e1.trans e2) ?_ ?_
    . exact .dct okk (RpA.of_fz za)
    . obtain ⟨fe, fw, re, rw, f⟩ := r2
      have re1 : RpE K F2 T2 σ (M.aD' sl ρ2.env) fe := by
        refine re.other ?_ fun j o hj => (ga' (e9' hj)).symm
        rw [wipe_length]
      obtain ⟨fe0, fw0, re0, rw0, f0⟩ := r1
      obtain ⟨fq, h6, h7⟩ := RpE.backed (env0 := ρ1.env) (fun i d hd => by
        obtain ⟨v, hv, z⟩ := re0.data hd
        exact ⟨v, hv, z.mono e2⟩) sl re1
      exact ⟨fq, fw, h6, rw, f.part (.app h7 .refl)⟩
  . have hlt : i < ds.length := by omega
    have hd : ds[i]? = some ds[i] := List.getElem?_eq_getElem hlt
    obtain ⟨go, yl⟩ := (io F2 T2 H2 fp2 i e2 f2 hi).2 _ hd
    refine .inr ⟨go, zN' K sl g t ek ev ds σ D fr F1 T1 _ _ (i + 1), fun H' n => ⟨ds.length - (i + 1), by omega, rfl, n⟩, fun x H3 y => ?_⟩
    obtain ⟨fe, fw, re, rw, f⟩ := id r2
    obtain ⟨yg, yh⟩ := (io F2 T2 H2 _ i e2 f hi).2 _ hd
    obtain ⟨F3, s3, zx, f3⟩ := yh x H3 y
    have r3 : Rel K ⟨M.aD' sl ρ2.env, ρ2.w⟩ (wipe σ sl) H3 F3 T2 ((D, .dK kvs) :: fr) := ⟨fe, fw, re.mono (.of s3), rw.mono (.of s3), f3⟩
    rw [List.drop_eq_getElem_cons hlt] at h3
    unfold M.dcL at h3
    cases eg : g ds[i] ⟨M.aD' sl ρ2.env, ρ2.w⟩ with
    | none => rw [eg] at h3; exact h3.elim
    | some ρ3 =>
      rw [eg] at h3
      refine ⟨_, F3, T2, _, ds[i], ρ3, r3, zx, eg, fun σ4 w4 r4 => ?_⟩
      rw [ji'] at w4
      refine ⟨w4, ?_⟩
      have h4 := aU'.bind h3
      refine ⟨ρ3, F3, T2, _, r4, (aU'.noX h4).mono (fun b ρ5 h5 H5 F5 T5 e5 r5 => ?_) fun _ _ z => z⟩
      cases b with
      | false =>
        rw [if_neg Bool.false_ne_true]
        refine ⟨hlt, ρ5, F5, T5, kvs, vs, e2.trans ((Ext.of s3).trans e5), nd, okk, (za.mono (.of s3)).mono e5, ?_, h5⟩
        rw [<- w4]
        exact r5.wiped sl
      | true =>
        rw [if_pos rfl] at h5 ⊢
        have h6 := aU'.bind h5
        refine ⟨ρ5, F5, T5, _, r5, (aU'.noX h6).mono (fun dk ρ6 h7 y6 H6 F6 T6 e6 z6 r6 => ?_) fun _ _ z => z⟩
        have h8 := aU'.bind h7
        refine ⟨ρ6, F6, T6, _, r6, (aU'.noX h8).mono (fun dv ρ7 h9 y7 H7 F7 T7 e7 z7 r7 => ?_) fun _ _ z => z⟩
        split at h9
        . rename_i hc
          obtain ⟨hk, hlen⟩ := hc
          rw [List.length_map] at hlen
          have hH7 : H7 D = some (.dK kvs) := r7.at_ (e := (D, .dK kvs)) List.mem_cons_self
          obtain ⟨key, hkey⟩ := kh' hk
          have z6' := z6.mono e7
          have q1 := ke' z6' hkey
          have q2 := gV' hkey
          subst q1 q2
          have za7 := ((za.mono (.of s3)).mono e5).mono (e6.trans e7)
          have ee := e2.trans ((Ext.of s3).trans (e5.trans (e6.trans e7)))
          refine ⟨kvs, key, rfl, hH7, by rw [bL']; exact hlen, hlt, ?_⟩
          cases el : M.ni' (kvs.map fun p => kD p.1) vs (kD key) dv with
          | none => rw [el] at h9; exact h9.elim
          | some p =>
            obtain ⟨ks', vs'⟩ := p
            rw [el] at h9
            have hr := (r7.wiped sl).write (o' := .dK (putK kvs key y7))
            rw [w4] at hr
            rcases dS' el with ⟨j, ej, rfl, rfl⟩ | ⟨ej, _, rfl, rfl⟩
            . obtain ⟨g1, g2⟩ := (c1' (v := y7) (ib' key) nd).1 j ej
              refine ⟨ρ7, F7, T7, putK kvs key y7, vs.set j dv, ee, by rw [g1]; exact nd, okk.fst g1, ?_, hr, ?_⟩
              . rw [g2]
                have main : ∀ {us : List V} {ws : List M.D} (j : Nat), FzA K F7 T7 us ws -> FzA K F7 T7 (us.set j y7) (ws.set j dv) := by
                  intro us ws j h
                  induction us generalizing ws j with
                  | nil => cases h; exact .nil
                  | cons u us ih =>
                    cases h with
                    | cons a r =>
                      cases j with
                      | zero => exact .cons z7 r
                      | succ j => exact .cons a (ih j r)
                exact main j za7
              . rw [h8' g1]
                exact h9
            . have g := (c1' (v := y7) (ib' key) nd).2 ej
              have nin : key ∉ kvs.map (·.1) := by
                intro hm
                obtain ⟨p, hp, rfl⟩ := List.mem_map.mp hm
                unfold M.gg' at ej
                rw [List.findIdx?_eq_none_iff] at ej
                have := ej (kD p.1) (List.mem_map_of_mem hp)
                rw [up', decide_eq_true rfl] at this
                cases this
              rw [g] at hr ⊢
              refine ⟨ρ7, F7, T7, kvs ++ [(key, y7)], vs ++ [dv], ee, ?_, okk.snoc (nq' z6'), ?_, hr, ?_⟩
              . rw [List.map_append, List.nodup_append]
                refine ⟨nd, by simp, ?_⟩
                intro a ha b hb
                simp only [List.map_cons, List.map_nil, List.mem_singleton] at hb
                rw [hb]
                exact fun z => nin (z ▸ ha)
              . rw [List.map_append]
                exact za7.append (.cons z7 .nil)
              . rw [List.map_append]
                exact h9
        . exact h9.elim
end
section
variable {X : Cx} {W : WX} {pos : Pos} {kx vx tg iter : Expr} {ifs : List Expr} {scope : Scope} {own : List (Str × Nat)} {sl : List Nat} {it : M.MI} {g : M.MG} {t : M.MT} {ek ev : M.ME}
theorem AA' (hc : X.calm = true) (hN : X.N.Nodup) (hi : SI X W tg iter it) (ok : BlkOk X.N X.env.scope scope own) (hsl : sl = own.map (·.2))
    (hg : ∀ (s : Shared) (H : Hp) (C : Addr) (cl : List (Str × Addr)) (fp : List Addr), SG (X.blk s H scope (compEnvC scope cl C X.env) fp) tg sl g) (ht : ∀ (s : Shared) (H : Hp) (C : Addr) (cl : List (Str × Addr)) (fp : List Addr), PTs (X.blk s H scope (compEnvC scope cl C X.env) fp) ifs (qT X.K W0 t))
    (hk : ∀ (s : Shared) (H : Hp) (C : Addr) (cl : List (Str × Addr)) (fp : List Addr), SE (X.blk s H scope (compEnvC scope cl C X.env) fp) W0 kx ek) (he : ∀ (s : Shared) (H : Hp) (C : Addr) (cl : List (Str × Addr)) (fp : List Addr), SE (X.blk s H scope (compEnvC scope cl C X.env) fp) W0 vx ev)
    (hs : ∀ x, foldedSetIterable iter X.env x = pure x := by intro _; rfl) : SO X W (.DictComp kx vx [⟨tg, iter, ifs, 0⟩] scope pos) (M.oDc sl it g t ek ev) := by
  subst hsl
  exact PE.imp (pe_dc hc hN hi ok hg ht hk he hs) fun σ H Q h => wa' h
end
section
variable {K : PySem.W.Frag}
def t5' (K : PySem.W.Frag) : List V -> Hp -> VK -> Prop := fun xs H Q => ∃ (d : Addr) (ps : List (Key × V)) (ns : List Int), xs = [.ref d] /\ Rd H d (.dK ps) /\ ps.map (·.1) = ns.map Sum.inl /\ ns.length <= sizeLine ∧
    ∀ (ms : List Int) (l : Addr), ms.Perm ns -> ms.Pairwise (· <= ·) -> H l = none -> Q (.ref l) (upd H l (.lst (ms.map V.int)))
theorem il' {X : Cx} (hc : X.calm = true) : CallR X (.builtin "sorted") (t5' X.K) := by
  intro pins s σ H xs us Q I r hq
  obtain ⟨d, ps, ns, rfl, hrd, hns, hz, hq⟩ := hq
  obtain ⟨u0, rfl, ru⟩ := vals1 r
  cases ru
  obtain ⟨_, lo, vs, rel, dd⟩ := dk_rd I.hok hrd
  obtain ⟨ep0, hat⟩ := dd.dictAt
  have hk1 : vs.map (·.1) = ns.map Sum.inl := rel.keys.symm.trans hns
  have hl1 : vs.length = ns.length := by
    have := congrArg List.length hk1
    simpa using this
  refine Calls.call_function_entry kind_sorted plain_sorted entry_sorted (args_sorted1 _) ?_
  unfold Builtin.«sorted»
  refine wpAny_bind (m := checkCount "sorted" 1 1 _) (wpAny_pure ?_)
  refine wpAny_bind (PySem.W.kdu_collect (A := X.A.in1) (PySem.W.kdl_dict (knd := mixKind X.prog X.w) (kvs := vs) (ep := ep0) lo) (I.ok.hd hc) hat (by rw [hl1]; exact hz) fun hp tk keys hkeep hall => ?_)
  have hlen0 : keys.toList.length = ns.length := by rw [Array.length_toList, hall.1, hl1]
  have hI : IntsAre keys.toList ns := ints_each hlen0 fun j v ev => by
    obtain ⟨k, y, z1, z2⟩ := hall.2 j v (by rw [<- Array.getElem?_toList]; exact ev)
    have z3 : (vs.map (·.1))[j]? = some k := by rw [List.getElem?_map, z1]; rfl
    rw [hk1, List.getElem?_map] at z3
    cases z4 : ns[j]? with
    | none => rw [z4] at z3; cases z3
    | some n0 =>
      rw [z4] at z3
      obtain rfl : Sum.inl n0 = k := Option.some.inj z3
      rcases keyIs_shape (show keyIs (Sum.inl n0) v = true from z2) with ⟨i, t, ei, et⟩ | ⟨z, t, ei, et⟩
      . cases ei
        exact ⟨n0, t, rfl, et⟩
      . cases ei
  have I1 : Inv X pins σ H { s with heap := hp, toks := tk } := I.kept hkeep
  refine wpAny_bind (wpAny_newList ?_ (by rw [hlen0]; exact hz))
  have hoL : (hp.push (seqObj "list" keys.toList.toArray 0)).get? hp.objs.size = some (seqObj "list" keys.toList.toArray 0) := Heap.get?_push_size _ rfl
  show wpAny _ _ _ _ _ { s with heap := hp.push (seqObj "list" keys.toList.toArray 0), toks := tk }
  refine wpAny_bind (wpAny_holding (wpAny_call_entry slot_list_sort ⟨_, hoL, rfl⟩ entry_list_sort
    (SrtO.list_sort_ord (s := { s with heap := hp.push (seqObj "list" keys.toList.toArray 0), toks := tk }) SrtO.swo_int hoL (by rw [hlen0]; exact hz) (fun two => SrtO.ints_sortable hI two) fun out g1 g2 => ⟨_, rfl, ?_⟩) (args_list_sort _)))
  obtain ⟨y1, y2, y3⟩ := SrtO.ints_out hI g1 g2
  obtain ⟨e0, he0⟩ := sortedHeap_at (vs := keys.toList) (out := out.toArray) hoL
  have hlen : ((out.map SrtO.iv).map V.int).length <= sizeLine := by
    rw [List.length_map, y2.length_eq]; exact hz
  refine wpAny_pure ⟨_, rfl, .ref hp.objs.size, upd H hp.objs.size (.lst ((out.map SrtO.iv).map V.int)), I1.laid (t' := tk) (fun b u eb => ?_) (Nat.le_refl _)
    ⟨hlen, out, e0, vals_of_ints y1, he0⟩, rfl, hq _ _ y2 y3 (I1.hok.fresh (Nat.le_refl _))⟩
  have hb : b < hp.objs.size := Heap.lt_size eb
  rw [sortedHeap_old (Nat.ne_of_lt hb) (by rw [size_push']; exact Nat.lt_succ_of_lt hb)]
  exact Heap.get?_push_of_some _ eb
theorem ki' : ∀ {kvs : List (Key × V)} {ns : List Int}, M.bz' (kvs.map fun p => kD p.1) = some ns -> kvs.map (·.1) = ns.map Sum.inl
  | [], ns, h => by cases h; rfl
  | p :: kvs, ns, h => by
    obtain ⟨k, v⟩ := p
    cases k with
    | inl i =>
      have h : (M.bz' (kvs.map fun p => kD p.1)).map (fun x => i :: x) = some ns := h
      cases q : M.bz' (kvs.map fun p => kD p.1) with
      | none => rw [q] at h; cases h
      | some ms =>
        rw [q] at h
        cases h
        rw [List.map_cons, List.map_cons, ki' q]
    | inr x => cases (show (none : Option (List Int)) = some ns from h)
theorem rE' : Bi1 K M.dT' (t5' K) := by
  intro F H T fp x dx dz Q f hx h k
  cases dx <;> try (cases h; done)
  cases hx with
  | @dct a kvs _ hd ok za =>
    simp only [M.dT'] at h
    cases q : M.bz' (kvs.map fun p => kD p.1) with
    | none => rw [q] at h; cases h
    | some ns =>
      rw [q, Option.bind_some] at h
      split at h
      . rename_i hl
        cases h
        refine ⟨a, kvs, ns, rfl, fL' f.low hd, ki' q, hl, fun ys p hp hs hn => ?_⟩
        rw [m4' hp hs]
        exact k.newL f (FzA.rgI _) hn
      . cases h
end
def nZ' (p d : Addr) : HO := .ext fun h => h.IsValuesView p d
theorem r3' {P : Program} {w : World} {H : Hp} {h : Heap} {p d : Addr} (e : h.IsValuesView p d) : ObjOk P w H h p (nZ' p d) := by
  obtain ⟨o, e1, e2⟩ := id e
  refine ⟨e, ⟨o, e1⟩, ?_⟩
  rintro h1 h2 ⟨o', q1, q2⟩ k
  exact ⟨o', k _ q1, q2⟩
def Ay' (te : TE) : TE := fun σ H Q => te σ H fun x H1 => ∃ a kvs, x = .ref a /\ Rd H1 a (.dK kvs) /\ ∀ p, H1 p = none -> Q (.ref p) (upd H1 p (nZ' p a))
def AO' : List V -> Hp -> VK -> Prop := fun xs H Q => ∃ (p a : Addr) (kvs : List (Key × V)) (ns : List Int), xs = [.ref p] /\ H p = some (nZ' p a) /\ Rd H a (.dK kvs) /\ kvs.map Prod.snd = ns.map V.int /\ 0 < ns.length /\ ∀ m, m ∈ ns -> (∀ y, y ∈ ns -> y <= m) -> Q (.int m) H
section
variable {X : Cx} {W : WX} {e : Expr} {te : TE} {apos cpos pos p : Pos} {me : M.ME}
theorem vq' (he : PE X e te) (hbase : attributeBase e "values" X.env (eval e X.env) = eval e X.env := by rfl) (hline : (apos.endLine == cpos.line) = true := by rfl) : PE X (.Call (.Attribute e "values" apos) [] [] cpos) (Ay' te) := by
  refine ⟨fun pins s σ H Q I h => wpAny_Call_method (T := "dict") (id := "dict.values") hbase rfl hline PySem.F.plainAttrs_dict PySem.F.slot_dict_values PySem.F.type_dict_values (thn (he.run pins s σ H _ I h) fun u s1 ⟨x, H1, I1, rx, a, kvs, ex, hd, q⟩ => ?_)⟩
  subst ex
  cases (show u = Value.ref a from rx)
  obtain ⟨z, hs, vs, rel, dd⟩ := dk_rd I1.hok hd
  refine ⟨dd.typeIs, dd.mapOf.noDict, ?_⟩
  have J := I1.laid (a := s1.heap.objs.size) (o := nZ' s1.heap.objs.size a) (h' := s1.heap.push { cls := .type "dict_values", data := .fields #[.ref a] }) (t' := s1.toks) (fun _ _ q => Heap.get?_push_of_some _ q) (Nat.le_refl _)
    (r3' ⟨_, Heap.get?_push_size _ rfl, rfl, rfl⟩)
  show wpAny _ _ (callWith cpos (.builtin "dict.values") [.ref a] [] []) _ X.xe s1
  exact method_meetsIn PySem.F.slot_dict_values PySem.F.entry_dict_values rfl (PySem.evalArgs_none ⟨rfl, dd.typeIs, PySem.F.args_dict_values_1 _, _, meets_dict_values (mixKind X.prog X.w) a hs, ⟨vs, dd⟩, ⟨.ref s1.heap.objs.size, _, J, rfl, q _ (I1.hok.fresh (Nat.le_refl _))⟩⟩)
theorem wC' (hc : X.calm = true) : CallR X (.builtin "max") AO' := by
  intro pins s σ H xs us Q I rx h
  obtain ⟨p, a, kvs, ns, rfl, hp, hd, hns, hne, q⟩ := h
  rw [Vals.ref1 rx]
  obtain ⟨z, hs, vs, rel, dd⟩ := dk_rd I.hok hd
  have hv : s.heap.IsValuesView p a := (show ObjOk X.prog X.w H s.heap p (nZ' p a) from I.hok p _ hp).1
  have hkn : vs.length = ns.length := by
    have e := congrArg List.length hns
    rw [List.length_map, List.length_map] at e
    rw [<- rel.length]
    exact e
  obtain ⟨o, es, ep, g1, g2, g3, g4, g5, g6⟩ := id dd
  have da : s.heap.DictAt (mixKind X.prog X.w) a vs ep := ⟨o, es, g1, g2, g3, g4, g5, g6⟩
  have hP : ∀ (i : Nat) (k : Key) (v : Value), vs[i]? = some (k, v) -> ∃ t, v = .int (ns.getD i 0) t := by
    intro i k v hi
    have hi1 : i < vs.length := (List.getElem?_eq_some_iff.mp hi).1
    have hi2 : i < kvs.length := by rw [rel.length]; exact hi1
    have hi3 : i < ns.length := by omega
    have e2 : kvs[i].2 = V.int ns[i] := by
      have z : (kvs.map Prod.snd)[i]? = (ns.map V.int)[i]? := by rw [hns]
      rw [List.getElem?_map, List.getElem?_map, List.getElem?_eq_getElem hi2, List.getElem?_eq_getElem hi3] at z
      exact Option.some.inj z
    have e3 : ns.getD i 0 = ns[i] := by rw [List.getD_eq_getElem?_getD, List.getElem?_eq_getElem hi3]; rfl
    have main : ∀ {l : List (Key × V)} {m : List (Key × Value)} (i : Nat) (p : Key × V), KV l m -> l[i]? = some p -> ∀ q, m[i]? = some q -> RelV p.2 q.2 := by
      intro l m i p h
      unfold KV at h
      induction h generalizing i with
      | nil => intro e; cases e
      | cons r _ ih =>
        cases i with
        | zero => intro e q e'; cases e; cases e'; exact r.2
        | succ i => exact fun e q e' => ih i e q e'
    have r := main i kvs[i] rel (List.getElem?_eq_getElem hi2) _ hi
    rw [e2] at r
    rw [e3]
    exact r
  have ha : a < s.heap.objs.size := Heap.lt_size g1
  refine call_max_walk (wpAny_pyIter_values (d := a) (knd := mixKind X.prog X.w) hv da ?_)
  refine ⟨s.heap.objs.size, [s.heap.objs.size, a], [s.heap.objs.size], vs.length, fun i v => ∃ k, vs[i]? = some (k, v), _, fun i j => decide (ns.getD i 0 > ns.getD j 0), rfl,
    Walks.dictValues (knd := mixKind X.prog X.w) (show X.A.in1.handled = none from I.ok.hd hc) _ a (Nat.ne_of_lt ha) vs ep, ⟨⟨_, Heap.get?_push_size _ rfl, rfl, rfl⟩, da.push _⟩, fun b hb => ?_, by omega, CmpOf.ints_gt (fun i => ns.getD i 0) (fun i v z => (let ⟨k, z⟩ := z; hP i k v z)), fun v h' tk hv' hk => ?_⟩
  . show b < (s.heap.push _).objs.size
    rw [Heap.size_push]
    rcases List.mem_cons.mp hb with z | z
    . rw [z]; exact Nat.lt_succ_self _
    . rw [List.mem_singleton.mp z]; exact Nat.lt_succ_of_lt ha
  . obtain ⟨k, hv'⟩ := hv'
    obtain ⟨t, rfl⟩ := hP _ k v hv'
    obtain ⟨m1', m2'⟩ := argBest_gt (fun i => ns.getD i 0) (vs.length - 1)
    have m1 : argBest (fun i j => decide (ns.getD i 0 > ns.getD j 0)) (vs.length - 1) <= vs.length - 1 := m1'
    have m2 : ∀ j, j <= vs.length - 1 -> ns.getD j 0 <= ns.getD (argBest (fun i j => decide (ns.getD i 0 > ns.getD j 0)) (vs.length - 1)) 0 := m2'
    have hk2 : ∀ b o, s.heap.get? b = some o -> h'.get? b = some o := fun b o e => hk b o (fun z => by rw [List.mem_singleton.mp z] at e; exact absurd (Heap.lt_size e) (Nat.lt_irrefl _)) (Heap.get?_push_of_some _ e)
    refine ⟨.int _, H, I.kept (t' := tk) hk2, ⟨t, rfl⟩, q _ (PySem.getD_mem (by omega)) fun y hy => ?_⟩
    obtain ⟨j, hj, e⟩ := List.mem_iff_getElem.mp hy
    have z := m2 j (by omega)
    have e3 : ns.getD j 0 = y := by rw [List.getD_eq_getElem?_getD, List.getElem?_eq_getElem hj, <- e]; rfl
    rw [e3] at z
    exact z
theorem p9' {x : Str} (hc : X.calm = true) (hg : Gl X x) (hm : X.mg x = none) (hv : bootBuiltins x = some (.builtin "max")) (he : SE X W e me) (hn : x ≠ "__name__" := by decide) (hdb : (x == ("__debug__" : Str)) = false := by decide)
    (hbase : attributeBase e "values" X.env (eval e X.env) = eval e X.env := by rfl) (hline : (apos.endLine == cpos.line) = true := by rfl)
    (hs : starEach [(.Call (.Attribute e "values" apos) [] [] cpos)] X.env = (false, eval (.Call (.Attribute e "values" apos) [] [] cpos) X.env) :: starEach [] X.env := by rfl) (hpl : (backTo pos (starEach [] X.env)).any (·.1) = false := by rfl) :
    SE X W (.Call (.Name x p) [.Call (.Attribute e "values" apos) [] [] cpos] [] pos) (M.eUn M.n8' me) :=
  PE.imp (pe_callB (wC' hc) hg hm hv (pa_cons (vq' he hbase hline) pa_nil hs) hn hdb hs hpl) fun σ H Q ⟨ρ, F, T, fr, rel, h⟩ => by
    refine az' rel h fun d ρ1 v H1 F1 T1 e1 z1 r1 h1 => ?_
    obtain ⟨dz, ez, q⟩ := aU'.ofO h1
    cases d <;> try (cases ez; done)
    rename_i ks vs
    cases z1 with
    | @dct a kvs _ hd ok za =>
      simp only [M.n8'] at ez
      cases qi : M.bz' vs with
      | none => rw [qi] at ez; cases ez
      | some ns =>
        rw [qi, Option.bind_some] at ez
        split at ez
        . cases ez
        . rename_i hne
          cases ez
          obtain ⟨fp, f, back⟩ := r1.fp
          have hR := fL' f.low hd
          refine ⟨a, kvs, rfl, hR, fun p hp => ⟨p, a, kvs, ns, rfl, upd_same, ?_, iV' za qi, List.length_pos_iff.mpr hne, fun m hm hM => ?_⟩⟩
          . rcases hR with hR | ⟨o, hR⟩
            . exact .inl (by rw [upd_ne (ne_of_none hR hp)]; exact hR)
            . exact .inr ⟨o, by rw [upd_ne (ne_of_none hR hp)]; exact hR⟩
          . rw [<- j9' ns m hm hM] at *
            have s : Same F1 (upd F1 p (nZ' p a)) := cJ' (f.free hp)
            exact q _ _ _ T1 (e1.trans (.of s)) (.int _) (back _ _ s (f.new hp))
end
end S
namespace S
open PySem PySem.Spec PyProof.Rows L2
variable [Wd] [Hot]
section
variable {K : PySem.W.Frag} {F H : Hp} {T : List Addr}
mutual
theorem gF' : ∀ {v : V} {d : M.D}, Fz K F T v d -> M.dat d = true -> M.t3' d = true -> (py d).leavesShort 62 = true /\ (py d).showable = true /\ (py d).hasDict = false /\ (py d).bulk = M.rS' d
  | _, _, .non, _, _ => ⟨rfl, rfl, rfl, rfl⟩
  | _, _, .bl b, _, _ => ⟨rfl, rfl, rfl, rfl⟩
  | _, _, .int i, _, h => by
    have h : i.natAbs < 10 ^ 60 := of_decide_eq_true h
    refine ⟨?_, ?_, rfl, rfl⟩
    . show decide ((Str.ofString (toString i)).length <= 62) = true
      rw [decide_eq_true_iff, PySem.ofString_length]
      have := int_text_length_le10 (k := 60) (by decide) h
      omega
    . show decide (i.natAbs.log2 < 1920) = true
      rw [decide_eq_true_iff]
      have h2 : i.natAbs < 2 ^ 1920 := Nat.lt_of_lt_of_le h (by decide +kernel)
      by_cases h0 : i.natAbs = 0
      . rw [h0]; decide
      . exact (Nat.log2_lt h0).mpr h2
  | _, _, .str (s := s) o, _, _ => by
    refine ⟨?_, rfl, rfl, ?_⟩
    . show (sx s).cps.toList.all _ = true
      rw [et', List.all_eq_true]
      intro c hc
      rw [decide_eq_true_iff]
      have := o.1 c hc
      omega
    . exact ck' s
  | _, _, .tup h r, e, g => by
    obtain ⟨a, b, c, d⟩ := reps_facts r e g
    exact ⟨a, b, c, d⟩
  | _, _, .lst h r, e, g => by
    obtain ⟨a, b, c, d⟩ := reps_facts r e g
    exact ⟨a, b, c, d⟩
  | _, _, .dct h _ r, e, _ => by cases e
  | _, _, .dcl h k r, e, _ => by cases e
  | _, _, .dcn h k q r, e, _ => by cases e
  | _, _, .rep d, e, _ => by cases e
  | _, _, .obj h, e, _ => by cases e
  | _, _, .ty n, e, _ => by cases e
  | _, _, .fn x, e, _ => by cases e
  | _, _, .scr h r, e, _ => by cases e
theorem reps_facts : ∀ {vs : List V} {ds : List M.D}, FzA K F T vs ds -> M.dats ds = true -> M.repIs ds = true -> PyData.leavesShortAll 62 (pys ds) = true /\ PyData.showableAll (pys ds) = true /\ PyData.hasDictAll (pys ds) = false /\ PyData.bulkAll (pys ds) = M.repWs ds
  | _, _, .nil, _, _ => ⟨rfl, rfl, rfl, rfl⟩
  | _, _, .cons h r, e, g => by
    obtain ⟨e1, e2⟩ := Bool.and_eq_true_iff.mp (show (M.dat _ && M.dats _) = true from e)
    obtain ⟨g1, g2⟩ := Bool.and_eq_true_iff.mp (show (M.t3' _ && M.repIs _) = true from g)
    obtain ⟨a1, a2, a3, a4⟩ := gF' h e1 g1
    obtain ⟨b1, b2, b3, b4⟩ := reps_facts r e2 g2
    refine ⟨?_, ?_, ?_, ?_⟩
    . show (PyData.leavesShort 62 _ && PyData.leavesShortAll 62 _) = true
      rw [a1, b1]; rfl
    . show (PyData.showable _ && PyData.showableAll _) = true
      rw [a2, b2]; rfl
    . show (PyData.hasDict _ || PyData.hasDictAll _) = false
      rw [a3, b3]; rfl
    . show PyData.bulk _ + 1 + PyData.bulkAll _ = M.rS' _ + 1 + M.repWs _
      rw [a4, b4]
end
mutual
theorem qe' : ∀ d e : M.D, M.same d e = true -> d = e
  | .non, e, h => by cases e <;> first | rfl | (cases h)
  | .bl a, e, h => by cases e <;> first | (have := eq_of_beq (show (_ == _) = true from h); rw [this]) | (cases h)
  | .int a, e, h => by cases e <;> first | (have := eq_of_beq (show (_ == _) = true from h); rw [this]) | (cases h)
  | .str a, e, h => by cases e <;> first | (have := eq_of_beq (show (_ == _) = true from h); rw [this]) | (cases h)
  | .lst a, e, h => by
    cases e with
    | lst b => rw [sames_eq a b h]
    | _ => cases h
  | .tup a, e, h => by
    cases e with
    | tup b => rw [sames_eq a b h]
    | _ => cases h
  | .dct a b, e, h => by
    cases e with
    | dct c d =>
      obtain ⟨h1, h2⟩ := Bool.and_eq_true_iff.mp (show (M.sames a c && M.sames b d) = true from h)
      rw [sames_eq a c h1, sames_eq b d h2]
    | _ => cases h
  | .dcx _ _, e, h => by cases e <;> cases h
  | .rep _, e, h => by cases e <;> cases h
  | .obj _, e, h => by cases e <;> cases h
  | .ty _, e, h => by cases e <;> cases h
  | .fn _, e, h => by cases e <;> cases h
  | .exc _ _, e, h => by cases e <;> cases h
  | .scr _, e, h => by cases e <;> cases h
theorem sames_eq : ∀ d e : List M.D, M.sames d e = true -> d = e
  | [], [], _ => rfl
  | [], _ :: _, h => by cases h
  | _ :: _, [], h => by cases h
  | a :: d, b :: e, h => by
    obtain ⟨h1, h2⟩ := Bool.and_eq_true_iff.mp (show (M.same a b && M.sames d e) = true from h)
    rw [qe' a b h1, sames_eq d e h2]
end
end
section
variable {K : PySem.W.Frag} {F H : Hp} {T : List Addr}
theorem FzA.keys : ∀ {kvs : List (Key × V)}, kU' kvs -> FzA K F T (kvs.map fun p => kV p.1) (kvs.map fun p => kD p.1)
  | [], _ => .nil
  | (k, v) :: r, h => by
    have hk := h (k, v) (List.mem_cons_self ..)
    refine .cons ?_ (FzA.keys fun p hp => h p (List.mem_cons_of_mem _ hp))
    cases k with
    | inl i => exact .int i
    | inr x =>
      have : Fz K F T (.str (sx x.cps.toList)) (.str x.cps.toList) := .str hk
      exact this
theorem g5' : ∀ kvs : List (Key × V), M.dats (kvs.map fun p => kD p.1) = true
  | [] => rfl
  | (k, v) :: r => by
    show (M.dat (kD k) && M.dats (r.map fun p => kD p.1)) = true
    rw [g5' r]
    cases k <;> rfl
theorem dW' : ∀ {ds : List M.D}, ds.all M.ei' = true -> M.dats ds = true
  | [], _ => rfl
  | d :: r, h => by
    rw [List.all_cons, Bool.and_eq_true] at h
    show (M.dat d && M.dats r) = true
    rw [dW' h.2]
    cases d <;> first | rfl | cases h.1
theorem ug' : ∀ {ks ds : List PyData}, ks.length = ds.length -> PyData.leavesShortAll 62 ks = true -> PyData.leavesShortAll 62 ds = true -> PyData.showableAll ks = true -> PyData.showableAll ds = true →
    PyData.leavesShortKv 62 (ks.zip ds) = true /\ PyData.showableKv (ks.zip ds) = true /\ PyData.bulkKv (ks.zip ds) = PyData.bulkAll ks + PyData.bulkAll ds /\ PyData.depthKv (ks.zip ds) = max (PyData.depthAll ks) (PyData.depthAll ds)
  | [], [], _, _, _, _, _ => ⟨rfl, rfl, rfl, rfl⟩
  | [], _ :: _, e, _, _, _, _ => by cases e
  | _ :: _, [], e, _, _, _, _ => by cases e
  | k :: ks, d :: ds, e, a1, b1, a2, b2 => by
    obtain ⟨a1, a1'⟩ := Bool.and_eq_true_iff.mp (show (PyData.leavesShort 62 k && PyData.leavesShortAll 62 ks) = true from a1)
    obtain ⟨b1, b1'⟩ := Bool.and_eq_true_iff.mp (show (PyData.leavesShort 62 d && PyData.leavesShortAll 62 ds) = true from b1)
    obtain ⟨a2, a2'⟩ := Bool.and_eq_true_iff.mp (show (PyData.showable k && PyData.showableAll ks) = true from a2)
    obtain ⟨b2, b2'⟩ := Bool.and_eq_true_iff.mp (show (PyData.showable d && PyData.showableAll ds) = true from b2)
    obtain ⟨h1, h2, h3, h4⟩ := ug' (Nat.succ.inj e) a1' b1' a2' b2'
    refine ⟨?_, ?_, ?_, ?_⟩
    . show (PyData.leavesShort 62 k && PyData.leavesShort 62 d && PyData.leavesShortKv 62 (ks.zip ds)) = true
      rw [a1, b1, h1]; rfl
    . show (PyData.showable k && PyData.showable d && PyData.showableKv (ks.zip ds)) = true
      rw [a2, b2, h2]; rfl
    . show PyData.bulk k + PyData.bulk d + 2 + PyData.bulkKv (ks.zip ds) = (PyData.bulk k + 1 + PyData.bulkAll ks) + (PyData.bulk d + 1 + PyData.bulkAll ds)
      rw [h3]; omega
    . show max (max (PyData.depth k) (PyData.depth d)) (PyData.depthKv (ks.zip ds)) = max (max (PyData.depth k) (PyData.depthAll ks)) (max (PyData.depth d) (PyData.depthAll ds))
      rw [h4]; omega
theorem lf' : ∀ ds : List M.D, (pys ds).length = ds.length
  | [] => rfl
  | _ :: r => congrArg (· + 1) (lf' r)
theorem FzA.len : ∀ {vs : List V} {ds : List M.D}, FzA K F T vs ds -> vs.length = ds.length
  | _, _, .nil => rfl
  | _, _, .cons _ r => congrArg (· + 1) (FzA.len r)
theorem kt' : ∀ kvs : List (Key × V), M.deps (kvs.map fun p => kD p.1) = 0
  | [] => rfl
  | (k, v) :: r => by
    show max (M.dep (kD k)) (M.deps (r.map fun p => kD p.1)) = 0
    rw [kt' r]
    cases k <;> rfl
theorem ih' : ∀ {ds : List M.D}, ds.all M.ei' = true -> M.deps ds = 0
  | [], _ => rfl
  | d :: r, h => by
    rw [List.all_cons, Bool.and_eq_true] at h
    show max (M.dep d) (M.deps r) = 0
    rw [ih' h.2]
    cases d <;> first | rfl | cases h.1
def kP : Key -> PyData := fun k => py (kD k)
inductive Dq0 (K : PySem.W.Frag) (H : Hp) : V -> PyData -> Prop
  | dp {v : V} {d : PyData} : Dp K H v d -> d.hasDict = false -> Dq0 K H v d
  | dct {a : Addr} {kvs : List (Key × V)} {ds : List M.D} : Rd H a (.dK kvs) -> kU' kvs -> DpAll K H (kvs.map (·.2)) (pys ds) -> ds.all M.ei' = true -> Dq0 K H (.ref a) (.dict ((pys (kvs.map fun p => kD p.1)).zip (pys ds)))
inductive LqAll (K : PySem.W.Frag) (H : Hp) : List V -> List M.D -> Prop
  | nil : LqAll K H [] []
  | leaf {v : V} {d : M.D} {vs : List V} {ds : List M.D} : Dp K H v (py d) -> M.ei' d = true -> LqAll K H vs ds -> LqAll K H (v :: vs) (d :: ds)
  | emp {a : Addr} {vs : List V} {ds : List M.D} : Rd H a (.dK []) -> LqAll K H vs ds -> LqAll K H (.ref a :: vs) (.dct [] [] :: ds)
inductive Dq (K : PySem.W.Frag) (H : Hp) : V -> PyData -> Prop
  | old {v : V} {d : PyData} : Dq0 K H v d -> Dq K H v d
  | tupE {a : Addr} {vs : List V} {ds : List M.D} : SqT K H a vs -> LqAll K H vs ds -> Dq K H (.ref a) (.tuple (pys ds))
theorem kb' {d : M.D} (h : M.ei' d = true) : M.dat d = true := by cases d <;> first | rfl | cases h
theorem q5' {d : M.D} (h : M.ei' d = true) : (py d).depth = 0 := by cases d <;> first | rfl | cases h
theorem yh' (s : Same F H) : ∀ {vs : List V} {ds : List M.D}, FzA K F T vs ds -> (ds.all fun d => M.ei' d || M.A9' d) = true -> M.repIs ds = true →
    LqAll K H vs ds /\ PyData.leavesShortAll 62 (pys ds) = true /\ PyData.showableAll (pys ds) = true /\ PyData.depthAll (pys ds) <= 1 /\ PyData.bulkAll (pys ds) = M.repWs ds
  | _, _, .nil, _, _ => ⟨.nil, rfl, rfl, Nat.zero_le 1, rfl⟩
  | _, _, .cons (v := v) (d := d) (ds := ds) h r, e, g => by
    rw [List.all_cons, Bool.and_eq_true] at e
    obtain ⟨g1, g2⟩ := Bool.and_eq_true_iff.mp (show (M.t3' _ && M.repIs _) = true from g)
    obtain ⟨b0, b1, b2, b3, b4⟩ := yh' s r e.2 g2
    cases hl : M.ei' d with
    | true =>
      obtain ⟨a1, a2, a3, a4⟩ := gF' h (kb' hl) g1
      refine ⟨.leaf (h.py s (kb' hl)) hl b0, ?_, ?_, ?_, ?_⟩
      . show (PyData.leavesShort 62 _ && PyData.leavesShortAll 62 _) = true
        rw [a1, b1]; rfl
      . show (PyData.showable _ && PyData.showableAll _) = true
        rw [a2, b2]; rfl
      . show max (PyData.depth _) (PyData.depthAll _) <= 1
        rw [q5' hl]; omega
      . show PyData.bulk _ + 1 + PyData.bulkAll _ = M.rS' _ + 1 + M.repWs _
        rw [a4, b4]
    | false =>
      have e1 := e.1
      rw [hl, Bool.false_or] at e1
      cases h with
      | @dct a kvs es hr k r' =>
        have h1 : kvs = [] /\ es = [] := by
          cases kvs with
          | nil => cases es with
            | nil => exact ⟨rfl, rfl⟩
            | cons _ _ => cases e1
          | cons _ _ => cases e1
        obtain ⟨rfl, rfl⟩ := h1
        refine ⟨.emp (fL' s hr) b0, ?_, ?_, ?_, ?_⟩
        . show (PyData.leavesShort 62 (.dict []) && PyData.leavesShortAll 62 _) = true
          rw [b1]; rfl
        . show (PyData.showable (.dict []) && PyData.showableAll _) = true
          rw [b2]; rfl
        . show max (PyData.depth (.dict [])) (PyData.depthAll _) <= 1
          rw [show PyData.depth (.dict []) = 1 from rfl]; omega
        . show PyData.bulk (.dict []) + 1 + PyData.bulkAll _ = M.rS' (.dct [] []) + 1 + M.repWs _
          rw [b4]; rfl
      | _ => cases e1
theorem xI' {v : V} {d : M.D} (s : Same F H) (h : Fz K F T v d) (c1 : M.xK' d = true) (c2 : M.dep d <= 40) (c3 : M.t3' d = true) :
    Dq K H v (py d) /\ (py d).leavesShort 62 = true /\ (py d).showable = true /\ (py d).depth <= 40 /\ (py d).bulk = M.rS' d := by
  have old (e : M.dat d = true) : Dq K H v (py d) /\ (py d).leavesShort 62 = true /\ (py d).showable = true /\ (py d).depth <= 40 /\ (py d).bulk = M.rS' d := by
    obtain ⟨a1, a2, a3, a4⟩ := gF' h e c3
    exact ⟨.old (.dp (h.py s e) a3), a1, a2, by rw [(nx' h e).2]; exact c2, a4⟩
  cases h with
  | @dct a kvs ds h k r =>
    have c1 : ds.all M.ei' = true := c1
    obtain ⟨c3, c3'⟩ := Bool.and_eq_true_iff.mp (show (M.repIs (kvs.map fun p => kD p.1) && M.repIs ds) = true from c3)
    obtain ⟨a1, a2, a3, a4⟩ := reps_facts (FzA.keys (K := K) (F := F) (T := T) k) (g5' kvs) c3
    obtain ⟨b1, b2, b3, b4⟩ := reps_facts r (dW' c1) c3'
    have hl : (pys (kvs.map fun p => kD p.1)).length = (pys ds).length := by
      rw [lf', lf', List.length_map, <- r.len, List.length_map]
    obtain ⟨z1, z2, z3, z4⟩ := ug' hl a1 b1 a2 b2
    refine ⟨.old (.dct (fL' s h) k (r.py s (dW' c1)) c1), z1, z2, ?_, ?_⟩
    . show PyData.depthKv _ + 1 <= 40
      rw [z4, (lays_of (FzA.keys (K := K) (F := F) (T := T) k) (g5' kvs)).2, kt', (lays_of r (dW' c1)).2, ih' c1]
      decide
    . show PyData.bulkKv _ = M.repWs _ + M.repWs _
      rw [z3, a4, b4]
  | @tup a vs ds h r =>
    cases hd : M.dats ds with
    | true => exact old hd
    | false =>
      have c1 : (M.dats ds || ds.all fun d => M.ei' d || M.A9' d) = true := c1
      rw [hd, Bool.false_or] at c1
      obtain ⟨b0, b1, b2, b3, b4⟩ := yh' s r c1 c3
      refine ⟨.tupE (SqT.low s h) b0, b1, b2, ?_, b4⟩
      show PyData.depthAll _ + 1 <= 40
      omega
  | _ => exact old c1
end
section
variable {X : Cx} {pins : List (Addr × Obj)} {σ : St} {H : Hp} {s : Shared}
theorem eh' (I : Inv X pins σ H s) {d : M.D} {v : V} {u : Value} (l : M.ei' d = true) (h : Dp X.K H v (py d)) (r : RelV v u) : Reads s.heap u (py d) [] := by
  cases d with
  | non => cases h; cases r; exact .none
  | bl b => cases h; cases r; exact .bool b
  | int i => cases h; obtain ⟨t, rfl⟩ := r; exact .int i t
  | str x => cases h; obtain ⟨t, rfl⟩ := r; exact .str _ t
  | _ => cases l
theorem h4' (I : Inv X pins σ H s) : ∀ {kvs : List (Key × V)} {vs : List (Key × Value)} {ds : List M.D}, KV kvs vs -> DpAll X.K H (kvs.map (·.2)) (pys ds) -> ds.all M.ei' = true →
    PyProof.V.PairsRead s.heap kP vs ((pys (kvs.map fun p => kD p.1)).zip (pys ds)) []
  | _, _, [], .nil, _, _ => .nil
  | _, _, _ :: _, .nil, h, _ => by cases h
  | _, _, [], .cons _ _, h, _ => by cases h
  | (k, v) :: kvs, (k', u) :: vs, d :: ds, .cons hr hp, h, l => by
    obtain ⟨he, hr⟩ := hr
    have he : k = k' := he
    subst he
    rw [List.all_cons, Bool.and_eq_true] at l
    cases h with
    | cons h1 h2 =>
      have := PyProof.V.PairsRead.cons (enc := kP) (k := k) (eh' I l.1 h1 hr) (h4' I hp h2 l.2)
      exact this
theorem Dq0.reads (I : Inv X pins σ H s) {d : PyData} {v : V} {u : Value} (h : Dq0 X.K H v d) (r : RelV v u) : ∃ as, Reads s.heap u d as /\ (d.hasDict = true -> sysModules ∉ as) := by
  cases h with
  | dp dp e =>
    obtain ⟨as, rd⟩ := Dp.reads I d v u dp r
    exact ⟨as, rd, PyData.noDict_hsm e⟩
  | @dct a kvs ds e k dd l =>
    cases r
    obtain ⟨_, hs, vs, rk, hd⟩ := dk_rd I.hok e
    refine ⟨[a], PyProof.V.reads_dictOf (enc := kP) (fun k key hk => ?_) hd (h4' I rk dd l), fun _ hm => ?_⟩
    . rcases keyIs_shape hk with ⟨i, t, rfl, rfl⟩ | ⟨x, t, rfl, rfl⟩
      . exact .int i t
      . exact .str _ t
    . have := List.mem_singleton.mp hm
      rw [<- this] at hs
      simp at hs
theorem sQ' (I : Inv X pins σ H s) : ∀ {vs : List V} {us : List Value} {ds : List M.D}, LqAll X.K H vs ds -> Vals vs us -> ∃ as, ReadsAll s.heap us (pys ds) as /\ sysModules ∉ as := by
  intro vs us ds h
  induction h generalizing us with
  | nil =>
    intro r
    cases r
    exact ⟨[], .nil, by simp⟩
  | leaf h1 h2 _ ih =>
    intro r
    cases r with
    | cons r1 r2 =>
      obtain ⟨bs, q2, q3⟩ := ih r2
      exact ⟨_, .cons (eh' I h2 h1 r1) q2, by simpa using q3⟩
  | emp h1 _ ih =>
    intro r
    cases r with
    | cons r1 r2 =>
      obtain ⟨bs, q2, q3⟩ := ih r2
      obtain ⟨as, q1, q4⟩ := Dq0.reads I (Dq0.dct (ds := []) h1 (fun p hp => by cases hp) .nil rfl) r1
      exact ⟨_, .cons q1 q2, by
        rw [List.mem_append]
        rintro (h | h)
        . exact q4 rfl h
        . exact q3 h⟩
theorem Dq.reads (I : Inv X pins σ H s) {d : PyData} {v : V} {u : Value} (h : Dq X.K H v d) (r : RelV v u) : ∃ as, Reads s.heap u d as /\ (d.hasDict = true -> sysModules ∉ as) := by
  cases h with
  | old h => exact h.reads I r
  | tupE hs la =>
    cases r
    obtain ⟨its, rv, ⟨o, ho, hc, n, hd⟩, _⟩ := I.tuple hs
    obtain ⟨as, hr, hm⟩ := sQ' I la rv
    exact ⟨_, Reads.tuple ho hc hd hr, fun _ => hm⟩
end
def rRep (K : PySem.W.Frag) : List V -> Hp -> VK -> Prop := fun xs H Q => ∃ v d, xs = [v] /\ Dq K H v d /\ d.showable = true /\ d.depth <= 40 /\ d.shown.length <= sizeLine /\ Q (.str d.shown) H
section
variable {X : Cx}
theorem nQ' (hu : X.A.units + 64 < cLine) (hg : X.A.guards = some []) : CallR X (.builtin "repr") (rRep X.K) := by
  intro pins s σ H vs us Q I r h
  obtain ⟨v, d, rfl, dp, h1, h3, h4, q⟩ := h
  cases r with
  | @cons _ u _ _ ru rn =>
    cases rn
    obtain ⟨as, rd, hm⟩ := dp.reads I ru
    cases rd with
    | none => exact P.repr_of_none ⟨.str _, H, I.tok _, ⟨_, rfl⟩, q⟩
    | bool b => exact P.repr_of_bool ⟨.str _, H, I.tok _, ⟨_, rfl⟩, q⟩
    | int i t => exact P.repr_of_int (of_decide_eq_true h1) ⟨.str _, H, I.tok _, ⟨_, rfl⟩, q⟩
    | str x t => exact P.repr_of_str (hsz := h4) ⟨.str _, H, I.tok _, ⟨_, rfl⟩, q⟩
    | list a b c e => exact repr_of_reads' (.list a b c e) h1 hm hg (by omega) (fun _ _ z => z) (fun h' u tk hk => ⟨.str _, H, I.kept hk, ⟨_, rfl⟩, q⟩) h4
    | tuple a b c e => exact repr_of_reads' (.tuple a b c e) h1 hm hg (by omega) (fun _ _ z => z) (fun h' u tk hk => ⟨.str _, H, I.kept hk, ⟨_, rfl⟩, q⟩) h4
    | dict a b c e f => exact repr_of_reads' (.dict a b c e f) h1 hm hg (by omega) (fun _ _ z => z) (fun h' u tk hk => ⟨.str _, H, I.kept hk, ⟨_, rfl⟩, q⟩) h4
end
section
variable {K : PySem.W.Frag}
theorem zC' : Bi1 K M.x3' (rRep K) := by
  intro F H T fp x dx dz Q f hx h k
  unfold M.x3' at h
  split at h
  . rename_i hc
    obtain ⟨c1, c2, c3, c4⟩ := hc
    cases h
    obtain ⟨a0, a1, a2, a3, a4⟩ := xI' f.low hx c1 c2 c3
    refine ⟨x, py dx, rfl, a0, a2, a3, ?_, k.here f (.rep dx)⟩
    have := PyData.shown_le_bulk 62 (by decide) (py dx) a1
    rw [a4] at this
    rw [bL']
    show _ <= 16777216
    omega
  . cases h
theorem qk' {F : Hp} {T : List Addr} {v : V} {d : M.D} (h : Fz K F T v (.rep d)) : v = .str (py d).shown := by cases h; rfl
theorem A4' : Op2 K M.zU' (AP' K) := by
  intro F H T fp x y dx dy dz Q f hx hy h k
  cases dx <;> try (cases h; done)
  cases dy <;> try (cases h; done)
  simp only [M.zU'] at h
  split at h
  . rename_i hs
    cases h
    have e := qe' _ _ hs
    subst e
    obtain rfl := qk' hx
    obtain rfl := qk' hy
    exact .inl ⟨rfl, by rw [decide_eq_true rfl]; exact k.here f (.bl true)⟩
  . cases h
end
end S
namespace S
open PySem PySem.Spec PyProof.Rows L2
variable [Wd] [Hot]
local macro_rules | `(tactic| walk_at "parts") => `(tactic| (constructor; (intro e h; simp only [List.mem_append, List.mem_cons, List.not_mem_nil] at *; grind); (intro x; simp only [keys, List.map_append, List.map_cons, List.map_nil, List.count_append, List.count_cons, List.count_nil] at *; omega)))
def EqP (K : PySem.W.Frag) (ps : List (String × String)) (g : Addr) : Prop := ∀ p ∈ ps, PySem.W.findIn K (.ref (He.ga K (Str.ofString p.1))) "__eq__" = some (some (.ref g)) /\ PySem.W.isFn K (.ref g) = true ∧
  PySem.W.notFirst K (He.ga K (Str.ofString p.1)) (.ref (He.ga K (Str.ofString p.2))) = true
theorem v7' {K : PySem.W.Frag} {ps : List (String × String)} {g : Addr} (h : Cw' K ps g = true) : EqP K ps g := fun p hp => by
  have z := List.all_eq_true.mp h p hp
  rw [Bool.and_eq_true, Bool.and_eq_true, decide_eq_true_eq] at z
  exact z
def AQ' (K : PySem.W.Frag) (ps : List (String × String)) (mf : M.MF) : R2 := fun x y H Q => ∃ (C C' : String) (a b dx dy : Addr) (fs gs : List (Str × V)), (C, C') ∈ ps /\ x = .ref a /\ y = .ref b ∧
  H a = some (.ins (He.ga K (Str.ofString C)) dx fs) /\ H b = some (.ins (He.ga K (Str.ofString C')) dy gs) /\ spM K mf [x, y] H (fun v H' => ∃ r, v = .bl r /\ Q (.bl r) H') E0
theorem x6' {X : Cx} {k : Nat} {C0 : Addr} {args : List Str} {ps : List (String × String)} {mf : M.MF} (F : OgM X.prog X.w X.K X.mg X.base k C0 "__eq__" args (spM X.K mf)) (hr : RoomG k X.A) (hp : EqP X.K ps (He.ma X.K C0 "__eq__")) :
    OpR X (compareOp .Eq) (AQ' X.K ps mf) := by
  obtain ⟨fd, F, hb⟩ := F
  intro pins s σ H x y v u Q I rx ry h
  obtain ⟨C, C', a, b, dx, dy, fs, gs, hC, rfl, rfl, ha, hb', hs⟩ := h
  cases (show v = Value.ref a from rx)
  cases (show u = Value.ref b from ry)
  obtain ⟨q1, q2, q3⟩ := hp _ hC
  obtain ⟨mA, J, _⟩ := ins_get I.hok ha
  obtain ⟨mB, J', _⟩ := ins_get I.hok hb'
  obtain ⟨od, J, _⟩ := J.look
  obtain ⟨od', J', _⟩ := J'.look
  obtain ⟨m, hF⟩ := I.fr
  show wpAny (model X.prog X.w) X.A (richCompare .Eq (.ref a) (.ref b)) (EP X pins σ Q) X.xe s
  refine PySem.W.cmp_K (op := .Eq) (tb := .ref (He.ga X.K (Str.ofString C'))) hr.r.units0 hF I.ok.mod.kin J J'.type q3 q1 q2 ?_
  refine wpAny_mono (gC' (E := fun _ => E0) (us := [.ref a, .ref b]) (vs := [.ref a, .ref b]) F hr hb (fun _ _ _ e s' _ c => ?_) I (.cons rfl (.cons rfl .nil)) hs) (fun r s' q => ?_) fun _ _ z => z
  . obtain ⟨_, _, _, _, _, _, _, _, _, _, _, _, z⟩ := c
    exact z.elim
  . obtain ⟨z, H', I', rz, t, ez, q⟩ := q
    subst ez
    cases rz
    exact ⟨.bl t, H', I', rfl, q⟩
section
variable {K : PySem.W.Frag} {σ : St} {H : Hp} {Q : VK} {W : WX}
theorem s0' {ps : List (String × String)} {w : M.W} {x y : M.D} (h : M.v1' ps w x y = true) : ∃ n m C C' fs gs, x = .obj n /\ y = .obj m /\ w[n]? = some (.ins C fs) /\ w[m]? = some (.ins C' gs) /\ (C, C') ∈ ps := by
  unfold M.v1' at h
  split at h
  . rename_i n m
    split at h
    . rename_i C fs C' gs e1 e2
      exact ⟨n, m, C, C', fs, gs, rfl, rfl, e1, e2, of_decide_eq_true h⟩
    . cases h
  . cases h
theorem nK' {ps : List (String × String)} {mf : M.MF} {ma mb : M.ME} (h : qE K W (M.uq' ps mf ma mb) σ H Q) : tOp (AQ' K ps mf) (qE K W ma) (qE K W mb) σ H Q := by
  obtain ⟨ρ, F, T, fr, rel, h⟩ := h
  refine az' rel h fun dx ρ1 v H1 F1 T1 e1 z1 r1 h1 => ?_
  refine az' r1 h1 fun dy ρ2 u H2 F2 T2 e2 z2 r2 h2 => ?_
  split at h2
  . rename_i hi
    obtain ⟨n, m, C, C', fs, gs, rfl, rfl, ew, ew', hC⟩ := s0' hi
    obtain ⟨a, d1, fv, os, f2, hT, rfl, hH, _⟩ := r2.wins ew
    obtain ⟨b, d2, fv', os', f2', hT', rfl, hH', _⟩ := r2.wins ew'
    have z1 := z1.mono e2
    cases z1 with
    | obj t =>
      rw [hT] at t
      cases t
      cases z2 with
      | obj t =>
        rw [hT'] at t
        cases t
        refine ⟨C, C', a, b, d1, d2, _, _, hC, rfl, rfl, hH, hH', ?_⟩
        obtain ⟨fe, fw, re, rw, f⟩ := r2
        refine ⟨[.obj n, .obj m], ρ2.w, F2, T2, fe ++ fr, .cons (.obj hT) (.cons (.obj hT') .nil), ⟨[], fw, wU', rw, f.part (by walk_at "parts")⟩, ?_⟩
        cases em : mf [.obj n, .obj m] ρ2.w with
        | bad => rw [em] at h2; exact h2.elim
        | exc x w' => rw [em] at h2; exact h2.elim
        | ok o w' =>
          rw [em] at h2
          intro w H' F' T' fp e z r
          cases z with
          | fz z =>
            rename_i d
            cases d <;> try exact h2.elim
            cases z
            exact ⟨_, rfl, h2 _ H' F' T' (e1.trans (e2.trans e)) (.bl _) (Rel.reenv (fp := []) re e r)⟩
          | lst _ => exact h2.elim
          | tup _ => exact h2.elim
          | dct _ _ => exact h2.elim
          | dcl _ _ => exact h2.elim
          | dcn _ _ _ => exact h2.elim
  . exact h2.elim
end
section
variable {X : Cx} {W : WX} {pos p : Pos} {a b e : Expr} {ma mb : M.ME} {mo : M.MO} {k : Nat} {args : List Str} {mf : M.MF}
theorem xC' {C : String} {ps : List (String × String)} (F : OgM X.prog X.w X.K X.mg X.base k (He.ga X.K C) "__eq__" args (spM X.K mf)) (hr : RoomG k X.A) (hp : EqP X.K ps (He.ma X.K (He.ga X.K C) "__eq__")) (ha : SE X W a ma) (hb : SE X W b mb) :
    SE X W (.Compare a [.Eq] [b] pos) (M.uq' ps mf ma mb) := PE.imp (pe_cmpR (x6' F hr hp) ha hb (nomark _)) fun _ _ _ h => nK' h
def Ca' (K : PySem.W.Frag) (t : M.ET) (c : String) : Prop := (∀ e ∈ t, e.2.1 = c -> Cls K (He.ga K (Str.ofString e.1)) /\ PySem.W.findIn K (.ref (He.ga K (Str.ofString e.1))) "__class__" = some (some (.builtin "object.__class__")) ∧
    PySem.W.specialIn K (.builtin "object.__class__") "__get__" = some (some (.builtin "getset_descriptor.__get__")) /\ PySem.W.takesIn K (.builtin "object.__class__") = some true /\ PySem.W.mroIn K (He.ga K (Str.ofString e.1)) (.type "object") = some true ∧
    PySem.W.kitOne K (.ref (He.ga K (Str.ofString e.1))) (.ref (He.ga K (Str.ofString c))) = some e.2.2) ∧
  ∀ n ∈ ["NoneType", "bool", "int", "str", "tuple", "list", "dict"], PySem.W.kitOne K (.type n) (.ref (He.ga K (Str.ofString c))) = some false
theorem sX' {K : PySem.W.Frag} {t : M.ET} {c : String} (h : vS' K t c = true) : Ca' K t c := by
  unfold vS' at h
  rw [Bool.and_eq_true] at h
  refine ⟨fun e he hc => ?_, fun n hn => of_decide_eq_true (List.all_eq_true.mp h.2 n hn)⟩
  have z := List.all_eq_true.mp h.1 e he
  rw [hc] at z
  simp only [decide_true, Bool.not_true, Bool.false_or, Bool.and_eq_true, decide_eq_true_eq] at z
  exact ⟨He.cls_ok z.1, z.2⟩
theorem pX' : ∀ {t : M.ET} {x c : String} {b : Bool}, M.sub t x c = some b -> (x, c, b) ∈ t
  | [], _, _, _, h => by cases h
  | (a, b, r) :: t, x, c, y, h => by
    unfold M.sub at h
    split at h
    . rename_i q
      obtain ⟨rfl, rfl⟩ := q
      cases h
      exact List.mem_cons_self
    . exact List.mem_cons_of_mem _ (pX' h)
theorem t1' {x : Str} (t : M.ET) (c : String) (hI : Ca' X.K t c) (hg : Gl X x) (hm : X.mg x = none) (hv : bootBuiltins x = some (.builtin "isinstance")) (ha : SE X W a ma) (hb : PE X b (tC (.ref (He.ga X.K (Str.ofString c))))) (hn : x ≠ "__name__" := by decide) (hdb : (x == ("__debug__" : Str)) = false := by decide)
    (he : starEach [a, b] X.env = (false, eval a X.env) :: starEach [b] X.env := by rfl) (he2 : starEach [b] X.env = (false, eval b X.env) :: starEach [] X.env := by rfl) (hpl : (backTo pos (starEach [b] X.env)).any (·.1) = false := by rfl) : SE X W (.Call (.Name x p) [a, b] [] pos) (M.wX' t c ma) :=
  PE.imp (pe_callB call_isi hg hm hv (pa_cons ha (pa_cons hb pa_nil he2) he) hn hdb he hpl) fun σ H Q ⟨ρ, F, T, fr, rel, h⟩ => by
    refine az' rel h fun dx ρ1 v H1 F1 T1 e1 z1 r1 h1 => ?_
    obtain ⟨dz, ez, q⟩ := aU'.ofO h1
    by_cases ho : ∃ n, dx = .obj n
    . obtain ⟨n, rfl⟩ := ho
      simp only [M.isC] at ez
      cases ew : ρ1.w[n]? with
      | none => rw [ew] at ez; cases ez
      | some ob =>
        rw [ew] at ez
        cases ob <;> try (cases ez; done)
        rename_i C fs
        cases es : M.sub t C c with
        | none => simp only [es] at ez; cases ez
        | some r =>
          simp only [es] at ez
          cases ez
          obtain ⟨a, d1, fv, os, f2, hT, rfl, hH, _⟩ := r1.wins ew
          obtain ⟨q1, q2, q3, q4, q5, q6⟩ := hI.1 _ (pX' es) rfl
          cases id z1 with
          | obj t =>
            rw [hT] at t
            cases t
            exact ⟨.ref a, .ref _, _, _, r, rfl, .own _, .base (.ins hH q1 q2 q3 q4 q5), q6, q _ H1 F1 T1 e1 (.bl _) r1⟩
    . have e2 : ∃ n, M.tyn dx = some n /\ dz = .bl false := by
        cases dx <;> first | exact absurd ⟨_, rfl⟩ ho | (cases ez; exact ⟨_, rfl, rfl⟩) | (cases ez; done)
      obtain ⟨n, en, rfl⟩ := e2
      obtain ⟨fp, f, _⟩ := r1.fp
      exact ⟨_, .ref _, _, _, false, rfl, .own _, tT' f.low z1 en, hI.2 n (by cases dx <;> cases en <;> decide), q _ H1 F1 T1 e1 (.bl _) r1⟩
theorem xW' {σ : St} {H : Hp} {Q : Bool -> Hp -> Prop} {m : M.ME} (h : qT X.K W (M.tE m) σ H Q) : qE X.K W m σ H fun x H' => ∃ k, x = .bl k /\ Q k H' := by
  obtain ⟨ρ, F, T, fr, rel, h⟩ := h
  refine ⟨ρ, F, T, fr, rel, (aU'.bind h).mono (fun d ρ1 h1 v H1 F1 T1 e z r => ?_) fun _ _ z => z⟩
  obtain ⟨k, rfl, h2⟩ := aU'.asB h1
  exact ⟨k, z.bl_inv, h2 _ _ _ e r⟩
theorem fi' {i : Nat} (hw : X.prog = Wd.P /\ X.w = Wd.w) (hu : X.A.units + 64 < cLine) (ha : SE X W a ma) (hv : PE X b (tVar i)) (hm : behindInMarks .NotIn b = false := by rfl) : ST X W (.Compare a [.NotIn] [b] pos) (M.tE (M.rs' true i ma)) :=
  PT.imp (pt_cmpR (vA' hw hu) ha hv hm) fun _ _ _ h => tn' (xW' h)
theorem pY' {i : Nat} (ha : SE X W a ma) (hv : PE X b (tVar i)) (hm : behindInMarks .NotIn b = false := by rfl) : ST X W (.Compare a [.NotIn] [b] pos) (M.tE (M.fz' i ma)) := PT.imp (pt_cmpR jZ' ha hv hm) fun σ H Q h => s1' (neg := true) (xW' h)
end
end S
namespace S
open PySem PySem.Spec PyProof.Rows L2
variable [Wd] {cc : List (Nat × CloD)}
abbrev A8' (a : Addr) (n : Nat) (dd : Option Addr) (x : M.Exc) (cs : List (Nat × CloD) := []) : Hot := ⟨some (a, n, dd, x), cs⟩
section
variable {K : PySem.W.Frag} {F H : Hp} {T : List Addr} {fp fr : Fp} {σ : St} {env : List (Option M.O)} {a : Addr} {n i : Nat} {dd : Option Addr} {x : M.Exc}
theorem RpE.cool (r : @RpE _ K (A8' a n dd x cc) F T σ env fp) (hl : env.length <= n) : @RpE _ K (rG' cc) F T σ env fp := by
  induction r with
  | nil => exact @RpE.nil _ K (rG' cc) F T
  | off _ ih => exact @RpE.off _ K (rG' cc) F T _ _ _ _ (ih (by simp at hl; omega))
  | on q _ ih => exact @RpE.on _ K (rG' cc) F T _ _ _ _ _ _ q (ih (by simp at hl; omega))
  | hot z _ _ _ =>
    have := (Prod.mk.inj (Prod.mk.inj (Option.some.inj z)).2).1
    simp at hl
    omega
  | clo z y _ ih => exact @RpE.clo _ K (rG' cc) F T _ _ _ _ z y (ih (by simp at hl; omega))
end
section
variable {X : Cx} {W : WX} {K : PySem.W.Frag} {D : Ends} {σ : St} {H : Hp} {F : Hp} {T : List Addr} {fr : Fp}
def tsA (cc : List (Nat × CloD)) (K : PySem.W.Frag) (n : Nat) (h : M.Exc -> M.MS) : Addr -> Value -> Option Addr -> TS := fun a cls d D σ H => ∃ e : M.Exc, cls = .ref (He.ga K e.cls) /\ @qS _ (A8' a n d e cc) K W0 (h e) D σ H
end
section
variable {X : Cx} {W : WX} {pos p : Pos} {a b : Expr}
end
end S
namespace S
open PySem PySem.Spec PyProof.Rows L2
section
variable {prog : Program} {w : World} {A : Around} {E : Value -> Shared -> Prop} {s : Shared} {K : PySem.W.Frag} {x C L f : Addr} {h₀ : Heap} {m : Str -> Option Value} {ox : Obj} {od : Option Obj} {b tb : Value}
open PySem.W in
theorem wE' {Q : Value -> Shared -> Prop} (hu : A.units + 1 < cLine) (F : Fr h₀ L s.heap m) (X₀ : K.In h₀) (I : InstAt s.heap x ox C od) (hb : Looks (model prog w) s.heap (typeOf b) tb) (hn : notFirst K C tb = true)
    (hs : findIn K (.ref C) "__ne__" = some (some (.builtin "object.__ne__"))) (he : findIn K (.ref C) "__eq__" = some (some (.ref f))) (hf : isFn K (.ref f) = true) (hm : mroIn K C (.type "object") = some true)
    (h : wpAny (model prog w) A.in1 (call (.ref f) [.ref x, b]) (fun v s' => ∃ r, v = .bool r /\ Q (.bool (!r)) s') E s) : wpAny (model prog w) A (richCompare .NotEq (.ref x) b) Q E s := by
  have X := X₀.keeps F.keep
  have run : wpAny (model prog w) A.in1 (Builtin.«object.__ne__» ⟨[.ref x, b], []⟩) (fun r s' => ∃ v : Bool, r = .done (.ret (.bool v)) /\ Q (.bool v) s') E s := by
    unfold Builtin.«object.__ne__»
    repeat (first
      | with_reducible refine wpAny_cRoomFor (A := A.in1) hu ?_
      | (refine wpAny_bind (m := callSpecialIfBound? (.ref x) (Str.ofString "__eq__") [b])
          (ifBound_K X I he hf (wpAny_mono h (fun r s' hr => by
            obtain ⟨b, rfl, hq⟩ := hr
            repeat (first | exact ⟨_, rfl, hq⟩ | exact wpAny_pure ⟨_, rfl, hq⟩ | (refine wpAny_bind (m := truthy (.bool _)) (wpAny_truthy_bool ?_)) | wp_step)) fun _ _ e => e)))
      | wp_step)
  have one : wpAny (model prog w) A (tryCompare (.ref x) "__ne__" b) (fun r s' => ∃ v, r = some v /\ Q v s') E s := by
    have tI : Looks (model prog w) s.heap (isInstance (.ref x) (.type "object")) true := I.type.andThen (looks_mroIn X hm)
    have go : wpAny (model prog w) A (call (.builtin "object.__ne__") [.ref x, b]) (fun v s' => ∃ r : Bool, v = .bool r /\ Q (.bool r) s') E s :=
      wpAny_call (codeAny_call_builtin PySem.F.cmp_object.ne.plain PySem.F.cmpEntry_ne
        (check_slot PySem.F.cmpKind_ne PySem.F.cmpSplit_ne tI (PySem.F.cmpArgs_ne _ _) (wpAny_mono run (fun r s' hr => by
          obtain ⟨v, rfl, hq⟩ := hr
          exact ⟨_, rfl, hq⟩) fun _ _ e => e)))
    unfold tryCompare
    refine wpAny_bind ?_
    simp only [callSpecialIfBound?, bindSpecialIfBound?]
    refine wpAny_holding (wpAny_bind (wpAny_bind (wpAny_bind (I.type.here ((looks_findIn X hs).here ?_)))))
    simp only [PySem.F.cmp_object.ne.bind]
    refine wpAny_bind (wpAny_askSetting (wpAny_ite ?_))
    have fin : wpAny (model prog w) A (call (.builtin "object.__ne__") ([.ref x] ++ [b]) >>= fun v => pure (some v)) (fun r s' => ∃ v : Bool, r = some (.bool v) /\ Q (.bool v) s') E s :=
      wpAny_bind (wpAny_mono go (fun v s' h' => by obtain ⟨r, rfl, h'⟩ := h'; exact wpAny_pure ⟨_, rfl, h'⟩) fun _ _ h' => h')
    have fin : wpAny (model prog w) A (call (.builtin "object.__ne__") ([.ref x] ++ [b]) >>= fun v => pure (some v)) (fun a s' => wpAny (model prog w) A (match a with | some .notImplemented => pure none | none => pure none | some d => pure (some d)) (fun r s' => ∃ v, r = some v /\ Q v s') E s') E s :=
      wpAny_mono fin (fun r s' z => by obtain ⟨v, rfl, z⟩ := z; exact wpAny_pure ⟨_, rfl, z⟩) fun _ _ e => e
    split
    . exact wpAny_bind (wpAny_pure (wpAny_pure fin))
    . exact wpAny_tryCatch (wpAny_bind (wpAny_pure (wpAny_pure fin)))
  have apart : ∀ {c : Prop}, (c -> (tb == Value.ref C) = false) -> c -> subIn K tb (.ref C) = some false := fun no q => by
    rw [notFirst, no q, Bool.false_or] at hn
    exact beq_iff_eq.mp hn
  unfold richCompare
  simp only [oneThing_ref]
  refine wpAny_holding (wpAny_bind (wpAny_cRoomFor (Nat.lt_of_succ_lt hu) (wpAny_bind (I.type.here (wpAny_bind (hb.here ?_))))))
  split
  case isTrue q =>
    exact wpAny_bind ((looks_subIn X (apart (fun q => by cases z : (tb == Value.ref C) with
      | false => rfl
      | true => rw [beq_iff_eq.mp z] at q; simp at q) q)).here (by
        rw [if_neg (by decide)]
        exact wpAny_bind (wpAny_mono one (fun | _, _, ⟨_, rfl, w⟩ => wpAny_pure w) fun _ _ e => e)))
  case isFalse q =>
    exact wpAny_bind (wpAny_pure (by
      rw [if_neg (by decide)]
      exact wpAny_bind (wpAny_mono one (fun | _, _, ⟨_, rfl, w⟩ => wpAny_pure w) fun _ _ e => e)))
end
end S
namespace S
open PySem PySem.Spec PyProof.Rows L2
variable [Wd] [Hot]
def NeP (K : PySem.W.Frag) (ps : List (String × String)) (g : Addr) : Prop := ∀ p ∈ ps, PySem.W.findIn K (.ref (He.ga K (Str.ofString p.1))) "__ne__" = some (some (.builtin "object.__ne__")) ∧
  PySem.W.findIn K (.ref (He.ga K (Str.ofString p.1))) "__eq__" = some (some (.ref g)) /\ PySem.W.isFn K (.ref g) = true /\ PySem.W.mroIn K (He.ga K (Str.ofString p.1)) (.type "object") = some true ∧
  PySem.W.notFirst K (He.ga K (Str.ofString p.1)) (.ref (He.ga K (Str.ofString p.2))) = true
theorem vG' {K : PySem.W.Frag} {ps : List (String × String)} {g : Addr} (h : Ct' K ps g = true) : NeP K ps g := fun p hp => by
  have z := List.all_eq_true.mp h p hp
  rw [Bool.and_eq_true, Bool.and_eq_true, Bool.and_eq_true, Bool.and_eq_true, decide_eq_true_eq, decide_eq_true_eq, decide_eq_true_eq] at z
  exact z
def CS' (K : PySem.W.Frag) (ps : List (String × String)) (mf : M.MF) : R2 := fun x y H Q => AQ' K ps mf x y H fun v H' => ∃ r, v = .bl r /\ Q (.bl !r) H'
theorem la' {X : Cx} {CX : CXT} {k : Nat} {f : Addr} {fd : FuncData} {ps : List Str} {sp : Sp} {E : St -> XK} {pins : List (Addr × Obj)} {σ : St} {H : Hp} {s : Shared} {Q : VK} {us : List Value} {vs : List V} (F : FnG X.prog X.w X.K X.mg X.base CX k f fd ps sp) (hr : RoomG (k + 1) X.A)
    (hb : Binds X.K fd ps []) (hx : PassesAt CX X σ (E σ)) (I : Inv X pins σ H s) (r : Vals vs us) (h : sp vs H Q (E σ)) : wpAny (model X.prog X.w) X.A.in1 (call (.ref f) us) (EP X pins σ Q) X.xe s := by
  have b := hb s us I.kIn (by rw [List.append_nil, <- r.length]; exact F.len _ _ _ _ h)
  rw [List.append_nil] at b
  refine wpAny_call (codeAny_mono (F.run X.A.in1 X.stack s H ⟨us, []⟩ us vs Q (E σ) ⟨hr.r.in1, hr.g⟩ I.env0.in1 b r h) fun res s' q => ?_)
  have z := rp' hx I res q
  revert z
  cases res with
  | error e => exact id
  | ok fl => cases fl <;> exact id
theorem x5' {X : Cx} {k : Nat} {C0 : Addr} {args : List Str} {ps : List (String × String)} {mf : M.MF} (F : OgM X.prog X.w X.K X.mg X.base k C0 "__eq__" args (spM X.K mf)) (hr : RoomG (k + 1) X.A) (hp : NeP X.K ps (He.ma X.K C0 "__eq__")) :
    OpR X (compareOp .NotEq) (CS' X.K ps mf) := by
  obtain ⟨fd, F, hb⟩ := F
  intro pins s σ H x y v u Q I rx ry h
  obtain ⟨C, C', a, b, dx, dy, fs, gs, hC, rfl, rfl, ha, hb', hs⟩ := h
  cases (show v = Value.ref a from rx)
  cases (show u = Value.ref b from ry)
  obtain ⟨q0, q1, q2, q3, q4⟩ := hp _ hC
  obtain ⟨mA, J, _⟩ := ins_get I.hok ha
  obtain ⟨mB, J', _⟩ := ins_get I.hok hb'
  obtain ⟨od, J, _⟩ := J.look
  obtain ⟨od', J', _⟩ := J'.look
  obtain ⟨m, hF⟩ := I.fr
  show wpAny (model X.prog X.w) X.A (richCompare .NotEq (.ref a) (.ref b)) (EP X pins σ Q) X.xe s
  have hu : X.A.units + 1 < cLine := by have := hr.r.units; omega
  refine wE' (tb := .ref (He.ga X.K (Str.ofString C'))) hu hF I.ok.mod.kin J J'.type q4 q0 q1 q2 q3 ?_
  refine wpAny_mono (la' (E := fun _ => E0) (us := [.ref a, .ref b]) (vs := [.ref a, .ref b]) F hr hb (fun _ _ _ e s' _ c => ?_) I (.cons rfl (.cons rfl .nil)) hs) (fun r s' q => ?_) fun _ _ z => z
  . obtain ⟨_, _, _, _, _, _, _, _, _, _, _, _, z⟩ := c
    exact z.elim
  . obtain ⟨z, H', I', rz, t, ez, t', et, q⟩ := q
    subst ez
    cases et
    cases rz
    exact ⟨t, rfl, .bl !t, H', I', rfl, q⟩
section
variable {K : PySem.W.Frag} {σ : St} {H : Hp} {Q : VK} {W : WX}
theorem xX' {m : M.ME} {Q : Bool -> Hp -> Prop} (h : qT K W (M.hy' (M.tE m)) σ H Q) : qE K W m σ H fun v H' => ∃ r, v = .bl r /\ ∃ k, V.bl (!r) = .bl k /\ Q k H' := by
  obtain ⟨ρ, F, T, fr, rel, h⟩ := h
  refine ⟨ρ, F, T, fr, rel, (aU'.bind (aU'.bind h)).mono (fun d ρ1 h1 v H1 F1 T1 e z r => ?_) fun _ _ z => z⟩
  obtain ⟨k, rfl, h2⟩ := aU'.asB h1
  exact ⟨k, z.bl_inv, _, rfl, h2 _ _ _ e r⟩
end
section
variable {X : Cx} {W : WX} {pos : Pos} {a b : Expr} {ma mb : M.ME} {k : Nat} {args : List Str} {mf : M.MF}
theorem xu' {C : String} {ps : List (String × String)} (F : OgM X.prog X.w X.K X.mg X.base k (He.ga X.K C) "__eq__" args (spM X.K mf)) (hr : RoomG (k + 1) X.A) (hp : NeP X.K ps (He.ma X.K (He.ga X.K C) "__eq__")) (ha : SE X W a ma) (hb : SE X W b mb) :
    ST X W (.Compare a [.NotEq] [b] pos) (M.hy' (M.tE (M.uq' ps mf ma mb))) := PT.imp (pt_cmpR (x5' F hr hp) ha hb (nomark _)) fun _ _ _ h => nK' (xX' h)
end
end S
namespace S
open PySem PySem.Spec PyProof.Rows L2
variable [Wd] [Hot]
def Ce' (z : Str) : Str := ⟨z.cps.toList.reverse.toArray⟩
def AM' (K : PySem.W.Frag) : V -> Hp -> VK -> Prop := fun x H Q => (∃ z, x = .str z /\ z.length <= sizeLine /\ Q (.str (Ce' z)) H) \/ (∃ a xs, x = .ref a /\ SqL K H a xs /\ ∀ p, H p = none -> Q (.ref p) (upd H p (.lst xs.reverse)))
theorem oy' {lo up by' : Value} (h1 : IsPart lo none) (h2 : IsPart up none) (h3 : IsPart by' (some (-1))) : lo = .none /\ up = .none /\ ∃ tk, by' = .int (-1) tk := by
  have no : ∀ {v : Value}, IsPart v none -> v = .none := fun {v} q => by
    obtain ⟨r, rfl, z⟩ := IsPart.raw q
    cases r with
    | none => rfl
    | some r => cases z
  obtain ⟨r, rfl, z⟩ := IsPart.raw h3
  cases r with
  | none => cases z
  | some r =>
    obtain ⟨i, tk⟩ := r
    obtain rfl : i = -1 := Option.some.inj z
    exact ⟨no h1, no h2, tk, rfl⟩
def tv' (X : Cx) (e sl : Expr) (r : V -> Hp -> VK -> Prop) : Prop := ∀ (pins : List (Addr × Obj)) (s : Shared) (σ : St) (H : Hp) (x : V) (v lo up by' : Value) (Q : VK), Inv X pins σ H s -> RelV x v -> IsPart lo none -> IsPart up none -> IsPart by' (some (-1)) -> r x H Q →
  Inv X pins σ H { s with heap := s.heap.push { cls := .type "slice", data := .fields #[lo, up, by'] } } →
  wpAny (model X.prog X.w) X.A (subscriptTail e sl v (.ref s.heap.objs.size)) (EP X pins σ Q) X.xe { s with heap := s.heap.push { cls := .type "slice", data := .fields #[lo, up, by'] } }
theorem vv' {X : Cx} {e : Expr} {te : TE} {k : Nat} {p1 p2 p3 pos : Pos} {r : V -> Hp -> VK -> Prop} (he : PE X e te) (tail : tv' X e (.Slice none none (some (.UnaryOp .USub (.Constant (.int 1) k p1) p2)) p3) r) :
    PE X (.Subscript e (.Slice none none (some (.UnaryOp .USub (.Constant (.int 1) k p1) p2)) p3) pos) (fun σ H Q => te σ H fun x H1 => r x H1 Q) := by
  have minus : PO X (some (.UnaryOp .USub (.Constant (.int 1) k p1) p2)) (tPart (tUn (rU fun i => .int (-i)) (tC (.int 1)))) := po_some (pe_un un_neg pe_int)
  -- a part that is left out changes nothing
  have left : ∀ (pins : List (Addr × Obj)) (s : Shared) (σ : St) (H : Hp), Inv X pins σ H s -> _ := fun pins s σ H I => po_none.run pins s σ H (fun o H2 => o = none /\ H2 = H) I ⟨rfl, rfl⟩
  exact ⟨fun pins s σ H Q I want => Subscript_ (thn (he.run pins s σ H _ I want) fun v sa ⟨x, Ha, Ia, rx, wx⟩ => wpAny_Slice (thn (left pins sa σ Ha Ia) fun lo sb ⟨o1, Hb, Ib, q1, z1, y1⟩ => by
    cases z1
    cases y1
    exact thn (left pins sb σ Ha Ib) fun up sc ⟨o2, Hc, Ic, q2, z2, y2⟩ => by
      cases z2
      cases y2
      exact thn (minus.run pins sc σ Ha (fun o H4 => o = some (-1) /\ H4 = Ha) Ic ⟨1, rfl, -1, rfl, rfl, rfl⟩) fun by' sd ⟨o3, Hd, Id, q3, z3, y3⟩ => by
        cases z3
        cases y3
        exact tail pins sd σ Ha x v lo up by' Q Id rx q1 q2 q3 wx (Id.kept (t' := sd.toks) fun _ _ there => Heap.get?_push_of_some _ there)))⟩
theorem vr' {X : Cx} {e : Expr} {te : TE} {k : Nat} {p1 p2 p3 pos : Pos} (he : PE X e te) : PE X (.Subscript e (.Slice none none (some (.UnaryOp .USub (.Constant (.int 1) k p1) p2)) p3) pos) (fun σ H Q => te σ H fun x H1 => AM' X.K x H1 Q) := vv' he fun pins s4 σ H4 x v vl vu vs Q I4 r1 pl pu ps q1 I5 => by
  rcases q1 with ⟨z, rfl, hz, q⟩ | ⟨a, xs, rfl, hx, q⟩
  . obtain ⟨t, rfl⟩ := r1
    show wpAny (model X.prog X.w) X.A (subscriptTail e (.Slice none none (some (.UnaryOp .USub (.Constant (.int 1) k p1) p2)) p3) (.str z t) (.ref s4.heap.objs.size)) (EP X pins σ Q) X.xe { s4 with heap := s4.heap.push { cls := .type "slice", data := .fields #[vl, vu, vs] } }
    refine tail_any (ops := [.str z t, .ref s4.heap.objs.size]) (typeIs_str _ z t) (F.slot_str_getitem.lookup) ?_ (by with_unfolding_all rfl)
    obtain ⟨rfl, rfl, tk, rfl⟩ : vl = .none /\ vu = .none /\ ∃ tk, vs = .int (-1) tk := oy' pl pu ps
    refine wpAny_getItem_str_slice (l := none) (u := none) (st := some (-1, tk)) ⟨_, Heap.get?_push_size _ rfl, rfl, rfl⟩ rfl ?_
    show Made.post (if (((-1 : Int) == 1) && _) = true then Made.val (.str z t) else Made.str ⟨((Builtin.Str.strSliceIndices none none (-1) z.length).filterMap (z.cps[·]?)).toArray⟩) (EP X pins σ Q) _
    rw [if_neg (by simp), picked_rev, PySem.W.krv_range, List.filterMap_reverse]
    rw [show (List.range z.length).filterMap (z.cps[·]?) = z.cps.toList from PySem.W.krv_all z.cps]
    refine ⟨?_, .str _, H4, I5.tok _, ⟨_, rfl⟩, q⟩
    show z.cps.toList.reverse.toArray.size <= sizeLine
    rw [List.size_toArray, List.length_reverse, Array.length_toList]
    exact hz
  . cases r1
    obtain ⟨its, r, ht, hz⟩ := I5.list hx
    have fits : its.toArray.size <= sizeLine := by rw [List.size_toArray, <- r.length]; exact hz
    have laid := I5.laid (t' := s4.toks) (o := .lst xs.reverse) (fun _ _ there => Heap.get?_push_of_some _ there) (Nat.le_refl _) ⟨by rw [List.length_reverse]; exact hz, _, 0, r.reverse, Heap.get?_push_size _ rfl⟩
    exact tail_any (ops := [.ref a, .ref s4.heap.objs.size]) ht.isList.typeIs PySem.slot_list_getitem.lookup
      (wpAny_getItem_list_slice ht.isList (Heap.IsSliceOf.new _ vl vu vs) pl pu ps (by decide) (by
        rw [PySem.W.krv_pick]
        exact ⟨.ref _, _, laid, rfl, q _ (I5.hok.fresh (Nat.le_refl _))⟩) fits) (by with_unfolding_all rfl)
theorem vB' {s : M.Tx} (o : okT s) : okT s.reverse := o.sub (fun c hc => List.mem_reverse.mp hc) (by rw [List.length_reverse]; exact Nat.le_refl _)
section
variable {X : Cx} {W : WX} {a : Expr} {ma : M.ME} {pos p1 p2 p3 : Pos} {k : Nat}
theorem vc' (ha : SE X W a ma) : SE X W (.Subscript a (.Slice none none (some (.UnaryOp .USub (.Constant (.int 1) k p1) p2)) p3) pos) (M.eUn M.wS' ma) :=
  PE.imp (vr' ha) fun σ H Q ⟨ρ, F, T, fr, rel, h⟩ => by
    refine az' rel h fun dx ρ1 v H1 F1 T1 e1 z1 r1 h1 => ?_
    obtain ⟨dz, ez, q⟩ := aU'.ofO h1
    obtain ⟨fp, f1, back⟩ := r1.fp
    have g : e5' X.K F1 T1 fp dz fun v' H4 => Q v' H4 := fun v' H4 F4 s zz f4 => q v' H4 F4 T1 (e1.trans (.of s)) zz (back H4 F4 s f4)
    cases dx <;> try (cases ez; done)
    . obtain ⟨rfl, o1⟩ := z1.str_inv
      cases ez
      refine .inl ⟨_, rfl, o1.len, ?_⟩
      have e : Ce' (sx ‹M.Tx›) = sx (‹M.Tx›.reverse) := it' (by rfl)
      rw [e]
      exact g.here f1 (.str (vB' o1))
    . obtain ⟨a, vs, rfl, ha, za⟩ := z1.lst_inv
      cases ez
      exact .inr ⟨a, vs, rfl, SqL.of (f1.low _ _ ha), fun p hp => g.newL f1 za.rev hp⟩
end
end S
namespace S
open PySem PySem.Spec PyProof.Rows L2 TL
variable [Wd] [Hot]
section
variable {K : PySem.W.Frag}
end
end S
namespace S
open PySem PySem.Spec PyProof.Rows L2
variable [Wd] [Hot]
section
variable {X : Cx} {W : WX} {K : PySem.W.Frag} {a b : Expr} {ma : M.ME} {pos : Pos}
end
end S
namespace S
open PySem PySem.Spec PyProof.Rows L2
variable [Wd] [Hot]
section
variable {K : PySem.W.Frag} {W : WX} {σ : St} {H : Hp}
end
section
variable {X : Cx} {W : WX} {pos : Pos} {elt tg iter tg1 iter1 : Expr} {ifs ifs1 : List Expr} {scope : Scope} {own : List (Str × Nat)} {sl sl0 sl1 : List Nat} {it it1 : M.MI} {g g1 : M.MG} {t t1 : M.MT} {e : M.ME}
end
end S
namespace S
open PySem PySem.Spec PyProof.Rows L2
end S
namespace S
open PySem PySem.Spec PyProof.Rows L2
variable [Wd] [Hot]
section
variable {K : PySem.W.Frag} {W : WX} {X : Cx} {p pos : Pos} {a b : Expr} {ma mb : M.ME}
end
end S
namespace S
open PySem PySem.Spec PyProof.Rows L2
variable [Wd] [Hot]
section
variable {X : Cx} {W : WX} {K : PySem.W.Frag} {a : Expr} {ma : M.ME} {pos : Pos}
end
end S
namespace S
open PySem PySem.Spec PyProof.Rows L2
variable [Wd] [Hot]
section
variable {K : PySem.W.Frag} {W : WX} {σ : St} {H : Hp}
end
section
variable {X : Cx} {W : WX} {pos px : Pos} {elt tg : Expr} {ifs : List Expr} {scope : Scope} {own : List (Str × Nat)} {sl : List Nat} {i : Nat} {nm : Str} {g : M.MG} {t : M.MT} {e : M.ME}
end
end S
namespace S
open PySem PySem.Spec PyProof.Rows L2
variable [Wd] [Hot]
section
variable {X : Cx} {W : WX} {pos cpos apos : Pos} {o a : Expr} {mo : M.ME} {ma : M.MO}
end
end S
namespace S
open PySem PySem.Spec PyProof.Rows L2
structure SupF (file : Str) (K : PySem.W.Frag) (C f : Addr) (fld : Str) : Prop where
  ex : ∃ (oc : Value) (od : Option Addr) (fd : FuncData) (osl : Array (Option Value)) (x y : Str) (cc cda : Addr), K.lookup f = some ⟨oc, od, .func fd, osl⟩ /\ B6' fd.params = some (x, y) /\ B3' fd.body = some (("super" : Str), ("__init__" : Str), x, fld, y) ∧
    fd.closure = [(("__class__" : Str), cc)] /\ fd.code = .ref cda /\ fd.defaults = .none /\ fd.kwdefaults = .none /\ fd.globals = mainGlobals /\ fd.builtins = builtinsNs /\ PySem.W.codeIn K (.ref cda) fd.qualname = true ∧
    fd.scope.names.lookup ("super" : Str) = some .globalImplicit /\ fd.scope.names.lookup ("__class__" : Str) = some .free /\ fd.scope.names.lookup x = some .local /\ fd.scope.names.lookup y = some .local /\ (∀ q ∈ fd.scope.names, q.2 ≠ .cell) ∧
    fd.scope.kind = .function /\ fd.scope.isGenerator = false /\ fd.scope.isCoroutine = false /\ x = "self" /\ (y = "part" \/ y = "most") ∧
    (∃ a b c, K.lookup cc = some ⟨a, b, .cell (some (.ref C)), c⟩) /\ (∃ a b c vs tf, K.lookup cda = some ⟨a, b, .fields vs, c⟩ /\ vs[2]? = some (.str file tf))
  sup : PySem.W.ks_superIn K C C "__init__" = some (some (.builtin "ValueError.__init__"))
  own : PySem.W.mroIn K C (.ref C) = some true
  ve : PySem.W.subIn K (.ref C) (.type "ValueError") = some true
  no3 : PySem.W.nsIn K cStatics "thirdparty.any" = some none
  cls : ∃ nm q N bs bm sn sub ab col dd k0 k1 k2 k3 k5, K.lookup C = some (excClassObj nm q C N bs bm true sn sub ab col dd k0 k1 k2 k3 k5 "ValueError.__new__") /\ HandSPX.refsVE bm = true
  sa : PySem.W.findIn K (.ref C) "__setattr__" = some (some (.builtin "object.__setattr__"))
  exC : PySem.W.subIn K (.ref C) (.type "BaseException") = some true
  tyC : PySem.W.typeIn K (.ref C) = some (.type "type")
  kC : PySem.W.keepIn K (.ref C) = true
  iC : PySem.W.findIn K (.ref C) "__init__" = some (some (.ref f))
  tI : PySem.W.typeIn K (.ref f) = some (.type "function")
  fl : PySem.W.findIn K (.ref C) fld = some none
end S
namespace S
open PySem PySem.Spec PyProof.Rows L2
variable [Wd] [Hot]
local macro_rules | `(tactic| walk_at "parts") => `(tactic| (constructor; (intro e h; simp only [List.mem_append, List.mem_cons, List.not_mem_nil] at *; grind); (intro x; simp only [keys, List.map_append, List.map_cons, List.map_nil, List.count_append, List.count_cons, List.count_nil] at *; omega)))
section
variable {prog : Program} {w : World} {A : Around} {E : Value -> Shared -> Prop} {s : Shared}
end
def Dg' (K : PySem.W.Frag) (ps : List (String × String)) (g : Addr) : Prop := ∀ C, (C, C) ∈ ps -> PySem.W.findIn K (.ref (He.ga K (Str.ofString C))) "__eq__" = some (some (.ref g)) /\ PySem.W.isFn K (.ref g) = true ∧
  ∀ n ∈ ["NoneType", "bool", "int", "str", "tuple", "list", "dict"], PySem.W.notFirst K (He.ga K (Str.ofString C)) (.type n) = true
def rEqD (K : PySem.W.Frag) (ps : List (String × String)) (mf : M.MF) : R2 := fun x y H Q => ∃ (C n : String) (a dx : Addr) (fs : List (Str × V)), (C, C) ∈ ps /\ n ∈ ["NoneType", "bool", "int", "str", "tuple", "list", "dict"] /\ x = .ref a ∧
  H a = some (.ins (He.ga K (Str.ofString C)) dx fs) /\ TyX K H y (.type n) /\ spM K mf [x, y] H (fun v H' => ∃ r, v = .bl r /\ Q (.bl r) H') E0
theorem op_eqD {X : Cx} {k : Nat} {C0 : Addr} {args : List Str} {ps : List (String × String)} {mf : M.MF} (F : OgM X.prog X.w X.K X.mg X.base k C0 "__eq__" args (spM X.K mf)) (hr : RoomG k X.A) (hp : Dg' X.K ps (He.ma X.K C0 "__eq__")) :
    OpR X (compareOp .Eq) (rEqD X.K ps mf) := by
  obtain ⟨fd, F, hb⟩ := F
  intro pins s σ H x y v u Q I rx ry h
  obtain ⟨C, n, a, dx, fs, hC, hn, rfl, ha, ht, hs⟩ := h
  cases (show v = Value.ref a from rx)
  obtain ⟨q1, q2, q3⟩ := hp _ hC
  obtain ⟨mA, J, _⟩ := ins_get I.hok ha
  obtain ⟨od, J, _⟩ := J.look
  obtain ⟨m, hF⟩ := I.fr
  obtain ⟨P, Z, hP, _⟩ := kit_of I ry ht
  show wpAny (model X.prog X.w) X.A (richCompare .Eq (.ref a) u) (EP X pins σ Q) X.xe s
  refine PySem.W.cmp_K (op := .Eq) (tb := .type n) hr.r.units0 hF I.ok.mod.kin J (Z.ty _ _ I.kIn hP) (q3 n hn) q1 q2 ?_
  refine wpAny_mono (gC' (E := fun _ => E0) (us := [.ref a, u]) (vs := [.ref a, y]) F hr hb (fun _ _ _ e s' _ c => ?_) I (.cons rfl (.cons ry .nil)) hs) (fun r s' q => ?_) fun _ _ z => z
  . obtain ⟨_, _, _, _, _, _, _, _, _, _, _, _, z⟩ := c
    exact z.elim
  . obtain ⟨z, H', I', rz, t, ez, q⟩ := q
    subst ez
    cases rz
    exact ⟨.bl t, H', I', rfl, q⟩
section
variable {K : PySem.W.Frag} {σ : St} {H : Hp} {Q : VK} {W : WX}
end
section
variable {X : Cx} {W : WX} {pos p tpos : Pos} {a b e o i : Expr} {ma mb mo mi : M.ME} {k : Nat} {args : List Str} {mf : M.MF}
end
end S
namespace S
open PySem PySem.Spec PyProof.Rows L2
variable [Wd] [Hot]
mutual
inductive DqN (K : PySem.W.Frag) (H : Hp) : V -> M.D -> Prop
  | leaf {v : V} {d : M.D} : Dp K H v (py d) -> M.ei' d = true -> DqN K H v d
  | tup {a : Addr} {vs : List V} {ds : List M.D} : SqT K H a vs -> DqNs K H vs ds -> DqN K H (.ref a) (.tup ds)
  | lst {a : Addr} {vs : List V} {ds : List M.D} : H a = some (.lst vs) -> DqNs K H vs ds -> DqN K H (.ref a) (.lst ds)
  | dct {a : Addr} {kvs : List (Key × V)} {ds : List M.D} : Rd H a (.dK kvs) -> kU' kvs -> DqNs K H (kvs.map (·.2)) ds -> DqN K H (.ref a) (.dct (kvs.map fun p => kD p.1) ds)
inductive DqNs (K : PySem.W.Frag) (H : Hp) : List V -> List M.D -> Prop
  | nil : DqNs K H [] []
  | cons {v : V} {d : M.D} {vs : List V} {ds : List M.D} : DqN K H v d -> DqNs K H vs ds -> DqNs K H (v :: vs) (d :: ds)
end
section
variable {K : PySem.W.Frag} {F H : Hp} {T : List Addr}
end
section
variable {X : Cx} {pins : List (Addr × Obj)} {σ : St} {H : Hp} {s : Shared}
def z4' (K : PySem.W.Frag) : Prop := ∃ o, K.lookup sysModules = some o
theorem u0' (I : Inv X pins σ H s) (h : z4' X.K) {a : Addr} {o : HO} (ha : H a = some o) : a ≠ sysModules := fun e => by
  obtain ⟨ob, hk⟩ := h
  have := (I.bs _ _ (I.ok.mod.kin _ _ hk)).2
  rw [e, this] at ha
  cases ha
mutual
theorem DqN.reads (I : Inv X pins σ H s) (hS : z4' X.K) : ∀ {v : V} {d : M.D} {u : Value}, DqN X.K H v d -> RelV v u -> ∃ as, Reads s.heap u (py d) as /\ sysModules ∉ as
  | _, _, _, .leaf h l, r => ⟨[], eh' I l h r, by simp⟩
  | _, _, _, .tup hs la, r => by
    cases r
    obtain ⟨its, rv, ⟨o, ho, hc, n, hd⟩, _⟩ := I.tuple hs
    obtain ⟨as, hr, hm⟩ := DqNs.reads I hS la rv
    exact ⟨_, Reads.tuple ho hc hd hr, hm⟩
  | _, _, _, .lst (a := a) hs la, r => by
    cases r
    obtain ⟨_, its, n, rv, hd⟩ := I.hok a _ hs
    obtain ⟨as, hr, hm⟩ := DqNs.reads I hS la rv
    refine ⟨_, Reads.list hd rfl rfl hr, fun z => ?_⟩
    rcases List.mem_cons.mp z with z | z
    . exact u0' I hS hs z.symm
    . exact hm z
  | _, _, _, .dct (a := a) (kvs := kvs) (ds := ds) e k la, r => by
    cases r
    obtain ⟨_, hs, vs, rk, hd⟩ := dk_rd I.hok e
    obtain ⟨bs, hp, hm⟩ := DqNs.pairs I hS la kvs rfl rk
    refine ⟨_, PyProof.V.reads_dictOf (enc := kP) (fun k key hk => ?_) hd hp, fun z => ?_⟩
    . rcases keyIs_shape hk with ⟨i, t, rfl, rfl⟩ | ⟨x, t, rfl, rfl⟩
      . exact .int i t
      . exact .str _ t
    . rcases List.mem_cons.mp z with z | z
      . rw [<- z] at hs
        simp at hs
      . exact hm z
theorem DqNs.reads (I : Inv X pins σ H s) (hS : z4' X.K) : ∀ {vs : List V} {ds : List M.D} {us : List Value}, DqNs X.K H vs ds -> Vals vs us -> ∃ as, ReadsAll s.heap us (pys ds) as /\ sysModules ∉ as
  | _, _, _, .nil, r => by
    cases r
    exact ⟨[], .nil, by simp⟩
  | _, _, _, .cons h1 h2, r => by
    cases r with
    | cons r1 r2 =>
      obtain ⟨as, q1, q4⟩ := DqN.reads I hS h1 r1
      obtain ⟨bs, q2, q3⟩ := DqNs.reads I hS h2 r2
      exact ⟨_, .cons q1 q2, fun z => (List.mem_append.mp z).elim q4 q3⟩
theorem DqNs.pairs (I : Inv X pins σ H s) (hS : z4' X.K) : ∀ {vs : List V} {ds : List M.D}, DqNs X.K H vs ds -> ∀ (kvs : List (Key × V)) {us : List (Key × Value)}, kvs.map (·.2) = vs -> KV kvs us →
    ∃ bs, PyProof.V.PairsRead s.heap kP us ((pys (kvs.map fun p => kD p.1)).zip (pys ds)) bs /\ sysModules ∉ bs
  | _, _, .nil, kvs, us, e, r => by
    cases kvs with
    | nil => cases r; exact ⟨[], .nil, by simp⟩
    | cons _ _ => cases e
  | _, _, .cons h1 h2, kvs, us, e, r => by
    cases kvs with
    | nil => cases e
    | cons p kvs =>
      obtain ⟨k, v⟩ := p
      obtain ⟨rfl, e2⟩ := List.cons.inj e
      cases r with
      | @cons _ q _ us hr hp =>
        obtain ⟨k', u⟩ := q
        obtain ⟨he, hr⟩ := hr
        have he : k = k' := he
        subst he
        obtain ⟨as, q1, q4⟩ := DqN.reads I hS h1 hr
        obtain ⟨bs, q2, q3⟩ := DqNs.pairs I hS h2 kvs e2 hp
        exact ⟨_, PyProof.V.PairsRead.cons (enc := kP) (k := k) q1 q2, fun z => (List.mem_append.mp z).elim q4 q3⟩
end
end
section
variable {X : Cx}
end
end S
namespace S
open PySem PySem.Spec PyProof.Rows L2
variable [Wd] [Hot]
end S
namespace S
open PySem PySem.Spec PyProof.Rows L2 HT
variable [Wd] [Hot]
section
variable {prog : Program} {w : World} {A : Around} {E : Value -> Shared -> Prop} {s : Shared}
end
section
variable {X : Cx} {W : WX} {a : Expr} {ma : M.ME} {pos p1 p2 p3 : Pos} {k : Nat}
end
end S
namespace S
open PySem PySem.Spec PyProof.Rows L2
variable [Wd]
section
variable {X : Cx} {W : WX} {pos p : Pos} {a b : Expr}
end
end S
namespace S
open PySem PySem.Spec PyProof.Rows L2 CwR
section
variable {X : Cx} {o e : Expr} {te to : TE} {es : List Expr} {ta : TA} {y z : Str} {i : Int} {j j1 j2 : Nat} {c0 c1 apos pos p : Pos}
end
variable [Wd]
section
variable {X : Cx} {W : WX} {o : Expr} {mo : M.ME} {y z : Str} {i : Int} {j j1 j2 : Nat} {c0 c1 apos pos p : Pos}
end
end S
namespace S
open PySem PySem.Spec PyProof.Rows L2
variable [Wd]
section
variable {X : Cx} {W : WX} {a : Expr} {ma : M.ME} {pos : Pos}
end
end S
namespace S
open PySem PySem.Spec PyProof.Rows L2
end S
namespace S
open PySem PySem.Spec PyProof.Rows L2
variable [Wd] [Hot]
section
variable {K : PySem.W.Frag} {W : WX} {X : Cx} {p pos : Pos} {a b : Expr} {ma mb : M.ME}
end
end S
namespace S
open PySem PySem.Spec
open PySem (ZipApart)
structure ZlSt (h : Heap) (z TI TO i1 i2 l1 l2 : Addr) (xs ys : Array Value) (S : Addr) (i : Nat) : Prop where
  ti : IsPair h TI (.ref i1) (.ref i2)
  it1 : h.IsListIter i1 l1 i
  it2 : h.IsListIter i2 l2 i
  li1 : h.IsList l1 xs
  li2 : h.IsList l2 ys
  zz : (IsZip h z TI TO .none /\ ∃ a b, IsPair h TO a b) \/ ∃ T f oT, PySem.IsZipHeld h z TI TO T f /\ h.get? T = some oT /\ T ≠ z /\ T ≠ i1 /\ T ≠ i2 /\ T ≠ S
structure ZlA (z TI TO i1 i2 l1 l2 S : Addr) : Prop where
  z : z < S
  TI : TI < S
  TO : TO < S
  i1 : i1 < S
  i2 : i2 < S
  l1 : l1 < S
  l2 : l2 < S
section
variable {prog : Program} {w : World} {A : Around} {E : Value -> Shared -> Prop} {s : Shared} {z TI TO i1 i2 l1 l2 S : Addr} {xs ys : Array Value} {i : Nat}
theorem ZlSt.keep {h h' : Heap} (st : ZlSt h z TI TO i1 i2 l1 l2 xs ys S i) (L : ZlA z TI TO i1 i2 l1 l2 S) (hk : ∀ b o, b ≠ S -> h.get? b = some o -> h'.get? b = some o) : ZlSt h' z TI TO i1 i2 l1 l2 xs ys S i := by
  obtain ⟨a1, a2, a3, a4, a5, a6⟩ := st
  have n : ∀ {a : Addr}, a < S -> a ≠ S := fun h => Nat.ne_of_lt h
  refine ⟨hk _ _ (n L.TI) a1, a2.at fun o e => hk _ o (n L.i1) e, a3.at fun o e => hk _ o (n L.i2) e, a4.at fun o e => hk _ o (n L.l1) e, a5.at fun o e => hk _ o (n L.l2) e, ?_⟩
  rcases a6 with ⟨hz, a, b, hTO⟩ | ⟨T, f, oT, hz, hT, r1, r2, r3, r4⟩
  . exact .inl ⟨hk _ _ (n L.z) hz, a, b, hk _ _ (n L.TO) hTO⟩
  . exact .inr ⟨T, f, oT, hk _ _ (n L.z) hz, hk _ _ r4 hT, r1, r2, r3, r4⟩
structure ZlG (xs ys : Array Value) (lo : Addr) (h : Heap) (as : List Addr) : Prop where
  rise : as.Pairwise (· < ·)
  above : ∀ a ∈ as, lo < a
  pairs : ∀ (j : Nat) (a : Addr), as[j]? = some a -> ∃ x y, xs[j]? = some x /\ ys[j]? = some y /\ h.get? a = some { cls := .type "tuple", data := .seq #[x, y] }
theorem ZlG.there {lo : Addr} {h : Heap} {as : List Addr} (g : ZlG xs ys lo h as) {a : Addr} (ha : a ∈ as) : a < h.objs.size := by
  obtain ⟨j, hj⟩ := List.mem_iff_getElem?.mp ha
  obtain ⟨_, _, _, _, e⟩ := g.pairs j a hj
  exact Heap.lt_size e
end
section
variable {prog : Program} {w : World} {A : Around} {s : Shared} {R : Result -> Shared -> Prop} {z TI TO i1 i2 l1 l2 S : Addr} {xs ys : Array Value}
end
section
variable {prog : Program} {w : World} {A : Around} {E : Value -> Shared -> Prop} {s : Shared} {z TI TO i1 i2 l1 l2 S : Addr} {xs ys : Array Value}
theorem ZlSt.type {h : Heap} {i : Nat} (st : ZlSt h z TI TO i1 i2 l1 l2 xs ys S i) : ∃ o, h.get? z = some o /\ o.cls = .type "zip" := by
  rcases st.zz with ⟨hz, _⟩ | ⟨T, f, oT, hz, _⟩
  . exact ⟨_, hz, rfl⟩
  . exact ⟨_, hz, rfl⟩
end
end S
namespace S
open PySem PySem.Spec PyProof.Rows L2 LiI
section
variable {X : Cx}
end
section
variable {K : PySem.W.Frag} [Wd]
end
section
variable [Wd] {X : Cx} {W : WX} {a b : Expr} {ma mb : M.ME} {p p2 pos pos2 : Pos}
end
end S
namespace S
open PySem PySem.Spec PyProof.Rows L2
section
variable {prog : Program} {w : World} {A : Around} {E : Value -> Shared -> Prop} {s : Shared} {z TI TO i1 i2 l1 l2 : Addr} {xs ys : Array Value} {k : Nat}
abbrev ZO (h : Heap) (z TI TO : Addr) (f0 : Value) (b : Bool) : Prop :=
  h.get? z = some { cls := .type "zip", dict := none, data := .fields #[f0, .bool b, .bool false, .ref TI, .ref TO], slots := #[] }
def Gvn (f0 : Value) : Prop := f0 = .none \/ ∃ T : Addr, f0 = rawInt T
structure ZnSt (h : Heap) (z TI TO i1 i2 l1 l2 : Addr) (k : Nat) : Prop where
  zz : ∃ f0 b, ZO h z TI TO f0 b /\ Gvn f0
  ti : IsPair h TI (.ref i1) (.ref i2)
  to : ∃ x y, IsPair h TO x y
  h1 : h.IsTupleIter i1 l1 k
  h2 : h.IsTupleIter i2 l2 k
end
end S
namespace S
open PySem PySem.Spec PyProof.Rows L2
section
variable [Wd] [Hot] {X : Cx} {W : WX} {a b : Expr} {ma mb : M.ME} {p pos : Pos}
end
end S
namespace S
open PySem PySem.Spec PyProof.Rows L2
section
variable [Wd] [Hot] {X : Cx} {W : WX} {a : Expr} {ma : M.ME} {pos : Pos}
end
end S
namespace S
open PySem PySem.Spec PyProof.Rows L2
variable [Wd]
inductive DSd (K : PySem.W.Frag) (H : Hp) (a : Addr) (y v : V) (Q : V -> Hp -> Prop) : Prop
  | old {xs : List (NestedKey × Addr × V)} {b : Addr} {k : NestedKey} {u : V} : H a = some (dcN a xs) -> wK' K H xs -> y = .ref b -> NkV K H (.ref b) k -> k.depth <= 8 -> valV (xsV xs) k = some u -> xs.length <= sizeLine -> Q u H -> DSd K H a y v Q
  | new {xs : List (NestedKey × Addr × V)} {b : Addr} {k : NestedKey} : H a = some (dcN a xs) -> wK' K H xs -> y = .ref b -> NkV K H (.ref b) k -> k.depth <= 8 -> valV (xsV xs) k = none -> (kZ' xs k b v).length <= sizeLine -> Q v (upd H a (dcN a (kZ' xs k b v))) -> DSd K H a y v Q
  | fst {b : Addr} {k : NestedKey} : H a = some (dcL a []) -> y = .ref b -> NkV K H (.ref b) k -> k.depth <= 8 -> Q v (upd H a (dcN a [(k, b, v)])) -> DSd K H a y v Q
section
variable {X : Cx} {pins : List (Addr × Obj)} {σ : St} {H : Hp} {s : Shared} {a : Addr} {y : V} {u : Value} {A : Around} {E : Value -> Shared -> Prop}
end
section
variable [Hot] {X : Cx} {W : WX} {o : Expr}
end
end S
namespace PySem.W
open Spec PyProof PyProof.Rows
section
variable {prog : Program} {w : World} {A A₀ : Around} {E : Value -> Shared -> Prop} {s : Shared} {K : Frag} {x y C C' L f : Addr} {h₀ : Heap} {m : Str -> Option Value} {ox oy : Obj} {od od' : Option Obj} {b tb : Value}
end
end PySem.W
namespace S
open PySem PySem.Spec PyProof.Rows L2
variable [Wd] [Hot]
local macro_rules | `(tactic| walk_at "parts") => `(tactic| (constructor; (intro e h; simp only [List.mem_append, List.mem_cons, List.not_mem_nil] at *; grind); (intro x; simp only [keys, List.map_append, List.map_cons, List.map_nil, List.count_append, List.count_cons, List.count_nil] at *; omega)))
section
variable {K : PySem.W.Frag} {σ : St} {H : Hp} {Q : VK} {W : WX}
end
section
variable {X : Cx} {W : WX} {pos p : Pos} {a b e : Expr} {ma mb : M.ME} {k : Nat} {args : List Str} {mf : M.MF}
end
end S
namespace S
open PySem PySem.Spec PyProof.Rows L2
local macro_rules | `(tactic| walk_at "parts") => `(tactic| (constructor; (intro e h; simp only [List.mem_append, List.mem_cons, List.not_mem_nil] at *; grind); (intro x; simp only [keys, List.map_append, List.map_cons, List.map_nil, List.count_append, List.count_cons, List.count_nil] at *; omega)))
section
variable [Wd]
variable {K : PySem.W.Frag} {F H G : Hp} {T T' : List Addr}
end
section
variable [Wd]
variable {K : PySem.W.Frag} {F H G : Hp} {T T' : List Addr}
def NoD (fp : Fp) : Prop := ∀ e ∈ fp, (∀ kvs, e.2 ≠ .dK kvs) /\ (∀ φ, e.2 ≠ .ext φ) /\ ∀ od u, e.2 ≠ .frz od u
theorem NoD.app {a b : Fp} (h : NoD a) (g : NoD b) : NoD (a ++ b) := fun e he => (List.mem_append.mp he).elim (h e) (g e)
structure Split (C A B : Fp) : Prop where
  mem : ∀ e, e ∈ C ↔ e ∈ A \/ e ∈ B
  cnt : ∀ x, (keys C).count x = (keys A).count x + (keys B).count x
end
section
variable [Wd] [Hot] {X : Cx} {W : WX} {a b e : Expr} {ma mb me : M.ME} {p p2 pos pos2 : Pos}
variable {es : List Expr} {mo : M.MO} {moa : M.MOA}
theorem RpA.rev {K : PySem.W.Frag} {F : Hp} {T : List Addr} {vs : List V} {os : List M.O} {fp : Fp} (h : RpA K F T vs os fp) : ∃ fq, RpA K F T vs.reverse os.reverse fq /\ Part fq fp := by
  induction vs generalizing os fp with
  | nil => cases h; exact ⟨[], .nil, .refl⟩
  | cons v vs ih =>
    cases h with
    | @cons _ _ o os fa fb h r =>
      obtain ⟨fq, h1, h2⟩ := ih r
      rw [List.reverse_cons, List.reverse_cons]
      have z : RpA K F T [v] [o] (fa ++ []) := .cons h .nil
      refine ⟨_, h1.app z, ?_⟩
      have p1 : Part (fq ++ (fa ++ [])) (fb ++ (fa ++ [])) := .app h2 .refl
      exact p1.trans (by walk_at "parts")
end
section
variable [Wd] {X : Cx} {W : WX} {a b : Expr} {ma mb : M.ME} {p p2 pos pos2 : Pos}
end
end S
namespace PySem.W
open PySem PySem.Spec PySem.Calls PyProof PyProof.Rows
section
variable {x t : Value} {P : Heap -> Prop}
end
end PySem.W
namespace L2
open PySem PySem.Spec PyProof.Rows
end L2
namespace S
open PySem PySem.Spec PyProof.Rows L2
variable [Wd] {X : Cx} {W : WX} {pos p : Pos} {a b : Expr}
end S
namespace S
open PySem PySem.Spec PyProof.Rows L2
variable [Wd] [Hot]
local macro_rules | `(tactic| walk_at "parts") => `(tactic| (constructor; (intro e h; simp only [List.mem_append, List.mem_cons, List.not_mem_nil] at *; grind); (intro x; simp only [keys, List.map_append, List.map_cons, List.map_nil, List.count_append, List.count_cons, List.count_nil] at *; omega)))
section
variable {K : PySem.W.Frag} {F H : Hp} {T : List Addr} {fp fr : Fp} {ρ : M.PSt} {σ : St}
theorem RpA.named {f : String} {o : M.O} : ∀ {fv : List (String × V)} {os : List M.O} {fp : Fp}, RpA K F T (fv.map (·.2)) os fp -> ((fv.map (·.1)).zip os).lookup f = some o →
    ∃ v f1 f2 f3, fv.lookup f = some v /\ fp = f1 ++ (f2 ++ f3) /\ Rp K F T v o f2 /\ ∀ o' f2', Rp K F T v o' f2' -> ∃ os', RpA K F T (fv.map (·.2)) os' (f1 ++ (f2' ++ f3)) /\ M.qz' f o' ((fv.map (·.1)).zip os) = (fv.map (·.1)).zip os'
  | [], _, _, r, h => by cases r; cases h
  | (g, v) :: fv, _, _, r, h => by
    cases r with
    | @cons _ _ o1 os fa fb r0 r =>
      by_cases e : f = g
      . subst e
        have h : some o1 = some o := by rw [<- h, List.map_cons, List.zip_cons_cons, List.lookup_cons_self]
        cases h
        refine ⟨v, [], fa, fb, List.lookup_cons_self, rfl, r0, fun o' f2' q => ⟨o' :: os, (RpA.cons q r : RpA K F T _ _ (f2' ++ fb)), ?_⟩⟩
        rw [List.map_cons, List.zip_cons_cons, List.zip_cons_cons]
        exact if_pos rfl
      . have h1 : (f == g) = false := by simpa using e
        have h : ((fv.map (·.1)).zip os).lookup f = some o := by
          rw [<- h, List.map_cons, List.zip_cons_cons]
          simp only [List.lookup, h1]
        obtain ⟨v', f1, f2, f3, e1, e2, e3, e4⟩ := RpA.named r h
        refine ⟨v', fa ++ f1, f2, f3, by simp only [List.lookup, h1]; exact e1, by rw [e2, List.append_assoc], e3, fun o' f2' q => ?_⟩
        obtain ⟨os', q1, q2⟩ := e4 o' f2' q
        refine ⟨o1 :: os', by rw [List.append_assoc]; exact .cons r0 q1, ?_⟩
        rw [List.map_cons, List.zip_cons_cons, List.zip_cons_cons]
        show (if g = f then _ else _) = _
        rw [if_neg (fun z => e z.symm), q2]
end
section
variable {X : Cx} {W : WX} {pos apos cpos tpos p2 : Pos} {a b e k value : Expr} {ma mk mv : M.ME}
end
end S
namespace S
open PySem PySem.Spec PyProof.Rows L2
variable [Wd] [Hot]
section
variable {K : PySem.W.Frag}
end
end S
namespace S
open PySem PySem.Spec PyProof.Rows L2
variable [Wd] [Hot]
section
variable {X : Cx} {W : WX} {K : PySem.W.Frag} {a b : Expr} {ma mb : M.ME} {pos p apos : Pos} {x : Str}
end
end S
namespace S
open PySem PySem.Spec PyProof.Rows L2
variable [Wd] [Hot]
section
variable {X : Cx} {tg e : Expr} {td : TE}
end
section
variable {K : PySem.W.Frag} {F : Hp} {T : List Addr}
end
section
variable {X : Cx} {W : WX} {tg a : Expr} {ma : M.ME}
end
end S
namespace S
open PySem PySem.Spec PyProof.Rows L2
variable [Wd]
section
variable {K : PySem.W.Frag}
end
variable [Hot]
section
variable {X : Cx} {W : WX} {pos cpos apos spos ipos epos : Pos}
end
end S
namespace S
open PySem PySem.Spec PyProof.Rows L2
variable [Wd]
inductive CodeMade (Ck : Addr -> Prop) (H : Hp) (P : Addr) (q : Str) (c : Addr) : Hp -> Prop
  | told : Ck c -> CodeMade Ck H P q c H
  | fresh {ps ps' : Array Value} : H c = none -> H P = some (.tbl ps) -> TriplesOk ps'.toList -> (∀ (pos : Pos) (cv : Value), codeAmong pos ps'.toList = some cv -> codeAmong pos ps.toList = some cv \/ cv = .ref c) →
      CodeMade Ck H P q c (upd (upd H P (.tbl ps')) c (LamX.CodeO c q))
section
variable {X : Cx} {pins : List (Addr × Obj)} {σ : L2.St} {H : Hp} {s : Shared}
end
end S
namespace S
open PySem PySem.Spec PyProof.Rows L2
end S
namespace S
open PySem PySem.Spec PyProof.Rows L2
variable [Wd]
end S
namespace S
open PySem PySem.Spec PyProof.Rows L2
section
variable {P : Program} {w : World} {K : PySem.W.Frag} {mg mb : Str -> Option Value} {CX : CXT} {k : Nat} {fa a : Addr} {fd : FuncData} {x : Str} {sp : Sp} {s : Shared} {vs : List Value} {n0 : Nat} {H : Hp} {cs : List (Addr × Addr)}
end
end S
namespace S
open PySem PySem.Spec PyProof.Rows L2
variable [Wd] [Hot]
section
variable {X : Cx} {W : WX} {pos apos tpos p2 : Pos} {a value : Expr} {ma mv : M.ME} {t : Str} {j2 : Nat} {s : M.Tx}
end
end S
namespace S
open PySem PySem.Spec PyProof.Rows PySem.W
section
variable {prog : Program} {w : World} {A : Around} {E : Value -> Shared -> Prop} {s : Shared}
end
section
open L2
variable {X : Cx}
end
section
open L2
variable {X : Cx} {e : Expr} {te : TE} {p apos cpos pos : Pos} {sn : Str}
end
section
open L2
variable [Wd] [Hot]
end
section
open L2
variable [Wd] [Hot]
end
section
open L2
variable [Wd] [Hot] {X : Cx} {W : WX} {a : Expr} {ma : M.ME} {p apos iapos cpos pos : Pos} {sn : Str}
end
end S
namespace S
open PySem PySem.Spec PyProof.Rows L2
local macro_rules | `(tactic| walk_at "parts") => `(tactic| (constructor; (intro e h; simp only [List.mem_append, List.mem_cons, List.not_mem_nil] at *; grind); (intro x; simp only [keys, List.map_append, List.map_cons, List.map_nil, List.count_append, List.count_cons, List.count_nil] at *; omega)))
section
variable [Wd]
variable {K : PySem.W.Frag} {F H G : Hp} {T T' : List Addr}
def Drp (kl kd : Bool) (F G : Hp) : Prop := ∀ a o, F a = some o -> G a = some o \/ (kl = true /\ ∃ vs, o = .lst vs) \/ (kd = true /\ ∃ od kvs, o = .frz od (.dK kvs))
theorem Drp.keep {kl kd : Bool} (s : Drp kl kd F G) {a : Addr} {o : HO} (h : F a = some o) (n1 : ∀ vs, o ≠ .lst vs) (n2 : ∀ od kvs, o ≠ .frz od (.dK kvs)) : G a = some o := by
  rcases s a o h with h | ⟨_, vs, e⟩ | ⟨_, od, kvs, e⟩
  . exact h
  . exact absurd e (n1 vs)
  . exact absurd e (n2 od kvs)
theorem Drp.seqT {kl kd : Bool} (s : Drp kl kd F G) {a : Addr} {xs : List V} (h : SqT K F a xs) : SqT K G a xs := by
  rcases h with (h | ⟨o, h⟩) | h
  . exact .inl (.inl (s.keep h (fun _ z => nomatch z) fun _ _ z => nomatch z))
  . exact .inl (.inr ⟨o, s.keep h (fun _ z => nomatch z) fun _ _ z => nomatch z⟩)
  . exact .inr h
theorem Drp.lst {kd : Bool} (s : Drp false kd F G) {a : Addr} {vs : List V} (h : F a = some (.lst vs)) : G a = some (.lst vs) := by
  rcases s a _ h with h | ⟨z, _⟩ | ⟨_, od, kvs, e⟩
  . exact h
  . cases z
  . cases e
theorem Drp.seqL {kd : Bool} (s : Drp false kd F G) {a : Addr} {xs : List V} (h : SqL K F a xs) : SqL K G a xs := by
  rcases h with (h | ⟨o, h⟩) | h
  . exact .inl (.inl (s.lst h))
  . exact .inl (.inr ⟨o, s.keep h (fun _ z => nomatch z) fun _ _ z => nomatch z⟩)
  . exact .inr h
theorem Drp.dict {kl : Bool} (s : Drp kl false F G) {a : Addr} {kvs : List (Key × V)} (h : Rd F a (.dK kvs)) : Rd G a (.dK kvs) := by
  rcases h with h | ⟨o, h⟩
  . exact .inl (s.keep h (fun _ z => nomatch z) fun _ _ z => nomatch z)
  . rcases s a _ h with h | ⟨_, _, e⟩ | ⟨z, _⟩
    . exact .inr ⟨o, h⟩
    . cases e
    . cases z
theorem Drp.ext {kl kd : Bool} (s : Drp kl kd F G) {a : Addr} {φ : Heap -> Prop} (h : Rd F a (.ext φ)) : Rd G a (.ext φ) := by
  rcases h with h | ⟨o, h⟩
  . exact .inl (s.keep h (fun _ z => nomatch z) fun _ _ z => nomatch z)
  . exact .inr ⟨o, s.keep h (fun _ z => nomatch z) fun _ _ z => nomatch z⟩
theorem B7' {a b : Bool} (h : (a && b) = true) : a = true /\ b = true := Bool.and_eq_true_iff.mp h
def Lnt (kl kd : Bool) (o : HO) : Prop := (kl = true /\ ∃ vs, o = .lst vs) \/ (kd = true /\ ∃ kvs, o = .dK kvs)
def De' (G : Hp) (e : Addr × HO) : Prop := G e.1 = some e.2 \/ ∃ od kvs, e.2 = .dK kvs /\ G e.1 = some (.frz od e.2)
theorem RpA.allFz {vs : List V} {os : List M.O} {fp : Fp} (r : RpA K F T vs os fp) (h : os.all M.vZ' = true) : fp = [] /\ FzA K F T vs (M.frzs os) := by
  induction vs generalizing os fp with
  | nil => cases r; exact ⟨rfl, .nil⟩
  | cons v vs ih =>
    cases r with
    | @cons _ _ o os fa fb q r =>
      obtain ⟨h1, h2⟩ := B7' (show (M.vZ' o && os.all M.vZ') = true from h)
      obtain ⟨rfl, z⟩ := ih r h2
      cases o <;> try (cases h1; done)
      cases q with
      | fz q => exact ⟨rfl, .cons q z⟩
theorem Rp.lendO {kl kd : Bool} {v : V} {o : M.O} {fp : Fp} (q : Rp K F T v o fp) (h : M.lendO kl kd o = true) : (∀ e ∈ fp, Lnt kl kd e.2) /\ fp.length = M.zW' o /\ ∀ G, Same F G -> (∀ e ∈ fp, De' G e) -> Fz K G T v (M.frz o) := by
  cases q with
  | fz z => exact ⟨nofun, rfl, fun G s _ => z.mono (.of s)⟩
  | lst r =>
    obtain ⟨h1, h2⟩ := B7' (show (kl && _) = true from h)
    obtain ⟨rfl, z⟩ := r.allFz h2
    refine ⟨fun e he => ?_, rfl, fun G s g => ?_⟩
    . cases List.mem_singleton.mp he; exact .inl ⟨h1, _, rfl⟩
    . rcases g _ List.mem_cons_self with g | ⟨_, _, g, _⟩
      . exact .lst g (z.mono (.of s))
      . cases g
  | tup r => cases h
  | dct k r =>
    obtain ⟨h1, h2⟩ := B7' (show (kd && _) = true from h)
    obtain ⟨rfl, z⟩ := r.allFz h2
    refine ⟨fun e he => ?_, rfl, fun G s g => ?_⟩
    . cases List.mem_singleton.mp he; exact .inr ⟨h1, _, rfl⟩
    . rcases g _ List.mem_cons_self with g | ⟨od, _, _, g⟩
      . exact .dct (.inl g) k (z.mono (.of s))
      . exact .dct (.inr ⟨od, g⟩) k (z.mono (.of s))
  | dcl k r => cases h
  | dcn k q r => cases h
end
section
variable [Wd] [Hot] {X : Cx} {W : WX} {e : Expr} {mo : M.MO}
end
end S
namespace S
open PySem PySem.Spec PyProof.Rows L2
local macro_rules | `(tactic| walk_at "parts") => `(tactic| (constructor; (intro e h; simp only [List.mem_append, List.mem_cons, List.not_mem_nil] at *; grind); (intro x; simp only [keys, List.map_append, List.map_cons, List.map_nil, List.count_append, List.count_cons, List.count_nil] at *; omega)))
variable [Wd] [Hot]
section
variable {K : PySem.W.Frag}
end
section
variable {X : Cx} {W : WX} {a b : Expr} {mb : M.ME} {pos : Pos}
end
end S
namespace S
open PySem PySem.Spec PyProof.Rows L2
local macro_rules | `(tactic| walk_at "parts") => `(tactic| (constructor; (intro e h; simp only [List.mem_append, List.mem_cons, List.not_mem_nil] at *; grind); (intro x; simp only [keys, List.map_append, List.map_cons, List.map_nil, List.count_append, List.count_cons, List.count_nil] at *; omega)))
variable [Wd]
section
variable {X : Cx} {pins : List (Addr × Obj)} {σ : St} {H : Hp} {s : Shared} {a b : Addr} {y d : V} {u r : Value} {ov : Option V} {A : Around} {E : Value -> Shared -> Prop}
end
section
variable [Hot] {X : Cx} {W : WX} {o e f a i k l : Expr} {me mf ma mk ml : M.ME} {pos tpos tpos2 apos cpos : Pos}
end
section
variable {K : PySem.W.Frag}
end
section
variable [Hot]
end
end S
namespace S
open PySem PySem.Spec PyProof.Rows L2
variable [Wd]
end S
namespace S
open PySem PySem.Spec PyProof.Rows L2
variable [Wd] [Hot]
section
variable {X : Cx} {W : WX}
end
end S
namespace S
open PySem PySem.Spec PyProof.Rows L2
local macro_rules | `(tactic| walk_at "parts") => `(tactic| (constructor; (intro e h; simp only [List.mem_append, List.mem_cons, List.not_mem_nil] at *; grind); (intro x; simp only [keys, List.map_append, List.map_cons, List.map_nil, List.count_append, List.count_cons, List.count_nil] at *; omega)))
variable [Wd]
inductive HitsD (K : PySem.W.Frag) (H : Hp) (ls : List (Key × V)) : List (Key × V) -> Bool -> Prop
  | nil : HitsD K H ls [] true
  | miss {p : Key × V} {r : List (Key × V)} : valV ls p.1 = none -> HitsD K H ls (p :: r) false
  | hit {p : Key × V} {u : V} {d e : PyData} {r : List (Key × V)} {b : Bool} : valV ls p.1 = some u -> Dp K H p.2 d -> Dp K H u e -> SeqAt.shaped d = true -> SeqAt.shaped e = true -> HitsD K H ls r b -> HitsD K H ls (p :: r) (PyData.eqv d e && b)
section
variable {X : Cx}
end
section
variable {K : PySem.W.Frag}
end
section
variable {X : Cx} {pins : List (Addr × Obj)} {σ : St} {H : Hp} {s : Shared} {a b : Addr} {y d : V} {u r : Value} {ov : Option V} {A : Around} {E : Value -> Shared -> Prop}
end
section
variable [Hot] {X : Cx} {W : WX} {o e f a i k l : Expr} {me mf ma mk ml : M.ME} {pos tpos tpos2 apos cpos : Pos}
end
end S
namespace S
open PySem PySem.Spec PyProof.Rows L2 PySem.SeqAt
variable [Wd] [Hot]
variable {K : PySem.W.Frag}
end S
namespace S
open PySem PySem.Spec PyProof.Rows L2
local macro_rules | `(tactic| walk_at "parts") => `(tactic| (constructor; (intro e h; simp only [List.mem_append, List.mem_cons, List.not_mem_nil] at *; grind); (intro x; simp only [keys, List.map_append, List.map_cons, List.map_nil, List.count_append, List.count_cons, List.count_nil] at *; omega)))
section
variable [Wd] [Hot] {X : Cx} {W : WX} {pos : Pos}
end
end S
namespace S
open PySem PySem.Spec PyProof.Rows L2
variable [Wd] [Hot]
section
variable {K : PySem.W.Frag} {W : WX} {σ : St} {H : Hp} {D : Ends}
end
section
variable {X : Cx} {W : WX} {pos px ps pr : Pos} {tg c e : Expr} {sl : List Nat} {i : Nat} {nm : Str} {g : M.MG} {t : M.MT} {a : M.MO}
end
section
variable {X : Cx} {W : WX} {apos cpos : Pos} {o e : Expr} {es : List Expr} {x : Str} {as : M.MA}
end
end S
namespace L2
open PySem PySem.Spec PyProof.Rows
structure Lay (X : Cx) (pn : List (Addr × Obj)) (a : Addr) (cls : Value) (d : Option Addr) (σ : St) (H : Hp) (s : Shared) : Prop where
  src : ∃ B z, Inv X pn σ H z /\ (∀ b o, z.heap.get? b = some o -> b ∉ frs X.stack -> B.get? b = some o) /\ z.heap.UpToSlots s.heap /\ HandSPX.FlyingZ B (X.env :: X.outer) a (Zc cls d) s.heap /\ s.os = z.os /\ AllBare s.gens
  na : H a = none
section
variable {X : Cx} {pn : List (Addr × Obj)} {a : Addr} {cls : Value} {d : Option Addr} {σ : St} {H : Hp} {s : Shared}
theorem Lay.inv (y : Lay X pn a cls d σ H s) : Inv X pn σ H s := by
  obtain ⟨⟨B, z, I, h1, h2, h3, h4, h5⟩, -⟩ := y
  exact I.landed h1 h3.1 h2 h4 h5
theorem Lay.held (y : Lay X pn a cls d σ H s) (hf : X.env.frame = some X.env.locals) : ∃ oe, s.heap.get? a = some oe /\ Zc cls d oe /\ (∃ vs, oe.data = .fields vs) /\ Inv (X.suite a ((a, oe) :: (X.pn ++ pn))) [] σ H s := by
  have I := y.inv
  obtain ⟨⟨B, z, -, -, -, fl, -, -⟩, na⟩ := y
  obtain ⟨oe, vs, e1, e2, e3⟩ := fl.there
  have off : a ∉ frs (X.env :: X.outer) := by
    intro m
    obtain ⟨_, o2, e4, no⟩ := fl.2.2.1.mem m
    rw [e1] at e4
    cases e4
    exact no vs e3
  have q1 : a ≠ X.env.locals := by
    intro q
    refine off (List.mem_filterMap.2 ⟨X.env, by simp, ?_⟩)
    rw [hf, q]
  have q2 : a ∉ X.fs := by
    intro m
    obtain ⟨w, m1, m2⟩ := List.mem_filterMap.1 m
    exact off (List.mem_filterMap.2 ⟨w, by simp [m1], m2⟩)
  exact ⟨oe, e1, e2, ⟨vs, e3⟩, I.suite e1 e3 na q1 q2⟩
theorem Lay.cool {M : Model} {A : Around} {E : Value -> Shared -> Prop} {Q : Unit -> Shared -> Prop} (y : Lay X pn a cls d σ H s) (h : ∀ s', Lay X pn a cls d σ H s' -> Q () s') : wpAny M A (setFlight (.ref a) none) Q E s := by
  obtain ⟨⟨B, z, I, h1, h2, h3, h4, h5⟩, na⟩ := y
  exact HandSPX.lands_againZ h3 fun g k1 k2 => h _ ⟨⟨B, z, I, h1, h2.trans k2, k1, h4, h5⟩, na⟩
theorem Lay.out {W : WX} {Q : Flow -> Shared -> Prop} (y : Lay X pn a cls d σ H s) (hs : X.stack = X.env :: X.outer) (hf : X.env.frame = some X.env.locals) (tk : Takes X W) (w : W cls d σ H) : wpAny (model X.prog X.w) X.A (handleBy (.ref a) X.env []) Q X.xe s := by
  obtain ⟨⟨B, z, I, h1, h2, h3, h4, h5⟩, na⟩ := y
  obtain ⟨-, -, -, oe, vs, T, -, -, e1, -, e2, e3, -⟩ := id h3
  refine wpAny_handleBy_nil ?_
  unfold PySem.passOn
  refine wpAny_bind (wpAny_field e1 e2 e3 ?_)
  have nT : (Value.ref T == Value.none) = false := by simp
  rw [nT, if_neg Bool.false_ne_true]
  have up : wpAny (model X.prog X.w) X.A (setFlight (.ref a) X.env.frame) (fun _ r => wpAny (model X.prog X.w) X.A (throw (.ref a) : Sem Flow) Q X.xe r) X.xe s := by
    rw [hf]
    refine HandSPX.setFlight_upZ h3 fun g k1 k2 => wpAny_throw (tk (.ref a) _ ?_)
    refine ⟨a, B, z, pn, σ, H, cls, d, rfl, I, h1, h2.trans k2, ?_, na, h4, h5, w⟩
    rw [hs]
    exact .inr (.inr k1)
  first
    | exact wpAny_bind (wpAny_pure (wpAny_bind up))
    | exact wpAny_bind up
end
def C3' (D : Ends) (i : Nat) : Ends := { nx := fun σ H => D.nx (σ.set i none) H, rt := D.rt, bk := fun σ H => D.bk (σ.set i none) H, ct := fun σ H => D.ct (σ.set i none) H }
def tAs (i : Nat) (ts : Addr -> Value -> Option Addr -> TS) : Addr -> Value -> Option Addr -> TS := fun a cls d D σ H => ts a cls d (C3' D i) (σ.set i (some (.ref a))) H
inductive HdsN (X : Cx) : List ExceptHandler -> List (Value × (Addr -> Value -> Option Addr -> TS)) -> Prop
  | nil : HdsN X [] []
  | plain {x : Str} {c : Value} {ts : Addr -> Value -> Option Addr -> TS} {b : Stmt} {bs : List Stmt} {p q : Pos} {r : List ExceptHandler} {l : List (Value × (Addr -> Value -> Option Addr -> TS))} (hc : Names X x c)
      (h : ∀ (a : Addr) (oe : Obj) (cls : Value) (d : Option Addr) (pn : List (Addr × Obj)), Zc cls d oe -> (∃ vs, oe.data = .fields vs) -> PSs (X.suite a ((a, oe) :: pn)) (b :: bs) (ts a cls d)) : HdsN X r l →
      HdsN X (.ExceptHandler (some (.Name x p)) none (b :: bs) q :: r) ((c, ts) :: l)
  | named {x n : Str} {i : Nat} {c : Value} {ts : Addr -> Value -> Option Addr -> TS} {b : Stmt} {bs : List Stmt} {p q : Pos} {r : List ExceptHandler} {l : List (Value × (Addr -> Value -> Option Addr -> TS))} (hN : X.N.Nodup) (hi : X.N[i]? = some n) (hln : X.env.kindOf n = some .local) (hc : Names X x c)
      (h : ∀ (a : Addr) (oe : Obj) (cls : Value) (d : Option Addr) (pn : List (Addr × Obj)), Zc cls d oe -> (∃ vs, oe.data = .fields vs) -> PSs (X.suite a ((a, oe) :: pn)) (b :: bs) (ts a cls d)) : HdsN X r l →
      HdsN X (.ExceptHandler (some (.Name x p)) (some n) (b :: bs) q :: r) ((c, tAs i ts) :: l)
section
variable {X : Cx} {pn : List (Addr × Obj)} {a : Addr} {cls : Value} {d : Option Addr} {σ : St} {H : Hp} {s : Shared}
theorem Lay.asks {x : Str} {c : Value} {b : Bool} {nm : Option Str} {body : List Stmt} {p q : Pos} {r : List ExceptHandler} {Q : Flow -> Shared -> Prop} (y : Lay X pn a cls d σ H s) (hf : X.env.frame = some X.env.locals) (hc : Names X x c) (hb : PySem.W.exmOne X.K cls c = some b)
    (yes : b = true -> codeAny (model X.prog X.w) (X.A.mark (some (.ref a))) (.handlers (.ref a) [.ExceptHandler none nm body q] X.env) (fun o s₂ => match o with
          | .ok f => (match nm with
            | none => Q f s₂
            | some n => wpAny (model X.prog X.w) X.A (do bindName X.env n .none; unbindBehindTheSuite X.env n q) (fun _ s₃ => Q f s₃) X.xe s₂)
          | .error x => cameBackBy (model X.prog X.w) X.A X.env X.xe x s₂) s)
    (no : b = false -> wpAny (model X.prog X.w) X.A (handleBy (.ref a) X.env r) Q X.xe s) : wpAny (model X.prog X.w) X.A (handleBy (.ref a) X.env (.ExceptHandler (some (.Name x p)) nm body q :: r)) Q X.xe s := by
  obtain ⟨oe, e1, e2, e3, S⟩ := y.held hf
  have I := y.inv
  refine wpAny_handleBy_cons (codeAny_handlers_test ?_) (fun z => by cases z)
  have lt : PySem.W.Looks (model X.prog X.w) s.heap (typeOf (.ref a)) cls := fun A Q E s k q => wpAny_typeOf_ref (k _ _ e1) (by rw [e2.1]; exact q)
  have lm := PySem.W.exm_one (M := model X.prog X.w) I.kIn lt hb
  have ask : ∀ {Q E : Value -> Shared -> Prop}, Q c s -> wpAny (model X.prog X.w) (X.A.mark (some (.ref a))) (eval (.Name x p) X.env) Q E s := by
    intro Q E z
    obtain ⟨g1, g2, g3⟩ := hc
    rcases g3 with g3 | ⟨g3, g4, g5⟩
    . exact ld_glob (X := X.suite a ((a, oe) :: (X.pn ++ pn))) S g1 g3 z g2
    . exact ld_blt (X := X.suite a ((a, oe) :: (X.pn ++ pn))) S g1 g3 g4 z g5 g2
  refine ask (lm.here ?_)
  cases b with
  | false => exact no rfl
  | true => exact yes rfl
theorem Lay.run {W : WX} {D : Ends} (hs : X.stack = X.env :: X.outer) (hf : X.env.frame = some X.env.locals) (tk : Takes X W) {hds : List ExceptHandler} {l : List (Value × (Addr -> Value -> Option Addr -> TS))} (hh : HdsN X hds l) (y : Lay X pn a cls d σ H s) (w : wMany X.K W D l cls d σ H) :
    wpAny (model X.prog X.w) X.A (handleBy (.ref a) X.env hds) (SP X pn D) X.xe s := by
  have ok := y.inv.ok
  induction hh with
  | nil => exact y.out hs hf tk w
  | @plain x c ts b bs p q r l hc h _ ih =>
    obtain ⟨t, w1, w2, w3⟩ := w
    refine y.asks hf hc w1 (fun et => codeAny_handlers_suite (y.cool fun s2 y2 => ?_)) fun et => ih (w3 et)
    obtain ⟨oe, e1, e2, e3, S⟩ := y2.held hf
    refine wpAny_mono ((h a oe cls d (X.pn ++ pn) e2 e3).run [] s2 σ H D S (w2 et a y.na)) (fun f s3 z => ?_) (fun _ _ z => z.elim)
    cases f with
    | next =>
      obtain ⟨σ3, H3, S3, z⟩ := z
      exact ⟨σ3, H3, S3.unsuite ok, z⟩
    | brk =>
      obtain ⟨σ3, H3, S3, z⟩ := z
      exact ⟨σ3, H3, S3.unsuite ok, z⟩
    | cont =>
      obtain ⟨σ3, H3, S3, z⟩ := z
      exact ⟨σ3, H3, S3.unsuite ok, z⟩
    | ret u =>
      obtain ⟨v, σ3, H3, S3, z⟩ := z
      exact ⟨v, σ3, H3, S3.unsuite ok, z⟩
  | @named x n i c ts b bs p q r l hN hi hln hc h _ ih =>
    obtain ⟨t, w1, w2, w3⟩ := w
    refine y.asks hf hc w1 (fun et => codeAny_handlers_suite_as (y.cool fun s2 y2 => ?_)) fun et => ih (w3 et)
    obtain ⟨oe, e1, e2, e3, S⟩ := y2.held hf
    refine store_ok (X := X.suite a ((a, oe) :: (X.pn ++ pn))) (v := .ref a) S hN hi (.inl hln) rfl (fun s3 S3 => ?_) (.inr hln)
    refine wpAny_mono ((h a oe cls d (X.pn ++ pn) e2 e3).run [] s3 _ H _ S3 (w2 et a y.na)) (fun f s4 z => ?_) (fun _ _ z => z.elim)
    have gone : ∀ {σ4 : St} {H4 : Hp} {R : Shared -> Prop}, Inv (X.suite a ((a, oe) :: (X.pn ++ pn))) [] σ4 H4 s4 -> (∀ s5, Inv X pn (σ4.set i none) H4 s5 -> R s5) -> wpAny (model X.prog X.w) X.A (do bindName X.env n .none; unbindBehindTheSuite X.env n q) (fun _ s5 => R s5) X.xe s4 := by
      intro σ4 H4 R S4 k
      exact gone_ok (S4.unsuite ok) hN hi hln k
    cases f with
    | next =>
      obtain ⟨σ3, H3, S3, z⟩ := z
      exact gone S3 fun _ k => ⟨_, _, k, z⟩
    | brk =>
      obtain ⟨σ3, H3, S3, z⟩ := z
      exact gone S3 fun _ k => ⟨_, _, k, z⟩
    | cont =>
      obtain ⟨σ3, H3, S3, z⟩ := z
      exact gone S3 fun _ k => ⟨_, _, k, z⟩
    | ret u =>
      obtain ⟨v, σ3, H3, S3, z⟩ := z
      exact gone S3 fun _ k => ⟨_, _, _, k, z⟩
end
section
variable {X : Cx} {body : List Stmt} {h₀ : ExceptHandler} {hds : List ExceptHandler} {l : List (Value × (Addr -> Value -> Option Addr -> TS))} {pos : Pos} {tb : WX -> TS} {W : WX}
end
end L2
namespace S
open PySem PySem.Spec PyProof.Rows L2
variable [Wd]
section
variable {X : Cx} {W : WX} {D : Ends} {σ : St} {H : Hp} {F : Hp} {T : List Addr} {fr : Fp}
abbrev Hn := List (Option (Nat × Nat) × (String -> Option Bool) × (M.Exc -> M.MS))
inductive HdsMN (X : Cx) : List ExceptHandler -> Hn -> List (Value × (Addr -> Value -> Option Addr -> TS)) -> Prop
  | nil : HdsMN X [] [] []
  | plain {x : Str} {c : Value} {g : String -> Option Bool} {h : M.Exc -> M.MS} {b : Stmt} {bs : List Stmt} {p q : Pos} {r : List ExceptHandler} {l : Hn} {l' : List (Value × (Addr -> Value -> Option Addr -> TS))} (hc : Names X x c)
      (hg : ∀ y b, g y = some b -> PySem.W.exmOne X.K (.ref (He.ga X.K y)) c = some b)
      (hsu : ∀ (e : M.Exc) (a : Addr) (oe : Obj) (d : Option Addr) (pn : List (Addr × Obj)), Zc (.ref (He.ga X.K e.cls)) d oe -> (∃ vs, oe.data = .fields vs) -> SSs (X.suite a ((a, oe) :: pn)) W0 (b :: bs) (h e)) : HdsMN X r l l' →
      HdsMN X (.ExceptHandler (some (.Name x p)) none (b :: bs) q :: r) ((none, g, h) :: l) ((c, tsM X.K h) :: l')
  | named {x n : Str} {i m : Nat} {c : Value} {g : String -> Option Bool} {h : M.Exc -> M.MS} {b : Stmt} {bs : List Stmt} {p q : Pos} {r : List ExceptHandler} {l : Hn} {l' : List (Value × (Addr -> Value -> Option Addr -> TS))} (hN : X.N.Nodup) (hi : X.N[i]? = some n) (hln : X.env.kindOf n = some .local) (hc : Names X x c)
      (hg : ∀ y b, g y = some b -> PySem.W.exmOne X.K (.ref (He.ga X.K y)) c = some b)
      (hsu : ∀ (e : M.Exc) (a : Addr) (oe : Obj) (d : Option Addr) (pn : List (Addr × Obj)), Zc (.ref (He.ga X.K e.cls)) d oe -> (∃ vs, oe.data = .fields vs) -> @SSs _ (A8' a m d e) (X.suite a ((a, oe) :: pn)) W0 (b :: bs) (h e)) : HdsMN X r l l' →
      HdsMN X (.ExceptHandler (some (.Name x p)) (some n) (b :: bs) q :: r) ((some (i, m), g, h) :: l) ((c, tAs i (tsA [] X.K m h)) :: l')
theorem HdsMN.ok {hds : List ExceptHandler} {l : Hn} {l' : List (Value × (Addr -> Value -> Option Addr -> TS))} (h : HdsMN X hds l l') : HdsN X hds l' := by
  induction h with
  | nil => exact .nil
  | plain hc hg hsu r ih => exact .plain hc (mX' hsu) ih
  | named hN hi hln hc hg hsu r ih =>
    refine .named hN hi hln hc (fun a oe cls d pn hz hf => ⟨fun pins s σ H D I q => ?_⟩) ih
    obtain ⟨e, rfl, q⟩ := q
    exact (hsu e a oe d pn hz hf).run pins s σ H D I q
end
end S
namespace S
open PySem PySem.Spec PyProof.Rows L2
variable [Wd]
structure LamOk (P : Program) (w : World) (K : PySem.W.Frag) (mg : Str -> Option Value) (base : Heap) (k : Nat) (cl : List (Str × Addr)) (fr : List Str) (c : CloD) (U : M.MF) : Prop where
  isfn : ∀ h : Heap, h.get? c.f = some c.ob -> PySem.W.FnAt c.f h
  run : ∀ (A : Around) (outer : List Env) (s : Shared) (H : Hp) (us : List Value) (vs : List V) (Q : VK) (E : XK), RoomG k A -> Env0 P w K mg base A outer s H →
    NdefX.CellsAt cl fr (c.ws.map some) s.heap H -> Vals vs us →
    (∃ ds w' F T fp, FzA K F T vs ds /\ CloAt K F T c /\ rX' K w' H F T fp /\ wL' K Q E F T fp (U ds w')) -> codeAny (model P w) A (.call (.ref c.f) ⟨us, []⟩) (CR (L2.CX P w) outer P w H s Q E) s
theorem LamOk.mono {P : Program} {w : World} {K : PySem.W.Frag} {mg : Str -> Option Value} {base : Heap} {j k : Nat} {cl : List (Str × Addr)} {fr : List Str} {c : CloD} {U : M.MF} (h : LamOk P w K mg base j cl fr c U) (l : j <= k) : LamOk P w K mg base k cl fr c U :=
  ⟨h.isfn, fun A o s H us vs Q E hr => h.run A o s H us vs Q E (hr.mono l)⟩
section
variable {P : Program} {w : World} {K : PySem.W.Frag} {mg : Str -> Option Value} {base : Heap}
end
inductive ArgK (K : PySem.W.Frag) (F : Hp) (T : List Addr) : List Bool -> List V -> List M.D -> List CloD -> Prop
  | nil : ArgK K F T [] [] [] []
  | dat {m : List Bool} {v : V} {vs : List V} {d : M.D} {ds : List M.D} {cs : List CloD} : Fz K F T v d -> ArgK K F T m vs ds cs -> ArgK K F T (false :: m) (v :: vs) (d :: ds) cs
  | clo {m : List Bool} {vs : List V} {ds : List M.D} {c : CloD} {cs : List CloD} : CloAt K F T c -> ArgK K F T m vs ds cs -> ArgK K F T (true :: m) (.ref c.f :: vs) ds (c :: cs)
theorem ArgK.mono {K : PySem.W.Frag} {F F' : Hp} {T T' : List Addr} (e : Ext F T F' T') {m : List Bool} {vs : List V} {ds : List M.D} {cs : List CloD} (h : ArgK K F T m vs ds cs) : ArgK K F' T' m vs ds cs := by
  induction h with
  | nil => exact .nil
  | dat z _ ih => exact .dat (z.mono e) ih
  | clo z _ ih => exact .clo (z.mono e) ih
section
variable [Hot] {X : Cx} {W : WX} {k : Nat} {e : Expr} {es : List Expr} {a : M.ME} {as : List M.AK}
end
structure FnK (P : Program) (w : World) (K : PySem.W.Frag) (mg : Str -> Option Value) (base : Heap) (k : Nat) (f : Addr) (fd : FuncData) (ps : List Str) (kc : Nat) (mask : List Bool) (m : List M.MF -> M.MF) : Prop where
  len : mask.length = ps.length
  run : ∀ (A : Around) (outer : List Env) (s : Shared) (H : Hp) (args : Args) (us : List Value) (vs : List V) (Q : VK) (E : XK), RoomG k A -> Env0 P w K mg base A outer s H -> BindsTo s fd args (ps.zip us) -> Vals vs us →
    (∃ ds cs Us w' F T fr, ArgK K F T mask vs ds cs /\ Paired (fun c U => ∃ cl fr, LamOk P w K mg base kc cl fr c U /\ NdefX.CellsAt cl fr (c.ws.map some) s.heap H) cs Us /\ rX' K w' H F T fr /\ wL' K Q E F T fr (m Us ds w')) →
    codeAny (model P w) A (.call (.ref f) args) (CR (L2.CX P w) outer P w H s Q E) s
theorem ArgK.len {K : PySem.W.Frag} {F : Hp} {T : List Addr} {m : List Bool} {vs : List V} {ds : List M.D} {cs : List CloD} (h : ArgK K F T m vs ds cs) : vs.length = m.length := by
  induction h with
  | nil => rfl
  | dat _ _ ih => exact congrArg (· + 1) ih
  | clo _ _ ih => exact congrArg (· + 1) ih
def wR' : Nat -> List Bool -> List CloD -> List (Nat × CloD)
  | n, true :: m, c :: cs => (n - 1, c) :: wR' (n - 1) m cs
  | n, false :: m, cs => wR' (n - 1) m cs
  | _, _, _ => []
theorem RpE.offs [Hot] {K : PySem.W.Frag} {F : Hp} {T : List Addr} : ∀ r : Nat, RpE K F T (List.replicate r none) (List.replicate r none) []
  | 0 => .nil
  | r + 1 => .off (RpE.offs r)
theorem ArgK.start [Hot] {K : PySem.W.Frag} {F : Hp} {T : List Addr} {r : Nat} : ∀ {m : List Bool} {vs : List V} {ds : List M.D} {cs : List CloD}, ArgK K F T m vs ds cs -> (∀ i c, (i, c) ∈ wR' (m.length + r) m cs -> Hot.clo.lookup i = some c) →
    ∃ env, M.yN' m ds = some env /\ env.length = m.length /\ RpE K F T (vs.map some ++ List.replicate r none) (env ++ List.replicate r none) []
  | _, _, _, _, .nil, _ => ⟨[], rfl, rfl, RpE.offs r⟩
  | _, _, _, _, @ArgK.dat _ _ _ _ m v vs d ds cs z a, h => by
    obtain ⟨env, h1, h2, h3⟩ := ArgK.start (r := r) a fun i c hi => h i c (by
      show (i, c) ∈ wR' (m.length + 1 + r - 1) m cs
      rwa [show m.length + 1 + r - 1 = m.length + r by omega])
    exact ⟨some (.fz d) :: env, by show (M.yN' m ds).map _ = _; rw [h1]; rfl, congrArg (· + 1) h2, RpE.on (fp := []) (fq := []) (.fz z) h3⟩
  | _, _, _, _, @ArgK.clo _ _ _ _ m vs ds c cs z a, h => by
    have e1 : m.length + 1 + r - 1 = m.length + r := by omega
    obtain ⟨env, h1, h2, h3⟩ := ArgK.start (r := r) a fun i c' hi => h i c' (by
      show (i, c') ∈ (m.length + 1 + r - 1, c) :: wR' (m.length + 1 + r - 1) m cs
      rw [e1]
      exact List.mem_cons_of_mem _ hi)
    refine ⟨some .clo :: env, by show (M.yN' m ds).map _ = _; rw [h1]; rfl, congrArg (· + 1) h2, RpE.clo ?_ z h3⟩
    show Hot.clo.lookup (env ++ List.replicate r none).length = some c
    rw [List.length_append, List.length_replicate, h2]
    refine h _ c ?_
    show _ ∈ (m.length + 1 + r - 1, c) :: wR' (m.length + 1 + r - 1) m cs
    rw [e1]
    exact List.mem_cons_self
section
variable {P : Program} {w : World} {K : PySem.W.Frag} {mg : Str -> Option Value} {base : Heap}
end
section
variable [Hot] {X : Cx} {W : WX} {k kc : Nat} {x : Str} {ps : List Str} {p pos : Pos} {e : Expr} {es : List Expr} {as : List M.AK} {m : List M.MF -> M.MF}
end
section
variable [Hot] {X : Cx} {W : WX} {kc i : Nat} {x : Str} {p pos : Pos} {e : Expr} {es : List Expr} {as : M.MA} {U : M.MF}
end
end S
namespace S
open PySem PySem.Spec PyProof.Rows L2
variable [Wd] [Hot]
section
variable {K : PySem.W.Frag}
end
end S
namespace S
open PySem PySem.Spec PyProof.Rows L2
variable [Wd] [Hot]
section
variable {X : Cx} {W : WX} {pos p : Pos} {x : Str} {a : Expr} {σ : St} {H : Hp} {Q : VK}
end
end S
namespace S
open PySem PySem.Spec PyProof.Rows L2
variable [Wd] [Hot]
section
variable {K : PySem.W.Frag} {W : WX} {σ : St} {H : Hp} {D : Ends}
end
section
variable {X : Cx} {W : WX} {pos : Pos} {tg e : Expr} {body : List Stmt} {sl : List Nat} {a : M.ME} {g : M.MG} {m1 : M.MS}
end
end S
namespace S
open PySem PySem.Spec PyProof.Rows L2
variable [Wd] [Hot]
section
variable {K : PySem.W.Frag} {W : WX} {σ : St} {H : Hp} {D : Ends} {ρ : M.PSt} {F : Hp} {T : List Addr} {fr : Fp}
end
section
variable {X : Cx} {W : WX} {pos : Pos} {elt tg iter : Expr} {ifs : List Expr} {scope : Scope} {own : List (Str × Nat)} {sl : List Nat} {it : M.MI} {g : M.MG} {t : M.MT} {e : M.MO}
end
end S
namespace S
open PySem PySem.Spec PyProof.Rows L2
variable [Wd] [Hot]
section
variable {K : PySem.W.Frag} {W : WX} {σ : St} {H : Hp} {D : Ends} {ρ : M.PSt} {F : Hp} {T : List Addr} {fr : Fp}
end
section
variable {X : Cx} {W : WX} {pos px qx epos apos cpos : Pos} {tg a : Expr} {nm x : Str} {i r : Nat} {v : V} {d : M.D}
end
end S
namespace S
open PySem PySem.Spec PyProof.Rows L2
structure Ctx (w : World) (K : PySem.W.Frag) (mg : Str -> Option Value) : Prop where
  says : ∃ (h : Heap), He.SaysX fas fns tbs [] exK w h K
  inn : ∃ h : Heap, K.In h /\ h.Ns mainGlobals mg
section
variable [Wd] {w : World} {K : PySem.W.Frag} {mg : Str -> Option Value}
theorem Ctx.d (C : Ctx w K mg) : He.SaysD fas fns K := by
  obtain ⟨h, s⟩ := C.says
  exact s.t.d
theorem Ctx.more (C : Ctx w K mg) (i : Nat) {f : PySem.W.Frag -> Bool} (e : exs[i]? = some f) : f K = true := by
  obtain ⟨h, s⟩ := C.says
  exact List.all_eq_true.mp s.more f (List.mem_of_getElem? e)
theorem Ctx.glo (C : Ctx w K mg) {x : Str} (i : Nat) (h : fas[i]? = some (.glo x)) : mg x = some (.ref (He.ga K x)) := by
  obtain ⟨hp, X, G⟩ := C.inn
  exact He.glo_ok X G (C.d.fact i h)
theorem Ctx.g_is_integer (C : Ctx w K mg) : mg "is_integer" = some (.ref (He.ga K "is_integer")) := C.glo 0 rfl
theorem Ctx.g_is_string_of (C : Ctx w K mg) : mg "is_string_of" = some (.ref (He.ga K "is_string_of")) := C.glo 1 rfl
theorem Ctx.g_is_ascending (C : Ctx w K mg) : mg "is_ascending" = some (.ref (He.ga K "is_ascending")) := C.glo 2 rfl
theorem Ctx.g_is_choice (C : Ctx w K mg) : mg "is_choice" = some (.ref (He.ga K "is_choice")) := C.glo 3 rfl
theorem Ctx.g_is_word (C : Ctx w K mg) : mg "is_word" = some (.ref (He.ga K "is_word")) := C.glo 4 rfl
theorem Ctx.g_check_word (C : Ctx w K mg) : mg "check_word" = some (.ref (He.ga K "check_word")) := C.glo 5 rfl
theorem Ctx.g_are_states (C : Ctx w K mg) : mg "are_states" = some (.ref (He.ga K "are_states")) := C.glo 6 rfl
theorem Ctx.g_is_table (C : Ctx w K mg) : mg "is_table" = some (.ref (He.ga K "is_table")) := C.glo 7 rfl
theorem Ctx.g_led (C : Ctx w K mg) : mg "led" = some (.ref (He.ga K "led")) := C.glo 8 rfl
theorem Ctx.g_says (C : Ctx w K mg) : mg "says" = some (.ref (He.ga K "says")) := C.glo 9 rfl
theorem Ctx.g_reached (C : Ctx w K mg) : mg "reached" = some (.ref (He.ga K "reached")) := C.glo 10 rfl
theorem Ctx.g_numbered (C : Ctx w K mg) : mg "numbered" = some (.ref (He.ga K "numbered")) := C.glo 11 rfl
theorem Ctx.g_alike_states (C : Ctx w K mg) : mg "alike_states" = some (.ref (He.ga K "alike_states")) := C.glo 12 rfl
theorem Ctx.g_least (C : Ctx w K mg) : mg "least" = some (.ref (He.ga K "least")) := C.glo 13 rfl
theorem Ctx.g_backward (C : Ctx w K mg) : mg "backward" = some (.ref (He.ga K "backward")) := C.glo 14 rfl
theorem Ctx.g__law_hand (C : Ctx w K mg) : mg "_law_hand" = some (.ref (He.ga K "_law_hand")) := C.glo 15 rfl
theorem Ctx.g__law_draw (C : Ctx w K mg) : mg "_law_draw" = some (.ref (He.ga K "_law_draw")) := C.glo 16 rfl
theorem Ctx.g__law_shuffled (C : Ctx w K mg) : mg "_law_shuffled" = some (.ref (He.ga K "_law_shuffled")) := C.glo 17 rfl
theorem Ctx.g__law_rows (C : Ctx w K mg) : mg "_law_rows" = some (.ref (He.ga K "_law_rows")) := C.glo 18 rfl
theorem Ctx.g__law_woven (C : Ctx w K mg) : mg "_law_woven" = some (.ref (He.ga K "_law_woven")) := C.glo 19 rfl
theorem Ctx.g__law_parts (C : Ctx w K mg) : mg "_law_parts" = some (.ref (He.ga K "_law_parts")) := C.glo 20 rfl
theorem Ctx.g__law_classes (C : Ctx w K mg) : mg "_law_classes" = some (.ref (He.ga K "_law_classes")) := C.glo 21 rfl
theorem Ctx.g__law_least (C : Ctx w K mg) : mg "_law_least" = some (.ref (He.ga K "_law_least")) := C.glo 22 rfl
theorem Ctx.g__law_word (C : Ctx w K mg) : mg "_law_word" = some (.ref (He.ga K "_law_word")) := C.glo 23 rfl
theorem Ctx.g__law_is_machine (C : Ctx w K mg) : mg "_law_is_machine" = some (.ref (He.ga K "_law_is_machine")) := C.glo 24 rfl
theorem Ctx.g__law_turned (C : Ctx w K mg) : mg "_law_turned" = some (.ref (He.ga K "_law_turned")) := C.glo 25 rfl
theorem Ctx.g_law (C : Ctx w K mg) : mg "law" = some (.ref (He.ga K "law")) := C.glo 26 rfl
theorem Ctx.g_NoWord (C : Ctx w K mg) : mg "NoWord" = some (.ref (He.ga K "NoWord")) := C.glo 29 rfl
theorem Ctx.x_NoWord (C : Ctx w K mg) : PySem.W.excIn K (He.ga K "NoWord") He.veBase "ValueError.__new__" = true := (He.exc_ok (C.d.fact 30 rfl)).1
theorem Ctx.k_NoWord (C : Ctx w K mg) : PySem.W.keepIn K (.ref (He.ga K "NoWord")) = true := (He.exc_ok (C.d.fact 30 rfl)).2.1
theorem Ctx.r_NoWord (C : Ctx w K mg) {X : Cx} (e : X.K = K := by rfl) : Raises X (.ref (He.ga K "NoWord")) := by subst e; exact raises_own (He.exc_ok (C.d.fact 30 rfl)).2.2.1 (He.exc_ok (C.d.fact 30 rfl)).2.2.2
theorem Ctx.g_Machine (C : Ctx w K mg) : mg "Machine" = some (.ref (He.ga K "Machine")) := C.glo 33 rfl
theorem Ctx.g_RawMachine (C : Ctx w K mg) : mg "RawMachine" = some (.ref (He.ga K "RawMachine")) := C.glo 34 rfl
theorem Ctx.c_SMALL (C : Ctx w K mg) : ∃ t, mg "SMALL" = some (.str "abcdefghijklmnopqrstuvwxyz" t) := by obtain ⟨h, X, G⟩ := C.inn; exact He.str_ok X G (C.d.fact 35 rfl)
theorem Ctx.c_MOST_STATES (C : Ctx w K mg) : ∃ t, mg "MOST_STATES" = some (.int (200) t) := by obtain ⟨h, X, G⟩ := C.inn; exact He.int_ok X G (C.d.fact 36 rfl)
theorem Ctx.free_zip (C : Ctx w K mg) : mg "zip" = none := by obtain ⟨h, X, G⟩ := C.inn; exact He.free_ok X G (C.d.fact 37 rfl)
theorem Ctx.free_len (C : Ctx w K mg) : mg "len" = none := by obtain ⟨h, X, G⟩ := C.inn; exact He.free_ok X G (C.d.fact 38 rfl)
theorem Ctx.free_tuple (C : Ctx w K mg) : mg "tuple" = none := by obtain ⟨h, X, G⟩ := C.inn; exact He.free_ok X G (C.d.fact 39 rfl)
theorem Ctx.free_list (C : Ctx w K mg) : mg "list" = none := by obtain ⟨h, X, G⟩ := C.inn; exact He.free_ok X G (C.d.fact 40 rfl)
theorem Ctx.free_range (C : Ctx w K mg) : mg "range" = none := by obtain ⟨h, X, G⟩ := C.inn; exact He.free_ok X G (C.d.fact 41 rfl)
theorem Ctx.free_isinstance (C : Ctx w K mg) : mg "isinstance" = none := by obtain ⟨h, X, G⟩ := C.inn; exact He.free_ok X G (C.d.fact 42 rfl)
theorem Ctx.free_int (C : Ctx w K mg) : mg "int" = none := by obtain ⟨h, X, G⟩ := C.inn; exact He.free_ok X G (C.d.fact 43 rfl)
theorem Ctx.free_str (C : Ctx w K mg) : mg "str" = none := by obtain ⟨h, X, G⟩ := C.inn; exact He.free_ok X G (C.d.fact 44 rfl)
theorem Ctx.free_max (C : Ctx w K mg) : mg "max" = none := by obtain ⟨h, X, G⟩ := C.inn; exact He.free_ok X G (C.d.fact 45 rfl)
theorem Ctx.free_sorted (C : Ctx w K mg) : mg "sorted" = none := by obtain ⟨h, X, G⟩ := C.inn; exact He.free_ok X G (C.d.fact 46 rfl)
theorem Ctx.free_abs (C : Ctx w K mg) : mg "abs" = none := by obtain ⟨h, X, G⟩ := C.inn; exact He.free_ok X G (C.d.fact 47 rfl)
theorem Ctx.free_repr (C : Ctx w K mg) : mg "repr" = none := by obtain ⟨h, X, G⟩ := C.inn; exact He.free_ok X G (C.d.fact 48 rfl)
theorem Ctx.free_bool (C : Ctx w K mg) : mg "bool" = none := by obtain ⟨h, X, G⟩ := C.inn; exact He.free_ok X G (C.d.fact 49 rfl)
theorem Ctx.free_min (C : Ctx w K mg) : mg "min" = none := by obtain ⟨h, X, G⟩ := C.inn; exact He.free_ok X G (C.d.fact 50 rfl)
theorem Ctx.free_enumerate (C : Ctx w K mg) : mg "enumerate" = none := by obtain ⟨h, X, G⟩ := C.inn; exact He.free_ok X G (C.d.fact 51 rfl)
theorem Ctx.cl_Machine (C : Ctx w K mg) : Cls K (He.ga K "Machine") := He.cls_ok (C.d.fact 52 rfl)
theorem Ctx.n_Machine_kept_letters (C : Ctx w K mg) : NoAttr K (He.ga K "Machine") "kept_letters" := He.noat_ok (C.d.fact 53 rfl)
theorem Ctx.n_Machine_kept_table (C : Ctx w K mg) : NoAttr K (He.ga K "Machine") "kept_table" := He.noat_ok (C.d.fact 54 rfl)
theorem Ctx.n_Machine_kept_accepts (C : Ctx w K mg) : NoAttr K (He.ga K "Machine") "kept_accepts" := He.noat_ok (C.d.fact 55 rfl)
theorem Ctx.n_Machine_kept_least (C : Ctx w K mg) : NoAttr K (He.ga K "Machine") "kept_least" := He.noat_ok (C.d.fact 56 rfl)
theorem Ctx.n_Machine_kept_field (C : Ctx w K mg) : NoAttr K (He.ga K "Machine") "kept_field" := He.noat_ok (C.d.fact 57 rfl)
theorem Ctx.n_Machine_kept_lots (C : Ctx w K mg) : NoAttr K (He.ga K "Machine") "kept_lots" := He.noat_ok (C.d.fact 58 rfl)
theorem Ctx.n_Machine_kept_more (C : Ctx w K mg) : NoAttr K (He.ga K "Machine") "kept_more" := He.noat_ok (C.d.fact 59 rfl)
theorem Ctx.mk_Machine (C : Ctx w K mg) : Mk K (He.ga K "Machine") (He.ma K (He.ga K "Machine") "__init__") := He.mkr_ok (C.d.fact 60 rfl)
theorem Ctx.cl_RawMachine (C : Ctx w K mg) : Cls K (He.ga K "RawMachine") := He.cls_ok (C.d.fact 61 rfl)
theorem Ctx.n_RawMachine_kept_letters (C : Ctx w K mg) : NoAttr K (He.ga K "RawMachine") "kept_letters" := He.noat_ok (C.d.fact 62 rfl)
theorem Ctx.n_RawMachine_kept_table (C : Ctx w K mg) : NoAttr K (He.ga K "RawMachine") "kept_table" := He.noat_ok (C.d.fact 63 rfl)
theorem Ctx.n_RawMachine_kept_accepts (C : Ctx w K mg) : NoAttr K (He.ga K "RawMachine") "kept_accepts" := He.noat_ok (C.d.fact 64 rfl)
theorem Ctx.n_RawMachine_kept_least (C : Ctx w K mg) : NoAttr K (He.ga K "RawMachine") "kept_least" := He.noat_ok (C.d.fact 65 rfl)
theorem Ctx.n_RawMachine_kept_field (C : Ctx w K mg) : NoAttr K (He.ga K "RawMachine") "kept_field" := He.noat_ok (C.d.fact 66 rfl)
theorem Ctx.n_RawMachine_kept_lots (C : Ctx w K mg) : NoAttr K (He.ga K "RawMachine") "kept_lots" := He.noat_ok (C.d.fact 67 rfl)
theorem Ctx.n_RawMachine_kept_more (C : Ctx w K mg) : NoAttr K (He.ga K "RawMachine") "kept_more" := He.noat_ok (C.d.fact 68 rfl)
theorem Ctx.mk_RawMachine (C : Ctx w K mg) : Mk K (He.ga K "RawMachine") (He.ma K (He.ga K "RawMachine") "__init__") := He.mkr_ok (C.d.fact 69 rfl)
theorem Ctx.ml_Machine_keep (C : Ctx w K mg) : i9' K ["Machine", "RawMachine"] "keep" (He.ma K (He.ga K "Machine") "keep") := by
  intro c h
  rcases List.mem_cons.mp h with rfl | h
  . exact ⟨C.cl_Machine, He.meth_ok (C.d.fact 70 rfl)⟩
  rcases List.mem_cons.mp h with rfl | h
  . have e := of_decide_eq_true (C.more 0 rfl)
    refine ⟨C.cl_RawMachine, ?_⟩
    rw [<- e]
    exact He.meth_ok (C.d.fact 71 rfl)
  cases h
theorem Ctx.ml_Machine_letters (C : Ctx w K mg) : i9' K ["Machine", "RawMachine"] "letters" (He.ma K (He.ga K "Machine") "letters") := by
  intro c h
  rcases List.mem_cons.mp h with rfl | h
  . exact ⟨C.cl_Machine, He.meth_ok (C.d.fact 72 rfl)⟩
  rcases List.mem_cons.mp h with rfl | h
  . have e := of_decide_eq_true (C.more 1 rfl)
    refine ⟨C.cl_RawMachine, ?_⟩
    rw [<- e]
    exact He.meth_ok (C.d.fact 73 rfl)
  cases h
theorem Ctx.ml_Machine_table (C : Ctx w K mg) : i9' K ["Machine", "RawMachine"] "table" (He.ma K (He.ga K "Machine") "table") := by
  intro c h
  rcases List.mem_cons.mp h with rfl | h
  . exact ⟨C.cl_Machine, He.meth_ok (C.d.fact 74 rfl)⟩
  rcases List.mem_cons.mp h with rfl | h
  . have e := of_decide_eq_true (C.more 2 rfl)
    refine ⟨C.cl_RawMachine, ?_⟩
    rw [<- e]
    exact He.meth_ok (C.d.fact 75 rfl)
  cases h
theorem Ctx.ml_Machine_accepts (C : Ctx w K mg) : i9' K ["Machine", "RawMachine"] "accepts" (He.ma K (He.ga K "Machine") "accepts") := by
  intro c h
  rcases List.mem_cons.mp h with rfl | h
  . exact ⟨C.cl_Machine, He.meth_ok (C.d.fact 76 rfl)⟩
  rcases List.mem_cons.mp h with rfl | h
  . have e := of_decide_eq_true (C.more 3 rfl)
    refine ⟨C.cl_RawMachine, ?_⟩
    rw [<- e]
    exact He.meth_ok (C.d.fact 77 rfl)
  cases h
theorem Ctx.ml_Machine_parts (C : Ctx w K mg) : i9' K ["Machine", "RawMachine"] "parts" (He.ma K (He.ga K "Machine") "parts") := by
  intro c h
  rcases List.mem_cons.mp h with rfl | h
  . exact ⟨C.cl_Machine, He.meth_ok (C.d.fact 78 rfl)⟩
  rcases List.mem_cons.mp h with rfl | h
  . have e := of_decide_eq_true (C.more 4 rfl)
    refine ⟨C.cl_RawMachine, ?_⟩
    rw [<- e]
    exact He.meth_ok (C.d.fact 79 rfl)
  cases h
theorem Ctx.eq_Machine (C : Ctx w K mg) : EqP K [("Machine", "Machine"), ("RawMachine", "Machine"), ("RawMachine", "RawMachine")] (He.ma K (He.ga K "Machine") "__eq__") := v7' (C.more 5 rfl)
theorem Ctx.ne_Machine (C : Ctx w K mg) : NeP K [("Machine", "Machine"), ("RawMachine", "Machine"), ("RawMachine", "RawMachine")] (He.ma K (He.ga K "Machine") "__eq__") := vG' (C.more 6 rfl)
theorem Ctx.is_Machine (C : Ctx w K mg) : Ca' K M.isT "Machine" := sX' (C.more 7 rfl)
theorem Ctx.at_kept_letters (C : Ctx w K mg) : ∀ c ∈ ["Machine", "RawMachine"], Cls K (He.ga K (Str.ofString c)) /\ NoAttr K (He.ga K (Str.ofString c)) (Str.ofString "kept_letters") := by
  intro c h
  rcases List.mem_cons.mp h with rfl | h
  . exact ⟨C.cl_Machine, C.n_Machine_kept_letters⟩
  rcases List.mem_cons.mp h with rfl | h
  . exact ⟨C.cl_RawMachine, C.n_RawMachine_kept_letters⟩
  cases h
theorem Ctx.at_kept_table (C : Ctx w K mg) : ∀ c ∈ ["Machine", "RawMachine"], Cls K (He.ga K (Str.ofString c)) /\ NoAttr K (He.ga K (Str.ofString c)) (Str.ofString "kept_table") := by
  intro c h
  rcases List.mem_cons.mp h with rfl | h
  . exact ⟨C.cl_Machine, C.n_Machine_kept_table⟩
  rcases List.mem_cons.mp h with rfl | h
  . exact ⟨C.cl_RawMachine, C.n_RawMachine_kept_table⟩
  cases h
theorem Ctx.at_kept_accepts (C : Ctx w K mg) : ∀ c ∈ ["Machine", "RawMachine"], Cls K (He.ga K (Str.ofString c)) /\ NoAttr K (He.ga K (Str.ofString c)) (Str.ofString "kept_accepts") := by
  intro c h
  rcases List.mem_cons.mp h with rfl | h
  . exact ⟨C.cl_Machine, C.n_Machine_kept_accepts⟩
  rcases List.mem_cons.mp h with rfl | h
  . exact ⟨C.cl_RawMachine, C.n_RawMachine_kept_accepts⟩
  cases h
theorem Ctx.at_kept_least (C : Ctx w K mg) : ∀ c ∈ ["Machine", "RawMachine"], Cls K (He.ga K (Str.ofString c)) /\ NoAttr K (He.ga K (Str.ofString c)) (Str.ofString "kept_least") := by
  intro c h
  rcases List.mem_cons.mp h with rfl | h
  . exact ⟨C.cl_Machine, C.n_Machine_kept_least⟩
  rcases List.mem_cons.mp h with rfl | h
  . exact ⟨C.cl_RawMachine, C.n_RawMachine_kept_least⟩
  cases h
theorem Ctx.at_kept_field (C : Ctx w K mg) : ∀ c ∈ ["Machine", "RawMachine"], Cls K (He.ga K (Str.ofString c)) /\ NoAttr K (He.ga K (Str.ofString c)) (Str.ofString "kept_field") := by
  intro c h
  rcases List.mem_cons.mp h with rfl | h
  . exact ⟨C.cl_Machine, C.n_Machine_kept_field⟩
  rcases List.mem_cons.mp h with rfl | h
  . exact ⟨C.cl_RawMachine, C.n_RawMachine_kept_field⟩
  cases h
theorem Ctx.at_kept_lots (C : Ctx w K mg) : ∀ c ∈ ["Machine", "RawMachine"], Cls K (He.ga K (Str.ofString c)) /\ NoAttr K (He.ga K (Str.ofString c)) (Str.ofString "kept_lots") := by
  intro c h
  rcases List.mem_cons.mp h with rfl | h
  . exact ⟨C.cl_Machine, C.n_Machine_kept_lots⟩
  rcases List.mem_cons.mp h with rfl | h
  . exact ⟨C.cl_RawMachine, C.n_RawMachine_kept_lots⟩
  cases h
theorem Ctx.at_kept_more (C : Ctx w K mg) : ∀ c ∈ ["Machine", "RawMachine"], Cls K (He.ga K (Str.ofString c)) /\ NoAttr K (He.ga K (Str.ofString c)) (Str.ofString "kept_more") := by
  intro c h
  rcases List.mem_cons.mp h with rfl | h
  . exact ⟨C.cl_Machine, C.n_Machine_kept_more⟩
  rcases List.mem_cons.mp h with rfl | h
  . exact ⟨C.cl_RawMachine, C.n_RawMachine_kept_more⟩
  cases h
theorem Ctx.f_is_integer (C : Ctx w K mg) : ∃ fd, FunD K "is_integer" "is_integer" (defArgs ba') (defBody ba') (defScope ba') [] [] (He.ga K "is_integer") fd := C.d.def_ 0 (d := eW') rfl
theorem kO' {f : Addr} {fd : FuncData} (F : FunD K "is_integer" "is_integer" (defArgs ba') (defBody ba') (defScope ba') [] [] f fd) : Binds K fd ["thing"] [] := F.bindsN fun _ _ _ _ _ _ us hl => match us, hl with | [_], _ => rfl
theorem Ctx.f_is_string_of (C : Ctx w K mg) : ∃ fd, FunD K "is_string_of" "is_string_of" (defArgs aM') (defBody aM') (defScope aM') [] [] (He.ga K "is_string_of") fd := C.d.def_ 1 (d := dF') rfl
theorem hF' {f : Addr} {fd : FuncData} (F : FunD K "is_string_of" "is_string_of" (defArgs aM') (defBody aM') (defScope aM') [] [] f fd) : Binds K fd ["thing", "signs"] [] := F.bindsN fun _ _ _ _ _ _ us hl => match us, hl with | [_, _], _ => rfl
theorem Ctx.f_is_ascending (C : Ctx w K mg) : ∃ fd, FunD K "is_ascending" "is_ascending" (defArgs aN') (defBody aN') (defScope aN') [] [] (He.ga K "is_ascending") fd := C.d.def_ 2 (d := dG') rfl
theorem hG' {f : Addr} {fd : FuncData} (F : FunD K "is_ascending" "is_ascending" (defArgs aN') (defBody aN') (defScope aN') [] [] f fd) : Binds K fd ["thing"] [] := F.bindsN fun _ _ _ _ _ _ us hl => match us, hl with | [_], _ => rfl
theorem Ctx.f_is_choice (C : Ctx w K mg) : ∃ fd, FunD K "is_choice" "is_choice" (defArgs bm') (defBody bm') (defScope bm') [] [] (He.ga K "is_choice") fd := C.d.def_ 3 (d := fR') rfl
theorem lP' {f : Addr} {fd : FuncData} (F : FunD K "is_choice" "is_choice" (defArgs bm') (defBody bm') (defScope bm') [] [] f fd) : Binds K fd ["thing", "signs"] [] := F.bindsN fun _ _ _ _ _ _ us hl => match us, hl with | [_, _], _ => rfl
theorem Ctx.f_is_word (C : Ctx w K mg) : ∃ fd, FunD K "is_word" "is_word" (defArgs bN') (defBody bN') (defScope bN') [] [] (He.ga K "is_word") fd := C.d.def_ 4 (d := ij') rfl
theorem rJ' {f : Addr} {fd : FuncData} (F : FunD K "is_word" "is_word" (defArgs bN') (defBody bN') (defScope bN') [] [] f fd) : Binds K fd ["machine", "thing"] [] := F.bindsN fun _ _ _ _ _ _ us hl => match us, hl with | [_, _], _ => rfl
theorem Ctx.f_check_word (C : Ctx w K mg) : ∃ fd, FunD K "check_word" "check_word" (defArgs bc') (defBody bc') (defScope bc') [] [] (He.ga K "check_word") fd := C.d.def_ 5 (d := eX') rfl
theorem kP' {f : Addr} {fd : FuncData} (F : FunD K "check_word" "check_word" (defArgs bc') (defBody bc') (defScope bc') [] [] f fd) : Binds K fd ["machine", "thing"] [] := F.bindsN fun _ _ _ _ _ _ us hl => match us, hl with | [_, _], _ => rfl
theorem Ctx.f_are_states (C : Ctx w K mg) : ∃ fd, FunD K "are_states" "are_states" (defArgs bd') (defBody bd') (defScope bd') [] [] (He.ga K "are_states") fd := C.d.def_ 6 (d := eY') rfl
theorem kQ' {f : Addr} {fd : FuncData} (F : FunD K "are_states" "are_states" (defArgs bd') (defBody bd') (defScope bd') [] [] f fd) : Binds K fd ["thing", "many"] [] := F.bindsN fun _ _ _ _ _ _ us hl => match us, hl with | [_, _], _ => rfl
theorem Ctx.f_is_table (C : Ctx w K mg) : ∃ fd, FunD K "is_table" "is_table" (defArgs bD') (defBody bD') (defScope bD') [] [] (He.ga K "is_table") fd := C.d.def_ 7 (d := g2') rfl
theorem oA' {f : Addr} {fd : FuncData} (F : FunD K "is_table" "is_table" (defArgs bD') (defBody bD') (defScope bD') [] [] f fd) : Binds K fd ["thing", "letters"] [] := F.bindsN fun _ _ _ _ _ _ us hl => match us, hl with | [_, _], _ => rfl
theorem Ctx.f_Machine___init__ (C : Ctx w K mg) : ∃ fd, FunD K "__init__" "Machine.__init__" (defArgs as') (defBody as') (defScope as') [] [] (He.ma K (He.ga K "Machine") "__init__") fd := C.d.def_ 8 (d := cE') rfl
theorem e2' {f : Addr} {fd : FuncData} (F : FunD K "__init__" "Machine.__init__" (defArgs as') (defBody as') (defScope as') [] [] f fd) : Binds K fd ["self", "letters", "table", "accepts"] [] := F.bindsN fun _ _ _ _ _ _ us hl => match us, hl with | [_, _, _, _], _ => rfl
theorem Ctx.f_Machine_keep (C : Ctx w K mg) : ∃ fd, FunD K "keep" "Machine.keep" (defArgs aO') (defBody aO') (defScope aO') [] [] (He.ma K (He.ga K "Machine") "keep") fd := C.d.def_ 9 (d := dJ') rfl
theorem hK' {f : Addr} {fd : FuncData} (F : FunD K "keep" "Machine.keep" (defArgs aO') (defBody aO') (defScope aO') [] [] f fd) : Binds K fd ["self", "letters", "table", "accepts"] [] := F.bindsN fun _ _ _ _ _ _ us hl => match us, hl with | [_, _, _, _], _ => rfl
theorem Ctx.f_Machine_letters (C : Ctx w K mg) : ∃ fd, FunD K "letters" "Machine.letters" (defArgs aw') (defBody aw') (defScope aw') [] [] (He.ma K (He.ga K "Machine") "letters") fd := C.d.def_ 10 (d := cM') rfl
theorem fD' {f : Addr} {fd : FuncData} (F : FunD K "letters" "Machine.letters" (defArgs aw') (defBody aw') (defScope aw') [] [] f fd) : Binds K fd ["self"] [] := F.bindsN fun _ _ _ _ _ _ us hl => match us, hl with | [_], _ => rfl
theorem Ctx.f_Machine_table (C : Ctx w K mg) : ∃ fd, FunD K "table" "Machine.table" (defArgs aK') (defBody aK') (defScope aK') [] [] (He.ma K (He.ga K "Machine") "table") fd := C.d.def_ 11 (d := de') rfl
theorem g8' {f : Addr} {fd : FuncData} (F : FunD K "table" "Machine.table" (defArgs aK') (defBody aK') (defScope aK') [] [] f fd) : Binds K fd ["self"] [] := F.bindsN fun _ _ _ _ _ _ us hl => match us, hl with | [_], _ => rfl
theorem Ctx.f_Machine_accepts (C : Ctx w K mg) : ∃ fd, FunD K "accepts" "Machine.accepts" (defArgs ax') (defBody ax') (defScope ax') [] [] (He.ma K (He.ga K "Machine") "accepts") fd := C.d.def_ 12 (d := cN') rfl
theorem fE' {f : Addr} {fd : FuncData} (F : FunD K "accepts" "Machine.accepts" (defArgs ax') (defBody ax') (defScope ax') [] [] f fd) : Binds K fd ["self"] [] := F.bindsN fun _ _ _ _ _ _ us hl => match us, hl with | [_], _ => rfl
theorem Ctx.f_Machine_parts (C : Ctx w K mg) : ∃ fd, FunD K "parts" "Machine.parts" (defArgs aL') (defBody aL') (defScope aL') [] [] (He.ma K (He.ga K "Machine") "parts") fd := C.d.def_ 13 (d := df') rfl
theorem g9' {f : Addr} {fd : FuncData} (F : FunD K "parts" "Machine.parts" (defArgs aL') (defBody aL') (defScope aL') [] [] f fd) : Binds K fd ["self"] [] := F.bindsN fun _ _ _ _ _ _ us hl => match us, hl with | [_], _ => rfl
theorem Ctx.f_Machine___eq__ (C : Ctx w K mg) : ∃ fd, FunD K "__eq__" "Machine.__eq__" (defArgs aC') (defBody aC') (defScope aC') [] [] (He.ma K (He.ga K "Machine") "__eq__") fd := C.d.def_ 14 (d := cY') rfl
theorem f7' {f : Addr} {fd : FuncData} (F : FunD K "__eq__" "Machine.__eq__" (defArgs aC') (defBody aC') (defScope aC') [] [] f fd) : Binds K fd ["self", "other"] [] := F.bindsN fun _ _ _ _ _ _ us hl => match us, hl with | [_, _], _ => rfl
theorem Ctx.f_RawMachine___init__ (C : Ctx w K mg) : ∃ fd, FunD K "__init__" "RawMachine.__init__" (defArgs ak') (defBody ak') (defScope ak') [] [] (He.ma K (He.ga K "RawMachine") "__init__") fd := C.d.def_ 15 (d := b7') rfl
theorem dK' {f : Addr} {fd : FuncData} (F : FunD K "__init__" "RawMachine.__init__" (defArgs ak') (defBody ak') (defScope ak') [] [] f fd) : Binds K fd ["self", "letters", "table", "accepts"] [] := F.bindsN fun _ _ _ _ _ _ us hl => match us, hl with | [_, _, _, _], _ => rfl
theorem Ctx.f_led (C : Ctx w K mg) : ∃ fd, FunD K "led" "led" (defArgs hA') (defBody hA') (defScope hA') [] [] (He.ga K "led") fd := C.d.def_ 16 (d := us') rfl
theorem B5' {f : Addr} {fd : FuncData} (F : FunD K "led" "led" (defArgs hA') (defBody hA') (defScope hA') [] [] f fd) : Binds K fd ["machine", "state", "word"] [] := F.bindsN fun _ _ _ _ _ _ us hl => match us, hl with | [_, _, _], _ => rfl
theorem Ctx.f_says (C : Ctx w K mg) : ∃ fd, FunD K "says" "says" (defArgs d4') (defBody d4') (defScope d4') [] [] (He.ga K "says") fd := C.d.def_ 17 (d := rt') rfl
theorem zH' {f : Addr} {fd : FuncData} (F : FunD K "says" "says" (defArgs d4') (defBody d4') (defScope d4') [] [] f fd) : Binds K fd ["machine", "word"] [] := F.bindsN fun _ _ _ _ _ _ us hl => match us, hl with | [_, _], _ => rfl
theorem Ctx.f_reached (C : Ctx w K mg) : ∃ fd, FunD K "reached" "reached" (defArgs bM') (defBody bM') (defScope bM') [] [] (He.ga K "reached") fd := C.d.def_ 18 (d := ii') rfl
theorem rI' {f : Addr} {fd : FuncData} (F : FunD K "reached" "reached" (defArgs bM') (defBody bM') (defScope bM') [] [] f fd) : Binds K fd ["machine"] [] := F.bindsN fun _ _ _ _ _ _ us hl => match us, hl with | [_], _ => rfl
theorem Ctx.f_numbered (C : Ctx w K mg) : ∃ fd, FunD K "numbered" "numbered" (defArgs bC') (defBody bC') (defScope bC') [] [] (He.ga K "numbered") fd := C.d.def_ 19 (d := g1') rfl
theorem oz' {f : Addr} {fd : FuncData} (F : FunD K "numbered" "numbered" (defArgs bC') (defBody bC') (defScope bC') [] [] f fd) : Binds K fd ["keys"] [] := F.bindsN fun _ _ _ _ _ _ us hl => match us, hl with | [_], _ => rfl
theorem Ctx.f_alike_states (C : Ctx w K mg) : ∃ fd, FunD K "alike_states" "alike_states" (defArgs aB') (defBody aB') (defScope aB') [] [] (He.ga K "alike_states") fd := C.d.def_ 20 (d := dH') rfl
theorem hI' {f : Addr} {fd : FuncData} (F : FunD K "alike_states" "alike_states" (defArgs aB') (defBody aB') (defScope aB') [] [] f fd) : Binds K fd ["machine", "states"] [] := F.bindsN fun _ _ _ _ _ _ us hl => match us, hl with | [_, _], _ => rfl
theorem Ctx.f_least (C : Ctx w K mg) : ∃ fd, FunD K "least" "least" (defArgs ch') (defBody ch') (defScope ch') [] [] (He.ga K "least") fd := C.d.def_ 21 (d := nL') rfl
theorem wG' {f : Addr} {fd : FuncData} (F : FunD K "least" "least" (defArgs ch') (defBody ch') (defScope ch') [] [] f fd) : Binds K fd ["machine"] [] := F.bindsN fun _ _ _ _ _ _ us hl => match us, hl with | [_], _ => rfl
theorem Ctx.f_backward (C : Ctx w K mg) : ∃ fd, FunD K "backward" "backward" (defArgs be') (defBody be') (defScope be') [] [] (He.ga K "backward") fd := C.d.def_ 22 (d := g3') rfl
theorem oB' {f : Addr} {fd : FuncData} (F : FunD K "backward" "backward" (defArgs be') (defBody be') (defScope be') [] [] f fd) : Binds K fd ["machine"] [] := F.bindsN fun _ _ _ _ _ _ us hl => match us, hl with | [_], _ => rfl
theorem Ctx.f__law_hand (C : Ctx w K mg) : ∃ fd, FunD K "_law_hand" "_law_hand" (defArgs bh') (defBody bh') (defScope bh') [] [] (He.ga K "_law_hand") fd := C.d.def_ 23 (d := fU') rfl
theorem lS' {f : Addr} {fd : FuncData} (F : FunD K "_law_hand" "_law_hand" (defArgs bh') (defBody bh') (defScope bh') [] [] f fd) : Binds K fd ["_law_script"] [] := F.bindsN fun _ _ _ _ _ _ us hl => match us, hl with | [_], _ => rfl
theorem Ctx.f__law_draw (C : Ctx w K mg) : ∃ fd, FunD K "_law_draw" "_law_draw" (defArgs bo') (defBody bo') (defScope bo') [] [] (He.ga K "_law_draw") fd := C.d.def_ 24 (d := fV') rfl
theorem lT' {f : Addr} {fd : FuncData} (F : FunD K "_law_draw" "_law_draw" (defArgs bo') (defBody bo') (defScope bo') [] [] f fd) : Binds K fd ["_law_hand_here", "_law_many"] [] := F.bindsN fun _ _ _ _ _ _ us hl => match us, hl with | [_, _], _ => rfl
theorem Ctx.f__law_shuffled (C : Ctx w K mg) : ∃ fd, FunD K "_law_shuffled" "_law_shuffled" (defArgs aI') (defBody aI') (defScope aI') [] [] (He.ga K "_law_shuffled") fd := C.d.def_ 25 (d := dc') rfl
theorem g7' {f : Addr} {fd : FuncData} (F : FunD K "_law_shuffled" "_law_shuffled" (defArgs aI') (defBody aI') (defScope aI') [] [] f fd) : Binds K fd ["_law_hand_here", "_law_things"] [] := F.bindsN fun _ _ _ _ _ _ us hl => match us, hl with | [_, _], _ => rfl
theorem Ctx.f__law_rows (C : Ctx w K mg) : ∃ fd, FunD K "_law_rows" "_law_rows" (defArgs a5') (defBody a5') (defScope a5') [] [] (He.ga K "_law_rows") fd := C.d.def_ 26 (d := fT') rfl
theorem lR' {f : Addr} {fd : FuncData} (F : FunD K "_law_rows" "_law_rows" (defArgs a5') (defBody a5') (defScope a5') [] [] f fd) : Binds K fd ["_law_hand_here", "_law_kind", "_law_size", "_law_many"] [] := F.bindsN fun _ _ _ _ _ _ us hl => match us, hl with | [_, _, _, _], _ => rfl
theorem Ctx.f__law_woven (C : Ctx w K mg) : ∃ fd, FunD K "_law_woven" "_law_woven" (defArgs aZ') (defBody aZ') (defScope aZ') [] [] (He.ga K "_law_woven") fd := C.d.def_ 27 (d := eZ') rfl
theorem kR' {f : Addr} {fd : FuncData} (F : FunD K "_law_woven" "_law_woven" (defArgs aZ') (defBody aZ') (defScope aZ') [] [] f fd) : Binds K fd ["_law_hand_here", "_law_many"] [] := F.bindsN fun _ _ _ _ _ _ us hl => match us, hl with | [_, _], _ => rfl
theorem Ctx.f__law_parts (C : Ctx w K mg) : ∃ fd, FunD K "_law_parts" "_law_parts" (defArgs a0') (defBody a0') (defScope a0') [] [] (He.ga K "_law_parts") fd := C.d.def_ 28 (d := e0') rfl
theorem kS' {f : Addr} {fd : FuncData} (F : FunD K "_law_parts" "_law_parts" (defArgs a0') (defBody a0') (defScope a0') [] [] f fd) : Binds K fd ["_law_hand_here", "_law_most", "_law_states"] [] := F.bindsN fun _ _ _ _ _ _ us hl => match us, hl with | [_, _, _], _ => rfl
theorem Ctx.f__law_classes (C : Ctx w K mg) : ∃ fd, FunD K "_law_classes" "_law_classes" (defArgs aJ') (defBody aJ') (defScope aJ') [] [] (He.ga K "_law_classes") fd := C.d.def_ 29 (d := dI') rfl
theorem hJ' {f : Addr} {fd : FuncData} (F : FunD K "_law_classes" "_law_classes" (defArgs aJ') (defBody aJ') (defScope aJ') [] [] f fd) : Binds K fd ["_law_table", "_law_accepts", "_law_states"] [] := F.bindsN fun _ _ _ _ _ _ us hl => match us, hl with | [_, _, _], _ => rfl
theorem Ctx.f__law_least (C : Ctx w K mg) : ∃ fd, FunD K "_law_least" "_law_least" (defArgs aS') (defBody aS') (defScope aS') [] [] (He.ga K "_law_least") fd := C.d.def_ 30 (d := e1') rfl
theorem kT' {f : Addr} {fd : FuncData} (F : FunD K "_law_least" "_law_least" (defArgs aS') (defBody aS') (defScope aS') [] [] f fd) : Binds K fd ["_law_table", "_law_accepts"] [] := F.bindsN fun _ _ _ _ _ _ us hl => match us, hl with | [_, _], _ => rfl
theorem Ctx.f__law_word (C : Ctx w K mg) : ∃ fd, FunD K "_law_word" "_law_word" (defArgs bn') (defBody bn') (defScope bn') [] [] (He.ga K "_law_word") fd := C.d.def_ 31 (d := fS') rfl
theorem lQ' {f : Addr} {fd : FuncData} (F : FunD K "_law_word" "_law_word" (defArgs bn') (defBody bn') (defScope bn') [] [] f fd) : Binds K fd ["_law_hand_here", "_law_letters", "_law_many"] [] := F.bindsN fun _ _ _ _ _ _ us hl => match us, hl with | [_, _, _], _ => rfl
theorem Ctx.f__law_is_machine (C : Ctx w K mg) : ∃ fd, FunD K "_law_is_machine" "_law_is_machine" (defArgs av') (defBody av') (defScope av') [] [] (He.ga K "_law_is_machine") fd := C.d.def_ 32 (d := cL') rfl
theorem fC' {f : Addr} {fd : FuncData} (F : FunD K "_law_is_machine" "_law_is_machine" (defArgs av') (defBody av') (defScope av') [] [] f fd) : Binds K fd ["_law_found", "_law_letters", "_law_rows_here", "_law_yes"] [] := F.bindsN fun _ _ _ _ _ _ us hl => match us, hl with | [_, _, _, _], _ => rfl
theorem Ctx.f__law_turned (C : Ctx w K mg) : ∃ fd, FunD K "_law_turned" "_law_turned" (defArgs aF') (defBody aF') (defScope aF') [] [] (He.ga K "_law_turned") fd := C.d.def_ 33 (d := d6') rfl
theorem i8' {f : Addr} {fd : FuncData} (F : FunD K "_law_turned" "_law_turned" (defArgs aF') (defBody aF') (defScope aF') [] [] f fd) : Binds K fd ["_law_table", "_law_accepts", "_law_many"] [] := F.bindsN fun _ _ _ _ _ _ us hl => match us, hl with | [_, _, _], _ => rfl
theorem Ctx.f_law (C : Ctx w K mg) : ∃ fd, FunD K "law" "law" (defArgs hB') (defBody hB') (defScope hB') [] [] (He.ga K "law") fd := C.d.def_ 34 (d := ut') rfl
end
end S
namespace M
structure En where
  nx : PSt -> Prop
  rt : O -> W -> Prop
  bk : PSt -> Prop
  ct : PSt -> Prop
  ex : Exc -> PSt -> Prop
def vE {α : Type} (r : Res α) (Q : α -> PSt -> Prop) (X : Exc -> PSt -> Prop) : Prop := match r with
  | .ok a ρ => Q a ρ
  | .exc x ρ => X x ρ
  | .bad => False
def vS (o : Out) (D : En) : Prop := match o with
  | .nx ρ => D.nx ρ
  | .rt o w => D.rt o w
  | .bk ρ => D.bk ρ
  | .ct ρ => D.ct ρ
  | .exc x ρ => D.ex x ρ
  | .bad => False
def vF (r : FRes) (Q : O -> W -> Prop) (X : Exc -> W -> Prop) : Prop := match r with
  | .ok o w => Q o w
  | .exc x w => X x w
  | .bad => False
def vD {α : Type} (o : Option α) (Q : α -> Prop) : Prop := match o with
  | some z => Q z
  | none => False
def vI (k : Bool) (A B : Prop) : Prop := if k = true then A else B
def vB (d : D) (P : Bool -> Prop) : Prop := match d with
  | .bl k => P k
  | _ => False
def vT (d : D) (P : Tx -> Prop) : Prop := match d with
  | .str s => P s
  | _ => False
def vN (d : D) (P : Int -> Prop) : Prop := match d with
  | .int s => P s
  | _ => False
def vV (o : Option (Option O)) (i : Nat) (ρ : PSt) (Q : D -> PSt -> Prop) : Prop := match o with
  | some (some (.fz d)) => Q d ρ
  | some (some .exn) => False
  | some (some .clo) => False
  | some (some o) => Q (frz o) ⟨ρ.env.set i (some (.fz (frz o))), ρ.w⟩
  | _ => False
def vG (o : Option (Option O)) (i : Nat) (ρ : PSt) (Q : O -> PSt -> Prop) : Prop := match o with
  | some (some (.fz d)) => Q (.fz d) ρ
  | some (some .exn) => False
  | some (some .clo) => False
  | some (some o) => Q o ⟨ρ.env.set i none, ρ.w⟩
  | _ => False
def vO (o : Option (Option O)) (Q : O -> Prop) : Prop := match o with
  | some (some o) => Q o
  | _ => False
def vL (o : Option (Option O)) (Q : List O -> Prop) : Prop := match o with
  | some (some (.lst os)) => Q os
  | _ => False
def asF : O -> Option D
  | .fz d => some d
  | _ => none
def asL : D -> Option (List D)
  | .lst ds => some ds
  | _ => none
abbrev FX : Exc -> W -> Prop := fun _ _ => False
abbrev PX : Exc -> PSt -> Prop := fun _ _ => False
section
variable {α β : Type} {Q : α -> PSt -> Prop} {X : Exc -> PSt -> Prop} {ρ : PSt} {P : D -> PSt -> Prop} {D0 : En}
theorem ah' (r : Res β) (f : β -> PSt -> Res α) : vE (r.bind f) Q X = vE r (fun b ρ => vE (f b ρ) Q X) X := by cases r <;> rfl
theorem bO' (r : Res β) (f : β -> PSt -> Out) : vS (r.out f) D0 = vE r (fun b ρ => vS (f b ρ) D0) D0.ex := by cases r <;> rfl
theorem a8' (o : Option α) : vE (ofO o ρ) Q X = vD o (fun z => Q z ρ) := by cases o <;> rfl
theorem fY' (a : α) : vE (.ok a ρ) Q X = Q a ρ := rfl
theorem gc' (d : D) {Q : Bool -> PSt -> Prop} : vE (asB d ρ) Q X = vB d (fun k => Q k ρ) := by cases d <;> rfl
theorem gb' (k : Bool) (a b : Res α) : vE (if k = true then a else b) Q X = vI k (vE a Q X) (vE b Q X) := by cases k <;> rfl
theorem r4' (k : Bool) (a b : Out) : vS (if k = true then a else b) D0 = vI k (vS a D0) (vS b D0) := by cases k <;> rfl
theorem jr' (z : α) {Q : α -> Prop} : vD (some z) Q = Q z := rfl
theorem o6' (k : Bool) {Q : Bool -> Prop} : vB (.bl k) Q = Q k := rfl
theorem tI' (A B : Prop) : vI true A B = A := rfl
theorem tJ' (A B : Prop) : vI false A B = B := rfl
theorem mi' (k : Bool) (A B : Prop) : vI (!k) A B = vI k B A := by cases k <;> rfl
theorem xp' (d : D) : vE (eC d ρ) P X = P d ρ := rfl
theorem xn' (i : Nat) (env : List (Option O)) (w : W) : vE (eV i ⟨env, w⟩) P X = vV env[i]? i ⟨env, w⟩ P := by
  show vE (match env[i]? with | some (some (.fz d)) => Res.ok d ⟨env, w⟩ | some (some .exn) => .bad | some (some .clo) => .bad | some (some o) => .ok (frz o) ⟨env.set i (some (.fz (frz o))), w⟩ | _ => .bad) P X = _
  rcases env[i]? with _ | _ | o
  . rfl
  . rfl
  . cases o <;> rfl
theorem o0' (d : D) (i : Nat) (ρ : PSt) : vV (some (some (.fz d))) i ρ P = P d ρ := rfl
theorem md' (os : List O) (i : Nat) (env : List (Option O)) (w : W) : vV (some (some (.lst os))) i ⟨env, w⟩ P = P (.lst (frzs os)) ⟨env.set i (some (.fz (.lst (frzs os)))), w⟩ := rfl
theorem mc' (os : List O) (i : Nat) (env : List (Option O)) (w : W) : vV (some (some (.tup os))) i ⟨env, w⟩ P = P (.tup (frzs os)) ⟨env.set i (some (.fz (.tup (frzs os)))), w⟩ := rfl
theorem me' (ks : List D) (os : List O) (i : Nat) (env : List (Option O)) (w : W) : vV (some (some (.dct ks os))) i ⟨env, w⟩ P = P (.dct ks (frzs os)) ⟨env.set i (some (.fz (.dct ks (frzs os)))), w⟩ := rfl
theorem o2' (d : D) (i : Nat) (ρ : PSt) {P : O -> PSt -> Prop} : vG (some (some (.fz d))) i ρ P = P (.fz d) ρ := rfl
theorem ml' (os : List O) (i : Nat) (env : List (Option O)) (w : W) {P : O -> PSt -> Prop} : vG (some (some (.lst os))) i ⟨env, w⟩ P = P (.lst os) ⟨env.set i none, w⟩ := rfl
theorem mk' (os : List O) (i : Nat) (env : List (Option O)) (w : W) {P : O -> PSt -> Prop} : vG (some (some (.tup os))) i ⟨env, w⟩ P = P (.tup os) ⟨env.set i none, w⟩ := rfl
theorem mm' (ks : List D) (os : List O) (i : Nat) (env : List (Option O)) (w : W) {P : O -> PSt -> Prop} : vG (some (some (.dct ks os))) i ⟨env, w⟩ P = P (.dct ks os) ⟨env.set i none, w⟩ := rfl
theorem jp' (o : O) {P : O -> Prop} : vO (some (some o)) P = P o := rfl
theorem mh' (os : List O) {P : List O -> Prop} : vL (some (some (.lst os))) P = P os := rfl
theorem tE' (f : D -> D -> Option D) (a b : ME) : vE (eOp f a b ρ) P X = vE (a ρ) (fun x ρ1 => vE (b ρ1) (fun y ρ2 => vD (f x y) (fun z => P z ρ2)) X) X := by simp only [eOp, ah', a8']
theorem tB' (f : D -> Option D) (a : ME) : vE (eUn f a ρ) P X = vE (a ρ) (fun x ρ1 => vD (f x) (fun z => P z ρ1)) X := by simp only [eUn, ah', a8']
theorem oZ' (a b : ME) : vE (ur' a b ρ) P X = vE (a ρ) (fun x ρ1 => vB x fun k => vI k (vE (b ρ1) P X) (P (.bl false) ρ1)) X := by simp only [ur', ah', gc', gb', fY']
theorem oS' (a : ME) : vE (yO' a ρ) P X = vE (a ρ) (fun x ρ1 => vB x fun k => P (.bl (!k)) ρ1) X := by simp only [yO', ah', gc', fY']
theorem jm' (f g : D -> D -> Option D) (a b c : ME) : vE (g0' f g a b c ρ) P X = vE (a ρ) (fun x ρ1 => vE (b ρ1) (fun y ρ2 => vD (f x y) fun r => vB r fun k => vI k (vE (c ρ2) (fun z ρ3 => vD (g y z) fun v => P v ρ3) X) (P (.bl false) ρ2)) X) X := by
  simp only [g0', ah', a8', gc', gb', fY']
theorem oT' {P : List D -> PSt -> Prop} : vE (bk' ρ) P X = P [] ρ := rfl
theorem ma' (a : ME) (r : MA) {P : List D -> PSt -> Prop} : vE (ad' a r ρ) P X = vE (a ρ) (fun x ρ1 => vE (r ρ1) (fun xs ρ2 => P (x :: xs) ρ2) X) X := by simp only [ad', ah', fY']
def ja' (n : Nat) (A : Prop) : Prop := n <= 16777216 /\ A
theorem jq' {n : Nat} (h : n <= 16777216) (A : Prop) : ja' n A = A := by unfold ja'; simp [h]
theorem oQ' (as : MA) : vE (rq' as ρ) P X = vE (as ρ) (fun xs ρ1 => ja' xs.length (P (.tup xs) ρ1)) X := by
  simp only [rq', ah']
  congr
  funext xs ρ1
  unfold ja'
  by_cases h : xs.length <= 16777216
  . rw [if_pos h]; simp [vE, h]
  . rw [if_neg h]; simp [vE, h]
theorem oU' (as : MA) : vE (jc' as ρ) P X = vE (as ρ) (fun xs ρ1 => ja' xs.length (P (.lst xs) ρ1)) X := by
  simp only [jc', ah']
  congr
  funext xs ρ1
  unfold ja'
  by_cases h : xs.length <= 16777216
  . rw [if_pos h]; simp [vE, h]
  . rw [if_neg h]; simp [vE, h]
theorem tG' (f : Tx -> List D -> Option D) (a : ME) (as : MA) : vE (eMt f a as ρ) P X = vE (a ρ) (fun x ρ1 => vT x fun s => vE (as ρ1) (fun ds ρ2 => vD (f s ds) fun z => P z ρ2) X) X := by
  simp only [eMt, ah']
  congr
  funext x ρ1
  cases x <;> simp only [ah', a8'] <;> rfl
theorem mf' (s : Tx) {P : Tx -> Prop} : vT (.str s) P = P s := rfl
theorem mg' (s : Int) {P : Int -> Prop} : vN (.int s) P = P s := rfl
theorem tF' {P : Option Int -> PSt -> Prop} : vE (pNo ρ) P X = P none ρ := rfl
theorem tC' (a : ME) {P : Option Int -> PSt -> Prop} : vE (pSo a ρ) P X = vE (a ρ) (fun x ρ1 => vN x fun i => P (some i) ρ1) X := by
  simp only [pSo, ah']
  congr
  funext x ρ1
  cases x <;> rfl
theorem tD' (a : ME) (lo hi : MP) : vE (eSl a lo hi ρ) P X = vE (a ρ) (fun x ρ1 => vE (lo ρ1) (fun l ρ2 => vE (hi ρ2) (fun h ρ3 => vD (pSl x l h) fun z => P z ρ3) X) X) X := by simp only [eSl, ah', a8']
theorem xo' (a : MO) : vE (eO a ρ) P X = vE (a ρ) (fun o ρ1 => P (frz o) ρ1) X := by simp only [eO, ah', fY']
variable {R : O -> PSt -> Prop}
theorem tA' (a : ME) : vE (oE a ρ) R X = vE (a ρ) (fun d ρ1 => R (.fz d) ρ1) X := by simp only [oE, ah', fY']
theorem tz' (i : Nat) (env : List (Option O)) (w : W) : vE (oV i ⟨env, w⟩) R X = vG env[i]? i ⟨env, w⟩ R := by
  show vE (match env[i]? with | some (some (.fz d)) => Res.ok (O.fz d) ⟨env, w⟩ | some (some .exn) => .bad | some (some .clo) => .bad | some (some o) => .ok o ⟨env.set i none, w⟩ | _ => .bad) R X = _
  rcases env[i]? with _ | _ | o
  . rfl
  . rfl
  . cases o <;> rfl
theorem mb' (f : MF) (as : MA) : vE (aQ' f as ρ) R X = vE (as ρ) (fun ds ρ1 => vF (f ds ρ1.w) (fun o w => R o ⟨ρ1.env, w⟩) fun x w => X x ⟨ρ1.env, w⟩) X := by
  simp only [aQ', ah']
  congr
  funext ds ρ1
  cases f ds ρ1.w <;> rfl
theorem l4' (a : ME) : vE (hz' a ρ) R X = vE (a ρ) (fun d ρ1 => vD (asL d) fun ds => R (.lst (ds.map .fz)) ρ1) X := by
  simp only [hz', ah']
  congr
  funext d ρ1
  cases d <;> rfl
theorem jj' : vE (gP' ρ) R X = R (.dct [] []) ρ := rfl
theorem jl' (i : Nat) (a : ME) (env : List (Option O)) (w : W) : vE (kq' i a ⟨env, w⟩) P X = vL env[i]? fun _ => vE (a ⟨env, w⟩) (fun d ρ1 => vN d fun z => vL ρ1.env[i]? fun os => ja' os.length (vD (ixn os.length z) fun j => vD os[j]? fun o => vD (asF o) fun y => P y ⟨ρ1.env.set i (some (.lst (os.eraseIdx j))), ρ1.w⟩)) X := by
  show vE (match env[i]? with
  | some (some (.lst _)) => (a ⟨env, w⟩).bind fun d ρ1 => match ρ1.env[i]?, d with
    | some (some (.lst os)), .int z => (match (if os.length <= di' then ixn os.length z else none) with
      | some j => (match os[j]? with
        | some (.fz y) => .ok y ⟨ρ1.env.set i (some (.lst (os.eraseIdx j))), ρ1.w⟩
        | _ => .bad)
      | none => .bad)
    | _, _ => .bad
  | _ => .bad) P X = _
  rcases env[i]? with _ | _ | o
  . rfl
  . rfl
  cases o with
  | lst os0 =>
    simp only [ah', vL]
    congr
    funext d ρ1
    cases d with
    | int z =>
      simp only [vN]
      rcases ρ1.env[i]? with _ | _ | o
      . rfl
      . rfl
      cases o with
      | lst os =>
        simp only [ja']
        by_cases hl : os.length <= 16777216
        . simp only [hl, if_pos, true_and]
          cases ixn os.length z with
          | none => rfl
          | some j =>
            simp only [vD]
            rcases os[j]? with _ | o
            . rfl
            . cases o <;> rfl
        . simp only [hl, if_neg, false_and]; simp [vE]
      | _ => rfl
    | _ =>
      rcases ρ1.env[i]? with _ | _ | o
      . rfl
      . rfl
      cases o <;> rfl
  | _ => rfl
theorem oW' (i : Nat) (b : ME) (env : List (Option O)) (w : W) : vE (rr' i b ⟨env, w⟩) P X = vO env[i]? fun _ => vE (b ⟨env, w⟩) (fun k ρ1 => vO ρ1.env[i]? fun o => vD (ixO o k) fun z => P z ρ1) X := by
  show vE (match env[i]? with
  | some (some _) => (b ⟨env, w⟩).bind fun k ρ1 => match ρ1.env[i]? with
    | some (some o) => ofO (ixO o k) ρ1
    | _ => .bad
  | _ => .bad) P X = _
  rcases env[i]? with _ | _ | o
  . rfl
  . rfl
  simp only [ah', vO]
  congr
  funext k ρ1
  rcases ρ1.env[i]? with _ | _ | o
  . rfl
  . rfl
  exact a8' _
theorem hQ' (i : Nat) (a : ME) : vE (fz' i a ρ) P X = vE (a ρ) (fun x ρ1 => vO ρ1.env[i]? fun o => vD (qN' (inO x o)) fun z => P z ρ1) X := by
  simp only [fz', ah']
  congr
  funext x ρ1
  rcases ρ1.env[i]? with _ | _ | o
  . rfl
  . rfl
  exact a8' _
theorem l9' (i : Nat) : vE (cD' i ρ) P X = vO ρ.env[i]? fun o => vD (rT' o) fun z => P z ρ := by
  unfold cD'
  rcases ρ.env[i]? with _ | _ | o
  . rfl
  . rfl
  exact a8' _
theorem oV' (a b : ME) : vE (jd' a b ρ) P X = vE (a ρ) (fun x ρ1 => vE (b ρ1) (fun y ρ2 => vD (ixW ρ2.w x y) fun z => P z ρ2) X) X := by simp only [jd', ah', a8']
theorem oR' (as : MA) : vE (ya' as ρ) R X = vE (as ρ) (fun xs ρ1 => ja' xs.length (R (.fz (.obj ρ1.w.length)) ⟨ρ1.env, ρ1.w ++ [.lst (xs.map .fz)]⟩)) X := by
  simp only [ya', ah']
  congr
  funext xs ρ1
  unfold ja'
  by_cases h : xs.length <= 16777216
  . rw [if_pos h]; simp [vE, h]
  . rw [if_neg h]; simp [vE, h]
theorem oX' (cs : List String) (a : ME) (f : String) : vE (en' cs a f ρ) P X = vE (a ρ) (fun x ρ1 => vD (gZ' cs f ρ1.w x) fun z => P z ρ1) X := by simp only [en', ah', a8']
theorem l8' (C : String) (init : MF) (as : MA) : vE (j4' C init as ρ) R X = vE (as ρ) (fun ds ρ1 => vF (init (.obj ρ1.w.length :: ds) (ρ1.w ++ [.ins C []])) (fun o w => o = .fz .non /\ R (.fz (.obj ρ1.w.length)) ⟨ρ1.env, w⟩) fun x w => X x ⟨ρ1.env, w⟩) X := by
  simp only [j4', ah']
  congr
  funext ds ρ1
  cases init (.obj ρ1.w.length :: ds) (ρ1.w ++ [.ins C []]) with
  | ok o w =>
    cases o with
    | fz d => cases d <;> simp [vE, vF]
    | _ => simp [vE, vF]
  | _ => rfl
theorem l7' (C : List String) (m : String) (f : MF) (a : ME) (as : MA) : vE (fq' C m f a as ρ) R X = vE (a ρ) (fun x ρ1 => iU' C m ρ1.w x = true /\ vE (as ρ1) (fun ds ρ2 => vF (f (x :: ds) ρ2.w) (fun o w => R o ⟨ρ2.env, w⟩) fun x w => X x ⟨ρ2.env, w⟩) X) X := by
  simp only [fq', ah']
  congr
  funext x ρ1
  by_cases h : iU' C m ρ1.w x = true
  . rw [if_pos h]
    simp only [h, true_and, ah']
    congr
    funext ds ρ2
    cases f (x :: ds) ρ2.w <;> rfl
  . rw [if_neg h]
    simp [vE, h]
def vX (o : Option (Option O)) (A : Prop) : Prop := match o with
  | some (some .exn) => A
  | _ => False
variable {B : Bool -> PSt -> Prop}
theorem ty' (a : ME) : vE (tE a ρ) B X = vE (a ρ) (fun d ρ1 => vB d fun k => B k ρ1) X := by simp only [tE, ah', gc']
theorem l2' (a : MT) : vE (hy' a ρ) B X = vE (a ρ) (fun k ρ1 => B (!k) ρ1) X := by simp only [hy', ah', fY']
theorem l3' (a b : MT) : vE (wO' a b ρ) B X = vE (a ρ) (fun k ρ1 => vI k (vE (b ρ1) B X) (B false ρ1)) X := by simp only [wO', ah', gb', fY']
theorem oM' (a b : MT) : vE (tOr a b ρ) B X = vE (a ρ) (fun k ρ1 => vI k (B true ρ1) (vE (b ρ1) B X)) X := by simp only [tOr, ah', gb', fY']
theorem tx' : vE (tT ρ) B X = B true ρ := rfl
variable {Y : List D -> PSt -> Prop}
theorem l6' (a : ME) : vE (gi' a ρ) Y X = vE (a ρ) (fun d ρ1 => vD (ea' d) fun z => Y z ρ1) X := by simp only [gi', ah', a8']
theorem gs' (a : ME) : vE (bi' a ρ) Y X = vE (a ρ) (fun d ρ1 => vD (fn' d) fun z => Y z ρ1) X := by simp only [bi', ah', a8']
theorem l5' (a b : ME) : vE (yC' a b ρ) Y X = vE (a ρ) (fun d ρ1 => vE (b ρ1) (fun e ρ2 => vD (rQ' d e) fun z => Y z ρ2) X) X := by simp only [yC', ah', a8']
theorem jk' (a : ME) : vE (rj' a ρ) Y X = vE (a ρ) (fun d ρ1 => vD (enB d) fun z => Y z ρ1) X := by simp only [rj', ah', a8']
theorem tH' (own : List Nat) (it : MI) (g : MG) (t : MT) (e : ME) : vE (eLc own it g t e ρ) P X = vE (it ρ) (fun xs ρ1 => vE (lcL own g t e xs [] ρ1) (fun ys ρ2 => P (.lst ys) ⟨back ρ1.env own (aD' own ρ2.env), ρ2.w⟩) X) X := by simp only [eLc, ah', fY']
theorem oN' (own : List Nat) (it : MI) (g : MG) (t : MT) (e : ME) : vE (oLc own it g t e ρ) R X = vE (it ρ) (fun xs ρ1 => vE (lcL own g t e xs [] ρ1) (fun ys ρ2 => R (.lst (ys.map .fz)) ⟨back ρ1.env own (aD' own ρ2.env), ρ2.w⟩) X) X := by simp only [oLc, ah', fY']
variable {N : PSt -> Prop} {rt : O -> W -> Prop} {bk ct : PSt -> Prop} {ex : Exc -> PSt -> Prop}
theorem mp' : vS (br' ρ) ⟨N, rt, bk, ct, ex⟩ = N ρ := rfl
theorem jw' : vS (nb' ρ) ⟨N, rt, bk, ct, ex⟩ = bk ρ := rfl
theorem mq' (a : ME) : vS (jR' a ρ) ⟨N, rt, bk, ct, ex⟩ = vE (a ρ) (fun _ ρ1 => N ρ1) ex := by simp only [jR', bO']; rfl
theorem o8' (a : MO) : vS (cC' a ρ) ⟨N, rt, bk, ct, ex⟩ = vE (a ρ) (fun o ρ1 => rt o ρ1.w) ex := by simp only [cC', bO']; rfl
theorem k3' (a b : MS) : vS (au' a b ρ) ⟨N, rt, bk, ct, ex⟩ = vS (a ρ) ⟨fun ρ1 => vS (b ρ1) ⟨N, rt, bk, ct, ex⟩, rt, bk, ct, ex⟩ := by
  unfold au'
  cases a ρ <;> rfl
theorem tK' (t : MT) (a b : MS) : vS (sIf t a b ρ) ⟨N, rt, bk, ct, ex⟩ = vE (t ρ) (fun k ρ1 => vI k (vS (a ρ1) ⟨N, rt, bk, ct, ex⟩) (vS (b ρ1) ⟨N, rt, bk, ct, ex⟩)) ex := by simp only [sIf, bO', r4']
def n1' (i n : Nat) (A : Prop) : Prop := i < n /\ A
theorem jn' {i n : Nat} (h : i < n) (A : Prop) : n1' i n A = A := by unfold n1'; simp [h]
theorem o7' (i : Nat) (a : MO) : vS (bg' i a ρ) ⟨N, rt, bk, ct, ex⟩ = vE (a ρ) (fun o ρ1 => n1' i ρ1.env.length (N ⟨ρ1.env.set i (some o), ρ1.w⟩)) ex := by
  simp only [bg', bO']
  congr
  funext o ρ1
  unfold u9' n1'
  by_cases h : i < ρ1.env.length
  . rw [if_pos h]; simp [vS, h]
  . rw [if_neg h]; simp [vS, h]
theorem pc' (g : MG) (a : ME) : vS (vj' g a ρ) ⟨N, rt, bk, ct, ex⟩ = vE (a ρ) (fun d ρ1 => vD (g d ρ1) N) ex := by
  simp only [vj', bO']
  congr
  funext o ρ1
  cases g o ρ1 <;> rfl
theorem pb' (f : D -> D -> Option D) (i : Nat) (a : ME) : vS (wQ' f i a ρ) ⟨N, rt, bk, ct, ex⟩ = vO ρ.env[i]? fun o => vD (asF o) fun d => vE (a ρ) (fun y ρ1 => vD (f d y) fun z => n1' i ρ1.env.length (N ⟨ρ1.env.set i (some (.fz z)), ρ1.w⟩)) ex := by
  unfold wQ'
  rcases ρ.env[i]? with _ | _ | o
  . rfl
  . rfl
  cases o with
  | fz d =>
    simp only [bO', vD, vO, asF]
    congr
    funext y ρ1
    cases f d y with
    | none => rfl
    | some z =>
      dsimp only
      unfold u9' n1'
      by_cases h : i < ρ1.env.length
      . rw [if_pos h]; simp [vS, h]
      . rw [if_neg h]; simp [vS, h]
  | _ => rfl
theorem jv' (x : String) : vS (m9' x ρ) ⟨N, rt, bk, ct, ex⟩ = ex ⟨x, []⟩ ρ := rfl
theorem pd' (i : Nat) (a : MO) : vS (iA' i a ρ) ⟨N, rt, bk, ct, ex⟩ = vL ρ.env[i]? fun _ => vE (a ρ) (fun o ρ1 => vL ρ1.env[i]? fun os => n1' os.length 16777216 (N ⟨ρ1.env.set i (some (.lst (os ++ [o]))), ρ1.w⟩)) ex := by
  unfold iA'
  rcases ρ.env[i]? with _ | _ | o
  . rfl
  . rfl
  cases o with
  | lst os0 =>
    simp only [bO', vL]
    congr
    funext o ρ1
    rcases ρ1.env[i]? with _ | _ | o2
    . rfl
    . rfl
    cases o2 with
    | lst os =>
      dsimp only
      unfold n1'
      by_cases h : os.length < 16777216
      . rw [if_pos h]; simp [vS, h]
      . rw [if_neg h]; simp [vS, h]
    | _ => rfl
  | _ => rfl
theorem mo' (o k a : ME) : vS (iz' o k a ρ) ⟨N, rt, bk, ct, ex⟩ = vE (a ρ) (fun d ρ1 => vE (o ρ1) (fun x ρ2 => vE (k ρ2) (fun y ρ3 => vD (sb' ρ3.w x y d) fun w => N ⟨ρ3.env, w⟩) ex) ex) ex := by
  simp only [iz', bO']
  congr
  funext d ρ1
  congr
  funext x ρ2
  congr
  funext y ρ3
  cases sb' ρ3.w x y d <;> rfl
def Cu' (w : W) : D -> Option (List O)
  | .obj n => (match w[n]? with
    | some (.lst os) => some os
    | _ => none)
  | _ => none
def CN' (w : W) (b : Ob) : D -> W
  | .obj n => w.set n b
  | _ => w
theorem pa' (cs : List String) (a : ME) (f : String) (v : MO) : vS (sFld cs a f v ρ) ⟨N, rt, bk, ct, ex⟩ = vE (v ρ) (fun o ρ1 => vE (a ρ1) (fun x ρ2 => vD (stF cs f o ρ2.w x) fun w => N ⟨ρ2.env, w⟩) ex) ex := by
  simp only [sFld, bO']
  congr
  funext d ρ1
  congr
  funext x ρ2
  cases stF cs f d ρ2.w x <;> rfl
theorem o9' (it : MI) (g : MG) (b : MS) : vS (e7' it g b ρ) ⟨N, rt, bk, ct, ex⟩ = vE (it ρ) (fun ds ρ1 => vS (nF' g b ds ρ1) ⟨N, rt, bk, ct, ex⟩) ex := by simp only [e7', bO']
theorem ju' (n : Nat) (t : MT) (b : MS) : vS (fK' n t b ρ) ⟨N, rt, bk, ct, ex⟩ = vS (d0' t b n ρ) ⟨N, rt, bk, ct, ex⟩ := rfl
theorem uX' {k n : Nat} (b : MS) (ds : List D) (w : W) {Q : O -> W -> Prop} {X : Exc -> W -> Prop} (h : ds.length = k) : vF (fnM k n b ds w) Q X = vS (b ⟨ds.map (fun d => some (.fz d)) ++ List.replicate (n - k) none, w⟩) ⟨fun ρ => Q (.fz .non) ρ.w, Q, fun _ => False, fun _ => False, fun x ρ => X x ρ.w⟩ := by
  unfold fnM
  rw [if_pos h]
  cases b ⟨ds.map (fun d => some (.fz d)) ++ List.replicate (n - k) none, w⟩ <;> rfl
theorem mr' {k n : Nat} {b : MS} {ds : List D} {w : W} {Q : O -> W -> Prop} {X : Exc -> W -> Prop} (q : vS (b ⟨ds.map (fun d => some (.fz d)) ++ List.replicate (n - k) none, w⟩) ⟨fun ρ => Q (.fz .non) ρ.w, Q, fun _ => False, fun _ => False, fun x ρ => X x ρ.w⟩) (h : ds.length = k) : vF (fnM k n b ds w) Q X := by
  rw [uX' _ _ _ h]; exact q
theorem o3' (o : O) (w : W) {Q : O -> W -> Prop} {X : Exc -> W -> Prop} : vF (.ok o w) Q X = Q o w := rfl
theorem mn' (x : Exc) (w : W) {Q : O -> W -> Prop} {X : Exc -> W -> Prop} : vF (.exc x w) Q X = X x w := rfl
theorem vF.mono {r : FRes} {Q Q' : O -> W -> Prop} {X : Exc -> W -> Prop} (h : vF r Q FX) (k : ∀ o w, Q o w -> Q' o w) : vF r Q' X := by
  cases r with
  | ok o w => exact k _ _ h
  | exc x w => exact h.elim
  | bad => exact h
theorem vF.monoX {r : FRes} {Q Q' : O -> W -> Prop} {X X' : Exc -> W -> Prop} (h : vF r Q X) (k : ∀ o w, Q o w -> Q' o w) (k2 : ∀ x w, X x w -> X' x w) : vF r Q' X' := by
  cases r with
  | ok o w => exact k _ _ h
  | exc x w => exact k2 _ _ h
  | bad => exact h
theorem vF.exi {r : FRes} {Q : O -> W -> Prop} (h : vF r Q FX) : ∃ o w, r = .ok o w /\ Q o w := by
  cases r with
  | ok o w => exact ⟨o, w, rfl, h⟩
  | exc x w => exact h.elim
  | bad => exact h.elim
theorem vF.of {r : FRes} {Q : O -> W -> Prop} {X : Exc -> W -> Prop} {o : O} {w : W} (e : r = .ok o w) (h : Q o w) : vF r Q X := by rw [e]; exact h
theorem vS.mono {o : Out} {D1 D2 : En} (h : vS o D1) (h1 : ∀ ρ, D1.nx ρ -> D2.nx ρ) (h2 : ∀ o w, D1.rt o w -> D2.rt o w) (h3 : ∀ ρ, D1.bk ρ -> D2.bk ρ) (h4 : ∀ ρ, D1.ct ρ -> D2.ct ρ) (h5 : ∀ x ρ, D1.ex x ρ -> D2.ex x ρ) : vS o D2 := by
  cases o with
  | nx ρ => exact h1 _ h
  | rt o w => exact h2 _ _ h
  | bk ρ => exact h3 _ h
  | ct ρ => exact h4 _ h
  | exc x ρ => exact h5 _ _ h
  | bad => exact h
theorem vE.mono {r : Res α} {Q Q' : α -> PSt -> Prop} {X X' : Exc -> PSt -> Prop} (h : vE r Q X) (k : ∀ a ρ, Q a ρ -> Q' a ρ) (k2 : ∀ x ρ, X x ρ -> X' x ρ) : vE r Q' X' := by
  cases r with
  | ok a ρ => exact k _ _ h
  | exc x ρ => exact k2 _ _ h
  | bad => exact h
theorem jt' {a b : MS} (J : PSt -> Prop) (h : vS (a ρ) ⟨J, rt, bk, ct, ex⟩) (k : ∀ ρ1, J ρ1 -> vS (b ρ1) ⟨N, rt, bk, ct, ex⟩) : vS (au' a b ρ) ⟨N, rt, bk, ct, ex⟩ := by
  rw [k3']
  exact h.mono k (fun _ _ z => z) (fun _ z => z) (fun _ z => z) (fun _ _ z => z)
theorem mj' {p : Prop} [Decidable p] {A B : Prop} (h1 : p -> A) (h2 : ¬ p -> B) : vI (decide p) A B := by
  by_cases h : p
  . rw [decide_eq_true h]; exact h1 h
  . rw [decide_eq_false h]; exact h2 h
theorem gu' {γ : Type} {g : MG} {b : MS} {f : γ -> D} {cs : List γ} (Inv : List γ -> PSt -> Prop) (h0 : Inv [] ρ)
    (step : ∀ pre c post ρ, cs = pre ++ c :: post -> Inv pre ρ -> vD (g (f c) ρ) fun ρ1 => vS (b ρ1) ⟨Inv (pre ++ [c]), rt, N, Inv (pre ++ [c]), ex⟩)
    (hend : ∀ ρ, Inv cs ρ -> N ρ) : vS (nF' g b (cs.map f) ρ) ⟨N, rt, bk, ct, ex⟩ := by
  have main : ∀ (post pre : List γ) (ρ : PSt), cs = pre ++ post -> Inv pre ρ -> vS (nF' g b (post.map f) ρ) ⟨N, rt, bk, ct, ex⟩ := by
    intro post
    induction post with
    | nil =>
      intro pre ρ e h
      rw [List.append_nil] at e
      exact hend ρ (e ▸ h)
    | cons d post ih =>
      intro pre ρ e h
      have s := step pre d post ρ e h
      rw [List.map_cons]
      unfold nF'
      cases eg : g (f d) ρ with
      | none => rw [eg] at s; exact s
      | some ρ1 =>
        rw [eg] at s
        have s : vS (b ρ1) _ := s
        dsimp only
        cases eb : b ρ1 with
        | nx ρ2 => rw [eb] at s; exact ih (pre ++ [d]) ρ2 (by rw [e, List.append_assoc]; rfl) s
        | ct ρ2 => rw [eb] at s; exact ih (pre ++ [d]) ρ2 (by rw [e, List.append_assoc]; rfl) s
        | bk ρ2 => rw [eb] at s; exact s
        | rt o w => rw [eb] at s; exact s
        | exc x ρ2 => rw [eb] at s; exact s
        | bad => rw [eb] at s; exact s
  exact main cs [] ρ rfl h0
theorem jx' {g : MG} {b : MS} {lo : Int} {n : Nat} (Inv : Nat -> PSt -> Prop) (h0 : Inv 0 ρ)
    (step : ∀ k ρ, k < n -> Inv k ρ -> vD (g (.int (lo + (k : Nat))) ρ) fun ρ1 => vS (b ρ1) ⟨Inv (k + 1), rt, N, Inv (k + 1), ex⟩)
    (hend : ∀ ρ, Inv n ρ -> N ρ) : vS (nF' g b (rgI lo n) ρ) ⟨N, rt, bk, ct, ex⟩ := by
  unfold rgI
  refine gu' (fun pre ρ => Inv pre.length ρ) h0 (fun pre c post ρ e h => ?_) (fun ρ h => hend ρ (by rwa [List.length_range] at h))
  have hl : pre.length < n := by
    have := congrArg List.length e
    rw [List.length_range, List.length_append, List.length_cons] at this
    omega
  have hc : c = pre.length := by
    have h1 : (List.range n)[pre.length]? = some c := by rw [e, List.getElem?_append_right (Nat.le_refl _), Nat.sub_self]; rfl
    rw [List.getElem?_range hl] at h1
    exact (Option.some.inj h1).symm
  subst hc
  have := step pre.length ρ hl h
  simp only [List.length_append, List.length_cons, List.length_nil, Nat.zero_add]
  exact this
theorem gt' {t : MT} {b : MS} {n : Nat} (Inv : Nat -> PSt -> Prop) (m : Nat) (hm : m < n) (h0 : Inv m ρ)
    (step : ∀ m ρ, Inv m ρ -> vE (t ρ) (fun k ρ1 => vI k (vS (b ρ1) ⟨fun ρ2 => ∃ m', m' < m /\ Inv m' ρ2, rt, N, fun ρ2 => ∃ m', m' < m /\ Inv m' ρ2, ex⟩) (N ρ1)) ex) :
    vS (d0' t b n ρ) ⟨N, rt, bk, ct, ex⟩ := by
  induction n generalizing m ρ with
  | zero => omega
  | succ n ih =>
    have s := step m ρ h0
    unfold d0'
    cases et : t ρ with
    | bad => rw [et] at s; exact s
    | exc x ρ1 => rw [et] at s; exact s
    | ok k ρ1 =>
      rw [et] at s
      have s : vI k _ _ := s
      show vS (if k = true then _ else _) _
      cases k with
      | false => exact s
      | true =>
        rw [if_pos rfl]
        have s : vS (b ρ1) _ := s
        cases eb : b ρ1 with
        | nx ρ2 =>
          rw [eb] at s
          obtain ⟨m', h1, h2⟩ := s
          exact ih m' (by omega) h2
        | ct ρ2 =>
          rw [eb] at s
          obtain ⟨m', h1, h2⟩ := s
          exact ih m' (by omega) h2
        | bk ρ2 => rw [eb] at s; exact s
        | rt o w => rw [eb] at s; exact s
        | exc x ρ2 => rw [eb] at s; exact s
        | bad => rw [eb] at s; exact s
theorem ms' {own : List Nat} {g : MG} {t : MT} {e : ME} {γ : Type} {f : γ -> D} {cs : List γ} {Q : List D -> PSt -> Prop} (hl : cs.length <= 16777216) (Inv : List γ -> List D -> PSt -> Prop) (h0 : Inv [] [] ρ)
    (step : ∀ pre c post acc ρ, cs = pre ++ c :: post -> Inv pre acc ρ -> vD (g (f c) ⟨aD' own ρ.env, ρ.w⟩) fun ρ1 => vE (t ρ1) (fun k ρ2 => vI k (vE (e ρ2) (fun y ρ3 => Inv (pre ++ [c]) (acc ++ [y]) ρ3) PX) (Inv (pre ++ [c]) acc ρ2)) PX)
    (hend : ∀ acc ρ, Inv cs acc ρ -> Q acc ρ) : vE (lcL own g t e (cs.map f) [] ρ) Q X := by
  have main : ∀ (post pre : List γ) (acc : List D) (ρ : PSt), cs = pre ++ post -> acc.length <= pre.length -> Inv pre acc ρ -> vE (lcL own g t e (post.map f) acc ρ) Q X := by
    intro post
    induction post with
    | nil =>
      intro pre acc ρ e' hacc h
      rw [List.append_nil] at e'
      exact hend acc ρ (e' ▸ h)
    | cons d post ih =>
      intro pre acc ρ e' hacc h
      have s := step pre d post acc ρ e' h
      have hpre : pre.length < 16777216 := by
        have := congrArg List.length e'
        rw [List.length_append, List.length_cons] at this
        omega
      rw [List.map_cons]
      unfold lcL
      cases eg : g (f d) ⟨aD' own ρ.env, ρ.w⟩ with
      | none => rw [eg] at s; exact s
      | some ρ1 =>
        rw [eg] at s
        have s : vE (t ρ1) _ _ := s
        dsimp only
        cases et : t ρ1 with
        | bad => rw [et] at s; exact s
        | exc x ρ2 => rw [et] at s; exact s.elim
        | ok k ρ2 =>
          rw [et] at s
          have s : vI k _ _ := s
          show vE (if k = true then _ else _) Q X
          have e2 : cs = (pre ++ [d]) ++ post := by rw [e', List.append_assoc]; rfl
          cases k with
          | false =>
            rw [if_neg Bool.false_ne_true]
            exact ih (pre ++ [d]) acc ρ2 e2 (by rw [List.length_append]; omega) s
          | true =>
            rw [if_pos rfl]
            have s : vE (e ρ2) _ _ := s
            cases ee : e ρ2 with
            | bad => rw [ee] at s; exact s
            | exc x ρ3 => rw [ee] at s; exact s.elim
            | ok y ρ3 =>
              rw [ee] at s
              show vE (if acc.length < di' then _ else _) Q X
              rw [if_pos (show acc.length < 16777216 by omega)]
              exact ih (pre ++ [d]) (acc ++ [y]) ρ3 e2 (by rw [List.length_append, List.length_append, List.length_cons, List.length_cons]; omega) s
  exact main cs [] [] ρ rfl (Nat.le_refl _) h0
end
end M
namespace M
def vC (c : Prop) (A : Prop) : Prop := c /\ A
def vOb (o : Option Ob) (P : List O -> Prop) : Prop := match o with
  | some (.lst os) => P os
  | _ => False
def zP' (o : Option Ob) (P : String -> List (String × O) -> Prop) : Prop := match o with
  | some (.ins C fs) => P C fs
  | _ => False
theorem o1' (C : String) (fs : List (String × O)) {P : String -> List (String × O) -> Prop} : zP' (some (.ins C fs)) P = P C fs := rfl
theorem uY' (cs : List String) (f : String) (o : O) (w : W) (n : Nat) {N : W -> Prop} : vD (stF cs f o w (.obj n)) N = zP' w[n]? (fun C fs => vC (C ∈ cs /\ fs.length < 1000) (N (w.set n (.ins C (qz' f o fs))))) := by
  show vD (match w[n]? with | some (.ins C fs) => if C ∈ cs /\ fs.length < 1000 then some (w.set n (.ins C (qz' f o fs))) else none | _ => none) N = _
  rcases w[n]? with _ | ob
  . rfl
  . cases ob with
    | ins C fs =>
      show vD (if _ then _ else _) N = vC _ _
      unfold vC
      by_cases h : C ∈ cs /\ fs.length < 1000
      . rw [if_pos h]; simp [vD, h]
      . rw [if_neg h]
        show False = (_ /\ _)
        rw [eq_iff_iff]
        exact ⟨False.elim, fun a => h a.1⟩
    | _ => rfl
theorem jo' (os : List O) {P : List O -> Prop} : vOb (some (.lst os)) P = P os := rfl
theorem o5' {c : Prop} (h : c) (A : Prop) : vC c A = A := by unfold vC; simp [h]
theorem js' (A : Prop) : vC True A = A := by unfold vC; simp
theorem aX' {α : Type} {c : Prop} [Decidable c] {x : α} {Q : α -> Prop} : vD (if c then some x else none) Q = vC c (Q x) := by
  unfold vC
  by_cases h : c
  . rw [if_pos h]; simp [vD, h]
  . rw [if_neg h]; simp [vD, h]
theorem cn' {α β : Type} {f : α -> β} {o : Option α} {Q : β -> Prop} : vD (o.map f) Q = vD o (fun a => Q (f a)) := by cases o <;> rfl
theorem o4' {α β : Type} {f : α -> Option β} {o : Option α} {Q : β -> Prop} : vD (o.bind f) Q = vD o (fun a => vD (f a) Q) := by cases o <;> rfl
section
variable {Q : D -> Prop} {Y : List D -> Prop}
theorem mV' (i j : Int) : vD (dj' (.int i) (.int j)) Q = Q (.int (i + j)) := rfl
theorem mT' (a b : Tx) : vD (dj' (.str a) (.str b)) Q = ja' (a.length + b.length) (Q (.str (a ++ b))) := aX'
theorem mU' (a b : List D) : vD (dj' (.lst a) (.lst b)) Q = ja' (a.length + b.length) (Q (.lst (a ++ b))) := aX'
theorem mS' (a b : List D) : vD (dj' (.tup a) (.tup b)) Q = ja' (a.length + b.length) (Q (.tup (a ++ b))) := aX'
theorem jI' (i j : Int) : vD (sH' (.int i) (.int j)) Q = Q (.int (i + j)) := rfl
theorem pf' (i j : Int) : vD (ua' (.int i) (.int j)) Q = Q (.int (i - j)) := rfl
theorem pq' (i j : Int) : vD (jX' (.int i) (.int j)) Q = vC (((-18446744073709551616 < i /\ i < 18446744073709551616) \/ (-18446744073709551616 < j /\ j < 18446744073709551616)) \/ ((-2582249878086908589655919172003011874329705792829223512830659356540647622016841194629645353280137831435903171972747493376 < i /\ i < 2582249878086908589655919172003011874329705792829223512830659356540647622016841194629645353280137831435903171972747493376) /\ (-2582249878086908589655919172003011874329705792829223512830659356540647622016841194629645353280137831435903171972747493376 < j /\ j < 2582249878086908589655919172003011874329705792829223512830659356540647622016841194629645353280137831435903171972747493376))) (Q (.int (i * j))) := by
  show vD (if (small64 i = true \/ small64 j = true) \/ _ then _ else _) Q = _
  rw [aX']
  congr 1
  simp [small64]
theorem mG' (a : Tx) (j : Int) : vD (jX' (.str a) (.int j)) Q = vC (j < 4611686018427387904 /\ -4611686018427387904 <= j /\ a.length * j.toNat <= 16777216) (Q (.str (List.replicate j.toNat a).flatten)) := aX'
theorem mH' (a : List D) (j : Int) : vD (jX' (.lst a) (.int j)) Q = vC (j < 4611686018427387904 /\ -4611686018427387904 <= j /\ a.length * j.toNat <= 16777216) (Q (.lst (List.replicate j.toNat a).flatten)) := aX'
theorem mR' (i j : Int) : vD (iE' (.int i) (.int j)) Q = vC (0 < j /\ j < 1606938044258990275541962092341162602522202993782792835301376) (Q (.int (i / j))) := aX'
theorem pr' (i j : Int) : vD (jY' (.int i) (.int j)) Q = vC (0 < j) (Q (.int (i % j))) := aX'
theorem pm' (i j : Int) : vD (x4' (.int i) (.int j)) Q = vC (0 <= j /\ j <= 1000 /\ -18446744073709551616 < i /\ i < 18446744073709551616) (Q (.int (i ^ j.toNat))) := by
  show vD (if 0 <= j /\ j <= 1000 /\ small64 i = true then _ else _) Q = _
  rw [aX']
  congr 1
  simp [small64]
theorem pn' (i : Int) : vD (Cm' (.int i)) Q = Q (.int (-i)) := rfl
theorem pL' (i j : Int) : vD (pEq (.int i) (.int j)) Q = Q (.bl (decide (i = j))) := by
  show Q (.bl (i == j)) = _
  congr 2
theorem pK' (i j : Tx) : vD (pEq (.str i) (.str j)) Q = Q (.bl (decide (i = j))) := by
  show Q (.bl (i == j)) = _
  congr 2
  rw [Bool.eq_iff_iff]
  simp
theorem pM' (i j : Bool) : vD (pEq (.bl i) (.bl j)) Q = Q (.bl (i == j)) := rfl
theorem tS' (x y : D) : vD (pEq x y) Q = vC (dat x = true /\ dat y = true /\ dep x <= 64 /\ dep y <= 64) (Q (.bl (eqb x y))) := by
  unfold pEq ob eqv
  rw [cn', aX']
theorem pp' (i j : Int) : vD (pNe (.int i) (.int j)) Q = Q (.bl (!decide (i = j))) := by
  show Q (.bl (!(i == j))) = _
  congr 3
theorem po' (i j : Tx) : vD (pNe (.str i) (.str j)) Q = Q (.bl (!decide (i = j))) := by
  show Q (.bl (!(i == j))) = _
  congr 3
  rw [Bool.eq_iff_iff]
  simp
theorem pD' (x : D) : vD (pIs x .non) Q = Q (.bl (eS' x)) := by cases x <;> rfl
theorem pE' (x y : Bool) : vD (pIs (.bl x) (.bl y)) Q = Q (.bl (x == y)) := rfl
theorem hR' (x : D) : vD (nk' x .non) Q = Q (.bl (!eS' x)) := by cases x <;> rfl
theorem hS' (x y : Bool) : vD (nk' (.bl x) (.bl y)) Q = Q (.bl (!(x == y))) := rfl
theorem tL' (i j : Int) : vD (pLt (.int i) (.int j)) Q = Q (.bl (decide (i < j))) := rfl
theorem tM' (i j : Int) : vD (pLe (.int i) (.int j)) Q = Q (.bl (decide (i <= j))) := rfl
theorem tN' (i j : Int) : vD (pGt (.int i) (.int j)) Q = Q (.bl (decide (j < i))) := rfl
theorem tP' (i j : Int) : vD (pGe (.int i) (.int j)) Q = Q (.bl (decide (j <= i))) := rfl
theorem pv' (i j : Tx) : vD (pLt (.str i) (.str j)) Q = Q (.bl (decide (i < j))) := rfl
theorem pw' (i j : Tx) : vD (pLe (.str i) (.str j)) Q = Q (.bl (!decide (j < i))) := rfl
theorem pH' (i j : Tx) : vD (pGt (.str i) (.str j)) Q = Q (.bl (decide (j < i))) := rfl
theorem pJ' (i j : Tx) : vD (pGe (.str i) (.str j)) Q = Q (.bl (!decide (i < j))) := rfl
theorem pG' (c : Nat) (s : Tx) : vD (pIn (.str [c]) (.str s)) Q = Q (.bl (decide (c ∈ s))) := rfl
theorem mF' (c : Nat) (s : Tx) : vD (h6' (.str [c]) (.str s)) Q = Q (.bl (!decide (c ∈ s))) := rfl
theorem m8' (ns : List Int) : (ns.map D.int).all sca = true := by induction ns <;> simp_all [sca]
theorem nT' (i : Int) (ns : List Int) : ((ns.map D.int).any fun d => eqb d (.int i)) = decide (i ∈ ns) := by
  induction ns with
  | nil => rfl
  | cons n ns ih =>
    simp only [List.map_cons, List.any_cons, ih]
    rw [Bool.eq_iff_iff]
    simp [eqb]
    exact ⟨fun h => h.elim (fun e => .inl e.symm) .inr, fun h => h.elim (fun e => .inl e.symm) .inr⟩
theorem mO' (i : Int) (ns : List Int) : vD (pIn (.int i) (.tup (ns.map .int))) Q = Q (.bl (decide (i ∈ ns))) := by
  show vD (if sca (.int i) = true /\ (ns.map D.int).all sca = true then some (D.bl ((ns.map D.int).any fun d => eqb d (.int i))) else none) Q = _
  rw [m8', nT']
  rfl
theorem mP' (i : Int) (ns : List Int) : vD (pIn (.int i) (.lst (ns.map .int))) Q = Q (.bl (decide (i ∈ ns))) := by
  show vD (if sca (.int i) = true /\ (ns.map D.int).all sca = true then some (D.bl ((ns.map D.int).any fun d => eqb d (.int i))) else none) Q = _
  rw [m8', nT']
  rfl
theorem mK' (s : Tx) : vD (ee' (.str s)) Q = Q (.int s.length) := rfl
theorem mL' (s : List D) : vD (ee' (.lst s)) Q = Q (.int s.length) := rfl
theorem mJ' (s : List D) : vD (ee' (.tup s)) Q = Q (.int s.length) := rfl
theorem pz' (s : Tx) (i : Int) : vD (pIx (.str s) (.int i)) Q = vD (ati s i) (fun c => Q (.str [c])) := cn'
theorem pB' (s : List D) (i : Int) : vD (pIx (.lst s) (.int i)) Q = vD (ati s i) Q := rfl
theorem py' (s : List D) (i : Int) : vD (pIx (.tup s) (.int i)) Q = vD (ati s i) Q := rfl
theorem yp' {n : Nat} {i : Int} (h : 0 <= i) (h2 : i < n) : ixn n i = some i.toNat := by unfold ixn; rw [if_pos h, if_pos h2]
theorem hd' {α : Type} {xs : List α} {i : Int} (h : 0 <= i) : ati xs i = xs[i.toNat]? := by
  unfold ati ixn
  rw [if_pos h]
  split
  . rfl
  . rename_i h2
    rw [List.getElem?_eq_none (by omega)]
    rfl
theorem ph' (s : Tx) (lo hi : Option Int) : vD (pSl (.str s) lo hi) Q = Q (.str (cut s lo hi)) := rfl
theorem pj' (s : List D) (lo hi : Option Int) : vD (pSl (.lst s) lo hi) Q = Q (.lst (cut s lo hi)) := rfl
theorem pg' (s : List D) (lo hi : Option Int) : vD (pSl (.tup s) lo hi) Q = Q (.tup (cut s lo hi)) := rfl
theorem pi' (s : List D) (lo hi : Option Int) : vD (pSl (.scr s) lo hi) Q = Q (.lst (cut s lo hi)) := rfl
theorem uw' {α : Type} {s : List α} {i : Int} (h : 0 <= i) : cut s none (some i) = s.take i.toNat := by
  unfold cut six
  simp only [if_neg (show ¬ i < 0 by omega), List.drop_zero, Nat.sub_zero]
  rcases Nat.le_total i.toNat s.length with h | h
  . rw [Nat.min_eq_left h]
  . rw [Nat.min_eq_right h, List.take_length, List.take_of_length_le h]
theorem to' {α : Type} {s : List α} {i : Int} (h : 0 <= i) : cut s (some i) none = s.drop i.toNat := by
  unfold cut six
  simp only [if_neg (show ¬ i < 0 by omega)]
  rcases Nat.le_total i.toNat s.length with h | h
  . rw [Nat.min_eq_left h, List.take_of_length_le (by rw [List.length_drop]; omega)]
  . rw [Nat.min_eq_right h, List.drop_length, List.drop_of_length_le h, List.take_nil]
theorem mD' (s : Tx) : vD (wS' (.str s)) Q = Q (.str s.reverse) := rfl
theorem mE' (s : List D) : vD (wS' (.lst s)) Q = Q (.lst s.reverse) := rfl
theorem r8' (l : List Tx) : dY' (l.map .str) = some l := by
  induction l with
  | nil => rfl
  | cons a l ih => simp [dY', ih]
theorem kf' : ∀ l : List Tx, cW' [] l = l.flatten
  | [] => rfl
  | [x] => by simp [cW']
  | x :: y :: r => by
    have := kf' (y :: r)
    simp only [cW', this, List.flatten_cons, List.nil_append]
theorem ir' (l : List Tx) : vD (ln' [] [.lst (l.map .str)]) Q = ja' (l.map List.length).sum (Q (.str l.flatten)) := by
  show vD ((dY' (l.map .str)).bind _) Q = _
  rw [r8']
  show vD (if _ then _ else _) Q = _
  rw [aX', kf']
  simp [vC, ja']
theorem pW' : ∀ l : Tx, ((l.map fun c => [c]).map List.length).sum = l.length
  | [] => rfl
  | c :: l => by simp only [List.map_cons, List.sum_cons, pW' l, List.length_cons, List.length_nil]; omega
theorem nG' : ∀ l : Tx, (l.map fun c => [c]).flatten = l
  | [] => rfl
  | c :: l => by simp only [List.map_cons, List.flatten_cons, nG' l]; rfl
theorem jG' (l : Tx) : vD (ln' [] [.lst (l.map chD)]) Q = ja' l.length (Q (.str l)) := by
  have h := ir' (Q := Q) (l.map fun c => [c])
  rw [List.map_map, pW', nG'] at h
  exact h
theorem mQ' (a b : Tx) : vD (yf' a [.str b]) Q = Q (.int (fnd (nE' a b))) := rfl
theorem jH' (a b : Tx) : vD (ka' a [.str b]) Q = vD (nE' a b) (fun i => Q (.int (i : Nat))) := cn'
theorem jy' (s : Tx) : vD (t9' (.str s)) Q = vC (s.all (fun c => decide (c < 128)) = true /\ s.length <= 5592405) (Q (.str (s.map up1))) := aX'
theorem pF' (i : Int) : vD (hC' (.int i)) Q = Q (.int i) := rfl
theorem mN' (b : Bool) : vD (hC' (.bl b)) Q = Q (.int (if b then 1 else 0)) := rfl
theorem pT' (i : Int) : vD (zV' (.int i)) Q = Q (.int (if i < 0 then -i else i)) := rfl
theorem pu' (i j : Int) : vD (qH' (.int i) (.int j)) Q = Q (.int (max i j)) := by
  show Q (.int (if j > i then j else i)) = _
  congr 2
  split <;> omega
theorem pt' (i j : Int) : vD (n7' (.int i) (.int j)) Q = Q (.int (min i j)) := by
  show Q (.int (if j < i then j else i)) = _
  congr 2
  split <;> omega
theorem my' (s : List D) : vD (bl' (.lst s)) Q = Q (.tup s) := rfl
theorem mx' (s : List D) : vD (bl' (.tup s)) Q = Q (.tup s) := rfl
theorem jD' (s : List D) : vD (eJ' (.lst s)) Q = Q (.lst s) := rfl
theorem jC' (s : List D) : vD (eJ' (.tup s)) Q = Q (.lst s) := rfl
theorem jz' (s : Tx) : vD (c2' (.str s)) Q = vC (s.length < 64) (Q (.lst ((cy' s).map chD))) := aX'
theorem pC' (t : String) (d : D) : vD (ci' t d) Q = vD (tyn d) (fun n => Q (.bl (n == t || (n == "bool" && t == "int")))) := cn'
theorem ls' (l : List Int) : bz' (l.map .int) = some l := by
  induction l with
  | nil => rfl
  | cons a l ih => simp [bz', ih]
theorem nR' (l : List Bool) : bools (l.map .bl) = some l := by
  induction l with
  | nil => rfl
  | cons a l ih => simp [bools, ih]
theorem pe' (l : List Int) : vD (Cl' (.lst (l.map .int))) Q = Q (.int l.sum) := by
  show vD ((bz' (l.map .int)).map _) Q = _
  rw [ls']
  rfl
theorem pS' (l : List Bool) : vD (Co' (.lst (l.map .bl))) Q = Q (.bl (l.all id)) := by
  show vD ((bools (l.map .bl)).map _) Q = _
  rw [nR']
  rfl
theorem pR' (l : List Bool) : vD (Cn' (.lst (l.map .bl))) Q = Q (.bl (l.any id)) := by
  show vD ((bools (l.map .bl)).map _) Q = _
  rw [nR']
  rfl
theorem mC' (s : List D) : vD (ea' (.lst s)) Y = Y s := rfl
theorem mA' (s : List D) : vD (ea' (.tup s)) Y = Y s := rfl
theorem mB' (s : Tx) : vD (ea' (.str s)) Y = Y (s.map chD) := rfl
theorem pl' (j : Int) : vD (fn' (.int j)) Y = vC (-4611686018427387904 <= j /\ j < 4611686018427387904) (Y (rgI 0 j.toNat)) := by
  show vD (if rV' j = true then _ else _) Y = _
  rw [aX']
  congr 1
  simp [rV']
theorem pk' (i j : Int) : vD (qG' (.int i) (.int j)) Y = vC ((-4611686018427387904 <= i /\ i < 4611686018427387904) /\ (-4611686018427387904 <= j /\ j < 4611686018427387904)) (Y (rgI i (j - i).toNat)) := by
  show vD (if rV' i = true /\ rV' j = true then _ else _) Y = _
  rw [aX']
  congr 1
  simp [rV']
theorem mu' (a b : Tx) : vD (rQ' (.str a) (.str b)) Y = Y (dk' (a.map chD) (b.map chD)) := rfl
theorem mw' (a b : List D) : vD (rQ' (.lst a) (.lst b)) Y = Y (dk' a b) := rfl
theorem mt' (a b : List D) : vD (rQ' (.tup a) (.tup b)) Y = Y (dk' a b) := rfl
theorem mv' (a : Tx) (b : List D) : vD (Cc' (.str a) (.tup b)) Y = Y (dk' (a.map chD) b) := rfl
theorem pN' (a : Tx) : vD (enB (.str a)) Y = Y (el' 0 (a.map chD)) := rfl
theorem pO' (a : List D) : vD (enB (.lst a)) Y = Y (el' 0 a) := rfl
theorem jB' (a : List D) : vD (zS' (.lst a)) Y = Y a.reverse := rfl
theorem jA' (a : List D) : vD (zS' (.tup a)) Y = Y a.reverse := rfl
theorem mI' (j : Int) : vD (eI' (.int j)) Q = vC (RgB 0 j = true) (Q (.lst (eU' 0 j))) := aX'
theorem zK' {a b : Int} (h1 : 0 <= a) (h2 : b <= 16777216) (h3 : a <= 16777216) (h4 : 0 <= b) : RgB a b = true := by
  unfold RgB
  simp only [Bool.and_eq_true, decide_eq_true_eq]
  omega
theorem tR' (i : Nat) (d : D) (env : List (Option O)) (w : W) {N : PSt -> Prop} : vD (gN i d ⟨env, w⟩) N = n1' i env.length (N ⟨env.set i (some (.fz d)), w⟩) := aX'
theorem tQ' (is : List Nat) (ds : List D) (ρ : PSt) {N : PSt -> Prop} : vD (gT is (.tup ds) ρ) N = vD (gNs is ds ρ) N := rfl
theorem pI' (ρ : PSt) {N : PSt -> Prop} : vD (gNs [] [] ρ) N = N ρ := rfl
theorem tO' (i : Nat) (is : List Nat) (d : D) (ds : List D) (ρ : PSt) {N : PSt -> Prop} : vD (gNs (i :: is) (d :: ds) ρ) N = vD (gN i d ρ) (fun ρ1 => vD (gNs is ds ρ1) N) := o4'
theorem px' (w : W) (n : Nat) (k : D) : vD (ixW w (.obj n) k) Q = vOb w[n]? (fun os => vD (ixO (.lst os) k) Q) := by
  show vD (match w[n]? with | some (.lst os) => ixO (.lst os) k | _ => none) Q = _
  rcases w[n]? with _ | ob
  . rfl
  . cases ob <;> rfl
theorem pA' (os : List O) (i : Int) : vD (ixO (.lst os) (.int i)) Q = vD (ati os i) (fun o => vD (asF o) Q) := by
  show vD (match ati os i with | some (.fz d) => some d | _ => none) Q = _
  rcases ati os i with _ | o
  . rfl
  . cases o <;> rfl
theorem pQ' (d : D) : vD (asF (.fz d)) Q = Q d := rfl
theorem pP' (d : List D) {Q : List D -> Prop} : vD (asL (.lst d)) Q = Q d := rfl
theorem mM' (d k : D) : vD (ixO (.fz d) k) Q = vD (pIx d k) Q := rfl
theorem mz' (w : W) (n : Nat) (z : Int) (d : D) {N : W -> Prop} : vD (sb' w (.obj n) (.int z) d) N = vOb w[n]? (fun os => vD (ixn os.length z) (fun j => N (w.set n (.lst (os.set j (.fz d)))))) := by
  show vD (match w[n]? with | some (.lst os) => (ixn os.length z).map fun j => w.set n (.lst (os.set j (.fz d))) | _ => none) N = _
  rcases w[n]? with _ | ob
  . rfl
  . cases ob with
    | lst os => exact cn'
    | _ => rfl
theorem jE' (os : List O) : vD (rT' (.lst os)) Q = Q (.int os.length) := rfl
theorem jF' (d : D) : vD (rT' (.fz d)) Q = vD (ee' d) Q := rfl
end
structure U {α : Sort _} (a : α) : Type where
@[irreducible] def wE {α : Type} (r : Res α) (Q : α -> PSt -> Prop) (X : Exc -> PSt -> Prop) (_ : U (Q, X) := U.mk) : Prop := vE r Q X
@[irreducible] def wS (o : Out) (D : En) (_ : U D := U.mk) : Prop := vS o D
@[irreducible] def wF (r : FRes) (Q : O -> W -> Prop) (X : Exc -> W -> Prop) (_ : U (Q, X) := U.mk) : Prop := vF r Q X
@[irreducible] def wD {α : Type} (o : Option α) (Q : α -> Prop) (_ : U Q := U.mk) : Prop := vD o Q
@[irreducible] def wI (k : Bool) (A B : Prop) (_ : U (A, B) := U.mk) : Prop := vI k A B
@[irreducible] def wB (d : D) (P : Bool -> Prop) (_ : U P := U.mk) : Prop := vB d P
@[irreducible] def wT (d : D) (P : Tx -> Prop) (_ : U P := U.mk) : Prop := vT d P
@[irreducible] def wN (d : D) (P : Int -> Prop) (_ : U P := U.mk) : Prop := vN d P
@[irreducible] def wV (o : Option (Option O)) (i : Nat) (ρ : PSt) (Q : D -> PSt -> Prop) (_ : U Q := U.mk) : Prop := vV o i ρ Q
@[irreducible] def wG (o : Option (Option O)) (i : Nat) (ρ : PSt) (Q : O -> PSt -> Prop) (_ : U Q := U.mk) : Prop := vG o i ρ Q
@[irreducible] def wO (o : Option (Option O)) (Q : O -> Prop) (_ : U Q := U.mk) : Prop := vO o Q
@[irreducible] def wL (o : Option (Option O)) (Q : List O -> Prop) (_ : U Q := U.mk) : Prop := vL o Q
@[irreducible] def oF' (n : Nat) (A : Prop) (_ : U A := U.mk) : Prop := ja' n A
@[irreducible] def tw' (i n : Nat) (A : Prop) (_ : U A := U.mk) : Prop := n1' i n A
@[irreducible] def wC (c : Prop) (A : Prop) (_ : U A := U.mk) : Prop := vC c A
@[irreducible] def zO' (o : Option Ob) (P : String -> List (String × O) -> Prop) (_ : U P := U.mk) : Prop := zP' o P
@[irreducible] def wOb (o : Option Ob) (P : List O -> Prop) (_ : U P := U.mk) : Prop := vOb o P
theorem dn' {α : Type} (r : Res α) (Q : α -> PSt -> Prop) (X : Exc -> PSt -> Prop) (u : U (Q, X)) : wE r Q X u = vE r Q X := by unfold wE; rfl
theorem fc' (o : Out) (D : En) (u : U D) : wS o D u = vS o D := by unfold wS; rfl
theorem ff' (r : FRes) (Q : O -> W -> Prop) (X : Exc -> W -> Prop) (u : U (Q, X)) : wF r Q X u = vF r Q X := by unfold wF; rfl
theorem ay' {α : Type} (o : Option α) (Q : α -> Prop) (u : U Q) : wD o Q u = vD o Q := by unfold wD; rfl
theorem gq' (k : Bool) (A B : Prop) (u : U (A, B)) : wI k A B u = vI k A B := by unfold wI; rfl
theorem gr' (d : D) (P : Bool -> Prop) (u : U P) : wB d P u = vB d P := by unfold wB; rfl
theorem gm' (d : D) (P : Tx -> Prop) (u : U P) : wT d P u = vT d P := by unfold wT; rfl
theorem go' (d : D) (P : Int -> Prop) (u : U P) : wN d P u = vN d P := by unfold wN; rfl
theorem fa' (o : Option (Option O)) (i : Nat) (ρ : PSt) (Q : D -> PSt -> Prop) (u : U Q) : wV o i ρ Q u = vV o i ρ Q := by unfold wV; rfl
theorem fd' (o : Option (Option O)) (i : Nat) (ρ : PSt) (Q : O -> PSt -> Prop) (u : U Q) : wG o i ρ Q u = vG o i ρ Q := by unfold wG; rfl
theorem gn' (o : Option (Option O)) (Q : O -> Prop) (u : U Q) : wO o Q u = vO o Q := by unfold wO; rfl
theorem gp' (o : Option (Option O)) (Q : List O -> Prop) (u : U Q) : wL o Q u = vL o Q := by unfold wL; rfl
theorem cw' (n : Nat) (A : Prop) (u : U A) : oF' n A u = ja' n A := by unfold oF'; rfl
theorem cg' (i n : Nat) (A : Prop) (u : U A) : tw' i n A u = n1' i n A := by unfold tw'; rfl
theorem er' (c : Prop) (A : Prop) (u : U A) : wC c A u = vC c A := by unfold wC; rfl
theorem cS' (o : Option Ob) (P : List O -> Prop) (u : U P) : wOb o P u = vOb o P := by unfold wOb; rfl
theorem b8' (o : Option Ob) (P : String -> List (String × O) -> Prop) (u : U P) : zO' o P u = zP' o P := by unfold zO'; rfl
local macro_rules | `(tactic| walk_at "z") => `(tactic| simp only [dn', fc', ff', ay', gq', gr', gm', go', fa', fd', gn', gp', cw', cg', er', cS', b8'] at *)
section
variable {α β : Type} {Q : α -> PSt -> Prop} {X : Exc -> PSt -> Prop} {ρ : PSt} {P : D -> PSt -> Prop} {D0 : En}
theorem a7' (z : α) {Q : α -> Prop} : wD (some z) Q = Q z := by walk_at "z"; first | exact jr' .. | (apply jr' <;> assumption)
theorem Aw' (k : Bool) {Q : Bool -> Prop} : wB (.bl k) Q = Q k := by walk_at "z"; first | exact o6' .. | (apply o6' <;> assumption)
theorem wN' (A B : Prop) : wI true A B = A := by walk_at "z"; first | exact tI' .. | (apply tI' <;> assumption)
theorem xi' (A B : Prop) : wI false A B = B := by walk_at "z"; first | exact tJ' .. | (apply tJ' <;> assumption)
theorem xh' (k : Bool) (A B : Prop) : wI (!k) A B = wI k B A := by walk_at "z"; first | exact mi' .. | (apply mi' <;> assumption)
theorem x_C (d : D) : wE (eC d ρ) P X = P d ρ := by walk_at "z"; first | exact xp' .. | (apply xp' <;> assumption)
theorem x_V (i : Nat) (env : List (Option O)) (w : W) : wE (eV i ⟨env, w⟩) P X = wV env[i]? i ⟨env, w⟩ P := by walk_at "z"; first | exact xn' .. | (apply xn' <;> assumption)
theorem Ao' (d : D) (i : Nat) (ρ : PSt) : wV (some (some (.fz d))) i ρ P = P d ρ := by walk_at "z"; first | exact o0' .. | (apply o0' <;> assumption)
theorem xb' (os : List O) (i : Nat) (env : List (Option O)) (w : W) : wV (some (some (.lst os))) i ⟨env, w⟩ P = P (.lst (frzs os)) ⟨env.set i (some (.fz (.lst (frzs os)))), w⟩ := by walk_at "z"; first | exact md' .. | (apply md' <;> assumption)
theorem xa' (os : List O) (i : Nat) (env : List (Option O)) (w : W) : wV (some (some (.tup os))) i ⟨env, w⟩ P = P (.tup (frzs os)) ⟨env.set i (some (.fz (.tup (frzs os)))), w⟩ := by walk_at "z"; first | exact mc' .. | (apply mc' <;> assumption)
theorem xc' (ks : List D) (os : List O) (i : Nat) (env : List (Option O)) (w : W) : wV (some (some (.dct ks os))) i ⟨env, w⟩ P = P (.dct ks (frzs os)) ⟨env.set i (some (.fz (.dct ks (frzs os)))), w⟩ := by walk_at "z"; first | exact me' .. | (apply me' <;> assumption)
theorem As' (d : D) (i : Nat) (ρ : PSt) {P : O -> PSt -> Prop} : wG (some (some (.fz d))) i ρ P = P (.fz d) ρ := by walk_at "z"; first | exact o2' .. | (apply o2' <;> assumption)
theorem xk' (os : List O) (i : Nat) (env : List (Option O)) (w : W) {P : O -> PSt -> Prop} : wG (some (some (.lst os))) i ⟨env, w⟩ P = P (.lst os) ⟨env.set i none, w⟩ := by walk_at "z"; first | exact ml' .. | (apply ml' <;> assumption)
theorem xj' (os : List O) (i : Nat) (env : List (Option O)) (w : W) {P : O -> PSt -> Prop} : wG (some (some (.tup os))) i ⟨env, w⟩ P = P (.tup os) ⟨env.set i none, w⟩ := by walk_at "z"; first | exact mk' .. | (apply mk' <;> assumption)
theorem xl' (ks : List D) (os : List O) (i : Nat) (env : List (Option O)) (w : W) {P : O -> PSt -> Prop} : wG (some (some (.dct ks os))) i ⟨env, w⟩ P = P (.dct ks os) ⟨env.set i none, w⟩ := by walk_at "z"; first | exact mm' .. | (apply mm' <;> assumption)
theorem uM' (o : O) {P : O -> Prop} : wO (some (some o)) P = P o := by walk_at "z"; first | exact jp' .. | (apply jp' <;> assumption)
theorem xf' (os : List O) {P : List O -> Prop} : wL (some (some (.lst os))) P = P os := by walk_at "z"; first | exact mh' .. | (apply mh' <;> assumption)
theorem CJ' (f : D -> D -> Option D) (a b : ME) : wE (eOp f a b ρ) P X = wE (a ρ) (fun x ρ1 => wE (b ρ1) (fun y ρ2 => wD (f x y) (fun z => P z ρ2)) X) X := by walk_at "z"; first | exact tE' .. | (apply tE' <;> assumption)
theorem CG' (f : D -> Option D) (a : ME) : wE (eUn f a ρ) P X = wE (a ρ) (fun x ρ1 => wD (f x) (fun z => P z ρ1)) X := by walk_at "z"; first | exact tB' .. | (apply tB' <;> assumption)
theorem Am' (a b : ME) : wE (ur' a b ρ) P X = wE (a ρ) (fun x ρ1 => wB x fun k => wI k (wE (b ρ1) P X) (P (.bl false) ρ1)) X := by walk_at "z"; first | exact oZ' .. | (apply oZ' <;> assumption)
theorem Ac' (a : ME) : wE (yO' a ρ) P X = wE (a ρ) (fun x ρ1 => wB x fun k => P (.bl (!k)) ρ1) X := by walk_at "z"; first | exact oS' .. | (apply oS' <;> assumption)
theorem uH' (f g : D -> D -> Option D) (a b c : ME) : wE (g0' f g a b c ρ) P X = wE (a ρ) (fun x ρ1 => wE (b ρ1) (fun y ρ2 => wD (f x y) fun r => wB r fun k => wI k (wE (c ρ2) (fun z ρ3 => wD (g y z) fun v => P v ρ3) X) (P (.bl false) ρ2)) X) X := by walk_at "z"; first | exact jm' .. | (apply jm' <;> assumption)
theorem Ad' {P : List D -> PSt -> Prop} : wE (bk' ρ) P X = P [] ρ := by walk_at "z"; first | exact oT' .. | (apply oT' <;> assumption)
theorem w7' (a : ME) (r : MA) {P : List D -> PSt -> Prop} : wE (ad' a r ρ) P X = wE (a ρ) (fun x ρ1 => wE (r ρ1) (fun xs ρ2 => P (x :: xs) ρ2) X) X := by walk_at "z"; first | exact ma' .. | (apply ma' <;> assumption)
theorem uN' {n : Nat} (h : n <= 16777216) (A : Prop) : oF' n A = A := by walk_at "z"; first | exact jq' .. | (apply jq' <;> assumption)
theorem Aa' (as : MA) : wE (rq' as ρ) P X = wE (as ρ) (fun xs ρ1 => oF' xs.length (P (.tup xs) ρ1)) X := by walk_at "z"; first | exact oQ' .. | (apply oQ' <;> assumption)
theorem Ae' (as : MA) : wE (jc' as ρ) P X = wE (as ρ) (fun xs ρ1 => oF' xs.length (P (.lst xs) ρ1)) X := by walk_at "z"; first | exact oU' .. | (apply oU' <;> assumption)
theorem CL' (f : Tx -> List D -> Option D) (a : ME) (as : MA) : wE (eMt f a as ρ) P X = wE (a ρ) (fun x ρ1 => wT x fun s => wE (as ρ1) (fun ds ρ2 => wD (f s ds) fun z => P z ρ2) X) X := by walk_at "z"; first | exact tG' .. | (apply tG' <;> assumption)
theorem xd' (s : Tx) {P : Tx -> Prop} : wT (.str s) P = P s := by walk_at "z"; first | exact mf' .. | (apply mf' <;> assumption)
theorem xe' (s : Int) {P : Int -> Prop} : wN (.int s) P = P s := by walk_at "z"; first | exact mg' .. | (apply mg' <;> assumption)
theorem CK' {P : Option Int -> PSt -> Prop} : wE (pNo ρ) P X = P none ρ := by walk_at "z"; first | exact tF' .. | (apply tF' <;> assumption)
theorem CH' (a : ME) {P : Option Int -> PSt -> Prop} : wE (pSo a ρ) P X = wE (a ρ) (fun x ρ1 => wN x fun i => P (some i) ρ1) X := by walk_at "z"; first | exact tC' .. | (apply tC' <;> assumption)
theorem CI' (a : ME) (lo hi : MP) : wE (eSl a lo hi ρ) P X = wE (a ρ) (fun x ρ1 => wE (lo ρ1) (fun l ρ2 => wE (hi ρ2) (fun h ρ3 => wD (pSl x l h) fun z => P z ρ3) X) X) X := by walk_at "z"; first | exact tD' .. | (apply tD' <;> assumption)
theorem x_O (a : MO) : wE (eO a ρ) P X = wE (a ρ) (fun o ρ1 => P (frz o) ρ1) X := by walk_at "z"; first | exact xo' .. | (apply xo' <;> assumption)
variable {R : O -> PSt -> Prop}
theorem CF' (a : ME) : wE (oE a ρ) R X = wE (a ρ) (fun d ρ1 => R (.fz d) ρ1) X := by walk_at "z"; first | exact tA' .. | (apply tA' <;> assumption)
theorem CE' (i : Nat) (env : List (Option O)) (w : W) : wE (oV i ⟨env, w⟩) R X = wG env[i]? i ⟨env, w⟩ R := by walk_at "z"; first | exact tz' .. | (apply tz' <;> assumption)
theorem w8' (f : MF) (as : MA) : wE (aQ' f as ρ) R X = wE (as ρ) (fun ds ρ1 => wF (f ds ρ1.w) (fun o w => R o ⟨ρ1.env, w⟩) fun x w => X x ⟨ρ1.env, w⟩) X := by walk_at "z"; first | exact mb' .. | (apply mb' <;> assumption)
theorem w0' (a : ME) : wE (hz' a ρ) R X = wE (a ρ) (fun d ρ1 => wD (asL d) fun ds => R (.lst (ds.map .fz)) ρ1) X := by walk_at "z"; first | exact l4' .. | (apply l4' <;> assumption)
theorem uC' : wE (gP' ρ) R X = R (.dct [] []) ρ := by walk_at "z"; first | exact jj' .. | (apply jj' <;> assumption)
theorem uF' (i : Nat) (a : ME) (env : List (Option O)) (w : W) : wE (kq' i a ⟨env, w⟩) P X = wL env[i]? fun _ => wE (a ⟨env, w⟩) (fun d ρ1 => wN d fun z => wL ρ1.env[i]? fun os => oF' os.length (wD (ixn os.length z) fun j => wD os[j]? fun o => wD (asF o) fun y => P y ⟨ρ1.env.set i (some (.lst (os.eraseIdx j))), ρ1.w⟩)) X := by walk_at "z"; first | exact jl' .. | (apply jl' <;> assumption)
theorem Ag' (i : Nat) (b : ME) (env : List (Option O)) (w : W) : wE (rr' i b ⟨env, w⟩) P X = wO env[i]? fun _ => wE (b ⟨env, w⟩) (fun k ρ1 => wO ρ1.env[i]? fun o => wD (ixO o k) fun z => P z ρ1) X := by walk_at "z"; first | exact oW' .. | (apply oW' <;> assumption)
theorem r1' (i : Nat) (a : ME) : wE (fz' i a ρ) P X = wE (a ρ) (fun x ρ1 => wO ρ1.env[i]? fun o => wD (qN' (inO x o)) fun z => P z ρ1) X := by walk_at "z"; first | exact hQ' .. | (apply hQ' <;> assumption)
theorem w6' (i : Nat) : wE (cD' i ρ) P X = wO ρ.env[i]? fun o => wD (rT' o) fun z => P z ρ := by walk_at "z"; first | exact l9' .. | (apply l9' <;> assumption)
theorem Af' (a b : ME) : wE (jd' a b ρ) P X = wE (a ρ) (fun x ρ1 => wE (b ρ1) (fun y ρ2 => wD (ixW ρ2.w x y) fun z => P z ρ2) X) X := by walk_at "z"; first | exact oV' .. | (apply oV' <;> assumption)
theorem Ab' (as : MA) : wE (ya' as ρ) R X = wE (as ρ) (fun xs ρ1 => oF' xs.length (R (.fz (.obj ρ1.w.length)) ⟨ρ1.env, ρ1.w ++ [.lst (xs.map .fz)]⟩)) X := by walk_at "z"; first | exact oR' .. | (apply oR' <;> assumption)
theorem Ai' (cs : List String) (a : ME) (f : String) : wE (en' cs a f ρ) P X = wE (a ρ) (fun x ρ1 => wD (gZ' cs f ρ1.w x) fun z => P z ρ1) X := by walk_at "z"; first | exact oX' .. | (apply oX' <;> assumption)
theorem w5' (C : String) (init : MF) (as : MA) : wE (j4' C init as ρ) R X = wE (as ρ) (fun ds ρ1 => wF (init (.obj ρ1.w.length :: ds) (ρ1.w ++ [.ins C []])) (fun o w => o = .fz .non /\ R (.fz (.obj ρ1.w.length)) ⟨ρ1.env, w⟩) fun x w => X x ⟨ρ1.env, w⟩) X := by walk_at "z"; first | exact l8' .. | (apply l8' <;> assumption)
theorem w4' (C : List String) (m : String) (f : MF) (a : ME) (as : MA) : wE (fq' C m f a as ρ) R X = wE (a ρ) (fun x ρ1 => iU' C m ρ1.w x = true /\ wE (as ρ1) (fun ds ρ2 => wF (f (x :: ds) ρ2.w) (fun o w => R o ⟨ρ2.env, w⟩) fun x w => X x ⟨ρ2.env, w⟩) X) X := by walk_at "z"; first | exact l7' .. | (apply l7' <;> assumption)
variable {B : Bool -> PSt -> Prop}
theorem CD' (a : ME) : wE (tE a ρ) B X = wE (a ρ) (fun d ρ1 => wB d fun k => B k ρ1) X := by walk_at "z"; first | exact ty' .. | (apply ty' <;> assumption)
theorem wY' (a : MT) : wE (hy' a ρ) B X = wE (a ρ) (fun k ρ1 => B (!k) ρ1) X := by walk_at "z"; first | exact l2' .. | (apply l2' <;> assumption)
theorem wZ' (a b : MT) : wE (wO' a b ρ) B X = wE (a ρ) (fun k ρ1 => wI k (wE (b ρ1) B X) (B false ρ1)) X := by walk_at "z"; first | exact l3' .. | (apply l3' <;> assumption)
theorem z7' (a b : MT) : wE (tOr a b ρ) B X = wE (a ρ) (fun k ρ1 => wI k (B true ρ1) (wE (b ρ1) B X)) X := by walk_at "z"; first | exact oM' .. | (apply oM' <;> assumption)
theorem CC' : wE (tT ρ) B X = B true ρ := by walk_at "z"; first | exact tx' .. | (apply tx' <;> assumption)
variable {Y : List D -> PSt -> Prop}
theorem w3' (a : ME) : wE (gi' a ρ) Y X = wE (a ρ) (fun d ρ1 => wD (ea' d) fun z => Y z ρ1) X := by walk_at "z"; first | exact l6' .. | (apply l6' <;> assumption)
theorem oJ' (a : ME) : wE (bi' a ρ) Y X = wE (a ρ) (fun d ρ1 => wD (fn' d) fun z => Y z ρ1) X := by walk_at "z"; first | exact gs' .. | (apply gs' <;> assumption)
theorem w2' (a b : ME) : wE (yC' a b ρ) Y X = wE (a ρ) (fun d ρ1 => wE (b ρ1) (fun e ρ2 => wD (rQ' d e) fun z => Y z ρ2) X) X := by walk_at "z"; first | exact l5' .. | (apply l5' <;> assumption)
theorem uD' (a : ME) : wE (rj' a ρ) Y X = wE (a ρ) (fun d ρ1 => wD (enB d) fun z => Y z ρ1) X := by walk_at "z"; first | exact jk' .. | (apply jk' <;> assumption)
theorem CM' (own : List Nat) (it : MI) (g : MG) (t : MT) (e : ME) : wE (eLc own it g t e ρ) P X = wE (it ρ) (fun xs ρ1 => wE (lcL own g t e xs [] ρ1) (fun ys ρ2 => P (.lst ys) ⟨back ρ1.env own (aD' own ρ2.env), ρ2.w⟩) X) X := by walk_at "z"; first | exact tH' .. | (apply tH' <;> assumption)
theorem z8' (own : List Nat) (it : MI) (g : MG) (t : MT) (e : ME) : wE (oLc own it g t e ρ) R X = wE (it ρ) (fun xs ρ1 => wE (lcL own g t e xs [] ρ1) (fun ys ρ2 => R (.lst (ys.map .fz)) ⟨back ρ1.env own (aD' own ρ2.env), ρ2.w⟩) X) X := by walk_at "z"; first | exact oN' .. | (apply oN' <;> assumption)
variable {N : PSt -> Prop} {rt : O -> W -> Prop} {bk ct : PSt -> Prop} {ex : Exc -> PSt -> Prop}
theorem xE' : wS (br' ρ) ⟨N, rt, bk, ct, ex⟩ = N ρ := by walk_at "z"; first | exact mp' .. | (apply mp' <;> assumption)
theorem vh' : wS (nb' ρ) ⟨N, rt, bk, ct, ex⟩ = bk ρ := by walk_at "z"; first | exact jw' .. | (apply jw' <;> assumption)
theorem xF' (a : ME) : wS (jR' a ρ) ⟨N, rt, bk, ct, ex⟩ = wE (a ρ) (fun _ ρ1 => N ρ1) ex := by walk_at "z"; first | exact mq' .. | (apply mq' <;> assumption)
theorem AE' (a : MO) : wS (cC' a ρ) ⟨N, rt, bk, ct, ex⟩ = wE (a ρ) (fun o ρ1 => rt o ρ1.w) ex := by walk_at "z"; first | exact o8' .. | (apply o8' <;> assumption)
theorem AD' (a b : MS) : wS (au' a b ρ) ⟨N, rt, bk, ct, ex⟩ = wS (a ρ) ⟨fun ρ1 => wS (b ρ1) ⟨N, rt, bk, ct, ex⟩, rt, bk, ct, ex⟩ := by walk_at "z"; first | exact k3' .. | (apply k3' <;> assumption)
theorem CO' (t : MT) (a b : MS) : wS (sIf t a b ρ) ⟨N, rt, bk, ct, ex⟩ = wE (t ρ) (fun k ρ1 => wI k (wS (a ρ1) ⟨N, rt, bk, ct, ex⟩) (wS (b ρ1) ⟨N, rt, bk, ct, ex⟩)) ex := by walk_at "z"; first | exact tK' .. | (apply tK' <;> assumption)
theorem uK' {i n : Nat} (h : i < n) (A : Prop) : tw' i n A = A := by walk_at "z"; first | exact jn' .. | (apply jn' <;> assumption)
theorem AC' (i : Nat) (a : MO) : wS (bg' i a ρ) ⟨N, rt, bk, ct, ex⟩ = wE (a ρ) (fun o ρ1 => tw' i ρ1.env.length (N ⟨ρ1.env.set i (some o), ρ1.w⟩)) ex := by walk_at "z"; first | exact o7' .. | (apply o7' <;> assumption)
theorem AJ' (g : MG) (a : ME) : wS (vj' g a ρ) ⟨N, rt, bk, ct, ex⟩ = wE (a ρ) (fun d ρ1 => wD (g d ρ1) N) ex := by walk_at "z"; first | exact pc' .. | (apply pc' <;> assumption)
theorem AI' (f : D -> D -> Option D) (i : Nat) (a : ME) : wS (wQ' f i a ρ) ⟨N, rt, bk, ct, ex⟩ = wO ρ.env[i]? fun o => wD (asF o) fun d => wE (a ρ) (fun y ρ1 => wD (f d y) fun z => tw' i ρ1.env.length (N ⟨ρ1.env.set i (some (.fz z)), ρ1.w⟩)) ex := by walk_at "z"; first | exact pb' .. | (apply pb' <;> assumption)
theorem vg' (x : String) : wS (m9' x ρ) ⟨N, rt, bk, ct, ex⟩ = ex ⟨x, []⟩ ρ := by walk_at "z"; first | exact jv' .. | (apply jv' <;> assumption)
theorem AK' (i : Nat) (a : MO) : wS (iA' i a ρ) ⟨N, rt, bk, ct, ex⟩ = wL ρ.env[i]? fun _ => wE (a ρ) (fun o ρ1 => wL ρ1.env[i]? fun os => tw' os.length 16777216 (N ⟨ρ1.env.set i (some (.lst (os ++ [o]))), ρ1.w⟩)) ex := by walk_at "z"; first | exact pd' .. | (apply pd' <;> assumption)
theorem xD' (o k a : ME) : wS (iz' o k a ρ) ⟨N, rt, bk, ct, ex⟩ = wE (a ρ) (fun d ρ1 => wE (o ρ1) (fun x ρ2 => wE (k ρ2) (fun y ρ3 => wD (sb' ρ3.w x y d) fun w => N ⟨ρ3.env, w⟩) ex) ex) ex := by walk_at "z"; first | exact mo' .. | (apply mo' <;> assumption)
theorem si' (w : W) (b : Ob) (n : Nat) : CN' w b (.obj n) = w.set n b := rfl
theorem AG' (cs : List String) (a : ME) (f : String) (v : MO) : wS (sFld cs a f v ρ) ⟨N, rt, bk, ct, ex⟩ = wE (v ρ) (fun o ρ1 => wE (a ρ1) (fun x ρ2 => wD (stF cs f o ρ2.w x) fun w => N ⟨ρ2.env, w⟩) ex) ex := by walk_at "z"; first | exact pa' .. | (apply pa' <;> assumption)
theorem AF' (it : MI) (g : MG) (b : MS) : wS (e7' it g b ρ) ⟨N, rt, bk, ct, ex⟩ = wE (it ρ) (fun ds ρ1 => wS (nF' g b ds ρ1) ⟨N, rt, bk, ct, ex⟩) ex := by walk_at "z"; first | exact o9' .. | (apply o9' <;> assumption)
theorem vf' (n : Nat) (t : MT) (b : MS) : wS (fK' n t b ρ) ⟨N, rt, bk, ct, ex⟩ = wS (d0' t b n ρ) ⟨N, rt, bk, ct, ex⟩ := by walk_at "z"; first | exact ju' .. | (apply ju' <;> assumption)
theorem x9' {k n : Nat} {b : MS} {ds : List D} {w : W} {Q : O -> W -> Prop} {X : Exc -> W -> Prop} (q : wS (b ⟨ds.map (fun d => some (.fz d)) ++ List.replicate (n - k) none, w⟩) ⟨fun ρ => Q (.fz .non) ρ.w, Q, fun _ => False, fun _ => False, fun x ρ => X x ρ.w⟩) (h : ds.length = k) : wF (fnM k n b ds w) Q X := by walk_at "z"; first | exact mr' .. | (apply mr' <;> assumption)
theorem Av' (o : O) (w : W) {Q : O -> W -> Prop} {X : Exc -> W -> Prop} : wF (.ok o w) Q X = Q o w := by walk_at "z"; first | exact o3' .. | (apply o3' <;> assumption)
theorem xm' (x : Exc) (w : W) {Q : O -> W -> Prop} {X : Exc -> W -> Prop} : wF (.exc x w) Q X = X x w := by walk_at "z"; first | exact mn' .. | (apply mn' <;> assumption)
theorem wF.mono {r : FRes} {Q Q' : O -> W -> Prop} {X : Exc -> W -> Prop} (h : wF r Q FX) (k : ∀ o w, Q o w -> Q' o w) : wF r Q' X := by walk_at "z"; first | exact vF.mono .. | (apply vF.mono <;> assumption)
theorem wF.monoX {r : FRes} {Q Q' : O -> W -> Prop} {X X' : Exc -> W -> Prop} (h : wF r Q X) (k : ∀ o w, Q o w -> Q' o w) (k2 : ∀ x w, X x w -> X' x w) : wF r Q' X' := by walk_at "z"; first | exact vF.monoX .. | (apply vF.monoX <;> assumption)
theorem wF.exi {r : FRes} {Q : O -> W -> Prop} (h : wF r Q FX) : ∃ o w, r = .ok o w /\ Q o w := by walk_at "z"; first | exact vF.exi .. | (apply vF.exi <;> assumption)
theorem wF.of {r : FRes} {Q : O -> W -> Prop} {X : Exc -> W -> Prop} {o : O} {w : W} (e : r = .ok o w) (h : Q o w) : wF r Q X := by walk_at "z"; first | exact vF.of .. | (apply vF.of <;> assumption)
theorem wS.mono {o : Out} {D1 D2 : En} (h : wS o D1) (h1 : ∀ ρ, D1.nx ρ -> D2.nx ρ) (h2 : ∀ o w, D1.rt o w -> D2.rt o w) (h3 : ∀ ρ, D1.bk ρ -> D2.bk ρ) (h4 : ∀ ρ, D1.ct ρ -> D2.ct ρ) (h5 : ∀ x ρ, D1.ex x ρ -> D2.ex x ρ) : wS o D2 := by walk_at "z"; first | exact vS.mono .. | (apply vS.mono <;> assumption)
theorem wE.mono {r : Res α} {Q Q' : α -> PSt -> Prop} {X X' : Exc -> PSt -> Prop} (h : wE r Q X) (k : ∀ a ρ, Q a ρ -> Q' a ρ) (k2 : ∀ x ρ, X x ρ -> X' x ρ) : wE r Q' X' := by walk_at "z"; first | exact vE.mono .. | (apply vE.mono <;> assumption)
theorem va' {a b : MS} (J : PSt -> Prop) (h : wS (a ρ) ⟨J, rt, bk, ct, ex⟩) (k : ∀ ρ1, J ρ1 -> wS (b ρ1) ⟨N, rt, bk, ct, ex⟩) : wS (au' a b ρ) ⟨N, rt, bk, ct, ex⟩ := by walk_at "z"; first | exact jt' .. | (apply jt' <;> assumption)
theorem bq' {p : Prop} [Decidable p] {A B : Prop} (h1 : p -> A) (h2 : ¬ p -> B) : wI (decide p) A B := by walk_at "z"; first | exact mj' .. | (apply mj' <;> assumption)
theorem bR' {γ : Type} {g : MG} {b : MS} {f : γ -> D} {cs : List γ} (Inv : List γ -> PSt -> Prop) (h0 : Inv [] ρ)
    (step : ∀ pre c post ρ, cs = pre ++ c :: post -> Inv pre ρ -> wD (g (f c) ρ) fun ρ1 => wS (b ρ1) ⟨Inv (pre ++ [c]), rt, N, Inv (pre ++ [c]), ex⟩)
    (hend : ∀ ρ, Inv cs ρ -> N ρ) : wS (nF' g b (cs.map f) ρ) ⟨N, rt, bk, ct, ex⟩ := by walk_at "z"; first | exact gu' .. | (apply gu' <;> assumption)
theorem cQ' {g : MG} {b : MS} {lo : Int} {n : Nat} (Inv : Nat -> PSt -> Prop) (h0 : Inv 0 ρ)
    (step : ∀ k ρ, k < n -> Inv k ρ -> wD (g (.int (lo + (k : Nat))) ρ) fun ρ1 => wS (b ρ1) ⟨Inv (k + 1), rt, N, Inv (k + 1), ex⟩)
    (hend : ∀ ρ, Inv n ρ -> N ρ) : wS (nF' g b (rgI lo n) ρ) ⟨N, rt, bk, ct, ex⟩ := by walk_at "z"; first | exact jx' .. | (apply jx' <;> assumption)
theorem dm' {t : MT} {b : MS} {n : Nat} (Inv : Nat -> PSt -> Prop) (m : Nat) (hm : m < n) (h0 : Inv m ρ)
    (step : ∀ m ρ, Inv m ρ -> wE (t ρ) (fun k ρ1 => wI k (wS (b ρ1) ⟨fun ρ2 => ∃ m', m' < m /\ Inv m' ρ2, rt, N, fun ρ2 => ∃ m', m' < m /\ Inv m' ρ2, ex⟩) (N ρ1)) ex) :
    wS (d0' t b n ρ) ⟨N, rt, bk, ct, ex⟩ := by walk_at "z"; first | exact gt' .. | (apply gt' <;> assumption)
theorem ia' {own : List Nat} {g : MG} {t : MT} {e : ME} {γ : Type} {f : γ -> D} {cs : List γ} {Q : List D -> PSt -> Prop} (hl : cs.length <= 16777216) (Inv : List γ -> List D -> PSt -> Prop) (h0 : Inv [] [] ρ)
    (step : ∀ pre c post acc ρ, cs = pre ++ c :: post -> Inv pre acc ρ -> wD (g (f c) ⟨aD' own ρ.env, ρ.w⟩) fun ρ1 => wE (t ρ1) (fun k ρ2 => wI k (wE (e ρ2) (fun y ρ3 => Inv (pre ++ [c]) (acc ++ [y]) ρ3) PX) (Inv (pre ++ [c]) acc ρ2)) PX)
    (hend : ∀ acc ρ, Inv cs acc ρ -> Q acc ρ) : wE (lcL own g t e (cs.map f) [] ρ) Q X := by walk_at "z"; first | exact ms' .. | (apply ms' <;> assumption)
end
theorem uO' (C : String) (fs : List (String × O)) {P : String -> List (String × O) -> Prop} : zO' (some (.ins C fs)) P = P C fs := by simp only [b8']; exact o1' ..
theorem Bf' (cs : List String) (f : String) (o : O) (w : W) (n : Nat) {N : W -> Prop} : wD (stF cs f o w (.obj n)) N = zO' w[n]? (fun C fs => wC (C ∈ cs /\ fs.length < 1000) (N (w.set n (.ins C (qz' f o fs))))) := by simp only [ay', b8', er']; exact uY' ..
theorem r5' (w : W) (n : Nat) {Q : List O -> Prop} : vD (Cu' w (.obj n)) Q = vOb w[n]? Q := by
  show vD (match w[n]? with | some (.lst os) => some os | _ => none) Q = _
  rcases w[n]? with _ | b
  . rfl
  cases b <;> rfl
theorem ze' (w : W) (n : Nat) {Q : List O -> Prop} : wD (Cu' w (.obj n)) Q = wOb w[n]? Q := by simp only [dn', fc', ff', ay', cS']; exact r5' w n
theorem r6' (w : W) (n : Nat) {Q : D -> Prop} : vD (Cv' w (.obj n)) Q = vOb w[n]? fun os => Q (.int os.length) := by
  show vD (match w[n]? with | some (.lst os) => some (.int os.length) | _ => none) Q = _
  rcases w[n]? with _ | b
  . rfl
  cases b <;> rfl
theorem zh' (w : W) (n : Nat) {Q : D -> Prop} : wD (Cv' w (.obj n)) Q = wOb w[n]? fun os => Q (.int os.length) := by simp only [dn', fc', ff', ay', cS']; exact r6' w n
theorem uL' (os : List O) {P : List O -> Prop} : wOb (some (.lst os)) P = P os := by walk_at "z"; first | exact jo' .. | (apply jo' <;> assumption)
theorem nY' {c : Prop} (h : c) (A : Prop) : wC c A = A := by walk_at "z"; first | exact o5' .. | (apply o5' <;> assumption)
theorem uQ' (A : Prop) : wC True A = A := by walk_at "z"; first | exact js' .. | (apply js' <;> assumption)
theorem eq' {α : Type} {c : Prop} [Decidable c] {x : α} {Q : α -> Prop} : wD (if c then some x else none) Q = wC c (Q x) := by walk_at "z"; first | exact aX' .. | (apply aX' <;> assumption)
theorem l1' {α β : Type} {f : α -> β} {o : Option α} {Q : β -> Prop} : wD (o.map f) Q = wD o (fun a => Q (f a)) := by walk_at "z"; first | exact cn' .. | (apply cn' <;> assumption)
section
variable {Q : D -> Prop} {Y : List D -> Prop}
theorem zy' (i j : Int) : wD (dj' (.int i) (.int j)) Q = Q (.int (i + j)) := by walk_at "z"; first | exact mV' .. | (apply mV' <;> assumption)
theorem zw' (a b : Tx) : wD (dj' (.str a) (.str b)) Q = oF' (a.length + b.length) (Q (.str (a ++ b))) := by walk_at "z"; first | exact mT' .. | (apply mT' <;> assumption)
theorem zx' (a b : List D) : wD (dj' (.lst a) (.lst b)) Q = oF' (a.length + b.length) (Q (.lst (a ++ b))) := by walk_at "z"; first | exact mU' .. | (apply mU' <;> assumption)
theorem zu' (a b : List D) : wD (dj' (.tup a) (.tup b)) Q = oF' (a.length + b.length) (Q (.tup (a ++ b))) := by walk_at "z"; first | exact mS' .. | (apply mS' <;> assumption)
theorem wB' (i j : Int) : wD (sH' (.int i) (.int j)) Q = Q (.int (i + j)) := by walk_at "z"; first | exact jI' .. | (apply jI' <;> assumption)
theorem Bd' (i j : Int) : wD (ua' (.int i) (.int j)) Q = Q (.int (i - j)) := by walk_at "z"; first | exact pf' .. | (apply pf' <;> assumption)
theorem Bt' (i j : Int) : wD (jX' (.int i) (.int j)) Q = wC (((-18446744073709551616 < i /\ i < 18446744073709551616) \/ (-18446744073709551616 < j /\ j < 18446744073709551616)) \/ ((-2582249878086908589655919172003011874329705792829223512830659356540647622016841194629645353280137831435903171972747493376 < i /\ i < 2582249878086908589655919172003011874329705792829223512830659356540647622016841194629645353280137831435903171972747493376) /\ (-2582249878086908589655919172003011874329705792829223512830659356540647622016841194629645353280137831435903171972747493376 < j /\ j < 2582249878086908589655919172003011874329705792829223512830659356540647622016841194629645353280137831435903171972747493376))) (Q (.int (i * j))) := by walk_at "z"; first | exact pq' .. | (apply pq' <;> assumption)
theorem zb' (a : Tx) (j : Int) : wD (jX' (.str a) (.int j)) Q = wC (j < 4611686018427387904 /\ -4611686018427387904 <= j /\ a.length * j.toNat <= 16777216) (Q (.str (List.replicate j.toNat a).flatten)) := by walk_at "z"; first | exact mG' .. | (apply mG' <;> assumption)
theorem zc' (a : List D) (j : Int) : wD (jX' (.lst a) (.int j)) Q = wC (j < 4611686018427387904 /\ -4611686018427387904 <= j /\ a.length * j.toNat <= 16777216) (Q (.lst (List.replicate j.toNat a).flatten)) := by walk_at "z"; first | exact mH' .. | (apply mH' <;> assumption)
theorem zt' (i j : Int) : wD (iE' (.int i) (.int j)) Q = wC (0 < j /\ j < 1606938044258990275541962092341162602522202993782792835301376) (Q (.int (i / j))) := by walk_at "z"; first | exact mR' .. | (apply mR' <;> assumption)
theorem Bu' (i j : Int) : wD (jY' (.int i) (.int j)) Q = wC (0 < j) (Q (.int (i % j))) := by walk_at "z"; first | exact pr' .. | (apply pr' <;> assumption)
theorem Bo' (i j : Int) : wD (x4' (.int i) (.int j)) Q = wC (0 <= j /\ j <= 1000 /\ -18446744073709551616 < i /\ i < 18446744073709551616) (Q (.int (i ^ j.toNat))) := by walk_at "z"; first | exact pm' .. | (apply pm' <;> assumption)
theorem Bp' (i : Int) : wD (Cm' (.int i)) Q = Q (.int (-i)) := by walk_at "z"; first | exact pn' .. | (apply pn' <;> assumption)
theorem BQ' (i j : Int) : wD (pEq (.int i) (.int j)) Q = Q (.bl (decide (i = j))) := by walk_at "z"; first | exact pL' .. | (apply pL' <;> assumption)
theorem BO' (i j : Tx) : wD (pEq (.str i) (.str j)) Q = Q (.bl (decide (i = j))) := by walk_at "z"; first | exact pK' .. | (apply pK' <;> assumption)
theorem BR' (i j : Bool) : wD (pEq (.bl i) (.bl j)) Q = Q (.bl (i == j)) := by walk_at "z"; first | exact pM' .. | (apply pM' <;> assumption)
theorem Dd' (x y : D) : wD (pEq x y) Q = wC (dat x = true /\ dat y = true /\ dep x <= 64 /\ dep y <= 64) (Q (.bl (eqb x y))) := by walk_at "z"; first | exact tS' .. | (apply tS' <;> assumption)
theorem Br' (i j : Int) : wD (pNe (.int i) (.int j)) Q = Q (.bl (!decide (i = j))) := by walk_at "z"; first | exact pp' .. | (apply pp' <;> assumption)
theorem Bq' (i j : Tx) : wD (pNe (.str i) (.str j)) Q = Q (.bl (!decide (i = j))) := by walk_at "z"; first | exact po' .. | (apply po' <;> assumption)
theorem BE' (x : D) : wD (pIs x .non) Q = Q (.bl (eS' x)) := by walk_at "z"; first | exact pD' .. | (apply pD' <;> assumption)
theorem BF' (x y : Bool) : wD (pIs (.bl x) (.bl y)) Q = Q (.bl (x == y)) := by walk_at "z"; first | exact pE' .. | (apply pE' <;> assumption)
theorem th' (x : D) : wD (nk' x .non) Q = Q (.bl (!eS' x)) := by walk_at "z"; first | exact hR' .. | (apply hR' <;> assumption)
theorem ti' (x y : Bool) : wD (nk' (.bl x) (.bl y)) Q = Q (.bl (!(x == y))) := by walk_at "z"; first | exact hS' .. | (apply hS' <;> assumption)
theorem C5' (i j : Int) : wD (pLt (.int i) (.int j)) Q = Q (.bl (decide (i < j))) := by walk_at "z"; first | exact tL' .. | (apply tL' <;> assumption)
theorem C6' (i j : Int) : wD (pLe (.int i) (.int j)) Q = Q (.bl (decide (i <= j))) := by walk_at "z"; first | exact tM' .. | (apply tM' <;> assumption)
theorem C7' (i j : Int) : wD (pGt (.int i) (.int j)) Q = Q (.bl (decide (j < i))) := by walk_at "z"; first | exact tN' .. | (apply tN' <;> assumption)
theorem C9' (i j : Int) : wD (pGe (.int i) (.int j)) Q = Q (.bl (decide (j <= i))) := by walk_at "z"; first | exact tP' .. | (apply tP' <;> assumption)
theorem Bx' (i j : Tx) : wD (pLt (.str i) (.str j)) Q = Q (.bl (decide (i < j))) := by walk_at "z"; first | exact pv' .. | (apply pv' <;> assumption)
theorem By' (i j : Tx) : wD (pLe (.str i) (.str j)) Q = Q (.bl (!decide (j < i))) := by walk_at "z"; first | exact pw' .. | (apply pw' <;> assumption)
theorem BI' (i j : Tx) : wD (pGt (.str i) (.str j)) Q = Q (.bl (decide (j < i))) := by walk_at "z"; first | exact pH' .. | (apply pH' <;> assumption)
theorem BK' (i j : Tx) : wD (pGe (.str i) (.str j)) Q = Q (.bl (!decide (i < j))) := by walk_at "z"; first | exact pJ' .. | (apply pJ' <;> assumption)
theorem BH' (c : Nat) (s : Tx) : wD (pIn (.str [c]) (.str s)) Q = Q (.bl (decide (c ∈ s))) := by walk_at "z"; first | exact pG' .. | (apply pG' <;> assumption)
theorem y9' (c : Nat) (s : Tx) : wD (h6' (.str [c]) (.str s)) Q = Q (.bl (!decide (c ∈ s))) := by walk_at "z"; first | exact mF' .. | (apply mF' <;> assumption)
theorem uv' (i : Int) (ns : List Int) : wD (pIn (.int i) (.tup (ns.map .int))) Q = Q (.bl (decide (i ∈ ns))) := by walk_at "z"; first | exact mO' .. | (apply mO' <;> assumption)
theorem rv' (i : Int) (ns : List Int) : wD (pIn (.int i) (.lst (ns.map .int))) Q = Q (.bl (decide (i ∈ ns))) := by walk_at "z"; first | exact mP' .. | (apply mP' <;> assumption)
theorem zi' (s : Tx) : wD (ee' (.str s)) Q = Q (.int s.length) := by walk_at "z"; first | exact mK' .. | (apply mK' <;> assumption)
theorem zl' (s : List D) : wD (ee' (.lst s)) Q = Q (.int s.length) := by walk_at "z"; first | exact mL' .. | (apply mL' <;> assumption)
theorem nO' (s : List D) : wD (ee' (.tup s)) Q = Q (.int s.length) := by walk_at "z"; first | exact mJ' .. | (apply mJ' <;> assumption)
theorem BA' (s : Tx) (i : Int) : wD (pIx (.str s) (.int i)) Q = wD (ati s i) (fun c => Q (.str [c])) := by walk_at "z"; first | exact pz' .. | (apply pz' <;> assumption)
theorem BD' (s : List D) (i : Int) : wD (pIx (.lst s) (.int i)) Q = wD (ati s i) Q := by walk_at "z"; first | exact pB' .. | (apply pB' <;> assumption)
theorem wv' (s : List D) (i : Int) : wD (pIx (.tup s) (.int i)) Q = wD (ati s i) Q := by walk_at "z"; first | exact py' .. | (apply py' <;> assumption)
theorem Bh' (s : Tx) (lo hi : Option Int) : wD (pSl (.str s) lo hi) Q = Q (.str (cut s lo hi)) := by walk_at "z"; first | exact ph' .. | (apply ph' <;> assumption)
theorem Bj' (s : List D) (lo hi : Option Int) : wD (pSl (.lst s) lo hi) Q = Q (.lst (cut s lo hi)) := by walk_at "z"; first | exact pj' .. | (apply pj' <;> assumption)
theorem Bg' (s : List D) (lo hi : Option Int) : wD (pSl (.tup s) lo hi) Q = Q (.tup (cut s lo hi)) := by walk_at "z"; first | exact pg' .. | (apply pg' <;> assumption)
theorem Bi' (s : List D) (lo hi : Option Int) : wD (pSl (.scr s) lo hi) Q = Q (.lst (cut s lo hi)) := by walk_at "z"; first | exact pi' .. | (apply pi' <;> assumption)
theorem y5' (s : Tx) : wD (wS' (.str s)) Q = Q (.str s.reverse) := by walk_at "z"; first | exact mD' .. | (apply mD' <;> assumption)
theorem y6' (s : List D) : wD (wS' (.lst s)) Q = Q (.lst s.reverse) := by walk_at "z"; first | exact mE' .. | (apply mE' <;> assumption)
theorem zn' (l : List Tx) : wD (ln' [] [.lst (l.map .str)]) Q = oF' (l.map List.length).sum (Q (.str l.flatten)) := by walk_at "z"; first | exact ir' .. | (apply ir' <;> assumption)
theorem wt' (l : Tx) : wD (ln' [] [.lst (l.map chD)]) Q = oF' l.length (Q (.str l)) := by walk_at "z"; first | exact jG' .. | (apply jG' <;> assumption)
theorem zs' (a b : Tx) : wD (yf' a [.str b]) Q = Q (.int (fnd (nE' a b))) := by walk_at "z"; first | exact mQ' .. | (apply mQ' <;> assumption)
theorem wy' (a b : Tx) : wD (ka' a [.str b]) Q = wD (nE' a b) (fun i => Q (.int (i : Nat))) := by walk_at "z"; first | exact jH' .. | (apply jH' <;> assumption)
theorem wc' (s : Tx) : wD (t9' (.str s)) Q = wC (s.all (fun c => decide (c < 128)) = true /\ s.length <= 5592405) (Q (.str (s.map up1))) := by walk_at "z"; first | exact jy' .. | (apply jy' <;> assumption)
theorem BG' (i : Int) : wD (hC' (.int i)) Q = Q (.int i) := by walk_at "z"; first | exact pF' .. | (apply pF' <;> assumption)
theorem zq' (b : Bool) : wD (hC' (.bl b)) Q = Q (.int (if b then 1 else 0)) := by walk_at "z"; first | exact mN' .. | (apply mN' <;> assumption)
theorem BZ' (i : Int) : wD (zV' (.int i)) Q = Q (.int (if i < 0 then -i else i)) := by walk_at "z"; first | exact pT' .. | (apply pT' <;> assumption)
theorem Bw' (i j : Int) : wD (qH' (.int i) (.int j)) Q = Q (.int (max i j)) := by walk_at "z"; first | exact pu' .. | (apply pu' <;> assumption)
theorem Bv' (i j : Int) : wD (n7' (.int i) (.int j)) Q = Q (.int (min i j)) := by walk_at "z"; first | exact pt' .. | (apply pt' <;> assumption)
theorem y1' (s : List D) : wD (bl' (.lst s)) Q = Q (.tup s) := by walk_at "z"; first | exact my' .. | (apply my' <;> assumption)
theorem yZ' (s : List D) : wD (bl' (.tup s)) Q = Q (.tup s) := by walk_at "z"; first | exact mx' .. | (apply mx' <;> assumption)
theorem wo' (s : List D) : wD (eJ' (.lst s)) Q = Q (.lst s) := by walk_at "z"; first | exact jD' .. | (apply jD' <;> assumption)
theorem wm' (s : List D) : wD (eJ' (.tup s)) Q = Q (.lst s) := by walk_at "z"; first | exact jC' .. | (apply jC' <;> assumption)
theorem wf' (s : Tx) : wD (c2' (.str s)) Q = wC (s.length < 64) (Q (.lst ((cy' s).map chD))) := by walk_at "z"; first | exact jz' .. | (apply jz' <;> assumption)
theorem bp' (t : String) (d : D) : wD (ci' t d) Q = wD (tyn d) (fun n => Q (.bl (n == t || (n == "bool" && t == "int")))) := by walk_at "z"; first | exact pC' .. | (apply pC' <;> assumption)
theorem Bc' (l : List Int) : wD (Cl' (.lst (l.map .int))) Q = Q (.int l.sum) := by walk_at "z"; first | exact pe' .. | (apply pe' <;> assumption)
theorem BY' (l : List Bool) : wD (Co' (.lst (l.map .bl))) Q = Q (.bl (l.all id)) := by walk_at "z"; first | exact pS' .. | (apply pS' <;> assumption)
theorem BX' (l : List Bool) : wD (Cn' (.lst (l.map .bl))) Q = Q (.bl (l.any id)) := by walk_at "z"; first | exact pR' .. | (apply pR' <;> assumption)
theorem y4' (s : List D) : wD (ea' (.lst s)) Y = Y s := by walk_at "z"; first | exact mC' .. | (apply mC' <;> assumption)
theorem nN' (s : List D) : wD (ea' (.tup s)) Y = Y s := by walk_at "z"; first | exact mA' .. | (apply mA' <;> assumption)
theorem y3' (s : Tx) : wD (ea' (.str s)) Y = Y (s.map chD) := by walk_at "z"; first | exact mB' .. | (apply mB' <;> assumption)
theorem Bn' (j : Int) : wD (fn' (.int j)) Y = wC (-4611686018427387904 <= j /\ j < 4611686018427387904) (Y (rgI 0 j.toNat)) := by walk_at "z"; first | exact pl' .. | (apply pl' <;> assumption)
theorem Bm' (i j : Int) : wD (qG' (.int i) (.int j)) Y = wC ((-4611686018427387904 <= i /\ i < 4611686018427387904) /\ (-4611686018427387904 <= j /\ j < 4611686018427387904)) (Y (rgI i (j - i).toNat)) := by walk_at "z"; first | exact pk' .. | (apply pk' <;> assumption)
theorem yU' (a b : Tx) : wD (rQ' (.str a) (.str b)) Y = Y (dk' (a.map chD) (b.map chD)) := by walk_at "z"; first | exact mu' .. | (apply mu' <;> assumption)
theorem yX' (a b : List D) : wD (rQ' (.lst a) (.lst b)) Y = Y (dk' a b) := by walk_at "z"; first | exact mw' .. | (apply mw' <;> assumption)
theorem yT' (a b : List D) : wD (rQ' (.tup a) (.tup b)) Y = Y (dk' a b) := by walk_at "z"; first | exact mt' .. | (apply mt' <;> assumption)
theorem yW' (a : Tx) (b : List D) : wD (Cc' (.str a) (.tup b)) Y = Y (dk' (a.map chD) b) := by walk_at "z"; first | exact mv' .. | (apply mv' <;> assumption)
theorem BS' (a : Tx) : wD (enB (.str a)) Y = Y (el' 0 (a.map chD)) := by walk_at "z"; first | exact pN' .. | (apply pN' <;> assumption)
theorem BT' (a : List D) : wD (enB (.lst a)) Y = Y (el' 0 a) := by walk_at "z"; first | exact pO' .. | (apply pO' <;> assumption)
theorem wk' (a : List D) : wD (zS' (.lst a)) Y = Y a.reverse := by walk_at "z"; first | exact jB' .. | (apply jB' <;> assumption)
theorem wj' (a : List D) : wD (zS' (.tup a)) Y = Y a.reverse := by walk_at "z"; first | exact jA' .. | (apply jA' <;> assumption)
theorem zf' (j : Int) : wD (eI' (.int j)) Q = wC (RgB 0 j = true) (Q (.lst (eU' 0 j))) := by walk_at "z"; first | exact mI' .. | (apply mI' <;> assumption)
theorem Db' (i : Nat) (d : D) (env : List (Option O)) (w : W) {N : PSt -> Prop} : wD (gN i d ⟨env, w⟩) N = tw' i env.length (N ⟨env.set i (some (.fz d)), w⟩) := by walk_at "z"; first | exact tR' .. | (apply tR' <;> assumption)
theorem Da' (is : List Nat) (ds : List D) (ρ : PSt) {N : PSt -> Prop} : wD (gT is (.tup ds) ρ) N = wD (gNs is ds ρ) N := by walk_at "z"; first | exact tQ' .. | (apply tQ' <;> assumption)
theorem BJ' (ρ : PSt) {N : PSt -> Prop} : wD (gNs [] [] ρ) N = N ρ := by walk_at "z"; first | exact pI' .. | (apply pI' <;> assumption)
theorem C8' (i : Nat) (is : List Nat) (d : D) (ds : List D) (ρ : PSt) {N : PSt -> Prop} : wD (gNs (i :: is) (d :: ds) ρ) N = wD (gN i d ρ) (fun ρ1 => wD (gNs is ds ρ1) N) := by walk_at "z"; first | exact tO' .. | (apply tO' <;> assumption)
theorem Bz' (w : W) (n : Nat) (k : D) : wD (ixW w (.obj n) k) Q = wOb w[n]? (fun os => wD (ixO (.lst os) k) Q) := by walk_at "z"; first | exact px' .. | (apply px' <;> assumption)
theorem BB' (os : List O) (i : Int) : wD (ixO (.lst os) (.int i)) Q = wD (ati os i) (fun o => wD (asF o) Q) := by walk_at "z"; first | exact pA' .. | (apply pA' <;> assumption)
theorem BW' (d : D) : wD (asF (.fz d)) Q = Q d := by walk_at "z"; first | exact pQ' .. | (apply pQ' <;> assumption)
theorem BV' (d : List D) {Q : List D -> Prop} : wD (asL (.lst d)) Q = Q d := by walk_at "z"; first | exact pP' .. | (apply pP' <;> assumption)
theorem zo' (d k : D) : wD (ixO (.fz d) k) Q = wD (pIx d k) Q := by walk_at "z"; first | exact mM' .. | (apply mM' <;> assumption)
theorem y2' (w : W) (n : Nat) (z : Int) (d : D) {N : W -> Prop} : wD (sb' w (.obj n) (.int z) d) N = wOb w[n]? (fun os => wD (ixn os.length z) (fun j => N (w.set n (.lst (os.set j (.fz d)))))) := by walk_at "z"; first | exact mz' .. | (apply mz' <;> assumption)
theorem wq' (os : List O) : wD (rT' (.lst os)) Q = Q (.int os.length) := by walk_at "z"; first | exact jE' .. | (apply jE' <;> assumption)
theorem wr' (d : D) : wD (rT' (.fz d)) Q = wD (ee' d) Q := by walk_at "z"; first | exact jF' .. | (apply jF' <;> assumption)
end
theorem lG'  {Q : D -> Prop} : wD (ci' "int" .non) Q = Q (.bl false) := by rw [bp', ay']; rfl
theorem or' (a : Bool) {Q : D -> Prop} : wD (ci' "int" (.bl a)) Q = Q (.bl true) := by rw [bp', ay']; rfl
theorem lI' (a : Int) {Q : D -> Prop} : wD (ci' "int" (.int a)) Q = Q (.bl true) := by rw [bp', ay']; rfl
theorem lF' (a : Tx) {Q : D -> Prop} : wD (ci' "int" (.str a)) Q = Q (.bl false) := by rw [bp', ay']; rfl
theorem lE' (a : List D) {Q : D -> Prop} : wD (ci' "int" (.tup a)) Q = Q (.bl false) := by rw [bp', ay']; rfl
theorem lH' (a : List D) {Q : D -> Prop} : wD (ci' "int" (.lst a)) Q = Q (.bl false) := by rw [bp', ay']; rfl
theorem lJ' (a b : List D) {Q : D -> Prop} : wD (ci' "int" (.dct a b)) Q = Q (.bl false) := by rw [bp', ay']; rfl
theorem kK'  {Q : D -> Prop} : wD (ci' "bool" .non) Q = Q (.bl false) := by rw [bp', ay']; rfl
theorem lL' (a : Bool) {Q : D -> Prop} : wD (ci' "bool" (.bl a)) Q = Q (.bl true) := by rw [bp', ay']; rfl
theorem kM' (a : Int) {Q : D -> Prop} : wD (ci' "bool" (.int a)) Q = Q (.bl false) := by rw [bp', ay']; rfl
theorem kJ' (a : Tx) {Q : D -> Prop} : wD (ci' "bool" (.str a)) Q = Q (.bl false) := by rw [bp', ay']; rfl
theorem kI' (a : List D) {Q : D -> Prop} : wD (ci' "bool" (.tup a)) Q = Q (.bl false) := by rw [bp', ay']; rfl
theorem kL' (a : List D) {Q : D -> Prop} : wD (ci' "bool" (.lst a)) Q = Q (.bl false) := by rw [bp', ay']; rfl
theorem kN' (a b : List D) {Q : D -> Prop} : wD (ci' "bool" (.dct a b)) Q = Q (.bl false) := by rw [bp', ay']; rfl
theorem lz'  {Q : D -> Prop} : wD (ci' "str" .non) Q = Q (.bl false) := by rw [bp', ay']; rfl
theorem oq' (a : Bool) {Q : D -> Prop} : wD (ci' "str" (.bl a)) Q = Q (.bl false) := by rw [bp', ay']; rfl
theorem lB' (a : Int) {Q : D -> Prop} : wD (ci' "str" (.int a)) Q = Q (.bl false) := by rw [bp', ay']; rfl
theorem ly' (a : Tx) {Q : D -> Prop} : wD (ci' "str" (.str a)) Q = Q (.bl true) := by rw [bp', ay']; rfl
theorem lx' (a : List D) {Q : D -> Prop} : wD (ci' "str" (.tup a)) Q = Q (.bl false) := by rw [bp', ay']; rfl
theorem lA' (a : List D) {Q : D -> Prop} : wD (ci' "str" (.lst a)) Q = Q (.bl false) := by rw [bp', ay']; rfl
theorem lC' (a b : List D) {Q : D -> Prop} : wD (ci' "str" (.dct a b)) Q = Q (.bl false) := by rw [bp', ay']; rfl
theorem i1'  {Q : D -> Prop} : wD (ci' "tuple" .non) Q = Q (.bl false) := by rw [bp', ay']; rfl
theorem kv' (a : Bool) {Q : D -> Prop} : wD (ci' "tuple" (.bl a)) Q = Q (.bl false) := by rw [bp', ay']; rfl
theorem i3' (a : Int) {Q : D -> Prop} : wD (ci' "tuple" (.int a)) Q = Q (.bl false) := by rw [bp', ay']; rfl
theorem i0' (a : Tx) {Q : D -> Prop} : wD (ci' "tuple" (.str a)) Q = Q (.bl false) := by rw [bp', ay']; rfl
theorem iZ' (a : List D) {Q : D -> Prop} : wD (ci' "tuple" (.tup a)) Q = Q (.bl true) := by rw [bp', ay']; rfl
theorem i2' (a : List D) {Q : D -> Prop} : wD (ci' "tuple" (.lst a)) Q = Q (.bl false) := by rw [bp', ay']; rfl
theorem i4' (a b : List D) {Q : D -> Prop} : wD (ci' "tuple" (.dct a b)) Q = Q (.bl false) := by rw [bp', ay']; rfl
theorem ky'  {Q : D -> Prop} : wD (ci' "list" .non) Q = Q (.bl false) := by rw [bp', ay']; rfl
theorem lD' (a : Bool) {Q : D -> Prop} : wD (ci' "list" (.bl a)) Q = Q (.bl false) := by rw [bp', ay']; rfl
theorem kA' (a : Int) {Q : D -> Prop} : wD (ci' "list" (.int a)) Q = Q (.bl false) := by rw [bp', ay']; rfl
theorem kx' (a : Tx) {Q : D -> Prop} : wD (ci' "list" (.str a)) Q = Q (.bl false) := by rw [bp', ay']; rfl
theorem kw' (a : List D) {Q : D -> Prop} : wD (ci' "list" (.tup a)) Q = Q (.bl false) := by rw [bp', ay']; rfl
theorem kz' (a : List D) {Q : D -> Prop} : wD (ci' "list" (.lst a)) Q = Q (.bl true) := by rw [bp', ay']; rfl
theorem kB' (a b : List D) {Q : D -> Prop} : wD (ci' "list" (.dct a b)) Q = Q (.bl false) := by rw [bp', ay']; rfl
theorem kE'  {Q : D -> Prop} : wD (ci' "dict" .non) Q = Q (.bl false) := by rw [bp', ay']; rfl
theorem lK' (a : Bool) {Q : D -> Prop} : wD (ci' "dict" (.bl a)) Q = Q (.bl false) := by rw [bp', ay']; rfl
theorem kG' (a : Int) {Q : D -> Prop} : wD (ci' "dict" (.int a)) Q = Q (.bl false) := by rw [bp', ay']; rfl
theorem kD' (a : Tx) {Q : D -> Prop} : wD (ci' "dict" (.str a)) Q = Q (.bl false) := by rw [bp', ay']; rfl
theorem kC' (a : List D) {Q : D -> Prop} : wD (ci' "dict" (.tup a)) Q = Q (.bl false) := by rw [bp', ay']; rfl
theorem kF' (a : List D) {Q : D -> Prop} : wD (ci' "dict" (.lst a)) Q = Q (.bl false) := by rw [bp', ay']; rfl
theorem kH' (a b : List D) {Q : D -> Prop} : wD (ci' "dict" (.dct a b)) Q = Q (.bl true) := by rw [bp', ay']; rfl
theorem nP' (l : List Int) (v : Int) {Q : D -> Prop} : wD (qV' (l.map .int) [.int v]) Q = wC (v ∈ l) (Q (.int (l.idxOf v : Nat))) := by
  show wD ((bz' (l.map .int)).bind fun ns => if v ∈ ns then some (D.int ((ns.idxOf v : Nat) : Int)) else none) Q = _
  rw [ls', Option.bind_some, eq']
theorem xg' {p : Prop} [Decidable p] (h : p) (A B : Prop) : wI (decide p) A B = A := by rw [decide_eq_true h]; exact wN' A B
theorem Ar' {p : Prop} [Decidable p] (h : ¬ p) (A B : Prop) : wI (decide p) A B = B := by rw [decide_eq_false h]; exact xi' A B
theorem z2' {b : Bool} (h : b = true) : O.fz (.bl true) = O.fz (.bl b) := by rw [h]
theorem z3' {b : Bool} (h : b = false) : O.fz (.bl false) = O.fz (.bl b) := by rw [h]
theorem wI' {α β : Type} (f : α -> β) (l : List α) (i : Int) : ati (l.map f) i = (ati l i).map f := by
  unfold ati
  rw [List.length_map]
  cases ixn l.length i with
  | none => rfl
  | some j => simp
theorem b3' {α : Type} {xs : List α} {i : Nat} {Q : α -> Prop} (h : i < xs.length) (k : ∀ x, x ∈ xs -> xs[i]? = some x -> Q x) : wD xs[i]? Q := by
  rw [List.getElem?_eq_getElem h, a7']
  exact k _ (List.getElem_mem h) (List.getElem?_eq_getElem h)
theorem bs' {α : Type} {l : List α} {i : Nat} {x : α} (h : l[i]? = some x) : i < l.length := (List.getElem?_eq_some_iff.mp h).1
def But (n : Nat) (w w' : W) : Prop := w'.length = w.length /\ ∀ j, j ≠ n -> w'[j]? = w[j]?
theorem But.refl {n : Nat} {w : W} : But n w w := ⟨rfl, fun _ _ => rfl⟩
theorem But.trans {n : Nat} {w w1 w2 : W} (a : But n w w1) (b : But n w1 w2) : But n w w2 := ⟨b.1.trans a.1, fun j h => (b.2 j h).trans (a.2 j h)⟩
theorem But.set {n : Nat} {w w1 : W} {o : Ob} (a : But n w w1) : But n w (w1.set n o) := ⟨by rw [List.length_set]; exact a.1, fun j h => by rw [List.getElem?_set_ne (Ne.symm h)]; exact a.2 j h⟩
theorem tn1 (d : Nat) : ((d : Int) + 1).toNat = d + 1 := rfl
theorem zI' (l : List D) (d : D) : l.map O.fz ++ [O.fz d] = (l ++ [d]).map O.fz := by simp
theorem v3' (l : List D) : frz (.lst (l.map .fz)) = .lst l := by simp [frz]
theorem uP' {k : Bool} {A B : Prop} (h1 : k = true -> A) (h2 : k = false -> B) : wI k A B := by
  cases k
  . rw [xi']; exact h2 rfl
  . rw [wN']; exact h1 rfl
theorem eo' {k : Bool} {a b : Out} {N bk ct : PSt -> Prop} {rt : O -> W -> Prop} {ex : Exc -> PSt -> Prop} (J : PSt -> Prop) (h : wI k (wS a ⟨J, rt, bk, ct, ex⟩) (wS b ⟨J, rt, bk, ct, ex⟩)) (hk : ∀ ρ, J ρ -> N ρ) : wI k (wS a ⟨N, rt, bk, ct, ex⟩) (wS b ⟨N, rt, bk, ct, ex⟩) := by
  cases k
  . rw [xi'] at *
    exact wS.mono h hk (fun _ _ h => h) (fun _ h => h) (fun _ h => h) (fun _ _ h => h)
  . rw [wN'] at *
    exact wS.mono h hk (fun _ _ h => h) (fun _ h => h) (fun _ h => h) (fun _ _ h => h)
def c0' (w : W) (n : Nat) : Prop := ∃ (cells : List Int) (i b s c : Int), w[n]? = some (.lst [.fz (.lst (cells.map .int)), .fz (.int i), .fz (.int b), .fz (.int s), .fz (.int c)]) /\ 0 <= i
theorem w9' (A : Prop) : vX (some (some .exn)) A = A := rfl
end M
namespace M
mutual
theorem nJ' : ∀ (d : D), dat d = true -> eqb d d = true
  | .non, _ => rfl
  | .bl b, _ => by simp [eqb]
  | .int i, _ => by simp [eqb]
  | .str s, _ => by simp [eqb]
  | .tup ds, h => by simp only [eqb]; exact eqbs_refl ds (by simpa [dat] using h)
  | .lst ds, h => by simp only [eqb]; exact eqbs_refl ds (by simpa [dat] using h)
theorem eqbs_refl : ∀ (ds : List D), dats ds = true -> eqbs ds ds = true
  | [], _ => rfl
  | d :: r, h => by
    simp only [dats, Bool.and_eq_true] at h
    simp only [eqbs, nJ' d h.1, eqbs_refl r h.2, Bool.and_self]
end
theorem tl' (x : D) (h : dat x = true) (h2 : dep x <= 64) {Q : D -> Prop} : wD (pEq x x) Q = Q (.bl true) := by
  rw [Dd', nY' ⟨h, h, h2, h2⟩, nJ' x h]
def bX' (r : List Nat) : D := .tup (r.map fun t => .int (t : Nat))
def co' (T : List (List Nat)) : D := .tup (T.map bX')
def cZ' (A : List Nat) : D := .tup (A.map fun a => .int (a : Nat))
def a3' (T : List (List Nat)) (size many : Nat) : Prop := T.length = size /\ ∀ r ∈ T, r.length = many /\ ∀ t ∈ r, t < size
abbrev abc : Tx := [97, 98, 99, 100, 101, 102, 103, 104, 105, 106, 107, 108, 109, 110, 111, 112, 113, 114, 115, 116, 117, 118, 119, 120, 121, 122]
theorem qS' {c : Nat} : c ∈ abc ↔ 97 <= c /\ c <= 122 := by
  simp only [List.mem_cons, List.not_mem_nil, or_false]
  omega
structure LetOk (L : Tx) (most : Nat) : Prop where
  ne : 1 <= L.length
  le : L.length <= most
  asc : L.Pairwise (· < ·)
  abc : ∀ c ∈ L, 97 <= c /\ c <= 122
structure AccOk (A : List Nat) (size : Nat) : Prop where
  asc : A.Pairwise (· < ·)
  lt : ∀ a ∈ A, a < size
structure MacOk (L : Tx) (T : List (List Nat)) (A : List Nat) (most states : Nat) : Prop where
  let' : LetOk L most
  tab : a3' T T.length L.length
  ne : 1 <= T.length
  le : T.length <= states
  acc : AccOk A T.length
theorem wu' (T : List (List Nat)) (s : Nat) {Q : D -> Prop} : wD (pIx (co' T) (.int (s : Nat))) Q = wD T[s]? (fun r => Q (bX' r)) := by
  unfold co'
  rw [wv', hd' (by omega), List.getElem?_map, l1', Int.toNat_natCast]
theorem ww' (r : List Nat) (s : Nat) {Q : D -> Prop} : wD (pIx (bX' r) (.int (s : Nat))) Q = wD r[s]? (fun t => Q (.int (t : Nat))) := by
  unfold bX'
  rw [wv', hd' (by omega), List.getElem?_map, l1', Int.toNat_natCast]
theorem rx' (A : List Nat) (s : Nat) {Q : D -> Prop} : wD (pIn (.int (s : Nat)) (cZ' A)) Q = Q (.bl (decide (s ∈ A))) := by
  unfold cZ'
  have := uv' (Q := Q) (s : Int) (A.map (Nat.cast : Nat -> Int))
  rw [List.map_map] at this
  rw [show (A.map fun a => D.int (a : Nat)) = A.map (D.int ∘ (Nat.cast : Nat -> Int)) from rfl, this]
  congr 2
  simp only [List.mem_map, decide_eq_decide]
  constructor
  . rintro ⟨a, h, e⟩
    have : a = s := by omega
    exact this ▸ h
  . exact fun h => ⟨s, h, rfl⟩
theorem te' (T : List (List Nat)) {Q : D -> Prop} : wD (ee' (co' T)) Q = Q (.int T.length) := by
  unfold co'
  rw [nO', List.length_map]
theorem tf' (T : List Nat) {Q : D -> Prop} : wD (ee' (bX' T)) Q = Q (.int T.length) := by
  unfold bX'
  rw [nO', List.length_map]
theorem tg' (T : List Nat) {Q : D -> Prop} : wD (ee' (cZ' T)) Q = Q (.int T.length) := by
  unfold cZ'
  rw [nO', List.length_map]
theorem nD' (v : Nat) : ∀ l : List Nat, (l.map (Nat.cast : Nat -> Int)).idxOf (v : Int) = l.idxOf v
  | [] => rfl
  | a :: l => by
    simp only [List.map_cons, List.idxOf_cons, nD' v l]
    have : ((a : Int) == (v : Int)) = (a == v) := by rw [Bool.eq_iff_iff]; simp; omega
    rw [this]
theorem tj' (l : List Nat) (v : Nat) {Q : D -> Prop} : wD (qV' (l.map fun s => .int (s : Nat)) [.int (v : Nat)]) Q = wC (v ∈ l) (Q (.int (l.idxOf v : Nat))) := by
  have h := nP' (Q := Q) (l.map (Nat.cast : Nat -> Int)) (v : Int)
  rw [List.map_map, nD'] at h
  rw [show (l.map fun s => D.int (s : Nat)) = l.map (D.int ∘ (Nat.cast : Nat -> Int)) from rfl, h]
  congr 1
  simp only [List.mem_map]
  rw [eq_iff_iff]
  constructor
  . rintro ⟨a, h, e⟩
    have : a = v := by omega
    exact this ▸ h
  . exact fun h => ⟨v, h, rfl⟩
theorem s5' (i : Nat) : fnd (some i) = (i : Int) := rfl
theorem nC' (a : Tx) (c : Nat) (i : Nat) : uk' a [c] i = decide (a[i]? = some c) := by
  unfold uk'
  rw [Bool.eq_iff_iff]
  simp only [Bool.and_eq_true, decide_eq_true_eq, List.length_cons, List.length_nil]
  constructor
  . rintro ⟨h1, h2⟩
    rw [List.take_one, List.head?_drop] at h2
    revert h2
    cases a[i]? <;> simp
  . intro h
    have := (List.getElem?_eq_some_iff.mp h).1
    refine ⟨by omega, ?_⟩
    rw [List.take_one, List.head?_drop, h]
    rfl
theorem s3' {a : Tx} {c : Nat} (h : c ∈ a) : nE' a [c] = some (a.idxOf c) := by
  unfold nE'
  rw [List.find?_range_eq_some]
  have hi : a.idxOf c < a.length := List.idxOf_lt_length_iff.mpr h
  refine ⟨?_, by simp; omega, ?_⟩
  . rw [nC', decide_eq_true_iff, List.getElem?_eq_getElem hi, List.getElem_idxOf]
  . intro j hj
    rw [nC']
    simp only [Bool.not_eq_eq_eq_not, Bool.not_true, decide_eq_false_iff_not]
    intro e
    obtain ⟨hl, e⟩ := List.getElem?_eq_some_iff.mp e
    have := List.not_of_lt_findIdx (p := (· == c)) (xs := a) hj
    simp [e] at this
def stp (L : Tx) (T : List (List Nat)) (s c : Nat) : Nat := (((T[s]?).getD [])[L.idxOf c]?).getD 0
def run (L : Tx) (T : List (List Nat)) (s : Nat) (x : Tx) : Nat := x.foldl (stp L T) s
theorem hV' {L : Tx} {T : List (List Nat)} (h : a3' T T.length L.length) {s c : Nat} (hs : s < T.length) (hc : c ∈ L) : ∃ r, T[s]? = some r /\ r[L.idxOf c]? = some (stp L T s c) /\ stp L T s c < T.length := by
  have hr := h.2 T[s] (List.getElem_mem hs)
  have hi : L.idxOf c < T[s].length := by rw [hr.1]; exact List.idxOf_lt_length_iff.mpr hc
  have e : stp L T s c = T[s][L.idxOf c] := by
    unfold stp
    rw [List.getElem?_eq_getElem hs, Option.getD_some, List.getElem?_eq_getElem hi, Option.getD_some]
  exact ⟨T[s], List.getElem?_eq_getElem hs, by rw [e, List.getElem?_eq_getElem hi], by rw [e]; exact hr.2 _ (List.getElem_mem hi)⟩
theorem qg' {L T s} : run L T s [] = s := rfl
theorem nc' {L T s x c} : run L T s (x ++ [c]) = stp L T (run L T s x) c := by unfold run; rw [List.foldl_append]; rfl
theorem dP' {L T s x y} : run L T s (x ++ y) = run L T (run L T s x) y := by unfold run; rw [List.foldl_append]
theorem gd' {L T s c x} : run L T s (c :: x) = run L T (stp L T s c) x := rfl
theorem t2' {L : Tx} {T : List (List Nat)} (h : a3' T T.length L.length) {s : Nat} (hs : s < T.length) : ∀ {x : Tx}, (∀ c ∈ x, c ∈ L) -> run L T s x < T.length := by
  intro x
  induction x generalizing s with
  | nil => intro _; exact hs
  | cons c x ih =>
    intro hx
    obtain ⟨_, _, _, h3⟩ := hV' h hs (hx c (by simp))
    exact ih h3 (fun d hd => hx d (by simp [hd]))
def A5' (L : Tx) (T : List (List Nat)) (A : List Nat) : Ob := .ins "Machine" [("kept_letters", .fz (.str L)), ("kept_table", .fz (co' T)), ("kept_accepts", .fz (cZ' A)), ("kept_least", .fz .non), ("kept_field", .fz .non), ("kept_lots", .dct [] []), ("kept_more", .dct [] [])]
structure Mac (w : W) (m : Nat) (L : Tx) (T : List (List Nat)) (A : List Nat) : Prop where
  fl : ∀ cs, "Machine" ∈ cs -> gZ' cs "kept_letters" w (.obj m) = some (.str L)
  ft : ∀ cs, "Machine" ∈ cs -> gZ' cs "kept_table" w (.obj m) = some (co' T)
  fa : ∀ cs, "Machine" ∈ cs -> gZ' cs "kept_accepts" w (.obj m) = some (cZ' A)
theorem Mac.new {w : W} {m : Nat} {L T A} (h : w[m]? = some (A5' L T A)) : Mac w m L T A := by
  refine ⟨fun cs hc => ?_, fun cs hc => ?_, fun cs hc => ?_⟩
  all_goals simp [gZ', h, A5', hc, List.lookup]
theorem Mac.but {w w' : W} {m n : Nat} {L T A} (h : Mac w m L T A) (hb : But n w w') (hn : m ≠ n) : Mac w' m L T A := by
  refine ⟨fun cs hc => ?_, fun cs hc => ?_, fun cs hc => ?_⟩
  . have := h.fl cs hc; simpa only [gZ', hb.2 m hn] using this
  . have := h.ft cs hc; simpa only [gZ', hb.2 m hn] using this
  . have := h.fa cs hc; simpa only [gZ', hb.2 m hn] using this
theorem Mac.snoc {w : W} {m : Nat} {L T A} {o : Ob} (h : Mac w m L T A) (hn : m < w.length) : Mac (w ++ [o]) m L T A := by
  have e : (w ++ [o])[m]? = w[m]? := List.getElem?_append_left hn
  refine ⟨fun cs hc => ?_, fun cs hc => ?_, fun cs hc => ?_⟩
  . have := h.fl cs hc; simpa only [gZ', e] using this
  . have := h.ft cs hc; simpa only [gZ', e] using this
  . have := h.fa cs hc; simpa only [gZ', e] using this
theorem c0'.snoc {w : W} {n : Nat} {o : Ob} (h : c0' w n) : c0' (w ++ [o]) n := by
  obtain ⟨c, i, b, s, k, e, hi⟩ := h
  exact ⟨c, i, b, s, k, by rw [List.getElem?_append_left (bs' e)]; exact e, hi⟩
theorem Mac.made {w : W} {L T A} : Mac (w ++ [A5' L T A]) w.length L T A := Mac.new (by rw [List.getElem?_append_right (by omega), Nat.sub_self]; rfl)
end M
namespace M
theorem wD.mono {α : Type} {o : Option α} {Q Q' : α -> Prop} (h : wD o Q) (k : ∀ a, Q a -> Q' a) : wD o Q' := by
  rw [ay'] at *
  cases o with
  | none => exact h
  | some a => exact k a h
theorem q8' {own : List Nat} {g : MG} {t : MT} {e : ME} {γ : Type} {f : γ -> D} {cs : List γ} {Q : List D -> PSt -> Prop} {X : Exc -> PSt -> Prop} {env : List (Option O)} {w : W} (p : γ -> Bool) (v : γ -> D) (hl : cs.length <= 16777216)
    (step : ∀ c ∈ cs, wD (g (f c) ⟨aD' own env, w⟩) fun ρ1 => wE (t ρ1) (fun k ρ2 => k = p c /\ ρ2.w = w /\ aD' own ρ2.env = aD' own env /\ (p c = true -> wE (e ρ2) (fun y ρ3 => y = v c /\ ρ3.w = w /\ aD' own ρ3.env = aD' own env) PX)) PX)
    (hend : ∀ env2, aD' own env2 = aD' own env -> Q ((cs.filter p).map v) ⟨env2, w⟩) : wE (lcL own g t e (cs.map f) [] ⟨env, w⟩) Q X := by
  refine ia' hl (fun pre acc ρ => acc = (pre.filter p).map v /\ ρ.w = w /\ aD' own ρ.env = aD' own env) ⟨rfl, rfl, rfl⟩ ?_ ?_
  . rintro pre c post acc ρ ec ⟨rfl, hw, he⟩
    have s := step c (by rw [ec]; simp)
    rw [he, hw]
    refine s.mono fun ρ1 s => ?_
    refine s.mono ?_ (fun _ _ z => z)
    rintro k ρ2 ⟨rfl, h1, h2, h3⟩
    cases hp : p c with
    | false =>
      rw [xi']
      exact ⟨by simp [hp], h1, h2⟩
    | true =>
      rw [wN']
      refine (h3 hp).mono ?_ (fun _ _ z => z)
      rintro y ρ3 ⟨rfl, h4, h5⟩
      exact ⟨by simp [hp], h4, h5⟩
  . rintro acc ⟨env2, w2⟩ ⟨rfl, hw, he⟩
    simp only at hw he
    subst hw
    exact hend env2 he
theorem h9' {own : List Nat} {g : MG} {t : MT} {e : ME} {γ : Type} {f : γ -> D} {cs : List γ} {Q : List D -> PSt -> Prop} {X : Exc -> PSt -> Prop} {env : List (Option O)} {w : W} (v : γ -> D) (hl : cs.length <= 16777216)
    (step : ∀ c ∈ cs, wD (g (f c) ⟨aD' own env, w⟩) fun ρ1 => wE (t ρ1) (fun k ρ2 => k = true /\ wE (e ρ2) (fun y ρ3 => y = v c /\ ρ3.w = w /\ aD' own ρ3.env = aD' own env) PX) PX)
    (hend : ∀ env2, aD' own env2 = aD' own env -> Q (cs.map v) ⟨env2, w⟩) : wE (lcL own g t e (cs.map f) [] ⟨env, w⟩) Q X := by
  refine ia' hl (fun pre acc ρ => acc = pre.map v /\ ρ.w = w /\ aD' own ρ.env = aD' own env) ⟨rfl, rfl, rfl⟩ ?_ ?_
  . rintro pre c post acc ρ ec ⟨rfl, hw, he⟩
    have s := step c (by rw [ec]; simp)
    rw [he, hw]
    refine s.mono fun ρ1 s => ?_
    refine s.mono ?_ (fun _ _ z => z)
    rintro k ρ2 ⟨rfl, h3⟩
    rw [wN']
    refine h3.mono ?_ (fun _ _ z => z)
    rintro y ρ3 ⟨rfl, h4, h5⟩
    exact ⟨by simp, h4, h5⟩
  . rintro acc ⟨env2, w2⟩ ⟨rfl, hw, he⟩
    simp only at hw he
    subst hw
    exact hend env2 he
theorem q6' {own : List Nat} {g : MG} {t : MT} {e : ME} {lo : Int} {n : Nat} {Q : List D -> PSt -> Prop} {X : Exc -> PSt -> Prop} {env : List (Option O)} {w : W} (p : Nat -> Bool) (v : Nat -> D) (hl : n <= 16777216)
    (step : ∀ c < n, wD (g (.int (lo + (c : Nat))) ⟨aD' own env, w⟩) fun ρ1 => wE (t ρ1) (fun k ρ2 => k = p c /\ ρ2.w = w /\ aD' own ρ2.env = aD' own env /\ (p c = true -> wE (e ρ2) (fun y ρ3 => y = v c /\ ρ3.w = w /\ aD' own ρ3.env = aD' own env) PX)) PX)
    (hend : ∀ env2, aD' own env2 = aD' own env -> Q (((List.range n).filter p).map v) ⟨env2, w⟩) : wE (lcL own g t e (rgI lo n) [] ⟨env, w⟩) Q X :=
  q8' (f := fun i : Nat => D.int (lo + (i : Nat))) p v (by simpa using hl) (fun c hc => step c (List.mem_range.mp hc)) hend
theorem gT' {own : List Nat} {g : MG} {t : MT} {e : ME} {lo : Int} {n : Nat} {Q : List D -> PSt -> Prop} {X : Exc -> PSt -> Prop} {env : List (Option O)} {w : W} (v : Nat -> D) (hl : n <= 16777216)
    (step : ∀ c < n, wD (g (.int (lo + (c : Nat))) ⟨aD' own env, w⟩) fun ρ1 => wE (t ρ1) (fun k ρ2 => k = true /\ wE (e ρ2) (fun y ρ3 => y = v c /\ ρ3.w = w /\ aD' own ρ3.env = aD' own env) PX) PX)
    (hend : ∀ env2, aD' own env2 = aD' own env -> Q ((List.range n).map v) ⟨env2, w⟩) : wE (lcL own g t e (rgI lo n) [] ⟨env, w⟩) Q X :=
  h9' (f := fun i : Nat => D.int (lo + (i : Nat))) v (by simpa using hl) (fun c hc => step c (List.mem_range.mp hc)) hend
end M
namespace M
def s8' : O -> D -> D -> Option (D × O)
  | .dct ks os, y, d => if isK y = true /\ ks.length < di' then (match dget ks os y with
    | some (.fz e) => some (e, .dct ks os)
    | some _ => none
    | none => some (d, .dct (ks ++ [y]) (os ++ [.fz d]))) else none
  | _, _, _ => none
def rh' : O -> Prop
  | .dct _ _ => True
  | _ => False
section
variable {ρ : PSt} {P : D -> PSt -> Prop} {R : O -> PSt -> Prop} {X : Exc -> PSt -> Prop} {Y : List D -> PSt -> Prop}
theorem uV' (neg : Bool) (i : Nat) (a : ME) : vE (rs' neg i a ρ) P X = vE (a ρ) (fun k ρ1 => vO ρ1.env[i]? fun o => vD (cd' o k) fun r => P (.bl (r.isSome != neg)) ρ1) X := by
  unfold rs'
  rw [ah']
  congr
  funext k ρ1
  rcases ρ1.env[i]? with _ | _ | o
  . rfl
  . rfl
  . show vE (ofO _ _) P X = vD _ _
    rw [a8', cn']
theorem uU' (i : Nat) (b : ME) (env : List (Option O)) (w : W) : vE (ig' i b ⟨env, w⟩) P X = vO env[i]? fun _ => vE (b ⟨env, w⟩) (fun k ρ1 => vO ρ1.env[i]? fun o => vD (rN' (cd' o k)) fun z => P z ρ1) X := by
  show vE (match env[i]? with
  | some (some _) => (b ⟨env, w⟩).bind fun k ρ1 => match ρ1.env[i]? with
    | some (some o) => ofO (rN' (cd' o k)) ρ1
    | _ => .bad
  | _ => .bad) P X = _
  rcases env[i]? with _ | _ | o
  . rfl
  . rfl
  simp only [ah', vO]
  congr
  funext k ρ1
  rcases ρ1.env[i]? with _ | _ | o
  . rfl
  . rfl
  exact a8' _
theorem oY' (i : Nat) (k a : ME) (env : List (Option O)) (w : W) : vE (if' i k a ⟨env, w⟩) P X = vO env[i]? fun o0 => rh' o0 /\ vE (k ⟨env, w⟩) (fun y ρ1 => vE (a ρ1) (fun d ρ2 => vO ρ2.env[i]? fun o => vD (s8' o y d) fun p => P p.1 ⟨ρ2.env.set i (some p.2), ρ2.w⟩) X) X := by
  unfold if'
  show vE (match env[i]? with
  | some (some (.dct _ _)) => _
  | _ => .bad) P X = _
  rcases env[i]? with _ | _ | o
  . rfl
  . rfl
  cases o with
  | dct ks0 os0 =>
    simp only [ah', vO, rh', true_and]
    congr
    funext y ρ1
    congr
    funext d ρ2
    rcases h : ρ2.env[i]? with _ | _ | o
    . rfl
    . rfl
    cases o with
    | dct ks os =>
      show vE (if isK y = true /\ ks.length < di' then _ else _) P X = vD (s8' (.dct ks os) y d) _
      show _ = vD (if isK y = true /\ ks.length < di' then (match dget ks os y with | some (.fz e) => some (e, O.dct ks os) | some _ => none | none => some (d, .dct (ks ++ [y]) (os ++ [.fz d]))) else none) _
      by_cases hc : isK y = true /\ ks.length < di'
      . rw [if_pos hc, if_pos hc]
        rcases dget ks os y with _ | o
        . rfl
        . cases o with
          | fz e =>
            show P e ρ2 = P e ⟨ρ2.env.set i _, ρ2.w⟩
            have hi : ρ2.env.set i (some (.dct ks os)) = ρ2.env := by
              obtain ⟨hl, e⟩ := List.getElem?_eq_some_iff.mp h
              rw [<- e, List.set_getElem_self]
            rw [hi]
          | _ => rfl
      . rw [if_neg hc, if_neg hc]; rfl
    | _ => rfl
  | _ => simp [vO, rh', vE]
theorem oO'  : vE (qM' ρ) R X = R (.dcx [] []) ρ := rfl
theorem n0' (x : Bool) (k a : ME) : vE (fO' x k a ρ) R X = vE (k ρ) (fun y ρ1 => vE (a ρ1) (fun d ρ2 => vD (fM' x y d) fun o => R o ρ2) X) X := by simp only [fO', ah', a8']
theorem oP' (f : D -> Option (List D)) (a : ME) : vE (rk' f a ρ) Y X = vE (a ρ) (fun x ρ1 => vD (f x) fun ds => Y ds ρ1) X := by simp only [rk', ah', a8']
theorem uR' (own : List Nat) (it : MI) (g : MG) (t : MT) (ek ev : ME) : vE (oDc own it g t ek ev ρ) R X = vE (it ρ) (fun xs ρ1 => vE (dcL own g t ek ev xs [] [] ρ1) (fun p ρ2 => R (.dct p.1 (p.2.map .fz)) ⟨back ρ1.env own (aD' own ρ2.env), ρ2.w⟩) X) X := by simp only [oDc, ah', fY']
theorem uT' (ps : List (String × String)) (f : MF) (a b : ME) : vE (uq' ps f a b ρ) P X = vE (a ρ) (fun x ρ1 => vE (b ρ1) (fun y ρ2 => v1' ps ρ2.w x y = true /\ vF (f [x, y] ρ2.w) (fun o w => ∃ r, o = .fz (.bl r) /\ P (.bl r) ⟨ρ2.env, w⟩) (fun _ _ => False)) X) X := by
  simp only [uq', ah']
  congr
  funext x ρ1
  congr
  funext y ρ2
  by_cases h : v1' ps ρ2.w x y = true
  . rw [if_pos h]
    simp only [h, true_and]
    cases f [x, y] ρ2.w with
    | ok o w =>
      show vE (match O.fz (.bl true) with | _ => _) P X = _
      cases o with
      | fz d => cases d <;> simp [vE, vF]
      | _ => simp [vE, vF]
    | exc x w => rfl
    | bad => rfl
  . rw [if_neg h]
    simp [vE, h]
theorem uS' (t : ET) (c : String) (a : ME) : vE (wX' t c a ρ) P X = vE (a ρ) (fun x ρ1 => vD (isC t c ρ1.w x) fun b => P (.bl b) ρ1) X := by simp only [wX', ah', a8', cn']
variable {N : PSt -> Prop} {rt : O -> W -> Prop} {bk ct : PSt -> Prop} {ex : Exc -> PSt -> Prop}
theorem uW' (i : Nat) (k a : ME) : vS (na' i k a ρ) ⟨N, rt, bk, ct, ex⟩ = vE (a ρ) (fun d ρ1 => vO ρ1.env[i]? fun _ => vE (k ρ1) (fun y ρ2 => vO ρ2.env[i]? fun o => vD (eH' o y (.fz d)) fun o' => N ⟨ρ2.env.set i (some o'), ρ2.w⟩) ex) ex := by
  simp only [na', bO']
  congr
  funext d ρ1
  rcases ρ1.env[i]? with _ | _ | o
  . rfl
  . rfl
  simp only [bO', vO]
  congr
  funext y ρ2
  rcases ρ2.env[i]? with _ | _ | o
  . rfl
  . rfl
  show vS (match eH' o y (.fz d) with | some o' => Out.nx _ | none => Out.bad) _ = vD (eH' o y (.fz d)) _
  cases eH' o y (.fz d) <;> rfl
theorem Al' (neg : Bool) (i : Nat) (a : ME) : wE (rs' neg i a ρ) P X = wE (a ρ) (fun k ρ1 => wO ρ1.env[i]? fun o => wD (cd' o k) fun r => P (.bl (r.isSome != neg)) ρ1) X := by simp only [dn', fc', ff', ay', gq', gr', gm', go', fa', fd', gn', gp', cw', cg', er', cS', b8']; exact uV' ..
theorem Ak' (i : Nat) (b : ME) (env : List (Option O)) (w : W) : wE (ig' i b ⟨env, w⟩) P X = wO env[i]? fun _ => wE (b ⟨env, w⟩) (fun k ρ1 => wO ρ1.env[i]? fun o => wD (rN' (cd' o k)) fun z => P z ρ1) X := by simp only [dn', fc', ff', ay', gq', gr', gm', go', fa', fd', gn', gp', cw', cg', er', cS', b8']; exact uU' ..
theorem uG' (i : Nat) (k a : ME) (env : List (Option O)) (w : W) : wE (if' i k a ⟨env, w⟩) P X = wO env[i]? fun o0 => rh' o0 /\ wE (k ⟨env, w⟩) (fun y ρ1 => wE (a ρ1) (fun d ρ2 => wO ρ2.env[i]? fun o => wD (s8' o y d) fun p => P p.1 ⟨ρ2.env.set i (some p.2), ρ2.w⟩) X) X := by simp only [dn', fc', ff', ay', gq', gr', gm', go', fa', fd', gn', gp', cw', cg', er', cS', b8']; exact oY' ..
theorem uB'  : wE (qM' ρ) R X = R (.dcx [] []) ρ := by simp only [dn', fc', ff', ay', gq', gr', gm', go', fa', fd', gn', gp', cw', cg', er', cS', b8']; exact oO' ..
theorem r0' (x : Bool) (k a : ME) : wE (fO' x k a ρ) R X = wE (k ρ) (fun y ρ1 => wE (a ρ1) (fun d ρ2 => wD (fM' x y d) fun o => R o ρ2) X) X := by simp only [dn', fc', ff', ay', gq', gr', gm', go', fa', fd', gn', gp', cw', cg', er', cS', b8']; exact n0' ..
theorem uE' (f : D -> Option (List D)) (a : ME) : wE (rk' f a ρ) Y X = wE (a ρ) (fun x ρ1 => wD (f x) fun ds => Y ds ρ1) X := by simp only [dn', fc', ff', ay', gq', gr', gm', go', fa', fd', gn', gp', cw', cg', er', cS', b8']; exact oP' ..
theorem z9' (own : List Nat) (it : MI) (g : MG) (t : MT) (ek ev : ME) : wE (oDc own it g t ek ev ρ) R X = wE (it ρ) (fun xs ρ1 => wE (dcL own g t ek ev xs [] [] ρ1) (fun p ρ2 => R (.dct p.1 (p.2.map .fz)) ⟨back ρ1.env own (aD' own ρ2.env), ρ2.w⟩) X) X := by simp only [dn', fc', ff', ay', gq', gr', gm', go', fa', fd', gn', gp', cw', cg', er', cS', b8']; exact uR' ..
theorem Aj' (ps : List (String × String)) (f : MF) (a b : ME) : wE (uq' ps f a b ρ) P X = wE (a ρ) (fun x ρ1 => wE (b ρ1) (fun y ρ2 => v1' ps ρ2.w x y = true /\ wF (f [x, y] ρ2.w) (fun o w => ∃ r, o = .fz (.bl r) /\ P (.bl r) ⟨ρ2.env, w⟩) (fun _ _ => False)) X) X := by simp only [dn', fc', ff', ay', gq', gr', gm', go', fa', fd', gn', gp', cw', cg', er', cS', b8']; exact uT' ..
theorem Ah' (t : ET) (c : String) (a : ME) : wE (wX' t c a ρ) P X = wE (a ρ) (fun x ρ1 => wD (isC t c ρ1.w x) fun b => P (.bl b) ρ1) X := by simp only [dn', fc', ff', ay', gq', gr', gm', go', fa', fd', gn', gp', cw', cg', er', cS', b8']; exact uS' ..
theorem AH' (i : Nat) (k a : ME) : wS (na' i k a ρ) ⟨N, rt, bk, ct, ex⟩ = wE (a ρ) (fun d ρ1 => wO ρ1.env[i]? fun _ => wE (k ρ1) (fun y ρ2 => wO ρ2.env[i]? fun o => wD (eH' o y (.fz d)) fun o' => N ⟨ρ2.env.set i (some o'), ρ2.w⟩) ex) ex := by simp only [dn', fc', ff', ay', gq', gr', gm', go', fa', fd', gn', gp', cw', cg', er', cS', b8']; exact uW' ..
theorem wb' (a : Tx) (b : List D) {Y : List D -> Prop} : wD (CB' (.str a) (.lst b)) Y = Y (dk' (a.map chD) b) := by rw [ay']; rfl
end
theorem eV' {γ δ α : Type} [DecidableEq γ] (e : γ -> D) (he : ∀ a b, eqb (e a) (e b) = decide (a = b)) (v : δ -> α) (k : γ) : ∀ l : List (γ × δ), dget (l.map fun p => e p.1) (l.map fun p => v p.2) (e k) = (l.lookup k).map v
  | [] => rfl
  | (a, b) :: l => by
    have ih := eV' e he v k l
    unfold dget gg' at *
    rw [List.map_cons, List.map_cons, List.findIdx?_cons, he, List.lookup_cons]
    by_cases h : a = k
    . subst h; simp
    . have h2 : (k == a) = false := by simp; exact fun e => h e.symm
      rw [decide_eq_false h, h2]
      simp only [Bool.false_eq_true, if_false]
      rw [<- ih]
      cases List.findIdx? (fun d => eqb d (e k)) (l.map fun p => e p.1) <;> simp
theorem gf' {γ δ : Type} [DecidableEq γ] (e : γ -> D) (he : ∀ a b, eqb (e a) (e b) = decide (a = b)) (k : γ) : ∀ l : List (γ × δ), l.lookup k = none -> gg' (l.map fun p => e p.1) (e k) = none
  | [], _ => rfl
  | (a, b) :: l, h => by
    rw [List.lookup_cons] at h
    by_cases hk : a = k
    . subst hk; simp at h
    . have h2 : (k == a) = false := by simp; exact fun e => hk e.symm
      rw [h2] at h
      have ih := gf' e he k l h
      unfold gg' at *
      rw [List.map_cons, List.findIdx?_cons, he, decide_eq_false hk]
      simp only [Bool.false_eq_true, if_false, ih, Option.map_none]
theorem fy' (a b : Nat) : eqb (.int (a : Nat)) (.int (b : Nat)) = decide (a = b) := by
  simp only [eqb]
  rw [Bool.eq_iff_iff]
  simp
  try omega
def dN (l : List (Nat × D)) : O := .dct (l.map fun p => .int (p.1 : Nat)) (l.map fun p => .fz p.2)
def dNz (l : List (Nat × D)) : D := .dct (l.map fun p => .int (p.1 : Nat)) (l.map fun p => p.2)
def dX {γ : Type} (e : γ -> D) (l : List (γ × D)) : O := .dcx (l.map fun p => e p.1) (l.map fun p => .fz p.2)
structure KeyE {γ : Type} [DecidableEq γ] (e : γ -> D) : Prop where
  eq : ∀ a b, eqb (e a) (e b) = decide (a = b)
  kat : ∀ a, kat (e a) = true
  dep : ∀ a, dep (e a) <= 8
  sca : ∀ a b, sca (e a) = sca (e b)
theorem ny' {γ : Type} [DecidableEq γ] {e : γ -> D} (he : KeyE e) (k : γ) (l : List (γ × D)) : rb' (l.map fun p => e p.1) (e k) = true := by
  unfold rb'
  rw [he.kat, decide_eq_true (he.dep k)]
  simp only [Bool.and_true, Bool.true_and, List.all_eq_true, List.mem_map]
  rintro _ ⟨p, _, rfl⟩
  simp [he.sca p.1 k]
theorem ul' (l : List (Nat × D)) : frz (dN l) = dNz l := by
  unfold dN dNz
  simp only [frz, cj', List.map_map]
  rfl
theorem Aq' (l : List (Nat × D)) (i : Nat) (env : List (Option O)) (w : W) {P : D -> PSt -> Prop} : wV (some (some (dN l))) i ⟨env, w⟩ P = P (dNz l) ⟨env.set i (some (.fz (dNz l))), w⟩ := by
  rw [fa']
  show vV (some (some (O.dct _ _))) _ _ _ = _
  rw [<- ul']; rfl
theorem Au' (l : List (Nat × D)) (i : Nat) (env : List (Option O)) (w : W) {P : O -> PSt -> Prop} : wG (some (some (dN l))) i ⟨env, w⟩ P = P (dN l) ⟨env.set i none, w⟩ := by
  rw [fd']; rfl
theorem lp' (l : List (Nat × D)) (k : Nat) : cd' (dN l) (.int (k : Nat)) = some ((l.lookup k).map .fz) := by
  show (if isK (.int (k : Nat)) = true then some (dget _ _ _) else none) = _
  rw [if_pos (show isK (.int (k : Nat)) = true from rfl), eV' (fun n : Nat => D.int (n : Nat)) fy' O.fz k l]
theorem iQ' (l : List (Nat × D)) (k : Nat) : cd' (.fz (dNz l)) (.int (k : Nat)) = some ((l.lookup k).map .fz) := by
  show (if isK (.int (k : Nat)) = true then some (dget _ (List.map O.fz (l.map fun p => p.2)) _) else none) = _
  rw [if_pos (show isK (.int (k : Nat)) = true from rfl), List.map_map]
  exact congrArg some (eV' (fun n : Nat => D.int (n : Nat)) fy' O.fz k l)
theorem dC' {γ : Type} [DecidableEq γ] {e : γ -> D} (he : KeyE e) (l : List (γ × D)) (k : γ) : cd' (dX e l) (e k) = some ((l.lookup k).map .fz) := by
  show (if rb' (l.map fun p => e p.1) (e k) = true then some (dget _ _ _) else none) = _
  rw [if_pos (ny' he k l), eV' e he.eq O.fz k l]
section
variable {Q : Option O -> Prop} {P : D -> Prop} {N : O -> Prop} {Y : List D -> Prop}
theorem wl' (l : List (Nat × D)) (k : Nat) : wD (cd' (dN l) (.int (k : Nat))) Q = Q ((l.lookup k).map .fz) := by rw [lp', a7']
theorem td' (l : List (Nat × D)) (k : Nat) : wD (cd' (.fz (dNz l)) (.int (k : Nat))) Q = Q ((l.lookup k).map .fz) := by rw [iQ', a7']
theorem nS' (o : Option D) : rN' (some (o.map .fz)) = o := by cases o <;> rfl
theorem wJ' (d : D) : rN' (some (some (.fz d))) = some d := rfl
theorem BC' (l : List (Nat × D)) (k : Nat) : wD (rN' (cd' (dN l) (.int (k : Nat)))) P = wD (l.lookup k) P := by rw [lp', nS']
theorem zp' (l : List (Nat × D)) (k : Nat) : wD (rN' (cd' (.fz (dNz l)) (.int (k : Nat)))) P = wD (l.lookup k) P := by rw [iQ', nS']
theorem y7' {l : List (Nat × D)} {k : Nat} (h : l.lookup k = none) (hl : l.length < 16777216) (d : D) : wD (eH' (dN l) (.int (k : Nat)) (.fz d)) N = N (dN (l ++ [(k, d)])) := by
  show wD (if isK (.int (k : Nat)) = true then (ni' _ _ _ _).map (fun p => O.dct p.1 p.2) else none) N = _
  rw [if_pos (show isK (.int (k : Nat)) = true from rfl), l1']
  unfold ni'
  rw [gf' (fun n : Nat => D.int (n : Nat)) fy' k l h]
  simp only
  rw [if_pos (by rw [List.length_map]; exact hl), a7']
  unfold dN
  simp
theorem lg' {γ : Type} [DecidableEq γ] {e : γ -> D} (he : KeyE e) {l : List (γ × D)} {k : γ} (h : l.lookup k = none) (hl : l.length < 16777216) (d : D) : eH' (dX e l) (e k) (.fz d) = some (dX e (l ++ [(k, d)])) := by
  show (if rb' (l.map fun p => e p.1) (e k) = true then (ni' _ _ _ _).map (fun p => O.dcx p.1 p.2) else none) = _
  rw [if_pos (ny' he k l)]
  unfold ni'
  rw [gf' e he.eq k l h]
  simp only
  rw [if_pos (by rw [List.length_map]; exact hl)]
  unfold dX
  simp
theorem zj' (l : List (Nat × D)) : wD (rT' (dN l)) P = P (.int l.length) := by
  show wD (some (D.int _)) P = _
  rw [a7', List.length_map]
theorem zg' {γ : Type} (e : γ -> D) (l : List (γ × D)) : wD (rT' (dX e l)) P = P (.int l.length) := by
  show wD (some (D.int _)) P = _
  rw [a7', List.length_map]
theorem ws' (l : List (Nat × D)) : wD (ee' (dNz l)) P = P (.int l.length) := by
  show wD (some (D.int _)) P = _
  rw [a7', List.length_map]
theorem wi' {l : List (Nat × D)} {k : Nat} (hl : l.length < 16777216) (d : D) {Q : D × O -> Prop} : wD (s8' (dN l) (.int (k : Nat)) d) Q = match l.lookup k with
    | some e => Q (e, dN l)
    | none => Q (d, dN (l ++ [(k, d)])) := by
  show wD (if isK (.int (k : Nat)) = true /\ (l.map fun p => D.int (p.1 : Nat)).length < di' then (match dget (l.map fun p => D.int (p.1 : Nat)) (l.map fun p => O.fz p.2) (.int (k : Nat)) with
    | some (.fz e) => some (e, O.dct _ _)
    | some _ => none
    | none => some (d, .dct ((l.map fun p => D.int (p.1 : Nat)) ++ [.int (k : Nat)]) ((l.map fun p => O.fz p.2) ++ [.fz d]))) else none) Q = _
  rw [if_pos ⟨rfl, by rw [List.length_map]; exact hl⟩, eV' (fun n : Nat => D.int (n : Nat)) fy' O.fz k l]
  cases l.lookup k with
  | none =>
    simp only [Option.map_none, a7']
    unfold dN
    simp
  | some e => simp only [Option.map_some, a7']; rfl
theorem sZ' (l : List (Nat × D)) : rh' (dN l) = True := rfl
theorem jf' {γ : Type} (f g : γ -> D) : ∀ l : List γ, dk' (l.map f) (l.map g) = l.map fun p => .tup [f p, g p]
  | [] => rfl
  | a :: l => by
    simp only [List.map_cons, dk', jf' f g l]
theorem wx' (l : List (Nat × D)) : wD (ry' (dNz l)) Y = Y (l.map fun p => .tup [.int (p.1 : Nat), p.2]) := by
  show wD (some (dk' _ _)) Y = _
  rw [a7', jf']
theorem yY' (l : List (Nat × D)) : wD (B0' (dNz l)) Y = Y (l.map fun p => p.2) := by
  show wD (some _) Y = _
  rw [a7']
theorem zm' (l : List (Nat × D)) : wD (B1' (dNz l)) Y = Y (l.map fun p => .int (p.1 : Nat)) := by
  show wD (some _) Y = _
  rw [a7']
theorem ic' {γ : Type} (f : γ -> Int) (l : List γ) : bz' (l.map fun p => .int (f p)) = some (l.map f) := by
  have := ls' (l.map f)
  rw [List.map_map] at this
  exact this
theorem zd' {γ : Type} (f : γ -> Nat) (g : γ -> Int) (l : List γ) (h : l ≠ []) : wD (n8' (dNz (l.map fun p => (f p, .int (g p))))) P = P (.int (nu' (l.map g))) := by
  show wD ((bz' ((l.map fun p => (f p, D.int (g p))).map fun p => p.2)).bind _) P = _
  rw [List.map_map, show ((fun p : Nat × D => p.2) ∘ fun p => (f p, D.int (g p))) = fun p => D.int (g p) from rfl, ic']
  show wD (if l.map g = [] then none else some _) P = _
  rw [if_neg (by simpa using h), a7']
theorem wh' (l : List (Nat × D)) (h : l.length <= 16777216) : wD (dT' (dNz l)) P = P (.lst ((k8' (l.map fun p => (p.1 : Int))).map .int)) := by
  show wD ((bz' (l.map fun p => D.int (p.1 : Nat))).bind _) P = _
  rw [ic' (fun p : Nat × D => (p.1 : Int))]
  show wD (if (l.map fun p => (p.1 : Int)).length <= di' then some _ else none) P = _
  rw [if_pos (by rw [List.length_map]; exact h), a7']
theorem tm' (k : Int) (d : D) : wD (fM' false (.int k) d) N = N (.dct [.int k] [.fz d]) := by
  show wD (some (O.dct [.int k] [.fz d])) N = _
  rw [a7']
theorem uu' (d : D) : wD (x3' d) P = wC (xK' d = true /\ dep d <= 40 /\ t3' d = true /\ rS' d <= 200000) (P (.rep d)) := eq'
theorem Bs' (i j : Bool) : wD (pNe (.bl i) (.bl j)) P = P (.bl (!(i == j))) := by
  rw [show pNe (.bl i) (.bl j) = some (.bl (!(i == j))) from rfl, a7']
theorem BP' (a b : D) : wD (zU' (.rep a) (.rep b)) P = wC (same a b = true) (P (.bl true)) := eq'
end
theorem bt' {γ : Type} (f : Nat -> γ) (k : Nat) : ∀ l : List Nat, (l.map fun s => (s, f s)).lookup k = if k ∈ l then some (f k) else none
  | [] => rfl
  | a :: l => by
    rw [List.map_cons, List.lookup_cons, bt' f k l]
    by_cases h : k = a
    . subst h; simp
    . have : (k == a) = false := by simpa using h
      simp [this, h]
theorem ca' {γ δ : Type} [DecidableEq γ] (k : γ) : ∀ l : List (γ × δ), k ∉ l.map (·.1) -> l.lookup k = none
  | [], _ => rfl
  | (a, b) :: l, h => by
    simp only [List.map_cons, List.mem_cons, not_or] at h
    rw [List.lookup_cons, ca' k l h.2]
    have : (k == a) = false := by simpa using h.1
    rw [this]
mutual
theorem jQ' : ∀ (d : D), dat d = true -> same d d = true
  | .non, _ => rfl
  | .bl b, _ => by simp [same]
  | .int i, _ => by simp [same]
  | .str s, _ => by simp [same]
  | .tup ds, h => by simp only [same]; exact sames_refl ds (by simpa [dat] using h)
  | .lst ds, h => by simp only [same]; exact sames_refl ds (by simpa [dat] using h)
theorem sames_refl : ∀ (ds : List D), dats ds = true -> sames ds ds = true
  | [], _ => rfl
  | d :: r, h => by
    simp only [dats, Bool.and_eq_true] at h
    simp only [sames, jQ' d h.1, sames_refl r h.2, Bool.and_self]
end
theorem yS' {own : List Nat} {g : MG} {t : MT} {ek ev : ME} {γ : Type} {f : γ -> D} {cs : List γ} {Q : List D × List D -> PSt -> Prop} {X : Exc -> PSt -> Prop} {env : List (Option O)} {w : W} (kf : γ -> Nat) (v : γ -> D) (hl : cs.length <= 16777216) (hn : (cs.map kf).Nodup)
    (step : ∀ c ∈ cs, wD (g (f c) ⟨aD' own env, w⟩) fun ρ1 => wE (t ρ1) (fun k ρ2 => k = true /\ wE (ek ρ2) (fun y ρ3 => y = .int (kf c : Nat) /\ wE (ev ρ3) (fun z ρ4 => z = v c /\ ρ4.w = w /\ aD' own ρ4.env = aD' own env) PX) PX) PX)
    (hend : ∀ env2, aD' own env2 = aD' own env -> Q (cs.map (fun c => .int (kf c : Nat)), cs.map v) ⟨env2, w⟩) : wE (dcL own g t ek ev (cs.map f) [] [] ⟨env, w⟩) Q X := by
  have go : ∀ (post pre : List γ) (env1 : List (Option O)), cs = pre ++ post -> aD' own env1 = aD' own env →
      vE (dcL own g t ek ev (post.map f) (pre.map fun c => .int (kf c : Nat)) (pre.map v) ⟨env1, w⟩) Q X := by
    intro post
    induction post with
    | nil =>
      intro pre env1 e he
      rw [List.append_nil] at e
      subst e
      exact hend env1 he
    | cons c post ih =>
      intro pre env1 e he
      have s := step c (by rw [e]; simp)
      rw [ay'] at s
      show vE (match g (f c) ⟨aD' own env1, w⟩ with | none => Res.bad | some ρ1 => _) Q X
      rw [he]
      cases hg : g (f c) ⟨aD' own env, w⟩ with
      | none => rw [hg] at s; exact s
      | some ρ1 =>
        rw [hg] at s
        have s : wE (t ρ1) _ PX := s
        rw [dn'] at s
        dsimp only
        cases ht : t ρ1 with
        | bad => rw [ht] at s; exact s
        | exc x q => rw [ht] at s; exact s.elim
        | ok k ρ2 =>
          rw [ht] at s
          obtain ⟨ek1, s2⟩ := (show k = true /\ wE (ek ρ2) _ PX from s)
          subst ek1
          rw [dn'] at s2
          show vE ((noX (ek ρ2)).bind _) Q X
          cases hk : ek ρ2 with
          | bad => rw [hk] at s2; exact s2
          | exc x q => rw [hk] at s2; exact s2.elim
          | ok y ρ3 =>
            rw [hk] at s2
            obtain ⟨ey, s3⟩ := (show y = .int (kf c : Nat) /\ wE (ev ρ3) _ PX from s2)
            subst ey
            rw [dn'] at s3
            show vE ((noX (ev ρ3)).bind _) Q X
            cases hv : ev ρ3 with
            | bad => rw [hv] at s3; exact s3
            | exc x q => rw [hv] at s3; exact s3.elim
            | ok z ρ4 =>
              rw [hv] at s3
              obtain ⟨ez, hw, he2⟩ := (show z = v c /\ ρ4.w = w /\ aD' own ρ4.env = aD' own env from s3)
              subst ez
              obtain ⟨env4, w4⟩ := ρ4
              simp only at hw he2
              subst hw
              show vE (if isK (.int (kf c : Nat)) = true /\ (pre.map fun c => D.int (kf c : Nat)).length < di' then _ else _) Q X
              have hlen : pre.length < di' := by
                have : cs.length = pre.length + (post.length + 1) := by rw [e]; simp
                unfold di'; omega
              rw [if_pos ⟨rfl, by rw [List.length_map]; exact hlen⟩]
              have hnone : gg' (pre.map fun c => D.int (kf c : Nat)) (.int (kf c : Nat)) = none := by
                have h1 : ((pre.map fun c => (kf c, ())).map fun p => D.int (p.1 : Nat)) = pre.map fun c => D.int (kf c : Nat) := by rw [List.map_map]; rfl
                rw [<- h1]
                refine gf' (fun n : Nat => D.int (n : Nat)) fy' (kf c) _ (ca' _ _ ?_)
                rw [List.map_map]
                intro hm
                rw [e, List.map_append, List.map_cons] at hn
                have := (List.nodup_append.mp hn).2.2 (kf c) (by simpa using hm) (kf c) (by simp)
                exact this rfl
              unfold ni'
              rw [hnone]
              simp only
              rw [if_pos (by rw [List.length_map]; exact hlen)]
              have r := ih (pre ++ [c]) env4 (by rw [e]; simp) he2
              simpa using r
  rw [dn']
  exact go cs [] env rfl rfl
theorem oo' {γ : Type} (kf : γ -> Nat) (v : γ -> D) (cs : List γ) : D.dct (cs.map fun c => .int (kf c : Nat)) (cs.map v) = dNz (cs.map fun c => (kf c, v c)) := by
  unfold dNz
  simp only [List.map_map]
  rfl
section
variable {Q : D -> Prop} {Y : List D -> Prop}
theorem tb' (r : List Nat) : wD (ea' (bX' r)) Y = Y (r.map fun t => .int (t : Nat)) := by unfold bX'; rw [nN']
theorem tc' (r : List Nat) : wD (ea' (cZ' r)) Y = Y (r.map fun t => .int (t : Nat)) := by unfold cZ'; rw [nN']
theorem ta' (T : List (List Nat)) : wD (ea' (co' T)) Y = Y (T.map bX') := by unfold co'; rw [nN']
end
theorem vW' : eS' .non = true := rfl
theorem vV' (n : Nat) : eS' (.obj n) = false := rfl
theorem vY' (n : Int) : eS' (.int n) = false := rfl
theorem vU' (n : Tx) : eS' (.str n) = false := rfl
theorem yy' (n : Bool) : eS' (.bl n) = false := rfl
theorem vT' (n : List D) : eS' (.tup n) = false := rfl
theorem vX' (n : List D) : eS' (.lst n) = false := rfl
section
variable {Q : D -> Prop}
theorem sJ' (cs : List Nat) : gL' (cs.map chD) = some cs := by
  induction cs with
  | nil => rfl
  | cons c cs ih => show (gL' (cs.map chD)).map (c :: ·) = _; rw [ih]; rfl
theorem wg' {cs : List Nat} (h : cs ≠ []) : wD (c2' (.lst (cs.map chD))) Q = wC (cs.length < 64) (Q (.lst ((cy' cs).map chD))) := by
  have e : bz' (cs.map chD) = none := by
    cases cs with
    | nil => exact absurd rfl h
    | cons c cs => rfl
  show wD (match bz' (cs.map chD) with | some ns => some (D.lst ((k8' ns).map .int)) | none => (gL' (cs.map chD)).bind fun cs => if cs.length < 64 then some (.lst ((cy' cs).map chD)) else none) Q = _
  rw [e]
  simp only [sJ', Option.bind_some]
  exact eq'
theorem wn' (s : Tx) : wD (eJ' (.str s)) Q = Q (.lst (s.map chD)) := by
  show wD (some _) Q = _
  rw [a7']
end
theorem za' (F : List Nat) (t : Nat) {P : D -> Prop} : wD (qN' (inO (.int (t : Nat)) (.lst (F.map fun s => .fz (.int (s : Nat)))))) P = P (.bl (!decide (t ∈ F))) := by
  have e1 : (F.map fun s => O.fz (.int (s : Nat))).all (fun o => match o with | .fz _ => true | _ => false) = true := by induction F <;> simp_all
  have e2 : (F.map fun s => O.fz (.int (s : Nat))).map frz = F.map fun s => .int (s : Nat) := by rw [List.map_map]; rfl
  have h := rv' (Q := fun d => wD (qN' (some d)) P) (t : Int) (F.map (Nat.cast : Nat -> Int))
  rw [List.map_map] at h
  show wD (qN' (if (F.map fun s => O.fz (.int (s : Nat))).all (fun o => match o with | .fz _ => true | _ => false) = true then pIn (.int (t : Nat)) (.lst ((F.map fun s => O.fz (.int (s : Nat))).map frz)) else none)) P = _
  rw [if_pos e1, e2]
  have e3 : ∀ o : Option D, wD (qN' o) P = wD o (fun d => wD (qN' (some d)) P) := fun o => by cases o with
    | none => rw [ay', ay']; rfl
    | some d => rw [a7']
  rw [e3]
  refine h.trans ?_
  show wD (some (D.bl (!decide _))) P = _
  rw [a7']
  congr 3
  rw [decide_eq_decide]
  constructor
  . intro hm
    obtain ⟨a, h1, h2⟩ := List.mem_map.mp hm
    have h2 : (a : Int) = (t : Int) := h2
    have : a = t := by omega
    exact this ▸ h1
  . exact fun hm => List.mem_map.mpr ⟨t, hm, rfl⟩
def rf' (o : Option (Option O)) : Option O := match o with
  | some (some (.fz d)) => some (.fz d)
  | _ => none
theorem ts' (env env' : List (Option O)) : back env [] env' = env' := rfl
theorem rH' (env env' : List (Option O)) (i : Nat) (is : List Nat) : back env (i :: is) env' = (back env is env').set i (rf' env[i]?) := by
  show (back env is env').set i _ = _
  congr 1
theorem oj' : rf' (some none) = none := rfl
theorem sU' (d : D) : rf' (some (some (.fz d))) = some (.fz d) := rfl
theorem rd' (os : List O) : rf' (some (some (.lst os))) = none := rfl
section
variable {Q : D -> Prop}
theorem wd' (a : Tx) (c : Nat) : wD (ye' a [.str [c]]) Q = wC (c < 128 /\ a.length + 2 <= 16777216) (Q (.lst ((zQ' c a).map .str))) := eq'
theorem Be' (i : Int) : wD (CU' (.int i)) Q = wC (0 <= i /\ i < 1000000000000000000000000000000000000000000000000000000000000) (Q (.str (Cx' i.toNat))) := eq'
end
end M
namespace M
theorem BU' (c : Nat) (s : Tx) {P : D -> Prop} : wD (CX' c (.str s)) P = wC (s.length <= 1000000) (P (.str (s.filter fun d => decide (d ≠ c)))) := eq'
end M
namespace M
theorem yV' (a b : List D) {Y : List D -> Prop} : wD (CA' (.tup a) (.tup b)) Y = Y (dk' a b) := by rw [ay']; rfl
theorem BN' (os : List O) (ds : List D) {N : O -> Prop} : wD (C2' (.lst os) (.lst ds)) N = wC (os.length + ds.length <= 16777216) (N (.lst (os ++ ds.map .fz))) := eq'
def A7' : O -> Prop
  | .dcx _ _ => True
  | _ => False
theorem sY' {γ : Type} (e : γ -> D) (l : List (γ × D)) : A7' (dX e l) := True.intro
theorem Ba' (os : List O) {N : List O -> Prop} : wD (unO (.tup os)) N = N os := by rw [ay']; rfl
theorem Bb' (ds : List D) {N : List O -> Prop} : wD (unO (.fz (.tup ds))) N = N (ds.map .fz) := by rw [ay']; rfl
theorem wA' {ρ : PSt} {N : PSt -> Prop} : wD (wW' [] [] ρ) N = N ρ := by rw [ay']; rfl
theorem wz' (i : Nat) (is : List Nat) (o : O) (os : List O) {env : List (Option O)} {w : W} {N : PSt -> Prop} : wD (wW' (i :: is) (o :: os) ⟨env, w⟩) N = tw' i env.length (wD (wW' is os ⟨env.set i (some o), w⟩) N) := by
  rw [ay', ay', cg']
  by_cases h : i < env.length
  . simp [wW', n1', h]
  . simp [wW', n1', vD, h]
theorem tr' (m : List Bool) : rU' m [] = [] := by cases m <;> rfl
theorem zE' (x : Option O) (r : List (Option O)) : rU' [] (x :: r) = none :: rU' [] r := rfl
theorem zG' (m : List Bool) (x : Option O) (r : List (Option O)) : rU' (false :: m) (x :: r) = none :: rU' m r := rfl
theorem zF' (m : List Bool) (o : O) (r : List (Option O)) : rU' (true :: m) (some o :: r) = some (.fz (frz o)) :: rU' m r := rfl
theorem vD' (r : List (Option O)) : okM [] r = true := by cases r <;> rfl
theorem AY' (m : List Bool) (x : Option O) (r : List (Option O)) : okM (false :: m) (x :: r) = okM m r := rfl
theorem AX' (m : List Bool) (o : O) (r : List (Option O)) : okM (true :: m) (some o :: r) = (okO o && okM m r) := rfl
theorem x8' (d : D) : okO (.fz d) = dat d := rfl
theorem vC' (os : List O) : okO (.lst os) = okOs os := rfl
theorem qJ' : ∀ ds : List D, okOs (ds.map .fz) = dats ds
  | [] => rfl
  | d :: r => by show (dat d && okOs (r.map .fz)) = (dat d && dats r); rw [qJ' r]
theorem yH' (d : D) : frz (.fz d) = d := rfl
theorem vd' (b : Bool) : zR' (.bl b) = true := rfl
theorem sn' (b : Int) : zR' (.int b) = true := rfl
theorem sl' (b : Tx) : zR' (.str b) = true := rfl
theorem sm' : zR' .non = true := rfl
end M
namespace M
theorem jJ' : ∀ l : List Tx, dY' (l.map D.str) = some l
  | [] => rfl
  | a :: l => by show (dY' (l.map D.str)).map (a :: ·) = _; rw [jJ' l]; rfl
theorem we' (l : List Tx) {P : D -> Prop} : wD (sG' (.lst (l.map .str))) P = wC (l.length < 64) (P (.lst ((xx' l).map .str))) := by
  show wD ((dY' (l.map D.str)).bind _) P = _
  rw [jJ', Option.bind_some]
  exact eq'
theorem y0' (s : Tx) {P : D -> Prop} : wD (bl' (.str s)) P = P (.tup (s.map chD)) := by
  show wD (some _) P = _
  rw [a7']
theorem At' {α : Type} (e : α -> D) (l : List (α × D)) (i : Nat) (env : List (Option O)) (w : W) {P : O -> PSt -> Prop} : wG (some (some (dX e l))) i ⟨env, w⟩ P = P (dX e l) ⟨env.set i none, w⟩ := by
  simp only [fd']; rfl
end M
namespace M
def dXz {γ : Type} (e : γ -> D) (l : List (γ × D)) : D := .dcx (l.map fun p => e p.1) (l.map fun p => p.2)
theorem yI' {γ : Type} (e : γ -> D) (l : List (γ × D)) : frz (dX e l) = dXz e l := by
  unfold dX dXz
  simp only [frz, cj', List.map_map]
  rfl
theorem Ap' {γ : Type} (e : γ -> D) (l : List (γ × D)) (i : Nat) (env : List (Option O)) (w : W) {P : D -> PSt -> Prop} : wV (some (some (dX e l))) i ⟨env, w⟩ P = P (dXz e l) ⟨env.set i (some (.fz (dXz e l))), w⟩ := by
  rw [fa']
  show vV (some (some (O.dcx _ _))) _ _ _ = _
  rw [<- yI']; rfl
theorem wp' {γ : Type} (e : γ -> D) (l : List (γ × D)) {P : D -> Prop} : wD (rT' (.fz (dXz e l))) P = P (.int l.length) := by
  show wD (some (D.int _)) P = _
  rw [a7', List.length_map]
end M
namespace M
end M
namespace M
theorem h5' : ∀ (es : List (Nat × Tx)), gG' (es.map fun p => .int (p.1 : Nat)) (es.map fun p => .fz (.str p.2)) = some es
  | [] => rfl
  | p :: es => by
    show (if (0 : Int) <= (p.1 : Nat) then (gG' (es.map fun p => .int (p.1 : Nat)) (es.map fun p => .fz (.str p.2))).map ((((p.1 : Nat) : Int).toNat, p.2) :: ·) else none) = _
    rw [if_pos (Int.natCast_nonneg _), h5' es]
    rfl
theorem s9' (es : List (Nat × Tx)) {P : D -> Prop} : wD (tZ' (.dct (es.map fun p => .int (p.1 : Nat)) (es.map fun p => .fz (.str p.2)))) P = P (.lst ((es.mergeSort AR').map fun p => .tup [.int (p.1 : Nat), .str p.2])) := by
  have e : tZ' (.dct (es.map fun p => .int (p.1 : Nat)) (es.map fun p => .fz (.str p.2))) = some (.lst ((es.mergeSort AR').map fun p => .tup [.int (p.1 : Nat), .str p.2])) := by
    show (gG' _ _).map _ = _
    rw [h5']
    rfl
  rw [e, ay']
  rfl
end M
namespace M
theorem vE' (kl kd : Bool) (r : List (Option O)) : okL kl kd [] r = true := by cases r <;> rfl
theorem A0' (kl kd : Bool) (m : List Bool) (x : Option O) (r : List (Option O)) : okL kl kd (false :: m) (x :: r) = okL kl kd m r := rfl
theorem AZ' (kl kd : Bool) (m : List Bool) (o : O) (r : List (Option O)) : okL kl kd (true :: m) (some o :: r) = (lendO kl kd o && okL kl kd m r) := rfl
theorem tp' (r : List (Option O)) : wD' [] r = 0 := by cases r <;> rfl
theorem zB' (m : List Bool) (x : Option O) (r : List (Option O)) : wD' (false :: m) (x :: r) = wD' m r := rfl
theorem zA' (m : List Bool) (o : O) (r : List (Option O)) : wD' (true :: m) (some o :: r) = zW' o + wD' m r := rfl
theorem sR' (kl kd : Bool) (d : D) : lendO kl kd (.fz d) = true := rfl
theorem vw' (d : D) : zW' (.fz d) = 0 := rfl
theorem q0' (kd : Bool) (ds : List D) : lendO true kd (.lst (ds.map .fz)) = true := by
  show (true && (ds.map O.fz).all vZ') = true
  simp [vZ']
theorem sM' (kl kd : Bool) (n : Nat) : Cq' kl kd (.fz (.obj n)) = true := rfl
def AT' : D -> Option (D × D)
  | .tup [x, y] => some (x, y)
  | _ => none
theorem y8' (x y : D) {P : D × D -> Prop} : wD (AT' (.tup [x, y])) P = P (x, y) := by rw [ay']; rfl
theorem Bl' (i j : Int) {Q : D -> Prop} : wD (CW' (.int i) (.int j)) Q = wC (0 <= j /\ j <= 1000 /\ -18446744073709551616 < i /\ i < 18446744073709551616) (Q (.int (i * 2 ^ j.toNat))) := by
  rw [ay', er']
  show vD (if 0 <= j /\ j <= 1000 /\ small64 i = true then _ else _) Q = _
  rw [aX']
  congr 1
  simp [small64]
theorem Bk' (i j : Int) {Q : D -> Prop} : wD (CV' (.int i) (.int j)) Q = wC (0 <= j) (Q (.int (i / 2 ^ j.toNat))) := by
  rw [ay', er']
  exact aX'
theorem Dc' (is : List Nat) (ds : List D) (ρ : PSt) {N : PSt -> Prop} : wD (gL is (.lst ds) ρ) N = wD (gNs is ds ρ) N := rfl
theorem BL' (gs : List MG) (ds : List D) (ρ : PSt) {N : PSt -> Prop} : wD (gTg gs (.tup ds) ρ) N = wD (gSq gs ds ρ) N := rfl
theorem zr' (ρ : PSt) {N : PSt -> Prop} : wD (gSq [] [] ρ) N = N ρ := by rw [ay']; rfl
theorem BM' (g : MG) (gs : List MG) (d : D) (ds : List D) (ρ : PSt) {N : PSt -> Prop} : wD (gSq (g :: gs) (d :: ds) ρ) N = wD (g d ρ) (fun ρ1 => wD (gSq gs ds ρ1) N) := by
  simp only [ay']
  show vD ((g d ρ).bind (gSq gs ds)) N = _
  cases g d ρ <;> rfl
end M
namespace M
section
variable {α : Type} {env : List (Option O)} {w : W} {ρ : PSt} {X : Exc -> PSt -> Prop}
end
end M
namespace M
section
variable {α β : Type} [DecidableEq α] [DecidableEq β]
def ins (F : List α) (x : α) : List α := if x ∈ F then F else F ++ [x]
def bW' (F xs : List α) : List α := xs.foldl ins F
def an' (xs : List α) : List α := bW' [] xs
theorem b6' {F : List α} {x : α} (h : x ∈ F) : ins F x = F := if_pos h
theorem bJ' {F : List α} {x : α} (h : x ∉ F) : ins F x = F ++ [x] := if_neg h
theorem qR' {F : List α} {x y : α} : y ∈ ins F x ↔ y ∈ F \/ y = x := by
  unfold ins
  split
  . rename_i h
    exact ⟨.inl, fun q => q.elim id fun e => e ▸ h⟩
  . simp
theorem ce' {F : List α} {x : α} {xs : List α} : bW' F (x :: xs) = bW' (ins F x) xs := rfl
theorem cb' {F xs ys : List α} : bW' F (xs ++ ys) = bW' (bW' F xs) ys := List.foldl_append ..
theorem dE' {F xs : List α} {x : α} : bW' F (xs ++ [x]) = ins (bW' F xs) x := by rw [cb']; rfl
theorem b0' {y : α} : ∀ {xs F : List α}, y ∈ bW' F xs ↔ y ∈ F \/ y ∈ xs
  | [], F => by simp [bW']
  | x :: xs, F => by
    rw [ce', b0', qR', List.mem_cons]
    constructor
    . rintro ((h | h) | h)
      . exact .inl h
      . exact .inr (.inl h)
      . exact .inr (.inr h)
    . rintro (h | h | h)
      . exact .inl (.inl h)
      . exact .inl (.inr h)
      . exact .inr h
theorem aG' {xs : List α} {y : α} : y ∈ an' xs ↔ y ∈ xs := by rw [an', b0']; simp
theorem li' {F : List α} {x : α} : F <+: ins F x := by
  unfold ins
  split
  . exact List.prefix_refl _
  . exact List.prefix_append ..
theorem cq' : ∀ {xs F : List α}, F <+: bW' F xs
  | [], F => List.prefix_refl _
  | x :: xs, F => li'.trans cq'
theorem yb' {F : List α} {x : α} (h : F.Nodup) : (ins F x).Nodup := by
  unfold ins
  split
  . exact h
  . rename_i q
    rw [List.nodup_append]
    exact ⟨h, by simp, fun a ha b hb e => q (by rw [List.mem_singleton] at hb; rw [<- hb, <- e]; exact ha)⟩
theorem ft' : ∀ {xs F : List α}, F.Nodup -> (bW' F xs).Nodup
  | [], _, h => h
  | _ :: xs, _, h => ft' (xs := xs) (yb' h)
theorem gR' {xs : List α} : (an' xs).Nodup := ft' List.nodup_nil
theorem iW' : ∀ {xs F : List α}, (∀ x ∈ xs, x ∈ F) -> bW' F xs = F
  | [], _, _ => rfl
  | x :: xs, F, h => by
    rw [ce', b6' (h x (by simp))]
    exact iW' fun y hy => h y (by simp [hy])
theorem bx' {xs : List α} {x : α} : an' (xs ++ [x]) = ins (an' xs) x := dE'
theorem b9' {xs : List α} (h : xs.Nodup) : an' xs = xs := by
  have go : ∀ (ys F : List α), (F ++ ys).Nodup -> bW' F ys = F ++ ys := by
    intro ys
    induction ys with
    | nil => intro F _; simp [bW']
    | cons y ys ih =>
      intro F hn
      have : y ∉ F := fun hy => (List.nodup_append.mp hn).2.2 y hy y (by simp) rfl
      rw [ce', bJ' this, ih _ (by simpa using hn)]
      simp
  exact go xs [] (by simpa using h)
theorem j5' (c : α -> β) (F : List α) (x : α) : an' ((ins F x).map c) = ins (an' (F.map c)) (c x) := by
  by_cases h : x ∈ F
  . rw [b6' h, b6' (aG'.mpr (List.mem_map.mpr ⟨x, h, rfl⟩))]
  . rw [bJ' h, List.map_append, List.map_cons, List.map_nil, bx']
theorem ct' (c : α -> β) : ∀ (xs F : List α), an' ((bW' F xs).map c) = bW' (an' (F.map c)) (xs.map c)
  | [], _ => rfl
  | x :: xs, F => by rw [ce', ct' c xs, j5', List.map_cons, ce']
theorem iL' (c : α -> β) (xs : List α) : an' ((an' xs).map c) = an' (xs.map c) := by
  have := ct' c xs []
  exact this
theorem lm' (f : α -> β) {F : List α} {x : α} (h : ∀ y ∈ F, f y = f x -> y = x) : (ins F x).map f = ins (F.map f) (f x) := by
  by_cases hx : x ∈ F
  . rw [b6' hx, b6' (List.mem_map.mpr ⟨x, hx, rfl⟩)]
  . rw [bJ' hx, bJ']
    . simp
    . rw [List.mem_map]
      rintro ⟨y, hy, e⟩
      exact hx (h y hy e ▸ hy)
theorem fP' (f : α -> β) (U : α -> Prop) (inj : ∀ a b, U a -> U b -> f a = f b -> a = b) : ∀ (xs F : List α), (∀ x ∈ F, U x) -> (∀ x ∈ xs, U x) -> (bW' F xs).map f = bW' (F.map f) (xs.map f)
  | [], _, _, _ => rfl
  | x :: xs, F, hF, hx => by
    have ux := hx x (by simp)
    rw [ce', fP' f U inj xs (ins F x) (fun y hy => (qR'.mp hy).elim (hF y) fun e => e ▸ ux) (fun y hy => hx y (by simp [hy])), lm' f fun y hy e => inj y x (hF y hy) ux e, List.map_cons, ce']
theorem dB' (f : α -> β) (xs : List α) (inj : ∀ a ∈ xs, ∀ b ∈ xs, f a = f b -> a = b) : an' (xs.map f) = (an' xs).map f :=
  (fP' f (· ∈ xs) (fun a b ha hb => inj a ha b hb) xs [] (fun _ h => nomatch h) (fun _ h => h)).symm
theorem vI' : ∀ {xs : List α}, xs.Nodup -> xs.map (fun x => xs.idxOf x) = List.range xs.length := by
  intro xs h
  refine List.ext_getElem (by simp) fun i h1 h2 => ?_
  rw [List.getElem_map, List.getElem_range]
  rw [List.length_map] at h1
  exact List.Nodup.idxOf_getElem h i h1
theorem sK' (xs : List α) : an' (xs.map fun x => (an' xs).idxOf x) = List.range (an' xs).length := by
  rw [dB' (fun x => (an' xs).idxOf x) xs, vI' gR']
  intro a ha b hb e
  have h1 : (an' xs)[(an' xs).idxOf a]? = some a := by
    rw [List.getElem?_eq_getElem (List.idxOf_lt_length_iff.mpr (aG'.mpr ha)), List.getElem_idxOf]
  have h2 : (an' xs)[(an' xs).idxOf b]? = some b := by
    rw [List.getElem?_eq_getElem (List.idxOf_lt_length_iff.mpr (aG'.mpr hb)), List.getElem_idxOf]
  rw [e, h2] at h1
  exact (Option.some.inj h1).symm
theorem bI' (g : α -> β) (X : List α) : (an' (X.map g)).length <= (an' X).length := by
  have h := iL' g X
  rw [<- h]
  have go : ∀ (ys F : List β), (bW' F ys).length <= F.length + ys.length := by
    intro ys
    induction ys with
    | nil => intro F; simp [bW']
    | cons y ys ih =>
      intro F
      rw [ce']
      refine Nat.le_trans (ih _) ?_
      have : (ins F y).length <= F.length + 1 := by unfold ins; split <;> simp
      simp only [List.length_cons]
      omega
  have := go ((an' X).map g) []
  simpa [an'] using this
theorem gQ' (g : α -> β) (X : List α) (h : (an' (X.map g)).length = (an' X).length) : ∀ a ∈ X, ∀ b ∈ X, g a = g b -> a = b := by
  have go : ∀ (l : List α), (an' (l.reverse.map g)).length = (an' l.reverse).length -> ∀ a ∈ l, ∀ b ∈ l, g a = g b -> a = b := by
    intro l
    induction l with
    | nil => intro _ a ha; cases ha
    | cons x l ih =>
      intro h
      rw [List.reverse_cons, List.map_append, List.map_cons, List.map_nil, bx', bx'] at h
      by_cases hx : x ∈ l
      . have hx' : x ∈ an' l.reverse := aG'.mpr (List.mem_reverse.mpr hx)
        have hg : g x ∈ an' (l.reverse.map g) := aG'.mpr (List.mem_map.mpr ⟨x, List.mem_reverse.mpr hx, rfl⟩)
        rw [b6' hx', b6' hg] at h
        intro a ha b hb e
        have ha' : a ∈ l := (List.mem_cons.mp ha).elim (fun e => e ▸ hx) id
        have hb' : b ∈ l := (List.mem_cons.mp hb).elim (fun e => e ▸ hx) id
        exact ih h a ha' b hb' e
      . have hx' : x ∉ an' l.reverse := fun q => hx (List.mem_reverse.mp (aG'.mp q))
        rw [bJ' hx', List.length_append, List.length_singleton] at h
        have le := bI' g l.reverse
        by_cases hg : g x ∈ an' (l.reverse.map g)
        . rw [b6' hg] at h; omega
        . rw [bJ' hg, List.length_append, List.length_singleton] at h
          have ih := ih (by omega)
          have no : ∀ a ∈ l, g a ≠ g x := fun a ha e => hg (aG'.mpr (List.mem_map.mpr ⟨a, List.mem_reverse.mpr ha, e⟩))
          intro a ha b hb e
          rcases List.mem_cons.mp ha with ea | ha2
          . rcases List.mem_cons.mp hb with eb | hb2
            . rw [ea, eb]
            . exact absurd (by rw [<- ea]; exact e.symm) (no b hb2)
          . rcases List.mem_cons.mp hb with eb | hb2
            . exact absurd (by rw [<- eb]; exact e) (no a ha2)
            . exact ih a ha2 b hb2 e
  intro a ha b hb e
  exact go X.reverse (by rw [List.reverse_reverse]; exact h) a (List.mem_reverse.mpr ha) b (List.mem_reverse.mpr hb) e
end
def aq' (T : List (List Nat)) (s : Nat) : List Nat := (T[s]?).getD []
def bfs (T : List (List Nat)) : Nat -> List Nat
  | 0 => [0]
  | j + 1 => match (bfs T j)[j]? with
    | some s => bW' (bfs T j) (aq' T s)
    | none => bfs T j
section
variable {T : List (List Nat)} {n m : Nat}
theorem gE' (h : a3' T n m) {s t : Nat} (ht : t ∈ aq' T s) : t < n := by
  unfold aq' at ht
  cases e : T[s]? with
  | none => rw [e] at ht; cases ht
  | some r =>
    rw [e] at ht
    exact (h.2 r (List.mem_of_getElem? e)).2 t ht
theorem bY' (h : a3' T n m) {s : Nat} (hs : s < n) : (aq' T s).length = m := by
  unfold aq'
  rw [List.getElem?_eq_getElem (by rw [h.1]; exact hs)]
  exact (h.2 _ (List.getElem_mem _)).1
theorem cp' (h : a3' T n m) {s : Nat} (hs : s < n) : T[s]? = some (aq' T s) := by
  unfold aq'
  rw [List.getElem?_eq_getElem (by rw [h.1]; exact hs)]
  rfl
theorem i7' : ∀ {j : Nat}, bfs T j <+: bfs T (j + 1) := by
  intro j
  show bfs T j <+: (match (bfs T j)[j]? with | some s => bW' (bfs T j) (aq' T s) | none => bfs T j)
  split
  . exact cq'
  . exact List.prefix_refl _
theorem b4' {i j : Nat} (h : i <= j) : bfs T i <+: bfs T j := by
  induction h with
  | refl => exact List.prefix_refl _
  | step _ ih => exact ih.trans i7'
theorem io' : ∀ j : Nat, (bfs T j).Nodup
  | 0 => by simp [bfs]
  | j + 1 => by
    show (match (bfs T j)[j]? with | some s => bW' (bfs T j) (aq' T s) | none => bfs T j).Nodup
    split
    . exact ft' (io' j)
    . exact io' j
theorem g6' (h : a3' T n m) (hn : 1 <= n) : ∀ {j s : Nat}, s ∈ bfs T j -> s < n := by
  intro j
  induction j with
  | zero => intro s hs; simp [bfs] at hs; omega
  | succ j ih =>
    intro s hs
    have hs : s ∈ (match (bfs T j)[j]? with | some s => bW' (bfs T j) (aq' T s) | none => bfs T j) := hs
    split at hs
    . rcases b0'.mp hs with h1 | h1
      . exact ih h1
      . exact gE' h h1
    . exact ih hs
theorem of' {l : List Nat} (hn : l.Nodup) (h : ∀ s ∈ l, s < n) : l.length <= n := by
  have := List.Nodup.length_le_of_subset hn fun s hs => List.mem_range.mpr (h s hs)
  simpa using this
theorem bS' (h : a3' T n m) (hn : 1 <= n) (j : Nat) : (bfs T j).length <= n := of' (io' j) fun _ hs => g6' h hn hs
theorem gj' {j : Nat} (h : (bfs T j).length <= j) : ∀ {i : Nat}, j <= i -> bfs T i = bfs T j := by
  intro i hi
  induction hi with
  | refl => rfl
  | @step i hi ih =>
    show (match (bfs T i)[i]? with | some s => bW' (bfs T i) (aq' T s) | none => bfs T i) = _
    have : (bfs T i)[i]? = none := by rw [ih]; exact List.getElem?_eq_none (Nat.le_trans h hi)
    rw [this, ih]
theorem d7' {j s : Nat} (h : (bfs T j)[j]? = some s) : bfs T (j + 1) = bW' (bfs T j) (aq' T s) := by
  show (match (bfs T j)[j]? with | some s => bW' (bfs T j) (aq' T s) | none => bfs T j) = _
  rw [h]
def reach (T : List (List Nat)) : List Nat := bfs T T.length
theorem dQ' (h : a3' T T.length m) (hn : 1 <= T.length) {j : Nat} (hj : (bfs T j).length <= j) : bfs T j = reach T := by
  have hl := bS' h hn
  by_cases q : j <= T.length
  . exact (gj' hj q).symm
  . exact gj' (hl _) (by omega)
theorem du' {j s : Nat} (h : a3' T T.length m) (hn : 1 <= T.length) (e : (reach T)[j]? = some s) : (bfs T j)[j]? = some s := by
  -- what stands at j is found before j is walked
  have h1 : j < (bfs T j).length := by
    rcases Nat.lt_or_ge j (bfs T j).length with q | q
    . exact q
    . have := dQ' h hn q
      rw [<- this] at e
      have := (List.getElem?_eq_some_iff.mp e).1
      omega
  have hle : j <= T.length := by
    have := (List.getElem?_eq_some_iff.mp e).1
    have := bS' h hn T.length
    unfold reach at *
    omega
  obtain ⟨G, eG⟩ := b4' (T := T) hle
  unfold reach at e
  rw [<- eG, List.getElem?_append_left h1] at e
  exact e
theorem eG' : (reach T).Nodup := io' _
theorem ge' (h : a3' T T.length m) (hn : 1 <= T.length) {s : Nat} (hs : s ∈ reach T) : s < T.length := g6' h hn hs
theorem vk' : (reach T)[0]? = some 0 := by
  obtain ⟨G, e⟩ := b4' (T := T) (Nat.zero_le T.length)
  unfold reach
  rw [<- e]
  rfl
theorem dR' : 0 ∈ reach T := List.mem_of_getElem? vk'
theorem cK' (h : a3' T T.length m) (hn : 1 <= T.length) {s t : Nat} (hs : s ∈ reach T) (ht : t ∈ aq' T s) : t ∈ reach T := by
  obtain ⟨j, hj, e⟩ := List.getElem_of_mem hs
  have e : (reach T)[j]? = some s := by rw [List.getElem?_eq_getElem hj, e]
  have e2 := d7' (du' h hn e)
  have hl := bS' h hn T.length
  have hj' : j + 1 <= T.length := by unfold reach at hj; omega
  exact (b4' hj').subset (by rw [e2]; exact b0'.mpr (.inr ht))
end
section
variable {γ : Type} [DecidableEq γ] {S : List Nat}
def jb' (S : List Nat) (f : Nat -> γ) (s : Nat) : Nat := (an' (S.map f)).idxOf (f s)
theorem iM' (f : Nat -> γ) : an' (S.map (jb' S f)) = List.range (an' (S.map f)).length := by
  have := sK' (S.map f)
  rw [List.map_map] at this
  exact this
theorem iN' (f : Nat -> γ) {s : Nat} (hs : s ∈ S) : (an' (S.map f))[jb' S f s]? = some (f s) := by
  have : jb' S f s < (an' (S.map f)).length := List.idxOf_lt_length_iff.mpr (aG'.mpr (List.mem_map.mpr ⟨s, hs, rfl⟩))
  rw [List.getElem?_eq_getElem this]
  exact congrArg some (List.getElem_idxOf _)
theorem dU' (f : Nat -> γ) {s t : Nat} (hs : s ∈ S) (ht : t ∈ S) : jb' S f s = jb' S f t ↔ f s = f t := by
  constructor
  . intro e
    have h1 := iN' f hs
    rw [e, iN' f ht] at h1
    exact (Option.some.inj h1).symm
  . intro e; unfold jb'; rw [e]
end
def key (T : List (List Nat)) (c : Nat -> Nat) (s : Nat) : Nat × List Nat := (c s, (aq' T s).map c)
def Leq (L : Tx) (T : List (List Nat)) (A : List Nat) (s t : Nat) : Prop := ∀ x : Tx, (∀ a ∈ x, a ∈ L) -> (run L T s x ∈ A ↔ run L T t x ∈ A)
structure Clz (L : Tx) (T : List (List Nat)) (A : List Nat) (S : List Nat) (c : Nat -> Nat) (k : Nat) : Prop where
  num : an' (S.map c) = List.range k
  ref : ∀ s ∈ S, ∀ t ∈ S, c s = c t -> (s ∈ A ↔ t ∈ A)
  co : ∀ s ∈ S, ∀ t ∈ S, Leq L T A s t -> c s = c t
section
variable {L : Tx} {T : List (List Nat)} {A S : List Nat} {c : Nat -> Nat} {k : Nat}
theorem k5' (s a : Nat) : stp L T s a = ((aq' T s)[L.idxOf a]?).getD 0 := rfl
theorem fh' (hL : L.Nodup) {s i : Nat} (hi : i < L.length) : stp L T s L[i] = ((aq' T s)[i]?).getD 0 := by rw [k5', hL.idxOf_getElem i hi]
theorem gv' (h : a3' T T.length L.length) {s a : Nat} (hs : s < T.length) (ha : a ∈ L) : stp L T s a ∈ aq' T s := by
  obtain ⟨r, h1, h2, _⟩ := hV' h hs ha
  have : aq' T s = r := by unfold aq'; rw [h1]; rfl
  rw [this]
  exact List.mem_of_getElem? h2
theorem Leq.step (h : Leq L T A s t) (ha : a ∈ L) : Leq L T A (stp L T s a) (stp L T t a) := fun x hx => by
  have := h (a :: x) fun b hb => (List.mem_cons.mp hb).elim (fun e => e ▸ ha) (hx b)
  exact this
theorem Leq.refl (s : Nat) : Leq L T A s s := fun _ _ => Iff.rfl
theorem Leq.symm (h : Leq L T A s t) : Leq L T A t s := fun x hx => (h x hx).symm
theorem Leq.trans (h : Leq L T A s t) (h' : Leq L T A t u) : Leq L T A s u := fun x hx => (h x hx).trans (h' x hx)
theorem qh' (h : a3' T T.length L.length) (hL : L.Nodup) {s t : Nat} (hs : s < T.length) (ht : t < T.length) (hc : ∀ a ∈ L, c (stp L T s a) = c (stp L T t a)) : (aq' T s).map c = (aq' T t).map c := by
  have l1 := bY' h hs
  have l2 := bY' h ht
  refine List.ext_getElem (by simp [l1, l2]) fun i h1 h2 => ?_
  rw [List.getElem_map, List.getElem_map]
  rw [List.length_map] at h1 h2
  have := hc L[i] (List.getElem_mem (by omega))
  rw [fh' hL (by omega), fh' hL (by omega), List.getElem?_eq_getElem h1, List.getElem?_eq_getElem h2] at this
  exact this
theorem Clz.lt (h : Clz L T A S c k) {s : Nat} (hs : s ∈ S) : c s < k := by
  have : c s ∈ an' (S.map c) := aG'.mpr (List.mem_map.mpr ⟨s, hs, rfl⟩)
  rw [h.num] at this
  exact List.mem_range.mp this
theorem Clz.first : Clz L T A S (jb' S fun s => decide (s ∈ A)) (an' (S.map fun s => decide (s ∈ A))).length := by
  refine ⟨iM' _, fun s hs t ht e => ?_, fun s hs t ht e => (dU' _ hs ht).mpr ?_⟩
  . have := (dU' _ hs ht).mp e
    simpa using this
  . have := e [] (fun _ h => nomatch h)
    simpa [qg'] using this
theorem Clz.next (hT : a3' T T.length L.length) (hL : L.Nodup) (hS : ∀ s ∈ S, s < T.length) (hcl : ∀ s ∈ S, ∀ t ∈ aq' T s, t ∈ S) (h : Clz L T A S c k) : Clz L T A S (jb' S (key T c)) (an' (S.map (key T c))).length := by
  refine ⟨iM' _, fun s hs t ht e => ?_, fun s hs t ht e => (dU' _ hs ht).mpr ?_⟩
  . have := (dU' _ hs ht).mp e
    exact h.ref s hs t ht (congrArg Prod.fst this)
  . refine Prod.ext (h.co s hs t ht e) (qh' hT hL (hS s hs) (hS t ht) fun a ha => ?_)
    exact h.co _ (hcl s hs _ (gv' hT (hS s hs) ha)) _ (hcl t ht _ (gv' hT (hS t ht) ha)) (e.step ha)
theorem iY' : (S.map (key T c)).map Prod.fst = S.map c := by rw [List.map_map]; rfl
theorem Clz.le (h : Clz L T A S c k) : k <= (an' (S.map (key T c))).length := by
  have := bI' Prod.fst (S.map (key T c))
  rw [iY', h.num, List.length_range] at this
  exact this
theorem Clz.stable (h : Clz L T A S c k) (he : (an' (S.map (key T c))).length <= k) : ∀ s ∈ S, ∀ t ∈ S, c s = c t -> key T c s = key T c t := fun s hs t ht e => by
  have hk := Nat.le_antisymm he h.le
  refine gQ' Prod.fst (S.map (key T c)) ?_ _ (List.mem_map.mpr ⟨s, hs, rfl⟩) _ (List.mem_map.mpr ⟨t, ht, rfl⟩) e
  rw [iY', h.num, List.length_range, hk]
theorem Clz.same (h : Clz L T A S c k) (he : (an' (S.map (key T c))).length <= k) : ∀ s ∈ S, jb' S (key T c) s = c s := fun s hs => by
  have st := h.stable he
  have e : an' ((S.map (key T c)).map Prod.fst) = (an' (S.map (key T c))).map Prod.fst := dB' Prod.fst _ fun a ha b hb q => by
    obtain ⟨s1, h1, rfl⟩ := List.mem_map.mp ha
    obtain ⟨s2, h2, rfl⟩ := List.mem_map.mp hb
    exact st s1 h1 s2 h2 q
  rw [iY', h.num] at e
  have g := iN' (key T c) hs
  have g2 : ((an' (S.map (key T c))).map Prod.fst)[jb' S (key T c) s]? = some (c s) := by rw [List.getElem?_map, g]; rfl
  rw [<- e] at g2
  obtain ⟨hl, g3⟩ := List.getElem?_eq_some_iff.mp g2
  rw [List.getElem_range] at g3
  exact g3
end
theorem rM' : ∀ {a b : List Nat}, a.Pairwise (· < ·) -> b.Pairwise (· < ·) -> (∀ q, q ∈ a ↔ q ∈ b) -> a = b
  | [], [], _, _, _ => rfl
  | [], y :: b, _, _, h => by have := (h y).mpr (by simp); cases this
  | x :: a, [], _, _, h => by have := (h x).mp (by simp); cases this
  | x :: a, y :: b, ha, hb, h => by
    obtain ⟨ha1, ha2⟩ := List.pairwise_cons.mp ha
    obtain ⟨hb1, hb2⟩ := List.pairwise_cons.mp hb
    have exy : x = y := by
      have hx : x ∈ y :: b := (h x).mp (by simp)
      have hy : y ∈ x :: a := (h y).mpr (by simp)
      rcases List.mem_cons.mp hx with e | hx
      . exact e
      . rcases List.mem_cons.mp hy with e | hy
        . exact e.symm
        . have := hb1 x hx
          have := ha1 y hy
          omega
    subst exy
    rw [rM' ha2 hb2 fun q => ?_]
    constructor
    . intro hq
      have := (h q).mp (by simp [hq])
      rcases List.mem_cons.mp this with e | e
      . have := ha1 q hq; omega
      . exact e
    . intro hq
      have := (h q).mpr (by simp [hq])
      rcases List.mem_cons.mp this with e | e
      . have := hb1 q hq; omega
      . exact e
def bA' (S : List Nat) (c : Nat -> Nat) (q : Nat) : Nat := (S.find? fun s => decide (c s = q)).getD 0
def bV' (T : List (List Nat)) (S : List Nat) (c : Nat -> Nat) (k : Nat) : List (List Nat) := (List.range k).map fun q => (aq' T (bA' S c q)).map c
def fQ' (A : List Nat) (S : List Nat) (c : Nat -> Nat) (k : Nat) : List Nat := (List.range k).filter fun q => decide (bA' S c q ∈ A)
structure IsLeast (L : Tx) (T : List (List Nat)) (A : List Nat) (c : Nat -> Nat) (T' : List (List Nat)) (A' : List Nat) : Prop where
  tab : a3' T' T'.length L.length
  ne : 1 <= T'.length
  le : T'.length <= T.length
  acc : AccOk A' T'.length
  c0 : c 0 = 0
  lt : ∀ s ∈ reach T, c s < T'.length
  row : ∀ s ∈ reach T, aq' T' (c s) = (aq' T s).map c
  fin : ∀ s ∈ reach T, (c s ∈ A' ↔ s ∈ A)
  onto : ∀ q < T'.length, ∃ s ∈ reach T, c s = q
  reach : reach T' = List.range T'.length
  apart : ∀ p < T'.length, ∀ q < T'.length, Leq L T' A' p q -> p = q
  num : an' ((M.reach T).map c) = List.range T'.length
section
variable {L : Tx} {T : List (List Nat)} {A : List Nat} {c : Nat -> Nat} {k : Nat}
theorem u2' {T' : List (List Nat)} (hT : a3' T T.length L.length) {s a : Nat} (hs : s < T.length) (ha : a ∈ L) (e : aq' T' (c s) = (aq' T s).map c) : stp L T' (c s) a = c (stp L T s a) := by
  rw [k5', k5', e]
  have l1 := bY' hT hs
  have hi : L.idxOf a < L.length := List.idxOf_lt_length_iff.mpr ha
  rw [List.getElem?_map, List.getElem?_eq_getElem (by omega)]
  rfl
theorem iB' {T' : List (List Nat)} {S : List Nat} (hT : a3' T T.length L.length) (hS : ∀ s ∈ S, s < T.length) (hcl : ∀ s ∈ S, ∀ t ∈ aq' T s, t ∈ S) (hr : ∀ s ∈ S, aq' T' (c s) = (aq' T s).map c) :
    ∀ x : Tx, (∀ a ∈ x, a ∈ L) -> ∀ s ∈ S, run L T' (c s) x = c (run L T s x) /\ run L T s x ∈ S
  | [], _, s, hs => ⟨rfl, hs⟩
  | a :: x, hx, s, hs => by
    have ha := hx a (by simp)
    rw [gd', gd', u2' hT (hS s hs) ha (hr s hs)]
    exact iB' hT hS hcl hr x (fun b hb => hx b (by simp [hb])) _ (hcl s hs _ (gv' hT (hS s hs) ha))
theorem dw' {l : List Nat} {k : Nat} (h : l <+: List.range k) : l = List.range l.length := by
  obtain ⟨G, e⟩ := h
  refine List.ext_getElem (by simp) fun i h1 h2 => ?_
  have : (l ++ G)[i]? = (List.range k)[i]? := by rw [e]
  have hk : i < k := by
    have := congrArg List.length e
    simp only [List.length_append, List.length_range] at this
    omega
  rw [List.getElem?_append_left h1, List.getElem?_eq_getElem h1, List.getElem?_eq_getElem (by simpa using hk), List.getElem_range] at this
  rw [List.getElem_range]
  exact Option.some.inj this
theorem c5' {F G : List Nat} (c : Nat -> Nat) (h : F <+: G) : an' (F.map c) <+: an' (G.map c) := by
  obtain ⟨K, rfl⟩ := h
  rw [List.map_append, an', an', cb']
  exact cq'
theorem nw' (hT : a3' T T.length L.length) (hL : L.Nodup) (hn : 1 <= T.length) (h : Clz L T A (reach T) c k) (st : ∀ s ∈ reach T, ∀ t ∈ reach T, c s = c t -> key T c s = key T c t) :
    IsLeast L T A c (bV' T (reach T) c k) (fQ' A (reach T) c k) := by
  have hS : ∀ s ∈ reach T, s < T.length := fun s hs => ge' hT hn hs
  have hcl : ∀ s ∈ reach T, ∀ t ∈ aq' T s, t ∈ reach T := fun s hs t ht => cK' hT hn hs ht
  have lenT : (bV' T (reach T) c k).length = k := by simp [bV']
  have fst : ∀ q < k, bA' (reach T) c q ∈ reach T /\ c (bA' (reach T) c q) = q := by
    intro q hq
    have : q ∈ an' ((reach T).map c) := by rw [h.num]; exact List.mem_range.mpr hq
    obtain ⟨s, hs, e⟩ := List.mem_map.mp (aG'.mp this)
    unfold bA'
    cases f : (reach T).find? fun s => decide (c s = q) with
    | none =>
      have := List.find?_eq_none.mp f s hs
      simp [e] at this
    | some t => exact ⟨List.mem_of_find?_eq_some f, by have := List.find?_some f; simpa using this⟩
  have c0 : c 0 = 0 := by
    have h1 : an' (([0] : List Nat).map c) <+: an' ((reach T).map c) := c5' c (by
      have := b4' (T := T) (Nat.zero_le T.length)
      exact this)
    rw [h.num] at h1
    have h2 := dw' h1
    have h3 : an' (([0] : List Nat).map c) = [c 0] := rfl
    rw [h3] at h2
    simpa using h2
  have lt : ∀ s ∈ reach T, c s < k := fun s hs => h.lt hs
  have gg' : 1 <= k := by have := lt 0 dR'; omega
  have rowL : ∀ q < k, aq' (bV' T (reach T) c k) q = (aq' T (bA' (reach T) c q)).map c := by
    intro q hq
    unfold aq'
    unfold bV'
    rw [List.getElem?_map, List.getElem?_range hq]
    rfl
  have row : ∀ s ∈ reach T, aq' (bV' T (reach T) c k) (c s) = (aq' T s).map c := by
    intro s hs
    rw [rowL _ (lt s hs)]
    obtain ⟨f1, f2⟩ := fst _ (lt s hs)
    exact congrArg Prod.snd (st _ f1 s hs f2)
  have fin : ∀ s ∈ reach T, (c s ∈ fQ' A (reach T) c k ↔ s ∈ A) := by
    intro s hs
    unfold fQ'
    rw [List.mem_filter, List.mem_range]
    obtain ⟨f1, f2⟩ := fst _ (lt s hs)
    have := h.ref _ f1 s hs f2
    simp [lt s hs, this]
  have onto : ∀ q < k, ∃ s ∈ reach T, c s = q := fun q hq => ⟨_, (fst q hq).1, (fst q hq).2⟩
  have kle : k <= T.length := by
    have h1 := bI' c (reach T)
    rw [h.num, List.length_range, b9' eG'] at h1
    exact Nat.le_trans h1 (bS' hT hn _)
  have tab : a3' (bV' T (reach T) c k) (bV' T (reach T) c k).length L.length := by
    refine ⟨rfl, fun r hr => ?_⟩
    unfold bV' at hr
    obtain ⟨q, hq, rfl⟩ := List.mem_map.mp hr
    obtain ⟨f1, f2⟩ := fst q (List.mem_range.mp hq)
    refine ⟨by rw [List.length_map]; exact bY' hT (hS _ f1), fun t ht => ?_⟩
    obtain ⟨u, hu, rfl⟩ := List.mem_map.mp ht
    rw [lenT]
    exact lt u (hcl _ f1 u hu)
  have apart : ∀ p < k, ∀ q < k, Leq L (bV' T (reach T) c k) (fQ' A (reach T) c k) p q -> p = q := by
    intro p hp q hq hl
    obtain ⟨f1, f2⟩ := fst p hp
    obtain ⟨g1, g2⟩ := fst q hq
    rw [<- f2, <- g2]
    refine h.co _ f1 _ g1 fun x hx => ?_
    have a1 := iB' hT hS hcl row x hx _ f1
    have a2 := iB' hT hS hcl row x hx _ g1
    have := hl x hx
    rw [<- f2, <- g2, a1.1, a2.1, fin _ a1.2, fin _ a2.2] at this
    exact this
  -- the order in which the classes are found
  have seq : ∀ j, j <= (reach T).length -> bfs (bV' T (reach T) c k) (an' (((reach T).take j).map c)).length = an' ((bfs T j).map c) := by
    intro j
    induction j with
    | zero =>
      intro _
      show [0] = an' [c 0]
      rw [c0]; rfl
    | succ j ih =>
      intro hj
      have ih := ih (by omega)
      have hs : (reach T)[j]? = some (reach T)[j] := List.getElem?_eq_getElem (by omega)
      generalize (reach T)[j] = s at hs
      have hsb := du' hT hn hs
      have hsm : s ∈ reach T := List.mem_of_getElem? hs
      have tk : (reach T).take (j + 1) = (reach T).take j ++ [s] := by rw [List.take_succ, hs]; rfl
      have hpre : an' (((reach T).take j).map c) <+: List.range k := by rw [<- h.num]; exact c5' c (List.take_prefix ..)
      have hr := dw' hpre
      have hpre2 : an' (((reach T).take (j + 1)).map c) <+: List.range k := by rw [<- h.num]; exact c5' c (List.take_prefix ..)
      have hjl : j <= T.length := by
        have := bS' hT hn T.length
        unfold reach at hj
        omega
      rw [d7' hsb, ct']
      rw [tk, List.map_append, List.map_cons, List.map_nil, bx'] at hpre2 ⊢
      by_cases hc : c s ∈ an' (((reach T).take j).map c)
      . rw [b6' hc, ih]
        refine (iW' fun y hy => ?_).symm
        obtain ⟨y0, hy0, rfl⟩ := List.mem_map.mp hy
        obtain ⟨s', hs', e'⟩ := List.mem_map.mp (aG'.mp hc)
        have hs'm : s' ∈ reach T := List.mem_of_mem_take hs'
        have rr : (aq' T s').map c = (aq' T s).map c := congrArg Prod.snd (st _ hs'm _ hsm e')
        have : c y0 ∈ (aq' T s').map c := by rw [rr]; exact hy
        obtain ⟨y1, hy1, e1⟩ := List.mem_map.mp this
        refine aG'.mpr (List.mem_map.mpr ⟨y1, ?_, e1⟩)
        obtain ⟨i, hi, ei⟩ := List.getElem_of_mem hs'
        rw [List.length_take] at hi
        rw [List.getElem_take] at ei
        have gi : (reach T)[i]? = some s' := by rw [List.getElem?_eq_getElem (by omega), ei]
        have := d7' (du' hT hn gi)
        exact (b4' (show i + 1 <= j by omega)).subset (by rw [this]; exact b0'.mpr (.inr hy1))
      . rw [bJ' hc] at hpre2 ⊢
        have hq := dw' hpre2
        have hcs : c s = (an' (((reach T).take j).map c)).length := by
          have := congrArg (fun l => l[(an' (((reach T).take j).map c)).length]?) hq
          simp only [List.getElem?_append_right (Nat.le_refl _), Nat.sub_self, List.getElem?_cons_zero, List.length_append, List.length_singleton] at this
          rw [List.getElem?_range (by omega)] at this
          exact Option.some.inj this
        rw [List.length_append, List.length_singleton]
        have hG : an' ((bfs T j).map c) <+: List.range k := by rw [<- h.num]; exact c5' c (b4' hjl)
        have hGr := dw' hG
        have hmem : c s ∈ an' ((bfs T j).map c) := aG'.mpr (List.mem_map.mpr ⟨s, List.mem_of_getElem? hsb, rfl⟩)
        have hget : (bfs (bV' T (reach T) c k) (an' (((reach T).take j).map c)).length)[(an' (((reach T).take j).map c)).length]? = some (c s) := by
          rw [ih, <- hcs]
          rw [hGr] at hmem ⊢
          rw [List.getElem?_range (List.mem_range.mp hmem)]
        rw [d7' hget, ih, row s hsm]
  have rch : reach (bV' T (reach T) c k) = List.range (bV' T (reach T) c k).length := by
    have e := seq (reach T).length (Nat.le_refl _)
    rw [List.take_length, h.num, List.length_range] at e
    have hb : bfs T (reach T).length = reach T := by
      refine dQ' hT hn ?_
      have := b4' (T := T) (show (reach T).length <= T.length from bS' hT hn _)
      exact this.length_le
    rw [hb, h.num] at e
    show bfs _ (bV' T (reach T) c k).length = _
    rw [lenT]
    exact e
  refine ⟨tab, by rw [lenT]; exact gg', by rw [lenT]; exact kle, ⟨?_, fun a ha => ?_⟩, c0, by rw [lenT]; exact lt, row, fin, by rw [lenT]; exact onto, rch, by rw [lenT]; exact apart, by rw [lenT]; exact h.num⟩
  . exact List.Pairwise.filter _ List.pairwise_lt_range
  . rw [lenT]
    exact List.mem_range.mp (List.mem_filter.mp ha).1
end
structure Cw (L : Tx) (T : List (List Nat)) (A : List Nat) (S : List Nat) (c : Nat -> Nat) : Prop where
  ref : ∀ s ∈ S, ∀ t ∈ S, c s = c t -> (s ∈ A ↔ t ∈ A)
  co : ∀ s ∈ S, ∀ t ∈ S, Leq L T A s t -> c s = c t
section
variable {L : Tx} {T : List (List Nat)} {A S : List Nat} {c : Nat -> Nat} {k : Nat}
theorem Clz.cw (h : Clz L T A S c k) : Cw L T A S c := ⟨h.ref, h.co⟩
theorem Cw.next (hT : a3' T T.length L.length) (hL : L.Nodup) (hS : ∀ s ∈ S, s < T.length) (hcl : ∀ s ∈ S, ∀ t ∈ aq' T s, t ∈ S) (h : Cw L T A S c) : Clz L T A S (jb' S (key T c)) (an' (S.map (key T c))).length := by
  refine ⟨iM' _, fun s hs t ht e => ?_, fun s hs t ht e => (dU' _ hs ht).mpr ?_⟩
  . have := (dU' _ hs ht).mp e
    exact h.ref s hs t ht (congrArg Prod.fst this)
  . refine Prod.ext (h.co s hs t ht e) (qh' hT hL (hS s hs) (hS t ht) fun a ha => ?_)
    exact h.co _ (hcl s hs _ (gv' hT (hS s hs) ha)) _ (hcl t ht _ (gv' hT (hS t ht) ha)) (e.step ha)
end
def dM' (X : D) (T : List (List Nat)) : Prop := ∀ (s : Nat) (r : List Nat), T[s]? = some r -> ∃ R, pIx X (.int (s : Nat)) = some R /\ ea' R = some (r.map fun t => .int (t : Nat))
def dO' (Y : D) (A : List Nat) : Prop := ∀ s : Nat, pIn (.int (s : Nat)) Y = some (.bl (decide (s ∈ A)))
theorem dM'.tab (T : List (List Nat)) : dM' (co' T) T := fun s r h => ⟨bX' r, by
  show ati (T.map bX') (s : Int) = _
  rw [hd' (by omega), List.getElem?_map, Int.toNat_natCast, h]; rfl, rfl⟩
theorem dO'.acc (A : List Nat) : dO' (cZ' A) A := fun s => by
  have h := rx' A s (Q := fun d => d = .bl (decide (s ∈ A)))
  have : wD (pIn (.int (s : Nat)) (cZ' A)) (fun d => d = .bl (decide (s ∈ A))) := by rw [h]
  rw [ay'] at this
  cases e : pIn (.int (s : Nat)) (cZ' A) with
  | none => rw [e] at this; exact this.elim
  | some d => rw [e] at this; exact congrArg some this
def ixo {γ : Type} [DecidableEq γ] (G : List γ) (a : γ) : Nat := G.idxOf a
theorem dD' {γ : Type} [DecidableEq γ] {G G' : List γ} {a : γ} (h : G <+: G') (hm : a ∈ G) : ixo G' a = ixo G a := by
  obtain ⟨K, e⟩ := h
  unfold ixo
  rw [<- e, List.idxOf_append, if_pos hm]
theorem ek' {γ : Type} [DecidableEq γ] {G : List γ} {a : γ} (hm : a ∉ G) : ixo (G ++ [a]) a = G.length := by
  unfold ixo
  rw [List.idxOf_append, if_neg hm]
  simp
theorem sL' {γ : Type} [DecidableEq γ] (S : List Nat) (f : Nat -> γ) (s : Nat) : jb' S f s = ixo (an' (S.map f)) (f s) := rfl
theorem dV' {γ : Type} [DecidableEq γ] (G : List γ) (k : γ) : (G.map fun a => (a, D.int (ixo G a : Nat))).lookup k = if k ∈ G then some (D.int (ixo G k : Nat)) else none := by
  have go : ∀ (l : List γ) (h : γ -> D), (l.map fun a => (a, h a)).lookup k = if k ∈ l then some (h k) else none := by
    intro l h
    induction l with
    | nil => rfl
    | cons a l ih =>
      rw [List.map_cons, List.lookup_cons, ih]
      by_cases q : k = a
      . subst q; simp
      . have : (k == a) = false := by simpa using q
        simp [this, q]
  exact go G _
theorem lo' {γ δ : Type} [DecidableEq γ] {l : List (γ × δ)} {k : γ} (h : l.lookup k = none) (d : δ) : (l ++ [(k, d)]).lookup k = some d := by
  rw [List.lookup_append, h]
  simp
section
variable {L : Tx} {T : List (List Nat)} {A : List Nat} {c c' : Nat -> Nat} {T1 T2 : List (List Nat)} {A1 A2 : List Nat}
end
theorem kj' {S : List Nat} {c : Nat -> Nat} {s q : Nat} (h : q ∈ S.map c) : bA' (S ++ [s]) c q = bA' S c q := by
  obtain ⟨t, ht, rfl⟩ := List.mem_map.mp h
  unfold bA'
  rw [List.find?_append]
  cases e : S.find? fun s => decide (c s = c t) with
  | none =>
    have := List.find?_eq_none.mp e t ht
    simp at this
  | some u => rfl
theorem kk' {S : List Nat} {c : Nat -> Nat} {s : Nat} (h : c s ∉ S.map c) : bA' (S ++ [s]) c (c s) = s := by
  unfold bA'
  rw [List.find?_append]
  have : (S.find? fun t => decide (c t = c s)) = none := by
    rw [List.find?_eq_none]
    intro t ht e
    exact h (List.mem_map.mpr ⟨t, ht, by simpa using e⟩)
  rw [this]
  simp
def Pl (y : Option O) : Prop := y = none \/ ∃ d, y = some (.fz d)
theorem Pl.keep {y : Option O} (h : Pl y) : rf' (some y) = y := by rcases h with rfl | ⟨d, rfl⟩ <;> rfl
end M
namespace M
section
variable {L : Tx} {T T' U : List (List Nat)} {A A' B T1 A1 T2 A2 : List Nat} {m : Nat} {c : Nat -> Nat}
theorem qo' {m : Nat} (hT : a3' T T.length m) (hn : 1 <= T.length) (hT' : a3' T' T'.length m) (hn' : 1 <= T'.length) (c0 : c 0 = 0) (row : ∀ s ∈ reach T, aq' T' (c s) = (aq' T s).map c) :
    reach T' = an' ((reach T).map c) := by
  have seq : ∀ j, j <= (reach T).length -> bfs T' (an' (((reach T).take j).map c)).length = an' ((bfs T j).map c) := by
    intro j
    induction j with
    | zero =>
      intro _
      show [0] = an' [c 0]
      rw [c0]; rfl
    | succ j ih =>
      intro hj
      have ih := ih (by omega)
      have hs : (reach T)[j]? = some (reach T)[j] := List.getElem?_eq_getElem (by omega)
      generalize (reach T)[j] = s at hs
      have hsb := du' hT hn hs
      have hsm : s ∈ reach T := List.mem_of_getElem? hs
      have tk : (reach T).take (j + 1) = (reach T).take j ++ [s] := by rw [List.take_succ, hs]; rfl
      have hjl : j <= T.length := by
        have := bS' hT hn T.length
        unfold reach at hj
        omega
      rw [d7' hsb, ct']
      rw [tk, List.map_append, List.map_cons, List.map_nil, bx']
      by_cases hc : c s ∈ an' (((reach T).take j).map c)
      . rw [b6' hc, ih]
        refine (iW' fun y hy => ?_).symm
        obtain ⟨y0, hy0, rfl⟩ := List.mem_map.mp hy
        obtain ⟨s', hs', e'⟩ := List.mem_map.mp (aG'.mp hc)
        have hs'm : s' ∈ reach T := List.mem_of_mem_take hs'
        have rr : (aq' T s').map c = (aq' T s).map c := by rw [<- row _ hs'm, <- row _ hsm, e']
        have : c y0 ∈ (aq' T s').map c := by rw [rr]; exact hy
        obtain ⟨y1, hy1, e1⟩ := List.mem_map.mp this
        refine aG'.mpr (List.mem_map.mpr ⟨y1, ?_, e1⟩)
        obtain ⟨i, hi, ei⟩ := List.getElem_of_mem hs'
        rw [List.length_take] at hi
        rw [List.getElem_take] at ei
        have gi : (reach T)[i]? = some s' := by rw [List.getElem?_eq_getElem (by omega), ei]
        have := d7' (du' hT hn gi)
        exact (b4' (show i + 1 <= j by omega)).subset (by rw [this]; exact b0'.mpr (.inr hy1))
      . rw [bJ' hc, List.length_append, List.length_singleton]
        have hpre : an' (((reach T).take (j + 1)).map c) <+: an' ((bfs T (j + 1)).map c) := by
          refine c5' c ?_
          have h1 : (bfs T (j + 1)) <+: reach T := by
            by_cases q : j + 1 <= T.length
            . exact b4' q
            . have := gj' (T := T) (j := T.length) (bS' hT hn _) (i := j + 1) (by omega)
              rw [this]; exact List.prefix_refl _
          have h2 : (reach T).take (j + 1) <+: reach T := List.take_prefix ..
          refine List.prefix_of_prefix_length_le h2 h1 ?_
          rw [List.length_take]
          have h3 := (List.getElem?_eq_some_iff.mp hsb).1
          have h4 := (i7' (T := T) (j := j)).length_le
          omega
        have hpre' : an' (((reach T).take (j + 1)).map c) <+: an' ((bfs T j).map c) := by
          refine c5' c ?_
          have h1 : (bfs T j) <+: reach T := b4' hjl
          refine List.prefix_of_prefix_length_le (List.take_prefix ..) h1 ?_
          rw [List.length_take]
          have h3 := (List.getElem?_eq_some_iff.mp hsb).1
          omega
        rw [tk, List.map_append, List.map_cons, List.map_nil, bx', bJ' hc] at hpre'
        have hget : (bfs T' (an' (((reach T).take j).map c)).length)[(an' (((reach T).take j).map c)).length]? = some (c s) := by
          rw [ih]
          obtain ⟨G, eG⟩ := hpre'
          rw [<- eG, List.append_assoc, List.getElem?_append_right (Nat.le_refl _), Nat.sub_self]
          rfl
        rw [d7' hget, ih, row s hsm]
  have e := seq (reach T).length (Nat.le_refl _)
  rw [List.take_length] at e
  have hb : bfs T (reach T).length = reach T := by
    refine dQ' hT hn ?_
    have := b4' (T := T) (show (reach T).length <= T.length from bS' hT hn _)
    exact this.length_le
  rw [hb] at e
  rw [<- e]
  refine (dQ' hT' hn' ?_).symm
  rw [e]
  exact Nat.le_refl _
theorem h0' (hT : a3' T T.length L.length) (hL : L.Nodup) (hn : 1 <= T.length) : ∀ j, ∀ s ∈ bfs T j, ∃ x : Tx, (∀ a ∈ x, a ∈ L) /\ run L T 0 x = s := by
  intro j
  induction j with
  | zero =>
    intro s hs
    have : s = 0 := by simpa [bfs] using hs
    exact ⟨[], nofun, by rw [this]; rfl⟩
  | succ j ih =>
    intro s hs
    by_cases hq : j < (bfs T j).length
    . have e : (bfs T j)[j]? = some (bfs T j)[j] := List.getElem?_eq_getElem hq
      generalize (bfs T j)[j] = t at e
      rw [d7' e] at hs
      rcases b0'.mp hs with h | h
      . exact ih s h
      . have htm := List.mem_of_getElem? e
        obtain ⟨x, hx, hr⟩ := ih t htm
        have htl := g6' hT hn htm
        obtain ⟨i, hi, ei⟩ := List.getElem_of_mem h
        have hl := bY' hT htl
        have hi' : i < L.length := by omega
        refine ⟨x ++ [L[i]], fun a ha => ?_, ?_⟩
        . rcases List.mem_append.mp ha with q | q
          . exact hx a q
          . rw [List.mem_singleton.mp q]; exact List.getElem_mem hi'
        . rw [nc', hr, fh' hL hi', List.getElem?_eq_getElem hi, ei]; rfl
    . exact ih s (by rw [gj' (Nat.le_of_not_lt hq) (Nat.le_succ j)] at hs; exact hs)
theorem IsLeast.run0 {T1 : List (List Nat)} (hT : a3' T T.length L.length) (hn : 1 <= T.length) (h : IsLeast L T A c T1 A1) {x : Tx} (hx : ∀ a ∈ x, a ∈ L) : run L T1 0 x ∈ A1 ↔ run L T 0 x ∈ A := by
  have hS : ∀ s ∈ M.reach T, s < T.length := fun s hs => ge' hT hn hs
  have hcl : ∀ s ∈ M.reach T, ∀ t ∈ aq' T s, t ∈ M.reach T := fun s hs t ht => cK' hT hn hs ht
  have := iB' hT hS hcl h.row x hx 0 dR'
  rw [h.c0] at this
  rw [this.1, h.fin _ this.2]
theorem IsLeast.lang {T1 T2 : List (List Nat)} {c' : Nat -> Nat} (hL : L.Nodup) (hT : a3' T T.length L.length) (hn : 1 <= T.length) (hU : a3' U U.length L.length) (hn' : 1 <= U.length) (h1 : IsLeast L T A c T1 A1) (h2 : IsLeast L U B c' T2 A2)
    (hl : ∀ x : Tx, (∀ a ∈ x, a ∈ L) -> (run L T 0 x ∈ A ↔ run L U 0 x ∈ B)) : T1 = T2 /\ A1 = A2 := by
  have hl' : ∀ x : Tx, (∀ a ∈ x, a ∈ L) -> (run L T1 0 x ∈ A1 ↔ run L T2 0 x ∈ A2) := fun x hx => by rw [h1.run0 hT hn hx, h2.run0 hU hn' hx]; exact hl x hx
  have rw1 : ∀ q < T1.length, ∃ x : Tx, (∀ a ∈ x, a ∈ L) /\ run L T1 0 x = q := fun q hq => by
    have : q ∈ M.reach T1 := by rw [h1.reach]; exact List.mem_range.mpr hq
    exact h0' h1.tab hL h1.ne _ q this
  -- the state of the second that says the same
  have ex : ∀ q, ∃ p, q < T1.length -> p < T2.length /\ ∀ x : Tx, (∀ a ∈ x, a ∈ L) -> (run L T1 q x ∈ A1 ↔ run L T2 p x ∈ A2) := fun q => by
    by_cases hq : q < T1.length
    . obtain ⟨y, hy, e⟩ := rw1 q hq
      refine ⟨run L T2 0 y, fun _ => ⟨t2' h2.tab (Nat.lt_of_lt_of_le Nat.zero_lt_one h2.ne) hy, fun x hx => ?_⟩⟩
      have := hl' (y ++ x) (fun a ha => (List.mem_append.mp ha).elim (hy a) (hx a))
      rw [dP', dP', e] at this
      exact this
    . exact ⟨0, fun h => absurd h hq⟩
  obtain ⟨f, hf⟩ : ∃ f : Nat -> Nat, ∀ q < T1.length, f q < T2.length /\ ∀ x : Tx, (∀ a ∈ x, a ∈ L) -> (run L T1 q x ∈ A1 ↔ run L T2 (f q) x ∈ A2) := ⟨fun q => (ex q).choose, fun q hq => (ex q).choose_spec hq⟩
  have z1 : 0 < T1.length := h1.ne
  have z2 : 0 < T2.length := h2.ne
  have f0 : f 0 = 0 := h2.apart _ (hf 0 z1).1 _ z2 fun x hx => by rw [<- (hf 0 z1).2 x hx]; exact hl' x hx
  have fstp : ∀ q < T1.length, ∀ a ∈ L, f (stp L T1 q a) = stp L T2 (f q) a := fun q hq a ha => by
    obtain ⟨_, _, _, l1⟩ := hV' h1.tab hq ha
    obtain ⟨_, _, _, l2⟩ := hV' h2.tab (hf q hq).1 ha
    refine h2.apart _ (hf _ l1).1 _ l2 fun x hx => ?_
    rw [<- (hf _ l1).2 x hx]
    exact (hf q hq).2 (a :: x) (fun b hb => (List.mem_cons.mp hb).elim (fun e => e ▸ ha) (hx b))
  have row : ∀ q ∈ M.reach T1, aq' T2 (f q) = (aq' T1 q).map f := fun q hq => by
    have hq : q < T1.length := by rw [h1.reach] at hq; exact List.mem_range.mp hq
    have la := bY' h2.tab (hf q hq).1
    have lb := bY' h1.tab hq
    refine List.ext_getElem (by rw [List.length_map]; omega) fun i i1 i2 => ?_
    have hi : i < L.length := by omega
    have e := fstp q hq L[i] (List.getElem_mem hi)
    rw [fh' hL hi, fh' hL hi, List.getElem?_eq_getElem i1, List.getElem?_eq_getElem (by omega)] at e
    rw [List.getElem_map]
    exact e.symm
  have rm := qo' h1.tab h1.ne h2.tab h2.ne f0 row
  rw [h1.reach, h2.reach] at rm
  have inj : ∀ p ∈ List.range T1.length, ∀ q ∈ List.range T1.length, f p = f q -> p = q := fun p hp q hq e => by
    have hp := List.mem_range.mp hp
    have hq := List.mem_range.mp hq
    exact h1.apart p hp q hq fun x hx => by rw [(hf p hp).2 x hx, (hf q hq).2 x hx, e]
  rw [dB' f _ inj, b9' List.nodup_range] at rm
  have len : T2.length = T1.length := by have := congrArg List.length rm; simpa using this
  have fid : ∀ q < T1.length, f q = q := fun q hq => by
    have := congrArg (fun l => l[q]?) rm
    simp only [List.getElem?_map] at this
    rw [List.getElem?_range (by omega), List.getElem?_range hq] at this
    simpa using this.symm
  constructor
  . refine List.ext_getElem len.symm fun i i1 i2 => ?_
    have hr := row i (by rw [h1.reach]; exact List.mem_range.mpr i1)
    rw [fid i i1] at hr
    have e1 : T1[i] = aq' T1 i := by unfold aq'; rw [List.getElem?_eq_getElem i1]; rfl
    have e2 : T2[i] = aq' T2 i := by unfold aq'; rw [List.getElem?_eq_getElem i2]; rfl
    rw [e1, e2, hr]
    conv => lhs; rw [<- List.map_id (aq' T1 i)]
    refine List.map_congr_left fun t ht => ?_
    exact (fid t (gE' h1.tab ht)).symm
  . refine rM' h1.acc.asc h2.acc.asc fun q => ?_
    constructor
    . intro h
      have hq := h1.acc.lt q h
      have := (hf q hq).2 [] nofun
      rw [fid q hq] at this
      exact this.mp h
    . intro h
      have hq : q < T1.length := by rw [<- len]; exact h2.acc.lt q h
      have := (hf q hq).2 [] nofun
      rw [fid q hq] at this
      exact this.mpr h
end
end M
namespace M
section
variable {γ : Type} [DecidableEq γ] (L : Tx) (sx : γ -> Nat -> γ) (g0 : γ)
def nxG (g : γ) : List γ := L.map (sx g)
def xbf : Nat -> List γ
  | 0 => [g0]
  | j + 1 => match (xbf j)[j]? with
    | some g => bW' (xbf j) (nxG L sx g)
    | none => xbf j
def sT' (g : γ) (z : Tx) : γ := z.foldl sx g
def Rch (g : γ) : Prop := ∃ z : Tx, (∀ c ∈ z, c ∈ L) /\ g = sT' sx g0 z
def Few (N : Nat) : Prop := ∀ l : List γ, l.Nodup -> (∀ g ∈ l, Rch L sx g0 g) -> l.length <= N
def fI' (N : Nat) : List γ := xbf L sx g0 N
def e6' (F : List γ) (g : γ) : List Nat := L.map fun c => ixo F (sx g c)
def hO' (F : List γ) : List (List Nat) := F.map (e6' L sx F)
def kY' (F : List γ) (p : γ -> Bool) : List Nat := (List.range F.length).filter fun q => ((F[q]?).map p).getD false
variable {L sx g0}
theorem k0' {j : Nat} : xbf L sx g0 j <+: xbf L sx g0 (j + 1) := by
  show xbf L sx g0 j <+: (match (xbf L sx g0 j)[j]? with | some s => bW' (xbf L sx g0 j) (nxG L sx s) | none => xbf L sx g0 j)
  split
  . exact cq'
  . exact List.prefix_refl _
theorem rZ' {i j : Nat} (h : i <= j) : xbf L sx g0 i <+: xbf L sx g0 j := by
  induction h with
  | refl => exact List.prefix_refl _
  | step _ ih => exact ih.trans k0'
theorem l0' : ∀ j : Nat, (xbf L sx g0 j).Nodup
  | 0 => by simp [xbf]
  | j + 1 => by
    show (match (xbf L sx g0 j)[j]? with | some s => bW' (xbf L sx g0 j) (nxG L sx s) | none => xbf L sx g0 j).Nodup
    split
    . exact ft' (l0' j)
    . exact l0' j
theorem q4' {g : γ} {z : Tx} {c : Nat} : sT' sx g (z ++ [c]) = sx (sT' sx g z) c := by unfold sT'; rw [List.foldl_append]; rfl
theorem dl' : ∀ j : Nat, ∀ g ∈ xbf L sx g0 j, Rch L sx g0 g
  | 0, g, h => by
    have : g = g0 := by simpa [xbf] using h
    exact ⟨[], nofun, this⟩
  | j + 1, g, h => by
    have h : g ∈ (match (xbf L sx g0 j)[j]? with | some s => bW' (xbf L sx g0 j) (nxG L sx s) | none => xbf L sx g0 j) := h
    split at h
    . rename_i s e
      rcases b0'.mp h with q | q
      . exact dl' j g q
      . obtain ⟨c, hc, rfl⟩ := List.mem_map.mp q
        obtain ⟨z, hz, rfl⟩ := dl' j s (List.mem_of_getElem? e)
        exact ⟨z ++ [c], fun d hd => (List.mem_append.mp hd).elim (hz d) (fun q => List.mem_singleton.mp q ▸ hc), q4'.symm⟩
    . exact dl' j g h
theorem iq' {j : Nat} (h : (xbf L sx g0 j).length <= j) : ∀ {i : Nat}, j <= i -> xbf L sx g0 i = xbf L sx g0 j := by
  intro i hi
  induction hi with
  | refl => rfl
  | @step i hi ih =>
    show (match (xbf L sx g0 i)[i]? with | some s => bW' (xbf L sx g0 i) (nxG L sx s) | none => xbf L sx g0 i) = _
    have : (xbf L sx g0 i)[i]? = none := by rw [ih]; exact List.getElem?_eq_none (Nat.le_trans h hi)
    rw [this, ih]
theorem oI' {j : Nat} {g : γ} (h : (xbf L sx g0 j)[j]? = some g) : xbf L sx g0 (j + 1) = bW' (xbf L sx g0 j) (nxG L sx g) := by
  show (match (xbf L sx g0 j)[j]? with | some s => bW' (xbf L sx g0 j) (nxG L sx s) | none => xbf L sx g0 j) = _
  rw [h]
variable {N : Nat}
theorem Few.len (h : Few L sx g0 N) (j : Nat) : (xbf L sx g0 j).length <= N := h _ (l0' j) (dl' j)
theorem Few.all (h : Few L sx g0 N) {j : Nat} (hj : (xbf L sx g0 j).length <= j) : xbf L sx g0 j = fI' L sx g0 N := by
  by_cases q : j <= N
  . exact (iq' hj q).symm
  . exact iq' (h.len _) (by omega)
theorem Few.pre (h : Few L sx g0 N) (j : Nat) : xbf L sx g0 j <+: fI' L sx g0 N := by
  by_cases q : j <= N
  . exact rZ' q
  . have : xbf L sx g0 j = fI' L sx g0 N := iq' (h.len _) (by omega)
    rw [this]
    exact List.prefix_refl _
theorem Few.get (h : Few L sx g0 N) {j : Nat} {g : γ} (e : (fI' L sx g0 N)[j]? = some g) : (xbf L sx g0 j)[j]? = some g := by
  have h1 : j < (xbf L sx g0 j).length := by
    rcases Nat.lt_or_ge j (xbf L sx g0 j).length with q | q
    . exact q
    . have := h.all q
      rw [<- this] at e
      have := (List.getElem?_eq_some_iff.mp e).1
      omega
  obtain ⟨G, eG⟩ := h.pre j
  rw [<- eG, List.getElem?_append_left h1] at e
  exact e
theorem Few.nd : (fI' L sx g0 N).Nodup := l0' N
theorem Few.zero (h : Few L sx g0 N) : (fI' L sx g0 N)[0]? = some g0 := by
  obtain ⟨G, e⟩ := h.pre 0
  rw [<- e]
  rfl
theorem Few.closed (h : Few L sx g0 N) {g : γ} (hg : g ∈ fI' L sx g0 N) {c : Nat} (hc : c ∈ L) : sx g c ∈ fI' L sx g0 N := by
  obtain ⟨j, hj, e⟩ := List.getElem_of_mem hg
  have e1 : (fI' L sx g0 N)[j]? = some g := by rw [List.getElem?_eq_getElem hj, e]
  have := oI' (h.get e1)
  exact (h.pre (j + 1)).subset (by rw [this]; exact b0'.mpr (.inr (List.mem_map.mpr ⟨c, hc, rfl⟩)))
theorem Few.mono {N' : Nat} (h : Few L sx g0 N) (hn : N <= N') : Few L sx g0 N' := fun l a b => Nat.le_trans (h l a b) hn
theorem yo' {F : List γ} {g : γ} (h : g ∈ F) : ixo F g < F.length := List.idxOf_lt_length_iff.mpr h
theorem vN' {F : List γ} {g : γ} (h : g ∈ F) : F[ixo F g]? = some g := by
  unfold ixo
  rw [List.getElem?_eq_getElem (List.idxOf_lt_length_iff.mpr h), List.getElem_idxOf]
theorem Few.tab (h : Few L sx g0 N) : a3' (hO' L sx (fI' L sx g0 N)) (hO' L sx (fI' L sx g0 N)).length L.length := by
  refine ⟨rfl, fun r hr => ?_⟩
  obtain ⟨g, hg, rfl⟩ := List.mem_map.mp hr
  refine ⟨by simp [e6'], fun t ht => ?_⟩
  obtain ⟨c, hc, rfl⟩ := List.mem_map.mp ht
  rw [show (hO' L sx (fI' L sx g0 N)).length = (fI' L sx g0 N).length by simp [hO']]
  exact yo' (h.closed hg hc)
theorem Few.tlen : (hO' L sx (fI' L sx g0 N)).length = (fI' L sx g0 N).length := by simp [hO']
theorem Few.ne (h : Few L sx g0 N) : 1 <= (fI' L sx g0 N).length := by
  have := (List.getElem?_eq_some_iff.mp h.zero).1
  omega
theorem Few.run (h : Few L sx g0 N) : ∀ (z : Tx) (s : Nat) (g : γ), (∀ c ∈ z, c ∈ L) -> (fI' L sx g0 N)[s]? = some g -> (fI' L sx g0 N)[M.run L (hO' L sx (fI' L sx g0 N)) s z]? = some (sT' sx g z)
  | [], s, g, _, e => e
  | c :: z, s, g, hz, e => by
    have hc := hz c (by simp)
    have hg := List.mem_of_getElem? e
    rw [gd']
    have e1 : stp L (hO' L sx (fI' L sx g0 N)) s c = ixo (fI' L sx g0 N) (sx g c) := by
      unfold stp hO'
      rw [List.getElem?_map, e]
      show ((e6' L sx (fI' L sx g0 N) g)[L.idxOf c]?).getD 0 = _
      unfold e6'
      rw [List.getElem?_map, List.getElem?_eq_getElem (List.idxOf_lt_length_iff.mpr hc), List.getElem_idxOf]
      rfl
    rw [e1]
    exact Few.run h z _ (sx g c) (fun d hd => hz d (by simp [hd])) (vN' (h.closed hg hc))
theorem Few.says (h : Few L sx g0 N) (p : γ -> Bool) {z : Tx} (hz : ∀ c ∈ z, c ∈ L) : M.run L (hO' L sx (fI' L sx g0 N)) 0 z ∈ kY' (fI' L sx g0 N) p ↔ p (sT' sx g0 z) = true := by
  have e := h.run z 0 g0 hz h.zero
  have hl := (List.getElem?_eq_some_iff.mp e).1
  unfold kY'
  rw [List.mem_filter, e]
  simp only [List.mem_range, Option.map_some, Option.getD_some]
  exact ⟨fun q => q.2, fun q => ⟨hl, q⟩⟩
def oe' (e : γ -> D) (F : List γ) : O := dX e (F.map fun a => (a, .int (ixo F a : Nat)))
theorem iP' {e : γ -> D} (he : KeyE e) {F : List γ} {k : γ} (h : k ∈ F) : cd' (oe' e F) (e k) = some (some (.fz (.int (ixo F k : Nat)))) := by
  have := dC' he (F.map fun a => (a, D.int (ixo F a : Nat))) k
  rw [dV', if_pos h] at this
  exact this
theorem nv' {e : γ -> D} (he : KeyE e) {F : List γ} {k : γ} (h : k ∉ F) : cd' (oe' e F) (e k) = some none := by
  have := dC' he (F.map fun a => (a, D.int (ixo F a : Nat))) k
  rw [dV', if_neg h] at this
  exact this
theorem qx' {e : γ -> D} (he : KeyE e) {F : List γ} {k : γ} (h : k ∉ F) (hl : F.length < 16777216) : eH' (oe' e F) (e k) (.fz (.int (F.length : Nat))) = some (oe' e (F ++ [k])) := by
  have hk : (F.map fun a => (a, D.int (ixo F a : Nat))).lookup k = none := by rw [dV', if_neg h]
  have := lg' he hk (by rw [List.length_map]; exact hl) (.int (F.length : Nat))
  unfold oe'
  rw [this, List.map_append]
  congr 3
  . refine List.map_congr_left fun a ha => ?_
    rw [dD' ⟨[k], rfl⟩ ha]
  . rw [List.map_cons, List.map_nil, ek' h]
theorem um' (G : List γ) {N : Nat} (hN : G.length <= N) (h : ∀ g, Rch L sx g0 g -> g ∈ G) : Few L sx g0 N := fun l hn hl =>
  Nat.le_trans (List.Nodup.length_le_of_subset hn fun g hg => h g (hl g hg)) hN
end
theorem qi' {L : Tx} {T : List (List Nat)} (hT : a3' T T.length L.length) (hL : L.Nodup) {q i : Nat} (hq : q < T.length) (hi : i < L.length) : T[q]? = some (aq' T q) /\ (aq' T q)[i]? = some (stp L T q L[i]) /\ stp L T q L[i] < T.length := by
  have h1 := cp' hT hq
  have h2 := bY' hT hq
  have h3 : i < (aq' T q).length := by omega
  have e : stp L T q L[i] = (aq' T q)[i] := by rw [fh' hL hi, List.getElem?_eq_getElem h3]; rfl
  refine ⟨h1, by rw [e, List.getElem?_eq_getElem h3], ?_⟩
  rw [e]
  exact gE' hT (List.getElem_mem h3)
end M
namespace M
theorem eR' (c : Nat) : ∀ l : List Tx, (cW' [c] l).length <= (l.map List.length).sum + l.length
  | [] => by simp [cW']
  | [a] => by simp [cW']
  | a :: b :: r => by
    have ih := eR' c (b :: r)
    show (a ++ ([c] ++ cW' [c] (b :: r))).length <= _
    rw [List.length_append, List.length_append, List.length_singleton, List.map_cons, List.sum_cons, List.length_cons]
    omega
end M
namespace M
def wlt (x y : Tx) : Prop := x.length < y.length \/ (x.length = y.length /\ x < y)
def wle (x y : Tx) : Prop := x = y \/ wlt x y
theorem nX' (x : Tx) : ¬ wlt x x := fun h => h.elim (fun h => Nat.lt_irrefl _ h) (fun h => List.lt_irrefl x h.2)
theorem oL' {x y z : Tx} (h1 : wlt x y) (h2 : wlt y z) : wlt x z := by
  rcases h1 with h1 | ⟨e1, h1⟩ <;> rcases h2 with h2 | ⟨e2, h2⟩
  . exact .inl (by omega)
  . exact .inl (by omega)
  . exact .inl (by omega)
  . exact .inr ⟨by omega, List.lt_trans h1 h2⟩
theorem jh' {x y : Tx} (h1 : wle x y) (h2 : wle y x) : x = y := by
  rcases h1 with h1 | h1
  . exact h1
  . rcases h2 with h2 | h2
    . exact h2.symm
    . exact absurd (oL' h1 h2) (nX' x)
section
variable {γ : Type} [DecidableEq γ] (sx : γ -> Nat -> γ)
def C1' (p : γ × Tx) (F : List (γ × Tx)) (c : Nat) : List (γ × Tx) := if sx p.1 c ∈ F.map (·.1) then F else F ++ [(sx p.1 c, p.2 ++ [c])]
variable (L : Tx) (g0 : γ)
def xw : Nat -> List (γ × Tx)
  | 0 => [(g0, [])]
  | j + 1 => match (xw j)[j]? with
    | some p => L.foldl (C1' sx p) (xw j)
    | none => xw j
variable {sx L g0}
structure XwOk (sx : γ -> Nat -> γ) (L : Tx) (g0 : γ) (j : Nat) : Prop where
  asc : (xw sx L g0 j).Pairwise (fun a b => wlt a.2 b.2)
  led : ∀ q ∈ xw sx L g0 j, (∀ c ∈ q.2, c ∈ L) /\ q.1 = sT' sx g0 q.2
  old : ∀ (i : Nat) (q : γ × Tx), (xw sx L g0 j)[i]? = some q -> q.2 = [] \/ ∃ (k : Nat) (r : γ × Tx) (c : Nat), k < j /\ (xw sx L g0 j)[k]? = some r /\ q.2 = r.2 ++ [c]
  small : ∀ (k : Nat) (r : γ × Tx), k < j -> (xw sx L g0 j)[k]? = some r -> ∀ c ∈ L, ∃ q ∈ xw sx L g0 j, q.1 = sx r.1 c /\ wle q.2 (r.2 ++ [c])
def z5' (L : Tx) (P : Tx -> Prop) (x : Tx) : Prop := (∀ c ∈ x, c ∈ L) /\ P x /\ ∀ z, (∀ c ∈ z, c ∈ L) -> P z -> wle x z
theorem z5'.uniq {P Q : Tx -> Prop} {x y : Tx} (h1 : z5' L P x) (h2 : z5' L Q y) (h : ∀ z, (∀ c ∈ z, c ∈ L) -> (P z ↔ Q z)) : x = y :=
  jh' (h1.2.2 y h2.1 ((h y h2.1).mpr h2.2.1)) (h2.2.2 x h1.1 ((h x h1.1).mp h1.2.1))
end
end M
namespace M
section
variable {X : Exc -> PSt -> Prop} {ρ : PSt}
end
end M
namespace M
section
variable {α : Type} (mul : α -> α -> α) (one : α) (S : α -> Prop)
structure Mon (l : List α) : Prop where
  cl : ∀ {a b}, S a -> S b -> S (mul a b)
  as : ∀ {a b c}, S a -> S b -> S c -> mul (mul a b) c = mul a (mul b c)
  o : S one
  l1 : ∀ {a}, S a -> mul one a = a
  r1 : ∀ {a}, S a -> mul a one = a
  fin : ∀ a, S a -> a ∈ l
def pw (a : α) : Nat -> α
  | 0 => a
  | n + 1 => mul (pw a n) a
def Idm (e : α) : Prop := mul e e = e
def Om (a e : α) : Prop := ∃ n, e = pw mul a n /\ Idm mul e
def Ker (d : α) : Prop := S d /\ ∀ y, S y -> ∃ u v, S u /\ S v /\ d = mul u (mul y v)
end
section
variable {α : Type} {mul : α -> α -> α} {one : α} {S : α -> Prop} {l : List α}
theorem Mon.pw (h : Mon mul one S l) {a : α} (ha : S a) : ∀ n, S (M.pw mul a n)
  | 0 => ha
  | n + 1 => h.cl (h.pw ha n) ha
theorem Mon.pw_add (h : Mon mul one S l) {a : α} (ha : S a) (m : Nat) : ∀ n, mul (M.pw mul a m) (M.pw mul a n) = M.pw mul a (m + n + 1)
  | 0 => rfl
  | n + 1 => by
    show mul (M.pw mul a m) (mul (M.pw mul a n) a) = mul (M.pw mul a (m + n + 1)) a
    rw [<- h.as (h.pw ha m) (h.pw ha n) ha, h.pw_add ha m n]
theorem Mon.pw_comm (h : Mon mul one S l) {a : α} (ha : S a) (m n : Nat) : mul (M.pw mul a m) (M.pw mul a n) = mul (M.pw mul a n) (M.pw mul a m) := by
  rw [h.pw_add ha, h.pw_add ha, Nat.add_comm m n]
theorem Mon.om_ex (h : Mon mul one S l) {a : α} (ha : S a) : ∃ n, n <= l.length * (l.length + 1) /\ Idm mul (M.pw mul a n) := by
  have hnd : ¬ ((List.range (l.length + 1)).map (M.pw mul a)).Nodup := fun hn => by
    have := List.Nodup.length_le_of_subset hn (l₂ := l) fun x hx => by
      obtain ⟨n, _, rfl⟩ := List.mem_map.1 hx
      exact h.fin _ (h.pw ha n)
    simp at this
    omega
  obtain ⟨i, j, hij, hj, e⟩ : ∃ i j, i < j /\ j <= l.length /\ M.pw mul a i = M.pw mul a j := by
    refine Classical.byContradiction fun hc => hnd ?_
    rw [List.nodup_iff_pairwise_ne, List.pairwise_map]
    refine List.Pairwise.imp_of_mem ?_ List.pairwise_lt_range
    intro a b ha hb hab e
    exact hc ⟨a, b, hab, by have := List.mem_range.1 hb; omega, e⟩
  have per : ∀ k, M.pw mul a (i + k + (j - i)) = M.pw mul a (i + k) := by
    intro k
    cases k with
    | zero => rw [Nat.add_zero, show i + (j - i) = j by omega, e]
    | succ k =>
      have e1 := h.pw_add ha i k
      have e2 := h.pw_add ha j k
      rw [show i + (k + 1) + (j - i) = j + k + 1 by omega, <- e2, <- e, e1]
      rfl
  have pers : ∀ k m, M.pw mul a (i + k + m * (j - i)) = M.pw mul a (i + k) := by
    intro k m
    induction m with
    | zero => rw [Nat.zero_mul, Nat.add_zero]
    | succ m ih =>
      rw [Nat.add_mul, Nat.one_mul, <- Nat.add_assoc, show i + k + m * (j - i) + (j - i) = i + (k + m * (j - i)) + (j - i) by omega, per, <- Nat.add_assoc, ih]
  have hp : 1 <= j - i := by omega
  have hge : i + 1 <= (i + 1) * (j - i) := Nat.le_mul_of_pos_right _ hp
  have hle : (i + 1) * (j - i) <= (l.length + 1) * l.length := Nat.mul_le_mul (by omega) (by omega)
  refine ⟨(i + 1) * (j - i) - 1, by rw [Nat.mul_comm l.length]; omega, ?_⟩
  show mul _ _ = _
  rw [h.pw_add ha]
  have := pers ((i + 1) * (j - i) - 1 - i) (i + 1)
  rw [show i + ((i + 1) * (j - i) - 1 - i) = (i + 1) * (j - i) - 1 by omega] at this
  rw [<- this]
  congr 1
  omega
theorem Om.s (h : Mon mul one S l) {a e : α} (ha : S a) (o : Om mul a e) : S e := by
  obtain ⟨n, rfl, _⟩ := o
  exact h.pw ha n
theorem Mon.pw_split (h : Mon mul one S l) {a : α} (ha : S a) (n : Nat) : ∃ w, S w /\ M.pw mul a n = mul a w /\ M.pw mul a n = mul w a := by
  cases n with
  | zero => exact ⟨one, h.o, (h.r1 ha).symm, (h.l1 ha).symm⟩
  | succ n =>
    refine ⟨M.pw mul a n, h.pw ha n, ?_, rfl⟩
    have := h.pw_add ha 0 n
    rw [show 0 + n + 1 = n + 1 by omega] at this
    exact this.symm
theorem Ker.mul_l (h : Mon mul one S l) {d a : α} (hd : Ker mul S d) (ha : S a) : Ker mul S (mul a d) := by
  refine ⟨h.cl ha hd.1, fun y hy => ?_⟩
  obtain ⟨u, v, hu, hv, e⟩ := hd.2 y hy
  refine ⟨mul a u, v, h.cl ha hu, hv, ?_⟩
  rw [h.as ha hu (h.cl hy hv), <- e]
theorem Ker.pw (h : Mon mul one S l) {d : α} (hd : Ker mul S d) : ∀ n, Ker mul S (M.pw mul d n)
  | 0 => hd
  | n + 1 => Ker.mul_l h hd (h.pw hd.1 n)
theorem Ker.below (h : Mon mul one S l) {e f : α} (he : Ker mul S e) (ie : Idm mul e) (sf : S f) (jf : Idm mul f) (h1 : mul e f = f) (h2 : mul f e = f) : f = e := by
  have se := he.1
  obtain ⟨u, v, su, sv, eq⟩ := he.2 f sf
  have sfv := h.cl sf sv
  have sb := h.cl sfv se
  have sa := h.cl se (h.cl su sf)
  generalize ha : mul e (mul u f) = a at *
  generalize hb : mul (mul f v) e = b at *
  have ab : mul a b = e := by
    rw [<- ha, <- hb, h.as se (h.cl su sf) (h.cl sfv se), h.as su sf (h.cl sfv se), <- h.as sf sfv se, <- h.as sf sf sv, show mul f f = f from jf, <- h.as su sfv se, <- eq, show mul e e = e from ie]
    exact ie
  have eb : mul e b = b := by rw [<- hb, <- h.as se sfv se, <- h.as se sf sv, h1]
  have fb : mul f b = b := by rw [<- hb, <- h.as sf sfv se, <- h.as sf sf sv, show mul f f = f from jf]
  have ae : mul a e = a := by rw [<- ha, h.as se (h.cl su sf) se, h.as su sf se, h2]
  have key : ∀ n, mul (M.pw mul a n) (M.pw mul b n) = e := by
    intro n
    induction n with
    | zero => exact ab
    | succ n ih =>
      have sn := h.pw sa n
      have sm := h.pw sb n
      show mul (mul (M.pw mul a n) a) (mul (M.pw mul b n) b) = e
      rw [show mul (M.pw mul b n) b = mul b (M.pw mul b n) from h.pw_comm sb n 0, h.as sn sa (h.cl sb sm), <- h.as sa sb sm, ab]
      have : mul e (M.pw mul b n) = M.pw mul b n := by
        obtain ⟨r, sr, r1, -⟩ := h.pw_split sb n
        rw [r1, <- h.as se sb sr, eb]
      rw [this]
      exact ih
  obtain ⟨m, _, hm⟩ := h.om_ex sb
  have k := key m
  have sg := h.pw sb m
  have e1 : mul e (M.pw mul b m) = e := by
    rw [<- k, h.as (h.pw sa m) sg sg, show mul (M.pw mul b m) (M.pw mul b m) = _ from hm]
  obtain ⟨r, sr, r1, -⟩ := h.pw_split sb m
  have e2 : mul e (M.pw mul b m) = M.pw mul b m := by rw [r1, <- h.as se sb sr, eb]
  have e3 : mul f (M.pw mul b m) = M.pw mul b m := by rw [r1, <- h.as sf sb sr, fb]
  rw [<- e2, e1, h2] at e3
  exact e3
theorem sw' (h : Mon mul one S l) {e x : α} (se : S e) (sx : S x) (h1 : mul e x = x) (h2 : mul x e = x) (n : Nat) : mul e (M.pw mul x n) = M.pw mul x n /\ mul (M.pw mul x n) e = M.pw mul x n := by
  obtain ⟨r, sr, r1, r2⟩ := h.pw_split sx n
  exact ⟨by rw [r1, <- h.as se sx sr, h1], by rw [r2, h.as sr sx se, h2]⟩
theorem Ker.om_grp (h : Mon mul one S l) {e a f : α} (he : Ker mul S e) (ie : Idm mul e) (sa : S a) (h1 : mul e a = a) (h2 : mul a e = a) (o : Om mul a f) : f = e := by
  have sf := Om.s h sa o
  obtain ⟨n, rfl, jf⟩ := o
  obtain ⟨f1, f2⟩ := sw' h he.1 sa h1 h2 n
  exact he.below h ie sf jf f1 f2
theorem Ker.inv (h : Mon mul one S l) {e a : α} (he : Ker mul S e) (ie : Idm mul e) (sa : S a) (h1 : mul e a = a) (h2 : mul a e = a) : ∃ b, S b /\ mul e b = b /\ mul b e = b /\ mul a b = e /\ mul b a = e := by
  obtain ⟨n, _, hn⟩ := h.om_ex sa
  have en := he.om_grp h ie sa h1 h2 ⟨n, rfl, hn⟩
  obtain ⟨w, sw, w1, w2⟩ := h.pw_split sa n
  have sew := h.cl (h.cl he.1 sw) he.1
  refine ⟨mul (mul e w) e, sew, ?_, ?_, ?_, ?_⟩
  . rw [<- h.as he.1 (h.cl he.1 sw) he.1, <- h.as he.1 he.1 sw, show mul e e = e from ie]
  . rw [h.as (h.cl he.1 sw) he.1 he.1, show mul e e = e from ie]
  . rw [<- h.as sa (h.cl he.1 sw) he.1, <- h.as sa he.1 sw, h2, <- w1, en]
    exact ie
  . rw [h.as (h.cl he.1 sw) he.1 sa, h1, h.as he.1 sw sa, <- w2, en]
    exact ie
end
end M
namespace M
section
variable {β : Type} [Mul β]
structure FM (one : β) (l : List β) : Prop where
  as : ∀ a b c : β, a * b * c = a * (b * c)
  l1 : ∀ a : β, one * a = a
  r1 : ∀ a : β, a * one = a
  fin : ∀ a : β, a ∈ l
structure Sub (one : β) (S : β -> Prop) : Prop where
  cl : ∀ {a b}, S a -> S b -> S (a * b)
  o : S one
abbrev mu : β -> β -> β := fun a b => a * b
theorem Sub.all {one : β} : Sub one (fun _ => True) := ⟨fun _ _ => trivial, trivial⟩
def nV' (β : Type) [Mul β] : Prop := ∀ x y e f : β, Om mu (x * y) e -> Om mu (y * x) f -> e * (f * e) = e
structure Blk (e a b c d : β) : Prop where
  i : e * e = e
  one : e * (a * (c * e)) = e
  other : e * (b * (d * e)) = e
  both : e * (a * (b * (c * (d * e)))) ≠ e
theorem uc' {e : β} (h : e * e = e) : Om mu e e := ⟨0, rfl, h⟩
structure Un (e a : β) : Prop where
  l : e * a = a
  r : a * e = a
  ex : ∃ b, e * b = b /\ b * e = b /\ a * b = e /\ b * a = e
theorem Un.mul {one : β} {l : List β} (h : FM one l) {e a b : β} (ha : Un e a) (hb : Un e b) : Un e (a * b) := by
  obtain ⟨a', p1, p2, p3, p4⟩ := ha.ex
  obtain ⟨b', q1, q2, q3, q4⟩ := hb.ex
  refine ⟨by rw [<- h.as, ha.l], by rw [h.as, hb.r], b' * a', by rw [<- h.as, q1], by rw [h.as, p2], ?_, ?_⟩
  . rw [h.as, <- h.as b, q3, p1, p3]
  . rw [h.as, <- h.as a', p4, hb.l, q4]
theorem nV'.split {one : β} {l : List β} (h : FM one l) (st : nV' β) {e x y : β} (ie : e * e = e) (hx : Un e (e * (x * e))) (hy : Un e (e * (y * e))) : e * (x * (y * e)) = e * (x * e) * (e * (y * e)) := by
  obtain ⟨p', p1, p2, p3, p4⟩ := hx.ex
  obtain ⟨q', q1, q2, q3, q4⟩ := hy.ex
  have ie' : ∀ z, e * (e * z) = e * z := fun z => by rw [<- h.as, ie]
  have p1' : ∀ z, e * (p' * z) = p' * z := fun z => by rw [<- h.as, p1]
  have p2' : ∀ z, p' * (e * z) = p' * z := fun z => by rw [<- h.as, p2]
  have q1' : ∀ z, e * (q' * z) = q' * z := fun z => by rw [<- h.as, q1]
  have q2' : ∀ z, q' * (e * z) = q' * z := fun z => by rw [<- h.as, q2]
  -- g = p' x, h = y q'
  have a1 : p' * (x * e) = e := by rw [<- p2', p4]
  have a1' : ∀ z, p' * (x * (e * z)) = e * z := fun z => by
    have := congrArg (· * z) a1
    simpa only [h.as] using this
  have a2 : e * (x * p') = e := by
    have := p3
    rw [h.as, h.as, p1] at this
    exact this
  have a2' : ∀ z, e * (x * (p' * z)) = e * z := fun z => by
    have := congrArg (· * z) a2
    simpa only [h.as] using this
  have b1 : e * (y * q') = e := by
    have := q3
    rw [h.as, h.as, q1] at this
    exact this
  have b1' : ∀ z, e * (y * (q' * z)) = e * z := fun z => by
    have := congrArg (· * z) b1
    simpa only [h.as] using this
  have b2 : q' * (y * e) = e := by rw [<- q2', q4]
  have b2' : ∀ z, q' * (y * (e * z)) = e * z := fun z => by
    have := congrArg (· * z) b2
    simpa only [h.as] using this
  -- e, h g
  have gi : (p' * x) * (p' * x) = p' * x := by
    rw [h.as, <- p2', a2', p2']
  have hi : (y * q') * (y * q') = y * q' := by
    rw [h.as]
    have : q' * (y * q') = q' := by
      have := b2' q'
      rw [q1] at this
      exact this
    rw [this]
  have o1 : Om mu (e * ((y * q') * (p' * x))) (p' * x) := by
    have : e * ((y * q') * (p' * x)) = p' * x := by rw [h.as, b1', p1']
    rw [this]; exact uc' gi
  have o2 : Om mu (((y * q') * (p' * x)) * e) (y * q') := by
    have : ((y * q') * (p' * x)) * e = y * q' := by rw [h.as, h.as p', a1, h.as, q2]
    rw [this]; exact uc' hi
  have k := st _ _ _ _ o1 o2
  -- g h g = g
  have k2 : (p' * x) * (y * q') = e := by
    have := congrArg (· * e) k
    simp only [h.as, a1, q2] at this
    simpa only [h.as] using this
  have k2' : p' * (x * (y * q')) = e := by rw [<- h.as]; exact k2
  have f1 : e * (x * e) * (p' * (x * (y * (q' * (e * (y * e)))))) = e * (x * (y * e)) := by
    have : q' * (e * (y * e)) = e := q4
    rw [this, h.as, h.as, p1', a2']
  rw [<- f1]
  have f2 : p' * (x * (y * (q' * (e * (y * e))))) = e * (y * e) := by
    have := congrArg (· * (e * (y * e))) k2'
    simp only [h.as, ie'] at this
    exact this
  rw [f2]
section
variable {one : β} {l : List β} (gen : Nat -> β)
def dd (one : β) : List Nat -> β
  | [] => one
  | c :: z => gen c * dd one z
def DL (one : β) (lot : List Nat) (d : β) : Prop := ∃ z, (∀ c ∈ z, c ∈ lot) /\ d = dd gen one z
def FL (one : β) (lot : List Nat) (d : β) : Prop := ∃ z, (∀ c ∈ z, c ∈ lot) /\ (∀ c ∈ lot, c ∈ z) /\ d = dd gen one z
variable {gen}
theorem ru' (h : FM one l) (x y : List Nat) : dd gen one (x ++ y) = dd gen one x * dd gen one y := by
  induction x with
  | nil => exact (h.l1 _).symm
  | cons c x ih => show gen c * dd gen one (x ++ y) = gen c * dd gen one x * dd gen one y; rw [ih, h.as]
theorem DL.sub (h : FM one l) {lot : List Nat} : Sub one (DL gen one lot) where
  cl := by
    rintro _ _ ⟨x, hx, rfl⟩ ⟨y, hy, rfl⟩
    exact ⟨x ++ y, fun c hc => (List.mem_append.1 hc).elim (hx c) (hy c), (ru' h x y).symm⟩
  o := ⟨[], by simp, rfl⟩
theorem FL.mul (h : FM one l) {lot : List Nat} {a b c : β} (ha : DL gen one lot a) (hb : FL gen one lot b) (hc : DL gen one lot c) : FL gen one lot (a * (b * c)) := by
  obtain ⟨x, x1, rfl⟩ := ha
  obtain ⟨y, y1, y2, rfl⟩ := hb
  obtain ⟨z, z1, rfl⟩ := hc
  refine ⟨x ++ (y ++ z), fun c hc => ?_, fun c hc => ?_, by rw [ru' h, ru' h]⟩
  . simp only [List.mem_append] at hc
    rcases hc with q | q | q
    . exact x1 c q
    . exact y1 c q
    . exact z1 c q
  . simp only [List.mem_append]
    exact .inr (.inl (y2 c hc))
end
end
section
variable {β : Type} [Mul β] {one : β} {l : List β}
end
end M
namespace M
section
local macro_rules | `(tactic| walk_at "s") => `(tactic| simp (disch := first | assumption | omega | decide) only [*, ↓x_C, ↓x_V, ↓CJ', ↓CG', ↓Am', ↓Ac', ↓uH', ↓Ad', ↓w7', ↓Aa', ↓Ae', ↓CL', ↓CK', ↓CH', ↓CI', ↓x_O, ↓CF', ↓CE', ↓w8', ↓w0', ↓uC', ↓uF', ↓Ag', ↓r1', ↓w6', ↓Af', ↓Ab', ↓Ai', ↓w5', ↓w4', w9', ↓Al', ↓Ak', ↓uG', ↓uB', ↓r0', ↓uE', ↓z9', ↓Aj', y8', Dc', BL', zr', BM', Bl', Bk', vE', A0', AZ', tp', zB', zA', sR', vw', q0', sM', s9', Ba', Bb', wA', wz', tr', zE', zG', zF', vD', AY', AX', x8', vC', qJ', v3', yH', vd', sn', sl', sm', yV', BN', sY', wb', ↓Ah', ↓CD', ↓wY', ↓wZ', ↓z7', ↓CC', ↓w3', ↓oJ', ↓w2', ↓uD', ↓CM', ↓z8',
  ↓xE', ↓vh', ↓xF', ↓AE', ↓AD', ↓CO', ↓AC', ↓AJ', ↓AI', ↓vg', ↓AK', ↓AH', ↓xD', ↓AG', ↓AF', ↓vf', ↓Av', ↓xm',
  Aq', Au', Ap', At', wp', wl', td', BC', zp', y7', zj', ws', zg', sZ', tm', tb', tc', ta', Option.map_some, Option.map_none, Option.isSome_some, Option.isSome_none, Bool.bne_true, Bool.bne_false, wJ', vW', vV', vY', vU', yy', vT', vX', wn', za', wx', yY', zm', ul', Ao', xb', xa', xc', As', xk', xj', xl', uM', xf', Aw', xd', xe', wN', xi', xh', xg', Ar', a7', uN', uK', nY', uQ',
  zy', zw', zx', zu', wB', Bd', Bt', zb', zc', zt', Bu', Bo', Bp', BQ', BO', BR', Br', Bq', Bs', beq_self_eq_true, wu', ww', rx', te', tf', tg', s5', BE', BF', th', ti', C5', C6', C7', C9', Bx', By', BI', BK', BH', y9', uv', rv', zi', zl', nO', BA', BD', wv', aD', ts', rH', oj', sU', rd', wI', l1', List.getElem?_map, hd', yp', Bh', Bj', Bg', Bi', uw', to', y5', y6', zn', wt', wd', Be', zs', wy', nP', tj', wc', BG', zq', BZ', Bw', Bv', y1', yZ', y0', we', wo', wm', wf', lG', or', lI', lF', lE', lH', lJ', kK', lL', kM', kJ', kI', kL', kN', lz', oq', lB', ly', lx', lA', lC', i1', kv', i3', i0', iZ', i2', i4', ky', lD', kA', kx', kw', kz', kB', kE', lK', kG', kD', kC', kF', kH', Bc', BY', BX', y4', nN', y3', Bn', Bm', yU', yX', yT', yW', BS', BT', wk', wj', zf', zK', Db', Da', BJ', C8', Bz', ze', zh', si', BB', zo', y2', Bf', uO', qz', String.reduceEq, reduceIte, uL', List.getElem?_set_self, List.getElem?_set_ne, List.set_set, wq', BU', wr', BW', BV', chD,
  decide_true, decide_false, frz, rm', zI', tn1, Int.zero_add, Bool.not_false, Bool.not_true, Bool.and_true, Bool.true_and, Bool.and_false, Bool.false_and, Bool.or_true, Bool.true_or, Bool.or_false, Bool.false_or, List.getElem?_cons_zero, List.getElem?_cons_succ, List.set_cons_zero, List.set_cons_succ, List.length_cons, List.length_nil, List.map_cons, List.map_nil, List.cons_append, List.nil_append, List.replicate_succ, List.replicate_zero, List.length_map, List.length_range, List.length_set, Int.toNat_natCast, and_self, or_true, true_or, true_and, and_true, or_self, Int.reduceToNat, Int.toNat_zero, Int.toNat_one, Int.reduceNeg, Int.reducePow, Int.reduceAdd, Int.reduceSub, Int.reduceMul, Int.reduceLT, Int.reduceLE, Nat.reduceAdd, Nat.reduceSub, Nat.reduceLT, Nat.reduceLeDiff])
local macro_rules | `(tactic| walk_at "f0") => `(tactic| (refine x9' ?_ rfl; simp only [List.map_cons, List.map_nil, List.replicate_succ, List.replicate_zero, List.cons_append, List.nil_append, Nat.reduceSub]))
local macro_rules | `(tactic| walk_at "f") => `(tactic| (walk_at "f0"; walk_at "s"))
local macro_rules | `(tactic| walk_at "l") => `(tactic| (intro env2_ he_; simp only [aD', List.set_cons_zero, List.set_cons_succ] at he_; rw [he_]; clear he_))
theorem on' {w : W} {n : Nat} {m : Int} (h : c0' w n) (h1 : 0 < m) (h2 : m < 1606938044258990275541962092341162602522202993782792835301376) : wF (f__law_draw [.obj n, .int m] w) (fun o w' => ∃ d, o = .fz (.int d) /\ 0 <= d /\ d < m /\ c0' w' n /\ But n w w') FX := by
  obtain ⟨cells, i, b, s, c, hw, hi⟩ := h
  have hn := bs' hw
  unfold f__law_draw
  walk_at "f0"
  refine va' (fun ρ => ∃ x w', ρ = ⟨[some (.fz (.obj n)), some (.fz (.int m)), x, none, none], w'⟩ /\ c0' w' n /\ But n w w') ?_ ?_
  . walk_at "s"
    refine bq' (fun hb => ?_) (fun hb => ?_)
    . walk_at "s"
      refine bq' (fun hc => ?_) (fun hc => ?_)
      . walk_at "s"
        refine b3' ?_ fun x _ hx => ?_
        . omega
        walk_at "s"
        refine bq' (fun hc => ?_) (fun hc => ?_)
        . walk_at "s"
          exact ⟨_, _, rfl, ⟨cells, _, _, _, _, List.getElem?_set_self hn, by omega⟩, But.refl.set⟩
        . walk_at "s"
          exact ⟨_, _, rfl, ⟨cells, _, _, _, _, List.getElem?_set_self hn, by omega⟩, But.refl.set⟩
      . walk_at "s"
        exact ⟨_, _, rfl, ⟨cells, _, _, _, _, hw, hi⟩, But.refl⟩
    . walk_at "s"
      exact ⟨_, _, rfl, ⟨cells, _, _, _, _, hw, hi⟩, But.refl⟩
  . rintro ρ1 ⟨x, w1, rfl, ⟨cells1, i1, b1, s1, c1, hw1, hi1⟩, bt⟩
    have hn1 := bs' hw1
    walk_at "s"
    refine bq' (fun hb => ?_) (fun hb => ?_)
    . walk_at "s"
      exact ⟨_, rfl, Int.emod_nonneg _ (by omega), Int.emod_lt_of_pos _ h1, ⟨cells1, _, _, _, _, List.getElem?_set_self hn1, hi1⟩, bt.set⟩
    . walk_at "s"
      exact ⟨_, rfl, Int.emod_nonneg _ (by omega), Int.emod_lt_of_pos _ h1, ⟨cells1, _, _, _, _, List.getElem?_set_self hn1, hi1⟩, bt.set⟩
theorem bB' {w : W} {n : Nat} {m : Int} (h : c0' w n) (h1 : 0 < m) (h2 : m < 1606938044258990275541962092341162602522202993782792835301376) : wF (f__law_draw [.obj n, .int m] w) (fun o w' => ∃ d : Nat, o = .fz (.int (d : Nat)) /\ (d : Int) < m /\ c0' w' n /\ But n w w') FX := by
  refine (on' h h1 h2).mono ?_
  rintro _ w' ⟨d, rfl, h3, h4, h5, h6⟩
  exact ⟨d.toNat, by rw [Int.toNat_of_nonneg h3], by rw [Int.toNat_of_nonneg h3]; exact h4, h5, h6⟩
theorem rl' {w : W} {ns : List Int} (hl : ns.length <= 63) : wF (f__law_hand [.scr (ns.map .int)] w) (fun o w' => o = .fz (.obj w.length) /\ c0' w' w.length /\ w'.length = w.length + 1 /\ ∀ j, j < w.length -> w'[j]? = w[j]?) FX := by
  unfold f__law_hand
  walk_at "f"
  have e : cut (ns.map D.int) none (some 63) = (ns.take 63).map .int := by
    rw [uw' (by decide), <- List.map_take]
    rfl
  have e2 : ns.take 63 = ns := List.take_of_length_le hl
  rw [e2] at e
  try rw [e]
  try rw [show List.take 63 (List.map D.int ns) = ns.map D.int by rw [<- List.map_take, e2]]
  refine ia' (by omega) (fun pre acc ρ => acc = pre.map (fun i => .int (if i < 0 then -i else i)) /\ ∃ x, ρ = ⟨[some (.fz (.scr (ns.map .int))), none, x], w⟩) ⟨rfl, _, rfl⟩ ?_ ?_
  . rintro pre c post acc _ e ⟨rfl, x, rfl⟩
    walk_at "s"
    exact ⟨by simp, _, rfl⟩
  . rintro acc _ ⟨rfl, x, rfl⟩
    walk_at "s"
    refine ⟨⟨ns.map (fun i => if i < 0 then -i else i), 0, 0, 1 + ns.length, 0, ?_, by decide⟩, by simp, fun j hj => ?_⟩
    . rw [List.getElem?_append_right (Nat.le_refl _), Nat.sub_self]
      rw [List.map_map]
      rfl
    . rw [List.getElem?_append_left hj]
theorem qD' {α : Type} {l f : List α} {d : Nat} {x : α} (h : l[d]? = some x) : ((l.take d ++ l.drop (d + 1)) ++ (f ++ [x])).Perm (l ++ f) := by
  obtain ⟨hd, e⟩ := List.getElem?_eq_some_iff.mp h
  have h1 : l = l.take d ++ x :: l.drop (d + 1) := by rw [<- e, List.getElem_cons_drop, List.take_append_drop]
  generalize l.take d = a at *
  generalize l.drop (d + 1) = b at *
  subst h1
  simp only [List.append_assoc, List.cons_append]
  refine List.Perm.append_left a ?_
  rw [<- List.append_assoc]
  exact List.perm_append_comm
theorem eQ' {α β : Type} (f : α -> β) : ∀ (l : List α) (i : Nat), (l.map f).eraseIdx i = (l.eraseIdx i).map f
  | [], _ => rfl
  | _ :: _, 0 => rfl
  | a :: l, i + 1 => by simp [List.eraseIdx, eQ' f l i]
theorem eA' {w : W} {n : Nat} {l : List D} (h : c0' w n) (hs : l.length < 1073741) : wF (f__law_shuffled [.obj n, .lst l] w) (fun o w' => ∃ r : List D, o = .lst (r.map .fz) /\ r.Perm l /\ c0' w' n /\ But n w w') FX := by
  unfold f__law_shuffled
  walk_at "f"
  refine cQ' (fun k ρ => ∃ x, ∃ t r : List D, ∃ w', ρ = ⟨[some (.fz (.obj n)), some (.fz (.lst l)), some (.lst (t.map .fz)), some (.lst (r.map .fz)), x], w'⟩ /\ r.length = k /\ (t ++ r).Perm l /\ c0' w' n /\ But n w w') ⟨_, _, [], _, rfl, rfl, by simp, h, But.refl⟩ ?_ ?_
  . rintro k ρ hk ⟨x, t, r, w1, rfl, rfl, hp, hh, hb⟩
    have hl := hp.length_eq
    rw [List.length_append] at hl
    walk_at "s"
    refine (bB' hh (by omega) (by omega)).mono ?_
    rintro _ w2 ⟨d, rfl, h3, h4, h5⟩
    have hd : d < t.length := by omega
    walk_at "s"
    refine b3' (by omega) fun c _ hc => ?_
    walk_at "s"
    refine ⟨_, t.eraseIdx d, r ++ [c], _, by rw [eQ'], by simp, ?_, h4, hb.trans h5⟩
    rw [List.eraseIdx_eq_take_drop_succ]
    exact (qD' hc).trans hp
  . rintro ρ ⟨x, t, r, w1, rfl, e, hp, hh, hb⟩
    walk_at "s"
    have hl := hp.length_eq
    rw [List.length_append] at hl
    have ht : t = [] := List.eq_nil_of_length_eq_zero (by omega)
    subst ht
    exact ⟨r, rfl, hp⟩
def zJ' (T : List (List Nat)) (k many size : Nat) : Prop := T.length = k /\ ∀ r ∈ T, r.length = many /\ ∀ t ∈ r, t < size
theorem c7' (a b : Int) : (eU' a b).length = (b - a).toNat := by simp [eU']
theorem h7' {m : Nat} {d : D} (h : d ∈ eU' 0 m) : ∃ v : Nat, v < m /\ d = .int (v : Nat) := by
  unfold eU' at h
  obtain ⟨v, hv, rfl⟩ := List.mem_map.mp h
  exact ⟨v, by have := List.mem_range.mp hv; omega, by simp⟩
def Hd (o : O) (ds : List D) : Prop := o = .lst (ds.map .fz) \/ o = .fz (.lst ds)
theorem sp' {w : W} {n : Nat} {kind size many : Nat} (h : c0' w n) (hs : 1 <= size) (hs2 : size < 1000) (hm : 1 <= many) (hm2 : many < 1000) : wF (f__law_rows [.obj n, .int kind, .int size, .int many] w) (fun o w' => ∃ T, o = .fz (co' T) /\ a3' T size many /\ c0' w' n /\ But n w w') FX := by
  unfold f__law_rows
  walk_at "f"
  refine ia' (by simp; omega) (fun pre acc ρ => (∃ l : List Nat, acc = l.map (fun t => .int (t : Nat)) /\ l.length = pre.length) /\ ∃ x w', ρ = ⟨[some (.fz (.obj n)), some (.fz (.int kind)), some (.fz (.int size)), some (.fz (.int many)), some (.lst []), none, none, none, none, x, none], w'⟩ /\ c0' w' n /\ But n w w') ⟨⟨[], rfl, rfl⟩, _, _, rfl, h, But.refl⟩ ?_ ?_
  . rintro pre c post acc _ e ⟨⟨l, rfl, hl⟩, x, w1, rfl, hh, hb⟩
    walk_at "s"
    refine (bB' hh (by omega) (by omega)).mono ?_
    rintro _ w2 ⟨d, rfl, h3, h4, h5⟩
    walk_at "s"
    exact ⟨⟨l ++ [d], by simp, by simp [hl]⟩, _, _, rfl, h4, hb.trans h5⟩
  . rintro _ _ ⟨⟨steps, rfl, hsteps⟩, x, w1, rfl, hh, hb⟩
    have hsl : steps.length = many := by rw [hsteps]; simp
    walk_at "s"
    refine ia' (by simp; omega) (fun pre acc ρ => (∃ l : List (List D), acc = l.map .lst /\ l.length = pre.length /\ ∀ r ∈ l, r.Perm (eU' 0 size)) /\ ∃ x w', ρ = ⟨[some (.fz (.obj n)), some (.fz (.int kind)), some (.fz (.int size)), some (.fz (.int many)), some (.lst []), some (.lst ((steps.map (fun t => D.int (t : Nat))).map .fz)), none, none, none, x, none], w'⟩ /\ c0' w' n /\ But n w w') ⟨⟨[], rfl, rfl, by simp⟩, _, _, rfl, hh, hb⟩ ?_ ?_
    . rintro pre c post acc _ e ⟨⟨l, rfl, hl, hp⟩, x, w1, rfl, hh, hb⟩
      walk_at "s"
      refine (eA' hh (by rw [c7']; omega)).mono ?_
      rintro _ w2 ⟨d, rfl, h3, h4, h5⟩
      walk_at "s"
      exact ⟨⟨l ++ [d], by simp, by simp [hl], by simpa [or_imp, forall_and] using ⟨hp, h3⟩⟩, _, _, rfl, h4, hb.trans h5⟩
    . rintro _ _ ⟨⟨turns, rfl, hturns, hperm⟩, x, w2, rfl, hh, hb⟩
      have htl : turns.length = many := by rw [hturns]; simp
      walk_at "s"
      refine cQ' (fun k ρ => ∃ o5 o6 x7 x8 x9 x10 w', ∃ T : List (List Nat), ρ = ⟨[some (.fz (.obj n)), some (.fz (.int kind)), some (.fz (.int size)), some (.fz (.int many)), some (.lst ((T.map bX').map .fz)), some o5, some o6, x7, x8, x9, x10], w'⟩ /\ Hd o5 (steps.map (fun t => D.int (t : Nat))) /\ Hd o6 (turns.map .lst) /\ c0' w' n /\ But n w w' /\ zJ' T k many size) ⟨_, _, _, _, _, _, _, [], rfl, .inl rfl, .inl rfl, hh, hb, rfl, by simp⟩ ?_ ?_
      . rintro state _ hst ⟨o5, o6, x7, x8, x9, x10, w3, T, rfl, h5, h6, hh3, hb3, hT, hTr⟩
        walk_at "s"
        refine cQ' (fun k ρ => ∃ o5 o6 x9 x10 w', ∃ row : List Nat, ρ = ⟨[some (.fz (.obj n)), some (.fz (.int kind)), some (.fz (.int size)), some (.fz (.int many)), some (.lst ((T.map bX').map .fz)), some o5, some o6, some (.fz (.int (state : Nat))), some (.lst ((row.map fun t => D.int (t : Nat)).map .fz)), x9, x10], w'⟩ /\ Hd o5 (steps.map (fun t => D.int (t : Nat))) /\ Hd o6 (turns.map .lst) /\ c0' w' n /\ But n w w' /\ row.length = k /\ ∀ t ∈ row, t < size) ⟨_, _, _, _, _, [], rfl, h5, h6, hh3, hb3, rfl, by simp⟩ ?_ ?_
        . rintro letter _ hle ⟨o5, o6, x9, x10, w4, row, rfl, h5, h6, hh4, hb4, hrow, hrt⟩
          walk_at "s"
          refine (bB' hh4 (by omega) (by omega)).mono ?_
          rintro _ w5 ⟨d, rfl, hd, hh5, hb5⟩
          walk_at "s"
          have ht0 : (0 : Int) <= d := by omega
          generalize (d : Int) = t at hd ht0
          refine eo' (fun ρ => ∃ o5 o6, ∃ t : Int, ρ = ⟨[some (.fz (.obj n)), some (.fz (.int kind)), some (.fz (.int size)), some (.fz (.int many)), some (.lst ((T.map bX').map .fz)), some o5, some o6, some (.fz (.int (state : Nat))), some (.lst ((row.map fun t => D.int (t : Nat)).map .fz)), some (.fz (.int (letter : Nat))), some (.fz (.int t))], w5⟩ /\ Hd o5 (steps.map (fun t => D.int (t : Nat))) /\ Hd o6 (turns.map .lst) /\ 0 <= t /\ t < size) (bq' (fun hk3 => ?_) (fun _ => ?_)) ?_
          . walk_at "s"
            rcases h5 with rfl | rfl
            . walk_at "s"
              refine b3' (by omega) fun z hz _ => ?_
              walk_at "s"
              exact ⟨_, _, _, rfl, .inr rfl, h6, Int.emod_nonneg _ (by omega), Int.emod_lt_of_pos _ (by omega)⟩
            . walk_at "s"
              refine b3' (by omega) fun z hz _ => ?_
              walk_at "s"
              exact ⟨_, _, _, rfl, .inr rfl, h6, Int.emod_nonneg _ (by omega), Int.emod_lt_of_pos _ (by omega)⟩
          . walk_at "s"
            exact ⟨_, _, _, rfl, h5, h6, ht0, hd⟩
          rintro ρ5 hJ
          rcases hJ with ⟨o5, o6, t, rfl, h5, h6, ht0, hd⟩
          walk_at "s"
          refine eo' (fun ρ => ∃ o5 o6, ∃ t : Int, ρ = ⟨[some (.fz (.obj n)), some (.fz (.int kind)), some (.fz (.int size)), some (.fz (.int many)), some (.lst ((T.map bX').map .fz)), some o5, some o6, some (.fz (.int (state : Nat))), some (.lst ((row.map fun t => D.int (t : Nat)).map .fz)), some (.fz (.int (letter : Nat))), some (.fz (.int t))], w5⟩ /\ Hd o5 (steps.map (fun t => D.int (t : Nat))) /\ Hd o6 (turns.map .lst) /\ 0 <= t /\ t < size) (bq' (fun hk3 => ?_) (fun _ => ?_)) ?_
          . walk_at "s"
            rcases h5 with rfl | rfl
            . walk_at "s"
              refine b3' (by omega) fun z hz _ => ?_
              walk_at "s"
              exact ⟨_, _, _, rfl, .inr rfl, h6, by omega, by omega⟩
            . walk_at "s"
              refine b3' (by omega) fun z hz _ => ?_
              walk_at "s"
              exact ⟨_, _, _, rfl, .inr rfl, h6, by omega, by omega⟩
          . walk_at "s"
            exact ⟨_, _, _, rfl, h5, h6, ht0, hd⟩
          rintro ρ5 hJ
          rcases hJ with ⟨o5, o6, t, rfl, h5, h6, ht0, hd⟩
          walk_at "s"
          refine eo' (fun ρ => ∃ o5 o6, ∃ t : Int, ρ = ⟨[some (.fz (.obj n)), some (.fz (.int kind)), some (.fz (.int size)), some (.fz (.int many)), some (.lst ((T.map bX').map .fz)), some o5, some o6, some (.fz (.int (state : Nat))), some (.lst ((row.map fun t => D.int (t : Nat)).map .fz)), some (.fz (.int (letter : Nat))), some (.fz (.int t))], w5⟩ /\ Hd o5 (steps.map (fun t => D.int (t : Nat))) /\ Hd o6 (turns.map .lst) /\ 0 <= t /\ t < size) (bq' (fun hk3 => ?_) (fun _ => ?_)) ?_
          . walk_at "s"
            refine bq' (fun _ => ?_) (fun _ => ?_)
            . walk_at "s"
              exact ⟨_, _, _, rfl, h5, h6, Int.emod_nonneg _ (by omega), Int.emod_lt_of_pos _ (by omega)⟩
            . walk_at "s"
              exact ⟨_, _, _, rfl, h5, h6, by omega, by omega⟩
          . walk_at "s"
            exact ⟨_, _, _, rfl, h5, h6, ht0, hd⟩
          rintro ρ5 hJ
          rcases hJ with ⟨o5, o6, t, rfl, h5, h6, ht0, hd⟩
          walk_at "s"
          refine eo' (fun ρ => ∃ o5 o6, ∃ t : Int, ρ = ⟨[some (.fz (.obj n)), some (.fz (.int kind)), some (.fz (.int size)), some (.fz (.int many)), some (.lst ((T.map bX').map .fz)), some o5, some o6, some (.fz (.int (state : Nat))), some (.lst ((row.map fun t => D.int (t : Nat)).map .fz)), some (.fz (.int (letter : Nat))), some (.fz (.int t))], w5⟩ /\ Hd o5 (steps.map (fun t => D.int (t : Nat))) /\ Hd o6 (turns.map .lst) /\ 0 <= t /\ t < size) (bq' (fun hk3 => ?_) (fun _ => ?_)) ?_
          . walk_at "s"
            exact ⟨_, _, _, rfl, h5, h6, Int.emod_nonneg _ (by omega), Int.emod_lt_of_pos _ (by omega)⟩
          . walk_at "s"
            exact ⟨_, _, _, rfl, h5, h6, ht0, hd⟩
          rintro ρ5 hJ
          rcases hJ with ⟨o5, o6, t, rfl, h5, h6, ht0, hd⟩
          walk_at "s"
          refine eo' (fun ρ => ∃ o5 o6, ∃ t : Int, ρ = ⟨[some (.fz (.obj n)), some (.fz (.int kind)), some (.fz (.int size)), some (.fz (.int many)), some (.lst ((T.map bX').map .fz)), some o5, some o6, some (.fz (.int (state : Nat))), some (.lst ((row.map fun t => D.int (t : Nat)).map .fz)), some (.fz (.int (letter : Nat))), some (.fz (.int t))], w5⟩ /\ Hd o5 (steps.map (fun t => D.int (t : Nat))) /\ Hd o6 (turns.map .lst) /\ 0 <= t /\ t < size) (bq' (fun hk3 => ?_) (fun _ => ?_)) ?_
          . walk_at "s"
            refine ⟨_, _, _, rfl, h5, h6, ?_, ?_⟩
            . split <;> omega
            . split <;> omega
          . walk_at "s"
            exact ⟨_, _, _, rfl, h5, h6, ht0, hd⟩
          rintro ρ5 hJ
          rcases hJ with ⟨o5, o6, t, rfl, h5, h6, ht0, hd⟩
          walk_at "s"
          refine eo' (fun ρ => ∃ o5 o6, ∃ t : Int, ρ = ⟨[some (.fz (.obj n)), some (.fz (.int kind)), some (.fz (.int size)), some (.fz (.int many)), some (.lst ((T.map bX').map .fz)), some o5, some o6, some (.fz (.int (state : Nat))), some (.lst ((row.map fun t => D.int (t : Nat)).map .fz)), some (.fz (.int (letter : Nat))), some (.fz (.int t))], w5⟩ /\ Hd o5 (steps.map (fun t => D.int (t : Nat))) /\ Hd o6 (turns.map .lst) /\ 0 <= t /\ t < size) (bq' (fun hk3 => ?_) (fun _ => ?_)) ?_
          . walk_at "s"
            refine bq' (fun _ => ?_) (fun _ => ?_)
            . walk_at "s"
              refine bq' (fun _ => ?_) (fun _ => ?_)
              . walk_at "s"
                refine ⟨_, _, _, rfl, h5, h6, Int.emod_nonneg _ (by omega), ?_⟩
                have := Int.emod_lt_of_pos ((state : Int) + 1) (show (0 : Int) < (size : Int) - 1 by omega)
                omega
              . walk_at "s"
                exact ⟨_, _, _, rfl, h5, h6, by omega, by omega⟩
            . walk_at "s"
              exact ⟨_, _, _, rfl, h5, h6, by omega, by omega⟩
          . walk_at "s"
            exact ⟨_, _, _, rfl, h5, h6, ht0, hd⟩
          rintro ρ5 hJ
          rcases hJ with ⟨o5, o6, t, rfl, h5, h6, ht0, hd⟩
          walk_at "s"
          refine eo' (fun ρ => ∃ o5 o6, ∃ t : Int, ρ = ⟨[some (.fz (.obj n)), some (.fz (.int kind)), some (.fz (.int size)), some (.fz (.int many)), some (.lst ((T.map bX').map .fz)), some o5, some o6, some (.fz (.int (state : Nat))), some (.lst ((row.map fun t => D.int (t : Nat)).map .fz)), some (.fz (.int (letter : Nat))), some (.fz (.int t))], w5⟩ /\ Hd o5 (steps.map (fun t => D.int (t : Nat))) /\ Hd o6 (turns.map .lst) /\ 0 <= t /\ t < size) (bq' (fun hk3 => ?_) (fun _ => ?_)) ?_
          . walk_at "s"
            rcases h6 with rfl | rfl
            . walk_at "s"
              refine b3' (by omega) fun z hz _ => ?_
              have hp := hperm z hz
              have hpl := hp.length_eq
              rw [c7'] at hpl
              walk_at "s"
              refine b3' (by omega) fun y hy _ => ?_
              obtain ⟨v, hv, rfl⟩ := h7' (hp.mem_iff.mp hy)
              walk_at "s"
              exact ⟨_, _, _, rfl, h5, .inr rfl, by omega, by omega⟩
            . walk_at "s"
              refine b3' (by omega) fun z hz _ => ?_
              have hp := hperm z hz
              have hpl := hp.length_eq
              rw [c7'] at hpl
              walk_at "s"
              refine b3' (by omega) fun y hy _ => ?_
              obtain ⟨v, hv, rfl⟩ := h7' (hp.mem_iff.mp hy)
              walk_at "s"
              exact ⟨_, _, _, rfl, h5, .inr rfl, by omega, by omega⟩
          . walk_at "s"
            exact ⟨_, _, _, rfl, h5, h6, ht0, hd⟩
          rintro ρ5 hJ
          rcases hJ with ⟨o5, o6, t, rfl, h5, h6, ht0, hd⟩
          obtain ⟨t, rfl⟩ := Int.eq_ofNat_of_zero_le ht0
          walk_at "s"
          exact ⟨_, _, _, _, _, row ++ [t], by simp; exact ⟨rfl, rfl⟩, h5, h6, hh5, hb4.trans hb5, by simp [hrow], by simpa [or_imp, forall_and] using ⟨hrt, by omega⟩⟩
        . rintro _ ⟨o5, o6, x9, x10, w4, row, rfl, h5, h6, hh4, hb4, hrow, hrt⟩
          walk_at "s"
          exact ⟨_, _, _, _, _, _, _, T ++ [row], by simp [bX']; exact ⟨rfl, rfl, rfl, rfl⟩, h5, h6, hh4, hb4, by simp [hT], by
            simp only [List.mem_append, List.mem_singleton]
            rintro r (hr | rfl)
            . exact hTr r hr
            . exact ⟨hrow, hrt⟩⟩
      . rintro _ ⟨o5, o6, x7, x8, x9, x10, w3, T, rfl, h5, h6, hh3, hb3, hT, hTr⟩
        walk_at "s"
        exact ⟨T, rfl, hT, hTr⟩
theorem gD' {w : W} {n : Nat} {kind size many : Nat} (h : c0' w n) (hs : 1 <= size) (hs2 : size < 1000) (hm : 1 <= many) (hm2 : many < 1000) (hk : kind <= 4 \/ 2 <= size) : wF (f__law_rows [.obj n, .int kind, .int size, .int many] w) (fun o w' => ∃ T, o = .fz (co' T) /\ a3' T size many /\ c0' w' n /\ But n w w') FX := sp' h hs hs2 hm hm2
theorem ld' {n : Nat} {pre post : List Nat} {c : Nat} (e : List.range n = pre ++ c :: post) : c = pre.length /\ pre.length < n := by
  have h1 : (List.range n)[pre.length]? = some c := by rw [e]; simp
  have h2 : pre.length < n := by
    have := congrArg List.length e
    simp at this
    omega
  rw [List.getElem?_range h2] at h1
  exact ⟨(Option.some.inj h1).symm, h2⟩
theorem p0' (s : Tx) : (cy' s).length = s.length := List.length_mergeSort s
theorem hW' (s : Tx) : (cy' s).Perm s := List.mergeSort_perm s _
theorem sf' (s : Tx) : (cy' s).Pairwise (· <= ·) := by
  have := List.pairwise_mergeSort (le := fun a b : Nat => decide (a <= b)) (fun a b c h1 h2 => by simp at *; omega) (fun a b => by simp; omega) s
  exact this.imp (by simp)
theorem se' {s : Tx} (h : s.Nodup) : (cy' s).Pairwise (· < ·) := by
  have h1 := sf' s
  have h2 : (cy' s).Nodup := (hW' s).nodup_iff.mpr h
  exact (h1.and h2).imp (fun h => by have := h.1; have := h.2; omega)
theorem nW' {w : W} {n : Nat} {many : Nat} (h : c0' w n) (hm : 1 <= many) (hm2 : many < 1000) : wF (f__law_woven [.obj n, .int many] w) (fun o w' => ∃ T, o = .fz (co' T) /\ a3' T T.length many /\ 4 <= T.length /\ T.length <= 6 /\ c0' w' n /\ But n w w') FX := by
  unfold f__law_woven
  walk_at "f"
  refine (bB' h (by omega) (by omega)).mono ?_
  rintro _ w1 ⟨k1, rfl, hk1, h1, b1⟩
  walk_at "s"
  refine (gD' (kind := 3 + k1) (size := 2) h1 (by decide) (by decide) hm hm2 (by omega)).mono ?_
  rintro _ w2 ⟨T1, rfl, hT1, h2, b2⟩
  walk_at "s"
  refine (bB' h2 (by omega) (by omega)).mono ?_
  rintro _ w3 ⟨z, rfl, hz, h3, b3⟩
  walk_at "s"
  have hsz : ∃ sz : Nat, (2 + (z : Int)) = (sz : Nat) /\ 2 <= sz /\ sz <= 3 := ⟨2 + z, by omega, by omega, by omega⟩
  obtain ⟨sz, esz, hsz1, hsz2⟩ := hsz
  rw [esz]
  refine (bB' h3 (by omega) (by omega)).mono ?_
  rintro _ w4 ⟨k2, rfl, hk2, h4, b4⟩
  walk_at "s"
  refine (gD' (kind := 3 + k2) (size := sz) h4 (by omega) (by omega) hm hm2 (by omega)).mono ?_
  rintro _ w5 ⟨T2, rfl, hT2, h5, b5⟩
  clear esz
  walk_at "s"
  refine cQ' (fun k ρ => ∃ R : List (List Nat), R.length = k /\ (∀ r ∈ R, r.length = many /\ ∀ t ∈ r, t < 2 * sz) /\ ∃ y1 y2 y3 y4, ρ = ⟨[some (.fz (.obj n)), some (.fz (.int many)), some (.fz (co' T1)), some (.fz (.int sz)), some (.fz (co' T2)), some (.lst (R.map fun r => .fz (bX' r))), y1, y2, y3, y4], w5⟩) ⟨[], rfl, by simp, _, _, _, _, rfl⟩ ?_ ?_
  . rintro s _ hs ⟨R, hR, hr, y1, y2, y3, y4, rfl⟩
    have hs2 : s < 2 * sz := by omega
    have d1 : (0 + (s : Int)) / (sz : Int) = ((s / sz : Nat) : Int) := by rw [Int.zero_add]; rfl
    have d2 : (0 + (s : Int)) % (sz : Int) = ((s % sz : Nat) : Int) := by rw [Int.zero_add]; rfl
    have l1 : s / sz < 2 := Nat.div_lt_of_lt_mul (by rw [Nat.mul_comm]; exact hs2)
    have l2 : s % sz < sz := Nat.mod_lt _ (by omega)
    have r1 := cp' (T := T1) (n := 2) (m := many) hT1 l1
    have r2 := cp' (T := T2) (n := sz) (m := many) hT2 l2
    have n1 := bY' (T := T1) hT1 l1
    have n2 := bY' (T := T2) hT2 l2
    have t1 : ∀ {k t : Nat}, (aq' T1 (s / sz))[k]? = some t -> t < 2 := fun h => gE' hT1 (List.mem_of_getElem? h)
    have t2 : ∀ {k t : Nat}, (aq' T2 (s % sz))[k]? = some t -> t < sz := fun h => gE' hT2 (List.mem_of_getElem? h)
    have d1' : (s : Int) / (sz : Int) = ((s / sz : Nat) : Int) := rfl
    have d2' : (s : Int) % (sz : Int) = ((s % sz : Nat) : Int) := rfl
    walk_at "s"
    refine gT' (fun k => .int (((aq' T1 (s / sz))[k]?.getD 0 * sz + (aq' T2 (s % sz))[k]?.getD 0 : Nat))) (by omega) ?_ ?_
    . intro k hk
      have e1 : (aq' T1 (s / sz))[k]? = some ((aq' T1 (s / sz))[k]'(by omega)) := List.getElem?_eq_getElem (by omega)
      have e2 : (aq' T2 (s % sz))[k]? = some ((aq' T2 (s % sz))[k]'(by omega)) := List.getElem?_eq_getElem (by omega)
      have f1 := t1 e1
      have f2 := t2 e2
      generalize (aq' T1 (s / sz))[k]'_ = a at *
      generalize (aq' T2 (s % sz))[k]'_ = b at *
      clear r1 r2 t1 t2 d1 d2 d1' d2'
      walk_at "s"
      rw [Option.getD_some, Option.getD_some]
      push_cast
      rfl
    walk_at "l"
    have hl : R.length < 16777216 := by omega
    walk_at "s"
    refine ⟨R ++ [(List.range many).map fun k => (aq' T1 (s / sz))[k]?.getD 0 * sz + (aq' T2 (s % sz))[k]?.getD 0], by simp [hR], ?_, _, _, _, _, by rw [List.map_append, List.map_cons, List.map_nil]; simp only [bX', List.map_map]; rfl⟩
    intro r hr'
    rcases List.mem_append.mp hr' with h | h
    . exact hr r h
    . rw [List.mem_singleton] at h
      subst h
      refine ⟨by simp, fun t ht => ?_⟩
      obtain ⟨k, hk, rfl⟩ := List.mem_map.mp ht
      have hk := List.mem_range.mp hk
      have e1 : (aq' T1 (s / sz))[k]? = some ((aq' T1 (s / sz))[k]'(by omega)) := List.getElem?_eq_getElem (by omega)
      have e2 : (aq' T2 (s % sz))[k]? = some ((aq' T2 (s % sz))[k]'(by omega)) := List.getElem?_eq_getElem (by omega)
      have f1 := t1 e1
      have f2 := t2 e2
      rw [e1, e2, Option.getD_some, Option.getD_some]
      generalize (aq' T1 (s / sz))[k]'_ = a at *
      generalize (aq' T2 (s % sz))[k]'_ = b at *
      have : a = 0 \/ a = 1 := by omega
      rcases this with rfl | rfl <;> omega
  . rintro _ ⟨R, hR, hr, y1, y2, y3, y4, rfl⟩
    walk_at "s"
    have hRl : R.length = 2 * sz := by omega
    refine ⟨R, ?_, ⟨rfl, fun r h => ⟨(hr r h).1, fun t ht => by have := (hr r h).2 t ht; omega⟩⟩, by omega, by omega, (((b1.trans b2).trans b3).trans b4).trans b5⟩
    unfold co'
    rw [cj', List.map_map]
    rfl
theorem jW' {w : W} {n : Nat} {most states : Nat} (h : c0' w n) (hm : 1 <= most) (hm2 : most <= 26) (hs : 6 <= states) (hs2 : states < 100) : wF (f__law_parts [.obj n, .int most, .int states] w) (fun o w' => ∃ L T A, o = .fz (.tup [.str L, co' T, cZ' A]) /\ MacOk L T A most states /\ c0' w' n /\ But n w w') FX := by
  unfold f__law_parts
  walk_at "f"
  refine (bB' h (by omega) (by omega)).mono ?_
  rintro _ w1 ⟨kind, rfl, hkind, h1, b1⟩
  walk_at "s"
  refine (bB' h1 (by omega) (by omega)).mono ?_
  rintro _ w2 ⟨many0, rfl, hmany0, h2, b2⟩
  walk_at "s"
  refine (bB' h2 (by omega) (by omega)).mono ?_
  rintro _ w3 ⟨size0, rfl, hsize0, h3, b3⟩
  walk_at "s"
  refine eo' (fun ρ => ∃ many size : Nat, ρ = ⟨[some (.fz (.obj n)), some (.fz (.int most)), some (.fz (.int states)), some (.fz (.int kind)), some (.fz (.int many)), some (.fz (.int size)), none, none, none, none, none], w3⟩ /\ 1 <= many /\ many <= most /\ 1 <= size /\ size <= states /\ (kind <= 4 \/ 2 <= size)) (bq' (fun hk => ?_) (fun hk => ?_)) ?_
  . walk_at "s"
    refine ⟨max (min 2 most) (1 + many0), max 2 (1 + size0), ?_, by omega, by omega, by omega, by omega, by omega⟩
    have e1 : ((max (min 2 most) (1 + many0) : Nat) : Int) = max (min 2 (most : Int)) (1 + (many0 : Int)) := by omega
    have e2 : ((max 2 (1 + size0) : Nat) : Int) = max 2 (1 + (size0 : Int)) := by omega
    rw [e1, e2]
  . walk_at "s"
    refine ⟨1 + many0, 1 + size0, ?_, by omega, by omega, by omega, by omega, by omega⟩
    have e1 : ((1 + many0 : Nat) : Int) = (1 + (many0 : Int)) := by omega
    have e2 : ((1 + size0 : Nat) : Int) = (1 + (size0 : Int)) := by omega
    rw [e1, e2]
  rintro _ ⟨many, size, rfl, hm1, hmm, hs1, hss, hks⟩
  walk_at "s"
  refine (eA' (l := [97, 98, 99, 100, 101, 102, 103, 104, 105, 106, 107, 108, 109, 110, 111, 112, 113, 114, 115, 116, 117, 118, 119, 120, 121, 122].map chD) h3 (by decide)).mono ?_
  rintro _ w4 ⟨r, rfl, hperm, h4, b4⟩
  obtain ⟨r', rfl, hp'⟩ : ∃ r' : List Nat, r = r'.map chD /\ r'.Perm abc := by
    refine ⟨r.map fun d => (match d with | .str [c] => c | _ => 0), ?_, ?_⟩
    . rw [List.map_map]
      have : ∀ d ∈ r, (chD ∘ fun d => (match d with | .str [c] => c | _ => 0)) d = d := fun d hd => by
        obtain ⟨c, _, rfl⟩ := List.mem_map.mp (hperm.subset hd)
        rfl
      exact ((List.map_congr_left this).trans (List.map_id r)).symm
    . have := hperm.map fun d => (match d with | .str [c] => c | _ => 0)
      rw [List.map_map] at this
      refine this.trans ?_
      rw [show ((fun d : D => (match d with | .str [c] => c | _ => 0)) ∘ chD) = id from rfl, List.map_id]
  have hlen' := hp'.length_eq
  have hmany : many <= 26 := by omega
  have hq : (r'.take many).length = many := by rw [List.length_take, hlen']; show min many 26 = many; omega
  have hnd : (r'.take many).Nodup := (hp'.nodup_iff.mpr (by decide)).sublist (List.take_sublist ..)
  have hne : r'.take many ≠ [] := fun e => by rw [e] at hq; simp at hq; omega
  have hso : ∀ Q : D -> Prop, wD (c2' (.lst ((r'.take many).map chD))) Q = Q (.lst ((cy' (r'.take many)).map chD)) := fun Q => by rw [wg' hne, nY' (by omega)]
  have hlen := p0' (r'.take many)
  have hlow : ∀ c ∈ cy' (r'.take many), 97 <= c /\ c <= 122 := fun c hc => qS'.mp (hp'.mem_iff.mp (List.mem_of_mem_take ((hW' _).mem_iff.mp hc)))
  walk_at "s"
  rw [<- List.map_take, hso]
  have hl26 : (cy' (r'.take many)).length <= 16777216 := by omega
  walk_at "s"
  refine eo' (fun ρ => ∃ T : List (List Nat), ∃ w', ρ = ⟨[some (.fz (.obj n)), some (.fz (.int most)), some (.fz (.int states)), some (.fz (.int kind)), some (.fz (.int many)), some (.fz (.int size)), some (.fz (.lst (r'.map chD))), some (.fz (.str (cy' (r'.take many)))), some (.fz (co' T)), none, none], w'⟩ /\ a3' T T.length many /\ 1 <= T.length /\ T.length <= states /\ c0' w' n /\ But n w w') (bq' (fun hk => ?_) (fun hk => ?_)) ?_
  . walk_at "s"
    refine (nW' h4 hm1 (by omega)).mono ?_
    rintro _ w5 ⟨T, rfl, hT, ht1, ht2, h5, b5⟩
    walk_at "s"
    exact ⟨T, _, rfl, hT, by omega, by omega, h5, (((b1.trans b2).trans b3).trans b4).trans b5⟩
  . walk_at "s"
    refine (gD' h4 hs1 (by omega) hm1 (by omega) hks).mono ?_
    rintro _ w5 ⟨T, rfl, hT, h5, b5⟩
    walk_at "s"
    refine ⟨T, _, rfl, by rw [hT.1]; exact hT, by rw [hT.1]; exact hs1, by rw [hT.1]; exact hss, h5, (((b1.trans b2).trans b3).trans b4).trans b5⟩
  rintro _ ⟨T, w5, rfl, hT, hT1, hT2, h5, b5⟩
  walk_at "s"
  refine ia' (by simp; omega) (fun pre acc ρ => (∃ A : List Nat, acc = A.map (fun a => .int (a : Nat)) /\ A.Pairwise (· < ·) /\ ∀ a ∈ A, a < pre.length) /\ ∃ x w', ρ = ⟨[some (.fz (.obj n)), some (.fz (.int most)), some (.fz (.int states)), some (.fz (.int kind)), some (.fz (.int many)), some (.fz (.int size)), some (.fz (.lst (r'.map chD))), some (.fz (.str (cy' (r'.take many)))), some (.fz (co' T)), none, x], w'⟩ /\ c0' w' n /\ But n w w') ⟨⟨[], rfl, by simp, by simp⟩, _, _, rfl, h5, b5⟩ ?_ ?_
  . rintro pre c post acc _ e ⟨⟨A, rfl, hp, hA⟩, x, w6, rfl, h6, b6⟩
    obtain ⟨rfl, hlt⟩ := ld' e
    walk_at "s"
    refine (bB' h6 (by omega) (by omega)).mono ?_
    rintro _ w7 ⟨d, rfl, hd, h7, b7⟩
    walk_at "s"
    refine bq' (fun hd => ?_) (fun hd => ?_)
    . walk_at "s"
      refine ⟨⟨A ++ [pre.length], by simp, ?_, ?_⟩, _, _, rfl, h7, b6.trans b7⟩
      . rw [List.pairwise_append]
        exact ⟨hp, by simp, by simpa using hA⟩
      . simp only [List.mem_append, List.mem_singleton, List.length_append, List.length_singleton]
        rintro a (ha | rfl)
        . have := hA a ha; omega
        . omega
    . exact ⟨⟨A, rfl, hp, fun a ha => by have := hA a ha; simp; omega⟩, _, _, rfl, h7, b6.trans b7⟩
  . rintro _ _ ⟨⟨A, rfl, hp, hA⟩, x, w6, rfl, h6, b6⟩
    rw [List.length_range] at hA
    walk_at "s"
    refine ⟨_, T, A, rfl, ⟨⟨by omega, by omega, se' hnd, hlow⟩, ?_, hT1, hT2, ⟨hp, hA⟩⟩⟩
    rw [hlen, hq]
    exact hT
theorem ip' {α β : Type} (f : α -> D) (g : β -> D) : ∀ (a : List α) (b : List β), dk' (a.map f) (b.map g) = (a.zip b).map fun p => .tup [f p.1, g p.2]
  | [], _ => by simp [dk']
  | _ :: _, [] => by simp [dk']
  | x :: a, y :: b => by simp [dk', ip' f g a b]
theorem he' : ∀ s : List Nat, s.Pairwise (· < ·) ↔ ∀ p ∈ s.zip (s.drop 1), p.1 < p.2
  | [] => by simp
  | [a] => by simp
  | a :: b :: r => by
    have ih := he' (b :: r)
    simp only [List.drop_succ_cons, List.drop_zero, List.zip_cons_cons, List.mem_cons, forall_eq_or_imp] at ih ⊢
    rw [List.pairwise_cons, <- ih]
    constructor
    . rintro ⟨h1, h2⟩
      exact ⟨h1 b (by simp), h2⟩
    . rintro ⟨h1, h2⟩
      refine ⟨?_, h2⟩
      rw [List.pairwise_cons] at h2
      intro c hc
      rcases List.mem_cons.mp hc with rfl | hc
      . exact h1
      . exact Nat.lt_trans h1 (h2.1 c hc)
theorem cX' (s S : Tx) (w : W) : wF (f_is_string_of [.str s, .str S] w) (fun o w' => o = .fz (.bl (s.all fun c => decide (c ∈ S))) /\ w' = w) FX := by
  unfold f_is_string_of
  walk_at "f"
  refine bR' (fun pre ρ => ∃ x, ρ = ⟨[some (.fz (.str s)), some (.fz (.str S)), x], w⟩ /\ ∀ c ∈ pre, c ∈ S) ⟨_, rfl, by simp⟩ ?_ ?_
  . rintro pre c post _ e ⟨x, rfl, hp⟩
    walk_at "s"
    refine bq' (fun h => ?_) (fun h => ?_)
    . walk_at "s"
      exact ⟨_, rfl, by simpa [or_imp, forall_and] using ⟨hp, h⟩⟩
    . walk_at "s"
      refine z3' ?_
      rw [List.all_eq_false]
      exact ⟨c, by simp, by simpa using h⟩
  . rintro _ ⟨x, rfl, hp⟩
    walk_at "s"
    refine z2' ?_
    rw [List.all_eq_true]
    exact fun c hc => by simpa using hp c hc
theorem gW' {d : D} (h : ∃ t, tyn d = some t /\ t ≠ "str") (S : Tx) (w : W) : wF (f_is_string_of [d, .str S] w) (fun o w' => o = .fz (.bl false) /\ w' = w) FX := by
  unfold f_is_string_of
  cases d <;> simp [tyn] at h
  all_goals walk_at "f"
theorem fx' (s : Tx) (w : W) : wF (f_is_ascending [.str s] w) (fun o w' => o = .fz (.bl (decide (s.Pairwise (· < ·)))) /\ w' = w) FX := by
  unfold f_is_ascending
  walk_at "f"
  rw [ip']
  refine bR' (fun pre ρ => ∃ x y, ρ = ⟨[some (.fz (.str s)), x, y], w⟩ /\ ∀ p ∈ pre, p.1 < p.2) ⟨_, _, rfl, by simp⟩ ?_ ?_
  . rintro pre c post _ e ⟨x, y, rfl, hp⟩
    walk_at "s"
    refine bq' (fun h => ?_) (fun h => ?_)
    . walk_at "s"
      refine ⟨_, _, rfl, ?_⟩
      have : c.1 < c.2 := by simpa [List.cons_lt_cons_iff] using h
      simp only [List.mem_append, List.mem_singleton]
      rintro p (hq | rfl)
      . exact hp p hq
      . exact this
    . walk_at "s"
      refine z3' ?_
      rw [decide_eq_false_iff_not, he']
      intro h2
      have := h2 c (by rw [e]; simp)
      exact h (by simpa [List.cons_lt_cons_iff] using this)
  . rintro _ ⟨x, y, rfl, hp⟩
    walk_at "s"
    refine z2' ?_
    rw [decide_eq_true_iff, he']
    exact hp
theorem hE' (s S : Tx) (w : W) : wF (f_is_choice [.str s, .str S] w) (fun o w' => o = .fz (.bl ((s.all fun c => decide (c ∈ S)) && decide (s.Pairwise (· < ·)))) /\ w' = w) FX := by
  unfold f_is_choice
  walk_at "f"
  refine (cX' s S w).mono ?_
  rintro _ _ ⟨rfl, rfl⟩
  walk_at "s"
  refine uP' (fun h => ?_) (fun h => ?_)
  . walk_at "s"
    refine (fx' s _).mono ?_
    rintro _ _ ⟨rfl, rfl⟩
    walk_at "s"
  . walk_at "s"
theorem gX' (i : Int) (w : W) : wF (f_is_integer [.int i] w) (fun o w' => o = .fz (.bl true) /\ w' = w) FX := by
  unfold f_is_integer
  walk_at "f"
theorem f6' (A : List Nat) (w : W) : wF (f_is_ascending [cZ' A] w) (fun o w' => o = .fz (.bl (decide (A.Pairwise (· < ·)))) /\ w' = w) FX := by
  unfold f_is_ascending cZ'
  walk_at "f"
  have e0 : (A.map fun a => D.int (a : Nat)).drop 1 = (A.drop 1).map fun a => D.int (a : Nat) := by rw [List.map_drop]
  rw [e0, ip']
  refine bR' (fun pre ρ => ∃ x y, ρ = ⟨[some (.fz (.tup (A.map fun a => .int (a : Nat)))), x, y], w⟩ /\ ∀ p ∈ pre, p.1 < p.2) ⟨_, _, rfl, by simp⟩ ?_ ?_
  . rintro pre c post _ e ⟨x, y, rfl, hp⟩
    walk_at "s"
    refine bq' (fun h => ?_) (fun h => ?_)
    . walk_at "s"
      refine z3' ?_
      rw [decide_eq_false_iff_not, he']
      intro h2
      have := h2 c (by rw [e]; simp)
      omega
    . walk_at "s"
      refine ⟨_, _, rfl, ?_⟩
      simp only [List.mem_append, List.mem_singleton]
      rintro p (hq | rfl)
      . exact hp p hq
      . omega
  . rintro _ ⟨x, y, rfl, hp⟩
    walk_at "s"
    refine z2' ?_
    rw [decide_eq_true_iff, he']
    exact hp
theorem dL' (A : List Nat) (m : Nat) (w : W) : wF (f_are_states [cZ' A, .int m] w) (fun o w' => o = .fz (.bl (A.all fun a => decide (a < m))) /\ w' = w) FX := by
  unfold f_are_states cZ'
  walk_at "f"
  refine bR' (fun pre ρ => ∃ x, ρ = ⟨[some (.fz (.tup (A.map fun a => .int (a : Nat)))), some (.fz (.int m)), x], w⟩ /\ ∀ a ∈ pre, a < m) ⟨_, rfl, by simp⟩ ?_ ?_
  . rintro pre c post _ e ⟨x, rfl, hp⟩
    walk_at "s"
    refine (gX' _ _).mono ?_
    rintro _ _ ⟨rfl, rfl⟩
    walk_at "s"
    refine bq' (fun h => ?_) (fun h => ?_)
    . walk_at "s"
      refine z3' ?_
      rw [List.all_eq_false]
      exact ⟨c, by simp, by simp; omega⟩
    . walk_at "s"
      exact ⟨_, rfl, by simpa [or_imp, forall_and] using ⟨hp, by omega⟩⟩
  . rintro _ ⟨x, rfl, hp⟩
    walk_at "s"
    refine z2' ?_
    rw [List.all_eq_true]
    exact fun c hc => by simpa using hp c hc
theorem iT' {T : List (List Nat)} {L : Tx} (h : a3' T T.length L.length) (h1 : 1 <= T.length) (h2 : T.length <= 6) (w : W) : wF (f_is_table [co' T, .str L] w) (fun o w' => o = .fz (.bl true) /\ w' = w) FX := by
  unfold f_is_table co'
  walk_at "f"
  refine bR' (fun pre ρ => ∃ x, ρ = ⟨[some (.fz (.tup (T.map bX'))), some (.fz (.str L)), x], w⟩) ⟨_, rfl⟩ ?_ ?_
  . rintro pre c post _ e ⟨x, rfl⟩
    have hc := h.2 c (by rw [e]; simp)
    clear e
    walk_at "s"
    refine (dL' c T.length w).mono ?_
    rintro _ _ ⟨rfl, rfl⟩
    have e2 : (c.all fun a => decide (a < T.length)) = true := by rw [List.all_eq_true]; exact fun a ha => by simpa using hc.2 a ha
    have e3 := hc.1
    clear hc
    rw [e2]
    unfold bX'
    walk_at "s"
    exact ⟨_, rfl⟩
  . rintro _ ⟨x, rfl⟩
    walk_at "s"
def eB (b : Bool) : D := .bl b
theorem C0' : KeyE eB := ⟨fun a b => by cases a <;> cases b <;> rfl, fun _ => rfl, fun _ => by show dep (.bl _) <= 8; simp [dep], fun _ _ => rfl⟩
def eK (k : Nat × List Nat) : D := .tup [.int (k.1 : Nat), .tup (k.2.map fun t => .int (t : Nat))]
theorem km' : ∀ a b : List Nat, eqbs (a.map fun t => .int (t : Nat)) (b.map fun t => .int (t : Nat)) = decide (a = b)
  | [], [] => rfl
  | [], _ :: _ => rfl
  | _ :: _, [] => rfl
  | a :: l, b :: r => by
    simp only [List.map_cons, eqbs, fy', km' l r]
    rw [Bool.eq_iff_iff]
    simp
theorem yn' : KeyE eK := by
  refine ⟨fun a b => ?_, fun a => ?_, fun a => ?_, fun _ _ => rfl⟩
  . obtain ⟨a1, a2⟩ := a
    obtain ⟨b1, b2⟩ := b
    simp only [eK, eqb, eqbs, km', Bool.and_true]
    rw [Bool.eq_iff_iff]
    simp
    omega
  . have : ∀ l : List Nat, kats (l.map fun t => .int (t : Nat)) = true := by intro l; induction l <;> simp_all [kats, kat]
    simp [eK, kat, kats, this]
  . have : ∀ l : List Nat, deps (l.map fun t => .int (t : Nat)) <= 1 := by intro l; induction l <;> simp_all [deps, dep]
    have := this a.2
    simp only [eK, dep, deps]
    omega
theorem eP' {γ : Type} [DecidableEq γ] {e : γ -> D} (he : KeyE e) (S : List Nat) (f : Nat -> γ) (hS : S.Nodup) (hl : S.length <= 1000) (w : W) : wF (f_numbered [dNz (S.map fun s => (s, e (f s)))] w) (fun o w' => o = dN (S.map fun s => (s, .int (jb' S f s : Nat))) /\ w' = w) FX := by
  unfold f_numbered
  walk_at "f"
  have pairs : ∀ G : List γ, G.Nodup -> ∀ k : γ, (G.map fun a => (a, D.int (G.idxOf a : Nat))).lookup k = if k ∈ G then some (D.int (G.idxOf k : Nat)) else none := by
    intro G _ k
    have go : ∀ (l : List γ) (h : γ -> D), (l.map fun a => (a, h a)).lookup k = if k ∈ l then some (h k) else none := by
      intro l h
      induction l with
      | nil => rfl
      | cons a l ih =>
        rw [List.map_cons, List.lookup_cons, ih]
        by_cases q : k = a
        . subst q; simp
        . have : (k == a) = false := by simpa using q
          simp [this, q]
    exact go G _
  rw [List.map_map]
  refine bR' (fun pre ρ => ∃ y z, ρ = ⟨[some (.fz (dNz (S.map fun s => (s, e (f s))))), some (dX e ((an' (pre.map f)).map fun a => (a, .int ((an' (pre.map f)).idxOf a : Nat)))), some (dN (pre.map fun s => (s, .int ((an' (S.map f)).idxOf (f s) : Nat)))), y, z], w⟩) ⟨_, _, rfl⟩ ?_ ?_
  . rintro pre s post _ es ⟨y, z, rfl⟩
    rw [List.map_append, List.map_cons, List.map_nil, bx']
    show wD (gT [3, 4] (.tup [.int (s : Nat), e (f s)]) _) _
    -- numbers found once stay
    have keep : (an' (pre.map f ++ [f s])) <+: an' (S.map f) := by
      have e2 : an' (S.map f) = bW' (an' (pre.map f ++ [f s])) (post.map f) := by
        rw [es, List.map_append, List.map_cons, show pre.map f ++ f s :: post.map f = (pre.map f ++ [f s]) ++ post.map f by simp]
        exact cb'
      rw [e2]
      exact cq'
    rw [bx'] at keep
    have hnd : (an' (pre.map f)).Nodup := gR'
    have hlk := pairs _ hnd (f s)
    have hlen : pre.length < 1000 := by
      have := congrArg List.length es
      simp at this
      omega
    have hlen2 : (an' (pre.map f)).length <= pre.length := by
      have h2 := List.Nodup.length_le_of_subset hnd (l₂ := pre.map f) (fun a ha => aG'.mp ha)
      simpa using h2
    have hfr : ((pre.map fun s => (s, D.int ((an' (S.map f)).idxOf (f s) : Nat))).lookup s) = none := by
      refine ca' _ _ ?_
      rw [List.map_map]
      intro hm
      rw [es] at hS
      obtain ⟨s', hs', e'⟩ := List.mem_map.mp hm
      have : s' = s := e'
      exact (List.nodup_append.mp hS).2.2 s' hs' s (by simp) this
    have hl3 : (pre.map fun s => (s, D.int ((an' (S.map f)).idxOf (f s) : Nat))).length < 16777216 := by rw [List.length_map]; omega
    by_cases hm : f s ∈ an' (pre.map f)
    . rw [if_pos hm] at hlk
      rw [b6' hm] at keep ⊢
      have hx := dC' he ((an' (pre.map f)).map fun a => (a, D.int ((an' (pre.map f)).idxOf a : Nat))) (f s)
      rw [hlk] at hx
      have hid : (an' (S.map f)).idxOf (f s) = (an' (pre.map f)).idxOf (f s) := by
        obtain ⟨G, eG⟩ := keep
        rw [<- eG, List.idxOf_append, if_pos hm]
      clear es keep
      walk_at "s"
      exact ⟨_, _, by rw [List.map_append, List.map_cons, List.map_nil, hid]⟩
    . rw [if_neg hm] at hlk
      rw [bJ' hm] at keep ⊢
      have hx := dC' he ((an' (pre.map f)).map fun a => (a, D.int ((an' (pre.map f)).idxOf a : Nat))) (f s)
      rw [hlk] at hx
      have hp := fun d => lg' he (l := (an' (pre.map f)).map fun a => (a, D.int ((an' (pre.map f)).idxOf a : Nat))) (k := f s) hlk (by rw [List.length_map]; omega) d
      have hx2 := fun d => dC' he (((an' (pre.map f)).map fun a => (a, D.int ((an' (pre.map f)).idxOf a : Nat))) ++ [(f s, d)]) (f s)
      have hl4 : ∀ d : D, (((an' (pre.map f)).map fun a => (a, D.int ((an' (pre.map f)).idxOf a : Nat))) ++ [(f s, d)]).lookup (f s) = some d := by
        intro d
        rw [List.lookup_append, hlk]
        simp
      simp only [hl4] at hx2
      have hid : (an' (S.map f)).idxOf (f s) = (an' (pre.map f)).length := by
        obtain ⟨G, eG⟩ := keep
        rw [<- eG, List.idxOf_append, if_pos (by simp), List.idxOf_append, if_neg hm]
        simp
      have hnew : (an' (pre.map f) ++ [f s]).map (fun a => (a, D.int ((an' (pre.map f) ++ [f s]).idxOf a : Nat))) = ((an' (pre.map f)).map fun a => (a, D.int ((an' (pre.map f)).idxOf a : Nat))) ++ [(f s, D.int ((an' (pre.map f)).length : Nat))] := by
        rw [List.map_append]
        congr 1
        . refine List.map_congr_left fun a ha => ?_
          rw [List.idxOf_append, if_pos ha]
        . simp [List.idxOf_append, hm]
      rw [hnew]
      clear es keep hnew hl4
      walk_at "s"
      exact ⟨_, _, by rw [List.map_append, List.map_cons, List.map_nil, hid]⟩
  . rintro _ ⟨y, z, rfl⟩
    walk_at "s"
    rfl
theorem qT' : ∀ {l : List Int} {x : Int}, x ∈ l -> x <= nu' l
  | [], _, h => by cases h
  | [y], x, h => by
    rw [List.mem_singleton.mp h]
    show y <= y
    omega
  | y :: z :: r, x, h => by
    show x <= max y (nu' (z :: r))
    rcases List.mem_cons.mp h with rfl | h
    . omega
    . have := qT' h
      omega
theorem nt' : ∀ {l : List Int}, l ≠ [] -> nu' l ∈ l
  | [], h => absurd rfl h
  | [y], _ => by show y ∈ [y]; simp
  | y :: z :: r, _ => by
    show max y (nu' (z :: r)) ∈ _
    have := nt' (l := z :: r) (by simp)
    rcases Int.le_total y (nu' (z :: r)) with h | h
    . rw [Int.max_eq_right h]; exact List.mem_cons_of_mem _ this
    . rw [Int.max_eq_left h]; simp
theorem sP' {S : List Nat} {c : Nat -> Nat} {k : Nat} (h : an' (S.map c) = List.range k) (hS : S ≠ []) : nu' (S.map fun s => ((c s : Nat) : Int)) = (k : Int) - 1 := by
  have mem : ∀ q, q ∈ S.map c ↔ q < k := fun q => by rw [<- aG', h, List.mem_range]
  obtain ⟨s, hs⟩ := List.exists_mem_of_ne_nil S hS
  have k1 : c s < k := (mem _).mp (List.mem_map.mpr ⟨s, hs, rfl⟩)
  have h1 : ((k : Int) - 1) ∈ S.map fun s => ((c s : Nat) : Int) := by
    obtain ⟨t, ht, e⟩ := List.mem_map.mp ((mem (k - 1)).mpr (by omega))
    exact List.mem_map.mpr ⟨t, ht, by omega⟩
  have h2 := qT' h1
  have h3 := nt' (l := S.map fun s => ((c s : Nat) : Int)) (by simpa using hS)
  obtain ⟨t, ht, e⟩ := List.mem_map.mp h3
  have := (mem (c t)).mp (List.mem_map.mpr ⟨t, ht, rfl⟩)
  have e : ((c t : Nat) : Int) = nu' (S.map fun s => ((c s : Nat) : Int)) := e
  omega
theorem oC' {w : W} {m : Nat} {L : Tx} {T : List (List Nat)} {A S : List Nat} (ht : gZ' ["Machine", "RawMachine"] "kept_table" w (.obj m) = some (co' T)) (ha : gZ' ["Machine", "RawMachine"] "kept_accepts" w (.obj m) = some (cZ' A))
    (hT : a3' T T.length L.length) (hL : L.Nodup) (hLl : L.length <= 1000) (hn2 : T.length <= 1000) (hS : ∀ s ∈ S, s < T.length) (hcl : ∀ s ∈ S, ∀ t ∈ aq' T s, t ∈ S) (hnd : S.Nodup) (hne : S ≠ []) :
    wF (f_alike_states [.obj m, .lst (S.map fun s => .int (s : Nat))] w) (fun o w' => (∃ c k, Clz L T A S c k /\ (∀ s ∈ S, ∀ t ∈ S, c s = c t -> key T c s = key T c t) /\ o = .fz (dNz (S.map fun s => (s, .int (c s : Nat))))) /\ w' = w) FX := by
  have hlen : S.length <= T.length := of' hnd hS
  unfold f_alike_states
  walk_at "f"
  refine yS' (fun s : Nat => s) (fun s => eB (decide (s ∈ A))) (by omega) (by simpa using hnd) ?_ ?_
  . intro s hs
    walk_at "s"
    rfl
  walk_at "l"
  walk_at "s"
  rw [oo' (fun s : Nat => s) (fun s => eB (decide (s ∈ A)))]
  refine (eP' C0' S (fun s => decide (s ∈ A)) hnd (by omega) w).mono ?_
  rintro _ _ ⟨rfl, rfl⟩
  walk_at "s"
  rename_i w
  have n0 : S.map (fun s => ((s : Nat) : Int)) ≠ [] := by simpa using hne
  refine dm' (fun mm ρ => ∃ many c k y z z2 o, mm = T.length + 1 - many /\ Clz L T A S c k /\ (many = 0 \/ ∃ c1, Clz L T A S c1 many /\ c = jb' S (key T c1) /\ k = (an' (S.map (key T c1))).length) ∧
      (o = dN (S.map fun s => (s, .int (c s : Nat))) \/ o = .fz (dNz (S.map fun s => (s, .int (c s : Nat))))) /\ ρ = ⟨[some (.fz (.obj m)), some (.fz (.lst (S.map fun s => .int (s : Nat)))), some o, some (.fz (.int (many : Nat))), y, z, z2], w⟩)
    (T.length + 1) (by show T.length + 1 < 2 ^ 40; omega) ⟨0, _, _, _, _, _, _, rfl, Clz.first, .inl rfl, .inl rfl, rfl⟩ ?_
  rintro mm _ ⟨many, c, k, y, z, z2, o, rfl, hc, hm, ho, rfl⟩
  have hmx := sP' hc.num hne
  have kle : k <= T.length := by
    have h1 := bI' c S
    rw [hc.num, List.length_range, b9' hnd] at h1
    omega
  have hmv : ∀ P : D -> Prop, wD (n8' (dNz (S.map fun s => (s, D.int (c s : Nat))))) P = P (.int ((k : Int) - 1)) := fun P => by
    have := zd' (P := P) (fun s : Nat => s) (fun s : Nat => ((c s : Nat) : Int)) S hne
    rw [hmx] at this
    exact this
  have hlk : ∀ s ∈ S, (S.map fun s => (s, D.int (c s : Nat))).lookup s = some (.int (c s : Nat)) := fun s hs => by rw [bt' (fun s => D.int (c s : Nat)), if_pos hs]
  clear ha
  rcases ho with rfl | rfl
  all_goals
    walk_at "s"
    refine bq' (fun h => ?_) (fun h => ?_)
    . have hpush : (k : Int) - 1 + 1 = ((k : Nat) : Int) := by omega
      walk_at "s"
      refine bR' (fun pre ρ => ∃ y z2, ρ = ⟨[some (.fz (.obj m)), some (.fz (.lst (S.map fun s => .int (s : Nat)))), some (.fz (dNz (S.map fun s => (s, .int (c s : Nat))))), some (.fz (.int (k : Nat))), some (dN (pre.map fun s => (s, eK (key T c s)))), y, z2], w⟩) ⟨_, _, rfl⟩ ?_ ?_
      . rintro pre s post _ e ⟨y, z2, rfl⟩
        have hs : s ∈ S := by rw [e]; simp
        have hl1 := hlk s hs
        have hrow := cp' hT (hS s hs)
        have hfr : (pre.map fun s => (s, eK (key T c s))).lookup s = none := by
          refine ca' _ _ ?_
          rw [List.map_map]
          intro hm
          rw [e] at hnd
          obtain ⟨s', hs', e'⟩ := List.mem_map.mp hm
          have : s' = s := e'
          exact (List.nodup_append.mp hnd).2.2 s' hs' s (by simp) this
        have hl3 : (pre.map fun s => (s, eK (key T c s))).length < 16777216 := by
          have := congrArg List.length e
          rw [List.length_map]
          simp at this
          omega
        clear e
        walk_at "s"
        refine h9' (fun t : Nat => D.int (c t : Nat)) (by have := bY' hT (hS s hs); omega) ?_ ?_
        . intro t htr
          have hl2 := hlk t (hcl s hs t htr)
          walk_at "s"
        walk_at "l"
        walk_at "s"
        exact ⟨_, _, by rw [List.map_append, List.map_cons, List.map_nil]; simp only [eK, key, List.map_map]; rfl⟩
      . rintro _ ⟨y, z2, rfl⟩
        walk_at "s"
        refine (eP' yn' S (key T c) hnd (by omega) w).mono ?_
        rintro _ _ ⟨rfl, rfl⟩
        walk_at "s"
        exact ⟨T.length + 1 - k, by omega, k, jb' S (key T c), _, _, _, _, _, rfl, hc.next hT hL hS hcl, .inr ⟨c, hc, rfl, rfl⟩, .inl rfl, rfl⟩
    . have hk0 : 0 < k := by
        obtain ⟨s, hs⟩ := List.exists_mem_of_ne_nil S hne
        have := hc.lt hs
        omega
      rcases hm with hm | ⟨c1, h1, e1, e2⟩
      . omega
      . have hst := h1.stable (by omega)
        have hsm := h1.same (by omega)
        walk_at "s"
        refine ⟨c1, many, h1, hst, ?_⟩
        congr 2
        refine List.map_congr_left fun s hs => ?_
        rw [hsm s hs]
theorem jT' {w : W} {m : Nat} {T : List (List Nat)} {n : Nat} (ht : gZ' ["Machine", "RawMachine"] "kept_table" w (.obj m) = some (co' T)) (hT : a3' T T.length n) (hn : 1 <= T.length) (hn2 : T.length <= 1000) : wF (f_reached [.obj m] w) (fun o w' => o = .lst ((reach T).map fun s => .fz (.int (s : Nat))) /\ w' = w) FX := by
  unfold f_reached
  walk_at "f"
  refine dm' (fun mm ρ => ∃ j, mm = T.length + 1 - j /\ j <= (bfs T j).length /\ ∃ y, ρ = ⟨[some (.fz (.obj m)), some (.lst ((bfs T j).map fun s => .fz (.int (s : Nat)))), some (dN ((bfs T j).map fun s => (s, .bl true))), some (.fz (.int (j : Nat))), y], w⟩) (T.length + 1) (by show T.length + 1 < 2 ^ 40; omega) ⟨0, by simp, by simp, _, rfl⟩ ?_
  rintro mm _ ⟨j, rfl, hj, y, rfl⟩
  walk_at "s"
  refine bq' (fun h => ?_) (fun h => ?_)
  . have hj2 : j < (bfs T j).length := by omega
    have hs : (bfs T j)[j]? = some (bfs T j)[j] := List.getElem?_eq_getElem hj2
    generalize (bfs T j)[j] = s at hs
    have hsl : s < T.length := g6' hT hn (List.mem_of_getElem? hs)
    have hrow := cp' hT hsl
    have hlen := bS' hT hn j
    walk_at "s"
    refine bR' (fun pre ρ => ∃ y, ρ = ⟨[some (.fz (.obj m)), some (.lst ((bW' (bfs T j) pre).map fun s => .fz (.int (s : Nat)))), some (dN ((bW' (bfs T j) pre).map fun s => (s, .bl true))), some (.fz (.int (j : Nat))), y], w⟩) ⟨_, rfl⟩ ?_ ?_
    . rintro pre t post _ e ⟨y, rfl⟩
      have hl2 : (bW' (bfs T j) pre).length <= T.length := of' (ft' (io' j)) fun x hx => (b0'.mp hx).elim (fun q => g6' hT hn q) fun q => gE' hT (s := s) (by rw [e]; simp [q])
      have hlk := bt' (fun _ => D.bl true) t (bW' (bfs T j) pre)
      have hlL : ((bW' (bfs T j) pre).map fun s => (s, D.bl true)).length < 16777216 := by rw [List.length_map]; omega
      rw [dE']
      clear e hs hrow
      by_cases hm : t ∈ bW' (bfs T j) pre
      . rw [if_pos hm] at hlk
        rw [b6' hm]
        walk_at "s"
        exact ⟨_, rfl⟩
      . rw [if_neg hm] at hlk
        rw [bJ' hm]
        walk_at "s"
        exact ⟨some (.fz (.int (t : Nat))), by simp⟩
    . rintro _ ⟨y, rfl⟩
      walk_at "s"
      rw [<- d7' hs]
      refine ⟨T.length + 1 - (j + 1), by omega, j + 1, rfl, ?_, _, rfl⟩
      have := (i7' (T := T) (j := j)).length_le
      omega
  . have e : bfs T j = reach T := dQ' hT hn (by omega)
    rw [e]
    walk_at "s"
def mkM (C : String) (L : Tx) (T : List (List Nat)) (A : List Nat) (l : D) (rest : List (String × O)) : Ob :=
  .ins C (("kept_letters", .fz (.str L)) :: ("kept_table", .fz (co' T)) :: ("kept_accepts", .fz (cZ' A)) :: ("kept_least", .fz l) :: rest)
abbrev cP' : List (String × O) := [("kept_field", .fz .non), ("kept_lots", .dct [] []), ("kept_more", .dct [] [])]
structure McAt (w : W) (m : Nat) (L : Tx) (T : List (List Nat)) (A : List Nat) (l : D) : Prop where
  fl : gZ' ["Machine", "RawMachine"] "kept_letters" w (.obj m) = some (.str L)
  ft : gZ' ["Machine", "RawMachine"] "kept_table" w (.obj m) = some (co' T)
  fa : gZ' ["Machine", "RawMachine"] "kept_accepts" w (.obj m) = some (cZ' A)
  fk : gZ' ["Machine", "RawMachine"] "kept_least" w (.obj m) = some l
theorem McAt.of {w : W} {m : Nat} {C : String} {L T A l rest} (h : w[m]? = some (mkM C L T A l rest)) (hC : C = "Machine" \/ C = "RawMachine") : McAt w m L T A l := by
  refine ⟨?_, ?_, ?_, ?_⟩
  all_goals rcases hC with rfl | rfl
  all_goals simp [gZ', h, mkM, List.lookup]
theorem nA' {w : W} {m : Nat} {C : String} {L : Tx} {T : List (List Nat)} {A : List Nat} (h : w[m]? = some (.ins C [])) (hC : C = "Machine" \/ C = "RawMachine") : wF (f_Machine_keep [.obj m, .str L, co' T, cZ' A] w) (fun o w' => o = .fz .non /\ w' = w.set m (mkM C L T A .non cP')) FX := by
  have hm := bs' h
  have hC1 : C ∈ ["Machine", "RawMachine"] := by rcases hC with rfl | rfl <;> simp
  unfold f_Machine_keep
  walk_at "f"
  rfl
theorem nd' {w : W} {m : Nat} {L : Tx} {T : List (List Nat)} {A : List Nat} (h : w[m]? = some (.ins "RawMachine" [])) : wF (f_RawMachine___init__ [.obj m, .str L, co' T, cZ' A] w) (fun o w' => o = .fz .non /\ w' = w.set m (mkM "RawMachine" L T A .non cP')) FX := by
  unfold f_RawMachine___init__
  walk_at "f"
  refine ⟨by simp [iU', h], ?_⟩
  refine (nA' h (.inr rfl)).mono ?_
  rintro _ _ ⟨rfl, rfl⟩
  walk_at "s"
theorem xv' {cs : List String} {f : String} {o : O} {w : W} {n : Nat} {C : String} {fs : List (String × O)} (h : w[n]? = some (.ins C fs)) (hc : C ∈ cs) (hl : fs.length < 1000) : stF cs f o w (.obj n) = some (w.set n (.ins C (qz' f o fs))) := by
  simp only [stF, h]
  exact if_pos ⟨hc, hl⟩
theorem jL' {cs : List String} {w : W} {n : Nat} {C : String} {L T A} {l d : D} {rest : List (String × O)} (h : w[n]? = some (mkM C L T A l rest)) (hc : C ∈ cs) (hl : rest.length <= 100) : stF cs "kept_least" (.fz d) w (.obj n) = some (w.set n (mkM C L T A d rest)) := by
  rw [xv' h hc (by simp; omega)]
  rfl
theorem k7' (k : Nat) : k8' ((List.range k).map fun q => ((q : Nat) : Int)) = (List.range k).map fun q => ((q : Nat) : Int) := by
  unfold k8'
  refine List.mergeSort_of_pairwise ?_
  rw [List.pairwise_map]
  refine List.Pairwise.imp (fun {a b} h => ?_) List.pairwise_lt_range
  simp
  omega
theorem og' {w : W} {m : Nat} {C : String} {L : Tx} {T : List (List Nat)} {A : List Nat} {rest : List (String × O)} (h : w[m]? = some (mkM C L T A .non rest)) (hC : C = "Machine" \/ C = "RawMachine") (hr : rest.length <= 100)
    (hT : a3' T T.length L.length) (hL : L.Nodup) (hLl : L.length <= 1000) (hn : 1 <= T.length) (hn2 : T.length <= 1000) :
    wF (f_least [.obj m] w) (fun o w' => ∃ c T' A', IsLeast L T A c T' A' /\ o = .fz (.obj w.length) /\ w' = w.set m (mkM C L T A (.obj w.length) rest) ++ [mkM "RawMachine" L T' A' (.obj w.length) cP']) FX := by
  have hM := McAt.of h hC
  have h1 := hM.fl
  have h2 := hM.ft
  have h3 := hM.fa
  have h4 := hM.fk
  unfold f_least
  walk_at "f"
  refine (jT' h2 hT hn (by omega)).mono ?_
  rintro _ _ ⟨rfl, rfl⟩
  walk_at "s"
  have hS : ∀ s ∈ reach T, s < T.length := fun s hs => ge' hT hn hs
  have hcl : ∀ s ∈ reach T, ∀ t ∈ aq' T s, t ∈ reach T := fun s hs t ht => cK' hT hn hs ht
  have efr : frzs ((reach T).map fun s => O.fz (D.int (s : Nat))) = (reach T).map fun s => D.int (s : Nat) := by
    rw [cj', List.map_map]; rfl
  rw [efr]
  refine (oC' h2 h3 hT hL hLl (by omega) hS hcl eG' (fun e => by have := dR' (T := T); rw [e] at this; cases this)).mono ?_
  rintro _ _ ⟨⟨c, k, hc, hst, rfl⟩, rfl⟩
  rename_i w
  have hlk : ∀ s ∈ reach T, ((reach T).map fun s => (s, D.int (c s : Nat))).lookup s = some (.int (c s : Nat)) := fun s hs => by rw [bt' (fun s => D.int (c s : Nat)), if_pos hs]
  have kle : k <= T.length := by
    have h1 := bI' c (reach T)
    rw [hc.num, List.length_range, b9' eG'] at h1
    exact Nat.le_trans h1 (bS' hT hn _)
  walk_at "s"
  refine bR' (fun pre ρ => ∃ y, ρ = ⟨[some (.fz (.obj m)), some (.fz (.lst ((reach T).map fun s => .int (s : Nat)))), some (.fz (dNz ((reach T).map fun s => (s, .int (c s : Nat))))), some (dN ((an' (pre.map c)).map fun q => (q, .int (bA' pre c q : Nat)))), y, none, none, none, none], w⟩) ⟨_, rfl⟩ ?_ ?_
  . rintro pre s post _ e ⟨y, rfl⟩
    have hs : s ∈ reach T := by rw [e]; simp
    have hl1 := hlk s hs
    have hlen : ((an' (pre.map c)).map fun q => (q, D.int (bA' pre c q : Nat))).length < 16777216 := by
      have h1 := bI' c pre
      have h5 := congrArg List.length e
      have h6 := bS' hT hn T.length
      have h7 := List.Nodup.length_le_of_subset (gR' (xs := pre)) (l₂ := pre) (fun a ha => aG'.mp ha)
      simp only [List.length_append, List.length_cons] at h5
      unfold reach at h5
      rw [List.length_map]
      omega
    have hlf := bt' (fun q => D.int (bA' pre c q : Nat)) (c s) (an' (pre.map c))
    clear e
    rw [List.map_append, List.map_cons, List.map_nil, bx']
    have hold : (an' (pre.map c)).map (fun q => (q, D.int (bA' (pre ++ [s]) c q : Nat))) = (an' (pre.map c)).map fun q => (q, D.int (bA' pre c q : Nat)) := List.map_congr_left fun q hq => by rw [kj' (aG'.mp hq)]
    walk_at "s"
    rw [wi' hlen, hlf]
    by_cases hm : c s ∈ an' (pre.map c)
    . rw [if_pos hm, b6' hm]
      refine ⟨some (.fz (.int (s : Nat))), ?_⟩
      rw [hold]
    . rw [if_neg hm, bJ' hm]
      refine ⟨some (.fz (.int (s : Nat))), ?_⟩
      rw [List.map_append, hold, List.map_cons, List.map_nil, kk' fun q => hm (aG'.mpr q)]
  rintro _ ⟨y, rfl⟩
  rw [hc.num]
  have hlf : ∀ q < k, ((List.range k).map fun q => (q, D.int (bA' (reach T) c q : Nat))).lookup q = some (.int (bA' (reach T) c q : Nat)) := fun q hq => by rw [bt' (fun q => D.int (bA' (reach T) c q : Nat)), if_pos (List.mem_range.mpr hq)]
  have hsk : ∀ P : D -> Prop, wD (dT' (dNz ((List.range k).map fun q => (q, D.int (bA' (reach T) c q : Nat))))) P = P (.lst ((List.range k).map fun q => .int (q : Nat))) := fun P => by
    rw [wh' _ (by simp; omega), List.map_map]
    have := k7' k
    rw [show ((fun p : Nat × D => (p.1 : Int)) ∘ fun q => (q, D.int (bA' (reach T) c q : Nat))) = fun q => ((q : Nat) : Int) from rfl, this, List.map_map]
    rfl
  have hfst : ∀ q < k, bA' (reach T) c q ∈ reach T := by
    intro q hq
    have : q ∈ an' ((reach T).map c) := by rw [hc.num]; exact List.mem_range.mpr hq
    obtain ⟨s, hs, e⟩ := List.mem_map.mp (aG'.mp this)
    unfold bA'
    cases f : (reach T).find? fun s => decide (c s = q) with
    | none =>
      have := List.find?_eq_none.mp f s hs
      simp [e] at this
    | some t => exact List.mem_of_find?_eq_some f
  walk_at "s"
  refine bR' (fun pre ρ => ∃ z z2, ρ = ⟨[some (.fz (.obj m)), some (.fz (.lst ((reach T).map fun s => .int (s : Nat)))), some (.fz (dNz ((reach T).map fun s => (s, .int (c s : Nat))))), some (.fz (dNz ((List.range k).map fun q => (q, .int (bA' (reach T) c q : Nat))))), y, some (.lst (pre.map fun q => .fz (bX' ((aq' T (bA' (reach T) c q)).map c)))), z, none, z2], w⟩) ⟨_, _, rfl⟩ ?_ ?_
  . rintro pre q post _ e ⟨z, z2, rfl⟩
    have hq : q < k := List.mem_range.mp (by rw [e]; simp)
    have hl1 := hlf q hq
    have hf := hfst q hq
    have hrow := cp' hT (hS _ hf)
    have hlen : pre.length < 16777216 := by
      have h5 := congrArg List.length e
      simp only [List.length_append, List.length_cons, List.length_range] at h5
      omega
    clear e
    walk_at "s"
    refine h9' (fun t : Nat => D.int (c t : Nat)) (by have := bY' hT (hS _ hf); omega) ?_ ?_
    . intro t htr
      have hl2 := hlk t (hcl _ hf t htr)
      walk_at "s"
    walk_at "l"
    walk_at "s"
    exact ⟨_, _, by rw [List.map_append, List.map_cons, List.map_nil]; simp only [bX', List.map_map]; rfl⟩
  rintro _ ⟨z, z2, rfl⟩
  walk_at "s"
  refine q8' (fun q => decide (bA' (reach T) c q ∈ A)) (fun q : Nat => D.int (q : Nat)) (by simp; omega) ?_ ?_
  . intro q hq
    have hl1 := hlf q (List.mem_range.mp hq)
    walk_at "s"
    exact fun _ => trivial
  walk_at "l"
  walk_at "s"
  have et : D.tup (frzs ((List.range k).map fun q => O.fz (bX' ((aq' T (bA' (reach T) c q)).map c)))) = co' (bV' T (reach T) c k) := by
    unfold co' bV'
    rw [cj', List.map_map, List.map_map]; rfl
  have ea : D.tup (((List.range k).filter fun q => decide (bA' (reach T) c q ∈ A)).map fun q => D.int (q : Nat)) = cZ' (fQ' A (reach T) c k) := rfl
  rw [et, ea]
  have hI := nw' hT hL hn hc hst
  generalize bV' T (reach T) c k = T' at *
  generalize fQ' A (reach T) c k = A' at *
  refine (nd' (by rw [List.getElem?_append_right (by omega), Nat.sub_self]; rfl)).mono ?_
  rintro _ _ ⟨rfl, rfl⟩
  rw [List.set_append_right _ _ (by omega), Nat.sub_self]
  have hm := bs' h
  have hC1 : C ∈ ["Machine", "RawMachine"] := by rcases hC with rfl | rfl <;> simp
  have g1 : (w ++ [mkM "RawMachine" L T' A' .non cP'])[m]? = some (mkM C L T A .non rest) := by rw [List.getElem?_append_left hm]; exact h
  obtain ⟨W1, e1⟩ : ∃ W1, W1 = (w ++ [mkM "RawMachine" L T' A' .non cP']).set m (mkM C L T A (.obj w.length) rest) := ⟨_, rfl⟩
  have s1 : stF ["Machine", "RawMachine"] "kept_least" (.fz (.obj w.length)) (w ++ [mkM "RawMachine" L T' A' .non cP']) (.obj m) = some W1 := by
    rw [jL' g1 hC1 hr, e1]
  have g2 : W1[m]? = some (mkM C L T A (.obj w.length) rest) := by
    rw [e1, List.getElem?_set_self (by simp; omega)]
  have f1 := (McAt.of g2 hC).fk
  have g3 : W1[w.length]? = some (mkM "RawMachine" L T' A' .non cP') := by
    rw [e1, List.getElem?_set_ne (by omega), List.getElem?_append_right (by omega), Nat.sub_self]
    rfl
  obtain ⟨W2, e2⟩ : ∃ W2, W2 = w.set m (mkM C L T A (.obj w.length) rest) ++ [mkM "RawMachine" L T' A' (.obj w.length) cP'] := ⟨_, rfl⟩
  have s2 : stF ["Machine", "RawMachine"] "kept_least" (.fz (.obj w.length)) W1 (.obj w.length) = some W2 := by
    rw [jL' g3 (by simp) (by simp), e1, e2]
    rw [List.set_append_left _ _ hm, List.set_append_right _ _ (by simp)]
    simp only [List.length_set, Nat.sub_self]
    rfl
  have g4 : W2[m]? = some (mkM C L T A (.obj w.length) rest) := by
    rw [e2, List.getElem?_append_left (by simpa using hm), List.getElem?_set_self hm]
  have f2 := (McAt.of g4 hC).fk
  clear g1 g2 g3 g4 e1 h1 h2 h3 h4 hlk hlf hsk
  walk_at "s"
  rw [<- e2, f2, a7']
  exact ⟨c, T', A', hI, rfl, e2⟩
theorem oh' {w : W} {m n : Nat} {C : String} {L : Tx} {T : List (List Nat)} {A : List Nat} {rest : List (String × O)} (h : w[m]? = some (mkM C L T A (.obj n) rest)) (hC : C = "Machine" \/ C = "RawMachine") :
    wF (f_least [.obj m] w) (fun o w' => o = .fz (.obj n) /\ w' = w) FX := by
  have h4 := (McAt.of h hC).fk
  unfold f_least
  walk_at "f"
theorem f5' {X Y : D} {L : Tx} {T : List (List Nat)} {A S : List Nat} (hX : dM' X T) (hY : dO' Y A) (hT : a3' T T.length L.length) (hL : L.Nodup) (hLl : L.length <= 1000) (hn2 : T.length <= 1000) (hS : ∀ s ∈ S, s < T.length) (hcl : ∀ s ∈ S, ∀ t ∈ aq' T s, t ∈ S) (hnd : S.Nodup) (hne : S ≠ []) (w : W) :
    wF (f__law_classes [X, Y, .lst (S.map fun s => .int (s : Nat))] w) (fun o w' => (∃ c k, Clz L T A S c k /\ (∀ s ∈ S, ∀ t ∈ S, c s = c t -> key T c s = key T c t) /\ o = .fz (dNz (S.map fun s => (s, .int (c s : Nat))))) /\ w' = w) FX := by
  have hlen : S.length <= T.length := of' hnd hS
  have hl0 : 0 < S.length := List.length_pos_iff.mpr hne
  unfold f__law_classes
  walk_at "f"
  refine bR' (fun pre ρ => ∃ y, ρ = ⟨[some (.fz X), some (.fz Y), some (.fz (.lst (S.map fun s => .int (s : Nat)))), some (dN (pre.map fun s => (s, .int ((if s ∈ A then 1 else 0 : Nat) : Nat)))), y, none, none, none, none, none, none], w⟩) ⟨_, rfl⟩ ?_ ?_
  . rintro pre s post _ e ⟨y, rfl⟩
    have hfr : (pre.map fun s => (s, D.int ((if s ∈ A then 1 else 0 : Nat) : Nat))).lookup s = none := by
      refine ca' _ _ ?_
      rw [List.map_map]
      intro hm
      rw [e] at hnd
      obtain ⟨s', hs', e'⟩ := List.mem_map.mp hm
      have : s' = s := e'
      exact (List.nodup_append.mp hnd).2.2 s' hs' s (by simp) this
    have hl3 : (pre.map fun s => (s, D.int ((if s ∈ A then 1 else 0 : Nat) : Nat))).length < 16777216 := by
      have := congrArg List.length e
      rw [List.length_map]
      simp at this
      omega
    have hy := hY s
    have ei : (if decide (s ∈ A) = true then (1 : Int) else 0) = ((if s ∈ A then 1 else 0 : Nat) : Nat) := by by_cases h : s ∈ A <;> simp [h]
    clear e hY
    walk_at "s"
    exact ⟨_, by rw [List.map_append, List.map_cons, List.map_nil]⟩
  rintro _ ⟨y, rfl⟩
  walk_at "s"
  have hc0 : Cw L T A S (fun s => if s ∈ A then 1 else 0) := by
    refine ⟨fun s _ t _ e => ?_, fun s _ t _ e => ?_⟩
    . have e : (if s ∈ A then 1 else 0) = (if t ∈ A then 1 else 0) := e
      by_cases h1 : s ∈ A <;> by_cases h2 : t ∈ A <;> simp_all
    . have := e [] (fun _ h => nomatch h)
      have : s ∈ A ↔ t ∈ A := by simpa [qg'] using this
      simp only [this]
  -- what is known when t turns are done
  refine cQ' (fun t ρ => ∃ (c : Nat -> Nat) (many : Nat) (o3 y yt y7 y8 y9 y10 : Option O) (o : O), o3 = some o /\ Cw L T A S c /\ (∀ s ∈ S, rN' (cd' o (.int (s : Nat))) = some (.int (c s : Nat))) /\ (t = 0 \/ o = .fz (dNz (S.map fun s => (s, .int (c s : Nat))))) /\ (t = 0 -> many = 0) /\ (0 < t -> Clz L T A S c many /\ t <= many) ∧
      ρ = ⟨[some (.fz X), some (.fz Y), some (.fz (.lst (S.map fun s => .int (s : Nat)))), o3, y, some (.fz (.int (many : Nat))), yt, y7, y8, y9, y10], w⟩)
    ⟨_, 0, _, _, _, _, _, _, _, _, rfl, hc0, ?_, .inl rfl, fun _ => rfl, fun h => absurd h (by omega), rfl⟩ ?_ ?_
  . intro s hs
    rw [lp', bt' (fun s => D.int ((if s ∈ A then 1 else 0 : Nat) : Nat)), if_pos hs]
    rfl
  . rintro t _ ht ⟨c, many, _, y, yt, y7, y8, y9, y10, o, rfl, hc, hl, ho, hm0, hm1, rfl⟩
    walk_at "s"
    refine bR' (fun pre ρ => ∃ y z9 z10, ρ = ⟨[some (.fz X), some (.fz Y), some (.fz (.lst (S.map fun s => .int (s : Nat)))), some o, y, some (.fz (.int (many : Nat))), some (.fz (.int (t : Nat))), some (dX eK ((an' (pre.map (key T c))).map fun a => (a, .int (ixo (an' (pre.map (key T c))) a : Nat)))), some (dN (pre.map fun s => (s, .int (ixo (an' (S.map (key T c))) (key T c s) : Nat)))), z9, z10], w⟩) ⟨_, _, _, rfl⟩ ?_ ?_
    . rintro pre s post _ es ⟨y, z9, z10, rfl⟩
      rw [List.map_append, List.map_cons, List.map_nil, bx']
      have keep : (an' (pre.map (key T c) ++ [key T c s])) <+: an' (S.map (key T c)) := by
        have e2 : an' (S.map (key T c)) = bW' (an' (pre.map (key T c) ++ [key T c s])) (post.map (key T c)) := by
          rw [es, List.map_append, List.map_cons, show pre.map (key T c) ++ key T c s :: post.map (key T c) = (pre.map (key T c) ++ [key T c s]) ++ post.map (key T c) by simp]
          exact cb'
        rw [e2]
        exact cq'
      rw [bx'] at keep
      have hs : s ∈ S := by rw [es]; simp
      have hndp : (an' (pre.map (key T c))).Nodup := gR'
      have hlk := dV' (an' (pre.map (key T c))) (key T c s)
      have hlenp : pre.length < 1000 := by
        have := congrArg List.length es
        simp at this
        omega
      have hlen2 : (an' (pre.map (key T c))).length <= pre.length := by
        have h2 := List.Nodup.length_le_of_subset hndp (l₂ := pre.map (key T c)) (fun a ha => aG'.mp ha)
        simpa using h2
      have hfr : ((pre.map fun s => (s, D.int (ixo (an' (S.map (key T c))) (key T c s) : Nat))).lookup s) = none := by
        refine ca' _ _ ?_
        rw [List.map_map]
        intro hm
        rw [es] at hnd
        obtain ⟨s', hs', e'⟩ := List.mem_map.mp hm
        have : s' = s := e'
        exact (List.nodup_append.mp hnd).2.2 s' hs' s (by simp) this
      have hl3 : (pre.map fun s => (s, D.int (ixo (an' (S.map (key T c))) (key T c s) : Nat))).length < 16777216 := by rw [List.length_map]; omega
      have hl1 := hl s hs
      obtain ⟨R, hR1, hR2⟩ := hX s _ (cp' hT (hS s hs))
      have hrl := bY' hT (hS s hs)
      have ek : D.tup [.int (c s : Nat), .tup ((aq' T s).map fun t => .int (c t : Nat))] = eK (key T c s) := by
        simp only [eK, key, List.map_map]; rfl
      have hcl' := hcl s hs
      clear es hX hY
      walk_at "s"
      refine h9' (fun t : Nat => D.int (c t : Nat)) (by omega) ?_ ?_
      . intro t' htr
        have hl2 := hl t' (hcl' t' htr)
        walk_at "s"
      walk_at "l"
      walk_at "s"
      by_cases hm : key T c s ∈ an' (pre.map (key T c))
      . rw [if_pos hm] at hlk
        rw [b6' hm] at keep ⊢
        have hx := dC' yn' ((an' (pre.map (key T c))).map fun a => (a, D.int (ixo (an' (pre.map (key T c))) a : Nat))) (key T c s)
        rw [hlk] at hx
        have hid : ixo (an' (S.map (key T c))) (key T c s) = ixo (an' (pre.map (key T c))) (key T c s) := dD' keep hm
        clear keep
        walk_at "s"
        exact ⟨_, _, _, by rw [List.map_append, List.map_cons, List.map_nil, hid]⟩
      . rw [if_neg hm] at hlk
        rw [bJ' hm] at keep ⊢
        have hx := dC' yn' ((an' (pre.map (key T c))).map fun a => (a, D.int (ixo (an' (pre.map (key T c))) a : Nat))) (key T c s)
        rw [hlk] at hx
        have hp := fun d => lg' yn' (l := (an' (pre.map (key T c))).map fun a => (a, D.int (ixo (an' (pre.map (key T c))) a : Nat))) (k := key T c s) hlk (by rw [List.length_map]; omega) d
        have hx2 : ∀ d : D, cd' (dX eK (((an' (pre.map (key T c))).map fun a => (a, D.int (ixo (an' (pre.map (key T c))) a : Nat))) ++ [(key T c s, d)])) (eK (key T c s)) = some (some (.fz d)) := fun d => by
          have := dC' yn' (((an' (pre.map (key T c))).map fun a => (a, D.int (ixo (an' (pre.map (key T c))) a : Nat))) ++ [(key T c s, d)]) (key T c s)
          rw [lo' hlk d] at this
          exact this
        have hid : ixo (an' (S.map (key T c))) (key T c s) = (an' (pre.map (key T c))).length := by
          rw [dD' keep (by simp), ek' hm]
        have hnew : (an' (pre.map (key T c)) ++ [key T c s]).map (fun a => (a, D.int (ixo (an' (pre.map (key T c)) ++ [key T c s]) a : Nat))) = ((an' (pre.map (key T c))).map fun a => (a, D.int (ixo (an' (pre.map (key T c))) a : Nat))) ++ [(key T c s, D.int ((an' (pre.map (key T c))).length : Nat))] := by
          rw [List.map_append]
          congr 1
          . refine List.map_congr_left fun a ha => ?_
            rw [dD' (List.prefix_append ..) ha]
          . rw [List.map_cons, List.map_nil, ek' hm]
        rw [hnew]
        clear keep hnew
        walk_at "s"
        exact ⟨_, _, _, by rw [List.map_append, List.map_cons, List.map_nil, hid]⟩
    . rintro _ ⟨y, z9, z10, rfl⟩
      have hnx := hc.next hT hL hS hcl
      walk_at "s"
      have hcnt : 1 <= (an' (S.map (key T c))).length := by
        obtain ⟨s, hs⟩ := List.exists_mem_of_ne_nil S hne
        have := hnx.lt hs
        omega
      refine bq' (fun h => ?_) (fun h => ?_)
      . have h : (an' (S.map (key T c))).length = many := by omega
        have ht0 : 0 < t := by
          rcases Nat.eq_zero_or_pos t with h0 | h0
          . have := hm0 h0; omega
          . exact h0
        obtain ⟨hz, _⟩ := hm1 ht0
        have hst := hz.stable (by omega)
        have hsm := hz.same (by omega)
        walk_at "s"
        refine ⟨c, many, hz, hst, ?_⟩
        congr 2
        refine List.map_congr_left fun s hs => ?_
        rw [<- sL', hsm s hs]
      . have h : (an' (S.map (key T c))).length ≠ many := by omega
        walk_at "s"
        refine ⟨jb' S (key T c), (an' (S.map (key T c))).length, _, _, _, _, _, _, _, _, rfl, hnx.cw, ?_, .inr rfl, fun h => absurd h (by omega), fun _ => ⟨hnx, ?_⟩, rfl⟩
        . intro s hs
          show rN' (cd' (.fz (dNz (S.map fun s => (s, .int (jb' S (key T c) s : Nat))))) (.int (s : Nat))) = _
          rw [iQ', bt' (fun s => D.int (jb' S (key T c) s : Nat)), if_pos hs]
          rfl
        . rcases Nat.eq_zero_or_pos t with h0 | h0
          . omega
          . obtain ⟨hz, hle⟩ := hm1 h0
            have := hz.le
            omega
  . rintro _ ⟨c, many, _, y, yt, y7, y8, y9, y10, o, rfl, hc, hl, ho, hm0, hm1, rfl⟩
    have ho := ho.resolve_left (by omega)
    subst ho
    obtain ⟨hz, hle⟩ := hm1 hl0
    have hcount : (an' (S.map c)).length = (an' S).length := by
      have h1 := bI' c S
      have h2 : (an' (S.map c)).length = many := by rw [hz.num, List.length_range]
      have h3 : (an' S).length = S.length := by rw [b9' hnd]
      omega
    have hinj := gQ' c S hcount
    walk_at "s"
    exact ⟨c, many, hz, fun s hs t ht e => by rw [hinj s hs t ht e], rfl⟩
theorem d5' {X Y : D} {L : Tx} {T : List (List Nat)} {A : List Nat} (hX : dM' X T) (hY : dO' Y A) (hT : a3' T T.length L.length) (hL : L.Nodup) (hLl : L.length <= 1000) (hn : 1 <= T.length) (hn2 : T.length <= 1000) (w : W) :
    wF (f__law_least [X, Y] w) (fun o w' => (∃ c T' A', IsLeast L T A c T' A' /\ o = .fz (.tup [co' T', cZ' A'])) /\ w' = w) FX := by
  have hS : ∀ s ∈ reach T, s < T.length := fun s hs => ge' hT hn hs
  have hcl : ∀ s ∈ reach T, ∀ t ∈ aq' T s, t ∈ reach T := fun s hs t ht => cK' hT hn hs ht
  unfold f__law_least
  walk_at "f"
  refine dm' (fun mm ρ => ∃ j, mm = T.length + 1 - j /\ j <= (bfs T j).length /\ ∃ y, ρ = ⟨[some (.fz X), some (.fz Y), some (.lst ((bfs T j).map fun s => .fz (.int (s : Nat)))), some (.fz (.int (j : Nat))), y, none, none, none, none, none, none], w⟩ /\ Pl y) (T.length + 1) (by show T.length + 1 < 2 ^ 40; omega) ⟨0, by simp, by simp, _, rfl, .inl rfl⟩ ?_
  rintro mm _ ⟨j, rfl, hj, y, rfl, hy⟩
  walk_at "s"
  refine bq' (fun h => ?_) (fun h => ?_)
  . have hj2 : j < (bfs T j).length := by omega
    have hs : (bfs T j)[j]? = some (bfs T j)[j] := List.getElem?_eq_getElem hj2
    generalize (bfs T j)[j] = s at hs
    have hsl : s < T.length := g6' hT hn (List.mem_of_getElem? hs)
    obtain ⟨R, hR1, hR2⟩ := hX s _ (cp' hT hsl)
    have hlen := bS' hT hn j
    clear hX hY
    walk_at "s"
    refine bR' (fun pre ρ => ∃ y, ρ = ⟨[some (.fz X), some (.fz Y), some (.lst ((bW' (bfs T j) pre).map fun s => .fz (.int (s : Nat)))), some (.fz (.int (j : Nat))), y, none, none, none, none, none, none], w⟩ /\ Pl y) ⟨_, rfl, hy⟩ ?_ ?_
    . rintro pre t post _ e ⟨y, rfl, hy⟩
      have hl2 : (bW' (bfs T j) pre).length <= T.length := of' (ft' (io' j)) fun x hx => (b0'.mp hx).elim (fun q => g6' hT hn q) fun q => gE' hT (s := s) (by rw [e]; simp [q])
      rw [dE']
      clear e hs hR1 hR2
      by_cases hm : t ∈ bW' (bfs T j) pre
      . rw [b6' hm]
        walk_at "s"
        exact ⟨_, rfl, .inr ⟨_, rfl⟩⟩
      . rw [bJ' hm]
        have hl4 : (bW' (bfs T j) pre).length < 16777216 := by omega
        walk_at "s"
        exact ⟨some (.fz (.int (t : Nat))), by rw [List.map_append, List.map_cons, List.map_nil], .inr ⟨_, rfl⟩⟩
    . rintro _ ⟨y, rfl, hy⟩
      walk_at "s"
      rw [<- d7' hs]
      refine ⟨T.length + 1 - (j + 1), by omega, j + 1, rfl, ?_, _, rfl, hy⟩
      have := (i7' (T := T) (j := j)).length_le
      omega
  . have e : bfs T j = reach T := dQ' hT hn (by omega)
    rw [e]
    walk_at "s"
    have efr : frzs ((reach T).map fun s => O.fz (D.int (s : Nat))) = (reach T).map fun s => D.int (s : Nat) := by
      rw [cj', List.map_map]; rfl
    rw [efr]
    refine (f5' hX hY hT hL hLl hn2 hS hcl eG' (fun e => by have := dR' (T := T); rw [e] at this; cases this) w).mono ?_
    rintro _ _ ⟨⟨c, k, hc, hst, rfl⟩, rfl⟩
    rename_i w
    have hlk : ∀ s ∈ reach T, ((reach T).map fun s => (s, D.int (c s : Nat))).lookup s = some (.int (c s : Nat)) := fun s hs => by rw [bt' (fun s => D.int (c s : Nat)), if_pos hs]
    have kle : k <= T.length := by
      have h1 := bI' c (reach T)
      rw [hc.num, List.length_range, b9' eG'] at h1
      exact Nat.le_trans h1 (bS' hT hn _)
    have hSl : (reach T).length <= T.length := bS' hT hn _
    walk_at "s"
    refine bR' (fun pre ρ => ∃ y z z8, ρ = ⟨[some (.fz X), some (.fz Y), some (.fz (.lst ((reach T).map fun s => .int (s : Nat)))), z, y, some (.fz (dNz ((reach T).map fun s => (s, .int (c s : Nat))))), some (dN ((an' (pre.map c)).map fun q => (q, .int (q : Nat)))), some (.lst (((an' (pre.map c)).map (bA' pre c)).map fun s => .fz (.int (s : Nat)))), z8, none, none], w⟩ /\ Pl y) ⟨_, _, _, rfl, hy⟩ ?_ ?_
    . rintro pre s post _ es ⟨y, z, z8, rfl, hy⟩
      have hs : s ∈ reach T := by rw [es]; simp
      have hl1 := hlk s hs
      have hpre : an' ((pre ++ [s]).map c) <+: List.range k := by
        rw [<- hc.num]
        exact c5' c ⟨post, by rw [es]; simp⟩
      have hlenp : (an' (pre.map c)).length <= 1000 := by
        have h2 := List.Nodup.length_le_of_subset (gR' (xs := pre.map c)) (l₂ := pre.map c) (fun a ha => aG'.mp ha)
        have := congrArg List.length es
        simp at this h2
        omega
      have hlf := bt' (fun q => D.int (q : Nat)) (c s) (an' (pre.map c))
      have hlen4 : ((an' (pre.map c)).map fun q => (q, D.int (q : Nat))).length < 16777216 := by rw [List.length_map]; omega
      have hold : (an' (pre.map c)).map (bA' (pre ++ [s]) c) = (an' (pre.map c)).map (bA' pre c) := List.map_congr_left fun q hq => kj' (aG'.mp hq)
      rw [List.map_append, List.map_cons, List.map_nil, bx'] at hpre ⊢
      clear es hX hY
      by_cases hm : c s ∈ an' (pre.map c)
      . rw [if_pos hm] at hlf
        rw [b6' hm, hold]
        walk_at "s"
        exact ⟨_, _, _, rfl, hy⟩
      . rw [if_neg hm] at hlf
        rw [bJ' hm] at hpre ⊢
        have hr := dw' hpre
        have hcs : (an' (pre.map c)).length = c s := by
          symm
          have := congrArg (fun l => l[(an' (pre.map c)).length]?) hr
          simp only [List.getElem?_append_right (Nat.le_refl _), Nat.sub_self, List.getElem?_cons_zero, List.length_append, List.length_singleton] at this
          rw [List.getElem?_range (by omega)] at this
          exact Option.some.inj this
        rw [List.map_append, List.map_append, List.map_append, List.map_cons, List.map_nil, List.map_cons, List.map_nil, List.map_cons, List.map_nil, hold, kk' fun q => hm (aG'.mpr q)]
        have hlen5 : (((an' (pre.map c)).map (bA' pre c)).map fun s => O.fz (.int (s : Nat))).length < 16777216 := by rw [List.length_map, List.length_map]; omega
        have hlen6 : (an' (pre.map c)).length < 16777216 := by omega
        rw [hcs] at hlen6
        walk_at "s"
        exact ⟨_, _, some (.fz (.int (s : Nat))), rfl, hy⟩
    . rintro _ ⟨y, z, z8, rfl, hy⟩
      rw [hc.num]
      have hfst : ∀ q < k, bA' (reach T) c q ∈ reach T := by
        intro q hq
        have : q ∈ an' ((reach T).map c) := by rw [hc.num]; exact List.mem_range.mpr hq
        obtain ⟨s, hs, e⟩ := List.mem_map.mp (aG'.mp this)
        unfold bA'
        cases f : (reach T).find? fun s => decide (c s = q) with
        | none =>
          have := List.find?_eq_none.mp f s hs
          simp [e] at this
        | some t => exact List.mem_of_find?_eq_some f
      have hlf : ∀ q < k, ((List.range k).map fun q => (q, D.int (q : Nat))).lookup q = some (.int (q : Nat)) := fun q hq => by rw [bt' (fun q => D.int (q : Nat)), if_pos (List.mem_range.mpr hq)]
      have ef : frzs (((List.range k).map (bA' (reach T) c)).map fun s => O.fz (D.int (s : Nat))) = ((List.range k).map (bA' (reach T) c)).map fun s => D.int (s : Nat) := by
        rw [cj', List.map_map]; rfl
      walk_at "s"
      refine h9' (fun s : Nat => bX' ((aq' T s).map c)) (by simp; omega) ?_ ?_
      . intro s hs
        obtain ⟨q, hq, rfl⟩ := List.mem_map.mp hs
        have hq := List.mem_range.mp hq
        have hf := hfst q hq
        obtain ⟨R, hR1, hR2⟩ := hX _ _ (cp' hT (hS _ hf))
        have hrl := bY' hT (hS _ hf)
        have hclf := hcl _ hf
        clear hX hY
        walk_at "s"
        refine h9' (fun t : Nat => D.int (c t : Nat)) (by omega) ?_ ?_
        . intro t ht
          have h1 := hlk t (hclf t ht)
          have h2 := hlf (c t) (hc.lt (hclf t ht))
          walk_at "s"
        walk_at "l"
        walk_at "s"
        refine ⟨by simp only [bX', List.map_map]; rfl, ?_⟩
        rcases hy with rfl | ⟨d, rfl⟩ <;> rfl
      walk_at "l"
      walk_at "s"
      refine q6' (fun q => decide (bA' (reach T) c q ∈ A)) (fun q : Nat => D.int (q : Nat)) (by omega) ?_ ?_
      . intro q hq
        have e1 : (List.range k)[q]? = some q := List.getElem?_range hq
        have hy1 := hY (bA' (reach T) c q)
        walk_at "s"
        exact fun _ => trivial
      walk_at "l"
      walk_at "s"
      refine ⟨c, bV' T (reach T) c k, fQ' A (reach T) c k, nw' hT hL hn hc hst, ?_⟩
      unfold co' bV' cZ' fQ'
      simp only [List.map_map]
      rfl
theorem yz' {w : W} {m most : Nat} {L : Tx} {T : List (List Nat)} {A : List Nat} (h : w[m]? = some (.ins "Machine" [])) (hM : MacOk L T A most 6) (hmost : most <= 4) : wF (f_Machine___init__ [.obj m, .str L, co' T, cZ' A] w) (fun o w' => o = .fz .non /\ w' = w.set m (mkM "Machine" L T A .non cP')) FX := by
  have hL := hM.let'
  have h1 := hL.ne
  have h2 : L.length <= 4 := Nat.le_trans hL.le hmost
  have e1 : (L.all fun c => decide (c ∈ abc)) = true := by
    rw [List.all_eq_true]
    exact fun c hc => by rw [decide_eq_true_iff]; exact qS'.mpr (hL.abc c hc)
  have e2 : (A.all fun a => decide (a < T.length)) = true := by
    rw [List.all_eq_true]
    exact fun a ha => by simpa using hM.acc.lt a ha
  unfold f_Machine___init__
  walk_at "f0"
  walk_at "s"
  refine (hE' L abc w).mono ?_
  rintro _ _ ⟨rfl, rfl⟩
  rw [e1, decide_eq_true hL.asc]
  walk_at "s"
  refine (iT' hM.tab hM.ne hM.le _).mono ?_
  rintro _ _ ⟨rfl, rfl⟩
  walk_at "s"
  refine (dL' A T.length _).mono ?_
  rintro _ _ ⟨rfl, rfl⟩
  rw [e2]
  walk_at "s"
  refine (f6' A _).mono ?_
  rintro _ _ ⟨rfl, rfl⟩
  rw [decide_eq_true hM.acc.asc]
  walk_at "s"
  refine ⟨by simp [iU', h], ?_⟩
  refine (nA' h (.inl rfl)).mono ?_
  rintro _ _ ⟨rfl, rfl⟩
  walk_at "s"
theorem yc' {w : W} {m most : Nat} {L : Tx} {T : List (List Nat)} {A : List Nat} (hm : w.length = m) (hM : MacOk L T A most 6) (hmost : most <= 4) : wF (f_Machine___init__ [.obj m, .str L, co' T, cZ' A] (w ++ [.ins "Machine" []])) (fun o w' => o = .fz .non /\ w' = w ++ [mkM "Machine" L T A .non cP']) FX := by
  subst hm
  refine (yz' (by rw [List.getElem?_append_right (by omega), Nat.sub_self]; rfl) hM hmost).mono ?_
  rintro _ _ ⟨rfl, rfl⟩
  refine ⟨rfl, ?_⟩
  rw [List.set_append_right _ _ (by omega), Nat.sub_self]; rfl
structure Pt (L : Tx) (T : List (List Nat)) : Prop where
  tab : a3' T T.length L.length
  nd : L.Nodup
  ll : L.length <= 1000
  ne : 1 <= T.length
  le : T.length <= 400
theorem Pt.least {L : Tx} {T : List (List Nat)} {A : List Nat} {c : Nat -> Nat} {T' : List (List Nat)} {A' : List Nat} (h : Pt L T) (hI : IsLeast L T A c T' A') : Pt L T' :=
  ⟨hI.tab, h.nd, h.ll, hI.ne, Nat.le_trans hI.le h.le⟩
theorem MacOk.pt {L : Tx} {T : List (List Nat)} {A : List Nat} {most states : Nat} (h : MacOk L T A most states) (h1 : most <= 1000) (h2 : states <= 400) : Pt L T :=
  ⟨h.tab, h.let'.asc.imp (fun h => Nat.ne_of_lt h), Nat.le_trans h.let'.le h1, h.ne, Nat.le_trans h.le h2⟩
def Rs (rest : List (String × O)) : Prop := ∃ o1 o2 o3, rest = [("kept_field", o1), ("kept_lots", o2), ("kept_more", o3)]
theorem Rs.z : Rs cP' := ⟨_, _, _, rfl⟩
theorem Rs.le {rest : List (String × O)} (h : Rs rest) : rest.length <= 100 := by obtain ⟨_, _, _, rfl⟩ := h; simp
structure MM (w : W) (m : Nat) (C : String) (L : Tx) (T : List (List Nat)) (A : List Nat) : Prop where
  cl : C = "Machine" \/ C = "RawMachine"
  ex : ∃ l rest, Rs rest /\ w[m]? = some (mkM C L T A l rest)
theorem MM.mc {w : W} {m : Nat} {C : String} {L T A} (h : MM w m C L T A) : ∃ l, McAt w m L T A l := by
  obtain ⟨l, rest, _, h2⟩ := h.ex
  exact ⟨l, McAt.of h2 h.cl⟩
theorem MM.lt {w : W} {m : Nat} {C : String} {L T A} (h : MM w m C L T A) : m < w.length := by
  obtain ⟨l, rest, _, h2⟩ := h.ex
  exact bs' h2
def WOk (w : W) : Prop := ∀ (m : Nat) (C : String) (L : Tx) (T : List (List Nat)) (A : List Nat) (l : D) (rest : List (String × O)), w[m]? = some (mkM C L T A l rest) →
  l = .non \/ ∃ k c T' A', l = .obj k /\ IsLeast L T A c T' A' /\ ∃ rest', Rs rest' /\ w[k]? = some (mkM "RawMachine" L T' A' (.obj k) rest')
structure Evo (w w' : W) : Prop where
  len : w.length <= w'.length
  mac : ∀ m C L T A, MM w m C L T A -> MM w' m C L T A
  hand : ∀ n, c0' w n -> c0' w' n
theorem Evo.refl {w : W} : Evo w w := ⟨Nat.le_refl _, fun _ _ _ _ _ h => h, fun _ h => h⟩
theorem Evo.trans {w w1 w2 : W} (h : Evo w w1) (h' : Evo w1 w2) : Evo w w2 := ⟨Nat.le_trans h.len h'.len, fun _ _ _ _ _ q => h'.mac _ _ _ _ _ (h.mac _ _ _ _ _ q), fun _ q => h'.hand _ (h.hand _ q)⟩
theorem MM.evo {w w' : W} {m : Nat} {C : String} {L T A} (h : MM w m C L T A) (e : Evo w w') : MM w' m C L T A := e.mac _ _ _ _ _ h
theorem IsLeast.self {L : Tx} {T : List (List Nat)} {A : List Nat} {c : Nat -> Nat} {T' : List (List Nat)} {A' : List Nat} (h : IsLeast L T A c T' A') : IsLeast L T' A' id T' A' where
  tab := h.tab
  ne := h.ne
  le := Nat.le_refl _
  acc := h.acc
  c0 := rfl
  lt s hs := by rw [h.reach] at hs; exact List.mem_range.mp hs
  row s _ := by rw [List.map_id]; rfl
  fin s _ := Iff.rfl
  onto q hq := ⟨q, by rw [h.reach]; exact List.mem_range.mpr hq, rfl⟩
  reach := h.reach
  apart := h.apart
  num := by rw [List.map_id, h.reach, b9' List.nodup_range]
theorem gS' {C C' : String} {L L' : Tx} {T T' : List (List Nat)} {A A' : List Nat} {l l' : D} {rest rest' : List (String × O)} (h : mkM C L T A l rest = mkM C' L' T' A' l' rest') : C = C' /\ L = L' /\ T = T' /\ A = A' /\ l = l' /\ rest = rest' := by
  have nat : ∀ {x y : List Nat}, (x.map fun t => D.int (t : Nat)) = (y.map fun t => D.int (t : Nat)) -> x = y := fun e =>
    List.map_inj_right (fun a b h => by have := D.int.inj h; omega) |>.mp e
  obtain ⟨e1, e2⟩ := Ob.ins.inj h
  simp only [List.cons.injEq, Prod.mk.injEq, true_and, O.fz.injEq, D.str.injEq, and_assoc] at e2
  obtain ⟨f1, f2, f3, f4, f5⟩ := e2
  refine ⟨e1, f1, ?_, nat (D.tup.inj f3), f4, f5⟩
  exact List.map_inj_right (fun a b h => nat (D.tup.inj h)) |>.mp (D.tup.inj f2)
theorem WOk.but {w w' : W} {n : Nat} (h : WOk w) (hh : c0' w n) (hh' : c0' w' n) (b : But n w w') : WOk w' /\ Evo w w' := by
  obtain ⟨cells, i, bb, s, c, hw, _⟩ := id hh
  obtain ⟨cells', i', bb', s', c', hw', _⟩ := id hh'
  refine ⟨fun m C L T A l rest e => ?_, Nat.le_of_eq b.1.symm, fun m C L T A hM => ?_, fun k hk => ?_⟩
  . have hm : m ≠ n := fun q => by rw [q, hw'] at e; cases e
    rw [b.2 m hm] at e
    rcases h m C L T A l rest e with q | ⟨k, c0, T', A', q1, q2, rest', q3, q4⟩
    . exact .inl q
    . refine .inr ⟨k, c0, T', A', q1, q2, rest', q3, ?_⟩
      rw [b.2 k (fun q => by rw [q, hw] at q4; cases q4)]
      exact q4
  . obtain ⟨l, rest, h1, h2⟩ := hM.ex
    refine ⟨hM.cl, l, rest, h1, ?_⟩
    rw [b.2 m (fun q => by rw [q, hw] at h2; cases h2)]
    exact h2
  . by_cases q : k = n
    . rw [q]; exact hh'
    . obtain ⟨c1, i1, b1, s1, k1, e1, e2⟩ := hk
      exact ⟨c1, i1, b1, s1, k1, by rw [b.2 k q]; exact e1, e2⟩
theorem WOk.snoc {w : W} {o : Ob} (h : WOk w) (ho : ∀ C L T A l rest, o = mkM C L T A l rest -> l = .non) : WOk (w ++ [o]) /\ Evo w (w ++ [o]) := by
  refine ⟨fun m C L T A l rest e => ?_, by simp, fun m C L T A hM => ?_, fun k hk => hk.snoc⟩
  . by_cases hm : m < w.length
    . rw [List.getElem?_append_left hm] at e
      rcases h m C L T A l rest e with q | ⟨k, c0, T', A', q1, q2, rest', q3, q4⟩
      . exact .inl q
      . exact .inr ⟨k, c0, T', A', q1, q2, rest', q3, by rw [List.getElem?_append_left (bs' q4)]; exact q4⟩
    . rw [List.getElem?_append_right (by omega)] at e
      have : m - w.length = 0 := by
        have := (List.getElem?_eq_some_iff.mp e).1
        simp at this; omega
      rw [this] at e
      exact .inl (ho C L T A l rest (Option.some.inj e))
  . obtain ⟨l, rest, h1, h2⟩ := hM.ex
    exact ⟨hM.cl, l, rest, h1, by rw [List.getElem?_append_left (bs' h2)]; exact h2⟩
theorem MM.new {w : W} {C : String} {L T A l rest} (hC : C = "Machine" \/ C = "RawMachine") (hr : Rs rest) : MM (w ++ [mkM C L T A l rest]) w.length C L T A :=
  ⟨hC, l, rest, hr, by rw [List.getElem?_append_right (Nat.le_refl _), Nat.sub_self]; rfl⟩
theorem WOk.mach {w : W} {C : String} {L T A} (h : WOk w) : WOk (w ++ [mkM C L T A .non cP']) /\ Evo w (w ++ [mkM C L T A .non cP']) :=
  h.snoc fun C' L' T' A' l rest e => (gS' e).2.2.2.2.1.symm
theorem WOk.lst {w : W} {os : List O} (h : WOk w) : WOk (w ++ [.lst os]) /\ Evo w (w ++ [.lst os]) := h.snoc fun C' L' T' A' l rest e => by cases e
theorem WOk.nil : WOk [] := fun m C L T A l rest e => by simp at e
theorem WOk.one {os : List O} : WOk [.lst os] := (WOk.lst .nil).1
theorem lr' {w : W} {m : Nat} {C : String} {L : Tx} {T : List (List Nat)} {A : List Nat} (hW : WOk w) (h : MM w m C L T A) (hP : Pt L T) :
    wF (f_least [.obj m] w) (fun o w' => ∃ k c T' A', o = .fz (.obj k) /\ IsLeast L T A c T' A' /\ MM w' k "RawMachine" L T' A' /\ WOk w' /\ Evo w w') FX := by
  obtain ⟨l, rest, hr, e⟩ := h.ex
  rcases hW m C L T A l rest e with rfl | ⟨k, c0, T', A', rfl, q2, rest', q3, q4⟩
  . refine (og' e h.cl hr.le hP.tab hP.nd hP.ll hP.ne (Nat.le_trans hP.le (by decide))).mono ?_
    rintro _ _ ⟨c, T', A', hI, rfl, rfl⟩
    have hm := bs' e
    have e1 : (w.set m (mkM C L T A (.obj w.length) rest) ++ [mkM "RawMachine" L T' A' (.obj w.length) cP'])[w.length]? = some (mkM "RawMachine" L T' A' (.obj w.length) cP') := by
      rw [List.getElem?_append_right (by simp), List.length_set, Nat.sub_self]; rfl
    have e2 : (w.set m (mkM C L T A (.obj w.length) rest) ++ [mkM "RawMachine" L T' A' (.obj w.length) cP'])[m]? = some (mkM C L T A (.obj w.length) rest) := by
      rw [List.getElem?_append_left (by simpa using hm), List.getElem?_set_self hm]
    have e3 : ∀ i, i < w.length -> i ≠ m -> (w.set m (mkM C L T A (.obj w.length) rest) ++ [mkM "RawMachine" L T' A' (.obj w.length) cP'])[i]? = w[i]? := fun i hi hne => by
      rw [List.getElem?_append_left (by simpa using hi), List.getElem?_set_ne (fun h => hne h.symm)]
    refine ⟨w.length, c, T', A', rfl, hI, ⟨.inr rfl, _, _, .z, e1⟩, fun i Ci Li Ti Ai li ri ei => ?_, by simp, fun i Ci Li Ti Ai hi => ?_, fun i hi => ?_⟩
    . rcases Nat.lt_trichotomy i w.length with hi | hi | hi
      . by_cases him : i = m
        . rw [him, e2] at ei
          obtain ⟨rfl, rfl, rfl, rfl, rfl, rfl⟩ := gS' (Option.some.inj ei)
          exact .inr ⟨_, c, T', A', rfl, hI, _, .z, e1⟩
        . rw [e3 i hi him] at ei
          rcases hW i _ _ _ _ _ _ ei with q | ⟨k, c1, T1, A1, q1, q2, rest1, q3, q4⟩
          . exact .inl q
          . refine .inr ⟨k, c1, T1, A1, q1, q2, rest1, q3, ?_⟩
            rw [e3 k (bs' q4) (fun q => ?_)]
            . exact q4
            . rw [q, e] at q4
              have := (gS' (Option.some.inj q4)).2.2.2.2.1
              cases this
      . rw [hi, e1] at ei
        obtain ⟨rfl, rfl, rfl, rfl, rfl, rfl⟩ := gS' (Option.some.inj ei)
        exact .inr ⟨_, id, _, _, rfl, hI.self, _, .z, e1⟩
      . have := bs' ei
        simp at this
        omega
    . obtain ⟨l1, r1, h1, h2⟩ := hi.ex
      by_cases him : i = m
      . rw [him, e] at h2
        obtain ⟨rfl, rfl, rfl, rfl, rfl, rfl⟩ := gS' (Option.some.inj h2)
        exact ⟨hi.cl, _, _, hr, by rw [him]; exact e2⟩
      . exact ⟨hi.cl, _, _, h1, by rw [e3 i (bs' h2) him]; exact h2⟩
    . obtain ⟨c1, i1, b1, s1, k1, e4, e5⟩ := hi
      exact ⟨c1, i1, b1, s1, k1, by rw [e3 i (bs' e4) (fun q => by rw [q, e] at e4; cases e4)]; exact e4, e5⟩
  . refine (oh' e h.cl).mono ?_
    rintro _ _ ⟨rfl, rfl⟩
    exact ⟨k, c0, T', A', rfl, q2, ⟨.inr rfl, _, _, q3, q4⟩, hW, .refl⟩
theorem su' {w : W} {L : Tx} {T : List (List Nat)} {A : List Nat} {n : Nat} (hn : n = w.length) : wF (f_RawMachine___init__ [.obj n, .str L, co' T, cZ' A] (w ++ [.ins "RawMachine" []])) (fun o w' => o = .fz .non /\ w' = w ++ [mkM "RawMachine" L T A .non cP']) FX := by
  subst hn
  refine (nd' (by rw [List.getElem?_append_right (Nat.le_refl _), Nat.sub_self]; rfl)).mono ?_
  rintro _ _ ⟨rfl, rfl⟩
  refine ⟨rfl, ?_⟩
  rw [List.set_append_right _ _ (Nat.le_refl _), Nat.sub_self]; rfl
def plD : D -> Bool := fun d => (tyn d).isSome
def wdD (L : Tx) : D -> Bool
  | .str s => s.all fun c => decide (c ∈ L)
  | _ => false
theorem uJ' {L : Tx} {s : Tx} (h : ∀ c ∈ s, c ∈ L) : wdD L (.str s) = true := by
  show s.all _ = true
  rw [List.all_eq_true]
  exact fun c hc => decide_eq_true (h c hc)
theorem yl' {w : W} {m : Nat} {C : String} {L : Tx} {T : List (List Nat)} {A : List Nat} {s : Nat} {x : Tx} (hm : MM w m C L T A) (hT : a3' T T.length L.length) (hs : s < T.length) (hx : ∀ c ∈ x, c ∈ L) : wF (f_led [.obj m, .int s, .str x] w) (fun o w' => o = .fz (.int (run L T s x : Nat)) /\ w' = w) FX := by
  obtain ⟨l, hm⟩ := hm.mc
  unfold f_led
  walk_at "f"
  have h1 := hm.fl
  have h2 := hm.ft
  refine bR' (fun pre ρ => ∃ y, ρ = ⟨[some (.fz (.obj m)), some (.fz (.int (run L T s pre : Nat))), some (.fz (.str x)), y], w⟩ /\ run L T s pre < T.length) ⟨_, rfl, hs⟩ ?_ ?_
  . rintro pre c post _ e ⟨y, rfl, hr⟩
    have hc := hx c (by rw [e]; simp)
    obtain ⟨r, h3, h4, h5⟩ := hV' hT hr hc
    have h6 := s3' hc
    rw [nc']
    clear hc e
    walk_at "s"
    exact ⟨_, rfl⟩
  . rintro _ ⟨y, rfl, hr⟩
    walk_at "s"
theorem ol' {w : W} {m : Nat} {C : String} {L : Tx} {T : List (List Nat)} {A : List Nat} {d : D} (h : MM w m C L T A) (hd : plD d = true) : wF (f_is_word [.obj m, d] w) (fun o w' => o = .fz (.bl (wdD L d)) /\ w' = w) FX := by
  obtain ⟨l, hm⟩ := h.mc
  have h1 := hm.fl
  unfold f_is_word
  walk_at "f0"
  clear h hm
  walk_at "s"
  by_cases hs : ∃ s, d = .str s
  . obtain ⟨s, rfl⟩ := hs
    refine (cX' s L w).mono ?_
    rintro _ _ ⟨rfl, rfl⟩
    walk_at "s"
    rfl
  . have h2 : ∃ t, tyn d = some t /\ t ≠ "str" := by
      cases d <;> simp [plD, tyn] at hd ⊢
      exact hs ⟨_, rfl⟩
    refine (gW' h2 L w).mono ?_
    rintro _ _ ⟨rfl, rfl⟩
    have h3 : wdD L d = false := by
      cases d <;> first | rfl | exact absurd ⟨_, rfl⟩ hs
    rw [h3]
    clear h2 hs
    walk_at "s"
theorem i6' {w : W} {m : Nat} {C : String} {L : Tx} {T : List (List Nat)} {A : List Nat} {d : D} (h : MM w m C L T A) (hd : plD d = true) : wF (f_check_word [.obj m, d] w) (fun _ w' => wdD L d = true /\ w' = w) (fun x w' => wdD L d = false /\ x = ⟨"NoWord", []⟩ /\ w' = w) := by
  have key := ol' h hd
  unfold f_check_word
  walk_at "f0"
  clear h hd
  walk_at "s"
  refine key.mono ?_
  rintro _ _ ⟨rfl, rfl⟩
  clear key
  cases hw : wdD L d
  . walk_at "s"
  . walk_at "s"
theorem i5' {w : W} {m : Nat} {C : String} {L : Tx} {T : List (List Nat)} {A : List Nat} {x : Tx} (h : MM w m C L T A) (hx : ∀ c ∈ x, c ∈ L) : wF (f_check_word [.obj m, .str x] w) (fun _ w' => w' = w) FX := by
  refine (i6' h (d := .str x) rfl).monoX ?_ ?_
  . rintro _ _ ⟨_, rfl⟩; rfl
  . rintro _ _ ⟨e, _⟩
    rw [uJ' hx] at e
    cases e
theorem qd' {w : W} {m : Nat} {C : String} {L : Tx} {T : List (List Nat)} {A : List Nat} {x : Tx} (h : MM w m C L T A) (hP : Pt L T) (hx : ∀ c ∈ x, c ∈ L) : wF (f_says [.obj m, .str x] w) (fun o w' => o = .fz (.bl (decide (run L T 0 x ∈ A))) /\ w' = w) FX := by
  have k1 := i5' h hx
  have k2 := yl' h hP.tab (Nat.lt_of_lt_of_le Nat.zero_lt_one hP.ne) hx
  obtain ⟨l, hm⟩ := h.mc
  have h3 := hm.fa
  unfold f_says
  walk_at "f0"
  clear h hP hm
  walk_at "s"
  refine k1.mono ?_
  rintro _ _ rfl
  walk_at "s"
  refine k2.mono ?_
  rintro _ _ ⟨rfl, rfl⟩
  walk_at "s"
theorem g4' : ∀ a : List Nat, dats (a.map fun t => D.int (t : Nat)) = true
  | [] => rfl
  | x :: r => by show (true && _) = true; rw [g4' r]; rfl
theorem ku' : ∀ T : List (List Nat), dats (T.map bX') = true
  | [] => rfl
  | x :: r => by
    show (dats (x.map fun t => D.int (t : Nat)) && dats (r.map bX')) = true
    rw [g4', ku' r]; rfl
theorem fA' : ∀ a : List Nat, deps (a.map fun t => D.int (t : Nat)) = 0
  | [] => rfl
  | x :: r => by show max 0 _ = 0; rw [fA' r]; rfl
theorem kr' : ∀ T : List (List Nat), deps (T.map bX') <= 1
  | [] => Nat.zero_le 1
  | x :: r => by
    show max (deps (x.map fun t => D.int (t : Nat)) + 1) (deps (r.map bX')) <= 1
    have := kr' r
    rw [fA']
    omega
def ptD (L : Tx) (T : List (List Nat)) (A : List Nat) : D := .tup [.str L, co' T, cZ' A]
theorem lh' (L : Tx) (T : List (List Nat)) (A : List Nat) : dat (ptD L T A) = true := by
  show (true && (dats (T.map bX') && (dats (A.map fun t => D.int (t : Nat)) && true))) = true
  rw [ku', g4']; rfl
theorem qC' (L : Tx) (T : List (List Nat)) (A : List Nat) : dep (ptD L T A) <= 3 := by
  show max 0 (max (deps (T.map bX') + 1) (max (deps (A.map fun t => D.int (t : Nat)) + 1) 0)) + 1 <= 3
  have := kr' T
  rw [fA']
  omega
theorem fm' : ∀ {a : List Nat} {k : Nat}, k <= 1000 -> (∀ x ∈ a, x < k) -> repIs (a.map fun t => D.int (t : Nat)) = true
  | [], _, _, _ => rfl
  | x :: r, k, hk, h => by
    show (decide ((x : Int).natAbs < 10 ^ 60) && _) = true
    have h1 := h x (by simp)
    have h2 : (x : Int).natAbs < 10 ^ 60 := Nat.lt_of_lt_of_le (m := 1000) (by omega) (by decide)
    rw [decide_eq_true h2, fm' hk fun y hy => h y (by simp [hy])]; rfl
theorem ed' : ∀ a : List Nat, repWs (a.map fun t => D.int (t : Nat)) = a.length
  | [] => rfl
  | x :: r => by show 0 + 1 + repWs (r.map fun t => D.int (t : Nat)) = r.length + 1; rw [ed' r]; omega
theorem hZ' : ∀ {T : List (List Nat)} {k : Nat}, k <= 1000 -> (∀ r ∈ T, ∀ t ∈ r, t < k) -> repIs (T.map bX') = true
  | [], _, _, _ => rfl
  | x :: r, k, hk, h => by
    show (repIs (x.map fun t => D.int (t : Nat)) && repIs (r.map bX')) = true
    rw [fm' hk (h x (by simp)), hZ' hk fun y hy => h y (by simp [hy])]; rfl
theorem hY' : ∀ {T : List (List Nat)} {m : Nat}, (∀ r ∈ T, r.length = m) -> repWs (T.map bX') = T.length * (m + 1)
  | [], _, _ => by simp [repWs]
  | x :: r, m, h => by
    show repWs (x.map fun t => D.int (t : Nat)) + 1 + repWs (r.map bX') = (r.length + 1) * (m + 1)
    rw [ed', hY' fun y hy => h y (by simp [hy]), h x (by simp), Nat.succ_mul]; omega
theorem qB' {L : Tx} {T : List (List Nat)} {A : List Nat} (hT : a3' T T.length L.length) (hn : T.length <= 400) (hL : L.length <= 100) (hA : AccOk A T.length) : xK' (ptD L T A) = true /\ dep (ptD L T A) <= 40 /\ t3' (ptD L T A) = true /\ rS' (ptD L T A) <= 200000 := by
  refine ⟨vl' (lh' L T A), Nat.le_trans (qC' L T A) (by decide), ?_, ?_⟩
  . show (true && (repIs (T.map bX') && (repIs (A.map fun t => D.int (t : Nat)) && true))) = true
    rw [hZ' (k := T.length) (by omega) (fun r hr => (hT.2 r hr).2), fm' (k := T.length) (by omega) hA.lt]; rfl
  . show L.length + 1 + (repWs (T.map bX') + 1 + (repWs (A.map fun t => D.int (t : Nat)) + 1 + 0)) <= 200000
    have h1 := hY' (T := T) (m := L.length) fun r hr => (hT.2 r hr).1
    have h2 := of' (hA.asc.imp fun h => Nat.ne_of_lt h) hA.lt
    have h3 : T.length * (L.length + 1) <= 400 * 101 := Nat.mul_le_mul hn (by omega)
    rw [h1, ed']
    omega
theorem uj' {w : W} {m : Nat} {C : String} {L : Tx} {T : List (List Nat)} {A : List Nat} (h : MM w m C L T A) : isC isT "Machine" w (.obj m) = some true := by
  obtain ⟨l, rest, _, e⟩ := h.ex
  show (match w[m]? with | some (.ins C _) => sub isT C "Machine" | _ => none) = some true
  rw [e]
  rcases h.cl with rfl | rfl
  . show sub isT "Machine" "Machine" = some true
    decide
  . show sub isT "RawMachine" "Machine" = some true
    decide
theorem eT' {w : W} {m : Nat} {C : String} {L : Tx} {T : List (List Nat)} {A : List Nat} {x : String} (h : MM w m C L T A) (hx : x ∉ ["kept_letters", "kept_table", "kept_accepts", "kept_least", "kept_field", "kept_lots", "kept_more"] := by decide) : iU' ["Machine", "RawMachine"] x w (.obj m) = true := by
  obtain ⟨l, rest, ⟨o1, o2, o3, rfl⟩, e⟩ := h.ex
  have hl : List.lookup x (("kept_letters", O.fz (.str L)) :: ("kept_table", .fz (co' T)) :: ("kept_accepts", .fz (cZ' A)) :: ("kept_least", .fz l) :: [("kept_field", o1), ("kept_lots", o2), ("kept_more", o3)]) = none := by
    simp only [List.mem_cons, List.not_mem_nil, or_false, not_or] at hx
    obtain ⟨h1, h2, h3, h4, h5, h6, h7⟩ := hx
    simp [List.lookup, beq_eq_false_iff_ne.mpr h1, beq_eq_false_iff_ne.mpr h2, beq_eq_false_iff_ne.mpr h3, beq_eq_false_iff_ne.mpr h4, beq_eq_false_iff_ne.mpr h5, beq_eq_false_iff_ne.mpr h6, beq_eq_false_iff_ne.mpr h7]
  show (match w[m]? with | some (.ins C' fs) => decide (C' ∈ ["Machine", "RawMachine"]) && (fs.lookup x).isNone | _ => false) = true
  rw [e]
  show (decide (C ∈ ["Machine", "RawMachine"]) && (List.lookup x _).isNone) = true
  rw [hl]
  rcases h.cl with rfl | rfl <;> rfl
theorem c6' {w : W} {m : Nat} {C : String} {L : Tx} {T : List (List Nat)} {A : List Nat} (h : MM w m C L T A) (hT : a3' T T.length L.length) (hn : T.length <= 400) (hL : L.length <= 100) (hA : AccOk A T.length) :
    wF (f__law_is_machine [.obj m, .str L, co' T, cZ' A] w) (fun o w' => o = .fz (.bl true) /\ w' = w) FX := by
  have e1 := uj' h
  have e2 := eT' (x := "letters") h
  have e3 := eT' (x := "table") h
  have e4 := eT' (x := "accepts") h
  obtain ⟨l, hm⟩ := h.mc
  have h1 := hm.fl
  have h2 := hm.ft
  have h3 := hm.fa
  unfold f__law_is_machine
  walk_at "f0"
  clear h hm
  walk_at "s"
  unfold f_Machine_letters
  walk_at "f"
  unfold f_Machine_table
  walk_at "f"
  unfold f_Machine_accepts
  walk_at "f"
  rw [show D.tup [.str L, co' T, cZ' A] = ptD L T A from rfl]
  rw [uu', nY' (qB' hT hn hL hA)]
  walk_at "s"
  rw [show D.tup [.str L, co' T, cZ' A] = ptD L T A from rfl]
  rw [uu', nY' (qB' hT hn hL hA)]
  rw [BP', nY' (jQ' _ (lh' L T A))]
  exact ⟨rfl, rfl⟩
theorem yM' {w : W} {m n : Nat} {C C' : String} {L : Tx} {T : List (List Nat)} {A : List Nat} (h : MM w m C L T A) (h' : MM w n C' L T A) :
    wF (f_Machine___eq__ [.obj m, .obj n] w) (fun o w' => o = .fz (.bl true) /\ w' = w) FX := by
  have e1 := uj' h'
  have e2 := eT' (x := "parts") h
  have e3 := eT' (x := "parts") h'
  obtain ⟨l, hm⟩ := h.mc
  obtain ⟨l', hm'⟩ := h'.mc
  have h1 := hm.fl
  have h2 := hm.ft
  have h3 := hm.fa
  have h1' := hm'.fl
  have h2' := hm'.ft
  have h3' := hm'.fa
  unfold f_Machine___eq__
  walk_at "f0"
  clear h hm h' hm'
  walk_at "s"
  unfold f_Machine_parts
  walk_at "f"
  walk_at "f"
  rw [show D.tup [.str L, co' T, cZ' A] = ptD L T A from rfl]
  rw [tl' _ (lh' L T A) (Nat.le_trans (qC' L T A) (by decide))]
  walk_at "s"
theorem ri' {ps : List (String × String)} {w : W} {m n : Nat} {C C' : String} {L L' : Tx} {T T' : List (List Nat)} {A A' : List Nat} (h : MM w m C L T A) (h' : MM w n C' L' T' A') (hp : (C, C') ∈ ps) : v1' ps w (.obj m) (.obj n) = true := by
  obtain ⟨l, rest, _, e⟩ := h.ex
  obtain ⟨l', rest', _, e'⟩ := h'.ex
  show (match w[m]?, w[n]? with | some (.ins C _), some (.ins C' _) => decide ((C, C') ∈ ps) | _, _ => false) = true
  rw [e, e']
  exact decide_eq_true hp
def c9' (L : Tx) (T' : List (List Nat)) (A' : List Nat) (P : Tx -> Prop) : Prop := ∃ U B c, a3' U U.length L.length /\ 1 <= U.length /\ IsLeast L U B c T' A' /\ ∀ z : Tx, (∀ a ∈ z, a ∈ L) -> (run L U 0 z ∈ B ↔ P z)
theorem c9'.uniq {L : Tx} {T1 T2 : List (List Nat)} {A1 A2 : List Nat} {P Q : Tx -> Prop} (hL : L.Nodup) (h1 : c9' L T1 A1 P) (h2 : c9' L T2 A2 Q) (h : ∀ z : Tx, (∀ a ∈ z, a ∈ L) -> (P z ↔ Q z)) : T1 = T2 /\ A1 = A2 := by
  obtain ⟨U1, B1, c1, a1, a2, a3, a4⟩ := h1
  obtain ⟨U2, B2, c2, b1, b2, b3, b4⟩ := h2
  exact IsLeast.lang hL a1 a2 b1 b2 a3 b3 fun z hz => by rw [a4 z hz, b4 z hz]; exact h z hz
theorem c9'.says {L : Tx} {T1 : List (List Nat)} {A1 : List Nat} {P : Tx -> Prop} (h1 : c9' L T1 A1 P) {z : Tx} (hz : ∀ a ∈ z, a ∈ L) : run L T1 0 z ∈ A1 ↔ P z := by
  obtain ⟨U1, B1, c1, a1, a2, a3, a4⟩ := h1
  rw [a3.run0 a1 a2 hz, a4 z hz]
theorem c9'.acc {L : Tx} {T1 : List (List Nat)} {A1 : List Nat} {P : Tx -> Prop} (h1 : c9' L T1 A1 P) : AccOk A1 T1.length := by
  obtain ⟨U1, B1, c1, a1, a2, a3, a4⟩ := h1
  exact a3.acc
theorem c9'.tab {L : Tx} {T1 : List (List Nat)} {A1 : List Nat} {P : Tx -> Prop} (h1 : c9' L T1 A1 P) : a3' T1 T1.length L.length := by
  obtain ⟨U1, B1, c1, a1, a2, a3, a4⟩ := h1
  exact a3.tab
theorem c9'.of {L : Tx} {T T' : List (List Nat)} {A A' : List Nat} {c : Nat -> Nat} {P : Tx -> Prop} (hT : a3' T T.length L.length) (hn : 1 <= T.length) (h : IsLeast L T A c T' A') (hp : ∀ z : Tx, (∀ a ∈ z, a ∈ L) -> (run L T 0 z ∈ A ↔ P z)) : c9' L T' A' P := ⟨T, A, c, hT, hn, h, hp⟩
theorem kn' {γ : Type} (f : γ -> D) : ∀ (l : List γ) (k : Nat), el' k (l.map f) = (l.zipIdx k).map fun p => .tup [.int (p.2 : Nat), f p.1]
  | [], _ => rfl
  | x :: r, k => by
    rw [List.map_cons, List.zipIdx_cons, List.map_cons]
    show D.tup [.int k, f x] :: el' (k + 1) (r.map f) = _
    rw [kn' f r]
def wV' (r : List Nat) : D := .lst (r.map fun t => .int (t : Nat))
theorem dM'.lst (T : List (List Nat)) : dM' (.lst (T.map wV')) T := fun s r h => by
  refine ⟨wV' r, ?_, rfl⟩
  show ati (T.map wV') (s : Int) = _
  rw [hd' (by omega), Int.toNat_natCast, List.getElem?_map, h]; rfl
theorem dO'.lst (A : List Nat) : dO' (wV' A) A := fun s => by
  have h := rv' (Q := fun d => d = .bl (decide (s ∈ A))) (s : Int) (A.map (Nat.cast : Nat -> Int))
  rw [List.map_map] at h
  have e : decide ((s : Int) ∈ A.map (Nat.cast : Nat -> Int)) = decide (s ∈ A) := by
    rw [decide_eq_decide, List.mem_map]
    constructor
    . rintro ⟨a, h, e⟩
      have : a = s := by omega
      exact this ▸ h
    . exact fun h => ⟨s, h, rfl⟩
  rw [e] at h
  have h2 : wD (pIn (.int (s : Nat)) (wV' A)) (fun d => d = .bl (decide (s ∈ A))) := by
    show wD (pIn (.int (s : Nat)) (.lst (A.map (D.int ∘ (Nat.cast : Nat -> Int))))) _
    rw [h]
  cases hp : pIn (.int (s : Nat)) (wV' A) with
  | none => rw [hp, ay'] at h2; exact h2.elim
  | some d => rw [hp, a7'] at h2; rw [h2]
theorem oK' {w : W} {n : Nat} {L : Tx} {m : Nat} (h : c0' w n) (hl : 1 <= L.length) (hl2 : L.length < 1000) (hm : m < 100000) : wF (f__law_word [.obj n, .str L, .int m] w) (fun o w' => ∃ s : Tx, o = .fz (.str s) /\ s.length = m /\ (∀ c ∈ s, c ∈ L) /\ c0' w' n /\ But n w w') FX := by
  unfold f__law_word
  walk_at "f"
  refine cQ' (fun k ρ => ∃ x w', ∃ s : Tx, ρ = ⟨[some (.fz (.obj n)), some (.fz (.str L)), some (.fz (.int m)), some (.fz (.str s)), x], w'⟩ /\ s.length = k /\ (∀ c ∈ s, c ∈ L) /\ c0' w' n /\ But n w w') ⟨_, _, _, rfl, rfl, by simp, h, But.refl⟩ ?_ ?_
  . rintro k _ hk ⟨x, w1, s, rfl, hs, hc, h1, b1⟩
    walk_at "s"
    refine (bB' h1 (by omega) (by omega)).mono ?_
    rintro _ w2 ⟨d, rfl, hd, h2, b2⟩
    walk_at "s"
    refine b3' (by omega) fun c hcL _ => ?_
    walk_at "s"
    exact ⟨_, _, s ++ [c], rfl, by simp [hs], by simpa [or_imp, forall_and] using ⟨hc, hcL⟩, h2, b1.trans b2⟩
  . rintro _ ⟨x, w1, s, rfl, hs, hc, h1, b1⟩
    walk_at "s"
    exact ⟨s, rfl, hs, hc⟩
structure St (w : W) (L : Tx) (T : List (List Nat)) (A : List Nat) : Prop where
  ok : WOk w
  hand : c0' w 0
  mac : MM w 1 "Machine" L T A
theorem St.evo {w w' : W} {L T A} (h : St w L T A) (hW : WOk w') (e : Evo w w') : St w' L T A := ⟨hW, e.hand _ h.hand, h.mac.evo e⟩
theorem St.but {w w' : W} {L T A} (h : St w L T A) (hh : c0' w' 0) (b : But 0 w w') : St w' L T A /\ Evo w w' := by
  obtain ⟨h1, h2⟩ := h.ok.but h.hand hh b
  exact ⟨h.evo h1 h2, h2⟩
theorem v8' {w : W} {L T A} {m : Int} (h : St w L T A) (h1 : 0 < m) (h2 : m < 1606938044258990275541962092341162602522202993782792835301376) : wF (f__law_draw [.obj 0, .int m] w) (fun o w' => ∃ d : Nat, o = .fz (.int (d : Nat)) /\ (d : Int) < m /\ St w' L T A /\ Evo w w') FX := by
  refine (bB' h.hand h1 h2).mono ?_
  rintro _ w1 ⟨d, rfl, hd, hh, b⟩
  exact ⟨d, rfl, hd, h.but hh b⟩
theorem uI' {w : W} {L : Tx} {T A} {L' : Tx} {m : Nat} (h : St w L T A) (hl : 1 <= L'.length) (hl2 : L'.length < 1000) (hm : m < 100000) : wF (f__law_word [.obj 0, .str L', .int m] w) (fun o w' => ∃ s : Tx, o = .fz (.str s) /\ s.length = m /\ (∀ c ∈ s, c ∈ L') /\ St w' L T A /\ Evo w w') FX := by
  refine (oK' h.hand hl hl2 hm).mono ?_
  rintro _ w1 ⟨s, rfl, h1, h2, hh, b⟩
  exact ⟨s, rfl, h1, h2, h.but hh b⟩
theorem u3' {w2 : W} {L : Tx} {T : List (List Nat)} {A : List Nat} (h2 : c0' w2 0) (hl2 : w2.length = 1) : St (w2 ++ [mkM "Machine" L T A .non cP']) L T A := by
  have hw0 : WOk w2 := by
    obtain ⟨a, b, c, d, e, f, _⟩ := h2
    match w2, hl2, f with
    | [x], _, f =>
      have : x = _ := Option.some.inj f
      subst this
      exact .one
  have := MM.new (w := w2) (C := "Machine") (L := L) (T := T) (A := A) (l := .non) (.inl rfl) Rs.z
  rw [hl2] at this
  exact ⟨hw0.mach.1, h2.snoc, this⟩
def Prt (L : Tx) (T1 : List (List Nat)) (A1 : List Nat) (T2 : List (List Nat)) (A2 : List Nat) (z : Tx) : Prop := ¬ (run L T1 0 z ∈ A1 ↔ run L T2 0 z ∈ A2)
def wM' (L : Tx) (T1 : List (List Nat)) (A1 : List Nat) (T2 : List (List Nat)) (A2 : List Nat) (d : D) : Prop :=
  (d = .non /\ ∀ z, (∀ c ∈ z, c ∈ L) -> ¬ Prt L T1 A1 T2 A2 z) \/ ∃ x, d = .str x /\ z5' L (Prt L T1 A1 T2 A2) x
theorem wM'.uniq {L : Tx} {T1 T2 U1 U2 : List (List Nat)} {A1 A2 B1 B2 : List Nat} {d e : D} (h1 : wM' L T1 A1 T2 A2 d) (h2 : wM' L U1 B1 U2 B2 e) (h : ∀ z, (∀ c ∈ z, c ∈ L) -> (Prt L T1 A1 T2 A2 z ↔ Prt L U1 B1 U2 B2 z)) : d = e := by
  rcases h1 with ⟨rfl, h1⟩ | ⟨x, rfl, h1⟩ <;> rcases h2 with ⟨rfl, h2⟩ | ⟨y, rfl, h2⟩
  . rfl
  . exact absurd ((h y h2.1).mpr h2.2.1) (h1 y h2.1)
  . exact absurd ((h x h1.1).mp h1.2.1) (h2 x h1.1)
  . rw [h1.uniq h2 h]
theorem uy' {γ : Type} (f : γ -> Bool) (F : List γ) : ((F.zipIdx.filter fun p => f p.1).map fun p => p.2) = kY' F f := by
  have : F.zipIdx = (List.range F.length).filterMap fun q => (F[q]?).map fun g => (g, q) := by
    have e : ∀ (l : List γ) (k : Nat), l.zipIdx k = (List.range l.length).filterMap fun q => (l[q]?).map fun g => (g, q + k) := by
      intro l
      induction l with
      | nil => intro k; rfl
      | cons a l ih =>
        intro k
        rw [List.zipIdx_cons, ih, List.length_cons, List.range_succ_eq_map, List.filterMap_cons]
        simp only [List.getElem?_cons_zero, Option.map_some, Nat.zero_add, List.filterMap_map]
        congr 2
        funext q
        simp [Nat.add_assoc, Nat.add_comm 1 k]
    have := e F 0
    simpa using this
  rw [this]
  unfold kY'
  have hx : ∀ l : List Nat, (∀ q ∈ l, q < F.length) -> ((l.filterMap fun q => (F[q]?).map fun g => (g, q)).filter fun p => f p.1).map (fun p => p.2) = l.filter fun q => ((F[q]?).map f).getD false := by
    intro l
    induction l with
    | nil => intro _; rfl
    | cons a l ih =>
      intro h
      have ha := h a (by simp)
      have e : F[a]? = some F[a] := List.getElem?_eq_getElem ha
      rw [List.filterMap_cons, e]
      simp only [Option.map_some, List.filter_cons]
      rw [e]
      simp only [Option.map_some, Option.getD_some]
      have ih := ih fun q hq => h q (by simp [hq])
      by_cases hf : f F[a] = true
      . simp only [hf, if_true, List.map_cons, ih]
      . have hf : f F[a] = false := by simpa using hf
        simp only [hf, Bool.false_eq_true, if_false, ih]
  exact hx _ fun q hq => List.mem_range.mp hq
theorem jg' {γ : Type} [DecidableEq γ] {L : Tx} {sx : γ -> Nat -> γ} {F : List γ} {g : γ} {j : Nat} (hj : j < L.length) : (L.take (j + 1)).map (fun c => ixo F (sx g c)) = (L.take j).map (fun c => ixo F (sx g c)) ++ [ixo F (sx g L[j])] := by
  rw [List.take_succ, List.getElem?_eq_getElem hj, List.map_append]; rfl
def flg (L : Tx) (T : List (List Nat)) (A : List Nat) (z : Tx) : List Bool := (List.range T.length).map fun q => decide (run L T q z.reverse ∈ A)
def bsx (L : Tx) (T : List (List Nat)) (g : List Bool) (c : Nat) : List Bool := (List.range T.length).map fun q => (g[stp L T q c]?).getD false
theorem lu' {L : Tx} {T : List (List Nat)} {A : List Nat} {z : Tx} {q : Nat} (h : q < T.length) : (flg L T A z)[q]? = some (decide (run L T q z.reverse ∈ A)) := by
  unfold flg
  rw [List.getElem?_map, List.getElem?_range h]; rfl
theorem gY' {L : Tx} {T : List (List Nat)} {A : List Nat} {z : Tx} : (flg L T A z).length = T.length := by simp [flg]
theorem wF' {L : Tx} {T : List (List Nat)} {A : List Nat} (hT : a3' T T.length L.length) {z : Tx} {c : Nat} (hc : c ∈ L) : bsx L T (flg L T A z) c = flg L T A (z ++ [c]) := by
  unfold bsx
  refine List.map_congr_left fun q hq => ?_
  obtain ⟨_, _, _, h3⟩ := hV' hT (List.mem_range.mp hq) hc
  rw [lu' h3, List.reverse_append, List.reverse_singleton, List.singleton_append, gd']
  rfl
theorem iR' {L : Tx} {T : List (List Nat)} {A : List Nat} (hT : a3' T T.length L.length) : ∀ (z y : Tx), (∀ c ∈ z, c ∈ L) -> sT' (bsx L T) (flg L T A y) z = flg L T A (y ++ z)
  | [], y, _ => by rw [List.append_nil]; rfl
  | c :: z, y, hz => by
    show sT' (bsx L T) (bsx L T (flg L T A y) c) z = _
    rw [wF' hT (hz c (by simp)), iR' hT z _ fun d hd => hz d (by simp [hd])]
    simp
theorem iC' {L : Tx} {T : List (List Nat)} {A : List Nat} (hT : a3' T T.length L.length) {g : List Bool} (h : Rch L (bsx L T) (flg L T A []) g) : ∃ z : Tx, (∀ c ∈ z, c ∈ L) /\ g = flg L T A z := by
  obtain ⟨z, hz, rfl⟩ := h
  exact ⟨z, hz, by rw [iR' hT z [] hz, List.nil_append]⟩
def rW' : Nat -> List (List Bool)
  | 0 => [[]]
  | n + 1 => (rW' n).map (false :: ·) ++ (rW' n).map (true :: ·)
theorem nU' : ∀ n : Nat, (rW' n).length = 2 ^ n
  | 0 => rfl
  | n + 1 => by
    show ((rW' n).map (false :: ·) ++ (rW' n).map (true :: ·)).length = _
    rw [List.length_append, List.length_map, List.length_map, nU' n, Nat.pow_succ]; omega
theorem nr' : ∀ (n : Nat) (g : List Bool), g.length = n -> g ∈ rW' n
  | 0, g, h => by
    have : g = [] := List.length_eq_zero_iff.mp h
    rw [this]; simp [rW']
  | n + 1, [], h => by simp at h
  | n + 1, b :: g, h => by
    have hg := nr' n g (by simpa using h)
    show (b :: g) ∈ (rW' n).map (false :: ·) ++ (rW' n).map (true :: ·)
    rw [List.mem_append]
    cases b
    . exact .inl (List.mem_map.mpr ⟨g, hg, rfl⟩)
    . exact .inr (List.mem_map.mpr ⟨g, hg, rfl⟩)
theorem rn' {L : Tx} {T : List (List Nat)} {A : List Nat} (hT : a3' T T.length L.length) (hl : T.length <= 6) : Few L (bsx L T) (flg L T A []) 64 :=
  um' (rW' T.length) (by rw [nU']; exact Nat.pow_le_pow_right (by decide) hl) fun g hg => by
    obtain ⟨z, _, rfl⟩ := iC' hT hg
    exact nr' _ _ gY'
theorem v5' {L : Tx} {T U : List (List Nat)} {A B : List Nat} {N : Nat} (hT : a3' T T.length L.length) (hL : L.Nodup) (hn : 1 <= T.length) (hr : reach T = List.range T.length) (hU : a3' U U.length L.length) (hu : 1 <= U.length) (hl : U.length <= N)
    (hs : ∀ z : Tx, (∀ c ∈ z, c ∈ L) -> (run L T 0 z ∈ A ↔ run L U 0 z.reverse ∈ B)) : Few L (bsx L T) (flg L T A []) N := by
  have hx : ∀ q, ∃ x : Tx, q < T.length -> (∀ c ∈ x, c ∈ L) /\ run L T 0 x = q := fun q => by
    by_cases h : q < T.length
    . obtain ⟨x, h1, h2⟩ := h0' hT hL hn T.length q (by show q ∈ reach T; rw [hr]; exact List.mem_range.mpr h)
      exact ⟨x, fun _ => ⟨h1, h2⟩⟩
    . exact ⟨[], fun q => absurd q h⟩
  obtain ⟨X, hX⟩ : ∃ X : Nat -> Tx, ∀ q, q < T.length -> (∀ c ∈ X q, c ∈ L) /\ run L T 0 (X q) = q := ⟨fun q => (hx q).choose, fun q => (hx q).choose_spec⟩
  refine um' ((List.range U.length).map fun s => (List.range T.length).map fun q => decide (run L U s (X q).reverse ∈ B)) (by simpa using hl) fun g hg => ?_
  obtain ⟨z, hz, rfl⟩ := iC' hT hg
  refine List.mem_map.mpr ⟨run L U 0 z, List.mem_range.mpr (t2' hU hu hz), ?_⟩
  unfold flg
  refine List.map_congr_left fun q hq => ?_
  obtain ⟨h1, h2⟩ := hX q (List.mem_range.mp hq)
  rw [decide_eq_decide, <- dP']
  have e := hs (X q ++ z.reverse) fun c hc => (List.mem_append.mp hc).elim (h1 c) (fun k => hz c (List.mem_reverse.mp k))
  rw [dP', h2, List.reverse_append, List.reverse_reverse] at e
  exact e.symm
def bsD (g : List Bool) : D := .tup (g.map .bl)
def isD (g : List Bool) : D := .tup (g.map fun b => .int (if b then 1 else 0))
theorem nI' : ∀ a b : List Bool, eqbs (a.map .bl) (b.map .bl) = decide (a = b)
  | [], [] => rfl
  | [], _ :: _ => rfl
  | _ :: _, [] => rfl
  | a :: l, b :: r => by
    simp only [List.map_cons, eqbs, eqb, nI' l r]
    rw [Bool.eq_iff_iff]
    simp
theorem nH' : ∀ a b : List Bool, eqbs (a.map fun b => .int (if b then 1 else 0)) (b.map fun b => .int (if b then 1 else 0)) = decide (a = b)
  | [], [] => rfl
  | [], _ :: _ => rfl
  | _ :: _, [] => rfl
  | a :: l, b :: r => by
    simp only [List.map_cons, eqbs, eqb, nH' l r]
    rw [Bool.eq_iff_iff]
    cases a <;> cases b <;> simp
theorem oi' : KeyE bsD := by
  refine ⟨fun a b => ?_, fun a => ?_, fun a => ?_, fun _ _ => rfl⟩
  . simp only [bsD, eqb, nI']
  . have : ∀ l : List Bool, kats (l.map .bl) = true := by intro l; induction l <;> simp_all [kats, kat]
    simp [bsD, kat, this]
  . have : ∀ l : List Bool, deps (l.map .bl) = 0 := by intro l; induction l <;> simp_all [deps, dep]
    simp [bsD, dep, this]
theorem keyIs : KeyE isD := by
  refine ⟨fun a b => ?_, fun a => ?_, fun a => ?_, fun _ _ => rfl⟩
  . simp only [isD, eqb, nH']
  . have : ∀ l : List Bool, kats (l.map fun b => .int (if b then 1 else 0)) = true := by intro l; induction l <;> simp_all [kats, kat]
    simp [isD, kat, this]
  . have : ∀ l : List Bool, deps (l.map fun b => .int (if b then 1 else 0)) = 0 := by intro l; induction l <;> simp_all [deps, dep]
    simp [isD, dep, this]
theorem ui' {g : List Bool} {t : Nat} (h : t < g.length) : pIx (bsD g) (.int (t : Nat)) = some (.bl ((g[t]?).getD false)) := by
  show ati (g.map D.bl) (t : Int) = _
  rw [hd' (by omega), Int.toNat_natCast, List.getElem?_map, List.getElem?_eq_getElem h]; rfl
theorem uh' {g : List Bool} {t : Nat} (h : t < g.length) : pIx (isD g) (.int (t : Nat)) = some (.int (if (g[t]?).getD false = true then 1 else 0)) := by
  show ati (g.map _) (t : Int) = _
  rw [hd' (by omega), Int.toNat_natCast, List.getElem?_map, List.getElem?_eq_getElem h]; rfl
theorem c8' {w : W} {m : Nat} {C : String} {L : Tx} {T : List (List Nat)} {A : List Nat} (hW : WOk w) (h : MM w m C L T A) (hP : Pt L T)
    (hF : ∀ c T' A', IsLeast L T A c T' A' -> Few L (bsx L T') (flg L T' A' []) 200) :
    wF (f_backward [.obj m] w) (fun o w' => ∃ k T' A', o = .fz (.obj k) /\ MM w' k "RawMachine" L T' A' /\ Pt L T' /\ c9' L T' A' (fun z => run L T 0 z.reverse ∈ A) /\ WOk w' /\ Evo w w') FX := by
  have k1 := lr' hW h hP
  unfold f_backward
  walk_at "f0"
  clear h hW
  walk_at "s"
  refine k1.mono ?_
  rintro _ w1 ⟨k, c, T', A', rfl, hI, hM, hW1, hE1⟩
  clear k1
  have hf := hF c T' A' hI
  have hP' := hP.least hI
  have hsays := fun z (hz : ∀ a ∈ z, a ∈ L) => hI.run0 hP.tab hP.ne (x := z) hz
  clear hF hP
  have hT := hP'.tab
  have hne := hP'.ne
  have hle := hP'.le
  have hll := hP'.ll
  obtain ⟨l, hm⟩ := hM.mc
  have h1 := hm.fl
  have h2 := hm.ft
  have h3 := hm.fa
  clear hm hI
  walk_at "s"
  refine gT' (fun q => D.bl (decide (q ∈ A'))) (by omega) ?_ ?_
  . intro q hq
    walk_at "s"
  walk_at "l"
  have e0 : D.tup ((List.range T'.length).map fun q => D.bl (decide (q ∈ A'))) = bsD (flg L T' A' []) := by
    unfold bsD flg
    rw [List.map_map]; rfl
  have ek : fM' true (bsD (flg L T' A' [])) (.int 0) = some (oe' bsD [flg L T' A' []]) := by
    show (if kat (bsD (flg L T' A' [])) = true /\ dep (bsD (flg L T' A' [])) <= 8 /\ sca (bsD (flg L T' A' [])) = false then some (O.dcx [bsD (flg L T' A' [])] [O.fz (.int 0)]) else none) = _
    rw [if_pos ⟨oi'.kat _, oi'.dep _, rfl⟩]
    simp [oe', dX, ixo]
  walk_at "s"
  clear ek e0
  have hflg := fun g => iC' (g := g) (A := A') hT
  generalize hg0 : flg L T' A' [] = g0 at *
  generalize hall : fI' L (bsx L T') g0 200 = F
  have hFl : F.length <= 200 := by rw [<- hall]; exact hf.len _
  refine dm' (fun mm ρ => ∃ j, mm = 201 - j /\ j <= (xbf L (bsx L T') g0 j).length /\ ∃ x7 x8 x9 x10 x12, ρ = ⟨[some (.fz (.obj m)), some (.fz (.obj k)), some (.fz (.int T'.length)), some (.fz (bsD g0)), some (.lst ((xbf L (bsx L T') g0 j).map fun g => .fz (bsD g))), some (oe' bsD (xbf L (bsx L T') g0 j)), some (.lst ((F.take j).map fun g => .fz (bX' (e6' L (bsx L T') F g)))), x7, x8, x9, x10, none, x12, none], w1⟩ /\ Pl x12) 201 (by decide) ⟨0, rfl, by simp, _, _, _, _, _, rfl, .inl rfl⟩ ?_
  rintro mm _ ⟨j, rfl, hj, x7, x8, x9, x10, x12, rfl, p12⟩
  have hpre := hf.pre j
  have hlen := hf.len j
  rw [hall] at hpre
  have hjF : j <= F.length := Nat.le_trans hj hpre.length_le
  have ltk : (F.take j).length = j := by rw [List.length_take]; omega
  walk_at "s"
  refine bq' (fun hlt => ?_) (fun hge => ?_)
  . have hjl : j < (xbf L (bsx L T') g0 j).length := by omega
    have hg : (xbf L (bsx L T') g0 j)[j]? = some (xbf L (bsx L T') g0 j)[j] := List.getElem?_eq_getElem hjl
    have hgF : F[j]? = some (xbf L (bsx L T') g0 j)[j] := by
      obtain ⟨G, eG⟩ := hpre
      rw [<- eG, List.getElem?_append_left hjl, hg]
    generalize (xbf L (bsx L T') g0 j)[j] = g at hg hgF
    have hgo := oI' hg
    have hpre1 := hf.pre (j + 1)
    have hlen1 := hf.len (j + 1)
    rw [hall] at hpre1
    have hgl : g.length = T'.length := by
      obtain ⟨z, _, rfl⟩ := hflg g (dl' j g (List.mem_of_getElem? hg))
      exact gY'
    have htk : F.take (j + 1) = F.take j ++ [g] := by rw [List.take_succ, hgF]; rfl
    walk_at "s"
    refine cQ' (fun i ρ => ∃ x9 x10 x12, ρ = ⟨[some (.fz (.obj m)), some (.fz (.obj k)), some (.fz (.int T'.length)), some (.fz (bsD g0)), some (.lst ((bW' (xbf L (bsx L T') g0 j) ((L.take i).map (bsx L T' g))).map fun g => .fz (bsD g))), some (oe' bsD (bW' (xbf L (bsx L T') g0 j) ((L.take i).map (bsx L T' g)))), some (.lst ((F.take j).map fun g => .fz (bX' (e6' L (bsx L T') F g)))), some (.fz (bsD g)), some (.lst (((L.take i).map fun c => ixo F (bsx L T' g c)).map fun q => .fz (.int (q : Nat)))), x9, x10, none, x12, none], w1⟩ /\ Pl x12) ⟨_, _, _, rfl, p12⟩ ?_ ?_
    . rintro i _ hi ⟨x9, x10, x12, rfl, p12⟩
      have hrow := fun q (hq : q < T'.length) => qi' hT hP'.nd hq hi
      have hgb := fun q (hq : q < T'.length) => ui' (g := g) (t := stp L T' q L[i]) (by rw [hgl]; exact (hrow q hq).2.2)
      have hpr : bW' (xbf L (bsx L T') g0 j) ((L.take (i + 1)).map (bsx L T' g)) = ins (bW' (xbf L (bsx L T') g0 j) ((L.take i).map (bsx L T' g))) (bsx L T' g L[i]) := by
        rw [List.take_succ, List.getElem?_eq_getElem hi, List.map_append]
        exact dE'
      have hprF : bW' (xbf L (bsx L T') g0 j) ((L.take (i + 1)).map (bsx L T' g)) <+: F := by
        refine List.IsPrefix.trans ?_ hpre1
        rw [hgo]
        have e : L.map (bsx L T' g) = (L.take (i + 1)).map (bsx L T' g) ++ (L.drop (i + 1)).map (bsx L T' g) := by rw [<- List.map_append, List.take_append_drop]
        unfold nxG
        rw [e, cb']
        exact cq'
      have hrs := jg' (F := F) (sx := bsx L T') (g := g) hi
      rw [hpr] at hprF ⊢
      rw [hrs]
      clear hpr hrs
      generalize hG : bW' (xbf L (bsx L T') g0 j) ((L.take i).map (bsx L T' g)) = G at hprF ⊢
      have hGl : G.length <= 200 := by
        have h1 := hprF.length_le
        have h2 := (li' (F := G) (x := bsx L T' g L[i])).length_le
        omega
      generalize hy : bsx L T' g L[i] = y at hprF ⊢
      have ey : D.tup ((List.range T'.length).map fun q => D.bl ((g[stp L T' q L[i]]?).getD false)) = bsD y := by
        rw [<- hy]
        unfold bsD bsx
        rw [List.map_map]; rfl
      have hrl : ((L.take i).map fun c => ixo F (bsx L T' g c)).length < 16777216 := by
        rw [List.length_map, List.length_take]; omega
      generalize (L.take i).map (fun c => ixo F (bsx L T' g c)) = rw0 at hrl ⊢
      generalize L[i] = ci at *
      clear hgo hpre hpre1 hlen hlen1 hgF hg hflg hall hG hy hf
      have q12 := p12.keep
      walk_at "s"
      refine gT' (fun q => D.bl ((g[stp L T' q ci]?).getD false)) (by omega) ?_ ?_
      . intro q hq
        have q1 := (hrow q hq).1
        have q2 := (hrow q hq).2.1
        have q3 := hgb q hq
        clear hrow hgb ey
        walk_at "s"
      walk_at "l"
      walk_at "s"
      clear ey hrow hgb
      by_cases hm : y ∈ G
      . have k1 := iP' oi' hm
        rw [b6' hm] at hprF ⊢
        have k2 : ixo F y = ixo G y := dD' hprF hm
        rw [k2]
        clear k2
        walk_at "s"
        exact ⟨_, _, _, by rw [List.map_append, List.map_cons, List.map_nil], p12⟩
      . have k1 := nv' oi' hm
        have k3 := qx' oi' hm (by omega)
        rw [bJ' hm] at hprF ⊢
        have k2 : ixo F y = G.length := by rw [dD' hprF (by simp), ek' hm]
        have k4 := iP' oi' (F := G ++ [y]) (k := y) (by simp)
        rw [ek' hm] at k4
        rw [k2]
        clear k2
        walk_at "s"
        exact ⟨_, _, _, by rw [List.map_append, List.map_cons, List.map_nil, List.map_append, List.map_cons, List.map_nil], p12⟩
    . rintro _ ⟨x9, x10, x12, rfl, p12⟩
      have hrs : (L.take L.length).map (fun c => ixo F (bsx L T' g c)) = e6' L (bsx L T') F g := by rw [List.take_length]; rfl
      have hxl : (e6' L (bsx L T') F g).length <= 1000 := by simp [e6']; exact hll
      have hG : bW' (xbf L (bsx L T') g0 j) ((L.take L.length).map (bsx L T' g)) = xbf L (bsx L T') g0 (j + 1) := by rw [List.take_length, hgo]; rfl
      rw [hrs, hG]
      have efr : D.tup (frzs ((e6' L (bsx L T') F g).map fun q => O.fz (D.int (q : Nat)))) = bX' (e6' L (bsx L T') F g) := by
        unfold bX'
        rw [cj', List.map_map]; rfl
      have hj2 : ((F.take j).map fun g => O.fz (bX' (e6' L (bsx L T') F g))).length < 16777216 := by rw [List.length_map, ltk]; omega
      have hj3 : j + 1 <= (xbf L (bsx L T') g0 (j + 1)).length := by
        have := (k0' (L := L) (sx := bsx L T') (g0 := g0) (j := j)).length_le
        omega
      have hno : ¬ ((200 : Int) < ((xbf L (bsx L T') g0 (j + 1)).length : Nat)) := by omega
      clear hgo hpre hpre1 hlen hgF hg hflg hall hG hf hrs
      walk_at "s"
      have etk : (F.take j).map (fun g => O.fz (bX' (e6' L (bsx L T') F g))) ++ [O.fz (bX' (e6' L (bsx L T') F g))] = (F.take (j + 1)).map fun g => O.fz (bX' (e6' L (bsx L T') F g)) := by
        rw [htk, List.map_append, List.map_cons, List.map_nil]
      rw [etk]
      exact ⟨201 - (j + 1), by omega, j + 1, rfl, hj3, _, _, _, _, _, rfl, p12⟩
  . have hFx : xbf L (bsx L T') g0 j = F := by rw [<- hall]; exact hf.all (by omega)
    have hjl : j = F.length := by
      have : F.length <= j := by rw [<- hFx]; omega
      omega
    have etk : F.take j = F := by rw [hjl, List.take_length]
    have hgl : ∀ g ∈ F, 0 < g.length := fun g hg => by
      obtain ⟨z, _, rfl⟩ := hflg g (dl' 200 g (by rw [<- hall] at hg; exact hg))
      rw [gY']; omega
    rw [hFx, etk]
    have efr : frzs (F.map fun g => O.fz (bsD g)) = F.map bsD := by rw [cj', List.map_map]; rfl
    have efr2 : D.tup (frzs (F.map fun g => O.fz (bX' (e6' L (bsx L T') F g)))) = co' (hO' L (bsx L T') F) := by
      unfold co' hO'
      rw [cj', List.map_map, List.map_map]; rfl
    clear hpre hlen hflg
    walk_at "s"
    rw [kn']
    refine q8' (f := fun p : List Bool × Nat => D.tup [.int (p.2 : Nat), bsD p.1]) (cs := F.zipIdx) (fun p => (p.1[0]?).getD false) (fun p => D.int (p.2 : Nat)) (by rw [List.length_zipIdx]; omega) ?_ ?_
    . rintro ⟨g, q⟩ hc
      have hgm : g ∈ F := by
        have := List.mem_map_of_mem (f := Prod.fst) hc
        rwa [List.zipIdx_map_fst] at this
      have hb := ui' (g := g) (t := 0) (hgl g hgm)
      have hb : pIx (bsD g) (.int 0) = some (.bl ((g[0]?).getD false)) := hb
      clear hgl hc
      walk_at "s"
      exact fun _ => trivial
    walk_at "l"
    have ez : (F.zipIdx.filter fun p => (p.1[0]?).getD false).map (fun p => D.int (p.2 : Nat)) = (kY' F fun g => (g[0]?).getD false).map fun q => D.int (q : Nat) := by
      have := congrArg (List.map fun q : Nat => D.int (q : Nat)) (uy' (fun g : List Bool => (g[0]?).getD false) F)
      rw [List.map_map] at this
      exact this
    rw [ez, show D.lst ((kY' F fun g => (g[0]?).getD false).map fun q => D.int (q : Nat)) = .lst ((kY' F fun g => (g[0]?).getD false).map fun q => D.int (q : Nat)) from rfl]
    have hPt : Pt L (hO' L (bsx L T') F) := by
      rw [<- hall]
      exact ⟨hf.tab, hP'.nd, hP'.ll, by rw [Few.tlen]; exact hf.ne, by rw [Few.tlen]; exact Nat.le_trans (hf.len _) (by decide)⟩
    have hrun : ∀ z : Tx, (∀ a ∈ z, a ∈ L) -> (run L (hO' L (bsx L T') F) 0 z ∈ kY' F (fun g => (g[0]?).getD false) ↔ run L T 0 z.reverse ∈ A) := fun z hz => by
      rw [<- hsays z.reverse fun a ha => hz a (List.mem_reverse.mp ha), <- hall, hf.says _ hz, <- hg0, iR' hT z [] hz, List.nil_append, lu' hne]
      simp
    have ea : D.tup ((kY' F fun g => (g[0]?).getD false).map fun q => D.int (q : Nat)) = cZ' (kY' F fun g => (g[0]?).getD false) := rfl
    generalize (kY' F fun g => (g[0]?).getD false) = AC at *
    generalize hO' L (bsx L T') F = TB at *
    clear hFx hjl etk ez hgl hall hg0 hsays hP' hf hT
    walk_at "s"
    refine (su' (A := AC) rfl).mono ?_
    rintro _ _ ⟨rfl, rfl⟩
    have hM1 := MM.new (w := w1) (C := "RawMachine") (L := L) (T := TB) (A := AC) (l := .non) (.inr rfl) Rs.z
    obtain ⟨hW2, hE2⟩ := hW1.mach (C := "RawMachine") (L := L) (T := TB) (A := AC)
    have key := lr' hW2 hM1 hPt
    clear hM1 hW2
    walk_at "s"
    refine key.mono ?_
    rintro _ w2 ⟨k2, c2, T2, A2, rfl, hI2, hM2, hW2, hE3⟩
    exact ⟨k2, T2, A2, rfl, hM2, hPt.least hI2, c9'.of hPt.tab hPt.ne hI2 hrun, hW2, (hE1.trans hE2).trans hE3⟩
theorem gU' {L : Tx} {T : List (List Nat)} {A : List Nat} {N : Nat} (hP : Pt L T) (hf : Few L (bsx L T) (flg L T A []) N) (hN : N <= 400) (w : W) :
    wF (f__law_turned [co' T, cZ' A, .int L.length] w) (fun o w' => (∃ T' A', c9' L T' A' (fun z => run L T 0 z.reverse ∈ A) /\ o = .fz (.tup [co' T', cZ' A'])) /\ w' = w) FX := by
  have hT := hP.tab
  have hne := hP.ne
  have hle := hP.le
  have hll := hP.ll
  unfold f__law_turned
  walk_at "f0"
  walk_at "s"
  refine gT' (fun q => D.int (if decide (q ∈ A) = true then 1 else 0)) (by omega) ?_ ?_
  . intro q hq
    walk_at "s"
  walk_at "l"
  have e0 : D.tup ((List.range T.length).map fun q => D.int (if decide (q ∈ A) = true then 1 else 0)) = isD (flg L T A []) := by
    unfold isD flg
    rw [List.map_map]; rfl
  have ek : fM' true (isD (flg L T A [])) (.int 0) = some (oe' isD [flg L T A []]) := by
    show (if kat (isD (flg L T A [])) = true /\ dep (isD (flg L T A [])) <= 8 /\ sca (isD (flg L T A [])) = false then some (O.dcx [isD (flg L T A [])] [O.fz (.int 0)]) else none) = _
    rw [if_pos ⟨keyIs.kat _, keyIs.dep _, rfl⟩]
    simp [oe', dX, ixo]
  walk_at "s"
  clear ek e0
  have hflg := fun g => iC' (g := g) (A := A) hT
  generalize hg0 : flg L T A [] = g0 at *
  generalize hall : fI' L (bsx L T) g0 N = F
  have hFl : F.length <= 400 := by rw [<- hall]; exact Nat.le_trans (hf.len _) hN
  refine dm' (fun mm ρ => ∃ j, mm = N + 1 - j /\ j <= (xbf L (bsx L T) g0 j).length /\ ∃ x7 x8 x9 x10, ρ = ⟨[some (.fz (co' T)), some (.fz (cZ' A)), some (.fz (.int L.length)), some (.lst ((xbf L (bsx L T) g0 j).map fun g => .fz (isD g))), some (oe' isD (xbf L (bsx L T) g0 j)), some (.lst ((F.take j).map fun g => .fz (bX' (e6' L (bsx L T) F g)))), some (.fz (.int (j : Nat))), x7, x8, x9, x10], w⟩ /\ Pl x8 /\ Pl x10) (N + 1) (by show N + 1 < 2 ^ 40; omega) ⟨0, rfl, by simp, _, _, _, _, rfl, .inl rfl, .inl rfl⟩ ?_
  rintro mm _ ⟨j, rfl, hj, x7, x8, x9, x10, rfl, p8, p10⟩
  have hpre := hf.pre j
  have hlen := hf.len j
  rw [hall] at hpre
  have hjF : j <= F.length := Nat.le_trans hj hpre.length_le
  have ltk : (F.take j).length = j := by rw [List.length_take]; omega
  have q8 := p8.keep
  have q10 := p10.keep
  walk_at "s"
  refine bq' (fun hlt => ?_) (fun hge => ?_)
  . have hjl : j < (xbf L (bsx L T) g0 j).length := by omega
    have hg : (xbf L (bsx L T) g0 j)[j]? = some (xbf L (bsx L T) g0 j)[j] := List.getElem?_eq_getElem hjl
    have hgF : F[j]? = some (xbf L (bsx L T) g0 j)[j] := by
      obtain ⟨G, eG⟩ := hpre
      rw [<- eG, List.getElem?_append_left hjl, hg]
    generalize (xbf L (bsx L T) g0 j)[j] = g at hg hgF
    have hgo := oI' hg
    have hpre1 := hf.pre (j + 1)
    have hlen1 := hf.len (j + 1)
    rw [hall] at hpre1
    have hgl : g.length = T.length := by
      obtain ⟨z, _, rfl⟩ := hflg g (dl' j g (List.mem_of_getElem? hg))
      exact gY'
    have htk : F.take (j + 1) = F.take j ++ [g] := by rw [List.take_succ, hgF]; rfl
    walk_at "s"
    refine cQ' (fun i ρ => ∃ x8 x9 x10, ρ = ⟨[some (.fz (co' T)), some (.fz (cZ' A)), some (.fz (.int L.length)), some (.lst ((bW' (xbf L (bsx L T) g0 j) ((L.take i).map (bsx L T g))).map fun g => .fz (isD g))), some (oe' isD (bW' (xbf L (bsx L T) g0 j) ((L.take i).map (bsx L T g)))), some (.lst ((F.take j).map fun g => .fz (bX' (e6' L (bsx L T) F g)))), some (.fz (.int (j : Nat))), some (.lst (((L.take i).map fun c => ixo F (bsx L T g c)).map fun q => .fz (.int (q : Nat)))), x8, x9, x10], w⟩ /\ Pl x8 /\ Pl x10) ⟨_, _, _, rfl, p8, p10⟩ ?_ ?_
    . rintro i _ hi ⟨x8, x9, x10, rfl, p8, p10⟩
      have hi : i < L.length := by omega
      have hrow := fun q (hq : q < T.length) => qi' hT hP.nd hq hi
      have hgb := fun q (hq : q < T.length) => uh' (g := g) (t := stp L T q L[i]) (by rw [hgl]; exact (hrow q hq).2.2)
      have hpr : bW' (xbf L (bsx L T) g0 j) ((L.take (i + 1)).map (bsx L T g)) = ins (bW' (xbf L (bsx L T) g0 j) ((L.take i).map (bsx L T g))) (bsx L T g L[i]) := by
        rw [List.take_succ, List.getElem?_eq_getElem hi, List.map_append]
        exact dE'
      have hprF : bW' (xbf L (bsx L T) g0 j) ((L.take (i + 1)).map (bsx L T g)) <+: F := by
        refine List.IsPrefix.trans ?_ hpre1
        rw [hgo]
        have e : L.map (bsx L T g) = (L.take (i + 1)).map (bsx L T g) ++ (L.drop (i + 1)).map (bsx L T g) := by rw [<- List.map_append, List.take_append_drop]
        unfold nxG
        rw [e, cb']
        exact cq'
      have hgG : (bW' (xbf L (bsx L T) g0 j) ((L.take i).map (bsx L T g)))[j]? = some g := by
        obtain ⟨G, eG⟩ := cq' (xs := (L.take i).map (bsx L T g)) (F := xbf L (bsx L T) g0 j)
        rw [<- eG, List.getElem?_append_left hjl, hg]
      have hrs := jg' (F := F) (sx := bsx L T) (g := g) hi
      rw [hpr] at hprF ⊢
      rw [hrs]
      clear hpr hrs
      generalize hG : bW' (xbf L (bsx L T) g0 j) ((L.take i).map (bsx L T g)) = G at hprF hgG ⊢
      have hGl : G.length <= 400 := by
        have h1 := hprF.length_le
        have h2 := (li' (F := G) (x := bsx L T g L[i])).length_le
        omega
      generalize hy : bsx L T g L[i] = y at hprF ⊢
      have ey : D.tup ((List.range T.length).map fun q => D.int (if (g[stp L T q L[i]]?).getD false = true then 1 else 0)) = isD y := by
        rw [<- hy]
        unfold isD bsx
        rw [List.map_map]; rfl
      have hrl : ((L.take i).map fun c => ixo F (bsx L T g c)).length < 16777216 := by
        rw [List.length_map, List.length_take]; omega
      generalize (L.take i).map (fun c => ixo F (bsx L T g c)) = rw0 at hrl ⊢
      generalize L[i] = ci at *
      clear hgo hpre hpre1 hlen hlen1 hgF hg hflg hall hG hy hf
      have q8 := p8.keep
      have q10 := p10.keep
      walk_at "s"
      refine gT' (fun q => D.int (if (g[stp L T q ci]?).getD false = true then 1 else 0)) (by omega) ?_ ?_
      . intro q hq
        have q1 := (hrow q hq).1
        have q2 := (hrow q hq).2.1
        have q3 := hgb q hq
        clear hrow hgb ey
        walk_at "s"
      walk_at "l"
      walk_at "s"
      clear ey hrow hgb
      by_cases hm : y ∈ G
      . have k1 := iP' keyIs hm
        rw [b6' hm] at hprF ⊢
        have k2 : ixo F y = ixo G y := dD' hprF hm
        rw [k2]
        clear k2 hgG
        walk_at "s"
        exact ⟨_, _, _, by rw [List.map_append, List.map_cons, List.map_nil], .inr ⟨_, rfl⟩, p10⟩
      . have k1 := nv' keyIs hm
        have k3 := qx' keyIs hm (by omega)
        rw [bJ' hm] at hprF ⊢
        have k2 : ixo F y = G.length := by rw [dD' hprF (by simp), ek' hm]
        have k4 := iP' keyIs (F := G ++ [y]) (k := y) (by simp)
        rw [ek' hm] at k4
        rw [k2]
        clear k2 hgG
        walk_at "s"
        exact ⟨_, _, _, by rw [List.map_append, List.map_cons, List.map_nil, List.map_append, List.map_cons, List.map_nil], .inr ⟨_, rfl⟩, p10⟩
    . rintro _ ⟨x8, x9, x10, rfl, p8, p10⟩
      have hrs : (L.take L.length).map (fun c => ixo F (bsx L T g c)) = e6' L (bsx L T) F g := by rw [List.take_length]; rfl
      have hxl : (e6' L (bsx L T) F g).length <= 1000 := by simp [e6']; exact hll
      have hG : bW' (xbf L (bsx L T) g0 j) ((L.take L.length).map (bsx L T g)) = xbf L (bsx L T) g0 (j + 1) := by rw [List.take_length, hgo]; rfl
      rw [hrs, hG]
      have efr : D.tup (frzs ((e6' L (bsx L T) F g).map fun q => O.fz (D.int (q : Nat)))) = bX' (e6' L (bsx L T) F g) := by
        unfold bX'
        rw [cj', List.map_map]; rfl
      have hj2 : ((F.take j).map fun g => O.fz (bX' (e6' L (bsx L T) F g))).length < 16777216 := by rw [List.length_map, ltk]; omega
      have hj3 : j + 1 <= (xbf L (bsx L T) g0 (j + 1)).length := by
        have := (k0' (L := L) (sx := bsx L T) (g0 := g0) (j := j)).length_le
        omega
      clear hgo hpre hpre1 hgF hg hflg hall hG hf hrs
      walk_at "s"
      have etk : (F.take j).map (fun g => O.fz (bX' (e6' L (bsx L T) F g))) ++ [O.fz (bX' (e6' L (bsx L T) F g))] = (F.take (j + 1)).map fun g => O.fz (bX' (e6' L (bsx L T) F g)) := by
        rw [htk, List.map_append, List.map_cons, List.map_nil]
      rw [etk]
      exact ⟨N + 1 - (j + 1), by omega, j + 1, rfl, hj3, _, _, _, _, rfl, p8, p10⟩
  . have hFx : xbf L (bsx L T) g0 j = F := by rw [<- hall]; exact hf.all (by omega)
    have hjl : j = F.length := by
      have : F.length <= j := by rw [<- hFx]; omega
      omega
    have etk : F.take j = F := by rw [hjl, List.take_length]
    have hgl : ∀ g ∈ F, 0 < g.length := fun g hg => by
      obtain ⟨z, _, rfl⟩ := hflg g (dl' N g (by rw [<- hall] at hg; exact hg))
      rw [gY']; omega
    rw [hFx, etk]
    have efr2 : D.tup (frzs (F.map fun g => O.fz (bX' (e6' L (bsx L T) F g)))) = co' (hO' L (bsx L T) F) := by
      unfold co' hO'
      rw [cj', List.map_map, List.map_map]; rfl
    clear hpre hlen hflg
    walk_at "s"
    refine q6' (fun q => ((F[q]?).map fun g => (g[0]?).getD false).getD false) (fun q => D.int (q : Nat)) (by omega) ?_ ?_
    . intro q hq
      have hqF : q < F.length := by omega
      have e1 : F[q]? = some F[q] := List.getElem?_eq_getElem hqF
      have hb := uh' (g := F[q]) (t := 0) (hgl _ (List.getElem_mem hqF))
      have hb : pIx (isD F[q]) (.int 0) = some (.int (if ((F[q])[0]?).getD false = true then 1 else 0)) := hb
      generalize F[q] = g at e1 hb
      have e2 : ((F.map fun g => O.fz (isD g))[q]?) = some (.fz (isD g)) := by rw [List.getElem?_map, e1]; rfl
      rw [e1]
      have e3 : decide ((if (g[0]?).getD false = true then (1 : Int) else 0) = 1) = (g[0]?).getD false := by
        cases (g[0]?).getD false <;> rfl
      clear hgl
      walk_at "s"
      exact ⟨rfl, fun _ => trivial⟩
    walk_at "l"
    have ez : ((List.range F.length).filter fun q => ((F[q]?).map fun g => (g[0]?).getD false).getD false).map (fun q => D.int (q : Nat)) = (kY' F fun g => (g[0]?).getD false).map fun q => D.int (q : Nat) := rfl
    rw [ez]
    have hPt : Pt L (hO' L (bsx L T) F) := by
      rw [<- hall]
      exact ⟨hf.tab, hP.nd, hP.ll, by rw [Few.tlen]; exact hf.ne, by rw [Few.tlen]; exact Nat.le_trans (hf.len _) hN⟩
    have hrun : ∀ z : Tx, (∀ a ∈ z, a ∈ L) -> (run L (hO' L (bsx L T) F) 0 z ∈ kY' F (fun g => (g[0]?).getD false) ↔ run L T 0 z.reverse ∈ A) := fun z hz => by
      rw [<- hall, hf.says _ hz, <- hg0, iR' hT z [] hz, List.nil_append, lu' hne]
      simp
    have ea : D.tup ((kY' F fun g => (g[0]?).getD false).map fun q => D.int (q : Nat)) = cZ' (kY' F fun g => (g[0]?).getD false) := rfl
    generalize (kY' F fun g => (g[0]?).getD false) = AC at *
    generalize hO' L (bsx L T) F = TB at *
    clear hFx hjl etk ez hgl hall hg0 hP hf hT
    walk_at "s"
    refine (d5' (dM'.tab TB) (dO'.acc AC) hPt.tab hPt.nd hPt.ll hPt.ne (Nat.le_trans hPt.le (by decide)) w).mono ?_
    rintro _ _ ⟨⟨c, T1, A1, hI, rfl⟩, rfl⟩
    exact ⟨⟨T1, A1, c9'.of hPt.tab hPt.ne hI hrun, rfl⟩, rfl⟩
theorem law_true (ns : List Int) (hl : ns.length <= 63) : ∃ w, f_law [.scr (ns.map .int)] [] = .ok (.fz (.bl true)) w := by
  suffices h : wF (f_law [.scr (ns.map .int)] []) (fun o _ => o = .fz (.bl true)) FX by
    obtain ⟨o, w, e, rfl⟩ := h.exi
    exact ⟨w, e⟩
  unfold f_law
  walk_at "f"
  refine (rl' hl).mono ?_
  rintro _ w1 ⟨rfl, h1, hl1, -⟩
  change c0' w1 0 at h1
  walk_at "s"
  refine (jW' (most := 4) (states := 6) h1 (by omega) (by omega) (by omega) (by omega)).mono ?_
  rintro _ w2 ⟨L, T, A, rfl, hM, h2, b2⟩
  have hl2 : w2.length = 1 := b2.1.trans hl1
  have hP : Pt L T := hM.pt (by decide) (by decide)
  have hAc := hM.acc
  have hT := hM.tab
  have hn6 := hM.le
  have hLet := hM.let'
  clear h1 b2
  walk_at "s"
  refine (yc' hl2 hM (by omega)).mono ?_
  rintro _ _ ⟨rfl, rfl⟩
  have hst : St (w2 ++ [mkM "Machine" L T A .non cP']) L T A := u3' h2 hl2
  rw [hl2]
  generalize w2 ++ [mkM "Machine" L T A .non cP'] = w3 at hst
  clear h2 hl2 hl1 w2 hM
  have hLn := hLet.ne
  have hLm := hLet.le
  have hbk : ∀ c T' A', IsLeast L T A c T' A' -> Few L (bsx L T') (flg L T' A' []) 200 := fun c T' A' hI => (rn' hI.tab (Nat.le_trans hI.le hn6)).mono (by decide)
  walk_at "s"
  refine (gU' (A := A) hP (rn' hT hn6) (by decide) w3).mono ?_
  rintro _ _ ⟨⟨T1, A1, hC1, rfl⟩, rfl⟩
  rename_i w3
  walk_at "s"
  refine (c8' hst.ok hst.mac hP hbk).mono ?_
  rintro _ w4 ⟨k, T2, A2, rfl, hM2, hP2, hC2, hW2, hE2⟩
  obtain ⟨e1, e2⟩ := hC1.uniq hP.nd hC2 fun _ _ => Iff.rfl
  subst e1 e2
  have s4 := hst.evo hW2 hE2
  clear hst hE2 hW2
  walk_at "s"
  refine (c6' hM2 hP2.tab hP2.le (by omega) hC2.acc).mono ?_
  rintro _ _ ⟨rfl, rfl⟩
  rename_i w4
  walk_at "s"
  refine (d5' (dM'.tab T) (dO'.acc A) hP.tab hP.nd hP.ll hP.ne (Nat.le_trans hP.le (by decide)) w4).mono ?_
  rintro _ _ ⟨⟨c3, T3, A3, hI3, rfl⟩, rfl⟩
  rename_i w4
  have hC3 : c9' L T3 A3 (fun z => run L T 0 z ∈ A) := c9'.of hP.tab hP.ne hI3 fun _ _ => Iff.rfl
  have hbk2 : ∀ c T' A', IsLeast L T1 A1 c T' A' -> Few L (bsx L T') (flg L T' A' []) 200 := fun c T' A' hI =>
    (v5' (N := 6) (U := T) (B := A) hI.tab hP.nd hI.ne hI.reach hT hP.ne hn6 fun z hz => by rw [hI.run0 hP2.tab hP2.ne hz]; exact hC2.says hz).mono (by decide)
  have hrr : ∀ z : Tx, (∀ a ∈ z, a ∈ L) -> (run L T1 0 z.reverse ∈ A1 ↔ run L T 0 z ∈ A) := fun z hz => by
    rw [hC2.says fun a ha => hz a (List.mem_reverse.mp ha), List.reverse_reverse]
  clear hI3
  walk_at "s"
  refine (c8' s4.ok hM2 hP2 hbk2).mono ?_
  rintro _ w5 ⟨k5, T5, A5, rfl, hM5, hP5, hC5, hW5, hE5⟩
  obtain ⟨e1, e2⟩ := hC3.uniq hP.nd hC5 fun z hz => (hrr z hz).symm
  subst e1 e2
  have s5 := s4.evo hW5 hE5
  have hM2' := hM2.evo hE5
  clear s4 hE5 hW5 hM2
  walk_at "s"
  refine (c6' hM5 hP5.tab hP5.le (by omega) hC5.acc).mono ?_
  rintro _ _ ⟨rfl, rfl⟩
  rename_i w5
  clear hM5
  walk_at "s"
  refine (c8' s5.ok hM2' hP2 hbk2).mono ?_
  rintro _ w6 ⟨k6, T6, A6, rfl, hM6, hP6, hC6, hW6, hE6⟩
  obtain ⟨e1, e2⟩ := hC5.uniq hP.nd hC6 fun _ _ => Iff.rfl
  subst e1 e2
  have s6 := s5.evo hW6 hE6
  have hM3 := hM2'.evo hE6
  clear s5 hE6 hW6 hM2' hbk2
  walk_at "s"
  refine (lr' s6.ok s6.mac hP).mono ?_
  rintro _ w7 ⟨k7, c7, T7, A7, rfl, hI7, hM7, hW7, hE7⟩
  have hC7 : c9' L T7 A7 (fun z => run L T 0 z ∈ A) := c9'.of hP.tab hP.ne hI7 fun _ _ => Iff.rfl
  obtain ⟨e1, e2⟩ := hC3.uniq hP.nd hC7 fun _ _ => Iff.rfl
  subst e1 e2
  have s7 := s6.evo hW7 hE7
  have hM4 := hM3.evo hE7
  have hM6' := hM6.evo hE7
  clear s6 hE7 hW7 hM3 hM6
  walk_at "s"
  refine ⟨ri' hM6' hM7 (by decide), ?_⟩
  refine (yM' hM6' hM7).mono ?_
  rintro _ _ ⟨rfl, rfl⟩
  rename_i w7
  refine ⟨_, rfl, ?_⟩
  clear hM6' hM7
  walk_at "s"
  refine cQ' (fun j ρ => ∃ x9 x10 w', ρ = ⟨[some (.fz (.scr (ns.map .int))), some (.fz (.obj 0)), some (.fz (.str L)), some (.fz (co' T)), some (.fz (cZ' A)), some (.fz (.obj 1)), some (.fz (co' T3)), some (.fz (cZ' A3)), some (.fz (.obj k)), x9, x10], w'⟩ /\ St w' L T A /\ MM w' k "RawMachine" L T1 A1) ⟨_, _, _, rfl, s7, hM4⟩ ?_ ?_
  . clear s7 hM4 w7
    rintro j _ hj ⟨x9, x10, w8, rfl, s8, hM8⟩
    walk_at "s"
    refine (v8' s8 (by omega) (by omega)).mono ?_
    rintro _ w9 ⟨n1, rfl, hn1, s9, e9⟩
    have hM9 := hM8.evo e9
    clear s8 hM8 e9
    walk_at "s"
    refine (uI' s9 hLn (by omega) (by omega)).mono ?_
    rintro _ w10 ⟨z, rfl, lz, hz, s10, e10⟩
    have hM10 := hM9.evo e10
    clear s9 hM9 e10
    walk_at "s"
    refine (qd' hM10 hP2 hz).mono ?_
    rintro _ _ ⟨rfl, rfl⟩
    rename_i w10
    walk_at "s"
    refine (qd' s10.mac hP (fun c hc => hz c (List.mem_reverse.mp hc))).mono ?_
    rintro _ _ ⟨rfl, rfl⟩
    rename_i w10
    have esay : decide (run L T1 0 z ∈ A1) = decide (run L T 0 z.reverse ∈ A) := by
      rw [decide_eq_decide, hC2.says hz]
    rw [esay]
    clear esay
    walk_at "s"
    exact ⟨_, _, _, rfl, s10, hM10⟩
  . rintro _ ⟨x9, x10, w8, rfl, s8, hM8⟩
    walk_at "s"
    refine (c6' s8.mac hT (by omega) (by omega) hAc).mono ?_
    rintro _ _ ⟨rfl, rfl⟩
    rename_i w8
    walk_at "s"
    refine (c8' s8.ok s8.mac hP hbk).mono ?_
    rintro _ w9 ⟨k9, T9, A9, rfl, hM9, hP9, hC9, hW9, hE9⟩
    obtain ⟨e1, e2⟩ := hC2.uniq hP.nd hC9 fun _ _ => Iff.rfl
    subst e1 e2
    have hM8' := hM8.evo hE9
    walk_at "s"
    refine ⟨ri' hM9 hM8' (by decide), ?_⟩
    refine (yM' hM9 hM8').mono ?_
    rintro _ _ ⟨rfl, rfl⟩
    refine ⟨_, rfl, ?_⟩
    walk_at "s"
end
end M
namespace S
open PySem PySem.Spec PyProof.Rows L2
section
variable [Wd] {K : PySem.W.Frag} {mg : Str -> Option Value} {base : Heap}
theorem iH' (C : Ctx Wd.w K mg) : Og Wd.P Wd.w K mg base 1 "is_integer" ["thing"] (spM K M.f_is_integer) := by
  obtain ⟨fd, F⟩ := C.f_is_integer
  exact ⟨fd, okM F ix' rfl rfl (fun cdv A outer s H E hr =>
    (af' (aH' (bf' (m7' (jO' "int" (by decide) rfl (C.free_isinstance) (by decide +kernel) (ac' (pv 0)) (pe_bltn (v := .ty "int") rfl (C.free_int) (by decide +kernel) rfl)) (m6' (xA' (jO' "bool" (by decide) rfl (C.free_isinstance) (by decide +kernel) (ac' (pv 0)) (pe_bltn (v := .ty "bool") rfl (C.free_bool) (by decide +kernel) rfl))))))))), kO' F, F.kp, C.g_is_integer⟩
theorem dx' (C : Ctx Wd.w K mg) : Og Wd.P Wd.w K mg base 1 "is_string_of" ["thing", "signs"] (spM K M.f_is_string_of) := by
  obtain ⟨fd, F⟩ := C.f_is_string_of
  exact ⟨fd, okM F dr' rfl rfl (fun cdv A outer s H E hr =>
    (ab' (bv' (cx' (mZ' (jO' "str" (by decide) rfl (C.free_isinstance) (by decide +kernel) (ac' (pv 0)) (pe_bltn (v := .ty "str") rfl (C.free_str) (by decide +kernel) rfl)))) (af' (aH' (bf' dq'))) aR')
      (ab' (bG' (passes_of rfl) rfl (bT' (ac' (pv 0))) (cf' 2 dr'.nd rfl (by walk_at "1") (by walk_at "2")) (af' (bv' (a4' jZ' qL' (by rfl) (ac' (pv 2)) (ac' (pv 1))) (af' (aH' (bf' dq'))) aR')))
      (af' (aH' (bf' dq')))))), hF' F, F.kp, C.g_is_string_of⟩
theorem dy' (C : Ctx Wd.w K mg) : Og Wd.P Wd.w K mg base 1 "is_ascending" ["thing"] (spM K M.f_is_ascending) := by
  obtain ⟨fd, F⟩ := C.f_is_ascending
  exact ⟨fd, okM F cB' rfl rfl (fun cdv A outer s H E hr =>
    (ab' (bG' (passes_of rfl) rfl (xz' rfl (C.free_zip) (ac' (pv 0)) (vb' AB' A2' (ac' (pv 0)) (u5' ae') u6')) (wP' (n := 2) rfl rfl rfl rfl (bK' rfl (cf' 1 cB'.nd rfl (by walk_at "1") (by walk_at "2")) (bK' rfl (cf' 2 cB'.nd rfl (by walk_at "1") (by walk_at "2")) fk'))) (af' (bv' (a4' nn' z0' (nomark _) (ac' (pv 1)) (ac' (pv 2))) (af' (aH' (bf' dq'))) aR')))
      (af' (aH' (bf' dq'))))), hG' F, F.kp, C.g_is_ascending⟩
theorem j0' (C : Ctx Wd.w K mg) : Og Wd.P Wd.w K mg base 2 "is_choice" ["thing", "signs"] (spM K M.f_is_choice) := by
  obtain ⟨fd, F⟩ := C.f_is_choice
  exact ⟨fd, okM F jP' rfl rfl (fun cdv A outer s H E hr =>
    (af' (aH' (bf' (m7' (cF' (aj' (dx' C) (hr.mono (by walk_at "4")) rfl (takes_of rfl rfl rfl rfl) (aa' (ac' (pv 0)) (aa' (ac' (pv 1)) ai')))) (m6' (cF' (aj' (dy' C) (hr.mono (by walk_at "4")) rfl (takes_of rfl rfl rfl rfl) (aa' (ac' (pv 0)) ai'))))))))), lP' F, F.kp, C.g_is_choice⟩
theorem oa' (C : Ctx Wd.w K mg) : Og Wd.P Wd.w K mg base 2 "is_word" ["machine", "thing"] (spM K M.f_is_word) := by
  obtain ⟨fd, F⟩ := C.f_is_word
  exact ⟨fd, okM F n4' rfl rfl (fun cdv A outer s H E hr =>
    (af' (aH' (aj' (dx' C) (hr.mono (by walk_at "4")) rfl (takes_of rfl rfl rfl rfl) (aa' (ac' (pv 1)) (aa' (bw' ["Machine", "RawMachine"] (ac' (pv 0)) C.at_kept_letters) ai')))))), rJ' F, F.kp, C.g_is_word⟩
theorem iI' (C : Ctx Wd.w K mg) : Og Wd.P Wd.w K mg base 3 "check_word" ["machine", "thing"] (spM K M.f_check_word) := by
  obtain ⟨fd, F⟩ := C.f_check_word
  exact ⟨fd, okM F iy' rfl rfl (fun cdv A outer s H E hr =>
    (af' (bv' (cx' (mZ' (cF' (aj' (oa' C) (hr.mono (by walk_at "4")) rfl (takes_of rfl rfl rfl rfl) (aa' (ac' (pv 0)) (aa' (ac' (pv 1)) ai')))))) (af' (sc' rfl (takes_of rfl rfl rfl rfl) (sz' PySem.F.excBase_ValueError C.x_NoWord C.g_NoWord C.k_NoWord C.r_NoWord rfl))) aR'))), kP' F, F.kp, C.g_check_word⟩
theorem eL' (C : Ctx Wd.w K mg) : Og Wd.P Wd.w K mg base 2 "are_states" ["thing", "many"] (spM K M.f_are_states) := by
  obtain ⟨fd, F⟩ := C.f_are_states
  exact ⟨fd, okM F eC' rfl rfl (fun cdv A outer s H E hr =>
    (ab' (bv' (cx' (mZ' (jO' "tuple" (by decide) rfl (C.free_isinstance) (by decide +kernel) (ac' (pv 0)) (pe_bltn (v := .ty "tuple") rfl (C.free_tuple) (by decide +kernel) rfl)))) (af' (aH' (bf' dq'))) aR')
      (ab' (bG' (passes_of rfl) rfl (bT' (ac' (pv 0))) (cf' 2 eC'.nd rfl (by walk_at "1") (by walk_at "2")) (af' (bv' (tY' (k4' (cx' (mZ' (cF' (aj' (iH' C) (hr.mono (by walk_at "4")) rfl (takes_of rfl rfl rfl rfl) (aa' (ac' (pv 2)) ai'))))) (k4' (a4' gJ' vF' (nomark _) (ac' (pv 2)) ae') (hU' (a4' nn' z0' (nomark _) (ac' (pv 2)) (ac' (pv 1))))))) (af' (aH' (bf' dq'))) aR')))
      (af' (aH' (bf' dq')))))), kQ' F, F.kp, C.g_are_states⟩
theorem lj' (C : Ctx Wd.w K mg) : Og Wd.P Wd.w K mg base 3 "is_table" ["thing", "letters"] (spM K M.f_is_table) := by
  obtain ⟨fd, F⟩ := C.f_is_table
  exact ⟨fd, okM F gz' rfl rfl (fun cdv A outer s H E hr =>
    (ab' (bv' (tY' (k4' (cx' (mZ' (jO' "tuple" (by decide) rfl (C.free_isinstance) (by decide +kernel) (ac' (pv 0)) (pe_bltn (v := .ty "tuple") rfl (C.free_tuple) (by decide +kernel) rfl)))) (hU' (cx' (m0' nl' zY' nl' zY' ae' (cz' (aV' ⟨rfl, rfl⟩) dh' rfl (C.free_len) (by decide +kernel) (ac' (pv 0))) ae'))))) (af' (aH' (bf' dq'))) aR')
      (ab' (bG' (passes_of rfl) rfl (bT' (ac' (pv 0))) (cf' 2 gz'.nd rfl (by walk_at "1") (by walk_at "2")) (af' (bv' (tY' (k4' (cx' (mZ' (cF' (aj' (eL' C) (hr.mono (by walk_at "4")) rfl (takes_of rfl rfl rfl rfl) (aa' (ac' (pv 2)) (aa' (cz' (aV' ⟨rfl, rfl⟩) dh' rfl (C.free_len) (by decide +kernel) (ac' (pv 0))) ai')))))) (hU' (a4' (ub' hr.units) Cp' (nomark _) (cz' (aV' ⟨rfl, rfl⟩) dh' rfl (C.free_len) (by decide +kernel) (ac' (pv 2))) (cz' (aV' ⟨rfl, rfl⟩) dh' rfl (C.free_len) (by decide +kernel) (ac' (pv 1))))))) (af' (aH' (bf' dq'))) aR')))
      (af' (aH' (bf' dq')))))), oA' F, F.kp, C.g_is_table⟩
theorem dA' (C : Ctx Wd.w K mg) : OgM Wd.P Wd.w K mg base 1 (He.ga K "Machine") "keep" ["self", "letters", "table", "accepts"] (spM K M.f_Machine_keep) := by
  obtain ⟨fd, F⟩ := C.f_Machine_keep
  exact ⟨fd, okM F gA' rfl rfl (fun cdv A outer s H E hr =>
    (ab' (ev' ["Machine", "RawMachine"] (ac' (pv 0)) (bf' (ac' (pv 1))) C.at_kept_letters)
      (ab' (ev' ["Machine", "RawMachine"] (ac' (pv 0)) (bf' (ac' (pv 2))) C.at_kept_table)
      (ab' (ev' ["Machine", "RawMachine"] (ac' (pv 0)) (bf' (ac' (pv 3))) C.at_kept_accepts)
      (ab' (ev' ["Machine", "RawMachine"] (ac' (pv 0)) (bf' p8') C.at_kept_least)
      (ab' (ev' ["Machine", "RawMachine"] (ac' (pv 0)) (bf' p8') C.at_kept_field)
      (ab' (ev' ["Machine", "RawMachine"] (ac' (pv 0)) dp' C.at_kept_lots)
      (af' (ev' ["Machine", "RawMachine"] (ac' (pv 0)) dp' C.at_kept_more))))))))), hK' F⟩
theorem eg' (C : Ctx Wd.w K mg) : OgM Wd.P Wd.w K mg base 4 (He.ga K "Machine") "__init__" ["self", "letters", "table", "accepts"] (spM K M.f_Machine___init__) := by
  obtain ⟨fd, F⟩ := C.f_Machine___init__
  exact ⟨fd, okM F ec' rfl rfl (fun cdv A outer s H E hr =>
    (ab' (bv' (tY' (k4' (cx' (mZ' (cF' (aj' (j0' C) (hr.mono (by walk_at "4")) rfl (takes_of rfl rfl rfl rfl) (aa' (ac' (pv 1)) (aa' (Cd' (vt' rfl C.c_SMALL) fun _ _ => yF' (by decide +kernel) (by decide +kernel)) ai')))))) (hU' (cx' (m0' nl' zY' nl' zY' ae' (cz' (aV' ⟨rfl, rfl⟩) dh' rfl (C.free_len) (by decide +kernel) (ac' (pv 1))) ae'))))) (af' iw') aR')
      (ab' (bv' (cx' (mZ' (cF' (aj' (lj' C) (hr.mono (by walk_at "4")) rfl (takes_of rfl rfl rfl rfl) (aa' (ac' (pv 2)) (aa' (ac' (pv 1)) ai')))))) (af' iw') aR')
      (ab' (bv' (tY' (k4' (cx' (mZ' (cF' (aj' (eL' C) (hr.mono (by walk_at "4")) rfl (takes_of rfl rfl rfl rfl) (aa' (ac' (pv 3)) (aa' (cz' (aV' ⟨rfl, rfl⟩) dh' rfl (C.free_len) (by decide +kernel) (ac' (pv 2))) ai')))))) (hU' (cx' (mZ' (cF' (aj' (dy' C) (hr.mono (by walk_at "4")) rfl (takes_of rfl rfl rfl rfl) (aa' (ac' (pv 3)) ai')))))))) (af' iw') aR')
      (af' (iv' (cF' (p3' (ac' (pv 0)) (dA' C) (hr.mono (by decide)) C.ml_Machine_keep (takes_of rfl rfl rfl rfl) (aa' (ac' (pv 1)) (aa' (ac' (pv 2)) (aa' (ac' (pv 3)) ai'))))))))))), e2' F⟩
theorem eN' (C : Ctx Wd.w K mg) : OgM Wd.P Wd.w K mg base 1 (He.ga K "Machine") "letters" ["self"] (spM K M.f_Machine_letters) := by
  obtain ⟨fd, F⟩ := C.f_Machine_letters
  exact ⟨fd, okM F eE' rfl rfl (fun cdv A outer s H E hr =>
    (af' (aH' (bf' (bw' ["Machine", "RawMachine"] (ac' (pv 0)) C.at_kept_letters))))), fD' F⟩
theorem f4' (C : Ctx Wd.w K mg) : OgM Wd.P Wd.w K mg base 1 (He.ga K "Machine") "table" ["self"] (spM K M.f_Machine_table) := by
  obtain ⟨fd, F⟩ := C.f_Machine_table
  exact ⟨fd, okM F fZ' rfl rfl (fun cdv A outer s H E hr =>
    (af' (aH' (bf' (bw' ["Machine", "RawMachine"] (ac' (pv 0)) C.at_kept_table))))), g8' F⟩
end
end S
namespace S
open PySem PySem.Spec PyProof.Rows L2
section
variable [Wd] {K : PySem.W.Frag} {mg : Str -> Option Value} {base : Heap}
theorem eO' (C : Ctx Wd.w K mg) : OgM Wd.P Wd.w K mg base 1 (He.ga K "Machine") "accepts" ["self"] (spM K M.f_Machine_accepts) := by
  obtain ⟨fd, F⟩ := C.f_Machine_accepts
  exact ⟨fd, okM F eF' rfl rfl (fun cdv A outer s H E hr =>
    (af' (aH' (bf' (bw' ["Machine", "RawMachine"] (ac' (pv 0)) C.at_kept_accepts))))), fE' F⟩
theorem db' (C : Ctx Wd.w K mg) : OgM Wd.P Wd.w K mg base 1 (He.ga K "Machine") "parts" ["self"] (spM K M.f_Machine_parts) := by
  obtain ⟨fd, F⟩ := C.f_Machine_parts
  exact ⟨fd, okM F f0' rfl rfl (fun cdv A outer s H E hr =>
    (af' (aH' (bf' (gx' (aa' (bw' ["Machine", "RawMachine"] (ac' (pv 0)) C.at_kept_letters) (aa' (bw' ["Machine", "RawMachine"] (ac' (pv 0)) C.at_kept_table) (aa' (bw' ["Machine", "RawMachine"] (ac' (pv 0)) C.at_kept_accepts) ai')))))))), g9' F⟩
theorem cV' (C : Ctx Wd.w K mg) : OgM Wd.P Wd.w K mg base 2 (He.ga K "Machine") "__eq__" ["self", "other"] (spM K M.f_Machine___eq__) := by
  obtain ⟨fd, F⟩ := C.f_Machine___eq__
  exact ⟨fd, okM F fl' rfl rfl (fun cdv A outer s H E hr =>
    (af' (aH' (bf' (m7' (t1' M.isT "Machine" C.is_Machine rfl (C.free_isinstance) (by decide +kernel) (ac' (pv 1)) (qF' rfl C.g_Machine)) (m6' (fJ' (cm' hr.units) ll' (nomark _) (cF' (ey' (ac' (pv 0)) (db' C) (hr.mono (by decide)) C.ml_Machine_parts (takes_of rfl rfl rfl rfl))) (cF' (ey' (ac' (pv 1)) (db' C) (hr.mono (by decide)) C.ml_Machine_parts (takes_of rfl rfl rfl rfl)))))))))), f7' F⟩
theorem b5' (C : Ctx Wd.w K mg) : OgM Wd.P Wd.w K mg base 2 (He.ga K "RawMachine") "__init__" ["self", "letters", "table", "accepts"] (spM K M.f_RawMachine___init__) := by
  obtain ⟨fd, F⟩ := C.f_RawMachine___init__
  exact ⟨fd, okM F dg' rfl rfl (fun cdv A outer s H E hr =>
    (af' (iv' (cF' (p3' (ac' (pv 0)) (dA' C) (hr.mono (by decide)) C.ml_Machine_keep (takes_of rfl rfl rfl rfl) (aa' (ac' (pv 1)) (aa' (ac' (pv 2)) (aa' (ac' (pv 3)) ai')))))))), dK' F⟩
theorem x7' (C : Ctx Wd.w K mg) : Og Wd.P Wd.w K mg base 1 "led" ["machine", "state", "word"] (spM K M.f_led) := by
  obtain ⟨fd, F⟩ := C.f_led
  exact ⟨fd, okM F qc' rfl rfl (fun cdv A outer s H E hr =>
    (ab' (bG' (passes_of rfl) rfl (bT' (ac' (pv 2))) (cf' 3 qc'.nd rfl (by walk_at "1") (by walk_at "2")) (af' (ag' (i := 1) qc'.nd rfl (by walk_at "1") (bf' (cc' ix_seq e8' (cc' ix_seq e8' (bw' ["Machine", "RawMachine"] (ac' (pv 0)) C.at_kept_table) (ac' (pv 1)) (fun _ _ => rfl)) (xB' PySem.F.slot_str_index PySem.F.type_str_index qQ' vJ' (bw' ["Machine", "RawMachine"] (ac' (pv 0)) C.at_kept_letters) (aa' (ac' (pv 3)) ai')) (fun _ _ => rfl))))))
      (af' (aH' (t0' (pv 1)))))), B5' F, F.kp, C.g_led⟩
theorem qI' (C : Ctx Wd.w K mg) : Og Wd.P Wd.w K mg base 4 "says" ["machine", "word"] (spM K M.f_says) := by
  obtain ⟨fd, F⟩ := C.f_says
  exact ⟨fd, okM F ve' rfl rfl (fun cdv A outer s H E hr =>
    (ab' (iv' (cF' (aj' (iI' C) (hr.mono (by walk_at "4")) rfl (takes_of rfl rfl rfl rfl) (aa' (ac' (pv 0)) (aa' (ac' (pv 1)) ai')))))
      (af' (aH' (bf' (fJ' gK' ue' (by rfl) (cF' (aj' (x7' C) (hr.mono (by walk_at "4")) rfl (takes_of rfl rfl rfl rfl) (aa' (ac' (pv 0)) (aa' ae' (aa' (ac' (pv 1)) ai'))))) (bw' ["Machine", "RawMachine"] (ac' (pv 0)) C.at_kept_accepts))))))), zH' F, F.kp, C.g_says⟩
theorem n9' (C : Ctx Wd.w K mg) : Og Wd.P Wd.w K mg base 1 "reached" ["machine"] (spM K M.f_reached) := by
  obtain ⟨fd, F⟩ := C.f_reached
  exact ⟨fd, okM F cv' rfl rfl (fun cdv A outer s H E hr =>
    (ab' (ag' (i := 1) cv'.nd rfl (by walk_at "1") (cH' (aa' ae' ai')))
      (ab' (ag' (i := 2) cv'.nd rfl (by walk_at "1") (p4' ae' dq'))
      (ab' (ag' (i := 3) cv'.nd rfl (by walk_at "1") (bf' ae'))
      (ab' (eu' M.rY' (passes_of rfl) (a4' gJ' vF' (nomark _) (ac' (pv 3)) (bH' ⟨rfl, rfl⟩ rfl (C.free_len) (by decide +kernel) (pv 1))) (ab' (bG' (passes_of rfl) rfl (bT' (cc' ix_seq e8' (bw' ["Machine", "RawMachine"] (ac' (pv 0)) C.at_kept_table) (gy' (pv 1) (ac' (pv 3)) (fun _ _ => rfl)) (fun _ _ => rfl))) (cf' 4 cv'.nd rfl (by walk_at "1") (by walk_at "2")) (af' (bv' (fi' ⟨rfl, rfl⟩ hr.units (ac' (pv 4)) (pv 2)) (ab' (d3' ⟨rfl, rfl⟩ hr.units dq' (pv 2) (ac' (pv 4)))
      (af' (cG' (pv 1) (bf' (ac' (pv 4)))))) aR')))
      (af' (xw' (i := 3) cv'.nd rfl (by walk_at "1") ae' ip_add AU'))))
      (af' (aH' (t0' (pv 1))))))))), rI' F, F.kp, C.g_reached⟩
theorem gM' (C : Ctx Wd.w K mg) : Og Wd.P Wd.w K mg base 1 "numbered" ["keys"] (spM K M.f_numbered) := by
  obtain ⟨fd, F⟩ := C.f_numbered
  exact ⟨fd, okM F cA' rfl rfl (fun cdv A outer s H E hr =>
    (ab' (ag' (i := 1) cA'.nd rfl (by walk_at "1") (p5' ⟨rfl, rfl⟩))
      (ab' (ag' (i := 2) cA'.nd rfl (by walk_at "1") dp')
      (ab' (bG' (passes_of rfl) rfl (sh' (ac' (pv 0))) (wP' (n := 2) rfl rfl rfl rfl (bK' rfl (cf' 3 cA'.nd rfl (by walk_at "1") (by walk_at "2")) (bK' rfl (cf' 4 cA'.nd rfl (by walk_at "1") (by walk_at "2")) fk'))) (ab' (bv' (fi' ⟨rfl, rfl⟩ hr.units (ac' (pv 4)) (pv 1)) (af' (d3' ⟨rfl, rfl⟩ hr.units (bH' ⟨rfl, rfl⟩ rfl (C.free_len) (by decide +kernel) (pv 1)) (pv 1) (ac' (pv 4)))) aR')
      (af' (d3' ⟨rfl, rfl⟩ hr.units (cl' ⟨rfl, rfl⟩ hr.units (pv 1) (ac' (pv 4)) (fun _ _ => rfl)) (pv 2) (ac' (pv 3))))))
      (af' (aH' (t0' (pv 2)))))))), oz' F, F.kp, C.g_numbered⟩
theorem gN' (C : Ctx Wd.w K mg) : Og Wd.P Wd.w K mg base 2 "alike_states" ["machine", "states"] (spM K M.f_alike_states) := by
  obtain ⟨fd, F⟩ := C.f_alike_states
  exact ⟨fd, okM F aA' rfl rfl (fun cdv A outer s H E hr =>
    (ab' (ag' (i := 2) aA'.nd rfl (by walk_at "1") (aj' (gM' C) (hr.mono (by walk_at "4")) rfl (takes_of rfl rfl rfl rfl) (aa' (cF' (AA' (own := [("state", 5)]) rfl aA'.nd (bT' (ac' (pv 1))) (blkOk_by (own := [("state", 5)]) (N := cR') (sc := defScope aB') (by decide +kernel)) rfl (fun _ _ _ _ _ => (cf' 5 aA'.nd rfl (by walk_at "1") (by walk_at "2"))) (fun _ _ _ _ _ => bE') (fun _ _ _ _ _ => (ac' (pv 5))) (fun _ _ _ _ _ => (fJ' gK' ue' (by rfl) (ac' (pv 5)) (bw' ["Machine", "RawMachine"] (ac' (pv 0)) C.at_kept_accepts))))) ai')))
      (ab' (ag' (i := 3) aA'.nd rfl (by walk_at "1") (bf' ae'))
      (ab' (eu' M.rY' (passes_of rfl) (a4' nn' z0' (nomark _) (p9' rfl rfl (C.free_max) (by decide +kernel) (ac' (pv 2))) (ac' (pv 3))) (ab' (ag' (i := 3) aA'.nd rfl (by walk_at "1") (bf' (aW' a9' cr' (p9' rfl rfl (C.free_max) (by decide +kernel) (ac' (pv 2))) ae')))
      (ab' (ag' (i := 4) aA'.nd rfl (by walk_at "1") dp')
      (ab' (bG' (passes_of rfl) rfl (bT' (ac' (pv 1))) (cf' 5 aA'.nd rfl (by walk_at "1") (by walk_at "2")) (af' (d3' ⟨rfl, rfl⟩ hr.units (gx' (aa' (cl' ⟨rfl, rfl⟩ hr.units (pv 2) (ac' (pv 5)) (fun _ _ => rfl)) (aa' (bu' (al' rfl) bj' rfl (C.free_tuple) (by decide +kernel) (eb' (own := [("step", 6)]) rfl aA'.nd (bT' (cc' ix_seq e8' (bw' ["Machine", "RawMachine"] (ac' (pv 0)) C.at_kept_table) (ac' (pv 5)) (fun _ _ => rfl))) (blkOk_by (own := [("step", 6)]) (N := cR') (sc := defScope aB') (by decide +kernel)) rfl (fun _ _ _ _ _ => (cf' 6 aA'.nd rfl (by walk_at "1") (by walk_at "2"))) (fun _ _ _ _ _ => bE') (fun _ _ _ _ _ => (cl' ⟨rfl, rfl⟩ hr.units (pv 2) (ac' (pv 6)) (fun _ _ => rfl))))) ai'))) (pv 4) (ac' (pv 5)))))
      (af' (ag' (i := 2) aA'.nd rfl (by walk_at "1") (aj' (gM' C) (hr.mono (by walk_at "4")) rfl (takes_of rfl rfl rfl rfl) (aa' (ac' (pv 4)) ai'))))))))
      (af' (aH' (t0' (pv 2)))))))), hI' F, F.kp, C.g_alike_states⟩
theorem iG' (C : Ctx Wd.w K mg) : Og Wd.P Wd.w K mg base 4 "least" ["machine"] (spM K M.f_least) := by
  obtain ⟨fd, F⟩ := C.f_least
  exact ⟨fd, okM F bP' rfl rfl (fun cdv A outer s H E hr =>
    (ab' (bv' (a4' vy' CZ' (nomark _) (bw' ["Machine", "RawMachine"] (ac' (pv 0)) C.at_kept_least) p8') (ab' (ag' (i := 1) bP'.nd rfl (by walk_at "1") (aj' (n9' C) (hr.mono (by walk_at "4")) rfl (takes_of rfl rfl rfl rfl) (aa' (ac' (pv 0)) ai')))
      (ab' (ag' (i := 2) bP'.nd rfl (by walk_at "1") (aj' (gN' C) (hr.mono (by walk_at "4")) rfl (takes_of rfl rfl rfl rfl) (aa' (ac' (pv 0)) (aa' (ac' (pv 1)) ai'))))
      (ab' (ag' (i := 3) bP'.nd rfl (by walk_at "1") dp')
      (ab' (bG' (passes_of rfl) rfl (bT' (ac' (pv 1))) (cf' 4 bP'.nd rfl (by walk_at "1") (by walk_at "2")) (af' (iv' (sk' (pv 3) (cl' ⟨rfl, rfl⟩ hr.units (pv 2) (ac' (pv 4)) (fun _ _ => rfl)) (ac' (pv 4)) ⟨rfl, rfl, rfl, rfl⟩))))
      (ab' (ag' (i := 5) bP'.nd rfl (by walk_at "1") (cH' ai'))
      (ab' (bG' (passes_of rfl) rfl (bT' (cz' (il' rfl) rE' rfl (C.free_sorted) (by decide +kernel) (ac' (pv 3)))) (cf' 6 bP'.nd rfl (by walk_at "1") (by walk_at "2")) (af' (cG' (pv 5) (bf' (bu' (al' rfl) bj' rfl (C.free_tuple) (by decide +kernel) (eb' (own := [("step", 8)]) rfl bP'.nd (bT' (cc' ix_seq e8' (bw' ["Machine", "RawMachine"] (ac' (pv 0)) C.at_kept_table) (cl' ⟨rfl, rfl⟩ hr.units (pv 3) (ac' (pv 6)) (fun _ _ => rfl)) (fun _ _ => rfl))) (blkOk_by (own := [("step", 8)]) (N := lU') (sc := defScope ch') (by decide +kernel)) rfl (fun _ _ _ _ _ => (cf' 8 bP'.nd rfl (by walk_at "1") (by walk_at "2"))) (fun _ _ _ _ _ => bE') (fun _ _ _ _ _ => (cl' ⟨rfl, rfl⟩ hr.units (pv 2) (ac' (pv 8)) (fun _ _ => rfl)))))))))
      (ab' (ag' (i := 7) bP'.nd rfl (by walk_at "1") (bf' (bu' (al' rfl) bj' rfl (C.free_tuple) (by decide +kernel) (eb' (own := [("one", 6)]) rfl bP'.nd (bT' (cz' (il' rfl) rE' rfl (C.free_sorted) (by decide +kernel) (ac' (pv 3)))) (blkOk_by (own := [("one", 6)]) (N := lU') (sc := defScope ch') (by decide +kernel)) rfl (fun _ _ _ _ _ => (cf' 6 bP'.nd rfl (by walk_at "1") (by walk_at "2"))) (fun _ _ _ _ _ => (ex' (a4' gK' ue' (by rfl) (cl' ⟨rfl, rfl⟩ hr.units (pv 3) (ac' (pv 6)) (fun _ _ => rfl)) (bw' ["Machine", "RawMachine"] (ac' (pv 0)) C.at_kept_accepts)))) (fun _ _ _ _ _ => (ac' (pv 6)))))))
      (ab' (ev' ["Machine", "RawMachine"] (ac' (pv 0)) (k9' (b5' C) (hr.mono (by decide)) rfl C.mk_RawMachine C.g_RawMachine (takes_of rfl rfl rfl rfl) (aa' (bw' ["Machine", "RawMachine"] (ac' (pv 0)) C.at_kept_letters) (aa' (bu' (al' rfl) bj' rfl (C.free_tuple) (by decide +kernel) (ac' (pv 5))) (aa' (ac' (pv 7)) ai')))) C.at_kept_least)
      (af' (ev' ["Machine", "RawMachine"] (bw' ["Machine", "RawMachine"] (ac' (pv 0)) C.at_kept_least) (bf' (bw' ["Machine", "RawMachine"] (ac' (pv 0)) C.at_kept_least)) C.at_kept_least)))))))))) aR')
      (af' (aH' (bf' (bw' ["Machine", "RawMachine"] (ac' (pv 0)) C.at_kept_least)))))), wG' F, F.kp, C.g_least⟩
theorem c4' (C : Ctx Wd.w K mg) : Og Wd.P Wd.w K mg base 5 "backward" ["machine"] (spM K M.f_backward) := by
  obtain ⟨fd, F⟩ := C.f_backward
  exact ⟨fd, okM F at' rfl rfl (fun cdv A outer s H E hr =>
    (ab' (ag' (i := 1) at'.nd rfl (by walk_at "1") (aj' (iG' C) (hr.mono (by walk_at "4")) rfl (takes_of rfl rfl rfl rfl) (aa' (ac' (pv 0)) ai')))
      (ab' (ag' (i := 2) at'.nd rfl (by walk_at "1") (bf' (cz' (aV' ⟨rfl, rfl⟩) dh' rfl (C.free_len) (by decide +kernel) (bw' ["Machine", "RawMachine"] (ac' (pv 1)) C.at_kept_table))))
      (ab' (ag' (i := 3) at'.nd rfl (by walk_at "1") (bf' (bu' (al' rfl) bj' rfl (C.free_tuple) (by decide +kernel) (eb' (own := [("state", 12)]) rfl at'.nd (aP' rfl (C.free_range) (ac' (pv 2))) (blkOk_by (own := [("state", 12)]) (N := dX') (sc := defScope be') (by decide +kernel)) rfl (fun _ _ _ _ _ => (cf' 12 at'.nd rfl (by walk_at "1") (by walk_at "2"))) (fun _ _ _ _ _ => bE') (fun _ _ _ _ _ => (fJ' gK' ue' (by rfl) (ac' (pv 12)) (bw' ["Machine", "RawMachine"] (ac' (pv 1)) C.at_kept_accepts)))))))
      (ab' (ag' (i := 4) at'.nd rfl (by walk_at "1") (cH' (aa' (ac' (pv 3)) ai')))
      (ab' (ag' (i := 5) at'.nd rfl (by walk_at "1") (jN' ⟨rfl, rfl⟩ hr.units (ac' (pv 3)) ae'))
      (ab' (ag' (i := 6) at'.nd rfl (by walk_at "1") (cH' ai'))
      (ab' (eu' M.rY' (passes_of rfl) (a4' gJ' vF' (nomark _) (bH' ⟨rfl, rfl⟩ rfl (C.free_len) (by decide +kernel) (pv 6)) (bH' ⟨rfl, rfl⟩ rfl (C.free_len) (by decide +kernel) (pv 4))) (ab' (ag' (i := 7) at'.nd rfl (by walk_at "1") (bf' (gy' (pv 4) (bH' ⟨rfl, rfl⟩ rfl (C.free_len) (by decide +kernel) (pv 6)) (fun _ _ => rfl))))
      (ab' (ag' (i := 8) at'.nd rfl (by walk_at "1") (cH' ai'))
      (ab' (bG' (passes_of rfl) rfl (aP' rfl (C.free_range) (cz' (aV' ⟨rfl, rfl⟩) dh' rfl (C.free_len) (by decide +kernel) (bw' ["Machine", "RawMachine"] (ac' (pv 1)) C.at_kept_letters))) (cf' 9 at'.nd rfl (by walk_at "1") (by walk_at "2")) (ab' (ag' (i := 10) at'.nd rfl (by walk_at "1") (bf' (bu' (al' rfl) bj' rfl (C.free_tuple) (by decide +kernel) (eb' (own := [("state", 12)]) rfl at'.nd (aP' rfl (C.free_range) (ac' (pv 2))) (blkOk_by (own := [("state", 12)]) (N := dX') (sc := defScope be') (by decide +kernel)) rfl (fun _ _ _ _ _ => (cf' 12 at'.nd rfl (by walk_at "1") (by walk_at "2"))) (fun _ _ _ _ _ => bE') (fun _ _ _ _ _ => (cc' ix_seq e8' (ac' (pv 7)) (cc' ix_seq e8' (cc' ix_seq e8' (bw' ["Machine", "RawMachine"] (ac' (pv 1)) C.at_kept_table) (ac' (pv 12)) (fun _ _ => rfl)) (ac' (pv 9)) (fun _ _ => rfl)) (fun _ _ => rfl)))))))
      (ab' (bv' (fi' ⟨rfl, rfl⟩ hr.units (ac' (pv 10)) (pv 5)) (ab' (d3' ⟨rfl, rfl⟩ hr.units (bH' ⟨rfl, rfl⟩ rfl (C.free_len) (by decide +kernel) (pv 4)) (pv 5) (ac' (pv 10)))
      (af' (cG' (pv 4) (bf' (ac' (pv 10)))))) aR')
      (af' (cG' (pv 8) (bf' (cl' ⟨rfl, rfl⟩ hr.units (pv 5) (ac' (pv 10)) (fun _ _ => rfl))))))))
      (ab' (cG' (pv 6) (bf' (bu' (al' rfl) bj' rfl (C.free_tuple) (by decide +kernel) (ac' (pv 8)))))
      (af' (bv' (a4' nm' zZ' (nomark _) (bH' ⟨rfl, rfl⟩ rfl (C.free_len) (by decide +kernel) (pv 4)) (Cd' (vu' rfl C.c_MOST_STATES) fun _ _ => .int _)) (af' iw') aR')))))))
      (ab' (ag' (i := 11) at'.nd rfl (by walk_at "1") (bf' (bu' (al' rfl) bj' rfl (C.free_tuple) (by decide +kernel) (eb' (own := [("index", 9), ("told", 13)]) rfl at'.nd (u8' rfl (C.free_enumerate) (ac' (pv 4))) (blkOk_by (own := [("index", 9), ("told", 13)]) (N := dX') (sc := defScope be') (by decide +kernel)) rfl (fun _ _ _ _ _ => (wP' (n := 2) rfl rfl rfl rfl (bK' rfl (cf' 9 at'.nd rfl (by walk_at "1") (by walk_at "2")) (bK' rfl (cf' 13 at'.nd rfl (by walk_at "1") (by walk_at "2")) fk')))) (fun _ _ _ _ _ => (ex' (mZ' (cc' ix_seq e8' (ac' (pv 13)) ae' (fun _ _ => rfl))))) (fun _ _ _ _ _ => (ac' (pv 9)))))))
      (af' (aH' (aj' (iG' C) (hr.mono (by walk_at "4")) rfl (takes_of rfl rfl rfl rfl) (aa' (cF' (k9' (b5' C) (hr.mono (by decide)) rfl C.mk_RawMachine C.g_RawMachine (takes_of rfl rfl rfl rfl) (aa' (bw' ["Machine", "RawMachine"] (ac' (pv 1)) C.at_kept_letters) (aa' (bu' (al' rfl) bj' rfl (C.free_tuple) (by decide +kernel) (ac' (pv 6))) (aa' (ac' (pv 11)) ai'))))) ai'))))))))))))), oB' F, F.kp, C.g_backward⟩
theorem j2' (C : Ctx Wd.w K mg) : Og Wd.P Wd.w K mg base 1 "_law_hand" ["_law_script"] (spM K M.f__law_hand) := by
  obtain ⟨fd, F⟩ := C.f__law_hand
  exact ⟨fd, okM F ds' rfl rfl (fun cdv A outer s H E hr =>
    (ab' (iu' (i := 1) (own := [("_law_cell", 2)]) rfl ds'.nd rfl rfl (sw_true (by rfl) (by rfl) (by rfl) (by decide +kernel)) (bT' (vb' AB' A2' (ac' (pv 0)) u6' (u5' ae'))) (blkOk_by (own := [("_law_cell", 2)]) (N := hq') (sc := defScope bh') (by decide +kernel)) rfl (fun _ _ _ _ _ => (cf' 2 ds'.nd rfl (by walk_at "1") (by walk_at "2"))) (fun _ _ _ _ _ => bE') (fun _ _ _ _ _ => (cz' rD' B2' rfl (C.free_abs) (by decide +kernel) (bu' a6' dZ' rfl (C.free_int) (by decide +kernel) (ac' (pv 2))))))
      (af' (aH' (xy' (aa' (ac' (pv 1)) (aa' ae' (aa' ae' (aa' (aW' a9' cr' ae' (cz' (aV' ⟨rfl, rfl⟩) dh' rfl (C.free_len) (by decide +kernel) (ac' (pv 1)))) (aa' ae' ai')))))))))), lS' F, F.kp, C.g__law_hand⟩
end
end S
namespace S
open PySem PySem.Spec PyProof.Rows L2
section
variable [Wd] {K : PySem.W.Frag} {mg : Str -> Option Value} {base : Heap}
theorem aT' (C : Ctx Wd.w K mg) : Og Wd.P Wd.w K mg base 1 "_law_draw" ["_law_hand_here", "_law_many"] (spM K M.f__law_draw) := by
  obtain ⟨fd, F⟩ := C.f__law_draw
  exact ⟨fd, okM F bU' rfl rfl (fun cdv A outer s H E hr =>
    (ab' (bv' (tY' (tX' (a4' (cm' hr.units) ll' (nomark _) (cT' (ac' (pv 0)) ae' (fun _ _ => rfl)) ae') (pV' (a4' gJ' vF' (nomark _) (cT' (ac' (pv 0)) ae' (fun _ _ => rfl)) (cz' (aV' ⟨rfl, rfl⟩) dh' rfl (C.free_len) (by decide +kernel) (cT' (ac' (pv 0)) ae' (fun _ _ => rfl))))))) (ab' (ag' (i := 2) bU'.nd rfl (by walk_at "1") (bf' (cc' ix_seq e8' (cT' (ac' (pv 0)) ae' (fun _ _ => rfl)) (cT' (ac' (pv 0)) ae' (fun _ _ => rfl)) (fun _ _ => rfl))))
      (ab' (gw' (aW' a9' cr' (cT' (ac' (pv 0)) ae' (fun _ _ => rfl)) ae') (ac' (pv 0)) ae')
      (ab' (gw' (aW' op_mod fo' (bu' a6' dZ' rfl (C.free_int) (by decide +kernel) (aW' a9' cr' (aW' a9' cr' (aW' ef' lk' (cT' (ac' (pv 0)) ae' (fun _ _ => rfl)) ae') (ac' (pv 2))) ae')) ae') (ac' (pv 0)) ae')
      (af' (bv' (a4' nn' z0' (nomark _) (ac' (pv 2)) (aW' op_pow A3' ae' ae')) (af' (gw' (ac' (pv 2)) (ac' (pv 0)) ae')) aR'))))) aR')
      (ab' (bv' (a4' nm' zZ' (nomark _) (cT' (ac' (pv 0)) ae' (fun _ _ => rfl)) ae') (ab' (ag' (i := 3) bU'.nd rfl (by walk_at "1") (bf' (aW' op_mod fo' (bu' a6' dZ' rfl (C.free_int) (by decide +kernel) (cT' (ac' (pv 0)) ae' (fun _ _ => rfl))) (ac' (pv 1)))))
      (ab' (gw' (aW' op_fdivW j3' (cT' (ac' (pv 0)) ae' (fun _ _ => rfl)) (ac' (pv 1))) (ac' (pv 0)) ae')
      (af' (aH' (t0' (pv 3)))))) aR')
      (ab' (gw' (aW' a9' cr' (cT' (ac' (pv 0)) ae' (fun _ _ => rfl)) ae') (ac' (pv 0)) ae')
      (ab' (ag' (i := 4) bU'.nd rfl (by walk_at "1") (bf' (aW' op_mod fo' (bu' a6' dZ' rfl (C.free_int) (by decide +kernel) (aW' ef' lk' (bu' a6' dZ' rfl (C.free_int) (by decide +kernel) (aW' a9' cr' (cT' (ac' (pv 0)) ae' (fun _ _ => rfl)) (aW' ef' lk' ae' (cT' (ac' (pv 0)) ae' (fun _ _ => rfl))))) ae')) ae')))
      (ab' (ag' (i := 4) bU'.nd rfl (by walk_at "1") (bf' (aW' op_mod fo' (bu' a6' dZ' rfl (C.free_int) (by decide +kernel) (aW' ef' lk' (ac' (pv 4)) (aW' a9' cr' (aW' op_fdivW j3' (ac' (pv 4)) ae') ae'))) ae')))
      (ab' (ag' (i := 4) bU'.nd rfl (by walk_at "1") (bf' (aW' op_mod fo' (bu' a6' dZ' rfl (C.free_int) (by decide +kernel) (aW' ef' lk' (ac' (pv 4)) (aW' a9' cr' (aW' op_fdivW j3' (ac' (pv 4)) ae') ae'))) ae')))
      (af' (aH' (bf' (aW' op_mod fo' (bu' a6' dZ' rfl (C.free_int) (by decide +kernel) (aW' op_fdivW j3' (ac' (pv 4)) ae')) (ac' (pv 1))))))))))))), lT' F, F.kp, C.g__law_draw⟩
theorem da' (C : Ctx Wd.w K mg) : Og Wd.P Wd.w K mg base 2 "_law_shuffled" ["_law_hand_here", "_law_things"] (spM K M.f__law_shuffled) := by
  obtain ⟨fd, F⟩ := C.f__law_shuffled
  exact ⟨fd, okM F bQ' rfl rfl (fun cdv A outer s H E hr =>
    (ab' (ag' (i := 2) bQ'.nd rfl (by walk_at "1") (u7' (in' rfl) sO' rfl (C.free_list) (by decide +kernel) (ac' (pv 1))))
      (ab' (ag' (i := 3) bQ'.nd rfl (by walk_at "1") (cH' ai'))
      (ab' (bG' (passes_of rfl) rfl (aP' rfl (C.free_range) (cz' (aV' ⟨rfl, rfl⟩) dh' rfl (C.free_len) (by decide +kernel) (ac' (pv 1)))) (cf' 4 bQ'.nd rfl (by walk_at "1") (by walk_at "2")) (af' (cG' (pv 3) (bf' (sj' (pv 2) (cF' (aj' (aT' C) (hr.mono (by walk_at "4")) rfl (takes_of rfl rfl rfl rfl) (aa' (ac' (pv 0)) (aa' (bH' ⟨rfl, rfl⟩ rfl (C.free_len) (by decide +kernel) (pv 2)) ai')))))))))
      (af' (aH' (t0' (pv 3)))))))), g7' F, F.kp, C.g__law_shuffled⟩
theorem dz' (C : Ctx Wd.w K mg) : Og Wd.P Wd.w K mg base 3 "_law_rows" ["_law_hand_here", "_law_kind", "_law_size", "_law_many"] (spM K M.f__law_rows) := by
  obtain ⟨fd, F⟩ := C.f__law_rows
  exact ⟨fd, okM F am' rfl rfl (fun cdv A outer s H E hr =>
    (ab' (ag' (i := 4) am'.nd rfl (by walk_at "1") (cH' ai'))
      (ab' (iu' (i := 5) (own := [("_law_letter", 9)]) rfl am'.nd rfl rfl (sw_true (by rfl) (by rfl) (by rfl) (by decide +kernel)) (aP' rfl (C.free_range) (ac' (pv 3))) (blkOk_by (own := [("_law_letter", 9)]) (N := em') (sc := defScope a5') (by decide +kernel)) rfl (fun _ _ _ _ _ => (cf' 9 am'.nd rfl (by walk_at "1") (by walk_at "2"))) (fun _ _ _ _ _ => bE') (fun _ _ _ _ _ => (cF' (aj' (aT' C) (hr.mono (by walk_at "4")) rfl is' (aa' (ac' (pv 0)) (aa' (ac' (pv 2)) ai'))))))
      (ab' (iu' (i := 6) (own := [("_law_letter", 9)]) rfl am'.nd rfl rfl (sw_true (by rfl) (by rfl) (by rfl) (by decide +kernel)) (aP' rfl (C.free_range) (ac' (pv 3))) (blkOk_by (own := [("_law_letter", 9)]) (N := em') (sc := defScope a5') (by decide +kernel)) rfl (fun _ _ _ _ _ => (cf' 9 am'.nd rfl (by walk_at "1") (by walk_at "2"))) (fun _ _ _ _ _ => bE') (fun _ _ _ _ _ => (cF' (aj' (da' C) (hr.mono (by walk_at "4")) rfl is' (aa' (ac' (pv 0)) (aa' (cF' (n3' rfl rfl (C.free_list) rfl (C.free_range) (ac' (pv 2)))) ai'))))))
      (ab' (bG' (passes_of rfl) rfl (aP' rfl (C.free_range) (ac' (pv 2))) (cf' 7 am'.nd rfl (by walk_at "1") (by walk_at "2")) (ab' (ag' (i := 8) am'.nd rfl (by walk_at "1") (cH' ai'))
      (ab' (bG' (passes_of rfl) rfl (aP' rfl (C.free_range) (ac' (pv 3))) (cf' 9 am'.nd rfl (by walk_at "1") (by walk_at "2")) (ab' (ag' (i := 10) am'.nd rfl (by walk_at "1") (aj' (aT' C) (hr.mono (by walk_at "4")) rfl (takes_of rfl rfl rfl rfl) (aa' (ac' (pv 0)) (aa' (ac' (pv 2)) ai'))))
      (ab' (bv' (a4' (cm' hr.units) ll' (nomark _) (ac' (pv 1)) ae') (af' (ag' (i := 10) am'.nd rfl (by walk_at "1") (bf' (aW' op_mod fo' (bu' a6' dZ' rfl (C.free_int) (by decide +kernel) (aW' a9' cr' (ac' (pv 7)) (cc' ix_seq e8' (ac' (pv 5)) (ac' (pv 9)) (fun _ _ => rfl)))) (ac' (pv 2)))))) aR')
      (ab' (bv' (a4' (cm' hr.units) ll' (nomark _) (ac' (pv 1)) ae') (af' (ag' (i := 10) am'.nd rfl (by walk_at "1") (bf' (qa' (fB' rfl) rF' rfl (C.free_min) (by decide +kernel) (aW' op_sub qK' (ac' (pv 2)) ae') (aW' a9' cr' (ac' (pv 7)) (cc' ix_seq e8' (ac' (pv 5)) (ac' (pv 9)) (fun _ _ => rfl))))))) aR')
      (ab' (bv' (a4' (cm' hr.units) ll' (nomark _) (ac' (pv 1)) ae') (ab' (ag' (i := 10) am'.nd rfl (by walk_at "1") (bf' (ac' (pv 7))))
      (af' (bv' (a4' (cm' hr.units) ll' (nomark _) (ac' (pv 7)) ae') (af' (ag' (i := 10) am'.nd rfl (by walk_at "1") (bf' (aW' op_mod fo' (bu' a6' dZ' rfl (C.free_int) (by decide +kernel) (aW' a9' cr' ae' (ac' (pv 9)))) (ac' (pv 2)))))) aR'))) aR')
      (ab' (bv' (a4' (cm' hr.units) ll' (nomark _) (ac' (pv 1)) ae') (af' (ag' (i := 10) am'.nd rfl (by walk_at "1") (bf' (aW' op_mod fo' (bu' a6' dZ' rfl (C.free_int) (by decide +kernel) (aW' a9' cr' ae' (ac' (pv 9)))) (ac' (pv 2)))))) aR')
      (ab' (bv' (a4' (cm' hr.units) ll' (nomark _) (ac' (pv 1)) ae') (af' (ag' (i := 10) am'.nd rfl (by walk_at "1") (bf' (qa' (fB' rfl) rF' rfl (C.free_min) (by decide +kernel) (aW' op_sub qK' (ac' (pv 2)) ae') (aW' a9' cr' (ac' (pv 7)) (bu' a6' dZ' rfl (C.free_int) (by decide +kernel) (fJ' (cm' hr.units) ll' (nomark _) (aW' op_mod fo' (ac' (pv 7)) (ac' (pv 3))) (ac' (pv 9))))))))) aR')
      (ab' (bv' (a4' (cm' hr.units) ll' (nomark _) (ac' (pv 1)) ae') (ab' (ag' (i := 10) am'.nd rfl (by walk_at "1") (bf' (aW' op_sub qK' (ac' (pv 2)) ae')))
      (af' (bv' (tY' (tX' (a4' gJ' vF' (nomark _) (ac' (pv 7)) (aW' op_sub qK' (ac' (pv 2)) ae')) (pV' (a4' (cm' hr.units) ll' (nomark _) (aW' op_mod fo' (ac' (pv 7)) (ac' (pv 3))) (ac' (pv 9)))))) (af' (ag' (i := 10) am'.nd rfl (by walk_at "1") (bf' (aW' op_mod fo' (bu' a6' dZ' rfl (C.free_int) (by decide +kernel) (aW' a9' cr' (ac' (pv 7)) ae')) (aW' op_sub qK' (ac' (pv 2)) ae'))))) aR'))) aR')
      (ab' (bv' (a4' (cm' hr.units) ll' (nomark _) (ac' (pv 1)) ae') (af' (ag' (i := 10) am'.nd rfl (by walk_at "1") (bf' (cc' ix_seq e8' (cc' ix_seq e8' (ac' (pv 6)) (ac' (pv 9)) (fun _ _ => rfl)) (ac' (pv 7)) (fun _ _ => rfl))))) aR')
      (af' (cG' (pv 8) (bf' (ac' (pv 10))))))))))))))
      (af' (cG' (pv 4) (bf' (bu' (al' rfl) bj' rfl (C.free_tuple) (by decide +kernel) (ac' (pv 8)))))))))
      (af' (aH' (bf' (bu' (al' rfl) bj' rfl (C.free_tuple) (by decide +kernel) (ac' (pv 4))))))))))), lR' F, F.kp, C.g__law_rows⟩
theorem iJ' (C : Ctx Wd.w K mg) : Og Wd.P Wd.w K mg base 4 "_law_woven" ["_law_hand_here", "_law_many"] (spM K M.f__law_woven) := by
  obtain ⟨fd, F⟩ := C.f__law_woven
  exact ⟨fd, okM F aY' rfl rfl (fun cdv A outer s H E hr =>
    (ab' (ag' (i := 2) aY'.nd rfl (by walk_at "1") (aj' (dz' C) (hr.mono (by walk_at "4")) rfl (takes_of rfl rfl rfl rfl) (aa' (ac' (pv 0)) (aa' (aW' a9' cr' ae' (cF' (aj' (aT' C) (hr.mono (by walk_at "4")) rfl (takes_of rfl rfl rfl rfl) (aa' (ac' (pv 0)) (aa' ae' ai'))))) (aa' ae' (aa' (ac' (pv 1)) ai'))))))
      (ab' (ag' (i := 3) aY'.nd rfl (by walk_at "1") (bf' (aW' a9' cr' ae' (cF' (aj' (aT' C) (hr.mono (by walk_at "4")) rfl (takes_of rfl rfl rfl rfl) (aa' (ac' (pv 0)) (aa' ae' ai')))))))
      (ab' (ag' (i := 4) aY'.nd rfl (by walk_at "1") (aj' (dz' C) (hr.mono (by walk_at "4")) rfl (takes_of rfl rfl rfl rfl) (aa' (ac' (pv 0)) (aa' (aW' a9' cr' ae' (cF' (aj' (aT' C) (hr.mono (by walk_at "4")) rfl (takes_of rfl rfl rfl rfl) (aa' (ac' (pv 0)) (aa' ae' ai'))))) (aa' (ac' (pv 3)) (aa' (ac' (pv 1)) ai'))))))
      (ab' (ag' (i := 5) aY'.nd rfl (by walk_at "1") (cH' ai'))
      (ab' (bG' (passes_of rfl) rfl (aP' rfl (C.free_range) (aW' ef' lk' ae' (ac' (pv 3)))) (cf' 6 aY'.nd rfl (by walk_at "1") (by walk_at "2")) (ab' (ag' (i := 7) aY'.nd rfl (by walk_at "1") (bf' (cc' ix_seq e8' (ac' (pv 2)) (aW' op_fdivW j3' (ac' (pv 6)) (ac' (pv 3))) (fun _ _ => rfl))))
      (ab' (ag' (i := 8) aY'.nd rfl (by walk_at "1") (bf' (cc' ix_seq e8' (ac' (pv 4)) (aW' op_mod fo' (bu' a6' dZ' rfl (C.free_int) (by decide +kernel) (ac' (pv 6))) (ac' (pv 3))) (fun _ _ => rfl))))
      (af' (cG' (pv 5) (bf' (bu' (al' rfl) bj' rfl (C.free_tuple) (by decide +kernel) (eb' (own := [("_law_k", 9)]) rfl aY'.nd (aP' rfl (C.free_range) (ac' (pv 1))) (blkOk_by (own := [("_law_k", 9)]) (N := fW') (sc := defScope aZ') (by decide +kernel)) rfl (fun _ _ _ _ _ => (cf' 9 aY'.nd rfl (by walk_at "1") (by walk_at "2"))) (fun _ _ _ _ _ => bE') (fun _ _ _ _ _ => (aW' a9' cr' (aW' ef' lk' (cc' ix_seq e8' (ac' (pv 7)) (ac' (pv 9)) (fun _ _ => rfl)) (ac' (pv 3))) (cc' ix_seq e8' (ac' (pv 8)) (ac' (pv 9)) (fun _ _ => rfl))))))))))))
      (af' (aH' (bf' (bu' (al' rfl) bj' rfl (C.free_tuple) (by decide +kernel) (ac' (pv 5)))))))))))), kR' F, F.kp, C.g__law_woven⟩
theorem iK' (C : Ctx Wd.w K mg) : Og Wd.P Wd.w K mg base 5 "_law_parts" ["_law_hand_here", "_law_most", "_law_states"] (spM K M.f__law_parts) := by
  obtain ⟨fd, F⟩ := C.f__law_parts
  exact ⟨fd, okM F aE' rfl rfl (fun cdv A outer s H E hr =>
    (ab' (ag' (i := 3) aE'.nd rfl (by walk_at "1") (aj' (aT' C) (hr.mono (by walk_at "4")) rfl (takes_of rfl rfl rfl rfl) (aa' (ac' (pv 0)) (aa' ae' ai'))))
      (ab' (ag' (i := 4) aE'.nd rfl (by walk_at "1") (bf' (aW' a9' cr' ae' (cF' (aj' (aT' C) (hr.mono (by walk_at "4")) rfl (takes_of rfl rfl rfl rfl) (aa' (ac' (pv 0)) (aa' (ac' (pv 1)) ai')))))))
      (ab' (ag' (i := 5) aE'.nd rfl (by walk_at "1") (bf' (aW' a9' cr' ae' (cF' (aj' (aT' C) (hr.mono (by walk_at "4")) rfl (takes_of rfl rfl rfl rfl) (aa' (ac' (pv 0)) (aa' (ac' (pv 2)) ai')))))))
      (ab' (bv' (a4' nm' zZ' (nomark _) (ac' (pv 3)) ae') (ab' (ag' (i := 5) aE'.nd rfl (by walk_at "1") (bf' (qa' (im' rfl) ux' rfl (C.free_max) (by decide +kernel) ae' (ac' (pv 5)))))
      (af' (ag' (i := 4) aE'.nd rfl (by walk_at "1") (bf' (qa' (im' rfl) ux' rfl (C.free_max) (by decide +kernel) (qa' (fB' rfl) rF' rfl (C.free_min) (by decide +kernel) ae' (ac' (pv 1))) (ac' (pv 4))))))) aR')
      (ab' (ag' (i := 6) aE'.nd rfl (by walk_at "1") (aj' (da' C) (hr.mono (by walk_at "4")) rfl (takes_of rfl rfl rfl rfl) (aa' (ac' (pv 0)) (aa' (bu' (in' rfl) zD' rfl (C.free_list) (by decide +kernel) (p7' [97, 98, 99, 100, 101, 102, 103, 104, 105, 106, 107, 108, 109, 110, 111, 112, 113, 114, 115, 116, 117, 118, 119, 120, 121, 122] (by decide +kernel) (by decide +kernel))) ai'))))
      (ab' (ag' (i := 7) aE'.nd rfl (by walk_at "1") (bf' (xB' PySem.F.slot_str_join PySem.F.type_str_join mt_join yd' (p7' [] (by decide +kernel) (by decide +kernel)) (aa' (cz' (ow' rfl) tq' rfl (C.free_sorted) (by decide +kernel) (vb' AB' A2' (ac' (pv 6)) u6' (u5' (ac' (pv 4))))) ai'))))
      (ab' (bv' (a4' nm' zZ' (nomark _) (ac' (pv 3)) ae') (af' (ag' (i := 8) aE'.nd rfl (by walk_at "1") (aj' (iJ' C) (hr.mono (by walk_at "4")) rfl (takes_of rfl rfl rfl rfl) (aa' (ac' (pv 0)) (aa' (ac' (pv 4)) ai'))))) (af' (ag' (i := 8) aE'.nd rfl (by walk_at "1") (aj' (dz' C) (hr.mono (by walk_at "4")) rfl (takes_of rfl rfl rfl rfl) (aa' (ac' (pv 0)) (aa' (ac' (pv 3)) (aa' (ac' (pv 5)) (aa' (ac' (pv 4)) ai'))))))))
      (ab' (ag' (i := 9) aE'.nd rfl (by walk_at "1") (bf' (bu' (al' rfl) bj' rfl (C.free_tuple) (by decide +kernel) (eb' (own := [("_law_state", 10)]) rfl aE'.nd (aP' rfl (C.free_range) (cz' (aV' ⟨rfl, rfl⟩) dh' rfl (C.free_len) (by decide +kernel) (ac' (pv 8)))) (blkOk_by (own := [("_law_state", 10)]) (N := fX') (sc := defScope a0') (by decide +kernel)) rfl (fun _ _ _ _ _ => (cf' 10 aE'.nd rfl (by walk_at "1") (by walk_at "2"))) (fun _ _ _ _ _ => (ex' (a4' (cm' hr.units) ll' (nomark _) (cF' (aj' (aT' C) (hr.mono (by walk_at "4")) rfl is' (aa' (ac' (pv 0)) (aa' ae' ai')))) ae'))) (fun _ _ _ _ _ => (ac' (pv 10)))))))
      (af' (aH' (bf' (gx' (aa' (ac' (pv 7)) (aa' (ac' (pv 8)) (aa' (ac' (pv 9)) ai')))))))))))))))), kS' F, F.kp, C.g__law_parts⟩
theorem gO' (C : Ctx Wd.w K mg) : Og Wd.P Wd.w K mg base 1 "_law_classes" ["_law_table", "_law_accepts", "_law_states"] (spM K M.f__law_classes) := by
  obtain ⟨fd, F⟩ := C.f__law_classes
  exact ⟨fd, okM F ar' rfl rfl (fun cdv A outer s H E hr =>
    (ab' (ag' (i := 3) ar'.nd rfl (by walk_at "1") dp')
      (ab' (bG' (passes_of rfl) rfl (bT' (ac' (pv 2))) (cf' 4 ar'.nd rfl (by walk_at "1") (by walk_at "2")) (af' (d3' ⟨rfl, rfl⟩ hr.units (bu' a6' dZ' rfl (C.free_int) (by decide +kernel) (fJ' gK' ue' (by rfl) (ac' (pv 4)) (ac' (pv 1)))) (pv 3) (ac' (pv 4)))))
      (ab' (ag' (i := 5) ar'.nd rfl (by walk_at "1") (bf' ae'))
      (ab' (bG' (passes_of rfl) rfl (aP' rfl (C.free_range) (cz' (aV' ⟨rfl, rfl⟩) dh' rfl (C.free_len) (by decide +kernel) (ac' (pv 2)))) (cf' 6 ar'.nd rfl (by walk_at "1") (by walk_at "2")) (ab' (ag' (i := 7) ar'.nd rfl (by walk_at "1") (p5' ⟨rfl, rfl⟩))
      (ab' (ag' (i := 8) ar'.nd rfl (by walk_at "1") dp')
      (ab' (bG' (passes_of rfl) rfl (bT' (ac' (pv 2))) (cf' 4 ar'.nd rfl (by walk_at "1") (by walk_at "2")) (ab' (ag' (i := 9) ar'.nd rfl (by walk_at "1") (bf' (gx' (aa' (cl' ⟨rfl, rfl⟩ hr.units (pv 3) (ac' (pv 4)) (fun _ _ => rfl)) (aa' (bu' (al' rfl) bj' rfl (C.free_tuple) (by decide +kernel) (eb' (own := [("_law_to", 10)]) rfl ar'.nd (bT' (cc' ix_seq e8' (ac' (pv 0)) (ac' (pv 4)) (fun _ _ => rfl))) (blkOk_by (own := [("_law_to", 10)]) (N := d8') (sc := defScope aJ') (by decide +kernel)) rfl (fun _ _ _ _ _ => (cf' 10 ar'.nd rfl (by walk_at "1") (by walk_at "2"))) (fun _ _ _ _ _ => bE') (fun _ _ _ _ _ => (cl' ⟨rfl, rfl⟩ hr.units (pv 3) (ac' (pv 10)) (fun _ _ => rfl))))) ai')))))
      (ab' (bv' (fi' ⟨rfl, rfl⟩ hr.units (ac' (pv 9)) (pv 7)) (af' (d3' ⟨rfl, rfl⟩ hr.units (bH' ⟨rfl, rfl⟩ rfl (C.free_len) (by decide +kernel) (pv 7)) (pv 7) (ac' (pv 9)))) aR')
      (af' (d3' ⟨rfl, rfl⟩ hr.units (cl' ⟨rfl, rfl⟩ hr.units (pv 7) (ac' (pv 9)) (fun _ _ => rfl)) (pv 8) (ac' (pv 4)))))))
      (ab' (ag' (i := 3) ar'.nd rfl (by walk_at "1") (bf' (ac' (pv 8))))
      (ab' (bv' (a4' (cm' hr.units) ll' (nomark _) (bH' ⟨rfl, rfl⟩ rfl (C.free_len) (by decide +kernel) (pv 7)) (ac' (pv 5))) (af' sd') aR')
      (af' (ag' (i := 5) ar'.nd rfl (by walk_at "1") (bf' (bH' ⟨rfl, rfl⟩ rfl (C.free_len) (by decide +kernel) (pv 7)))))))))))
      (af' (aH' (t0' (pv 3))))))))), hJ' F, F.kp, C.g__law_classes⟩
theorem eM' (C : Ctx Wd.w K mg) : Og Wd.P Wd.w K mg base 2 "_law_least" ["_law_table", "_law_accepts"] (spM K M.f__law_least) := by
  obtain ⟨fd, F⟩ := C.f__law_least
  exact ⟨fd, okM F ap' rfl rfl (fun cdv A outer s H E hr =>
    (ab' (ag' (i := 2) ap'.nd rfl (by walk_at "1") (cH' (aa' ae' ai')))
      (ab' (ag' (i := 3) ap'.nd rfl (by walk_at "1") (bf' ae'))
      (ab' (eu' M.rY' (passes_of rfl) (a4' gJ' vF' (nomark _) (ac' (pv 3)) (bH' ⟨rfl, rfl⟩ rfl (C.free_len) (by decide +kernel) (pv 2))) (ab' (bG' (passes_of rfl) rfl (bT' (cc' ix_seq e8' (ac' (pv 0)) (gy' (pv 2) (ac' (pv 3)) (fun _ _ => rfl)) (fun _ _ => rfl))) (cf' 4 ap'.nd rfl (by walk_at "1") (by walk_at "2")) (af' (bv' (pY' (ac' (pv 4)) (pv 2)) (af' (cG' (pv 2) (bf' (ac' (pv 4))))) aR')))
      (af' (ag' (i := 3) ap'.nd rfl (by walk_at "1") (bf' (aW' a9' cr' (ac' (pv 3)) ae'))))))
      (ab' (ag' (i := 5) ap'.nd rfl (by walk_at "1") (aj' (gO' C) (hr.mono (by walk_at "4")) rfl (takes_of rfl rfl rfl rfl) (aa' (ac' (pv 0)) (aa' (ac' (pv 1)) (aa' (ac' (pv 2)) ai')))))
      (ab' (ag' (i := 6) ap'.nd rfl (by walk_at "1") dp')
      (ab' (ag' (i := 7) ap'.nd rfl (by walk_at "1") (cH' ai'))
      (ab' (bG' (passes_of rfl) rfl (bT' (ac' (pv 2))) (cf' 8 ap'.nd rfl (by walk_at "1") (by walk_at "2")) (af' (bv' (fi' ⟨rfl, rfl⟩ hr.units (cl' ⟨rfl, rfl⟩ hr.units (pv 5) (ac' (pv 8)) (fun _ _ => rfl)) (pv 6)) (ab' (d3' ⟨rfl, rfl⟩ hr.units (bH' ⟨rfl, rfl⟩ rfl (C.free_len) (by decide +kernel) (pv 7)) (pv 6) (cl' ⟨rfl, rfl⟩ hr.units (pv 5) (ac' (pv 8)) (fun _ _ => rfl)))
      (af' (cG' (pv 7) (bf' (ac' (pv 8)))))) aR')))
      (ab' (ag' (i := 9) ap'.nd rfl (by walk_at "1") (bf' (bu' (al' rfl) bj' rfl (C.free_tuple) (by decide +kernel) (eb' (own := [("_law_state", 8)]) rfl ap'.nd (bT' (ac' (pv 7))) (blkOk_by (own := [("_law_state", 8)]) (N := cO') (sc := defScope aS') (by decide +kernel)) rfl (fun _ _ _ _ _ => (cf' 8 ap'.nd rfl (by walk_at "1") (by walk_at "2"))) (fun _ _ _ _ _ => bE') (fun _ _ _ _ _ => (bu' (al' rfl) bj' rfl (C.free_tuple) (by decide +kernel) (eb' (own := [("_law_to", 4)]) rfl ap'.nd (bT' (cc' ix_seq e8' (ac' (pv 0)) (ac' (pv 8)) (fun _ _ => rfl))) (blkOk_by (own := [("_law_to", 4)]) (N := cO') (by kernel_rfl)) rfl (fun _ _ _ _ _ => (cf' 4 ap'.nd rfl (by walk_at "1") (by walk_at "2"))) (fun _ _ _ _ _ => bE') (fun _ _ _ _ _ => (cl' ⟨rfl, rfl⟩ hr.units (pv 6) (cl' ⟨rfl, rfl⟩ hr.units (pv 5) (ac' (pv 4)) (fun _ _ => rfl)) (fun _ _ => rfl))))))))))
      (af' (aH' (bf' (gx' (aa' (ac' (pv 9)) (aa' (bu' (al' rfl) bj' rfl (C.free_tuple) (by decide +kernel) (eb' (own := [("_law_k", 10)]) rfl ap'.nd (aP' rfl (C.free_range) (bH' ⟨rfl, rfl⟩ rfl (C.free_len) (by decide +kernel) (pv 7))) (blkOk_by (own := [("_law_k", 10)]) (N := cO') (sc := defScope aS') (by decide +kernel)) rfl (fun _ _ _ _ _ => (cf' 10 ap'.nd rfl (by walk_at "1") (by walk_at "2"))) (fun _ _ _ _ _ => (ex' (a4' gK' ue' (by rfl) (gy' (pv 7) (ac' (pv 10)) (fun _ _ => rfl)) (ac' (pv 1))))) (fun _ _ _ _ _ => (ac' (pv 10))))) ai'))))))))))))))), kT' F, F.kp, C.g__law_least⟩
theorem j1' (C : Ctx Wd.w K mg) : Og Wd.P Wd.w K mg base 2 "_law_word" ["_law_hand_here", "_law_letters", "_law_many"] (spM K M.f__law_word) := by
  obtain ⟨fd, F⟩ := C.f__law_word
  exact ⟨fd, okM F cI' rfl rfl (fun cdv A outer s H E hr =>
    (ab' (ag' (i := 3) cI'.nd rfl (by walk_at "1") (bf' (p7' [] (by decide +kernel) (by decide +kernel))))
      (ab' (bG' (passes_of rfl) rfl (aP' rfl (C.free_range) (ac' (pv 2))) (cf' 4 cI'.nd rfl (by walk_at "1") (by walk_at "2")) (af' (ag' (i := 3) cI'.nd rfl (by walk_at "1") (bf' (aW' a9' cr' (ac' (pv 3)) (cc' ix_seq e8' (ac' (pv 1)) (cF' (aj' (aT' C) (hr.mono (by walk_at "4")) rfl (takes_of rfl rfl rfl rfl) (aa' (ac' (pv 0)) (aa' (cz' (aV' ⟨rfl, rfl⟩) dh' rfl (C.free_len) (by decide +kernel) (ac' (pv 1))) ai')))) (fun _ _ => rfl)))))))
      (af' (aH' (t0' (pv 3))))))), lQ' F, F.kp, C.g__law_word⟩
theorem bZ' (C : Ctx Wd.w K mg) : Og Wd.P Wd.w K mg base 2 "_law_is_machine" ["_law_found", "_law_letters", "_law_rows_here", "_law_yes"] (spM K M.f__law_is_machine) := by
  obtain ⟨fd, F⟩ := C.f__law_is_machine
  exact ⟨fd, okM F eD' rfl rfl (fun cdv A outer s H E hr =>
    (ab' (bv' (cx' (mZ' (t1' M.isT "Machine" C.is_Machine rfl (C.free_isinstance) (by decide +kernel) (ac' (pv 0)) (qF' rfl C.g_Machine)))) (af' (aH' (bf' dq'))) aR')
      (af' (aH' (bf' (fJ' (cm' hr.units) A4' (nomark _) (cz' (nQ' hr.units hr.g) zC' rfl (C.free_repr) (by decide +kernel) (gx' (aa' (cF' (ey' (ac' (pv 0)) (eN' C) (hr.mono (by decide)) C.ml_Machine_letters (takes_of rfl rfl rfl rfl))) (aa' (cF' (ey' (ac' (pv 0)) (f4' C) (hr.mono (by decide)) C.ml_Machine_table (takes_of rfl rfl rfl rfl))) (aa' (cF' (ey' (ac' (pv 0)) (eO' C) (hr.mono (by decide)) C.ml_Machine_accepts (takes_of rfl rfl rfl rfl))) ai'))))) (cz' (nQ' hr.units hr.g) zC' rfl (C.free_repr) (by decide +kernel) (gx' (aa' (ac' (pv 1)) (aa' (ac' (pv 2)) (aa' (ac' (pv 3)) ai'))))))))))), fC' F, F.kp, C.g__law_is_machine⟩
theorem hD' (C : Ctx Wd.w K mg) : Og Wd.P Wd.w K mg base 3 "_law_turned" ["_law_table", "_law_accepts", "_law_many"] (spM K M.f__law_turned) := by
  obtain ⟨fd, F⟩ := C.f__law_turned
  exact ⟨fd, okM F ao' rfl rfl (fun cdv A outer s H E hr =>
    (ab' (ag' (i := 3) ao'.nd rfl (by walk_at "1") (cH' (aa' (bu' (al' rfl) bj' rfl (C.free_tuple) (by decide +kernel) (eb' (own := [("_law_state", 10)]) rfl ao'.nd (aP' rfl (C.free_range) (cz' (aV' ⟨rfl, rfl⟩) dh' rfl (C.free_len) (by decide +kernel) (ac' (pv 0)))) (blkOk_by (own := [("_law_state", 10)]) (N := cu') (sc := defScope aF') (by decide +kernel)) rfl (fun _ _ _ _ _ => (cf' 10 ao'.nd rfl (by walk_at "1") (by walk_at "2"))) (fun _ _ _ _ _ => bE') (fun _ _ _ _ _ => (bu' a6' dZ' rfl (C.free_int) (by decide +kernel) (fJ' gK' ue' (by rfl) (ac' (pv 10)) (ac' (pv 1))))))) ai')))
      (ab' (ag' (i := 4) ao'.nd rfl (by walk_at "1") (jN' ⟨rfl, rfl⟩ hr.units (gy' (pv 3) ae' (fun _ _ => rfl)) ae'))
      (ab' (ag' (i := 5) ao'.nd rfl (by walk_at "1") (cH' ai'))
      (ab' (ag' (i := 6) ao'.nd rfl (by walk_at "1") (bf' ae'))
      (ab' (eu' M.rY' (passes_of rfl) (a4' gJ' vF' (nomark _) (ac' (pv 6)) (bH' ⟨rfl, rfl⟩ rfl (C.free_len) (by decide +kernel) (pv 3))) (ab' (ag' (i := 7) ao'.nd rfl (by walk_at "1") (cH' ai'))
      (ab' (bG' (passes_of rfl) rfl (aP' rfl (C.free_range) (ac' (pv 2))) (cf' 8 ao'.nd rfl (by walk_at "1") (by walk_at "2")) (ab' (ag' (i := 9) ao'.nd rfl (by walk_at "1") (bf' (bu' (al' rfl) bj' rfl (C.free_tuple) (by decide +kernel) (eb' (own := [("_law_state", 10)]) rfl ao'.nd (aP' rfl (C.free_range) (cz' (aV' ⟨rfl, rfl⟩) dh' rfl (C.free_len) (by decide +kernel) (ac' (pv 0)))) (blkOk_by (own := [("_law_state", 10)]) (N := cu') (sc := defScope aF') (by decide +kernel)) rfl (fun _ _ _ _ _ => (cf' 10 ao'.nd rfl (by walk_at "1") (by walk_at "2"))) (fun _ _ _ _ _ => bE') (fun _ _ _ _ _ => (cc' ix_seq e8' (gy' (pv 3) (ac' (pv 6)) (fun _ _ => rfl)) (cc' ix_seq e8' (cc' ix_seq e8' (ac' (pv 0)) (ac' (pv 10)) (fun _ _ => rfl)) (ac' (pv 8)) (fun _ _ => rfl)) (fun _ _ => rfl)))))))
      (ab' (bv' (fi' ⟨rfl, rfl⟩ hr.units (ac' (pv 9)) (pv 4)) (ab' (d3' ⟨rfl, rfl⟩ hr.units (bH' ⟨rfl, rfl⟩ rfl (C.free_len) (by decide +kernel) (pv 3)) (pv 4) (ac' (pv 9)))
      (af' (cG' (pv 3) (bf' (ac' (pv 9)))))) aR')
      (af' (cG' (pv 7) (bf' (cl' ⟨rfl, rfl⟩ hr.units (pv 4) (ac' (pv 9)) (fun _ _ => rfl))))))))
      (ab' (cG' (pv 5) (bf' (bu' (al' rfl) bj' rfl (C.free_tuple) (by decide +kernel) (ac' (pv 7)))))
      (af' (ag' (i := 6) ao'.nd rfl (by walk_at "1") (bf' (aW' a9' cr' (ac' (pv 6)) ae'))))))))
      (af' (aH' (aj' (eM' C) (hr.mono (by walk_at "4")) rfl (takes_of rfl rfl rfl rfl) (aa' (bu' (al' rfl) bj' rfl (C.free_tuple) (by decide +kernel) (ac' (pv 5))) (aa' (bu' (al' rfl) bj' rfl (C.free_tuple) (by decide +kernel) (eb' (own := [("_law_k", 8)]) rfl ao'.nd (aP' rfl (C.free_range) (bH' ⟨rfl, rfl⟩ rfl (C.free_len) (by decide +kernel) (pv 3))) (blkOk_by (own := [("_law_k", 8)]) (N := cu') (sc := defScope aF') (by decide +kernel)) rfl (fun _ _ _ _ _ => (cf' 8 ao'.nd rfl (by walk_at "1") (by walk_at "2"))) (fun _ _ _ _ _ => (ex' (a4' (cm' hr.units) ll' (nomark _) (cc' ix_seq e8' (gy' (pv 3) (ac' (pv 8)) (fun _ _ => rfl)) ae' (fun _ _ => rfl)) ae'))) (fun _ _ _ _ _ => (ac' (pv 8))))) ai'))))))))))), i8' F, F.kp, C.g__law_turned⟩
end
end S
namespace S
open PySem PySem.Spec PyProof.Rows L2
section
variable [Wd] {K : PySem.W.Frag} {mg : Str -> Option Value} {base : Heap}
theorem yJ' (C : Ctx Wd.w K mg) {fd : FuncData} (F : FunD K "law" "law" (defArgs hB') (defBody hB') (defScope hB') [] [] (He.ga K "law") fd) : FnG Wd.P Wd.w K mg base (L2.CX Wd.P Wd.w) 6 (He.ga K "law") fd ["_law_script"] (spM K M.f_law) :=
  okM F cU' rfl rfl (fun cdv A outer s H E hr =>
    (ab' (ag' (i := 1) cU'.nd rfl (by walk_at "1") (aj' (j2' C) (hr.mono (by walk_at "4")) rfl (takes_of rfl rfl rfl rfl) (aa' (ac' (pv 0)) ai')))
      (ab' (pZ' (cF' (aj' (iK' C) (hr.mono (by walk_at "4")) rfl (takes_of rfl rfl rfl rfl) (aa' (ac' (pv 1)) (aa' ae' (aa' ae' ai'))))) (wP' (n := 3) rfl rfl rfl rfl (bK' rfl (cf' 2 cU'.nd rfl (by walk_at "1") (by walk_at "2")) (bK' rfl (cf' 3 cU'.nd rfl (by walk_at "1") (by walk_at "2")) (bK' rfl (cf' 4 cU'.nd rfl (by walk_at "1") (by walk_at "2")) fk')))))
      (ab' (ag' (i := 5) cU'.nd rfl (by walk_at "1") (k9' (eg' C) (hr.mono (by decide)) rfl C.mk_Machine C.g_Machine (takes_of rfl rfl rfl rfl) (aa' (ac' (pv 2)) (aa' (ac' (pv 3)) (aa' (ac' (pv 4)) ai')))))
      (ab' (pZ' (cF' (aj' (hD' C) (hr.mono (by walk_at "4")) rfl (takes_of rfl rfl rfl rfl) (aa' (ac' (pv 3)) (aa' (ac' (pv 4)) (aa' (cz' (aV' ⟨rfl, rfl⟩) dh' rfl (C.free_len) (by decide +kernel) (ac' (pv 2))) ai'))))) (wP' (n := 2) rfl rfl rfl rfl (bK' rfl (cf' 6 cU'.nd rfl (by walk_at "1") (by walk_at "2")) (bK' rfl (cf' 7 cU'.nd rfl (by walk_at "1") (by walk_at "2")) fk'))))
      (ab' (ag' (i := 8) cU'.nd rfl (by walk_at "1") (aj' (c4' C) (hr.mono (by walk_at "4")) rfl (takes_of rfl rfl rfl rfl) (aa' (ac' (pv 5)) ai')))
      (ab' (bv' (cx' (mZ' (cF' (aj' (bZ' C) (hr.mono (by walk_at "4")) rfl (takes_of rfl rfl rfl rfl) (aa' (ac' (pv 8)) (aa' (ac' (pv 2)) (aa' (ac' (pv 6)) (aa' (ac' (pv 7)) ai')))))))) (af' (aH' (bf' dq'))) aR')
      (ab' (pZ' (cF' (aj' (eM' C) (hr.mono (by walk_at "4")) rfl (takes_of rfl rfl rfl rfl) (aa' (ac' (pv 3)) (aa' (ac' (pv 4)) ai')))) (wP' (n := 2) rfl rfl rfl rfl (bK' rfl (cf' 6 cU'.nd rfl (by walk_at "1") (by walk_at "2")) (bK' rfl (cf' 7 cU'.nd rfl (by walk_at "1") (by walk_at "2")) fk'))))
      (ab' (bv' (tY' (k4' (cx' (mZ' (cF' (aj' (bZ' C) (hr.mono (by walk_at "4")) rfl (takes_of rfl rfl rfl rfl) (aa' (cF' (aj' (c4' C) (hr.mono (by walk_at "4")) rfl (takes_of rfl rfl rfl rfl) (aa' (ac' (pv 8)) ai'))) (aa' (ac' (pv 2)) (aa' (ac' (pv 6)) (aa' (ac' (pv 7)) ai')))))))) (hU' (xu' (cV' C) (hr.mono (by decide)) C.ne_Machine (cF' (aj' (c4' C) (hr.mono (by walk_at "4")) rfl (takes_of rfl rfl rfl rfl) (aa' (ac' (pv 8)) ai'))) (cF' (aj' (iG' C) (hr.mono (by walk_at "4")) rfl (takes_of rfl rfl rfl rfl) (aa' (ac' (pv 5)) ai'))))))) (af' (aH' (bf' dq'))) aR')
      (ab' (bG' (passes_of rfl) rfl (aP' rfl (C.free_range) ae') (cf' 9 cU'.nd rfl (by walk_at "1") (by walk_at "2")) (ab' (ag' (i := 10) cU'.nd rfl (by walk_at "1") (aj' (j1' C) (hr.mono (by walk_at "4")) rfl (takes_of rfl rfl rfl rfl) (aa' (ac' (pv 1)) (aa' (ac' (pv 2)) (aa' (cF' (aj' (aT' C) (hr.mono (by walk_at "4")) rfl (takes_of rfl rfl rfl rfl) (aa' (ac' (pv 1)) (aa' ae' ai')))) ai')))))
      (af' (bv' (a4' (ub' hr.units) Cp' (nomark _) (cF' (aj' (qI' C) (hr.mono (by walk_at "4")) rfl (takes_of rfl rfl rfl rfl) (aa' (ac' (pv 8)) (aa' (ac' (pv 10)) ai')))) (cF' (aj' (qI' C) (hr.mono (by walk_at "4")) rfl (takes_of rfl rfl rfl rfl) (aa' (ac' (pv 5)) (aa' (vc' (ac' (pv 10))) ai'))))) (af' (aH' (bf' dq'))) aR'))))
      (af' (aH' (bf' (m7' (cF' (aj' (bZ' C) (hr.mono (by walk_at "4")) rfl (takes_of rfl rfl rfl rfl) (aa' (ac' (pv 5)) (aa' (ac' (pv 2)) (aa' (ac' (pv 3)) (aa' (ac' (pv 4)) ai')))))) (m6' (xC' (cV' C) (hr.mono (by decide)) C.eq_Machine (cF' (aj' (c4' C) (hr.mono (by walk_at "4")) rfl (takes_of rfl rfl rfl rfl) (aa' (ac' (pv 5)) ai'))) (ac' (pv 8))))))))))))))))))
end
end S
open PySem PySem.W PySem.Calls PyProof.Rows
set_option maxRecDepth 100000 in
set_option maxHeartbeats 0 in
theorem PySem.Challenge.cw_saidacross_k80_words_from_behind_holds : PySem.Challenge.rw_saidacross_k80_words_from_behind.Holds := by
  w_on; o_law
  refine HandSHeadRun.head_any (r := OpenLaw.row PySem.Challenge.rw_saidacross_k80_words_from_behind) (q := view (OpenLaw.row PySem.Challenge.rw_saidacross_k80_words_from_behind).prog [39]) (H := S.hk) (ob := S.ob) (loose := S.loose) (d := HandSHeadRun.topDef (OpenLaw.row PySem.Challenge.rw_saidacross_k80_words_from_behind).prog 39) (kwd := []) S.A1'
    (by kernel_rfl) (fun s => by kernel_rfl) S.run (by kernel_rfl) (by kernel_rfl) (by kernel_rfl) (by rfl) (by first | assumption | decide +kernel) (by decide +kernel) ⟨rfl, rfl, rfl, rfl, rfl, by decide +kernel⟩ ?hw ?hc
  case hw => w_witness2
  case hc =>
    refine S.r2' (l := PySem.Challenge.rw_saidacross_k80_words_from_behind) (n := 63) (k := 6) (x := "_law_script") (CX := L2.CX0) rfl (by decide) (by kernel_rfl) ⟨rfl, by decide, by decide⟩ ?F (fun H s e s' z => z)
    intro w mg fa h Y G hmg0
    obtain ⟨K, KX, c⟩ := Y
    letI : S.Wd := ⟨(PySem.Challenge.rw_saidacross_k80_words_from_behind).prog, w, []⟩
    have C : S.Ctx S.Wd.w K mg := ⟨⟨_, c⟩, h, KX, G⟩
    have hmg : mg ("law" : PySem.Str) = some (.ref fa) := by
      have e : (HandSHeadRun.topDef (OpenLaw.row PySem.Challenge.rw_saidacross_k80_words_from_behind).prog 39).name = ("law" : PySem.Str) := by kernel_rfl
      rw [<- e]
      exact hmg0
    obtain rfl : fa = He.ga K "law" := by
      have e := C.g_law
      rw [hmg] at e
      exact PySem.Value.ref.inj (Option.some.inj e)
    obtain ⟨fd, F⟩ := C.f_law
    refine ⟨K, fd, fun vs H Q _ => S.spM K M.f_law vs H Q L2.E0, KX, fun s u => ?_, ?_, fun base X N => ?_⟩
    . exact F.bindsA (ps := ["_law_script"]) (fun _ _ _ _ _ _ us hl => match us, hl with | [_], _ => rfl) s [u] rfl
    . intro H a ns hn _ hs
      exact S.q9' K H (fun p z => absurd (show p ∈ ([] : List (Addr × Str)) from z) List.not_mem_nil) a ns hn hs M.law_true
    . exact S.FnG.to0 (S.yJ' (base := base) C F)
