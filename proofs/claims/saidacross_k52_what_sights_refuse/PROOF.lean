import PyProof.Rows.All
import Wide.All
import OpenK.AllK
import Wide.FinOn
import KE.KStateDown
import KE.GoesNew
import HandS.ForMost
import HandS.Exc
import HandS.TryOnly
import HandS.TryMany
import HandS.ExcOwn
import HandS.ExcBuiltin
import HandS.Small
import HandS.WordsExc
import HandS.IsInst
import HandS.StrMore
import HandS.TupAny
import HandS.Zip
import HandS.Defaults
import HandS.Head0
import HandS.Head1
import HandS.Head2
import HandS.HeadEnd
import HandS.HeadHook1
import HandS.HeadHook2
import HandS.Walk
import KE.GoesMore
import HandS.Iter
import PyProof.CollectStr
import HandS.Conv
import PyProof.ListStr
import PyProof.TupleOfStr
import HandS.Lambda
import HandS.Style
import KE.KDictKeyed
import HandS.Wide
import KE.KTupTabMore
import HandS.Rev
import HandS.RevRange
import HandS.SortInts
import HandS.ExcIs
import HandS.ExcField
import HandS.Rindex
import HandS.HeadHook4
import PyProof.StrLawsFrom
import PyProof.Rows.RegReprOcc
import PyProof.Rows.StrLast
import KE.KDictDisplayH
import HandS.SetKeys
import HandS.DictComp
import HandS.More
import PyProof.ReprBulk
import PyProof.ReprRoads
import PyProof.CallFns
import PyProof.RowDictHeap
import PyProof.Rows.StrRev
import KE.KRevSl
import HandS.Deep
import HandS.Call
import KE.KExcSuper
import HandS.TupMul
import HandS.ReplaceLit
import HandS.ReplaceList
import KE.KDictZip
import PyProof.ListNew
import HandS.ListItems
import HandS.Zip0
import HandS.TupSets
import KE.SortKeyHeap
import KE.KLam
import HandS.SortKw
import HandS.EndTab
import KE.KItemsList
import HandS.NoneIn
import KE.DataMinKey
import KE.DataFind
import KE.DatumOrd
import HandS.Finally
import HandS.Strs
import HandS.Nested
import PyProof.Rows.Walk
import PySem.Challenge.RW_saidacross_k52_what_sights_refuse
set_option Elab.async false
set_option linter.all false
set_option maxRecDepth 100000
set_option maxHeartbeats 4000000
local macro_rules | `(tactic| walk_at "1") => `(tactic| first | exact Or.inl rfl | exact Or.inr rfl)
local macro_rules | `(tactic| walk_at "2") => `(tactic| first | exact Or.inl rfl | exact Or.inr rfl | assumption)
local macro_rules | `(tactic| walk_at "3") => `(tactic| exact ⟨rfl, rfl, rfl, by decide +kernel, rfl, by decide +kernel, by decide +kernel⟩)
local macro_rules | `(tactic| walk_at "4") => `(tactic| first | decide | omega)
namespace M
abbrev Tx := List Nat
abbrev d2' : Nat := 16777216
inductive D where
  | non | bl (b : Bool) | int (i : Int) | str (s : Tx)
  | tup (ds : List D) | lst (ds : List D) | dct (ks vs : List D)
  | obj (n : Nat) | ty (x : String) | fn (x : String) | exc (x : String) (ds : List D)
  | scr (ds : List D)
  /-- a dict whose keys are bools, or tuples; the text that repr gives -/
  | dcx (ks vs : List D) | rep (d : D)
  deriving Inhabited
inductive O where
  | fz (d : D) | lst (os : List O) | dct (ks : List D) (vs : List O) | tup (os : List O) | dcx (ks : List D) (vs : List O) | exn | clo
  deriving Inhabited
inductive Ob where
  | lst (os : List O) | dct (ks : List D) (vs : List O) | ins (C : String) (fs : List (String × O)) | dcx (ks : List D) (vs : List O)
abbrev W := List Ob
structure PSt where
  env : List (Option O)
  w : W
structure Exc where
  cls : String
  fs : List (String × D)
inductive Res (α : Type) where
  | ok (a : α) (ρ : PSt) | exc (x : Exc) (ρ : PSt) | bad
inductive Out where
  | nx (ρ : PSt) | rt (o : O) (w : W) | bk (ρ : PSt) | ct (ρ : PSt) | exc (x : Exc) (ρ : PSt) | bad
inductive FRes where
  | ok (o : O) (w : W) | exc (x : Exc) (w : W) | bad
def va' : O -> Bool
  | .exn => false
  | .clo => false
  | _ => true
theorem gV' {o : O} (h : o ≠ .exn) (k : o ≠ .clo) : va' o = true := by
  cases o <;> first | rfl | exact absurd rfl h | exact absurd rfl k
mutual
def frz : O -> D
  | .fz d => d
  | .lst os => .lst (frzs os)
  | .dct ks vs => .dct ks (frzs vs)
  | .tup os => .tup (frzs os)
  | .dcx ks vs => .dcx ks (frzs vs)
  | .exn => .non
  | .clo => .non
def frzs : List O -> List D
  | [] => []
  | o :: r => frz o :: frzs r
end
@[simp] theorem lY' (ds : List D) : frzs (ds.map .fz) = ds := by
  induction ds with
  | nil => rfl
  | cons d r ih => simp [frzs, frz, ih]
theorem lZ' (os : List O) : frzs os = os.map frz := by
  induction os with
  | nil => rfl
  | cons d r ih => simp [frzs, ih]
mutual
/-- data that == compares, at most so deep -/
def dep : D -> Nat
  | .tup ds => deps ds + 1
  | .lst ds => deps ds + 1
  | _ => 0
def deps : List D -> Nat
  | [] => 0
  | d :: r => max (dep d) (deps r)
end
mutual
def dat : D -> Bool
  | .non => true | .bl _ => true | .int _ => true | .str _ => true
  | .tup ds => dats ds
  | .lst ds => dats ds
  | _ => false
def dats : List D -> Bool
  | [] => true
  | d :: r => dat d && dats r
end
mutual
def eqb : D -> D -> Bool
  | .non, .non => true
  | .bl a, .bl b => a == b
  | .bl a, .int j => (if a then 1 else 0) == j
  | .int i, .bl b => i == (if b then 1 else 0)
  | .int i, .int j => i == j
  | .str x, .str y => x == y
  | .lst xs, .lst ys => eqbs xs ys
  | .tup xs, .tup ys => eqbs xs ys
  | _, _ => false
def eqbs : List D -> List D -> Bool
  | [], [] => true
  | x :: xs, y :: ys => eqb x y && eqbs xs ys
  | _, _ => false
end
def eqv (d e : D) : Option Bool := if dat d = true /\ dat e = true /\ dep d <= 64 /\ dep e <= 64 then some (eqb d e) else none
def lJ' : D -> Bool
  | .non => true
  | .bl _ => true
  | .int _ => true
  | .str _ => true
  | _ => false
def ob (o : Option Bool) : Option D := o.map .bl
def pEq (x y : D) : Option D := ob (eqv x y)
def pNe (x y : D) : Option D := ob ((eqv x y).map (!·))
def cB' : D -> Bool
  | .non => true
  | _ => false
def pIs : D -> D -> Option D
  | x, .non => some (.bl (cB' x))
  | .bl a, .bl b => some (.bl (a == b))
  | _, _ => none
def er' (x y : D) : Option D := match pIs x y with | some (.bl b) => some (.bl (!b)) | _ => none
def pLt : D -> D -> Option D
  | .int i, .int j => some (.bl (decide (i < j)))
  | .str a, .str b => some (.bl (decide (a < b)))
  | _, _ => none
def pLe : D -> D -> Option D
  | .int i, .int j => some (.bl (decide (i <= j)))
  | .str a, .str b => some (.bl (!decide (b < a)))
  | _, _ => none
def pGt : D -> D -> Option D
  | .int i, .int j => some (.bl (decide (j < i)))
  | .str a, .str b => some (.bl (decide (b < a)))
  | _, _ => none
def pGe : D -> D -> Option D
  | .int i, .int j => some (.bl (decide (j <= i)))
  | .str a, .str b => some (.bl (!decide (a < b)))
  | _, _ => none
def bz' : D -> D -> Option D
  | .int i, .int j => some (.int (i + j))
  | .str a, .str b => if a.length + b.length <= d2' then some (.str (a ++ b)) else none
  | .lst a, .lst b => if a.length + b.length <= d2' then some (.lst (a ++ b)) else none
  | .tup a, .tup b => if a.length + b.length <= d2' then some (.tup (a ++ b)) else none
  | _, _ => none
def rA' : D -> D -> Option D
  | .int i, .int j => some (.int (i + j))
  | _, _ => none
def tg' : D -> D -> Option D
  | .int i, .int j => some (.int (i - j))
  | _, _ => none
def bj' (i : Int) : Bool := decide (-(2 ^ 64) < i) && decide (i < 2 ^ 64)
def eq' : D -> D -> Option D
  | .int i, .int j => if (bj' i = true \/ bj' j = true) \/ ((-2582249878086908589655919172003011874329705792829223512830659356540647622016841194629645353280137831435903171972747493376 < i /\ i < 2582249878086908589655919172003011874329705792829223512830659356540647622016841194629645353280137831435903171972747493376) /\ (-2582249878086908589655919172003011874329705792829223512830659356540647622016841194629645353280137831435903171972747493376 < j /\ j < 2582249878086908589655919172003011874329705792829223512830659356540647622016841194629645353280137831435903171972747493376)) then some (.int (i * j)) else none
  | .str a, .int j => if j < 2 ^ 62 /\ -(2 ^ 62) <= j /\ a.length * j.toNat <= d2' then some (.str (List.replicate j.toNat a).flatten) else none
  | .lst a, .int j => if j < 2 ^ 62 /\ -(2 ^ 62) <= j /\ a.length * j.toNat <= d2' then some (.lst (List.replicate j.toNat a).flatten) else none
  | _, _ => none
def fW' : D -> D -> Option D
  | .int i, .int j => if 0 < j /\ j < 1606938044258990275541962092341162602522202993782792835301376 then some (.int (i / j)) else none
  | _, _ => none
def lu' : D -> D -> Option D
  | .int i, .int j => if 0 < j then some (.int (i % j)) else none
  | _, _ => none
def ry' : D -> D -> Option D
  | .int i, .int j => if 0 <= j /\ j <= 1000 /\ bj' i = true then some (.int (i ^ j.toNat)) else none
  | _, _ => none
def ve' : D -> Option D
  | .int i => some (.int (-i))
  | _ => none
def chD (c : Nat) : D := .str [c]
def ixn (n : Nat) (i : Int) : Option Nat := if 0 <= i then (if i < n then some i.toNat else none) else (if -(n : Int) <= i then some (i + n).toNat else none)
def ati {α : Type} (xs : List α) (i : Int) : Option α := (ixn xs.length i).bind fun j => xs[j]?
def six (n : Nat) (d : Nat) : Option Int -> Nat
  | none => d
  | some i => if i < 0 then (i + (n : Int)).toNat else min i.toNat n
def cut {α : Type} (xs : List α) (lo hi : Option Int) : List α := (xs.drop (six xs.length 0 lo)).take (six xs.length xs.length hi - six xs.length 0 lo)
def cm' : D -> Option (List D)
  | .lst xs => some xs
  | .tup xs => some xs
  | .str s => some (s.map chD)
  | _ => none
def sca : D -> Bool
  | .non => true | .bl _ => true | .int _ => true | .str _ => true
  | _ => false
def pIn : D -> D -> Option D
  | .str [c], .str s => some (.bl (decide (c ∈ s)))
  | x, .lst ds => if sca x = true /\ ds.all sca = true then some (.bl (ds.any fun d => eqb d x)) else none
  | x, .tup ds => if sca x = true /\ ds.all sca = true then some (.bl (ds.any fun d => eqb d x)) else none
  | _, _ => none
mutual
def kat : D -> Bool
  | .non => true | .bl _ => true | .int _ => true | .str _ => true
  | .tup ds => kats ds
  | _ => false
def kats : List D -> Bool
  | [] => true
  | d :: r => kat d && kats r
end
def t5' (ks : List D) (k : D) : Bool := kat k && decide (dep k <= 8) && ks.all (fun d => sca d == sca k)
def qu' (ks : List D) (k : D) : Option Nat := ks.findIdx? fun d => eqb d k
def isK : D -> Bool
  | .int _ => true | .str _ => true
  | _ => false
def dget {α : Type} (ks : List D) (vs : List α) (k : D) : Option α := (qu' ks k).bind fun j => vs[j]?
def jy' : O -> D -> Option (Option O)
  | .dct ks os, k => if isK k = true then some (dget ks os k) else none
  | .dcx ks os, k => if t5' ks k = true then some (dget ks os k) else none
  | .fz (.dct ks vs), k => if isK k = true then some (dget ks (vs.map .fz) k) else none
  | .fz (.dcx ks vs), k => if t5' ks k = true then some (dget ks (vs.map .fz) k) else none
  | _, _ => none
def ru' {α : Type} (ks : List D) (os : List α) (k : D) (o : α) : Option (List D × List α) := match qu' ks k with
  | some j => some (ks, os.set j o)
  | none => if ks.length < d2' then some (ks ++ [k], os ++ [o]) else none
def tS' : O -> D -> O -> Option O
  | .dct ks os, k, o => if isK k = true then (ru' ks os k o).map fun p => .dct p.1 p.2 else none
  | .dcx ks os, k, o => if t5' ks k = true then (ru' ks os k o).map fun p => .dcx p.1 p.2 else none
  | _, _, _ => none
def ep' (x y : D) : Option D := match pIn x y with | some (.bl b) => some (.bl (!b)) | _ => none
def bN' : D -> Option D
  | .str s => some (.int s.length)
  | .lst ds => some (.int ds.length)
  | .tup ds => some (.int ds.length)
  | .dct ks _ => some (.int ks.length)
  | .dcx ks _ => some (.int ks.length)
  | _ => none
def pIx : D -> D -> Option D
  | .str s, .int i => (ati s i).map chD
  | .lst ds, .int i => ati ds i
  | .tup ds, .int i => ati ds i
  | _, _ => none
def pSl (d : D) (lo hi : Option Int) : Option D := match d with
  | .str s => some (.str (cut s lo hi))
  | .lst s => some (.lst (cut s lo hi))
  | .tup s => some (.tup (cut s lo hi))
  | .scr s => some (.lst (cut s lo hi))
  | _ => none
def th' : D -> Option D
  | .str s => some (.str s.reverse)
  | .lst s => some (.lst s.reverse)
  | _ => none
def ci' : List D -> Option (List Tx)
  | [] => some []
  | .str s :: r => (ci' r).map (s :: ·)
  | _ :: _ => none
def bO' (sep : Tx) : List Tx -> Tx
  | [] => []
  | [x] => x
  | x :: y :: r => x ++ (sep ++ bO' sep (y :: r))
def dF' (a : Tx) : List D -> Option D
  | [.lst ds] => (ci' ds).bind fun ys => if (ys.map List.length).sum + ys.length * a.length <= d2' then some (.str (bO' a ys)) else none
  | [.tup ds] => (ci' ds).bind fun ys => if (ys.map List.length).sum + ys.length * a.length <= d2' then some (.str (bO' a ys)) else none
  | _ => none
def bP' : List D -> Option (List Int)
  | [] => some []
  | .int b :: r => (bP' r).map (b :: ·)
  | _ :: _ => none
def qr' : D -> Option D
  | .lst ds => (bP' ds).map fun ns => .int ns.sum
  | _ => none
def mM' (l : List Nat) : List Nat := l.mergeSort fun a b => decide (a <= b)
def tK' (l : List Int) : List Int := l.mergeSort fun a b => decide (a <= b)
def om' : List D -> Option (List Nat)
  | [] => some []
  | .str [c] :: r => (om' r).map (c :: ·)
  | _ => none
def lt' : D -> Option D
  | .str s => if s.length < 64 then some (.lst ((mM' s).map chD)) else none
  | .lst ds => match bP' ds with
    | some ns => some (.lst ((tK' ns).map .int))
    | none => (om' ds).bind fun cs => if cs.length < 64 then some (.lst ((mM' cs).map chD)) else none
  | _ => none
def qv' (a b : Tx) (i : Nat) : Bool := decide (i + b.length <= a.length) && decide ((a.drop i).take b.length = b)
def gR' (a b : Tx) : Option Nat := (List.range (a.length + 1)).find? (qv' a b)
def fnd (o : Option Nat) : Int := match o with | some i => (i : Int) | none => -1
def jx' (a : Tx) : List D -> Option D
  | [.str b] => some (.int (fnd (gR' a b)))
  | _ => none
def eu' (a : Tx) : List D -> Option D
  | [.str b] => (gR' a b).map fun (i : Nat) => D.int (Int.ofNat i)
  | _ => none
def ta' (c : Nat) : Tx -> List Tx
  | [] => [[]]
  | x :: r => if x = c then [] :: ta' c r else (match ta' c r with
    | [] => [[x]]
    | y :: ys => (x :: y) :: ys)
def rJ' (a : Tx) : List D -> Option D
  | [.str [c]] => if c < 128 /\ a.length + 2 <= d2' then some (.lst ((ta' c a).map .str)) else none
  | _ => none
def vl' (n : Nat) : Tx := (Nat.toDigits 10 n).map Char.toNat
def vH' : D -> Option D
  | .int i => if 0 <= i /\ i < 1000000000000000000000000000000000000000000000000000000000000 then some (.str (vl' i.toNat)) else none
  | _ => none
def up1 (c : Nat) : Nat := if 97 <= c /\ c <= 122 then c - 32 else c
def ol' : D -> Option D
  | .str s => if s.all (fun c => decide (c < 128)) = true /\ s.length <= 5592405 then some (.str (s.map up1)) else none
  | _ => none
def bools : List D -> Option (List Bool)
  | [] => some []
  | .bl b :: r => (bools r).map (b :: ·)
  | _ :: _ => none
def qs' : D -> Option D
  | .lst ds => (bools ds).map fun bs => .bl (bs.all id)
  | _ => none
def vf' : D -> Option D
  | .lst ds => (bools ds).map fun bs => .bl (bs.any id)
  | _ => none
def tW' : D -> Option D
  | .lst ds => some (.lst ds)
  | .tup ds => some (.lst ds)
  | .str s => some (.lst (s.map chD))
  | _ => none
def cx' : D -> Option D
  | .str s => some (.lst (s.map chD))
  | d => tW' d
def ck' : D -> Option D
  | .str s => some (.tup (s.map chD))
  | .lst ds => some (.tup ds)
  | .tup ds => some (.tup ds)
  | _ => none
def jp' : D -> Option D
  | .int i => some (.int i)
  | .bl b => some (.int (if b then 1 else 0))
  | _ => none
def ti' : D -> Option D
  | .int i => some (.int (if i < 0 then -i else i))
  | _ => none
def lv' : D -> D -> Option D
  | .int i, .int j => some (.int (if j > i then j else i))
  | _, _ => none
def rz' : D -> D -> Option D
  | .int i, .int j => some (.int (if j < i then j else i))
  | _, _ => none
def tyn : D -> Option String
  | .non => some "NoneType" | .bl _ => some "bool" | .int _ => some "int" | .str _ => some "str"
  | .tup _ => some "tuple" | .lst _ => some "list" | .dct _ _ => some "dict"
  | _ => none
def bp' (t : String) (d : D) : Option D := (tyn d).map fun n => .bl (n == t || (n == "bool" && t == "int"))
abbrev ME := PSt -> Res D
abbrev MO := PSt -> Res O
abbrev MA := PSt -> Res (List D)
abbrev MT := PSt -> Res Bool
abbrev MS := PSt -> Out
abbrev MF := List D -> W -> FRes
abbrev MG := D -> PSt -> Option PSt
abbrev MI := PSt -> Res (List D)
@[simp] def Res.bind {α β : Type} (r : Res α) (f : α -> PSt -> Res β) : Res β := match r with
  | .ok a ρ => f a ρ
  | .exc x ρ => .exc x ρ
  | .bad => .bad
@[simp] def Res.out {α : Type} (r : Res α) (f : α -> PSt -> Out) : Out := match r with
  | .ok a ρ => f a ρ
  | .exc x ρ => .exc x ρ
  | .bad => .bad
@[simp] def ofO {α : Type} (o : Option α) (ρ : PSt) : Res α := match o with
  | some a => .ok a ρ
  | none => .bad
@[simp] def eC (d : D) : ME := fun ρ => .ok d ρ
@[simp] def eV (i : Nat) : ME := fun ρ => match ρ.env[i]? with
  | some (some (.fz d)) => .ok d ρ
  | some (some .exn) => .bad
  | some (some .clo) => .bad
  | some (some o) => .ok (frz o) ⟨ρ.env.set i (some (.fz (frz o))), ρ.w⟩
  | _ => .bad
@[simp] def eOp (f : D -> D -> Option D) (a b : ME) : ME := fun ρ => (a ρ).bind fun x ρ1 => (b ρ1).bind fun y ρ2 => ofO (f x y) ρ2
@[simp] def eUn (f : D -> Option D) (a : ME) : ME := fun ρ => (a ρ).bind fun x ρ1 => ofO (f x) ρ1
@[simp] def asB (d : D) (ρ : PSt) : Res Bool := match d with
  | .bl b => .ok b ρ
  | _ => .bad
@[simp] def qx' (a b : ME) : ME := fun ρ => (a ρ).bind fun x ρ1 => (asB x ρ1).bind fun k ρ1 => if k = true then b ρ1 else .ok (.bl false) ρ1
@[simp] def aH' : MA := fun ρ => .ok [] ρ
@[simp] def ab' (a : ME) (r : MA) : MA := fun ρ => (a ρ).bind fun x ρ1 => (r ρ1).bind fun xs ρ2 => .ok (x :: xs) ρ2
@[simp] def jU' (as : MA) : ME := fun ρ => (as ρ).bind fun xs ρ1 => if xs.length <= d2' then .ok (.tup xs) ρ1 else .bad
@[simp] def cK' (as : MA) : ME := fun ρ => (as ρ).bind fun xs ρ1 => if xs.length <= d2' then .ok (.lst xs) ρ1 else .bad
@[simp] def eMt (f : Tx -> List D -> Option D) (a : ME) (as : MA) : ME := fun ρ => (a ρ).bind fun x ρ1 => match x with
  | .str s => (as ρ1).bind fun ds ρ2 => ofO (f s ds) ρ2
  | _ => .bad
def lF' (ds : List D) : List D -> Option D
  | [.int v] => (bP' ds).bind fun ns => if v ∈ ns then some (.int ((ns.idxOf v : Nat) : Int)) else none
  | _ => none
abbrev MP := PSt -> Res (Option Int)
@[simp] def pNo : MP := fun ρ => .ok none ρ
@[simp] def pSo (a : ME) : MP := fun ρ => (a ρ).bind fun x ρ1 => match x with | .int i => .ok (some i) ρ1 | _ => .bad
@[simp] def eSl (a : ME) (lo hi : MP) : ME := fun ρ => (a ρ).bind fun x ρ1 => (lo ρ1).bind fun l ρ2 => (hi ρ2).bind fun h ρ3 => ofO (pSl x l h) ρ3
@[simp] def fin (r : FRes) (ρ : PSt) : Res O := match r with
  | .ok o w => .ok o ⟨ρ.env, w⟩
  | .exc x w => .exc x ⟨ρ.env, w⟩
  | .bad => .bad
@[simp] def ay' (f : MF) (as : MA) : MO := fun ρ => (as ρ).bind fun xs ρ1 => fin (f xs ρ1.w) ρ1
@[simp] def eO (a : MO) : ME := fun ρ => (a ρ).bind fun o ρ1 => .ok (frz o) ρ1
@[simp] def oE (a : ME) : MO := fun ρ => (a ρ).bind fun d ρ1 => .ok (.fz d) ρ1
@[simp] def oV (i : Nat) : MO := fun ρ => match ρ.env[i]? with
  | some (some (.fz d)) => .ok (.fz d) ρ
  | some (some .exn) => .bad
  | some (some .clo) => .bad
  | some (some o) => .ok o ⟨ρ.env.set i none, ρ.w⟩
  | _ => .bad
abbrev MOA := PSt -> Res (List O)
@[simp] def mo' (a : ME) : MO := fun ρ => (a ρ).bind fun d ρ1 => match d with | .lst ds => .ok (.lst (ds.map .fz)) ρ1 | _ => .bad
@[simp] def g5' : MO := fun ρ => .ok (.dct [] []) ρ
def RgB (a b : Int) : Bool := decide (-(2 ^ 62) <= a) && decide (a < 2 ^ 62) && decide (-(2 ^ 62) <= b) && decide (b < 2 ^ 62) && decide ((b - a).toNat <= 16777216)
def lT' (a b : Int) : List D := (List.range (b - a).toNat).map fun i => .int (a + (i : Nat))
@[simp] def iQ' : D -> Option D
  | .int b => if RgB 0 b = true then some (.lst (lT' 0 b)) else none
  | _ => none
@[simp] def ixO : O -> D -> Option D
  | .fz d, k => pIx d k
  | .lst os, .int i => match ati os i with | some (.fz d) => some d | _ => none
  | .tup os, .int i => match ati os i with | some (.fz d) => some d | _ => none
  | _, _ => none
@[simp] def jV' (i : Nat) (b : ME) : ME := fun ρ => match ρ.env[i]? with
  | some (some _) => (b ρ).bind fun k ρ1 => match ρ1.env[i]? with
    | some (some o) => ofO (ixO o k) ρ1
    | _ => .bad
  | _ => .bad
@[simp] def inO (x : D) : O -> Option D
  | .fz d => pIn x d
  | .lst os => if os.all (fun o => match o with | .fz _ => true | _ => false) = true then pIn x (.lst (os.map frz)) else none
  | _ => none
@[simp] def rH' : Option D -> Option D
  | some (.bl b) => some (.bl (!b))
  | _ => none
@[simp] def pt' : O -> Option D
  | .fz d => bN' d
  | .lst os => some (.int os.length)
  | .tup os => some (.int os.length)
  | .dct ks _ => some (.int ks.length)
  | .dcx ks _ => some (.int ks.length)
  | .exn => none
  | .clo => none
@[simp] def tn' : Option (Option O) -> Option D
  | some (some (.fz d)) => some d
  | _ => none
def cZ' (x : Bool) (y d : D) : Option O := if x = true then (if kat y = true /\ dep y <= 8 /\ sca y = false then some (.dcx [y] [.fz d]) else none) else (if isK y = true then some (.dct [y] [.fz d]) else none)
@[simp] def dE' (x : Bool) (k a : ME) : MO := fun ρ => (k ρ).bind fun y ρ1 => (a ρ1).bind fun d ρ2 => ofO (cZ' x y d) ρ2
@[simp] def ixW (w : W) : D -> D -> Option D
  | .obj n, k => match w[n]? with | some (.lst os) => ixO (.lst os) k | _ => none
  | d, k => pIx d k
@[simp] def fj' (a b : ME) : ME := fun ρ => (a ρ).bind fun x ρ1 => (b ρ1).bind fun y ρ2 => ofO (ixW ρ2.w x y) ρ2
@[simp] def rG' (as : MA) : MO := fun ρ => (as ρ).bind fun xs ρ1 => if xs.length <= d2' then .ok (.fz (.obj ρ1.w.length)) ⟨ρ1.env, ρ1.w ++ [.lst (xs.map .fz)]⟩ else .bad
@[simp] def tE (a : ME) : MT := fun ρ => (a ρ).bind asB
@[simp] def mm' (a : MT) : MT := fun ρ => (a ρ).bind fun k ρ1 => .ok (!k) ρ1
@[simp] def qo' (a b : MT) : MT := fun ρ => (a ρ).bind fun k ρ1 => if k = true then b ρ1 else .ok false ρ1
@[simp] def tOr (a b : MT) : MT := fun ρ => (a ρ).bind fun k ρ1 => if k = true then .ok true ρ1 else b ρ1
@[simp] def jC' (a : ME) : MI := fun ρ => (a ρ).bind fun d ρ1 => ofO (cm' d) ρ1
def rgI (lo : Int) (n : Nat) : List D := (List.range n).map fun i => .int (lo + (i : Nat))
def mq' (i : Int) : Bool := decide (-(2 ^ 62) <= i) && decide (i < 2 ^ 62)
@[simp] def cQ' : D -> Option (List D)
  | .int j => if mq' j = true then some (rgI 0 j.toNat) else none
  | _ => none
@[simp] def cP' : D -> D -> Option (List D)
  | .int i, .int j => if mq' i = true /\ mq' j = true then some (rgI i (j - i).toNat) else none
  | _, _ => none
@[simp] def bD' (a : ME) : MI := fun ρ => (a ρ).bind fun x ρ1 => ofO (cQ' x) ρ1
@[simp] def dI' (a b : ME) : MI := fun ρ => (a ρ).bind fun x ρ1 => (b ρ1).bind fun y ρ2 => ofO (cP' x y) ρ2
def ce' : List D -> List D -> List D
  | x :: xs, y :: ys => .tup [x, y] :: ce' xs ys
  | _, _ => []
def cD' (k : Nat) : List D -> List D
  | [] => []
  | x :: xs => .tup [.int k, x] :: cD' (k + 1) xs
@[simp] def tV' (x y : D) : Option (List D) := match cm' x, cm' y with
  | some a, some b => some (ce' a b)
  | _, _ => none
def ml' (x y : D) : Option (List D) := match x, y with
  | .str _, .str _ => tV' x y
  | .lst _, .lst _ => tV' x y
  | .tup _, .tup _ => tV' x y
  | _, _ => none
def enB : D -> Option (List D)
  | .str s => some (cD' 0 (s.map chD))
  | .lst ds => some (cD' 0 ds)
  | _ => none
def td' : D -> Option (List D)
  | .lst ds => some ds.reverse
  | .tup ds => some ds.reverse
  | _ => none
def u8' (x y : D) : Option (List D) := match x, y with
  | .str s, .tup ds => some (ce' (s.map chD) ds)
  | _, _ => none
@[simp] def r2' (a b : ME) : MI := fun ρ => (a ρ).bind fun x ρ1 => (b ρ1).bind fun y ρ2 => ofO (ml' x y) ρ2
@[simp] def lV' (a : ME) : MI := fun ρ => (a ρ).bind fun x ρ1 => ofO (enB x) ρ1
def uZ' : D -> Option (List D)
  | .dct ks _ => some ks
  | _ => none
def uY' : D -> Option (List D)
  | .dct _ vs => some vs
  | _ => none
def sR' : D -> Option (List D)
  | .dct ks vs => some (ce' ks vs)
  | _ => none
@[simp] def gN (i : Nat) : MG := fun d ρ => if i < ρ.env.length then some ⟨ρ.env.set i (some (.fz d)), ρ.w⟩ else none
@[simp] def gNs : List Nat -> List D -> PSt -> Option PSt
  | [], [], ρ => some ρ
  | i :: is, d :: ds, ρ => (gN i d ρ).bind (gNs is ds)
  | _, _, _ => none
@[simp] def gT (is : List Nat) : MG := fun d ρ => match d with
  | .tup ds => gNs is ds ρ
  | _ => none
@[simp] def noX {α : Type} : Res α -> Res α
  | .exc _ _ => .bad
  | r => r
def aA' : List Nat -> List (Option O) -> List (Option O)
  | [], env => env
  | i :: is, env => (aA' is env).set i none
def back (env : List (Option O)) : List Nat -> List (Option O) -> List (Option O)
  | [], env' => env'
  | i :: is, env' => (back env is env').set i (match env[i]? with | some (some (.fz d)) => some (.fz d) | _ => none)
def lcL (own : List Nat) (g : MG) (t : MT) (e : ME) : List D -> List D -> PSt -> Res (List D)
  | [], acc, ρ => .ok acc ρ
  | x :: xs, acc, ρ => match g x ⟨aA' own ρ.env, ρ.w⟩ with
    | none => .bad
    | some ρ1 => (noX (t ρ1)).bind fun k ρ2 => if k = true then (noX (e ρ2)).bind fun y ρ3 => if acc.length < d2' then lcL own g t e xs (acc ++ [y]) ρ3 else .bad else lcL own g t e xs acc ρ2
@[simp] def eLc (own : List Nat) (it : MI) (g : MG) (t : MT) (e : ME) : ME := fun ρ => (it ρ).bind fun xs ρ1 =>
  (lcL own g t e xs [] ρ1).bind fun ys ρ2 => .ok (.lst ys) ⟨back ρ1.env own (aA' own ρ2.env), ρ2.w⟩
@[simp] def oLc (own : List Nat) (it : MI) (g : MG) (t : MT) (e : ME) : MO := fun ρ => (it ρ).bind fun xs ρ1 =>
  (lcL own g t e xs [] ρ1).bind fun ys ρ2 => .ok (.lst (ys.map .fz)) ⟨back ρ1.env own (aA' own ρ2.env), ρ2.w⟩
def dcL (own : List Nat) (g : MG) (t : MT) (ek ev : ME) : List D -> List D -> List D -> PSt -> Res (List D × List D)
  | [], ks, vs, ρ => .ok (ks, vs) ρ
  | x :: xs, ks, vs, ρ => match g x ⟨aA' own ρ.env, ρ.w⟩ with
    | none => .bad
    | some ρ1 => (noX (t ρ1)).bind fun k ρ2 => if k = true then (noX (ek ρ2)).bind fun y ρ3 => (noX (ev ρ3)).bind fun z ρ4 => (if isK y = true /\ ks.length < d2' then (match ru' ks vs y z with
      | some p => dcL own g t ek ev xs p.1 p.2 ρ4
      | none => .bad) else .bad) else dcL own g t ek ev xs ks vs ρ2
@[simp] def tT : MT := fun ρ => .ok true ρ
@[simp] def a8' : MS := fun ρ => .nx ρ
@[simp] def fV' (a : ME) : MS := fun ρ => (a ρ).out fun _ ρ1 => .nx ρ1
@[simp] def bW' (a : MO) : MS := fun ρ => (a ρ).out fun o ρ1 => .rt o ρ1.w
@[simp] def aP' (a b : MS) : MS := fun ρ => match a ρ with
  | .nx ρ1 => b ρ1
  | r => r
@[simp] def sIf (t : MT) (a b : MS) : MS := fun ρ => (t ρ).out fun k ρ1 => if k = true then a ρ1 else b ρ1
@[simp] def tb' (i : Nat) (o : O) (ρ : PSt) : Out := if i < ρ.env.length then .nx ⟨ρ.env.set i (some o), ρ.w⟩ else .bad
@[simp] def bi' (i : Nat) (a : MO) : MS := fun ρ => (a ρ).out fun o ρ1 => tb' i o ρ1
@[simp] def cY' (x : String) : MS := fun ρ => .exc ⟨x, []⟩ ρ
@[simp] def o7' (i : Nat) (a : MO) : MS := fun ρ => match ρ.env[i]? with
  | some (some (.lst _)) => (a ρ).out fun o ρ1 => match ρ1.env[i]? with
    | some (some (.lst os)) => if os.length < d2' then .nx ⟨ρ1.env.set i (some (.lst (os ++ [o]))), ρ1.w⟩ else .bad
    | _ => .bad
  | _ => .bad
@[simp] def vk' (w : W) : D -> Option D
  | .obj n => (match w[n]? with
    | some (.lst os) => some (.int os.length)
    | _ => none)
  | _ => none
@[simp] def eS' (i : Nat) (k a : ME) : MS := fun ρ => (a ρ).out fun d ρ1 => match ρ1.env[i]? with
  | some (some _) => (k ρ1).out fun y ρ2 => match ρ2.env[i]?, y with
    | some (some (.lst os)), .int z => match ixn os.length z with
      | some j => .nx ⟨ρ2.env.set i (some (.lst (os.set j (.fz d)))), ρ2.w⟩
      | none => .bad
    | _, _ => .bad
  | _ => .bad
@[simp] def mK' (w : W) (x k d : D) : Option W := match x, k with
  | .obj n, .int z => match w[n]? with
    | some (.lst os) => (ixn os.length z).map fun j => w.set n (.lst (os.set j (.fz d)))
    | _ => none
  | _, _ => none
@[simp] def eR' (o k a : ME) : MS := fun ρ => (a ρ).out fun d ρ1 => (o ρ1).out fun x ρ2 => (k ρ2).out fun y ρ3 => match mK' ρ3.w x y d with
  | some w => .nx ⟨ρ3.env, w⟩
  | none => .bad
def i5' (g : MG) (b : MS) : List D -> MS
  | [], ρ => .nx ρ
  | d :: ds, ρ => match g d ρ with
    | none => .bad
    | some ρ1 => match b ρ1 with
      | .nx ρ2 => i5' g b ds ρ2
      | .ct ρ2 => i5' g b ds ρ2
      | .bk ρ2 => .nx ρ2
      | r => r
@[simp] def jR' (it : MI) (g : MG) (b : MS) : MS := fun ρ => (it ρ).out fun ds ρ1 => i5' g b ds ρ1
abbrev ET := List (String × String × Bool)
def sub : ET -> String -> String -> Option Bool
  | [], _, _ => none
  | (a, b, r) :: t, x, c => if a = x /\ b = c then some r else sub t x c
@[simp] def m7' : Out -> Out
  | .exc _ _ => .bad
  | r => r
@[simp] def hds (hs : List ((String -> Option Bool) × (Exc -> MS))) (x : Exc) (ρ : PSt) : Out := match hs with
  | [] => .exc x ρ
  | (g, h) :: r => (match g x.cls with
    | some true => m7' (h x ρ)
    | some false => hds r x ρ
    | none => .bad)
@[simp] def mn' (i m : Nat) : Out -> Out
  | .nx ρ => if ρ.env.length = i + m + 1 then .nx ⟨ρ.env.set i none, ρ.w⟩ else .bad
  | .bk ρ => if ρ.env.length = i + m + 1 then .bk ⟨ρ.env.set i none, ρ.w⟩ else .bad
  | .ct ρ => if ρ.env.length = i + m + 1 then .ct ⟨ρ.env.set i none, ρ.w⟩ else .bad
  | r => r
@[simp] def em' (i m : Nat) (b : MS) (g : String -> Option Bool) (h : Exc -> MS) : MS := fun ρ => match b ρ with
  | .exc x ρ1 => (match g x.cls with
    | some true => if ρ1.env.length = i + m + 1 then mn' i m (m7' (h x ⟨ρ1.env.set i (some .exn), ρ1.w⟩)) else .bad
    | some false => .exc x ρ1
    | none => .bad)
  | r => r
@[simp] def fk' (i : Nat) (t : ET) (c : String) (x : Exc) : ME := fun ρ => match ρ.env[i]? with
  | some (some .exn) => if x.fs = [] then ofO ((sub t x.cls c).map .bl) ρ else .bad
  | _ => .bad
def pb' (f : String) (o : O) : List (String × O) -> List (String × O)
  | [] => [(f, o)]
  | (g, x) :: r => if g = f then (g, o) :: r else (g, x) :: pb' f o r
@[simp] def tm' (cs : List String) (f : String) (w : W) : D -> Option D
  | .obj n => (match w[n]? with
    | some (.ins C fs) => if C ∈ cs then (match fs.lookup f with | some (.fz d) => some d | _ => none) else none
    | _ => none)
  | _ => none
@[simp] def stF (cs : List String) (f : String) (o : O) (w : W) : D -> Option W
  | .obj n => (match w[n]? with
    | some (.ins C fs) => if C ∈ cs /\ fs.length < 1000 then some (w.set n (.ins C (pb' f o fs))) else none
    | _ => none)
  | _ => none
def pM' : O -> Bool
  | .fz _ => true
  | _ => false
@[simp] def fnM (k n : Nat) (b : MS) : MF := fun ds w => if ds.length = k then (match b ⟨ds.map (fun d => some (.fz d)) ++ List.replicate (n - k) none, w⟩ with
    | .nx ρ => .ok (.fz .non) ρ.w
    | .rt o w => .ok o w
    | .exc x ρ => .exc x ρ.w
    | _ => .bad) else .bad
def vp' (x y : D) : Option (List D) := match x, y with
  | .str s, .lst ds => some (ce' (s.map chD) ds)
  | _, _ => none
end M
namespace M
def vK' (c : Nat) : D -> Option D
  | .str s => if s.length <= 1000000 then some (.str (s.filter fun d => decide (d ≠ c))) else none
  | _ => none
end M
namespace M
def vo' : D -> D -> Option (List D)
  | .tup a, .tup b => some (ce' a b)
  | _, _ => none
def vP' : O -> D -> Option O
  | .lst os, .lst ds => if os.length + ds.length <= d2' then some (.lst (os ++ ds.map .fz)) else none
  | _, _ => none
mutual
def okO : O -> Bool
  | .fz d => dat d
  | .lst os => okOs os
  | .tup os => okOs os
  | _ => false
def okOs : List O -> Bool
  | [] => true
  | o :: r => okO o && okOs r
end
def okM : List Bool -> List (Option O) -> Bool
  | [], _ => true
  | _ :: _, [] => false
  | false :: m, _ :: r => okM m r
  | true :: m, some o :: r => okO o && okM m r
  | true :: _, none :: _ => false
def mp' : List Bool -> List (Option O) -> List (Option O)
  | _, [] => []
  | [], _ :: r => none :: mp' [] r
  | false :: m, _ :: r => none :: mp' m r
  | true :: m, x :: r => (x.map fun o => .fz (frz o)) :: mp' m r
def tc' : D -> Bool
  | .non => true | .bl _ => true | .int _ => true | .str _ => true
  | _ => false
def unO : O -> Option (List O)
  | .tup os => some os
  | .fz (.tup ds) => some (ds.map .fz)
  | _ => none
def qw' : List Nat -> List O -> PSt -> Option PSt
  | [], [], ρ => some ρ
  | i :: is, o :: os, ρ => if i < ρ.env.length then qw' is os ⟨ρ.env.set i (some o), ρ.w⟩ else none
  | _, _, _ => none
end M
namespace M
def rN' (a b : Tx) : Bool := !decide (b < a)
def q6' (l : List Tx) : List Tx := l.mergeSort rN'
def m0' : D -> Option D
  | .lst ds => (ci' ds).bind fun xs => if xs.length < 64 then some (.lst ((q6' xs).map .str)) else none
  | _ => none
end M
namespace M
end M
namespace M
end M
namespace M
def tT' (a b : Nat × Tx) : Bool := decide (a.1 < b.1) || (decide (a.1 = b.1) && rN' a.2 b.2)
def dA' : List D -> List O -> Option (List (Nat × Tx))
  | [], [] => some []
  | .int i :: ks, .fz (.str s) :: os => if 0 <= i then (dA' ks os).map ((i.toNat, s) :: ·) else none
  | _, _ => none
def oc' : O -> Option D
  | .dct ks os => (dA' ks os).map fun ps => .lst ((ps.mergeSort tT').map fun p => .tup [.int (p.1 : Nat), .str p.2])
  | _ => none
end M
namespace M
mutual
def vh' (kl kd : Bool) : D -> Bool
  | .tup ds => nodDs kl kd ds
  | .lst ds => !kl && nodDs kl kd ds
  | .scr ds => !kl && nodDs kl kd ds
  | .dct _ vs => !kd && nodDs kl kd vs
  | .dcx ks vs => nodDs kl kd ks && nodDs kl kd vs
  | _ => true
def nodDs (kl kd : Bool) : List D -> Bool
  | [] => true
  | d :: r => vh' kl kd d && nodDs kl kd r
end
mutual
def vg' (kl kd : Bool) : O -> Bool
  | .fz d => vh' kl kd d
  | .lst os => nodOs kl kd os
  | .tup os => nodOs kl kd os
  | .dct _ os => nodOs kl kd os
  | .dcx ks os => nodDs kl kd ks && nodOs kl kd os
  | .exn => true
  | .clo => true
def nodOs (kl kd : Bool) : List O -> Bool
  | [] => true
  | o :: r => vg' kl kd o && nodOs kl kd r
end
def lendO (kl kd : Bool) : O -> Bool
  | .fz _ => true
  | .lst os => kl && os.all pM'
  | .dct _ os => kd && os.all pM'
  | _ => false
def okL (kl kd : Bool) : List Bool -> List (Option O) -> Bool
  | [], _ => true
  | _ :: _, [] => false
  | false :: m, _ :: r => okL kl kd m r
  | true :: m, some o :: r => lendO kl kd o && okL kl kd m r
  | true :: _, none :: _ => false
def tj' : O -> Nat
  | .fz _ => 0
  | _ => 1
def qh' : List Bool -> List (Option O) -> Nat
  | true :: m, some o :: r => tj' o + qh' m r
  | false :: m, _ :: r => qh' m r
  | _, _ => 0
def vJ' : D -> D -> Option D
  | .int i, .int j => if 0 <= j /\ j <= 1000 /\ bj' i = true then some (.int (i * 2 ^ j.toNat)) else none
  | _, _ => none
def vI' : D -> D -> Option D
  | .int i, .int j => if 0 <= j then some (.int (i / 2 ^ j.toNat)) else none
  | _, _ => none
@[simp] def gL (is : List Nat) : MG := fun d ρ => match d with
  | .lst ds => gNs is ds ρ
  | _ => none
def gSq : List MG -> List D -> PSt -> Option PSt
  | [], [], ρ => some ρ
  | g :: gs, d :: ds, ρ => (g d ρ).bind (gSq gs ds)
  | _, _, _ => none
def gTg (gs : List MG) : MG := fun d ρ => match d with
  | .tup ds => gSq gs ds ρ
  | _ => none
end M
namespace M
end M
namespace M
end M
namespace M
end M
namespace M
end M
namespace M
end M
namespace M
end M
namespace M
def r9' : List Bool -> List D -> Option (List (Option O))
  | [], [] => some []
  | true :: m, ds => (r9' m ds).map (some .clo :: ·)
  | false :: m, d :: ds => (r9' m ds).map (some (.fz d) :: ·)
  | _, _ => none
inductive AK where
  | e (a : ME) | c (f : MF) (js : List Nat)
end M
namespace M
def allFz : List O -> Option (List D)
  | [] => some []
  | .fz d :: r => (allFz r).map (d :: ·)
  | _ => none
end M
namespace M
end M
namespace S
open PySem PySem.Spec PyProof.Rows L2
def lP' (K : PySem.W.Frag) (t : M.ET) : Bool := t.all fun e => decide (PySem.W.findIn K (.ref (He.ga K (Str.ofString e.1))) "__getattribute__" = some (some (.builtin "BaseException.__getattribute__"))) && (decide (PySem.W.findIn K (.ref (He.ga K (Str.ofString e.1))) "__getattr__" = some none) &&
  (decide (PySem.W.subIn K (.ref (He.ga K (Str.ofString e.1))) (.type "BaseException") = some true) && (PySem.W.hasDictIn K (He.ga K (Str.ofString e.1)) && (decide (PySem.W.findIn K (.ref (He.ga K (Str.ofString e.1))) "__class__" = some (some (.builtin "object.__class__"))) &&
  (decide (PySem.W.specialIn K (.builtin "object.__class__") "__get__" = some (some (.builtin "getset_descriptor.__get__"))) && (decide (PySem.W.takesIn K (.builtin "object.__class__") = some true) && (decide (PySem.W.mroIn K (He.ga K (Str.ofString e.1)) (.type "object") = some true) &&
  decide (PySem.W.kitOne K (.ref (He.ga K (Str.ofString e.1))) (.ref (He.ga K (Str.ofString e.2.1))) = some e.2.2))))))))
def u4' : Arguments -> Option (Str × Str)
  | ⟨[], [a, b], none, [], [], none, []⟩ => some (a.arg, b.arg)
  | _ => none
def u3' : FuncBody -> Option (Str × Str × Str × Str × Str)
  | .stmts [.Expr (.Call (.Attribute (.Call (.Name s _) [] [] _) m p) [.Constant (.str _) _ _] [] q) _, .Assign [.Attribute (.Name a _) f _] (.Name b _) _] => if (p.endLine == q.line) = true then some (s, m, a, f, b) else none
  | _ => none
def ha' (K : PySem.W.Frag) (t : M.ET) : Bool := lP' K (t.map fun e => (e.1, e.1, true)) && t.all fun e => decide (PySem.W.kitOne K (.ref (He.ga K e.1)) (.type e.2.1) = some e.2.2)
def bmB (K : PySem.W.Frag) : Bool := match K.lookup (He.ga K "__builtins__") with
  | some ⟨.type m, some d, .plain, _⟩ => decide (m = "module") && (decide (d = builtinsNs) && (decide (He.ga K "__builtins__" ≠ builtinsNs) && decide (He.ga K "__builtins__" ≠ mainGlobals)))
  | _ => false
end S
namespace M
def exT : ET := [("NoDealing", "SaidError", true), ("NoRow", "SaidError", true), ("NoHand", "SaidError", true), ("NoRows", "SaidError", true)]
def exI : ET := [("NoDealing", "NoDealing", true), ("NoDealing", "NoRow", false), ("NoDealing", "NoHand", false), ("NoDealing", "NoRows", false), ("NoRow", "NoDealing", false), ("NoRow", "NoRow", true), ("NoRow", "NoHand", false), ("NoRow", "NoRows", false), ("NoHand", "NoDealing", false), ("NoHand", "NoRow", false), ("NoHand", "NoHand", true), ("NoHand", "NoRows", false), ("NoRows", "NoDealing", false), ("NoRows", "NoRow", false), ("NoRows", "NoHand", false), ("NoRows", "NoRows", true)]
def exB : ET := [("NoDealing", "ValueError", true), ("NoRow", "ValueError", true), ("NoHand", "ValueError", true), ("NoRows", "ValueError", true)]
def f_is_string_of : MF := fnM 2 3 ((aP' (sIf (mm' (tE (eUn (bp' "str") (eV 0)))) (bW' (oE (eC (.bl false)))) a8')
  (aP' (jR' (jC' (eV 0)) (gN 2) (sIf (tE (eOp ep' (eV 2) (eV 1))) (bW' (oE (eC (.bl false)))) a8'))
  (bW' (oE (eC (.bl true)))))))
def f_check_dealing : MF := fnM 1 1 ((sIf (tOr (mm' (tE (eO (ay' f_is_string_of (ab' (eV 0) (ab' (eC (.str [65, 66, 67, 68])) aH')))))) (tE (eOp pEq (eV 0) (eC (.str []))))) (cY' "NoDealing") a8'))
def f_hands_of : MF := fnM 1 3 ((aP' (bi' 1 (oE (eC (.int 2))))
  (aP' (jR' (jC' (eV 0)) (gN 2) (bi' 1 (oE (eOp lv' (eV 1) (eOp bz' (eMt eu' (eC (.str [65, 66, 67, 68])) (ab' (eV 2) aH')) (eC (.int 1)))))))
  (bW' (oE (eSl (eC (.str [65, 66, 67, 68])) pNo (pSo (eV 1))))))))
def f_is_row : MF := fnM 3 3 ((bW' (oE (qx' (eO (ay' f_is_string_of (ab' (eV 1) (ab' (eV 2) aH')))) (eOp pEq (eUn bN' (eV 1)) (eUn bN' (eV 0)))))))
def f_check_row : MF := fnM 3 3 ((sIf (mm' (tE (eO (ay' f_is_row (ab' (eV 0) (ab' (eV 1) (ab' (eV 2) aH'))))))) (cY' "NoRow") a8'))
def f_sight : MF := fnM 3 5 ((bW' (oE (eMt dF' (eC (.str [])) (ab' (eLc [3, 4] (r2' (eV 0) (eV 1)) (gT [3, 4]) (tE (eOp pEq (eV 3) (eV 2))) (eV 4)) aH')))))
def f_seen : MF := fnM 3 3 ((aP' (fV' (eO (ay' f_check_dealing (ab' (eV 0) aH'))))
  (aP' (fV' (eO (ay' f_check_row (ab' (eV 0) (ab' (eV 1) (ab' (eC (.str [97, 98, 99, 100, 101, 102, 103, 104, 105, 106, 107, 108, 109, 110, 111, 112, 113, 114, 115, 116, 117, 118, 119, 120, 121, 122, 46])) aH'))))))
  (aP' (sIf (tOr (mm' (tE (eUn (bp' "str") (eV 2)))) (tOr (tE (eOp pNe (eUn bN' (eV 2)) (eC (.int 1)))) (tE (eOp ep' (eV 2) (eO (ay' f_hands_of (ab' (eV 0) aH'))))))) (cY' "NoHand") a8')
  (bW' (ay' f_sight (ab' (eV 0) (ab' (eV 1) (ab' (eV 2) aH')))))))))
def f_crossed : MF := fnM 2 6 ((aP' (fV' (eO (ay' f_check_dealing (ab' (eV 0) aH'))))
  (aP' (bi' 2 (ay' f_hands_of (ab' (eV 0) aH')))
  (aP' (sIf (tOr (mm' (tE (eUn (bp' "list") (eV 1)))) (tE (eOp pNe (eUn bN' (eV 1)) (eUn bN' (eV 2))))) (cY' "NoRows") a8')
  (aP' (sIf (mm' (tE (eUn qs' (eLc [3] (jC' (eV 1)) (gN 3) tT (eO (ay' f_is_row (ab' (eV 0) (ab' (eV 3) (ab' (eC (.str [97, 98, 99, 100, 101, 102, 103, 104, 105, 106, 107, 108, 109, 110, 111, 112, 113, 114, 115, 116, 117, 118, 119, 120, 121, 122, 46])) aH'))))))))) (cY' "NoRows") a8')
  (bW' (oE (eMt dF' (eC (.str [])) (ab' (eLc [4, 5] (lV' (eV 0)) (gT [4, 5]) tT (eOp pIx (eOp pIx (eV 1) (eMt eu' (eV 2) (ab' (eV 5) aH'))) (eV 4))) aH')))))))))
def f_parts_of : MF := fnM 1 4 ((aP' (bi' 1 (mo' (cK' aH')))
  (aP' (bi' 2 (oE (eC (.int 0))))
  (aP' (jR' (dI' (eC (.int 1)) (eOp bz' (eUn bN' (eV 0)) (eC (.int 1)))) (gN 3) (sIf (tOr (tE (eOp pEq (eV 3) (eUn bN' (eV 0)))) (tE (eOp pNe (eOp pIx (eV 0) (eV 3)) (eOp pIx (eV 0) (eV 2))))) (aP' (o7' 1 (oE (jU' (ab' (eOp pIx (eV 0) (eV 2)) (ab' (eV 2) (ab' (eV 3) aH'))))))
  (bi' 2 (oE (eV 3)))) a8'))
  (bW' (oV 1))))))
def f_stretches : MF := fnM 1 4 ((aP' (fV' (eO (ay' f_check_dealing (ab' (eV 0) aH'))))
  (bW' (oLc [1, 2, 3] (jC' (eO (ay' f_parts_of (ab' (eV 0) aH')))) (gT [1, 2, 3]) tT (jU' (ab' (eV 1) (ab' (eOp tg' (eV 3) (eV 2)) aH')))))))
def f__law_hand : MF := fnM 1 3 ((aP' (bi' 1 (oLc [2] (jC' (eSl (eV 0) pNo (pSo (eC (.int 63))))) (gN 2) tT (eUn ti' (eUn jp' (eV 2)))))
  (bW' (rG' (ab' (eV 1) (ab' (eC (.int 0)) (ab' (eC (.int 0)) (ab' (eOp bz' (eC (.int 1)) (eUn bN' (eV 1))) (ab' (eC (.int 0)) aH')))))))))
def f__law_draw : MF := fnM 2 5 ((aP' (sIf (qo' (tE (eOp pEq (fj' (eV 0) (eC (.int 2))) (eC (.int 0)))) (tE (eOp pLt (fj' (eV 0) (eC (.int 1))) (eUn bN' (fj' (eV 0) (eC (.int 0))))))) (aP' (bi' 2 (oE (eOp pIx (fj' (eV 0) (eC (.int 0))) (fj' (eV 0) (eC (.int 1))))))
  (aP' (eR' (eV 0) (eC (.int 1)) (eOp bz' (fj' (eV 0) (eC (.int 1))) (eC (.int 1))))
  (aP' (eR' (eV 0) (eC (.int 3)) (eOp lu' (eUn jp' (eOp bz' (eOp bz' (eOp eq' (fj' (eV 0) (eC (.int 3))) (eC (.int 69621))) (eV 2)) (eC (.int 11)))) (eC (.int 2147483629))))
  (sIf (tE (eOp pGe (eV 2) (eOp ry' (eC (.int 10)) (eC (.int 18))))) (eR' (eV 0) (eC (.int 2)) (eV 2)) a8')))) a8')
  (aP' (sIf (tE (eOp pGt (fj' (eV 0) (eC (.int 2))) (eC (.int 0)))) (aP' (bi' 3 (oE (eOp lu' (eUn jp' (fj' (eV 0) (eC (.int 2)))) (eV 1))))
  (aP' (eR' (eV 0) (eC (.int 2)) (eOp fW' (fj' (eV 0) (eC (.int 2))) (eV 1)))
  (bW' (oV 3)))) a8')
  (aP' (eR' (eV 0) (eC (.int 4)) (eOp bz' (fj' (eV 0) (eC (.int 4))) (eC (.int 1))))
  (aP' (bi' 4 (oE (eOp lu' (eUn jp' (eOp eq' (eUn jp' (eOp bz' (fj' (eV 0) (eC (.int 3))) (eOp eq' (eC (.int 7919)) (fj' (eV 0) (eC (.int 4)))))) (eC (.int 48271)))) (eC (.int 2147483647)))))
  (aP' (bi' 4 (oE (eOp lu' (eUn jp' (eOp eq' (eV 4) (eOp bz' (eOp fW' (eV 4) (eC (.int 1009))) (eC (.int 69621))))) (eC (.int 2147483647)))))
  (aP' (bi' 4 (oE (eOp lu' (eUn jp' (eOp eq' (eV 4) (eOp bz' (eOp fW' (eV 4) (eC (.int 2003))) (eC (.int 40692))))) (eC (.int 2147483399)))))
  (bW' (oE (eOp lu' (eUn jp' (eOp fW' (eV 4) (eC (.int 16)))) (eV 1)))))))))))
def f__law_dealing : MF := fnM 3 8 ((aP' (bi' 3 (ay' f__law_draw (ab' (eV 0) (ab' (eC (.int 4)) aH'))))
  (aP' (bi' 4 (oE (eOp bz' (eC (.int 1)) (eO (ay' f__law_draw (ab' (eV 0) (ab' (eV 2) aH')))))))
  (aP' (bi' 5 (ay' f__law_draw (ab' (eV 0) (ab' (eV 4) aH'))))
  (aP' (bi' 6 (oE (eC (.str []))))
  (aP' (jR' (bD' (eV 1)) (gN 7) (aP' (sIf (tOr (tE (eOp pEq (eV 3) (eC (.int 0)))) (qo' (tE (eOp pEq (eV 3) (eC (.int 1)))) (tE (eOp pEq (eO (ay' f__law_draw (ab' (eV 0) (ab' (eC (.int 5)) aH')))) (eC (.int 0)))))) (bi' 5 (ay' f__law_draw (ab' (eV 0) (ab' (eV 4) aH')))) a8')
  (aP' (sIf (tE (eOp pEq (eV 3) (eC (.int 2)))) (bi' 5 (oE (eOp lu' (eV 7) (eV 4)))) a8')
  (bi' 6 (oE (eOp bz' (eV 6) (eOp pIx (eC (.str [65, 66, 67, 68])) (eV 5))))))))
  (bW' (oV 6))))))))
def f__law_hands : MF := fnM 1 3 ((aP' (bi' 1 (oE (eC (.int 2))))
  (aP' (jR' (jC' (eV 0)) (gN 2) (bi' 1 (oE (eOp lv' (eV 1) (eOp bz' (eC (.int 1)) (eMt jx' (eC (.str [65, 66, 67, 68])) (ab' (eV 2) aH')))))))
  (bW' (oE (eSl (eC (.str [65, 66, 67, 68])) pNo (pSo (eV 1))))))))
def f__law_row : MF := fnM 3 4 ((bW' (oE (eMt dF' (eC (.str [])) (ab' (eLc [3] (bD' (eV 2)) (gN 3) tT (eOp pIx (eV 1) (eO (ay' f__law_draw (ab' (eV 0) (ab' (eUn bN' (eV 1)) aH')))))) aH')))))
def f__law_sight : MF := fnM 3 4 ((bW' (oE (eMt dF' (eC (.str [])) (ab' (eLc [3] (bD' (eUn bN' (eV 1))) (gN 3) (tE (eOp pEq (eOp pIx (eV 0) (eV 3)) (eV 2))) (eOp pIx (eV 1) (eV 3))) aH')))))
def f__law_bad_dealing : MF := fnM 2 6 ((aP' (bi' 2 (oE (cK' (ab' (eC .non) (ab' (eC (.int 0)) (ab' (eC (.bl true)) (ab' (eC (.str [])) (ab' (cK' (ab' (eC (.str [65])) (ab' (eC (.str [66])) aH'))) (ab' (jU' (ab' (eC (.str [65])) (ab' (eC (.str [66])) aH'))) (ab' (eO g5') (ab' (eC (.str [65, 66, 32])) (ab' (eC (.str [97, 98])) (ab' (cK' (ab' (eV 1) aH')) (ab' (eO (dE' false (eC (.str [65])) (eC (.str [66])))) aH'))))))))))))))
  (aP' (bi' 3 (ay' f__law_draw (ab' (eV 0) (ab' (eOp bz' (eUn bN' (eV 2)) (eC (.int 4))) aH'))))
  (aP' (sIf (tE (eOp pLt (eV 3) (eUn bN' (eV 2)))) (bW' (oE (eOp pIx (eV 2) (eV 3)))) a8')
  (aP' (bi' 4 (ay' f__law_draw (ab' (eV 0) (ab' (eUn bN' (eV 1)) aH'))))
  (aP' (bi' 5 (oE (eOp pIx (eC (.str [69, 70, 71, 90, 97, 98, 122, 46, 48, 49, 57, 32, 45, 95, 58, 10])) (eO (ay' f__law_draw (ab' (eV 0) (ab' (eC (.int 16)) aH')))))))
  (aP' (sIf (tE (eOp pEq (eV 3) (eUn bN' (eV 2)))) (bW' (oE (eOp bz' (eOp bz' (eSl (eV 1) pNo (pSo (eV 4))) (eV 5)) (eSl (eV 1) (pSo (eV 4)) pNo)))) a8')
  (bW' (oE (eOp bz' (eOp bz' (eSl (eV 1) pNo (pSo (eV 4))) (eV 5)) (eSl (eV 1) (pSo (eOp bz' (eV 4) (eC (.int 1)))) pNo)))))))))))
def f__law_bad_row : MF := fnM 2 5 ((aP' (bi' 2 (oE (cK' (ab' (eC .non) (ab' (eC (.int 7)) (ab' (eC (.bl false)) (ab' (eUn cx' (eV 1)) (ab' (eUn ck' (eV 1)) (ab' (eO g5') (ab' (cK' (ab' (eV 1) aH')) (ab' (jU' (ab' (eC (.str [97])) aH')) (ab' (eO (dE' false (eC (.str [97])) (eV 1))) aH'))))))))))))
  (aP' (bi' 3 (ay' f__law_draw (ab' (eV 0) (ab' (eOp bz' (eUn bN' (eV 2)) (eC (.int 6))) aH'))))
  (aP' (sIf (tE (eOp pLt (eV 3) (eUn bN' (eV 2)))) (bW' (oE (eOp pIx (eV 2) (eV 3)))) a8')
  (aP' (bi' 4 (ay' f__law_draw (ab' (eV 0) (ab' (eUn bN' (eV 1)) aH'))))
  (aP' (sIf (tE (eOp pEq (eV 3) (eUn bN' (eV 2)))) (bW' (oE (eOp bz' (eSl (eV 1) pNo (pSo (eV 4))) (eSl (eV 1) (pSo (eOp bz' (eV 4) (eC (.int 1)))) pNo)))) a8')
  (aP' (sIf (tE (eOp pEq (eV 3) (eOp bz' (eUn bN' (eV 2)) (eC (.int 1))))) (bW' (oE (eOp bz' (eOp bz' (eSl (eV 1) pNo (pSo (eV 4))) (eC (.str [97]))) (eSl (eV 1) (pSo (eV 4)) pNo)))) a8')
  (bW' (oE (eOp bz' (eOp bz' (eSl (eV 1) pNo (pSo (eV 4))) (eOp pIx (eC (.str [65, 66, 90, 48, 49, 50, 57, 32, 45, 95, 44, 58, 10])) (eO (ay' f__law_draw (ab' (eV 0) (ab' (eC (.int 13)) aH')))))) (eSl (eV 1) (pSo (eOp bz' (eV 4) (eC (.int 1)))) pNo)))))))))))
def f__law_bad_hand : MF := fnM 2 3 ((aP' (bi' 2 (oE (cK' (ab' (eC .non) (ab' (eC (.int 0)) (ab' (eC (.bl true)) (ab' (eC (.str [])) (ab' (eC (.str [97])) (ab' (eC (.str [69])) (ab' (eC (.str [65, 66])) (ab' (eC (.str [32, 65])) (ab' (cK' (ab' (eC (.str [65])) aH')) (ab' (jU' (ab' (eC (.str [65])) aH')) (ab' (eO g5') (ab' (eV 1) (ab' (eC (.str [65, 65])) (ab' (eC (.str [46])) (ab' (eO (dE' false (eC (.str [65])) (eC (.int 1)))) aH'))))))))))))))))))
  (aP' (bi' 2 (oE (eOp bz' (eV 2) (eUn cx' (eSl (eC (.str [65, 66, 67, 68])) (pSo (eUn bN' (eV 1))) pNo)))))
  (bW' (oE (eOp pIx (eV 2) (eO (ay' f__law_draw (ab' (eV 0) (ab' (eUn bN' (eV 2)) aH'))))))))))
def f__law_bad_rows : MF := fnM 2 5 ((aP' (bi' 2 (oE (cK' (ab' (eC .non) (ab' (eC (.int 0)) (ab' (eC (.bl true)) (ab' (eC (.str [])) (ab' (eC (.str [97, 98])) (ab' (eO g5') (ab' (eUn ck' (eV 1)) (ab' (eOp pIx (eV 1) (eC (.int 0))) (ab' (eOp bz' (eV 1) (eSl (eV 1) pNo (pSo (eC (.int 1))))) (ab' (eSl (eV 1) (pSo (eC (.int 1))) pNo) (ab' (cK' aH') (ab' (cK' (ab' (eV 1) aH')) aH')))))))))))))))
  (aP' (bi' 3 (ay' f__law_draw (ab' (eV 0) (ab' (eOp bz' (eUn bN' (eV 2)) (eC (.int 6))) aH'))))
  (aP' (sIf (tE (eOp pLt (eV 3) (eUn bN' (eV 2)))) (bW' (oE (eOp pIx (eV 2) (eV 3)))) a8')
  (aP' (bi' 4 (ay' f__law_draw (ab' (eV 0) (ab' (eUn bN' (eV 1)) aH'))))
  (bW' (oE (eOp bz' (eOp bz' (eSl (eV 1) pNo (pSo (eV 4))) (cK' (ab' (eO (ay' f__law_bad_row (ab' (eV 0) (ab' (eOp pIx (eV 1) (eV 4)) aH')))) aH'))) (eSl (eV 1) (pSo (eOp bz' (eV 4) (eC (.int 1)))) pNo)))))))))
def f__law_marks : MF := fnM 4 7 ((aP' (bi' 4 (oE (eC .non)))
  (aP' (bi' 5 (mo' (cK' aH')))
  (aP' (em' 6 0 (sIf (tE (eOp pEq (eV 0) (eC (.int 0)))) (bi' 4 (ay' f_seen (ab' (eV 1) (ab' (eV 2) (ab' (eV 3) aH'))))) (sIf (tE (eOp pEq (eV 0) (eC (.int 1)))) (bi' 4 (ay' f_crossed (ab' (eV 1) (ab' (eV 2) aH')))) (bi' 4 (ay' f_stretches (ab' (eV 1) aH'))))) (fun y_ => sub exT y_ "SaidError") (fun x_ => (aP' (bi' 5 (mo' (cK' (ab' (fk' 6 exI "NoDealing" x_) (ab' (fk' 6 exI "NoRow" x_) (ab' (fk' 6 exI "NoHand" x_) (ab' (fk' 6 exI "NoRows" x_) aH')))))))
  (o7' 5 (oE (fk' 6 exB "ValueError" x_))))))
  (bW' (oE (jU' (ab' (eV 4) (ab' (eV 5) aH')))))))))
def f__law_due : MF := fnM 1 3 ((aP' (jR' (bD' (eUn bN' (eV 0))) (gN 1) (sIf (tE (eOp er' (eOp pIx (eV 0) (eV 1)) (eC .non))) (bW' (oE (eOp bz' (eLc [2] (jC' (cK' (ab' (eC (.str [100, 101, 97, 108, 105, 110, 103])) (ab' (eC (.str [114, 111, 119])) (ab' (eC (.str [104, 97, 110, 100])) (ab' (eC (.str [114, 111, 119, 115])) aH')))))) (gN 2) tT (eOp pEq (eV 2) (eOp pIx (eV 0) (eV 1)))) (cK' (ab' (eC (.bl true)) aH'))))) a8'))
  (bW' (oE (cK' aH')))))
def f_law : MF := fnM 1 16 ((aP' (bi' 1 (ay' f__law_hand (ab' (eV 0) aH')))
  (aP' (bi' 2 (oLc [11] (bD' (eC (.int 4))) (gN 11) tT (eOp pEq (eO (ay' f__law_draw (ab' (eV 1) (ab' (eC (.int 3)) aH')))) (eC (.int 1)))))
  (aP' (bi' 3 (oE (eOp bz' (eC (.int 1)) (eO (ay' f__law_draw (ab' (eV 1) (ab' (eC (.int 30)) aH')))))))
  (aP' (bi' 4 (ay' f__law_dealing (ab' (eV 1) (ab' (eV 3) (ab' (eC (.int 4)) aH')))))
  (aP' (bi' 5 (ay' f__law_hands (ab' (eV 4) aH')))
  (aP' (bi' 6 (oLc [7] (jC' (eV 5)) (gN 7) tT (eO (ay' f__law_row (ab' (eV 1) (ab' (eC (.str [97, 98, 99, 100, 101, 102, 103, 104, 105, 106, 107, 108, 109, 110, 111, 112, 113, 114, 115, 116, 117, 118, 119, 120, 121, 122, 46, 46, 46, 46])) (ab' (eV 3) aH')))))))
  (aP' (bi' 7 (oE (eOp pIx (eV 5) (eO (ay' f__law_draw (ab' (eV 1) (ab' (eUn bN' (eV 5)) aH')))))))
  (aP' (bi' 8 (mo' (cK' (ab' (eV 4) (ab' (eOp pIx (eV 6) (eC (.int 0))) (ab' (eV 7) (ab' (eUn cx' (eV 6)) aH')))))))
  (aP' (sIf (tE (eOp pIx (eV 2) (eC (.int 0)))) (eS' 8 (eC (.int 0)) (eO (ay' f__law_bad_dealing (ab' (eV 1) (ab' (eV 4) aH'))))) a8')
  (aP' (sIf (tE (eOp pIx (eV 2) (eC (.int 1)))) (eS' 8 (eC (.int 1)) (eO (ay' f__law_bad_row (ab' (eV 1) (ab' (eOp pIx (eV 6) (eC (.int 0))) aH'))))) a8')
  (aP' (sIf (tE (eOp pIx (eV 2) (eC (.int 2)))) (eS' 8 (eC (.int 2)) (eO (ay' f__law_bad_hand (ab' (eV 1) (ab' (eV 5) aH'))))) a8')
  (aP' (sIf (tE (eOp pIx (eV 2) (eC (.int 3)))) (eS' 8 (eC (.int 3)) (eO (ay' f__law_bad_rows (ab' (eV 1) (ab' (eV 6) aH'))))) a8')
  (aP' (bi' 9 (oE (cK' (ab' (eC (.str [100, 101, 97, 108, 105, 110, 103])) (ab' (eC (.str [114, 111, 119])) (ab' (eC (.str [104, 97, 110, 100])) (ab' (eC (.str [114, 111, 119, 115])) aH')))))))
  (aP' (bi' 10 (mo' (eOp eq' (cK' (ab' (eC .non) aH')) (eC (.int 4)))))
  (aP' (jR' (bD' (eC (.int 4))) (gN 11) (sIf (tE (eOp pIx (eV 2) (eV 11))) (eS' 10 (eV 11) (eOp pIx (eV 9) (eV 11))) a8'))
  (aP' (sIf (tE (eOp pNe (eOp pIx (eO (ay' f__law_marks (ab' (eC (.int 0)) (ab' (jV' 8 (eC (.int 0))) (ab' (jV' 8 (eC (.int 1))) (ab' (jV' 8 (eC (.int 2))) aH')))))) (eC (.int 1))) (eO (ay' f__law_due (ab' (eSl (eV 10) pNo (pSo (eC (.int 3)))) aH'))))) (bW' (oE (eC (.bl false)))) a8')
  (aP' (sIf (tE (eOp pNe (eOp pIx (eO (ay' f__law_marks (ab' (eC (.int 1)) (ab' (jV' 8 (eC (.int 0))) (ab' (jV' 8 (eC (.int 3))) (ab' (eC .non) aH')))))) (eC (.int 1))) (eO (ay' f__law_due (ab' (cK' (ab' (jV' 10 (eC (.int 0))) (ab' (jV' 10 (eC (.int 3))) aH'))) aH'))))) (bW' (oE (eC (.bl false)))) a8')
  (aP' (sIf (tE (eOp pNe (eOp pIx (eO (ay' f__law_marks (ab' (eC (.int 2)) (ab' (jV' 8 (eC (.int 0))) (ab' (eC .non) (ab' (eC .non) aH')))))) (eC (.int 1))) (eO (ay' f__law_due (ab' (eSl (eV 10) pNo (pSo (eC (.int 1)))) aH'))))) (bW' (oE (eC (.bl false)))) a8')
  (aP' (sIf (tE (eOp pNe (eO (ay' f__law_marks (ab' (eC (.int 0)) (ab' (eV 4) (ab' (eOp pIx (eV 6) (eC (.int 0))) (ab' (eV 7) aH')))))) (jU' (ab' (eO (ay' f__law_sight (ab' (eV 4) (ab' (eOp pIx (eV 6) (eC (.int 0))) (ab' (eV 7) aH'))))) (ab' (cK' aH') aH'))))) (bW' (oE (eC (.bl false)))) a8')
  (aP' (bi' 12 (oE (eMt dF' (eC (.str [])) (ab' (eLc [14] (bD' (eV 3)) (gN 14) tT (eOp pIx (eOp pIx (eV 6) (eMt jx' (eV 5) (ab' (eOp pIx (eV 4) (eV 14)) aH'))) (eV 14))) aH'))))
  (aP' (bi' 13 (oE (eUn qr' (eLc [15] (jC' (eO (ay' f_stretches (ab' (eV 4) aH')))) (gN 15) tT (eOp pIx (eV 15) (eC (.int 1)))))))
  (bW' (oE (qx' (eOp pEq (eO (ay' f__law_marks (ab' (eC (.int 1)) (ab' (eV 4) (ab' (eV 6) (ab' (eC .non) aH')))))) (jU' (ab' (eV 12) (ab' (cK' aH') aH')))) (eOp pEq (eV 13) (eV 3)))))))))))))))))))))))))))
end M
namespace S
open PySem PySem.Spec PyProof.Rows L2
def top (i : Nat) : Stmt := PySem.Challenge.pw_saidacross_k52_what_sights_refuse.main.body.getD i (.Pass ⟨0, 0, 0, 0⟩)
abbrev au' : Stmt := top 8
abbrev d8' : List Str := ["thing", "signs", "sign"]
theorem b6' : FnScope d8' ["thing", "signs"] (defScope au') := (by walk_at "3")
def cb' : He.DefD := ⟨("is_string_of", none), "is_string_of", "is_string_of", defArgs au', defBody au', defScope au', [], []⟩
abbrev ar' : Stmt := top 12
abbrev dW' : List Str := ["thing"]
theorem db' : FnScope dW' ["thing"] (defScope ar') := (by walk_at "3")
def bZ' : He.DefD := ⟨("check_dealing", none), "check_dealing", "check_dealing", defArgs ar', defBody ar', defScope ar', [], []⟩
abbrev aZ' : Stmt := top 13
abbrev jP' : List Str := ["dealing", "many", "hand"]
theorem bT' : FnScope jP' ["dealing"] (defScope aZ') := (by walk_at "3")
def dL' : He.DefD := ⟨("hands_of", none), "hands_of", "hands_of", defArgs aZ', defBody aZ', defScope aZ', [], []⟩
abbrev bn' : Stmt := top 14
abbrev nH' : List Str := ["dealing", "thing", "signs"]
theorem lc' : FnScope nH' ["dealing", "thing", "signs"] (defScope bn') := (by walk_at "3")
def gl' : He.DefD := ⟨("is_row", none), "is_row", "is_row", defArgs bn', defBody bn', defScope bn', [], []⟩
abbrev aQ' : Stmt := top 15
abbrev hC' : List Str := ["dealing", "thing", "signs"]
theorem fU' : FnScope hC' ["dealing", "thing", "signs"] (defScope aQ') := (by walk_at "3")
def c4' : He.DefD := ⟨("check_row", none), "check_row", "check_row", defArgs aQ', defBody aQ', defScope aQ', [], []⟩
abbrev bC' : Stmt := top 16
abbrev mh' : List Str := ["dealing", "row", "hand", "owner", "sign"]
theorem dj' : FnScope mh' ["dealing", "row", "hand"] (defScope bC') := (by walk_at "3")
def i7' : He.DefD := ⟨("sight", none), "sight", "sight", defArgs bC', defBody bC', defScope bC', [], []⟩
abbrev cj' : Stmt := top 17
abbrev s3' : List Str := ["dealing", "row", "hand"]
theorem o2' : FnScope s3' ["dealing", "row", "hand"] (defScope cj') := (by walk_at "3")
def l0' : He.DefD := ⟨("seen", none), "seen", "seen", defArgs cj', defBody cj', defScope cj', [], []⟩
abbrev aX' : Stmt := top 18
abbrev dV' : List Str := ["dealing", "rows", "hands", "row", "place", "owner"]
theorem bk' : FnScope dV' ["dealing", "rows"] (defScope aX') := (by walk_at "3")
def ey' : He.DefD := ⟨("crossed", none), "crossed", "crossed", defArgs aX', defBody aX', defScope aX', [], []⟩
abbrev aY' : Stmt := top 19
abbrev jO' : List Str := ["dealing", "found", "start", "place"]
theorem bB' : FnScope jO' ["dealing"] (defScope aY') := (by walk_at "3")
def dK' : He.DefD := ⟨("parts_of", none), "parts_of", "parts_of", defArgs aY', defBody aY', defScope aY', [], []⟩
abbrev aJ' : Stmt := top 20
abbrev dU' : List Str := ["dealing", "hand", "start", "stop"]
theorem bo' : FnScope dU' ["dealing"] (defScope aJ') := (by walk_at "3")
def c3' : He.DefD := ⟨("stretches", none), "stretches", "stretches", defArgs aJ', defBody aJ', defScope aJ', [], []⟩
abbrev aK' : Stmt := top 22
abbrev dX' : List Str := ["_law_script", "_law_cells", "_law_cell"]
theorem b7' : FnScope dX' ["_law_script"] (defScope aK') := (by walk_at "3")
def c5' : He.DefD := ⟨("_law_hand", none), "_law_hand", "_law_hand", defArgs aK', defBody aK', defScope aK', [], []⟩
abbrev aR' : Stmt := top 23
abbrev hD' : List Str := ["_law_hand_here", "_law_many", "_law_cell", "_law_digit", "_law_number"]
theorem bb' : FnScope hD' ["_law_hand_here", "_law_many"] (defScope aR') := (by walk_at "3")
def c6' : He.DefD := ⟨("_law_draw", none), "_law_draw", "_law_draw", defArgs aR', defBody aR', defScope aR', [], []⟩
abbrev av' : Stmt := top 24
abbrev d9' : List Str := ["_law_hand_here", "_law_places", "_law_most", "_law_shape", "_law_many", "_law_owner", "_law_dealing_here", "_law_place"]
theorem ax' : FnScope d9' ["_law_hand_here", "_law_places", "_law_most"] (defScope av') := (by walk_at "3")
def cc' : He.DefD := ⟨("_law_dealing", none), "_law_dealing", "_law_dealing", defArgs av', defBody av', defScope av', [], []⟩
abbrev aG' : Stmt := top 25
abbrev gO' : List Str := ["_law_dealing_here", "_law_many", "_law_owner"]
theorem bx' : FnScope gO' ["_law_dealing_here"] (defScope aG') := (by walk_at "3")
def cG' : He.DefD := ⟨("_law_hands", none), "_law_hands", "_law_hands", defArgs aG', defBody aG', defScope aG', [], []⟩
abbrev aU' : Stmt := top 26
abbrev eD' : List Str := ["_law_hand_here", "_law_signs", "_law_places", "_law_place"]
theorem cn' : FnScope eD' ["_law_hand_here", "_law_signs", "_law_places"] (defScope aU') := (by walk_at "3")
def dM' : He.DefD := ⟨("_law_row", none), "_law_row", "_law_row", defArgs aU', defBody aU', defScope aU', [], []⟩
abbrev aE' : Stmt := top 27
abbrev c9' : List Str := ["_law_dealing_here", "_law_row_here", "_law_owner", "_law_place"]
theorem bU' : FnScope c9' ["_law_dealing_here", "_law_row_here", "_law_owner"] (defScope aE') := (by walk_at "3")
def cE' : He.DefD := ⟨("_law_sight", none), "_law_sight", "_law_sight", defArgs aE', defBody aE', defScope aE', [], []⟩
abbrev al' : Stmt := top 28
abbrev cJ' : List Str := ["_law_hand_here", "_law_dealing_here", "_law_odd", "_law_which", "_law_at", "_law_sign"]
theorem aI' : FnScope cJ' ["_law_hand_here", "_law_dealing_here"] (defScope al') := (by walk_at "3")
def bE' : He.DefD := ⟨("_law_bad_dealing", none), "_law_bad_dealing", "_law_bad_dealing", defArgs al', defBody al', defScope al', [], []⟩
abbrev aw' : Stmt := top 29
abbrev ea' : List Str := ["_law_hand_here", "_law_row_here", "_law_odd", "_law_which", "_law_at"]
theorem be' : FnScope ea' ["_law_hand_here", "_law_row_here"] (defScope aw') := (by walk_at "3")
def cd' : He.DefD := ⟨("_law_bad_row", none), "_law_bad_row", "_law_bad_row", defArgs aw', defBody aw', defScope aw', [], []⟩
abbrev at' : Stmt := top 30
abbrev dZ' : List Str := ["_law_hand_here", "_law_hands_here", "_law_odd"]
theorem br' : FnScope dZ' ["_law_hand_here", "_law_hands_here"] (defScope at') := (by walk_at "3")
def b3' : He.DefD := ⟨("_law_bad_hand", none), "_law_bad_hand", "_law_bad_hand", defArgs at', defBody at', defScope at', [], []⟩
abbrev as' : Stmt := top 31
abbrev dY' : List Str := ["_law_hand_here", "_law_rows", "_law_odd", "_law_which", "_law_at"]
theorem a9' : FnScope dY' ["_law_hand_here", "_law_rows"] (defScope as') := (by walk_at "3")
def b0' : He.DefD := ⟨("_law_bad_rows", none), "_law_bad_rows", "_law_bad_rows", defArgs as', defBody as', defScope as', [], []⟩
abbrev aF' : Stmt := top 32
abbrev gN' : List Str := ["_law_which", "_law_dealing_here", "_law_thing", "_law_owner", "_law_told", "_law_marks_here", "e"]
theorem aN' : FnScope gN' ["_law_which", "_law_dealing_here", "_law_thing", "_law_owner"] (defScope aF') := (by walk_at "3")
def cF' : He.DefD := ⟨("_law_marks", none), "_law_marks", "_law_marks", defArgs aF', defBody aF', defScope aF', [], []⟩
abbrev aV' : Stmt := top 33
abbrev eE' : List Str := ["_law_bad", "_law_k", "_law_one"]
theorem bV' : FnScope eE' ["_law_bad"] (defScope aV') := (by walk_at "3")
def dN' : He.DefD := ⟨("_law_due", none), "_law_due", "_law_due", defArgs aV', defBody aV', defScope aV', [], []⟩
abbrev cv' : Stmt := top 34
abbrev mi' : List Str := ["_law_script", "_law_hand_here", "_law_marks_here", "_law_places", "_law_dealing_here", "_law_hands_here", "_law_rows", "_law_owner", "_law_given", "_law_names", "_law_bad", "_law_k", "_law_crossing", "_law_many", "_law_place", "_law_pair"]
theorem a7' : FnScope mi' ["_law_script"] (defScope cv') := (by walk_at "3")
def oz' : He.DefD := ⟨("law", none), "law", "law", defArgs cv', defBody cv', defScope cv', [], []⟩
def fns : List He.DefD := [cb', bZ', dL', gl', c4', i7', l0', ey', dK', c3', c5', c6', cc', cG', dM', cE', bE', cd', b3', b0', cF', dN', oz']
def tbs : List He.Tab := []
def fas : List He.Fa := [.glo "is_string_of", .glo "check_dealing", .glo "hands_of", .glo "is_row", .glo "check_row", .glo "sight", .glo "seen", .glo "crossed", .glo "parts_of", .glo "stretches", .glo "_law_hand", .glo "_law_draw", .glo "_law_dealing", .glo "_law_hands", .glo "_law_row", .glo "_law_sight", .glo "_law_bad_dealing", .glo "_law_bad_row", .glo "_law_bad_hand", .glo "_law_bad_rows", .glo "_law_marks", .glo "_law_due", .glo "law", .glo "SaidError", .exc "SaidError", .glo "NoDealing", .exc "NoDealing", .glo "NoRow", .exc "NoRow", .glo "NoHand", .exc "NoHand", .glo "NoRows", .exc "NoRows", .str "SMALL" "abcdefghijklmnopqrstuvwxyz", .str "HANDS" "ABCD", .str "SIGNS" "abcdefghijklmnopqrstuvwxyz.", .free "range", .free "sum", .free "isinstance", .free "str", .free "max", .free "all", .free "abs", .free "int", .free "len", .free "list", .free "tuple", .free "zip", .free "enumerate", .free "ValueError"]
def exs : List (PySem.W.Frag -> Bool) := [fun K => (M.exT.all fun e => decide (PySem.W.exmOne K (.ref (He.ga K e.1)) (.ref (He.ga K e.2.1)) = some e.2.2)), fun K => lP' K M.exI, fun K => ha' K M.exB]
def exK (K : PySem.W.Frag) : Bool := exs.all fun f => f K
end S
set_option maxHeartbeats 0
namespace S
open PySem PySem.Spec PyProof.Rows L2
def rM' : List Str := ["SaidError", "NoDealing", "NoRow", "NoHand", "NoRows", "SMALL", "is_string_of", "HANDS", "SIGNS", "check_dealing", "hands_of", "is_row", "check_row", "sight", "seen", "crossed", "parts_of", "stretches", "_law_hand", "_law_draw", "_law_dealing", "_law_hands", "_law_row", "_law_sight"]
def rL' : List Str := ["_law_bad_dealing", "_law_bad_row", "_law_bad_hand", "_law_bad_rows", "_law_marks", "_law_due"]
def loose : List Str := rM' ++ rL'
abbrev Rw : PySem.W.OpenRow := PySem.W.OpenLaw.row PySem.Challenge.rw_saidacross_k52_what_sights_refuse
abbrev hk : PySem.W.Hook := He.hookX 4 fas fns tbs [] exK
def ob (s : PySem.W.SharedT) : He.AlX := He.obsX 4 fas fns tbs [] exK (HandSHeadRun.getT s)
theorem t1' (s : PySem.W.SharedT) : ob s = hk.obs s.abs := He.obsX_eq (HandSHeadRun.getT_eq s)
theorem rx' {α β γ : Type} {x : Option α} {f : α -> β} {g : α -> γ} {b : β} {c : γ} (h1 : x.map f = some b) (h2 : x.map g = some c) : x.map (fun s => (f s, g s)) = some (b, c) := by
  cases x with
  | none => cases h1
  | some a =>
    obtain rfl := Option.some.inj h1
    obtain rfl := Option.some.inj h2
    rfl
section
open PySem.W HandSHeadRun
theorem vG' (w : World) (os : OsState) : (endF (stepQ (denQ tabQ) Rw.prog w) 2500 Rw.prog w os).map (fun s => looksF Rw.prog (boot_heap w.params) s.abs) = some true := by kernel_rfl
theorem vF' (w : World) (os : OsState) : (endF (stepQ (denQ tabQ) Rw.prog w) 2500 Rw.prog w os).map (fun s => seenQ (PySem.W.view Rw.prog [34]) loose (importedModules Rw.prog.main.body) (fun s => xlAt (PySem.W.view Rw.prog [34]) [] s && recOk Rw.toRowW.records s) s.abs) = some (openGood (PySem.W.view Rw.prog [34]) loose) := by kernel_rfl
theorem vE' (w : World) (os : OsState) : (endF (stepQ (denQ tabQ) Rw.prog w) 2500 Rw.prog w os).map (fun s => ob s) = some (hk.val w) := by kernel_rfl
end
theorem run (w : World) : HandSHeadRun.RunEq Rw (PySem.W.view Rw.prog [34]) hk ob 2500 loose w := fun os => rx' (vG' w os) (rx' (vF' w os) (vE' w os))
end S
set_option maxHeartbeats 4000000
namespace S
open PySem PySem.Spec PyProof.Rows L2
abbrev St := L2.St
section
variable {X : Cx}
def jS' (z : Str) (n : Nat) : Str := ⟨((List.replicate n z.cps.toList).flatten).toArray⟩
theorem gh' : ∀ (l : List (Array Nat)) (a : Array Nat), l.foldl (· ++ ·) a = (a.toList ++ (l.map Array.toList).flatten).toArray
  | [], a => by simp
  | b :: r, a => by
    rw [List.foldl_cons, gh' r]
    simp
theorem li' (z : Str) (n : Nat) : (⟨(List.replicate n z.cps).foldl (· ++ ·) #[]⟩ : Str) = jS' z n := by
  unfold jS'
  rw [gh']
  simp
theorem mU' (z : Str) : jS' z 1 = z := by
  obtain ⟨c⟩ := z
  simp [jS']
theorem lh' (z : Str) : jS' z 0 = Str.empty := by
  simp [jS']
  rfl
theorem jo' (z : Str) (h : z.length = 0) (n : Nat) : jS' z n = z := by
  obtain ⟨c⟩ := z
  have e : c.toList = [] := by
    have h1 : c.size = 0 := h
    exact List.eq_nil_of_length_eq_zero (by simpa using h1)
  have e2 : c = #[] := by simpa using congrArg List.toArray e
  subst e2
  simp [jS']
theorem gZ' (z : Str) (n : Nat) : (jS' z n).length = n * z.length := by
  show ((List.replicate n z.cps.toList).flatten).toArray.size = _
  rw [List.size_toArray, List.length_flatten]
  simp
  rfl
def oh' : R2 := fun x y H Q => ∃ z i, x = .str z /\ y = .int i /\ i < 2 ^ 62 /\ -(2 ^ 62) <= i /\ z.length * i.toNat <= sizeLine /\ Q (.str (jS' z i.toNat)) H
theorem m2' : OpR X (binaryOp .Mult) oh' := by
  intro pins s σ H x y v u Q I rx ry h
  obtain ⟨z, i, rfl, rfl, h1, h2, h3, q⟩ := h
  obtain ⟨t, rfl⟩ := rx
  obtain ⟨t', rfl⟩ := ry
  have h63 : (decide (i < -(2 ^ 63 : Int)) || decide (i >= 2 ^ 63)) = false := by
    rw [decide_eq_false (by omega), decide_eq_false (by omega)]; rfl
  have hsz : (sizeLine : Nat) < 2 ^ 62 := by rw [sizeLine_eq]; decide
  refine PySem.P.mul_str h63 (fun hn hz => ?_) (fun hn hz => ?_) ?_
  . intro hg
    have hpos : 0 < i := by omega
    have e : (i.toNat : Int) = i := by omega
    have h4 : (z.length : Int) * i <= sizeLine := by
      rw [<- e]; exact_mod_cast h3
    have h5 : (2 ^ 63 - 1) / i < (z.length : Int) := hg
    have h6 : (2 ^ 63 - 1 : Int) < z.length * i := by
      have := Int.lt_mul_of_ediv_lt hpos h5
      rw [Int.mul_comm] at this
      first
        | exact this
        | (rw [Int.mul_comm]; exact this)
    omega
  . exact decide_eq_false (by omega)
  . by_cases hn : i < 1
    . rw [if_pos hn]
      have e : i.toNat = 0 := by omega
      rw [e, lh'] at q
      exact ⟨by decide, .str Str.empty, H, I.tok _, ⟨_, rfl⟩, q⟩
    . rw [if_neg hn]
      by_cases hz : (i == 1 || z.length == 0) = true
      . rw [if_pos hz]
        have e : jS' z i.toNat = z := by
          rcases Bool.or_eq_true_iff.mp hz with h | h
          . have h' : i = 1 := eq_of_beq h
            rw [h']; exact mU' z
          . exact jo' z (eq_of_beq h) _
        rw [e] at q
        exact ⟨.str z, H, I, ⟨_, rfl⟩, q⟩
      . rw [if_neg hz, li']
        exact ⟨by rw [gZ', Nat.mul_comm]; omega, .str _, H, I.tok _, ⟨_, rfl⟩, q⟩
def rl' : R2 := fun x y H Q => rI CMul (fun i j => .int (i * j)) x y H Q \/ oh' x y H Q \/ rRep x y H Q
theorem pg' : OpR X (binaryOp .Mult) rl' := op_mul.or (m2'.or op_rep)
def te' (f : List Nat -> List Nat -> Bool) : R2 := fun x y H Q => ∃ i j, x = .str i /\ y = .str j /\ Q (.bl (f i.cps.toList j.cps.toList)) H
def qp' (p : Int -> Int -> Bool) (f : List Nat -> List Nat -> Bool) : R2 := fun x y H Q => rI0 (fun i j => .bl (p i j)) x y H Q \/ te' f x y H Q
theorem iR' : OpR X (compareOp .Lt) (qp' (fun i j => decide (i < j)) fun a b => decide (a < b)) := op_lt.or (r' := te' fun a b => decide (a < b)) op_lt_str
theorem rB' : OpR X (compareOp .Gt) (qp' (fun i j => decide (j < i)) fun a b => decide (b < a)) := op_gt.or (r' := te' fun a b => decide (b < a)) op_gt_str
theorem rC' : OpR X (compareOp .GtE) (qp' (fun i j => decide (j <= i)) fun a b => !decide (a < b)) := op_ge.or (r' := te' fun a b => !decide (a < b)) op_ge_str
def rr' (K : PySem.W.Frag) : R2 := fun x y H Q => rI0 (fun i j => .int (i + j)) x y H Q \/ (∃ i j, x = .str i /\ y = .str j /\ i.length + j.length <= sizeLine /\ Q (.str (i ++ j)) H) \/ rCat x y H Q \/ rCatA K x y H Q
theorem ao' : OpR X (binaryOp .Add) (rr' X.K) := op_add.or (op_add_str.or (op_cat.or op_catA))
def vd' (K : PySem.W.Frag) : R2 := fun x y H Q => rEq x y H Q \/ rEqD K x y H Q
theorem bf' (hu : X.A.units + 64 < cLine) : OpR X (compareOp .Eq) (vd' X.K) := op_eq.or (op_eqD hu)
def vc' (K : PySem.W.Frag) : R2 := fun x y H Q => rNe x y H Q \/ rNeD K x y H Q
theorem dB' (hu : X.A.units + 64 < cLine) : OpR X (compareOp .NotEq) (vc' X.K) := op_ne.or (op_neD hu)
def lo' : R2 := fun x y H Q => ∃ (c : Nat) (z : Str), x = .str ⟨#[c]⟩ /\ y = .str z /\ Q (.bl (!decide (c ∈ z.cps.toList))) H
def iO' : R2 := fun x y H Q => ∃ i j, x = .str i /\ y = .str j /\ Q (.bl (!(!(Builtin.Str.occurrences j i 0 j.length 1).isEmpty))) H
def ln' (K : PySem.W.Frag) : R2 := fun x y H Q => lo' x y H Q \/ rIn K true x y H Q \/ iO' x y H Q
theorem fX' : OpR X (compareOp .NotIn) (ln' X.K) := OpR.or (r := lo') op_notIn_sign (op_notIn_seq.or (r' := iO') op_notIn_str)
def vb' (K : PySem.W.Frag) : V -> Option Int -> Option Int -> Hp -> VK -> Prop := fun x lo hi H Q => rSlL K x lo hi H Q \/ rSlS x lo hi H Q \/ rSlA K x lo hi H Q
theorem ek' : SlR X (vb' X.K) := sl_list.or (sl_str.or sl_tupA)
def ro' (K : PySem.W.Frag) : List V -> Hp -> VK -> Prop := fun xs H Q => (∃ z, xs = [.str z] /\ z.length <= sizeLine /\ Q (.int z.length) H) \/ (∃ p ys, xs = [.ref p] /\ (SqL K H p ys \/ SqT K H p ys) /\ Q (.int ys.length) H) \/ (∃ a kvs, xs = [V.ref a] /\ Rd H a (.dK kvs) /\ Q (.int kvs.length) H)
theorem l6' : CallR X (.builtin "len") (ro' X.K) := call_len_str.or (call_len_seq.or fun pins s σ H vs us Q I r h => by
  obtain ⟨a, kvs, rfl, e, q⟩ := h
  cases r with
  | cons ra rn =>
    cases rn
    cases (show _ = Value.ref a from ra)
    exact d_len I e fun t s' I' => ⟨.int kvs.length, H, I', ⟨t, rfl⟩, q⟩)
def oj' (K : PySem.W.Frag) : List V -> Hp -> VK -> Prop := fun xs H Q => (∃ p ys, xs = [.ref p] /\ (SqL K H p ys \/ SqT K H p ys) /\ ∀ l, H l = none -> Q (.ref l) (upd H l (.lst ys)))
theorem jJ' : CallR X (.type "list") (oj' X.K) := call_list_of
def lm' (K : PySem.W.Frag) : List V -> Hp -> VK -> Prop := fun xs H Q => ∃ p ys, xs = [.ref p] /\ ((SqL K H p ys /\ ∀ l, H l = none -> Q (.ref l) (upd H l (.tup ys))) \/ (SqT K H p ys /\ Q (.ref p) H))
theorem hw' : CallR X (.type "tuple") (lm' X.K) := call_tuple_of
def rq' : List V -> Hp -> VK -> Prop := fun xs H Q => (∃ i, xs = [.int i] /\ Q (.int i) H) \/ ∃ k, xs = [.bl k] /\ Q (.int (if k then 1 else 0)) H
theorem bq' : CallR X (.type "int") rq' := call_int1
def rs' : List V -> Hp -> VK -> Prop := fun xs H Q => ∃ i, xs = [.int i] /\ Q (.int (if i < 0 then -i else i)) H
theorem l7' : CallR X (.builtin "abs") rs' := call_abs
def rm' : List V -> Hp -> VK -> Prop := fun xs H Q => ∃ i j, xs = [.int i, .int j] /\ Q (.int (if j > i then j else i)) H
theorem eB' (hc : X.calm = true) : CallR X (.builtin "max") rm' := call_max2 hc
def rk' : R2 := fun x y H Q => y = .non /\ Q (.bl (!decide (x = .non))) H
theorem m1' : OpR X (compareOp .IsNot) rk' := op_notN
theorem dz' {x z : Str} {pos : Pos} (hg : Gl X x) (h : ∃ t, X.mg x = some (.str z t)) (hd : (x == ("__debug__" : Str)) = false := by decide) : PE X (.Name x pos) (tC (.str z)) := by
  obtain ⟨t, e⟩ := h
  exact pe_glob hg e ⟨t, rfl⟩ hd
theorem eU' {x : Str} {a : Addr} {pos : Pos} (hg : Gl X x) (h : X.mg x = some (.ref a)) (hd : (x == ("__debug__" : Str)) = false := by decide) : PE X (.Name x pos) (tC (.ref a)) := pe_glob hg h rfl hd
theorem cw' {C : Addr} {bmB : List Value} {B newId initId : String} {x : Str} {p pos : Pos} (F : ExcBaseFacts B newId initId bmB) (q : PySem.W.excIn X.K C bmB newId = true) (gC : X.mg x = some (.ref C))
    (kC : PySem.W.keepIn X.K (.ref C) = true) (r : Raises X (.ref C)) (hg : Gl X x) (hdb : (x == ("__debug__" : Str)) = false := by decide) : PMk X (.Call (.Name x p) [] [] pos) (fun _ H Q => Q (.ref C) none H) := by
  intro pins s σ H Q I h
  refine wpAny_Call_Name_kw (ld_glob I hg gC ?_ hdb)
  refine PySem.W.callWith_K0 I.kIn kC ?_
  show wpAny _ _ (call (.ref C) []) _ _ _
  obtain ⟨bm, N, nm, qn, bs, hdct, sn, sub, ab, col, dd, k0, k1, k2, k3, k5, mN, hC, hN, hni, T⟩ := exc_obj I.kIn q
  refine wpAny_call_exc_subT F T hC hN hni (fun h' e hm => ?_) (Nat.zero_le _)
  exact mk_of I hm r h (I.hok.gone hm.new)
end
section
variable {P : Program} {w : World} {K : PySem.W.Frag} {mg : Str -> Option Value} {base : Heap}
section
variable {X : Cx} {k : Nat} {x : Str} {ps : List Str} {sp : Sp} {p pos : Pos} {e : Expr} {es : List Expr} {t : TA} {W : WX}
end
end
end S
namespace S
open PySem PySem.Spec PyProof.Rows L2
section
variable {K : PySem.W.Frag} {D : Ends} {σ : St} {H H' : Hp} {Q : VK} {t u : TS} {te ta tb tc : TE} {tt tu : TT} {g : TG} {tl : TA} {v x y : V} {i j : Int} {a p : Addr} {xs ys : List V} {z z' : Str} {r : R2}
theorem tA' {n : String} {tv : Value} {b : Bool} (ty : TyX K H x tv) (e : PySem.W.kitOne K tv (.type n) = some b) (h : Q (.bl b) H) : rIsi K [x, .ty n] H Q := ⟨x, .ty n, tv, _, b, rfl, .ty n, ty, e, h⟩
theorem Same.upd {H : Hp} {p : Addr} {o : HO} (h : H p = none) : Same H (upd H p o) := fun b u e => by
  rw [upd_ne (ne_of_none e h)]; exact e
theorem Same.app (s : Same H H') {o : HO} (h : H p = some o) : H' p = some o := s p o h
end
theorem FnOk.to0 {P : Program} {w : World} {K : PySem.W.Frag} {mg : Str -> Option Value} {base : Heap} {k : Nat} {f : Addr} {fd : FuncData} {ps : List Str} {sp : Sp} (F : FnOk P w K mg base (L2.CX P w) k f fd ps sp) :
    FnOk P w K mg base CX0 k f fd ps (fun vs H Q _ => sp vs H Q E0) :=
  ⟨fun vs H Q _ h => F.len vs H Q E0 h, fun A outer s H args us vs Q _ hr he hb hv hs => codeAny_mono (F.run A outer s H args us vs Q E0 hr he hb hv hs) fun r s' hq => by
    cases r with
    | error e =>
      obtain ⟨_, _, _, _, _, _, _, _, _, _, _, _, z⟩ := hq
      exact z.elim
    | ok fl =>
      cases fl with
      | ret u => exact hq
      | next => exact hq
      | brk => exact hq
      | cont => exact hq⟩
end S
namespace S
open PySem PySem.Spec PyProof.Rows L2
section
variable {α : Type} {as : List α} {J : It} {G : Hp -> Prop} {Y : α -> Hp -> V -> Hp -> Prop} {K : PySem.W.Frag} {D : Ends} {σ : St} {H : Hp} {g : TG} {tb : TS} {tt : TT} {te : TE} {a : Addr}
def v4' (J : It) (g : TG) (tb : TS) (D : Ends) (σ : St) (H1 : Hp) : Prop := ∃ W : Nat -> Nat -> St -> Hp -> Prop, (∃ m, W 0 m σ H1) /\ ∀ i m σ H, W i m σ H →
  (J.stop i H /\ D.nx σ H) \/ (J.go i H /\ ∃ N : St -> Hp -> Prop, (∀ σ' H', N σ' H' -> ∃ m', m' < m /\ W (i + 1) m' σ' H') /\ ∀ x H', J.yld i H x H' -> g x σ H' fun σ2 H2 => tb { D with nx := N, ct := N, bk := D.nx } σ2 H2)
theorem dJ' {lo : Int} {n : Nat} (Pv : Nat -> St -> Hp -> Prop) (h0 : Pv 0 σ H)
    (hs : ∀ i σ H, i < n -> Pv i σ H -> g (.int (lo + (i : Nat))) σ H fun σ2 H2 => tb { D with nx := Pv (i + 1), ct := Pv (i + 1), bk := D.nx } σ2 H2) (hd : ∀ σ H, Pv n σ H -> D.nx σ H) : v4' (Itr lo n) g tb D σ H := for_range Pv h0 hs hd
end
section
variable {H H' : Hp} {p q : Addr} {o : HO}
theorem seqT {K : PySem.W.Frag} {a : Addr} {xs : List V} (e : Same H H') (h : SqT K H a xs) : SqT K H' a xs := by
  rcases h with (h | ⟨o, h⟩) | h
  . exact .inl (.inl (e _ _ h))
  . exact .inl (.inr ⟨o, e _ _ h⟩)
  . exact .inr h
end
end S
namespace S
open PySem PySem.Spec PyProof.Rows L2
def u7' (c a : Addr) : HO := .ext fun h => ∃ (its : List Value) (n : Nat) (i s t k : Int), Vals [.ref c, .int i, .int s, .int t, .int k] its /\ h.get? a = some { cls := .type "list", data := .seq its.toArray n } /\ 0 <= i
def cl' (H : Hp) (a : Addr) : Prop := ∃ (c : Addr) (ns : List Int), H a = some (u7' c a) /\ H c = some (.lst (ns.map V.int))
section
variable {P : Program} {w : World} {H H' : Hp} {h h' : Heap} {a c : Addr} {o o' : HO} {fs : List Addr}
end
section
variable {P : Program} {w : World} {K : PySem.W.Frag} {mg : Str -> Option Value} {base : Heap} {k : Nat} {f : Addr} {fd : FuncData} {ps : List Str}
end
end S
namespace S
open PySem PySem.Spec PyProof.Rows L2
def Sh (n : Nat) (d : PyData) : Prop := d.canLay0 = true /\ d.depth <= n
theorem Sh.shaped {n : Nat} {d : PyData} (h : Sh n d) (hn : n <= 64) : SeqAt.shaped d = true := by
  unfold SeqAt.shaped
  rw [h.1, Bool.true_and]
  exact decide_eq_true (Nat.le_trans h.2 hn)
theorem Sh.mono {n m : Nat} {d : PyData} (h : Sh n d) (e : n <= m) : Sh m d := ⟨h.1, Nat.le_trans h.2 e⟩
theorem Sh.int {n : Nat} {i : Int} : Sh n (.int i) := ⟨rfl, Nat.zero_le _⟩
theorem Sh.bool {n : Nat} {b : Bool} : Sh n (.bool b) := ⟨rfl, Nat.zero_le _⟩
theorem Sh.none {n : Nat} : Sh n .none := ⟨rfl, Nat.zero_le _⟩
theorem Sh.str {n : Nat} {z : Str} (h : ∀ c ∈ z.cps.toList, c < 128) : Sh n (.str z) := by
  refine ⟨?_, Nat.zero_le _⟩
  show PyData.strOk z = true
  unfold PyData.strOk
  rw [Array.all_eq_true']
  intro c hc
  have := h c (by simpa using hc)
  simp only [decide_eq_true_eq]
  omega
theorem Sh.all {n : Nat} : ∀ {ds : List PyData}, (∀ d ∈ ds, Sh n d) -> PyData.canLayAll0 ds = true /\ PyData.depthAll ds <= n
  | [], _ => ⟨rfl, Nat.zero_le _⟩
  | d :: r, h => by
    have h1 := h d (by simp)
    have h2 := Sh.all (ds := r) fun x hx => h x (by simp [hx])
    refine ⟨?_, ?_⟩
    . show (d.canLay0 && PyData.canLayAll0 r) = true
      rw [h1.1, h2.1]
      rfl
    . show max d.depth (PyData.depthAll r) <= n
      exact Nat.max_le.mpr ⟨h1.2, h2.2⟩
theorem Sh.list {n : Nat} {ds : List PyData} (h : ∀ d ∈ ds, Sh n d) : Sh (n + 1) (.list ds) := ⟨(Sh.all h).1, Nat.succ_le_succ (Sh.all h).2⟩
theorem Sh.tuple {n : Nat} {ds : List PyData} (h : ∀ d ∈ ds, Sh n d) : Sh (n + 1) (.tuple ds) := ⟨(Sh.all h).1, Nat.succ_le_succ (Sh.all h).2⟩
section
variable {K : PySem.W.Frag} {H H' : Hp} {v : V} {vs : List V} {ds es : List PyData} {p : Addr} {xs : List V}
theorem DpAll.append : ∀ {vs ws : List V} {ds es : List PyData}, DpAll K H vs ds -> DpAll K H ws es -> DpAll K H (vs ++ ws) (ds ++ es)
  | _, _, _, _, .nil, h => h
  | _, _, _, _, .cons a r, h => .cons a (DpAll.append r h)
theorem DpAll.length : ∀ {vs : List V} {ds : List PyData}, DpAll K H vs ds -> vs.length = ds.length
  | _, _, .nil => rfl
  | _, _, .cons _ r => congrArg (· + 1) (DpAll.length r)
theorem DpAll.split : ∀ {a b : List V} {ds : List PyData}, DpAll K H (a ++ b) ds -> ∃ d e, ds = d ++ e /\ DpAll K H a d /\ DpAll K H b e
  | [], b, ds, h => ⟨[], ds, rfl, .nil, h⟩
  | x :: a, b, _, .cons h r => by
    obtain ⟨d, e, rfl, h1, h2⟩ := DpAll.split (a := a) r
    exact ⟨_ :: d, e, rfl, .cons h h1, h2⟩
theorem DpAll.get : ∀ {vs : List V} {ds : List PyData} {i : Nat} {d : PyData}, DpAll K H vs ds -> ds[i]? = some d -> ∃ v, vs[i]? = some v /\ Dp K H v d
  | _, _, _, _, .nil, e => by cases e
  | _, _, 0, _, .cons h _, e => ⟨_, rfl, by rw [<- Option.some.inj e]; exact h⟩
  | _, _, i + 1, _, .cons _ r, e => DpAll.get (i := i) r e
theorem Dp.int_inv {i : Int} (h : Dp K H v (.int i)) : v = .int i := by cases h; rfl
theorem Dp.str_inv {z : Str} (h : Dp K H v (.str z)) : v = .str z := by cases h; rfl
theorem Dp.tup_inv (h : Dp K H v (.tuple ds)) : ∃ p xs, v = .ref p /\ SqT K H p xs /\ DpAll K H xs ds := by
  cases h with
  | tup h1 h2 => exact ⟨_, _, rfl, h1, h2⟩
theorem Dp.lst_inv (h : Dp K H v (.list ds)) : ∃ p xs, v = .ref p /\ SqL K H p xs /\ DpAll K H xs ds := by
  cases h with
  | lst h1 h2 => exact ⟨_, _, rfl, h1, h2⟩
theorem tyT (h : SqT K H p xs) : TyX K H (.ref p) (.type "tuple") := by
  rcases h with (h | ⟨o, h⟩) | ⟨o, its, n, h, c, _⟩
  . exact .base (.tup h)
  . exact .fTuple h
  . exact .kTuple h c
theorem tyL (h : SqL K H p xs) : TyX K H (.ref p) (.type "list") := by
  rcases h with (h | ⟨o, h⟩) | ⟨o, its, n, h, c, _⟩
  . exact .base (.lst h)
  . exact .base (.frz h)
  . exact .kList h c
def tyn : PyData -> String
  | .none => "NoneType" | .bool _ => "bool" | .int _ => "int" | .str _ => "str" | .list _ => "list" | .tuple _ => "tuple" | .dict _ => "dict"
theorem _root_.L2.Dp.ty {d : PyData} (h : Dp K H v d) : TyX K H v (.type (tyn d)) := by
  cases h with
  | non => exact .base .non
  | bl b => exact .base (.bl b)
  | int i => exact .base (.int i)
  | str z => exact .base (.str z)
  | lst h1 _ => exact tyL h1
  | tup h1 _ => exact tyT h1
variable {σ : St} {R : St -> Hp -> Prop}
end
theorem gW' {a b : Str} (h : a.cps.toList = b.cps.toList) : a = b := by
  obtain ⟨a⟩ := a
  obtain ⟨b⟩ := b
  have : a = b := by simpa using congrArg List.toArray h
  rw [this]
theorem nE' (a b : Str) : (a ++ b).cps.toList = a.cps.toList ++ b.cps.toList := by
  show (a.cps ++ b.cps).toList = _
  simp
theorem nb' (a : Str) : a.length = a.cps.toList.length := by
  show a.cps.size = _
  simp
section
variable {α β : Type}
def vm' (xs : List α) (lo hi : Option Int) : List α := (xs.drop (HT.sIx xs.length 0 lo)).take (HT.sIx xs.length xs.length hi - HT.sIx xs.length 0 lo)
theorem sS' (z : Str) (lo hi : Option Int) : (cutS z lo hi).cps.toList = vm' z.cps.toList lo hi := by
  unfold cutS vm'
  rw [nb']
end
end S
namespace S
open PySem PySem.Spec PyProof.Rows L2
section
variable {K : PySem.W.Frag} {H : Hp} {J : It} {g : TG} {tt : TT} {te : TE} {vs : List Nat} {σ : St} {Q : VK} {G : Hp -> Prop}
theorem DpAll.at {H : Hp} : ∀ {d r : List V} {x : V} {ds : List PyData}, DpAll K H (d ++ x :: r) ds -> ∃ e, ds[d.length]? = some e /\ Dp K H x e /\ ds.take (d.length + 1) = ds.take d.length ++ [e] := by
  intro d r x ds h
  obtain ⟨a, b, rfl, h1, h2⟩ := DpAll.split h
  cases h2 with
  | cons h3 h4 =>
    have hl := DpAll.length h1
    rename_i e es
    have e1 : (a ++ e :: es)[d.length]? = some e := by rw [List.getElem?_append_right (by omega), hl, Nat.sub_self]; rfl
    refine ⟨_, e1, h3, ?_⟩
    rw [List.take_add_one, e1]
    rfl
theorem _root_.L2.Dp.t2 {v : V} {d e : PyData} (h : Dp K H v (.tuple [d, e])) : ∃ p x y, v = .ref p /\ SqT K H p [x, y] /\ Dp K H x d /\ Dp K H y e := by
  obtain ⟨p, xs, rfl, q, a⟩ := Dp.tup_inv h
  cases a with
  | cons a1 a => cases a with
    | cons a2 a => cases a; exact ⟨p, _, _, rfl, q, a1, a2⟩
end
end S
namespace S
open PySem PySem.Spec PyProof.Rows L2
def ItP (xs ys : Nat -> Option V) (n : Nat) : It :=
  ⟨fun i _ => i < n, fun i H v H' => ∃ T x y, v = .ref T /\ H T = none /\ H' = upd H T (.tup [x, y]) /\ xs i = some x /\ ys i = some y, fun i _ => i = n⟩
theorem fP' {P : Program} {w : World} {K : PySem.W.Frag} {tg : Expr} {z : Addr} {fp wr : List Addr} {n : Nat} {P1 P2 : Nat -> Value -> Prop} {St : Nat -> Heap -> Prop} {xs ys : Nat -> Option V}
    (W : ∀ A : Around, A.handled = none -> GoesN P w A tg z fp wr n (fun i h₀ v h => ∃ T x y, v = .ref T /\ h₀.objs.size <= T /\ P1 i x /\ P2 i y /\ h.IsTuple T #[x, y]) St) (hz : z ∈ fp) (sf : ∀ (A : Around) (i : Nat) (s : Shared) (Q : Value -> Shared -> Prop) (E : Value -> Shared -> Prop), St i s.heap -> Q (.ref z) s -> wpAny (model P w) A (pyIter (.ref z)) Q E s)
    (ob : ∀ i h, St i h -> ∀ b ∈ fp, ∃ o, h.get? b = some o /\ ∀ v, o.data ≠ .cell v) (r1 : ∀ i u, i < n -> P1 i u -> ∃ x, xs i = some x /\ RelV x u) (r2 : ∀ i u, i < n -> P2 i u -> ∃ x, ys i = some x /\ RelV x u) :
    Turn P w K tg (ItP xs ys n) fp z St where
  mem := hz
  obj := ob
  keep := fun i h h' st k => (W callerA rfl).frame i h h' st k
  item := by
    intro X hP hw hK hc i pins s σ H E I hf st hg
    subst hP hw hK
    have Wa := W X.A (I.ok.hd hc)
    refine Wa.goes i s _ E hg st fun v h' tk hY st' hk htk => ?_
    obtain ⟨T, u1, u2, rfl, hT, p1, p2, o, ho, hoc, m, hod⟩ := hY
    obtain ⟨x, hx, rx⟩ := r1 i u1 hg p1
    obtain ⟨y, hy, ry⟩ := r2 i u2 hg p2
    have new : ObjOk X.prog X.w (upd H T (.tup [x, y])) h' T (.tup [x, y]) := ⟨by show 2 <= sizeLine; decide, [u1, u2], .cons rx (.cons ry .nil), ⟨_, ho, hoc, _, hod⟩⟩
    have I1 : Inv X pins σ (upd H T (.tup [x, y])) { s with heap := h', toks := tk } :=
      I.turnedNew (t' := tk) (ch := fp) (fun b o hb q => hk b o (fun z => hb (Wa.sub b z)) q) hf hT new
    refine ⟨.ref T, _, I1, rfl, ⟨T, x, y, rfl, I.hok.fresh hT, rfl, hx, hy⟩, st', fun b hb => ?_⟩
    obtain ⟨ob1, hob, _⟩ := ob i s.heap st b hb
    rw [upd_ne (Nat.ne_of_lt (Nat.lt_of_lt_of_le (Heap.lt_size hob) hT))]
    exact (hf b hb).1
  done := by
    intro X hP hw hK hc i pins s σ H E I hf st hg
    subst hP hw hK
    have Wa := W X.A (I.ok.hd hc)
    have hg' : i = n := hg
    subst hg'
    exact Wa.stops s _ E st fun h' tk hk htk => I.turnedL (t' := tk) (ch := fp) (fun b o hb q => hk b o (fun z => hb (Wa.sub b z)) q) hf
  self := sf
def chS (z : Str) (i : Nat) : Option V := (z.cps.toList[i]?).map fun c => .str ⟨#[c]⟩
theorem l4' {z : Str} {i : Nat} {u : Value} (h : ∃ c t, z.cps[i]? = some c /\ u = .str ⟨#[c]⟩ t) : ∃ x, chS z i = some x /\ RelV x u := by
  obtain ⟨c, t, hc, rfl⟩ := h
  refine ⟨.str ⟨#[c]⟩, ?_, ⟨t, rfl⟩⟩
  unfold chS
  rw [show z.cps.toList[i]? = some c by rw [<- hc]; simp]
  rfl
def r1' (ta : TA) : TI := fun σ H R => ta σ H fun vs H1 => ∃ x y : Str, vs = [.str x, .str y] /\ R (ItP (chS x) (chS y) (min x.cps.size y.cps.size)) H1
theorem pe' {X : Cx} {e e2 : Expr} {ta : TA} {p pos tpos : Pos} {elts : List Expr} {kk} (hg : Gl X "zip") (hm : X.mg "zip" = none) (ha : PA X [e, e2] ta)
    (hs : starEach [e, e2] X.env = (false, eval e X.env) :: starEach [e2] X.env := by rfl) (hpl : (backTo pos (starEach [e2] X.env)).any (·.1) = false := by rfl) :
    PI X (.Tuple elts kk tpos) (.Call (.Name "zip" p) [e, e2] [] pos) (r1' ta) := by
  refine ⟨fun pins s σ H R I h => ?_⟩
  refine Call_ (ld_blt I hg hm PyProof.Rows.boot_zip (PyProof.Rows.callWith_type1 (thn (ha.run pos pins s σ H _ I h) fun us s1 ⟨vs, H1, I1, r1, q1⟩ => ?_) hs hpl))
  obtain ⟨x, y, ex, q⟩ := q1
  subst ex
  cases r1 with
  | cons r rr =>
    cases rr with
    | cons r' rr =>
      cases rr
      obtain ⟨t1, rfl⟩ := r
      obtain ⟨t2, rfl⟩ := r'
      refine zip_begins2 (begins_text x _) (begins_text y _) True.intro True.intro fun h' hz hTI hTO h1 h2 hsz hk => wpAny_pyIter_zip hz ?_
      have I2 : Inv X pins σ H1 { s1 with heap := h' } := I1.kept (t' := s1.toks) hk
      have S2 : ZipSep2 (s1.heap.objs.size + 4) (s1.heap.objs.size + 2) (s1.heap.objs.size + 3) s1.heap.objs.size (s1.heap.objs.size + 1) [s1.heap.objs.size] [s1.heap.objs.size + 1] := by
        constructor <;> simp
      refine ⟨s1.heap.objs.size + 4, (s1.heap.objs.size + 4) :: (s1.heap.objs.size + 2) :: (s1.heap.objs.size + 3) :: ([s1.heap.objs.size] ++ [s1.heap.objs.size + 1]), _, _, H1, rfl, I2,
        fP' (fun A hA => GoesN.zip2 S2 (Draws.text (A := A.in1) hA _ x _) (Draws.text (A := A.in1) hA _ y _)) (by simp) (fun A i s Q E st h => wpAny_pyIter_zip st.1 h) (fun i h st b hb => ?_) (fun i u _ hu => l4' hu) (fun i u _ hu => l4' hu), ⟨hz, hTI, ⟨_, _, hTO⟩, ⟨_, h1, rfl, rfl⟩, ⟨_, h2, rfl, rfl⟩⟩, fun c hcm => ?_, q⟩
      . obtain ⟨hz, hTI, ⟨a1, a2, hTO⟩, ⟨o1, e1, _, d1⟩, ⟨o2, e2, _, d2⟩⟩ := st
        have e' : b = s1.heap.objs.size + 4 \/ b = s1.heap.objs.size + 2 \/ b = s1.heap.objs.size + 3 \/ b = s1.heap.objs.size \/ b = s1.heap.objs.size + 1 := by simpa using hb
        rcases e' with z | z | z | z | z
        . rw [z]; exact ⟨_, hz, fun v q => nomatch q⟩
        . rw [z]; exact ⟨_, hTI, fun v q => nomatch q⟩
        . rw [z]; exact ⟨_, hTO, fun v q => nomatch q⟩
        . rw [z]; exact ⟨o1, e1, fun v q => by rw [d1] at q; cases q⟩
        . rw [z]; exact ⟨o2, e2, fun v q => by rw [d2] at q; cases q⟩
      . have e' : c = s1.heap.objs.size + 4 \/ c = s1.heap.objs.size + 2 \/ c = s1.heap.objs.size + 3 \/ c = s1.heap.objs.size \/ c = s1.heap.objs.size + 1 := by simpa using hcm
        have hle : s1.heap.objs.size <= c := by
          rcases e' with z | z | z | z | z
          . rw [z]; exact Nat.le_add_right _ _
          . rw [z]; exact Nat.le_add_right _ _
          . rw [z]; exact Nat.le_add_right _ _
          . rw [z]; exact Nat.le_refl _
          . rw [z]; exact Nat.le_add_right _ _
        exact I1.fpOk hle (I1.hok.fresh hle)
end S
namespace S
open PySem PySem.Spec PyProof.Rows L2
section
variable {X : Cx} {K : PySem.W.Frag} {to te : TE} {o e : Expr} {H : Hp} {Q : VK}
def lr' : V -> List V -> Hp -> VK -> Prop := fun x xs H Q => ∃ a b i rest, x = .str a /\ xs = [.str b] /\ Builtin.Str.occurrences a b 0 a.length 1 = i :: rest /\ Q (.int (i : Nat)) H
theorem f6' : MtR X "str.index" lr' := by
  intro pins s σ H x xs v us Q I rx rs h
  obtain ⟨a, b, i, rest, rfl, rfl, ho, h⟩ := h
  obtain ⟨t, rfl⟩ := rx
  cases rs with
  | cons r1 rs =>
    cases rs
    obtain ⟨u, rfl⟩ := r1
    exact PySem.call_gives F.slot_str_index (typeIs_str _ _ _) F.entry_str_index (F.args_str_index_2 _ _) (gives_str_index a b t u i rest ho) ⟨.int (i : Nat), H, I.tok (s.toks + 1), ⟨_, rfl⟩, h⟩
def rp' (K : PySem.W.Frag) : V -> List V -> Hp -> VK -> Prop := fun x xs H Q => ∃ a p, ∃ ys : List Str, x = .str a /\ xs = [.ref p] /\ (SqL K H p (ys.map V.str) \/ SqT K H p (ys.map V.str)) ∧
    (ys.map (·.length)).sum + ys.length * a.length <= 16777216 /\ Q (.str (Txt.join a ys)) H
def chv (c : Nat) : V := .str ⟨#[c]⟩
end
end S
namespace S
open PySem PySem.Spec PyProof.Rows L2
def r3' (ta : TA) : TI := fun σ H R => ta σ H fun vs H1 => ∃ x : Str, vs = [.str x] /\ R (ItP (fun i => some (.int (i : Nat))) (chS x) x.cps.size) H1
theorem mY' {X : Cx} {e : Expr} {ta : TA} {p pos tpos : Pos} {elts : List Expr} {kk} (hg : Gl X "enumerate") (hm : X.mg "enumerate" = none) (ha : PA X [e] ta) (hs : starEach [e] X.env = [(false, eval e X.env)] := by rfl) :
    PI X (.Tuple elts kk tpos) (.Call (.Name "enumerate" p) [e] [] pos) (r3' ta) := by
  refine ⟨fun pins s σ H R I h => ?_⟩
  refine Call_ (ld_blt I hg hm boot_enumerate (PyProof.Rows.callWith_type1 (thn (ha.run pos pins s σ H _ I h) fun us s1 ⟨vs, H1, I1, r1, q1⟩ => ?_) hs rfl))
  obtain ⟨x, ex, q⟩ := q1
  subst ex
  cases r1 with
  | cons r rr =>
    cases rr
    obtain ⟨t, rfl⟩ := r
    refine call_enumerate_str fun h' he hit hsz hk => wpAny_pyIter_enum he ?_
    have I2 : Inv X pins σ H1 { s1 with heap := h' } := I1.kept (t' := s1.toks) hk
    refine ⟨s1.heap.objs.size + 1, [s1.heap.objs.size + 1, s1.heap.objs.size], fun i h => (∃ old, IsEnum h (s1.heap.objs.size + 1) s1.heap.objs.size ((0 : Int) + (i : Nat)) old) /\ h.IsStrIter s1.heap.objs.size (strIterType x) x t i, _, H1, rfl, I2,
      fP' (P1 := fun i u => ∃ t, u = .int ((0 : Int) + (i : Nat)) t) (P2 := fun i v => ∃ c u, x.cps[i]? = some c /\ v = .str ⟨#[c]⟩ u) (wr := [s1.heap.objs.size + 1, s1.heap.objs.size])
        (fun A hA => (GoesN.enumFrom 0 (Draws.text (A := A.in1) hA s1.heap.objs.size x t) (s1.heap.objs.size + 1) (Nat.succ_ne_self _) (by simp) (by simp)).mono fun i h₀ v h _ ⟨T, t, y, ev, hn, hy, hT⟩ => ⟨T, _, y, ev, hn, ⟨t, rfl⟩, hy, hT⟩)
        (by simp) (fun A i s Q E st h => let ⟨⟨_, he⟩, _⟩ := st; wpAny_pyIter_enum he h) (fun i h st b hb => ?_) (fun i u _ hu => ?_) (fun i u _ hu => l4' hu), ⟨⟨_, he⟩, hit⟩, fun c hcm => ?_, q⟩
    . obtain ⟨⟨old, he⟩, ⟨o1, e1, _, d1⟩⟩ := st
      have e' : b = s1.heap.objs.size + 1 \/ b = s1.heap.objs.size := by simpa using hb
      rcases e' with z | z
      . rw [z]; exact ⟨_, he, fun v q => nomatch q⟩
      . rw [z]; exact ⟨o1, e1, fun v q => by rw [d1] at q; cases q⟩
    . obtain ⟨t, rfl⟩ := hu
      exact ⟨_, rfl, ⟨t, by rw [Int.zero_add]⟩⟩
    . have e' : c = s1.heap.objs.size + 1 \/ c = s1.heap.objs.size := by simpa using hcm
      have hle : s1.heap.objs.size <= c := by
        rcases e' with z | z
        . rw [z]; exact Nat.le_add_right _ _
        . rw [z]; exact Nat.le_refl _
      exact I1.fpOk hle (I1.hok.fresh hle)
end S
namespace S
open PySem PySem.Spec PyProof.Rows L2
theorem eh' : ∀ (vs : List Value) (l : List Nat), vs.length = l.length -> (∀ (j : Nat) (v : Value), vs[j]? = some v -> ∃ c u, l[j]? = some c /\ v = .str ⟨#[c]⟩ u) -> StrsAre vs (l.map fun c => ⟨#[c]⟩)
  | [], [], _, _ => .nil
  | [], _ :: _, h, _ => by simp at h
  | _ :: _, [], h, _ => by simp at h
  | v :: vs, c :: l, h, hh => by
    obtain ⟨d, u, h1, rfl⟩ := hh 0 v rfl
    cases h1
    exact .cons _ _ (eh' vs l (by simpa using h) fun j w hw => by
      have := hh (j + 1) w (by simpa using hw)
      simpa using this)
section
variable {K : PySem.W.Frag} {H : Hp} {Q : VK} {σ : St}
end
theorem mX' {X : Cx} {tg iter : Expr} {w1 w2 : TI} (h1 : PI X tg iter w1) (h2 : PI X tg iter w2) : PI X tg iter (fun σ H R => w1 σ H R \/ w2 σ H R) :=
  ⟨fun pins s σ H R I h => h.elim (h1.run pins s σ H R I) (h2.run pins s σ H R I)⟩
def r0' (K : PySem.W.Frag) (ta : TA) : TI := fun σ H R => r1' ta σ H R \/ RZ.iZipA K ta σ H R
theorem pd' {X : Cx} {e e2 : Expr} {ta : TA} {p pos tpos : Pos} {elts : List Expr} {kk} (hg : Gl X "zip") (hm : X.mg "zip" = none) (ha : PA X [e, e2] ta)
    (hs : starEach [e, e2] X.env = (false, eval e X.env) :: starEach [e2] X.env := by rfl) (hpl : (backTo pos (starEach [e2] X.env)).any (·.1) = false := by rfl) :
    PI X (.Tuple elts kk tpos) (.Call (.Name "zip" p) [e, e2] [] pos) (r0' X.K ta) := mX' (pe' hg hm ha hs hpl) (RZ.pi_zipA hg hm ha hs hpl)
end S
namespace S
open PySem PySem.Spec PyProof.Rows L2
section
variable {K : PySem.W.Frag} {σ : St} {H : Hp} {Q : VK} {te ta tv : TE} {f : Str} {v y : V} {a C dx : Addr} {fs : List (Str × V)} {D : Ends} {R : Hp -> Prop}
end
section
variable {K : PySem.W.Frag} {σ : St} {H : Hp} {Q : VK} {ta : TE} {t : TA} {C a dx : Addr} {m : Str} {sp : Sp} {E : St -> XK} {E' : XK} {fs : List (Str × V)} {vs : List V}
end
section
variable {X : Cx} {k : Nat} {C : Addr} {x m : Str} {ps : List Str} {sp : Sp} {p pos apos : Pos} {e o : Expr} {es : List Expr} {ta : TE} {t : TA} {W : WX} {CX : CXT} {f : Addr} {fd : FuncData} {E : St -> XK}
end
end S
namespace S
open PySem PySem.Spec PyProof.Rows L2
def signs (x : Str) : List V := x.cps.toList.map fun c => V.str ⟨#[c]⟩
theorem el' {x : Str} {acc : Array Value} (h : ItemsOf (SignAt x) acc x.cps.size) : Vals (signs x) acc.toList := by
  have hS : StrsAre acc.toList (x.cps.toList.map fun c => ⟨#[c]⟩) := by
    refine eh' _ _ (by rw [Array.length_toList, Array.length_toList]; exact h.1) fun j v hv => ?_
    obtain ⟨c, u, h1, h2⟩ := h.2 j v (by simpa using hv)
    exact ⟨c, u, by rw [<- h1]; simp, h2⟩
  have := vals_of_strs hS
  rw [List.map_map] at this
  exact this
def lp' : List V -> Hp -> VK -> Prop := fun vs H Q => ∃ x : Str, vs = [V.str x] /\ x.length <= sizeLine /\ ∀ p, H p = none -> Q (.ref p) (upd H p (.lst (signs x)))
theorem hx' {X : Cx} (hc : X.calm = true) : CallR X (.type "list") lp' := by
  intro pins s σ H vs us Q I r h
  obtain ⟨x, rfl, hl, q⟩ := h
  cases r with
  | cons r rr =>
    cases rr
    obtain ⟨t, rfl⟩ := r
    refine call_list_str (I.ok.hd hc) x t (fun h' tk acc c' hk ho hacc => ?_) hl
    have hlen : (signs x).length <= sizeLine := by
      unfold signs
      rw [List.length_map, Array.length_toList]
      exact hl
    have I2 : Inv X pins σ (upd H s.heap.objs.size (.lst (signs x))) { s with heap := h', toks := tk } :=
      I.laid (t' := tk) (fun b u hb => hk b u hb) (Nat.le_refl _) ⟨hlen, acc.toList, c', el' hacc, by rw [ho]⟩
    exact ⟨.ref _, _, I2, rfl, q _ (I.hok.fresh (Nat.le_refl _))⟩
def og' : List V -> Hp -> VK -> Prop := fun vs H Q => ∃ x : Str, vs = [V.str x] /\ x.length <= sizeLine /\ ∀ p, H p = none -> Q (.ref p) (upd H p (.tup (signs x)))
theorem jI' {X : Cx} (hc : X.calm = true) : CallR X (.type "tuple") og' := by
  intro pins s σ H vs us Q I r h
  obtain ⟨x, rfl, hl, q⟩ := h
  cases r with
  | cons r rr =>
    cases rr
    obtain ⟨t, rfl⟩ := r
    refine call_tuple_str (I.ok.hd hc) x t (fun h' tk acc hk hacc => ?_) hl
    have hlen : (signs x).length <= sizeLine := by
      unfold signs
      rw [List.length_map, Array.length_toList]
      exact hl
    have I1 : Inv X pins σ H { s with heap := h' } := I.kept (t' := s.toks) hk
    have I2 : Inv X pins σ (upd H h'.objs.size (.tup (signs x))) { s with heap := h'.push { cls := .type "tuple", data := .seq acc }, toks := tk } :=
      I1.laid (t' := tk) (fun b u hb => Heap.get?_push_of_some _ hb) (Nat.le_refl _) ⟨hlen, acc.toList, el' hacc, ⟨_, Heap.get?_push_size _ rfl, rfl, 0, by simp⟩⟩
    exact ⟨.ref _, _, I2, rfl, q _ (I1.hok.fresh (Nat.le_refl _))⟩
def oi' (K : PySem.W.Frag) : List V -> Hp -> VK -> Prop := fun vs H Q => oj' K vs H Q \/ lp' vs H Q
theorem cT' {X : Cx} (hc : X.calm = true) : CallR X (.type "list") (oi' X.K) := jJ'.or (hx' hc)
def ll' (K : PySem.W.Frag) : List V -> Hp -> VK -> Prop := fun vs H Q => lm' K vs H Q \/ og' vs H Q
theorem dP' {X : Cx} (hc : X.calm = true) : CallR X (.type "tuple") (ll' X.K) := hw'.or (jI' hc)
end S
namespace S
open PySem PySem.Spec PyProof.Rows L2
structure RoomG (k : Nat) (A : Around) : Prop where
  r : Room k A
  g : A.guards = some []
theorem RoomG.mono {j k : Nat} {A : Around} (h : RoomG k A) (l : j <= k) : RoomG j A := ⟨h.r.mono l, h.g⟩
theorem RoomG.units {k : Nat} {A : Around} (h : RoomG k A) : A.units + 64 < cLine := h.r.units
structure FnG (P : Program) (w : World) (K : PySem.W.Frag) (mg : Str -> Option Value) (base : Heap) (CX : CXT) (k : Nat) (f : Addr) (fd : FuncData) (ps : List Str) (sp : Sp) : Prop where
  len : ∀ vs H Q E, sp vs H Q E -> vs.length = ps.length
  run : ∀ (A : Around) (outer : List Env) (s : Shared) (H : Hp) (args : Args) (us : List Value) (vs : List V) (Q : VK) (E : XK), RoomG k A -> Env0 P w K mg base A outer s H →
    BindsTo s fd args (ps.zip us) -> Vals vs us -> sp vs H Q E -> codeAny (model P w) A (.call (.ref f) args) (CR CX outer P w H s Q E) s
theorem FnG.of {P : Program} {w : World} {K : PySem.W.Frag} {mg : Str -> Option Value} {base : Heap} {CX : CXT} {k : Nat} {f : Addr} {fd : FuncData} {ps : List Str} {sp : Sp} (F : FnOk P w K mg base CX k f fd ps sp) : FnG P w K mg base CX k f fd ps sp :=
  ⟨F.len, fun A o s H as us vs Q E h => F.run A o s H as us vs Q E h.r⟩
section
variable {P : Program} {w : World} {K : PySem.W.Frag} {mg : Str -> Option Value} {base : Heap} {CX : CXT} {f : Addr} {fd : FuncData}
theorem r4' {N ps : List Str} {scope : Scope} (S : FnScope N ps scope) (us : List Value) (n : Nat) : ∀ y ∈ ps.zip us,
    scope.names.lookup y.1 = some .local \/ (scope.names.lookup y.1 = some .cell /\ ((cellsFrom n scope.names []).lookup y.1).isSome = true) := by
  rintro ⟨nm, v⟩ hy
  have q := S.par nm (List.of_mem_zip hy).1
  exact q.imp id fun q => ⟨q, PySem.W.cellsFrom_some _ _ _ (.inl q)⟩
theorem pQ' {x qual : Str} {params : Arguments} {body : List Stmt} {scope : Scope} {N ps : List Str} {k : Nat} {sp : Sp} (F : FunD K x qual params body scope [] [] f fd) (S : FnScope N ps scope)
    (len : ∀ vs H Q E, sp vs H Q E -> vs.length = ps.length)
    (hbody : ∀ (cdv oc : Value) (od : Option Addr) (osl : Array (Option Value)), K.lookup f = some ⟨oc, od, .func fd, osl⟩ -> fd.code = cdv -> PySem.W.codeIn K cdv qual = true -> ∀ (A : Around) (o : List Env) (s : Shared) (H : Hp) (vs : List V) (Q : VK) (E : XK), RoomG k (A.deeper (envOfC qual scope s.heap.objs.size f cdv)) -> sp vs H Q E →
      ∃ t, PSs (cxOf CX P w K mg base N qual scope f cdv A o s H E) body t /\ t { nx := fun _ H' => Q .non H', rt := Q } (start N vs) H) : FnG P w K mg base CX (k + 1) f fd ps sp := by
  obtain ⟨oc, od, dV, kV, doc, pm, an, cdv, ct, osl, rfl, lk, hcd, _, _⟩ := F.ex
  constructor
  . exact len
  intro A o s H args us vs Q E hg e0 hb r hsp
  have Ks : K.In s.heap := e0.mod.kin.keeps fun b u e => (e0.bs b u e).1
  have Ls : s.heap.NoLimit := e0.mod.nolimit.keeps fun b u e => (e0.bs b u e).1
  refine codeAny_call_function hg.r.depth (Ks _ _ lk) rfl S.co S.gen rfl (PySem.W.codeRec_of Ks hcd) (hb _ _ _ _ ?_)
  refine wpAny_newFunctionEnv_cells S.kind (r4' S us _) fun env he s1 z => ?_
  subst he
  refine ⟨Ls.keeps z.toInCall.keep, codeAny_func ?_⟩
  obtain ⟨t, pt, tq⟩ := hbody cdv oc od osl lk rfl hcd A o s H vs Q E ⟨hg.r.deeper _, hg.g⟩ hsp
  have J := inv_start (CX := CX) (E := E) S hg.r.hd e0 (len _ _ _ _ hsp) r z
  refine wpAny_mono (pt.run [] s1 (start N vs) H _ J tq) (fun fl s' q => ?_) fun _ _ q => q
  cases fl with
  | next =>
    obtain ⟨σ', H', I, q⟩ := q
    exact ⟨V.non, H', I.os, I.bare, I.base, I.hok, rfl, q⟩
  | ret u =>
    obtain ⟨v, σ', H', I, e, q⟩ := q
    exact ⟨v, H', I.os, I.bare, I.base, I.hok, e, q⟩
  | brk => exact (let ⟨_, _, _, z⟩ := q; z).elim
  | cont => exact (let ⟨_, _, _, z⟩ := q; z).elim
theorem sa' {X : Cx} {pins : List (Addr × Obj)} {σ : St} {H : Hp} {s s' : Shared} {Q : VK} {E : XK} (hx : PassesAt CX X σ E) (I : Inv X pins σ H s) : ∀ r : Result, CR CX X.stack X.prog X.w H s Q E r s' -> (match r with
    | .ok (.ret u) => EP X pins σ Q u s'
    | .ok _ => False
    | .error e => X.xe e s')
  | .error e, q => hx pins H s e s' I q
  | .ok (.ret u), q => I.after q
  | .ok .next, q => q
  | .ok .brk, q => q
  | .ok .cont, q => q
end
section
variable {X : Cx} {CX : CXT} {k : Nat} {f C : Addr} {fd : FuncData} {ps : List Str} {sp : Sp} {E : St -> XK} {x m : Str} {p pos apos : Pos} {e o : Expr} {es : List Expr} {ta : TE} {t : TA} {W : WX}
theorem ld' {pins : List (Addr × Obj)} {σ : St} {H : Hp} {s : Shared} {Q : VK} {us : List Value} {vs : List V} (F : FnG X.prog X.w X.K X.mg X.base CX k f fd ps sp) (hr : RoomG k X.A)
    (hb : Binds X.K fd ps []) (hx : PassesAt CX X σ (E σ)) (I : Inv X pins σ H s) (r : Vals vs us) (h : sp vs H Q (E σ)) : wpAny (model X.prog X.w) X.A (call (.ref f) us) (EP X pins σ Q) X.xe s := by
  have b := hb s us I.kIn (by rw [List.append_nil, <- r.length]; exact F.len _ _ _ _ h)
  rw [List.append_nil] at b
  refine wpAny_call (codeAny_mono (F.run X.A X.stack s H ⟨us, []⟩ us vs Q (E σ) hr I.env0 b r h) fun res s' q => ?_)
  have z := sa' hx I res q
  revert z
  cases res with
  | error e => exact id
  | ok fl => cases fl <;> exact id
def Og (P : Program) (w : World) (K : PySem.W.Frag) (mg : Str -> Option Value) (base : Heap) (k : Nat) (x : Str) (ps : List Str) (sp : Sp) : Prop :=
  ∃ fd, FnG P w K mg base (L2.CX P w) k (He.ga K x) fd ps sp /\ Binds K fd ps [] /\ PySem.W.keepIn K (.ref (He.ga K x)) = true /\ mg x = some (.ref (He.ga K x))
def OgM (P : Program) (w : World) (K : PySem.W.Frag) (mg : Str -> Option Value) (base : Heap) (k : Nat) (C : Addr) (m : Str) (ps : List Str) (sp : Sp) : Prop :=
  ∃ fd, FnG P w K mg base (L2.CX P w) k (He.ma K C m) fd ps sp /\ Binds K fd ps []
theorem mZ' (F : Og X.prog X.w X.K X.mg X.base k x ps sp) (hr : RoomG k X.A) (hg : Gl X x) (tk : Takes X W) (ha : PA X (e :: es) t) (hdb : (x == ("__debug__" : Str)) = false := by decide)
    (he : starEach (e :: es) X.env = (false, eval e X.env) :: starEach es X.env := by rfl) (hpl : (backTo pos (starEach es X.env)).any (·.1) = false := by rfl) : PE X (.Call (.Name x p) (e :: es) [] pos) (tCallS sp (WE W) t) := by
  obtain ⟨fd, F, b, kp, hm⟩ := F
  refine ⟨fun pins s σ H Q I h => wpAny_Call_Name_kw (ld_glob I hg hm ?_ hdb)⟩
  refine PySem.W.callWith_K (h₀ := X.base) I.ok.mod.kin kp (thn (ha.run pos pins s σ H _ I h) fun us s1 ⟨vs, H1, I1, r, q⟩ => ?_) he hpl
  exact ⟨I1.kIn, ld' F hr b (passAt tk σ) I1 r q⟩
end
theorem jH' {P : Program} {w : World} {CX : CXT} {H : Hp} {s s' : Shared} (hO : Only H) (ok : HOk P w H s.heap) (hCX : ∀ e s', CX [] H s (fun _ _ _ => False) e s' -> False) : ∀ res : Result,
    CR CX [] P w H s (fun v _ => v = .bl true) (fun _ _ _ => False) res s' -> res = .ok (.ret (.bool true)) /\ OldK s.heap s'.heap /\ s'.os = s.os /\ AllBare s'.gens
  | .error e, q => (hCX e s' q).elim
  | .ok .next, q => False.elim q
  | .ok .brk, q => False.elim q
  | .ok .cont, q => False.elim q
  | .ok (.ret u), ⟨v, H', os, bare, un, ok', rv, q⟩ => by
    have q : v = .bl true := q
    rw [q] at rv
    cases (show u = Value.bool true from rv)
    refine ⟨rfl, OldK.of_keep fun b o e => ?_, os, bare⟩
    rcases hO b with z | ⟨ob, xs, z⟩
    . exact un.keep b o e z (List.not_mem_nil) (List.not_mem_nil)
    . have e1 := (ok b _ z).1
      have e2 := (ok' b _ (un.frzs b ob _ z)).1
      rw [e] at e1
      cases e1
      exact e2
theorem gc' {P : Program} {w : World} {K : PySem.W.Frag} {mg mb : Str -> Option Value} {CX : CXT} {k : Nat} {fa a : Addr} {fd : FuncData} {x : Str} {sp : Sp} {s : Shared} {vs : List Value} {n0 : Nat} {H : Hp}
    (KX : K.In s.heap) (n1 : s.heap.Ns mainGlobals mg) (n2 : s.heap.Ns builtinsNs mb) (n3 : ∀ x : Str, x ≠ "__name__" -> mb x = bootBuiltins x) (lim : s.heap.NoLimit) (hg : s.gens = #[])
    (ha : s.heap.get? a = some { cls := .type "list", data := .seq vs.toArray n0 }) (hr : Room k callerA) (F : ∀ base : Heap, K.In base -> base.Ns mainGlobals mg -> FnG P w K mg base CX k fa fd [x] sp)
    (hbind : ∀ (s : Shared) (u : Value), BindsTo s fd ⟨[u], []⟩ [(x, u)]) (hO : Only H) (hs : sp [.ref a] H (fun v _ => v = .bl true) fun _ _ _ => False) (hCX : ∀ e s', CX [] H s (fun _ _ _ => False) e s' -> False)
    (ok : HOk P w H s.heap) (one : ∀ b u, H b = some u -> b = a) (out : H a ≠ none -> K.lookup a = none) :
    codeAny (model P w) callerA (.call (.ref fa) ⟨[.ref a], []⟩) (fun r s' => r = .ok (.ret (.bool true)) /\ OldK s.heap s'.heap /\ s'.os = s.os /\ AllBare s'.gens) s := by
  -- an object that is no list of the script stands in the base
  have apart : ∀ {b : Addr} {o : Obj}, s.heap.get? b = some o -> (∀ l n, o.data ≠ .seq l n) -> H b = none := by
    intro b o e d
    cases q : H b with
    | none => rfl
    | some u =>
      have e' := one b u q
      rw [e', ha] at e
      cases e
      exact absurd rfl (d _ _)
  have keep : ∀ {b : Addr} {m : Str -> Option Value}, s.heap.Ns b m -> (hidT s.heap H).Ns b m := by
    rintro b m ⟨o, es, ep, e, d, r⟩
    exact ⟨o, es, ep, hidT_get e (apart e fun l n z => by rw [d] at z; cases z), d, r⟩
  have Kb : K.In (hidT s.heap H) := by
    intro b o e
    refine hidT_get (KX b o e) ?_
    cases q : H b with
    | none => rfl
    | some u =>
      have e' := one b u q
      subst e'
      rw [out (by rw [q]; exact fun z => nomatch z)] at e
      cases e
  have M : Mod K mg (hidT s.heap H) := { kin := Kb, glob := keep n1, blt := ⟨mb, keep n2, n3⟩, nolimit := (let ⟨m, q1, q2⟩ := lim; ⟨m, keep q1, q2⟩) }
  have e0 : Env0 P w K mg (hidT s.heap H) callerA [] s H := { frames := rfl, mod := M, bs := (fun b o e => of_hidT e), bsz := Nat.le_of_eq (hidT_size _ _), funs := trivial, frf := (fun b z => absurd z List.not_mem_nil), hok := ok, bare := .of_eq hg }
  exact codeAny_mono ((F _ Kb (keep n1)).run callerA [] s H ⟨[.ref a], []⟩ [.ref a] [.ref a] _ _ ⟨hr, rfl⟩ e0 (hbind s (.ref a)) (.cons rfl .nil) hs) fun r s' q => jH' hO ok hCX r q
theorem lN' {P : Program} {w : World} {K : PySem.W.Frag} {mg mb : Str -> Option Value} {CX : CXT} {k : Nat} {fa a : Addr} {fd : FuncData} {x : Str} {sp : Sp} {s : Shared} {vs : List Value} {ns : List Int}
    (KX : K.In s.heap) (n1 : s.heap.Ns mainGlobals mg) (n2 : s.heap.Ns builtinsNs mb) (n3 : ∀ x : Str, x ≠ "__name__" -> mb x = bootBuiltins x) (lim : s.heap.NoLimit) (hg : s.gens = #[])
    (ha : s.heap.get? a = some { cls := .type "list", data := .seq vs.toArray }) (hi : IntsAre vs ns) (hl : ns.length <= sizeLine) (hr : Room k callerA)
    (F : ∀ base : Heap, K.In base -> base.Ns mainGlobals mg -> FnG P w K mg base CX k fa fd [x] sp) (hbind : ∀ (s : Shared) (u : Value), BindsTo s fd ⟨[u], []⟩ [(x, u)])
    (hsp : ∀ H : Hp, Only H -> SqL K H a (ns.map V.int) -> sp [.ref a] H (fun v _ => v = .bl true) fun _ _ _ => False) (hCX : ∀ H e s', CX [] H s (fun _ _ _ => False) e s' -> False) :
    codeAny (model P w) callerA (.call (.ref fa) ⟨[.ref a], []⟩) (fun r s' => r = .ok (.ret (.bool true)) /\ OldK s.heap s'.heap /\ s'.os = s.os /\ AllBare s'.gens) s := by
  have rv := vals_ints hi
  have zl : (vs.toArray).size <= sizeLine := by rw [List.size_toArray, hi.length]; exact hl
  rcases hk : K.lookup a with _ | o
  . -- the script alone is tracked
    let H : Hp := fun b => if b = a then some (.frz { cls := .type "list", data := .seq vs.toArray } (.lst (ns.map V.int))) else none
    have Ha : H a = some (.frz { cls := .type "list", data := .seq vs.toArray } (.lst (ns.map V.int))) := if_pos rfl
    have Hb : ∀ b u, H b = some u -> b = a := fun b u z => Classical.byContradiction fun nb => by rw [show H b = none from if_neg nb] at z; cases z
    have hO : Only H := fun b => (Decidable.em (b = a)).elim (fun e => .inr ⟨_, _, if_pos e⟩) fun e => .inl (if_neg e)
    refine gc' KX n1 n2 n3 lim hg ha hr F hbind hO (hsp H hO (.inl (.inr ⟨_, Ha⟩))) (hCX H) (fun b u z => ?_) Hb fun _ => hk
    have eb := Hb b u z
    subst eb
    rw [Ha] at z
    cases z
    exact ⟨ha, by rw [List.length_map]; exact hl, vs, _, rv, ha⟩
  . -- it is one of the module's own
    have e := KX a o hk
    rw [ha] at e
    cases e
    let H : Hp := fun _ => none
    have hO : Only H := fun _ => .inl rfl
    refine gc' KX n1 n2 n3 lim hg ha hr F hbind hO (hsp H hO (.inr ⟨_, vs.toArray, _, hk, rfl, rfl, rfl, zl, rv⟩)) (hCX H) (fun b u z => nomatch z) (fun b u z => nomatch z) fun z => absurd rfl z
theorem mv' {l : PySem.W.OpenLaw} {n k : Nat} {q : Program} {loose : List Str} {XP : (Str -> Option Value) -> Heap -> Prop} {YP : World -> Heap -> Prop} {d : DefRec} {CX : CXT} {x : Str}
    (hn : l.most = some n) (hn2 : n <= sizeLine) (hdf : d.params.defaults = []) (hr : Room k callerA)
    (F : ∀ (w : World) (mg : Str -> Option Value) (fa : Addr) (h : Heap), YP w h -> h.Ns mainGlobals mg -> mg d.name = some (.ref fa) -> ∃ (K : PySem.W.Frag) (fd : FuncData) (sp : Sp), K.In h ∧
      (∀ (s : Shared) (u : Value), BindsTo s fd ⟨[u], []⟩ [(x, u)]) /\ (∀ (H : Hp) (a : Addr) (ns : List Int), ns.length <= n -> Only H -> SqL K H a (ns.map V.int) -> sp [.ref a] H (fun v _ => v = .bl true) fun _ _ _ => False) ∧
        ∀ base : Heap, K.In base -> base.Ns mainGlobals mg -> FnG l.prog w K mg base CX k fa fd [x] sp)
    (hCX : ∀ (H : Hp) (s : Shared) (e : Value) (s' : Shared), CX [] H s (fun _ _ _ => False) e s' -> False) : PySem.W.WalkO q loose XP YP l.row.toRowW d [] (fun f vs => PySem.call f vs) :=
  Att.attach_call hn hdf fun w s₀ s₁ mg mb fa o pm cd doc a vs ns G Y ho hd hcd hmg hobj hints hlen hg => by
    obtain ⟨K, fd, sp, KX, hb, hsp, hF⟩ := F w mg fa _ Y G.T.g hmg
    exact lN' KX G.T.g G.T.b G.T.builtins G.T.nolimit hg hobj hints (Nat.le_trans hlen hn2) hr hF hb (fun H hO hS => hsp H a ns hlen hO hS) fun H e s' => hCX H s₁ e s'
theorem FnG.to0 {P : Program} {w : World} {K : PySem.W.Frag} {mg : Str -> Option Value} {base : Heap} {k : Nat} {f : Addr} {fd : FuncData} {ps : List Str} {sp : Sp} (F : FnG P w K mg base (L2.CX P w) k f fd ps sp) :
    FnG P w K mg base CX0 k f fd ps (fun vs H Q _ => sp vs H Q E0) := by
  refine ⟨fun vs H Q _ h => F.len vs H Q E0 h, fun A o s H args us vs Q _ hr he hb hv hs => codeAny_mono (F.run A o s H args us vs Q E0 hr he hb hv hs) fun r s' q => ?_⟩
  rcases r with e | fl
  . obtain ⟨_, _, _, _, _, _, _, _, _, _, _, _, z⟩ := q
    exact z.elim
  . cases fl <;> exact q
end S
namespace S
open PySem PySem.Spec PyProof.Rows L2
def sx (s : M.Tx) : Str := ⟨s.toArray⟩
theorem cU' (s : M.Tx) : (sx s).cps.toList = s := rfl
theorem bF' (s : M.Tx) : (sx s).length = s.length := by show s.toArray.size = _; simp
theorem qZ' {a b : M.Tx} (h : sx a = sx b) : a = b := by have := congrArg (fun z : Str => z.cps.toList) h; exact this
theorem q3' (a b : M.Tx) : sx a ++ sx b = sx (a ++ b) := gW' (by rw [nE', cU', cU', cU'])
def okT (s : M.Tx) : Prop := (∀ c ∈ s, c < 1114112) /\ s.length <= M.d2'
def okK : Key -> Prop
  | .inl _ => True
  | .inr x => okT x.cps.toList
def mg' (kvs : List (Key × V)) : Prop := ∀ p ∈ kvs, okK p.1
theorem mg'.nil : mg' [] := fun _ h => nomatch h
theorem mg'.fst {kvs kvs' : List (Key × V)} (h : mg' kvs) (e : kvs'.map (·.1) = kvs.map (·.1)) : mg' kvs' := fun p hp => by
  have : p.1 ∈ kvs.map (·.1) := by rw [<- e]; exact List.mem_map_of_mem hp
  obtain ⟨q, h1, h2⟩ := List.mem_map.mp this
  rw [<- h2]; exact h q h1
def kD : Key -> M.D
  | .inl i => .int i
  | .inr x => .str x.cps.toList
mutual
def py : M.D -> PyData
  | .bl b => .bool b
  | .int i => .int i
  | .str s => .str (sx s)
  | .tup ds => .tuple (pys ds)
  | .lst ds => .list (pys ds)
  | .dct ks ds => .dict ((pys ks).zip (pys ds))
  | _ => .none
def pys : List M.D -> List PyData
  | [] => []
  | d :: r => py d :: pys r
end
class Wd where
  P : Program
  w : World
  ts : List (Addr × Str)
structure CloD where
  f : Addr
  c : Addr
  q : Str
  ob : Obj
  ws : List V
  caps : List M.D
class Hot where
  hot : Option (Addr × Nat × Option Addr × M.Exc)
  clo : List (Nat × CloD)
abbrev bH' (cs : List (Nat × CloD)) : Hot := ⟨none, cs⟩
instance coldI : Hot := ⟨none, []⟩
def FnO (f : Addr) (ob : Obj) : HO := .ext fun h => h.get? f = some ob
variable [Wd]
mutual
def nk : M.D -> NestedKey
  | .bl b => .num (if b = true then 1 else 0)
  | .int i => .num i
  | .str s => .text (sx s)
  | .tup ds => .tup (nks ds)
  | _ => .none
def nks : List M.D -> List NestedKey
  | [] => []
  | d :: r => nk d :: nks r
end
def lfD : M.D -> Leaf
  | .bl b => .num (if b = true then 1 else 0)
  | .int i => .num i
  | .str s => .text (sx s)
  | _ => .none
def dcL (p : Addr) (kvs : List (Leaf × V)) : HO := .ext fun h => (p == sysModules) = false /\ kvs.length <= sizeLine /\ ∃ vs, KV kvs vs /\ h.DictOf (leafKind Wd.P Wd.w) p vs
abbrev v2' : NestedKey × Addr × V -> NestedKey × Addr × Value -> Prop := fun x y => x.1 = y.1 /\ x.2.1 = y.2.1 /\ RelV x.2.2 y.2.2
def dcN (p : Addr) (xs : List (NestedKey × Addr × V)) : HO := .ext fun h => (p == sysModules) = false /\ xs.length <= sizeLine /\ (xs.map (·.1)).Nodup /\ ∃ ys, Paired v2' xs ys ∧
  ∃ o es ep, h.get? p = some o /\ o.ExactDict /\ o.data = .dict es ep /\ es.toList = ys.map (entryOfKey (nestedKind Wd.P Wd.w))
structure LeafKeys (ks : List M.D) (ls : List Leaf) : Prop where
  e : ls = ks.map lfD
  s : ∀ d ∈ ks, M.sca d = true
structure NestKeys (ks : List M.D) (xs : List (NestedKey × Addr × V)) : Prop where
  e : xs.map (·.1) = ks.map nk
  s : ∀ d ∈ ks, M.kat d = true /\ M.dep d <= 8 /\ M.sca d = false
section
variable (K : PySem.W.Frag)
mutual
/-- v stands for d: what it stands on lies in F and never changes; T: where the world's objects stand -/
inductive Fz (F : Hp) (T : List Addr) : V -> M.D -> Prop
  | non : Fz F T .non .non
  | bl (b : Bool) : Fz F T (.bl b) (.bl b)
  | int (i : Int) : Fz F T (.int i) (.int i)
  | str {s : M.Tx} : okT s -> Fz F T (.str (sx s)) (.str s)
  | tup {a : Addr} {vs : List V} {ds : List M.D} : SqT K F a vs -> FzA F T vs ds -> Fz F T (.ref a) (.tup ds)
  | lst {a : Addr} {vs : List V} {ds : List M.D} : F a = some (.lst vs) -> FzA F T vs ds -> Fz F T (.ref a) (.lst ds)
  | dct {a : Addr} {kvs : List (Key × V)} {ds : List M.D} : Rd F a (.dK kvs) -> mg' kvs -> FzA F T (kvs.map (·.2)) ds -> Fz F T (.ref a) (.dct (kvs.map fun p => kD p.1) ds)
  | dcl {a : Addr} {kvs : List (Leaf × V)} {ks ds : List M.D} : Rd F a (dcL a kvs) -> LeafKeys ks (kvs.map (·.1)) -> FzA F T (kvs.map (·.2)) ds -> Fz F T (.ref a) (.dcx ks ds)
  | dcn {a : Addr} {xs : List (NestedKey × Addr × V)} {ks ds : List M.D} : Rd F a (dcN a xs) -> NestKeys ks xs -> FzA F T (xs.map fun x => .ref x.2.1) ks -> FzA F T (xs.map (·.2.2)) ds -> Fz F T (.ref a) (.dcx ks ds)
  | rep (d : M.D) : Fz F T (.str (py d).shown) (.rep d)
  | obj {n : Nat} {a : Addr} : T[n]? = some a -> Fz F T (.ref a) (.obj n)
  | ty (n : String) : Fz F T (.ty n) (.ty n)
  | fn (x : String) : Fz F T (.ref (He.ga K x)) (.fn x)
  | scr {a : Addr} {vs : List V} {ds : List M.D} : SqL K F a vs -> FzA F T vs ds -> Fz F T (.ref a) (.scr ds)
inductive FzA (F : Hp) (T : List Addr) : List V -> List M.D -> Prop
  | nil : FzA F T [] []
  | cons {v : V} {vs : List V} {d : M.D} {ds : List M.D} : Fz F T v d -> FzA F T vs ds -> FzA F T (v :: vs) (d :: ds)
end
abbrev Fp := List (Addr × HO)
mutual
/-- v stands for o, alone; fp: what it stands on and may change -/
inductive Rp (F : Hp) (T : List Addr) : V -> M.O -> Fp -> Prop
  | fz {v : V} {d : M.D} : Fz K F T v d -> Rp F T v (.fz d) []
  | lst {p : Addr} {vs : List V} {os : List M.O} {fp : Fp} : RpA F T vs os fp -> Rp F T (.ref p) (.lst os) ((p, .lst vs) :: fp)
  | tup {p : Addr} {vs : List V} {os : List M.O} {fp : Fp} : RpA F T vs os fp -> Rp F T (.ref p) (.tup os) ((p, .tup vs) :: fp)
  | dct {p : Addr} {kvs : List (Key × V)} {os : List M.O} {fp : Fp} : mg' kvs -> RpA F T (kvs.map (·.2)) os fp -> Rp F T (.ref p) (.dct (kvs.map fun q => kD q.1) os) ((p, .dK kvs) :: fp)
  | dcl {p : Addr} {kvs : List (Leaf × V)} {ks : List M.D} {os : List M.O} {fp : Fp} : LeafKeys ks (kvs.map (·.1)) -> RpA F T (kvs.map (·.2)) os fp -> Rp F T (.ref p) (.dcx ks os) ((p, dcL p kvs) :: fp)
  | dcn {p : Addr} {xs : List (NestedKey × Addr × V)} {ks : List M.D} {os : List M.O} {fp : Fp} : NestKeys ks xs -> FzA K F T (xs.map fun x => .ref x.2.1) ks -> RpA F T (xs.map (·.2.2)) os fp -> Rp F T (.ref p) (.dcx ks os) ((p, dcN p xs) :: fp)
inductive RpA (F : Hp) (T : List Addr) : List V -> List M.O -> Fp -> Prop
  | nil : RpA F T [] [] []
  | cons {v : V} {vs : List V} {o : M.O} {os : List M.O} {fp fq : Fp} : Rp F T v o fp -> RpA F T vs os fq -> RpA F T (v :: vs) (o :: os) (fp ++ fq)
end
def XcR (F : Hp) (T : List Addr) (x : M.Exc) (cls : Value) (dd : Option Addr) : Prop :=
  cls = .ref (He.ga K x.cls) /\ ((x.fs = [] /\ dd = none) \/ ∃ (a : Addr) (f : String) (v : V) (d : M.D), x.fs = [(f, d)] /\ dd = some a /\ F a = some (.xd [(Str.ofString f, v)]) /\ Fz K F T v d)
structure CloAt (F : Hp) (T : List Addr) (c : CloD) : Prop where
  fn : Rd F c.f (FnO c.f c.ob)
  code : Rd F c.c (LamX.CodeO c.c c.q)
  caps : FzA K F T c.ws c.caps
variable [Hot]
inductive RpE (F : Hp) (T : List Addr) : St -> List (Option M.O) -> Fp -> Prop
  | nil : RpE F T [] [] []
  | off {x : Option V} {σ : St} {env : List (Option M.O)} {fp : Fp} : RpE F T σ env fp -> RpE F T (x :: σ) (none :: env) fp
  | on {v : V} {o : M.O} {σ : St} {env : List (Option M.O)} {fp fq : Fp} : Rp K F T v o fp -> RpE F T σ env fq -> RpE F T (some v :: σ) (some o :: env) (fp ++ fq)
  | hot {a : Addr} {dd : Option Addr} {x : M.Exc} {σ : St} {env : List (Option M.O)} {fp : Fp} : Hot.hot = some (a, env.length, dd, x) -> XcR K F T x (.ref (He.ga K x.cls)) dd -> RpE F T σ env fp -> RpE F T (some (.ref a) :: σ) (some .exn :: env) fp
  | clo {c : CloD} {σ : St} {env : List (Option M.O)} {fp : Fp} : Hot.clo.lookup env.length = some c -> CloAt K F T c -> RpE F T σ env fp -> RpE F T (some (.ref c.f) :: σ) (some .clo :: env) fp
inductive RpOb (F : Hp) (T : List Addr) : Addr -> M.Ob -> Fp -> Prop
  | lst {a : Addr} {vs : List V} {os : List M.O} {fp : Fp} : RpA K F T vs os fp -> RpOb F T a (.lst os) ((a, .lst vs) :: fp)
  | dct {a : Addr} {kvs : List (Key × V)} {os : List M.O} {fp : Fp} : mg' kvs -> RpA K F T (kvs.map (·.2)) os fp -> RpOb F T a (.dct (kvs.map fun q => kD q.1) os) ((a, .dK kvs) :: fp)
  | dcl {a : Addr} {kvs : List (Leaf × V)} {ks : List M.D} {os : List M.O} {fp : Fp} : LeafKeys ks (kvs.map (·.1)) -> RpA K F T (kvs.map (·.2)) os fp -> RpOb F T a (.dcx ks os) ((a, dcL a kvs) :: fp)
  | dcn {a : Addr} {xs : List (NestedKey × Addr × V)} {ks : List M.D} {os : List M.O} {fp : Fp} : NestKeys ks xs -> FzA K F T (xs.map fun x => .ref x.2.1) ks -> RpA K F T (xs.map (·.2.2)) os fp -> RpOb F T a (.dcx ks os) ((a, dcN a xs) :: fp)
  | ins {a dx : Addr} {C : String} {fs : List (String × V)} {os : List M.O} {fp : Fp} : F dx = some (.own a) -> RpA K F T (fs.map (·.2)) os fp →
      RpOb F T a (.ins C ((fs.map (·.1)).zip os)) ((a, .ins (He.ga K C) dx (fs.map fun q => (Str.ofString q.1, q.2))) :: fp)
inductive RpW (F : Hp) (T : List Addr) : List Addr -> M.W -> Fp -> Prop
  | nil : RpW F T [] [] []
  | cons {a : Addr} {l : List Addr} {ob : M.Ob} {w : M.W} {fp fq : Fp} : RpOb K F T a ob fp -> RpW F T l w fq -> RpW F T (a :: l) (ob :: w) (fp ++ fq)
structure Kept (F H : Hp) (fp : Fp) (F' H' : Hp) (fp' : Fp) : Prop where
  un : ∀ a, F a = none -> H a ≠ none -> (∀ e ∈ fp, e.1 ≠ a) -> F' a = none /\ H' a = H a /\ ∀ e ∈ fp', e.1 ≠ a
  cd : ∀ c q, Rd F c (LamX.CodeO c q) -> Rd F' c (LamX.CodeO c q)
structure TbAt (F H : Hp) (fp : Fp) (P : Addr) (q : Str) : Prop where
  f : F P = none
  n : ∀ e ∈ fp, e.1 ≠ P
  t : ∃ ps : Array Value, H P = some (.tbl ps) /\ TriplesOk ps.toList /\ ∀ (pos : Pos) (cv : Value), codeAmong pos ps.toList = some cv -> ∃ c, cv = .ref c /\ Rd F c (LamX.CodeO c q)
theorem TbAt.kept {F H F' H' : Hp} {fp fp' : Fp} {P : Addr} {q : Str} (h : TbAt F H fp P q) (k : Kept F H fp F' H' fp') : TbAt F' H' fp' P q := by
  obtain ⟨ps, h1, h2, h3⟩ := h.t
  obtain ⟨k1, k2, k3⟩ := k.un P h.f (by rw [h1]; simp) h.n
  refine ⟨k1, k3, ps, by rw [k2]; exact h1, h2, fun pos cv hc => ?_⟩
  obtain ⟨c, e1, e2⟩ := h3 pos cv hc
  exact ⟨c, e1, k.cd c q e2⟩
structure FpH (F H : Hp) (fp : Fp) : Prop where
  low : Same F H
  at_ : ∀ e ∈ fp, H e.1 = some e.2 /\ F e.1 = none
  nd : (fp.map (·.1)).Nodup
  tb : ∀ p ∈ Wd.ts, TbAt F H fp p.1 p.2
theorem FpH.tbs {F H F' H' : Hp} {fp fp' : Fp} (f : FpH F H fp) (un : ∀ a, F a = none -> H a ≠ none -> (∀ e ∈ fp, e.1 ≠ a) -> F' a = none /\ H' a = H a /\ ∀ e ∈ fp', e.1 ≠ a)
    (cd : ∀ c q, Rd F c (LamX.CodeO c q) -> Rd F' c (LamX.CodeO c q) := by exact fun _ _ h => h) : ∀ p ∈ Wd.ts, TbAt F' H' fp' p.1 p.2 := fun p hp => (f.tb p hp).kept ⟨un, cd⟩
theorem lk' {F F' : Hp} (s : Same F F') {c : Addr} {o : HO} (h : Rd F c o) : Rd F' c o := by
  rcases h with h | ⟨od, h⟩
  . exact .inl (s _ _ h)
  . exact .inr ⟨od, s _ _ h⟩
def Rel (ρ : M.PSt) (σ : St) (H F : Hp) (T : List Addr) (fr : Fp) : Prop := ∃ fe fw, RpE K F T σ ρ.env fe /\ RpW K F T T ρ.w fw /\ FpH F H (fe ++ (fw ++ fr))
abbrev nG' (w : M.W) (H F : Hp) (T : List Addr) (fr : Fp) : Prop := @Rel _ K coldI ⟨[], w⟩ [] H F T fr
theorem t4' {K : PySem.W.Frag} {F : Hp} {T : List Addr} : @RpE _ K coldI F T [] [] [] := @RpE.nil _ K coldI F T
def Lkb (o : HO) : Prop := (∃ kvs, o = .dK kvs) \/ ∃ φ, o = .ext φ
def Wk (F F' : Hp) : Prop := ∀ a o, F a = some o -> F' a = some o \/ Lkb o /\ ∃ od, F' a = some (.frz od o)
theorem Wk.of {F F' : Hp} (s : Same F F') : Wk F F' := fun a o h => .inl (s a o h)
theorem Wk.trans {F F' F2 : Hp} (s : Wk F F') (r : Wk F' F2) : Wk F F2 := fun a o h => by
  rcases s a o h with h1 | ⟨hl, od, h1⟩
  . exact r a o h1
  . rcases r a _ h1 with h2 | ⟨⟨_, e⟩ | ⟨_, e⟩, _⟩
    . exact .inr ⟨hl, od, h2⟩
    . cases e
    . cases e
theorem Wk.at_ {F F' : Hp} (s : Wk F F') {a : Addr} {o : HO} (h : F a = some o) (n : ∀ kvs, o ≠ .dK kvs) (n2 : ∀ φ, o ≠ .ext φ := by intro _ e; cases e) : F' a = some o := by
  rcases s a o h with h | ⟨⟨kvs, rfl⟩ | ⟨φ, rfl⟩, od, _⟩
  . exact h
  . exact absurd rfl (n kvs)
  . exact absurd rfl (n2 φ)
theorem Wk.rd {F F' : Hp} (s : Wk F F') {a : Addr} {u : HO} (hl : Lkb u) (h : Rd F a u) : Rd F' a u := by
  rcases h with h | ⟨o, h⟩
  . rcases s _ _ h with h | ⟨_, od, h⟩
    . exact .inl h
    . exact .inr ⟨od, h⟩
  . exact .inr ⟨o, s.at_ h fun _ e => nomatch e⟩
theorem Wk.lst {F F' : Hp} (s : Wk F F') {a : Addr} {vs : List V} (h : F a = some (.lst vs)) : F' a = some (.lst vs) := s.at_ h fun _ e => nomatch e
theorem Wk.dict {F F' : Hp} (s : Wk F F') {a : Addr} {kvs : List (Key × V)} (h : Rd F a (.dK kvs)) : Rd F' a (.dK kvs) := by
  exact s.rd (.inl ⟨_, rfl⟩) h
theorem Wk.seqT {K : PySem.W.Frag} {F F' : Hp} (s : Wk F F') {a : Addr} {xs : List V} (h : SqT K F a xs) : SqT K F' a xs := by
  rcases h with (h | ⟨o, h⟩) | h
  . exact .inl (.inl (s.at_ h fun _ e => nomatch e))
  . exact .inl (.inr ⟨o, s.at_ h fun _ e => nomatch e⟩)
  . exact .inr h
theorem Wk.seqL {K : PySem.W.Frag} {F F' : Hp} (s : Wk F F') {a : Addr} {xs : List V} (h : SqL K F a xs) : SqL K F' a xs := by
  rcases h with (h | ⟨o, h⟩) | h
  . exact .inl (.inl (s.at_ h fun _ e => nomatch e))
  . exact .inl (.inr ⟨o, s.at_ h fun _ e => nomatch e⟩)
  . exact .inr h
structure Ext (F : Hp) (T : List Addr) (F' : Hp) (T' : List Addr) : Prop where
  f : Wk F F'
  t : T <+: T'
end
variable [Hot]
section
variable {K : PySem.W.Frag} {F F' F2 H H' : Hp} {T T' T2 : List Addr}
theorem Ext.refl : Ext F T F T := ⟨fun _ _ h => .inl h, List.prefix_refl _⟩
theorem Ext.trans (a : Ext F T F' T') (b : Ext F' T' F2 T2) : Ext F T F2 T2 := ⟨a.f.trans b.f, a.t.trans b.t⟩
theorem Ext.of (h : Same F F') : Ext F T F' T := ⟨.of h, List.prefix_refl _⟩
theorem Ext.get (e : Ext F T F' T') {n : Nat} {a : Addr} (h : T[n]? = some a) : T'[n]? = some a := by
  obtain ⟨r, rfl⟩ := e.t
  rw [List.getElem?_append_left (List.getElem?_eq_some_iff.mp h).1]
  exact h
mutual
theorem Fz.mono (e : Ext F T F' T') : ∀ {v : V} {d : M.D}, Fz K F T v d -> Fz K F' T' v d
  | _, _, .non => .non
  | _, _, .bl b => .bl b
  | _, _, .int i => .int i
  | _, _, .str h => .str h
  | _, _, .tup h r => .tup (e.f.seqT h) (FzA.mono e r)
  | _, _, .lst h r => .lst (e.f.lst h) (FzA.mono e r)
  | _, _, .dct h k r => .dct (e.f.dict h) k (FzA.mono e r)
  | _, _, .dcl h k r => .dcl (e.f.rd (.inr ⟨_, rfl⟩) h) k (FzA.mono e r)
  | _, _, .dcn h k q r => .dcn (e.f.rd (.inr ⟨_, rfl⟩) h) k (FzA.mono e q) (FzA.mono e r)
  | _, _, .rep d => .rep d
  | _, _, .obj h => .obj (e.get h)
  | _, _, .ty n => .ty n
  | _, _, .fn x => .fn x
  | _, _, .scr h r => .scr (e.f.seqL h) (FzA.mono e r)
theorem FzA.mono (e : Ext F T F' T') : ∀ {vs : List V} {ds : List M.D}, FzA K F T vs ds -> FzA K F' T' vs ds
  | _, _, .nil => .nil
  | _, _, .cons h r => .cons (Fz.mono e h) (FzA.mono e r)
end
mutual
theorem Rp.mono (e : Ext F T F' T') : ∀ {v : V} {o : M.O} {fp : Fp}, Rp K F T v o fp -> Rp K F' T' v o fp
  | _, _, _, .fz h => .fz (h.mono e)
  | _, _, _, .lst r => .lst (RpA.mono e r)
  | _, _, _, .tup r => .tup (RpA.mono e r)
  | _, _, _, .dct k r => .dct k (RpA.mono e r)
  | _, _, _, .dcl k r => .dcl k (RpA.mono e r)
  | _, _, _, .dcn k q r => .dcn k (q.mono e) (RpA.mono e r)
theorem RpA.mono (e : Ext F T F' T') : ∀ {vs : List V} {os : List M.O} {fp : Fp}, RpA K F T vs os fp -> RpA K F' T' vs os fp
  | _, _, _, .nil => .nil
  | _, _, _, .cons h r => .cons (Rp.mono e h) (RpA.mono e r)
end
theorem XcR.mono' (e : Ext F T F' T') {x : M.Exc} {cls : Value} {dd : Option Addr} (h : XcR K F T x cls dd) : XcR K F' T' x cls dd := by
  obtain ⟨h1, h2 | ⟨a, f, v, d, h3, h4, h5, h6⟩⟩ := h
  . exact ⟨h1, .inl h2⟩
  . exact ⟨h1, .inr ⟨a, f, v, d, h3, h4, e.f.at_ h5 (fun _ z => nomatch z), h6.mono e⟩⟩
theorem CloAt.mono (e : Ext F T F' T') {c : CloD} (h : CloAt K F T c) : CloAt K F' T' c := ⟨e.f.rd (.inr ⟨_, rfl⟩) h.fn, e.f.rd (.inr ⟨_, rfl⟩) h.code, h.caps.mono e⟩
theorem RpE.mono (e : Ext F T F' T') {σ : St} {env : List (Option M.O)} {fp : Fp} (h : RpE K F T σ env fp) : RpE K F' T' σ env fp := by
  induction h with
  | nil => exact .nil
  | off _ ih => exact .off ih
  | on r _ ih => exact .on (r.mono e) ih
  | hot h z _ ih => exact .hot h (z.mono' e) ih
  | clo h z _ ih => exact .clo h (z.mono e) ih
theorem RpOb.mono (e : Ext F T F' T') {a : Addr} {ob : M.Ob} {fp : Fp} (h : RpOb K F T a ob fp) : RpOb K F' T' a ob fp := by
  cases h with
  | lst r => exact .lst (r.mono e)
  | dct k r => exact .dct k (r.mono e)
  | dcl k r => exact .dcl k (r.mono e)
  | dcn k q r => exact .dcn k (q.mono e) (r.mono e)
  | ins d r => exact .ins (e.f.at_ d fun _ z => nomatch z) (r.mono e)
theorem RpW.mono (e : Ext F T F' T') {l : List Addr} {w : M.W} {fp : Fp} (h : RpW K F T l w fp) : RpW K F' T' l w fp := by
  induction h with
  | nil => exact .nil
  | cons r _ ih => exact .cons (r.mono e) ih
theorem FpH.new {p : Addr} {o : HO} {fp : Fp} (f : FpH F H fp) (hp : H p = none) : FpH (upd F p o) (upd H p o) fp := by
  have np : ∀ e ∈ fp, e.1 ≠ p := fun e he => ne_of_none (f.at_ e he).1 hp
  refine ⟨fun a u h => ?_, fun e he => ?_, f.nd, f.tbs (fun a h1 h2 h3 => ?_) fun c q h => lk' (fun b u e => by rw [upd_ne (fun z => by rw [z] at e; rw [f.low _ _ e] at hp; cases hp)]; exact e) h⟩
  . by_cases ha : a = p
    . subst ha; rw [upd_same] at h ⊢; exact h
    . rw [upd_ne ha] at h ⊢; exact f.low _ _ h
  . rw [upd_ne (np e he), upd_ne (np e he)]; exact f.at_ e he
  . have ha : a ≠ p := fun z => h2 (by rw [z]; exact hp)
    exact ⟨by rw [upd_ne ha]; exact h1, upd_ne ha, h3⟩
theorem FpH.free {fp : Fp} (f : FpH F H fp) {p : Addr} (hp : H p = none) : F p = none := by
  cases h : F p with
  | none => rfl
  | some o => rw [f.low _ _ h] at hp; cases hp
theorem cf' {p : Addr} {o : HO} (h : F p = none) : Same F (upd F p o) := fun b u e => by rw [upd_ne (ne_of_none e h)]; exact e
end
section
variable {K : PySem.W.Frag} {W : WX} {α β : Type}
abbrev Wx := M.Exc -> M.PSt -> Prop
def a0' (r : M.Res α) (P : α -> M.PSt -> Prop) (X : Wx) : Prop := match r with
  | .ok a ρ => P a ρ
  | .exc x ρ => X x ρ
  | .bad => False
theorem a0'.bind {r : M.Res α} {f : α -> M.PSt -> M.Res β} {P : β -> M.PSt -> Prop} {X : Wx} (h : a0' (r.bind f) P X) : a0' r (fun a ρ => a0' (f a ρ) P X) X := by
  cases r with
  | ok a ρ => exact h
  | exc x ρ => exact h
  | bad => exact h
theorem a0'.ofO {o : Option α} {ρ : M.PSt} {P : α -> M.PSt -> Prop} {X : Wx} (h : a0' (M.ofO o ρ) P X) : ∃ a, o = some a /\ P a ρ := by
  cases o with
  | none => exact h.elim
  | some a => exact ⟨a, rfl, h⟩
theorem a0'.mono {r : M.Res α} {P P' : α -> M.PSt -> Prop} {X X' : Wx} (h : a0' r P X) (hp : ∀ a ρ, P a ρ -> P' a ρ) (hx : ∀ x ρ, X x ρ -> X' x ρ) : a0' r P' X' := by
  cases r with
  | ok a ρ => exact hp _ _ h
  | exc x ρ => exact hx _ _ h
  | bad => exact h
def EX (K : PySem.W.Frag) (W : WX) (σ : St) (F : Hp) (T : List Addr) (fr : Fp) : Wx := fun x ρ => ∀ cls dd H' F' T', Ext F T F' T' -> XcR K F' T' x cls dd -> Rel K ρ σ H' F' T' fr -> W cls dd σ H'
theorem EX.mono {σ : St} {F F' : Hp} {T T' : List Addr} {fr : Fp} {x : M.Exc} {ρ : M.PSt} (h : EX K W σ F T fr x ρ) (e : Ext F T F' T') : EX K W σ F' T' fr x ρ := fun cls dd H' F2 T2 e2 => h cls dd H' F2 T2 (e.trans e2)
def qE (K : PySem.W.Frag) (W : WX) (m : M.ME) : TE := fun σ H Q => ∃ ρ F T fr, Rel K ρ σ H F T fr ∧
  a0' (m ρ) (fun d ρ' => ∀ v H' F' T', Ext F T F' T' -> Fz K F' T' v d -> Rel K ρ' σ H' F' T' fr -> Q v H') (EX K W σ F T fr)
def qO (K : PySem.W.Frag) (W : WX) (m : M.MO) : TE := fun σ H Q => ∃ ρ F T fr, Rel K ρ σ H F T fr ∧
  a0' (m ρ) (fun o ρ' => ∀ v H' F' T' fp, Ext F T F' T' -> Rp K F' T' v o fp -> Rel K ρ' σ H' F' T' (fp ++ fr) -> Q v H') (EX K W σ F T fr)
def qA (K : PySem.W.Frag) (W : WX) (m : M.MA) : TA := fun σ H Q => ∃ ρ F T fr, Rel K ρ σ H F T fr ∧
  a0' (m ρ) (fun ds ρ' => ∀ vs H' F' T', Ext F T F' T' -> FzA K F' T' vs ds -> Rel K ρ' σ H' F' T' fr -> Q vs H') (EX K W σ F T fr)
def qT (K : PySem.W.Frag) (W : WX) (m : M.MT) : TT := fun σ H Q => ∃ ρ F T fr, Rel K ρ σ H F T fr ∧
  a0' (m ρ) (fun b ρ' => ∀ H' F' T', Ext F T F' T' -> Rel K ρ' σ H' F' T' fr -> Q b H') (EX K W σ F T fr)
def qP (K : PySem.W.Frag) (W : WX) (m : M.MP) : TO := fun σ H Q => ∃ ρ F T fr, Rel K ρ σ H F T fr ∧
  a0' (m ρ) (fun b ρ' => ∀ H' F' T', Ext F T F' T' -> Rel K ρ' σ H' F' T' fr -> Q b H') (EX K W σ F T fr)
def a6' (K : PySem.W.Frag) (W : WX) (D : Ends) (F : Hp) (T : List Addr) (fr : Fp) : M.Out -> Prop
  | .nx ρ => ∀ σ' H' F' T', Ext F T F' T' -> Rel K ρ σ' H' F' T' fr -> D.nx σ' H'
  | .bk ρ => ∀ σ' H' F' T', Ext F T F' T' -> Rel K ρ σ' H' F' T' fr -> D.bk σ' H'
  | .ct ρ => ∀ σ' H' F' T', Ext F T F' T' -> Rel K ρ σ' H' F' T' fr -> D.ct σ' H'
  | .rt o w => ∀ v H' F' T' fp, Ext F T F' T' -> Rp K F' T' v o fp -> nG' K (w) H' F' T' (fp ++ fr) -> D.rt v H'
  | .exc x ρ => ∀ σ' cls dd H' F' T', Ext F T F' T' -> XcR K F' T' x cls dd -> Rel K ρ σ' H' F' T' fr -> W cls dd σ' H'
  | .bad => False
def qS (K : PySem.W.Frag) (W : WX) (m : M.MS) : TS := fun D σ H => ∃ ρ F T fr, Rel K ρ σ H F T fr /\ a6' K W D F T fr (m ρ)
abbrev SE (X : Cx) (W : WX) (e : Expr) (m : M.ME) : Prop := PE X e (qE X.K W m)
abbrev SO (X : Cx) (W : WX) (e : Expr) (m : M.MO) : Prop := PE X e (qO X.K W m)
abbrev SA (X : Cx) (W : WX) (es : List Expr) (m : M.MA) : Prop := PA X es (qA X.K W m)
abbrev ST (X : Cx) (W : WX) (e : Expr) (m : M.MT) : Prop := PT X e (qT X.K W m)
abbrev SS (X : Cx) (W : WX) (s : Stmt) (m : M.MS) : Prop := PS X s (qS X.K W m)
abbrev SSs (X : Cx) (W : WX) (s : List Stmt) (m : M.MS) : Prop := PSs X s (qS X.K W m)
theorem PE.imp {X : Cx} {e : Expr} {t t' : TE} (h : PE X e t) (i : ∀ σ H Q, t' σ H Q -> t σ H Q) : PE X e t' := ⟨fun pins s σ H Q I q => h.run pins s σ H Q I (i σ H Q q)⟩
theorem PT.imp {X : Cx} {e : Expr} {t t' : TT} (h : PT X e t) (i : ∀ σ H Q, t' σ H Q -> t σ H Q) : PT X e t' := ⟨fun pins s σ H Q I q => h.run pins s σ H Q I (i σ H Q q)⟩
theorem PW.imp {X : Cx} {e : Expr} {t t' : TT} (h : PW X e t) (i : ∀ σ H Q, t' σ H Q -> t σ H Q) : PW X e t' := ⟨fun wh pins s σ H Q I q => h.run wh pins s σ H Q I (i σ H Q q)⟩
theorem PA.imp {X : Cx} {e : List Expr} {t t' : TA} (h : PA X e t) (i : ∀ σ H Q, t' σ H Q -> t σ H Q) : PA X e t' := ⟨fun pos pins s σ H Q I q => h.run pos pins s σ H Q I (i σ H Q q)⟩
theorem PS.imp {X : Cx} {e : Stmt} {t t' : TS} (h : PS X e t) (i : ∀ D σ H, t' D σ H -> t D σ H) : PS X e t' := ⟨fun pins s σ H Q I q => h.run pins s σ H Q I (i Q σ H q)⟩
theorem PSs.imp {X : Cx} {e : List Stmt} {t t' : TS} (h : PSs X e t) (i : ∀ D σ H, t' D σ H -> t D σ H) : PSs X e t' := ⟨fun pins s σ H Q I q => h.run pins s σ H Q I (i Q σ H q)⟩
theorem PO.imp {X : Cx} {e : Option Expr} {t t' : TO} (h : PO X e t) (i : ∀ σ H Q, t' σ H Q -> t σ H Q) : PO X e t' := ⟨fun pins s σ H Q I q => h.run pins s σ H Q I (i σ H Q q)⟩
variable {σ : St} {H F : Hp} {T : List Addr} {fr : Fp} {ρ : M.PSt} {P : β -> M.PSt -> Prop} {X : Wx}
theorem aS' {m : M.ME} {k : M.D -> M.PSt -> M.Res β} {Q : VK} (rel : Rel K ρ σ H F T fr) (h : a0' ((m ρ).bind k) P (EX K W σ F T fr))
    (q : ∀ d ρ1 v H1 F1 T1, Ext F T F1 T1 -> Fz K F1 T1 v d -> Rel K ρ1 σ H1 F1 T1 fr -> a0' (k d ρ1) P (EX K W σ F1 T1 fr) -> Q v H1) : qE K W m σ H Q :=
  ⟨ρ, F, T, fr, rel, (a0'.bind h).mono (fun d ρ1 h1 v H1 F1 T1 e z r => q d ρ1 v H1 F1 T1 e z r (h1.mono (fun _ _ z => z) fun _ _ z => z.mono e)) fun _ _ z => z⟩
theorem cp' {m : M.MA} {k : List M.D -> M.PSt -> M.Res β} {Q : List V -> Hp -> Prop} (rel : Rel K ρ σ H F T fr) (h : a0' ((m ρ).bind k) P (EX K W σ F T fr))
    (q : ∀ ds ρ1 vs H1 F1 T1, Ext F T F1 T1 -> FzA K F1 T1 vs ds -> Rel K ρ1 σ H1 F1 T1 fr -> a0' (k ds ρ1) P (EX K W σ F1 T1 fr) -> Q vs H1) : qA K W m σ H Q :=
  ⟨ρ, F, T, fr, rel, (a0'.bind h).mono (fun d ρ1 h1 v H1 F1 T1 e z r => q d ρ1 v H1 F1 T1 e z r (h1.mono (fun _ _ z => z) fun _ _ z => z.mono e)) fun _ _ z => z⟩
theorem g1' {m : M.MT} {k : Bool -> M.PSt -> M.Res β} {Q : Bool -> Hp -> Prop} (rel : Rel K ρ σ H F T fr) (h : a0' ((m ρ).bind k) P (EX K W σ F T fr))
    (q : ∀ b ρ1 H1 F1 T1, Ext F T F1 T1 -> Rel K ρ1 σ H1 F1 T1 fr -> a0' (k b ρ1) P (EX K W σ F1 T1 fr) -> Q b H1) : qT K W m σ H Q :=
  ⟨ρ, F, T, fr, rel, (a0'.bind h).mono (fun d ρ1 h1 H1 F1 T1 e r => q d ρ1 H1 F1 T1 e r (h1.mono (fun _ _ z => z) fun _ _ z => z.mono e)) fun _ _ z => z⟩
theorem ls' {m : M.MP} {k : Option Int -> M.PSt -> M.Res β} {Q : Option Int -> Hp -> Prop} (rel : Rel K ρ σ H F T fr) (h : a0' ((m ρ).bind k) P (EX K W σ F T fr))
    (q : ∀ b ρ1 H1 F1 T1, Ext F T F1 T1 -> Rel K ρ1 σ H1 F1 T1 fr -> a0' (k b ρ1) P (EX K W σ F1 T1 fr) -> Q b H1) : qP K W m σ H Q :=
  ⟨ρ, F, T, fr, rel, (a0'.bind h).mono (fun d ρ1 h1 H1 F1 T1 e r => q d ρ1 H1 F1 T1 e r (h1.mono (fun _ _ z => z) fun _ _ z => z.mono e)) fun _ _ z => z⟩
end
end S
namespace S
open PySem PySem.Spec PyProof.Rows L2
variable [Wd] [Hot]
section
variable {K : PySem.W.Frag} {F H : Hp} {T : List Addr} {v : V} {d : M.D} {vs ws : List V} {ds es : List M.D}
theorem Fz.int_inv {i : Int} (h : Fz K F T v (.int i)) : v = .int i := by cases h; rfl
theorem Fz.bl_inv {i : Bool} (h : Fz K F T v (.bl i)) : v = .bl i := by cases h; rfl
theorem Fz.str_inv {s : M.Tx} (h : Fz K F T v (.str s)) : v = .str (sx s) /\ okT s := by cases h with | str h => exact ⟨rfl, h⟩
theorem Fz.tup_inv (h : Fz K F T v (.tup ds)) : ∃ a vs, v = .ref a /\ SqT K F a vs /\ FzA K F T vs ds := by cases h with | tup h r => exact ⟨_, _, rfl, h, r⟩
theorem Fz.lst_inv (h : Fz K F T v (.lst ds)) : ∃ a vs, v = .ref a /\ F a = some (.lst vs) /\ FzA K F T vs ds := by cases h with | lst h r => exact ⟨_, _, rfl, h, r⟩
theorem FzA.length : ∀ {vs : List V} {ds : List M.D}, FzA K F T vs ds -> vs.length = ds.length
  | _, _, .nil => rfl
  | _, _, .cons _ r => congrArg (· + 1) (FzA.length r)
theorem FzA.append : ∀ {vs ws : List V} {ds es : List M.D}, FzA K F T vs ds -> FzA K F T ws es -> FzA K F T (vs ++ ws) (ds ++ es)
  | _, _, _, _, .nil, h => h
  | _, _, _, _, .cons a r, h => .cons a (FzA.append r h)
theorem FzA.take : ∀ {vs : List V} {ds : List M.D} (n : Nat), FzA K F T vs ds -> FzA K F T (vs.take n) (ds.take n)
  | _, _, 0, _ => .nil
  | _, _, n + 1, .nil => .nil
  | _, _, n + 1, .cons a r => .cons a (FzA.take n r)
theorem FzA.drop : ∀ {vs : List V} {ds : List M.D} (n : Nat), FzA K F T vs ds -> FzA K F T (vs.drop n) (ds.drop n)
  | _, _, 0, h => h
  | _, _, n + 1, .nil => .nil
  | _, _, n + 1, .cons a r => FzA.drop n r
theorem FzA.get : ∀ {vs : List V} {ds : List M.D} {i : Nat} {d : M.D}, FzA K F T vs ds -> ds[i]? = some d -> ∃ v, vs[i]? = some v /\ Fz K F T v d
  | _, _, _, _, .nil, e => by cases e
  | _, _, 0, _, .cons h _, e => ⟨_, rfl, by rw [<- Option.some.inj e]; exact h⟩
  | _, _, i + 1, _, .cons _ r, e => FzA.get (i := i) r e
theorem FzA.rep {vs : List V} {ds : List M.D} (h : FzA K F T vs ds) : ∀ n, FzA K F T (List.replicate n vs).flatten (List.replicate n ds).flatten
  | 0 => .nil
  | n + 1 => FzA.append h (FzA.rep h n)
theorem FzA.cutV {lo hi : Option Int} (h : FzA K F T vs ds) : FzA K F T (cutV vs lo hi) (M.cut ds lo hi) := by
  unfold L2.cutV M.cut
  rw [h.length]
  exact FzA.take _ (FzA.drop _ h)
theorem jD' {c : Nat} (h : c < 1114112) : Fz K F T (.str ⟨#[c]⟩) (M.chD c) := Fz.str (s := [c]) ⟨fun x hx => by rw [List.mem_singleton.mp hx]; exact h, by show 1 <= 16777216; decide⟩
theorem FzA.chars : ∀ {s : M.Tx}, (∀ c ∈ s, c < 1114112) -> FzA K F T (s.map chv) (s.map M.chD)
  | [], _ => .nil
  | c :: s, h => .cons (jD' (h c (by simp))) (FzA.chars fun x hx => h x (by simp [hx]))
theorem SqT.low (s : Same F H) {a : Addr} (h : SqT K F a vs) : SqT K H a vs := seqT s h
theorem okT.app {a b : M.Tx} (h1 : okT a) (h2 : okT b) (h : a.length + b.length <= M.d2') : okT (a ++ b) :=
  ⟨fun c hc => (List.mem_append.mp hc).elim (h1.1 c) (h2.1 c), by rw [List.length_append]; exact h⟩
theorem okT.sub {a b : M.Tx} (h1 : okT a) (h : ∀ c ∈ b, c ∈ a) (hl : b.length <= a.length) : okT b := ⟨fun c hc => h1.1 c (h c hc), Nat.le_trans hl h1.2⟩
theorem okT.len {s : M.Tx} (h : okT s) : (sx s).length <= sizeLine := by rw [bF', sizeLine_eq]; exact h.2
theorem bt' : sizeLine = M.d2' := sizeLine_eq
theorem Rel.fp {ρ : M.PSt} {σ : St} {fr : Fp} (r : Rel K ρ σ H F T fr) : ∃ fp, FpH F H fp /\ ∀ H' F', Same F F' -> FpH F' H' fp -> Rel K ρ σ H' F' T fr := by
  obtain ⟨fe, fw, re, rw, f⟩ := r
  exact ⟨_, f, fun H' F' s f' => ⟨fe, fw, re.mono (.of s), rw.mono (.of s), f'⟩⟩
abbrev d0' (K : PySem.W.Frag) (F : Hp) (T : List Addr) (fp : Fp) (dz : M.D) (Q : VK) : Prop := ∀ v H' F', Same F F' -> Fz K F' T v dz -> FpH F' H' fp -> Q v H'
theorem d0'.here {fp : Fp} {dz : M.D} {Q : VK} (k : d0' K F T fp dz Q) (f : FpH F H fp) (z : Fz K F T v dz) : Q v H := k v H F (fun _ _ e => e) z f
theorem d0'.newT {fp : Fp} {Q : VK} (k : d0' K F T fp (.tup ds) Q) (f : FpH F H fp) (z : FzA K F T vs ds) {p : Addr} (hp : H p = none) : Q (.ref p) (upd H p (.tup vs)) := by
  have s : Same F (upd F p (.tup vs)) := cf' (f.free hp)
  exact k _ _ _ s (.tup (SqT.of upd_same) (z.mono (.of s))) (f.new hp)
theorem d0'.newL {fp : Fp} {Q : VK} (k : d0' K F T fp (.lst ds) Q) (f : FpH F H fp) (z : FzA K F T vs ds) {p : Addr} (hp : H p = none) : Q (.ref p) (upd H p (.lst vs)) := by
  have s : Same F (upd F p (.lst vs)) := cf' (f.free hp)
  exact k _ _ _ s (.lst upd_same (z.mono (.of s))) (f.new hp)
end
section
variable (K : PySem.W.Frag)
def Op2 (f : M.D -> M.D -> Option M.D) (r : R2) : Prop := ∀ {F H : Hp} {T : List Addr} {fp : Fp} {x y : V} {dx dy dz : M.D} {Q : VK}, FpH F H fp -> Fz K F T x dx -> Fz K F T y dy -> f dx dy = some dz -> d0' K F T fp dz Q -> r x y H Q
end
section
variable {K : PySem.W.Frag}
mutual
theorem Fz.py {F H : Hp} {T : List Addr} (s : Same F H) : ∀ {v : V} {d : M.D}, Fz K F T v d -> M.dat d = true -> Dp K H v (py d)
  | _, _, .non, _ => .non
  | _, _, .bl b, _ => .bl b
  | _, _, .int i, _ => .int i
  | _, _, .str h, _ => .str _
  | _, _, .tup h r, e => .tup (seqT s h) (FzA.py s r e)
  | _, _, .lst h r, e => .lst (SqL.of (s _ _ h)) (FzA.py s r e)
  | _, _, .dct h _ r, e => by cases e
  | _, _, .dcl _ _ _, e => by cases e
  | _, _, .dcn _ _ _ _, e => by cases e
  | _, _, .rep _, e => by cases e
  | _, _, .obj h, e => by cases e
  | _, _, .ty n, e => by cases e
  | _, _, .fn x, e => by cases e
  | _, _, .scr h r, e => by cases e
theorem FzA.py {F H : Hp} {T : List Addr} (s : Same F H) : ∀ {vs : List V} {ds : List M.D}, FzA K F T vs ds -> M.dats ds = true -> DpAll K H vs (pys ds)
  | _, _, .nil, _ => .nil
  | _, _, .cons h r, e => by
    obtain ⟨e1, e2⟩ := Bool.and_eq_true_iff.mp (show (M.dat _ && M.dats _) = true from e)
    exact .cons (Fz.py s h e1) (FzA.py s r e2)
end
theorem mI' {s : M.Tx} (h : okT s) : PyData.strOk (sx s) = true := by
  unfold PyData.strOk
  rw [Array.all_eq_true']
  intro c hc
  have := h.1 c (by simpa [sx] using hc)
  simp only [decide_eq_true_eq]
  omega
mutual
theorem lL' {F : Hp} {T : List Addr} : ∀ {v : V} {d : M.D}, Fz K F T v d -> M.dat d = true -> (py d).canLay0 = true /\ (py d).depth = M.dep d
  | _, _, .non, _ => ⟨rfl, rfl⟩
  | _, _, .bl b, _ => ⟨rfl, rfl⟩
  | _, _, .int i, _ => ⟨rfl, rfl⟩
  | _, _, .str h, _ => ⟨mI' h, rfl⟩
  | _, _, .tup h r, e => by
    obtain ⟨h1, h2⟩ := lays_of r e
    exact ⟨h1, congrArg (· + 1) h2⟩
  | _, _, .lst h r, e => by
    obtain ⟨h1, h2⟩ := lays_of r e
    exact ⟨h1, congrArg (· + 1) h2⟩
  | _, _, .dct h _ r, e => by cases e
  | _, _, .dcl _ _ _, e => by cases e
  | _, _, .dcn _ _ _ _, e => by cases e
  | _, _, .rep _, e => by cases e
  | _, _, .obj h, e => by cases e
  | _, _, .ty n, e => by cases e
  | _, _, .fn x, e => by cases e
  | _, _, .scr h r, e => by cases e
theorem lays_of {F : Hp} {T : List Addr} : ∀ {vs : List V} {ds : List M.D}, FzA K F T vs ds -> M.dats ds = true -> PyData.canLayAll0 (pys ds) = true /\ PyData.depthAll (pys ds) = M.deps ds
  | _, _, .nil, _ => ⟨rfl, rfl⟩
  | _, _, .cons h r, e => by
    obtain ⟨e1, e2⟩ := Bool.and_eq_true_iff.mp (show (M.dat _ && M.dats _) = true from e)
    obtain ⟨a1, a2⟩ := lL' h e1
    obtain ⟨b1, b2⟩ := lays_of r e2
    refine ⟨?_, ?_⟩
    . show (PyData.canLay0 _ && PyData.canLayAll0 _) = true
      rw [a1, b1]; rfl
    . show max (PyData.depth _) (PyData.depthAll _) = max _ _
      rw [a2, b2]
end
theorem n7' (a b : M.Tx) : (sx a == sx b) = (a == b) := by
  rw [Bool.eq_iff_iff, beq_iff_eq, beq_iff_eq]
  exact ⟨qZ', fun h => by rw [h]⟩
mutual
theorem oy' : ∀ (d e : M.D), M.dat d = true -> M.dat e = true -> PyData.eqv (py d) (py e) = M.eqb d e
  | .non, e, _, h => by cases e <;> first | rfl | cases h
  | .bl a, e, _, h => by cases e <;> first | rfl | cases h
  | .int a, e, _, h => by cases e <;> first | rfl | cases h
  | .str a, e, _, h => by
    cases e with
    | str b => exact n7' a b
    | _ => first | rfl | cases h
  | .tup a, e, h1, h => by
    cases e with
    | tup b => exact eqvs_py a b h1 h
    | _ => first | rfl | cases h
  | .lst a, e, h1, h => by
    cases e with
    | lst b => exact eqvs_py a b h1 h
    | _ => first | rfl | cases h
  | .dct _ _, _, h, _ => by cases h
  | .obj _, _, h, _ => by cases h
  | .ty _, _, h, _ => by cases h
  | .fn _, _, h, _ => by cases h
  | .exc _ _, _, h, _ => by cases h
  | .scr _, _, h, _ => by cases h
theorem eqvs_py : ∀ (d e : List M.D), M.dats d = true -> M.dats e = true -> PyData.eqvAll (pys d) (pys e) = M.eqbs d e
  | [], [], _, _ => rfl
  | [], _ :: _, _, _ => rfl
  | _ :: _, [], _, _ => rfl
  | a :: d, b :: e, h1, h2 => by
    obtain ⟨a1, a2⟩ := Bool.and_eq_true_iff.mp (show (M.dat _ && M.dats _) = true from h1)
    obtain ⟨b1, b2⟩ := Bool.and_eq_true_iff.mp (show (M.dat _ && M.dats _) = true from h2)
    show (PyData.eqv (py a) (py b) && PyData.eqvAll (pys d) (pys e)) = (M.eqb a b && M.eqbs d e)
    rw [oy' a b a1 b1, eqvs_py d e a2 b2]
end
theorem r8' {F H : Hp} {T : List Addr} {fp : Fp} {x y : V} {dx dy : M.D} {b : Bool} (f : FpH F H fp) (hx : Fz K F T x dx) (hy : Fz K F T y dy) (h : M.eqv dx dy = some b) :
    ∃ d e, Dp K H x d /\ Dp K H y e /\ SeqAt.shaped d = true /\ SeqAt.shaped e = true /\ PyData.eqv d e = b := by
  unfold M.eqv at h
  split at h
  . rename_i c
    obtain ⟨c1, c2, c3, c4⟩ := c
    obtain ⟨a1, a2⟩ := lL' hx c1
    obtain ⟨b1, b2⟩ := lL' hy c2
    refine ⟨_, _, hx.py f.low c1, hy.py f.low c2, ?_, ?_, ?_⟩
    . exact Sh.shaped (n := 64) ⟨a1, by rw [a2]; exact c3⟩ (Nat.le_refl _)
    . exact Sh.shaped (n := 64) ⟨b1, by rw [b2]; exact c4⟩ (Nat.le_refl _)
    . rw [oy' _ _ c1 c2]; exact Option.some.inj h
  . cases h
theorem eZ' : Op2 K M.pEq (vd' K) := by
  intro F H T fp x y dx dy dz Q f hx hy h k
  unfold M.pEq M.ob at h
  cases e : M.eqv dx dy with
  | none => rw [e] at h; cases h
  | some b =>
    rw [e] at h
    cases h
    obtain ⟨d, e, h1, h2, h3, h4, h5⟩ := r8' f hx hy e
    exact .inr ⟨d, e, h1, h2, h3, h4, by rw [h5]; exact k.here f (.bl b)⟩
theorem pm' : Op2 K M.pNe (vc' K) := by
  intro F H T fp x y dx dy dz Q f hx hy h k
  unfold M.pNe M.ob at h
  cases e : M.eqv dx dy with
  | none => rw [e] at h; cases h
  | some b =>
    rw [e] at h
    cases h
    obtain ⟨d, e, h1, h2, h3, h4, h5⟩ := r8' f hx hy e
    exact .inr ⟨d, e, h1, h2, h3, h4, by rw [h5]; exact k.here f (.bl (!b))⟩
theorem a3' : Op2 K M.bz' (rr' K) := by
  intro F H T fp x y dx dy dz Q f hx hy h k
  cases dx <;> cases dy <;> try (cases h; done)
  . cases hx; cases hy; cases h
    exact .inl ⟨_, _, rfl, rfl, k.here f (.int _)⟩
  . obtain ⟨rfl, o1⟩ := hx.str_inv
    obtain ⟨rfl, o2⟩ := hy.str_inv
    simp only [M.bz'] at h
    split at h
    . rename_i hl
      cases h
      refine .inr (.inl ⟨_, _, rfl, rfl, by rw [bF', bF', bt']; exact hl, ?_⟩)
      rw [q3']
      exact k.here f (.str (o1.app o2 hl))
    . cases h
  . obtain ⟨a, vs, rfl, ha, za⟩ := hx.tup_inv
    obtain ⟨b, ws, rfl, hb, zb⟩ := hy.tup_inv
    simp only [M.bz'] at h
    split at h
    . rename_i hl
      cases h
      refine .inr (.inr (.inr ⟨a, b, vs, ws, rfl, rfl, seqT f.low ha, seqT f.low hb, by rw [za.length, zb.length, bt']; exact hl, fun e => ?_, fun _ e => ?_, fun _ _ p hp => k.newT f (za.append zb) hp⟩))
      . subst e
        cases za
        exact k.here f (.tup hb zb)
      . subst e
        cases zb
        refine k.here f ?_
        rw [List.append_nil]
        exact .tup ha za
    . cases h
  . obtain ⟨a, vs, rfl, ha, za⟩ := hx.lst_inv
    obtain ⟨b, ws, rfl, hb, zb⟩ := hy.lst_inv
    simp only [M.bz'] at h
    split at h
    . rename_i hl
      cases h
      exact .inr (.inr (.inl ⟨a, b, vs, ws, rfl, rfl, f.low _ _ ha, f.low _ _ hb, by rw [za.length, zb.length, bt']; exact hl, fun p hp => k.newL f (za.append zb) hp⟩))
    . cases h
theorem t2' : Op2 K M.tg' (rI0 fun i j => .int (i - j)) := by
  intro F H T fp x y dx dy dz Q f hx hy h k
  cases dx <;> cases dy <;> try (cases h; done)
  cases hx; cases hy; cases h
  exact ⟨_, _, rfl, rfl, k.here f (.int _)⟩
theorem rg' (s : M.Tx) (n : Nat) : jS' (sx s) n = sx (List.replicate n s).flatten := rfl
theorem rh' {s : M.Tx} {n : Nat} (h : okT s) (hl : s.length * n <= M.d2') : okT (List.replicate n s).flatten := by
  refine ⟨fun c hc => ?_, ?_⟩
  . obtain ⟨l, h1, h2⟩ := List.mem_flatten.mp hc
    rw [List.eq_of_mem_replicate h1] at h2
    exact h.1 c h2
  . rw [List.length_flatten]
    simp
    rw [Nat.mul_comm]
    exact hl
def o9' : R2 := fun x y H Q => rl' x y H Q \/ rI CMulW (fun i j => .int (i * j)) x y H Q
theorem cR' {X : Cx} : OpR X (binaryOp .Mult) o9' := pg'.or op_mulW
theorem rK' {i : Int} (h : -2582249878086908589655919172003011874329705792829223512830659356540647622016841194629645353280137831435903171972747493376 < i /\ i < 2582249878086908589655919172003011874329705792829223512830659356540647622016841194629645353280137831435903171972747493376) : i.natAbs < 2 ^ 400 := by
  have : (2 : Nat) ^ 400 = 2582249878086908589655919172003011874329705792829223512830659356540647622016841194629645353280137831435903171972747493376 := by decide +kernel
  omega
theorem ly' : Op2 K M.eq' o9' := by
  intro F H T fp x y dx dy dz Q f hx hy h k
  cases dx <;> cases dy <;> try (cases h; done)
  . cases hx; cases hy
    simp only [M.eq'] at h
    split at h
    . rename_i hc
      cases h
      rcases hc with hc | hc
      . refine .inl (.inl ⟨_, _, rfl, rfl, ?_, k.here f (.int _)⟩)
        rcases hc with hc | hc <;> simp only [M.bj', Bool.and_eq_true, decide_eq_true_eq] at hc
        . exact .inl hc
        . exact .inr hc
      . exact .inr ⟨_, _, rfl, rfl, wide_mul (rK' hc.1) (rK' hc.2) (by decide) (by decide) (by decide), k.here f (.int _)⟩
    . cases h
  . obtain ⟨rfl, o1⟩ := hx.str_inv
    cases hy
    simp only [M.eq'] at h
    split at h
    . rename_i hc
      cases h
      refine .inl (.inr (.inl ⟨_, _, rfl, rfl, hc.1, hc.2.1, by rw [bF', bt']; exact hc.2.2, ?_⟩))
      rw [rg']
      exact k.here f (.str (rh' o1 hc.2.2))
    . cases h
  . obtain ⟨a, vs, rfl, ha, za⟩ := hx.lst_inv
    cases hy
    simp only [M.eq'] at h
    split at h
    . rename_i hc
      cases h
      refine .inl (.inr (.inr ⟨a, _, vs, rfl, rfl, f.low _ _ ha, by omega, by omega, by rw [za.length, bt']; exact hc.2.2, fun p hp => k.newL f (za.rep _) hp⟩))
    . cases h
theorem iT' : Op2 K M.fW' (rI CDivW fun i j => .int (i / j)) := by
  intro F H T fp x y dx dy dz Q f hx hy h k
  cases dx <;> cases dy <;> try (cases h; done)
  cases hx; cases hy
  simp only [M.fW'] at h
  split at h
  . rename_i hc
    cases h
    refine ⟨_, _, rfl, rfl, wide_div (b := 200) hc.1 ?_ (by decide) (by decide), k.here f (.int _)⟩
    have : (2 : Nat) ^ 200 = 1606938044258990275541962092341162602522202993782792835301376 := by decide +kernel
    omega
  . cases h
theorem g4' : Op2 K M.lu' (rI (fun _ j => 0 < j) fun i j => .int (i % j)) := by
  intro F H T fp x y dx dy dz Q f hx hy h k
  cases dx <;> cases dy <;> try (cases h; done)
  cases hx; cases hy
  simp only [M.lu'] at h
  split at h
  . rename_i hc
    cases h
    exact ⟨_, _, rfl, rfl, hc, k.here f (.int _)⟩
  . cases h
theorem t3' : Op2 K M.ry' (rI CPow fun i j => .int (i ^ j.toNat)) := by
  intro F H T fp x y dx dy dz Q f hx hy h k
  cases dx <;> cases dy <;> try (cases h; done)
  cases hx; cases hy
  simp only [M.ry'] at h
  split at h
  . rename_i hc
    cases h
    obtain ⟨h1, h2, h3⟩ := hc
    simp only [M.bj', Bool.and_eq_true, decide_eq_true_eq] at h3
    exact ⟨_, _, rfl, rfl, ⟨h1, by omega, by omega⟩, k.here f (.int _)⟩
  . cases h
theorem tl' : Op2 K M.pLt (qp' (fun i j => decide (i < j)) fun a b => decide (a < b)) := by
  intro F H T fp x y dx dy dz Q f hx hy h k
  cases dx <;> cases dy <;> try (cases h; done)
  . cases hx; cases hy; cases h
    exact .inl ⟨_, _, rfl, rfl, k.here f (.bl _)⟩
  . obtain ⟨rfl, o1⟩ := hx.str_inv
    obtain ⟨rfl, o2⟩ := hy.str_inv
    cases h
    exact .inr ⟨_, _, rfl, rfl, k.here f (.bl _)⟩
theorem vM' : Op2 K M.pGt (qp' (fun i j => decide (j < i)) fun a b => decide (b < a)) := by
  intro F H T fp x y dx dy dz Q f hx hy h k
  cases dx <;> cases dy <;> try (cases h; done)
  . cases hx; cases hy; cases h
    exact .inl ⟨_, _, rfl, rfl, k.here f (.bl _)⟩
  . obtain ⟨rfl, o1⟩ := hx.str_inv
    obtain ⟨rfl, o2⟩ := hy.str_inv
    cases h
    exact .inr ⟨_, _, rfl, rfl, k.here f (.bl _)⟩
theorem vN' : Op2 K M.pGe (qp' (fun i j => decide (j <= i)) fun a b => !decide (a < b)) := by
  intro F H T fp x y dx dy dz Q f hx hy h k
  cases dx <;> cases dy <;> try (cases h; done)
  . cases hx; cases hy; cases h
    exact .inl ⟨_, _, rfl, rfl, k.here f (.bl _)⟩
  . obtain ⟨rfl, o1⟩ := hx.str_inv
    obtain ⟨rfl, o2⟩ := hy.str_inv
    cases h
    exact .inr ⟨_, _, rfl, rfl, k.here f (.bl _)⟩
def lq' : R2 := fun x y H Q => rk' x y H Q \/ rNotB x y H Q
theorem jq' {X : Cx} : OpR X (compareOp .IsNot) lq' := m1'.or op_notBl
theorem rX' {F : Hp} {T : List Addr} {x : V} {d : M.D} (h : Fz K F T x d) : decide (x = .non) = M.cB' d := by cases h <;> rfl
theorem pn' : Op2 K M.er' lq' := by
  intro F H T fp x y dx dy dz Q f hx hy h k
  cases dy with
  | non =>
    cases hy
    have e : M.D.bl (!M.cB' dx) = dz := by cases dx <;> exact Option.some.inj h
    subst e
    exact .inl ⟨rfl, by rw [rX' hx]; exact k.here f (.bl _)⟩
  | bl b =>
    cases dx <;> try (cases h; done)
    cases hx; cases hy; cases h
    refine .inr ⟨_, _, rfl, rfl, ?_⟩
    rw [<- Bool.beq_eq_decide_eq]
    exact k.here f (.bl _)
  | _ => cases dx <;> cases h
theorem FzA.ati {F : Hp} {T : List Addr} {vs : List V} {ds : List M.D} {i : Int} {d : M.D} (h : FzA K F T vs ds) (e : M.ati ds i = some d) : ∃ v, atI vs i = some v /\ Fz K F T v d := by
  unfold M.ati at e
  unfold atI
  rw [h.length]
  cases q : M.ixn ds.length i with
  | none => rw [q] at e; cases e
  | some j =>
    rw [q] at e
    obtain ⟨v, h1, h2⟩ := h.get (i := j) e
    have q' : ixN ds.length i = some j := q
    rw [q']
    exact ⟨v, h1, h2⟩
theorem bR' : Op2 K M.pIx (rIx K) := by
  intro F H T fp x y dx dy dz Q f hx hy h k
  cases dx <;> cases dy <;> try (cases h; done)
  . obtain ⟨rfl, o1⟩ := hx.str_inv
    cases hy
    simp only [M.pIx] at h
    rename_i s i
    cases q : M.ati s i with
    | none => rw [q] at h; cases h
    | some c =>
      rw [q] at h
      cases h
      have hc : c ∈ s := by
        unfold M.ati at q
        cases q2 : M.ixn s.length i with
        | none => rw [q2] at q; cases q
        | some j => rw [q2] at q; exact List.mem_of_getElem? q
      exact .inr (.inr ⟨_, _, c, rfl, rfl, o1.len, q, k.here f (jD' (o1.1 c hc))⟩)
  . obtain ⟨a, vs, rfl, ha, za⟩ := hx.tup_inv
    cases hy
    obtain ⟨v, h1, h2⟩ := za.ati h
    exact .inr (.inl ⟨a, vs, _, v, rfl, rfl, seqT f.low ha, h1, k.here f h2⟩)
  . obtain ⟨a, vs, rfl, ha, za⟩ := hx.lst_inv
    cases hy
    obtain ⟨v, h1, h2⟩ := za.ati h
    exact .inl ⟨a, vs, _, v, rfl, rfl, SqL.of (f.low _ _ ha), h1, k.here f h2⟩
def vn' (K : PySem.W.Frag) (r : V -> Option Int -> Option Int -> Hp -> VK -> Prop) : Prop := ∀ {F H : Hp} {T : List Addr} {fp : Fp} {x : V} {dx dz : M.D} {lo hi : Option Int} {Q : VK}, FpH F H fp -> Fz K F T x dx -> M.pSl dx lo hi = some dz -> d0' K F T fp dz Q -> r x lo hi H Q
theorem l3' {s : M.Tx} {lo hi : Option Int} : (∀ c ∈ M.cut s lo hi, c ∈ s) /\ (M.cut s lo hi).length <= s.length := by
  unfold M.cut
  refine ⟨fun c hc => List.mem_of_mem_drop (List.mem_of_mem_take hc), ?_⟩
  rw [List.length_take, List.length_drop]
  omega
theorem es' : vn' K (vb' K) := by
  intro F H T fp x dx dz lo hi Q f hx h k
  cases dx <;> try (cases h; done)
  . obtain ⟨rfl, o1⟩ := hx.str_inv
    cases h
    refine .inr (.inl ⟨_, rfl, o1.len, ?_⟩)
    have e : cutS (sx ‹M.Tx›) lo hi = sx (M.cut ‹M.Tx› lo hi) := gW' (by rw [sS']; rfl)
    rw [e]
    exact k.here f (.str (o1.sub l3'.1 l3'.2))
  . obtain ⟨a, vs, rfl, ha, za⟩ := hx.tup_inv
    cases h
    refine .inr (.inr ⟨a, vs, rfl, seqT f.low ha, fun e => ?_, fun _ p hp => k.newT f za.cutV hp⟩)
    refine k.here f ?_
    have e2 : M.cut ‹List M.D› lo hi = ‹List M.D› := by
      unfold M.cut
      rw [<- za.length]
      have e1 : M.six vs.length 0 lo = 0 := e.1
      have e3 : M.six vs.length vs.length hi = vs.length := e.2
      rw [e1, e3, List.drop_zero, Nat.sub_zero, za.length, List.take_length]
    rw [e2]
    exact .tup ha za
  . obtain ⟨a, vs, rfl, ha, za⟩ := hx.lst_inv
    cases h
    exact .inl ⟨a, vs, rfl, SqL.of (f.low _ _ ha), fun p hp => k.newL f za.cutV hp⟩
  . cases hx with
    | scr ha za =>
      cases h
      exact .inl ⟨_, _, rfl, Same.seq f.low ha, fun p hp => k.newL f za.cutV hp⟩
end
end S
namespace S
open PySem PySem.Spec PyProof.Rows L2
variable [Wd] [Hot]
section
variable {K : PySem.W.Frag} {F F' H H' : Hp} {T T' : List Addr} {fp fq fr : Fp} {ρ : M.PSt} {σ : St}
abbrev keys (fp : Fp) : List Addr := fp.map (·.1)
theorem FpH.sub (f : FpH F H fp) (hm : ∀ e ∈ fq, e ∈ fp) (hc : ∀ a, (keys fq).count a <= (keys fp).count a) : FpH F H fq := by
  refine ⟨f.low, fun e he => f.at_ e (hm e he), ?_, f.tbs fun a h1 h2 h3 => ⟨h1, rfl, fun e he => h3 e (hm e he)⟩⟩
  rw [List.nodup_iff_count]
  exact fun a => Nat.le_trans (hc a) (List.nodup_iff_count.mp f.nd a)
structure Part (a b : Fp) : Prop where
  m : ∀ e ∈ a, e ∈ b
  c : ∀ x, (keys a).count x <= (keys b).count x
theorem FpH.part (f : FpH F H fp) (p : Part fq fp) : FpH F H fq := f.sub p.m p.c
theorem Part.refl {a : Fp} : Part a a := ⟨fun _ h => h, fun _ => Nat.le_refl _⟩
theorem Part.trans {a b c : Fp} (p : Part a b) (q : Part b c) : Part a c := ⟨fun e h => q.m e (p.m e h), fun x => Nat.le_trans (p.c x) (q.c x)⟩
theorem Part.app {a b c d : Fp} (p : Part a b) (q : Part c d) : Part (a ++ c) (b ++ d) := by
  refine ⟨fun e h => ?_, fun x => ?_⟩
  . rcases List.mem_append.mp h with h | h
    . exact List.mem_append_left _ (p.m e h)
    . exact List.mem_append_right _ (q.m e h)
  . have := p.c x
    have := q.c x
    simp only [keys, List.map_append, List.count_append] at *
    omega
theorem Part.right {a b c : Fp} (p : Part a c) : Part a (b ++ c) := by
  refine ⟨fun e h => List.mem_append_right _ (p.m e h), fun x => ?_⟩
  have := p.c x
  simp only [keys, List.map_append, List.count_append] at *
  omega
theorem Part.nil {b : Fp} : Part [] b := ⟨fun e h => (nomatch h), fun x => by simp [keys]⟩
local macro_rules | `(tactic| walk_at "parts") => `(tactic| (constructor; (intro e h; simp only [List.mem_append, List.mem_cons] at *; grind); (intro x; simp only [keys, List.map_append, List.map_cons, List.count_append, List.count_cons] at *; omega)))
theorem Part.swap {a b c : Fp} : Part (a ++ (b ++ c)) (b ++ (a ++ c)) := by walk_at "parts"
theorem RpE.get {env : List (Option M.O)} {i : Nat} {o : M.O} (r : RpE K F T σ env fp) (h : env[i]? = some (some o)) (hne : M.va' o = true := by first | assumption | rfl) : ∃ v f1 f2 f3, σ[i]? = some (some v) /\ fp = f1 ++ (f2 ++ f3) /\ Rp K F T v o f2 ∧
    RpE K F T σ (env.set i none) (f1 ++ f3) /\ ∀ F' T' v' o' f2', Ext F T F' T' -> Rp K F' T' v' o' f2' -> RpE K F' T' (σ.set i (some v')) (env.set i (some o')) (f1 ++ (f2' ++ f3)) := by
  induction r generalizing i with
  | nil => cases h
  | off r ih =>
    cases i with
    | zero => cases h
    | succ i =>
      obtain ⟨v, f1, f2, f3, h1, rfl, h3, h4, h5⟩ := ih (i := i) h
      exact ⟨v, f1, f2, f3, h1, rfl, h3, .off h4, fun F' T' v' o' f2' e r' => .off (h5 F' T' v' o' f2' e r')⟩
  | @on v0 o0 σ env fa fb r0 r ih =>
    cases i with
    | zero =>
      have e : o0 = o := Option.some.inj (Option.some.inj h)
      subst e
      exact ⟨v0, [], fa, fb, rfl, rfl, r0, .off r, fun F' T' v' o' f2' e r' => (RpE.on r' (r.mono e) : RpE K F' T' _ _ (f2' ++ fb))⟩
    | succ i =>
      obtain ⟨v, f1, f2, f3, h1, rfl, h3, h4, h5⟩ := ih (i := i) h
      refine ⟨v, fa ++ f1, f2, f3, h1, by simp, h3, ?_, fun F' T' v' o' f2' e r' => ?_⟩
      . rw [List.append_assoc]; exact .on r0 h4
      . rw [List.append_assoc]; exact .on (r0.mono e) (h5 F' T' v' o' f2' e r')
  | hot hh z r ih =>
    cases i with
    | zero => rw [<- Option.some.inj (Option.some.inj h)] at hne; cases hne
    | succ i =>
      obtain ⟨v, f1, f2, f3, h1, rfl, h3, h4, h5⟩ := ih (i := i) h
      exact ⟨v, f1, f2, f3, h1, rfl, h3, .hot (by rw [List.length_set]; exact hh) z h4, fun F' T' v' o' f2' e r' => .hot (by rw [List.length_set]; exact hh) (z.mono' e) (h5 F' T' v' o' f2' e r')⟩
  | clo hh z r ih =>
    cases i with
    | zero => rw [<- Option.some.inj (Option.some.inj h)] at hne; cases hne
    | succ i =>
      obtain ⟨v, f1, f2, f3, h1, rfl, h3, h4, h5⟩ := ih (i := i) h
      exact ⟨v, f1, f2, f3, h1, rfl, h3, .clo (by rw [List.length_set]; exact hh) z h4, fun F' T' v' o' f2' e r' => .clo (by rw [List.length_set]; exact hh) (z.mono e) (h5 F' T' v' o' f2' e r')⟩
theorem RpE.val {env : List (Option M.O)} {i : Nat} {o : M.O} (r : RpE K F T σ env fp) (h : env[i]? = some (some o)) : ∃ v, σ[i]? = some (some v) := by
  induction r generalizing i with
  | nil => cases h
  | off r ih => cases i with
    | zero => cases h
    | succ i => exact ih (i := i) h
  | on _ r ih => cases i with
    | zero => exact ⟨_, rfl⟩
    | succ i => exact ih (i := i) h
  | hot _ _ r ih => cases i with
    | zero => exact ⟨_, rfl⟩
    | succ i => exact ih (i := i) h
  | clo _ _ r ih => cases i with
    | zero => exact ⟨_, rfl⟩
    | succ i => exact ih (i := i) h
theorem RpE.exn {env : List (Option M.O)} {i : Nat} (r : RpE K F T σ env fp) (h : env[i]? = some (some .exn)) : ∃ a n dd x, Hot.hot = some (a, n, dd, x) /\ XcR K F T x (.ref (He.ga K x.cls)) dd /\ σ[i]? = some (some (.ref a)) := by
  induction r generalizing i with
  | nil => cases h
  | off r ih => cases i with
    | zero => cases h
    | succ i => exact ih (i := i) h
  | on q r ih => cases i with
    | zero =>
      have e := Option.some.inj (Option.some.inj h)
      subst e
      cases q
    | succ i => exact ih (i := i) h
  | hot hh z r ih => cases i with
    | zero => exact ⟨_, _, _, _, hh, z, rfl⟩
    | succ i => exact ih (i := i) h
  | clo hh z r ih => cases i with
    | zero => cases h
    | succ i => exact ih (i := i) h
theorem di' {α : Type} : ∀ {l : List α} {i : Nat} {x : α}, l[i]? = some x -> l.set i x = l
  | [], _, _, h => by cases h
  | a :: l, 0, x, h => by rw [<- Option.some.inj h]; rfl
  | a :: l, i + 1, x, h => by
    show a :: l.set i x = a :: l
    rw [di' (l := l) (i := i) h]
theorem RpE.len {env : List (Option M.O)} (r : RpE K F T σ env fp) : σ.length = env.length := by
  induction r with
  | nil => rfl
  | off _ ih => exact congrArg (· + 1) ih
  | on _ _ ih => exact congrArg (· + 1) ih
  | hot _ _ _ ih => exact congrArg (· + 1) ih
  | clo _ _ _ ih => exact congrArg (· + 1) ih
theorem RpE.drop {env : List (Option M.O)} (r : RpE K F T σ env fp) (i : Nat) (x : Option V) : ∃ fq, RpE K F T (σ.set i x) (env.set i none) fq /\ Part fq fp := by
  induction r generalizing i with
  | nil => exact ⟨[], .nil, .refl⟩
  | @off y σ env fp r ih =>
    cases i with
    | zero => exact ⟨_, .off r, .refl⟩
    | succ i =>
      obtain ⟨fq, h1, h2⟩ := ih i
      exact ⟨fq, .off h1, h2⟩
  | @on v0 o0 σ env fa fb r0 r ih =>
    cases i with
    | zero => exact ⟨_, .off r, .right .refl⟩
    | succ i =>
      obtain ⟨fq, h1, h2⟩ := ih i
      exact ⟨_, .on r0 h1, .app .refl h2⟩
  | hot hh z r ih =>
    cases i with
    | zero => exact ⟨_, .off r, .refl⟩
    | succ i =>
      obtain ⟨fq, h1, h2⟩ := ih i
      exact ⟨fq, .hot (by rw [List.length_set]; exact hh) z h1, h2⟩
  | clo hh z r ih =>
    cases i with
    | zero => exact ⟨_, .off r, .refl⟩
    | succ i =>
      obtain ⟨fq, h1, h2⟩ := ih i
      exact ⟨fq, .clo (by rw [List.length_set]; exact hh) z h1, h2⟩
theorem RpE.drop0 {env : List (Option M.O)} (r : RpE K F T σ env fp) (i : Nat) : ∃ fq, RpE K F T σ (env.set i none) fq /\ Part fq fp := by
  induction r generalizing i with
  | nil => exact ⟨[], .nil, .refl⟩
  | @off y σ env fp r ih =>
    cases i with
    | zero => exact ⟨_, .off r, .refl⟩
    | succ i =>
      obtain ⟨fq, h1, h2⟩ := ih i
      exact ⟨fq, .off h1, h2⟩
  | @on v0 o0 σ env fa fb r0 r ih =>
    cases i with
    | zero => exact ⟨_, .off r, .right .refl⟩
    | succ i =>
      obtain ⟨fq, h1, h2⟩ := ih i
      exact ⟨_, .on r0 h1, .app .refl h2⟩
  | hot hh z r ih =>
    cases i with
    | zero => exact ⟨_, .off r, .refl⟩
    | succ i =>
      obtain ⟨fq, h1, h2⟩ := ih i
      exact ⟨fq, .hot (by rw [List.length_set]; exact hh) z h1, h2⟩
  | clo hh z r ih =>
    cases i with
    | zero => exact ⟨_, .off r, .refl⟩
    | succ i =>
      obtain ⟨fq, h1, h2⟩ := ih i
      exact ⟨fq, .clo (by rw [List.length_set]; exact hh) z h1, h2⟩
theorem RpE.put {env : List (Option M.O)} (r : RpE K F T σ env fp) {i : Nat} (hi : i < env.length) {v : V} {o : M.O} {f2 : Fp} (q : Rp K F T v o f2) :
    ∃ fq, RpE K F T (σ.set i (some v)) (env.set i (some o)) fq /\ Part fq (fp ++ f2) := by
  induction r generalizing i with
  | nil => cases hi
  | @off y σ env fp r ih =>
    cases i with
    | zero => exact ⟨_, .on q r, by walk_at "parts"⟩
    | succ i =>
      obtain ⟨fq, h1, h2⟩ := ih (i := i) (Nat.lt_of_succ_lt_succ hi)
      exact ⟨fq, .off h1, h2⟩
  | @on v0 o0 σ env fa fb r0 r ih =>
    cases i with
    | zero => exact ⟨_, .on q r, by walk_at "parts"⟩
    | succ i =>
      obtain ⟨fq, h1, h2⟩ := ih (i := i) (Nat.lt_of_succ_lt_succ hi)
      refine ⟨_, .on r0 h1, ?_⟩
      rw [List.append_assoc]
      exact .app .refl h2
  | hot hh z r ih =>
    cases i with
    | zero => exact ⟨_, .on q r, by walk_at "parts"⟩
    | succ i =>
      obtain ⟨fq, h1, h2⟩ := ih (i := i) (Nat.lt_of_succ_lt_succ hi)
      exact ⟨fq, .hot (by rw [List.length_set]; exact hh) z h1, h2⟩
  | clo hh z r ih =>
    cases i with
    | zero => exact ⟨_, .on q r, by walk_at "parts"⟩
    | succ i =>
      obtain ⟨fq, h1, h2⟩ := ih (i := i) (Nat.lt_of_succ_lt_succ hi)
      exact ⟨fq, .clo (by rw [List.length_set]; exact hh) z h1, h2⟩
theorem RpE.put0 {env : List (Option M.O)} (r : RpE K F T σ env fp) {i : Nat} {v : V} (hi : σ[i]? = some (some v)) {o : M.O} {f2 : Fp} (q : Rp K F T v o f2) :
    ∃ fq, RpE K F T σ (env.set i (some o)) fq /\ Part fq (fp ++ f2) := by
  have hl : i < env.length := by rw [<- r.len]; exact (List.getElem?_eq_some_iff.mp hi).1
  obtain ⟨fq, h1, h2⟩ := r.put hl q
  rw [di' hi] at h1
  exact ⟨fq, h1, h2⟩
def nF' (F : Hp) : Fp -> Hp
  | [] => F
  | e :: r => upd (nF' F r) e.1 e.2
theorem cI' {a : Addr} : ∀ {fp : Fp}, a ∉ keys fp -> nF' F fp a = F a
  | [], _ => rfl
  | e :: r, h => by
    have h' : a ≠ e.1 /\ a ∉ keys r := by simpa [keys] using h
    show upd (nF' F r) e.1 e.2 a = F a
    rw [upd_ne h'.1, cI' h'.2]
theorem do' : ∀ {fp : Fp}, (keys fp).Nodup -> ∀ e ∈ fp, nF' F fp e.1 = some e.2
  | e :: r, h, e', he => by
    obtain ⟨h1, h2⟩ := List.nodup_cons.mp h
    show upd (nF' F r) e.1 e.2 e'.1 = _
    rcases List.mem_cons.mp he with rfl | he
    . exact upd_same
    . rw [upd_ne fun z => h1 (by have q : e'.1 ∈ keys r := List.mem_map_of_mem he; rw [z] at q; exact q)]
      exact do' h2 e' he
theorem dT' {fp : Fp} (h : ∀ e ∈ fp, F e.1 = none) : Same F (nF' F fp) := fun a o e => by
  rw [cI' fun z => ?_]
  . exact e
  . obtain ⟨x, h1, h2⟩ := List.mem_map.mp z
    rw [<- h2, h x h1] at e
    cases e
theorem FpH.freeze {a b : Fp} (f : FpH F H (a ++ b)) : FpH (nF' F a) H b := by
  have nd : (keys a ++ keys b).Nodup := by rw [<- List.map_append]; exact f.nd
  obtain ⟨n1, n2, n3⟩ := List.nodup_append.mp nd
  refine ⟨fun p o h => ?_, fun e he => ⟨(f.at_ e (List.mem_append_right _ he)).1, ?_⟩, n2, f.tbs (fun p h1 h2 h3 => ⟨?_, rfl, fun e he => h3 e (List.mem_append_right _ he)⟩) fun c q h => lk' (dT' fun e he => (f.at_ e (List.mem_append_left _ he)).2) h⟩
  . by_cases hp : p ∈ keys a
    . obtain ⟨x, h1, rfl⟩ := List.mem_map.mp hp
      rw [do' n1 x h1] at h
      rw [(f.at_ x (List.mem_append_left _ h1)).1]
      exact h
    . rw [cI' hp] at h
      exact f.low _ _ h
  . rw [cI' fun z => n3 _ z _ (List.mem_map_of_mem he) rfl]
    exact (f.at_ e (List.mem_append_right _ he)).2
  . rw [cI' fun z => ?_]
    . exact h1
    . obtain ⟨x, hx, e⟩ := List.mem_map.mp z
      exact h3 x (List.mem_append_left _ hx) e
mutual
theorem Rp.freeze {G : Hp} (s : Same F G) : ∀ {v : V} {o : M.O} {fp : Fp}, Rp K F T v o fp -> (∀ e ∈ fp, G e.1 = some e.2) -> Fz K G T v (M.frz o)
  | _, _, _, .fz h, _ => h.mono (.of s)
  | _, _, _, .lst r, g => .lst (g _ List.mem_cons_self) (RpA.freeze s r fun e he => g e (List.mem_cons_of_mem _ he))
  | _, _, _, .tup r, g => .tup (SqT.of (g _ List.mem_cons_self)) (RpA.freeze s r fun e he => g e (List.mem_cons_of_mem _ he))
  | _, _, _, .dct k r, g => .dct (.inl (g _ List.mem_cons_self)) k (RpA.freeze s r fun e he => g e (List.mem_cons_of_mem _ he))
  | _, _, _, .dcl k r, g => .dcl (.inl (g _ List.mem_cons_self)) k (RpA.freeze s r fun e he => g e (List.mem_cons_of_mem _ he))
  | _, _, _, .dcn k q r, g => .dcn (.inl (g _ List.mem_cons_self)) k (q.mono (.of s)) (RpA.freeze s r fun e he => g e (List.mem_cons_of_mem _ he))
theorem RpA.freeze {G : Hp} (s : Same F G) : ∀ {vs : List V} {os : List M.O} {fp : Fp}, RpA K F T vs os fp -> (∀ e ∈ fp, G e.1 = some e.2) -> FzA K G T vs (M.frzs os)
  | _, _, _, .nil, _ => .nil
  | _, _, _, .cons h r, g => .cons (Rp.freeze s h fun e he => g e (List.mem_append_left _ he)) (RpA.freeze s r fun e he => g e (List.mem_append_right _ he))
end
theorem Rp.frozen {v : V} {o : M.O} {a b : Fp} (q : Rp K F T v o a) (f : FpH F H (a ++ b)) : ∃ G, Same F G /\ Fz K G T v (M.frz o) /\ FpH G H b := by
  have s : Same F (nF' F a) := dT' fun e he => (f.at_ e (List.mem_append_left _ he)).2
  refine ⟨_, s, q.freeze s fun e he => do' ?_ e he, f.freeze⟩
  have nd : (keys a ++ keys b).Nodup := by rw [<- List.map_append]; exact f.nd
  exact (List.nodup_append.mp nd).1
theorem RpA.frozen {v : List V} {o : List M.O} {a b : Fp} (q : RpA K F T v o a) (f : FpH F H (a ++ b)) : ∃ G, Same F G /\ FzA K G T v (M.frzs o) /\ FpH G H b := by
  have s : Same F (nF' F a) := dT' fun e he => (f.at_ e (List.mem_append_left _ he)).2
  refine ⟨_, s, q.freeze s fun e he => do' ?_ e he, f.freeze⟩
  have nd : (keys a ++ keys b).Nodup := by rw [<- List.map_append]; exact f.nd
  exact (List.nodup_append.mp nd).1
theorem Rel.frozen {v : V} {o : M.O} (r : Rel K ρ σ H F T (fp ++ fr)) (q : Rp K F T v o fp) : ∃ G, Same F G /\ Fz K G T v (M.frz o) /\ Rel K ρ σ H G T fr := by
  obtain ⟨fe, fw, re, rw, f⟩ := r
  have f' : FpH F H (fp ++ (fe ++ (fw ++ fr))) := f.part (by walk_at "parts")
  obtain ⟨G, s, z, f2⟩ := q.frozen f'
  exact ⟨G, s, z, fe, fw, re.mono (.of s), rw.mono (.of s), f2⟩
theorem Rel.part {fr' : Fp} (r : Rel K ρ σ H F T fr) (p : Part fr' fr) : Rel K ρ σ H F T fr' := by
  obtain ⟨fe, fw, re, rw, f⟩ := r
  exact ⟨fe, fw, re, rw, f.part (.app .refl (.app .refl p))⟩
theorem FpH.own {p : Addr} {o : HO} (f : FpH F H fp) (hp : H p = none) : FpH F (upd H p o) ((p, o) :: fp) := by
  have np : ∀ e ∈ fp, e.1 ≠ p := fun e he => ne_of_none (f.at_ e he).1 hp
  refine ⟨fun a u h => ?_, fun e he => ?_, ?_, f.tbs fun a h1 h2 h3 => ?_⟩
  . rw [upd_ne (ne_of_none (f.low _ _ h) hp)]; exact f.low _ _ h
  . rcases List.mem_cons.mp he with rfl | he
    . exact ⟨upd_same, f.free hp⟩
    . rw [upd_ne (np e he)]; exact f.at_ e he
  . refine List.nodup_cons.mpr ⟨fun h => ?_, f.nd⟩
    obtain ⟨x, h1, h2⟩ := List.mem_map.mp h
    exact np x h1 h2
  . have ha : a ≠ p := fun z => h2 (by rw [z]; exact hp)
    refine ⟨h1, upd_ne ha, fun e he => ?_⟩
    rcases List.mem_cons.mp he with rfl | he
    . exact Ne.symm ha
    . exact h3 e he
theorem FpH.write {p : Addr} {o o' : HO} {a b : Fp} (f : FpH F H (a ++ ((p, o) :: b))) : FpH F (upd H p o') (a ++ ((p, o') :: b)) := by
  have nd : (keys a ++ (p :: keys b)).Nodup := by
    have := f.nd
    simpa [keys] using this
  obtain ⟨n1, n2, n3⟩ := List.nodup_append.mp nd
  have hp : F p = none := (f.at_ (p, o) (by simp)).2
  refine ⟨fun x u h => ?_, fun e he => ?_, ?_, f.tbs fun x h1 h2 h3 => ?_⟩
  . rw [upd_ne (fun z => by rw [z, hp] at h; cases h)]; exact f.low _ _ h
  . rcases List.mem_append.mp he with h | h
    . rw [upd_ne (n3 _ (List.mem_map_of_mem h) _ List.mem_cons_self)]
      exact f.at_ e (List.mem_append_left _ h)
    . rcases List.mem_cons.mp h with rfl | h
      . exact ⟨upd_same, hp⟩
      . rw [upd_ne (fun z => (List.nodup_cons.mp n2).1 (by have q : e.1 ∈ keys b := List.mem_map_of_mem h; rw [z] at q; exact q))]
        exact f.at_ e (List.mem_append_right _ (List.mem_cons_of_mem _ h))
  . have e : (a ++ ((p, o') :: b)).map (·.1) = keys a ++ (p :: keys b) := by simp [keys]
    rw [e]
    exact nd
  . have ha : x ≠ p := fun z => h3 (p, o) (by simp) z.symm
    refine ⟨h1, upd_ne ha, fun e he => ?_⟩
    rcases List.mem_append.mp he with h | h
    . exact h3 e (List.mem_append_left _ h)
    . rcases List.mem_cons.mp h with rfl | h
      . exact Ne.symm ha
      . exact h3 e (List.mem_append_right _ (List.mem_cons_of_mem _ h))
end
section
variable {X : Cx} {W : WX} {K : PySem.W.Frag} {pos : Pos}
theorem ac' {i j pos} : SE X W (.Constant (.int i) j pos) (M.eC (.int i)) := PE.imp pe_int fun σ H Q ⟨ρ, F, T, fr, rel, h⟩ => h _ _ _ _ .refl (.int i) rel
theorem da' {b j pos} : SE X W (.Constant (.bool b) j pos) (M.eC (.bl b)) := PE.imp pe_bl fun σ H Q ⟨ρ, F, T, fr, rel, h⟩ => h _ _ _ _ .refl (.bl b) rel
theorem b5' {j pos} : SE X W (.Constant .none j pos) (M.eC .non) := PE.imp pe_non fun σ H Q ⟨ρ, F, T, fr, rel, h⟩ => h _ _ _ _ .refl .non rel
def tk' (s : M.Tx) : Bool := s.all (fun c => decide (c < 1114112)) && decide (s.length <= 16777216)
theorem oo' {s : M.Tx} (h : tk' s = true) : okT s := by
  unfold tk' at h
  rw [Bool.and_eq_true, List.all_eq_true] at h
  exact ⟨fun c hc => of_decide_eq_true (h.1 c hc), of_decide_eq_true h.2⟩
theorem ap' {x : Str} {j pos} (s : M.Tx) (hs : x = sx s) (ho : tk' s = true) : SE X W (.Constant (.str x) j pos) (M.eC (.str s)) := by
  subst hs
  exact PE.imp pe_str fun σ H Q ⟨ρ, F, T, fr, rel, h⟩ => h _ _ _ _ .refl (.str (oo' ho)) rel
theorem q9' {e : Expr} {v : V} {d : M.D} (h : PE X e (tC v)) (z : ∀ F T, Fz X.K F T v d) : SE X W e (M.eC d) := PE.imp h fun σ H Q ⟨ρ, F, T, fr, rel, h⟩ => h _ _ _ _ .refl (z F T) rel
theorem qX' {i : Nat} {σ : St} {H : Hp} {Q : VK} (h : qE K W (M.eV i) σ H Q) : tVar i σ H Q := by
  obtain ⟨ρ, F, T, fr, rel, h⟩ := h
  unfold M.eV at h
  split at h
  . rename_i d e
    obtain ⟨fe, fw, re, rw, f⟩ := id rel
    obtain ⟨v, f1, f2, f3, h1, rfl, h3, h4, h5⟩ := re.get e
    cases h3 with
    | fz z => exact ⟨v, h1, h v H F T .refl z rel⟩
  . exact h.elim
  . exact h.elim
  . rename_i o _ hne hnc e
    obtain ⟨fe, fw, re, rw, f⟩ := rel
    obtain ⟨v, f1, f2, f3, h1, rfl, h3, h4, h5⟩ := re.get e (M.gV' (fun z => hne (by rw [z])) fun z => hnc (by rw [z]))
    have f' : FpH F H (f2 ++ (f1 ++ f3 ++ (fw ++ fr))) := f.part (by refine ⟨fun e h => ?_, fun x => ?_⟩; (simp only [List.mem_append] at *; grind); (simp only [keys, List.map_append, List.count_append] at *; omega))
    obtain ⟨G, s, z, fG⟩ := h3.frozen f'
    have re' := h5 G T v (.fz (M.frz o)) [] (.of s) (.fz z)
    rw [di' h1] at re'
    exact ⟨v, h1, h v H G T (.of s) z ⟨_, fw, re', rw.mono (.of s), by simpa using fG⟩⟩
  . exact h.elim
theorem af' {e : Expr} {i : Nat} (h : PE X e (tVar i)) : SE X W e (M.eV i) := PE.imp h fun _ _ _ => qX'
variable {a b c : Expr} {ma mb mc : M.ME} {σ : St} {H : Hp} {Q : VK}
theorem eW' {f : M.D -> M.D -> Option M.D} {r : R2} (hf : Op2 K f r) (h : qE K W (M.eOp f ma mb) σ H Q) : tOp r (qE K W ma) (qE K W mb) σ H Q := by
  obtain ⟨ρ, F, T, fr, rel, h⟩ := h
  refine aS' rel h fun dx ρ1 v H1 F1 T1 e1 z1 r1 h1 => ?_
  refine aS' r1 h1 fun dy ρ2 u H2 F2 T2 e2 z2 r2 h2 => ?_
  obtain ⟨dz, ez, q⟩ := a0'.ofO h2
  obtain ⟨fp, f2, back⟩ := r2.fp
  exact hf f2 (z1.mono e2) z2 ez fun v' H3 F3 s zz f3 => q v' H3 F3 T2 (e1.trans (e2.trans (.of s))) zz (back H3 F3 s f3)
theorem aC' {op : Operator} {f : M.D -> M.D -> Option M.D} {r : R2} (ho : OpR X (binaryOp op) r) (hf : Op2 X.K f r) (ha : SE X W a ma) (hb : SE X W b mb) : SE X W (.BinOp a op b pos) (M.eOp f ma mb) := PE.imp (pe_op ho ha hb) fun _ _ _ => eW' hf
theorem fT' {op : CmpOp} {f : M.D -> M.D -> Option M.D} {r : R2} (ho : OpR X (compareOp op) r) (hf : Op2 X.K f r) (hm : behindInMarks op b = false) (ha : SE X W a ma) (hb : SE X W b mb) : SE X W (.Compare a [op] [b] pos) (M.eOp f ma mb) := PE.imp (pe_cmpR ho ha hb hm) fun _ _ _ => eW' hf
theorem aW' {f : M.D -> M.D -> Option M.D} {r : R2} (ho : IxR X r) (hf : Op2 X.K f r) (ha : SE X W a ma) (hb : SE X W b mb) (hs : PlainIx b) : SE X W (.Subscript a b pos) (M.eOp f ma mb) := PE.imp (pe_ix ho ha hb hs) fun _ _ _ => eW' hf
theorem a0'.asB {d : M.D} {ρ : M.PSt} {P : Bool -> M.PSt -> Prop} {Y : Wx} (h : a0' (M.asB d ρ) P Y) : ∃ b, d = .bl b /\ P b ρ := by
  cases d <;> first | exact h.elim | exact ⟨_, rfl, h⟩
variable {rest : List Expr}
theorem of' (ha : SE X W a ma) (hb : SE X W (.BoolOp .And (b :: rest) pos) mb) : SE X W (.BoolOp .And (a :: b :: rest) pos) (M.qx' ma mb) := PE.imp (pe_and ha hb) fun σ H Q ⟨ρ, F, T, fr, rel, h⟩ => by
  refine aS' rel h fun dx ρ1 v H1 F1 T1 e1 z1 r1 h1 => ?_
  obtain ⟨k, rfl, h2⟩ := a0'.asB (a0'.bind h1)
  refine ⟨k, z1.bl_inv, ?_⟩
  cases k with
  | true => rw [if_pos rfl] at h2 ⊢; exact ⟨ρ1, F1, T1, fr, r1, h2.mono (fun _ _ z v H' F' T' e => z v H' F' T' (e1.trans e)) fun _ _ z => z⟩
  | false => rw [if_neg Bool.false_ne_true] at h2 ⊢; exact h2 _ _ _ _ e1 (.bl false) r1
theorem oe' {op} (ha : SE X W a ma) : SE X W (.BoolOp op [a] pos) ma := pe_one ha
variable {mt mu : M.MT}
theorem k5' (ha : SE X W a ma) (he : ∀ whole, isTrue a X.env whole = (do let v ← whole; standAt a.pos; holding [v] (truthy v)) := by intro _; rfl) : ST X W a (M.tE ma) := PT.imp (pt_val ha he) fun σ H Q ⟨ρ, F, T, fr, rel, h⟩ => by
  refine aS' rel h fun dx ρ1 v H1 F1 T1 e1 z1 r1 h1 => ?_
  obtain ⟨k, rfl, h2⟩ := a0'.asB h1
  exact ⟨k, z1.bl_inv, h2 _ _ _ e1 r1⟩
theorem aL' {op : CmpOp} {f : M.D -> M.D -> Option M.D} {r : R2} (ho : OpR X (compareOp op) r) (hf : Op2 X.K f r) (hm : behindInMarks op b = false) (ha : SE X W a ma) (hb : SE X W b mb) : ST X W (.Compare a [op] [b] pos) (M.tE (M.eOp f ma mb)) :=
  PT.imp (pt_cmpR ho ha hb hm) fun σ H Q ⟨ρ, F, T, fr, rel, h⟩ => by
    show tOp r (qE X.K W ma) (qE X.K W mb) σ H fun x H' => ∃ k, x = .bl k /\ Q k H'
    refine eW' hf ⟨ρ, F, T, fr, rel, (a0'.bind h).mono (fun d ρ1 h1 v H1 F1 T1 e z r => ?_) fun _ _ z => z⟩
    obtain ⟨k, rfl, h2⟩ := a0'.asB h1
    exact ⟨k, z.bl_inv, h2 _ _ _ e r⟩
abbrev SW (X : Cx) (W : WX) (e : Expr) (m : M.MT) : Prop := PW X e (qT X.K W m)
theorem k1' (ha : ST X W a mt) : SW X W (.BoolOp .And [a] pos) mt := pw_and1 ha
theorem fQ' (ha : ST X W a mt) : SW X W (.BoolOp .Or [a] pos) mt := pw_or1 ha
theorem n8' (ha : ST X W a mt) (hb : SW X W (.BoolOp .And (b :: rest) pos) mu) : SW X W (.BoolOp .And (a :: b :: rest) pos) (M.qo' mt mu) := PW.imp (pw_and ha hb) fun σ H Q ⟨ρ, F, T, fr, rel, h⟩ => by
  refine g1' rel h fun k ρ1 H1 F1 T1 e1 r1 h1 => ?_
  cases k with
  | true => rw [if_pos rfl] at h1 ⊢; exact ⟨ρ1, F1, T1, fr, r1, h1.mono (fun _ _ z H' F' T' e => z H' F' T' (e1.trans e)) fun _ _ z => z⟩
  | false => rw [if_neg Bool.false_ne_true] at h1 ⊢; exact h1 _ _ _ e1 r1
theorem jm' (ha : ST X W a mt) (hb : SW X W (.BoolOp .Or (b :: rest) pos) mu) : SW X W (.BoolOp .Or (a :: b :: rest) pos) (M.tOr mt mu) := PW.imp (pw_or ha hb) fun σ H Q ⟨ρ, F, T, fr, rel, h⟩ => by
  refine g1' rel h fun k ρ1 H1 F1 T1 e1 r1 h1 => ?_
  cases k with
  | true => rw [if_pos rfl] at h1 ⊢; exact h1 _ _ _ e1 r1
  | false => rw [if_neg Bool.false_ne_true] at h1 ⊢; exact ⟨ρ1, F1, T1, fr, r1, h1.mono (fun _ _ z H' F' T' e => z H' F' T' (e1.trans e)) fun _ _ z => z⟩
theorem oX' (h : SW X W a mt) : ST X W a mt := PW.pt h
theorem ei' (ha : ST X W a mt) : ST X W (.UnaryOp .Not a pos) (M.mm' mt) := PT.imp (pt_not ha) fun σ H Q ⟨ρ, F, T, fr, rel, h⟩ => g1' rel h fun k ρ1 H1 F1 T1 e1 r1 h1 => h1 _ _ _ e1 r1
variable {es : List Expr} {as : M.MA}
theorem ae' : SA X W [] M.aH' := PA.imp pa_nil fun σ H Q ⟨ρ, F, T, fr, rel, h⟩ => h [] H F T .refl .nil rel
theorem aa' (ha : SE X W a ma) (hr : SA X W es as) (hs : starEach (a :: es) X.env = (false, eval a X.env) :: starEach es X.env := by rfl) : SA X W (a :: es) (M.ab' ma as) := PA.imp (pa_cons ha hr hs) fun σ H Q ⟨ρ, F, T, fr, rel, h⟩ => by
  refine aS' rel h fun dx ρ1 v H1 F1 T1 e1 z1 r1 h1 => ?_
  refine cp' r1 h1 fun ds ρ2 vs H2 F2 T2 e2 z2 r2 h2 => ?_
  exact h2 _ _ _ _ (e1.trans e2) (.cons (z1.mono e2) z2) r2
theorem cW' {k} (h : SA X W es as) : SE X W (.Tuple es k pos) (M.jU' as) := PE.imp (pe_tup h) fun σ H Q ⟨ρ, F, T, fr, rel, h⟩ => by
  refine cp' rel h fun ds ρ1 vs H1 F1 T1 e1 z1 r1 h1 => ?_
  split at h1
  . rename_i hl
    refine ⟨by rw [z1.length, bt']; exact hl, fun p hp => ?_⟩
    obtain ⟨fp, f, back⟩ := r1.fp
    have s : Same F1 (upd F1 p (.tup vs)) := cf' (f.free hp)
    exact h1 _ _ _ _ (e1.trans (.of s)) (.tup (SqT.of upd_same) (z1.mono (.of s))) (back _ _ s (f.new hp))
  . exact h1.elim
theorem bd' (h : SA X W es as) : SE X W (.List es pos) (M.cK' as) := PE.imp (pe_lst h) fun σ H Q ⟨ρ, F, T, fr, rel, h⟩ => by
  refine cp' rel h fun ds ρ1 vs H1 F1 T1 e1 z1 r1 h1 => ?_
  split at h1
  . rename_i hl
    refine ⟨by rw [z1.length, bt']; exact hl, fun p hp => ?_⟩
    obtain ⟨fp, f, back⟩ := r1.fp
    have s : Same F1 (upd F1 p (.lst vs)) := cf' (f.free hp)
    exact h1 _ _ _ _ (e1.trans (.of s)) (.lst upd_same (z1.mono (.of s))) (back _ _ s (f.new hp))
  . exact h1.elim
abbrev SP_ (X : Cx) (W : WX) (e : Option Expr) (m : M.MP) : Prop := PO X e (qP X.K W m)
theorem bK' : SP_ X W none M.pNo := PO.imp po_none fun σ H Q ⟨ρ, F, T, fr, rel, h⟩ => h _ _ _ .refl rel
theorem bJ' (ha : SE X W a ma) : SP_ X W (some a) (M.pSo ma) := PO.imp (po_some ha) fun σ H Q ⟨ρ, F, T, fr, rel, h⟩ => by
  refine aS' rel h fun dx ρ1 v H1 F1 T1 e1 z1 r1 h1 => ?_
  split at h1
  . exact ⟨_, z1.int_inv, h1 _ _ _ e1 r1⟩
  . exact h1.elim
theorem bL' {r : V -> Option Int -> Option Int -> Hp -> VK -> Prop} {lo hi : Option Expr} {ml mh : M.MP} {p2 : Pos} (ho : SlR X r) (hf : vn' X.K r) (ha : SE X W a ma) (hl : SP_ X W lo ml) (hh : SP_ X W hi mh) : SE X W (.Subscript a (.Slice lo hi none p2) pos) (M.eSl ma ml mh) :=
  PE.imp (pe_slice ho ha hl hh) fun σ H Q ⟨ρ, F, T, fr, rel, h⟩ => by
    refine aS' rel h fun dx ρ1 v H1 F1 T1 e1 z1 r1 h1 => ?_
    refine ls' r1 h1 fun l ρ2 H2 F2 T2 e2 r2 h2 => ?_
    refine ls' r2 h2 fun u ρ3 H3 F3 T3 e3 r3 h3 => ?_
    obtain ⟨dz, ez, q⟩ := a0'.ofO h3
    obtain ⟨fp, f3, back⟩ := r3.fp
    exact hf f3 ((z1.mono e2).mono e3) ez fun v' H4 F4 s zz f4 => q v' H4 F4 T3 (e1.trans (e2.trans (e3.trans (.of s)))) zz (back H4 F4 s f4)
end
end S
namespace S
open PySem PySem.Spec PyProof.Rows L2
variable [Wd]
section
variable (K : PySem.W.Frag) (H : Hp)
mutual
inductive NkV : V -> NestedKey -> Prop
  | non : NkV .non .none
  | bl (b : Bool) : NkV (.bl b) (.num (if b = true then 1 else 0))
  | int (i : Int) : NkV (.int i) (.num i)
  | str (x : Str) : NkV (.str x) (.text x)
  | tup {a : Addr} {vs : List V} {ks : List NestedKey} : SqT K H a vs -> NkVs vs ks -> NkV (.ref a) (.tup ks)
inductive NkVs : List V -> List NestedKey -> Prop
  | nil : NkVs [] []
  | cons {v : V} {vs : List V} {k : NestedKey} {ks : List NestedKey} : NkV v k -> NkVs vs ks -> NkVs (v :: vs) (k :: ks)
end
end
section
variable {X : Cx} {pins : List (Addr × Obj)} {σ : St} {H : Hp} {s : Shared}
mutual
theorem NkV.is (I : Inv X pins σ H s) : ∀ {v : V} {k : NestedKey} {u : Value}, NkV X.K H v k -> RelV v u -> NestedIs s.heap k u
  | _, _, _, .non, r => by cases (show _ = Value.none from r); exact .none
  | _, _, _, .bl b, r => by cases (show _ = Value.bool b from r); exact .bool rfl
  | _, _, _, .int i, r => by obtain ⟨t, e⟩ := (show ∃ t, _ = Value.int i t from r); subst e; exact .int i t
  | _, _, _, .str x, r => by obtain ⟨t, e⟩ := (show ∃ t, _ = Value.str x t from r); subst e; exact .text x t
  | _, _, _, .tup (a := a) h q, r => by
    cases (show _ = Value.ref a from r)
    obtain ⟨its, rv, ⟨o, h1, h2, n, h3⟩, _⟩ := I.tuple h
    exact .tup h1 h2 h3 (NkVs.is I q rv)
theorem NkVs.is (I : Inv X pins σ H s) : ∀ {v : List V} {k : List NestedKey} {u : List Value}, NkVs X.K H v k -> Vals v u -> NestedAll s.heap k u
  | _, _, _, .nil, r => by cases r; exact .nil
  | _, _, _, .cons a q, r => by
    cases r with
    | cons ra rq => exact .cons (NkV.is I a ra) (NkVs.is I q rq)
end
end
section
variable {K : PySem.W.Frag} {F H : Hp} {T : List Addr}
mutual
theorem Fz.nk (s : Same F H) : ∀ {v : V} {d : M.D}, Fz K F T v d -> M.kat d = true -> NkV K H v (nk d)
  | _, _, .non, _ => .non
  | _, _, .bl b, _ => .bl b
  | _, _, .int i, _ => .int i
  | _, _, .str h, _ => .str _
  | _, _, .tup h r, e => .tup (seqT s h) (FzA.nk s r e)
  | _, _, .lst h r, e => by cases e
  | _, _, .dct h _ r, e => by cases e
  | _, _, .dcl h k r, e => by cases e
  | _, _, .dcn h k q r, e => by cases e
  | _, _, .rep d, e => by cases e
  | _, _, .obj h, e => by cases e
  | _, _, .ty n, e => by cases e
  | _, _, .fn x, e => by cases e
  | _, _, .scr h r, e => by cases e
theorem FzA.nk (s : Same F H) : ∀ {vs : List V} {ds : List M.D}, FzA K F T vs ds -> M.kats ds = true -> NkVs K H vs (nks ds)
  | _, _, .nil, _ => .nil
  | _, _, .cons h r, e => by
    obtain ⟨e1, e2⟩ := Bool.and_eq_true_iff.mp (show (M.kat _ && M.kats _) = true from e)
    exact .cons (Fz.nk s h e1) (FzA.nk s r e2)
end
def lfV : V -> Option Leaf
  | .non => some .none
  | .bl b => some (.num (if b = true then 1 else 0))
  | .int i => some (.num i)
  | .str x => some (.text x)
  | _ => none
end
section
variable {κ : Type} [DecidableEq κ]
end
abbrev xsV (xs : List (NestedKey × Addr × V)) : List (NestedKey × V) := xs.map fun x => (x.1, x.2.2)
def to' (K : PySem.W.Frag) (H : Hp) (xs : List (NestedKey × Addr × V)) : Prop := ∀ x ∈ xs, NkV K H (.ref x.2.1) x.1 /\ x.1.depth <= 8
inductive DLk (K : PySem.W.Frag) (H : Hp) (a : Addr) : V -> Option V -> Prop
  | k {kvs : List (Key × V)} (k : Key) : Rd H a (.dK kvs) -> DLk K H a (kV k) (valV kvs k)
  | l {kvs : List (Leaf × V)} {y : V} {l : Leaf} : Rd H a (dcL a kvs) -> lfV y = some l -> DLk K H a y (valV kvs l)
  | n {xs : List (NestedKey × Addr × V)} {b : Addr} {k : NestedKey} : Rd H a (dcN a xs) -> to' K H xs -> NkV K H (.ref b) k -> k.depth <= 8 -> DLk K H a (.ref b) (valV (xsV xs) k)
  | ln {b : Addr} {k : NestedKey} : Rd H a (dcL a []) -> NkV K H (.ref b) k -> k.depth <= 8 -> DLk K H a (.ref b) none
  | nl {y : V} {l : Leaf} : Rd H a (dcN a []) -> lfV y = some l -> DLk K H a y none
section
variable {X : Cx} {pins : List (Addr × Obj)} {σ : St} {H : Hp} {s : Shared} {a b : Addr} {y : V} {u : Value} {ov : Option V} {A : Around} {E : Value -> Shared -> Prop}
theorem ri' {u : HO} (I : Inv X pins σ H s) (h : Rd H a u) : ObjOk X.prog X.w H s.heap a u := by
  rcases h with h | ⟨o, h⟩
  . exact I.hok a _ h
  . exact (show ObjOk X.prog X.w H s.heap a (.frz o u) from I.hok a _ h).2
theorem sb' (hw : X.prog = Wd.P /\ X.w = Wd.w) (I : Inv X pins σ H s) {kvs : List (Leaf × V)} (h : Rd H a (dcL a kvs)) : (a == sysModules) = false /\ kvs.length <= sizeLine /\ ∃ vs, KV kvs vs /\ s.heap.DictOf (leafKind X.prog X.w) a vs := by
  obtain ⟨⟨h1, h2, vs, h3, h4⟩, _⟩ := (show ObjOk X.prog X.w H s.heap a (dcL a kvs) from ri' I h)
  refine ⟨h1, h2, vs, h3, ?_⟩
  rw [<- hw.1, <- hw.2] at h4
  exact h4
def tf' (xs : List (NestedKey × Addr × V)) (k : NestedKey) (b : Addr) (v : V) : List (NestedKey × Addr × V) :=
  if (xs.any fun x => decide (x.1 = k)) = true then xs.map (fun x => if x.1 = k then (x.1, x.2.1, v) else x) else xs ++ [(k, b, v)]
inductive DSt (K : PySem.W.Frag) (H : Hp) (a : Addr) (y v : V) (N : Hp -> Prop) : Prop
  | k {kvs : List (Key × V)} (k : Key) : H a = some (.dK kvs) -> y = kV k -> ((kvs.map (·.1)).Nodup -> (kvs.length <= sizeLine -> (putK kvs k v).length <= sizeLine) /\ N (upd H a (.dK (putK kvs k v)))) -> DSt K H a y v N
  | l {kvs : List (Leaf × V)} {l : Leaf} : H a = some (dcL a kvs) -> lfV y = some l -> ((kvs.map (·.1)).Nodup -> (kvs.length <= sizeLine -> (putK kvs l v).length <= sizeLine) /\ N (upd H a (dcL a (putK kvs l v)))) -> DSt K H a y v N
  | n {xs : List (NestedKey × Addr × V)} {b : Addr} {k : NestedKey} : H a = some (dcN a xs) -> to' K H xs -> y = .ref b -> NkV K H (.ref b) k -> k.depth <= 8 -> ((xs.map (·.1)).Nodup -> (xs.length <= sizeLine -> (tf' xs k b v).length <= sizeLine) /\ N (upd H a (dcN a (tf' xs k b v)))) -> DSt K H a y v N
  | ln {b : Addr} {k : NestedKey} : H a = some (dcL a []) -> y = .ref b -> NkV K H (.ref b) k -> k.depth <= 8 -> N (upd H a (dcN a [(k, b, v)])) -> DSt K H a y v N
  | nl {l : Leaf} : H a = some (dcN a []) -> lfV y = some l -> N (upd H a (dcL a [(l, v)])) -> DSt K H a y v N
def rn' (K : PySem.W.Frag) : List V -> Hp -> VK -> Prop := fun xs H Q => ro' K xs H Q \/ (∃ a kvs, xs = [V.ref a] /\ Rd H a (dcL a kvs) /\ Q (.int kvs.length) H) \/ ∃ a ys, xs = [V.ref a] /\ Rd H a (dcN a ys) /\ Q (.int ys.length) H
theorem ak' (hw : X.prog = Wd.P /\ X.w = Wd.w) : CallR X (.builtin "len") (rn' X.K) := by
  intro pins s σ H vs us Q I r h
  rcases h with h | ⟨a, kvs, rfl, e, q⟩ | ⟨a, xs, rfl, e, q⟩
  . exact l6' pins s σ H vs us Q I r h
  . cases r with
    | cons ra rn =>
      cases rn
      cases (show _ = Value.ref a from ra)
      obtain ⟨hd, z, ws, rel, dd⟩ := sb' hw I e
      refine call_len_dict hd dd (by rw [<- rel.length]; rw [sizeLine_eq] at z; omega) ?_
      rw [<- rel.length]
      exact ⟨.int kvs.length, H, I.tok _, ⟨_, rfl⟩, q⟩
  . cases r with
    | cons ra rn =>
      cases rn
      cases (show _ = Value.ref a from ra)
      obtain ⟨⟨hd, z, _, ys, rel, o, es, ep, g1, g2, g3, g4⟩, _⟩ := (show ObjOk X.prog X.w H s.heap a (dcN a xs) from ri' I e)
      have hl : es.size = xs.length := by
        have := congrArg List.length g4
        rw [List.length_map, <- Paired.length rel, Array.length_toList] at this
        exact this
      refine PyProof.Rows.call_len_slot (n := es.size) (show s.TypeIs (.ref a) "dict" from ⟨o, g1, g2.1⟩) PySem.F.slot_dict_len (fun Q' hq => call_len_raw hd ⟨o, g1, g2, g3⟩ hq) (by omega) (by rw [sizeLine_eq] at z; omega) ?_
      rw [hl]
      exact ⟨.int xs.length, H, I.tok _, ⟨_, rfl⟩, q⟩
end
end S
namespace S
open PySem PySem.Spec PyProof.Rows L2
variable [Wd] [Hot]
section
variable (K : PySem.W.Frag)
def Bi1 (f : M.D -> Option M.D) (r : List V -> Hp -> VK -> Prop) : Prop := ∀ {F H : Hp} {T : List Addr} {fp : Fp} {x : V} {dx dz : M.D} {Q : VK}, FpH F H fp -> Fz K F T x dx -> f dx = some dz -> d0' K F T fp dz Q -> r [x] H Q
def Bi2 (f : M.D -> M.D -> Option M.D) (r : List V -> Hp -> VK -> Prop) : Prop := ∀ {F H : Hp} {T : List Addr} {fp : Fp} {x y : V} {dx dy dz : M.D} {Q : VK}, FpH F H fp -> Fz K F T x dx -> Fz K F T y dy -> f dx dy = some dz -> d0' K F T fp dz Q -> r [x, y] H Q
end
section
variable {X : Cx} {W : WX} {K : PySem.W.Frag} {pos p : Pos} {x : Str} {id : String} {a b : Expr} {ma mb : M.ME} {σ : St} {H : Hp} {Q : VK} {r : List V -> Hp -> VK -> Prop}
theorem mc' {f : M.D -> Option M.D} (hf : Bi1 K f r) (h : qE K W (M.eUn f ma) σ H Q) : tCB r (tCons (qE K W ma) tNil) σ H Q := by
  obtain ⟨ρ, F, T, fr, rel, h⟩ := h
  refine aS' rel h fun dx ρ1 v H1 F1 T1 e1 z1 r1 h1 => ?_
  obtain ⟨dz, ez, q⟩ := a0'.ofO h1
  obtain ⟨fp, f2, back⟩ := r1.fp
  exact hf f2 z1 ez fun v' H3 F3 s zz f3 => q v' H3 F3 T1 (e1.trans (.of s)) zz (back H3 F3 s f3)
theorem qk' {f : M.D -> M.D -> Option M.D} (hf : Bi2 K f r) (h : qE K W (M.eOp f ma mb) σ H Q) : tCB r (tCons (qE K W ma) (tCons (qE K W mb) tNil)) σ H Q := by
  obtain ⟨ρ, F, T, fr, rel, h⟩ := h
  refine aS' rel h fun dx ρ1 v H1 F1 T1 e1 z1 r1 h1 => ?_
  refine aS' r1 h1 fun dy ρ2 u H2 F2 T2 e2 z2 r2 h2 => ?_
  obtain ⟨dz, ez, q⟩ := a0'.ofO h2
  obtain ⟨fp, f2, back⟩ := r2.fp
  exact hf f2 (z1.mono e2) z2 ez fun v' H3 F3 s zz f3 => q v' H3 F3 T2 (e1.trans (e2.trans (.of s))) zz (back H3 F3 s f3)
theorem bc' {f : M.D -> Option M.D} (hc : CallR X (.builtin id) r) (hf : Bi1 X.K f r) (hg : Gl X x) (hm : X.mg x = none) (hv : bootBuiltins x = some (.builtin id)) (ha : SE X W a ma) (hn : x ≠ "__name__" := by decide) (hdb : (x == ("__debug__" : Str)) = false := by decide)
    (he : starEach [a] X.env = (false, eval a X.env) :: starEach [] X.env := by rfl) (hpl : (backTo pos (starEach [] X.env)).any (·.1) = false := by rfl) : SE X W (.Call (.Name x p) [a] [] pos) (M.eUn f ma) := PE.imp (pe_callB hc hg hm hv (pa_cons ha pa_nil he) hn hdb he hpl) fun _ _ _ => mc' hf
theorem cN' {f : M.D -> Option M.D} (hc : CallR X (.type id) r) (hf : Bi1 X.K f r) (hg : Gl X x) (hm : X.mg x = none) (hv : bootBuiltins x = some (.type id)) (ha : SE X W a ma) (hn : x ≠ "__name__" := by decide) (hdb : (x == ("__debug__" : Str)) = false := by decide)
    (he : starEach [a] X.env = (false, eval a X.env) :: starEach [] X.env := by rfl) (hpl : (backTo pos (starEach [] X.env)).any (·.1) = false := by rfl) : SE X W (.Call (.Name x p) [a] [] pos) (M.eUn f ma) := PE.imp (pe_callTy hc hg hm hv (pa_cons ha pa_nil he) hn hdb he hpl) fun _ _ _ => mc' hf
theorem ra' {f : M.D -> M.D -> Option M.D} (hc : CallR X (.builtin id) r) (hf : Bi2 X.K f r) (hg : Gl X x) (hm : X.mg x = none) (hv : bootBuiltins x = some (.builtin id)) (ha : SE X W a ma) (hb : SE X W b mb) (hn : x ≠ "__name__" := by decide) (hdb : (x == ("__debug__" : Str)) = false := by decide)
    (he : starEach [a, b] X.env = (false, eval a X.env) :: starEach [b] X.env := by rfl) (he2 : starEach [b] X.env = (false, eval b X.env) :: starEach [] X.env := by rfl) (hpl : (backTo pos (starEach [b] X.env)).any (·.1) = false := by rfl) : SE X W (.Call (.Name x p) [a, b] [] pos) (M.eOp f ma mb) := PE.imp (pe_callB hc hg hm hv (pa_cons ha (pa_cons hb pa_nil he2) he) hn hdb he hpl) fun _ _ _ => qk' hf
theorem rj' {F H : Hp} {a : Addr} {u : HO} (s : Same F H) (h : Rd F a u) : Rd H a u := h.imp (s _ _) fun ⟨o, h⟩ => ⟨o, s _ _ h⟩
theorem bl' : Bi1 K M.bN' (rn' K) := by
  intro F H T fp x dx dz Q f hx h k
  by_cases hX : ∃ ks vs, dx = .dcx ks vs
  . obtain ⟨ks, vs, rfl⟩ := hX
    cases h
    cases hx with
    | @dcl a kvs _ _ e ke z =>
      have q : kvs.length = ks.length := by have := congrArg List.length ke.e; simpa using this
      refine .inr (.inl ⟨_, _, rfl, e.imp (f.low _ _) fun ⟨o, h⟩ => ⟨o, f.low _ _ h⟩, ?_⟩)
      rw [q]
      exact k.here f (.int _)
    | @dcn a xs _ _ e ke z1 z2 =>
      have q : xs.length = ks.length := by have := congrArg List.length ke.e; simpa using this
      refine .inr (.inr ⟨_, _, rfl, e.imp (f.low _ _) fun ⟨o, h⟩ => ⟨o, f.low _ _ h⟩, ?_⟩)
      rw [q]
      exact k.here f (.int _)
  refine .inl ?_
  cases dx <;> try (cases h; done)
  . obtain ⟨rfl, o1⟩ := hx.str_inv
    cases h
    refine .inl ⟨_, rfl, o1.len, ?_⟩
    rw [bF']
    exact k.here f (.int _)
  . obtain ⟨a, vs, rfl, ha, za⟩ := hx.tup_inv
    cases h
    refine .inr (.inl ⟨a, vs, rfl, .inr (seqT f.low ha), ?_⟩)
    rw [za.length]
    exact k.here f (.int _)
  . obtain ⟨a, vs, rfl, ha, za⟩ := hx.lst_inv
    cases h
    refine .inr (.inl ⟨a, vs, rfl, .inl (SqL.of (f.low _ _ ha)), ?_⟩)
    rw [za.length]
    exact k.here f (.int _)
  . cases hx with
    | dct ha _ za =>
      cases h
      refine .inr (.inr ⟨_, _, rfl, rj' f.low ha, ?_⟩)
      refine k.here f ?_
      rw [List.length_map]
      exact .int _
  . exact absurd ⟨_, _, rfl⟩ hX
theorem gJ' {F : Hp} {T : List Addr} : ∀ {vs : List V} {ds : List M.D} {bs : List Bool}, FzA K F T vs ds -> M.bools ds = some bs -> vs = bs.map V.bl
  | _, _, bs, .nil, h => by cases h; rfl
  | _, d :: ds, bs, .cons a r, h => by
    cases d <;> try (cases h; done)
    rename_i b
    cases q : M.bools ds with
    | none => simp only [M.bools, q] at h; cases h
    | some cs =>
      simp only [M.bools, q, Option.map_some] at h
      cases h
      rw [a.bl_inv, gJ' r q]
      rfl
theorem u1' : Bi1 K M.qs' (rAll K) := by
  intro F H T fp x dx dz Q f hx h k
  cases dx <;> try (cases h; done)
  obtain ⟨a, vs, rfl, ha, za⟩ := hx.lst_inv
  rename_i ds
  cases q : M.bools ds with
  | none => simp only [M.qs', q] at h; cases h
  | some bs =>
    simp only [M.qs', q, Option.map_some] at h
    cases h
    exact ⟨a, bs, rfl, by rw [<- gJ' za q]; exact SqL.of (f.low _ _ ha), k.here f (.bl _)⟩
theorem gI' : Bi1 K M.jp' rq' := by
  intro F H T fp x dx dz Q f hx h k
  cases dx <;> try (cases h; done)
  . cases hx; cases h
    exact .inr ⟨_, rfl, k.here f (.int _)⟩
  . cases hx; cases h
    exact .inl ⟨_, rfl, k.here f (.int _)⟩
theorem u2' : Bi1 K M.ti' rs' := by
  intro F H T fp x dx dz Q f hx h k
  cases dx <;> try (cases h; done)
  cases hx; cases h
  exact ⟨_, rfl, k.here f (.int _)⟩
theorem oD' : Bi2 K M.lv' rm' := by
  intro F H T fp x y dx dy dz Q f hx hy h k
  cases dx <;> cases dy <;> try (cases h; done)
  cases hx; cases hy; cases h
  exact ⟨_, _, rfl, k.here f (.int _)⟩
theorem mO' {s : M.Tx} : signs (sx s) = s.map chv := by
  unfold signs
  show (s.toArray.toList.map fun c => V.str ⟨#[c]⟩) = _
  simp
  intro a _
  rfl
theorem FzA.signs {K : PySem.W.Frag} {F : Hp} {T : List Addr} {s : M.Tx} (o : okT s) : FzA K F T (S.signs (sx s)) (s.map M.chD) := by
  rw [mO']
  exact FzA.chars o.1
theorem l8' : Bi1 K M.ck' (ll' K) := by
  intro F H T fp x dx dz Q f hx h k
  cases dx <;> try (cases h; done)
  . obtain ⟨rfl, o⟩ := hx.str_inv
    cases h
    exact .inr ⟨_, rfl, o.len, fun l hl => k.newT f (FzA.signs o) hl⟩
  . obtain ⟨a, vs, rfl, ha, za⟩ := hx.tup_inv
    cases h
    exact .inl ⟨a, vs, rfl, .inr ⟨seqT f.low ha, k.here f (.tup ha za)⟩⟩
  . obtain ⟨a, vs, rfl, ha, za⟩ := hx.lst_inv
    cases h
    exact .inl ⟨a, vs, rfl, .inl ⟨SqL.of (f.low _ _ ha), fun l hl => k.newT f za hl⟩⟩
theorem l9' : Bi1 K M.cx' (oi' K) := by
  intro F H T fp x dx dz Q f hx h k
  cases dx <;> try (cases h; done)
  . obtain ⟨rfl, o⟩ := hx.str_inv
    cases h
    exact .inr ⟨_, rfl, o.len, fun l hl => k.newL f (FzA.signs o) hl⟩
  . obtain ⟨a, vs, rfl, ha, za⟩ := hx.tup_inv
    cases h
    exact .inl ⟨a, vs, rfl, .inr (seqT f.low ha), fun l hl => k.newL f za hl⟩
  . obtain ⟨a, vs, rfl, ha, za⟩ := hx.lst_inv
    cases h
    exact .inl ⟨a, vs, rfl, .inl (SqL.of (f.low _ _ ha)), fun l hl => k.newL f za hl⟩
theorem qY' {F H : Hp} {T : List Addr} {v : V} {d : M.D} {n : String} (s : Same F H) (h : Fz K F T v d) (e : M.tyn d = some n) : TyX K H v (.type n) := by
  cases h with
  | non => cases e; exact .base .non
  | bl b => cases e; exact .base (.bl b)
  | int i => cases e; exact .base (.int i)
  | str z => cases e; exact .base (.str _)
  | lst h1 _ => cases e; exact tyL (SqL.of (s _ _ h1))
  | tup h1 _ => cases e; exact tyT (seqT s h1)
  | dct h1 _ _ =>
    cases e
    rcases h1 with h1 | ⟨o, h1⟩
    . exact .base (.dK (s _ _ h1))
    . exact .fDict (s _ _ h1)
  | dcl _ _ _ => cases e
  | dcn _ _ _ _ => cases e
  | rep _ => cases e
  | obj _ => cases e
  | ty _ => cases e
  | fn _ => cases e
  | scr _ _ => cases e
theorem py' : ∀ n ∈ ["NoneType", "bool", "int", "str", "tuple", "list", "dict"], ∀ t ∈ ["bool", "int", "str", "tuple", "list", "dict"], kitB n t = some (n == t || (n == "bool" && t == "int")) := by decide +kernel
theorem oT' {d : M.D} {n : String} (e : M.tyn d = some n) : n ∈ ["NoneType", "bool", "int", "str", "tuple", "list", "dict"] := by
  cases d <;> first | (cases e; done) | (cases e; decide)
def gP' (K : PySem.W.Frag) (J : It) (ds : List M.D) (F : Hp) (T : List Addr) : Prop := ∀ F' T' H' fp i, Ext F T F' T' -> FpH F' H' fp -> i <= ds.length →
  (i = ds.length -> J.stop i H') /\ ∀ d, ds[i]? = some d -> J.go i H' /\ ∀ x H2, J.yld i H' x H2 -> ∃ F2, Same F' F2 /\ Fz K F2 T' x d /\ FpH F2 H2 fp
theorem gP'.mono {J : It} {ds : List M.D} {F F' : Hp} {T T' : List Addr} (h : gP' K J ds F T) (e : Ext F T F' T') : gP' K J ds F' T' := fun F2 T2 H2 fp i e2 => h F2 T2 H2 fp i (e.trans e2)
def qI (K : PySem.W.Frag) (W : WX) (m : M.MI) : TI := fun σ H R => ∃ ρ F T fr, Rel K ρ σ H F T fr ∧
  a0' (m ρ) (fun ds ρ' => ∀ J H' F' T', Ext F T F' T' -> gP' K J ds F' T' -> Rel K ρ' σ H' F' T' fr -> R J H') (EX K W σ F T fr)
abbrev SI (X : Cx) (W : WX) (tg e : Expr) (m : M.MI) : Prop := PI X tg e (qI X.K W m)
theorem PI.imp {tg e : Expr} {t t' : TI} (h : PI X tg e t) (i : ∀ σ H Q, t' σ H Q -> t σ H Q) : PI X tg e t' := ⟨fun pins s σ H Q I q => h.run pins s σ H Q I (i σ H Q q)⟩
theorem pF' {a : Addr} {vs : List V} {ds : List M.D} {F : Hp} {T : List Addr} (ha : F a = some (.lst vs)) (z : FzA K F T vs ds) : gP' K (Itl K a) ds F T := fun F' T' H' fp i e f hi => by
  have h' : SqL K H' a vs := SqL.of (f.low _ _ (e.f.lst ha))
  refine ⟨fun q => ⟨vs, h', by rw [z.length]; omega⟩, fun d hd => ?_⟩
  obtain ⟨v, h1, h2⟩ := z.get hd
  refine ⟨⟨vs, v, h', h1⟩, fun x H2 y => ?_⟩
  obtain ⟨rfl, y⟩ := y
  have := y vs h'
  rw [h1] at this
  cases this
  exact ⟨F', fun _ _ e => e, h2.mono e, f⟩
theorem rS' {a : Addr} {vs : List V} {ds : List M.D} {F : Hp} {T : List Addr} (ha : SqT K F a vs) (z : FzA K F T vs ds) : gP' K (Itt K a) ds F T := fun F' T' H' fp i e f hi => by
  have h' : SqT K H' a vs := seqT f.low (e.f.seqT ha)
  refine ⟨fun q => ⟨vs, h', by rw [z.length]; omega⟩, fun d hd => ?_⟩
  obtain ⟨v, h1, h2⟩ := z.get hd
  refine ⟨⟨vs, v, h', h1⟩, fun x H2 y => ?_⟩
  obtain ⟨rfl, y⟩ := y
  have := y vs h'
  rw [h1] at this
  cases this
  exact ⟨F', fun _ _ e => e, h2.mono e, f⟩
theorem q0' (s : M.Tx) (i : Nat) : (sx s).cps[i]? = s[i]? := by simp [sx]
theorem rT' {s : M.Tx} {F : Hp} {T : List Addr} (o : okT s) : gP' K (Its (sx s)) (s.map M.chD) F T := fun F' T' H' fp i e f hi => by
  have el : (sx s).cps.size = s.length := bF' s
  rw [List.length_map] at hi ⊢
  refine ⟨fun q => by show (sx s).cps.size <= i; omega, fun d hd => ?_⟩
  rw [List.getElem?_map] at hd
  cases q : s[i]? with
  | none => rw [q] at hd; cases hd
  | some c =>
    rw [q] at hd
    cases hd
    refine ⟨by show i < (sx s).cps.size; have := (List.getElem?_eq_some_iff.mp q).1; omega, fun x H2 y => ?_⟩
    obtain ⟨rfl, c', h1, rfl⟩ := y
    rw [q0', q] at h1
    cases h1
    exact ⟨F', fun _ _ e => e, jD' (o.1 c (List.mem_of_getElem? q)), f⟩
theorem ou' {lo : Int} {n : Nat} {F : Hp} {T : List Addr} : gP' K (Itr lo n) (M.rgI lo n) F T := fun F' T' H' fp i e f hi => by
  unfold M.rgI at hi ⊢
  rw [List.length_map, List.length_range] at hi ⊢
  refine ⟨fun q => by show n <= i; omega, fun d hd => ?_⟩
  rw [List.getElem?_map] at hd
  by_cases h : i < n
  . rw [List.getElem?_range h] at hd
    cases hd
    refine ⟨h, fun x H2 y => ?_⟩
    obtain ⟨rfl, rfl⟩ := y
    exact ⟨F', fun _ _ e => e, .int _, f⟩
  . rw [List.getElem?_eq_none (by rw [List.length_range]; omega)] at hd
    cases hd
theorem rv' {tg e : Expr} {te : TE} (h : PE X e te) : PI X tg e (fun σ H R => iStr te σ H R \/ iList X.K te σ H R \/ iTup X.K te σ H R) := mX' (pi_str h) (mX' (pi_list h) (pi_tup h))
theorem pa' {m : M.ME} {ρ ρ1 : M.PSt} {F : Hp} {T : List Addr} {fr : Fp} {d : M.D} (rel : Rel K ρ σ H F T fr) (em : m ρ = .ok d ρ1) (h : ∀ v H' F' T', Ext F T F' T' -> Fz K F' T' v d -> Rel K ρ1 σ H' F' T' fr -> Q v H') : qE K W m σ H Q :=
  ⟨ρ, F, T, fr, rel, by rw [em]; exact h⟩
theorem cu' {tg : Expr} (h : SE X W a ma) : SI X W tg a (M.jC' ma) := PI.imp (rv' h) fun σ H R ⟨ρ, F, T, fr, rel, q⟩ => by
  have q2 := a0'.bind q
  cases em : ma ρ with
  | bad => rw [em] at q2; exact q2.elim
  | exc x ρ1 =>
    rw [em] at q2
    exact .inl ⟨ρ, F, T, fr, rel, by rw [em]; exact q2⟩
  | ok d ρ1 =>
    rw [em] at q2
    obtain ⟨ds, e1, q3⟩ := a0'.ofO (show a0' _ _ _ from q2)
    cases d <;> try (cases e1; done)
    . cases e1
      refine .inl (pa' rel em fun v H' F' T' e z r => ?_)
      obtain ⟨rfl, o⟩ := z.str_inv
      exact ⟨_, rfl, q3 _ _ _ _ e (rT' o) r⟩
    . cases e1
      refine .inr (.inr (pa' rel em fun v H' F' T' e z r => ?_))
      obtain ⟨p, vs, rfl, ha, za⟩ := z.tup_inv
      obtain ⟨fp, f, _⟩ := r.fp
      exact ⟨p, rfl, ⟨vs, seqT f.low ha⟩, q3 _ _ _ _ e (rS' ha za) r⟩
    . cases e1
      refine .inr (.inl (pa' rel em fun v H' F' T' e z r => ?_))
      obtain ⟨p, vs, rfl, ha, za⟩ := z.lst_inv
      obtain ⟨fp, f, _⟩ := r.fp
      exact ⟨p, rfl, ⟨vs, SqL.of (f.low _ _ ha)⟩, q3 _ _ _ _ e (pF' ha za) r⟩
theorem qi' {i : Int} (h : M.mq' i = true) : -(2 ^ 62) <= i /\ i < 2 ^ 62 := by
  unfold M.mq' at h
  simpa [Bool.and_eq_true] using h
theorem bA' {tg : Expr} (hg : Gl X "range") (hm : X.mg "range" = none) (ha : SE X W a ma) (hs : starEach [a] X.env = [(false, eval a X.env)] := by rfl) : SI X W tg (.Call (.Name "range" p) [a] [] pos) (M.bD' ma) :=
  PI.imp (pi_range1 hg hm (pa_cons ha pa_nil hs) hs) fun σ H R ⟨ρ, F, T, fr, rel, q⟩ => by
    refine aS' rel q fun dx ρ1 v H1 F1 T1 e1 z1 r1 h1 => ?_
    obtain ⟨ds, e2, q2⟩ := a0'.ofO h1
    unfold M.cQ' at e2
    split at e2
    . split at e2
      . rename_i hb
        cases e2
        cases z1
        obtain ⟨b1, b2⟩ := qi' hb
        exact ⟨_, rfl, b1, b2, q2 _ _ _ _ e1 ou' r1⟩
      . cases e2
    . cases e2
theorem k6' {tg : Expr} (hg : Gl X "range") (hm : X.mg "range" = none) (ha : SE X W a ma) (hb : SE X W b mb) (hs : starEach [a, b] X.env = [(false, eval a X.env), (false, eval b X.env)] := by rfl) (hs2 : starEach [b] X.env = [(false, eval b X.env)] := by rfl) :
    SI X W tg (.Call (.Name "range" p) [a, b] [] pos) (M.dI' ma mb) :=
  PI.imp (pi_range2 hg hm (pa_cons ha (pa_cons hb pa_nil hs2) (hs.trans (by rw [hs2]))) hs hs2) fun σ H R ⟨ρ, F, T, fr, rel, q⟩ => by
    refine aS' rel q fun dx ρ1 v H1 F1 T1 e1 z1 r1 h1 => ?_
    refine aS' r1 h1 fun dy ρ2 u H2 F2 T2 e2 z2 r2 h2 => ?_
    obtain ⟨ds, e3, q2⟩ := a0'.ofO h2
    unfold M.cP' at e3
    split at e3
    . split at e3
      . rename_i hb
        cases e3
        cases z1
        cases z2
        obtain ⟨b1, b2⟩ := qi' hb.1
        obtain ⟨b3, b4⟩ := qi' hb.2
        exact ⟨_, _, rfl, ⟨b1, b2, b3, b4⟩, q2 _ _ _ _ (e1.trans e2) ou' r2⟩
      . cases e3
    . cases e3
theorem hE' : ∀ (a b : List M.D), (M.ce' a b).length = min a.length b.length
  | [], _ => by simp [M.ce']
  | _ :: _, [] => by simp [M.ce']
  | x :: a, y :: b => by
    show (M.ce' a b).length + 1 = _
    rw [hE' a b]
    simp only [List.length_cons]
    omega
theorem hF' : ∀ (a b : List M.D) (i : Nat) (d : M.D), (M.ce' a b)[i]? = some d -> ∃ x y, a[i]? = some x /\ b[i]? = some y /\ d = .tup [x, y]
  | [], _, i, d, h => by simp [M.ce'] at h
  | _ :: _, [], i, d, h => by simp [M.ce'] at h
  | x :: a, y :: b, 0, d, h => ⟨x, y, rfl, rfl, (Option.some.inj h).symm⟩
  | x :: a, y :: b, i + 1, d, h => hF' a b i d h
theorem hb' {J : It} {as bs : List M.D} {F : Hp} {T : List Addr} (hs : ∀ F' T' H' fp i, Ext F T F' T' -> FpH F' H' fp -> i = min as.length bs.length -> J.stop i H')
    (hy : ∀ F' T' H' fp i dx dy, Ext F T F' T' -> FpH F' H' fp -> as[i]? = some dx -> bs[i]? = some dy -> J.go i H' /\ ∀ v H2, J.yld i H' v H2 -> ∃ p x y, v = .ref p /\ H' p = none /\ H2 = upd H' p (.tup [x, y]) /\ Fz K F' T' x dx /\ Fz K F' T' y dy) : gP' K J (M.ce' as bs) F T := fun F' T' H' fp i e f hi => by
  rw [hE'] at hi ⊢
  refine ⟨fun q => hs F' T' H' fp i e f q, fun d hd => ?_⟩
  obtain ⟨dx, dy, h1, h2, rfl⟩ := hF' _ _ _ _ hd
  obtain ⟨g, y⟩ := hy F' T' H' fp i dx dy e f h1 h2
  refine ⟨g, fun v H2 q => ?_⟩
  obtain ⟨p, x, y', rfl, hp, rfl, zx, zy⟩ := y v H2 q
  have s : Same F' (upd F' p (.tup [x, y'])) := cf' (f.free hp)
  exact ⟨_, s, .tup (SqT.of upd_same) (.cons (zx.mono (.of s)) (.cons (zy.mono (.of s)) .nil)), f.new hp⟩
theorem pD' {s t : M.Tx} {F : Hp} {T : List Addr} (o : okT s) (o2 : okT t) : gP' K (ItP (chS (sx s)) (chS (sx t)) (min (sx s).cps.size (sx t).cps.size)) (M.ce' (s.map M.chD) (t.map M.chD)) F T := by
  have e1 : (sx s).cps.size = s.length := bF' s
  have e2 : (sx t).cps.size = t.length := bF' t
  refine hb' (fun F' T' H' fp i e f hi => ?_) fun F' T' H' fp i dx dy e f h1 h2 => ?_
  . rw [List.length_map, List.length_map] at hi
    show i = min (sx s).cps.size (sx t).cps.size
    omega
  . rw [List.getElem?_map] at h1 h2
    cases q1 : s[i]? with
    | none => rw [q1] at h1; cases h1
    | some c =>
      cases q2 : t[i]? with
      | none => rw [q2] at h2; cases h2
      | some d =>
        rw [q1] at h1
        rw [q2] at h2
        cases h1
        cases h2
        have l1 := (List.getElem?_eq_some_iff.mp q1).1
        have l2 := (List.getElem?_eq_some_iff.mp q2).1
        refine ⟨by show i < min (sx s).cps.size (sx t).cps.size; omega, fun v H2 y => ?_⟩
        obtain ⟨p, x, y', rfl, hp, rfl, c1, c2⟩ := y
        unfold chS at c1 c2
        rw [cU', q1] at c1
        rw [cU', q2] at c2
        cases c1
        cases c2
        exact ⟨p, _, _, rfl, hp, rfl, jD' (o.1 c (List.mem_of_getElem? q1)), jD' (o2.1 d (List.mem_of_getElem? q2))⟩
theorem pE' {a b : Addr} {vs ws : List V} {ds es : List M.D} {F : Hp} {T : List Addr} (ha : F a = some (.lst vs)) (z : FzA K F T vs ds) (hb : F b = some (.lst ws)) (z2 : FzA K F T ws es) : gP' K (Itz K a b) (M.ce' ds es) F T := by
  refine hb' (fun F' T' H' fp i e f hi => ?_) fun F' T' H' fp i dx dy e f h1 h2 => ?_
  . exact ⟨vs, ws, SqL.of (f.low _ _ (e.f.lst ha)), SqL.of (f.low _ _ (e.f.lst hb)), by rw [z.length, z2.length]; omega⟩
  . obtain ⟨x, x1, x2⟩ := z.get h1
    obtain ⟨y, y1, y2⟩ := z2.get h2
    have a1 : SqL K H' a vs := SqL.of (f.low _ _ (e.f.lst ha))
    have b1 : SqL K H' b ws := SqL.of (f.low _ _ (e.f.lst hb))
    refine ⟨⟨vs, ws, x, y, a1, b1, x1, y1⟩, fun v H2 q => ?_⟩
    obtain ⟨p, x', y', rfl, hp, rfl, q1, q2⟩ := q
    have := q1 vs a1
    rw [x1] at this
    cases this
    have := q2 ws b1
    rw [y1] at this
    cases this
    exact ⟨p, _, _, rfl, hp, rfl, x2.mono e, y2.mono e⟩
theorem pC' {a b : Addr} {vs ws : List V} {ds es : List M.D} {F : Hp} {T : List Addr} (ha : SqT K F a vs) (z : FzA K F T vs ds) (hb : SqT K F b ws) (z2 : FzA K F T ws es) : gP' K (RZ.ItzT K a b) (M.ce' ds es) F T := by
  refine hb' (fun F' T' H' fp i e f hi => ?_) fun F' T' H' fp i dx dy e f h1 h2 => ?_
  . exact ⟨vs, ws, seqT f.low (e.f.seqT ha), seqT f.low (e.f.seqT hb), by rw [z.length, z2.length]; omega⟩
  . obtain ⟨x, x1, x2⟩ := z.get h1
    obtain ⟨y, y1, y2⟩ := z2.get h2
    have a1 : SqT K H' a vs := seqT f.low (e.f.seqT ha)
    have b1 : SqT K H' b ws := seqT f.low (e.f.seqT hb)
    refine ⟨⟨vs, ws, x, y, a1, b1, x1, y1⟩, fun v H2 q => ?_⟩
    obtain ⟨p, x', y', rfl, hp, rfl, q1, q2⟩ := q
    have := q1 vs a1
    rw [x1] at this
    cases this
    have := q2 ws b1
    rw [y1] at this
    cases this
    exact ⟨p, _, _, rfl, hp, rfl, x2.mono e, y2.mono e⟩
theorem q8' {elts : List Expr} {kk : Nat} {tpos : Pos} (hg : Gl X "zip") (hm : X.mg "zip" = none) (ha : SE X W a ma) (hb : SE X W b mb)
    (hs : starEach [a, b] X.env = (false, eval a X.env) :: starEach [b] X.env := by rfl) (hs2 : starEach [b] X.env = (false, eval b X.env) :: starEach [] X.env := by rfl) (hpl : (backTo pos (starEach [b] X.env)).any (·.1) = false := by rfl) :
    SI X W (.Tuple elts kk tpos) (.Call (.Name "zip" p) [a, b] [] pos) (M.r2' ma mb) :=
  PI.imp (pd' hg hm (pa_cons ha (pa_cons hb pa_nil hs2) hs) hs hpl) fun σ H R ⟨ρ, F, T, fr, rel, q⟩ => by
    -- the kind of both is known ahead
    have fin : ∀ (isS : Bool), (∀ x ρ1, ma ρ = .ok x ρ1 -> ∀ y ρ2, mb ρ1 = .ok y ρ2 -> (isS = true ↔ ∃ s, x = .str s)) -> r0' X.K (tCons (qE X.K W ma) (tCons (qE X.K W mb) tNil)) σ H R := by
      intro isS hS
      have q1 := a0'.bind q
      have body : ∀ (G : List V -> Hp -> Prop), (∀ x y u v H2 F2 T2 ds ρ2, Ext F T F2 T2 -> Fz X.K F2 T2 u x -> Fz X.K F2 T2 v y -> M.ml' x y = some ds -> Rel X.K ρ2 σ H2 F2 T2 fr -> (isS = true ↔ ∃ s, x = .str s) →
          (∀ J H' F' T', Ext F T F' T' -> gP' X.K J ds F' T' -> Rel X.K ρ2 σ H' F' T' fr -> R J H') -> G [u, v] H2) -> tCons (qE X.K W ma) (tCons (qE X.K W mb) tNil) σ H G := by
        intro G hG
        refine ⟨ρ, F, T, fr, rel, ?_⟩
        cases em : ma ρ with
        | bad => rw [em] at q1; exact q1.elim
        | exc x ρ1 => rw [em] at q1; exact q1
        | ok x ρ1 =>
          rw [em] at q1
          have q2 := a0'.bind (show a0' ((mb ρ1).bind _) _ _ from q1)
          intro u H1 F1 T1 e1 z1 r1
          refine ⟨ρ1, F1, T1, fr, r1, ?_⟩
          cases en : mb ρ1 with
          | bad => rw [en] at q2; exact q2.elim
          | exc y ρ2 => rw [en] at q2; exact EX.mono (show EX X.K W σ F T fr y ρ2 from q2) e1
          | ok y ρ2 =>
            rw [en] at q2
            obtain ⟨ds, e3, q3⟩ := a0'.ofO (show a0' (M.ofO _ _) _ _ from q2)
            intro v H2 F2 T2 e2 z2 r2
            exact hG x y u v H2 F2 T2 ds ρ2 (e1.trans e2) (z1.mono e2) z2 e3 r2 (hS x ρ1 em y ρ2 en) q3
      cases isS with
      | true =>
        refine .inl (body _ fun x y u v H2 F2 T2 ds ρ2 e z1 z2 hz r2 hk q3 => ?_)
        obtain ⟨s, rfl⟩ := hk.mp rfl
        cases y <;> try (cases hz; done)
        obtain ⟨rfl, o1⟩ := z1.str_inv
        obtain ⟨rfl, o2⟩ := z2.str_inv
        cases hz
        exact ⟨_, _, rfl, q3 _ _ _ _ e (pD' o1 o2) r2⟩
      | false =>
        refine .inr (body _ fun x y u v H2 F2 T2 ds ρ2 e z1 z2 hz r2 hk q3 => ?_)
        obtain ⟨fp, f, _⟩ := r2.fp
        cases x <;> cases y <;> try (cases hz; done)
        . exact absurd (hk.mpr ⟨_, rfl⟩) Bool.false_ne_true
        . obtain ⟨a1, vs, rfl, ha, za⟩ := z1.tup_inv
          obtain ⟨b1, ws, rfl, hb, zb⟩ := z2.tup_inv
          cases hz
          exact ⟨a1, b1, vs, ws, rfl, .inr ⟨seqT f.low ha, seqT f.low hb, q3 _ _ _ _ e (pC' ha za hb zb) r2⟩⟩
        . obtain ⟨a1, vs, rfl, ha, za⟩ := z1.lst_inv
          obtain ⟨b1, ws, rfl, hb, zb⟩ := z2.lst_inv
          cases hz
          exact ⟨a1, b1, vs, ws, rfl, .inl ⟨SqL.of (f.low _ _ ha), SqL.of (f.low _ _ hb), q3 _ _ _ _ e (pE' ha za hb zb) r2⟩⟩
    cases em : ma ρ with
    | ok x ρ1 =>
      by_cases hx : ∃ s, x = .str s
      . exact fin true fun x' ρ1' e y ρ2 _ => by rw [em] at e; cases e; exact ⟨fun _ => hx, fun _ => rfl⟩
      . exact fin false fun x' ρ1' e y ρ2 _ => by rw [em] at e; cases e; exact ⟨fun z => (nomatch z), fun z => absurd z hx⟩
    | exc x ρ1 => exact fin true fun x' ρ1' e => by rw [em] at e; cases e
    | bad => exact fin true fun x' ρ1' e => by rw [em] at e; cases e
end
end S
namespace S
open PySem PySem.Spec PyProof.Rows L2
variable [Wd] [Hot]
section
variable {K : PySem.W.Frag} {F F' H H' : Hp} {T T' : List Addr} {fp fq fr : Fp} {ρ : M.PSt} {σ : St} {W : WX}
theorem dg' {i : Nat} {x : Option V} : ∀ (is : List Nat) (σ : St), (wipe (σ.set i x) is).set i none = (wipe σ is).set i none
  | [], σ => by show (σ.set i x).set i none = σ.set i none; rw [List.set_set]
  | k :: is, σ => by
    show ((wipe (σ.set i x) is).set k none).set i none = ((wipe σ is).set k none).set i none
    by_cases h : k = i
    . subst h
      rw [List.set_set, List.set_set, dg' is σ]
    . rw [List.set_comm _ _ h, dg' is σ, List.set_comm _ _ h]
theorem FzA.cons_inv {vs : List V} {d : M.D} {ds : List M.D} (h : FzA K F T vs (d :: ds)) : ∃ v r, vs = v :: r /\ Fz K F T v d /\ FzA K F T r ds := by
  cases h with
  | cons a b => exact ⟨_, _, rfl, a, b⟩
theorem RpA.of_fz : ∀ {vs : List V} {ds : List M.D}, FzA K F T vs ds -> RpA K F T vs (ds.map .fz) []
  | _, _, .nil => .nil
  | _, _, .cons z r => RpA.cons (fp := []) (fq := []) (.fz z) (RpA.of_fz r)
def qG (K : PySem.W.Frag) (sl : List Nat) (m : M.MG) : TG := fun v σ H Q => ∃ ρ F T fr d ρ', Rel K ρ σ H F T fr /\ Fz K F T v d /\ m d ρ = some ρ' /\ ∀ σ', wipe σ' sl = wipe σ sl -> Rel K ρ' σ' H F T fr -> Q σ' H
def qGs (K : PySem.W.Frag) (is : List Nat) : TGs := fun vs σ H Q => ∃ ρ F T fr ds ρ', Rel K ρ σ H F T fr /\ FzA K F T vs ds /\ M.gNs is ds ρ = some ρ' /\ ∀ σ', wipe σ' is = wipe σ is -> Rel K ρ' σ' H F T fr -> Q σ' H
abbrev SG (X : Cx) (tg : Expr) (sl : List Nat) (m : M.MG) : Prop := PG X tg (qG X.K sl m)
abbrev SGs (X : Cx) (ts : List Expr) (is : List Nat) : Prop := PGs X ts (qGs X.K is)
theorem PG.imp {X : Cx} {tg : Expr} {t t' : TG} (h : PG X tg t) (i : ∀ v σ H Q, t' v σ H Q -> t v σ H Q) : PG X tg t' := ⟨fun pins s σ H v u Q I r q => h.run pins s σ H v u Q I r (i v σ H Q q)⟩
theorem PGs.imp {X : Cx} {tg : List Expr} {t t' : TGs} (h : PGs X tg t) (i : ∀ v σ H Q, t' v σ H Q -> t v σ H Q) : PGs X tg t' := ⟨fun pins s σ H v u Q I r q => h.run pins s σ H v u Q I r (i v σ H Q q)⟩
theorem Rel.put (rel : Rel K ρ σ H F T fr) {i : Nat} (hi : i < ρ.env.length) {v : V} {o : M.O} {f2 fr' : Fp} (q : Rp K F T v o f2) (p : Part (f2 ++ fr') fr) : Rel K ⟨ρ.env.set i (some o), ρ.w⟩ (σ.set i (some v)) H F T fr' := by
  obtain ⟨fe, fw, re, rw, f⟩ := rel
  obtain ⟨fq, h1, h2⟩ := re.put hi q
  refine ⟨fq, fw, h1, rw, f.part ?_⟩
  have p1 : Part (fq ++ (fw ++ fr')) ((fe ++ f2) ++ (fw ++ fr')) := .app h2 .refl
  refine p1.trans ?_
  refine Part.trans (b := fe ++ (fw ++ (f2 ++ fr'))) ?_ (.app .refl (.app .refl p))
  constructor
  . intro e h
    simp only [List.mem_append] at *
    grind
  . intro x
    simp only [keys, List.map_append, List.count_append] at *
    omega
theorem Part.nilL {a : Fp} : Part ([] ++ a) a := ⟨fun _ h => h, fun _ => Nat.le_refl _⟩
theorem dy' {X : Cx} {pos : Pos} {x : Str} (i : Nat) (hN : X.N.Nodup) (hi : X.N[i]? = some x) (hx : Loc X.env.scope x) (hf : X.fn x = true \/ X.env.scope.names.lookup x = some .local) : SG X (.Name x pos) [i] (M.gN i) :=
  PG.imp (pg_name hN hi hx hf) fun v σ H Q ⟨ρ, F, T, fr, d, ρ', rel, z, e, q⟩ => by
    unfold M.gN at e
    split at e
    . rename_i hl
      cases e
      refine q _ ?_ (rel.put hl (.fz z) .nilL)
      show (σ.set i (some v)).set i none = σ.set i none
      rw [List.set_set]
    . cases e
theorem gX' {X : Cx} : SGs X [] [] := PGs.imp pgs_nil fun vs σ H Q ⟨ρ, F, T, fr, ds, ρ', rel, z, e, q⟩ => by
  cases ds with
  | nil =>
    cases z
    cases e
    exact ⟨rfl, q _ rfl rel⟩
  | cons d ds => cases e
theorem bS' {X : Cx} {e : Expr} {es : List Expr} {i : Nat} {is : List Nat} (hs : (assignEach (e :: es) X.env).map (·.2) = assign e X.env :: (assignEach es X.env).map (·.2)) (h1 : SG X e [i] (M.gN i)) (h2 : SGs X es is) : SGs X (e :: es) (i :: is) :=
  PGs.imp (pgs_cons h1 h2 hs) fun vs σ H Q ⟨ρ, F, T, fr, ds, ρ', rel, z, e, q⟩ => by
    cases ds with
    | nil => cases e
    | cons d ds =>
      obtain ⟨v, r, rfl, z, zs⟩ := z.cons_inv
      . cases e1 : M.gN i d ρ with
        | none => simp only [M.gNs, e1] at e; cases e
        | some ρ1 =>
          simp only [M.gNs, e1, Option.bind_some] at e
          refine ⟨v, r, rfl, ρ, F, T, fr, d, ρ1, rel, z, e1, fun σ1 w1 r1 => ⟨ρ1, F, T, fr, ds, ρ', r1, zs, e, fun σ2 w2 r2 => q σ2 ?_ r2⟩⟩
          show (wipe σ2 is).set i none = (wipe σ is).set i none
          rw [w2]
          have w1' : σ1.set i none = σ.set i none := w1
          rw [<- dg' (x := none) is σ1, w1', dg' is σ]
theorem tM' {X : Cx} {es : List Expr} {k} {pos : Pos} {n : Nat} {is : List Nat} (hc : X.calm = true) (hn : (assignEach es X.env).length = n) (hst : (assignEach es X.env).findIdx? (·.1) = none) (hl : is.length = n) (h : SGs X es is) : SG X (.Tuple es k pos) is (M.gT is) :=
  PG.imp (pg_tup hc h hn hst) fun v σ H Q ⟨ρ, F, T, fr, d, ρ', rel, z, e, q⟩ => by
    cases d with
    | tup ds =>
      obtain ⟨a, vs, rfl, ha, za⟩ := z.tup_inv
      obtain ⟨fp, f, _⟩ := rel.fp
      refine ⟨a, vs, rfl, seqT f.low ha, ?_, ρ, F, T, fr, ds, ρ', rel, za, e, q⟩
      rw [za.length, <- hl]
      have : ∀ (is : List Nat) (ds : List M.D) (ρ ρ' : M.PSt), M.gNs is ds ρ = some ρ' -> ds.length = is.length := by
        intro is
        induction is with
        | nil => intro ds ρ ρ' h; cases ds with | nil => rfl | cons d ds => cases h
        | cons i is ih =>
          intro ds ρ ρ' h
          cases ds with
          | nil => cases h
          | cons d ds =>
            cases e1 : M.gN i d ρ with
            | none => simp only [M.gNs, e1] at h; cases h
            | some ρ1 =>
              simp only [M.gNs, e1, Option.bind_some] at h
              exact congrArg (· + 1) (ih ds ρ1 ρ' h)
      exact this is ds ρ ρ' e
    | _ => cases e
theorem RpE.wiped {env : List (Option M.O)} (r : RpE K F T σ env fp) : ∀ is : List Nat, ∃ fq, RpE K F T (wipe σ is) (M.aA' is env) fq /\ Part fq fp
  | [] => ⟨fp, r, .refl⟩
  | i :: is => by
    obtain ⟨fq, h1, h2⟩ := r.wiped is
    obtain ⟨fq2, h3, h4⟩ := h1.drop i none
    exact ⟨fq2, h3, h4.trans h2⟩
theorem eH' {σ : St} : ∀ {is : List Nat} {j : Nat}, j ∉ is -> (wipe σ is)[j]? = σ[j]?
  | [], _, _ => rfl
  | i :: is, j, h => by
    have h' : j ≠ i /\ j ∉ is := by simpa using h
    show ((wipe σ is).set i none)[j]? = _
    rw [List.getElem?_set_ne (Ne.symm h'.1), eH' h'.2]
theorem gS' {σ : St} : ∀ {is : List Nat} {j : Nat}, j ∈ is -> j < σ.length -> (wipe σ is)[j]? = some none
  | i :: is, j, h, hl => by
    show ((wipe σ is).set i none)[j]? = _
    by_cases e : i = j
    . subst e
      rw [List.getElem?_set_self (by rw [wipe_length]; exact hl)]
    . rw [List.getElem?_set_ne e]
      refine gS' ?_ hl
      rcases List.mem_cons.mp h with h | h
      . exact absurd h.symm e
      . exact h
theorem jY' {σ : St} (is : List Nat) : wipe (wipe σ is) is = wipe σ is := by
  refine List.ext_getElem? fun j => ?_
  by_cases h : j ∈ is
  . by_cases hl : j < σ.length
    . rw [gS' h hl, gS' h (by rw [wipe_length]; exact hl)]
    . rw [List.getElem?_eq_none (by rw [wipe_length, wipe_length]; omega), List.getElem?_eq_none (by rw [wipe_length]; omega)]
  . rw [eH' h]
theorem eb' {env : List (Option M.O)} : ∀ {is : List Nat} {j : Nat} {o : M.O}, (M.aA' is env)[j]? = some (some o) -> j ∉ is
  | [], _, _, _ => by simp
  | i :: is, j, o, h => by
    have h : ((M.aA' is env).set i none)[j]? = some (some o) := h
    by_cases hj : i = j
    . subst hj
      by_cases hl : i < (M.aA' is env).length
      . rw [List.getElem?_set_self hl] at h; cases h
      . rw [List.getElem?_eq_none (by simpa using hl)] at h; cases h
    . rw [List.getElem?_set_ne hj] at h
      have := eb' h
      simp only [List.mem_cons, not_or]
      exact ⟨Ne.symm hj, this⟩
theorem RpE.other {env : List (Option M.O)} {σ' : St} (r : RpE K F T σ env fp) (hl : σ'.length = σ.length) (h : ∀ (j : Nat) (o : M.O), env[j]? = some (some o) -> σ'[j]? = σ[j]?) : RpE K F T σ' env fp := by
  induction r generalizing σ' with
  | nil =>
    cases σ' with
    | nil => exact .nil
    | cons _ _ => cases hl
  | off r ih =>
    cases σ' with
    | nil => cases hl
    | cons y σ' => exact .off (ih (Nat.succ.inj hl) fun j o e => h (j + 1) o e)
  | on q r ih =>
    cases σ' with
    | nil => cases hl
    | cons y σ' =>
      have e : y = _ := Option.some.inj (h 0 _ rfl)
      subst e
      exact .on q (ih (Nat.succ.inj hl) fun j o e => h (j + 1) o e)
  | hot hh z r ih =>
    cases σ' with
    | nil => cases hl
    | cons y σ' =>
      have e : y = _ := Option.some.inj (h 0 _ rfl)
      subst e
      exact .hot hh z (ih (Nat.succ.inj hl) fun j o e => h (j + 1) o e)
  | clo hh z r ih =>
    cases σ' with
    | nil => cases hl
    | cons y σ' =>
      have e : y = _ := Option.some.inj (h 0 _ rfl)
      subst e
      exact .clo hh z (ih (Nat.succ.inj hl) fun j o e => h (j + 1) o e)
theorem RpE.backed {env0 : List (Option M.O)} (h0 : ∀ (i : Nat) (d : M.D), env0[i]? = some (some (M.O.fz d)) -> ∃ v, σ[i]? = some (some v) /\ Fz K F T v d) : ∀ (is : List Nat) {env : List (Option M.O)} {fp : Fp}, RpE K F T σ env fp -> ∃ fq, RpE K F T σ (M.back env0 is env) fq /\ Part fq fp
  | [], env, fp, r => ⟨fp, r, .refl⟩
  | i :: is, env, fp, r => by
    obtain ⟨fq, h1, h2⟩ := RpE.backed h0 is r
    unfold M.back
    split
    . rename_i d e
      obtain ⟨v, hv, z⟩ := h0 i d e
      obtain ⟨f2, h3, h4⟩ := h1.put0 hv (.fz z)
      refine ⟨f2, h3, h4.trans ?_⟩
      rw [List.append_nil]
      exact h2
    . obtain ⟨f2, h3, h4⟩ := h1.drop0 i
      exact ⟨f2, h3, h4.trans h2⟩
theorem RpE.data {env : List (Option M.O)} (r : RpE K F T σ env fp) {i : Nat} {d : M.D} (h : env[i]? = some (some (.fz d))) : ∃ v, σ[i]? = some (some v) /\ Fz K F T v d := by
  obtain ⟨v, f1, f2, f3, h1, _, h3, _⟩ := r.get h
  cases h3 with
  | fz z => exact ⟨v, h1, z⟩
abbrev W0 : WX := fun _ _ _ _ => False
theorem a0'.noX {α : Type} {r : M.Res α} {P : α -> M.PSt -> Prop} {Y Y' : Wx} (h : a0' (M.noX r) P Y) : a0' r P Y' := by
  cases r with
  | ok a ρ => exact h
  | exc x ρ => exact h.elim
  | bad => exact h
def s4' (K : PySem.W.Frag) (sl : List Nat) (g : M.MG) (t : M.MT) (e : M.ME) (ds : List M.D) (σ : St) (D : Addr) (fr : Fp) (F1 : Hp) (T1 : List Addr) (P : List M.D -> M.PSt -> Prop) (Y : Wx) (i : Nat) (H : Hp) : Prop :=
  i <= ds.length /\ ∃ ρ' F' T' acc vacc, Ext F1 T1 F' T' /\ FzA K F' T' vacc acc /\ Rel K ⟨M.aA' sl ρ'.env, ρ'.w⟩ (wipe σ sl) H F' T' ((D, .lst vacc) :: fr) /\ a0' (M.lcL sl g t e (ds.drop i) acc ρ') P Y
theorem Rel.wiped (r : Rel K ρ σ H F T fr) (is : List Nat) : Rel K ⟨M.aA' is ρ.env, ρ.w⟩ (wipe σ is) H F T fr := by
  obtain ⟨fe, fw, re, rw, f⟩ := r
  obtain ⟨fq, h1, h2⟩ := re.wiped is
  exact ⟨fq, fw, h1, rw, f.part (.app h2 .refl)⟩
theorem Rel.own (r : Rel K ρ σ H F T fr) {p : Addr} {o : HO} (hp : H p = none) : Rel K ρ σ (upd H p o) F T ((p, o) :: fr) := by
  obtain ⟨fe, fw, re, rw, f⟩ := r
  refine ⟨fe, fw, re, rw, (f.own hp).part ?_⟩
  constructor
  . intro e h
    simp only [List.mem_append, List.mem_cons] at *
    grind
  . intro x
    simp only [keys, List.map_append, List.map_cons, List.count_append, List.count_cons] at *
    omega
theorem Rel.at_ (r : Rel K ρ σ H F T fr) {e : Addr × HO} (h : e ∈ fr) : H e.1 = some e.2 := by
  obtain ⟨fe, fw, re, rw, f⟩ := r
  exact (f.at_ e (List.mem_append_right _ (List.mem_append_right _ h))).1
theorem Rel.write {p : Addr} {o o' : HO} (r : Rel K ρ σ H F T ((p, o) :: fr)) : Rel K ρ σ (upd H p o') F T ((p, o') :: fr) := by
  obtain ⟨fe, fw, re, rw, f⟩ := r
  have f' : FpH F H ((fe ++ fw) ++ ((p, o) :: fr)) := by rw [List.append_assoc]; exact f
  refine ⟨fe, fw, re, rw, ?_⟩
  have := f'.write (o' := o')
  rw [List.append_assoc] at this
  exact this
theorem lK' {sl : List Nat} {it : M.MI} {g : M.MG} {t : M.MT} {e : M.ME} {Q : VK} (h : qO K W (M.oLc sl it g t e) σ H Q) : tLc (qI K W it) (qG K sl g) (qT K W0 t) (qE K W0 e) sl σ H Q := by
  obtain ⟨ρ, F, T, fr, rel, h⟩ := h
  refine ⟨ρ, F, T, fr, rel, (a0'.bind h).mono (fun ds ρ1 h1 J H1 F1 T1 e1 io r1 => ?_) fun _ _ z => z⟩
  intro D hD
  have h2 := a0'.bind h1
  -- the loop's word
  refine ⟨fun i m H => m = ds.length - i /\ s4' K sl g t e ds σ D fr F1 T1 _ _ i H, ⟨ds.length, by simp, Nat.zero_le _, ρ1, F1, T1, [], [], .refl, .nil, (r1.wiped sl).own hD, h2⟩, ?_⟩
  rintro i m H2 ⟨rfl, hi, ρ2, F2, T2, acc, vacc, e2, za, r2, h3⟩
  have hH : H2 D = some (.lst vacc) := r2.at_ (e := (D, .lst vacc)) List.mem_cons_self
  obtain ⟨fp2, f2, _⟩ := r2.fp
  by_cases hl : i = ds.length
  . refine .inl ⟨(io F2 T2 H2 fp2 i e2 f2 hi).1 hl, ?_⟩
    rw [hl, List.drop_length] at h3
    have h4 : a0' (M.lcL sl g t e [] acc ρ2) _ _ := h3
    unfold M.lcL at h4
    have h5 := h4
    refine h5 (.ref D) H2 F2 T2 ((D, .lst vacc) :: []) (e1.trans e2) ?_ ?_
    . exact .lst (RpA.of_fz za)
    . obtain ⟨fe, fw, re, rw, f⟩ := r2
      have re1 : RpE K F2 T2 σ (M.aA' sl ρ2.env) fe := by
        refine re.other ?_ fun j o hj => (eH' (eb' hj)).symm
        rw [wipe_length]
      obtain ⟨fe0, fw0, re0, rw0, f0⟩ := r1
      obtain ⟨fq, h6, h7⟩ := RpE.backed (env0 := ρ1.env) (fun i d hd => by
        obtain ⟨v, hv, z⟩ := re0.data hd
        exact ⟨v, hv, z.mono e2⟩) sl re1
      exact ⟨fq, fw, h6, rw, f.part (.app h7 .refl)⟩
  . have hlt : i < ds.length := by omega
    have hd : ds[i]? = some ds[i] := List.getElem?_eq_getElem hlt
    obtain ⟨go, yl⟩ := (io F2 T2 H2 fp2 i e2 f2 hi).2 _ hd
    refine .inr ⟨go, s4' K sl g t e ds σ D fr F1 T1 _ _ (i + 1), fun H' n => ⟨ds.length - (i + 1), by omega, rfl, n⟩, fun x H3 y => ?_⟩
    obtain ⟨fe, fw, re, rw, f⟩ := id r2
    obtain ⟨yg, yh⟩ := (io F2 T2 H2 _ i e2 f hi).2 _ hd
    obtain ⟨F3, s3, zx, f3⟩ := yh x H3 y
    have r3 : Rel K ⟨M.aA' sl ρ2.env, ρ2.w⟩ (wipe σ sl) H3 F3 T2 ((D, .lst vacc) :: fr) := ⟨fe, fw, re.mono (.of s3), rw.mono (.of s3), f3⟩
    rw [List.drop_eq_getElem_cons hlt] at h3
    unfold M.lcL at h3
    cases eg : g ds[i] ⟨M.aA' sl ρ2.env, ρ2.w⟩ with
    | none => rw [eg] at h3; exact h3.elim
    | some ρ3 =>
      rw [eg] at h3
      refine ⟨_, F3, T2, _, ds[i], ρ3, r3, zx, eg, fun σ4 w4 r4 => ?_⟩
      rw [jY'] at w4
      refine ⟨w4, ?_⟩
      have h4 := a0'.bind h3
      refine ⟨ρ3, F3, T2, _, r4, (a0'.noX h4).mono (fun b ρ5 h5 H5 F5 T5 e5 r5 => ?_) fun _ _ z => z⟩
      cases b with
      | false =>
        rw [if_neg Bool.false_ne_true]
        refine ⟨hlt, ρ5, F5, T5, acc, vacc, e2.trans ((Ext.of s3).trans e5), (za.mono (.of s3)).mono e5, ?_, h5⟩
        rw [<- w4]
        exact r5.wiped sl
      | true =>
        rw [if_pos rfl] at h5 ⊢
        have h6 := a0'.bind h5
        refine ⟨ρ5, F5, T5, _, r5, (a0'.noX h6).mono (fun d ρ6 h7 y6 H6 F6 T6 e6 z6 r6 => ?_) fun _ _ z => z⟩
        split at h7
        . rename_i hacc
          have hH6 : H6 D = some (.lst vacc) := r6.at_ (e := (D, .lst vacc)) List.mem_cons_self
          refine ⟨vacc, hH6, by rw [bt', za.length]; exact hacc, hlt, ρ6, F6, T6, acc ++ [d], vacc ++ [y6], e2.trans ((Ext.of s3).trans (e5.trans e6)), (((za.mono (.of s3)).mono e5).mono e6).append (.cons z6 .nil), ?_, h7⟩
          rw [<- w4]
          exact (r6.wiped sl).write
        . exact h7.elim
end
section
variable {X : Cx} {W : WX} {pos : Pos} {elt tg iter : Expr} {ifs : List Expr} {scope : Scope} {own : List (Str × Nat)} {sl : List Nat} {it : M.MI} {g : M.MG} {t : M.MT} {e : M.ME}
theorem bm' {X : Cx} {W : WX} : PTs X [] (qT X.K W M.tT) := ⟨fun _ _ _ H Q I ⟨ρ, F, T, fr, rel, h⟩ => wpAny_tests_nil ⟨H, I, h _ _ _ .refl rel⟩⟩
theorem iK' {X : Cx} {W : WX} {c : Expr} {m : M.MT} (h : ST X W c m) : PTs X [c] (qT X.K W m) := pts_one h
theorem oY' (hc : X.calm = true) (hN : X.N.Nodup) (hi : SI X W tg iter it) (ok : BlkOk X.N X.env.scope scope own) (hsl : sl = own.map (·.2))
    (hg : ∀ (s : Shared) (H : Hp) (C : Addr) (cl : List (Str × Addr)) (fp : List Addr), SG (X.blk s H scope (compEnvC scope cl C X.env) fp) tg sl g) (ht : ∀ (s : Shared) (H : Hp) (C : Addr) (cl : List (Str × Addr)) (fp : List Addr), PTs (X.blk s H scope (compEnvC scope cl C X.env) fp) ifs (qT X.K W0 t))
    (he : ∀ (s : Shared) (H : Hp) (C : Addr) (cl : List (Str × Addr)) (fp : List Addr), SE (X.blk s H scope (compEnvC scope cl C X.env) fp) W0 elt e) (hs : ∀ x, foldedSetIterable iter X.env x = pure x := by intro _; rfl) :
    SO X W (.ListComp elt [⟨tg, iter, ifs, 0⟩] scope pos) (M.oLc sl it g t e) := by
  subst hsl
  exact PE.imp (pe_lc hc hN hi ok hg ht he hs) fun σ H Q h => lK' h
theorem rt' {K : PySem.W.Frag} {m : M.MO} {σ : St} {H : Hp} {Q : VK} (h : qE K W (M.eO m) σ H Q) : qO K W m σ H Q := by
  obtain ⟨ρ, F, T, fr, rel, h⟩ := h
  refine ⟨ρ, F, T, fr, rel, (a0'.bind h).mono (fun o ρ1 h1 v H1 F1 T1 fp e1 z1 r1 => ?_) fun _ _ z => z⟩
  obtain ⟨G, s, z, r⟩ := r1.frozen z1
  exact h1 v H1 G T1 (e1.trans (.of s)) z r
theorem bG' {a : Expr} {m : M.MO} (h : SO X W a m) : SE X W a (M.eO m) := PE.imp h fun σ H Q h => rt' h
theorem bh' {a : Expr} {m : M.ME} (h : SE X W a m) : SO X W a (M.oE m) := PE.imp h fun σ H Q ⟨ρ, F, T, fr, rel, h⟩ => aS' rel h fun d ρ1 v H1 F1 T1 e1 z1 r1 h1 => h1 v H1 F1 T1 [] e1 (.fz z1) r1
theorem rO' (xs : List M.D) : M.frz (.lst (xs.map .fz)) = .lst xs := by
  show M.D.lst (M.frzs _) = _
  rw [M.lY']
theorem fS' (hc : X.calm = true) (hN : X.N.Nodup) (hi : SI X W tg iter it) (ok : BlkOk X.N X.env.scope scope own) (hsl : sl = own.map (·.2))
    (hg : ∀ (s : Shared) (H : Hp) (C : Addr) (cl : List (Str × Addr)) (fp : List Addr), SG (X.blk s H scope (compEnvC scope cl C X.env) fp) tg sl g) (ht : ∀ (s : Shared) (H : Hp) (C : Addr) (cl : List (Str × Addr)) (fp : List Addr), PTs (X.blk s H scope (compEnvC scope cl C X.env) fp) ifs (qT X.K W0 t))
    (he : ∀ (s : Shared) (H : Hp) (C : Addr) (cl : List (Str × Addr)) (fp : List Addr), SE (X.blk s H scope (compEnvC scope cl C X.env) fp) W0 elt e) (hs : ∀ x, foldedSetIterable iter X.env x = pure x := by intro _; rfl) :
    SE X W (.ListComp elt [⟨tg, iter, ifs, 0⟩] scope pos) (M.eLc sl it g t e) := by
  have h := bG' (oY' (pos := pos) hc hN hi ok hsl hg ht he hs)
  have eq : M.eO (M.oLc sl it g t e) = M.eLc sl it g t e := by
    funext ρ
    show ((it ρ).bind fun xs ρ1 => _).bind _ = (it ρ).bind _
    cases it ρ with
    | bad => rfl
    | exc x ρ1 => rfl
    | ok xs ρ1 =>
      show ((M.lcL sl g t e xs [] ρ1).bind _).bind _ = (M.lcL sl g t e xs [] ρ1).bind _
      cases M.lcL sl g t e xs [] ρ1 with
      | bad => rfl
      | exc x ρ2 => rfl
      | ok ys ρ2 =>
        show M.Res.ok (M.frz (.lst (ys.map .fz))) _ = M.Res.ok (M.D.lst ys) _
        rw [rO']
  rw [eq] at h
  exact h
end
end S
namespace S
open PySem PySem.Spec PyProof.Rows L2
variable [Wd] [Hot]
section
variable {K : PySem.W.Frag} {F F' H H' : Hp} {T T' : List Addr} {fp fq fr : Fp} {ρ : M.PSt} {σ : St} {W : WX} {D : Ends} {Q : VK}
theorem a6'.mono {r : M.Out} (h : a6' K W D F T fr r) (e : Ext F T F' T') : a6' K W D F' T' fr r := by
  cases r with
  | nx ρ => exact fun σ' H' F2 T2 e2 => h σ' H' F2 T2 (e.trans e2)
  | bk ρ => exact fun σ' H' F2 T2 e2 => h σ' H' F2 T2 (e.trans e2)
  | ct ρ => exact fun σ' H' F2 T2 e2 => h σ' H' F2 T2 (e.trans e2)
  | rt o w => exact fun v H' F2 T2 fp e2 => h v H' F2 T2 fp (e.trans e2)
  | exc x ρ => exact fun σ' cls dd H' F2 T2 e2 => h σ' cls dd H' F2 T2 (e.trans e2)
  | bad => exact h
theorem a6'.imp {r : M.Out} {D' : Ends} {W' : WX} (h : a6' K W D F T fr r) (h1 : ∀ σ H, D.nx σ H -> D'.nx σ H) (h2 : ∀ σ H, D.bk σ H -> D'.bk σ H) (h3 : ∀ σ H, D.ct σ H -> D'.ct σ H) (h4 : ∀ v H, D.rt v H -> D'.rt v H) (h5 : ∀ c d σ H, W c d σ H -> W' c d σ H) : a6' K W' D' F T fr r := by
  cases r with
  | nx ρ => exact fun σ' H' F2 T2 e2 r => h1 _ _ (h σ' H' F2 T2 e2 r)
  | bk ρ => exact fun σ' H' F2 T2 e2 r => h2 _ _ (h σ' H' F2 T2 e2 r)
  | ct ρ => exact fun σ' H' F2 T2 e2 r => h3 _ _ (h σ' H' F2 T2 e2 r)
  | rt o w => exact fun v H' F2 T2 fp e2 z r => h4 _ _ (h v H' F2 T2 fp e2 z r)
  | exc x ρ => exact fun σ' cls dd H' F2 T2 e2 z r => h5 _ _ _ _ (h σ' cls dd H' F2 T2 e2 z r)
  | bad => exact h
theorem dk' {α : Type} {r : M.Res α} {f : α -> M.PSt -> M.Out} (h : a6' K W D F T fr (r.out f)) : a0' r (fun a ρ' => a6' K W D F T fr (f a ρ')) (EX K W σ F T fr) := by
  cases r with
  | ok a ρ => exact h
  | exc x ρ => exact fun cls dd H' F' T' e z r => h σ cls dd H' F' T' e z r
  | bad => exact h
theorem cO' {m : M.ME} {k : M.D -> M.PSt -> M.Out} (rel : Rel K ρ σ H F T fr) (h : a6' K W D F T fr ((m ρ).out k))
    (q : ∀ d ρ1 v H1 F1 T1, Ext F T F1 T1 -> Fz K F1 T1 v d -> Rel K ρ1 σ H1 F1 T1 fr -> a6' K W D F1 T1 fr (k d ρ1) -> Q v H1) : qE K W m σ H Q :=
  ⟨ρ, F, T, fr, rel, (dk' h).mono (fun d ρ1 h1 v H1 F1 T1 e z r => q d ρ1 v H1 F1 T1 e z r (h1.mono e)) fun _ _ z => z⟩
theorem eT' {m : M.MO} {k : M.O -> M.PSt -> M.Out} (rel : Rel K ρ σ H F T fr) (h : a6' K W D F T fr ((m ρ).out k))
    (q : ∀ o ρ1 v H1 F1 T1 fp, Ext F T F1 T1 -> Rp K F1 T1 v o fp -> Rel K ρ1 σ H1 F1 T1 (fp ++ fr) -> a6' K W D F1 T1 fr (k o ρ1) -> Q v H1) : qO K W m σ H Q :=
  ⟨ρ, F, T, fr, rel, (dk' h).mono (fun d ρ1 h1 v H1 F1 T1 fp e z r => q d ρ1 v H1 F1 T1 fp e z r (h1.mono e)) fun _ _ z => z⟩
theorem o5' {m : M.MT} {k : Bool -> M.PSt -> M.Out} {Q : Bool -> Hp -> Prop} (rel : Rel K ρ σ H F T fr) (h : a6' K W D F T fr ((m ρ).out k))
    (q : ∀ b ρ1 H1 F1 T1, Ext F T F1 T1 -> Rel K ρ1 σ H1 F1 T1 fr -> a6' K W D F1 T1 fr (k b ρ1) -> Q b H1) : qT K W m σ H Q :=
  ⟨ρ, F, T, fr, rel, (dk' h).mono (fun d ρ1 h1 H1 F1 T1 e r => q d ρ1 H1 F1 T1 e r (h1.mono e)) fun _ _ z => z⟩
theorem o6' {m : M.MI} {k : List M.D -> M.PSt -> M.Out} {R : It -> Hp -> Prop} (rel : Rel K ρ σ H F T fr) (h : a6' K W D F T fr ((m ρ).out k))
    (q : ∀ ds ρ1 J H1 F1 T1, Ext F T F1 T1 -> gP' K J ds F1 T1 -> Rel K ρ1 σ H1 F1 T1 fr -> a6' K W D F1 T1 fr (k ds ρ1) -> R J H1) : qI K W m σ H R :=
  ⟨ρ, F, T, fr, rel, (dk' h).mono (fun d ρ1 h1 J H1 F1 T1 e z r => q d ρ1 J H1 F1 T1 e z r (h1.mono e)) fun _ _ z => z⟩
theorem Rel.noenv (r : Rel K ρ σ H F T fr) : nG' K (ρ.w) H F T fr := by
  obtain ⟨fe, fw, re, rw, f⟩ := r
  exact ⟨[], fw, t4', rw, f.part (.app .nil .refl)⟩
end
section
variable {X : Cx} {W : WX} {pos : Pos} {a b c : Expr} {st : Stmt} {rest body : List Stmt} {ma mb : M.ME} {mo : M.MO} {mt : M.MT} {m1 m2 : M.MS} {D : Ends} {σ : St} {H : Hp}
theorem aM' : SSs X W [] M.a8' := PSs.imp pss_nil fun D σ H ⟨ρ, F, T, fr, rel, h⟩ => h σ H F T .refl rel
theorem ah' (h : SS X W st m1) : SSs X W [st] m1 := pss_one h
theorem ad' (h1 : SS X W st m1) (h2 : SSs X W rest m2) : SSs X W (st :: rest) (M.aP' m1 m2) := PSs.imp (pss_cons h1 h2) fun D σ H ⟨ρ, F, T, fr, rel, h⟩ => by
  refine ⟨ρ, F, T, fr, rel, ?_⟩
  unfold M.aP' at h
  cases e : m1 ρ with
  | nx ρ1 => rw [e] at h; exact fun σ1 H1 F1 T1 e1 r1 => ⟨ρ1, F1, T1, fr, r1, a6'.mono h e1⟩
  | bk ρ1 => rw [e] at h; exact h
  | ct ρ1 => rw [e] at h; exact h
  | rt o w => rw [e] at h; exact h
  | exc x ρ1 => rw [e] at h; exact h
  | bad => rw [e] at h; exact h
theorem eO' (ha : SE X W a ma) (hs : swapsWith a none pos.line X.env = pure false := by rfl) : SS X W (.Expr a pos) (M.fV' ma) := PS.imp (ps_expr ha hs) fun D σ H ⟨ρ, F, T, fr, rel, h⟩ =>
  cO' rel h fun d ρ1 v H1 F1 T1 e1 z1 r1 h1 => h1 σ H1 F1 T1 .refl r1
theorem aD' (ha : SO X W a mo) : SS X W (.Return (some a) pos) (M.bW' mo) := PS.imp (ps_ret ha) fun D σ H ⟨ρ, F, T, fr, rel, h⟩ =>
  eT' rel h fun o ρ1 v H1 F1 T1 fp e1 z1 r1 h1 => h1 v H1 F1 T1 fp .refl z1 r1.noenv
theorem ba' (hc : ST X W c mt) (ha : SSs X W rest m1) (hb : SSs X W body m2) : SS X W (.If c rest body pos) (M.sIf mt m1 m2) := PS.imp (ps_if hc ha hb) fun D σ H ⟨ρ, F, T, fr, rel, h⟩ => by
  refine o5' rel h fun k ρ1 H1 F1 T1 e1 r1 h1 => ?_
  cases k with
  | true => rw [if_pos rfl] at h1 ⊢; exact ⟨ρ1, F1, T1, fr, r1, h1⟩
  | false => rw [if_neg Bool.false_ne_true] at h1 ⊢; exact ⟨ρ1, F1, T1, fr, r1, h1⟩
theorem am' {i : Nat} {x : Str} {pos' : Pos} (hN : X.N.Nodup) (hi : X.N[i]? = some x) (hx : Loc X.env.scope x) (ha : SO X W a mo) (hs : swapsWith a (some (.Name x pos')) pos.line X.env = pure false := by rfl) (hf : X.fn x = true \/ X.env.scope.names.lookup x = some .local := by first | exact .inl rfl | exact .inr rfl | assumption) :
    SS X W (.Assign [.Name x pos'] a pos) (M.bi' i mo) := PS.imp (ps_set hN hi hx ha hs hf) fun D σ H ⟨ρ, F, T, fr, rel, h⟩ => by
  refine eT' rel h fun o ρ1 v H1 F1 T1 fp e1 z1 r1 h1 => ?_
  unfold M.tb' at h1
  split at h1
  . rename_i hl
    exact h1 _ H1 F1 T1 .refl (r1.put hl z1 .refl)
  . exact h1.elim
theorem iJ' {i : Nat} {y : Str} {py : Pos} {elt tg iter : Expr} {ifs : List Expr} {scope : Scope} {own : List (Str × Nat)} {spos : Pos} {sl : List Nat} {it : M.MI} {g : M.MG} {t : M.MT} {e : M.ME} (hc : X.calm = true) (hN : X.N.Nodup) (hy : X.N[i]? = some y) (hyl : X.env.scope.names.lookup y = some .local)
    (hsw : swapsWith (.ListComp elt [⟨tg, iter, ifs, 0⟩] scope pos) (some (.Name y py)) spos.line X.env = pure true) (hi : SI X W tg iter it) (ok : BlkOk X.N X.env.scope scope own) (hsl : sl = own.map (·.2))
    (hg : ∀ (s : Shared) (H : Hp) (C : Addr) (cl : List (Str × Addr)) (fp : List Addr), SG (X.blk s H scope (compEnvC scope cl C X.env) fp) tg sl g) (ht : ∀ (s : Shared) (H : Hp) (C : Addr) (cl : List (Str × Addr)) (fp : List Addr), PTs (X.blk s H scope (compEnvC scope cl C X.env) fp) ifs (qT X.K W0 t))
    (he : ∀ (s : Shared) (H : Hp) (C : Addr) (cl : List (Str × Addr)) (fp : List Addr), SE (X.blk s H scope (compEnvC scope cl C X.env) fp) W0 elt e) (hs : ∀ x, foldedSetIterable iter X.env x = pure x := by intro _; rfl) :
    SS X W (.Assign [.Name y py] (.ListComp elt [⟨tg, iter, ifs, 0⟩] scope pos) spos) (M.bi' i (M.oLc sl it g t e)) := by
  subst hsl
  refine PS.imp (ps_setLc (g := qG X.K (own.map (·.2)) g) (tt := qT X.K W0 t) (te := qE X.K W0 e) hc hN hy hyl hsw hi ok hg ht he hs) fun D σ H ⟨ρ, F, T, fr, rel, h⟩ => ?_
  show tLc (qI X.K W it) (qG X.K (own.map (·.2)) g) (qT X.K W0 t) (qE X.K W0 e) (own.map (·.2)) σ H fun x H1 => gName i x σ H1 D.nx
  refine lK' (W := W) (eT' (D := D) rel h fun o ρ1 v H1 F1 T1 fp e1 z1 r1 h1 => ?_)
  unfold M.tb' at h1
  split at h1
  . rename_i hl
    exact h1 _ H1 F1 T1 .refl (r1.put hl z1 .refl)
  . exact h1.elim
theorem RpA.app {K : PySem.W.Frag} {F : Hp} {T : List Addr} : ∀ {vs ws : List V} {os ps : List M.O} {fp fq : Fp}, RpA K F T vs os fp -> RpA K F T ws ps fq -> RpA K F T (vs ++ ws) (os ++ ps) (fp ++ fq)
  | _, _, _, _, _, _, .nil, h => h
  | _, _, _, _, _, _, .cons a r, h => by
    rw [List.append_assoc]
    exact .cons a (RpA.app r h)
theorem RpA.length {K : PySem.W.Frag} {F : Hp} {T : List Addr} : ∀ {vs : List V} {os : List M.O} {fp : Fp}, RpA K F T vs os fp -> vs.length = os.length
  | _, _, _, .nil => rfl
  | _, _, _, .cons _ r => congrArg (· + 1) (RpA.length r)
theorem Rel.slotW {K : PySem.W.Frag} {ρ : M.PSt} {F : Hp} {T : List Addr} {fr : Fp} {i : Nat} {p : Addr} {os : List M.O} (rel : Rel K ρ σ H F T fr) (e : ρ.env[i]? = some (some (.lst os))) (hp : σ[i]? = some (some (.ref p))) :
    ∃ vs f2, H p = some (.lst vs) /\ RpA K F T vs os f2 /\ ∀ vs' os' f2' fr', RpA K F T vs' os' f2' -> Part (f2' ++ fr') (f2 ++ fr) -> Rel K ⟨ρ.env.set i (some (.lst os')), ρ.w⟩ σ (upd H p (.lst vs')) F T fr' := by
  obtain ⟨fe, fw, re, rw, f⟩ := rel
  obtain ⟨v, f1, f2, f3, h1, rfl, h3, h4, h5⟩ := re.get e
  rw [h1] at hp
  cases hp
  cases h3 with
  | lst r =>
    rename_i vs0 fp0
    refine ⟨vs0, fp0, (f.at_ (p, .lst vs0) (by simp)).1, r, fun vs' os' f2' fr' r' pt => ?_⟩
    have e5 := h5 F T (.ref p) (.lst os') ((p, .lst vs') :: f2') .refl (.lst r')
    rw [di' h1] at e5
    refine ⟨_, fw, e5, rw, ?_⟩
    have fA : FpH F H (f1 ++ ((p, .lst vs0) :: (f3 ++ (fw ++ (fp0 ++ fr))))) := f.part (by
      constructor
      . intro e h
        simp only [List.mem_append, List.mem_cons] at *
        grind
      . intro x
        simp only [keys, List.map_append, List.map_cons, List.count_append, List.count_cons] at *
        omega)
    have fB := fA.write (o' := .lst vs')
    refine fB.part (.trans (b := f1 ++ ((p, .lst vs') :: (f3 ++ (fw ++ (f2' ++ fr'))))) ?_ ?_)
    . constructor
      . intro e h
        simp only [List.mem_append, List.mem_cons] at *
        grind
      . intro x
        simp only [keys, List.map_append, List.map_cons, List.count_append, List.count_cons] at *
        omega
    . have := pt.m
      have := pt.c
      constructor
      . intro e h
        simp only [List.mem_append, List.mem_cons] at *
        grind
      . intro x
        have := pt.c x
        simp only [keys, List.map_append, List.map_cons, List.count_append, List.count_cons] at *
        omega
theorem oa' {i : Nat} {x : Str} {px apos cpos : Pos} (hv : PE X (.Name x px) (tVar i)) (ha : SO X W a mo)
    (hbase : attributeBase (.Name x px) "append" X.env (eval (.Name x px) X.env) = eval (.Name x px) X.env := by rfl)
    (hfew : ((backTo cpos (starEach [a] X.env)).all (fun x => !x.1) && (backToKw cpos (keywordEach [] X.env)).all (fun x => x.1.isSome)
      && decide ([a].length + ([] : List Keyword).length + (if ([] : List Keyword).isEmpty then 0 else 1) < 30)) = true := by rfl)
    (hline : (apos.endLine == cpos.line) = true := by rfl) (hs : starEach [a] X.env = (false, eval a X.env) :: starEach [] X.env := by rfl) (hplain : (backTo cpos (starEach [] X.env)).any (·.1) = false := by rfl)
    (hsw : swapsWith (.Call (.Attribute (.Name x px) "append" apos) [a] [] cpos) none pos.line X.env = pure false := by rfl) :
    SS X W (.Expr (.Call (.Attribute (.Name x px) "append" apos) [a] [] cpos) pos) (M.o7' i mo) :=
  PS.imp (ps_expr (pe_bm PySem.F.plainAttrs_list PySem.F.slot_list_append PySem.F.type_list_append mt_append hv (pa_cons ha pa_nil hs) hbase hfew hline hs hplain) hsw) fun D σ H ⟨ρ, F, T, fr, rel, h⟩ => by
    unfold M.o7' at h
    split at h
    . rename_i os0 e0
      obtain ⟨fe, fw, re, rw, ff⟩ := id rel
      obtain ⟨v, f1, f2, f3, h1, _, h3, _⟩ := re.get e0
      cases h3 with
      | @lst p vs0 _ fp0 r0 =>
        obtain ⟨vs1, f21, hH, _, _⟩ := rel.slotW e0 h1
        refine ⟨.ref p, h1, .inl ⟨rfl, vs1, SqL.of hH⟩, eT' rel h fun o ρ1 u H1 F1 T1 fp e1 z1 r1 h2 => ?_⟩
        split at h2
        . rename_i os e2
          split at h2
          . rename_i hl
            obtain ⟨vs, f2', hH2, r2, back⟩ := r1.slotW e2 h1
            refine ⟨p, vs, u, rfl, rfl, hH2, by rw [r2.length, bt']; exact hl, ?_⟩
            have z1' : RpA X.K F1 T1 [u] [o] (fp ++ []) := .cons z1 .nil
            exact h2 σ _ F1 T1 .refl (back _ _ _ fr (r2.app z1') (by
              constructor
              . intro e h
                simp only [List.mem_append, List.not_mem_nil] at *
                grind
              . intro x
                simp only [keys, List.map_append, List.map_nil, List.count_append, List.count_nil] at *
                omega))
          . exact h2.elim
        . exact h2.elim
    . exact h.elim
theorem ni' {K : PySem.W.Frag} {sl : List Nat} {it : M.MI} {g : M.MG} {b : M.MS} (h : qS K W (M.jR' it g b) D σ H) : tFor (qI K W it) (qG K sl g) (qS K W b) D σ H := by
  obtain ⟨ρ, F, T, fr, rel, h⟩ := h
  refine o6' rel h fun ds ρ1 J H1 F1 T1 e1 io r1 h1 => ?_
  refine ⟨fun i m σ2 H2 => m = ds.length - i /\ i <= ds.length /\ ∃ ρ2 F2 T2, Ext F1 T1 F2 T2 /\ Rel K ρ2 σ2 H2 F2 T2 fr /\ a6' K W D F2 T2 fr (M.i5' g b (ds.drop i) ρ2), ⟨ds.length, by simp, Nat.zero_le _, ρ1, F1, T1, .refl, r1, h1⟩, ?_⟩
  rintro i m σ2 H2 ⟨rfl, hi, ρ2, F2, T2, e2, r2, h2⟩
  obtain ⟨fe, fw, re, rw, f2⟩ := id r2
  obtain ⟨st, yl⟩ := io F2 T2 H2 _ i e2 f2 hi
  by_cases hl : i = ds.length
  . refine .inl ⟨st hl, ?_⟩
    rw [hl, List.drop_length] at h2
    exact h2 σ2 H2 F2 T2 .refl r2
  . have hlt : i < ds.length := by omega
    obtain ⟨go, yh⟩ := yl ds[i] (List.getElem?_eq_getElem hlt)
    refine .inr ⟨go, fun σ3 H3 => ∃ ρ3 F3 T3, Ext F1 T1 F3 T3 /\ Rel K ρ3 σ3 H3 F3 T3 fr /\ a6' K W D F3 T3 fr (M.i5' g b (ds.drop (i + 1)) ρ3), fun σ3 H3 n => ⟨ds.length - (i + 1), by omega, rfl, hlt, n⟩, fun x H3 y => ?_⟩
    obtain ⟨F3, s3, zx, f3⟩ := yh x H3 y
    have r3 : Rel K ρ2 σ2 H3 F3 T2 fr := ⟨fe, fw, re.mono (.of s3), rw.mono (.of s3), f3⟩
    rw [List.drop_eq_getElem_cons hlt] at h2
    unfold M.i5' at h2
    cases eg : g ds[i] ρ2 with
    | none => rw [eg] at h2; exact h2.elim
    | some ρ4 =>
      rw [eg] at h2
      refine ⟨ρ2, F3, T2, fr, ds[i], ρ4, r3, zx, eg, fun σ4 _ r4 => ⟨ρ4, F3, T2, fr, r4, ?_⟩⟩
      have h3 := a6'.mono h2 (.of s3)
      have e3 : Ext F1 T1 F3 T2 := e2.trans (.of s3)
      dsimp only at h3
      cases eb : b ρ4 with
      | nx ρ5 => rw [eb] at h3; exact fun σ5 H5 F5 T5 e5 r5 => ⟨ρ5, F5, T5, e3.trans e5, r5, a6'.mono h3 e5⟩
      | ct ρ5 => rw [eb] at h3; exact fun σ5 H5 F5 T5 e5 r5 => ⟨ρ5, F5, T5, e3.trans e5, r5, a6'.mono h3 e5⟩
      | bk ρ5 => rw [eb] at h3; exact fun σ5 H5 F5 T5 e5 r5 => h3 σ5 H5 F5 T5 e5 r5
      | rt o w => rw [eb] at h3; exact h3
      | exc x ρ5 => rw [eb] at h3; exact h3
      | bad => rw [eb] at h3; exact h3
theorem dw' {tg iter : Expr} {sl : List Nat} {it : M.MI} {g : M.MG} (hp : PassesOwn (model X.prog X.w) X.A X.env X.xe) (hc : X.calm = true) (hi : SI X W tg iter it) (hg : SG X tg sl g) (hb : SSs X W body m1)
    (hs : ∀ x, foldedSetIterable iter X.env x = pure x := by intro _; rfl) : SS X W (.For tg iter body [] pos) (M.jR' it g m1) := PS.imp (ps_for hp hc hi hg hb hs) fun D σ H h => ni' h
theorem ct' {e : Expr} {x : String} (hc : X.calm = true) (tk : Takes X W) (he : PMk X e (fun _ H Q => Q (.ref (He.ga X.K x)) none H)) : SS X W (.Raise (some e) none pos) (M.cY' x) := PS.imp (ps_raise hc tk he) fun D σ H ⟨ρ, F, T, fr, rel, h⟩ =>
  h σ _ _ H F T .refl ⟨rfl, .inl ⟨rfl, rfl⟩⟩ rel
def qn' (K : PySem.W.Frag) (Q : VK) (E : XK) (F : Hp) (T : List Addr) (fr : Fp) : M.FRes -> Prop
  | .ok o w' => ∀ v H' F' T' fp, Ext F T F' T' -> Rp K F' T' v o fp -> nG' K (w') H' F' T' (fp ++ fr) -> Q v H'
  | .exc x w' => ∀ cls dd H' F' T', Ext F T F' T' -> XcR K F' T' x cls dd -> nG' K (w') H' F' T' fr -> E cls dd H'
  | .bad => False
def spM (K : PySem.W.Frag) (m : M.MF) : Sp := fun vs H Q E => ∃ ds w F T fr, FzA K F T vs ds /\ nG' K (w) H F T fr /\ qn' K Q E F T fr (m ds w)
theorem RpE.start {K : PySem.W.Frag} {F : Hp} {T : List Addr} {n : Nat} : ∀ {vs : List V} {ds : List M.D}, FzA K F T vs ds -> RpE K F T (vs.map some ++ List.replicate n none) (ds.map (fun d => some (.fz d)) ++ List.replicate n none) []
  | _, _, .nil => by
    show RpE K F T (List.replicate n none) (List.replicate n none) []
    induction n with
    | zero => exact .nil
    | succ n ih => exact .off ih
  | _, _, .cons z r => RpE.on (fp := []) (fq := []) (.fz z) (RpE.start r)
end
section
variable {P : Program} {w : World} {K : PySem.W.Frag} {mg : Str -> Option Value} {base : Heap}
end
section
variable {X : Cx} {k : Nat} {x : Str} {ps : List Str} {p pos : Pos} {e : Expr} {es : List Expr} {as : M.MA} {W : WX} {m : M.MF}
theorem l5' {K : PySem.W.Frag} {σ : St} {H : Hp} {Q : VK} (h : qO K W (M.ay' m as) σ H Q) : tCallS (spM K m) (WE W) (qA K W as) σ H Q := by
  obtain ⟨ρ, F, T, fr, rel, h⟩ := h
  refine cp' rel h fun ds ρ1 vs H1 F1 T1 e1 z1 r1 h1 => ?_
  obtain ⟨fe, fw, re, rw, f⟩ := r1
  refine ⟨ds, ρ1.w, F1, T1, fe ++ fr, z1, ⟨[], fw, t4', rw, f.part (Part.swap : Part (fw ++ (fe ++ fr)) (fe ++ (fw ++ fr)))⟩, ?_⟩
  cases em : m ds ρ1.w with
  | bad => rw [em] at h1; exact h1.elim
  | ok o w' =>
    rw [em] at h1
    refine fun v H' F' T' fp e z r => h1 v H' F' T' fp (e1.trans e) z ?_
    obtain ⟨fe', fw', re', rw', f'⟩ := r
    cases re'
    refine ⟨fe, fw', re.mono e, rw', f'.part ?_⟩
    constructor
    . intro e h
      simp only [List.mem_append, List.not_mem_nil] at *
      grind
    . intro x
      simp only [keys, List.map_append, List.map_nil, List.count_append, List.count_nil] at *
      omega
  | exc x w' =>
    rw [em] at h1
    refine fun cls dd H' F' T' e z r => h1 cls dd H' F' T' e z ?_
    obtain ⟨fe', fw', re', rw', f'⟩ := r
    cases re'
    refine ⟨fe, fw', re.mono e, rw', f'.part ?_⟩
    constructor
    . intro e h
      simp only [List.mem_append, List.not_mem_nil] at *
      grind
    . intro x
      simp only [keys, List.map_append, List.map_nil, List.count_append, List.count_nil] at *
      omega
theorem ag' (F : Og X.prog X.w X.K X.mg X.base k x ps (spM X.K m)) (hr : RoomG k X.A) (hg : Gl X x) (tk : Takes X W) (ha : SA X W (e :: es) as) (hdb : (x == ("__debug__" : Str)) = false := by decide)
    (he : starEach (e :: es) X.env = (false, eval e X.env) :: starEach es X.env := by rfl) (hpl : (backTo pos (starEach es X.env)).any (·.1) = false := by rfl) : SO X W (.Call (.Name x p) (e :: es) [] pos) (M.ay' m as) :=
  PE.imp (mZ' F hr hg tk ha hdb he hpl) fun _ _ _ h => l5' h
theorem dh' : Takes X W0 := fun _ _ ⟨_, _, _, _, _, _, _, _, _, _, _, _, _, _, _, _, w⟩ => w.elim
end
end S
namespace S
open PySem PySem.Spec PyProof.Rows L2
variable [Wd]
section
variable {P : Program} {w : World} {K : PySem.W.Frag} {mg : Str -> Option Value} {base : Heap}
theorem vL' {x qual : Str} {st : Stmt} {f : Addr} {fd : FuncData} {N ps : List Str} {k j n : Nat} {b : M.MS} (F : FunD K x qual (defArgs st) (defBody st) (defScope st) [] [] f fd) (S : FnScope N ps (defScope st)) (hj : ps.length = j) (hn : N.length = n)
    (hbody : ∀ (cdv oc : Value) (od : Option Addr) (osl : Array (Option Value)), K.lookup f = some ⟨oc, od, .func fd, osl⟩ -> fd.code = cdv -> PySem.W.codeIn K cdv qual = true -> ∀ (A : Around) (outer : List Env) (s : Shared) (H : Hp) (E : XK), RoomG k (A.deeper (envOfC qual (defScope st) s.heap.objs.size f cdv)) →
      SSs (cxOf (L2.CX P w) P w K mg base N qual (defScope st) f cdv A outer s H E) (fun cls d _ H => E cls d H) (defBody st) b)   : FnG P w K mg base (L2.CX P w) (k + 1) f fd ps (spM K (M.fnM j n b)) := by
  refine pQ' F S (fun vs H Q E h => ?_) fun cdv oc od osl lk e1 e2 A outer s H vs Q E hr h => ⟨_, hbody cdv oc od osl lk e1 e2 A outer s H E hr, ?_⟩
  . obtain ⟨ds, w', F', T, fr, za, rel, h⟩ := h
    unfold M.fnM at h
    by_cases hl : ds.length = j
    . rw [za.length, hl, hj]
    . rw [if_neg hl] at h; exact h.elim
  . obtain ⟨ds, w', F', T, fr, za, rel, h⟩ := h
    unfold M.fnM at h
    by_cases hl : ds.length = j
    . rw [if_pos hl] at h
      obtain ⟨fe, fw, re, rw', ff⟩ := rel
      cases re
      have re' : RpE K F' T (L2.start N vs) (ds.map (fun d => some (.fz d)) ++ List.replicate (n - j) none) [] := by
        unfold L2.start
        rw [hn, za.length, hl]
        exact RpE.start za
      refine ⟨⟨_, w'⟩, F', T, fr, ⟨[], fw, re', rw', ff⟩, ?_⟩
      generalize b ⟨ds.map (fun d => some (.fz d)) ++ List.replicate (n - j) none, w'⟩ = r at h
      cases r with
      | nx ρ => exact fun σ' H' F2 T2 e2 r2 => h .non H' F2 T2 [] e2 (.fz .non) r2.noenv
      | rt o w2 => exact fun v H' F2 T2 fp e2 z2 r2 => h v H' F2 T2 fp e2 z2 r2
      | exc x ρ => exact fun σ' cls dd H' F2 T2 e2 z2 r2 => h cls dd H' F2 T2 e2 z2 r2.noenv
      | bk ρ => exact h.elim
      | ct ρ => exact h.elim
      | bad => exact h.elim
    . rw [if_neg hl] at h; exact h.elim
theorem okM {x qual : Str} {st : Stmt} {f : Addr} {fd : FuncData} {N ps : List Str} {k j n : Nat} {b : M.MS} (F : FunD K x qual (defArgs st) (defBody st) (defScope st) [] [] f fd) (S : FnScope N ps (defScope st)) (hj : ps.length = j) (hn : N.length = n)
    (hbody : ∀ (cdv : Value) (A : Around) (outer : List Env) (s : Shared) (H : Hp) (E : XK), RoomG k (A.deeper (envOfC qual (defScope st) s.heap.objs.size f cdv)) →
      SSs (cxOf (L2.CX P w) P w K mg base N qual (defScope st) f cdv A outer s H E) (fun cls d _ H => E cls d H) (defBody st) b)   : FnG P w K mg base (L2.CX P w) (k + 1) f fd ps (spM K (M.fnM j n b)) :=
  vL' F S hj hn fun cdv _ _ _ _ _ _ => hbody cdv
end
end S
namespace S
open PySem PySem.Spec PyProof.Rows L2
variable [Wd] [Hot]
section
variable {K : PySem.W.Frag}
theorem pR' {F : Hp} {T : List Addr} {x y : V} {dx dy : M.D} (hx : Fz K F T x dx) (hy : Fz K F T y dy) (sx' : M.sca dx = true) (sy : M.sca dy = true) : eqV y x = M.eqb dy dx /\ flatV x = true := by
  cases dx <;> try (cases sx'; done)
  all_goals cases dy <;> try (cases sy; done)
  all_goals first
    | (cases hx; cases hy; exact ⟨rfl, rfl⟩)
    | skip
  obtain ⟨rfl, _⟩ := hx.str_inv
  obtain ⟨rfl, _⟩ := hy.str_inv
  exact ⟨n7' _ _, rfl⟩
theorem pO' {F : Hp} {T : List Addr} {x : V} {dx : M.D} (hx : Fz K F T x dx) (sx' : M.sca dx = true) : ∀ {vs : List V} {ds : List M.D}, FzA K F T vs ds -> ds.all M.sca = true -> inV x vs = ds.any (fun d => M.eqb d dx) /\ vs.all flatV = true
  | _, _, .nil, _ => ⟨rfl, rfl⟩
  | _, _, .cons z r, h => by
    rw [List.all_cons, Bool.and_eq_true] at h
    obtain ⟨h1, h2⟩ := pO' hx sx' r h.2
    obtain ⟨h3, h4⟩ := pR' hx z sx' h.1
    obtain ⟨_, h5⟩ := pR' z z h.1 h.1
    refine ⟨?_, ?_⟩
    . show (eqV _ x || inV x _) = _
      rw [List.any_cons, h3, h1]
    . rw [List.all_cons, h5, h2]; rfl
theorem ox' {F : Hp} {T : List Addr} {x : V} {dx : M.D} (hx : Fz K F T x dx) (s : M.sca dx = true) : flatV x = true := (pR' hx hx s s).2
theorem ng' {dx dy dz : M.D} (h : M.pIn dx dy = some dz) : (∃ c s, dx = .str [c] /\ dy = .str s /\ dz = .bl (decide (c ∈ s))) \/ (∃ ds, (dy = .lst ds \/ dy = .tup ds) /\ M.sca dx = true /\ ds.all M.sca = true /\ dz = .bl (ds.any fun d => M.eqb d dx)) := by
  unfold M.pIn at h
  split at h
  . exact .inl ⟨_, _, rfl, rfl, (Option.some.inj h).symm⟩
  . split at h
    . rename_i c; exact .inr ⟨_, .inl rfl, c.1, c.2, (Option.some.inj h).symm⟩
    . cases h
  . split at h
    . rename_i c; exact .inr ⟨_, .inr rfl, c.1, c.2, (Option.some.inj h).symm⟩
    . cases h
  . cases h
theorem lx' : Op2 K M.ep' (ln' K) := by
  intro F H T fp x y dx dy dz Q f hx hy h k
  unfold M.ep' at h
  split at h
  . rename_i b hb
    cases h
    rcases ng' hb with ⟨c, s, rfl, rfl, eb⟩ | ⟨ds, e, h1, h2, eb⟩
    . cases eb
      obtain ⟨rfl, o1⟩ := hx.str_inv
      obtain ⟨rfl, o2⟩ := hy.str_inv
      exact .inl ⟨c, _, rfl, rfl, k.here f (.bl _)⟩
    . cases eb
      rcases e with rfl | rfl
      . obtain ⟨a, vs, rfl, ha, za⟩ := hy.lst_inv
        obtain ⟨e1, e2⟩ := pO' hx h1 za h2
        refine .inr (.inl ⟨a, vs, rfl, .inl (SqL.of (f.low _ _ ha)), ox' hx h1, e2, ?_⟩)
        rw [if_pos rfl, e1]
        exact k.here f (.bl _)
      . obtain ⟨a, vs, rfl, ha, za⟩ := hy.tup_inv
        obtain ⟨e1, e2⟩ := pO' hx h1 za h2
        refine .inr (.inl ⟨a, vs, rfl, .inr (seqT f.low ha), ox' hx h1, e2, ?_⟩)
        rw [if_pos rfl, e1]
        exact k.here f (.bl _)
  . cases h
theorem iI' {F : Hp} {T : List Addr} : ∀ {vs : List V} {ds : List M.D} {ss : List M.Tx}, FzA K F T vs ds -> M.ci' ds = some ss -> vs = (ss.map sx).map V.str /\ ∀ s ∈ ss, okT s
  | _, _, ss, .nil, h => by cases h; exact ⟨rfl, fun s h => nomatch h⟩
  | _, d :: ds, ss, .cons a r, h => by
    cases d <;> try (cases h; done)
    rename_i b
    cases q : M.ci' ds with
    | none => simp only [M.ci', q] at h; cases h
    | some cs =>
      simp only [M.ci', q, Option.map_some] at h
      cases h
      obtain ⟨rfl, o⟩ := a.str_inv
      obtain ⟨rfl, os⟩ := iI' r q
      refine ⟨rfl, fun s hs => ?_⟩
      rcases List.mem_cons.mp hs with rfl | hs
      . exact o
      . exact os s hs
theorem iX' (sep : M.Tx) : ∀ ss : List M.Tx, TL.joinL sep ss = M.bO' sep ss
  | [] => rfl
  | [_] => rfl
  | a :: b :: r => by
    show a ++ (sep ++ TL.joinL sep (b :: r)) = a ++ (sep ++ M.bO' sep (b :: r))
    rw [iX' sep (b :: r)]
theorem pA' (sep : M.Tx) (ss : List M.Tx) : Txt.join (sx sep) (ss.map sx) = sx (M.bO' sep ss) := by
  rw [TL.join_eq]
  refine gW' ?_
  have := TL.tl_join (sx sep) (ss.map sx)
  rw [List.map_map, show ss.map (TL.tl ∘ sx) = ss from (List.map_congr_left fun a _ => rfl).trans (List.map_id ss), show TL.tl (sx sep) = sep from rfl, iX'] at this
  exact this
theorem gf' (sep : M.Tx) : ∀ (ss : List M.Tx) (c : Nat), c ∈ M.bO' sep ss -> c ∈ sep \/ ∃ s ∈ ss, c ∈ s
  | [], c, h => by cases h
  | [a], c, h => .inr ⟨a, by simp, h⟩
  | a :: b :: r, c, h => by
    rcases List.mem_append.mp (show c ∈ a ++ (sep ++ M.bO' sep (b :: r)) from h) with h | h
    . exact .inr ⟨a, by simp, h⟩
    . rcases List.mem_append.mp h with h | h
      . exact .inl h
      . rcases gf' sep (b :: r) c h with h | ⟨s, h1, h2⟩
        . exact .inl h
        . exact .inr ⟨s, List.mem_cons_of_mem _ h1, h2⟩
theorem cA' (sep : M.Tx) : ∀ (ss : List M.Tx), (M.bO' sep ss).length <= (ss.map List.length).sum + ss.length * sep.length
  | [] => by simp [M.bO']
  | [a] => by simp [M.bO']
  | a :: b :: r => by
    have ih := cA' sep (b :: r)
    show (a ++ (sep ++ M.bO' sep (b :: r))).length <= _
    rw [List.length_append, List.length_append, List.map_cons, List.sum_cons, List.length_cons (as := b :: r), Nat.succ_mul]
    omega
def MtD (K : PySem.W.Frag) (f : M.Tx -> List M.D -> Option M.D) (r : V -> List V -> Hp -> VK -> Prop) : Prop := ∀ {F H : Hp} {T : List Addr} {fp : Fp} {s : M.Tx} {xs : List V} {ds : List M.D} {dz : M.D} {Q : VK}, FpH F H fp -> okT s -> FzA K F T xs ds -> f s ds = some dz -> d0' K F T fp dz Q -> r (.str (sx s)) xs H Q
theorem FzA.one {F : Hp} {T : List Addr} {xs : List V} {d : M.D} (h : FzA K F T xs [d]) : ∃ v, xs = [v] /\ Fz K F T v d := by
  cases h with
  | cons a r => cases r; exact ⟨_, rfl, a⟩
theorem f9' : MtD K M.dF' (rp' K) := by
  intro F H T fp a xs ds dz Q f oa hx h k
  have fin : ∀ {ds : List M.D} {p : Addr} {vs : List V}, (SqL K H p vs \/ SqT K H p vs) -> FzA K F T vs ds -> ((M.ci' ds).bind fun ys => if (ys.map List.length).sum + ys.length * a.length <= M.d2' then some (M.D.str (M.bO' a ys)) else none) = some dz -> rp' K (.str (sx a)) [.ref p] H Q := by
    intro ds p vs hp za e
    cases q : M.ci' ds with
    | none => rw [q] at e; cases e
    | some ss =>
      rw [q, Option.bind_some] at e
      split at e
      . rename_i hl
        cases e
        obtain ⟨rfl, os⟩ := iI' za q
        refine ⟨_, p, ss.map sx, rfl, rfl, hp, ?_, ?_⟩
        . rw [List.map_map, show ss.map (Str.length ∘ sx) = ss.map List.length from List.map_congr_left fun s _ => bF' s, List.length_map, bF']
          exact hl
        . rw [pA']
          refine k.here f (.str ⟨fun c hc => ?_, Nat.le_trans (cA' a ss) hl⟩)
          rcases gf' a ss c hc with h | ⟨s, h1, h2⟩
          . exact oa.1 c h
          . exact (os s h1).1 c h2
      . cases e
  unfold M.dF' at h
  split at h
  . obtain ⟨v, rfl, z⟩ := hx.one
    obtain ⟨p, vs, rfl, ha, za⟩ := z.lst_inv
    exact fin (.inl (SqL.of (f.low _ _ ha))) za h
  . obtain ⟨v, rfl, z⟩ := hx.one
    obtain ⟨p, vs, rfl, ha, za⟩ := z.tup_inv
    exact fin (.inr (seqT f.low ha)) za h
  . cases h
theorem pN' (a b : M.Tx) (i : Nat) : (decide (i + (sx b).length <= (sx a).length) && Builtin.Str.subAt (sx a) (sx b) i) = M.qv' a b i := by
  rw [bF', bF', PySem.StrLaws.subAt_eq, cU', cU', bF']
  unfold M.qv'
  congr 1
  rw [Bool.eq_iff_iff]
  simp
end
section
variable {X : Cx} {W : WX} {K : PySem.W.Frag} {cpos apos p : Pos} {name : Str} {id T : String} {o e : Expr} {es : List Expr} {mo : M.ME} {as : M.MA} {σ : St} {H : Hp} {Q : VK}
theorem pq' {f : M.Tx -> List M.D -> Option M.D} {r : V -> List V -> Hp -> VK -> Prop} (hf : MtD K f r) (h : qE K W (M.eMt f mo as) σ H Q) : tBM K "str" r (qE K W mo) (qA K W as) σ H Q := by
  obtain ⟨ρ, F, T, fr, rel, h⟩ := h
  refine aS' rel h fun dx ρ1 v H1 F1 T1 e1 z1 r1 h1 => ?_
  cases dx <;> try exact h1.elim
  obtain ⟨rfl, o⟩ := z1.str_inv
  refine ⟨rfl, ?_⟩
  refine cp' r1 h1 fun ds ρ2 vs H2 F2 T2 e2 z2 r2 h2 => ?_
  obtain ⟨dz, ez, q⟩ := a0'.ofO h2
  obtain ⟨fp, f2, back⟩ := r2.fp
  exact hf f2 o z2 ez fun v' H3 F3 s zz f3 => q v' H3 F3 T2 (e1.trans (e2.trans (.of s))) zz (back H3 F3 s f3)
theorem eQ' {f : M.Tx -> List M.D -> Option M.D} {r : V -> List V -> Hp -> VK -> Prop} (slot : Slot "str" name id) (hty : typeOf (.builtin id) = pure (.type "method_descriptor")) (hm : MtR X id r) (hf : MtD X.K f r) (ho : SE X W o mo) (ha : SA X W (e :: es) as)
    (hbase : attributeBase o name X.env (eval o X.env) = eval o X.env := by rfl)
    (hfew : ((backTo cpos (starEach (e :: es) X.env)).all (fun x => !x.1) && (backToKw cpos (keywordEach [] X.env)).all (fun x => x.1.isSome)
      && decide ((e :: es).length + ([] : List Keyword).length + (if ([] : List Keyword).isEmpty then 0 else 1) < 30)) = true := by rfl)
    (hline : (apos.endLine == cpos.line) = true := by rfl) (hs : starEach (e :: es) X.env = (false, eval e X.env) :: starEach es X.env := by rfl) (hplain : (backTo cpos (starEach es X.env)).any (·.1) = false := by rfl) :
    SE X W (.Call (.Attribute o name apos) (e :: es) [] cpos) (M.eMt f mo as) := PE.imp (pe_bm PySem.F.plainAttrs_str slot hty hm ho ha hbase hfew hline hs hplain) fun _ _ _ h => pq' hf h
end
end S
namespace S
open PySem PySem.Spec PyProof.Rows L2
variable [Wd] [Hot]
section
variable {K : PySem.W.Frag} {F F' H H' : Hp} {T T' : List Addr} {fp fq fr : Fp} {ρ : M.PSt} {σ : St} {W : WX} {Q : VK}
theorem RpW.get {l : List Addr} {w : M.W} {n : Nat} {ob : M.Ob} (r : RpW K F T l w fp) (h : w[n]? = some ob) : ∃ a f1 f2 f3, l[n]? = some a /\ fp = f1 ++ (f2 ++ f3) /\ RpOb K F T a ob f2 ∧
    ∀ F' T' ob' f2', Ext F T F' T' -> RpOb K F' T' a ob' f2' -> RpW K F' T' l (w.set n ob') (f1 ++ (f2' ++ f3)) := by
  induction r generalizing n with
  | nil => cases h
  | @cons a l ob0 w fa fb r0 r ih =>
    cases n with
    | zero =>
      cases h
      exact ⟨a, [], fa, fb, rfl, rfl, r0, fun F' T' ob' f2' e r' => (RpW.cons r' (r.mono e) : RpW K F' T' _ _ (f2' ++ fb))⟩
    | succ n =>
      obtain ⟨a', f1, f2, f3, h1, rfl, h3, h4⟩ := ih (n := n) h
      refine ⟨a', fa ++ f1, f2, f3, h1, by simp, h3, fun F' T' ob' f2' e r' => ?_⟩
      rw [List.append_assoc]
      exact .cons (r0.mono e) (h4 F' T' ob' f2' e r')
theorem RpW.len {l : List Addr} {w : M.W} (r : RpW K F T l w fp) : l.length = w.length := by
  induction r with
  | nil => rfl
  | cons _ _ ih => exact congrArg (· + 1) ih
theorem RpA.get : ∀ {vs : List V} {os : List M.O} {fp : Fp} {i : Nat} {d : M.D}, RpA K F T vs os fp -> os[i]? = some (.fz d) -> ∃ v, vs[i]? = some v /\ Fz K F T v d
  | _, _, _, _, _, .nil, e => by cases e
  | _, _, _, 0, _, .cons h _, e => by
    have e := Option.some.inj e
    subst e
    cases h with
    | fz z => exact ⟨_, rfl, z⟩
  | _, _, _, i + 1, _, .cons _ r, e => RpA.get (i := i) r e
theorem RpA.ati {vs : List V} {os : List M.O} {i : Int} {d : M.D} (h : RpA K F T vs os fp) (e : M.ati os i = some (.fz d)) : ∃ v, atI vs i = some v /\ Fz K F T v d := by
  unfold M.ati at e
  unfold atI
  rw [h.length]
  cases q : M.ixn os.length i with
  | none => rw [q] at e; cases e
  | some j =>
    rw [q] at e
    obtain ⟨v, h1, h2⟩ := h.get (i := j) e
    have q' : ixN os.length i = some j := q
    rw [q']
    exact ⟨v, h1, h2⟩
theorem Rel.wlist (rel : Rel K ρ σ H F T fr) {n : Nat} {os : List M.O} (h : ρ.w[n]? = some (.lst os)) : ∃ a vs f2, T[n]? = some a /\ H a = some (.lst vs) /\ RpA K F T vs os f2 ∧
    ∀ vs' os' f2' fr', RpA K F T vs' os' f2' -> Part (f2' ++ fr') (f2 ++ fr) -> Rel K ⟨ρ.env, ρ.w.set n (.lst os')⟩ σ (upd H a (.lst vs')) F T fr' := by
  obtain ⟨fe, fw, re, rw, f⟩ := rel
  obtain ⟨a, f1, f2, f3, h1, rfl, h3, h4⟩ := rw.get h
  cases h3 with
  | lst r =>
    rename_i vs fp0
    refine ⟨a, vs, fp0, h1, (f.at_ (a, .lst vs) (by simp)).1, r, fun vs' os' f2' fr' r' pt => ?_⟩
    have e5 := h4 F T (.lst os') ((a, .lst vs') :: f2') .refl (.lst r')
    refine ⟨fe, _, re, e5, ?_⟩
    have fA : FpH F H ((fe ++ f1) ++ ((a, .lst vs) :: (f3 ++ (fp0 ++ fr)))) := f.part (by
      constructor
      . intro e h
        simp only [List.mem_append, List.mem_cons] at *
        grind
      . intro x
        simp only [keys, List.map_append, List.map_cons, List.count_append, List.count_cons] at *
        omega)
    have fB := fA.write (o' := .lst vs')
    refine fB.part ?_
    have pm := pt.m
    constructor
    . intro e h
      have := pm e
      simp only [List.mem_append, List.mem_cons] at *
      grind
    . intro x
      have := pt.c x
      simp only [keys, List.map_append, List.map_cons, List.count_append, List.count_cons] at *
      omega
theorem RpA.set {v : V} {d : M.D} (zd : Fz K F T v d) : ∀ {os : List M.O} {vs : List V} {f2 : Fp} (j : Nat), RpA K F T vs os f2 -> ∃ f2', RpA K F T (vs.set j v) (os.set j (.fz d)) f2' /\ Part f2' f2
  | [], _, _, _, .nil => ⟨[], .nil, .refl⟩
  | o :: os, _, _, 0, .cons r0 r => ⟨_, RpA.cons (fp := []) (.fz zd) r, .right .refl⟩
  | o :: os, _, _, j + 1, .cons r0 r => by
    obtain ⟨f2', q1, q2⟩ := RpA.set zd j r
    exact ⟨_, .cons r0 q1, .app .refl q2⟩
theorem RpA.set' {v : V} {d : M.D} {vs : List V} {os : List M.O} {fp : Fp} (h : RpA K F T vs os fp) (j : Nat) (zd : Fz K F T v d) : ∃ f2', RpA K F T (vs.set j v) (os.set j (.fz d)) f2' /\ Part f2' fp := RpA.set zd j h
theorem mJ' {w w' : M.W} {x k d : M.D} (h : M.mK' w x k d = some w') : ∃ n z os j, x = .obj n /\ k = .int z /\ w[n]? = some (.lst os) /\ M.ixn os.length z = some j /\ w' = w.set n (.lst (os.set j (.fz d))) := by
  unfold M.mK' at h
  split at h
  . rename_i n z
    split at h
    . rename_i os e
      cases q : M.ixn os.length z with
      | none => rw [q] at h; cases h
      | some j =>
        rw [q] at h
        cases h
        exact ⟨n, z, os, j, rfl, rfl, e, q, rfl⟩
    . cases h
  . cases h
theorem nd' {ma mb : M.ME} (h : qE K W (M.fj' ma mb) σ H Q) : tOp (rIx K) (qE K W ma) (qE K W mb) σ H Q := by
  obtain ⟨ρ, F, T, fr, rel, h⟩ := h
  refine aS' rel h fun dx ρ1 v H1 F1 T1 e1 z1 r1 h1 => ?_
  refine aS' r1 h1 fun dy ρ2 u H2 F2 T2 e2 z2 r2 h2 => ?_
  obtain ⟨dz, ez, q⟩ := a0'.ofO h2
  by_cases ho : ∃ n, dx = .obj n
  . obtain ⟨n, rfl⟩ := ho
    cases e : ρ2.w[n]? with
    | none => simp only [M.ixW, e] at ez; cases ez
    | some ob =>
      cases ob with
      | lst os =>
        simp only [M.ixW, e] at ez
        obtain ⟨a, vs, f2, h3, h4, h5, _⟩ := r2.wlist e
        cases z1.mono e2 with
        | obj t =>
          rw [h3] at t
          cases t
          cases dy <;> try (cases ez; done)
          rename_i i
          cases z2
          unfold M.ixO at ez
          cases e6 : M.ati os i with
          | none => simp only [e6] at ez; cases ez
          | some o =>
            cases o <;> simp only [e6] at ez <;> try (cases ez; done)
            cases ez
            obtain ⟨v', h7, h8⟩ := h5.ati e6
            exact .inl ⟨_, vs, i, v', rfl, rfl, SqL.of h4, h7, q v' H2 F2 T2 (e1.trans e2) h8 r2⟩
      | dct ks vs => simp only [M.ixW, e] at ez; cases ez
      | dcx ks vs => simp only [M.ixW, e] at ez; cases ez
      | ins C fs => simp only [M.ixW, e] at ez; cases ez
  . have ez' : M.pIx dx dy = some dz := by
      cases dx <;> first | exact ez | exact absurd ⟨_, rfl⟩ ho
    obtain ⟨fp, f2, back⟩ := r2.fp
    exact bR' f2 (z1.mono e2) z2 ez' fun v' H3 F3 s zz f3 => q v' H3 F3 T2 (e1.trans (e2.trans (.of s))) zz (back H3 F3 s f3)
end
section
variable {X : Cx} {W : WX} {pos tpos : Pos} {a b o i : Expr} {ma mb mo mi : M.ME} {as : M.MA} {es : List Expr} {σ : St} {H : Hp} {Q : VK}
theorem bM' (ha : SE X W a ma) (hb : SE X W b mb) (hs : PlainIx b) : SE X W (.Subscript a b pos) (M.fj' ma mb) := PE.imp (pe_ix ix_seq ha hb hs) fun _ _ _ h => nd' h
theorem du' (ha : SE X W a ma) (ho : SE X W o mo) (hi : SE X W i mi)
    (hst : ∀ v, assign (.Subscript o i tpos) X.env v = (do
      let ov ← holding [v] (eval o X.env)
      let iv ← holding [v, ov] (eval i X.env)
      standAt tpos
      holding [v, ov, iv] (setItem ov iv v)
      release [v, ov, iv] []) := by intro _; rfl)
    (hs : swapsWithSole [.Subscript o i tpos] a pos.line X.env = pure false := by rfl) (hw : swappedStores [.Subscript o i tpos] a X.env = pure none := by rfl)
    (h1 : (assignEach [.Subscript o i tpos] X.env).map (·.2) = [assign (.Subscript o i tpos) X.env] := by rfl) : SS X W (.Assign [.Subscript o i tpos] a pos) (M.eR' mo mi ma) :=
  PS.imp (ps_asg ha (pg_sub ho hi set_list hst) hs hw h1) fun D σ H ⟨ρ, F, T, fr, rel, h⟩ => by
    refine cO' rel h fun d ρ1 v H1 F1 T1 e1 z1 r1 h1 => ?_
    refine cO' r1 h1 fun dx ρ2 u H2 F2 T2 e2 z2 r2 h2 => ?_
    refine cO' r2 h2 fun dk ρ3 t H3 F3 T3 e3 z3 r3 h3 => ?_
    cases es : M.mK' ρ3.w dx dk d with
    | none => rw [es] at h3; exact h3.elim
    | some w' =>
      rw [es] at h3
      obtain ⟨n, z, os, j, rfl, rfl, e, ej, rfl⟩ := mJ' es
      cases z3
      obtain ⟨p, vs, f2, h4, h5, h6, back⟩ := r3.wlist e
      cases z2.mono e3 with
      | obj t =>
        rw [h4] at t
        cases t
        have ej' : ixN vs.length z = some j := by rw [h6.length]; exact ej
        obtain ⟨f2', q1, q2⟩ := h6.set' j ((z1.mono e2).mono e3)
        exact ⟨p, vs, z, j, rfl, rfl, h5, ej', h3 σ _ F3 T3 .refl (back _ _ f2' fr q1 (.app q2 .refl))⟩
theorem q7' (h : SA X W es as) : SO X W (.List es pos) (M.rG' as) := PE.imp (pe_lst h) fun σ H Q ⟨ρ, F, T, fr, rel, h⟩ => by
  refine cp' rel h fun ds ρ1 vs H1 F1 T1 e1 z1 r1 h1 => ?_
  split at h1
  . rename_i hl
    refine ⟨by rw [z1.length, bt']; exact hl, fun p hp => ?_⟩
    obtain ⟨fe, fw, re, rw, f⟩ := r1
    have eT : Ext F1 T1 F1 (T1 ++ [p]) := ⟨fun _ _ h => .inl h, ⟨[p], rfl⟩⟩
    have hn : (T1 ++ [p])[ρ1.w.length]? = some p := by rw [<- rw.len, List.getElem?_append_right (Nat.le_refl _), Nat.sub_self]; rfl
    have app : ∀ {l : List Addr} {w : M.W} {fw : Fp}, RpW X.K F1 T1 l w fw -> ∃ fw', RpW X.K F1 (T1 ++ [p]) (l ++ [p]) (w ++ [.lst (ds.map .fz)]) fw' /\ Part fw' ((p, .lst vs) :: fw) := by
      intro l w fw r
      induction r with
      | nil => exact ⟨_, RpW.cons (RpOb.lst (RpA.of_fz (z1.mono eT))) .nil, by simp only [List.append_nil]; exact .refl⟩
      | @cons a l ob w fa fb r0 r ih =>
        obtain ⟨fw', q1, q2⟩ := ih
        refine ⟨fa ++ fw', .cons (r0.mono eT) q1, ?_⟩
        have p1 : Part (fa ++ fw') (fa ++ ((p, .lst vs) :: fb)) := .app .refl q2
        refine p1.trans ?_
        constructor
        . intro e h
          simp only [List.mem_append, List.mem_cons] at *
          grind
        . intro x
          simp only [keys, List.map_append, List.map_cons, List.count_append, List.count_cons] at *
          omega
    obtain ⟨fw', q1, q2⟩ := app rw
    refine h1 (.ref p) (upd H1 p (.lst vs)) F1 (T1 ++ [p]) [] (e1.trans eT) (.fz (.obj hn)) ⟨fe, fw', re.mono eT, q1, ?_⟩
    refine (f.own hp).part ?_
    have p1 : Part (fe ++ (fw' ++ ([] ++ fr))) (fe ++ (((p, .lst vs) :: fw) ++ fr)) := .app .refl (.app q2 .nilL)
    refine p1.trans ?_
    constructor
    . intro e h
      simp only [List.mem_append, List.mem_cons] at *
      grind
    . intro x
      simp only [keys, List.map_append, List.map_cons, List.count_append, List.count_cons] at *
      omega
  . exact h1.elim
theorem cX' {n : Nat} (hv : PE X a (tVar n)) (hb : SE X W b mb) (hs : PlainIx b) : SE X W (.Subscript a b pos) (M.jV' n mb) := PE.imp (pe_ix ix_seq hv hb hs) fun σ H Q ⟨ρ, F, T, fr, rel, h⟩ => by
  unfold M.jV' at h
  split at h
  . rename_i o0 e0
    obtain ⟨fe, fw, re, rw, f⟩ := id rel
    obtain ⟨v, h1⟩ := re.val e0
    refine ⟨v, h1, aS' rel h fun dk ρ1 u H1 F1 T1 e1 z1 r1 h2 => ?_⟩
    split at h2
    . rename_i o e2
      obtain ⟨dz, ez, q⟩ := a0'.ofO h2
      obtain ⟨fe', fw', re', rw', f'⟩ := id r1
      obtain ⟨v', f1', f2', f3', h1', rfl, h3', _⟩ := re'.get e2 (M.gV' (fun z => by rw [z] at ez; exact nomatch (show (none : Option M.D) = some dz from ez)) fun z => by rw [z] at ez; exact nomatch (show (none : Option M.D) = some dz from ez))
      rw [h1] at h1'
      cases h1'
      cases h3' with
      | fz z =>
        obtain ⟨fx, f4, back⟩ := r1.fp
        exact bR' f4 z z1 ez fun v' H3 F3 s zz f3 => q v' H3 F3 T1 (e1.trans (.of s)) zz (back H3 F3 s f3)
      | @lst p vs os fp0 r =>
        cases dk <;> try (cases ez; done)
        rename_i i
        cases z1
        unfold M.ixO at ez
        cases e6 : M.ati os i with
        | none => simp only [e6] at ez; cases ez
        | some o =>
          cases o <;> simp only [e6] at ez <;> try (cases ez; done)
          cases ez
          obtain ⟨v', h7, h8⟩ := r.ati e6
          exact .inl ⟨p, vs, i, v', rfl, rfl, SqL.of (f'.at_ (p, .lst vs) (by simp)).1, h7, q v' H1 F1 T1 e1 h8 r1⟩
      | @tup p vs os fp0 r =>
        cases dk <;> try (cases ez; done)
        rename_i i
        cases z1
        unfold M.ixO at ez
        cases e6 : M.ati os i with
        | none => simp only [e6] at ez; cases ez
        | some o =>
          cases o <;> simp only [e6] at ez <;> try (cases ez; done)
          cases ez
          obtain ⟨v', h7, h8⟩ := r.ati e6
          exact .inr (.inl ⟨p, vs, i, v', rfl, rfl, SqT.of (f'.at_ (p, .tup vs) (by simp)).1, h7, q v' H1 F1 T1 e1 h8 r1⟩)
      | dct _ r => cases dk <;> cases ez
      | dcl _ r => cases dk <;> cases ez
      | dcn _ _ r => cases dk <;> cases ez
    . exact h2.elim
  . exact h.elim
theorem dv' {n : Nat} (ha : SE X W a ma) (ho : PE X o (tVar n)) (hi : SE X W i mi)
    (hst : ∀ v, assign (.Subscript o i tpos) X.env v = (do
      let ov ← holding [v] (eval o X.env)
      let iv ← holding [v, ov] (eval i X.env)
      standAt tpos
      holding [v, ov, iv] (setItem ov iv v)
      release [v, ov, iv] []) := by intro _; rfl)
    (hs : swapsWithSole [.Subscript o i tpos] a pos.line X.env = pure false := by rfl) (hw : swappedStores [.Subscript o i tpos] a X.env = pure none := by rfl)
    (h1 : (assignEach [.Subscript o i tpos] X.env).map (·.2) = [assign (.Subscript o i tpos) X.env] := by rfl) : SS X W (.Assign [.Subscript o i tpos] a pos) (M.eS' n mi ma) :=
  PS.imp (ps_asg ha (pg_sub ho hi set_list hst) hs hw h1) fun D σ H ⟨ρ, F, T, fr, rel, h⟩ => by
    refine cO' rel h fun d ρ1 v H1 F1 T1 e1 z1 r1 h1 => ?_
    split at h1
    . rename_i o0 e0
      obtain ⟨fe, fw, re, rw, f⟩ := id r1
      obtain ⟨v0, hv0⟩ := re.val e0
      refine ⟨v0, hv0, cO' r1 h1 fun dk ρ2 u H2 F2 T2 e2 z2 r2 h2 => ?_⟩
      split at h2
      . rename_i os z e3
        split at h2
        . rename_i j ej
          cases z2
          obtain ⟨fe', fw', re', rw', f'⟩ := id r2
          obtain ⟨v1, _, _, _, hv1, _, h3, _⟩ := re'.get e3
          rw [hv0] at hv1
          cases hv1
          cases h3 with
          | @lst p vs0 _ fp0 r0 =>
            obtain ⟨vs, f2', hH2, q2, back⟩ := r2.slotW e3 hv0
            obtain ⟨f3', q3, q4⟩ := q2.set' j (z1.mono e2)
            have ej' : ixN vs.length z = some j := by rw [q2.length]; exact ej
            exact ⟨p, vs, z, j, rfl, rfl, hH2, ej', h2 σ _ F2 T2 .refl (back _ _ f3' fr q3 (.app q4 .refl))⟩
        . exact h2.elim
      . exact h2.elim
    . exact h1.elim
end
end S
namespace S
open PySem PySem.Spec PyProof.Rows L2
variable [Wd] [Hot]
local macro_rules | `(tactic| walk_at "parts") => `(tactic| (constructor; (intro e h; simp only [List.mem_append, List.mem_cons, List.not_mem_nil] at *; grind); (intro x; simp only [keys, List.map_append, List.map_cons, List.map_nil, List.count_append, List.count_cons, List.count_nil] at *; omega)))
section
variable {K : PySem.W.Frag} {F F' H H' : Hp} {T T' : List Addr} {fp fq fr : Fp} {ρ : M.PSt} {σ : St} {W : WX} {Q : VK}
theorem RpA.lookup {f : String} {o : M.O} : ∀ {fv : List (String × V)} {os : List M.O} {fp : Fp}, RpA K F T (fv.map (·.2)) os fp -> ((fv.map (·.1)).zip os).lookup f = some o →
    ∃ v f1 f2 f3, fv.lookup f = some v /\ fp = f1 ++ (f2 ++ f3) /\ Rp K F T v o f2
  | [], _, _, r, h => by cases r; cases h
  | (g, v) :: fv, _, _, r, h => by
    cases r with
    | @cons _ _ o1 os fp fq r0 r =>
      rw [List.map_cons, List.zip_cons_cons] at h
      by_cases e : f = g
      . subst e
        rw [List.lookup_cons_self] at h
        cases h
        exact ⟨v, [], fp, fq, List.lookup_cons_self, rfl, r0⟩
      . have h1 : (f == g) = false := by simpa using e
        simp only [List.lookup, h1] at h
        obtain ⟨v', f1, f2, f3, e1, e2, e3⟩ := RpA.lookup r h
        refine ⟨v', fp ++ f1, f2, f3, ?_, by rw [e2, List.append_assoc], e3⟩
        simp only [List.lookup, h1]
        exact e1
theorem lj' {K : PySem.W.Frag} {w : M.W} {fr' : Fp} (r : nG' K w H F T fr) (p : Part fr' fr) : nG' K w H F T fr' := by
  obtain ⟨fe, fw, re, rw, f⟩ := r
  exact ⟨fe, fw, re, rw, f.part (.app .refl (.app .refl p))⟩
theorem a6'.frame {D : Ends} {r : M.Out} (h : a6' K W D F T fr r) (p : Part fr fq) : a6' K W D F T fq r := by
  cases r with
  | nx ρ => exact fun σ' H' F' T' e r => h σ' H' F' T' e (r.part p)
  | bk ρ => exact fun σ' H' F' T' e r => h σ' H' F' T' e (r.part p)
  | ct ρ => exact fun σ' H' F' T' e r => h σ' H' F' T' e (r.part p)
  | rt o w => exact fun v H' F' T' fp e z r => h v H' F' T' fp e z (lj' r (.app .refl p))
  | exc x ρ => exact fun σ' cls dd H' F' T' e z r => h σ' cls dd H' F' T' e z (r.part p)
  | bad => exact h
theorem EX.frame {x : M.Exc} (h : EX K W σ F T fr x ρ) (p : Part fr fq) : EX K W σ F T fq x ρ := fun cls dd H' F' T' e z r => h cls dd H' F' T' e z (r.part p)
end
section
variable {X : Cx} {W : WX} {pos apos p pos' : Pos} {e o value : Expr} {es : List Expr} {ma : M.ME} {mo : M.MO} {as : M.MA} {k : Nat} {x : Str} {ps : List Str} {mf : M.MF}
end
end S
namespace S
open PySem PySem.Spec PyProof.Rows L2
variable [Wd] [Hot]
local macro_rules | `(tactic| walk_at "parts") => `(tactic| (constructor; (intro e h; simp only [List.mem_append, List.mem_cons, List.not_mem_nil] at *; grind); (intro x; simp only [keys, List.map_append, List.map_cons, List.map_nil, List.count_append, List.count_cons, List.count_nil] at *; omega)))
section
variable {K : PySem.W.Frag} {W : WX} {Q : VK} {σ : St} {H : Hp}
theorem iY' {F : Hp} {T : List Addr} : ∀ {vs : List V} {ds : List M.D} {ns : List Int}, FzA K F T vs ds -> M.bP' ds = some ns -> vs = ns.map V.int
  | _, _, ns, .nil, h => by cases h; rfl
  | _, d :: ds, ns, .cons a r, h => by
    cases d <;> try (cases h; done)
    rename_i b
    cases q : M.bP' ds with
    | none => simp only [M.bP', q] at h; cases h
    | some cs =>
      simp only [M.bP', q, Option.map_some] at h
      cases h
      rw [a.int_inv, iY' r q]
      rfl
theorem FzA.rgI {F : Hp} {T : List Addr} : ∀ ns : List Int, FzA K F T (ns.map V.int) (ns.map M.D.int)
  | [] => .nil
  | n :: r => .cons (.int n) (FzA.rgI r)
theorem u0' : Bi1 K M.qr' (rSum K) := by
  intro F H T fp x dx dz Q f hx h k
  cases dx <;> try (cases h; done)
  obtain ⟨a, vs, rfl, ha, za⟩ := hx.lst_inv
  rename_i ds
  cases q : M.bP' ds with
  | none => simp only [M.qr', q] at h; cases h
  | some ns =>
    simp only [M.qr', q, Option.map_some] at h
    cases h
    exact ⟨a, ns, rfl, by rw [<- iY' za q]; exact SqL.of (f.low _ _ ha), k.here f (.int _)⟩
theorem md' (a b : M.Tx) (i : Nat) : StrLaws.At (sx a) (sx b) (sx a).length i ↔ M.qv' a b i = true := by
  rw [<- pN', Bool.and_eq_true, decide_eq_true_eq]
  exact Iff.rfl
theorem mV' {p : Nat -> Bool} {n i : Nat} (h : p i = true) (hi : i < n) (hm : ∀ k, k < i -> p k = false) : (List.range n).find? p = some i := by
  rw [List.find?_eq_some_iff_getElem]
  refine ⟨h, i, by simpa using hi, by simp, fun j hj => ?_⟩
  rw [List.getElem_range, hm j hj]
  rfl
theorem i4' (a b : M.Tx) : Txt.find (sx a) (sx b) = M.fnd (M.gR' a b) := by
  rcases find_whole (sx a) (sx b) with ⟨h1, h2⟩ | ⟨i, h1, h2, h3⟩
  . rw [h1]
    have : M.gR' a b = none := by
      unfold M.gR'
      rw [List.find?_eq_none]
      intro i _ h
      exact h2 i ((md' a b i).mpr h)
    rw [this]
    rfl
  . rw [h1]
    have hi : M.qv' a b i = true := (md' a b i).mp h2
    have hl : i < a.length + 1 := by
      unfold M.qv' at hi
      rw [Bool.and_eq_true, decide_eq_true_eq] at hi
      omega
    have : M.gR' a b = some i := mV' hi hl fun k hk => by
      have := h3 k hk
      rw [md'] at this
      exact Bool.eq_false_iff.mpr this
    rw [this]
    rfl
theorem FzA.str1 {F : Hp} {T : List Addr} {xs : List V} {b : M.Tx} (h : FzA K F T xs [.str b]) : xs = [.str (sx b)] /\ okT b := by
  obtain ⟨v, rfl, z⟩ := h.one
  obtain ⟨rfl, o⟩ := z.str_inv
  exact ⟨rfl, o⟩
theorem oq' : MtD K M.jx' (fun x xs H Q => ∃ a b, x = .str a /\ xs = [.str b] /\ Q (.int (Txt.find a b)) H) := by
  intro F H T fp s xs ds dz Q f o hx h k
  unfold M.jx' at h
  split at h
  . obtain ⟨rfl, o2⟩ := hx.str1
    cases h
    exact ⟨_, _, rfl, rfl, by rw [i4']; exact k.here f (.int _)⟩
  . cases h
theorem js' {a b : M.Tx} {i : Nat} (h : M.gR' a b = some i) : ∃ rest, Builtin.Str.occurrences (sx a) (sx b) 0 (sx a).length 1 = i :: rest := by
  have h1 := i4' a b
  rw [h] at h1
  unfold Txt.find at h1
  cases e : Builtin.Str.occurrences (sx a) (sx b) 0 (sx a).length 1 with
  | nil => rw [e] at h1; exact absurd h1 (by show ¬ (-1 : Int) = (i : Int); omega)
  | cons j rest =>
    rw [e] at h1
    have h2 : (j : Int) = (i : Int) := h1
    exact ⟨rest, by rw [show j = i by omega]⟩
theorem lE' : MtD K M.eu' lr' := by
  intro F H T fp s xs ds dz Q f o hx h k
  unfold M.eu' at h
  split at h
  . obtain ⟨rfl, o2⟩ := hx.str1
    rename_i b
    cases q : M.gR' s b with
    | none => rw [q] at h; cases h
    | some i =>
      rw [q] at h
      cases h
      obtain ⟨rest, e⟩ := js' q
      exact ⟨_, _, i, rest, rfl, rfl, e, k.here f (.int _)⟩
  . cases h
def t6' : M.D -> Option Key
  | .int i => some (.inl i)
  | .str s => some (.inr (sx s))
  | _ => none
theorem pz' {d : M.D} {k : Key} (h : t6' d = some k) : kD k = d := by
  cases d <;> cases h <;> rfl
theorem rP' {F : Hp} {T : List Addr} {v : V} {d : M.D} {k : Key} (z : Fz K F T v d) (h : t6' d = some k) : v = kV k := by
  cases d <;> cases h
  . cases z; rfl
  . obtain ⟨rfl, _⟩ := z.str_inv; rfl
end
section
variable {X : Cx} {W : WX} {pos p pos' : Pos} {a b e : Expr} {ma mb : M.ME} {mo : M.MO} {σ : St} {H : Hp} {Q : VK}
theorem lb' {x : Str} (t : String) (ht : t ∈ ["bool", "int", "str", "tuple", "list", "dict"]) (hg : Gl X x) (hm : X.mg x = none) (hv : bootBuiltins x = some (.builtin "isinstance")) (ha : SE X W a ma) (hb : PE X b (tC (.ty t))) (hn : x ≠ "__name__" := by decide) (hdb : (x == ("__debug__" : Str)) = false := by decide)
    (he : starEach [a, b] X.env = (false, eval a X.env) :: starEach [b] X.env := by rfl) (he2 : starEach [b] X.env = (false, eval b X.env) :: starEach [] X.env := by rfl) (hpl : (backTo pos (starEach [b] X.env)).any (·.1) = false := by rfl) : SE X W (.Call (.Name x p) [a, b] [] pos) (M.eUn (M.bp' t) ma) :=
  PE.imp (pe_callB call_isi hg hm hv (pa_cons ha (pa_cons hb pa_nil he2) he) hn hdb he hpl) fun σ H Q ⟨ρ, F, T, fr, rel, h⟩ => by
    refine aS' rel h fun dx ρ1 v H1 F1 T1 e1 z1 r1 h1 => ?_
    obtain ⟨dz, ez, q⟩ := a0'.ofO h1
    unfold M.bp' at ez
    cases eq : M.tyn dx with
    | none => rw [eq] at ez; cases ez
    | some n =>
      rw [eq] at ez
      cases ez
      obtain ⟨fp, f, _⟩ := r1.fp
      exact tA' (qY' f.low z1 eq) (kit_ty (py' n (oT' eq) t ht)) (q _ H1 F1 T1 e1 (.bl _) r1)
theorem eP' : SO X W (.Dict [] [] pos) M.g5' := PE.imp pe_dnewK fun σ H Q ⟨ρ, F, T, fr, rel, h⟩ => fun p hp => by
  have z : Rp X.K F T (.ref p) (.dct [] []) [(p, .dK [])] := Rp.dct (kvs := []) .nil .nil
  exact h (.ref p) _ F T _ .refl z (rel.own hp)
theorem mN' {op : Operator} {f : M.D -> M.D -> Option M.D} {r : R2} (ho : OpR X (binaryOp op) r)
    (hf : ∀ {F H : Hp} {T : List Addr} {u v : V} {c d : M.D} {ds : List M.D} {Q : VK}, Same F H -> Fz X.K F T u c -> Fz X.K F T v d -> f c d = some (.lst ds) -> (∀ l ws, H l = none -> FzA X.K F T ws ds -> Q (.ref l) (upd H l (.lst ws))) -> r u v H Q)
    (ha : SE X W a ma) (hb : SE X W b mb) : SO X W (.BinOp a op b pos) (M.mo' (M.eOp f ma mb)) := PE.imp (pe_op ho ha hb) fun σ H Q ⟨ρ, F, T, fr, rel, h⟩ => by
  have h0 := a0'.bind h
  refine aS' rel h0 fun dx ρ1 v H1 F1 T1 e1 z1 r1 h1 => ?_
  refine aS' r1 h1 fun dy ρ2 u H2 F2 T2 e2 z2 r2 h2 => ?_
  obtain ⟨dz, ez, q⟩ := a0'.ofO h2
  cases dz <;> try exact q.elim
  obtain ⟨fp, f1, _⟩ := r2.fp
  refine hf f1.low (z1.mono e2) z2 ez fun l ws hl zw => ?_
  exact q (.ref l) _ F2 T2 _ (e1.trans e2) (.lst (RpA.of_fz zw)) (r2.own hl)
theorem po' {K : PySem.W.Frag} {F H : Hp} {T : List Addr} {u v : V} {c d : M.D} {ds : List M.D} {Q : VK} (s : Same F H) (z : Fz K F T u c) (z2 : Fz K F T v d) (h : M.eq' c d = some (.lst ds)) (k : ∀ l ws, H l = none -> FzA K F T ws ds -> Q (.ref l) (upd H l (.lst ws))) : o9' u v H Q := by
  cases c <;> cases d <;> try (cases h; done)
  . simp only [M.eq'] at h
    split at h <;> cases h
  . simp only [M.eq'] at h
    split at h <;> cases h
  . obtain ⟨a, vs, rfl, ha, za⟩ := z.lst_inv
    cases z2
    simp only [M.eq'] at h
    split at h
    . rename_i hc
      cases h
      refine .inl (.inr (.inr ⟨a, _, vs, rfl, rfl, s _ _ ha, by omega, by omega, by rw [za.length, bt']; exact hc.2.2, fun p hp => k p _ hp (za.rep _)⟩))
    . cases h
end
end S
namespace S
open PySem PySem.Spec PyProof.Rows L2
variable [Wd] [Hot]
section
variable {X : Cx} {W : WX} {K : PySem.W.Frag} {D : Ends} {σ : St} {H : Hp} {F : Hp} {T : List Addr} {fr : Fp}
abbrev Hm := List ((String -> Option Bool) × (M.Exc -> M.MS))
def tsM (K : PySem.W.Frag) (h : M.Exc -> M.MS) : Addr -> Value -> Option Addr -> TS := fun _ cls _ D σ H => ∃ e : M.Exc, cls = .ref (He.ga K e.cls) /\ qS K W0 (h e) D σ H
inductive HdsM (X : Cx) : List ExceptHandler -> Hm -> List (Value × (Addr -> Value -> Option Addr -> TS)) -> Prop
  | nil : HdsM X [] [] []
  | cons {x : Str} {c : Value} {g : String -> Option Bool} {h : M.Exc -> M.MS} {b₀ : Stmt} {suite : List Stmt} {np pos' : Pos} {hds : List ExceptHandler} {l : Hm} {l' : List (Value × (Addr -> Value -> Option Addr -> TS))} (hc : Names X x c)
      (hg : ∀ y b, g y = some b -> PySem.W.exmOne X.K (.ref (He.ga X.K y)) c = some b)
      (hsu : ∀ (e : M.Exc) (a : Addr) (oe : Obj) (d : Option Addr) (pn : List (Addr × Obj)), Zc (.ref (He.ga X.K e.cls)) d oe -> (∃ vs, oe.data = .fields vs) -> SSs (X.suite a ((a, oe) :: pn)) W0 (b₀ :: suite) (h e)) (r : HdsM X hds l l') :
      HdsM X (.ExceptHandler (some (.Name x np)) none (b₀ :: suite) pos' :: hds) ((g, h) :: l) ((c, tsM X.K h) :: l')
theorem iH' {h : M.Exc -> M.MS} {b : List Stmt} (hsu : ∀ (e : M.Exc) (a : Addr) (oe : Obj) (d : Option Addr) (pn : List (Addr × Obj)), Zc (.ref (He.ga X.K e.cls)) d oe -> (∃ vs, oe.data = .fields vs) -> SSs (X.suite a ((a, oe) :: pn)) W0 b (h e)) :
    ∀ (a : Addr) (oe : Obj) (cls : Value) (d : Option Addr) (pn : List (Addr × Obj)), Zc cls d oe -> (∃ vs, oe.data = .fields vs) -> PSs (X.suite a ((a, oe) :: pn)) b (tsM X.K h a cls d) := by
  intro a oe cls d pn hz hf
  refine ⟨fun pins s σ H D I q => ?_⟩
  obtain ⟨e, rfl, q⟩ := q
  exact (hsu e a oe d pn hz hf).run pins s σ H D I q
theorem HdsM.ok {hds : List ExceptHandler} {l : Hm} {l' : List (Value × (Addr -> Value -> Option Addr -> TS))} (h : HdsM X hds l l') : HdsOk X hds l' := by
  induction h with
  | nil => exact .nil
  | cons hc hg hsu r ih => exact .cons hc (iH' hsu) ih
theorem a6'.noX {r : M.Out} (h : a6' K W D F T fr (M.m7' r)) : a6' K W0 D F T fr r := by
  cases r with
  | exc x ρ => exact h.elim
  | nx ρ => exact h
  | bk ρ => exact h
  | ct ρ => exact h
  | rt o w => exact h
  | bad => exact h
theorem Rel.off {K : PySem.W.Frag} {ρ : M.PSt} (r : Rel K ρ σ H F T fr) (i : Nat) (x : Option V) : Rel K ⟨ρ.env.set i none, ρ.w⟩ (σ.set i x) H F T fr := by
  obtain ⟨fe, fw, re, rw, f⟩ := r
  obtain ⟨fq, h1, h2⟩ := re.drop i x
  exact ⟨fq, fw, h1, rw, f.part (.app h2 .refl)⟩
end
def s1' (K : PySem.W.Frag) (t : M.ET) : Prop := ∀ e ∈ t, PySem.W.exmOne K (.ref (He.ga K e.1)) (.ref (He.ga K e.2.1)) = some e.2.2
theorem n9' {K : PySem.W.Frag} : ∀ {t : M.ET} (h : s1' K t) {y c : String} {b : Bool}, M.sub t y c = some b -> PySem.W.exmOne K (.ref (He.ga K y)) (.ref (He.ga K c)) = some b
  | [], _, _, _, _, e => by cases e
  | (a, b', r) :: t, h, y, c, b, e => by
    unfold M.sub at e
    split at e
    . rename_i q
      obtain ⟨rfl, rfl⟩ := q
      cases e
      exact h _ List.mem_cons_self
    . exact n9' (fun e he => h e (List.mem_cons_of_mem _ he)) e
def nI' (K : PySem.W.Frag) (t : M.ET) : Prop := ∀ e ∈ t, ExcC K (He.ga K e.1) /\ PySem.W.kitOne K (.ref (He.ga K e.1)) (.ref (He.ga K e.2.1)) = some e.2.2
theorem ot' {K : PySem.W.Frag} : ∀ {t : M.ET} (h : nI' K t) {y c : String} {b : Bool}, M.sub t y c = some b -> ExcC K (He.ga K y) /\ PySem.W.kitOne K (.ref (He.ga K y)) (.ref (He.ga K c)) = some b
  | [], _, _, _, _, e => by cases e
  | (a, b', r) :: t, h, y, c, b, e => by
    unfold M.sub at e
    split at e
    . rename_i q
      obtain ⟨rfl, rfl⟩ := q
      cases e
      exact h _ List.mem_cons_self
    . exact ot' (fun e he => h e (List.mem_cons_of_mem _ he)) e
end S
namespace S
open PySem PySem.Spec PyProof.Rows L2
variable [Wd] [Hot]
section
variable {X : Cx} {W : WX} {pos p : Pos} {a b e : Expr} {st : Stmt} {es : List Expr} {ma mb : M.ME} {as : M.MA}
theorem tL' {i : Nat} (h : PE X e (tVar i)) : SO X W e (M.oV i) := PE.imp h fun σ H Q ⟨ρ, F, T, fr, rel, h⟩ => by
  unfold M.oV at h
  split at h
  . rename_i d e
    obtain ⟨fe, fw, re, rw, f⟩ := id rel
    obtain ⟨v, f1, f2, f3, h1, rfl, h3, h4, h5⟩ := re.get e
    cases h3 with
    | fz z => exact ⟨v, h1, h v H F T [] .refl (.fz z) rel⟩
  . exact h.elim
  . exact h.elim
  . rename_i o _ hne hnc e
    obtain ⟨fe, fw, re, rw, f⟩ := rel
    obtain ⟨v, f1, f2, f3, h1, rfl, h3, h4, h5⟩ := re.get e (M.gV' (fun z => hne (by rw [z])) fun z => hnc (by rw [z]))
    refine ⟨v, h1, h v H F T f2 .refl h3 ⟨_, fw, h4, rw, f.part ?_⟩⟩
    constructor
    . intro e h
      simp only [List.mem_append] at *
      grind
    . intro x
      simp only [keys, List.map_append, List.count_append] at *
      omega
  . exact h.elim
theorem iL' (h : SA X W es as) : SO X W (.List es pos) (M.mo' (M.cK' as)) := PE.imp (pe_lst h) fun σ H Q ⟨ρ, F, T, fr, rel, h⟩ => by
  have h0 := a0'.bind h
  refine cp' rel h0 fun ds ρ1 vs H1 F1 T1 e1 z1 r1 h1 => ?_
  split at h1
  . rename_i hl
    refine ⟨by rw [z1.length, bt']; exact hl, fun p hp => ?_⟩
    exact h1 (.ref p) _ F1 T1 _ e1 (.lst (RpA.of_fz z1)) (r1.own hp)
  . exact h1.elim
end
section
variable {K : PySem.W.Frag} {F : Hp} {T : List Addr}
theorem gi' : ∀ (ds : List M.D) (k : Nat), (M.cD' k ds).length = ds.length
  | [], _ => rfl
  | _ :: ds, k => congrArg (· + 1) (gi' ds (k + 1))
theorem gj' : ∀ (ds : List M.D) (k i : Nat) (d : M.D), (M.cD' k ds)[i]? = some d -> ∃ x, ds[i]? = some x /\ d = .tup [.int ((k + i : Nat) : Int), x]
  | [], _, i, d, h => by simp [M.cD'] at h
  | x :: ds, k, 0, d, h => ⟨x, rfl, (Option.some.inj h).symm⟩
  | x :: ds, k, i + 1, d, h => by
    obtain ⟨y, h1, h2⟩ := gj' ds (k + 1) i d h
    exact ⟨y, h1, by rw [h2, show k + 1 + i = k + (i + 1) by omega]⟩
theorem rW' {J : It} {ds : List M.D} (hs : ∀ F' T' H' fp i, Ext F T F' T' -> FpH F' H' fp -> i = ds.length -> J.stop i H')
    (hy : ∀ F' T' H' fp i dx, Ext F T F' T' -> FpH F' H' fp -> ds[i]? = some dx -> J.go i H' /\ ∀ v H2, J.yld i H' v H2 -> ∃ p x, v = .ref p /\ H' p = none /\ H2 = upd H' p (.tup [.int (i : Nat), x]) /\ Fz K F' T' x dx) : gP' K J (M.cD' 0 ds) F T := fun F' T' H' fp i e f hi => by
  rw [gi'] at hi ⊢
  refine ⟨fun q => hs F' T' H' fp i e f q, fun d hd => ?_⟩
  obtain ⟨dx, h1, rfl⟩ := gj' _ _ _ _ hd
  obtain ⟨g, y⟩ := hy F' T' H' fp i dx e f h1
  refine ⟨g, fun v H2 q => ?_⟩
  obtain ⟨p, x, rfl, hp, rfl, zx⟩ := y v H2 q
  have s : Same F' (upd F' p (.tup [.int (i : Nat), x])) := cf' (f.free hp)
  refine ⟨_, s, .tup (SqT.of upd_same) (.cons ?_ (.cons (zx.mono (.of s)) .nil)), f.new hp⟩
  rw [Nat.zero_add]
  exact .int _
theorem rU' {s : M.Tx} (o : okT s) : gP' K (ItP (fun i => some (.int (i : Nat))) (chS (sx s)) (sx s).cps.size) (M.cD' 0 (s.map M.chD)) F T := by
  have e1 : (sx s).cps.size = s.length := bF' s
  refine rW' (fun F' T' H' fp i e f hi => ?_) fun F' T' H' fp i dx e f h1 => ?_
  . rw [List.length_map] at hi
    show i = (sx s).cps.size
    omega
  . rw [List.getElem?_map] at h1
    cases q1 : s[i]? with
    | none => rw [q1] at h1; cases h1
    | some c =>
      rw [q1] at h1
      cases h1
      have l1 := (List.getElem?_eq_some_iff.mp q1).1
      refine ⟨by show i < (sx s).cps.size; omega, fun v H2 y => ?_⟩
      obtain ⟨p, x, y', rfl, hp, rfl, c1, c2⟩ := y
      cases c1
      unfold chS at c2
      rw [cU', q1] at c2
      cases c2
      exact ⟨p, _, rfl, hp, rfl, jD' (o.1 c (List.mem_of_getElem? q1))⟩
theorem rV' {a : Addr} {vs : List V} {ds : List M.D} (ha : F a = some (.lst vs)) (z : FzA K F T vs ds) : gP' K (Ite K a) (M.cD' 0 ds) F T := by
  refine rW' (fun F' T' H' fp i e f hi => ?_) fun F' T' H' fp i dx e f h1 => ?_
  . exact ⟨vs, SqL.of (f.low _ _ (e.f.lst ha)), by rw [z.length]; omega⟩
  . obtain ⟨x, x1, x2⟩ := z.get h1
    have a1 : SqL K H' a vs := SqL.of (f.low _ _ (e.f.lst ha))
    refine ⟨⟨vs, x, a1, x1⟩, fun v H2 q => ?_⟩
    obtain ⟨p, x', rfl, hp, rfl, q1⟩ := q
    have := q1 vs a1
    rw [x1] at this
    cases this
    exact ⟨p, _, rfl, hp, rfl, x2.mono e⟩
end
section
variable {X : Cx} {W : WX} {pos p tpos : Pos} {a : Expr} {ma : M.ME} {σ : St} {H : Hp} {elts : List Expr} {kk : Nat}
theorem iG' {K : PySem.W.Frag} {m : M.ME} {ρ ρ1 : M.PSt} {F : Hp} {T : List Addr} {fr : Fp} {d : M.D} {R : List V -> Hp -> Prop} (rel : Rel K ρ σ H F T fr) (em : m ρ = .ok d ρ1) (h : ∀ v H' F' T', Ext F T F' T' -> Fz K F' T' v d -> Rel K ρ1 σ H' F' T' fr -> R [v] H') : tCons (qE K W m) tNil σ H R :=
  ⟨ρ, F, T, fr, rel, by rw [em]; exact h⟩
theorem oZ' (hg : Gl X "enumerate") (hm : X.mg "enumerate" = none) (h : SE X W a ma) (hs : starEach [a] X.env = [(false, eval a X.env)] := by rfl) : SI X W (.Tuple elts kk tpos) (.Call (.Name "enumerate" p) [a] [] pos) (M.lV' ma) :=
  PI.imp (mX' (mY' hg hm (pa_cons h pa_nil hs) hs) (pi_enum hg hm (pa_cons h pa_nil hs) hs)) fun σ H R ⟨ρ, F, T, fr, rel, q⟩ => by
    have q2 := a0'.bind q
    cases em : ma ρ with
    | bad => rw [em] at q2; exact q2.elim
    | exc x ρ1 =>
      rw [em] at q2
      exact .inl ⟨ρ, F, T, fr, rel, by rw [em]; exact q2⟩
    | ok d ρ1 =>
      rw [em] at q2
      obtain ⟨ds, e1, q3⟩ := a0'.ofO (show a0' _ _ _ from q2)
      cases d <;> try (cases e1; done)
      . cases e1
        refine .inl (iG' rel em fun v H' F' T' e z r => ?_)
        obtain ⟨rfl, o⟩ := z.str_inv
        exact ⟨_, rfl, q3 _ _ _ _ e (rU' o) r⟩
      . cases e1
        refine .inr (iG' rel em fun v H' F' T' e z r => ?_)
        obtain ⟨p, vs, rfl, ha, za⟩ := z.lst_inv
        obtain ⟨fp, f, _⟩ := r.fp
        exact ⟨p, vs, rfl, SqL.of (f.low _ _ ha), q3 _ _ _ _ e (rV' ha za) r⟩
end
theorem gg' {K : PySem.W.Frag} {F : Hp} {T : List Addr} {x : Str} {s : M.Tx} (hs : x = sx s) (ho : tk' s = true) : Fz K F T (.str x) (.str s) := by subst hs; exact .str (oo' ho)
end S
namespace S
open PySem PySem.Spec PyProof.Rows L2
variable [Wd] [Hot]
section
variable {X : Cx} {W : WX} {K : PySem.W.Frag} {pos p : Pos} {a b : Expr} {ma : M.ME} {F H : Hp} {T : List Addr}
end
def qt' [Wd] (H : Hp) : Hp := fun b => if b ∈ Wd.ts.map (·.1) then none else H b
theorem lA' [Wd] (H : Hp) : Same (qt' H) H := fun b o h => by
  unfold qt' at h
  split at h
  . cases h
  . exact h
theorem lB' [Wd] {H : Hp} (hT : ∀ p ∈ Wd.ts, H p.1 = some (.tbl #[])) {b : Addr} {o : HO} (h : H b = some o) (ho : o ≠ .tbl #[]) : qt' H b = some o := by
  unfold qt'
  rw [if_neg fun z => ?_]
  . exact h
  . obtain ⟨p, hp, e⟩ := List.mem_map.mp z
    have := hT p hp
    rw [e, h] at this
    exact ho (Option.some.inj this)
theorem m8' [Wd] {K : PySem.W.Frag} {H : Hp} (hT : ∀ p ∈ Wd.ts, H p.1 = some (.tbl #[])) {a : Addr} {vs : List V} (h : SqL K H a vs) : SqL K (qt' H) a vs := by
  rcases h with (h | ⟨o, h⟩) | h
  . exact .inl (.inl (lB' hT h (by intro z; cases z)))
  . exact .inl (.inr ⟨o, lB' hT h (by intro z; cases z)⟩)
  . exact .inr h
theorem lM' [Wd] (K : PySem.W.Frag) (H : Hp) (hT : ∀ p ∈ Wd.ts, H p.1 = some (.tbl #[])) (a : Addr) (ns : List Int) (hn : ns.length <= 63) (hs : SqL K H a (ns.map V.int)) {m : M.MF} (h : ∀ ns : List Int, ns.length <= 63 -> ∃ w, m [.scr (ns.map .int)] [] = .ok (.fz (.bl true)) w) :
    spM K m [.ref a] H (fun v _ => v = .bl true) L2.E0 := by
  obtain ⟨w, e⟩ := h ns hn
  refine ⟨[.scr (ns.map .int)], [], qt' H, [], [], .cons (.scr (m8' hT hs) (FzA.rgI ns)) .nil, ⟨[], [], t4', .nil, ⟨lA' H, fun _ h => (nomatch h), .nil, fun p hp => ⟨if_pos (List.mem_map_of_mem hp), fun _ h => (nomatch h), #[], hT p hp, True.intro, fun pos cv hc => ?_⟩⟩⟩, ?_⟩
  . have z : codeAmong pos [] = some cv := hc
    simp [codeAmong] at z
  rw [e]
  intro v H' F' T' fp _ z _
  cases z with
  | fz z => exact z.bl_inv
end S
namespace S
open PySem PySem.Spec PyProof.Rows L2
variable [Wd] [Hot]
section
variable {X : Cx} {W : WX} {K : PySem.W.Frag} {cpos apos p : Pos} {name : Str} {id T : String} {o e : Expr} {es : List Expr} {mo : M.ME} {as : M.MA} {σ : St} {H : Hp} {Q : VK}
end
end S
namespace S
open PySem PySem.Spec PyProof.Rows L2
variable [Wd] [Hot]
section
variable {X : Cx} {W : WX} {K : PySem.W.Frag}
end
end S
namespace S
open PySem PySem.Spec PyProof.Rows L2
variable [Wd] [Hot]
section
variable {P : Program} {w : World} {K : PySem.W.Frag} {mg : Str -> Option Value} {base : Heap}
end
section
variable {X : Cx} {W : WX} {K : PySem.W.Frag}
end
end S
namespace S
open PySem PySem.Spec PyProof.Rows L2
variable [Wd] [Hot]
local macro_rules | `(tactic| walk_at "parts") => `(tactic| (constructor; (intro e h; simp only [List.mem_append, List.mem_cons, List.not_mem_nil] at *; grind); (intro x; simp only [keys, List.map_append, List.map_cons, List.map_nil, List.count_append, List.count_cons, List.count_nil] at *; omega)))
section
variable {K : PySem.W.Frag} {F F' H H' : Hp} {T T' : List Addr} {fp fq fr : Fp} {ρ : M.PSt} {σ : St} {W : WX} {Q : VK}
theorem rZ' {d : M.D} (h : M.isK d = true) : ∃ k, t6' d = some k := by cases d <;> first | exact ⟨_, rfl⟩ | (cases h)
theorem RpA.dget {vs : List V} {os : List M.O} {ks : List M.D} {dk : M.D} (h : RpA K F T vs os fp) : (M.dget ks vs dk).isSome = (M.dget ks os dk).isSome /\ ∀ d, M.dget ks os dk = some (.fz d) -> ∃ u, M.dget ks vs dk = some u /\ Fz K F T u d := by
  unfold M.dget
  cases M.qu' ks dk with
  | none => exact ⟨rfl, fun d e => nomatch e⟩
  | some j =>
    simp only [Option.bind_some]
    refine ⟨?_, fun d e => h.get e⟩
    rw [Bool.eq_iff_iff, Option.isSome_iff_exists, Option.isSome_iff_exists]
    constructor
    . rintro ⟨x, e⟩
      exact ⟨_, List.getElem?_eq_getElem (h.length ▸ (List.getElem?_eq_some_iff.mp e).1)⟩
    . rintro ⟨x, e⟩
      exact ⟨_, List.getElem?_eq_getElem (h.length ▸ (List.getElem?_eq_some_iff.mp e).1)⟩
theorem rE' {v : V} {k : Key} (z : Fz K F T v (kD k)) : okK k := by
  cases k with
  | inl i => exact True.intro
  | inr x =>
    obtain ⟨_, o⟩ := Fz.str_inv (s := x.cps.toList) z
    exact o
end
section
variable {X : Cx} {W : WX} {pos tpos : Pos} {a b o i : Expr} {ma mb mo mi : M.ME} {σ : St} {H : Hp} {Q : VK}
theorem dx' {k e : Expr} {mk me : M.ME} (hk : SE X W k mk) (hv : SE X W e me) : SO X W (.Dict [some k] [e] pos) (M.dE' false mk me) :=
  PE.imp (pe_disp (pps_cons hk hv pps_nil) rfl rfl (by intro z; cases z) (by simp)) fun σ H Q ⟨ρ, F, T, fr, rel, h⟩ => fun p hp => by
    have fr1 : Part fr ((p, HO.dK []) :: fr) := by walk_at "parts"
    refine ⟨ρ, F, T, (p, .dK []) :: fr, rel.own hp, (a0'.bind h).mono (fun dk ρ1 h1 y H1 F1 T1 e1 zk r1 => ?_) fun _ _ z => z.frame fr1⟩
    refine ⟨ρ1, F1, T1, (p, .dK []) :: fr, r1, (a0'.bind (h1.mono (fun _ _ z => z) fun _ _ z => z)).mono (fun d ρ2 h2 v H2 F2 T2 e2 zv r2 => ?_) fun _ _ z => (z.mono e1).frame fr1⟩
    obtain ⟨o, eo, q⟩ := a0'.ofO h2
    simp only [M.cZ', Bool.false_eq_true, if_false] at eo
    split at eo
    . rename_i hc
      cases eo
      obtain ⟨key, hk⟩ := rZ' hc
      have e3 := rP' zk hk
      have e4 := pz' hk
      subst e3 e4
      refine ⟨r2.at_ (e := (p, .dK [])) List.mem_cons_self, [(key, v)], rfl, (by show 1 <= 15; decide), ?_⟩
      refine q (.ref p) _ F2 T2 [(p, .dK [(key, v)])] (e1.trans e2) ?_ ?_
      . exact .dct (kvs := [(key, v)]) (fun p hp => by rw [List.mem_singleton.mp hp]; exact rE' zk) (RpA.cons (fp := []) (fq := []) (.fz zv) .nil)
      . exact r2.write
    . cases eo
end
end S
namespace S
open PySem PySem.Spec PyProof.Rows L2
variable [Wd] [Hot]
section
variable {K : PySem.W.Frag} {F F' H H' : Hp} {T T' : List Addr} {fp fq fr : Fp} {ρ : M.PSt} {σ : St} {W : WX} {Q : VK}
theorem Wk.frz {a : Addr} {o : Obj} {u : HO} (s : Wk F F') (h : F a = some (.frz o u)) : F' a = some (.frz o u) := s.at_ h fun _ e => nomatch e
end
section
variable {X : Cx} {W : WX} {tg a : Expr} {ma : M.ME} {apos cpos : Pos}
end
section
variable {K : PySem.W.Frag} {F F' H H' : Hp} {T T' : List Addr} {fp fq fr : Fp} {ρ : M.PSt} {σ : St} {W : WX}
end
section
variable {X : Cx} {W : WX} {pos : Pos} {kx vx tg iter : Expr} {ifs : List Expr} {scope : Scope} {own : List (Str × Nat)} {sl : List Nat} {it : M.MI} {g : M.MG} {t : M.MT} {ek ev : M.ME}
end
section
variable {K : PySem.W.Frag}
end
section
variable {X : Cx} {W : WX} {e : Expr} {te : TE} {apos cpos pos p : Pos} {me : M.ME}
end
end S
namespace S
open PySem PySem.Spec PyProof.Rows L2
variable [Wd] [Hot]
section
variable {K : PySem.W.Frag} {F H : Hp} {T : List Addr}
end
section
variable {K : PySem.W.Frag} {F H : Hp} {T : List Addr}
theorem FzA.keys : ∀ {kvs : List (Key × V)}, mg' kvs -> FzA K F T (kvs.map fun p => kV p.1) (kvs.map fun p => kD p.1)
  | [], _ => .nil
  | (k, v) :: r, h => by
    have hk := h (k, v) (List.mem_cons_self ..)
    refine .cons ?_ (FzA.keys fun p hp => h p (List.mem_cons_of_mem _ hp))
    cases k with
    | inl i => exact .int i
    | inr x =>
      have : Fz K F T (.str (sx x.cps.toList)) (.str x.cps.toList) := .str hk
      exact this
theorem FzA.len : ∀ {vs : List V} {ds : List M.D}, FzA K F T vs ds -> vs.length = ds.length
  | _, _, .nil => rfl
  | _, _, .cons _ r => congrArg (· + 1) (FzA.len r)
def kP : Key -> PyData := fun k => py (kD k)
inductive Dq0 (K : PySem.W.Frag) (H : Hp) : V -> PyData -> Prop
  | dp {v : V} {d : PyData} : Dp K H v d -> d.hasDict = false -> Dq0 K H v d
  | dct {a : Addr} {kvs : List (Key × V)} {ds : List M.D} : Rd H a (.dK kvs) -> mg' kvs -> DpAll K H (kvs.map (·.2)) (pys ds) -> ds.all M.lJ' = true -> Dq0 K H (.ref a) (.dict ((pys (kvs.map fun p => kD p.1)).zip (pys ds)))
inductive LqAll (K : PySem.W.Frag) (H : Hp) : List V -> List M.D -> Prop
  | nil : LqAll K H [] []
  | leaf {v : V} {d : M.D} {vs : List V} {ds : List M.D} : Dp K H v (py d) -> M.lJ' d = true -> LqAll K H vs ds -> LqAll K H (v :: vs) (d :: ds)
  | emp {a : Addr} {vs : List V} {ds : List M.D} : Rd H a (.dK []) -> LqAll K H vs ds -> LqAll K H (.ref a :: vs) (.dct [] [] :: ds)
inductive Dq (K : PySem.W.Frag) (H : Hp) : V -> PyData -> Prop
  | old {v : V} {d : PyData} : Dq0 K H v d -> Dq K H v d
  | tupE {a : Addr} {vs : List V} {ds : List M.D} : SqT K H a vs -> LqAll K H vs ds -> Dq K H (.ref a) (.tuple (pys ds))
end
section
variable {X : Cx} {pins : List (Addr × Obj)} {σ : St} {H : Hp} {s : Shared}
theorem cs' (I : Inv X pins σ H s) {d : M.D} {v : V} {u : Value} (l : M.lJ' d = true) (h : Dp X.K H v (py d)) (r : RelV v u) : Reads s.heap u (py d) [] := by
  cases d with
  | non => cases h; cases r; exact .none
  | bl b => cases h; cases r; exact .bool b
  | int i => cases h; obtain ⟨t, rfl⟩ := r; exact .int i t
  | str x => cases h; obtain ⟨t, rfl⟩ := r; exact .str _ t
  | _ => cases l
theorem en' (I : Inv X pins σ H s) : ∀ {kvs : List (Key × V)} {vs : List (Key × Value)} {ds : List M.D}, KV kvs vs -> DpAll X.K H (kvs.map (·.2)) (pys ds) -> ds.all M.lJ' = true →
    PyProof.V.PairsRead s.heap kP vs ((pys (kvs.map fun p => kD p.1)).zip (pys ds)) []
  | _, _, [], .nil, _, _ => .nil
  | _, _, _ :: _, .nil, h, _ => by cases h
  | _, _, [], .cons _ _, h, _ => by cases h
  | (k, v) :: kvs, (k', u) :: vs, d :: ds, .cons hr hp, h, l => by
    obtain ⟨he, hr⟩ := hr
    have he : k = k' := he
    subst he
    rw [List.all_cons, Bool.and_eq_true] at l
    cases h with
    | cons h1 h2 =>
      have := PyProof.V.PairsRead.cons (enc := kP) (k := k) (cs' I l.1 h1 hr) (en' I hp h2 l.2)
      exact this
theorem Dq0.reads (I : Inv X pins σ H s) {d : PyData} {v : V} {u : Value} (h : Dq0 X.K H v d) (r : RelV v u) : ∃ as, Reads s.heap u d as /\ (d.hasDict = true -> sysModules ∉ as) := by
  cases h with
  | dp dp e =>
    obtain ⟨as, rd⟩ := Dp.reads I d v u dp r
    exact ⟨as, rd, PyData.noDict_hsm e⟩
  | @dct a kvs ds e k dd l =>
    cases r
    obtain ⟨_, hs, vs, rk, hd⟩ := dk_rd I.hok e
    refine ⟨[a], PyProof.V.reads_dictOf (enc := kP) (fun k key hk => ?_) hd (en' I rk dd l), fun _ hm => ?_⟩
    . rcases keyIs_shape hk with ⟨i, t, rfl, rfl⟩ | ⟨x, t, rfl, rfl⟩
      . exact .int i t
      . exact .str _ t
    . have := List.mem_singleton.mp hm
      rw [<- this] at hs
      simp at hs
theorem m9' (I : Inv X pins σ H s) : ∀ {vs : List V} {us : List Value} {ds : List M.D}, LqAll X.K H vs ds -> Vals vs us -> ∃ as, ReadsAll s.heap us (pys ds) as /\ sysModules ∉ as := by
  intro vs us ds h
  induction h generalizing us with
  | nil =>
    intro r
    cases r
    exact ⟨[], .nil, by simp⟩
  | leaf h1 h2 _ ih =>
    intro r
    cases r with
    | cons r1 r2 =>
      obtain ⟨bs, q2, q3⟩ := ih r2
      exact ⟨_, .cons (cs' I h2 h1 r1) q2, by simpa using q3⟩
  | emp h1 _ ih =>
    intro r
    cases r with
    | cons r1 r2 =>
      obtain ⟨bs, q2, q3⟩ := ih r2
      obtain ⟨as, q1, q4⟩ := Dq0.reads I (Dq0.dct (ds := []) h1 (fun p hp => by cases hp) .nil rfl) r1
      exact ⟨_, .cons q1 q2, by
        rw [List.mem_append]
        rintro (h | h)
        . exact q4 rfl h
        . exact q3 h⟩
theorem Dq.reads (I : Inv X pins σ H s) {d : PyData} {v : V} {u : Value} (h : Dq X.K H v d) (r : RelV v u) : ∃ as, Reads s.heap u d as /\ (d.hasDict = true -> sysModules ∉ as) := by
  cases h with
  | old h => exact h.reads I r
  | tupE hs la =>
    cases r
    obtain ⟨its, rv, ⟨o, ho, hc, n, hd⟩, _⟩ := I.tuple hs
    obtain ⟨as, hr, hm⟩ := m9' I la rv
    exact ⟨_, Reads.tuple ho hc hd hr, fun _ => hm⟩
end
def rRep (K : PySem.W.Frag) : List V -> Hp -> VK -> Prop := fun xs H Q => ∃ v d, xs = [v] /\ Dq K H v d /\ d.showable = true /\ d.depth <= 40 /\ d.shown.length <= sizeLine /\ Q (.str d.shown) H
section
variable {X : Cx}
end
section
variable {K : PySem.W.Frag}
end
end S
namespace S
open PySem PySem.Spec PyProof.Rows L2
variable [Wd] [Hot]
local macro_rules | `(tactic| walk_at "parts") => `(tactic| (constructor; (intro e h; simp only [List.mem_append, List.mem_cons, List.not_mem_nil] at *; grind); (intro x; simp only [keys, List.map_append, List.map_cons, List.map_nil, List.count_append, List.count_cons, List.count_nil] at *; omega)))
section
variable {K : PySem.W.Frag} {σ : St} {H : Hp} {Q : VK} {W : WX}
end
section
variable {X : Cx} {W : WX} {pos p : Pos} {a b e : Expr} {ma mb : M.ME} {mo : M.MO} {k : Nat} {args : List Str} {mf : M.MF}
end
end S
namespace S
open PySem PySem.Spec PyProof.Rows L2
variable [Wd] {cc : List (Nat × CloD)}
abbrev e3' (a : Addr) (n : Nat) (dd : Option Addr) (x : M.Exc) (cs : List (Nat × CloD) := []) : Hot := ⟨some (a, n, dd, x), cs⟩
section
variable {K : PySem.W.Frag} {F H : Hp} {T : List Addr} {fp fr : Fp} {σ : St} {env : List (Option M.O)} {a : Addr} {n i : Nat} {dd : Option Addr} {x : M.Exc}
theorem RpE.warm (h : Hot) (hc : h.clo = cc) (r : @RpE _ K (bH' cc) F T σ env fp) : @RpE _ K h F T σ env fp := by
  induction r with
  | nil => exact @RpE.nil _ K h F T
  | off _ ih => exact @RpE.off _ K h F T _ _ _ _ ih
  | on q _ ih => exact @RpE.on _ K h F T _ _ _ _ _ _ q ih
  | hot z _ _ _ => cases z
  | clo z y _ ih => exact @RpE.clo _ K h F T _ _ _ _ (by rw [hc]; exact z) y ih
theorem RpE.cool (r : @RpE _ K (e3' a n dd x cc) F T σ env fp) (hl : env.length <= n) : @RpE _ K (bH' cc) F T σ env fp := by
  induction r with
  | nil => exact @RpE.nil _ K (bH' cc) F T
  | off _ ih => exact @RpE.off _ K (bH' cc) F T _ _ _ _ (ih (by simp at hl; omega))
  | on q _ ih => exact @RpE.on _ K (bH' cc) F T _ _ _ _ _ _ q (ih (by simp at hl; omega))
  | hot z _ _ _ =>
    have := (Prod.mk.inj (Prod.mk.inj (Option.some.inj z)).2).1
    simp at hl
    omega
  | clo z y _ ih => exact @RpE.clo _ K (bH' cc) F T _ _ _ _ z y (ih (by simp at hl; omega))
theorem RpE.heat (r : @RpE _ K (bH' cc) F T σ env fp) (hn : env.length = i + n + 1) (z : XcR K F T x (.ref (He.ga K x.cls)) dd) : ∃ fq, @RpE _ K (e3' a n dd x cc) F T (σ.set i (some (.ref a))) (env.set i (some .exn)) fq /\ Part fq fp := by
  induction r generalizing i with
  | nil => simp at hn
  | @off y σ env fp r ih =>
    cases i with
    | zero =>
      have hl : n = env.length := by simp at hn; omega
      exact ⟨_, @RpE.hot _ K (e3' a n dd x cc) F T _ _ _ _ _ _ (by show some (a, n, dd, x) = _; rw [hl]) z (r.warm _ rfl), .refl⟩
    | succ i =>
      obtain ⟨fq, h1, h2⟩ := ih (i := i) (by simp at hn; omega)
      exact ⟨fq, @RpE.off _ K (e3' a n dd x cc) F T _ _ _ _ h1, h2⟩
  | @on v0 o0 σ env fa fb q r ih =>
    cases i with
    | zero =>
      have hl : n = env.length := by simp at hn; omega
      exact ⟨_, @RpE.hot _ K (e3' a n dd x cc) F T _ _ _ _ _ _ (by show some (a, n, dd, x) = _; rw [hl]) z (r.warm _ rfl), .right .refl⟩
    | succ i =>
      obtain ⟨fq, h1, h2⟩ := ih (i := i) (by simp at hn; omega)
      exact ⟨_, @RpE.on _ K (e3' a n dd x cc) F T _ _ _ _ _ _ q h1, .app .refl h2⟩
  | hot z _ _ _ => cases z
  | clo zc y r ih =>
    cases i with
    | zero =>
      rename_i env _
      have hl : n = env.length := by simp at hn; omega
      exact ⟨_, @RpE.hot _ K (e3' a n dd x cc) F T _ _ _ _ _ _ (by show some (a, n, dd, x) = _; rw [hl]) z (r.warm _ rfl), .refl⟩
    | succ i =>
      obtain ⟨fq, h1, h2⟩ := ih (i := i) (by simp at hn; omega)
      exact ⟨fq, @RpE.clo _ K (e3' a n dd x cc) F T _ _ _ _ (by rw [List.length_set]; exact zc) y h1, h2⟩
theorem RpE.chill (r : @RpE _ K (e3' a n dd x cc) F T σ env fp) (hn : env.length = i + n + 1) : ∃ fq, @RpE _ K (bH' cc) F T (σ.set i none) (env.set i none) fq /\ Part fq fp := by
  induction r generalizing i with
  | nil => simp at hn
  | @off y σ env fp r ih =>
    cases i with
    | zero => exact ⟨_, @RpE.off _ K (bH' cc) F T _ _ _ _ (r.cool (by simp at hn; omega)), .refl⟩
    | succ i =>
      obtain ⟨fq, h1, h2⟩ := ih (i := i) (by simp at hn; omega)
      exact ⟨fq, @RpE.off _ K (bH' cc) F T _ _ _ _ h1, h2⟩
  | @on v0 o0 σ env fa fb q r ih =>
    cases i with
    | zero => exact ⟨_, @RpE.off _ K (bH' cc) F T _ _ _ _ (r.cool (by simp at hn; omega)), .right .refl⟩
    | succ i =>
      obtain ⟨fq, h1, h2⟩ := ih (i := i) (by simp at hn; omega)
      exact ⟨_, @RpE.on _ K (bH' cc) F T _ _ _ _ _ _ q h1, .app .refl h2⟩
  | @hot a' dd' x' σ env fp z zz r ih =>
    cases i with
    | zero => exact ⟨_, @RpE.off _ K (bH' cc) F T _ _ _ _ (r.cool (by simp at hn; omega)), .refl⟩
    | succ i =>
      have := (Prod.mk.inj (Prod.mk.inj (Option.some.inj z)).2).1
      simp at hn
      omega
  | clo zc y r ih =>
    cases i with
    | zero => exact ⟨_, @RpE.off _ K (bH' cc) F T _ _ _ _ (r.cool (by simp at hn; omega)), .refl⟩
    | succ i =>
      obtain ⟨fq, h1, h2⟩ := ih (i := i) (by simp at hn; omega)
      exact ⟨fq, @RpE.clo _ K (bH' cc) F T _ _ _ _ (by rw [List.length_set]; exact zc) y h1, h2⟩
theorem RpE.exnH (h : Hot) (r : @RpE _ K h F T σ env fp) (e : env[i]? = some (some .exn)) : ∃ a n dd x, h.hot = some (a, n, dd, x) /\ XcR K F T x (.ref (He.ga K x.cls)) dd /\ σ[i]? = some (some (.ref a)) := by
  letI := h
  exact RpE.exn r e
theorem Rel.heat {ρ : M.PSt} (r : @Rel _ K (bH' cc) ρ σ H F T fr) (hn : ρ.env.length = i + n + 1) (z : XcR K F T x (.ref (He.ga K x.cls)) dd) : @Rel _ K (e3' a n dd x cc) ⟨ρ.env.set i (some .exn), ρ.w⟩ (σ.set i (some (.ref a))) H F T fr := by
  obtain ⟨fe, fw, re, rw, f⟩ := r
  obtain ⟨fq, h1, h2⟩ := re.heat (a := a) hn z
  exact ⟨fq, fw, h1, rw, f.part (.app h2 .refl)⟩
theorem Rel.chill {ρ : M.PSt} (r : @Rel _ K (e3' a n dd x cc) ρ σ H F T fr) (hn : ρ.env.length = i + n + 1) : @Rel _ K (bH' cc) ⟨ρ.env.set i none, ρ.w⟩ (σ.set i none) H F T fr := by
  obtain ⟨fe, fw, re, rw, f⟩ := r
  obtain ⟨fq, h1, h2⟩ := re.chill hn
  exact ⟨fq, fw, h1, rw, f.part (.app h2 .refl)⟩
end
section
variable {X : Cx} {W : WX} {K : PySem.W.Frag} {D : Ends} {σ : St} {H : Hp} {F : Hp} {T : List Addr} {fr : Fp}
theorem a6'.chill {a : Addr} {n i : Nat} {dd : Option Addr} {x : M.Exc} {r : M.Out} (h : @a6' _ (bH' cc) K W D F T fr (M.mn' i n (M.m7' r))) :
    @a6' _ (e3' a n dd x cc) K W0 { nx := fun σ' H' => D.nx (σ'.set i none) H', rt := D.rt, bk := fun σ' H' => D.bk (σ'.set i none) H', ct := fun σ' H' => D.ct (σ'.set i none) H' } F T fr r := by
  cases r with
  | exc x ρ => exact h.elim
  | nx ρ =>
    unfold M.m7' M.mn' at h
    by_cases hl : ρ.env.length = i + n + 1
    . simp only [hl, if_true] at h
      exact fun σ' H' F' T' e r => h _ H' F' T' e (r.chill hl)
    . simp only [hl, if_false] at h; exact h.elim
  | bk ρ =>
    unfold M.m7' M.mn' at h
    by_cases hl : ρ.env.length = i + n + 1
    . simp only [hl, if_true] at h
      exact fun σ' H' F' T' e r => h _ H' F' T' e (r.chill hl)
    . simp only [hl, if_false] at h; exact h.elim
  | ct ρ =>
    unfold M.m7' M.mn' at h
    by_cases hl : ρ.env.length = i + n + 1
    . simp only [hl, if_true] at h
      exact fun σ' H' F' T' e r => h _ H' F' T' e (r.chill hl)
    . simp only [hl, if_false] at h; exact h.elim
  | rt o w => exact h
  | bad => exact h
def tsA (cc : List (Nat × CloD)) (K : PySem.W.Frag) (n : Nat) (h : M.Exc -> M.MS) : Addr -> Value -> Option Addr -> TS := fun a cls d D σ H => ∃ e : M.Exc, cls = .ref (He.ga K e.cls) /\ @qS _ (e3' a n d e cc) K W0 (h e) D σ H
theorem mL' {x n : Str} {c : Value} {i m : Nat} {body suite : List Stmt} {b₀ : Stmt} {np pos pos' : Pos} {mb : M.MS} {g : String -> Option Bool} {h : M.Exc -> M.MS} (hs : X.stack = X.env :: X.outer) (hf : X.env.frame = some X.env.locals) (hN : X.N.Nodup) (hi : X.N[i]? = some n) (hln : X.env.kindOf n = some .local) (hc : Names X x c) (tk : Takes X W)
    (hg : ∀ y b, g y = some b -> PySem.W.exmOne X.K (.ref (He.ga X.K y)) c = some b)
    (hb : ∀ (W : WX) (pn : List (Addr × Obj)) (xe : Value -> Shared -> Prop), Takes (X.tr pn xe) W -> PassesOwn (model X.prog X.w) X.A X.env xe -> @SSs _ (bH' cc) (X.tr pn xe) W body mb)
    (hsu : ∀ (e : M.Exc) (a : Addr) (oe : Obj) (d : Option Addr) (pn : List (Addr × Obj)), Zc (.ref (He.ga X.K e.cls)) d oe -> (∃ vs, oe.data = .fields vs) -> @SSs _ (e3' a m d e cc) (X.suite a ((a, oe) :: pn)) W0 (b₀ :: suite) (h e)) :
    @SS _ (bH' cc) X W (.Try body [.ExceptHandler (some (.Name x np)) (some n) (b₀ :: suite) pos'] [] [] pos) (M.em' i m mb g h) := by
  have ts : ∀ (a : Addr) (oe : Obj) (cls : Value) (d : Option Addr) (pn : List (Addr × Obj)), Zc cls d oe -> (∃ vs, oe.data = .fields vs) -> PSs (X.suite a ((a, oe) :: pn)) (b₀ :: suite) (tsA cc X.K m h a cls d) := by
    intro a oe cls d pn hz hf
    refine ⟨fun pins s σ H D I q => ?_⟩
    obtain ⟨e, rfl, q⟩ := q
    exact (hsu e a oe d pn hz hf).run pins s σ H D I q
  refine PS.imp (ps_try_as (tb := fun W => @qS _ (bH' cc) X.K W mb) hs hf hN hi hln hc tk hb ts) fun D σ H ⟨ρ, F, T, fr, rel, hh⟩ => ?_
  refine ⟨ρ, F, T, fr, rel, ?_⟩
  unfold M.em' at hh
  cases e : mb ρ with
  | nx ρ1 => rw [e] at hh; exact hh
  | bk ρ1 => rw [e] at hh; exact hh
  | ct ρ1 => rw [e] at hh; exact hh
  | rt o w => rw [e] at hh; exact hh
  | bad => rw [e] at hh; exact hh
  | exc y ρ1 =>
    rw [e] at hh
    intro σ' cls dd H' F' T' e z r
    have ec := z.1
    subst ec
    dsimp only at hh
    cases eg : g y.cls with
    | none => rw [eg] at hh; exact hh.elim
    | some b =>
      rw [eg] at hh
      refine ⟨b, hg _ _ eg, fun hb a ha => ?_, fun hb => ?_⟩
      . subst hb
        dsimp only at hh
        by_cases hl : ρ1.env.length = i + m + 1
        . rw [if_pos hl] at hh
          exact ⟨y, rfl, _, F', T', fr, r.heat hl z, @a6'.mono _ (e3' a m dd y cc) _ _ _ _ _ _ _ _ _ (a6'.chill hh) e⟩
        . rw [if_neg hl] at hh; exact hh.elim
      . subst hb
        exact hh σ' _ dd H' F' T' e z r
end
section
variable {X : Cx} {W : WX} {pos p : Pos} {a b : Expr}
theorem iM' {x : Str} {i m : Nat} {ad : Addr} {oe : Obj} {dd : Option Addr} {e : M.Exc} {pn : List (Addr × Obj)} {t : M.ET} (c : String) (hk : nI' X.K t) (hz : Zc (.ref (He.ga X.K e.cls)) dd oe) (hf : ∃ vs, oe.data = .fields vs)
    (hg : Gl (X.suite ad ((ad, oe) :: pn)) x) (hm : X.mg x = none) (hv : bootBuiltins x = some (.builtin "isinstance")) (ha : PE (X.suite ad ((ad, oe) :: pn)) a (tVar i)) (hb : PE (X.suite ad ((ad, oe) :: pn)) b (tC (.ref (He.ga X.K (Str.ofString c)))))
    (hn : x ≠ "__name__" := by decide) (hdb : (x == ("__debug__" : Str)) = false := by decide)
    (he : starEach [a, b] (X.suite ad ((ad, oe) :: pn)).env = (false, eval a (X.suite ad ((ad, oe) :: pn)).env) :: starEach [b] (X.suite ad ((ad, oe) :: pn)).env := by rfl) (he2 : starEach [b] (X.suite ad ((ad, oe) :: pn)).env = (false, eval b (X.suite ad ((ad, oe) :: pn)).env) :: starEach [] (X.suite ad ((ad, oe) :: pn)).env := by rfl)
    (hpl : (backTo pos (starEach [b] (X.suite ad ((ad, oe) :: pn)).env)).any (·.1) = false := by rfl) :
    @SE _ (e3' ad m dd e cc) (X.suite ad ((ad, oe) :: pn)) W (.Call (.Name x p) [a, b] [] pos) (M.fk' i t c e) := by
  by_cases h0 : e.fs = []
  . by_cases hd : dd = none
    . cases es : M.sub t e.cls c with
      | none =>
        refine ⟨fun pins s σ H Q I q => ?_⟩
        obtain ⟨ρ, F, T, fr, rel, q⟩ := q
        exfalso
        unfold M.fk' at q
        split at q
        . rw [if_pos h0, es] at q; exact q.elim
        . exact q.elim
      | some r =>
        subst hd
        obtain ⟨hC, hko⟩ := ot' hk es
        refine PE.imp (pe_callB (call_isE hC hz hf) hg hm hv (pa_cons ha (pa_cons hb pa_nil he2) he) hn hdb he hpl) fun σ H Q ⟨ρ, F, T, fr, rel, h⟩ => ?_
        unfold M.fk' at h
        split at h
        . rename_i ei
          rw [if_pos h0, es] at h
          obtain ⟨fe, fw, re, rw', f⟩ := id rel
          obtain ⟨a', n', dd', x', h1, h2, h3⟩ := RpE.exnH _ re ei
          cases h1
          exact ⟨_, h3, .ref (He.ga X.K (Str.ofString c)), _, r, rfl, fun u hu => hu, hko, h _ H F T .refl (.bl r) rel⟩
        . exact h.elim
    . refine ⟨fun pins s σ H Q I q => ?_⟩
      obtain ⟨ρ, F, T, fr, rel, q⟩ := q
      exfalso
      unfold M.fk' at q
      split at q
      . rename_i ei
        obtain ⟨fe, fw, re, rw', f⟩ := id rel
        obtain ⟨a', n', dd', x', h1, ⟨_, h2⟩, h3⟩ := RpE.exnH _ re ei
        cases h1
        rcases h2 with h2 | ⟨_, _, _, _, h4, _⟩
        . exact hd h2.2
        . rw [h0] at h4; cases h4
      . exact q.elim
  . refine ⟨fun pins s σ H Q I q => ?_⟩
    obtain ⟨ρ, F, T, fr, rel, q⟩ := q
    exfalso
    unfold M.fk' at q
    split at q
    . rw [if_neg h0] at q; exact q.elim
    . exact q.elim
theorem gd' {K : PySem.W.Frag} {t : M.ET} (h : lP' K t = true) : nI' K t := fun e he => by
  have z := List.all_eq_true.mp h e he
  simp only [Bool.and_eq_true, decide_eq_true_eq] at z
  obtain ⟨z1, z2, z3, z4, z5, z6, z7, z8, z9⟩ := z
  exact ⟨⟨z1, z2, z3, z4, z5, z6, z7, z8⟩, z9⟩
end
end S
namespace S
open PySem PySem.Spec PyProof.Rows L2
section
variable {prog : Program} {w : World} {A : Around} {E : Value -> Shared -> Prop} {s : Shared} {K : PySem.W.Frag} {x C L f : Addr} {h₀ : Heap} {m : Str -> Option Value} {ox : Obj} {od : Option Obj} {b tb : Value}
open PySem.W in
end
end S
namespace S
open PySem PySem.Spec PyProof.Rows L2
variable [Wd] [Hot]
section
variable {K : PySem.W.Frag} {σ : St} {H : Hp} {Q : VK} {W : WX}
end
section
variable {X : Cx} {W : WX} {pos : Pos} {a b : Expr} {ma mb : M.ME} {k : Nat} {args : List Str} {mf : M.MF}
end
end S
namespace S
open PySem PySem.Spec PyProof.Rows L2
variable [Wd] [Hot]
section
variable {X : Cx} {W : WX} {a : Expr} {ma : M.ME} {pos p1 p2 p3 : Pos} {k : Nat}
end
end S
namespace S
open PySem PySem.Spec PyProof.Rows L2 TL
variable [Wd] [Hot]
section
variable {K : PySem.W.Frag}
end
end S
namespace S
open PySem PySem.Spec PyProof.Rows L2
variable [Wd] [Hot]
section
variable {X : Cx} {W : WX} {K : PySem.W.Frag} {a b : Expr} {ma : M.ME} {pos : Pos}
end
end S
namespace S
open PySem PySem.Spec PyProof.Rows L2
variable [Wd] [Hot]
section
variable {K : PySem.W.Frag} {W : WX} {σ : St} {H : Hp}
end
section
variable {X : Cx} {W : WX} {pos : Pos} {elt tg iter tg1 iter1 : Expr} {ifs ifs1 : List Expr} {scope : Scope} {own : List (Str × Nat)} {sl sl0 sl1 : List Nat} {it it1 : M.MI} {g g1 : M.MG} {t t1 : M.MT} {e : M.ME}
end
end S
namespace S
open PySem PySem.Spec PyProof.Rows L2
end S
namespace S
open PySem PySem.Spec PyProof.Rows L2
variable [Wd] [Hot]
section
variable {K : PySem.W.Frag} {W : WX} {X : Cx} {p pos : Pos} {a b : Expr} {ma mb : M.ME}
end
end S
namespace S
open PySem PySem.Spec PyProof.Rows L2
variable [Wd] [Hot]
section
variable {X : Cx} {W : WX} {K : PySem.W.Frag} {a : Expr} {ma : M.ME} {pos : Pos}
end
end S
namespace S
open PySem PySem.Spec PyProof.Rows L2
variable [Wd] [Hot]
section
variable {K : PySem.W.Frag} {W : WX} {σ : St} {H : Hp}
end
section
variable {X : Cx} {W : WX} {pos px : Pos} {elt tg : Expr} {ifs : List Expr} {scope : Scope} {own : List (Str × Nat)} {sl : List Nat} {i : Nat} {nm : Str} {g : M.MG} {t : M.MT} {e : M.ME}
end
end S
namespace S
open PySem PySem.Spec PyProof.Rows L2
variable [Wd] [Hot]
section
variable {X : Cx} {W : WX} {pos cpos apos : Pos} {o a : Expr} {mo : M.ME} {ma : M.MO}
end
end S
namespace S
open PySem PySem.Spec PyProof.Rows L2
structure SupF (file : Str) (K : PySem.W.Frag) (C f : Addr) (fld : Str) : Prop where
  ex : ∃ (oc : Value) (od : Option Addr) (fd : FuncData) (osl : Array (Option Value)) (x y : Str) (cc cda : Addr), K.lookup f = some ⟨oc, od, .func fd, osl⟩ /\ u4' fd.params = some (x, y) /\ u3' fd.body = some (("super" : Str), ("__init__" : Str), x, fld, y) ∧
    fd.closure = [(("__class__" : Str), cc)] /\ fd.code = .ref cda /\ fd.defaults = .none /\ fd.kwdefaults = .none /\ fd.globals = mainGlobals /\ fd.builtins = builtinsNs /\ PySem.W.codeIn K (.ref cda) fd.qualname = true ∧
    fd.scope.names.lookup ("super" : Str) = some .globalImplicit /\ fd.scope.names.lookup ("__class__" : Str) = some .free /\ fd.scope.names.lookup x = some .local /\ fd.scope.names.lookup y = some .local /\ (∀ q ∈ fd.scope.names, q.2 ≠ .cell) ∧
    fd.scope.kind = .function /\ fd.scope.isGenerator = false /\ fd.scope.isCoroutine = false /\ x = "self" /\ (y = "part" \/ y = "most") ∧
    (∃ a b c, K.lookup cc = some ⟨a, b, .cell (some (.ref C)), c⟩) /\ (∃ a b c vs tf, K.lookup cda = some ⟨a, b, .fields vs, c⟩ /\ vs[2]? = some (.str file tf))
  sup : PySem.W.ks_superIn K C C "__init__" = some (some (.builtin "ValueError.__init__"))
  own : PySem.W.mroIn K C (.ref C) = some true
  ve : PySem.W.subIn K (.ref C) (.type "ValueError") = some true
  no3 : PySem.W.nsIn K cStatics "thirdparty.any" = some none
  cls : ∃ nm q N bs bm sn sub ab col dd k0 k1 k2 k3 k5, K.lookup C = some (excClassObj nm q C N bs bm true sn sub ab col dd k0 k1 k2 k3 k5 "ValueError.__new__") /\ HandSPX.refsVE bm = true
  sa : PySem.W.findIn K (.ref C) "__setattr__" = some (some (.builtin "object.__setattr__"))
  exC : PySem.W.subIn K (.ref C) (.type "BaseException") = some true
  tyC : PySem.W.typeIn K (.ref C) = some (.type "type")
  kC : PySem.W.keepIn K (.ref C) = true
  iC : PySem.W.findIn K (.ref C) "__init__" = some (some (.ref f))
  tI : PySem.W.typeIn K (.ref f) = some (.type "function")
  fl : PySem.W.findIn K (.ref C) fld = some none
end S
namespace S
open PySem PySem.Spec PyProof.Rows L2
variable [Wd] [Hot]
local macro_rules | `(tactic| walk_at "parts") => `(tactic| (constructor; (intro e h; simp only [List.mem_append, List.mem_cons, List.not_mem_nil] at *; grind); (intro x; simp only [keys, List.map_append, List.map_cons, List.map_nil, List.count_append, List.count_cons, List.count_nil] at *; omega)))
section
variable {prog : Program} {w : World} {A : Around} {E : Value -> Shared -> Prop} {s : Shared}
end
def v5' (K : PySem.W.Frag) (ps : List (String × String)) (g : Addr) : Prop := ∀ C, (C, C) ∈ ps -> PySem.W.findIn K (.ref (He.ga K (Str.ofString C))) "__eq__" = some (some (.ref g)) /\ PySem.W.isFn K (.ref g) = true ∧
  ∀ n ∈ ["NoneType", "bool", "int", "str", "tuple", "list", "dict"], PySem.W.notFirst K (He.ga K (Str.ofString C)) (.type n) = true
def rEqD (K : PySem.W.Frag) (ps : List (String × String)) (mf : M.MF) : R2 := fun x y H Q => ∃ (C n : String) (a dx : Addr) (fs : List (Str × V)), (C, C) ∈ ps /\ n ∈ ["NoneType", "bool", "int", "str", "tuple", "list", "dict"] /\ x = .ref a ∧
  H a = some (.ins (He.ga K (Str.ofString C)) dx fs) /\ TyX K H y (.type n) /\ spM K mf [x, y] H (fun v H' => ∃ r, v = .bl r /\ Q (.bl r) H') E0
theorem op_eqD {X : Cx} {k : Nat} {C0 : Addr} {args : List Str} {ps : List (String × String)} {mf : M.MF} (F : OgM X.prog X.w X.K X.mg X.base k C0 "__eq__" args (spM X.K mf)) (hr : RoomG k X.A) (hp : v5' X.K ps (He.ma X.K C0 "__eq__")) :
    OpR X (compareOp .Eq) (rEqD X.K ps mf) := by
  obtain ⟨fd, F, hb⟩ := F
  intro pins s σ H x y v u Q I rx ry h
  obtain ⟨C, n, a, dx, fs, hC, hn, rfl, ha, ht, hs⟩ := h
  cases (show v = Value.ref a from rx)
  obtain ⟨q1, q2, q3⟩ := hp _ hC
  obtain ⟨mA, J, _⟩ := ins_get I.hok ha
  obtain ⟨od, J, _⟩ := J.look
  obtain ⟨m, hF⟩ := I.fr
  obtain ⟨P, Z, hP, _⟩ := kit_of I ry ht
  show wpAny (model X.prog X.w) X.A (richCompare .Eq (.ref a) u) (EP X pins σ Q) X.xe s
  refine PySem.W.cmp_K (op := .Eq) (tb := .type n) hr.r.units0 hF I.ok.mod.kin J (Z.ty _ _ I.kIn hP) (q3 n hn) q1 q2 ?_
  refine wpAny_mono (ld' (E := fun _ => E0) (us := [.ref a, u]) (vs := [.ref a, y]) F hr hb (fun _ _ _ e s' _ c => ?_) I (.cons rfl (.cons ry .nil)) hs) (fun r s' q => ?_) fun _ _ z => z
  . obtain ⟨_, _, _, _, _, _, _, _, _, _, _, _, z⟩ := c
    exact z.elim
  . obtain ⟨z, H', I', rz, t, ez, q⟩ := q
    subst ez
    cases rz
    exact ⟨.bl t, H', I', rfl, q⟩
section
variable {K : PySem.W.Frag} {σ : St} {H : Hp} {Q : VK} {W : WX}
end
section
variable {X : Cx} {W : WX} {pos p tpos : Pos} {a b e o i : Expr} {ma mb mo mi : M.ME} {k : Nat} {args : List Str} {mf : M.MF}
end
end S
namespace S
open PySem PySem.Spec PyProof.Rows L2
variable [Wd] [Hot]
mutual
inductive DqN (K : PySem.W.Frag) (H : Hp) : V -> M.D -> Prop
  | leaf {v : V} {d : M.D} : Dp K H v (py d) -> M.lJ' d = true -> DqN K H v d
  | tup {a : Addr} {vs : List V} {ds : List M.D} : SqT K H a vs -> DqNs K H vs ds -> DqN K H (.ref a) (.tup ds)
  | lst {a : Addr} {vs : List V} {ds : List M.D} : H a = some (.lst vs) -> DqNs K H vs ds -> DqN K H (.ref a) (.lst ds)
  | dct {a : Addr} {kvs : List (Key × V)} {ds : List M.D} : Rd H a (.dK kvs) -> mg' kvs -> DqNs K H (kvs.map (·.2)) ds -> DqN K H (.ref a) (.dct (kvs.map fun p => kD p.1) ds)
inductive DqNs (K : PySem.W.Frag) (H : Hp) : List V -> List M.D -> Prop
  | nil : DqNs K H [] []
  | cons {v : V} {d : M.D} {vs : List V} {ds : List M.D} : DqN K H v d -> DqNs K H vs ds -> DqNs K H (v :: vs) (d :: ds)
end
section
variable {K : PySem.W.Frag} {F H : Hp} {T : List Addr}
end
section
variable {X : Cx} {pins : List (Addr × Obj)} {σ : St} {H : Hp} {s : Shared}
def tp' (K : PySem.W.Frag) : Prop := ∃ o, K.lookup sysModules = some o
theorem oV' (I : Inv X pins σ H s) (h : tp' X.K) {a : Addr} {o : HO} (ha : H a = some o) : a ≠ sysModules := fun e => by
  obtain ⟨ob, hk⟩ := h
  have := (I.bs _ _ (I.ok.mod.kin _ _ hk)).2
  rw [e, this] at ha
  cases ha
mutual
theorem DqN.reads (I : Inv X pins σ H s) (hS : tp' X.K) : ∀ {v : V} {d : M.D} {u : Value}, DqN X.K H v d -> RelV v u -> ∃ as, Reads s.heap u (py d) as /\ sysModules ∉ as
  | _, _, _, .leaf h l, r => ⟨[], cs' I l h r, by simp⟩
  | _, _, _, .tup hs la, r => by
    cases r
    obtain ⟨its, rv, ⟨o, ho, hc, n, hd⟩, _⟩ := I.tuple hs
    obtain ⟨as, hr, hm⟩ := DqNs.reads I hS la rv
    exact ⟨_, Reads.tuple ho hc hd hr, hm⟩
  | _, _, _, .lst (a := a) hs la, r => by
    cases r
    obtain ⟨_, its, n, rv, hd⟩ := I.hok a _ hs
    obtain ⟨as, hr, hm⟩ := DqNs.reads I hS la rv
    refine ⟨_, Reads.list hd rfl rfl hr, fun z => ?_⟩
    rcases List.mem_cons.mp z with z | z
    . exact oV' I hS hs z.symm
    . exact hm z
  | _, _, _, .dct (a := a) (kvs := kvs) (ds := ds) e k la, r => by
    cases r
    obtain ⟨_, hs, vs, rk, hd⟩ := dk_rd I.hok e
    obtain ⟨bs, hp, hm⟩ := DqNs.pairs I hS la kvs rfl rk
    refine ⟨_, PyProof.V.reads_dictOf (enc := kP) (fun k key hk => ?_) hd hp, fun z => ?_⟩
    . rcases keyIs_shape hk with ⟨i, t, rfl, rfl⟩ | ⟨x, t, rfl, rfl⟩
      . exact .int i t
      . exact .str _ t
    . rcases List.mem_cons.mp z with z | z
      . rw [<- z] at hs
        simp at hs
      . exact hm z
theorem DqNs.reads (I : Inv X pins σ H s) (hS : tp' X.K) : ∀ {vs : List V} {ds : List M.D} {us : List Value}, DqNs X.K H vs ds -> Vals vs us -> ∃ as, ReadsAll s.heap us (pys ds) as /\ sysModules ∉ as
  | _, _, _, .nil, r => by
    cases r
    exact ⟨[], .nil, by simp⟩
  | _, _, _, .cons h1 h2, r => by
    cases r with
    | cons r1 r2 =>
      obtain ⟨as, q1, q4⟩ := DqN.reads I hS h1 r1
      obtain ⟨bs, q2, q3⟩ := DqNs.reads I hS h2 r2
      exact ⟨_, .cons q1 q2, fun z => (List.mem_append.mp z).elim q4 q3⟩
theorem DqNs.pairs (I : Inv X pins σ H s) (hS : tp' X.K) : ∀ {vs : List V} {ds : List M.D}, DqNs X.K H vs ds -> ∀ (kvs : List (Key × V)) {us : List (Key × Value)}, kvs.map (·.2) = vs -> KV kvs us →
    ∃ bs, PyProof.V.PairsRead s.heap kP us ((pys (kvs.map fun p => kD p.1)).zip (pys ds)) bs /\ sysModules ∉ bs
  | _, _, .nil, kvs, us, e, r => by
    cases kvs with
    | nil => cases r; exact ⟨[], .nil, by simp⟩
    | cons _ _ => cases e
  | _, _, .cons h1 h2, kvs, us, e, r => by
    cases kvs with
    | nil => cases e
    | cons p kvs =>
      obtain ⟨k, v⟩ := p
      obtain ⟨rfl, e2⟩ := List.cons.inj e
      cases r with
      | @cons _ q _ us hr hp =>
        obtain ⟨k', u⟩ := q
        obtain ⟨he, hr⟩ := hr
        have he : k = k' := he
        subst he
        obtain ⟨as, q1, q4⟩ := DqN.reads I hS h1 hr
        obtain ⟨bs, q2, q3⟩ := DqNs.pairs I hS h2 kvs e2 hp
        exact ⟨_, PyProof.V.PairsRead.cons (enc := kP) (k := k) q1 q2, fun z => (List.mem_append.mp z).elim q4 q3⟩
end
end
section
variable {X : Cx}
end
end S
namespace S
open PySem PySem.Spec PyProof.Rows L2
variable [Wd] [Hot]
end S
namespace S
open PySem PySem.Spec PyProof.Rows L2 HT
variable [Wd] [Hot]
section
variable {prog : Program} {w : World} {A : Around} {E : Value -> Shared -> Prop} {s : Shared}
end
section
variable {X : Cx} {W : WX} {a : Expr} {ma : M.ME} {pos p1 p2 p3 : Pos} {k : Nat}
end
end S
namespace S
open PySem PySem.Spec PyProof.Rows L2
variable [Wd]
def jf' (K : PySem.W.Frag) (t : M.ET) : Prop := ∀ e ∈ t, ExcC K (He.ga K e.1) /\ PySem.W.kitOne K (.ref (He.ga K e.1)) (.type e.2.1) = some e.2.2
theorem lO' {K : PySem.W.Frag} : ∀ {t : M.ET} (h : jf' K t) {y c : String} {b : Bool}, M.sub t y c = some b -> ExcC K (He.ga K y) /\ PySem.W.kitOne K (.ref (He.ga K y)) (.type c) = some b
  | [], _, _, _, _, e => by cases e
  | (a, b', r) :: t, h, y, c, b, e => by
    unfold M.sub at e
    split at e
    . rename_i q
      obtain ⟨rfl, rfl⟩ := q
      cases e
      exact h _ List.mem_cons_self
    . exact lO' (fun e he => h e (List.mem_cons_of_mem _ he)) e
theorem jz' {K : PySem.W.Frag} {t : M.ET} (h : ha' K t = true) : jf' K t := fun e he => by
  unfold ha' at h
  rw [Bool.and_eq_true] at h
  have z := gd' h.1 (e.1, e.1, true) (List.mem_map.mpr ⟨e, he, rfl⟩)
  have z2 := List.all_eq_true.mp h.2 e he
  exact ⟨z.1, of_decide_eq_true z2⟩
section
variable {X : Cx} {W : WX} {pos p : Pos} {a b : Expr}
theorem o0' {x : Str} {i m : Nat} {ad : Addr} {oe : Obj} {dd : Option Addr} {e : M.Exc} {pn : List (Addr × Obj)} {t : M.ET} (c : String) (hk : jf' X.K t) (hz : Zc (.ref (He.ga X.K e.cls)) dd oe) (hf : ∃ vs, oe.data = .fields vs)
    (hg : Gl (X.suite ad ((ad, oe) :: pn)) x) (hm : X.mg x = none) (hv : bootBuiltins x = some (.builtin "isinstance")) (ha : PE (X.suite ad ((ad, oe) :: pn)) a (tVar i)) (hb : PE (X.suite ad ((ad, oe) :: pn)) b (tC (.ty c)))
    (hn : x ≠ "__name__" := by decide) (hdb : (x == ("__debug__" : Str)) = false := by decide)
    (he : starEach [a, b] (X.suite ad ((ad, oe) :: pn)).env = (false, eval a (X.suite ad ((ad, oe) :: pn)).env) :: starEach [b] (X.suite ad ((ad, oe) :: pn)).env := by rfl) (he2 : starEach [b] (X.suite ad ((ad, oe) :: pn)).env = (false, eval b (X.suite ad ((ad, oe) :: pn)).env) :: starEach [] (X.suite ad ((ad, oe) :: pn)).env := by rfl)
    (hpl : (backTo pos (starEach [b] (X.suite ad ((ad, oe) :: pn)).env)).any (·.1) = false := by rfl) :
    @SE _ (e3' ad m dd e) (X.suite ad ((ad, oe) :: pn)) W (.Call (.Name x p) [a, b] [] pos) (M.fk' i t c e) := by
  by_cases h0 : e.fs = []
  . by_cases hd : dd = none
    . cases es : M.sub t e.cls c with
      | none =>
        refine ⟨fun pins s σ H Q I q => ?_⟩
        obtain ⟨ρ, F, T, fr, rel, q⟩ := q
        exfalso
        unfold M.fk' at q
        split at q
        . rw [if_pos h0, es] at q; exact q.elim
        . exact q.elim
      | some r =>
        subst hd
        obtain ⟨hC, hko⟩ := lO' hk es
        refine PE.imp (pe_callB (call_isE hC hz hf) hg hm hv (pa_cons ha (pa_cons hb pa_nil he2) he) hn hdb he hpl) fun σ H Q ⟨ρ, F, T, fr, rel, h⟩ => ?_
        unfold M.fk' at h
        split at h
        . rename_i ei
          rw [if_pos h0, es] at h
          obtain ⟨fe, fw, re, rw', f⟩ := id rel
          obtain ⟨a', n', dd', x', h1, h2, h3⟩ := RpE.exnH _ re ei
          cases h1
          exact ⟨_, h3, .ty c, _, r, rfl, fun u hu => hu, hko, h _ H F T .refl (.bl r) rel⟩
        . exact h.elim
    . refine ⟨fun pins s σ H Q I q => ?_⟩
      obtain ⟨ρ, F, T, fr, rel, q⟩ := q
      exfalso
      unfold M.fk' at q
      split at q
      . rename_i ei
        obtain ⟨fe, fw, re, rw', f⟩ := id rel
        obtain ⟨a', n', dd', x', h1, ⟨_, h2⟩, h3⟩ := RpE.exnH _ re ei
        cases h1
        rcases h2 with h2 | ⟨_, _, _, _, h4, _⟩
        . exact hd h2.2
        . rw [h0] at h4; cases h4
      . exact q.elim
  . refine ⟨fun pins s σ H Q I q => ?_⟩
    obtain ⟨ρ, F, T, fr, rel, q⟩ := q
    exfalso
    unfold M.fk' at q
    split at q
    . rw [if_neg h0] at q; exact q.elim
    . exact q.elim
end
end S
namespace S
open PySem PySem.Spec PyProof.Rows L2 CwR
section
variable {X : Cx} {o e : Expr} {te to : TE} {es : List Expr} {ta : TA} {y z : Str} {i : Int} {j j1 j2 : Nat} {c0 c1 apos pos p : Pos}
end
variable [Wd]
section
variable {X : Cx} {W : WX} {o : Expr} {mo : M.ME} {y z : Str} {i : Int} {j j1 j2 : Nat} {c0 c1 apos pos p : Pos}
end
end S
namespace S
open PySem PySem.Spec PyProof.Rows L2
variable [Wd]
section
variable {X : Cx} {W : WX} {a : Expr} {ma : M.ME} {pos : Pos}
end
end S
namespace S
open PySem PySem.Spec PyProof.Rows L2
end S
namespace S
open PySem PySem.Spec PyProof.Rows L2
variable [Wd] [Hot]
section
variable {K : PySem.W.Frag} {W : WX} {X : Cx} {p pos : Pos} {a b : Expr} {ma mb : M.ME}
end
end S
namespace S
open PySem PySem.Spec
open PySem (ZipApart)
structure ZlSt (h : Heap) (z TI TO i1 i2 l1 l2 : Addr) (xs ys : Array Value) (S : Addr) (i : Nat) : Prop where
  ti : IsPair h TI (.ref i1) (.ref i2)
  it1 : h.IsListIter i1 l1 i
  it2 : h.IsListIter i2 l2 i
  li1 : h.IsList l1 xs
  li2 : h.IsList l2 ys
  zz : (IsZip h z TI TO .none /\ ∃ a b, IsPair h TO a b) \/ ∃ T f oT, PySem.IsZipHeld h z TI TO T f /\ h.get? T = some oT /\ T ≠ z /\ T ≠ i1 /\ T ≠ i2 /\ T ≠ S
structure ZlA (z TI TO i1 i2 l1 l2 S : Addr) : Prop where
  z : z < S
  TI : TI < S
  TO : TO < S
  i1 : i1 < S
  i2 : i2 < S
  l1 : l1 < S
  l2 : l2 < S
section
variable {prog : Program} {w : World} {A : Around} {E : Value -> Shared -> Prop} {s : Shared} {z TI TO i1 i2 l1 l2 S : Addr} {xs ys : Array Value} {i : Nat}
theorem ZlSt.keep {h h' : Heap} (st : ZlSt h z TI TO i1 i2 l1 l2 xs ys S i) (L : ZlA z TI TO i1 i2 l1 l2 S) (hk : ∀ b o, b ≠ S -> h.get? b = some o -> h'.get? b = some o) : ZlSt h' z TI TO i1 i2 l1 l2 xs ys S i := by
  obtain ⟨a1, a2, a3, a4, a5, a6⟩ := st
  have n : ∀ {a : Addr}, a < S -> a ≠ S := fun h => Nat.ne_of_lt h
  refine ⟨hk _ _ (n L.TI) a1, a2.at fun o e => hk _ o (n L.i1) e, a3.at fun o e => hk _ o (n L.i2) e, a4.at fun o e => hk _ o (n L.l1) e, a5.at fun o e => hk _ o (n L.l2) e, ?_⟩
  rcases a6 with ⟨hz, a, b, hTO⟩ | ⟨T, f, oT, hz, hT, r1, r2, r3, r4⟩
  . exact .inl ⟨hk _ _ (n L.z) hz, a, b, hk _ _ (n L.TO) hTO⟩
  . exact .inr ⟨T, f, oT, hk _ _ (n L.z) hz, hk _ _ r4 hT, r1, r2, r3, r4⟩
structure ZlG (xs ys : Array Value) (lo : Addr) (h : Heap) (as : List Addr) : Prop where
  rise : as.Pairwise (· < ·)
  above : ∀ a ∈ as, lo < a
  pairs : ∀ (j : Nat) (a : Addr), as[j]? = some a -> ∃ x y, xs[j]? = some x /\ ys[j]? = some y /\ h.get? a = some { cls := .type "tuple", data := .seq #[x, y] }
theorem ZlG.there {lo : Addr} {h : Heap} {as : List Addr} (g : ZlG xs ys lo h as) {a : Addr} (ha : a ∈ as) : a < h.objs.size := by
  obtain ⟨j, hj⟩ := List.mem_iff_getElem?.mp ha
  obtain ⟨_, _, _, _, e⟩ := g.pairs j a hj
  exact Heap.lt_size e
end
section
variable {prog : Program} {w : World} {A : Around} {s : Shared} {R : Result -> Shared -> Prop} {z TI TO i1 i2 l1 l2 S : Addr} {xs ys : Array Value}
end
section
variable {prog : Program} {w : World} {A : Around} {E : Value -> Shared -> Prop} {s : Shared} {z TI TO i1 i2 l1 l2 S : Addr} {xs ys : Array Value}
theorem ZlSt.type {h : Heap} {i : Nat} (st : ZlSt h z TI TO i1 i2 l1 l2 xs ys S i) : ∃ o, h.get? z = some o /\ o.cls = .type "zip" := by
  rcases st.zz with ⟨hz, _⟩ | ⟨T, f, oT, hz, _⟩
  . exact ⟨_, hz, rfl⟩
  . exact ⟨_, hz, rfl⟩
end
end S
namespace S
open PySem PySem.Spec PyProof.Rows L2 LiI
section
variable {X : Cx}
end
section
variable {K : PySem.W.Frag} [Wd]
end
section
variable [Wd] {X : Cx} {W : WX} {a b : Expr} {ma mb : M.ME} {p p2 pos pos2 : Pos}
end
end S
namespace S
open PySem PySem.Spec PyProof.Rows L2
section
variable {prog : Program} {w : World} {A : Around} {E : Value -> Shared -> Prop} {s : Shared} {z TI TO i1 i2 l1 l2 : Addr} {xs ys : Array Value} {k : Nat}
abbrev ZO (h : Heap) (z TI TO : Addr) (f0 : Value) (b : Bool) : Prop :=
  h.get? z = some { cls := .type "zip", dict := none, data := .fields #[f0, .bool b, .bool false, .ref TI, .ref TO], slots := #[] }
def Gvn (f0 : Value) : Prop := f0 = .none \/ ∃ T : Addr, f0 = rawInt T
structure ZnSt (h : Heap) (z TI TO i1 i2 l1 l2 : Addr) (k : Nat) : Prop where
  zz : ∃ f0 b, ZO h z TI TO f0 b /\ Gvn f0
  ti : IsPair h TI (.ref i1) (.ref i2)
  to : ∃ x y, IsPair h TO x y
  h1 : h.IsTupleIter i1 l1 k
  h2 : h.IsTupleIter i2 l2 k
end
end S
namespace S
open PySem PySem.Spec PyProof.Rows L2
section
variable [Wd] [Hot] {X : Cx} {W : WX} {a b : Expr} {ma mb : M.ME} {p pos : Pos}
end
end S
namespace S
open PySem PySem.Spec PyProof.Rows L2
section
variable [Wd] [Hot] {X : Cx} {W : WX} {a : Expr} {ma : M.ME} {pos : Pos}
end
end S
namespace S
open PySem PySem.Spec PyProof.Rows L2
variable [Wd]
inductive DSd (K : PySem.W.Frag) (H : Hp) (a : Addr) (y v : V) (Q : V -> Hp -> Prop) : Prop
  | old {xs : List (NestedKey × Addr × V)} {b : Addr} {k : NestedKey} {u : V} : H a = some (dcN a xs) -> to' K H xs -> y = .ref b -> NkV K H (.ref b) k -> k.depth <= 8 -> valV (xsV xs) k = some u -> xs.length <= sizeLine -> Q u H -> DSd K H a y v Q
  | new {xs : List (NestedKey × Addr × V)} {b : Addr} {k : NestedKey} : H a = some (dcN a xs) -> to' K H xs -> y = .ref b -> NkV K H (.ref b) k -> k.depth <= 8 -> valV (xsV xs) k = none -> (tf' xs k b v).length <= sizeLine -> Q v (upd H a (dcN a (tf' xs k b v))) -> DSd K H a y v Q
  | fst {b : Addr} {k : NestedKey} : H a = some (dcL a []) -> y = .ref b -> NkV K H (.ref b) k -> k.depth <= 8 -> Q v (upd H a (dcN a [(k, b, v)])) -> DSd K H a y v Q
section
variable {X : Cx} {pins : List (Addr × Obj)} {σ : St} {H : Hp} {s : Shared} {a : Addr} {y : V} {u : Value} {A : Around} {E : Value -> Shared -> Prop}
end
section
variable [Hot] {X : Cx} {W : WX} {o : Expr}
end
end S
namespace PySem.W
open Spec PyProof PyProof.Rows
section
variable {prog : Program} {w : World} {A A₀ : Around} {E : Value -> Shared -> Prop} {s : Shared} {K : Frag} {x y C C' L f : Addr} {h₀ : Heap} {m : Str -> Option Value} {ox oy : Obj} {od od' : Option Obj} {b tb : Value}
end
end PySem.W
namespace S
open PySem PySem.Spec PyProof.Rows L2
variable [Wd] [Hot]
local macro_rules | `(tactic| walk_at "parts") => `(tactic| (constructor; (intro e h; simp only [List.mem_append, List.mem_cons, List.not_mem_nil] at *; grind); (intro x; simp only [keys, List.map_append, List.map_cons, List.map_nil, List.count_append, List.count_cons, List.count_nil] at *; omega)))
section
variable {K : PySem.W.Frag} {σ : St} {H : Hp} {Q : VK} {W : WX}
end
section
variable {X : Cx} {W : WX} {pos p : Pos} {a b e : Expr} {ma mb : M.ME} {k : Nat} {args : List Str} {mf : M.MF}
end
end S
namespace S
open PySem PySem.Spec PyProof.Rows L2
local macro_rules | `(tactic| walk_at "parts") => `(tactic| (constructor; (intro e h; simp only [List.mem_append, List.mem_cons, List.not_mem_nil] at *; grind); (intro x; simp only [keys, List.map_append, List.map_cons, List.map_nil, List.count_append, List.count_cons, List.count_nil] at *; omega)))
section
variable [Wd]
variable {K : PySem.W.Frag} {F H G : Hp} {T T' : List Addr}
end
section
variable [Wd]
variable {K : PySem.W.Frag} {F H G : Hp} {T T' : List Addr}
def NoD (fp : Fp) : Prop := ∀ e ∈ fp, (∀ kvs, e.2 ≠ .dK kvs) /\ (∀ φ, e.2 ≠ .ext φ) /\ ∀ od u, e.2 ≠ .frz od u
theorem NoD.app {a b : Fp} (h : NoD a) (g : NoD b) : NoD (a ++ b) := fun e he => (List.mem_append.mp he).elim (h e) (g e)
structure Split (C A B : Fp) : Prop where
  mem : ∀ e, e ∈ C ↔ e ∈ A \/ e ∈ B
  cnt : ∀ x, (keys C).count x = (keys A).count x + (keys B).count x
end
section
variable [Wd] [Hot] {X : Cx} {W : WX} {a b e : Expr} {ma mb me : M.ME} {p p2 pos pos2 : Pos}
variable {es : List Expr} {mo : M.MO} {moa : M.MOA}
end
section
variable [Wd] {X : Cx} {W : WX} {a b : Expr} {ma mb : M.ME} {p p2 pos pos2 : Pos}
end
end S
namespace PySem.W
open PySem PySem.Spec PySem.Calls PyProof PyProof.Rows
section
variable {x t : Value} {P : Heap -> Prop}
end
end PySem.W
namespace L2
open PySem PySem.Spec PyProof.Rows
end L2
namespace S
open PySem PySem.Spec PyProof.Rows L2
variable [Wd] {X : Cx} {W : WX} {pos p : Pos} {a b : Expr}
end S
namespace S
open PySem PySem.Spec PyProof.Rows L2
variable [Wd] [Hot]
local macro_rules | `(tactic| walk_at "parts") => `(tactic| (constructor; (intro e h; simp only [List.mem_append, List.mem_cons, List.not_mem_nil] at *; grind); (intro x; simp only [keys, List.map_append, List.map_cons, List.map_nil, List.count_append, List.count_cons, List.count_nil] at *; omega)))
section
variable {K : PySem.W.Frag} {F H : Hp} {T : List Addr} {fp fr : Fp} {ρ : M.PSt} {σ : St}
theorem RpA.named {f : String} {o : M.O} : ∀ {fv : List (String × V)} {os : List M.O} {fp : Fp}, RpA K F T (fv.map (·.2)) os fp -> ((fv.map (·.1)).zip os).lookup f = some o →
    ∃ v f1 f2 f3, fv.lookup f = some v /\ fp = f1 ++ (f2 ++ f3) /\ Rp K F T v o f2 /\ ∀ o' f2', Rp K F T v o' f2' -> ∃ os', RpA K F T (fv.map (·.2)) os' (f1 ++ (f2' ++ f3)) /\ M.pb' f o' ((fv.map (·.1)).zip os) = (fv.map (·.1)).zip os'
  | [], _, _, r, h => by cases r; cases h
  | (g, v) :: fv, _, _, r, h => by
    cases r with
    | @cons _ _ o1 os fa fb r0 r =>
      by_cases e : f = g
      . subst e
        have h : some o1 = some o := by rw [<- h, List.map_cons, List.zip_cons_cons, List.lookup_cons_self]
        cases h
        refine ⟨v, [], fa, fb, List.lookup_cons_self, rfl, r0, fun o' f2' q => ⟨o' :: os, (RpA.cons q r : RpA K F T _ _ (f2' ++ fb)), ?_⟩⟩
        rw [List.map_cons, List.zip_cons_cons, List.zip_cons_cons]
        exact if_pos rfl
      . have h1 : (f == g) = false := by simpa using e
        have h : ((fv.map (·.1)).zip os).lookup f = some o := by
          rw [<- h, List.map_cons, List.zip_cons_cons]
          simp only [List.lookup, h1]
        obtain ⟨v', f1, f2, f3, e1, e2, e3, e4⟩ := RpA.named r h
        refine ⟨v', fa ++ f1, f2, f3, by simp only [List.lookup, h1]; exact e1, by rw [e2, List.append_assoc], e3, fun o' f2' q => ?_⟩
        obtain ⟨os', q1, q2⟩ := e4 o' f2' q
        refine ⟨o1 :: os', by rw [List.append_assoc]; exact .cons r0 q1, ?_⟩
        rw [List.map_cons, List.zip_cons_cons, List.zip_cons_cons]
        show (if g = f then _ else _) = _
        rw [if_neg (fun z => e z.symm), q2]
end
section
variable {X : Cx} {W : WX} {pos apos cpos tpos p2 : Pos} {a b e k value : Expr} {ma mk mv : M.ME}
end
end S
namespace S
open PySem PySem.Spec PyProof.Rows L2
variable [Wd] [Hot]
section
variable {K : PySem.W.Frag}
end
end S
namespace S
open PySem PySem.Spec PyProof.Rows L2
variable [Wd] [Hot]
section
variable {X : Cx} {W : WX} {K : PySem.W.Frag} {a b : Expr} {ma mb : M.ME} {pos p apos : Pos} {x : Str}
end
end S
namespace S
open PySem PySem.Spec PyProof.Rows L2
variable [Wd] [Hot]
section
variable {X : Cx} {tg e : Expr} {td : TE}
end
section
variable {K : PySem.W.Frag} {F : Hp} {T : List Addr}
end
section
variable {X : Cx} {W : WX} {tg a : Expr} {ma : M.ME}
end
end S
namespace S
open PySem PySem.Spec PyProof.Rows L2
variable [Wd]
section
variable {K : PySem.W.Frag}
end
variable [Hot]
section
variable {X : Cx} {W : WX} {pos cpos apos spos ipos epos : Pos}
end
end S
namespace S
open PySem PySem.Spec PyProof.Rows L2
variable [Wd]
inductive CodeMade (Ck : Addr -> Prop) (H : Hp) (P : Addr) (q : Str) (c : Addr) : Hp -> Prop
  | told : Ck c -> CodeMade Ck H P q c H
  | fresh {ps ps' : Array Value} : H c = none -> H P = some (.tbl ps) -> TriplesOk ps'.toList -> (∀ (pos : Pos) (cv : Value), codeAmong pos ps'.toList = some cv -> codeAmong pos ps.toList = some cv \/ cv = .ref c) →
      CodeMade Ck H P q c (upd (upd H P (.tbl ps')) c (LamX.CodeO c q))
section
variable {X : Cx} {pins : List (Addr × Obj)} {σ : L2.St} {H : Hp} {s : Shared}
end
end S
namespace S
open PySem PySem.Spec PyProof.Rows L2
end S
namespace S
open PySem PySem.Spec PyProof.Rows L2
variable [Wd]
end S
namespace S
open PySem PySem.Spec PyProof.Rows L2
section
variable {P : Program} {w : World} {K : PySem.W.Frag} {mg mb : Str -> Option Value} {CX : CXT} {k : Nat} {fa a : Addr} {fd : FuncData} {x : Str} {sp : Sp} {s : Shared} {vs : List Value} {n0 : Nat} {H : Hp} {cs : List (Addr × Addr)}
end
end S
namespace S
open PySem PySem.Spec PyProof.Rows L2
variable [Wd] [Hot]
section
variable {X : Cx} {W : WX} {pos apos tpos p2 : Pos} {a value : Expr} {ma mv : M.ME} {t : Str} {j2 : Nat} {s : M.Tx}
end
end S
namespace S
open PySem PySem.Spec PyProof.Rows PySem.W
section
variable {prog : Program} {w : World} {A : Around} {E : Value -> Shared -> Prop} {s : Shared}
end
section
open L2
variable {X : Cx}
end
section
open L2
variable {X : Cx} {e : Expr} {te : TE} {p apos cpos pos : Pos} {sn : Str}
end
section
open L2
variable [Wd] [Hot]
end
section
open L2
variable [Wd] [Hot]
end
section
open L2
variable [Wd] [Hot] {X : Cx} {W : WX} {a : Expr} {ma : M.ME} {p apos iapos cpos pos : Pos} {sn : Str}
end
end S
namespace S
open PySem PySem.Spec PyProof.Rows L2
local macro_rules | `(tactic| walk_at "parts") => `(tactic| (constructor; (intro e h; simp only [List.mem_append, List.mem_cons, List.not_mem_nil] at *; grind); (intro x; simp only [keys, List.map_append, List.map_cons, List.map_nil, List.count_append, List.count_cons, List.count_nil] at *; omega)))
section
variable [Wd]
variable {K : PySem.W.Frag} {F H G : Hp} {T T' : List Addr}
def Drp (kl kd : Bool) (F G : Hp) : Prop := ∀ a o, F a = some o -> G a = some o \/ (kl = true /\ ∃ vs, o = .lst vs) \/ (kd = true /\ ∃ od kvs, o = .frz od (.dK kvs))
theorem Drp.keep {kl kd : Bool} (s : Drp kl kd F G) {a : Addr} {o : HO} (h : F a = some o) (n1 : ∀ vs, o ≠ .lst vs) (n2 : ∀ od kvs, o ≠ .frz od (.dK kvs)) : G a = some o := by
  rcases s a o h with h | ⟨_, vs, e⟩ | ⟨_, od, kvs, e⟩
  . exact h
  . exact absurd e (n1 vs)
  . exact absurd e (n2 od kvs)
theorem Drp.seqT {kl kd : Bool} (s : Drp kl kd F G) {a : Addr} {xs : List V} (h : SqT K F a xs) : SqT K G a xs := by
  rcases h with (h | ⟨o, h⟩) | h
  . exact .inl (.inl (s.keep h (fun _ z => nomatch z) fun _ _ z => nomatch z))
  . exact .inl (.inr ⟨o, s.keep h (fun _ z => nomatch z) fun _ _ z => nomatch z⟩)
  . exact .inr h
theorem Drp.lst {kd : Bool} (s : Drp false kd F G) {a : Addr} {vs : List V} (h : F a = some (.lst vs)) : G a = some (.lst vs) := by
  rcases s a _ h with h | ⟨z, _⟩ | ⟨_, od, kvs, e⟩
  . exact h
  . cases z
  . cases e
theorem Drp.seqL {kd : Bool} (s : Drp false kd F G) {a : Addr} {xs : List V} (h : SqL K F a xs) : SqL K G a xs := by
  rcases h with (h | ⟨o, h⟩) | h
  . exact .inl (.inl (s.lst h))
  . exact .inl (.inr ⟨o, s.keep h (fun _ z => nomatch z) fun _ _ z => nomatch z⟩)
  . exact .inr h
theorem Drp.dict {kl : Bool} (s : Drp kl false F G) {a : Addr} {kvs : List (Key × V)} (h : Rd F a (.dK kvs)) : Rd G a (.dK kvs) := by
  rcases h with h | ⟨o, h⟩
  . exact .inl (s.keep h (fun _ z => nomatch z) fun _ _ z => nomatch z)
  . rcases s a _ h with h | ⟨_, _, e⟩ | ⟨z, _⟩
    . exact .inr ⟨o, h⟩
    . cases e
    . cases z
theorem Drp.ext {kl kd : Bool} (s : Drp kl kd F G) {a : Addr} {φ : Heap -> Prop} (h : Rd F a (.ext φ)) : Rd G a (.ext φ) := by
  rcases h with h | ⟨o, h⟩
  . exact .inl (s.keep h (fun _ z => nomatch z) fun _ _ z => nomatch z)
  . exact .inr ⟨o, s.keep h (fun _ z => nomatch z) fun _ _ z => nomatch z⟩
theorem u5' {a b : Bool} (h : (a && b) = true) : a = true /\ b = true := Bool.and_eq_true_iff.mp h
def Lnt (kl kd : Bool) (o : HO) : Prop := (kl = true /\ ∃ vs, o = .lst vs) \/ (kd = true /\ ∃ kvs, o = .dK kvs)
def v3' (G : Hp) (e : Addr × HO) : Prop := G e.1 = some e.2 \/ ∃ od kvs, e.2 = .dK kvs /\ G e.1 = some (.frz od e.2)
theorem RpA.allFz {vs : List V} {os : List M.O} {fp : Fp} (r : RpA K F T vs os fp) (h : os.all M.pM' = true) : fp = [] /\ FzA K F T vs (M.frzs os) := by
  induction vs generalizing os fp with
  | nil => cases r; exact ⟨rfl, .nil⟩
  | cons v vs ih =>
    cases r with
    | @cons _ _ o os fa fb q r =>
      obtain ⟨h1, h2⟩ := u5' (show (M.pM' o && os.all M.pM') = true from h)
      obtain ⟨rfl, z⟩ := ih r h2
      cases o <;> try (cases h1; done)
      cases q with
      | fz q => exact ⟨rfl, .cons q z⟩
theorem Rp.lendO {kl kd : Bool} {v : V} {o : M.O} {fp : Fp} (q : Rp K F T v o fp) (h : M.lendO kl kd o = true) : (∀ e ∈ fp, Lnt kl kd e.2) /\ fp.length = M.tj' o /\ ∀ G, Same F G -> (∀ e ∈ fp, v3' G e) -> Fz K G T v (M.frz o) := by
  cases q with
  | fz z => exact ⟨nofun, rfl, fun G s _ => z.mono (.of s)⟩
  | lst r =>
    obtain ⟨h1, h2⟩ := u5' (show (kl && _) = true from h)
    obtain ⟨rfl, z⟩ := r.allFz h2
    refine ⟨fun e he => ?_, rfl, fun G s g => ?_⟩
    . cases List.mem_singleton.mp he; exact .inl ⟨h1, _, rfl⟩
    . rcases g _ List.mem_cons_self with g | ⟨_, _, g, _⟩
      . exact .lst g (z.mono (.of s))
      . cases g
  | tup r => cases h
  | dct k r =>
    obtain ⟨h1, h2⟩ := u5' (show (kd && _) = true from h)
    obtain ⟨rfl, z⟩ := r.allFz h2
    refine ⟨fun e he => ?_, rfl, fun G s g => ?_⟩
    . cases List.mem_singleton.mp he; exact .inr ⟨h1, _, rfl⟩
    . rcases g _ List.mem_cons_self with g | ⟨od, _, _, g⟩
      . exact .dct (.inl g) k (z.mono (.of s))
      . exact .dct (.inr ⟨od, g⟩) k (z.mono (.of s))
  | dcl k r => cases h
  | dcn k q r => cases h
end
section
variable [Wd] [Hot] {X : Cx} {W : WX} {e : Expr} {mo : M.MO}
end
end S
namespace S
open PySem PySem.Spec PyProof.Rows L2
local macro_rules | `(tactic| walk_at "parts") => `(tactic| (constructor; (intro e h; simp only [List.mem_append, List.mem_cons, List.not_mem_nil] at *; grind); (intro x; simp only [keys, List.map_append, List.map_cons, List.map_nil, List.count_append, List.count_cons, List.count_nil] at *; omega)))
variable [Wd] [Hot]
section
variable {K : PySem.W.Frag}
end
section
variable {X : Cx} {W : WX} {a b : Expr} {mb : M.ME} {pos : Pos}
end
end S
namespace S
open PySem PySem.Spec PyProof.Rows L2
local macro_rules | `(tactic| walk_at "parts") => `(tactic| (constructor; (intro e h; simp only [List.mem_append, List.mem_cons, List.not_mem_nil] at *; grind); (intro x; simp only [keys, List.map_append, List.map_cons, List.map_nil, List.count_append, List.count_cons, List.count_nil] at *; omega)))
variable [Wd]
section
variable {X : Cx} {pins : List (Addr × Obj)} {σ : St} {H : Hp} {s : Shared} {a b : Addr} {y d : V} {u r : Value} {ov : Option V} {A : Around} {E : Value -> Shared -> Prop}
end
section
variable [Hot] {X : Cx} {W : WX} {o e f a i k l : Expr} {me mf ma mk ml : M.ME} {pos tpos tpos2 apos cpos : Pos}
end
section
variable {K : PySem.W.Frag}
end
section
variable [Hot]
end
end S
namespace S
open PySem PySem.Spec PyProof.Rows L2
variable [Wd]
end S
namespace S
open PySem PySem.Spec PyProof.Rows L2
variable [Wd] [Hot]
section
variable {X : Cx} {W : WX}
end
end S
namespace S
open PySem PySem.Spec PyProof.Rows L2
local macro_rules | `(tactic| walk_at "parts") => `(tactic| (constructor; (intro e h; simp only [List.mem_append, List.mem_cons, List.not_mem_nil] at *; grind); (intro x; simp only [keys, List.map_append, List.map_cons, List.map_nil, List.count_append, List.count_cons, List.count_nil] at *; omega)))
variable [Wd]
inductive HitsD (K : PySem.W.Frag) (H : Hp) (ls : List (Key × V)) : List (Key × V) -> Bool -> Prop
  | nil : HitsD K H ls [] true
  | miss {p : Key × V} {r : List (Key × V)} : valV ls p.1 = none -> HitsD K H ls (p :: r) false
  | hit {p : Key × V} {u : V} {d e : PyData} {r : List (Key × V)} {b : Bool} : valV ls p.1 = some u -> Dp K H p.2 d -> Dp K H u e -> SeqAt.shaped d = true -> SeqAt.shaped e = true -> HitsD K H ls r b -> HitsD K H ls (p :: r) (PyData.eqv d e && b)
section
variable {X : Cx}
end
section
variable {K : PySem.W.Frag}
end
section
variable {X : Cx} {pins : List (Addr × Obj)} {σ : St} {H : Hp} {s : Shared} {a b : Addr} {y d : V} {u r : Value} {ov : Option V} {A : Around} {E : Value -> Shared -> Prop}
end
section
variable [Hot] {X : Cx} {W : WX} {o e f a i k l : Expr} {me mf ma mk ml : M.ME} {pos tpos tpos2 apos cpos : Pos}
end
end S
namespace S
open PySem PySem.Spec PyProof.Rows L2 PySem.SeqAt
variable [Wd] [Hot]
variable {K : PySem.W.Frag}
end S
namespace S
open PySem PySem.Spec PyProof.Rows L2
local macro_rules | `(tactic| walk_at "parts") => `(tactic| (constructor; (intro e h; simp only [List.mem_append, List.mem_cons, List.not_mem_nil] at *; grind); (intro x; simp only [keys, List.map_append, List.map_cons, List.map_nil, List.count_append, List.count_cons, List.count_nil] at *; omega)))
section
variable [Wd] [Hot] {X : Cx} {W : WX} {pos : Pos}
end
end S
namespace S
open PySem PySem.Spec PyProof.Rows L2
variable [Wd] [Hot]
section
variable {K : PySem.W.Frag} {W : WX} {σ : St} {H : Hp} {D : Ends}
end
section
variable {X : Cx} {W : WX} {pos px ps pr : Pos} {tg c e : Expr} {sl : List Nat} {i : Nat} {nm : Str} {g : M.MG} {t : M.MT} {a : M.MO}
end
section
variable {X : Cx} {W : WX} {apos cpos : Pos} {o e : Expr} {es : List Expr} {x : Str} {as : M.MA}
end
end S
namespace L2
open PySem PySem.Spec PyProof.Rows
structure Lay (X : Cx) (pn : List (Addr × Obj)) (a : Addr) (cls : Value) (d : Option Addr) (σ : St) (H : Hp) (s : Shared) : Prop where
  src : ∃ B z, Inv X pn σ H z /\ (∀ b o, z.heap.get? b = some o -> b ∉ frs X.stack -> B.get? b = some o) /\ z.heap.UpToSlots s.heap /\ HandSPX.FlyingZ B (X.env :: X.outer) a (Zc cls d) s.heap /\ s.os = z.os /\ AllBare s.gens
  na : H a = none
section
variable {X : Cx} {pn : List (Addr × Obj)} {a : Addr} {cls : Value} {d : Option Addr} {σ : St} {H : Hp} {s : Shared}
theorem Lay.inv (y : Lay X pn a cls d σ H s) : Inv X pn σ H s := by
  obtain ⟨⟨B, z, I, h1, h2, h3, h4, h5⟩, -⟩ := y
  exact I.landed h1 h3.1 h2 h4 h5
theorem Lay.held (y : Lay X pn a cls d σ H s) (hf : X.env.frame = some X.env.locals) : ∃ oe, s.heap.get? a = some oe /\ Zc cls d oe /\ (∃ vs, oe.data = .fields vs) /\ Inv (X.suite a ((a, oe) :: (X.pn ++ pn))) [] σ H s := by
  have I := y.inv
  obtain ⟨⟨B, z, -, -, -, fl, -, -⟩, na⟩ := y
  obtain ⟨oe, vs, e1, e2, e3⟩ := fl.there
  have off : a ∉ frs (X.env :: X.outer) := by
    intro m
    obtain ⟨_, o2, e4, no⟩ := fl.2.2.1.mem m
    rw [e1] at e4
    cases e4
    exact no vs e3
  have q1 : a ≠ X.env.locals := by
    intro q
    refine off (List.mem_filterMap.2 ⟨X.env, by simp, ?_⟩)
    rw [hf, q]
  have q2 : a ∉ X.fs := by
    intro m
    obtain ⟨w, m1, m2⟩ := List.mem_filterMap.1 m
    exact off (List.mem_filterMap.2 ⟨w, by simp [m1], m2⟩)
  exact ⟨oe, e1, e2, ⟨vs, e3⟩, I.suite e1 e3 na q1 q2⟩
theorem Lay.cool {M : Model} {A : Around} {E : Value -> Shared -> Prop} {Q : Unit -> Shared -> Prop} (y : Lay X pn a cls d σ H s) (h : ∀ s', Lay X pn a cls d σ H s' -> Q () s') : wpAny M A (setFlight (.ref a) none) Q E s := by
  obtain ⟨⟨B, z, I, h1, h2, h3, h4, h5⟩, na⟩ := y
  exact HandSPX.lands_againZ h3 fun g k1 k2 => h _ ⟨⟨B, z, I, h1, h2.trans k2, k1, h4, h5⟩, na⟩
theorem Lay.out {W : WX} {Q : Flow -> Shared -> Prop} (y : Lay X pn a cls d σ H s) (hs : X.stack = X.env :: X.outer) (hf : X.env.frame = some X.env.locals) (tk : Takes X W) (w : W cls d σ H) : wpAny (model X.prog X.w) X.A (handleBy (.ref a) X.env []) Q X.xe s := by
  obtain ⟨⟨B, z, I, h1, h2, h3, h4, h5⟩, na⟩ := y
  obtain ⟨-, -, -, oe, vs, T, -, -, e1, -, e2, e3, -⟩ := id h3
  refine wpAny_handleBy_nil ?_
  unfold PySem.passOn
  refine wpAny_bind (wpAny_field e1 e2 e3 ?_)
  have nT : (Value.ref T == Value.none) = false := by simp
  rw [nT, if_neg Bool.false_ne_true]
  have up : wpAny (model X.prog X.w) X.A (setFlight (.ref a) X.env.frame) (fun _ r => wpAny (model X.prog X.w) X.A (throw (.ref a) : Sem Flow) Q X.xe r) X.xe s := by
    rw [hf]
    refine HandSPX.setFlight_upZ h3 fun g k1 k2 => wpAny_throw (tk (.ref a) _ ?_)
    refine ⟨a, B, z, pn, σ, H, cls, d, rfl, I, h1, h2.trans k2, ?_, na, h4, h5, w⟩
    rw [hs]
    exact .inr (.inr k1)
  first
    | exact wpAny_bind (wpAny_pure (wpAny_bind up))
    | exact wpAny_bind up
end
def vQ' (D : Ends) (i : Nat) : Ends := { nx := fun σ H => D.nx (σ.set i none) H, rt := D.rt, bk := fun σ H => D.bk (σ.set i none) H, ct := fun σ H => D.ct (σ.set i none) H }
def tAs (i : Nat) (ts : Addr -> Value -> Option Addr -> TS) : Addr -> Value -> Option Addr -> TS := fun a cls d D σ H => ts a cls d (vQ' D i) (σ.set i (some (.ref a))) H
inductive HdsN (X : Cx) : List ExceptHandler -> List (Value × (Addr -> Value -> Option Addr -> TS)) -> Prop
  | nil : HdsN X [] []
  | plain {x : Str} {c : Value} {ts : Addr -> Value -> Option Addr -> TS} {b : Stmt} {bs : List Stmt} {p q : Pos} {r : List ExceptHandler} {l : List (Value × (Addr -> Value -> Option Addr -> TS))} (hc : Names X x c)
      (h : ∀ (a : Addr) (oe : Obj) (cls : Value) (d : Option Addr) (pn : List (Addr × Obj)), Zc cls d oe -> (∃ vs, oe.data = .fields vs) -> PSs (X.suite a ((a, oe) :: pn)) (b :: bs) (ts a cls d)) : HdsN X r l →
      HdsN X (.ExceptHandler (some (.Name x p)) none (b :: bs) q :: r) ((c, ts) :: l)
  | named {x n : Str} {i : Nat} {c : Value} {ts : Addr -> Value -> Option Addr -> TS} {b : Stmt} {bs : List Stmt} {p q : Pos} {r : List ExceptHandler} {l : List (Value × (Addr -> Value -> Option Addr -> TS))} (hN : X.N.Nodup) (hi : X.N[i]? = some n) (hln : X.env.kindOf n = some .local) (hc : Names X x c)
      (h : ∀ (a : Addr) (oe : Obj) (cls : Value) (d : Option Addr) (pn : List (Addr × Obj)), Zc cls d oe -> (∃ vs, oe.data = .fields vs) -> PSs (X.suite a ((a, oe) :: pn)) (b :: bs) (ts a cls d)) : HdsN X r l →
      HdsN X (.ExceptHandler (some (.Name x p)) (some n) (b :: bs) q :: r) ((c, tAs i ts) :: l)
section
variable {X : Cx} {pn : List (Addr × Obj)} {a : Addr} {cls : Value} {d : Option Addr} {σ : St} {H : Hp} {s : Shared}
theorem Lay.asks {x : Str} {c : Value} {b : Bool} {nm : Option Str} {body : List Stmt} {p q : Pos} {r : List ExceptHandler} {Q : Flow -> Shared -> Prop} (y : Lay X pn a cls d σ H s) (hf : X.env.frame = some X.env.locals) (hc : Names X x c) (hb : PySem.W.exmOne X.K cls c = some b)
    (yes : b = true -> codeAny (model X.prog X.w) (X.A.mark (some (.ref a))) (.handlers (.ref a) [.ExceptHandler none nm body q] X.env) (fun o s₂ => match o with
          | .ok f => (match nm with
            | none => Q f s₂
            | some n => wpAny (model X.prog X.w) X.A (do bindName X.env n .none; unbindBehindTheSuite X.env n q) (fun _ s₃ => Q f s₃) X.xe s₂)
          | .error x => cameBackBy (model X.prog X.w) X.A X.env X.xe x s₂) s)
    (no : b = false -> wpAny (model X.prog X.w) X.A (handleBy (.ref a) X.env r) Q X.xe s) : wpAny (model X.prog X.w) X.A (handleBy (.ref a) X.env (.ExceptHandler (some (.Name x p)) nm body q :: r)) Q X.xe s := by
  obtain ⟨oe, e1, e2, e3, S⟩ := y.held hf
  have I := y.inv
  refine wpAny_handleBy_cons (codeAny_handlers_test ?_) (fun z => by cases z)
  have lt : PySem.W.Looks (model X.prog X.w) s.heap (typeOf (.ref a)) cls := fun A Q E s k q => wpAny_typeOf_ref (k _ _ e1) (by rw [e2.1]; exact q)
  have lm := PySem.W.exm_one (M := model X.prog X.w) I.kIn lt hb
  have ask : ∀ {Q E : Value -> Shared -> Prop}, Q c s -> wpAny (model X.prog X.w) (X.A.mark (some (.ref a))) (eval (.Name x p) X.env) Q E s := by
    intro Q E z
    obtain ⟨g1, g2, g3⟩ := hc
    rcases g3 with g3 | ⟨g3, g4, g5⟩
    . exact ld_glob (X := X.suite a ((a, oe) :: (X.pn ++ pn))) S g1 g3 z g2
    . exact ld_blt (X := X.suite a ((a, oe) :: (X.pn ++ pn))) S g1 g3 g4 z g5 g2
  refine ask (lm.here ?_)
  cases b with
  | false => exact no rfl
  | true => exact yes rfl
theorem Lay.run {W : WX} {D : Ends} (hs : X.stack = X.env :: X.outer) (hf : X.env.frame = some X.env.locals) (tk : Takes X W) {hds : List ExceptHandler} {l : List (Value × (Addr -> Value -> Option Addr -> TS))} (hh : HdsN X hds l) (y : Lay X pn a cls d σ H s) (w : wMany X.K W D l cls d σ H) :
    wpAny (model X.prog X.w) X.A (handleBy (.ref a) X.env hds) (SP X pn D) X.xe s := by
  have ok := y.inv.ok
  induction hh with
  | nil => exact y.out hs hf tk w
  | @plain x c ts b bs p q r l hc h _ ih =>
    obtain ⟨t, w1, w2, w3⟩ := w
    refine y.asks hf hc w1 (fun et => codeAny_handlers_suite (y.cool fun s2 y2 => ?_)) fun et => ih (w3 et)
    obtain ⟨oe, e1, e2, e3, S⟩ := y2.held hf
    refine wpAny_mono ((h a oe cls d (X.pn ++ pn) e2 e3).run [] s2 σ H D S (w2 et a y.na)) (fun f s3 z => ?_) (fun _ _ z => z.elim)
    cases f with
    | next =>
      obtain ⟨σ3, H3, S3, z⟩ := z
      exact ⟨σ3, H3, S3.unsuite ok, z⟩
    | brk =>
      obtain ⟨σ3, H3, S3, z⟩ := z
      exact ⟨σ3, H3, S3.unsuite ok, z⟩
    | cont =>
      obtain ⟨σ3, H3, S3, z⟩ := z
      exact ⟨σ3, H3, S3.unsuite ok, z⟩
    | ret u =>
      obtain ⟨v, σ3, H3, S3, z⟩ := z
      exact ⟨v, σ3, H3, S3.unsuite ok, z⟩
  | @named x n i c ts b bs p q r l hN hi hln hc h _ ih =>
    obtain ⟨t, w1, w2, w3⟩ := w
    refine y.asks hf hc w1 (fun et => codeAny_handlers_suite_as (y.cool fun s2 y2 => ?_)) fun et => ih (w3 et)
    obtain ⟨oe, e1, e2, e3, S⟩ := y2.held hf
    refine store_ok (X := X.suite a ((a, oe) :: (X.pn ++ pn))) (v := .ref a) S hN hi (.inl hln) rfl (fun s3 S3 => ?_) (.inr hln)
    refine wpAny_mono ((h a oe cls d (X.pn ++ pn) e2 e3).run [] s3 _ H _ S3 (w2 et a y.na)) (fun f s4 z => ?_) (fun _ _ z => z.elim)
    have gone : ∀ {σ4 : St} {H4 : Hp} {R : Shared -> Prop}, Inv (X.suite a ((a, oe) :: (X.pn ++ pn))) [] σ4 H4 s4 -> (∀ s5, Inv X pn (σ4.set i none) H4 s5 -> R s5) -> wpAny (model X.prog X.w) X.A (do bindName X.env n .none; unbindBehindTheSuite X.env n q) (fun _ s5 => R s5) X.xe s4 := by
      intro σ4 H4 R S4 k
      exact gone_ok (S4.unsuite ok) hN hi hln k
    cases f with
    | next =>
      obtain ⟨σ3, H3, S3, z⟩ := z
      exact gone S3 fun _ k => ⟨_, _, k, z⟩
    | brk =>
      obtain ⟨σ3, H3, S3, z⟩ := z
      exact gone S3 fun _ k => ⟨_, _, k, z⟩
    | cont =>
      obtain ⟨σ3, H3, S3, z⟩ := z
      exact gone S3 fun _ k => ⟨_, _, k, z⟩
    | ret u =>
      obtain ⟨v, σ3, H3, S3, z⟩ := z
      exact gone S3 fun _ k => ⟨_, _, _, k, z⟩
end
section
variable {X : Cx} {body : List Stmt} {h₀ : ExceptHandler} {hds : List ExceptHandler} {l : List (Value × (Addr -> Value -> Option Addr -> TS))} {pos : Pos} {tb : WX -> TS} {W : WX}
end
end L2
namespace S
open PySem PySem.Spec PyProof.Rows L2
variable [Wd]
section
variable {X : Cx} {W : WX} {D : Ends} {σ : St} {H : Hp} {F : Hp} {T : List Addr} {fr : Fp}
abbrev Hn := List (Option (Nat × Nat) × (String -> Option Bool) × (M.Exc -> M.MS))
inductive HdsMN (X : Cx) : List ExceptHandler -> Hn -> List (Value × (Addr -> Value -> Option Addr -> TS)) -> Prop
  | nil : HdsMN X [] [] []
  | plain {x : Str} {c : Value} {g : String -> Option Bool} {h : M.Exc -> M.MS} {b : Stmt} {bs : List Stmt} {p q : Pos} {r : List ExceptHandler} {l : Hn} {l' : List (Value × (Addr -> Value -> Option Addr -> TS))} (hc : Names X x c)
      (hg : ∀ y b, g y = some b -> PySem.W.exmOne X.K (.ref (He.ga X.K y)) c = some b)
      (hsu : ∀ (e : M.Exc) (a : Addr) (oe : Obj) (d : Option Addr) (pn : List (Addr × Obj)), Zc (.ref (He.ga X.K e.cls)) d oe -> (∃ vs, oe.data = .fields vs) -> SSs (X.suite a ((a, oe) :: pn)) W0 (b :: bs) (h e)) : HdsMN X r l l' →
      HdsMN X (.ExceptHandler (some (.Name x p)) none (b :: bs) q :: r) ((none, g, h) :: l) ((c, tsM X.K h) :: l')
  | named {x n : Str} {i m : Nat} {c : Value} {g : String -> Option Bool} {h : M.Exc -> M.MS} {b : Stmt} {bs : List Stmt} {p q : Pos} {r : List ExceptHandler} {l : Hn} {l' : List (Value × (Addr -> Value -> Option Addr -> TS))} (hN : X.N.Nodup) (hi : X.N[i]? = some n) (hln : X.env.kindOf n = some .local) (hc : Names X x c)
      (hg : ∀ y b, g y = some b -> PySem.W.exmOne X.K (.ref (He.ga X.K y)) c = some b)
      (hsu : ∀ (e : M.Exc) (a : Addr) (oe : Obj) (d : Option Addr) (pn : List (Addr × Obj)), Zc (.ref (He.ga X.K e.cls)) d oe -> (∃ vs, oe.data = .fields vs) -> @SSs _ (e3' a m d e) (X.suite a ((a, oe) :: pn)) W0 (b :: bs) (h e)) : HdsMN X r l l' →
      HdsMN X (.ExceptHandler (some (.Name x p)) (some n) (b :: bs) q :: r) ((some (i, m), g, h) :: l) ((c, tAs i (tsA [] X.K m h)) :: l')
theorem HdsMN.ok {hds : List ExceptHandler} {l : Hn} {l' : List (Value × (Addr -> Value -> Option Addr -> TS))} (h : HdsMN X hds l l') : HdsN X hds l' := by
  induction h with
  | nil => exact .nil
  | plain hc hg hsu r ih => exact .plain hc (iH' hsu) ih
  | named hN hi hln hc hg hsu r ih =>
    refine .named hN hi hln hc (fun a oe cls d pn hz hf => ⟨fun pins s σ H D I q => ?_⟩) ih
    obtain ⟨e, rfl, q⟩ := q
    exact (hsu e a oe d pn hz hf).run pins s σ H D I q
end
end S
namespace S
open PySem PySem.Spec PyProof.Rows L2
variable [Wd]
structure LamOk (P : Program) (w : World) (K : PySem.W.Frag) (mg : Str -> Option Value) (base : Heap) (k : Nat) (cl : List (Str × Addr)) (fr : List Str) (c : CloD) (U : M.MF) : Prop where
  isfn : ∀ h : Heap, h.get? c.f = some c.ob -> PySem.W.FnAt c.f h
  run : ∀ (A : Around) (outer : List Env) (s : Shared) (H : Hp) (us : List Value) (vs : List V) (Q : VK) (E : XK), RoomG k A -> Env0 P w K mg base A outer s H →
    NdefX.CellsAt cl fr (c.ws.map some) s.heap H -> Vals vs us →
    (∃ ds w' F T fp, FzA K F T vs ds /\ CloAt K F T c /\ nG' K w' H F T fp /\ qn' K Q E F T fp (U ds w')) -> codeAny (model P w) A (.call (.ref c.f) ⟨us, []⟩) (CR (L2.CX P w) outer P w H s Q E) s
theorem LamOk.mono {P : Program} {w : World} {K : PySem.W.Frag} {mg : Str -> Option Value} {base : Heap} {j k : Nat} {cl : List (Str × Addr)} {fr : List Str} {c : CloD} {U : M.MF} (h : LamOk P w K mg base j cl fr c U) (l : j <= k) : LamOk P w K mg base k cl fr c U :=
  ⟨h.isfn, fun A o s H us vs Q E hr => h.run A o s H us vs Q E (hr.mono l)⟩
section
variable {P : Program} {w : World} {K : PySem.W.Frag} {mg : Str -> Option Value} {base : Heap}
end
inductive ArgK (K : PySem.W.Frag) (F : Hp) (T : List Addr) : List Bool -> List V -> List M.D -> List CloD -> Prop
  | nil : ArgK K F T [] [] [] []
  | dat {m : List Bool} {v : V} {vs : List V} {d : M.D} {ds : List M.D} {cs : List CloD} : Fz K F T v d -> ArgK K F T m vs ds cs -> ArgK K F T (false :: m) (v :: vs) (d :: ds) cs
  | clo {m : List Bool} {vs : List V} {ds : List M.D} {c : CloD} {cs : List CloD} : CloAt K F T c -> ArgK K F T m vs ds cs -> ArgK K F T (true :: m) (.ref c.f :: vs) ds (c :: cs)
theorem ArgK.mono {K : PySem.W.Frag} {F F' : Hp} {T T' : List Addr} (e : Ext F T F' T') {m : List Bool} {vs : List V} {ds : List M.D} {cs : List CloD} (h : ArgK K F T m vs ds cs) : ArgK K F' T' m vs ds cs := by
  induction h with
  | nil => exact .nil
  | dat z _ ih => exact .dat (z.mono e) ih
  | clo z _ ih => exact .clo (z.mono e) ih
section
variable [Hot] {X : Cx} {W : WX} {k : Nat} {e : Expr} {es : List Expr} {a : M.ME} {as : List M.AK}
end
structure FnK (P : Program) (w : World) (K : PySem.W.Frag) (mg : Str -> Option Value) (base : Heap) (k : Nat) (f : Addr) (fd : FuncData) (ps : List Str) (kc : Nat) (mask : List Bool) (m : List M.MF -> M.MF) : Prop where
  len : mask.length = ps.length
  run : ∀ (A : Around) (outer : List Env) (s : Shared) (H : Hp) (args : Args) (us : List Value) (vs : List V) (Q : VK) (E : XK), RoomG k A -> Env0 P w K mg base A outer s H -> BindsTo s fd args (ps.zip us) -> Vals vs us →
    (∃ ds cs Us w' F T fr, ArgK K F T mask vs ds cs /\ Paired (fun c U => ∃ cl fr, LamOk P w K mg base kc cl fr c U /\ NdefX.CellsAt cl fr (c.ws.map some) s.heap H) cs Us /\ nG' K w' H F T fr /\ qn' K Q E F T fr (m Us ds w')) →
    codeAny (model P w) A (.call (.ref f) args) (CR (L2.CX P w) outer P w H s Q E) s
theorem ArgK.len {K : PySem.W.Frag} {F : Hp} {T : List Addr} {m : List Bool} {vs : List V} {ds : List M.D} {cs : List CloD} (h : ArgK K F T m vs ds cs) : vs.length = m.length := by
  induction h with
  | nil => rfl
  | dat _ _ ih => exact congrArg (· + 1) ih
  | clo _ _ ih => exact congrArg (· + 1) ih
def qq' : Nat -> List Bool -> List CloD -> List (Nat × CloD)
  | n, true :: m, c :: cs => (n - 1, c) :: qq' (n - 1) m cs
  | n, false :: m, cs => qq' (n - 1) m cs
  | _, _, _ => []
theorem RpE.offs [Hot] {K : PySem.W.Frag} {F : Hp} {T : List Addr} : ∀ r : Nat, RpE K F T (List.replicate r none) (List.replicate r none) []
  | 0 => .nil
  | r + 1 => .off (RpE.offs r)
theorem ArgK.start [Hot] {K : PySem.W.Frag} {F : Hp} {T : List Addr} {r : Nat} : ∀ {m : List Bool} {vs : List V} {ds : List M.D} {cs : List CloD}, ArgK K F T m vs ds cs -> (∀ i c, (i, c) ∈ qq' (m.length + r) m cs -> Hot.clo.lookup i = some c) →
    ∃ env, M.r9' m ds = some env /\ env.length = m.length /\ RpE K F T (vs.map some ++ List.replicate r none) (env ++ List.replicate r none) []
  | _, _, _, _, .nil, _ => ⟨[], rfl, rfl, RpE.offs r⟩
  | _, _, _, _, @ArgK.dat _ _ _ _ m v vs d ds cs z a, h => by
    obtain ⟨env, h1, h2, h3⟩ := ArgK.start (r := r) a fun i c hi => h i c (by
      show (i, c) ∈ qq' (m.length + 1 + r - 1) m cs
      rwa [show m.length + 1 + r - 1 = m.length + r by omega])
    exact ⟨some (.fz d) :: env, by show (M.r9' m ds).map _ = _; rw [h1]; rfl, congrArg (· + 1) h2, RpE.on (fp := []) (fq := []) (.fz z) h3⟩
  | _, _, _, _, @ArgK.clo _ _ _ _ m vs ds c cs z a, h => by
    have e1 : m.length + 1 + r - 1 = m.length + r := by omega
    obtain ⟨env, h1, h2, h3⟩ := ArgK.start (r := r) a fun i c' hi => h i c' (by
      show (i, c') ∈ (m.length + 1 + r - 1, c) :: qq' (m.length + 1 + r - 1) m cs
      rw [e1]
      exact List.mem_cons_of_mem _ hi)
    refine ⟨some .clo :: env, by show (M.r9' m ds).map _ = _; rw [h1]; rfl, congrArg (· + 1) h2, RpE.clo ?_ z h3⟩
    show Hot.clo.lookup (env ++ List.replicate r none).length = some c
    rw [List.length_append, List.length_replicate, h2]
    refine h _ c ?_
    show _ ∈ (m.length + 1 + r - 1, c) :: qq' (m.length + 1 + r - 1) m cs
    rw [e1]
    exact List.mem_cons_self
section
variable {P : Program} {w : World} {K : PySem.W.Frag} {mg : Str -> Option Value} {base : Heap}
end
section
variable [Hot] {X : Cx} {W : WX} {k kc : Nat} {x : Str} {ps : List Str} {p pos : Pos} {e : Expr} {es : List Expr} {as : List M.AK} {m : List M.MF -> M.MF}
end
section
variable [Hot] {X : Cx} {W : WX} {kc i : Nat} {x : Str} {p pos : Pos} {e : Expr} {es : List Expr} {as : M.MA} {U : M.MF}
end
end S
namespace S
open PySem PySem.Spec PyProof.Rows L2
variable [Wd] [Hot]
section
variable {K : PySem.W.Frag}
end
end S
namespace S
open PySem PySem.Spec PyProof.Rows L2
variable [Wd] [Hot]
section
variable {X : Cx} {W : WX} {pos p : Pos} {x : Str} {a : Expr} {σ : St} {H : Hp} {Q : VK}
end
end S
namespace S
open PySem PySem.Spec PyProof.Rows L2
variable [Wd] [Hot]
section
variable {K : PySem.W.Frag} {W : WX} {σ : St} {H : Hp} {D : Ends}
end
section
variable {X : Cx} {W : WX} {pos : Pos} {tg e : Expr} {body : List Stmt} {sl : List Nat} {a : M.ME} {g : M.MG} {m1 : M.MS}
end
end S
namespace S
open PySem PySem.Spec PyProof.Rows L2
structure Ctx (w : World) (K : PySem.W.Frag) (mg : Str -> Option Value) : Prop where
  says : ∃ (h : Heap), He.SaysX fas fns tbs [] exK w h K
  inn : ∃ h : Heap, K.In h /\ h.Ns mainGlobals mg
section
variable [Wd] {w : World} {K : PySem.W.Frag} {mg : Str -> Option Value}
theorem Ctx.d (C : Ctx w K mg) : He.SaysD fas fns K := by
  obtain ⟨h, s⟩ := C.says
  exact s.t.d
theorem Ctx.more (C : Ctx w K mg) (i : Nat) {f : PySem.W.Frag -> Bool} (e : exs[i]? = some f) : f K = true := by
  obtain ⟨h, s⟩ := C.says
  exact List.all_eq_true.mp s.more f (List.mem_of_getElem? e)
theorem Ctx.glo (C : Ctx w K mg) {x : Str} (i : Nat) (h : fas[i]? = some (.glo x)) : mg x = some (.ref (He.ga K x)) := by
  obtain ⟨hp, X, G⟩ := C.inn
  exact He.glo_ok X G (C.d.fact i h)
theorem Ctx.g_is_string_of (C : Ctx w K mg) : mg "is_string_of" = some (.ref (He.ga K "is_string_of")) := C.glo 0 rfl
theorem Ctx.g_check_dealing (C : Ctx w K mg) : mg "check_dealing" = some (.ref (He.ga K "check_dealing")) := C.glo 1 rfl
theorem Ctx.g_hands_of (C : Ctx w K mg) : mg "hands_of" = some (.ref (He.ga K "hands_of")) := C.glo 2 rfl
theorem Ctx.g_is_row (C : Ctx w K mg) : mg "is_row" = some (.ref (He.ga K "is_row")) := C.glo 3 rfl
theorem Ctx.g_check_row (C : Ctx w K mg) : mg "check_row" = some (.ref (He.ga K "check_row")) := C.glo 4 rfl
theorem Ctx.g_sight (C : Ctx w K mg) : mg "sight" = some (.ref (He.ga K "sight")) := C.glo 5 rfl
theorem Ctx.g_seen (C : Ctx w K mg) : mg "seen" = some (.ref (He.ga K "seen")) := C.glo 6 rfl
theorem Ctx.g_crossed (C : Ctx w K mg) : mg "crossed" = some (.ref (He.ga K "crossed")) := C.glo 7 rfl
theorem Ctx.g_parts_of (C : Ctx w K mg) : mg "parts_of" = some (.ref (He.ga K "parts_of")) := C.glo 8 rfl
theorem Ctx.g_stretches (C : Ctx w K mg) : mg "stretches" = some (.ref (He.ga K "stretches")) := C.glo 9 rfl
theorem Ctx.g__law_hand (C : Ctx w K mg) : mg "_law_hand" = some (.ref (He.ga K "_law_hand")) := C.glo 10 rfl
theorem Ctx.g__law_draw (C : Ctx w K mg) : mg "_law_draw" = some (.ref (He.ga K "_law_draw")) := C.glo 11 rfl
theorem Ctx.g__law_dealing (C : Ctx w K mg) : mg "_law_dealing" = some (.ref (He.ga K "_law_dealing")) := C.glo 12 rfl
theorem Ctx.g__law_hands (C : Ctx w K mg) : mg "_law_hands" = some (.ref (He.ga K "_law_hands")) := C.glo 13 rfl
theorem Ctx.g__law_row (C : Ctx w K mg) : mg "_law_row" = some (.ref (He.ga K "_law_row")) := C.glo 14 rfl
theorem Ctx.g__law_sight (C : Ctx w K mg) : mg "_law_sight" = some (.ref (He.ga K "_law_sight")) := C.glo 15 rfl
theorem Ctx.g__law_bad_dealing (C : Ctx w K mg) : mg "_law_bad_dealing" = some (.ref (He.ga K "_law_bad_dealing")) := C.glo 16 rfl
theorem Ctx.g__law_bad_row (C : Ctx w K mg) : mg "_law_bad_row" = some (.ref (He.ga K "_law_bad_row")) := C.glo 17 rfl
theorem Ctx.g__law_bad_hand (C : Ctx w K mg) : mg "_law_bad_hand" = some (.ref (He.ga K "_law_bad_hand")) := C.glo 18 rfl
theorem Ctx.g__law_bad_rows (C : Ctx w K mg) : mg "_law_bad_rows" = some (.ref (He.ga K "_law_bad_rows")) := C.glo 19 rfl
theorem Ctx.g__law_marks (C : Ctx w K mg) : mg "_law_marks" = some (.ref (He.ga K "_law_marks")) := C.glo 20 rfl
theorem Ctx.g__law_due (C : Ctx w K mg) : mg "_law_due" = some (.ref (He.ga K "_law_due")) := C.glo 21 rfl
theorem Ctx.g_law (C : Ctx w K mg) : mg "law" = some (.ref (He.ga K "law")) := C.glo 22 rfl
theorem Ctx.g_SaidError (C : Ctx w K mg) : mg "SaidError" = some (.ref (He.ga K "SaidError")) := C.glo 23 rfl
theorem Ctx.g_NoDealing (C : Ctx w K mg) : mg "NoDealing" = some (.ref (He.ga K "NoDealing")) := C.glo 25 rfl
theorem Ctx.x_NoDealing (C : Ctx w K mg) : PySem.W.excIn K (He.ga K "NoDealing") He.veBase "ValueError.__new__" = true := (He.exc_ok (C.d.fact 26 rfl)).1
theorem Ctx.k_NoDealing (C : Ctx w K mg) : PySem.W.keepIn K (.ref (He.ga K "NoDealing")) = true := (He.exc_ok (C.d.fact 26 rfl)).2.1
theorem Ctx.r_NoDealing (C : Ctx w K mg) {X : Cx} (e : X.K = K := by rfl) : Raises X (.ref (He.ga K "NoDealing")) := by subst e; exact raises_own (He.exc_ok (C.d.fact 26 rfl)).2.2.1 (He.exc_ok (C.d.fact 26 rfl)).2.2.2
theorem Ctx.g_NoRow (C : Ctx w K mg) : mg "NoRow" = some (.ref (He.ga K "NoRow")) := C.glo 27 rfl
theorem Ctx.x_NoRow (C : Ctx w K mg) : PySem.W.excIn K (He.ga K "NoRow") He.veBase "ValueError.__new__" = true := (He.exc_ok (C.d.fact 28 rfl)).1
theorem Ctx.k_NoRow (C : Ctx w K mg) : PySem.W.keepIn K (.ref (He.ga K "NoRow")) = true := (He.exc_ok (C.d.fact 28 rfl)).2.1
theorem Ctx.r_NoRow (C : Ctx w K mg) {X : Cx} (e : X.K = K := by rfl) : Raises X (.ref (He.ga K "NoRow")) := by subst e; exact raises_own (He.exc_ok (C.d.fact 28 rfl)).2.2.1 (He.exc_ok (C.d.fact 28 rfl)).2.2.2
theorem Ctx.g_NoHand (C : Ctx w K mg) : mg "NoHand" = some (.ref (He.ga K "NoHand")) := C.glo 29 rfl
theorem Ctx.x_NoHand (C : Ctx w K mg) : PySem.W.excIn K (He.ga K "NoHand") He.veBase "ValueError.__new__" = true := (He.exc_ok (C.d.fact 30 rfl)).1
theorem Ctx.k_NoHand (C : Ctx w K mg) : PySem.W.keepIn K (.ref (He.ga K "NoHand")) = true := (He.exc_ok (C.d.fact 30 rfl)).2.1
theorem Ctx.r_NoHand (C : Ctx w K mg) {X : Cx} (e : X.K = K := by rfl) : Raises X (.ref (He.ga K "NoHand")) := by subst e; exact raises_own (He.exc_ok (C.d.fact 30 rfl)).2.2.1 (He.exc_ok (C.d.fact 30 rfl)).2.2.2
theorem Ctx.g_NoRows (C : Ctx w K mg) : mg "NoRows" = some (.ref (He.ga K "NoRows")) := C.glo 31 rfl
theorem Ctx.x_NoRows (C : Ctx w K mg) : PySem.W.excIn K (He.ga K "NoRows") He.veBase "ValueError.__new__" = true := (He.exc_ok (C.d.fact 32 rfl)).1
theorem Ctx.k_NoRows (C : Ctx w K mg) : PySem.W.keepIn K (.ref (He.ga K "NoRows")) = true := (He.exc_ok (C.d.fact 32 rfl)).2.1
theorem Ctx.r_NoRows (C : Ctx w K mg) {X : Cx} (e : X.K = K := by rfl) : Raises X (.ref (He.ga K "NoRows")) := by subst e; exact raises_own (He.exc_ok (C.d.fact 32 rfl)).2.2.1 (He.exc_ok (C.d.fact 32 rfl)).2.2.2
theorem Ctx.subs (C : Ctx w K mg) : s1' K M.exT := fun e he => of_decide_eq_true (List.all_eq_true.mp (C.more 0 rfl) e he)
theorem Ctx.c_HANDS (C : Ctx w K mg) : ∃ t, mg "HANDS" = some (.str "ABCD" t) := by obtain ⟨h, X, G⟩ := C.inn; exact He.str_ok X G (C.d.fact 34 rfl)
theorem Ctx.c_SIGNS (C : Ctx w K mg) : ∃ t, mg "SIGNS" = some (.str "abcdefghijklmnopqrstuvwxyz." t) := by obtain ⟨h, X, G⟩ := C.inn; exact He.str_ok X G (C.d.fact 35 rfl)
theorem Ctx.free_range (C : Ctx w K mg) : mg "range" = none := by obtain ⟨h, X, G⟩ := C.inn; exact He.free_ok X G (C.d.fact 36 rfl)
theorem Ctx.free_sum (C : Ctx w K mg) : mg "sum" = none := by obtain ⟨h, X, G⟩ := C.inn; exact He.free_ok X G (C.d.fact 37 rfl)
theorem Ctx.free_isinstance (C : Ctx w K mg) : mg "isinstance" = none := by obtain ⟨h, X, G⟩ := C.inn; exact He.free_ok X G (C.d.fact 38 rfl)
theorem Ctx.free_str (C : Ctx w K mg) : mg "str" = none := by obtain ⟨h, X, G⟩ := C.inn; exact He.free_ok X G (C.d.fact 39 rfl)
theorem Ctx.free_max (C : Ctx w K mg) : mg "max" = none := by obtain ⟨h, X, G⟩ := C.inn; exact He.free_ok X G (C.d.fact 40 rfl)
theorem Ctx.free_all (C : Ctx w K mg) : mg "all" = none := by obtain ⟨h, X, G⟩ := C.inn; exact He.free_ok X G (C.d.fact 41 rfl)
theorem Ctx.free_abs (C : Ctx w K mg) : mg "abs" = none := by obtain ⟨h, X, G⟩ := C.inn; exact He.free_ok X G (C.d.fact 42 rfl)
theorem Ctx.free_int (C : Ctx w K mg) : mg "int" = none := by obtain ⟨h, X, G⟩ := C.inn; exact He.free_ok X G (C.d.fact 43 rfl)
theorem Ctx.free_len (C : Ctx w K mg) : mg "len" = none := by obtain ⟨h, X, G⟩ := C.inn; exact He.free_ok X G (C.d.fact 44 rfl)
theorem Ctx.free_list (C : Ctx w K mg) : mg "list" = none := by obtain ⟨h, X, G⟩ := C.inn; exact He.free_ok X G (C.d.fact 45 rfl)
theorem Ctx.free_tuple (C : Ctx w K mg) : mg "tuple" = none := by obtain ⟨h, X, G⟩ := C.inn; exact He.free_ok X G (C.d.fact 46 rfl)
theorem Ctx.free_zip (C : Ctx w K mg) : mg "zip" = none := by obtain ⟨h, X, G⟩ := C.inn; exact He.free_ok X G (C.d.fact 47 rfl)
theorem Ctx.free_enumerate (C : Ctx w K mg) : mg "enumerate" = none := by obtain ⟨h, X, G⟩ := C.inn; exact He.free_ok X G (C.d.fact 48 rfl)
theorem Ctx.free_ValueError (C : Ctx w K mg) : mg "ValueError" = none := by obtain ⟨h, X, G⟩ := C.inn; exact He.free_ok X G (C.d.fact 49 rfl)
theorem Ctx.kit (C : Ctx w K mg) : nI' K M.exI := gd' (C.more 1 rfl)
theorem Ctx.kitB (C : Ctx w K mg) : jf' K M.exB := jz' (C.more 2 rfl)
theorem Ctx.f_is_string_of (C : Ctx w K mg) : ∃ fd, FunD K "is_string_of" "is_string_of" (defArgs au') (defBody au') (defScope au') [] [] (He.ga K "is_string_of") fd := C.d.def_ 0 (d := cb') rfl
theorem d5' {f : Addr} {fd : FuncData} (F : FunD K "is_string_of" "is_string_of" (defArgs au') (defBody au') (defScope au') [] [] f fd) : Binds K fd ["thing", "signs"] [] := F.bindsN fun _ _ _ _ _ _ us hl => match us, hl with | [_, _], _ => rfl
theorem Ctx.f_check_dealing (C : Ctx w K mg) : ∃ fd, FunD K "check_dealing" "check_dealing" (defArgs ar') (defBody ar') (defScope ar') [] [] (He.ga K "check_dealing") fd := C.d.def_ 1 (d := bZ') rfl
theorem dQ' {f : Addr} {fd : FuncData} (F : FunD K "check_dealing" "check_dealing" (defArgs ar') (defBody ar') (defScope ar') [] [] f fd) : Binds K fd ["thing"] [] := F.bindsN fun _ _ _ _ _ _ us hl => match us, hl with | [_], _ => rfl
theorem Ctx.f_hands_of (C : Ctx w K mg) : ∃ fd, FunD K "hands_of" "hands_of" (defArgs aZ') (defBody aZ') (defScope aZ') [] [] (He.ga K "hands_of") fd := C.d.def_ 2 (d := dL') rfl
theorem jL' {f : Addr} {fd : FuncData} (F : FunD K "hands_of" "hands_of" (defArgs aZ') (defBody aZ') (defScope aZ') [] [] f fd) : Binds K fd ["dealing"] [] := F.bindsN fun _ _ _ _ _ _ us hl => match us, hl with | [_], _ => rfl
theorem Ctx.f_is_row (C : Ctx w K mg) : ∃ fd, FunD K "is_row" "is_row" (defArgs bn') (defBody bn') (defScope bn') [] [] (He.ga K "is_row") fd := C.d.def_ 3 (d := gl') rfl
theorem nD' {f : Addr} {fd : FuncData} (F : FunD K "is_row" "is_row" (defArgs bn') (defBody bn') (defScope bn') [] [] f fd) : Binds K fd ["dealing", "thing", "signs"] [] := F.bindsN fun _ _ _ _ _ _ us hl => match us, hl with | [_, _, _], _ => rfl
theorem Ctx.f_check_row (C : Ctx w K mg) : ∃ fd, FunD K "check_row" "check_row" (defArgs aQ') (defBody aQ') (defScope aQ') [] [] (He.ga K "check_row") fd := C.d.def_ 4 (d := c4') rfl
theorem hz' {f : Addr} {fd : FuncData} (F : FunD K "check_row" "check_row" (defArgs aQ') (defBody aQ') (defScope aQ') [] [] f fd) : Binds K fd ["dealing", "thing", "signs"] [] := F.bindsN fun _ _ _ _ _ _ us hl => match us, hl with | [_, _, _], _ => rfl
theorem Ctx.f_sight (C : Ctx w K mg) : ∃ fd, FunD K "sight" "sight" (defArgs bC') (defBody bC') (defScope bC') [] [] (He.ga K "sight") fd := C.d.def_ 5 (d := i7') rfl
theorem qj' {f : Addr} {fd : FuncData} (F : FunD K "sight" "sight" (defArgs bC') (defBody bC') (defScope bC') [] [] f fd) : Binds K fd ["dealing", "row", "hand"] [] := F.bindsN fun _ _ _ _ _ _ us hl => match us, hl with | [_, _, _], _ => rfl
theorem Ctx.f_seen (C : Ctx w K mg) : ∃ fd, FunD K "seen" "seen" (defArgs cj') (defBody cj') (defScope cj') [] [] (He.ga K "seen") fd := C.d.def_ 6 (d := l0') rfl
theorem sZ' {f : Addr} {fd : FuncData} (F : FunD K "seen" "seen" (defArgs cj') (defBody cj') (defScope cj') [] [] f fd) : Binds K fd ["dealing", "row", "hand"] [] := F.bindsN fun _ _ _ _ _ _ us hl => match us, hl with | [_, _, _], _ => rfl
theorem Ctx.f_crossed (C : Ctx w K mg) : ∃ fd, FunD K "crossed" "crossed" (defArgs aX') (defBody aX') (defScope aX') [] [] (He.ga K "crossed") fd := C.d.def_ 7 (d := ey') rfl
theorem mb' {f : Addr} {fd : FuncData} (F : FunD K "crossed" "crossed" (defArgs aX') (defBody aX') (defScope aX') [] [] f fd) : Binds K fd ["dealing", "rows"] [] := F.bindsN fun _ _ _ _ _ _ us hl => match us, hl with | [_, _], _ => rfl
theorem Ctx.f_parts_of (C : Ctx w K mg) : ∃ fd, FunD K "parts_of" "parts_of" (defArgs aY') (defBody aY') (defScope aY') [] [] (He.ga K "parts_of") fd := C.d.def_ 8 (d := dK') rfl
theorem jK' {f : Addr} {fd : FuncData} (F : FunD K "parts_of" "parts_of" (defArgs aY') (defBody aY') (defScope aY') [] [] f fd) : Binds K fd ["dealing"] [] := F.bindsN fun _ _ _ _ _ _ us hl => match us, hl with | [_], _ => rfl
theorem Ctx.f_stretches (C : Ctx w K mg) : ∃ fd, FunD K "stretches" "stretches" (defArgs aJ') (defBody aJ') (defScope aJ') [] [] (He.ga K "stretches") fd := C.d.def_ 9 (d := c3') rfl
theorem hy' {f : Addr} {fd : FuncData} (F : FunD K "stretches" "stretches" (defArgs aJ') (defBody aJ') (defScope aJ') [] [] f fd) : Binds K fd ["dealing"] [] := F.bindsN fun _ _ _ _ _ _ us hl => match us, hl with | [_], _ => rfl
theorem Ctx.f__law_hand (C : Ctx w K mg) : ∃ fd, FunD K "_law_hand" "_law_hand" (defArgs aK') (defBody aK') (defScope aK') [] [] (He.ga K "_law_hand") fd := C.d.def_ 10 (d := c5') rfl
theorem hA' {f : Addr} {fd : FuncData} (F : FunD K "_law_hand" "_law_hand" (defArgs aK') (defBody aK') (defScope aK') [] [] f fd) : Binds K fd ["_law_script"] [] := F.bindsN fun _ _ _ _ _ _ us hl => match us, hl with | [_], _ => rfl
theorem Ctx.f__law_draw (C : Ctx w K mg) : ∃ fd, FunD K "_law_draw" "_law_draw" (defArgs aR') (defBody aR') (defScope aR') [] [] (He.ga K "_law_draw") fd := C.d.def_ 11 (d := c6') rfl
theorem hB' {f : Addr} {fd : FuncData} (F : FunD K "_law_draw" "_law_draw" (defArgs aR') (defBody aR') (defScope aR') [] [] f fd) : Binds K fd ["_law_hand_here", "_law_many"] [] := F.bindsN fun _ _ _ _ _ _ us hl => match us, hl with | [_, _], _ => rfl
theorem Ctx.f__law_dealing (C : Ctx w K mg) : ∃ fd, FunD K "_law_dealing" "_law_dealing" (defArgs av') (defBody av') (defScope av') [] [] (He.ga K "_law_dealing") fd := C.d.def_ 12 (d := cc') rfl
theorem d6' {f : Addr} {fd : FuncData} (F : FunD K "_law_dealing" "_law_dealing" (defArgs av') (defBody av') (defScope av') [] [] f fd) : Binds K fd ["_law_hand_here", "_law_places", "_law_most"] [] := F.bindsN fun _ _ _ _ _ _ us hl => match us, hl with | [_, _, _], _ => rfl
theorem Ctx.f__law_hands (C : Ctx w K mg) : ∃ fd, FunD K "_law_hands" "_law_hands" (defArgs aG') (defBody aG') (defScope aG') [] [] (He.ga K "_law_hands") fd := C.d.def_ 13 (d := cG') rfl
theorem gM' {f : Addr} {fd : FuncData} (F : FunD K "_law_hands" "_law_hands" (defArgs aG') (defBody aG') (defScope aG') [] [] f fd) : Binds K fd ["_law_dealing_here"] [] := F.bindsN fun _ _ _ _ _ _ us hl => match us, hl with | [_], _ => rfl
theorem Ctx.f__law_row (C : Ctx w K mg) : ∃ fd, FunD K "_law_row" "_law_row" (defArgs aU') (defBody aU') (defScope aU') [] [] (He.ga K "_law_row") fd := C.d.def_ 14 (d := dM') rfl
theorem jM' {f : Addr} {fd : FuncData} (F : FunD K "_law_row" "_law_row" (defArgs aU') (defBody aU') (defScope aU') [] [] f fd) : Binds K fd ["_law_hand_here", "_law_signs", "_law_places"] [] := F.bindsN fun _ _ _ _ _ _ us hl => match us, hl with | [_, _, _], _ => rfl
theorem Ctx.f__law_sight (C : Ctx w K mg) : ∃ fd, FunD K "_law_sight" "_law_sight" (defArgs aE') (defBody aE') (defScope aE') [] [] (He.ga K "_law_sight") fd := C.d.def_ 15 (d := cE') rfl
theorem gK' {f : Addr} {fd : FuncData} (F : FunD K "_law_sight" "_law_sight" (defArgs aE') (defBody aE') (defScope aE') [] [] f fd) : Binds K fd ["_law_dealing_here", "_law_row_here", "_law_owner"] [] := F.bindsN fun _ _ _ _ _ _ us hl => match us, hl with | [_, _, _], _ => rfl
theorem Ctx.f__law_bad_dealing (C : Ctx w K mg) : ∃ fd, FunD K "_law_bad_dealing" "_law_bad_dealing" (defArgs al') (defBody al') (defScope al') [] [] (He.ga K "_law_bad_dealing") fd := C.d.def_ 16 (d := bE') rfl
theorem cH' {f : Addr} {fd : FuncData} (F : FunD K "_law_bad_dealing" "_law_bad_dealing" (defArgs al') (defBody al') (defScope al') [] [] f fd) : Binds K fd ["_law_hand_here", "_law_dealing_here"] [] := F.bindsN fun _ _ _ _ _ _ us hl => match us, hl with | [_, _], _ => rfl
theorem Ctx.f__law_bad_row (C : Ctx w K mg) : ∃ fd, FunD K "_law_bad_row" "_law_bad_row" (defArgs aw') (defBody aw') (defScope aw') [] [] (He.ga K "_law_bad_row") fd := C.d.def_ 17 (d := cd') rfl
theorem d7' {f : Addr} {fd : FuncData} (F : FunD K "_law_bad_row" "_law_bad_row" (defArgs aw') (defBody aw') (defScope aw') [] [] f fd) : Binds K fd ["_law_hand_here", "_law_row_here"] [] := F.bindsN fun _ _ _ _ _ _ us hl => match us, hl with | [_, _], _ => rfl
theorem Ctx.f__law_bad_hand (C : Ctx w K mg) : ∃ fd, FunD K "_law_bad_hand" "_law_bad_hand" (defArgs at') (defBody at') (defScope at') [] [] (He.ga K "_law_bad_hand") fd := C.d.def_ 18 (d := b3') rfl
theorem dS' {f : Addr} {fd : FuncData} (F : FunD K "_law_bad_hand" "_law_bad_hand" (defArgs at') (defBody at') (defScope at') [] [] f fd) : Binds K fd ["_law_hand_here", "_law_hands_here"] [] := F.bindsN fun _ _ _ _ _ _ us hl => match us, hl with | [_, _], _ => rfl
theorem Ctx.f__law_bad_rows (C : Ctx w K mg) : ∃ fd, FunD K "_law_bad_rows" "_law_bad_rows" (defArgs as') (defBody as') (defScope as') [] [] (He.ga K "_law_bad_rows") fd := C.d.def_ 19 (d := b0') rfl
theorem dR' {f : Addr} {fd : FuncData} (F : FunD K "_law_bad_rows" "_law_bad_rows" (defArgs as') (defBody as') (defScope as') [] [] f fd) : Binds K fd ["_law_hand_here", "_law_rows"] [] := F.bindsN fun _ _ _ _ _ _ us hl => match us, hl with | [_, _], _ => rfl
theorem Ctx.f__law_marks (C : Ctx w K mg) : ∃ fd, FunD K "_law_marks" "_law_marks" (defArgs aF') (defBody aF') (defScope aF') [] [] (He.ga K "_law_marks") fd := C.d.def_ 20 (d := cF') rfl
theorem gL' {f : Addr} {fd : FuncData} (F : FunD K "_law_marks" "_law_marks" (defArgs aF') (defBody aF') (defScope aF') [] [] f fd) : Binds K fd ["_law_which", "_law_dealing_here", "_law_thing", "_law_owner"] [] := F.bindsN fun _ _ _ _ _ _ us hl => match us, hl with | [_, _, _, _], _ => rfl
theorem Ctx.f__law_due (C : Ctx w K mg) : ∃ fd, FunD K "_law_due" "_law_due" (defArgs aV') (defBody aV') (defScope aV') [] [] (He.ga K "_law_due") fd := C.d.def_ 21 (d := dN') rfl
theorem jN' {f : Addr} {fd : FuncData} (F : FunD K "_law_due" "_law_due" (defArgs aV') (defBody aV') (defScope aV') [] [] f fd) : Binds K fd ["_law_bad"] [] := F.bindsN fun _ _ _ _ _ _ us hl => match us, hl with | [_], _ => rfl
theorem Ctx.f_law (C : Ctx w K mg) : ∃ fd, FunD K "law" "law" (defArgs cv') (defBody cv') (defScope cv') [] [] (He.ga K "law") fd := C.d.def_ 22 (d := oz') rfl
end
end S
namespace M
structure En where
  nx : PSt -> Prop
  rt : O -> W -> Prop
  bk : PSt -> Prop
  ct : PSt -> Prop
  ex : Exc -> PSt -> Prop
def vE {α : Type} (r : Res α) (Q : α -> PSt -> Prop) (X : Exc -> PSt -> Prop) : Prop := match r with
  | .ok a ρ => Q a ρ
  | .exc x ρ => X x ρ
  | .bad => False
def vS (o : Out) (D : En) : Prop := match o with
  | .nx ρ => D.nx ρ
  | .rt o w => D.rt o w
  | .bk ρ => D.bk ρ
  | .ct ρ => D.ct ρ
  | .exc x ρ => D.ex x ρ
  | .bad => False
def vF (r : FRes) (Q : O -> W -> Prop) (X : Exc -> W -> Prop) : Prop := match r with
  | .ok o w => Q o w
  | .exc x w => X x w
  | .bad => False
def vD {α : Type} (o : Option α) (Q : α -> Prop) : Prop := match o with
  | some z => Q z
  | none => False
def vI (k : Bool) (A B : Prop) : Prop := if k = true then A else B
def vB (d : D) (P : Bool -> Prop) : Prop := match d with
  | .bl k => P k
  | _ => False
def vT (d : D) (P : Tx -> Prop) : Prop := match d with
  | .str s => P s
  | _ => False
def vN (d : D) (P : Int -> Prop) : Prop := match d with
  | .int s => P s
  | _ => False
def vV (o : Option (Option O)) (i : Nat) (ρ : PSt) (Q : D -> PSt -> Prop) : Prop := match o with
  | some (some (.fz d)) => Q d ρ
  | some (some .exn) => False
  | some (some .clo) => False
  | some (some o) => Q (frz o) ⟨ρ.env.set i (some (.fz (frz o))), ρ.w⟩
  | _ => False
def vG (o : Option (Option O)) (i : Nat) (ρ : PSt) (Q : O -> PSt -> Prop) : Prop := match o with
  | some (some (.fz d)) => Q (.fz d) ρ
  | some (some .exn) => False
  | some (some .clo) => False
  | some (some o) => Q o ⟨ρ.env.set i none, ρ.w⟩
  | _ => False
def vO (o : Option (Option O)) (Q : O -> Prop) : Prop := match o with
  | some (some o) => Q o
  | _ => False
def vL (o : Option (Option O)) (Q : List O -> Prop) : Prop := match o with
  | some (some (.lst os)) => Q os
  | _ => False
def asF : O -> Option D
  | .fz d => some d
  | _ => none
def asL : D -> Option (List D)
  | .lst ds => some ds
  | _ => none
abbrev FX : Exc -> W -> Prop := fun _ _ => False
abbrev PX : Exc -> PSt -> Prop := fun _ _ => False
section
variable {α β : Type} {Q : α -> PSt -> Prop} {X : Exc -> PSt -> Prop} {ρ : PSt} {P : D -> PSt -> Prop} {D0 : En}
theorem ai' (r : Res β) (f : β -> PSt -> Res α) : vE (r.bind f) Q X = vE r (fun b ρ => vE (f b ρ) Q X) X := by cases r <;> rfl
theorem bv' (r : Res β) (f : β -> PSt -> Out) : vS (r.out f) D0 = vE r (fun b ρ => vS (f b ρ) D0) D0.ex := by cases r <;> rfl
theorem a4' (o : Option α) : vE (ofO o ρ) Q X = vD o (fun z => Q z ρ) := by cases o <;> rfl
theorem eJ' (a : α) : vE (.ok a ρ) Q X = Q a ρ := rfl
theorem h4' (d : D) {Q : Bool -> PSt -> Prop} : vE (asB d ρ) Q X = vB d (fun k => Q k ρ) := by cases d <;> rfl
theorem eK' (k : Bool) (a b : Res α) : vE (if k = true then a else b) Q X = vI k (vE a Q X) (vE b Q X) := by cases k <;> rfl
theorem mD' (k : Bool) (a b : Out) : vS (if k = true then a else b) D0 = vI k (vS a D0) (vS b D0) := by cases k <;> rfl
theorem fy' (z : α) {Q : α -> Prop} : vD (some z) Q = Q z := rfl
theorem kf' (k : Bool) {Q : Bool -> Prop} : vB (.bl k) Q = Q k := rfl
theorem nV' (A B : Prop) : vI true A B = A := rfl
theorem nW' (A B : Prop) : vI false A B = B := rfl
theorem hV' (k : Bool) (A B : Prop) : vI (!k) A B = vI k B A := by cases k <;> rfl
theorem qW' (d : D) : vE (eC d ρ) P X = P d ρ := rfl
theorem qU' (i : Nat) (env : List (Option O)) (w : W) : vE (eV i ⟨env, w⟩) P X = vV env[i]? i ⟨env, w⟩ P := by
  show vE (match env[i]? with | some (some (.fz d)) => Res.ok d ⟨env, w⟩ | some (some .exn) => .bad | some (some .clo) => .bad | some (some o) => .ok (frz o) ⟨env.set i (some (.fz (frz o))), w⟩ | _ => .bad) P X = _
  rcases env[i]? with _ | _ | o
  . rfl
  . rfl
  . cases o <;> rfl
theorem j9' (d : D) (i : Nat) (ρ : PSt) : vV (some (some (.fz d))) i ρ P = P d ρ := rfl
theorem hQ' (os : List O) (i : Nat) (env : List (Option O)) (w : W) : vV (some (some (.lst os))) i ⟨env, w⟩ P = P (.lst (frzs os)) ⟨env.set i (some (.fz (.lst (frzs os)))), w⟩ := rfl
theorem hP' (os : List O) (i : Nat) (env : List (Option O)) (w : W) : vV (some (some (.tup os))) i ⟨env, w⟩ P = P (.tup (frzs os)) ⟨env.set i (some (.fz (.tup (frzs os)))), w⟩ := rfl
theorem hR' (ks : List D) (os : List O) (i : Nat) (env : List (Option O)) (w : W) : vV (some (some (.dct ks os))) i ⟨env, w⟩ P = P (.dct ks (frzs os)) ⟨env.set i (some (.fz (.dct ks (frzs os)))), w⟩ := rfl
theorem kb' (d : D) (i : Nat) (ρ : PSt) {P : O -> PSt -> Prop} : vG (some (some (.fz d))) i ρ P = P (.fz d) ρ := rfl
theorem hY' (os : List O) (i : Nat) (env : List (Option O)) (w : W) {P : O -> PSt -> Prop} : vG (some (some (.lst os))) i ⟨env, w⟩ P = P (.lst os) ⟨env.set i none, w⟩ := rfl
theorem hX' (os : List O) (i : Nat) (env : List (Option O)) (w : W) {P : O -> PSt -> Prop} : vG (some (some (.tup os))) i ⟨env, w⟩ P = P (.tup os) ⟨env.set i none, w⟩ := rfl
theorem hZ' (ks : List D) (os : List O) (i : Nat) (env : List (Option O)) (w : W) {P : O -> PSt -> Prop} : vG (some (some (.dct ks os))) i ⟨env, w⟩ P = P (.dct ks os) ⟨env.set i none, w⟩ := rfl
theorem fv' (o : O) {P : O -> Prop} : vO (some (some o)) P = P o := rfl
theorem hU' (os : List O) {P : List O -> Prop} : vL (some (some (.lst os))) P = P os := rfl
theorem nR' (f : D -> D -> Option D) (a b : ME) : vE (eOp f a b ρ) P X = vE (a ρ) (fun x ρ1 => vE (b ρ1) (fun y ρ2 => vD (f x y) (fun z => P z ρ2)) X) X := by simp only [eOp, ai', a4']
theorem nO' (f : D -> Option D) (a : ME) : vE (eUn f a ρ) P X = vE (a ρ) (fun x ρ1 => vD (f x) (fun z => P z ρ1)) X := by simp only [eUn, ai', a4']
theorem j8' (a b : ME) : vE (qx' a b ρ) P X = vE (a ρ) (fun x ρ1 => vB x fun k => vI k (vE (b ρ1) P X) (P (.bl false) ρ1)) X := by simp only [qx', ai', h4', eK', eJ']
theorem j4' {P : List D -> PSt -> Prop} : vE (aH' ρ) P X = P [] ρ := rfl
theorem hN' (a : ME) (r : MA) {P : List D -> PSt -> Prop} : vE (ab' a r ρ) P X = vE (a ρ) (fun x ρ1 => vE (r ρ1) (fun xs ρ2 => P (x :: xs) ρ2) X) X := by simp only [ab', ai', eJ']
def gQ' (n : Nat) (A : Prop) : Prop := n <= 16777216 /\ A
theorem fx' {n : Nat} (h : n <= 16777216) (A : Prop) : gQ' n A = A := by unfold gQ'; simp [h]
theorem j2' (as : MA) : vE (jU' as ρ) P X = vE (as ρ) (fun xs ρ1 => gQ' xs.length (P (.tup xs) ρ1)) X := by
  simp only [jU', ai']
  congr
  funext xs ρ1
  unfold gQ'
  by_cases h : xs.length <= 16777216
  . rw [if_pos h]; simp [vE, h]
  . rw [if_neg h]; simp [vE, h]
theorem j5' (as : MA) : vE (cK' as ρ) P X = vE (as ρ) (fun xs ρ1 => gQ' xs.length (P (.lst xs) ρ1)) X := by
  simp only [cK', ai']
  congr
  funext xs ρ1
  unfold gQ'
  by_cases h : xs.length <= 16777216
  . rw [if_pos h]; simp [vE, h]
  . rw [if_neg h]; simp [vE, h]
theorem nT' (f : Tx -> List D -> Option D) (a : ME) (as : MA) : vE (eMt f a as ρ) P X = vE (a ρ) (fun x ρ1 => vT x fun s => vE (as ρ1) (fun ds ρ2 => vD (f s ds) fun z => P z ρ2) X) X := by
  simp only [eMt, ai']
  congr
  funext x ρ1
  cases x <;> simp only [ai', a4'] <;> rfl
theorem hS' (s : Tx) {P : Tx -> Prop} : vT (.str s) P = P s := rfl
theorem hT' (s : Int) {P : Int -> Prop} : vN (.int s) P = P s := rfl
theorem nS' {P : Option Int -> PSt -> Prop} : vE (pNo ρ) P X = P none ρ := rfl
theorem nP' (a : ME) {P : Option Int -> PSt -> Prop} : vE (pSo a ρ) P X = vE (a ρ) (fun x ρ1 => vN x fun i => P (some i) ρ1) X := by
  simp only [pSo, ai']
  congr
  funext x ρ1
  cases x <;> rfl
theorem nQ' (a : ME) (lo hi : MP) : vE (eSl a lo hi ρ) P X = vE (a ρ) (fun x ρ1 => vE (lo ρ1) (fun l ρ2 => vE (hi ρ2) (fun h ρ3 => vD (pSl x l h) fun z => P z ρ3) X) X) X := by simp only [eSl, ai', a4']
theorem qV' (a : MO) : vE (eO a ρ) P X = vE (a ρ) (fun o ρ1 => P (frz o) ρ1) X := by simp only [eO, ai', eJ']
variable {R : O -> PSt -> Prop}
theorem nN' (a : ME) : vE (oE a ρ) R X = vE (a ρ) (fun d ρ1 => R (.fz d) ρ1) X := by simp only [oE, ai', eJ']
theorem nM' (i : Nat) (env : List (Option O)) (w : W) : vE (oV i ⟨env, w⟩) R X = vG env[i]? i ⟨env, w⟩ R := by
  show vE (match env[i]? with | some (some (.fz d)) => Res.ok (O.fz d) ⟨env, w⟩ | some (some .exn) => .bad | some (some .clo) => .bad | some (some o) => .ok o ⟨env.set i none, w⟩ | _ => .bad) R X = _
  rcases env[i]? with _ | _ | o
  . rfl
  . rfl
  . cases o <;> rfl
theorem hO' (f : MF) (as : MA) : vE (ay' f as ρ) R X = vE (as ρ) (fun ds ρ1 => vF (f ds ρ1.w) (fun o w => R o ⟨ρ1.env, w⟩) fun x w => X x ⟨ρ1.env, w⟩) X := by
  simp only [ay', ai']
  congr
  funext ds ρ1
  cases f ds ρ1.w <;> rfl
theorem hK' (a : ME) : vE (mo' a ρ) R X = vE (a ρ) (fun d ρ1 => vD (asL d) fun ds => R (.lst (ds.map .fz)) ρ1) X := by
  simp only [mo', ai']
  congr
  funext d ρ1
  cases d <;> rfl
theorem fq' : vE (g5' ρ) R X = R (.dct [] []) ρ := rfl
theorem j7' (i : Nat) (b : ME) (env : List (Option O)) (w : W) : vE (jV' i b ⟨env, w⟩) P X = vO env[i]? fun _ => vE (b ⟨env, w⟩) (fun k ρ1 => vO ρ1.env[i]? fun o => vD (ixO o k) fun z => P z ρ1) X := by
  show vE (match env[i]? with
  | some (some _) => (b ⟨env, w⟩).bind fun k ρ1 => match ρ1.env[i]? with
    | some (some o) => ofO (ixO o k) ρ1
    | _ => .bad
  | _ => .bad) P X = _
  rcases env[i]? with _ | _ | o
  . rfl
  . rfl
  simp only [ai', vO]
  congr
  funext k ρ1
  rcases ρ1.env[i]? with _ | _ | o
  . rfl
  . rfl
  exact a4' _
theorem j6' (a b : ME) : vE (fj' a b ρ) P X = vE (a ρ) (fun x ρ1 => vE (b ρ1) (fun y ρ2 => vD (ixW ρ2.w x y) fun z => P z ρ2) X) X := by simp only [fj', ai', a4']
theorem j3' (as : MA) : vE (rG' as ρ) R X = vE (as ρ) (fun xs ρ1 => gQ' xs.length (R (.fz (.obj ρ1.w.length)) ⟨ρ1.env, ρ1.w ++ [.lst (xs.map .fz)]⟩)) X := by
  simp only [rG', ai']
  congr
  funext xs ρ1
  unfold gQ'
  by_cases h : xs.length <= 16777216
  . rw [if_pos h]; simp [vE, h]
  . rw [if_neg h]; simp [vE, h]
def vX (o : Option (Option O)) (A : Prop) : Prop := match o with
  | some (some .exn) => A
  | _ => False
theorem oO' (i : Nat) (t : ET) (c : String) (x : Exc) : vE (fk' i t c x ρ) P X = vX ρ.env[i]? (x.fs = [] /\ vD (sub t x.cls c) fun b => P (.bl b) ρ) := by
  unfold fk'
  rcases ρ.env[i]? with _ | _ | o
  . rfl
  . rfl
  . cases o <;> try rfl
    show vE (if x.fs = [] then _ else _) P X = (x.fs = [] /\ _)
    by_cases h : x.fs = []
    . rw [if_pos h]; simp only [h, true_and, a4']
      cases sub t x.cls c <;> rfl
    . rw [if_neg h]; simp [h, vE]
variable {B : Bool -> PSt -> Prop}
theorem nL' (a : ME) : vE (tE a ρ) B X = vE (a ρ) (fun d ρ1 => vB d fun k => B k ρ1) X := by simp only [tE, ai', h4']
theorem hI' (a : MT) : vE (mm' a ρ) B X = vE (a ρ) (fun k ρ1 => B (!k) ρ1) X := by simp only [mm', ai', eJ']
theorem hJ' (a b : MT) : vE (qo' a b ρ) B X = vE (a ρ) (fun k ρ1 => vI k (vE (b ρ1) B X) (B false ρ1)) X := by simp only [qo', ai', eK', eJ']
theorem j0' (a b : MT) : vE (tOr a b ρ) B X = vE (a ρ) (fun k ρ1 => vI k (B true ρ1) (vE (b ρ1) B X)) X := by simp only [tOr, ai', eK', eJ']
theorem nK' : vE (tT ρ) B X = B true ρ := rfl
variable {Y : List D -> PSt -> Prop}
theorem hM' (a : ME) : vE (jC' a ρ) Y X = vE (a ρ) (fun d ρ1 => vD (cm' d) fun z => Y z ρ1) X := by simp only [jC', ai', a4']
theorem ds' (a : ME) : vE (bD' a ρ) Y X = vE (a ρ) (fun d ρ1 => vD (cQ' d) fun z => Y z ρ1) X := by simp only [bD', ai', a4']
theorem dr' (a b : ME) : vE (dI' a b ρ) Y X = vE (a ρ) (fun d ρ1 => vE (b ρ1) (fun e ρ2 => vD (cP' d e) fun z => Y z ρ2) X) X := by simp only [dI', ai', a4']
theorem hL' (a b : ME) : vE (r2' a b ρ) Y X = vE (a ρ) (fun d ρ1 => vE (b ρ1) (fun e ρ2 => vD (ml' d e) fun z => Y z ρ2) X) X := by simp only [r2', ai', a4']
theorem fs' (a : ME) : vE (lV' a ρ) Y X = vE (a ρ) (fun d ρ1 => vD (enB d) fun z => Y z ρ1) X := by simp only [lV', ai', a4']
theorem nU' (own : List Nat) (it : MI) (g : MG) (t : MT) (e : ME) : vE (eLc own it g t e ρ) P X = vE (it ρ) (fun xs ρ1 => vE (lcL own g t e xs [] ρ1) (fun ys ρ2 => P (.lst ys) ⟨back ρ1.env own (aA' own ρ2.env), ρ2.w⟩) X) X := by simp only [eLc, ai', eJ']
theorem j1' (own : List Nat) (it : MI) (g : MG) (t : MT) (e : ME) : vE (oLc own it g t e ρ) R X = vE (it ρ) (fun xs ρ1 => vE (lcL own g t e xs [] ρ1) (fun ys ρ2 => R (.lst (ys.map .fz)) ⟨back ρ1.env own (aA' own ρ2.env), ρ2.w⟩) X) X := by simp only [oLc, ai', eJ']
variable {N : PSt -> Prop} {rt : O -> W -> Prop} {bk ct : PSt -> Prop} {ex : Exc -> PSt -> Prop}
theorem h7' : vS (a8' ρ) ⟨N, rt, bk, ct, ex⟩ = N ρ := rfl
theorem h8' (a : ME) : vS (fV' a ρ) ⟨N, rt, bk, ct, ex⟩ = vE (a ρ) (fun _ ρ1 => N ρ1) ex := by simp only [fV', bv']; rfl
theorem ki' (a : MO) : vS (bW' a ρ) ⟨N, rt, bk, ct, ex⟩ = vE (a ρ) (fun o ρ1 => rt o ρ1.w) ex := by simp only [bW', bv']; rfl
theorem gU' (a b : MS) : vS (aP' a b ρ) ⟨N, rt, bk, ct, ex⟩ = vS (a ρ) ⟨fun ρ1 => vS (b ρ1) ⟨N, rt, bk, ct, ex⟩, rt, bk, ct, ex⟩ := by
  unfold aP'
  cases a ρ <;> rfl
theorem nX' (t : MT) (a b : MS) : vS (sIf t a b ρ) ⟨N, rt, bk, ct, ex⟩ = vE (t ρ) (fun k ρ1 => vI k (vS (a ρ1) ⟨N, rt, bk, ct, ex⟩) (vS (b ρ1) ⟨N, rt, bk, ct, ex⟩)) ex := by simp only [sIf, bv', mD']
def k0' (i n : Nat) (A : Prop) : Prop := i < n /\ A
theorem ft' {i n : Nat} (h : i < n) (A : Prop) : k0' i n A = A := by unfold k0'; simp [h]
theorem kh' (i : Nat) (a : MO) : vS (bi' i a ρ) ⟨N, rt, bk, ct, ex⟩ = vE (a ρ) (fun o ρ1 => k0' i ρ1.env.length (N ⟨ρ1.env.set i (some o), ρ1.w⟩)) ex := by
  simp only [bi', bv']
  congr
  funext o ρ1
  unfold tb' k0'
  by_cases h : i < ρ1.env.length
  . rw [if_pos h]; simp [vS, h]
  . rw [if_neg h]; simp [vS, h]
theorem fB' (x : String) : vS (cY' x ρ) ⟨N, rt, bk, ct, ex⟩ = ex ⟨x, []⟩ ρ := rfl
theorem kk' (i : Nat) (a : MO) : vS (o7' i a ρ) ⟨N, rt, bk, ct, ex⟩ = vL ρ.env[i]? fun _ => vE (a ρ) (fun o ρ1 => vL ρ1.env[i]? fun os => k0' os.length 16777216 (N ⟨ρ1.env.set i (some (.lst (os ++ [o]))), ρ1.w⟩)) ex := by
  unfold o7'
  rcases ρ.env[i]? with _ | _ | o
  . rfl
  . rfl
  cases o with
  | lst os0 =>
    simp only [bv', vL]
    congr
    funext o ρ1
    rcases ρ1.env[i]? with _ | _ | o2
    . rfl
    . rfl
    cases o2 with
    | lst os =>
      dsimp only
      unfold k0'
      by_cases h : os.length < 16777216
      . rw [if_pos h]; simp [vS, h]
      . rw [if_neg h]; simp [vS, h]
    | _ => rfl
  | _ => rfl
theorem h6' (i : Nat) (k a : ME) : vS (eS' i k a ρ) ⟨N, rt, bk, ct, ex⟩ = vE (a ρ) (fun d ρ1 => vO ρ1.env[i]? fun _ => vE (k ρ1) (fun y ρ2 => vL ρ2.env[i]? fun os => vN y fun z => vD (ixn os.length z) fun j => N ⟨ρ2.env.set i (some (.lst (os.set j (.fz d)))), ρ2.w⟩) ex) ex := by
  simp only [eS', bv']
  congr
  funext d ρ1
  rcases ρ1.env[i]? with _ | _ | o
  . rfl
  . rfl
  simp only [bv', vO]
  congr
  funext y ρ2
  rcases ρ2.env[i]? with _ | _ | o2
  . rfl
  . rfl
  cases o2 with
  | lst os =>
    cases y with
    | int z => simp only [vL, vN]; cases ixn os.length z <;> rfl
    | _ => rfl
  | _ => rfl
theorem h5' (o k a : ME) : vS (eR' o k a ρ) ⟨N, rt, bk, ct, ex⟩ = vE (a ρ) (fun d ρ1 => vE (o ρ1) (fun x ρ2 => vE (k ρ2) (fun y ρ3 => vD (mK' ρ3.w x y d) fun w => N ⟨ρ3.env, w⟩) ex) ex) ex := by
  simp only [eR', bv']
  congr
  funext d ρ1
  congr
  funext x ρ2
  congr
  funext y ρ3
  cases mK' ρ3.w x y d <;> rfl
def vj' (w : W) : D -> Option (List O)
  | .obj n => (match w[n]? with
    | some (.lst os) => some os
    | _ => none)
  | _ => none
def vC' (w : W) (b : Ob) : D -> W
  | .obj n => w.set n b
  | _ => w
theorem kj' (it : MI) (g : MG) (b : MS) : vS (jR' it g b ρ) ⟨N, rt, bk, ct, ex⟩ = vE (it ρ) (fun ds ρ1 => vS (i5' g b ds ρ1) ⟨N, rt, bk, ct, ex⟩) ex := by simp only [jR', bv']
theorem oQ' (o : Out) : vS (m7' o) ⟨N, rt, bk, ct, ex⟩ = vS o ⟨N, rt, bk, ct, fun _ _ => False⟩ := by cases o <;> rfl
theorem oP' (i m : Nat) (o : Out) : vS (mn' i m o) ⟨N, rt, bk, ct, ex⟩ = vS o ⟨fun ρ => (ρ.env.length = i + m + 1 /\ N ⟨ρ.env.set i none, ρ.w⟩), rt, fun ρ => (ρ.env.length = i + m + 1 /\ bk ⟨ρ.env.set i none, ρ.w⟩), fun ρ => (ρ.env.length = i + m + 1 /\ ct ⟨ρ.env.set i none, ρ.w⟩), ex⟩ := by
  cases o with
  | nx ρ => by_cases h : ρ.env.length = i + m + 1 <;> simp [mn', vS, h]
  | bk ρ => by_cases h : ρ.env.length = i + m + 1 <;> simp [mn', vS, h]
  | ct ρ => by_cases h : ρ.env.length = i + m + 1 <;> simp [mn', vS, h]
  | _ => rfl
theorem kg' (i m : Nat) (b : MS) (g : String -> Option Bool) (h : Exc -> MS) : vS (em' i m b g h ρ) ⟨N, rt, bk, ct, ex⟩ = vS (b ρ) ⟨N, rt, bk, ct, fun x ρ1 => vD (g x.cls) fun k => vI k (ρ1.env.length = i + m + 1 /\ vS (h x ⟨ρ1.env.set i (some .exn), ρ1.w⟩) ⟨fun ρ => (ρ.env.length = i + m + 1 /\ N ⟨ρ.env.set i none, ρ.w⟩), rt, fun ρ => (ρ.env.length = i + m + 1 /\ bk ⟨ρ.env.set i none, ρ.w⟩), fun ρ => (ρ.env.length = i + m + 1 /\ ct ⟨ρ.env.set i none, ρ.w⟩), fun _ _ => False⟩) (ex x ρ1)⟩ := by
  unfold em'
  cases b ρ with
  | exc x ρ1 =>
    show vS (match g x.cls with | some true => if ρ1.env.length = i + m + 1 then mn' i m (m7' (h x ⟨ρ1.env.set i (some .exn), ρ1.w⟩)) else .bad | some false => .exc x ρ1 | none => .bad) _ = vD (g x.cls) _
    cases g x.cls with
    | none => rfl
    | some k => cases k with
      | false => rfl
      | true =>
        show vS (if ρ1.env.length = i + m + 1 then _ else _) _ = (ρ1.env.length = i + m + 1 /\ vS _ _)
        by_cases hl : ρ1.env.length = i + m + 1
        . rw [if_pos hl, oP', oQ']; simp only [hl, true_and]
        . rw [if_neg hl]; simp [hl, vS]
  | _ => rfl
theorem oR' {k n : Nat} (b : MS) (ds : List D) (w : W) {Q : O -> W -> Prop} {X : Exc -> W -> Prop} (h : ds.length = k) : vF (fnM k n b ds w) Q X = vS (b ⟨ds.map (fun d => some (.fz d)) ++ List.replicate (n - k) none, w⟩) ⟨fun ρ => Q (.fz .non) ρ.w, Q, fun _ => False, fun _ => False, fun x ρ => X x ρ.w⟩ := by
  unfold fnM
  rw [if_pos h]
  cases b ⟨ds.map (fun d => some (.fz d)) ++ List.replicate (n - k) none, w⟩ <;> rfl
theorem h9' {k n : Nat} {b : MS} {ds : List D} {w : W} {Q : O -> W -> Prop} {X : Exc -> W -> Prop} (q : vS (b ⟨ds.map (fun d => some (.fz d)) ++ List.replicate (n - k) none, w⟩) ⟨fun ρ => Q (.fz .non) ρ.w, Q, fun _ => False, fun _ => False, fun x ρ => X x ρ.w⟩) (h : ds.length = k) : vF (fnM k n b ds w) Q X := by
  rw [oR' _ _ _ h]; exact q
theorem kc' (o : O) (w : W) {Q : O -> W -> Prop} {X : Exc -> W -> Prop} : vF (.ok o w) Q X = Q o w := rfl
theorem h0' (x : Exc) (w : W) {Q : O -> W -> Prop} {X : Exc -> W -> Prop} : vF (.exc x w) Q X = X x w := rfl
theorem vF.mono {r : FRes} {Q Q' : O -> W -> Prop} {X : Exc -> W -> Prop} (h : vF r Q FX) (k : ∀ o w, Q o w -> Q' o w) : vF r Q' X := by
  cases r with
  | ok o w => exact k _ _ h
  | exc x w => exact h.elim
  | bad => exact h
theorem vF.monoX {r : FRes} {Q Q' : O -> W -> Prop} {X X' : Exc -> W -> Prop} (h : vF r Q X) (k : ∀ o w, Q o w -> Q' o w) (k2 : ∀ x w, X x w -> X' x w) : vF r Q' X' := by
  cases r with
  | ok o w => exact k _ _ h
  | exc x w => exact k2 _ _ h
  | bad => exact h
theorem vF.exi {r : FRes} {Q : O -> W -> Prop} (h : vF r Q FX) : ∃ o w, r = .ok o w /\ Q o w := by
  cases r with
  | ok o w => exact ⟨o, w, rfl, h⟩
  | exc x w => exact h.elim
  | bad => exact h.elim
theorem vF.of {r : FRes} {Q : O -> W -> Prop} {X : Exc -> W -> Prop} {o : O} {w : W} (e : r = .ok o w) (h : Q o w) : vF r Q X := by rw [e]; exact h
theorem vS.mono {o : Out} {D1 D2 : En} (h : vS o D1) (h1 : ∀ ρ, D1.nx ρ -> D2.nx ρ) (h2 : ∀ o w, D1.rt o w -> D2.rt o w) (h3 : ∀ ρ, D1.bk ρ -> D2.bk ρ) (h4 : ∀ ρ, D1.ct ρ -> D2.ct ρ) (h5 : ∀ x ρ, D1.ex x ρ -> D2.ex x ρ) : vS o D2 := by
  cases o with
  | nx ρ => exact h1 _ h
  | rt o w => exact h2 _ _ h
  | bk ρ => exact h3 _ h
  | ct ρ => exact h4 _ h
  | exc x ρ => exact h5 _ _ h
  | bad => exact h
theorem vE.mono {r : Res α} {Q Q' : α -> PSt -> Prop} {X X' : Exc -> PSt -> Prop} (h : vE r Q X) (k : ∀ a ρ, Q a ρ -> Q' a ρ) (k2 : ∀ x ρ, X x ρ -> X' x ρ) : vE r Q' X' := by
  cases r with
  | ok a ρ => exact k _ _ h
  | exc x ρ => exact k2 _ _ h
  | bad => exact h
theorem fA' {a b : MS} (J : PSt -> Prop) (h : vS (a ρ) ⟨J, rt, bk, ct, ex⟩) (k : ∀ ρ1, J ρ1 -> vS (b ρ1) ⟨N, rt, bk, ct, ex⟩) : vS (aP' a b ρ) ⟨N, rt, bk, ct, ex⟩ := by
  rw [gU']
  exact h.mono k (fun _ _ z => z) (fun _ z => z) (fun _ z => z) (fun _ _ z => z)
theorem hW' {p : Prop} [Decidable p] {A B : Prop} (h1 : p -> A) (h2 : ¬ p -> B) : vI (decide p) A B := by
  by_cases h : p
  . rw [decide_eq_true h]; exact h1 h
  . rw [decide_eq_false h]; exact h2 h
theorem dt' {γ : Type} {g : MG} {b : MS} {f : γ -> D} {cs : List γ} (Inv : List γ -> PSt -> Prop) (h0 : Inv [] ρ)
    (step : ∀ pre c post ρ, cs = pre ++ c :: post -> Inv pre ρ -> vD (g (f c) ρ) fun ρ1 => vS (b ρ1) ⟨Inv (pre ++ [c]), rt, N, Inv (pre ++ [c]), ex⟩)
    (hend : ∀ ρ, Inv cs ρ -> N ρ) : vS (i5' g b (cs.map f) ρ) ⟨N, rt, bk, ct, ex⟩ := by
  have main : ∀ (post pre : List γ) (ρ : PSt), cs = pre ++ post -> Inv pre ρ -> vS (i5' g b (post.map f) ρ) ⟨N, rt, bk, ct, ex⟩ := by
    intro post
    induction post with
    | nil =>
      intro pre ρ e h
      rw [List.append_nil] at e
      exact hend ρ (e ▸ h)
    | cons d post ih =>
      intro pre ρ e h
      have s := step pre d post ρ e h
      rw [List.map_cons]
      unfold i5'
      cases eg : g (f d) ρ with
      | none => rw [eg] at s; exact s
      | some ρ1 =>
        rw [eg] at s
        have s : vS (b ρ1) _ := s
        dsimp only
        cases eb : b ρ1 with
        | nx ρ2 => rw [eb] at s; exact ih (pre ++ [d]) ρ2 (by rw [e, List.append_assoc]; rfl) s
        | ct ρ2 => rw [eb] at s; exact ih (pre ++ [d]) ρ2 (by rw [e, List.append_assoc]; rfl) s
        | bk ρ2 => rw [eb] at s; exact s
        | rt o w => rw [eb] at s; exact s
        | exc x ρ2 => rw [eb] at s; exact s
        | bad => rw [eb] at s; exact s
  exact main cs [] ρ rfl h0
theorem fC' {g : MG} {b : MS} {lo : Int} {n : Nat} (Inv : Nat -> PSt -> Prop) (h0 : Inv 0 ρ)
    (step : ∀ k ρ, k < n -> Inv k ρ -> vD (g (.int (lo + (k : Nat))) ρ) fun ρ1 => vS (b ρ1) ⟨Inv (k + 1), rt, N, Inv (k + 1), ex⟩)
    (hend : ∀ ρ, Inv n ρ -> N ρ) : vS (i5' g b (rgI lo n) ρ) ⟨N, rt, bk, ct, ex⟩ := by
  unfold rgI
  refine dt' (fun pre ρ => Inv pre.length ρ) h0 (fun pre c post ρ e h => ?_) (fun ρ h => hend ρ (by rwa [List.length_range] at h))
  have hl : pre.length < n := by
    have := congrArg List.length e
    rw [List.length_range, List.length_append, List.length_cons] at this
    omega
  have hc : c = pre.length := by
    have h1 : (List.range n)[pre.length]? = some c := by rw [e, List.getElem?_append_right (Nat.le_refl _), Nat.sub_self]; rfl
    rw [List.getElem?_range hl] at h1
    exact (Option.some.inj h1).symm
  subst hc
  have := step pre.length ρ hl h
  simp only [List.length_append, List.length_cons, List.length_nil, Nat.zero_add]
  exact this
theorem ia' {own : List Nat} {g : MG} {t : MT} {e : ME} {γ : Type} {f : γ -> D} {cs : List γ} {Q : List D -> PSt -> Prop} (hl : cs.length <= 16777216) (Inv : List γ -> List D -> PSt -> Prop) (h0 : Inv [] [] ρ)
    (step : ∀ pre c post acc ρ, cs = pre ++ c :: post -> Inv pre acc ρ -> vD (g (f c) ⟨aA' own ρ.env, ρ.w⟩) fun ρ1 => vE (t ρ1) (fun k ρ2 => vI k (vE (e ρ2) (fun y ρ3 => Inv (pre ++ [c]) (acc ++ [y]) ρ3) PX) (Inv (pre ++ [c]) acc ρ2)) PX)
    (hend : ∀ acc ρ, Inv cs acc ρ -> Q acc ρ) : vE (lcL own g t e (cs.map f) [] ρ) Q X := by
  have main : ∀ (post pre : List γ) (acc : List D) (ρ : PSt), cs = pre ++ post -> acc.length <= pre.length -> Inv pre acc ρ -> vE (lcL own g t e (post.map f) acc ρ) Q X := by
    intro post
    induction post with
    | nil =>
      intro pre acc ρ e' hacc h
      rw [List.append_nil] at e'
      exact hend acc ρ (e' ▸ h)
    | cons d post ih =>
      intro pre acc ρ e' hacc h
      have s := step pre d post acc ρ e' h
      have hpre : pre.length < 16777216 := by
        have := congrArg List.length e'
        rw [List.length_append, List.length_cons] at this
        omega
      rw [List.map_cons]
      unfold lcL
      cases eg : g (f d) ⟨aA' own ρ.env, ρ.w⟩ with
      | none => rw [eg] at s; exact s
      | some ρ1 =>
        rw [eg] at s
        have s : vE (t ρ1) _ _ := s
        dsimp only
        cases et : t ρ1 with
        | bad => rw [et] at s; exact s
        | exc x ρ2 => rw [et] at s; exact s.elim
        | ok k ρ2 =>
          rw [et] at s
          have s : vI k _ _ := s
          show vE (if k = true then _ else _) Q X
          have e2 : cs = (pre ++ [d]) ++ post := by rw [e', List.append_assoc]; rfl
          cases k with
          | false =>
            rw [if_neg Bool.false_ne_true]
            exact ih (pre ++ [d]) acc ρ2 e2 (by rw [List.length_append]; omega) s
          | true =>
            rw [if_pos rfl]
            have s : vE (e ρ2) _ _ := s
            cases ee : e ρ2 with
            | bad => rw [ee] at s; exact s
            | exc x ρ3 => rw [ee] at s; exact s.elim
            | ok y ρ3 =>
              rw [ee] at s
              show vE (if acc.length < d2' then _ else _) Q X
              rw [if_pos (show acc.length < 16777216 by omega)]
              exact ih (pre ++ [d]) (acc ++ [y]) ρ3 e2 (by rw [List.length_append, List.length_append, List.length_cons, List.length_cons]; omega) s
  exact main cs [] [] ρ rfl (Nat.le_refl _) h0
end
end M
namespace M
def vC (c : Prop) (A : Prop) : Prop := c /\ A
def vOb (o : Option Ob) (P : List O -> Prop) : Prop := match o with
  | some (.lst os) => P os
  | _ => False
def s9' (o : Option Ob) (P : String -> List (String × O) -> Prop) : Prop := match o with
  | some (.ins C fs) => P C fs
  | _ => False
theorem ka' (C : String) (fs : List (String × O)) {P : String -> List (String × O) -> Prop} : s9' (some (.ins C fs)) P = P C fs := rfl
theorem oS' (cs : List String) (f : String) (o : O) (w : W) (n : Nat) {N : W -> Prop} : vD (stF cs f o w (.obj n)) N = s9' w[n]? (fun C fs => vC (C ∈ cs /\ fs.length < 1000) (N (w.set n (.ins C (pb' f o fs))))) := by
  show vD (match w[n]? with | some (.ins C fs) => if C ∈ cs /\ fs.length < 1000 then some (w.set n (.ins C (pb' f o fs))) else none | _ => none) N = _
  rcases w[n]? with _ | ob
  . rfl
  . cases ob with
    | ins C fs =>
      show vD (if _ then _ else _) N = vC _ _
      unfold vC
      by_cases h : C ∈ cs /\ fs.length < 1000
      . rw [if_pos h]; simp [vD, h]
      . rw [if_neg h]
        show False = (_ /\ _)
        rw [eq_iff_iff]
        exact ⟨False.elim, fun a => h a.1⟩
    | _ => rfl
theorem fu' (os : List O) {P : List O -> Prop} : vOb (some (.lst os)) P = P os := rfl
theorem ke' {c : Prop} (h : c) (A : Prop) : vC c A = A := by unfold vC; simp [h]
theorem fz' (A : Prop) : vC True A = A := by unfold vC; simp
theorem az' {α : Type} {c : Prop} [Decidable c] {x : α} {Q : α -> Prop} : vD (if c then some x else none) Q = vC c (Q x) := by
  unfold vC
  by_cases h : c
  . rw [if_pos h]; simp [vD, h]
  . rw [if_neg h]; simp [vD, h]
theorem bw' {α β : Type} {f : α -> β} {o : Option α} {Q : β -> Prop} : vD (o.map f) Q = vD o (fun a => Q (f a)) := by cases o <;> rfl
theorem kd' {α β : Type} {f : α -> Option β} {o : Option α} {Q : β -> Prop} : vD (o.bind f) Q = vD o (fun a => vD (f a) Q) := by cases o <;> rfl
section
variable {Q : D -> Prop} {Y : List D -> Prop}
theorem iE' (i j : Int) : vD (bz' (.int i) (.int j)) Q = Q (.int (i + j)) := rfl
theorem iC' (a b : Tx) : vD (bz' (.str a) (.str b)) Q = gQ' (a.length + b.length) (Q (.str (a ++ b))) := az'
theorem iD' (a b : List D) : vD (bz' (.lst a) (.lst b)) Q = gQ' (a.length + b.length) (Q (.lst (a ++ b))) := az'
theorem iB' (a b : List D) : vD (bz' (.tup a) (.tup b)) Q = gQ' (a.length + b.length) (Q (.tup (a ++ b))) := az'
theorem fN' (i j : Int) : vD (rA' (.int i) (.int j)) Q = Q (.int (i + j)) := rfl
theorem km' (i j : Int) : vD (tg' (.int i) (.int j)) Q = Q (.int (i - j)) := rfl
theorem kx' (i j : Int) : vD (eq' (.int i) (.int j)) Q = vC (((-18446744073709551616 < i /\ i < 18446744073709551616) \/ (-18446744073709551616 < j /\ j < 18446744073709551616)) \/ ((-2582249878086908589655919172003011874329705792829223512830659356540647622016841194629645353280137831435903171972747493376 < i /\ i < 2582249878086908589655919172003011874329705792829223512830659356540647622016841194629645353280137831435903171972747493376) /\ (-2582249878086908589655919172003011874329705792829223512830659356540647622016841194629645353280137831435903171972747493376 < j /\ j < 2582249878086908589655919172003011874329705792829223512830659356540647622016841194629645353280137831435903171972747493376))) (Q (.int (i * j))) := by
  show vD (if (bj' i = true \/ bj' j = true) \/ _ then _ else _) Q = _
  rw [az']
  congr 1
  simp [bj']
theorem ip' (a : Tx) (j : Int) : vD (eq' (.str a) (.int j)) Q = vC (j < 4611686018427387904 /\ -4611686018427387904 <= j /\ a.length * j.toNat <= 16777216) (Q (.str (List.replicate j.toNat a).flatten)) := az'
theorem iq' (a : List D) (j : Int) : vD (eq' (.lst a) (.int j)) Q = vC (j < 4611686018427387904 /\ -4611686018427387904 <= j /\ a.length * j.toNat <= 16777216) (Q (.lst (List.replicate j.toNat a).flatten)) := az'
theorem iA' (i j : Int) : vD (fW' (.int i) (.int j)) Q = vC (0 < j /\ j < 1606938044258990275541962092341162602522202993782792835301376) (Q (.int (i / j))) := az'
theorem ky' (i j : Int) : vD (lu' (.int i) (.int j)) Q = vC (0 < j) (Q (.int (i % j))) := az'
theorem kt' (i j : Int) : vD (ry' (.int i) (.int j)) Q = vC (0 <= j /\ j <= 1000 /\ -18446744073709551616 < i /\ i < 18446744073709551616) (Q (.int (i ^ j.toNat))) := by
  show vD (if 0 <= j /\ j <= 1000 /\ bj' i = true then _ else _) Q = _
  rw [az']
  congr 1
  simp [bj']
theorem ku' (i : Int) : vD (ve' (.int i)) Q = Q (.int (-i)) := rfl
theorem kR' (i j : Int) : vD (pEq (.int i) (.int j)) Q = Q (.bl (decide (i = j))) := by
  show Q (.bl (i == j)) = _
  congr 2
theorem kQ' (i j : Tx) : vD (pEq (.str i) (.str j)) Q = Q (.bl (decide (i = j))) := by
  show Q (.bl (i == j)) = _
  congr 2
  rw [Bool.eq_iff_iff]
  simp
theorem kS' (i j : Bool) : vD (pEq (.bl i) (.bl j)) Q = Q (.bl (i == j)) := rfl
theorem n6' (x y : D) : vD (pEq x y) Q = vC (dat x = true /\ dat y = true /\ dep x <= 64 /\ dep y <= 64) (Q (.bl (eqb x y))) := by
  unfold pEq ob eqv
  rw [bw', az']
theorem kw' (i j : Int) : vD (pNe (.int i) (.int j)) Q = Q (.bl (!decide (i = j))) := by
  show Q (.bl (!(i == j))) = _
  congr 3
theorem kv' (i j : Tx) : vD (pNe (.str i) (.str j)) Q = Q (.bl (!decide (i = j))) := by
  show Q (.bl (!(i == j))) = _
  congr 3
  rw [Bool.eq_iff_iff]
  simp
theorem nY' (x y : D) : vD (pNe x y) Q = vC (dat x = true /\ dat y = true /\ dep x <= 64 /\ dep y <= 64) (Q (.bl (!eqb x y))) := by
  unfold pNe ob eqv
  rw [bw', bw', az']
theorem kJ' (x : D) : vD (pIs x .non) Q = Q (.bl (cB' x)) := by cases x <;> rfl
theorem kK' (x y : Bool) : vD (pIs (.bl x) (.bl y)) Q = Q (.bl (x == y)) := rfl
theorem ef' (x : D) : vD (er' x .non) Q = Q (.bl (!cB' x)) := by cases x <;> rfl
theorem eg' (x y : Bool) : vD (er' (.bl x) (.bl y)) Q = Q (.bl (!(x == y))) := rfl
theorem nZ' (i j : Int) : vD (pLt (.int i) (.int j)) Q = Q (.bl (decide (i < j))) := rfl
theorem n0' (i j : Int) : vD (pLe (.int i) (.int j)) Q = Q (.bl (decide (i <= j))) := rfl
theorem n1' (i j : Int) : vD (pGt (.int i) (.int j)) Q = Q (.bl (decide (j < i))) := rfl
theorem n3' (i j : Int) : vD (pGe (.int i) (.int j)) Q = Q (.bl (decide (j <= i))) := rfl
theorem kB' (i j : Tx) : vD (pLt (.str i) (.str j)) Q = Q (.bl (decide (i < j))) := rfl
theorem kC' (i j : Tx) : vD (pLe (.str i) (.str j)) Q = Q (.bl (!decide (j < i))) := rfl
theorem kN' (i j : Tx) : vD (pGt (.str i) (.str j)) Q = Q (.bl (decide (j < i))) := rfl
theorem kP' (i j : Tx) : vD (pGe (.str i) (.str j)) Q = Q (.bl (!decide (i < j))) := rfl
theorem kM' (c : Nat) (s : Tx) : vD (pIn (.str [c]) (.str s)) Q = Q (.bl (decide (c ∈ s))) := rfl
theorem io' (c : Nat) (s : Tx) : vD (ep' (.str [c]) (.str s)) Q = Q (.bl (!decide (c ∈ s))) := rfl
theorem iN' (ns : List Int) : (ns.map D.int).all sca = true := by induction ns <;> simp_all [sca]
theorem jd' (i : Int) (ns : List Int) : ((ns.map D.int).any fun d => eqb d (.int i)) = decide (i ∈ ns) := by
  induction ns with
  | nil => rfl
  | cons n ns ih =>
    simp only [List.map_cons, List.any_cons, ih]
    rw [Bool.eq_iff_iff]
    simp [eqb]
    exact ⟨fun h => h.elim (fun e => .inl e.symm) .inr, fun h => h.elim (fun e => .inl e.symm) .inr⟩
theorem ix' (i : Int) (ns : List Int) : vD (pIn (.int i) (.tup (ns.map .int))) Q = Q (.bl (decide (i ∈ ns))) := by
  show vD (if sca (.int i) = true /\ (ns.map D.int).all sca = true then some (D.bl ((ns.map D.int).any fun d => eqb d (.int i))) else none) Q = _
  rw [iN', jd']
  rfl
theorem iy' (i : Int) (ns : List Int) : vD (pIn (.int i) (.lst (ns.map .int))) Q = Q (.bl (decide (i ∈ ns))) := by
  show vD (if sca (.int i) = true /\ (ns.map D.int).all sca = true then some (D.bl ((ns.map D.int).any fun d => eqb d (.int i))) else none) Q = _
  rw [iN', jd']
  rfl
theorem it' (s : Tx) : vD (bN' (.str s)) Q = Q (.int s.length) := rfl
theorem iu' (s : List D) : vD (bN' (.lst s)) Q = Q (.int s.length) := rfl
theorem is' (s : List D) : vD (bN' (.tup s)) Q = Q (.int s.length) := rfl
theorem kF' (s : Tx) (i : Int) : vD (pIx (.str s) (.int i)) Q = vD (ati s i) (fun c => Q (.str [c])) := bw'
theorem kH' (s : List D) (i : Int) : vD (pIx (.lst s) (.int i)) Q = vD (ati s i) Q := rfl
theorem kE' (s : List D) (i : Int) : vD (pIx (.tup s) (.int i)) Q = vD (ati s i) Q := rfl
theorem rR' {n : Nat} {i : Int} (h : 0 <= i) (h2 : i < n) : ixn n i = some i.toNat := by unfold ixn; rw [if_pos h, if_pos h2]
theorem b4' {α : Type} {xs : List α} {i : Int} (h : 0 <= i) : ati xs i = xs[i.toNat]? := by
  unfold ati ixn
  rw [if_pos h]
  split
  . rfl
  . rename_i h2
    rw [List.getElem?_eq_none (by omega)]
    rfl
theorem ko' (s : Tx) (lo hi : Option Int) : vD (pSl (.str s) lo hi) Q = Q (.str (cut s lo hi)) := rfl
theorem kq' (s : List D) (lo hi : Option Int) : vD (pSl (.lst s) lo hi) Q = Q (.lst (cut s lo hi)) := rfl
theorem kn' (s : List D) (lo hi : Option Int) : vD (pSl (.tup s) lo hi) Q = Q (.tup (cut s lo hi)) := rfl
theorem kp' (s : List D) (lo hi : Option Int) : vD (pSl (.scr s) lo hi) Q = Q (.lst (cut s lo hi)) := rfl
theorem oC' {α : Type} {s : List α} {i : Int} (h : 0 <= i) : cut s none (some i) = s.take i.toNat := by
  unfold cut six
  simp only [if_neg (show ¬ i < 0 by omega), List.drop_zero, Nat.sub_zero]
  rcases Nat.le_total i.toNat s.length with h | h
  . rw [Nat.min_eq_left h]
  . rw [Nat.min_eq_right h, List.take_length, List.take_of_length_le h]
theorem ny' {α : Type} {s : List α} {i : Int} (h : 0 <= i) : cut s (some i) none = s.drop i.toNat := by
  unfold cut six
  simp only [if_neg (show ¬ i < 0 by omega)]
  rcases Nat.le_total i.toNat s.length with h | h
  . rw [Nat.min_eq_left h, List.take_of_length_le (by rw [List.length_drop]; omega)]
  . rw [Nat.min_eq_right h, List.drop_length, List.drop_of_length_le h, List.take_nil]
theorem im' (s : Tx) : vD (th' (.str s)) Q = Q (.str s.reverse) := rfl
theorem in' (s : List D) : vD (th' (.lst s)) Q = Q (.lst s.reverse) := rfl
theorem mH' (l : List Tx) : ci' (l.map .str) = some l := by
  induction l with
  | nil => rfl
  | cons a l ih => simp [ci', ih]
theorem ge' : ∀ l : List Tx, bO' [] l = l.flatten
  | [] => rfl
  | [x] => by simp [bO']
  | x :: y :: r => by
    have := ge' (y :: r)
    simp only [bO', this, List.flatten_cons, List.nil_append]
theorem eL' (l : List Tx) : vD (dF' [] [.lst (l.map .str)]) Q = gQ' (l.map List.length).sum (Q (.str l.flatten)) := by
  show vD ((ci' (l.map .str)).bind _) Q = _
  rw [mH']
  show vD (if _ then _ else _) Q = _
  rw [az', ge']
  simp [vC, gQ']
theorem k3' : ∀ l : Tx, ((l.map fun c => [c]).map List.length).sum = l.length
  | [] => rfl
  | c :: l => by simp only [List.map_cons, List.sum_cons, k3' l, List.length_cons, List.length_nil]; omega
theorem i6' : ∀ l : Tx, (l.map fun c => [c]).flatten = l
  | [] => rfl
  | c :: l => by simp only [List.map_cons, List.flatten_cons, i6' l]; rfl
theorem fL' (l : Tx) : vD (dF' [] [.lst (l.map chD)]) Q = gQ' l.length (Q (.str l)) := by
  have h := eL' (Q := Q) (l.map fun c => [c])
  rw [List.map_map, k3', i6'] at h
  exact h
theorem iz' (a b : Tx) : vD (jx' a [.str b]) Q = Q (.int (fnd (gR' a b))) := rfl
theorem fM' (a b : Tx) : vD (eu' a [.str b]) Q = vD (gR' a b) (fun i => Q (.int (i : Nat))) := bw'
theorem fD' (s : Tx) : vD (ol' (.str s)) Q = vC (s.all (fun c => decide (c < 128)) = true /\ s.length <= 5592405) (Q (.str (s.map up1))) := az'
theorem kL' (i : Int) : vD (jp' (.int i)) Q = Q (.int i) := rfl
theorem iw' (b : Bool) : vD (jp' (.bl b)) Q = Q (.int (if b then 1 else 0)) := rfl
theorem kZ' (i : Int) : vD (ti' (.int i)) Q = Q (.int (if i < 0 then -i else i)) := rfl
theorem kA' (i j : Int) : vD (lv' (.int i) (.int j)) Q = Q (.int (max i j)) := by
  show Q (.int (if j > i then j else i)) = _
  congr 2
  split <;> omega
theorem kz' (i j : Int) : vD (rz' (.int i) (.int j)) Q = Q (.int (min i j)) := by
  show Q (.int (if j < i then j else i)) = _
  congr 2
  split <;> omega
theorem ih' (s : List D) : vD (ck' (.lst s)) Q = Q (.tup s) := rfl
theorem ig' (s : List D) : vD (ck' (.tup s)) Q = Q (.tup s) := rfl
theorem fI' (s : List D) : vD (cx' (.lst s)) Q = Q (.lst s) := rfl
theorem fH' (s : List D) : vD (cx' (.tup s)) Q = Q (.lst s) := rfl
theorem fE' (s : Tx) : vD (lt' (.str s)) Q = vC (s.length < 64) (Q (.lst ((mM' s).map chD))) := az'
theorem kI' (t : String) (d : D) : vD (bp' t d) Q = vD (tyn d) (fun n => Q (.bl (n == t || (n == "bool" && t == "int")))) := bw'
theorem lS' (l : List Int) : bP' (l.map .int) = some l := by
  induction l with
  | nil => rfl
  | cons a l ih => simp [bP', ih]
theorem jb' (l : List Bool) : bools (l.map .bl) = some l := by
  induction l with
  | nil => rfl
  | cons a l ih => simp [bools, ih]
theorem kl' (l : List Int) : vD (qr' (.lst (l.map .int))) Q = Q (.int l.sum) := by
  show vD ((bP' (l.map .int)).map _) Q = _
  rw [lS']
  rfl
theorem kY' (l : List Bool) : vD (qs' (.lst (l.map .bl))) Q = Q (.bl (l.all id)) := by
  show vD ((bools (l.map .bl)).map _) Q = _
  rw [jb']
  rfl
theorem kX' (l : List Bool) : vD (vf' (.lst (l.map .bl))) Q = Q (.bl (l.any id)) := by
  show vD ((bools (l.map .bl)).map _) Q = _
  rw [jb']
  rfl
theorem il' (s : List D) : vD (cm' (.lst s)) Y = Y s := rfl
theorem ij' (s : List D) : vD (cm' (.tup s)) Y = Y s := rfl
theorem ik' (s : Tx) : vD (cm' (.str s)) Y = Y (s.map chD) := rfl
theorem ks' (j : Int) : vD (cQ' (.int j)) Y = vC (-4611686018427387904 <= j /\ j < 4611686018427387904) (Y (rgI 0 j.toNat)) := by
  show vD (if mq' j = true then _ else _) Y = _
  rw [az']
  congr 1
  simp [mq']
theorem kr' (i j : Int) : vD (cP' (.int i) (.int j)) Y = vC ((-4611686018427387904 <= i /\ i < 4611686018427387904) /\ (-4611686018427387904 <= j /\ j < 4611686018427387904)) (Y (rgI i (j - i).toNat)) := by
  show vD (if mq' i = true /\ mq' j = true then _ else _) Y = _
  rw [az']
  congr 1
  simp [mq']
theorem ic' (a b : Tx) : vD (ml' (.str a) (.str b)) Y = Y (ce' (a.map chD) (b.map chD)) := rfl
theorem if' (a b : List D) : vD (ml' (.lst a) (.lst b)) Y = Y (ce' a b) := rfl
theorem ib' (a b : List D) : vD (ml' (.tup a) (.tup b)) Y = Y (ce' a b) := rfl
theorem id' (a : Tx) (b : List D) : vD (u8' (.str a) (.tup b)) Y = Y (ce' (a.map chD) b) := rfl
theorem kT' (a : Tx) : vD (enB (.str a)) Y = Y (cD' 0 (a.map chD)) := rfl
theorem kU' (a : List D) : vD (enB (.lst a)) Y = Y (cD' 0 a) := rfl
theorem fG' (a : List D) : vD (td' (.lst a)) Y = Y a.reverse := rfl
theorem fF' (a : List D) : vD (td' (.tup a)) Y = Y a.reverse := rfl
theorem ir' (j : Int) : vD (iQ' (.int j)) Q = vC (RgB 0 j = true) (Q (.lst (lT' 0 j))) := az'
theorem s2' {a b : Int} (h1 : 0 <= a) (h2 : b <= 16777216) (h3 : a <= 16777216) (h4 : 0 <= b) : RgB a b = true := by
  unfold RgB
  simp only [Bool.and_eq_true, decide_eq_true_eq]
  omega
theorem n5' (i : Nat) (d : D) (env : List (Option O)) (w : W) {N : PSt -> Prop} : vD (gN i d ⟨env, w⟩) N = k0' i env.length (N ⟨env.set i (some (.fz d)), w⟩) := az'
theorem n4' (is : List Nat) (ds : List D) (ρ : PSt) {N : PSt -> Prop} : vD (gT is (.tup ds) ρ) N = vD (gNs is ds ρ) N := rfl
theorem kO' (ρ : PSt) {N : PSt -> Prop} : vD (gNs [] [] ρ) N = N ρ := rfl
theorem n2' (i : Nat) (is : List Nat) (d : D) (ds : List D) (ρ : PSt) {N : PSt -> Prop} : vD (gNs (i :: is) (d :: ds) ρ) N = vD (gN i d ρ) (fun ρ1 => vD (gNs is ds ρ1) N) := kd'
theorem kD' (w : W) (n : Nat) (k : D) : vD (ixW w (.obj n) k) Q = vOb w[n]? (fun os => vD (ixO (.lst os) k) Q) := by
  show vD (match w[n]? with | some (.lst os) => ixO (.lst os) k | _ => none) Q = _
  rcases w[n]? with _ | ob
  . rfl
  . cases ob <;> rfl
theorem kG' (os : List O) (i : Int) : vD (ixO (.lst os) (.int i)) Q = vD (ati os i) (fun o => vD (asF o) Q) := by
  show vD (match ati os i with | some (.fz d) => some d | _ => none) Q = _
  rcases ati os i with _ | o
  . rfl
  . cases o <;> rfl
theorem kW' (d : D) : vD (asF (.fz d)) Q = Q d := rfl
theorem kV' (d : List D) {Q : List D -> Prop} : vD (asL (.lst d)) Q = Q d := rfl
theorem iv' (d k : D) : vD (ixO (.fz d) k) Q = vD (pIx d k) Q := rfl
theorem ii' (w : W) (n : Nat) (z : Int) (d : D) {N : W -> Prop} : vD (mK' w (.obj n) (.int z) d) N = vOb w[n]? (fun os => vD (ixn os.length z) (fun j => N (w.set n (.lst (os.set j (.fz d)))))) := by
  show vD (match w[n]? with | some (.lst os) => (ixn os.length z).map fun j => w.set n (.lst (os.set j (.fz d))) | _ => none) N = _
  rcases w[n]? with _ | ob
  . rfl
  . cases ob with
    | lst os => exact bw'
    | _ => rfl
theorem fJ' (os : List O) : vD (pt' (.lst os)) Q = Q (.int os.length) := rfl
theorem fK' (d : D) : vD (pt' (.fz d)) Q = vD (bN' d) Q := rfl
end
structure U {α : Sort _} (a : α) : Type where
@[irreducible] def wE {α : Type} (r : Res α) (Q : α -> PSt -> Prop) (X : Exc -> PSt -> Prop) (_ : U (Q, X) := U.mk) : Prop := vE r Q X
@[irreducible] def wS (o : Out) (D : En) (_ : U D := U.mk) : Prop := vS o D
@[irreducible] def wF (r : FRes) (Q : O -> W -> Prop) (X : Exc -> W -> Prop) (_ : U (Q, X) := U.mk) : Prop := vF r Q X
@[irreducible] def wD {α : Type} (o : Option α) (Q : α -> Prop) (_ : U Q := U.mk) : Prop := vD o Q
@[irreducible] def wI (k : Bool) (A B : Prop) (_ : U (A, B) := U.mk) : Prop := vI k A B
@[irreducible] def wB (d : D) (P : Bool -> Prop) (_ : U P := U.mk) : Prop := vB d P
@[irreducible] def wT (d : D) (P : Tx -> Prop) (_ : U P := U.mk) : Prop := vT d P
@[irreducible] def wN (d : D) (P : Int -> Prop) (_ : U P := U.mk) : Prop := vN d P
@[irreducible] def wV (o : Option (Option O)) (i : Nat) (ρ : PSt) (Q : D -> PSt -> Prop) (_ : U Q := U.mk) : Prop := vV o i ρ Q
@[irreducible] def wG (o : Option (Option O)) (i : Nat) (ρ : PSt) (Q : O -> PSt -> Prop) (_ : U Q := U.mk) : Prop := vG o i ρ Q
@[irreducible] def wO (o : Option (Option O)) (Q : O -> Prop) (_ : U Q := U.mk) : Prop := vO o Q
@[irreducible] def wL (o : Option (Option O)) (Q : List O -> Prop) (_ : U Q := U.mk) : Prop := vL o Q
@[irreducible] def jQ' (n : Nat) (A : Prop) (_ : U A := U.mk) : Prop := gQ' n A
@[irreducible] def oI' (i n : Nat) (A : Prop) (_ : U A := U.mk) : Prop := k0' i n A
@[irreducible] def wC (c : Prop) (A : Prop) (_ : U A := U.mk) : Prop := vC c A
@[irreducible] def s8' (o : Option Ob) (P : String -> List (String × O) -> Prop) (_ : U P := U.mk) : Prop := s9' o P
@[irreducible] def wOb (o : Option Ob) (P : List O -> Prop) (_ : U P := U.mk) : Prop := vOb o P
theorem jk' {α : Type} (r : Res α) (Q : α -> PSt -> Prop) (X : Exc -> PSt -> Prop) (u : U (Q, X)) : wE r Q X u = vE r Q X := by unfold wE; rfl
theorem jh' (o : Out) (D : En) (u : U D) : wS o D u = vS o D := by unfold wS; rfl
theorem jj' (r : FRes) (Q : O -> W -> Prop) (X : Exc -> W -> Prop) (u : U (Q, X)) : wF r Q X u = vF r Q X := by unfold wF; rfl
theorem aq' {α : Type} (o : Option α) (Q : α -> Prop) (u : U Q) : wD o Q u = vD o Q := by unfold wD; rfl
theorem mB' (k : Bool) (A B : Prop) (u : U (A, B)) : wI k A B u = vI k A B := by unfold wI; rfl
theorem mC' (d : D) (P : Bool -> Prop) (u : U P) : wB d P u = vB d P := by unfold wB; rfl
theorem mw' (d : D) (P : Tx -> Prop) (u : U P) : wT d P u = vT d P := by unfold wT; rfl
theorem my' (d : D) (P : Int -> Prop) (u : U P) : wN d P u = vN d P := by unfold wN; rfl
theorem jg' (o : Option (Option O)) (i : Nat) (ρ : PSt) (Q : D -> PSt -> Prop) (u : U Q) : wV o i ρ Q u = vV o i ρ Q := by unfold wV; rfl
theorem ji' (o : Option (Option O)) (i : Nat) (ρ : PSt) (Q : O -> PSt -> Prop) (u : U Q) : wG o i ρ Q u = vG o i ρ Q := by unfold wG; rfl
theorem mx' (o : Option (Option O)) (Q : O -> Prop) (u : U Q) : wO o Q u = vO o Q := by unfold wO; rfl
theorem mz' (o : Option (Option O)) (Q : List O -> Prop) (u : U Q) : wL o Q u = vL o Q := by unfold wL; rfl
theorem dq' (n : Nat) (A : Prop) (u : U A) : jQ' n A u = gQ' n A := by unfold jQ'; rfl
theorem dp' (i n : Nat) (A : Prop) (u : U A) : oI' i n A u = k0' i n A := by unfold oI'; rfl
theorem gT' (c : Prop) (A : Prop) (u : U A) : wC c A u = vC c A := by unfold wC; rfl
theorem ec' (o : Option Ob) (P : List O -> Prop) (u : U P) : wOb o P u = vOb o P := by unfold wOb; rfl
theorem cL' (o : Option Ob) (P : String -> List (String × O) -> Prop) (u : U P) : s8' o P u = s9' o P := by unfold s8'; rfl
local macro_rules | `(tactic| walk_at "z") => `(tactic| simp only [jk', jh', jj', aq', mB', mC', mw', my', jg', ji', mx', mz', dq', dp', gT', ec', cL'] at *)
section
variable {α β : Type} {Q : α -> PSt -> Prop} {X : Exc -> PSt -> Prop} {ρ : PSt} {P : D -> PSt -> Prop} {D0 : En}
theorem an' (z : α) {Q : α -> Prop} : wD (some z) Q = Q z := by walk_at "z"; first | exact fy' .. | (apply fy' <;> assumption)
theorem tJ' (k : Bool) {Q : Bool -> Prop} : wB (.bl k) Q = Q k := by walk_at "z"; first | exact kf' .. | (apply kf' <;> assumption)
theorem mA' (A B : Prop) : wI true A B = A := by walk_at "z"; first | exact nV' .. | (apply nV' <;> assumption)
theorem qP' (A B : Prop) : wI false A B = B := by walk_at "z"; first | exact nW' .. | (apply nW' <;> assumption)
theorem qO' (k : Bool) (A B : Prop) : wI (!k) A B = wI k B A := by walk_at "z"; first | exact hV' .. | (apply hV' <;> assumption)
theorem x_C (d : D) : wE (eC d ρ) P X = P d ρ := by walk_at "z"; first | exact qW' .. | (apply qW' <;> assumption)
theorem x_V (i : Nat) (env : List (Option O)) (w : W) : wE (eV i ⟨env, w⟩) P X = wV env[i]? i ⟨env, w⟩ P := by walk_at "z"; first | exact qU' .. | (apply qU' <;> assumption)
theorem tB' (d : D) (i : Nat) (ρ : PSt) : wV (some (some (.fz d))) i ρ P = P d ρ := by walk_at "z"; first | exact j9' .. | (apply j9' <;> assumption)
theorem qI' (os : List O) (i : Nat) (env : List (Option O)) (w : W) : wV (some (some (.lst os))) i ⟨env, w⟩ P = P (.lst (frzs os)) ⟨env.set i (some (.fz (.lst (frzs os)))), w⟩ := by walk_at "z"; first | exact hQ' .. | (apply hQ' <;> assumption)
theorem qH' (os : List O) (i : Nat) (env : List (Option O)) (w : W) : wV (some (some (.tup os))) i ⟨env, w⟩ P = P (.tup (frzs os)) ⟨env.set i (some (.fz (.tup (frzs os)))), w⟩ := by walk_at "z"; first | exact hP' .. | (apply hP' <;> assumption)
theorem qJ' (ks : List D) (os : List O) (i : Nat) (env : List (Option O)) (w : W) : wV (some (some (.dct ks os))) i ⟨env, w⟩ P = P (.dct ks (frzs os)) ⟨env.set i (some (.fz (.dct ks (frzs os)))), w⟩ := by walk_at "z"; first | exact hR' .. | (apply hR' <;> assumption)
theorem tF' (d : D) (i : Nat) (ρ : PSt) {P : O -> PSt -> Prop} : wG (some (some (.fz d))) i ρ P = P (.fz d) ρ := by walk_at "z"; first | exact kb' .. | (apply kb' <;> assumption)
theorem qR' (os : List O) (i : Nat) (env : List (Option O)) (w : W) {P : O -> PSt -> Prop} : wG (some (some (.lst os))) i ⟨env, w⟩ P = P (.lst os) ⟨env.set i none, w⟩ := by walk_at "z"; first | exact hY' .. | (apply hY' <;> assumption)
theorem qQ' (os : List O) (i : Nat) (env : List (Option O)) (w : W) {P : O -> PSt -> Prop} : wG (some (some (.tup os))) i ⟨env, w⟩ P = P (.tup os) ⟨env.set i none, w⟩ := by walk_at "z"; first | exact hX' .. | (apply hX' <;> assumption)
theorem qS' (ks : List D) (os : List O) (i : Nat) (env : List (Option O)) (w : W) {P : O -> PSt -> Prop} : wG (some (some (.dct ks os))) i ⟨env, w⟩ P = P (.dct ks os) ⟨env.set i none, w⟩ := by walk_at "z"; first | exact hZ' .. | (apply hZ' <;> assumption)
theorem oK' (o : O) {P : O -> Prop} : wO (some (some o)) P = P o := by walk_at "z"; first | exact fv' .. | (apply fv' <;> assumption)
theorem qM' (os : List O) {P : List O -> Prop} : wL (some (some (.lst os))) P = P os := by walk_at "z"; first | exact hU' .. | (apply hU' <;> assumption)
theorem vy' (f : D -> D -> Option D) (a b : ME) : wE (eOp f a b ρ) P X = wE (a ρ) (fun x ρ1 => wE (b ρ1) (fun y ρ2 => wD (f x y) (fun z => P z ρ2)) X) X := by walk_at "z"; first | exact nR' .. | (apply nR' <;> assumption)
theorem vv' (f : D -> Option D) (a : ME) : wE (eUn f a ρ) P X = wE (a ρ) (fun x ρ1 => wD (f x) (fun z => P z ρ1)) X := by walk_at "z"; first | exact nO' .. | (apply nO' <;> assumption)
theorem tz' (a b : ME) : wE (qx' a b ρ) P X = wE (a ρ) (fun x ρ1 => wB x fun k => wI k (wE (b ρ1) P X) (P (.bl false) ρ1)) X := by walk_at "z"; first | exact j8' .. | (apply j8' <;> assumption)
theorem tu' {P : List D -> PSt -> Prop} : wE (aH' ρ) P X = P [] ρ := by walk_at "z"; first | exact j4' .. | (apply j4' <;> assumption)
theorem qE' (a : ME) (r : MA) {P : List D -> PSt -> Prop} : wE (ab' a r ρ) P X = wE (a ρ) (fun x ρ1 => wE (r ρ1) (fun xs ρ2 => P (x :: xs) ρ2) X) X := by walk_at "z"; first | exact hN' .. | (apply hN' <;> assumption)
theorem jZ' {n : Nat} (h : n <= 16777216) (A : Prop) : jQ' n A = A := by walk_at "z"; first | exact fx' .. | (apply fx' <;> assumption)
theorem ts' (as : MA) : wE (jU' as ρ) P X = wE (as ρ) (fun xs ρ1 => jQ' xs.length (P (.tup xs) ρ1)) X := by walk_at "z"; first | exact j2' .. | (apply j2' <;> assumption)
theorem tv' (as : MA) : wE (cK' as ρ) P X = wE (as ρ) (fun xs ρ1 => jQ' xs.length (P (.lst xs) ρ1)) X := by walk_at "z"; first | exact j5' .. | (apply j5' <;> assumption)
theorem vA' (f : Tx -> List D -> Option D) (a : ME) (as : MA) : wE (eMt f a as ρ) P X = wE (a ρ) (fun x ρ1 => wT x fun s => wE (as ρ1) (fun ds ρ2 => wD (f s ds) fun z => P z ρ2) X) X := by walk_at "z"; first | exact nT' .. | (apply nT' <;> assumption)
theorem qK' (s : Tx) {P : Tx -> Prop} : wT (.str s) P = P s := by walk_at "z"; first | exact hS' .. | (apply hS' <;> assumption)
theorem qL' (s : Int) {P : Int -> Prop} : wN (.int s) P = P s := by walk_at "z"; first | exact hT' .. | (apply hT' <;> assumption)
theorem vz' {P : Option Int -> PSt -> Prop} : wE (pNo ρ) P X = P none ρ := by walk_at "z"; first | exact nS' .. | (apply nS' <;> assumption)
theorem vw' (a : ME) {P : Option Int -> PSt -> Prop} : wE (pSo a ρ) P X = wE (a ρ) (fun x ρ1 => wN x fun i => P (some i) ρ1) X := by walk_at "z"; first | exact nP' .. | (apply nP' <;> assumption)
theorem vx' (a : ME) (lo hi : MP) : wE (eSl a lo hi ρ) P X = wE (a ρ) (fun x ρ1 => wE (lo ρ1) (fun l ρ2 => wE (hi ρ2) (fun h ρ3 => wD (pSl x l h) fun z => P z ρ3) X) X) X := by walk_at "z"; first | exact nQ' .. | (apply nQ' <;> assumption)
theorem x_O (a : MO) : wE (eO a ρ) P X = wE (a ρ) (fun o ρ1 => P (frz o) ρ1) X := by walk_at "z"; first | exact qV' .. | (apply qV' <;> assumption)
variable {R : O -> PSt -> Prop}
theorem vu' (a : ME) : wE (oE a ρ) R X = wE (a ρ) (fun d ρ1 => R (.fz d) ρ1) X := by walk_at "z"; first | exact nN' .. | (apply nN' <;> assumption)
theorem vt' (i : Nat) (env : List (Option O)) (w : W) : wE (oV i ⟨env, w⟩) R X = wG env[i]? i ⟨env, w⟩ R := by walk_at "z"; first | exact nM' .. | (apply nM' <;> assumption)
theorem qF' (f : MF) (as : MA) : wE (ay' f as ρ) R X = wE (as ρ) (fun ds ρ1 => wF (f ds ρ1.w) (fun o w => R o ⟨ρ1.env, w⟩) fun x w => X x ⟨ρ1.env, w⟩) X := by walk_at "z"; first | exact hO' .. | (apply hO' <;> assumption)
theorem qB' (a : ME) : wE (mo' a ρ) R X = wE (a ρ) (fun d ρ1 => wD (asL d) fun ds => R (.lst (ds.map .fz)) ρ1) X := by walk_at "z"; first | exact hK' .. | (apply hK' <;> assumption)
theorem oF' : wE (g5' ρ) R X = R (.dct [] []) ρ := by walk_at "z"; first | exact fq' .. | (apply fq' <;> assumption)
theorem tx' (i : Nat) (b : ME) (env : List (Option O)) (w : W) : wE (jV' i b ⟨env, w⟩) P X = wO env[i]? fun _ => wE (b ⟨env, w⟩) (fun k ρ1 => wO ρ1.env[i]? fun o => wD (ixO o k) fun z => P z ρ1) X := by walk_at "z"; first | exact j7' .. | (apply j7' <;> assumption)
theorem tw' (a b : ME) : wE (fj' a b ρ) P X = wE (a ρ) (fun x ρ1 => wE (b ρ1) (fun y ρ2 => wD (ixW ρ2.w x y) fun z => P z ρ2) X) X := by walk_at "z"; first | exact j6' .. | (apply j6' <;> assumption)
theorem tt' (as : MA) : wE (rG' as ρ) R X = wE (as ρ) (fun xs ρ1 => jQ' xs.length (R (.fz (.obj ρ1.w.length)) ⟨ρ1.env, ρ1.w ++ [.lst (xs.map .fz)]⟩)) X := by walk_at "z"; first | exact j3' .. | (apply j3' <;> assumption)
theorem ty' (i : Nat) (t : ET) (c : String) (x : Exc) : wE (fk' i t c x ρ) P X = vX ρ.env[i]? (x.fs = [] /\ wD (sub t x.cls c) fun b => P (.bl b) ρ) := by simp only [jk', jh', jj', aq', mB', mC', mw', my', jg', ji', mx', mz', dq', dp', gT', ec', cL']; exact oO' ..
variable {B : Bool -> PSt -> Prop}
theorem vr' (a : ME) : wE (tE a ρ) B X = wE (a ρ) (fun d ρ1 => wB d fun k => B k ρ1) X := by walk_at "z"; first | exact nL' .. | (apply nL' <;> assumption)
theorem qz' (a : MT) : wE (mm' a ρ) B X = wE (a ρ) (fun k ρ1 => B (!k) ρ1) X := by walk_at "z"; first | exact hI' .. | (apply hI' <;> assumption)
theorem qA' (a b : MT) : wE (qo' a b ρ) B X = wE (a ρ) (fun k ρ1 => wI k (wE (b ρ1) B X) (B false ρ1)) X := by walk_at "z"; first | exact hJ' .. | (apply hJ' <;> assumption)
theorem tq' (a b : MT) : wE (tOr a b ρ) B X = wE (a ρ) (fun k ρ1 => wI k (B true ρ1) (wE (b ρ1) B X)) X := by walk_at "z"; first | exact j0' .. | (apply j0' <;> assumption)
theorem vq' : wE (tT ρ) B X = B true ρ := by walk_at "z"; first | exact nK' .. | (apply nK' <;> assumption)
variable {Y : List D -> PSt -> Prop}
theorem qD' (a : ME) : wE (jC' a ρ) Y X = wE (a ρ) (fun d ρ1 => wD (cm' d) fun z => Y z ρ1) X := by walk_at "z"; first | exact hM' .. | (apply hM' <;> assumption)
theorem jX' (a : ME) : wE (bD' a ρ) Y X = wE (a ρ) (fun d ρ1 => wD (cQ' d) fun z => Y z ρ1) X := by walk_at "z"; first | exact ds' .. | (apply ds' <;> assumption)
theorem jW' (a b : ME) : wE (dI' a b ρ) Y X = wE (a ρ) (fun d ρ1 => wE (b ρ1) (fun e ρ2 => wD (cP' d e) fun z => Y z ρ2) X) X := by walk_at "z"; first | exact dr' .. | (apply dr' <;> assumption)
theorem qC' (a b : ME) : wE (r2' a b ρ) Y X = wE (a ρ) (fun d ρ1 => wE (b ρ1) (fun e ρ2 => wD (ml' d e) fun z => Y z ρ2) X) X := by walk_at "z"; first | exact hL' .. | (apply hL' <;> assumption)
theorem oG' (a : ME) : wE (lV' a ρ) Y X = wE (a ρ) (fun d ρ1 => wD (enB d) fun z => Y z ρ1) X := by walk_at "z"; first | exact fs' .. | (apply fs' <;> assumption)
theorem vB' (own : List Nat) (it : MI) (g : MG) (t : MT) (e : ME) : wE (eLc own it g t e ρ) P X = wE (it ρ) (fun xs ρ1 => wE (lcL own g t e xs [] ρ1) (fun ys ρ2 => P (.lst ys) ⟨back ρ1.env own (aA' own ρ2.env), ρ2.w⟩) X) X := by walk_at "z"; first | exact nU' .. | (apply nU' <;> assumption)
theorem tr' (own : List Nat) (it : MI) (g : MG) (t : MT) (e : ME) : wE (oLc own it g t e ρ) R X = wE (it ρ) (fun xs ρ1 => wE (lcL own g t e xs [] ρ1) (fun ys ρ2 => R (.lst (ys.map .fz)) ⟨back ρ1.env own (aA' own ρ2.env), ρ2.w⟩) X) X := by walk_at "z"; first | exact j1' .. | (apply j1' <;> assumption)
variable {N : PSt -> Prop} {rt : O -> W -> Prop} {bk ct : PSt -> Prop} {ex : Exc -> PSt -> Prop}
theorem rd' : wS (a8' ρ) ⟨N, rt, bk, ct, ex⟩ = N ρ := by walk_at "z"; first | exact h7' .. | (apply h7' <;> assumption)
theorem rf' (a : ME) : wS (fV' a ρ) ⟨N, rt, bk, ct, ex⟩ = wE (a ρ) (fun _ ρ1 => N ρ1) ex := by walk_at "z"; first | exact h8' .. | (apply h8' <;> assumption)
theorem tP' (a : MO) : wS (bW' a ρ) ⟨N, rt, bk, ct, ex⟩ = wE (a ρ) (fun o ρ1 => rt o ρ1.w) ex := by walk_at "z"; first | exact ki' .. | (apply ki' <;> assumption)
theorem tO' (a b : MS) : wS (aP' a b ρ) ⟨N, rt, bk, ct, ex⟩ = wS (a ρ) ⟨fun ρ1 => wS (b ρ1) ⟨N, rt, bk, ct, ex⟩, rt, bk, ct, ex⟩ := by walk_at "z"; first | exact gU' .. | (apply gU' <;> assumption)
theorem vD' (t : MT) (a b : MS) : wS (sIf t a b ρ) ⟨N, rt, bk, ct, ex⟩ = wE (t ρ) (fun k ρ1 => wI k (wS (a ρ1) ⟨N, rt, bk, ct, ex⟩) (wS (b ρ1) ⟨N, rt, bk, ct, ex⟩)) ex := by walk_at "z"; first | exact nX' .. | (apply nX' <;> assumption)
theorem eI' {i n : Nat} (h : i < n) (A : Prop) : oI' i n A = A := by walk_at "z"; first | exact ft' .. | (apply ft' <;> assumption)
theorem tN' (i : Nat) (a : MO) : wS (bi' i a ρ) ⟨N, rt, bk, ct, ex⟩ = wE (a ρ) (fun o ρ1 => oI' i ρ1.env.length (N ⟨ρ1.env.set i (some o), ρ1.w⟩)) ex := by walk_at "z"; first | exact kh' .. | (apply kh' <;> assumption)
theorem o4' (x : String) : wS (cY' x ρ) ⟨N, rt, bk, ct, ex⟩ = ex ⟨x, []⟩ ρ := by walk_at "z"; first | exact fB' .. | (apply fB' <;> assumption)
theorem tR' (i : Nat) (a : MO) : wS (o7' i a ρ) ⟨N, rt, bk, ct, ex⟩ = wL ρ.env[i]? fun _ => wE (a ρ) (fun o ρ1 => wL ρ1.env[i]? fun os => oI' os.length 16777216 (N ⟨ρ1.env.set i (some (.lst (os ++ [o]))), ρ1.w⟩)) ex := by walk_at "z"; first | exact kk' .. | (apply kk' <;> assumption)
theorem rc' (i : Nat) (k a : ME) : wS (eS' i k a ρ) ⟨N, rt, bk, ct, ex⟩ = wE (a ρ) (fun d ρ1 => wO ρ1.env[i]? fun _ => wE (k ρ1) (fun y ρ2 => wL ρ2.env[i]? fun os => wN y fun z => wD (ixn os.length z) fun j => N ⟨ρ2.env.set i (some (.lst (os.set j (.fz d)))), ρ2.w⟩) ex) ex := by walk_at "z"; first | exact h6' .. | (apply h6' <;> assumption)
theorem rb' (o k a : ME) : wS (eR' o k a ρ) ⟨N, rt, bk, ct, ex⟩ = wE (a ρ) (fun d ρ1 => wE (o ρ1) (fun x ρ2 => wE (k ρ2) (fun y ρ3 => wD (mK' ρ3.w x y d) fun w => N ⟨ρ3.env, w⟩) ex) ex) ex := by walk_at "z"; first | exact h5' .. | (apply h5' <;> assumption)
theorem mP' (w : W) (b : Ob) (n : Nat) : vC' w b (.obj n) = w.set n b := rfl
theorem tQ' (it : MI) (g : MG) (b : MS) : wS (jR' it g b ρ) ⟨N, rt, bk, ct, ex⟩ = wE (it ρ) (fun ds ρ1 => wS (i5' g b ds ρ1) ⟨N, rt, bk, ct, ex⟩) ex := by walk_at "z"; first | exact kj' .. | (apply kj' <;> assumption)
theorem o3' (i m : Nat) (b : MS) (g : String -> Option Bool) (h : Exc -> MS) : wS (em' i m b g h ρ) ⟨N, rt, bk, ct, ex⟩ = wS (b ρ) ⟨N, rt, bk, ct, fun x ρ1 => wD (g x.cls) fun k => wI k (wC (ρ1.env.length = i + m + 1) (wS (h x ⟨ρ1.env.set i (some .exn), ρ1.w⟩) ⟨fun ρ => wC (ρ.env.length = i + m + 1) (N ⟨ρ.env.set i none, ρ.w⟩), rt, fun ρ => wC (ρ.env.length = i + m + 1) (bk ⟨ρ.env.set i none, ρ.w⟩), fun ρ => wC (ρ.env.length = i + m + 1) (ct ⟨ρ.env.set i none, ρ.w⟩), fun _ _ => False⟩)) (ex x ρ1)⟩ := by simp only [jk', jh', jj', aq', mB', mC', mw', my', jg', ji', mx', mz', dq', dp', gT', ec', cL']; exact kg' ..
theorem rF' {k n : Nat} {b : MS} {ds : List D} {w : W} {Q : O -> W -> Prop} {X : Exc -> W -> Prop} (q : wS (b ⟨ds.map (fun d => some (.fz d)) ++ List.replicate (n - k) none, w⟩) ⟨fun ρ => Q (.fz .non) ρ.w, Q, fun _ => False, fun _ => False, fun x ρ => X x ρ.w⟩) (h : ds.length = k) : wF (fnM k n b ds w) Q X := by walk_at "z"; first | exact h9' .. | (apply h9' <;> assumption)
theorem tI' (o : O) (w : W) {Q : O -> W -> Prop} {X : Exc -> W -> Prop} : wF (.ok o w) Q X = Q o w := by walk_at "z"; first | exact kc' .. | (apply kc' <;> assumption)
theorem qT' (x : Exc) (w : W) {Q : O -> W -> Prop} {X : Exc -> W -> Prop} : wF (.exc x w) Q X = X x w := by walk_at "z"; first | exact h0' .. | (apply h0' <;> assumption)
theorem wF.mono {r : FRes} {Q Q' : O -> W -> Prop} {X : Exc -> W -> Prop} (h : wF r Q FX) (k : ∀ o w, Q o w -> Q' o w) : wF r Q' X := by walk_at "z"; first | exact vF.mono .. | (apply vF.mono <;> assumption)
theorem wF.monoX {r : FRes} {Q Q' : O -> W -> Prop} {X X' : Exc -> W -> Prop} (h : wF r Q X) (k : ∀ o w, Q o w -> Q' o w) (k2 : ∀ x w, X x w -> X' x w) : wF r Q' X' := by walk_at "z"; first | exact vF.monoX .. | (apply vF.monoX <;> assumption)
theorem wF.exi {r : FRes} {Q : O -> W -> Prop} (h : wF r Q FX) : ∃ o w, r = .ok o w /\ Q o w := by walk_at "z"; first | exact vF.exi .. | (apply vF.exi <;> assumption)
theorem wF.of {r : FRes} {Q : O -> W -> Prop} {X : Exc -> W -> Prop} {o : O} {w : W} (e : r = .ok o w) (h : Q o w) : wF r Q X := by walk_at "z"; first | exact vF.of .. | (apply vF.of <;> assumption)
theorem wS.mono {o : Out} {D1 D2 : En} (h : wS o D1) (h1 : ∀ ρ, D1.nx ρ -> D2.nx ρ) (h2 : ∀ o w, D1.rt o w -> D2.rt o w) (h3 : ∀ ρ, D1.bk ρ -> D2.bk ρ) (h4 : ∀ ρ, D1.ct ρ -> D2.ct ρ) (h5 : ∀ x ρ, D1.ex x ρ -> D2.ex x ρ) : wS o D2 := by walk_at "z"; first | exact vS.mono .. | (apply vS.mono <;> assumption)
theorem wE.mono {r : Res α} {Q Q' : α -> PSt -> Prop} {X X' : Exc -> PSt -> Prop} (h : wE r Q X) (k : ∀ a ρ, Q a ρ -> Q' a ρ) (k2 : ∀ x ρ, X x ρ -> X' x ρ) : wE r Q' X' := by walk_at "z"; first | exact vE.mono .. | (apply vE.mono <;> assumption)
theorem gY' {a b : MS} (J : PSt -> Prop) (h : wS (a ρ) ⟨J, rt, bk, ct, ex⟩) (k : ∀ ρ1, J ρ1 -> wS (b ρ1) ⟨N, rt, bk, ct, ex⟩) : wS (aP' a b ρ) ⟨N, rt, bk, ct, ex⟩ := by walk_at "z"; first | exact fA' .. | (apply fA' <;> assumption)
theorem bu' {p : Prop} [Decidable p] {A B : Prop} (h1 : p -> A) (h2 : ¬ p -> B) : wI (decide p) A B := by walk_at "z"; first | exact hW' .. | (apply hW' <;> assumption)
theorem he' {γ : Type} {g : MG} {b : MS} {f : γ -> D} {cs : List γ} (Inv : List γ -> PSt -> Prop) (h0 : Inv [] ρ)
    (step : ∀ pre c post ρ, cs = pre ++ c :: post -> Inv pre ρ -> wD (g (f c) ρ) fun ρ1 => wS (b ρ1) ⟨Inv (pre ++ [c]), rt, N, Inv (pre ++ [c]), ex⟩)
    (hend : ∀ ρ, Inv cs ρ -> N ρ) : wS (i5' g b (cs.map f) ρ) ⟨N, rt, bk, ct, ex⟩ := by walk_at "z"; first | exact dt' .. | (apply dt' <;> assumption)
theorem dJ' {g : MG} {b : MS} {lo : Int} {n : Nat} (Inv : Nat -> PSt -> Prop) (h0 : Inv 0 ρ)
    (step : ∀ k ρ, k < n -> Inv k ρ -> wD (g (.int (lo + (k : Nat))) ρ) fun ρ1 => wS (b ρ1) ⟨Inv (k + 1), rt, N, Inv (k + 1), ex⟩)
    (hend : ∀ ρ, Inv n ρ -> N ρ) : wS (i5' g b (rgI lo n) ρ) ⟨N, rt, bk, ct, ex⟩ := by walk_at "z"; first | exact fC' .. | (apply fC' <;> assumption)
theorem ev' {own : List Nat} {g : MG} {t : MT} {e : ME} {γ : Type} {f : γ -> D} {cs : List γ} {Q : List D -> PSt -> Prop} (hl : cs.length <= 16777216) (Inv : List γ -> List D -> PSt -> Prop) (h0 : Inv [] [] ρ)
    (step : ∀ pre c post acc ρ, cs = pre ++ c :: post -> Inv pre acc ρ -> wD (g (f c) ⟨aA' own ρ.env, ρ.w⟩) fun ρ1 => wE (t ρ1) (fun k ρ2 => wI k (wE (e ρ2) (fun y ρ3 => Inv (pre ++ [c]) (acc ++ [y]) ρ3) PX) (Inv (pre ++ [c]) acc ρ2)) PX)
    (hend : ∀ acc ρ, Inv cs acc ρ -> Q acc ρ) : wE (lcL own g t e (cs.map f) [] ρ) Q X := by walk_at "z"; first | exact ia' .. | (apply ia' <;> assumption)
end
theorem oL' (C : String) (fs : List (String × O)) {P : String -> List (String × O) -> Prop} : s8' (some (.ins C fs)) P = P C fs := by simp only [cL']; exact ka' ..
theorem ue' (cs : List String) (f : String) (o : O) (w : W) (n : Nat) {N : W -> Prop} : wD (stF cs f o w (.obj n)) N = s8' w[n]? (fun C fs => wC (C ∈ cs /\ fs.length < 1000) (N (w.set n (.ins C (pb' f o fs))))) := by simp only [aq', cL', gT']; exact oS' ..
theorem mE' (w : W) (n : Nat) {Q : List O -> Prop} : vD (vj' w (.obj n)) Q = vOb w[n]? Q := by
  show vD (match w[n]? with | some (.lst os) => some os | _ => none) Q = _
  rcases w[n]? with _ | b
  . rfl
  cases b <;> rfl
theorem sy' (w : W) (n : Nat) {Q : List O -> Prop} : wD (vj' w (.obj n)) Q = wOb w[n]? Q := by simp only [jk', jh', jj', aq', ec']; exact mE' w n
theorem mF' (w : W) (n : Nat) {Q : D -> Prop} : vD (vk' w (.obj n)) Q = vOb w[n]? fun os => Q (.int os.length) := by
  show vD (match w[n]? with | some (.lst os) => some (.int os.length) | _ => none) Q = _
  rcases w[n]? with _ | b
  . rfl
  cases b <;> rfl
theorem sB' (w : W) (n : Nat) {Q : D -> Prop} : wD (vk' w (.obj n)) Q = wOb w[n]? fun os => Q (.int os.length) := by simp only [jk', jh', jj', aq', ec']; exact mF' w n
theorem oJ' (os : List O) {P : List O -> Prop} : wOb (some (.lst os)) P = P os := by walk_at "z"; first | exact fu' .. | (apply fu' <;> assumption)
theorem oN' {c : Prop} (h : c) (A : Prop) : wC c A = A := by walk_at "z"; first | exact ke' .. | (apply ke' <;> assumption)
theorem oM' (A : Prop) : wC True A = A := by walk_at "z"; first | exact fz' .. | (apply fz' <;> assumption)
theorem ee' {α : Type} {c : Prop} [Decidable c] {x : α} {Q : α -> Prop} : wD (if c then some x else none) Q = wC c (Q x) := by walk_at "z"; first | exact az' .. | (apply az' <;> assumption)
theorem ed' {α β : Type} {f : α -> β} {o : Option α} {Q : β -> Prop} : wD (o.map f) Q = wD o (fun a => Q (f a)) := by walk_at "z"; first | exact bw' .. | (apply bw' <;> assumption)
section
variable {Q : D -> Prop} {Y : List D -> Prop}
theorem sQ' (i j : Int) : wD (bz' (.int i) (.int j)) Q = Q (.int (i + j)) := by walk_at "z"; first | exact iE' .. | (apply iE' <;> assumption)
theorem sO' (a b : Tx) : wD (bz' (.str a) (.str b)) Q = jQ' (a.length + b.length) (Q (.str (a ++ b))) := by walk_at "z"; first | exact iC' .. | (apply iC' <;> assumption)
theorem sP' (a b : List D) : wD (bz' (.lst a) (.lst b)) Q = jQ' (a.length + b.length) (Q (.lst (a ++ b))) := by walk_at "z"; first | exact iD' .. | (apply iD' <;> assumption)
theorem sN' (a b : List D) : wD (bz' (.tup a) (.tup b)) Q = jQ' (a.length + b.length) (Q (.tup (a ++ b))) := by walk_at "z"; first | exact iB' .. | (apply iB' <;> assumption)
theorem qg' (i j : Int) : wD (rA' (.int i) (.int j)) Q = Q (.int (i + j)) := by walk_at "z"; first | exact fN' .. | (apply fN' <;> assumption)
theorem uc' (i j : Int) : wD (tg' (.int i) (.int j)) Q = Q (.int (i - j)) := by walk_at "z"; first | exact km' .. | (apply km' <;> assumption)
theorem us' (i j : Int) : wD (eq' (.int i) (.int j)) Q = wC (((-18446744073709551616 < i /\ i < 18446744073709551616) \/ (-18446744073709551616 < j /\ j < 18446744073709551616)) \/ ((-2582249878086908589655919172003011874329705792829223512830659356540647622016841194629645353280137831435903171972747493376 < i /\ i < 2582249878086908589655919172003011874329705792829223512830659356540647622016841194629645353280137831435903171972747493376) /\ (-2582249878086908589655919172003011874329705792829223512830659356540647622016841194629645353280137831435903171972747493376 < j /\ j < 2582249878086908589655919172003011874329705792829223512830659356540647622016841194629645353280137831435903171972747493376))) (Q (.int (i * j))) := by walk_at "z"; first | exact kx' .. | (apply kx' <;> assumption)
theorem sv' (a : Tx) (j : Int) : wD (eq' (.str a) (.int j)) Q = wC (j < 4611686018427387904 /\ -4611686018427387904 <= j /\ a.length * j.toNat <= 16777216) (Q (.str (List.replicate j.toNat a).flatten)) := by walk_at "z"; first | exact ip' .. | (apply ip' <;> assumption)
theorem sw' (a : List D) (j : Int) : wD (eq' (.lst a) (.int j)) Q = wC (j < 4611686018427387904 /\ -4611686018427387904 <= j /\ a.length * j.toNat <= 16777216) (Q (.lst (List.replicate j.toNat a).flatten)) := by walk_at "z"; first | exact iq' .. | (apply iq' <;> assumption)
theorem sM' (i j : Int) : wD (fW' (.int i) (.int j)) Q = wC (0 < j /\ j < 1606938044258990275541962092341162602522202993782792835301376) (Q (.int (i / j))) := by walk_at "z"; first | exact iA' .. | (apply iA' <;> assumption)
theorem ut' (i j : Int) : wD (lu' (.int i) (.int j)) Q = wC (0 < j) (Q (.int (i % j))) := by walk_at "z"; first | exact ky' .. | (apply ky' <;> assumption)
theorem un' (i j : Int) : wD (ry' (.int i) (.int j)) Q = wC (0 <= j /\ j <= 1000 /\ -18446744073709551616 < i /\ i < 18446744073709551616) (Q (.int (i ^ j.toNat))) := by walk_at "z"; first | exact kt' .. | (apply kt' <;> assumption)
theorem uo' (i : Int) : wD (ve' (.int i)) Q = Q (.int (-i)) := by walk_at "z"; first | exact ku' .. | (apply ku' <;> assumption)
theorem uO' (i j : Int) : wD (pEq (.int i) (.int j)) Q = Q (.bl (decide (i = j))) := by walk_at "z"; first | exact kR' .. | (apply kR' <;> assumption)
theorem uN' (i j : Tx) : wD (pEq (.str i) (.str j)) Q = Q (.bl (decide (i = j))) := by walk_at "z"; first | exact kQ' .. | (apply kQ' <;> assumption)
theorem uP' (i j : Bool) : wD (pEq (.bl i) (.bl j)) Q = Q (.bl (i == j)) := by walk_at "z"; first | exact kS' .. | (apply kS' <;> assumption)
theorem vZ' (x y : D) : wD (pEq x y) Q = wC (dat x = true /\ dat y = true /\ dep x <= 64 /\ dep y <= 64) (Q (.bl (eqb x y))) := by walk_at "z"; first | exact n6' .. | (apply n6' <;> assumption)
theorem uq' (i j : Int) : wD (pNe (.int i) (.int j)) Q = Q (.bl (!decide (i = j))) := by walk_at "z"; first | exact kw' .. | (apply kw' <;> assumption)
theorem up' (i j : Tx) : wD (pNe (.str i) (.str j)) Q = Q (.bl (!decide (i = j))) := by walk_at "z"; first | exact kv' .. | (apply kv' <;> assumption)
theorem vR' (x y : D) : wD (pNe x y) Q = wC (dat x = true /\ dat y = true /\ dep x <= 64 /\ dep y <= 64) (Q (.bl (!eqb x y))) := by walk_at "z"; first | exact nY' .. | (apply nY' <;> assumption)
theorem uC' (x : D) : wD (pIs x .non) Q = Q (.bl (cB' x)) := by walk_at "z"; first | exact kJ' .. | (apply kJ' <;> assumption)
theorem uD' (x y : Bool) : wD (pIs (.bl x) (.bl y)) Q = Q (.bl (x == y)) := by walk_at "z"; first | exact kK' .. | (apply kK' <;> assumption)
theorem nt' (x : D) : wD (er' x .non) Q = Q (.bl (!cB' x)) := by walk_at "z"; first | exact ef' .. | (apply ef' <;> assumption)
theorem nu' (x y : Bool) : wD (er' (.bl x) (.bl y)) Q = Q (.bl (!(x == y))) := by walk_at "z"; first | exact eg' .. | (apply eg' <;> assumption)
theorem vS' (i j : Int) : wD (pLt (.int i) (.int j)) Q = Q (.bl (decide (i < j))) := by walk_at "z"; first | exact nZ' .. | (apply nZ' <;> assumption)
theorem vT' (i j : Int) : wD (pLe (.int i) (.int j)) Q = Q (.bl (decide (i <= j))) := by walk_at "z"; first | exact n0' .. | (apply n0' <;> assumption)
theorem vU' (i j : Int) : wD (pGt (.int i) (.int j)) Q = Q (.bl (decide (j < i))) := by walk_at "z"; first | exact n1' .. | (apply n1' <;> assumption)
theorem vW' (i j : Int) : wD (pGe (.int i) (.int j)) Q = Q (.bl (decide (j <= i))) := by walk_at "z"; first | exact n3' .. | (apply n3' <;> assumption)
theorem uw' (i j : Tx) : wD (pLt (.str i) (.str j)) Q = Q (.bl (decide (i < j))) := by walk_at "z"; first | exact kB' .. | (apply kB' <;> assumption)
theorem ux' (i j : Tx) : wD (pLe (.str i) (.str j)) Q = Q (.bl (!decide (j < i))) := by walk_at "z"; first | exact kC' .. | (apply kC' <;> assumption)
theorem uG' (i j : Tx) : wD (pGt (.str i) (.str j)) Q = Q (.bl (decide (j < i))) := by walk_at "z"; first | exact kN' .. | (apply kN' <;> assumption)
theorem uI' (i j : Tx) : wD (pGe (.str i) (.str j)) Q = Q (.bl (!decide (i < j))) := by walk_at "z"; first | exact kP' .. | (apply kP' <;> assumption)
theorem uF' (c : Nat) (s : Tx) : wD (pIn (.str [c]) (.str s)) Q = Q (.bl (decide (c ∈ s))) := by walk_at "z"; first | exact kM' .. | (apply kM' <;> assumption)
theorem ss' (c : Nat) (s : Tx) : wD (ep' (.str [c]) (.str s)) Q = Q (.bl (!decide (c ∈ s))) := by walk_at "z"; first | exact io' .. | (apply io' <;> assumption)
theorem oA' (i : Int) (ns : List Int) : wD (pIn (.int i) (.tup (ns.map .int))) Q = Q (.bl (decide (i ∈ ns))) := by walk_at "z"; first | exact ix' .. | (apply ix' <;> assumption)
theorem oB' (i : Int) (ns : List Int) : wD (pIn (.int i) (.lst (ns.map .int))) Q = Q (.bl (decide (i ∈ ns))) := by walk_at "z"; first | exact iy' .. | (apply iy' <;> assumption)
theorem sC' (s : Tx) : wD (bN' (.str s)) Q = Q (.int s.length) := by walk_at "z"; first | exact it' .. | (apply it' <;> assumption)
theorem sE' (s : List D) : wD (bN' (.lst s)) Q = Q (.int s.length) := by walk_at "z"; first | exact iu' .. | (apply iu' <;> assumption)
theorem i9' (s : List D) : wD (bN' (.tup s)) Q = Q (.int s.length) := by walk_at "z"; first | exact is' .. | (apply is' <;> assumption)
theorem uz' (s : Tx) (i : Int) : wD (pIx (.str s) (.int i)) Q = wD (ati s i) (fun c => Q (.str [c])) := by walk_at "z"; first | exact kF' .. | (apply kF' <;> assumption)
theorem gF' (s : List D) (i : Int) : wD (pIx (.lst s) (.int i)) Q = wD (ati s i) Q := by walk_at "z"; first | exact kH' .. | (apply kH' <;> assumption)
theorem ns' (s : List D) (i : Int) : wD (pIx (.tup s) (.int i)) Q = wD (ati s i) Q := by walk_at "z"; first | exact kE' .. | (apply kE' <;> assumption)
theorem ug' (s : Tx) (lo hi : Option Int) : wD (pSl (.str s) lo hi) Q = Q (.str (cut s lo hi)) := by walk_at "z"; first | exact ko' .. | (apply ko' <;> assumption)
theorem ui' (s : List D) (lo hi : Option Int) : wD (pSl (.lst s) lo hi) Q = Q (.lst (cut s lo hi)) := by walk_at "z"; first | exact kq' .. | (apply kq' <;> assumption)
theorem uf' (s : List D) (lo hi : Option Int) : wD (pSl (.tup s) lo hi) Q = Q (.tup (cut s lo hi)) := by walk_at "z"; first | exact kn' .. | (apply kn' <;> assumption)
theorem uh' (s : List D) (lo hi : Option Int) : wD (pSl (.scr s) lo hi) Q = Q (.lst (cut s lo hi)) := by walk_at "z"; first | exact kp' .. | (apply kp' <;> assumption)
theorem so' (s : Tx) : wD (th' (.str s)) Q = Q (.str s.reverse) := by walk_at "z"; first | exact im' .. | (apply im' <;> assumption)
theorem sp' (s : List D) : wD (th' (.lst s)) Q = Q (.lst s.reverse) := by walk_at "z"; first | exact in' .. | (apply in' <;> assumption)
theorem sG' (l : List Tx) : wD (dF' [] [.lst (l.map .str)]) Q = jQ' (l.map List.length).sum (Q (.str l.flatten)) := by walk_at "z"; first | exact eL' .. | (apply eL' <;> assumption)
theorem p9' (l : Tx) : wD (dF' [] [.lst (l.map chD)]) Q = jQ' l.length (Q (.str l)) := by walk_at "z"; first | exact fL' .. | (apply fL' <;> assumption)
theorem sL' (a b : Tx) : wD (jx' a [.str b]) Q = Q (.int (fnd (gR' a b))) := by walk_at "z"; first | exact iz' .. | (apply iz' <;> assumption)
theorem qd' (a b : Tx) : wD (eu' a [.str b]) Q = wD (gR' a b) (fun i => Q (.int (i : Nat))) := by walk_at "z"; first | exact fM' .. | (apply fM' <;> assumption)
theorem pT' (s : Tx) : wD (ol' (.str s)) Q = wC (s.all (fun c => decide (c < 128)) = true /\ s.length <= 5592405) (Q (.str (s.map up1))) := by walk_at "z"; first | exact fD' .. | (apply fD' <;> assumption)
theorem uE' (i : Int) : wD (jp' (.int i)) Q = Q (.int i) := by walk_at "z"; first | exact kL' .. | (apply kL' <;> assumption)
theorem sJ' (b : Bool) : wD (jp' (.bl b)) Q = Q (.int (if b then 1 else 0)) := by walk_at "z"; first | exact iw' .. | (apply iw' <;> assumption)
theorem uX' (i : Int) : wD (ti' (.int i)) Q = Q (.int (if i < 0 then -i else i)) := by walk_at "z"; first | exact kZ' .. | (apply kZ' <;> assumption)
theorem uv' (i j : Int) : wD (lv' (.int i) (.int j)) Q = Q (.int (max i j)) := by walk_at "z"; first | exact kA' .. | (apply kA' <;> assumption)
theorem uu' (i j : Int) : wD (rz' (.int i) (.int j)) Q = Q (.int (min i j)) := by walk_at "z"; first | exact kz' .. | (apply kz' <;> assumption)
theorem sk' (s : List D) : wD (ck' (.lst s)) Q = Q (.tup s) := by walk_at "z"; first | exact ih' .. | (apply ih' <;> assumption)
theorem si' (s : List D) : wD (ck' (.tup s)) Q = Q (.tup s) := by walk_at "z"; first | exact ig' .. | (apply ig' <;> assumption)
theorem p4' (s : List D) : wD (cx' (.lst s)) Q = Q (.lst s) := by walk_at "z"; first | exact fI' .. | (apply fI' <;> assumption)
theorem p0' (s : List D) : wD (cx' (.tup s)) Q = Q (.lst s) := by walk_at "z"; first | exact fH' .. | (apply fH' <;> assumption)
theorem pW' (s : Tx) : wD (lt' (.str s)) Q = wC (s.length < 64) (Q (.lst ((mM' s).map chD))) := by walk_at "z"; first | exact fE' .. | (apply fE' <;> assumption)
theorem aT' (t : String) (d : D) : wD (bp' t d) Q = wD (tyn d) (fun n => Q (.bl (n == t || (n == "bool" && t == "int")))) := by walk_at "z"; first | exact kI' .. | (apply kI' <;> assumption)
theorem ub' (l : List Int) : wD (qr' (.lst (l.map .int))) Q = Q (.int l.sum) := by walk_at "z"; first | exact kl' .. | (apply kl' <;> assumption)
theorem uW' (l : List Bool) : wD (qs' (.lst (l.map .bl))) Q = Q (.bl (l.all id)) := by walk_at "z"; first | exact kY' .. | (apply kY' <;> assumption)
theorem uV' (l : List Bool) : wD (vf' (.lst (l.map .bl))) Q = Q (.bl (l.any id)) := by walk_at "z"; first | exact kX' .. | (apply kX' <;> assumption)
theorem sn' (s : List D) : wD (cm' (.lst s)) Y = Y s := by walk_at "z"; first | exact il' .. | (apply il' <;> assumption)
theorem i8' (s : List D) : wD (cm' (.tup s)) Y = Y s := by walk_at "z"; first | exact ij' .. | (apply ij' <;> assumption)
theorem sm' (s : Tx) : wD (cm' (.str s)) Y = Y (s.map chD) := by walk_at "z"; first | exact ik' .. | (apply ik' <;> assumption)
theorem um' (j : Int) : wD (cQ' (.int j)) Y = wC (-4611686018427387904 <= j /\ j < 4611686018427387904) (Y (rgI 0 j.toNat)) := by walk_at "z"; first | exact ks' .. | (apply ks' <;> assumption)
theorem ul' (i j : Int) : wD (cP' (.int i) (.int j)) Y = wC ((-4611686018427387904 <= i /\ i < 4611686018427387904) /\ (-4611686018427387904 <= j /\ j < 4611686018427387904)) (Y (rgI i (j - i).toNat)) := by walk_at "z"; first | exact kr' .. | (apply kr' <;> assumption)
theorem sd' (a b : Tx) : wD (ml' (.str a) (.str b)) Y = Y (ce' (a.map chD) (b.map chD)) := by walk_at "z"; first | exact ic' .. | (apply ic' <;> assumption)
theorem sg' (a b : List D) : wD (ml' (.lst a) (.lst b)) Y = Y (ce' a b) := by walk_at "z"; first | exact if' .. | (apply if' <;> assumption)
theorem sc' (a b : List D) : wD (ml' (.tup a) (.tup b)) Y = Y (ce' a b) := by walk_at "z"; first | exact ib' .. | (apply ib' <;> assumption)
theorem sf' (a : Tx) (b : List D) : wD (u8' (.str a) (.tup b)) Y = Y (ce' (a.map chD) b) := by walk_at "z"; first | exact id' .. | (apply id' <;> assumption)
theorem uQ' (a : Tx) : wD (enB (.str a)) Y = Y (cD' 0 (a.map chD)) := by walk_at "z"; first | exact kT' .. | (apply kT' <;> assumption)
theorem uR' (a : List D) : wD (enB (.lst a)) Y = Y (cD' 0 a) := by walk_at "z"; first | exact kU' .. | (apply kU' <;> assumption)
theorem pY' (a : List D) : wD (td' (.lst a)) Y = Y a.reverse := by walk_at "z"; first | exact fG' .. | (apply fG' <;> assumption)
theorem pX' (a : List D) : wD (td' (.tup a)) Y = Y a.reverse := by walk_at "z"; first | exact fF' .. | (apply fF' <;> assumption)
theorem sz' (j : Int) : wD (iQ' (.int j)) Q = wC (RgB 0 j = true) (Q (.lst (lT' 0 j))) := by walk_at "z"; first | exact ir' .. | (apply ir' <;> assumption)
theorem uL' (i : Nat) (d : D) (env : List (Option O)) (w : W) {N : PSt -> Prop} : wD (gN i d ⟨env, w⟩) N = oI' i env.length (N ⟨env.set i (some (.fz d)), w⟩) := by walk_at "z"; first | exact n5' .. | (apply n5' <;> assumption)
theorem vX' (is : List Nat) (ds : List D) (ρ : PSt) {N : PSt -> Prop} : wD (gT is (.tup ds) ρ) N = wD (gNs is ds ρ) N := by walk_at "z"; first | exact n4' .. | (apply n4' <;> assumption)
theorem uH' (ρ : PSt) {N : PSt -> Prop} : wD (gNs [] [] ρ) N = N ρ := by walk_at "z"; first | exact kO' .. | (apply kO' <;> assumption)
theorem vV' (i : Nat) (is : List Nat) (d : D) (ds : List D) (ρ : PSt) {N : PSt -> Prop} : wD (gNs (i :: is) (d :: ds) ρ) N = wD (gN i d ρ) (fun ρ1 => wD (gNs is ds ρ1) N) := by walk_at "z"; first | exact n2' .. | (apply n2' <;> assumption)
theorem uy' (w : W) (n : Nat) (k : D) : wD (ixW w (.obj n) k) Q = wOb w[n]? (fun os => wD (ixO (.lst os) k) Q) := by walk_at "z"; first | exact kD' .. | (apply kD' <;> assumption)
theorem uA' (os : List O) (i : Int) : wD (ixO (.lst os) (.int i)) Q = wD (ati os i) (fun o => wD (asF o) Q) := by walk_at "z"; first | exact kG' .. | (apply kG' <;> assumption)
theorem uU' (d : D) : wD (asF (.fz d)) Q = Q d := by walk_at "z"; first | exact kW' .. | (apply kW' <;> assumption)
theorem uT' (d : List D) {Q : List D -> Prop} : wD (asL (.lst d)) Q = Q d := by walk_at "z"; first | exact kV' .. | (apply kV' <;> assumption)
theorem sH' (d k : D) : wD (ixO (.fz d) k) Q = wD (pIx d k) Q := by walk_at "z"; first | exact iv' .. | (apply iv' <;> assumption)
theorem sl' (w : W) (n : Nat) (z : Int) (d : D) {N : W -> Prop} : wD (mK' w (.obj n) (.int z) d) N = wOb w[n]? (fun os => wD (ixn os.length z) (fun j => N (w.set n (.lst (os.set j (.fz d)))))) := by walk_at "z"; first | exact ii' .. | (apply ii' <;> assumption)
theorem p6' (os : List O) : wD (pt' (.lst os)) Q = Q (.int os.length) := by walk_at "z"; first | exact fJ' .. | (apply fJ' <;> assumption)
theorem p7' (d : D) : wD (pt' (.fz d)) Q = wD (bN' d) Q := by walk_at "z"; first | exact fK' .. | (apply fK' <;> assumption)
end
theorem hq'  {Q : D -> Prop} : wD (bp' "int" .non) Q = Q (.bl false) := by rw [aT', aq']; rfl
theorem jG' (a : Bool) {Q : D -> Prop} : wD (bp' "int" (.bl a)) Q = Q (.bl true) := by rw [aT', aq']; rfl
theorem hs' (a : Int) {Q : D -> Prop} : wD (bp' "int" (.int a)) Q = Q (.bl true) := by rw [aT', aq']; rfl
theorem hp' (a : Tx) {Q : D -> Prop} : wD (bp' "int" (.str a)) Q = Q (.bl false) := by rw [aT', aq']; rfl
theorem ho' (a : List D) {Q : D -> Prop} : wD (bp' "int" (.tup a)) Q = Q (.bl false) := by rw [aT', aq']; rfl
theorem hr' (a : List D) {Q : D -> Prop} : wD (bp' "int" (.lst a)) Q = Q (.bl false) := by rw [aT', aq']; rfl
theorem ht' (a b : List D) {Q : D -> Prop} : wD (bp' "int" (.dct a b)) Q = Q (.bl false) := by rw [aT', aq']; rfl
theorem gB'  {Q : D -> Prop} : wD (bp' "bool" .non) Q = Q (.bl false) := by rw [aT', aq']; rfl
theorem hv' (a : Bool) {Q : D -> Prop} : wD (bp' "bool" (.bl a)) Q = Q (.bl true) := by rw [aT', aq']; rfl
theorem gD' (a : Int) {Q : D -> Prop} : wD (bp' "bool" (.int a)) Q = Q (.bl false) := by rw [aT', aq']; rfl
theorem gA' (a : Tx) {Q : D -> Prop} : wD (bp' "bool" (.str a)) Q = Q (.bl false) := by rw [aT', aq']; rfl
theorem gz' (a : List D) {Q : D -> Prop} : wD (bp' "bool" (.tup a)) Q = Q (.bl false) := by rw [aT', aq']; rfl
theorem gC' (a : List D) {Q : D -> Prop} : wD (bp' "bool" (.lst a)) Q = Q (.bl false) := by rw [aT', aq']; rfl
theorem gE' (a b : List D) {Q : D -> Prop} : wD (bp' "bool" (.dct a b)) Q = Q (.bl false) := by rw [aT', aq']; rfl
theorem hj'  {Q : D -> Prop} : wD (bp' "str" .non) Q = Q (.bl false) := by rw [aT', aq']; rfl
theorem jF' (a : Bool) {Q : D -> Prop} : wD (bp' "str" (.bl a)) Q = Q (.bl false) := by rw [aT', aq']; rfl
theorem hl' (a : Int) {Q : D -> Prop} : wD (bp' "str" (.int a)) Q = Q (.bl false) := by rw [aT', aq']; rfl
theorem hi' (a : Tx) {Q : D -> Prop} : wD (bp' "str" (.str a)) Q = Q (.bl true) := by rw [aT', aq']; rfl
theorem hh' (a : List D) {Q : D -> Prop} : wD (bp' "str" (.tup a)) Q = Q (.bl false) := by rw [aT', aq']; rfl
theorem hk' (a : List D) {Q : D -> Prop} : wD (bp' "str" (.lst a)) Q = Q (.bl false) := by rw [aT', aq']; rfl
theorem hm' (a b : List D) {Q : D -> Prop} : wD (bp' "str" (.dct a b)) Q = Q (.bl false) := by rw [aT', aq']; rfl
theorem fa'  {Q : D -> Prop} : wD (bp' "tuple" .non) Q = Q (.bl false) := by rw [aT', aq']; rfl
theorem gm' (a : Bool) {Q : D -> Prop} : wD (bp' "tuple" (.bl a)) Q = Q (.bl false) := by rw [aT', aq']; rfl
theorem fc' (a : Int) {Q : D -> Prop} : wD (bp' "tuple" (.int a)) Q = Q (.bl false) := by rw [aT', aq']; rfl
theorem e9' (a : Tx) {Q : D -> Prop} : wD (bp' "tuple" (.str a)) Q = Q (.bl false) := by rw [aT', aq']; rfl
theorem e8' (a : List D) {Q : D -> Prop} : wD (bp' "tuple" (.tup a)) Q = Q (.bl true) := by rw [aT', aq']; rfl
theorem fb' (a : List D) {Q : D -> Prop} : wD (bp' "tuple" (.lst a)) Q = Q (.bl false) := by rw [aT', aq']; rfl
theorem fd' (a b : List D) {Q : D -> Prop} : wD (bp' "tuple" (.dct a b)) Q = Q (.bl false) := by rw [aT', aq']; rfl
theorem gp'  {Q : D -> Prop} : wD (bp' "list" .non) Q = Q (.bl false) := by rw [aT', aq']; rfl
theorem hn' (a : Bool) {Q : D -> Prop} : wD (bp' "list" (.bl a)) Q = Q (.bl false) := by rw [aT', aq']; rfl
theorem gr' (a : Int) {Q : D -> Prop} : wD (bp' "list" (.int a)) Q = Q (.bl false) := by rw [aT', aq']; rfl
theorem go' (a : Tx) {Q : D -> Prop} : wD (bp' "list" (.str a)) Q = Q (.bl false) := by rw [aT', aq']; rfl
theorem gn' (a : List D) {Q : D -> Prop} : wD (bp' "list" (.tup a)) Q = Q (.bl false) := by rw [aT', aq']; rfl
theorem gq' (a : List D) {Q : D -> Prop} : wD (bp' "list" (.lst a)) Q = Q (.bl true) := by rw [aT', aq']; rfl
theorem gs' (a b : List D) {Q : D -> Prop} : wD (bp' "list" (.dct a b)) Q = Q (.bl false) := by rw [aT', aq']; rfl
theorem gv'  {Q : D -> Prop} : wD (bp' "dict" .non) Q = Q (.bl false) := by rw [aT', aq']; rfl
theorem hu' (a : Bool) {Q : D -> Prop} : wD (bp' "dict" (.bl a)) Q = Q (.bl false) := by rw [aT', aq']; rfl
theorem gx' (a : Int) {Q : D -> Prop} : wD (bp' "dict" (.int a)) Q = Q (.bl false) := by rw [aT', aq']; rfl
theorem gu' (a : Tx) {Q : D -> Prop} : wD (bp' "dict" (.str a)) Q = Q (.bl false) := by rw [aT', aq']; rfl
theorem gt' (a : List D) {Q : D -> Prop} : wD (bp' "dict" (.tup a)) Q = Q (.bl false) := by rw [aT', aq']; rfl
theorem gw' (a : List D) {Q : D -> Prop} : wD (bp' "dict" (.lst a)) Q = Q (.bl false) := by rw [aT', aq']; rfl
theorem gy' (a b : List D) {Q : D -> Prop} : wD (bp' "dict" (.dct a b)) Q = Q (.bl true) := by rw [aT', aq']; rfl
theorem ja' (l : List Int) (v : Int) {Q : D -> Prop} : wD (lF' (l.map .int) [.int v]) Q = wC (v ∈ l) (Q (.int (l.idxOf v : Nat))) := by
  show wD ((bP' (l.map .int)).bind fun ns => if v ∈ ns then some (D.int ((ns.idxOf v : Nat) : Int)) else none) Q = _
  rw [lS', Option.bind_some, ee']
theorem qN' {p : Prop} [Decidable p] (h : p) (A B : Prop) : wI (decide p) A B = A := by rw [decide_eq_true h]; exact mA' A B
theorem tE' {p : Prop} [Decidable p] (h : ¬ p) (A B : Prop) : wI (decide p) A B = B := by rw [decide_eq_false h]; exact qP' A B
theorem v0' {b : Bool} (h : b = true) : O.fz (.bl true) = O.fz (.bl b) := by rw [h]
theorem v1' {b : Bool} (h : b = false) : O.fz (.bl false) = O.fz (.bl b) := by rw [h]
theorem ql' {α β : Type} (f : α -> β) (l : List α) (i : Int) : ati (l.map f) i = (ati l i).map f := by
  unfold ati
  rw [List.length_map]
  cases ixn l.length i with
  | none => rfl
  | some j => simp
theorem aO' {α : Type} {xs : List α} {i : Nat} {Q : α -> Prop} (h : i < xs.length) (k : ∀ x, x ∈ xs -> xs[i]? = some x -> Q x) : wD xs[i]? Q := by
  rw [List.getElem?_eq_getElem h, an']
  exact k _ (List.getElem_mem h) (List.getElem?_eq_getElem h)
theorem ga' {α : Type} {l : List α} {i : Nat} {x : α} (h : l[i]? = some x) : i < l.length := (List.getElem?_eq_some_iff.mp h).1
theorem bI' {n : Nat} {A : Prop} (h : n <= 16777216) (a : A) : jQ' n A := by rw [dq']; exact ⟨h, a⟩
def But (n : Nat) (w w' : W) : Prop := w'.length = w.length /\ ∀ j, j ≠ n -> w'[j]? = w[j]?
theorem But.refl {n : Nat} {w : W} : But n w w := ⟨rfl, fun _ _ => rfl⟩
theorem But.trans {n : Nat} {w w1 w2 : W} (a : But n w w1) (b : But n w1 w2) : But n w w2 := ⟨b.1.trans a.1, fun j h => (b.2 j h).trans (a.2 j h)⟩
theorem But.set {n : Nat} {w w1 : W} {o : Ob} (a : But n w w1) : But n w (w1.set n o) := ⟨by rw [List.length_set]; exact a.1, fun j h => by rw [List.getElem?_set_ne (Ne.symm h)]; exact a.2 j h⟩
theorem tn1 (d : Nat) : ((d : Int) + 1).toNat = d + 1 := rfl
theorem s0' (l : List D) (d : D) : l.map O.fz ++ [O.fz d] = (l ++ [d]).map O.fz := by simp
theorem pP' (l : List D) : frz (.lst (l.map .fz)) = .lst l := by simp [frz]
theorem cM' {k : Bool} {A B : Prop} (h1 : k = true -> A) (h2 : k = false -> B) : wI k A B := by
  cases k
  . rw [qP']; exact h2 rfl
  . rw [mA']; exact h1 rfl
theorem hH' {k : Bool} {a b : Out} {N bk ct : PSt -> Prop} {rt : O -> W -> Prop} {ex : Exc -> PSt -> Prop} (J : PSt -> Prop) (h : wI k (wS a ⟨J, rt, bk, ct, ex⟩) (wS b ⟨J, rt, bk, ct, ex⟩)) (hk : ∀ ρ, J ρ -> N ρ) : wI k (wS a ⟨N, rt, bk, ct, ex⟩) (wS b ⟨N, rt, bk, ct, ex⟩) := by
  cases k
  . rw [qP'] at *
    exact wS.mono h hk (fun _ _ h => h) (fun _ h => h) (fun _ h => h) (fun _ _ h => h)
  . rw [mA'] at *
    exact wS.mono h hk (fun _ _ h => h) (fun _ h => h) (fun _ h => h) (fun _ _ h => h)
def cl' (w : W) (n : Nat) : Prop := ∃ (cells : List Int) (i b s c : Int), w[n]? = some (.lst [.fz (.lst (cells.map .int)), .fz (.int i), .fz (.int b), .fz (.int s), .fz (.int c)]) /\ 0 <= i
theorem qG' (A : Prop) : vX (some (some .exn)) A = A := rfl
end M
namespace M
mutual
theorem e4' : ∀ (d : D), dat d = true -> eqb d d = true
  | .non, _ => rfl
  | .bl b, _ => by simp [eqb]
  | .int i, _ => by simp [eqb]
  | .str s, _ => by simp [eqb]
  | .tup ds, h => by simp only [eqb]; exact eqbs_refl ds (by simpa [dat] using h)
  | .lst ds, h => by simp only [eqb]; exact eqbs_refl ds (by simpa [dat] using h)
theorem eqbs_refl : ∀ (ds : List D), dats ds = true -> eqbs ds ds = true
  | [], _ => rfl
  | d :: r, h => by
    simp only [dats, Bool.and_eq_true] at h
    simp only [eqbs, e4' d h.1, eqbs_refl r h.2, Bool.and_self]
end
theorem dn' (x : D) (h : dat x = true) (h2 : dep x <= 64) {Q : D -> Prop} : wD (pNe x x) Q = Q (.bl false) := by
  rw [vR', oN' ⟨h, h, h2, h2⟩, e4' x h]; rfl
theorem nw' (x : D) (h : dat x = true) (h2 : dep x <= 64) {Q : D -> Prop} : wD (pEq x x) Q = Q (.bl true) := by
  rw [vZ', oN' ⟨h, h, h2, h2⟩, e4' x h]
def lg' (r : List Nat) : D := .tup (r.map fun t => .int (t : Nat))
def mG' (T : List (List Nat)) : D := .tup (T.map lg')
def me' (A : List Nat) : D := .tup (A.map fun a => .int (a : Nat))
def fi' (T : List (List Nat)) (size many : Nat) : Prop := T.length = size /\ ∀ r ∈ T, r.length = many /\ ∀ t ∈ r, t < size
abbrev abc : Tx := [97, 98, 99, 100, 101, 102, 103, 104, 105, 106, 107, 108, 109, 110, 111, 112, 113, 114, 115, 116, 117, 118, 119, 120, 121, 122]
structure LetOk (L : Tx) (most : Nat) : Prop where
  ne : 1 <= L.length
  le : L.length <= most
  asc : L.Pairwise (· < ·)
  abc : ∀ c ∈ L, 97 <= c /\ c <= 122
structure AccOk (A : List Nat) (size : Nat) : Prop where
  asc : A.Pairwise (· < ·)
  lt : ∀ a ∈ A, a < size
structure MacOk (L : Tx) (T : List (List Nat)) (A : List Nat) (most states : Nat) : Prop where
  let' : LetOk L most
  tab : fi' T T.length L.length
  ne : 1 <= T.length
  le : T.length <= states
  acc : AccOk A T.length
theorem qa' (T : List (List Nat)) (s : Nat) {Q : D -> Prop} : wD (pIx (mG' T) (.int (s : Nat))) Q = wD T[s]? (fun r => Q (lg' r)) := by
  unfold mG'
  rw [ns', b4' (by omega), List.getElem?_map, ed', Int.toNat_natCast]
theorem qb' (r : List Nat) (s : Nat) {Q : D -> Prop} : wD (pIx (lg' r) (.int (s : Nat))) Q = wD r[s]? (fun t => Q (.int (t : Nat))) := by
  unfold lg'
  rw [ns', b4' (by omega), List.getElem?_map, ed', Int.toNat_natCast]
theorem l2' (A : List Nat) (s : Nat) {Q : D -> Prop} : wD (pIn (.int (s : Nat)) (me' A)) Q = Q (.bl (decide (s ∈ A))) := by
  unfold me'
  have := oA' (Q := Q) (s : Int) (A.map (Nat.cast : Nat -> Int))
  rw [List.map_map] at this
  rw [show (A.map fun a => D.int (a : Nat)) = A.map (D.int ∘ (Nat.cast : Nat -> Int)) from rfl, this]
  congr 2
  simp only [List.mem_map, decide_eq_decide]
  constructor
  . rintro ⟨a, h, e⟩
    have : a = s := by omega
    exact this ▸ h
  . exact fun h => ⟨s, h, rfl⟩
theorem np' (T : List (List Nat)) {Q : D -> Prop} : wD (bN' (mG' T)) Q = Q (.int T.length) := by
  unfold mG'
  rw [i9', List.length_map]
theorem nq' (T : List Nat) {Q : D -> Prop} : wD (bN' (lg' T)) Q = Q (.int T.length) := by
  unfold lg'
  rw [i9', List.length_map]
theorem nr' (T : List Nat) {Q : D -> Prop} : wD (bN' (me' T)) Q = Q (.int T.length) := by
  unfold me'
  rw [i9', List.length_map]
theorem i0' (v : Nat) : ∀ l : List Nat, (l.map (Nat.cast : Nat -> Int)).idxOf (v : Int) = l.idxOf v
  | [] => rfl
  | a :: l => by
    simp only [List.map_cons, List.idxOf_cons, i0' v l]
    have : ((a : Int) == (v : Int)) = (a == v) := by rw [Bool.eq_iff_iff]; simp; omega
    rw [this]
theorem nv' (l : List Nat) (v : Nat) {Q : D -> Prop} : wD (lF' (l.map fun s => .int (s : Nat)) [.int (v : Nat)]) Q = wC (v ∈ l) (Q (.int (l.idxOf v : Nat))) := by
  have h := ja' (Q := Q) (l.map (Nat.cast : Nat -> Int)) (v : Int)
  rw [List.map_map, i0'] at h
  rw [show (l.map fun s => D.int (s : Nat)) = l.map (D.int ∘ (Nat.cast : Nat -> Int)) from rfl, h]
  congr 1
  simp only [List.mem_map]
  rw [eq_iff_iff]
  constructor
  . rintro ⟨a, h, e⟩
    have : a = v := by omega
    exact this ▸ h
  . exact fun h => ⟨v, h, rfl⟩
theorem nj' (i : Nat) : fnd (some i) = (i : Int) := rfl
def stp (L : Tx) (T : List (List Nat)) (s c : Nat) : Nat := (((T[s]?).getD [])[L.idxOf c]?).getD 0
def run (L : Tx) (T : List (List Nat)) (s : Nat) (x : Tx) : Nat := x.foldl (stp L T) s
theorem q5' {L : Tx} {T : List (List Nat)} (h : fi' T T.length L.length) {s c : Nat} (hs : s < T.length) (hc : c ∈ L) : ∃ r, T[s]? = some r /\ r[L.idxOf c]? = some (stp L T s c) /\ stp L T s c < T.length := by
  have hr := h.2 T[s] (List.getElem_mem hs)
  have hi : L.idxOf c < T[s].length := by rw [hr.1]; exact List.idxOf_lt_length_iff.mpr hc
  have e : stp L T s c = T[s][L.idxOf c] := by
    unfold stp
    rw [List.getElem?_eq_getElem hs, Option.getD_some, List.getElem?_eq_getElem hi, Option.getD_some]
  exact ⟨T[s], List.getElem?_eq_getElem hs, by rw [e, List.getElem?_eq_getElem hi], by rw [e]; exact hr.2 _ (List.getElem_mem hi)⟩
theorem o8' {L T s} : run L T s [] = s := rfl
theorem mT' {L T s c x} : run L T s (c :: x) = run L T (stp L T s c) x := rfl
def vi' (L : Tx) (T : List (List Nat)) (A : List Nat) : Ob := .ins "Machine" [("kept_letters", .fz (.str L)), ("kept_table", .fz (mG' T)), ("kept_accepts", .fz (me' A)), ("kept_least", .fz .non), ("kept_field", .fz .non), ("kept_lots", .dct [] []), ("kept_more", .dct [] [])]
structure Mac (w : W) (m : Nat) (L : Tx) (T : List (List Nat)) (A : List Nat) : Prop where
  fl : ∀ cs, "Machine" ∈ cs -> tm' cs "kept_letters" w (.obj m) = some (.str L)
  ft : ∀ cs, "Machine" ∈ cs -> tm' cs "kept_table" w (.obj m) = some (mG' T)
  fa : ∀ cs, "Machine" ∈ cs -> tm' cs "kept_accepts" w (.obj m) = some (me' A)
theorem Mac.new {w : W} {m : Nat} {L T A} (h : w[m]? = some (vi' L T A)) : Mac w m L T A := by
  refine ⟨fun cs hc => ?_, fun cs hc => ?_, fun cs hc => ?_⟩
  all_goals simp [tm', h, vi', hc, List.lookup]
end M
namespace M
theorem wD.mono {α : Type} {o : Option α} {Q Q' : α -> Prop} (h : wD o Q) (k : ∀ a, Q a -> Q' a) : wD o Q' := by
  rw [aq'] at *
  cases o with
  | none => exact h
  | some a => exact k a h
theorem or' {own : List Nat} {g : MG} {t : MT} {e : ME} {γ : Type} {f : γ -> D} {cs : List γ} {Q : List D -> PSt -> Prop} {X : Exc -> PSt -> Prop} {env : List (Option O)} {w : W} (p : γ -> Bool) (v : γ -> D) (hl : cs.length <= 16777216)
    (step : ∀ c ∈ cs, wD (g (f c) ⟨aA' own env, w⟩) fun ρ1 => wE (t ρ1) (fun k ρ2 => k = p c /\ ρ2.w = w /\ aA' own ρ2.env = aA' own env /\ (p c = true -> wE (e ρ2) (fun y ρ3 => y = v c /\ ρ3.w = w /\ aA' own ρ3.env = aA' own env) PX)) PX)
    (hend : ∀ env2, aA' own env2 = aA' own env -> Q ((cs.filter p).map v) ⟨env2, w⟩) : wE (lcL own g t e (cs.map f) [] ⟨env, w⟩) Q X := by
  refine ev' hl (fun pre acc ρ => acc = (pre.filter p).map v /\ ρ.w = w /\ aA' own ρ.env = aA' own env) ⟨rfl, rfl, rfl⟩ ?_ ?_
  . rintro pre c post acc ρ ec ⟨rfl, hw, he⟩
    have s := step c (by rw [ec]; simp)
    rw [he, hw]
    refine s.mono fun ρ1 s => ?_
    refine s.mono ?_ (fun _ _ z => z)
    rintro k ρ2 ⟨rfl, h1, h2, h3⟩
    cases hp : p c with
    | false =>
      rw [qP']
      exact ⟨by simp [hp], h1, h2⟩
    | true =>
      rw [mA']
      refine (h3 hp).mono ?_ (fun _ _ z => z)
      rintro y ρ3 ⟨rfl, h4, h5⟩
      exact ⟨by simp [hp], h4, h5⟩
  . rintro acc ⟨env2, w2⟩ ⟨rfl, hw, he⟩
    simp only at hw he
    subst hw
    exact hend env2 he
theorem dG' {own : List Nat} {g : MG} {t : MT} {e : ME} {γ : Type} {f : γ -> D} {cs : List γ} {Q : List D -> PSt -> Prop} {X : Exc -> PSt -> Prop} {env : List (Option O)} {w : W} (v : γ -> D) (hl : cs.length <= 16777216)
    (step : ∀ c ∈ cs, wD (g (f c) ⟨aA' own env, w⟩) fun ρ1 => wE (t ρ1) (fun k ρ2 => k = true /\ wE (e ρ2) (fun y ρ3 => y = v c /\ ρ3.w = w /\ aA' own ρ3.env = aA' own env) PX) PX)
    (hend : ∀ env2, aA' own env2 = aA' own env -> Q (cs.map v) ⟨env2, w⟩) : wE (lcL own g t e (cs.map f) [] ⟨env, w⟩) Q X := by
  refine ev' hl (fun pre acc ρ => acc = pre.map v /\ ρ.w = w /\ aA' own ρ.env = aA' own env) ⟨rfl, rfl, rfl⟩ ?_ ?_
  . rintro pre c post acc ρ ec ⟨rfl, hw, he⟩
    have s := step c (by rw [ec]; simp)
    rw [he, hw]
    refine s.mono fun ρ1 s => ?_
    refine s.mono ?_ (fun _ _ z => z)
    rintro k ρ2 ⟨rfl, h3⟩
    rw [mA']
    refine h3.mono ?_ (fun _ _ z => z)
    rintro y ρ3 ⟨rfl, h4, h5⟩
    exact ⟨by simp, h4, h5⟩
  . rintro acc ⟨env2, w2⟩ ⟨rfl, hw, he⟩
    simp only at hw he
    subst hw
    exact hend env2 he
theorem pw' {own : List Nat} {g : MG} {t : MT} {e : ME} {lo : Int} {n : Nat} {Q : List D -> PSt -> Prop} {X : Exc -> PSt -> Prop} {env : List (Option O)} {w : W} (p : Nat -> Bool) (v : Nat -> D) (hl : n <= 16777216)
    (step : ∀ c < n, wD (g (.int (lo + (c : Nat))) ⟨aA' own env, w⟩) fun ρ1 => wE (t ρ1) (fun k ρ2 => k = p c /\ ρ2.w = w /\ aA' own ρ2.env = aA' own env /\ (p c = true -> wE (e ρ2) (fun y ρ3 => y = v c /\ ρ3.w = w /\ aA' own ρ3.env = aA' own env) PX)) PX)
    (hend : ∀ env2, aA' own env2 = aA' own env -> Q (((List.range n).filter p).map v) ⟨env2, w⟩) : wE (lcL own g t e (rgI lo n) [] ⟨env, w⟩) Q X :=
  or' (f := fun i : Nat => D.int (lo + (i : Nat))) p v (by simpa using hl) (fun c hc => step c (List.mem_range.mp hc)) hend
theorem pv' {own : List Nat} {g : MG} {t : MT} {e : ME} {lo : Int} {n : Nat} {Q : List D -> PSt -> Prop} {X : Exc -> PSt -> Prop} {env : List (Option O)} {w : W} (v : Nat -> D) (hl : n <= 16777216)
    (step : ∀ c < n, wD (g (.int (lo + (c : Nat))) ⟨aA' own env, w⟩) fun ρ1 => wE (t ρ1) (fun k ρ2 => k = true /\ wE (e ρ2) (fun y ρ3 => y = v c /\ ρ3.w = w /\ aA' own ρ3.env = aA' own env) PX) PX)
    (hend : ∀ env2, aA' own env2 = aA' own env -> Q ((List.range n).map v) ⟨env2, w⟩) : wE (lcL own g t e (rgI lo n) [] ⟨env, w⟩) Q X :=
  dG' (f := fun i : Nat => D.int (lo + (i : Nat))) v (by simpa using hl) (fun c hc => step c (List.mem_range.mp hc)) hend
end M
namespace M
def t8' : O -> Prop
  | .dct _ _ => True
  | _ => False
section
variable {ρ : PSt} {P : D -> PSt -> Prop} {R : O -> PSt -> Prop} {X : Exc -> PSt -> Prop} {Y : List D -> PSt -> Prop}
theorem jl' (x : Bool) (k a : ME) : vE (dE' x k a ρ) R X = vE (k ρ) (fun y ρ1 => vE (a ρ1) (fun d ρ2 => vD (cZ' x y d) fun o => R o ρ2) X) X := by simp only [dE', ai', a4']
variable {N : PSt -> Prop} {rt : O -> W -> Prop} {bk ct : PSt -> Prop} {ex : Exc -> PSt -> Prop}
theorem mu' (x : Bool) (k a : ME) : wE (dE' x k a ρ) R X = wE (k ρ) (fun y ρ1 => wE (a ρ1) (fun d ρ2 => wD (cZ' x y d) fun o => R o ρ2) X) X := by simp only [jk', jh', jj', aq', mB', mC', mw', my', jg', ji', mx', mz', dq', dp', gT', ec', cL']; exact jl' ..
theorem pS' (a : Tx) (b : List D) {Y : List D -> Prop} : wD (vp' (.str a) (.lst b)) Y = Y (ce' (a.map chD) b) := by rw [aq']; rfl
end
theorem e7' {γ δ α : Type} [DecidableEq γ] (e : γ -> D) (he : ∀ a b, eqb (e a) (e b) = decide (a = b)) (v : δ -> α) (k : γ) : ∀ l : List (γ × δ), dget (l.map fun p => e p.1) (l.map fun p => v p.2) (e k) = (l.lookup k).map v
  | [] => rfl
  | (a, b) :: l => by
    have ih := e7' e he v k l
    unfold dget qu' at *
    rw [List.map_cons, List.map_cons, List.findIdx?_cons, he, List.lookup_cons]
    by_cases h : a = k
    . subst h; simp
    . have h2 : (k == a) = false := by simp; exact fun e => h e.symm
      rw [decide_eq_false h, h2]
      simp only [Bool.false_eq_true, if_false]
      rw [<- ih]
      cases List.findIdx? (fun d => eqb d (e k)) (l.map fun p => e p.1) <;> simp
theorem iW' {γ δ : Type} [DecidableEq γ] (e : γ -> D) (he : ∀ a b, eqb (e a) (e b) = decide (a = b)) (k : γ) : ∀ l : List (γ × δ), l.lookup k = none -> qu' (l.map fun p => e p.1) (e k) = none
  | [], _ => rfl
  | (a, b) :: l, h => by
    rw [List.lookup_cons] at h
    by_cases hk : a = k
    . subst hk; simp at h
    . have h2 : (k == a) = false := by simp; exact fun e => hk e.symm
      rw [h2] at h
      have ih := iW' e he k l h
      unfold qu' at *
      rw [List.map_cons, List.findIdx?_cons, he, decide_eq_false hk]
      simp only [Bool.false_eq_true, if_false, ih, Option.map_none]
theorem hf' (a b : Nat) : eqb (.int (a : Nat)) (.int (b : Nat)) = decide (a = b) := by
  simp only [eqb]
  rw [Bool.eq_iff_iff]
  simp
  try omega
def dN (l : List (Nat × D)) : O := .dct (l.map fun p => .int (p.1 : Nat)) (l.map fun p => .fz p.2)
def dNz (l : List (Nat × D)) : D := .dct (l.map fun p => .int (p.1 : Nat)) (l.map fun p => p.2)
def dX {γ : Type} (e : γ -> D) (l : List (γ × D)) : O := .dcx (l.map fun p => e p.1) (l.map fun p => .fz p.2)
structure KeyE {γ : Type} [DecidableEq γ] (e : γ -> D) : Prop where
  eq : ∀ a b, eqb (e a) (e b) = decide (a = b)
  kat : ∀ a, kat (e a) = true
  dep : ∀ a, dep (e a) <= 8
  sca : ∀ a b, sca (e a) = sca (e b)
theorem ow' (l : List (Nat × D)) : frz (dN l) = dNz l := by
  unfold dN dNz
  simp only [frz, lZ', List.map_map]
  rfl
theorem tD' (l : List (Nat × D)) (i : Nat) (env : List (Option O)) (w : W) {P : D -> PSt -> Prop} : wV (some (some (dN l))) i ⟨env, w⟩ P = P (dNz l) ⟨env.set i (some (.fz (dNz l))), w⟩ := by
  rw [jg']
  show vV (some (some (O.dct _ _))) _ _ _ = _
  rw [<- ow']; rfl
theorem tH' (l : List (Nat × D)) (i : Nat) (env : List (Option O)) (w : W) {P : O -> PSt -> Prop} : wG (some (some (dN l))) i ⟨env, w⟩ P = P (dN l) ⟨env.set i none, w⟩ := by
  rw [ji']; rfl
theorem lG' (l : List (Nat × D)) (k : Nat) : jy' (dN l) (.int (k : Nat)) = some ((l.lookup k).map .fz) := by
  show (if isK (.int (k : Nat)) = true then some (dget _ _ _) else none) = _
  rw [if_pos (show isK (.int (k : Nat)) = true from rfl), e7' (fun n : Nat => D.int (n : Nat)) hf' O.fz k l]
theorem iV' (l : List (Nat × D)) (k : Nat) : jy' (.fz (dNz l)) (.int (k : Nat)) = some ((l.lookup k).map .fz) := by
  show (if isK (.int (k : Nat)) = true then some (dget _ (List.map O.fz (l.map fun p => p.2)) _) else none) = _
  rw [if_pos (show isK (.int (k : Nat)) = true from rfl), List.map_map]
  exact congrArg some (e7' (fun n : Nat => D.int (n : Nat)) hf' O.fz k l)
section
variable {Q : Option O -> Prop} {P : D -> Prop} {N : O -> Prop} {Y : List D -> Prop}
theorem pZ' (l : List (Nat × D)) (k : Nat) : wD (jy' (dN l) (.int (k : Nat))) Q = Q ((l.lookup k).map .fz) := by rw [lG', an']
theorem no' (l : List (Nat × D)) (k : Nat) : wD (jy' (.fz (dNz l)) (.int (k : Nat))) Q = Q ((l.lookup k).map .fz) := by rw [iV', an']
theorem jc' (o : Option D) : tn' (some (o.map .fz)) = o := by cases o <;> rfl
theorem qm' (d : D) : tn' (some (some (.fz d))) = some d := rfl
theorem uB' (l : List (Nat × D)) (k : Nat) : wD (tn' (jy' (dN l) (.int (k : Nat)))) P = wD (l.lookup k) P := by rw [lG', jc']
theorem sI' (l : List (Nat × D)) (k : Nat) : wD (tn' (jy' (.fz (dNz l)) (.int (k : Nat)))) P = wD (l.lookup k) P := by rw [iV', jc']
theorem sq' {l : List (Nat × D)} {k : Nat} (h : l.lookup k = none) (hl : l.length < 16777216) (d : D) : wD (tS' (dN l) (.int (k : Nat)) (.fz d)) N = N (dN (l ++ [(k, d)])) := by
  show wD (if isK (.int (k : Nat)) = true then (ru' _ _ _ _).map (fun p => O.dct p.1 p.2) else none) N = _
  rw [if_pos (show isK (.int (k : Nat)) = true from rfl), ed']
  unfold ru'
  rw [iW' (fun n : Nat => D.int (n : Nat)) hf' k l h]
  simp only
  rw [if_pos (by rw [List.length_map]; exact hl), an']
  unfold dN
  simp
theorem sD' (l : List (Nat × D)) : wD (pt' (dN l)) P = P (.int l.length) := by
  show wD (some (D.int _)) P = _
  rw [an', List.length_map]
theorem sA' {γ : Type} (e : γ -> D) (l : List (γ × D)) : wD (pt' (dX e l)) P = P (.int l.length) := by
  show wD (some (D.int _)) P = _
  rw [an', List.length_map]
theorem p8' (l : List (Nat × D)) : wD (bN' (dNz l)) P = P (.int l.length) := by
  show wD (some (D.int _)) P = _
  rw [an', List.length_map]
theorem nf' (l : List (Nat × D)) : t8' (dN l) = True := rfl
theorem fn' {γ : Type} (f g : γ -> D) : ∀ l : List γ, ce' (l.map f) (l.map g) = l.map fun p => .tup [f p, g p]
  | [] => rfl
  | a :: l => by
    simp only [List.map_cons, ce', fn' f g l]
theorem qc' (l : List (Nat × D)) : wD (sR' (dNz l)) Y = Y (l.map fun p => .tup [.int (p.1 : Nat), p.2]) := by
  show wD (some (ce' _ _)) Y = _
  rw [an', fn']
theorem sh' (l : List (Nat × D)) : wD (uY' (dNz l)) Y = Y (l.map fun p => p.2) := by
  show wD (some _) Y = _
  rw [an']
theorem sF' (l : List (Nat × D)) : wD (uZ' (dNz l)) Y = Y (l.map fun p => .int (p.1 : Nat)) := by
  show wD (some _) Y = _
  rw [an']
theorem nx' (k : Int) (d : D) : wD (cZ' false (.int k) d) N = N (.dct [.int k] [.fz d]) := by
  show wD (some (O.dct [.int k] [.fz d])) N = _
  rw [an']
theorem ur' (i j : Bool) : wD (pNe (.bl i) (.bl j)) P = P (.bl (!(i == j))) := by
  rw [show pNe (.bl i) (.bl j) = some (.bl (!(i == j))) from rfl, an']
end
section
variable {Q : D -> Prop} {Y : List D -> Prop}
theorem nm' (r : List Nat) : wD (cm' (lg' r)) Y = Y (r.map fun t => .int (t : Nat)) := by unfold lg'; rw [i8']
theorem nn' (r : List Nat) : wD (cm' (me' r)) Y = Y (r.map fun t => .int (t : Nat)) := by unfold me'; rw [i8']
theorem nl' (T : List (List Nat)) : wD (cm' (mG' T)) Y = Y (T.map lg') := by unfold mG'; rw [i8']
end
theorem pJ' : cB' .non = true := rfl
theorem pI' (n : Nat) : cB' (.obj n) = false := rfl
theorem pL' (n : Int) : cB' (.int n) = false := rfl
theorem pH' (n : Tx) : cB' (.str n) = false := rfl
theorem rY' (n : Bool) : cB' (.bl n) = false := rfl
theorem pG' (n : List D) : cB' (.tup n) = false := rfl
theorem pK' (n : List D) : cB' (.lst n) = false := rfl
section
variable {Q : D -> Prop}
theorem p3' (s : Tx) : wD (cx' (.str s)) Q = Q (.lst (s.map chD)) := by
  show wD (some _) Q = _
  rw [an']
end
theorem su' (F : List Nat) (t : Nat) {P : D -> Prop} : wD (rH' (inO (.int (t : Nat)) (.lst (F.map fun s => .fz (.int (s : Nat)))))) P = P (.bl (!decide (t ∈ F))) := by
  have e1 : (F.map fun s => O.fz (.int (s : Nat))).all (fun o => match o with | .fz _ => true | _ => false) = true := by induction F <;> simp_all
  have e2 : (F.map fun s => O.fz (.int (s : Nat))).map frz = F.map fun s => .int (s : Nat) := by rw [List.map_map]; rfl
  have h := oB' (Q := fun d => wD (rH' (some d)) P) (t : Int) (F.map (Nat.cast : Nat -> Int))
  rw [List.map_map] at h
  show wD (rH' (if (F.map fun s => O.fz (.int (s : Nat))).all (fun o => match o with | .fz _ => true | _ => false) = true then pIn (.int (t : Nat)) (.lst ((F.map fun s => O.fz (.int (s : Nat))).map frz)) else none)) P = _
  rw [if_pos e1, e2]
  have e3 : ∀ o : Option D, wD (rH' o) P = wD o (fun d => wD (rH' (some d)) P) := fun o => by cases o with
    | none => rw [aq', aq']; rfl
    | some d => rw [an']
  rw [e3]
  refine h.trans ?_
  show wD (some (D.bl (!decide _))) P = _
  rw [an']
  congr 3
  rw [decide_eq_decide]
  constructor
  . intro hm
    obtain ⟨a, h1, h2⟩ := List.mem_map.mp hm
    have h2 : (a : Int) = (t : Int) := h2
    have : a = t := by omega
    exact this ▸ h1
  . exact fun hm => List.mem_map.mpr ⟨t, hm, rfl⟩
def lR' (o : Option (Option O)) : Option O := match o with
  | some (some (.fz d)) => some (.fz d)
  | _ => none
theorem nC' (env env' : List (Option O)) : back env [] env' = env' := rfl
theorem ma' (env env' : List (Option O)) (i : Nat) (is : List Nat) : back env (i :: is) env' = (back env is env').set i (lR' env[i]?) := by
  show (back env is env').set i _ = _
  congr 1
theorem jA' : lR' (some none) = none := rfl
theorem nc' (d : D) : lR' (some (some (.fz d))) = some (.fz d) := rfl
theorem lQ' (os : List O) : lR' (some (some (.lst os))) = none := rfl
section
variable {Q : D -> Prop}
theorem pU' (a : Tx) (c : Nat) : wD (rJ' a [.str [c]]) Q = wC (c < 128 /\ a.length + 2 <= 16777216) (Q (.lst ((ta' c a).map .str))) := ee'
theorem ud' (i : Int) : wD (vH' (.int i)) Q = wC (0 <= i /\ i < 1000000000000000000000000000000000000000000000000000000000000) (Q (.str (vl' i.toNat))) := ee'
end
end M
namespace M
theorem uS' (c : Nat) (s : Tx) {P : D -> Prop} : wD (vK' c (.str s)) P = wC (s.length <= 1000000) (P (.str (s.filter fun d => decide (d ≠ c)))) := ee'
end M
namespace M
theorem se' (a b : List D) {Y : List D -> Prop} : wD (vo' (.tup a) (.tup b)) Y = Y (ce' a b) := by rw [aq']; rfl
theorem uM' (os : List O) (ds : List D) {N : O -> Prop} : wD (vP' (.lst os) (.lst ds)) N = wC (os.length + ds.length <= 16777216) (N (.lst (os ++ ds.map .fz))) := ee'
def t7' : O -> Prop
  | .dcx _ _ => True
  | _ => False
theorem ne' {γ : Type} (e : γ -> D) (l : List (γ × D)) : t7' (dX e l) := True.intro
theorem t9' (os : List O) {N : List O -> Prop} : wD (unO (.tup os)) N = N os := by rw [aq']; rfl
theorem ua' (ds : List D) {N : List O -> Prop} : wD (unO (.fz (.tup ds))) N = N (ds.map .fz) := by rw [aq']; rfl
theorem qf' {ρ : PSt} {N : PSt -> Prop} : wD (qw' [] [] ρ) N = N ρ := by rw [aq']; rfl
theorem qe' (i : Nat) (is : List Nat) (o : O) (os : List O) {env : List (Option O)} {w : W} {N : PSt -> Prop} : wD (qw' (i :: is) (o :: os) ⟨env, w⟩) N = oI' i env.length (wD (qw' is os ⟨env.set i (some o), w⟩) N) := by
  rw [aq', aq', dp']
  by_cases h : i < env.length
  . simp [qw', k0', h]
  . simp [qw', k0', vD, h]
theorem nA' (m : List Bool) : mp' m [] = [] := by cases m <;> rfl
theorem sV' (x : Option O) (r : List (Option O)) : mp' [] (x :: r) = none :: mp' [] r := rfl
theorem sX' (m : List Bool) (x : Option O) (r : List (Option O)) : mp' (false :: m) (x :: r) = none :: mp' m r := rfl
theorem sW' (m : List Bool) (o : O) (r : List (Option O)) : mp' (true :: m) (some o :: r) = some (.fz (frz o)) :: mp' m r := rfl
theorem pk' (r : List (Option O)) : okM [] r = true := by cases r <;> rfl
theorem tY' (m : List Bool) (x : Option O) (r : List (Option O)) : okM (false :: m) (x :: r) = okM m r := rfl
theorem tX' (m : List Bool) (o : O) (r : List (Option O)) : okM (true :: m) (some o :: r) = (okO o && okM m r) := rfl
theorem rD' (d : D) : okO (.fz d) = dat d := rfl
theorem pj' (os : List O) : okO (.lst os) = okOs os := rfl
theorem lw' : ∀ ds : List D, okOs (ds.map .fz) = dats ds
  | [] => rfl
  | d :: r => by show (dat d && okOs (r.map .fz)) = (dat d && dats r); rw [lw' r]
theorem r5' (d : D) : frz (.fz d) = d := rfl
theorem o1' (b : Bool) : tc' (.bl b) = true := rfl
theorem mS' (b : Int) : tc' (.int b) = true := rfl
theorem mQ' (b : Tx) : tc' (.str b) = true := rfl
theorem mR' : tc' .non = true := rfl
end M
namespace M
theorem fO' : ∀ l : List Tx, ci' (l.map D.str) = some l
  | [] => rfl
  | a :: l => by show (ci' (l.map D.str)).map (a :: ·) = _; rw [fO' l]; rfl
theorem pV' (l : List Tx) {P : D -> Prop} : wD (m0' (.lst (l.map .str))) P = wC (l.length < 64) (P (.lst ((q6' l).map .str))) := by
  show wD ((ci' (l.map D.str)).bind _) P = _
  rw [fO', Option.bind_some]
  exact ee'
theorem sj' (s : Tx) {P : D -> Prop} : wD (ck' (.str s)) P = P (.tup (s.map chD)) := by
  show wD (some _) P = _
  rw [an']
theorem tG' {α : Type} (e : α -> D) (l : List (α × D)) (i : Nat) (env : List (Option O)) (w : W) {P : O -> PSt -> Prop} : wG (some (some (dX e l))) i ⟨env, w⟩ P = P (dX e l) ⟨env.set i none, w⟩ := by
  simp only [ji']; rfl
end M
namespace M
def dXz {γ : Type} (e : γ -> D) (l : List (γ × D)) : D := .dcx (l.map fun p => e p.1) (l.map fun p => p.2)
theorem r6' {γ : Type} (e : γ -> D) (l : List (γ × D)) : frz (dX e l) = dXz e l := by
  unfold dX dXz
  simp only [frz, lZ', List.map_map]
  rfl
theorem tC' {γ : Type} (e : γ -> D) (l : List (γ × D)) (i : Nat) (env : List (Option O)) (w : W) {P : D -> PSt -> Prop} : wV (some (some (dX e l))) i ⟨env, w⟩ P = P (dXz e l) ⟨env.set i (some (.fz (dXz e l))), w⟩ := by
  rw [jg']
  show vV (some (some (O.dcx _ _))) _ _ _ = _
  rw [<- r6']; rfl
theorem p5' {γ : Type} (e : γ -> D) (l : List (γ × D)) {P : D -> Prop} : wD (pt' (.fz (dXz e l))) P = P (.int l.length) := by
  show wD (some (D.int _)) P = _
  rw [an', List.length_map]
end M
namespace M
end M
namespace M
theorem eo' : ∀ (es : List (Nat × Tx)), dA' (es.map fun p => .int (p.1 : Nat)) (es.map fun p => .fz (.str p.2)) = some es
  | [] => rfl
  | p :: es => by
    show (if (0 : Int) <= (p.1 : Nat) then (dA' (es.map fun p => .int (p.1 : Nat)) (es.map fun p => .fz (.str p.2))).map ((((p.1 : Nat) : Int).toNat, p.2) :: ·) else none) = _
    rw [if_pos (Int.natCast_nonneg _), eo' es]
    rfl
theorem nk' (es : List (Nat × Tx)) {P : D -> Prop} : wD (oc' (.dct (es.map fun p => .int (p.1 : Nat)) (es.map fun p => .fz (.str p.2)))) P = P (.lst ((es.mergeSort tT').map fun p => .tup [.int (p.1 : Nat), .str p.2])) := by
  have e : oc' (.dct (es.map fun p => .int (p.1 : Nat)) (es.map fun p => .fz (.str p.2))) = some (.lst ((es.mergeSort tT').map fun p => .tup [.int (p.1 : Nat), .str p.2])) := by
    show (dA' _ _).map _ = _
    rw [eo']
    rfl
  rw [e, aq']
  rfl
end M
namespace M
theorem pl' (kl kd : Bool) (r : List (Option O)) : okL kl kd [] r = true := by cases r <;> rfl
theorem t0' (kl kd : Bool) (m : List Bool) (x : Option O) (r : List (Option O)) : okL kl kd (false :: m) (x :: r) = okL kl kd m r := rfl
theorem tZ' (kl kd : Bool) (m : List Bool) (o : O) (r : List (Option O)) : okL kl kd (true :: m) (some o :: r) = (lendO kl kd o && okL kl kd m r) := rfl
theorem nz' (r : List (Option O)) : qh' [] r = 0 := by cases r <;> rfl
theorem sU' (m : List Bool) (x : Option O) (r : List (Option O)) : qh' (false :: m) (x :: r) = qh' m r := rfl
theorem sT' (m : List Bool) (o : O) (r : List (Option O)) : qh' (true :: m) (some o :: r) = tj' o + qh' m r := rfl
theorem na' (kl kd : Bool) (d : D) : lendO kl kd (.fz d) = true := rfl
theorem pf' (d : D) : tj' (.fz d) = 0 := rfl
theorem lH' (kd : Bool) (ds : List D) : lendO true kd (.lst (ds.map .fz)) = true := by
  show (true && (ds.map O.fz).all pM') = true
  simp [pM']
theorem m6' (kl kd : Bool) (n : Nat) : vg' kl kd (.fz (.obj n)) = true := rfl
def tU' : D -> Option (D × D)
  | .tup [x, y] => some (x, y)
  | _ => none
theorem sr' (x y : D) {P : D × D -> Prop} : wD (tU' (.tup [x, y])) P = P (x, y) := by rw [aq']; rfl
theorem uk' (i j : Int) {Q : D -> Prop} : wD (vJ' (.int i) (.int j)) Q = wC (0 <= j /\ j <= 1000 /\ -18446744073709551616 < i /\ i < 18446744073709551616) (Q (.int (i * 2 ^ j.toNat))) := by
  rw [aq', gT']
  show vD (if 0 <= j /\ j <= 1000 /\ bj' i = true then _ else _) Q = _
  rw [az']
  congr 1
  simp [bj']
theorem uj' (i j : Int) {Q : D -> Prop} : wD (vI' (.int i) (.int j)) Q = wC (0 <= j) (Q (.int (i / 2 ^ j.toNat))) := by
  rw [aq', gT']
  exact az'
theorem vY' (is : List Nat) (ds : List D) (ρ : PSt) {N : PSt -> Prop} : wD (gL is (.lst ds) ρ) N = wD (gNs is ds ρ) N := rfl
theorem uJ' (gs : List MG) (ds : List D) (ρ : PSt) {N : PSt -> Prop} : wD (gTg gs (.tup ds) ρ) N = wD (gSq gs ds ρ) N := rfl
theorem sK' (ρ : PSt) {N : PSt -> Prop} : wD (gSq [] [] ρ) N = N ρ := by rw [aq']; rfl
theorem uK' (g : MG) (gs : List MG) (d : D) (ds : List D) (ρ : PSt) {N : PSt -> Prop} : wD (gSq (g :: gs) (d :: ds) ρ) N = wD (g d ρ) (fun ρ1 => wD (gSq gs ds ρ1) N) := by
  simp only [aq']
  show vD ((g d ρ).bind (gSq gs ds)) N = _
  cases g d ρ <;> rfl
end M
namespace M
section
variable {α : Type} {env : List (Option O)} {w : W} {ρ : PSt} {X : Exc -> PSt -> Prop}
end
end M
namespace M
section
variable {α β : Type} [DecidableEq α] [DecidableEq β]
def ins (F : List α) (x : α) : List α := if x ∈ F then F else F ++ [x]
def c2' (F xs : List α) : List α := xs.foldl ins F
def bY' (xs : List α) : List α := c2' [] xs
theorem iZ' {F : List α} {x : α} (h : x ∈ F) : ins F x = F := if_pos h
theorem hc' {F : List α} {x : α} (h : x ∉ F) : ins F x = F ++ [x] := if_neg h
theorem lC' {F : List α} {x y : α} : y ∈ ins F x ↔ y ∈ F \/ y = x := by
  unfold ins
  split
  . rename_i h
    exact ⟨.inl, fun q => q.elim id fun e => e ▸ h⟩
  . simp
theorem bQ' {F : List α} {x : α} {xs : List α} : c2' F (x :: xs) = c2' (ins F x) xs := rfl
theorem hd' {F xs ys : List α} : c2' F (xs ++ ys) = c2' (c2' F xs) ys := List.foldl_append ..
theorem lU' {F xs : List α} {x : α} : c2' F (xs ++ [x]) = ins (c2' F xs) x := by rw [hd']; rfl
theorem dl' {y : α} : ∀ {xs F : List α}, y ∈ c2' F xs ↔ y ∈ F \/ y ∈ xs
  | [], F => by simp [c2']
  | x :: xs, F => by
    rw [bQ', dl', lC', List.mem_cons]
    constructor
    . rintro ((h | h) | h)
      . exact .inl h
      . exact .inr (.inl h)
      . exact .inr (.inr h)
    . rintro (h | h | h)
      . exact .inl (.inl h)
      . exact .inl (.inr h)
      . exact .inr h
theorem cz' {xs : List α} {y : α} : y ∈ bY' xs ↔ y ∈ xs := by rw [bY', dl']; simp
theorem pc' {F : List α} {x : α} : F <+: ins F x := by
  unfold ins
  split
  . exact List.prefix_refl _
  . exact List.prefix_append ..
theorem iP' : ∀ {xs F : List α}, F <+: c2' F xs
  | [], F => List.prefix_refl _
  | x :: xs, F => pc'.trans iP'
theorem rI' {F : List α} {x : α} (h : F.Nodup) : (ins F x).Nodup := by
  unfold ins
  split
  . exact h
  . rename_i q
    rw [List.nodup_append]
    exact ⟨h, by simp, fun a ha b hb e => q (by rw [List.mem_singleton] at hb; rw [<- hb, <- e]; exact ha)⟩
theorem g7' : ∀ {xs F : List α}, F.Nodup -> (c2' F xs).Nodup
  | [], _, h => h
  | _ :: xs, _, h => g7' (xs := xs) (rI' h)
theorem pp' {xs : List α} : (bY' xs).Nodup := g7' List.nodup_nil
theorem lz' {xs : List α} {x : α} : bY' (xs ++ [x]) = ins (bY' xs) x := lU'
theorem f4' (c : α -> β) (F : List α) (x : α) : bY' ((ins F x).map c) = ins (bY' (F.map c)) (c x) := by
  by_cases h : x ∈ F
  . rw [iZ' h, iZ' (cz'.mpr (List.mem_map.mpr ⟨x, h, rfl⟩))]
  . rw [hc' h, List.map_append, List.map_cons, List.map_nil, lz']
theorem cy' (c : α -> β) : ∀ (xs F : List α), bY' ((c2' F xs).map c) = c2' (bY' (F.map c)) (xs.map c)
  | [], _ => rfl
  | x :: xs, F => by rw [bQ', cy' c xs, f4', List.map_cons, bQ']
theorem e0' (c : α -> β) (xs : List α) : bY' ((bY' xs).map c) = bY' (xs.map c) := by
  have := cy' c xs []
  exact this
theorem g9' (f : α -> β) {F : List α} {x : α} (h : ∀ y ∈ F, f y = f x -> y = x) : (ins F x).map f = ins (F.map f) (f x) := by
  by_cases hx : x ∈ F
  . rw [iZ' hx, iZ' (List.mem_map.mpr ⟨x, hx, rfl⟩)]
  . rw [hc' hx, hc']
    . simp
    . rw [List.mem_map]
      rintro ⟨y, hy, e⟩
      exact hx (h y hy e ▸ hy)
theorem c1' (f : α -> β) (U : α -> Prop) (inj : ∀ a b, U a -> U b -> f a = f b -> a = b) : ∀ (xs F : List α), (∀ x ∈ F, U x) -> (∀ x ∈ xs, U x) -> (c2' F xs).map f = c2' (F.map f) (xs.map f)
  | [], _, _, _ => rfl
  | x :: xs, F, hF, hx => by
    have ux := hx x (by simp)
    rw [bQ', c1' f U inj xs (ins F x) (fun y hy => (lC'.mp hy).elim (hF y) fun e => e ▸ ux) (fun y hy => hx y (by simp [hy])), g9' f fun y hy e => inj y x (hF y hy) ux e, List.map_cons, bQ']
theorem f5' (f : α -> β) (xs : List α) (inj : ∀ a ∈ xs, ∀ b ∈ xs, f a = f b -> a = b) : bY' (xs.map f) = (bY' xs).map f :=
  (c1' f (· ∈ xs) (fun a b ha hb => inj a ha b hb) xs [] (fun _ h => nomatch h) (fun _ h => h)).symm
theorem pr' : ∀ {xs : List α}, xs.Nodup -> xs.map (fun x => xs.idxOf x) = List.range xs.length := by
  intro xs h
  refine List.ext_getElem (by simp) fun i h1 h2 => ?_
  rw [List.getElem_map, List.getElem_range]
  rw [List.length_map] at h1
  exact List.Nodup.idxOf_getElem h i h1
theorem m4' (xs : List α) : bY' (xs.map fun x => (bY' xs).idxOf x) = List.range (bY' xs).length := by
  rw [f5' (fun x => (bY' xs).idxOf x) xs, pr' pp']
  intro a ha b hb e
  have h1 : (bY' xs)[(bY' xs).idxOf a]? = some a := by
    rw [List.getElem?_eq_getElem (List.idxOf_lt_length_iff.mpr (cz'.mpr ha)), List.getElem_idxOf]
  have h2 : (bY' xs)[(bY' xs).idxOf b]? = some b := by
    rw [List.getElem?_eq_getElem (List.idxOf_lt_length_iff.mpr (cz'.mpr hb)), List.getElem_idxOf]
  rw [e, h2] at h1
  exact (Option.some.inj h1).symm
theorem g6' (g : α -> β) (X : List α) : (bY' (X.map g)).length <= (bY' X).length := by
  have h := e0' g X
  rw [<- h]
  have go : ∀ (ys F : List β), (c2' F ys).length <= F.length + ys.length := by
    intro ys
    induction ys with
    | nil => intro F; simp [c2']
    | cons y ys ih =>
      intro F
      rw [bQ']
      refine Nat.le_trans (ih _) ?_
      have : (ins F y).length <= F.length + 1 := by unfold ins; split <;> simp
      simp only [List.length_cons]
      omega
  have := go ((bY' X).map g) []
  simpa [bY'] using this
end
def co' (T : List (List Nat)) (s : Nat) : List Nat := (T[s]?).getD []
def bfs (T : List (List Nat)) : Nat -> List Nat
  | 0 => [0]
  | j + 1 => match (bfs T j)[j]? with
    | some s => c2' (bfs T j) (co' T s)
    | none => bfs T j
section
variable {T : List (List Nat)} {n m : Nat}
theorem lf' (h : fi' T n m) {s : Nat} (hs : s < n) : (co' T s).length = m := by
  unfold co'
  rw [List.getElem?_eq_getElem (by rw [h.1]; exact hs)]
  exact (h.2 _ (List.getElem_mem _)).1
def g0' (T : List (List Nat)) : List Nat := bfs T T.length
end
section
variable {γ : Type} [DecidableEq γ] {S : List Nat}
def m5' (S : List Nat) (f : Nat -> γ) (s : Nat) : Nat := (bY' (S.map f)).idxOf (f s)
theorem e1' (f : Nat -> γ) : bY' (S.map (m5' S f)) = List.range (bY' (S.map f)).length := by
  have := m4' (S.map f)
  rw [List.map_map] at this
  exact this
theorem iU' (f : Nat -> γ) {s : Nat} (hs : s ∈ S) : (bY' (S.map f))[m5' S f s]? = some (f s) := by
  have : m5' S f s < (bY' (S.map f)).length := List.idxOf_lt_length_iff.mpr (cz'.mpr (List.mem_map.mpr ⟨s, hs, rfl⟩))
  rw [List.getElem?_eq_getElem this]
  exact congrArg some (List.getElem_idxOf _)
theorem cg' (f : Nat -> γ) {s t : Nat} (hs : s ∈ S) (ht : t ∈ S) : m5' S f s = m5' S f t ↔ f s = f t := by
  constructor
  . intro e
    have h1 := iU' f hs
    rw [e, iU' f ht] at h1
    exact (Option.some.inj h1).symm
  . intro e; unfold m5'; rw [e]
end
def key (T : List (List Nat)) (c : Nat -> Nat) (s : Nat) : Nat × List Nat := (c s, (co' T s).map c)
def Leq (L : Tx) (T : List (List Nat)) (A : List Nat) (s t : Nat) : Prop := ∀ x : Tx, (∀ a ∈ x, a ∈ L) -> (run L T s x ∈ A ↔ run L T t x ∈ A)
structure Clz (L : Tx) (T : List (List Nat)) (A : List Nat) (S : List Nat) (c : Nat -> Nat) (k : Nat) : Prop where
  num : bY' (S.map c) = List.range k
  ref : ∀ s ∈ S, ∀ t ∈ S, c s = c t -> (s ∈ A ↔ t ∈ A)
  co : ∀ s ∈ S, ∀ t ∈ S, Leq L T A s t -> c s = c t
section
variable {L : Tx} {T : List (List Nat)} {A S : List Nat} {c : Nat -> Nat} {k : Nat}
theorem oW' (s a : Nat) : stp L T s a = ((co' T s)[L.idxOf a]?).getD 0 := rfl
theorem k4' (hL : L.Nodup) {s i : Nat} (hi : i < L.length) : stp L T s L[i] = ((co' T s)[i]?).getD 0 := by rw [oW', hL.idxOf_getElem i hi]
theorem eN' (h : fi' T T.length L.length) {s a : Nat} (hs : s < T.length) (ha : a ∈ L) : stp L T s a ∈ co' T s := by
  obtain ⟨r, h1, h2, _⟩ := q5' h hs ha
  have : co' T s = r := by unfold co'; rw [h1]; rfl
  rw [this]
  exact List.mem_of_getElem? h2
theorem Leq.step (h : Leq L T A s t) (ha : a ∈ L) : Leq L T A (stp L T s a) (stp L T t a) := fun x hx => by
  have := h (a :: x) fun b hb => (List.mem_cons.mp hb).elim (fun e => e ▸ ha) (hx b)
  exact this
theorem Leq.refl (s : Nat) : Leq L T A s s := fun _ _ => Iff.rfl
theorem Leq.symm (h : Leq L T A s t) : Leq L T A t s := fun x hx => (h x hx).symm
theorem Leq.trans (h : Leq L T A s t) (h' : Leq L T A t u) : Leq L T A s u := fun x hx => (h x hx).trans (h' x hx)
theorem le' (h : fi' T T.length L.length) (hL : L.Nodup) {s t : Nat} (hs : s < T.length) (ht : t < T.length) (hc : ∀ a ∈ L, c (stp L T s a) = c (stp L T t a)) : (co' T s).map c = (co' T t).map c := by
  have l1 := lf' h hs
  have l2 := lf' h ht
  refine List.ext_getElem (by simp [l1, l2]) fun i h1 h2 => ?_
  rw [List.getElem_map, List.getElem_map]
  rw [List.length_map] at h1 h2
  have := hc L[i] (List.getElem_mem (by omega))
  rw [k4' hL (by omega), k4' hL (by omega), List.getElem?_eq_getElem h1, List.getElem?_eq_getElem h2] at this
  exact this
theorem Clz.lt (h : Clz L T A S c k) {s : Nat} (hs : s ∈ S) : c s < k := by
  have : c s ∈ bY' (S.map c) := cz'.mpr (List.mem_map.mpr ⟨s, hs, rfl⟩)
  rw [h.num] at this
  exact List.mem_range.mp this
theorem Clz.first : Clz L T A S (m5' S fun s => decide (s ∈ A)) (bY' (S.map fun s => decide (s ∈ A))).length := by
  refine ⟨e1' _, fun s hs t ht e => ?_, fun s hs t ht e => (cg' _ hs ht).mpr ?_⟩
  . have := (cg' _ hs ht).mp e
    simpa using this
  . have := e [] (fun _ h => nomatch h)
    simpa [o8'] using this
theorem Clz.next (hT : fi' T T.length L.length) (hL : L.Nodup) (hS : ∀ s ∈ S, s < T.length) (hcl : ∀ s ∈ S, ∀ t ∈ co' T s, t ∈ S) (h : Clz L T A S c k) : Clz L T A S (m5' S (key T c)) (bY' (S.map (key T c))).length := by
  refine ⟨e1' _, fun s hs t ht e => ?_, fun s hs t ht e => (cg' _ hs ht).mpr ?_⟩
  . have := (cg' _ hs ht).mp e
    exact h.ref s hs t ht (congrArg Prod.fst this)
  . refine Prod.ext (h.co s hs t ht e) (le' hT hL (hS s hs) (hS t ht) fun a ha => ?_)
    exact h.co _ (hcl s hs _ (eN' hT (hS s hs) ha)) _ (hcl t ht _ (eN' hT (hS t ht) ha)) (e.step ha)
theorem nh' : (S.map (key T c)).map Prod.fst = S.map c := by rw [List.map_map]; rfl
theorem Clz.le (h : Clz L T A S c k) : k <= (bY' (S.map (key T c))).length := by
  have := g6' Prod.fst (S.map (key T c))
  rw [nh', h.num, List.length_range] at this
  exact this
end
structure IsLeast (L : Tx) (T : List (List Nat)) (A : List Nat) (c : Nat -> Nat) (T' : List (List Nat)) (A' : List Nat) : Prop where
  tab : fi' T' T'.length L.length
  ne : 1 <= T'.length
  le : T'.length <= T.length
  acc : AccOk A' T'.length
  c0 : c 0 = 0
  lt : ∀ s ∈ g0' T, c s < T'.length
  row : ∀ s ∈ g0' T, co' T' (c s) = (co' T s).map c
  fin : ∀ s ∈ g0' T, (c s ∈ A' ↔ s ∈ A)
  onto : ∀ q < T'.length, ∃ s ∈ g0' T, c s = q
  g0' : g0' T' = List.range T'.length
  apart : ∀ p < T'.length, ∀ q < T'.length, Leq L T' A' p q -> p = q
  num : bY' ((M.g0' T).map c) = List.range T'.length
section
variable {L : Tx} {T : List (List Nat)} {A : List Nat} {c : Nat -> Nat} {k : Nat}
end
structure Cw (L : Tx) (T : List (List Nat)) (A : List Nat) (S : List Nat) (c : Nat -> Nat) : Prop where
  ref : ∀ s ∈ S, ∀ t ∈ S, c s = c t -> (s ∈ A ↔ t ∈ A)
  co : ∀ s ∈ S, ∀ t ∈ S, Leq L T A s t -> c s = c t
section
variable {L : Tx} {T : List (List Nat)} {A S : List Nat} {c : Nat -> Nat} {k : Nat}
theorem Cw.next (hT : fi' T T.length L.length) (hL : L.Nodup) (hS : ∀ s ∈ S, s < T.length) (hcl : ∀ s ∈ S, ∀ t ∈ co' T s, t ∈ S) (h : Cw L T A S c) : Clz L T A S (m5' S (key T c)) (bY' (S.map (key T c))).length := by
  refine ⟨e1' _, fun s hs t ht e => ?_, fun s hs t ht e => (cg' _ hs ht).mpr ?_⟩
  . have := (cg' _ hs ht).mp e
    exact h.ref s hs t ht (congrArg Prod.fst this)
  . refine Prod.ext (h.co s hs t ht e) (le' hT hL (hS s hs) (hS t ht) fun a ha => ?_)
    exact h.co _ (hcl s hs _ (eN' hT (hS s hs) ha)) _ (hcl t ht _ (eN' hT (hS t ht) ha)) (e.step ha)
end
def mf' (X : D) (T : List (List Nat)) : Prop := ∀ (s : Nat) (r : List Nat), T[s]? = some r -> ∃ R, pIx X (.int (s : Nat)) = some R /\ cm' R = some (r.map fun t => .int (t : Nat))
def mk' (Y : D) (A : List Nat) : Prop := ∀ s : Nat, pIn (.int (s : Nat)) Y = some (.bl (decide (s ∈ A)))
theorem mf'.tab (T : List (List Nat)) : mf' (mG' T) T := fun s r h => ⟨lg' r, by
  show ati (T.map lg') (s : Int) = _
  rw [b4' (by omega), List.getElem?_map, Int.toNat_natCast, h]; rfl, rfl⟩
theorem mk'.acc (A : List Nat) : mk' (me' A) A := fun s => by
  have h := l2' A s (Q := fun d => d = .bl (decide (s ∈ A)))
  have : wD (pIn (.int (s : Nat)) (me' A)) (fun d => d = .bl (decide (s ∈ A))) := by rw [h]
  rw [aq'] at this
  cases e : pIn (.int (s : Nat)) (me' A) with
  | none => rw [e] at this; exact this.elim
  | some d => rw [e] at this; exact congrArg some this
def ixo {γ : Type} [DecidableEq γ] (G : List γ) (a : γ) : Nat := G.idxOf a
section
variable {L : Tx} {T : List (List Nat)} {A : List Nat} {c c' : Nat -> Nat} {T1 T2 : List (List Nat)} {A1 A2 : List Nat}
end
def Pl (y : Option O) : Prop := y = none \/ ∃ d, y = some (.fz d)
theorem Pl.keep {y : Option O} (h : Pl y) : lR' (some y) = y := by rcases h with rfl | ⟨d, rfl⟩ <;> rfl
end M
namespace M
section
variable {L : Tx} {T T' U : List (List Nat)} {A A' B T1 A1 T2 A2 : List Nat} {m : Nat} {c : Nat -> Nat}
end
end M
namespace M
section
variable {γ : Type} [DecidableEq γ] (L : Tx) (sx : γ -> Nat -> γ) (g0 : γ)
def nxG (g : γ) : List γ := L.map (sx g)
def xbf : Nat -> List γ
  | 0 => [g0]
  | j + 1 => match (xbf j)[j]? with
    | some g => c2' (xbf j) (nxG L sx g)
    | none => xbf j
def pu' (g : γ) (z : Tx) : γ := z.foldl sx g
def Rch (g : γ) : Prop := ∃ z : Tx, (∀ c ∈ z, c ∈ L) /\ g = pu' sx g0 z
def Few (N : Nat) : Prop := ∀ l : List γ, l.Nodup -> (∀ g ∈ l, Rch L sx g0 g) -> l.length <= N
def d1' (N : Nat) : List γ := xbf L sx g0 N
def s7' (F : List γ) (g : γ) : List Nat := L.map fun c => ixo F (sx g c)
def nJ' (F : List γ) : List (List Nat) := F.map (s7' L sx F)
def u9' (F : List γ) (p : γ -> Bool) : List Nat := (List.range F.length).filter fun q => ((F[q]?).map p).getD false
variable {L sx g0}
theorem oE' {j : Nat} : xbf L sx g0 j <+: xbf L sx g0 (j + 1) := by
  show xbf L sx g0 j <+: (match (xbf L sx g0 j)[j]? with | some s => c2' (xbf L sx g0 j) (nxG L sx s) | none => xbf L sx g0 j)
  split
  . exact iP'
  . exact List.prefix_refl _
theorem mt' {i j : Nat} (h : i <= j) : xbf L sx g0 i <+: xbf L sx g0 j := by
  induction h with
  | refl => exact List.prefix_refl _
  | step _ ih => exact ih.trans oE'
theorem hG' : ∀ j : Nat, (xbf L sx g0 j).Nodup
  | 0 => by simp [xbf]
  | j + 1 => by
    show (match (xbf L sx g0 j)[j]? with | some s => c2' (xbf L sx g0 j) (nxG L sx s) | none => xbf L sx g0 j).Nodup
    split
    . exact g7' (hG' j)
    . exact hG' j
theorem lI' {g : γ} {z : Tx} {c : Nat} : pu' sx g (z ++ [c]) = sx (pu' sx g z) c := by unfold pu'; rw [List.foldl_append]; rfl
theorem eG' : ∀ j : Nat, ∀ g ∈ xbf L sx g0 j, Rch L sx g0 g
  | 0, g, h => by
    have : g = g0 := by simpa [xbf] using h
    exact ⟨[], nofun, this⟩
  | j + 1, g, h => by
    have h : g ∈ (match (xbf L sx g0 j)[j]? with | some s => c2' (xbf L sx g0 j) (nxG L sx s) | none => xbf L sx g0 j) := h
    split at h
    . rename_i s e
      rcases dl'.mp h with q | q
      . exact eG' j g q
      . obtain ⟨c, hc, rfl⟩ := List.mem_map.mp q
        obtain ⟨z, hz, rfl⟩ := eG' j s (List.mem_of_getElem? e)
        exact ⟨z ++ [c], fun d hd => (List.mem_append.mp hd).elim (hz d) (fun q => List.mem_singleton.mp q ▸ hc), lI'.symm⟩
    . exact eG' j g h
theorem eF' {j : Nat} (h : (xbf L sx g0 j).length <= j) : ∀ {i : Nat}, j <= i -> xbf L sx g0 i = xbf L sx g0 j := by
  intro i hi
  induction hi with
  | refl => rfl
  | @step i hi ih =>
    show (match (xbf L sx g0 i)[i]? with | some s => c2' (xbf L sx g0 i) (nxG L sx s) | none => xbf L sx g0 i) = _
    have : (xbf L sx g0 i)[i]? = none := by rw [ih]; exact List.getElem?_eq_none (Nat.le_trans h hi)
    rw [this, ih]
theorem qy' {j : Nat} {g : γ} (h : (xbf L sx g0 j)[j]? = some g) : xbf L sx g0 (j + 1) = c2' (xbf L sx g0 j) (nxG L sx g) := by
  show (match (xbf L sx g0 j)[j]? with | some s => c2' (xbf L sx g0 j) (nxG L sx s) | none => xbf L sx g0 j) = _
  rw [h]
variable {N : Nat}
theorem Few.len (h : Few L sx g0 N) (j : Nat) : (xbf L sx g0 j).length <= N := h _ (hG' j) (eG' j)
theorem Few.all (h : Few L sx g0 N) {j : Nat} (hj : (xbf L sx g0 j).length <= j) : xbf L sx g0 j = d1' L sx g0 N := by
  by_cases q : j <= N
  . exact (eF' hj q).symm
  . exact eF' (h.len _) (by omega)
theorem Few.pre (h : Few L sx g0 N) (j : Nat) : xbf L sx g0 j <+: d1' L sx g0 N := by
  by_cases q : j <= N
  . exact mt' q
  . have : xbf L sx g0 j = d1' L sx g0 N := eF' (h.len _) (by omega)
    rw [this]
    exact List.prefix_refl _
theorem Few.get (h : Few L sx g0 N) {j : Nat} {g : γ} (e : (d1' L sx g0 N)[j]? = some g) : (xbf L sx g0 j)[j]? = some g := by
  have h1 : j < (xbf L sx g0 j).length := by
    rcases Nat.lt_or_ge j (xbf L sx g0 j).length with q | q
    . exact q
    . have := h.all q
      rw [<- this] at e
      have := (List.getElem?_eq_some_iff.mp e).1
      omega
  obtain ⟨G, eG⟩ := h.pre j
  rw [<- eG, List.getElem?_append_left h1] at e
  exact e
theorem Few.nd : (d1' L sx g0 N).Nodup := hG' N
theorem Few.zero (h : Few L sx g0 N) : (d1' L sx g0 N)[0]? = some g0 := by
  obtain ⟨G, e⟩ := h.pre 0
  rw [<- e]
  rfl
theorem Few.closed (h : Few L sx g0 N) {g : γ} (hg : g ∈ d1' L sx g0 N) {c : Nat} (hc : c ∈ L) : sx g c ∈ d1' L sx g0 N := by
  obtain ⟨j, hj, e⟩ := List.getElem_of_mem hg
  have e1 : (d1' L sx g0 N)[j]? = some g := by rw [List.getElem?_eq_getElem hj, e]
  have := qy' (h.get e1)
  exact (h.pre (j + 1)).subset (by rw [this]; exact dl'.mpr (.inr (List.mem_map.mpr ⟨c, hc, rfl⟩)))
theorem Few.mono {N' : Nat} (h : Few L sx g0 N) (hn : N <= N') : Few L sx g0 N' := fun l a b => Nat.le_trans (h l a b) hn
theorem rQ' {F : List γ} {g : γ} (h : g ∈ F) : ixo F g < F.length := List.idxOf_lt_length_iff.mpr h
theorem pB' {F : List γ} {g : γ} (h : g ∈ F) : F[ixo F g]? = some g := by
  unfold ixo
  rw [List.getElem?_eq_getElem (List.idxOf_lt_length_iff.mpr h), List.getElem_idxOf]
theorem Few.tab (h : Few L sx g0 N) : fi' (nJ' L sx (d1' L sx g0 N)) (nJ' L sx (d1' L sx g0 N)).length L.length := by
  refine ⟨rfl, fun r hr => ?_⟩
  obtain ⟨g, hg, rfl⟩ := List.mem_map.mp hr
  refine ⟨by simp [s7'], fun t ht => ?_⟩
  obtain ⟨c, hc, rfl⟩ := List.mem_map.mp ht
  rw [show (nJ' L sx (d1' L sx g0 N)).length = (d1' L sx g0 N).length by simp [nJ']]
  exact rQ' (h.closed hg hc)
theorem Few.ne (h : Few L sx g0 N) : 1 <= (d1' L sx g0 N).length := by
  have := (List.getElem?_eq_some_iff.mp h.zero).1
  omega
theorem Few.run (h : Few L sx g0 N) : ∀ (z : Tx) (s : Nat) (g : γ), (∀ c ∈ z, c ∈ L) -> (d1' L sx g0 N)[s]? = some g -> (d1' L sx g0 N)[M.run L (nJ' L sx (d1' L sx g0 N)) s z]? = some (pu' sx g z)
  | [], s, g, _, e => e
  | c :: z, s, g, hz, e => by
    have hc := hz c (by simp)
    have hg := List.mem_of_getElem? e
    rw [mT']
    have e1 : stp L (nJ' L sx (d1' L sx g0 N)) s c = ixo (d1' L sx g0 N) (sx g c) := by
      unfold stp nJ'
      rw [List.getElem?_map, e]
      show ((s7' L sx (d1' L sx g0 N) g)[L.idxOf c]?).getD 0 = _
      unfold s7'
      rw [List.getElem?_map, List.getElem?_eq_getElem (List.idxOf_lt_length_iff.mpr hc), List.getElem_idxOf]
      rfl
    rw [e1]
    exact Few.run h z _ (sx g c) (fun d hd => hz d (by simp [hd])) (pB' (h.closed hg hc))
theorem Few.says (h : Few L sx g0 N) (p : γ -> Bool) {z : Tx} (hz : ∀ c ∈ z, c ∈ L) : M.run L (nJ' L sx (d1' L sx g0 N)) 0 z ∈ u9' (d1' L sx g0 N) p ↔ p (pu' sx g0 z) = true := by
  have e := h.run z 0 g0 hz h.zero
  have hl := (List.getElem?_eq_some_iff.mp e).1
  unfold u9'
  rw [List.mem_filter, e]
  simp only [List.mem_range, Option.map_some, Option.getD_some]
  exact ⟨fun q => q.2, fun q => ⟨hl, q⟩⟩
end
end M
namespace M
theorem cA' (c : Nat) : ∀ l : List Tx, (bO' [c] l).length <= (l.map List.length).sum + l.length
  | [] => by simp [bO']
  | [a] => by simp [bO']
  | a :: b :: r => by
    have ih := cA' c (b :: r)
    show (a ++ ([c] ++ bO' [c] (b :: r))).length <= _
    rw [List.length_append, List.length_append, List.length_singleton, List.map_cons, List.sum_cons, List.length_cons]
    omega
end M
namespace M
def wlt (x y : Tx) : Prop := x.length < y.length \/ (x.length = y.length /\ x < y)
def wle (x y : Tx) : Prop := x = y \/ wlt x y
section
variable {γ : Type} [DecidableEq γ] (sx : γ -> Nat -> γ)
def vO' (p : γ × Tx) (F : List (γ × Tx)) (c : Nat) : List (γ × Tx) := if sx p.1 c ∈ F.map (·.1) then F else F ++ [(sx p.1 c, p.2 ++ [c])]
variable (L : Tx) (g0 : γ)
def xw : Nat -> List (γ × Tx)
  | 0 => [(g0, [])]
  | j + 1 => match (xw j)[j]? with
    | some p => L.foldl (vO' sx p) (xw j)
    | none => xw j
variable {sx L g0}
structure XwOk (sx : γ -> Nat -> γ) (L : Tx) (g0 : γ) (j : Nat) : Prop where
  asc : (xw sx L g0 j).Pairwise (fun a b => wlt a.2 b.2)
  led : ∀ q ∈ xw sx L g0 j, (∀ c ∈ q.2, c ∈ L) /\ q.1 = pu' sx g0 q.2
  old : ∀ (i : Nat) (q : γ × Tx), (xw sx L g0 j)[i]? = some q -> q.2 = [] \/ ∃ (k : Nat) (r : γ × Tx) (c : Nat), k < j /\ (xw sx L g0 j)[k]? = some r /\ q.2 = r.2 ++ [c]
  small : ∀ (k : Nat) (r : γ × Tx), k < j -> (xw sx L g0 j)[k]? = some r -> ∀ c ∈ L, ∃ q ∈ xw sx L g0 j, q.1 = sx r.1 c /\ wle q.2 (r.2 ++ [c])
end
end M
namespace M
section
variable {X : Exc -> PSt -> Prop} {ρ : PSt}
end
end M
namespace M
section
variable {α : Type} (mul : α -> α -> α) (one : α) (S : α -> Prop)
structure Mon (l : List α) : Prop where
  cl : ∀ {a b}, S a -> S b -> S (mul a b)
  as : ∀ {a b c}, S a -> S b -> S c -> mul (mul a b) c = mul a (mul b c)
  o : S one
  l1 : ∀ {a}, S a -> mul one a = a
  r1 : ∀ {a}, S a -> mul a one = a
  fin : ∀ a, S a -> a ∈ l
def pw (a : α) : Nat -> α
  | 0 => a
  | n + 1 => mul (pw a n) a
def Idm (e : α) : Prop := mul e e = e
def Om (a e : α) : Prop := ∃ n, e = pw mul a n /\ Idm mul e
def Ker (d : α) : Prop := S d /\ ∀ y, S y -> ∃ u v, S u /\ S v /\ d = mul u (mul y v)
end
section
variable {α : Type} {mul : α -> α -> α} {one : α} {S : α -> Prop} {l : List α}
theorem Mon.pw (h : Mon mul one S l) {a : α} (ha : S a) : ∀ n, S (M.pw mul a n)
  | 0 => ha
  | n + 1 => h.cl (h.pw ha n) ha
theorem Mon.pw_add (h : Mon mul one S l) {a : α} (ha : S a) (m : Nat) : ∀ n, mul (M.pw mul a m) (M.pw mul a n) = M.pw mul a (m + n + 1)
  | 0 => rfl
  | n + 1 => by
    show mul (M.pw mul a m) (mul (M.pw mul a n) a) = mul (M.pw mul a (m + n + 1)) a
    rw [<- h.as (h.pw ha m) (h.pw ha n) ha, h.pw_add ha m n]
theorem Mon.pw_comm (h : Mon mul one S l) {a : α} (ha : S a) (m n : Nat) : mul (M.pw mul a m) (M.pw mul a n) = mul (M.pw mul a n) (M.pw mul a m) := by
  rw [h.pw_add ha, h.pw_add ha, Nat.add_comm m n]
theorem Mon.om_ex (h : Mon mul one S l) {a : α} (ha : S a) : ∃ n, n <= l.length * (l.length + 1) /\ Idm mul (M.pw mul a n) := by
  have hnd : ¬ ((List.range (l.length + 1)).map (M.pw mul a)).Nodup := fun hn => by
    have := List.Nodup.length_le_of_subset hn (l₂ := l) fun x hx => by
      obtain ⟨n, _, rfl⟩ := List.mem_map.1 hx
      exact h.fin _ (h.pw ha n)
    simp at this
    omega
  obtain ⟨i, j, hij, hj, e⟩ : ∃ i j, i < j /\ j <= l.length /\ M.pw mul a i = M.pw mul a j := by
    refine Classical.byContradiction fun hc => hnd ?_
    rw [List.nodup_iff_pairwise_ne, List.pairwise_map]
    refine List.Pairwise.imp_of_mem ?_ List.pairwise_lt_range
    intro a b ha hb hab e
    exact hc ⟨a, b, hab, by have := List.mem_range.1 hb; omega, e⟩
  have per : ∀ k, M.pw mul a (i + k + (j - i)) = M.pw mul a (i + k) := by
    intro k
    cases k with
    | zero => rw [Nat.add_zero, show i + (j - i) = j by omega, e]
    | succ k =>
      have e1 := h.pw_add ha i k
      have e2 := h.pw_add ha j k
      rw [show i + (k + 1) + (j - i) = j + k + 1 by omega, <- e2, <- e, e1]
      rfl
  have pers : ∀ k m, M.pw mul a (i + k + m * (j - i)) = M.pw mul a (i + k) := by
    intro k m
    induction m with
    | zero => rw [Nat.zero_mul, Nat.add_zero]
    | succ m ih =>
      rw [Nat.add_mul, Nat.one_mul, <- Nat.add_assoc, show i + k + m * (j - i) + (j - i) = i + (k + m * (j - i)) + (j - i) by omega, per, <- Nat.add_assoc, ih]
  have hp : 1 <= j - i := by omega
  have hge : i + 1 <= (i + 1) * (j - i) := Nat.le_mul_of_pos_right _ hp
  have hle : (i + 1) * (j - i) <= (l.length + 1) * l.length := Nat.mul_le_mul (by omega) (by omega)
  refine ⟨(i + 1) * (j - i) - 1, by rw [Nat.mul_comm l.length]; omega, ?_⟩
  show mul _ _ = _
  rw [h.pw_add ha]
  have := pers ((i + 1) * (j - i) - 1 - i) (i + 1)
  rw [show i + ((i + 1) * (j - i) - 1 - i) = (i + 1) * (j - i) - 1 by omega] at this
  rw [<- this]
  congr 1
  omega
theorem Om.s (h : Mon mul one S l) {a e : α} (ha : S a) (o : Om mul a e) : S e := by
  obtain ⟨n, rfl, _⟩ := o
  exact h.pw ha n
theorem Mon.pw_split (h : Mon mul one S l) {a : α} (ha : S a) (n : Nat) : ∃ w, S w /\ M.pw mul a n = mul a w /\ M.pw mul a n = mul w a := by
  cases n with
  | zero => exact ⟨one, h.o, (h.r1 ha).symm, (h.l1 ha).symm⟩
  | succ n =>
    refine ⟨M.pw mul a n, h.pw ha n, ?_, rfl⟩
    have := h.pw_add ha 0 n
    rw [show 0 + n + 1 = n + 1 by omega] at this
    exact this.symm
theorem Ker.mul_l (h : Mon mul one S l) {d a : α} (hd : Ker mul S d) (ha : S a) : Ker mul S (mul a d) := by
  refine ⟨h.cl ha hd.1, fun y hy => ?_⟩
  obtain ⟨u, v, hu, hv, e⟩ := hd.2 y hy
  refine ⟨mul a u, v, h.cl ha hu, hv, ?_⟩
  rw [h.as ha hu (h.cl hy hv), <- e]
theorem Ker.pw (h : Mon mul one S l) {d : α} (hd : Ker mul S d) : ∀ n, Ker mul S (M.pw mul d n)
  | 0 => hd
  | n + 1 => Ker.mul_l h hd (h.pw hd.1 n)
theorem Ker.below (h : Mon mul one S l) {e f : α} (he : Ker mul S e) (ie : Idm mul e) (sf : S f) (jf : Idm mul f) (h1 : mul e f = f) (h2 : mul f e = f) : f = e := by
  have se := he.1
  obtain ⟨u, v, su, sv, eq⟩ := he.2 f sf
  have sfv := h.cl sf sv
  have sb := h.cl sfv se
  have sa := h.cl se (h.cl su sf)
  generalize ha : mul e (mul u f) = a at *
  generalize hb : mul (mul f v) e = b at *
  have ab : mul a b = e := by
    rw [<- ha, <- hb, h.as se (h.cl su sf) (h.cl sfv se), h.as su sf (h.cl sfv se), <- h.as sf sfv se, <- h.as sf sf sv, show mul f f = f from jf, <- h.as su sfv se, <- eq, show mul e e = e from ie]
    exact ie
  have eb : mul e b = b := by rw [<- hb, <- h.as se sfv se, <- h.as se sf sv, h1]
  have fb : mul f b = b := by rw [<- hb, <- h.as sf sfv se, <- h.as sf sf sv, show mul f f = f from jf]
  have ae : mul a e = a := by rw [<- ha, h.as se (h.cl su sf) se, h.as su sf se, h2]
  have key : ∀ n, mul (M.pw mul a n) (M.pw mul b n) = e := by
    intro n
    induction n with
    | zero => exact ab
    | succ n ih =>
      have sn := h.pw sa n
      have sm := h.pw sb n
      show mul (mul (M.pw mul a n) a) (mul (M.pw mul b n) b) = e
      rw [show mul (M.pw mul b n) b = mul b (M.pw mul b n) from h.pw_comm sb n 0, h.as sn sa (h.cl sb sm), <- h.as sa sb sm, ab]
      have : mul e (M.pw mul b n) = M.pw mul b n := by
        obtain ⟨r, sr, r1, -⟩ := h.pw_split sb n
        rw [r1, <- h.as se sb sr, eb]
      rw [this]
      exact ih
  obtain ⟨m, _, hm⟩ := h.om_ex sb
  have k := key m
  have sg := h.pw sb m
  have e1 : mul e (M.pw mul b m) = e := by
    rw [<- k, h.as (h.pw sa m) sg sg, show mul (M.pw mul b m) (M.pw mul b m) = _ from hm]
  obtain ⟨r, sr, r1, -⟩ := h.pw_split sb m
  have e2 : mul e (M.pw mul b m) = M.pw mul b m := by rw [r1, <- h.as se sb sr, eb]
  have e3 : mul f (M.pw mul b m) = M.pw mul b m := by rw [r1, <- h.as sf sb sr, fb]
  rw [<- e2, e1, h2] at e3
  exact e3
theorem mW' (h : Mon mul one S l) {e x : α} (se : S e) (sx : S x) (h1 : mul e x = x) (h2 : mul x e = x) (n : Nat) : mul e (M.pw mul x n) = M.pw mul x n /\ mul (M.pw mul x n) e = M.pw mul x n := by
  obtain ⟨r, sr, r1, r2⟩ := h.pw_split sx n
  exact ⟨by rw [r1, <- h.as se sx sr, h1], by rw [r2, h.as sr sx se, h2]⟩
theorem Ker.om_grp (h : Mon mul one S l) {e a f : α} (he : Ker mul S e) (ie : Idm mul e) (sa : S a) (h1 : mul e a = a) (h2 : mul a e = a) (o : Om mul a f) : f = e := by
  have sf := Om.s h sa o
  obtain ⟨n, rfl, jf⟩ := o
  obtain ⟨f1, f2⟩ := mW' h he.1 sa h1 h2 n
  exact he.below h ie sf jf f1 f2
theorem Ker.inv (h : Mon mul one S l) {e a : α} (he : Ker mul S e) (ie : Idm mul e) (sa : S a) (h1 : mul e a = a) (h2 : mul a e = a) : ∃ b, S b /\ mul e b = b /\ mul b e = b /\ mul a b = e /\ mul b a = e := by
  obtain ⟨n, _, hn⟩ := h.om_ex sa
  have en := he.om_grp h ie sa h1 h2 ⟨n, rfl, hn⟩
  obtain ⟨w, sw, w1, w2⟩ := h.pw_split sa n
  have sew := h.cl (h.cl he.1 sw) he.1
  refine ⟨mul (mul e w) e, sew, ?_, ?_, ?_, ?_⟩
  . rw [<- h.as he.1 (h.cl he.1 sw) he.1, <- h.as he.1 he.1 sw, show mul e e = e from ie]
  . rw [h.as (h.cl he.1 sw) he.1 he.1, show mul e e = e from ie]
  . rw [<- h.as sa (h.cl he.1 sw) he.1, <- h.as sa he.1 sw, h2, <- w1, en]
    exact ie
  . rw [h.as (h.cl he.1 sw) he.1 sa, h1, h.as he.1 sw sa, <- w2, en]
    exact ie
end
end M
namespace M
section
variable {β : Type} [Mul β]
structure FM (one : β) (l : List β) : Prop where
  as : ∀ a b c : β, a * b * c = a * (b * c)
  l1 : ∀ a : β, one * a = a
  r1 : ∀ a : β, a * one = a
  fin : ∀ a : β, a ∈ l
structure Sub (one : β) (S : β -> Prop) : Prop where
  cl : ∀ {a b}, S a -> S b -> S (a * b)
  o : S one
abbrev mu : β -> β -> β := fun a b => a * b
theorem Sub.all {one : β} : Sub one (fun _ => True) := ⟨fun _ _ => trivial, trivial⟩
def je' (β : Type) [Mul β] : Prop := ∀ x y e f : β, Om mu (x * y) e -> Om mu (y * x) f -> e * (f * e) = e
structure Blk (e a b c d : β) : Prop where
  i : e * e = e
  one : e * (a * (c * e)) = e
  other : e * (b * (d * e)) = e
  both : e * (a * (b * (c * (d * e)))) ≠ e
theorem on' {e : β} (h : e * e = e) : Om mu e e := ⟨0, rfl, h⟩
structure Un (e a : β) : Prop where
  l : e * a = a
  r : a * e = a
  ex : ∃ b, e * b = b /\ b * e = b /\ a * b = e /\ b * a = e
theorem Un.mul {one : β} {l : List β} (h : FM one l) {e a b : β} (ha : Un e a) (hb : Un e b) : Un e (a * b) := by
  obtain ⟨a', p1, p2, p3, p4⟩ := ha.ex
  obtain ⟨b', q1, q2, q3, q4⟩ := hb.ex
  refine ⟨by rw [<- h.as, ha.l], by rw [h.as, hb.r], b' * a', by rw [<- h.as, q1], by rw [h.as, p2], ?_, ?_⟩
  . rw [h.as, <- h.as b, q3, p1, p3]
  . rw [h.as, <- h.as a', p4, hb.l, q4]
theorem je'.split {one : β} {l : List β} (h : FM one l) (st : je' β) {e x y : β} (ie : e * e = e) (hx : Un e (e * (x * e))) (hy : Un e (e * (y * e))) : e * (x * (y * e)) = e * (x * e) * (e * (y * e)) := by
  obtain ⟨p', p1, p2, p3, p4⟩ := hx.ex
  obtain ⟨q', q1, q2, q3, q4⟩ := hy.ex
  have ie' : ∀ z, e * (e * z) = e * z := fun z => by rw [<- h.as, ie]
  have p1' : ∀ z, e * (p' * z) = p' * z := fun z => by rw [<- h.as, p1]
  have p2' : ∀ z, p' * (e * z) = p' * z := fun z => by rw [<- h.as, p2]
  have q1' : ∀ z, e * (q' * z) = q' * z := fun z => by rw [<- h.as, q1]
  have q2' : ∀ z, q' * (e * z) = q' * z := fun z => by rw [<- h.as, q2]
  -- g = p' x, h = y q'
  have a1 : p' * (x * e) = e := by rw [<- p2', p4]
  have a1' : ∀ z, p' * (x * (e * z)) = e * z := fun z => by
    have := congrArg (· * z) a1
    simpa only [h.as] using this
  have a2 : e * (x * p') = e := by
    have := p3
    rw [h.as, h.as, p1] at this
    exact this
  have a2' : ∀ z, e * (x * (p' * z)) = e * z := fun z => by
    have := congrArg (· * z) a2
    simpa only [h.as] using this
  have b1 : e * (y * q') = e := by
    have := q3
    rw [h.as, h.as, q1] at this
    exact this
  have b1' : ∀ z, e * (y * (q' * z)) = e * z := fun z => by
    have := congrArg (· * z) b1
    simpa only [h.as] using this
  have b2 : q' * (y * e) = e := by rw [<- q2', q4]
  have b2' : ∀ z, q' * (y * (e * z)) = e * z := fun z => by
    have := congrArg (· * z) b2
    simpa only [h.as] using this
  -- e, h g
  have gi : (p' * x) * (p' * x) = p' * x := by
    rw [h.as, <- p2', a2', p2']
  have hi : (y * q') * (y * q') = y * q' := by
    rw [h.as]
    have : q' * (y * q') = q' := by
      have := b2' q'
      rw [q1] at this
      exact this
    rw [this]
  have o1 : Om mu (e * ((y * q') * (p' * x))) (p' * x) := by
    have : e * ((y * q') * (p' * x)) = p' * x := by rw [h.as, b1', p1']
    rw [this]; exact on' gi
  have o2 : Om mu (((y * q') * (p' * x)) * e) (y * q') := by
    have : ((y * q') * (p' * x)) * e = y * q' := by rw [h.as, h.as p', a1, h.as, q2]
    rw [this]; exact on' hi
  have k := st _ _ _ _ o1 o2
  -- g h g = g
  have k2 : (p' * x) * (y * q') = e := by
    have := congrArg (· * e) k
    simp only [h.as, a1, q2] at this
    simpa only [h.as] using this
  have k2' : p' * (x * (y * q')) = e := by rw [<- h.as]; exact k2
  have f1 : e * (x * e) * (p' * (x * (y * (q' * (e * (y * e)))))) = e * (x * (y * e)) := by
    have : q' * (e * (y * e)) = e := q4
    rw [this, h.as, h.as, p1', a2']
  rw [<- f1]
  have f2 : p' * (x * (y * (q' * (e * (y * e))))) = e * (y * e) := by
    have := congrArg (· * (e * (y * e))) k2'
    simp only [h.as, ie'] at this
    exact this
  rw [f2]
section
variable {one : β} {l : List β} (gen : Nat -> β)
def dd (one : β) : List Nat -> β
  | [] => one
  | c :: z => gen c * dd one z
def DL (one : β) (lot : List Nat) (d : β) : Prop := ∃ z, (∀ c ∈ z, c ∈ lot) /\ d = dd gen one z
def FL (one : β) (lot : List Nat) (d : β) : Prop := ∃ z, (∀ c ∈ z, c ∈ lot) /\ (∀ c ∈ lot, c ∈ z) /\ d = dd gen one z
variable {gen}
theorem l1' (h : FM one l) (x y : List Nat) : dd gen one (x ++ y) = dd gen one x * dd gen one y := by
  induction x with
  | nil => exact (h.l1 _).symm
  | cons c x ih => show gen c * dd gen one (x ++ y) = gen c * dd gen one x * dd gen one y; rw [ih, h.as]
theorem DL.sub (h : FM one l) {lot : List Nat} : Sub one (DL gen one lot) where
  cl := by
    rintro _ _ ⟨x, hx, rfl⟩ ⟨y, hy, rfl⟩
    exact ⟨x ++ y, fun c hc => (List.mem_append.1 hc).elim (hx c) (hy c), (l1' h x y).symm⟩
  o := ⟨[], by simp, rfl⟩
theorem FL.mul (h : FM one l) {lot : List Nat} {a b c : β} (ha : DL gen one lot a) (hb : FL gen one lot b) (hc : DL gen one lot c) : FL gen one lot (a * (b * c)) := by
  obtain ⟨x, x1, rfl⟩ := ha
  obtain ⟨y, y1, y2, rfl⟩ := hb
  obtain ⟨z, z1, rfl⟩ := hc
  refine ⟨x ++ (y ++ z), fun c hc => ?_, fun c hc => ?_, by rw [l1' h, l1' h]⟩
  . simp only [List.mem_append] at hc
    rcases hc with q | q | q
    . exact x1 c q
    . exact y1 c q
    . exact z1 c q
  . simp only [List.mem_append]
    exact .inr (.inl (y2 c hc))
end
end
section
variable {β : Type} [Mul β] {one : β} {l : List β}
end
end M
namespace M
section
local macro_rules | `(tactic| walk_at "s") => `(tactic| simp (disch := first | assumption | omega | decide) only [*, ↓x_C, ↓x_V, ↓vy', ↓vv', ↓tz', ↓tu', ↓qE', ↓ts', ↓tv', ↓vA', ↓vz', ↓vw', ↓vx', ↓x_O, ↓vu', ↓vt', ↓qF', ↓qB', ↓oF', ↓tx', ↓tw', ↓tt', ↓ty', qG', ↓mu', sr', vY', uJ', sK', uK', uk', uj', pl', t0', tZ', nz', sU', sT', na', pf', lH', m6', nk', t9', ua', qf', qe', nA', sV', sX', sW', pk', tY', tX', rD', pj', lw', pP', r5', o1', mS', mQ', mR', se', uM', ne', pS', ↓vr', ↓qz', ↓qA', ↓tq', ↓vq', ↓qD', ↓jX', ↓jW', ↓qC', ↓oG', ↓vB', ↓tr',
  ↓rd', ↓rf', ↓tP', ↓tO', ↓vD', ↓tN', ↓o4', ↓tR', ↓rc', ↓rb', ↓tQ', ↓o3', ↓tI', ↓qT',
  tD', tH', tC', tG', p5', pZ', no', uB', sI', sq', sD', p8', sA', nf', nx', nm', nn', nl', Option.map_some, Option.map_none, Option.isSome_some, Option.isSome_none, Bool.bne_true, Bool.bne_false, qm', pJ', pI', pL', pH', rY', pG', pK', p3', su', qc', sh', sF', ow', tB', qI', qH', qJ', tF', qR', qQ', qS', oK', qM', tJ', qK', qL', mA', qP', qO', qN', tE', an', jZ', eI', oN', oM',
  sQ', sO', sP', sN', qg', uc', us', sv', sw', sM', ut', un', uo', uO', uN', uP', uq', up', ur', beq_self_eq_true, qa', qb', l2', np', nq', nr', nj', uC', uD', nt', nu', vS', vT', vU', vW', uw', ux', uG', uI', uF', ss', oA', oB', sC', sE', i9', uz', gF', ns', aA', nC', ma', jA', nc', lQ', ql', ed', List.getElem?_map, b4', rR', ug', ui', uf', uh', oC', ny', so', sp', sG', p9', pU', ud', sL', qd', ja', nv', pT', uE', sJ', uX', uv', uu', sk', si', sj', pV', p4', p0', pW', hq', jG', hs', hp', ho', hr', ht', gB', hv', gD', gA', gz', gC', gE', hj', jF', hl', hi', hh', hk', hm', fa', gm', fc', e9', e8', fb', fd', gp', hn', gr', go', gn', gq', gs', gv', hu', gx', gu', gt', gw', gy', ub', uW', uV', sn', i8', sm', um', ul', sd', sg', sc', sf', uQ', uR', pY', pX', sz', s2', uL', vX', uH', vV', uy', sy', sB', mP', uA', sH', sl', ue', oL', pb', String.reduceEq, reduceIte, oJ', List.getElem?_set_self, List.getElem?_set_ne, List.set_set, p6', uS', p7', uU', uT', chD,
  decide_true, decide_false, frz, lY', s0', tn1, Int.zero_add, Bool.not_false, Bool.not_true, Bool.and_true, Bool.true_and, Bool.and_false, Bool.false_and, Bool.or_true, Bool.true_or, Bool.or_false, Bool.false_or, List.getElem?_cons_zero, List.getElem?_cons_succ, List.set_cons_zero, List.set_cons_succ, List.length_cons, List.length_nil, List.map_cons, List.map_nil, List.cons_append, List.nil_append, List.replicate_succ, List.replicate_zero, List.length_map, List.length_range, List.length_set, Int.toNat_natCast, and_self, or_true, true_or, true_and, and_true, or_self, Int.reduceToNat, Int.toNat_zero, Int.toNat_one, Int.reduceNeg, Int.reducePow, Int.reduceAdd, Int.reduceSub, Int.reduceMul, Int.reduceLT, Int.reduceLE, Nat.reduceAdd, Nat.reduceSub, Nat.reduceLT, Nat.reduceLeDiff])
local macro_rules | `(tactic| walk_at "f0") => `(tactic| (refine rF' ?_ rfl; simp only [List.map_cons, List.map_nil, List.replicate_succ, List.replicate_zero, List.cons_append, List.nil_append, Nat.reduceSub]))
local macro_rules | `(tactic| walk_at "f") => `(tactic| (walk_at "f0"; walk_at "s"))
local macro_rules | `(tactic| walk_at "l") => `(tactic| (intro env2_ he_; simp only [aA', List.set_cons_zero, List.set_cons_succ] at he_; rw [he_]; clear he_))
theorem jE' {w : W} {n : Nat} {m : Int} (h : cl' w n) (h1 : 0 < m) (h2 : m < 1606938044258990275541962092341162602522202993782792835301376) : wF (f__law_draw [.obj n, .int m] w) (fun o w' => ∃ d, o = .fz (.int d) /\ 0 <= d /\ d < m /\ cl' w' n /\ But n w w') FX := by
  obtain ⟨cells, i, b, s, c, hw, hi⟩ := h
  have hn := ga' hw
  unfold f__law_draw
  walk_at "f0"
  refine gY' (fun ρ => ∃ x w', ρ = ⟨[some (.fz (.obj n)), some (.fz (.int m)), x, none, none], w'⟩ /\ cl' w' n /\ But n w w') ?_ ?_
  . walk_at "s"
    refine bu' (fun hb => ?_) (fun hb => ?_)
    . walk_at "s"
      refine bu' (fun hc => ?_) (fun hc => ?_)
      . walk_at "s"
        refine aO' ?_ fun x _ hx => ?_
        . omega
        walk_at "s"
        refine bu' (fun hc => ?_) (fun hc => ?_)
        . walk_at "s"
          exact ⟨_, _, rfl, ⟨cells, _, _, _, _, List.getElem?_set_self hn, by omega⟩, But.refl.set⟩
        . walk_at "s"
          exact ⟨_, _, rfl, ⟨cells, _, _, _, _, List.getElem?_set_self hn, by omega⟩, But.refl.set⟩
      . walk_at "s"
        exact ⟨_, _, rfl, ⟨cells, _, _, _, _, hw, hi⟩, But.refl⟩
    . walk_at "s"
      exact ⟨_, _, rfl, ⟨cells, _, _, _, _, hw, hi⟩, But.refl⟩
  . rintro ρ1 ⟨x, w1, rfl, ⟨cells1, i1, b1, s1, c1, hw1, hi1⟩, bt⟩
    have hn1 := ga' hw1
    walk_at "s"
    refine bu' (fun hb => ?_) (fun hb => ?_)
    . walk_at "s"
      exact ⟨_, rfl, Int.emod_nonneg _ (by omega), Int.emod_lt_of_pos _ h1, ⟨cells1, _, _, _, _, List.getElem?_set_self hn1, hi1⟩, bt.set⟩
    . walk_at "s"
      exact ⟨_, rfl, Int.emod_nonneg _ (by omega), Int.emod_lt_of_pos _ h1, ⟨cells1, _, _, _, _, List.getElem?_set_self hn1, hi1⟩, bt.set⟩
theorem aB' {w : W} {n : Nat} {m : Int} (h : cl' w n) (h1 : 0 < m) (h2 : m < 1606938044258990275541962092341162602522202993782792835301376) : wF (f__law_draw [.obj n, .int m] w) (fun o w' => ∃ d : Nat, o = .fz (.int (d : Nat)) /\ (d : Int) < m /\ cl' w' n /\ But n w w') FX := by
  refine (jE' h h1 h2).mono ?_
  rintro _ w' ⟨d, rfl, h3, h4, h5, h6⟩
  exact ⟨d.toNat, by rw [Int.toNat_of_nonneg h3], by rw [Int.toNat_of_nonneg h3]; exact h4, h5, h6⟩
theorem lX' {w : W} {ns : List Int} (hl : ns.length <= 63) : wF (f__law_hand [.scr (ns.map .int)] w) (fun o w' => o = .fz (.obj w.length) /\ cl' w' w.length /\ w'.length = w.length + 1 /\ ∀ j, j < w.length -> w'[j]? = w[j]?) FX := by
  unfold f__law_hand
  walk_at "f"
  have e : cut (ns.map D.int) none (some 63) = (ns.take 63).map .int := by
    rw [oC' (by decide), <- List.map_take]
    rfl
  have e2 : ns.take 63 = ns := List.take_of_length_le hl
  rw [e2] at e
  try rw [e]
  try rw [show List.take 63 (List.map D.int ns) = ns.map D.int by rw [<- List.map_take, e2]]
  refine ev' (by omega) (fun pre acc ρ => acc = pre.map (fun i => .int (if i < 0 then -i else i)) /\ ∃ x, ρ = ⟨[some (.fz (.scr (ns.map .int))), none, x], w⟩) ⟨rfl, _, rfl⟩ ?_ ?_
  . rintro pre c post acc _ e ⟨rfl, x, rfl⟩
    walk_at "s"
    exact ⟨by simp, _, rfl⟩
  . rintro acc _ ⟨rfl, x, rfl⟩
    walk_at "s"
    refine ⟨⟨ns.map (fun i => if i < 0 then -i else i), 0, 0, 1 + ns.length, 0, ?_, by decide⟩, by simp, fun j hj => ?_⟩
    . rw [List.getElem?_append_right (Nat.le_refl _), Nat.sub_self]
      rw [List.map_map]
      rfl
    . rw [List.getElem?_append_left hj]
theorem a5' (s S : Tx) (w : W) : wF (f_is_string_of [.str s, .str S] w) (fun o w' => o = .fz (.bl (s.all fun c => decide (c ∈ S))) /\ w' = w) FX := by
  unfold f_is_string_of
  walk_at "f"
  refine he' (fun pre ρ => ∃ x, ρ = ⟨[some (.fz (.str s)), some (.fz (.str S)), x], w⟩ /\ ∀ c ∈ pre, c ∈ S) ⟨_, rfl, by simp⟩ ?_ ?_
  . rintro pre c post _ e ⟨x, rfl, hp⟩
    walk_at "s"
    refine bu' (fun h => ?_) (fun h => ?_)
    . walk_at "s"
      exact ⟨_, rfl, by simpa [or_imp, forall_and] using ⟨hp, h⟩⟩
    . walk_at "s"
      refine v1' ?_
      rw [List.all_eq_false]
      exact ⟨c, by simp, by simpa using h⟩
  . rintro _ ⟨x, rfl, hp⟩
    walk_at "s"
    refine v0' ?_
    rw [List.all_eq_true]
    exact fun c hc => by simpa using hp c hc
theorem ca' {d : D} (h : ∃ t, tyn d = some t /\ t ≠ "str") (S : Tx) (w : W) : wF (f_is_string_of [d, .str S] w) (fun o w' => o = .fz (.bl false) /\ w' = w) FX := by
  unfold f_is_string_of
  cases d <;> simp [tyn] at h
  all_goals walk_at "f"
abbrev HN : Tx := [65, 66, 67, 68]
abbrev SG : Tx := [97, 98, 99, 100, 101, 102, 103, 104, 105, 106, 107, 108, 109, 110, 111, 112, 113, 114, 115, 116, 117, 118, 119, 120, 121, 122, 46]
def NoS (d : D) : Prop := ∃ t, tyn d = some t /\ t ≠ "str"
def mj' (d : D) : Prop := NoS d \/ ∃ s, d = .str s /\ (s = [] \/ ∃ c ∈ s, c ∉ HN)
def OkD (s : Tx) : Prop := s ≠ [] /\ ∀ c ∈ s, c ∈ HN
def FE (c : String) (w : W) : Exc -> W -> Prop := fun x w' => x = ⟨c, []⟩ /\ w' = w
theorem ch' {s : Tx} (h : OkD s) (w : W) : wF (f_check_dealing [.str s] w) (fun o w' => o = .fz .non /\ w' = w) FX := by
  have h0 := h.1
  have e1 : (s.all fun c => decide (c ∈ HN)) = true := List.all_eq_true.mpr fun c hc => decide_eq_true (h.2 c hc)
  have k := a5' s HN w
  rw [e1] at k
  unfold f_check_dealing
  walk_at "f0"
  clear h e1
  walk_at "s"
  refine k.mono ?_
  rintro _ _ ⟨rfl, rfl⟩
  walk_at "s"
theorem dO' {d : D} (h : mj' d) (w : W) : wF (f_check_dealing [d] w) (fun _ _ => False) (FE "NoDealing" w) := by
  rcases h with h | ⟨s, rfl, h⟩
  . have k := ca' h HN w
    unfold f_check_dealing
    walk_at "f0"
    clear h
    walk_at "s"
    refine k.monoX ?_ (fun _ _ h => h.elim)
    rintro _ _ ⟨rfl, rfl⟩
    walk_at "s"
    exact ⟨rfl, rfl⟩
  . have k := a5' s HN w
    unfold f_check_dealing
    walk_at "f0"
    rcases h with rfl | ⟨c, hc, hn⟩
    . rw [show (([] : Tx).all fun c => decide (c ∈ HN)) = true from rfl] at k
      walk_at "s"
      refine k.monoX ?_ (fun _ _ h => h.elim)
      rintro _ _ ⟨rfl, rfl⟩
      walk_at "s"
      exact ⟨rfl, rfl⟩
    . have e1 : (s.all fun c => decide (c ∈ HN)) = false := List.all_eq_false.mpr ⟨c, hc, by simpa using hn⟩
      rw [e1] at k
      clear hc hn e1
      walk_at "s"
      refine k.monoX ?_ (fun _ _ h => h.elim)
      rintro _ _ ⟨rfl, rfl⟩
      walk_at "s"
      exact ⟨rfl, rfl⟩
theorem ov' {c : Nat} (h : c ∈ HN) : gR' HN [c] = some (c - 65) := by
  simp only [List.mem_cons, List.not_mem_nil, or_false] at h
  rcases h with rfl | rfl | rfl | rfl <;> decide
def hmx (m : Nat) (s : Tx) : Nat := s.foldl (fun m c => max m (c - 65 + 1)) m
theorem by' {s : Tx} (h : ∀ c ∈ s, c ∈ HN) (w : W) : wF (f_hands_of [.str s] w) (fun o w' => o = .fz (.str (HN.take (hmx 2 s))) /\ w' = w) FX := by
  unfold f_hands_of
  walk_at "f0"
  walk_at "s"
  refine he' (fun pre ρ => ∃ x, ρ = ⟨[some (.fz (.str s)), some (.fz (.int (hmx 2 pre : Nat))), x], w⟩) ⟨_, rfl⟩ ?_ ?_
  . rintro pre c post _ e ⟨x, rfl⟩
    have hc : c ∈ HN := h c (by rw [e]; simp)
    have e3 : hmx 2 (pre ++ [c]) = max (hmx 2 pre) (c - 65 + 1) := by unfold hmx; rw [List.foldl_append]; rfl
    clear h e
    have e4 : gR' [65, 66, 67, 68] [c] = some (c - 65) := ov' hc
    walk_at "s"
    exact ⟨_, by rw [show ((max (hmx 2 pre) (c - 65 + 1) : Nat) : Int) = max (hmx 2 pre : Int) ((c - 65 : Nat) + 1) by omega]⟩
  . rintro _ ⟨x, rfl⟩
    walk_at "s"
theorem i2' (s : Tx) : ∀ m, m <= hmx m s /\ ∀ c ∈ s, c - 65 < hmx m s := by
  unfold hmx
  induction s with
  | nil => exact fun m => ⟨Nat.le_refl _, by simp⟩
  | cons a s ih =>
    intro m
    obtain ⟨h1, h2⟩ := ih (max m (a - 65 + 1))
    rw [List.foldl_cons]
    refine ⟨by omega, fun c hc => ?_⟩
    rcases List.mem_cons.mp hc with rfl | hc
    . omega
    . exact h2 c hc
theorem lW' {s : Tx} (h : ∀ c ∈ s, c ∈ HN) : ∀ m, m <= 4 -> hmx m s <= 4 := by
  unfold hmx
  induction s with
  | nil => exact fun m hm => hm
  | cons a s ih =>
    intro m hm
    rw [List.foldl_cons]
    refine ih (fun c hc => h c (List.mem_cons_of_mem _ hc)) _ ?_
    have := h a (List.mem_cons_self ..)
    simp only [List.mem_cons, List.not_mem_nil, or_false] at this
    omega
def cC' (s : Tx) : Tx := HN.take (hmx 2 s)
theorem i1' {s : Tx} (h : ∀ c ∈ s, c ∈ HN) : 2 <= (cC' s).length /\ (cC' s).length <= 4 := by
  have h1 := (i2' s 2).1
  have h2 := lW' h 2 (by decide)
  unfold cC'
  rw [List.length_take]
  show 2 <= min _ 4 /\ min _ 4 <= 4
  omega
theorem i3' {s : Tx} (h : ∀ c ∈ s, c ∈ HN) {c : Nat} (hc : c ∈ s) : gR' (cC' s) [c] = some (c - 65) /\ c - 65 < (cC' s).length /\ c ∈ cC' s := by
  have h1 := (i2' s 2).1
  have h2 := lW' h 2 (by decide)
  have h3 := (i2' s 2).2 c hc
  have h4 := h c hc
  unfold cC'
  generalize hmx 2 s = m at h1 h2 h3
  have h5 : m = 2 \/ m = 3 \/ m = 4 := by omega
  simp only [List.mem_cons, List.not_mem_nil, or_false] at h4
  rcases h4 with rfl | rfl | rfl | rfl <;> rcases h5 with rfl | rfl | rfl <;> first | (exfalso; omega) | decide
theorem fo' {α β : Type} (f : α -> D) (g : β -> D) : ∀ (a : List α) (b : List β), ce' (a.map f) (b.map g) = (a.zip b).map fun p => .tup [f p.1, g p.2]
  | [], _ => by simp [ce']
  | _ :: _, [] => by simp [ce']
  | x :: a, y :: b => by simp [ce', fo' f g a b]
theorem ex' {α : Type} (f : α -> D) : ∀ (a : List α) (k : Nat), cD' k (a.map f) = (a.zipIdx k).map fun p => .tup [.int (p.2 : Nat), f p.1]
  | [], _ => rfl
  | x :: a, k => by
    rw [List.map_cons, List.zipIdx_cons, List.map_cons, <- ex' f a (k + 1)]
    rfl
def mr' (n : Nat) (d : D) : Prop := NoS d \/ ∃ s, d = .str s /\ ((∃ c ∈ s, c ∉ SG) \/ s.length ≠ n)
def OkR (n : Nat) (s : Tx) : Prop := s.length = n /\ ∀ c ∈ s, c ∈ SG
theorem dH' {s r : Tx} (h : OkR s.length r) (w : W) : wF (f_is_row [.str s, .str r, .str SG] w) (fun o w' => o = .fz (.bl true) /\ w' = w) FX := by
  have h0 := h.1
  have e1 : (r.all fun c => decide (c ∈ SG)) = true := List.all_eq_true.mpr fun c hc => decide_eq_true (h.2 c hc)
  have k := a5' r SG w
  rw [e1] at k
  unfold f_is_row
  walk_at "f0"
  clear h e1
  walk_at "s"
  refine k.mono ?_
  rintro _ _ ⟨rfl, rfl⟩
  walk_at "s"
theorem ew' {s : Tx} {d : D} (h : mr' s.length d) (w : W) : wF (f_is_row [.str s, d, .str SG] w) (fun o w' => o = .fz (.bl false) /\ w' = w) FX := by
  rcases h with h | ⟨r, rfl, h⟩
  . have k := ca' h SG w
    unfold f_is_row
    walk_at "f0"
    clear h
    walk_at "s"
    refine k.mono ?_
    rintro _ _ ⟨rfl, rfl⟩
    walk_at "s"
  . have k := a5' r SG w
    unfold f_is_row
    walk_at "f0"
    by_cases hc : ∃ c ∈ r, c ∉ SG
    . obtain ⟨c, hc, hn⟩ := hc
      have e1 : (r.all fun c => decide (c ∈ SG)) = false := List.all_eq_false.mpr ⟨c, hc, by simpa using hn⟩
      rw [e1] at k
      clear hc hn e1 h
      walk_at "s"
      refine k.mono ?_
      rintro _ _ ⟨rfl, rfl⟩
      walk_at "s"
    . have h := h.resolve_left hc
      have e1 : (r.all fun c => decide (c ∈ SG)) = true := List.all_eq_true.mpr fun c hc2 => decide_eq_true (Classical.byContradiction fun hn => hc ⟨c, hc2, hn⟩)
      rw [e1] at k
      clear hc e1
      walk_at "s"
      refine k.mono ?_
      rintro _ _ ⟨rfl, rfl⟩
      have e2 : ¬ ((r.length : Int) = s.length) := by omega
      walk_at "s"
theorem c7' {s r : Tx} (h : OkR s.length r) (w : W) : wF (f_check_row [.str s, .str r, .str SG] w) (fun o w' => o = .fz .non /\ w' = w) FX := by
  have k := dH' h w
  unfold f_check_row
  walk_at "f0"
  clear h
  walk_at "s"
  refine k.mono ?_
  rintro _ _ ⟨rfl, rfl⟩
  walk_at "s"
theorem ff' {s : Tx} {d : D} (h : mr' s.length d) (w : W) : wF (f_check_row [.str s, d, .str SG] w) (fun _ _ => False) (FE "NoRow" w) := by
  have k := ew' h w
  unfold f_check_row
  walk_at "f0"
  clear h
  walk_at "s"
  refine k.monoX ?_ (fun _ _ h => h.elim)
  rintro _ _ ⟨rfl, rfl⟩
  walk_at "s"
  exact ⟨rfl, rfl⟩
def sgt (s r : Tx) (h : Nat) : Tx := ((s.zip r).filter fun p => decide (p.1 = h)).map (·.2)
theorem jn' (s r : Tx) (h : Nat) (hs : s.length <= 1000) (w : W) : wF (f_sight [.str s, .str r, .str [h]] w) (fun o w' => o = .fz (.str (sgt s r h)) /\ w' = w) FX := by
  unfold f_sight
  walk_at "f"
  rw [fo']
  refine or' (fun p => decide (p.1 = h)) (fun p => chD p.2) (by rw [List.length_zip]; omega) ?_ ?_
  . rintro ⟨a, b⟩ _
    walk_at "s"
    exact ⟨by simp, fun _ => trivial⟩
  walk_at "l"
  have e : (((s.zip r).filter fun p => decide (p.1 = h)).map fun p => chD p.2) = (sgt s r h).map chD := by
    unfold sgt
    rw [List.map_map]
    rfl
  have l : (sgt s r h).length <= 1000 := by
    unfold sgt
    have := List.length_filter_le (fun p : Nat × Nat => decide (p.1 = h)) (s.zip r)
    rw [List.length_zip] at this
    rw [List.length_map]
    omega
  rw [e]
  walk_at "s"
def ms' (hs : Tx) (d : D) : Prop := NoS d \/ ∃ t, d = .str t /\ (t.length ≠ 1 \/ ∃ c, t = [c] /\ c ∉ hs)
theorem k7' {s r : Tx} {h : Nat} (hs : OkD s) (hl : s.length <= 1000) (hr : OkR s.length r) (hh : h ∈ cC' s) (w : W) : wF (f_seen [.str s, .str r, .str [h]] w) (fun o w' => o = .fz (.str (sgt s r h)) /\ w' = w) FX := by
  have k1 := ch' hs w
  have k2 := c7' hr w
  have k3 := by' hs.2 w
  have k4 := jn' s r h hl w
  rw [show HN.take (hmx 2 s) = cC' s from rfl] at k3
  unfold f_seen
  walk_at "f0"
  clear hs hr hl
  walk_at "s"
  refine k1.mono ?_
  rintro _ _ ⟨rfl, rfl⟩
  rename_i w
  clear k1
  walk_at "s"
  refine k2.mono ?_
  rintro _ _ ⟨rfl, rfl⟩
  rename_i w
  clear k2
  walk_at "s"
  refine k3.mono ?_
  rintro _ _ ⟨rfl, rfl⟩
  rename_i w
  clear k3
  walk_at "s"
theorem la' {d r h : D} (hd : mj' d) (w : W) : wF (f_seen [d, r, h] w) (fun _ _ => False) (FE "NoDealing" w) := by
  have k1 := dO' hd w
  unfold f_seen
  walk_at "f0"
  clear hd
  walk_at "s"
  refine k1.monoX (fun _ _ h => h.elim) ?_
  rintro _ _ ⟨rfl, rfl⟩
  exact ⟨rfl, rfl⟩
theorem k8' {s : Tx} {r h : D} (hs : OkD s) (hr : mr' s.length r) (w : W) : wF (f_seen [.str s, r, h] w) (fun _ _ => False) (FE "NoRow" w) := by
  have k1 := ch' hs w
  have k2 := ff' hr w
  unfold f_seen
  walk_at "f0"
  clear hs hr
  walk_at "s"
  refine k1.monoX ?_ (fun _ _ h => h.elim)
  rintro _ _ ⟨rfl, rfl⟩
  rename_i w
  clear k1
  walk_at "s"
  refine k2.monoX (fun _ _ h => h.elim) ?_
  rintro _ _ ⟨rfl, rfl⟩
  exact ⟨rfl, rfl⟩
theorem k9' {s r : Tx} {h : D} (hs : OkD s) (hr : OkR s.length r) (hh : ms' (cC' s) h) (w : W) : wF (f_seen [.str s, .str r, h] w) (fun _ _ => False) (FE "NoHand" w) := by
  have k1 := ch' hs w
  have k2 := c7' hr w
  have k3 := by' hs.2 w
  rw [show HN.take (hmx 2 s) = cC' s from rfl] at k3
  unfold f_seen
  walk_at "f0"
  clear hs hr
  rcases hh with hh | ⟨t, rfl, hh⟩
  . clear k3
    have hp : ∀ P : D -> Prop, wD (bp' "str" h) P = P (.bl false) := fun P => by
      obtain ⟨t, h1, h2⟩ := hh
      have e : (t == "str" || (t == "bool" && "str" == "int")) = false := by
        rw [show ("str" == "int") = false from rfl, Bool.and_false, Bool.or_false]
        exact beq_false_of_ne h2
      unfold bp'
      rw [h1, Option.map_some, e, an']
    clear hh
    walk_at "s"
    refine k1.monoX ?_ (fun _ _ h => h.elim)
    rintro _ _ ⟨rfl, rfl⟩
    rename_i w
    clear k1
    walk_at "s"
    refine k2.monoX ?_ (fun _ _ h => h.elim)
    rintro _ _ ⟨rfl, rfl⟩
    rename_i w
    clear k2
    walk_at "s"
    exact ⟨rfl, rfl⟩
  . walk_at "s"
    refine k1.monoX ?_ (fun _ _ h => h.elim)
    rintro _ _ ⟨rfl, rfl⟩
    rename_i w
    clear k1
    walk_at "s"
    refine k2.monoX ?_ (fun _ _ h => h.elim)
    rintro _ _ ⟨rfl, rfl⟩
    rename_i w
    clear k2
    rcases hh with hh | ⟨c, rfl, hc⟩
    . have e : ¬ ((t.length : Int) = 1) := by omega
      clear k3
      walk_at "s"
      exact ⟨rfl, rfl⟩
    . walk_at "s"
      refine k3.monoX ?_ (fun _ _ h => h.elim)
      rintro _ _ ⟨rfl, rfl⟩
      rename_i w
      clear k3
      walk_at "s"
      exact ⟨rfl, rfl⟩
theorem px' {own : List Nat} {g : MG} {t : MT} {e : ME} {ds : List D} {Q : List D -> PSt -> Prop} {X : Exc -> PSt -> Prop} {env : List (Option O)} {w : W} (v : D -> D) (hl : ds.length <= 16777216)
    (step : ∀ c ∈ ds, wD (g c ⟨aA' own env, w⟩) fun ρ1 => wE (t ρ1) (fun k ρ2 => k = true /\ wE (e ρ2) (fun y ρ3 => y = v c /\ ρ3.w = w /\ aA' own ρ3.env = aA' own env) PX) PX)
    (hend : ∀ env2, aA' own env2 = aA' own env -> Q (ds.map v) ⟨env2, w⟩) : wE (lcL own g t e ds [] ⟨env, w⟩) Q X := by
  have h := dG' (f := fun d : D => d) (cs := ds) (own := own) (g := g) (t := t) (e := e) (Q := Q) (X := X) (env := env) (w := w) v hl step hend
  rwa [List.map_id'] at h
def op' (n : Nat) : D -> Bool
  | .str r => decide (r.length = n) && r.all fun c => decide (c ∈ SG)
  | _ => false
def u6' (n : Nat) (d : D) : Prop := (∃ r, d = .str r /\ OkR n r) \/ mr' n d
theorem pi' {n : Nat} {r : Tx} (h : OkR n r) : op' n (.str r) = true := by
  show (decide (r.length = n) && r.all fun c => decide (c ∈ SG)) = true
  rw [decide_eq_true h.1, Bool.true_and]
  exact List.all_eq_true.mpr fun c hc => decide_eq_true (h.2 c hc)
theorem iS' {n : Nat} {d : D} (h : mr' n d) : op' n d = false := by
  rcases h with ⟨t, h1, h2⟩ | ⟨r, rfl, h⟩
  . cases d with
    | str s => exact absurd (Option.some.inj h1).symm h2
    | _ => rfl
  . show (decide (r.length = n) && r.all fun c => decide (c ∈ SG)) = false
    rcases h with ⟨c, hc, hn⟩ | h
    . rw [show (r.all fun c => decide (c ∈ SG)) = false from List.all_eq_false.mpr ⟨c, hc, by simpa using hn⟩, Bool.and_false]
    . rw [decide_eq_false h, Bool.false_and]
theorem jB' {s : Tx} {d : D} (h : u6' s.length d) (w : W) : wF (f_is_row [.str s, d, .str SG] w) (fun o w' => o = .fz (.bl (op' s.length d)) /\ w' = w) FX := by
  rcases h with ⟨r, rfl, h⟩ | h
  . rw [pi' h]; exact dH' h w
  . rw [iS' h]; exact ew' h w
def crs (s : Tx) (R : List Tx) : Tx := (List.range s.length).map fun i => (R.getD (s.getD i 0 - 65) []).getD i 0
def s6' (s : Tx) (d : D) : Prop := (∃ t, tyn d = some t /\ t ≠ "list") \/ ∃ ds, d = .lst ds /\ ds.length <= 100 /\ (ds.length ≠ (cC' s).length \/ ((∀ x ∈ ds, u6' s.length x) /\ ∃ x ∈ ds, mr' s.length x))
theorem gH' {d r : D} (hd : mj' d) (w : W) : wF (f_crossed [d, r] w) (fun _ _ => False) (FE "NoDealing" w) := by
  have k1 := dO' hd w
  unfold f_crossed
  walk_at "f0"
  clear hd
  walk_at "s"
  refine k1.monoX (fun _ _ h => h.elim) ?_
  rintro _ _ ⟨rfl, rfl⟩
  exact ⟨rfl, rfl⟩
theorem gG' {s : Tx} {d : D} (hs : OkD s) (hd : s6' s d) (w : W) : wF (f_crossed [.str s, d] w) (fun _ _ => False) (FE "NoRows" w) := by
  have k1 := ch' hs w
  have k3 := by' hs.2 w
  rw [show HN.take (hmx 2 s) = cC' s from rfl] at k3
  unfold f_crossed
  walk_at "f0"
  clear hs
  rcases hd with hh | ⟨ds, rfl, hl, hh⟩
  . have hp : ∀ P : D -> Prop, wD (bp' "list" d) P = P (.bl false) := fun P => by
      obtain ⟨t, h1, h2⟩ := hh
      have e : (t == "list" || (t == "bool" && "list" == "int")) = false := by
        rw [show ("list" == "int") = false from rfl, Bool.and_false, Bool.or_false]
        exact beq_false_of_ne h2
      unfold bp'
      rw [h1, Option.map_some, e, an']
    clear hh
    walk_at "s"
    refine k1.monoX ?_ (fun _ _ h => h.elim)
    rintro _ _ ⟨rfl, rfl⟩
    rename_i w
    clear k1
    walk_at "s"
    refine k3.monoX ?_ (fun _ _ h => h.elim)
    rintro _ _ ⟨rfl, rfl⟩
    rename_i w
    clear k3
    walk_at "s"
    exact ⟨rfl, rfl⟩
  . by_cases he : ds.length = (cC' s).length
    . obtain ⟨ha, x, hx, hb⟩ := hh.resolve_left fun z => z he
      have kr := fun w d h => jB' (s := s) (d := d) h w
      have e1 : (ds.map (op' s.length)).all id = false := List.all_eq_false.mpr ⟨op' s.length x, List.mem_map.mpr ⟨x, hx, rfl⟩, by rw [iS' hb]; simp⟩
      clear hh hb hx
      walk_at "s"
      refine k1.monoX ?_ (fun _ _ h => h.elim)
      rintro _ _ ⟨rfl, rfl⟩
      rename_i w
      clear k1
      walk_at "s"
      refine k3.monoX ?_ (fun _ _ h => h.elim)
      rintro _ _ ⟨rfl, rfl⟩
      rename_i w
      clear k3
      walk_at "s"
      refine px' (fun d => .bl (op' s.length d)) (by omega) ?_ ?_
      . intro c hc
        have hc := ha c hc
        clear ha e1 he
        walk_at "s"
        refine (kr w c hc).mono ?_
        rintro _ _ ⟨rfl, rfl⟩
        walk_at "s"
      clear ha kr
      walk_at "l"
      rw [show (ds.map fun d => D.bl (op' s.length d)) = (ds.map (op' s.length)).map .bl by rw [List.map_map]; rfl]
      walk_at "s"
      exact ⟨rfl, rfl⟩
    . have he2 : ¬ ((ds.length : Int) = (cC' s).length) := by omega
      clear hh
      walk_at "s"
      refine k1.monoX ?_ (fun _ _ h => h.elim)
      rintro _ _ ⟨rfl, rfl⟩
      rename_i w
      clear k1
      walk_at "s"
      refine k3.monoX ?_ (fun _ _ h => h.elim)
      rintro _ _ ⟨rfl, rfl⟩
      rename_i w
      clear k3
      walk_at "s"
      exact ⟨rfl, rfl⟩
theorem bX' {α : Type} {l : List α} {i : Nat} {x d : α} (h : l[i]? = some x) : l.getD i d = x := by
  rw [List.getD_eq_getElem?_getD, h]; rfl
theorem fm' (s : Tx) : s.zipIdx = (List.range s.length).map fun i => (s.getD i 0, i) := by
  apply List.ext_getElem
  . rw [List.length_zipIdx, List.length_map, List.length_range]
  . intro i h1 h2
    rw [List.length_zipIdx] at h1
    rw [List.getElem_zipIdx, List.getElem_map, List.getElem_range, List.getD_eq_getElem?_getD, List.getElem?_eq_getElem h1]
    simp
theorem eA' {s : Tx} {R : List Tx} (hs : OkD s) (hl : s.length <= 1000) (hR : R.length = (cC' s).length) (ha : ∀ r ∈ R, OkR s.length r) (w : W) : wF (f_crossed [.str s, .lst (R.map .str)] w) (fun o w' => o = .fz (.str (crs s R)) /\ w' = w) FX := by
  have k1 := ch' hs w
  have k3 := by' hs.2 w
  have kn := fun c (hc : c ∈ s) => i3' hs.2 hc
  have hh := (i1' hs.2).2
  rw [show HN.take (hmx 2 s) = cC' s from rfl] at k3
  have he : ((R.map D.str).length : Int) = (cC' s).length := by rw [List.length_map]; omega
  have kr := fun w r (h : r ∈ R) => dH' (s := s) (ha r h) w
  unfold f_crossed
  walk_at "f0"
  clear hs
  walk_at "s"
  refine k1.mono ?_
  rintro _ _ ⟨rfl, rfl⟩
  rename_i w
  clear k1
  walk_at "s"
  refine k3.mono ?_
  rintro _ _ ⟨rfl, rfl⟩
  rename_i w
  clear k3
  walk_at "s"
  refine dG' (f := D.str) (cs := R) (fun _ => .bl true) (by omega) ?_ ?_
  . intro r hr
    walk_at "s"
    refine (kr w r hr).mono ?_
    rintro _ _ ⟨rfl, rfl⟩
    walk_at "s"
  clear kr
  have e1 : (R.map fun _ => true).all id = true := List.all_eq_true.mpr fun x hx => by
    obtain ⟨_, _, rfl⟩ := List.mem_map.mp hx
    rfl
  walk_at "l"
  rw [show (R.map fun _ => D.bl true) = (R.map fun _ => true).map .bl by rw [List.map_map]; rfl]
  clear he
  walk_at "s"
  rw [ex']
  have lz : (s.zipIdx).length = s.length := List.length_zipIdx
  refine dG' (fun p => chD ((R.getD (p.1 - 65) []).getD p.2 0)) (by omega) ?_ ?_
  . rintro ⟨c, i⟩ hm
    obtain ⟨h1, h2⟩ : c ∈ s /\ i < s.length := by
      have h := List.mem_zipIdx hm
      refine ⟨?_, by omega⟩
      rw [h.2.2]
      exact List.getElem_mem _
    obtain ⟨g1, g2, g3⟩ := kn c h1
    obtain ⟨r, hr⟩ : ∃ r, R[c - 65]? = some r := ⟨_, List.getElem?_eq_getElem (by omega)⟩
    have hrm : r ∈ R := List.mem_of_getElem? hr
    have hrl := (ha r hrm).1
    obtain ⟨x, hx⟩ : ∃ x, r[i]? = some x := ⟨_, List.getElem?_eq_getElem (by omega)⟩
    rw [bX' hr, bX' hx]
    clear kn ha hm lz e1
    walk_at "s"
  walk_at "l"
  have e : (s.zipIdx.map fun p => chD ((R.getD (p.1 - 65) []).getD p.2 0)) = (crs s R).map chD := by
    unfold crs
    rw [fm', List.map_map, List.map_map]
    rfl
  have l : (crs s R).length <= 1000 := by
    unfold crs
    rw [List.length_map, List.length_range]
    omega
  rw [e]
  clear kn ha e1
  walk_at "s"
def oU' (p : Nat × Nat × Nat) : D := .tup [.str [p.1], .int (p.2.1 : Nat), .int (p.2.2 : Nat)]
def wid (P : List (Nat × Nat × Nat)) : Int := (P.map fun p => (p.2.2 : Int) - p.2.1).sum
theorem oH' (P : List (Nat × Nat × Nat)) (p : Nat × Nat × Nat) : wid (P ++ [p]) = wid P + ((p.2.2 : Int) - p.2.1) := by
  unfold wid
  rw [List.map_append, List.sum_append]
  simp
theorem iF' (P : List (Nat × Nat × Nat)) (c st m : Nat) (M : Int) (h : M = (m : Nat)) : (P.map oU' ++ [D.tup [.str [c], .int (st : Nat), .int M]]) = (P ++ [(c, st, m)]).map oU' := by
  subst h
  simp [oU']
theorem eV' {s : Tx} (h0 : s ≠ []) (hl : s.length <= 1000) (w : W) : wF (f_parts_of [.str s] w) (fun o w' => (∃ P, o = .lst ((P.map oU').map .fz) /\ wid P = s.length /\ P.length <= s.length) /\ w' = w) FX := by
  have hn : 1 <= s.length := by
    cases s with
    | nil => exact absurd rfl h0
    | cons a b => simp
  unfold f_parts_of
  walk_at "f0"
  clear h0
  walk_at "s"
  have eN : (s.length : Int) + 1 - 1 = s.length := by omega
  clear eN
  refine dJ' (fun k ρ => ∃ P st x, ρ = ⟨[some (.fz (.str s)), some (.lst ((P.map oU').map .fz)), some (.fz (.int (st : Nat))), x], w⟩ /\ wid P = st /\ st <= k /\ (k = s.length -> st = k) /\ P.length <= k) ⟨[], 0, _, rfl, rfl, Nat.le_refl _, fun e => by omega, Nat.le_refl _⟩ ?_ ?_
  . rintro k _ hk ⟨P, st, x, rfl, hP, hst, -, hPl⟩
    have hst2 : st < s.length := by omega
    have hW : ∀ x, wid (P ++ [(x, st, k + 1)]) = ((k + 1 : Nat) : Int) := fun x => by
      rw [oH', hP]
      show (st : Int) + (((k + 1 : Nat) : Int) - (st : Nat)) = ((k + 1 : Nat) : Int)
      omega
    walk_at "s"
    refine bu' (fun c => ?_) (fun c => ?_)
    . walk_at "s"
      refine aO' (by omega) fun x hx _ => ?_
      walk_at "s"
      refine ⟨P ++ [(x, st, k + 1)], k + 1, some (.fz (.int (s.length : Nat))), ?_, hW x, Nat.le_refl _, fun _ => rfl, by simp; omega⟩
      rw [iF' P x st (k + 1) _ (by omega), show ((k + 1 : Nat) : Int) = (s.length : Nat) by omega]
    . walk_at "s"
      refine aO' (by omega) fun y hy _ => ?_
      walk_at "s"
      refine aO' (by omega) fun x hx hx2 => ?_
      walk_at "s"
      refine cM' (fun c => ?_) (fun c => ?_)
      . walk_at "s"
        exact ⟨P, st, _, rfl, hP, by omega, fun e => by omega, by omega⟩
      . walk_at "s"
        refine ⟨P ++ [(x, st, k + 1)], k + 1, some (.fz (.int (1 + (k : Int)))), ?_, hW x, Nat.le_refl _, fun _ => rfl, by simp; omega⟩
        rw [iF' P x st (k + 1) _ (by omega), show ((k + 1 : Nat) : Int) = 1 + (k : Int) by omega]
  . rintro _ ⟨P, st, x, rfl, hP, hst, he, hPl⟩
    walk_at "s"
    exact ⟨P, rfl, by rw [hP, he (by omega)]; omega, by omega⟩
def q4' (p : Nat × Nat × Nat) : D := .tup [.str [p.1], .int ((p.2.2 : Int) - p.2.1)]
theorem eM' {d : D} (hd : mj' d) (w : W) : wF (f_stretches [d] w) (fun _ _ => False) (FE "NoDealing" w) := by
  have k1 := dO' hd w
  unfold f_stretches
  walk_at "f0"
  clear hd
  walk_at "s"
  refine k1.monoX (fun _ _ h => h.elim) ?_
  rintro _ _ ⟨rfl, rfl⟩
  exact ⟨rfl, rfl⟩
theorem cV' {s : Tx} (hs : OkD s) (hl : s.length <= 1000) (w : W) : wF (f_stretches [.str s] w) (fun o w' => (∃ P, o = .lst ((P.map q4').map .fz) /\ wid P = s.length /\ P.length <= s.length) /\ w' = w) FX := by
  have k1 := ch' hs w
  have k2 := eV' hs.1 hl w
  unfold f_stretches
  walk_at "f0"
  clear hs
  walk_at "s"
  refine k1.mono ?_
  rintro _ _ ⟨rfl, rfl⟩
  rename_i w
  clear k1
  walk_at "s"
  refine k2.mono ?_
  rintro _ _ ⟨⟨P, rfl, hP, hPl⟩, rfl⟩
  rename_i w
  clear k2
  walk_at "s"
  refine dG' (f := oU') q4' (by omega) ?_ ?_
  . rintro ⟨c, a, b⟩ _
    have e : oU' (c, a, b) = .tup [.str [c], .int (a : Nat), .int (b : Nat)] := rfl
    walk_at "s"
    rfl
  exact fun env2 _ => ⟨⟨P, rfl, hP, hPl⟩, rfl⟩
theorem gk' {w : W} {n m : Nat} (h : cl' w n) (h1 : 1 <= m) (hm : m <= 30) : wF (f__law_dealing [.obj n, .int m, .int 4] w) (fun o w' => ∃ s : Tx, o = .fz (.str s) /\ s.length = m /\ OkD s /\ cl' w' n) FX := by
  unfold f__law_dealing
  walk_at "f"
  refine (aB' h (by omega) (by omega)).mono ?_
  rintro _ w1 ⟨k, rfl, hk, h1', -⟩
  clear h
  walk_at "s"
  refine (aB' h1' (by omega) (by omega)).mono ?_
  rintro _ w2 ⟨many, rfl, hmany, h2, -⟩
  clear h1'
  walk_at "s"
  refine (aB' h2 (by omega) (by omega)).mono ?_
  rintro _ w3 ⟨ow, rfl, how, h3, -⟩
  clear h2
  walk_at "s"
  refine dJ' (fun j ρ => ∃ (own : Nat) (s : Tx) (x : Option O) (w' : W), ρ = ⟨[some (.fz (.obj n)), some (.fz (.int m)), some (.fz (.int 4)), some (.fz (.int k)), some (.fz (.int (1 + (many : Int)))), some (.fz (.int (own : Nat))), some (.fz (.str s)), x], w'⟩ /\ (own : Int) < 1 + many /\ s.length = j /\ (∀ c ∈ s, c ∈ HN) /\ cl' w' n) ⟨_, _, _, _, rfl, how, rfl, by simp, h3⟩ ?_ ?_
  . clear h3 how
    rintro j _ hj ⟨own, s, x, w4, rfl, ho, hs, hc, h4⟩
    rw [uL', eI' (by show 7 < 8; decide)]
    refine gY' (fun ρ => ∃ (own : Nat) (w' : W), ρ = ⟨[some (.fz (.obj n)), some (.fz (.int m)), some (.fz (.int 4)), some (.fz (.int k)), some (.fz (.int (1 + (many : Int)))), some (.fz (.int (own : Nat))), some (.fz (.str s)), some (.fz (.int (0 + (j : Nat))))], w'⟩ /\ (own : Int) < 1 + many /\ cl' w' n) ?_ ?_
    . have dr : ∀ w, cl' w n -> wF (f__law_draw [.obj n, .int (1 + (many : Int))] w) (fun o w' => ∃ d : Nat, o = .fz (.int (d : Nat)) /\ (d : Int) < 1 + many /\ cl' w' n) FX := fun w h => (aB' h (by omega) (by omega)).mono fun _ _ ⟨d, e, h1, h2, _⟩ => ⟨d, e, h1, h2⟩
      walk_at "s"
      refine bu' (fun c => ?_) (fun c => ?_)
      . clear hc hs
        walk_at "s"
        refine (dr _ h4).mono ?_
        rintro _ w5 ⟨d, rfl, hd, h5⟩
        walk_at "s"
        exact ⟨_, _, rfl, hd, h5⟩
      . walk_at "s"
        refine bu' (fun c => ?_) (fun c => ?_)
        . walk_at "s"
          refine (aB' h4 (by omega) (by omega)).mono ?_
          rintro _ w5 ⟨d, rfl, hd, h5, -⟩
          walk_at "s"
          refine bu' (fun c => ?_) (fun c => ?_)
          . walk_at "s"
            refine (dr _ h5).mono ?_
            rintro _ w6 ⟨d, rfl, hd, h6⟩
            walk_at "s"
            exact ⟨_, _, rfl, hd, h6⟩
          . walk_at "s"
            exact ⟨_, _, rfl, ho, h5⟩
        . walk_at "s"
          exact ⟨_, _, rfl, ho, h4⟩
    . clear h4 ho w4 own x
      rintro _ ⟨own, w4, rfl, ho, h4⟩
      refine gY' (fun ρ => ∃ (own : Nat) (x : Option O), ρ = ⟨[some (.fz (.obj n)), some (.fz (.int m)), some (.fz (.int 4)), some (.fz (.int k)), some (.fz (.int (1 + (many : Int)))), some (.fz (.int (own : Nat))), some (.fz (.str s)), x], w4⟩ /\ (own : Int) < 1 + many) ?_ ?_
      . walk_at "s"
        refine bu' (fun c => ?_) (fun c => ?_)
        . walk_at "s"
          have e1 : ((j % (1 + many) : Nat) : Int) = (j : Int) % (1 + (many : Int)) := by rw [Int.natCast_emod]; rfl
          have e2 : j % (1 + many) < 1 + many := Nat.mod_lt _ (by omega)
          exact ⟨j % (1 + many), _, by rw [e1], by omega⟩
        . walk_at "s"
          exact ⟨_, _, rfl, ho⟩
      . clear ho own
        rintro _ ⟨own, x, rfl, ho⟩
        walk_at "s"
        refine aO' (by show own < 4; omega) fun c hcm _ => ?_
        walk_at "s"
        refine ⟨_, _, _, _, rfl, ho, by simp; omega, fun d hd => ?_, h4⟩
        rcases List.mem_append.mp hd with hd | hd
        . exact hc d hd
        . rw [List.mem_singleton] at hd
          rw [hd]; exact hcm
  . rintro _ ⟨own, s, x, w4, rfl, ho, hs, hc, h4⟩
    have h0 : s ≠ [] := fun e => by rw [e] at hs; simp at hs; omega
    walk_at "s"
    exact ⟨s, rfl, by omega, ⟨h0, hc⟩⟩
theorem d4' {s : Tx} (h : ∀ c ∈ s, c ∈ HN) (w : W) : wF (f__law_hands [.str s] w) (fun o w' => o = .fz (.str (cC' s)) /\ w' = w) FX := by
  unfold f__law_hands
  walk_at "f0"
  walk_at "s"
  refine he' (fun pre ρ => ∃ x, ρ = ⟨[some (.fz (.str s)), some (.fz (.int (hmx 2 pre : Nat))), x], w⟩) ⟨_, rfl⟩ ?_ ?_
  . rintro pre c post _ e ⟨x, rfl⟩
    have hc : c ∈ HN := h c (by rw [e]; simp)
    have e3 : hmx 2 (pre ++ [c]) = max (hmx 2 pre) (c - 65 + 1) := by unfold hmx; rw [List.foldl_append]; rfl
    clear h e
    have e4 : gR' [65, 66, 67, 68] [c] = some (c - 65) := ov' hc
    walk_at "s"
    exact ⟨_, by rw [show ((max (hmx 2 pre) (c - 65 + 1) : Nat) : Int) = max (hmx 2 pre : Int) (1 + (c - 65 : Nat)) by omega]⟩
  . rintro _ ⟨x, rfl⟩
    walk_at "s"
    rfl
theorem gb' {w : W} {n m : Nat} {S : Tx} (h : cl' w n) (hS : 1 <= S.length) (hS2 : S.length <= 100) (hm : m <= 1000) : wF (f__law_row [.obj n, .str S, .int m] w) (fun o w' => ∃ s : Tx, o = .fz (.str s) /\ s.length = m /\ (∀ c ∈ s, c ∈ S) /\ cl' w' n) FX := by
  unfold f__law_row
  walk_at "f"
  refine ev' (by simp; omega) (fun pre acc ρ => ∃ s : Tx, acc = s.map chD /\ s.length = pre.length /\ (∀ c ∈ s, c ∈ S) /\ ∃ x w', ρ = ⟨[some (.fz (.obj n)), some (.fz (.str S)), some (.fz (.int m)), x], w'⟩ /\ cl' w' n) ⟨[], rfl, rfl, by simp, _, _, rfl, h⟩ ?_ ?_
  . clear h
    rintro pre c post _ _ e ⟨s, rfl, hs, hc, x, w1, rfl, h1⟩
    clear e
    walk_at "s"
    refine (aB' h1 (by omega) (by omega)).mono ?_
    rintro _ w2 ⟨d, rfl, hd, h2, -⟩
    walk_at "s"
    refine aO' (by omega) fun y hy _ => ?_
    refine ⟨s ++ [y], by simp [chD], by simp [hs], fun a ha => ?_, _, _, rfl, h2⟩
    rcases List.mem_append.mp ha with ha | ha
    . exact hc a ha
    . rw [List.mem_singleton] at ha
      rw [ha]; exact hy
  . rintro _ _ ⟨s, rfl, hs, hc, x, w1, rfl, h1⟩
    rw [List.length_range] at hs
    walk_at "s"
    exact ⟨s, rfl, hs, hc⟩
theorem fR' {s r : Tx} (h : Nat) (hl : r.length = s.length) : sgt s r h = ((List.range s.length).filter fun i => decide (s.getD i 0 = h)).map fun i => r.getD i 0 := by
  have e : s.zip r = (List.range s.length).map fun i => (s.getD i 0, r.getD i 0) := by
    apply List.ext_getElem
    . rw [List.length_zip, List.length_map, List.length_range]; omega
    . intro i h1 h2
      rw [List.length_zip] at h1
      rw [List.getElem_zip, List.getElem_map, List.getElem_range, List.getD_eq_getElem?_getD, List.getD_eq_getElem?_getD, List.getElem?_eq_getElem (by omega), List.getElem?_eq_getElem (by omega)]
      rfl
  unfold sgt
  rw [e, List.filter_map, List.map_map]
  rfl
theorem d3' {s r : Tx} (h : Nat) (hl : r.length = s.length) (hs : s.length <= 1000) (w : W) : wF (f__law_sight [.str s, .str r, .str [h]] w) (fun o w' => o = .fz (.str (sgt s r h)) /\ w' = w) FX := by
  have e := fR' h hl
  have l : (sgt s r h).length <= 1000 := by
    unfold sgt
    have := List.length_filter_le (fun p : Nat × Nat => decide (p.1 = h)) (s.zip r)
    rw [List.length_zip] at this
    rw [List.length_map]
    omega
  unfold f__law_sight
  walk_at "f0"
  clear e l
  walk_at "s"
  refine pw' (fun i => decide (s.getD i 0 = h)) (fun i => chD (r.getD i 0)) (by omega) ?_ ?_
  . intro i hi
    walk_at "s"
    refine aO' (by omega) fun y _ hy => ?_
    rw [bX' hy]
    walk_at "s"
    refine ⟨by simp, fun _ => ?_⟩
    refine aO' (by omega) fun z _ hz => ?_
    rw [bX' hz]
    walk_at "s"
  have e := fR' h hl
  have l : (sgt s r h).length <= 1000 := by
    unfold sgt
    have := List.length_filter_le (fun p : Nat × Nat => decide (p.1 = h)) (s.zip r)
    rw [List.length_zip] at this
    rw [List.length_map]
    omega
  have e2 : (((List.range s.length).filter fun i => decide (s.getD i 0 = h)).map fun i => chD (r.getD i 0)) = (sgt s r h).map chD := by
    rw [e, List.map_map]
    rfl
  walk_at "l"
  rw [e2]
  clear e e2
  walk_at "s"
theorem NoS.non : NoS .non := ⟨_, rfl, by decide⟩
theorem NoS.int (i : Int) : NoS (.int i) := ⟨_, rfl, by decide⟩
theorem NoS.bl (b : Bool) : NoS (.bl b) := ⟨_, rfl, by decide⟩
theorem NoS.lst (l : List D) : NoS (.lst l) := ⟨_, rfl, by decide⟩
theorem NoS.tup (l : List D) : NoS (.tup l) := ⟨_, rfl, by decide⟩
theorem NoS.dct (k : List D) (v : List D) : NoS (.dct k v) := ⟨_, rfl, by decide⟩
theorem mj'.str {s : Tx} (h : ∃ c ∈ s, c ∉ HN) : mj' (.str s) := .inr ⟨s, rfl, .inr h⟩
theorem g8' {a b : Tx} {c : Nat} : c ∈ a ++ [c] ++ b := by simp
theorem df' {w : W} {n : Nat} {s : Tx} (h : cl' w n) (h1 : 1 <= s.length) (hl : s.length <= 100) : wF (f__law_bad_dealing [.obj n, .str s] w) (fun o w' => ∃ d, o = .fz d /\ mj' d /\ cl' w' n) FX := by
  have e1 : ∀ Q : O -> Prop, wD (cZ' false (.str [65]) (.str [66])) Q = Q (.dct [.str [65]] [.fz (.str [66])]) := fun Q => by
    show wD (some _) Q = _
    rw [an']
  have e2 : frzs [] = [] := rfl
  have e3 : frzs [.fz (.str [66])] = [.str [66]] := rfl
  unfold f__law_bad_dealing
  walk_at "f0"
  walk_at "s"
  refine (aB' h (by omega) (by omega)).mono ?_
  rintro _ w1 ⟨k, rfl, hk, h1', -⟩
  clear h
  walk_at "s"
  clear e1
  refine bu' (fun c => ?_) (fun c => ?_)
  . walk_at "s"
    refine aO' (by simp; omega) fun x hx _ => ?_
    walk_at "s"
    refine ⟨x, rfl, ?_⟩
    simp only [List.mem_cons, List.not_mem_nil, or_false] at hx
    rcases hx with rfl | rfl | rfl | rfl | rfl | rfl | rfl | rfl | rfl | rfl | rfl
    . exact .inl .non
    . exact .inl (.int _)
    . exact .inl (.bl _)
    . exact .inr ⟨_, rfl, .inl rfl⟩
    . exact .inl (.lst _)
    . exact .inl (.tup _)
    . exact .inl (.dct _ _)
    . exact .str ⟨32, by simp, by decide⟩
    . exact .str ⟨97, by simp, by decide⟩
    . exact .inl (.lst _)
    . exact .inl (.dct _ _)
  walk_at "s"
  refine (aB' h1' (by omega) (by omega)).mono ?_
  rintro _ w2 ⟨a, rfl, ha, h2, -⟩
  clear h1'
  walk_at "s"
  refine (aB' h2 (by omega) (by omega)).mono ?_
  rintro _ w3 ⟨b, rfl, hb, h3, -⟩
  clear h2
  walk_at "s"
  refine aO' (by simp; omega) fun x hx hx0 => ?_
  have hx : x ∉ HN := by
    clear hx0
    revert x
    decide
  have q1 : (s.take a).length <= 100 := by rw [List.length_take]; omega
  have q2 : (s.drop a).length <= 100 := by rw [List.length_drop]; omega
  have q3 : (s.drop (a + 1)).length <= 100 := by rw [List.length_drop]; omega
  walk_at "s"
  refine bu' (fun c => ?_) (fun c => ?_)
  . walk_at "s"
    refine bI' (by simp only [List.length_append, List.length_singleton]; omega) ⟨_, rfl, .str ⟨x, g8', hx⟩, h3⟩
  . walk_at "s"
    refine bI' (by simp only [List.length_append, List.length_singleton]; omega) ⟨_, rfl, .str ⟨x, g8', hx⟩, h3⟩
theorem c8' {w : W} {n : Nat} {r : Tx} (h : cl' w n) (h1 : 1 <= r.length) (hl : r.length <= 100) : wF (f__law_bad_row [.obj n, .str r] w) (fun o w' => ∃ d, o = .fz d /\ mr' r.length d /\ cl' w' n) FX := by
  have e1 : ∀ Q : O -> Prop, wD (cZ' false (.str [97]) (.str r)) Q = Q (.dct [.str [97]] [.fz (.str r)]) := fun Q => by
    show wD (some _) Q = _
    rw [an']
  have e2 : frzs [] = [] := rfl
  have e3 : frzs [.fz (.str r)] = [.str r] := rfl
  have e4 : ∀ Q : D -> Prop, wD (ck' (.str r)) Q = Q (.tup (r.map chD)) := fun Q => by
    show wD (some _) Q = _
    rw [an']
  unfold f__law_bad_row
  walk_at "f0"
  walk_at "s"
  clear e4
  refine (aB' h (by omega) (by omega)).mono ?_
  rintro _ w1 ⟨k, rfl, hk, h1', -⟩
  clear h
  walk_at "s"
  clear e1
  refine bu' (fun c => ?_) (fun c => ?_)
  . walk_at "s"
    refine aO' (by simp; omega) fun x hx _ => ?_
    walk_at "s"
    refine ⟨x, rfl, .inl ?_⟩
    simp only [List.mem_cons, List.not_mem_nil, or_false] at hx
    rcases hx with rfl | rfl | rfl | rfl | rfl | rfl | rfl | rfl | rfl
    . exact .non
    . exact .int _
    . exact .bl _
    . exact .lst _
    . exact .tup _
    . exact .dct _ _
    . exact .lst _
    . exact .tup _
    . exact .dct _ _
  walk_at "s"
  refine (aB' h1' (by omega) (by omega)).mono ?_
  rintro _ w2 ⟨a, rfl, ha, h2, -⟩
  clear h1'
  have q1 : (r.take a).length = a := by rw [List.length_take]; omega
  have q2 : (r.drop a).length = r.length - a := by rw [List.length_drop]
  have q3 : (r.drop (a + 1)).length = r.length - (a + 1) := by rw [List.length_drop]
  walk_at "s"
  refine bu' (fun c => ?_) (fun c => ?_)
  . walk_at "s"
    exact ⟨_, rfl, .inr ⟨_, rfl, .inr (by rw [List.length_append]; omega)⟩⟩
  walk_at "s"
  refine bu' (fun c => ?_) (fun c => ?_)
  . walk_at "s"
    refine bI' (by simp only [List.length_append, List.length_singleton]; omega) ⟨_, rfl, .inr ⟨_, rfl, .inr (by simp only [List.length_append, List.length_singleton]; omega)⟩, h2⟩
  walk_at "s"
  refine (aB' h2 (by omega) (by omega)).mono ?_
  rintro _ w3 ⟨b, rfl, hb, h3, -⟩
  clear h2
  walk_at "s"
  refine aO' (by simp; omega) fun x hx hx0 => ?_
  have hx : x ∉ SG := by
    clear hx0
    revert x
    decide
  walk_at "s"
  refine bI' (by simp only [List.length_append, List.length_singleton]; omega) ⟨_, rfl, .inr ⟨_, rfl, .inl ⟨x, g8', hx⟩⟩, h3⟩
theorem ms'.not {hs : Tx} {c : Nat} (h : c ∉ hs) : ms' hs (.str [c]) := .inr ⟨_, rfl, .inr ⟨c, rfl, h⟩⟩
theorem ms'.len {hs t : Tx} (h : t.length ≠ 1) : ms' hs (.str t) := .inr ⟨_, rfl, .inl h⟩
theorem nB' {m : Nat} (h2 : 2 <= m) (h4 : m <= 4) {d : D} (h : d ∈ D.non :: .int 0 :: .bl true :: .str [] :: .str [97] :: .str [69] :: .str [65, 66] :: .str [32, 65] :: .lst [.str [65]] :: .tup [.str [65]] :: .dct [] [] :: .str (HN.take m) :: .str [65, 65] :: .str [46] :: .dct [.str [65]] [.int 1] :: (HN.drop m).map chD) : ms' (HN.take m) d := by
  have hl : (HN.take m).length = m := by
    rw [List.length_take]
    show min m 4 = m
    omega
  have hsub : ∀ c, c ∉ HN -> c ∉ HN.take m := fun c hc hm => hc (List.mem_of_mem_take hm)
  have hdr : ∀ c ∈ HN.drop m, c ∉ HN.take m := by
    have : m = 2 \/ m = 3 \/ m = 4 := by omega
    rcases this with rfl | rfl | rfl <;> decide
  rw [List.mem_cons, List.mem_cons, List.mem_cons, List.mem_cons, List.mem_cons, List.mem_cons, List.mem_cons, List.mem_cons, List.mem_cons, List.mem_cons, List.mem_cons, List.mem_cons, List.mem_cons, List.mem_cons, List.mem_cons] at h
  rcases h with rfl | rfl | rfl | rfl | rfl | rfl | rfl | rfl | rfl | rfl | rfl | rfl | rfl | rfl | rfl | h
  . exact .inl .non
  . exact .inl (.int _)
  . exact .inl (.bl _)
  . exact .len (by decide)
  . exact .not (hsub _ (by decide))
  . exact .not (hsub _ (by decide))
  . exact .len (by decide)
  . exact .len (by decide)
  . exact .inl (.lst _)
  . exact .inl (.tup _)
  . exact .inl (.dct _ _)
  . exact .len (by omega)
  . exact .len (by decide)
  . exact .not (hsub _ (by decide))
  . exact .inl (.dct _ _)
  . obtain ⟨c, hc, rfl⟩ := List.mem_map.mp h
    exact .not (hdr c hc)
theorem fh' {w : W} {n m : Nat} (h : cl' w n) (h2 : 2 <= m) (h4 : m <= 4) : wF (f__law_bad_hand [.obj n, .str (HN.take m)] w) (fun o w' => ∃ d, o = .fz d /\ ms' (HN.take m) d /\ cl' w' n) FX := by
  have e1 : ∀ Q : O -> Prop, wD (cZ' false (.str [65]) (.int 1)) Q = Q (.dct [.str [65]] [.fz (.int 1)]) := fun Q => by
    show wD (some _) Q = _
    rw [an']
  have e2 : frzs [] = [] := rfl
  have e3 : frzs [.fz (.int 1)] = [.int 1] := rfl
  have hl : (HN.take m).length = m := by
    rw [List.length_take]
    show min m 4 = m
    omega
  have hdl : (HN.drop m).length <= 4 := by
    rw [List.length_drop]
    show 4 - m <= 4
    omega
  have all : ∀ d, _ -> _ := fun d => nB' h2 h4 (d := d)
  unfold f__law_bad_hand
  generalize HN.take m = hs at hl all ⊢
  walk_at "f0"
  revert all
  walk_at "s"
  generalize List.drop m [65, 66, 67, 68] = dr at hdl ⊢
  intro all
  rw [jZ' (by omega), eI' (by decide)]
  revert all
  walk_at "s"
  intro all
  refine (aB' h (by omega) (by omega)).mono ?_
  rintro _ w1 ⟨k, rfl, hk, h1, -⟩
  clear h
  revert all
  walk_at "s"
  intro all
  refine aO' (by simp only [List.length_cons, List.length_map]; omega) fun x hx _ => ?_
  exact ⟨x, rfl, all x hx, h1⟩
structure Rws (R : List Tx) (n m : Nat) : Prop where
  len : R.length = m
  ok : ∀ r ∈ R, OkR n r
theorem fg' {w : W} {n m : Nat} {s : Tx} {R : List Tx} (h : cl' w n) (hR : Rws R s.length m) (hm : (cC' s).length = m) (h2 : 2 <= m) (h4 : m <= 4) (h1 : 1 <= s.length) (hl : s.length <= 100) : wF (f__law_bad_rows [.obj n, .lst (R.map .str)] w) (fun o w' => ∃ d, o = .fz d /\ s6' s d /\ cl' w' n) FX := by
  have e2 : frzs [] = [] := rfl
  have e4 : ∀ Q : D -> Prop, wD (ck' (.lst (R.map .str))) Q = Q (.tup (R.map .str)) := fun Q => by
    show wD (some _) Q = _
    rw [an']
  have hRl := hR.len
  obtain ⟨r0, hr0⟩ : ∃ r, R[0]? = some r := ⟨_, List.getElem?_eq_getElem (by omega)⟩
  have e5 : ∀ Q : D -> Prop, wD (pIx (.lst (R.map .str)) (.int 0)) Q = Q (.str r0) := fun Q => by
    rw [gF', b4' (by decide), List.getElem?_map, ed']
    show wD R[0]? _ = _
    rw [hr0, an']
  have q0 : ((R.map D.str).take 1).length = 1 := by rw [List.length_take, List.length_map]; omega
  have q5 : ((R.map D.str).drop 1).length = m - 1 := by rw [List.length_drop, List.length_map]; omega
  unfold f__law_bad_rows
  walk_at "f0"
  walk_at "s"
  clear e4 e5
  refine (aB' h (by omega) (by omega)).mono ?_
  rintro _ w1 ⟨k, rfl, hk, h1', -⟩
  clear h
  walk_at "s"
  refine bu' (fun c => ?_) (fun c => ?_)
  . walk_at "s"
    refine aO' (by simp; omega) fun x hx _ => ?_
    walk_at "s"
    refine ⟨x, rfl, ?_⟩
    simp only [List.mem_cons, List.not_mem_nil, or_false] at hx
    rcases hx with rfl | rfl | rfl | rfl | rfl | rfl | rfl | rfl | rfl | rfl | rfl | rfl
    . exact .inl ⟨_, rfl, by decide⟩
    . exact .inl ⟨_, rfl, by decide⟩
    . exact .inl ⟨_, rfl, by decide⟩
    . exact .inl ⟨_, rfl, by decide⟩
    . exact .inl ⟨_, rfl, by decide⟩
    . exact .inl ⟨_, rfl, by decide⟩
    . exact .inl ⟨_, rfl, by decide⟩
    . exact .inl ⟨_, rfl, by decide⟩
    . exact .inr ⟨_, rfl, by rw [List.length_append, List.length_map]; omega, .inl (by rw [List.length_append, List.length_map]; omega)⟩
    . exact .inr ⟨_, rfl, by omega, .inl (by omega)⟩
    . exact .inr ⟨_, rfl, by simp, .inl (by simp; omega)⟩
    . exact .inr ⟨_, rfl, by simp, .inl (by simp; omega)⟩
  clear q0 q5 hr0
  have sp : ∀ r ∈ R, r.length = s.length := fun r hr => (hR.ok r hr).1
  have fin : ∀ (a : Nat) (d : D), a < R.length -> mr' s.length d -> s6' s (.lst ((R.map D.str).take a ++ [d] ++ (R.map D.str).drop (a + 1))) := fun a d ha hd => by
    refine .inr ⟨_, rfl, ?_, .inr ⟨fun x hx => ?_, d, by simp, hd⟩⟩
    . simp only [List.length_append, List.length_take, List.length_drop, List.length_map, List.length_singleton]
      omega
    . have good : ∀ x ∈ R.map D.str, u6' s.length x := fun x hx => by
        obtain ⟨r, hr, rfl⟩ := List.mem_map.mp hx
        exact .inl ⟨r, rfl, hR.ok r hr⟩
      rcases List.mem_append.mp hx with hx | hx
      . rcases List.mem_append.mp hx with hx | hx
        . exact good x (List.mem_of_mem_take hx)
        . rw [List.mem_singleton.mp hx]
          exact .inr hd
      . exact good x (List.mem_of_mem_drop hx)
  revert sp fin
  walk_at "s"
  intro sp fin
  refine (aB' h1' (by omega) (by omega)).mono ?_
  rintro _ w2 ⟨a, rfl, ha, h2', -⟩
  clear h1'
  revert sp fin
  walk_at "s"
  intro sp fin
  refine aO' (by omega) fun r hr _ => ?_
  have hrl := sp r hr
  revert sp fin
  walk_at "s"
  intro sp fin
  refine (c8' h2' (by omega) (by omega)).mono ?_
  rintro _ w3 ⟨d, rfl, hd, h3⟩
  rw [hrl] at hd
  have q1 : ((R.map D.str).take a).length <= 10 := by rw [List.length_take, List.length_map]; omega
  have q2 : ((R.map D.str).drop (a + 1)).length <= 10 := by rw [List.length_drop, List.length_map]; omega
  revert sp fin
  walk_at "s"
  intro sp fin
  refine bI' (by simp only [List.length_append, List.length_singleton]; omega) ⟨_, rfl, fin a d (by omega) hd, h3⟩
abbrev DE : Tx := [100, 101, 97, 108, 105, 110, 103]
abbrev RE : Tx := [114, 111, 119]
abbrev HE : Tx := [104, 97, 110, 100]
abbrev RS : Tx := [114, 111, 119, 115]
def mkL (k : Nat) : D := .lst [.bl (k == 0), .bl (k == 1), .bl (k == 2), .bl (k == 3), .bl true]
def jT' (k : Nat) : String := match k with | 0 => "NoDealing" | 1 => "NoRow" | 2 => "NoHand" | _ => "NoRows"
theorem e2' (k : Nat) (hk : k < 4) : sub exT (jT' k) "SaidError" = some true /\ sub exI (jT' k) "NoDealing" = some (k == 0) /\ sub exI (jT' k) "NoRow" = some (k == 1) /\ sub exI (jT' k) "NoHand" = some (k == 2) /\ sub exI (jT' k) "NoRows" = some (k == 3) /\ sub exB (jT' k) "ValueError" = some true := by
  have : k = 0 \/ k = 1 \/ k = 2 \/ k = 3 := by omega
  rcases this with rfl | rfl | rfl | rfl <;> decide
theorem cS' {d r h : D} {k : Nat} {w : W} (hk : k < 4) (q : wF (f_seen [d, r, h] w) (fun _ _ => False) (FE (jT' k) w)) : wF (f__law_marks [.int 0, d, r, h] w) (fun o w' => o = .fz (.tup [.non, mkL k]) /\ w' = w) FX := by
  obtain ⟨e1, e2, e3, e4, e5, e6⟩ := e2' k hk
  unfold f__law_marks
  walk_at "f0"
  generalize jT' k = E at q e1 e2 e3 e4 e5 e6
  clear hk
  walk_at "s"
  refine q.monoX (fun _ _ h => h.elim) ?_
  rintro _ _ ⟨rfl, rfl⟩
  clear q
  rw [e1, an', mA']
  walk_at "s"
  rfl
theorem et' {d r h : D} {k : Nat} {w : W} (hk : k < 4) (q : wF (f_crossed [d, r] w) (fun _ _ => False) (FE (jT' k) w)) : wF (f__law_marks [.int 1, d, r, h] w) (fun o w' => o = .fz (.tup [.non, mkL k]) /\ w' = w) FX := by
  obtain ⟨e1, e2, e3, e4, e5, e6⟩ := e2' k hk
  unfold f__law_marks
  walk_at "f0"
  generalize jT' k = E at q e1 e2 e3 e4 e5 e6
  clear hk
  walk_at "s"
  refine q.monoX (fun _ _ h => h.elim) ?_
  rintro _ _ ⟨rfl, rfl⟩
  clear q
  rw [e1, an', mA']
  walk_at "s"
  rfl
theorem ju' {d r h : D} {k : Nat} {w : W} (hk : k < 4) (q : wF (f_stretches [d] w) (fun _ _ => False) (FE (jT' k) w)) : wF (f__law_marks [.int 2, d, r, h] w) (fun o w' => o = .fz (.tup [.non, mkL k]) /\ w' = w) FX := by
  obtain ⟨e1, e2, e3, e4, e5, e6⟩ := e2' k hk
  unfold f__law_marks
  walk_at "f0"
  generalize jT' k = E at q e1 e2 e3 e4 e5 e6
  clear hk
  walk_at "s"
  refine q.monoX (fun _ _ h => h.elim) ?_
  rintro _ _ ⟨rfl, rfl⟩
  clear q
  rw [e1, an', mA']
  walk_at "s"
  rfl
theorem f8' {d r h : D} {x : Tx} {w : W} (q : wF (f_seen [d, r, h] w) (fun o w' => o = .fz (.str x) /\ w' = w) FX) : wF (f__law_marks [.int 0, d, r, h] w) (fun o w' => o = .fz (.tup [.str x, .lst []]) /\ w' = w) FX := by
  unfold f__law_marks
  walk_at "f0"
  walk_at "s"
  refine q.monoX ?_ (fun _ _ h => h.elim)
  rintro _ _ ⟨rfl, rfl⟩
  clear q
  walk_at "s"
  rfl
theorem f7' {d r h : D} {x : Tx} {w : W} (q : wF (f_crossed [d, r] w) (fun o w' => o = .fz (.str x) /\ w' = w) FX) : wF (f__law_marks [.int 1, d, r, h] w) (fun o w' => o = .fz (.tup [.str x, .lst []]) /\ w' = w) FX := by
  unfold f__law_marks
  walk_at "f0"
  walk_at "s"
  refine q.monoX ?_ (fun _ _ h => h.elim)
  rintro _ _ ⟨rfl, rfl⟩
  clear q
  walk_at "s"
  rfl
theorem lD' {d r h : D} {w : W} {n : Nat} (hn : n <= 1000) (q : wF (f_stretches [d] w) (fun o w' => (∃ P, o = .lst ((P.map q4').map .fz) /\ wid P = n /\ P.length <= n) /\ w' = w) FX) : wF (f__law_marks [.int 2, d, r, h] w) (fun o w' => (∃ x, o = .fz (.tup [x, .lst []])) /\ w' = w) FX := by
  unfold f__law_marks
  walk_at "f0"
  walk_at "s"
  refine q.monoX ?_ (fun _ _ h => h.elim)
  rintro _ _ ⟨⟨P, rfl, hP, hPl⟩, rfl⟩
  clear q
  walk_at "s"
  exact ⟨_, rfl⟩
def fl' : List D -> D
  | [] => .lst []
  | .str t :: _ => .lst [.bl (decide (DE = t)), .bl (decide (RE = t)), .bl (decide (HE = t)), .bl (decide (RS = t)), .bl true]
  | _ :: r => fl' r
def bd (b : Bool) (t : Tx) : D := if b then .str t else .non
theorem sY' (b : Bool) (t : Tx) : bd b t = .non \/ bd b t = .str t := by cases b <;> simp [bd]
theorem e6' {bs : List D} (h : ∀ b ∈ bs, b = .non \/ ∃ t, b = .str t) (hl : bs.length <= 4) (w : W) : wF (f__law_due [.lst bs] w) (fun o w' => o = .fz (fl' bs) /\ w' = w) FX := by
  unfold f__law_due
  walk_at "f0"
  walk_at "s"
  refine dJ' (fun k ρ => ∃ x, ρ = ⟨[some (.fz (.lst bs)), x, none], w⟩ /\ fl' bs = fl' (bs.drop k)) ⟨_, rfl, rfl⟩ ?_ ?_
  . rintro k _ hk ⟨x, rfl, hd⟩
    rw [uL', eI' (by show 1 < 3; decide)]
    have ed : bs.drop k = bs[k]'(by omega) :: bs.drop (k + 1) := List.drop_eq_getElem_cons (by omega)
    have hm : bs[k]? = some (bs[k]'(by omega)) := List.getElem?_eq_getElem (by omega)
    have hb := h _ (List.getElem_mem (h := (by omega : k < bs.length)))
    rw [ed] at hd
    clear ed
    generalize bs[k] = b at hd hm hb
    have e1 : ∀ Q : D -> Prop, wD (pIx (.lst bs) (.int (k : Nat))) Q = Q b := fun Q => by
      rw [gF', b4' (by omega), Int.toNat_natCast, hm, an']
    clear hm h
    rcases hb with rfl | ⟨t, rfl⟩
    . walk_at "s"
      exact ⟨_, rfl, rfl⟩
    . walk_at "s"
      refine dG' (f := D.str) (cs := [DE, RE, HE, RS]) (fun x => .bl (decide (x = t))) (by simp) ?_ ?_
      . intro c _
        walk_at "s"
      walk_at "l"
      walk_at "s"
      rfl
  . rintro _ ⟨x, rfl, hd⟩
    rw [List.drop_length] at hd
    walk_at "s"
    rfl
theorem jw' {b0 b1 b2 : Bool} {g0 g1 g2 : D} {s r : Tx} {h : Nat} {w : W} (hs : OkD s) (hl : s.length <= 1000) (hr : OkR s.length r) (hh : h ∈ cC' s)
    (G0 : (b0 = true /\ mj' g0) \/ (b0 = false /\ g0 = .str s)) (G1 : (b1 = true /\ mr' s.length g1) \/ (b1 = false /\ g1 = .str r)) (G2 : (b2 = true /\ ms' (cC' s) g2) \/ (b2 = false /\ g2 = .str [h])) :
    wF (f__law_marks [.int 0, g0, g1, g2] w) (fun o w' => (∃ x, o = .fz (.tup [x, fl' [bd b0 DE, bd b1 RE, bd b2 HE]])) /\ w' = w) FX := by
  rcases G0 with ⟨rfl, h0⟩ | ⟨rfl, rfl⟩
  . exact (cS' (k := 0) (by decide) (la' h0 w)).mono fun o w' ⟨e, e2⟩ => ⟨⟨_, e⟩, e2⟩
  rcases G1 with ⟨rfl, h0⟩ | ⟨rfl, rfl⟩
  . exact (cS' (k := 1) (by decide) (k8' hs h0 w)).mono fun o w' ⟨e, e2⟩ => ⟨⟨_, e⟩, e2⟩
  rcases G2 with ⟨rfl, h0⟩ | ⟨rfl, rfl⟩
  . exact (cS' (k := 2) (by decide) (k9' hs hr h0 w)).mono fun o w' ⟨e, e2⟩ => ⟨⟨_, e⟩, e2⟩
  exact (f8' (k7' hs hl hr hh w)).mono fun o w' ⟨e, e2⟩ => ⟨⟨_, e⟩, e2⟩
theorem jv' {b0 b3 : Bool} {g0 g3 h : D} {s : Tx} {R : List Tx} {w : W} (hs : OkD s) (hl : s.length <= 1000) (hR : Rws R s.length (cC' s).length)
    (G0 : (b0 = true /\ mj' g0) \/ (b0 = false /\ g0 = .str s)) (G3 : (b3 = true /\ s6' s g3) \/ (b3 = false /\ g3 = .lst (R.map .str))) :
    wF (f__law_marks [.int 1, g0, g3, h] w) (fun o w' => (∃ x, o = .fz (.tup [x, fl' [bd b0 DE, bd b3 RS]])) /\ w' = w) FX := by
  rcases G0 with ⟨rfl, h0⟩ | ⟨rfl, rfl⟩
  . exact (et' (k := 0) (by decide) (gH' h0 w)).mono fun o w' ⟨e, e2⟩ => ⟨⟨_, e⟩, e2⟩
  rcases G3 with ⟨rfl, h0⟩ | ⟨rfl, rfl⟩
  . exact (et' (k := 3) (by decide) (gG' hs h0 w)).mono fun o w' ⟨e, e2⟩ => ⟨⟨_, e⟩, e2⟩
  exact (f7' (eA' hs hl hR.len hR.ok w)).mono fun o w' ⟨e, e2⟩ => ⟨⟨_, e⟩, e2⟩
theorem jt' {b0 : Bool} {g0 r h : D} {s : Tx} {w : W} (hs : OkD s) (hl : s.length <= 1000)
    (G0 : (b0 = true /\ mj' g0) \/ (b0 = false /\ g0 = .str s)) :
    wF (f__law_marks [.int 2, g0, r, h] w) (fun o w' => (∃ x, o = .fz (.tup [x, fl' [bd b0 DE]])) /\ w' = w) FX := by
  rcases G0 with ⟨rfl, h0⟩ | ⟨rfl, rfl⟩
  . exact (ju' (k := 0) (by decide) (eM' h0 w)).mono fun o w' ⟨e, e2⟩ => ⟨⟨_, e⟩, e2⟩
  exact lD' hl (cV' hs hl w)
theorem dm' : ∀ {bs : List D}, (∀ b ∈ bs, b = .non \/ ∃ t, b = .str t) -> dat (fl' bs) = true /\ dep (fl' bs) <= 3
  | [], _ => ⟨rfl, by decide⟩
  | b :: bs, h => by
    have h' : ∀ x ∈ bs, x = .non \/ ∃ t, x = .str t := fun x hx => h x (List.mem_cons_of_mem _ hx)
    rcases h b (List.mem_cons_self ..) with rfl | ⟨t, rfl⟩
    . exact dm' (bs := bs) h'
    . exact ⟨rfl, by show 1 <= 3; decide⟩
theorem eC' {bs : List (Bool × Tx)} : ∀ b ∈ bs.map (fun p => bd p.1 p.2), b = .non \/ ∃ t, b = .str t := fun b hb => by
  obtain ⟨p, _, rfl⟩ := List.mem_map.mp hb
  rcases sY' p.1 p.2 with e | e
  . exact .inl e
  . exact .inr ⟨_, e⟩
abbrev s5' (ns : List Int) (n : Nat) (b0 b1 b2 b3 : Bool) (s : Tx) (R : List Tx) (h : Nat) (g0 g1 g2 g3 : D) (x9 x10 x11 : Option O) : List (Option O) :=
  [some (.fz (.scr (ns.map .int))), some (.fz (.obj 0)), some (.fz (.lst [.bl b0, .bl b1, .bl b2, .bl b3])), some (.fz (.int n)), some (.fz (.str s)), some (.fz (.str (cC' s))), some (.fz (.lst (R.map .str))), some (.fz (.str [h])), some (.lst [.fz g0, .fz g1, .fz g2, .fz g3]), x9, x10, x11, none, none, none, none]
def bk (k i : Nat) (b : Bool) (t : Tx) : D := if i < k then bd b t else .non
structure PK (p : Prop) : Prop where
  h : p
theorem law_true (ns : List Int) (hl : ns.length <= 63) : ∃ w, f_law [.scr (ns.map .int)] [] = .ok (.fz (.bl true)) w := by
  suffices h : wF (f_law [.scr (ns.map .int)] []) (fun o _ => o = .fz (.bl true)) FX by
    obtain ⟨o, w, e, rfl⟩ := h.exi
    exact ⟨w, e⟩
  unfold f_law
  walk_at "f"
  refine (lX' hl).mono ?_
  rintro _ w1 ⟨rfl, h1, hl1, -⟩
  change cl' w1 0 at h1
  clear hl1
  walk_at "s"
  refine ev' (by simp) (fun pre acc ρ => ∃ bs : List Bool, acc = bs.map .bl /\ bs.length = pre.length /\ ∃ x w', ρ = ⟨[some (.fz (.scr (ns.map .int))), some (.fz (.obj 0)), none, none, none, none, none, none, none, none, none, x, none, none, none, none], w'⟩ /\ cl' w' 0) ⟨[], rfl, rfl, _, _, rfl, h1⟩ ?_ ?_
  . clear h1 w1
    rintro pre c post _ _ e ⟨bs, rfl, hb, x, w1, rfl, h1⟩
    clear e
    walk_at "s"
    refine (aB' h1 (by omega) (by omega)).mono ?_
    rintro _ w2 ⟨d, rfl, hd, h2, -⟩
    walk_at "s"
    exact ⟨bs ++ [decide ((d : Int) = 1)], by simp, by simp [hb], _, _, rfl, h2⟩
  . clear h1 w1
    rintro _ _ ⟨bs, rfl, hb, x, w1, rfl, h1⟩
    match bs, hb with
    | [b0, b1, b2, b3], _ =>
    walk_at "s"
    refine (aB' h1 (by omega) (by omega)).mono ?_
    rintro _ w2 ⟨n0, rfl, hn0, h2, -⟩
    clear h1 w1
    walk_at "s"
    have e1 : (1 : Int) + (n0 : Int) = ((1 + n0 : Nat) : Int) := by omega
    rw [e1]
    have hn1 : 1 <= 1 + n0 := by omega
    have hn2 : 1 + n0 <= 30 := by omega
    clear e1 hn0
    generalize 1 + n0 = n at hn1 hn2
    refine (gk' h2 hn1 hn2).mono ?_
    rintro _ w3 ⟨s, rfl, hsl, hs, h3⟩
    clear h2 w2
    have kh := fun w => d4' hs.2 w
    have hh := i1' hs.2
    obtain ⟨hh1, hh2⟩ := hh
    walk_at "s"
    refine (kh w3).mono ?_
    rintro _ _ ⟨rfl, rfl⟩
    clear kh
    rename_i w3
    walk_at "s"
    refine ev' (by omega) (fun pre acc ρ => ∃ R : List Tx, acc = R.map .str /\ R.length = pre.length /\ (∀ r ∈ R, OkR n r) /\ ∃ x w', ρ = ⟨[some (.fz (.scr (ns.map .int))), some (.fz (.obj 0)), some (.lst [.fz (.bl b0), .fz (.bl b1), .fz (.bl b2), .fz (.bl b3)]), some (.fz (.int n)), some (.fz (.str s)), some (.fz (.str (cC' s))), none, x, none, none, none, none, none, none, none, none], w'⟩ /\ cl' w' 0) ⟨[], rfl, rfl, by simp, _, _, rfl, h3⟩ ?_ ?_
    . clear h3 w3
      rintro pre c post _ _ e ⟨R, rfl, hb, ho, x, w3, rfl, h3⟩
      clear e
      walk_at "s"
      refine (gb' h3 (by simp) (by simp) (by omega)).mono ?_
      rintro _ w4 ⟨r, rfl, hr, hc, h4⟩
      have hc : ∀ c ∈ r, c ∈ SG := fun c h => by
        have := hc c h
        revert this
        simp only [List.mem_cons, List.not_mem_nil, or_false]
        omega
      walk_at "s"
      refine ⟨R ++ [r], by simp, by simp [hb], fun a ha => ?_, _, _, rfl, h4⟩
      rcases List.mem_append.mp ha with ha | ha
      . exact ho a ha
      . rw [List.mem_singleton] at ha
        rw [ha]; exact ⟨hr, hc⟩
    clear h3 w3
    rintro _ _ ⟨R, rfl, hRl, hRo, x, w3, rfl, h3⟩
    rw [<- hsl] at hRo
    have hR : Rws R s.length (cC' s).length := ⟨hRl, hRo⟩
    clear hRo
    obtain ⟨r0, hr0⟩ : ∃ r, R[0]? = some r := ⟨_, List.getElem?_eq_getElem (by omega)⟩
    have hro : OkR s.length r0 := hR.ok r0 (List.mem_of_getElem? hr0)
    have e5 : ∀ Q : D -> Prop, wD (pIx (.lst (R.map .str)) (.int 0)) Q = Q (.str r0) := fun Q => by
      rw [gF', b4' (by decide), List.getElem?_map, ed']
      show wD R[0]? _ = _
      rw [hr0, an']
    clear hr0
    have e5' := PK.mk e5
    walk_at "s"
    refine (aB' h3 (by omega) (by omega)).mono ?_
    rintro _ w4 ⟨k, rfl, hk, h4, -⟩
    clear h3 w3
    walk_at "s"
    refine aO' (by omega) fun h hh hh0 => ?_
    clear hh0
    have ef : frzs [.fz (.bl b0), .fz (.bl b1), .fz (.bl b2), .fz (.bl b3)] = [.bl b0, .bl b1, .bl b2, .bl b3] := rfl
    have ei0 : ∀ Q : D -> Prop, wD (pIx (.lst [.bl b0, .bl b1, .bl b2, .bl b3]) (.int 0)) Q = Q (.bl b0) := fun Q => by rw [gF', b4' (by decide)]; exact an' ..
    have ei1 : ∀ Q : D -> Prop, wD (pIx (.lst [.bl b0, .bl b1, .bl b2, .bl b3]) (.int 1)) Q = Q (.bl b1) := fun Q => by rw [gF', b4' (by decide)]; exact an' ..
    have ei2 : ∀ Q : D -> Prop, wD (pIx (.lst [.bl b0, .bl b1, .bl b2, .bl b3]) (.int 2)) Q = Q (.bl b2) := fun Q => by rw [gF', b4' (by decide)]; exact an' ..
    have ei3 : ∀ Q : D -> Prop, wD (pIx (.lst [.bl b0, .bl b1, .bl b2, .bl b3]) (.int 3)) Q = Q (.bl b3) := fun Q => by rw [gF', b4' (by decide)]; exact an' ..
    walk_at "s"
    refine hH' (fun ρ => ∃ g0 w', ρ = ⟨s5' ns n b0 b1 b2 b3 s R h g0 (.str r0) (.str [h]) (.lst (R.map .str)) none none none, w'⟩ /\ ((b0 = true /\ mj' g0) \/ (b0 = false /\ g0 = .str s)) /\ cl' w' 0) (cM' (fun c => ?_) (fun c => ?_)) ?_
    . subst c
      clear e5
      walk_at "s"
      refine (df' h4 (by omega) (by omega)).mono ?_
      rintro _ w5 ⟨d, rfl, hd, h5⟩
      walk_at "s"
      exact ⟨_, _, rfl, by simp [hd], h5⟩
    . subst c
      walk_at "s"
      exact ⟨_, _, rfl, by simp, h4⟩
    clear h4 w4 ei0 ef
    rintro _ ⟨g0, w4, rfl, G0, h4⟩
    walk_at "s"
    refine hH' (fun ρ => ∃ g1 w', ρ = ⟨s5' ns n b0 b1 b2 b3 s R h g0 g1 (.str [h]) (.lst (R.map .str)) none none none, w'⟩ /\ ((b1 = true /\ mr' s.length g1) \/ (b1 = false /\ g1 = .str r0)) /\ cl' w' 0) (cM' (fun c => ?_) (fun c => ?_)) ?_
    . subst c
      have hrl := hro.1
      have br := c8' h4 (r := r0) (by omega) (by omega)
      rw [hrl] at br
      clear hrl
      walk_at "s"
      refine br.mono ?_
      rintro _ w5 ⟨d, rfl, hd, h5⟩
      clear br
      walk_at "s"
      rw [hsl] at hd
      exact ⟨_, _, rfl, by simp [hd], h5⟩
    . subst c
      walk_at "s"
      exact ⟨_, _, rfl, by simp, h4⟩
    clear h4 w4 ei1 e5
    rintro _ ⟨g1, w4, rfl, G1, h4⟩
    walk_at "s"
    refine hH' (fun ρ => ∃ g2 w', ρ = ⟨s5' ns n b0 b1 b2 b3 s R h g0 g1 g2 (.lst (R.map .str)) none none none, w'⟩ /\ ((b2 = true /\ ms' (cC' s) g2) \/ (b2 = false /\ g2 = .str [h])) /\ cl' w' 0) (cM' (fun c => ?_) (fun c => ?_)) ?_
    . subst c
      have br : wF (f__law_bad_hand [.obj 0, .str (cC' s)] w4) (fun o w' => ∃ d, o = .fz d /\ ms' (cC' s) d /\ cl' w' 0) FX := fh' h4 (i2' s 2).1 (lW' hs.2 2 (by decide))
      walk_at "s"
      refine br.mono ?_
      rintro _ w5 ⟨d, rfl, hd, h5⟩
      clear br
      walk_at "s"
      exact ⟨_, _, rfl, by simp [hd], h5⟩
    . subst c
      walk_at "s"
      exact ⟨_, _, rfl, by simp, h4⟩
    clear h4 w4 ei2
    rintro _ ⟨g2, w4, rfl, G2, h4⟩
    walk_at "s"
    refine hH' (fun ρ => ∃ g3 w', ρ = ⟨s5' ns n b0 b1 b2 b3 s R h g0 g1 g2 g3 none none none, w'⟩ /\ ((b3 = true /\ s6' s g3) \/ (b3 = false /\ g3 = .lst (R.map .str))) /\ cl' w' 0) (cM' (fun c => ?_) (fun c => ?_)) ?_
    . subst c
      have br := fg' h4 hR rfl hh1 hh2 (by omega) (by omega)
      walk_at "s"
      refine br.mono ?_
      rintro _ w5 ⟨d, rfl, hd, h5⟩
      clear br
      walk_at "s"
      exact ⟨_, _, rfl, by simp [hd], h5⟩
    . subst c
      walk_at "s"
      exact ⟨_, _, rfl, by simp, h4⟩
    clear h4 w4 ei3
    rintro _ ⟨g3, w4, rfl, G3, h4⟩
    have q0 := fun w => jw' (w := w) hs (by omega) hro hh G0 G1 G2
    have q1 := fun w => jv' (w := w) (h := .non) hs (by omega) hR G0 G3
    have q2 := fun w => jt' (w := w) (r := .non) (h := .non) hs (by omega) G0
    clear G0 G1 G2 G3
    walk_at "s"
    have L0 : ∀ (a b c d : D), [a, b, c, d][0]? = some a := fun _ _ _ _ => rfl
    have L1 : ∀ (a b c d : D), [a, b, c, d][1]? = some b := fun _ _ _ _ => rfl
    have L2 : ∀ (a b c d : D), [a, b, c, d][2]? = some c := fun _ _ _ _ => rfl
    have L3 : ∀ (a b c d : D), [a, b, c, d][3]? = some d := fun _ _ _ _ => rfl
    refine dJ' (fun k ρ => ∃ x11, ρ = ⟨s5' ns n b0 b1 b2 b3 s R h g0 g1 g2 g3 (some (.fz (.lst [.str DE, .str RE, .str HE, .str RS]))) (some (.lst [.fz (bk k 0 b0 DE), .fz (bk k 1 b1 RE), .fz (bk k 2 b2 HE), .fz (bk k 3 b3 RS)])) x11, w4⟩) ⟨_, rfl⟩ ?_ ?_
    . clear q0 q1 q2
      rintro k _ hk ⟨x11, rfl⟩
      have : k = 0 \/ k = 1 \/ k = 2 \/ k = 3 := by omega
      rcases this with rfl | rfl | rfl | rfl
      all_goals walk_at "s"
      all_goals refine cM' (fun c => ?_) (fun c => ?_)
      all_goals subst c
      all_goals walk_at "s"
      all_goals exact ⟨_, rfl⟩
    rintro _ ⟨x11, rfl⟩
    have bk0 : bk 4 0 b0 DE = bd b0 DE := rfl
    have bk1 : bk 4 1 b1 RE = bd b1 RE := rfl
    have bk2 : bk 4 2 b2 HE = bd b2 HE := rfl
    have bk3 : bk 4 3 b3 RS = bd b3 RS := rfl
    have d0 := fun w => e6' (bs := [bd b0 DE, bd b1 RE, bd b2 HE]) (eC' (bs := [(b0, DE), (b1, RE), (b2, HE)])) (by simp) w
    have d1 := fun w => e6' (bs := [bd b0 DE, bd b3 RS]) (eC' (bs := [(b0, DE), (b3, RS)])) (by simp) w
    have d2 := fun w => e6' (bs := [bd b0 DE]) (eC' (bs := [(b0, DE)])) (by simp) w
    have p0 := dm' (bs := [bd b0 DE, bd b1 RE, bd b2 HE]) (eC' (bs := [(b0, DE), (b1, RE), (b2, HE)]))
    have p1 := dm' (bs := [bd b0 DE, bd b3 RS]) (eC' (bs := [(b0, DE), (b3, RS)]))
    have p2 := dm' (bs := [bd b0 DE]) (eC' (bs := [(b0, DE)]))
    have n0 : ∀ Q : D -> Prop, wD (pNe (fl' [bd b0 DE, bd b1 RE, bd b2 HE]) (fl' [bd b0 DE, bd b1 RE, bd b2 HE])) Q = Q (.bl false) := fun Q => dn' _ p0.1 (Nat.le_trans p0.2 (by decide))
    have n1 : ∀ Q : D -> Prop, wD (pNe (fl' [bd b0 DE, bd b3 RS]) (fl' [bd b0 DE, bd b3 RS])) Q = Q (.bl false) := fun Q => dn' _ p1.1 (Nat.le_trans p1.2 (by decide))
    have n2 : ∀ Q : D -> Prop, wD (pNe (fl' [bd b0 DE]) (fl' [bd b0 DE])) Q = Q (.bl false) := fun Q => dn' _ p2.1 (Nat.le_trans p2.2 (by decide))
    clear p0 p1 p2 hn1
    rw [bk0, bk1, bk2, bk3]
    clear bk0 bk1 bk2 bk3
    generalize fl' [bd b0 DE, bd b1 RE, bd b2 HE] = y0 at q0 d0 n0
    generalize fl' [bd b0 DE, bd b3 RS] = y1 at q1 d1 n1
    generalize fl' [bd b0 DE] = y2 at q2 d2 n2
    generalize bd b0 DE = c0 at d0 d1 d2 ⊢
    generalize bd b1 RE = c1 at d0 d1 ⊢
    generalize bd b2 HE = c2 at d0 d1 ⊢
    generalize bd b3 RS = c3 at d0 d1 ⊢
    have ec : ∀ a b c d : D, frzs [.fz a, .fz b, .fz c, .fz d] = [a, b, c, d] := fun _ _ _ _ => rfl
    have T3 : ∀ a b c d : D, [a, b, c, d].take 3 = [a, b, c] := fun _ _ _ _ => rfl
    have T1 : ∀ a b c d : D, [a, b, c, d].take 1 = [a] := fun _ _ _ _ => rfl
    have P1 : ∀ (a b : D) (Q : D -> Prop), wD (pIx (.tup [a, b]) (.int 1)) Q = Q b := fun a b Q => by rw [ns', b4' (by decide)]; exact an' ..
    walk_at "s"
    refine (q0 w4).mono ?_
    rintro _ _ ⟨⟨x, rfl⟩, rfl⟩
    rename_i w4
    clear q0
    walk_at "s"
    refine (d0 w4).mono ?_
    rintro _ _ ⟨rfl, rfl⟩
    rename_i w4
    clear d0
    walk_at "s"
    refine (q1 w4).mono ?_
    rintro _ _ ⟨⟨x, rfl⟩, rfl⟩
    rename_i w4
    clear q1
    walk_at "s"
    refine (d1 w4).mono ?_
    rintro _ _ ⟨rfl, rfl⟩
    rename_i w4
    clear d1
    walk_at "s"
    refine (q2 w4).mono ?_
    rintro _ _ ⟨⟨x, rfl⟩, rfl⟩
    rename_i w4
    clear q2
    walk_at "s"
    refine (d2 w4).mono ?_
    rintro _ _ ⟨rfl, rfl⟩
    rename_i w4
    clear d2
    have hsl' : s.length <= 1000 := by omega
    have m0 := fun w => f8' (k7' hs hsl' hro hh w)
    have m1 := fun w => f7' (h := .non) (eA' hs hsl' hR.len hR.ok w)
    have ls := fun w => d3' h hro.1 hsl' w
    have sr := fun w => cV' hs hsl' w
    have e5 : ∀ Q : D -> Prop, wD (pIx (.lst (R.map .str)) (.int 0)) Q = Q (.str r0) := e5'.h
    walk_at "s"
    clear n0 n1 n2
    refine (m0 w4).mono ?_
    rintro _ _ ⟨rfl, rfl⟩
    rename_i w4
    clear m0
    walk_at "s"
    refine (ls w4).mono ?_
    rintro _ _ ⟨rfl, rfl⟩
    rename_i w4
    clear ls
    have n3 : ∀ (x : Tx) (Q : D -> Prop), wD (pNe (.tup [.str x, .lst []]) (.tup [.str x, .lst []])) Q = Q (.bl false) := fun x Q => dn' _ rfl (by show 2 <= 64; decide)
    clear e5
    walk_at "s"
    refine pv' (fun i => chD ((R.getD (s.getD i 0 - 65) []).getD i 0)) (by omega) ?_ ?_
    . intro i hi
      clear m1 sr L0 L1 L2 L3 ec T3 T1 P1 n3
      walk_at "s"
      refine aO' (by omega) fun c hcm hc => ?_
      obtain ⟨g1, g2, g3⟩ := i3' hs.2 hcm
      obtain ⟨r, hr⟩ : ∃ r, R[c - 65]? = some r := ⟨_, List.getElem?_eq_getElem (by omega)⟩
      have hrm : r ∈ R := List.mem_of_getElem? hr
      have hrl := (hR.ok r hrm).1
      obtain ⟨x, hx⟩ : ∃ x, r[i]? = some x := ⟨_, List.getElem?_eq_getElem (by omega)⟩
      rw [bX' hc, bX' hr, bX' hx]
      clear hc hcm hrm g3
      walk_at "s"
    walk_at "l"
    have e9 : ((List.range n).map fun i => chD ((R.getD (s.getD i 0 - 65) []).getD i 0)) = (crs s R).map chD := by
      unfold crs
      rw [hsl, List.map_map]
      rfl
    have l9 : (crs s R).length <= 1000 := by
      unfold crs
      rw [List.length_map, List.length_range]
      omega
    rw [e9]
    clear e9
    walk_at "s"
    refine (sr w4).mono ?_
    rintro _ _ ⟨⟨P, rfl, hP, hPl⟩, rfl⟩
    rename_i w4
    clear sr
    walk_at "s"
    refine dG' (f := q4') (fun p => .int ((p.2.2 : Int) - p.2.1)) (by omega) ?_ ?_
    . rintro ⟨c, a, b⟩ _
      have e : q4' (c, a, b) = .tup [.str [c], .int ((b : Int) - a)] := rfl
      clear m1
      walk_at "s"
    walk_at "l"
    have e9 : (P.map fun p => D.int ((p.2.2 : Int) - p.2.1)) = (P.map fun p => (p.2.2 : Int) - p.2.1).map .int := by
      rw [List.map_map]; rfl
    have e8 : (P.map fun p => (p.2.2 : Int) - p.2.1).sum = (s.length : Int) := hP
    rw [e9]
    clear e9 hP
    walk_at "s"
    refine (m1 w4).mono ?_
    rintro _ _ ⟨rfl, rfl⟩
    have n4 : ∀ (x : Tx) (Q : D -> Prop), wD (pEq (.tup [.str x, .lst []]) (.tup [.str x, .lst []])) Q = Q (.bl true) := fun x Q => nw' _ rfl (by show 2 <= 64; decide)
    walk_at "s"
end
end M
namespace S
open PySem PySem.Spec PyProof.Rows L2
section
variable [Wd] {K : PySem.W.Frag} {mg : Str -> Option Value} {base : Heap}
theorem b8' (C : Ctx Wd.w K mg) : Og Wd.P Wd.w K mg base 1 "is_string_of" ["thing", "signs"] (spM K M.f_is_string_of) := by
  obtain ⟨fd, F⟩ := C.f_is_string_of
  exact ⟨fd, okM F b6' rfl rfl (fun cdv A outer s H E hr =>
    (ad' (ba' (ei' (k5' (lb' "str" (by decide) rfl (C.free_isinstance) (by decide +kernel) (af' (pv 0)) (pe_bltn (v := .ty "str") rfl (C.free_str) (by decide +kernel) rfl)))) (ah' (aD' (bh' da'))) aM')
      (ad' (dw' (passes_of rfl) rfl (cu' (af' (pv 0))) (dy' 2 b6'.nd rfl (by walk_at "1") (by walk_at "2")) (ah' (ba' (aL' fX' lx' (by rfl) (af' (pv 2)) (af' (pv 1))) (ah' (aD' (bh' da'))) aM')))
      (ah' (aD' (bh' da')))))), d5' F, F.kp, C.g_is_string_of⟩
theorem bs' (C : Ctx Wd.w K mg) : Og Wd.P Wd.w K mg base 2 "check_dealing" ["thing"] (spM K M.f_check_dealing) := by
  obtain ⟨fd, F⟩ := C.f_check_dealing
  exact ⟨fd, okM F db' rfl rfl (fun cdv A outer s H E hr =>
    (ah' (ba' (oX' (jm' (ei' (k5' (bG' (ag' (b8' C) (hr.mono (by walk_at "4")) rfl (takes_of rfl rfl rfl rfl) (aa' (af' (pv 0)) (aa' (q9' (dz' rfl C.c_HANDS) fun _ _ => gg' (by decide +kernel) (by decide +kernel)) ae')))))) (fQ' (aL' (bf' hr.units) eZ' (nomark _) (af' (pv 0)) (ap' [] (by decide +kernel) (by decide +kernel)))))) (ah' (ct' rfl (takes_of rfl rfl rfl rfl) (cw' PySem.F.excBase_ValueError C.x_NoDealing C.g_NoDealing C.k_NoDealing C.r_NoDealing rfl))) aM'))), dQ' F, F.kp, C.g_check_dealing⟩
theorem dC' (C : Ctx Wd.w K mg) : Og Wd.P Wd.w K mg base 1 "hands_of" ["dealing"] (spM K M.f_hands_of) := by
  obtain ⟨fd, F⟩ := C.f_hands_of
  exact ⟨fd, okM F bT' rfl rfl (fun cdv A outer s H E hr =>
    (ad' (am' (i := 1) bT'.nd rfl (by walk_at "1") (bh' ac'))
      (ad' (dw' (passes_of rfl) rfl (cu' (af' (pv 0))) (dy' 2 bT'.nd rfl (by walk_at "1") (by walk_at "2")) (ah' (am' (i := 1) bT'.nd rfl (by walk_at "1") (bh' (ra' (eB' rfl) oD' rfl (C.free_max) (by decide +kernel) (af' (pv 1)) (aC' ao' a3' (eQ' PySem.F.slot_str_index PySem.F.type_str_index f6' lE' (q9' (dz' rfl C.c_HANDS) fun _ _ => gg' (by decide +kernel) (by decide +kernel)) (aa' (af' (pv 2)) ae')) ac'))))))
      (ah' (aD' (bh' (bL' ek' es' (q9' (dz' rfl C.c_HANDS) fun _ _ => gg' (by decide +kernel) (by decide +kernel)) bK' (bJ' (af' (pv 1)))))))))), jL' F, F.kp, C.g_hands_of⟩
theorem fY' (C : Ctx Wd.w K mg) : Og Wd.P Wd.w K mg base 2 "is_row" ["dealing", "thing", "signs"] (spM K M.f_is_row) := by
  obtain ⟨fd, F⟩ := C.f_is_row
  exact ⟨fd, okM F lc' rfl rfl (fun cdv A outer s H E hr =>
    (ah' (aD' (bh' (of' (bG' (ag' (b8' C) (hr.mono (by walk_at "4")) rfl (takes_of rfl rfl rfl rfl) (aa' (af' (pv 1)) (aa' (af' (pv 2)) ae')))) (oe' (fT' (bf' hr.units) eZ' (nomark _) (bc' (ak' ⟨rfl, rfl⟩) bl' rfl (C.free_len) (by decide +kernel) (af' (pv 1))) (bc' (ak' ⟨rfl, rfl⟩) bl' rfl (C.free_len) (by decide +kernel) (af' (pv 0)))))))))), nD' F, F.kp, C.g_is_row⟩
theorem fZ' (C : Ctx Wd.w K mg) : Og Wd.P Wd.w K mg base 3 "check_row" ["dealing", "thing", "signs"] (spM K M.f_check_row) := by
  obtain ⟨fd, F⟩ := C.f_check_row
  exact ⟨fd, okM F fU' rfl rfl (fun cdv A outer s H E hr =>
    (ah' (ba' (ei' (k5' (bG' (ag' (fY' C) (hr.mono (by walk_at "4")) rfl (takes_of rfl rfl rfl rfl) (aa' (af' (pv 0)) (aa' (af' (pv 1)) (aa' (af' (pv 2)) ae'))))))) (ah' (ct' rfl (takes_of rfl rfl rfl rfl) (cw' PySem.F.excBase_ValueError C.x_NoRow C.g_NoRow C.k_NoRow C.r_NoRow rfl))) aM'))), hz' F, F.kp, C.g_check_row⟩
theorem m3' (C : Ctx Wd.w K mg) : Og Wd.P Wd.w K mg base 1 "sight" ["dealing", "row", "hand"] (spM K M.f_sight) := by
  obtain ⟨fd, F⟩ := C.f_sight
  exact ⟨fd, okM F dj' rfl rfl (fun cdv A outer s H E hr =>
    (ah' (aD' (bh' (eQ' PySem.F.slot_str_join PySem.F.type_str_join mt_join f9' (ap' [] (by decide +kernel) (by decide +kernel)) (aa' (fS' (own := [("owner", 3), ("sign", 4)]) rfl dj'.nd (q8' rfl (C.free_zip) (af' (pv 0)) (af' (pv 1))) (blkOk_by (own := [("owner", 3), ("sign", 4)]) (N := mh') (sc := defScope bC') (by decide +kernel)) rfl (fun _ _ _ _ _ => (tM' (n := 2) rfl rfl rfl rfl (bS' rfl (dy' 3 dj'.nd rfl (by walk_at "1") (by walk_at "2")) (bS' rfl (dy' 4 dj'.nd rfl (by walk_at "1") (by walk_at "2")) gX')))) (fun _ _ _ _ _ => (iK' (aL' (bf' hr.units) eZ' (nomark _) (af' (pv 3)) (af' (pv 2))))) (fun _ _ _ _ _ => (af' (pv 4)))) ae')))))), qj' F, F.kp, C.g_sight⟩
theorem ph' (C : Ctx Wd.w K mg) : Og Wd.P Wd.w K mg base 4 "seen" ["dealing", "row", "hand"] (spM K M.f_seen) := by
  obtain ⟨fd, F⟩ := C.f_seen
  exact ⟨fd, okM F o2' rfl rfl (fun cdv A outer s H E hr =>
    (ad' (eO' (bG' (ag' (bs' C) (hr.mono (by walk_at "4")) rfl (takes_of rfl rfl rfl rfl) (aa' (af' (pv 0)) ae'))))
      (ad' (eO' (bG' (ag' (fZ' C) (hr.mono (by walk_at "4")) rfl (takes_of rfl rfl rfl rfl) (aa' (af' (pv 0)) (aa' (af' (pv 1)) (aa' (q9' (dz' rfl C.c_SIGNS) fun _ _ => gg' (by decide +kernel) (by decide +kernel)) ae'))))))
      (ad' (ba' (oX' (jm' (ei' (k5' (lb' "str" (by decide) rfl (C.free_isinstance) (by decide +kernel) (af' (pv 2)) (pe_bltn (v := .ty "str") rfl (C.free_str) (by decide +kernel) rfl)))) (jm' (aL' (dB' hr.units) pm' (nomark _) (bc' (ak' ⟨rfl, rfl⟩) bl' rfl (C.free_len) (by decide +kernel) (af' (pv 2))) ac') (fQ' (aL' fX' lx' (by rfl) (af' (pv 2)) (bG' (ag' (dC' C) (hr.mono (by walk_at "4")) rfl (takes_of rfl rfl rfl rfl) (aa' (af' (pv 0)) ae')))))))) (ah' (ct' rfl (takes_of rfl rfl rfl rfl) (cw' PySem.F.excBase_ValueError C.x_NoHand C.g_NoHand C.k_NoHand C.r_NoHand rfl))) aM')
      (ah' (aD' (ag' (m3' C) (hr.mono (by walk_at "4")) rfl (takes_of rfl rfl rfl rfl) (aa' (af' (pv 0)) (aa' (af' (pv 1)) (aa' (af' (pv 2)) ae')))))))))), sZ' F, F.kp, C.g_seen⟩
theorem jr' (C : Ctx Wd.w K mg) : Og Wd.P Wd.w K mg base 3 "crossed" ["dealing", "rows"] (spM K M.f_crossed) := by
  obtain ⟨fd, F⟩ := C.f_crossed
  exact ⟨fd, okM F bk' rfl rfl (fun cdv A outer s H E hr =>
    (ad' (eO' (bG' (ag' (bs' C) (hr.mono (by walk_at "4")) rfl (takes_of rfl rfl rfl rfl) (aa' (af' (pv 0)) ae'))))
      (ad' (am' (i := 2) bk'.nd rfl (by walk_at "1") (ag' (dC' C) (hr.mono (by walk_at "4")) rfl (takes_of rfl rfl rfl rfl) (aa' (af' (pv 0)) ae')))
      (ad' (ba' (oX' (jm' (ei' (k5' (lb' "list" (by decide) rfl (C.free_isinstance) (by decide +kernel) (af' (pv 1)) (pe_bltn (v := .ty "list") rfl (C.free_list) (by decide +kernel) rfl)))) (fQ' (aL' (dB' hr.units) pm' (nomark _) (bc' (ak' ⟨rfl, rfl⟩) bl' rfl (C.free_len) (by decide +kernel) (af' (pv 1))) (bc' (ak' ⟨rfl, rfl⟩) bl' rfl (C.free_len) (by decide +kernel) (af' (pv 2))))))) (ah' (ct' rfl (takes_of rfl rfl rfl rfl) (cw' PySem.F.excBase_ValueError C.x_NoRows C.g_NoRows C.k_NoRows C.r_NoRows rfl))) aM')
      (ad' (ba' (ei' (k5' (bc' (cr_all rfl) u1' rfl (C.free_all) (by decide +kernel) (fS' (own := [("row", 3)]) rfl bk'.nd (cu' (af' (pv 1))) (blkOk_by (own := [("row", 3)]) (N := dV') (sc := defScope aX') (by decide +kernel)) rfl (fun _ _ _ _ _ => (dy' 3 bk'.nd rfl (by walk_at "1") (by walk_at "2"))) (fun _ _ _ _ _ => bm') (fun _ _ _ _ _ => (bG' (ag' (fY' C) (hr.mono (by walk_at "4")) rfl dh' (aa' (af' (pv 0)) (aa' (af' (pv 3)) (aa' (q9' (dz' rfl C.c_SIGNS) fun _ _ => gg' (by decide +kernel) (by decide +kernel)) ae')))))))))) (ah' (ct' rfl (takes_of rfl rfl rfl rfl) (cw' PySem.F.excBase_ValueError C.x_NoRows C.g_NoRows C.k_NoRows C.r_NoRows rfl))) aM')
      (ah' (aD' (bh' (eQ' PySem.F.slot_str_join PySem.F.type_str_join mt_join f9' (ap' [] (by decide +kernel) (by decide +kernel)) (aa' (fS' (own := [("place", 4), ("owner", 5)]) rfl bk'.nd (oZ' rfl (C.free_enumerate) (af' (pv 0))) (blkOk_by (own := [("place", 4), ("owner", 5)]) (N := dV') (sc := defScope aX') (by decide +kernel)) rfl (fun _ _ _ _ _ => (tM' (n := 2) rfl rfl rfl rfl (bS' rfl (dy' 4 bk'.nd rfl (by walk_at "1") (by walk_at "2")) (bS' rfl (dy' 5 bk'.nd rfl (by walk_at "1") (by walk_at "2")) gX')))) (fun _ _ _ _ _ => bm') (fun _ _ _ _ _ => (aW' ix_seq bR' (aW' ix_seq bR' (af' (pv 1)) (eQ' PySem.F.slot_str_index PySem.F.type_str_index f6' lE' (af' (pv 2)) (aa' (af' (pv 5)) ae')) (fun _ _ => rfl)) (af' (pv 4)) (fun _ _ => rfl)))) ae')))))))))), mb' F, F.kp, C.g_crossed⟩
theorem g2' (C : Ctx Wd.w K mg) : Og Wd.P Wd.w K mg base 1 "parts_of" ["dealing"] (spM K M.f_parts_of) := by
  obtain ⟨fd, F⟩ := C.f_parts_of
  exact ⟨fd, okM F bB' rfl rfl (fun cdv A outer s H E hr =>
    (ad' (am' (i := 1) bB'.nd rfl (by walk_at "1") (iL' ae'))
      (ad' (am' (i := 2) bB'.nd rfl (by walk_at "1") (bh' ac'))
      (ad' (dw' (passes_of rfl) rfl (k6' rfl (C.free_range) ac' (aC' ao' a3' (bc' (ak' ⟨rfl, rfl⟩) bl' rfl (C.free_len) (by decide +kernel) (af' (pv 0))) ac')) (dy' 3 bB'.nd rfl (by walk_at "1") (by walk_at "2")) (ah' (ba' (oX' (jm' (aL' (bf' hr.units) eZ' (nomark _) (af' (pv 3)) (bc' (ak' ⟨rfl, rfl⟩) bl' rfl (C.free_len) (by decide +kernel) (af' (pv 0)))) (fQ' (aL' (dB' hr.units) pm' (nomark _) (aW' ix_seq bR' (af' (pv 0)) (af' (pv 3)) (fun _ _ => rfl)) (aW' ix_seq bR' (af' (pv 0)) (af' (pv 2)) (fun _ _ => rfl)))))) (ad' (oa' (pv 1) (bh' (cW' (aa' (aW' ix_seq bR' (af' (pv 0)) (af' (pv 2)) (fun _ _ => rfl)) (aa' (af' (pv 2)) (aa' (af' (pv 3)) ae'))))))
      (ah' (am' (i := 2) bB'.nd rfl (by walk_at "1") (bh' (af' (pv 3)))))) aM')))
      (ah' (aD' (tL' (pv 1)))))))), jK' F, F.kp, C.g_parts_of⟩
theorem c0' (C : Ctx Wd.w K mg) : Og Wd.P Wd.w K mg base 3 "stretches" ["dealing"] (spM K M.f_stretches) := by
  obtain ⟨fd, F⟩ := C.f_stretches
  exact ⟨fd, okM F bo' rfl rfl (fun cdv A outer s H E hr =>
    (ad' (eO' (bG' (ag' (bs' C) (hr.mono (by walk_at "4")) rfl (takes_of rfl rfl rfl rfl) (aa' (af' (pv 0)) ae'))))
      (ah' (aD' (oY' (own := [("hand", 1), ("start", 2), ("stop", 3)]) rfl bo'.nd (cu' (bG' (ag' (g2' C) (hr.mono (by walk_at "4")) rfl (takes_of rfl rfl rfl rfl) (aa' (af' (pv 0)) ae')))) (blkOk_by (own := [("hand", 1), ("start", 2), ("stop", 3)]) (N := dU') (sc := defScope aJ') (by decide +kernel)) rfl (fun _ _ _ _ _ => (tM' (n := 3) rfl rfl rfl rfl (bS' rfl (dy' 1 bo'.nd rfl (by walk_at "1") (by walk_at "2")) (bS' rfl (dy' 2 bo'.nd rfl (by walk_at "1") (by walk_at "2")) (bS' rfl (dy' 3 bo'.nd rfl (by walk_at "1") (by walk_at "2")) gX'))))) (fun _ _ _ _ _ => bm') (fun _ _ _ _ _ => (cW' (aa' (af' (pv 1)) (aa' (aC' op_sub t2' (af' (pv 3)) (af' (pv 2))) ae'))))))))), hy' F, F.kp, C.g_stretches⟩
theorem f0' (C : Ctx Wd.w K mg) : Og Wd.P Wd.w K mg base 1 "_law_hand" ["_law_script"] (spM K M.f__law_hand) := by
  obtain ⟨fd, F⟩ := C.f__law_hand
  exact ⟨fd, okM F b7' rfl rfl (fun cdv A outer s H E hr =>
    (ad' (iJ' (i := 1) (own := [("_law_cell", 2)]) rfl b7'.nd rfl rfl (sw_true (by rfl) (by rfl) (by rfl) (by decide +kernel)) (cu' (bL' ek' es' (af' (pv 0)) bK' (bJ' ac'))) (blkOk_by (own := [("_law_cell", 2)]) (N := dX') (sc := defScope aK') (by decide +kernel)) rfl (fun _ _ _ _ _ => (dy' 2 b7'.nd rfl (by walk_at "1") (by walk_at "2"))) (fun _ _ _ _ _ => bm') (fun _ _ _ _ _ => (bc' l7' u2' rfl (C.free_abs) (by decide +kernel) (cN' bq' gI' rfl (C.free_int) (by decide +kernel) (af' (pv 2))))))
      (ah' (aD' (q7' (aa' (af' (pv 1)) (aa' ac' (aa' ac' (aa' (aC' ao' a3' ac' (bc' (ak' ⟨rfl, rfl⟩) bl' rfl (C.free_len) (by decide +kernel) (af' (pv 1)))) (aa' ac' ae')))))))))), hA' F, F.kp, C.g__law_hand⟩
theorem aj' (C : Ctx Wd.w K mg) : Og Wd.P Wd.w K mg base 1 "_law_draw" ["_law_hand_here", "_law_many"] (spM K M.f__law_draw) := by
  obtain ⟨fd, F⟩ := C.f__law_draw
  exact ⟨fd, okM F bb' rfl rfl (fun cdv A outer s H E hr =>
    (ad' (ba' (oX' (n8' (aL' (bf' hr.units) eZ' (nomark _) (bM' (af' (pv 0)) ac' (fun _ _ => rfl)) ac') (k1' (aL' iR' tl' (nomark _) (bM' (af' (pv 0)) ac' (fun _ _ => rfl)) (bc' (ak' ⟨rfl, rfl⟩) bl' rfl (C.free_len) (by decide +kernel) (bM' (af' (pv 0)) ac' (fun _ _ => rfl))))))) (ad' (am' (i := 2) bb'.nd rfl (by walk_at "1") (bh' (aW' ix_seq bR' (bM' (af' (pv 0)) ac' (fun _ _ => rfl)) (bM' (af' (pv 0)) ac' (fun _ _ => rfl)) (fun _ _ => rfl))))
      (ad' (du' (aC' ao' a3' (bM' (af' (pv 0)) ac' (fun _ _ => rfl)) ac') (af' (pv 0)) ac')
      (ad' (du' (aC' op_mod g4' (cN' bq' gI' rfl (C.free_int) (by decide +kernel) (aC' ao' a3' (aC' ao' a3' (aC' cR' ly' (bM' (af' (pv 0)) ac' (fun _ _ => rfl)) ac') (af' (pv 2))) ac')) ac') (af' (pv 0)) ac')
      (ah' (ba' (aL' rC' vN' (nomark _) (af' (pv 2)) (aC' op_pow t3' ac' ac')) (ah' (du' (af' (pv 2)) (af' (pv 0)) ac')) aM'))))) aM')
      (ad' (ba' (aL' rB' vM' (nomark _) (bM' (af' (pv 0)) ac' (fun _ _ => rfl)) ac') (ad' (am' (i := 3) bb'.nd rfl (by walk_at "1") (bh' (aC' op_mod g4' (cN' bq' gI' rfl (C.free_int) (by decide +kernel) (bM' (af' (pv 0)) ac' (fun _ _ => rfl))) (af' (pv 1)))))
      (ad' (du' (aC' op_fdivW iT' (bM' (af' (pv 0)) ac' (fun _ _ => rfl)) (af' (pv 1))) (af' (pv 0)) ac')
      (ah' (aD' (tL' (pv 3)))))) aM')
      (ad' (du' (aC' ao' a3' (bM' (af' (pv 0)) ac' (fun _ _ => rfl)) ac') (af' (pv 0)) ac')
      (ad' (am' (i := 4) bb'.nd rfl (by walk_at "1") (bh' (aC' op_mod g4' (cN' bq' gI' rfl (C.free_int) (by decide +kernel) (aC' cR' ly' (cN' bq' gI' rfl (C.free_int) (by decide +kernel) (aC' ao' a3' (bM' (af' (pv 0)) ac' (fun _ _ => rfl)) (aC' cR' ly' ac' (bM' (af' (pv 0)) ac' (fun _ _ => rfl))))) ac')) ac')))
      (ad' (am' (i := 4) bb'.nd rfl (by walk_at "1") (bh' (aC' op_mod g4' (cN' bq' gI' rfl (C.free_int) (by decide +kernel) (aC' cR' ly' (af' (pv 4)) (aC' ao' a3' (aC' op_fdivW iT' (af' (pv 4)) ac') ac'))) ac')))
      (ad' (am' (i := 4) bb'.nd rfl (by walk_at "1") (bh' (aC' op_mod g4' (cN' bq' gI' rfl (C.free_int) (by decide +kernel) (aC' cR' ly' (af' (pv 4)) (aC' ao' a3' (aC' op_fdivW iT' (af' (pv 4)) ac') ac'))) ac')))
      (ah' (aD' (bh' (aC' op_mod g4' (cN' bq' gI' rfl (C.free_int) (by decide +kernel) (aC' op_fdivW iT' (af' (pv 4)) ac')) (af' (pv 1))))))))))))), hB' F, F.kp, C.g__law_draw⟩
end
end S
namespace S
open PySem PySem.Spec PyProof.Rows L2
section
variable [Wd] {K : PySem.W.Frag} {mg : Str -> Option Value} {base : Heap}
theorem dD' (C : Ctx Wd.w K mg) : Og Wd.P Wd.w K mg base 2 "_law_dealing" ["_law_hand_here", "_law_places", "_law_most"] (spM K M.f__law_dealing) := by
  obtain ⟨fd, F⟩ := C.f__law_dealing
  exact ⟨fd, okM F ax' rfl rfl (fun cdv A outer s H E hr =>
    (ad' (am' (i := 3) ax'.nd rfl (by walk_at "1") (ag' (aj' C) (hr.mono (by walk_at "4")) rfl (takes_of rfl rfl rfl rfl) (aa' (af' (pv 0)) (aa' ac' ae'))))
      (ad' (am' (i := 4) ax'.nd rfl (by walk_at "1") (bh' (aC' ao' a3' ac' (bG' (ag' (aj' C) (hr.mono (by walk_at "4")) rfl (takes_of rfl rfl rfl rfl) (aa' (af' (pv 0)) (aa' (af' (pv 2)) ae')))))))
      (ad' (am' (i := 5) ax'.nd rfl (by walk_at "1") (ag' (aj' C) (hr.mono (by walk_at "4")) rfl (takes_of rfl rfl rfl rfl) (aa' (af' (pv 0)) (aa' (af' (pv 4)) ae'))))
      (ad' (am' (i := 6) ax'.nd rfl (by walk_at "1") (bh' (ap' [] (by decide +kernel) (by decide +kernel))))
      (ad' (dw' (passes_of rfl) rfl (bA' rfl (C.free_range) (af' (pv 1))) (dy' 7 ax'.nd rfl (by walk_at "1") (by walk_at "2")) (ad' (ba' (oX' (jm' (aL' (bf' hr.units) eZ' (nomark _) (af' (pv 3)) ac') (fQ' (oX' (n8' (aL' (bf' hr.units) eZ' (nomark _) (af' (pv 3)) ac') (k1' (aL' (bf' hr.units) eZ' (nomark _) (bG' (ag' (aj' C) (hr.mono (by walk_at "4")) rfl (takes_of rfl rfl rfl rfl) (aa' (af' (pv 0)) (aa' ac' ae')))) ac'))))))) (ah' (am' (i := 5) ax'.nd rfl (by walk_at "1") (ag' (aj' C) (hr.mono (by walk_at "4")) rfl (takes_of rfl rfl rfl rfl) (aa' (af' (pv 0)) (aa' (af' (pv 4)) ae'))))) aM')
      (ad' (ba' (aL' (bf' hr.units) eZ' (nomark _) (af' (pv 3)) ac') (ah' (am' (i := 5) ax'.nd rfl (by walk_at "1") (bh' (aC' op_mod g4' (af' (pv 7)) (af' (pv 4)))))) aM')
      (ah' (am' (i := 6) ax'.nd rfl (by walk_at "1") (bh' (aC' ao' a3' (af' (pv 6)) (aW' ix_seq bR' (ap' [65, 66, 67, 68] (by decide +kernel) (by decide +kernel)) (af' (pv 5)) (fun _ _ => rfl)))))))))
      (ah' (aD' (tL' (pv 6)))))))))), d6' F, F.kp, C.g__law_dealing⟩
theorem eY' (C : Ctx Wd.w K mg) : Og Wd.P Wd.w K mg base 1 "_law_hands" ["_law_dealing_here"] (spM K M.f__law_hands) := by
  obtain ⟨fd, F⟩ := C.f__law_hands
  exact ⟨fd, okM F bx' rfl rfl (fun cdv A outer s H E hr =>
    (ad' (am' (i := 1) bx'.nd rfl (by walk_at "1") (bh' ac'))
      (ad' (dw' (passes_of rfl) rfl (cu' (af' (pv 0))) (dy' 2 bx'.nd rfl (by walk_at "1") (by walk_at "2")) (ah' (am' (i := 1) bx'.nd rfl (by walk_at "1") (bh' (ra' (eB' rfl) oD' rfl (C.free_max) (by decide +kernel) (af' (pv 1)) (aC' ao' a3' ac' (eQ' PySem.F.slot_str_find PySem.F.type_str_find mt_find oq' (ap' [65, 66, 67, 68] (by decide +kernel) (by decide +kernel)) (aa' (af' (pv 2)) ae'))))))))
      (ah' (aD' (bh' (bL' ek' es' (ap' [65, 66, 67, 68] (by decide +kernel) (by decide +kernel)) bK' (bJ' (af' (pv 1)))))))))), gM' F, F.kp, C.g__law_hands⟩
theorem g3' (C : Ctx Wd.w K mg) : Og Wd.P Wd.w K mg base 2 "_law_row" ["_law_hand_here", "_law_signs", "_law_places"] (spM K M.f__law_row) := by
  obtain ⟨fd, F⟩ := C.f__law_row
  exact ⟨fd, okM F cn' rfl rfl (fun cdv A outer s H E hr =>
    (ah' (aD' (bh' (eQ' PySem.F.slot_str_join PySem.F.type_str_join mt_join f9' (ap' [] (by decide +kernel) (by decide +kernel)) (aa' (fS' (own := [("_law_place", 3)]) rfl cn'.nd (bA' rfl (C.free_range) (af' (pv 2))) (blkOk_by (own := [("_law_place", 3)]) (N := eD') (sc := defScope aU') (by decide +kernel)) rfl (fun _ _ _ _ _ => (dy' 3 cn'.nd rfl (by walk_at "1") (by walk_at "2"))) (fun _ _ _ _ _ => bm') (fun _ _ _ _ _ => (aW' ix_seq bR' (af' (pv 1)) (bG' (ag' (aj' C) (hr.mono (by walk_at "4")) rfl dh' (aa' (af' (pv 0)) (aa' (bc' (ak' ⟨rfl, rfl⟩) bl' rfl (C.free_len) (by decide +kernel) (af' (pv 1))) ae')))) (fun _ _ => rfl)))) ae')))))), jM' F, F.kp, C.g__law_row⟩
theorem eX' (C : Ctx Wd.w K mg) : Og Wd.P Wd.w K mg base 1 "_law_sight" ["_law_dealing_here", "_law_row_here", "_law_owner"] (spM K M.f__law_sight) := by
  obtain ⟨fd, F⟩ := C.f__law_sight
  exact ⟨fd, okM F bU' rfl rfl (fun cdv A outer s H E hr =>
    (ah' (aD' (bh' (eQ' PySem.F.slot_str_join PySem.F.type_str_join mt_join f9' (ap' [] (by decide +kernel) (by decide +kernel)) (aa' (fS' (own := [("_law_place", 3)]) rfl bU'.nd (bA' rfl (C.free_range) (bc' (ak' ⟨rfl, rfl⟩) bl' rfl (C.free_len) (by decide +kernel) (af' (pv 1)))) (blkOk_by (own := [("_law_place", 3)]) (N := c9') (sc := defScope aE') (by decide +kernel)) rfl (fun _ _ _ _ _ => (dy' 3 bU'.nd rfl (by walk_at "1") (by walk_at "2"))) (fun _ _ _ _ _ => (iK' (aL' (bf' hr.units) eZ' (nomark _) (aW' ix_seq bR' (af' (pv 0)) (af' (pv 3)) (fun _ _ => rfl)) (af' (pv 2))))) (fun _ _ _ _ _ => (aW' ix_seq bR' (af' (pv 1)) (af' (pv 3)) (fun _ _ => rfl)))) ae')))))), gK' F, F.kp, C.g__law_sight⟩
theorem cr' (C : Ctx Wd.w K mg) : Og Wd.P Wd.w K mg base 2 "_law_bad_dealing" ["_law_hand_here", "_law_dealing_here"] (spM K M.f__law_bad_dealing) := by
  obtain ⟨fd, F⟩ := C.f__law_bad_dealing
  exact ⟨fd, okM F aI' rfl rfl (fun cdv A outer s H E hr =>
    (ad' (am' (i := 2) aI'.nd rfl (by walk_at "1") (bh' (bd' (aa' b5' (aa' ac' (aa' da' (aa' (ap' [] (by decide +kernel) (by decide +kernel)) (aa' (bd' (aa' (ap' [65] (by decide +kernel) (by decide +kernel)) (aa' (ap' [66] (by decide +kernel) (by decide +kernel)) ae'))) (aa' (cW' (aa' (ap' [65] (by decide +kernel) (by decide +kernel)) (aa' (ap' [66] (by decide +kernel) (by decide +kernel)) ae'))) (aa' (bG' eP') (aa' (ap' [65, 66, 32] (by decide +kernel) (by decide +kernel)) (aa' (ap' [97, 98] (by decide +kernel) (by decide +kernel)) (aa' (bd' (aa' (af' (pv 1)) ae')) (aa' (bG' (dx' (ap' [65] (by decide +kernel) (by decide +kernel)) (ap' [66] (by decide +kernel) (by decide +kernel)))) ae'))))))))))))))
      (ad' (am' (i := 3) aI'.nd rfl (by walk_at "1") (ag' (aj' C) (hr.mono (by walk_at "4")) rfl (takes_of rfl rfl rfl rfl) (aa' (af' (pv 0)) (aa' (aC' ao' a3' (bc' (ak' ⟨rfl, rfl⟩) bl' rfl (C.free_len) (by decide +kernel) (af' (pv 2))) ac') ae'))))
      (ad' (ba' (aL' iR' tl' (nomark _) (af' (pv 3)) (bc' (ak' ⟨rfl, rfl⟩) bl' rfl (C.free_len) (by decide +kernel) (af' (pv 2)))) (ah' (aD' (bh' (aW' ix_seq bR' (af' (pv 2)) (af' (pv 3)) (fun _ _ => rfl))))) aM')
      (ad' (am' (i := 4) aI'.nd rfl (by walk_at "1") (ag' (aj' C) (hr.mono (by walk_at "4")) rfl (takes_of rfl rfl rfl rfl) (aa' (af' (pv 0)) (aa' (bc' (ak' ⟨rfl, rfl⟩) bl' rfl (C.free_len) (by decide +kernel) (af' (pv 1))) ae'))))
      (ad' (am' (i := 5) aI'.nd rfl (by walk_at "1") (bh' (aW' ix_seq bR' (ap' [69, 70, 71, 90, 97, 98, 122, 46, 48, 49, 57, 32, 45, 95, 58, 10] (by decide +kernel) (by decide +kernel)) (bG' (ag' (aj' C) (hr.mono (by walk_at "4")) rfl (takes_of rfl rfl rfl rfl) (aa' (af' (pv 0)) (aa' ac' ae')))) (fun _ _ => rfl))))
      (ad' (ba' (aL' (bf' hr.units) eZ' (nomark _) (af' (pv 3)) (bc' (ak' ⟨rfl, rfl⟩) bl' rfl (C.free_len) (by decide +kernel) (af' (pv 2)))) (ah' (aD' (bh' (aC' ao' a3' (aC' ao' a3' (bL' ek' es' (af' (pv 1)) bK' (bJ' (af' (pv 4)))) (af' (pv 5))) (bL' ek' es' (af' (pv 1)) (bJ' (af' (pv 4))) bK'))))) aM')
      (ah' (aD' (bh' (aC' ao' a3' (aC' ao' a3' (bL' ek' es' (af' (pv 1)) bK' (bJ' (af' (pv 4)))) (af' (pv 5))) (bL' ek' es' (af' (pv 1)) (bJ' (aC' ao' a3' (af' (pv 4)) ac')) bK')))))))))))), cH' F, F.kp, C.g__law_bad_dealing⟩
theorem b9' (C : Ctx Wd.w K mg) : Og Wd.P Wd.w K mg base 2 "_law_bad_row" ["_law_hand_here", "_law_row_here"] (spM K M.f__law_bad_row) := by
  obtain ⟨fd, F⟩ := C.f__law_bad_row
  exact ⟨fd, okM F be' rfl rfl (fun cdv A outer s H E hr =>
    (ad' (am' (i := 2) be'.nd rfl (by walk_at "1") (bh' (bd' (aa' b5' (aa' ac' (aa' da' (aa' (cN' (cT' rfl) l9' rfl (C.free_list) (by decide +kernel) (af' (pv 1))) (aa' (cN' (dP' rfl) l8' rfl (C.free_tuple) (by decide +kernel) (af' (pv 1))) (aa' (bG' eP') (aa' (bd' (aa' (af' (pv 1)) ae')) (aa' (cW' (aa' (ap' [97] (by decide +kernel) (by decide +kernel)) ae')) (aa' (bG' (dx' (ap' [97] (by decide +kernel) (by decide +kernel)) (af' (pv 1)))) ae'))))))))))))
      (ad' (am' (i := 3) be'.nd rfl (by walk_at "1") (ag' (aj' C) (hr.mono (by walk_at "4")) rfl (takes_of rfl rfl rfl rfl) (aa' (af' (pv 0)) (aa' (aC' ao' a3' (bc' (ak' ⟨rfl, rfl⟩) bl' rfl (C.free_len) (by decide +kernel) (af' (pv 2))) ac') ae'))))
      (ad' (ba' (aL' iR' tl' (nomark _) (af' (pv 3)) (bc' (ak' ⟨rfl, rfl⟩) bl' rfl (C.free_len) (by decide +kernel) (af' (pv 2)))) (ah' (aD' (bh' (aW' ix_seq bR' (af' (pv 2)) (af' (pv 3)) (fun _ _ => rfl))))) aM')
      (ad' (am' (i := 4) be'.nd rfl (by walk_at "1") (ag' (aj' C) (hr.mono (by walk_at "4")) rfl (takes_of rfl rfl rfl rfl) (aa' (af' (pv 0)) (aa' (bc' (ak' ⟨rfl, rfl⟩) bl' rfl (C.free_len) (by decide +kernel) (af' (pv 1))) ae'))))
      (ad' (ba' (aL' (bf' hr.units) eZ' (nomark _) (af' (pv 3)) (bc' (ak' ⟨rfl, rfl⟩) bl' rfl (C.free_len) (by decide +kernel) (af' (pv 2)))) (ah' (aD' (bh' (aC' ao' a3' (bL' ek' es' (af' (pv 1)) bK' (bJ' (af' (pv 4)))) (bL' ek' es' (af' (pv 1)) (bJ' (aC' ao' a3' (af' (pv 4)) ac')) bK'))))) aM')
      (ad' (ba' (aL' (bf' hr.units) eZ' (nomark _) (af' (pv 3)) (aC' ao' a3' (bc' (ak' ⟨rfl, rfl⟩) bl' rfl (C.free_len) (by decide +kernel) (af' (pv 2))) ac')) (ah' (aD' (bh' (aC' ao' a3' (aC' ao' a3' (bL' ek' es' (af' (pv 1)) bK' (bJ' (af' (pv 4)))) (ap' [97] (by decide +kernel) (by decide +kernel))) (bL' ek' es' (af' (pv 1)) (bJ' (af' (pv 4))) bK'))))) aM')
      (ah' (aD' (bh' (aC' ao' a3' (aC' ao' a3' (bL' ek' es' (af' (pv 1)) bK' (bJ' (af' (pv 4)))) (aW' ix_seq bR' (ap' [65, 66, 90, 48, 49, 50, 57, 32, 45, 95, 44, 58, 10] (by decide +kernel) (by decide +kernel)) (bG' (ag' (aj' C) (hr.mono (by walk_at "4")) rfl (takes_of rfl rfl rfl rfl) (aa' (af' (pv 0)) (aa' ac' ae')))) (fun _ _ => rfl))) (bL' ek' es' (af' (pv 1)) (bJ' (aC' ao' a3' (af' (pv 4)) ac')) bK')))))))))))), d7' F, F.kp, C.g__law_bad_row⟩
theorem de' (C : Ctx Wd.w K mg) : Og Wd.P Wd.w K mg base 2 "_law_bad_hand" ["_law_hand_here", "_law_hands_here"] (spM K M.f__law_bad_hand) := by
  obtain ⟨fd, F⟩ := C.f__law_bad_hand
  exact ⟨fd, okM F br' rfl rfl (fun cdv A outer s H E hr =>
    (ad' (am' (i := 2) br'.nd rfl (by walk_at "1") (bh' (bd' (aa' b5' (aa' ac' (aa' da' (aa' (ap' [] (by decide +kernel) (by decide +kernel)) (aa' (ap' [97] (by decide +kernel) (by decide +kernel)) (aa' (ap' [69] (by decide +kernel) (by decide +kernel)) (aa' (ap' [65, 66] (by decide +kernel) (by decide +kernel)) (aa' (ap' [32, 65] (by decide +kernel) (by decide +kernel)) (aa' (bd' (aa' (ap' [65] (by decide +kernel) (by decide +kernel)) ae')) (aa' (cW' (aa' (ap' [65] (by decide +kernel) (by decide +kernel)) ae')) (aa' (bG' eP') (aa' (af' (pv 1)) (aa' (ap' [65, 65] (by decide +kernel) (by decide +kernel)) (aa' (ap' [46] (by decide +kernel) (by decide +kernel)) (aa' (bG' (dx' (ap' [65] (by decide +kernel) (by decide +kernel)) ac')) ae'))))))))))))))))))
      (ad' (am' (i := 2) br'.nd rfl (by walk_at "1") (bh' (aC' ao' a3' (af' (pv 2)) (cN' (cT' rfl) l9' rfl (C.free_list) (by decide +kernel) (bL' ek' es' (ap' [65, 66, 67, 68] (by decide +kernel) (by decide +kernel)) (bJ' (bc' (ak' ⟨rfl, rfl⟩) bl' rfl (C.free_len) (by decide +kernel) (af' (pv 1)))) bK')))))
      (ah' (aD' (bh' (aW' ix_seq bR' (af' (pv 2)) (bG' (ag' (aj' C) (hr.mono (by walk_at "4")) rfl (takes_of rfl rfl rfl rfl) (aa' (af' (pv 0)) (aa' (bc' (ak' ⟨rfl, rfl⟩) bl' rfl (C.free_len) (by decide +kernel) (af' (pv 2))) ae')))) (fun _ _ => rfl)))))))), dS' F, F.kp, C.g__law_bad_hand⟩
theorem dc' (C : Ctx Wd.w K mg) : Og Wd.P Wd.w K mg base 3 "_law_bad_rows" ["_law_hand_here", "_law_rows"] (spM K M.f__law_bad_rows) := by
  obtain ⟨fd, F⟩ := C.f__law_bad_rows
  exact ⟨fd, okM F a9' rfl rfl (fun cdv A outer s H E hr =>
    (ad' (am' (i := 2) a9'.nd rfl (by walk_at "1") (bh' (bd' (aa' b5' (aa' ac' (aa' da' (aa' (ap' [] (by decide +kernel) (by decide +kernel)) (aa' (ap' [97, 98] (by decide +kernel) (by decide +kernel)) (aa' (bG' eP') (aa' (cN' (dP' rfl) l8' rfl (C.free_tuple) (by decide +kernel) (af' (pv 1))) (aa' (aW' ix_seq bR' (af' (pv 1)) ac' (fun _ _ => rfl)) (aa' (aC' ao' a3' (af' (pv 1)) (bL' ek' es' (af' (pv 1)) bK' (bJ' ac'))) (aa' (bL' ek' es' (af' (pv 1)) (bJ' ac') bK') (aa' (bd' ae') (aa' (bd' (aa' (af' (pv 1)) ae')) ae')))))))))))))))
      (ad' (am' (i := 3) a9'.nd rfl (by walk_at "1") (ag' (aj' C) (hr.mono (by walk_at "4")) rfl (takes_of rfl rfl rfl rfl) (aa' (af' (pv 0)) (aa' (aC' ao' a3' (bc' (ak' ⟨rfl, rfl⟩) bl' rfl (C.free_len) (by decide +kernel) (af' (pv 2))) ac') ae'))))
      (ad' (ba' (aL' iR' tl' (nomark _) (af' (pv 3)) (bc' (ak' ⟨rfl, rfl⟩) bl' rfl (C.free_len) (by decide +kernel) (af' (pv 2)))) (ah' (aD' (bh' (aW' ix_seq bR' (af' (pv 2)) (af' (pv 3)) (fun _ _ => rfl))))) aM')
      (ad' (am' (i := 4) a9'.nd rfl (by walk_at "1") (ag' (aj' C) (hr.mono (by walk_at "4")) rfl (takes_of rfl rfl rfl rfl) (aa' (af' (pv 0)) (aa' (bc' (ak' ⟨rfl, rfl⟩) bl' rfl (C.free_len) (by decide +kernel) (af' (pv 1))) ae'))))
      (ah' (aD' (bh' (aC' ao' a3' (aC' ao' a3' (bL' ek' es' (af' (pv 1)) bK' (bJ' (af' (pv 4)))) (bd' (aa' (bG' (ag' (b9' C) (hr.mono (by walk_at "4")) rfl (takes_of rfl rfl rfl rfl) (aa' (af' (pv 0)) (aa' (aW' ix_seq bR' (af' (pv 1)) (af' (pv 4)) (fun _ _ => rfl)) ae')))) ae'))) (bL' ek' es' (af' (pv 1)) (bJ' (aC' ao' a3' (af' (pv 4)) ac')) bK')))))))))), dR' F, F.kp, C.g__law_bad_rows⟩
theorem bg' (C : Ctx Wd.w K mg) : Og Wd.P Wd.w K mg base 5 "_law_marks" ["_law_which", "_law_dealing_here", "_law_thing", "_law_owner"] (spM K M.f__law_marks) := by
  obtain ⟨fd, F⟩ := C.f__law_marks
  exact ⟨fd, okM F aN' rfl rfl (fun cdv A outer s H E hr =>
    (ad' (am' (i := 4) aN'.nd rfl (by walk_at "1") (bh' b5'))
      (ad' (am' (i := 5) aN'.nd rfl (by walk_at "1") (iL' ae'))
      (ad' (mL' (i := 6) (m := 0) rfl rfl aN'.nd rfl rfl ⟨rfl, by decide, Or.inl C.g_SaidError⟩ (takes_of rfl rfl rfl rfl) (fun _ _ e_ => n9' C.subs e_) (fun W_ pn_ xe_ tk_ po_ => (ah' (ba' (aL' (bf' hr.units) eZ' (nomark _) (af' (pv 0)) ac') (ah' (am' (i := 4) aN'.nd rfl (by walk_at "1") (ag' (ph' C) (hr.mono (by walk_at "4")) rfl tk_ (aa' (af' (pv 1)) (aa' (af' (pv 2)) (aa' (af' (pv 3)) ae')))))) (ah' (ba' (aL' (bf' hr.units) eZ' (nomark _) (af' (pv 0)) ac') (ah' (am' (i := 4) aN'.nd rfl (by walk_at "1") (ag' (jr' C) (hr.mono (by walk_at "4")) rfl tk_ (aa' (af' (pv 1)) (aa' (af' (pv 2)) ae'))))) (ah' (am' (i := 4) aN'.nd rfl (by walk_at "1") (ag' (c0' C) (hr.mono (by walk_at "4")) rfl tk_ (aa' (af' (pv 1)) ae'))))))))) (fun x_ a_ oe_ d_ pn_ hz_ hf_ => letI : Hot := e3' a_ 0 d_ x_; (ad' (am' (i := 5) aN'.nd rfl (by walk_at "1") (iL' (aa' (iM' (i := 6) "NoDealing" C.kit hz_ hf_ rfl (C.free_isinstance) (by decide +kernel) (pv 6) (eU' rfl C.g_NoDealing)) (aa' (iM' (i := 6) "NoRow" C.kit hz_ hf_ rfl (C.free_isinstance) (by decide +kernel) (pv 6) (eU' rfl C.g_NoRow)) (aa' (iM' (i := 6) "NoHand" C.kit hz_ hf_ rfl (C.free_isinstance) (by decide +kernel) (pv 6) (eU' rfl C.g_NoHand)) (aa' (iM' (i := 6) "NoRows" C.kit hz_ hf_ rfl (C.free_isinstance) (by decide +kernel) (pv 6) (eU' rfl C.g_NoRows)) ae'))))))
      (ah' (oa' (pv 5) (bh' (o0' (i := 6) "ValueError" C.kitB hz_ hf_ rfl (C.free_isinstance) (by decide +kernel) (pv 6) (pe_bltn (v := .ty "ValueError") rfl (C.free_ValueError) (by decide +kernel) rfl))))))))
      (ah' (aD' (bh' (cW' (aa' (af' (pv 4)) (aa' (af' (pv 5)) ae')))))))))), gL' F, F.kp, C.g__law_marks⟩
theorem cq' (C : Ctx Wd.w K mg) : Og Wd.P Wd.w K mg base 1 "_law_due" ["_law_bad"] (spM K M.f__law_due) := by
  obtain ⟨fd, F⟩ := C.f__law_due
  exact ⟨fd, okM F bV' rfl rfl (fun cdv A outer s H E hr =>
    (ad' (dw' (passes_of rfl) rfl (bA' rfl (C.free_range) (bc' (ak' ⟨rfl, rfl⟩) bl' rfl (C.free_len) (by decide +kernel) (af' (pv 0)))) (dy' 1 bV'.nd rfl (by walk_at "1") (by walk_at "2")) (ah' (ba' (aL' jq' pn' (nomark _) (aW' ix_seq bR' (af' (pv 0)) (af' (pv 1)) (fun _ _ => rfl)) b5') (ah' (aD' (bh' (aC' ao' a3' (fS' (own := [("_law_one", 2)]) rfl bV'.nd (cu' (bd' (aa' (ap' [100, 101, 97, 108, 105, 110, 103] (by decide +kernel) (by decide +kernel)) (aa' (ap' [114, 111, 119] (by decide +kernel) (by decide +kernel)) (aa' (ap' [104, 97, 110, 100] (by decide +kernel) (by decide +kernel)) (aa' (ap' [114, 111, 119, 115] (by decide +kernel) (by decide +kernel)) ae')))))) (blkOk_by (own := [("_law_one", 2)]) (N := eE') (sc := defScope aV') (by decide +kernel)) rfl (fun _ _ _ _ _ => (dy' 2 bV'.nd rfl (by walk_at "1") (by walk_at "2"))) (fun _ _ _ _ _ => bm') (fun _ _ _ _ _ => (fT' (bf' hr.units) eZ' (nomark _) (af' (pv 2)) (aW' ix_seq bR' (af' (pv 0)) (af' (pv 1)) (fun _ _ => rfl))))) (bd' (aa' da' ae')))))) aM')))
      (ah' (aD' (bh' (bd' ae')))))), jN' F, F.kp, C.g__law_due⟩
end
end S
namespace S
open PySem PySem.Spec PyProof.Rows L2
section
variable [Wd] {K : PySem.W.Frag} {mg : Str -> Option Value} {base : Heap}
theorem r7' (C : Ctx Wd.w K mg) {fd : FuncData} (F : FunD K "law" "law" (defArgs cv') (defBody cv') (defScope cv') [] [] (He.ga K "law") fd) : FnG Wd.P Wd.w K mg base (L2.CX Wd.P Wd.w) 6 (He.ga K "law") fd ["_law_script"] (spM K M.f_law) :=
  okM F a7' rfl rfl (fun cdv A outer s H E hr =>
    (ad' (am' (i := 1) a7'.nd rfl (by walk_at "1") (ag' (f0' C) (hr.mono (by walk_at "4")) rfl (takes_of rfl rfl rfl rfl) (aa' (af' (pv 0)) ae')))
      (ad' (iJ' (i := 2) (own := [("_law_k", 11)]) rfl a7'.nd rfl rfl (sw_true (by rfl) (by rfl) (by rfl) (by decide +kernel)) (bA' rfl (C.free_range) ac') (blkOk_by (own := [("_law_k", 11)]) (N := mi') (sc := defScope cv') (by decide +kernel)) rfl (fun _ _ _ _ _ => (dy' 11 a7'.nd rfl (by walk_at "1") (by walk_at "2"))) (fun _ _ _ _ _ => bm') (fun _ _ _ _ _ => (fT' (bf' hr.units) eZ' (nomark _) (bG' (ag' (aj' C) (hr.mono (by walk_at "4")) rfl dh' (aa' (af' (pv 1)) (aa' ac' ae')))) ac')))
      (ad' (am' (i := 3) a7'.nd rfl (by walk_at "1") (bh' (aC' ao' a3' ac' (bG' (ag' (aj' C) (hr.mono (by walk_at "4")) rfl (takes_of rfl rfl rfl rfl) (aa' (af' (pv 1)) (aa' ac' ae')))))))
      (ad' (am' (i := 4) a7'.nd rfl (by walk_at "1") (ag' (dD' C) (hr.mono (by walk_at "4")) rfl (takes_of rfl rfl rfl rfl) (aa' (af' (pv 1)) (aa' (af' (pv 3)) (aa' ac' ae')))))
      (ad' (am' (i := 5) a7'.nd rfl (by walk_at "1") (ag' (eY' C) (hr.mono (by walk_at "4")) rfl (takes_of rfl rfl rfl rfl) (aa' (af' (pv 4)) ae')))
      (ad' (am' (i := 6) a7'.nd rfl (by walk_at "1") (oY' (own := [("_law_owner", 7)]) rfl a7'.nd (cu' (af' (pv 5))) (blkOk_by (own := [("_law_owner", 7)]) (N := mi') (sc := defScope cv') (by decide +kernel)) rfl (fun _ _ _ _ _ => (dy' 7 a7'.nd rfl (by walk_at "1") (by walk_at "2"))) (fun _ _ _ _ _ => bm') (fun _ _ _ _ _ => (bG' (ag' (g3' C) (hr.mono (by walk_at "4")) rfl dh' (aa' (af' (pv 1)) (aa' (ap' [97, 98, 99, 100, 101, 102, 103, 104, 105, 106, 107, 108, 109, 110, 111, 112, 113, 114, 115, 116, 117, 118, 119, 120, 121, 122, 46, 46, 46, 46] (by decide +kernel) (by decide +kernel)) (aa' (af' (pv 3)) ae'))))))))
      (ad' (am' (i := 7) a7'.nd rfl (by walk_at "1") (bh' (aW' ix_seq bR' (af' (pv 5)) (bG' (ag' (aj' C) (hr.mono (by walk_at "4")) rfl (takes_of rfl rfl rfl rfl) (aa' (af' (pv 1)) (aa' (bc' (ak' ⟨rfl, rfl⟩) bl' rfl (C.free_len) (by decide +kernel) (af' (pv 5))) ae')))) (fun _ _ => rfl))))
      (ad' (am' (i := 8) a7'.nd rfl (by walk_at "1") (iL' (aa' (af' (pv 4)) (aa' (aW' ix_seq bR' (af' (pv 6)) ac' (fun _ _ => rfl)) (aa' (af' (pv 7)) (aa' (cN' (cT' rfl) l9' rfl (C.free_list) (by decide +kernel) (af' (pv 6))) ae'))))))
      (ad' (ba' (k5' (aW' ix_seq bR' (af' (pv 2)) ac' (fun _ _ => rfl))) (ah' (dv' (bG' (ag' (cr' C) (hr.mono (by walk_at "4")) rfl (takes_of rfl rfl rfl rfl) (aa' (af' (pv 1)) (aa' (af' (pv 4)) ae')))) (pv 8) ac')) aM')
      (ad' (ba' (k5' (aW' ix_seq bR' (af' (pv 2)) ac' (fun _ _ => rfl))) (ah' (dv' (bG' (ag' (b9' C) (hr.mono (by walk_at "4")) rfl (takes_of rfl rfl rfl rfl) (aa' (af' (pv 1)) (aa' (aW' ix_seq bR' (af' (pv 6)) ac' (fun _ _ => rfl)) ae')))) (pv 8) ac')) aM')
      (ad' (ba' (k5' (aW' ix_seq bR' (af' (pv 2)) ac' (fun _ _ => rfl))) (ah' (dv' (bG' (ag' (de' C) (hr.mono (by walk_at "4")) rfl (takes_of rfl rfl rfl rfl) (aa' (af' (pv 1)) (aa' (af' (pv 5)) ae')))) (pv 8) ac')) aM')
      (ad' (ba' (k5' (aW' ix_seq bR' (af' (pv 2)) ac' (fun _ _ => rfl))) (ah' (dv' (bG' (ag' (dc' C) (hr.mono (by walk_at "4")) rfl (takes_of rfl rfl rfl rfl) (aa' (af' (pv 1)) (aa' (af' (pv 6)) ae')))) (pv 8) ac')) aM')
      (ad' (am' (i := 9) a7'.nd rfl (by walk_at "1") (bh' (bd' (aa' (ap' [100, 101, 97, 108, 105, 110, 103] (by decide +kernel) (by decide +kernel)) (aa' (ap' [114, 111, 119] (by decide +kernel) (by decide +kernel)) (aa' (ap' [104, 97, 110, 100] (by decide +kernel) (by decide +kernel)) (aa' (ap' [114, 111, 119, 115] (by decide +kernel) (by decide +kernel)) ae')))))))
      (ad' (am' (i := 10) a7'.nd rfl (by walk_at "1") (mN' cR' po' (bd' (aa' b5' ae')) ac'))
      (ad' (dw' (passes_of rfl) rfl (bA' rfl (C.free_range) ac') (dy' 11 a7'.nd rfl (by walk_at "1") (by walk_at "2")) (ah' (ba' (k5' (aW' ix_seq bR' (af' (pv 2)) (af' (pv 11)) (fun _ _ => rfl))) (ah' (dv' (aW' ix_seq bR' (af' (pv 9)) (af' (pv 11)) (fun _ _ => rfl)) (pv 10) (af' (pv 11)))) aM')))
      (ad' (ba' (aL' (dB' hr.units) pm' (nomark _) (aW' ix_seq bR' (bG' (ag' (bg' C) (hr.mono (by walk_at "4")) rfl (takes_of rfl rfl rfl rfl) (aa' ac' (aa' (cX' (pv 8) ac' (fun _ _ => rfl)) (aa' (cX' (pv 8) ac' (fun _ _ => rfl)) (aa' (cX' (pv 8) ac' (fun _ _ => rfl)) ae')))))) ac' (fun _ _ => rfl)) (bG' (ag' (cq' C) (hr.mono (by walk_at "4")) rfl (takes_of rfl rfl rfl rfl) (aa' (bL' ek' es' (af' (pv 10)) bK' (bJ' ac')) ae')))) (ah' (aD' (bh' da'))) aM')
      (ad' (ba' (aL' (dB' hr.units) pm' (nomark _) (aW' ix_seq bR' (bG' (ag' (bg' C) (hr.mono (by walk_at "4")) rfl (takes_of rfl rfl rfl rfl) (aa' ac' (aa' (cX' (pv 8) ac' (fun _ _ => rfl)) (aa' (cX' (pv 8) ac' (fun _ _ => rfl)) (aa' b5' ae')))))) ac' (fun _ _ => rfl)) (bG' (ag' (cq' C) (hr.mono (by walk_at "4")) rfl (takes_of rfl rfl rfl rfl) (aa' (bd' (aa' (cX' (pv 10) ac' (fun _ _ => rfl)) (aa' (cX' (pv 10) ac' (fun _ _ => rfl)) ae'))) ae')))) (ah' (aD' (bh' da'))) aM')
      (ad' (ba' (aL' (dB' hr.units) pm' (nomark _) (aW' ix_seq bR' (bG' (ag' (bg' C) (hr.mono (by walk_at "4")) rfl (takes_of rfl rfl rfl rfl) (aa' ac' (aa' (cX' (pv 8) ac' (fun _ _ => rfl)) (aa' b5' (aa' b5' ae')))))) ac' (fun _ _ => rfl)) (bG' (ag' (cq' C) (hr.mono (by walk_at "4")) rfl (takes_of rfl rfl rfl rfl) (aa' (bL' ek' es' (af' (pv 10)) bK' (bJ' ac')) ae')))) (ah' (aD' (bh' da'))) aM')
      (ad' (ba' (aL' (dB' hr.units) pm' (nomark _) (bG' (ag' (bg' C) (hr.mono (by walk_at "4")) rfl (takes_of rfl rfl rfl rfl) (aa' ac' (aa' (af' (pv 4)) (aa' (aW' ix_seq bR' (af' (pv 6)) ac' (fun _ _ => rfl)) (aa' (af' (pv 7)) ae')))))) (cW' (aa' (bG' (ag' (eX' C) (hr.mono (by walk_at "4")) rfl (takes_of rfl rfl rfl rfl) (aa' (af' (pv 4)) (aa' (aW' ix_seq bR' (af' (pv 6)) ac' (fun _ _ => rfl)) (aa' (af' (pv 7)) ae'))))) (aa' (bd' ae') ae')))) (ah' (aD' (bh' da'))) aM')
      (ad' (am' (i := 12) a7'.nd rfl (by walk_at "1") (bh' (eQ' PySem.F.slot_str_join PySem.F.type_str_join mt_join f9' (ap' [] (by decide +kernel) (by decide +kernel)) (aa' (fS' (own := [("_law_place", 14)]) rfl a7'.nd (bA' rfl (C.free_range) (af' (pv 3))) (blkOk_by (own := [("_law_place", 14)]) (N := mi') (sc := defScope cv') (by decide +kernel)) rfl (fun _ _ _ _ _ => (dy' 14 a7'.nd rfl (by walk_at "1") (by walk_at "2"))) (fun _ _ _ _ _ => bm') (fun _ _ _ _ _ => (aW' ix_seq bR' (aW' ix_seq bR' (af' (pv 6)) (eQ' PySem.F.slot_str_find PySem.F.type_str_find mt_find oq' (af' (pv 5)) (aa' (aW' ix_seq bR' (af' (pv 4)) (af' (pv 14)) (fun _ _ => rfl)) ae')) (fun _ _ => rfl)) (af' (pv 14)) (fun _ _ => rfl)))) ae'))))
      (ad' (am' (i := 13) a7'.nd rfl (by walk_at "1") (bh' (bc' (cr_sum rfl) u0' rfl (C.free_sum) (by decide +kernel) (fS' (own := [("_law_pair", 15)]) rfl a7'.nd (cu' (bG' (ag' (c0' C) (hr.mono (by walk_at "4")) rfl (takes_of rfl rfl rfl rfl) (aa' (af' (pv 4)) ae')))) (blkOk_by (own := [("_law_pair", 15)]) (N := mi') (sc := defScope cv') (by decide +kernel)) rfl (fun _ _ _ _ _ => (dy' 15 a7'.nd rfl (by walk_at "1") (by walk_at "2"))) (fun _ _ _ _ _ => bm') (fun _ _ _ _ _ => (aW' ix_seq bR' (af' (pv 15)) ac' (fun _ _ => rfl)))))))
      (ah' (aD' (bh' (of' (fT' (bf' hr.units) eZ' (nomark _) (bG' (ag' (bg' C) (hr.mono (by walk_at "4")) rfl (takes_of rfl rfl rfl rfl) (aa' ac' (aa' (af' (pv 4)) (aa' (af' (pv 6)) (aa' b5' ae')))))) (cW' (aa' (af' (pv 12)) (aa' (bd' ae') ae')))) (oe' (fT' (bf' hr.units) eZ' (nomark _) (af' (pv 13)) (af' (pv 3))))))))))))))))))))))))))))))
end
end S
open PySem PySem.W PySem.Calls PyProof.Rows
set_option maxRecDepth 100000 in
set_option maxHeartbeats 0 in
theorem PySem.Challenge.cw_saidacross_k52_what_sights_refuse_holds : PySem.Challenge.rw_saidacross_k52_what_sights_refuse.Holds := by
  w_on; o_law
  refine HandSHeadRun.head_any (r := OpenLaw.row PySem.Challenge.rw_saidacross_k52_what_sights_refuse) (q := view (OpenLaw.row PySem.Challenge.rw_saidacross_k52_what_sights_refuse).prog [34]) (H := S.hk) (ob := S.ob) (loose := S.loose) (d := HandSHeadRun.topDef (OpenLaw.row PySem.Challenge.rw_saidacross_k52_what_sights_refuse).prog 34) (kwd := []) S.t1'
    (by kernel_rfl) (fun s => by kernel_rfl) S.run (by kernel_rfl) (by kernel_rfl) (by kernel_rfl) (by rfl) (by first | assumption | decide +kernel) (by decide +kernel) ⟨rfl, rfl, rfl, rfl, rfl, by decide +kernel⟩ ?hw ?hc
  case hw => w_witness2
  case hc =>
    refine S.mv' (l := PySem.Challenge.rw_saidacross_k52_what_sights_refuse) (n := 63) (k := 6) (x := "_law_script") (CX := L2.CX0) rfl (by decide) (by kernel_rfl) ⟨rfl, by decide, by decide⟩ ?F (fun H s e s' z => z)
    intro w mg fa h Y G hmg0
    obtain ⟨K, KX, c⟩ := Y
    letI : S.Wd := ⟨(PySem.Challenge.rw_saidacross_k52_what_sights_refuse).prog, w, []⟩
    have C : S.Ctx S.Wd.w K mg := ⟨⟨_, c⟩, h, KX, G⟩
    have hmg : mg ("law" : PySem.Str) = some (.ref fa) := by
      have e : (HandSHeadRun.topDef (OpenLaw.row PySem.Challenge.rw_saidacross_k52_what_sights_refuse).prog 34).name = ("law" : PySem.Str) := by kernel_rfl
      rw [<- e]
      exact hmg0
    obtain rfl : fa = He.ga K "law" := by
      have e := C.g_law
      rw [hmg] at e
      exact PySem.Value.ref.inj (Option.some.inj e)
    obtain ⟨fd, F⟩ := C.f_law
    refine ⟨K, fd, fun vs H Q _ => S.spM K M.f_law vs H Q L2.E0, KX, fun s u => ?_, ?_, fun base X N => ?_⟩
    . exact F.bindsA (ps := ["_law_script"]) (fun _ _ _ _ _ _ us hl => match us, hl with | [_], _ => rfl) s [u] rfl
    . intro H a ns hn _ hs
      exact S.lM' K H (fun p z => absurd (show p ∈ ([] : List (Addr × Str)) from z) List.not_mem_nil) a ns hn hs M.law_true
    . exact S.FnG.to0 (S.r7' (base := base) C F)
