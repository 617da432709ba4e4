import PyProof.Rows.All
import Wide.All
import OpenK.AllK
import Wide.FinOn
import KE.KStateDown
import KE.GoesNew
import HandS.ForMost
import HandS.Exc
import HandS.TryOnly
import HandS.TryMany
import HandS.ExcOwn
import HandS.ExcBuiltin
import HandS.Small
import HandS.WordsExc
import HandS.IsInst
import HandS.StrMore
import HandS.TupAny
import HandS.Zip
import HandS.Defaults
import HandS.Head0
import HandS.Head1
import HandS.Head2
import HandS.HeadEnd
import HandS.HeadHook1
import HandS.HeadHook2
import HandS.Walk
import KE.GoesMore
import HandS.Iter
import PyProof.CollectStr
import HandS.Conv
import PyProof.ListStr
import PyProof.TupleOfStr
import HandS.Lambda
import HandS.Style
import KE.KDictKeyed
import HandS.Wide
import KE.KTupTabMore
import HandS.Rev
import HandS.RevRange
import HandS.SortInts
import HandS.ExcIs
import HandS.ExcField
import HandS.Rindex
import HandS.HeadHook4
import PyProof.StrLawsFrom
import PyProof.Rows.RegReprOcc
import PyProof.Rows.StrLast
import KE.KDictDisplayH
import HandS.SetKeys
import HandS.DictComp
import HandS.More
import PyProof.ReprBulk
import PyProof.ReprRoads
import PyProof.CallFns
import PyProof.RowDictHeap
import PyProof.Rows.StrRev
import KE.KRevSl
import HandS.Deep
import HandS.Call
import KE.KExcSuper
import HandS.TupMul
import HandS.ReplaceLit
import HandS.ReplaceList
import KE.KDictZip
import PyProof.ListNew
import HandS.ListItems
import HandS.Zip0
import HandS.TupSets
import KE.SortKeyHeap
import KE.KLam
import HandS.SortKw
import HandS.EndTab
import KE.KItemsList
import HandS.NoneIn
import KE.DataMinKey
import KE.DataFind
import KE.DatumOrd
import HandS.Finally
import HandS.Strs
import HandS.Nested
import PyProof.Rows.Walk
import PySem.Challenge.RW_saidacross_k65_answers_of_writings
set_option Elab.async false
set_option linter.all false
set_option maxRecDepth 100000
set_option maxHeartbeats 4000000
local macro_rules | `(tactic| walk_at "1") => `(tactic| first | exact Or.inl rfl | exact Or.inr rfl)
local macro_rules | `(tactic| walk_at "2") => `(tactic| first | exact Or.inl rfl | exact Or.inr rfl | assumption)
local macro_rules | `(tactic| walk_at "3") => `(tactic| exact ⟨rfl, rfl, rfl, by decide +kernel, rfl, by decide +kernel, by decide +kernel⟩)
local macro_rules | `(tactic| walk_at "4") => `(tactic| first | decide | omega)
namespace M
abbrev Tx := List Nat
abbrev cM' : Nat := 16777216
inductive D where
  | non | bl (b : Bool) | int (i : Int) | str (s : Tx)
  | tup (ds : List D) | lst (ds : List D) | dct (ks vs : List D)
  | obj (n : Nat) | ty (x : String) | fn (x : String) | exc (x : String) (ds : List D)
  | scr (ds : List D)
  /-- a dict whose keys are bools, or tuples; the text that repr gives -/
  | dcx (ks vs : List D) | rep (d : D)
  deriving Inhabited
inductive O where
  | fz (d : D) | lst (os : List O) | dct (ks : List D) (vs : List O) | tup (os : List O) | dcx (ks : List D) (vs : List O) | exn | clo
  deriving Inhabited
inductive Ob where
  | lst (os : List O) | dct (ks : List D) (vs : List O) | ins (C : String) (fs : List (String × O)) | dcx (ks : List D) (vs : List O)
abbrev W := List Ob
structure PSt where
  env : List (Option O)
  w : W
structure Exc where
  cls : String
  fs : List (String × D)
inductive Res (α : Type) where
  | ok (a : α) (ρ : PSt) | exc (x : Exc) (ρ : PSt) | bad
inductive Out where
  | nx (ρ : PSt) | rt (o : O) (w : W) | bk (ρ : PSt) | ct (ρ : PSt) | exc (x : Exc) (ρ : PSt) | bad
inductive FRes where
  | ok (o : O) (w : W) | exc (x : Exc) (w : W) | bad
def xy' : O -> Bool
  | .exn => false
  | .clo => false
  | _ => true
theorem ff' {o : O} (h : o ≠ .exn) (k : o ≠ .clo) : xy' o = true := by
  cases o <;> first | rfl | exact absurd rfl h | exact absurd rfl k
mutual
def frz : O -> D
  | .fz d => d
  | .lst os => .lst (frzs os)
  | .dct ks vs => .dct ks (frzs vs)
  | .tup os => .tup (frzs os)
  | .dcx ks vs => .dcx ks (frzs vs)
  | .exn => .non
  | .clo => .non
def frzs : List O -> List D
  | [] => []
  | o :: r => frz o :: frzs r
end
@[simp] theorem id' (ds : List D) : frzs (ds.map .fz) = ds := by
  induction ds with
  | nil => rfl
  | cons d r ih => simp [frzs, frz, ih]
theorem nx' (os : List O) : frzs os = os.map frz := by
  induction os with
  | nil => rfl
  | cons d r ih => simp [frzs, ih]
mutual
/-- data that == compares, at most so deep -/
def dep : D -> Nat
  | .tup ds => deps ds + 1
  | .lst ds => deps ds + 1
  | _ => 0
def deps : List D -> Nat
  | [] => 0
  | d :: r => max (dep d) (deps r)
end
mutual
def dat : D -> Bool
  | .non => true | .bl _ => true | .int _ => true | .str _ => true
  | .tup ds => dats ds
  | .lst ds => dats ds
  | _ => false
def dats : List D -> Bool
  | [] => true
  | d :: r => dat d && dats r
end
mutual
def eqb : D -> D -> Bool
  | .non, .non => true
  | .bl a, .bl b => a == b
  | .bl a, .int j => (if a then 1 else 0) == j
  | .int i, .bl b => i == (if b then 1 else 0)
  | .int i, .int j => i == j
  | .str x, .str y => x == y
  | .lst xs, .lst ys => eqbs xs ys
  | .tup xs, .tup ys => eqbs xs ys
  | _, _ => false
def eqbs : List D -> List D -> Bool
  | [], [] => true
  | x :: xs, y :: ys => eqb x y && eqbs xs ys
  | _, _ => false
end
def eqv (d e : D) : Option Bool := if dat d = true /\ dat e = true /\ dep d <= 64 /\ dep e <= 64 then some (eqb d e) else none
def ni' : D -> Bool
  | .non => true
  | .bl _ => true
  | .int _ => true
  | .str _ => true
  | _ => false
def ob (o : Option Bool) : Option D := o.map .bl
def pEq (x y : D) : Option D := ob (eqv x y)
def pNe (x y : D) : Option D := ob ((eqv x y).map (!·))
def dO' : D -> Bool
  | .non => true
  | _ => false
def pIs : D -> D -> Option D
  | x, .non => some (.bl (dO' x))
  | .bl a, .bl b => some (.bl (a == b))
  | _, _ => none
def j3' (x y : D) : Option D := match pIs x y with | some (.bl b) => some (.bl (!b)) | _ => none
def pLt : D -> D -> Option D
  | .int i, .int j => some (.bl (decide (i < j)))
  | .str a, .str b => some (.bl (decide (a < b)))
  | _, _ => none
def pLe : D -> D -> Option D
  | .int i, .int j => some (.bl (decide (i <= j)))
  | .str a, .str b => some (.bl (!decide (b < a)))
  | _, _ => none
def pGt : D -> D -> Option D
  | .int i, .int j => some (.bl (decide (j < i)))
  | .str a, .str b => some (.bl (decide (b < a)))
  | _, _ => none
def pGe : D -> D -> Option D
  | .int i, .int j => some (.bl (decide (j <= i)))
  | .str a, .str b => some (.bl (!decide (a < b)))
  | _, _ => none
def cm' : D -> D -> Option D
  | .int i, .int j => some (.int (i + j))
  | .str a, .str b => if a.length + b.length <= cM' then some (.str (a ++ b)) else none
  | .lst a, .lst b => if a.length + b.length <= cM' then some (.lst (a ++ b)) else none
  | .tup a, .tup b => if a.length + b.length <= cM' then some (.tup (a ++ b)) else none
  | _, _ => none
def oP' : D -> D -> Option D
  | .int i, .int j => some (.int (i + j))
  | _, _ => none
def mN' : D -> D -> Option D
  | .int i, .int j => some (.int (i - j))
  | _, _ => none
def small64 (i : Int) : Bool := decide (-(2 ^ 64) < i) && decide (i < 2 ^ 64)
def fn' : D -> D -> Option D
  | .int i, .int j => if (small64 i = true \/ small64 j = true) \/ ((-2582249878086908589655919172003011874329705792829223512830659356540647622016841194629645353280137831435903171972747493376 < i /\ i < 2582249878086908589655919172003011874329705792829223512830659356540647622016841194629645353280137831435903171972747493376) /\ (-2582249878086908589655919172003011874329705792829223512830659356540647622016841194629645353280137831435903171972747493376 < j /\ j < 2582249878086908589655919172003011874329705792829223512830659356540647622016841194629645353280137831435903171972747493376)) then some (.int (i * j)) else none
  | .str a, .int j => if j < 2 ^ 62 /\ -(2 ^ 62) <= j /\ a.length * j.toNat <= cM' then some (.str (List.replicate j.toNat a).flatten) else none
  | .lst a, .int j => if j < 2 ^ 62 /\ -(2 ^ 62) <= j /\ a.length * j.toNat <= cM' then some (.lst (List.replicate j.toNat a).flatten) else none
  | _, _ => none
def gD' : D -> D -> Option D
  | .int i, .int j => if 0 < j /\ j < 1606938044258990275541962092341162602522202993782792835301376 then some (.int (i / j)) else none
  | _, _ => none
def j2' : D -> D -> Option D
  | .int i, .int j => if 0 < j then some (.int (i % j)) else none
  | _, _ => none
def tL' : D -> D -> Option D
  | .int i, .int j => if 0 <= j /\ j <= 1000 /\ small64 i = true then some (.int (i ^ j.toNat)) else none
  | _, _ => none
def vr' : D -> Option D
  | .int i => some (.int (-i))
  | _ => none
def chD (c : Nat) : D := .str [c]
def ixn (n : Nat) (i : Int) : Option Nat := if 0 <= i then (if i < n then some i.toNat else none) else (if -(n : Int) <= i then some (i + n).toNat else none)
def ati {α : Type} (xs : List α) (i : Int) : Option α := (ixn xs.length i).bind fun j => xs[j]?
def six (n : Nat) (d : Nat) : Option Int -> Nat
  | none => d
  | some i => if i < 0 then (i + (n : Int)).toNat else min i.toNat n
def cut {α : Type} (xs : List α) (lo hi : Option Int) : List α := (xs.drop (six xs.length 0 lo)).take (six xs.length xs.length hi - six xs.length 0 lo)
def cS' : D -> Option (List D)
  | .lst xs => some xs
  | .tup xs => some xs
  | .str s => some (s.map chD)
  | _ => none
def sca : D -> Bool
  | .non => true | .bl _ => true | .int _ => true | .str _ => true
  | _ => false
def pIn : D -> D -> Option D
  | .str [c], .str s => some (.bl (decide (c ∈ s)))
  | x, .lst ds => if sca x = true /\ ds.all sca = true then some (.bl (ds.any fun d => eqb d x)) else none
  | x, .tup ds => if sca x = true /\ ds.all sca = true then some (.bl (ds.any fun d => eqb d x)) else none
  | _, _ => none
mutual
def kat : D -> Bool
  | .non => true | .bl _ => true | .int _ => true | .str _ => true
  | .tup ds => kats ds
  | _ => false
def kats : List D -> Bool
  | [] => true
  | d :: r => kat d && kats r
end
def wt' (ks : List D) (k : D) : Bool := kat k && decide (dep k <= 8) && ks.all (fun d => sca d == sca k)
def sk' (ks : List D) (k : D) : Option Nat := ks.findIdx? fun d => eqb d k
def isK : D -> Bool
  | .int _ => true | .str _ => true
  | _ => false
def dget {α : Type} (ks : List D) (vs : List α) (k : D) : Option α := (sk' ks k).bind fun j => vs[j]?
def kG' : O -> D -> Option (Option O)
  | .dct ks os, k => if isK k = true then some (dget ks os k) else none
  | .dcx ks os, k => if wt' ks k = true then some (dget ks os k) else none
  | .fz (.dct ks vs), k => if isK k = true then some (dget ks (vs.map .fz) k) else none
  | .fz (.dcx ks vs), k => if wt' ks k = true then some (dget ks (vs.map .fz) k) else none
  | _, _ => none
def tI' {α : Type} (ks : List D) (os : List α) (k : D) (o : α) : Option (List D × List α) := match sk' ks k with
  | some j => some (ks, os.set j o)
  | none => if ks.length < cM' then some (ks ++ [k], os ++ [o]) else none
def wc' : O -> D -> O -> Option O
  | .dct ks os, k, o => if isK k = true then (tI' ks os k o).map fun p => .dct p.1 p.2 else none
  | .dcx ks os, k, o => if wt' ks k = true then (tI' ks os k o).map fun p => .dcx p.1 p.2 else none
  | _, _, _ => none
def gC' (x y : D) : Option D := match pIn x y with | some (.bl b) => some (.bl (!b)) | _ => none
def dw' : D -> Option D
  | .str s => some (.int s.length)
  | .lst ds => some (.int ds.length)
  | .tup ds => some (.int ds.length)
  | .dct ks _ => some (.int ks.length)
  | .dcx ks _ => some (.int ks.length)
  | _ => none
def pIx : D -> D -> Option D
  | .str s, .int i => (ati s i).map chD
  | .lst ds, .int i => ati ds i
  | .tup ds, .int i => ati ds i
  | _, _ => none
def pSl (d : D) (lo hi : Option Int) : Option D := match d with
  | .str s => some (.str (cut s lo hi))
  | .lst s => some (.lst (cut s lo hi))
  | .tup s => some (.tup (cut s lo hi))
  | .scr s => some (.lst (cut s lo hi))
  | _ => none
def vq' : D -> Option D
  | .str s => some (.str s.reverse)
  | .lst s => some (.lst s.reverse)
  | _ => none
def cK' : List D -> Option (List Tx)
  | [] => some []
  | .str s :: r => (cK' r).map (s :: ·)
  | _ :: _ => none
def b4' (sep : Tx) : List Tx -> Tx
  | [] => []
  | [x] => x
  | x :: y :: r => x ++ (sep ++ b4' sep (y :: r))
def em' (a : Tx) : List D -> Option D
  | [.lst ds] => (cK' ds).bind fun ys => if (ys.map List.length).sum + ys.length * a.length <= cM' then some (.str (b4' a ys)) else none
  | [.tup ds] => (cK' ds).bind fun ys => if (ys.map List.length).sum + ys.length * a.length <= cM' then some (.str (b4' a ys)) else none
  | _ => none
def bM' : List D -> Option (List Int)
  | [] => some []
  | .int b :: r => (bM' r).map (b :: ·)
  | _ :: _ => none
def xE' : D -> Option D
  | .lst ds => (bM' ds).map fun ns => .int ns.sum
  | _ => none
def bO' (l : List Nat) : List Nat := l.mergeSort fun a b => decide (a <= b)
def qT' (l : List Int) : List Int := l.mergeSort fun a b => decide (a <= b)
def ei' : List D -> Option (List Nat)
  | [] => some []
  | .str [c] :: r => (ei' r).map (c :: ·)
  | _ => none
def cb' : D -> Option D
  | .str s => if s.length < 64 then some (.lst ((bO' s).map chD)) else none
  | .lst ds => match bM' ds with
    | some ns => some (.lst ((qT' ns).map .int))
    | none => (ei' ds).bind fun cs => if cs.length < 64 then some (.lst ((bO' cs).map chD)) else none
  | _ => none
def qo' (a b : Tx) (i : Nat) : Bool := decide (i + b.length <= a.length) && decide ((a.drop i).take b.length = b)
def hB' (a b : Tx) : Option Nat := (List.range (a.length + 1)).find? (qo' a b)
def fnd (o : Option Nat) : Int := match o with | some i => (i : Int) | none => -1
def na' (a : Tx) : List D -> Option D
  | [.str b] => some (.int (fnd (hB' a b)))
  | _ => none
def e2' (a : Tx) : List D -> Option D
  | [.str b] => (hB' a b).map fun (i : Nat) => D.int (Int.ofNat i)
  | _ => none
def en' (a : Tx) : List D -> Option D
  | [.str [c]] => some (.int ((a.count c : Nat) : Int))
  | _ => none
def vk' (c : Nat) : Tx -> List Tx
  | [] => [[]]
  | x :: r => if x = c then [] :: vk' c r else (match vk' c r with
    | [] => [[x]]
    | y :: ys => (x :: y) :: ys)
def tY' (a : Tx) : List D -> Option D
  | [.str [c]] => if c < 128 /\ a.length + 2 <= cM' then some (.lst ((vk' c a).map .str)) else none
  | _ => none
def xK' (n : Nat) : Tx := (Nat.toDigits 10 n).map Char.toNat
def x8' : D -> Option D
  | .int i => if 0 <= i /\ i < 1000000000000000000000000000000000000000000000000000000000000 then some (.str (xK' i.toNat)) else none
  | _ => none
def up1 (c : Nat) : Nat := if 97 <= c /\ c <= 122 then c - 32 else c
def qj' : D -> Option D
  | .str s => if s.all (fun c => decide (c < 128)) = true /\ s.length <= 5592405 then some (.str (s.map up1)) else none
  | _ => none
def bools : List D -> Option (List Bool)
  | [] => some []
  | .bl b :: r => (bools r).map (b :: ·)
  | _ :: _ => none
def xG' : D -> Option D
  | .lst ds => (bools ds).map fun bs => .bl (bs.all id)
  | _ => none
def xF' : D -> Option D
  | .lst ds => (bools ds).map fun bs => .bl (bs.any id)
  | _ => none
def wh' : D -> Option D
  | .lst ds => some (.lst ds)
  | .tup ds => some (.lst ds)
  | .str s => some (.lst (s.map chD))
  | _ => none
def b0' : D -> Option D
  | .str s => some (.lst (s.map chD))
  | d => wh' d
def dv' : D -> Option D
  | .str s => some (.tup (s.map chD))
  | .lst ds => some (.tup ds)
  | .tup ds => some (.tup ds)
  | _ => none
def fU' : D -> Option D
  | .int i => some (.int i)
  | .bl b => some (.int (if b then 1 else 0))
  | _ => none
def vt' : D -> Option D
  | .int i => some (.int (if i < 0 then -i else i))
  | _ => none
def mP' : D -> D -> Option D
  | .int i, .int j => some (.int (if j > i then j else i))
  | _, _ => none
def oO' : D -> D -> Option D
  | .int i, .int j => some (.int (if j < i then j else i))
  | _, _ => none
def tyn : D -> Option String
  | .non => some "NoneType" | .bl _ => some "bool" | .int _ => some "int" | .str _ => some "str"
  | .tup _ => some "tuple" | .lst _ => some "list" | .dct _ _ => some "dict"
  | _ => none
def bt' (t : String) (d : D) : Option D := (tyn d).map fun n => .bl (n == t || (n == "bool" && t == "int"))
abbrev ME := PSt -> Res D
abbrev MO := PSt -> Res O
abbrev MA := PSt -> Res (List D)
abbrev MT := PSt -> Res Bool
abbrev MS := PSt -> Out
abbrev MF := List D -> W -> FRes
abbrev MG := D -> PSt -> Option PSt
abbrev MI := PSt -> Res (List D)
@[simp] def Res.bind {α β : Type} (r : Res α) (f : α -> PSt -> Res β) : Res β := match r with
  | .ok a ρ => f a ρ
  | .exc x ρ => .exc x ρ
  | .bad => .bad
@[simp] def Res.out {α : Type} (r : Res α) (f : α -> PSt -> Out) : Out := match r with
  | .ok a ρ => f a ρ
  | .exc x ρ => .exc x ρ
  | .bad => .bad
@[simp] def ofO {α : Type} (o : Option α) (ρ : PSt) : Res α := match o with
  | some a => .ok a ρ
  | none => .bad
@[simp] def eC (d : D) : ME := fun ρ => .ok d ρ
@[simp] def eV (i : Nat) : ME := fun ρ => match ρ.env[i]? with
  | some (some (.fz d)) => .ok d ρ
  | some (some .exn) => .bad
  | some (some .clo) => .bad
  | some (some o) => .ok (frz o) ⟨ρ.env.set i (some (.fz (frz o))), ρ.w⟩
  | _ => .bad
@[simp] def eOp (f : D -> D -> Option D) (a b : ME) : ME := fun ρ => (a ρ).bind fun x ρ1 => (b ρ1).bind fun y ρ2 => ofO (f x y) ρ2
@[simp] def eUn (f : D -> Option D) (a : ME) : ME := fun ρ => (a ρ).bind fun x ρ1 => ofO (f x) ρ1
@[simp] def asB (d : D) (ρ : PSt) : Res Bool := match d with
  | .bl b => .ok b ρ
  | _ => .bad
@[simp] def sm' (a b : ME) : ME := fun ρ => (a ρ).bind fun x ρ1 => (asB x ρ1).bind fun k ρ1 => if k = true then b ρ1 else .ok (.bl false) ρ1
@[simp] def up' (a : ME) : ME := fun ρ => (a ρ).bind fun x ρ1 => (asB x ρ1).bind fun k ρ1 => .ok (.bl (!k)) ρ1
@[simp] def ep' (f g : D -> D -> Option D) (a b c : ME) : ME := fun ρ => (a ρ).bind fun x ρ1 => (b ρ1).bind fun y ρ2 => (ofO (f x y) ρ2).bind fun r ρ2 => (asB r ρ2).bind fun k ρ2 =>
  if k = true then (c ρ2).bind fun z ρ3 => ofO (g y z) ρ3 else .ok (.bl false) ρ2
@[simp] def bc' : MA := fun ρ => .ok [] ρ
@[simp] def ad' (a : ME) (r : MA) : MA := fun ρ => (a ρ).bind fun x ρ1 => (r ρ1).bind fun xs ρ2 => .ok (x :: xs) ρ2
@[simp] def uo' (as : MA) : ME := fun ρ => (as ρ).bind fun xs ρ1 => if xs.length <= cM' then .ok (.tup xs) ρ1 else .bad
@[simp] def nz' (as : MA) : ME := fun ρ => (as ρ).bind fun xs ρ1 => if xs.length <= cM' then .ok (.lst xs) ρ1 else .bad
@[simp] def eMt (f : Tx -> List D -> Option D) (a : ME) (as : MA) : ME := fun ρ => (a ρ).bind fun x ρ1 => match x with
  | .str s => (as ρ1).bind fun ds ρ2 => ofO (f s ds) ρ2
  | _ => .bad
def m9' (ds : List D) : List D -> Option D
  | [.int v] => (bM' ds).bind fun ns => if v ∈ ns then some (.int ((ns.idxOf v : Nat) : Int)) else none
  | _ => none
abbrev MP := PSt -> Res (Option Int)
@[simp] def pNo : MP := fun ρ => .ok none ρ
@[simp] def pSo (a : ME) : MP := fun ρ => (a ρ).bind fun x ρ1 => match x with | .int i => .ok (some i) ρ1 | _ => .bad
@[simp] def eSl (a : ME) (lo hi : MP) : ME := fun ρ => (a ρ).bind fun x ρ1 => (lo ρ1).bind fun l ρ2 => (hi ρ2).bind fun h ρ3 => ofO (pSl x l h) ρ3
@[simp] def fin (r : FRes) (ρ : PSt) : Res O := match r with
  | .ok o w => .ok o ⟨ρ.env, w⟩
  | .exc x w => .exc x ⟨ρ.env, w⟩
  | .bad => .bad
@[simp] def aD' (f : MF) (as : MA) : MO := fun ρ => (as ρ).bind fun xs ρ1 => fin (f xs ρ1.w) ρ1
@[simp] def eO (a : MO) : ME := fun ρ => (a ρ).bind fun o ρ1 => .ok (frz o) ρ1
@[simp] def oE (a : ME) : MO := fun ρ => (a ρ).bind fun d ρ1 => .ok (.fz d) ρ1
@[simp] def oV (i : Nat) : MO := fun ρ => match ρ.env[i]? with
  | some (some (.fz d)) => .ok (.fz d) ρ
  | some (some .exn) => .bad
  | some (some .clo) => .bad
  | some (some o) => .ok o ⟨ρ.env.set i none, ρ.w⟩
  | _ => .bad
abbrev MOA := PSt -> Res (List O)
@[simp] def hX' (a : ME) : MO := fun ρ => (a ρ).bind fun d ρ1 => match d with | .lst ds => .ok (.lst (ds.map .fz)) ρ1 | _ => .bad
@[simp] def mW' : MO := fun ρ => .ok (.dct [] []) ρ
def RgB (a b : Int) : Bool := decide (-(2 ^ 62) <= a) && decide (a < 2 ^ 62) && decide (-(2 ^ 62) <= b) && decide (b < 2 ^ 62) && decide ((b - a).toNat <= 16777216)
def dA' (a b : Int) : List D := (List.range (b - a).toNat).map fun i => .int (a + (i : Nat))
@[simp] def c8' : D -> Option D
  | .int b => if RgB 0 b = true then some (.lst (dA' 0 b)) else none
  | _ => none
@[simp] def gZ' (i : Nat) (a : ME) : ME := fun ρ => match ρ.env[i]? with
  | some (some (.lst _)) => (a ρ).bind fun d ρ1 => match ρ1.env[i]?, d with
    | some (some (.lst os)), .int z => (match (if os.length <= cM' then ixn os.length z else none) with
      | some j => (match os[j]? with
        | some (.fz y) => .ok y ⟨ρ1.env.set i (some (.lst (os.eraseIdx j))), ρ1.w⟩
        | _ => .bad)
      | none => .bad)
    | _, _ => .bad
  | _ => .bad
@[simp] def ixO : O -> D -> Option D
  | .fz d, k => pIx d k
  | .lst os, .int i => match ati os i with | some (.fz d) => some d | _ => none
  | .tup os, .int i => match ati os i with | some (.fz d) => some d | _ => none
  | _, _ => none
@[simp] def uq' (i : Nat) (b : ME) : ME := fun ρ => match ρ.env[i]? with
  | some (some _) => (b ρ).bind fun k ρ1 => match ρ1.env[i]? with
    | some (some o) => ofO (ixO o k) ρ1
    | _ => .bad
  | _ => .bad
@[simp] def inO (x : D) : O -> Option D
  | .fz d => pIn x d
  | .lst os => if os.all (fun o => match o with | .fz _ => true | _ => false) = true then pIn x (.lst (os.map frz)) else none
  | _ => none
@[simp] def tT' : Option D -> Option D
  | some (.bl b) => some (.bl (!b))
  | _ => none
@[simp] def nX' : O -> Option D
  | .fz d => dw' d
  | .lst os => some (.int os.length)
  | .tup os => some (.int os.length)
  | .dct ks _ => some (.int ks.length)
  | .dcx ks _ => some (.int ks.length)
  | .exn => none
  | .clo => none
@[simp] def g0' (i : Nat) : ME := fun ρ => match ρ.env[i]? with
  | some (some o) => ofO (nX' o) ρ
  | _ => .bad
@[simp] def vA' : Option (Option O) -> Option D
  | some (some (.fz d)) => some d
  | _ => none
def tM' (x : Bool) (y d : D) : Option O := if x = true then (if kat y = true /\ dep y <= 8 /\ sca y = false then some (.dcx [y] [.fz d]) else none) else (if isK y = true then some (.dct [y] [.fz d]) else none)
@[simp] def ixW (w : W) : D -> D -> Option D
  | .obj n, k => match w[n]? with | some (.lst os) => ixO (.lst os) k | _ => none
  | d, k => pIx d k
@[simp] def fG' (a b : ME) : ME := fun ρ => (a ρ).bind fun x ρ1 => (b ρ1).bind fun y ρ2 => ofO (ixW ρ2.w x y) ρ2
@[simp] def tR' (as : MA) : MO := fun ρ => (as ρ).bind fun xs ρ1 => if xs.length <= cM' then .ok (.fz (.obj ρ1.w.length)) ⟨ρ1.env, ρ1.w ++ [.lst (xs.map .fz)]⟩ else .bad
@[simp] def tE (a : ME) : MT := fun ρ => (a ρ).bind asB
@[simp] def d7' (a : MT) : MT := fun ρ => (a ρ).bind fun k ρ1 => .ok (!k) ρ1
@[simp] def p9' (a b : MT) : MT := fun ρ => (a ρ).bind fun k ρ1 => if k = true then b ρ1 else .ok false ρ1
@[simp] def tOr (a b : MT) : MT := fun ρ => (a ρ).bind fun k ρ1 => if k = true then .ok true ρ1 else b ρ1
@[simp] def fB' (a : ME) : MI := fun ρ => (a ρ).bind fun d ρ1 => ofO (cS' d) ρ1
def rgI (lo : Int) (n : Nat) : List D := (List.range n).map fun i => .int (lo + (i : Nat))
def nZ' (i : Int) : Bool := decide (-(2 ^ 62) <= i) && decide (i < 2 ^ 62)
@[simp] def dq' : D -> Option (List D)
  | .int j => if nZ' j = true then some (rgI 0 j.toNat) else none
  | _ => none
@[simp] def mO' : D -> D -> Option (List D)
  | .int i, .int j => if nZ' i = true /\ nZ' j = true then some (rgI i (j - i).toNat) else none
  | _, _ => none
@[simp] def bj' (a : ME) : MI := fun ρ => (a ρ).bind fun x ρ1 => ofO (dq' x) ρ1
def cD' : List D -> List D -> List D
  | x :: xs, y :: ys => .tup [x, y] :: cD' xs ys
  | _, _ => []
def cL' (k : Nat) : List D -> List D
  | [] => []
  | x :: xs => .tup [.int k, x] :: cL' (k + 1) xs
@[simp] def wg' (x y : D) : Option (List D) := match cS' x, cS' y with
  | some a, some b => some (cD' a b)
  | _, _ => none
def nT' (x y : D) : Option (List D) := match x, y with
  | .str _, .str _ => wg' x y
  | .lst _, .lst _ => wg' x y
  | .tup _, .tup _ => wg' x y
  | _, _ => none
def enB : D -> Option (List D)
  | .str s => some (cL' 0 (s.map chD))
  | .lst ds => some (cL' 0 ds)
  | _ => none
def vo' : D -> Option (List D)
  | .lst ds => some ds.reverse
  | .tup ds => some ds.reverse
  | _ => none
def xw' (x y : D) : Option (List D) := match x, y with
  | .str s, .tup ds => some (cD' (s.map chD) ds)
  | _, _ => none
@[simp] def uf' (a b : ME) : MI := fun ρ => (a ρ).bind fun x ρ1 => (b ρ1).bind fun y ρ2 => ofO (nT' x y) ρ2
@[simp] def nv' (a : ME) : MI := fun ρ => (a ρ).bind fun x ρ1 => ofO (enB x) ρ1
def xn' : D -> Option (List D)
  | .dct ks _ => some ks
  | _ => none
def xm' : D -> Option (List D)
  | .dct _ vs => some vs
  | _ => none
def u5' : D -> Option (List D)
  | .dct ks vs => some (cD' ks vs)
  | _ => none
@[simp] def gN (i : Nat) : MG := fun d ρ => if i < ρ.env.length then some ⟨ρ.env.set i (some (.fz d)), ρ.w⟩ else none
@[simp] def gNs : List Nat -> List D -> PSt -> Option PSt
  | [], [], ρ => some ρ
  | i :: is, d :: ds, ρ => (gN i d ρ).bind (gNs is ds)
  | _, _, _ => none
@[simp] def gT (is : List Nat) : MG := fun d ρ => match d with
  | .tup ds => gNs is ds ρ
  | _ => none
@[simp] def noX {α : Type} : Res α -> Res α
  | .exc _ _ => .bad
  | r => r
def a4' : List Nat -> List (Option O) -> List (Option O)
  | [], env => env
  | i :: is, env => (a4' is env).set i none
def back (env : List (Option O)) : List Nat -> List (Option O) -> List (Option O)
  | [], env' => env'
  | i :: is, env' => (back env is env').set i (match env[i]? with | some (some (.fz d)) => some (.fz d) | _ => none)
def lcL (own : List Nat) (g : MG) (t : MT) (e : ME) : List D -> List D -> PSt -> Res (List D)
  | [], acc, ρ => .ok acc ρ
  | x :: xs, acc, ρ => match g x ⟨a4' own ρ.env, ρ.w⟩ with
    | none => .bad
    | some ρ1 => (noX (t ρ1)).bind fun k ρ2 => if k = true then (noX (e ρ2)).bind fun y ρ3 => if acc.length < cM' then lcL own g t e xs (acc ++ [y]) ρ3 else .bad else lcL own g t e xs acc ρ2
@[simp] def eLc (own : List Nat) (it : MI) (g : MG) (t : MT) (e : ME) : ME := fun ρ => (it ρ).bind fun xs ρ1 =>
  (lcL own g t e xs [] ρ1).bind fun ys ρ2 => .ok (.lst ys) ⟨back ρ1.env own (a4' own ρ2.env), ρ2.w⟩
@[simp] def oLc (own : List Nat) (it : MI) (g : MG) (t : MT) (e : ME) : MO := fun ρ => (it ρ).bind fun xs ρ1 =>
  (lcL own g t e xs [] ρ1).bind fun ys ρ2 => .ok (.lst (ys.map .fz)) ⟨back ρ1.env own (a4' own ρ2.env), ρ2.w⟩
def dcL (own : List Nat) (g : MG) (t : MT) (ek ev : ME) : List D -> List D -> List D -> PSt -> Res (List D × List D)
  | [], ks, vs, ρ => .ok (ks, vs) ρ
  | x :: xs, ks, vs, ρ => match g x ⟨a4' own ρ.env, ρ.w⟩ with
    | none => .bad
    | some ρ1 => (noX (t ρ1)).bind fun k ρ2 => if k = true then (noX (ek ρ2)).bind fun y ρ3 => (noX (ev ρ3)).bind fun z ρ4 => (if isK y = true /\ ks.length < cM' then (match tI' ks vs y z with
      | some p => dcL own g t ek ev xs p.1 p.2 ρ4
      | none => .bad) else .bad) else dcL own g t ek ev xs ks vs ρ2
@[simp] def tT : MT := fun ρ => .ok true ρ
@[simp] def a6' : MS := fun ρ => .nx ρ
@[simp] def fk' (a : ME) : MS := fun ρ => (a ρ).out fun _ ρ1 => .nx ρ1
@[simp] def bT' (a : MO) : MS := fun ρ => (a ρ).out fun o ρ1 => .rt o ρ1.w
@[simp] def aF' (a b : MS) : MS := fun ρ => match a ρ with
  | .nx ρ1 => b ρ1
  | r => r
@[simp] def sIf (t : MT) (a b : MS) : MS := fun ρ => (t ρ).out fun k ρ1 => if k = true then a ρ1 else b ρ1
@[simp] def ox' (i : Nat) (o : O) (ρ : PSt) : Out := if i < ρ.env.length then .nx ⟨ρ.env.set i (some o), ρ.w⟩ else .bad
@[simp] def br' (i : Nat) (a : MO) : MS := fun ρ => (a ρ).out fun o ρ1 => ox' i o ρ1
@[simp] def tr' (g : MG) (a : ME) : MS := fun ρ => (a ρ).out fun d ρ1 => match g d ρ1 with | some ρ2 => .nx ρ2 | none => .bad
@[simp] def sg' (f : D -> D -> Option D) (i : Nat) (a : ME) : MS := fun ρ => match ρ.env[i]? with
  | some (some (.fz d)) => (a ρ).out fun y ρ1 => match f d y with | some z => ox' i (.fz z) ρ1 | none => .bad
  | _ => .bad
@[simp] def gz' (x : String) : MS := fun ρ => .exc ⟨x, []⟩ ρ
@[simp] def jV' (i : Nat) (a : MO) : MS := fun ρ => match ρ.env[i]? with
  | some (some (.lst _)) => (a ρ).out fun o ρ1 => match ρ1.env[i]? with
    | some (some (.lst os)) => if os.length < cM' then .nx ⟨ρ1.env.set i (some (.lst (os ++ [o]))), ρ1.w⟩ else .bad
    | _ => .bad
  | _ => .bad
@[simp] def t3' (w : W) : D -> Option D
  | .obj n => (match w[n]? with
    | some (.lst os) => some (.int os.length)
    | _ => none)
  | _ => none
@[simp] def ih' (a : ME) : ME := fun ρ => (a ρ).bind fun x ρ1 => ofO (t3' ρ1.w x) ρ1
@[simp] def mx' (i : Nat) (k a : ME) : MS := fun ρ => (a ρ).out fun d ρ1 => match ρ1.env[i]? with
  | some (some _) => (k ρ1).out fun y ρ2 => match ρ2.env[i]?, y with
    | some (some (.lst os)), .int z => match ixn os.length z with
      | some j => .nx ⟨ρ2.env.set i (some (.lst (os.set j (.fz d)))), ρ2.w⟩
      | none => .bad
    | _, _ => .bad
  | _ => .bad
@[simp] def ol' (w : W) (x k d : D) : Option W := match x, k with
  | .obj n, .int z => match w[n]? with
    | some (.lst os) => (ixn os.length z).map fun j => w.set n (.lst (os.set j (.fz d)))
    | _ => none
  | _, _ => none
@[simp] def c7' (o k a : ME) : MS := fun ρ => (a ρ).out fun d ρ1 => (o ρ1).out fun x ρ2 => (k ρ2).out fun y ρ3 => match ol' ρ3.w x y d with
  | some w => .nx ⟨ρ3.env, w⟩
  | none => .bad
def fW' (g : MG) (b : MS) : List D -> MS
  | [], ρ => .nx ρ
  | d :: ds, ρ => match g d ρ with
    | none => .bad
    | some ρ1 => match b ρ1 with
      | .nx ρ2 => fW' g b ds ρ2
      | .ct ρ2 => fW' g b ds ρ2
      | .bk ρ2 => .nx ρ2
      | r => r
@[simp] def dX' (it : MI) (g : MG) (b : MS) : MS := fun ρ => (it ρ).out fun ds ρ1 => fW' g b ds ρ1
abbrev ET := List (String × String × Bool)
def sub : ET -> String -> String -> Option Bool
  | [], _, _ => none
  | (a, b, r) :: t, x, c => if a = x /\ b = c then some r else sub t x c
@[simp] def xI' : Out -> Out
  | .exc _ _ => .bad
  | r => r
@[simp] def vn' : MS := fun _ => .bad
@[simp] def hds (hs : List ((String -> Option Bool) × (Exc -> MS))) (x : Exc) (ρ : PSt) : Out := match hs with
  | [] => .exc x ρ
  | (g, h) :: r => (match g x.cls with
    | some true => xI' (h x ρ)
    | some false => hds r x ρ
    | none => .bad)
def nW' (f : String) (o : O) : List (String × O) -> List (String × O)
  | [] => [(f, o)]
  | (g, x) :: r => if g = f then (g, o) :: r else (g, x) :: nW' f o r
@[simp] def if' (cs : List String) (f : String) (w : W) : D -> Option D
  | .obj n => (match w[n]? with
    | some (.ins C fs) => if C ∈ cs then (match fs.lookup f with | some (.fz d) => some d | _ => none) else none
    | _ => none)
  | _ => none
@[simp] def pc' (cs : List String) (a : ME) (f : String) : ME := fun ρ => (a ρ).bind fun x ρ1 => ofO (if' cs f ρ1.w x) ρ1
@[simp] def stF (cs : List String) (f : String) (o : O) (w : W) : D -> Option W
  | .obj n => (match w[n]? with
    | some (.ins C fs) => if C ∈ cs /\ fs.length < 1000 then some (w.set n (.ins C (nW' f o fs))) else none
    | _ => none)
  | _ => none
@[simp] def sFld (cs : List String) (a : ME) (f : String) (v : MO) : MS := fun ρ => (v ρ).out fun o ρ1 => (a ρ1).out fun x ρ2 => match stF cs f o ρ2.w x with
  | some w => .nx ⟨ρ2.env, w⟩
  | none => .bad
@[simp] def kD' (C : String) (init : MF) (as : MA) : MO := fun ρ => (as ρ).bind fun ds ρ1 => match init (.obj ρ1.w.length :: ds) (ρ1.w ++ [.ins C []]) with
  | .ok (.fz .non) w => .ok (.fz (.obj ρ1.w.length)) ⟨ρ1.env, w⟩
  | .ok _ _ => .bad
  | .exc x w => .exc x ⟨ρ1.env, w⟩
  | .bad => .bad
def ia' (cs : List String) (m : String) (w : W) : D -> Bool
  | .obj n => (match w[n]? with
    | some (.ins C' fs) => decide (C' ∈ cs) && (fs.lookup m).isNone
    | _ => false)
  | _ => false
@[simp] def kC' (cs : List String) (m : String) (f : MF) (a : ME) (as : MA) : MO := fun ρ => (a ρ).bind fun x ρ1 => if ia' cs m ρ1.w x = true then (as ρ1).bind fun ds ρ2 => fin (f (x :: ds) ρ2.w) ρ2 else .bad
def nU' : O -> Option Ob
  | .lst os => some (.lst os)
  | .dct ks vs => some (.dct ks vs)
  | .dcx ks vs => some (.dcx ks vs)
  | _ => none
@[simp] def oS' (a : MO) : MO := fun ρ => (a ρ).bind fun o ρ1 => match nU' o with
  | some ob => .ok (.fz (.obj ρ1.w.length)) ⟨ρ1.env, ρ1.w ++ [ob]⟩
  | none => .bad
def nY' : O -> Bool
  | .fz _ => true
  | _ => false
@[simp] def fnM (k n : Nat) (b : MS) : MF := fun ds w => if ds.length = k then (match b ⟨ds.map (fun d => some (.fz d)) ++ List.replicate (n - k) none, w⟩ with
    | .nx ρ => .ok (.fz .non) ρ.w
    | .rt o w => .ok o w
    | .exc x ρ => .exc x ρ.w
    | _ => .bad) else .bad
def xQ' (x y : D) : Option (List D) := match x, y with
  | .str s, .lst ds => some (cD' (s.map chD) ds)
  | _, _ => none
end M
namespace M
def si' (c : Nat) : D -> Option D
  | .str s => if s.length <= 1000000 then some (.str (s.filter fun d => decide (d ≠ c))) else none
  | _ => none
def qM' (w : W) (x : D) : Option D := match x with
  | .obj n => (match w[n]? with
    | some (.lst os) => if os.all nY' = true then some (.tup (os.map frz)) else none
    | _ => none)
  | _ => none
@[simp] def kL' (a : ME) : ME := fun ρ => (a ρ).bind fun x ρ1 => ofO (qM' ρ1.w x) ρ1
end M
namespace M
def xP' : D -> D -> Option (List D)
  | .tup a, .tup b => some (cD' a b)
  | _, _ => none
def yd' : O -> D -> Option O
  | .lst os, .lst ds => if os.length + ds.length <= cM' then some (.lst (os ++ ds.map .fz)) else none
  | _, _ => none
mutual
def okO : O -> Bool
  | .fz d => dat d
  | .lst os => okOs os
  | .tup os => okOs os
  | _ => false
def okOs : List O -> Bool
  | [] => true
  | o :: r => okO o && okOs r
end
def okM : List Bool -> List (Option O) -> Bool
  | [], _ => true
  | _ :: _, [] => false
  | false :: m, _ :: r => okM m r
  | true :: m, some o :: r => okO o && okM m r
  | true :: _, none :: _ => false
def dP' : List Bool -> List (Option O) -> List (Option O)
  | _, [] => []
  | [], _ :: r => none :: dP' [] r
  | false :: m, _ :: r => none :: dP' m r
  | true :: m, x :: r => (x.map fun o => .fz (frz o)) :: dP' m r
def vm' : D -> Bool
  | .non => true | .bl _ => true | .int _ => true | .str _ => true
  | _ => false
@[simp] def qN' (m : List Bool) (t : MT) : MT := fun ρ => if okM m ρ.env = true then (match t ⟨dP' m ρ.env, []⟩ with
    | .ok k _ => .ok k ρ
    | _ => .bad) else .bad
def unO : O -> Option (List O)
  | .tup os => some os
  | .fz (.tup ds) => some (ds.map .fz)
  | _ => none
def sl' : List Nat -> List O -> PSt -> Option PSt
  | [], [], ρ => some ρ
  | i :: is, o :: os, ρ => if i < ρ.env.length then sl' is os ⟨ρ.env.set i (some o), ρ.w⟩ else none
  | _, _, _ => none
end M
namespace M
def t2' (a b : Tx) : Bool := !decide (b < a)
def tb' (l : List Tx) : List Tx := l.mergeSort t2'
def oN' : D -> Option D
  | .lst ds => (cK' ds).bind fun xs => if xs.length < 64 then some (.lst ((tb' xs).map .str)) else none
  | _ => none
end M
namespace M
end M
namespace M
end M
namespace M
def wd' (a b : Nat × Tx) : Bool := decide (a.1 < b.1) || (decide (a.1 = b.1) && t2' a.2 b.2)
def eg' : List D -> List O -> Option (List (Nat × Tx))
  | [], [] => some []
  | .int i :: ks, .fz (.str s) :: os => if 0 <= i then (eg' ks os).map ((i.toNat, s) :: ·) else none
  | _, _ => none
def qb' : O -> Option D
  | .dct ks os => (eg' ks os).map fun ps => .lst ((ps.mergeSort wd').map fun p => .tup [.int (p.1 : Nat), .str p.2])
  | _ => none
end M
namespace M
mutual
def vx' (kl kd : Bool) : D -> Bool
  | .tup ds => nodDs kl kd ds
  | .lst ds => !kl && nodDs kl kd ds
  | .scr ds => !kl && nodDs kl kd ds
  | .dct _ vs => !kd && nodDs kl kd vs
  | .dcx ks vs => nodDs kl kd ks && nodDs kl kd vs
  | _ => true
def nodDs (kl kd : Bool) : List D -> Bool
  | [] => true
  | d :: r => vx' kl kd d && nodDs kl kd r
end
mutual
def m0' (kl kd : Bool) : O -> Bool
  | .fz d => vx' kl kd d
  | .lst os => nodOs kl kd os
  | .tup os => nodOs kl kd os
  | .dct _ os => nodOs kl kd os
  | .dcx ks os => nodDs kl kd ks && nodOs kl kd os
  | .exn => true
  | .clo => true
def nodOs (kl kd : Bool) : List O -> Bool
  | [] => true
  | o :: r => m0' kl kd o && nodOs kl kd r
end
def eJ' (kl kd : Bool) : Ob -> Bool
  | .lst os => nodOs kl kd os
  | .dct _ os => nodOs kl kd os
  | .dcx ks os => nodDs kl kd ks && nodOs kl kd os
  | .ins _ fs => nodOs kl kd (fs.map (·.2))
def gN' (kl kd : Bool) (w : W) : Bool := w.all (eJ' kl kd)
def lendO (kl kd : Bool) : O -> Bool
  | .fz _ => true
  | .lst os => kl && os.all nY'
  | .dct _ os => kd && os.all nY'
  | _ => false
def okL (kl kd : Bool) : List Bool -> List (Option O) -> Bool
  | [], _ => true
  | _ :: _, [] => false
  | false :: m, _ :: r => okL kl kd m r
  | true :: m, some o :: r => lendO kl kd o && okL kl kd m r
  | true :: _, none :: _ => false
def vu' : O -> Nat
  | .fz _ => 0
  | _ => 1
def nE' : List Bool -> List (Option O) -> Nat
  | true :: m, some o :: r => vu' o + nE' m r
  | false :: m, _ :: r => nE' m r
  | _, _ => 0
@[simp] def hY' (kd : Bool) (m : List Bool) (a : MO) : MO := fun ρ => if okL (!kd) kd m ρ.env = true /\ (kd = true -> nE' m ρ.env = 1) then (match a ⟨dP' m ρ.env, ρ.w⟩ with
    | .ok o ρ' => if m0' (!kd) kd o = true /\ gN' (!kd) kd ρ'.w = true then .ok o ⟨ρ.env, ρ'.w⟩ else .bad
    | _ => .bad) else .bad
def ya' : D -> D -> Option D
  | .int i, .int j => if 0 <= j /\ j <= 1000 /\ small64 i = true then some (.int (i * 2 ^ j.toNat)) else none
  | _, _ => none
def x9' : D -> D -> Option D
  | .int i, .int j => if 0 <= j then some (.int (i / 2 ^ j.toNat)) else none
  | _, _ => none
@[simp] def gL (is : List Nat) : MG := fun d ρ => match d with
  | .lst ds => gNs is ds ρ
  | _ => none
def gSq : List MG -> List D -> PSt -> Option PSt
  | [], [], ρ => some ρ
  | g :: gs, d :: ds, ρ => (g d ρ).bind (gSq gs ds)
  | _, _, _ => none
def gTg (gs : List MG) : MG := fun d ρ => match d with
  | .tup ds => gSq gs ds ρ
  | _ => none
end M
namespace M
end M
namespace M
end M
namespace M
end M
namespace M
end M
namespace M
end M
namespace M
end M
namespace M
def un' : List Bool -> List D -> Option (List (Option O))
  | [], [] => some []
  | true :: m, ds => (un' m ds).map (some .clo :: ·)
  | false :: m, d :: ds => (un' m ds).map (some (.fz d) :: ·)
  | _, _ => none
inductive AK where
  | e (a : ME) | c (f : MF) (js : List Nat)
end M
namespace M
def allFz : List O -> Option (List D)
  | [] => some []
  | .fz d :: r => (allFz r).map (d :: ·)
  | _ => none
end M
namespace M
end M
namespace M
def hz' (own : List Nat) (g : MG) (t : MT) (e : MO) : List D -> List O -> PSt -> Res (List O)
  | [], acc, ρ => .ok acc ρ
  | x :: xs, acc, ρ => match g x ⟨a4' own ρ.env, ρ.w⟩ with
    | none => .bad
    | some ρ1 => (noX (t ρ1)).bind fun k ρ2 => if k = true then (noX (e ρ2)).bind fun y ρ3 => if acc.length < cM' then hz' own g t e xs (acc ++ [y]) ρ3 else .bad else hz' own g t e xs acc ρ2
@[simp] def tS' (own : List Nat) (it : MI) (g : MG) (t : MT) (e : MO) : MO := fun ρ => (it ρ).bind fun xs ρ1 =>
  (hz' own g t e xs [] ρ1).bind fun ys ρ2 => .ok (.lst ys) ⟨back ρ1.env own (a4' own ρ2.env), ρ2.w⟩
def fF' (d : D) : List O -> Option (List O)
  | [] => some []
  | .lst os :: r => if os.length < cM' then (fF' d r).map fun q => .lst (os ++ [.fz d]) :: q else none
  | _ :: _ => none
@[simp] def my' (i r : Nat) (d : D) : MS := fun ρ => match ρ.env[i]? with
  | some (some (.lst os)) => (match (if r < ρ.env.length then fF' d os else none) with
    | some os' => .nx ⟨(ρ.env.set i (some (.lst os'))).set r none, ρ.w⟩
    | none => .bad)
  | _ => .bad
end M
namespace S
open PySem PySem.Spec PyProof.Rows L2
def xs' : Arguments -> Option (Str × Str)
  | ⟨[], [a, b], none, [], [], none, []⟩ => some (a.arg, b.arg)
  | _ => none
def xp' : FuncBody -> Option (Str × Str × Str × Str × Str)
  | .stmts [.Expr (.Call (.Attribute (.Call (.Name s _) [] [] _) m p) [.Constant (.str _) _ _] [] q) _, .Assign [.Attribute (.Name a _) f _] (.Name b _) _] => if (p.endLine == q.line) = true then some (s, m, a, f, b) else none
  | _ => none
def bmB (K : PySem.W.Frag) : Bool := match K.lookup (He.ga K "__builtins__") with
  | some ⟨.type m, some d, .plain, _⟩ => decide (m = "module") && (decide (d = builtinsNs) && (decide (He.ga K "__builtins__" ≠ builtinsNs) && decide (He.ga K "__builtins__" ≠ mainGlobals)))
  | _ => false
end S
namespace M
def f_is_integer : MF := fnM 1 1 ((bT' (oE (sm' (eUn (bt' "int") (eV 0)) (up' (eUn (bt' "bool") (eV 0)))))))
def f_is_string_of : MF := fnM 2 3 ((aF' (sIf (d7' (tE (eUn (bt' "str") (eV 0)))) (bT' (oE (eC (.bl false)))) a6')
  (aF' (dX' (fB' (eV 0)) (gN 2) (sIf (tE (eOp gC' (eV 2) (eV 1))) (bT' (oE (eC (.bl false)))) a6'))
  (bT' (oE (eC (.bl true)))))))
def f_is_ascending : MF := fnM 1 3 ((aF' (dX' (uf' (eV 0) (eSl (eV 0) (pSo (eC (.int 1))) pNo)) (gT [1, 2]) (sIf (tE (eOp pGe (eV 1) (eV 2))) (bT' (oE (eC (.bl false)))) a6'))
  (bT' (oE (eC (.bl true))))))
def f_is_choice : MF := fnM 2 2 ((bT' (oE (sm' (eO (aD' f_is_string_of (ad' (eV 0) (ad' (eV 1) bc')))) (eO (aD' f_is_ascending (ad' (eV 0) bc')))))))
def f_check_dealing : MF := fnM 1 1 ((sIf (tOr (d7' (tE (eO (aD' f_is_string_of (ad' (eV 0) (ad' (eC (.str [65, 66, 67, 68])) bc')))))) (tE (eOp pEq (eV 0) (eC (.str []))))) (gz' "NoDealing") a6'))
def f_hands_of : MF := fnM 1 3 ((aF' (br' 1 (oE (eC (.int 2))))
  (aF' (dX' (fB' (eV 0)) (gN 2) (br' 1 (oE (eOp mP' (eV 1) (eOp cm' (eMt e2' (eC (.str [65, 66, 67, 68])) (ad' (eV 2) bc')) (eC (.int 1)))))))
  (bT' (oE (eSl (eC (.str [65, 66, 67, 68])) pNo (pSo (eV 1))))))))
def f_are_states : MF := fnM 2 3 ((aF' (sIf (d7' (tE (eUn (bt' "tuple") (eV 0)))) (bT' (oE (eC (.bl false)))) a6')
  (aF' (dX' (fB' (eV 0)) (gN 2) (sIf (tOr (d7' (tE (eO (aD' f_is_integer (ad' (eV 2) bc'))))) (tOr (tE (eOp pLt (eV 2) (eC (.int 0)))) (tE (eOp pGe (eV 2) (eV 1))))) (bT' (oE (eC (.bl false)))) a6'))
  (bT' (oE (eC (.bl true)))))))
def f_is_table : MF := fnM 2 3 ((aF' (sIf (tOr (d7' (tE (eUn (bt' "tuple") (eV 0)))) (d7' (tE (ep' pLe pLe (eC (.int 1)) (eUn dw' (eV 0)) (eC (.int 6)))))) (bT' (oE (eC (.bl false)))) a6')
  (aF' (dX' (fB' (eV 0)) (gN 2) (sIf (tOr (d7' (tE (eO (aD' f_are_states (ad' (eV 2) (ad' (eUn dw' (eV 0)) bc')))))) (tE (eOp pNe (eUn dw' (eV 2)) (eUn dw' (eV 1))))) (bT' (oE (eC (.bl false)))) a6'))
  (bT' (oE (eC (.bl true)))))))
def f_Machine_keep : MF := fnM 4 4 ((aF' (sFld ["Machine"] (eV 0) "kept_letters" (oE (eV 1)))
  (aF' (sFld ["Machine"] (eV 0) "kept_table" (oE (eV 2)))
  (aF' (sFld ["Machine"] (eV 0) "kept_accepts" (oE (eV 3)))
  (aF' (sFld ["Machine"] (eV 0) "kept_least" (oE (eC .non)))
  (aF' (sFld ["Machine"] (eV 0) "kept_field" (oE (eC .non)))
  (aF' (sFld ["Machine"] (eV 0) "kept_lots" mW')
  (sFld ["Machine"] (eV 0) "kept_more" mW'))))))))
def f_Machine___init__ : MF := fnM 4 4 ((aF' (sIf (tOr (d7' (tE (eO (aD' f_is_choice (ad' (eV 1) (ad' (eC (.str [97, 98, 99, 100, 101, 102, 103, 104, 105, 106, 107, 108, 109, 110, 111, 112, 113, 114, 115, 116, 117, 118, 119, 120, 121, 122])) bc')))))) (d7' (tE (ep' pLe pLe (eC (.int 1)) (eUn dw' (eV 1)) (eC (.int 4)))))) vn' a6')
  (aF' (sIf (d7' (tE (eO (aD' f_is_table (ad' (eV 2) (ad' (eV 1) bc')))))) vn' a6')
  (aF' (sIf (tOr (d7' (tE (eO (aD' f_are_states (ad' (eV 3) (ad' (eUn dw' (eV 2)) bc')))))) (d7' (tE (eO (aD' f_is_ascending (ad' (eV 3) bc')))))) vn' a6')
  (fk' (eO (kC' ["Machine"] "keep" f_Machine_keep (eV 0) (ad' (eV 1) (ad' (eV 2) (ad' (eV 3) bc'))))))))))
def f_led : MF := fnM 3 4 ((aF' (dX' (fB' (eV 2)) (gN 3) (br' 1 (oE (eOp pIx (eOp pIx (pc' ["Machine"] (eV 0) "kept_table") (eV 1)) (eMt e2' (pc' ["Machine"] (eV 0) "kept_letters") (ad' (eV 3) bc'))))))
  (bT' (oV 1))))
def f_check_two : MF := fnM 1 1 ((aF' (fk' (eO (aD' f_check_dealing (ad' (eV 0) bc'))))
  (sIf (tE (eOp pNe (eO (aD' f_hands_of (ad' (eV 0) bc'))) (eC (.str [65, 66])))) (gz' "NoDealing") a6')))
def f_check_writings : MF := fnM 4 5 ((aF' (sIf (d7' (tE (eUn (bt' "list") (eV 3)))) (gz' "NoWritings") a6')
  (dX' (fB' (eV 3)) (gN 4) (sIf (tOr (d7' (tE (eO (aD' f_is_string_of (ad' (eV 4) (ad' (eOp cm' (pc' ["Machine"] (eV 0) "kept_letters") (eC (.str [46]))) bc')))))) (tE (eOp pNe (eUn dw' (eV 4)) (eMt en' (eV 1) (ad' (eV 2) bc'))))) (gz' "NoWritings") a6'))))
def f_row_of : MF := fnM 3 7 ((aF' (br' 3 (hX' (nz' bc')))
  (aF' (br' 4 (oE (eC (.int 0))))
  (aF' (dX' (nv' (eV 0)) (gT [5, 6]) (sIf (tE (eOp pEq (eV 6) (eC (.str [65])))) (aF' (jV' 3 (oE (eOp pIx (eV 1) (eV 4))))
  (sg' oP' 4 (eC (.int 1)))) (jV' 3 (oE (eOp pIx (eV 2) (eOp mN' (eV 5) (eV 4)))))))
  (bT' (oE (eMt em' (eC (.str [])) (ad' (eV 3) bc'))))))))
def f_answer_of : MF := fnM 2 2 ((bT' (oE (eOp pIn (eO (aD' f_led (ad' (eV 0) (ad' (eC (.int 0)) (ad' (eUn (si' 46) (eV 1)) bc'))))) (pc' ["Machine"] (eV 0) "kept_accepts")))))
def f_answers : MF := fnM 4 6 ((aF' (fk' (eO (aD' f_check_two (ad' (eV 1) bc'))))
  (aF' (fk' (eO (aD' f_check_writings (ad' (eV 0) (ad' (eV 1) (ad' (eC (.str [65])) (ad' (eV 2) bc')))))))
  (aF' (fk' (eO (aD' f_check_writings (ad' (eV 0) (ad' (eV 1) (ad' (eC (.str [66])) (ad' (eV 3) bc')))))))
  (bT' (tS' [4] (fB' (eV 2)) (gN 4) tT (oLc [5] (fB' (eV 3)) (gN 5) tT (eUn fU' (eO (aD' f_answer_of (ad' (eV 0) (ad' (eO (aD' f_row_of (ad' (eV 1) (ad' (eV 4) (ad' (eV 5) bc'))))) bc'))))))))))))
def f__law_hand : MF := fnM 1 3 ((aF' (br' 1 (oE (eO (oS' (oLc [2] (fB' (eSl (eV 0) pNo (pSo (eC (.int 63))))) (gN 2) tT (eUn vt' (eUn fU' (eV 2))))))))
  (bT' (tR' (ad' (eV 1) (ad' (eC (.int 0)) (ad' (eC (.int 0)) (ad' (eOp cm' (eC (.int 1)) (ih' (eV 1))) (ad' (eC (.int 0)) bc')))))))))
def f__law_draw : MF := fnM 2 5 ((aF' (sIf (p9' (tE (eOp pEq (fG' (eV 0) (eC (.int 2))) (eC (.int 0)))) (tE (eOp pLt (fG' (eV 0) (eC (.int 1))) (ih' (fG' (eV 0) (eC (.int 0))))))) (aF' (br' 2 (oE (fG' (fG' (eV 0) (eC (.int 0))) (fG' (eV 0) (eC (.int 1))))))
  (aF' (c7' (eV 0) (eC (.int 1)) (eOp cm' (fG' (eV 0) (eC (.int 1))) (eC (.int 1))))
  (aF' (c7' (eV 0) (eC (.int 3)) (eOp j2' (eUn fU' (eOp cm' (eOp cm' (eOp fn' (fG' (eV 0) (eC (.int 3))) (eC (.int 69621))) (eV 2)) (eC (.int 11)))) (eC (.int 2147483629))))
  (sIf (tE (eOp pGe (eV 2) (eOp tL' (eC (.int 10)) (eC (.int 18))))) (c7' (eV 0) (eC (.int 2)) (eV 2)) a6')))) a6')
  (aF' (sIf (tE (eOp pGt (fG' (eV 0) (eC (.int 2))) (eC (.int 0)))) (aF' (br' 3 (oE (eOp j2' (eUn fU' (fG' (eV 0) (eC (.int 2)))) (eV 1))))
  (aF' (c7' (eV 0) (eC (.int 2)) (eOp gD' (fG' (eV 0) (eC (.int 2))) (eV 1)))
  (bT' (oV 3)))) a6')
  (aF' (c7' (eV 0) (eC (.int 4)) (eOp cm' (fG' (eV 0) (eC (.int 4))) (eC (.int 1))))
  (aF' (br' 4 (oE (eOp j2' (eUn fU' (eOp fn' (eUn fU' (eOp cm' (fG' (eV 0) (eC (.int 3))) (eOp fn' (eC (.int 7919)) (fG' (eV 0) (eC (.int 4)))))) (eC (.int 48271)))) (eC (.int 2147483647)))))
  (aF' (br' 4 (oE (eOp j2' (eUn fU' (eOp fn' (eV 4) (eOp cm' (eOp gD' (eV 4) (eC (.int 1009))) (eC (.int 69621))))) (eC (.int 2147483647)))))
  (aF' (br' 4 (oE (eOp j2' (eUn fU' (eOp fn' (eV 4) (eOp cm' (eOp gD' (eV 4) (eC (.int 2003))) (eC (.int 40692))))) (eC (.int 2147483399)))))
  (bT' (oE (eOp j2' (eUn fU' (eOp gD' (eV 4) (eC (.int 16)))) (eV 1)))))))))))
def f__law_shuffled : MF := fnM 2 5 ((aF' (br' 2 (hX' (eUn b0' (eV 1))))
  (aF' (br' 3 (hX' (nz' bc')))
  (aF' (dX' (bj' (eUn dw' (eV 1))) (gN 4) (jV' 3 (oE (gZ' 2 (eO (aD' f__law_draw (ad' (eV 0) (ad' (g0' 2) bc'))))))))
  (bT' (oV 3))))))
def f__law_rows : MF := fnM 4 11 ((aF' (br' 4 (oLc [9] (bj' (eV 2)) (gN 9) tT (eO (oS' (oLc [5] (bj' (eV 3)) (gN 5) tT (eO (aD' f__law_draw (ad' (eV 0) (ad' (eV 2) bc')))))))))
  (aF' (dX' (bj' (eV 3)) (gN 5) (aF' (br' 6 (oE (eV 1)))
  (aF' (sIf (tE (eOp pEq (eV 1) (eC (.int 7)))) (br' 6 (aD' f__law_draw (ad' (eV 0) (ad' (eC (.int 7)) bc')))) a6')
  (aF' (br' 7 (aD' f__law_draw (ad' (eV 0) (ad' (eV 2) bc'))))
  (aF' (br' 8 (aD' f__law_shuffled (ad' (eV 0) (ad' (eO (hX' (eUn c8' (eV 2)))) bc'))))
  (dX' (bj' (eV 2)) (gN 9) (aF' (sIf (tE (eOp pEq (eV 6) (eC (.int 3)))) (c7' (eOp pIx (eV 4) (eV 9)) (eV 5) (eOp j2' (eUn fU' (eOp cm' (eV 9) (eV 7))) (eV 2))) a6')
  (aF' (sIf (tE (eOp pEq (eV 6) (eC (.int 4)))) (c7' (eOp pIx (eV 4) (eV 9)) (eV 5) (eOp oO' (eOp mN' (eV 2) (eC (.int 1))) (eOp cm' (eV 9) (eV 7)))) a6')
  (aF' (sIf (tE (eOp pEq (eV 6) (eC (.int 5)))) (c7' (eOp pIx (eV 4) (eV 9)) (eV 5) (eOp pIx (eV 8) (eV 9))) a6')
  (sIf (tE (eOp pEq (eV 6) (eC (.int 6)))) (aF' (c7' (eOp pIx (eV 4) (eV 9)) (eV 5) (eOp mN' (eV 2) (eC (.int 1))))
  (sIf (p9' (tE (eOp pLt (eV 9) (eOp mN' (eV 2) (eC (.int 1))))) (tE (eOp pEq (eOp j2' (eUn fU' (eV 9)) (eV 3)) (eV 5)))) (c7' (eOp pIx (eV 4) (eV 9)) (eV 5) (eOp j2' (eUn fU' (eOp cm' (eV 9) (eC (.int 1)))) (eOp mN' (eV 2) (eC (.int 1))))) a6')) a6'))))))))))
  (bT' (oE (eUn dv' (eLc [10] (fB' (eV 4)) (gN 10) tT (kL' (eV 10)))))))))
def f__law_parts : MF := fnM 4 12 ((aF' (br' 4 (aD' f__law_draw (ad' (eV 0) (ad' (eC (.int 8)) bc'))))
  (aF' (br' 5 (oE (eOp cm' (eV 1) (eO (aD' f__law_draw (ad' (eV 0) (ad' (eOp cm' (eOp mN' (eV 2) (eV 1)) (eC (.int 1))) bc')))))))
  (aF' (br' 6 (oE (eOp cm' (eC (.int 1)) (eO (aD' f__law_draw (ad' (eV 0) (ad' (eV 3) bc')))))))
  (aF' (sIf (tE (eOp pGt (eV 4) (eC (.int 2)))) (br' 6 (oE (eOp mP' (eC (.int 2)) (eV 6)))) a6')
  (aF' (br' 7 (aD' f__law_shuffled (ad' (eV 0) (ad' (eUn b0' (eC (.str [97, 98, 99, 100, 101, 102, 103, 104, 105, 106, 107, 108, 109, 110, 111, 112, 113, 114, 115, 116, 117, 118, 119, 120, 121, 122]))) bc'))))
  (aF' (br' 8 (oE (eMt em' (eC (.str [])) (ad' (eUn cb' (eSl (eV 7) pNo (pSo (eV 5)))) bc'))))
  (aF' (br' 9 (aD' f__law_rows (ad' (eV 0) (ad' (eV 4) (ad' (eV 6) (ad' (eV 5) bc'))))))
  (aF' (br' 10 (oE (eUn dv' (eLc [11] (bj' (eV 6)) (gN 11) (tE (eOp pEq (eO (aD' f__law_draw (ad' (eV 0) (ad' (eC (.int 2)) bc')))) (eC (.int 1)))) (eV 11)))))
  (bT' (oE (uo' (ad' (eV 8) (ad' (eV 9) (ad' (eV 10) bc')))))))))))))))
def f__law_led : MF := fnM 4 5 ((aF' (dX' (fB' (eV 3)) (gN 4) (br' 2 (oE (eOp pIx (eOp pIx (eV 1) (eV 2)) (eMt na' (eV 0) (ad' (eV 4) bc'))))))
  (bT' (oV 2))))
def f__law_dealing : MF := fnM 2 4 ((aF' (br' 2 (aD' f__law_draw (ad' (eV 0) (ad' (eC (.int 5)) bc'))))
  (aF' (sIf (tE (eOp pEq (eV 2) (eC (.int 0)))) (bT' (oE (eOp fn' (eC (.str [65])) (eV 1)))) a6')
  (aF' (sIf (tE (eOp pEq (eV 2) (eC (.int 1)))) (bT' (oE (eOp fn' (eC (.str [66])) (eV 1)))) a6')
  (aF' (sIf (tE (eOp pEq (eV 2) (eC (.int 2)))) (bT' (oE (eMt em' (eC (.str [])) (ad' (eLc [3] (bj' (eV 1)) (gN 3) tT (eOp pIx (eC (.str [65, 66])) (eOp j2' (eV 3) (eC (.int 2))))) bc')))) a6')
  (bT' (oE (eMt em' (eC (.str [])) (ad' (eLc [3] (bj' (eV 1)) (gN 3) tT (eOp pIx (eC (.str [65, 66])) (eO (aD' f__law_draw (ad' (eV 0) (ad' (eC (.int 2)) bc')))))) bc')))))))))
def f__law_writings : MF := fnM 4 9 ((aF' (br' 4 (hX' (nz' bc')))
  (aF' (dX' (bj' (eO (aD' f__law_draw (ad' (eV 0) (ad' (eOp cm' (eV 3) (eC (.int 1))) bc'))))) (gN 5) (aF' (br' 6 (aD' f__law_draw (ad' (eV 0) (ad' (eC (.int 3)) bc'))))
  (aF' (br' 7 (oE (eOp cm' (eV 1) (eOp fn' (eC (.str [46])) (eOp cm' (eC (.int 1)) (eOp fn' (eC (.int 3)) (eV 6)))))))
  (jV' 4 (oE (eMt em' (eC (.str [])) (ad' (eLc [8] (bj' (eV 2)) (gN 8) tT (eOp pIx (eV 7) (eO (aD' f__law_draw (ad' (eV 0) (ad' (eUn dw' (eV 7)) bc')))))) bc')))))))
  (aF' (sIf (p9' (tE (eOp pGt (g0' 4) (eC (.int 1)))) (tE (eOp pEq (eO (aD' f__law_draw (ad' (eV 0) (ad' (eC (.int 3)) bc')))) (eC (.int 0))))) (mx' 4 (eUn vr' (eC (.int 1))) (uq' 4 (eC (.int 0)))) a6')
  (bT' (oV 4))))))
def f__law_joined : MF := fnM 3 7 ((aF' (br' 3 (oE (eC (.str []))))
  (aF' (br' 4 (oE (eC (.int 0))))
  (aF' (dX' (bj' (eUn dw' (eV 0))) (gN 5) (aF' (br' 6 (oE (eSl (eV 2) (pSo (eOp mN' (eV 5) (eV 4))) (pSo (eOp cm' (eOp mN' (eV 5) (eV 4)) (eC (.int 1)))))))
  (aF' (sIf (tE (eOp pEq (eOp pIx (eV 0) (eV 5)) (eC (.str [65])))) (aF' (br' 6 (oE (eOp pIx (eV 1) (eV 4))))
  (br' 4 (oE (eOp cm' (eV 4) (eC (.int 1)))))) a6')
  (sIf (tE (eOp pNe (eV 6) (eC (.str [46])))) (br' 3 (oE (eOp cm' (eV 3) (eV 6)))) a6'))))
  (bT' (oV 3))))))
def f__law_due : MF := fnM 6 11 ((aF' (br' 6 (hX' (nz' bc')))
  (aF' (dX' (fB' (eV 4)) (gN 7) (aF' (br' 8 (hX' (nz' bc')))
  (aF' (dX' (fB' (eV 5)) (gN 9) (aF' (br' 10 (aD' f__law_led (ad' (eV 0) (ad' (eV 1) (ad' (eC (.int 0)) (ad' (eO (aD' f__law_joined (ad' (eV 3) (ad' (eV 7) (ad' (eV 9) bc'))))) bc'))))))
  (jV' 8 (oE (eUn fU' (eOp pIn (eV 10) (eV 2)))))))
  (jV' 6 (oE (eV 8))))))
  (bT' (oV 6)))))
def f__law_is_due : MF := fnM 2 4 ((aF' (sIf (tOr (d7' (tE (eUn (bt' "list") (eV 0)))) (tE (eOp pNe (eUn dw' (eV 0)) (eUn dw' (eV 1))))) (bT' (oE (eC (.bl false)))) a6')
  (aF' (dX' (fB' (eV 0)) (gN 2) (aF' (sIf (d7' (tE (eUn (bt' "list") (eV 2)))) (bT' (oE (eC (.bl false)))) a6')
  (dX' (fB' (eV 2)) (gN 3) (sIf (tOr (d7' (tE (eUn (bt' "int") (eV 3)))) (tE (eUn (bt' "bool") (eV 3)))) (bT' (oE (eC (.bl false)))) a6'))))
  (bT' (oE (eOp pEq (eV 0) (eV 1)))))))
def f_law : MF := fnM 1 16 ((aF' (br' 1 (aD' f__law_hand (ad' (eV 0) bc')))
  (aF' (tr' (gT [2, 3, 4]) (eO (aD' f__law_parts (ad' (eV 1) (ad' (eC (.int 1)) (ad' (eC (.int 4)) (ad' (eC (.int 6)) bc')))))))
  (aF' (br' 5 (kD' "Machine" f_Machine___init__ (ad' (eV 2) (ad' (eV 3) (ad' (eV 4) bc')))))
  (aF' (dX' (bj' (eC (.int 3))) (gN 6) (aF' (br' 7 (oE (eOp cm' (eC (.int 1)) (eO (aD' f__law_draw (ad' (eV 1) (ad' (eC (.int 24)) bc')))))))
  (aF' (sIf (p9' (tE (eOp pEq (eV 6) (eC (.int 2)))) (tE (eOp pEq (eO (aD' f__law_draw (ad' (eV 1) (ad' (eC (.int 4)) bc')))) (eC (.int 0))))) (br' 7 (oE (eOp cm' (eC (.int 1)) (eO (aD' f__law_draw (ad' (eV 1) (ad' (eC (.int 300)) bc'))))))) a6')
  (aF' (br' 8 (aD' f__law_dealing (ad' (eV 1) (ad' (eV 7) bc'))))
  (aF' (br' 9 (aD' f__law_writings (ad' (eV 1) (ad' (eV 2) (ad' (eMt en' (eV 8) (ad' (eC (.str [65])) bc')) (ad' (eC (.int 5)) bc'))))))
  (aF' (br' 10 (aD' f__law_writings (ad' (eV 1) (ad' (eV 2) (ad' (eMt en' (eV 8) (ad' (eC (.str [66])) bc')) (ad' (eC (.int 5)) bc'))))))
  (aF' (br' 11 (aD' f__law_due (ad' (eV 2) (ad' (eV 3) (ad' (eV 4) (ad' (eV 8) (ad' (eV 9) (ad' (eV 10) bc'))))))))
  (aF' (br' 12 (hX' (eUn b0' (eV 9))))
  (aF' (br' 13 (hX' (eUn b0' (eV 10))))
  (aF' (br' 14 (hY' false [false, false, false, false, false, true, false, false, true, false, false, false, true, true] (aD' f_answers (ad' (eV 5) (ad' (eV 8) (ad' (eV 12) (ad' (eV 13) bc')))))))
  (aF' (sIf (qN' [false, false, false, false, false, false, false, false, false, true, true, true, true, true, true] (tOr (d7' (tE (eO (aD' f__law_is_due (ad' (eV 14) (ad' (eV 11) bc')))))) (tOr (tE (eOp pNe (eV 12) (eV 9))) (tE (eOp pNe (eV 13) (eV 10)))))) (bT' (oE (eC (.bl false)))) a6')
  (aF' (my' 14 15 (.int 5))
  (aF' (jV' 14 (oE (nz' (ad' (eC (.int 1)) bc'))))
  (aF' (jV' 12 (oE (eC (.str []))))
  (aF' (jV' 13 (oE (eC (.str []))))
  (sIf (d7' (tE (eO (aD' f__law_is_due (ad' (eO (aD' f_answers (ad' (eV 5) (ad' (eV 8) (ad' (eUn b0' (eV 9)) (ad' (eUn b0' (eV 10)) bc')))))) (ad' (eV 11) bc')))))) (bT' (oE (eC (.bl false)))) a6'))))))))))))))))
  (bT' (oE (eC (.bl true)))))))))
end M
namespace S
open PySem PySem.Spec PyProof.Rows L2
def top (i : Nat) : Stmt := PySem.Challenge.pw_saidacross_k65_answers_of_writings.main.body.getD i (.Pass ⟨0, 0, 0, 0⟩)
abbrev aP' : Stmt := top 7
abbrev hv' : List Str := ["thing"]
theorem fj' : FnScope hv' ["thing"] (defScope aP') := (by walk_at "3")
def dg' : He.DefD := ⟨("is_integer", none), "is_integer", "is_integer", defArgs aP', defBody aP', defScope aP', [], []⟩
abbrev aw' : Stmt := top 8
abbrev eP' : List Str := ["thing", "signs", "sign"]
theorem cq' : FnScope eP' ["thing", "signs"] (defScope aw') := (by walk_at "3")
def cw' : He.DefD := ⟨("is_string_of", none), "is_string_of", "is_string_of", defArgs aw', defBody aw', defScope aw', [], []⟩
abbrev ax' : Stmt := top 9
abbrev eQ' : List Str := ["thing", "one", "other"]
theorem bK' : FnScope eQ' ["thing"] (defScope ax') := (by walk_at "3")
def cx' : He.DefD := ⟨("is_ascending", none), "is_ascending", "is_ascending", defArgs ax', defBody ax', defScope ax', [], []⟩
abbrev aU' : Stmt := top 10
abbrev iI' : List Str := ["thing", "signs"]
theorem gw' : FnScope iI' ["thing", "signs"] (defScope aU') := (by walk_at "3")
def dC' : He.DefD := ⟨("is_choice", none), "is_choice", "is_choice", defArgs aU', defBody aU', defScope aU', [], []⟩
abbrev ar' : Stmt := top 13
abbrev ey' : List Str := ["thing"]
theorem dL' : FnScope ey' ["thing"] (defScope ar') := (by walk_at "3")
def ch' : He.DefD := ⟨("check_dealing", none), "check_dealing", "check_dealing", defArgs ar', defBody ar', defScope ar', [], []⟩
abbrev a9' : Stmt := top 14
abbrev k1' : List Str := ["dealing", "many", "hand"]
theorem ca' : FnScope k1' ["dealing"] (defScope a9') := (by walk_at "3")
def er' : He.DefD := ⟨("hands_of", none), "hands_of", "hands_of", defArgs a9', defBody a9', defScope a9', [], []⟩
abbrev aQ' : Stmt := top 16
abbrev hx' : List Str := ["thing", "many", "state"]
theorem c6' : FnScope hx' ["thing", "many"] (defScope aQ') := (by walk_at "3")
def dh' : He.DefD := ⟨("are_states", none), "are_states", "are_states", defArgs aQ', defBody aQ', defScope aQ', [], []⟩
abbrev a8' : Stmt := top 17
abbrev k0' : List Str := ["thing", "letters", "row"]
theorem ec' : FnScope k0' ["thing", "letters"] (defScope a8') := (by walk_at "3")
def eq' : He.DefD := ⟨("is_table", none), "is_table", "is_table", defArgs a8', defBody a8', defScope a8', [], []⟩
abbrev aj' : Stmt := inClass (top 18) 0
abbrev dl' : List Str := ["self", "letters", "table", "accepts"]
theorem cU' : FnScope dl' ["self", "letters", "table", "accepts"] (defScope aj') := (by walk_at "3")
def bN' : He.DefD := ⟨("Machine", some "__init__"), "__init__", "Machine.__init__", defArgs aj', defBody aj', defScope aj', [], []⟩
abbrev ay' : Stmt := inClass (top 18) 1
abbrev eR' : List Str := ["self", "letters", "table", "accepts"]
theorem ed' : FnScope eR' ["self", "letters", "table", "accepts"] (defScope ay') := (by walk_at "3")
def cz' : He.DefD := ⟨("Machine", some "keep"), "keep", "Machine.keep", defArgs ay', defBody ay', defScope ay', [], []⟩
abbrev eF' : Stmt := top 19
abbrev xt' : List Str := ["machine", "state", "word", "letter"]
theorem mw' : FnScope xt' ["machine", "state", "word"] (defScope eF') := (by walk_at "3")
def qs' : He.DefD := ⟨("led", none), "led", "led", defArgs eF', defBody eF', defScope eF', [], []⟩
abbrev aV' : Stmt := top 21
abbrev iJ' : List Str := ["dealing"]
theorem gx' : FnScope iJ' ["dealing"] (defScope aV') := (by walk_at "3")
def dD' : He.DefD := ⟨("check_two", none), "check_two", "check_two", defArgs aV', defBody aV', defScope aV', [], []⟩
abbrev ao' : Stmt := top 22
abbrev dR' : List Str := ["machine", "dealing", "hand", "thing", "told"]
theorem bX' : FnScope dR' ["machine", "dealing", "hand", "thing"] (defScope ao') := (by walk_at "3")
def b7' : He.DefD := ⟨("check_writings", none), "check_writings", "check_writings", defArgs ao', defBody ao', defScope ao', [], []⟩
abbrev bA' : Stmt := top 23
abbrev pE' : List Str := ["dealing", "one", "other", "signs", "mine", "place", "owner"]
theorem bW' : FnScope pE' ["dealing", "one", "other"] (defScope bA') := (by walk_at "3")
def g2' : He.DefD := ⟨("row_of", none), "row_of", "row_of", defArgs bA', defBody bA', defScope bA', [], []⟩
abbrev aW' : Stmt := top 24
abbrev iK' : List Str := ["machine", "row"]
theorem gy' : FnScope iK' ["machine", "row"] (defScope aW') := (by walk_at "3")
def dE' : He.DefD := ⟨("answer_of", none), "answer_of", "answer_of", defArgs aW', defBody aW', defScope aW', [], []⟩
abbrev bf' : Stmt := top 25
abbrev eA' : List Str := ["machine", "dealing", "ones", "others", "one", "other"]
theorem bY' : FnScope eA' ["machine", "dealing", "ones", "others"] (defScope bf') := (by walk_at "3")
def e4' : He.DefD := ⟨("answers", none), "answers", "answers", defArgs bf', defBody bf', defScope bf', [], []⟩
abbrev aS' : Stmt := top 27
abbrev eC' : List Str := ["_law_script", "_law_cells", "_law_cell"]
theorem cr' : FnScope eC' ["_law_script"] (defScope aS') := (by walk_at "3")
def dG' : He.DefD := ⟨("_law_hand", none), "_law_hand", "_law_hand", defArgs aS', defBody aS', defScope aS', [], []⟩
abbrev aX' : Stmt := top 28
abbrev iL' : List Str := ["_law_hand_here", "_law_many", "_law_cell", "_law_digit", "_law_number"]
theorem bo' : FnScope iL' ["_law_hand_here", "_law_many"] (defScope aX') := (by walk_at "3")
def dH' : He.DefD := ⟨("_law_draw", none), "_law_draw", "_law_draw", defArgs aX', defBody aX', defScope aX', [], []⟩
abbrev as' : Stmt := top 29
abbrev eB' : List Str := ["_law_hand_here", "_law_things", "_law_rest", "_law_found", "_law_turn"]
theorem bm' : FnScope eB' ["_law_hand_here", "_law_things"] (defScope as') := (by walk_at "3")
def cj' : He.DefD := ⟨("_law_shuffled", none), "_law_shuffled", "_law_shuffled", defArgs as', defBody as', defScope as', [], []⟩
abbrev aM' : Stmt := top 30
abbrev cd' : List Str := ["_law_hand_here", "_law_kind", "_law_size", "_law_many", "_law_rows_here", "_law_letter", "_law_rule", "_law_step", "_law_turned", "_law_state", "_law_row"]
theorem au' : FnScope cd' ["_law_hand_here", "_law_kind", "_law_size", "_law_many"] (defScope aM') := (by walk_at "3")
def dF' : He.DefD := ⟨("_law_rows", none), "_law_rows", "_law_rows", defArgs aM', defBody aM', defScope aM', [], []⟩
abbrev aI' : Stmt := top 31
abbrev dI' : List Str := ["_law_hand_here", "_law_fewest", "_law_most", "_law_states", "_law_kind", "_law_many", "_law_size", "_law_signs", "_law_letters", "_law_table", "_law_accepts", "_law_state"]
theorem aA' : FnScope dI' ["_law_hand_here", "_law_fewest", "_law_most", "_law_states"] (defScope aI') := (by walk_at "3")
def di' : He.DefD := ⟨("_law_parts", none), "_law_parts", "_law_parts", defArgs aI', defBody aI', defScope aI', [], []⟩
abbrev ba' : Stmt := top 32
abbrev k3' : List Str := ["_law_letters", "_law_rows_here", "_law_state", "_law_word", "_law_letter"]
theorem cT' : FnScope k3' ["_law_letters", "_law_rows_here", "_law_state", "_law_word"] (defScope ba') := (by walk_at "3")
def es' : He.DefD := ⟨("_law_led", none), "_law_led", "_law_led", defArgs ba', defBody ba', defScope ba', [], []⟩
abbrev ap' : Stmt := top 33
abbrev bV' : List Str := ["_law_hand_here", "_law_many", "_law_way", "_law_k"]
theorem aZ' : FnScope bV' ["_law_hand_here", "_law_many"] (defScope ap') := (by walk_at "3")
def cy' : He.DefD := ⟨("_law_dealing", none), "_law_dealing", "_law_dealing", defArgs ap', defBody ap', defScope ap', [], []⟩
abbrev an' : Stmt := top 34
abbrev cC' : List Str := ["_law_hand_here", "_law_letters", "_law_many", "_law_most", "_law_found", "_law_turn", "_law_thin", "_law_signs", "_law_k"]
theorem aL' : FnScope cC' ["_law_hand_here", "_law_letters", "_law_many", "_law_most"] (defScope an') := (by walk_at "3")
def ci' : He.DefD := ⟨("_law_writings", none), "_law_writings", "_law_writings", defArgs an', defBody an', defScope an', [], []⟩
abbrev aG' : Stmt := top 35
abbrev fQ' : List Str := ["_law_dealing_here", "_law_one", "_law_other", "_law_found", "_law_mine", "_law_place", "_law_sign"]
theorem aO' : FnScope fQ' ["_law_dealing_here", "_law_one", "_law_other"] (defScope aG') := (by walk_at "3")
def cQ' : He.DefD := ⟨("_law_joined", none), "_law_joined", "_law_joined", defArgs aG', defBody aG', defScope aG', [], []⟩
abbrev bb' : Stmt := top 36
abbrev k4' : List Str := ["_law_letters", "_law_table", "_law_accepts", "_law_dealing_here", "_law_ones", "_law_others", "_law_found", "_law_one", "_law_row", "_law_other", "_law_state"]
theorem bw' : FnScope k4' ["_law_letters", "_law_table", "_law_accepts", "_law_dealing_here", "_law_ones", "_law_others"] (defScope bb') := (by walk_at "3")
def et' : He.DefD := ⟨("_law_due", none), "_law_due", "_law_due", defArgs bb', defBody bb', defScope bb', [], []⟩
abbrev aH' : Stmt := top 37
abbrev fR' : List Str := ["_law_found", "_law_due_here", "_law_row", "_law_number"]
theorem bS' : FnScope fR' ["_law_found", "_law_due_here"] (defScope aH') := (by walk_at "3")
def cR' : He.DefD := ⟨("_law_is_due", none), "_law_is_due", "_law_is_due", defArgs aH', defBody aH', defScope aH', [], []⟩
abbrev eG' : Stmt := top 38
abbrev xu' : List Str := ["_law_script", "_law_hand_here", "_law_letters", "_law_table", "_law_accepts", "_law_machine", "_law_turn", "_law_many", "_law_dealing_here", "_law_ones", "_law_others", "_law_due_here", "_law_mine", "_law_theirs", "_law_found", "_law_row"]
theorem bB' : FnScope xu' ["_law_script"] (defScope eG') := (by walk_at "3")
def qt' : He.DefD := ⟨("law", none), "law", "law", defArgs eG', defBody eG', defScope eG', [], []⟩
def fns : List He.DefD := [dg', cw', cx', dC', ch', er', dh', eq', bN', cz', qs', dD', b7', g2', dE', e4', dG', dH', cj', dF', di', es', cy', ci', cQ', et', cR', qt']
def tbs : List He.Tab := []
def fas : List He.Fa := [.glo "is_integer", .glo "is_string_of", .glo "is_ascending", .glo "is_choice", .glo "check_dealing", .glo "hands_of", .glo "are_states", .glo "is_table", .glo "led", .glo "check_two", .glo "check_writings", .glo "row_of", .glo "answer_of", .glo "answers", .glo "_law_hand", .glo "_law_draw", .glo "_law_shuffled", .glo "_law_rows", .glo "_law_parts", .glo "_law_led", .glo "_law_dealing", .glo "_law_writings", .glo "_law_joined", .glo "_law_due", .glo "_law_is_due", .glo "law", .glo "SaidError", .exc "SaidError", .glo "NoDealing", .exc "NoDealing", .glo "NoWritings", .exc "NoWritings", .glo "NoMachine", .glo "Machine", .str "SMALL" "abcdefghijklmnopqrstuvwxyz", .str "HANDS" "ABCD", .free "zip", .free "enumerate", .free "list", .free "range", .free "tuple", .free "isinstance", .free "int", .free "str", .free "max", .free "abs", .free "len", .free "sorted", .free "bool", .free "min", .cls "Machine", .noat "Machine" "kept_letters", .noat "Machine" "kept_table", .noat "Machine" "kept_accepts", .noat "Machine" "kept_least", .noat "Machine" "kept_field", .noat "Machine" "kept_lots", .noat "Machine" "kept_more", .mkr "Machine", .meth "Machine" "keep"]
def exs : List (PySem.W.Frag -> Bool) := []
def exK (K : PySem.W.Frag) : Bool := exs.all fun f => f K
end S
set_option maxHeartbeats 0
namespace S
open PySem PySem.Spec PyProof.Rows L2
def t1' : List Str := ["SaidError", "NoDealing", "NoWritings", "NoMachine", "SMALL", "is_integer", "is_string_of", "is_ascending", "is_choice", "HANDS", "check_dealing", "hands_of", "are_states", "is_table", "Machine", "led", "check_two", "check_writings", "row_of", "answer_of", "answers", "_law_hand", "_law_draw", "_law_shuffled"]
def t0' : List Str := ["_law_rows", "_law_parts", "_law_led", "_law_dealing", "_law_writings", "_law_joined", "_law_due", "_law_is_due"]
def loose : List Str := t1' ++ t0'
abbrev Rw : PySem.W.OpenRow := PySem.W.OpenLaw.row PySem.Challenge.rw_saidacross_k65_answers_of_writings
abbrev hk : PySem.W.Hook := He.hookX 4 fas fns tbs [] exK
def ob (s : PySem.W.SharedT) : He.AlX := He.obsX 4 fas fns tbs [] exK (HandSHeadRun.getT s)
theorem wm' (s : PySem.W.SharedT) : ob s = hk.obs s.abs := He.obsX_eq (HandSHeadRun.getT_eq s)
theorem tK' {α β γ : Type} {x : Option α} {f : α -> β} {g : α -> γ} {b : β} {c : γ} (h1 : x.map f = some b) (h2 : x.map g = some c) : x.map (fun s => (f s, g s)) = some (b, c) := by
  cases x with
  | none => cases h1
  | some a =>
    obtain rfl := Option.some.inj h1
    obtain rfl := Option.some.inj h2
    rfl
section
open PySem.W HandSHeadRun
theorem x6' (w : World) (os : OsState) : (endF (stepQ (denQ tabQ) Rw.prog w) 2740 Rw.prog w os).map (fun s => looksF Rw.prog (boot_heap w.params) s.abs) = some true := by kernel_rfl
theorem x5' (w : World) (os : OsState) : (endF (stepQ (denQ tabQ) Rw.prog w) 2740 Rw.prog w os).map (fun s => seenQ (PySem.W.view Rw.prog [38]) loose (importedModules Rw.prog.main.body) (fun s => xlAt (PySem.W.view Rw.prog [38]) [] s && recOk Rw.toRowW.records s) s.abs) = some (openGood (PySem.W.view Rw.prog [38]) loose) := by kernel_rfl
theorem x4' (w : World) (os : OsState) : (endF (stepQ (denQ tabQ) Rw.prog w) 2740 Rw.prog w os).map (fun s => ob s) = some (hk.val w) := by kernel_rfl
end
theorem run (w : World) : HandSHeadRun.RunEq Rw (PySem.W.view Rw.prog [38]) hk ob 2740 loose w := fun os => tK' (x6' w os) (tK' (x5' w os) (x4' w os))
end S
set_option maxHeartbeats 4000000
namespace S
open PySem PySem.Spec PyProof.Rows L2
abbrev St := L2.St
section
variable {X : Cx}
def k6' (z : Str) (n : Nat) : Str := ⟨((List.replicate n z.cps.toList).flatten).toArray⟩
theorem gV' : ∀ (l : List (Array Nat)) (a : Array Nat), l.foldl (· ++ ·) a = (a.toList ++ (l.map Array.toList).flatten).toArray
  | [], a => by simp
  | b :: r, a => by
    rw [List.foldl_cons, gV' r]
    simp
theorem mC' (z : Str) (n : Nat) : (⟨(List.replicate n z.cps).foldl (· ++ ·) #[]⟩ : Str) = k6' z n := by
  unfold k6'
  rw [gV']
  simp
theorem oE' (z : Str) : k6' z 1 = z := by
  obtain ⟨c⟩ := z
  simp [k6']
theorem mB' (z : Str) : k6' z 0 = Str.empty := by
  simp [k6']
  rfl
theorem kA' (z : Str) (h : z.length = 0) (n : Nat) : k6' z n = z := by
  obtain ⟨c⟩ := z
  have e : c.toList = [] := by
    have h1 : c.size = 0 := h
    exact List.eq_nil_of_length_eq_zero (by simpa using h1)
  have e2 : c = #[] := by simpa using congrArg List.toArray e
  subst e2
  simp [k6']
theorem hO' (z : Str) (n : Nat) : (k6' z n).length = n * z.length := by
  show ((List.replicate n z.cps.toList).flatten).toArray.size = _
  rw [List.size_toArray, List.length_flatten]
  simp
  rfl
def qg' : R2 := fun x y H Q => ∃ z i, x = .str z /\ y = .int i /\ i < 2 ^ 62 /\ -(2 ^ 62) <= i /\ z.length * i.toNat <= sizeLine /\ Q (.str (k6' z i.toNat)) H
theorem oQ' : OpR X (binaryOp .Mult) qg' := by
  intro pins s σ H x y v u Q I rx ry h
  obtain ⟨z, i, rfl, rfl, h1, h2, h3, q⟩ := h
  obtain ⟨t, rfl⟩ := rx
  obtain ⟨t', rfl⟩ := ry
  have h63 : (decide (i < -(2 ^ 63 : Int)) || decide (i >= 2 ^ 63)) = false := by
    rw [decide_eq_false (by omega), decide_eq_false (by omega)]; rfl
  have hsz : (sizeLine : Nat) < 2 ^ 62 := by rw [sizeLine_eq]; decide
  refine PySem.P.mul_str h63 (fun hn hz => ?_) (fun hn hz => ?_) ?_
  . intro hg
    have hpos : 0 < i := by omega
    have e : (i.toNat : Int) = i := by omega
    have h4 : (z.length : Int) * i <= sizeLine := by
      rw [<- e]; exact_mod_cast h3
    have h5 : (2 ^ 63 - 1) / i < (z.length : Int) := hg
    have h6 : (2 ^ 63 - 1 : Int) < z.length * i := by
      have := Int.lt_mul_of_ediv_lt hpos h5
      rw [Int.mul_comm] at this
      first
        | exact this
        | (rw [Int.mul_comm]; exact this)
    omega
  . exact decide_eq_false (by omega)
  . by_cases hn : i < 1
    . rw [if_pos hn]
      have e : i.toNat = 0 := by omega
      rw [e, mB'] at q
      exact ⟨by decide, .str Str.empty, H, I.tok _, ⟨_, rfl⟩, q⟩
    . rw [if_neg hn]
      by_cases hz : (i == 1 || z.length == 0) = true
      . rw [if_pos hz]
        have e : k6' z i.toNat = z := by
          rcases Bool.or_eq_true_iff.mp hz with h | h
          . have h' : i = 1 := eq_of_beq h
            rw [h']; exact oE' z
          . exact kA' z (eq_of_beq h) _
        rw [e] at q
        exact ⟨.str z, H, I, ⟨_, rfl⟩, q⟩
      . rw [if_neg hz, mC']
        exact ⟨by rw [hO', Nat.mul_comm]; omega, .str _, H, I.tok _, ⟨_, rfl⟩, q⟩
def tx' : R2 := fun x y H Q => rI CMul (fun i j => .int (i * j)) x y H Q \/ qg' x y H Q \/ rRep x y H Q
theorem rg' : OpR X (binaryOp .Mult) tx' := op_mul.or (oQ'.or op_rep)
def tA' (f : List Nat -> List Nat -> Bool) : R2 := fun x y H Q => ∃ i j, x = .str i /\ y = .str j /\ Q (.bl (f i.cps.toList j.cps.toList)) H
def qi' (p : Int -> Int -> Bool) (f : List Nat -> List Nat -> Bool) : R2 := fun x y H Q => rI0 (fun i j => .bl (p i j)) x y H Q \/ tA' f x y H Q
theorem mR' : OpR X (compareOp .Lt) (qi' (fun i j => decide (i < j)) fun a b => decide (a < b)) := op_lt.or (r' := tA' fun a b => decide (a < b)) op_lt_str
theorem j4' : OpR X (compareOp .LtE) (qi' (fun i j => decide (i <= j)) fun a b => !decide (b < a)) := op_le.or (r' := tA' fun a b => !decide (b < a)) op_le_str
theorem mS' : OpR X (compareOp .Gt) (qi' (fun i j => decide (j < i)) fun a b => decide (b < a)) := op_gt.or (r' := tA' fun a b => decide (b < a)) op_gt_str
theorem mT' : OpR X (compareOp .GtE) (qi' (fun i j => decide (j <= i)) fun a b => !decide (a < b)) := op_ge.or (r' := tA' fun a b => !decide (a < b)) op_ge_str
def tF' (K : PySem.W.Frag) : R2 := fun x y H Q => rI0 (fun i j => .int (i + j)) x y H Q \/ (∃ i j, x = .str i /\ y = .str j /\ i.length + j.length <= sizeLine /\ Q (.str (i ++ j)) H) \/ rCat x y H Q \/ rCatA K x y H Q
theorem aN' : OpR X (binaryOp .Add) (tF' X.K) := op_add.or (op_add_str.or (op_cat.or op_catA))
def xD' (K : PySem.W.Frag) : R2 := fun x y H Q => rEq x y H Q \/ rEqD K x y H Q
theorem bu' (hu : X.A.units + 64 < cLine) : OpR X (compareOp .Eq) (xD' X.K) := op_eq.or (op_eqD hu)
def xA' (K : PySem.W.Frag) : R2 := fun x y H Q => rNe x y H Q \/ rNeD K x y H Q
theorem eh' (hu : X.A.units + 64 < cLine) : OpR X (compareOp .NotEq) (xA' X.K) := op_ne.or (op_neD hu)
def xC' : R2 := fun x y H Q => ∃ (c : Nat) (z : Str), x = .str ⟨#[c]⟩ /\ y = .str z /\ Q (.bl (decide (c ∈ z.cps.toList))) H
def mH' : R2 := fun x y H Q => ∃ (c : Nat) (z : Str), x = .str ⟨#[c]⟩ /\ y = .str z /\ Q (.bl (!decide (c ∈ z.cps.toList))) H
def tE' : R2 := fun x y H Q => ∃ i j, x = .str i /\ y = .str j /\ Q (.bl (!(Builtin.Str.occurrences j i 0 j.length 1).isEmpty)) H
def jY' : R2 := fun x y H Q => ∃ i j, x = .str i /\ y = .str j /\ Q (.bl (!(!(Builtin.Str.occurrences j i 0 j.length 1).isEmpty))) H
def xB' (K : PySem.W.Frag) : R2 := fun x y H Q => xC' x y H Q \/ rIn K false x y H Q \/ tE' x y H Q
def mG' (K : PySem.W.Frag) : R2 := fun x y H Q => mH' x y H Q \/ rIn K true x y H Q \/ jY' x y H Q
theorem qk' : OpR X (compareOp .In) (xB' X.K) := OpR.or (r := xC') op_in_sign (op_in_seq.or (r' := tE') op_in_str)
theorem mQ' : OpR X (compareOp .NotIn) (mG' X.K) := OpR.or (r := mH') op_notIn_sign (op_notIn_seq.or (r' := jY') op_notIn_str)
def xz' (K : PySem.W.Frag) : V -> Option Int -> Option Int -> Hp -> VK -> Prop := fun x lo hi H Q => rSlL K x lo hi H Q \/ rSlS x lo hi H Q \/ rSlA K x lo hi H Q
theorem tf' : SlR X (xz' X.K) := sl_list.or (sl_str.or sl_tupA)
def tB' (K : PySem.W.Frag) : List V -> Hp -> VK -> Prop := fun xs H Q => (∃ z, xs = [.str z] /\ z.length <= sizeLine /\ Q (.int z.length) H) \/ (∃ p ys, xs = [.ref p] /\ (SqL K H p ys \/ SqT K H p ys) /\ Q (.int ys.length) H) \/ (∃ a kvs, xs = [V.ref a] /\ Rd H a (.dK kvs) /\ Q (.int kvs.length) H)
theorem nH' : CallR X (.builtin "len") (tB' X.K) := call_len_str.or (call_len_seq.or fun pins s σ H vs us Q I r h => by
  obtain ⟨a, kvs, rfl, e, q⟩ := h
  cases r with
  | cons ra rn =>
    cases rn
    cases (show _ = Value.ref a from ra)
    exact d_len I e fun t s' I' => ⟨.int kvs.length, H, I', ⟨t, rfl⟩, q⟩)
def qh' (K : PySem.W.Frag) : List V -> Hp -> VK -> Prop := fun xs H Q => (∃ p ys, xs = [.ref p] /\ (SqL K H p ys \/ SqT K H p ys) /\ ∀ l, H l = none -> Q (.ref l) (upd H l (.lst ys)))
theorem kU' : CallR X (.type "list") (qh' X.K) := call_list_of
def mE' (K : PySem.W.Frag) : List V -> Hp -> VK -> Prop := fun xs H Q => ∃ p ys, xs = [.ref p] /\ ((SqL K H p ys /\ ∀ l, H l = none -> Q (.ref l) (upd H l (.tup ys))) \/ (SqT K H p ys /\ Q (.ref p) H))
theorem iy' : CallR X (.type "tuple") (mE' X.K) := call_tuple_of
def tD' : List V -> Hp -> VK -> Prop := fun xs H Q => (∃ i, xs = [.int i] /\ Q (.int i) H) \/ ∃ k, xs = [.bl k] /\ Q (.int (if k then 1 else 0)) H
theorem a0' : CallR X (.type "int") tD' := call_int1
def tG' : List V -> Hp -> VK -> Prop := fun xs H Q => ∃ i, xs = [.int i] /\ Q (.int (if i < 0 then -i else i)) H
theorem nI' : CallR X (.builtin "abs") tG' := call_abs
def tz' : List V -> Hp -> VK -> Prop := fun xs H Q => ∃ i j, xs = [.int i, .int j] /\ Q (.int (if j > i then j else i)) H
theorem e5' (hc : X.calm = true) : CallR X (.builtin "max") tz' := call_max2 hc
def ty' : List V -> Hp -> VK -> Prop := fun xs H Q => ∃ i j, xs = [.int i, .int j] /\ Q (.int (if j < i then j else i)) H
theorem kT' (hc : X.calm = true) : CallR X (.builtin "min") ty' := call_min2 hc
theorem fm' {x z : Str} {pos : Pos} (hg : Gl X x) (h : ∃ t, X.mg x = some (.str z t)) (hd : (x == ("__debug__" : Str)) = false := by decide) : PE X (.Name x pos) (tC (.str z)) := by
  obtain ⟨t, e⟩ := h
  exact pe_glob hg e ⟨t, rfl⟩ hd
theorem dY' {C : Addr} {bmB : List Value} {B newId initId : String} {x : Str} {p pos : Pos} (F : ExcBaseFacts B newId initId bmB) (q : PySem.W.excIn X.K C bmB newId = true) (gC : X.mg x = some (.ref C))
    (kC : PySem.W.keepIn X.K (.ref C) = true) (r : Raises X (.ref C)) (hg : Gl X x) (hdb : (x == ("__debug__" : Str)) = false := by decide) : PMk X (.Call (.Name x p) [] [] pos) (fun _ H Q => Q (.ref C) none H) := by
  intro pins s σ H Q I h
  refine wpAny_Call_Name_kw (ld_glob I hg gC ?_ hdb)
  refine PySem.W.callWith_K0 I.kIn kC ?_
  show wpAny _ _ (call (.ref C) []) _ _ _
  obtain ⟨bm, N, nm, qn, bs, hdct, sn, sub, ab, col, dd, k0, k1, k2, k3, k5, mN, hC, hN, hni, T⟩ := exc_obj I.kIn q
  refine wpAny_call_exc_subT F T hC hN hni (fun h' e hm => ?_) (Nat.zero_le _)
  exact mk_of I hm r h (I.hok.gone hm.new)
end
section
variable {P : Program} {w : World} {K : PySem.W.Frag} {mg : Str -> Option Value} {base : Heap}
section
variable {X : Cx} {k : Nat} {x : Str} {ps : List Str} {sp : Sp} {p pos : Pos} {e : Expr} {es : List Expr} {t : TA} {W : WX}
end
end
end S
namespace S
open PySem PySem.Spec PyProof.Rows L2
section
variable {K : PySem.W.Frag} {D : Ends} {σ : St} {H H' : Hp} {Q : VK} {t u : TS} {te ta tb tc : TE} {tt tu : TT} {g : TG} {tl : TA} {v x y : V} {i j : Int} {a p : Addr} {xs ys : List V} {z z' : Str} {r : R2}
theorem vQ' {n : String} {tv : Value} {b : Bool} (ty : TyX K H x tv) (e : PySem.W.kitOne K tv (.type n) = some b) (h : Q (.bl b) H) : rIsi K [x, .ty n] H Q := ⟨x, .ty n, tv, _, b, rfl, .ty n, ty, e, h⟩
theorem Same.upd {H : Hp} {p : Addr} {o : HO} (h : H p = none) : Same H (upd H p o) := fun b u e => by
  rw [upd_ne (ne_of_none e h)]; exact e
theorem Same.app (s : Same H H') {o : HO} (h : H p = some o) : H' p = some o := s p o h
end
theorem FnOk.to0 {P : Program} {w : World} {K : PySem.W.Frag} {mg : Str -> Option Value} {base : Heap} {k : Nat} {f : Addr} {fd : FuncData} {ps : List Str} {sp : Sp} (F : FnOk P w K mg base (L2.CX P w) k f fd ps sp) :
    FnOk P w K mg base CX0 k f fd ps (fun vs H Q _ => sp vs H Q E0) :=
  ⟨fun vs H Q _ h => F.len vs H Q E0 h, fun A outer s H args us vs Q _ hr he hb hv hs => codeAny_mono (F.run A outer s H args us vs Q E0 hr he hb hv hs) fun r s' hq => by
    cases r with
    | error e =>
      obtain ⟨_, _, _, _, _, _, _, _, _, _, _, _, z⟩ := hq
      exact z.elim
    | ok fl =>
      cases fl with
      | ret u => exact hq
      | next => exact hq
      | brk => exact hq
      | cont => exact hq⟩
end S
namespace S
open PySem PySem.Spec PyProof.Rows L2
section
variable {α : Type} {as : List α} {J : It} {G : Hp -> Prop} {Y : α -> Hp -> V -> Hp -> Prop} {K : PySem.W.Frag} {D : Ends} {σ : St} {H : Hp} {g : TG} {tb : TS} {tt : TT} {te : TE} {a : Addr}
def yp' (J : It) (g : TG) (tb : TS) (D : Ends) (σ : St) (H1 : Hp) : Prop := ∃ W : Nat -> Nat -> St -> Hp -> Prop, (∃ m, W 0 m σ H1) /\ ∀ i m σ H, W i m σ H →
  (J.stop i H /\ D.nx σ H) \/ (J.go i H /\ ∃ N : St -> Hp -> Prop, (∀ σ' H', N σ' H' -> ∃ m', m' < m /\ W (i + 1) m' σ' H') /\ ∀ x H', J.yld i H x H' -> g x σ H' fun σ2 H2 => tb { D with nx := N, ct := N, bk := D.nx } σ2 H2)
theorem cY' {lo : Int} {n : Nat} (Pv : Nat -> St -> Hp -> Prop) (h0 : Pv 0 σ H)
    (hs : ∀ i σ H, i < n -> Pv i σ H -> g (.int (lo + (i : Nat))) σ H fun σ2 H2 => tb { D with nx := Pv (i + 1), ct := Pv (i + 1), bk := D.nx } σ2 H2) (hd : ∀ σ H, Pv n σ H -> D.nx σ H) : yp' (Itr lo n) g tb D σ H := for_range Pv h0 hs hd
end
section
variable {H H' : Hp} {p q : Addr} {o : HO}
theorem seqT {K : PySem.W.Frag} {a : Addr} {xs : List V} (e : Same H H') (h : SqT K H a xs) : SqT K H' a xs := by
  rcases h with (h | ⟨o, h⟩) | h
  . exact .inl (.inl (e _ _ h))
  . exact .inl (.inr ⟨o, e _ _ h⟩)
  . exact .inr h
end
end S
namespace S
open PySem PySem.Spec PyProof.Rows L2
def xv' (c a : Addr) : HO := .ext fun h => ∃ (its : List Value) (n : Nat) (i s t k : Int), Vals [.ref c, .int i, .int s, .int t, .int k] its /\ h.get? a = some { cls := .type "list", data := .seq its.toArray n } /\ 0 <= i
def vD' (H : Hp) (a : Addr) : Prop := ∃ (c : Addr) (ns : List Int), H a = some (xv' c a) /\ H c = some (.lst (ns.map V.int))
section
variable {P : Program} {w : World} {H H' : Hp} {h h' : Heap} {a c : Addr} {o o' : HO} {fs : List Addr}
end
section
variable {P : Program} {w : World} {K : PySem.W.Frag} {mg : Str -> Option Value} {base : Heap} {k : Nat} {f : Addr} {fd : FuncData} {ps : List Str}
end
end S
namespace S
open PySem PySem.Spec PyProof.Rows L2
def Sh (n : Nat) (d : PyData) : Prop := d.canLay0 = true /\ d.depth <= n
theorem Sh.shaped {n : Nat} {d : PyData} (h : Sh n d) (hn : n <= 64) : SeqAt.shaped d = true := by
  unfold SeqAt.shaped
  rw [h.1, Bool.true_and]
  exact decide_eq_true (Nat.le_trans h.2 hn)
theorem Sh.mono {n m : Nat} {d : PyData} (h : Sh n d) (e : n <= m) : Sh m d := ⟨h.1, Nat.le_trans h.2 e⟩
theorem Sh.int {n : Nat} {i : Int} : Sh n (.int i) := ⟨rfl, Nat.zero_le _⟩
theorem Sh.bool {n : Nat} {b : Bool} : Sh n (.bool b) := ⟨rfl, Nat.zero_le _⟩
theorem Sh.none {n : Nat} : Sh n .none := ⟨rfl, Nat.zero_le _⟩
theorem Sh.str {n : Nat} {z : Str} (h : ∀ c ∈ z.cps.toList, c < 128) : Sh n (.str z) := by
  refine ⟨?_, Nat.zero_le _⟩
  show PyData.strOk z = true
  unfold PyData.strOk
  rw [Array.all_eq_true']
  intro c hc
  have := h c (by simpa using hc)
  simp only [decide_eq_true_eq]
  omega
theorem Sh.all {n : Nat} : ∀ {ds : List PyData}, (∀ d ∈ ds, Sh n d) -> PyData.canLayAll0 ds = true /\ PyData.depthAll ds <= n
  | [], _ => ⟨rfl, Nat.zero_le _⟩
  | d :: r, h => by
    have h1 := h d (by simp)
    have h2 := Sh.all (ds := r) fun x hx => h x (by simp [hx])
    refine ⟨?_, ?_⟩
    . show (d.canLay0 && PyData.canLayAll0 r) = true
      rw [h1.1, h2.1]
      rfl
    . show max d.depth (PyData.depthAll r) <= n
      exact Nat.max_le.mpr ⟨h1.2, h2.2⟩
theorem Sh.list {n : Nat} {ds : List PyData} (h : ∀ d ∈ ds, Sh n d) : Sh (n + 1) (.list ds) := ⟨(Sh.all h).1, Nat.succ_le_succ (Sh.all h).2⟩
theorem Sh.tuple {n : Nat} {ds : List PyData} (h : ∀ d ∈ ds, Sh n d) : Sh (n + 1) (.tuple ds) := ⟨(Sh.all h).1, Nat.succ_le_succ (Sh.all h).2⟩
section
variable {K : PySem.W.Frag} {H H' : Hp} {v : V} {vs : List V} {ds es : List PyData} {p : Addr} {xs : List V}
theorem DpAll.append : ∀ {vs ws : List V} {ds es : List PyData}, DpAll K H vs ds -> DpAll K H ws es -> DpAll K H (vs ++ ws) (ds ++ es)
  | _, _, _, _, .nil, h => h
  | _, _, _, _, .cons a r, h => .cons a (DpAll.append r h)
theorem DpAll.length : ∀ {vs : List V} {ds : List PyData}, DpAll K H vs ds -> vs.length = ds.length
  | _, _, .nil => rfl
  | _, _, .cons _ r => congrArg (· + 1) (DpAll.length r)
theorem DpAll.split : ∀ {a b : List V} {ds : List PyData}, DpAll K H (a ++ b) ds -> ∃ d e, ds = d ++ e /\ DpAll K H a d /\ DpAll K H b e
  | [], b, ds, h => ⟨[], ds, rfl, .nil, h⟩
  | x :: a, b, _, .cons h r => by
    obtain ⟨d, e, rfl, h1, h2⟩ := DpAll.split (a := a) r
    exact ⟨_ :: d, e, rfl, .cons h h1, h2⟩
theorem DpAll.get : ∀ {vs : List V} {ds : List PyData} {i : Nat} {d : PyData}, DpAll K H vs ds -> ds[i]? = some d -> ∃ v, vs[i]? = some v /\ Dp K H v d
  | _, _, _, _, .nil, e => by cases e
  | _, _, 0, _, .cons h _, e => ⟨_, rfl, by rw [<- Option.some.inj e]; exact h⟩
  | _, _, i + 1, _, .cons _ r, e => DpAll.get (i := i) r e
theorem Dp.int_inv {i : Int} (h : Dp K H v (.int i)) : v = .int i := by cases h; rfl
theorem Dp.str_inv {z : Str} (h : Dp K H v (.str z)) : v = .str z := by cases h; rfl
theorem Dp.tup_inv (h : Dp K H v (.tuple ds)) : ∃ p xs, v = .ref p /\ SqT K H p xs /\ DpAll K H xs ds := by
  cases h with
  | tup h1 h2 => exact ⟨_, _, rfl, h1, h2⟩
theorem Dp.lst_inv (h : Dp K H v (.list ds)) : ∃ p xs, v = .ref p /\ SqL K H p xs /\ DpAll K H xs ds := by
  cases h with
  | lst h1 h2 => exact ⟨_, _, rfl, h1, h2⟩
theorem tyT (h : SqT K H p xs) : TyX K H (.ref p) (.type "tuple") := by
  rcases h with (h | ⟨o, h⟩) | ⟨o, its, n, h, c, _⟩
  . exact .base (.tup h)
  . exact .fTuple h
  . exact .kTuple h c
theorem tyL (h : SqL K H p xs) : TyX K H (.ref p) (.type "list") := by
  rcases h with (h | ⟨o, h⟩) | ⟨o, its, n, h, c, _⟩
  . exact .base (.lst h)
  . exact .base (.frz h)
  . exact .kList h c
def tyn : PyData -> String
  | .none => "NoneType" | .bool _ => "bool" | .int _ => "int" | .str _ => "str" | .list _ => "list" | .tuple _ => "tuple" | .dict _ => "dict"
theorem _root_.L2.Dp.ty {d : PyData} (h : Dp K H v d) : TyX K H v (.type (tyn d)) := by
  cases h with
  | non => exact .base .non
  | bl b => exact .base (.bl b)
  | int i => exact .base (.int i)
  | str z => exact .base (.str z)
  | lst h1 _ => exact tyL h1
  | tup h1 _ => exact tyT h1
variable {σ : St} {R : St -> Hp -> Prop}
end
theorem fh' {a b : Str} (h : a.cps.toList = b.cps.toList) : a = b := by
  obtain ⟨a⟩ := a
  obtain ⟨b⟩ := b
  have : a = b := by simpa using congrArg List.toArray h
  rw [this]
theorem pB' (a b : Str) : (a ++ b).cps.toList = a.cps.toList ++ b.cps.toList := by
  show (a.cps ++ b.cps).toList = _
  simp
theorem o0' (a : Str) : a.length = a.cps.toList.length := by
  show a.cps.size = _
  simp
section
variable {α β : Type}
def xM' (xs : List α) (lo hi : Option Int) : List α := (xs.drop (HT.sIx xs.length 0 lo)).take (HT.sIx xs.length xs.length hi - HT.sIx xs.length 0 lo)
theorem u6' (z : Str) (lo hi : Option Int) : (cutS z lo hi).cps.toList = xM' z.cps.toList lo hi := by
  unfold cutS xM'
  rw [o0']
end
end S
namespace S
open PySem PySem.Spec PyProof.Rows L2
section
variable {K : PySem.W.Frag} {H : Hp} {J : It} {g : TG} {tt : TT} {te : TE} {vs : List Nat} {σ : St} {Q : VK} {G : Hp -> Prop}
theorem DpAll.at {H : Hp} : ∀ {d r : List V} {x : V} {ds : List PyData}, DpAll K H (d ++ x :: r) ds -> ∃ e, ds[d.length]? = some e /\ Dp K H x e /\ ds.take (d.length + 1) = ds.take d.length ++ [e] := by
  intro d r x ds h
  obtain ⟨a, b, rfl, h1, h2⟩ := DpAll.split h
  cases h2 with
  | cons h3 h4 =>
    have hl := DpAll.length h1
    rename_i e es
    have e1 : (a ++ e :: es)[d.length]? = some e := by rw [List.getElem?_append_right (by omega), hl, Nat.sub_self]; rfl
    refine ⟨_, e1, h3, ?_⟩
    rw [List.take_add_one, e1]
    rfl
theorem _root_.L2.Dp.t2 {v : V} {d e : PyData} (h : Dp K H v (.tuple [d, e])) : ∃ p x y, v = .ref p /\ SqT K H p [x, y] /\ Dp K H x d /\ Dp K H y e := by
  obtain ⟨p, xs, rfl, q, a⟩ := Dp.tup_inv h
  cases a with
  | cons a1 a => cases a with
    | cons a2 a => cases a; exact ⟨p, _, _, rfl, q, a1, a2⟩
end
end S
namespace S
open PySem PySem.Spec PyProof.Rows L2
def ItP (xs ys : Nat -> Option V) (n : Nat) : It :=
  ⟨fun i _ => i < n, fun i H v H' => ∃ T x y, v = .ref T /\ H T = none /\ H' = upd H T (.tup [x, y]) /\ xs i = some x /\ ys i = some y, fun i _ => i = n⟩
theorem gt' {P : Program} {w : World} {K : PySem.W.Frag} {tg : Expr} {z : Addr} {fp wr : List Addr} {n : Nat} {P1 P2 : Nat -> Value -> Prop} {St : Nat -> Heap -> Prop} {xs ys : Nat -> Option V}
    (W : ∀ A : Around, A.handled = none -> GoesN P w A tg z fp wr n (fun i h₀ v h => ∃ T x y, v = .ref T /\ h₀.objs.size <= T /\ P1 i x /\ P2 i y /\ h.IsTuple T #[x, y]) St) (hz : z ∈ fp) (sf : ∀ (A : Around) (i : Nat) (s : Shared) (Q : Value -> Shared -> Prop) (E : Value -> Shared -> Prop), St i s.heap -> Q (.ref z) s -> wpAny (model P w) A (pyIter (.ref z)) Q E s)
    (ob : ∀ i h, St i h -> ∀ b ∈ fp, ∃ o, h.get? b = some o /\ ∀ v, o.data ≠ .cell v) (r1 : ∀ i u, i < n -> P1 i u -> ∃ x, xs i = some x /\ RelV x u) (r2 : ∀ i u, i < n -> P2 i u -> ∃ x, ys i = some x /\ RelV x u) :
    Turn P w K tg (ItP xs ys n) fp z St where
  mem := hz
  obj := ob
  keep := fun i h h' st k => (W callerA rfl).frame i h h' st k
  item := by
    intro X hP hw hK hc i pins s σ H E I hf st hg
    subst hP hw hK
    have Wa := W X.A (I.ok.hd hc)
    refine Wa.goes i s _ E hg st fun v h' tk hY st' hk htk => ?_
    obtain ⟨T, u1, u2, rfl, hT, p1, p2, o, ho, hoc, m, hod⟩ := hY
    obtain ⟨x, hx, rx⟩ := r1 i u1 hg p1
    obtain ⟨y, hy, ry⟩ := r2 i u2 hg p2
    have new : ObjOk X.prog X.w (upd H T (.tup [x, y])) h' T (.tup [x, y]) := ⟨by show 2 <= sizeLine; decide, [u1, u2], .cons rx (.cons ry .nil), ⟨_, ho, hoc, _, hod⟩⟩
    have I1 : Inv X pins σ (upd H T (.tup [x, y])) { s with heap := h', toks := tk } :=
      I.turnedNew (t' := tk) (ch := fp) (fun b o hb q => hk b o (fun z => hb (Wa.sub b z)) q) hf hT new
    refine ⟨.ref T, _, I1, rfl, ⟨T, x, y, rfl, I.hok.fresh hT, rfl, hx, hy⟩, st', fun b hb => ?_⟩
    obtain ⟨ob1, hob, _⟩ := ob i s.heap st b hb
    rw [upd_ne (Nat.ne_of_lt (Nat.lt_of_lt_of_le (Heap.lt_size hob) hT))]
    exact (hf b hb).1
  done := by
    intro X hP hw hK hc i pins s σ H E I hf st hg
    subst hP hw hK
    have Wa := W X.A (I.ok.hd hc)
    have hg' : i = n := hg
    subst hg'
    exact Wa.stops s _ E st fun h' tk hk htk => I.turnedL (t' := tk) (ch := fp) (fun b o hb q => hk b o (fun z => hb (Wa.sub b z)) q) hf
  self := sf
def chS (z : Str) (i : Nat) : Option V := (z.cps.toList[i]?).map fun c => .str ⟨#[c]⟩
theorem nF' {z : Str} {i : Nat} {u : Value} (h : ∃ c t, z.cps[i]? = some c /\ u = .str ⟨#[c]⟩ t) : ∃ x, chS z i = some x /\ RelV x u := by
  obtain ⟨c, t, hc, rfl⟩ := h
  refine ⟨.str ⟨#[c]⟩, ?_, ⟨t, rfl⟩⟩
  unfold chS
  rw [show z.cps.toList[i]? = some c by rw [<- hc]; simp]
  rfl
def ue' (ta : TA) : TI := fun σ H R => ta σ H fun vs H1 => ∃ x y : Str, vs = [.str x, .str y] /\ R (ItP (chS x) (chS y) (min x.cps.size y.cps.size)) H1
theorem rc' {X : Cx} {e e2 : Expr} {ta : TA} {p pos tpos : Pos} {elts : List Expr} {kk} (hg : Gl X "zip") (hm : X.mg "zip" = none) (ha : PA X [e, e2] ta)
    (hs : starEach [e, e2] X.env = (false, eval e X.env) :: starEach [e2] X.env := by rfl) (hpl : (backTo pos (starEach [e2] X.env)).any (·.1) = false := by rfl) :
    PI X (.Tuple elts kk tpos) (.Call (.Name "zip" p) [e, e2] [] pos) (ue' ta) := by
  refine ⟨fun pins s σ H R I h => ?_⟩
  refine Call_ (ld_blt I hg hm PyProof.Rows.boot_zip (PyProof.Rows.callWith_type1 (thn (ha.run pos pins s σ H _ I h) fun us s1 ⟨vs, H1, I1, r1, q1⟩ => ?_) hs hpl))
  obtain ⟨x, y, ex, q⟩ := q1
  subst ex
  cases r1 with
  | cons r rr =>
    cases rr with
    | cons r' rr =>
      cases rr
      obtain ⟨t1, rfl⟩ := r
      obtain ⟨t2, rfl⟩ := r'
      refine zip_begins2 (begins_text x _) (begins_text y _) True.intro True.intro fun h' hz hTI hTO h1 h2 hsz hk => wpAny_pyIter_zip hz ?_
      have I2 : Inv X pins σ H1 { s1 with heap := h' } := I1.kept (t' := s1.toks) hk
      have S2 : ZipSep2 (s1.heap.objs.size + 4) (s1.heap.objs.size + 2) (s1.heap.objs.size + 3) s1.heap.objs.size (s1.heap.objs.size + 1) [s1.heap.objs.size] [s1.heap.objs.size + 1] := by
        constructor <;> simp
      refine ⟨s1.heap.objs.size + 4, (s1.heap.objs.size + 4) :: (s1.heap.objs.size + 2) :: (s1.heap.objs.size + 3) :: ([s1.heap.objs.size] ++ [s1.heap.objs.size + 1]), _, _, H1, rfl, I2,
        gt' (fun A hA => GoesN.zip2 S2 (Draws.text (A := A.in1) hA _ x _) (Draws.text (A := A.in1) hA _ y _)) (by simp) (fun A i s Q E st h => wpAny_pyIter_zip st.1 h) (fun i h st b hb => ?_) (fun i u _ hu => nF' hu) (fun i u _ hu => nF' hu), ⟨hz, hTI, ⟨_, _, hTO⟩, ⟨_, h1, rfl, rfl⟩, ⟨_, h2, rfl, rfl⟩⟩, fun c hcm => ?_, q⟩
      . obtain ⟨hz, hTI, ⟨a1, a2, hTO⟩, ⟨o1, e1, _, d1⟩, ⟨o2, e2, _, d2⟩⟩ := st
        have e' : b = s1.heap.objs.size + 4 \/ b = s1.heap.objs.size + 2 \/ b = s1.heap.objs.size + 3 \/ b = s1.heap.objs.size \/ b = s1.heap.objs.size + 1 := by simpa using hb
        rcases e' with z | z | z | z | z
        . rw [z]; exact ⟨_, hz, fun v q => nomatch q⟩
        . rw [z]; exact ⟨_, hTI, fun v q => nomatch q⟩
        . rw [z]; exact ⟨_, hTO, fun v q => nomatch q⟩
        . rw [z]; exact ⟨o1, e1, fun v q => by rw [d1] at q; cases q⟩
        . rw [z]; exact ⟨o2, e2, fun v q => by rw [d2] at q; cases q⟩
      . have e' : c = s1.heap.objs.size + 4 \/ c = s1.heap.objs.size + 2 \/ c = s1.heap.objs.size + 3 \/ c = s1.heap.objs.size \/ c = s1.heap.objs.size + 1 := by simpa using hcm
        have hle : s1.heap.objs.size <= c := by
          rcases e' with z | z | z | z | z
          . rw [z]; exact Nat.le_add_right _ _
          . rw [z]; exact Nat.le_add_right _ _
          . rw [z]; exact Nat.le_add_right _ _
          . rw [z]; exact Nat.le_refl _
          . rw [z]; exact Nat.le_add_right _ _
        exact I1.fpOk hle (I1.hok.fresh hle)
end S
namespace S
open PySem PySem.Spec PyProof.Rows L2
section
variable {X : Cx} {K : PySem.W.Frag} {to te : TE} {o e : Expr} {H : Hp} {Q : VK}
def mK' : V -> List V -> Hp -> VK -> Prop := fun x xs H Q => ∃ a b i rest, x = .str a /\ xs = [.str b] /\ Builtin.Str.occurrences a b 0 a.length 1 = i :: rest /\ Q (.int (i : Nat)) H
theorem gO' : MtR X "str.index" mK' := by
  intro pins s σ H x xs v us Q I rx rs h
  obtain ⟨a, b, i, rest, rfl, rfl, ho, h⟩ := h
  obtain ⟨t, rfl⟩ := rx
  cases rs with
  | cons r1 rs =>
    cases rs
    obtain ⟨u, rfl⟩ := r1
    exact PySem.call_gives F.slot_str_index (typeIs_str _ _ _) F.entry_str_index (F.args_str_index_2 _ _) (gives_str_index a b t u i rest ho) ⟨.int (i : Nat), H, I.tok (s.toks + 1), ⟨_, rfl⟩, h⟩
def tC' (K : PySem.W.Frag) : V -> List V -> Hp -> VK -> Prop := fun x xs H Q => ∃ a p, ∃ ys : List Str, x = .str a /\ xs = [.ref p] /\ (SqL K H p (ys.map V.str) \/ SqT K H p (ys.map V.str)) ∧
    (ys.map (·.length)).sum + ys.length * a.length <= 16777216 /\ Q (.str (Txt.join a ys)) H
def chv (c : Nat) : V := .str ⟨#[c]⟩
end
end S
namespace S
open PySem PySem.Spec PyProof.Rows L2
def ug' (ta : TA) : TI := fun σ H R => ta σ H fun vs H1 => ∃ x : Str, vs = [.str x] /\ R (ItP (fun i => some (.int (i : Nat))) (chS x) x.cps.size) H1
theorem oJ' {X : Cx} {e : Expr} {ta : TA} {p pos tpos : Pos} {elts : List Expr} {kk} (hg : Gl X "enumerate") (hm : X.mg "enumerate" = none) (ha : PA X [e] ta) (hs : starEach [e] X.env = [(false, eval e X.env)] := by rfl) :
    PI X (.Tuple elts kk tpos) (.Call (.Name "enumerate" p) [e] [] pos) (ug' ta) := by
  refine ⟨fun pins s σ H R I h => ?_⟩
  refine Call_ (ld_blt I hg hm boot_enumerate (PyProof.Rows.callWith_type1 (thn (ha.run pos pins s σ H _ I h) fun us s1 ⟨vs, H1, I1, r1, q1⟩ => ?_) hs rfl))
  obtain ⟨x, ex, q⟩ := q1
  subst ex
  cases r1 with
  | cons r rr =>
    cases rr
    obtain ⟨t, rfl⟩ := r
    refine call_enumerate_str fun h' he hit hsz hk => wpAny_pyIter_enum he ?_
    have I2 : Inv X pins σ H1 { s1 with heap := h' } := I1.kept (t' := s1.toks) hk
    refine ⟨s1.heap.objs.size + 1, [s1.heap.objs.size + 1, s1.heap.objs.size], fun i h => (∃ old, IsEnum h (s1.heap.objs.size + 1) s1.heap.objs.size ((0 : Int) + (i : Nat)) old) /\ h.IsStrIter s1.heap.objs.size (strIterType x) x t i, _, H1, rfl, I2,
      gt' (P1 := fun i u => ∃ t, u = .int ((0 : Int) + (i : Nat)) t) (P2 := fun i v => ∃ c u, x.cps[i]? = some c /\ v = .str ⟨#[c]⟩ u) (wr := [s1.heap.objs.size + 1, s1.heap.objs.size])
        (fun A hA => (GoesN.enumFrom 0 (Draws.text (A := A.in1) hA s1.heap.objs.size x t) (s1.heap.objs.size + 1) (Nat.succ_ne_self _) (by simp) (by simp)).mono fun i h₀ v h _ ⟨T, t, y, ev, hn, hy, hT⟩ => ⟨T, _, y, ev, hn, ⟨t, rfl⟩, hy, hT⟩)
        (by simp) (fun A i s Q E st h => let ⟨⟨_, he⟩, _⟩ := st; wpAny_pyIter_enum he h) (fun i h st b hb => ?_) (fun i u _ hu => ?_) (fun i u _ hu => nF' hu), ⟨⟨_, he⟩, hit⟩, fun c hcm => ?_, q⟩
    . obtain ⟨⟨old, he⟩, ⟨o1, e1, _, d1⟩⟩ := st
      have e' : b = s1.heap.objs.size + 1 \/ b = s1.heap.objs.size := by simpa using hb
      rcases e' with z | z
      . rw [z]; exact ⟨_, he, fun v q => nomatch q⟩
      . rw [z]; exact ⟨o1, e1, fun v q => by rw [d1] at q; cases q⟩
    . obtain ⟨t, rfl⟩ := hu
      exact ⟨_, rfl, ⟨t, by rw [Int.zero_add]⟩⟩
    . have e' : c = s1.heap.objs.size + 1 \/ c = s1.heap.objs.size := by simpa using hcm
      have hle : s1.heap.objs.size <= c := by
        rcases e' with z | z
        . rw [z]; exact Nat.le_add_right _ _
        . rw [z]; exact Nat.le_refl _
      exact I1.fpOk hle (I1.hok.fresh hle)
end S
namespace S
open PySem PySem.Spec PyProof.Rows L2
theorem dn' : ∀ (vs : List Value) (l : List Nat), vs.length = l.length -> (∀ (j : Nat) (v : Value), vs[j]? = some v -> ∃ c u, l[j]? = some c /\ v = .str ⟨#[c]⟩ u) -> StrsAre vs (l.map fun c => ⟨#[c]⟩)
  | [], [], _, _ => .nil
  | [], _ :: _, h, _ => by simp at h
  | _ :: _, [], h, _ => by simp at h
  | v :: vs, c :: l, h, hh => by
    obtain ⟨d, u, h1, rfl⟩ := hh 0 v rfl
    cases h1
    exact .cons _ _ (dn' vs l (by simpa using h) fun j w hw => by
      have := hh (j + 1) w (by simpa using hw)
      simpa using this)
theorem hI' {prog : Program} {w : World} {A : Around} {E : Value -> Shared -> Prop} {s : Shared} {x : Str} {t : Tok} {Q : Value -> Shared -> Prop} (hh : A.handled = none) (h64 : x.cps.size < 64)
    (h : ∀ (h' h'' : Heap) (tk : Nat) (out : List Value) (ss : List Str), (∀ b o, s.heap.get? b = some o -> h'.get? b = some o) -> (∀ b o, h'.get? b = some o -> h''.get? b = some o) -> (∃ e, h''.get? h'.objs.size = some (seqObj "list" out.toArray e)) →
      StrsAre out ss -> ss.Perm (x.cps.toList.map fun c => ⟨#[c]⟩) -> sortedS ss = true -> Q (.ref h'.objs.size) { s with heap := h'', toks := tk }) :
    wpAny (model prog w) A (call (.builtin "sorted") [.str x t]) Q E s := by
  refine Calls.call_function_entry kind_sorted plain_sorted entry_sorted (args_sorted1 _) ?_
  unfold Builtin.«sorted»
  refine wpAny_bind (m := checkCount "sorted" 1 1 _) (wpAny_pure ?_)
  refine wpAny_bind (m := collect (.str x t)) (wpAny_collect_str (A := A.in1) hh x t (fun s' acc hk hg hd ho hacc => ?_) (by rw [sizeLine_eq]; omega))
  obtain ⟨hp, g, d, tk, os⟩ := s
  obtain ⟨hp', g', d', tk', os'⟩ := s'
  obtain rfl : g' = g := hg
  obtain rfl : d' = d := hd
  obtain rfl : os' = os := ho
  have hS : StrsAre acc.toList (x.cps.toList.map fun c => ⟨#[c]⟩) := by
    refine dn' _ _ (by rw [Array.length_toList, Array.length_toList]; exact hacc.1) fun j v hv => ?_
    obtain ⟨c, u, h1, h2⟩ := hacc.2 j v (by simpa using hv)
    exact ⟨c, u, by rw [<- h1]; simp, h2⟩
  have hl : acc.toList.length < 64 := by rw [Array.length_toList, hacc.1]; exact h64
  refine wpAny_bind (wpAny_newList ?_)
  have hoL : (hp'.push (seqObj "list" acc.toList.toArray 0)).get? hp'.objs.size = some (seqObj "list" acc.toList.toArray 0) := Heap.get?_push_size _ rfl
  refine wpAny_bind (wpAny_holding (wpAny_call_entry slot_list_sort ⟨_, hoL, rfl⟩ entry_list_sort (list_sort_treeK strKind_oneLt hoL hS.keysOf (fun v₁ v₂ rest e => keyKind_strs (by rw [<- e]; exact hS)) hl fun st' a1 a2 => ⟨_, rfl, ?_⟩) (args_list_sort _)))
  obtain ⟨ss', h1, h2, h3⟩ := sorted_out_str hS a1 a2
  refine wpAny_pure ⟨_, rfl, h hp' _ tk' _ ss' hk (fun b o hb => ?_) ?_ h1 h2 h3⟩
  . have hlt := Heap.lt_size hb
    rw [sortedHeap_old (Nat.ne_of_lt hlt) (by rw [size_push']; exact Nat.lt_succ_of_lt hlt)]
    exact Heap.get?_push_of_some _ hb
  . obtain ⟨e, he⟩ := sortedHeap_at (out := (arrOf st').map (·.2)) hoL
    exact ⟨e, by rw [he]⟩
def gA' : List V -> Hp -> VK -> Prop := fun vs H Q => ∃ x : Str, vs = [V.str x] /\ x.length < 64 /\ ∀ (ys : List Str) (p : Addr) (H' : Hp), ys.Perm (x.cps.toList.map fun c => ⟨#[c]⟩) -> sortedS ys = true -> H p = none -> Same H H' -> H' p = some (.lst (ys.map V.str)) -> Q (.ref p) H'
theorem ix' {X : Cx} (hc : X.calm = true) : CallR X (.builtin "sorted") gA' := by
  intro pins s σ H vs us Q I r h
  obtain ⟨x, rfl, h64, q⟩ := h
  cases r with
  | cons r rr =>
    cases rr
    obtain ⟨t, rfl⟩ := r
    refine hI' (I.ok.hd hc) h64 fun h' h'' tk out ss hk hk2 ho h1 h2 h3 => ?_
    obtain ⟨e, he⟩ := ho
    have I1 : Inv X pins σ H { s with heap := h' } := I.kept (t' := s.toks) hk
    have hlen : (ss.map V.str).length <= sizeLine := by
      rw [List.length_map, h2.length_eq, List.length_map, Array.length_toList]
      exact small64 h64
    have I2 : Inv X pins σ (upd H h'.objs.size (.lst (ss.map V.str))) { s with heap := h'', toks := tk } :=
      I1.laid (t' := tk) (fun b u hb => hk2 b u hb) (Nat.le_refl _) ⟨hlen, out, e, vals_of_strs h1, he⟩
    have hn : H h'.objs.size = none := I1.hok.fresh (Nat.le_refl _)
    exact ⟨.ref _, _, I2, rfl, q ss _ _ h2 h3 hn (Same.upd hn) upd_same⟩
section
variable {K : PySem.W.Frag} {H : Hp} {Q : VK} {σ : St}
end
theorem oI' {X : Cx} {tg iter : Expr} {w1 w2 : TI} (h1 : PI X tg iter w1) (h2 : PI X tg iter w2) : PI X tg iter (fun σ H R => w1 σ H R \/ w2 σ H R) :=
  ⟨fun pins s σ H R I h => h.elim (h1.run pins s σ H R I) (h2.run pins s σ H R I)⟩
def ud' (K : PySem.W.Frag) (ta : TA) : TI := fun σ H R => ue' ta σ H R \/ RZ.iZipA K ta σ H R
theorem rb' {X : Cx} {e e2 : Expr} {ta : TA} {p pos tpos : Pos} {elts : List Expr} {kk} (hg : Gl X "zip") (hm : X.mg "zip" = none) (ha : PA X [e, e2] ta)
    (hs : starEach [e, e2] X.env = (false, eval e X.env) :: starEach [e2] X.env := by rfl) (hpl : (backTo pos (starEach [e2] X.env)).any (·.1) = false := by rfl) :
    PI X (.Tuple elts kk tpos) (.Call (.Name "zip" p) [e, e2] [] pos) (ud' X.K ta) := oI' (rc' hg hm ha hs hpl) (RZ.pi_zipA hg hm ha hs hpl)
end S
namespace S
open PySem PySem.Spec PyProof.Rows L2
section
variable {K : PySem.W.Frag} {σ : St} {H : Hp} {Q : VK} {te ta tv : TE} {f : Str} {v y : V} {a C dx : Addr} {fs : List (Str × V)} {D : Ends} {R : Hp -> Prop}
end
def wb' (C : Addr) (m : Str) (sp : Sp) (E : XK) (σ : St) (t : TA) : V -> Hp -> VK -> Prop := fun x H Q => ∃ a dx fs, x = .ref a /\ H a = some (.ins C dx fs) /\ fs.lookup m = none /\ t σ H fun vs H2 => sp (x :: vs) H2 Q E
def p8' (C : Addr) (sp : Sp) (E : St -> XK) (t : TA) : TE := fun σ H Q => t σ H fun vs H1 => ∀ x dx, H1 x = none -> H1 dx = none -> dx ≠ x -> sp (.ref x :: vs) (upd (upd H1 dx (.own x)) x (.ins C dx [])) (fun v H2 => v = .non /\ Q (.ref x) H2) (E σ)
section
variable {K : PySem.W.Frag} {σ : St} {H : Hp} {Q : VK} {ta : TE} {t : TA} {C a dx : Addr} {m : Str} {sp : Sp} {E : St -> XK} {E' : XK} {fs : List (Str × V)} {vs : List V}
end
section
variable {X : Cx} {k : Nat} {C : Addr} {x m : Str} {ps : List Str} {sp : Sp} {p pos apos : Pos} {e o : Expr} {es : List Expr} {ta : TE} {t : TA} {W : WX} {CX : CXT} {f : Addr} {fd : FuncData} {E : St -> XK}
end
end S
namespace S
open PySem PySem.Spec PyProof.Rows L2
def signs (x : Str) : List V := x.cps.toList.map fun c => V.str ⟨#[c]⟩
theorem eV' {x : Str} {acc : Array Value} (h : ItemsOf (SignAt x) acc x.cps.size) : Vals (signs x) acc.toList := by
  have hS : StrsAre acc.toList (x.cps.toList.map fun c => ⟨#[c]⟩) := by
    refine dn' _ _ (by rw [Array.length_toList, Array.length_toList]; exact h.1) fun j v hv => ?_
    obtain ⟨c, u, h1, h2⟩ := h.2 j v (by simpa using hv)
    exact ⟨c, u, by rw [<- h1]; simp, h2⟩
  have := vals_of_strs hS
  rw [List.map_map] at this
  exact this
def mJ' : List V -> Hp -> VK -> Prop := fun vs H Q => ∃ x : Str, vs = [V.str x] /\ x.length <= sizeLine /\ ∀ p, H p = none -> Q (.ref p) (upd H p (.lst (signs x)))
theorem iz' {X : Cx} (hc : X.calm = true) : CallR X (.type "list") mJ' := by
  intro pins s σ H vs us Q I r h
  obtain ⟨x, rfl, hl, q⟩ := h
  cases r with
  | cons r rr =>
    cases rr
    obtain ⟨t, rfl⟩ := r
    refine call_list_str (I.ok.hd hc) x t (fun h' tk acc c' hk ho hacc => ?_) hl
    have hlen : (signs x).length <= sizeLine := by
      unfold signs
      rw [List.length_map, Array.length_toList]
      exact hl
    have I2 : Inv X pins σ (upd H s.heap.objs.size (.lst (signs x))) { s with heap := h', toks := tk } :=
      I.laid (t' := tk) (fun b u hb => hk b u hb) (Nat.le_refl _) ⟨hlen, acc.toList, c', eV' hacc, by rw [ho]⟩
    exact ⟨.ref _, _, I2, rfl, q _ (I.hok.fresh (Nat.le_refl _))⟩
def qf' : List V -> Hp -> VK -> Prop := fun vs H Q => ∃ x : Str, vs = [V.str x] /\ x.length <= sizeLine /\ ∀ p, H p = none -> Q (.ref p) (upd H p (.tup (signs x)))
theorem kR' {X : Cx} (hc : X.calm = true) : CallR X (.type "tuple") qf' := by
  intro pins s σ H vs us Q I r h
  obtain ⟨x, rfl, hl, q⟩ := h
  cases r with
  | cons r rr =>
    cases rr
    obtain ⟨t, rfl⟩ := r
    refine call_tuple_str (I.ok.hd hc) x t (fun h' tk acc hk hacc => ?_) hl
    have hlen : (signs x).length <= sizeLine := by
      unfold signs
      rw [List.length_map, Array.length_toList]
      exact hl
    have I1 : Inv X pins σ H { s with heap := h' } := I.kept (t' := s.toks) hk
    have I2 : Inv X pins σ (upd H h'.objs.size (.tup (signs x))) { s with heap := h'.push { cls := .type "tuple", data := .seq acc }, toks := tk } :=
      I1.laid (t' := tk) (fun b u hb => Heap.get?_push_of_some _ hb) (Nat.le_refl _) ⟨hlen, acc.toList, eV' hacc, ⟨_, Heap.get?_push_size _ rfl, rfl, 0, by simp⟩⟩
    exact ⟨.ref _, _, I2, rfl, q _ (I1.hok.fresh (Nat.le_refl _))⟩
def mI' (K : PySem.W.Frag) : List V -> Hp -> VK -> Prop := fun vs H Q => qh' K vs H Q \/ mJ' vs H Q
theorem bI' {X : Cx} (hc : X.calm = true) : CallR X (.type "list") (mI' X.K) := kU'.or (iz' hc)
def fl' (K : PySem.W.Frag) : List V -> Hp -> VK -> Prop := fun vs H Q => mE' K vs H Q \/ qf' vs H Q
theorem cZ' {X : Cx} (hc : X.calm = true) : CallR X (.type "tuple") (fl' X.K) := iy'.or (kR' hc)
end S
namespace S
open PySem PySem.Spec PyProof.Rows L2
structure RoomG (k : Nat) (A : Around) : Prop where
  r : Room k A
  g : A.guards = some []
theorem RoomG.mono {j k : Nat} {A : Around} (h : RoomG k A) (l : j <= k) : RoomG j A := ⟨h.r.mono l, h.g⟩
theorem RoomG.units {k : Nat} {A : Around} (h : RoomG k A) : A.units + 64 < cLine := h.r.units
structure FnG (P : Program) (w : World) (K : PySem.W.Frag) (mg : Str -> Option Value) (base : Heap) (CX : CXT) (k : Nat) (f : Addr) (fd : FuncData) (ps : List Str) (sp : Sp) : Prop where
  len : ∀ vs H Q E, sp vs H Q E -> vs.length = ps.length
  run : ∀ (A : Around) (outer : List Env) (s : Shared) (H : Hp) (args : Args) (us : List Value) (vs : List V) (Q : VK) (E : XK), RoomG k A -> Env0 P w K mg base A outer s H →
    BindsTo s fd args (ps.zip us) -> Vals vs us -> sp vs H Q E -> codeAny (model P w) A (.call (.ref f) args) (CR CX outer P w H s Q E) s
theorem FnG.of {P : Program} {w : World} {K : PySem.W.Frag} {mg : Str -> Option Value} {base : Heap} {CX : CXT} {k : Nat} {f : Addr} {fd : FuncData} {ps : List Str} {sp : Sp} (F : FnOk P w K mg base CX k f fd ps sp) : FnG P w K mg base CX k f fd ps sp :=
  ⟨F.len, fun A o s H as us vs Q E h => F.run A o s H as us vs Q E h.r⟩
section
variable {P : Program} {w : World} {K : PySem.W.Frag} {mg : Str -> Option Value} {base : Heap} {CX : CXT} {f : Addr} {fd : FuncData}
theorem uh' {N ps : List Str} {scope : Scope} (S : FnScope N ps scope) (us : List Value) (n : Nat) : ∀ y ∈ ps.zip us,
    scope.names.lookup y.1 = some .local \/ (scope.names.lookup y.1 = some .cell /\ ((cellsFrom n scope.names []).lookup y.1).isSome = true) := by
  rintro ⟨nm, v⟩ hy
  have q := S.par nm (List.of_mem_zip hy).1
  exact q.imp id fun q => ⟨q, PySem.W.cellsFrom_some _ _ _ (.inl q)⟩
theorem rI' {x qual : Str} {params : Arguments} {body : List Stmt} {scope : Scope} {N ps : List Str} {k : Nat} {sp : Sp} (F : FunD K x qual params body scope [] [] f fd) (S : FnScope N ps scope)
    (len : ∀ vs H Q E, sp vs H Q E -> vs.length = ps.length)
    (hbody : ∀ (cdv oc : Value) (od : Option Addr) (osl : Array (Option Value)), K.lookup f = some ⟨oc, od, .func fd, osl⟩ -> fd.code = cdv -> PySem.W.codeIn K cdv qual = true -> ∀ (A : Around) (o : List Env) (s : Shared) (H : Hp) (vs : List V) (Q : VK) (E : XK), RoomG k (A.deeper (envOfC qual scope s.heap.objs.size f cdv)) -> sp vs H Q E →
      ∃ t, PSs (cxOf CX P w K mg base N qual scope f cdv A o s H E) body t /\ t { nx := fun _ H' => Q .non H', rt := Q } (start N vs) H) : FnG P w K mg base CX (k + 1) f fd ps sp := by
  obtain ⟨oc, od, dV, kV, doc, pm, an, cdv, ct, osl, rfl, lk, hcd, _, _⟩ := F.ex
  constructor
  . exact len
  intro A o s H args us vs Q E hg e0 hb r hsp
  have Ks : K.In s.heap := e0.mod.kin.keeps fun b u e => (e0.bs b u e).1
  have Ls : s.heap.NoLimit := e0.mod.nolimit.keeps fun b u e => (e0.bs b u e).1
  refine codeAny_call_function hg.r.depth (Ks _ _ lk) rfl S.co S.gen rfl (PySem.W.codeRec_of Ks hcd) (hb _ _ _ _ ?_)
  refine wpAny_newFunctionEnv_cells S.kind (uh' S us _) fun env he s1 z => ?_
  subst he
  refine ⟨Ls.keeps z.toInCall.keep, codeAny_func ?_⟩
  obtain ⟨t, pt, tq⟩ := hbody cdv oc od osl lk rfl hcd A o s H vs Q E ⟨hg.r.deeper _, hg.g⟩ hsp
  have J := inv_start (CX := CX) (E := E) S hg.r.hd e0 (len _ _ _ _ hsp) r z
  refine wpAny_mono (pt.run [] s1 (start N vs) H _ J tq) (fun fl s' q => ?_) fun _ _ q => q
  cases fl with
  | next =>
    obtain ⟨σ', H', I, q⟩ := q
    exact ⟨V.non, H', I.os, I.bare, I.base, I.hok, rfl, q⟩
  | ret u =>
    obtain ⟨v, σ', H', I, e, q⟩ := q
    exact ⟨v, H', I.os, I.bare, I.base, I.hok, e, q⟩
  | brk => exact (let ⟨_, _, _, z⟩ := q; z).elim
  | cont => exact (let ⟨_, _, _, z⟩ := q; z).elim
theorem qr' {X : Cx} {pins : List (Addr × Obj)} {σ : St} {H : Hp} {s s' : Shared} {Q : VK} {E : XK} (hx : PassesAt CX X σ E) (I : Inv X pins σ H s) : ∀ r : Result, CR CX X.stack X.prog X.w H s Q E r s' -> (match r with
    | .ok (.ret u) => EP X pins σ Q u s'
    | .ok _ => False
    | .error e => X.xe e s')
  | .error e, q => hx pins H s e s' I q
  | .ok (.ret u), q => I.after q
  | .ok .next, q => q
  | .ok .brk, q => q
  | .ok .cont, q => q
end
section
variable {X : Cx} {CX : CXT} {k : Nat} {f C : Addr} {fd : FuncData} {ps : List Str} {sp : Sp} {E : St -> XK} {x m : Str} {p pos apos : Pos} {e o : Expr} {es : List Expr} {ta : TE} {t : TA} {W : WX}
theorem hL' {pins : List (Addr × Obj)} {σ : St} {H : Hp} {s : Shared} {Q : VK} {us : List Value} {vs : List V} (F : FnG X.prog X.w X.K X.mg X.base CX k f fd ps sp) (hr : RoomG k X.A)
    (hb : Binds X.K fd ps []) (hx : PassesAt CX X σ (E σ)) (I : Inv X pins σ H s) (r : Vals vs us) (h : sp vs H Q (E σ)) : wpAny (model X.prog X.w) X.A (call (.ref f) us) (EP X pins σ Q) X.xe s := by
  have b := hb s us I.kIn (by rw [List.append_nil, <- r.length]; exact F.len _ _ _ _ h)
  rw [List.append_nil] at b
  refine wpAny_call (codeAny_mono (F.run X.A X.stack s H ⟨us, []⟩ us vs Q (E σ) hr I.env0 b r h) fun res s' q => ?_)
  have z := qr' hx I res q
  revert z
  cases res with
  | error e => exact id
  | ok fl => cases fl <;> exact id
def Og (P : Program) (w : World) (K : PySem.W.Frag) (mg : Str -> Option Value) (base : Heap) (k : Nat) (x : Str) (ps : List Str) (sp : Sp) : Prop :=
  ∃ fd, FnG P w K mg base (L2.CX P w) k (He.ga K x) fd ps sp /\ Binds K fd ps [] /\ PySem.W.keepIn K (.ref (He.ga K x)) = true /\ mg x = some (.ref (He.ga K x))
def OgM (P : Program) (w : World) (K : PySem.W.Frag) (mg : Str -> Option Value) (base : Heap) (k : Nat) (C : Addr) (m : Str) (ps : List Str) (sp : Sp) : Prop :=
  ∃ fd, FnG P w K mg base (L2.CX P w) k (He.ma K C m) fd ps sp /\ Binds K fd ps []
theorem oM' (F : Og X.prog X.w X.K X.mg X.base k x ps sp) (hr : RoomG k X.A) (hg : Gl X x) (tk : Takes X W) (ha : PA X (e :: es) t) (hdb : (x == ("__debug__" : Str)) = false := by decide)
    (he : starEach (e :: es) X.env = (false, eval e X.env) :: starEach es X.env := by rfl) (hpl : (backTo pos (starEach es X.env)).any (·.1) = false := by rfl) : PE X (.Call (.Name x p) (e :: es) [] pos) (tCallS sp (WE W) t) := by
  obtain ⟨fd, F, b, kp, hm⟩ := F
  refine ⟨fun pins s σ H Q I h => wpAny_Call_Name_kw (ld_glob I hg hm ?_ hdb)⟩
  refine PySem.W.callWith_K (h₀ := X.base) I.ok.mod.kin kp (thn (ha.run pos pins s σ H _ I h) fun us s1 ⟨vs, H1, I1, r, q⟩ => ?_) he hpl
  exact ⟨I1.kIn, hL' F hr b (passAt tk σ) I1 r q⟩
def sf' (K : PySem.W.Frag) (cs : List String) (m : Str) (g : Addr) : Prop := ∀ C ∈ cs, Cls K (He.ga K (Str.ofString C)) /\ Meth K (He.ga K (Str.ofString C)) m g
def p7' (K : PySem.W.Frag) (cs : List String) (m : Str) (sp : Sp) (E : St -> XK) (ta : TE) (t : TA) : TE := fun σ H Q => ta σ H fun x H1 => ∃ C, C ∈ cs /\ wb' (He.ga K (Str.ofString C)) m sp (E σ) σ t x H1 Q
theorem oK' {pl : Sem Bool} {cs : List String} (he : PE X o ta) (F : OgM X.prog X.w X.K X.mg X.base k C m ps sp) (hr : RoomG k X.A) (hm : sf' X.K cs m (He.ma X.K C m)) (tk : Takes X W) (ha : PA X (e :: es) t)
    (hst : starEach (e :: es) X.env = (false, eval e X.env) :: starEach es X.env := by rfl) (hpl : (backTo pos (starEach es X.env)).any (·.1) = false := by rfl)
    (ht : eval (.Call (.Attribute o m apos) (e :: es) [] pos) X.env = (eval o X.env >>= fun ov => standAt apos.atName >>= fun _ => holding [ov] (getMethod ov m pl) >>= fun q =>
      callWith pos q.1 q.2 (backTo pos (starEach (e :: es) X.env)) (backToKw pos (keywordEach [] X.env))) := by rfl) :
    PE X (.Call (.Attribute o m apos) (e :: es) [] pos) (p7' X.K cs m sp (WE W) ta t) := by
  obtain ⟨fd, F, hb⟩ := F
  refine ⟨fun pins s σ H Q I h => PySem.W.methodCall_KW (pl := pl) (thn (he.run pins s σ H _ I h) fun u s1 ⟨x, H1, I1, rx, D, hD, a, dx, fs, ex, ea, l, q⟩ => ?_) ht⟩
  obtain ⟨c, hm⟩ := hm D hD
  subst ex
  cases (show u = Value.ref a from rx)
  refine getmeth_ok I1 ea c hm l (PySem.W.callWith_K (first := [.ref a]) (h₀ := X.base) I.ok.mod.kin hm.kp (thn (ha.run pos pins s1 σ H1 _ I1 q) fun us s2 ⟨vs, H2, I2, r, q2⟩ => ?_) hst hpl)
  exact ⟨I2.kIn, hL' (us := .ref a :: us) (vs := .ref a :: vs) F hr hb (passAt tk σ) I2 (.cons rfl r) q2⟩
theorem kw' {A : Around} {C : Addr} {us : List Value} {kw : List (Str × Value)} (h : A.guards = some []) : (A.under (.builtin "type.__call__" ⟨.ref C :: us, kw⟩)).guards = some [] := by
  simp [Around.under, Code.guards, Code.isGuard, guardIds, pushGuards, h]
theorem oL' (F : OgM X.prog X.w X.K X.mg X.base k C "__init__" ps sp) (hr : RoomG (k + 1) X.A) (hg : Gl X x) (M : Mk X.K C (He.ma X.K C "__init__")) (hm : X.mg x = some (.ref C)) (tk : Takes X W)
    (ha : PA X (e :: es) t) (hdb : (x == ("__debug__" : Str)) = false := by decide) (he : starEach (e :: es) X.env = (false, eval e X.env) :: starEach es X.env := by rfl) (hpl : (backTo pos (starEach es X.env)).any (·.1) = false := by rfl) :
    PE X (.Call (.Name x p) (e :: es) [] pos) (p8' C sp (WE W) t) := by
  obtain ⟨fd, F, hb⟩ := F
  refine ⟨fun pins s σ H Q I h => wpAny_Call_Name_kw (ld_glob I hg hm ?_ hdb)⟩
  refine PySem.W.callWith_K (h₀ := X.base) I.ok.mod.kin M.kp (thn (ha.run pos pins s σ H _ I h) fun us s1 ⟨vs, H1, I1, r, q⟩ => ?_) he hpl
  have fr := fun n (l : s1.heap.objs.size <= n) => I1.hok.fresh l
  have q := q (s1.heap.objs.size + 1) s1.heap.objs.size (fr _ (Nat.le_succ _)) (fr _ (Nat.le_refl _)) (Nat.ne_of_lt (Nat.lt_succ_self _))
  have J := Inv.made (C := C) I1
  have b := hb (s := _) (us := Value.ref (s1.heap.objs.size + 1) :: us) J.kIn (by
    rw [List.append_nil, <- F.len _ _ _ _ q]
    simp [r.length])
  rw [List.append_nil] at b
  refine ⟨I1.kIn, wpAny_call (make_map (f := He.ma X.K C "__init__") I1.kIn M.makes M.init (beq_iff_eq.mp M.fn) (codeAny_mono (F.run _ X.stack _ _ ⟨Value.ref (s1.heap.objs.size + 1) :: us, []⟩ _ _ _ (WE W σ)
    (k := k) ⟨hr.r.make C _ [], kw' hr.g⟩ (J.env0.make C _ []) b (Paired.cons (show L2.RelV (.ref (s1.heap.objs.size + 1)) (.ref (s1.heap.objs.size + 1)) from rfl) r) q) fun res s' q' => ?_))⟩
  have z := qr' (passAt tk σ) J res q'
  revert z
  cases res with
  | error e => exact id
  | ok fl =>
    cases fl with
    | ret u =>
      rintro ⟨v, H', I3, rv, ev, q3⟩
      subst ev
      exact ⟨rv, ⟨V.ref (s1.heap.objs.size + 1), H', I3, rfl, q3⟩⟩
    | next => exact id
    | brk => exact id
    | cont => exact id
end
theorem kQ' {P : Program} {w : World} {CX : CXT} {H : Hp} {s s' : Shared} (hO : Only H) (ok : HOk P w H s.heap) (hCX : ∀ e s', CX [] H s (fun _ _ _ => False) e s' -> False) : ∀ res : Result,
    CR CX [] P w H s (fun v _ => v = .bl true) (fun _ _ _ => False) res s' -> res = .ok (.ret (.bool true)) /\ OldK s.heap s'.heap /\ s'.os = s.os /\ AllBare s'.gens
  | .error e, q => (hCX e s' q).elim
  | .ok .next, q => False.elim q
  | .ok .brk, q => False.elim q
  | .ok .cont, q => False.elim q
  | .ok (.ret u), ⟨v, H', os, bare, un, ok', rv, q⟩ => by
    have q : v = .bl true := q
    rw [q] at rv
    cases (show u = Value.bool true from rv)
    refine ⟨rfl, OldK.of_keep fun b o e => ?_, os, bare⟩
    rcases hO b with z | ⟨ob, xs, z⟩
    . exact un.keep b o e z (List.not_mem_nil) (List.not_mem_nil)
    . have e1 := (ok b _ z).1
      have e2 := (ok' b _ (un.frzs b ob _ z)).1
      rw [e] at e1
      cases e1
      exact e2
theorem gR' {P : Program} {w : World} {K : PySem.W.Frag} {mg mb : Str -> Option Value} {CX : CXT} {k : Nat} {fa a : Addr} {fd : FuncData} {x : Str} {sp : Sp} {s : Shared} {vs : List Value} {n0 : Nat} {H : Hp}
    (KX : K.In s.heap) (n1 : s.heap.Ns mainGlobals mg) (n2 : s.heap.Ns builtinsNs mb) (n3 : ∀ x : Str, x ≠ "__name__" -> mb x = bootBuiltins x) (lim : s.heap.NoLimit) (hg : s.gens = #[])
    (ha : s.heap.get? a = some { cls := .type "list", data := .seq vs.toArray n0 }) (hr : Room k callerA) (F : ∀ base : Heap, K.In base -> base.Ns mainGlobals mg -> FnG P w K mg base CX k fa fd [x] sp)
    (hbind : ∀ (s : Shared) (u : Value), BindsTo s fd ⟨[u], []⟩ [(x, u)]) (hO : Only H) (hs : sp [.ref a] H (fun v _ => v = .bl true) fun _ _ _ => False) (hCX : ∀ e s', CX [] H s (fun _ _ _ => False) e s' -> False)
    (ok : HOk P w H s.heap) (one : ∀ b u, H b = some u -> b = a) (out : H a ≠ none -> K.lookup a = none) :
    codeAny (model P w) callerA (.call (.ref fa) ⟨[.ref a], []⟩) (fun r s' => r = .ok (.ret (.bool true)) /\ OldK s.heap s'.heap /\ s'.os = s.os /\ AllBare s'.gens) s := by
  -- an object that is no list of the script stands in the base
  have apart : ∀ {b : Addr} {o : Obj}, s.heap.get? b = some o -> (∀ l n, o.data ≠ .seq l n) -> H b = none := by
    intro b o e d
    cases q : H b with
    | none => rfl
    | some u =>
      have e' := one b u q
      rw [e', ha] at e
      cases e
      exact absurd rfl (d _ _)
  have keep : ∀ {b : Addr} {m : Str -> Option Value}, s.heap.Ns b m -> (hidT s.heap H).Ns b m := by
    rintro b m ⟨o, es, ep, e, d, r⟩
    exact ⟨o, es, ep, hidT_get e (apart e fun l n z => by rw [d] at z; cases z), d, r⟩
  have Kb : K.In (hidT s.heap H) := by
    intro b o e
    refine hidT_get (KX b o e) ?_
    cases q : H b with
    | none => rfl
    | some u =>
      have e' := one b u q
      subst e'
      rw [out (by rw [q]; exact fun z => nomatch z)] at e
      cases e
  have M : Mod K mg (hidT s.heap H) := { kin := Kb, glob := keep n1, blt := ⟨mb, keep n2, n3⟩, nolimit := (let ⟨m, q1, q2⟩ := lim; ⟨m, keep q1, q2⟩) }
  have e0 : Env0 P w K mg (hidT s.heap H) callerA [] s H := { frames := rfl, mod := M, bs := (fun b o e => of_hidT e), bsz := Nat.le_of_eq (hidT_size _ _), funs := trivial, frf := (fun b z => absurd z List.not_mem_nil), hok := ok, bare := .of_eq hg }
  exact codeAny_mono ((F _ Kb (keep n1)).run callerA [] s H ⟨[.ref a], []⟩ [.ref a] [.ref a] _ _ ⟨hr, rfl⟩ e0 (hbind s (.ref a)) (.cons rfl .nil) hs) fun r s' q => kQ' hO ok hCX r q
theorem nl' {P : Program} {w : World} {K : PySem.W.Frag} {mg mb : Str -> Option Value} {CX : CXT} {k : Nat} {fa a : Addr} {fd : FuncData} {x : Str} {sp : Sp} {s : Shared} {vs : List Value} {ns : List Int}
    (KX : K.In s.heap) (n1 : s.heap.Ns mainGlobals mg) (n2 : s.heap.Ns builtinsNs mb) (n3 : ∀ x : Str, x ≠ "__name__" -> mb x = bootBuiltins x) (lim : s.heap.NoLimit) (hg : s.gens = #[])
    (ha : s.heap.get? a = some { cls := .type "list", data := .seq vs.toArray }) (hi : IntsAre vs ns) (hl : ns.length <= sizeLine) (hr : Room k callerA)
    (F : ∀ base : Heap, K.In base -> base.Ns mainGlobals mg -> FnG P w K mg base CX k fa fd [x] sp) (hbind : ∀ (s : Shared) (u : Value), BindsTo s fd ⟨[u], []⟩ [(x, u)])
    (hsp : ∀ H : Hp, Only H -> SqL K H a (ns.map V.int) -> sp [.ref a] H (fun v _ => v = .bl true) fun _ _ _ => False) (hCX : ∀ H e s', CX [] H s (fun _ _ _ => False) e s' -> False) :
    codeAny (model P w) callerA (.call (.ref fa) ⟨[.ref a], []⟩) (fun r s' => r = .ok (.ret (.bool true)) /\ OldK s.heap s'.heap /\ s'.os = s.os /\ AllBare s'.gens) s := by
  have rv := vals_ints hi
  have zl : (vs.toArray).size <= sizeLine := by rw [List.size_toArray, hi.length]; exact hl
  rcases hk : K.lookup a with _ | o
  . -- the script alone is tracked
    let H : Hp := fun b => if b = a then some (.frz { cls := .type "list", data := .seq vs.toArray } (.lst (ns.map V.int))) else none
    have Ha : H a = some (.frz { cls := .type "list", data := .seq vs.toArray } (.lst (ns.map V.int))) := if_pos rfl
    have Hb : ∀ b u, H b = some u -> b = a := fun b u z => Classical.byContradiction fun nb => by rw [show H b = none from if_neg nb] at z; cases z
    have hO : Only H := fun b => (Decidable.em (b = a)).elim (fun e => .inr ⟨_, _, if_pos e⟩) fun e => .inl (if_neg e)
    refine gR' KX n1 n2 n3 lim hg ha hr F hbind hO (hsp H hO (.inl (.inr ⟨_, Ha⟩))) (hCX H) (fun b u z => ?_) Hb fun _ => hk
    have eb := Hb b u z
    subst eb
    rw [Ha] at z
    cases z
    exact ⟨ha, by rw [List.length_map]; exact hl, vs, _, rv, ha⟩
  . -- it is one of the module's own
    have e := KX a o hk
    rw [ha] at e
    cases e
    let H : Hp := fun _ => none
    have hO : Only H := fun _ => .inl rfl
    refine gR' KX n1 n2 n3 lim hg ha hr F hbind hO (hsp H hO (.inr ⟨_, vs.toArray, _, hk, rfl, rfl, rfl, zl, rv⟩)) (hCX H) (fun b u z => nomatch z) (fun b u z => nomatch z) fun z => absurd rfl z
theorem n2' {l : PySem.W.OpenLaw} {n k : Nat} {q : Program} {loose : List Str} {XP : (Str -> Option Value) -> Heap -> Prop} {YP : World -> Heap -> Prop} {d : DefRec} {CX : CXT} {x : Str}
    (hn : l.most = some n) (hn2 : n <= sizeLine) (hdf : d.params.defaults = []) (hr : Room k callerA)
    (F : ∀ (w : World) (mg : Str -> Option Value) (fa : Addr) (h : Heap), YP w h -> h.Ns mainGlobals mg -> mg d.name = some (.ref fa) -> ∃ (K : PySem.W.Frag) (fd : FuncData) (sp : Sp), K.In h ∧
      (∀ (s : Shared) (u : Value), BindsTo s fd ⟨[u], []⟩ [(x, u)]) /\ (∀ (H : Hp) (a : Addr) (ns : List Int), ns.length <= n -> Only H -> SqL K H a (ns.map V.int) -> sp [.ref a] H (fun v _ => v = .bl true) fun _ _ _ => False) ∧
        ∀ base : Heap, K.In base -> base.Ns mainGlobals mg -> FnG l.prog w K mg base CX k fa fd [x] sp)
    (hCX : ∀ (H : Hp) (s : Shared) (e : Value) (s' : Shared), CX [] H s (fun _ _ _ => False) e s' -> False) : PySem.W.WalkO q loose XP YP l.row.toRowW d [] (fun f vs => PySem.call f vs) :=
  Att.attach_call hn hdf fun w s₀ s₁ mg mb fa o pm cd doc a vs ns G Y ho hd hcd hmg hobj hints hlen hg => by
    obtain ⟨K, fd, sp, KX, hb, hsp, hF⟩ := F w mg fa _ Y G.T.g hmg
    exact nl' KX G.T.g G.T.b G.T.builtins G.T.nolimit hg hobj hints (Nat.le_trans hlen hn2) hr hF hb (fun H hO hS => hsp H a ns hlen hO hS) fun H e s' => hCX H s₁ e s'
theorem FnG.to0 {P : Program} {w : World} {K : PySem.W.Frag} {mg : Str -> Option Value} {base : Heap} {k : Nat} {f : Addr} {fd : FuncData} {ps : List Str} {sp : Sp} (F : FnG P w K mg base (L2.CX P w) k f fd ps sp) :
    FnG P w K mg base CX0 k f fd ps (fun vs H Q _ => sp vs H Q E0) := by
  refine ⟨fun vs H Q _ h => F.len vs H Q E0 h, fun A o s H args us vs Q _ hr he hb hv hs => codeAny_mono (F.run A o s H args us vs Q E0 hr he hb hv hs) fun r s' q => ?_⟩
  rcases r with e | fl
  . obtain ⟨_, _, _, _, _, _, _, _, _, _, _, _, z⟩ := q
    exact z.elim
  . cases fl <;> exact q
end S
namespace S
open PySem PySem.Spec PyProof.Rows L2
def sx (s : M.Tx) : Str := ⟨s.toArray⟩
theorem cn' (s : M.Tx) : (sx s).cps.toList = s := rfl
theorem bE' (s : M.Tx) : (sx s).length = s.length := by show s.toArray.size = _; simp
theorem s5' {a b : M.Tx} (h : sx a = sx b) : a = b := by have := congrArg (fun z : Str => z.cps.toList) h; exact this
theorem s7' (a b : M.Tx) : sx a ++ sx b = sx (a ++ b) := fh' (by rw [pB', cn', cn', cn'])
def okT (s : M.Tx) : Prop := (∀ c ∈ s, c < 1114112) /\ s.length <= M.cM'
def okK : Key -> Prop
  | .inl _ => True
  | .inr x => okT x.cps.toList
def ku' (kvs : List (Key × V)) : Prop := ∀ p ∈ kvs, okK p.1
theorem ku'.nil : ku' [] := fun _ h => nomatch h
theorem ku'.snoc {kvs : List (Key × V)} (h : ku' kvs) {k : Key} {v : V} (hk : okK k) : ku' (kvs ++ [(k, v)]) := fun p hp => by
  rcases List.mem_append.mp hp with hp | hp
  . exact h p hp
  . rw [List.mem_singleton.mp hp]; exact hk
theorem ku'.fst {kvs kvs' : List (Key × V)} (h : ku' kvs) (e : kvs'.map (·.1) = kvs.map (·.1)) : ku' kvs' := fun p hp => by
  have : p.1 ∈ kvs.map (·.1) := by rw [<- e]; exact List.mem_map_of_mem hp
  obtain ⟨q, h1, h2⟩ := List.mem_map.mp this
  rw [<- h2]; exact h q h1
def kD : Key -> M.D
  | .inl i => .int i
  | .inr x => .str x.cps.toList
mutual
def py : M.D -> PyData
  | .bl b => .bool b
  | .int i => .int i
  | .str s => .str (sx s)
  | .tup ds => .tuple (pys ds)
  | .lst ds => .list (pys ds)
  | .dct ks ds => .dict ((pys ks).zip (pys ds))
  | _ => .none
def pys : List M.D -> List PyData
  | [] => []
  | d :: r => py d :: pys r
end
class Wd where
  P : Program
  w : World
  ts : List (Addr × Str)
structure CloD where
  f : Addr
  c : Addr
  q : Str
  ob : Obj
  ws : List V
  caps : List M.D
class Hot where
  hot : Option (Addr × Nat × Option Addr × M.Exc)
  clo : List (Nat × CloD)
abbrev nM' (cs : List (Nat × CloD)) : Hot := ⟨none, cs⟩
instance coldI : Hot := ⟨none, []⟩
def FnO (f : Addr) (ob : Obj) : HO := .ext fun h => h.get? f = some ob
variable [Wd]
mutual
def nk : M.D -> NestedKey
  | .bl b => .num (if b = true then 1 else 0)
  | .int i => .num i
  | .str s => .text (sx s)
  | .tup ds => .tup (nks ds)
  | _ => .none
def nks : List M.D -> List NestedKey
  | [] => []
  | d :: r => nk d :: nks r
end
def lfD : M.D -> Leaf
  | .bl b => .num (if b = true then 1 else 0)
  | .int i => .num i
  | .str s => .text (sx s)
  | _ => .none
def dcL (p : Addr) (kvs : List (Leaf × V)) : HO := .ext fun h => (p == sysModules) = false /\ kvs.length <= sizeLine /\ ∃ vs, KV kvs vs /\ h.DictOf (leafKind Wd.P Wd.w) p vs
abbrev yo' : NestedKey × Addr × V -> NestedKey × Addr × Value -> Prop := fun x y => x.1 = y.1 /\ x.2.1 = y.2.1 /\ RelV x.2.2 y.2.2
def dcN (p : Addr) (xs : List (NestedKey × Addr × V)) : HO := .ext fun h => (p == sysModules) = false /\ xs.length <= sizeLine /\ (xs.map (·.1)).Nodup /\ ∃ ys, Paired yo' xs ys ∧
  ∃ o es ep, h.get? p = some o /\ o.ExactDict /\ o.data = .dict es ep /\ es.toList = ys.map (entryOfKey (nestedKind Wd.P Wd.w))
structure LeafKeys (ks : List M.D) (ls : List Leaf) : Prop where
  e : ls = ks.map lfD
  s : ∀ d ∈ ks, M.sca d = true
structure NestKeys (ks : List M.D) (xs : List (NestedKey × Addr × V)) : Prop where
  e : xs.map (·.1) = ks.map nk
  s : ∀ d ∈ ks, M.kat d = true /\ M.dep d <= 8 /\ M.sca d = false
section
variable (K : PySem.W.Frag)
mutual
/-- v stands for d: what it stands on lies in F and never changes; T: where the world's objects stand -/
inductive Fz (F : Hp) (T : List Addr) : V -> M.D -> Prop
  | non : Fz F T .non .non
  | bl (b : Bool) : Fz F T (.bl b) (.bl b)
  | int (i : Int) : Fz F T (.int i) (.int i)
  | str {s : M.Tx} : okT s -> Fz F T (.str (sx s)) (.str s)
  | tup {a : Addr} {vs : List V} {ds : List M.D} : SqT K F a vs -> FzA F T vs ds -> Fz F T (.ref a) (.tup ds)
  | lst {a : Addr} {vs : List V} {ds : List M.D} : F a = some (.lst vs) -> FzA F T vs ds -> Fz F T (.ref a) (.lst ds)
  | dct {a : Addr} {kvs : List (Key × V)} {ds : List M.D} : Rd F a (.dK kvs) -> ku' kvs -> FzA F T (kvs.map (·.2)) ds -> Fz F T (.ref a) (.dct (kvs.map fun p => kD p.1) ds)
  | dcl {a : Addr} {kvs : List (Leaf × V)} {ks ds : List M.D} : Rd F a (dcL a kvs) -> LeafKeys ks (kvs.map (·.1)) -> FzA F T (kvs.map (·.2)) ds -> Fz F T (.ref a) (.dcx ks ds)
  | dcn {a : Addr} {xs : List (NestedKey × Addr × V)} {ks ds : List M.D} : Rd F a (dcN a xs) -> NestKeys ks xs -> FzA F T (xs.map fun x => .ref x.2.1) ks -> FzA F T (xs.map (·.2.2)) ds -> Fz F T (.ref a) (.dcx ks ds)
  | rep (d : M.D) : Fz F T (.str (py d).shown) (.rep d)
  | obj {n : Nat} {a : Addr} : T[n]? = some a -> Fz F T (.ref a) (.obj n)
  | ty (n : String) : Fz F T (.ty n) (.ty n)
  | fn (x : String) : Fz F T (.ref (He.ga K x)) (.fn x)
  | scr {a : Addr} {vs : List V} {ds : List M.D} : SqL K F a vs -> FzA F T vs ds -> Fz F T (.ref a) (.scr ds)
inductive FzA (F : Hp) (T : List Addr) : List V -> List M.D -> Prop
  | nil : FzA F T [] []
  | cons {v : V} {vs : List V} {d : M.D} {ds : List M.D} : Fz F T v d -> FzA F T vs ds -> FzA F T (v :: vs) (d :: ds)
end
abbrev Fp := List (Addr × HO)
mutual
/-- v stands for o, alone; fp: what it stands on and may change -/
inductive Rp (F : Hp) (T : List Addr) : V -> M.O -> Fp -> Prop
  | fz {v : V} {d : M.D} : Fz K F T v d -> Rp F T v (.fz d) []
  | lst {p : Addr} {vs : List V} {os : List M.O} {fp : Fp} : RpA F T vs os fp -> Rp F T (.ref p) (.lst os) ((p, .lst vs) :: fp)
  | tup {p : Addr} {vs : List V} {os : List M.O} {fp : Fp} : RpA F T vs os fp -> Rp F T (.ref p) (.tup os) ((p, .tup vs) :: fp)
  | dct {p : Addr} {kvs : List (Key × V)} {os : List M.O} {fp : Fp} : ku' kvs -> RpA F T (kvs.map (·.2)) os fp -> Rp F T (.ref p) (.dct (kvs.map fun q => kD q.1) os) ((p, .dK kvs) :: fp)
  | dcl {p : Addr} {kvs : List (Leaf × V)} {ks : List M.D} {os : List M.O} {fp : Fp} : LeafKeys ks (kvs.map (·.1)) -> RpA F T (kvs.map (·.2)) os fp -> Rp F T (.ref p) (.dcx ks os) ((p, dcL p kvs) :: fp)
  | dcn {p : Addr} {xs : List (NestedKey × Addr × V)} {ks : List M.D} {os : List M.O} {fp : Fp} : NestKeys ks xs -> FzA K F T (xs.map fun x => .ref x.2.1) ks -> RpA F T (xs.map (·.2.2)) os fp -> Rp F T (.ref p) (.dcx ks os) ((p, dcN p xs) :: fp)
inductive RpA (F : Hp) (T : List Addr) : List V -> List M.O -> Fp -> Prop
  | nil : RpA F T [] [] []
  | cons {v : V} {vs : List V} {o : M.O} {os : List M.O} {fp fq : Fp} : Rp F T v o fp -> RpA F T vs os fq -> RpA F T (v :: vs) (o :: os) (fp ++ fq)
end
def XcR (F : Hp) (T : List Addr) (x : M.Exc) (cls : Value) (dd : Option Addr) : Prop :=
  cls = .ref (He.ga K x.cls) /\ ((x.fs = [] /\ dd = none) \/ ∃ (a : Addr) (f : String) (v : V) (d : M.D), x.fs = [(f, d)] /\ dd = some a /\ F a = some (.xd [(Str.ofString f, v)]) /\ Fz K F T v d)
structure CloAt (F : Hp) (T : List Addr) (c : CloD) : Prop where
  fn : Rd F c.f (FnO c.f c.ob)
  code : Rd F c.c (LamX.CodeO c.c c.q)
  caps : FzA K F T c.ws c.caps
variable [Hot]
inductive RpE (F : Hp) (T : List Addr) : St -> List (Option M.O) -> Fp -> Prop
  | nil : RpE F T [] [] []
  | off {x : Option V} {σ : St} {env : List (Option M.O)} {fp : Fp} : RpE F T σ env fp -> RpE F T (x :: σ) (none :: env) fp
  | on {v : V} {o : M.O} {σ : St} {env : List (Option M.O)} {fp fq : Fp} : Rp K F T v o fp -> RpE F T σ env fq -> RpE F T (some v :: σ) (some o :: env) (fp ++ fq)
  | hot {a : Addr} {dd : Option Addr} {x : M.Exc} {σ : St} {env : List (Option M.O)} {fp : Fp} : Hot.hot = some (a, env.length, dd, x) -> XcR K F T x (.ref (He.ga K x.cls)) dd -> RpE F T σ env fp -> RpE F T (some (.ref a) :: σ) (some .exn :: env) fp
  | clo {c : CloD} {σ : St} {env : List (Option M.O)} {fp : Fp} : Hot.clo.lookup env.length = some c -> CloAt K F T c -> RpE F T σ env fp -> RpE F T (some (.ref c.f) :: σ) (some .clo :: env) fp
inductive RpOb (F : Hp) (T : List Addr) : Addr -> M.Ob -> Fp -> Prop
  | lst {a : Addr} {vs : List V} {os : List M.O} {fp : Fp} : RpA K F T vs os fp -> RpOb F T a (.lst os) ((a, .lst vs) :: fp)
  | dct {a : Addr} {kvs : List (Key × V)} {os : List M.O} {fp : Fp} : ku' kvs -> RpA K F T (kvs.map (·.2)) os fp -> RpOb F T a (.dct (kvs.map fun q => kD q.1) os) ((a, .dK kvs) :: fp)
  | dcl {a : Addr} {kvs : List (Leaf × V)} {ks : List M.D} {os : List M.O} {fp : Fp} : LeafKeys ks (kvs.map (·.1)) -> RpA K F T (kvs.map (·.2)) os fp -> RpOb F T a (.dcx ks os) ((a, dcL a kvs) :: fp)
  | dcn {a : Addr} {xs : List (NestedKey × Addr × V)} {ks : List M.D} {os : List M.O} {fp : Fp} : NestKeys ks xs -> FzA K F T (xs.map fun x => .ref x.2.1) ks -> RpA K F T (xs.map (·.2.2)) os fp -> RpOb F T a (.dcx ks os) ((a, dcN a xs) :: fp)
  | ins {a dx : Addr} {C : String} {fs : List (String × V)} {os : List M.O} {fp : Fp} : F dx = some (.own a) -> RpA K F T (fs.map (·.2)) os fp →
      RpOb F T a (.ins C ((fs.map (·.1)).zip os)) ((a, .ins (He.ga K C) dx (fs.map fun q => (Str.ofString q.1, q.2))) :: fp)
inductive RpW (F : Hp) (T : List Addr) : List Addr -> M.W -> Fp -> Prop
  | nil : RpW F T [] [] []
  | cons {a : Addr} {l : List Addr} {ob : M.Ob} {w : M.W} {fp fq : Fp} : RpOb K F T a ob fp -> RpW F T l w fq -> RpW F T (a :: l) (ob :: w) (fp ++ fq)
structure Kept (F H : Hp) (fp : Fp) (F' H' : Hp) (fp' : Fp) : Prop where
  un : ∀ a, F a = none -> H a ≠ none -> (∀ e ∈ fp, e.1 ≠ a) -> F' a = none /\ H' a = H a /\ ∀ e ∈ fp', e.1 ≠ a
  cd : ∀ c q, Rd F c (LamX.CodeO c q) -> Rd F' c (LamX.CodeO c q)
structure TbAt (F H : Hp) (fp : Fp) (P : Addr) (q : Str) : Prop where
  f : F P = none
  n : ∀ e ∈ fp, e.1 ≠ P
  t : ∃ ps : Array Value, H P = some (.tbl ps) /\ TriplesOk ps.toList /\ ∀ (pos : Pos) (cv : Value), codeAmong pos ps.toList = some cv -> ∃ c, cv = .ref c /\ Rd F c (LamX.CodeO c q)
theorem TbAt.kept {F H F' H' : Hp} {fp fp' : Fp} {P : Addr} {q : Str} (h : TbAt F H fp P q) (k : Kept F H fp F' H' fp') : TbAt F' H' fp' P q := by
  obtain ⟨ps, h1, h2, h3⟩ := h.t
  obtain ⟨k1, k2, k3⟩ := k.un P h.f (by rw [h1]; simp) h.n
  refine ⟨k1, k3, ps, by rw [k2]; exact h1, h2, fun pos cv hc => ?_⟩
  obtain ⟨c, e1, e2⟩ := h3 pos cv hc
  exact ⟨c, e1, k.cd c q e2⟩
structure FpH (F H : Hp) (fp : Fp) : Prop where
  low : Same F H
  at_ : ∀ e ∈ fp, H e.1 = some e.2 /\ F e.1 = none
  nd : (fp.map (·.1)).Nodup
  tb : ∀ p ∈ Wd.ts, TbAt F H fp p.1 p.2
theorem FpH.tbs {F H F' H' : Hp} {fp fp' : Fp} (f : FpH F H fp) (un : ∀ a, F a = none -> H a ≠ none -> (∀ e ∈ fp, e.1 ≠ a) -> F' a = none /\ H' a = H a /\ ∀ e ∈ fp', e.1 ≠ a)
    (cd : ∀ c q, Rd F c (LamX.CodeO c q) -> Rd F' c (LamX.CodeO c q) := by exact fun _ _ h => h) : ∀ p ∈ Wd.ts, TbAt F' H' fp' p.1 p.2 := fun p hp => (f.tb p hp).kept ⟨un, cd⟩
theorem hQ' {F F' : Hp} (s : Same F F') {c : Addr} {o : HO} (h : Rd F c o) : Rd F' c o := by
  rcases h with h | ⟨od, h⟩
  . exact .inl (s _ _ h)
  . exact .inr ⟨od, s _ _ h⟩
def Rel (ρ : M.PSt) (σ : St) (H F : Hp) (T : List Addr) (fr : Fp) : Prop := ∃ fe fw, RpE K F T σ ρ.env fe /\ RpW K F T T ρ.w fw /\ FpH F H (fe ++ (fw ++ fr))
abbrev n0' (w : M.W) (H F : Hp) (T : List Addr) (fr : Fp) : Prop := @Rel _ K coldI ⟨[], w⟩ [] H F T fr
theorem tU' {K : PySem.W.Frag} {F : Hp} {T : List Addr} : @RpE _ K coldI F T [] [] [] := @RpE.nil _ K coldI F T
def Lkb (o : HO) : Prop := (∃ kvs, o = .dK kvs) \/ ∃ φ, o = .ext φ
def Wk (F F' : Hp) : Prop := ∀ a o, F a = some o -> F' a = some o \/ Lkb o /\ ∃ od, F' a = some (.frz od o)
theorem Wk.of {F F' : Hp} (s : Same F F') : Wk F F' := fun a o h => .inl (s a o h)
theorem Wk.trans {F F' F2 : Hp} (s : Wk F F') (r : Wk F' F2) : Wk F F2 := fun a o h => by
  rcases s a o h with h1 | ⟨hl, od, h1⟩
  . exact r a o h1
  . rcases r a _ h1 with h2 | ⟨⟨_, e⟩ | ⟨_, e⟩, _⟩
    . exact .inr ⟨hl, od, h2⟩
    . cases e
    . cases e
theorem Wk.at_ {F F' : Hp} (s : Wk F F') {a : Addr} {o : HO} (h : F a = some o) (n : ∀ kvs, o ≠ .dK kvs) (n2 : ∀ φ, o ≠ .ext φ := by intro _ e; cases e) : F' a = some o := by
  rcases s a o h with h | ⟨⟨kvs, rfl⟩ | ⟨φ, rfl⟩, od, _⟩
  . exact h
  . exact absurd rfl (n kvs)
  . exact absurd rfl (n2 φ)
theorem Wk.rd {F F' : Hp} (s : Wk F F') {a : Addr} {u : HO} (hl : Lkb u) (h : Rd F a u) : Rd F' a u := by
  rcases h with h | ⟨o, h⟩
  . rcases s _ _ h with h | ⟨_, od, h⟩
    . exact .inl h
    . exact .inr ⟨od, h⟩
  . exact .inr ⟨o, s.at_ h fun _ e => nomatch e⟩
theorem Wk.lst {F F' : Hp} (s : Wk F F') {a : Addr} {vs : List V} (h : F a = some (.lst vs)) : F' a = some (.lst vs) := s.at_ h fun _ e => nomatch e
theorem Wk.dict {F F' : Hp} (s : Wk F F') {a : Addr} {kvs : List (Key × V)} (h : Rd F a (.dK kvs)) : Rd F' a (.dK kvs) := by
  exact s.rd (.inl ⟨_, rfl⟩) h
theorem Wk.seqT {K : PySem.W.Frag} {F F' : Hp} (s : Wk F F') {a : Addr} {xs : List V} (h : SqT K F a xs) : SqT K F' a xs := by
  rcases h with (h | ⟨o, h⟩) | h
  . exact .inl (.inl (s.at_ h fun _ e => nomatch e))
  . exact .inl (.inr ⟨o, s.at_ h fun _ e => nomatch e⟩)
  . exact .inr h
theorem Wk.seqL {K : PySem.W.Frag} {F F' : Hp} (s : Wk F F') {a : Addr} {xs : List V} (h : SqL K F a xs) : SqL K F' a xs := by
  rcases h with (h | ⟨o, h⟩) | h
  . exact .inl (.inl (s.at_ h fun _ e => nomatch e))
  . exact .inl (.inr ⟨o, s.at_ h fun _ e => nomatch e⟩)
  . exact .inr h
structure Ext (F : Hp) (T : List Addr) (F' : Hp) (T' : List Addr) : Prop where
  f : Wk F F'
  t : T <+: T'
end
variable [Hot]
section
variable {K : PySem.W.Frag} {F F' F2 H H' : Hp} {T T' T2 : List Addr}
theorem Ext.refl : Ext F T F T := ⟨fun _ _ h => .inl h, List.prefix_refl _⟩
theorem Ext.trans (a : Ext F T F' T') (b : Ext F' T' F2 T2) : Ext F T F2 T2 := ⟨a.f.trans b.f, a.t.trans b.t⟩
theorem Ext.of (h : Same F F') : Ext F T F' T := ⟨.of h, List.prefix_refl _⟩
theorem Ext.get (e : Ext F T F' T') {n : Nat} {a : Addr} (h : T[n]? = some a) : T'[n]? = some a := by
  obtain ⟨r, rfl⟩ := e.t
  rw [List.getElem?_append_left (List.getElem?_eq_some_iff.mp h).1]
  exact h
mutual
theorem Fz.mono (e : Ext F T F' T') : ∀ {v : V} {d : M.D}, Fz K F T v d -> Fz K F' T' v d
  | _, _, .non => .non
  | _, _, .bl b => .bl b
  | _, _, .int i => .int i
  | _, _, .str h => .str h
  | _, _, .tup h r => .tup (e.f.seqT h) (FzA.mono e r)
  | _, _, .lst h r => .lst (e.f.lst h) (FzA.mono e r)
  | _, _, .dct h k r => .dct (e.f.dict h) k (FzA.mono e r)
  | _, _, .dcl h k r => .dcl (e.f.rd (.inr ⟨_, rfl⟩) h) k (FzA.mono e r)
  | _, _, .dcn h k q r => .dcn (e.f.rd (.inr ⟨_, rfl⟩) h) k (FzA.mono e q) (FzA.mono e r)
  | _, _, .rep d => .rep d
  | _, _, .obj h => .obj (e.get h)
  | _, _, .ty n => .ty n
  | _, _, .fn x => .fn x
  | _, _, .scr h r => .scr (e.f.seqL h) (FzA.mono e r)
theorem FzA.mono (e : Ext F T F' T') : ∀ {vs : List V} {ds : List M.D}, FzA K F T vs ds -> FzA K F' T' vs ds
  | _, _, .nil => .nil
  | _, _, .cons h r => .cons (Fz.mono e h) (FzA.mono e r)
end
mutual
theorem Rp.mono (e : Ext F T F' T') : ∀ {v : V} {o : M.O} {fp : Fp}, Rp K F T v o fp -> Rp K F' T' v o fp
  | _, _, _, .fz h => .fz (h.mono e)
  | _, _, _, .lst r => .lst (RpA.mono e r)
  | _, _, _, .tup r => .tup (RpA.mono e r)
  | _, _, _, .dct k r => .dct k (RpA.mono e r)
  | _, _, _, .dcl k r => .dcl k (RpA.mono e r)
  | _, _, _, .dcn k q r => .dcn k (q.mono e) (RpA.mono e r)
theorem RpA.mono (e : Ext F T F' T') : ∀ {vs : List V} {os : List M.O} {fp : Fp}, RpA K F T vs os fp -> RpA K F' T' vs os fp
  | _, _, _, .nil => .nil
  | _, _, _, .cons h r => .cons (Rp.mono e h) (RpA.mono e r)
end
theorem XcR.mono' (e : Ext F T F' T') {x : M.Exc} {cls : Value} {dd : Option Addr} (h : XcR K F T x cls dd) : XcR K F' T' x cls dd := by
  obtain ⟨h1, h2 | ⟨a, f, v, d, h3, h4, h5, h6⟩⟩ := h
  . exact ⟨h1, .inl h2⟩
  . exact ⟨h1, .inr ⟨a, f, v, d, h3, h4, e.f.at_ h5 (fun _ z => nomatch z), h6.mono e⟩⟩
theorem CloAt.mono (e : Ext F T F' T') {c : CloD} (h : CloAt K F T c) : CloAt K F' T' c := ⟨e.f.rd (.inr ⟨_, rfl⟩) h.fn, e.f.rd (.inr ⟨_, rfl⟩) h.code, h.caps.mono e⟩
theorem RpE.mono (e : Ext F T F' T') {σ : St} {env : List (Option M.O)} {fp : Fp} (h : RpE K F T σ env fp) : RpE K F' T' σ env fp := by
  induction h with
  | nil => exact .nil
  | off _ ih => exact .off ih
  | on r _ ih => exact .on (r.mono e) ih
  | hot h z _ ih => exact .hot h (z.mono' e) ih
  | clo h z _ ih => exact .clo h (z.mono e) ih
theorem RpOb.mono (e : Ext F T F' T') {a : Addr} {ob : M.Ob} {fp : Fp} (h : RpOb K F T a ob fp) : RpOb K F' T' a ob fp := by
  cases h with
  | lst r => exact .lst (r.mono e)
  | dct k r => exact .dct k (r.mono e)
  | dcl k r => exact .dcl k (r.mono e)
  | dcn k q r => exact .dcn k (q.mono e) (r.mono e)
  | ins d r => exact .ins (e.f.at_ d fun _ z => nomatch z) (r.mono e)
theorem RpW.mono (e : Ext F T F' T') {l : List Addr} {w : M.W} {fp : Fp} (h : RpW K F T l w fp) : RpW K F' T' l w fp := by
  induction h with
  | nil => exact .nil
  | cons r _ ih => exact .cons (r.mono e) ih
theorem FpH.new {p : Addr} {o : HO} {fp : Fp} (f : FpH F H fp) (hp : H p = none) : FpH (upd F p o) (upd H p o) fp := by
  have np : ∀ e ∈ fp, e.1 ≠ p := fun e he => ne_of_none (f.at_ e he).1 hp
  refine ⟨fun a u h => ?_, fun e he => ?_, f.nd, f.tbs (fun a h1 h2 h3 => ?_) fun c q h => hQ' (fun b u e => by rw [upd_ne (fun z => by rw [z] at e; rw [f.low _ _ e] at hp; cases hp)]; exact e) h⟩
  . by_cases ha : a = p
    . subst ha; rw [upd_same] at h ⊢; exact h
    . rw [upd_ne ha] at h ⊢; exact f.low _ _ h
  . rw [upd_ne (np e he), upd_ne (np e he)]; exact f.at_ e he
  . have ha : a ≠ p := fun z => h2 (by rw [z]; exact hp)
    exact ⟨by rw [upd_ne ha]; exact h1, upd_ne ha, h3⟩
theorem FpH.free {fp : Fp} (f : FpH F H fp) {p : Addr} (hp : H p = none) : F p = none := by
  cases h : F p with
  | none => rfl
  | some o => rw [f.low _ _ h] at hp; cases hp
theorem bQ' {p : Addr} {o : HO} (h : F p = none) : Same F (upd F p o) := fun b u e => by rw [upd_ne (ne_of_none e h)]; exact e
end
section
variable {K : PySem.W.Frag} {W : WX} {α β : Type}
abbrev Wx := M.Exc -> M.PSt -> Prop
def aR' (r : M.Res α) (P : α -> M.PSt -> Prop) (X : Wx) : Prop := match r with
  | .ok a ρ => P a ρ
  | .exc x ρ => X x ρ
  | .bad => False
theorem aR'.bind {r : M.Res α} {f : α -> M.PSt -> M.Res β} {P : β -> M.PSt -> Prop} {X : Wx} (h : aR' (r.bind f) P X) : aR' r (fun a ρ => aR' (f a ρ) P X) X := by
  cases r with
  | ok a ρ => exact h
  | exc x ρ => exact h
  | bad => exact h
theorem aR'.ofO {o : Option α} {ρ : M.PSt} {P : α -> M.PSt -> Prop} {X : Wx} (h : aR' (M.ofO o ρ) P X) : ∃ a, o = some a /\ P a ρ := by
  cases o with
  | none => exact h.elim
  | some a => exact ⟨a, rfl, h⟩
theorem aR'.mono {r : M.Res α} {P P' : α -> M.PSt -> Prop} {X X' : Wx} (h : aR' r P X) (hp : ∀ a ρ, P a ρ -> P' a ρ) (hx : ∀ x ρ, X x ρ -> X' x ρ) : aR' r P' X' := by
  cases r with
  | ok a ρ => exact hp _ _ h
  | exc x ρ => exact hx _ _ h
  | bad => exact h
def EX (K : PySem.W.Frag) (W : WX) (σ : St) (F : Hp) (T : List Addr) (fr : Fp) : Wx := fun x ρ => ∀ cls dd H' F' T', Ext F T F' T' -> XcR K F' T' x cls dd -> Rel K ρ σ H' F' T' fr -> W cls dd σ H'
theorem EX.mono {σ : St} {F F' : Hp} {T T' : List Addr} {fr : Fp} {x : M.Exc} {ρ : M.PSt} (h : EX K W σ F T fr x ρ) (e : Ext F T F' T') : EX K W σ F' T' fr x ρ := fun cls dd H' F2 T2 e2 => h cls dd H' F2 T2 (e.trans e2)
def qE (K : PySem.W.Frag) (W : WX) (m : M.ME) : TE := fun σ H Q => ∃ ρ F T fr, Rel K ρ σ H F T fr ∧
  aR' (m ρ) (fun d ρ' => ∀ v H' F' T', Ext F T F' T' -> Fz K F' T' v d -> Rel K ρ' σ H' F' T' fr -> Q v H') (EX K W σ F T fr)
def qO (K : PySem.W.Frag) (W : WX) (m : M.MO) : TE := fun σ H Q => ∃ ρ F T fr, Rel K ρ σ H F T fr ∧
  aR' (m ρ) (fun o ρ' => ∀ v H' F' T' fp, Ext F T F' T' -> Rp K F' T' v o fp -> Rel K ρ' σ H' F' T' (fp ++ fr) -> Q v H') (EX K W σ F T fr)
def qA (K : PySem.W.Frag) (W : WX) (m : M.MA) : TA := fun σ H Q => ∃ ρ F T fr, Rel K ρ σ H F T fr ∧
  aR' (m ρ) (fun ds ρ' => ∀ vs H' F' T', Ext F T F' T' -> FzA K F' T' vs ds -> Rel K ρ' σ H' F' T' fr -> Q vs H') (EX K W σ F T fr)
def qT (K : PySem.W.Frag) (W : WX) (m : M.MT) : TT := fun σ H Q => ∃ ρ F T fr, Rel K ρ σ H F T fr ∧
  aR' (m ρ) (fun b ρ' => ∀ H' F' T', Ext F T F' T' -> Rel K ρ' σ H' F' T' fr -> Q b H') (EX K W σ F T fr)
def qP (K : PySem.W.Frag) (W : WX) (m : M.MP) : TO := fun σ H Q => ∃ ρ F T fr, Rel K ρ σ H F T fr ∧
  aR' (m ρ) (fun b ρ' => ∀ H' F' T', Ext F T F' T' -> Rel K ρ' σ H' F' T' fr -> Q b H') (EX K W σ F T fr)
def bn' (K : PySem.W.Frag) (W : WX) (D : Ends) (F : Hp) (T : List Addr) (fr : Fp) : M.Out -> Prop
  | .nx ρ => ∀ σ' H' F' T', Ext F T F' T' -> Rel K ρ σ' H' F' T' fr -> D.nx σ' H'
  | .bk ρ => ∀ σ' H' F' T', Ext F T F' T' -> Rel K ρ σ' H' F' T' fr -> D.bk σ' H'
  | .ct ρ => ∀ σ' H' F' T', Ext F T F' T' -> Rel K ρ σ' H' F' T' fr -> D.ct σ' H'
  | .rt o w => ∀ v H' F' T' fp, Ext F T F' T' -> Rp K F' T' v o fp -> n0' K (w) H' F' T' (fp ++ fr) -> D.rt v H'
  | .exc x ρ => ∀ σ' cls dd H' F' T', Ext F T F' T' -> XcR K F' T' x cls dd -> Rel K ρ σ' H' F' T' fr -> W cls dd σ' H'
  | .bad => False
def qS (K : PySem.W.Frag) (W : WX) (m : M.MS) : TS := fun D σ H => ∃ ρ F T fr, Rel K ρ σ H F T fr /\ bn' K W D F T fr (m ρ)
abbrev SE (X : Cx) (W : WX) (e : Expr) (m : M.ME) : Prop := PE X e (qE X.K W m)
abbrev SO (X : Cx) (W : WX) (e : Expr) (m : M.MO) : Prop := PE X e (qO X.K W m)
abbrev SA (X : Cx) (W : WX) (es : List Expr) (m : M.MA) : Prop := PA X es (qA X.K W m)
abbrev ST (X : Cx) (W : WX) (e : Expr) (m : M.MT) : Prop := PT X e (qT X.K W m)
abbrev SS (X : Cx) (W : WX) (s : Stmt) (m : M.MS) : Prop := PS X s (qS X.K W m)
abbrev SSs (X : Cx) (W : WX) (s : List Stmt) (m : M.MS) : Prop := PSs X s (qS X.K W m)
theorem PE.imp {X : Cx} {e : Expr} {t t' : TE} (h : PE X e t) (i : ∀ σ H Q, t' σ H Q -> t σ H Q) : PE X e t' := ⟨fun pins s σ H Q I q => h.run pins s σ H Q I (i σ H Q q)⟩
theorem PT.imp {X : Cx} {e : Expr} {t t' : TT} (h : PT X e t) (i : ∀ σ H Q, t' σ H Q -> t σ H Q) : PT X e t' := ⟨fun pins s σ H Q I q => h.run pins s σ H Q I (i σ H Q q)⟩
theorem PW.imp {X : Cx} {e : Expr} {t t' : TT} (h : PW X e t) (i : ∀ σ H Q, t' σ H Q -> t σ H Q) : PW X e t' := ⟨fun wh pins s σ H Q I q => h.run wh pins s σ H Q I (i σ H Q q)⟩
theorem PA.imp {X : Cx} {e : List Expr} {t t' : TA} (h : PA X e t) (i : ∀ σ H Q, t' σ H Q -> t σ H Q) : PA X e t' := ⟨fun pos pins s σ H Q I q => h.run pos pins s σ H Q I (i σ H Q q)⟩
theorem PS.imp {X : Cx} {e : Stmt} {t t' : TS} (h : PS X e t) (i : ∀ D σ H, t' D σ H -> t D σ H) : PS X e t' := ⟨fun pins s σ H Q I q => h.run pins s σ H Q I (i Q σ H q)⟩
theorem PSs.imp {X : Cx} {e : List Stmt} {t t' : TS} (h : PSs X e t) (i : ∀ D σ H, t' D σ H -> t D σ H) : PSs X e t' := ⟨fun pins s σ H Q I q => h.run pins s σ H Q I (i Q σ H q)⟩
theorem PO.imp {X : Cx} {e : Option Expr} {t t' : TO} (h : PO X e t) (i : ∀ σ H Q, t' σ H Q -> t σ H Q) : PO X e t' := ⟨fun pins s σ H Q I q => h.run pins s σ H Q I (i σ H Q q)⟩
variable {σ : St} {H F : Hp} {T : List Addr} {fr : Fp} {ρ : M.PSt} {P : β -> M.PSt -> Prop} {X : Wx}
theorem av' {m : M.ME} {k : M.D -> M.PSt -> M.Res β} {Q : VK} (rel : Rel K ρ σ H F T fr) (h : aR' ((m ρ).bind k) P (EX K W σ F T fr))
    (q : ∀ d ρ1 v H1 F1 T1, Ext F T F1 T1 -> Fz K F1 T1 v d -> Rel K ρ1 σ H1 F1 T1 fr -> aR' (k d ρ1) P (EX K W σ F1 T1 fr) -> Q v H1) : qE K W m σ H Q :=
  ⟨ρ, F, T, fr, rel, (aR'.bind h).mono (fun d ρ1 h1 v H1 F1 T1 e z r => q d ρ1 v H1 F1 T1 e z r (h1.mono (fun _ _ z => z) fun _ _ z => z.mono e)) fun _ _ z => z⟩
theorem q8' {m : M.MO} {k : M.O -> M.PSt -> M.Res β} {Q : VK} (rel : Rel K ρ σ H F T fr) (h : aR' ((m ρ).bind k) P (EX K W σ F T fr))
    (q : ∀ o ρ1 v H1 F1 T1 fp, Ext F T F1 T1 -> Rp K F1 T1 v o fp -> Rel K ρ1 σ H1 F1 T1 (fp ++ fr) -> aR' (k o ρ1) P (EX K W σ F1 T1 fr) -> Q v H1) : qO K W m σ H Q :=
  ⟨ρ, F, T, fr, rel, (aR'.bind h).mono (fun d ρ1 h1 v H1 F1 T1 fp e z r => q d ρ1 v H1 F1 T1 fp e z r (h1.mono (fun _ _ z => z) fun _ _ z => z.mono e)) fun _ _ z => z⟩
theorem bU' {m : M.MA} {k : List M.D -> M.PSt -> M.Res β} {Q : List V -> Hp -> Prop} (rel : Rel K ρ σ H F T fr) (h : aR' ((m ρ).bind k) P (EX K W σ F T fr))
    (q : ∀ ds ρ1 vs H1 F1 T1, Ext F T F1 T1 -> FzA K F1 T1 vs ds -> Rel K ρ1 σ H1 F1 T1 fr -> aR' (k ds ρ1) P (EX K W σ F1 T1 fr) -> Q vs H1) : qA K W m σ H Q :=
  ⟨ρ, F, T, fr, rel, (aR'.bind h).mono (fun d ρ1 h1 v H1 F1 T1 e z r => q d ρ1 v H1 F1 T1 e z r (h1.mono (fun _ _ z => z) fun _ _ z => z.mono e)) fun _ _ z => z⟩
theorem hR' {m : M.MT} {k : Bool -> M.PSt -> M.Res β} {Q : Bool -> Hp -> Prop} (rel : Rel K ρ σ H F T fr) (h : aR' ((m ρ).bind k) P (EX K W σ F T fr))
    (q : ∀ b ρ1 H1 F1 T1, Ext F T F1 T1 -> Rel K ρ1 σ H1 F1 T1 fr -> aR' (k b ρ1) P (EX K W σ F1 T1 fr) -> Q b H1) : qT K W m σ H Q :=
  ⟨ρ, F, T, fr, rel, (aR'.bind h).mono (fun d ρ1 h1 H1 F1 T1 e r => q d ρ1 H1 F1 T1 e r (h1.mono (fun _ _ z => z) fun _ _ z => z.mono e)) fun _ _ z => z⟩
theorem mL' {m : M.MP} {k : Option Int -> M.PSt -> M.Res β} {Q : Option Int -> Hp -> Prop} (rel : Rel K ρ σ H F T fr) (h : aR' ((m ρ).bind k) P (EX K W σ F T fr))
    (q : ∀ b ρ1 H1 F1 T1, Ext F T F1 T1 -> Rel K ρ1 σ H1 F1 T1 fr -> aR' (k b ρ1) P (EX K W σ F1 T1 fr) -> Q b H1) : qP K W m σ H Q :=
  ⟨ρ, F, T, fr, rel, (aR'.bind h).mono (fun d ρ1 h1 H1 F1 T1 e r => q d ρ1 H1 F1 T1 e r (h1.mono (fun _ _ z => z) fun _ _ z => z.mono e)) fun _ _ z => z⟩
end
end S
namespace S
open PySem PySem.Spec PyProof.Rows L2
variable [Wd] [Hot]
section
variable {K : PySem.W.Frag} {F H : Hp} {T : List Addr} {v : V} {d : M.D} {vs ws : List V} {ds es : List M.D}
theorem Fz.int_inv {i : Int} (h : Fz K F T v (.int i)) : v = .int i := by cases h; rfl
theorem Fz.bl_inv {i : Bool} (h : Fz K F T v (.bl i)) : v = .bl i := by cases h; rfl
theorem Fz.non_inv (h : Fz K F T v .non) : v = .non := by cases h; rfl
theorem Fz.str_inv {s : M.Tx} (h : Fz K F T v (.str s)) : v = .str (sx s) /\ okT s := by cases h with | str h => exact ⟨rfl, h⟩
theorem Fz.tup_inv (h : Fz K F T v (.tup ds)) : ∃ a vs, v = .ref a /\ SqT K F a vs /\ FzA K F T vs ds := by cases h with | tup h r => exact ⟨_, _, rfl, h, r⟩
theorem Fz.lst_inv (h : Fz K F T v (.lst ds)) : ∃ a vs, v = .ref a /\ F a = some (.lst vs) /\ FzA K F T vs ds := by cases h with | lst h r => exact ⟨_, _, rfl, h, r⟩
theorem FzA.length : ∀ {vs : List V} {ds : List M.D}, FzA K F T vs ds -> vs.length = ds.length
  | _, _, .nil => rfl
  | _, _, .cons _ r => congrArg (· + 1) (FzA.length r)
theorem FzA.append : ∀ {vs ws : List V} {ds es : List M.D}, FzA K F T vs ds -> FzA K F T ws es -> FzA K F T (vs ++ ws) (ds ++ es)
  | _, _, _, _, .nil, h => h
  | _, _, _, _, .cons a r, h => .cons a (FzA.append r h)
theorem FzA.take : ∀ {vs : List V} {ds : List M.D} (n : Nat), FzA K F T vs ds -> FzA K F T (vs.take n) (ds.take n)
  | _, _, 0, _ => .nil
  | _, _, n + 1, .nil => .nil
  | _, _, n + 1, .cons a r => .cons a (FzA.take n r)
theorem FzA.drop : ∀ {vs : List V} {ds : List M.D} (n : Nat), FzA K F T vs ds -> FzA K F T (vs.drop n) (ds.drop n)
  | _, _, 0, h => h
  | _, _, n + 1, .nil => .nil
  | _, _, n + 1, .cons a r => FzA.drop n r
theorem FzA.get : ∀ {vs : List V} {ds : List M.D} {i : Nat} {d : M.D}, FzA K F T vs ds -> ds[i]? = some d -> ∃ v, vs[i]? = some v /\ Fz K F T v d
  | _, _, _, _, .nil, e => by cases e
  | _, _, 0, _, .cons h _, e => ⟨_, rfl, by rw [<- Option.some.inj e]; exact h⟩
  | _, _, i + 1, _, .cons _ r, e => FzA.get (i := i) r e
theorem FzA.rep {vs : List V} {ds : List M.D} (h : FzA K F T vs ds) : ∀ n, FzA K F T (List.replicate n vs).flatten (List.replicate n ds).flatten
  | 0 => .nil
  | n + 1 => FzA.append h (FzA.rep h n)
theorem FzA.cutV {lo hi : Option Int} (h : FzA K F T vs ds) : FzA K F T (cutV vs lo hi) (M.cut ds lo hi) := by
  unfold L2.cutV M.cut
  rw [h.length]
  exact FzA.take _ (FzA.drop _ h)
theorem FzA.of_all : ∀ {n : Nat} {f : Nat -> V} {g : Nat -> M.D}, (∀ i, Fz K F T (f i) (g i)) -> FzA K F T ((List.range n).map f) ((List.range n).map g) := by
  intro n f g h
  generalize List.range n = l
  induction l with
  | nil => exact .nil
  | cons a l ih => exact .cons (h a) ih
theorem kK' {c : Nat} (h : c < 1114112) : Fz K F T (.str ⟨#[c]⟩) (M.chD c) := Fz.str (s := [c]) ⟨fun x hx => by rw [List.mem_singleton.mp hx]; exact h, by show 1 <= 16777216; decide⟩
theorem FzA.chars : ∀ {s : M.Tx}, (∀ c ∈ s, c < 1114112) -> FzA K F T (s.map chv) (s.map M.chD)
  | [], _ => .nil
  | c :: s, h => .cons (kK' (h c (by simp))) (FzA.chars fun x hx => h x (by simp [hx]))
theorem SqT.low (s : Same F H) {a : Addr} (h : SqT K F a vs) : SqT K H a vs := seqT s h
theorem okT.app {a b : M.Tx} (h1 : okT a) (h2 : okT b) (h : a.length + b.length <= M.cM') : okT (a ++ b) :=
  ⟨fun c hc => (List.mem_append.mp hc).elim (h1.1 c) (h2.1 c), by rw [List.length_append]; exact h⟩
theorem okT.sub {a b : M.Tx} (h1 : okT a) (h : ∀ c ∈ b, c ∈ a) (hl : b.length <= a.length) : okT b := ⟨fun c hc => h1.1 c (h c hc), Nat.le_trans hl h1.2⟩
theorem okT.len {s : M.Tx} (h : okT s) : (sx s).length <= sizeLine := by rw [bE', sizeLine_eq]; exact h.2
theorem bx' : sizeLine = M.cM' := sizeLine_eq
theorem Rel.fp {ρ : M.PSt} {σ : St} {fr : Fp} (r : Rel K ρ σ H F T fr) : ∃ fp, FpH F H fp /\ ∀ H' F', Same F F' -> FpH F' H' fp -> Rel K ρ σ H' F' T fr := by
  obtain ⟨fe, fw, re, rw, f⟩ := r
  exact ⟨_, f, fun H' F' s f' => ⟨fe, fw, re.mono (.of s), rw.mono (.of s), f'⟩⟩
abbrev c0' (K : PySem.W.Frag) (F : Hp) (T : List Addr) (fp : Fp) (dz : M.D) (Q : VK) : Prop := ∀ v H' F', Same F F' -> Fz K F' T v dz -> FpH F' H' fp -> Q v H'
theorem c0'.here {fp : Fp} {dz : M.D} {Q : VK} (k : c0' K F T fp dz Q) (f : FpH F H fp) (z : Fz K F T v dz) : Q v H := k v H F (fun _ _ e => e) z f
theorem c0'.newT {fp : Fp} {Q : VK} (k : c0' K F T fp (.tup ds) Q) (f : FpH F H fp) (z : FzA K F T vs ds) {p : Addr} (hp : H p = none) : Q (.ref p) (upd H p (.tup vs)) := by
  have s : Same F (upd F p (.tup vs)) := bQ' (f.free hp)
  exact k _ _ _ s (.tup (SqT.of upd_same) (z.mono (.of s))) (f.new hp)
theorem c0'.newL {fp : Fp} {Q : VK} (k : c0' K F T fp (.lst ds) Q) (f : FpH F H fp) (z : FzA K F T vs ds) {p : Addr} (hp : H p = none) : Q (.ref p) (upd H p (.lst vs)) := by
  have s : Same F (upd F p (.lst vs)) := bQ' (f.free hp)
  exact k _ _ _ s (.lst upd_same (z.mono (.of s))) (f.new hp)
end
section
variable (K : PySem.W.Frag)
def Op1 (f : M.D -> Option M.D) (r : V -> Hp -> VK -> Prop) : Prop := ∀ {F H : Hp} {T : List Addr} {fp : Fp} {x : V} {dx dz : M.D} {Q : VK}, FpH F H fp -> Fz K F T x dx -> f dx = some dz -> c0' K F T fp dz Q -> r x H Q
def Op2 (f : M.D -> M.D -> Option M.D) (r : R2) : Prop := ∀ {F H : Hp} {T : List Addr} {fp : Fp} {x y : V} {dx dy dz : M.D} {Q : VK}, FpH F H fp -> Fz K F T x dx -> Fz K F T y dy -> f dx dy = some dz -> c0' K F T fp dz Q -> r x y H Q
end
section
variable {K : PySem.W.Frag}
mutual
theorem Fz.py {F H : Hp} {T : List Addr} (s : Same F H) : ∀ {v : V} {d : M.D}, Fz K F T v d -> M.dat d = true -> Dp K H v (py d)
  | _, _, .non, _ => .non
  | _, _, .bl b, _ => .bl b
  | _, _, .int i, _ => .int i
  | _, _, .str h, _ => .str _
  | _, _, .tup h r, e => .tup (seqT s h) (FzA.py s r e)
  | _, _, .lst h r, e => .lst (SqL.of (s _ _ h)) (FzA.py s r e)
  | _, _, .dct h _ r, e => by cases e
  | _, _, .dcl _ _ _, e => by cases e
  | _, _, .dcn _ _ _ _, e => by cases e
  | _, _, .rep _, e => by cases e
  | _, _, .obj h, e => by cases e
  | _, _, .ty n, e => by cases e
  | _, _, .fn x, e => by cases e
  | _, _, .scr h r, e => by cases e
theorem FzA.py {F H : Hp} {T : List Addr} (s : Same F H) : ∀ {vs : List V} {ds : List M.D}, FzA K F T vs ds -> M.dats ds = true -> DpAll K H vs (pys ds)
  | _, _, .nil, _ => .nil
  | _, _, .cons h r, e => by
    obtain ⟨e1, e2⟩ := Bool.and_eq_true_iff.mp (show (M.dat _ && M.dats _) = true from e)
    exact .cons (Fz.py s h e1) (FzA.py s r e2)
end
theorem oi' {s : M.Tx} (h : okT s) : PyData.strOk (sx s) = true := by
  unfold PyData.strOk
  rw [Array.all_eq_true']
  intro c hc
  have := h.1 c (by simpa [sx] using hc)
  simp only [decide_eq_true_eq]
  omega
mutual
theorem nj' {F : Hp} {T : List Addr} : ∀ {v : V} {d : M.D}, Fz K F T v d -> M.dat d = true -> (py d).canLay0 = true /\ (py d).depth = M.dep d
  | _, _, .non, _ => ⟨rfl, rfl⟩
  | _, _, .bl b, _ => ⟨rfl, rfl⟩
  | _, _, .int i, _ => ⟨rfl, rfl⟩
  | _, _, .str h, _ => ⟨oi' h, rfl⟩
  | _, _, .tup h r, e => by
    obtain ⟨h1, h2⟩ := lays_of r e
    exact ⟨h1, congrArg (· + 1) h2⟩
  | _, _, .lst h r, e => by
    obtain ⟨h1, h2⟩ := lays_of r e
    exact ⟨h1, congrArg (· + 1) h2⟩
  | _, _, .dct h _ r, e => by cases e
  | _, _, .dcl _ _ _, e => by cases e
  | _, _, .dcn _ _ _ _, e => by cases e
  | _, _, .rep _, e => by cases e
  | _, _, .obj h, e => by cases e
  | _, _, .ty n, e => by cases e
  | _, _, .fn x, e => by cases e
  | _, _, .scr h r, e => by cases e
theorem lays_of {F : Hp} {T : List Addr} : ∀ {vs : List V} {ds : List M.D}, FzA K F T vs ds -> M.dats ds = true -> PyData.canLayAll0 (pys ds) = true /\ PyData.depthAll (pys ds) = M.deps ds
  | _, _, .nil, _ => ⟨rfl, rfl⟩
  | _, _, .cons h r, e => by
    obtain ⟨e1, e2⟩ := Bool.and_eq_true_iff.mp (show (M.dat _ && M.dats _) = true from e)
    obtain ⟨a1, a2⟩ := nj' h e1
    obtain ⟨b1, b2⟩ := lays_of r e2
    refine ⟨?_, ?_⟩
    . show (PyData.canLay0 _ && PyData.canLayAll0 _) = true
      rw [a1, b1]; rfl
    . show max (PyData.depth _) (PyData.depthAll _) = max _ _
      rw [a2, b2]
end
theorem qa' (a b : M.Tx) : (sx a == sx b) = (a == b) := by
  rw [Bool.eq_iff_iff, beq_iff_eq, beq_iff_eq]
  exact ⟨s5', fun h => by rw [h]⟩
mutual
theorem qq' : ∀ (d e : M.D), M.dat d = true -> M.dat e = true -> PyData.eqv (py d) (py e) = M.eqb d e
  | .non, e, _, h => by cases e <;> first | rfl | cases h
  | .bl a, e, _, h => by cases e <;> first | rfl | cases h
  | .int a, e, _, h => by cases e <;> first | rfl | cases h
  | .str a, e, _, h => by
    cases e with
    | str b => exact qa' a b
    | _ => first | rfl | cases h
  | .tup a, e, h1, h => by
    cases e with
    | tup b => exact eqvs_py a b h1 h
    | _ => first | rfl | cases h
  | .lst a, e, h1, h => by
    cases e with
    | lst b => exact eqvs_py a b h1 h
    | _ => first | rfl | cases h
  | .dct _ _, _, h, _ => by cases h
  | .obj _, _, h, _ => by cases h
  | .ty _, _, h, _ => by cases h
  | .fn _, _, h, _ => by cases h
  | .exc _ _, _, h, _ => by cases h
  | .scr _, _, h, _ => by cases h
theorem eqvs_py : ∀ (d e : List M.D), M.dats d = true -> M.dats e = true -> PyData.eqvAll (pys d) (pys e) = M.eqbs d e
  | [], [], _, _ => rfl
  | [], _ :: _, _, _ => rfl
  | _ :: _, [], _, _ => rfl
  | a :: d, b :: e, h1, h2 => by
    obtain ⟨a1, a2⟩ := Bool.and_eq_true_iff.mp (show (M.dat _ && M.dats _) = true from h1)
    obtain ⟨b1, b2⟩ := Bool.and_eq_true_iff.mp (show (M.dat _ && M.dats _) = true from h2)
    show (PyData.eqv (py a) (py b) && PyData.eqvAll (pys d) (pys e)) = (M.eqb a b && M.eqbs d e)
    rw [qq' a b a1 b1, eqvs_py d e a2 b2]
end
theorem um' {F H : Hp} {T : List Addr} {fp : Fp} {x y : V} {dx dy : M.D} {b : Bool} (f : FpH F H fp) (hx : Fz K F T x dx) (hy : Fz K F T y dy) (h : M.eqv dx dy = some b) :
    ∃ d e, Dp K H x d /\ Dp K H y e /\ SeqAt.shaped d = true /\ SeqAt.shaped e = true /\ PyData.eqv d e = b := by
  unfold M.eqv at h
  split at h
  . rename_i c
    obtain ⟨c1, c2, c3, c4⟩ := c
    obtain ⟨a1, a2⟩ := nj' hx c1
    obtain ⟨b1, b2⟩ := nj' hy c2
    refine ⟨_, _, hx.py f.low c1, hy.py f.low c2, ?_, ?_, ?_⟩
    . exact Sh.shaped (n := 64) ⟨a1, by rw [a2]; exact c3⟩ (Nat.le_refl _)
    . exact Sh.shaped (n := 64) ⟨b1, by rw [b2]; exact c4⟩ (Nat.le_refl _)
    . rw [qq' _ _ c1 c2]; exact Option.some.inj h
  . cases h
theorem fV' : Op2 K M.pEq (xD' K) := by
  intro F H T fp x y dx dy dz Q f hx hy h k
  unfold M.pEq M.ob at h
  cases e : M.eqv dx dy with
  | none => rw [e] at h; cases h
  | some b =>
    rw [e] at h
    cases h
    obtain ⟨d, e, h1, h2, h3, h4, h5⟩ := um' f hx hy e
    exact .inr ⟨d, e, h1, h2, h3, h4, by rw [h5]; exact k.here f (.bl b)⟩
theorem rl' : Op2 K M.pNe (xA' K) := by
  intro F H T fp x y dx dy dz Q f hx hy h k
  unfold M.pNe M.ob at h
  cases e : M.eqv dx dy with
  | none => rw [e] at h; cases h
  | some b =>
    rw [e] at h
    cases h
    obtain ⟨d, e, h1, h2, h3, h4, h5⟩ := um' f hx hy e
    exact .inr ⟨d, e, h1, h2, h3, h4, by rw [h5]; exact k.here f (.bl (!b))⟩
theorem bH' : Op2 K M.cm' (tF' K) := by
  intro F H T fp x y dx dy dz Q f hx hy h k
  cases dx <;> cases dy <;> try (cases h; done)
  . cases hx; cases hy; cases h
    exact .inl ⟨_, _, rfl, rfl, k.here f (.int _)⟩
  . obtain ⟨rfl, o1⟩ := hx.str_inv
    obtain ⟨rfl, o2⟩ := hy.str_inv
    simp only [M.cm'] at h
    split at h
    . rename_i hl
      cases h
      refine .inr (.inl ⟨_, _, rfl, rfl, by rw [bE', bE', bx']; exact hl, ?_⟩)
      rw [s7']
      exact k.here f (.str (o1.app o2 hl))
    . cases h
  . obtain ⟨a, vs, rfl, ha, za⟩ := hx.tup_inv
    obtain ⟨b, ws, rfl, hb, zb⟩ := hy.tup_inv
    simp only [M.cm'] at h
    split at h
    . rename_i hl
      cases h
      refine .inr (.inr (.inr ⟨a, b, vs, ws, rfl, rfl, seqT f.low ha, seqT f.low hb, by rw [za.length, zb.length, bx']; exact hl, fun e => ?_, fun _ e => ?_, fun _ _ p hp => k.newT f (za.append zb) hp⟩))
      . subst e
        cases za
        exact k.here f (.tup hb zb)
      . subst e
        cases zb
        refine k.here f ?_
        rw [List.append_nil]
        exact .tup ha za
    . cases h
  . obtain ⟨a, vs, rfl, ha, za⟩ := hx.lst_inv
    obtain ⟨b, ws, rfl, hb, zb⟩ := hy.lst_inv
    simp only [M.cm'] at h
    split at h
    . rename_i hl
      cases h
      exact .inr (.inr (.inl ⟨a, b, vs, ws, rfl, rfl, f.low _ _ ha, f.low _ _ hb, by rw [za.length, zb.length, bx']; exact hl, fun p hp => k.newL f (za.append zb) hp⟩))
    . cases h
theorem gK' : Op2 K M.mN' (rI0 fun i j => .int (i - j)) := by
  intro F H T fp x y dx dy dz Q f hx hy h k
  cases dx <;> cases dy <;> try (cases h; done)
  cases hx; cases hy; cases h
  exact ⟨_, _, rfl, rfl, k.here f (.int _)⟩
theorem ts' (s : M.Tx) (n : Nat) : k6' (sx s) n = sx (List.replicate n s).flatten := rfl
theorem tt' {s : M.Tx} {n : Nat} (h : okT s) (hl : s.length * n <= M.cM') : okT (List.replicate n s).flatten := by
  refine ⟨fun c hc => ?_, ?_⟩
  . obtain ⟨l, h1, h2⟩ := List.mem_flatten.mp hc
    rw [List.eq_of_mem_replicate h1] at h2
    exact h.1 c h2
  . rw [List.length_flatten]
    simp
    rw [Nat.mul_comm]
    exact hl
def tw' : R2 := fun x y H Q => tx' x y H Q \/ rI CMulW (fun i j => .int (i * j)) x y H Q
theorem cc' {X : Cx} : OpR X (binaryOp .Mult) tw' := rg'.or op_mulW
theorem tZ' {i : Int} (h : -2582249878086908589655919172003011874329705792829223512830659356540647622016841194629645353280137831435903171972747493376 < i /\ i < 2582249878086908589655919172003011874329705792829223512830659356540647622016841194629645353280137831435903171972747493376) : i.natAbs < 2 ^ 400 := by
  have : (2 : Nat) ^ 400 = 2582249878086908589655919172003011874329705792829223512830659356540647622016841194629645353280137831435903171972747493376 := by decide +kernel
  omega
theorem ft' : Op2 K M.fn' tw' := by
  intro F H T fp x y dx dy dz Q f hx hy h k
  cases dx <;> cases dy <;> try (cases h; done)
  . cases hx; cases hy
    simp only [M.fn'] at h
    split at h
    . rename_i hc
      cases h
      rcases hc with hc | hc
      . refine .inl (.inl ⟨_, _, rfl, rfl, ?_, k.here f (.int _)⟩)
        rcases hc with hc | hc <;> simp only [M.small64, Bool.and_eq_true, decide_eq_true_eq] at hc
        . exact .inl hc
        . exact .inr hc
      . exact .inr ⟨_, _, rfl, rfl, wide_mul (tZ' hc.1) (tZ' hc.2) (by decide) (by decide) (by decide), k.here f (.int _)⟩
    . cases h
  . obtain ⟨rfl, o1⟩ := hx.str_inv
    cases hy
    simp only [M.fn'] at h
    split at h
    . rename_i hc
      cases h
      refine .inl (.inr (.inl ⟨_, _, rfl, rfl, hc.1, hc.2.1, by rw [bE', bx']; exact hc.2.2, ?_⟩))
      rw [ts']
      exact k.here f (.str (tt' o1 hc.2.2))
    . cases h
  . obtain ⟨a, vs, rfl, ha, za⟩ := hx.lst_inv
    cases hy
    simp only [M.fn'] at h
    split at h
    . rename_i hc
      cases h
      refine .inl (.inr (.inr ⟨a, _, vs, rfl, rfl, f.low _ _ ha, by omega, by omega, by rw [za.length, bx']; exact hc.2.2, fun p hp => k.newL f (za.rep _) hp⟩))
    . cases h
theorem j7' : Op2 K M.gD' (rI CDivW fun i j => .int (i / j)) := by
  intro F H T fp x y dx dy dz Q f hx hy h k
  cases dx <;> cases dy <;> try (cases h; done)
  cases hx; cases hy
  simp only [M.gD'] at h
  split at h
  . rename_i hc
    cases h
    refine ⟨_, _, rfl, rfl, wide_div (b := 200) hc.1 ?_ (by decide) (by decide), k.here f (.int _)⟩
    have : (2 : Nat) ^ 200 = 1606938044258990275541962092341162602522202993782792835301376 := by decide +kernel
    omega
  . cases h
theorem eI' : Op2 K M.j2' (rI (fun _ j => 0 < j) fun i j => .int (i % j)) := by
  intro F H T fp x y dx dy dz Q f hx hy h k
  cases dx <;> cases dy <;> try (cases h; done)
  cases hx; cases hy
  simp only [M.j2'] at h
  split at h
  . rename_i hc
    cases h
    exact ⟨_, _, rfl, rfl, hc, k.here f (.int _)⟩
  . cases h
theorem wn' : Op2 K M.tL' (rI CPow fun i j => .int (i ^ j.toNat)) := by
  intro F H T fp x y dx dy dz Q f hx hy h k
  cases dx <;> cases dy <;> try (cases h; done)
  cases hx; cases hy
  simp only [M.tL'] at h
  split at h
  . rename_i hc
    cases h
    obtain ⟨h1, h2, h3⟩ := hc
    simp only [M.small64, Bool.and_eq_true, decide_eq_true_eq] at h3
    exact ⟨_, _, rfl, rfl, ⟨h1, by omega, by omega⟩, k.here f (.int _)⟩
  . cases h
theorem wp' : Op2 K M.pLt (qi' (fun i j => decide (i < j)) fun a b => decide (a < b)) := by
  intro F H T fp x y dx dy dz Q f hx hy h k
  cases dx <;> cases dy <;> try (cases h; done)
  . cases hx; cases hy; cases h
    exact .inl ⟨_, _, rfl, rfl, k.here f (.bl _)⟩
  . obtain ⟨rfl, o1⟩ := hx.str_inv
    obtain ⟨rfl, o2⟩ := hy.str_inv
    cases h
    exact .inr ⟨_, _, rfl, rfl, k.here f (.bl _)⟩
theorem vw' : Op2 K M.pLe (qi' (fun i j => decide (i <= j)) fun a b => !decide (b < a)) := by
  intro F H T fp x y dx dy dz Q f hx hy h k
  cases dx <;> cases dy <;> try (cases h; done)
  . cases hx; cases hy; cases h
    exact .inl ⟨_, _, rfl, rfl, k.here f (.bl _)⟩
  . obtain ⟨rfl, o1⟩ := hx.str_inv
    obtain ⟨rfl, o2⟩ := hy.str_inv
    cases h
    exact .inr ⟨_, _, rfl, rfl, k.here f (.bl _)⟩
theorem wq' : Op2 K M.pGt (qi' (fun i j => decide (j < i)) fun a b => decide (b < a)) := by
  intro F H T fp x y dx dy dz Q f hx hy h k
  cases dx <;> cases dy <;> try (cases h; done)
  . cases hx; cases hy; cases h
    exact .inl ⟨_, _, rfl, rfl, k.here f (.bl _)⟩
  . obtain ⟨rfl, o1⟩ := hx.str_inv
    obtain ⟨rfl, o2⟩ := hy.str_inv
    cases h
    exact .inr ⟨_, _, rfl, rfl, k.here f (.bl _)⟩
theorem wr' : Op2 K M.pGe (qi' (fun i j => decide (j <= i)) fun a b => !decide (a < b)) := by
  intro F H T fp x y dx dy dz Q f hx hy h k
  cases dx <;> cases dy <;> try (cases h; done)
  . cases hx; cases hy; cases h
    exact .inl ⟨_, _, rfl, rfl, k.here f (.bl _)⟩
  . obtain ⟨rfl, o1⟩ := hx.str_inv
    obtain ⟨rfl, o2⟩ := hy.str_inv
    cases h
    exact .inr ⟨_, _, rfl, rfl, k.here f (.bl _)⟩
theorem FzA.ati {F : Hp} {T : List Addr} {vs : List V} {ds : List M.D} {i : Int} {d : M.D} (h : FzA K F T vs ds) (e : M.ati ds i = some d) : ∃ v, atI vs i = some v /\ Fz K F T v d := by
  unfold M.ati at e
  unfold atI
  rw [h.length]
  cases q : M.ixn ds.length i with
  | none => rw [q] at e; cases e
  | some j =>
    rw [q] at e
    obtain ⟨v, h1, h2⟩ := h.get (i := j) e
    have q' : ixN ds.length i = some j := q
    rw [q']
    exact ⟨v, h1, h2⟩
theorem fu' : Op2 K M.pIx (rIx K) := by
  intro F H T fp x y dx dy dz Q f hx hy h k
  cases dx <;> cases dy <;> try (cases h; done)
  . obtain ⟨rfl, o1⟩ := hx.str_inv
    cases hy
    simp only [M.pIx] at h
    rename_i s i
    cases q : M.ati s i with
    | none => rw [q] at h; cases h
    | some c =>
      rw [q] at h
      cases h
      have hc : c ∈ s := by
        unfold M.ati at q
        cases q2 : M.ixn s.length i with
        | none => rw [q2] at q; cases q
        | some j => rw [q2] at q; exact List.mem_of_getElem? q
      exact .inr (.inr ⟨_, _, c, rfl, rfl, o1.len, q, k.here f (kK' (o1.1 c hc))⟩)
  . obtain ⟨a, vs, rfl, ha, za⟩ := hx.tup_inv
    cases hy
    obtain ⟨v, h1, h2⟩ := za.ati h
    exact .inr (.inl ⟨a, vs, _, v, rfl, rfl, seqT f.low ha, h1, k.here f h2⟩)
  . obtain ⟨a, vs, rfl, ha, za⟩ := hx.lst_inv
    cases hy
    obtain ⟨v, h1, h2⟩ := za.ati h
    exact .inl ⟨a, vs, _, v, rfl, rfl, SqL.of (f.low _ _ ha), h1, k.here f h2⟩
def xN' (K : PySem.W.Frag) (r : V -> Option Int -> Option Int -> Hp -> VK -> Prop) : Prop := ∀ {F H : Hp} {T : List Addr} {fp : Fp} {x : V} {dx dz : M.D} {lo hi : Option Int} {Q : VK}, FpH F H fp -> Fz K F T x dx -> M.pSl dx lo hi = some dz -> c0' K F T fp dz Q -> r x lo hi H Q
theorem nD' {s : M.Tx} {lo hi : Option Int} : (∀ c ∈ M.cut s lo hi, c ∈ s) /\ (M.cut s lo hi).length <= s.length := by
  unfold M.cut
  refine ⟨fun c hc => List.mem_of_mem_drop (List.mem_of_mem_take hc), ?_⟩
  rw [List.length_take, List.length_drop]
  omega
theorem tQ' : xN' K (xz' K) := by
  intro F H T fp x dx dz lo hi Q f hx h k
  cases dx <;> try (cases h; done)
  . obtain ⟨rfl, o1⟩ := hx.str_inv
    cases h
    refine .inr (.inl ⟨_, rfl, o1.len, ?_⟩)
    have e : cutS (sx ‹M.Tx›) lo hi = sx (M.cut ‹M.Tx› lo hi) := fh' (by rw [u6']; rfl)
    rw [e]
    exact k.here f (.str (o1.sub nD'.1 nD'.2))
  . obtain ⟨a, vs, rfl, ha, za⟩ := hx.tup_inv
    cases h
    refine .inr (.inr ⟨a, vs, rfl, seqT f.low ha, fun e => ?_, fun _ p hp => k.newT f za.cutV hp⟩)
    refine k.here f ?_
    have e2 : M.cut ‹List M.D› lo hi = ‹List M.D› := by
      unfold M.cut
      rw [<- za.length]
      have e1 : M.six vs.length 0 lo = 0 := e.1
      have e3 : M.six vs.length vs.length hi = vs.length := e.2
      rw [e1, e3, List.drop_zero, Nat.sub_zero, za.length, List.take_length]
    rw [e2]
    exact .tup ha za
  . obtain ⟨a, vs, rfl, ha, za⟩ := hx.lst_inv
    cases h
    exact .inl ⟨a, vs, rfl, SqL.of (f.low _ _ ha), fun p hp => k.newL f za.cutV hp⟩
  . cases hx with
    | scr ha za =>
      cases h
      exact .inl ⟨_, _, rfl, Same.seq f.low ha, fun p hp => k.newL f za.cutV hp⟩
end
end S
namespace S
open PySem PySem.Spec PyProof.Rows L2
variable [Wd] [Hot]
section
variable {K : PySem.W.Frag} {F F' H H' : Hp} {T T' : List Addr} {fp fq fr : Fp} {ρ : M.PSt} {σ : St}
abbrev keys (fp : Fp) : List Addr := fp.map (·.1)
theorem FpH.sub (f : FpH F H fp) (hm : ∀ e ∈ fq, e ∈ fp) (hc : ∀ a, (keys fq).count a <= (keys fp).count a) : FpH F H fq := by
  refine ⟨f.low, fun e he => f.at_ e (hm e he), ?_, f.tbs fun a h1 h2 h3 => ⟨h1, rfl, fun e he => h3 e (hm e he)⟩⟩
  rw [List.nodup_iff_count]
  exact fun a => Nat.le_trans (hc a) (List.nodup_iff_count.mp f.nd a)
structure Part (a b : Fp) : Prop where
  m : ∀ e ∈ a, e ∈ b
  c : ∀ x, (keys a).count x <= (keys b).count x
theorem FpH.part (f : FpH F H fp) (p : Part fq fp) : FpH F H fq := f.sub p.m p.c
theorem Part.refl {a : Fp} : Part a a := ⟨fun _ h => h, fun _ => Nat.le_refl _⟩
theorem Part.trans {a b c : Fp} (p : Part a b) (q : Part b c) : Part a c := ⟨fun e h => q.m e (p.m e h), fun x => Nat.le_trans (p.c x) (q.c x)⟩
theorem Part.app {a b c d : Fp} (p : Part a b) (q : Part c d) : Part (a ++ c) (b ++ d) := by
  refine ⟨fun e h => ?_, fun x => ?_⟩
  . rcases List.mem_append.mp h with h | h
    . exact List.mem_append_left _ (p.m e h)
    . exact List.mem_append_right _ (q.m e h)
  . have := p.c x
    have := q.c x
    simp only [keys, List.map_append, List.count_append] at *
    omega
theorem Part.right {a b c : Fp} (p : Part a c) : Part a (b ++ c) := by
  refine ⟨fun e h => List.mem_append_right _ (p.m e h), fun x => ?_⟩
  have := p.c x
  simp only [keys, List.map_append, List.count_append] at *
  omega
theorem Part.nil {b : Fp} : Part [] b := ⟨fun e h => (nomatch h), fun x => by simp [keys]⟩
local macro_rules | `(tactic| walk_at "parts") => `(tactic| (constructor; (intro e h; simp only [List.mem_append, List.mem_cons] at *; grind); (intro x; simp only [keys, List.map_append, List.map_cons, List.count_append, List.count_cons] at *; omega)))
theorem Part.swap {a b c : Fp} : Part (a ++ (b ++ c)) (b ++ (a ++ c)) := by walk_at "parts"
theorem RpE.get {env : List (Option M.O)} {i : Nat} {o : M.O} (r : RpE K F T σ env fp) (h : env[i]? = some (some o)) (hne : M.xy' o = true := by first | assumption | rfl) : ∃ v f1 f2 f3, σ[i]? = some (some v) /\ fp = f1 ++ (f2 ++ f3) /\ Rp K F T v o f2 ∧
    RpE K F T σ (env.set i none) (f1 ++ f3) /\ ∀ F' T' v' o' f2', Ext F T F' T' -> Rp K F' T' v' o' f2' -> RpE K F' T' (σ.set i (some v')) (env.set i (some o')) (f1 ++ (f2' ++ f3)) := by
  induction r generalizing i with
  | nil => cases h
  | off r ih =>
    cases i with
    | zero => cases h
    | succ i =>
      obtain ⟨v, f1, f2, f3, h1, rfl, h3, h4, h5⟩ := ih (i := i) h
      exact ⟨v, f1, f2, f3, h1, rfl, h3, .off h4, fun F' T' v' o' f2' e r' => .off (h5 F' T' v' o' f2' e r')⟩
  | @on v0 o0 σ env fa fb r0 r ih =>
    cases i with
    | zero =>
      have e : o0 = o := Option.some.inj (Option.some.inj h)
      subst e
      exact ⟨v0, [], fa, fb, rfl, rfl, r0, .off r, fun F' T' v' o' f2' e r' => (RpE.on r' (r.mono e) : RpE K F' T' _ _ (f2' ++ fb))⟩
    | succ i =>
      obtain ⟨v, f1, f2, f3, h1, rfl, h3, h4, h5⟩ := ih (i := i) h
      refine ⟨v, fa ++ f1, f2, f3, h1, by simp, h3, ?_, fun F' T' v' o' f2' e r' => ?_⟩
      . rw [List.append_assoc]; exact .on r0 h4
      . rw [List.append_assoc]; exact .on (r0.mono e) (h5 F' T' v' o' f2' e r')
  | hot hh z r ih =>
    cases i with
    | zero => rw [<- Option.some.inj (Option.some.inj h)] at hne; cases hne
    | succ i =>
      obtain ⟨v, f1, f2, f3, h1, rfl, h3, h4, h5⟩ := ih (i := i) h
      exact ⟨v, f1, f2, f3, h1, rfl, h3, .hot (by rw [List.length_set]; exact hh) z h4, fun F' T' v' o' f2' e r' => .hot (by rw [List.length_set]; exact hh) (z.mono' e) (h5 F' T' v' o' f2' e r')⟩
  | clo hh z r ih =>
    cases i with
    | zero => rw [<- Option.some.inj (Option.some.inj h)] at hne; cases hne
    | succ i =>
      obtain ⟨v, f1, f2, f3, h1, rfl, h3, h4, h5⟩ := ih (i := i) h
      exact ⟨v, f1, f2, f3, h1, rfl, h3, .clo (by rw [List.length_set]; exact hh) z h4, fun F' T' v' o' f2' e r' => .clo (by rw [List.length_set]; exact hh) (z.mono e) (h5 F' T' v' o' f2' e r')⟩
theorem RpE.val {env : List (Option M.O)} {i : Nat} {o : M.O} (r : RpE K F T σ env fp) (h : env[i]? = some (some o)) : ∃ v, σ[i]? = some (some v) := by
  induction r generalizing i with
  | nil => cases h
  | off r ih => cases i with
    | zero => cases h
    | succ i => exact ih (i := i) h
  | on _ r ih => cases i with
    | zero => exact ⟨_, rfl⟩
    | succ i => exact ih (i := i) h
  | hot _ _ r ih => cases i with
    | zero => exact ⟨_, rfl⟩
    | succ i => exact ih (i := i) h
  | clo _ _ r ih => cases i with
    | zero => exact ⟨_, rfl⟩
    | succ i => exact ih (i := i) h
theorem RpE.exn {env : List (Option M.O)} {i : Nat} (r : RpE K F T σ env fp) (h : env[i]? = some (some .exn)) : ∃ a n dd x, Hot.hot = some (a, n, dd, x) /\ XcR K F T x (.ref (He.ga K x.cls)) dd /\ σ[i]? = some (some (.ref a)) := by
  induction r generalizing i with
  | nil => cases h
  | off r ih => cases i with
    | zero => cases h
    | succ i => exact ih (i := i) h
  | on q r ih => cases i with
    | zero =>
      have e := Option.some.inj (Option.some.inj h)
      subst e
      cases q
    | succ i => exact ih (i := i) h
  | hot hh z r ih => cases i with
    | zero => exact ⟨_, _, _, _, hh, z, rfl⟩
    | succ i => exact ih (i := i) h
  | clo hh z r ih => cases i with
    | zero => cases h
    | succ i => exact ih (i := i) h
theorem cG' {α : Type} : ∀ {l : List α} {i : Nat} {x : α}, l[i]? = some x -> l.set i x = l
  | [], _, _, h => by cases h
  | a :: l, 0, x, h => by rw [<- Option.some.inj h]; rfl
  | a :: l, i + 1, x, h => by
    show a :: l.set i x = a :: l
    rw [cG' (l := l) (i := i) h]
theorem RpE.len {env : List (Option M.O)} (r : RpE K F T σ env fp) : σ.length = env.length := by
  induction r with
  | nil => rfl
  | off _ ih => exact congrArg (· + 1) ih
  | on _ _ ih => exact congrArg (· + 1) ih
  | hot _ _ _ ih => exact congrArg (· + 1) ih
  | clo _ _ _ ih => exact congrArg (· + 1) ih
theorem RpE.drop {env : List (Option M.O)} (r : RpE K F T σ env fp) (i : Nat) (x : Option V) : ∃ fq, RpE K F T (σ.set i x) (env.set i none) fq /\ Part fq fp := by
  induction r generalizing i with
  | nil => exact ⟨[], .nil, .refl⟩
  | @off y σ env fp r ih =>
    cases i with
    | zero => exact ⟨_, .off r, .refl⟩
    | succ i =>
      obtain ⟨fq, h1, h2⟩ := ih i
      exact ⟨fq, .off h1, h2⟩
  | @on v0 o0 σ env fa fb r0 r ih =>
    cases i with
    | zero => exact ⟨_, .off r, .right .refl⟩
    | succ i =>
      obtain ⟨fq, h1, h2⟩ := ih i
      exact ⟨_, .on r0 h1, .app .refl h2⟩
  | hot hh z r ih =>
    cases i with
    | zero => exact ⟨_, .off r, .refl⟩
    | succ i =>
      obtain ⟨fq, h1, h2⟩ := ih i
      exact ⟨fq, .hot (by rw [List.length_set]; exact hh) z h1, h2⟩
  | clo hh z r ih =>
    cases i with
    | zero => exact ⟨_, .off r, .refl⟩
    | succ i =>
      obtain ⟨fq, h1, h2⟩ := ih i
      exact ⟨fq, .clo (by rw [List.length_set]; exact hh) z h1, h2⟩
theorem RpE.drop0 {env : List (Option M.O)} (r : RpE K F T σ env fp) (i : Nat) : ∃ fq, RpE K F T σ (env.set i none) fq /\ Part fq fp := by
  induction r generalizing i with
  | nil => exact ⟨[], .nil, .refl⟩
  | @off y σ env fp r ih =>
    cases i with
    | zero => exact ⟨_, .off r, .refl⟩
    | succ i =>
      obtain ⟨fq, h1, h2⟩ := ih i
      exact ⟨fq, .off h1, h2⟩
  | @on v0 o0 σ env fa fb r0 r ih =>
    cases i with
    | zero => exact ⟨_, .off r, .right .refl⟩
    | succ i =>
      obtain ⟨fq, h1, h2⟩ := ih i
      exact ⟨_, .on r0 h1, .app .refl h2⟩
  | hot hh z r ih =>
    cases i with
    | zero => exact ⟨_, .off r, .refl⟩
    | succ i =>
      obtain ⟨fq, h1, h2⟩ := ih i
      exact ⟨fq, .hot (by rw [List.length_set]; exact hh) z h1, h2⟩
  | clo hh z r ih =>
    cases i with
    | zero => exact ⟨_, .off r, .refl⟩
    | succ i =>
      obtain ⟨fq, h1, h2⟩ := ih i
      exact ⟨fq, .clo (by rw [List.length_set]; exact hh) z h1, h2⟩
theorem RpE.put {env : List (Option M.O)} (r : RpE K F T σ env fp) {i : Nat} (hi : i < env.length) {v : V} {o : M.O} {f2 : Fp} (q : Rp K F T v o f2) :
    ∃ fq, RpE K F T (σ.set i (some v)) (env.set i (some o)) fq /\ Part fq (fp ++ f2) := by
  induction r generalizing i with
  | nil => cases hi
  | @off y σ env fp r ih =>
    cases i with
    | zero => exact ⟨_, .on q r, by walk_at "parts"⟩
    | succ i =>
      obtain ⟨fq, h1, h2⟩ := ih (i := i) (Nat.lt_of_succ_lt_succ hi)
      exact ⟨fq, .off h1, h2⟩
  | @on v0 o0 σ env fa fb r0 r ih =>
    cases i with
    | zero => exact ⟨_, .on q r, by walk_at "parts"⟩
    | succ i =>
      obtain ⟨fq, h1, h2⟩ := ih (i := i) (Nat.lt_of_succ_lt_succ hi)
      refine ⟨_, .on r0 h1, ?_⟩
      rw [List.append_assoc]
      exact .app .refl h2
  | hot hh z r ih =>
    cases i with
    | zero => exact ⟨_, .on q r, by walk_at "parts"⟩
    | succ i =>
      obtain ⟨fq, h1, h2⟩ := ih (i := i) (Nat.lt_of_succ_lt_succ hi)
      exact ⟨fq, .hot (by rw [List.length_set]; exact hh) z h1, h2⟩
  | clo hh z r ih =>
    cases i with
    | zero => exact ⟨_, .on q r, by walk_at "parts"⟩
    | succ i =>
      obtain ⟨fq, h1, h2⟩ := ih (i := i) (Nat.lt_of_succ_lt_succ hi)
      exact ⟨fq, .clo (by rw [List.length_set]; exact hh) z h1, h2⟩
theorem RpE.put0 {env : List (Option M.O)} (r : RpE K F T σ env fp) {i : Nat} {v : V} (hi : σ[i]? = some (some v)) {o : M.O} {f2 : Fp} (q : Rp K F T v o f2) :
    ∃ fq, RpE K F T σ (env.set i (some o)) fq /\ Part fq (fp ++ f2) := by
  have hl : i < env.length := by rw [<- r.len]; exact (List.getElem?_eq_some_iff.mp hi).1
  obtain ⟨fq, h1, h2⟩ := r.put hl q
  rw [cG' hi] at h1
  exact ⟨fq, h1, h2⟩
def iH' (F : Hp) : Fp -> Hp
  | [] => F
  | e :: r => upd (iH' F r) e.1 e.2
theorem dk' {a : Addr} : ∀ {fp : Fp}, a ∉ keys fp -> iH' F fp a = F a
  | [], _ => rfl
  | e :: r, h => by
    have h' : a ≠ e.1 /\ a ∉ keys r := by simpa [keys] using h
    show upd (iH' F r) e.1 e.2 a = F a
    rw [upd_ne h'.1, dk' h'.2]
theorem cJ' : ∀ {fp : Fp}, (keys fp).Nodup -> ∀ e ∈ fp, iH' F fp e.1 = some e.2
  | e :: r, h, e', he => by
    obtain ⟨h1, h2⟩ := List.nodup_cons.mp h
    show upd (iH' F r) e.1 e.2 e'.1 = _
    rcases List.mem_cons.mp he with rfl | he
    . exact upd_same
    . rw [upd_ne fun z => h1 (by have q : e'.1 ∈ keys r := List.mem_map_of_mem he; rw [z] at q; exact q)]
      exact cJ' h2 e' he
theorem cB' {fp : Fp} (h : ∀ e ∈ fp, F e.1 = none) : Same F (iH' F fp) := fun a o e => by
  rw [dk' fun z => ?_]
  . exact e
  . obtain ⟨x, h1, h2⟩ := List.mem_map.mp z
    rw [<- h2, h x h1] at e
    cases e
theorem FpH.freeze {a b : Fp} (f : FpH F H (a ++ b)) : FpH (iH' F a) H b := by
  have nd : (keys a ++ keys b).Nodup := by rw [<- List.map_append]; exact f.nd
  obtain ⟨n1, n2, n3⟩ := List.nodup_append.mp nd
  refine ⟨fun p o h => ?_, fun e he => ⟨(f.at_ e (List.mem_append_right _ he)).1, ?_⟩, n2, f.tbs (fun p h1 h2 h3 => ⟨?_, rfl, fun e he => h3 e (List.mem_append_right _ he)⟩) fun c q h => hQ' (cB' fun e he => (f.at_ e (List.mem_append_left _ he)).2) h⟩
  . by_cases hp : p ∈ keys a
    . obtain ⟨x, h1, rfl⟩ := List.mem_map.mp hp
      rw [cJ' n1 x h1] at h
      rw [(f.at_ x (List.mem_append_left _ h1)).1]
      exact h
    . rw [dk' hp] at h
      exact f.low _ _ h
  . rw [dk' fun z => n3 _ z _ (List.mem_map_of_mem he) rfl]
    exact (f.at_ e (List.mem_append_right _ he)).2
  . rw [dk' fun z => ?_]
    . exact h1
    . obtain ⟨x, hx, e⟩ := List.mem_map.mp z
      exact h3 x (List.mem_append_left _ hx) e
mutual
theorem Rp.freeze {G : Hp} (s : Same F G) : ∀ {v : V} {o : M.O} {fp : Fp}, Rp K F T v o fp -> (∀ e ∈ fp, G e.1 = some e.2) -> Fz K G T v (M.frz o)
  | _, _, _, .fz h, _ => h.mono (.of s)
  | _, _, _, .lst r, g => .lst (g _ List.mem_cons_self) (RpA.freeze s r fun e he => g e (List.mem_cons_of_mem _ he))
  | _, _, _, .tup r, g => .tup (SqT.of (g _ List.mem_cons_self)) (RpA.freeze s r fun e he => g e (List.mem_cons_of_mem _ he))
  | _, _, _, .dct k r, g => .dct (.inl (g _ List.mem_cons_self)) k (RpA.freeze s r fun e he => g e (List.mem_cons_of_mem _ he))
  | _, _, _, .dcl k r, g => .dcl (.inl (g _ List.mem_cons_self)) k (RpA.freeze s r fun e he => g e (List.mem_cons_of_mem _ he))
  | _, _, _, .dcn k q r, g => .dcn (.inl (g _ List.mem_cons_self)) k (q.mono (.of s)) (RpA.freeze s r fun e he => g e (List.mem_cons_of_mem _ he))
theorem RpA.freeze {G : Hp} (s : Same F G) : ∀ {vs : List V} {os : List M.O} {fp : Fp}, RpA K F T vs os fp -> (∀ e ∈ fp, G e.1 = some e.2) -> FzA K G T vs (M.frzs os)
  | _, _, _, .nil, _ => .nil
  | _, _, _, .cons h r, g => .cons (Rp.freeze s h fun e he => g e (List.mem_append_left _ he)) (RpA.freeze s r fun e he => g e (List.mem_append_right _ he))
end
theorem Rp.frozen {v : V} {o : M.O} {a b : Fp} (q : Rp K F T v o a) (f : FpH F H (a ++ b)) : ∃ G, Same F G /\ Fz K G T v (M.frz o) /\ FpH G H b := by
  have s : Same F (iH' F a) := cB' fun e he => (f.at_ e (List.mem_append_left _ he)).2
  refine ⟨_, s, q.freeze s fun e he => cJ' ?_ e he, f.freeze⟩
  have nd : (keys a ++ keys b).Nodup := by rw [<- List.map_append]; exact f.nd
  exact (List.nodup_append.mp nd).1
theorem RpA.frozen {v : List V} {o : List M.O} {a b : Fp} (q : RpA K F T v o a) (f : FpH F H (a ++ b)) : ∃ G, Same F G /\ FzA K G T v (M.frzs o) /\ FpH G H b := by
  have s : Same F (iH' F a) := cB' fun e he => (f.at_ e (List.mem_append_left _ he)).2
  refine ⟨_, s, q.freeze s fun e he => cJ' ?_ e he, f.freeze⟩
  have nd : (keys a ++ keys b).Nodup := by rw [<- List.map_append]; exact f.nd
  exact (List.nodup_append.mp nd).1
theorem Rel.frozen {v : V} {o : M.O} (r : Rel K ρ σ H F T (fp ++ fr)) (q : Rp K F T v o fp) : ∃ G, Same F G /\ Fz K G T v (M.frz o) /\ Rel K ρ σ H G T fr := by
  obtain ⟨fe, fw, re, rw, f⟩ := r
  have f' : FpH F H (fp ++ (fe ++ (fw ++ fr))) := f.part (by walk_at "parts")
  obtain ⟨G, s, z, f2⟩ := q.frozen f'
  exact ⟨G, s, z, fe, fw, re.mono (.of s), rw.mono (.of s), f2⟩
theorem Rel.part {fr' : Fp} (r : Rel K ρ σ H F T fr) (p : Part fr' fr) : Rel K ρ σ H F T fr' := by
  obtain ⟨fe, fw, re, rw, f⟩ := r
  exact ⟨fe, fw, re, rw, f.part (.app .refl (.app .refl p))⟩
theorem FpH.own {p : Addr} {o : HO} (f : FpH F H fp) (hp : H p = none) : FpH F (upd H p o) ((p, o) :: fp) := by
  have np : ∀ e ∈ fp, e.1 ≠ p := fun e he => ne_of_none (f.at_ e he).1 hp
  refine ⟨fun a u h => ?_, fun e he => ?_, ?_, f.tbs fun a h1 h2 h3 => ?_⟩
  . rw [upd_ne (ne_of_none (f.low _ _ h) hp)]; exact f.low _ _ h
  . rcases List.mem_cons.mp he with rfl | he
    . exact ⟨upd_same, f.free hp⟩
    . rw [upd_ne (np e he)]; exact f.at_ e he
  . refine List.nodup_cons.mpr ⟨fun h => ?_, f.nd⟩
    obtain ⟨x, h1, h2⟩ := List.mem_map.mp h
    exact np x h1 h2
  . have ha : a ≠ p := fun z => h2 (by rw [z]; exact hp)
    refine ⟨h1, upd_ne ha, fun e he => ?_⟩
    rcases List.mem_cons.mp he with rfl | he
    . exact Ne.symm ha
    . exact h3 e he
theorem FpH.write {p : Addr} {o o' : HO} {a b : Fp} (f : FpH F H (a ++ ((p, o) :: b))) : FpH F (upd H p o') (a ++ ((p, o') :: b)) := by
  have nd : (keys a ++ (p :: keys b)).Nodup := by
    have := f.nd
    simpa [keys] using this
  obtain ⟨n1, n2, n3⟩ := List.nodup_append.mp nd
  have hp : F p = none := (f.at_ (p, o) (by simp)).2
  refine ⟨fun x u h => ?_, fun e he => ?_, ?_, f.tbs fun x h1 h2 h3 => ?_⟩
  . rw [upd_ne (fun z => by rw [z, hp] at h; cases h)]; exact f.low _ _ h
  . rcases List.mem_append.mp he with h | h
    . rw [upd_ne (n3 _ (List.mem_map_of_mem h) _ List.mem_cons_self)]
      exact f.at_ e (List.mem_append_left _ h)
    . rcases List.mem_cons.mp h with rfl | h
      . exact ⟨upd_same, hp⟩
      . rw [upd_ne (fun z => (List.nodup_cons.mp n2).1 (by have q : e.1 ∈ keys b := List.mem_map_of_mem h; rw [z] at q; exact q))]
        exact f.at_ e (List.mem_append_right _ (List.mem_cons_of_mem _ h))
  . have e : (a ++ ((p, o') :: b)).map (·.1) = keys a ++ (p :: keys b) := by simp [keys]
    rw [e]
    exact nd
  . have ha : x ≠ p := fun z => h3 (p, o) (by simp) z.symm
    refine ⟨h1, upd_ne ha, fun e he => ?_⟩
    rcases List.mem_append.mp he with h | h
    . exact h3 e (List.mem_append_left _ h)
    . rcases List.mem_cons.mp h with rfl | h
      . exact Ne.symm ha
      . exact h3 e (List.mem_append_right _ (List.mem_cons_of_mem _ h))
end
section
variable {X : Cx} {W : WX} {K : PySem.W.Frag} {pos : Pos}
theorem ac' {i j pos} : SE X W (.Constant (.int i) j pos) (M.eC (.int i)) := PE.imp pe_int fun σ H Q ⟨ρ, F, T, fr, rel, h⟩ => h _ _ _ _ .refl (.int i) rel
theorem cp' {b j pos} : SE X W (.Constant (.bool b) j pos) (M.eC (.bl b)) := PE.imp pe_bl fun σ H Q ⟨ρ, F, T, fr, rel, h⟩ => h _ _ _ _ .refl (.bl b) rel
theorem qd' {j pos} : SE X W (.Constant .none j pos) (M.eC .non) := PE.imp pe_non fun σ H Q ⟨ρ, F, T, fr, rel, h⟩ => h _ _ _ _ .refl .non rel
def vv' (s : M.Tx) : Bool := s.all (fun c => decide (c < 1114112)) && decide (s.length <= 16777216)
theorem qm' {s : M.Tx} (h : vv' s = true) : okT s := by
  unfold vv' at h
  rw [Bool.and_eq_true, List.all_eq_true] at h
  exact ⟨fun c hc => of_decide_eq_true (h.1 c hc), of_decide_eq_true h.2⟩
theorem be' {x : Str} {j pos} (s : M.Tx) (hs : x = sx s) (ho : vv' s = true) : SE X W (.Constant (.str x) j pos) (M.eC (.str s)) := by
  subst hs
  exact PE.imp pe_str fun σ H Q ⟨ρ, F, T, fr, rel, h⟩ => h _ _ _ _ .refl (.str (qm' ho)) rel
theorem vl' {e : Expr} {v : V} {d : M.D} (h : PE X e (tC v)) (z : ∀ F T, Fz X.K F T v d) : SE X W e (M.eC d) := PE.imp h fun σ H Q ⟨ρ, F, T, fr, rel, h⟩ => h _ _ _ _ .refl (z F T) rel
theorem s2' {i : Nat} {σ : St} {H : Hp} {Q : VK} (h : qE K W (M.eV i) σ H Q) : tVar i σ H Q := by
  obtain ⟨ρ, F, T, fr, rel, h⟩ := h
  unfold M.eV at h
  split at h
  . rename_i d e
    obtain ⟨fe, fw, re, rw, f⟩ := id rel
    obtain ⟨v, f1, f2, f3, h1, rfl, h3, h4, h5⟩ := re.get e
    cases h3 with
    | fz z => exact ⟨v, h1, h v H F T .refl z rel⟩
  . exact h.elim
  . exact h.elim
  . rename_i o _ hne hnc e
    obtain ⟨fe, fw, re, rw, f⟩ := rel
    obtain ⟨v, f1, f2, f3, h1, rfl, h3, h4, h5⟩ := re.get e (M.ff' (fun z => hne (by rw [z])) fun z => hnc (by rw [z]))
    have f' : FpH F H (f2 ++ (f1 ++ f3 ++ (fw ++ fr))) := f.part (by refine ⟨fun e h => ?_, fun x => ?_⟩; (simp only [List.mem_append] at *; grind); (simp only [keys, List.map_append, List.count_append] at *; omega))
    obtain ⟨G, s, z, fG⟩ := h3.frozen f'
    have re' := h5 G T v (.fz (M.frz o)) [] (.of s) (.fz z)
    rw [cG' h1] at re'
    exact ⟨v, h1, h v H G T (.of s) z ⟨_, fw, re', rw.mono (.of s), by simpa using fG⟩⟩
  . exact h.elim
theorem ae' {e : Expr} {i : Nat} (h : PE X e (tVar i)) : SE X W e (M.eV i) := PE.imp h fun _ _ _ => s2'
variable {a b c : Expr} {ma mb mc : M.ME} {σ : St} {H : Hp} {Q : VK}
theorem fo' {f : M.D -> M.D -> Option M.D} {r : R2} (hf : Op2 K f r) (h : qE K W (M.eOp f ma mb) σ H Q) : tOp r (qE K W ma) (qE K W mb) σ H Q := by
  obtain ⟨ρ, F, T, fr, rel, h⟩ := h
  refine av' rel h fun dx ρ1 v H1 F1 T1 e1 z1 r1 h1 => ?_
  refine av' r1 h1 fun dy ρ2 u H2 F2 T2 e2 z2 r2 h2 => ?_
  obtain ⟨dz, ez, q⟩ := aR'.ofO h2
  obtain ⟨fp, f2, back⟩ := r2.fp
  exact hf f2 (z1.mono e2) z2 ez fun v' H3 F3 s zz f3 => q v' H3 F3 T2 (e1.trans (e2.trans (.of s))) zz (back H3 F3 s f3)
theorem aC' {op : Operator} {f : M.D -> M.D -> Option M.D} {r : R2} (ho : OpR X (binaryOp op) r) (hf : Op2 X.K f r) (ha : SE X W a ma) (hb : SE X W b mb) : SE X W (.BinOp a op b pos) (M.eOp f ma mb) := PE.imp (pe_op ho ha hb) fun _ _ _ => fo' hf
theorem mv' {op : CmpOp} {f : M.D -> M.D -> Option M.D} {r : R2} (ho : OpR X (compareOp op) r) (hf : Op2 X.K f r) (hm : behindInMarks op b = false) (ha : SE X W a ma) (hb : SE X W b mb) : SE X W (.Compare a [op] [b] pos) (M.eOp f ma mb) := PE.imp (pe_cmpR ho ha hb hm) fun _ _ _ => fo' hf
theorem co' {f : M.D -> M.D -> Option M.D} {r : R2} (ho : IxR X r) (hf : Op2 X.K f r) (ha : SE X W a ma) (hb : SE X W b mb) (hs : PlainIx b) : SE X W (.Subscript a b pos) (M.eOp f ma mb) := PE.imp (pe_ix ho ha hb hs) fun _ _ _ => fo' hf
theorem mh' {f : M.D -> Option M.D} {r : V -> Hp -> VK -> Prop} (hf : Op1 K f r) (h : qE K W (M.eUn f ma) σ H Q) : tUn r (qE K W ma) σ H Q := by
  obtain ⟨ρ, F, T, fr, rel, h⟩ := h
  refine av' rel h fun dx ρ1 v H1 F1 T1 e1 z1 r1 h1 => ?_
  obtain ⟨dz, ez, q⟩ := aR'.ofO h1
  obtain ⟨fp, f2, back⟩ := r1.fp
  exact hf f2 z1 ez fun v' H3 F3 s zz f3 => q v' H3 F3 T1 (e1.trans (.of s)) zz (back H3 F3 s f3)
theorem v1' {op : UnaryOp} {f : M.D -> Option M.D} {r : V -> Hp -> VK -> Prop} (ho : UnR X (unaryOp op) r) (hf : Op1 X.K f r) (ha : SE X W a ma) : SE X W (.UnaryOp op a pos) (M.eUn f ma) := PE.imp (pe_un ho ha) fun _ _ _ => mh' hf
theorem aR'.asB {d : M.D} {ρ : M.PSt} {P : Bool -> M.PSt -> Prop} {Y : Wx} (h : aR' (M.asB d ρ) P Y) : ∃ b, d = .bl b /\ P b ρ := by
  cases d <;> first | exact h.elim | exact ⟨_, rfl, h⟩
theorem kP' {f g : M.D -> M.D -> Option M.D} {r r' : R2} (hf : Op2 K f r) (hg : Op2 K g r') (h : qE K W (M.ep' f g ma mb mc) σ H Q) : tChain r r' (qE K W ma) (qE K W mb) (qE K W mc) σ H Q := by
  obtain ⟨ρ, F, T, fr, rel, h⟩ := h
  refine av' rel h fun dx ρ1 v H1 F1 T1 e1 z1 r1 h1 => ?_
  refine av' r1 h1 fun dy ρ2 u H2 F2 T2 e2 z2 r2 h2 => ?_
  obtain ⟨dz, ez, h3⟩ := aR'.ofO (aR'.bind h2)
  obtain ⟨fp, f2, back⟩ := r2.fp
  refine hf f2 (z1.mono e2) z2 ez fun v' H3 F3 s zz f3 => ?_
  have h4 := aR'.bind h3
  obtain ⟨k, rfl, h5⟩ := aR'.asB h4
  refine ⟨k, zz.bl_inv, ?_⟩
  have r3 := back H3 F3 s f3
  cases k with
  | true =>
    rw [if_pos rfl] at h5 ⊢
    refine av' r3 (h5.mono (fun _ _ z => z) fun _ _ z => z.mono (.of s)) fun dw ρ4 w' H4 F4 T4 e4 z4 r4 h6 => ?_
    obtain ⟨dz, ez, q⟩ := aR'.ofO h6
    obtain ⟨fp, f4, back⟩ := r4.fp
    exact hg f4 ((z2.mono (.of s)).mono e4) z4 ez fun v' H5 F5 s5 zz f5 => q v' H5 F5 T4 (e1.trans (e2.trans ((Ext.of s).trans (e4.trans (.of s5))))) zz (back H5 F5 s5 f5)
  | false =>
    rw [if_neg Bool.false_ne_true] at h5 ⊢
    exact h5 _ H3 F3 T2 (e1.trans (e2.trans (.of s))) (.bl false) r3
variable {rest : List Expr}
theorem qe' (ha : SE X W a ma) (hb : SE X W (.BoolOp .And (b :: rest) pos) mb) : SE X W (.BoolOp .And (a :: b :: rest) pos) (M.sm' ma mb) := PE.imp (pe_and ha hb) fun σ H Q ⟨ρ, F, T, fr, rel, h⟩ => by
  refine av' rel h fun dx ρ1 v H1 F1 T1 e1 z1 r1 h1 => ?_
  obtain ⟨k, rfl, h2⟩ := aR'.asB (aR'.bind h1)
  refine ⟨k, z1.bl_inv, ?_⟩
  cases k with
  | true => rw [if_pos rfl] at h2 ⊢; exact ⟨ρ1, F1, T1, fr, r1, h2.mono (fun _ _ z v H' F' T' e => z v H' F' T' (e1.trans e)) fun _ _ z => z⟩
  | false => rw [if_neg Bool.false_ne_true] at h2 ⊢; exact h2 _ _ _ _ e1 (.bl false) r1
theorem qc' {op} (ha : SE X W a ma) : SE X W (.BoolOp op [a] pos) ma := pe_one ha
theorem ti' (ha : SE X W a ma) : SE X W (.UnaryOp .Not a pos) (M.up' ma) := PE.imp (pe_not ha) fun σ H Q ⟨ρ, F, T, fr, rel, h⟩ => by
  refine av' rel h fun dx ρ1 v H1 F1 T1 e1 z1 r1 h1 => ?_
  obtain ⟨k, rfl, h2⟩ := aR'.asB (aR'.bind h1)
  exact ⟨k, z1.bl_inv, h2 _ _ _ _ e1 (.bl _) r1⟩
variable {mt mu : M.MT}
theorem fT' (ha : SE X W a ma) (he : ∀ whole, isTrue a X.env whole = (do let v ← whole; standAt a.pos; holding [v] (truthy v)) := by intro _; rfl) : ST X W a (M.tE ma) := PT.imp (pt_val ha he) fun σ H Q ⟨ρ, F, T, fr, rel, h⟩ => by
  refine av' rel h fun dx ρ1 v H1 F1 T1 e1 z1 r1 h1 => ?_
  obtain ⟨k, rfl, h2⟩ := aR'.asB h1
  exact ⟨k, z1.bl_inv, h2 _ _ _ e1 r1⟩
theorem aK' {op : CmpOp} {f : M.D -> M.D -> Option M.D} {r : R2} (ho : OpR X (compareOp op) r) (hf : Op2 X.K f r) (hm : behindInMarks op b = false) (ha : SE X W a ma) (hb : SE X W b mb) : ST X W (.Compare a [op] [b] pos) (M.tE (M.eOp f ma mb)) :=
  PT.imp (pt_cmpR ho ha hb hm) fun σ H Q ⟨ρ, F, T, fr, rel, h⟩ => by
    show tOp r (qE X.K W ma) (qE X.K W mb) σ H fun x H' => ∃ k, x = .bl k /\ Q k H'
    refine fo' hf ⟨ρ, F, T, fr, rel, (aR'.bind h).mono (fun d ρ1 h1 v H1 F1 T1 e z r => ?_) fun _ _ z => z⟩
    obtain ⟨k, rfl, h2⟩ := aR'.asB h1
    exact ⟨k, z.bl_inv, h2 _ _ _ e r⟩
theorem jR' {op op' : CmpOp} {f g : M.D -> M.D -> Option M.D} {r r' : R2} (ho : OpR X (compareOp op) r) (hf : Op2 X.K f r) (ho' : OpR X (compareOp op') r') (hg : Op2 X.K g r') (ha : SE X W a ma) (hb : SE X W b mb) (hc : SE X W c mc)
    (hm : lastMarks [op, op'] [b, c] = false := by with_unfolding_all rfl) : ST X W (.Compare a [op, op'] [b, c] pos) (M.tE (M.ep' f g ma mb mc)) := PT.imp (pt_chain ho ho' ha hb hc hm) fun σ H Q ⟨ρ, F, T, fr, rel, h⟩ => by
    show tChain r r' (qE X.K W ma) (qE X.K W mb) (qE X.K W mc) σ H fun x H' => ∃ k, x = .bl k /\ Q k H'
    refine kP' hf hg ⟨ρ, F, T, fr, rel, (aR'.bind h).mono (fun d ρ1 h1 v H1 F1 T1 e z r => ?_) fun _ _ z => z⟩
    obtain ⟨k, rfl, h2⟩ := aR'.asB h1
    exact ⟨k, z.bl_inv, h2 _ _ _ e r⟩
abbrev SW (X : Cx) (W : WX) (e : Expr) (m : M.MT) : Prop := PW X e (qT X.K W m)
theorem fg' (ha : ST X W a mt) : SW X W (.BoolOp .And [a] pos) mt := pw_and1 ha
theorem cN' (ha : ST X W a mt) : SW X W (.BoolOp .Or [a] pos) mt := pw_or1 ha
theorem jN' (ha : ST X W a mt) (hb : SW X W (.BoolOp .And (b :: rest) pos) mu) : SW X W (.BoolOp .And (a :: b :: rest) pos) (M.p9' mt mu) := PW.imp (pw_and ha hb) fun σ H Q ⟨ρ, F, T, fr, rel, h⟩ => by
  refine hR' rel h fun k ρ1 H1 F1 T1 e1 r1 h1 => ?_
  cases k with
  | true => rw [if_pos rfl] at h1 ⊢; exact ⟨ρ1, F1, T1, fr, r1, h1.mono (fun _ _ z H' F' T' e => z H' F' T' (e1.trans e)) fun _ _ z => z⟩
  | false => rw [if_neg Bool.false_ne_true] at h1 ⊢; exact h1 _ _ _ e1 r1
theorem dK' (ha : ST X W a mt) (hb : SW X W (.BoolOp .Or (b :: rest) pos) mu) : SW X W (.BoolOp .Or (a :: b :: rest) pos) (M.tOr mt mu) := PW.imp (pw_or ha hb) fun σ H Q ⟨ρ, F, T, fr, rel, h⟩ => by
  refine hR' rel h fun k ρ1 H1 F1 T1 e1 r1 h1 => ?_
  cases k with
  | true => rw [if_pos rfl] at h1 ⊢; exact h1 _ _ _ e1 r1
  | false => rw [if_neg Bool.false_ne_true] at h1 ⊢; exact ⟨ρ1, F1, T1, fr, r1, h1.mono (fun _ _ z H' F' T' e => z H' F' T' (e1.trans e)) fun _ _ z => z⟩
theorem jQ' (h : SW X W a mt) : ST X W a mt := PW.pt h
theorem bp' (ha : ST X W a mt) : ST X W (.UnaryOp .Not a pos) (M.d7' mt) := PT.imp (pt_not ha) fun σ H Q ⟨ρ, F, T, fr, rel, h⟩ => hR' rel h fun k ρ1 H1 F1 T1 e1 r1 h1 => h1 _ _ _ e1 r1
variable {es : List Expr} {as : M.MA}
theorem ah' : SA X W [] M.bc' := PA.imp pa_nil fun σ H Q ⟨ρ, F, T, fr, rel, h⟩ => h [] H F T .refl .nil rel
theorem aa' (ha : SE X W a ma) (hr : SA X W es as) (hs : starEach (a :: es) X.env = (false, eval a X.env) :: starEach es X.env := by rfl) : SA X W (a :: es) (M.ad' ma as) := PA.imp (pa_cons ha hr hs) fun σ H Q ⟨ρ, F, T, fr, rel, h⟩ => by
  refine av' rel h fun dx ρ1 v H1 F1 T1 e1 z1 r1 h1 => ?_
  refine bU' r1 h1 fun ds ρ2 vs H2 F2 T2 e2 z2 r2 h2 => ?_
  exact h2 _ _ _ _ (e1.trans e2) (.cons (z1.mono e2) z2) r2
theorem th' {k} (h : SA X W es as) : SE X W (.Tuple es k pos) (M.uo' as) := PE.imp (pe_tup h) fun σ H Q ⟨ρ, F, T, fr, rel, h⟩ => by
  refine bU' rel h fun ds ρ1 vs H1 F1 T1 e1 z1 r1 h1 => ?_
  split at h1
  . rename_i hl
    refine ⟨by rw [z1.length, bx']; exact hl, fun p hp => ?_⟩
    obtain ⟨fp, f, back⟩ := r1.fp
    have s : Same F1 (upd F1 p (.tup vs)) := bQ' (f.free hp)
    exact h1 _ _ _ _ (e1.trans (.of s)) (.tup (SqT.of upd_same) (z1.mono (.of s))) (back _ _ s (f.new hp))
  . exact h1.elim
theorem tj' (h : SA X W es as) : SE X W (.List es pos) (M.nz' as) := PE.imp (pe_lst h) fun σ H Q ⟨ρ, F, T, fr, rel, h⟩ => by
  refine bU' rel h fun ds ρ1 vs H1 F1 T1 e1 z1 r1 h1 => ?_
  split at h1
  . rename_i hl
    refine ⟨by rw [z1.length, bx']; exact hl, fun p hp => ?_⟩
    obtain ⟨fp, f, back⟩ := r1.fp
    have s : Same F1 (upd F1 p (.lst vs)) := bQ' (f.free hp)
    exact h1 _ _ _ _ (e1.trans (.of s)) (.lst upd_same (z1.mono (.of s))) (back _ _ s (f.new hp))
  . exact h1.elim
abbrev SP_ (X : Cx) (W : WX) (e : Option Expr) (m : M.MP) : Prop := PO X e (qP X.K W m)
theorem oo' : SP_ X W none M.pNo := PO.imp po_none fun σ H Q ⟨ρ, F, T, fr, rel, h⟩ => h _ _ _ .refl rel
theorem kx' (ha : SE X W a ma) : SP_ X W (some a) (M.pSo ma) := PO.imp (po_some ha) fun σ H Q ⟨ρ, F, T, fr, rel, h⟩ => by
  refine av' rel h fun dx ρ1 v H1 F1 T1 e1 z1 r1 h1 => ?_
  split at h1
  . exact ⟨_, z1.int_inv, h1 _ _ _ e1 r1⟩
  . exact h1.elim
theorem mr' {r : V -> Option Int -> Option Int -> Hp -> VK -> Prop} {lo hi : Option Expr} {ml mh : M.MP} {p2 : Pos} (ho : SlR X r) (hf : xN' X.K r) (ha : SE X W a ma) (hl : SP_ X W lo ml) (hh : SP_ X W hi mh) : SE X W (.Subscript a (.Slice lo hi none p2) pos) (M.eSl ma ml mh) :=
  PE.imp (pe_slice ho ha hl hh) fun σ H Q ⟨ρ, F, T, fr, rel, h⟩ => by
    refine av' rel h fun dx ρ1 v H1 F1 T1 e1 z1 r1 h1 => ?_
    refine mL' r1 h1 fun l ρ2 H2 F2 T2 e2 r2 h2 => ?_
    refine mL' r2 h2 fun u ρ3 H3 F3 T3 e3 r3 h3 => ?_
    obtain ⟨dz, ez, q⟩ := aR'.ofO h3
    obtain ⟨fp, f3, back⟩ := r3.fp
    exact hf f3 ((z1.mono e2).mono e3) ez fun v' H4 F4 s zz f4 => q v' H4 F4 T3 (e1.trans (e2.trans (e3.trans (.of s)))) zz (back H4 F4 s f4)
end
end S
namespace S
open PySem PySem.Spec PyProof.Rows L2
variable [Wd]
section
variable (K : PySem.W.Frag) (H : Hp)
mutual
inductive NkV : V -> NestedKey -> Prop
  | non : NkV .non .none
  | bl (b : Bool) : NkV (.bl b) (.num (if b = true then 1 else 0))
  | int (i : Int) : NkV (.int i) (.num i)
  | str (x : Str) : NkV (.str x) (.text x)
  | tup {a : Addr} {vs : List V} {ks : List NestedKey} : SqT K H a vs -> NkVs vs ks -> NkV (.ref a) (.tup ks)
inductive NkVs : List V -> List NestedKey -> Prop
  | nil : NkVs [] []
  | cons {v : V} {vs : List V} {k : NestedKey} {ks : List NestedKey} : NkV v k -> NkVs vs ks -> NkVs (v :: vs) (k :: ks)
end
end
section
variable {X : Cx} {pins : List (Addr × Obj)} {σ : St} {H : Hp} {s : Shared}
mutual
theorem NkV.is (I : Inv X pins σ H s) : ∀ {v : V} {k : NestedKey} {u : Value}, NkV X.K H v k -> RelV v u -> NestedIs s.heap k u
  | _, _, _, .non, r => by cases (show _ = Value.none from r); exact .none
  | _, _, _, .bl b, r => by cases (show _ = Value.bool b from r); exact .bool rfl
  | _, _, _, .int i, r => by obtain ⟨t, e⟩ := (show ∃ t, _ = Value.int i t from r); subst e; exact .int i t
  | _, _, _, .str x, r => by obtain ⟨t, e⟩ := (show ∃ t, _ = Value.str x t from r); subst e; exact .text x t
  | _, _, _, .tup (a := a) h q, r => by
    cases (show _ = Value.ref a from r)
    obtain ⟨its, rv, ⟨o, h1, h2, n, h3⟩, _⟩ := I.tuple h
    exact .tup h1 h2 h3 (NkVs.is I q rv)
theorem NkVs.is (I : Inv X pins σ H s) : ∀ {v : List V} {k : List NestedKey} {u : List Value}, NkVs X.K H v k -> Vals v u -> NestedAll s.heap k u
  | _, _, _, .nil, r => by cases r; exact .nil
  | _, _, _, .cons a q, r => by
    cases r with
    | cons ra rq => exact .cons (NkV.is I a ra) (NkVs.is I q rq)
end
end
section
variable {K : PySem.W.Frag} {F H : Hp} {T : List Addr}
mutual
theorem Fz.nk (s : Same F H) : ∀ {v : V} {d : M.D}, Fz K F T v d -> M.kat d = true -> NkV K H v (nk d)
  | _, _, .non, _ => .non
  | _, _, .bl b, _ => .bl b
  | _, _, .int i, _ => .int i
  | _, _, .str h, _ => .str _
  | _, _, .tup h r, e => .tup (seqT s h) (FzA.nk s r e)
  | _, _, .lst h r, e => by cases e
  | _, _, .dct h _ r, e => by cases e
  | _, _, .dcl h k r, e => by cases e
  | _, _, .dcn h k q r, e => by cases e
  | _, _, .rep d, e => by cases e
  | _, _, .obj h, e => by cases e
  | _, _, .ty n, e => by cases e
  | _, _, .fn x, e => by cases e
  | _, _, .scr h r, e => by cases e
theorem FzA.nk (s : Same F H) : ∀ {vs : List V} {ds : List M.D}, FzA K F T vs ds -> M.kats ds = true -> NkVs K H vs (nks ds)
  | _, _, .nil, _ => .nil
  | _, _, .cons h r, e => by
    obtain ⟨e1, e2⟩ := Bool.and_eq_true_iff.mp (show (M.kat _ && M.kats _) = true from e)
    exact .cons (Fz.nk s h e1) (FzA.nk s r e2)
end
def lfV : V -> Option Leaf
  | .non => some .none
  | .bl b => some (.num (if b = true then 1 else 0))
  | .int i => some (.num i)
  | .str x => some (.text x)
  | _ => none
end
section
variable {κ : Type} [DecidableEq κ]
end
abbrev xsV (xs : List (NestedKey × Addr × V)) : List (NestedKey × V) := xs.map fun x => (x.1, x.2.2)
def vB' (K : PySem.W.Frag) (H : Hp) (xs : List (NestedKey × Addr × V)) : Prop := ∀ x ∈ xs, NkV K H (.ref x.2.1) x.1 /\ x.1.depth <= 8
inductive DLk (K : PySem.W.Frag) (H : Hp) (a : Addr) : V -> Option V -> Prop
  | k {kvs : List (Key × V)} (k : Key) : Rd H a (.dK kvs) -> DLk K H a (kV k) (valV kvs k)
  | l {kvs : List (Leaf × V)} {y : V} {l : Leaf} : Rd H a (dcL a kvs) -> lfV y = some l -> DLk K H a y (valV kvs l)
  | n {xs : List (NestedKey × Addr × V)} {b : Addr} {k : NestedKey} : Rd H a (dcN a xs) -> vB' K H xs -> NkV K H (.ref b) k -> k.depth <= 8 -> DLk K H a (.ref b) (valV (xsV xs) k)
  | ln {b : Addr} {k : NestedKey} : Rd H a (dcL a []) -> NkV K H (.ref b) k -> k.depth <= 8 -> DLk K H a (.ref b) none
  | nl {y : V} {l : Leaf} : Rd H a (dcN a []) -> lfV y = some l -> DLk K H a y none
section
variable {X : Cx} {pins : List (Addr × Obj)} {σ : St} {H : Hp} {s : Shared} {a b : Addr} {y : V} {u : Value} {ov : Option V} {A : Around} {E : Value -> Shared -> Prop}
theorem tu' {u : HO} (I : Inv X pins σ H s) (h : Rd H a u) : ObjOk X.prog X.w H s.heap a u := by
  rcases h with h | ⟨o, h⟩
  . exact I.hok a _ h
  . exact (show ObjOk X.prog X.w H s.heap a (.frz o u) from I.hok a _ h).2
theorem ur' (hw : X.prog = Wd.P /\ X.w = Wd.w) (I : Inv X pins σ H s) {kvs : List (Leaf × V)} (h : Rd H a (dcL a kvs)) : (a == sysModules) = false /\ kvs.length <= sizeLine /\ ∃ vs, KV kvs vs /\ s.heap.DictOf (leafKind X.prog X.w) a vs := by
  obtain ⟨⟨h1, h2, vs, h3, h4⟩, _⟩ := (show ObjOk X.prog X.w H s.heap a (dcL a kvs) from tu' I h)
  refine ⟨h1, h2, vs, h3, ?_⟩
  rw [<- hw.1, <- hw.2] at h4
  exact h4
def vp' (xs : List (NestedKey × Addr × V)) (k : NestedKey) (b : Addr) (v : V) : List (NestedKey × Addr × V) :=
  if (xs.any fun x => decide (x.1 = k)) = true then xs.map (fun x => if x.1 = k then (x.1, x.2.1, v) else x) else xs ++ [(k, b, v)]
inductive DSt (K : PySem.W.Frag) (H : Hp) (a : Addr) (y v : V) (N : Hp -> Prop) : Prop
  | k {kvs : List (Key × V)} (k : Key) : H a = some (.dK kvs) -> y = kV k -> ((kvs.map (·.1)).Nodup -> (kvs.length <= sizeLine -> (putK kvs k v).length <= sizeLine) /\ N (upd H a (.dK (putK kvs k v)))) -> DSt K H a y v N
  | l {kvs : List (Leaf × V)} {l : Leaf} : H a = some (dcL a kvs) -> lfV y = some l -> ((kvs.map (·.1)).Nodup -> (kvs.length <= sizeLine -> (putK kvs l v).length <= sizeLine) /\ N (upd H a (dcL a (putK kvs l v)))) -> DSt K H a y v N
  | n {xs : List (NestedKey × Addr × V)} {b : Addr} {k : NestedKey} : H a = some (dcN a xs) -> vB' K H xs -> y = .ref b -> NkV K H (.ref b) k -> k.depth <= 8 -> ((xs.map (·.1)).Nodup -> (xs.length <= sizeLine -> (vp' xs k b v).length <= sizeLine) /\ N (upd H a (dcN a (vp' xs k b v)))) -> DSt K H a y v N
  | ln {b : Addr} {k : NestedKey} : H a = some (dcL a []) -> y = .ref b -> NkV K H (.ref b) k -> k.depth <= 8 -> N (upd H a (dcN a [(k, b, v)])) -> DSt K H a y v N
  | nl {l : Leaf} : H a = some (dcN a []) -> lfV y = some l -> N (upd H a (dcL a [(l, v)])) -> DSt K H a y v N
def oG' (K : PySem.W.Frag) : List V -> Hp -> VK -> Prop := fun xs H Q => tB' K xs H Q \/ (∃ a kvs, xs = [V.ref a] /\ Rd H a (dcL a kvs) /\ Q (.int kvs.length) H) \/ ∃ a ys, xs = [V.ref a] /\ Rd H a (dcN a ys) /\ Q (.int ys.length) H
theorem aT' (hw : X.prog = Wd.P /\ X.w = Wd.w) : CallR X (.builtin "len") (oG' X.K) := by
  intro pins s σ H vs us Q I r h
  rcases h with h | ⟨a, kvs, rfl, e, q⟩ | ⟨a, xs, rfl, e, q⟩
  . exact nH' pins s σ H vs us Q I r h
  . cases r with
    | cons ra rn =>
      cases rn
      cases (show _ = Value.ref a from ra)
      obtain ⟨hd, z, ws, rel, dd⟩ := ur' hw I e
      refine call_len_dict hd dd (by rw [<- rel.length]; rw [sizeLine_eq] at z; omega) ?_
      rw [<- rel.length]
      exact ⟨.int kvs.length, H, I.tok _, ⟨_, rfl⟩, q⟩
  . cases r with
    | cons ra rn =>
      cases rn
      cases (show _ = Value.ref a from ra)
      obtain ⟨⟨hd, z, _, ys, rel, o, es, ep, g1, g2, g3, g4⟩, _⟩ := (show ObjOk X.prog X.w H s.heap a (dcN a xs) from tu' I e)
      have hl : es.size = xs.length := by
        have := congrArg List.length g4
        rw [List.length_map, <- Paired.length rel, Array.length_toList] at this
        exact this
      refine PyProof.Rows.call_len_slot (n := es.size) (show s.TypeIs (.ref a) "dict" from ⟨o, g1, g2.1⟩) PySem.F.slot_dict_len (fun Q' hq => call_len_raw hd ⟨o, g1, g2, g3⟩ hq) (by omega) (by rw [sizeLine_eq] at z; omega) ?_
      rw [hl]
      exact ⟨.int xs.length, H, I.tok _, ⟨_, rfl⟩, q⟩
end
end S
namespace S
open PySem PySem.Spec PyProof.Rows L2
variable [Wd] [Hot]
section
variable (K : PySem.W.Frag)
def Bi1 (f : M.D -> Option M.D) (r : List V -> Hp -> VK -> Prop) : Prop := ∀ {F H : Hp} {T : List Addr} {fp : Fp} {x : V} {dx dz : M.D} {Q : VK}, FpH F H fp -> Fz K F T x dx -> f dx = some dz -> c0' K F T fp dz Q -> r [x] H Q
def Bi2 (f : M.D -> M.D -> Option M.D) (r : List V -> Hp -> VK -> Prop) : Prop := ∀ {F H : Hp} {T : List Addr} {fp : Fp} {x y : V} {dx dy dz : M.D} {Q : VK}, FpH F H fp -> Fz K F T x dx -> Fz K F T y dy -> f dx dy = some dz -> c0' K F T fp dz Q -> r [x, y] H Q
end
section
variable {X : Cx} {W : WX} {K : PySem.W.Frag} {pos p : Pos} {x : Str} {id : String} {a b : Expr} {ma mb : M.ME} {σ : St} {H : Hp} {Q : VK} {r : List V -> Hp -> VK -> Prop}
theorem nP' {f : M.D -> Option M.D} (hf : Bi1 K f r) (h : qE K W (M.eUn f ma) σ H Q) : tCB r (tCons (qE K W ma) tNil) σ H Q := by
  obtain ⟨ρ, F, T, fr, rel, h⟩ := h
  refine av' rel h fun dx ρ1 v H1 F1 T1 e1 z1 r1 h1 => ?_
  obtain ⟨dz, ez, q⟩ := aR'.ofO h1
  obtain ⟨fp, f2, back⟩ := r1.fp
  exact hf f2 z1 ez fun v' H3 F3 s zz f3 => q v' H3 F3 T1 (e1.trans (.of s)) zz (back H3 F3 s f3)
theorem sa' {f : M.D -> M.D -> Option M.D} (hf : Bi2 K f r) (h : qE K W (M.eOp f ma mb) σ H Q) : tCB r (tCons (qE K W ma) (tCons (qE K W mb) tNil)) σ H Q := by
  obtain ⟨ρ, F, T, fr, rel, h⟩ := h
  refine av' rel h fun dx ρ1 v H1 F1 T1 e1 z1 r1 h1 => ?_
  refine av' r1 h1 fun dy ρ2 u H2 F2 T2 e2 z2 r2 h2 => ?_
  obtain ⟨dz, ez, q⟩ := aR'.ofO h2
  obtain ⟨fp, f2, back⟩ := r2.fp
  exact hf f2 (z1.mono e2) z2 ez fun v' H3 F3 s zz f3 => q v' H3 F3 T2 (e1.trans (e2.trans (.of s))) zz (back H3 F3 s f3)
theorem c5' {f : M.D -> Option M.D} (hc : CallR X (.builtin id) r) (hf : Bi1 X.K f r) (hg : Gl X x) (hm : X.mg x = none) (hv : bootBuiltins x = some (.builtin id)) (ha : SE X W a ma) (hn : x ≠ "__name__" := by decide) (hdb : (x == ("__debug__" : Str)) = false := by decide)
    (he : starEach [a] X.env = (false, eval a X.env) :: starEach [] X.env := by rfl) (hpl : (backTo pos (starEach [] X.env)).any (·.1) = false := by rfl) : SE X W (.Call (.Name x p) [a] [] pos) (M.eUn f ma) := PE.imp (pe_callB hc hg hm hv (pa_cons ha pa_nil he) hn hdb he hpl) fun _ _ _ => nP' hf
theorem ck' {f : M.D -> Option M.D} (hc : CallR X (.type id) r) (hf : Bi1 X.K f r) (hg : Gl X x) (hm : X.mg x = none) (hv : bootBuiltins x = some (.type id)) (ha : SE X W a ma) (hn : x ≠ "__name__" := by decide) (hdb : (x == ("__debug__" : Str)) = false := by decide)
    (he : starEach [a] X.env = (false, eval a X.env) :: starEach [] X.env := by rfl) (hpl : (backTo pos (starEach [] X.env)).any (·.1) = false := by rfl) : SE X W (.Call (.Name x p) [a] [] pos) (M.eUn f ma) := PE.imp (pe_callTy hc hg hm hv (pa_cons ha pa_nil he) hn hdb he hpl) fun _ _ _ => nP' hf
theorem q0' {f : M.D -> M.D -> Option M.D} (hc : CallR X (.builtin id) r) (hf : Bi2 X.K f r) (hg : Gl X x) (hm : X.mg x = none) (hv : bootBuiltins x = some (.builtin id)) (ha : SE X W a ma) (hb : SE X W b mb) (hn : x ≠ "__name__" := by decide) (hdb : (x == ("__debug__" : Str)) = false := by decide)
    (he : starEach [a, b] X.env = (false, eval a X.env) :: starEach [b] X.env := by rfl) (he2 : starEach [b] X.env = (false, eval b X.env) :: starEach [] X.env := by rfl) (hpl : (backTo pos (starEach [b] X.env)).any (·.1) = false := by rfl) : SE X W (.Call (.Name x p) [a, b] [] pos) (M.eOp f ma mb) := PE.imp (pe_callB hc hg hm hv (pa_cons ha (pa_cons hb pa_nil he2) he) hn hdb he hpl) fun _ _ _ => sa' hf
theorem tv' {F H : Hp} {a : Addr} {u : HO} (s : Same F H) (h : Rd F a u) : Rd H a u := h.imp (s _ _) fun ⟨o, h⟩ => ⟨o, s _ _ h⟩
theorem dt' : Bi1 K M.dw' (oG' K) := by
  intro F H T fp x dx dz Q f hx h k
  by_cases hX : ∃ ks vs, dx = .dcx ks vs
  . obtain ⟨ks, vs, rfl⟩ := hX
    cases h
    cases hx with
    | @dcl a kvs _ _ e ke z =>
      have q : kvs.length = ks.length := by have := congrArg List.length ke.e; simpa using this
      refine .inr (.inl ⟨_, _, rfl, e.imp (f.low _ _) fun ⟨o, h⟩ => ⟨o, f.low _ _ h⟩, ?_⟩)
      rw [q]
      exact k.here f (.int _)
    | @dcn a xs _ _ e ke z1 z2 =>
      have q : xs.length = ks.length := by have := congrArg List.length ke.e; simpa using this
      refine .inr (.inr ⟨_, _, rfl, e.imp (f.low _ _) fun ⟨o, h⟩ => ⟨o, f.low _ _ h⟩, ?_⟩)
      rw [q]
      exact k.here f (.int _)
  refine .inl ?_
  cases dx <;> try (cases h; done)
  . obtain ⟨rfl, o1⟩ := hx.str_inv
    cases h
    refine .inl ⟨_, rfl, o1.len, ?_⟩
    rw [bE']
    exact k.here f (.int _)
  . obtain ⟨a, vs, rfl, ha, za⟩ := hx.tup_inv
    cases h
    refine .inr (.inl ⟨a, vs, rfl, .inr (seqT f.low ha), ?_⟩)
    rw [za.length]
    exact k.here f (.int _)
  . obtain ⟨a, vs, rfl, ha, za⟩ := hx.lst_inv
    cases h
    refine .inr (.inl ⟨a, vs, rfl, .inl (SqL.of (f.low _ _ ha)), ?_⟩)
    rw [za.length]
    exact k.here f (.int _)
  . cases hx with
    | dct ha _ za =>
      cases h
      refine .inr (.inr ⟨_, _, rfl, tv' f.low ha, ?_⟩)
      refine k.here f ?_
      rw [List.length_map]
      exact .int _
  . exact absurd ⟨_, _, rfl⟩ hX
theorem du' : Bi1 K M.fU' tD' := by
  intro F H T fp x dx dz Q f hx h k
  cases dx <;> try (cases h; done)
  . cases hx; cases h
    exact .inr ⟨_, rfl, k.here f (.int _)⟩
  . cases hx; cases h
    exact .inl ⟨_, rfl, k.here f (.int _)⟩
theorem xo' : Bi1 K M.vt' tG' := by
  intro F H T fp x dx dz Q f hx h k
  cases dx <;> try (cases h; done)
  cases hx; cases h
  exact ⟨_, rfl, k.here f (.int _)⟩
theorem qx' : Bi2 K M.mP' tz' := by
  intro F H T fp x y dx dy dz Q f hx hy h k
  cases dx <;> cases dy <;> try (cases h; done)
  cases hx; cases hy; cases h
  exact ⟨_, _, rfl, k.here f (.int _)⟩
theorem u9' : Bi2 K M.oO' ty' := by
  intro F H T fp x y dx dy dz Q f hx hy h k
  cases dx <;> cases dy <;> try (cases h; done)
  cases hx; cases hy; cases h
  exact ⟨_, _, rfl, k.here f (.int _)⟩
theorem ov' {s : M.Tx} : signs (sx s) = s.map chv := by
  unfold signs
  show (s.toArray.toList.map fun c => V.str ⟨#[c]⟩) = _
  simp
  intro a _
  rfl
theorem FzA.signs {K : PySem.W.Frag} {F : Hp} {T : List Addr} {s : M.Tx} (o : okT s) : FzA K F T (S.signs (sx s)) (s.map M.chD) := by
  rw [ov']
  exact FzA.chars o.1
theorem nJ' : Bi1 K M.dv' (fl' K) := by
  intro F H T fp x dx dz Q f hx h k
  cases dx <;> try (cases h; done)
  . obtain ⟨rfl, o⟩ := hx.str_inv
    cases h
    exact .inr ⟨_, rfl, o.len, fun l hl => k.newT f (FzA.signs o) hl⟩
  . obtain ⟨a, vs, rfl, ha, za⟩ := hx.tup_inv
    cases h
    exact .inl ⟨a, vs, rfl, .inr ⟨seqT f.low ha, k.here f (.tup ha za)⟩⟩
  . obtain ⟨a, vs, rfl, ha, za⟩ := hx.lst_inv
    cases h
    exact .inl ⟨a, vs, rfl, .inl ⟨SqL.of (f.low _ _ ha), fun l hl => k.newT f za hl⟩⟩
theorem nK' : Bi1 K M.b0' (mI' K) := by
  intro F H T fp x dx dz Q f hx h k
  cases dx <;> try (cases h; done)
  . obtain ⟨rfl, o⟩ := hx.str_inv
    cases h
    exact .inr ⟨_, rfl, o.len, fun l hl => k.newL f (FzA.signs o) hl⟩
  . obtain ⟨a, vs, rfl, ha, za⟩ := hx.tup_inv
    cases h
    exact .inl ⟨a, vs, rfl, .inr (seqT f.low ha), fun l hl => k.newL f za hl⟩
  . obtain ⟨a, vs, rfl, ha, za⟩ := hx.lst_inv
    cases h
    exact .inl ⟨a, vs, rfl, .inl (SqL.of (f.low _ _ ha)), fun l hl => k.newL f za hl⟩
theorem s3' {F H : Hp} {T : List Addr} {v : V} {d : M.D} {n : String} (s : Same F H) (h : Fz K F T v d) (e : M.tyn d = some n) : TyX K H v (.type n) := by
  cases h with
  | non => cases e; exact .base .non
  | bl b => cases e; exact .base (.bl b)
  | int i => cases e; exact .base (.int i)
  | str z => cases e; exact .base (.str _)
  | lst h1 _ => cases e; exact tyL (SqL.of (s _ _ h1))
  | tup h1 _ => cases e; exact tyT (seqT s h1)
  | dct h1 _ _ =>
    cases e
    rcases h1 with h1 | ⟨o, h1⟩
    . exact .base (.dK (s _ _ h1))
    . exact .fDict (s _ _ h1)
  | dcl _ _ _ => cases e
  | dcn _ _ _ _ => cases e
  | rep _ => cases e
  | obj _ => cases e
  | ty _ => cases e
  | fn _ => cases e
  | scr _ _ => cases e
theorem rr' : ∀ n ∈ ["NoneType", "bool", "int", "str", "tuple", "list", "dict"], ∀ t ∈ ["bool", "int", "str", "tuple", "list", "dict"], kitB n t = some (n == t || (n == "bool" && t == "int")) := by decide +kernel
theorem qL' {d : M.D} {n : String} (e : M.tyn d = some n) : n ∈ ["NoneType", "bool", "int", "str", "tuple", "list", "dict"] := by
  cases d <;> first | (cases e; done) | (cases e; decide)
def hy' (K : PySem.W.Frag) (J : It) (ds : List M.D) (F : Hp) (T : List Addr) : Prop := ∀ F' T' H' fp i, Ext F T F' T' -> FpH F' H' fp -> i <= ds.length →
  (i = ds.length -> J.stop i H') /\ ∀ d, ds[i]? = some d -> J.go i H' /\ ∀ x H2, J.yld i H' x H2 -> ∃ F2, Same F' F2 /\ Fz K F2 T' x d /\ FpH F2 H2 fp
theorem hy'.mono {J : It} {ds : List M.D} {F F' : Hp} {T T' : List Addr} (h : hy' K J ds F T) (e : Ext F T F' T') : hy' K J ds F' T' := fun F2 T2 H2 fp i e2 => h F2 T2 H2 fp i (e.trans e2)
def qI (K : PySem.W.Frag) (W : WX) (m : M.MI) : TI := fun σ H R => ∃ ρ F T fr, Rel K ρ σ H F T fr ∧
  aR' (m ρ) (fun ds ρ' => ∀ J H' F' T', Ext F T F' T' -> hy' K J ds F' T' -> Rel K ρ' σ H' F' T' fr -> R J H') (EX K W σ F T fr)
abbrev SI (X : Cx) (W : WX) (tg e : Expr) (m : M.MI) : Prop := PI X tg e (qI X.K W m)
theorem PI.imp {tg e : Expr} {t t' : TI} (h : PI X tg e t) (i : ∀ σ H Q, t' σ H Q -> t σ H Q) : PI X tg e t' := ⟨fun pins s σ H Q I q => h.run pins s σ H Q I (i σ H Q q)⟩
theorem ry' {a : Addr} {vs : List V} {ds : List M.D} {F : Hp} {T : List Addr} (ha : F a = some (.lst vs)) (z : FzA K F T vs ds) : hy' K (Itl K a) ds F T := fun F' T' H' fp i e f hi => by
  have h' : SqL K H' a vs := SqL.of (f.low _ _ (e.f.lst ha))
  refine ⟨fun q => ⟨vs, h', by rw [z.length]; omega⟩, fun d hd => ?_⟩
  obtain ⟨v, h1, h2⟩ := z.get hd
  refine ⟨⟨vs, v, h', h1⟩, fun x H2 y => ?_⟩
  obtain ⟨rfl, y⟩ := y
  have := y vs h'
  rw [h1] at this
  cases this
  exact ⟨F', fun _ _ e => e, h2.mono e, f⟩
theorem t6' {a : Addr} {vs : List V} {ds : List M.D} {F : Hp} {T : List Addr} (ha : SqT K F a vs) (z : FzA K F T vs ds) : hy' K (Itt K a) ds F T := fun F' T' H' fp i e f hi => by
  have h' : SqT K H' a vs := seqT f.low (e.f.seqT ha)
  refine ⟨fun q => ⟨vs, h', by rw [z.length]; omega⟩, fun d hd => ?_⟩
  obtain ⟨v, h1, h2⟩ := z.get hd
  refine ⟨⟨vs, v, h', h1⟩, fun x H2 y => ?_⟩
  obtain ⟨rfl, y⟩ := y
  have := y vs h'
  rw [h1] at this
  cases this
  exact ⟨F', fun _ _ e => e, h2.mono e, f⟩
theorem s6' (s : M.Tx) (i : Nat) : (sx s).cps[i]? = s[i]? := by simp [sx]
theorem t7' {s : M.Tx} {F : Hp} {T : List Addr} (o : okT s) : hy' K (Its (sx s)) (s.map M.chD) F T := fun F' T' H' fp i e f hi => by
  have el : (sx s).cps.size = s.length := bE' s
  rw [List.length_map] at hi ⊢
  refine ⟨fun q => by show (sx s).cps.size <= i; omega, fun d hd => ?_⟩
  rw [List.getElem?_map] at hd
  cases q : s[i]? with
  | none => rw [q] at hd; cases hd
  | some c =>
    rw [q] at hd
    cases hd
    refine ⟨by show i < (sx s).cps.size; have := (List.getElem?_eq_some_iff.mp q).1; omega, fun x H2 y => ?_⟩
    obtain ⟨rfl, c', h1, rfl⟩ := y
    rw [s6', q] at h1
    cases h1
    exact ⟨F', fun _ _ e => e, kK' (o.1 c (List.mem_of_getElem? q)), f⟩
theorem t8' {lo : Int} {n : Nat} {F : Hp} {T : List Addr} : hy' K (Itr lo n) (M.rgI lo n) F T := fun F' T' H' fp i e f hi => by
  unfold M.rgI at hi ⊢
  rw [List.length_map, List.length_range] at hi ⊢
  refine ⟨fun q => by show n <= i; omega, fun d hd => ?_⟩
  rw [List.getElem?_map] at hd
  by_cases h : i < n
  . rw [List.getElem?_range h] at hd
    cases hd
    refine ⟨h, fun x H2 y => ?_⟩
    obtain ⟨rfl, rfl⟩ := y
    exact ⟨F', fun _ _ e => e, .int _, f⟩
  . rw [List.getElem?_eq_none (by rw [List.length_range]; omega)] at hd
    cases hd
theorem tJ' {tg e : Expr} {te : TE} (h : PE X e te) : PI X tg e (fun σ H R => iStr te σ H R \/ iList X.K te σ H R \/ iTup X.K te σ H R) := oI' (pi_str h) (oI' (pi_list h) (pi_tup h))
theorem q9' {m : M.ME} {ρ ρ1 : M.PSt} {F : Hp} {T : List Addr} {fr : Fp} {d : M.D} (rel : Rel K ρ σ H F T fr) (em : m ρ = .ok d ρ1) (h : ∀ v H' F' T', Ext F T F' T' -> Fz K F' T' v d -> Rel K ρ1 σ H' F' T' fr -> Q v H') : qE K W m σ H Q :=
  ⟨ρ, F, T, fr, rel, by rw [em]; exact h⟩
theorem bJ' {tg : Expr} (h : SE X W a ma) : SI X W tg a (M.fB' ma) := PI.imp (tJ' h) fun σ H R ⟨ρ, F, T, fr, rel, q⟩ => by
  have q2 := aR'.bind q
  cases em : ma ρ with
  | bad => rw [em] at q2; exact q2.elim
  | exc x ρ1 =>
    rw [em] at q2
    exact .inl ⟨ρ, F, T, fr, rel, by rw [em]; exact q2⟩
  | ok d ρ1 =>
    rw [em] at q2
    obtain ⟨ds, e1, q3⟩ := aR'.ofO (show aR' _ _ _ from q2)
    cases d <;> try (cases e1; done)
    . cases e1
      refine .inl (q9' rel em fun v H' F' T' e z r => ?_)
      obtain ⟨rfl, o⟩ := z.str_inv
      exact ⟨_, rfl, q3 _ _ _ _ e (t7' o) r⟩
    . cases e1
      refine .inr (.inr (q9' rel em fun v H' F' T' e z r => ?_))
      obtain ⟨p, vs, rfl, ha, za⟩ := z.tup_inv
      obtain ⟨fp, f, _⟩ := r.fp
      exact ⟨p, rfl, ⟨vs, seqT f.low ha⟩, q3 _ _ _ _ e (t6' ha za) r⟩
    . cases e1
      refine .inr (.inl (q9' rel em fun v H' F' T' e z r => ?_))
      obtain ⟨p, vs, rfl, ha, za⟩ := z.lst_inv
      obtain ⟨fp, f, _⟩ := r.fp
      exact ⟨p, rfl, ⟨vs, SqL.of (f.low _ _ ha)⟩, q3 _ _ _ _ e (ry' ha za) r⟩
theorem xq' {i : Int} (h : M.nZ' i = true) : -(2 ^ 62) <= i /\ i < 2 ^ 62 := by
  unfold M.nZ' at h
  simpa [Bool.and_eq_true] using h
theorem a7' {tg : Expr} (hg : Gl X "range") (hm : X.mg "range" = none) (ha : SE X W a ma) (hs : starEach [a] X.env = [(false, eval a X.env)] := by rfl) : SI X W tg (.Call (.Name "range" p) [a] [] pos) (M.bj' ma) :=
  PI.imp (pi_range1 hg hm (pa_cons ha pa_nil hs) hs) fun σ H R ⟨ρ, F, T, fr, rel, q⟩ => by
    refine av' rel q fun dx ρ1 v H1 F1 T1 e1 z1 r1 h1 => ?_
    obtain ⟨ds, e2, q2⟩ := aR'.ofO h1
    unfold M.dq' at e2
    split at e2
    . split at e2
      . rename_i hb
        cases e2
        cases z1
        obtain ⟨b1, b2⟩ := xq' hb
        exact ⟨_, rfl, b1, b2, q2 _ _ _ _ e1 t8' r1⟩
      . cases e2
    . cases e2
theorem iM' : ∀ (a b : List M.D), (M.cD' a b).length = min a.length b.length
  | [], _ => by simp [M.cD']
  | _ :: _, [] => by simp [M.cD']
  | x :: a, y :: b => by
    show (M.cD' a b).length + 1 = _
    rw [iM' a b]
    simp only [List.length_cons]
    omega
theorem iN' : ∀ (a b : List M.D) (i : Nat) (d : M.D), (M.cD' a b)[i]? = some d -> ∃ x y, a[i]? = some x /\ b[i]? = some y /\ d = .tup [x, y]
  | [], _, i, d, h => by simp [M.cD'] at h
  | _ :: _, [], i, d, h => by simp [M.cD'] at h
  | x :: a, y :: b, 0, d, h => ⟨x, y, rfl, rfl, (Option.some.inj h).symm⟩
  | x :: a, y :: b, i + 1, d, h => iN' a b i d h
theorem h8' {J : It} {as bs : List M.D} {F : Hp} {T : List Addr} (hs : ∀ F' T' H' fp i, Ext F T F' T' -> FpH F' H' fp -> i = min as.length bs.length -> J.stop i H')
    (hy : ∀ F' T' H' fp i dx dy, Ext F T F' T' -> FpH F' H' fp -> as[i]? = some dx -> bs[i]? = some dy -> J.go i H' /\ ∀ v H2, J.yld i H' v H2 -> ∃ p x y, v = .ref p /\ H' p = none /\ H2 = upd H' p (.tup [x, y]) /\ Fz K F' T' x dx /\ Fz K F' T' y dy) : hy' K J (M.cD' as bs) F T := fun F' T' H' fp i e f hi => by
  rw [iM'] at hi ⊢
  refine ⟨fun q => hs F' T' H' fp i e f q, fun d hd => ?_⟩
  obtain ⟨dx, dy, h1, h2, rfl⟩ := iN' _ _ _ _ hd
  obtain ⟨g, y⟩ := hy F' T' H' fp i dx dy e f h1 h2
  refine ⟨g, fun v H2 q => ?_⟩
  obtain ⟨p, x, y', rfl, hp, rfl, zx, zy⟩ := y v H2 q
  have s : Same F' (upd F' p (.tup [x, y'])) := bQ' (f.free hp)
  exact ⟨_, s, .tup (SqT.of upd_same) (.cons (zx.mono (.of s)) (.cons (zy.mono (.of s)) .nil)), f.new hp⟩
theorem rv' {s t : M.Tx} {F : Hp} {T : List Addr} (o : okT s) (o2 : okT t) : hy' K (ItP (chS (sx s)) (chS (sx t)) (min (sx s).cps.size (sx t).cps.size)) (M.cD' (s.map M.chD) (t.map M.chD)) F T := by
  have e1 : (sx s).cps.size = s.length := bE' s
  have e2 : (sx t).cps.size = t.length := bE' t
  refine h8' (fun F' T' H' fp i e f hi => ?_) fun F' T' H' fp i dx dy e f h1 h2 => ?_
  . rw [List.length_map, List.length_map] at hi
    show i = min (sx s).cps.size (sx t).cps.size
    omega
  . rw [List.getElem?_map] at h1 h2
    cases q1 : s[i]? with
    | none => rw [q1] at h1; cases h1
    | some c =>
      cases q2 : t[i]? with
      | none => rw [q2] at h2; cases h2
      | some d =>
        rw [q1] at h1
        rw [q2] at h2
        cases h1
        cases h2
        have l1 := (List.getElem?_eq_some_iff.mp q1).1
        have l2 := (List.getElem?_eq_some_iff.mp q2).1
        refine ⟨by show i < min (sx s).cps.size (sx t).cps.size; omega, fun v H2 y => ?_⟩
        obtain ⟨p, x, y', rfl, hp, rfl, c1, c2⟩ := y
        unfold chS at c1 c2
        rw [cn', q1] at c1
        rw [cn', q2] at c2
        cases c1
        cases c2
        exact ⟨p, _, _, rfl, hp, rfl, kK' (o.1 c (List.mem_of_getElem? q1)), kK' (o2.1 d (List.mem_of_getElem? q2))⟩
theorem rx' {a b : Addr} {vs ws : List V} {ds es : List M.D} {F : Hp} {T : List Addr} (ha : F a = some (.lst vs)) (z : FzA K F T vs ds) (hb : F b = some (.lst ws)) (z2 : FzA K F T ws es) : hy' K (Itz K a b) (M.cD' ds es) F T := by
  refine h8' (fun F' T' H' fp i e f hi => ?_) fun F' T' H' fp i dx dy e f h1 h2 => ?_
  . exact ⟨vs, ws, SqL.of (f.low _ _ (e.f.lst ha)), SqL.of (f.low _ _ (e.f.lst hb)), by rw [z.length, z2.length]; omega⟩
  . obtain ⟨x, x1, x2⟩ := z.get h1
    obtain ⟨y, y1, y2⟩ := z2.get h2
    have a1 : SqL K H' a vs := SqL.of (f.low _ _ (e.f.lst ha))
    have b1 : SqL K H' b ws := SqL.of (f.low _ _ (e.f.lst hb))
    refine ⟨⟨vs, ws, x, y, a1, b1, x1, y1⟩, fun v H2 q => ?_⟩
    obtain ⟨p, x', y', rfl, hp, rfl, q1, q2⟩ := q
    have := q1 vs a1
    rw [x1] at this
    cases this
    have := q2 ws b1
    rw [y1] at this
    cases this
    exact ⟨p, _, _, rfl, hp, rfl, x2.mono e, y2.mono e⟩
theorem ru' {a b : Addr} {vs ws : List V} {ds es : List M.D} {F : Hp} {T : List Addr} (ha : SqT K F a vs) (z : FzA K F T vs ds) (hb : SqT K F b ws) (z2 : FzA K F T ws es) : hy' K (RZ.ItzT K a b) (M.cD' ds es) F T := by
  refine h8' (fun F' T' H' fp i e f hi => ?_) fun F' T' H' fp i dx dy e f h1 h2 => ?_
  . exact ⟨vs, ws, seqT f.low (e.f.seqT ha), seqT f.low (e.f.seqT hb), by rw [z.length, z2.length]; omega⟩
  . obtain ⟨x, x1, x2⟩ := z.get h1
    obtain ⟨y, y1, y2⟩ := z2.get h2
    have a1 : SqT K H' a vs := seqT f.low (e.f.seqT ha)
    have b1 : SqT K H' b ws := seqT f.low (e.f.seqT hb)
    refine ⟨⟨vs, ws, x, y, a1, b1, x1, y1⟩, fun v H2 q => ?_⟩
    obtain ⟨p, x', y', rfl, hp, rfl, q1, q2⟩ := q
    have := q1 vs a1
    rw [x1] at this
    cases this
    have := q2 ws b1
    rw [y1] at this
    cases this
    exact ⟨p, _, _, rfl, hp, rfl, x2.mono e, y2.mono e⟩
theorem tg' {elts : List Expr} {kk : Nat} {tpos : Pos} (hg : Gl X "zip") (hm : X.mg "zip" = none) (ha : SE X W a ma) (hb : SE X W b mb)
    (hs : starEach [a, b] X.env = (false, eval a X.env) :: starEach [b] X.env := by rfl) (hs2 : starEach [b] X.env = (false, eval b X.env) :: starEach [] X.env := by rfl) (hpl : (backTo pos (starEach [b] X.env)).any (·.1) = false := by rfl) :
    SI X W (.Tuple elts kk tpos) (.Call (.Name "zip" p) [a, b] [] pos) (M.uf' ma mb) :=
  PI.imp (rb' hg hm (pa_cons ha (pa_cons hb pa_nil hs2) hs) hs hpl) fun σ H R ⟨ρ, F, T, fr, rel, q⟩ => by
    -- the kind of both is known ahead
    have fin : ∀ (isS : Bool), (∀ x ρ1, ma ρ = .ok x ρ1 -> ∀ y ρ2, mb ρ1 = .ok y ρ2 -> (isS = true ↔ ∃ s, x = .str s)) -> ud' X.K (tCons (qE X.K W ma) (tCons (qE X.K W mb) tNil)) σ H R := by
      intro isS hS
      have q1 := aR'.bind q
      have body : ∀ (G : List V -> Hp -> Prop), (∀ x y u v H2 F2 T2 ds ρ2, Ext F T F2 T2 -> Fz X.K F2 T2 u x -> Fz X.K F2 T2 v y -> M.nT' x y = some ds -> Rel X.K ρ2 σ H2 F2 T2 fr -> (isS = true ↔ ∃ s, x = .str s) →
          (∀ J H' F' T', Ext F T F' T' -> hy' X.K J ds F' T' -> Rel X.K ρ2 σ H' F' T' fr -> R J H') -> G [u, v] H2) -> tCons (qE X.K W ma) (tCons (qE X.K W mb) tNil) σ H G := by
        intro G hG
        refine ⟨ρ, F, T, fr, rel, ?_⟩
        cases em : ma ρ with
        | bad => rw [em] at q1; exact q1.elim
        | exc x ρ1 => rw [em] at q1; exact q1
        | ok x ρ1 =>
          rw [em] at q1
          have q2 := aR'.bind (show aR' ((mb ρ1).bind _) _ _ from q1)
          intro u H1 F1 T1 e1 z1 r1
          refine ⟨ρ1, F1, T1, fr, r1, ?_⟩
          cases en : mb ρ1 with
          | bad => rw [en] at q2; exact q2.elim
          | exc y ρ2 => rw [en] at q2; exact EX.mono (show EX X.K W σ F T fr y ρ2 from q2) e1
          | ok y ρ2 =>
            rw [en] at q2
            obtain ⟨ds, e3, q3⟩ := aR'.ofO (show aR' (M.ofO _ _) _ _ from q2)
            intro v H2 F2 T2 e2 z2 r2
            exact hG x y u v H2 F2 T2 ds ρ2 (e1.trans e2) (z1.mono e2) z2 e3 r2 (hS x ρ1 em y ρ2 en) q3
      cases isS with
      | true =>
        refine .inl (body _ fun x y u v H2 F2 T2 ds ρ2 e z1 z2 hz r2 hk q3 => ?_)
        obtain ⟨s, rfl⟩ := hk.mp rfl
        cases y <;> try (cases hz; done)
        obtain ⟨rfl, o1⟩ := z1.str_inv
        obtain ⟨rfl, o2⟩ := z2.str_inv
        cases hz
        exact ⟨_, _, rfl, q3 _ _ _ _ e (rv' o1 o2) r2⟩
      | false =>
        refine .inr (body _ fun x y u v H2 F2 T2 ds ρ2 e z1 z2 hz r2 hk q3 => ?_)
        obtain ⟨fp, f, _⟩ := r2.fp
        cases x <;> cases y <;> try (cases hz; done)
        . exact absurd (hk.mpr ⟨_, rfl⟩) Bool.false_ne_true
        . obtain ⟨a1, vs, rfl, ha, za⟩ := z1.tup_inv
          obtain ⟨b1, ws, rfl, hb, zb⟩ := z2.tup_inv
          cases hz
          exact ⟨a1, b1, vs, ws, rfl, .inr ⟨seqT f.low ha, seqT f.low hb, q3 _ _ _ _ e (ru' ha za hb zb) r2⟩⟩
        . obtain ⟨a1, vs, rfl, ha, za⟩ := z1.lst_inv
          obtain ⟨b1, ws, rfl, hb, zb⟩ := z2.lst_inv
          cases hz
          exact ⟨a1, b1, vs, ws, rfl, .inl ⟨SqL.of (f.low _ _ ha), SqL.of (f.low _ _ hb), q3 _ _ _ _ e (rx' ha za hb zb) r2⟩⟩
    cases em : ma ρ with
    | ok x ρ1 =>
      by_cases hx : ∃ s, x = .str s
      . exact fin true fun x' ρ1' e y ρ2 _ => by rw [em] at e; cases e; exact ⟨fun _ => hx, fun _ => rfl⟩
      . exact fin false fun x' ρ1' e y ρ2 _ => by rw [em] at e; cases e; exact ⟨fun z => (nomatch z), fun z => absurd z hx⟩
    | exc x ρ1 => exact fin true fun x' ρ1' e => by rw [em] at e; cases e
    | bad => exact fin true fun x' ρ1' e => by rw [em] at e; cases e
end
end S
namespace S
open PySem PySem.Spec PyProof.Rows L2
variable [Wd] [Hot]
section
variable {K : PySem.W.Frag} {F F' H H' : Hp} {T T' : List Addr} {fp fq fr : Fp} {ρ : M.PSt} {σ : St} {W : WX}
theorem dS' {i : Nat} {x : Option V} : ∀ (is : List Nat) (σ : St), (wipe (σ.set i x) is).set i none = (wipe σ is).set i none
  | [], σ => by show (σ.set i x).set i none = σ.set i none; rw [List.set_set]
  | k :: is, σ => by
    show ((wipe (σ.set i x) is).set k none).set i none = ((wipe σ is).set k none).set i none
    by_cases h : k = i
    . subst h
      rw [List.set_set, List.set_set, dS' is σ]
    . rw [List.set_comm _ _ h, dS' is σ, List.set_comm _ _ h]
theorem FzA.cons_inv {vs : List V} {d : M.D} {ds : List M.D} (h : FzA K F T vs (d :: ds)) : ∃ v r, vs = v :: r /\ Fz K F T v d /\ FzA K F T r ds := by
  cases h with
  | cons a b => exact ⟨_, _, rfl, a, b⟩
theorem RpA.of_fz : ∀ {vs : List V} {ds : List M.D}, FzA K F T vs ds -> RpA K F T vs (ds.map .fz) []
  | _, _, .nil => .nil
  | _, _, .cons z r => RpA.cons (fp := []) (fq := []) (.fz z) (RpA.of_fz r)
def qG (K : PySem.W.Frag) (sl : List Nat) (m : M.MG) : TG := fun v σ H Q => ∃ ρ F T fr d ρ', Rel K ρ σ H F T fr /\ Fz K F T v d /\ m d ρ = some ρ' /\ ∀ σ', wipe σ' sl = wipe σ sl -> Rel K ρ' σ' H F T fr -> Q σ' H
def qGs (K : PySem.W.Frag) (is : List Nat) : TGs := fun vs σ H Q => ∃ ρ F T fr ds ρ', Rel K ρ σ H F T fr /\ FzA K F T vs ds /\ M.gNs is ds ρ = some ρ' /\ ∀ σ', wipe σ' is = wipe σ is -> Rel K ρ' σ' H F T fr -> Q σ' H
abbrev SG (X : Cx) (tg : Expr) (sl : List Nat) (m : M.MG) : Prop := PG X tg (qG X.K sl m)
abbrev SGs (X : Cx) (ts : List Expr) (is : List Nat) : Prop := PGs X ts (qGs X.K is)
theorem PG.imp {X : Cx} {tg : Expr} {t t' : TG} (h : PG X tg t) (i : ∀ v σ H Q, t' v σ H Q -> t v σ H Q) : PG X tg t' := ⟨fun pins s σ H v u Q I r q => h.run pins s σ H v u Q I r (i v σ H Q q)⟩
theorem PGs.imp {X : Cx} {tg : List Expr} {t t' : TGs} (h : PGs X tg t) (i : ∀ v σ H Q, t' v σ H Q -> t v σ H Q) : PGs X tg t' := ⟨fun pins s σ H v u Q I r q => h.run pins s σ H v u Q I r (i v σ H Q q)⟩
theorem Rel.put (rel : Rel K ρ σ H F T fr) {i : Nat} (hi : i < ρ.env.length) {v : V} {o : M.O} {f2 fr' : Fp} (q : Rp K F T v o f2) (p : Part (f2 ++ fr') fr) : Rel K ⟨ρ.env.set i (some o), ρ.w⟩ (σ.set i (some v)) H F T fr' := by
  obtain ⟨fe, fw, re, rw, f⟩ := rel
  obtain ⟨fq, h1, h2⟩ := re.put hi q
  refine ⟨fq, fw, h1, rw, f.part ?_⟩
  have p1 : Part (fq ++ (fw ++ fr')) ((fe ++ f2) ++ (fw ++ fr')) := .app h2 .refl
  refine p1.trans ?_
  refine Part.trans (b := fe ++ (fw ++ (f2 ++ fr'))) ?_ (.app .refl (.app .refl p))
  constructor
  . intro e h
    simp only [List.mem_append] at *
    grind
  . intro x
    simp only [keys, List.map_append, List.count_append] at *
    omega
theorem Part.nilL {a : Fp} : Part ([] ++ a) a := ⟨fun _ h => h, fun _ => Nat.le_refl _⟩
theorem cF' {X : Cx} {pos : Pos} {x : Str} (i : Nat) (hN : X.N.Nodup) (hi : X.N[i]? = some x) (hx : Loc X.env.scope x) (hf : X.fn x = true \/ X.env.scope.names.lookup x = some .local) : SG X (.Name x pos) [i] (M.gN i) :=
  PG.imp (pg_name hN hi hx hf) fun v σ H Q ⟨ρ, F, T, fr, d, ρ', rel, z, e, q⟩ => by
    unfold M.gN at e
    split at e
    . rename_i hl
      cases e
      refine q _ ?_ (rel.put hl (.fz z) .nilL)
      show (σ.set i (some v)).set i none = σ.set i none
      rw [List.set_set]
    . cases e
theorem hK' {X : Cx} : SGs X [] [] := PGs.imp pgs_nil fun vs σ H Q ⟨ρ, F, T, fr, ds, ρ', rel, z, e, q⟩ => by
  cases ds with
  | nil =>
    cases z
    cases e
    exact ⟨rfl, q _ rfl rel⟩
  | cons d ds => cases e
theorem b8' {X : Cx} {e : Expr} {es : List Expr} {i : Nat} {is : List Nat} (hs : (assignEach (e :: es) X.env).map (·.2) = assign e X.env :: (assignEach es X.env).map (·.2)) (h1 : SG X e [i] (M.gN i)) (h2 : SGs X es is) : SGs X (e :: es) (i :: is) :=
  PGs.imp (pgs_cons h1 h2 hs) fun vs σ H Q ⟨ρ, F, T, fr, ds, ρ', rel, z, e, q⟩ => by
    cases ds with
    | nil => cases e
    | cons d ds =>
      obtain ⟨v, r, rfl, z, zs⟩ := z.cons_inv
      . cases e1 : M.gN i d ρ with
        | none => simp only [M.gNs, e1] at e; cases e
        | some ρ1 =>
          simp only [M.gNs, e1, Option.bind_some] at e
          refine ⟨v, r, rfl, ρ, F, T, fr, d, ρ1, rel, z, e1, fun σ1 w1 r1 => ⟨ρ1, F, T, fr, ds, ρ', r1, zs, e, fun σ2 w2 r2 => q σ2 ?_ r2⟩⟩
          show (wipe σ2 is).set i none = (wipe σ is).set i none
          rw [w2]
          have w1' : σ1.set i none = σ.set i none := w1
          rw [<- dS' (x := none) is σ1, w1', dS' is σ]
theorem v0' {X : Cx} {es : List Expr} {k} {pos : Pos} {n : Nat} {is : List Nat} (hc : X.calm = true) (hn : (assignEach es X.env).length = n) (hst : (assignEach es X.env).findIdx? (·.1) = none) (hl : is.length = n) (h : SGs X es is) : SG X (.Tuple es k pos) is (M.gT is) :=
  PG.imp (pg_tup hc h hn hst) fun v σ H Q ⟨ρ, F, T, fr, d, ρ', rel, z, e, q⟩ => by
    cases d with
    | tup ds =>
      obtain ⟨a, vs, rfl, ha, za⟩ := z.tup_inv
      obtain ⟨fp, f, _⟩ := rel.fp
      refine ⟨a, vs, rfl, seqT f.low ha, ?_, ρ, F, T, fr, ds, ρ', rel, za, e, q⟩
      rw [za.length, <- hl]
      have : ∀ (is : List Nat) (ds : List M.D) (ρ ρ' : M.PSt), M.gNs is ds ρ = some ρ' -> ds.length = is.length := by
        intro is
        induction is with
        | nil => intro ds ρ ρ' h; cases ds with | nil => rfl | cons d ds => cases h
        | cons i is ih =>
          intro ds ρ ρ' h
          cases ds with
          | nil => cases h
          | cons d ds =>
            cases e1 : M.gN i d ρ with
            | none => simp only [M.gNs, e1] at h; cases h
            | some ρ1 =>
              simp only [M.gNs, e1, Option.bind_some] at h
              exact congrArg (· + 1) (ih ds ρ1 ρ' h)
      exact this is ds ρ ρ' e
    | _ => cases e
theorem RpE.wiped {env : List (Option M.O)} (r : RpE K F T σ env fp) : ∀ is : List Nat, ∃ fq, RpE K F T (wipe σ is) (M.a4' is env) fq /\ Part fq fp
  | [] => ⟨fp, r, .refl⟩
  | i :: is => by
    obtain ⟨fq, h1, h2⟩ := r.wiped is
    obtain ⟨fq2, h3, h4⟩ := h1.drop i none
    exact ⟨fq2, h3, h4.trans h2⟩
theorem dT' {σ : St} : ∀ {is : List Nat} {j : Nat}, j ∉ is -> (wipe σ is)[j]? = σ[j]?
  | [], _, _ => rfl
  | i :: is, j, h => by
    have h' : j ≠ i /\ j ∉ is := by simpa using h
    show ((wipe σ is).set i none)[j]? = _
    rw [List.getElem?_set_ne (Ne.symm h'.1), dT' h'.2]
theorem hC' {σ : St} : ∀ {is : List Nat} {j : Nat}, j ∈ is -> j < σ.length -> (wipe σ is)[j]? = some none
  | i :: is, j, h, hl => by
    show ((wipe σ is).set i none)[j]? = _
    by_cases e : i = j
    . subst e
      rw [List.getElem?_set_self (by rw [wipe_length]; exact hl)]
    . rw [List.getElem?_set_ne e]
      refine hC' ?_ hl
      rcases List.mem_cons.mp h with h | h
      . exact absurd h.symm e
      . exact h
theorem fZ' {σ : St} (is : List Nat) : wipe (wipe σ is) is = wipe σ is := by
  refine List.ext_getElem? fun j => ?_
  by_cases h : j ∈ is
  . by_cases hl : j < σ.length
    . rw [hC' h hl, hC' h (by rw [wipe_length]; exact hl)]
    . rw [List.getElem?_eq_none (by rw [wipe_length, wipe_length]; omega), List.getElem?_eq_none (by rw [wipe_length]; omega)]
  . rw [dT' h]
theorem dm' {env : List (Option M.O)} : ∀ {is : List Nat} {j : Nat} {o : M.O}, (M.a4' is env)[j]? = some (some o) -> j ∉ is
  | [], _, _, _ => by simp
  | i :: is, j, o, h => by
    have h : ((M.a4' is env).set i none)[j]? = some (some o) := h
    by_cases hj : i = j
    . subst hj
      by_cases hl : i < (M.a4' is env).length
      . rw [List.getElem?_set_self hl] at h; cases h
      . rw [List.getElem?_eq_none (by simpa using hl)] at h; cases h
    . rw [List.getElem?_set_ne hj] at h
      have := dm' h
      simp only [List.mem_cons, not_or]
      exact ⟨Ne.symm hj, this⟩
theorem RpE.other {env : List (Option M.O)} {σ' : St} (r : RpE K F T σ env fp) (hl : σ'.length = σ.length) (h : ∀ (j : Nat) (o : M.O), env[j]? = some (some o) -> σ'[j]? = σ[j]?) : RpE K F T σ' env fp := by
  induction r generalizing σ' with
  | nil =>
    cases σ' with
    | nil => exact .nil
    | cons _ _ => cases hl
  | off r ih =>
    cases σ' with
    | nil => cases hl
    | cons y σ' => exact .off (ih (Nat.succ.inj hl) fun j o e => h (j + 1) o e)
  | on q r ih =>
    cases σ' with
    | nil => cases hl
    | cons y σ' =>
      have e : y = _ := Option.some.inj (h 0 _ rfl)
      subst e
      exact .on q (ih (Nat.succ.inj hl) fun j o e => h (j + 1) o e)
  | hot hh z r ih =>
    cases σ' with
    | nil => cases hl
    | cons y σ' =>
      have e : y = _ := Option.some.inj (h 0 _ rfl)
      subst e
      exact .hot hh z (ih (Nat.succ.inj hl) fun j o e => h (j + 1) o e)
  | clo hh z r ih =>
    cases σ' with
    | nil => cases hl
    | cons y σ' =>
      have e : y = _ := Option.some.inj (h 0 _ rfl)
      subst e
      exact .clo hh z (ih (Nat.succ.inj hl) fun j o e => h (j + 1) o e)
theorem RpE.backed {env0 : List (Option M.O)} (h0 : ∀ (i : Nat) (d : M.D), env0[i]? = some (some (M.O.fz d)) -> ∃ v, σ[i]? = some (some v) /\ Fz K F T v d) : ∀ (is : List Nat) {env : List (Option M.O)} {fp : Fp}, RpE K F T σ env fp -> ∃ fq, RpE K F T σ (M.back env0 is env) fq /\ Part fq fp
  | [], env, fp, r => ⟨fp, r, .refl⟩
  | i :: is, env, fp, r => by
    obtain ⟨fq, h1, h2⟩ := RpE.backed h0 is r
    unfold M.back
    split
    . rename_i d e
      obtain ⟨v, hv, z⟩ := h0 i d e
      obtain ⟨f2, h3, h4⟩ := h1.put0 hv (.fz z)
      refine ⟨f2, h3, h4.trans ?_⟩
      rw [List.append_nil]
      exact h2
    . obtain ⟨f2, h3, h4⟩ := h1.drop0 i
      exact ⟨f2, h3, h4.trans h2⟩
theorem RpE.data {env : List (Option M.O)} (r : RpE K F T σ env fp) {i : Nat} {d : M.D} (h : env[i]? = some (some (.fz d))) : ∃ v, σ[i]? = some (some v) /\ Fz K F T v d := by
  obtain ⟨v, f1, f2, f3, h1, _, h3, _⟩ := r.get h
  cases h3 with
  | fz z => exact ⟨v, h1, z⟩
abbrev W0 : WX := fun _ _ _ _ => False
theorem aR'.noX {α : Type} {r : M.Res α} {P : α -> M.PSt -> Prop} {Y Y' : Wx} (h : aR' (M.noX r) P Y) : aR' r P Y' := by
  cases r with
  | ok a ρ => exact h
  | exc x ρ => exact h.elim
  | bad => exact h
def vf' (K : PySem.W.Frag) (sl : List Nat) (g : M.MG) (t : M.MT) (e : M.ME) (ds : List M.D) (σ : St) (D : Addr) (fr : Fp) (F1 : Hp) (T1 : List Addr) (P : List M.D -> M.PSt -> Prop) (Y : Wx) (i : Nat) (H : Hp) : Prop :=
  i <= ds.length /\ ∃ ρ' F' T' acc vacc, Ext F1 T1 F' T' /\ FzA K F' T' vacc acc /\ Rel K ⟨M.a4' sl ρ'.env, ρ'.w⟩ (wipe σ sl) H F' T' ((D, .lst vacc) :: fr) /\ aR' (M.lcL sl g t e (ds.drop i) acc ρ') P Y
theorem Rel.wiped (r : Rel K ρ σ H F T fr) (is : List Nat) : Rel K ⟨M.a4' is ρ.env, ρ.w⟩ (wipe σ is) H F T fr := by
  obtain ⟨fe, fw, re, rw, f⟩ := r
  obtain ⟨fq, h1, h2⟩ := re.wiped is
  exact ⟨fq, fw, h1, rw, f.part (.app h2 .refl)⟩
theorem Rel.own (r : Rel K ρ σ H F T fr) {p : Addr} {o : HO} (hp : H p = none) : Rel K ρ σ (upd H p o) F T ((p, o) :: fr) := by
  obtain ⟨fe, fw, re, rw, f⟩ := r
  refine ⟨fe, fw, re, rw, (f.own hp).part ?_⟩
  constructor
  . intro e h
    simp only [List.mem_append, List.mem_cons] at *
    grind
  . intro x
    simp only [keys, List.map_append, List.map_cons, List.count_append, List.count_cons] at *
    omega
theorem Rel.at_ (r : Rel K ρ σ H F T fr) {e : Addr × HO} (h : e ∈ fr) : H e.1 = some e.2 := by
  obtain ⟨fe, fw, re, rw, f⟩ := r
  exact (f.at_ e (List.mem_append_right _ (List.mem_append_right _ h))).1
theorem Rel.write {p : Addr} {o o' : HO} (r : Rel K ρ σ H F T ((p, o) :: fr)) : Rel K ρ σ (upd H p o') F T ((p, o') :: fr) := by
  obtain ⟨fe, fw, re, rw, f⟩ := r
  have f' : FpH F H ((fe ++ fw) ++ ((p, o) :: fr)) := by rw [List.append_assoc]; exact f
  refine ⟨fe, fw, re, rw, ?_⟩
  have := f'.write (o' := o')
  rw [List.append_assoc] at this
  exact this
theorem h6' {sl : List Nat} {it : M.MI} {g : M.MG} {t : M.MT} {e : M.ME} {Q : VK} (h : qO K W (M.oLc sl it g t e) σ H Q) : tLc (qI K W it) (qG K sl g) (qT K W0 t) (qE K W0 e) sl σ H Q := by
  obtain ⟨ρ, F, T, fr, rel, h⟩ := h
  refine ⟨ρ, F, T, fr, rel, (aR'.bind h).mono (fun ds ρ1 h1 J H1 F1 T1 e1 io r1 => ?_) fun _ _ z => z⟩
  intro D hD
  have h2 := aR'.bind h1
  -- the loop's word
  refine ⟨fun i m H => m = ds.length - i /\ vf' K sl g t e ds σ D fr F1 T1 _ _ i H, ⟨ds.length, by simp, Nat.zero_le _, ρ1, F1, T1, [], [], .refl, .nil, (r1.wiped sl).own hD, h2⟩, ?_⟩
  rintro i m H2 ⟨rfl, hi, ρ2, F2, T2, acc, vacc, e2, za, r2, h3⟩
  have hH : H2 D = some (.lst vacc) := r2.at_ (e := (D, .lst vacc)) List.mem_cons_self
  obtain ⟨fp2, f2, _⟩ := r2.fp
  by_cases hl : i = ds.length
  . refine .inl ⟨(io F2 T2 H2 fp2 i e2 f2 hi).1 hl, ?_⟩
    rw [hl, List.drop_length] at h3
    have h4 : aR' (M.lcL sl g t e [] acc ρ2) _ _ := h3
    unfold M.lcL at h4
    have h5 := h4
    refine h5 (.ref D) H2 F2 T2 ((D, .lst vacc) :: []) (e1.trans e2) ?_ ?_
    . exact .lst (RpA.of_fz za)
    . obtain ⟨fe, fw, re, rw, f⟩ := r2
      have re1 : RpE K F2 T2 σ (M.a4' sl ρ2.env) fe := by
        refine re.other ?_ fun j o hj => (dT' (dm' hj)).symm
        rw [wipe_length]
      obtain ⟨fe0, fw0, re0, rw0, f0⟩ := r1
      obtain ⟨fq, h6, h7⟩ := RpE.backed (env0 := ρ1.env) (fun i d hd => by
        obtain ⟨v, hv, z⟩ := re0.data hd
        exact ⟨v, hv, z.mono e2⟩) sl re1
      exact ⟨fq, fw, h6, rw, f.part (.app h7 .refl)⟩
  . have hlt : i < ds.length := by omega
    have hd : ds[i]? = some ds[i] := List.getElem?_eq_getElem hlt
    obtain ⟨go, yl⟩ := (io F2 T2 H2 fp2 i e2 f2 hi).2 _ hd
    refine .inr ⟨go, vf' K sl g t e ds σ D fr F1 T1 _ _ (i + 1), fun H' n => ⟨ds.length - (i + 1), by omega, rfl, n⟩, fun x H3 y => ?_⟩
    obtain ⟨fe, fw, re, rw, f⟩ := id r2
    obtain ⟨yg, yh⟩ := (io F2 T2 H2 _ i e2 f hi).2 _ hd
    obtain ⟨F3, s3, zx, f3⟩ := yh x H3 y
    have r3 : Rel K ⟨M.a4' sl ρ2.env, ρ2.w⟩ (wipe σ sl) H3 F3 T2 ((D, .lst vacc) :: fr) := ⟨fe, fw, re.mono (.of s3), rw.mono (.of s3), f3⟩
    rw [List.drop_eq_getElem_cons hlt] at h3
    unfold M.lcL at h3
    cases eg : g ds[i] ⟨M.a4' sl ρ2.env, ρ2.w⟩ with
    | none => rw [eg] at h3; exact h3.elim
    | some ρ3 =>
      rw [eg] at h3
      refine ⟨_, F3, T2, _, ds[i], ρ3, r3, zx, eg, fun σ4 w4 r4 => ?_⟩
      rw [fZ'] at w4
      refine ⟨w4, ?_⟩
      have h4 := aR'.bind h3
      refine ⟨ρ3, F3, T2, _, r4, (aR'.noX h4).mono (fun b ρ5 h5 H5 F5 T5 e5 r5 => ?_) fun _ _ z => z⟩
      cases b with
      | false =>
        rw [if_neg Bool.false_ne_true]
        refine ⟨hlt, ρ5, F5, T5, acc, vacc, e2.trans ((Ext.of s3).trans e5), (za.mono (.of s3)).mono e5, ?_, h5⟩
        rw [<- w4]
        exact r5.wiped sl
      | true =>
        rw [if_pos rfl] at h5 ⊢
        have h6 := aR'.bind h5
        refine ⟨ρ5, F5, T5, _, r5, (aR'.noX h6).mono (fun d ρ6 h7 y6 H6 F6 T6 e6 z6 r6 => ?_) fun _ _ z => z⟩
        split at h7
        . rename_i hacc
          have hH6 : H6 D = some (.lst vacc) := r6.at_ (e := (D, .lst vacc)) List.mem_cons_self
          refine ⟨vacc, hH6, by rw [bx', za.length]; exact hacc, hlt, ρ6, F6, T6, acc ++ [d], vacc ++ [y6], e2.trans ((Ext.of s3).trans (e5.trans e6)), (((za.mono (.of s3)).mono e5).mono e6).append (.cons z6 .nil), ?_, h7⟩
          rw [<- w4]
          exact (r6.wiped sl).write
        . exact h7.elim
end
section
variable {X : Cx} {W : WX} {pos : Pos} {elt tg iter : Expr} {ifs : List Expr} {scope : Scope} {own : List (Str × Nat)} {sl : List Nat} {it : M.MI} {g : M.MG} {t : M.MT} {e : M.ME}
theorem bG' {X : Cx} {W : WX} : PTs X [] (qT X.K W M.tT) := ⟨fun _ _ _ H Q I ⟨ρ, F, T, fr, rel, h⟩ => wpAny_tests_nil ⟨H, I, h _ _ _ .refl rel⟩⟩
theorem on' {X : Cx} {W : WX} {c : Expr} {m : M.MT} (h : ST X W c m) : PTs X [c] (qT X.K W m) := pts_one h
theorem qX' (hc : X.calm = true) (hN : X.N.Nodup) (hi : SI X W tg iter it) (ok : BlkOk X.N X.env.scope scope own) (hsl : sl = own.map (·.2))
    (hg : ∀ (s : Shared) (H : Hp) (C : Addr) (cl : List (Str × Addr)) (fp : List Addr), SG (X.blk s H scope (compEnvC scope cl C X.env) fp) tg sl g) (ht : ∀ (s : Shared) (H : Hp) (C : Addr) (cl : List (Str × Addr)) (fp : List Addr), PTs (X.blk s H scope (compEnvC scope cl C X.env) fp) ifs (qT X.K W0 t))
    (he : ∀ (s : Shared) (H : Hp) (C : Addr) (cl : List (Str × Addr)) (fp : List Addr), SE (X.blk s H scope (compEnvC scope cl C X.env) fp) W0 elt e) (hs : ∀ x, foldedSetIterable iter X.env x = pure x := by intro _; rfl) :
    SO X W (.ListComp elt [⟨tg, iter, ifs, 0⟩] scope pos) (M.oLc sl it g t e) := by
  subst hsl
  exact PE.imp (pe_lc hc hN hi ok hg ht he hs) fun σ H Q h => h6' h
theorem tH' {K : PySem.W.Frag} {m : M.MO} {σ : St} {H : Hp} {Q : VK} (h : qE K W (M.eO m) σ H Q) : qO K W m σ H Q := by
  obtain ⟨ρ, F, T, fr, rel, h⟩ := h
  refine ⟨ρ, F, T, fr, rel, (aR'.bind h).mono (fun o ρ1 h1 v H1 F1 T1 fp e1 z1 r1 => ?_) fun _ _ z => z⟩
  obtain ⟨G, s, z, r⟩ := r1.frozen z1
  exact h1 v H1 G T1 (e1.trans (.of s)) z r
theorem b9' {a : Expr} {m : M.MO} (h : SO X W a m) : SE X W a (M.eO m) := PE.imp h fun σ H Q h => tH' h
theorem bg' {a : Expr} {m : M.ME} (h : SE X W a m) : SO X W a (M.oE m) := PE.imp h fun σ H Q ⟨ρ, F, T, fr, rel, h⟩ => av' rel h fun d ρ1 v H1 F1 T1 e1 z1 r1 h1 => h1 v H1 F1 T1 [] e1 (.fz z1) r1
theorem t4' (xs : List M.D) : M.frz (.lst (xs.map .fz)) = .lst xs := by
  show M.D.lst (M.frzs _) = _
  rw [M.id']
theorem mu' (hc : X.calm = true) (hN : X.N.Nodup) (hi : SI X W tg iter it) (ok : BlkOk X.N X.env.scope scope own) (hsl : sl = own.map (·.2))
    (hg : ∀ (s : Shared) (H : Hp) (C : Addr) (cl : List (Str × Addr)) (fp : List Addr), SG (X.blk s H scope (compEnvC scope cl C X.env) fp) tg sl g) (ht : ∀ (s : Shared) (H : Hp) (C : Addr) (cl : List (Str × Addr)) (fp : List Addr), PTs (X.blk s H scope (compEnvC scope cl C X.env) fp) ifs (qT X.K W0 t))
    (he : ∀ (s : Shared) (H : Hp) (C : Addr) (cl : List (Str × Addr)) (fp : List Addr), SE (X.blk s H scope (compEnvC scope cl C X.env) fp) W0 elt e) (hs : ∀ x, foldedSetIterable iter X.env x = pure x := by intro _; rfl) :
    SE X W (.ListComp elt [⟨tg, iter, ifs, 0⟩] scope pos) (M.eLc sl it g t e) := by
  have h := b9' (qX' (pos := pos) hc hN hi ok hsl hg ht he hs)
  have eq : M.eO (M.oLc sl it g t e) = M.eLc sl it g t e := by
    funext ρ
    show ((it ρ).bind fun xs ρ1 => _).bind _ = (it ρ).bind _
    cases it ρ with
    | bad => rfl
    | exc x ρ1 => rfl
    | ok xs ρ1 =>
      show ((M.lcL sl g t e xs [] ρ1).bind _).bind _ = (M.lcL sl g t e xs [] ρ1).bind _
      cases M.lcL sl g t e xs [] ρ1 with
      | bad => rfl
      | exc x ρ2 => rfl
      | ok ys ρ2 =>
        show M.Res.ok (M.frz (.lst (ys.map .fz))) _ = M.Res.ok (M.D.lst ys) _
        rw [t4']
  rw [eq] at h
  exact h
end
end S
namespace S
open PySem PySem.Spec PyProof.Rows L2
variable [Wd] [Hot]
section
variable {K : PySem.W.Frag} {F F' H H' : Hp} {T T' : List Addr} {fp fq fr : Fp} {ρ : M.PSt} {σ : St} {W : WX} {D : Ends} {Q : VK}
theorem bn'.mono {r : M.Out} (h : bn' K W D F T fr r) (e : Ext F T F' T') : bn' K W D F' T' fr r := by
  cases r with
  | nx ρ => exact fun σ' H' F2 T2 e2 => h σ' H' F2 T2 (e.trans e2)
  | bk ρ => exact fun σ' H' F2 T2 e2 => h σ' H' F2 T2 (e.trans e2)
  | ct ρ => exact fun σ' H' F2 T2 e2 => h σ' H' F2 T2 (e.trans e2)
  | rt o w => exact fun v H' F2 T2 fp e2 => h v H' F2 T2 fp (e.trans e2)
  | exc x ρ => exact fun σ' cls dd H' F2 T2 e2 => h σ' cls dd H' F2 T2 (e.trans e2)
  | bad => exact h
theorem bn'.imp {r : M.Out} {D' : Ends} {W' : WX} (h : bn' K W D F T fr r) (h1 : ∀ σ H, D.nx σ H -> D'.nx σ H) (h2 : ∀ σ H, D.bk σ H -> D'.bk σ H) (h3 : ∀ σ H, D.ct σ H -> D'.ct σ H) (h4 : ∀ v H, D.rt v H -> D'.rt v H) (h5 : ∀ c d σ H, W c d σ H -> W' c d σ H) : bn' K W' D' F T fr r := by
  cases r with
  | nx ρ => exact fun σ' H' F2 T2 e2 r => h1 _ _ (h σ' H' F2 T2 e2 r)
  | bk ρ => exact fun σ' H' F2 T2 e2 r => h2 _ _ (h σ' H' F2 T2 e2 r)
  | ct ρ => exact fun σ' H' F2 T2 e2 r => h3 _ _ (h σ' H' F2 T2 e2 r)
  | rt o w => exact fun v H' F2 T2 fp e2 z r => h4 _ _ (h v H' F2 T2 fp e2 z r)
  | exc x ρ => exact fun σ' cls dd H' F2 T2 e2 z r => h5 _ _ _ _ (h σ' cls dd H' F2 T2 e2 z r)
  | bad => exact h
theorem c9' {α : Type} {r : M.Res α} {f : α -> M.PSt -> M.Out} (h : bn' K W D F T fr (r.out f)) : aR' r (fun a ρ' => bn' K W D F T fr (f a ρ')) (EX K W σ F T fr) := by
  cases r with
  | ok a ρ => exact h
  | exc x ρ => exact fun cls dd H' F' T' e z r => h σ cls dd H' F' T' e z r
  | bad => exact h
theorem ct' {m : M.ME} {k : M.D -> M.PSt -> M.Out} (rel : Rel K ρ σ H F T fr) (h : bn' K W D F T fr ((m ρ).out k))
    (q : ∀ d ρ1 v H1 F1 T1, Ext F T F1 T1 -> Fz K F1 T1 v d -> Rel K ρ1 σ H1 F1 T1 fr -> bn' K W D F1 T1 fr (k d ρ1) -> Q v H1) : qE K W m σ H Q :=
  ⟨ρ, F, T, fr, rel, (c9' h).mono (fun d ρ1 h1 v H1 F1 T1 e z r => q d ρ1 v H1 F1 T1 e z r (h1.mono e)) fun _ _ z => z⟩
theorem dp' {m : M.MO} {k : M.O -> M.PSt -> M.Out} (rel : Rel K ρ σ H F T fr) (h : bn' K W D F T fr ((m ρ).out k))
    (q : ∀ o ρ1 v H1 F1 T1 fp, Ext F T F1 T1 -> Rp K F1 T1 v o fp -> Rel K ρ1 σ H1 F1 T1 (fp ++ fr) -> bn' K W D F1 T1 fr (k o ρ1) -> Q v H1) : qO K W m σ H Q :=
  ⟨ρ, F, T, fr, rel, (c9' h).mono (fun d ρ1 h1 v H1 F1 T1 fp e z r => q d ρ1 v H1 F1 T1 fp e z r (h1.mono e)) fun _ _ z => z⟩
theorem q5' {m : M.MT} {k : Bool -> M.PSt -> M.Out} {Q : Bool -> Hp -> Prop} (rel : Rel K ρ σ H F T fr) (h : bn' K W D F T fr ((m ρ).out k))
    (q : ∀ b ρ1 H1 F1 T1, Ext F T F1 T1 -> Rel K ρ1 σ H1 F1 T1 fr -> bn' K W D F1 T1 fr (k b ρ1) -> Q b H1) : qT K W m σ H Q :=
  ⟨ρ, F, T, fr, rel, (c9' h).mono (fun d ρ1 h1 H1 F1 T1 e r => q d ρ1 H1 F1 T1 e r (h1.mono e)) fun _ _ z => z⟩
theorem q6' {m : M.MI} {k : List M.D -> M.PSt -> M.Out} {R : It -> Hp -> Prop} (rel : Rel K ρ σ H F T fr) (h : bn' K W D F T fr ((m ρ).out k))
    (q : ∀ ds ρ1 J H1 F1 T1, Ext F T F1 T1 -> hy' K J ds F1 T1 -> Rel K ρ1 σ H1 F1 T1 fr -> bn' K W D F1 T1 fr (k ds ρ1) -> R J H1) : qI K W m σ H R :=
  ⟨ρ, F, T, fr, rel, (c9' h).mono (fun d ρ1 h1 J H1 F1 T1 e z r => q d ρ1 J H1 F1 T1 e z r (h1.mono e)) fun _ _ z => z⟩
theorem Rel.noenv (r : Rel K ρ σ H F T fr) : n0' K (ρ.w) H F T fr := by
  obtain ⟨fe, fw, re, rw, f⟩ := r
  exact ⟨[], fw, tU', rw, f.part (.app .nil .refl)⟩
end
section
variable {X : Cx} {W : WX} {pos : Pos} {a b c : Expr} {st : Stmt} {rest body : List Stmt} {ma mb : M.ME} {mo : M.MO} {mt : M.MT} {m1 m2 : M.MS} {D : Ends} {σ : St} {H : Hp}
theorem aE' : SSs X W [] M.a6' := PSs.imp pss_nil fun D σ H ⟨ρ, F, T, fr, rel, h⟩ => h σ H F T .refl rel
theorem af' (h : SS X W st m1) : SSs X W [st] m1 := pss_one h
theorem ab' (h1 : SS X W st m1) (h2 : SSs X W rest m2) : SSs X W (st :: rest) (M.aF' m1 m2) := PSs.imp (pss_cons h1 h2) fun D σ H ⟨ρ, F, T, fr, rel, h⟩ => by
  refine ⟨ρ, F, T, fr, rel, ?_⟩
  unfold M.aF' at h
  cases e : m1 ρ with
  | nx ρ1 => rw [e] at h; exact fun σ1 H1 F1 T1 e1 r1 => ⟨ρ1, F1, T1, fr, r1, bn'.mono h e1⟩
  | bk ρ1 => rw [e] at h; exact h
  | ct ρ1 => rw [e] at h; exact h
  | rt o w => rw [e] at h; exact h
  | exc x ρ1 => rw [e] at h; exact h
  | bad => rw [e] at h; exact h
theorem d9' (ha : SE X W a ma) (hs : swapsWith a none pos.line X.env = pure false := by rfl) : SS X W (.Expr a pos) (M.fk' ma) := PS.imp (ps_expr ha hs) fun D σ H ⟨ρ, F, T, fr, rel, h⟩ =>
  ct' rel h fun d ρ1 v H1 F1 T1 e1 z1 r1 h1 => h1 σ H1 F1 T1 .refl r1
theorem az' (ha : SO X W a mo) : SS X W (.Return (some a) pos) (M.bT' mo) := PS.imp (ps_ret ha) fun D σ H ⟨ρ, F, T, fr, rel, h⟩ =>
  dp' rel h fun o ρ1 v H1 F1 T1 fp e1 z1 r1 h1 => h1 v H1 F1 T1 fp .refl z1 r1.noenv
theorem bd' (hc : ST X W c mt) (ha : SSs X W rest m1) (hb : SSs X W body m2) : SS X W (.If c rest body pos) (M.sIf mt m1 m2) := PS.imp (ps_if hc ha hb) fun D σ H ⟨ρ, F, T, fr, rel, h⟩ => by
  refine q5' rel h fun k ρ1 H1 F1 T1 e1 r1 h1 => ?_
  cases k with
  | true => rw [if_pos rfl] at h1 ⊢; exact ⟨ρ1, F1, T1, fr, r1, h1⟩
  | false => rw [if_neg Bool.false_ne_true] at h1 ⊢; exact ⟨ρ1, F1, T1, fr, r1, h1⟩
theorem am' {i : Nat} {x : Str} {pos' : Pos} (hN : X.N.Nodup) (hi : X.N[i]? = some x) (hx : Loc X.env.scope x) (ha : SO X W a mo) (hs : swapsWith a (some (.Name x pos')) pos.line X.env = pure false := by rfl) (hf : X.fn x = true \/ X.env.scope.names.lookup x = some .local := by first | exact .inl rfl | exact .inr rfl | assumption) :
    SS X W (.Assign [.Name x pos'] a pos) (M.br' i mo) := PS.imp (ps_set hN hi hx ha hs hf) fun D σ H ⟨ρ, F, T, fr, rel, h⟩ => by
  refine dp' rel h fun o ρ1 v H1 F1 T1 fp e1 z1 r1 h1 => ?_
  unfold M.ox' at h1
  split at h1
  . rename_i hl
    exact h1 _ H1 F1 T1 .refl (r1.put hl z1 .refl)
  . exact h1.elim
theorem om' {i : Nat} {y : Str} {py : Pos} {elt tg iter : Expr} {ifs : List Expr} {scope : Scope} {own : List (Str × Nat)} {spos : Pos} {sl : List Nat} {it : M.MI} {g : M.MG} {t : M.MT} {e : M.ME} (hc : X.calm = true) (hN : X.N.Nodup) (hy : X.N[i]? = some y) (hyl : X.env.scope.names.lookup y = some .local)
    (hsw : swapsWith (.ListComp elt [⟨tg, iter, ifs, 0⟩] scope pos) (some (.Name y py)) spos.line X.env = pure true) (hi : SI X W tg iter it) (ok : BlkOk X.N X.env.scope scope own) (hsl : sl = own.map (·.2))
    (hg : ∀ (s : Shared) (H : Hp) (C : Addr) (cl : List (Str × Addr)) (fp : List Addr), SG (X.blk s H scope (compEnvC scope cl C X.env) fp) tg sl g) (ht : ∀ (s : Shared) (H : Hp) (C : Addr) (cl : List (Str × Addr)) (fp : List Addr), PTs (X.blk s H scope (compEnvC scope cl C X.env) fp) ifs (qT X.K W0 t))
    (he : ∀ (s : Shared) (H : Hp) (C : Addr) (cl : List (Str × Addr)) (fp : List Addr), SE (X.blk s H scope (compEnvC scope cl C X.env) fp) W0 elt e) (hs : ∀ x, foldedSetIterable iter X.env x = pure x := by intro _; rfl) :
    SS X W (.Assign [.Name y py] (.ListComp elt [⟨tg, iter, ifs, 0⟩] scope pos) spos) (M.br' i (M.oLc sl it g t e)) := by
  subst hsl
  refine PS.imp (ps_setLc (g := qG X.K (own.map (·.2)) g) (tt := qT X.K W0 t) (te := qE X.K W0 e) hc hN hy hyl hsw hi ok hg ht he hs) fun D σ H ⟨ρ, F, T, fr, rel, h⟩ => ?_
  show tLc (qI X.K W it) (qG X.K (own.map (·.2)) g) (qT X.K W0 t) (qE X.K W0 e) (own.map (·.2)) σ H fun x H1 => gName i x σ H1 D.nx
  refine h6' (W := W) (dp' (D := D) rel h fun o ρ1 v H1 F1 T1 fp e1 z1 r1 h1 => ?_)
  unfold M.ox' at h1
  split at h1
  . rename_i hl
    exact h1 _ H1 F1 T1 .refl (r1.put hl z1 .refl)
  . exact h1.elim
theorem ta' {tg : Expr} {sl : List Nat} {g : M.MG} (ha : SE X W a ma) (hg : SG X tg sl g) (hs : swapsWithSole [tg] a pos.line X.env = pure false := by rfl) (hw : swappedStores [tg] a X.env = pure none := by rfl)
    (h1 : (assignEach [tg] X.env).map (·.2) = [assign tg X.env] := by rfl) : SS X W (.Assign [tg] a pos) (M.tr' g ma) := PS.imp (ps_asg ha hg hs hw h1) fun D σ H ⟨ρ, F, T, fr, rel, h⟩ => by
  refine ct' rel h fun d ρ1 v H1 F1 T1 e1 z1 r1 h1 => ?_
  cases e : g d ρ1 with
  | none => rw [e] at h1; exact h1.elim
  | some ρ2 =>
    rw [e] at h1
    exact ⟨ρ1, F1, T1, fr, d, ρ2, r1, z1, e, fun σ' _ r' => h1 σ' H1 F1 T1 .refl r'⟩
theorem s9' {i : Nat} {x : Str} {op : Operator} {f : M.D -> M.D -> Option M.D} {ti : TIp} {pos' : Pos} (hN : X.N.Nodup) (hi : X.N[i]? = some x) (hx : Loc X.env.scope x) (ha : SE X W a ma) (ho : PIp X op ti)
    (hf2 : ∀ {F H : Hp} {T : List Addr} {fp : Fp} {x y : V} {dx dy dz : M.D} {Q : VK}, FpH F H fp -> Fz X.K F T x dx -> Fz X.K F T y dy -> f dx dy = some dz -> c0' X.K F T fp dz Q -> ti x y H Q)
    (hf : X.fn x = true \/ X.env.scope.names.lookup x = some .local := by first | exact .inl rfl | exact .inr rfl | assumption) :
    SS X W (.AugAssign (.Name x pos') op a pos) (M.sg' f i ma) := PS.imp (ps_aug hN hi hx ha ho hf) fun D σ H ⟨ρ, F, T, fr, rel, h⟩ => by
  unfold M.sg' at h
  split at h
  . rename_i d e
    obtain ⟨fe, fw, re, rw, ff⟩ := id rel
    obtain ⟨v, hv, zv⟩ := re.data e
    refine ⟨v, hv, ct' rel h fun d2 ρ1 u H1 F1 T1 e1 z1 r1 h1 => ?_⟩
    cases q : f d d2 with
    | none => rw [q] at h1; exact h1.elim
    | some z =>
      rw [q] at h1
      obtain ⟨fp, f1, back⟩ := r1.fp
      refine hf2 f1 (zv.mono e1) z1 q fun v2 H2 F2 s2 z2 f2 => ?_
      unfold M.ox' at h1
      dsimp only at h1
      split at h1
      . rename_i hl
        exact h1 _ H2 F2 T1 (.of s2) ((back H2 F2 s2 f2).put hl (.fz z2) .nilL)
      . exact h1.elim
  . exact h.elim
theorem wf' {F H : Hp} {T : List Addr} {fp : Fp} {x y : V} {dx dy dz : M.D} {Q : VK} {K : PySem.W.Frag} (f : FpH F H fp) (hx : Fz K F T x dx) (hy : Fz K F T y dy) (h : M.oP' dx dy = some dz) (k : c0' K F T fp dz Q) : ipI (fun i j => i + j) x y H Q := by
  cases dx <;> cases dy <;> try (cases h; done)
  cases hx; cases hy; cases h
  exact ⟨_, _, rfl, rfl, k.here f (.int _)⟩
theorem RpA.app {K : PySem.W.Frag} {F : Hp} {T : List Addr} : ∀ {vs ws : List V} {os ps : List M.O} {fp fq : Fp}, RpA K F T vs os fp -> RpA K F T ws ps fq -> RpA K F T (vs ++ ws) (os ++ ps) (fp ++ fq)
  | _, _, _, _, _, _, .nil, h => h
  | _, _, _, _, _, _, .cons a r, h => by
    rw [List.append_assoc]
    exact .cons a (RpA.app r h)
theorem RpA.length {K : PySem.W.Frag} {F : Hp} {T : List Addr} : ∀ {vs : List V} {os : List M.O} {fp : Fp}, RpA K F T vs os fp -> vs.length = os.length
  | _, _, _, .nil => rfl
  | _, _, _, .cons _ r => congrArg (· + 1) (RpA.length r)
theorem Rel.slotW {K : PySem.W.Frag} {ρ : M.PSt} {F : Hp} {T : List Addr} {fr : Fp} {i : Nat} {p : Addr} {os : List M.O} (rel : Rel K ρ σ H F T fr) (e : ρ.env[i]? = some (some (.lst os))) (hp : σ[i]? = some (some (.ref p))) :
    ∃ vs f2, H p = some (.lst vs) /\ RpA K F T vs os f2 /\ ∀ vs' os' f2' fr', RpA K F T vs' os' f2' -> Part (f2' ++ fr') (f2 ++ fr) -> Rel K ⟨ρ.env.set i (some (.lst os')), ρ.w⟩ σ (upd H p (.lst vs')) F T fr' := by
  obtain ⟨fe, fw, re, rw, f⟩ := rel
  obtain ⟨v, f1, f2, f3, h1, rfl, h3, h4, h5⟩ := re.get e
  rw [h1] at hp
  cases hp
  cases h3 with
  | lst r =>
    rename_i vs0 fp0
    refine ⟨vs0, fp0, (f.at_ (p, .lst vs0) (by simp)).1, r, fun vs' os' f2' fr' r' pt => ?_⟩
    have e5 := h5 F T (.ref p) (.lst os') ((p, .lst vs') :: f2') .refl (.lst r')
    rw [cG' h1] at e5
    refine ⟨_, fw, e5, rw, ?_⟩
    have fA : FpH F H (f1 ++ ((p, .lst vs0) :: (f3 ++ (fw ++ (fp0 ++ fr))))) := f.part (by
      constructor
      . intro e h
        simp only [List.mem_append, List.mem_cons] at *
        grind
      . intro x
        simp only [keys, List.map_append, List.map_cons, List.count_append, List.count_cons] at *
        omega)
    have fB := fA.write (o' := .lst vs')
    refine fB.part (.trans (b := f1 ++ ((p, .lst vs') :: (f3 ++ (fw ++ (f2' ++ fr'))))) ?_ ?_)
    . constructor
      . intro e h
        simp only [List.mem_append, List.mem_cons] at *
        grind
      . intro x
        simp only [keys, List.map_append, List.map_cons, List.count_append, List.count_cons] at *
        omega
    . have := pt.m
      have := pt.c
      constructor
      . intro e h
        simp only [List.mem_append, List.mem_cons] at *
        grind
      . intro x
        have := pt.c x
        simp only [keys, List.map_append, List.map_cons, List.count_append, List.count_cons] at *
        omega
theorem c3' {i : Nat} {x : Str} {px apos cpos : Pos} (hv : PE X (.Name x px) (tVar i)) (ha : SO X W a mo)
    (hbase : attributeBase (.Name x px) "append" X.env (eval (.Name x px) X.env) = eval (.Name x px) X.env := by rfl)
    (hfew : ((backTo cpos (starEach [a] X.env)).all (fun x => !x.1) && (backToKw cpos (keywordEach [] X.env)).all (fun x => x.1.isSome)
      && decide ([a].length + ([] : List Keyword).length + (if ([] : List Keyword).isEmpty then 0 else 1) < 30)) = true := by rfl)
    (hline : (apos.endLine == cpos.line) = true := by rfl) (hs : starEach [a] X.env = (false, eval a X.env) :: starEach [] X.env := by rfl) (hplain : (backTo cpos (starEach [] X.env)).any (·.1) = false := by rfl)
    (hsw : swapsWith (.Call (.Attribute (.Name x px) "append" apos) [a] [] cpos) none pos.line X.env = pure false := by rfl) :
    SS X W (.Expr (.Call (.Attribute (.Name x px) "append" apos) [a] [] cpos) pos) (M.jV' i mo) :=
  PS.imp (ps_expr (pe_bm PySem.F.plainAttrs_list PySem.F.slot_list_append PySem.F.type_list_append mt_append hv (pa_cons ha pa_nil hs) hbase hfew hline hs hplain) hsw) fun D σ H ⟨ρ, F, T, fr, rel, h⟩ => by
    unfold M.jV' at h
    split at h
    . rename_i os0 e0
      obtain ⟨fe, fw, re, rw, ff⟩ := id rel
      obtain ⟨v, f1, f2, f3, h1, _, h3, _⟩ := re.get e0
      cases h3 with
      | @lst p vs0 _ fp0 r0 =>
        obtain ⟨vs1, f21, hH, _, _⟩ := rel.slotW e0 h1
        refine ⟨.ref p, h1, .inl ⟨rfl, vs1, SqL.of hH⟩, dp' rel h fun o ρ1 u H1 F1 T1 fp e1 z1 r1 h2 => ?_⟩
        split at h2
        . rename_i os e2
          split at h2
          . rename_i hl
            obtain ⟨vs, f2', hH2, r2, back⟩ := r1.slotW e2 h1
            refine ⟨p, vs, u, rfl, rfl, hH2, by rw [r2.length, bx']; exact hl, ?_⟩
            have z1' : RpA X.K F1 T1 [u] [o] (fp ++ []) := .cons z1 .nil
            exact h2 σ _ F1 T1 .refl (back _ _ _ fr (r2.app z1') (by
              constructor
              . intro e h
                simp only [List.mem_append, List.not_mem_nil] at *
                grind
              . intro x
                simp only [keys, List.map_append, List.map_nil, List.count_append, List.count_nil] at *
                omega))
          . exact h2.elim
        . exact h2.elim
    . exact h.elim
theorem o8' {K : PySem.W.Frag} {sl : List Nat} {it : M.MI} {g : M.MG} {b : M.MS} (h : qS K W (M.dX' it g b) D σ H) : tFor (qI K W it) (qG K sl g) (qS K W b) D σ H := by
  obtain ⟨ρ, F, T, fr, rel, h⟩ := h
  refine q6' rel h fun ds ρ1 J H1 F1 T1 e1 io r1 h1 => ?_
  refine ⟨fun i m σ2 H2 => m = ds.length - i /\ i <= ds.length /\ ∃ ρ2 F2 T2, Ext F1 T1 F2 T2 /\ Rel K ρ2 σ2 H2 F2 T2 fr /\ bn' K W D F2 T2 fr (M.fW' g b (ds.drop i) ρ2), ⟨ds.length, by simp, Nat.zero_le _, ρ1, F1, T1, .refl, r1, h1⟩, ?_⟩
  rintro i m σ2 H2 ⟨rfl, hi, ρ2, F2, T2, e2, r2, h2⟩
  obtain ⟨fe, fw, re, rw, f2⟩ := id r2
  obtain ⟨st, yl⟩ := io F2 T2 H2 _ i e2 f2 hi
  by_cases hl : i = ds.length
  . refine .inl ⟨st hl, ?_⟩
    rw [hl, List.drop_length] at h2
    exact h2 σ2 H2 F2 T2 .refl r2
  . have hlt : i < ds.length := by omega
    obtain ⟨go, yh⟩ := yl ds[i] (List.getElem?_eq_getElem hlt)
    refine .inr ⟨go, fun σ3 H3 => ∃ ρ3 F3 T3, Ext F1 T1 F3 T3 /\ Rel K ρ3 σ3 H3 F3 T3 fr /\ bn' K W D F3 T3 fr (M.fW' g b (ds.drop (i + 1)) ρ3), fun σ3 H3 n => ⟨ds.length - (i + 1), by omega, rfl, hlt, n⟩, fun x H3 y => ?_⟩
    obtain ⟨F3, s3, zx, f3⟩ := yh x H3 y
    have r3 : Rel K ρ2 σ2 H3 F3 T2 fr := ⟨fe, fw, re.mono (.of s3), rw.mono (.of s3), f3⟩
    rw [List.drop_eq_getElem_cons hlt] at h2
    unfold M.fW' at h2
    cases eg : g ds[i] ρ2 with
    | none => rw [eg] at h2; exact h2.elim
    | some ρ4 =>
      rw [eg] at h2
      refine ⟨ρ2, F3, T2, fr, ds[i], ρ4, r3, zx, eg, fun σ4 _ r4 => ⟨ρ4, F3, T2, fr, r4, ?_⟩⟩
      have h3 := bn'.mono h2 (.of s3)
      have e3 : Ext F1 T1 F3 T2 := e2.trans (.of s3)
      dsimp only at h3
      cases eb : b ρ4 with
      | nx ρ5 => rw [eb] at h3; exact fun σ5 H5 F5 T5 e5 r5 => ⟨ρ5, F5, T5, e3.trans e5, r5, bn'.mono h3 e5⟩
      | ct ρ5 => rw [eb] at h3; exact fun σ5 H5 F5 T5 e5 r5 => ⟨ρ5, F5, T5, e3.trans e5, r5, bn'.mono h3 e5⟩
      | bk ρ5 => rw [eb] at h3; exact fun σ5 H5 F5 T5 e5 r5 => h3 σ5 H5 F5 T5 e5 r5
      | rt o w => rw [eb] at h3; exact h3
      | exc x ρ5 => rw [eb] at h3; exact h3
      | bad => rw [eb] at h3; exact h3
theorem bq' {tg iter : Expr} {sl : List Nat} {it : M.MI} {g : M.MG} (hp : PassesOwn (model X.prog X.w) X.A X.env X.xe) (hc : X.calm = true) (hi : SI X W tg iter it) (hg : SG X tg sl g) (hb : SSs X W body m1)
    (hs : ∀ x, foldedSetIterable iter X.env x = pure x := by intro _; rfl) : SS X W (.For tg iter body [] pos) (M.dX' it g m1) := PS.imp (ps_for hp hc hi hg hb hs) fun D σ H h => o8' h
theorem dW' {e : Expr} {x : String} (hc : X.calm = true) (tk : Takes X W) (he : PMk X e (fun _ H Q => Q (.ref (He.ga X.K x)) none H)) : SS X W (.Raise (some e) none pos) (M.gz' x) := PS.imp (ps_raise hc tk he) fun D σ H ⟨ρ, F, T, fr, rel, h⟩ =>
  h σ _ _ H F T .refl ⟨rfl, .inl ⟨rfl, rfl⟩⟩ rel
def se' (K : PySem.W.Frag) (Q : VK) (E : XK) (F : Hp) (T : List Addr) (fr : Fp) : M.FRes -> Prop
  | .ok o w' => ∀ v H' F' T' fp, Ext F T F' T' -> Rp K F' T' v o fp -> n0' K (w') H' F' T' (fp ++ fr) -> Q v H'
  | .exc x w' => ∀ cls dd H' F' T', Ext F T F' T' -> XcR K F' T' x cls dd -> n0' K (w') H' F' T' fr -> E cls dd H'
  | .bad => False
def spM (K : PySem.W.Frag) (m : M.MF) : Sp := fun vs H Q E => ∃ ds w F T fr, FzA K F T vs ds /\ n0' K (w) H F T fr /\ se' K Q E F T fr (m ds w)
theorem RpE.start {K : PySem.W.Frag} {F : Hp} {T : List Addr} {n : Nat} : ∀ {vs : List V} {ds : List M.D}, FzA K F T vs ds -> RpE K F T (vs.map some ++ List.replicate n none) (ds.map (fun d => some (.fz d)) ++ List.replicate n none) []
  | _, _, .nil => by
    show RpE K F T (List.replicate n none) (List.replicate n none) []
    induction n with
    | zero => exact .nil
    | succ n ih => exact .off ih
  | _, _, .cons z r => RpE.on (fp := []) (fq := []) (.fz z) (RpE.start r)
end
section
variable {P : Program} {w : World} {K : PySem.W.Frag} {mg : Str -> Option Value} {base : Heap}
end
section
variable {X : Cx} {k : Nat} {x : Str} {ps : List Str} {p pos : Pos} {e : Expr} {es : List Expr} {as : M.MA} {W : WX} {m : M.MF}
theorem nG' {K : PySem.W.Frag} {σ : St} {H : Hp} {Q : VK} (h : qO K W (M.aD' m as) σ H Q) : tCallS (spM K m) (WE W) (qA K W as) σ H Q := by
  obtain ⟨ρ, F, T, fr, rel, h⟩ := h
  refine bU' rel h fun ds ρ1 vs H1 F1 T1 e1 z1 r1 h1 => ?_
  obtain ⟨fe, fw, re, rw, f⟩ := r1
  refine ⟨ds, ρ1.w, F1, T1, fe ++ fr, z1, ⟨[], fw, tU', rw, f.part (Part.swap : Part (fw ++ (fe ++ fr)) (fe ++ (fw ++ fr)))⟩, ?_⟩
  cases em : m ds ρ1.w with
  | bad => rw [em] at h1; exact h1.elim
  | ok o w' =>
    rw [em] at h1
    refine fun v H' F' T' fp e z r => h1 v H' F' T' fp (e1.trans e) z ?_
    obtain ⟨fe', fw', re', rw', f'⟩ := r
    cases re'
    refine ⟨fe, fw', re.mono e, rw', f'.part ?_⟩
    constructor
    . intro e h
      simp only [List.mem_append, List.not_mem_nil] at *
      grind
    . intro x
      simp only [keys, List.map_append, List.map_nil, List.count_append, List.count_nil] at *
      omega
  | exc x w' =>
    rw [em] at h1
    refine fun cls dd H' F' T' e z r => h1 cls dd H' F' T' e z ?_
    obtain ⟨fe', fw', re', rw', f'⟩ := r
    cases re'
    refine ⟨fe, fw', re.mono e, rw', f'.part ?_⟩
    constructor
    . intro e h
      simp only [List.mem_append, List.not_mem_nil] at *
      grind
    . intro x
      simp only [keys, List.map_append, List.map_nil, List.count_append, List.count_nil] at *
      omega
theorem ai' (F : Og X.prog X.w X.K X.mg X.base k x ps (spM X.K m)) (hr : RoomG k X.A) (hg : Gl X x) (tk : Takes X W) (ha : SA X W (e :: es) as) (hdb : (x == ("__debug__" : Str)) = false := by decide)
    (he : starEach (e :: es) X.env = (false, eval e X.env) :: starEach es X.env := by rfl) (hpl : (backTo pos (starEach es X.env)).any (·.1) = false := by rfl) : SO X W (.Call (.Name x p) (e :: es) [] pos) (M.aD' m as) :=
  PE.imp (oM' F hr hg tk ha hdb he hpl) fun _ _ _ h => nG' h
theorem cE' : Takes X W0 := fun _ _ ⟨_, _, _, _, _, _, _, _, _, _, _, _, _, _, _, _, w⟩ => w.elim
end
end S
namespace S
open PySem PySem.Spec PyProof.Rows L2
variable [Wd]
section
variable {P : Program} {w : World} {K : PySem.W.Frag} {mg : Str -> Option Value} {base : Heap}
theorem yb' {x qual : Str} {st : Stmt} {f : Addr} {fd : FuncData} {N ps : List Str} {k j n : Nat} {b : M.MS} (F : FunD K x qual (defArgs st) (defBody st) (defScope st) [] [] f fd) (S : FnScope N ps (defScope st)) (hj : ps.length = j) (hn : N.length = n)
    (hbody : ∀ (cdv oc : Value) (od : Option Addr) (osl : Array (Option Value)), K.lookup f = some ⟨oc, od, .func fd, osl⟩ -> fd.code = cdv -> PySem.W.codeIn K cdv qual = true -> ∀ (A : Around) (outer : List Env) (s : Shared) (H : Hp) (E : XK), RoomG k (A.deeper (envOfC qual (defScope st) s.heap.objs.size f cdv)) →
      SSs (cxOf (L2.CX P w) P w K mg base N qual (defScope st) f cdv A outer s H E) (fun cls d _ H => E cls d H) (defBody st) b)   : FnG P w K mg base (L2.CX P w) (k + 1) f fd ps (spM K (M.fnM j n b)) := by
  refine rI' F S (fun vs H Q E h => ?_) fun cdv oc od osl lk e1 e2 A outer s H vs Q E hr h => ⟨_, hbody cdv oc od osl lk e1 e2 A outer s H E hr, ?_⟩
  . obtain ⟨ds, w', F', T, fr, za, rel, h⟩ := h
    unfold M.fnM at h
    by_cases hl : ds.length = j
    . rw [za.length, hl, hj]
    . rw [if_neg hl] at h; exact h.elim
  . obtain ⟨ds, w', F', T, fr, za, rel, h⟩ := h
    unfold M.fnM at h
    by_cases hl : ds.length = j
    . rw [if_pos hl] at h
      obtain ⟨fe, fw, re, rw', ff⟩ := rel
      cases re
      have re' : RpE K F' T (L2.start N vs) (ds.map (fun d => some (.fz d)) ++ List.replicate (n - j) none) [] := by
        unfold L2.start
        rw [hn, za.length, hl]
        exact RpE.start za
      refine ⟨⟨_, w'⟩, F', T, fr, ⟨[], fw, re', rw', ff⟩, ?_⟩
      generalize b ⟨ds.map (fun d => some (.fz d)) ++ List.replicate (n - j) none, w'⟩ = r at h
      cases r with
      | nx ρ => exact fun σ' H' F2 T2 e2 r2 => h .non H' F2 T2 [] e2 (.fz .non) r2.noenv
      | rt o w2 => exact fun v H' F2 T2 fp e2 z2 r2 => h v H' F2 T2 fp e2 z2 r2
      | exc x ρ => exact fun σ' cls dd H' F2 T2 e2 z2 r2 => h cls dd H' F2 T2 e2 z2 r2.noenv
      | bk ρ => exact h.elim
      | ct ρ => exact h.elim
      | bad => exact h.elim
    . rw [if_neg hl] at h; exact h.elim
theorem okM {x qual : Str} {st : Stmt} {f : Addr} {fd : FuncData} {N ps : List Str} {k j n : Nat} {b : M.MS} (F : FunD K x qual (defArgs st) (defBody st) (defScope st) [] [] f fd) (S : FnScope N ps (defScope st)) (hj : ps.length = j) (hn : N.length = n)
    (hbody : ∀ (cdv : Value) (A : Around) (outer : List Env) (s : Shared) (H : Hp) (E : XK), RoomG k (A.deeper (envOfC qual (defScope st) s.heap.objs.size f cdv)) →
      SSs (cxOf (L2.CX P w) P w K mg base N qual (defScope st) f cdv A outer s H E) (fun cls d _ H => E cls d H) (defBody st) b)   : FnG P w K mg base (L2.CX P w) (k + 1) f fd ps (spM K (M.fnM j n b)) :=
  yb' F S hj hn fun cdv _ _ _ _ _ _ => hbody cdv
end
end S
namespace S
open PySem PySem.Spec PyProof.Rows L2
variable [Wd] [Hot]
section
variable {K : PySem.W.Frag}
theorem rJ' {F : Hp} {T : List Addr} {x y : V} {dx dy : M.D} (hx : Fz K F T x dx) (hy : Fz K F T y dy) (sx' : M.sca dx = true) (sy : M.sca dy = true) : eqV y x = M.eqb dy dx /\ flatV x = true := by
  cases dx <;> try (cases sx'; done)
  all_goals cases dy <;> try (cases sy; done)
  all_goals first
    | (cases hx; cases hy; exact ⟨rfl, rfl⟩)
    | skip
  obtain ⟨rfl, _⟩ := hx.str_inv
  obtain ⟨rfl, _⟩ := hy.str_inv
  exact ⟨qa' _ _, rfl⟩
theorem nu' {F : Hp} {T : List Addr} {x : V} {dx : M.D} (hx : Fz K F T x dx) (sx' : M.sca dx = true) : ∀ {vs : List V} {ds : List M.D}, FzA K F T vs ds -> ds.all M.sca = true -> inV x vs = ds.any (fun d => M.eqb d dx) /\ vs.all flatV = true
  | _, _, .nil, _ => ⟨rfl, rfl⟩
  | _, _, .cons z r, h => by
    rw [List.all_cons, Bool.and_eq_true] at h
    obtain ⟨h1, h2⟩ := nu' hx sx' r h.2
    obtain ⟨h3, h4⟩ := rJ' hx z sx' h.1
    obtain ⟨_, h5⟩ := rJ' z z h.1 h.1
    refine ⟨?_, ?_⟩
    . show (eqV _ x || inV x _) = _
      rw [List.any_cons, h3, h1]
    . rw [List.all_cons, h5, h2]; rfl
theorem km' {F : Hp} {T : List Addr} {x : V} {dx : M.D} (hx : Fz K F T x dx) (s : M.sca dx = true) : flatV x = true := (rJ' hx hx s s).2
theorem kg' {dx dy dz : M.D} (h : M.pIn dx dy = some dz) : (∃ c s, dx = .str [c] /\ dy = .str s /\ dz = .bl (decide (c ∈ s))) \/ (∃ ds, (dy = .lst ds \/ dy = .tup ds) /\ M.sca dx = true /\ ds.all M.sca = true /\ dz = .bl (ds.any fun d => M.eqb d dx)) := by
  unfold M.pIn at h
  split at h
  . exact .inl ⟨_, _, rfl, rfl, (Option.some.inj h).symm⟩
  . split at h
    . rename_i c; exact .inr ⟨_, .inl rfl, c.1, c.2, (Option.some.inj h).symm⟩
    . cases h
  . split at h
    . rename_i c; exact .inr ⟨_, .inr rfl, c.1, c.2, (Option.some.inj h).symm⟩
    . cases h
  . cases h
theorem xH' : Op2 K M.pIn (xB' K) := by
  intro F H T fp x y dx dy dz Q f hx hy h k
  rcases kg' h with ⟨c, s, rfl, rfl, rfl⟩ | ⟨ds, e, h1, h2, rfl⟩
  . obtain ⟨rfl, o1⟩ := hx.str_inv
    obtain ⟨rfl, o2⟩ := hy.str_inv
    exact .inl ⟨c, _, rfl, rfl, k.here f (.bl _)⟩
  . rcases e with rfl | rfl
    . obtain ⟨a, vs, rfl, ha, za⟩ := hy.lst_inv
      obtain ⟨e1, e2⟩ := nu' hx h1 za h2
      refine .inr (.inl ⟨a, vs, rfl, .inl (SqL.of (f.low _ _ ha)), km' hx h1, e2, ?_⟩)
      rw [if_neg Bool.false_ne_true, e1]
      exact k.here f (.bl _)
    . obtain ⟨a, vs, rfl, ha, za⟩ := hy.tup_inv
      obtain ⟨e1, e2⟩ := nu' hx h1 za h2
      refine .inr (.inl ⟨a, vs, rfl, .inr (seqT f.low ha), km' hx h1, e2, ?_⟩)
      rw [if_neg Bool.false_ne_true, e1]
      exact k.here f (.bl _)
theorem rk' : Op2 K M.gC' (mG' K) := by
  intro F H T fp x y dx dy dz Q f hx hy h k
  unfold M.gC' at h
  split at h
  . rename_i b hb
    cases h
    rcases kg' hb with ⟨c, s, rfl, rfl, eb⟩ | ⟨ds, e, h1, h2, eb⟩
    . cases eb
      obtain ⟨rfl, o1⟩ := hx.str_inv
      obtain ⟨rfl, o2⟩ := hy.str_inv
      exact .inl ⟨c, _, rfl, rfl, k.here f (.bl _)⟩
    . cases eb
      rcases e with rfl | rfl
      . obtain ⟨a, vs, rfl, ha, za⟩ := hy.lst_inv
        obtain ⟨e1, e2⟩ := nu' hx h1 za h2
        refine .inr (.inl ⟨a, vs, rfl, .inl (SqL.of (f.low _ _ ha)), km' hx h1, e2, ?_⟩)
        rw [if_pos rfl, e1]
        exact k.here f (.bl _)
      . obtain ⟨a, vs, rfl, ha, za⟩ := hy.tup_inv
        obtain ⟨e1, e2⟩ := nu' hx h1 za h2
        refine .inr (.inl ⟨a, vs, rfl, .inr (seqT f.low ha), km' hx h1, e2, ?_⟩)
        rw [if_pos rfl, e1]
        exact k.here f (.bl _)
  . cases h
theorem jP' {F : Hp} {T : List Addr} : ∀ {vs : List V} {ds : List M.D} {ss : List M.Tx}, FzA K F T vs ds -> M.cK' ds = some ss -> vs = (ss.map sx).map V.str /\ ∀ s ∈ ss, okT s
  | _, _, ss, .nil, h => by cases h; exact ⟨rfl, fun s h => nomatch h⟩
  | _, d :: ds, ss, .cons a r, h => by
    cases d <;> try (cases h; done)
    rename_i b
    cases q : M.cK' ds with
    | none => simp only [M.cK', q] at h; cases h
    | some cs =>
      simp only [M.cK', q, Option.map_some] at h
      cases h
      obtain ⟨rfl, o⟩ := a.str_inv
      obtain ⟨rfl, os⟩ := jP' r q
      refine ⟨rfl, fun s hs => ?_⟩
      rcases List.mem_cons.mp hs with rfl | hs
      . exact o
      . exact os s hs
theorem kc' (sep : M.Tx) : ∀ ss : List M.Tx, TL.joinL sep ss = M.b4' sep ss
  | [] => rfl
  | [_] => rfl
  | a :: b :: r => by
    show a ++ (sep ++ TL.joinL sep (b :: r)) = a ++ (sep ++ M.b4' sep (b :: r))
    rw [kc' sep (b :: r)]
theorem rs' (sep : M.Tx) (ss : List M.Tx) : Txt.join (sx sep) (ss.map sx) = sx (M.b4' sep ss) := by
  rw [TL.join_eq]
  refine fh' ?_
  have := TL.tl_join (sx sep) (ss.map sx)
  rw [List.map_map, show ss.map (TL.tl ∘ sx) = ss from (List.map_congr_left fun a _ => rfl).trans (List.map_id ss), show TL.tl (sx sep) = sep from rfl, kc'] at this
  exact this
theorem gT' (sep : M.Tx) : ∀ (ss : List M.Tx) (c : Nat), c ∈ M.b4' sep ss -> c ∈ sep \/ ∃ s ∈ ss, c ∈ s
  | [], c, h => by cases h
  | [a], c, h => .inr ⟨a, by simp, h⟩
  | a :: b :: r, c, h => by
    rcases List.mem_append.mp (show c ∈ a ++ (sep ++ M.b4' sep (b :: r)) from h) with h | h
    . exact .inr ⟨a, by simp, h⟩
    . rcases List.mem_append.mp h with h | h
      . exact .inl h
      . rcases gT' sep (b :: r) c h with h | ⟨s, h1, h2⟩
        . exact .inl h
        . exact .inr ⟨s, List.mem_cons_of_mem _ h1, h2⟩
theorem de' (sep : M.Tx) : ∀ (ss : List M.Tx), (M.b4' sep ss).length <= (ss.map List.length).sum + ss.length * sep.length
  | [] => by simp [M.b4']
  | [a] => by simp [M.b4']
  | a :: b :: r => by
    have ih := de' sep (b :: r)
    show (a ++ (sep ++ M.b4' sep (b :: r))).length <= _
    rw [List.length_append, List.length_append, List.map_cons, List.sum_cons, List.length_cons (as := b :: r), Nat.succ_mul]
    omega
def MtD (K : PySem.W.Frag) (f : M.Tx -> List M.D -> Option M.D) (r : V -> List V -> Hp -> VK -> Prop) : Prop := ∀ {F H : Hp} {T : List Addr} {fp : Fp} {s : M.Tx} {xs : List V} {ds : List M.D} {dz : M.D} {Q : VK}, FpH F H fp -> okT s -> FzA K F T xs ds -> f s ds = some dz -> c0' K F T fp dz Q -> r (.str (sx s)) xs H Q
theorem FzA.one {F : Hp} {T : List Addr} {xs : List V} {d : M.D} (h : FzA K F T xs [d]) : ∃ v, xs = [v] /\ Fz K F T v d := by
  cases h with
  | cons a r => cases r; exact ⟨_, rfl, a⟩
theorem gP' : MtD K M.em' (tC' K) := by
  intro F H T fp a xs ds dz Q f oa hx h k
  have fin : ∀ {ds : List M.D} {p : Addr} {vs : List V}, (SqL K H p vs \/ SqT K H p vs) -> FzA K F T vs ds -> ((M.cK' ds).bind fun ys => if (ys.map List.length).sum + ys.length * a.length <= M.cM' then some (M.D.str (M.b4' a ys)) else none) = some dz -> tC' K (.str (sx a)) [.ref p] H Q := by
    intro ds p vs hp za e
    cases q : M.cK' ds with
    | none => rw [q] at e; cases e
    | some ss =>
      rw [q, Option.bind_some] at e
      split at e
      . rename_i hl
        cases e
        obtain ⟨rfl, os⟩ := jP' za q
        refine ⟨_, p, ss.map sx, rfl, rfl, hp, ?_, ?_⟩
        . rw [List.map_map, show ss.map (Str.length ∘ sx) = ss.map List.length from List.map_congr_left fun s _ => bE' s, List.length_map, bE']
          exact hl
        . rw [rs']
          refine k.here f (.str ⟨fun c hc => ?_, Nat.le_trans (de' a ss) hl⟩)
          rcases gT' a ss c hc with h | ⟨s, h1, h2⟩
          . exact oa.1 c h
          . exact (os s h1).1 c h2
      . cases e
  unfold M.em' at h
  split at h
  . obtain ⟨v, rfl, z⟩ := hx.one
    obtain ⟨p, vs, rfl, ha, za⟩ := z.lst_inv
    exact fin (.inl (SqL.of (f.low _ _ ha))) za h
  . obtain ⟨v, rfl, z⟩ := hx.one
    obtain ⟨p, vs, rfl, ha, za⟩ := z.tup_inv
    exact fin (.inr (seqT f.low ha)) za h
  . cases h
theorem rF' (a b : M.Tx) (i : Nat) : (decide (i + (sx b).length <= (sx a).length) && Builtin.Str.subAt (sx a) (sx b) i) = M.qo' a b i := by
  rw [bE', bE', PySem.StrLaws.subAt_eq, cn', cn', bE']
  unfold M.qo'
  congr 1
  rw [Bool.eq_iff_iff]
  simp
end
section
variable {X : Cx} {W : WX} {K : PySem.W.Frag} {cpos apos p : Pos} {name : Str} {id T : String} {o e : Expr} {es : List Expr} {mo : M.ME} {as : M.MA} {σ : St} {H : Hp} {Q : VK}
theorem rn' {f : M.Tx -> List M.D -> Option M.D} {r : V -> List V -> Hp -> VK -> Prop} (hf : MtD K f r) (h : qE K W (M.eMt f mo as) σ H Q) : tBM K "str" r (qE K W mo) (qA K W as) σ H Q := by
  obtain ⟨ρ, F, T, fr, rel, h⟩ := h
  refine av' rel h fun dx ρ1 v H1 F1 T1 e1 z1 r1 h1 => ?_
  cases dx <;> try exact h1.elim
  obtain ⟨rfl, o⟩ := z1.str_inv
  refine ⟨rfl, ?_⟩
  refine bU' r1 h1 fun ds ρ2 vs H2 F2 T2 e2 z2 r2 h2 => ?_
  obtain ⟨dz, ez, q⟩ := aR'.ofO h2
  obtain ⟨fp, f2, back⟩ := r2.fp
  exact hf f2 o z2 ez fun v' H3 F3 s zz f3 => q v' H3 F3 T2 (e1.trans (e2.trans (.of s))) zz (back H3 F3 s f3)
theorem eb' {f : M.Tx -> List M.D -> Option M.D} {r : V -> List V -> Hp -> VK -> Prop} (slot : Slot "str" name id) (hty : typeOf (.builtin id) = pure (.type "method_descriptor")) (hm : MtR X id r) (hf : MtD X.K f r) (ho : SE X W o mo) (ha : SA X W (e :: es) as)
    (hbase : attributeBase o name X.env (eval o X.env) = eval o X.env := by rfl)
    (hfew : ((backTo cpos (starEach (e :: es) X.env)).all (fun x => !x.1) && (backToKw cpos (keywordEach [] X.env)).all (fun x => x.1.isSome)
      && decide ((e :: es).length + ([] : List Keyword).length + (if ([] : List Keyword).isEmpty then 0 else 1) < 30)) = true := by rfl)
    (hline : (apos.endLine == cpos.line) = true := by rfl) (hs : starEach (e :: es) X.env = (false, eval e X.env) :: starEach es X.env := by rfl) (hplain : (backTo cpos (starEach es X.env)).any (·.1) = false := by rfl) :
    SE X W (.Call (.Attribute o name apos) (e :: es) [] cpos) (M.eMt f mo as) := PE.imp (pe_bm PySem.F.plainAttrs_str slot hty hm ho ha hbase hfew hline hs hplain) fun _ _ _ h => rn' hf h
end
end S
namespace S
open PySem PySem.Spec PyProof.Rows L2
variable [Wd] [Hot]
section
variable {K : PySem.W.Frag} {F F' H H' : Hp} {T T' : List Addr} {fp fq fr : Fp} {ρ : M.PSt} {σ : St} {W : WX} {Q : VK}
theorem RpW.get {l : List Addr} {w : M.W} {n : Nat} {ob : M.Ob} (r : RpW K F T l w fp) (h : w[n]? = some ob) : ∃ a f1 f2 f3, l[n]? = some a /\ fp = f1 ++ (f2 ++ f3) /\ RpOb K F T a ob f2 ∧
    ∀ F' T' ob' f2', Ext F T F' T' -> RpOb K F' T' a ob' f2' -> RpW K F' T' l (w.set n ob') (f1 ++ (f2' ++ f3)) := by
  induction r generalizing n with
  | nil => cases h
  | @cons a l ob0 w fa fb r0 r ih =>
    cases n with
    | zero =>
      cases h
      exact ⟨a, [], fa, fb, rfl, rfl, r0, fun F' T' ob' f2' e r' => (RpW.cons r' (r.mono e) : RpW K F' T' _ _ (f2' ++ fb))⟩
    | succ n =>
      obtain ⟨a', f1, f2, f3, h1, rfl, h3, h4⟩ := ih (n := n) h
      refine ⟨a', fa ++ f1, f2, f3, h1, by simp, h3, fun F' T' ob' f2' e r' => ?_⟩
      rw [List.append_assoc]
      exact .cons (r0.mono e) (h4 F' T' ob' f2' e r')
theorem RpW.len {l : List Addr} {w : M.W} (r : RpW K F T l w fp) : l.length = w.length := by
  induction r with
  | nil => rfl
  | cons _ _ ih => exact congrArg (· + 1) ih
theorem RpA.get : ∀ {vs : List V} {os : List M.O} {fp : Fp} {i : Nat} {d : M.D}, RpA K F T vs os fp -> os[i]? = some (.fz d) -> ∃ v, vs[i]? = some v /\ Fz K F T v d
  | _, _, _, _, _, .nil, e => by cases e
  | _, _, _, 0, _, .cons h _, e => by
    have e := Option.some.inj e
    subst e
    cases h with
    | fz z => exact ⟨_, rfl, z⟩
  | _, _, _, i + 1, _, .cons _ r, e => RpA.get (i := i) r e
theorem RpA.ati {vs : List V} {os : List M.O} {i : Int} {d : M.D} (h : RpA K F T vs os fp) (e : M.ati os i = some (.fz d)) : ∃ v, atI vs i = some v /\ Fz K F T v d := by
  unfold M.ati at e
  unfold atI
  rw [h.length]
  cases q : M.ixn os.length i with
  | none => rw [q] at e; cases e
  | some j =>
    rw [q] at e
    obtain ⟨v, h1, h2⟩ := h.get (i := j) e
    have q' : ixN os.length i = some j := q
    rw [q']
    exact ⟨v, h1, h2⟩
theorem Rel.wlist (rel : Rel K ρ σ H F T fr) {n : Nat} {os : List M.O} (h : ρ.w[n]? = some (.lst os)) : ∃ a vs f2, T[n]? = some a /\ H a = some (.lst vs) /\ RpA K F T vs os f2 ∧
    ∀ vs' os' f2' fr', RpA K F T vs' os' f2' -> Part (f2' ++ fr') (f2 ++ fr) -> Rel K ⟨ρ.env, ρ.w.set n (.lst os')⟩ σ (upd H a (.lst vs')) F T fr' := by
  obtain ⟨fe, fw, re, rw, f⟩ := rel
  obtain ⟨a, f1, f2, f3, h1, rfl, h3, h4⟩ := rw.get h
  cases h3 with
  | lst r =>
    rename_i vs fp0
    refine ⟨a, vs, fp0, h1, (f.at_ (a, .lst vs) (by simp)).1, r, fun vs' os' f2' fr' r' pt => ?_⟩
    have e5 := h4 F T (.lst os') ((a, .lst vs') :: f2') .refl (.lst r')
    refine ⟨fe, _, re, e5, ?_⟩
    have fA : FpH F H ((fe ++ f1) ++ ((a, .lst vs) :: (f3 ++ (fp0 ++ fr)))) := f.part (by
      constructor
      . intro e h
        simp only [List.mem_append, List.mem_cons] at *
        grind
      . intro x
        simp only [keys, List.map_append, List.map_cons, List.count_append, List.count_cons] at *
        omega)
    have fB := fA.write (o' := .lst vs')
    refine fB.part ?_
    have pm := pt.m
    constructor
    . intro e h
      have := pm e
      simp only [List.mem_append, List.mem_cons] at *
      grind
    . intro x
      have := pt.c x
      simp only [keys, List.map_append, List.map_cons, List.count_append, List.count_cons] at *
      omega
theorem RpA.set {v : V} {d : M.D} (zd : Fz K F T v d) : ∀ {os : List M.O} {vs : List V} {f2 : Fp} (j : Nat), RpA K F T vs os f2 -> ∃ f2', RpA K F T (vs.set j v) (os.set j (.fz d)) f2' /\ Part f2' f2
  | [], _, _, _, .nil => ⟨[], .nil, .refl⟩
  | o :: os, _, _, 0, .cons r0 r => ⟨_, RpA.cons (fp := []) (.fz zd) r, .right .refl⟩
  | o :: os, _, _, j + 1, .cons r0 r => by
    obtain ⟨f2', q1, q2⟩ := RpA.set zd j r
    exact ⟨_, .cons r0 q1, .app .refl q2⟩
theorem RpA.set' {v : V} {d : M.D} {vs : List V} {os : List M.O} {fp : Fp} (h : RpA K F T vs os fp) (j : Nat) (zd : Fz K F T v d) : ∃ f2', RpA K F T (vs.set j v) (os.set j (.fz d)) f2' /\ Part f2' fp := RpA.set zd j h
theorem oj' {w w' : M.W} {x k d : M.D} (h : M.ol' w x k d = some w') : ∃ n z os j, x = .obj n /\ k = .int z /\ w[n]? = some (.lst os) /\ M.ixn os.length z = some j /\ w' = w.set n (.lst (os.set j (.fz d))) := by
  unfold M.ol' at h
  split at h
  . rename_i n z
    split at h
    . rename_i os e
      cases q : M.ixn os.length z with
      | none => rw [q] at h; cases h
      | some j =>
        rw [q] at h
        cases h
        exact ⟨n, z, os, j, rfl, rfl, e, q, rfl⟩
    . cases h
  . cases h
theorem o4' {ma mb : M.ME} (h : qE K W (M.fG' ma mb) σ H Q) : tOp (rIx K) (qE K W ma) (qE K W mb) σ H Q := by
  obtain ⟨ρ, F, T, fr, rel, h⟩ := h
  refine av' rel h fun dx ρ1 v H1 F1 T1 e1 z1 r1 h1 => ?_
  refine av' r1 h1 fun dy ρ2 u H2 F2 T2 e2 z2 r2 h2 => ?_
  obtain ⟨dz, ez, q⟩ := aR'.ofO h2
  by_cases ho : ∃ n, dx = .obj n
  . obtain ⟨n, rfl⟩ := ho
    cases e : ρ2.w[n]? with
    | none => simp only [M.ixW, e] at ez; cases ez
    | some ob =>
      cases ob with
      | lst os =>
        simp only [M.ixW, e] at ez
        obtain ⟨a, vs, f2, h3, h4, h5, _⟩ := r2.wlist e
        cases z1.mono e2 with
        | obj t =>
          rw [h3] at t
          cases t
          cases dy <;> try (cases ez; done)
          rename_i i
          cases z2
          unfold M.ixO at ez
          cases e6 : M.ati os i with
          | none => simp only [e6] at ez; cases ez
          | some o =>
            cases o <;> simp only [e6] at ez <;> try (cases ez; done)
            cases ez
            obtain ⟨v', h7, h8⟩ := h5.ati e6
            exact .inl ⟨_, vs, i, v', rfl, rfl, SqL.of h4, h7, q v' H2 F2 T2 (e1.trans e2) h8 r2⟩
      | dct ks vs => simp only [M.ixW, e] at ez; cases ez
      | dcx ks vs => simp only [M.ixW, e] at ez; cases ez
      | ins C fs => simp only [M.ixW, e] at ez; cases ez
  . have ez' : M.pIx dx dy = some dz := by
      cases dx <;> first | exact ez | exact absurd ⟨_, rfl⟩ ho
    obtain ⟨fp, f2, back⟩ := r2.fp
    exact fu' f2 (z1.mono e2) z2 ez' fun v' H3 F3 s zz f3 => q v' H3 F3 T2 (e1.trans (e2.trans (.of s))) zz (back H3 F3 s f3)
end
section
variable {X : Cx} {W : WX} {pos tpos : Pos} {a b o i : Expr} {ma mb mo mi : M.ME} {as : M.MA} {es : List Expr} {σ : St} {H : Hp} {Q : VK}
theorem bP' (ha : SE X W a ma) (hb : SE X W b mb) (hs : PlainIx b) : SE X W (.Subscript a b pos) (M.fG' ma mb) := PE.imp (pe_ix ix_seq ha hb hs) fun _ _ _ h => o4' h
theorem bR' (ha : SE X W a ma) (ho : SE X W o mo) (hi : SE X W i mi)
    (hst : ∀ v, assign (.Subscript o i tpos) X.env v = (do
      let ov ← holding [v] (eval o X.env)
      let iv ← holding [v, ov] (eval i X.env)
      standAt tpos
      holding [v, ov, iv] (setItem ov iv v)
      release [v, ov, iv] []) := by intro _; rfl)
    (hs : swapsWithSole [.Subscript o i tpos] a pos.line X.env = pure false := by rfl) (hw : swappedStores [.Subscript o i tpos] a X.env = pure none := by rfl)
    (h1 : (assignEach [.Subscript o i tpos] X.env).map (·.2) = [assign (.Subscript o i tpos) X.env] := by rfl) : SS X W (.Assign [.Subscript o i tpos] a pos) (M.c7' mo mi ma) :=
  PS.imp (ps_asg ha (pg_sub ho hi set_list hst) hs hw h1) fun D σ H ⟨ρ, F, T, fr, rel, h⟩ => by
    refine ct' rel h fun d ρ1 v H1 F1 T1 e1 z1 r1 h1 => ?_
    refine ct' r1 h1 fun dx ρ2 u H2 F2 T2 e2 z2 r2 h2 => ?_
    refine ct' r2 h2 fun dk ρ3 t H3 F3 T3 e3 z3 r3 h3 => ?_
    cases es : M.ol' ρ3.w dx dk d with
    | none => rw [es] at h3; exact h3.elim
    | some w' =>
      rw [es] at h3
      obtain ⟨n, z, os, j, rfl, rfl, e, ej, rfl⟩ := oj' es
      cases z3
      obtain ⟨p, vs, f2, h4, h5, h6, back⟩ := r3.wlist e
      cases z2.mono e3 with
      | obj t =>
        rw [h4] at t
        cases t
        have ej' : ixN vs.length z = some j := by rw [h6.length]; exact ej
        obtain ⟨f2', q1, q2⟩ := h6.set' j ((z1.mono e2).mono e3)
        exact ⟨p, vs, z, j, rfl, rfl, h5, ej', h3 σ _ F3 T3 .refl (back _ _ f2' fr q1 (.app q2 .refl))⟩
theorem td' (h : SA X W es as) : SO X W (.List es pos) (M.tR' as) := PE.imp (pe_lst h) fun σ H Q ⟨ρ, F, T, fr, rel, h⟩ => by
  refine bU' rel h fun ds ρ1 vs H1 F1 T1 e1 z1 r1 h1 => ?_
  split at h1
  . rename_i hl
    refine ⟨by rw [z1.length, bx']; exact hl, fun p hp => ?_⟩
    obtain ⟨fe, fw, re, rw, f⟩ := r1
    have eT : Ext F1 T1 F1 (T1 ++ [p]) := ⟨fun _ _ h => .inl h, ⟨[p], rfl⟩⟩
    have hn : (T1 ++ [p])[ρ1.w.length]? = some p := by rw [<- rw.len, List.getElem?_append_right (Nat.le_refl _), Nat.sub_self]; rfl
    have app : ∀ {l : List Addr} {w : M.W} {fw : Fp}, RpW X.K F1 T1 l w fw -> ∃ fw', RpW X.K F1 (T1 ++ [p]) (l ++ [p]) (w ++ [.lst (ds.map .fz)]) fw' /\ Part fw' ((p, .lst vs) :: fw) := by
      intro l w fw r
      induction r with
      | nil => exact ⟨_, RpW.cons (RpOb.lst (RpA.of_fz (z1.mono eT))) .nil, by simp only [List.append_nil]; exact .refl⟩
      | @cons a l ob w fa fb r0 r ih =>
        obtain ⟨fw', q1, q2⟩ := ih
        refine ⟨fa ++ fw', .cons (r0.mono eT) q1, ?_⟩
        have p1 : Part (fa ++ fw') (fa ++ ((p, .lst vs) :: fb)) := .app .refl q2
        refine p1.trans ?_
        constructor
        . intro e h
          simp only [List.mem_append, List.mem_cons] at *
          grind
        . intro x
          simp only [keys, List.map_append, List.map_cons, List.count_append, List.count_cons] at *
          omega
    obtain ⟨fw', q1, q2⟩ := app rw
    refine h1 (.ref p) (upd H1 p (.lst vs)) F1 (T1 ++ [p]) [] (e1.trans eT) (.fz (.obj hn)) ⟨fe, fw', re.mono eT, q1, ?_⟩
    refine (f.own hp).part ?_
    have p1 : Part (fe ++ (fw' ++ ([] ++ fr))) (fe ++ (((p, .lst vs) :: fw) ++ fr)) := .app .refl (.app q2 .nilL)
    refine p1.trans ?_
    constructor
    . intro e h
      simp only [List.mem_append, List.mem_cons] at *
      grind
    . intro x
      simp only [keys, List.map_append, List.map_cons, List.count_append, List.count_cons] at *
      omega
  . exact h1.elim
theorem tl' {n : Nat} (hv : PE X a (tVar n)) (hb : SE X W b mb) (hs : PlainIx b) : SE X W (.Subscript a b pos) (M.uq' n mb) := PE.imp (pe_ix ix_seq hv hb hs) fun σ H Q ⟨ρ, F, T, fr, rel, h⟩ => by
  unfold M.uq' at h
  split at h
  . rename_i o0 e0
    obtain ⟨fe, fw, re, rw, f⟩ := id rel
    obtain ⟨v, h1⟩ := re.val e0
    refine ⟨v, h1, av' rel h fun dk ρ1 u H1 F1 T1 e1 z1 r1 h2 => ?_⟩
    split at h2
    . rename_i o e2
      obtain ⟨dz, ez, q⟩ := aR'.ofO h2
      obtain ⟨fe', fw', re', rw', f'⟩ := id r1
      obtain ⟨v', f1', f2', f3', h1', rfl, h3', _⟩ := re'.get e2 (M.ff' (fun z => by rw [z] at ez; exact nomatch (show (none : Option M.D) = some dz from ez)) fun z => by rw [z] at ez; exact nomatch (show (none : Option M.D) = some dz from ez))
      rw [h1] at h1'
      cases h1'
      cases h3' with
      | fz z =>
        obtain ⟨fx, f4, back⟩ := r1.fp
        exact fu' f4 z z1 ez fun v' H3 F3 s zz f3 => q v' H3 F3 T1 (e1.trans (.of s)) zz (back H3 F3 s f3)
      | @lst p vs os fp0 r =>
        cases dk <;> try (cases ez; done)
        rename_i i
        cases z1
        unfold M.ixO at ez
        cases e6 : M.ati os i with
        | none => simp only [e6] at ez; cases ez
        | some o =>
          cases o <;> simp only [e6] at ez <;> try (cases ez; done)
          cases ez
          obtain ⟨v', h7, h8⟩ := r.ati e6
          exact .inl ⟨p, vs, i, v', rfl, rfl, SqL.of (f'.at_ (p, .lst vs) (by simp)).1, h7, q v' H1 F1 T1 e1 h8 r1⟩
      | @tup p vs os fp0 r =>
        cases dk <;> try (cases ez; done)
        rename_i i
        cases z1
        unfold M.ixO at ez
        cases e6 : M.ati os i with
        | none => simp only [e6] at ez; cases ez
        | some o =>
          cases o <;> simp only [e6] at ez <;> try (cases ez; done)
          cases ez
          obtain ⟨v', h7, h8⟩ := r.ati e6
          exact .inr (.inl ⟨p, vs, i, v', rfl, rfl, SqT.of (f'.at_ (p, .tup vs) (by simp)).1, h7, q v' H1 F1 T1 e1 h8 r1⟩)
      | dct _ r => cases dk <;> cases ez
      | dcl _ r => cases dk <;> cases ez
      | dcn _ _ r => cases dk <;> cases ez
    . exact h2.elim
  . exact h.elim
theorem ng' {K : PySem.W.Frag} {n : Nat} (h : qE K W (M.g0' n) σ H Q) : tCB (oG' K) (tCons (tVar n) tNil) σ H Q := by
  obtain ⟨ρ, F, T, fr, rel, h⟩ := h
  unfold M.g0' at h
  split at h
  . rename_i o e
    obtain ⟨dz, ez, q⟩ := aR'.ofO h
    obtain ⟨fe, fw, re, rw, f⟩ := id rel
    obtain ⟨v, f1, f2, f3, h1, rfl, h3, _⟩ := re.get e (M.ff' (fun z => by rw [z] at ez; exact nomatch (show (none : Option M.D) = some dz from ez)) fun z => by rw [z] at ez; exact nomatch (show (none : Option M.D) = some dz from ez))
    refine ⟨v, h1, ?_⟩
    cases h3 with
    | fz z =>
      exact dt' f z ez fun v' H3 F3 s zz f3 => q v' H3 F3 T (.of s) zz ⟨_, fw, re.mono (.of s), rw.mono (.of s), f3⟩
    | @lst p vs os fp0 r =>
      cases ez
      refine .inl (.inr (.inl ⟨p, vs, rfl, .inl (SqL.of (f.at_ (p, .lst vs) (by simp)).1), ?_⟩))
      rw [r.length]
      exact q _ H F T .refl (.int _) rel
    | @tup p vs os fp0 r =>
      cases ez
      refine .inl (.inr (.inl ⟨p, vs, rfl, .inr (SqT.of (f.at_ (p, .tup vs) (by simp)).1), ?_⟩))
      rw [r.length]
      exact q _ H F T .refl (.int _) rel
    | @dct p kvs os fp0 _ r =>
      cases ez
      refine .inl (.inr (.inr ⟨p, kvs, rfl, .inl (f.at_ (p, .dK kvs) (by simp)).1, q _ H F T .refl ?_ rel⟩))
      rw [List.length_map]
      exact .int _
    | @dcl p kvs ks os fp0 ke r =>
      cases ez
      have e2 : kvs.length = ks.length := by have := congrArg List.length ke.e; simpa using this
      refine .inr (.inl ⟨p, kvs, rfl, .inl (f.at_ (p, dcL p kvs) (by simp)).1, q _ H F T .refl ?_ rel⟩)
      rw [e2]
      exact .int _
    | @dcn p xs ks os fp0 ke z r =>
      cases ez
      have e2 : xs.length = ks.length := by have := congrArg List.length ke.e; simpa using this
      refine .inr (.inr ⟨p, xs, rfl, .inl (f.at_ (p, dcN p xs) (by simp)).1, q _ H F T .refl ?_ rel⟩)
      rw [e2]
      exact .int _
  . exact h.elim
theorem mt' {n : Nat} {x : Str} {p : Pos} (hwd : X.prog = Wd.P /\ X.w = Wd.w) (hg : Gl X x) (hm : X.mg x = none) (hv : bootBuiltins x = some (.builtin "len")) (ha : PE X a (tVar n)) (hn : x ≠ "__name__" := by decide) (hdb : (x == ("__debug__" : Str)) = false := by decide)
    (he : starEach [a] X.env = (false, eval a X.env) :: starEach [] X.env := by rfl) (hpl : (backTo pos (starEach [] X.env)).any (·.1) = false := by rfl) : SE X W (.Call (.Name x p) [a] [] pos) (M.g0' n) := PE.imp (pe_callB (aT' hwd) hg hm hv (pa_cons ha pa_nil he) hn hdb he hpl) fun _ _ _ => ng'
theorem qR' {n : Nat} (ha : SE X W a ma) (ho : PE X o (tVar n)) (hi : SE X W i mi)
    (hst : ∀ v, assign (.Subscript o i tpos) X.env v = (do
      let ov ← holding [v] (eval o X.env)
      let iv ← holding [v, ov] (eval i X.env)
      standAt tpos
      holding [v, ov, iv] (setItem ov iv v)
      release [v, ov, iv] []) := by intro _; rfl)
    (hs : swapsWithSole [.Subscript o i tpos] a pos.line X.env = pure false := by rfl) (hw : swappedStores [.Subscript o i tpos] a X.env = pure none := by rfl)
    (h1 : (assignEach [.Subscript o i tpos] X.env).map (·.2) = [assign (.Subscript o i tpos) X.env] := by rfl) : SS X W (.Assign [.Subscript o i tpos] a pos) (M.mx' n mi ma) :=
  PS.imp (ps_asg ha (pg_sub ho hi set_list hst) hs hw h1) fun D σ H ⟨ρ, F, T, fr, rel, h⟩ => by
    refine ct' rel h fun d ρ1 v H1 F1 T1 e1 z1 r1 h1 => ?_
    split at h1
    . rename_i o0 e0
      obtain ⟨fe, fw, re, rw, f⟩ := id r1
      obtain ⟨v0, hv0⟩ := re.val e0
      refine ⟨v0, hv0, ct' r1 h1 fun dk ρ2 u H2 F2 T2 e2 z2 r2 h2 => ?_⟩
      split at h2
      . rename_i os z e3
        split at h2
        . rename_i j ej
          cases z2
          obtain ⟨fe', fw', re', rw', f'⟩ := id r2
          obtain ⟨v1, _, _, _, hv1, _, h3, _⟩ := re'.get e3
          rw [hv0] at hv1
          cases hv1
          cases h3 with
          | @lst p vs0 _ fp0 r0 =>
            obtain ⟨vs, f2', hH2, q2, back⟩ := r2.slotW e3 hv0
            obtain ⟨f3', q3, q4⟩ := q2.set' j (z1.mono e2)
            have ej' : ixN vs.length z = some j := by rw [q2.length]; exact ej
            exact ⟨p, vs, z, j, rfl, rfl, hH2, ej', h2 σ _ F2 T2 .refl (back _ _ f3' fr q3 (.app q4 .refl))⟩
        . exact h2.elim
      . exact h2.elim
    . exact h1.elim
end
end S
namespace S
open PySem PySem.Spec PyProof.Rows L2
variable [Wd] [Hot]
local macro_rules | `(tactic| walk_at "parts") => `(tactic| (constructor; (intro e h; simp only [List.mem_append, List.mem_cons, List.not_mem_nil] at *; grind); (intro x; simp only [keys, List.map_append, List.map_cons, List.map_nil, List.count_append, List.count_cons, List.count_nil] at *; omega)))
theorem dx' {a b : String} (h : Str.ofString a = Str.ofString b) : a = b := by
  rw [Str.ofString_eq_toList, Str.ofString_eq_toList] at h
  have h2 : a.toList.map Char.toNat = b.toList.map Char.toNat := by
    have := congrArg (fun z : Str => z.cps.toList) h
    simpa using this
  have h3 : a.toList = b.toList := by
    have inj : ∀ (x y : List Char), x.map Char.toNat = y.map Char.toNat -> x = y := by
      intro x
      induction x with
      | nil => intro y h; cases y with
        | nil => rfl
        | cons _ _ => cases h
      | cons c x ih => intro y h; cases y with
        | nil => cases h
        | cons d y =>
          rw [List.map_cons, List.map_cons] at h
          injection h with h1 h2
          rw [ih y h2, show c = d from Char.toNat_inj.mp h1]
    exact inj _ _ h2
  exact String.toList_inj.mp h3
section
variable {K : PySem.W.Frag} {F F' H H' : Hp} {T T' : List Addr} {fp fq fr : Fp} {ρ : M.PSt} {σ : St} {W : WX} {Q : VK}
abbrev nV' (q : String × V) : Str × V := (Str.ofString q.1, q.2)
theorem nc' (f : String) : ∀ fv : List (String × V), (fv.map nV').lookup (Str.ofString f) = fv.lookup f
  | [] => rfl
  | (g, v) :: r => by
    rw [List.map_cons]
    by_cases h : f = g
    . subst h
      show List.lookup _ ((Str.ofString f, v) :: _) = _
      rw [List.lookup_cons_self, List.lookup_cons_self]
    . have h1 : (f == g) = false := by simpa using h
      have h2 : (Str.ofString f == Str.ofString g) = false := by
        rw [beq_eq_false_iff_ne]
        exact fun e => h (dx' e)
      show List.lookup _ ((Str.ofString g, v) :: _) = _
      simp only [List.lookup, h1, h2]
      exact nc' f r
theorem RpA.lookup {f : String} {o : M.O} : ∀ {fv : List (String × V)} {os : List M.O} {fp : Fp}, RpA K F T (fv.map (·.2)) os fp -> ((fv.map (·.1)).zip os).lookup f = some o →
    ∃ v f1 f2 f3, fv.lookup f = some v /\ fp = f1 ++ (f2 ++ f3) /\ Rp K F T v o f2
  | [], _, _, r, h => by cases r; cases h
  | (g, v) :: fv, _, _, r, h => by
    cases r with
    | @cons _ _ o1 os fp fq r0 r =>
      rw [List.map_cons, List.zip_cons_cons] at h
      by_cases e : f = g
      . subst e
        rw [List.lookup_cons_self] at h
        cases h
        exact ⟨v, [], fp, fq, List.lookup_cons_self, rfl, r0⟩
      . have h1 : (f == g) = false := by simpa using e
        simp only [List.lookup, h1] at h
        obtain ⟨v', f1, f2, f3, e1, e2, e3⟩ := RpA.lookup r h
        refine ⟨v', fp ++ f1, f2, f3, ?_, by rw [e2, List.append_assoc], e3⟩
        simp only [List.lookup, h1]
        exact e1
theorem nd' {f : String} : ∀ {fv : List (String × V)} {os : List M.O}, fv.length = os.length -> ((fv.map (·.1)).zip os).lookup f = none -> fv.lookup f = none
  | [], _, _, _ => rfl
  | (g, v) :: fv, [], h, _ => by cases h
  | (g, v) :: fv, o :: os, hl, h => by
    rw [List.map_cons, List.zip_cons_cons] at h
    by_cases e : f = g
    . subst e
      rw [List.lookup_cons_self] at h
      cases h
    . have h1 : (f == g) = false := by simpa using e
      simp only [List.lookup, h1] at h ⊢
      exact nd' (Nat.succ.inj hl) h
def putS (f : String) (v : V) : List (String × V) -> List (String × V)
  | [] => [(f, v)]
  | (g, x) :: r => if g = f then (g, v) :: r else (g, x) :: putS f v r
theorem jZ' (f : String) (v : V) : ∀ fv : List (String × V), putF (Str.ofString f) v (fv.map nV') = (putS f v fv).map nV'
  | [] => rfl
  | (g, x) :: r => by
    rw [List.map_cons]
    show (if Str.ofString g = Str.ofString f then _ else _) = _
    unfold putS
    by_cases h : g = f
    . rw [if_pos h, if_pos (by rw [h])]
      rfl
    . rw [if_neg h, if_neg (fun e => h (dx' e)), jZ' f v r]
      rfl
theorem RpA.putS {f : String} {o : M.O} {v : V} (q : Rp K F T v o fq) : ∀ {fv : List (String × V)} {os : List M.O} {fp : Fp}, RpA K F T (fv.map (·.2)) os fp →
    ∃ os' fp', M.nW' f o ((fv.map (·.1)).zip os) = ((S.putS f v fv).map (·.1)).zip os' /\ RpA K F T ((S.putS f v fv).map (·.2)) os' fp' /\ Part fp' (fq ++ fp)
  | [], _, _, r => by
    cases r
    exact ⟨[o], fq ++ [], rfl, .cons q .nil, by walk_at "parts"⟩
  | (g, x) :: fv, _, _, r => by
    cases r with
    | @cons _ _ o1 os fp fp2 r0 r =>
      unfold S.putS
      by_cases h : g = f
      . refine ⟨o :: os, fq ++ fp2, ?_, ?_, by walk_at "parts"⟩
        . rw [if_pos h, List.map_cons, List.zip_cons_cons]
          show (if g = f then _ else _) = _
          rw [if_pos h, List.map_cons, List.zip_cons_cons]
        . rw [if_pos h]
          exact .cons q r
      . obtain ⟨os', fp', h1, h2, h3⟩ := RpA.putS q r
        refine ⟨o1 :: os', fp ++ fp', ?_, ?_, ?_⟩
        . rw [if_neg h, List.map_cons, List.zip_cons_cons]
          show (if g = f then _ else _) = _
          rw [if_neg h, h1, List.map_cons, List.zip_cons_cons]
        . rw [if_neg h]
          exact .cons r0 h2
        . have h4 : Part (fp ++ fp') (fp ++ (fq ++ fp2)) := .app .refl h3
          refine h4.trans ?_
          walk_at "parts"
theorem Rel.wins (rel : Rel K ρ σ H F T fr) {n : Nat} {C : String} {fs : List (String × M.O)} (h : ρ.w[n]? = some (.ins C fs)) :
    ∃ (a dx : Addr) (fv : List (String × V)) (os : List M.O) (f2 : Fp), T[n]? = some a /\ fs = (fv.map (·.1)).zip os /\ H a = some (.ins (He.ga K C) dx (fv.map nV')) /\ RpA K F T (fv.map (·.2)) os f2 ∧
    (∃ f0, FpH F H ((a, .ins (He.ga K C) dx (fv.map nV')) :: (f2 ++ f0))) ∧
    ∀ (fv' : List (String × V)) (os' : List M.O) (f2' fr' : Fp), RpA K F T (fv'.map (·.2)) os' f2' -> Part (f2' ++ fr') (f2 ++ fr) -> Rel K ⟨ρ.env, ρ.w.set n (.ins C ((fv'.map (·.1)).zip os'))⟩ σ (upd H a (.ins (He.ga K C) dx (fv'.map nV'))) F T fr' := by
  obtain ⟨fe, fw, re, rw, f⟩ := rel
  obtain ⟨a, f1, f2, f3, h1, rfl, h3, h4⟩ := rw.get h
  generalize eo : M.Ob.ins C fs = ob at h3
  cases h3 with
  | lst r => cases eo
  | dct _ r => cases eo
  | dcl _ r => cases eo
  | dcn _ _ r => cases eo
  | @ins dx C' fv os fp0 hd r =>
    cases eo
    have fA : FpH F H ((fe ++ f1) ++ ((a, .ins (He.ga K C) dx (fv.map nV')) :: (f3 ++ (fp0 ++ fr)))) := f.part (by walk_at "parts")
    refine ⟨a, dx, fv, os, fp0, h1, rfl, (f.at_ (a, .ins (He.ga K C) dx (fv.map nV')) (by simp)).1, r, ⟨fe ++ (f1 ++ (f3 ++ fr)), fA.part (by walk_at "parts")⟩, fun fv' os' f2' fr' r' pt => ?_⟩
    have e5 := h4 F T (.ins C ((fv'.map (·.1)).zip os')) ((a, .ins (He.ga K C) dx (fv'.map nV')) :: f2') .refl (.ins hd r')
    refine ⟨fe, _, re, e5, ?_⟩
    have fB := fA.write (o' := .ins (He.ga K C) dx (fv'.map nV'))
    refine fB.part ?_
    have pm := pt.m
    constructor
    . intro e h
      have := pm e
      simp only [List.mem_append, List.mem_cons] at *
      grind
    . intro x
      have := pt.c x
      simp only [keys, List.map_append, List.map_cons, List.count_append, List.count_cons] at *
      omega
theorem pb' {cs : List String} {f : String} {w : M.W} {x d : M.D} (h : M.if' cs f w x = some d) : ∃ n C fs, x = .obj n /\ w[n]? = some (.ins C fs) /\ C ∈ cs /\ fs.lookup f = some (.fz d) := by
  unfold M.if' at h
  split at h
  . rename_i n
    split at h
    . rename_i C fs e
      split at h
      . rename_i hC
        split at h
        . rename_i d' e2
          cases h
          exact ⟨n, C, fs, rfl, e, hC, e2⟩
        . cases h
      . cases h
    . cases h
  . cases h
theorem pa' {cs : List String} {f : String} {ma : M.ME} (hC : ∀ C ∈ cs, Cls K (He.ga K C) /\ NoAttr K (He.ga K C) (Str.ofString f)) (h : qE K W (M.pc' cs ma f) σ H Q) : tFld K (qE K W ma) (Str.ofString f) σ H Q := by
  obtain ⟨ρ, F, T, fr, rel, h⟩ := h
  refine av' rel h fun dx ρ1 v H1 F1 T1 e1 z1 r1 h1 => ?_
  obtain ⟨d, ed, q⟩ := aR'.ofO h1
  obtain ⟨n, C, fs, rfl, ew, hm, el⟩ := pb' ed
  obtain ⟨a, dx, fv, os, f2, hT, rfl, hH, r, _, _⟩ := r1.wins ew
  obtain ⟨v', _, _, _, e2, _, e3⟩ := r.lookup el
  cases z1 with
  | obj t =>
    rw [hT] at t
    cases t
    cases e3 with
    | fz z => exact ⟨a, _, dx, _, v', rfl, hH, (hC C hm).1, (hC C hm).2, by rw [nc']; exact e2, q v' H1 F1 T1 e1 z r1⟩
theorem mD' {K : PySem.W.Frag} {w : M.W} {fr' : Fp} (r : n0' K w H F T fr) (p : Part fr' fr) : n0' K w H F T fr' := by
  obtain ⟨fe, fw, re, rw, f⟩ := r
  exact ⟨fe, fw, re, rw, f.part (.app .refl (.app .refl p))⟩
theorem bn'.frame {D : Ends} {r : M.Out} (h : bn' K W D F T fr r) (p : Part fr fq) : bn' K W D F T fq r := by
  cases r with
  | nx ρ => exact fun σ' H' F' T' e r => h σ' H' F' T' e (r.part p)
  | bk ρ => exact fun σ' H' F' T' e r => h σ' H' F' T' e (r.part p)
  | ct ρ => exact fun σ' H' F' T' e r => h σ' H' F' T' e (r.part p)
  | rt o w => exact fun v H' F' T' fp e z r => h v H' F' T' fp e z (mD' r (.app .refl p))
  | exc x ρ => exact fun σ' cls dd H' F' T' e z r => h σ' cls dd H' F' T' e z (r.part p)
  | bad => exact h
theorem EX.frame {x : M.Exc} (h : EX K W σ F T fr x ρ) (p : Part fr fq) : EX K W σ F T fq x ρ := fun cls dd H' F' T' e z r => h cls dd H' F' T' e z (r.part p)
theorem oC' {D : Ends} {m : M.ME} {k : M.D -> M.PSt -> M.Out} (rel : Rel K ρ σ H F T (fp ++ fr)) (h : bn' K W D F T fr ((m ρ).out k))
    (q : ∀ d ρ1 v H1 F1 T1, Ext F T F1 T1 -> Fz K F1 T1 v d -> Rel K ρ1 σ H1 F1 T1 (fp ++ fr) -> bn' K W D F1 T1 fr (k d ρ1) -> Q v H1) : qE K W m σ H Q :=
  ⟨ρ, F, T, fp ++ fr, rel, (c9' h).mono (fun d ρ1 h1 v H1 F1 T1 e z r => q d ρ1 v H1 F1 T1 e z r (h1.mono e)) fun _ _ z => z.frame (.right .refl)⟩
theorem qQ' {cs : List String} {f : String} {o : M.O} {w w' : M.W} {x : M.D} (h : M.stF cs f o w x = some w') : ∃ n C fs, x = .obj n /\ w[n]? = some (.ins C fs) /\ C ∈ cs /\ fs.length < 1000 /\ w' = w.set n (.ins C (M.nW' f o fs)) := by
  unfold M.stF at h
  split at h
  . rename_i n
    split at h
    . rename_i C fs e
      split at h
      . rename_i hC
        cases h
        exact ⟨n, C, fs, rfl, e, hC.1, hC.2, rfl⟩
      . cases h
    . cases h
  . cases h
theorem mp' {cs : List String} {f : String} {ma : M.ME} {mo : M.MO} {D : Ends} (hC : ∀ C ∈ cs, Cls K (He.ga K C) /\ NoAttr K (He.ga K C) (Str.ofString f)) (h : qS K W (M.sFld cs ma f mo) D σ H) : sFld K (qE K W ma) (qO K W mo) (Str.ofString f) D σ H := by
  obtain ⟨ρ, F, T, fr, rel, h⟩ := h
  refine dp' rel h fun o ρ1 y H1 F1 T1 fp e1 z1 r1 h1 => ?_
  refine oC' r1 h1 fun d ρ2 x H2 F2 T2 e2 z2 r2 h2 => ?_
  cases es : M.stF cs f o ρ2.w d with
  | none => rw [es] at h2; exact h2.elim
  | some w' =>
    rw [es] at h2
    obtain ⟨n, C, fs, rfl, ew, hm, hl, rfl⟩ := qQ' es
    obtain ⟨a, dx, fv, os, f2, hT, rfl, hH, r, _, back⟩ := r2.wins ew
    cases z2 with
    | obj t =>
      rw [hT] at t
      cases t
      obtain ⟨os', fp', p1, p2, p3⟩ := RpA.putS (z1.mono e2) r (f := f)
      have hlen := r.length
      rw [List.length_map] at hlen
      rw [List.length_zip, List.length_map, hlen, Nat.min_self] at hl
      refine ⟨a, _, dx, _, rfl, hH, (hC C hm).1, (hC C hm).2, by rw [List.length_map, hlen]; exact hl, ?_⟩
      rw [jZ']
      refine h2 σ _ F2 T2 .refl ?_
      show Rel K ⟨ρ2.env, ρ2.w.set n (.ins C (M.nW' f o _))⟩ σ _ F2 T2 fr
      rw [p1]
      refine back _ _ fp' fr p2 ?_
      have h4 : Part (fp' ++ fr) ((fp ++ f2) ++ fr) := .app p3 .refl
      refine h4.trans ?_
      walk_at "parts"
theorem RpW.snoc {a : Addr} {ob : M.Ob} {fb : Fp} (q : RpOb K F T a ob fb) {l : List Addr} {w : M.W} {fw : Fp} (r : RpW K F T l w fw) : ∃ fw', RpW K F T (l ++ [a]) (w ++ [ob]) fw' /\ Part fw' (fb ++ fw) := by
  induction r with
  | nil => exact ⟨_, RpW.cons q .nil, by walk_at "parts"⟩
  | @cons a l ob w fa fb' r0 r ih =>
    obtain ⟨fw', q1, q2⟩ := ih
    refine ⟨fa ++ fw', .cons r0 q1, ?_⟩
    have p1 : Part (fa ++ fw') (fa ++ (fb ++ fb')) := .app .refl q2
    refine p1.trans ?_
    walk_at "parts"
theorem Rel.reenv {env : List (Option M.O)} {fe : Fp} {w' : M.W} {F0 : Hp} {T0 : List Addr} (re : RpE K F0 T0 σ env fe) (e : Ext F0 T0 F T) (r : n0' K (w') H F T (fp ++ (fe ++ fr))) : Rel K ⟨env, w'⟩ σ H F T (fp ++ fr) := by
  obtain ⟨fe', fw', re', rw', f'⟩ := r
  cases re'
  exact ⟨fe, fw', re.mono e, rw', f'.part (by walk_at "parts")⟩
theorem m7' {C : String} {init : M.MF} {as : M.MA} (h : qO K W (M.kD' C init as) σ H Q) : p8' (He.ga K C) (spM K init) (WE W) (qA K W as) σ H Q := by
  obtain ⟨ρ, F, T, fr, rel, h⟩ := h
  refine bU' rel h fun ds ρ1 vs H1 F1 T1 e1 z1 r1 h1 => ?_
  intro x dx hx hdx hne
  obtain ⟨fe, fw, re, rw', f⟩ := r1
  have s1 : Same F1 (upd F1 dx (.own x)) := bQ' (f.free hdx)
  have eT : Ext F1 T1 (upd F1 dx (.own x)) (T1 ++ [x]) := ⟨.of s1, ⟨[x], rfl⟩⟩
  have hn : (T1 ++ [x])[ρ1.w.length]? = some x := by rw [<- rw'.len, List.getElem?_append_right (Nat.le_refl _), Nat.sub_self]; rfl
  have qi : RpOb K (upd F1 dx (.own x)) (T1 ++ [x]) x (.ins C []) [(x, .ins (He.ga K C) dx [])] := RpOb.ins (fs := []) (os := []) (fp := []) upd_same .nil
  obtain ⟨fw', q1, q2⟩ := RpW.snoc qi (rw'.mono eT)
  have f1 : FpH (upd F1 dx (.own x)) (upd (upd H1 dx (.own x)) x (.ins (He.ga K C) dx [])) ((x, .ins (He.ga K C) dx []) :: (fe ++ (fw ++ fr))) := (f.new hdx).own (by rw [upd_ne (Ne.symm hne)]; exact hx)
  refine ⟨.obj ρ1.w.length :: ds, ρ1.w ++ [.ins C []], _, _, fe ++ fr, .cons (.obj hn) (z1.mono eT), ⟨[], fw', tU', q1, f1.part ?_⟩, ?_⟩
  . have p1 : Part ([] ++ (fw' ++ (fe ++ fr))) ([] ++ (([(x, .ins (He.ga K C) dx [])] ++ fw) ++ (fe ++ fr))) := .app .refl (.app q2 .refl)
    refine p1.trans ?_
    walk_at "parts"
  . cases em : init (.obj ρ1.w.length :: ds) (ρ1.w ++ [.ins C []]) with
    | bad => rw [em] at h1; exact h1.elim
    | ok o w' =>
      rw [em] at h1
      intro v H' F' T' fp e z r
      cases z with
      | fz z =>
        rename_i d
        cases d <;> try exact h1.elim
        refine ⟨z.non_inv, h1 (.ref x) H' F' T' [] (e1.trans (eT.trans e)) (.fz (.obj (e.get hn))) ?_⟩
        exact Rel.reenv (re.mono eT) e r
      | lst _ => exact h1.elim
      | tup _ => exact h1.elim
      | dct _ _ => exact h1.elim
      | dcl _ _ => exact h1.elim
      | dcn _ _ _ => exact h1.elim
    | exc x w' =>
      rw [em] at h1
      intro cls dd H' F' T' e z r
      refine h1 cls dd H' F' T' (eT.trans e) z ?_
      exact Rel.reenv (fp := []) (re.mono eT) e r
theorem np' {cs : List String} {m : String} {w : M.W} {x : M.D} (h : M.ia' cs m w x = true) : ∃ C n fs, C ∈ cs /\ x = .obj n /\ w[n]? = some (.ins C fs) /\ fs.lookup m = none := by
  unfold M.ia' at h
  split at h
  . rename_i n
    split at h
    . rename_i C' fs e
      rw [Bool.and_eq_true, decide_eq_true_eq, Option.isNone_iff_eq_none] at h
      exact ⟨C', n, fs, h.1, rfl, e, h.2⟩
    . cases h
  . cases h
theorem m3' {cs : List String} {m : String} {mf : M.MF} {ma : M.ME} {as : M.MA} (h : qO K W (M.kC' cs m mf ma as) σ H Q) : p7' K cs (Str.ofString m) (spM K mf) (WE W) (qE K W ma) (qA K W as) σ H Q := by
  obtain ⟨ρ, F, T, fr, rel, h⟩ := h
  refine av' rel h fun dx ρ1 v H1 F1 T1 e1 z1 r1 h1 => ?_
  split at h1
  . rename_i hi
    obtain ⟨C, n, fs, hC, rfl, ew, el⟩ := np' hi
    obtain ⟨a, dx, fv, os, f2, hT, rfl, hH, r, _, _⟩ := r1.wins ew
    cases id z1 with
    | obj t =>
      rw [hT] at t
      cases t
      have hlen := r.length
      rw [List.length_map] at hlen
      refine ⟨C, hC, a, dx, _, rfl, hH, by rw [nc']; exact nd' hlen el, ?_⟩
      refine bU' r1 h1 fun ds ρ2 vs H2 F2 T2 e2 z2 r2 h2 => ?_
      obtain ⟨fe, fw, re, rw', f⟩ := r2
      refine ⟨.obj n :: ds, ρ2.w, F2, T2, fe ++ fr, .cons (z1.mono e2) z2, ⟨[], fw, tU', rw', f.part (by walk_at "parts")⟩, ?_⟩
      cases em : mf (.obj n :: ds) ρ2.w with
      | bad => rw [em] at h2; exact h2.elim
      | ok o w' =>
        rw [em] at h2
        exact fun v H' F' T' fp e z r => h2 v H' F' T' fp (e1.trans (e2.trans e)) z (Rel.reenv re e r)
      | exc x w' =>
        rw [em] at h2
        exact fun cls dd H' F' T' e z r => h2 cls dd H' F' T' e z (Rel.reenv (fp := []) re e r)
  . exact h1.elim
end
section
variable {X : Cx} {W : WX} {pos apos p pos' : Pos} {e o value : Expr} {es : List Expr} {ma : M.ME} {mo : M.MO} {as : M.MA} {k : Nat} {x : Str} {ps : List Str} {mf : M.MF}
theorem jT' {f : String} (cs : List String) (ha : SE X W e ma) (hC : ∀ C ∈ cs, Cls X.K (He.ga X.K C) /\ NoAttr X.K (He.ga X.K C) (Str.ofString f)) (hb : attributeBase e (Str.ofString f) X.env (eval e X.env) = eval e X.env := by rfl) :
    SE X W (.Attribute e (Str.ofString f) pos) (M.pc' cs ma f) := PE.imp (pe_fld ha hb) fun _ _ _ h => pa' hC h
theorem d8' {f : String} (cs : List String) (ha : SE X W o ma) (hv : SO X W value mo) (hC : ∀ C ∈ cs, Cls X.K (He.ga X.K C) /\ NoAttr X.K (He.ga X.K C) (Str.ofString f)) (hs : swapsWith value (some (.Attribute o (Str.ofString f) pos')) pos.line X.env = pure false := by rfl) :
    SS X W (.Assign [.Attribute o (Str.ofString f) pos'] value pos) (M.sFld cs ma f mo) := PS.imp (ps_fld ha hv hs) fun _ _ _ h => mp' hC h
theorem qW' {C : String} (F : OgM X.prog X.w X.K X.mg X.base k (He.ga X.K C) "__init__" ps (spM X.K mf)) (hr : RoomG (k + 1) X.A) (hg : Gl X x) (Mk' : Mk X.K (He.ga X.K C) (He.ma X.K (He.ga X.K C) "__init__")) (hm : X.mg x = some (.ref (He.ga X.K C))) (tk : Takes X W)
    (ha : SA X W (e :: es) as) (hdb : (x == ("__debug__" : Str)) = false := by decide) (he : starEach (e :: es) X.env = (false, eval e X.env) :: starEach es X.env := by rfl) (hpl : (backTo pos (starEach es X.env)).any (·.1) = false := by rfl) :
    SO X W (.Call (.Name x p) (e :: es) [] pos) (M.kD' C mf as) := PE.imp (oL' F hr hg Mk' hm tk ha hdb he hpl) fun _ _ _ h => m7' h
theorem qV' {C m : String} {cs : List String} {pl : Sem Bool} (he : SE X W o ma) (F : OgM X.prog X.w X.K X.mg X.base k (He.ga X.K C) (Str.ofString m) ps (spM X.K mf)) (hr : RoomG k X.A) (hm : sf' X.K cs (Str.ofString m) (He.ma X.K (He.ga X.K C) (Str.ofString m))) (tk : Takes X W)
    (ha : SA X W (e :: es) as)
    (hst : starEach (e :: es) X.env = (false, eval e X.env) :: starEach es X.env := by rfl) (hpl : (backTo pos (starEach es X.env)).any (·.1) = false := by rfl)
    (ht : eval (.Call (.Attribute o (Str.ofString m) apos) (e :: es) [] pos) X.env = (do
      let ov ← eval o X.env
      standAt apos.atName
      let (f, first) ← holding [ov] (getMethod ov (Str.ofString m) pl)
      callWith pos f first (backTo pos (starEach (e :: es) X.env)) (backToKw pos (keywordEach [] X.env))) := by rfl) :
    SO X W (.Call (.Attribute o (Str.ofString m) apos) (e :: es) [] pos) (M.kC' cs m mf ma as) := PE.imp (oK' he F hr hm tk ha hst hpl ht) fun _ _ _ h => m3' h
end
end S
namespace S
open PySem PySem.Spec PyProof.Rows L2
variable [Wd] [Hot]
local macro_rules | `(tactic| walk_at "parts") => `(tactic| (constructor; (intro e h; simp only [List.mem_append, List.mem_cons, List.not_mem_nil] at *; grind); (intro x; simp only [keys, List.map_append, List.map_cons, List.map_nil, List.count_append, List.count_cons, List.count_nil] at *; omega)))
section
variable {K : PySem.W.Frag} {W : WX} {Q : VK} {σ : St} {H : Hp}
theorem wo' : Op1 K M.vr' (rU fun i => .int (-i)) := by
  intro F H T fp x dx dz Q f hx h k
  cases dx <;> try (cases h; done)
  cases hx; cases h
  exact ⟨_, rfl, k.here f (.int _)⟩
theorem ke' {F : Hp} {T : List Addr} : ∀ {vs : List V} {ds : List M.D} {ns : List Int}, FzA K F T vs ds -> M.bM' ds = some ns -> vs = ns.map V.int
  | _, _, ns, .nil, h => by cases h; rfl
  | _, d :: ds, ns, .cons a r, h => by
    cases d <;> try (cases h; done)
    rename_i b
    cases q : M.bM' ds with
    | none => simp only [M.bM', q] at h; cases h
    | some cs =>
      simp only [M.bM', q, Option.map_some] at h
      cases h
      rw [a.int_inv, ke' r q]
      rfl
theorem FzA.rgI {F : Hp} {T : List Addr} : ∀ ns : List Int, FzA K F T (ns.map V.int) (ns.map M.D.int)
  | [] => .nil
  | n :: r => .cons (.int n) (FzA.rgI r)
def j6' (c : Nat) : Str := ⟨#[c]⟩
def og' (z : Str) : Nat := z.cps.toList.headD 0
theorem j1' {ys : List Str} {l : List Nat} (h : ys.Perm (l.map j6')) : ∃ l' : List Nat, ys = l'.map j6' /\ l'.Perm l := by
  refine ⟨ys.map og', ?_, ?_⟩
  . rw [List.map_map]
    have : ∀ y ∈ ys, (j6' ∘ og') y = y := fun y hy => by
      obtain ⟨c, _, rfl⟩ := List.mem_map.mp (h.subset hy)
      rfl
    exact (List.map_congr_left this).trans (List.map_id ys) |>.symm
  . have := h.map og'
    rw [List.map_map] at this
    have e : l.map (og' ∘ j6') = l := (List.map_congr_left fun c _ => rfl).trans (List.map_id l)
    rw [e] at this
    exact this
theorem kz' : ∀ (l : List Nat) (c : Nat), risingS (j6' c) (l.map j6') = true -> c <= l.headD c /\ sortedS (l.map j6') = true
  | [], c, _ => ⟨Nat.le_refl c, rfl⟩
  | e :: l, c, h => by
    rw [List.map_cons] at h ⊢
    unfold risingS at h
    rw [Bool.and_eq_true] at h
    obtain ⟨h1, h2⟩ := h
    refine ⟨?_, h2⟩
    show c <= e
    simp [ltCps, j6'] at h1
    omega
theorem do' : ∀ l : List Nat, sortedS (l.map j6') = true -> l.Pairwise (· <= ·)
  | [], _ => .nil
  | c :: l, h => by
    obtain ⟨h1, h2⟩ := kz' l c h
    have ih := do' l h2
    refine List.pairwise_cons.mpr ⟨fun d hd => ?_, ih⟩
    cases l with
    | nil => cases hd
    | cons e t =>
      have hce : c <= e := h1
      cases hd with
      | head => exact hce
      | tail _ hd => exact Nat.le_trans hce ((List.pairwise_cons.mp ih).1 d hd)
theorem jS' {l l' : List Nat} (p : l'.Perm l) (s : l'.Pairwise (· <= ·)) : l' = M.bO' l := by
  refine List.Perm.eq_of_pairwise (le := (· <= ·)) (fun a b _ _ h1 h2 => Nat.le_antisymm h1 h2) s ?_ (p.trans (List.mergeSort_perm l _).symm)
  exact (List.pairwise_mergeSort (le := fun a b => decide (a <= b)) (fun a b c h1 h2 => decide_eq_true (Nat.le_trans (of_decide_eq_true h1) (of_decide_eq_true h2))) (fun a b => by
    rw [Bool.or_eq_true, decide_eq_true_eq, decide_eq_true_eq]; omega) l).imp fun h => of_decide_eq_true h
theorem ot' {l l' : List Int} (p : l'.Perm l) (s : l'.Pairwise (· <= ·)) : l' = M.qT' l := by
  refine List.Perm.eq_of_pairwise (le := (· <= ·)) (fun a b _ _ h1 h2 => Int.le_antisymm h1 h2) s ?_ (p.trans (List.mergeSort_perm l _).symm)
  exact (List.pairwise_mergeSort (le := fun a b => decide (a <= b)) (fun a b c h1 h2 => decide_eq_true (Int.le_trans (of_decide_eq_true h1) (of_decide_eq_true h2))) (fun a b => by
    rw [Bool.or_eq_true, decide_eq_true_eq, decide_eq_true_eq]; omega) l).imp fun h => of_decide_eq_true h
def mF' (K : PySem.W.Frag) : List V -> Hp -> VK -> Prop := fun vs H Q => gA' vs H Q \/ rSortedI K vs H Q \/ rSortedS K vs H Q
theorem kS' {X : Cx} (hc : X.calm = true) : CallR X (.builtin "sorted") (mF' X.K) := (ix' hc).or (cr_sortedI.or cr_sortedS)
theorem gu' {s : M.Tx} {c : Nat} : c ∈ M.bO' s ↔ c ∈ s := (List.mergeSort_perm s _).mem_iff
theorem j5' {K : PySem.W.Frag} {F : Hp} {T : List Addr} : ∀ {vs : List V} {ds : List M.D} {cs : List Nat}, FzA K F T vs ds -> M.ei' ds = some cs -> vs = (cs.map j6').map V.str /\ ∀ c ∈ cs, c < 1114112
  | _, [], _, .nil, h => by cases h; exact ⟨rfl, fun _ h => nomatch h⟩
  | _, d :: ds, cs, .cons z r, h => by
    unfold M.ei' at h
    split at h
    . rename_i e
      cases e
    . rename_i c r' e
      cases e
      obtain ⟨cs', h1, rfl⟩ := Option.map_eq_some_iff.mp h
      obtain ⟨e2, h2⟩ := j5' r h1
      obtain ⟨rfl, o⟩ := z.str_inv
      refine ⟨by rw [e2]; rfl, fun c' hc => ?_⟩
      rcases List.mem_cons.mp hc with rfl | hc
      . exact o.1 _ List.mem_cons_self
      . exact h2 _ hc
    . cases h
theorem px' : Bi1 K M.cb' (mF' K) := by
  intro F H T fp x dx dz Q f hx h k
  cases dx <;> try (cases h; done)
  . obtain ⟨rfl, o⟩ := hx.str_inv
    rename_i s
    simp only [M.cb'] at h
    split at h
    . rename_i hl
      cases h
      refine .inl ⟨_, rfl, by rw [bE']; exact hl, fun ys p H' hp hs hn s' e => ?_⟩
      obtain ⟨l', rfl, p'⟩ := j1' hp
      rw [jS' p' (do' l' hs)] at *
      have z : FzA K F T (((M.bO' s).map j6').map V.str) ((M.bO' s).map M.chD) := by
        rw [List.map_map]
        exact FzA.chars fun c hc => o.1 c (gu'.mp hc)
      have hF : F p = none := f.free hn
      have sF : Same F (upd F p (.lst (((M.bO' s).map j6').map V.str))) := bQ' hF
      refine k (.ref p) H' _ sF (.lst upd_same (z.mono (.of sF))) ⟨fun a u ha => ?_, fun q hq => ?_, f.nd, f.tbs (fun a h1 h2 h3 => ?_) fun c q h => hQ' sF h⟩
      . by_cases hap : a = p
        . subst hap
          rw [upd_same] at ha
          cases ha
          exact e
        . rw [upd_ne hap] at ha
          exact s' _ _ (f.low _ _ ha)
      . have np : q.1 ≠ p := ne_of_none (f.at_ q hq).1 hn
        exact ⟨s' _ _ (f.at_ q hq).1, by rw [upd_ne np]; exact (f.at_ q hq).2⟩
      . have hap : a ≠ p := fun z => h2 (by rw [z]; exact hn)
        refine ⟨by rw [upd_ne hap]; exact h1, ?_, h3⟩
        cases hh : H a with
        | none => exact absurd hh h2
        | some o => exact s' _ _ hh
    . cases h
  . obtain ⟨a, vs, rfl, ha, za⟩ := hx.lst_inv
    rename_i ds
    cases q : M.bM' ds with
    | none =>
      simp only [M.cb', q] at h
      obtain ⟨cs, h1, h2⟩ := Option.bind_eq_some_iff.mp h
      split at h2
      . rename_i hl
        cases h2
        obtain ⟨e2, hc⟩ := j5' za h1
        refine .inr (.inr ⟨a, cs.map j6', rfl, by rw [<- e2]; exact SqL.of (f.low _ _ ha), by rw [List.length_map]; exact hl, fun ys p hp hs hn => ?_⟩)
        obtain ⟨l', rfl, p'⟩ := j1' hp
        rw [jS' p' (do' l' hs)]
        have z : FzA K F T (((M.bO' cs).map j6').map V.str) ((M.bO' cs).map M.chD) := by
          rw [List.map_map]
          exact FzA.chars fun c hc' => hc c (gu'.mp hc')
        exact k.newL f z hn
      . cases h2
    | some ns =>
      simp only [M.cb', q] at h
      cases h
      refine .inr (.inl ⟨a, ns, rfl, by rw [<- ke' za q]; exact SqL.of (f.low _ _ ha), fun ns' p hp hs hn => ?_⟩)
      rw [ot' hp hs]
      exact k.newL f (FzA.rgI _) hn
theorem nQ' (a b : M.Tx) (i : Nat) : StrLaws.At (sx a) (sx b) (sx a).length i ↔ M.qo' a b i = true := by
  rw [<- rF', Bool.and_eq_true, decide_eq_true_eq]
  exact Iff.rfl
theorem oF' {p : Nat -> Bool} {n i : Nat} (h : p i = true) (hi : i < n) (hm : ∀ k, k < i -> p k = false) : (List.range n).find? p = some i := by
  rw [List.find?_eq_some_iff_getElem]
  refine ⟨h, i, by simpa using hi, by simp, fun j hj => ?_⟩
  rw [List.getElem_range, hm j hj]
  rfl
theorem kj' (a b : M.Tx) : Txt.find (sx a) (sx b) = M.fnd (M.hB' a b) := by
  rcases find_whole (sx a) (sx b) with ⟨h1, h2⟩ | ⟨i, h1, h2, h3⟩
  . rw [h1]
    have : M.hB' a b = none := by
      unfold M.hB'
      rw [List.find?_eq_none]
      intro i _ h
      exact h2 i ((nQ' a b i).mpr h)
    rw [this]
    rfl
  . rw [h1]
    have hi : M.qo' a b i = true := (nQ' a b i).mp h2
    have hl : i < a.length + 1 := by
      unfold M.qo' at hi
      rw [Bool.and_eq_true, decide_eq_true_eq] at hi
      omega
    have : M.hB' a b = some i := oF' hi hl fun k hk => by
      have := h3 k hk
      rw [nQ'] at this
      exact Bool.eq_false_iff.mpr this
    rw [this]
    rfl
theorem FzA.str1 {F : Hp} {T : List Addr} {xs : List V} {b : M.Tx} (h : FzA K F T xs [.str b]) : xs = [.str (sx b)] /\ okT b := by
  obtain ⟨v, rfl, z⟩ := h.one
  obtain ⟨rfl, o⟩ := z.str_inv
  exact ⟨rfl, o⟩
theorem tX' : MtD K M.na' (fun x xs H Q => ∃ a b, x = .str a /\ xs = [.str b] /\ Q (.int (Txt.find a b)) H) := by
  intro F H T fp s xs ds dz Q f o hx h k
  unfold M.na' at h
  split at h
  . obtain ⟨rfl, o2⟩ := hx.str1
    cases h
    exact ⟨_, _, rfl, rfl, by rw [kj']; exact k.here f (.int _)⟩
  . cases h
theorem kB' {a b : M.Tx} {i : Nat} (h : M.hB' a b = some i) : ∃ rest, Builtin.Str.occurrences (sx a) (sx b) 0 (sx a).length 1 = i :: rest := by
  have h1 := kj' a b
  rw [h] at h1
  unfold Txt.find at h1
  cases e : Builtin.Str.occurrences (sx a) (sx b) 0 (sx a).length 1 with
  | nil => rw [e] at h1; exact absurd h1 (by show ¬ (-1 : Int) = (i : Int); omega)
  | cons j rest =>
    rw [e] at h1
    have h2 : (j : Int) = (i : Int) := h1
    exact ⟨rest, by rw [show j = i by omega]⟩
theorem m8' : MtD K M.e2' mK' := by
  intro F H T fp s xs ds dz Q f o hx h k
  unfold M.e2' at h
  split at h
  . obtain ⟨rfl, o2⟩ := hx.str1
    rename_i b
    cases q : M.hB' s b with
    | none => rw [q] at h; cases h
    | some i =>
      rw [q] at h
      cases h
      obtain ⟨rest, e⟩ := kB' q
      exact ⟨_, _, i, rest, rfl, rfl, e, k.here f (.int _)⟩
  . cases h
end
section
variable {X : Cx} {W : WX} {pos p pos' : Pos} {a b e : Expr} {ma mb : M.ME} {mo : M.MO} {σ : St} {H : Hp} {Q : VK}
theorem cO' {x : Str} (t : String) (ht : t ∈ ["bool", "int", "str", "tuple", "list", "dict"]) (hg : Gl X x) (hm : X.mg x = none) (hv : bootBuiltins x = some (.builtin "isinstance")) (ha : SE X W a ma) (hb : PE X b (tC (.ty t))) (hn : x ≠ "__name__" := by decide) (hdb : (x == ("__debug__" : Str)) = false := by decide)
    (he : starEach [a, b] X.env = (false, eval a X.env) :: starEach [b] X.env := by rfl) (he2 : starEach [b] X.env = (false, eval b X.env) :: starEach [] X.env := by rfl) (hpl : (backTo pos (starEach [b] X.env)).any (·.1) = false := by rfl) : SE X W (.Call (.Name x p) [a, b] [] pos) (M.eUn (M.bt' t) ma) :=
  PE.imp (pe_callB call_isi hg hm hv (pa_cons ha (pa_cons hb pa_nil he2) he) hn hdb he hpl) fun σ H Q ⟨ρ, F, T, fr, rel, h⟩ => by
    refine av' rel h fun dx ρ1 v H1 F1 T1 e1 z1 r1 h1 => ?_
    obtain ⟨dz, ez, q⟩ := aR'.ofO h1
    unfold M.bt' at ez
    cases eq : M.tyn dx with
    | none => rw [eq] at ez; cases ez
    | some n =>
      rw [eq] at ez
      cases ez
      obtain ⟨fp, f, _⟩ := r1.fp
      exact vQ' (s3' f.low z1 eq) (kit_ty (rr' n (qL' eq) t ht)) (q _ H1 F1 T1 e1 (.bl _) r1)
theorem mo' : SO X W (.Dict [] [] pos) M.mW' := PE.imp pe_dnewK fun σ H Q ⟨ρ, F, T, fr, rel, h⟩ => fun p hp => by
  have z : Rp X.K F T (.ref p) (.dct [] []) [(p, .dK [])] := Rp.dct (kvs := []) .nil .nil
  exact h (.ref p) _ F T _ .refl z (rel.own hp)
theorem hJ' {f : M.D -> Option M.D} {r : List V -> Hp -> VK -> Prop} {x : Str} {id : String} (hc : CallR X (.type id) r)
    (hf : ∀ {F H : Hp} {T : List Addr} {v : V} {d : M.D} {ds : List M.D} {Q : VK}, Same F H -> Fz X.K F T v d -> f d = some (.lst ds) -> (∀ l ws, H l = none -> FzA X.K F T ws ds -> Q (.ref l) (upd H l (.lst ws))) -> r [v] H Q)
    (hg : Gl X x) (hm : X.mg x = none) (hv : bootBuiltins x = some (.type id)) (ha : SE X W a ma) (hn : x ≠ "__name__" := by decide) (hdb : (x == ("__debug__" : Str)) = false := by decide)
    (he : starEach [a] X.env = (false, eval a X.env) :: starEach [] X.env := by rfl) (hpl : (backTo pos (starEach [] X.env)).any (·.1) = false := by rfl) : SO X W (.Call (.Name x p) [a] [] pos) (M.hX' (M.eUn f ma)) :=
  PE.imp (pe_callTy hc hg hm hv (pa_cons ha pa_nil he) hn hdb he hpl) fun σ H Q ⟨ρ, F, T, fr, rel, h⟩ => by
    have h0 := aR'.bind h
    refine av' rel h0 fun dx ρ1 v H1 F1 T1 e1 z1 r1 h1 => ?_
    obtain ⟨dz, ez, q⟩ := aR'.ofO h1
    cases dz <;> try exact q.elim
    rename_i ds
    obtain ⟨fp, f1, _⟩ := r1.fp
    refine hf f1.low z1 ez fun l ws hl zw => ?_
    exact q (.ref l) _ F1 T1 _ e1 (.lst (RpA.of_fz zw)) (r1.own hl)
theorem fz' {K : PySem.W.Frag} {F H : Hp} {T : List Addr} {v : V} {d : M.D} {ds : List M.D} {Q : VK} (s : Same F H) (z : Fz K F T v d) (h : M.b0' d = some (.lst ds)) (k : ∀ l ws, H l = none -> FzA K F T ws ds -> Q (.ref l) (upd H l (.lst ws))) : mI' K [v] H Q := by
  cases d <;> try (cases h; done)
  . obtain ⟨rfl, o⟩ := z.str_inv
    cases h
    exact .inr ⟨_, rfl, o.len, fun l hl => k l _ hl (FzA.signs o)⟩
  . obtain ⟨a, vs, rfl, ha, za⟩ := z.tup_inv
    cases h
    exact .inl ⟨a, vs, rfl, .inr (seqT s ha), fun l hl => k l vs hl za⟩
  . obtain ⟨a, vs, rfl, ha, za⟩ := z.lst_inv
    cases h
    exact .inl ⟨a, vs, rfl, .inl (SqL.of (s _ _ ha)), fun l hl => k l vs hl za⟩
theorem FzA.rg {K : PySem.W.Frag} {F : Hp} {T : List Addr} (a b : Int) : FzA K F T (rgV a b) (M.dA' a b) := FzA.of_all fun i => .int _
theorem wa' {a b : Int} (h : M.RgB a b = true) : RgOk a b := by
  unfold M.RgB at h
  simp only [Bool.and_eq_true, decide_eq_true_eq] at h
  exact ⟨h.1.1.1.1, h.1.1.1.2, h.1.1.2, h.1.2, h.2⟩
theorem ky' {q : Pos} (hc : X.calm = true) (hg : Gl X "list") (hm : X.mg "list" = none) (hg2 : Gl X "range") (hm2 : X.mg "range" = none) (ha : SE X W a ma)
    (na2 : starEach [a] X.env = (false, eval a X.env) :: starEach [] X.env := by rfl) (na : starEach [.Call (.Name "range" q) [a] [] pos'] X.env = (false, eval (.Call (.Name "range" q) [a] [] pos') X.env) :: starEach [] X.env := by rfl) :
    SO X W (.Call (.Name "list" p) [.Call (.Name "range" q) [a] [] pos'] [] pos) (M.hX' (M.eUn M.c8' ma)) :=
  PE.imp (pe_listRg hc hg hm (prg_1 hg2 hm2 ha na2) na) fun σ H Q ⟨ρ, F, T, fr, rel, h⟩ => by
    have h0 := aR'.bind h
    refine av' rel h0 fun dx ρ1 v H1 F1 T1 e1 z1 r1 h1 => ?_
    obtain ⟨dz, ez, q⟩ := aR'.ofO h1
    unfold M.c8' at ez
    split at ez
    . split at ez
      . rename_i hr
        cases ez
        refine ⟨_, z1.int_inv, wa' hr, fun l hl => ?_⟩
        exact q (.ref l) _ F1 T1 _ e1 (.lst (RpA.of_fz (FzA.rg _ _))) (r1.own hl)
      . cases ez
    . cases ez
theorem RpA.erase {K : PySem.W.Frag} {F : Hp} {T : List Addr} {y : M.D} : ∀ {os : List M.O} {vs : List V} {f2 : Fp} {j : Nat}, RpA K F T vs os f2 -> os[j]? = some (.fz y) -> ∃ v, vs[j]? = some v /\ Fz K F T v y /\ RpA K F T (vs.eraseIdx j) (os.eraseIdx j) f2
  | [], _, _, _, r, h => by cases h
  | o :: os, _, _, 0, r, h => by
    cases r with
    | cons r0 r =>
      cases h
      cases r0 with
      | fz z => exact ⟨_, rfl, z, r⟩
  | o :: os, _, _, j + 1, r, h => by
    cases r with
    | cons r0 r =>
      obtain ⟨v, h1, h2, h3⟩ := RpA.erase (j := j) r h
      exact ⟨v, h1, h2, .cons r0 h3⟩
theorem oy' {n : Nat} {nm : Str} {px apos : Pos} (hv : PE X (.Name nm px) (tVar n)) (ha : SE X W a ma)
    (hbase : attributeBase (.Name nm px) "pop" X.env (eval (.Name nm px) X.env) = eval (.Name nm px) X.env := by rfl)
    (hfew : ((backTo pos (starEach [a] X.env)).all (fun x => !x.1) && (backToKw pos (keywordEach [] X.env)).all (fun x => x.1.isSome)
      && decide ([a].length + ([] : List Keyword).length + (if ([] : List Keyword).isEmpty then 0 else 1) < 30)) = true := by rfl)
    (hline : (apos.endLine == pos.line) = true := by rfl) (hs : starEach [a] X.env = (false, eval a X.env) :: starEach [] X.env := by rfl) (hplain : (backTo pos (starEach [] X.env)).any (·.1) = false := by rfl) :
    SE X W (.Call (.Attribute (.Name nm px) "pop" apos) [a] [] pos) (M.gZ' n ma) :=
  PE.imp (pe_bm PySem.F.plainAttrs_list PySem.F.slot_list_pop PySem.F.type_list_pop mt_popAt hv (pa_cons ha pa_nil hs) hbase hfew hline hs hplain) fun σ H Q ⟨ρ, F, T, fr, rel, h⟩ => by
    unfold M.gZ' at h
    split at h
    . rename_i os0 e0
      obtain ⟨fe, fw, re, rw, ff⟩ := id rel
      obtain ⟨v, f1, f2, f3, h1, _, h3, _⟩ := re.get e0
      cases h3 with
      | @lst p vs0 _ fp0 r0 =>
        obtain ⟨vs1, f21, hH, _, _⟩ := rel.slotW e0 h1
        refine ⟨.ref p, h1, .inl ⟨rfl, vs1, SqL.of hH⟩, av' rel h fun d ρ1 u H1 F1 T1 e1 z1 r1 h2 => ?_⟩
        split at h2
        . rename_i os z e2
          split at h2
          . rename_i j ej
            split at h2
            . rename_i y ey
              cases z1
              obtain ⟨vs, f2', hH2, r2, back⟩ := r1.slotW e2 h1
              obtain ⟨vy, g1, g2, g3⟩ := RpA.erase r2 ey
              split at ej
              . rename_i hl
                have hlen : vs.length <= M.cM' := by rw [r2.length]; exact hl
                have ej' : ixN vs.length z = some j := by rw [r2.length]; exact ej
                obtain ⟨q1, q2, q3, q4⟩ := ixN_seq ej'
                have hlen' : vs.length <= 16777216 := hlen
                exact ⟨p, vs, z, j, vy, rfl, rfl, hH2, by omega, by omega, q1, g1, h2 vy _ F1 T1 e1 g2 (back _ _ f2' fr g3 .refl)⟩
              . cases ej
            . exact h2.elim
          . exact h2.elim
        . exact h2.elim
    . exact h.elim
end
end S
namespace S
open PySem PySem.Spec PyProof.Rows L2
variable [Wd] [Hot]
section
variable {X : Cx} {W : WX} {K : PySem.W.Frag} {D : Ends} {σ : St} {H : Hp} {F : Hp} {T : List Addr} {fr : Fp}
abbrev Hm := List ((String -> Option Bool) × (M.Exc -> M.MS))
def tsM (K : PySem.W.Frag) (h : M.Exc -> M.MS) : Addr -> Value -> Option Addr -> TS := fun _ cls _ D σ H => ∃ e : M.Exc, cls = .ref (He.ga K e.cls) /\ qS K W0 (h e) D σ H
inductive HdsM (X : Cx) : List ExceptHandler -> Hm -> List (Value × (Addr -> Value -> Option Addr -> TS)) -> Prop
  | nil : HdsM X [] [] []
  | cons {x : Str} {c : Value} {g : String -> Option Bool} {h : M.Exc -> M.MS} {b₀ : Stmt} {suite : List Stmt} {np pos' : Pos} {hds : List ExceptHandler} {l : Hm} {l' : List (Value × (Addr -> Value -> Option Addr -> TS))} (hc : Names X x c)
      (hg : ∀ y b, g y = some b -> PySem.W.exmOne X.K (.ref (He.ga X.K y)) c = some b)
      (hsu : ∀ (e : M.Exc) (a : Addr) (oe : Obj) (d : Option Addr) (pn : List (Addr × Obj)), Zc (.ref (He.ga X.K e.cls)) d oe -> (∃ vs, oe.data = .fields vs) -> SSs (X.suite a ((a, oe) :: pn)) W0 (b₀ :: suite) (h e)) (r : HdsM X hds l l') :
      HdsM X (.ExceptHandler (some (.Name x np)) none (b₀ :: suite) pos' :: hds) ((g, h) :: l) ((c, tsM X.K h) :: l')
theorem jO' {h : M.Exc -> M.MS} {b : List Stmt} (hsu : ∀ (e : M.Exc) (a : Addr) (oe : Obj) (d : Option Addr) (pn : List (Addr × Obj)), Zc (.ref (He.ga X.K e.cls)) d oe -> (∃ vs, oe.data = .fields vs) -> SSs (X.suite a ((a, oe) :: pn)) W0 b (h e)) :
    ∀ (a : Addr) (oe : Obj) (cls : Value) (d : Option Addr) (pn : List (Addr × Obj)), Zc cls d oe -> (∃ vs, oe.data = .fields vs) -> PSs (X.suite a ((a, oe) :: pn)) b (tsM X.K h a cls d) := by
  intro a oe cls d pn hz hf
  refine ⟨fun pins s σ H D I q => ?_⟩
  obtain ⟨e, rfl, q⟩ := q
  exact (hsu e a oe d pn hz hf).run pins s σ H D I q
theorem HdsM.ok {hds : List ExceptHandler} {l : Hm} {l' : List (Value × (Addr -> Value -> Option Addr -> TS))} (h : HdsM X hds l l') : HdsOk X hds l' := by
  induction h with
  | nil => exact .nil
  | cons hc hg hsu r ih => exact .cons hc (jO' hsu) ih
theorem bn'.noX {r : M.Out} (h : bn' K W D F T fr (M.xI' r)) : bn' K W0 D F T fr r := by
  cases r with
  | exc x ρ => exact h.elim
  | nx ρ => exact h
  | bk ρ => exact h
  | ct ρ => exact h
  | rt o w => exact h
  | bad => exact h
theorem Rel.off {K : PySem.W.Frag} {ρ : M.PSt} (r : Rel K ρ σ H F T fr) (i : Nat) (x : Option V) : Rel K ⟨ρ.env.set i none, ρ.w⟩ (σ.set i x) H F T fr := by
  obtain ⟨fe, fw, re, rw, f⟩ := r
  obtain ⟨fq, h1, h2⟩ := re.drop i x
  exact ⟨fq, fw, h1, rw, f.part (.app h2 .refl)⟩
end
end S
namespace S
open PySem PySem.Spec PyProof.Rows L2
variable [Wd] [Hot]
section
variable {X : Cx} {W : WX} {pos p : Pos} {a b e : Expr} {st : Stmt} {es : List Expr} {ma mb : M.ME} {as : M.MA}
theorem qU' {i : Nat} (h : PE X e (tVar i)) : SO X W e (M.oV i) := PE.imp h fun σ H Q ⟨ρ, F, T, fr, rel, h⟩ => by
  unfold M.oV at h
  split at h
  . rename_i d e
    obtain ⟨fe, fw, re, rw, f⟩ := id rel
    obtain ⟨v, f1, f2, f3, h1, rfl, h3, h4, h5⟩ := re.get e
    cases h3 with
    | fz z => exact ⟨v, h1, h v H F T [] .refl (.fz z) rel⟩
  . exact h.elim
  . exact h.elim
  . rename_i o _ hne hnc e
    obtain ⟨fe, fw, re, rw, f⟩ := rel
    obtain ⟨v, f1, f2, f3, h1, rfl, h3, h4, h5⟩ := re.get e (M.ff' (fun z => hne (by rw [z])) fun z => hnc (by rw [z]))
    refine ⟨v, h1, h v H F T f2 .refl h3 ⟨_, fw, h4, rw, f.part ?_⟩⟩
    constructor
    . intro e h
      simp only [List.mem_append] at *
      grind
    . intro x
      simp only [keys, List.map_append, List.count_append] at *
      omega
  . exact h.elim
theorem gv' (h : SA X W es as) : SO X W (.List es pos) (M.hX' (M.nz' as)) := PE.imp (pe_lst h) fun σ H Q ⟨ρ, F, T, fr, rel, h⟩ => by
  have h0 := aR'.bind h
  refine bU' rel h0 fun ds ρ1 vs H1 F1 T1 e1 z1 r1 h1 => ?_
  split at h1
  . rename_i hl
    refine ⟨by rw [z1.length, bx']; exact hl, fun p hp => ?_⟩
    exact h1 (.ref p) _ F1 T1 _ e1 (.lst (RpA.of_fz z1)) (r1.own hp)
  . exact h1.elim
theorem hH' : SS X W st M.vn' := ⟨fun _ _ _ _ _ _ ⟨_, _, _, _, _, h⟩ => h.elim⟩
end
section
variable {K : PySem.W.Frag} {F : Hp} {T : List Addr}
theorem gW' : ∀ (ds : List M.D) (k : Nat), (M.cL' k ds).length = ds.length
  | [], _ => rfl
  | _ :: ds, k => congrArg (· + 1) (gW' ds (k + 1))
theorem gX' : ∀ (ds : List M.D) (k i : Nat) (d : M.D), (M.cL' k ds)[i]? = some d -> ∃ x, ds[i]? = some x /\ d = .tup [.int ((k + i : Nat) : Int), x]
  | [], _, i, d, h => by simp [M.cL'] at h
  | x :: ds, k, 0, d, h => ⟨x, rfl, (Option.some.inj h).symm⟩
  | x :: ds, k, i + 1, d, h => by
    obtain ⟨y, h1, h2⟩ := gX' ds (k + 1) i d h
    exact ⟨y, h1, by rw [h2, show k + 1 + i = k + (i + 1) by omega]⟩
theorem ub' {J : It} {ds : List M.D} (hs : ∀ F' T' H' fp i, Ext F T F' T' -> FpH F' H' fp -> i = ds.length -> J.stop i H')
    (hy : ∀ F' T' H' fp i dx, Ext F T F' T' -> FpH F' H' fp -> ds[i]? = some dx -> J.go i H' /\ ∀ v H2, J.yld i H' v H2 -> ∃ p x, v = .ref p /\ H' p = none /\ H2 = upd H' p (.tup [.int (i : Nat), x]) /\ Fz K F' T' x dx) : hy' K J (M.cL' 0 ds) F T := fun F' T' H' fp i e f hi => by
  rw [gW'] at hi ⊢
  refine ⟨fun q => hs F' T' H' fp i e f q, fun d hd => ?_⟩
  obtain ⟨dx, h1, rfl⟩ := gX' _ _ _ _ hd
  obtain ⟨g, y⟩ := hy F' T' H' fp i dx e f h1
  refine ⟨g, fun v H2 q => ?_⟩
  obtain ⟨p, x, rfl, hp, rfl, zx⟩ := y v H2 q
  have s : Same F' (upd F' p (.tup [.int (i : Nat), x])) := bQ' (f.free hp)
  refine ⟨_, s, .tup (SqT.of upd_same) (.cons ?_ (.cons (zx.mono (.of s)) .nil)), f.new hp⟩
  rw [Nat.zero_add]
  exact .int _
theorem t9' {s : M.Tx} (o : okT s) : hy' K (ItP (fun i => some (.int (i : Nat))) (chS (sx s)) (sx s).cps.size) (M.cL' 0 (s.map M.chD)) F T := by
  have e1 : (sx s).cps.size = s.length := bE' s
  refine ub' (fun F' T' H' fp i e f hi => ?_) fun F' T' H' fp i dx e f h1 => ?_
  . rw [List.length_map] at hi
    show i = (sx s).cps.size
    omega
  . rw [List.getElem?_map] at h1
    cases q1 : s[i]? with
    | none => rw [q1] at h1; cases h1
    | some c =>
      rw [q1] at h1
      cases h1
      have l1 := (List.getElem?_eq_some_iff.mp q1).1
      refine ⟨by show i < (sx s).cps.size; omega, fun v H2 y => ?_⟩
      obtain ⟨p, x, y', rfl, hp, rfl, c1, c2⟩ := y
      cases c1
      unfold chS at c2
      rw [cn', q1] at c2
      cases c2
      exact ⟨p, _, rfl, hp, rfl, kK' (o.1 c (List.mem_of_getElem? q1))⟩
theorem ua' {a : Addr} {vs : List V} {ds : List M.D} (ha : F a = some (.lst vs)) (z : FzA K F T vs ds) : hy' K (Ite K a) (M.cL' 0 ds) F T := by
  refine ub' (fun F' T' H' fp i e f hi => ?_) fun F' T' H' fp i dx e f h1 => ?_
  . exact ⟨vs, SqL.of (f.low _ _ (e.f.lst ha)), by rw [z.length]; omega⟩
  . obtain ⟨x, x1, x2⟩ := z.get h1
    have a1 : SqL K H' a vs := SqL.of (f.low _ _ (e.f.lst ha))
    refine ⟨⟨vs, x, a1, x1⟩, fun v H2 q => ?_⟩
    obtain ⟨p, x', rfl, hp, rfl, q1⟩ := q
    have := q1 vs a1
    rw [x1] at this
    cases this
    exact ⟨p, _, rfl, hp, rfl, x2.mono e⟩
end
section
variable {X : Cx} {W : WX} {pos p tpos : Pos} {a : Expr} {ma : M.ME} {σ : St} {H : Hp} {elts : List Expr} {kk : Nat}
theorem jM' {K : PySem.W.Frag} {m : M.ME} {ρ ρ1 : M.PSt} {F : Hp} {T : List Addr} {fr : Fp} {d : M.D} {R : List V -> Hp -> Prop} (rel : Rel K ρ σ H F T fr) (em : m ρ = .ok d ρ1) (h : ∀ v H' F' T', Ext F T F' T' -> Fz K F' T' v d -> Rel K ρ1 σ H' F' T' fr -> R [v] H') : tCons (qE K W m) tNil σ H R :=
  ⟨ρ, F, T, fr, rel, by rw [em]; exact h⟩
theorem qY' (hg : Gl X "enumerate") (hm : X.mg "enumerate" = none) (h : SE X W a ma) (hs : starEach [a] X.env = [(false, eval a X.env)] := by rfl) : SI X W (.Tuple elts kk tpos) (.Call (.Name "enumerate" p) [a] [] pos) (M.nv' ma) :=
  PI.imp (oI' (oJ' hg hm (pa_cons h pa_nil hs) hs) (pi_enum hg hm (pa_cons h pa_nil hs) hs)) fun σ H R ⟨ρ, F, T, fr, rel, q⟩ => by
    have q2 := aR'.bind q
    cases em : ma ρ with
    | bad => rw [em] at q2; exact q2.elim
    | exc x ρ1 =>
      rw [em] at q2
      exact .inl ⟨ρ, F, T, fr, rel, by rw [em]; exact q2⟩
    | ok d ρ1 =>
      rw [em] at q2
      obtain ⟨ds, e1, q3⟩ := aR'.ofO (show aR' _ _ _ from q2)
      cases d <;> try (cases e1; done)
      . cases e1
        refine .inl (jM' rel em fun v H' F' T' e z r => ?_)
        obtain ⟨rfl, o⟩ := z.str_inv
        exact ⟨_, rfl, q3 _ _ _ _ e (t9' o) r⟩
      . cases e1
        refine .inr (jM' rel em fun v H' F' T' e z r => ?_)
        obtain ⟨p, vs, rfl, ha, za⟩ := z.lst_inv
        obtain ⟨fp, f, _⟩ := r.fp
        exact ⟨p, vs, rfl, SqL.of (f.low _ _ ha), q3 _ _ _ _ e (ua' ha za) r⟩
end
theorem ki' {K : PySem.W.Frag} {F : Hp} {T : List Addr} {x : Str} {s : M.Tx} (hs : x = sx s) (ho : vv' s = true) : Fz K F T (.str x) (.str s) := by subst hs; exact .str (qm' ho)
end S
namespace S
open PySem PySem.Spec PyProof.Rows L2
variable [Wd] [Hot]
section
variable {X : Cx} {W : WX} {K : PySem.W.Frag} {pos p : Pos} {a b : Expr} {ma : M.ME} {F H : Hp} {T : List Addr}
end
def sj' [Wd] (H : Hp) : Hp := fun b => if b ∈ Wd.ts.map (·.1) then none else H b
theorem m1' [Wd] (H : Hp) : Same (sj' H) H := fun b o h => by
  unfold sj' at h
  split at h
  . cases h
  . exact h
theorem m2' [Wd] {H : Hp} (hT : ∀ p ∈ Wd.ts, H p.1 = some (.tbl #[])) {b : Addr} {o : HO} (h : H b = some o) (ho : o ≠ .tbl #[]) : sj' H b = some o := by
  unfold sj'
  rw [if_neg fun z => ?_]
  . exact h
  . obtain ⟨p, hp, e⟩ := List.mem_map.mp z
    have := hT p hp
    rw [e, h] at this
    exact ho (Option.some.inj this)
theorem oW' [Wd] {K : PySem.W.Frag} {H : Hp} (hT : ∀ p ∈ Wd.ts, H p.1 = some (.tbl #[])) {a : Addr} {vs : List V} (h : SqL K H a vs) : SqL K (sj' H) a vs := by
  rcases h with (h | ⟨o, h⟩) | h
  . exact .inl (.inl (m2' hT h (by intro z; cases z)))
  . exact .inl (.inr ⟨o, m2' hT h (by intro z; cases z)⟩)
  . exact .inr h
theorem nk' [Wd] (K : PySem.W.Frag) (H : Hp) (hT : ∀ p ∈ Wd.ts, H p.1 = some (.tbl #[])) (a : Addr) (ns : List Int) (hn : ns.length <= 63) (hs : SqL K H a (ns.map V.int)) {m : M.MF} (h : ∀ ns : List Int, ns.length <= 63 -> ∃ w, m [.scr (ns.map .int)] [] = .ok (.fz (.bl true)) w) :
    spM K m [.ref a] H (fun v _ => v = .bl true) L2.E0 := by
  obtain ⟨w, e⟩ := h ns hn
  refine ⟨[.scr (ns.map .int)], [], sj' H, [], [], .cons (.scr (oW' hT hs) (FzA.rgI ns)) .nil, ⟨[], [], tU', .nil, ⟨m1' H, fun _ h => (nomatch h), .nil, fun p hp => ⟨if_pos (List.mem_map_of_mem hp), fun _ h => (nomatch h), #[], hT p hp, True.intro, fun pos cv hc => ?_⟩⟩⟩, ?_⟩
  . have z : codeAmong pos [] = some cv := hc
    simp [codeAmong] at z
  rw [e]
  intro v H' F' T' fp _ z _
  cases z with
  | fz z => exact z.bl_inv
end S
namespace S
open PySem PySem.Spec PyProof.Rows L2
variable [Wd] [Hot]
section
variable {X : Cx} {W : WX} {K : PySem.W.Frag} {cpos apos p : Pos} {name : Str} {id T : String} {o e : Expr} {es : List Expr} {mo : M.ME} {as : M.MA} {σ : St} {H : Hp} {Q : VK}
end
end S
namespace S
open PySem PySem.Spec PyProof.Rows L2
variable [Wd] [Hot]
section
variable {X : Cx} {W : WX} {K : PySem.W.Frag}
theorem hq' (c : Nat) : ∀ l : List Nat, PyProof.Rows.cnt c l = ((l.count c : Nat) : Int)
  | [] => rfl
  | n :: r => by
    rw [PyProof.Rows.cnt_cons, hq' c r, List.count_cons]
    by_cases h : n = c
    . subst h; simp; omega
    . simp [h]
theorem h5' : MtD K M.en' (fun x xs H Q => ∃ a b, x = .str a /\ xs = [.str b] /\ Q (.int (Txt.count a b)) H) := by
  intro F H T fp s xs ds dz Q f o hx h k
  unfold M.en' at h
  split at h
  . obtain ⟨rfl, o2⟩ := hx.str1
    cases h
    rename_i c
    refine ⟨_, _, rfl, rfl, ?_⟩
    have e : Txt.count (sx s) (sx [c]) = ((s.count c : Nat) : Int) := by
      show Txt.count (sx s) ⟨#[c]⟩ = _
      rw [PyProof.Rows.count_cnt, cn', hq']
    rw [e]
    exact k.here f (.int _)
  . cases h
theorem FzA.two {F : Hp} {T : List Addr} {xs : List V} {d e : M.D} (h : FzA K F T xs [d, e]) : ∃ v u, xs = [v, u] /\ Fz K F T v d /\ Fz K F T u e := by
  cases h with
  | cons a r =>
    cases r with
    | cons b r => cases r; exact ⟨_, _, rfl, a, b⟩
end
end S
namespace S
open PySem PySem.Spec PyProof.Rows L2
variable [Wd] [Hot]
section
variable {P : Program} {w : World} {K : PySem.W.Frag} {mg : Str -> Option Value} {base : Heap}
end
section
variable {X : Cx} {W : WX} {K : PySem.W.Frag}
end
end S
namespace S
open PySem PySem.Spec PyProof.Rows L2
variable [Wd] [Hot]
local macro_rules | `(tactic| walk_at "parts") => `(tactic| (constructor; (intro e h; simp only [List.mem_append, List.mem_cons, List.not_mem_nil] at *; grind); (intro x; simp only [keys, List.map_append, List.map_cons, List.map_nil, List.count_append, List.count_cons, List.count_nil] at *; omega)))
section
variable {K : PySem.W.Frag} {F F' H H' : Hp} {T T' : List Addr} {fp fq fr : Fp} {ρ : M.PSt} {σ : St} {W : WX} {Q : VK}
theorem RpA.dget {vs : List V} {os : List M.O} {ks : List M.D} {dk : M.D} (h : RpA K F T vs os fp) : (M.dget ks vs dk).isSome = (M.dget ks os dk).isSome /\ ∀ d, M.dget ks os dk = some (.fz d) -> ∃ u, M.dget ks vs dk = some u /\ Fz K F T u d := by
  unfold M.dget
  cases M.sk' ks dk with
  | none => exact ⟨rfl, fun d e => nomatch e⟩
  | some j =>
    simp only [Option.bind_some]
    refine ⟨?_, fun d e => h.get e⟩
    rw [Bool.eq_iff_iff, Option.isSome_iff_exists, Option.isSome_iff_exists]
    constructor
    . rintro ⟨x, e⟩
      exact ⟨_, List.getElem?_eq_getElem (h.length ▸ (List.getElem?_eq_some_iff.mp e).1)⟩
    . rintro ⟨x, e⟩
      exact ⟨_, List.getElem?_eq_getElem (h.length ▸ (List.getElem?_eq_some_iff.mp e).1)⟩
end
section
variable {X : Cx} {W : WX} {pos tpos : Pos} {a b o i : Expr} {ma mb mo mi : M.ME} {σ : St} {H : Hp} {Q : VK}
end
end S
namespace S
open PySem PySem.Spec PyProof.Rows L2
variable [Wd] [Hot]
section
variable {K : PySem.W.Frag} {F F' H H' : Hp} {T T' : List Addr} {fp fq fr : Fp} {ρ : M.PSt} {σ : St} {W : WX} {Q : VK}
theorem Wk.frz {a : Addr} {o : Obj} {u : HO} (s : Wk F F') (h : F a = some (.frz o u)) : F' a = some (.frz o u) := s.at_ h fun _ e => nomatch e
end
section
variable {X : Cx} {W : WX} {tg a : Expr} {ma : M.ME} {apos cpos : Pos}
end
section
variable {K : PySem.W.Frag} {F F' H H' : Hp} {T T' : List Addr} {fp fq fr : Fp} {ρ : M.PSt} {σ : St} {W : WX}
end
section
variable {X : Cx} {W : WX} {pos : Pos} {kx vx tg iter : Expr} {ifs : List Expr} {scope : Scope} {own : List (Str × Nat)} {sl : List Nat} {it : M.MI} {g : M.MG} {t : M.MT} {ek ev : M.ME}
end
section
variable {K : PySem.W.Frag}
end
section
variable {X : Cx} {W : WX} {e : Expr} {te : TE} {apos cpos pos p : Pos} {me : M.ME}
end
end S
namespace S
open PySem PySem.Spec PyProof.Rows L2
variable [Wd] [Hot]
section
variable {K : PySem.W.Frag} {F H : Hp} {T : List Addr}
end
section
variable {K : PySem.W.Frag} {F H : Hp} {T : List Addr}
theorem FzA.keys : ∀ {kvs : List (Key × V)}, ku' kvs -> FzA K F T (kvs.map fun p => kV p.1) (kvs.map fun p => kD p.1)
  | [], _ => .nil
  | (k, v) :: r, h => by
    have hk := h (k, v) (List.mem_cons_self ..)
    refine .cons ?_ (FzA.keys fun p hp => h p (List.mem_cons_of_mem _ hp))
    cases k with
    | inl i => exact .int i
    | inr x =>
      have : Fz K F T (.str (sx x.cps.toList)) (.str x.cps.toList) := .str hk
      exact this
theorem FzA.len : ∀ {vs : List V} {ds : List M.D}, FzA K F T vs ds -> vs.length = ds.length
  | _, _, .nil => rfl
  | _, _, .cons _ r => congrArg (· + 1) (FzA.len r)
def kP : Key -> PyData := fun k => py (kD k)
inductive Dq0 (K : PySem.W.Frag) (H : Hp) : V -> PyData -> Prop
  | dp {v : V} {d : PyData} : Dp K H v d -> d.hasDict = false -> Dq0 K H v d
  | dct {a : Addr} {kvs : List (Key × V)} {ds : List M.D} : Rd H a (.dK kvs) -> ku' kvs -> DpAll K H (kvs.map (·.2)) (pys ds) -> ds.all M.ni' = true -> Dq0 K H (.ref a) (.dict ((pys (kvs.map fun p => kD p.1)).zip (pys ds)))
inductive LqAll (K : PySem.W.Frag) (H : Hp) : List V -> List M.D -> Prop
  | nil : LqAll K H [] []
  | leaf {v : V} {d : M.D} {vs : List V} {ds : List M.D} : Dp K H v (py d) -> M.ni' d = true -> LqAll K H vs ds -> LqAll K H (v :: vs) (d :: ds)
  | emp {a : Addr} {vs : List V} {ds : List M.D} : Rd H a (.dK []) -> LqAll K H vs ds -> LqAll K H (.ref a :: vs) (.dct [] [] :: ds)
inductive Dq (K : PySem.W.Frag) (H : Hp) : V -> PyData -> Prop
  | old {v : V} {d : PyData} : Dq0 K H v d -> Dq K H v d
  | tupE {a : Addr} {vs : List V} {ds : List M.D} : SqT K H a vs -> LqAll K H vs ds -> Dq K H (.ref a) (.tuple (pys ds))
end
section
variable {X : Cx} {pins : List (Addr × Obj)} {σ : St} {H : Hp} {s : Shared}
theorem cX' (I : Inv X pins σ H s) {d : M.D} {v : V} {u : Value} (l : M.ni' d = true) (h : Dp X.K H v (py d)) (r : RelV v u) : Reads s.heap u (py d) [] := by
  cases d with
  | non => cases h; cases r; exact .none
  | bl b => cases h; cases r; exact .bool b
  | int i => cases h; obtain ⟨t, rfl⟩ := r; exact .int i t
  | str x => cases h; obtain ⟨t, rfl⟩ := r; exact .str _ t
  | _ => cases l
theorem eX' (I : Inv X pins σ H s) : ∀ {kvs : List (Key × V)} {vs : List (Key × Value)} {ds : List M.D}, KV kvs vs -> DpAll X.K H (kvs.map (·.2)) (pys ds) -> ds.all M.ni' = true →
    PyProof.V.PairsRead s.heap kP vs ((pys (kvs.map fun p => kD p.1)).zip (pys ds)) []
  | _, _, [], .nil, _, _ => .nil
  | _, _, _ :: _, .nil, h, _ => by cases h
  | _, _, [], .cons _ _, h, _ => by cases h
  | (k, v) :: kvs, (k', u) :: vs, d :: ds, .cons hr hp, h, l => by
    obtain ⟨he, hr⟩ := hr
    have he : k = k' := he
    subst he
    rw [List.all_cons, Bool.and_eq_true] at l
    cases h with
    | cons h1 h2 =>
      have := PyProof.V.PairsRead.cons (enc := kP) (k := k) (cX' I l.1 h1 hr) (eX' I hp h2 l.2)
      exact this
theorem Dq0.reads (I : Inv X pins σ H s) {d : PyData} {v : V} {u : Value} (h : Dq0 X.K H v d) (r : RelV v u) : ∃ as, Reads s.heap u d as /\ (d.hasDict = true -> sysModules ∉ as) := by
  cases h with
  | dp dp e =>
    obtain ⟨as, rd⟩ := Dp.reads I d v u dp r
    exact ⟨as, rd, PyData.noDict_hsm e⟩
  | @dct a kvs ds e k dd l =>
    cases r
    obtain ⟨_, hs, vs, rk, hd⟩ := dk_rd I.hok e
    refine ⟨[a], PyProof.V.reads_dictOf (enc := kP) (fun k key hk => ?_) hd (eX' I rk dd l), fun _ hm => ?_⟩
    . rcases keyIs_shape hk with ⟨i, t, rfl, rfl⟩ | ⟨x, t, rfl, rfl⟩
      . exact .int i t
      . exact .str _ t
    . have := List.mem_singleton.mp hm
      rw [<- this] at hs
      simp at hs
theorem oY' (I : Inv X pins σ H s) : ∀ {vs : List V} {us : List Value} {ds : List M.D}, LqAll X.K H vs ds -> Vals vs us -> ∃ as, ReadsAll s.heap us (pys ds) as /\ sysModules ∉ as := by
  intro vs us ds h
  induction h generalizing us with
  | nil =>
    intro r
    cases r
    exact ⟨[], .nil, by simp⟩
  | leaf h1 h2 _ ih =>
    intro r
    cases r with
    | cons r1 r2 =>
      obtain ⟨bs, q2, q3⟩ := ih r2
      exact ⟨_, .cons (cX' I h2 h1 r1) q2, by simpa using q3⟩
  | emp h1 _ ih =>
    intro r
    cases r with
    | cons r1 r2 =>
      obtain ⟨bs, q2, q3⟩ := ih r2
      obtain ⟨as, q1, q4⟩ := Dq0.reads I (Dq0.dct (ds := []) h1 (fun p hp => by cases hp) .nil rfl) r1
      exact ⟨_, .cons q1 q2, by
        rw [List.mem_append]
        rintro (h | h)
        . exact q4 rfl h
        . exact q3 h⟩
theorem Dq.reads (I : Inv X pins σ H s) {d : PyData} {v : V} {u : Value} (h : Dq X.K H v d) (r : RelV v u) : ∃ as, Reads s.heap u d as /\ (d.hasDict = true -> sysModules ∉ as) := by
  cases h with
  | old h => exact h.reads I r
  | tupE hs la =>
    cases r
    obtain ⟨its, rv, ⟨o, ho, hc, n, hd⟩, _⟩ := I.tuple hs
    obtain ⟨as, hr, hm⟩ := oY' I la rv
    exact ⟨_, Reads.tuple ho hc hd hr, fun _ => hm⟩
end
def rRep (K : PySem.W.Frag) : List V -> Hp -> VK -> Prop := fun xs H Q => ∃ v d, xs = [v] /\ Dq K H v d /\ d.showable = true /\ d.depth <= 40 /\ d.shown.length <= sizeLine /\ Q (.str d.shown) H
section
variable {X : Cx}
end
section
variable {K : PySem.W.Frag}
end
end S
namespace S
open PySem PySem.Spec PyProof.Rows L2
variable [Wd] [Hot]
local macro_rules | `(tactic| walk_at "parts") => `(tactic| (constructor; (intro e h; simp only [List.mem_append, List.mem_cons, List.not_mem_nil] at *; grind); (intro x; simp only [keys, List.map_append, List.map_cons, List.map_nil, List.count_append, List.count_cons, List.count_nil] at *; omega)))
section
variable {K : PySem.W.Frag} {σ : St} {H : Hp} {Q : VK} {W : WX}
end
section
variable {X : Cx} {W : WX} {pos p : Pos} {a b e : Expr} {ma mb : M.ME} {mo : M.MO} {k : Nat} {args : List Str} {mf : M.MF}
theorem tc' (h : SO X W e mo) : SO X W e (M.oS' mo) := PE.imp h fun σ H Q ⟨ρ, F, T, fr, rel, h⟩ => by
  refine q8' rel h fun o ρ1 v H1 F1 T1 fp e1 z1 r1 h1 => ?_
  split at h1
  . rename_i ob eo
    have hq : ∃ p, v = .ref p /\ RpOb X.K F1 T1 p ob fp := by
      cases z1 with
      | fz _ => cases eo
      | lst r => cases eo; exact ⟨_, rfl, .lst r⟩
      | tup _ => cases eo
      | dct h r => cases eo; exact ⟨_, rfl, .dct h r⟩
      | dcl h r => cases eo; exact ⟨_, rfl, .dcl h r⟩
      | dcn h z r => cases eo; exact ⟨_, rfl, .dcn h z r⟩
    obtain ⟨p, rfl, qi⟩ := hq
    obtain ⟨fe, fw, re, rw, f⟩ := r1
    have eT : Ext F1 T1 F1 (T1 ++ [p]) := ⟨fun _ _ h => .inl h, ⟨[p], rfl⟩⟩
    have hn : (T1 ++ [p])[ρ1.w.length]? = some p := by rw [<- rw.len, List.getElem?_append_right (Nat.le_refl _), Nat.sub_self]; rfl
    obtain ⟨fw', q1, q2⟩ := RpW.snoc (qi.mono eT) (rw.mono eT)
    refine h1 (.ref p) H1 F1 (T1 ++ [p]) [] (e1.trans eT) (.fz (.obj hn)) ⟨fe, fw', re.mono eT, q1, f.part ?_⟩
    have p1 : Part (fe ++ (fw' ++ ([] ++ fr))) (fe ++ ((fp ++ fw) ++ ([] ++ fr))) := .app .refl (.app q2 .refl)
    refine p1.trans ?_
    walk_at "parts"
  . exact h1.elim
theorem RpA.all_fz : ∀ {vs : List V} {os : List M.O} {fp : Fp} {K : PySem.W.Frag} {F : Hp} {T : List Addr}, RpA K F T vs os fp -> os.all M.nY' = true -> FzA K F T vs (os.map M.frz)
  | _, _, _, _, _, _, .nil, _ => .nil
  | _, _, _, _, _, _, .cons (o := o) z r, h => by
    simp only [List.all_cons, Bool.and_eq_true] at h
    cases z with
    | fz z => exact .cons z (r.all_fz h.2)
    | lst _ => exact nomatch h.1
    | tup _ => exact nomatch h.1
    | dct _ _ => exact nomatch h.1
    | dcl _ _ => exact nomatch h.1
    | dcn _ _ _ => exact nomatch h.1
end
end S
namespace S
open PySem PySem.Spec PyProof.Rows L2
variable [Wd] {cc : List (Nat × CloD)}
abbrev ww' (a : Addr) (n : Nat) (dd : Option Addr) (x : M.Exc) (cs : List (Nat × CloD) := []) : Hot := ⟨some (a, n, dd, x), cs⟩
section
variable {K : PySem.W.Frag} {F H : Hp} {T : List Addr} {fp fr : Fp} {σ : St} {env : List (Option M.O)} {a : Addr} {n i : Nat} {dd : Option Addr} {x : M.Exc}
theorem RpE.cool (r : @RpE _ K (ww' a n dd x cc) F T σ env fp) (hl : env.length <= n) : @RpE _ K (nM' cc) F T σ env fp := by
  induction r with
  | nil => exact @RpE.nil _ K (nM' cc) F T
  | off _ ih => exact @RpE.off _ K (nM' cc) F T _ _ _ _ (ih (by simp at hl; omega))
  | on q _ ih => exact @RpE.on _ K (nM' cc) F T _ _ _ _ _ _ q (ih (by simp at hl; omega))
  | hot z _ _ _ =>
    have := (Prod.mk.inj (Prod.mk.inj (Option.some.inj z)).2).1
    simp at hl
    omega
  | clo z y _ ih => exact @RpE.clo _ K (nM' cc) F T _ _ _ _ z y (ih (by simp at hl; omega))
end
section
variable {X : Cx} {W : WX} {K : PySem.W.Frag} {D : Ends} {σ : St} {H : Hp} {F : Hp} {T : List Addr} {fr : Fp}
def tsA (cc : List (Nat × CloD)) (K : PySem.W.Frag) (n : Nat) (h : M.Exc -> M.MS) : Addr -> Value -> Option Addr -> TS := fun a cls d D σ H => ∃ e : M.Exc, cls = .ref (He.ga K e.cls) /\ @qS _ (ww' a n d e cc) K W0 (h e) D σ H
end
section
variable {X : Cx} {W : WX} {pos p : Pos} {a b : Expr}
end
end S
namespace S
open PySem PySem.Spec PyProof.Rows L2
section
variable {prog : Program} {w : World} {A : Around} {E : Value -> Shared -> Prop} {s : Shared} {K : PySem.W.Frag} {x C L f : Addr} {h₀ : Heap} {m : Str -> Option Value} {ox : Obj} {od : Option Obj} {b tb : Value}
open PySem.W in
end
end S
namespace S
open PySem PySem.Spec PyProof.Rows L2
variable [Wd] [Hot]
section
variable {K : PySem.W.Frag} {σ : St} {H : Hp} {Q : VK} {W : WX}
end
section
variable {X : Cx} {W : WX} {pos : Pos} {a b : Expr} {ma mb : M.ME} {k : Nat} {args : List Str} {mf : M.MF}
end
end S
namespace S
open PySem PySem.Spec PyProof.Rows L2
variable [Wd] [Hot]
section
variable {X : Cx} {W : WX} {a : Expr} {ma : M.ME} {pos p1 p2 p3 : Pos} {k : Nat}
end
end S
namespace S
open PySem PySem.Spec PyProof.Rows L2 TL
variable [Wd] [Hot]
section
variable {K : PySem.W.Frag}
end
end S
namespace S
open PySem PySem.Spec PyProof.Rows L2
variable [Wd] [Hot]
section
variable {X : Cx} {W : WX} {K : PySem.W.Frag} {a b : Expr} {ma : M.ME} {pos : Pos}
end
end S
namespace S
open PySem PySem.Spec PyProof.Rows L2
variable [Wd] [Hot]
section
variable {K : PySem.W.Frag} {W : WX} {σ : St} {H : Hp}
end
section
variable {X : Cx} {W : WX} {pos : Pos} {elt tg iter tg1 iter1 : Expr} {ifs ifs1 : List Expr} {scope : Scope} {own : List (Str × Nat)} {sl sl0 sl1 : List Nat} {it it1 : M.MI} {g g1 : M.MG} {t t1 : M.MT} {e : M.ME}
end
end S
namespace S
open PySem PySem.Spec PyProof.Rows L2
end S
namespace S
open PySem PySem.Spec PyProof.Rows L2
variable [Wd] [Hot]
section
variable {K : PySem.W.Frag} {W : WX} {X : Cx} {p pos : Pos} {a b : Expr} {ma mb : M.ME}
end
end S
namespace S
open PySem PySem.Spec PyProof.Rows L2
variable [Wd] [Hot]
section
variable {X : Cx} {W : WX} {K : PySem.W.Frag} {a : Expr} {ma : M.ME} {pos : Pos}
end
end S
namespace S
open PySem PySem.Spec PyProof.Rows L2
variable [Wd] [Hot]
section
variable {K : PySem.W.Frag} {W : WX} {σ : St} {H : Hp}
end
section
variable {X : Cx} {W : WX} {pos px : Pos} {elt tg : Expr} {ifs : List Expr} {scope : Scope} {own : List (Str × Nat)} {sl : List Nat} {i : Nat} {nm : Str} {g : M.MG} {t : M.MT} {e : M.ME}
end
end S
namespace S
open PySem PySem.Spec PyProof.Rows L2
variable [Wd] [Hot]
section
variable {X : Cx} {W : WX} {pos cpos apos : Pos} {o a : Expr} {mo : M.ME} {ma : M.MO}
theorem kI' {K : PySem.W.Frag} {σ : St} {H : Hp} {Q : VK} {ma : M.ME} (h : qE K W (M.ih' ma) σ H Q) : tCB (oG' K) (tCons (qE K W ma) tNil) σ H Q := by
  obtain ⟨ρ, F, T, fr, rel, h⟩ := h
  refine av' rel h fun dx ρ1 v H1 F1 T1 e1 z1 r1 h1 => ?_
  obtain ⟨dz, ez, q⟩ := aR'.ofO h1
  cases dx <;> try (cases ez; done)
  rename_i n
  have ez : (match ρ1.w[n]? with | some (.lst os) => some (M.D.int os.length) | _ => none) = some dz := ez
  split at ez
  . rename_i os e0
    cases ez
    obtain ⟨p, vs, f2, g1, g2, g3, _⟩ := r1.wlist e0
    cases z1 with
    | obj t =>
      rw [g1] at t
      cases t
      refine .inl (.inr (.inl ⟨p, vs, rfl, .inl (SqL.of g2), ?_⟩))
      rw [g3.length]
      exact q _ H1 F1 T1 e1 (.int _) r1
  . cases ez
theorem ms' {x : Str} {p : Pos} {ma : M.ME} (hwd : X.prog = Wd.P /\ X.w = Wd.w) (hg : Gl X x) (hm : X.mg x = none) (hv : bootBuiltins x = some (.builtin "len")) (ha : SE X W a ma) (hn : x ≠ "__name__" := by decide) (hdb : (x == ("__debug__" : Str)) = false := by decide)
    (he : starEach [a] X.env = (false, eval a X.env) :: starEach [] X.env := by rfl) (hpl : (backTo pos (starEach [] X.env)).any (·.1) = false := by rfl) : SE X W (.Call (.Name x p) [a] [] pos) (M.ih' ma) := PE.imp (pe_callB (aT' hwd) hg hm hv (pa_cons ha pa_nil he) hn hdb he hpl) fun _ _ _ h => kI' h
end
end S
namespace S
open PySem PySem.Spec PyProof.Rows L2
structure SupF (file : Str) (K : PySem.W.Frag) (C f : Addr) (fld : Str) : Prop where
  ex : ∃ (oc : Value) (od : Option Addr) (fd : FuncData) (osl : Array (Option Value)) (x y : Str) (cc cda : Addr), K.lookup f = some ⟨oc, od, .func fd, osl⟩ /\ xs' fd.params = some (x, y) /\ xp' fd.body = some (("super" : Str), ("__init__" : Str), x, fld, y) ∧
    fd.closure = [(("__class__" : Str), cc)] /\ fd.code = .ref cda /\ fd.defaults = .none /\ fd.kwdefaults = .none /\ fd.globals = mainGlobals /\ fd.builtins = builtinsNs /\ PySem.W.codeIn K (.ref cda) fd.qualname = true ∧
    fd.scope.names.lookup ("super" : Str) = some .globalImplicit /\ fd.scope.names.lookup ("__class__" : Str) = some .free /\ fd.scope.names.lookup x = some .local /\ fd.scope.names.lookup y = some .local /\ (∀ q ∈ fd.scope.names, q.2 ≠ .cell) ∧
    fd.scope.kind = .function /\ fd.scope.isGenerator = false /\ fd.scope.isCoroutine = false /\ x = "self" /\ (y = "part" \/ y = "most") ∧
    (∃ a b c, K.lookup cc = some ⟨a, b, .cell (some (.ref C)), c⟩) /\ (∃ a b c vs tf, K.lookup cda = some ⟨a, b, .fields vs, c⟩ /\ vs[2]? = some (.str file tf))
  sup : PySem.W.ks_superIn K C C "__init__" = some (some (.builtin "ValueError.__init__"))
  own : PySem.W.mroIn K C (.ref C) = some true
  ve : PySem.W.subIn K (.ref C) (.type "ValueError") = some true
  no3 : PySem.W.nsIn K cStatics "thirdparty.any" = some none
  cls : ∃ nm q N bs bm sn sub ab col dd k0 k1 k2 k3 k5, K.lookup C = some (excClassObj nm q C N bs bm true sn sub ab col dd k0 k1 k2 k3 k5 "ValueError.__new__") /\ HandSPX.refsVE bm = true
  sa : PySem.W.findIn K (.ref C) "__setattr__" = some (some (.builtin "object.__setattr__"))
  exC : PySem.W.subIn K (.ref C) (.type "BaseException") = some true
  tyC : PySem.W.typeIn K (.ref C) = some (.type "type")
  kC : PySem.W.keepIn K (.ref C) = true
  iC : PySem.W.findIn K (.ref C) "__init__" = some (some (.ref f))
  tI : PySem.W.typeIn K (.ref f) = some (.type "function")
  fl : PySem.W.findIn K (.ref C) fld = some none
end S
namespace S
open PySem PySem.Spec PyProof.Rows L2
variable [Wd] [Hot]
local macro_rules | `(tactic| walk_at "parts") => `(tactic| (constructor; (intro e h; simp only [List.mem_append, List.mem_cons, List.not_mem_nil] at *; grind); (intro x; simp only [keys, List.map_append, List.map_cons, List.map_nil, List.count_append, List.count_cons, List.count_nil] at *; omega)))
section
variable {prog : Program} {w : World} {A : Around} {E : Value -> Shared -> Prop} {s : Shared}
end
def yq' (K : PySem.W.Frag) (ps : List (String × String)) (g : Addr) : Prop := ∀ C, (C, C) ∈ ps -> PySem.W.findIn K (.ref (He.ga K (Str.ofString C))) "__eq__" = some (some (.ref g)) /\ PySem.W.isFn K (.ref g) = true ∧
  ∀ n ∈ ["NoneType", "bool", "int", "str", "tuple", "list", "dict"], PySem.W.notFirst K (He.ga K (Str.ofString C)) (.type n) = true
def rEqD (K : PySem.W.Frag) (ps : List (String × String)) (mf : M.MF) : R2 := fun x y H Q => ∃ (C n : String) (a dx : Addr) (fs : List (Str × V)), (C, C) ∈ ps /\ n ∈ ["NoneType", "bool", "int", "str", "tuple", "list", "dict"] /\ x = .ref a ∧
  H a = some (.ins (He.ga K (Str.ofString C)) dx fs) /\ TyX K H y (.type n) /\ spM K mf [x, y] H (fun v H' => ∃ r, v = .bl r /\ Q (.bl r) H') E0
theorem op_eqD {X : Cx} {k : Nat} {C0 : Addr} {args : List Str} {ps : List (String × String)} {mf : M.MF} (F : OgM X.prog X.w X.K X.mg X.base k C0 "__eq__" args (spM X.K mf)) (hr : RoomG k X.A) (hp : yq' X.K ps (He.ma X.K C0 "__eq__")) :
    OpR X (compareOp .Eq) (rEqD X.K ps mf) := by
  obtain ⟨fd, F, hb⟩ := F
  intro pins s σ H x y v u Q I rx ry h
  obtain ⟨C, n, a, dx, fs, hC, hn, rfl, ha, ht, hs⟩ := h
  cases (show v = Value.ref a from rx)
  obtain ⟨q1, q2, q3⟩ := hp _ hC
  obtain ⟨mA, J, _⟩ := ins_get I.hok ha
  obtain ⟨od, J, _⟩ := J.look
  obtain ⟨m, hF⟩ := I.fr
  obtain ⟨P, Z, hP, _⟩ := kit_of I ry ht
  show wpAny (model X.prog X.w) X.A (richCompare .Eq (.ref a) u) (EP X pins σ Q) X.xe s
  refine PySem.W.cmp_K (op := .Eq) (tb := .type n) hr.r.units0 hF I.ok.mod.kin J (Z.ty _ _ I.kIn hP) (q3 n hn) q1 q2 ?_
  refine wpAny_mono (hL' (E := fun _ => E0) (us := [.ref a, u]) (vs := [.ref a, y]) F hr hb (fun _ _ _ e s' _ c => ?_) I (.cons rfl (.cons ry .nil)) hs) (fun r s' q => ?_) fun _ _ z => z
  . obtain ⟨_, _, _, _, _, _, _, _, _, _, _, _, z⟩ := c
    exact z.elim
  . obtain ⟨z, H', I', rz, t, ez, q⟩ := q
    subst ez
    cases rz
    exact ⟨.bl t, H', I', rfl, q⟩
section
variable {K : PySem.W.Frag} {σ : St} {H : Hp} {Q : VK} {W : WX}
end
section
variable {X : Cx} {W : WX} {pos p tpos : Pos} {a b e o i : Expr} {ma mb mo mi : M.ME} {k : Nat} {args : List Str} {mf : M.MF}
end
end S
namespace S
open PySem PySem.Spec PyProof.Rows L2
variable [Wd] [Hot]
mutual
inductive DqN (K : PySem.W.Frag) (H : Hp) : V -> M.D -> Prop
  | leaf {v : V} {d : M.D} : Dp K H v (py d) -> M.ni' d = true -> DqN K H v d
  | tup {a : Addr} {vs : List V} {ds : List M.D} : SqT K H a vs -> DqNs K H vs ds -> DqN K H (.ref a) (.tup ds)
  | lst {a : Addr} {vs : List V} {ds : List M.D} : H a = some (.lst vs) -> DqNs K H vs ds -> DqN K H (.ref a) (.lst ds)
  | dct {a : Addr} {kvs : List (Key × V)} {ds : List M.D} : Rd H a (.dK kvs) -> ku' kvs -> DqNs K H (kvs.map (·.2)) ds -> DqN K H (.ref a) (.dct (kvs.map fun p => kD p.1) ds)
inductive DqNs (K : PySem.W.Frag) (H : Hp) : List V -> List M.D -> Prop
  | nil : DqNs K H [] []
  | cons {v : V} {d : M.D} {vs : List V} {ds : List M.D} : DqN K H v d -> DqNs K H vs ds -> DqNs K H (v :: vs) (d :: ds)
end
section
variable {K : PySem.W.Frag} {F H : Hp} {T : List Addr}
end
section
variable {X : Cx} {pins : List (Addr × Obj)} {σ : St} {H : Hp} {s : Shared}
def vC' (K : PySem.W.Frag) : Prop := ∃ o, K.lookup sysModules = some o
theorem qO' (I : Inv X pins σ H s) (h : vC' X.K) {a : Addr} {o : HO} (ha : H a = some o) : a ≠ sysModules := fun e => by
  obtain ⟨ob, hk⟩ := h
  have := (I.bs _ _ (I.ok.mod.kin _ _ hk)).2
  rw [e, this] at ha
  cases ha
mutual
theorem DqN.reads (I : Inv X pins σ H s) (hS : vC' X.K) : ∀ {v : V} {d : M.D} {u : Value}, DqN X.K H v d -> RelV v u -> ∃ as, Reads s.heap u (py d) as /\ sysModules ∉ as
  | _, _, _, .leaf h l, r => ⟨[], cX' I l h r, by simp⟩
  | _, _, _, .tup hs la, r => by
    cases r
    obtain ⟨its, rv, ⟨o, ho, hc, n, hd⟩, _⟩ := I.tuple hs
    obtain ⟨as, hr, hm⟩ := DqNs.reads I hS la rv
    exact ⟨_, Reads.tuple ho hc hd hr, hm⟩
  | _, _, _, .lst (a := a) hs la, r => by
    cases r
    obtain ⟨_, its, n, rv, hd⟩ := I.hok a _ hs
    obtain ⟨as, hr, hm⟩ := DqNs.reads I hS la rv
    refine ⟨_, Reads.list hd rfl rfl hr, fun z => ?_⟩
    rcases List.mem_cons.mp z with z | z
    . exact qO' I hS hs z.symm
    . exact hm z
  | _, _, _, .dct (a := a) (kvs := kvs) (ds := ds) e k la, r => by
    cases r
    obtain ⟨_, hs, vs, rk, hd⟩ := dk_rd I.hok e
    obtain ⟨bs, hp, hm⟩ := DqNs.pairs I hS la kvs rfl rk
    refine ⟨_, PyProof.V.reads_dictOf (enc := kP) (fun k key hk => ?_) hd hp, fun z => ?_⟩
    . rcases keyIs_shape hk with ⟨i, t, rfl, rfl⟩ | ⟨x, t, rfl, rfl⟩
      . exact .int i t
      . exact .str _ t
    . rcases List.mem_cons.mp z with z | z
      . rw [<- z] at hs
        simp at hs
      . exact hm z
theorem DqNs.reads (I : Inv X pins σ H s) (hS : vC' X.K) : ∀ {vs : List V} {ds : List M.D} {us : List Value}, DqNs X.K H vs ds -> Vals vs us -> ∃ as, ReadsAll s.heap us (pys ds) as /\ sysModules ∉ as
  | _, _, _, .nil, r => by
    cases r
    exact ⟨[], .nil, by simp⟩
  | _, _, _, .cons h1 h2, r => by
    cases r with
    | cons r1 r2 =>
      obtain ⟨as, q1, q4⟩ := DqN.reads I hS h1 r1
      obtain ⟨bs, q2, q3⟩ := DqNs.reads I hS h2 r2
      exact ⟨_, .cons q1 q2, fun z => (List.mem_append.mp z).elim q4 q3⟩
theorem DqNs.pairs (I : Inv X pins σ H s) (hS : vC' X.K) : ∀ {vs : List V} {ds : List M.D}, DqNs X.K H vs ds -> ∀ (kvs : List (Key × V)) {us : List (Key × Value)}, kvs.map (·.2) = vs -> KV kvs us →
    ∃ bs, PyProof.V.PairsRead s.heap kP us ((pys (kvs.map fun p => kD p.1)).zip (pys ds)) bs /\ sysModules ∉ bs
  | _, _, .nil, kvs, us, e, r => by
    cases kvs with
    | nil => cases r; exact ⟨[], .nil, by simp⟩
    | cons _ _ => cases e
  | _, _, .cons h1 h2, kvs, us, e, r => by
    cases kvs with
    | nil => cases e
    | cons p kvs =>
      obtain ⟨k, v⟩ := p
      obtain ⟨rfl, e2⟩ := List.cons.inj e
      cases r with
      | @cons _ q _ us hr hp =>
        obtain ⟨k', u⟩ := q
        obtain ⟨he, hr⟩ := hr
        have he : k = k' := he
        subst he
        obtain ⟨as, q1, q4⟩ := DqN.reads I hS h1 hr
        obtain ⟨bs, q2, q3⟩ := DqNs.pairs I hS h2 kvs e2 hp
        exact ⟨_, PyProof.V.PairsRead.cons (enc := kP) (k := k) q1 q2, fun z => (List.mem_append.mp z).elim q4 q3⟩
end
end
section
variable {X : Cx}
end
end S
namespace S
open PySem PySem.Spec PyProof.Rows L2
variable [Wd] [Hot]
end S
namespace S
open PySem PySem.Spec PyProof.Rows L2 HT
variable [Wd] [Hot]
section
variable {prog : Program} {w : World} {A : Around} {E : Value -> Shared -> Prop} {s : Shared}
end
section
variable {X : Cx} {W : WX} {a : Expr} {ma : M.ME} {pos p1 p2 p3 : Pos} {k : Nat}
end
end S
namespace S
open PySem PySem.Spec PyProof.Rows L2
variable [Wd]
section
variable {X : Cx} {W : WX} {pos p : Pos} {a b : Expr}
end
end S
namespace S
open PySem PySem.Spec PyProof.Rows L2 CwR
theorem ee' (c : Nat) : ∀ l : List Nat, StrLaws.replL [c] [] l = l.filter (fun d => decide (d ≠ c))
  | [] => StrLaws.replL_nil
  | d :: r => by
    by_cases h : d = c
    . subst h
      rw [StrLaws.replL_hit (by simp) (by simp)]
      show [] ++ StrLaws.replL [d] [] r = _
      rw [List.nil_append, ee' d r]
      simp
    . rw [StrLaws.replL_miss (by simpa using h), ee' c r]
      simp [h]
def x7' (y z : Str) : V -> Hp -> VK -> Prop := fun v H Q => ∃ x, v = .str x /\ x.length + (x.length + 1) * z.length <= 16777216 /\ Q (.str (Txt.replace x y z)) H
section
variable {X : Cx} {o e : Expr} {te to : TE} {es : List Expr} {ta : TA} {y z : Str} {i : Int} {j j1 j2 : Nat} {c0 c1 apos pos p : Pos}
theorem rd' (hr : PAT X es ta) (hs : starEach (.Constant (.int i) j p :: es) X.env = (false, eval (.Constant (.int i) j p) X.env) :: starEach es X.env := by rfl) : PA X (.Constant (.int i) j p :: es) (tCons (tC (.int i)) ta) := by
  refine ⟨fun pos pins s σ H Q I h => ?_⟩
  rw [hs]
  show wpAny _ _ (spliced ((false, eval (.Constant (.int i) j p) X.env) :: backTo pos (starEach es X.env))) _ _ s
  refine Calls.spliced_cons (wpAny_Constant_int ?_)
  exact thn (hr pos pins { s with toks := s.toks + 1 } σ H _ (by show 1 <= s.toks + 1; omega) (I.tok _) h) fun us s2 ⟨xs, H2, I2, r2, q2⟩ => ⟨.int i :: xs, H2, I2, .cons ⟨_, rfl⟩ r2, q2⟩
end
variable [Wd]
section
variable {X : Cx} {W : WX} {o : Expr} {mo : M.ME} {y z : Str} {i : Int} {j j1 j2 : Nat} {c0 c1 apos pos p : Pos}
theorem ws' {c : Nat} (hy : y.cps.toList = [c]) (hz : z.cps.toList = []) : Op1 X.K (M.si' c) (x7' y z) := by
  intro F H T fp x dx dz Q f hx h k
  cases dx <;> try (cases h; done)
  obtain ⟨rfl, o1⟩ := hx.str_inv
  simp only [M.si'] at h
  split at h
  . rename_i hc
    cases h
    have z0 : z.length = 0 := by
      show z.cps.size = 0
      rw [<- Array.length_toList, hz]; rfl
    have y1 : 1 <= y.length := by
      show 1 <= y.cps.size
      rw [<- Array.length_toList, hy]; exact Nat.le_refl _
    refine ⟨_, rfl, ?_, ?_⟩
    . rw [z0, Nat.mul_zero, bE']; omega
    . have e : Txt.replace (sx ‹M.Tx›) y z = sx (‹M.Tx›.filter fun d => decide (d ≠ c)) := fh' (by
        rw [StrLaws.replace_list y1, hy, hz, cn', cn', ee'])
      rw [e]
      exact k.here f (.str (o1.sub (fun d hd => (List.mem_filter.mp hd).1) (List.length_filter_le _ _)))
  . cases h
theorem q4' {c : Nat} (hy : y.cps.toList = [c]) (hz : z.cps.toList = []) (hyz : (y == z) = false) (ho : SE X W o mo)
    (hst : starEach [.Constant (.str y) j1 c0, .Constant (.str z) j2 c1] X.env = [(false, eval (.Constant (.str y) j1 c0) X.env), (false, eval (.Constant (.str z) j2 c1) X.env)] := by rfl)
    (hbase : attributeBase o "replace" X.env (eval o X.env) = eval o X.env := by rfl) (hline : (apos.endLine == pos.line) = true := by rfl)
    (hs2 : starEach [.Call (.Attribute o "replace" apos) [.Constant (.str y) j1 c0, .Constant (.str z) j2 c1] [] pos] X.env = (false, eval (.Call (.Attribute o "replace" apos) [.Constant (.str y) j1 c0, .Constant (.str z) j2 c1] [] pos) X.env) :: starEach [] X.env := by rfl)
    (hs : starEach [.Constant (.int i) j p, .Call (.Attribute o "replace" apos) [.Constant (.str y) j1 c0, .Constant (.str z) j2 c1] [] pos] X.env = (false, eval (.Constant (.int i) j p) X.env) :: starEach [.Call (.Attribute o "replace" apos) [.Constant (.str y) j1 c0, .Constant (.str z) j2 c1] [] pos] X.env := by rfl) :
    SA X W [.Constant (.int i) j p, .Call (.Attribute o "replace" apos) [.Constant (.str y) j1 c0, .Constant (.str z) j2 c1] [] pos] (M.ad' (M.eC (.int i)) (M.ad' (M.eUn (M.si' c) mo) M.bc')) :=
  PA.imp (rd' (pat_cons (pet_replC ho hyz hst hbase hline) pat_nil hs2) hs) fun σ H Q ⟨ρ, F, T, fr, rel, h⟩ => by
    have conv : ∀ (Q' : List V -> Hp -> Prop), qA X.K W (M.ad' (M.eUn (M.si' c) mo) M.bc') σ H Q' -> tCons (tReplC (qE X.K W mo) y z) tNil σ H Q' := fun Q' ⟨ρ', F', T', fr', rel', h'⟩ =>
      mh' (ws' hy hz) (av' rel' h' fun dx ρ1 v H1 F1 T1 e1 z1 r1 h1 => h1 _ _ _ _ e1 (.cons z1 .nil) r1)
    exact conv _ (bU' rel h fun ds ρ2 vs H2 F2 T2 e2 z2 r2 h2 => h2 _ _ _ _ e2 (.cons (.int i) z2) r2)
end
end S
namespace S
open PySem PySem.Spec PyProof.Rows L2
variable [Wd]
section
variable {X : Cx} {W : WX} {a : Expr} {ma : M.ME} {pos : Pos}
theorem mi' {K : PySem.W.Frag} {σ : St} {H : Hp} {Q : VK} {ma : M.ME} (h : qE K W (M.kL' ma) σ H Q) : tCB (fl' K) (tCons (qE K W ma) tNil) σ H Q := by
  obtain ⟨ρ, F, T, fr, rel, h⟩ := h
  refine av' rel h fun dx ρ1 v H1 F1 T1 e1 z1 r1 h1 => ?_
  obtain ⟨dz, ez, q⟩ := aR'.ofO h1
  cases dx <;> try (cases ez; done)
  rename_i n
  obtain ⟨fp, f1, back⟩ := r1.fp
  have kk : c0' K F1 T1 fp dz Q := fun v' H4 F4 s zz f4 => q v' H4 F4 T1 (e1.trans (.of s)) zz (back H4 F4 s f4)
  simp only [M.qM'] at ez
  cases ew : ρ1.w[n]? with
  | none => rw [ew] at ez; cases ez
  | some ob =>
    rw [ew] at ez
    cases ob <;> try (cases ez; done)
    rename_i os
    simp only at ez
    split at ez
    . rename_i hall
      cases ez
      obtain ⟨b, vs, f2, h4, h5, h6, _⟩ := r1.wlist ew
      cases z1 with
      | obj t =>
        rw [h4] at t
        cases t
        exact .inl ⟨b, vs, rfl, .inl ⟨SqL.of h5, fun l hl => kk.newT f1 (h6.all_fz hall) hl⟩⟩
    . cases ez
theorem qZ' {x : Str} {p : Pos} {ma : M.ME} (hg : Gl X x) (hm : X.mg x = none) (hv : bootBuiltins x = some (.type "tuple")) (hc : CallR X (.type "tuple") (fl' X.K)) (ha : SE X W a ma) (hn : x ≠ "__name__" := by decide) (hdb : (x == ("__debug__" : Str)) = false := by decide)
    (he : starEach [a] X.env = (false, eval a X.env) :: starEach [] X.env := by rfl) (hpl : (backTo pos (starEach [] X.env)).any (·.1) = false := by rfl) : SE X W (.Call (.Name x p) [a] [] pos) (M.kL' ma) := PE.imp (pe_callTy hc hg hm hv (pa_cons ha pa_nil he) hn hdb he hpl) fun _ _ _ h => mi' h
end
end S
namespace S
open PySem PySem.Spec PyProof.Rows L2
end S
namespace S
open PySem PySem.Spec PyProof.Rows L2
variable [Wd] [Hot]
section
variable {K : PySem.W.Frag} {W : WX} {X : Cx} {p pos : Pos} {a b : Expr} {ma mb : M.ME}
end
end S
namespace S
open PySem PySem.Spec
open PySem (ZipApart)
structure ZlSt (h : Heap) (z TI TO i1 i2 l1 l2 : Addr) (xs ys : Array Value) (S : Addr) (i : Nat) : Prop where
  ti : IsPair h TI (.ref i1) (.ref i2)
  it1 : h.IsListIter i1 l1 i
  it2 : h.IsListIter i2 l2 i
  li1 : h.IsList l1 xs
  li2 : h.IsList l2 ys
  zz : (IsZip h z TI TO .none /\ ∃ a b, IsPair h TO a b) \/ ∃ T f oT, PySem.IsZipHeld h z TI TO T f /\ h.get? T = some oT /\ T ≠ z /\ T ≠ i1 /\ T ≠ i2 /\ T ≠ S
structure ZlA (z TI TO i1 i2 l1 l2 S : Addr) : Prop where
  z : z < S
  TI : TI < S
  TO : TO < S
  i1 : i1 < S
  i2 : i2 < S
  l1 : l1 < S
  l2 : l2 < S
section
variable {prog : Program} {w : World} {A : Around} {E : Value -> Shared -> Prop} {s : Shared} {z TI TO i1 i2 l1 l2 S : Addr} {xs ys : Array Value} {i : Nat}
theorem ZlSt.keep {h h' : Heap} (st : ZlSt h z TI TO i1 i2 l1 l2 xs ys S i) (L : ZlA z TI TO i1 i2 l1 l2 S) (hk : ∀ b o, b ≠ S -> h.get? b = some o -> h'.get? b = some o) : ZlSt h' z TI TO i1 i2 l1 l2 xs ys S i := by
  obtain ⟨a1, a2, a3, a4, a5, a6⟩ := st
  have n : ∀ {a : Addr}, a < S -> a ≠ S := fun h => Nat.ne_of_lt h
  refine ⟨hk _ _ (n L.TI) a1, a2.at fun o e => hk _ o (n L.i1) e, a3.at fun o e => hk _ o (n L.i2) e, a4.at fun o e => hk _ o (n L.l1) e, a5.at fun o e => hk _ o (n L.l2) e, ?_⟩
  rcases a6 with ⟨hz, a, b, hTO⟩ | ⟨T, f, oT, hz, hT, r1, r2, r3, r4⟩
  . exact .inl ⟨hk _ _ (n L.z) hz, a, b, hk _ _ (n L.TO) hTO⟩
  . exact .inr ⟨T, f, oT, hk _ _ (n L.z) hz, hk _ _ r4 hT, r1, r2, r3, r4⟩
structure ZlG (xs ys : Array Value) (lo : Addr) (h : Heap) (as : List Addr) : Prop where
  rise : as.Pairwise (· < ·)
  above : ∀ a ∈ as, lo < a
  pairs : ∀ (j : Nat) (a : Addr), as[j]? = some a -> ∃ x y, xs[j]? = some x /\ ys[j]? = some y /\ h.get? a = some { cls := .type "tuple", data := .seq #[x, y] }
theorem ZlG.there {lo : Addr} {h : Heap} {as : List Addr} (g : ZlG xs ys lo h as) {a : Addr} (ha : a ∈ as) : a < h.objs.size := by
  obtain ⟨j, hj⟩ := List.mem_iff_getElem?.mp ha
  obtain ⟨_, _, _, _, e⟩ := g.pairs j a hj
  exact Heap.lt_size e
end
section
variable {prog : Program} {w : World} {A : Around} {s : Shared} {R : Result -> Shared -> Prop} {z TI TO i1 i2 l1 l2 S : Addr} {xs ys : Array Value}
end
section
variable {prog : Program} {w : World} {A : Around} {E : Value -> Shared -> Prop} {s : Shared} {z TI TO i1 i2 l1 l2 S : Addr} {xs ys : Array Value}
theorem ZlSt.type {h : Heap} {i : Nat} (st : ZlSt h z TI TO i1 i2 l1 l2 xs ys S i) : ∃ o, h.get? z = some o /\ o.cls = .type "zip" := by
  rcases st.zz with ⟨hz, _⟩ | ⟨T, f, oT, hz, _⟩
  . exact ⟨_, hz, rfl⟩
  . exact ⟨_, hz, rfl⟩
end
end S
namespace S
open PySem PySem.Spec PyProof.Rows L2 LiI
section
variable {X : Cx}
end
section
variable {K : PySem.W.Frag} [Wd]
end
section
variable [Wd] {X : Cx} {W : WX} {a b : Expr} {ma mb : M.ME} {p p2 pos pos2 : Pos}
end
end S
namespace S
open PySem PySem.Spec PyProof.Rows L2
section
variable {prog : Program} {w : World} {A : Around} {E : Value -> Shared -> Prop} {s : Shared} {z TI TO i1 i2 l1 l2 : Addr} {xs ys : Array Value} {k : Nat}
abbrev ZO (h : Heap) (z TI TO : Addr) (f0 : Value) (b : Bool) : Prop :=
  h.get? z = some { cls := .type "zip", dict := none, data := .fields #[f0, .bool b, .bool false, .ref TI, .ref TO], slots := #[] }
def Gvn (f0 : Value) : Prop := f0 = .none \/ ∃ T : Addr, f0 = rawInt T
structure ZnSt (h : Heap) (z TI TO i1 i2 l1 l2 : Addr) (k : Nat) : Prop where
  zz : ∃ f0 b, ZO h z TI TO f0 b /\ Gvn f0
  ti : IsPair h TI (.ref i1) (.ref i2)
  to : ∃ x y, IsPair h TO x y
  h1 : h.IsTupleIter i1 l1 k
  h2 : h.IsTupleIter i2 l2 k
end
end S
namespace S
open PySem PySem.Spec PyProof.Rows L2
section
variable [Wd] [Hot] {X : Cx} {W : WX} {a b : Expr} {ma mb : M.ME} {p pos : Pos}
end
end S
namespace S
open PySem PySem.Spec PyProof.Rows L2
section
variable [Wd] [Hot] {X : Cx} {W : WX} {a : Expr} {ma : M.ME} {pos : Pos}
end
end S
namespace S
open PySem PySem.Spec PyProof.Rows L2
variable [Wd]
inductive DSd (K : PySem.W.Frag) (H : Hp) (a : Addr) (y v : V) (Q : V -> Hp -> Prop) : Prop
  | old {xs : List (NestedKey × Addr × V)} {b : Addr} {k : NestedKey} {u : V} : H a = some (dcN a xs) -> vB' K H xs -> y = .ref b -> NkV K H (.ref b) k -> k.depth <= 8 -> valV (xsV xs) k = some u -> xs.length <= sizeLine -> Q u H -> DSd K H a y v Q
  | new {xs : List (NestedKey × Addr × V)} {b : Addr} {k : NestedKey} : H a = some (dcN a xs) -> vB' K H xs -> y = .ref b -> NkV K H (.ref b) k -> k.depth <= 8 -> valV (xsV xs) k = none -> (vp' xs k b v).length <= sizeLine -> Q v (upd H a (dcN a (vp' xs k b v))) -> DSd K H a y v Q
  | fst {b : Addr} {k : NestedKey} : H a = some (dcL a []) -> y = .ref b -> NkV K H (.ref b) k -> k.depth <= 8 -> Q v (upd H a (dcN a [(k, b, v)])) -> DSd K H a y v Q
section
variable {X : Cx} {pins : List (Addr × Obj)} {σ : St} {H : Hp} {s : Shared} {a : Addr} {y : V} {u : Value} {A : Around} {E : Value -> Shared -> Prop}
end
section
variable [Hot] {X : Cx} {W : WX} {o : Expr}
end
end S
namespace PySem.W
open Spec PyProof PyProof.Rows
section
variable {prog : Program} {w : World} {A A₀ : Around} {E : Value -> Shared -> Prop} {s : Shared} {K : Frag} {x y C C' L f : Addr} {h₀ : Heap} {m : Str -> Option Value} {ox oy : Obj} {od od' : Option Obj} {b tb : Value}
end
end PySem.W
namespace S
open PySem PySem.Spec PyProof.Rows L2
variable [Wd] [Hot]
local macro_rules | `(tactic| walk_at "parts") => `(tactic| (constructor; (intro e h; simp only [List.mem_append, List.mem_cons, List.not_mem_nil] at *; grind); (intro x; simp only [keys, List.map_append, List.map_cons, List.map_nil, List.count_append, List.count_cons, List.count_nil] at *; omega)))
section
variable {K : PySem.W.Frag} {σ : St} {H : Hp} {Q : VK} {W : WX}
end
section
variable {X : Cx} {W : WX} {pos p : Pos} {a b e : Expr} {ma mb : M.ME} {k : Nat} {args : List Str} {mf : M.MF}
end
end S
namespace S
open PySem PySem.Spec PyProof.Rows L2
local macro_rules | `(tactic| walk_at "parts") => `(tactic| (constructor; (intro e h; simp only [List.mem_append, List.mem_cons, List.not_mem_nil] at *; grind); (intro x; simp only [keys, List.map_append, List.map_cons, List.map_nil, List.count_append, List.count_cons, List.count_nil] at *; omega)))
section
variable [Wd]
variable {K : PySem.W.Frag} {F H G : Hp} {T T' : List Addr}
mutual
/-- data hangs on no object of the world -/
theorem Fz.noT : ∀ {v : V} {d : M.D}, Fz K F T v d -> M.dat d = true -> Fz K F T' v d
  | _, _, .non, _ => .non
  | _, _, .bl b, _ => .bl b
  | _, _, .int i, _ => .int i
  | _, _, .str h, _ => .str h
  | _, _, .tup h r, e => .tup h (FzA.noT r e)
  | _, _, .lst h r, e => .lst h (FzA.noT r e)
  | _, _, .dct _ _ _, e => by cases e
  | _, _, .dcl _ _ _, e => by cases e
  | _, _, .dcn _ _ _ _, e => by cases e
  | _, _, .rep _, e => by cases e
  | _, _, .obj _, e => by cases e
  | _, _, .ty _, e => by cases e
  | _, _, .fn _, e => by cases e
  | _, _, .scr _ _, e => by cases e
theorem FzA.noT : ∀ {vs : List V} {ds : List M.D}, FzA K F T vs ds -> M.dats ds = true -> FzA K F T' vs ds
  | _, _, .nil, _ => .nil
  | _, _, .cons h r, e => by
    obtain ⟨e1, e2⟩ := Bool.and_eq_true_iff.mp (show (M.dat _ && M.dats _) = true from e)
    exact .cons (Fz.noT h e1) (FzA.noT r e2)
end
end
section
variable [Wd]
variable {K : PySem.W.Frag} {F H G : Hp} {T T' : List Addr}
mutual
theorem mV' : ∀ {o : M.O}, M.okO o = true -> M.dat (M.frz o) = true
  | .fz d, h => h
  | .lst os, h => okOs_dats (os := os) h
  | .tup os, h => okOs_dats (os := os) h
  | .dct _ _, h => by cases h
  | .dcx _ _, h => by cases h
  | .exn, h => by cases h
  | .clo, h => by cases h
theorem okOs_dats : ∀ {os : List M.O}, M.okOs os = true -> M.dats (M.frzs os) = true
  | [], _ => rfl
  | o :: r, h => by
    obtain ⟨e1, e2⟩ := Bool.and_eq_true_iff.mp (show (M.okO o && M.okOs r) = true from h)
    exact Bool.and_eq_true_iff.mpr ⟨mV' e1, okOs_dats e2⟩
end
def NoD (fp : Fp) : Prop := ∀ e ∈ fp, (∀ kvs, e.2 ≠ .dK kvs) /\ (∀ φ, e.2 ≠ .ext φ) /\ ∀ od u, e.2 ≠ .frz od u
theorem NoD.app {a b : Fp} (h : NoD a) (g : NoD b) : NoD (a ++ b) := fun e he => (List.mem_append.mp he).elim (h e) (g e)
mutual
theorem Rp.noD : ∀ {v : V} {o : M.O} {fp : Fp}, Rp K F T v o fp -> M.okO o = true -> NoD fp
  | _, _, _, .fz _, _ => nofun
  | _, _, _, .lst r, h => fun e he => by
    rcases List.mem_cons.mp he with rfl | he
    . exact ⟨(fun _ q => nomatch q), (fun _ q => nomatch q), fun _ _ q => nomatch q⟩
    . exact RpA.noD r h e he
  | _, _, _, .tup r, h => fun e he => by
    rcases List.mem_cons.mp he with rfl | he
    . exact ⟨(fun _ q => nomatch q), (fun _ q => nomatch q), fun _ _ q => nomatch q⟩
    . exact RpA.noD r h e he
  | _, _, _, .dct _ _, h => by cases h
  | _, _, _, .dcl _ _, h => by cases h
  | _, _, _, .dcn _ _ _, h => by cases h
theorem RpA.noD : ∀ {vs : List V} {os : List M.O} {fp : Fp}, RpA K F T vs os fp -> M.okOs os = true -> NoD fp
  | _, _, _, .nil, _ => nofun
  | _, o :: os, _, .cons h r, e => by
    obtain ⟨e1, e2⟩ := Bool.and_eq_true_iff.mp (show (M.okO o && M.okOs os) = true from e)
    exact (Rp.noD h e1).app (RpA.noD r e2)
end
structure Split (C A B : Fp) : Prop where
  mem : ∀ e, e ∈ C ↔ e ∈ A \/ e ∈ B
  cnt : ∀ x, (keys C).count x = (keys A).count x + (keys B).count x
theorem RpE.lent [Hot] {σ : St} {env : List (Option M.O)} {fe : Fp} (re : RpE K F T σ env fe) : ∀ m : List Bool, M.okM m env = true →
    ∃ A B, Split fe A B /\ NoD A /\ ∀ G, Same F G -> (∀ e ∈ A, G e.1 = some e.2) -> RpE K G [] σ (M.dP' m env) [] := by
  induction re with
  | nil => exact fun m _ => ⟨[], [], ⟨by simp, by simp [keys]⟩, nofun, fun G _ _ => by
      cases m with
      | nil => exact .nil
      | cons b m => exact .nil⟩
  | @off x σ env fp r ih =>
    intro m hm
    cases m with
    | nil =>
      obtain ⟨A, B, h1, h2, h3⟩ := ih [] (by cases env <;> rfl)
      exact ⟨A, B, h1, h2, fun G s g => .off (h3 G s g)⟩
    | cons b m =>
      cases b with
      | false =>
        obtain ⟨A, B, h1, h2, h3⟩ := ih m hm
        exact ⟨A, B, h1, h2, fun G s g => .off (h3 G s g)⟩
      | true => cases hm
  | @on v o σ env fp fq q r ih =>
    intro m hm
    cases m with
    | nil =>
      obtain ⟨A, B, h1, h2, h3⟩ := ih [] (by cases env <;> rfl)
      exact ⟨A, fp ++ B, ⟨fun e => by simp only [List.mem_append, h1.mem]; grind, fun x => by have := h1.cnt x; simp only [keys, List.map_append, List.count_append] at *; omega⟩, h2, fun G s g => .off (h3 G s g)⟩
    | cons b m =>
      cases b with
      | false =>
        obtain ⟨A, B, h1, h2, h3⟩ := ih m hm
        exact ⟨A, fp ++ B, ⟨fun e => by simp only [List.mem_append, h1.mem]; grind, fun x => by have := h1.cnt x; simp only [keys, List.map_append, List.count_append] at *; omega⟩, h2, fun G s g => .off (h3 G s g)⟩
      | true =>
        obtain ⟨e1, e2⟩ := Bool.and_eq_true_iff.mp (show (M.okO o && M.okM m env) = true from hm)
        obtain ⟨A, B, h1, h2, h3⟩ := ih m e2
        refine ⟨fp ++ A, B, ⟨fun e => by simp only [List.mem_append, h1.mem]; grind, fun x => by have := h1.cnt x; simp only [keys, List.map_append, List.count_append] at *; omega⟩, (q.noD e1).app h2, fun G s g => ?_⟩
        have z := (q.freeze s fun e he => g e (List.mem_append_left _ he)).noT (T' := []) (mV' e1)
        exact RpE.on (fp := []) (fq := []) (.fz z) (h3 G s fun e he => g e (List.mem_append_right _ he))
  | @hot a dd x σ env fp hh z r ih =>
    intro m hm
    cases m with
    | nil =>
      obtain ⟨A, B, h1, h2, h3⟩ := ih [] (by cases env <;> rfl)
      exact ⟨A, B, h1, h2, fun G s g => .off (h3 G s g)⟩
    | cons b m =>
      cases b with
      | false =>
        obtain ⟨A, B, h1, h2, h3⟩ := ih m hm
        exact ⟨A, B, h1, h2, fun G s g => .off (h3 G s g)⟩
      | true => cases hm
  | @clo c σ env fp hh z r ih =>
    intro m hm
    cases m with
    | nil =>
      obtain ⟨A, B, h1, h2, h3⟩ := ih [] (by cases env <;> rfl)
      exact ⟨A, B, h1, h2, fun G s g => .off (h3 G s g)⟩
    | cons b m =>
      cases b with
      | false =>
        obtain ⟨A, B, h1, h2, h3⟩ := ih m hm
        exact ⟨A, B, h1, h2, fun G s g => .off (h3 G s g)⟩
      | true => cases hm
end
section
variable [Wd] [Hot] {X : Cx} {W : WX} {a b e : Expr} {ma mb me : M.ME} {p p2 pos pos2 : Pos}
theorem Rel.lend {K : PySem.W.Frag} {ρ : M.PSt} {σ : St} {H F : Hp} {T : List Addr} {fr : Fp} {m : List Bool} (rel : Rel K ρ σ H F T fr) (hm : M.okM m ρ.env = true) :
    ∃ G frB, Rel K ⟨M.dP' m ρ.env, []⟩ σ H G [] frB /\ ∀ ρ' H' F' T', Ext G [] F' T' -> Rel K ρ' σ H' F' T' frB -> ∃ F3, Ext F T F3 T /\ Rel K ρ σ H' F3 T fr := by
  obtain ⟨fe, fw, re, rw, f⟩ := rel
  obtain ⟨A, B, h1, h2, h3⟩ := re.lent m hm
  have h1' := h1
  have h2' := h2
  have f' : FpH F H (A ++ (B ++ (fw ++ fr))) := f.part ⟨fun e he => by
    have := h1.mem e
    simp only [List.mem_append] at *
    grind, fun x => by
    have := h1.cnt x
    simp only [keys, List.map_append, List.count_append] at *
    omega⟩
  have s : Same F (iH' F A) := cB' fun e he => (f'.at_ e (List.mem_append_left _ he)).2
  have nd : (keys A).Nodup := by
    have nd : (keys A ++ keys (B ++ (fw ++ fr))).Nodup := by rw [<- List.map_append]; exact f'.nd
    exact (List.nodup_append.mp nd).1
  have hG : ∀ e ∈ A, iH' F A e.1 = some e.2 := fun e he => cJ' nd e he
  have re2 := h3 _ s hG
  refine ⟨iH' F A, B ++ (fw ++ fr), ⟨[], [], re2, .nil, f'.freeze⟩, ?_⟩
  rintro ρ' H' F' T' e1 ⟨fe2, fw2, _, _, g⟩
  have gB : ∀ e ∈ B ++ (fw ++ fr), H' e.1 = some e.2 /\ F' e.1 = none := fun e he => g.at_ e (by simp only [List.mem_append] at *; grind)
  have gA : ∀ e ∈ A, H' e.1 = some e.2 := fun e he => g.low _ _ (e1.f.at_ (hG e he) (h2 e he).1 (h2 e he).2.1)
  let F3 : Hp := fun a => if a ∈ keys A then none else F' a
  have wk : Wk F F3 := fun a o ha => by
    have hn : a ∉ keys A := fun hin => by
      obtain ⟨e, he, rfl⟩ := List.mem_map.mp hin
      rw [(f'.at_ e (List.mem_append_left _ he)).2] at ha
      cases ha
    have := e1.f a o (s a o ha)
    show (if a ∈ keys A then none else F' a) = some o \/ Lkb o /\ ∃ od, (if a ∈ keys A then none else F' a) = some (.frz od o)
    rw [if_neg hn]
    exact this
  have ext : Ext F T F3 T := ⟨wk, List.prefix_refl _⟩
  refine ⟨F3, ext, fe, fw, re.mono ext, rw.mono ext, fun a o ha => ?_, fun e he => ?_, f.nd, g.tbs (fun a h1 h2 h3 => ?_) fun c q hc => ?_⟩
  rotate_left 3
  . have nc : c ∉ keys A := fun hin => by
      obtain ⟨e, he, ec⟩ := List.mem_map.mp hin
      have := e1.f.at_ (hG e he) (h2' e he).1 (h2' e he).2.1
      rw [ec] at this
      rcases hc with hc | ⟨o, hc⟩
      . rw [this] at hc
        exact (h2' e he).2.1 _ (Option.some.inj hc)
      . rw [this] at hc
        exact (h2' e he).2.2 _ _ (Option.some.inj hc)
    show (if c ∈ keys A then none else F' c) = _ \/ ∃ od, (if c ∈ keys A then none else F' c) = _
    rw [if_neg nc]
    exact hc
  . have ha : (if a ∈ keys A then none else F' a) = some o := ha
    split at ha
    . cases ha
    . exact g.low _ _ ha
  . have hab : e ∈ A \/ e ∈ B ++ (fw ++ fr) := by
      have := h1.mem e
      simp only [List.mem_append] at *
      grind
    show H' e.1 = some e.2 /\ (if e.1 ∈ keys A then none else F' e.1) = none
    rcases hab with ha | hb
    . exact ⟨gA e ha, if_pos (List.mem_map_of_mem ha)⟩
    . refine ⟨(gB e hb).1, ?_⟩
      split
      . rfl
      . exact (gB e hb).2
  . refine ⟨?_, rfl, fun e he z => ?_⟩
    . show (if a ∈ keys A then none else F' a) = none
      split
      . rfl
      . exact h1
    . have hab : e ∈ A \/ e ∈ B ++ (fw ++ fr) := by
        have := h1'.mem e
        simp only [List.mem_append] at *
        grind
      rcases hab with ha | hb
      . have := e1.f.at_ (hG e ha) (h2' e ha).1 (h2' e ha).2.1
        rw [z, h1] at this
        cases this
      . exact h3 e (by simp only [List.mem_append] at *; grind) z
theorem nL' {K : PySem.W.Frag} {σ : St} {H : Hp} {Q : Bool -> Hp -> Prop} {m : List Bool} {mt : M.MT} (h : qT K W (M.qN' m mt) σ H Q) : qT K W mt σ H Q := by
  obtain ⟨ρ, F, T, fr, rel, h⟩ := h
  unfold M.qN' at h
  split at h
  . rename_i hm
    obtain ⟨G, frB, r, back⟩ := rel.lend hm
    refine ⟨⟨M.dP' m ρ.env, []⟩, G, [], frB, r, ?_⟩
    cases em : mt ⟨M.dP' m ρ.env, []⟩ with
    | bad => rw [em] at h; exact h.elim
    | exc x ρ' => rw [em] at h; exact h.elim
    | ok d ρ' =>
      rw [em] at h
      intro H' F' T' e1 r'
      obtain ⟨F3, ext, r3⟩ := back ρ' H' F' T' e1 r'
      exact h H' F3 T ext r3
  . exact h.elim
theorem s8' {mt : M.MT} (m : List Bool) (he : ST X W e mt) : ST X W e (M.qN' m mt) := PT.imp he fun _ _ _ h => nL' h
variable {es : List Expr} {mo : M.MO} {moa : M.MOA}
end
section
variable [Wd] {X : Cx} {W : WX} {a b : Expr} {ma mb : M.ME} {p p2 pos pos2 : Pos}
end
end S
namespace PySem.W
open PySem PySem.Spec PySem.Calls PyProof PyProof.Rows
section
variable {x t : Value} {P : Heap -> Prop}
end
end PySem.W
namespace L2
open PySem PySem.Spec PyProof.Rows
end L2
namespace S
open PySem PySem.Spec PyProof.Rows L2
variable [Wd] {X : Cx} {W : WX} {pos p : Pos} {a b : Expr}
end S
namespace S
open PySem PySem.Spec PyProof.Rows L2
variable [Wd] [Hot]
local macro_rules | `(tactic| walk_at "parts") => `(tactic| (constructor; (intro e h; simp only [List.mem_append, List.mem_cons, List.not_mem_nil] at *; grind); (intro x; simp only [keys, List.map_append, List.map_cons, List.map_nil, List.count_append, List.count_cons, List.count_nil] at *; omega)))
section
variable {K : PySem.W.Frag} {F H : Hp} {T : List Addr} {fp fr : Fp} {ρ : M.PSt} {σ : St}
theorem RpA.named {f : String} {o : M.O} : ∀ {fv : List (String × V)} {os : List M.O} {fp : Fp}, RpA K F T (fv.map (·.2)) os fp -> ((fv.map (·.1)).zip os).lookup f = some o →
    ∃ v f1 f2 f3, fv.lookup f = some v /\ fp = f1 ++ (f2 ++ f3) /\ Rp K F T v o f2 /\ ∀ o' f2', Rp K F T v o' f2' -> ∃ os', RpA K F T (fv.map (·.2)) os' (f1 ++ (f2' ++ f3)) /\ M.nW' f o' ((fv.map (·.1)).zip os) = (fv.map (·.1)).zip os'
  | [], _, _, r, h => by cases r; cases h
  | (g, v) :: fv, _, _, r, h => by
    cases r with
    | @cons _ _ o1 os fa fb r0 r =>
      by_cases e : f = g
      . subst e
        have h : some o1 = some o := by rw [<- h, List.map_cons, List.zip_cons_cons, List.lookup_cons_self]
        cases h
        refine ⟨v, [], fa, fb, List.lookup_cons_self, rfl, r0, fun o' f2' q => ⟨o' :: os, (RpA.cons q r : RpA K F T _ _ (f2' ++ fb)), ?_⟩⟩
        rw [List.map_cons, List.zip_cons_cons, List.zip_cons_cons]
        exact if_pos rfl
      . have h1 : (f == g) = false := by simpa using e
        have h : ((fv.map (·.1)).zip os).lookup f = some o := by
          rw [<- h, List.map_cons, List.zip_cons_cons]
          simp only [List.lookup, h1]
        obtain ⟨v', f1, f2, f3, e1, e2, e3, e4⟩ := RpA.named r h
        refine ⟨v', fa ++ f1, f2, f3, by simp only [List.lookup, h1]; exact e1, by rw [e2, List.append_assoc], e3, fun o' f2' q => ?_⟩
        obtain ⟨os', q1, q2⟩ := e4 o' f2' q
        refine ⟨o1 :: os', by rw [List.append_assoc]; exact .cons r0 q1, ?_⟩
        rw [List.map_cons, List.zip_cons_cons, List.zip_cons_cons]
        show (if g = f then _ else _) = _
        rw [if_neg (fun z => e z.symm), q2]
end
section
variable {X : Cx} {W : WX} {pos apos cpos tpos p2 : Pos} {a b e k value : Expr} {ma mk mv : M.ME}
end
end S
namespace S
open PySem PySem.Spec PyProof.Rows L2
variable [Wd] [Hot]
section
variable {K : PySem.W.Frag}
end
end S
namespace S
open PySem PySem.Spec PyProof.Rows L2
variable [Wd] [Hot]
section
variable {X : Cx} {W : WX} {K : PySem.W.Frag} {a b : Expr} {ma mb : M.ME} {pos p apos : Pos} {x : Str}
end
end S
namespace S
open PySem PySem.Spec PyProof.Rows L2
variable [Wd] [Hot]
section
variable {X : Cx} {tg e : Expr} {td : TE}
end
section
variable {K : PySem.W.Frag} {F : Hp} {T : List Addr}
end
section
variable {X : Cx} {W : WX} {tg a : Expr} {ma : M.ME}
end
end S
namespace S
open PySem PySem.Spec PyProof.Rows L2
variable [Wd]
section
variable {K : PySem.W.Frag}
end
variable [Hot]
section
variable {X : Cx} {W : WX} {pos cpos apos spos ipos epos : Pos}
end
end S
namespace S
open PySem PySem.Spec PyProof.Rows L2
variable [Wd]
inductive CodeMade (Ck : Addr -> Prop) (H : Hp) (P : Addr) (q : Str) (c : Addr) : Hp -> Prop
  | told : Ck c -> CodeMade Ck H P q c H
  | fresh {ps ps' : Array Value} : H c = none -> H P = some (.tbl ps) -> TriplesOk ps'.toList -> (∀ (pos : Pos) (cv : Value), codeAmong pos ps'.toList = some cv -> codeAmong pos ps.toList = some cv \/ cv = .ref c) →
      CodeMade Ck H P q c (upd (upd H P (.tbl ps')) c (LamX.CodeO c q))
section
variable {X : Cx} {pins : List (Addr × Obj)} {σ : L2.St} {H : Hp} {s : Shared}
end
end S
namespace S
open PySem PySem.Spec PyProof.Rows L2
end S
namespace S
open PySem PySem.Spec PyProof.Rows L2
variable [Wd]
end S
namespace S
open PySem PySem.Spec PyProof.Rows L2
section
variable {P : Program} {w : World} {K : PySem.W.Frag} {mg mb : Str -> Option Value} {CX : CXT} {k : Nat} {fa a : Addr} {fd : FuncData} {x : Str} {sp : Sp} {s : Shared} {vs : List Value} {n0 : Nat} {H : Hp} {cs : List (Addr × Addr)}
end
end S
namespace S
open PySem PySem.Spec PyProof.Rows L2
variable [Wd] [Hot]
section
variable {X : Cx} {W : WX} {pos apos tpos p2 : Pos} {a value : Expr} {ma mv : M.ME} {t : Str} {j2 : Nat} {s : M.Tx}
end
end S
namespace S
open PySem PySem.Spec PyProof.Rows PySem.W
section
variable {prog : Program} {w : World} {A : Around} {E : Value -> Shared -> Prop} {s : Shared}
end
section
open L2
variable {X : Cx}
end
section
open L2
variable {X : Cx} {e : Expr} {te : TE} {p apos cpos pos : Pos} {sn : Str}
end
section
open L2
variable [Wd] [Hot]
end
section
open L2
variable [Wd] [Hot]
end
section
open L2
variable [Wd] [Hot] {X : Cx} {W : WX} {a : Expr} {ma : M.ME} {p apos iapos cpos pos : Pos} {sn : Str}
end
end S
namespace S
open PySem PySem.Spec PyProof.Rows L2
local macro_rules | `(tactic| walk_at "parts") => `(tactic| (constructor; (intro e h; simp only [List.mem_append, List.mem_cons, List.not_mem_nil] at *; grind); (intro x; simp only [keys, List.map_append, List.map_cons, List.map_nil, List.count_append, List.count_cons, List.count_nil] at *; omega)))
section
variable [Wd]
variable {K : PySem.W.Frag} {F H G : Hp} {T T' : List Addr}
def Drp (kl kd : Bool) (F G : Hp) : Prop := ∀ a o, F a = some o -> G a = some o \/ (kl = true /\ ∃ vs, o = .lst vs) \/ (kd = true /\ ∃ od kvs, o = .frz od (.dK kvs))
theorem Drp.keep {kl kd : Bool} (s : Drp kl kd F G) {a : Addr} {o : HO} (h : F a = some o) (n1 : ∀ vs, o ≠ .lst vs) (n2 : ∀ od kvs, o ≠ .frz od (.dK kvs)) : G a = some o := by
  rcases s a o h with h | ⟨_, vs, e⟩ | ⟨_, od, kvs, e⟩
  . exact h
  . exact absurd e (n1 vs)
  . exact absurd e (n2 od kvs)
theorem Drp.seqT {kl kd : Bool} (s : Drp kl kd F G) {a : Addr} {xs : List V} (h : SqT K F a xs) : SqT K G a xs := by
  rcases h with (h | ⟨o, h⟩) | h
  . exact .inl (.inl (s.keep h (fun _ z => nomatch z) fun _ _ z => nomatch z))
  . exact .inl (.inr ⟨o, s.keep h (fun _ z => nomatch z) fun _ _ z => nomatch z⟩)
  . exact .inr h
theorem Drp.lst {kd : Bool} (s : Drp false kd F G) {a : Addr} {vs : List V} (h : F a = some (.lst vs)) : G a = some (.lst vs) := by
  rcases s a _ h with h | ⟨z, _⟩ | ⟨_, od, kvs, e⟩
  . exact h
  . cases z
  . cases e
theorem Drp.seqL {kd : Bool} (s : Drp false kd F G) {a : Addr} {xs : List V} (h : SqL K F a xs) : SqL K G a xs := by
  rcases h with (h | ⟨o, h⟩) | h
  . exact .inl (.inl (s.lst h))
  . exact .inl (.inr ⟨o, s.keep h (fun _ z => nomatch z) fun _ _ z => nomatch z⟩)
  . exact .inr h
theorem Drp.dict {kl : Bool} (s : Drp kl false F G) {a : Addr} {kvs : List (Key × V)} (h : Rd F a (.dK kvs)) : Rd G a (.dK kvs) := by
  rcases h with h | ⟨o, h⟩
  . exact .inl (s.keep h (fun _ z => nomatch z) fun _ _ z => nomatch z)
  . rcases s a _ h with h | ⟨_, _, e⟩ | ⟨z, _⟩
    . exact .inr ⟨o, h⟩
    . cases e
    . cases z
theorem Drp.ext {kl kd : Bool} (s : Drp kl kd F G) {a : Addr} {φ : Heap -> Prop} (h : Rd F a (.ext φ)) : Rd G a (.ext φ) := by
  rcases h with h | ⟨o, h⟩
  . exact .inl (s.keep h (fun _ z => nomatch z) fun _ _ z => nomatch z)
  . exact .inr ⟨o, s.keep h (fun _ z => nomatch z) fun _ _ z => nomatch z⟩
theorem fX' {a b : Bool} (h : (a && b) = true) : a = true /\ b = true := Bool.and_eq_true_iff.mp h
mutual
theorem Fz.dropd {kl kd : Bool} (s : Drp kl kd F G) : ∀ {v : V} {d : M.D}, Fz K F T v d -> M.vx' kl kd d = true -> Fz K G T v d
  | _, _, .non, _ => .non
  | _, _, .bl b, _ => .bl b
  | _, _, .int i, _ => .int i
  | _, _, .str h, _ => .str h
  | _, _, .tup h r, e => .tup (s.seqT h) (FzA.dropd s r e)
  | _, _, .lst h r, e => by
    obtain ⟨e1, e2⟩ := fX' (show (!kl && M.nodDs kl kd _) = true from e)
    cases kl with
    | true => cases e1
    | false => exact .lst (s.lst h) (FzA.dropd s r e2)
  | _, _, .dct h k r, e => by
    obtain ⟨e1, e2⟩ := fX' (show (!kd && M.nodDs kl kd _) = true from e)
    cases kd with
    | true => cases e1
    | false => exact .dct (s.dict h) k (FzA.dropd s r e2)
  | _, _, .dcl h k r, e => by
    obtain ⟨e1, e2⟩ := fX' (show (M.nodDs kl kd _ && M.nodDs kl kd _) = true from e)
    exact .dcl (s.ext h) k (FzA.dropd s r e2)
  | _, _, .dcn h k q r, e => by
    obtain ⟨e1, e2⟩ := fX' (show (M.nodDs kl kd _ && M.nodDs kl kd _) = true from e)
    exact .dcn (s.ext h) k (FzA.dropd s q e1) (FzA.dropd s r e2)
  | _, _, .rep d, _ => .rep d
  | _, _, .obj h, _ => .obj h
  | _, _, .ty n, _ => .ty n
  | _, _, .fn x, _ => .fn x
  | _, _, .scr h r, e => by
    obtain ⟨e1, e2⟩ := fX' (show (!kl && M.nodDs kl kd _) = true from e)
    cases kl with
    | true => cases e1
    | false => exact .scr (s.seqL h) (FzA.dropd s r e2)
theorem FzA.dropd {kl kd : Bool} (s : Drp kl kd F G) : ∀ {vs : List V} {ds : List M.D}, FzA K F T vs ds -> M.nodDs kl kd ds = true -> FzA K G T vs ds
  | _, _, .nil, _ => .nil
  | _, _, .cons h r, e => by
    obtain ⟨e1, e2⟩ := fX' (show (M.vx' kl kd _ && M.nodDs kl kd _) = true from e)
    exact .cons (Fz.dropd s h e1) (FzA.dropd s r e2)
end
mutual
theorem Rp.dropd {kl kd : Bool} (s : Drp kl kd F G) : ∀ {v : V} {o : M.O} {fp : Fp}, Rp K F T v o fp -> M.m0' kl kd o = true -> Rp K G T v o fp
  | _, _, _, .fz h, e => .fz (h.dropd s e)
  | _, _, _, .lst r, e => .lst (RpA.dropd s r e)
  | _, _, _, .tup r, e => .tup (RpA.dropd s r e)
  | _, _, _, .dct k r, e => .dct k (RpA.dropd s r e)
  | _, _, _, .dcl k r, e => .dcl k (RpA.dropd s r (fX' (show (M.nodDs kl kd _ && M.nodOs kl kd _) = true from e)).2)
  | _, _, _, .dcn k q r, e => .dcn k (q.dropd s (fX' (show (M.nodDs kl kd _ && M.nodOs kl kd _) = true from e)).1) (RpA.dropd s r (fX' (show (M.nodDs kl kd _ && M.nodOs kl kd _) = true from e)).2)
theorem RpA.dropd {kl kd : Bool} (s : Drp kl kd F G) : ∀ {vs : List V} {os : List M.O} {fp : Fp}, RpA K F T vs os fp -> M.nodOs kl kd os = true -> RpA K G T vs os fp
  | _, _, _, .nil, _ => .nil
  | _, _, _, .cons h r, e => by
    obtain ⟨e1, e2⟩ := fX' (show (M.m0' kl kd _ && M.nodOs kl kd _) = true from e)
    exact .cons (Rp.dropd s h e1) (RpA.dropd s r e2)
end
theorem k7' {α β : Type} : ∀ {as : List α} {bs : List β}, as.length = bs.length -> (as.zip bs).map (·.2) = bs
  | [], [], _ => rfl
  | a :: as, b :: bs, h => congrArg (b :: ·) (k7' (Nat.succ.inj h))
  | [], _ :: _, h => by cases h
  | _ :: _, [], h => by cases h
theorem RpOb.dropd [Hot] {kl kd : Bool} (s : Drp kl kd F G) {a : Addr} {ob : M.Ob} {fp : Fp} (h : RpOb K F T a ob fp) (e : M.eJ' kl kd ob = true) : RpOb K G T a ob fp := by
  cases h with
  | lst r => exact .lst (r.dropd s e)
  | dct k r => exact .dct k (r.dropd s e)
  | dcl k r => exact .dcl k (r.dropd s (fX' (show (M.nodDs kl kd _ && M.nodOs kl kd _) = true from e)).2)
  | dcn k q r => exact .dcn k (q.dropd s (fX' (show (M.nodDs kl kd _ && M.nodOs kl kd _) = true from e)).1) (r.dropd s (fX' (show (M.nodDs kl kd _ && M.nodOs kl kd _) = true from e)).2)
  | ins d r =>
    rename_i dx C fs os fp
    refine .ins (s.keep d (fun _ z => nomatch z) fun _ _ z => nomatch z) (r.dropd s ?_)
    have e' : M.nodOs kl kd (((fs.map (·.1)).zip os).map (·.2)) = true := e
    rw [k7' (by rw [List.length_map, <- r.length, List.length_map])] at e'
    exact e'
theorem RpW.dropd [Hot] {kl kd : Bool} (s : Drp kl kd F G) {l : List Addr} {w : M.W} {fp : Fp} (h : RpW K F T l w fp) (e : M.gN' kl kd w = true) : RpW K G T l w fp := by
  induction h with
  | nil => exact .nil
  | cons r _ ih =>
    obtain ⟨e1, e2⟩ := fX' (show (M.eJ' kl kd _ && M.gN' kl kd _) = true from e)
    exact .cons (r.dropd s e1) (ih e2)
def Lnt (kl kd : Bool) (o : HO) : Prop := (kl = true /\ ∃ vs, o = .lst vs) \/ (kd = true /\ ∃ kvs, o = .dK kvs)
def xO' (G : Hp) (e : Addr × HO) : Prop := G e.1 = some e.2 \/ ∃ od kvs, e.2 = .dK kvs /\ G e.1 = some (.frz od e.2)
theorem RpA.allFz {vs : List V} {os : List M.O} {fp : Fp} (r : RpA K F T vs os fp) (h : os.all M.nY' = true) : fp = [] /\ FzA K F T vs (M.frzs os) := by
  induction vs generalizing os fp with
  | nil => cases r; exact ⟨rfl, .nil⟩
  | cons v vs ih =>
    cases r with
    | @cons _ _ o os fa fb q r =>
      obtain ⟨h1, h2⟩ := fX' (show (M.nY' o && os.all M.nY') = true from h)
      obtain ⟨rfl, z⟩ := ih r h2
      cases o <;> try (cases h1; done)
      cases q with
      | fz q => exact ⟨rfl, .cons q z⟩
theorem Rp.lendO {kl kd : Bool} {v : V} {o : M.O} {fp : Fp} (q : Rp K F T v o fp) (h : M.lendO kl kd o = true) : (∀ e ∈ fp, Lnt kl kd e.2) /\ fp.length = M.vu' o /\ ∀ G, Same F G -> (∀ e ∈ fp, xO' G e) -> Fz K G T v (M.frz o) := by
  cases q with
  | fz z => exact ⟨nofun, rfl, fun G s _ => z.mono (.of s)⟩
  | lst r =>
    obtain ⟨h1, h2⟩ := fX' (show (kl && _) = true from h)
    obtain ⟨rfl, z⟩ := r.allFz h2
    refine ⟨fun e he => ?_, rfl, fun G s g => ?_⟩
    . cases List.mem_singleton.mp he; exact .inl ⟨h1, _, rfl⟩
    . rcases g _ List.mem_cons_self with g | ⟨_, _, g, _⟩
      . exact .lst g (z.mono (.of s))
      . cases g
  | tup r => cases h
  | dct k r =>
    obtain ⟨h1, h2⟩ := fX' (show (kd && _) = true from h)
    obtain ⟨rfl, z⟩ := r.allFz h2
    refine ⟨fun e he => ?_, rfl, fun G s g => ?_⟩
    . cases List.mem_singleton.mp he; exact .inr ⟨h1, _, rfl⟩
    . rcases g _ List.mem_cons_self with g | ⟨od, _, _, g⟩
      . exact .dct (.inl g) k (z.mono (.of s))
      . exact .dct (.inr ⟨od, g⟩) k (z.mono (.of s))
  | dcl k r => cases h
  | dcn k q r => cases h
theorem RpE.lentW [Hot] {kl kd : Bool} {σ : St} {env : List (Option M.O)} {fe : Fp} (re : RpE K F T σ env fe) : ∀ m : List Bool, M.okL kl kd m env = true →
    ∃ A B, Split fe A B /\ (∀ e ∈ A, Lnt kl kd e.2) /\ A.length = M.nE' m env /\ ∀ G, Same F G -> (∀ e ∈ A, xO' G e) -> RpE K G T σ (M.dP' m env) [] := by
  induction re with
  | nil => exact fun m _ => ⟨[], [], ⟨by simp, by simp [keys]⟩, nofun, (by cases m with | nil => rfl | cons b m => cases b <;> rfl), fun G _ _ => by
      cases m with
      | nil => exact .nil
      | cons b m => exact .nil⟩
  | @off x σ env fp r ih =>
    intro m hm
    cases m with
    | nil =>
      obtain ⟨A, B, h1, h2, h4, h3⟩ := ih [] (by cases env <;> rfl)
      exact ⟨A, B, h1, h2, (by rw [h4]; cases env <;> rfl), fun G s g => .off (h3 G s g)⟩
    | cons b m =>
      cases b with
      | false =>
        obtain ⟨A, B, h1, h2, h4, h3⟩ := ih m hm
        exact ⟨A, B, h1, h2, h4, fun G s g => .off (h3 G s g)⟩
      | true => cases hm
  | @on v o σ env fp fq q r ih =>
    intro m hm
    cases m with
    | nil =>
      obtain ⟨A, B, h1, h2, h4, h3⟩ := ih [] (by cases env <;> rfl)
      exact ⟨A, fp ++ B, ⟨fun e => by simp only [List.mem_append, h1.mem]; grind, fun x => by have := h1.cnt x; simp only [keys, List.map_append, List.count_append] at *; omega⟩, h2, (by rw [h4]; cases env <;> rfl), fun G s g => .off (h3 G s g)⟩
    | cons b m =>
      cases b with
      | false =>
        obtain ⟨A, B, h1, h2, h4, h3⟩ := ih m hm
        exact ⟨A, fp ++ B, ⟨fun e => by simp only [List.mem_append, h1.mem]; grind, fun x => by have := h1.cnt x; simp only [keys, List.map_append, List.count_append] at *; omega⟩, h2, h4, fun G s g => .off (h3 G s g)⟩
      | true =>
        obtain ⟨e1, e2⟩ := fX' (show (M.lendO kl kd o && M.okL kl kd m env) = true from hm)
        obtain ⟨A, B, h1, h2, h4, h3⟩ := ih m e2
        obtain ⟨p1, p2, p3⟩ := q.lendO e1
        refine ⟨fp ++ A, B, ⟨fun e => by simp only [List.mem_append, h1.mem]; grind, fun x => by have := h1.cnt x; simp only [keys, List.map_append, List.count_append] at *; omega⟩, fun e he => (List.mem_append.mp he).elim (p1 e) (h2 e), (by rw [List.length_append, p2, h4]; rfl), fun G s g => ?_⟩
        exact RpE.on (fp := []) (fq := []) (.fz (p3 G s fun e he => g e (List.mem_append_left _ he))) (h3 G s fun e he => g e (List.mem_append_right _ he))
  | @hot a dd x σ env fp hh z r ih =>
    intro m hm
    cases m with
    | nil =>
      obtain ⟨A, B, h1, h2, h4, h3⟩ := ih [] (by cases env <;> rfl)
      exact ⟨A, B, h1, h2, (by rw [h4]; cases env <;> rfl), fun G s g => .off (h3 G s g)⟩
    | cons b m =>
      cases b with
      | false =>
        obtain ⟨A, B, h1, h2, h4, h3⟩ := ih m hm
        exact ⟨A, B, h1, h2, h4, fun G s g => .off (h3 G s g)⟩
      | true => cases hm
  | @clo c σ env fp hh z r ih =>
    intro m hm
    cases m with
    | nil =>
      obtain ⟨A, B, h1, h2, h4, h3⟩ := ih [] (by cases env <;> rfl)
      exact ⟨A, B, h1, h2, (by rw [h4]; cases env <;> rfl), fun G s g => .off (h3 G s g)⟩
    | cons b m =>
      cases b with
      | false =>
        obtain ⟨A, B, h1, h2, h4, h3⟩ := ih m hm
        exact ⟨A, B, h1, h2, h4, fun G s g => .off (h3 G s g)⟩
      | true => cases hm
theorem ne' {A B fe fe' fw' fp fr : Fp} {F' H' H2 F3 : Hp} (h1 : Split fe A B) (ndA : (keys A).Nodup) (hF : ∀ a, F3 a = if a ∈ keys A then none else F' a) (hH : ∀ a, a ∉ keys A -> H2 a = H' a)
    (hA : ∀ e ∈ A, H2 e.1 = some e.2) (hA' : ∀ e ∈ A, F' e.1 ≠ none) (hX : ∀ e ∈ A, ∀ φ, ¬ Rd F' e.1 (.ext φ)) (g : FpH F' H' (fe' ++ (fw' ++ (fp ++ (B ++ fr))))) : FpH F3 H2 (fe ++ (fw' ++ (fp ++ fr))) := by
  have gp : FpH F' H' (B ++ (fw' ++ (fp ++ fr))) := g.part (by walk_at "parts")
  have nA : ∀ e ∈ B ++ (fw' ++ (fp ++ fr)), e.1 ∉ keys A := fun e he hin => by
    obtain ⟨x, hx, ex⟩ := List.mem_map.mp hin
    have := hA' x hx
    rw [ex] at this
    exact this (gp.at_ e he).2
  have f2 : FpH F3 H2 (A ++ (B ++ (fw' ++ (fp ++ fr)))) := by
    refine ⟨fun a o ha => ?_, fun e he => ?_, ?_, fun p hp => ?_⟩
    . rw [hF] at ha
      split at ha
      . cases ha
      . rename_i hn
        rw [hH a hn]
        exact g.low _ _ ha
    . rcases List.mem_append.mp he with he | he
      . exact ⟨hA e he, by rw [hF, if_pos (List.mem_map_of_mem he)]⟩
      . have hn := nA e he
        rw [hF, if_neg hn, hH _ hn]
        exact gp.at_ e he
    . rw [List.map_append]
      refine List.nodup_append.mpr ⟨ndA, gp.nd, fun a ha b hb e => ?_⟩
      obtain ⟨x, hx, ex⟩ := List.mem_map.mp hb
      exact nA x hx (by rw [ex, <- e]; exact ha)
    . have t := gp.tb p hp
      have nP : ∀ {a : Addr}, F' a = none -> a ∉ keys A := fun h hin => by
        obtain ⟨x, hx, ex⟩ := List.mem_map.mp hin
        have := hA' x hx
        rw [ex] at this
        exact this h
      have nn : ∀ {a : Addr}, F' a = none -> (∀ e ∈ B ++ (fw' ++ (fp ++ fr)), e.1 ≠ a) -> ∀ e ∈ A ++ (B ++ (fw' ++ (fp ++ fr))), e.1 ≠ a := fun h h3 e he z => by
        rcases List.mem_append.mp he with he | he
        . exact nP h (by rw [<- z]; exact List.mem_map_of_mem he)
        . exact h3 e he z
      obtain ⟨ps, k1, k2, k3⟩ := t.t
      refine ⟨by rw [hF]; split; · rfl
                 . exact t.f, nn t.f t.n, ps, by rw [hH _ (nP t.f)]; exact k1, k2, fun pos cv hc => ?_⟩
      obtain ⟨c, c1, c2⟩ := k3 pos cv hc
      have nc : c ∉ keys A := fun hin => by
        obtain ⟨x, hx, ex⟩ := List.mem_map.mp hin
        exact hX x hx _ (by rw [ex]; exact c2)
      refine ⟨c, c1, ?_⟩
      unfold Rd
      rw [hF, if_neg nc]
      exact c2
  refine f2.part ⟨fun e he => ?_, fun x => ?_⟩
  . have := h1.mem e
    simp only [List.mem_append] at *
    grind
  . have := h1.cnt x
    simp only [keys, List.map_append, List.count_append] at *
    omega
end
section
variable [Wd] [Hot] {X : Cx} {W : WX} {e : Expr} {mo : M.MO}
theorem kH' {K : PySem.W.Frag} {σ : St} {H : Hp} {Q : VK} {m : List Bool} (h : qO K W (M.hY' false m mo) σ H Q) : qO K W mo σ H Q := by
  obtain ⟨ρ, F, T, fr, rel, h⟩ := h
  unfold M.hY' at h
  split at h
  . rename_i hm
    obtain ⟨fe, fw, re, rw, f⟩ := rel
    obtain ⟨A, B, h1, h2, _, h3⟩ := re.lentW (kl := true) (kd := false) m hm.1
    have f' : FpH F H (A ++ (fw ++ (B ++ fr))) := f.part ⟨fun e he => by
      have := h1.mem e
      simp only [List.mem_append] at *
      grind, fun x => by
      have := h1.cnt x
      simp only [keys, List.map_append, List.count_append] at *
      omega⟩
    have s : Same F (iH' F A) := cB' fun e he => (f'.at_ e (List.mem_append_left _ he)).2
    have nd : (keys A).Nodup := by
      have nd : (keys A ++ keys (fw ++ (B ++ fr))).Nodup := by rw [<- List.map_append]; exact f'.nd
      exact (List.nodup_append.mp nd).1
    have hG : ∀ e ∈ A, iH' F A e.1 = some e.2 := fun e he => cJ' nd e he
    have re2 := h3 _ s fun e he => .inl (hG e he)
    refine ⟨⟨M.dP' m ρ.env, ρ.w⟩, iH' F A, T, B ++ fr, ⟨[], fw, re2, rw.mono (.of s), f'.freeze⟩, ?_⟩
    cases em : mo ⟨M.dP' m ρ.env, ρ.w⟩ with
    | bad => rw [em] at h; exact h.elim
    | exc x ρ' => rw [em] at h; exact h.elim
    | ok o ρ' =>
      rw [em] at h
      intro v H' F' T' fp e1 z r'
      simp only at h
      split at h
      . rename_i hs
        obtain ⟨fe2, fw2, _, rw2, g⟩ := r'
        have lA : ∀ e ∈ A, ∃ vs, e.2 = .lst vs := fun e he => by
          rcases h2 e he with ⟨_, q⟩ | ⟨q, _⟩
          . exact q
          . cases q
        have gA : ∀ e ∈ A, F' e.1 = some e.2 := fun e he => by
          obtain ⟨vs, q⟩ := lA e he
          exact e1.f.at_ (hG e he) (fun _ z => by rw [q] at z; cases z) (fun _ z => by rw [q] at z; cases z)
        let F3 : Hp := fun a => if a ∈ keys A then none else F' a
        have dr : Drp true false F' F3 := fun a o ha => by
          by_cases hin : a ∈ keys A
          . obtain ⟨e, he, rfl⟩ := List.mem_map.mp hin
            rw [gA e he] at ha
            cases ha
            exact .inr (.inl ⟨rfl, lA e he⟩)
          . exact .inl ((if_neg hin).trans ha)
        have wk : Wk F F3 := fun a o ha => by
          have hn : a ∉ keys A := fun hin => by
            obtain ⟨e, he, rfl⟩ := List.mem_map.mp hin
            rw [(f'.at_ e (List.mem_append_left _ he)).2] at ha
            cases ha
          have := e1.f a o (s a o ha)
          show (if a ∈ keys A then none else F' a) = some o \/ Lkb o /\ ∃ od, (if a ∈ keys A then none else F' a) = some (.frz od o)
          rw [if_neg hn]
          exact this
        have ext : Ext F T F3 T' := ⟨wk, e1.t⟩
        refine h v H' F3 T' fp ext (z.dropd dr hs.1) ⟨fe, fw2, re.mono ext, rw2.dropd dr hs.2, ?_⟩
        exact ne' h1 nd (fun _ => rfl) (fun _ _ => rfl) (fun e he => g.low _ _ (gA e he)) (fun e he q => by rw [gA e he] at q; cases q) (fun e he φ q => by obtain ⟨vs, ev⟩ := lA e he; rcases q with q | ⟨_, q⟩ <;> rw [gA e he, ev] at q <;> cases q) g
      . exact h.elim
  . exact h.elim
theorem ou' (m : List Bool) (he : SO X W e mo) : SO X W e (M.hY' false m mo) := PE.imp he fun _ _ _ h => kH' h
end
end S
namespace S
open PySem PySem.Spec PyProof.Rows L2
local macro_rules | `(tactic| walk_at "parts") => `(tactic| (constructor; (intro e h; simp only [List.mem_append, List.mem_cons, List.not_mem_nil] at *; grind); (intro x; simp only [keys, List.map_append, List.map_cons, List.map_nil, List.count_append, List.count_cons, List.count_nil] at *; omega)))
variable [Wd] [Hot]
section
variable {K : PySem.W.Frag}
end
section
variable {X : Cx} {W : WX} {a b : Expr} {mb : M.ME} {pos : Pos}
end
end S
namespace S
open PySem PySem.Spec PyProof.Rows L2
local macro_rules | `(tactic| walk_at "parts") => `(tactic| (constructor; (intro e h; simp only [List.mem_append, List.mem_cons, List.not_mem_nil] at *; grind); (intro x; simp only [keys, List.map_append, List.map_cons, List.map_nil, List.count_append, List.count_cons, List.count_nil] at *; omega)))
variable [Wd]
section
variable {X : Cx} {pins : List (Addr × Obj)} {σ : St} {H : Hp} {s : Shared} {a b : Addr} {y d : V} {u r : Value} {ov : Option V} {A : Around} {E : Value -> Shared -> Prop}
end
section
variable [Hot] {X : Cx} {W : WX} {o e f a i k l : Expr} {me mf ma mk ml : M.ME} {pos tpos tpos2 apos cpos : Pos}
end
section
variable {K : PySem.W.Frag}
end
section
variable [Hot]
end
end S
namespace S
open PySem PySem.Spec PyProof.Rows L2
variable [Wd]
end S
namespace S
open PySem PySem.Spec PyProof.Rows L2
variable [Wd] [Hot]
section
variable {X : Cx} {W : WX}
end
end S
namespace S
open PySem PySem.Spec PyProof.Rows L2
local macro_rules | `(tactic| walk_at "parts") => `(tactic| (constructor; (intro e h; simp only [List.mem_append, List.mem_cons, List.not_mem_nil] at *; grind); (intro x; simp only [keys, List.map_append, List.map_cons, List.map_nil, List.count_append, List.count_cons, List.count_nil] at *; omega)))
variable [Wd]
inductive HitsD (K : PySem.W.Frag) (H : Hp) (ls : List (Key × V)) : List (Key × V) -> Bool -> Prop
  | nil : HitsD K H ls [] true
  | miss {p : Key × V} {r : List (Key × V)} : valV ls p.1 = none -> HitsD K H ls (p :: r) false
  | hit {p : Key × V} {u : V} {d e : PyData} {r : List (Key × V)} {b : Bool} : valV ls p.1 = some u -> Dp K H p.2 d -> Dp K H u e -> SeqAt.shaped d = true -> SeqAt.shaped e = true -> HitsD K H ls r b -> HitsD K H ls (p :: r) (PyData.eqv d e && b)
section
variable {X : Cx}
end
section
variable {K : PySem.W.Frag}
end
section
variable {X : Cx} {pins : List (Addr × Obj)} {σ : St} {H : Hp} {s : Shared} {a b : Addr} {y d : V} {u r : Value} {ov : Option V} {A : Around} {E : Value -> Shared -> Prop}
end
section
variable [Hot] {X : Cx} {W : WX} {o e f a i k l : Expr} {me mf ma mk ml : M.ME} {pos tpos tpos2 apos cpos : Pos}
end
end S
namespace S
open PySem PySem.Spec PyProof.Rows L2 PySem.SeqAt
variable [Wd] [Hot]
variable {K : PySem.W.Frag}
end S
namespace S
open PySem PySem.Spec PyProof.Rows L2
local macro_rules | `(tactic| walk_at "parts") => `(tactic| (constructor; (intro e h; simp only [List.mem_append, List.mem_cons, List.not_mem_nil] at *; grind); (intro x; simp only [keys, List.map_append, List.map_cons, List.map_nil, List.count_append, List.count_cons, List.count_nil] at *; omega)))
section
variable [Wd] [Hot] {X : Cx} {W : WX} {pos : Pos}
end
end S
namespace S
open PySem PySem.Spec PyProof.Rows L2
variable [Wd] [Hot]
section
variable {K : PySem.W.Frag} {W : WX} {σ : St} {H : Hp} {D : Ends}
end
section
variable {X : Cx} {W : WX} {pos px ps pr : Pos} {tg c e : Expr} {sl : List Nat} {i : Nat} {nm : Str} {g : M.MG} {t : M.MT} {a : M.MO}
end
section
variable {X : Cx} {W : WX} {apos cpos : Pos} {o e : Expr} {es : List Expr} {x : Str} {as : M.MA}
end
end S
namespace L2
open PySem PySem.Spec PyProof.Rows
structure Lay (X : Cx) (pn : List (Addr × Obj)) (a : Addr) (cls : Value) (d : Option Addr) (σ : St) (H : Hp) (s : Shared) : Prop where
  src : ∃ B z, Inv X pn σ H z /\ (∀ b o, z.heap.get? b = some o -> b ∉ frs X.stack -> B.get? b = some o) /\ z.heap.UpToSlots s.heap /\ HandSPX.FlyingZ B (X.env :: X.outer) a (Zc cls d) s.heap /\ s.os = z.os /\ AllBare s.gens
  na : H a = none
section
variable {X : Cx} {pn : List (Addr × Obj)} {a : Addr} {cls : Value} {d : Option Addr} {σ : St} {H : Hp} {s : Shared}
theorem Lay.inv (y : Lay X pn a cls d σ H s) : Inv X pn σ H s := by
  obtain ⟨⟨B, z, I, h1, h2, h3, h4, h5⟩, -⟩ := y
  exact I.landed h1 h3.1 h2 h4 h5
theorem Lay.held (y : Lay X pn a cls d σ H s) (hf : X.env.frame = some X.env.locals) : ∃ oe, s.heap.get? a = some oe /\ Zc cls d oe /\ (∃ vs, oe.data = .fields vs) /\ Inv (X.suite a ((a, oe) :: (X.pn ++ pn))) [] σ H s := by
  have I := y.inv
  obtain ⟨⟨B, z, -, -, -, fl, -, -⟩, na⟩ := y
  obtain ⟨oe, vs, e1, e2, e3⟩ := fl.there
  have off : a ∉ frs (X.env :: X.outer) := by
    intro m
    obtain ⟨_, o2, e4, no⟩ := fl.2.2.1.mem m
    rw [e1] at e4
    cases e4
    exact no vs e3
  have q1 : a ≠ X.env.locals := by
    intro q
    refine off (List.mem_filterMap.2 ⟨X.env, by simp, ?_⟩)
    rw [hf, q]
  have q2 : a ∉ X.fs := by
    intro m
    obtain ⟨w, m1, m2⟩ := List.mem_filterMap.1 m
    exact off (List.mem_filterMap.2 ⟨w, by simp [m1], m2⟩)
  exact ⟨oe, e1, e2, ⟨vs, e3⟩, I.suite e1 e3 na q1 q2⟩
theorem Lay.cool {M : Model} {A : Around} {E : Value -> Shared -> Prop} {Q : Unit -> Shared -> Prop} (y : Lay X pn a cls d σ H s) (h : ∀ s', Lay X pn a cls d σ H s' -> Q () s') : wpAny M A (setFlight (.ref a) none) Q E s := by
  obtain ⟨⟨B, z, I, h1, h2, h3, h4, h5⟩, na⟩ := y
  exact HandSPX.lands_againZ h3 fun g k1 k2 => h _ ⟨⟨B, z, I, h1, h2.trans k2, k1, h4, h5⟩, na⟩
theorem Lay.out {W : WX} {Q : Flow -> Shared -> Prop} (y : Lay X pn a cls d σ H s) (hs : X.stack = X.env :: X.outer) (hf : X.env.frame = some X.env.locals) (tk : Takes X W) (w : W cls d σ H) : wpAny (model X.prog X.w) X.A (handleBy (.ref a) X.env []) Q X.xe s := by
  obtain ⟨⟨B, z, I, h1, h2, h3, h4, h5⟩, na⟩ := y
  obtain ⟨-, -, -, oe, vs, T, -, -, e1, -, e2, e3, -⟩ := id h3
  refine wpAny_handleBy_nil ?_
  unfold PySem.passOn
  refine wpAny_bind (wpAny_field e1 e2 e3 ?_)
  have nT : (Value.ref T == Value.none) = false := by simp
  rw [nT, if_neg Bool.false_ne_true]
  have up : wpAny (model X.prog X.w) X.A (setFlight (.ref a) X.env.frame) (fun _ r => wpAny (model X.prog X.w) X.A (throw (.ref a) : Sem Flow) Q X.xe r) X.xe s := by
    rw [hf]
    refine HandSPX.setFlight_upZ h3 fun g k1 k2 => wpAny_throw (tk (.ref a) _ ?_)
    refine ⟨a, B, z, pn, σ, H, cls, d, rfl, I, h1, h2.trans k2, ?_, na, h4, h5, w⟩
    rw [hs]
    exact .inr (.inr k1)
  first
    | exact wpAny_bind (wpAny_pure (wpAny_bind up))
    | exact wpAny_bind up
end
def ye' (D : Ends) (i : Nat) : Ends := { nx := fun σ H => D.nx (σ.set i none) H, rt := D.rt, bk := fun σ H => D.bk (σ.set i none) H, ct := fun σ H => D.ct (σ.set i none) H }
def tAs (i : Nat) (ts : Addr -> Value -> Option Addr -> TS) : Addr -> Value -> Option Addr -> TS := fun a cls d D σ H => ts a cls d (ye' D i) (σ.set i (some (.ref a))) H
inductive HdsN (X : Cx) : List ExceptHandler -> List (Value × (Addr -> Value -> Option Addr -> TS)) -> Prop
  | nil : HdsN X [] []
  | plain {x : Str} {c : Value} {ts : Addr -> Value -> Option Addr -> TS} {b : Stmt} {bs : List Stmt} {p q : Pos} {r : List ExceptHandler} {l : List (Value × (Addr -> Value -> Option Addr -> TS))} (hc : Names X x c)
      (h : ∀ (a : Addr) (oe : Obj) (cls : Value) (d : Option Addr) (pn : List (Addr × Obj)), Zc cls d oe -> (∃ vs, oe.data = .fields vs) -> PSs (X.suite a ((a, oe) :: pn)) (b :: bs) (ts a cls d)) : HdsN X r l →
      HdsN X (.ExceptHandler (some (.Name x p)) none (b :: bs) q :: r) ((c, ts) :: l)
  | named {x n : Str} {i : Nat} {c : Value} {ts : Addr -> Value -> Option Addr -> TS} {b : Stmt} {bs : List Stmt} {p q : Pos} {r : List ExceptHandler} {l : List (Value × (Addr -> Value -> Option Addr -> TS))} (hN : X.N.Nodup) (hi : X.N[i]? = some n) (hln : X.env.kindOf n = some .local) (hc : Names X x c)
      (h : ∀ (a : Addr) (oe : Obj) (cls : Value) (d : Option Addr) (pn : List (Addr × Obj)), Zc cls d oe -> (∃ vs, oe.data = .fields vs) -> PSs (X.suite a ((a, oe) :: pn)) (b :: bs) (ts a cls d)) : HdsN X r l →
      HdsN X (.ExceptHandler (some (.Name x p)) (some n) (b :: bs) q :: r) ((c, tAs i ts) :: l)
section
variable {X : Cx} {pn : List (Addr × Obj)} {a : Addr} {cls : Value} {d : Option Addr} {σ : St} {H : Hp} {s : Shared}
theorem Lay.asks {x : Str} {c : Value} {b : Bool} {nm : Option Str} {body : List Stmt} {p q : Pos} {r : List ExceptHandler} {Q : Flow -> Shared -> Prop} (y : Lay X pn a cls d σ H s) (hf : X.env.frame = some X.env.locals) (hc : Names X x c) (hb : PySem.W.exmOne X.K cls c = some b)
    (yes : b = true -> codeAny (model X.prog X.w) (X.A.mark (some (.ref a))) (.handlers (.ref a) [.ExceptHandler none nm body q] X.env) (fun o s₂ => match o with
          | .ok f => (match nm with
            | none => Q f s₂
            | some n => wpAny (model X.prog X.w) X.A (do bindName X.env n .none; unbindBehindTheSuite X.env n q) (fun _ s₃ => Q f s₃) X.xe s₂)
          | .error x => cameBackBy (model X.prog X.w) X.A X.env X.xe x s₂) s)
    (no : b = false -> wpAny (model X.prog X.w) X.A (handleBy (.ref a) X.env r) Q X.xe s) : wpAny (model X.prog X.w) X.A (handleBy (.ref a) X.env (.ExceptHandler (some (.Name x p)) nm body q :: r)) Q X.xe s := by
  obtain ⟨oe, e1, e2, e3, S⟩ := y.held hf
  have I := y.inv
  refine wpAny_handleBy_cons (codeAny_handlers_test ?_) (fun z => by cases z)
  have lt : PySem.W.Looks (model X.prog X.w) s.heap (typeOf (.ref a)) cls := fun A Q E s k q => wpAny_typeOf_ref (k _ _ e1) (by rw [e2.1]; exact q)
  have lm := PySem.W.exm_one (M := model X.prog X.w) I.kIn lt hb
  have ask : ∀ {Q E : Value -> Shared -> Prop}, Q c s -> wpAny (model X.prog X.w) (X.A.mark (some (.ref a))) (eval (.Name x p) X.env) Q E s := by
    intro Q E z
    obtain ⟨g1, g2, g3⟩ := hc
    rcases g3 with g3 | ⟨g3, g4, g5⟩
    . exact ld_glob (X := X.suite a ((a, oe) :: (X.pn ++ pn))) S g1 g3 z g2
    . exact ld_blt (X := X.suite a ((a, oe) :: (X.pn ++ pn))) S g1 g3 g4 z g5 g2
  refine ask (lm.here ?_)
  cases b with
  | false => exact no rfl
  | true => exact yes rfl
theorem Lay.run {W : WX} {D : Ends} (hs : X.stack = X.env :: X.outer) (hf : X.env.frame = some X.env.locals) (tk : Takes X W) {hds : List ExceptHandler} {l : List (Value × (Addr -> Value -> Option Addr -> TS))} (hh : HdsN X hds l) (y : Lay X pn a cls d σ H s) (w : wMany X.K W D l cls d σ H) :
    wpAny (model X.prog X.w) X.A (handleBy (.ref a) X.env hds) (SP X pn D) X.xe s := by
  have ok := y.inv.ok
  induction hh with
  | nil => exact y.out hs hf tk w
  | @plain x c ts b bs p q r l hc h _ ih =>
    obtain ⟨t, w1, w2, w3⟩ := w
    refine y.asks hf hc w1 (fun et => codeAny_handlers_suite (y.cool fun s2 y2 => ?_)) fun et => ih (w3 et)
    obtain ⟨oe, e1, e2, e3, S⟩ := y2.held hf
    refine wpAny_mono ((h a oe cls d (X.pn ++ pn) e2 e3).run [] s2 σ H D S (w2 et a y.na)) (fun f s3 z => ?_) (fun _ _ z => z.elim)
    cases f with
    | next =>
      obtain ⟨σ3, H3, S3, z⟩ := z
      exact ⟨σ3, H3, S3.unsuite ok, z⟩
    | brk =>
      obtain ⟨σ3, H3, S3, z⟩ := z
      exact ⟨σ3, H3, S3.unsuite ok, z⟩
    | cont =>
      obtain ⟨σ3, H3, S3, z⟩ := z
      exact ⟨σ3, H3, S3.unsuite ok, z⟩
    | ret u =>
      obtain ⟨v, σ3, H3, S3, z⟩ := z
      exact ⟨v, σ3, H3, S3.unsuite ok, z⟩
  | @named x n i c ts b bs p q r l hN hi hln hc h _ ih =>
    obtain ⟨t, w1, w2, w3⟩ := w
    refine y.asks hf hc w1 (fun et => codeAny_handlers_suite_as (y.cool fun s2 y2 => ?_)) fun et => ih (w3 et)
    obtain ⟨oe, e1, e2, e3, S⟩ := y2.held hf
    refine store_ok (X := X.suite a ((a, oe) :: (X.pn ++ pn))) (v := .ref a) S hN hi (.inl hln) rfl (fun s3 S3 => ?_) (.inr hln)
    refine wpAny_mono ((h a oe cls d (X.pn ++ pn) e2 e3).run [] s3 _ H _ S3 (w2 et a y.na)) (fun f s4 z => ?_) (fun _ _ z => z.elim)
    have gone : ∀ {σ4 : St} {H4 : Hp} {R : Shared -> Prop}, Inv (X.suite a ((a, oe) :: (X.pn ++ pn))) [] σ4 H4 s4 -> (∀ s5, Inv X pn (σ4.set i none) H4 s5 -> R s5) -> wpAny (model X.prog X.w) X.A (do bindName X.env n .none; unbindBehindTheSuite X.env n q) (fun _ s5 => R s5) X.xe s4 := by
      intro σ4 H4 R S4 k
      exact gone_ok (S4.unsuite ok) hN hi hln k
    cases f with
    | next =>
      obtain ⟨σ3, H3, S3, z⟩ := z
      exact gone S3 fun _ k => ⟨_, _, k, z⟩
    | brk =>
      obtain ⟨σ3, H3, S3, z⟩ := z
      exact gone S3 fun _ k => ⟨_, _, k, z⟩
    | cont =>
      obtain ⟨σ3, H3, S3, z⟩ := z
      exact gone S3 fun _ k => ⟨_, _, k, z⟩
    | ret u =>
      obtain ⟨v, σ3, H3, S3, z⟩ := z
      exact gone S3 fun _ k => ⟨_, _, _, k, z⟩
end
section
variable {X : Cx} {body : List Stmt} {h₀ : ExceptHandler} {hds : List ExceptHandler} {l : List (Value × (Addr -> Value -> Option Addr -> TS))} {pos : Pos} {tb : WX -> TS} {W : WX}
end
end L2
namespace S
open PySem PySem.Spec PyProof.Rows L2
variable [Wd]
section
variable {X : Cx} {W : WX} {D : Ends} {σ : St} {H : Hp} {F : Hp} {T : List Addr} {fr : Fp}
abbrev Hn := List (Option (Nat × Nat) × (String -> Option Bool) × (M.Exc -> M.MS))
inductive HdsMN (X : Cx) : List ExceptHandler -> Hn -> List (Value × (Addr -> Value -> Option Addr -> TS)) -> Prop
  | nil : HdsMN X [] [] []
  | plain {x : Str} {c : Value} {g : String -> Option Bool} {h : M.Exc -> M.MS} {b : Stmt} {bs : List Stmt} {p q : Pos} {r : List ExceptHandler} {l : Hn} {l' : List (Value × (Addr -> Value -> Option Addr -> TS))} (hc : Names X x c)
      (hg : ∀ y b, g y = some b -> PySem.W.exmOne X.K (.ref (He.ga X.K y)) c = some b)
      (hsu : ∀ (e : M.Exc) (a : Addr) (oe : Obj) (d : Option Addr) (pn : List (Addr × Obj)), Zc (.ref (He.ga X.K e.cls)) d oe -> (∃ vs, oe.data = .fields vs) -> SSs (X.suite a ((a, oe) :: pn)) W0 (b :: bs) (h e)) : HdsMN X r l l' →
      HdsMN X (.ExceptHandler (some (.Name x p)) none (b :: bs) q :: r) ((none, g, h) :: l) ((c, tsM X.K h) :: l')
  | named {x n : Str} {i m : Nat} {c : Value} {g : String -> Option Bool} {h : M.Exc -> M.MS} {b : Stmt} {bs : List Stmt} {p q : Pos} {r : List ExceptHandler} {l : Hn} {l' : List (Value × (Addr -> Value -> Option Addr -> TS))} (hN : X.N.Nodup) (hi : X.N[i]? = some n) (hln : X.env.kindOf n = some .local) (hc : Names X x c)
      (hg : ∀ y b, g y = some b -> PySem.W.exmOne X.K (.ref (He.ga X.K y)) c = some b)
      (hsu : ∀ (e : M.Exc) (a : Addr) (oe : Obj) (d : Option Addr) (pn : List (Addr × Obj)), Zc (.ref (He.ga X.K e.cls)) d oe -> (∃ vs, oe.data = .fields vs) -> @SSs _ (ww' a m d e) (X.suite a ((a, oe) :: pn)) W0 (b :: bs) (h e)) : HdsMN X r l l' →
      HdsMN X (.ExceptHandler (some (.Name x p)) (some n) (b :: bs) q :: r) ((some (i, m), g, h) :: l) ((c, tAs i (tsA [] X.K m h)) :: l')
theorem HdsMN.ok {hds : List ExceptHandler} {l : Hn} {l' : List (Value × (Addr -> Value -> Option Addr -> TS))} (h : HdsMN X hds l l') : HdsN X hds l' := by
  induction h with
  | nil => exact .nil
  | plain hc hg hsu r ih => exact .plain hc (jO' hsu) ih
  | named hN hi hln hc hg hsu r ih =>
    refine .named hN hi hln hc (fun a oe cls d pn hz hf => ⟨fun pins s σ H D I q => ?_⟩) ih
    obtain ⟨e, rfl, q⟩ := q
    exact (hsu e a oe d pn hz hf).run pins s σ H D I q
end
end S
namespace S
open PySem PySem.Spec PyProof.Rows L2
variable [Wd]
structure LamOk (P : Program) (w : World) (K : PySem.W.Frag) (mg : Str -> Option Value) (base : Heap) (k : Nat) (cl : List (Str × Addr)) (fr : List Str) (c : CloD) (U : M.MF) : Prop where
  isfn : ∀ h : Heap, h.get? c.f = some c.ob -> PySem.W.FnAt c.f h
  run : ∀ (A : Around) (outer : List Env) (s : Shared) (H : Hp) (us : List Value) (vs : List V) (Q : VK) (E : XK), RoomG k A -> Env0 P w K mg base A outer s H →
    NdefX.CellsAt cl fr (c.ws.map some) s.heap H -> Vals vs us →
    (∃ ds w' F T fp, FzA K F T vs ds /\ CloAt K F T c /\ n0' K w' H F T fp /\ se' K Q E F T fp (U ds w')) -> codeAny (model P w) A (.call (.ref c.f) ⟨us, []⟩) (CR (L2.CX P w) outer P w H s Q E) s
theorem LamOk.mono {P : Program} {w : World} {K : PySem.W.Frag} {mg : Str -> Option Value} {base : Heap} {j k : Nat} {cl : List (Str × Addr)} {fr : List Str} {c : CloD} {U : M.MF} (h : LamOk P w K mg base j cl fr c U) (l : j <= k) : LamOk P w K mg base k cl fr c U :=
  ⟨h.isfn, fun A o s H us vs Q E hr => h.run A o s H us vs Q E (hr.mono l)⟩
section
variable {P : Program} {w : World} {K : PySem.W.Frag} {mg : Str -> Option Value} {base : Heap}
end
inductive ArgK (K : PySem.W.Frag) (F : Hp) (T : List Addr) : List Bool -> List V -> List M.D -> List CloD -> Prop
  | nil : ArgK K F T [] [] [] []
  | dat {m : List Bool} {v : V} {vs : List V} {d : M.D} {ds : List M.D} {cs : List CloD} : Fz K F T v d -> ArgK K F T m vs ds cs -> ArgK K F T (false :: m) (v :: vs) (d :: ds) cs
  | clo {m : List Bool} {vs : List V} {ds : List M.D} {c : CloD} {cs : List CloD} : CloAt K F T c -> ArgK K F T m vs ds cs -> ArgK K F T (true :: m) (.ref c.f :: vs) ds (c :: cs)
theorem ArgK.mono {K : PySem.W.Frag} {F F' : Hp} {T T' : List Addr} (e : Ext F T F' T') {m : List Bool} {vs : List V} {ds : List M.D} {cs : List CloD} (h : ArgK K F T m vs ds cs) : ArgK K F' T' m vs ds cs := by
  induction h with
  | nil => exact .nil
  | dat z _ ih => exact .dat (z.mono e) ih
  | clo z _ ih => exact .clo (z.mono e) ih
section
variable [Hot] {X : Cx} {W : WX} {k : Nat} {e : Expr} {es : List Expr} {a : M.ME} {as : List M.AK}
end
structure FnK (P : Program) (w : World) (K : PySem.W.Frag) (mg : Str -> Option Value) (base : Heap) (k : Nat) (f : Addr) (fd : FuncData) (ps : List Str) (kc : Nat) (mask : List Bool) (m : List M.MF -> M.MF) : Prop where
  len : mask.length = ps.length
  run : ∀ (A : Around) (outer : List Env) (s : Shared) (H : Hp) (args : Args) (us : List Value) (vs : List V) (Q : VK) (E : XK), RoomG k A -> Env0 P w K mg base A outer s H -> BindsTo s fd args (ps.zip us) -> Vals vs us →
    (∃ ds cs Us w' F T fr, ArgK K F T mask vs ds cs /\ Paired (fun c U => ∃ cl fr, LamOk P w K mg base kc cl fr c U /\ NdefX.CellsAt cl fr (c.ws.map some) s.heap H) cs Us /\ n0' K w' H F T fr /\ se' K Q E F T fr (m Us ds w')) →
    codeAny (model P w) A (.call (.ref f) args) (CR (L2.CX P w) outer P w H s Q E) s
theorem ArgK.len {K : PySem.W.Frag} {F : Hp} {T : List Addr} {m : List Bool} {vs : List V} {ds : List M.D} {cs : List CloD} (h : ArgK K F T m vs ds cs) : vs.length = m.length := by
  induction h with
  | nil => rfl
  | dat _ _ ih => exact congrArg (· + 1) ih
  | clo _ _ ih => exact congrArg (· + 1) ih
def sh' : Nat -> List Bool -> List CloD -> List (Nat × CloD)
  | n, true :: m, c :: cs => (n - 1, c) :: sh' (n - 1) m cs
  | n, false :: m, cs => sh' (n - 1) m cs
  | _, _, _ => []
theorem RpE.offs [Hot] {K : PySem.W.Frag} {F : Hp} {T : List Addr} : ∀ r : Nat, RpE K F T (List.replicate r none) (List.replicate r none) []
  | 0 => .nil
  | r + 1 => .off (RpE.offs r)
theorem ArgK.start [Hot] {K : PySem.W.Frag} {F : Hp} {T : List Addr} {r : Nat} : ∀ {m : List Bool} {vs : List V} {ds : List M.D} {cs : List CloD}, ArgK K F T m vs ds cs -> (∀ i c, (i, c) ∈ sh' (m.length + r) m cs -> Hot.clo.lookup i = some c) →
    ∃ env, M.un' m ds = some env /\ env.length = m.length /\ RpE K F T (vs.map some ++ List.replicate r none) (env ++ List.replicate r none) []
  | _, _, _, _, .nil, _ => ⟨[], rfl, rfl, RpE.offs r⟩
  | _, _, _, _, @ArgK.dat _ _ _ _ m v vs d ds cs z a, h => by
    obtain ⟨env, h1, h2, h3⟩ := ArgK.start (r := r) a fun i c hi => h i c (by
      show (i, c) ∈ sh' (m.length + 1 + r - 1) m cs
      rwa [show m.length + 1 + r - 1 = m.length + r by omega])
    exact ⟨some (.fz d) :: env, by show (M.un' m ds).map _ = _; rw [h1]; rfl, congrArg (· + 1) h2, RpE.on (fp := []) (fq := []) (.fz z) h3⟩
  | _, _, _, _, @ArgK.clo _ _ _ _ m vs ds c cs z a, h => by
    have e1 : m.length + 1 + r - 1 = m.length + r := by omega
    obtain ⟨env, h1, h2, h3⟩ := ArgK.start (r := r) a fun i c' hi => h i c' (by
      show (i, c') ∈ (m.length + 1 + r - 1, c) :: sh' (m.length + 1 + r - 1) m cs
      rw [e1]
      exact List.mem_cons_of_mem _ hi)
    refine ⟨some .clo :: env, by show (M.un' m ds).map _ = _; rw [h1]; rfl, congrArg (· + 1) h2, RpE.clo ?_ z h3⟩
    show Hot.clo.lookup (env ++ List.replicate r none).length = some c
    rw [List.length_append, List.length_replicate, h2]
    refine h _ c ?_
    show _ ∈ (m.length + 1 + r - 1, c) :: sh' (m.length + 1 + r - 1) m cs
    rw [e1]
    exact List.mem_cons_self
section
variable {P : Program} {w : World} {K : PySem.W.Frag} {mg : Str -> Option Value} {base : Heap}
end
section
variable [Hot] {X : Cx} {W : WX} {k kc : Nat} {x : Str} {ps : List Str} {p pos : Pos} {e : Expr} {es : List Expr} {as : List M.AK} {m : List M.MF -> M.MF}
end
section
variable [Hot] {X : Cx} {W : WX} {kc i : Nat} {x : Str} {p pos : Pos} {e : Expr} {es : List Expr} {as : M.MA} {U : M.MF}
end
end S
namespace S
open PySem PySem.Spec PyProof.Rows L2
variable [Wd] [Hot]
section
variable {K : PySem.W.Frag}
end
end S
namespace S
open PySem PySem.Spec PyProof.Rows L2
variable [Wd] [Hot]
section
variable {X : Cx} {W : WX} {pos p : Pos} {x : Str} {a : Expr} {σ : St} {H : Hp} {Q : VK}
end
end S
namespace S
open PySem PySem.Spec PyProof.Rows L2
variable [Wd] [Hot]
section
variable {K : PySem.W.Frag} {W : WX} {σ : St} {H : Hp} {D : Ends}
end
section
variable {X : Cx} {W : WX} {pos : Pos} {tg e : Expr} {body : List Stmt} {sl : List Nat} {a : M.ME} {g : M.MG} {m1 : M.MS}
end
end S
namespace S
open PySem PySem.Spec PyProof.Rows L2
variable [Wd] [Hot]
section
variable {K : PySem.W.Frag} {W : WX} {σ : St} {H : Hp} {D : Ends} {ρ : M.PSt} {F : Hp} {T : List Addr} {fr : Fp}
theorem Rel.perm {fr' : Fp} (r : Rel K ρ σ H F T fr) (h : Part fr' fr) : Rel K ρ σ H F T fr' := by
  obtain ⟨fe, fw, re, rw, f⟩ := r
  exact ⟨fe, fw, re, rw, f.part (.app .refl (.app .refl h))⟩
def qy' (K : PySem.W.Frag) (sl : List Nat) (g : M.MG) (t : M.MT) (e : M.MO) (ds : List M.D) (σ : St) (D : Addr) (fr : Fp) (F1 : Hp) (T1 : List Addr) (P : List M.O -> M.PSt -> Prop) (Y : Wx) (i : Nat) (H : Hp) : Prop :=
  i <= ds.length /\ ∃ ρ' F' T' acc vacc fa, Ext F1 T1 F' T' /\ RpA K F' T' vacc acc fa /\ Rel K ⟨M.a4' sl ρ'.env, ρ'.w⟩ (wipe σ sl) H F' T' ((D, .lst vacc) :: (fa ++ fr)) /\ aR' (M.hz' sl g t e (ds.drop i) acc ρ') P Y
theorem o2' {sl : List Nat} {it : M.MI} {g : M.MG} {t : M.MT} {e : M.MO} {Q : VK} (h : qO K W (M.tS' sl it g t e) σ H Q) : tLc (qI K W it) (qG K sl g) (qT K W0 t) (qO K W0 e) sl σ H Q := by
  obtain ⟨ρ, F, T, fr, rel, h⟩ := h
  refine ⟨ρ, F, T, fr, rel, (aR'.bind h).mono (fun ds ρ1 h1 J H1 F1 T1 e1 io r1 => ?_) fun _ _ z => z⟩
  intro D hD
  have h2 := aR'.bind h1
  refine ⟨fun i m H => m = ds.length - i /\ qy' K sl g t e ds σ D fr F1 T1 _ _ i H, ⟨ds.length, by simp, Nat.zero_le _, ρ1, F1, T1, [], [], [], .refl, .nil, (r1.wiped sl).own hD, h2⟩, ?_⟩
  rintro i m H2 ⟨rfl, hi, ρ2, F2, T2, acc, vacc, fa, e2, za, r2, h3⟩
  have hH : H2 D = some (.lst vacc) := r2.at_ (e := (D, .lst vacc)) List.mem_cons_self
  obtain ⟨fp2, f2, _⟩ := r2.fp
  by_cases hl : i = ds.length
  . refine .inl ⟨(io F2 T2 H2 fp2 i e2 f2 hi).1 hl, ?_⟩
    rw [hl, List.drop_length] at h3
    have h4 : aR' (M.hz' sl g t e [] acc ρ2) _ _ := h3
    unfold M.hz' at h4
    have h5 := h4
    refine h5 (.ref D) H2 F2 T2 ((D, .lst vacc) :: fa) (e1.trans e2) (.lst za) ?_
    obtain ⟨fe, fw, re, rw, f⟩ := r2
    have re1 : RpE K F2 T2 σ (M.a4' sl ρ2.env) fe := by
      refine re.other ?_ fun j o hj => (dT' (dm' hj)).symm
      rw [wipe_length]
    obtain ⟨fe0, fw0, re0, rw0, f0⟩ := r1
    obtain ⟨fq, h6, h7⟩ := RpE.backed (env0 := ρ1.env) (fun i d hd => by
      obtain ⟨v, hv, z⟩ := re0.data hd
      exact ⟨v, hv, z.mono e2⟩) sl re1
    exact ⟨fq, fw, h6, rw, f.part (.app h7 .refl)⟩
  . have hlt : i < ds.length := by omega
    have hd : ds[i]? = some ds[i] := List.getElem?_eq_getElem hlt
    obtain ⟨go, yl⟩ := (io F2 T2 H2 fp2 i e2 f2 hi).2 _ hd
    refine .inr ⟨go, qy' K sl g t e ds σ D fr F1 T1 _ _ (i + 1), fun H' n => ⟨ds.length - (i + 1), by omega, rfl, n⟩, fun x H3 y => ?_⟩
    obtain ⟨fe, fw, re, rw, f⟩ := id r2
    obtain ⟨yg, yh⟩ := (io F2 T2 H2 _ i e2 f hi).2 _ hd
    obtain ⟨F3, s3, zx, f3⟩ := yh x H3 y
    have r3 : Rel K ⟨M.a4' sl ρ2.env, ρ2.w⟩ (wipe σ sl) H3 F3 T2 ((D, .lst vacc) :: (fa ++ fr)) := ⟨fe, fw, re.mono (.of s3), rw.mono (.of s3), f3⟩
    rw [List.drop_eq_getElem_cons hlt] at h3
    unfold M.hz' at h3
    cases eg : g ds[i] ⟨M.a4' sl ρ2.env, ρ2.w⟩ with
    | none => rw [eg] at h3; exact h3.elim
    | some ρ3 =>
      rw [eg] at h3
      refine ⟨_, F3, T2, _, ds[i], ρ3, r3, zx, eg, fun σ4 w4 r4 => ?_⟩
      rw [fZ'] at w4
      refine ⟨w4, ?_⟩
      have h4 := aR'.bind h3
      refine ⟨ρ3, F3, T2, _, r4, (aR'.noX h4).mono (fun b ρ5 h5 H5 F5 T5 e5 r5 => ?_) fun _ _ z => z⟩
      cases b with
      | false =>
        rw [if_neg Bool.false_ne_true]
        refine ⟨hlt, ρ5, F5, T5, acc, vacc, fa, e2.trans ((Ext.of s3).trans e5), (za.mono (.of s3)).mono e5, ?_, h5⟩
        rw [<- w4]
        exact r5.wiped sl
      | true =>
        rw [if_pos rfl] at h5 ⊢
        have h6 := aR'.bind h5
        refine ⟨ρ5, F5, T5, _, r5, (aR'.noX h6).mono (fun o ρ6 h7 y6 H6 F6 T6 fp6 e6 z6 r6 => ?_) fun _ _ z => z⟩
        split at h7
        . rename_i hacc
          have r7 : Rel K ρ6 σ4 H6 F6 T6 ((D, .lst vacc) :: (fa ++ (fp6 ++ fr))) := r6.perm (by
            constructor
            . intro e h
              simp only [List.mem_append, List.mem_cons] at *
              grind
            . intro x
              simp only [keys, List.map_append, List.map_cons, List.count_append, List.count_cons] at *
              omega)
          have hH6 : H6 D = some (.lst vacc) := r7.at_ (e := (D, .lst vacc)) List.mem_cons_self
          have za6 := ((za.mono (.of s3)).mono e5).mono e6
          have z7 : RpA K F6 T6 [y6] [o] (fp6 ++ []) := .cons z6 .nil
          refine ⟨vacc, hH6, by rw [bx', za.length]; exact hacc, hlt, ρ6, F6, T6, acc ++ [o], vacc ++ [y6], fa ++ (fp6 ++ []), e2.trans ((Ext.of s3).trans (e5.trans e6)), za6.app z7, ?_, h7⟩
          rw [<- w4]
          refine ((r7.wiped sl).write (o' := .lst (vacc ++ [y6]))).perm ?_
          constructor
          . intro e h
            simp only [List.mem_append, List.mem_cons, List.not_mem_nil, or_false] at *
            grind
          . intro x
            simp only [keys, List.map_append, List.map_cons, List.count_append, List.count_cons, List.map_nil, List.count_nil] at *
            omega
        . exact h7.elim
end
section
variable {X : Cx} {W : WX} {pos : Pos} {elt tg iter : Expr} {ifs : List Expr} {scope : Scope} {own : List (Str × Nat)} {sl : List Nat} {it : M.MI} {g : M.MG} {t : M.MT} {e : M.MO}
theorem te' (hc : X.calm = true) (hN : X.N.Nodup) (hi : SI X W tg iter it) (ok : BlkOk X.N X.env.scope scope own) (hsl : sl = own.map (·.2))
    (hg : ∀ (s : Shared) (H : Hp) (C : Addr) (cl : List (Str × Addr)) (fp : List Addr), SG (X.blk s H scope (compEnvC scope cl C X.env) fp) tg sl g) (ht : ∀ (s : Shared) (H : Hp) (C : Addr) (cl : List (Str × Addr)) (fp : List Addr), PTs (X.blk s H scope (compEnvC scope cl C X.env) fp) ifs (qT X.K W0 t))
    (he : ∀ (s : Shared) (H : Hp) (C : Addr) (cl : List (Str × Addr)) (fp : List Addr), SO (X.blk s H scope (compEnvC scope cl C X.env) fp) W0 elt e) (hs : ∀ x, foldedSetIterable iter X.env x = pure x := by intro _; rfl) :
    SO X W (.ListComp elt [⟨tg, iter, ifs, 0⟩] scope pos) (M.tS' sl it g t e) := by
  subst hsl
  exact PE.imp (pe_lc hc hN hi ok hg ht he hs) fun σ H Q h => o2' h
end
end S
namespace S
open PySem PySem.Spec PyProof.Rows L2
variable [Wd] [Hot]
section
variable {K : PySem.W.Frag} {W : WX} {σ : St} {H : Hp} {D : Ends} {ρ : M.PSt} {F : Hp} {T : List Addr} {fr : Fp}
theorem RpA.at' : ∀ {vs : List V} {os : List M.O} {fp : Fp} {j : Nat} {o : M.O}, RpA K F T vs os fp -> os[j]? = some o -> ∃ v fa fb fc, vs[j]? = some v /\ fp = fa ++ (fb ++ fc) /\ Rp K F T v o fb /\ ∀ o' fb', Rp K F T v o' fb' -> RpA K F T vs (os.set j o') (fa ++ (fb' ++ fc))
  | _, _, _, _, _, .nil, e => by cases e
  | _, _, _, 0, _, .cons (fp := fp) (fq := fq) h r, e => by
    have e := Option.some.inj e
    subst e
    refine ⟨_, [], fp, fq, rfl, rfl, h, fun o' fb' z => ?_⟩
    rw [List.nil_append]
    exact RpA.cons z r
  | _, _, _, j + 1, _, .cons (fp := fp) h r, e => by
    obtain ⟨v, fa, fb, fc, h1, h2, h3, h4⟩ := RpA.at' (j := j) r e
    subst h2
    refine ⟨v, fp ++ fa, fb, fc, h1, by simp, h3, fun o' fb' z => ?_⟩
    rw [List.append_assoc]
    exact .cons h (h4 o' fb' z)
theorem Rel.slotN {i j : Nat} {p : Addr} {os inner : List M.O} (rel : Rel K ρ σ H F T fr) (e : ρ.env[i]? = some (some (.lst os))) (hp : σ[i]? = some (some (.ref p))) (ej : os[j]? = some (.lst inner)) :
    ∃ vs a us, H p = some (.lst vs) /\ vs.length = os.length /\ vs[j]? = some (.ref a) /\ H a = some (.lst us) /\ us.length = inner.length /\ ∀ v d, Fz K F T v d -> Rel K ⟨ρ.env.set i (some (.lst (os.set j (.lst (inner ++ [.fz d]))))), ρ.w⟩ σ (upd H a (.lst (us ++ [v]))) F T fr := by
  obtain ⟨fe, fw, re, rw, f⟩ := rel
  obtain ⟨v, f1, f2, f3, h1, rfl, h3, h4, h5⟩ := re.get e
  rw [h1] at hp
  cases hp
  cases h3 with
  | lst r =>
    rename_i vs0 fp0
    obtain ⟨x, fa, fb, fc, g1, rfl, g3, g4⟩ := RpA.at' r ej
    cases g3 with
    | lst ri =>
      rename_i a us fi
      refine ⟨vs0, a, us, (f.at_ (p, .lst vs0) (by simp)).1, r.length, g1, (f.at_ (a, .lst us) (by simp)).1, ri.length, fun v d z => ?_⟩
      have r1 : RpA K F T [v] [.fz d] ([] ++ []) := .cons (.fz z) .nil
      have g5 := g4 (.lst (inner ++ [.fz d])) ((a, .lst (us ++ [v])) :: (fi ++ ([] ++ []))) (.lst (ri.app r1))
      have e5 := h5 F T (.ref p) (.lst (os.set j (.lst (inner ++ [.fz d])))) ((p, .lst vs0) :: (fa ++ (((a, .lst (us ++ [v])) :: (fi ++ ([] ++ []))) ++ fc))) .refl (.lst g5)
      rw [cG' h1] at e5
      refine ⟨_, fw, e5, rw, ?_⟩
      have fA : FpH F H ((f1 ++ ((p, .lst vs0) :: fa)) ++ ((a, .lst us) :: (fi ++ (fc ++ (f3 ++ (fw ++ fr)))))) := f.part (by
        constructor
        . intro e h
          simp only [List.mem_append, List.mem_cons] at *
          grind
        . intro x
          simp only [keys, List.map_append, List.map_cons, List.count_append, List.count_cons] at *
          omega)
      have fB := fA.write (o' := .lst (us ++ [v]))
      refine fB.part ?_
      constructor
      . intro e h
        simp only [List.mem_append, List.mem_cons, List.not_mem_nil, or_false, List.append_nil] at *
        grind
      . intro x
        simp only [keys, List.map_append, List.map_cons, List.count_append, List.count_cons, List.append_nil] at *
        omega
theorem Rel.dropS {r : Nat} {x : Option V} (rel : Rel K ρ σ H F T fr) : Rel K ⟨ρ.env.set r none, ρ.w⟩ (σ.set r x) H F T fr := by
  obtain ⟨fe, fw, re, rw, f⟩ := rel
  obtain ⟨fq, h1, h2⟩ := re.drop0 r
  refine ⟨fq, fw, h1.other (by simp) fun j o hj => ?_, rw, f.part (.app h2 .refl)⟩
  by_cases e : j = r
  . subst e
    by_cases hl : j < ρ.env.length
    . rw [List.getElem?_set_self hl] at hj
      cases hj
    . rw [List.getElem?_eq_none (by simpa using hl)] at hj
      cases hj
  . rw [List.getElem?_set_ne (Ne.symm e)]
theorem Rel.drop' (rel : Rel K ρ σ H F T fr) (r : Nat) : Rel K ⟨ρ.env.set r none, ρ.w⟩ σ H F T fr := by
  obtain ⟨fe, fw, re, rw, f⟩ := rel
  obtain ⟨fq, h1, h2⟩ := re.drop0 r
  exact ⟨fq, fw, h1, rw, f.part (.app h2 .refl)⟩
theorem gY' {d : M.D} : ∀ {os os' : List M.O}, M.fF' d os = some os' -> os'.length = os.length /\ ∀ j, j < os.length -> ∃ inner, os[j]? = some (.lst inner) /\ inner.length < M.cM' /\ os'[j]? = some (.lst (inner ++ [.fz d]))
  | [], os', h => by cases h; exact ⟨rfl, fun j hj => absurd hj (Nat.not_lt_zero _)⟩
  | .lst us :: r, os', h => by
    unfold M.fF' at h
    split at h
    . rename_i hl
      cases e : M.fF' d r with
      | none => rw [e] at h; cases h
      | some q =>
        rw [e] at h
        cases h
        obtain ⟨h1, h2⟩ := gY' e
        refine ⟨congrArg (· + 1) h1, fun j hj => ?_⟩
        cases j with
        | zero => exact ⟨us, rfl, hl, rfl⟩
        | succ j => exact h2 j (Nat.lt_of_succ_lt_succ hj)
    . cases h
  | .fz _ :: _, _, h => by cases h
  | .tup _ :: _, _, h => by cases h
  | .dct _ _ :: _, _, h => by cases h
  | .dcx _ _ :: _, _, h => by cases h
  | .exn :: _, _, h => by cases h
  | .clo :: _, _, h => by cases h
end
section
variable {X : Cx} {W : WX} {pos px qx epos apos cpos : Pos} {tg a : Expr} {nm x : Str} {i r : Nat} {v : V} {d : M.D}
theorem qS' (hp : PassesOwn (model X.prog X.w) X.A X.env X.xe) (hc : X.calm = true) (hv : PE X (.Name nm px) (tVar i)) (hg : PG X tg (gName r)) (hx : PE X (.Name x qx) (tVar r)) (ha : PE X a (tC v)) (hz : ∀ F T, Fz X.K F T v d) (hir : i ≠ r)
    (hbase : attributeBase (.Name x qx) "append" X.env (eval (.Name x qx) X.env) = eval (.Name x qx) X.env := by rfl)
    (hfew : ((backTo cpos (starEach [a] X.env)).all (fun x => !x.1) && (backToKw cpos (keywordEach [] X.env)).all (fun x => x.1.isSome)
      && decide ([a].length + ([] : List Keyword).length + (if ([] : List Keyword).isEmpty then 0 else 1) < 30)) = true := by rfl)
    (hline : (apos.endLine == cpos.line) = true := by rfl) (hs : starEach [a] X.env = (false, eval a X.env) :: starEach [] X.env := by rfl) (hplain : (backTo cpos (starEach [] X.env)).any (·.1) = false := by rfl)
    (hsw : swapsWith (.Call (.Attribute (.Name x qx) "append" apos) [a] [] cpos) none epos.line X.env = pure false := by rfl)
    (hf : ∀ y, foldedSetIterable (.Name nm px) X.env y = pure y := by intro _; rfl) :
    SS X W (.For tg (.Name nm px) [.Expr (.Call (.Attribute (.Name x qx) "append" apos) [a] [] cpos) epos] [] pos) (M.my' i r d) :=
  PS.imp (ps_for hp hc (pi_list hv) hg (pss_one (ps_expr (pe_bm PySem.F.plainAttrs_list PySem.F.slot_list_append PySem.F.type_list_append mt_append hx (pa_cons ha pa_nil hs) hbase hfew hline hs hplain) hsw)) hf) fun D σ H ⟨ρ, F, T, fr, rel, h⟩ => by
    unfold M.my' at h
    split at h
    . rename_i os e0
      cases eE0 : (if r < ρ.env.length then M.fF' d os else none) with
      | none => rw [eE0] at h; exact h.elim
      | some os' =>
        rw [eE0] at h
        obtain ⟨hrl, eE⟩ : r < ρ.env.length /\ M.fF' d os = some os' := by
          split at eE0
          . exact ⟨by assumption, eE0⟩
          . cases eE0
        obtain ⟨hlen, hat⟩ := gY' eE
        obtain ⟨fe, fw, re, rw, ff⟩ := id rel
        obtain ⟨w, f1, f2, f3, h1, _, h3, _⟩ := re.get e0
        cases h3 with
        | @lst p vs0 _ fp0 r0 =>
          obtain ⟨vs1, f21, hH, _, _⟩ := rel.slotW e0 h1
          have hil : i < ρ.env.length := (List.getElem?_eq_some_iff.1 e0).1
          refine ⟨.ref p, h1, p, rfl, ⟨vs1, SqL.of hH⟩, fun j m σ2 H2 => m = os.length - j /\ j <= os.length /\ σ2[i]? = some (some (.ref p)) /\ ∃ env2, env2[i]? = some (some (.lst (os'.take j ++ os.drop j))) /\ env2.set i none = (if j = 0 then ρ.env else ρ.env.set r none).set i none /\ Rel X.K ⟨env2, ρ.w⟩ σ2 H2 F T fr, ⟨os.length, by simp, Nat.zero_le _, h1, ρ.env, by simpa using e0, by simp, rel⟩, ?_⟩
          rintro j m σ2 H2 ⟨rfl, hj, hσ, env2, q1, q2, r2⟩
          have hll : (os'.take j ++ os.drop j).length = os.length := by
            rw [List.length_append, List.length_take, List.length_drop, hlen]; omega
          by_cases hl : j = os.length
          . refine .inl ⟨?_, ?_⟩
            . obtain ⟨vs, f2', hH2, rr, _⟩ := r2.slotW q1 hσ
              exact ⟨vs, SqL.of hH2, by rw [rr.length, hll]; omega⟩
            . have e1 : os'.take j ++ os.drop j = os' := by rw [hl, List.drop_length, List.append_nil, <- hlen, List.take_length]
              rw [e1] at q1
              have e2 : env2 = (if j = 0 then ρ.env else ρ.env.set r none).set i (some (.lst os')) := by
                have := congrArg (fun l => l.set i (some (M.O.lst os'))) q2
                simp only [List.set_set] at this
                rw [<- this]
                exact (cG' q1).symm
              have e3 : env2.set r none = (ρ.env.set i (some (.lst os'))).set r none := by
                rw [e2]
                split
                . rfl
                . rw [List.set_comm _ _ (Ne.symm hir), List.set_set, List.set_comm _ _ hir]
              have r3 := r2.drop' r
              rw [e3] at r3
              exact h σ2 H2 F T .refl r3
          . have hlt : j < os.length := by omega
            obtain ⟨inner, g1, g2, g3⟩ := hat j hlt
            have ej : (os'.take j ++ os.drop j)[j]? = some (.lst inner) := by
              rw [List.getElem?_append_right (by rw [List.length_take]; omega), List.length_take, List.getElem?_drop, show j + (j - min j os'.length) = j by omega]
              exact g1
            obtain ⟨vs, b, us, k1, k2, k3, k4, k5, k6⟩ := r2.slotN q1 hσ ej
            refine .inr ⟨⟨vs, .ref b, SqL.of k1, k3⟩, fun σ3 H3 => j + 1 <= os.length /\ σ3[i]? = some (some (.ref p)) /\ ∃ env2, env2[i]? = some (some (.lst (os'.take (j + 1) ++ os.drop (j + 1)))) /\ env2.set i none = (if j + 1 = 0 then ρ.env else ρ.env.set r none).set i none /\ Rel X.K ⟨env2, ρ.w⟩ σ3 H3 F T fr, fun σ3 H3 q => ⟨os.length - (j + 1), by omega, rfl, q⟩, fun xv H3 y => ?_⟩
            obtain ⟨rfl, y⟩ := y
            have hxv := y vs (SqL.of k1)
            rw [k3] at hxv
            cases hxv
            have hσr : r < σ2.length := by
              obtain ⟨fe2, fw2, re2, rw2, ff2⟩ := id r2
              have l1 : σ2.length = env2.length := re2.len
              have l2 := congrArg List.length q2
              rw [List.length_set] at l2
              split at l2 <;> (simp only [List.length_set] at l2; omega)
            have hget : (σ2.set r (some (.ref b)))[r]? = some (some (.ref b)) := List.getElem?_set_self hσr
            refine ⟨.ref b, hget, .inl ⟨rfl, us, SqL.of k4⟩, b, us, v, rfl, rfl, k4, by rw [k5, bx']; exact g2, ?_⟩
            refine ⟨by omega, by rw [List.getElem?_set_ne hir.symm]; exact hσ, (env2.set i (some (.lst ((os'.take j ++ os.drop j).set j (.lst (inner ++ [.fz d])))))).set r none, ?_, ?_, ?_⟩
            . rw [List.getElem?_set_ne hir.symm, List.getElem?_set_self (by
                have := congrArg List.length q2
                rw [List.length_set] at this
                split at this <;> (simp only [List.length_set] at this; omega))]
              congr 2
              have eA : (os'.take j).length = j := by rw [List.length_take]; omega
              rw [List.set_append_right _ _ (by omega), eA, Nat.sub_self, List.drop_eq_getElem_cons hlt, List.set_cons_zero, List.take_succ, g3, List.append_assoc]
              rfl
            . rw [List.set_comm _ _ hir.symm, List.set_set, q2]
              rw [if_neg (Nat.succ_ne_zero j)]
              split
              . rw [List.set_comm _ _ hir]
              . rw [List.set_comm _ _ hir, List.set_set]
            . exact (k6 v d (hz F T)).dropS
    . exact h.elim
end
end S
namespace S
open PySem PySem.Spec PyProof.Rows L2
variable [Wd] [Hot]
local macro_rules | `(tactic| walk_at "parts") => `(tactic| (constructor; (intro e h; simp only [List.mem_append, List.mem_cons, List.not_mem_nil] at *; grind); (intro x; simp only [keys, List.map_append, List.map_cons, List.map_nil, List.count_append, List.count_cons, List.count_nil] at *; omega)))
theorem mq' {i : Nat} {a : M.MO} {ρ : M.PSt} : M.br' i (M.oE (M.eO (M.oS' a))) ρ = (a ρ).out fun o ρ1 => match M.nU' o with
    | some ob => M.ox' i (.fz (.obj ρ1.w.length)) ⟨ρ1.env, ρ1.w ++ [ob]⟩
    | none => .bad := by
  unfold M.br' M.oE M.eO M.oS'
  cases a ρ with
  | ok o ρ1 =>
    show ((((match M.nU' o with | some ob => M.Res.ok (M.O.fz (.obj ρ1.w.length)) ⟨ρ1.env, ρ1.w ++ [ob]⟩ | none => .bad).bind _).bind _).out _) = match M.nU' o with | some ob => _ | none => _
    cases M.nU' o <;> rfl
  | _ => rfl
theorem mm' {X : Cx} {W : WX} {i : Nat} {y : Str} {py pos : Pos} {elt tg iter : Expr} {ifs : List Expr} {scope : Scope} {own : List (Str × Nat)} {spos : Pos} {sl : List Nat} {it : M.MI} {g : M.MG} {t : M.MT} {e : M.ME} (hc : X.calm = true) (hN : X.N.Nodup) (hy : X.N[i]? = some y) (hyl : X.env.scope.names.lookup y = some .local)
    (hsw : swapsWith (.ListComp elt [⟨tg, iter, ifs, 0⟩] scope pos) (some (.Name y py)) spos.line X.env = pure true) (hi : SI X W tg iter it) (ok : BlkOk X.N X.env.scope scope own) (hsl : sl = own.map (·.2))
    (hg : ∀ (s : Shared) (H : Hp) (C : Addr) (cl : List (Str × Addr)) (fp : List Addr), SG (X.blk s H scope (compEnvC scope cl C X.env) fp) tg sl g) (ht : ∀ (s : Shared) (H : Hp) (C : Addr) (cl : List (Str × Addr)) (fp : List Addr), PTs (X.blk s H scope (compEnvC scope cl C X.env) fp) ifs (qT X.K W0 t))
    (he : ∀ (s : Shared) (H : Hp) (C : Addr) (cl : List (Str × Addr)) (fp : List Addr), SE (X.blk s H scope (compEnvC scope cl C X.env) fp) W0 elt e) (hs : ∀ x, foldedSetIterable iter X.env x = pure x := by intro _; rfl) :
    SS X W (.Assign [.Name y py] (.ListComp elt [⟨tg, iter, ifs, 0⟩] scope pos) spos) (M.br' i (M.oE (M.eO (M.oS' (M.oLc sl it g t e))))) := by
  subst hsl
  refine PS.imp (ps_setLc (g := qG X.K (own.map (·.2)) g) (tt := qT X.K W0 t) (te := qE X.K W0 e) hc hN hy hyl hsw hi ok hg ht he hs) fun D σ H ⟨ρ, F, T, fr, rel, h⟩ => ?_
  rw [mq'] at h
  refine h6' (W := W) (dp' (D := D) rel h fun o ρ1 v H1 F1 T1 fp e1 z1 r1 h1 => ?_)
  split at h1
  . rename_i ob eo
    have hq : ∃ p, v = .ref p /\ RpOb X.K F1 T1 p ob fp := by
      cases z1 <;> cases eo
      case lst r => exact ⟨_, rfl, .lst r⟩
      case dct h r => exact ⟨_, rfl, .dct h r⟩
      case dcl h r => exact ⟨_, rfl, .dcl h r⟩
      case dcn h z r => exact ⟨_, rfl, .dcn h z r⟩
    obtain ⟨p, rfl, qi⟩ := hq
    obtain ⟨fe, fw, re, rw, f⟩ := r1
    have eT : Ext F1 T1 F1 (T1 ++ [p]) := ⟨fun _ _ h => .inl h, ⟨[p], rfl⟩⟩
    have hn : (T1 ++ [p])[ρ1.w.length]? = some p := by rw [<- rw.len, List.getElem?_append_right (Nat.le_refl _), Nat.sub_self]; rfl
    obtain ⟨fw', q1, q2⟩ := RpW.snoc (qi.mono eT) (rw.mono eT)
    have r2 : Rel X.K ⟨ρ1.env, ρ1.w ++ [ob]⟩ σ H1 F1 (T1 ++ [p]) fr := by
      refine ⟨fe, fw', re.mono eT, q1, f.part ?_⟩
      have p1 : Part (fe ++ (fw' ++ fr)) (fe ++ ((fp ++ fw) ++ fr)) := .app .refl (.app q2 .refl)
      refine p1.trans ?_
      walk_at "parts"
    unfold M.ox' at h1
    split at h1
    . rename_i hl
      exact h1 _ H1 F1 (T1 ++ [p]) eT (r2.put hl (.fz (.obj hn)) .refl)
    . exact h1.elim
  . exact h1.elim
end S
namespace S
open PySem PySem.Spec PyProof.Rows L2
structure Ctx (w : World) (K : PySem.W.Frag) (mg : Str -> Option Value) : Prop where
  says : ∃ (h : Heap), He.SaysX fas fns tbs [] exK w h K
  inn : ∃ h : Heap, K.In h /\ h.Ns mainGlobals mg
section
variable [Wd] {w : World} {K : PySem.W.Frag} {mg : Str -> Option Value}
theorem Ctx.d (C : Ctx w K mg) : He.SaysD fas fns K := by
  obtain ⟨h, s⟩ := C.says
  exact s.t.d
theorem Ctx.glo (C : Ctx w K mg) {x : Str} (i : Nat) (h : fas[i]? = some (.glo x)) : mg x = some (.ref (He.ga K x)) := by
  obtain ⟨hp, X, G⟩ := C.inn
  exact He.glo_ok X G (C.d.fact i h)
theorem Ctx.g_is_integer (C : Ctx w K mg) : mg "is_integer" = some (.ref (He.ga K "is_integer")) := C.glo 0 rfl
theorem Ctx.g_is_string_of (C : Ctx w K mg) : mg "is_string_of" = some (.ref (He.ga K "is_string_of")) := C.glo 1 rfl
theorem Ctx.g_is_ascending (C : Ctx w K mg) : mg "is_ascending" = some (.ref (He.ga K "is_ascending")) := C.glo 2 rfl
theorem Ctx.g_is_choice (C : Ctx w K mg) : mg "is_choice" = some (.ref (He.ga K "is_choice")) := C.glo 3 rfl
theorem Ctx.g_check_dealing (C : Ctx w K mg) : mg "check_dealing" = some (.ref (He.ga K "check_dealing")) := C.glo 4 rfl
theorem Ctx.g_hands_of (C : Ctx w K mg) : mg "hands_of" = some (.ref (He.ga K "hands_of")) := C.glo 5 rfl
theorem Ctx.g_are_states (C : Ctx w K mg) : mg "are_states" = some (.ref (He.ga K "are_states")) := C.glo 6 rfl
theorem Ctx.g_is_table (C : Ctx w K mg) : mg "is_table" = some (.ref (He.ga K "is_table")) := C.glo 7 rfl
theorem Ctx.g_led (C : Ctx w K mg) : mg "led" = some (.ref (He.ga K "led")) := C.glo 8 rfl
theorem Ctx.g_check_two (C : Ctx w K mg) : mg "check_two" = some (.ref (He.ga K "check_two")) := C.glo 9 rfl
theorem Ctx.g_check_writings (C : Ctx w K mg) : mg "check_writings" = some (.ref (He.ga K "check_writings")) := C.glo 10 rfl
theorem Ctx.g_row_of (C : Ctx w K mg) : mg "row_of" = some (.ref (He.ga K "row_of")) := C.glo 11 rfl
theorem Ctx.g_answer_of (C : Ctx w K mg) : mg "answer_of" = some (.ref (He.ga K "answer_of")) := C.glo 12 rfl
theorem Ctx.g_answers (C : Ctx w K mg) : mg "answers" = some (.ref (He.ga K "answers")) := C.glo 13 rfl
theorem Ctx.g__law_hand (C : Ctx w K mg) : mg "_law_hand" = some (.ref (He.ga K "_law_hand")) := C.glo 14 rfl
theorem Ctx.g__law_draw (C : Ctx w K mg) : mg "_law_draw" = some (.ref (He.ga K "_law_draw")) := C.glo 15 rfl
theorem Ctx.g__law_shuffled (C : Ctx w K mg) : mg "_law_shuffled" = some (.ref (He.ga K "_law_shuffled")) := C.glo 16 rfl
theorem Ctx.g__law_rows (C : Ctx w K mg) : mg "_law_rows" = some (.ref (He.ga K "_law_rows")) := C.glo 17 rfl
theorem Ctx.g__law_parts (C : Ctx w K mg) : mg "_law_parts" = some (.ref (He.ga K "_law_parts")) := C.glo 18 rfl
theorem Ctx.g__law_led (C : Ctx w K mg) : mg "_law_led" = some (.ref (He.ga K "_law_led")) := C.glo 19 rfl
theorem Ctx.g__law_dealing (C : Ctx w K mg) : mg "_law_dealing" = some (.ref (He.ga K "_law_dealing")) := C.glo 20 rfl
theorem Ctx.g__law_writings (C : Ctx w K mg) : mg "_law_writings" = some (.ref (He.ga K "_law_writings")) := C.glo 21 rfl
theorem Ctx.g__law_joined (C : Ctx w K mg) : mg "_law_joined" = some (.ref (He.ga K "_law_joined")) := C.glo 22 rfl
theorem Ctx.g__law_due (C : Ctx w K mg) : mg "_law_due" = some (.ref (He.ga K "_law_due")) := C.glo 23 rfl
theorem Ctx.g__law_is_due (C : Ctx w K mg) : mg "_law_is_due" = some (.ref (He.ga K "_law_is_due")) := C.glo 24 rfl
theorem Ctx.g_law (C : Ctx w K mg) : mg "law" = some (.ref (He.ga K "law")) := C.glo 25 rfl
theorem Ctx.g_NoDealing (C : Ctx w K mg) : mg "NoDealing" = some (.ref (He.ga K "NoDealing")) := C.glo 28 rfl
theorem Ctx.x_NoDealing (C : Ctx w K mg) : PySem.W.excIn K (He.ga K "NoDealing") He.veBase "ValueError.__new__" = true := (He.exc_ok (C.d.fact 29 rfl)).1
theorem Ctx.k_NoDealing (C : Ctx w K mg) : PySem.W.keepIn K (.ref (He.ga K "NoDealing")) = true := (He.exc_ok (C.d.fact 29 rfl)).2.1
theorem Ctx.r_NoDealing (C : Ctx w K mg) {X : Cx} (e : X.K = K := by rfl) : Raises X (.ref (He.ga K "NoDealing")) := by subst e; exact raises_own (He.exc_ok (C.d.fact 29 rfl)).2.2.1 (He.exc_ok (C.d.fact 29 rfl)).2.2.2
theorem Ctx.g_NoWritings (C : Ctx w K mg) : mg "NoWritings" = some (.ref (He.ga K "NoWritings")) := C.glo 30 rfl
theorem Ctx.x_NoWritings (C : Ctx w K mg) : PySem.W.excIn K (He.ga K "NoWritings") He.veBase "ValueError.__new__" = true := (He.exc_ok (C.d.fact 31 rfl)).1
theorem Ctx.k_NoWritings (C : Ctx w K mg) : PySem.W.keepIn K (.ref (He.ga K "NoWritings")) = true := (He.exc_ok (C.d.fact 31 rfl)).2.1
theorem Ctx.r_NoWritings (C : Ctx w K mg) {X : Cx} (e : X.K = K := by rfl) : Raises X (.ref (He.ga K "NoWritings")) := by subst e; exact raises_own (He.exc_ok (C.d.fact 31 rfl)).2.2.1 (He.exc_ok (C.d.fact 31 rfl)).2.2.2
theorem Ctx.g_Machine (C : Ctx w K mg) : mg "Machine" = some (.ref (He.ga K "Machine")) := C.glo 33 rfl
theorem Ctx.c_SMALL (C : Ctx w K mg) : ∃ t, mg "SMALL" = some (.str "abcdefghijklmnopqrstuvwxyz" t) := by obtain ⟨h, X, G⟩ := C.inn; exact He.str_ok X G (C.d.fact 34 rfl)
theorem Ctx.c_HANDS (C : Ctx w K mg) : ∃ t, mg "HANDS" = some (.str "ABCD" t) := by obtain ⟨h, X, G⟩ := C.inn; exact He.str_ok X G (C.d.fact 35 rfl)
theorem Ctx.free_zip (C : Ctx w K mg) : mg "zip" = none := by obtain ⟨h, X, G⟩ := C.inn; exact He.free_ok X G (C.d.fact 36 rfl)
theorem Ctx.free_enumerate (C : Ctx w K mg) : mg "enumerate" = none := by obtain ⟨h, X, G⟩ := C.inn; exact He.free_ok X G (C.d.fact 37 rfl)
theorem Ctx.free_list (C : Ctx w K mg) : mg "list" = none := by obtain ⟨h, X, G⟩ := C.inn; exact He.free_ok X G (C.d.fact 38 rfl)
theorem Ctx.free_range (C : Ctx w K mg) : mg "range" = none := by obtain ⟨h, X, G⟩ := C.inn; exact He.free_ok X G (C.d.fact 39 rfl)
theorem Ctx.free_tuple (C : Ctx w K mg) : mg "tuple" = none := by obtain ⟨h, X, G⟩ := C.inn; exact He.free_ok X G (C.d.fact 40 rfl)
theorem Ctx.free_isinstance (C : Ctx w K mg) : mg "isinstance" = none := by obtain ⟨h, X, G⟩ := C.inn; exact He.free_ok X G (C.d.fact 41 rfl)
theorem Ctx.free_int (C : Ctx w K mg) : mg "int" = none := by obtain ⟨h, X, G⟩ := C.inn; exact He.free_ok X G (C.d.fact 42 rfl)
theorem Ctx.free_str (C : Ctx w K mg) : mg "str" = none := by obtain ⟨h, X, G⟩ := C.inn; exact He.free_ok X G (C.d.fact 43 rfl)
theorem Ctx.free_max (C : Ctx w K mg) : mg "max" = none := by obtain ⟨h, X, G⟩ := C.inn; exact He.free_ok X G (C.d.fact 44 rfl)
theorem Ctx.free_abs (C : Ctx w K mg) : mg "abs" = none := by obtain ⟨h, X, G⟩ := C.inn; exact He.free_ok X G (C.d.fact 45 rfl)
theorem Ctx.free_len (C : Ctx w K mg) : mg "len" = none := by obtain ⟨h, X, G⟩ := C.inn; exact He.free_ok X G (C.d.fact 46 rfl)
theorem Ctx.free_sorted (C : Ctx w K mg) : mg "sorted" = none := by obtain ⟨h, X, G⟩ := C.inn; exact He.free_ok X G (C.d.fact 47 rfl)
theorem Ctx.free_bool (C : Ctx w K mg) : mg "bool" = none := by obtain ⟨h, X, G⟩ := C.inn; exact He.free_ok X G (C.d.fact 48 rfl)
theorem Ctx.free_min (C : Ctx w K mg) : mg "min" = none := by obtain ⟨h, X, G⟩ := C.inn; exact He.free_ok X G (C.d.fact 49 rfl)
theorem Ctx.cl_Machine (C : Ctx w K mg) : Cls K (He.ga K "Machine") := He.cls_ok (C.d.fact 50 rfl)
theorem Ctx.n_Machine_kept_letters (C : Ctx w K mg) : NoAttr K (He.ga K "Machine") "kept_letters" := He.noat_ok (C.d.fact 51 rfl)
theorem Ctx.n_Machine_kept_table (C : Ctx w K mg) : NoAttr K (He.ga K "Machine") "kept_table" := He.noat_ok (C.d.fact 52 rfl)
theorem Ctx.n_Machine_kept_accepts (C : Ctx w K mg) : NoAttr K (He.ga K "Machine") "kept_accepts" := He.noat_ok (C.d.fact 53 rfl)
theorem Ctx.n_Machine_kept_least (C : Ctx w K mg) : NoAttr K (He.ga K "Machine") "kept_least" := He.noat_ok (C.d.fact 54 rfl)
theorem Ctx.n_Machine_kept_field (C : Ctx w K mg) : NoAttr K (He.ga K "Machine") "kept_field" := He.noat_ok (C.d.fact 55 rfl)
theorem Ctx.n_Machine_kept_lots (C : Ctx w K mg) : NoAttr K (He.ga K "Machine") "kept_lots" := He.noat_ok (C.d.fact 56 rfl)
theorem Ctx.n_Machine_kept_more (C : Ctx w K mg) : NoAttr K (He.ga K "Machine") "kept_more" := He.noat_ok (C.d.fact 57 rfl)
theorem Ctx.mk_Machine (C : Ctx w K mg) : Mk K (He.ga K "Machine") (He.ma K (He.ga K "Machine") "__init__") := He.mkr_ok (C.d.fact 58 rfl)
theorem Ctx.ml_Machine_keep (C : Ctx w K mg) : sf' K ["Machine"] "keep" (He.ma K (He.ga K "Machine") "keep") := by
  intro c h
  rcases List.mem_cons.mp h with rfl | h
  . exact ⟨C.cl_Machine, He.meth_ok (C.d.fact 59 rfl)⟩
  cases h
theorem Ctx.at_kept_letters (C : Ctx w K mg) : ∀ c ∈ ["Machine"], Cls K (He.ga K (Str.ofString c)) /\ NoAttr K (He.ga K (Str.ofString c)) (Str.ofString "kept_letters") := by
  intro c h
  rcases List.mem_cons.mp h with rfl | h
  . exact ⟨C.cl_Machine, C.n_Machine_kept_letters⟩
  cases h
theorem Ctx.at_kept_table (C : Ctx w K mg) : ∀ c ∈ ["Machine"], Cls K (He.ga K (Str.ofString c)) /\ NoAttr K (He.ga K (Str.ofString c)) (Str.ofString "kept_table") := by
  intro c h
  rcases List.mem_cons.mp h with rfl | h
  . exact ⟨C.cl_Machine, C.n_Machine_kept_table⟩
  cases h
theorem Ctx.at_kept_accepts (C : Ctx w K mg) : ∀ c ∈ ["Machine"], Cls K (He.ga K (Str.ofString c)) /\ NoAttr K (He.ga K (Str.ofString c)) (Str.ofString "kept_accepts") := by
  intro c h
  rcases List.mem_cons.mp h with rfl | h
  . exact ⟨C.cl_Machine, C.n_Machine_kept_accepts⟩
  cases h
theorem Ctx.at_kept_least (C : Ctx w K mg) : ∀ c ∈ ["Machine"], Cls K (He.ga K (Str.ofString c)) /\ NoAttr K (He.ga K (Str.ofString c)) (Str.ofString "kept_least") := by
  intro c h
  rcases List.mem_cons.mp h with rfl | h
  . exact ⟨C.cl_Machine, C.n_Machine_kept_least⟩
  cases h
theorem Ctx.at_kept_field (C : Ctx w K mg) : ∀ c ∈ ["Machine"], Cls K (He.ga K (Str.ofString c)) /\ NoAttr K (He.ga K (Str.ofString c)) (Str.ofString "kept_field") := by
  intro c h
  rcases List.mem_cons.mp h with rfl | h
  . exact ⟨C.cl_Machine, C.n_Machine_kept_field⟩
  cases h
theorem Ctx.at_kept_lots (C : Ctx w K mg) : ∀ c ∈ ["Machine"], Cls K (He.ga K (Str.ofString c)) /\ NoAttr K (He.ga K (Str.ofString c)) (Str.ofString "kept_lots") := by
  intro c h
  rcases List.mem_cons.mp h with rfl | h
  . exact ⟨C.cl_Machine, C.n_Machine_kept_lots⟩
  cases h
theorem Ctx.at_kept_more (C : Ctx w K mg) : ∀ c ∈ ["Machine"], Cls K (He.ga K (Str.ofString c)) /\ NoAttr K (He.ga K (Str.ofString c)) (Str.ofString "kept_more") := by
  intro c h
  rcases List.mem_cons.mp h with rfl | h
  . exact ⟨C.cl_Machine, C.n_Machine_kept_more⟩
  cases h
theorem Ctx.f_is_integer (C : Ctx w K mg) : ∃ fd, FunD K "is_integer" "is_integer" (defArgs aP') (defBody aP') (defScope aP') [] [] (He.ga K "is_integer") fd := C.d.def_ 0 (d := dg') rfl
theorem hr' {f : Addr} {fd : FuncData} (F : FunD K "is_integer" "is_integer" (defArgs aP') (defBody aP') (defScope aP') [] [] f fd) : Binds K fd ["thing"] [] := F.bindsN fun _ _ _ _ _ _ us hl => match us, hl with | [_], _ => rfl
theorem Ctx.f_is_string_of (C : Ctx w K mg) : ∃ fd, FunD K "is_string_of" "is_string_of" (defArgs aw') (defBody aw') (defScope aw') [] [] (He.ga K "is_string_of") fd := C.d.def_ 1 (d := cw') rfl
theorem eL' {f : Addr} {fd : FuncData} (F : FunD K "is_string_of" "is_string_of" (defArgs aw') (defBody aw') (defScope aw') [] [] f fd) : Binds K fd ["thing", "signs"] [] := F.bindsN fun _ _ _ _ _ _ us hl => match us, hl with | [_, _], _ => rfl
theorem Ctx.f_is_ascending (C : Ctx w K mg) : ∃ fd, FunD K "is_ascending" "is_ascending" (defArgs ax') (defBody ax') (defScope ax') [] [] (He.ga K "is_ascending") fd := C.d.def_ 2 (d := cx') rfl
theorem eM' {f : Addr} {fd : FuncData} (F : FunD K "is_ascending" "is_ascending" (defArgs ax') (defBody ax') (defScope ax') [] [] f fd) : Binds K fd ["thing"] [] := F.bindsN fun _ _ _ _ _ _ us hl => match us, hl with | [_], _ => rfl
theorem Ctx.f_is_choice (C : Ctx w K mg) : ∃ fd, FunD K "is_choice" "is_choice" (defArgs aU') (defBody aU') (defScope aU') [] [] (He.ga K "is_choice") fd := C.d.def_ 3 (d := dC') rfl
theorem iA' {f : Addr} {fd : FuncData} (F : FunD K "is_choice" "is_choice" (defArgs aU') (defBody aU') (defScope aU') [] [] f fd) : Binds K fd ["thing", "signs"] [] := F.bindsN fun _ _ _ _ _ _ us hl => match us, hl with | [_, _], _ => rfl
theorem Ctx.f_check_dealing (C : Ctx w K mg) : ∃ fd, FunD K "check_dealing" "check_dealing" (defArgs ar') (defBody ar') (defScope ar') [] [] (He.ga K "check_dealing") fd := C.d.def_ 4 (d := ch') rfl
theorem eu' {f : Addr} {fd : FuncData} (F : FunD K "check_dealing" "check_dealing" (defArgs ar') (defBody ar') (defScope ar') [] [] f fd) : Binds K fd ["thing"] [] := F.bindsN fun _ _ _ _ _ _ us hl => match us, hl with | [_], _ => rfl
theorem Ctx.f_hands_of (C : Ctx w K mg) : ∃ fd, FunD K "hands_of" "hands_of" (defArgs a9') (defBody a9') (defScope a9') [] [] (He.ga K "hands_of") fd := C.d.def_ 5 (d := er') rfl
theorem kW' {f : Addr} {fd : FuncData} (F : FunD K "hands_of" "hands_of" (defArgs a9') (defBody a9') (defScope a9') [] [] f fd) : Binds K fd ["dealing"] [] := F.bindsN fun _ _ _ _ _ _ us hl => match us, hl with | [_], _ => rfl
theorem Ctx.f_are_states (C : Ctx w K mg) : ∃ fd, FunD K "are_states" "are_states" (defArgs aQ') (defBody aQ') (defScope aQ') [] [] (He.ga K "are_states") fd := C.d.def_ 6 (d := dh') rfl
theorem hs' {f : Addr} {fd : FuncData} (F : FunD K "are_states" "are_states" (defArgs aQ') (defBody aQ') (defScope aQ') [] [] f fd) : Binds K fd ["thing", "many"] [] := F.bindsN fun _ _ _ _ _ _ us hl => match us, hl with | [_, _], _ => rfl
theorem Ctx.f_is_table (C : Ctx w K mg) : ∃ fd, FunD K "is_table" "is_table" (defArgs a8') (defBody a8') (defScope a8') [] [] (He.ga K "is_table") fd := C.d.def_ 7 (d := eq') rfl
theorem kV' {f : Addr} {fd : FuncData} (F : FunD K "is_table" "is_table" (defArgs a8') (defBody a8') (defScope a8') [] [] f fd) : Binds K fd ["thing", "letters"] [] := F.bindsN fun _ _ _ _ _ _ us hl => match us, hl with | [_, _], _ => rfl
theorem Ctx.f_Machine___init__ (C : Ctx w K mg) : ∃ fd, FunD K "__init__" "Machine.__init__" (defArgs aj') (defBody aj') (defScope aj') [] [] (He.ma K (He.ga K "Machine") "__init__") fd := C.d.def_ 8 (d := bN') rfl
theorem dj' {f : Addr} {fd : FuncData} (F : FunD K "__init__" "Machine.__init__" (defArgs aj') (defBody aj') (defScope aj') [] [] f fd) : Binds K fd ["self", "letters", "table", "accepts"] [] := F.bindsN fun _ _ _ _ _ _ us hl => match us, hl with | [_, _, _, _], _ => rfl
theorem Ctx.f_Machine_keep (C : Ctx w K mg) : ∃ fd, FunD K "keep" "Machine.keep" (defArgs ay') (defBody ay') (defScope ay') [] [] (He.ma K (He.ga K "Machine") "keep") fd := C.d.def_ 9 (d := cz') rfl
theorem eO' {f : Addr} {fd : FuncData} (F : FunD K "keep" "Machine.keep" (defArgs ay') (defBody ay') (defScope ay') [] [] f fd) : Binds K fd ["self", "letters", "table", "accepts"] [] := F.bindsN fun _ _ _ _ _ _ us hl => match us, hl with | [_, _, _, _], _ => rfl
theorem Ctx.f_led (C : Ctx w K mg) : ∃ fd, FunD K "led" "led" (defArgs eF') (defBody eF') (defScope eF') [] [] (He.ga K "led") fd := C.d.def_ 10 (d := qs') rfl
theorem xr' {f : Addr} {fd : FuncData} (F : FunD K "led" "led" (defArgs eF') (defBody eF') (defScope eF') [] [] f fd) : Binds K fd ["machine", "state", "word"] [] := F.bindsN fun _ _ _ _ _ _ us hl => match us, hl with | [_, _, _], _ => rfl
theorem Ctx.f_check_two (C : Ctx w K mg) : ∃ fd, FunD K "check_two" "check_two" (defArgs aV') (defBody aV') (defScope aV') [] [] (He.ga K "check_two") fd := C.d.def_ 11 (d := dD') rfl
theorem iB' {f : Addr} {fd : FuncData} (F : FunD K "check_two" "check_two" (defArgs aV') (defBody aV') (defScope aV') [] [] f fd) : Binds K fd ["dealing"] [] := F.bindsN fun _ _ _ _ _ _ us hl => match us, hl with | [_], _ => rfl
theorem Ctx.f_check_writings (C : Ctx w K mg) : ∃ fd, FunD K "check_writings" "check_writings" (defArgs ao') (defBody ao') (defScope ao') [] [] (He.ga K "check_writings") fd := C.d.def_ 12 (d := b7') rfl
theorem dQ' {f : Addr} {fd : FuncData} (F : FunD K "check_writings" "check_writings" (defArgs ao') (defBody ao') (defScope ao') [] [] f fd) : Binds K fd ["machine", "dealing", "hand", "thing"] [] := F.bindsN fun _ _ _ _ _ _ us hl => match us, hl with | [_, _, _, _], _ => rfl
theorem Ctx.f_row_of (C : Ctx w K mg) : ∃ fd, FunD K "row_of" "row_of" (defArgs bA') (defBody bA') (defScope bA') [] [] (He.ga K "row_of") fd := C.d.def_ 13 (d := g2') rfl
theorem pA' {f : Addr} {fd : FuncData} (F : FunD K "row_of" "row_of" (defArgs bA') (defBody bA') (defScope bA') [] [] f fd) : Binds K fd ["dealing", "one", "other"] [] := F.bindsN fun _ _ _ _ _ _ us hl => match us, hl with | [_, _, _], _ => rfl
theorem Ctx.f_answer_of (C : Ctx w K mg) : ∃ fd, FunD K "answer_of" "answer_of" (defArgs aW') (defBody aW') (defScope aW') [] [] (He.ga K "answer_of") fd := C.d.def_ 14 (d := dE') rfl
theorem iC' {f : Addr} {fd : FuncData} (F : FunD K "answer_of" "answer_of" (defArgs aW') (defBody aW') (defScope aW') [] [] f fd) : Binds K fd ["machine", "row"] [] := F.bindsN fun _ _ _ _ _ _ us hl => match us, hl with | [_, _], _ => rfl
theorem Ctx.f_answers (C : Ctx w K mg) : ∃ fd, FunD K "answers" "answers" (defArgs bf') (defBody bf') (defScope bf') [] [] (He.ga K "answers") fd := C.d.def_ 15 (d := e4') rfl
theorem nO' {f : Addr} {fd : FuncData} (F : FunD K "answers" "answers" (defArgs bf') (defBody bf') (defScope bf') [] [] f fd) : Binds K fd ["machine", "dealing", "ones", "others"] [] := F.bindsN fun _ _ _ _ _ _ us hl => match us, hl with | [_, _, _, _], _ => rfl
theorem Ctx.f__law_hand (C : Ctx w K mg) : ∃ fd, FunD K "_law_hand" "_law_hand" (defArgs aS') (defBody aS') (defScope aS') [] [] (He.ga K "_law_hand") fd := C.d.def_ 16 (d := dG') rfl
theorem iE' {f : Addr} {fd : FuncData} (F : FunD K "_law_hand" "_law_hand" (defArgs aS') (defBody aS') (defScope aS') [] [] f fd) : Binds K fd ["_law_script"] [] := F.bindsN fun _ _ _ _ _ _ us hl => match us, hl with | [_], _ => rfl
theorem Ctx.f__law_draw (C : Ctx w K mg) : ∃ fd, FunD K "_law_draw" "_law_draw" (defArgs aX') (defBody aX') (defScope aX') [] [] (He.ga K "_law_draw") fd := C.d.def_ 17 (d := dH') rfl
theorem iF' {f : Addr} {fd : FuncData} (F : FunD K "_law_draw" "_law_draw" (defArgs aX') (defBody aX') (defScope aX') [] [] f fd) : Binds K fd ["_law_hand_here", "_law_many"] [] := F.bindsN fun _ _ _ _ _ _ us hl => match us, hl with | [_, _], _ => rfl
theorem Ctx.f__law_shuffled (C : Ctx w K mg) : ∃ fd, FunD K "_law_shuffled" "_law_shuffled" (defArgs as') (defBody as') (defScope as') [] [] (He.ga K "_law_shuffled") fd := C.d.def_ 18 (d := cj') rfl
theorem ew' {f : Addr} {fd : FuncData} (F : FunD K "_law_shuffled" "_law_shuffled" (defArgs as') (defBody as') (defScope as') [] [] f fd) : Binds K fd ["_law_hand_here", "_law_things"] [] := F.bindsN fun _ _ _ _ _ _ us hl => match us, hl with | [_, _], _ => rfl
theorem Ctx.f__law_rows (C : Ctx w K mg) : ∃ fd, FunD K "_law_rows" "_law_rows" (defArgs aM') (defBody aM') (defScope aM') [] [] (He.ga K "_law_rows") fd := C.d.def_ 19 (d := dF') rfl
theorem iD' {f : Addr} {fd : FuncData} (F : FunD K "_law_rows" "_law_rows" (defArgs aM') (defBody aM') (defScope aM') [] [] f fd) : Binds K fd ["_law_hand_here", "_law_kind", "_law_size", "_law_many"] [] := F.bindsN fun _ _ _ _ _ _ us hl => match us, hl with | [_, _, _, _], _ => rfl
theorem Ctx.f__law_parts (C : Ctx w K mg) : ∃ fd, FunD K "_law_parts" "_law_parts" (defArgs aI') (defBody aI') (defScope aI') [] [] (He.ga K "_law_parts") fd := C.d.def_ 20 (d := di') rfl
theorem ht' {f : Addr} {fd : FuncData} (F : FunD K "_law_parts" "_law_parts" (defArgs aI') (defBody aI') (defScope aI') [] [] f fd) : Binds K fd ["_law_hand_here", "_law_fewest", "_law_most", "_law_states"] [] := F.bindsN fun _ _ _ _ _ _ us hl => match us, hl with | [_, _, _, _], _ => rfl
theorem Ctx.f__law_led (C : Ctx w K mg) : ∃ fd, FunD K "_law_led" "_law_led" (defArgs ba') (defBody ba') (defScope ba') [] [] (He.ga K "_law_led") fd := C.d.def_ 21 (d := es') rfl
theorem kX' {f : Addr} {fd : FuncData} (F : FunD K "_law_led" "_law_led" (defArgs ba') (defBody ba') (defScope ba') [] [] f fd) : Binds K fd ["_law_letters", "_law_rows_here", "_law_state", "_law_word"] [] := F.bindsN fun _ _ _ _ _ _ us hl => match us, hl with | [_, _, _, _], _ => rfl
theorem Ctx.f__law_dealing (C : Ctx w K mg) : ∃ fd, FunD K "_law_dealing" "_law_dealing" (defArgs ap') (defBody ap') (defScope ap') [] [] (He.ga K "_law_dealing") fd := C.d.def_ 22 (d := cy') rfl
theorem eN' {f : Addr} {fd : FuncData} (F : FunD K "_law_dealing" "_law_dealing" (defArgs ap') (defBody ap') (defScope ap') [] [] f fd) : Binds K fd ["_law_hand_here", "_law_many"] [] := F.bindsN fun _ _ _ _ _ _ us hl => match us, hl with | [_, _], _ => rfl
theorem Ctx.f__law_writings (C : Ctx w K mg) : ∃ fd, FunD K "_law_writings" "_law_writings" (defArgs an') (defBody an') (defScope an') [] [] (He.ga K "_law_writings") fd := C.d.def_ 23 (d := ci') rfl
theorem ev' {f : Addr} {fd : FuncData} (F : FunD K "_law_writings" "_law_writings" (defArgs an') (defBody an') (defScope an') [] [] f fd) : Binds K fd ["_law_hand_here", "_law_letters", "_law_many", "_law_most"] [] := F.bindsN fun _ _ _ _ _ _ us hl => match us, hl with | [_, _, _, _], _ => rfl
theorem Ctx.f__law_joined (C : Ctx w K mg) : ∃ fd, FunD K "_law_joined" "_law_joined" (defArgs aG') (defBody aG') (defScope aG') [] [] (He.ga K "_law_joined") fd := C.d.def_ 24 (d := cQ') rfl
theorem fO' {f : Addr} {fd : FuncData} (F : FunD K "_law_joined" "_law_joined" (defArgs aG') (defBody aG') (defScope aG') [] [] f fd) : Binds K fd ["_law_dealing_here", "_law_one", "_law_other"] [] := F.bindsN fun _ _ _ _ _ _ us hl => match us, hl with | [_, _, _], _ => rfl
theorem Ctx.f__law_due (C : Ctx w K mg) : ∃ fd, FunD K "_law_due" "_law_due" (defArgs bb') (defBody bb') (defScope bb') [] [] (He.ga K "_law_due") fd := C.d.def_ 25 (d := et') rfl
theorem kY' {f : Addr} {fd : FuncData} (F : FunD K "_law_due" "_law_due" (defArgs bb') (defBody bb') (defScope bb') [] [] f fd) : Binds K fd ["_law_letters", "_law_table", "_law_accepts", "_law_dealing_here", "_law_ones", "_law_others"] [] := F.bindsN fun _ _ _ _ _ _ us hl => match us, hl with | [_, _, _, _, _, _], _ => rfl
theorem Ctx.f__law_is_due (C : Ctx w K mg) : ∃ fd, FunD K "_law_is_due" "_law_is_due" (defArgs aH') (defBody aH') (defScope aH') [] [] (He.ga K "_law_is_due") fd := C.d.def_ 26 (d := cR') rfl
theorem fP' {f : Addr} {fd : FuncData} (F : FunD K "_law_is_due" "_law_is_due" (defArgs aH') (defBody aH') (defScope aH') [] [] f fd) : Binds K fd ["_law_found", "_law_due_here"] [] := F.bindsN fun _ _ _ _ _ _ us hl => match us, hl with | [_, _], _ => rfl
theorem Ctx.f_law (C : Ctx w K mg) : ∃ fd, FunD K "law" "law" (defArgs eG') (defBody eG') (defScope eG') [] [] (He.ga K "law") fd := C.d.def_ 27 (d := qt') rfl
end
end S
namespace M
structure En where
  nx : PSt -> Prop
  rt : O -> W -> Prop
  bk : PSt -> Prop
  ct : PSt -> Prop
  ex : Exc -> PSt -> Prop
def vE {α : Type} (r : Res α) (Q : α -> PSt -> Prop) (X : Exc -> PSt -> Prop) : Prop := match r with
  | .ok a ρ => Q a ρ
  | .exc x ρ => X x ρ
  | .bad => False
def vS (o : Out) (D : En) : Prop := match o with
  | .nx ρ => D.nx ρ
  | .rt o w => D.rt o w
  | .bk ρ => D.bk ρ
  | .ct ρ => D.ct ρ
  | .exc x ρ => D.ex x ρ
  | .bad => False
def vF (r : FRes) (Q : O -> W -> Prop) (X : Exc -> W -> Prop) : Prop := match r with
  | .ok o w => Q o w
  | .exc x w => X x w
  | .bad => False
def vD {α : Type} (o : Option α) (Q : α -> Prop) : Prop := match o with
  | some z => Q z
  | none => False
def vI (k : Bool) (A B : Prop) : Prop := if k = true then A else B
def vB (d : D) (P : Bool -> Prop) : Prop := match d with
  | .bl k => P k
  | _ => False
def vT (d : D) (P : Tx -> Prop) : Prop := match d with
  | .str s => P s
  | _ => False
def vN (d : D) (P : Int -> Prop) : Prop := match d with
  | .int s => P s
  | _ => False
def vV (o : Option (Option O)) (i : Nat) (ρ : PSt) (Q : D -> PSt -> Prop) : Prop := match o with
  | some (some (.fz d)) => Q d ρ
  | some (some .exn) => False
  | some (some .clo) => False
  | some (some o) => Q (frz o) ⟨ρ.env.set i (some (.fz (frz o))), ρ.w⟩
  | _ => False
def vG (o : Option (Option O)) (i : Nat) (ρ : PSt) (Q : O -> PSt -> Prop) : Prop := match o with
  | some (some (.fz d)) => Q (.fz d) ρ
  | some (some .exn) => False
  | some (some .clo) => False
  | some (some o) => Q o ⟨ρ.env.set i none, ρ.w⟩
  | _ => False
def vO (o : Option (Option O)) (Q : O -> Prop) : Prop := match o with
  | some (some o) => Q o
  | _ => False
def vL (o : Option (Option O)) (Q : List O -> Prop) : Prop := match o with
  | some (some (.lst os)) => Q os
  | _ => False
def asF : O -> Option D
  | .fz d => some d
  | _ => none
def asL : D -> Option (List D)
  | .lst ds => some ds
  | _ => none
abbrev FX : Exc -> W -> Prop := fun _ _ => False
abbrev PX : Exc -> PSt -> Prop := fun _ _ => False
section
variable {α β : Type} {Q : α -> PSt -> Prop} {X : Exc -> PSt -> Prop} {ρ : PSt} {P : D -> PSt -> Prop} {D0 : En}
theorem ag' (r : Res β) (f : β -> PSt -> Res α) : vE (r.bind f) Q X = vE r (fun b ρ => vE (f b ρ) Q X) X := by cases r <;> rfl
theorem bl' (r : Res β) (f : β -> PSt -> Out) : vS (r.out f) D0 = vE r (fun b ρ => vS (f b ρ) D0) D0.ex := by cases r <;> rfl
theorem a5' (o : Option α) : vE (ofO o ρ) Q X = vD o (fun z => Q z ρ) := by cases o <;> rfl
theorem d3' (a : α) : vE (.ok a ρ) Q X = Q a ρ := rfl
theorem dV' (d : D) {Q : Bool -> PSt -> Prop} : vE (asB d ρ) Q X = vB d (fun k => Q k ρ) := by cases d <;> rfl
theorem dU' (k : Bool) (a b : Res α) : vE (if k = true then a else b) Q X = vI k (vE a Q X) (vE b Q X) := by cases k <;> rfl
theorem oc' (k : Bool) (a b : Out) : vS (if k = true then a else b) D0 = vI k (vS a D0) (vS b D0) := by cases k <;> rfl
theorem gc' (z : α) {Q : α -> Prop} : vD (some z) Q = Q z := rfl
theorem lu' (k : Bool) {Q : Bool -> Prop} : vB (.bl k) Q = Q k := rfl
theorem pT' (A B : Prop) : vI true A B = A := rfl
theorem pU' (A B : Prop) : vI false A B = B := rfl
theorem i7' (k : Bool) (A B : Prop) : vI (!k) A B = vI k B A := by cases k <;> rfl
theorem s1' (d : D) : vE (eC d ρ) P X = P d ρ := rfl
theorem sZ' (i : Nat) (env : List (Option O)) (w : W) : vE (eV i ⟨env, w⟩) P X = vV env[i]? i ⟨env, w⟩ P := by
  show vE (match env[i]? with | some (some (.fz d)) => Res.ok d ⟨env, w⟩ | some (some .exn) => .bad | some (some .clo) => .bad | some (some o) => .ok (frz o) ⟨env.set i (some (.fz (frz o))), w⟩ | _ => .bad) P X = _
  rcases env[i]? with _ | _ | o
  . rfl
  . rfl
  . cases o <;> rfl
theorem lo' (d : D) (i : Nat) (ρ : PSt) : vV (some (some (.fz d))) i ρ P = P d ρ := rfl
theorem i2' (os : List O) (i : Nat) (env : List (Option O)) (w : W) : vV (some (some (.lst os))) i ⟨env, w⟩ P = P (.lst (frzs os)) ⟨env.set i (some (.fz (.lst (frzs os)))), w⟩ := rfl
theorem i1' (os : List O) (i : Nat) (env : List (Option O)) (w : W) : vV (some (some (.tup os))) i ⟨env, w⟩ P = P (.tup (frzs os)) ⟨env.set i (some (.fz (.tup (frzs os)))), w⟩ := rfl
theorem i3' (ks : List D) (os : List O) (i : Nat) (env : List (Option O)) (w : W) : vV (some (some (.dct ks os))) i ⟨env, w⟩ P = P (.dct ks (frzs os)) ⟨env.set i (some (.fz (.dct ks (frzs os)))), w⟩ := rfl
theorem lq' (d : D) (i : Nat) (ρ : PSt) {P : O -> PSt -> Prop} : vG (some (some (.fz d))) i ρ P = P (.fz d) ρ := rfl
theorem ja' (os : List O) (i : Nat) (env : List (Option O)) (w : W) {P : O -> PSt -> Prop} : vG (some (some (.lst os))) i ⟨env, w⟩ P = P (.lst os) ⟨env.set i none, w⟩ := rfl
theorem i9' (os : List O) (i : Nat) (env : List (Option O)) (w : W) {P : O -> PSt -> Prop} : vG (some (some (.tup os))) i ⟨env, w⟩ P = P (.tup os) ⟨env.set i none, w⟩ := rfl
theorem jb' (ks : List D) (os : List O) (i : Nat) (env : List (Option O)) (w : W) {P : O -> PSt -> Prop} : vG (some (some (.dct ks os))) i ⟨env, w⟩ P = P (.dct ks os) ⟨env.set i none, w⟩ := rfl
theorem ga' (o : O) {P : O -> Prop} : vO (some (some o)) P = P o := rfl
theorem i6' (os : List O) {P : List O -> Prop} : vL (some (some (.lst os))) P = P os := rfl
theorem pP' (f : D -> D -> Option D) (a b : ME) : vE (eOp f a b ρ) P X = vE (a ρ) (fun x ρ1 => vE (b ρ1) (fun y ρ2 => vD (f x y) (fun z => P z ρ2)) X) X := by simp only [eOp, ag', a5']
theorem pM' (f : D -> Option D) (a : ME) : vE (eUn f a ρ) P X = vE (a ρ) (fun x ρ1 => vD (f x) (fun z => P z ρ1)) X := by simp only [eUn, ag', a5']
theorem ln' (a b : ME) : vE (sm' a b ρ) P X = vE (a ρ) (fun x ρ1 => vB x fun k => vI k (vE (b ρ1) P X) (P (.bl false) ρ1)) X := by simp only [sm', ag', dV', dU', d3']
theorem lh' (a : ME) : vE (up' a ρ) P X = vE (a ρ) (fun x ρ1 => vB x fun k => P (.bl (!k)) ρ1) X := by simp only [up', ag', dV', d3']
theorem f7' (f g : D -> D -> Option D) (a b c : ME) : vE (ep' f g a b c ρ) P X = vE (a ρ) (fun x ρ1 => vE (b ρ1) (fun y ρ2 => vD (f x y) fun r => vB r fun k => vI k (vE (c ρ2) (fun z ρ3 => vD (g y z) fun v => P v ρ3) X) (P (.bl false) ρ2)) X) X := by
  simp only [ep', ag', a5', dV', dU', d3']
theorem li' {P : List D -> PSt -> Prop} : vE (bc' ρ) P X = P [] ρ := rfl
theorem iZ' (a : ME) (r : MA) {P : List D -> PSt -> Prop} : vE (ad' a r ρ) P X = vE (a ρ) (fun x ρ1 => vE (r ρ1) (fun xs ρ2 => P (x :: xs) ρ2) X) X := by simp only [ad', ag', d3']
def fS' (n : Nat) (A : Prop) : Prop := n <= 16777216 /\ A
theorem gb' {n : Nat} (h : n <= 16777216) (A : Prop) : fS' n A = A := by unfold fS'; simp [h]
theorem lf' (as : MA) : vE (uo' as ρ) P X = vE (as ρ) (fun xs ρ1 => fS' xs.length (P (.tup xs) ρ1)) X := by
  simp only [uo', ag']
  congr
  funext xs ρ1
  unfold fS'
  by_cases h : xs.length <= 16777216
  . rw [if_pos h]; simp [vE, h]
  . rw [if_neg h]; simp [vE, h]
theorem lj' (as : MA) : vE (nz' as ρ) P X = vE (as ρ) (fun xs ρ1 => fS' xs.length (P (.lst xs) ρ1)) X := by
  simp only [nz', ag']
  congr
  funext xs ρ1
  unfold fS'
  by_cases h : xs.length <= 16777216
  . rw [if_pos h]; simp [vE, h]
  . rw [if_neg h]; simp [vE, h]
theorem pR' (f : Tx -> List D -> Option D) (a : ME) (as : MA) : vE (eMt f a as ρ) P X = vE (a ρ) (fun x ρ1 => vT x fun s => vE (as ρ1) (fun ds ρ2 => vD (f s ds) fun z => P z ρ2) X) X := by
  simp only [eMt, ag']
  congr
  funext x ρ1
  cases x <;> simp only [ag', a5'] <;> rfl
theorem i4' (s : Tx) {P : Tx -> Prop} : vT (.str s) P = P s := rfl
theorem i5' (s : Int) {P : Int -> Prop} : vN (.int s) P = P s := rfl
theorem pQ' {P : Option Int -> PSt -> Prop} : vE (pNo ρ) P X = P none ρ := rfl
theorem pN' (a : ME) {P : Option Int -> PSt -> Prop} : vE (pSo a ρ) P X = vE (a ρ) (fun x ρ1 => vN x fun i => P (some i) ρ1) X := by
  simp only [pSo, ag']
  congr
  funext x ρ1
  cases x <;> rfl
theorem pO' (a : ME) (lo hi : MP) : vE (eSl a lo hi ρ) P X = vE (a ρ) (fun x ρ1 => vE (lo ρ1) (fun l ρ2 => vE (hi ρ2) (fun h ρ3 => vD (pSl x l h) fun z => P z ρ3) X) X) X := by simp only [eSl, ag', a5']
theorem s0' (a : MO) : vE (eO a ρ) P X = vE (a ρ) (fun o ρ1 => P (frz o) ρ1) X := by simp only [eO, ag', d3']
variable {R : O -> PSt -> Prop}
theorem pL' (a : ME) : vE (oE a ρ) R X = vE (a ρ) (fun d ρ1 => R (.fz d) ρ1) X := by simp only [oE, ag', d3']
theorem pK' (i : Nat) (env : List (Option O)) (w : W) : vE (oV i ⟨env, w⟩) R X = vG env[i]? i ⟨env, w⟩ R := by
  show vE (match env[i]? with | some (some (.fz d)) => Res.ok (O.fz d) ⟨env, w⟩ | some (some .exn) => .bad | some (some .clo) => .bad | some (some o) => .ok o ⟨env.set i none, w⟩ | _ => .bad) R X = _
  rcases env[i]? with _ | _ | o
  . rfl
  . rfl
  . cases o <;> rfl
theorem i0' (f : MF) (as : MA) : vE (aD' f as ρ) R X = vE (as ρ) (fun ds ρ1 => vF (f ds ρ1.w) (fun o w => R o ⟨ρ1.env, w⟩) fun x w => X x ⟨ρ1.env, w⟩) X := by
  simp only [aD', ag']
  congr
  funext ds ρ1
  cases f ds ρ1.w <;> rfl
theorem iS' (a : ME) : vE (hX' a ρ) R X = vE (a ρ) (fun d ρ1 => vD (asL d) fun ds => R (.lst (ds.map .fz)) ρ1) X := by
  simp only [hX', ag']
  congr
  funext d ρ1
  cases d <;> rfl
theorem f4' : vE (mW' ρ) R X = R (.dct [] []) ρ := rfl
theorem f6' (i : Nat) (a : ME) (env : List (Option O)) (w : W) : vE (gZ' i a ⟨env, w⟩) P X = vL env[i]? fun _ => vE (a ⟨env, w⟩) (fun d ρ1 => vN d fun z => vL ρ1.env[i]? fun os => fS' os.length (vD (ixn os.length z) fun j => vD os[j]? fun o => vD (asF o) fun y => P y ⟨ρ1.env.set i (some (.lst (os.eraseIdx j))), ρ1.w⟩)) X := by
  show vE (match env[i]? with
  | some (some (.lst _)) => (a ⟨env, w⟩).bind fun d ρ1 => match ρ1.env[i]?, d with
    | some (some (.lst os)), .int z => (match (if os.length <= cM' then ixn os.length z else none) with
      | some j => (match os[j]? with
        | some (.fz y) => .ok y ⟨ρ1.env.set i (some (.lst (os.eraseIdx j))), ρ1.w⟩
        | _ => .bad)
      | none => .bad)
    | _, _ => .bad
  | _ => .bad) P X = _
  rcases env[i]? with _ | _ | o
  . rfl
  . rfl
  cases o with
  | lst os0 =>
    simp only [ag', vL]
    congr
    funext d ρ1
    cases d with
    | int z =>
      simp only [vN]
      rcases ρ1.env[i]? with _ | _ | o
      . rfl
      . rfl
      cases o with
      | lst os =>
        simp only [fS']
        by_cases hl : os.length <= 16777216
        . simp only [hl, if_pos, true_and]
          cases ixn os.length z with
          | none => rfl
          | some j =>
            simp only [vD]
            rcases os[j]? with _ | o
            . rfl
            . cases o <;> rfl
        . simp only [hl, if_neg, false_and]; simp [vE]
      | _ => rfl
    | _ =>
      rcases ρ1.env[i]? with _ | _ | o
      . rfl
      . rfl
      cases o <;> rfl
  | _ => rfl
theorem ll' (i : Nat) (b : ME) (env : List (Option O)) (w : W) : vE (uq' i b ⟨env, w⟩) P X = vO env[i]? fun _ => vE (b ⟨env, w⟩) (fun k ρ1 => vO ρ1.env[i]? fun o => vD (ixO o k) fun z => P z ρ1) X := by
  show vE (match env[i]? with
  | some (some _) => (b ⟨env, w⟩).bind fun k ρ1 => match ρ1.env[i]? with
    | some (some o) => ofO (ixO o k) ρ1
    | _ => .bad
  | _ => .bad) P X = _
  rcases env[i]? with _ | _ | o
  . rfl
  . rfl
  simp only [ag', vO]
  congr
  funext k ρ1
  rcases ρ1.env[i]? with _ | _ | o
  . rfl
  . rfl
  exact a5' _
theorem iY' (i : Nat) : vE (g0' i ρ) P X = vO ρ.env[i]? fun o => vD (nX' o) fun z => P z ρ := by
  unfold g0'
  rcases ρ.env[i]? with _ | _ | o
  . rfl
  . rfl
  exact a5' _
theorem lk' (a b : ME) : vE (fG' a b ρ) P X = vE (a ρ) (fun x ρ1 => vE (b ρ1) (fun y ρ2 => vD (ixW ρ2.w x y) fun z => P z ρ2) X) X := by simp only [fG', ag', a5']
theorem lg' (as : MA) : vE (tR' as ρ) R X = vE (as ρ) (fun xs ρ1 => fS' xs.length (R (.fz (.obj ρ1.w.length)) ⟨ρ1.env, ρ1.w ++ [.lst (xs.map .fz)]⟩)) X := by
  simp only [tR', ag']
  congr
  funext xs ρ1
  unfold fS'
  by_cases h : xs.length <= 16777216
  . rw [if_pos h]; simp [vE, h]
  . rw [if_neg h]; simp [vE, h]
theorem lm' (cs : List String) (a : ME) (f : String) : vE (pc' cs a f ρ) P X = vE (a ρ) (fun x ρ1 => vD (if' cs f ρ1.w x) fun z => P z ρ1) X := by simp only [pc', ag', a5']
theorem iW' (C : String) (init : MF) (as : MA) : vE (kD' C init as ρ) R X = vE (as ρ) (fun ds ρ1 => vF (init (.obj ρ1.w.length :: ds) (ρ1.w ++ [.ins C []])) (fun o w => o = .fz .non /\ R (.fz (.obj ρ1.w.length)) ⟨ρ1.env, w⟩) fun x w => X x ⟨ρ1.env, w⟩) X := by
  simp only [kD', ag']
  congr
  funext ds ρ1
  cases init (.obj ρ1.w.length :: ds) (ρ1.w ++ [.ins C []]) with
  | ok o w =>
    cases o with
    | fz d => cases d <;> simp [vE, vF]
    | _ => simp [vE, vF]
  | _ => rfl
theorem iV' (C : List String) (m : String) (f : MF) (a : ME) (as : MA) : vE (kC' C m f a as ρ) R X = vE (a ρ) (fun x ρ1 => ia' C m ρ1.w x = true /\ vE (as ρ1) (fun ds ρ2 => vF (f (x :: ds) ρ2.w) (fun o w => R o ⟨ρ2.env, w⟩) fun x w => X x ⟨ρ2.env, w⟩) X) X := by
  simp only [kC', ag']
  congr
  funext x ρ1
  by_cases h : ia' C m ρ1.w x = true
  . rw [if_pos h]
    simp only [h, true_and, ag']
    congr
    funext ds ρ2
    cases f (x :: ds) ρ2.w <;> rfl
  . rw [if_neg h]
    simp [vE, h]
def vX (o : Option (Option O)) (A : Prop) : Prop := match o with
  | some (some .exn) => A
  | _ => False
variable {B : Bool -> PSt -> Prop}
theorem pJ' (a : ME) : vE (tE a ρ) B X = vE (a ρ) (fun d ρ1 => vB d fun k => B k ρ1) X := by simp only [tE, ag', dV']
theorem iQ' (a : MT) : vE (d7' a ρ) B X = vE (a ρ) (fun k ρ1 => B (!k) ρ1) X := by simp only [d7', ag', d3']
theorem iR' (a b : MT) : vE (p9' a b ρ) B X = vE (a ρ) (fun k ρ1 => vI k (vE (b ρ1) B X) (B false ρ1)) X := by simp only [p9', ag', dU', d3']
theorem ld' (a b : MT) : vE (tOr a b ρ) B X = vE (a ρ) (fun k ρ1 => vI k (B true ρ1) (vE (b ρ1) B X)) X := by simp only [tOr, ag', dU', d3']
theorem pI' : vE (tT ρ) B X = B true ρ := rfl
variable {Y : List D -> PSt -> Prop}
theorem iU' (a : ME) : vE (fB' a ρ) Y X = vE (a ρ) (fun d ρ1 => vD (cS' d) fun z => Y z ρ1) X := by simp only [fB', ag', a5']
theorem d5' (a : ME) : vE (bj' a ρ) Y X = vE (a ρ) (fun d ρ1 => vD (dq' d) fun z => Y z ρ1) X := by simp only [bj', ag', a5']
theorem iT' (a b : ME) : vE (uf' a b ρ) Y X = vE (a ρ) (fun d ρ1 => vE (b ρ1) (fun e ρ2 => vD (nT' d e) fun z => Y z ρ2) X) X := by simp only [uf', ag', a5']
theorem f5' (a : ME) : vE (nv' a ρ) Y X = vE (a ρ) (fun d ρ1 => vD (enB d) fun z => Y z ρ1) X := by simp only [nv', ag', a5']
theorem pS' (own : List Nat) (it : MI) (g : MG) (t : MT) (e : ME) : vE (eLc own it g t e ρ) P X = vE (it ρ) (fun xs ρ1 => vE (lcL own g t e xs [] ρ1) (fun ys ρ2 => P (.lst ys) ⟨back ρ1.env own (a4' own ρ2.env), ρ2.w⟩) X) X := by simp only [eLc, ag', d3']
theorem le' (own : List Nat) (it : MI) (g : MG) (t : MT) (e : ME) : vE (oLc own it g t e ρ) R X = vE (it ρ) (fun xs ρ1 => vE (lcL own g t e xs [] ρ1) (fun ys ρ2 => R (.lst (ys.map .fz)) ⟨back ρ1.env own (a4' own ρ2.env), ρ2.w⟩) X) X := by simp only [oLc, ag', d3']
variable {N : PSt -> Prop} {rt : O -> W -> Prop} {bk ct : PSt -> Prop} {ex : Exc -> PSt -> Prop}
theorem jf' : vS (a6' ρ) ⟨N, rt, bk, ct, ex⟩ = N ρ := rfl
theorem jg' (a : ME) : vS (fk' a ρ) ⟨N, rt, bk, ct, ex⟩ = vE (a ρ) (fun _ ρ1 => N ρ1) ex := by simp only [fk', bl']; rfl
theorem lw' (a : MO) : vS (bT' a ρ) ⟨N, rt, bk, ct, ex⟩ = vE (a ρ) (fun o ρ1 => rt o ρ1.w) ex := by simp only [bT', bl']; rfl
theorem hG' (a b : MS) : vS (aF' a b ρ) ⟨N, rt, bk, ct, ex⟩ = vS (a ρ) ⟨fun ρ1 => vS (b ρ1) ⟨N, rt, bk, ct, ex⟩, rt, bk, ct, ex⟩ := by
  unfold aF'
  cases a ρ <;> rfl
theorem pV' (t : MT) (a b : MS) : vS (sIf t a b ρ) ⟨N, rt, bk, ct, ex⟩ = vE (t ρ) (fun k ρ1 => vI k (vS (a ρ1) ⟨N, rt, bk, ct, ex⟩) (vS (b ρ1) ⟨N, rt, bk, ct, ex⟩)) ex := by simp only [sIf, bl', oc']
def kv' (i n : Nat) (A : Prop) : Prop := i < n /\ A
theorem f8' {i n : Nat} (h : i < n) (A : Prop) : kv' i n A = A := by unfold kv'; simp [h]
theorem lv' (i : Nat) (a : MO) : vS (br' i a ρ) ⟨N, rt, bk, ct, ex⟩ = vE (a ρ) (fun o ρ1 => kv' i ρ1.env.length (N ⟨ρ1.env.set i (some o), ρ1.w⟩)) ex := by
  simp only [br', bl']
  congr
  funext o ρ1
  unfold ox' kv'
  by_cases h : i < ρ1.env.length
  . rw [if_pos h]; simp [vS, h]
  . rw [if_neg h]; simp [vS, h]
theorem lA' (g : MG) (a : ME) : vS (tr' g a ρ) ⟨N, rt, bk, ct, ex⟩ = vE (a ρ) (fun d ρ1 => vD (g d ρ1) N) ex := by
  simp only [tr', bl']
  congr
  funext o ρ1
  cases g o ρ1 <;> rfl
theorem lz' (f : D -> D -> Option D) (i : Nat) (a : ME) : vS (sg' f i a ρ) ⟨N, rt, bk, ct, ex⟩ = vO ρ.env[i]? fun o => vD (asF o) fun d => vE (a ρ) (fun y ρ1 => vD (f d y) fun z => kv' i ρ1.env.length (N ⟨ρ1.env.set i (some (.fz z)), ρ1.w⟩)) ex := by
  unfold sg'
  rcases ρ.env[i]? with _ | _ | o
  . rfl
  . rfl
  cases o with
  | fz d =>
    simp only [bl', vD, vO, asF]
    congr
    funext y ρ1
    cases f d y with
    | none => rfl
    | some z =>
      dsimp only
      unfold ox' kv'
      by_cases h : i < ρ1.env.length
      . rw [if_pos h]; simp [vS, h]
      . rw [if_neg h]; simp [vS, h]
  | _ => rfl
theorem lB' (i : Nat) (a : MO) : vS (jV' i a ρ) ⟨N, rt, bk, ct, ex⟩ = vL ρ.env[i]? fun _ => vE (a ρ) (fun o ρ1 => vL ρ1.env[i]? fun os => kv' os.length 16777216 (N ⟨ρ1.env.set i (some (.lst (os ++ [o]))), ρ1.w⟩)) ex := by
  unfold jV'
  rcases ρ.env[i]? with _ | _ | o
  . rfl
  . rfl
  cases o with
  | lst os0 =>
    simp only [bl', vL]
    congr
    funext o ρ1
    rcases ρ1.env[i]? with _ | _ | o2
    . rfl
    . rfl
    cases o2 with
    | lst os =>
      dsimp only
      unfold kv'
      by_cases h : os.length < 16777216
      . rw [if_pos h]; simp [vS, h]
      . rw [if_neg h]; simp [vS, h]
    | _ => rfl
  | _ => rfl
theorem je' (i : Nat) (k a : ME) : vS (mx' i k a ρ) ⟨N, rt, bk, ct, ex⟩ = vE (a ρ) (fun d ρ1 => vO ρ1.env[i]? fun _ => vE (k ρ1) (fun y ρ2 => vL ρ2.env[i]? fun os => vN y fun z => vD (ixn os.length z) fun j => N ⟨ρ2.env.set i (some (.lst (os.set j (.fz d)))), ρ2.w⟩) ex) ex := by
  simp only [mx', bl']
  congr
  funext d ρ1
  rcases ρ1.env[i]? with _ | _ | o
  . rfl
  . rfl
  simp only [bl', vO]
  congr
  funext y ρ2
  rcases ρ2.env[i]? with _ | _ | o2
  . rfl
  . rfl
  cases o2 with
  | lst os =>
    cases y with
    | int z => simp only [vL, vN]; cases ixn os.length z <;> rfl
    | _ => rfl
  | _ => rfl
theorem jd' (o k a : ME) : vS (c7' o k a ρ) ⟨N, rt, bk, ct, ex⟩ = vE (a ρ) (fun d ρ1 => vE (o ρ1) (fun x ρ2 => vE (k ρ2) (fun y ρ3 => vD (ol' ρ3.w x y d) fun w => N ⟨ρ3.env, w⟩) ex) ex) ex := by
  simp only [c7', bl']
  congr
  funext d ρ1
  congr
  funext x ρ2
  congr
  funext y ρ3
  cases ol' ρ3.w x y d <;> rfl
def xJ' (w : W) : D -> Option (List O)
  | .obj n => (match w[n]? with
    | some (.lst os) => some os
    | _ => none)
  | _ => none
def x2' (w : W) (b : Ob) : D -> W
  | .obj n => w.set n b
  | _ => w
theorem iX' (a : ME) : vE (ih' a ρ) P X = vE (a ρ) (fun x ρ1 => vD (t3' ρ1.w x) fun z => P z ρ1) X := by simp only [ih', ag', a5']
theorem ly' (cs : List String) (a : ME) (f : String) (v : MO) : vS (sFld cs a f v ρ) ⟨N, rt, bk, ct, ex⟩ = vE (v ρ) (fun o ρ1 => vE (a ρ1) (fun x ρ2 => vD (stF cs f o ρ2.w x) fun w => N ⟨ρ2.env, w⟩) ex) ex := by
  simp only [sFld, bl']
  congr
  funext d ρ1
  congr
  funext x ρ2
  cases stF cs f d ρ2.w x <;> rfl
theorem lx' (it : MI) (g : MG) (b : MS) : vS (dX' it g b ρ) ⟨N, rt, bk, ct, ex⟩ = vE (it ρ) (fun ds ρ1 => vS (fW' g b ds ρ1) ⟨N, rt, bk, ct, ex⟩) ex := by simp only [dX', bl']
theorem qJ' {k n : Nat} (b : MS) (ds : List D) (w : W) {Q : O -> W -> Prop} {X : Exc -> W -> Prop} (h : ds.length = k) : vF (fnM k n b ds w) Q X = vS (b ⟨ds.map (fun d => some (.fz d)) ++ List.replicate (n - k) none, w⟩) ⟨fun ρ => Q (.fz .non) ρ.w, Q, fun _ => False, fun _ => False, fun x ρ => X x ρ.w⟩ := by
  unfold fnM
  rw [if_pos h]
  cases b ⟨ds.map (fun d => some (.fz d)) ++ List.replicate (n - k) none, w⟩ <;> rfl
theorem jh' {k n : Nat} {b : MS} {ds : List D} {w : W} {Q : O -> W -> Prop} {X : Exc -> W -> Prop} (q : vS (b ⟨ds.map (fun d => some (.fz d)) ++ List.replicate (n - k) none, w⟩) ⟨fun ρ => Q (.fz .non) ρ.w, Q, fun _ => False, fun _ => False, fun x ρ => X x ρ.w⟩) (h : ds.length = k) : vF (fnM k n b ds w) Q X := by
  rw [qJ' _ _ _ h]; exact q
theorem lr' (o : O) (w : W) {Q : O -> W -> Prop} {X : Exc -> W -> Prop} : vF (.ok o w) Q X = Q o w := rfl
theorem jc' (x : Exc) (w : W) {Q : O -> W -> Prop} {X : Exc -> W -> Prop} : vF (.exc x w) Q X = X x w := rfl
theorem vF.mono {r : FRes} {Q Q' : O -> W -> Prop} {X : Exc -> W -> Prop} (h : vF r Q FX) (k : ∀ o w, Q o w -> Q' o w) : vF r Q' X := by
  cases r with
  | ok o w => exact k _ _ h
  | exc x w => exact h.elim
  | bad => exact h
theorem vF.exi {r : FRes} {Q : O -> W -> Prop} (h : vF r Q FX) : ∃ o w, r = .ok o w /\ Q o w := by
  cases r with
  | ok o w => exact ⟨o, w, rfl, h⟩
  | exc x w => exact h.elim
  | bad => exact h.elim
theorem vF.of {r : FRes} {Q : O -> W -> Prop} {X : Exc -> W -> Prop} {o : O} {w : W} (e : r = .ok o w) (h : Q o w) : vF r Q X := by rw [e]; exact h
theorem vS.mono {o : Out} {D1 D2 : En} (h : vS o D1) (h1 : ∀ ρ, D1.nx ρ -> D2.nx ρ) (h2 : ∀ o w, D1.rt o w -> D2.rt o w) (h3 : ∀ ρ, D1.bk ρ -> D2.bk ρ) (h4 : ∀ ρ, D1.ct ρ -> D2.ct ρ) (h5 : ∀ x ρ, D1.ex x ρ -> D2.ex x ρ) : vS o D2 := by
  cases o with
  | nx ρ => exact h1 _ h
  | rt o w => exact h2 _ _ h
  | bk ρ => exact h3 _ h
  | ct ρ => exact h4 _ h
  | exc x ρ => exact h5 _ _ h
  | bad => exact h
theorem vE.mono {r : Res α} {Q Q' : α -> PSt -> Prop} {X X' : Exc -> PSt -> Prop} (h : vE r Q X) (k : ∀ a ρ, Q a ρ -> Q' a ρ) (k2 : ∀ x ρ, X x ρ -> X' x ρ) : vE r Q' X' := by
  cases r with
  | ok a ρ => exact k _ _ h
  | exc x ρ => exact k2 _ _ h
  | bad => exact h
theorem ge' {a b : MS} (J : PSt -> Prop) (h : vS (a ρ) ⟨J, rt, bk, ct, ex⟩) (k : ∀ ρ1, J ρ1 -> vS (b ρ1) ⟨N, rt, bk, ct, ex⟩) : vS (aF' a b ρ) ⟨N, rt, bk, ct, ex⟩ := by
  rw [hG']
  exact h.mono k (fun _ _ z => z) (fun _ z => z) (fun _ z => z) (fun _ _ z => z)
theorem i8' {p : Prop} [Decidable p] {A B : Prop} (h1 : p -> A) (h2 : ¬ p -> B) : vI (decide p) A B := by
  by_cases h : p
  . rw [decide_eq_true h]; exact h1 h
  . rw [decide_eq_false h]; exact h2 h
theorem gg' {g : MG} {b : MS} {ds : List D} (Inv : List D -> PSt -> Prop) (h0 : Inv [] ρ)
    (step : ∀ pre d post ρ, ds = pre ++ d :: post -> Inv pre ρ -> vD (g d ρ) fun ρ1 => vS (b ρ1) ⟨Inv (pre ++ [d]), rt, N, Inv (pre ++ [d]), ex⟩)
    (hend : ∀ ρ, Inv ds ρ -> N ρ) : vS (fW' g b ds ρ) ⟨N, rt, bk, ct, ex⟩ := by
  have main : ∀ (post pre : List D) (ρ : PSt), ds = pre ++ post -> Inv pre ρ -> vS (fW' g b post ρ) ⟨N, rt, bk, ct, ex⟩ := by
    intro post
    induction post with
    | nil =>
      intro pre ρ e h
      rw [List.append_nil] at e
      exact hend ρ (e ▸ h)
    | cons d post ih =>
      intro pre ρ e h
      have s := step pre d post ρ e h
      unfold fW'
      cases eg : g d ρ with
      | none => rw [eg] at s; exact s
      | some ρ1 =>
        rw [eg] at s
        have s : vS (b ρ1) _ := s
        dsimp only
        cases eb : b ρ1 with
        | nx ρ2 => rw [eb] at s; exact ih (pre ++ [d]) ρ2 (by rw [e, List.append_assoc]; rfl) s
        | ct ρ2 => rw [eb] at s; exact ih (pre ++ [d]) ρ2 (by rw [e, List.append_assoc]; rfl) s
        | bk ρ2 => rw [eb] at s; exact s
        | rt o w => rw [eb] at s; exact s
        | exc x ρ2 => rw [eb] at s; exact s
        | bad => rw [eb] at s; exact s
  exact main ds [] ρ rfl h0
theorem d6' {γ : Type} {g : MG} {b : MS} {f : γ -> D} {cs : List γ} (Inv : List γ -> PSt -> Prop) (h0 : Inv [] ρ)
    (step : ∀ pre c post ρ, cs = pre ++ c :: post -> Inv pre ρ -> vD (g (f c) ρ) fun ρ1 => vS (b ρ1) ⟨Inv (pre ++ [c]), rt, N, Inv (pre ++ [c]), ex⟩)
    (hend : ∀ ρ, Inv cs ρ -> N ρ) : vS (fW' g b (cs.map f) ρ) ⟨N, rt, bk, ct, ex⟩ := by
  have main : ∀ (post pre : List γ) (ρ : PSt), cs = pre ++ post -> Inv pre ρ -> vS (fW' g b (post.map f) ρ) ⟨N, rt, bk, ct, ex⟩ := by
    intro post
    induction post with
    | nil =>
      intro pre ρ e h
      rw [List.append_nil] at e
      exact hend ρ (e ▸ h)
    | cons d post ih =>
      intro pre ρ e h
      have s := step pre d post ρ e h
      rw [List.map_cons]
      unfold fW'
      cases eg : g (f d) ρ with
      | none => rw [eg] at s; exact s
      | some ρ1 =>
        rw [eg] at s
        have s : vS (b ρ1) _ := s
        dsimp only
        cases eb : b ρ1 with
        | nx ρ2 => rw [eb] at s; exact ih (pre ++ [d]) ρ2 (by rw [e, List.append_assoc]; rfl) s
        | ct ρ2 => rw [eb] at s; exact ih (pre ++ [d]) ρ2 (by rw [e, List.append_assoc]; rfl) s
        | bk ρ2 => rw [eb] at s; exact s
        | rt o w => rw [eb] at s; exact s
        | exc x ρ2 => rw [eb] at s; exact s
        | bad => rw [eb] at s; exact s
  exact main cs [] ρ rfl h0
theorem gf' {g : MG} {b : MS} {lo : Int} {n : Nat} (Inv : Nat -> PSt -> Prop) (h0 : Inv 0 ρ)
    (step : ∀ k ρ, k < n -> Inv k ρ -> vD (g (.int (lo + (k : Nat))) ρ) fun ρ1 => vS (b ρ1) ⟨Inv (k + 1), rt, N, Inv (k + 1), ex⟩)
    (hend : ∀ ρ, Inv n ρ -> N ρ) : vS (fW' g b (rgI lo n) ρ) ⟨N, rt, bk, ct, ex⟩ := by
  unfold rgI
  refine d6' (fun pre ρ => Inv pre.length ρ) h0 (fun pre c post ρ e h => ?_) (fun ρ h => hend ρ (by rwa [List.length_range] at h))
  have hl : pre.length < n := by
    have := congrArg List.length e
    rw [List.length_range, List.length_append, List.length_cons] at this
    omega
  have hc : c = pre.length := by
    have h1 : (List.range n)[pre.length]? = some c := by rw [e, List.getElem?_append_right (Nat.le_refl _), Nat.sub_self]; rfl
    rw [List.getElem?_range hl] at h1
    exact (Option.some.inj h1).symm
  subst hc
  have := step pre.length ρ hl h
  simp only [List.length_append, List.length_cons, List.length_nil, Nat.zero_add]
  exact this
theorem ji' {own : List Nat} {g : MG} {t : MT} {e : ME} {γ : Type} {f : γ -> D} {cs : List γ} {Q : List D -> PSt -> Prop} (hl : cs.length <= 16777216) (Inv : List γ -> List D -> PSt -> Prop) (h0 : Inv [] [] ρ)
    (step : ∀ pre c post acc ρ, cs = pre ++ c :: post -> Inv pre acc ρ -> vD (g (f c) ⟨a4' own ρ.env, ρ.w⟩) fun ρ1 => vE (t ρ1) (fun k ρ2 => vI k (vE (e ρ2) (fun y ρ3 => Inv (pre ++ [c]) (acc ++ [y]) ρ3) PX) (Inv (pre ++ [c]) acc ρ2)) PX)
    (hend : ∀ acc ρ, Inv cs acc ρ -> Q acc ρ) : vE (lcL own g t e (cs.map f) [] ρ) Q X := by
  have main : ∀ (post pre : List γ) (acc : List D) (ρ : PSt), cs = pre ++ post -> acc.length <= pre.length -> Inv pre acc ρ -> vE (lcL own g t e (post.map f) acc ρ) Q X := by
    intro post
    induction post with
    | nil =>
      intro pre acc ρ e' hacc h
      rw [List.append_nil] at e'
      exact hend acc ρ (e' ▸ h)
    | cons d post ih =>
      intro pre acc ρ e' hacc h
      have s := step pre d post acc ρ e' h
      have hpre : pre.length < 16777216 := by
        have := congrArg List.length e'
        rw [List.length_append, List.length_cons] at this
        omega
      rw [List.map_cons]
      unfold lcL
      cases eg : g (f d) ⟨a4' own ρ.env, ρ.w⟩ with
      | none => rw [eg] at s; exact s
      | some ρ1 =>
        rw [eg] at s
        have s : vE (t ρ1) _ _ := s
        dsimp only
        cases et : t ρ1 with
        | bad => rw [et] at s; exact s
        | exc x ρ2 => rw [et] at s; exact s.elim
        | ok k ρ2 =>
          rw [et] at s
          have s : vI k _ _ := s
          show vE (if k = true then _ else _) Q X
          have e2 : cs = (pre ++ [d]) ++ post := by rw [e', List.append_assoc]; rfl
          cases k with
          | false =>
            rw [if_neg Bool.false_ne_true]
            exact ih (pre ++ [d]) acc ρ2 e2 (by rw [List.length_append]; omega) s
          | true =>
            rw [if_pos rfl]
            have s : vE (e ρ2) _ _ := s
            cases ee : e ρ2 with
            | bad => rw [ee] at s; exact s
            | exc x ρ3 => rw [ee] at s; exact s.elim
            | ok y ρ3 =>
              rw [ee] at s
              show vE (if acc.length < cM' then _ else _) Q X
              rw [if_pos (show acc.length < 16777216 by omega)]
              exact ih (pre ++ [d]) (acc ++ [y]) ρ3 e2 (by rw [List.length_append, List.length_append, List.length_cons, List.length_cons]; omega) s
  exact main cs [] [] ρ rfl (Nat.le_refl _) h0
end
end M
namespace M
def vC (c : Prop) (A : Prop) : Prop := c /\ A
def vOb (o : Option Ob) (P : List O -> Prop) : Prop := match o with
  | some (.lst os) => P os
  | _ => False
def vj' (o : Option Ob) (P : String -> List (String × O) -> Prop) : Prop := match o with
  | some (.ins C fs) => P C fs
  | _ => False
theorem lp' (C : String) (fs : List (String × O)) {P : String -> List (String × O) -> Prop} : vj' (some (.ins C fs)) P = P C fs := rfl
theorem qK' (cs : List String) (f : String) (o : O) (w : W) (n : Nat) {N : W -> Prop} : vD (stF cs f o w (.obj n)) N = vj' w[n]? (fun C fs => vC (C ∈ cs /\ fs.length < 1000) (N (w.set n (.ins C (nW' f o fs))))) := by
  show vD (match w[n]? with | some (.ins C fs) => if C ∈ cs /\ fs.length < 1000 then some (w.set n (.ins C (nW' f o fs))) else none | _ => none) N = _
  rcases w[n]? with _ | ob
  . rfl
  . cases ob with
    | ins C fs =>
      show vD (if _ then _ else _) N = vC _ _
      unfold vC
      by_cases h : C ∈ cs /\ fs.length < 1000
      . rw [if_pos h]; simp [vD, h]
      . rw [if_neg h]
        show False = (_ /\ _)
        rw [eq_iff_iff]
        exact ⟨False.elim, fun a => h a.1⟩
    | _ => rfl
theorem f9' (os : List O) {P : List O -> Prop} : vOb (some (.lst os)) P = P os := rfl
theorem lt' {c : Prop} (h : c) (A : Prop) : vC c A = A := by unfold vC; simp [h]
theorem gd' (A : Prop) : vC True A = A := by unfold vC; simp
theorem aB' {α : Type} {c : Prop} [Decidable c] {x : α} {Q : α -> Prop} : vD (if c then some x else none) Q = vC c (Q x) := by
  unfold vC
  by_cases h : c
  . rw [if_pos h]; simp [vD, h]
  . rw [if_neg h]; simp [vD, h]
theorem bF' {α β : Type} {f : α -> β} {o : Option α} {Q : β -> Prop} : vD (o.map f) Q = vD o (fun a => Q (f a)) := by cases o <;> rfl
theorem ls' {α β : Type} {f : α -> Option β} {o : Option α} {Q : β -> Prop} : vD (o.bind f) Q = vD o (fun a => vD (f a) Q) := by cases o <;> rfl
section
variable {Q : D -> Prop} {Y : List D -> Prop}
theorem jL' (i j : Int) : vD (cm' (.int i) (.int j)) Q = Q (.int (i + j)) := rfl
theorem jJ' (a b : Tx) : vD (cm' (.str a) (.str b)) Q = fS' (a.length + b.length) (Q (.str (a ++ b))) := aB'
theorem jK' (a b : List D) : vD (cm' (.lst a) (.lst b)) Q = fS' (a.length + b.length) (Q (.lst (a ++ b))) := aB'
theorem jI' (a b : List D) : vD (cm' (.tup a) (.tup b)) Q = fS' (a.length + b.length) (Q (.tup (a ++ b))) := aB'
theorem gr' (i j : Int) : vD (oP' (.int i) (.int j)) Q = Q (.int (i + j)) := rfl
theorem lD' (i j : Int) : vD (mN' (.int i) (.int j)) Q = Q (.int (i - j)) := rfl
theorem lO' (i j : Int) : vD (fn' (.int i) (.int j)) Q = vC (((-18446744073709551616 < i /\ i < 18446744073709551616) \/ (-18446744073709551616 < j /\ j < 18446744073709551616)) \/ ((-2582249878086908589655919172003011874329705792829223512830659356540647622016841194629645353280137831435903171972747493376 < i /\ i < 2582249878086908589655919172003011874329705792829223512830659356540647622016841194629645353280137831435903171972747493376) /\ (-2582249878086908589655919172003011874329705792829223512830659356540647622016841194629645353280137831435903171972747493376 < j /\ j < 2582249878086908589655919172003011874329705792829223512830659356540647622016841194629645353280137831435903171972747493376))) (Q (.int (i * j))) := by
  show vD (if (small64 i = true \/ small64 j = true) \/ _ then _ else _) Q = _
  rw [aB']
  congr 1
  simp [small64]
theorem jw' (a : Tx) (j : Int) : vD (fn' (.str a) (.int j)) Q = vC (j < 4611686018427387904 /\ -4611686018427387904 <= j /\ a.length * j.toNat <= 16777216) (Q (.str (List.replicate j.toNat a).flatten)) := aB'
theorem jx' (a : List D) (j : Int) : vD (fn' (.lst a) (.int j)) Q = vC (j < 4611686018427387904 /\ -4611686018427387904 <= j /\ a.length * j.toNat <= 16777216) (Q (.lst (List.replicate j.toNat a).flatten)) := aB'
theorem jH' (i j : Int) : vD (gD' (.int i) (.int j)) Q = vC (0 < j /\ j < 1606938044258990275541962092341162602522202993782792835301376) (Q (.int (i / j))) := aB'
theorem lP' (i j : Int) : vD (j2' (.int i) (.int j)) Q = vC (0 < j) (Q (.int (i % j))) := aB'
theorem lK' (i j : Int) : vD (tL' (.int i) (.int j)) Q = vC (0 <= j /\ j <= 1000 /\ -18446744073709551616 < i /\ i < 18446744073709551616) (Q (.int (i ^ j.toNat))) := by
  show vD (if 0 <= j /\ j <= 1000 /\ small64 i = true then _ else _) Q = _
  rw [aB']
  congr 1
  simp [small64]
theorem lL' (i : Int) : vD (vr' (.int i)) Q = Q (.int (-i)) := rfl
theorem l8' (i j : Int) : vD (pEq (.int i) (.int j)) Q = Q (.bl (decide (i = j))) := by
  show Q (.bl (i == j)) = _
  congr 2
theorem l7' (i j : Tx) : vD (pEq (.str i) (.str j)) Q = Q (.bl (decide (i = j))) := by
  show Q (.bl (i == j)) = _
  congr 2
  rw [Bool.eq_iff_iff]
  simp
theorem l9' (i j : Bool) : vD (pEq (.bl i) (.bl j)) Q = Q (.bl (i == j)) := rfl
theorem p6' (x y : D) : vD (pEq x y) Q = vC (dat x = true /\ dat y = true /\ dep x <= 64 /\ dep y <= 64) (Q (.bl (eqb x y))) := by
  unfold pEq ob eqv
  rw [bF', aB']
theorem lN' (i j : Int) : vD (pNe (.int i) (.int j)) Q = Q (.bl (!decide (i = j))) := by
  show Q (.bl (!(i == j))) = _
  congr 3
theorem lM' (i j : Tx) : vD (pNe (.str i) (.str j)) Q = Q (.bl (!decide (i = j))) := by
  show Q (.bl (!(i == j))) = _
  congr 3
  rw [Bool.eq_iff_iff]
  simp
theorem pW' (x y : D) : vD (pNe x y) Q = vC (dat x = true /\ dat y = true /\ dep x <= 64 /\ dep y <= 64) (Q (.bl (!eqb x y))) := by
  unfold pNe ob eqv
  rw [bF', bF', aB']
theorem l0' (x : D) : vD (pIs x .non) Q = Q (.bl (dO' x)) := by cases x <;> rfl
theorem l1' (x y : Bool) : vD (pIs (.bl x) (.bl y)) Q = Q (.bl (x == y)) := rfl
theorem eS' (x : D) : vD (j3' x .non) Q = Q (.bl (!dO' x)) := by cases x <;> rfl
theorem eT' (x y : Bool) : vD (j3' (.bl x) (.bl y)) Q = Q (.bl (!(x == y))) := rfl
theorem pX' (i j : Int) : vD (pLt (.int i) (.int j)) Q = Q (.bl (decide (i < j))) := rfl
theorem pY' (i j : Int) : vD (pLe (.int i) (.int j)) Q = Q (.bl (decide (i <= j))) := rfl
theorem pZ' (i j : Int) : vD (pGt (.int i) (.int j)) Q = Q (.bl (decide (j < i))) := rfl
theorem p3' (i j : Int) : vD (pGe (.int i) (.int j)) Q = Q (.bl (decide (j <= i))) := rfl
theorem lS' (i j : Tx) : vD (pLt (.str i) (.str j)) Q = Q (.bl (decide (i < j))) := rfl
theorem lT' (i j : Tx) : vD (pLe (.str i) (.str j)) Q = Q (.bl (!decide (j < i))) := rfl
theorem l4' (i j : Tx) : vD (pGt (.str i) (.str j)) Q = Q (.bl (decide (j < i))) := rfl
theorem l6' (i j : Tx) : vD (pGe (.str i) (.str j)) Q = Q (.bl (!decide (i < j))) := rfl
theorem l3' (c : Nat) (s : Tx) : vD (pIn (.str [c]) (.str s)) Q = Q (.bl (decide (c ∈ s))) := rfl
theorem jv' (c : Nat) (s : Tx) : vD (gC' (.str [c]) (.str s)) Q = Q (.bl (!decide (c ∈ s))) := rfl
theorem jU' (ns : List Int) : (ns.map D.int).all sca = true := by induction ns <;> simp_all [sca]
theorem ks' (i : Int) (ns : List Int) : ((ns.map D.int).any fun d => eqb d (.int i)) = decide (i ∈ ns) := by
  induction ns with
  | nil => rfl
  | cons n ns ih =>
    simp only [List.map_cons, List.any_cons, ih]
    rw [Bool.eq_iff_iff]
    simp [eqb]
    exact ⟨fun h => h.elim (fun e => .inl e.symm) .inr, fun h => h.elim (fun e => .inl e.symm) .inr⟩
theorem jE' (i : Int) (ns : List Int) : vD (pIn (.int i) (.tup (ns.map .int))) Q = Q (.bl (decide (i ∈ ns))) := by
  show vD (if sca (.int i) = true /\ (ns.map D.int).all sca = true then some (D.bl ((ns.map D.int).any fun d => eqb d (.int i))) else none) Q = _
  rw [jU', ks']
  rfl
theorem jF' (i : Int) (ns : List Int) : vD (pIn (.int i) (.lst (ns.map .int))) Q = Q (.bl (decide (i ∈ ns))) := by
  show vD (if sca (.int i) = true /\ (ns.map D.int).all sca = true then some (D.bl ((ns.map D.int).any fun d => eqb d (.int i))) else none) Q = _
  rw [jU', ks']
  rfl
theorem jA' (s : Tx) : vD (dw' (.str s)) Q = Q (.int s.length) := rfl
theorem jB' (s : List D) : vD (dw' (.lst s)) Q = Q (.int s.length) := rfl
theorem jz' (s : List D) : vD (dw' (.tup s)) Q = Q (.int s.length) := rfl
theorem lW' (s : Tx) (i : Int) : vD (pIx (.str s) (.int i)) Q = vD (ati s i) (fun c => Q (.str [c])) := bF'
theorem lY' (s : List D) (i : Int) : vD (pIx (.lst s) (.int i)) Q = vD (ati s i) Q := rfl
theorem lV' (s : List D) (i : Int) : vD (pIx (.tup s) (.int i)) Q = vD (ati s i) Q := rfl
theorem b5' {n : Nat} {i : Int} (h : 0 <= i) (h2 : i < n) : ixn n i = some i.toNat := by unfold ixn; rw [if_pos h, if_pos h2]
theorem hu' {α : Type} {xs : List α} {i : Int} (h : 0 <= i) : ati xs i = xs[i.toNat]? := by
  unfold ati ixn
  rw [if_pos h]
  split
  . rfl
  . rename_i h2
    rw [List.getElem?_eq_none (by omega)]
    rfl
theorem lF' (s : Tx) (lo hi : Option Int) : vD (pSl (.str s) lo hi) Q = Q (.str (cut s lo hi)) := rfl
theorem lH' (s : List D) (lo hi : Option Int) : vD (pSl (.lst s) lo hi) Q = Q (.lst (cut s lo hi)) := rfl
theorem lE' (s : List D) (lo hi : Option Int) : vD (pSl (.tup s) lo hi) Q = Q (.tup (cut s lo hi)) := rfl
theorem lG' (s : List D) (lo hi : Option Int) : vD (pSl (.scr s) lo hi) Q = Q (.lst (cut s lo hi)) := rfl
theorem qw' {α : Type} {s : List α} {i : Int} (h : 0 <= i) : cut s none (some i) = s.take i.toNat := by
  unfold cut six
  simp only [if_neg (show ¬ i < 0 by omega), List.drop_zero, Nat.sub_zero]
  rcases Nat.le_total i.toNat s.length with h | h
  . rw [Nat.min_eq_left h]
  . rw [Nat.min_eq_right h, List.take_length, List.take_of_length_le h]
theorem pu' {α : Type} {s : List α} {i : Int} (h : 0 <= i) : cut s (some i) none = s.drop i.toNat := by
  unfold cut six
  simp only [if_neg (show ¬ i < 0 by omega)]
  rcases Nat.le_total i.toNat s.length with h | h
  . rw [Nat.min_eq_left h, List.take_of_length_le (by rw [List.length_drop]; omega)]
  . rw [Nat.min_eq_right h, List.drop_length, List.drop_of_length_le h, List.take_nil]
theorem jt' (s : Tx) : vD (vq' (.str s)) Q = Q (.str s.reverse) := rfl
theorem ju' (s : List D) : vD (vq' (.lst s)) Q = Q (.lst s.reverse) := rfl
theorem oh' (l : List Tx) : cK' (l.map .str) = some l := by
  induction l with
  | nil => rfl
  | cons a l ih => simp [cK', ih]
theorem gS' : ∀ l : List Tx, b4' [] l = l.flatten
  | [] => rfl
  | [x] => by simp [b4']
  | x :: y :: r => by
    have := gS' (y :: r)
    simp only [b4', this, List.flatten_cons, List.nil_append]
theorem fd' (l : List Tx) : vD (em' [] [.lst (l.map .str)]) Q = fS' (l.map List.length).sum (Q (.str l.flatten)) := by
  show vD ((cK' (l.map .str)).bind _) Q = _
  rw [oh']
  show vD (if _ then _ else _) Q = _
  rw [aB', gS']
  simp [vC, fS']
theorem mj' : ∀ l : Tx, ((l.map fun c => [c]).map List.length).sum = l.length
  | [] => rfl
  | c :: l => by simp only [List.map_cons, List.sum_cons, mj' l, List.length_cons, List.length_nil]; omega
theorem kl' : ∀ l : Tx, (l.map fun c => [c]).flatten = l
  | [] => rfl
  | c :: l => by simp only [List.map_cons, List.flatten_cons, kl' l]; rfl
theorem gp' (l : Tx) : vD (em' [] [.lst (l.map chD)]) Q = fS' l.length (Q (.str l)) := by
  have h := fd' (Q := Q) (l.map fun c => [c])
  rw [List.map_map, mj', kl'] at h
  exact h
theorem jG' (a b : Tx) : vD (na' a [.str b]) Q = Q (.int (fnd (hB' a b))) := rfl
theorem gq' (a b : Tx) : vD (e2' a [.str b]) Q = vD (hB' a b) (fun i => Q (.int (i : Nat))) := bF'
theorem gh' (s : Tx) : vD (qj' (.str s)) Q = vC (s.all (fun c => decide (c < 128)) = true /\ s.length <= 5592405) (Q (.str (s.map up1))) := aB'
theorem l2' (i : Int) : vD (fU' (.int i)) Q = Q (.int i) := rfl
theorem jD' (b : Bool) : vD (fU' (.bl b)) Q = Q (.int (if b then 1 else 0)) := rfl
theorem mg' (i : Int) : vD (vt' (.int i)) Q = Q (.int (if i < 0 then -i else i)) := rfl
theorem lR' (i j : Int) : vD (mP' (.int i) (.int j)) Q = Q (.int (max i j)) := by
  show Q (.int (if j > i then j else i)) = _
  congr 2
  split <;> omega
theorem lQ' (i j : Int) : vD (oO' (.int i) (.int j)) Q = Q (.int (min i j)) := by
  show Q (.int (if j < i then j else i)) = _
  congr 2
  split <;> omega
theorem jo' (s : List D) : vD (dv' (.lst s)) Q = Q (.tup s) := rfl
theorem jn' (s : List D) : vD (dv' (.tup s)) Q = Q (.tup s) := rfl
theorem gm' (s : List D) : vD (b0' (.lst s)) Q = Q (.lst s) := rfl
theorem gl' (s : List D) : vD (b0' (.tup s)) Q = Q (.lst s) := rfl
theorem gi' (s : Tx) : vD (cb' (.str s)) Q = vC (s.length < 64) (Q (.lst ((bO' s).map chD))) := aB'
theorem lZ' (t : String) (d : D) : vD (bt' t d) Q = vD (tyn d) (fun n => Q (.bl (n == t || (n == "bool" && t == "int")))) := bF'
theorem nq' (l : List Int) : bM' (l.map .int) = some l := by
  induction l with
  | nil => rfl
  | cons a l ih => simp [bM', ih]
theorem kq' (l : List Bool) : bools (l.map .bl) = some l := by
  induction l with
  | nil => rfl
  | cons a l ih => simp [bools, ih]
theorem lC' (l : List Int) : vD (xE' (.lst (l.map .int))) Q = Q (.int l.sum) := by
  show vD ((bM' (l.map .int)).map _) Q = _
  rw [nq']
  rfl
theorem mf' (l : List Bool) : vD (xG' (.lst (l.map .bl))) Q = Q (.bl (l.all id)) := by
  show vD ((bools (l.map .bl)).map _) Q = _
  rw [kq']
  rfl
theorem me' (l : List Bool) : vD (xF' (.lst (l.map .bl))) Q = Q (.bl (l.any id)) := by
  show vD ((bools (l.map .bl)).map _) Q = _
  rw [kq']
  rfl
theorem js' (s : List D) : vD (cS' (.lst s)) Y = Y s := rfl
theorem jq' (s : List D) : vD (cS' (.tup s)) Y = Y s := rfl
theorem jr' (s : Tx) : vD (cS' (.str s)) Y = Y (s.map chD) := rfl
theorem lJ' (j : Int) : vD (dq' (.int j)) Y = vC (-4611686018427387904 <= j /\ j < 4611686018427387904) (Y (rgI 0 j.toNat)) := by
  show vD (if nZ' j = true then _ else _) Y = _
  rw [aB']
  congr 1
  simp [nZ']
theorem lI' (i j : Int) : vD (mO' (.int i) (.int j)) Y = vC ((-4611686018427387904 <= i /\ i < 4611686018427387904) /\ (-4611686018427387904 <= j /\ j < 4611686018427387904)) (Y (rgI i (j - i).toNat)) := by
  show vD (if nZ' i = true /\ nZ' j = true then _ else _) Y = _
  rw [aB']
  congr 1
  simp [nZ']
theorem jk' (a b : Tx) : vD (nT' (.str a) (.str b)) Y = Y (cD' (a.map chD) (b.map chD)) := rfl
theorem jm' (a b : List D) : vD (nT' (.lst a) (.lst b)) Y = Y (cD' a b) := rfl
theorem jj' (a b : List D) : vD (nT' (.tup a) (.tup b)) Y = Y (cD' a b) := rfl
theorem jl' (a : Tx) (b : List D) : vD (xw' (.str a) (.tup b)) Y = Y (cD' (a.map chD) b) := rfl
theorem ma' (a : Tx) : vD (enB (.str a)) Y = Y (cL' 0 (a.map chD)) := rfl
theorem mb' (a : List D) : vD (enB (.lst a)) Y = Y (cL' 0 a) := rfl
theorem gk' (a : List D) : vD (vo' (.lst a)) Y = Y a.reverse := rfl
theorem gj' (a : List D) : vD (vo' (.tup a)) Y = Y a.reverse := rfl
theorem jy' (j : Int) : vD (c8' (.int j)) Q = vC (RgB 0 j = true) (Q (.lst (dA' 0 j))) := aB'
theorem ve' {a b : Int} (h1 : 0 <= a) (h2 : b <= 16777216) (h3 : a <= 16777216) (h4 : 0 <= b) : RgB a b = true := by
  unfold RgB
  simp only [Bool.and_eq_true, decide_eq_true_eq]
  omega
theorem p5' (i : Nat) (d : D) (env : List (Option O)) (w : W) {N : PSt -> Prop} : vD (gN i d ⟨env, w⟩) N = kv' i env.length (N ⟨env.set i (some (.fz d)), w⟩) := aB'
theorem p4' (is : List Nat) (ds : List D) (ρ : PSt) {N : PSt -> Prop} : vD (gT is (.tup ds) ρ) N = vD (gNs is ds ρ) N := rfl
theorem l5' (ρ : PSt) {N : PSt -> Prop} : vD (gNs [] [] ρ) N = N ρ := rfl
theorem p0' (i : Nat) (is : List Nat) (d : D) (ds : List D) (ρ : PSt) {N : PSt -> Prop} : vD (gNs (i :: is) (d :: ds) ρ) N = vD (gN i d ρ) (fun ρ1 => vD (gNs is ds ρ1) N) := ls'
theorem lU' (w : W) (n : Nat) (k : D) : vD (ixW w (.obj n) k) Q = vOb w[n]? (fun os => vD (ixO (.lst os) k) Q) := by
  show vD (match w[n]? with | some (.lst os) => ixO (.lst os) k | _ => none) Q = _
  rcases w[n]? with _ | ob
  . rfl
  . cases ob <;> rfl
theorem lX' (os : List O) (i : Int) : vD (ixO (.lst os) (.int i)) Q = vD (ati os i) (fun o => vD (asF o) Q) := by
  show vD (match ati os i with | some (.fz d) => some d | _ => none) Q = _
  rcases ati os i with _ | o
  . rfl
  . cases o <;> rfl
theorem md' (d : D) : vD (asF (.fz d)) Q = Q d := rfl
theorem mc' (d : List D) {Q : List D -> Prop} : vD (asL (.lst d)) Q = Q d := rfl
theorem jC' (d k : D) : vD (ixO (.fz d) k) Q = vD (pIx d k) Q := rfl
theorem jp' (w : W) (n : Nat) (z : Int) (d : D) {N : W -> Prop} : vD (ol' w (.obj n) (.int z) d) N = vOb w[n]? (fun os => vD (ixn os.length z) (fun j => N (w.set n (.lst (os.set j (.fz d)))))) := by
  show vD (match w[n]? with | some (.lst os) => (ixn os.length z).map fun j => w.set n (.lst (os.set j (.fz d))) | _ => none) N = _
  rcases w[n]? with _ | ob
  . rfl
  . cases ob with
    | lst os => exact bF'
    | _ => rfl
theorem gn' (os : List O) : vD (nX' (.lst os)) Q = Q (.int os.length) := rfl
theorem go' (d : D) : vD (nX' (.fz d)) Q = vD (dw' d) Q := rfl
end
structure U {α : Sort _} (a : α) : Type where
@[irreducible] def wE {α : Type} (r : Res α) (Q : α -> PSt -> Prop) (X : Exc -> PSt -> Prop) (_ : U (Q, X) := U.mk) : Prop := vE r Q X
@[irreducible] def wS (o : Out) (D : En) (_ : U D := U.mk) : Prop := vS o D
@[irreducible] def wF (r : FRes) (Q : O -> W -> Prop) (X : Exc -> W -> Prop) (_ : U (Q, X) := U.mk) : Prop := vF r Q X
@[irreducible] def wD {α : Type} (o : Option α) (Q : α -> Prop) (_ : U Q := U.mk) : Prop := vD o Q
@[irreducible] def wI (k : Bool) (A B : Prop) (_ : U (A, B) := U.mk) : Prop := vI k A B
@[irreducible] def wB (d : D) (P : Bool -> Prop) (_ : U P := U.mk) : Prop := vB d P
@[irreducible] def wT (d : D) (P : Tx -> Prop) (_ : U P := U.mk) : Prop := vT d P
@[irreducible] def wN (d : D) (P : Int -> Prop) (_ : U P := U.mk) : Prop := vN d P
@[irreducible] def wV (o : Option (Option O)) (i : Nat) (ρ : PSt) (Q : D -> PSt -> Prop) (_ : U Q := U.mk) : Prop := vV o i ρ Q
@[irreducible] def wG (o : Option (Option O)) (i : Nat) (ρ : PSt) (Q : O -> PSt -> Prop) (_ : U Q := U.mk) : Prop := vG o i ρ Q
@[irreducible] def wO (o : Option (Option O)) (Q : O -> Prop) (_ : U Q := U.mk) : Prop := vO o Q
@[irreducible] def wL (o : Option (Option O)) (Q : List O -> Prop) (_ : U Q := U.mk) : Prop := vL o Q
@[irreducible] def k5' (n : Nat) (A : Prop) (_ : U A := U.mk) : Prop := fS' n A
@[irreducible] def pG' (i n : Nat) (A : Prop) (_ : U A := U.mk) : Prop := kv' i n A
@[irreducible] def wC (c : Prop) (A : Prop) (_ : U A := U.mk) : Prop := vC c A
@[irreducible] def vh' (o : Option Ob) (P : String -> List (String × O) -> Prop) (_ : U P := U.mk) : Prop := vj' o P
@[irreducible] def wOb (o : Option Ob) (P : List O -> Prop) (_ : U P := U.mk) : Prop := vOb o P
theorem fc' {α : Type} (r : Res α) (Q : α -> PSt -> Prop) (X : Exc -> PSt -> Prop) (u : U (Q, X)) : wE r Q X u = vE r Q X := by unfold wE; rfl
theorem la' (o : Out) (D : En) (u : U D) : wS o D u = vS o D := by unfold wS; rfl
theorem n5' (r : FRes) (Q : O -> W -> Prop) (X : Exc -> W -> Prop) (u : U (Q, X)) : wF r Q X u = vF r Q X := by unfold wF; rfl
theorem aq' {α : Type} (o : Option α) (Q : α -> Prop) (u : U Q) : wD o Q u = vD o Q := by unfold wD; rfl
theorem sT' (k : Bool) (A B : Prop) (u : U (A, B)) : wI k A B u = vI k A B := by unfold wI; rfl
theorem sY' (d : D) (P : Bool -> Prop) (u : U P) : wB d P u = vB d P := by unfold wB; rfl
theorem sK' (d : D) (P : Tx -> Prop) (u : U P) : wT d P u = vT d P := by unfold wT; rfl
theorem sN' (d : D) (P : Int -> Prop) (u : U P) : wN d P u = vN d P := by unfold wN; rfl
theorem n3' (o : Option (Option O)) (i : Nat) (ρ : PSt) (Q : D -> PSt -> Prop) (u : U Q) : wV o i ρ Q u = vV o i ρ Q := by unfold wV; rfl
theorem n4' (o : Option (Option O)) (i : Nat) (ρ : PSt) (Q : O -> PSt -> Prop) (u : U Q) : wG o i ρ Q u = vG o i ρ Q := by unfold wG; rfl
theorem sL' (o : Option (Option O)) (Q : O -> Prop) (u : U Q) : wO o Q u = vO o Q := by unfold wO; rfl
theorem sP' (o : Option (Option O)) (Q : List O -> Prop) (u : U Q) : wL o Q u = vL o Q := by unfold wL; rfl
theorem lb' (n : Nat) (A : Prop) (u : U A) : k5' n A u = fS' n A := by unfold k5'; rfl
theorem hE' (i n : Nat) (A : Prop) (u : U A) : pG' i n A u = kv' i n A := by unfold pG'; rfl
theorem lc' (c : Prop) (A : Prop) (u : U A) : wC c A u = vC c A := by unfold wC; rfl
theorem iP' (o : Option Ob) (P : List O -> Prop) (u : U P) : wOb o P u = vOb o P := by unfold wOb; rfl
theorem fa' (o : Option Ob) (P : String -> List (String × O) -> Prop) (u : U P) : vh' o P u = vj' o P := by unfold vh'; rfl
local macro_rules | `(tactic| walk_at "z") => `(tactic| simp only [fc', la', n5', aq', sT', sY', sK', sN', n3', n4', sL', sP', lb', hE', lc', iP', fa'] at *)
section
variable {α β : Type} {Q : α -> PSt -> Prop} {X : Exc -> PSt -> Prop} {ρ : PSt} {P : D -> PSt -> Prop} {D0 : En}
theorem al' (z : α) {Q : α -> Prop} : wD (some z) Q = Q z := by walk_at "z"; first | exact gc' .. | (apply gc' <;> assumption)
theorem vZ' (k : Bool) {Q : Bool -> Prop} : wB (.bl k) Q = Q k := by walk_at "z"; first | exact lu' .. | (apply lu' <;> assumption)
theorem sR' (A B : Prop) : wI true A B = A := by walk_at "z"; first | exact pT' .. | (apply pT' <;> assumption)
theorem vi' (A B : Prop) : wI false A B = B := by walk_at "z"; first | exact pU' .. | (apply pU' <;> assumption)
theorem sS' (k : Bool) (A B : Prop) : wI (!k) A B = wI k B A := by walk_at "z"; first | exact i7' .. | (apply i7' <;> assumption)
theorem x_C (d : D) : wE (eC d ρ) P X = P d ρ := by walk_at "z"; first | exact s1' .. | (apply s1' <;> assumption)
theorem x_V (i : Nat) (env : List (Option O)) (w : W) : wE (eV i ⟨env, w⟩) P X = wV env[i]? i ⟨env, w⟩ P := by walk_at "z"; first | exact sZ' .. | (apply sZ' <;> assumption)
theorem vR' (d : D) (i : Nat) (ρ : PSt) : wV (some (some (.fz d))) i ρ P = P d ρ := by walk_at "z"; first | exact lo' .. | (apply lo' <;> assumption)
theorem sH' (os : List O) (i : Nat) (env : List (Option O)) (w : W) : wV (some (some (.lst os))) i ⟨env, w⟩ P = P (.lst (frzs os)) ⟨env.set i (some (.fz (.lst (frzs os)))), w⟩ := by walk_at "z"; first | exact i2' .. | (apply i2' <;> assumption)
theorem sG' (os : List O) (i : Nat) (env : List (Option O)) (w : W) : wV (some (some (.tup os))) i ⟨env, w⟩ P = P (.tup (frzs os)) ⟨env.set i (some (.fz (.tup (frzs os)))), w⟩ := by walk_at "z"; first | exact i1' .. | (apply i1' <;> assumption)
theorem sI' (ks : List D) (os : List O) (i : Nat) (env : List (Option O)) (w : W) : wV (some (some (.dct ks os))) i ⟨env, w⟩ P = P (.dct ks (frzs os)) ⟨env.set i (some (.fz (.dct ks (frzs os)))), w⟩ := by walk_at "z"; first | exact i3' .. | (apply i3' <;> assumption)
theorem vV' (d : D) (i : Nat) (ρ : PSt) {P : O -> PSt -> Prop} : wG (some (some (.fz d))) i ρ P = P (.fz d) ρ := by walk_at "z"; first | exact lq' .. | (apply lq' <;> assumption)
theorem sV' (os : List O) (i : Nat) (env : List (Option O)) (w : W) {P : O -> PSt -> Prop} : wG (some (some (.lst os))) i ⟨env, w⟩ P = P (.lst os) ⟨env.set i none, w⟩ := by walk_at "z"; first | exact ja' .. | (apply ja' <;> assumption)
theorem sU' (os : List O) (i : Nat) (env : List (Option O)) (w : W) {P : O -> PSt -> Prop} : wG (some (some (.tup os))) i ⟨env, w⟩ P = P (.tup os) ⟨env.set i none, w⟩ := by walk_at "z"; first | exact i9' .. | (apply i9' <;> assumption)
theorem sW' (ks : List D) (os : List O) (i : Nat) (env : List (Option O)) (w : W) {P : O -> PSt -> Prop} : wG (some (some (.dct ks os))) i ⟨env, w⟩ P = P (.dct ks os) ⟨env.set i none, w⟩ := by walk_at "z"; first | exact jb' .. | (apply jb' <;> assumption)
theorem qF' (o : O) {P : O -> Prop} : wO (some (some o)) P = P o := by walk_at "z"; first | exact ga' .. | (apply ga' <;> assumption)
theorem sO' (os : List O) {P : List O -> Prop} : wL (some (some (.lst os))) P = P os := by walk_at "z"; first | exact i6' .. | (apply i6' <;> assumption)
theorem xY' (f : D -> D -> Option D) (a b : ME) : wE (eOp f a b ρ) P X = wE (a ρ) (fun x ρ1 => wE (b ρ1) (fun y ρ2 => wD (f x y) (fun z => P z ρ2)) X) X := by walk_at "z"; first | exact pP' .. | (apply pP' <;> assumption)
theorem xV' (f : D -> Option D) (a : ME) : wE (eUn f a ρ) P X = wE (a ρ) (fun x ρ1 => wD (f x) (fun z => P z ρ1)) X := by walk_at "z"; first | exact pM' .. | (apply pM' <;> assumption)
theorem vP' (a b : ME) : wE (sm' a b ρ) P X = wE (a ρ) (fun x ρ1 => wB x fun k => wI k (wE (b ρ1) P X) (P (.bl false) ρ1)) X := by walk_at "z"; first | exact ln' .. | (apply ln' <;> assumption)
theorem vI' (a : ME) : wE (up' a ρ) P X = wE (a ρ) (fun x ρ1 => wB x fun k => P (.bl (!k)) ρ1) X := by walk_at "z"; first | exact lh' .. | (apply lh' <;> assumption)
theorem qE' (f g : D -> D -> Option D) (a b c : ME) : wE (ep' f g a b c ρ) P X = wE (a ρ) (fun x ρ1 => wE (b ρ1) (fun y ρ2 => wD (f x y) fun r => wB r fun k => wI k (wE (c ρ2) (fun z ρ3 => wD (g y z) fun v => P v ρ3) X) (P (.bl false) ρ2)) X) X := by walk_at "z"; first | exact f7' .. | (apply f7' <;> assumption)
theorem vJ' {P : List D -> PSt -> Prop} : wE (bc' ρ) P X = P [] ρ := by walk_at "z"; first | exact li' .. | (apply li' <;> assumption)
theorem sD' (a : ME) (r : MA) {P : List D -> PSt -> Prop} : wE (ad' a r ρ) P X = wE (a ρ) (fun x ρ1 => wE (r ρ1) (fun xs ρ2 => P (x :: xs) ρ2) X) X := by walk_at "z"; first | exact iZ' .. | (apply iZ' <;> assumption)
theorem qG' {n : Nat} (h : n <= 16777216) (A : Prop) : k5' n A = A := by walk_at "z"; first | exact gb' .. | (apply gb' <;> assumption)
theorem vG' (as : MA) : wE (uo' as ρ) P X = wE (as ρ) (fun xs ρ1 => k5' xs.length (P (.tup xs) ρ1)) X := by walk_at "z"; first | exact lf' .. | (apply lf' <;> assumption)
theorem vK' (as : MA) : wE (nz' as ρ) P X = wE (as ρ) (fun xs ρ1 => k5' xs.length (P (.lst xs) ρ1)) X := by walk_at "z"; first | exact lj' .. | (apply lj' <;> assumption)
theorem x0' (f : Tx -> List D -> Option D) (a : ME) (as : MA) : wE (eMt f a as ρ) P X = wE (a ρ) (fun x ρ1 => wT x fun s => wE (as ρ1) (fun ds ρ2 => wD (f s ds) fun z => P z ρ2) X) X := by walk_at "z"; first | exact pR' .. | (apply pR' <;> assumption)
theorem sJ' (s : Tx) {P : Tx -> Prop} : wT (.str s) P = P s := by walk_at "z"; first | exact i4' .. | (apply i4' <;> assumption)
theorem sM' (s : Int) {P : Int -> Prop} : wN (.int s) P = P s := by walk_at "z"; first | exact i5' .. | (apply i5' <;> assumption)
theorem xZ' {P : Option Int -> PSt -> Prop} : wE (pNo ρ) P X = P none ρ := by walk_at "z"; first | exact pQ' .. | (apply pQ' <;> assumption)
theorem xW' (a : ME) {P : Option Int -> PSt -> Prop} : wE (pSo a ρ) P X = wE (a ρ) (fun x ρ1 => wN x fun i => P (some i) ρ1) X := by walk_at "z"; first | exact pN' .. | (apply pN' <;> assumption)
theorem xX' (a : ME) (lo hi : MP) : wE (eSl a lo hi ρ) P X = wE (a ρ) (fun x ρ1 => wE (lo ρ1) (fun l ρ2 => wE (hi ρ2) (fun h ρ3 => wD (pSl x l h) fun z => P z ρ3) X) X) X := by walk_at "z"; first | exact pO' .. | (apply pO' <;> assumption)
theorem x_O (a : MO) : wE (eO a ρ) P X = wE (a ρ) (fun o ρ1 => P (frz o) ρ1) X := by walk_at "z"; first | exact s0' .. | (apply s0' <;> assumption)
variable {R : O -> PSt -> Prop}
theorem xU' (a : ME) : wE (oE a ρ) R X = wE (a ρ) (fun d ρ1 => R (.fz d) ρ1) X := by walk_at "z"; first | exact pL' .. | (apply pL' <;> assumption)
theorem xT' (i : Nat) (env : List (Option O)) (w : W) : wE (oV i ⟨env, w⟩) R X = wG env[i]? i ⟨env, w⟩ R := by walk_at "z"; first | exact pK' .. | (apply pK' <;> assumption)
theorem sE' (f : MF) (as : MA) : wE (aD' f as ρ) R X = wE (as ρ) (fun ds ρ1 => wF (f ds ρ1.w) (fun o w => R o ⟨ρ1.env, w⟩) fun x w => X x ⟨ρ1.env, w⟩) X := by walk_at "z"; first | exact i0' .. | (apply i0' <;> assumption)
theorem su' (a : ME) : wE (hX' a ρ) R X = wE (a ρ) (fun d ρ1 => wD (asL d) fun ds => R (.lst (ds.map .fz)) ρ1) X := by walk_at "z"; first | exact iS' .. | (apply iS' <;> assumption)
theorem qA' : wE (mW' ρ) R X = R (.dct [] []) ρ := by walk_at "z"; first | exact f4' .. | (apply f4' <;> assumption)
theorem qC' (i : Nat) (a : ME) (env : List (Option O)) (w : W) : wE (gZ' i a ⟨env, w⟩) P X = wL env[i]? fun _ => wE (a ⟨env, w⟩) (fun d ρ1 => wN d fun z => wL ρ1.env[i]? fun os => k5' os.length (wD (ixn os.length z) fun j => wD os[j]? fun o => wD (asF o) fun y => P y ⟨ρ1.env.set i (some (.lst (os.eraseIdx j))), ρ1.w⟩)) X := by walk_at "z"; first | exact f6' .. | (apply f6' <;> assumption)
theorem vN' (i : Nat) (b : ME) (env : List (Option O)) (w : W) : wE (uq' i b ⟨env, w⟩) P X = wO env[i]? fun _ => wE (b ⟨env, w⟩) (fun k ρ1 => wO ρ1.env[i]? fun o => wD (ixO o k) fun z => P z ρ1) X := by walk_at "z"; first | exact ll' .. | (apply ll' <;> assumption)
theorem sC' (i : Nat) : wE (g0' i ρ) P X = wO ρ.env[i]? fun o => wD (nX' o) fun z => P z ρ := by walk_at "z"; first | exact iY' .. | (apply iY' <;> assumption)
theorem vM' (a b : ME) : wE (fG' a b ρ) P X = wE (a ρ) (fun x ρ1 => wE (b ρ1) (fun y ρ2 => wD (ixW ρ2.w x y) fun z => P z ρ2) X) X := by walk_at "z"; first | exact lk' .. | (apply lk' <;> assumption)
theorem vH' (as : MA) : wE (tR' as ρ) R X = wE (as ρ) (fun xs ρ1 => k5' xs.length (R (.fz (.obj ρ1.w.length)) ⟨ρ1.env, ρ1.w ++ [.lst (xs.map .fz)]⟩)) X := by walk_at "z"; first | exact lg' .. | (apply lg' <;> assumption)
theorem vO' (cs : List String) (a : ME) (f : String) : wE (pc' cs a f ρ) P X = wE (a ρ) (fun x ρ1 => wD (if' cs f ρ1.w x) fun z => P z ρ1) X := by walk_at "z"; first | exact lm' .. | (apply lm' <;> assumption)
theorem sA' (C : String) (init : MF) (as : MA) : wE (kD' C init as ρ) R X = wE (as ρ) (fun ds ρ1 => wF (init (.obj ρ1.w.length :: ds) (ρ1.w ++ [.ins C []])) (fun o w => o = .fz .non /\ R (.fz (.obj ρ1.w.length)) ⟨ρ1.env, w⟩) fun x w => X x ⟨ρ1.env, w⟩) X := by walk_at "z"; first | exact iW' .. | (apply iW' <;> assumption)
theorem sz' (C : List String) (m : String) (f : MF) (a : ME) (as : MA) : wE (kC' C m f a as ρ) R X = wE (a ρ) (fun x ρ1 => ia' C m ρ1.w x = true /\ wE (as ρ1) (fun ds ρ2 => wF (f (x :: ds) ρ2.w) (fun o w => R o ⟨ρ2.env, w⟩) fun x w => X x ⟨ρ2.env, w⟩) X) X := by walk_at "z"; first | exact iV' .. | (apply iV' <;> assumption)
variable {B : Bool -> PSt -> Prop}
theorem xS' (a : ME) : wE (tE a ρ) B X = wE (a ρ) (fun d ρ1 => wB d fun k => B k ρ1) X := by walk_at "z"; first | exact pJ' .. | (apply pJ' <;> assumption)
theorem so' (a : MT) : wE (d7' a ρ) B X = wE (a ρ) (fun k ρ1 => B (!k) ρ1) X := by walk_at "z"; first | exact iQ' .. | (apply iQ' <;> assumption)
theorem sq' (a b : MT) : wE (p9' a b ρ) B X = wE (a ρ) (fun k ρ1 => wI k (wE (b ρ1) B X) (B false ρ1)) X := by walk_at "z"; first | exact iR' .. | (apply iR' <;> assumption)
theorem vE' (a b : MT) : wE (tOr a b ρ) B X = wE (a ρ) (fun k ρ1 => wI k (B true ρ1) (wE (b ρ1) B X)) X := by walk_at "z"; first | exact ld' .. | (apply ld' <;> assumption)
theorem xR' : wE (tT ρ) B X = B true ρ := by walk_at "z"; first | exact pI' .. | (apply pI' <;> assumption)
variable {Y : List D -> PSt -> Prop}
theorem sw' (a : ME) : wE (fB' a ρ) Y X = wE (a ρ) (fun d ρ1 => wD (cS' d) fun z => Y z ρ1) X := by walk_at "z"; first | exact iU' .. | (apply iU' <;> assumption)
theorem k8' (a : ME) : wE (bj' a ρ) Y X = wE (a ρ) (fun d ρ1 => wD (dq' d) fun z => Y z ρ1) X := by walk_at "z"; first | exact d5' .. | (apply d5' <;> assumption)
theorem sv' (a b : ME) : wE (uf' a b ρ) Y X = wE (a ρ) (fun d ρ1 => wE (b ρ1) (fun e ρ2 => wD (nT' d e) fun z => Y z ρ2) X) X := by walk_at "z"; first | exact iT' .. | (apply iT' <;> assumption)
theorem qB' (a : ME) : wE (nv' a ρ) Y X = wE (a ρ) (fun d ρ1 => wD (enB d) fun z => Y z ρ1) X := by walk_at "z"; first | exact f5' .. | (apply f5' <;> assumption)
theorem sB' (a : ME) : wE (ih' a ρ) P X = wE (a ρ) (fun x ρ1 => wD (t3' ρ1.w x) fun z => P z ρ1) X := by walk_at "z"; first | exact iX' .. | (apply iX' <;> assumption)
theorem x1' (own : List Nat) (it : MI) (g : MG) (t : MT) (e : ME) : wE (eLc own it g t e ρ) P X = wE (it ρ) (fun xs ρ1 => wE (lcL own g t e xs [] ρ1) (fun ys ρ2 => P (.lst ys) ⟨back ρ1.env own (a4' own ρ2.env), ρ2.w⟩) X) X := by walk_at "z"; first | exact pS' .. | (apply pS' <;> assumption)
theorem vF' (own : List Nat) (it : MI) (g : MG) (t : MT) (e : ME) : wE (oLc own it g t e ρ) R X = wE (it ρ) (fun xs ρ1 => wE (lcL own g t e xs [] ρ1) (fun ys ρ2 => R (.lst (ys.map .fz)) ⟨back ρ1.env own (a4' own ρ2.env), ρ2.w⟩) X) X := by walk_at "z"; first | exact le' .. | (apply le' <;> assumption)
variable {N : PSt -> Prop} {rt : O -> W -> Prop} {bk ct : PSt -> Prop} {ex : Exc -> PSt -> Prop}
theorem to' : wS (a6' ρ) ⟨N, rt, bk, ct, ex⟩ = N ρ := by walk_at "z"; first | exact jf' .. | (apply jf' <;> assumption)
theorem tp' (a : ME) : wS (fk' a ρ) ⟨N, rt, bk, ct, ex⟩ = wE (a ρ) (fun _ ρ1 => N ρ1) ex := by walk_at "z"; first | exact jg' .. | (apply jg' <;> assumption)
theorem v4' (a : MO) : wS (bT' a ρ) ⟨N, rt, bk, ct, ex⟩ = wE (a ρ) (fun o ρ1 => rt o ρ1.w) ex := by walk_at "z"; first | exact lw' .. | (apply lw' <;> assumption)
theorem v3' (a b : MS) : wS (aF' a b ρ) ⟨N, rt, bk, ct, ex⟩ = wS (a ρ) ⟨fun ρ1 => wS (b ρ1) ⟨N, rt, bk, ct, ex⟩, rt, bk, ct, ex⟩ := by walk_at "z"; first | exact hG' .. | (apply hG' <;> assumption)
theorem x3' (t : MT) (a b : MS) : wS (sIf t a b ρ) ⟨N, rt, bk, ct, ex⟩ = wE (t ρ) (fun k ρ1 => wI k (wS (a ρ1) ⟨N, rt, bk, ct, ex⟩) (wS (b ρ1) ⟨N, rt, bk, ct, ex⟩)) ex := by walk_at "z"; first | exact pV' .. | (apply pV' <;> assumption)
theorem hD' {i n : Nat} (h : i < n) (A : Prop) : pG' i n A = A := by walk_at "z"; first | exact f8' .. | (apply f8' <;> assumption)
theorem v2' (i : Nat) (a : MO) : wS (br' i a ρ) ⟨N, rt, bk, ct, ex⟩ = wE (a ρ) (fun o ρ1 => pG' i ρ1.env.length (N ⟨ρ1.env.set i (some o), ρ1.w⟩)) ex := by walk_at "z"; first | exact lv' .. | (apply lv' <;> assumption)
theorem v8' (g : MG) (a : ME) : wS (tr' g a ρ) ⟨N, rt, bk, ct, ex⟩ = wE (a ρ) (fun d ρ1 => wD (g d ρ1) N) ex := by walk_at "z"; first | exact lA' .. | (apply lA' <;> assumption)
theorem v7' (f : D -> D -> Option D) (i : Nat) (a : ME) : wS (sg' f i a ρ) ⟨N, rt, bk, ct, ex⟩ = wO ρ.env[i]? fun o => wD (asF o) fun d => wE (a ρ) (fun y ρ1 => wD (f d y) fun z => pG' i ρ1.env.length (N ⟨ρ1.env.set i (some (.fz z)), ρ1.w⟩)) ex := by walk_at "z"; first | exact lz' .. | (apply lz' <;> assumption)
theorem v9' (i : Nat) (a : MO) : wS (jV' i a ρ) ⟨N, rt, bk, ct, ex⟩ = wL ρ.env[i]? fun _ => wE (a ρ) (fun o ρ1 => wL ρ1.env[i]? fun os => pG' os.length 16777216 (N ⟨ρ1.env.set i (some (.lst (os ++ [o]))), ρ1.w⟩)) ex := by walk_at "z"; first | exact lB' .. | (apply lB' <;> assumption)
theorem tn' (i : Nat) (k a : ME) : wS (mx' i k a ρ) ⟨N, rt, bk, ct, ex⟩ = wE (a ρ) (fun d ρ1 => wO ρ1.env[i]? fun _ => wE (k ρ1) (fun y ρ2 => wL ρ2.env[i]? fun os => wN y fun z => wD (ixn os.length z) fun j => N ⟨ρ2.env.set i (some (.lst (os.set j (.fz d)))), ρ2.w⟩) ex) ex := by walk_at "z"; first | exact je' .. | (apply je' <;> assumption)
theorem tm' (o k a : ME) : wS (c7' o k a ρ) ⟨N, rt, bk, ct, ex⟩ = wE (a ρ) (fun d ρ1 => wE (o ρ1) (fun x ρ2 => wE (k ρ2) (fun y ρ3 => wD (ol' ρ3.w x y d) fun w => N ⟨ρ3.env, w⟩) ex) ex) ex := by walk_at "z"; first | exact jd' .. | (apply jd' <;> assumption)
theorem ow' (w : W) (b : Ob) (n : Nat) : x2' w b (.obj n) = w.set n b := rfl
theorem v6' (cs : List String) (a : ME) (f : String) (v : MO) : wS (sFld cs a f v ρ) ⟨N, rt, bk, ct, ex⟩ = wE (v ρ) (fun o ρ1 => wE (a ρ1) (fun x ρ2 => wD (stF cs f o ρ2.w x) fun w => N ⟨ρ2.env, w⟩) ex) ex := by walk_at "z"; first | exact ly' .. | (apply ly' <;> assumption)
theorem v5' (it : MI) (g : MG) (b : MS) : wS (dX' it g b ρ) ⟨N, rt, bk, ct, ex⟩ = wE (it ρ) (fun ds ρ1 => wS (fW' g b ds ρ1) ⟨N, rt, bk, ct, ex⟩) ex := by walk_at "z"; first | exact lx' .. | (apply lx' <;> assumption)
theorem tP' {k n : Nat} {b : MS} {ds : List D} {w : W} {Q : O -> W -> Prop} {X : Exc -> W -> Prop} (q : wS (b ⟨ds.map (fun d => some (.fz d)) ++ List.replicate (n - k) none, w⟩) ⟨fun ρ => Q (.fz .non) ρ.w, Q, fun _ => False, fun _ => False, fun x ρ => X x ρ.w⟩) (h : ds.length = k) : wF (fnM k n b ds w) Q X := by walk_at "z"; first | exact jh' .. | (apply jh' <;> assumption)
theorem vY' (o : O) (w : W) {Q : O -> W -> Prop} {X : Exc -> W -> Prop} : wF (.ok o w) Q X = Q o w := by walk_at "z"; first | exact lr' .. | (apply lr' <;> assumption)
theorem sX' (x : Exc) (w : W) {Q : O -> W -> Prop} {X : Exc -> W -> Prop} : wF (.exc x w) Q X = X x w := by walk_at "z"; first | exact jc' .. | (apply jc' <;> assumption)
theorem wF.mono {r : FRes} {Q Q' : O -> W -> Prop} {X : Exc -> W -> Prop} (h : wF r Q FX) (k : ∀ o w, Q o w -> Q' o w) : wF r Q' X := by walk_at "z"; first | exact vF.mono .. | (apply vF.mono <;> assumption)
theorem wF.exi {r : FRes} {Q : O -> W -> Prop} (h : wF r Q FX) : ∃ o w, r = .ok o w /\ Q o w := by walk_at "z"; first | exact vF.exi .. | (apply vF.exi <;> assumption)
theorem wF.of {r : FRes} {Q : O -> W -> Prop} {X : Exc -> W -> Prop} {o : O} {w : W} (e : r = .ok o w) (h : Q o w) : wF r Q X := by walk_at "z"; first | exact vF.of .. | (apply vF.of <;> assumption)
theorem wS.mono {o : Out} {D1 D2 : En} (h : wS o D1) (h1 : ∀ ρ, D1.nx ρ -> D2.nx ρ) (h2 : ∀ o w, D1.rt o w -> D2.rt o w) (h3 : ∀ ρ, D1.bk ρ -> D2.bk ρ) (h4 : ∀ ρ, D1.ct ρ -> D2.ct ρ) (h5 : ∀ x ρ, D1.ex x ρ -> D2.ex x ρ) : wS o D2 := by walk_at "z"; first | exact vS.mono .. | (apply vS.mono <;> assumption)
theorem wE.mono {r : Res α} {Q Q' : α -> PSt -> Prop} {X X' : Exc -> PSt -> Prop} (h : wE r Q X) (k : ∀ a ρ, Q a ρ -> Q' a ρ) (k2 : ∀ x ρ, X x ρ -> X' x ρ) : wE r Q' X' := by walk_at "z"; first | exact vE.mono .. | (apply vE.mono <;> assumption)
theorem ea' {a b : MS} (J : PSt -> Prop) (h : wS (a ρ) ⟨J, rt, bk, ct, ex⟩) (k : ∀ ρ1, J ρ1 -> wS (b ρ1) ⟨N, rt, bk, ct, ex⟩) : wS (aF' a b ρ) ⟨N, rt, bk, ct, ex⟩ := by walk_at "z"; first | exact ge' .. | (apply ge' <;> assumption)
theorem aJ' {p : Prop} [Decidable p] {A B : Prop} (h1 : p -> A) (h2 : ¬ p -> B) : wI (decide p) A B := by walk_at "z"; first | exact i8' .. | (apply i8' <;> assumption)
theorem rH' {g : MG} {b : MS} {ds : List D} (Inv : List D -> PSt -> Prop) (h0 : Inv [] ρ)
    (step : ∀ pre d post ρ, ds = pre ++ d :: post -> Inv pre ρ -> wD (g d ρ) fun ρ1 => wS (b ρ1) ⟨Inv (pre ++ [d]), rt, N, Inv (pre ++ [d]), ex⟩)
    (hend : ∀ ρ, Inv ds ρ -> N ρ) : wS (fW' g b ds ρ) ⟨N, rt, bk, ct, ex⟩ := by walk_at "z"; first | exact gg' .. | (apply gg' <;> assumption)
theorem bz' {γ : Type} {g : MG} {b : MS} {f : γ -> D} {cs : List γ} (Inv : List γ -> PSt -> Prop) (h0 : Inv [] ρ)
    (step : ∀ pre c post ρ, cs = pre ++ c :: post -> Inv pre ρ -> wD (g (f c) ρ) fun ρ1 => wS (b ρ1) ⟨Inv (pre ++ [c]), rt, N, Inv (pre ++ [c]), ex⟩)
    (hend : ∀ ρ, Inv cs ρ -> N ρ) : wS (fW' g b (cs.map f) ρ) ⟨N, rt, bk, ct, ex⟩ := by walk_at "z"; first | exact d6' .. | (apply d6' <;> assumption)
theorem cY' {g : MG} {b : MS} {lo : Int} {n : Nat} (Inv : Nat -> PSt -> Prop) (h0 : Inv 0 ρ)
    (step : ∀ k ρ, k < n -> Inv k ρ -> wD (g (.int (lo + (k : Nat))) ρ) fun ρ1 => wS (b ρ1) ⟨Inv (k + 1), rt, N, Inv (k + 1), ex⟩)
    (hend : ∀ ρ, Inv n ρ -> N ρ) : wS (fW' g b (rgI lo n) ρ) ⟨N, rt, bk, ct, ex⟩ := by walk_at "z"; first | exact gf' .. | (apply gf' <;> assumption)
theorem dz' {own : List Nat} {g : MG} {t : MT} {e : ME} {γ : Type} {f : γ -> D} {cs : List γ} {Q : List D -> PSt -> Prop} (hl : cs.length <= 16777216) (Inv : List γ -> List D -> PSt -> Prop) (h0 : Inv [] [] ρ)
    (step : ∀ pre c post acc ρ, cs = pre ++ c :: post -> Inv pre acc ρ -> wD (g (f c) ⟨a4' own ρ.env, ρ.w⟩) fun ρ1 => wE (t ρ1) (fun k ρ2 => wI k (wE (e ρ2) (fun y ρ3 => Inv (pre ++ [c]) (acc ++ [y]) ρ3) PX) (Inv (pre ++ [c]) acc ρ2)) PX)
    (hend : ∀ acc ρ, Inv cs acc ρ -> Q acc ρ) : wE (lcL own g t e (cs.map f) [] ρ) Q X := by walk_at "z"; first | exact ji' .. | (apply ji' <;> assumption)
end
theorem qH' (C : String) (fs : List (String × O)) {P : String -> List (String × O) -> Prop} : vh' (some (.ins C fs)) P = P C fs := by simp only [fa']; exact lp' ..
theorem wC' (cs : List String) (f : String) (o : O) (w : W) (n : Nat) {N : W -> Prop} : wD (stF cs f o w (.obj n)) N = vh' w[n]? (fun C fs => wC (C ∈ cs /\ fs.length < 1000) (N (w.set n (.ins C (nW' f o fs))))) := by simp only [aq', fa', lc']; exact qK' ..
theorem oe' (w : W) (n : Nat) {Q : List O -> Prop} : vD (xJ' w (.obj n)) Q = vOb w[n]? Q := by
  show vD (match w[n]? with | some (.lst os) => some os | _ => none) Q = _
  rcases w[n]? with _ | b
  . rfl
  cases b <;> rfl
theorem uL' (w : W) (n : Nat) {Q : List O -> Prop} : wD (xJ' w (.obj n)) Q = wOb w[n]? Q := by simp only [fc', la', n5', aq', iP']; exact oe' w n
theorem of' (w : W) (n : Nat) {Q : D -> Prop} : vD (t3' w (.obj n)) Q = vOb w[n]? fun os => Q (.int os.length) := by
  show vD (match w[n]? with | some (.lst os) => some (.int os.length) | _ => none) Q = _
  rcases w[n]? with _ | b
  . rfl
  cases b <;> rfl
theorem uO' (w : W) (n : Nat) {Q : D -> Prop} : wD (t3' w (.obj n)) Q = wOb w[n]? fun os => Q (.int os.length) := by simp only [fc', la', n5', aq', iP']; exact of' w n
theorem bv' (os : List O) {P : List O -> Prop} : wOb (some (.lst os)) P = P os := by walk_at "z"; first | exact f9' .. | (apply f9' <;> assumption)
theorem n6' {c : Prop} (h : c) (A : Prop) : wC c A = A := by walk_at "z"; first | exact lt' .. | (apply lt' <;> assumption)
theorem qI' (A : Prop) : wC True A = A := by walk_at "z"; first | exact gd' .. | (apply gd' <;> assumption)
theorem d4' {α : Type} {c : Prop} [Decidable c] {x : α} {Q : α -> Prop} : wD (if c then some x else none) Q = wC c (Q x) := by walk_at "z"; first | exact aB' .. | (apply aB' <;> assumption)
theorem f0' {α β : Type} {f : α -> β} {o : Option α} {Q : β -> Prop} : wD (o.map f) Q = wD o (fun a => Q (f a)) := by walk_at "z"; first | exact bF' .. | (apply bF' <;> assumption)
section
variable {Q : D -> Prop} {Y : List D -> Prop}
theorem u4' (i j : Int) : wD (cm' (.int i) (.int j)) Q = Q (.int (i + j)) := by walk_at "z"; first | exact jL' .. | (apply jL' <;> assumption)
theorem u2' (a b : Tx) : wD (cm' (.str a) (.str b)) Q = k5' (a.length + b.length) (Q (.str (a ++ b))) := by walk_at "z"; first | exact jJ' .. | (apply jJ' <;> assumption)
theorem u3' (a b : List D) : wD (cm' (.lst a) (.lst b)) Q = k5' (a.length + b.length) (Q (.lst (a ++ b))) := by walk_at "z"; first | exact jK' .. | (apply jK' <;> assumption)
theorem u1' (a b : List D) : wD (cm' (.tup a) (.tup b)) Q = k5' (a.length + b.length) (Q (.tup (a ++ b))) := by walk_at "z"; first | exact jI' .. | (apply jI' <;> assumption)
theorem r8' (i j : Int) : wD (oP' (.int i) (.int j)) Q = Q (.int (i + j)) := by walk_at "z"; first | exact gr' .. | (apply gr' <;> assumption)
theorem wA' (i j : Int) : wD (mN' (.int i) (.int j)) Q = Q (.int (i - j)) := by walk_at "z"; first | exact lD' .. | (apply lD' <;> assumption)
theorem wQ' (i j : Int) : wD (fn' (.int i) (.int j)) Q = wC (((-18446744073709551616 < i /\ i < 18446744073709551616) \/ (-18446744073709551616 < j /\ j < 18446744073709551616)) \/ ((-2582249878086908589655919172003011874329705792829223512830659356540647622016841194629645353280137831435903171972747493376 < i /\ i < 2582249878086908589655919172003011874329705792829223512830659356540647622016841194629645353280137831435903171972747493376) /\ (-2582249878086908589655919172003011874329705792829223512830659356540647622016841194629645353280137831435903171972747493376 < j /\ j < 2582249878086908589655919172003011874329705792829223512830659356540647622016841194629645353280137831435903171972747493376))) (Q (.int (i * j))) := by walk_at "z"; first | exact lO' .. | (apply lO' <;> assumption)
theorem uJ' (a : Tx) (j : Int) : wD (fn' (.str a) (.int j)) Q = wC (j < 4611686018427387904 /\ -4611686018427387904 <= j /\ a.length * j.toNat <= 16777216) (Q (.str (List.replicate j.toNat a).flatten)) := by walk_at "z"; first | exact jw' .. | (apply jw' <;> assumption)
theorem uK' (a : List D) (j : Int) : wD (fn' (.lst a) (.int j)) Q = wC (j < 4611686018427387904 /\ -4611686018427387904 <= j /\ a.length * j.toNat <= 16777216) (Q (.lst (List.replicate j.toNat a).flatten)) := by walk_at "z"; first | exact jx' .. | (apply jx' <;> assumption)
theorem u0' (i j : Int) : wD (gD' (.int i) (.int j)) Q = wC (0 < j /\ j < 1606938044258990275541962092341162602522202993782792835301376) (Q (.int (i / j))) := by walk_at "z"; first | exact jH' .. | (apply jH' <;> assumption)
theorem wR' (i j : Int) : wD (j2' (.int i) (.int j)) Q = wC (0 < j) (Q (.int (i % j))) := by walk_at "z"; first | exact lP' .. | (apply lP' <;> assumption)
theorem wL' (i j : Int) : wD (tL' (.int i) (.int j)) Q = wC (0 <= j /\ j <= 1000 /\ -18446744073709551616 < i /\ i < 18446744073709551616) (Q (.int (i ^ j.toNat))) := by walk_at "z"; first | exact lK' .. | (apply lK' <;> assumption)
theorem wM' (i : Int) : wD (vr' (.int i)) Q = Q (.int (-i)) := by walk_at "z"; first | exact lL' .. | (apply lL' <;> assumption)
theorem xc' (i j : Int) : wD (pEq (.int i) (.int j)) Q = Q (.bl (decide (i = j))) := by walk_at "z"; first | exact l8' .. | (apply l8' <;> assumption)
theorem xb' (i j : Tx) : wD (pEq (.str i) (.str j)) Q = Q (.bl (decide (i = j))) := by walk_at "z"; first | exact l7' .. | (apply l7' <;> assumption)
theorem xd' (i j : Bool) : wD (pEq (.bl i) (.bl j)) Q = Q (.bl (i == j)) := by walk_at "z"; first | exact l9' .. | (apply l9' <;> assumption)
theorem yn' (x y : D) : wD (pEq x y) Q = wC (dat x = true /\ dat y = true /\ dep x <= 64 /\ dep y <= 64) (Q (.bl (eqb x y))) := by walk_at "z"; first | exact p6' .. | (apply p6' <;> assumption)
theorem wO' (i j : Int) : wD (pNe (.int i) (.int j)) Q = Q (.bl (!decide (i = j))) := by walk_at "z"; first | exact lN' .. | (apply lN' <;> assumption)
theorem wN' (i j : Tx) : wD (pNe (.str i) (.str j)) Q = Q (.bl (!decide (i = j))) := by walk_at "z"; first | exact lM' .. | (apply lM' <;> assumption)
theorem yf' (x y : D) : wD (pNe x y) Q = wC (dat x = true /\ dat y = true /\ dep x <= 64 /\ dep y <= 64) (Q (.bl (!eqb x y))) := by walk_at "z"; first | exact pW' .. | (apply pW' <;> assumption)
theorem w0' (x : D) : wD (pIs x .non) Q = Q (.bl (dO' x)) := by walk_at "z"; first | exact l0' .. | (apply l0' <;> assumption)
theorem w2' (x y : Bool) : wD (pIs (.bl x) (.bl y)) Q = Q (.bl (x == y)) := by walk_at "z"; first | exact l1' .. | (apply l1' <;> assumption)
theorem po' (x : D) : wD (j3' x .non) Q = Q (.bl (!dO' x)) := by walk_at "z"; first | exact eS' .. | (apply eS' <;> assumption)
theorem pp' (x y : Bool) : wD (j3' (.bl x) (.bl y)) Q = Q (.bl (!(x == y))) := by walk_at "z"; first | exact eT' .. | (apply eT' <;> assumption)
theorem yg' (i j : Int) : wD (pLt (.int i) (.int j)) Q = Q (.bl (decide (i < j))) := by walk_at "z"; first | exact pX' .. | (apply pX' <;> assumption)
theorem yh' (i j : Int) : wD (pLe (.int i) (.int j)) Q = Q (.bl (decide (i <= j))) := by walk_at "z"; first | exact pY' .. | (apply pY' <;> assumption)
theorem yi' (i j : Int) : wD (pGt (.int i) (.int j)) Q = Q (.bl (decide (j < i))) := by walk_at "z"; first | exact pZ' .. | (apply pZ' <;> assumption)
theorem yk' (i j : Int) : wD (pGe (.int i) (.int j)) Q = Q (.bl (decide (j <= i))) := by walk_at "z"; first | exact p3' .. | (apply p3' <;> assumption)
theorem wU' (i j : Tx) : wD (pLt (.str i) (.str j)) Q = Q (.bl (decide (i < j))) := by walk_at "z"; first | exact lS' .. | (apply lS' <;> assumption)
theorem wV' (i j : Tx) : wD (pLe (.str i) (.str j)) Q = Q (.bl (!decide (j < i))) := by walk_at "z"; first | exact lT' .. | (apply lT' <;> assumption)
theorem w5' (i j : Tx) : wD (pGt (.str i) (.str j)) Q = Q (.bl (decide (j < i))) := by walk_at "z"; first | exact l4' .. | (apply l4' <;> assumption)
theorem w7' (i j : Tx) : wD (pGe (.str i) (.str j)) Q = Q (.bl (!decide (i < j))) := by walk_at "z"; first | exact l6' .. | (apply l6' <;> assumption)
theorem w4' (c : Nat) (s : Tx) : wD (pIn (.str [c]) (.str s)) Q = Q (.bl (decide (c ∈ s))) := by walk_at "z"; first | exact l3' .. | (apply l3' <;> assumption)
theorem uH' (c : Nat) (s : Tx) : wD (gC' (.str [c]) (.str s)) Q = Q (.bl (!decide (c ∈ s))) := by walk_at "z"; first | exact jv' .. | (apply jv' <;> assumption)
theorem qu' (i : Int) (ns : List Int) : wD (pIn (.int i) (.tup (ns.map .int))) Q = Q (.bl (decide (i ∈ ns))) := by walk_at "z"; first | exact jE' .. | (apply jE' <;> assumption)
theorem qv' (i : Int) (ns : List Int) : wD (pIn (.int i) (.lst (ns.map .int))) Q = Q (.bl (decide (i ∈ ns))) := by walk_at "z"; first | exact jF' .. | (apply jF' <;> assumption)
theorem uP' (s : Tx) : wD (dw' (.str s)) Q = Q (.int s.length) := by walk_at "z"; first | exact jA' .. | (apply jA' <;> assumption)
theorem uR' (s : List D) : wD (dw' (.lst s)) Q = Q (.int s.length) := by walk_at "z"; first | exact jB' .. | (apply jB' <;> assumption)
theorem ko' (s : List D) : wD (dw' (.tup s)) Q = Q (.int s.length) := by walk_at "z"; first | exact jz' .. | (apply jz' <;> assumption)
theorem wX' (s : Tx) (i : Int) : wD (pIx (.str s) (.int i)) Q = wD (ati s i) (fun c => Q (.str [c])) := by walk_at "z"; first | exact lW' .. | (apply lW' <;> assumption)
theorem uW' (s : List D) (i : Int) : wD (pIx (.lst s) (.int i)) Q = wD (ati s i) Q := by walk_at "z"; first | exact lY' .. | (apply lY' <;> assumption)
theorem r2' (s : List D) (i : Int) : wD (pIx (.tup s) (.int i)) Q = wD (ati s i) Q := by walk_at "z"; first | exact lV' .. | (apply lV' <;> assumption)
theorem wE' (s : Tx) (lo hi : Option Int) : wD (pSl (.str s) lo hi) Q = Q (.str (cut s lo hi)) := by walk_at "z"; first | exact lF' .. | (apply lF' <;> assumption)
theorem wG' (s : List D) (lo hi : Option Int) : wD (pSl (.lst s) lo hi) Q = Q (.lst (cut s lo hi)) := by walk_at "z"; first | exact lH' .. | (apply lH' <;> assumption)
theorem wD' (s : List D) (lo hi : Option Int) : wD (pSl (.tup s) lo hi) Q = Q (.tup (cut s lo hi)) := by walk_at "z"; first | exact lE' .. | (apply lE' <;> assumption)
theorem wF' (s : List D) (lo hi : Option Int) : wD (pSl (.scr s) lo hi) Q = Q (.lst (cut s lo hi)) := by walk_at "z"; first | exact lG' .. | (apply lG' <;> assumption)
theorem uD' (s : Tx) : wD (vq' (.str s)) Q = Q (.str s.reverse) := by walk_at "z"; first | exact jt' .. | (apply jt' <;> assumption)
theorem uE' (s : List D) : wD (vq' (.lst s)) Q = Q (.lst s.reverse) := by walk_at "z"; first | exact ju' .. | (apply ju' <;> assumption)
theorem uT' (l : List Tx) : wD (em' [] [.lst (l.map .str)]) Q = k5' (l.map List.length).sum (Q (.str l.flatten)) := by walk_at "z"; first | exact fd' .. | (apply fd' <;> assumption)
theorem r0' (l : Tx) : wD (em' [] [.lst (l.map chD)]) Q = k5' l.length (Q (.str l)) := by walk_at "z"; first | exact gp' .. | (apply gp' <;> assumption)
theorem uZ' (a b : Tx) : wD (na' a [.str b]) Q = Q (.int (fnd (hB' a b))) := by walk_at "z"; first | exact jG' .. | (apply jG' <;> assumption)
theorem r5' (a b : Tx) : wD (e2' a [.str b]) Q = wD (hB' a b) (fun i => Q (.int (i : Nat))) := by walk_at "z"; first | exact gq' .. | (apply gq' <;> assumption)
theorem rL' (s : Tx) : wD (qj' (.str s)) Q = wC (s.all (fun c => decide (c < 128)) = true /\ s.length <= 5592405) (Q (.str (s.map up1))) := by walk_at "z"; first | exact gh' .. | (apply gh' <;> assumption)
theorem w3' (i : Int) : wD (fU' (.int i)) Q = Q (.int i) := by walk_at "z"; first | exact l2' .. | (apply l2' <;> assumption)
theorem uX' (b : Bool) : wD (fU' (.bl b)) Q = Q (.int (if b then 1 else 0)) := by walk_at "z"; first | exact jD' .. | (apply jD' <;> assumption)
theorem xl' (i : Int) : wD (vt' (.int i)) Q = Q (.int (if i < 0 then -i else i)) := by walk_at "z"; first | exact mg' .. | (apply mg' <;> assumption)
theorem wT' (i j : Int) : wD (mP' (.int i) (.int j)) Q = Q (.int (max i j)) := by walk_at "z"; first | exact lR' .. | (apply lR' <;> assumption)
theorem wS' (i j : Int) : wD (oO' (.int i) (.int j)) Q = Q (.int (min i j)) := by walk_at "z"; first | exact lQ' .. | (apply lQ' <;> assumption)
theorem nB' (s : List D) : wD (dv' (.lst s)) Q = Q (.tup s) := by walk_at "z"; first | exact jo' .. | (apply jo' <;> assumption)
theorem uy' (s : List D) : wD (dv' (.tup s)) Q = Q (.tup s) := by walk_at "z"; first | exact jn' .. | (apply jn' <;> assumption)
theorem rV' (s : List D) : wD (b0' (.lst s)) Q = Q (.lst s) := by walk_at "z"; first | exact gm' .. | (apply gm' <;> assumption)
theorem rT' (s : List D) : wD (b0' (.tup s)) Q = Q (.lst s) := by walk_at "z"; first | exact gl' .. | (apply gl' <;> assumption)
theorem rO' (s : Tx) : wD (cb' (.str s)) Q = wC (s.length < 64) (Q (.lst ((bO' s).map chD))) := by walk_at "z"; first | exact gi' .. | (apply gi' <;> assumption)
theorem aY' (t : String) (d : D) : wD (bt' t d) Q = wD (tyn d) (fun n => Q (.bl (n == t || (n == "bool" && t == "int")))) := by walk_at "z"; first | exact lZ' .. | (apply lZ' <;> assumption)
theorem wz' (l : List Int) : wD (xE' (.lst (l.map .int))) Q = Q (.int l.sum) := by walk_at "z"; first | exact lC' .. | (apply lC' <;> assumption)
theorem xk' (l : List Bool) : wD (xG' (.lst (l.map .bl))) Q = Q (.bl (l.all id)) := by walk_at "z"; first | exact mf' .. | (apply mf' <;> assumption)
theorem xj' (l : List Bool) : wD (xF' (.lst (l.map .bl))) Q = Q (.bl (l.any id)) := by walk_at "z"; first | exact me' .. | (apply me' <;> assumption)
theorem uC' (s : List D) : wD (cS' (.lst s)) Y = Y s := by walk_at "z"; first | exact js' .. | (apply js' <;> assumption)
theorem kn' (s : List D) : wD (cS' (.tup s)) Y = Y s := by walk_at "z"; first | exact jq' .. | (apply jq' <;> assumption)
theorem uB' (s : Tx) : wD (cS' (.str s)) Y = Y (s.map chD) := by walk_at "z"; first | exact jr' .. | (apply jr' <;> assumption)
theorem wK' (j : Int) : wD (dq' (.int j)) Y = wC (-4611686018427387904 <= j /\ j < 4611686018427387904) (Y (rgI 0 j.toNat)) := by walk_at "z"; first | exact lJ' .. | (apply lJ' <;> assumption)
theorem wJ' (i j : Int) : wD (mO' (.int i) (.int j)) Y = wC ((-4611686018427387904 <= i /\ i < 4611686018427387904) /\ (-4611686018427387904 <= j /\ j < 4611686018427387904)) (Y (rgI i (j - i).toNat)) := by walk_at "z"; first | exact lI' .. | (apply lI' <;> assumption)
theorem ut' (a b : Tx) : wD (nT' (.str a) (.str b)) Y = Y (cD' (a.map chD) (b.map chD)) := by walk_at "z"; first | exact jk' .. | (apply jk' <;> assumption)
theorem uw' (a b : List D) : wD (nT' (.lst a) (.lst b)) Y = Y (cD' a b) := by walk_at "z"; first | exact jm' .. | (apply jm' <;> assumption)
theorem us' (a b : List D) : wD (nT' (.tup a) (.tup b)) Y = Y (cD' a b) := by walk_at "z"; first | exact jj' .. | (apply jj' <;> assumption)
theorem uv' (a : Tx) (b : List D) : wD (xw' (.str a) (.tup b)) Y = Y (cD' (a.map chD) b) := by walk_at "z"; first | exact jl' .. | (apply jl' <;> assumption)
theorem xe' (a : Tx) : wD (enB (.str a)) Y = Y (cL' 0 (a.map chD)) := by walk_at "z"; first | exact ma' .. | (apply ma' <;> assumption)
theorem xf' (a : List D) : wD (enB (.lst a)) Y = Y (cL' 0 a) := by walk_at "z"; first | exact mb' .. | (apply mb' <;> assumption)
theorem rR' (a : List D) : wD (vo' (.lst a)) Y = Y a.reverse := by walk_at "z"; first | exact gk' .. | (apply gk' <;> assumption)
theorem rQ' (a : List D) : wD (vo' (.tup a)) Y = Y a.reverse := by walk_at "z"; first | exact gj' .. | (apply gj' <;> assumption)
theorem uM' (j : Int) : wD (c8' (.int j)) Q = wC (RgB 0 j = true) (Q (.lst (dA' 0 j))) := by walk_at "z"; first | exact jy' .. | (apply jy' <;> assumption)
theorem xL' (i : Nat) (d : D) (env : List (Option O)) (w : W) {N : PSt -> Prop} : wD (gN i d ⟨env, w⟩) N = pG' i env.length (N ⟨env.set i (some (.fz d)), w⟩) := by walk_at "z"; first | exact p5' .. | (apply p5' <;> assumption)
theorem yl' (is : List Nat) (ds : List D) (ρ : PSt) {N : PSt -> Prop} : wD (gT is (.tup ds) ρ) N = wD (gNs is ds ρ) N := by walk_at "z"; first | exact p4' .. | (apply p4' <;> assumption)
theorem w6' (ρ : PSt) {N : PSt -> Prop} : wD (gNs [] [] ρ) N = N ρ := by walk_at "z"; first | exact l5' .. | (apply l5' <;> assumption)
theorem yj' (i : Nat) (is : List Nat) (d : D) (ds : List D) (ρ : PSt) {N : PSt -> Prop} : wD (gNs (i :: is) (d :: ds) ρ) N = wD (gN i d ρ) (fun ρ1 => wD (gNs is ds ρ1) N) := by walk_at "z"; first | exact p0' .. | (apply p0' <;> assumption)
theorem wW' (w : W) (n : Nat) (k : D) : wD (ixW w (.obj n) k) Q = wOb w[n]? (fun os => wD (ixO (.lst os) k) Q) := by walk_at "z"; first | exact lU' .. | (apply lU' <;> assumption)
theorem wY' (os : List O) (i : Int) : wD (ixO (.lst os) (.int i)) Q = wD (ati os i) (fun o => wD (asF o) Q) := by walk_at "z"; first | exact lX' .. | (apply lX' <;> assumption)
theorem xi' (d : D) : wD (asF (.fz d)) Q = Q d := by walk_at "z"; first | exact md' .. | (apply md' <;> assumption)
theorem xh' (d : List D) {Q : List D -> Prop} : wD (asL (.lst d)) Q = Q d := by walk_at "z"; first | exact mc' .. | (apply mc' <;> assumption)
theorem uU' (d k : D) : wD (ixO (.fz d) k) Q = wD (pIx d k) Q := by walk_at "z"; first | exact jC' .. | (apply jC' <;> assumption)
theorem uA' (w : W) (n : Nat) (z : Int) (d : D) {N : W -> Prop} : wD (ol' w (.obj n) (.int z) d) N = wOb w[n]? (fun os => wD (ixn os.length z) (fun j => N (w.set n (.lst (os.set j (.fz d)))))) := by walk_at "z"; first | exact jp' .. | (apply jp' <;> assumption)
theorem rX' (os : List O) : wD (nX' (.lst os)) Q = Q (.int os.length) := by walk_at "z"; first | exact gn' .. | (apply gn' <;> assumption)
theorem rY' (d : D) : wD (nX' (.fz d)) Q = wD (dw' d) Q := by walk_at "z"; first | exact go' .. | (apply go' <;> assumption)
end
theorem ir'  {Q : D -> Prop} : wD (bt' "int" .non) Q = Q (.bl false) := by rw [aY', aq']; rfl
theorem kO' (a : Bool) {Q : D -> Prop} : wD (bt' "int" (.bl a)) Q = Q (.bl true) := by rw [aY', aq']; rfl
theorem it' (a : Int) {Q : D -> Prop} : wD (bt' "int" (.int a)) Q = Q (.bl true) := by rw [aY', aq']; rfl
theorem iq' (a : Tx) {Q : D -> Prop} : wD (bt' "int" (.str a)) Q = Q (.bl false) := by rw [aY', aq']; rfl
theorem ip' (a : List D) {Q : D -> Prop} : wD (bt' "int" (.tup a)) Q = Q (.bl false) := by rw [aY', aq']; rfl
theorem is' (a : List D) {Q : D -> Prop} : wD (bt' "int" (.lst a)) Q = Q (.bl false) := by rw [aY', aq']; rfl
theorem iu' (a b : List D) {Q : D -> Prop} : wD (bt' "int" (.dct a b)) Q = Q (.bl false) := by rw [aY', aq']; rfl
theorem hk'  {Q : D -> Prop} : wD (bt' "bool" .non) Q = Q (.bl false) := by rw [aY', aq']; rfl
theorem iw' (a : Bool) {Q : D -> Prop} : wD (bt' "bool" (.bl a)) Q = Q (.bl true) := by rw [aY', aq']; rfl
theorem hm' (a : Int) {Q : D -> Prop} : wD (bt' "bool" (.int a)) Q = Q (.bl false) := by rw [aY', aq']; rfl
theorem hj' (a : Tx) {Q : D -> Prop} : wD (bt' "bool" (.str a)) Q = Q (.bl false) := by rw [aY', aq']; rfl
theorem hi' (a : List D) {Q : D -> Prop} : wD (bt' "bool" (.tup a)) Q = Q (.bl false) := by rw [aY', aq']; rfl
theorem hl' (a : List D) {Q : D -> Prop} : wD (bt' "bool" (.lst a)) Q = Q (.bl false) := by rw [aY', aq']; rfl
theorem hn' (a b : List D) {Q : D -> Prop} : wD (bt' "bool" (.dct a b)) Q = Q (.bl false) := by rw [aY', aq']; rfl
theorem ik'  {Q : D -> Prop} : wD (bt' "str" .non) Q = Q (.bl false) := by rw [aY', aq']; rfl
theorem kN' (a : Bool) {Q : D -> Prop} : wD (bt' "str" (.bl a)) Q = Q (.bl false) := by rw [aY', aq']; rfl
theorem im' (a : Int) {Q : D -> Prop} : wD (bt' "str" (.int a)) Q = Q (.bl false) := by rw [aY', aq']; rfl
theorem ij' (a : Tx) {Q : D -> Prop} : wD (bt' "str" (.str a)) Q = Q (.bl true) := by rw [aY', aq']; rfl
theorem ii' (a : List D) {Q : D -> Prop} : wD (bt' "str" (.tup a)) Q = Q (.bl false) := by rw [aY', aq']; rfl
theorem il' (a : List D) {Q : D -> Prop} : wD (bt' "str" (.lst a)) Q = Q (.bl false) := by rw [aY', aq']; rfl
theorem in' (a b : List D) {Q : D -> Prop} : wD (bt' "str" (.dct a b)) Q = Q (.bl false) := by rw [aY', aq']; rfl
theorem fK'  {Q : D -> Prop} : wD (bt' "tuple" .non) Q = Q (.bl false) := by rw [aY', aq']; rfl
theorem g3' (a : Bool) {Q : D -> Prop} : wD (bt' "tuple" (.bl a)) Q = Q (.bl false) := by rw [aY', aq']; rfl
theorem fM' (a : Int) {Q : D -> Prop} : wD (bt' "tuple" (.int a)) Q = Q (.bl false) := by rw [aY', aq']; rfl
theorem fJ' (a : Tx) {Q : D -> Prop} : wD (bt' "tuple" (.str a)) Q = Q (.bl false) := by rw [aY', aq']; rfl
theorem fI' (a : List D) {Q : D -> Prop} : wD (bt' "tuple" (.tup a)) Q = Q (.bl true) := by rw [aY', aq']; rfl
theorem fL' (a : List D) {Q : D -> Prop} : wD (bt' "tuple" (.lst a)) Q = Q (.bl false) := by rw [aY', aq']; rfl
theorem fN' (a b : List D) {Q : D -> Prop} : wD (bt' "tuple" (.dct a b)) Q = Q (.bl false) := by rw [aY', aq']; rfl
theorem g6'  {Q : D -> Prop} : wD (bt' "list" .non) Q = Q (.bl false) := by rw [aY', aq']; rfl
theorem io' (a : Bool) {Q : D -> Prop} : wD (bt' "list" (.bl a)) Q = Q (.bl false) := by rw [aY', aq']; rfl
theorem g8' (a : Int) {Q : D -> Prop} : wD (bt' "list" (.int a)) Q = Q (.bl false) := by rw [aY', aq']; rfl
theorem g5' (a : Tx) {Q : D -> Prop} : wD (bt' "list" (.str a)) Q = Q (.bl false) := by rw [aY', aq']; rfl
theorem g4' (a : List D) {Q : D -> Prop} : wD (bt' "list" (.tup a)) Q = Q (.bl false) := by rw [aY', aq']; rfl
theorem g7' (a : List D) {Q : D -> Prop} : wD (bt' "list" (.lst a)) Q = Q (.bl true) := by rw [aY', aq']; rfl
theorem g9' (a b : List D) {Q : D -> Prop} : wD (bt' "list" (.dct a b)) Q = Q (.bl false) := by rw [aY', aq']; rfl
theorem hd'  {Q : D -> Prop} : wD (bt' "dict" .non) Q = Q (.bl false) := by rw [aY', aq']; rfl
theorem iv' (a : Bool) {Q : D -> Prop} : wD (bt' "dict" (.bl a)) Q = Q (.bl false) := by rw [aY', aq']; rfl
theorem hf' (a : Int) {Q : D -> Prop} : wD (bt' "dict" (.int a)) Q = Q (.bl false) := by rw [aY', aq']; rfl
theorem hb' (a : Tx) {Q : D -> Prop} : wD (bt' "dict" (.str a)) Q = Q (.bl false) := by rw [aY', aq']; rfl
theorem ha' (a : List D) {Q : D -> Prop} : wD (bt' "dict" (.tup a)) Q = Q (.bl false) := by rw [aY', aq']; rfl
theorem he' (a : List D) {Q : D -> Prop} : wD (bt' "dict" (.lst a)) Q = Q (.bl false) := by rw [aY', aq']; rfl
theorem hh' (a b : List D) {Q : D -> Prop} : wD (bt' "dict" (.dct a b)) Q = Q (.bl true) := by rw [aY', aq']; rfl
theorem kp' (l : List Int) (v : Int) {Q : D -> Prop} : wD (m9' (l.map .int) [.int v]) Q = wC (v ∈ l) (Q (.int (l.idxOf v : Nat))) := by
  show wD ((bM' (l.map .int)).bind fun ns => if v ∈ ns then some (D.int ((ns.idxOf v : Nat) : Int)) else none) Q = _
  rw [nq', Option.bind_some, d4']
theorem sQ' {p : Prop} [Decidable p] (h : p) (A B : Prop) : wI (decide p) A B = A := by rw [decide_eq_true h]; exact sR' A B
theorem vU' {p : Prop} [Decidable p] (h : ¬ p) (A B : Prop) : wI (decide p) A B = B := by rw [decide_eq_false h]; exact vi' A B
theorem vy' {b : Bool} (h : b = true) : O.fz (.bl true) = O.fz (.bl b) := by rw [h]
theorem vz' {b : Bool} (h : b = false) : O.fz (.bl false) = O.fz (.bl b) := by rw [h]
theorem sb' {α β : Type} (f : α -> β) (l : List α) (i : Int) : ati (l.map f) i = (ati l i).map f := by
  unfold ati
  rw [List.length_map]
  cases ixn l.length i with
  | none => rfl
  | some j => simp
theorem bh' {α : Type} {xs : List α} {i : Nat} {Q : α -> Prop} (h : i < xs.length) (k : ∀ x, x ∈ xs -> xs[i]? = some x -> Q x) : wD xs[i]? Q := by
  rw [List.getElem?_eq_getElem h, al']
  exact k _ (List.getElem_mem h) (List.getElem?_eq_getElem h)
theorem bk' {α : Type} {l : List α} {i : Nat} {x : α} (h : l[i]? = some x) : i < l.length := (List.getElem?_eq_some_iff.mp h).1
def But (n : Nat) (w w' : W) : Prop := w'.length = w.length /\ ∀ j, j ≠ n -> w'[j]? = w[j]?
theorem But.refl {n : Nat} {w : W} : But n w w := ⟨rfl, fun _ _ => rfl⟩
theorem But.trans {n : Nat} {w w1 w2 : W} (a : But n w w1) (b : But n w1 w2) : But n w w2 := ⟨b.1.trans a.1, fun j h => (b.2 j h).trans (a.2 j h)⟩
theorem But.set {n : Nat} {w w1 : W} {o : Ob} (a : But n w w1) : But n w (w1.set n o) := ⟨by rw [List.length_set]; exact a.1, fun j h => by rw [List.getElem?_set_ne (Ne.symm h)]; exact a.2 j h⟩
theorem tn1 (d : Nat) : ((d : Int) + 1).toNat = d + 1 := rfl
theorem vd' (l : List D) (d : D) : l.map O.fz ++ [O.fz d] = (l ++ [d]).map O.fz := by simp
theorem rG' (l : List D) : frz (.lst (l.map .fz)) = .lst l := by simp [frz]
theorem hF' {k : Bool} {A B : Prop} (h1 : k = true -> A) (h2 : k = false -> B) : wI k A B := by
  cases k
  . rw [vi']; exact h2 rfl
  . rw [sR']; exact h1 rfl
theorem pH' {k : Bool} {a b : Out} {N bk ct : PSt -> Prop} {rt : O -> W -> Prop} {ex : Exc -> PSt -> Prop} (J : PSt -> Prop) (h : wI k (wS a ⟨J, rt, bk, ct, ex⟩) (wS b ⟨J, rt, bk, ct, ex⟩)) (hk : ∀ ρ, J ρ -> N ρ) : wI k (wS a ⟨N, rt, bk, ct, ex⟩) (wS b ⟨N, rt, bk, ct, ex⟩) := by
  cases k
  . rw [vi'] at *
    exact wS.mono h hk (fun _ _ h => h) (fun _ h => h) (fun _ h => h) (fun _ _ h => h)
  . rw [sR'] at *
    exact wS.mono h hk (fun _ _ h => h) (fun _ h => h) (fun _ h => h) (fun _ _ h => h)
def vD' (w : W) (n : Nat) : Prop := ∃ (cells : List Int) (i b s c : Int), w[n]? = some (.lst [.fz (.lst (cells.map .int)), .fz (.int i), .fz (.int b), .fz (.int s), .fz (.int c)]) /\ 0 <= i
theorem sF' (A : Prop) : vX (some (some .exn)) A = A := rfl
end M
namespace M
mutual
theorem fE' : ∀ (d : D), dat d = true -> eqb d d = true
  | .non, _ => rfl
  | .bl b, _ => by simp [eqb]
  | .int i, _ => by simp [eqb]
  | .str s, _ => by simp [eqb]
  | .tup ds, h => by simp only [eqb]; exact eqbs_refl ds (by simpa [dat] using h)
  | .lst ds, h => by simp only [eqb]; exact eqbs_refl ds (by simpa [dat] using h)
theorem eqbs_refl : ∀ (ds : List D), dats ds = true -> eqbs ds ds = true
  | [], _ => rfl
  | d :: r, h => by
    simp only [dats, Bool.and_eq_true] at h
    simp only [eqbs, fE' d h.1, eqbs_refl r h.2, Bool.and_self]
end
theorem pj' (x : D) (h : dat x = true) (h2 : dep x <= 64) {Q : D -> Prop} : wD (pNe x x) Q = Q (.bl false) := by
  rw [yf', n6' ⟨h, h, h2, h2⟩, fE' x h]; rfl
theorem pr' (x : D) (h : dat x = true) (h2 : dep x <= 64) {Q : D -> Prop} : wD (pEq x x) Q = Q (.bl true) := by
  rw [yn', n6' ⟨h, h, h2, h2⟩, fE' x h]
def eE' (r : List Nat) : D := .tup (r.map fun t => .int (t : Nat))
def dJ' (T : List (List Nat)) : D := .tup (T.map eE')
def d2' (A : List Nat) : D := .tup (A.map fun a => .int (a : Nat))
def bC' (T : List (List Nat)) (size many : Nat) : Prop := T.length = size /\ ∀ r ∈ T, r.length = many /\ ∀ t ∈ r, t < size
abbrev abc : Tx := [97, 98, 99, 100, 101, 102, 103, 104, 105, 106, 107, 108, 109, 110, 111, 112, 113, 114, 115, 116, 117, 118, 119, 120, 121, 122]
theorem m5' {c : Nat} : c ∈ abc ↔ 97 <= c /\ c <= 122 := by
  simp only [List.mem_cons, List.not_mem_nil, or_false]
  omega
structure LetOk (L : Tx) (most : Nat) : Prop where
  ne : 1 <= L.length
  le : L.length <= most
  asc : L.Pairwise (· < ·)
  abc : ∀ c ∈ L, 97 <= c /\ c <= 122
structure AccOk (A : List Nat) (size : Nat) : Prop where
  asc : A.Pairwise (· < ·)
  lt : ∀ a ∈ A, a < size
structure MacOk (L : Tx) (T : List (List Nat)) (A : List Nat) (most states : Nat) : Prop where
  let' : LetOk L most
  tab : bC' T T.length L.length
  ne : 1 <= T.length
  le : T.length <= states
  acc : AccOk A T.length
theorem r1' (T : List (List Nat)) (s : Nat) {Q : D -> Prop} : wD (pIx (dJ' T) (.int (s : Nat))) Q = wD T[s]? (fun r => Q (eE' r)) := by
  unfold dJ'
  rw [r2', hu' (by omega), List.getElem?_map, f0', Int.toNat_natCast]
theorem r3' (r : List Nat) (s : Nat) {Q : D -> Prop} : wD (pIx (eE' r) (.int (s : Nat))) Q = wD r[s]? (fun t => Q (.int (t : Nat))) := by
  unfold eE'
  rw [r2', hu' (by omega), List.getElem?_map, f0', Int.toNat_natCast]
theorem nC' (A : List Nat) (s : Nat) {Q : D -> Prop} : wD (pIn (.int (s : Nat)) (d2' A)) Q = Q (.bl (decide (s ∈ A))) := by
  unfold d2'
  have := qu' (Q := Q) (s : Int) (A.map (Nat.cast : Nat -> Int))
  rw [List.map_map] at this
  rw [show (A.map fun a => D.int (a : Nat)) = A.map (D.int ∘ (Nat.cast : Nat -> Int)) from rfl, this]
  congr 2
  simp only [List.mem_map, decide_eq_decide]
  constructor
  . rintro ⟨a, h, e⟩
    have : a = s := by omega
    exact this ▸ h
  . exact fun h => ⟨s, h, rfl⟩
theorem pl' (T : List (List Nat)) {Q : D -> Prop} : wD (dw' (dJ' T)) Q = Q (.int T.length) := by
  unfold dJ'
  rw [ko', List.length_map]
theorem pm' (T : List Nat) {Q : D -> Prop} : wD (dw' (eE' T)) Q = Q (.int T.length) := by
  unfold eE'
  rw [ko', List.length_map]
theorem pn' (T : List Nat) {Q : D -> Prop} : wD (dw' (d2' T)) Q = Q (.int T.length) := by
  unfold d2'
  rw [ko', List.length_map]
theorem kh' (v : Nat) : ∀ l : List Nat, (l.map (Nat.cast : Nat -> Int)).idxOf (v : Int) = l.idxOf v
  | [] => rfl
  | a :: l => by
    simp only [List.map_cons, List.idxOf_cons, kh' v l]
    have : ((a : Int) == (v : Int)) = (a == v) := by rw [Bool.eq_iff_iff]; simp; omega
    rw [this]
theorem pq' (l : List Nat) (v : Nat) {Q : D -> Prop} : wD (m9' (l.map fun s => .int (s : Nat)) [.int (v : Nat)]) Q = wC (v ∈ l) (Q (.int (l.idxOf v : Nat))) := by
  have h := kp' (Q := Q) (l.map (Nat.cast : Nat -> Int)) (v : Int)
  rw [List.map_map, kh'] at h
  rw [show (l.map fun s => D.int (s : Nat)) = l.map (D.int ∘ (Nat.cast : Nat -> Int)) from rfl, h]
  congr 1
  simp only [List.mem_map]
  rw [eq_iff_iff]
  constructor
  . rintro ⟨a, h, e⟩
    have : a = v := by omega
    exact this ▸ h
  . exact fun h => ⟨v, h, rfl⟩
theorem o9' (i : Nat) : fnd (some i) = (i : Int) := rfl
theorem kd' (a : Tx) (c : Nat) (i : Nat) : qo' a [c] i = decide (a[i]? = some c) := by
  unfold qo'
  rw [Bool.eq_iff_iff]
  simp only [Bool.and_eq_true, decide_eq_true_eq, List.length_cons, List.length_nil]
  constructor
  . rintro ⟨h1, h2⟩
    rw [List.take_one, List.head?_drop] at h2
    revert h2
    cases a[i]? <;> simp
  . intro h
    have := (List.getElem?_eq_some_iff.mp h).1
    refine ⟨by omega, ?_⟩
    rw [List.take_one, List.head?_drop, h]
    rfl
theorem kk' {a : Tx} {c : Nat} (h : c ∈ a) : hB' a [c] = some (a.idxOf c) := by
  unfold hB'
  rw [List.find?_range_eq_some]
  have hi : a.idxOf c < a.length := List.idxOf_lt_length_iff.mpr h
  refine ⟨?_, by simp; omega, ?_⟩
  . rw [kd', decide_eq_true_iff, List.getElem?_eq_getElem hi, List.getElem_idxOf]
  . intro j hj
    rw [kd']
    simp only [Bool.not_eq_eq_eq_not, Bool.not_true, decide_eq_false_iff_not]
    intro e
    obtain ⟨hl, e⟩ := List.getElem?_eq_some_iff.mp e
    have := List.not_of_lt_findIdx (p := (· == c)) (xs := a) hj
    simp [e] at this
def stp (L : Tx) (T : List (List Nat)) (s c : Nat) : Nat := (((T[s]?).getD [])[L.idxOf c]?).getD 0
def run (L : Tx) (T : List (List Nat)) (s : Nat) (x : Tx) : Nat := x.foldl (stp L T) s
theorem mk' {L : Tx} {T : List (List Nat)} (h : bC' T T.length L.length) {s c : Nat} (hs : s < T.length) (hc : c ∈ L) : ∃ r, T[s]? = some r /\ r[L.idxOf c]? = some (stp L T s c) /\ stp L T s c < T.length := by
  have hr := h.2 T[s] (List.getElem_mem hs)
  have hi : L.idxOf c < T[s].length := by rw [hr.1]; exact List.idxOf_lt_length_iff.mpr hc
  have e : stp L T s c = T[s][L.idxOf c] := by
    unfold stp
    rw [List.getElem?_eq_getElem hs, Option.getD_some, List.getElem?_eq_getElem hi, Option.getD_some]
  exact ⟨T[s], List.getElem?_eq_getElem hs, by rw [e, List.getElem?_eq_getElem hi], by rw [e]; exact hr.2 _ (List.getElem_mem hi)⟩
theorem q7' {L T s} : run L T s [] = s := rfl
theorem jW' {L T s x c} : run L T s (x ++ [c]) = stp L T (run L T s x) c := by unfold run; rw [List.foldl_append]; rfl
theorem oD' {L T s c x} : run L T s (c :: x) = run L T (stp L T s c) x := rfl
def oX' (L : Tx) (T : List (List Nat)) (A : List Nat) : Ob := .ins "Machine" [("kept_letters", .fz (.str L)), ("kept_table", .fz (dJ' T)), ("kept_accepts", .fz (d2' A)), ("kept_least", .fz .non), ("kept_field", .fz .non), ("kept_lots", .dct [] []), ("kept_more", .dct [] [])]
structure Mac (w : W) (m : Nat) (L : Tx) (T : List (List Nat)) (A : List Nat) : Prop where
  fl : ∀ cs, "Machine" ∈ cs -> if' cs "kept_letters" w (.obj m) = some (.str L)
  ft : ∀ cs, "Machine" ∈ cs -> if' cs "kept_table" w (.obj m) = some (dJ' T)
  fa : ∀ cs, "Machine" ∈ cs -> if' cs "kept_accepts" w (.obj m) = some (d2' A)
theorem Mac.new {w : W} {m : Nat} {L T A} (h : w[m]? = some (oX' L T A)) : Mac w m L T A := by
  refine ⟨fun cs hc => ?_, fun cs hc => ?_, fun cs hc => ?_⟩
  all_goals simp [if', h, oX', hc, List.lookup]
theorem Mac.but {w w' : W} {m n : Nat} {L T A} (h : Mac w m L T A) (hb : But n w w') (hn : m ≠ n) : Mac w' m L T A := by
  refine ⟨fun cs hc => ?_, fun cs hc => ?_, fun cs hc => ?_⟩
  . have := h.fl cs hc; simpa only [if', hb.2 m hn] using this
  . have := h.ft cs hc; simpa only [if', hb.2 m hn] using this
  . have := h.fa cs hc; simpa only [if', hb.2 m hn] using this
theorem Mac.snoc {w : W} {m : Nat} {L T A} {o : Ob} (h : Mac w m L T A) (hn : m < w.length) : Mac (w ++ [o]) m L T A := by
  have e : (w ++ [o])[m]? = w[m]? := List.getElem?_append_left hn
  refine ⟨fun cs hc => ?_, fun cs hc => ?_, fun cs hc => ?_⟩
  . have := h.fl cs hc; simpa only [if', e] using this
  . have := h.ft cs hc; simpa only [if', e] using this
  . have := h.fa cs hc; simpa only [if', e] using this
theorem vD'.snoc {w : W} {n : Nat} {o : Ob} (h : vD' w n) : vD' (w ++ [o]) n := by
  obtain ⟨c, i, b, s, k, e, hi⟩ := h
  exact ⟨c, i, b, s, k, by rw [List.getElem?_append_left (bk' e)]; exact e, hi⟩
theorem Mac.made {w : W} {L T A} : Mac (w ++ [oX' L T A]) w.length L T A := Mac.new (by rw [List.getElem?_append_right (by omega), Nat.sub_self]; rfl)
end M
namespace M
theorem wD.mono {α : Type} {o : Option α} {Q Q' : α -> Prop} (h : wD o Q) (k : ∀ a, Q a -> Q' a) : wD o Q' := by
  rw [aq'] at *
  cases o with
  | none => exact h
  | some a => exact k a h
theorem qn' {own : List Nat} {g : MG} {t : MT} {e : ME} {γ : Type} {f : γ -> D} {cs : List γ} {Q : List D -> PSt -> Prop} {X : Exc -> PSt -> Prop} {env : List (Option O)} {w : W} (v : γ -> D) (hl : cs.length <= 16777216)
    (step : ∀ c ∈ cs, wD (g (f c) ⟨a4' own env, w⟩) fun ρ1 => wE (t ρ1) (fun k ρ2 => k = true /\ wE (e ρ2) (fun y ρ3 => y = v c /\ ρ3.w = w /\ a4' own ρ3.env = a4' own env) PX) PX)
    (hend : ∀ env2, a4' own env2 = a4' own env -> Q (cs.map v) ⟨env2, w⟩) : wE (lcL own g t e (cs.map f) [] ⟨env, w⟩) Q X := by
  refine dz' hl (fun pre acc ρ => acc = pre.map v /\ ρ.w = w /\ a4' own ρ.env = a4' own env) ⟨rfl, rfl, rfl⟩ ?_ ?_
  . rintro pre c post acc ρ ec ⟨rfl, hw, he⟩
    have s := step c (by rw [ec]; simp)
    rw [he, hw]
    refine s.mono fun ρ1 s => ?_
    refine s.mono ?_ (fun _ _ z => z)
    rintro k ρ2 ⟨rfl, h3⟩
    rw [sR']
    refine h3.mono ?_ (fun _ _ z => z)
    rintro y ρ3 ⟨rfl, h4, h5⟩
    exact ⟨by simp, h4, h5⟩
  . rintro acc ⟨env2, w2⟩ ⟨rfl, hw, he⟩
    simp only at hw he
    subst hw
    exact hend env2 he
end M
namespace M
def wv' : O -> Prop
  | .dct _ _ => True
  | _ => False
section
variable {ρ : PSt} {P : D -> PSt -> Prop} {R : O -> PSt -> Prop} {X : Exc -> PSt -> Prop} {Y : List D -> PSt -> Prop}
theorem n8' (a : MO) : vE (oS' a ρ) R X = vE (a ρ) (fun o ρ1 => vD (nU' o) fun ob => R (.fz (.obj ρ1.w.length)) ⟨ρ1.env, ρ1.w ++ [ob]⟩) X := by
  simp only [oS', ag']
  congr
  funext o ρ1
  cases nU' o <;> rfl
variable {N : PSt -> Prop} {rt : O -> W -> Prop} {bk ct : PSt -> Prop} {ex : Exc -> PSt -> Prop}
theorem sr' (a : MO) : wE (oS' a ρ) R X = wE (a ρ) (fun o ρ1 => wD (nU' o) fun ob => R (.fz (.obj ρ1.w.length)) ⟨ρ1.env, ρ1.w ++ [ob]⟩) X := by simp only [fc', la', n5', aq', sT', sY', sK', sN', n3', n4', sL', sP', lb', hE', lc', iP', fa']; exact n8' ..
theorem rK' (a : Tx) (b : List D) {Y : List D -> Prop} : wD (xQ' (.str a) (.lst b)) Y = Y (cD' (a.map chD) b) := by rw [aq']; rfl
end
theorem fH' {γ δ α : Type} [DecidableEq γ] (e : γ -> D) (he : ∀ a b, eqb (e a) (e b) = decide (a = b)) (v : δ -> α) (k : γ) : ∀ l : List (γ × δ), dget (l.map fun p => e p.1) (l.map fun p => v p.2) (e k) = (l.lookup k).map v
  | [] => rfl
  | (a, b) :: l => by
    have ih := fH' e he v k l
    unfold dget sk' at *
    rw [List.map_cons, List.map_cons, List.findIdx?_cons, he, List.lookup_cons]
    by_cases h : a = k
    . subst h; simp
    . have h2 : (k == a) = false := by simp; exact fun e => h e.symm
      rw [decide_eq_false h, h2]
      simp only [Bool.false_eq_true, if_false]
      rw [<- ih]
      cases List.findIdx? (fun d => eqb d (e k)) (l.map fun p => e p.1) <;> simp
theorem kb' {γ δ : Type} [DecidableEq γ] (e : γ -> D) (he : ∀ a b, eqb (e a) (e b) = decide (a = b)) (k : γ) : ∀ l : List (γ × δ), l.lookup k = none -> sk' (l.map fun p => e p.1) (e k) = none
  | [], _ => rfl
  | (a, b) :: l, h => by
    rw [List.lookup_cons] at h
    by_cases hk : a = k
    . subst hk; simp at h
    . have h2 : (k == a) = false := by simp; exact fun e => hk e.symm
      rw [h2] at h
      have ih := kb' e he k l h
      unfold sk' at *
      rw [List.map_cons, List.findIdx?_cons, he, decide_eq_false hk]
      simp only [Bool.false_eq_true, if_false, ih, Option.map_none]
theorem ig' (a b : Nat) : eqb (.int (a : Nat)) (.int (b : Nat)) = decide (a = b) := by
  simp only [eqb]
  rw [Bool.eq_iff_iff]
  simp
  try omega
def dN (l : List (Nat × D)) : O := .dct (l.map fun p => .int (p.1 : Nat)) (l.map fun p => .fz p.2)
def dNz (l : List (Nat × D)) : D := .dct (l.map fun p => .int (p.1 : Nat)) (l.map fun p => p.2)
def dX {γ : Type} (e : γ -> D) (l : List (γ × D)) : O := .dcx (l.map fun p => e p.1) (l.map fun p => .fz p.2)
structure KeyE {γ : Type} [DecidableEq γ] (e : γ -> D) : Prop where
  eq : ∀ a b, eqb (e a) (e b) = decide (a = b)
  kat : ∀ a, kat (e a) = true
  dep : ∀ a, dep (e a) <= 8
  sca : ∀ a b, sca (e a) = sca (e b)
theorem qp' (l : List (Nat × D)) : frz (dN l) = dNz l := by
  unfold dN dNz
  simp only [frz, nx', List.map_map]
  rfl
theorem vT' (l : List (Nat × D)) (i : Nat) (env : List (Option O)) (w : W) {P : D -> PSt -> Prop} : wV (some (some (dN l))) i ⟨env, w⟩ P = P (dNz l) ⟨env.set i (some (.fz (dNz l))), w⟩ := by
  rw [n3']
  show vV (some (some (O.dct _ _))) _ _ _ = _
  rw [<- qp']; rfl
theorem vX' (l : List (Nat × D)) (i : Nat) (env : List (Option O)) (w : W) {P : O -> PSt -> Prop} : wG (some (some (dN l))) i ⟨env, w⟩ P = P (dN l) ⟨env.set i none, w⟩ := by
  rw [n4']; rfl
theorem nb' (l : List (Nat × D)) (k : Nat) : kG' (dN l) (.int (k : Nat)) = some ((l.lookup k).map .fz) := by
  show (if isK (.int (k : Nat)) = true then some (dget _ _ _) else none) = _
  rw [if_pos (show isK (.int (k : Nat)) = true from rfl), fH' (fun n : Nat => D.int (n : Nat)) ig' O.fz k l]
theorem ka' (l : List (Nat × D)) (k : Nat) : kG' (.fz (dNz l)) (.int (k : Nat)) = some ((l.lookup k).map .fz) := by
  show (if isK (.int (k : Nat)) = true then some (dget _ (List.map O.fz (l.map fun p => p.2)) _) else none) = _
  rw [if_pos (show isK (.int (k : Nat)) = true from rfl), List.map_map]
  exact congrArg some (fH' (fun n : Nat => D.int (n : Nat)) ig' O.fz k l)
section
variable {Q : Option O -> Prop} {P : D -> Prop} {N : O -> Prop} {Y : List D -> Prop}
theorem rS' (l : List (Nat × D)) (k : Nat) : wD (kG' (dN l) (.int (k : Nat))) Q = Q ((l.lookup k).map .fz) := by rw [nb', al']
theorem pk' (l : List (Nat × D)) (k : Nat) : wD (kG' (.fz (dNz l)) (.int (k : Nat))) Q = Q ((l.lookup k).map .fz) := by rw [ka', al']
theorem kr' (o : Option D) : vA' (some (o.map .fz)) = o := by cases o <;> rfl
theorem sc' (d : D) : vA' (some (some (.fz d))) = some d := rfl
theorem wZ' (l : List (Nat × D)) (k : Nat) : wD (vA' (kG' (dN l) (.int (k : Nat)))) P = wD (l.lookup k) P := by rw [nb', kr']
theorem uV' (l : List (Nat × D)) (k : Nat) : wD (vA' (kG' (.fz (dNz l)) (.int (k : Nat)))) P = wD (l.lookup k) P := by rw [ka', kr']
theorem uF' {l : List (Nat × D)} {k : Nat} (h : l.lookup k = none) (hl : l.length < 16777216) (d : D) : wD (wc' (dN l) (.int (k : Nat)) (.fz d)) N = N (dN (l ++ [(k, d)])) := by
  show wD (if isK (.int (k : Nat)) = true then (tI' _ _ _ _).map (fun p => O.dct p.1 p.2) else none) N = _
  rw [if_pos (show isK (.int (k : Nat)) = true from rfl), f0']
  unfold tI'
  rw [kb' (fun n : Nat => D.int (n : Nat)) ig' k l h]
  simp only
  rw [if_pos (by rw [List.length_map]; exact hl), al']
  unfold dN
  simp
theorem uQ' (l : List (Nat × D)) : wD (nX' (dN l)) P = P (.int l.length) := by
  show wD (some (D.int _)) P = _
  rw [al', List.length_map]
theorem uN' {γ : Type} (e : γ -> D) (l : List (γ × D)) : wD (nX' (dX e l)) P = P (.int l.length) := by
  show wD (some (D.int _)) P = _
  rw [al', List.length_map]
theorem rZ' (l : List (Nat × D)) : wD (dw' (dNz l)) P = P (.int l.length) := by
  show wD (some (D.int _)) P = _
  rw [al', List.length_map]
theorem o6' (l : List (Nat × D)) : wv' (dN l) = True := rfl
theorem fY' {γ : Type} (f g : γ -> D) : ∀ l : List γ, cD' (l.map f) (l.map g) = l.map fun p => .tup [f p, g p]
  | [] => rfl
  | a :: l => by
    simp only [List.map_cons, cD', fY' f g l]
theorem r4' (l : List (Nat × D)) : wD (u5' (dNz l)) Y = Y (l.map fun p => .tup [.int (p.1 : Nat), p.2]) := by
  show wD (some (cD' _ _)) Y = _
  rw [al', fY']
theorem ux' (l : List (Nat × D)) : wD (xm' (dNz l)) Y = Y (l.map fun p => p.2) := by
  show wD (some _) Y = _
  rw [al']
theorem uS' (l : List (Nat × D)) : wD (xn' (dNz l)) Y = Y (l.map fun p => .int (p.1 : Nat)) := by
  show wD (some _) Y = _
  rw [al']
theorem pt' (k : Int) (d : D) : wD (tM' false (.int k) d) N = N (.dct [.int k] [.fz d]) := by
  show wD (some (O.dct [.int k] [.fz d])) N = _
  rw [al']
theorem wP' (i j : Bool) : wD (pNe (.bl i) (.bl j)) P = P (.bl (!(i == j))) := by
  rw [show pNe (.bl i) (.bl j) = some (.bl (!(i == j))) from rfl, al']
end
section
variable {Q : D -> Prop} {Y : List D -> Prop}
theorem ph' (r : List Nat) : wD (cS' (eE' r)) Y = Y (r.map fun t => .int (t : Nat)) := by unfold eE'; rw [kn']
theorem pi' (r : List Nat) : wD (cS' (d2' r)) Y = Y (r.map fun t => .int (t : Nat)) := by unfold d2'; rw [kn']
theorem pg' (T : List (List Nat)) : wD (cS' (dJ' T)) Y = Y (T.map eE') := by unfold dJ'; rw [kn']
end
theorem rC' : dO' .non = true := rfl
theorem rB' (n : Nat) : dO' (.obj n) = false := rfl
theorem rE' (n : Int) : dO' (.int n) = false := rfl
theorem rA' (n : Tx) : dO' (.str n) = false := rfl
theorem uc' (n : Bool) : dO' (.bl n) = false := rfl
theorem rz' (n : List D) : dO' (.tup n) = false := rfl
theorem rD' (n : List D) : dO' (.lst n) = false := rfl
section
variable {Q : D -> Prop}
theorem oR' (cs : List Nat) : ei' (cs.map chD) = some cs := by
  induction cs with
  | nil => rfl
  | cons c cs ih => show (ei' (cs.map chD)).map (c :: ·) = _; rw [ih]; rfl
theorem rP' {cs : List Nat} (h : cs ≠ []) : wD (cb' (.lst (cs.map chD))) Q = wC (cs.length < 64) (Q (.lst ((bO' cs).map chD))) := by
  have e : bM' (cs.map chD) = none := by
    cases cs with
    | nil => exact absurd rfl h
    | cons c cs => rfl
  show wD (match bM' (cs.map chD) with | some ns => some (D.lst ((qT' ns).map .int)) | none => (ei' (cs.map chD)).bind fun cs => if cs.length < 64 then some (.lst ((bO' cs).map chD)) else none) Q = _
  rw [e]
  simp only [oR', Option.bind_some]
  exact d4'
theorem rU' (s : Tx) : wD (b0' (.str s)) Q = Q (.lst (s.map chD)) := by
  show wD (some _) Q = _
  rw [al']
end
theorem uI' (F : List Nat) (t : Nat) {P : D -> Prop} : wD (tT' (inO (.int (t : Nat)) (.lst (F.map fun s => .fz (.int (s : Nat)))))) P = P (.bl (!decide (t ∈ F))) := by
  have e1 : (F.map fun s => O.fz (.int (s : Nat))).all (fun o => match o with | .fz _ => true | _ => false) = true := by induction F <;> simp_all
  have e2 : (F.map fun s => O.fz (.int (s : Nat))).map frz = F.map fun s => .int (s : Nat) := by rw [List.map_map]; rfl
  have h := qv' (Q := fun d => wD (tT' (some d)) P) (t : Int) (F.map (Nat.cast : Nat -> Int))
  rw [List.map_map] at h
  show wD (tT' (if (F.map fun s => O.fz (.int (s : Nat))).all (fun o => match o with | .fz _ => true | _ => false) = true then pIn (.int (t : Nat)) (.lst ((F.map fun s => O.fz (.int (s : Nat))).map frz)) else none)) P = _
  rw [if_pos e1, e2]
  have e3 : ∀ o : Option D, wD (tT' o) P = wD o (fun d => wD (tT' (some d)) P) := fun o => by cases o with
    | none => rw [aq', aq']; rfl
    | some d => rw [al']
  rw [e3]
  refine h.trans ?_
  show wD (some (D.bl (!decide _))) P = _
  rw [al']
  congr 3
  rw [decide_eq_decide]
  constructor
  . intro hm
    obtain ⟨a, h1, h2⟩ := List.mem_map.mp hm
    have h2 : (a : Int) = (t : Int) := h2
    have : a = t := by omega
    exact this ▸ h1
  . exact fun hm => List.mem_map.mpr ⟨t, hm, rfl⟩
def no' (o : Option (Option O)) : Option O := match o with
  | some (some (.fz d)) => some (.fz d)
  | _ => none
theorem pz' (env env' : List (Option O)) : back env [] env' = env' := rfl
theorem nN' (env env' : List (Option O)) (i : Nat) (is : List Nat) : back env (i :: is) env' = (back env is env').set i (no' env[i]?) := by
  show (back env is env').set i _ = _
  congr 1
theorem kJ' : no' (some none) = none := rfl
theorem o3' (d : D) : no' (some (some (.fz d))) = some (.fz d) := rfl
theorem nn' (os : List O) : no' (some (some (.lst os))) = none := rfl
section
variable {Q : D -> Prop}
theorem rM' (a : Tx) (c : Nat) : wD (tY' a [.str [c]]) Q = wC (c < 128 /\ a.length + 2 <= 16777216) (Q (.lst ((vk' c a).map .str))) := d4'
theorem wB' (i : Int) : wD (x8' (.int i)) Q = wC (0 <= i /\ i < 1000000000000000000000000000000000000000000000000000000000000) (Q (.str (xK' i.toNat))) := d4'
end
end M
namespace M
theorem xg' (c : Nat) (s : Tx) {P : D -> Prop} : wD (si' c (.str s)) P = wC (s.length <= 1000000) (P (.str (s.filter fun d => decide (d ≠ c)))) := d4'
theorem n9' (a : ME) {ρ : PSt} {P : D -> PSt -> Prop} {X : Exc -> PSt -> Prop} : vE (kL' a ρ) P X = vE (a ρ) (fun x ρ1 => vD (qM' ρ1.w x) fun z => P z ρ1) X := by simp only [kL', ag', a5']
theorem sy' (a : ME) {ρ : PSt} {P : D -> PSt -> Prop} {X : Exc -> PSt -> Prop} : wE (kL' a ρ) P X = wE (a ρ) (fun x ρ1 => wD (qM' ρ1.w x) fun z => P z ρ1) X := by simp only [fc', aq']; exact n9' ..
end M
namespace M
theorem uu' (a b : List D) {Y : List D -> Prop} : wD (xP' (.tup a) (.tup b)) Y = Y (cD' a b) := by rw [aq']; rfl
theorem xa' (os : List O) (ds : List D) {N : O -> Prop} : wD (yd' (.lst os) (.lst ds)) N = wC (os.length + ds.length <= 16777216) (N (.lst (os ++ ds.map .fz))) := d4'
def wu' : O -> Prop
  | .dcx _ _ => True
  | _ => False
theorem o5' {γ : Type} (e : γ -> D) (l : List (γ × D)) : wu' (dX e l) := True.intro
theorem n7' (m : List Bool) (e : MT) (env : List (Option O)) (w : W) {P : Bool -> PSt -> Prop} {X : Exc -> PSt -> Prop} : vE (qN' m e ⟨env, w⟩) P X = (okM m env = true /\ vE (e ⟨dP' m env, []⟩) (fun d _ => P d ⟨env, w⟩) (fun _ _ => False)) := by
  unfold qN'
  by_cases h : okM m env = true
  . simp only [if_pos h]
    cases e ⟨dP' m env, []⟩ with
    | ok d ρ => simp [vE, h]
    | exc x ρ => simp [vE]
    | bad => simp [vE]
  . simp [vE, h]
theorem sp' (m : List Bool) (e : MT) (env : List (Option O)) (w : W) {P : Bool -> PSt -> Prop} {X : Exc -> PSt -> Prop} : wE (qN' m e ⟨env, w⟩) P X = (okM m env = true /\ wE (e ⟨dP' m env, []⟩) (fun d _ => P d ⟨env, w⟩) (fun _ _ => False)) := by simp only [fc']; exact n7' ..
theorem wx' (os : List O) {N : List O -> Prop} : wD (unO (.tup os)) N = N os := by rw [aq']; rfl
theorem wy' (ds : List D) {N : List O -> Prop} : wD (unO (.fz (.tup ds))) N = N (ds.map .fz) := by rw [aq']; rfl
theorem r7' {ρ : PSt} {N : PSt -> Prop} : wD (sl' [] [] ρ) N = N ρ := by rw [aq']; rfl
theorem r6' (i : Nat) (is : List Nat) (o : O) (os : List O) {env : List (Option O)} {w : W} {N : PSt -> Prop} : wD (sl' (i :: is) (o :: os) ⟨env, w⟩) N = pG' i env.length (wD (sl' is os ⟨env.set i (some o), w⟩) N) := by
  rw [aq', aq', hE']
  by_cases h : i < env.length
  . simp [sl', kv', h]
  . simp [sl', kv', vD, h]
theorem py' (m : List Bool) : dP' m [] = [] := by cases m <;> rfl
theorem va' (x : Option O) (r : List (Option O)) : dP' [] (x :: r) = none :: dP' [] r := rfl
theorem vc' (m : List Bool) (x : Option O) (r : List (Option O)) : dP' (false :: m) (x :: r) = none :: dP' m r := rfl
theorem vb' (m : List Bool) (o : O) (r : List (Option O)) : dP' (true :: m) (some o :: r) = some (.fz (frz o)) :: dP' m r := rfl
theorem ri' (r : List (Option O)) : okM [] r = true := by cases r <;> rfl
theorem wj' (m : List Bool) (x : Option O) (r : List (Option O)) : okM (false :: m) (x :: r) = okM m r := rfl
theorem wi' (m : List Bool) (o : O) (r : List (Option O)) : okM (true :: m) (some o :: r) = (okO o && okM m r) := rfl
theorem tO' (d : D) : okO (.fz d) = dat d := rfl
theorem rh' (os : List O) : okO (.lst os) = okOs os := rfl
theorem hW' : ∀ ds : List D, okOs (ds.map .fz) = dats ds
  | [] => rfl
  | d :: r => by show (dat d && okOs (r.map .fz)) = (dat d && dats r); rw [hW' r]
theorem uj' (d : D) : frz (.fz d) = d := rfl
theorem q3' (b : Bool) : vm' (.bl b) = true := rfl
theorem oB' (b : Int) : vm' (.int b) = true := rfl
theorem oz' (b : Tx) : vm' (.str b) = true := rfl
theorem oA' : vm' .non = true := rfl
end M
namespace M
theorem gs' : ∀ l : List Tx, cK' (l.map D.str) = some l
  | [] => rfl
  | a :: l => by show (cK' (l.map D.str)).map (a :: ·) = _; rw [gs' l]; rfl
theorem rN' (l : List Tx) {P : D -> Prop} : wD (oN' (.lst (l.map .str))) P = wC (l.length < 64) (P (.lst ((tb' l).map .str))) := by
  show wD ((cK' (l.map D.str)).bind _) P = _
  rw [gs', Option.bind_some]
  exact d4'
theorem uz' (s : Tx) {P : D -> Prop} : wD (dv' (.str s)) P = P (.tup (s.map chD)) := by
  show wD (some _) P = _
  rw [al']
theorem vW' {α : Type} (e : α -> D) (l : List (α × D)) (i : Nat) (env : List (Option O)) (w : W) {P : O -> PSt -> Prop} : wG (some (some (dX e l))) i ⟨env, w⟩ P = P (dX e l) ⟨env.set i none, w⟩ := by
  simp only [n4']; rfl
end M
namespace M
def dXz {γ : Type} (e : γ -> D) (l : List (γ × D)) : D := .dcx (l.map fun p => e p.1) (l.map fun p => p.2)
theorem uk' {γ : Type} (e : γ -> D) (l : List (γ × D)) : frz (dX e l) = dXz e l := by
  unfold dX dXz
  simp only [frz, nx', List.map_map]
  rfl
theorem vS' {γ : Type} (e : γ -> D) (l : List (γ × D)) (i : Nat) (env : List (Option O)) (w : W) {P : D -> PSt -> Prop} : wV (some (some (dX e l))) i ⟨env, w⟩ P = P (dXz e l) ⟨env.set i (some (.fz (dXz e l))), w⟩ := by
  rw [n3']
  show vV (some (some (O.dcx _ _))) _ _ _ = _
  rw [<- uk']; rfl
theorem rW' {γ : Type} (e : γ -> D) (l : List (γ × D)) {P : D -> Prop} : wD (nX' (.fz (dXz e l))) P = P (.int l.length) := by
  show wD (some (D.int _)) P = _
  rw [al', List.length_map]
end M
namespace M
end M
namespace M
theorem eY' : ∀ (es : List (Nat × Tx)), eg' (es.map fun p => .int (p.1 : Nat)) (es.map fun p => .fz (.str p.2)) = some es
  | [] => rfl
  | p :: es => by
    show (if (0 : Int) <= (p.1 : Nat) then (eg' (es.map fun p => .int (p.1 : Nat)) (es.map fun p => .fz (.str p.2))).map ((((p.1 : Nat) : Int).toNat, p.2) :: ·) else none) = _
    rw [if_pos (Int.natCast_nonneg _), eY' es]
    rfl
theorem pf' (es : List (Nat × Tx)) {P : D -> Prop} : wD (qb' (.dct (es.map fun p => .int (p.1 : Nat)) (es.map fun p => .fz (.str p.2)))) P = P (.lst ((es.mergeSort wd').map fun p => .tup [.int (p.1 : Nat), .str p.2])) := by
  have e : qb' (.dct (es.map fun p => .int (p.1 : Nat)) (es.map fun p => .fz (.str p.2))) = some (.lst ((es.mergeSort wd').map fun p => .tup [.int (p.1 : Nat), .str p.2])) := by
    show (eg' _ _).map _ = _
    rw [eY']
    rfl
  rw [e, aq']
  rfl
end M
namespace M
theorem oa' (kd : Bool) (m : List Bool) (a : MO) (env : List (Option O)) (w : W) {P : O -> PSt -> Prop} {X : Exc -> PSt -> Prop} : vE (hY' kd m a ⟨env, w⟩) P X = (okL (!kd) kd m env = true /\ (kd = true -> nE' m env = 1) /\ vE (a ⟨dP' m env, w⟩) (fun o ρ => m0' (!kd) kd o = true /\ gN' (!kd) kd ρ.w = true /\ P o ⟨env, ρ.w⟩) (fun _ _ => False)) := by
  unfold hY'
  by_cases h : okL (!kd) kd m env = true /\ (kd = true -> nE' m env = 1)
  . rw [if_pos h]
    cases a ⟨dP' m env, w⟩ with
    | bad => exact propext ⟨fun z => z.elim, fun z => z.2.2.elim⟩
    | exc x ρ => exact propext ⟨fun z => z.elim, fun z => z.2.2.elim⟩
    | ok o ρ =>
      by_cases h2 : m0' (!kd) kd o = true /\ gN' (!kd) kd ρ.w = true
      . simp only [h2, and_self, if_true]
        exact propext ⟨fun z => ⟨h.1, h.2, h2.1, h2.2, z⟩, fun z => z.2.2.2.2⟩
      . rw [show (vE (match (Res.ok o ρ : Res O) with | .ok o ρ' => if m0' (!kd) kd o = true /\ gN' (!kd) kd ρ'.w = true then .ok o ⟨env, ρ'.w⟩ else .bad | _ => .bad) P X) = vE (if m0' (!kd) kd o = true /\ gN' (!kd) kd ρ.w = true then (.ok o ⟨env, ρ.w⟩ : Res O) else .bad) P X from rfl, if_neg h2]
        exact propext ⟨fun z => z.elim, fun z => h2 ⟨z.2.2.1, z.2.2.2.1⟩⟩
  . rw [if_neg h]
    exact propext ⟨fun z => z.elim, fun z => h ⟨z.1, z.2.1⟩⟩
theorem qD' (m : List Bool) (a : MO) (env : List (Option O)) (w : W) {P : O -> PSt -> Prop} {X : Exc -> PSt -> Prop} : wE (hY' false m a ⟨env, w⟩) P X = (okL true false m env = true /\ wE (a ⟨dP' m env, w⟩) (fun o ρ => m0' true false o = true /\ gN' true false ρ.w = true /\ P o ⟨env, ρ.w⟩) (fun _ _ => False)) := by
  simp only [fc']
  rw [oa']
  exact propext ⟨fun z => ⟨z.1, z.2.2⟩, fun z => ⟨z.1, nofun, z.2⟩⟩
theorem rj' (kl kd : Bool) (r : List (Option O)) : okL kl kd [] r = true := by cases r <;> rfl
theorem wl' (kl kd : Bool) (m : List Bool) (x : Option O) (r : List (Option O)) : okL kl kd (false :: m) (x :: r) = okL kl kd m r := rfl
theorem wk' (kl kd : Bool) (m : List Bool) (o : O) (r : List (Option O)) : okL kl kd (true :: m) (some o :: r) = (lendO kl kd o && okL kl kd m r) := rfl
theorem pv' (r : List (Option O)) : nE' [] r = 0 := by cases r <;> rfl
theorem u8' (m : List Bool) (x : Option O) (r : List (Option O)) : nE' (false :: m) (x :: r) = nE' m r := rfl
theorem u7' (m : List Bool) (o : O) (r : List (Option O)) : nE' (true :: m) (some o :: r) = vu' o + nE' m r := rfl
theorem oZ' (kl kd : Bool) (d : D) : lendO kl kd (.fz d) = true := rfl
theorem rf' (d : D) : vu' (.fz d) = 0 := rfl
theorem nf' (kd : Bool) (ds : List D) : lendO true kd (.lst (ds.map .fz)) = true := by
  show (true && (ds.map O.fz).all nY') = true
  simp [nY']
theorem oV' (kl kd : Bool) (n : Nat) : m0' kl kd (.fz (.obj n)) = true := rfl
def we' : D -> Option (D × D)
  | .tup [x, y] => some (x, y)
  | _ => none
theorem uG' (x y : D) {P : D × D -> Prop} : wD (we' (.tup [x, y])) P = P (x, y) := by rw [aq']; rfl
theorem wI' (i j : Int) {Q : D -> Prop} : wD (ya' (.int i) (.int j)) Q = wC (0 <= j /\ j <= 1000 /\ -18446744073709551616 < i /\ i < 18446744073709551616) (Q (.int (i * 2 ^ j.toNat))) := by
  rw [aq', lc']
  show vD (if 0 <= j /\ j <= 1000 /\ small64 i = true then _ else _) Q = _
  rw [aB']
  congr 1
  simp [small64]
theorem wH' (i j : Int) {Q : D -> Prop} : wD (x9' (.int i) (.int j)) Q = wC (0 <= j) (Q (.int (i / 2 ^ j.toNat))) := by
  rw [aq', lc']
  exact aB'
theorem ym' (is : List Nat) (ds : List D) (ρ : PSt) {N : PSt -> Prop} : wD (gL is (.lst ds) ρ) N = wD (gNs is ds ρ) N := rfl
theorem w8' (gs : List MG) (ds : List D) (ρ : PSt) {N : PSt -> Prop} : wD (gTg gs (.tup ds) ρ) N = wD (gSq gs ds ρ) N := rfl
theorem uY' (ρ : PSt) {N : PSt -> Prop} : wD (gSq [] [] ρ) N = N ρ := by rw [aq']; rfl
theorem w9' (g : MG) (gs : List MG) (d : D) (ds : List D) (ρ : PSt) {N : PSt -> Prop} : wD (gSq (g :: gs) (d :: ds) ρ) N = wD (g d ρ) (fun ρ1 => wD (gSq gs ds ρ1) N) := by
  simp only [aq']
  show vD ((g d ρ).bind (gSq gs ds)) N = _
  cases g d ρ <;> rfl
end M
namespace M
section
variable {α : Type} {env : List (Option O)} {w : W} {ρ : PSt} {X : Exc -> PSt -> Prop}
end
end M
namespace M
section
variable {α β : Type} [DecidableEq α] [DecidableEq β]
def ins (F : List α) (x : α) : List α := if x ∈ F then F else F ++ [x]
def dB' (F xs : List α) : List α := xs.foldl ins F
def cg' (xs : List α) : List α := dB' [] xs
theorem kf' {F : List α} {x : α} (h : x ∈ F) : ins F x = F := if_pos h
theorem ib' {F : List α} {x : α} (h : x ∉ F) : ins F x = F ++ [x] := if_neg h
theorem m4' {F : List α} {x y : α} : y ∈ ins F x ↔ y ∈ F \/ y = x := by
  unfold ins
  split
  . rename_i h
    exact ⟨.inl, fun q => q.elim id fun e => e ▸ h⟩
  . simp
theorem b6' {F : List α} {x : α} {xs : List α} : dB' F (x :: xs) = dB' (ins F x) xs := rfl
theorem ic' {F xs ys : List α} : dB' F (xs ++ ys) = dB' (dB' F xs) ys := List.foldl_append ..
theorem nr' {F xs : List α} {x : α} : dB' F (xs ++ [x]) = ins (dB' F xs) x := by rw [ic']; rfl
theorem dZ' {y : α} : ∀ {xs F : List α}, y ∈ dB' F xs ↔ y ∈ F \/ y ∈ xs
  | [], F => by simp [dB']
  | x :: xs, F => by
    rw [b6', dZ', m4', List.mem_cons]
    constructor
    . rintro ((h | h) | h)
      . exact .inl h
      . exact .inr (.inl h)
      . exact .inr (.inr h)
    . rintro (h | h | h)
      . exact .inl (.inl h)
      . exact .inl (.inr h)
      . exact .inr h
theorem dc' {xs : List α} {y : α} : y ∈ cg' xs ↔ y ∈ xs := by rw [cg', dZ']; simp
theorem ra' {F : List α} {x : α} : F <+: ins F x := by
  unfold ins
  split
  . exact List.prefix_refl _
  . exact List.prefix_append ..
theorem j0' : ∀ {xs F : List α}, F <+: dB' F xs
  | [], F => List.prefix_refl _
  | x :: xs, F => ra'.trans j0'
theorem tW' {F : List α} {x : α} (h : F.Nodup) : (ins F x).Nodup := by
  unfold ins
  split
  . exact h
  . rename_i q
    rw [List.nodup_append]
    exact ⟨h, by simp, fun a ha b hb e => q (by rw [List.mem_singleton] at hb; rw [<- hb, <- e]; exact ha)⟩
theorem h0' : ∀ {xs F : List α}, F.Nodup -> (dB' F xs).Nodup
  | [], _, h => h
  | _ :: xs, _, h => h0' (xs := xs) (tW' h)
theorem rm' {xs : List α} : (cg' xs).Nodup := h0' List.nodup_nil
theorem mX' {xs : List α} {x : α} : cg' (xs ++ [x]) = ins (cg' xs) x := nr'
theorem gL' (c : α -> β) (F : List α) (x : α) : cg' ((ins F x).map c) = ins (cg' (F.map c)) (c x) := by
  by_cases h : x ∈ F
  . rw [kf' h, kf' (dc'.mpr (List.mem_map.mpr ⟨x, h, rfl⟩))]
  . rw [ib' h, List.map_append, List.map_cons, List.map_nil, mX']
theorem db' (c : α -> β) : ∀ (xs F : List α), cg' ((dB' F xs).map c) = dB' (cg' (F.map c)) (xs.map c)
  | [], _ => rfl
  | x :: xs, F => by rw [b6', db' c xs, gL', List.map_cons, b6']
theorem fx' (c : α -> β) (xs : List α) : cg' ((cg' xs).map c) = cg' (xs.map c) := by
  have := db' c xs []
  exact this
theorem h4' (f : α -> β) {F : List α} {x : α} (h : ∀ y ∈ F, f y = f x -> y = x) : (ins F x).map f = ins (F.map f) (f x) := by
  by_cases hx : x ∈ F
  . rw [kf' hx, kf' (List.mem_map.mpr ⟨x, hx, rfl⟩)]
  . rw [ib' hx, ib']
    . simp
    . rw [List.mem_map]
      rintro ⟨y, hy, e⟩
      exact hx (h y hy e ▸ hy)
theorem dy' (f : α -> β) (U : α -> Prop) (inj : ∀ a b, U a -> U b -> f a = f b -> a = b) : ∀ (xs F : List α), (∀ x ∈ F, U x) -> (∀ x ∈ xs, U x) -> (dB' F xs).map f = dB' (F.map f) (xs.map f)
  | [], _, _, _ => rfl
  | x :: xs, F, hF, hx => by
    have ux := hx x (by simp)
    rw [b6', dy' f U inj xs (ins F x) (fun y hy => (m4'.mp hy).elim (hF y) fun e => e ▸ ux) (fun y hy => hx y (by simp [hy])), h4' f fun y hy e => inj y x (hF y hy) ux e, List.map_cons, b6']
theorem gM' (f : α -> β) (xs : List α) (inj : ∀ a ∈ xs, ∀ b ∈ xs, f a = f b -> a = b) : cg' (xs.map f) = (cg' xs).map f :=
  (dy' f (· ∈ xs) (fun a b ha hb => inj a ha b hb) xs [] (fun _ h => nomatch h) (fun _ h => h)).symm
theorem ro' : ∀ {xs : List α}, xs.Nodup -> xs.map (fun x => xs.idxOf x) = List.range xs.length := by
  intro xs h
  refine List.ext_getElem (by simp) fun i h1 h2 => ?_
  rw [List.getElem_map, List.getElem_range]
  rw [List.length_map] at h1
  exact List.Nodup.idxOf_getElem h i h1
theorem oT' (xs : List α) : cg' (xs.map fun x => (cg' xs).idxOf x) = List.range (cg' xs).length := by
  rw [gM' (fun x => (cg' xs).idxOf x) xs, ro' rm']
  intro a ha b hb e
  have h1 : (cg' xs)[(cg' xs).idxOf a]? = some a := by
    rw [List.getElem?_eq_getElem (List.idxOf_lt_length_iff.mpr (dc'.mpr ha)), List.getElem_idxOf]
  have h2 : (cg' xs)[(cg' xs).idxOf b]? = some b := by
    rw [List.getElem?_eq_getElem (List.idxOf_lt_length_iff.mpr (dc'.mpr hb)), List.getElem_idxOf]
  rw [e, h2] at h1
  exact (Option.some.inj h1).symm
theorem hZ' (g : α -> β) (X : List α) : (cg' (X.map g)).length <= (cg' X).length := by
  have h := fx' g X
  rw [<- h]
  have go : ∀ (ys F : List β), (dB' F ys).length <= F.length + ys.length := by
    intro ys
    induction ys with
    | nil => intro F; simp [dB']
    | cons y ys ih =>
      intro F
      rw [b6']
      refine Nat.le_trans (ih _) ?_
      have : (ins F y).length <= F.length + 1 := by unfold ins; split <;> simp
      simp only [List.length_cons]
      omega
  have := go ((cg' X).map g) []
  simpa [cg'] using this
end
def cV' (T : List (List Nat)) (s : Nat) : List Nat := (T[s]?).getD []
def bfs (T : List (List Nat)) : Nat -> List Nat
  | 0 => [0]
  | j + 1 => match (bfs T j)[j]? with
    | some s => dB' (bfs T j) (cV' T s)
    | none => bfs T j
section
variable {T : List (List Nat)} {n m : Nat}
theorem mA' (h : bC' T n m) {s : Nat} (hs : s < n) : (cV' T s).length = m := by
  unfold cV'
  rw [List.getElem?_eq_getElem (by rw [h.1]; exact hs)]
  exact (h.2 _ (List.getElem_mem _)).1
def hP' (T : List (List Nat)) : List Nat := bfs T T.length
end
section
variable {γ : Type} [DecidableEq γ] {S : List Nat}
def oU' (S : List Nat) (f : Nat -> γ) (s : Nat) : Nat := (cg' (S.map f)).idxOf (f s)
theorem fy' (f : Nat -> γ) : cg' (S.map (oU' S f)) = List.range (cg' (S.map f)).length := by
  have := oT' (S.map f)
  rw [List.map_map] at this
  exact this
theorem j8' (f : Nat -> γ) {s : Nat} (hs : s ∈ S) : (cg' (S.map f))[oU' S f s]? = some (f s) := by
  have : oU' S f s < (cg' (S.map f)).length := List.idxOf_lt_length_iff.mpr (dc'.mpr (List.mem_map.mpr ⟨s, hs, rfl⟩))
  rw [List.getElem?_eq_getElem this]
  exact congrArg some (List.getElem_idxOf _)
theorem cI' (f : Nat -> γ) {s t : Nat} (hs : s ∈ S) (ht : t ∈ S) : oU' S f s = oU' S f t ↔ f s = f t := by
  constructor
  . intro e
    have h1 := j8' f hs
    rw [e, j8' f ht] at h1
    exact (Option.some.inj h1).symm
  . intro e; unfold oU'; rw [e]
end
def key (T : List (List Nat)) (c : Nat -> Nat) (s : Nat) : Nat × List Nat := (c s, (cV' T s).map c)
def Leq (L : Tx) (T : List (List Nat)) (A : List Nat) (s t : Nat) : Prop := ∀ x : Tx, (∀ a ∈ x, a ∈ L) -> (run L T s x ∈ A ↔ run L T t x ∈ A)
structure Clz (L : Tx) (T : List (List Nat)) (A : List Nat) (S : List Nat) (c : Nat -> Nat) (k : Nat) : Prop where
  num : cg' (S.map c) = List.range k
  ref : ∀ s ∈ S, ∀ t ∈ S, c s = c t -> (s ∈ A ↔ t ∈ A)
  co : ∀ s ∈ S, ∀ t ∈ S, Leq L T A s t -> c s = c t
section
variable {L : Tx} {T : List (List Nat)} {A S : List Nat} {c : Nat -> Nat} {k : Nat}
theorem qP' (s a : Nat) : stp L T s a = ((cV' T s)[L.idxOf a]?).getD 0 := rfl
theorem ml' (hL : L.Nodup) {s i : Nat} (hi : i < L.length) : stp L T s L[i] = ((cV' T s)[i]?).getD 0 := by rw [qP', hL.idxOf_getElem i hi]
theorem fi' (h : bC' T T.length L.length) {s a : Nat} (hs : s < T.length) (ha : a ∈ L) : stp L T s a ∈ cV' T s := by
  obtain ⟨r, h1, h2, _⟩ := mk' h hs ha
  have : cV' T s = r := by unfold cV'; rw [h1]; rfl
  rw [this]
  exact List.mem_of_getElem? h2
theorem Leq.step (h : Leq L T A s t) (ha : a ∈ L) : Leq L T A (stp L T s a) (stp L T t a) := fun x hx => by
  have := h (a :: x) fun b hb => (List.mem_cons.mp hb).elim (fun e => e ▸ ha) (hx b)
  exact this
theorem Leq.refl (s : Nat) : Leq L T A s s := fun _ _ => Iff.rfl
theorem Leq.symm (h : Leq L T A s t) : Leq L T A t s := fun x hx => (h x hx).symm
theorem Leq.trans (h : Leq L T A s t) (h' : Leq L T A t u) : Leq L T A s u := fun x hx => (h x hx).trans (h' x hx)
theorem mz' (h : bC' T T.length L.length) (hL : L.Nodup) {s t : Nat} (hs : s < T.length) (ht : t < T.length) (hc : ∀ a ∈ L, c (stp L T s a) = c (stp L T t a)) : (cV' T s).map c = (cV' T t).map c := by
  have l1 := mA' h hs
  have l2 := mA' h ht
  refine List.ext_getElem (by simp [l1, l2]) fun i h1 h2 => ?_
  rw [List.getElem_map, List.getElem_map]
  rw [List.length_map] at h1 h2
  have := hc L[i] (List.getElem_mem (by omega))
  rw [ml' hL (by omega), ml' hL (by omega), List.getElem?_eq_getElem h1, List.getElem?_eq_getElem h2] at this
  exact this
theorem Clz.lt (h : Clz L T A S c k) {s : Nat} (hs : s ∈ S) : c s < k := by
  have : c s ∈ cg' (S.map c) := dc'.mpr (List.mem_map.mpr ⟨s, hs, rfl⟩)
  rw [h.num] at this
  exact List.mem_range.mp this
theorem Clz.first : Clz L T A S (oU' S fun s => decide (s ∈ A)) (cg' (S.map fun s => decide (s ∈ A))).length := by
  refine ⟨fy' _, fun s hs t ht e => ?_, fun s hs t ht e => (cI' _ hs ht).mpr ?_⟩
  . have := (cI' _ hs ht).mp e
    simpa using this
  . have := e [] (fun _ h => nomatch h)
    simpa [q7'] using this
theorem Clz.next (hT : bC' T T.length L.length) (hL : L.Nodup) (hS : ∀ s ∈ S, s < T.length) (hcl : ∀ s ∈ S, ∀ t ∈ cV' T s, t ∈ S) (h : Clz L T A S c k) : Clz L T A S (oU' S (key T c)) (cg' (S.map (key T c))).length := by
  refine ⟨fy' _, fun s hs t ht e => ?_, fun s hs t ht e => (cI' _ hs ht).mpr ?_⟩
  . have := (cI' _ hs ht).mp e
    exact h.ref s hs t ht (congrArg Prod.fst this)
  . refine Prod.ext (h.co s hs t ht e) (mz' hT hL (hS s hs) (hS t ht) fun a ha => ?_)
    exact h.co _ (hcl s hs _ (fi' hT (hS s hs) ha)) _ (hcl t ht _ (fi' hT (hS t ht) ha)) (e.step ha)
theorem o7' : (S.map (key T c)).map Prod.fst = S.map c := by rw [List.map_map]; rfl
theorem Clz.le (h : Clz L T A S c k) : k <= (cg' (S.map (key T c))).length := by
  have := hZ' Prod.fst (S.map (key T c))
  rw [o7', h.num, List.length_range] at this
  exact this
end
structure IsLeast (L : Tx) (T : List (List Nat)) (A : List Nat) (c : Nat -> Nat) (T' : List (List Nat)) (A' : List Nat) : Prop where
  tab : bC' T' T'.length L.length
  ne : 1 <= T'.length
  le : T'.length <= T.length
  acc : AccOk A' T'.length
  c0 : c 0 = 0
  lt : ∀ s ∈ hP' T, c s < T'.length
  row : ∀ s ∈ hP' T, cV' T' (c s) = (cV' T s).map c
  fin : ∀ s ∈ hP' T, (c s ∈ A' ↔ s ∈ A)
  onto : ∀ q < T'.length, ∃ s ∈ hP' T, c s = q
  hP' : hP' T' = List.range T'.length
  apart : ∀ p < T'.length, ∀ q < T'.length, Leq L T' A' p q -> p = q
  num : cg' ((M.hP' T).map c) = List.range T'.length
section
variable {L : Tx} {T : List (List Nat)} {A : List Nat} {c : Nat -> Nat} {k : Nat}
end
structure Cw (L : Tx) (T : List (List Nat)) (A : List Nat) (S : List Nat) (c : Nat -> Nat) : Prop where
  ref : ∀ s ∈ S, ∀ t ∈ S, c s = c t -> (s ∈ A ↔ t ∈ A)
  co : ∀ s ∈ S, ∀ t ∈ S, Leq L T A s t -> c s = c t
section
variable {L : Tx} {T : List (List Nat)} {A S : List Nat} {c : Nat -> Nat} {k : Nat}
theorem Cw.next (hT : bC' T T.length L.length) (hL : L.Nodup) (hS : ∀ s ∈ S, s < T.length) (hcl : ∀ s ∈ S, ∀ t ∈ cV' T s, t ∈ S) (h : Cw L T A S c) : Clz L T A S (oU' S (key T c)) (cg' (S.map (key T c))).length := by
  refine ⟨fy' _, fun s hs t ht e => ?_, fun s hs t ht e => (cI' _ hs ht).mpr ?_⟩
  . have := (cI' _ hs ht).mp e
    exact h.ref s hs t ht (congrArg Prod.fst this)
  . refine Prod.ext (h.co s hs t ht e) (mz' hT hL (hS s hs) (hS t ht) fun a ha => ?_)
    exact h.co _ (hcl s hs _ (fi' hT (hS s hs) ha)) _ (hcl t ht _ (fi' hT (hS t ht) ha)) (e.step ha)
end
def nR' (X : D) (T : List (List Nat)) : Prop := ∀ (s : Nat) (r : List Nat), T[s]? = some r -> ∃ R, pIx X (.int (s : Nat)) = some R /\ cS' R = some (r.map fun t => .int (t : Nat))
def nS' (Y : D) (A : List Nat) : Prop := ∀ s : Nat, pIn (.int (s : Nat)) Y = some (.bl (decide (s ∈ A)))
theorem nR'.tab (T : List (List Nat)) : nR' (dJ' T) T := fun s r h => ⟨eE' r, by
  show ati (T.map eE') (s : Int) = _
  rw [hu' (by omega), List.getElem?_map, Int.toNat_natCast, h]; rfl, rfl⟩
theorem nS'.acc (A : List Nat) : nS' (d2' A) A := fun s => by
  have h := nC' A s (Q := fun d => d = .bl (decide (s ∈ A)))
  have : wD (pIn (.int (s : Nat)) (d2' A)) (fun d => d = .bl (decide (s ∈ A))) := by rw [h]
  rw [aq'] at this
  cases e : pIn (.int (s : Nat)) (d2' A) with
  | none => rw [e] at this; exact this.elim
  | some d => rw [e] at this; exact congrArg some this
def ixo {γ : Type} [DecidableEq γ] (G : List γ) (a : γ) : Nat := G.idxOf a
section
variable {L : Tx} {T : List (List Nat)} {A : List Nat} {c c' : Nat -> Nat} {T1 T2 : List (List Nat)} {A1 A2 : List Nat}
end
def Pl (y : Option O) : Prop := y = none \/ ∃ d, y = some (.fz d)
theorem Pl.keep {y : Option O} (h : Pl y) : no' (some y) = y := by rcases h with rfl | ⟨d, rfl⟩ <;> rfl
end M
namespace M
section
variable {L : Tx} {T T' U : List (List Nat)} {A A' B T1 A1 T2 A2 : List Nat} {m : Nat} {c : Nat -> Nat}
end
end M
namespace M
section
variable {γ : Type} [DecidableEq γ] (L : Tx) (sx : γ -> Nat -> γ) (g0 : γ)
def nxG (g : γ) : List γ := L.map (sx g)
def xbf : Nat -> List γ
  | 0 => [g0]
  | j + 1 => match (xbf j)[j]? with
    | some g => dB' (xbf j) (nxG L sx g)
    | none => xbf j
def rp' (g : γ) (z : Tx) : γ := z.foldl sx g
def Rch (g : γ) : Prop := ∃ z : Tx, (∀ c ∈ z, c ∈ L) /\ g = rp' sx g0 z
def Few (N : Nat) : Prop := ∀ l : List γ, l.Nodup -> (∀ g ∈ l, Rch L sx g0 g) -> l.length <= N
def eD' (N : Nat) : List γ := xbf L sx g0 N
def vg' (F : List γ) (g : γ) : List Nat := L.map fun c => ixo F (sx g c)
def pF' (F : List γ) : List (List Nat) := F.map (vg' L sx F)
def xx' (F : List γ) (p : γ -> Bool) : List Nat := (List.range F.length).filter fun q => ((F[q]?).map p).getD false
variable {L sx g0}
theorem qz' {j : Nat} : xbf L sx g0 j <+: xbf L sx g0 (j + 1) := by
  show xbf L sx g0 j <+: (match (xbf L sx g0 j)[j]? with | some s => dB' (xbf L sx g0 j) (nxG L sx s) | none => xbf L sx g0 j)
  split
  . exact j0'
  . exact List.prefix_refl _
theorem n1' {i j : Nat} (h : i <= j) : xbf L sx g0 i <+: xbf L sx g0 j := by
  induction h with
  | refl => exact List.prefix_refl _
  | step _ ih => exact ih.trans qz'
theorem iO' : ∀ j : Nat, (xbf L sx g0 j).Nodup
  | 0 => by simp [xbf]
  | j + 1 => by
    show (match (xbf L sx g0 j)[j]? with | some s => dB' (xbf L sx g0 j) (nxG L sx s) | none => xbf L sx g0 j).Nodup
    split
    . exact h0' (iO' j)
    . exact iO' j
theorem nh' {g : γ} {z : Tx} {c : Nat} : rp' sx g (z ++ [c]) = sx (rp' sx g z) c := by unfold rp'; rw [List.foldl_append]; rfl
theorem e9' : ∀ j : Nat, ∀ g ∈ xbf L sx g0 j, Rch L sx g0 g
  | 0, g, h => by
    have : g = g0 := by simpa [xbf] using h
    exact ⟨[], nofun, this⟩
  | j + 1, g, h => by
    have h : g ∈ (match (xbf L sx g0 j)[j]? with | some s => dB' (xbf L sx g0 j) (nxG L sx s) | none => xbf L sx g0 j) := h
    split at h
    . rename_i s e
      rcases dZ'.mp h with q | q
      . exact e9' j g q
      . obtain ⟨c, hc, rfl⟩ := List.mem_map.mp q
        obtain ⟨z, hz, rfl⟩ := e9' j s (List.mem_of_getElem? e)
        exact ⟨z ++ [c], fun d hd => (List.mem_append.mp hd).elim (hz d) (fun q => List.mem_singleton.mp q ▸ hc), nh'.symm⟩
    . exact e9' j g h
theorem e8' {j : Nat} (h : (xbf L sx g0 j).length <= j) : ∀ {i : Nat}, j <= i -> xbf L sx g0 i = xbf L sx g0 j := by
  intro i hi
  induction hi with
  | refl => rfl
  | @step i hi ih =>
    show (match (xbf L sx g0 i)[i]? with | some s => dB' (xbf L sx g0 i) (nxG L sx s) | none => xbf L sx g0 i) = _
    have : (xbf L sx g0 i)[i]? = none := by rw [ih]; exact List.getElem?_eq_none (Nat.le_trans h hi)
    rw [this, ih]
theorem sn' {j : Nat} {g : γ} (h : (xbf L sx g0 j)[j]? = some g) : xbf L sx g0 (j + 1) = dB' (xbf L sx g0 j) (nxG L sx g) := by
  show (match (xbf L sx g0 j)[j]? with | some s => dB' (xbf L sx g0 j) (nxG L sx s) | none => xbf L sx g0 j) = _
  rw [h]
variable {N : Nat}
theorem Few.len (h : Few L sx g0 N) (j : Nat) : (xbf L sx g0 j).length <= N := h _ (iO' j) (e9' j)
theorem Few.all (h : Few L sx g0 N) {j : Nat} (hj : (xbf L sx g0 j).length <= j) : xbf L sx g0 j = eD' L sx g0 N := by
  by_cases q : j <= N
  . exact (e8' hj q).symm
  . exact e8' (h.len _) (by omega)
theorem Few.pre (h : Few L sx g0 N) (j : Nat) : xbf L sx g0 j <+: eD' L sx g0 N := by
  by_cases q : j <= N
  . exact n1' q
  . have : xbf L sx g0 j = eD' L sx g0 N := e8' (h.len _) (by omega)
    rw [this]
    exact List.prefix_refl _
theorem Few.get (h : Few L sx g0 N) {j : Nat} {g : γ} (e : (eD' L sx g0 N)[j]? = some g) : (xbf L sx g0 j)[j]? = some g := by
  have h1 : j < (xbf L sx g0 j).length := by
    rcases Nat.lt_or_ge j (xbf L sx g0 j).length with q | q
    . exact q
    . have := h.all q
      rw [<- this] at e
      have := (List.getElem?_eq_some_iff.mp e).1
      omega
  obtain ⟨G, eG⟩ := h.pre j
  rw [<- eG, List.getElem?_append_left h1] at e
  exact e
theorem Few.nd : (eD' L sx g0 N).Nodup := iO' N
theorem Few.zero (h : Few L sx g0 N) : (eD' L sx g0 N)[0]? = some g0 := by
  obtain ⟨G, e⟩ := h.pre 0
  rw [<- e]
  rfl
theorem Few.closed (h : Few L sx g0 N) {g : γ} (hg : g ∈ eD' L sx g0 N) {c : Nat} (hc : c ∈ L) : sx g c ∈ eD' L sx g0 N := by
  obtain ⟨j, hj, e⟩ := List.getElem_of_mem hg
  have e1 : (eD' L sx g0 N)[j]? = some g := by rw [List.getElem?_eq_getElem hj, e]
  have := sn' (h.get e1)
  exact (h.pre (j + 1)).subset (by rw [this]; exact dZ'.mpr (.inr (List.mem_map.mpr ⟨c, hc, rfl⟩)))
theorem Few.mono {N' : Nat} (h : Few L sx g0 N) (hn : N <= N') : Few L sx g0 N' := fun l a b => Nat.le_trans (h l a b) hn
theorem t5' {F : List γ} {g : γ} (h : g ∈ F) : ixo F g < F.length := List.idxOf_lt_length_iff.mpr h
theorem rt' {F : List γ} {g : γ} (h : g ∈ F) : F[ixo F g]? = some g := by
  unfold ixo
  rw [List.getElem?_eq_getElem (List.idxOf_lt_length_iff.mpr h), List.getElem_idxOf]
theorem Few.tab (h : Few L sx g0 N) : bC' (pF' L sx (eD' L sx g0 N)) (pF' L sx (eD' L sx g0 N)).length L.length := by
  refine ⟨rfl, fun r hr => ?_⟩
  obtain ⟨g, hg, rfl⟩ := List.mem_map.mp hr
  refine ⟨by simp [vg'], fun t ht => ?_⟩
  obtain ⟨c, hc, rfl⟩ := List.mem_map.mp ht
  rw [show (pF' L sx (eD' L sx g0 N)).length = (eD' L sx g0 N).length by simp [pF']]
  exact t5' (h.closed hg hc)
theorem Few.ne (h : Few L sx g0 N) : 1 <= (eD' L sx g0 N).length := by
  have := (List.getElem?_eq_some_iff.mp h.zero).1
  omega
theorem Few.run (h : Few L sx g0 N) : ∀ (z : Tx) (s : Nat) (g : γ), (∀ c ∈ z, c ∈ L) -> (eD' L sx g0 N)[s]? = some g -> (eD' L sx g0 N)[M.run L (pF' L sx (eD' L sx g0 N)) s z]? = some (rp' sx g z)
  | [], s, g, _, e => e
  | c :: z, s, g, hz, e => by
    have hc := hz c (by simp)
    have hg := List.mem_of_getElem? e
    rw [oD']
    have e1 : stp L (pF' L sx (eD' L sx g0 N)) s c = ixo (eD' L sx g0 N) (sx g c) := by
      unfold stp pF'
      rw [List.getElem?_map, e]
      show ((vg' L sx (eD' L sx g0 N) g)[L.idxOf c]?).getD 0 = _
      unfold vg'
      rw [List.getElem?_map, List.getElem?_eq_getElem (List.idxOf_lt_length_iff.mpr hc), List.getElem_idxOf]
      rfl
    rw [e1]
    exact Few.run h z _ (sx g c) (fun d hd => hz d (by simp [hd])) (rt' (h.closed hg hc))
theorem Few.says (h : Few L sx g0 N) (p : γ -> Bool) {z : Tx} (hz : ∀ c ∈ z, c ∈ L) : M.run L (pF' L sx (eD' L sx g0 N)) 0 z ∈ xx' (eD' L sx g0 N) p ↔ p (rp' sx g0 z) = true := by
  have e := h.run z 0 g0 hz h.zero
  have hl := (List.getElem?_eq_some_iff.mp e).1
  unfold xx'
  rw [List.mem_filter, e]
  simp only [List.mem_range, Option.map_some, Option.getD_some]
  exact ⟨fun q => q.2, fun q => ⟨hl, q⟩⟩
end
end M
namespace M
theorem de' (c : Nat) : ∀ l : List Tx, (b4' [c] l).length <= (l.map List.length).sum + l.length
  | [] => by simp [b4']
  | [a] => by simp [b4']
  | a :: b :: r => by
    have ih := de' c (b :: r)
    show (a ++ ([c] ++ b4' [c] (b :: r))).length <= _
    rw [List.length_append, List.length_append, List.length_singleton, List.map_cons, List.sum_cons, List.length_cons]
    omega
end M
namespace M
def wlt (x y : Tx) : Prop := x.length < y.length \/ (x.length = y.length /\ x < y)
def wle (x y : Tx) : Prop := x = y \/ wlt x y
section
variable {γ : Type} [DecidableEq γ] (sx : γ -> Nat -> γ)
def yc' (p : γ × Tx) (F : List (γ × Tx)) (c : Nat) : List (γ × Tx) := if sx p.1 c ∈ F.map (·.1) then F else F ++ [(sx p.1 c, p.2 ++ [c])]
variable (L : Tx) (g0 : γ)
def xw : Nat -> List (γ × Tx)
  | 0 => [(g0, [])]
  | j + 1 => match (xw j)[j]? with
    | some p => L.foldl (yc' sx p) (xw j)
    | none => xw j
variable {sx L g0}
structure XwOk (sx : γ -> Nat -> γ) (L : Tx) (g0 : γ) (j : Nat) : Prop where
  asc : (xw sx L g0 j).Pairwise (fun a b => wlt a.2 b.2)
  led : ∀ q ∈ xw sx L g0 j, (∀ c ∈ q.2, c ∈ L) /\ q.1 = rp' sx g0 q.2
  old : ∀ (i : Nat) (q : γ × Tx), (xw sx L g0 j)[i]? = some q -> q.2 = [] \/ ∃ (k : Nat) (r : γ × Tx) (c : Nat), k < j /\ (xw sx L g0 j)[k]? = some r /\ q.2 = r.2 ++ [c]
  small : ∀ (k : Nat) (r : γ × Tx), k < j -> (xw sx L g0 j)[k]? = some r -> ∀ c ∈ L, ∃ q ∈ xw sx L g0 j, q.1 = sx r.1 c /\ wle q.2 (r.2 ++ [c])
end
end M
namespace M
section
variable {X : Exc -> PSt -> Prop} {ρ : PSt}
end
end M
namespace M
section
variable {α : Type} (mul : α -> α -> α) (one : α) (S : α -> Prop)
structure Mon (l : List α) : Prop where
  cl : ∀ {a b}, S a -> S b -> S (mul a b)
  as : ∀ {a b c}, S a -> S b -> S c -> mul (mul a b) c = mul a (mul b c)
  o : S one
  l1 : ∀ {a}, S a -> mul one a = a
  r1 : ∀ {a}, S a -> mul a one = a
  fin : ∀ a, S a -> a ∈ l
def pw (a : α) : Nat -> α
  | 0 => a
  | n + 1 => mul (pw a n) a
def Idm (e : α) : Prop := mul e e = e
def Om (a e : α) : Prop := ∃ n, e = pw mul a n /\ Idm mul e
def Ker (d : α) : Prop := S d /\ ∀ y, S y -> ∃ u v, S u /\ S v /\ d = mul u (mul y v)
end
section
variable {α : Type} {mul : α -> α -> α} {one : α} {S : α -> Prop} {l : List α}
theorem Mon.pw (h : Mon mul one S l) {a : α} (ha : S a) : ∀ n, S (M.pw mul a n)
  | 0 => ha
  | n + 1 => h.cl (h.pw ha n) ha
theorem Mon.pw_add (h : Mon mul one S l) {a : α} (ha : S a) (m : Nat) : ∀ n, mul (M.pw mul a m) (M.pw mul a n) = M.pw mul a (m + n + 1)
  | 0 => rfl
  | n + 1 => by
    show mul (M.pw mul a m) (mul (M.pw mul a n) a) = mul (M.pw mul a (m + n + 1)) a
    rw [<- h.as (h.pw ha m) (h.pw ha n) ha, h.pw_add ha m n]
theorem Mon.pw_comm (h : Mon mul one S l) {a : α} (ha : S a) (m n : Nat) : mul (M.pw mul a m) (M.pw mul a n) = mul (M.pw mul a n) (M.pw mul a m) := by
  rw [h.pw_add ha, h.pw_add ha, Nat.add_comm m n]
theorem Mon.om_ex (h : Mon mul one S l) {a : α} (ha : S a) : ∃ n, n <= l.length * (l.length + 1) /\ Idm mul (M.pw mul a n) := by
  have hnd : ¬ ((List.range (l.length + 1)).map (M.pw mul a)).Nodup := fun hn => by
    have := List.Nodup.length_le_of_subset hn (l₂ := l) fun x hx => by
      obtain ⟨n, _, rfl⟩ := List.mem_map.1 hx
      exact h.fin _ (h.pw ha n)
    simp at this
    omega
  obtain ⟨i, j, hij, hj, e⟩ : ∃ i j, i < j /\ j <= l.length /\ M.pw mul a i = M.pw mul a j := by
    refine Classical.byContradiction fun hc => hnd ?_
    rw [List.nodup_iff_pairwise_ne, List.pairwise_map]
    refine List.Pairwise.imp_of_mem ?_ List.pairwise_lt_range
    intro a b ha hb hab e
    exact hc ⟨a, b, hab, by have := List.mem_range.1 hb; omega, e⟩
  have per : ∀ k, M.pw mul a (i + k + (j - i)) = M.pw mul a (i + k) := by
    intro k
    cases k with
    | zero => rw [Nat.add_zero, show i + (j - i) = j by omega, e]
    | succ k =>
      have e1 := h.pw_add ha i k
      have e2 := h.pw_add ha j k
      rw [show i + (k + 1) + (j - i) = j + k + 1 by omega, <- e2, <- e, e1]
      rfl
  have pers : ∀ k m, M.pw mul a (i + k + m * (j - i)) = M.pw mul a (i + k) := by
    intro k m
    induction m with
    | zero => rw [Nat.zero_mul, Nat.add_zero]
    | succ m ih =>
      rw [Nat.add_mul, Nat.one_mul, <- Nat.add_assoc, show i + k + m * (j - i) + (j - i) = i + (k + m * (j - i)) + (j - i) by omega, per, <- Nat.add_assoc, ih]
  have hp : 1 <= j - i := by omega
  have hge : i + 1 <= (i + 1) * (j - i) := Nat.le_mul_of_pos_right _ hp
  have hle : (i + 1) * (j - i) <= (l.length + 1) * l.length := Nat.mul_le_mul (by omega) (by omega)
  refine ⟨(i + 1) * (j - i) - 1, by rw [Nat.mul_comm l.length]; omega, ?_⟩
  show mul _ _ = _
  rw [h.pw_add ha]
  have := pers ((i + 1) * (j - i) - 1 - i) (i + 1)
  rw [show i + ((i + 1) * (j - i) - 1 - i) = (i + 1) * (j - i) - 1 by omega] at this
  rw [<- this]
  congr 1
  omega
theorem Om.s (h : Mon mul one S l) {a e : α} (ha : S a) (o : Om mul a e) : S e := by
  obtain ⟨n, rfl, _⟩ := o
  exact h.pw ha n
theorem Mon.pw_split (h : Mon mul one S l) {a : α} (ha : S a) (n : Nat) : ∃ w, S w /\ M.pw mul a n = mul a w /\ M.pw mul a n = mul w a := by
  cases n with
  | zero => exact ⟨one, h.o, (h.r1 ha).symm, (h.l1 ha).symm⟩
  | succ n =>
    refine ⟨M.pw mul a n, h.pw ha n, ?_, rfl⟩
    have := h.pw_add ha 0 n
    rw [show 0 + n + 1 = n + 1 by omega] at this
    exact this.symm
theorem Ker.mul_l (h : Mon mul one S l) {d a : α} (hd : Ker mul S d) (ha : S a) : Ker mul S (mul a d) := by
  refine ⟨h.cl ha hd.1, fun y hy => ?_⟩
  obtain ⟨u, v, hu, hv, e⟩ := hd.2 y hy
  refine ⟨mul a u, v, h.cl ha hu, hv, ?_⟩
  rw [h.as ha hu (h.cl hy hv), <- e]
theorem Ker.pw (h : Mon mul one S l) {d : α} (hd : Ker mul S d) : ∀ n, Ker mul S (M.pw mul d n)
  | 0 => hd
  | n + 1 => Ker.mul_l h hd (h.pw hd.1 n)
theorem Ker.below (h : Mon mul one S l) {e f : α} (he : Ker mul S e) (ie : Idm mul e) (sf : S f) (jf : Idm mul f) (h1 : mul e f = f) (h2 : mul f e = f) : f = e := by
  have se := he.1
  obtain ⟨u, v, su, sv, eq⟩ := he.2 f sf
  have sfv := h.cl sf sv
  have sb := h.cl sfv se
  have sa := h.cl se (h.cl su sf)
  generalize ha : mul e (mul u f) = a at *
  generalize hb : mul (mul f v) e = b at *
  have ab : mul a b = e := by
    rw [<- ha, <- hb, h.as se (h.cl su sf) (h.cl sfv se), h.as su sf (h.cl sfv se), <- h.as sf sfv se, <- h.as sf sf sv, show mul f f = f from jf, <- h.as su sfv se, <- eq, show mul e e = e from ie]
    exact ie
  have eb : mul e b = b := by rw [<- hb, <- h.as se sfv se, <- h.as se sf sv, h1]
  have fb : mul f b = b := by rw [<- hb, <- h.as sf sfv se, <- h.as sf sf sv, show mul f f = f from jf]
  have ae : mul a e = a := by rw [<- ha, h.as se (h.cl su sf) se, h.as su sf se, h2]
  have key : ∀ n, mul (M.pw mul a n) (M.pw mul b n) = e := by
    intro n
    induction n with
    | zero => exact ab
    | succ n ih =>
      have sn := h.pw sa n
      have sm := h.pw sb n
      show mul (mul (M.pw mul a n) a) (mul (M.pw mul b n) b) = e
      rw [show mul (M.pw mul b n) b = mul b (M.pw mul b n) from h.pw_comm sb n 0, h.as sn sa (h.cl sb sm), <- h.as sa sb sm, ab]
      have : mul e (M.pw mul b n) = M.pw mul b n := by
        obtain ⟨r, sr, r1, -⟩ := h.pw_split sb n
        rw [r1, <- h.as se sb sr, eb]
      rw [this]
      exact ih
  obtain ⟨m, _, hm⟩ := h.om_ex sb
  have k := key m
  have sg := h.pw sb m
  have e1 : mul e (M.pw mul b m) = e := by
    rw [<- k, h.as (h.pw sa m) sg sg, show mul (M.pw mul b m) (M.pw mul b m) = _ from hm]
  obtain ⟨r, sr, r1, -⟩ := h.pw_split sb m
  have e2 : mul e (M.pw mul b m) = M.pw mul b m := by rw [r1, <- h.as se sb sr, eb]
  have e3 : mul f (M.pw mul b m) = M.pw mul b m := by rw [r1, <- h.as sf sb sr, fb]
  rw [<- e2, e1, h2] at e3
  exact e3
theorem oH' (h : Mon mul one S l) {e x : α} (se : S e) (sx : S x) (h1 : mul e x = x) (h2 : mul x e = x) (n : Nat) : mul e (M.pw mul x n) = M.pw mul x n /\ mul (M.pw mul x n) e = M.pw mul x n := by
  obtain ⟨r, sr, r1, r2⟩ := h.pw_split sx n
  exact ⟨by rw [r1, <- h.as se sx sr, h1], by rw [r2, h.as sr sx se, h2]⟩
theorem Ker.om_grp (h : Mon mul one S l) {e a f : α} (he : Ker mul S e) (ie : Idm mul e) (sa : S a) (h1 : mul e a = a) (h2 : mul a e = a) (o : Om mul a f) : f = e := by
  have sf := Om.s h sa o
  obtain ⟨n, rfl, jf⟩ := o
  obtain ⟨f1, f2⟩ := oH' h he.1 sa h1 h2 n
  exact he.below h ie sf jf f1 f2
theorem Ker.inv (h : Mon mul one S l) {e a : α} (he : Ker mul S e) (ie : Idm mul e) (sa : S a) (h1 : mul e a = a) (h2 : mul a e = a) : ∃ b, S b /\ mul e b = b /\ mul b e = b /\ mul a b = e /\ mul b a = e := by
  obtain ⟨n, _, hn⟩ := h.om_ex sa
  have en := he.om_grp h ie sa h1 h2 ⟨n, rfl, hn⟩
  obtain ⟨w, sw, w1, w2⟩ := h.pw_split sa n
  have sew := h.cl (h.cl he.1 sw) he.1
  refine ⟨mul (mul e w) e, sew, ?_, ?_, ?_, ?_⟩
  . rw [<- h.as he.1 (h.cl he.1 sw) he.1, <- h.as he.1 he.1 sw, show mul e e = e from ie]
  . rw [h.as (h.cl he.1 sw) he.1 he.1, show mul e e = e from ie]
  . rw [<- h.as sa (h.cl he.1 sw) he.1, <- h.as sa he.1 sw, h2, <- w1, en]
    exact ie
  . rw [h.as (h.cl he.1 sw) he.1 sa, h1, h.as he.1 sw sa, <- w2, en]
    exact ie
end
end M
namespace M
section
variable {β : Type} [Mul β]
structure FM (one : β) (l : List β) : Prop where
  as : ∀ a b c : β, a * b * c = a * (b * c)
  l1 : ∀ a : β, one * a = a
  r1 : ∀ a : β, a * one = a
  fin : ∀ a : β, a ∈ l
structure Sub (one : β) (S : β -> Prop) : Prop where
  cl : ∀ {a b}, S a -> S b -> S (a * b)
  o : S one
abbrev mu : β -> β -> β := fun a b => a * b
theorem Sub.all {one : β} : Sub one (fun _ => True) := ⟨fun _ _ => trivial, trivial⟩
def kt' (β : Type) [Mul β] : Prop := ∀ x y e f : β, Om mu (x * y) e -> Om mu (y * x) f -> e * (f * e) = e
structure Blk (e a b c d : β) : Prop where
  i : e * e = e
  one : e * (a * (c * e)) = e
  other : e * (b * (d * e)) = e
  both : e * (a * (b * (c * (d * e)))) ≠ e
theorem ql' {e : β} (h : e * e = e) : Om mu e e := ⟨0, rfl, h⟩
structure Un (e a : β) : Prop where
  l : e * a = a
  r : a * e = a
  ex : ∃ b, e * b = b /\ b * e = b /\ a * b = e /\ b * a = e
theorem Un.mul {one : β} {l : List β} (h : FM one l) {e a b : β} (ha : Un e a) (hb : Un e b) : Un e (a * b) := by
  obtain ⟨a', p1, p2, p3, p4⟩ := ha.ex
  obtain ⟨b', q1, q2, q3, q4⟩ := hb.ex
  refine ⟨by rw [<- h.as, ha.l], by rw [h.as, hb.r], b' * a', by rw [<- h.as, q1], by rw [h.as, p2], ?_, ?_⟩
  . rw [h.as, <- h.as b, q3, p1, p3]
  . rw [h.as, <- h.as a', p4, hb.l, q4]
theorem kt'.split {one : β} {l : List β} (h : FM one l) (st : kt' β) {e x y : β} (ie : e * e = e) (hx : Un e (e * (x * e))) (hy : Un e (e * (y * e))) : e * (x * (y * e)) = e * (x * e) * (e * (y * e)) := by
  obtain ⟨p', p1, p2, p3, p4⟩ := hx.ex
  obtain ⟨q', q1, q2, q3, q4⟩ := hy.ex
  have ie' : ∀ z, e * (e * z) = e * z := fun z => by rw [<- h.as, ie]
  have p1' : ∀ z, e * (p' * z) = p' * z := fun z => by rw [<- h.as, p1]
  have p2' : ∀ z, p' * (e * z) = p' * z := fun z => by rw [<- h.as, p2]
  have q1' : ∀ z, e * (q' * z) = q' * z := fun z => by rw [<- h.as, q1]
  have q2' : ∀ z, q' * (e * z) = q' * z := fun z => by rw [<- h.as, q2]
  -- g = p' x, h = y q'
  have a1 : p' * (x * e) = e := by rw [<- p2', p4]
  have a1' : ∀ z, p' * (x * (e * z)) = e * z := fun z => by
    have := congrArg (· * z) a1
    simpa only [h.as] using this
  have a2 : e * (x * p') = e := by
    have := p3
    rw [h.as, h.as, p1] at this
    exact this
  have a2' : ∀ z, e * (x * (p' * z)) = e * z := fun z => by
    have := congrArg (· * z) a2
    simpa only [h.as] using this
  have b1 : e * (y * q') = e := by
    have := q3
    rw [h.as, h.as, q1] at this
    exact this
  have b1' : ∀ z, e * (y * (q' * z)) = e * z := fun z => by
    have := congrArg (· * z) b1
    simpa only [h.as] using this
  have b2 : q' * (y * e) = e := by rw [<- q2', q4]
  have b2' : ∀ z, q' * (y * (e * z)) = e * z := fun z => by
    have := congrArg (· * z) b2
    simpa only [h.as] using this
  -- e, h g
  have gi : (p' * x) * (p' * x) = p' * x := by
    rw [h.as, <- p2', a2', p2']
  have hi : (y * q') * (y * q') = y * q' := by
    rw [h.as]
    have : q' * (y * q') = q' := by
      have := b2' q'
      rw [q1] at this
      exact this
    rw [this]
  have o1 : Om mu (e * ((y * q') * (p' * x))) (p' * x) := by
    have : e * ((y * q') * (p' * x)) = p' * x := by rw [h.as, b1', p1']
    rw [this]; exact ql' gi
  have o2 : Om mu (((y * q') * (p' * x)) * e) (y * q') := by
    have : ((y * q') * (p' * x)) * e = y * q' := by rw [h.as, h.as p', a1, h.as, q2]
    rw [this]; exact ql' hi
  have k := st _ _ _ _ o1 o2
  -- g h g = g
  have k2 : (p' * x) * (y * q') = e := by
    have := congrArg (· * e) k
    simp only [h.as, a1, q2] at this
    simpa only [h.as] using this
  have k2' : p' * (x * (y * q')) = e := by rw [<- h.as]; exact k2
  have f1 : e * (x * e) * (p' * (x * (y * (q' * (e * (y * e)))))) = e * (x * (y * e)) := by
    have : q' * (e * (y * e)) = e := q4
    rw [this, h.as, h.as, p1', a2']
  rw [<- f1]
  have f2 : p' * (x * (y * (q' * (e * (y * e))))) = e * (y * e) := by
    have := congrArg (· * (e * (y * e))) k2'
    simp only [h.as, ie'] at this
    exact this
  rw [f2]
section
variable {one : β} {l : List β} (gen : Nat -> β)
def dd (one : β) : List Nat -> β
  | [] => one
  | c :: z => gen c * dd one z
def DL (one : β) (lot : List Nat) (d : β) : Prop := ∃ z, (∀ c ∈ z, c ∈ lot) /\ d = dd gen one z
def FL (one : β) (lot : List Nat) (d : β) : Prop := ∃ z, (∀ c ∈ z, c ∈ lot) /\ (∀ c ∈ lot, c ∈ z) /\ d = dd gen one z
variable {gen}
theorem nA' (h : FM one l) (x y : List Nat) : dd gen one (x ++ y) = dd gen one x * dd gen one y := by
  induction x with
  | nil => exact (h.l1 _).symm
  | cons c x ih => show gen c * dd gen one (x ++ y) = gen c * dd gen one x * dd gen one y; rw [ih, h.as]
theorem DL.sub (h : FM one l) {lot : List Nat} : Sub one (DL gen one lot) where
  cl := by
    rintro _ _ ⟨x, hx, rfl⟩ ⟨y, hy, rfl⟩
    exact ⟨x ++ y, fun c hc => (List.mem_append.1 hc).elim (hx c) (hy c), (nA' h x y).symm⟩
  o := ⟨[], by simp, rfl⟩
theorem FL.mul (h : FM one l) {lot : List Nat} {a b c : β} (ha : DL gen one lot a) (hb : FL gen one lot b) (hc : DL gen one lot c) : FL gen one lot (a * (b * c)) := by
  obtain ⟨x, x1, rfl⟩ := ha
  obtain ⟨y, y1, y2, rfl⟩ := hb
  obtain ⟨z, z1, rfl⟩ := hc
  refine ⟨x ++ (y ++ z), fun c hc => ?_, fun c hc => ?_, by rw [nA' h, nA' h]⟩
  . simp only [List.mem_append] at hc
    rcases hc with q | q | q
    . exact x1 c q
    . exact y1 c q
    . exact z1 c q
  . simp only [List.mem_append]
    exact .inr (.inl (y2 c hc))
end
end
section
variable {β : Type} [Mul β] {one : β} {l : List β}
end
end M
namespace M
section
local macro_rules | `(tactic| walk_at "s") => `(tactic| simp (disch := first | assumption | omega | decide) only [*, ↓x_C, ↓x_V, ↓xY', ↓xV', ↓vP', ↓vI', ↓qE', ↓vJ', ↓sD', ↓vG', ↓vK', ↓x0', ↓xZ', ↓xW', ↓xX', ↓x_O, ↓xU', ↓xT', ↓sE', ↓su', ↓qA', ↓qC', ↓vN', ↓sC', ↓vM', ↓vH', ↓vO', ↓sA', ↓sz', sF', ↓qD', uG', ym', w8', uY', w9', wI', wH', rj', wl', wk', pv', u8', u7', oZ', rf', nf', oV', pf', ↓sp', wx', wy', r7', r6', py', va', vc', vb', ri', wj', wi', tO', rh', hW', rG', uj', q3', oB', oz', oA', uu', xa', o5', rK', ↓sr', ↓xS', ↓so', ↓sq', ↓vE', ↓xR', ↓sw', ↓k8', ↓sv', ↓qB', ↓x1', ↓vF', ↓sB', ↓sy',
  ↓to', ↓tp', ↓v4', ↓v3', ↓x3', ↓v2', ↓v8', ↓v7', ↓v9', ↓tn', ↓tm', ↓v6', ↓v5', ↓vY', ↓sX',
  vT', vX', vS', vW', rW', rS', pk', wZ', uV', uF', uQ', rZ', uN', o6', pt', ph', pi', pg', Option.map_some, Option.map_none, Option.isSome_some, Option.isSome_none, Bool.bne_true, Bool.bne_false, sc', rC', rB', rE', rA', uc', rz', rD', rU', uI', r4', ux', uS', qp', vR', sH', sG', sI', vV', sV', sU', sW', qF', sO', vZ', sJ', sM', sR', vi', sS', sQ', vU', al', qG', hD', n6', qI',
  u4', u2', u3', u1', r8', wA', wQ', uJ', uK', u0', wR', wL', wM', xc', xb', xd', wO', wN', wP', beq_self_eq_true, r1', r3', nC', pl', pm', pn', o9', w0', w2', po', pp', yg', yh', yi', yk', wU', wV', w5', w7', w4', uH', qu', qv', uP', uR', ko', wX', uW', r2', a4', pz', nN', kJ', o3', nn', sb', f0', List.getElem?_map, hu', b5', wE', wG', wD', wF', qw', pu', uD', uE', uT', r0', rM', wB', uZ', r5', kp', pq', rL', w3', uX', xl', wT', wS', nB', uy', uz', rN', rV', rT', rO', ir', kO', it', iq', ip', is', iu', hk', iw', hm', hj', hi', hl', hn', ik', kN', im', ij', ii', il', in', fK', g3', fM', fJ', fI', fL', fN', g6', io', g8', g5', g4', g7', g9', hd', iv', hf', hb', ha', he', hh', wz', xk', xj', uC', kn', uB', wK', wJ', ut', uw', us', uv', xe', xf', rR', rQ', uM', ve', xL', yl', w6', yj', wW', uL', uO', ow', wY', uU', uA', wC', qH', nW', String.reduceEq, reduceIte, bv', List.getElem?_set_self, List.getElem?_set_ne, List.set_set, rX', xg', rY', xi', xh', chD,
  decide_true, decide_false, frz, id', vd', tn1, Int.zero_add, Bool.not_false, Bool.not_true, Bool.and_true, Bool.true_and, Bool.and_false, Bool.false_and, Bool.or_true, Bool.true_or, Bool.or_false, Bool.false_or, List.getElem?_cons_zero, List.getElem?_cons_succ, List.set_cons_zero, List.set_cons_succ, List.length_cons, List.length_nil, List.map_cons, List.map_nil, List.cons_append, List.nil_append, List.replicate_succ, List.replicate_zero, List.length_map, List.length_range, List.length_set, Int.toNat_natCast, and_self, or_true, true_or, true_and, and_true, or_self, Int.reduceToNat, Int.toNat_zero, Int.toNat_one, Int.reduceNeg, Int.reducePow, Int.reduceAdd, Int.reduceSub, Int.reduceMul, Int.reduceLT, Int.reduceLE, Nat.reduceAdd, Nat.reduceSub, Nat.reduceLT, Nat.reduceLeDiff])
local macro_rules | `(tactic| walk_at "f0") => `(tactic| (refine tP' ?_ rfl; simp only [List.map_cons, List.map_nil, List.replicate_succ, List.replicate_zero, List.cons_append, List.nil_append, Nat.reduceSub]))
local macro_rules | `(tactic| walk_at "f") => `(tactic| (walk_at "f0"; walk_at "s"))
local macro_rules | `(tactic| walk_at "l") => `(tactic| (intro env2_ he_; simp only [a4', List.set_cons_zero, List.set_cons_succ] at he_; rw [he_]; clear he_))
theorem vL' (own : List Nat) (it : MI) (g : MG) (t : MT) (e : MO) {ρ : PSt} {R : O -> PSt -> Prop} {X : Exc -> PSt -> Prop} : wE (tS' own it g t e ρ) R X = wE (it ρ) (fun xs ρ1 => wE (hz' own g t e xs [] ρ1) (fun ys ρ2 => R (.lst ys) ⟨back ρ1.env own (a4' own ρ2.env), ρ2.w⟩) X) X := by
  simp only [fc']
  unfold tS'
  cases it ρ with
  | bad => rfl
  | exc x ρ1 => rfl
  | ok xs ρ1 =>
    show vE ((hz' own g t e xs [] ρ1).bind _) R X = vE (hz' own g t e xs [] ρ1) _ X
    cases hz' own g t e xs [] ρ1 <;> rfl
theorem rq' {own : List Nat} {g : MG} {t : MT} {e : MO} {γ : Type} {f : γ -> D} {cs : List γ} {ρ : PSt} {Q : List O -> PSt -> Prop} {X : Exc -> PSt -> Prop} (hl : cs.length <= 16777216) (Inv : List γ -> List O -> PSt -> Prop) (h0 : Inv [] [] ρ)
    (step : ∀ pre c post acc ρ, cs = pre ++ c :: post -> Inv pre acc ρ -> wD (g (f c) ⟨a4' own ρ.env, ρ.w⟩) fun ρ1 => wE (t ρ1) (fun k ρ2 => k = true /\ wE (e ρ2) (fun y ρ3 => Inv (pre ++ [c]) (acc ++ [y]) ρ3) PX) PX)
    (hend : ∀ acc ρ, Inv cs acc ρ -> Q acc ρ) : wE (hz' own g t e (cs.map f) [] ρ) Q X := by
  simp only [fc', aq'] at *
  suffices main : ∀ (post pre : List γ) (acc : List O) (ρ : PSt), cs = pre ++ post -> acc.length <= pre.length -> Inv pre acc ρ -> vE (hz' own g t e (post.map f) acc ρ) Q X from main cs [] [] ρ rfl (Nat.le_refl _) h0
  intro post
  induction post with
  | nil =>
    intro pre acc ρ ec _ h
    have ec : cs = pre := by rw [ec, List.append_nil]
    subst ec
    exact hend acc ρ h
  | cons c post ih =>
    intro pre acc ρ ec hacc h
    have s := step pre c post acc ρ ec h
    have hpl : acc.length < cM' := by
      have := congrArg List.length ec
      simp only [List.length_append, List.length_cons] at this
      show acc.length < 16777216
      omega
    have ec2 : cs = (pre ++ [c]) ++ post := by rw [ec, List.append_assoc]; rfl
    rw [List.map_cons]
    unfold hz'
    revert s
    cases g (f c) ⟨a4' own ρ.env, ρ.w⟩ with
    | none => exact fun s => s.elim
    | some ρ1 =>
      intro s
      have s : vE (t ρ1) _ _ := s
      dsimp only
      revert s
      cases t ρ1 with
      | bad => exact fun s => s.elim
      | exc x ρ2 => exact fun s => s.elim
      | ok k ρ2 =>
        rintro ⟨rfl, s⟩
        show vE ((noX (e ρ2)).bind fun y ρ3 => if acc.length < cM' then hz' own g t e (post.map f) (acc ++ [y]) ρ3 else .bad) Q X
        revert s
        cases e ρ2 with
        | bad => exact fun s => s.elim
        | exc x ρ3 => exact fun s => s.elim
        | ok y ρ3 =>
          intro s
          show vE (if acc.length < cM' then hz' own g t e (post.map f) (acc ++ [y]) ρ3 else .bad) Q X
          rw [if_pos hpl]
          exact ih (pre ++ [c]) (acc ++ [y]) ρ3 ec2 (by simp; omega) s
abbrev cl' (rows : List (List D)) : List O := rows.map fun r => O.lst (r.map .fz)
theorem e3' (d : D) : ∀ rows : List (List D), (∀ x ∈ rows, x.length < 16777216) -> fF' d (cl' rows) = some (cl' (rows.map fun r => r ++ [d]))
  | [], _ => rfl
  | r :: rows, h => by
    have h1 := h r (List.mem_cons_self ..)
    have ih := e3' d rows fun x hx => h x (List.mem_cons_of_mem _ hx)
    have e : (r.map O.fz).length < cM' := by rw [List.length_map]; exact h1
    show (if (r.map O.fz).length < cM' then (fF' d (cl' rows)).map _ else none) = _
    rw [if_pos e, ih]
    show some (O.lst (r.map .fz ++ [.fz d]) :: _) = some (O.lst ((r ++ [d]).map .fz) :: _)
    rw [List.map_append]
    rfl
theorem tq' {i r : Nat} {d : D} {env : List (Option O)} {w : W} {rows : List (List D)} {N : PSt -> Prop} {rt : O -> W -> Prop} {bk ct : PSt -> Prop} {ex : Exc -> PSt -> Prop} (h : env[i]? = some (some (.lst (cl' rows)))) (hr : r < env.length) (hl : ∀ x ∈ rows, x.length < 16777216) :
    wS (my' i r d ⟨env, w⟩) ⟨N, rt, bk, ct, ex⟩ = N ⟨(env.set i (some (.lst (cl' (rows.map fun r => r ++ [d]))))).set r none, w⟩ := by
  simp only [la']
  unfold my'
  have e := e3' d rows hl
  simp only [h, if_pos hr, e]
  rfl
theorem mY' {kl kd : Bool} {w : W} {o : Ob} (h : gN' kl kd w = true) (ho : eJ' kl kd o = true) : gN' kl kd (w ++ [o]) = true := by
  unfold gN' at *
  rw [List.all_append, h]
  show (true && (eJ' kl kd o && true)) = true
  rw [ho]; rfl
theorem j9' {kl kd : Bool} {w : W} {p : Nat} {o : Ob} (h : gN' kl kd w = true) (ho : eJ' kl kd o = true) : gN' kl kd (w.set p o) = true := by
  unfold gN' at *
  rw [List.all_eq_true] at *
  intro x hx
  rcases List.mem_or_eq_of_mem_set hx with hx | rfl
  . exact h x hx
  . exact ho
theorem e0' {kl kd : Bool} {r : List Nat} : eJ' kl kd (.lst (r.map fun t => .fz (.int (t : Nat)))) = true := by
  show nodOs kl kd (r.map fun t => O.fz (.int (t : Nat))) = true
  induction r with
  | nil => rfl
  | cons a r ih => exact ih
def a3' (w : W) (n : Nat) : Prop := ∃ (q : Nat) (cells : List Int) (i b s c : Int), q + 1 = n /\ w[n]? = some (.lst [.fz (.obj q), .fz (.int i), .fz (.int b), .fz (.int s), .fz (.int c)]) /\ w[q]? = some (.lst (cells.map fun z => .fz (.int z))) /\ 0 <= i /\ gN' true false w = true
theorem a3'.snoc {w : W} {n : Nat} {o : Ob} (h : a3' w n) (ho : eJ' true false o = true := by exact e0') : a3' (w ++ [o]) n := by
  obtain ⟨q, cells, i, b, s, c, e, hw, hq, hi, hd⟩ := h
  exact ⟨q, cells, i, b, s, c, e, by rw [List.getElem?_append_left (bk' hw)]; exact hw, by rw [List.getElem?_append_left (bk' hq)]; exact hq, hi, mY' hd ho⟩
theorem a3'.set {w : W} {n p : Nat} {o : Ob} (h : a3' w n) (hp : n < p) (ho : eJ' true false o = true := by exact e0') : a3' (w.set p o) n := by
  obtain ⟨q, cells, i, b, s, c, e, hw, hq, hi, hd⟩ := h
  exact ⟨q, cells, i, b, s, c, e, by rw [List.getElem?_set_ne (by omega)]; exact hw, by rw [List.getElem?_set_ne (by omega)]; exact hq, hi, j9' hd ho⟩
theorem a3'.lt {w : W} {n : Nat} (h : a3' w n) : n < w.length := by
  obtain ⟨q, cells, i, b, s, c, e, hw, hq, hi⟩ := h
  exact bk' hw
theorem a3'.nod {w : W} {n : Nat} (h : a3' w n) : gN' true false w = true := by
  obtain ⟨q, cells, i, b, s, c, e, hw, hq, hi, hd⟩ := h
  exact hd
theorem a3'.put {w : W} {n q : Nat} {cells : List Int} {i b s c : Int} (hn : n < w.length) (e : q + 1 = n) (hq : w[q]? = some (.lst (cells.map fun z => .fz (.int z)))) (hi : 0 <= i) (hd : gN' true false w = true) : a3' (w.set n (.lst [.fz (.obj q), .fz (.int i), .fz (.int b), .fz (.int s), .fz (.int c)])) n :=
  ⟨q, cells, i, b, s, c, e, List.getElem?_set_self hn, by rw [List.getElem?_set_ne (by omega)]; exact hq, hi, j9' hd rfl⟩
theorem kM' {w : W} {n : Nat} {m : Int} (h : a3' w n) (h1 : 0 < m) (h2 : m < 1606938044258990275541962092341162602522202993782792835301376) : wF (f__law_draw [.obj n, .int m] w) (fun o w' => ∃ d, o = .fz (.int d) /\ 0 <= d /\ d < m /\ a3' w' n /\ But n w w') FX := by
  obtain ⟨q, cells, i, b, s, c, rfl, hw, hq, hi, hd⟩ := h
  have hn := bk' hw
  unfold f__law_draw
  walk_at "f0"
  refine ea' (fun ρ => ∃ x w', ρ = ⟨[some (.fz (.obj (q + 1))), some (.fz (.int m)), x, none, none], w'⟩ /\ a3' w' (q + 1) /\ But (q + 1) w w') ?_ ?_
  . walk_at "s"
    refine aJ' (fun hb => ?_) (fun hb => ?_)
    . walk_at "s"
      refine aJ' (fun hc => ?_) (fun hc => ?_)
      . walk_at "s"
        refine bh' ?_ fun x _ hx => ?_
        . omega
        walk_at "s"
        refine aJ' (fun hc => ?_) (fun hc => ?_)
        . walk_at "s"
          exact ⟨_, _, rfl, a3'.put hn rfl hq (by omega) hd, But.refl.set⟩
        . walk_at "s"
          exact ⟨_, _, rfl, a3'.put hn rfl hq (by omega) hd, But.refl.set⟩
      . walk_at "s"
        exact ⟨_, _, rfl, ⟨q, cells, _, _, _, _, rfl, hw, hq, hi, hd⟩, But.refl⟩
    . walk_at "s"
      exact ⟨_, _, rfl, ⟨q, cells, _, _, _, _, rfl, hw, hq, hi, hd⟩, But.refl⟩
  . rintro ρ1 ⟨x, w1, rfl, ⟨q1, cells1, i1, b1, s1, c1, e1, hw1, hq1, hi1, hd1⟩, bt⟩
    have hn1 := bk' hw1
    obtain rfl : q1 = q := by omega
    walk_at "s"
    refine aJ' (fun hb => ?_) (fun hb => ?_)
    . walk_at "s"
      exact ⟨_, rfl, Int.emod_nonneg _ (by omega), Int.emod_lt_of_pos _ h1, a3'.put hn1 rfl hq1 hi1 hd1, bt.set⟩
    . walk_at "s"
      exact ⟨_, rfl, Int.emod_nonneg _ (by omega), Int.emod_lt_of_pos _ h1, a3'.put hn1 rfl hq1 hi1 hd1, bt.set⟩
theorem bs' {w : W} {n : Nat} {m : Int} (h : a3' w n) (h1 : 0 < m) (h2 : m < 1606938044258990275541962092341162602522202993782792835301376) : wF (f__law_draw [.obj n, .int m] w) (fun o w' => ∃ d : Nat, o = .fz (.int (d : Nat)) /\ (d : Int) < m /\ a3' w' n /\ But n w w') FX := by
  refine (kM' h h1 h2).mono ?_
  rintro _ w' ⟨d, rfl, h3, h4, h5, h6⟩
  exact ⟨d.toNat, by rw [Int.toNat_of_nonneg h3], by rw [Int.toNat_of_nonneg h3]; exact h4, h5, h6⟩
theorem nw' {ns : List Int} (hl : ns.length <= 63) : wF (f__law_hand [.scr (ns.map .int)] []) (fun o w' => o = .fz (.obj 1) /\ a3' w' 1) FX := by
  unfold f__law_hand
  walk_at "f"
  have e : cut (ns.map D.int) none (some 63) = (ns.take 63).map .int := by
    rw [qw' (by decide), <- List.map_take]
    rfl
  have e2 : ns.take 63 = ns := List.take_of_length_le hl
  rw [e2] at e
  try rw [e]
  try rw [show List.take 63 (List.map D.int ns) = ns.map D.int by rw [<- List.map_take, e2]]
  refine dz' (by omega) (fun pre acc ρ => acc = pre.map (fun i => .int (if i < 0 then -i else i)) /\ ∃ x, ρ = ⟨[some (.fz (.scr (ns.map .int))), none, x], []⟩) ⟨rfl, _, rfl⟩ ?_ ?_
  . rintro pre c post acc _ e ⟨rfl, x, rfl⟩
    walk_at "s"
    exact ⟨by simp, _, rfl⟩
  . rintro acc _ ⟨rfl, x, rfl⟩
    have em : (ns.map fun i => D.int (if i < 0 then -i else i)).map O.fz = (ns.map fun i => if i < 0 then -i else i).map fun z => O.fz (.int z) := by rw [List.map_map, List.map_map]; rfl
    have et : nU' (.lst ((ns.map fun i => D.int (if i < 0 then -i else i)).map .fz)) = some (.lst ((ns.map fun i => if i < 0 then -i else i).map fun z => .fz (.int z))) := by rw [em]; rfl
    have hlen : (ns.map fun i => if i < 0 then -i else i).length <= 63 := by rw [List.length_map]; exact hl
    have hnod : nodOs true false ((ns.map fun i => if i < 0 then -i else i).map fun z => O.fz (.int z)) = true := by
      generalize ns.map (fun i => if i < 0 then -i else i) = cs
      induction cs with
      | nil => rfl
      | cons c cs ih => exact ih
    rw [et, al']
    clear et em e e2
    generalize ns.map (fun i => if i < 0 then -i else i) = cs at hlen hnod
    walk_at "s"
    exact ⟨0, cs, 0, 0, _, 0, rfl, rfl, rfl, by decide, by
      show (nodOs true false (cs.map fun z => O.fz (.int z)) && true) = true
      rw [hnod]; rfl⟩
theorem mM' {α : Type} {l f : List α} {d : Nat} {x : α} (h : l[d]? = some x) : ((l.take d ++ l.drop (d + 1)) ++ (f ++ [x])).Perm (l ++ f) := by
  obtain ⟨hd, e⟩ := List.getElem?_eq_some_iff.mp h
  have h1 : l = l.take d ++ x :: l.drop (d + 1) := by rw [<- e, List.getElem_cons_drop, List.take_append_drop]
  generalize l.take d = a at *
  generalize l.drop (d + 1) = b at *
  subst h1
  simp only [List.append_assoc, List.cons_append]
  refine List.Perm.append_left a ?_
  rw [<- List.append_assoc]
  exact List.perm_append_comm
theorem dd' {α β : Type} (f : α -> β) : ∀ (l : List α) (i : Nat), (l.map f).eraseIdx i = (l.eraseIdx i).map f
  | [], _ => rfl
  | _ :: _, 0 => rfl
  | a :: l, i + 1 => by simp [List.eraseIdx, dd' f l i]
theorem c4' {w : W} {n : Nat} {l : List D} (h : a3' w n) (hs : l.length < 1073741) : wF (f__law_shuffled [.obj n, .lst l] w) (fun o w' => ∃ r : List D, o = .lst (r.map .fz) /\ r.Perm l /\ a3' w' n /\ But n w w') FX := by
  unfold f__law_shuffled
  walk_at "f"
  refine cY' (fun k ρ => ∃ x, ∃ t r : List D, ∃ w', ρ = ⟨[some (.fz (.obj n)), some (.fz (.lst l)), some (.lst (t.map .fz)), some (.lst (r.map .fz)), x], w'⟩ /\ r.length = k /\ (t ++ r).Perm l /\ a3' w' n /\ But n w w') ⟨_, _, [], _, rfl, rfl, by simp, h, But.refl⟩ ?_ ?_
  . rintro k ρ hk ⟨x, t, r, w1, rfl, rfl, hp, hh, hb⟩
    have hl := hp.length_eq
    rw [List.length_append] at hl
    walk_at "s"
    refine (bs' hh (by omega) (by omega)).mono ?_
    rintro _ w2 ⟨d, rfl, h3, h4, h5⟩
    have hd : d < t.length := by omega
    walk_at "s"
    refine bh' (by omega) fun c _ hc => ?_
    walk_at "s"
    refine ⟨_, t.eraseIdx d, r ++ [c], _, by rw [dd'], by simp, ?_, h4, hb.trans h5⟩
    rw [List.eraseIdx_eq_take_drop_succ]
    exact (mM' hc).trans hp
  . rintro ρ ⟨x, t, r, w1, rfl, e, hp, hh, hb⟩
    walk_at "s"
    have hl := hp.length_eq
    rw [List.length_append] at hl
    have ht : t = [] := List.eq_nil_of_length_eq_zero (by omega)
    subst ht
    exact ⟨r, rfl, hp⟩
theorem ef' {n : Nat} {pre post : List Nat} {c : Nat} (e : List.range n = pre ++ c :: post) : c = pre.length /\ pre.length < n := by
  have h1 : (List.range n)[pre.length]? = some c := by rw [e]; simp
  have h2 : pre.length < n := by
    have := congrArg List.length e
    simp at this
    omega
  rw [List.getElem?_range h2] at h1
  exact ⟨(Option.some.inj h1).symm, h2⟩
theorem mn' (s : Tx) : (bO' s).length = s.length := List.length_mergeSort s
theorem eU' (s : Tx) : (bO' s).Perm s := List.mergeSort_perm s _
theorem or' (s : Tx) : (bO' s).Pairwise (· <= ·) := by
  have := List.pairwise_mergeSort (le := fun a b : Nat => decide (a <= b)) (fun a b c h1 h2 => by simp at *; omega) (fun a b => by simp; omega) s
  exact this.imp (by simp)
theorem oq' {s : Tx} (h : s.Nodup) : (bO' s).Pairwise (· < ·) := by
  have h1 := or' s
  have h2 : (bO' s).Nodup := (eU' s).nodup_iff.mpr h
  exact (h1.and h2).imp (fun h => by have := h.1; have := h.2; omega)
theorem df' (a b : Int) : (dA' a b).length = (b - a).toNat := by simp [dA']
theorem kF' {m : Nat} {d : D} (h : d ∈ dA' 0 m) : ∃ v : Nat, v < m /\ d = .int (v : Nat) := by
  unfold dA' at h
  obtain ⟨v, hv, rfl⟩ := List.mem_map.mp h
  exact ⟨v, by have := List.mem_range.mp hv; omega, by simp⟩
structure RowsW (w : W) (p : Nat) (T : List (List Nat)) : Prop where
  len : w.length = p + T.length
  at_ : ∀ s r, T[s]? = some r -> w[p + s]? = some (.lst (r.map fun t => .fz (.int (t : Nat))))
theorem RowsW.but {w w' : W} {p n : Nat} {T : List (List Nat)} (h : RowsW w p T) (b : But n w w') (hn : n < p) : RowsW w' p T :=
  ⟨b.1.trans h.len, fun s r e => (b.2 (p + s) (by omega)).trans (h.at_ s r e)⟩
theorem RowsW.snoc {w : W} {p : Nat} {T : List (List Nat)} {r : List Nat} (h : RowsW w p T) : RowsW (w ++ [.lst (r.map fun t => .fz (.int (t : Nat)))]) p (T ++ [r]) := by
  have hl := h.len
  refine ⟨by simp; omega, fun s q e => ?_⟩
  by_cases hs : s < T.length
  . rw [List.getElem?_append_left hs] at e
    rw [List.getElem?_append_left (by omega)]
    exact h.at_ s q e
  . rw [List.getElem?_append_right (by omega)] at e
    have : s - T.length = 0 := by
      have := bk' e
      simp at this
      omega
    rw [this] at e
    cases e
    rw [List.getElem?_append_right (by omega), show p + s - w.length = 0 by omega]
    rfl
theorem RowsW.set {w : W} {p s l v : Nat} {T : List (List Nat)} {r : List Nat} (h : RowsW w p T) (hs : T[s]? = some r) : RowsW (w.set (p + s) (.lst ((r.set l v).map fun t => .fz (.int (t : Nat))))) p (T.set s (r.set l v)) := by
  have hl := h.len
  have hsl := bk' hs
  refine ⟨by simp; omega, fun j q e => ?_⟩
  by_cases hj : j = s
  . subst hj
    rw [List.getElem?_set_self hsl] at e
    cases e
    exact List.getElem?_set_self (by omega)
  . rw [List.getElem?_set_ne (Ne.symm hj)] at e
    rw [List.getElem?_set_ne (by omega)]
    exact h.at_ j q e
theorem bC'.set {T : List (List Nat)} {size many s l v : Nat} {r : List Nat} (h : bC' T size many) (hs : T[s]? = some r) (hv : v < size) : bC' (T.set s (r.set l v)) size many := by
  refine ⟨by simp [h.1], fun q hq => ?_⟩
  rcases List.mem_or_eq_of_mem_set hq with hq | rfl
  . exact h.2 q hq
  . have hr := h.2 r (List.mem_of_getElem? hs)
    refine ⟨by simp [hr.1], fun t ht => ?_⟩
    rcases List.mem_or_eq_of_mem_set ht with ht | rfl
    . exact hr.2 t ht
    . exact hv
def Two (l : List D) (o : O) : Prop := o = .lst (l.map .fz) \/ o = .fz (.lst l)
theorem bZ' {T : List (List Nat)} {size many s : Nat} (hO : bC' T size many) (hs : s < size) : ∃ r, T[s]? = some r /\ r.length = many := by
  have h : s < T.length := by rw [hO.1]; exact hs
  exact ⟨_, List.getElem?_eq_getElem h, (hO.2 _ (List.getElem_mem h)).1⟩
theorem bD' {r : List Nat} {l v : Nat} : ((r.map fun t => O.fz (.int (t : Nat))).set l (.fz (.int (v : Nat)))) = ((r.set l v).map fun t => .fz (.int (t : Nat))) := by rw [List.map_set]
theorem hM' {w : W} {n : Nat} {kind size many : Nat} (h : a3' w n) (h1 : 1 <= size) (h2 : size < 100) (h3 : 1 <= many) (h4 : many <= 26) : wF (f__law_rows [.obj n, .int kind, .int size, .int many] w) (fun o w' => ∃ T, o = .fz (dJ' T) /\ bC' T size many /\ a3' w' n) FX := by
  have hn : n < w.length := by
    exact h.lt
  unfold f__law_rows
  walk_at "f0"
  generalize hp : w.length = p at hn
  have R0 : RowsW w p [] := ⟨by simp [hp], fun s r e => by simp at e⟩
  clear hp
  walk_at "s"
  refine dz' (by simp; omega) (fun pre acc ρ => ∃ T : List (List Nat), acc = (List.range T.length).map (fun s => D.obj (p + s)) /\ T.length = pre.length /\ (∀ r ∈ T, r.length = many /\ ∀ t ∈ r, t < size) /\ ∃ x w', ρ = ⟨[some (.fz (.obj n)), some (.fz (.int kind)), some (.fz (.int size)), some (.fz (.int many)), none, none, none, none, none, x, none], w'⟩ /\ RowsW w' p T /\ a3' w' n) ⟨[], rfl, rfl, by simp, _, _, rfl, R0, h⟩ ?_ ?_
  . clear R0 h w
    rintro pre c post _ _ e ⟨T, rfl, hT, hr, x, w1, rfl, R1, h5⟩
    clear e
    walk_at "s"
    refine dz' (by simp; omega) (fun pre2 acc ρ => ∃ r : List Nat, acc = r.map (fun t => D.int (t : Nat)) /\ r.length = pre2.length /\ (∀ t ∈ r, t < size) /\ ∃ y w', ρ = ⟨[some (.fz (.obj n)), some (.fz (.int kind)), some (.fz (.int size)), some (.fz (.int many)), none, y, none, none, none, some (.fz (.int (c : Nat))), none], w'⟩ /\ RowsW w' p T /\ a3' w' n) ⟨[], rfl, rfl, by simp, _, _, rfl, R1, h5⟩ ?_ ?_
    . clear R1 h5 w1
      rintro pre2 c2 post2 _ _ e ⟨r, rfl, hrl, hrt, y, w1, rfl, R1, h5⟩
      clear e
      walk_at "s"
      refine (bs' h5 (by omega) (by omega)).mono ?_
      rintro _ w2 ⟨d, rfl, hd, h6, b6⟩
      walk_at "s"
      refine ⟨r ++ [d], by simp, by simp [hrl], fun t ht => ?_, _, _, rfl, R1.but b6 hn, h6⟩
      rcases List.mem_append.mp ht with ht | ht
      . exact hrt t ht
      . rw [List.mem_singleton.mp ht]; omega
    . clear R1 h5 w1
      rintro _ _ ⟨r, rfl, hrl, hrt, y, w1, rfl, R1, h5⟩
      rw [List.length_range] at hrl
      have e1 : nU' (.lst ((r.map fun t => D.int (t : Nat)).map .fz)) = some (.lst (r.map fun t => .fz (.int (t : Nat)))) := by rw [List.map_map]; rfl
      rw [e1, al']
      refine ⟨T ++ [r], ?_, by simp [hT], fun q hq => ?_, _, _, rfl, R1.snoc, h5.snoc⟩
      . rw [R1.len]; simp [List.range_succ]
      . rcases List.mem_append.mp hq with hq | hq
        . exact hr q hq
        . rw [List.mem_singleton.mp hq]; exact ⟨hrl, hrt⟩
  . clear R0 h w
    rintro _ _ ⟨T, rfl, hT, hr, x, w1, rfl, R1, h5⟩
    rw [List.length_range] at hT
    have hO : bC' T size many := ⟨hT, hr⟩
    clear hr
    have e_ix : ∀ s < size, ∀ Q : D -> Prop, wD (pIx (.lst ((List.range size).map fun s => D.obj (p + s))) (.int (s : Nat))) Q = Q (.obj (p + s)) := fun s hs Q => by
      rw [uW', hu' (by omega), List.getElem?_map, f0', Int.toNat_natCast, List.getElem?_range hs, al']
    walk_at "s"
    refine cY' (fun l ρ => ∃ x4 x5 x6 x7 x8 x9 T w', ρ = ⟨[some (.fz (.obj n)), some (.fz (.int kind)), some (.fz (.int size)), some (.fz (.int many)), some x4, x5, x6, x7, x8, x9, none], w'⟩ /\ Two ((List.range size).map fun s => D.obj (p + s)) x4 /\ RowsW w' p T /\ bC' T size many /\ a3' w' n) ⟨_, _, _, _, _, _, _, _, rfl, .inl rfl, R1, hO, h5⟩ ?_ ?_
    . clear R1 hO h5 w1 hT T x
      rintro l _ hl ⟨x4, x5, x6, x7, x8, x9, T, w1, rfl, f4, R1, hO, h5⟩
      walk_at "s"
      refine pH' (fun ρ => ∃ (rule : Nat) (w' : W), ρ = ⟨[some (.fz (.obj n)), some (.fz (.int kind)), some (.fz (.int size)), some (.fz (.int many)), some x4, some (.fz (.int (l : Nat))), some (.fz (.int (rule : Nat))), x7, x8, x9, none], w'⟩ /\ RowsW w' p T /\ a3' w' n) (aJ' (fun c => ?_) (fun c => ?_)) ?_
      . walk_at "s"
        refine (bs' h5 (by omega) (by omega)).mono ?_
        rintro _ w2 ⟨d, rfl, hd, h6, b6⟩
        walk_at "s"
        exact ⟨_, _, rfl, R1.but b6 hn, h6⟩
      . walk_at "s"
        exact ⟨_, _, rfl, R1, h5⟩
      clear R1 h5 w1
      rintro _ ⟨rule, w1, rfl, R1, h5⟩
      walk_at "s"
      refine (bs' h5 (by omega) (by omega)).mono ?_
      rintro _ w2 ⟨step, rfl, hstep, h6, b6⟩
      have R2 := R1.but b6 hn
      clear R1 h5 b6 w1
      walk_at "s"
      refine (c4' h6 (by rw [df']; omega)).mono ?_
      rintro _ w3 ⟨turned, rfl, hperm, h7, b7⟩
      have R3 := R2.but b7 hn
      have hpl : turned.length = size := by rw [hperm.length_eq, df']; omega
      have hmt : ∀ d ∈ turned, ∃ v : Nat, v < size /\ d = .int (v : Nat) := fun d hd => kF' (hperm.mem_iff.mp hd)
      clear hperm R2 h6 b7 w2 x7 x8
      walk_at "s"
      refine cY' (fun s ρ => ∃ x4 x8 x9 T w', ρ = ⟨[some (.fz (.obj n)), some (.fz (.int kind)), some (.fz (.int size)), some (.fz (.int many)), some x4, some (.fz (.int (l : Nat))), some (.fz (.int (rule : Nat))), some (.fz (.int (step : Nat))), some x8, x9, none], w'⟩ /\ Two ((List.range size).map fun s => D.obj (p + s)) x4 /\ Two turned x8 /\ RowsW w' p T /\ bC' T size many /\ a3' w' n) ⟨_, _, _, _, _, rfl, f4, .inl rfl, R3, hO, h7⟩ ?_ ?_
      . clear f4 R3 hO h7 w3 T x4 x9 x5
        rintro s _ hs ⟨x4, x8, x9, T, w1, rfl, f4, f8, R1, hO, h5⟩
        rw [xL', hD' (by show 9 < 11; decide)]
        have hs0 : s < size := hs
        refine ea' (fun ρ => ∃ x4 T w', ρ = ⟨[some (.fz (.obj n)), some (.fz (.int kind)), some (.fz (.int size)), some (.fz (.int many)), some x4, some (.fz (.int (l : Nat))), some (.fz (.int (rule : Nat))), some (.fz (.int (step : Nat))), some x8, some (.fz (.int (s : Nat))), none], w'⟩ /\ Two ((List.range size).map fun s => D.obj (p + s)) x4 /\ RowsW w' p T /\ bC' T size many /\ a3' w' n) ?_ ?_
        . rcases f4 with rfl | rfl
          . walk_at "s"
            refine aJ' (fun c => ?_) (fun c => ?_)
            . clear c
              walk_at "s"
              obtain ⟨r, hr, hrl⟩ := bZ' hO hs0
              rw [R1.at_ s r hr, bv', b5' (by omega) (by rw [List.length_map]; omega), al', Int.toNat_natCast]
              have ev : ((s : Int) + step) % size = (((s + step) % size : Nat) : Int) := by rw [Int.natCast_emod, Int.natCast_add]
              rw [ev, bD']
              exact ⟨_, _, _, rfl, .inr rfl, R1.set hr, hO.set hr (Nat.mod_lt _ h1), h5.set (by omega)⟩
            . walk_at "s"
              exact ⟨_, _, _, rfl, .inl rfl, R1, hO, h5⟩
          . walk_at "s"
            refine aJ' (fun c => ?_) (fun c => ?_)
            . clear c
              walk_at "s"
              obtain ⟨r, hr, hrl⟩ := bZ' hO hs0
              rw [R1.at_ s r hr, bv', b5' (by omega) (by rw [List.length_map]; omega), al', Int.toNat_natCast]
              have ev : ((s : Int) + step) % size = (((s + step) % size : Nat) : Int) := by rw [Int.natCast_emod, Int.natCast_add]
              rw [ev, bD']
              exact ⟨_, _, _, rfl, .inr rfl, R1.set hr, hO.set hr (Nat.mod_lt _ h1), h5.set (by omega)⟩
            . walk_at "s"
              exact ⟨_, _, _, rfl, .inr rfl, R1, hO, h5⟩
        clear f4 R1 hO h5 w1 T x4
        rintro _ ⟨x4, T, w1, rfl, f4, R1, hO, h5⟩
        refine ea' (fun ρ => ∃ x4 T w', ρ = ⟨[some (.fz (.obj n)), some (.fz (.int kind)), some (.fz (.int size)), some (.fz (.int many)), some x4, some (.fz (.int (l : Nat))), some (.fz (.int (rule : Nat))), some (.fz (.int (step : Nat))), some x8, some (.fz (.int (s : Nat))), none], w'⟩ /\ Two ((List.range size).map fun s => D.obj (p + s)) x4 /\ RowsW w' p T /\ bC' T size many /\ a3' w' n) ?_ ?_
        . rcases f4 with rfl | rfl
          . walk_at "s"
            refine aJ' (fun c => ?_) (fun c => ?_)
            . clear c
              walk_at "s"
              obtain ⟨r, hr, hrl⟩ := bZ' hO hs0
              rw [R1.at_ s r hr, bv', b5' (by omega) (by rw [List.length_map]; omega), al', Int.toNat_natCast]
              have ev : min ((size : Int) - 1) (s + step) = ((min (size - 1) (s + step) : Nat) : Int) := by omega
              rw [ev, bD']
              exact ⟨_, _, _, rfl, .inr rfl, R1.set hr, hO.set hr (by omega), h5.set (by omega)⟩
            . walk_at "s"
              exact ⟨_, _, _, rfl, .inl rfl, R1, hO, h5⟩
          . walk_at "s"
            refine aJ' (fun c => ?_) (fun c => ?_)
            . clear c
              walk_at "s"
              obtain ⟨r, hr, hrl⟩ := bZ' hO hs0
              rw [R1.at_ s r hr, bv', b5' (by omega) (by rw [List.length_map]; omega), al', Int.toNat_natCast]
              have ev : min ((size : Int) - 1) (s + step) = ((min (size - 1) (s + step) : Nat) : Int) := by omega
              rw [ev, bD']
              exact ⟨_, _, _, rfl, .inr rfl, R1.set hr, hO.set hr (by omega), h5.set (by omega)⟩
            . walk_at "s"
              exact ⟨_, _, _, rfl, .inr rfl, R1, hO, h5⟩
        clear f4 R1 hO h5 w1 T x4
        rintro _ ⟨x4, T, w1, rfl, f4, R1, hO, h5⟩
        refine ea' (fun ρ => ∃ x4 x8 T w', ρ = ⟨[some (.fz (.obj n)), some (.fz (.int kind)), some (.fz (.int size)), some (.fz (.int many)), some x4, some (.fz (.int (l : Nat))), some (.fz (.int (rule : Nat))), some (.fz (.int (step : Nat))), some x8, some (.fz (.int (s : Nat))), none], w'⟩ /\ Two ((List.range size).map fun s => D.obj (p + s)) x4 /\ Two turned x8 /\ RowsW w' p T /\ bC' T size many /\ a3' w' n) ?_ ?_
        . rcases f4 with rfl | rfl <;> rcases f8 with rfl | rfl
          . walk_at "s"
            refine aJ' (fun c => ?_) (fun c => ?_)
            . clear c
              walk_at "s"
              refine bh' (by omega) fun y hy _ => ?_
              obtain ⟨v, hv, rfl⟩ := hmt y hy
              walk_at "s"
              obtain ⟨r, hr, hrl⟩ := bZ' hO hs0
              rw [R1.at_ s r hr, bv', b5' (by omega) (by rw [List.length_map]; omega), al', Int.toNat_natCast]
              rw [bD']
              exact ⟨_, _, _, _, rfl, .inr rfl, .inr rfl, R1.set hr, hO.set hr hv, h5.set (by omega)⟩
            . walk_at "s"
              exact ⟨_, _, _, _, rfl, .inl rfl, .inl rfl, R1, hO, h5⟩
          . walk_at "s"
            refine aJ' (fun c => ?_) (fun c => ?_)
            . clear c
              walk_at "s"
              refine bh' (by omega) fun y hy _ => ?_
              obtain ⟨v, hv, rfl⟩ := hmt y hy
              walk_at "s"
              obtain ⟨r, hr, hrl⟩ := bZ' hO hs0
              rw [R1.at_ s r hr, bv', b5' (by omega) (by rw [List.length_map]; omega), al', Int.toNat_natCast]
              rw [bD']
              exact ⟨_, _, _, _, rfl, .inr rfl, .inr rfl, R1.set hr, hO.set hr hv, h5.set (by omega)⟩
            . walk_at "s"
              exact ⟨_, _, _, _, rfl, .inl rfl, .inr rfl, R1, hO, h5⟩
          . walk_at "s"
            refine aJ' (fun c => ?_) (fun c => ?_)
            . clear c
              walk_at "s"
              refine bh' (by omega) fun y hy _ => ?_
              obtain ⟨v, hv, rfl⟩ := hmt y hy
              walk_at "s"
              obtain ⟨r, hr, hrl⟩ := bZ' hO hs0
              rw [R1.at_ s r hr, bv', b5' (by omega) (by rw [List.length_map]; omega), al', Int.toNat_natCast]
              rw [bD']
              exact ⟨_, _, _, _, rfl, .inr rfl, .inr rfl, R1.set hr, hO.set hr hv, h5.set (by omega)⟩
            . walk_at "s"
              exact ⟨_, _, _, _, rfl, .inr rfl, .inl rfl, R1, hO, h5⟩
          . walk_at "s"
            refine aJ' (fun c => ?_) (fun c => ?_)
            . clear c
              walk_at "s"
              refine bh' (by omega) fun y hy _ => ?_
              obtain ⟨v, hv, rfl⟩ := hmt y hy
              walk_at "s"
              obtain ⟨r, hr, hrl⟩ := bZ' hO hs0
              rw [R1.at_ s r hr, bv', b5' (by omega) (by rw [List.length_map]; omega), al', Int.toNat_natCast]
              rw [bD']
              exact ⟨_, _, _, _, rfl, .inr rfl, .inr rfl, R1.set hr, hO.set hr hv, h5.set (by omega)⟩
            . walk_at "s"
              exact ⟨_, _, _, _, rfl, .inr rfl, .inr rfl, R1, hO, h5⟩
        clear f4 f8 R1 hO h5 w1 T x4 x8
        rintro _ ⟨x4, x8, T, w1, rfl, f4, f8, R1, hO, h5⟩
        clear hmt
        rcases f4 with rfl | rfl
        . walk_at "s"
          refine aJ' (fun c => ?_) (fun c => ?_)
          . clear c
            walk_at "s"
            obtain ⟨r, hr, hrl⟩ := bZ' hO hs0
            rw [R1.at_ s r hr, bv', b5' (by omega) (by rw [List.length_map]; omega), al', Int.toNat_natCast]
            have ev : (size : Int) - 1 = ((size - 1 : Nat) : Int) := by omega
            rw [ev, bD']
            have R2 := R1.set (l := l) (v := size - 1) hr
            have hO2 := hO.set (l := l) (v := size - 1) hr (by omega)
            have h6 : a3' (w1.set (p + s) (.lst ((r.set l (size - 1)).map fun t => .fz (.int (t : Nat))))) n := h5.set (by omega)
            clear R1 hO h5 hr hrl ev
            generalize w1.set (p + s) (.lst ((r.set l (size - 1)).map fun t => .fz (.int (t : Nat)))) = w2 at R2 h6 ⊢
            generalize T.set s (r.set l (size - 1)) = T2 at R2 hO2
            walk_at "s"
            refine aJ' (fun c => ?_) (fun c => ?_)
            . have c0 : ¬ ((size : Int) - 1 = 0) := by omega
              walk_at "s"
              refine aJ' (fun c2 => ?_) (fun c2 => ?_)
              . clear c2
                walk_at "s"
                obtain ⟨r, hr, hrl⟩ := bZ' hO2 hs0
                rw [R2.at_ s r hr, bv', b5' (by omega) (by rw [List.length_map]; omega), al', Int.toNat_natCast]
                have ev : ((s : Int) + 1) % ((size : Int) - 1) = (((s + 1) % (size - 1) : Nat) : Int) := by
                  rw [Int.natCast_emod, show ((size - 1 : Nat) : Int) = (size : Int) - 1 by omega]; rfl
                rw [ev, bD']
                have hv : (s + 1) % (size - 1) < size := Nat.lt_of_lt_of_le (Nat.mod_lt _ (by omega)) (by omega)
                exact ⟨_, _, _, _, _, rfl, .inr rfl, f8, R2.set hr, hO2.set hr hv, h6.set (by omega)⟩
              . walk_at "s"
                exact ⟨_, _, _, _, _, rfl, .inr rfl, f8, R2, hO2, h6⟩
            . walk_at "s"
              exact ⟨_, _, _, _, _, rfl, .inr rfl, f8, R2, hO2, h6⟩
          . walk_at "s"
            exact ⟨_, _, _, _, _, rfl, .inl rfl, f8, R1, hO, h5⟩
        . walk_at "s"
          refine aJ' (fun c => ?_) (fun c => ?_)
          . clear c
            walk_at "s"
            obtain ⟨r, hr, hrl⟩ := bZ' hO hs0
            rw [R1.at_ s r hr, bv', b5' (by omega) (by rw [List.length_map]; omega), al', Int.toNat_natCast]
            have ev : (size : Int) - 1 = ((size - 1 : Nat) : Int) := by omega
            rw [ev, bD']
            have R2 := R1.set (l := l) (v := size - 1) hr
            have hO2 := hO.set (l := l) (v := size - 1) hr (by omega)
            have h6 : a3' (w1.set (p + s) (.lst ((r.set l (size - 1)).map fun t => .fz (.int (t : Nat))))) n := h5.set (by omega)
            clear R1 hO h5 hr hrl ev
            generalize w1.set (p + s) (.lst ((r.set l (size - 1)).map fun t => .fz (.int (t : Nat)))) = w2 at R2 h6 ⊢
            generalize T.set s (r.set l (size - 1)) = T2 at R2 hO2
            walk_at "s"
            refine aJ' (fun c => ?_) (fun c => ?_)
            . have c0 : ¬ ((size : Int) - 1 = 0) := by omega
              walk_at "s"
              refine aJ' (fun c2 => ?_) (fun c2 => ?_)
              . clear c2
                walk_at "s"
                obtain ⟨r, hr, hrl⟩ := bZ' hO2 hs0
                rw [R2.at_ s r hr, bv', b5' (by omega) (by rw [List.length_map]; omega), al', Int.toNat_natCast]
                have ev : ((s : Int) + 1) % ((size : Int) - 1) = (((s + 1) % (size - 1) : Nat) : Int) := by
                  rw [Int.natCast_emod, show ((size - 1 : Nat) : Int) = (size : Int) - 1 by omega]; rfl
                rw [ev, bD']
                have hv : (s + 1) % (size - 1) < size := Nat.lt_of_lt_of_le (Nat.mod_lt _ (by omega)) (by omega)
                exact ⟨_, _, _, _, _, rfl, .inr rfl, f8, R2.set hr, hO2.set hr hv, h6.set (by omega)⟩
              . walk_at "s"
                exact ⟨_, _, _, _, _, rfl, .inr rfl, f8, R2, hO2, h6⟩
            . walk_at "s"
              exact ⟨_, _, _, _, _, rfl, .inr rfl, f8, R2, hO2, h6⟩
          . walk_at "s"
            exact ⟨_, _, _, _, _, rfl, .inr rfl, f8, R1, hO, h5⟩
      . rintro _ ⟨x4, x8, x9, T, w1, rfl, f4, f8, R1, hO, h5⟩
        exact ⟨_, _, _, _, _, _, _, _, rfl, f4, R1, hO, h5⟩
    . clear R1 hO h5 w1 hT T x
      rintro _ ⟨x4, x5, x6, x7, x8, x9, T, w1, rfl, f4, R1, hO, h5⟩
      have et : ∀ s < size, ∀ Q : D -> Prop, wD (qM' w1 (.obj (p + s))) Q = Q (eE' (T.getD s [])) := fun s hs Q => by
        obtain ⟨r, hr, -⟩ := bZ' hO hs
        have e : qM' w1 (.obj (p + s)) = some (eE' r) := by
          unfold qM'
          dsimp only
          rw [R1.at_ s r hr]
          show (if ((r.map fun t => O.fz (.int (t : Nat))).all nY') = true then some (D.tup ((r.map fun t => O.fz (.int (t : Nat))).map frz)) else none) = _
          rw [if_pos (List.all_eq_true.mpr fun o ho => by obtain ⟨t, _, rfl⟩ := List.mem_map.mp ho; rfl), List.map_map]
          rfl
        rw [e, al', List.getD_eq_getElem?_getD, hr]; rfl
      have e2 : (List.range size).map (fun s => eE' (T.getD s [])) = T.map eE' := by
        rw [<- hO.1]
        apply List.ext_getElem
        . simp
        . intro i h1 h2
          rw [List.length_map] at h2
          rw [List.getElem_map, List.getElem_map, List.getElem_range, List.getD_eq_getElem?_getD, List.getElem?_eq_getElem h2]
          rfl
      have e3 : D.tup (T.map eE') = dJ' T := rfl
      rcases f4 with rfl | rfl
      all_goals walk_at "s"
      all_goals refine qn' (f := fun s => D.obj (p + s)) (cs := List.range size) (fun s => eE' (T.getD s [])) (by simp; omega) ?_ ?_
      . intro s hs
        have hs : s < size := List.mem_range.mp hs
        walk_at "s"
      . intro env2 _
        rw [e2, nB']
        exact ⟨T, rfl, hO, h5⟩
      . intro s hs
        have hs : s < size := List.mem_range.mp hs
        walk_at "s"
      . intro env2 _
        rw [e2, nB']
        exact ⟨T, rfl, hO, h5⟩
theorem gB' {w : W} {n : Nat} {fewest most states : Nat} (h : a3' w n) (hf : 1 <= fewest) (hm : fewest <= most) (hm2 : most <= 26) (hs : 2 <= states) (hs2 : states < 100) : wF (f__law_parts [.obj n, .int fewest, .int most, .int states] w) (fun o w' => ∃ L T A, o = .fz (.tup [.str L, dJ' T, d2' A]) /\ MacOk L T A most states /\ fewest <= L.length /\ a3' w' n) FX := by
  unfold f__law_parts
  walk_at "f"
  refine (bs' h (by omega) (by omega)).mono ?_
  rintro _ w1 ⟨kind, rfl, hkind, h1, -⟩
  walk_at "s"
  refine (bs' h1 (by omega) (by omega)).mono ?_
  rintro _ w2 ⟨many0, rfl, hmany0, h2, -⟩
  walk_at "s"
  refine (bs' h2 (by omega) (by omega)).mono ?_
  rintro _ w3 ⟨size0, rfl, hsize0, h3, -⟩
  walk_at "s"
  have em : (fewest : Int) + (many0 : Int) = ((fewest + many0 : Nat) : Int) := by omega
  rw [em]
  clear em
  obtain ⟨many, hmd⟩ : ∃ many, many = fewest + many0 := ⟨_, rfl⟩
  have hm1 : fewest <= many := by omega
  have hmm : many <= most := by omega
  rw [<- hmd]
  clear hmd hmany0
  refine pH' (fun ρ => ∃ size : Nat, ρ = ⟨[some (.fz (.obj n)), some (.fz (.int fewest)), some (.fz (.int most)), some (.fz (.int states)), some (.fz (.int kind)), some (.fz (.int many)), some (.fz (.int size)), none, none, none, none, none], w3⟩ /\ 1 <= size /\ size <= states) (aJ' (fun hk => ?_) (fun hk => ?_)) ?_
  . walk_at "s"
    refine ⟨max 2 (1 + size0), ?_, by omega, by omega⟩
    have e2 : ((max 2 (1 + size0) : Nat) : Int) = max 2 (1 + (size0 : Int)) := by omega
    rw [e2]
  . walk_at "s"
    refine ⟨1 + size0, ?_, by omega, by omega⟩
    have e2 : ((1 + size0 : Nat) : Int) = (1 + (size0 : Int)) := by omega
    rw [e2]
  rintro _ ⟨size, rfl, hs1, hss⟩
  walk_at "s"
  refine (c4' (l := [97, 98, 99, 100, 101, 102, 103, 104, 105, 106, 107, 108, 109, 110, 111, 112, 113, 114, 115, 116, 117, 118, 119, 120, 121, 122].map chD) h3 (by decide)).mono ?_
  rintro _ w4 ⟨r, rfl, hperm, h4, -⟩
  obtain ⟨r', rfl, hp'⟩ : ∃ r' : List Nat, r = r'.map chD /\ r'.Perm abc := by
    refine ⟨r.map fun d => (match d with | .str [c] => c | _ => 0), ?_, ?_⟩
    . rw [List.map_map]
      have : ∀ d ∈ r, (chD ∘ fun d => (match d with | .str [c] => c | _ => 0)) d = d := fun d hd => by
        obtain ⟨c, _, rfl⟩ := List.mem_map.mp (hperm.subset hd)
        rfl
      exact ((List.map_congr_left this).trans (List.map_id r)).symm
    . have := hperm.map fun d => (match d with | .str [c] => c | _ => 0)
      rw [List.map_map] at this
      refine this.trans ?_
      rw [show ((fun d : D => (match d with | .str [c] => c | _ => 0)) ∘ chD) = id from rfl, List.map_id]
  have hlen' := hp'.length_eq
  have hmany : many <= 26 := by omega
  have hq : (r'.take many).length = many := by rw [List.length_take, hlen']; show min many 26 = many; omega
  have hnd : (r'.take many).Nodup := (hp'.nodup_iff.mpr (by decide)).sublist (List.take_sublist ..)
  have hne : r'.take many ≠ [] := fun e => by rw [e] at hq; simp at hq; omega
  have hso : ∀ Q : D -> Prop, wD (cb' (.lst ((r'.take many).map chD))) Q = Q (.lst ((bO' (r'.take many)).map chD)) := fun Q => by rw [rP' hne, n6' (by omega)]
  have hlen := mn' (r'.take many)
  have hlow : ∀ c ∈ bO' (r'.take many), 97 <= c /\ c <= 122 := fun c hc => m5'.mp (hp'.mem_iff.mp (List.mem_of_mem_take ((eU' _).mem_iff.mp hc)))
  walk_at "s"
  rw [<- List.map_take, hso]
  have hl26 : (bO' (r'.take many)).length <= 16777216 := by omega
  walk_at "s"
  refine (hM' h4 hs1 (by omega) (by omega) (by omega)).mono ?_
  rintro _ w5 ⟨T, rfl, hT, h5⟩
  walk_at "s"
  refine dz' (by simp; omega) (fun pre acc ρ => (∃ A : List Nat, acc = A.map (fun a => .int (a : Nat)) /\ A.Pairwise (· < ·) /\ ∀ a ∈ A, a < pre.length) /\ ∃ x w', ρ = ⟨[some (.fz (.obj n)), some (.fz (.int fewest)), some (.fz (.int most)), some (.fz (.int states)), some (.fz (.int kind)), some (.fz (.int many)), some (.fz (.int size)), some (.fz (.lst (r'.map chD))), some (.fz (.str (bO' (r'.take many)))), some (.fz (dJ' T)), none, x], w'⟩ /\ a3' w' n) ⟨⟨[], rfl, by simp, by simp⟩, _, _, rfl, h5⟩ ?_ ?_
  . rintro pre c post acc _ e ⟨⟨A, rfl, hp, hA⟩, x, w6, rfl, h6⟩
    obtain ⟨rfl, hlt⟩ := ef' e
    walk_at "s"
    refine (bs' h6 (by omega) (by omega)).mono ?_
    rintro _ w7 ⟨d, rfl, hd, h7, -⟩
    walk_at "s"
    refine aJ' (fun hd => ?_) (fun hd => ?_)
    . walk_at "s"
      refine ⟨⟨A ++ [pre.length], by simp, ?_, ?_⟩, _, _, rfl, h7⟩
      . rw [List.pairwise_append]
        exact ⟨hp, by simp, by simpa using hA⟩
      . simp only [List.mem_append, List.mem_singleton, List.length_append, List.length_singleton]
        rintro a (ha | rfl)
        . have := hA a ha; omega
        . omega
    . exact ⟨⟨A, rfl, hp, fun a ha => by have := hA a ha; simp; omega⟩, _, _, rfl, h7⟩
  . rintro _ _ ⟨⟨A, rfl, hp, hA⟩, x, w6, rfl, h6⟩
    rw [List.length_range] at hA
    walk_at "s"
    refine ⟨_, T, A, rfl, ⟨⟨by omega, by omega, oq' hnd, hlow⟩, ?_, by rw [hT.1]; exact hs1, by rw [hT.1]; exact hss, ⟨hp, by rw [hT.1]; exact hA⟩⟩, by omega⟩
    rw [hlen, hq, hT.1]
    exact hT
theorem e7' {α β : Type} (f : α -> D) (g : β -> D) : ∀ (a : List α) (b : List β), cD' (a.map f) (b.map g) = (a.zip b).map fun p => .tup [f p.1, g p.2]
  | [], _ => by simp [cD']
  | _ :: _, [] => by simp [cD']
  | x :: a, y :: b => by simp [cD', e7' f g a b]
theorem ex' : ∀ s : List Nat, s.Pairwise (· < ·) ↔ ∀ p ∈ s.zip (s.drop 1), p.1 < p.2
  | [] => by simp
  | [a] => by simp
  | a :: b :: r => by
    have ih := ex' (b :: r)
    simp only [List.drop_succ_cons, List.drop_zero, List.zip_cons_cons, List.mem_cons, forall_eq_or_imp] at ih ⊢
    rw [List.pairwise_cons, <- ih]
    constructor
    . rintro ⟨h1, h2⟩
      exact ⟨h1 b (by simp), h2⟩
    . rintro ⟨h1, h2⟩
      refine ⟨?_, h2⟩
      rw [List.pairwise_cons] at h2
      intro c hc
      rcases List.mem_cons.mp hc with rfl | hc
      . exact h1
      . exact Nat.lt_trans h1 (h2.1 c hc)
theorem by' (s S : Tx) (w : W) : wF (f_is_string_of [.str s, .str S] w) (fun o w' => o = .fz (.bl (s.all fun c => decide (c ∈ S))) /\ w' = w) FX := by
  unfold f_is_string_of
  walk_at "f"
  refine bz' (fun pre ρ => ∃ x, ρ = ⟨[some (.fz (.str s)), some (.fz (.str S)), x], w⟩ /\ ∀ c ∈ pre, c ∈ S) ⟨_, rfl, by simp⟩ ?_ ?_
  . rintro pre c post _ e ⟨x, rfl, hp⟩
    walk_at "s"
    refine aJ' (fun h => ?_) (fun h => ?_)
    . walk_at "s"
      exact ⟨_, rfl, by simpa [or_imp, forall_and] using ⟨hp, h⟩⟩
    . walk_at "s"
      refine vz' ?_
      rw [List.all_eq_false]
      exact ⟨c, by simp, by simpa using h⟩
  . rintro _ ⟨x, rfl, hp⟩
    walk_at "s"
    refine vy' ?_
    rw [List.all_eq_true]
    exact fun c hc => by simpa using hp c hc
theorem ds' (s : Tx) (w : W) : wF (f_is_ascending [.str s] w) (fun o w' => o = .fz (.bl (decide (s.Pairwise (· < ·)))) /\ w' = w) FX := by
  unfold f_is_ascending
  walk_at "f"
  rw [e7']
  refine bz' (fun pre ρ => ∃ x y, ρ = ⟨[some (.fz (.str s)), x, y], w⟩ /\ ∀ p ∈ pre, p.1 < p.2) ⟨_, _, rfl, by simp⟩ ?_ ?_
  . rintro pre c post _ e ⟨x, y, rfl, hp⟩
    walk_at "s"
    refine aJ' (fun h => ?_) (fun h => ?_)
    . walk_at "s"
      refine ⟨_, _, rfl, ?_⟩
      have : c.1 < c.2 := by simpa [List.cons_lt_cons_iff] using h
      simp only [List.mem_append, List.mem_singleton]
      rintro p (hq | rfl)
      . exact hp p hq
      . exact this
    . walk_at "s"
      refine vz' ?_
      rw [decide_eq_false_iff_not, ex']
      intro h2
      have := h2 c (by rw [e]; simp)
      exact h (by simpa [List.cons_lt_cons_iff] using this)
  . rintro _ ⟨x, y, rfl, hp⟩
    walk_at "s"
    refine vy' ?_
    rw [decide_eq_true_iff, ex']
    exact hp
theorem eK' (s S : Tx) (w : W) : wF (f_is_choice [.str s, .str S] w) (fun o w' => o = .fz (.bl ((s.all fun c => decide (c ∈ S)) && decide (s.Pairwise (· < ·)))) /\ w' = w) FX := by
  unfold f_is_choice
  walk_at "f"
  refine (by' s S w).mono ?_
  rintro _ _ ⟨rfl, rfl⟩
  walk_at "s"
  refine hF' (fun h => ?_) (fun h => ?_)
  . walk_at "s"
    refine (ds' s _).mono ?_
    rintro _ _ ⟨rfl, rfl⟩
    walk_at "s"
  . walk_at "s"
theorem eo' (i : Int) (w : W) : wF (f_is_integer [.int i] w) (fun o w' => o = .fz (.bl true) /\ w' = w) FX := by
  unfold f_is_integer
  walk_at "f"
theorem dN' (A : List Nat) (w : W) : wF (f_is_ascending [d2' A] w) (fun o w' => o = .fz (.bl (decide (A.Pairwise (· < ·)))) /\ w' = w) FX := by
  unfold f_is_ascending d2'
  walk_at "f"
  have e0 : (A.map fun a => D.int (a : Nat)).drop 1 = (A.drop 1).map fun a => D.int (a : Nat) := by rw [List.map_drop]
  rw [e0, e7']
  refine bz' (fun pre ρ => ∃ x y, ρ = ⟨[some (.fz (.tup (A.map fun a => .int (a : Nat)))), x, y], w⟩ /\ ∀ p ∈ pre, p.1 < p.2) ⟨_, _, rfl, by simp⟩ ?_ ?_
  . rintro pre c post _ e ⟨x, y, rfl, hp⟩
    walk_at "s"
    refine aJ' (fun h => ?_) (fun h => ?_)
    . walk_at "s"
      refine vz' ?_
      rw [decide_eq_false_iff_not, ex']
      intro h2
      have := h2 c (by rw [e]; simp)
      omega
    . walk_at "s"
      refine ⟨_, _, rfl, ?_⟩
      simp only [List.mem_append, List.mem_singleton]
      rintro p (hq | rfl)
      . exact hp p hq
      . omega
  . rintro _ ⟨x, y, rfl, hp⟩
    walk_at "s"
    refine vy' ?_
    rw [decide_eq_true_iff, ex']
    exact hp
theorem cA' (A : List Nat) (m : Nat) (w : W) : wF (f_are_states [d2' A, .int m] w) (fun o w' => o = .fz (.bl (A.all fun a => decide (a < m))) /\ w' = w) FX := by
  unfold f_are_states d2'
  walk_at "f"
  refine bz' (fun pre ρ => ∃ x, ρ = ⟨[some (.fz (.tup (A.map fun a => .int (a : Nat)))), some (.fz (.int m)), x], w⟩ /\ ∀ a ∈ pre, a < m) ⟨_, rfl, by simp⟩ ?_ ?_
  . rintro pre c post _ e ⟨x, rfl, hp⟩
    walk_at "s"
    refine (eo' _ _).mono ?_
    rintro _ _ ⟨rfl, rfl⟩
    walk_at "s"
    refine aJ' (fun h => ?_) (fun h => ?_)
    . walk_at "s"
      refine vz' ?_
      rw [List.all_eq_false]
      exact ⟨c, by simp, by simp; omega⟩
    . walk_at "s"
      exact ⟨_, rfl, by simpa [or_imp, forall_and] using ⟨hp, by omega⟩⟩
  . rintro _ ⟨x, rfl, hp⟩
    walk_at "s"
    refine vy' ?_
    rw [List.all_eq_true]
    exact fun c hc => by simpa using hp c hc
theorem fA' {T : List (List Nat)} {L : Tx} (h : bC' T T.length L.length) (h1 : 1 <= T.length) (h2 : T.length <= 6) (w : W) : wF (f_is_table [dJ' T, .str L] w) (fun o w' => o = .fz (.bl true) /\ w' = w) FX := by
  unfold f_is_table dJ'
  walk_at "f"
  refine bz' (fun pre ρ => ∃ x, ρ = ⟨[some (.fz (.tup (T.map eE'))), some (.fz (.str L)), x], w⟩) ⟨_, rfl⟩ ?_ ?_
  . rintro pre c post _ e ⟨x, rfl⟩
    have hc := h.2 c (by rw [e]; simp)
    clear e
    walk_at "s"
    refine (cA' c T.length w).mono ?_
    rintro _ _ ⟨rfl, rfl⟩
    have e2 : (c.all fun a => decide (a < T.length)) = true := by rw [List.all_eq_true]; exact fun a ha => by simpa using hc.2 a ha
    have e3 := hc.1
    clear hc
    rw [e2]
    unfold eE'
    walk_at "s"
    exact ⟨_, rfl⟩
  . rintro _ ⟨x, rfl⟩
    walk_at "s"
theorem nm' {w : W} {m : Nat} {L : Tx} {T : List (List Nat)} {A : List Nat} (h : w[m]? = some (.ins "Machine" [])) : wF (f_Machine_keep [.obj m, .str L, dJ' T, d2' A] w) (fun o w' => o = .fz .non /\ w' = w.set m (oX' L T A)) FX := by
  have hm := bk' h
  unfold f_Machine_keep
  walk_at "f"
  rfl
theorem nt' {w : W} {m : Nat} {L : Tx} {T : List (List Nat)} {A : List Nat} (h : w[m]? = some (.ins "Machine" [])) (hM : MacOk L T A 4 6) : wF (f_Machine___init__ [.obj m, .str L, dJ' T, d2' A] w) (fun o w' => o = .fz .non /\ w' = w.set m (oX' L T A)) FX := by
  have hL := hM.let'
  have h1 := hL.ne
  have h2 := hL.le
  have e1 : (L.all fun c => decide (c ∈ abc)) = true := by
    rw [List.all_eq_true]
    exact fun c hc => by rw [decide_eq_true_iff]; exact m5'.mpr (hL.abc c hc)
  have e2 : (A.all fun a => decide (a < T.length)) = true := by
    rw [List.all_eq_true]
    exact fun a ha => by simpa using hM.acc.lt a ha
  unfold f_Machine___init__
  walk_at "f0"
  walk_at "s"
  refine (eK' L abc w).mono ?_
  rintro _ _ ⟨rfl, rfl⟩
  rw [e1, decide_eq_true hL.asc]
  walk_at "s"
  refine (fA' hM.tab hM.ne hM.le _).mono ?_
  rintro _ _ ⟨rfl, rfl⟩
  walk_at "s"
  refine (cA' A T.length _).mono ?_
  rintro _ _ ⟨rfl, rfl⟩
  rw [e2]
  walk_at "s"
  refine (dN' A _).mono ?_
  rintro _ _ ⟨rfl, rfl⟩
  rw [decide_eq_true hM.acc.asc]
  walk_at "s"
  refine ⟨by simp [ia', h], ?_⟩
  refine (nm' h).mono ?_
  rintro _ _ ⟨rfl, rfl⟩
  walk_at "s"
theorem m6' {w : W} {m : Nat} {L : Tx} {T : List (List Nat)} {A : List Nat} (hm : w.length = m) (hM : MacOk L T A 4 6) : wF (f_Machine___init__ [.obj m, .str L, dJ' T, d2' A] (w ++ [.ins "Machine" []])) (fun o w' => o = .fz .non /\ w' = w ++ [oX' L T A]) FX := by
  subst hm
  refine (nt' (by rw [List.getElem?_append_right (by omega), Nat.sub_self]; rfl) hM).mono ?_
  rintro _ _ ⟨rfl, rfl⟩
  refine ⟨rfl, ?_⟩
  rw [List.set_append_right _ _ (by omega), Nat.sub_self]; rfl
theorem o1' {w : W} {m : Nat} {L : Tx} {T : List (List Nat)} {A : List Nat} {s : Nat} {x : Tx} (hm : Mac w m L T A) (hT : bC' T T.length L.length) (hs : s < T.length) (hx : ∀ c ∈ x, c ∈ L) : wF (f_led [.obj m, .int s, .str x] w) (fun o w' => o = .fz (.int (run L T s x : Nat)) /\ w' = w) FX := by
  unfold f_led
  walk_at "f"
  have h1 := hm.fl ["Machine"] (by simp)
  have h2 := hm.ft ["Machine"] (by simp)
  refine bz' (fun pre ρ => ∃ y, ρ = ⟨[some (.fz (.obj m)), some (.fz (.int (run L T s pre : Nat))), some (.fz (.str x)), y], w⟩ /\ run L T s pre < T.length) ⟨_, rfl, hs⟩ ?_ ?_
  . rintro pre c post _ e ⟨y, rfl, hr⟩
    have hc := hx c (by rw [e]; simp)
    obtain ⟨r, h3, h4, h5⟩ := mk' hT hr hc
    have h6 := kk' hc
    rw [jW']
    clear hc e
    walk_at "s"
    exact ⟨_, rfl⟩
  . rintro _ ⟨y, rfl, hr⟩
    walk_at "s"
theorem gQ' {L x : Tx} {T : List (List Nat)} {s : Nat} (hT : bC' T T.length L.length) (hs : s < T.length) (hx : ∀ c ∈ x, c ∈ L) (w : W) : wF (f__law_led [.str L, dJ' T, .int s, .str x] w) (fun o w' => o = .fz (.int (run L T s x : Nat)) /\ w' = w) FX := by
  unfold f__law_led
  walk_at "f"
  refine bz' (fun pre ρ => ∃ y, ρ = ⟨[some (.fz (.str L)), some (.fz (dJ' T)), some (.fz (.int (run L T s pre : Nat))), some (.fz (.str x)), y], w⟩ /\ run L T s pre < T.length) ⟨_, rfl, hs⟩ ?_ ?_
  . rintro pre c post _ e ⟨y, rfl, hr⟩
    have hc := hx c (by rw [e]; simp)
    obtain ⟨r, h3, h4, h5⟩ := mk' hT hr hc
    have h6 := kk' hc
    rw [jW']
    clear hc e
    walk_at "s"
    exact ⟨_, rfl⟩
  . rintro _ ⟨y, rfl, hr⟩
    walk_at "s"
abbrev HN : Tx := [65, 66, 67, 68]
abbrev SG : Tx := [97, 98, 99, 100, 101, 102, 103, 104, 105, 106, 107, 108, 109, 110, 111, 112, 113, 114, 115, 116, 117, 118, 119, 120, 121, 122, 46]
def OkD (s : Tx) : Prop := s ≠ [] /\ ∀ c ∈ s, c ∈ HN
theorem pw' {s : Tx} (h : OkD s) (w : W) : wF (f_check_dealing [.str s] w) (fun o w' => o = .fz .non /\ w' = w) FX := by
  have h0 := h.1
  have e1 : (s.all fun c => decide (c ∈ HN)) = true := List.all_eq_true.mpr fun c hc => decide_eq_true (h.2 c hc)
  have k := by' s HN w
  rw [e1] at k
  unfold f_check_dealing
  walk_at "f0"
  clear h e1
  walk_at "s"
  refine k.mono ?_
  rintro _ _ ⟨rfl, rfl⟩
  walk_at "s"
theorem ui' {c : Nat} (h : c ∈ HN) : hB' HN [c] = some (c - 65) := by
  simp only [List.mem_cons, List.not_mem_nil, or_false] at h
  rcases h with rfl | rfl | rfl | rfl <;> decide
def hmx (m : Nat) (s : Tx) : Nat := s.foldl (fun m c => max m (c - 65 + 1)) m
theorem fC' {s : Tx} (h : ∀ c ∈ s, c ∈ HN) (w : W) : wF (f_hands_of [.str s] w) (fun o w' => o = .fz (.str (HN.take (hmx 2 s))) /\ w' = w) FX := by
  unfold f_hands_of
  walk_at "f0"
  walk_at "s"
  refine bz' (fun pre ρ => ∃ x, ρ = ⟨[some (.fz (.str s)), some (.fz (.int (hmx 2 pre : Nat))), x], w⟩) ⟨_, rfl⟩ ?_ ?_
  . rintro pre c post _ e ⟨x, rfl⟩
    have hc : c ∈ HN := h c (by rw [e]; simp)
    have e3 : hmx 2 (pre ++ [c]) = max (hmx 2 pre) (c - 65 + 1) := by unfold hmx; rw [List.foldl_append]; rfl
    clear h e
    have e4 : hB' [65, 66, 67, 68] [c] = some (c - 65) := ui' hc
    walk_at "s"
    exact ⟨_, by rw [show ((max (hmx 2 pre) (c - 65 + 1) : Nat) : Int) = max (hmx 2 pre : Int) ((c - 65 : Nat) + 1) by omega]⟩
  . rintro _ ⟨x, rfl⟩
    walk_at "s"
theorem d0' {α : Type} {l : List α} {i : Nat} {x d : α} (h : l[i]? = some x) : l.getD i d = x := by
  rw [List.getD_eq_getElem?_getD, h]; rfl
theorem ny' (s : Tx) : cL' 0 (s.map chD) = (List.range s.length).map fun i => .tup [.int (i : Nat), .str [s.getD i 0]] := by
  have h : ∀ (a : List Nat) (k : Nat), cL' k (a.map chD) = (List.range a.length).map fun i => .tup [.int ((k + i : Nat) : Int), .str [a.getD i 0]] := by
    intro a
    induction a with
    | nil => intro k; rfl
    | cons x a ih =>
      intro k
      rw [List.map_cons]
      show D.tup [.int k, chD x] :: cL' (k + 1) (a.map chD) = _
      rw [ih, List.length_cons, List.range_succ_eq_map, List.map_cons, List.map_map]
      congr 1
      apply List.map_congr_left
      intro i _
      show D.tup [.int ((k + 1 + i : Nat) : Int), _] = D.tup [.int ((k + (i + 1) : Nat) : Int), _]
      rw [show k + 1 + i = k + (i + 1) by omega]
      rfl
  rw [h]
  simp only [Nat.zero_add]
def eW' (o p : Tx) : Nat -> Nat -> Tx -> Tx
  | _, _, [] => []
  | m, k, c :: s => if c = 65 then o.getD m 0 :: eW' o p (m + 1) k s else p.getD k 0 :: eW' o p m (k + 1) s
def pck (o p : Tx) (m k c : Nat) : Nat := if c = 65 then o.getD m 0 else p.getD k 0
theorem cu' (o p : Tx) : ∀ (s : Tx) (m k c : Nat), eW' o p m k (s ++ [c]) = eW' o p m k s ++ [pck o p (m + s.count 65) (k + (s.length - s.count 65)) c]
  | [], m, k, c => by
    show (if c = 65 then [_] else [_]) = [pck o p m k c]
    unfold pck
    split <;> rfl
  | a :: s, m, k, c => by
    have hc : s.count 65 <= s.length := List.count_le_length
    rw [List.cons_append]
    by_cases h : a = 65
    . subst h
      show (if 65 = 65 then _ else _) = (if 65 = 65 then _ else _) ++ _
      rw [if_pos rfl, if_pos rfl, cu' o p s, List.count_cons_self, List.length_cons, List.cons_append]
      rw [show m + 1 + s.count 65 = m + (s.count 65 + 1) by omega, show s.length + 1 - (s.count 65 + 1) = s.length - s.count 65 by omega]
    . show (if a = 65 then _ else _) = (if a = 65 then _ else _) ++ _
      rw [if_neg h, if_neg h, cu' o p s, List.count_cons_of_ne h, List.length_cons, List.cons_append]
      rw [show k + 1 + (s.length - s.count 65) = k + (s.length + 1 - s.count 65) by omega]
theorem cH' (o p : Tx) : ∀ (s : Tx) (m k : Nat), (eW' o p m k s).length = s.length
  | [], _, _ => rfl
  | a :: s, m, k => by
    show (if a = 65 then _ :: _ else _ :: _).length = _
    split
    . rw [List.length_cons, cH' o p s, List.length_cons]
    . rw [List.length_cons, cH' o p s, List.length_cons]
theorem c2' {s : Tx} {k : Nat} (h : k < s.length) : s.take (k + 1) = s.take k ++ [s.getD k 0] := by
  rw [List.take_succ, List.getElem?_eq_getElem h, List.getD_eq_getElem?_getD, List.getElem?_eq_getElem h]
  rfl
structure Two2 (s o p : Tx) : Prop where
  ab : ∀ c ∈ s, c = 65 \/ c = 66
  lo : o.length = s.count 65
  lp : p.length = s.length - s.count 65
  ls : s.length <= 1000
theorem Two2.pos {s o p : Tx} (h : Two2 s o p) {k : Nat} (hk : k < s.length) : (s.getD k 0 = 65 -> (s.take k).count 65 < o.length) /\ (s.getD k 0 ≠ 65 -> k - (s.take k).count 65 < p.length) /\ (s.take k).count 65 <= k /\ k - (s.take k).count 65 <= p.length := by
  have e : s = s.take k ++ [s.getD k 0] ++ s.drop (k + 1) := by rw [<- c2' hk, List.take_append_drop]
  have e1 : s.count 65 = (s.take k).count 65 + ([s.getD k 0] : Tx).count 65 + (s.drop (k + 1)).count 65 := by
    conv => lhs; rw [e]
    rw [List.count_append, List.count_append]
  have e2 : (s.take k).count 65 <= (s.take k).length := List.count_le_length
  have e3 : (s.drop (k + 1)).count 65 <= (s.drop (k + 1)).length := List.count_le_length
  have e4 : ([s.getD k 0] : Tx).count 65 <= 1 := List.count_le_length
  rw [List.length_take] at e2
  rw [List.length_drop] at e3
  have lo := h.lo
  have lp := h.lp
  refine ⟨fun hc => ?_, fun hc => ?_, by omega, by omega⟩
  . rw [hc] at e1
    have : ([65] : Tx).count 65 = 1 := by decide
    omega
  . have : ([s.getD k 0] : Tx).count 65 = 0 := by rw [List.count_cons_of_ne hc]; rfl
    omega
theorem hN' {s o p : Tx} (h : Two2 s o p) (w : W) : wF (f_row_of [.str s, .str o, .str p] w) (fun q w' => q = .fz (.str (eW' o p 0 0 s)) /\ w' = w) FX := by
  have hl := h.ls
  have hp := fun k hk => h.pos (k := k) hk
  unfold f_row_of
  walk_at "f0"
  clear h
  walk_at "s"
  rw [ny']
  refine bz' (fun pre ρ => ∃ x5 x6, ρ = ⟨[some (.fz (.str s)), some (.fz (.str o)), some (.fz (.str p)), some (.lst (((eW' o p 0 0 (s.take pre.length)).map chD).map .fz)), some (.fz (.int ((s.take pre.length).count 65 : Nat))), x5, x6], w⟩) ⟨_, _, rfl⟩ ?_ ?_
  . rintro pre c post _ e ⟨x5, x6, rfl⟩
    obtain ⟨rfl, hlt⟩ := ef' e
    obtain ⟨p1, p2, p3, p4⟩ := hp _ hlt
    have e1 : (pre ++ [pre.length]).length = pre.length + 1 := by simp
    rw [e1, c2' hlt, cu', List.count_append]
    have e2 : (s.take pre.length).length = pre.length := by rw [List.length_take]; omega
    have hR := cH' o p (s.take pre.length) 0 0
    rw [e2] at hR
    rw [e2, Nat.zero_add, Nat.zero_add]
    clear e e1 e2 hp
    generalize s.getD pre.length 0 = c at p1 p2 ⊢
    generalize (s.take pre.length).count 65 = m at p1 p2 p3 p4 ⊢
    generalize eW' o p 0 0 (s.take pre.length) = R at hR ⊢
    generalize pre.length = k at *
    walk_at "s"
    refine aJ' (fun hc => ?_) (fun hc => ?_)
    . obtain rfl : c = 65 := List.head_eq_of_cons_eq hc
      have p1 := p1 rfl
      clear p2 hc
      walk_at "s"
      refine bh' p1 fun y _ hy => ?_
      have e7 : pck o p m (k - m) 65 = y := (if_pos rfl).trans (d0' hy)
      rw [e7, show ([65] : Tx).count 65 = 1 from by decide]
      clear hy
      walk_at "s"
      exact ⟨some (.fz (.int (k : Nat))), some (.fz (.str [65])), by simp [chD]⟩
    . have hc : ¬ c = 65 := fun e => hc (by rw [e])
      have p2 := p2 hc
      clear p1
      walk_at "s"
      rw [show ((k : Int) - m).toNat = k - m by omega]
      refine bh' p2 fun y _ hy => ?_
      have e7 : pck o p m (k - m) c = y := (if_neg hc).trans (d0' hy)
      rw [e7, show ([c] : Tx).count 65 = 0 by rw [List.count_cons_of_ne hc]; rfl]
      clear hy
      walk_at "s"
      exact ⟨some (.fz (.int (k : Nat))), some (.fz (.str [c])), by simp [chD]⟩
  . rintro _ ⟨x5, x6, rfl⟩
    rw [List.length_range, List.take_length]
    have := cH' o p s 0 0
    walk_at "s"
theorem pe' {w : W} {m : Nat} {L : Tx} {T : List (List Nat)} {A : List Nat} {r : Tx} (hm : Mac w m L T A) (hT : bC' T T.length L.length) (h1 : 1 <= T.length) (hr : ∀ c ∈ r, c ∈ L \/ c = 46) (hl : r.length <= 1000) : wF (f_answer_of [.obj m, .str r] w) (fun o w' => o = .fz (.bl (decide (run L T 0 (r.filter fun d => decide (d ≠ 46)) ∈ A))) /\ w' = w) FX := by
  have k := o1' (s := 0) (x := r.filter fun d => decide (d ≠ 46)) hm hT h1 (fun c hc => by
    have := List.mem_filter.mp hc
    exact (hr c this.1).resolve_right (by simpa using this.2))
  have hfa := hm.fa ["Machine"] (by simp)
  unfold f_answer_of
  walk_at "f0"
  clear hr
  walk_at "s"
  refine k.mono ?_
  rintro _ _ ⟨rfl, rfl⟩
  clear k
  walk_at "s"
abbrev nd (r : Tx) : Tx := r.filter fun d => decide (d ≠ 46)
theorem r9' {p : Tx} {k y : Nat} (h : p[k]? = some y) : cut p (some (k : Int)) (some ((k : Int) + 1)) = [y] := by
  have hk := bk' h
  have e1 : six p.length 0 (some (k : Int)) = k := by
    show (if (k : Int) < 0 then ((k : Int) + (p.length : Int)).toNat else min (k : Int).toNat p.length) = k
    rw [if_neg (show ¬ (k : Int) < 0 by omega)]; omega
  have e2 : six p.length p.length (some ((k : Int) + 1)) = k + 1 := by
    show (if (k : Int) + 1 < 0 then ((k : Int) + 1 + (p.length : Int)).toNat else min ((k : Int) + 1).toNat p.length) = k + 1
    rw [if_neg (by omega)]; omega
  unfold cut
  rw [e1, e2, show k + 1 - k = 1 by omega, List.drop_eq_getElem_cons hk]
  rw [List.getElem?_eq_getElem hk] at h
  rw [Option.some.inj h]
  rfl
theorem h7' {s o p : Tx} (h : Two2 s o p) (w : W) : wF (f__law_joined [.str s, .str o, .str p] w) (fun q w' => q = .fz (.str (nd (eW' o p 0 0 s))) /\ w' = w) FX := by
  have hl := h.ls
  have hp := fun k hk => h.pos (k := k) hk
  unfold f__law_joined
  walk_at "f0"
  clear h
  walk_at "s"
  refine cY' (fun k ρ => ∃ x5 x6, ρ = ⟨[some (.fz (.str s)), some (.fz (.str o)), some (.fz (.str p)), some (.fz (.str (nd (eW' o p 0 0 (s.take k))))), some (.fz (.int ((s.take k).count 65 : Nat))), x5, x6], w⟩) ⟨_, _, rfl⟩ ?_ ?_
  . rintro k _ hlt ⟨x5, x6, rfl⟩
    obtain ⟨p1, p2, p3, p4⟩ := hp _ hlt
    have hg : s[k]? = some (s.getD k 0) := by rw [List.getD_eq_getElem?_getD, List.getElem?_eq_getElem hlt]; rfl
    rw [c2' hlt, cu', List.count_append]
    have e2 : (s.take k).length = k := by rw [List.length_take]; omega
    have hR := cH' o p (s.take k) 0 0
    rw [e2] at hR
    rw [e2, Nat.zero_add, Nat.zero_add]
    clear e2 hp
    generalize s.getD k 0 = c at p1 p2 hg ⊢
    generalize (s.take k).count 65 = m at p1 p2 p3 p4 ⊢
    generalize eW' o p 0 0 (s.take k) = R at hR ⊢
    have hF : (nd R).length <= k := by rw [<- hR]; exact List.length_filter_le _ _
    have eS : nd (R ++ [pck o p m (k - m) c]) = nd R ++ (if pck o p m (k - m) c = 46 then [] else [pck o p m (k - m) c]) := by
      unfold nd
      rw [List.filter_append]
      congr 1
      by_cases h : pck o p m (k - m) c = 46 <;> simp [h]
    rw [eS]
    generalize nd R = F at hF ⊢
    clear hR eS
    walk_at "s"
    refine aJ' (fun hc => ?_) (fun hc => ?_)
    . obtain rfl : c = 65 := List.head_eq_of_cons_eq hc
      have p1 := p1 rfl
      clear p2 hc
      walk_at "s"
      refine bh' p1 fun y _ hy => ?_
      have e7 : pck o p m (k - m) 65 = y := (if_pos rfl).trans (d0' hy)
      rw [e7, show ([65] : Tx).count 65 = 1 from by decide]
      clear hy hg
      walk_at "s"
      refine hF' (fun c2 => ?_) (fun c2 => ?_)
      . have c2 : y = 46 := by simpa using c2
        rw [if_pos c2]
        subst c2
        walk_at "s"
        exact ⟨some (.fz (.int (k : Nat))), some (.fz (.str [46])), by simp⟩
      . have c2 : ¬ y = 46 := by simpa using c2
        rw [if_neg c2]
        walk_at "s"
        exact ⟨some (.fz (.int (k : Nat))), some (.fz (.str [y])), by simp⟩
    . have hc : ¬ c = 65 := fun e => hc (by rw [e])
      have p2 := p2 hc
      clear p1
      obtain ⟨y, hy⟩ : ∃ y, p[k - m]? = some y := ⟨_, List.getElem?_eq_getElem p2⟩
      have e7 : pck o p m (k - m) c = y := (if_neg hc).trans (d0' hy)
      have e8 : (k : Int) - (m : Int) = ((k - m : Nat) : Int) := by omega
      rw [e7, show ([c] : Tx).count 65 = 0 by rw [List.count_cons_of_ne hc]; rfl, e8, r9' hy]
      clear hy hg e8
      walk_at "s"
      refine hF' (fun c2 => ?_) (fun c2 => ?_)
      . have c2 : y = 46 := by simpa using c2
        rw [if_pos c2]
        subst c2
        walk_at "s"
        exact ⟨some (.fz (.int (k : Nat))), some (.fz (.str [46])), by simp⟩
      . have c2 : ¬ y = 46 := by simpa using c2
        rw [if_neg c2]
        walk_at "s"
        exact ⟨some (.fz (.int (k : Nat))), some (.fz (.str [y])), by simp⟩
  . rintro _ ⟨x5, x6, rfl⟩
    rw [List.take_length]
    walk_at "s"
theorem jX' {s o p : Tx} (h : Two2 s o p) : ∀ k, k <= s.length -> ∀ c ∈ eW' o p 0 0 (s.take k), c ∈ o \/ c ∈ p
  | 0, _, c, hc => by rw [List.take_zero] at hc; exact absurd hc (by simp [eW'])
  | k + 1, hk, c, hc => by
    obtain ⟨p1, p2, -, -⟩ := h.pos (k := k) (by omega)
    rw [c2' (by omega), cu'] at hc
    rcases List.mem_append.mp hc with hc | hc
    . exact jX' h k (by omega) c hc
    . rw [List.mem_singleton.mp hc, show (s.take k).length = k by rw [List.length_take]; omega, Nat.zero_add, Nat.zero_add]
      unfold pck
      by_cases e : s.getD k 0 = 65
      . rw [if_pos e]
        have := p1 e
        rw [List.getD_eq_getElem?_getD, List.getElem?_eq_getElem this]
        exact .inl (List.getElem_mem _)
      . rw [if_neg e]
        have := p2 e
        rw [List.getD_eq_getElem?_getD, List.getElem?_eq_getElem this]
        exact .inr (List.getElem_mem _)
def OkW (L : Tx) (n : Nat) (ws : List Tx) : Prop := ∀ x ∈ ws, x.length = n /\ ∀ c ∈ x, c ∈ L \/ c = 46
structure AB (s : Tx) : Prop where
  ab : ∀ c ∈ s, c = 65 \/ c = 66
  ne : s ≠ []
  ls : s.length <= 1000
theorem AB.two {s o p : Tx} (h : AB s) (h1 : o.length = s.count 65) (h2 : p.length = s.count 66) : Two2 s o p := by
  refine ⟨h.ab, h1, ?_, h.ls⟩
  rw [h2]
  have : ∀ t : Tx, (∀ c ∈ t, c = 65 \/ c = 66) -> t.count 66 + t.count 65 = t.length := by
    intro t
    induction t with
    | nil => intro _; rfl
    | cons a t ih =>
      intro hh
      have := ih fun c hc => hh c (List.mem_cons_of_mem _ hc)
      rcases hh a (List.mem_cons_self ..) with rfl | rfl
      . rw [List.count_cons_self, List.count_cons_of_ne (by decide), List.length_cons]; omega
      . rw [List.count_cons_self, List.count_cons_of_ne (by decide), List.length_cons]; omega
  have := this s h.ab
  omega
def pC' (L : Tx) (T : List (List Nat)) (A : List Nat) (s o p : Tx) : Int := if decide (run L T 0 (nd (eW' o p 0 0 s)) ∈ A) = true then 1 else 0
def iG' (L : Tx) (T : List (List Nat)) (A : List Nat) (s o : Tx) (ps : List Tx) : D := .lst (ps.map fun p => .int (pC' L T A s o p))
theorem tV' {L s o p : Tx} (h : Two2 s o p) (ho : ∀ c ∈ o, c ∈ L \/ c = 46) (hp : ∀ c ∈ p, c ∈ L \/ c = 46) : (∀ c ∈ eW' o p 0 0 s, c ∈ L \/ c = 46) /\ ∀ c ∈ nd (eW' o p 0 0 s), c ∈ L := by
  have h1 : ∀ c ∈ eW' o p 0 0 s, c ∈ L \/ c = 46 := fun c hc => by
    have := jX' h s.length (Nat.le_refl _) c (by rw [List.take_length]; exact hc)
    exact this.elim (ho c) (hp c)
  exact ⟨h1, fun c hc => by
    have := List.mem_filter.mp hc
    exact (h1 c this.1).resolve_right (by simpa using this.2)⟩
theorem pd' {L : Tx} {T : List (List Nat)} {A : List Nat} {s : Tx} {os ps : List Tx} (hT : bC' T T.length L.length) (h1 : 1 <= T.length) (hs : AB s) (ho : OkW L (s.count 65) os) (hp : OkW L (s.count 66) ps) (l1 : os.length <= 100) (l2 : ps.length <= 100) (w : W) :
    wF (f__law_due [.str L, dJ' T, d2' A, .str s, .lst (os.map .str), .lst (ps.map .str)] w) (fun o w' => o = .lst ((os.map fun o => iG' L T A s o ps).map .fz) /\ w' = w) FX := by
  have kj := fun o p (ho' : o ∈ os) (hp' : p ∈ ps) => h7' (hs.two (ho o ho').1 (hp p hp').1)
  have kl := fun o p (ho' : o ∈ os) (hp' : p ∈ ps) => gQ' (s := 0) hT h1 (tV' (hs.two (ho o ho').1 (hp p hp').1) (ho o ho').2 (hp p hp').2).2
  unfold f__law_due
  walk_at "f0"
  clear ho hp hs hT
  walk_at "s"
  refine bz' (fun pre ρ => ∃ x7 x8 x9 x10, ρ = ⟨[some (.fz (.str L)), some (.fz (dJ' T)), some (.fz (d2' A)), some (.fz (.str s)), some (.fz (.lst (os.map .str))), some (.fz (.lst (ps.map .str))), some (.lst ((pre.map fun o => iG' L T A s o ps).map .fz)), x7, x8, x9, x10], w⟩) ⟨_, _, _, _, rfl⟩ ?_ ?_
  . rintro pre o post _ e ⟨x7, x8, x9, x10, rfl⟩
    have hm : o ∈ os := by rw [e]; simp
    have hl : pre.length <= 100 := by
      have := congrArg List.length e
      simp at this
      omega
    have kj := fun p hp => kj o p hm hp
    have kl := fun p hp => kl o p hm hp
    clear e hm
    walk_at "s"
    refine bz' (fun pre2 ρ => ∃ x9 x10, ρ = ⟨[some (.fz (.str L)), some (.fz (dJ' T)), some (.fz (d2' A)), some (.fz (.str s)), some (.fz (.lst (os.map .str))), some (.fz (.lst (ps.map .str))), some (.lst ((pre.map fun o => iG' L T A s o ps).map .fz)), some (.fz (.str o)), some (.lst ((pre2.map fun p => D.int (pC' L T A s o p)).map .fz)), x9, x10], w⟩) ⟨_, _, rfl⟩ ?_ ?_
    . rintro pre2 p post2 _ e ⟨x9, x10, rfl⟩
      have hm : p ∈ ps := by rw [e]; simp
      have hl : pre2.length <= 100 := by
        have := congrArg List.length e
        simp at this
        omega
      have kj := kj p hm
      have kl := kl p hm
      have ea : pC' L T A s o p = if decide (run L T 0 (nd (eW' o p 0 0 s)) ∈ A) = true then 1 else 0 := rfl
      clear e hm
      walk_at "s"
      refine (kj w).mono ?_
      rintro _ _ ⟨rfl, rfl⟩
      rename_i w
      walk_at "s"
      refine (kl w).mono ?_
      rintro _ _ ⟨rfl, rfl⟩
      rename_i w
      clear kj kl
      walk_at "s"
      exact ⟨some (.fz (.str p)), some (.fz (.int (run L T 0 (nd (eW' o p 0 0 s)) : Nat))), by rw [<- ea]; simp only [List.map_append, List.map_cons, List.map_nil]⟩
    . rintro _ ⟨x9, x10, rfl⟩
      clear kj kl
      walk_at "s"
      exact ⟨some (.fz (.str o)), some (.fz (iG' L T A s o ps)), x9, x10, by simp only [List.map_append, List.map_cons, List.map_nil]; rfl⟩
  . rintro _ ⟨x7, x8, x9, x10, rfl⟩
    walk_at "s"
theorem AB.okD {s : Tx} (h : AB s) : OkD s := ⟨h.ne, fun c hc => by rcases h.ab c hc with rfl | rfl <;> decide⟩
theorem AB.hm {s : Tx} (h : AB s) : HN.take (hmx 2 s) = [65, 66] := by
  have : ∀ t : Tx, (∀ c ∈ t, c = 65 \/ c = 66) -> hmx 2 t = 2 := by
    intro t
    unfold hmx
    induction t with
    | nil => intro _; rfl
    | cons a t ih =>
      intro hh
      rw [List.foldl_cons]
      have e : max 2 (a - 65 + 1) = 2 := by rcases hh a (List.mem_cons_self ..) with rfl | rfl <;> rfl
      rw [e]
      exact ih fun c hc => hh c (List.mem_cons_of_mem _ hc)
  rw [this s h.ab]
  rfl
theorem s4' {s : Tx} (h : AB s) (w : W) : wF (f_check_two [.str s] w) (fun o w' => o = .fz .non /\ w' = w) FX := by
  have k1 := pw' h.okD w
  have k2 := fC' h.okD.2 w
  rw [h.hm] at k2
  unfold f_check_two
  walk_at "f0"
  clear h
  walk_at "s"
  refine k1.mono ?_
  rintro _ _ ⟨rfl, rfl⟩
  rename_i w
  clear k1
  walk_at "s"
  refine k2.mono ?_
  rintro _ _ ⟨rfl, rfl⟩
  walk_at "s"
theorem k9' {w : W} {m : Nat} {L : Tx} {T : List (List Nat)} {A : List Nat} (hm : Mac w m L T A) (hL : L.length <= 100) {s : Tx} {h : Nat} {ws : List Tx} (hw : OkW L (s.count h) ws) : wF (f_check_writings [.obj m, .str s, .str [h], .lst (ws.map .str)] w) (fun o w' => o = .fz .non /\ w' = w) FX := by
  have hfl := hm.fl ["Machine"] (by simp)
  have kc : ∀ d : Nat, ∀ Q : D -> Prop, wD (en' s [.str [d]]) Q = Q (.int (s.count d : Nat)) := fun d Q => by
    show wD (some _) Q = _
    rw [al']
  unfold f_check_writings
  walk_at "f0"
  walk_at "s"
  refine bz' (fun pre ρ => ∃ x, ρ = ⟨[some (.fz (.obj m)), some (.fz (.str s)), some (.fz (.str [h])), some (.fz (.lst (ws.map .str))), x], w⟩) ⟨_, rfl⟩ ?_ ?_
  . rintro pre x post _ e ⟨y, rfl⟩
    obtain ⟨h1, h2⟩ := hw x (by rw [e]; simp)
    have e1 : (x.all fun c => decide (c ∈ L ++ [46])) = true := List.all_eq_true.mpr fun c hc => decide_eq_true (by simpa using h2 c hc)
    have k := by' x (L ++ [46]) w
    rw [e1] at k
    clear e hw h2 e1
    walk_at "s"
    refine k.mono ?_
    rintro _ _ ⟨rfl, rfl⟩
    clear k
    walk_at "s"
    exact ⟨_, rfl⟩
  . rintro _ ⟨x, rfl⟩
    walk_at "s"
structure HK (K : W -> Prop) (w : W) (n : Nat) : Prop where
  h : a3' w n
  k : K w
  cl : ∀ w w', But n w w' -> K w -> K w'
theorem bi' {K : W -> Prop} {w : W} {n : Nat} {m : Int} (h : HK K w n) (h1 : 0 < m) (h2 : m < 1606938044258990275541962092341162602522202993782792835301376) : wF (f__law_draw [.obj n, .int m] w) (fun o w' => ∃ d : Nat, o = .fz (.int (d : Nat)) /\ (d : Int) < m /\ HK K w' n) FX :=
  (bs' h.h h1 h2).mono fun _ _ ⟨d, e, e1, h', b⟩ => ⟨d, e, e1, ⟨h', h.cl _ _ b h.k, h.cl⟩⟩
structure PKW (p : Prop) : Prop where
  h : p
theorem fD' (k c : Nat) : (List.replicate k [c]).flatten = List.replicate k c := by
  induction k with
  | zero => rfl
  | succ k ih => rw [List.replicate_succ, List.flatten_cons, ih, List.replicate_succ]; rfl
theorem g1' {K : W -> Prop} {w : W} {n k : Nat} (h : HK K w n) (hk0 : 1 <= k) (hk : k <= 300) : wF (f__law_dealing [.obj n, .int k] w) (fun o w' => ∃ s, o = .fz (.str s) /\ AB s /\ s.length = k /\ HK K w' n) FX := by
  have fin : ∀ s : Tx, (∀ c ∈ s, c = 65 \/ c = 66) -> s.length = k -> AB s /\ s.length = k := fun s h1 h2 => ⟨⟨h1, fun e => by rw [e] at h2; simp at h2; omega, by omega⟩, h2⟩
  unfold f__law_dealing
  walk_at "f0"
  walk_at "s"
  refine (bi' h (by omega) (by omega)).mono ?_
  rintro _ w1 ⟨d, rfl, hd, h1⟩
  clear h
  walk_at "s"
  refine aJ' (fun c => ?_) (fun c => ?_)
  . have ⟨f1, f2⟩ := fin (List.replicate k 65) (fun c hc => .inl (List.eq_of_mem_replicate hc)) List.length_replicate
    clear fin
    walk_at "s"
    rw [fD']
    exact ⟨_, rfl, f1, f2⟩
  walk_at "s"
  refine aJ' (fun c => ?_) (fun c => ?_)
  . have ⟨f1, f2⟩ := fin (List.replicate k 66) (fun c hc => .inr (List.eq_of_mem_replicate hc)) List.length_replicate
    clear fin
    walk_at "s"
    rw [fD']
    exact ⟨_, rfl, f1, f2⟩
  walk_at "s"
  refine aJ' (fun c => ?_) (fun c => ?_)
  . walk_at "s"
    refine dz' (by simp; omega) (fun pre acc ρ => ∃ r : Tx, acc = r.map chD /\ r.length = pre.length /\ (∀ c ∈ r, c = 65 \/ c = 66) /\ ∃ y, ρ = ⟨[some (.fz (.obj n)), some (.fz (.int k)), some (.fz (.int 2)), y], w1⟩) ⟨[], rfl, rfl, by simp, _, rfl⟩ ?_ ?_
    . rintro pre c post _ _ e ⟨r, rfl, hrl, hrc, y, rfl⟩
      clear e fin
      walk_at "s"
      refine bh' (by simp; omega) fun z hz _ => ?_
      have hz : z = 65 \/ z = 66 := by simpa using hz
      refine ⟨r ++ [z], by simp [chD], by simp [hrl], fun a ha => ?_, _, rfl⟩
      rcases List.mem_append.mp ha with ha | ha
      . exact hrc a ha
      . rw [List.mem_singleton.mp ha]; exact hz
    . rintro _ _ ⟨r, rfl, hrl, hrc, y, rfl⟩
      rw [List.length_range] at hrl
      have ⟨f1, f2⟩ := fin r hrc hrl
      have hr2 : r.length <= 16777216 := by omega
      clear hrc fin
      walk_at "s"
      exact ⟨r, rfl, f1, f2⟩
  walk_at "s"
  refine dz' (by simp; omega) (fun pre acc ρ => ∃ r : Tx, acc = r.map chD /\ r.length = pre.length /\ (∀ c ∈ r, c = 65 \/ c = 66) /\ ∃ y w', ρ = ⟨[some (.fz (.obj n)), some (.fz (.int k)), some (.fz (.int (d : Nat))), y], w'⟩ /\ HK K w' n) ⟨[], rfl, rfl, by simp, _, _, rfl, h1⟩ ?_ ?_
  . clear h1 w1
    rintro pre c post _ _ e ⟨r, rfl, hrl, hrc, y, w1, rfl, h1⟩
    clear e
    walk_at "s"
    refine (bi' h1 (by omega) (by omega)).mono ?_
    rintro _ w2 ⟨b, rfl, hb, h2⟩
    walk_at "s"
    refine bh' (by simp; omega) fun z hz _ => ?_
    have hz : z = 65 \/ z = 66 := by simpa using hz
    refine ⟨r ++ [z], by simp [chD], by simp [hrl], fun a ha => ?_, _, _, rfl, h2⟩
    rcases List.mem_append.mp ha with ha | ha
    . exact hrc a ha
    . rw [List.mem_singleton.mp ha]; exact hz
  . clear h1 w1
    rintro _ _ ⟨r, rfl, hrl, hrc, y, w1, rfl, h1⟩
    rw [List.length_range] at hrl
    have ⟨f1, f2⟩ := fin r hrc hrl
    have hr2 : r.length <= 16777216 := by omega
    clear hrc fin
    walk_at "s"
    exact ⟨r, rfl, f1, f2⟩
theorem c1' {K : W -> Prop} {w : W} {n k : Nat} {L : Tx} (h : HK K w n) (hL : LetOk L 4) (hk : k <= 300) : wF (f__law_writings [.obj n, .str L, .int k, .int 5] w) (fun o w' => ∃ ws : List Tx, o = .lst ((ws.map .str).map .fz) /\ OkW L k ws /\ ws.length <= 5 /\ HK K w' n) FX := by
  have hne := hL.ne
  have hle := hL.le
  clear hL
  unfold f__law_writings
  walk_at "f0"
  walk_at "s"
  refine (bi' h (by omega) (by omega)).mono ?_
  rintro _ w1 ⟨d, rfl, hd, h1⟩
  clear h
  walk_at "s"
  refine cY' (fun j ρ => ∃ ws x6 x7 x w', ρ = ⟨[some (.fz (.obj n)), some (.fz (.str L)), some (.fz (.int k)), some (.fz (.int 5)), some (.lst ((ws.map D.str).map .fz)), x, x6, x7, none], w'⟩ /\ OkW L k ws /\ ws.length = j /\ HK K w' n) ⟨[], _, _, _, _, rfl, by intro x hx; simp at hx, rfl, h1⟩ ?_ ?_
  . clear h1 w1
    rintro j _ hj ⟨ws, x6, x7, x, w1, rfl, hw, hwl, h1⟩
    have hO := PKW.mk hw
    clear hw
    walk_at "s"
    refine (bi' h1 (by omega) (by omega)).mono ?_
    rintro _ w2 ⟨t, rfl, ht, h2⟩
    clear h1
    walk_at "s"
    obtain ⟨m, em, hm1, hm2⟩ : ∃ m : Nat, (1 + 3 * (t : Int)).toNat = m /\ 1 <= m /\ m <= 7 := ⟨_, rfl, by omega, by omega⟩
    rw [em, fD']
    clear em
    obtain ⟨S, hS, hSl, hS1⟩ : ∃ S : Tx, L ++ List.replicate m 46 = S /\ (∀ c ∈ S, c ∈ L \/ c = 46) /\ 1 <= S.length /\ S.length <= 11 := by
      refine ⟨_, rfl, fun c hc => ?_, by simp; omega, by simp; omega⟩
      rcases List.mem_append.mp hc with hc | hc
      . exact .inl hc
      . exact .inr (List.eq_of_mem_replicate hc)
    have hlen : (List.replicate m 46).length = m := List.length_replicate
    rw [hS]
    have hSS := PKW.mk hSl
    clear hS hSl
    walk_at "s"
    refine dz' (by simp; omega) (fun pre acc ρ => ∃ r : Tx, acc = r.map chD /\ r.length = pre.length /\ (∀ c ∈ r, c ∈ L \/ c = 46) /\ ∃ y w', ρ = ⟨[some (.fz (.obj n)), some (.fz (.str L)), some (.fz (.int k)), some (.fz (.int 5)), some (.lst ((ws.map D.str).map .fz)), some (.fz (.int (j : Nat))), some (.fz (.int (t : Nat))), some (.fz (.str S)), y], w'⟩ /\ HK K w' n) ⟨[], rfl, rfl, by simp, _, _, rfl, h2⟩ ?_ ?_
    . clear h2 w2
      rintro pre c post _ _ e ⟨r, rfl, hrl, hrc, y, w1, rfl, h1⟩
      clear e
      walk_at "s"
      refine (bi' h1 (by omega) (by omega)).mono ?_
      rintro _ w2 ⟨b, rfl, hb, h2⟩
      walk_at "s"
      refine bh' (by omega) fun z hz _ => ?_
      have hz := hSS.h z hz
      refine ⟨r ++ [z], by simp [chD], by simp [hrl], fun a ha => ?_, _, _, rfl, h2⟩
      rcases List.mem_append.mp ha with ha | ha
      . exact hrc a ha
      . rw [List.mem_singleton.mp ha]; exact hz
    . clear h2 w2
      rintro _ _ ⟨r, rfl, hrl, hrc, y, w1, rfl, h1⟩
      rw [List.length_range] at hrl
      have hw' : OkW L k (ws ++ [r]) := fun x hx => by
        rcases List.mem_append.mp hx with hx | hx
        . exact hO.h x hx
        . rw [List.mem_singleton.mp hx]; exact ⟨hrl, hrc⟩
      walk_at "s"
      exact ⟨ws ++ [r], some (.fz (.int (t : Nat))), some (.fz (.str S)), some (.fz (.int (j : Nat))), w1, by simp, hw', by simp [hwl], h1⟩
  . rintro _ ⟨ws, x6, x7, x, w2, rfl, hw, hwl, h2⟩
    have hO := PKW.mk hw
    clear hw
    walk_at "s"
    refine aJ' (fun c => ?_) (fun c => ?_)
    . walk_at "s"
      refine (bi' h2 (by omega) (by omega)).mono ?_
      rintro _ w3 ⟨t, rfl, ht, h3⟩
      clear h2
      walk_at "s"
      refine aJ' (fun c => ?_) (fun c => ?_)
      . have hw5 : ws.length <= 5 := by omega
        walk_at "s"
        refine bh' (by omega) fun a ha _ => ?_
        have hset : OkW L k (ws.set (ws.length - 1) a) := fun x hx => by
          rcases List.mem_or_eq_of_mem_set hx with hx | rfl
          . exact hO.h x hx
          . exact hO.h _ ha
        walk_at "s"
        have ei : ixn d (-1) = some (d - 1) := by
          unfold ixn
          rw [if_neg (by decide), if_pos (by omega)]
          congr 1
          omega
        rw [ei, al', <- hwl]
        clear ei
        rw [<- List.map_set, <- List.map_set]
        have hw6 : (ws.set (ws.length - 1) a).length <= 5 := by rw [List.length_set]; omega
        have hO2 := PKW.mk hset
        clear hset
        generalize ws.set (ws.length - 1) a = ws2 at *
        walk_at "s"
        exact ⟨ws2, rfl, hO2.h, hw6⟩
      . have hw5 : ws.length <= 5 := by omega
        walk_at "s"
        exact ⟨ws, rfl, hO.h, hw5⟩
    . have hw5 : ws.length <= 5 := by omega
      walk_at "s"
      exact ⟨ws, rfl, hO.h, hw5⟩
structure MW (w : W) (m : Nat) (L : Tx) (T : List (List Nat)) (A : List Nat) : Prop where
  mac : Mac w m L T A
  tab : bC' T T.length L.length
  ne : 1 <= T.length
  ll : L.length <= 4
abbrev kZ' (L : Tx) (T : List (List Nat)) (A : List Nat) (s o : Tx) (ps : List Tx) : List D := ps.map fun p => .int (pC' L T A s o p)
theorem e6' {w : W} {m : Nat} {L : Tx} {T : List (List Nat)} {A : List Nat} (M : MW w m L T A) {s : Tx} {os ps : List Tx} (hs : AB s) (ho : OkW L (s.count 65) os) (hp : OkW L (s.count 66) ps) (l1 : os.length <= 100) (l2 : ps.length <= 100) :
    wF (f_answers [.obj m, .str s, .lst (os.map .str), .lst (ps.map .str)] w) (fun o w' => o = .lst (cl' (os.map fun o => kZ' L T A s o ps)) /\ w' = w) FX := by
  have k1 := s4' hs w
  have k2 := k9' M.mac (by have := M.ll; omega) ho
  have k3 := k9' M.mac (by have := M.ll; omega) hp
  have k4 := fun o p (ho' : o ∈ os) (hp' : p ∈ ps) => hN' (hs.two (ho o ho').1 (hp p hp').1) w
  have k5 := fun o p (ho' : o ∈ os) (hp' : p ∈ ps) => pe' M.mac M.tab M.ne (tV' (hs.two (ho o ho').1 (hp p hp').1) (ho o ho').2 (hp p hp').2).1 (by rw [cH']; exact hs.ls)
  unfold f_answers
  walk_at "f0"
  clear M hs ho hp
  walk_at "s"
  refine k1.mono ?_
  rintro _ _ ⟨rfl, rfl⟩
  rename_i w
  clear k1
  walk_at "s"
  refine k2.mono ?_
  rintro _ _ ⟨rfl, rfl⟩
  rename_i w
  clear k2
  walk_at "s"
  refine k3.mono ?_
  rintro _ _ ⟨rfl, rfl⟩
  rename_i w
  clear k3
  walk_at "s"
  simp only [vL']
  walk_at "s"
  refine rq' (f := D.str) (by omega) (fun pre acc ρ => acc = cl' (pre.map fun o => kZ' L T A s o ps) /\ ∃ x4, ρ = ⟨[some (.fz (.obj m)), some (.fz (.str s)), some (.fz (.lst (os.map .str))), some (.fz (.lst (ps.map .str))), x4, none], w⟩) ⟨rfl, _, rfl⟩ ?_ ?_
  . rintro pre o post _ _ e ⟨rfl, x4, rfl⟩
    have hom : o ∈ os := by rw [e]; simp
    have k4 := fun p hp => k4 o p hom hp
    have k5 := fun p hp => k5 o p hom hp
    clear hom e
    walk_at "s"
    refine qn' (f := D.str) (fun p => D.int (pC' L T A s o p)) (by omega) ?_ ?_
    . intro p hpm
      have k4 := k4 p hpm
      have k5 := k5 p hpm
      have ea : pC' L T A s o p = if decide (run L T 0 (nd (eW' o p 0 0 s)) ∈ A) = true then 1 else 0 := rfl
      clear hpm
      walk_at "s"
      refine k4.mono ?_
      rintro _ _ ⟨rfl, rfl⟩
      rename_i w
      walk_at "s"
      refine k5.mono ?_
      rintro _ _ ⟨rfl, rfl⟩
      rename_i w
      clear k4 k5
      walk_at "s"
    . clear k4 k5
      intro env2 he
      have he2 : env2.set 5 none = [some (.fz (.obj m)), some (.fz (.str s)), some (.fz (.lst (os.map .str))), some (.fz (.lst (ps.map .str))), some (.fz (.str o)), none] := he
      refine ⟨by simp [cl', kZ'], some (.fz (.str o)), ?_⟩
      dsimp only
      rw [he2]
      rfl
  . rintro _ _ ⟨rfl, x4, rfl⟩
    clear k4 k5
    walk_at "s"
theorem pD' (L : Tx) (T : List (List Nat)) (A : List Nat) (s o : Tx) (ps : List Tx) : ∀ d ∈ kZ' L T A s o ps, ∃ i : Int, d = .int i := fun d hd => by
  obtain ⟨p, _, rfl⟩ := List.mem_map.mp hd
  exact ⟨_, rfl⟩
theorem h9' {rows : List (List D)} (hi : ∀ r ∈ rows, ∀ d ∈ r, ∃ i : Int, d = .int i) (hd : dat (.lst (rows.map .lst)) = true /\ dep (.lst (rows.map .lst)) <= 64) (hl : rows.length <= 100) (w : W) : wF (f__law_is_due [.lst (rows.map .lst), .lst (rows.map .lst)] w) (fun o w' => o = .fz (.bl true) /\ w' = w) FX := by
  have n0 : ∀ Q : D -> Prop, wD (pEq (.lst (rows.map .lst)) (.lst (rows.map .lst))) Q = Q (.bl true) := fun Q => pr' _ hd.1 hd.2
  clear hd
  unfold f__law_is_due
  walk_at "f0"
  walk_at "s"
  refine bz' (fun pre ρ => ∃ x2 x3, ρ = ⟨[some (.fz (.lst (rows.map .lst))), some (.fz (.lst (rows.map .lst))), x2, x3], w⟩) ⟨_, _, rfl⟩ ?_ ?_
  . rintro pre r post _ e ⟨x2, x3, rfl⟩
    have hr := hi r (by rw [e]; simp)
    clear e hi
    walk_at "s"
    refine rH' (fun pre ρ => ∃ x3, ρ = ⟨[some (.fz (.lst (rows.map .lst))), some (.fz (.lst (rows.map .lst))), some (.fz (.lst r)), x3], w⟩) ⟨_, rfl⟩ ?_ ?_
    . rintro pre d post _ e ⟨x3, rfl⟩
      obtain ⟨i, rfl⟩ := hr d (by rw [e]; simp)
      clear e hr
      walk_at "s"
      exact ⟨_, rfl⟩
    . rintro _ ⟨x3, rfl⟩
      exact ⟨_, _, rfl⟩
  . rintro _ ⟨x2, x3, rfl⟩
    walk_at "s"
theorem mZ' {L : Tx} {T : List (List Nat)} {A : List Nat} {s : Tx} {ps : List Tx} : ∀ os : List Tx, m0' true false (.lst (cl' (os.map fun o => kZ' L T A s o ps))) = true := by
  have h1 : ∀ (o : Tx) (q : List Tx), nodOs true false ((q.map fun p => D.int (pC' L T A s o p)).map O.fz) = true := by
    intro o q
    induction q with
    | nil => rfl
    | cons a q ih => exact ih
  intro os
  show nodOs true false (cl' (os.map fun o => kZ' L T A s o ps)) = true
  induction os with
  | nil => rfl
  | cons o os ih =>
    show (nodOs true false ((ps.map fun p => D.int (pC' L T A s o p)).map O.fz) && nodOs true false (cl' (os.map fun o => kZ' L T A s o ps))) = true
    rw [h1, ih]
    rfl
theorem gJ' : ∀ R : List (List D), okOs (cl' R) = dats (R.map .lst)
  | [] => rfl
  | r :: R => by
    show (okOs (r.map .fz) && okOs (cl' R)) = (dats r && dats (R.map .lst))
    rw [hW', gJ' R]
theorem d1' : ∀ q : List Tx, dats (q.map .str) = true
  | [] => rfl
  | _ :: q => d1' q
theorem gU' : ∀ R : List (List D), frzs (cl' R) = R.map .lst
  | [] => rfl
  | r :: R => by show D.lst (frzs (r.map .fz)) :: frzs (cl' R) = _; rw [id', gU' R]; rfl
theorem sd' (L : Tx) (T : List (List Nat)) (A : List Nat) (s : Tx) (os ps : List Tx) : dat (.lst (os.map fun o => iG' L T A s o ps)) = true /\ dep (.lst (os.map fun o => iG' L T A s o ps)) <= 64 := by
  have h1 : ∀ l : List Int, dats (l.map D.int) = true /\ deps (l.map D.int) <= 1 := by
    intro l
    induction l with
    | nil => exact ⟨rfl, by decide⟩
    | cons a l ih =>
      refine ⟨?_, ?_⟩
      . show (true && dats (l.map D.int)) = true
        rw [ih.1]; rfl
      . show max (dep (.int a)) (deps (l.map D.int)) <= 1
        have := ih.2
        have : dep (.int a) <= 1 := Nat.zero_le _
        omega
  have h2 : ∀ o, dat (iG' L T A s o ps) = true /\ dep (iG' L T A s o ps) <= 3 := fun o => by
    have := h1 (ps.map fun p => pC' L T A s o p)
    rw [List.map_map] at this
    refine ⟨this.1, ?_⟩
    have h := this.2
    show deps _ + 1 <= 3
    exact Nat.le_trans (Nat.succ_le_succ h) (by decide)
  have h3 : ∀ l : List Tx, dats (l.map fun o => iG' L T A s o ps) = true /\ deps (l.map fun o => iG' L T A s o ps) <= 3 := by
    intro l
    induction l with
    | nil => exact ⟨rfl, Nat.zero_le _⟩
    | cons a l ih =>
      refine ⟨?_, ?_⟩
      . show (dat (iG' L T A s a ps) && dats (l.map fun o => iG' L T A s o ps)) = true
        rw [ih.1, (h2 a).1]; rfl
      . show max (dep (iG' L T A s a ps)) (deps (l.map fun o => iG' L T A s o ps)) <= 3
        have := ih.2
        have := (h2 a).2
        omega
  refine ⟨(h3 os).1, ?_⟩
  show deps _ + 1 <= 64
  have := (h3 os).2
  omega
theorem dr' {kl kd : Bool} : ∀ r : List Nat, nodDs kl kd (r.map fun t => D.int (t : Nat)) = true
  | [] => rfl
  | _ :: r => dr' r
theorem e1' {kl kd : Bool} : ∀ T : List (List Nat), nodDs kl kd (T.map eE') = true
  | [] => rfl
  | r :: T => by
    show (nodDs kl kd (r.map fun t => D.int (t : Nat)) && nodDs kl kd (T.map eE')) = true
    rw [dr', e1']
    rfl
theorem kE' {L : Tx} {T : List (List Nat)} {A : List Nat} : eJ' true false (oX' L T A) = true := by
  show (true && (nodDs true false (T.map eE') && (nodDs true false (A.map fun t => D.int (t : Nat)) && true))) = true
  rw [e1', dr']
  rfl
theorem law_true (ns : List Int) (hl : ns.length <= 63) : ∃ w, f_law [.scr (ns.map .int)] [] = .ok (.fz (.bl true)) w := by
  suffices h : wF (f_law [.scr (ns.map .int)] []) (fun o _ => o = .fz (.bl true)) FX by
    obtain ⟨o, w, e, rfl⟩ := h.exi
    exact ⟨w, e⟩
  unfold f_law
  walk_at "f"
  refine (nw' hl).mono ?_
  rintro _ w1 ⟨rfl, h1⟩
  walk_at "s"
  refine (gB' (fewest := 1) (most := 4) (states := 6) h1 (by omega) (by omega) (by omega) (by omega) (by omega)).mono ?_
  rintro _ w2 ⟨L, T, A, rfl, hM, -, h2⟩
  clear h1 w1
  walk_at "s"
  refine (m6' rfl hM).mono ?_
  rintro _ _ ⟨rfl, rfl⟩
  have hp := h2.lt
  have hk : HK (fun w => MW w w2.length L T A) (w2 ++ [oX' L T A]) 1 := ⟨h2.snoc kE', ⟨Mac.made, hM.tab, hM.ne, hM.let'.le⟩, fun w w' b k => ⟨k.mac.but b (by omega), k.tab, k.ne, k.ll⟩⟩
  have hLet := PKW.mk hM.let'
  have hT := PKW.mk hM.tab
  have hne := hM.ne
  generalize w2 ++ [oX' L T A] = w3 at hk
  generalize w2.length = p at hk
  clear hM h2 hp w2
  walk_at "s"
  refine cY' (fun k ρ => ∃ x6 x7 x8 x9 x10 x11 x12 x13 x14 x15 w', ρ = ⟨[some (.fz (.scr (ns.map .int))), some (.fz (.obj 1)), some (.fz (.str L)), some (.fz (dJ' T)), some (.fz (d2' A)), some (.fz (.obj p)), x6, x7, x8, x9, x10, x11, x12, x13, x14, x15], w'⟩ /\ HK (fun w => MW w p L T A) w' 1) ⟨_, _, _, _, _, _, _, _, _, _, _, rfl, hk⟩ ?_ ?_
  . clear hk w3
    rintro j _ hj ⟨x6, x7, x8, x9, x10, x11, x12, x13, x14, x15, w1, rfl, h1⟩
    walk_at "s"
    refine (bi' h1 (by omega) (by omega)).mono ?_
    rintro _ w2 ⟨n0, rfl, hn0, h2⟩
    clear h1 w1
    have ea : ∀ Q : D -> Prop, wD (cm' (.int 1) (frz (.fz (.int (n0 : Nat))))) Q = Q (.int ((1 + n0 : Nat) : Int)) := fun Q => by
      show wD (some _) Q = _
      rw [al']
      congr 2
    rw [ea, hD' (by decide)]
    try dsimp only
    refine ea' (fun ρ => ∃ (n1 : Nat) (w' : W), ρ = ⟨[some (.fz (.scr (ns.map .int))), some (.fz (.obj 1)), some (.fz (.str L)), some (.fz (dJ' T)), some (.fz (d2' A)), some (.fz (.obj p)), some (.fz (.int (j : Nat))), some (.fz (.int (n1 : Nat))), x8, x9, x10, x11, x12, x13, x14, x15], w'⟩ /\ 1 <= n1 /\ n1 <= 300 /\ HK (fun w => MW w p L T A) w' 1) ?_ ?_
    . walk_at "s"
      refine aJ' (fun c => ?_) (fun c => ?_)
      . obtain rfl : j = 2 := by omega
        walk_at "s"
        refine (bi' h2 (by omega) (by omega)).mono ?_
        rintro _ w3 ⟨n2, rfl, hn2, h3⟩
        clear h2
        walk_at "s"
        refine aJ' (fun c => ?_) (fun c => ?_)
        . walk_at "s"
          refine (bi' h3 (by omega) (by omega)).mono ?_
          rintro _ w4 ⟨n3, rfl, hn3, h4⟩
          clear h3
          walk_at "s"
          exact ⟨1 + n3, w4, by simp, by omega, by omega, h4⟩
        . walk_at "s"
          exact ⟨1 + n0, w3, by simp, by omega, by omega, h3⟩
      . walk_at "s"
        try exact ⟨1 + n0, w2, by simp, by omega, by omega, h2⟩
    rintro _ ⟨n1, w3, rfl, hn1, hn2, h3⟩
    clear h2 w2
    walk_at "s"
    refine (g1' h3 hn1 hn2).mono ?_
    rintro _ w4 ⟨s, rfl, hs, hsl, h4⟩
    clear h3 w3
    have kc : ∀ d : Nat, ∀ Q : D -> Prop, wD (en' s [.str [d]]) Q = Q (.int (s.count d : Nat)) := fun d Q => by
      show wD (some _) Q = _
      rw [al']
    have c1 : s.count 65 <= 300 := Nat.le_trans List.count_le_length (by omega)
    have c2 : s.count 66 <= 300 := Nat.le_trans List.count_le_length (by omega)
    walk_at "s"
    refine (c1' h4 hLet.h c1).mono ?_
    rintro _ w5 ⟨os, rfl, ho, o2, h5⟩
    have ho := PKW.mk ho
    clear h4 w4
    walk_at "s"
    refine (c1' h5 hLet.h c2).mono ?_
    rintro _ w6 ⟨ps, rfl, hp, p2, h6⟩
    have hp := PKW.mk hp
    clear h5 w5
    have kd := pd' (A := A) hT.h hne hs ho.h hp.h (by omega) (by omega) w6
    have ka := e6' h6.k hs ho.h hp.h (by omega) (by omega)
    have nd6 := h6.h.nod
    walk_at "s"
    refine kd.mono ?_
    rintro _ _ ⟨rfl, rfl⟩
    rename_i w6
    clear kd
    walk_at "s"
    refine ka.mono ?_
    rintro _ _ ⟨rfl, rfl⟩
    refine ⟨mZ' os, nd6, ?_⟩
    clear ka
    have ed : (os.map fun o => iG' L T A s o ps) = (os.map fun o => kZ' L T A s o ps).map .lst := by rw [List.map_map]; rfl
    have hdat := sd' L T A s os ps
    have ka := fun w (h : MW w p L T A) => e6' h hs ho.h hp.h (by omega) (by omega)
    rw [ed] at hdat ⊢
    have hint : ∀ r ∈ os.map (fun o => kZ' L T A s o ps), ∀ d ∈ r, ∃ i : Int, d = .int i := fun r hr => by
      obtain ⟨o, _, rfl⟩ := List.mem_map.mp hr
      exact pD' L T A s o ps
    have hRl : ∀ r ∈ os.map (fun o => kZ' L T A s o ps), r.length <= 5 := fun r hr => by
      obtain ⟨o, _, rfl⟩ := List.mem_map.mp hr
      simp [kZ', p2]
    have hR : (os.map fun o => kZ' L T A s o ps).length <= 5 := by rw [List.length_map]; exact o2
    clear ed nd6
    generalize os.map (fun o => kZ' L T A s o ps) = R at *
    have kd := fun w => h9' hint hdat (by omega) w
    have ef := gU' R
    have eo := gJ' R
    rw [show dats (R.map .lst) = true from hdat.1] at eo
    have eR : dats (R.map .lst) = true := hdat.1
    have es := d1'
    have es2 : ∀ q : List Tx, dat (.lst (q.map .str)) = true := d1'
    clear hint hdat
    walk_at "s"
    refine (kd []).mono ?_
    rintro _ _ ⟨rfl, rfl⟩
    have hn : ∀ (q : List Tx) (Q : D -> Prop), wD (pNe (.lst (q.map .str)) (.lst (q.map .str))) Q = Q (.bl false) := fun q Q => pj' (.lst (q.map .str)) (d1' q) (by
      have : ∀ r : List Tx, deps (r.map D.str) = 0 := by
        intro r
        induction r with
        | nil => rfl
        | cons a r ih => show max (dep (.str a)) (deps (r.map D.str)) = 0; rw [ih]; rfl
      show deps (q.map D.str) + 1 <= 64
      rw [this]
      omega)
    walk_at "s"
    rw [tq' (rows := R) rfl (by simp) (fun x hx => by have := hRl x hx; omega)]
    have hZ : (cl' (R.map fun r => r ++ [.int 5])).length <= 5 := by rw [cl', List.length_map, List.length_map]; exact hR
    generalize cl' (R.map fun r => r ++ [.int 5]) = Z at hZ
    clear hRl
    rename_i w7
    have ka7 := ka w7 h6.k
    clear ka
    dsimp only [List.set]
    walk_at "s"
    refine ka7.mono ?_
    rintro _ _ ⟨rfl, rfl⟩
    rename_i w7
    clear ka7
    walk_at "s"
    refine (kd w7).mono ?_
    rintro _ _ ⟨rfl, rfl⟩
    walk_at "s"
    exact ⟨_, _, _, _, _, _, _, _, _, _, _, rfl, h6⟩
  . rintro _ ⟨x6, x7, x8, x9, x10, x11, x12, x13, x14, x15, w1, rfl, h1⟩
    walk_at "s"
end
end M
namespace S
open PySem PySem.Spec PyProof.Rows L2
section
variable [Wd] {K : PySem.W.Frag} {mg : Str -> Option Value} {base : Heap}
theorem fq' (C : Ctx Wd.w K mg) : Og Wd.P Wd.w K mg base 1 "is_integer" ["thing"] (spM K M.f_is_integer) := by
  obtain ⟨fd, F⟩ := C.f_is_integer
  exact ⟨fd, okM F fj' rfl rfl (fun cdv A outer s H E hr =>
    (af' (az' (bg' (qe' (cO' "int" (by decide) rfl (C.free_isinstance) (by decide +kernel) (ae' (pv 0)) (pe_bltn (v := .ty "int") rfl (C.free_int) (by decide +kernel) rfl)) (qc' (ti' (cO' "bool" (by decide) rfl (C.free_isinstance) (by decide +kernel) (ae' (pv 0)) (pe_bltn (v := .ty "bool") rfl (C.free_bool) (by decide +kernel) rfl))))))))), hr' F, F.kp, C.g_is_integer⟩
theorem bL' (C : Ctx Wd.w K mg) : Og Wd.P Wd.w K mg base 1 "is_string_of" ["thing", "signs"] (spM K M.f_is_string_of) := by
  obtain ⟨fd, F⟩ := C.f_is_string_of
  exact ⟨fd, okM F cq' rfl rfl (fun cdv A outer s H E hr =>
    (ab' (bd' (bp' (fT' (cO' "str" (by decide) rfl (C.free_isinstance) (by decide +kernel) (ae' (pv 0)) (pe_bltn (v := .ty "str") rfl (C.free_str) (by decide +kernel) rfl)))) (af' (az' (bg' cp'))) aE')
      (ab' (bq' (passes_of rfl) rfl (bJ' (ae' (pv 0))) (cF' 2 cq'.nd rfl (by walk_at "1") (by walk_at "2")) (af' (bd' (aK' mQ' rk' (by rfl) (ae' (pv 2)) (ae' (pv 1))) (af' (az' (bg' cp'))) aE')))
      (af' (az' (bg' cp')))))), eL' F, F.kp, C.g_is_string_of⟩
theorem cv' (C : Ctx Wd.w K mg) : Og Wd.P Wd.w K mg base 1 "is_ascending" ["thing"] (spM K M.f_is_ascending) := by
  obtain ⟨fd, F⟩ := C.f_is_ascending
  exact ⟨fd, okM F bK' rfl rfl (fun cdv A outer s H E hr =>
    (ab' (bq' (passes_of rfl) rfl (tg' rfl (C.free_zip) (ae' (pv 0)) (mr' tf' tQ' (ae' (pv 0)) (kx' ac') oo')) (v0' (n := 2) rfl rfl rfl rfl (b8' rfl (cF' 1 bK'.nd rfl (by walk_at "1") (by walk_at "2")) (b8' rfl (cF' 2 bK'.nd rfl (by walk_at "1") (by walk_at "2")) hK'))) (af' (bd' (aK' mT' wr' (nomark _) (ae' (pv 1)) (ae' (pv 2))) (af' (az' (bg' cp'))) aE')))
      (af' (az' (bg' cp'))))), eM' F, F.kp, C.g_is_ascending⟩
theorem gE' (C : Ctx Wd.w K mg) : Og Wd.P Wd.w K mg base 2 "is_choice" ["thing", "signs"] (spM K M.f_is_choice) := by
  obtain ⟨fd, F⟩ := C.f_is_choice
  exact ⟨fd, okM F gw' rfl rfl (fun cdv A outer s H E hr =>
    (af' (az' (bg' (qe' (b9' (ai' (bL' C) (hr.mono (by walk_at "4")) rfl (takes_of rfl rfl rfl rfl) (aa' (ae' (pv 0)) (aa' (ae' (pv 1)) ah')))) (qc' (b9' (ai' (cv' C) (hr.mono (by walk_at "4")) rfl (takes_of rfl rfl rfl rfl) (aa' (ae' (pv 0)) ah'))))))))), iA' F, F.kp, C.g_is_choice⟩
theorem dM' (C : Ctx Wd.w K mg) : Og Wd.P Wd.w K mg base 2 "check_dealing" ["thing"] (spM K M.f_check_dealing) := by
  obtain ⟨fd, F⟩ := C.f_check_dealing
  exact ⟨fd, okM F dL' rfl rfl (fun cdv A outer s H E hr =>
    (af' (bd' (jQ' (dK' (bp' (fT' (b9' (ai' (bL' C) (hr.mono (by walk_at "4")) rfl (takes_of rfl rfl rfl rfl) (aa' (ae' (pv 0)) (aa' (vl' (fm' rfl C.c_HANDS) fun _ _ => ki' (by decide +kernel) (by decide +kernel)) ah')))))) (cN' (aK' (bu' hr.units) fV' (nomark _) (ae' (pv 0)) (be' [] (by decide +kernel) (by decide +kernel)))))) (af' (dW' rfl (takes_of rfl rfl rfl rfl) (dY' PySem.F.excBase_ValueError C.x_NoDealing C.g_NoDealing C.k_NoDealing C.r_NoDealing rfl))) aE'))), eu' F, F.kp, C.g_check_dealing⟩
theorem hT' (C : Ctx Wd.w K mg) : Og Wd.P Wd.w K mg base 1 "hands_of" ["dealing"] (spM K M.f_hands_of) := by
  obtain ⟨fd, F⟩ := C.f_hands_of
  exact ⟨fd, okM F ca' rfl rfl (fun cdv A outer s H E hr =>
    (ab' (am' (i := 1) ca'.nd rfl (by walk_at "1") (bg' ac'))
      (ab' (bq' (passes_of rfl) rfl (bJ' (ae' (pv 0))) (cF' 2 ca'.nd rfl (by walk_at "1") (by walk_at "2")) (af' (am' (i := 1) ca'.nd rfl (by walk_at "1") (bg' (q0' (e5' rfl) qx' rfl (C.free_max) (by decide +kernel) (ae' (pv 1)) (aC' aN' bH' (eb' PySem.F.slot_str_index PySem.F.type_str_index gO' m8' (vl' (fm' rfl C.c_HANDS) fun _ _ => ki' (by decide +kernel) (by decide +kernel)) (aa' (ae' (pv 2)) ah')) ac'))))))
      (af' (az' (bg' (mr' tf' tQ' (vl' (fm' rfl C.c_HANDS) fun _ _ => ki' (by decide +kernel) (by decide +kernel)) oo' (kx' (ae' (pv 1)))))))))), kW' F, F.kp, C.g_hands_of⟩
theorem da' (C : Ctx Wd.w K mg) : Og Wd.P Wd.w K mg base 2 "are_states" ["thing", "many"] (spM K M.f_are_states) := by
  obtain ⟨fd, F⟩ := C.f_are_states
  exact ⟨fd, okM F c6' rfl rfl (fun cdv A outer s H E hr =>
    (ab' (bd' (bp' (fT' (cO' "tuple" (by decide) rfl (C.free_isinstance) (by decide +kernel) (ae' (pv 0)) (pe_bltn (v := .ty "tuple") rfl (C.free_tuple) (by decide +kernel) rfl)))) (af' (az' (bg' cp'))) aE')
      (ab' (bq' (passes_of rfl) rfl (bJ' (ae' (pv 0))) (cF' 2 c6'.nd rfl (by walk_at "1") (by walk_at "2")) (af' (bd' (jQ' (dK' (bp' (fT' (b9' (ai' (fq' C) (hr.mono (by walk_at "4")) rfl (takes_of rfl rfl rfl rfl) (aa' (ae' (pv 2)) ah'))))) (dK' (aK' mR' wp' (nomark _) (ae' (pv 2)) ac') (cN' (aK' mT' wr' (nomark _) (ae' (pv 2)) (ae' (pv 1))))))) (af' (az' (bg' cp'))) aE')))
      (af' (az' (bg' cp')))))), hs' F, F.kp, C.g_are_states⟩
theorem hS' (C : Ctx Wd.w K mg) : Og Wd.P Wd.w K mg base 3 "is_table" ["thing", "letters"] (spM K M.f_is_table) := by
  obtain ⟨fd, F⟩ := C.f_is_table
  exact ⟨fd, okM F ec' rfl rfl (fun cdv A outer s H E hr =>
    (ab' (bd' (jQ' (dK' (bp' (fT' (cO' "tuple" (by decide) rfl (C.free_isinstance) (by decide +kernel) (ae' (pv 0)) (pe_bltn (v := .ty "tuple") rfl (C.free_tuple) (by decide +kernel) rfl)))) (cN' (bp' (jR' j4' vw' j4' vw' ac' (c5' (aT' ⟨rfl, rfl⟩) dt' rfl (C.free_len) (by decide +kernel) (ae' (pv 0))) ac'))))) (af' (az' (bg' cp'))) aE')
      (ab' (bq' (passes_of rfl) rfl (bJ' (ae' (pv 0))) (cF' 2 ec'.nd rfl (by walk_at "1") (by walk_at "2")) (af' (bd' (jQ' (dK' (bp' (fT' (b9' (ai' (da' C) (hr.mono (by walk_at "4")) rfl (takes_of rfl rfl rfl rfl) (aa' (ae' (pv 2)) (aa' (c5' (aT' ⟨rfl, rfl⟩) dt' rfl (C.free_len) (by decide +kernel) (ae' (pv 0))) ah')))))) (cN' (aK' (eh' hr.units) rl' (nomark _) (c5' (aT' ⟨rfl, rfl⟩) dt' rfl (C.free_len) (by decide +kernel) (ae' (pv 2))) (c5' (aT' ⟨rfl, rfl⟩) dt' rfl (C.free_len) (by decide +kernel) (ae' (pv 1))))))) (af' (az' (bg' cp'))) aE')))
      (af' (az' (bg' cp')))))), kV' F, F.kp, C.g_is_table⟩
theorem el' (C : Ctx Wd.w K mg) : OgM Wd.P Wd.w K mg base 1 (He.ga K "Machine") "keep" ["self", "letters", "table", "accepts"] (spM K M.f_Machine_keep) := by
  obtain ⟨fd, F⟩ := C.f_Machine_keep
  exact ⟨fd, okM F ed' rfl rfl (fun cdv A outer s H E hr =>
    (ab' (d8' ["Machine"] (ae' (pv 0)) (bg' (ae' (pv 1))) C.at_kept_letters)
      (ab' (d8' ["Machine"] (ae' (pv 0)) (bg' (ae' (pv 2))) C.at_kept_table)
      (ab' (d8' ["Machine"] (ae' (pv 0)) (bg' (ae' (pv 3))) C.at_kept_accepts)
      (ab' (d8' ["Machine"] (ae' (pv 0)) (bg' qd') C.at_kept_least)
      (ab' (d8' ["Machine"] (ae' (pv 0)) (bg' qd') C.at_kept_field)
      (ab' (d8' ["Machine"] (ae' (pv 0)) mo' C.at_kept_lots)
      (af' (d8' ["Machine"] (ae' (pv 0)) mo' C.at_kept_more))))))))), eO' F⟩
theorem cW' (C : Ctx Wd.w K mg) : OgM Wd.P Wd.w K mg base 4 (He.ga K "Machine") "__init__" ["self", "letters", "table", "accepts"] (spM K M.f_Machine___init__) := by
  obtain ⟨fd, F⟩ := C.f_Machine___init__
  exact ⟨fd, okM F cU' rfl rfl (fun cdv A outer s H E hr =>
    (ab' (bd' (jQ' (dK' (bp' (fT' (b9' (ai' (gE' C) (hr.mono (by walk_at "4")) rfl (takes_of rfl rfl rfl rfl) (aa' (ae' (pv 1)) (aa' (vl' (fm' rfl C.c_SMALL) fun _ _ => ki' (by decide +kernel) (by decide +kernel)) ah')))))) (cN' (bp' (jR' j4' vw' j4' vw' ac' (c5' (aT' ⟨rfl, rfl⟩) dt' rfl (C.free_len) (by decide +kernel) (ae' (pv 1))) ac'))))) (af' hH') aE')
      (ab' (bd' (bp' (fT' (b9' (ai' (hS' C) (hr.mono (by walk_at "4")) rfl (takes_of rfl rfl rfl rfl) (aa' (ae' (pv 2)) (aa' (ae' (pv 1)) ah')))))) (af' hH') aE')
      (ab' (bd' (jQ' (dK' (bp' (fT' (b9' (ai' (da' C) (hr.mono (by walk_at "4")) rfl (takes_of rfl rfl rfl rfl) (aa' (ae' (pv 3)) (aa' (c5' (aT' ⟨rfl, rfl⟩) dt' rfl (C.free_len) (by decide +kernel) (ae' (pv 2))) ah')))))) (cN' (bp' (fT' (b9' (ai' (cv' C) (hr.mono (by walk_at "4")) rfl (takes_of rfl rfl rfl rfl) (aa' (ae' (pv 3)) ah')))))))) (af' hH') aE')
      (af' (d9' (b9' (qV' (ae' (pv 0)) (el' C) (hr.mono (by decide)) C.ml_Machine_keep (takes_of rfl rfl rfl rfl) (aa' (ae' (pv 1)) (aa' (ae' (pv 2)) (aa' (ae' (pv 3)) ah'))))))))))), dj' F⟩
theorem tN' (C : Ctx Wd.w K mg) : Og Wd.P Wd.w K mg base 1 "led" ["machine", "state", "word"] (spM K M.f_led) := by
  obtain ⟨fd, F⟩ := C.f_led
  exact ⟨fd, okM F mw' rfl rfl (fun cdv A outer s H E hr =>
    (ab' (bq' (passes_of rfl) rfl (bJ' (ae' (pv 2))) (cF' 3 mw'.nd rfl (by walk_at "1") (by walk_at "2")) (af' (am' (i := 1) mw'.nd rfl (by walk_at "1") (bg' (co' ix_seq fu' (co' ix_seq fu' (jT' ["Machine"] (ae' (pv 0)) C.at_kept_table) (ae' (pv 1)) (fun _ _ => rfl)) (eb' PySem.F.slot_str_index PySem.F.type_str_index gO' m8' (jT' ["Machine"] (ae' (pv 0)) C.at_kept_letters) (aa' (ae' (pv 3)) ah')) (fun _ _ => rfl))))))
      (af' (az' (qU' (pv 1)))))), xr' F, F.kp, C.g_led⟩
theorem gF' (C : Ctx Wd.w K mg) : Og Wd.P Wd.w K mg base 3 "check_two" ["dealing"] (spM K M.f_check_two) := by
  obtain ⟨fd, F⟩ := C.f_check_two
  exact ⟨fd, okM F gx' rfl rfl (fun cdv A outer s H E hr =>
    (ab' (d9' (b9' (ai' (dM' C) (hr.mono (by walk_at "4")) rfl (takes_of rfl rfl rfl rfl) (aa' (ae' (pv 0)) ah'))))
      (af' (bd' (aK' (eh' hr.units) rl' (nomark _) (b9' (ai' (hT' C) (hr.mono (by walk_at "4")) rfl (takes_of rfl rfl rfl rfl) (aa' (ae' (pv 0)) ah'))) (be' [65, 66] (by decide +kernel) (by decide +kernel))) (af' (dW' rfl (takes_of rfl rfl rfl rfl) (dY' PySem.F.excBase_ValueError C.x_NoDealing C.g_NoDealing C.k_NoDealing C.r_NoDealing rfl))) aE')))), iB' F, F.kp, C.g_check_two⟩
end
end S
namespace S
open PySem PySem.Spec PyProof.Rows L2
section
variable [Wd] {K : PySem.W.Frag} {mg : Str -> Option Value} {base : Heap}
theorem b3' (C : Ctx Wd.w K mg) : Og Wd.P Wd.w K mg base 2 "check_writings" ["machine", "dealing", "hand", "thing"] (spM K M.f_check_writings) := by
  obtain ⟨fd, F⟩ := C.f_check_writings
  exact ⟨fd, okM F bX' rfl rfl (fun cdv A outer s H E hr =>
    (ab' (bd' (bp' (fT' (cO' "list" (by decide) rfl (C.free_isinstance) (by decide +kernel) (ae' (pv 3)) (pe_bltn (v := .ty "list") rfl (C.free_list) (by decide +kernel) rfl)))) (af' (dW' rfl (takes_of rfl rfl rfl rfl) (dY' PySem.F.excBase_ValueError C.x_NoWritings C.g_NoWritings C.k_NoWritings C.r_NoWritings rfl))) aE')
      (af' (bq' (passes_of rfl) rfl (bJ' (ae' (pv 3))) (cF' 4 bX'.nd rfl (by walk_at "1") (by walk_at "2")) (af' (bd' (jQ' (dK' (bp' (fT' (b9' (ai' (bL' C) (hr.mono (by walk_at "4")) rfl (takes_of rfl rfl rfl rfl) (aa' (ae' (pv 4)) (aa' (aC' aN' bH' (jT' ["Machine"] (ae' (pv 0)) C.at_kept_letters) (be' [46] (by decide +kernel) (by decide +kernel))) ah')))))) (cN' (aK' (eh' hr.units) rl' (nomark _) (c5' (aT' ⟨rfl, rfl⟩) dt' rfl (C.free_len) (by decide +kernel) (ae' (pv 4))) (eb' PySem.F.slot_str_count PySem.F.type_str_count mt_count h5' (ae' (pv 1)) (aa' (ae' (pv 2)) ah')))))) (af' (dW' rfl (takes_of rfl rfl rfl rfl) (dY' PySem.F.excBase_ValueError C.x_NoWritings C.g_NoWritings C.k_NoWritings C.r_NoWritings rfl))) aE')))))), dQ' F, F.kp, C.g_check_writings⟩
theorem mU' (C : Ctx Wd.w K mg) : Og Wd.P Wd.w K mg base 1 "row_of" ["dealing", "one", "other"] (spM K M.f_row_of) := by
  obtain ⟨fd, F⟩ := C.f_row_of
  exact ⟨fd, okM F bW' rfl rfl (fun cdv A outer s H E hr =>
    (ab' (am' (i := 3) bW'.nd rfl (by walk_at "1") (gv' ah'))
      (ab' (am' (i := 4) bW'.nd rfl (by walk_at "1") (bg' ac'))
      (ab' (bq' (passes_of rfl) rfl (qY' rfl (C.free_enumerate) (ae' (pv 0))) (v0' (n := 2) rfl rfl rfl rfl (b8' rfl (cF' 5 bW'.nd rfl (by walk_at "1") (by walk_at "2")) (b8' rfl (cF' 6 bW'.nd rfl (by walk_at "1") (by walk_at "2")) hK'))) (af' (bd' (aK' (bu' hr.units) fV' (nomark _) (ae' (pv 6)) (be' [65] (by decide +kernel) (by decide +kernel))) (ab' (c3' (pv 3) (bg' (co' ix_seq fu' (ae' (pv 1)) (ae' (pv 4)) (fun _ _ => rfl))))
      (af' (s9' (i := 4) bW'.nd rfl (by walk_at "1") ac' ip_add wf'))) (af' (c3' (pv 3) (bg' (co' ix_seq fu' (ae' (pv 2)) (aC' op_sub gK' (ae' (pv 5)) (ae' (pv 4))) (fun _ _ => rfl))))))))
      (af' (az' (bg' (eb' PySem.F.slot_str_join PySem.F.type_str_join mt_join gP' (be' [] (by decide +kernel) (by decide +kernel)) (aa' (ae' (pv 3)) ah'))))))))), pA' F, F.kp, C.g_row_of⟩
theorem gG' (C : Ctx Wd.w K mg) : Og Wd.P Wd.w K mg base 2 "answer_of" ["machine", "row"] (spM K M.f_answer_of) := by
  obtain ⟨fd, F⟩ := C.f_answer_of
  exact ⟨fd, okM F gy' rfl rfl (fun cdv A outer s H E hr =>
    (af' (az' (bg' (mv' qk' xH' (by rfl) (b9' (ai' (tN' C) (hr.mono (by walk_at "4")) rfl (takes_of rfl rfl rfl rfl) (aa' (ae' (pv 0)) (q4' (c := 46) (by rfl) (by rfl) (by decide) (ae' (pv 1)))))) (jT' ["Machine"] (ae' (pv 0)) C.at_kept_accepts)))))), iC' F, F.kp, C.g_answer_of⟩
theorem eZ' (C : Ctx Wd.w K mg) : Og Wd.P Wd.w K mg base 4 "answers" ["machine", "dealing", "ones", "others"] (spM K M.f_answers) := by
  obtain ⟨fd, F⟩ := C.f_answers
  exact ⟨fd, okM F bY' rfl rfl (fun cdv A outer s H E hr =>
    (ab' (d9' (b9' (ai' (gF' C) (hr.mono (by walk_at "4")) rfl (takes_of rfl rfl rfl rfl) (aa' (ae' (pv 1)) ah'))))
      (ab' (d9' (b9' (ai' (b3' C) (hr.mono (by walk_at "4")) rfl (takes_of rfl rfl rfl rfl) (aa' (ae' (pv 0)) (aa' (ae' (pv 1)) (aa' (be' [65] (by decide +kernel) (by decide +kernel)) (aa' (ae' (pv 2)) ah')))))))
      (ab' (d9' (b9' (ai' (b3' C) (hr.mono (by walk_at "4")) rfl (takes_of rfl rfl rfl rfl) (aa' (ae' (pv 0)) (aa' (ae' (pv 1)) (aa' (be' [66] (by decide +kernel) (by decide +kernel)) (aa' (ae' (pv 3)) ah')))))))
      (af' (az' (te' (own := [("one", 4)]) rfl bY'.nd (bJ' (ae' (pv 2))) (blkOk_by (own := [("one", 4)]) (N := eA') (sc := defScope bf') (by decide +kernel)) rfl (fun _ _ _ _ _ => (cF' 4 bY'.nd rfl (by walk_at "1") (by walk_at "2"))) (fun _ _ _ _ _ => bG') (fun _ _ _ _ _ => (qX' (own := [("other", 5)]) rfl bY'.nd (bJ' (ae' (pv 3))) (blkOk_by (own := [("other", 5)]) (N := eA') (by kernel_rfl)) rfl (fun _ _ _ _ _ => (cF' 5 bY'.nd rfl (by walk_at "1") (by walk_at "2"))) (fun _ _ _ _ _ => bG') (fun _ _ _ _ _ => (ck' a0' du' rfl (C.free_int) (by decide +kernel) (b9' (ai' (gG' C) (hr.mono (by walk_at "4")) rfl cE' (aa' (ae' (pv 0)) (aa' (b9' (ai' (mU' C) (hr.mono (by walk_at "4")) rfl cE' (aa' (ae' (pv 1)) (aa' (ae' (pv 4)) (aa' (ae' (pv 5)) ah'))))) ah'))))))))))))))), nO' F, F.kp, C.g_answers⟩
theorem gI' (C : Ctx Wd.w K mg) : Og Wd.P Wd.w K mg base 1 "_law_hand" ["_law_script"] (spM K M.f__law_hand) := by
  obtain ⟨fd, F⟩ := C.f__law_hand
  exact ⟨fd, okM F cr' rfl rfl (fun cdv A outer s H E hr =>
    (ab' (mm' (i := 1) (own := [("_law_cell", 2)]) rfl cr'.nd rfl rfl (sw_true (by rfl) (by rfl) (by rfl) (by decide +kernel)) (bJ' (mr' tf' tQ' (ae' (pv 0)) oo' (kx' ac'))) (blkOk_by (own := [("_law_cell", 2)]) (N := eC') (sc := defScope aS') (by decide +kernel)) rfl (fun _ _ _ _ _ => (cF' 2 cr'.nd rfl (by walk_at "1") (by walk_at "2"))) (fun _ _ _ _ _ => bG') (fun _ _ _ _ _ => (c5' nI' xo' rfl (C.free_abs) (by decide +kernel) (ck' a0' du' rfl (C.free_int) (by decide +kernel) (ae' (pv 2))))))
      (af' (az' (td' (aa' (ae' (pv 1)) (aa' ac' (aa' ac' (aa' (aC' aN' bH' ac' (ms' ⟨rfl, rfl⟩ rfl (C.free_len) (by decide +kernel) (ae' (pv 1)))) (aa' ac' ah')))))))))), iE' F, F.kp, C.g__law_hand⟩
theorem ak' (C : Ctx Wd.w K mg) : Og Wd.P Wd.w K mg base 1 "_law_draw" ["_law_hand_here", "_law_many"] (spM K M.f__law_draw) := by
  obtain ⟨fd, F⟩ := C.f__law_draw
  exact ⟨fd, okM F bo' rfl rfl (fun cdv A outer s H E hr =>
    (ab' (bd' (jQ' (jN' (aK' (bu' hr.units) fV' (nomark _) (bP' (ae' (pv 0)) ac' (fun _ _ => rfl)) ac') (fg' (aK' mR' wp' (nomark _) (bP' (ae' (pv 0)) ac' (fun _ _ => rfl)) (ms' ⟨rfl, rfl⟩ rfl (C.free_len) (by decide +kernel) (bP' (ae' (pv 0)) ac' (fun _ _ => rfl))))))) (ab' (am' (i := 2) bo'.nd rfl (by walk_at "1") (bg' (bP' (bP' (ae' (pv 0)) ac' (fun _ _ => rfl)) (bP' (ae' (pv 0)) ac' (fun _ _ => rfl)) (fun _ _ => rfl))))
      (ab' (bR' (aC' aN' bH' (bP' (ae' (pv 0)) ac' (fun _ _ => rfl)) ac') (ae' (pv 0)) ac')
      (ab' (bR' (aC' op_mod eI' (ck' a0' du' rfl (C.free_int) (by decide +kernel) (aC' aN' bH' (aC' aN' bH' (aC' cc' ft' (bP' (ae' (pv 0)) ac' (fun _ _ => rfl)) ac') (ae' (pv 2))) ac')) ac') (ae' (pv 0)) ac')
      (af' (bd' (aK' mT' wr' (nomark _) (ae' (pv 2)) (aC' op_pow wn' ac' ac')) (af' (bR' (ae' (pv 2)) (ae' (pv 0)) ac')) aE'))))) aE')
      (ab' (bd' (aK' mS' wq' (nomark _) (bP' (ae' (pv 0)) ac' (fun _ _ => rfl)) ac') (ab' (am' (i := 3) bo'.nd rfl (by walk_at "1") (bg' (aC' op_mod eI' (ck' a0' du' rfl (C.free_int) (by decide +kernel) (bP' (ae' (pv 0)) ac' (fun _ _ => rfl))) (ae' (pv 1)))))
      (ab' (bR' (aC' op_fdivW j7' (bP' (ae' (pv 0)) ac' (fun _ _ => rfl)) (ae' (pv 1))) (ae' (pv 0)) ac')
      (af' (az' (qU' (pv 3)))))) aE')
      (ab' (bR' (aC' aN' bH' (bP' (ae' (pv 0)) ac' (fun _ _ => rfl)) ac') (ae' (pv 0)) ac')
      (ab' (am' (i := 4) bo'.nd rfl (by walk_at "1") (bg' (aC' op_mod eI' (ck' a0' du' rfl (C.free_int) (by decide +kernel) (aC' cc' ft' (ck' a0' du' rfl (C.free_int) (by decide +kernel) (aC' aN' bH' (bP' (ae' (pv 0)) ac' (fun _ _ => rfl)) (aC' cc' ft' ac' (bP' (ae' (pv 0)) ac' (fun _ _ => rfl))))) ac')) ac')))
      (ab' (am' (i := 4) bo'.nd rfl (by walk_at "1") (bg' (aC' op_mod eI' (ck' a0' du' rfl (C.free_int) (by decide +kernel) (aC' cc' ft' (ae' (pv 4)) (aC' aN' bH' (aC' op_fdivW j7' (ae' (pv 4)) ac') ac'))) ac')))
      (ab' (am' (i := 4) bo'.nd rfl (by walk_at "1") (bg' (aC' op_mod eI' (ck' a0' du' rfl (C.free_int) (by decide +kernel) (aC' cc' ft' (ae' (pv 4)) (aC' aN' bH' (aC' op_fdivW j7' (ae' (pv 4)) ac') ac'))) ac')))
      (af' (az' (bg' (aC' op_mod eI' (ck' a0' du' rfl (C.free_int) (by decide +kernel) (aC' op_fdivW j7' (ae' (pv 4)) ac')) (ae' (pv 1))))))))))))), iF' F, F.kp, C.g__law_draw⟩
theorem cf' (C : Ctx Wd.w K mg) : Og Wd.P Wd.w K mg base 2 "_law_shuffled" ["_law_hand_here", "_law_things"] (spM K M.f__law_shuffled) := by
  obtain ⟨fd, F⟩ := C.f__law_shuffled
  exact ⟨fd, okM F bm' rfl rfl (fun cdv A outer s H E hr =>
    (ab' (am' (i := 2) bm'.nd rfl (by walk_at "1") (hJ' (bI' rfl) fz' rfl (C.free_list) (by decide +kernel) (ae' (pv 1))))
      (ab' (am' (i := 3) bm'.nd rfl (by walk_at "1") (gv' ah'))
      (ab' (bq' (passes_of rfl) rfl (a7' rfl (C.free_range) (c5' (aT' ⟨rfl, rfl⟩) dt' rfl (C.free_len) (by decide +kernel) (ae' (pv 1)))) (cF' 4 bm'.nd rfl (by walk_at "1") (by walk_at "2")) (af' (c3' (pv 3) (bg' (oy' (pv 2) (b9' (ai' (ak' C) (hr.mono (by walk_at "4")) rfl (takes_of rfl rfl rfl rfl) (aa' (ae' (pv 0)) (aa' (mt' ⟨rfl, rfl⟩ rfl (C.free_len) (by decide +kernel) (pv 2)) ah')))))))))
      (af' (az' (qU' (pv 3)))))))), ew' F, F.kp, C.g__law_shuffled⟩
theorem gH' (C : Ctx Wd.w K mg) : Og Wd.P Wd.w K mg base 3 "_law_rows" ["_law_hand_here", "_law_kind", "_law_size", "_law_many"] (spM K M.f__law_rows) := by
  obtain ⟨fd, F⟩ := C.f__law_rows
  exact ⟨fd, okM F au' rfl rfl (fun cdv A outer s H E hr =>
    (ab' (om' (i := 4) (own := [("_law_state", 9)]) rfl au'.nd rfl rfl (sw_true (by rfl) (by rfl) (by rfl) (by decide +kernel)) (a7' rfl (C.free_range) (ae' (pv 2))) (blkOk_by (own := [("_law_state", 9)]) (N := cd') (sc := defScope aM') (by decide +kernel)) rfl (fun _ _ _ _ _ => (cF' 9 au'.nd rfl (by walk_at "1") (by walk_at "2"))) (fun _ _ _ _ _ => bG') (fun _ _ _ _ _ => (b9' (tc' (qX' (own := [("_law_letter", 5)]) rfl au'.nd (a7' rfl (C.free_range) (ae' (pv 3))) (blkOk_by (own := [("_law_letter", 5)]) (N := cd') (by kernel_rfl)) rfl (fun _ _ _ _ _ => (cF' 5 au'.nd rfl (by walk_at "1") (by walk_at "2"))) (fun _ _ _ _ _ => bG') (fun _ _ _ _ _ => (b9' (ai' (ak' C) (hr.mono (by walk_at "4")) rfl cE' (aa' (ae' (pv 0)) (aa' (ae' (pv 2)) ah'))))))))))
      (ab' (bq' (passes_of rfl) rfl (a7' rfl (C.free_range) (ae' (pv 3))) (cF' 5 au'.nd rfl (by walk_at "1") (by walk_at "2")) (ab' (am' (i := 6) au'.nd rfl (by walk_at "1") (bg' (ae' (pv 1))))
      (ab' (bd' (aK' (bu' hr.units) fV' (nomark _) (ae' (pv 1)) ac') (af' (am' (i := 6) au'.nd rfl (by walk_at "1") (ai' (ak' C) (hr.mono (by walk_at "4")) rfl (takes_of rfl rfl rfl rfl) (aa' (ae' (pv 0)) (aa' ac' ah'))))) aE')
      (ab' (am' (i := 7) au'.nd rfl (by walk_at "1") (ai' (ak' C) (hr.mono (by walk_at "4")) rfl (takes_of rfl rfl rfl rfl) (aa' (ae' (pv 0)) (aa' (ae' (pv 2)) ah'))))
      (ab' (am' (i := 8) au'.nd rfl (by walk_at "1") (ai' (cf' C) (hr.mono (by walk_at "4")) rfl (takes_of rfl rfl rfl rfl) (aa' (ae' (pv 0)) (aa' (b9' (ky' rfl rfl (C.free_list) rfl (C.free_range) (ae' (pv 2)))) ah'))))
      (af' (bq' (passes_of rfl) rfl (a7' rfl (C.free_range) (ae' (pv 2))) (cF' 9 au'.nd rfl (by walk_at "1") (by walk_at "2")) (ab' (bd' (aK' (bu' hr.units) fV' (nomark _) (ae' (pv 6)) ac') (af' (bR' (aC' op_mod eI' (ck' a0' du' rfl (C.free_int) (by decide +kernel) (aC' aN' bH' (ae' (pv 9)) (ae' (pv 7)))) (ae' (pv 2))) (co' ix_seq fu' (ae' (pv 4)) (ae' (pv 9)) (fun _ _ => rfl)) (ae' (pv 5)))) aE')
      (ab' (bd' (aK' (bu' hr.units) fV' (nomark _) (ae' (pv 6)) ac') (af' (bR' (q0' (kT' rfl) u9' rfl (C.free_min) (by decide +kernel) (aC' op_sub gK' (ae' (pv 2)) ac') (aC' aN' bH' (ae' (pv 9)) (ae' (pv 7)))) (co' ix_seq fu' (ae' (pv 4)) (ae' (pv 9)) (fun _ _ => rfl)) (ae' (pv 5)))) aE')
      (ab' (bd' (aK' (bu' hr.units) fV' (nomark _) (ae' (pv 6)) ac') (af' (bR' (co' ix_seq fu' (ae' (pv 8)) (ae' (pv 9)) (fun _ _ => rfl)) (co' ix_seq fu' (ae' (pv 4)) (ae' (pv 9)) (fun _ _ => rfl)) (ae' (pv 5)))) aE')
      (af' (bd' (aK' (bu' hr.units) fV' (nomark _) (ae' (pv 6)) ac') (ab' (bR' (aC' op_sub gK' (ae' (pv 2)) ac') (co' ix_seq fu' (ae' (pv 4)) (ae' (pv 9)) (fun _ _ => rfl)) (ae' (pv 5)))
      (af' (bd' (jQ' (jN' (aK' mR' wp' (nomark _) (ae' (pv 9)) (aC' op_sub gK' (ae' (pv 2)) ac')) (fg' (aK' (bu' hr.units) fV' (nomark _) (aC' op_mod eI' (ck' a0' du' rfl (C.free_int) (by decide +kernel) (ae' (pv 9))) (ae' (pv 3))) (ae' (pv 5)))))) (af' (bR' (aC' op_mod eI' (ck' a0' du' rfl (C.free_int) (by decide +kernel) (aC' aN' bH' (ae' (pv 9)) ac')) (aC' op_sub gK' (ae' (pv 2)) ac')) (co' ix_seq fu' (ae' (pv 4)) (ae' (pv 9)) (fun _ _ => rfl)) (ae' (pv 5)))) aE'))) aE'))))))))))))
      (af' (az' (bg' (ck' (cZ' rfl) nJ' rfl (C.free_tuple) (by decide +kernel) (mu' (own := [("_law_row", 10)]) rfl au'.nd (bJ' (ae' (pv 4))) (blkOk_by (own := [("_law_row", 10)]) (N := cd') (sc := defScope aM') (by decide +kernel)) rfl (fun _ _ _ _ _ => (cF' 10 au'.nd rfl (by walk_at "1") (by walk_at "2"))) (fun _ _ _ _ _ => bG') (fun _ _ _ _ _ => (qZ' rfl (C.free_tuple) (by decide +kernel) (cZ' rfl) (ae' (pv 10)))))))))))), iD' F, F.kp, C.g__law_rows⟩
theorem fs' (C : Ctx Wd.w K mg) : Og Wd.P Wd.w K mg base 4 "_law_parts" ["_law_hand_here", "_law_fewest", "_law_most", "_law_states"] (spM K M.f__law_parts) := by
  obtain ⟨fd, F⟩ := C.f__law_parts
  exact ⟨fd, okM F aA' rfl rfl (fun cdv A outer s H E hr =>
    (ab' (am' (i := 4) aA'.nd rfl (by walk_at "1") (ai' (ak' C) (hr.mono (by walk_at "4")) rfl (takes_of rfl rfl rfl rfl) (aa' (ae' (pv 0)) (aa' ac' ah'))))
      (ab' (am' (i := 5) aA'.nd rfl (by walk_at "1") (bg' (aC' aN' bH' (ae' (pv 1)) (b9' (ai' (ak' C) (hr.mono (by walk_at "4")) rfl (takes_of rfl rfl rfl rfl) (aa' (ae' (pv 0)) (aa' (aC' aN' bH' (aC' op_sub gK' (ae' (pv 2)) (ae' (pv 1))) ac') ah')))))))
      (ab' (am' (i := 6) aA'.nd rfl (by walk_at "1") (bg' (aC' aN' bH' ac' (b9' (ai' (ak' C) (hr.mono (by walk_at "4")) rfl (takes_of rfl rfl rfl rfl) (aa' (ae' (pv 0)) (aa' (ae' (pv 3)) ah')))))))
      (ab' (bd' (aK' mS' wq' (nomark _) (ae' (pv 4)) ac') (af' (am' (i := 6) aA'.nd rfl (by walk_at "1") (bg' (q0' (e5' rfl) qx' rfl (C.free_max) (by decide +kernel) ac' (ae' (pv 6)))))) aE')
      (ab' (am' (i := 7) aA'.nd rfl (by walk_at "1") (ai' (cf' C) (hr.mono (by walk_at "4")) rfl (takes_of rfl rfl rfl rfl) (aa' (ae' (pv 0)) (aa' (ck' (bI' rfl) nK' rfl (C.free_list) (by decide +kernel) (be' [97, 98, 99, 100, 101, 102, 103, 104, 105, 106, 107, 108, 109, 110, 111, 112, 113, 114, 115, 116, 117, 118, 119, 120, 121, 122] (by decide +kernel) (by decide +kernel))) ah'))))
      (ab' (am' (i := 8) aA'.nd rfl (by walk_at "1") (bg' (eb' PySem.F.slot_str_join PySem.F.type_str_join mt_join gP' (be' [] (by decide +kernel) (by decide +kernel)) (aa' (c5' (kS' rfl) px' rfl (C.free_sorted) (by decide +kernel) (mr' tf' tQ' (ae' (pv 7)) oo' (kx' (ae' (pv 5))))) ah'))))
      (ab' (am' (i := 9) aA'.nd rfl (by walk_at "1") (ai' (gH' C) (hr.mono (by walk_at "4")) rfl (takes_of rfl rfl rfl rfl) (aa' (ae' (pv 0)) (aa' (ae' (pv 4)) (aa' (ae' (pv 6)) (aa' (ae' (pv 5)) ah'))))))
      (ab' (am' (i := 10) aA'.nd rfl (by walk_at "1") (bg' (ck' (cZ' rfl) nJ' rfl (C.free_tuple) (by decide +kernel) (mu' (own := [("_law_state", 11)]) rfl aA'.nd (a7' rfl (C.free_range) (ae' (pv 6))) (blkOk_by (own := [("_law_state", 11)]) (N := dI') (sc := defScope aI') (by decide +kernel)) rfl (fun _ _ _ _ _ => (cF' 11 aA'.nd rfl (by walk_at "1") (by walk_at "2"))) (fun _ _ _ _ _ => (on' (aK' (bu' hr.units) fV' (nomark _) (b9' (ai' (ak' C) (hr.mono (by walk_at "4")) rfl cE' (aa' (ae' (pv 0)) (aa' ac' ah')))) ac'))) (fun _ _ _ _ _ => (ae' (pv 11)))))))
      (af' (az' (bg' (th' (aa' (ae' (pv 8)) (aa' (ae' (pv 9)) (aa' (ae' (pv 10)) ah')))))))))))))))), ht' F, F.kp, C.g__law_parts⟩
theorem hU' (C : Ctx Wd.w K mg) : Og Wd.P Wd.w K mg base 1 "_law_led" ["_law_letters", "_law_rows_here", "_law_state", "_law_word"] (spM K M.f__law_led) := by
  obtain ⟨fd, F⟩ := C.f__law_led
  exact ⟨fd, okM F cT' rfl rfl (fun cdv A outer s H E hr =>
    (ab' (bq' (passes_of rfl) rfl (bJ' (ae' (pv 3))) (cF' 4 cT'.nd rfl (by walk_at "1") (by walk_at "2")) (af' (am' (i := 2) cT'.nd rfl (by walk_at "1") (bg' (co' ix_seq fu' (co' ix_seq fu' (ae' (pv 1)) (ae' (pv 2)) (fun _ _ => rfl)) (eb' PySem.F.slot_str_find PySem.F.type_str_find mt_find tX' (ae' (pv 0)) (aa' (ae' (pv 4)) ah')) (fun _ _ => rfl))))))
      (af' (az' (qU' (pv 2)))))), kX' F, F.kp, C.g__law_led⟩
theorem ek' (C : Ctx Wd.w K mg) : Og Wd.P Wd.w K mg base 2 "_law_dealing" ["_law_hand_here", "_law_many"] (spM K M.f__law_dealing) := by
  obtain ⟨fd, F⟩ := C.f__law_dealing
  exact ⟨fd, okM F aZ' rfl rfl (fun cdv A outer s H E hr =>
    (ab' (am' (i := 2) aZ'.nd rfl (by walk_at "1") (ai' (ak' C) (hr.mono (by walk_at "4")) rfl (takes_of rfl rfl rfl rfl) (aa' (ae' (pv 0)) (aa' ac' ah'))))
      (ab' (bd' (aK' (bu' hr.units) fV' (nomark _) (ae' (pv 2)) ac') (af' (az' (bg' (aC' cc' ft' (be' [65] (by decide +kernel) (by decide +kernel)) (ae' (pv 1)))))) aE')
      (ab' (bd' (aK' (bu' hr.units) fV' (nomark _) (ae' (pv 2)) ac') (af' (az' (bg' (aC' cc' ft' (be' [66] (by decide +kernel) (by decide +kernel)) (ae' (pv 1)))))) aE')
      (ab' (bd' (aK' (bu' hr.units) fV' (nomark _) (ae' (pv 2)) ac') (af' (az' (bg' (eb' PySem.F.slot_str_join PySem.F.type_str_join mt_join gP' (be' [] (by decide +kernel) (by decide +kernel)) (aa' (mu' (own := [("_law_k", 3)]) rfl aZ'.nd (a7' rfl (C.free_range) (ae' (pv 1))) (blkOk_by (own := [("_law_k", 3)]) (N := bV') (sc := defScope ap') (by decide +kernel)) rfl (fun _ _ _ _ _ => (cF' 3 aZ'.nd rfl (by walk_at "1") (by walk_at "2"))) (fun _ _ _ _ _ => bG') (fun _ _ _ _ _ => (co' ix_seq fu' (be' [65, 66] (by decide +kernel) (by decide +kernel)) (aC' op_mod eI' (ae' (pv 3)) ac') (fun _ _ => rfl)))) ah'))))) aE')
      (af' (az' (bg' (eb' PySem.F.slot_str_join PySem.F.type_str_join mt_join gP' (be' [] (by decide +kernel) (by decide +kernel)) (aa' (mu' (own := [("_law_k", 3)]) rfl aZ'.nd (a7' rfl (C.free_range) (ae' (pv 1))) (blkOk_by (own := [("_law_k", 3)]) (N := bV') (sc := defScope ap') (by decide +kernel)) rfl (fun _ _ _ _ _ => (cF' 3 aZ'.nd rfl (by walk_at "1") (by walk_at "2"))) (fun _ _ _ _ _ => bG') (fun _ _ _ _ _ => (co' ix_seq fu' (be' [65, 66] (by decide +kernel) (by decide +kernel)) (b9' (ai' (ak' C) (hr.mono (by walk_at "4")) rfl cE' (aa' (ae' (pv 0)) (aa' ac' ah')))) (fun _ _ => rfl)))) ah')))))))))), eN' F, F.kp, C.g__law_dealing⟩
theorem ce' (C : Ctx Wd.w K mg) : Og Wd.P Wd.w K mg base 2 "_law_writings" ["_law_hand_here", "_law_letters", "_law_many", "_law_most"] (spM K M.f__law_writings) := by
  obtain ⟨fd, F⟩ := C.f__law_writings
  exact ⟨fd, okM F aL' rfl rfl (fun cdv A outer s H E hr =>
    (ab' (am' (i := 4) aL'.nd rfl (by walk_at "1") (gv' ah'))
      (ab' (bq' (passes_of rfl) rfl (a7' rfl (C.free_range) (b9' (ai' (ak' C) (hr.mono (by walk_at "4")) rfl (takes_of rfl rfl rfl rfl) (aa' (ae' (pv 0)) (aa' (aC' aN' bH' (ae' (pv 3)) ac') ah'))))) (cF' 5 aL'.nd rfl (by walk_at "1") (by walk_at "2")) (ab' (am' (i := 6) aL'.nd rfl (by walk_at "1") (ai' (ak' C) (hr.mono (by walk_at "4")) rfl (takes_of rfl rfl rfl rfl) (aa' (ae' (pv 0)) (aa' ac' ah'))))
      (ab' (am' (i := 7) aL'.nd rfl (by walk_at "1") (bg' (aC' aN' bH' (ae' (pv 1)) (aC' cc' ft' (be' [46] (by decide +kernel) (by decide +kernel)) (aC' aN' bH' ac' (aC' cc' ft' ac' (ae' (pv 6))))))))
      (af' (c3' (pv 4) (bg' (eb' PySem.F.slot_str_join PySem.F.type_str_join mt_join gP' (be' [] (by decide +kernel) (by decide +kernel)) (aa' (mu' (own := [("_law_k", 8)]) rfl aL'.nd (a7' rfl (C.free_range) (ae' (pv 2))) (blkOk_by (own := [("_law_k", 8)]) (N := cC') (sc := defScope an') (by decide +kernel)) rfl (fun _ _ _ _ _ => (cF' 8 aL'.nd rfl (by walk_at "1") (by walk_at "2"))) (fun _ _ _ _ _ => bG') (fun _ _ _ _ _ => (co' ix_seq fu' (ae' (pv 7)) (b9' (ai' (ak' C) (hr.mono (by walk_at "4")) rfl cE' (aa' (ae' (pv 0)) (aa' (c5' (aT' ⟨rfl, rfl⟩) dt' rfl (C.free_len) (by decide +kernel) (ae' (pv 7))) ah')))) (fun _ _ => rfl)))) ah'))))))))
      (ab' (bd' (jQ' (jN' (aK' mS' wq' (nomark _) (mt' ⟨rfl, rfl⟩ rfl (C.free_len) (by decide +kernel) (pv 4)) ac') (fg' (aK' (bu' hr.units) fV' (nomark _) (b9' (ai' (ak' C) (hr.mono (by walk_at "4")) rfl (takes_of rfl rfl rfl rfl) (aa' (ae' (pv 0)) (aa' ac' ah')))) ac')))) (af' (qR' (tl' (pv 4) ac' (fun _ _ => rfl)) (pv 4) (v1' un_neg wo' ac'))) aE')
      (af' (az' (qU' (pv 4)))))))), ev' F, F.kp, C.g__law_writings⟩
end
end S
namespace S
open PySem PySem.Spec PyProof.Rows L2
section
variable [Wd] {K : PySem.W.Frag} {mg : Str -> Option Value} {base : Heap}
theorem eH' (C : Ctx Wd.w K mg) : Og Wd.P Wd.w K mg base 1 "_law_joined" ["_law_dealing_here", "_law_one", "_law_other"] (spM K M.f__law_joined) := by
  obtain ⟨fd, F⟩ := C.f__law_joined
  exact ⟨fd, okM F aO' rfl rfl (fun cdv A outer s H E hr =>
    (ab' (am' (i := 3) aO'.nd rfl (by walk_at "1") (bg' (be' [] (by decide +kernel) (by decide +kernel))))
      (ab' (am' (i := 4) aO'.nd rfl (by walk_at "1") (bg' ac'))
      (ab' (bq' (passes_of rfl) rfl (a7' rfl (C.free_range) (c5' (aT' ⟨rfl, rfl⟩) dt' rfl (C.free_len) (by decide +kernel) (ae' (pv 0)))) (cF' 5 aO'.nd rfl (by walk_at "1") (by walk_at "2")) (ab' (am' (i := 6) aO'.nd rfl (by walk_at "1") (bg' (mr' tf' tQ' (ae' (pv 2)) (kx' (aC' op_sub gK' (ae' (pv 5)) (ae' (pv 4)))) (kx' (aC' aN' bH' (aC' op_sub gK' (ae' (pv 5)) (ae' (pv 4))) ac')))))
      (ab' (bd' (aK' (bu' hr.units) fV' (nomark _) (co' ix_seq fu' (ae' (pv 0)) (ae' (pv 5)) (fun _ _ => rfl)) (be' [65] (by decide +kernel) (by decide +kernel))) (ab' (am' (i := 6) aO'.nd rfl (by walk_at "1") (bg' (co' ix_seq fu' (ae' (pv 1)) (ae' (pv 4)) (fun _ _ => rfl))))
      (af' (am' (i := 4) aO'.nd rfl (by walk_at "1") (bg' (aC' aN' bH' (ae' (pv 4)) ac'))))) aE')
      (af' (bd' (aK' (eh' hr.units) rl' (nomark _) (ae' (pv 6)) (be' [46] (by decide +kernel) (by decide +kernel))) (af' (am' (i := 3) aO'.nd rfl (by walk_at "1") (bg' (aC' aN' bH' (ae' (pv 3)) (ae' (pv 6)))))) aE')))))
      (af' (az' (qU' (pv 3)))))))), fO' F, F.kp, C.g__law_joined⟩
theorem hV' (C : Ctx Wd.w K mg) : Og Wd.P Wd.w K mg base 2 "_law_due" ["_law_letters", "_law_table", "_law_accepts", "_law_dealing_here", "_law_ones", "_law_others"] (spM K M.f__law_due) := by
  obtain ⟨fd, F⟩ := C.f__law_due
  exact ⟨fd, okM F bw' rfl rfl (fun cdv A outer s H E hr =>
    (ab' (am' (i := 6) bw'.nd rfl (by walk_at "1") (gv' ah'))
      (ab' (bq' (passes_of rfl) rfl (bJ' (ae' (pv 4))) (cF' 7 bw'.nd rfl (by walk_at "1") (by walk_at "2")) (ab' (am' (i := 8) bw'.nd rfl (by walk_at "1") (gv' ah'))
      (ab' (bq' (passes_of rfl) rfl (bJ' (ae' (pv 5))) (cF' 9 bw'.nd rfl (by walk_at "1") (by walk_at "2")) (ab' (am' (i := 10) bw'.nd rfl (by walk_at "1") (ai' (hU' C) (hr.mono (by walk_at "4")) rfl (takes_of rfl rfl rfl rfl) (aa' (ae' (pv 0)) (aa' (ae' (pv 1)) (aa' ac' (aa' (b9' (ai' (eH' C) (hr.mono (by walk_at "4")) rfl (takes_of rfl rfl rfl rfl) (aa' (ae' (pv 3)) (aa' (ae' (pv 7)) (aa' (ae' (pv 9)) ah'))))) ah'))))))
      (af' (c3' (pv 8) (bg' (ck' a0' du' rfl (C.free_int) (by decide +kernel) (mv' qk' xH' (by rfl) (ae' (pv 10)) (ae' (pv 2)))))))))
      (af' (c3' (pv 6) (bg' (ae' (pv 8))))))))
      (af' (az' (qU' (pv 6))))))), kY' F, F.kp, C.g__law_due⟩
theorem cP' (C : Ctx Wd.w K mg) : Og Wd.P Wd.w K mg base 1 "_law_is_due" ["_law_found", "_law_due_here"] (spM K M.f__law_is_due) := by
  obtain ⟨fd, F⟩ := C.f__law_is_due
  exact ⟨fd, okM F bS' rfl rfl (fun cdv A outer s H E hr =>
    (ab' (bd' (jQ' (dK' (bp' (fT' (cO' "list" (by decide) rfl (C.free_isinstance) (by decide +kernel) (ae' (pv 0)) (pe_bltn (v := .ty "list") rfl (C.free_list) (by decide +kernel) rfl)))) (cN' (aK' (eh' hr.units) rl' (nomark _) (c5' (aT' ⟨rfl, rfl⟩) dt' rfl (C.free_len) (by decide +kernel) (ae' (pv 0))) (c5' (aT' ⟨rfl, rfl⟩) dt' rfl (C.free_len) (by decide +kernel) (ae' (pv 1))))))) (af' (az' (bg' cp'))) aE')
      (ab' (bq' (passes_of rfl) rfl (bJ' (ae' (pv 0))) (cF' 2 bS'.nd rfl (by walk_at "1") (by walk_at "2")) (ab' (bd' (bp' (fT' (cO' "list" (by decide) rfl (C.free_isinstance) (by decide +kernel) (ae' (pv 2)) (pe_bltn (v := .ty "list") rfl (C.free_list) (by decide +kernel) rfl)))) (af' (az' (bg' cp'))) aE')
      (af' (bq' (passes_of rfl) rfl (bJ' (ae' (pv 2))) (cF' 3 bS'.nd rfl (by walk_at "1") (by walk_at "2")) (af' (bd' (jQ' (dK' (bp' (fT' (cO' "int" (by decide) rfl (C.free_isinstance) (by decide +kernel) (ae' (pv 3)) (pe_bltn (v := .ty "int") rfl (C.free_int) (by decide +kernel) rfl)))) (cN' (fT' (cO' "bool" (by decide) rfl (C.free_isinstance) (by decide +kernel) (ae' (pv 3)) (pe_bltn (v := .ty "bool") rfl (C.free_bool) (by decide +kernel) rfl)))))) (af' (az' (bg' cp'))) aE'))))))
      (af' (az' (bg' (mv' (bu' hr.units) fV' (nomark _) (ae' (pv 0)) (ae' (pv 1))))))))), fP' F, F.kp, C.g__law_is_due⟩
end
end S
namespace S
open PySem PySem.Spec PyProof.Rows L2
section
variable [Wd] {K : PySem.W.Frag} {mg : Str -> Option Value} {base : Heap}
theorem ul' (C : Ctx Wd.w K mg) {fd : FuncData} (F : FunD K "law" "law" (defArgs eG') (defBody eG') (defScope eG') [] [] (He.ga K "law") fd) : FnG Wd.P Wd.w K mg base (L2.CX Wd.P Wd.w) 6 (He.ga K "law") fd ["_law_script"] (spM K M.f_law) :=
  okM F bB' rfl rfl (fun cdv A outer s H E hr =>
    (ab' (am' (i := 1) bB'.nd rfl (by walk_at "1") (ai' (gI' C) (hr.mono (by walk_at "4")) rfl (takes_of rfl rfl rfl rfl) (aa' (ae' (pv 0)) ah')))
      (ab' (ta' (b9' (ai' (fs' C) (hr.mono (by walk_at "4")) rfl (takes_of rfl rfl rfl rfl) (aa' (ae' (pv 1)) (aa' ac' (aa' ac' (aa' ac' ah')))))) (v0' (n := 3) rfl rfl rfl rfl (b8' rfl (cF' 2 bB'.nd rfl (by walk_at "1") (by walk_at "2")) (b8' rfl (cF' 3 bB'.nd rfl (by walk_at "1") (by walk_at "2")) (b8' rfl (cF' 4 bB'.nd rfl (by walk_at "1") (by walk_at "2")) hK')))))
      (ab' (am' (i := 5) bB'.nd rfl (by walk_at "1") (qW' (cW' C) (hr.mono (by decide)) rfl C.mk_Machine C.g_Machine (takes_of rfl rfl rfl rfl) (aa' (ae' (pv 2)) (aa' (ae' (pv 3)) (aa' (ae' (pv 4)) ah')))))
      (ab' (bq' (passes_of rfl) rfl (a7' rfl (C.free_range) ac') (cF' 6 bB'.nd rfl (by walk_at "1") (by walk_at "2")) (ab' (am' (i := 7) bB'.nd rfl (by walk_at "1") (bg' (aC' aN' bH' ac' (b9' (ai' (ak' C) (hr.mono (by walk_at "4")) rfl (takes_of rfl rfl rfl rfl) (aa' (ae' (pv 1)) (aa' ac' ah')))))))
      (ab' (bd' (jQ' (jN' (aK' (bu' hr.units) fV' (nomark _) (ae' (pv 6)) ac') (fg' (aK' (bu' hr.units) fV' (nomark _) (b9' (ai' (ak' C) (hr.mono (by walk_at "4")) rfl (takes_of rfl rfl rfl rfl) (aa' (ae' (pv 1)) (aa' ac' ah')))) ac')))) (af' (am' (i := 7) bB'.nd rfl (by walk_at "1") (bg' (aC' aN' bH' ac' (b9' (ai' (ak' C) (hr.mono (by walk_at "4")) rfl (takes_of rfl rfl rfl rfl) (aa' (ae' (pv 1)) (aa' ac' ah')))))))) aE')
      (ab' (am' (i := 8) bB'.nd rfl (by walk_at "1") (ai' (ek' C) (hr.mono (by walk_at "4")) rfl (takes_of rfl rfl rfl rfl) (aa' (ae' (pv 1)) (aa' (ae' (pv 7)) ah'))))
      (ab' (am' (i := 9) bB'.nd rfl (by walk_at "1") (ai' (ce' C) (hr.mono (by walk_at "4")) rfl (takes_of rfl rfl rfl rfl) (aa' (ae' (pv 1)) (aa' (ae' (pv 2)) (aa' (eb' PySem.F.slot_str_count PySem.F.type_str_count mt_count h5' (ae' (pv 8)) (aa' (be' [65] (by decide +kernel) (by decide +kernel)) ah')) (aa' ac' ah'))))))
      (ab' (am' (i := 10) bB'.nd rfl (by walk_at "1") (ai' (ce' C) (hr.mono (by walk_at "4")) rfl (takes_of rfl rfl rfl rfl) (aa' (ae' (pv 1)) (aa' (ae' (pv 2)) (aa' (eb' PySem.F.slot_str_count PySem.F.type_str_count mt_count h5' (ae' (pv 8)) (aa' (be' [66] (by decide +kernel) (by decide +kernel)) ah')) (aa' ac' ah'))))))
      (ab' (am' (i := 11) bB'.nd rfl (by walk_at "1") (ai' (hV' C) (hr.mono (by walk_at "4")) rfl (takes_of rfl rfl rfl rfl) (aa' (ae' (pv 2)) (aa' (ae' (pv 3)) (aa' (ae' (pv 4)) (aa' (ae' (pv 8)) (aa' (ae' (pv 9)) (aa' (ae' (pv 10)) ah'))))))))
      (ab' (am' (i := 12) bB'.nd rfl (by walk_at "1") (hJ' (bI' rfl) fz' rfl (C.free_list) (by decide +kernel) (ae' (pv 9))))
      (ab' (am' (i := 13) bB'.nd rfl (by walk_at "1") (hJ' (bI' rfl) fz' rfl (C.free_list) (by decide +kernel) (ae' (pv 10))))
      (ab' (am' (i := 14) bB'.nd rfl (by walk_at "1") (ou' [false, false, false, false, false, true, false, false, true, false, false, false, true, true] (ai' (eZ' C) (hr.mono (by walk_at "4")) rfl (takes_of rfl rfl rfl rfl) (aa' (ae' (pv 5)) (aa' (ae' (pv 8)) (aa' (ae' (pv 12)) (aa' (ae' (pv 13)) ah')))))))
      (ab' (bd' (s8' [false, false, false, false, false, false, false, false, false, true, true, true, true, true, true] (jQ' (dK' (bp' (fT' (b9' (ai' (cP' C) (hr.mono (by walk_at "4")) rfl (takes_of rfl rfl rfl rfl) (aa' (ae' (pv 14)) (aa' (ae' (pv 11)) ah')))))) (dK' (aK' (eh' hr.units) rl' (nomark _) (ae' (pv 12)) (ae' (pv 9))) (cN' (aK' (eh' hr.units) rl' (nomark _) (ae' (pv 13)) (ae' (pv 10)))))))) (af' (az' (bg' cp'))) aE')
      (ab' (qS' (passes_of rfl) rfl (pv 14) (pg_name (i := 15) bB'.nd rfl (by walk_at "1") (by walk_at "2")) (pv 15) pe_int (fun _ _ => .int _) (by decide))
      (ab' (c3' (pv 14) (bg' (tj' (aa' ac' ah'))))
      (ab' (c3' (pv 12) (bg' (be' [] (by decide +kernel) (by decide +kernel))))
      (ab' (c3' (pv 13) (bg' (be' [] (by decide +kernel) (by decide +kernel))))
      (af' (bd' (bp' (fT' (b9' (ai' (cP' C) (hr.mono (by walk_at "4")) rfl (takes_of rfl rfl rfl rfl) (aa' (b9' (ai' (eZ' C) (hr.mono (by walk_at "4")) rfl (takes_of rfl rfl rfl rfl) (aa' (ae' (pv 5)) (aa' (ae' (pv 8)) (aa' (ck' (bI' rfl) nK' rfl (C.free_list) (by decide +kernel) (ae' (pv 9))) (aa' (ck' (bI' rfl) nK' rfl (C.free_list) (by decide +kernel) (ae' (pv 10))) ah')))))) (aa' (ae' (pv 11)) ah')))))) (af' (az' (bg' cp'))) aE')))))))))))))))))
      (af' (az' (bg' cp'))))))))
end
end S
open PySem PySem.W PySem.Calls PyProof.Rows
set_option maxRecDepth 100000 in
set_option maxHeartbeats 0 in
theorem PySem.Challenge.cw_saidacross_k65_answers_of_writings_holds : PySem.Challenge.rw_saidacross_k65_answers_of_writings.Holds := by
  w_on; o_law
  refine HandSHeadRun.head_any (r := OpenLaw.row PySem.Challenge.rw_saidacross_k65_answers_of_writings) (q := view (OpenLaw.row PySem.Challenge.rw_saidacross_k65_answers_of_writings).prog [38]) (H := S.hk) (ob := S.ob) (loose := S.loose) (d := HandSHeadRun.topDef (OpenLaw.row PySem.Challenge.rw_saidacross_k65_answers_of_writings).prog 38) (kwd := []) S.wm'
    (by kernel_rfl) (fun s => by kernel_rfl) S.run (by kernel_rfl) (by kernel_rfl) (by kernel_rfl) (by rfl) (by first | assumption | decide +kernel) (by decide +kernel) ⟨rfl, rfl, rfl, rfl, rfl, by decide +kernel⟩ ?hw ?hc
  case hw => w_witness2
  case hc =>
    refine S.n2' (l := PySem.Challenge.rw_saidacross_k65_answers_of_writings) (n := 63) (k := 6) (x := "_law_script") (CX := L2.CX0) rfl (by decide) (by kernel_rfl) ⟨rfl, by decide, by decide⟩ ?F (fun H s e s' z => z)
    intro w mg fa h Y G hmg0
    obtain ⟨K, KX, c⟩ := Y
    letI : S.Wd := ⟨(PySem.Challenge.rw_saidacross_k65_answers_of_writings).prog, w, []⟩
    have C : S.Ctx S.Wd.w K mg := ⟨⟨_, c⟩, h, KX, G⟩
    have hmg : mg ("law" : PySem.Str) = some (.ref fa) := by
      have e : (HandSHeadRun.topDef (OpenLaw.row PySem.Challenge.rw_saidacross_k65_answers_of_writings).prog 38).name = ("law" : PySem.Str) := by kernel_rfl
      rw [<- e]
      exact hmg0
    obtain rfl : fa = He.ga K "law" := by
      have e := C.g_law
      rw [hmg] at e
      exact PySem.Value.ref.inj (Option.some.inj e)
    obtain ⟨fd, F⟩ := C.f_law
    refine ⟨K, fd, fun vs H Q _ => S.spM K M.f_law vs H Q L2.E0, KX, fun s u => ?_, ?_, fun base X N => ?_⟩
    . exact F.bindsA (ps := ["_law_script"]) (fun _ _ _ _ _ _ us hl => match us, hl with | [_], _ => rfl) s [u] rfl
    . intro H a ns hn _ hs
      exact S.nk' K H (fun p z => absurd (show p ∈ ([] : List (Addr × Str)) from z) List.not_mem_nil) a ns hn hs M.law_true
    . exact S.FnG.to0 (S.ul' (base := base) C F)
