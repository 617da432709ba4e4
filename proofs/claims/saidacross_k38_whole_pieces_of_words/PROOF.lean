import PyProof.Rows.All
import Wide.All
import OpenK.AllK
import Wide.FinOn
import KE.KStateDown
import KE.GoesNew
import HandS.ForMost
import HandS.Exc
import HandS.TryOnly
import HandS.TryMany
import HandS.ExcOwn
import HandS.ExcBuiltin
import HandS.Small
import HandS.WordsExc
import HandS.IsInst
import HandS.StrMore
import HandS.TupAny
import HandS.Zip
import HandS.Defaults
import HandS.Head0
import HandS.Head1
import HandS.Head2
import HandS.HeadEnd
import HandS.HeadHook1
import HandS.HeadHook2
import HandS.Walk
import KE.GoesMore
import HandS.Iter
import PyProof.CollectStr
import HandS.Conv
import PyProof.ListStr
import PyProof.TupleOfStr
import HandS.Lambda
import HandS.Style
import KE.KDictKeyed
import HandS.Wide
import KE.KTupTabMore
import HandS.Rev
import HandS.RevRange
import HandS.SortInts
import HandS.ExcIs
import HandS.ExcField
import HandS.Rindex
import HandS.HeadHook4
import PyProof.StrLawsFrom
import PyProof.Rows.RegReprOcc
import PyProof.Rows.StrLast
import KE.KDictDisplayH
import HandS.SetKeys
import HandS.DictComp
import HandS.More
import PyProof.ReprBulk
import PyProof.ReprRoads
import PyProof.CallFns
import PyProof.RowDictHeap
import PyProof.Rows.StrRev
import KE.KRevSl
import HandS.Deep
import HandS.Call
import KE.KExcSuper
import HandS.TupMul
import HandS.ReplaceLit
import HandS.ReplaceList
import KE.KDictZip
import PyProof.ListNew
import HandS.ListItems
import HandS.Zip0
import HandS.TupSets
import KE.SortKeyHeap
import KE.KLam
import HandS.SortKw
import HandS.EndTab
import KE.KItemsList
import HandS.NoneIn
import KE.DataMinKey
import KE.DataFind
import KE.DatumOrd
import HandS.Finally
import HandS.Strs
import HandS.Nested
import PyProof.Rows.Walk
import PySem.Challenge.RW_saidacross_k38_whole_pieces_of_words
set_option Elab.async false
set_option linter.all false
set_option maxRecDepth 100000
set_option maxHeartbeats 4000000
local macro_rules | `(tactic| walk_at "1") => `(tactic| first | exact Or.inl rfl | exact Or.inr rfl)
local macro_rules | `(tactic| walk_at "2") => `(tactic| first | exact Or.inl rfl | exact Or.inr rfl | assumption)
local macro_rules | `(tactic| walk_at "3") => `(tactic| exact ⟨rfl, rfl, rfl, by decide +kernel, rfl, by decide +kernel, by decide +kernel⟩)
local macro_rules | `(tactic| walk_at "4") => `(tactic| first | decide | omega)
namespace M
abbrev Tx := List Nat
abbrev bB' : Nat := 16777216
inductive D where
  | non | bl (b : Bool) | int (i : Int) | str (s : Tx)
  | tup (ds : List D) | lst (ds : List D) | dct (ks vs : List D)
  | obj (n : Nat) | ty (x : String) | fn (x : String) | exc (x : String) (ds : List D)
  | scr (ds : List D)
  /-- a dict whose keys are bools, or tuples; the text that repr gives -/
  | dcx (ks vs : List D) | rep (d : D)
  deriving Inhabited
inductive O where
  | fz (d : D) | lst (os : List O) | dct (ks : List D) (vs : List O) | tup (os : List O) | dcx (ks : List D) (vs : List O) | exn | clo
  deriving Inhabited
inductive Ob where
  | lst (os : List O) | dct (ks : List D) (vs : List O) | ins (C : String) (fs : List (String × O)) | dcx (ks : List D) (vs : List O)
abbrev W := List Ob
structure PSt where
  env : List (Option O)
  w : W
structure Exc where
  cls : String
  fs : List (String × D)
inductive Res (α : Type) where
  | ok (a : α) (ρ : PSt) | exc (x : Exc) (ρ : PSt) | bad
inductive Out where
  | nx (ρ : PSt) | rt (o : O) (w : W) | bk (ρ : PSt) | ct (ρ : PSt) | exc (x : Exc) (ρ : PSt) | bad
inductive FRes where
  | ok (o : O) (w : W) | exc (x : Exc) (w : W) | bad
def yB' : O -> Bool
  | .exn => false
  | .clo => false
  | _ => true
theorem ld' {o : O} (h : o ≠ .exn) (k : o ≠ .clo) : yB' o = true := by
  cases o <;> first | rfl | exact absurd rfl h | exact absurd rfl k
mutual
def frz : O -> D
  | .fz d => d
  | .lst os => .lst (frzs os)
  | .dct ks vs => .dct ks (frzs vs)
  | .tup os => .tup (frzs os)
  | .dcx ks vs => .dcx ks (frzs vs)
  | .exn => .non
  | .clo => .non
def frzs : List O -> List D
  | [] => []
  | o :: r => frz o :: frzs r
end
@[simp] theorem me' (ds : List D) : frzs (ds.map .fz) = ds := by
  induction ds with
  | nil => rfl
  | cons d r ih => simp [frzs, frz, ih]
theorem gJ' (os : List O) : frzs os = os.map frz := by
  induction os with
  | nil => rfl
  | cons d r ih => simp [frzs, ih]
mutual
/-- data that == compares, at most so deep -/
def dep : D -> Nat
  | .tup ds => deps ds + 1
  | .lst ds => deps ds + 1
  | _ => 0
def deps : List D -> Nat
  | [] => 0
  | d :: r => max (dep d) (deps r)
end
mutual
def dat : D -> Bool
  | .non => true | .bl _ => true | .int _ => true | .str _ => true
  | .tup ds => dats ds
  | .lst ds => dats ds
  | _ => false
def dats : List D -> Bool
  | [] => true
  | d :: r => dat d && dats r
end
mutual
def eqb : D -> D -> Bool
  | .non, .non => true
  | .bl a, .bl b => a == b
  | .bl a, .int j => (if a then 1 else 0) == j
  | .int i, .bl b => i == (if b then 1 else 0)
  | .int i, .int j => i == j
  | .str x, .str y => x == y
  | .lst xs, .lst ys => eqbs xs ys
  | .tup xs, .tup ys => eqbs xs ys
  | _, _ => false
def eqbs : List D -> List D -> Bool
  | [], [] => true
  | x :: xs, y :: ys => eqb x y && eqbs xs ys
  | _, _ => false
end
def eqv (d e : D) : Option Bool := if dat d = true /\ dat e = true /\ dep d <= 64 /\ dep e <= 64 then some (eqb d e) else none
def lX' : D -> Bool
  | .non => true
  | .bl _ => true
  | .int _ => true
  | .str _ => true
  | _ => false
def ob (o : Option Bool) : Option D := o.map .bl
def pEq (x y : D) : Option D := ob (eqv x y)
def pNe (x y : D) : Option D := ob ((eqv x y).map (!·))
def dh' : D -> Bool
  | .non => true
  | _ => false
def pIs : D -> D -> Option D
  | x, .non => some (.bl (dh' x))
  | .bl a, .bl b => some (.bl (a == b))
  | _, _ => none
def iL' (x y : D) : Option D := match pIs x y with | some (.bl b) => some (.bl (!b)) | _ => none
def pLt : D -> D -> Option D
  | .int i, .int j => some (.bl (decide (i < j)))
  | .str a, .str b => some (.bl (decide (a < b)))
  | _, _ => none
def pLe : D -> D -> Option D
  | .int i, .int j => some (.bl (decide (i <= j)))
  | .str a, .str b => some (.bl (!decide (b < a)))
  | _, _ => none
def pGt : D -> D -> Option D
  | .int i, .int j => some (.bl (decide (j < i)))
  | .str a, .str b => some (.bl (decide (b < a)))
  | _, _ => none
def pGe : D -> D -> Option D
  | .int i, .int j => some (.bl (decide (j <= i)))
  | .str a, .str b => some (.bl (!decide (a < b)))
  | _, _ => none
def cD' : D -> D -> Option D
  | .int i, .int j => some (.int (i + j))
  | .str a, .str b => if a.length + b.length <= bB' then some (.str (a ++ b)) else none
  | .lst a, .lst b => if a.length + b.length <= bB' then some (.lst (a ++ b)) else none
  | .tup a, .tup b => if a.length + b.length <= bB' then some (.tup (a ++ b)) else none
  | _, _ => none
def uf' : D -> D -> Option D
  | .int i, .int j => some (.int (i + j))
  | _, _ => none
def vW' : D -> D -> Option D
  | .int i, .int j => some (.int (i - j))
  | _, _ => none
def small64 (i : Int) : Bool := decide (-(2 ^ 64) < i) && decide (i < 2 ^ 64)
def gn' : D -> D -> Option D
  | .int i, .int j => if (small64 i = true \/ small64 j = true) \/ ((-2582249878086908589655919172003011874329705792829223512830659356540647622016841194629645353280137831435903171972747493376 < i /\ i < 2582249878086908589655919172003011874329705792829223512830659356540647622016841194629645353280137831435903171972747493376) /\ (-2582249878086908589655919172003011874329705792829223512830659356540647622016841194629645353280137831435903171972747493376 < j /\ j < 2582249878086908589655919172003011874329705792829223512830659356540647622016841194629645353280137831435903171972747493376)) then some (.int (i * j)) else none
  | .str a, .int j => if j < 2 ^ 62 /\ -(2 ^ 62) <= j /\ a.length * j.toNat <= bB' then some (.str (List.replicate j.toNat a).flatten) else none
  | .lst a, .int j => if j < 2 ^ 62 /\ -(2 ^ 62) <= j /\ a.length * j.toNat <= bB' then some (.lst (List.replicate j.toNat a).flatten) else none
  | _, _ => none
def fE' : D -> D -> Option D
  | .int i, .int j => if 0 < j /\ j < 1606938044258990275541962092341162602522202993782792835301376 then some (.int (i / j)) else none
  | _, _ => none
def lE' : D -> D -> Option D
  | .int i, .int j => if 0 < j then some (.int (i % j)) else none
  | _, _ => none
def ub' : D -> D -> Option D
  | .int i, .int j => if 0 <= j /\ j <= 1000 /\ small64 i = true then some (.int (i ^ j.toNat)) else none
  | _, _ => none
def uc' : D -> Option D
  | .int i => some (.int (-i))
  | _ => none
def chD (c : Nat) : D := .str [c]
def ixn (n : Nat) (i : Int) : Option Nat := if 0 <= i then (if i < n then some i.toNat else none) else (if -(n : Int) <= i then some (i + n).toNat else none)
def ati {α : Type} (xs : List α) (i : Int) : Option α := (ixn xs.length i).bind fun j => xs[j]?
def six (n : Nat) (d : Nat) : Option Int -> Nat
  | none => d
  | some i => if i < 0 then (i + (n : Int)).toNat else min i.toNat n
def cut {α : Type} (xs : List α) (lo hi : Option Int) : List α := (xs.drop (six xs.length 0 lo)).take (six xs.length xs.length hi - six xs.length 0 lo)
def cz' : D -> Option (List D)
  | .lst xs => some xs
  | .tup xs => some xs
  | .str s => some (s.map chD)
  | _ => none
def sca : D -> Bool
  | .non => true | .bl _ => true | .int _ => true | .str _ => true
  | _ => false
def pIn : D -> D -> Option D
  | .str [c], .str s => some (.bl (decide (c ∈ s)))
  | x, .lst ds => if sca x = true /\ ds.all sca = true then some (.bl (ds.any fun d => eqb d x)) else none
  | x, .tup ds => if sca x = true /\ ds.all sca = true then some (.bl (ds.any fun d => eqb d x)) else none
  | _, _ => none
mutual
def kat : D -> Bool
  | .non => true | .bl _ => true | .int _ => true | .str _ => true
  | .tup ds => kats ds
  | _ => false
def kats : List D -> Bool
  | [] => true
  | d :: r => kat d && kats r
end
def v0' (ks : List D) (k : D) : Bool := kat k && decide (dep k <= 8) && ks.all (fun d => sca d == sca k)
def sw' (ks : List D) (k : D) : Option Nat := ks.findIdx? fun d => eqb d k
def isK : D -> Bool
  | .int _ => true | .str _ => true
  | _ => false
def dget {α : Type} (ks : List D) (vs : List α) (k : D) : Option α := (sw' ks k).bind fun j => vs[j]?
def bk' : O -> D -> Option (Option O)
  | .dct ks os, k => if isK k = true then some (dget ks os k) else none
  | .dcx ks os, k => if v0' ks k = true then some (dget ks os k) else none
  | .fz (.dct ks vs), k => if isK k = true then some (dget ks (vs.map .fz) k) else none
  | .fz (.dcx ks vs), k => if v0' ks k = true then some (dget ks (vs.map .fz) k) else none
  | _, _ => none
def t8' {α : Type} (ks : List D) (os : List α) (k : D) (o : α) : Option (List D × List α) := match sw' ks k with
  | some j => some (ks, os.set j o)
  | none => if ks.length < bB' then some (ks ++ [k], os ++ [o]) else none
def ew' : O -> D -> O -> Option O
  | .dct ks os, k, o => if isK k = true then (t8' ks os k o).map fun p => .dct p.1 p.2 else none
  | .dcx ks os, k, o => if v0' ks k = true then (t8' ks os k o).map fun p => .dcx p.1 p.2 else none
  | _, _, _ => none
def fC' (x y : D) : Option D := match pIn x y with | some (.bl b) => some (.bl (!b)) | _ => none
def dg' : D -> Option D
  | .str s => some (.int s.length)
  | .lst ds => some (.int ds.length)
  | .tup ds => some (.int ds.length)
  | .dct ks _ => some (.int ks.length)
  | .dcx ks _ => some (.int ks.length)
  | _ => none
def pIx : D -> D -> Option D
  | .str s, .int i => (ati s i).map chD
  | .lst ds, .int i => ati ds i
  | .tup ds, .int i => ati ds i
  | _, _ => none
def pSl (d : D) (lo hi : Option Int) : Option D := match d with
  | .str s => some (.str (cut s lo hi))
  | .lst s => some (.lst (cut s lo hi))
  | .tup s => some (.tup (cut s lo hi))
  | .scr s => some (.lst (cut s lo hi))
  | _ => none
def jp' : D -> Option D
  | .str s => some (.str s.reverse)
  | .lst s => some (.lst s.reverse)
  | _ => none
def cn' : List D -> Option (List Tx)
  | [] => some []
  | .str s :: r => (cn' r).map (s :: ·)
  | _ :: _ => none
def bR' (sep : Tx) : List Tx -> Tx
  | [] => []
  | [x] => x
  | x :: y :: r => x ++ (sep ++ bR' sep (y :: r))
def dE' (a : Tx) : List D -> Option D
  | [.lst ds] => (cn' ds).bind fun ys => if (ys.map List.length).sum + ys.length * a.length <= bB' then some (.str (bR' a ys)) else none
  | [.tup ds] => (cn' ds).bind fun ys => if (ys.map List.length).sum + ys.length * a.length <= bB' then some (.str (bR' a ys)) else none
  | _ => none
def bA' : List D -> Option (List Int)
  | [] => some []
  | .int b :: r => (bA' r).map (b :: ·)
  | _ :: _ => none
def yI' : D -> Option D
  | .lst ds => (bA' ds).map fun ns => .int ns.sum
  | _ => none
def bK' (l : List Nat) : List Nat := l.mergeSort fun a b => decide (a <= b)
def np' (l : List Int) : List Int := l.mergeSort fun a b => decide (a <= b)
def iP' : List D -> Option (List Nat)
  | [] => some []
  | .str [c] :: r => (iP' r).map (c :: ·)
  | _ => none
def cC' : D -> Option D
  | .str s => if s.length < 64 then some (.lst ((bK' s).map chD)) else none
  | .lst ds => match bA' ds with
    | some ns => some (.lst ((np' ns).map .int))
    | none => (iP' ds).bind fun cs => if cs.length < 64 then some (.lst ((bK' cs).map chD)) else none
  | _ => none
def zk' (a b : Tx) (i : Nat) : Bool := decide (i + b.length <= a.length) && decide ((a.drop i).take b.length = b)
def sz' (a b : Tx) : Option Nat := (List.range (a.length + 1)).find? (zk' a b)
def fnd (o : Option Nat) : Int := match o with | some i => (i : Int) | none => -1
def uq' (a : Tx) : List D -> Option D
  | [.str b] => some (.int (fnd (sz' a b)))
  | _ => none
def ph' (a : Tx) : List D -> Option D
  | [.str b] => (sz' a b).map fun (i : Nat) => D.int (Int.ofNat i)
  | _ => none
def jJ' (a : Tx) (c i : Nat) : Option Nat := (List.range a.length).find? fun k => decide (i <= k) && decide (a[k]? = some c)
def vS' (c : Nat) : Tx -> List Tx
  | [] => [[]]
  | x :: r => if x = c then [] :: vS' c r else (match vS' c r with
    | [] => [[x]]
    | y :: ys => (x :: y) :: ys)
def up' (a : Tx) : List D -> Option D
  | [.str [c]] => if c < 128 /\ a.length + 2 <= bB' then some (.lst ((vS' c a).map .str)) else none
  | _ => none
def yQ' (n : Nat) : Tx := (Nat.toDigits 10 n).map Char.toNat
def ze' : D -> Option D
  | .int i => if 0 <= i /\ i < 1000000000000000000000000000000000000000000000000000000000000 then some (.str (yQ' i.toNat)) else none
  | _ => none
def up1 (c : Nat) : Nat := if 97 <= c /\ c <= 122 then c - 32 else c
def pa' : D -> Option D
  | .str s => if s.all (fun c => decide (c < 128)) = true /\ s.length <= 5592405 then some (.str (s.map up1)) else none
  | _ => none
def bools : List D -> Option (List Bool)
  | [] => some []
  | .bl b :: r => (bools r).map (b :: ·)
  | _ :: _ => none
def lF' : D -> Option D
  | .lst ds => (bools ds).map fun bs => .bl (bs.all id)
  | _ => none
def mG' : D -> Option D
  | .lst ds => (bools ds).map fun bs => .bl (bs.any id)
  | _ => none
def xd' : D -> Option D
  | .lst ds => some (.lst ds)
  | .tup ds => some (.lst ds)
  | .str s => some (.lst (s.map chD))
  | _ => none
def fD' : D -> Option D
  | .str s => some (.lst (s.map chD))
  | d => xd' d
def fB' : D -> Option D
  | .str s => some (.tup (s.map chD))
  | .lst ds => some (.tup ds)
  | .tup ds => some (.tup ds)
  | _ => none
def jq' : D -> Option D
  | .int i => some (.int i)
  | .bl b => some (.int (if b then 1 else 0))
  | _ => none
def vX' : D -> Option D
  | .int i => some (.int (if i < 0 then -i else i))
  | _ => none
def ue' : D -> D -> Option D
  | .int i, .int j => some (.int (if j > i then j else i))
  | _, _ => none
def ud' : D -> D -> Option D
  | .int i, .int j => some (.int (if j < i then j else i))
  | _, _ => none
def tyn : D -> Option String
  | .non => some "NoneType" | .bl _ => some "bool" | .int _ => some "int" | .str _ => some "str"
  | .tup _ => some "tuple" | .lst _ => some "list" | .dct _ _ => some "dict"
  | _ => none
def bs' (t : String) (d : D) : Option D := (tyn d).map fun n => .bl (n == t || (n == "bool" && t == "int"))
abbrev ME := PSt -> Res D
abbrev MO := PSt -> Res O
abbrev MA := PSt -> Res (List D)
abbrev MT := PSt -> Res Bool
abbrev MS := PSt -> Out
abbrev MF := List D -> W -> FRes
abbrev MG := D -> PSt -> Option PSt
abbrev MI := PSt -> Res (List D)
@[simp] def Res.bind {α β : Type} (r : Res α) (f : α -> PSt -> Res β) : Res β := match r with
  | .ok a ρ => f a ρ
  | .exc x ρ => .exc x ρ
  | .bad => .bad
@[simp] def Res.out {α : Type} (r : Res α) (f : α -> PSt -> Out) : Out := match r with
  | .ok a ρ => f a ρ
  | .exc x ρ => .exc x ρ
  | .bad => .bad
@[simp] def ofO {α : Type} (o : Option α) (ρ : PSt) : Res α := match o with
  | some a => .ok a ρ
  | none => .bad
@[simp] def eC (d : D) : ME := fun ρ => .ok d ρ
@[simp] def eV (i : Nat) : ME := fun ρ => match ρ.env[i]? with
  | some (some (.fz d)) => .ok d ρ
  | some (some .exn) => .bad
  | some (some .clo) => .bad
  | some (some o) => .ok (frz o) ⟨ρ.env.set i (some (.fz (frz o))), ρ.w⟩
  | _ => .bad
@[simp] def eOp (f : D -> D -> Option D) (a b : ME) : ME := fun ρ => (a ρ).bind fun x ρ1 => (b ρ1).bind fun y ρ2 => ofO (f x y) ρ2
@[simp] def eUn (f : D -> Option D) (a : ME) : ME := fun ρ => (a ρ).bind fun x ρ1 => ofO (f x) ρ1
@[simp] def asB (d : D) (ρ : PSt) : Res Bool := match d with
  | .bl b => .ok b ρ
  | _ => .bad
@[simp] def uR' (a b : ME) : ME := fun ρ => (a ρ).bind fun x ρ1 => (asB x ρ1).bind fun k ρ1 => if k = true then b ρ1 else .ok (.bl false) ρ1
@[simp] def eOr (a b : ME) : ME := fun ρ => (a ρ).bind fun x ρ1 => (asB x ρ1).bind fun k ρ1 => if k = true then .ok (.bl true) ρ1 else b ρ1
@[simp] def sA' (a : ME) : ME := fun ρ => (a ρ).bind fun x ρ1 => (asB x ρ1).bind fun k ρ1 => .ok (.bl (!k)) ρ1
@[simp] def eIf (t : MT) (a b : ME) : ME := fun ρ => (t ρ).bind fun k ρ1 => if k = true then a ρ1 else b ρ1
@[simp] def eh' (f g : D -> D -> Option D) (a b c : ME) : ME := fun ρ => (a ρ).bind fun x ρ1 => (b ρ1).bind fun y ρ2 => (ofO (f x y) ρ2).bind fun r ρ2 => (asB r ρ2).bind fun k ρ2 =>
  if k = true then (c ρ2).bind fun z ρ3 => ofO (g y z) ρ3 else .ok (.bl false) ρ2
@[simp] def bi' : MA := fun ρ => .ok [] ρ
@[simp] def ae' (a : ME) (r : MA) : MA := fun ρ => (a ρ).bind fun x ρ1 => (r ρ1).bind fun xs ρ2 => .ok (x :: xs) ρ2
@[simp] def mK' (as : MA) : ME := fun ρ => (as ρ).bind fun xs ρ1 => if xs.length <= bB' then .ok (.tup xs) ρ1 else .bad
@[simp] def mL' (as : MA) : ME := fun ρ => (as ρ).bind fun xs ρ1 => if xs.length <= bB' then .ok (.lst xs) ρ1 else .bad
@[simp] def eMt (f : Tx -> List D -> Option D) (a : ME) (as : MA) : ME := fun ρ => (a ρ).bind fun x ρ1 => match x with
  | .str s => (as ρ1).bind fun ds ρ2 => ofO (f s ds) ρ2
  | _ => .bad
@[simp] def xv' (f : List D -> List D -> Option D) (a : ME) (as : MA) : ME := fun ρ => (a ρ).bind fun x ρ1 => match x with
  | .lst ds => (as ρ1).bind fun es ρ2 => ofO (f ds es) ρ2
  | _ => .bad
def lT' (ds : List D) : List D -> Option D
  | [.int v] => (bA' ds).bind fun ns => if v ∈ ns then some (.int ((ns.idxOf v : Nat) : Int)) else none
  | _ => none
abbrev MP := PSt -> Res (Option Int)
@[simp] def pNo : MP := fun ρ => .ok none ρ
@[simp] def pSo (a : ME) : MP := fun ρ => (a ρ).bind fun x ρ1 => match x with | .int i => .ok (some i) ρ1 | _ => .bad
@[simp] def eSl (a : ME) (lo hi : MP) : ME := fun ρ => (a ρ).bind fun x ρ1 => (lo ρ1).bind fun l ρ2 => (hi ρ2).bind fun h ρ3 => ofO (pSl x l h) ρ3
@[simp] def fin (r : FRes) (ρ : PSt) : Res O := match r with
  | .ok o w => .ok o ⟨ρ.env, w⟩
  | .exc x w => .exc x ⟨ρ.env, w⟩
  | .bad => .bad
@[simp] def aO' (f : MF) (as : MA) : MO := fun ρ => (as ρ).bind fun xs ρ1 => fin (f xs ρ1.w) ρ1
@[simp] def eO (a : MO) : ME := fun ρ => (a ρ).bind fun o ρ1 => .ok (frz o) ρ1
@[simp] def oE (a : ME) : MO := fun ρ => (a ρ).bind fun d ρ1 => .ok (.fz d) ρ1
@[simp] def oV (i : Nat) : MO := fun ρ => match ρ.env[i]? with
  | some (some (.fz d)) => .ok (.fz d) ρ
  | some (some .exn) => .bad
  | some (some .clo) => .bad
  | some (some o) => .ok o ⟨ρ.env.set i none, ρ.w⟩
  | _ => .bad
abbrev MOA := PSt -> Res (List O)
@[simp] def nH' : MOA := fun ρ => .ok [] ρ
@[simp] def eg' (a : MO) (r : MOA) : MOA := fun ρ => (a ρ).bind fun x ρ1 => (r ρ1).bind fun xs ρ2 => .ok (x :: xs) ρ2
@[simp] def ul' (as : MOA) : MO := fun ρ => (as ρ).bind fun xs ρ1 => if xs.length <= bB' then .ok (.tup xs) ρ1 else .bad
@[simp] def sq' (a : ME) : MO := fun ρ => (a ρ).bind fun d ρ1 => match d with | .lst ds => .ok (.lst (ds.map .fz)) ρ1 | _ => .bad
@[simp] def rG' (k : D) (a : ME) : ME := fun ρ => (a ρ).bind fun d ρ1 => .ok (.dct [k] [d]) ρ1
@[simp] def uQ' : ME := fun ρ => .ok (.dct [] []) ρ
@[simp] def nJ' : MO := fun ρ => .ok (.dct [] []) ρ
def RgB (a b : Int) : Bool := decide (-(2 ^ 62) <= a) && decide (a < 2 ^ 62) && decide (-(2 ^ 62) <= b) && decide (b < 2 ^ 62) && decide ((b - a).toNat <= 16777216)
def l7' (a b : Int) : List D := (List.range (b - a).toNat).map fun i => .int (a + (i : Nat))
@[simp] def iK' : D -> Option D
  | .int b => if RgB 0 b = true then some (.lst (l7' 0 b)) else none
  | _ => none
@[simp] def po' (i : Nat) (a : ME) : ME := fun ρ => match ρ.env[i]? with
  | some (some (.lst _)) => (a ρ).bind fun d ρ1 => match ρ1.env[i]?, d with
    | some (some (.lst os)), .int z => (match (if os.length <= bB' then ixn os.length z else none) with
      | some j => (match os[j]? with
        | some (.fz y) => .ok y ⟨ρ1.env.set i (some (.lst (os.eraseIdx j))), ρ1.w⟩
        | _ => .bad)
      | none => .bad)
    | _, _ => .bad
  | _ => .bad
@[simp] def ixO : O -> D -> Option D
  | .fz d, k => pIx d k
  | .lst os, .int i => match ati os i with | some (.fz d) => some d | _ => none
  | .tup os, .int i => match ati os i with | some (.fz d) => some d | _ => none
  | _, _ => none
@[simp] def yO' (i : Nat) (b : ME) : ME := fun ρ => match ρ.env[i]? with
  | some (some _) => (b ρ).bind fun k ρ1 => match ρ1.env[i]? with
    | some (some o) => ofO (ixO o k) ρ1
    | _ => .bad
  | _ => .bad
@[simp] def inO (x : D) : O -> Option D
  | .fz d => pIn x d
  | .lst os => if os.all (fun o => match o with | .fz _ => true | _ => false) = true then pIn x (.lst (os.map frz)) else none
  | _ => none
@[simp] def xA' (i : Nat) (a : ME) : ME := fun ρ => (a ρ).bind fun x ρ1 => match ρ1.env[i]? with
  | some (some o) => ofO (inO x o) ρ1
  | _ => .bad
@[simp] def pg' : Option D -> Option D
  | some (.bl b) => some (.bl (!b))
  | _ => none
@[simp] def gP' (i : Nat) (a : ME) : ME := fun ρ => (a ρ).bind fun x ρ1 => match ρ1.env[i]? with
  | some (some o) => ofO (pg' (inO x o)) ρ1
  | _ => .bad
def sy' (x : D) : O -> Option Bool
  | .lst os => if os.all (fun o => match o with | .fz _ => true | _ => false) = true /\ dat x = true /\ dats (os.map frz) = true /\ dep x <= 60 then some ((os.map frz).any fun d => eqb d x) else none
  | _ => none
@[simp] def xB' (neg : Bool) (i : Nat) (a : ME) : ME := fun ρ => (a ρ).bind fun x ρ1 => match ρ1.env[i]? with
  | some (some o) => ofO ((sy' x o).map fun b => D.bl (b != neg)) ρ1
  | _ => .bad
def ju' (x : D) : O -> Option Nat
  | .lst os => if os.all (fun o => match o with | .fz _ => true | _ => false) = true /\ dat x = true /\ dats (os.map frz) = true /\ dep x <= 60 /\ deps (os.map frz) <= 60 /\ ((os.map frz).any fun d => eqb d x) = true then some ((os.map frz).findIdx fun d => eqb d x) else none
  | _ => none
@[simp] def rE' (i : Nat) (a : ME) : ME := fun ρ => match ρ.env[i]? with
  | some (some (.lst _)) => (a ρ).bind fun x ρ1 => match ρ1.env[i]? with
    | some (some o) => ofO ((ju' x o).map fun n => D.int (n : Nat)) ρ1
    | _ => .bad
  | _ => .bad
@[simp] def mH' : O -> Option D
  | .fz d => dg' d
  | .lst os => some (.int os.length)
  | .tup os => some (.int os.length)
  | .dct ks _ => some (.int ks.length)
  | .dcx ks _ => some (.int ks.length)
  | .exn => none
  | .clo => none
@[simp] def rC' (i : Nat) : ME := fun ρ => match ρ.env[i]? with
  | some (some o) => ofO (mH' o) ρ
  | _ => .bad
@[simp] def gj' : Option (Option O) -> Option D
  | some (some (.fz d)) => some d
  | _ => none
@[simp] def xF' (neg : Bool) (i : Nat) (a : ME) : ME := fun ρ => (a ρ).bind fun k ρ1 => match ρ1.env[i]? with
  | some (some o) => ofO ((bk' o k).map fun r => .bl (r.isSome != neg)) ρ1
  | _ => .bad
@[simp] def yP' (i : Nat) (a : ME) : ME := fun ρ => match ρ.env[i]? with
  | some (some _) => (a ρ).bind fun k ρ1 => match ρ1.env[i]? with
    | some (some o) => ofO (gj' (bk' o k)) ρ1
    | _ => .bad
  | _ => .bad
@[simp] def mi' (i : Nat) (k a : ME) : ME := fun ρ => match ρ.env[i]? with
  | some (some (.dct _ _)) => (k ρ).bind fun y ρ1 => (a ρ1).bind fun d ρ2 => match ρ2.env[i]? with
    | some (some (.dct ks os)) => if isK y = true /\ ks.length < bB' then (match dget ks os y with
      | some (.fz e) => .ok e ρ2
      | some _ => .bad
      | none => .ok d ⟨ρ2.env.set i (some (.dct (ks ++ [y]) (os ++ [.fz d]))), ρ2.w⟩) else .bad
    | _ => .bad
  | _ => .bad
@[simp] def un' : MO := fun ρ => .ok (.dcx [] []) ρ
def iM' (x : Bool) (y d : D) : Option O := if x = true then (if kat y = true /\ dep y <= 8 /\ sca y = false then some (.dcx [y] [.fz d]) else none) else (if isK y = true then some (.dct [y] [.fz d]) else none)
@[simp] def lM' (x : Bool) (k a : ME) : MO := fun ρ => (k ρ).bind fun y ρ1 => (a ρ1).bind fun d ρ2 => ofO (iM' x y d) ρ2
@[simp] def w7' (i : Nat) (k a : ME) : MS := fun ρ => (a ρ).out fun d ρ1 => match ρ1.env[i]? with
  | some (some _) => (k ρ1).out fun y ρ2 => match ρ2.env[i]? with
    | some (some o) => (match ew' o y (.fz d) with
      | some o' => .nx ⟨ρ2.env.set i (some o'), ρ2.w⟩
      | none => .bad)
    | _ => .bad
  | _ => .bad
@[simp] def ixW (w : W) : D -> D -> Option D
  | .obj n, k => match w[n]? with | some (.lst os) => ixO (.lst os) k | _ => none
  | d, k => pIx d k
@[simp] def eQ' (a b : ME) : ME := fun ρ => (a ρ).bind fun x ρ1 => (b ρ1).bind fun y ρ2 => ofO (ixW ρ2.w x y) ρ2
@[simp] def um' (as : MA) : MO := fun ρ => (as ρ).bind fun xs ρ1 => if xs.length <= bB' then .ok (.fz (.obj ρ1.w.length)) ⟨ρ1.env, ρ1.w ++ [.lst (xs.map .fz)]⟩ else .bad
@[simp] def tE (a : ME) : MT := fun ρ => (a ρ).bind asB
@[simp] def iw' (a : MT) : MT := fun ρ => (a ρ).bind fun k ρ1 => .ok (!k) ρ1
@[simp] def sk' (a b : MT) : MT := fun ρ => (a ρ).bind fun k ρ1 => if k = true then b ρ1 else .ok false ρ1
@[simp] def tOr (a b : MT) : MT := fun ρ => (a ρ).bind fun k ρ1 => if k = true then .ok true ρ1 else b ρ1
@[simp] def gH' (a : ME) : MI := fun ρ => (a ρ).bind fun d ρ1 => ofO (cz' d) ρ1
def rgI (lo : Int) (n : Nat) : List D := (List.range n).map fun i => .int (lo + (i : Nat))
def mM' (i : Int) : Bool := decide (-(2 ^ 62) <= i) && decide (i < 2 ^ 62)
@[simp] def c3' : D -> Option (List D)
  | .int j => if mM' j = true then some (rgI 0 j.toNat) else none
  | _ => none
@[simp] def c2' : D -> D -> Option (List D)
  | .int i, .int j => if mM' i = true /\ mM' j = true then some (rgI i (j - i).toNat) else none
  | _, _ => none
@[simp] def bM' (a : ME) : MI := fun ρ => (a ρ).bind fun x ρ1 => ofO (c3' x) ρ1
@[simp] def dF' (a b : ME) : MI := fun ρ => (a ρ).bind fun x ρ1 => (b ρ1).bind fun y ρ2 => ofO (c2' x y) ρ2
def b0' : List D -> List D -> List D
  | x :: xs, y :: ys => .tup [x, y] :: b0' xs ys
  | _, _ => []
def gN' (k : Nat) : List D -> List D
  | [] => []
  | x :: xs => .tup [.int k, x] :: gN' (k + 1) xs
@[simp] def xc' (x y : D) : Option (List D) := match cz' x, cz' y with
  | some a, some b => some (b0' a b)
  | _, _ => none
def mD' (x y : D) : Option (List D) := match x, y with
  | .str _, .str _ => xc' x y
  | .lst _, .lst _ => xc' x y
  | .tup _, .tup _ => xc' x y
  | _, _ => none
def enB : D -> Option (List D)
  | .str s => some (gN' 0 (s.map chD))
  | .lst ds => some (gN' 0 ds)
  | _ => none
def qG' : D -> Option (List D)
  | .lst ds => some ds.reverse
  | .tup ds => some ds.reverse
  | _ => none
def sB' (x y : D) : Option (List D) := match x, y with
  | .str s, .tup ds => some (b0' (s.map chD) ds)
  | _, _ => none
@[simp] def rq' (a b : ME) : MI := fun ρ => (a ρ).bind fun x ρ1 => (b ρ1).bind fun y ρ2 => ofO (sB' x y) ρ2
@[simp] def uE' (a b : ME) : MI := fun ρ => (a ρ).bind fun x ρ1 => (b ρ1).bind fun y ρ2 => ofO (mD' x y) ρ2
@[simp] def rs' (a : ME) : MI := fun ρ => (a ρ).bind fun x ρ1 => ofO (enB x) ρ1
@[simp] def uF' (a : ME) : MI := fun ρ => (a ρ).bind fun x ρ1 => ofO (qG' x) ρ1
def yt' : D -> Option (List D)
  | .dct ks _ => some ks
  | _ => none
def yr' : D -> Option (List D)
  | .dct _ vs => some vs
  | _ => none
def vB' : D -> Option (List D)
  | .dct ks vs => some (b0' ks vs)
  | _ => none
@[simp] def rt' (f : D -> Option (List D)) (a : ME) : MI := fun ρ => (a ρ).bind fun x ρ1 => ofO (f x) ρ1
@[simp] def gN (i : Nat) : MG := fun d ρ => if i < ρ.env.length then some ⟨ρ.env.set i (some (.fz d)), ρ.w⟩ else none
@[simp] def gNs : List Nat -> List D -> PSt -> Option PSt
  | [], [], ρ => some ρ
  | i :: is, d :: ds, ρ => (gN i d ρ).bind (gNs is ds)
  | _, _, _ => none
@[simp] def gT (is : List Nat) : MG := fun d ρ => match d with
  | .tup ds => gNs is ds ρ
  | _ => none
@[simp] def noX {α : Type} : Res α -> Res α
  | .exc _ _ => .bad
  | r => r
def aF' : List Nat -> List (Option O) -> List (Option O)
  | [], env => env
  | i :: is, env => (aF' is env).set i none
def back (env : List (Option O)) : List Nat -> List (Option O) -> List (Option O)
  | [], env' => env'
  | i :: is, env' => (back env is env').set i (match env[i]? with | some (some (.fz d)) => some (.fz d) | _ => none)
def lcL (own : List Nat) (g : MG) (t : MT) (e : ME) : List D -> List D -> PSt -> Res (List D)
  | [], acc, ρ => .ok acc ρ
  | x :: xs, acc, ρ => match g x ⟨aF' own ρ.env, ρ.w⟩ with
    | none => .bad
    | some ρ1 => (noX (t ρ1)).bind fun k ρ2 => if k = true then (noX (e ρ2)).bind fun y ρ3 => if acc.length < bB' then lcL own g t e xs (acc ++ [y]) ρ3 else .bad else lcL own g t e xs acc ρ2
@[simp] def eLc (own : List Nat) (it : MI) (g : MG) (t : MT) (e : ME) : ME := fun ρ => (it ρ).bind fun xs ρ1 =>
  (lcL own g t e xs [] ρ1).bind fun ys ρ2 => .ok (.lst ys) ⟨back ρ1.env own (aF' own ρ2.env), ρ2.w⟩
@[simp] def oLc (own : List Nat) (it : MI) (g : MG) (t : MT) (e : ME) : MO := fun ρ => (it ρ).bind fun xs ρ1 =>
  (lcL own g t e xs [] ρ1).bind fun ys ρ2 => .ok (.lst (ys.map .fz)) ⟨back ρ1.env own (aF' own ρ2.env), ρ2.w⟩
def mI' (own : List Nat) (i : Nat) (g : MG) (t : MT) (e : ME) : Nat -> Nat -> List D -> PSt -> Res (List D)
  | 0, j, acc, ρ => match ρ.env[i]? with
    | some (some (.lst os)) => (match os[j]? with
      | none => .ok acc ρ
      | some _ => .bad)
    | _ => .bad
  | n + 1, j, acc, ρ => match ρ.env[i]? with
    | some (some (.lst os)) => (match os[j]? with
      | none => .ok acc ρ
      | some (.fz x) => (match g x ⟨aF' own ρ.env, ρ.w⟩ with
        | none => .bad
        | some ρ1 => (noX (t ρ1)).bind fun k ρ2 => if k = true then (noX (e ρ2)).bind fun y ρ3 => if acc.length < bB' then mI' own i g t e n (j + 1) (acc ++ [y]) ρ3 else .bad else mI' own i g t e n (j + 1) acc ρ2)
      | _ => .bad)
    | _ => .bad
@[simp] def xw' (own : List Nat) (i : Nat) (g : MG) (t : MT) (e : ME) : ME := fun ρ => match ρ.env[i]? with
  | some (some (.lst os)) => (mI' own i g t e os.length 0 [] ρ).bind fun ys ρ2 => .ok (.lst ys) ⟨back ρ.env own (aF' own ρ2.env), ρ2.w⟩
  | _ => .bad
@[simp] def xn' (own : List Nat) (i : Nat) (g : MG) (t : MT) (e : ME) : MO := fun ρ => match ρ.env[i]? with
  | some (some (.lst os)) => (mI' own i g t e os.length 0 [] ρ).bind fun ys ρ2 => .ok (.lst (ys.map .fz)) ⟨back ρ.env own (aF' own ρ2.env), ρ2.w⟩
  | _ => .bad
def pj' (own : List Nat) (g : MG) (t : MT) (it1 : MI) (own1 : List Nat) (g1 : MG) (t1 : MT) (e : ME) : List D -> List D -> PSt -> Res (List D)
  | [], acc, ρ => .ok acc ρ
  | x :: xs, acc, ρ => match g x ⟨aF' own ρ.env, ρ.w⟩ with
    | none => .bad
    | some ρ1 => (noX (t ρ1)).bind fun k ρ2 => if k = true then (noX (it1 ρ2)).bind fun ys ρ3 => (noX (lcL own1 g1 t1 e ys acc ρ3)).bind fun acc2 ρ4 => pj' own g t it1 own1 g1 t1 e xs acc2 ρ4 else pj' own g t it1 own1 g1 t1 e xs acc ρ2
@[simp] def xx' (own : List Nat) (it : MI) (g : MG) (t : MT) (it1 : MI) (own1 : List Nat) (g1 : MG) (t1 : MT) (e : ME) : ME := fun ρ => (it ρ).bind fun xs ρ1 =>
  (pj' own g t it1 own1 g1 t1 e xs [] ρ1).bind fun ys ρ2 => .ok (.lst ys) ⟨back ρ1.env own (aF' own ρ2.env), ρ2.w⟩
@[simp] def xo' (own : List Nat) (it : MI) (g : MG) (t : MT) (it1 : MI) (own1 : List Nat) (g1 : MG) (t1 : MT) (e : ME) : MO := fun ρ => (it ρ).bind fun xs ρ1 =>
  (pj' own g t it1 own1 g1 t1 e xs [] ρ1).bind fun ys ρ2 => .ok (.lst (ys.map .fz)) ⟨back ρ1.env own (aF' own ρ2.env), ρ2.w⟩
def dcL (own : List Nat) (g : MG) (t : MT) (ek ev : ME) : List D -> List D -> List D -> PSt -> Res (List D × List D)
  | [], ks, vs, ρ => .ok (ks, vs) ρ
  | x :: xs, ks, vs, ρ => match g x ⟨aF' own ρ.env, ρ.w⟩ with
    | none => .bad
    | some ρ1 => (noX (t ρ1)).bind fun k ρ2 => if k = true then (noX (ek ρ2)).bind fun y ρ3 => (noX (ev ρ3)).bind fun z ρ4 => (if isK y = true /\ ks.length < bB' then (match t8' ks vs y z with
      | some p => dcL own g t ek ev xs p.1 p.2 ρ4
      | none => .bad) else .bad) else dcL own g t ek ev xs ks vs ρ2
@[simp] def oDc (own : List Nat) (it : MI) (g : MG) (t : MT) (ek ev : ME) : MO := fun ρ => (it ρ).bind fun xs ρ1 =>
  (dcL own g t ek ev xs [] [] ρ1).bind fun p ρ2 => .ok (.dct p.1 (p.2.map .fz)) ⟨back ρ1.env own (aF' own ρ2.env), ρ2.w⟩
@[simp] def tT : MT := fun ρ => .ok true ρ
@[simp] def bf' : MS := fun ρ => .nx ρ
@[simp] def o7' : MS := fun ρ => .bk ρ
@[simp] def tS' : MS := fun ρ => .ct ρ
@[simp] def fz' (a : ME) : MS := fun ρ => (a ρ).out fun _ ρ1 => .nx ρ1
@[simp] def bZ' (a : MO) : MS := fun ρ => (a ρ).out fun o ρ1 => .rt o ρ1.w
@[simp] def tR' : MS := fun ρ => .rt (.fz .non) ρ.w
@[simp] def aZ' (a b : MS) : MS := fun ρ => match a ρ with
  | .nx ρ1 => b ρ1
  | r => r
@[simp] def sIf (t : MT) (a b : MS) : MS := fun ρ => (t ρ).out fun k ρ1 => if k = true then a ρ1 else b ρ1
@[simp] def sm' (i : Nat) (o : O) (ρ : PSt) : Out := if i < ρ.env.length then .nx ⟨ρ.env.set i (some o), ρ.w⟩ else .bad
@[simp] def bN' (i : Nat) (a : MO) : MS := fun ρ => (a ρ).out fun o ρ1 => sm' i o ρ1
@[simp] def qC' (g : MG) (a : ME) : MS := fun ρ => (a ρ).out fun d ρ1 => match g d ρ1 with | some ρ2 => .nx ρ2 | none => .bad
@[simp] def w4' (i j : Nat) (a b : ME) : MS := fun ρ => (a ρ).out fun x ρ1 => (b ρ1).out fun y ρ2 => if i < ρ2.env.length /\ j < ρ2.env.length /\ i ≠ j then .nx ⟨(ρ2.env.set i (some (.fz x))).set j (some (.fz y)), ρ2.w⟩ else .bad
@[simp] def w8' (f : D -> D -> Option D) (i : Nat) (a : ME) : MS := fun ρ => match ρ.env[i]? with
  | some (some (.fz d)) => (a ρ).out fun y ρ1 => match f d y with | some z => sm' i (.fz z) ρ1 | none => .bad
  | _ => .bad
@[simp] def fy' (x : String) : MS := fun ρ => .exc ⟨x, []⟩ ρ
@[simp] def gu' (x f : String) (a : ME) : MS := fun ρ => (a ρ).out fun d ρ1 => .exc ⟨x, [(f, d)]⟩ ρ1
@[simp] def qE' (i : Nat) (a : MO) : MS := fun ρ => match ρ.env[i]? with
  | some (some (.lst _)) => (a ρ).out fun o ρ1 => match ρ1.env[i]? with
    | some (some (.lst os)) => if os.length < bB' then .nx ⟨ρ1.env.set i (some (.lst (os ++ [o]))), ρ1.w⟩ else .bad
    | _ => .bad
  | _ => .bad
@[simp] def qD' (o : ME) (a : MO) : MS := fun ρ => (o ρ).out fun x ρ1 => match x with
  | .obj n => (match ρ1.w[n]? with
    | some (.lst _) => (a ρ1).out fun y ρ2 => (match ρ2.w[n]? with
      | some (.lst os) => if os.length < bB' then .nx ⟨ρ2.env, ρ2.w.set n (.lst (os ++ [y]))⟩ else .bad
      | _ => .bad)
    | _ => .bad)
  | _ => .bad
@[simp] def uu' (w : W) : D -> Option D
  | .obj n => (match w[n]? with
    | some (.lst os) => some (.int os.length)
    | _ => none)
  | _ => none
@[simp] def rB' (a : ME) : ME := fun ρ => (a ρ).bind fun x ρ1 => ofO (uu' ρ1.w x) ρ1
@[simp] def qy' (i : Nat) (k a : ME) : MS := fun ρ => (a ρ).out fun d ρ1 => match ρ1.env[i]? with
  | some (some _) => (k ρ1).out fun y ρ2 => match ρ2.env[i]?, y with
    | some (some (.lst os)), .int z => match ixn os.length z with
      | some j => .nx ⟨ρ2.env.set i (some (.lst (os.set j (.fz d)))), ρ2.w⟩
      | none => .bad
    | _, _ => .bad
  | _ => .bad
@[simp] def nk' (w : W) (x k d : D) : Option W := match x, k with
  | .obj n, .int z => match w[n]? with
    | some (.lst os) => (ixn os.length z).map fun j => w.set n (.lst (os.set j (.fz d)))
    | _ => none
  | _, _ => none
@[simp] def eu' (o k a : ME) : MS := fun ρ => (a ρ).out fun d ρ1 => (o ρ1).out fun x ρ2 => (k ρ2).out fun y ρ3 => match nk' ρ3.w x y d with
  | some w => .nx ⟨ρ3.env, w⟩
  | none => .bad
def i1' (g : MG) (b : MS) : List D -> MS
  | [], ρ => .nx ρ
  | d :: ds, ρ => match g d ρ with
    | none => .bad
    | some ρ1 => match b ρ1 with
      | .nx ρ2 => i1' g b ds ρ2
      | .ct ρ2 => i1' g b ds ρ2
      | .bk ρ2 => .nx ρ2
      | r => r
@[simp] def iE' (it : MI) (g : MG) (b : MS) : MS := fun ρ => (it ρ).out fun ds ρ1 => i1' g b ds ρ1
def eS' (t : MT) (b : MS) : Nat -> MS
  | 0, _ => .bad
  | n + 1, ρ => (t ρ).out fun k ρ1 => if k = true then (match b ρ1 with
      | .nx ρ2 => eS' t b n ρ2
      | .ct ρ2 => eS' t b n ρ2
      | .bk ρ2 => .nx ρ2
      | r => r) else .nx ρ1
@[simp] def o6' (n : Nat) (t : MT) (b : MS) : MS := fun ρ => eS' t b n ρ
abbrev ET := List (String × String × Bool)
def sub : ET -> String -> String -> Option Bool
  | [], _, _ => none
  | (a, b, r) :: t, x, c => if a = x /\ b = c then some r else sub t x c
@[simp] def sr' : Out -> Out
  | .exc _ _ => .bad
  | r => r
@[simp] def hds (hs : List ((String -> Option Bool) × (Exc -> MS))) (x : Exc) (ρ : PSt) : Out := match hs with
  | [] => .exc x ρ
  | (g, h) :: r => (match g x.cls with
    | some true => sr' (h x ρ)
    | some false => hds r x ρ
    | none => .bad)
@[simp] def sn' (b : MS) (hs : List ((String -> Option Bool) × (Exc -> MS))) : MS := fun ρ => match b ρ with
  | .exc x ρ1 => hds hs x ρ1
  | r => r
@[simp] def sp' (i m : Nat) : Out -> Out
  | .nx ρ => if ρ.env.length = i + m + 1 then .nx ⟨ρ.env.set i none, ρ.w⟩ else .bad
  | .bk ρ => if ρ.env.length = i + m + 1 then .bk ⟨ρ.env.set i none, ρ.w⟩ else .bad
  | .ct ρ => if ρ.env.length = i + m + 1 then .ct ⟨ρ.env.set i none, ρ.w⟩ else .bad
  | r => r
@[simp] def lp' (i m : Nat) (b : MS) (g : String -> Option Bool) (h : Exc -> MS) : MS := fun ρ => match b ρ with
  | .exc x ρ1 => (match g x.cls with
    | some true => if ρ1.env.length = i + m + 1 then sp' i m (sr' (h x ⟨ρ1.env.set i (some .exn), ρ1.w⟩)) else .bad
    | some false => .exc x ρ1
    | none => .bad)
  | r => r
@[simp] def xy' (i : Nat) (t : ET) (c : String) (x : Exc) : ME := fun ρ => match ρ.env[i]? with
  | some (some .exn) => if x.fs = [] then ofO ((sub t x.cls c).map .bl) ρ else .bad
  | _ => .bad
@[simp] def eXf (i : Nat) (cs : List String) (f : String) (x : Exc) : ME := fun ρ => match ρ.env[i]? with
  | some (some .exn) => if x.cls ∈ cs then ofO (x.fs.lookup f) ρ else .bad
  | _ => .bad
def mF' (f : String) (o : O) : List (String × O) -> List (String × O)
  | [] => [(f, o)]
  | (g, x) :: r => if g = f then (g, o) :: r else (g, x) :: mF' f o r
@[simp] def ry' (cs : List String) (f : String) (w : W) : D -> Option D
  | .obj n => (match w[n]? with
    | some (.ins C fs) => if C ∈ cs then (match fs.lookup f with | some (.fz d) => some d | _ => none) else none
    | _ => none)
  | _ => none
@[simp] def xC' (cs : List String) (a : ME) (f : String) : ME := fun ρ => (a ρ).bind fun x ρ1 => ofO (ry' cs f ρ1.w x) ρ1
@[simp] def stF (cs : List String) (f : String) (o : O) (w : W) : D -> Option W
  | .obj n => (match w[n]? with
    | some (.ins C fs) => if C ∈ cs /\ fs.length < 1000 then some (w.set n (.ins C (mF' f o fs))) else none
    | _ => none)
  | _ => none
@[simp] def w5' (cs : List String) (a : ME) (f : String) (v : MO) : MS := fun ρ => (v ρ).out fun o ρ1 => (a ρ1).out fun x ρ2 => match stF cs f o ρ2.w x with
  | some w => .nx ⟨ρ2.env, w⟩
  | none => .bad
@[simp] def q0' (C : String) (init : MF) (as : MA) : MO := fun ρ => (as ρ).bind fun ds ρ1 => match init (.obj ρ1.w.length :: ds) (ρ1.w ++ [.ins C []]) with
  | .ok (.fz .non) w => .ok (.fz (.obj ρ1.w.length)) ⟨ρ1.env, w⟩
  | .ok _ _ => .bad
  | .exc x w => .exc x ⟨ρ1.env, w⟩
  | .bad => .bad
def nU' (cs : List String) (m : String) (w : W) : D -> Bool
  | .obj n => (match w[n]? with
    | some (.ins C' fs) => decide (C' ∈ cs) && (fs.lookup m).isNone
    | _ => false)
  | _ => false
@[simp] def qZ' (cs : List String) (m : String) (f : MF) (a : ME) (as : MA) : MO := fun ρ => (a ρ).bind fun x ρ1 => if nU' cs m ρ1.w x = true then (as ρ1).bind fun ds ρ2 => fin (f (x :: ds) ρ2.w) ρ2 else .bad
def pl' (ps : List (String × String)) (w : W) : D -> D -> Bool
  | .obj n, .obj m => (match w[n]?, w[m]? with
    | some (.ins C _), some (.ins C' _) => decide ((C, C') ∈ ps)
    | _, _ => false)
  | _, _ => false
@[simp] def xD' (ps : List (String × String)) (f : MF) (a b : ME) : ME := fun ρ => (a ρ).bind fun x ρ1 => (b ρ1).bind fun y ρ2 => if pl' ps ρ2.w x y = true then (match f [x, y] ρ2.w with
    | .ok (.fz (.bl r)) w => .ok (.bl r) ⟨ρ2.env, w⟩
    | _ => .bad) else .bad
def isC (t : ET) (c : String) (w : W) : D -> Option Bool
  | .obj n => (match w[n]? with
    | some (.ins C _) => sub t C c
    | _ => none)
  | d => (tyn d).map fun _ => false
@[simp] def xz' (t : ET) (c : String) (a : ME) : ME := fun ρ => (a ρ).bind fun x ρ1 => ofO ((isC t c ρ1.w x).map .bl) ρ1
def tq' : O -> Option Ob
  | .lst os => some (.lst os)
  | .dct ks vs => some (.dct ks vs)
  | .dcx ks vs => some (.dcx ks vs)
  | _ => none
@[simp] def xm' (a : MO) : MO := fun ρ => (a ρ).bind fun o ρ1 => match tq' o with
  | some ob => .ok (.fz (.obj ρ1.w.length)) ⟨ρ1.env, ρ1.w ++ [ob]⟩
  | none => .bad
def mJ' : O -> Bool
  | .fz _ => true
  | _ => false
def slW (w : W) (x : D) (l h : Option Int) : Option D := match x with
  | .obj n => (match w[n]? with
    | some (.lst os) => if os.all mJ' = true then some (.lst (cut (os.map frz) l h)) else none
    | _ => none)
  | d => pSl d l h
@[simp] def xt' (a : ME) (lo hi : MP) : ME := fun ρ => (a ρ).bind fun x ρ1 => (lo ρ1).bind fun l ρ2 => (hi ρ2).bind fun h ρ3 => ofO (slW ρ3.w x l h) ρ3
@[simp] def fnM (k n : Nat) (b : MS) : MF := fun ds w => if ds.length = k then (match b ⟨ds.map (fun d => some (.fz d)) ++ List.replicate (n - k) none, w⟩ with
    | .nx ρ => .ok (.fz .non) ρ.w
    | .rt o w => .ok o w
    | .exc x ρ => .exc x ρ.w
    | _ => .bad) else .bad
def v2' (ps : List (String × String)) (w : W) : D -> D -> Bool
  | .obj n, y => (match w[n]? with
    | some (.ins C _) => decide ((C, C) ∈ ps) && (tyn y).isSome
    | _ => false)
  | _, _ => false
@[simp] def xE' (ps : List (String × String)) (f : MF) (a b : ME) : ME := fun ρ => (a ρ).bind fun x ρ1 => (b ρ1).bind fun y ρ2 => if v2' ps ρ2.w x y = true then (match f [x, y] ρ2.w with
    | .ok (.fz (.bl r)) w => .ok (.bl r) ⟨ρ2.env, w⟩
    | _ => .bad) else .bad
def zx' : Ob -> Option O
  | .dct ks os => some (.dct ks os)
  | .dcx ks os => some (.dcx ks os)
  | _ => none
def dxW (w : W) : D -> Option O
  | .obj n => (w[n]?).bind zx'
  | _ => none
def js' (w : W) (x k : D) : Option (Option O) := (dxW w x).bind fun o => bk' o k
@[simp] def rJ' (neg : Bool) (a b : ME) : ME := fun ρ => (a ρ).bind fun k ρ1 => (b ρ1).bind fun x ρ2 => ofO ((js' ρ2.w x k).map fun r => .bl (r.isSome != neg)) ρ2
@[simp] def rH' (a b : ME) : ME := fun ρ => (a ρ).bind fun x ρ1 => (b ρ1).bind fun k ρ2 => ofO (gj' (js' ρ2.w x k)) ρ2
def vV' (w : W) (x k d : D) : Option W := (dxW w x).bind fun o => (ew' o k (.fz d)).bind fun o' => (tq' o').map fun ob => setW0 w ob x
where setW0 (w : W) (ob : Ob) : D -> W
  | .obj n => w.set n ob
  | _ => w
@[simp] def qA' (o k a : ME) : MS := fun ρ => (a ρ).out fun d ρ1 => (o ρ1).out fun x ρ2 => (k ρ2).out fun y ρ3 => match vV' ρ3.w x y d with
  | some w => .nx ⟨ρ3.env, w⟩
  | none => .bad
def vN' (x y : D) : Option (List D) := match x, y with
  | .str s, .lst ds => some (b0' (s.map chD) ds)
  | _, _ => none
@[simp] def rr' (a b : ME) : MI := fun ρ => (a ρ).bind fun x ρ1 => (b ρ1).bind fun y ρ2 => ofO (vN' x y) ρ2
end M
namespace M
def zh' (c : Nat) : D -> Option D
  | .str s => if s.length <= 1000000 then some (.str (s.filter fun d => decide (d ≠ c))) else none
  | _ => none
def wJ' (w : W) (x : D) : Option D := match x with
  | .obj n => (match w[n]? with
    | some (.lst os) => if os.all mJ' = true then some (.tup (os.map frz)) else none
    | _ => none)
  | _ => none
@[simp] def rA' (a : ME) : ME := fun ρ => (a ρ).bind fun x ρ1 => ofO (wJ' ρ1.w x) ρ1
def yN' (w : W) : D -> Option (List D)
  | .obj n => (match w[n]? with
    | some (.lst os) => if os.all mJ' = true then some (os.map frz) else none
    | _ => none)
  | _ => none
def lzW (w : W) (x y : D) : Option D := (yN' w x).bind fun a => (yN' w y).map fun b => .lst (b0' a b)
end M
namespace M
def vM' : D -> D -> Option (List D)
  | .tup a, .tup b => some (b0' a b)
  | _, _ => none
@[simp] def rp' (a b : ME) : MI := fun ρ => (a ρ).bind fun x ρ1 => (b ρ1).bind fun y ρ2 => ofO (vM' x y) ρ2
def v4' : O -> D -> Option O
  | .lst os, .lst ds => if os.length + ds.length <= bB' then some (.lst (os ++ ds.map .fz)) else none
  | _, _ => none
@[simp] def w6' (i : Nat) (a : ME) : MS := fun ρ => match ρ.env[i]? with
  | some (some (.lst _)) => (a ρ).out fun d ρ1 => match ρ1.env[i]?, d with
    | some (some (.lst os)), .lst ds => if os.length + ds.length <= bB' then .nx ⟨ρ1.env.set i (some (.lst (os ++ ds.map .fz))), ρ1.w⟩ else .bad
    | _, _ => .bad
  | _ => .bad
def nr' : O -> D -> D -> Option (D × O)
  | .dcx ks os, y, d => if v0' ks y = true /\ sca y = false /\ ks.length < bB' then (match dget ks os y with
    | some (.fz e) => some (e, .dcx ks os)
    | some _ => none
    | none => some (d, .dcx (ks ++ [y]) (os ++ [.fz d]))) else none
  | _, _, _ => none
@[simp] def gQ' (i : Nat) (k a : ME) : ME := fun ρ => match ρ.env[i]? with
  | some (some (.dcx _ _)) => (k ρ).bind fun y ρ1 => (a ρ1).bind fun d ρ2 => match ρ2.env[i]? with
    | some (some o) => (match nr' o y d with
      | some p => .ok p.1 ⟨ρ2.env.set i (some p.2), ρ2.w⟩
      | none => .bad)
    | _ => .bad
  | _ => .bad
@[simp] def rF' (ps : List (String × String)) (f : MF) (a b : ME) : ME := fun ρ => (a ρ).bind fun x ρ1 => (b ρ1).bind fun y ρ2 => if pl' ps ρ2.w x y = true then (match f [y, x] ρ2.w with
    | .ok (.fz (.bl r)) w => .ok (.bl r) ⟨ρ2.env, w⟩
    | _ => .bad) else .bad
mutual
def okO : O -> Bool
  | .fz d => dat d
  | .lst os => okOs os
  | .tup os => okOs os
  | _ => false
def okOs : List O -> Bool
  | [] => true
  | o :: r => okO o && okOs r
end
def okM : List Bool -> List (Option O) -> Bool
  | [], _ => true
  | _ :: _, [] => false
  | false :: m, _ :: r => okM m r
  | true :: m, some o :: r => okO o && okM m r
  | true :: _, none :: _ => false
def c7' : List Bool -> List (Option O) -> List (Option O)
  | _, [] => []
  | [], _ :: r => none :: c7' [] r
  | false :: m, _ :: r => none :: c7' m r
  | true :: m, x :: r => (x.map fun o => .fz (frz o)) :: c7' m r
def o5' : D -> Bool
  | .non => true | .bl _ => true | .int _ => true | .str _ => true
  | _ => false
@[simp] def xG' (m : List Bool) (e : ME) : ME := fun ρ => if okM m ρ.env = true then (match e ⟨c7' m ρ.env, []⟩ with
    | .ok d _ => if o5' d = true then .ok d ρ else .bad
    | _ => .bad) else .bad
@[simp] def mE' (m : List Bool) (t : MT) : MT := fun ρ => if okM m ρ.env = true then (match t ⟨c7' m ρ.env, []⟩ with
    | .ok k _ => .ok k ρ
    | _ => .bad) else .bad
@[simp] def xp' (a b : ME) : MO := fun ρ => (a ρ).bind fun x ρ1 => (b ρ1).bind fun y ρ2 => match lzW ρ2.w x y with
  | some (.lst ds) => .ok (.lst (ds.map .fz)) ρ2
  | _ => .bad
@[simp] def w3' (i : Nat) : MS := fun ρ => match ρ.env[i]? with
  | some (some (.lst os)) => .nx ⟨ρ.env.set i (some (.lst os.reverse)), ρ.w⟩
  | _ => .bad
def unO : O -> Option (List O)
  | .tup os => some os
  | .fz (.tup ds) => some (ds.map .fz)
  | _ => none
def jI' : List Nat -> List O -> PSt -> Option PSt
  | [], [], ρ => some ρ
  | i :: is, o :: os, ρ => if i < ρ.env.length then jI' is os ⟨ρ.env.set i (some o), ρ.w⟩ else none
  | _, _, _ => none
@[simp] def w2' (is : List Nat) (a : MO) : MS := fun ρ => (a ρ).out fun o ρ1 => match (unO o).bind fun os => jI' is os ρ1 with
  | some ρ2 => .nx ρ2
  | none => .bad
@[simp] def rD' (i : Nat) (c : String) (x : Exc) : ME := fun ρ => match ρ.env[i]? with
  | some (some .exn) => if x.cls = c then .ok (.bl true) ρ else .bad
  | _ => .bad
def bm' (cs : List String) (f : String) (w : W) : D -> Option O
  | .obj n => (match w[n]? with
    | some (.ins C fs) => if C ∈ cs then fs.lookup f else none
    | _ => none)
  | _ => none
@[simp] def rK' (neg : Bool) (cs : List String) (f : String) (k a : ME) : ME := fun ρ => (k ρ).bind fun y ρ1 => (a ρ1).bind fun x ρ2 => ofO (((bm' cs f ρ2.w x).bind fun o => bk' o y).map fun r => .bl (r.isSome != neg)) ρ2
@[simp] def rI' (cs : List String) (f : String) (a : ME) (j : Nat) : ME := fun ρ => (a ρ).bind fun x ρ1 => match ρ1.env[j]? with
  | some (some (.fz y)) => ofO (gj' ((bm' cs f ρ1.w x).bind fun o => bk' o y)) ρ1
  | _ => .bad
def jF' (cs : List String) (f : String) (y d : D) (w : W) : D -> Option W
  | .obj n => (match w[n]? with
    | some (.ins C fs) => if C ∈ cs then (fs.lookup f).bind fun o => (ew' o y (.fz d)).map fun o' => w.set n (.ins C (mF' f o' fs)) else none
    | _ => none)
  | _ => none
@[simp] def qB' (cs : List String) (f : String) (a : ME) (j : Nat) (v : ME) : MS := fun ρ => (v ρ).out fun d ρ1 => (a ρ1).out fun x ρ2 => match ρ2.env[j]? with
  | some (some (.fz y)) => (match jF' cs f y d ρ2.w x with
    | some w => .nx ⟨ρ2.env, w⟩
    | none => .bad)
  | _ => .bad
@[simp] def xu' (i : Nat) : ME := fun ρ => match ρ.env[i]? with
  | some (some (.lst os)) => (match os[os.length - 1]? with
    | some (.fz y) => .ok y ⟨ρ.env.set i (some (.lst os.dropLast)), ρ.w⟩
    | _ => .bad)
  | _ => .bad
@[simp] def gR' (cs : List String) (f : String) (a : ME) (j l : Nat) : ME := fun ρ => (a ρ).bind fun x ρ1 => match x, ρ1.env[j]?, ρ1.env[l]? with
  | .obj n, some (some (.fz y)), some (some (.fz d)) => (match bm' cs f ρ1.w (.obj n), ρ1.w[n]? with
    | some (.dct ks os), some (.ins C fs) => if isK y = true /\ ks.length < bB' then (match dget ks os y with
        | some (.fz e) => .ok e ρ1
        | some _ => .bad
        | none => .ok d ⟨ρ1.env, ρ1.w.set n (.ins C (mF' f (.dct (ks ++ [y]) (os ++ [.fz d])) fs))⟩) else .bad
    | _, _ => .bad)
  | _, _, _ => .bad
end M
namespace M
def ut' (a b : Tx) : Bool := !decide (b < a)
def tw' (l : List Tx) : List Tx := l.mergeSort ut'
def nF' : D -> Option D
  | .lst ds => (cn' ds).bind fun xs => if xs.length < 64 then some (.lst ((tw' xs).map .str)) else none
  | _ => none
end M
namespace M
@[simp] def mh' (cs : List String) (f : String) (a : ME) : ME := fun ρ => (a ρ).bind fun x ρ1 => match bm' cs f ρ1.w x with
  | some (.dct ks _) => ofO ((bA' ks).bind fun ns => if ns.length <= bB' then some (.lst ((np' ns).map .int)) else none) ρ1
  | _ => .bad
end M
namespace M
def fJ' (a : Tx) : List D -> Option D
  | [.str [c], .int i, .int j] => if 0 <= i /\ 0 <= j /\ j <= a.length then some (.int (fnd (jJ' (a.take j.toNat) c i.toNat))) else none
  | _ => none
@[simp] def lr' (i k : Nat) (s : Tx) : MS := fun ρ => match ρ.env[i]? with
  | some (some (.tup os)) => match os[k]? with
    | some (.lst ys) => if ys.length < bB' then .nx ⟨ρ.env.set i (some (.tup (os.set k (.lst (ys ++ [.fz (.str s)]))))), ρ.w⟩ else .bad
    | _ => .bad
  | _ => .bad
@[simp] def mj' (cs : List String) (f : String) (a : ME) (s : Tx) : ME := fun ρ => (a ρ).bind fun x ρ1 => ofO (gj' ((bm' cs f ρ1.w x).bind fun o => bk' o (.str s))) ρ1
@[simp] def lq' (cs : List String) (f : String) (a : ME) (s : Tx) (v : ME) : MS := fun ρ => (v ρ).out fun d ρ1 => (a ρ1).out fun x ρ2 => match jF' cs f (.str s) d ρ2.w x with
  | some w => .nx ⟨ρ2.env, w⟩
  | none => .bad
end M
namespace M
def xa' (a b : Nat × Tx) : Bool := decide (a.1 < b.1) || (decide (a.1 = b.1) && ut' a.2 b.2)
def dx' : List D -> List O -> Option (List (Nat × Tx))
  | [], [] => some []
  | .int i :: ks, .fz (.str s) :: os => if 0 <= i then (dx' ks os).map ((i.toNat, s) :: ·) else none
  | _, _ => none
def fs' : O -> Option D
  | .dct ks os => (dx' ks os).map fun ps => .lst ((ps.mergeSort xa').map fun p => .tup [.int (p.1 : Nat), .str p.2])
  | _ => none
@[simp] def gO' (cs : List String) (f : String) (a : ME) : ME := fun ρ => (a ρ).bind fun x ρ1 => ofO ((bm' cs f ρ1.w x).bind fs') ρ1
end M
namespace M
mutual
def yL' (kl kd : Bool) : D -> Bool
  | .tup ds => nodDs kl kd ds
  | .lst ds => !kl && nodDs kl kd ds
  | .scr ds => !kl && nodDs kl kd ds
  | .dct _ vs => !kd && nodDs kl kd vs
  | .dcx ks vs => nodDs kl kd ks && nodDs kl kd vs
  | _ => true
def nodDs (kl kd : Bool) : List D -> Bool
  | [] => true
  | d :: r => yL' kl kd d && nodDs kl kd r
end
mutual
def nN' (kl kd : Bool) : O -> Bool
  | .fz d => yL' kl kd d
  | .lst os => nodOs kl kd os
  | .tup os => nodOs kl kd os
  | .dct _ os => nodOs kl kd os
  | .dcx ks os => nodDs kl kd ks && nodOs kl kd os
  | .exn => true
  | .clo => true
def nodOs (kl kd : Bool) : List O -> Bool
  | [] => true
  | o :: r => nN' kl kd o && nodOs kl kd r
end
def xq' (kl kd : Bool) : Ob -> Bool
  | .lst os => nodOs kl kd os
  | .dct _ os => nodOs kl kd os
  | .dcx ks os => nodDs kl kd ks && nodOs kl kd os
  | .ins _ fs => nodOs kl kd (fs.map (·.2))
def q3' (kl kd : Bool) (w : W) : Bool := w.all (xq' kl kd)
def lendO (kl kd : Bool) : O -> Bool
  | .fz _ => true
  | .lst os => kl && os.all mJ'
  | .dct _ os => kd && os.all mJ'
  | _ => false
def okL (kl kd : Bool) : List Bool -> List (Option O) -> Bool
  | [], _ => true
  | _ :: _, [] => false
  | false :: m, _ :: r => okL kl kd m r
  | true :: m, some o :: r => lendO kl kd o && okL kl kd m r
  | true :: _, none :: _ => false
def vY' : O -> Nat
  | .fz _ => 0
  | _ => 1
def mq' : List Bool -> List (Option O) -> Nat
  | true :: m, some o :: r => vY' o + mq' m r
  | false :: m, _ :: r => mq' m r
  | _, _ => 0
@[simp] def nI' (kd : Bool) (m : List Bool) (a : MO) : MO := fun ρ => if okL (!kd) kd m ρ.env = true /\ (kd = true -> mq' m ρ.env = 1) then (match a ⟨c7' m ρ.env, ρ.w⟩ with
    | .ok o ρ' => if nN' (!kd) kd o = true /\ q3' (!kd) kd ρ'.w = true then .ok o ⟨ρ.env, ρ'.w⟩ else .bad
    | _ => .bad) else .bad
def li' (i : Nat) (k : ME) (d : D) : MS := fun ρ1 => match ρ1.env[i]? with
  | some (some _) => (k ρ1).out fun y ρ2 => match ρ2.env[i]?, y with
    | some (some (.lst os)), .int z => match ixn os.length z with
      | some j => .nx ⟨ρ2.env.set i (some (.lst (os.set j (.fz d)))), ρ2.w⟩
      | none => .bad
    | _, _ => .bad
  | _ => .bad
@[simp] def qx' (i : Nat) (k l a : ME) : MS := fun ρ => (a ρ).out fun d ρ1 => match d with
  | .tup [x, y] => aZ' (li' i k x) (li' i l y) ρ1
  | _ => .bad
def v1' : O -> Bool
  | .fz (.dct _ _) => true
  | .fz (.dcx _ _) => true
  | .dct _ _ => true
  | .dcx _ _ => true
  | _ => false
def v3' (o : O) (y d : D) : Option D := match bk' o y with
  | some none => some d
  | some (some (.fz e)) => some e
  | _ => none
@[simp] def rL' (i : Nat) (k a : ME) : ME := fun ρ => match ρ.env[i]? with
  | some (some o0) => if v1' o0 = true then ((k ρ).bind fun y ρ1 => (a ρ1).bind fun d ρ2 => match ρ2.env[i]? with
    | some (some o) => ofO (v3' o y d) ρ2
    | _ => .bad) else .bad
  | _ => .bad
def zg' : D -> D -> Option D
  | .int i, .int j => if 0 <= j /\ j <= 1000 /\ small64 i = true then some (.int (i * 2 ^ j.toNat)) else none
  | _, _ => none
def zf' : D -> D -> Option D
  | .int i, .int j => if 0 <= j then some (.int (i / 2 ^ j.toNat)) else none
  | _, _ => none
@[simp] def gL (is : List Nat) : MG := fun d ρ => match d with
  | .lst ds => gNs is ds ρ
  | _ => none
def gSq : List MG -> List D -> PSt -> Option PSt
  | [], [], ρ => some ρ
  | g :: gs, d :: ds, ρ => (g d ρ).bind (gSq gs ds)
  | _, _, _ => none
def gTg (gs : List MG) : MG := fun d ρ => match d with
  | .tup ds => gSq gs ds ρ
  | _ => none
end M
namespace M
end M
namespace M
end M
namespace M
end M
namespace M
end M
namespace M
end M
namespace M
end M
namespace M
def uO' : List Bool -> List D -> Option (List (Option O))
  | [], [] => some []
  | true :: m, ds => (uO' m ds).map (some .clo :: ·)
  | false :: m, d :: ds => (uO' m ds).map (some (.fz d) :: ·)
  | _, _ => none
inductive AK where
  | e (a : ME) | c (f : MF) (js : List Nat)
end M
namespace M
def allFz : List O -> Option (List D)
  | [] => some []
  | .fz d :: r => (allFz r).map (d :: ·)
  | _ => none
end M
namespace S
open PySem PySem.Spec PyProof.Rows L2
def yw' : Arguments -> Option (Str × Str)
  | ⟨[], [a, b], none, [], [], none, []⟩ => some (a.arg, b.arg)
  | _ => none
def yv' : FuncBody -> Option (Str × Str × Str × Str × Str)
  | .stmts [.Expr (.Call (.Attribute (.Call (.Name s _) [] [] _) m p) [.Constant (.str _) _ _] [] q) _, .Assign [.Attribute (.Name a _) f _] (.Name b _) _] => if (p.endLine == q.line) = true then some (s, m, a, f, b) else none
  | _ => none
def bmB (K : PySem.W.Frag) : Bool := match K.lookup (He.ga K "__builtins__") with
  | some ⟨.type m, some d, .plain, _⟩ => decide (m = "module") && (decide (d = builtinsNs) && (decide (He.ga K "__builtins__" ≠ builtinsNs) && decide (He.ga K "__builtins__" ≠ mainGlobals)))
  | _ => false
end S
namespace M
def exT : ET := [("NoLot", "NoLot", true), ("NoLot", "NoWord", false), ("NoWord", "NoLot", false), ("NoWord", "NoWord", true)]
def f_is_string_of : MF := fnM 2 3 ((aZ' (sIf (iw' (tE (eUn (bs' "str") (eV 0)))) (bZ' (oE (eC (.bl false)))) bf')
  (aZ' (iE' (gH' (eV 0)) (gN 2) (sIf (tE (eOp fC' (eV 2) (eV 1))) (bZ' (oE (eC (.bl false)))) bf'))
  (bZ' (oE (eC (.bl true)))))))
def f_is_ascending : MF := fnM 1 3 ((aZ' (iE' (uE' (eV 0) (eSl (eV 0) (pSo (eC (.int 1))) pNo)) (gT [1, 2]) (sIf (tE (eOp pGe (eV 1) (eV 2))) (bZ' (oE (eC (.bl false)))) bf'))
  (bZ' (oE (eC (.bl true))))))
def f_is_choice : MF := fnM 2 2 ((bZ' (oE (uR' (eO (aO' f_is_string_of (ae' (eV 0) (ae' (eV 1) bi')))) (eO (aO' f_is_ascending (ae' (eV 0) bi')))))))
def f_cut_pieces : MF := fnM 2 6 ((aZ' (bN' 2 (sq' (mL' bi')))
  (aZ' (bN' 3 (oE (eC (.str []))))
  (aZ' (iE' (gH' (eV 1)) (gN 4) (aZ' (bN' 3 (oE (eOp cD' (eV 3) (eV 4))))
  (sIf (tE (eUn lF' (eLc [5] (gH' (eV 0)) (gN 5) tT (eOp pIn (eV 5) (eV 3))))) (aZ' (qE' 2 (oE (eV 3)))
  (bN' 3 (oE (eC (.str []))))) bf')))
  (bZ' (ul' (eg' (oV 2) (eg' (oV 3) nH'))))))))
def f_check_pieces : MF := fnM 2 2 ((aZ' (sIf (tOr (iw' (tE (eO (aO' f_is_choice (ae' (eV 0) (ae' (eC (.str [97, 98, 99, 100, 101, 102, 103, 104, 105, 106, 107, 108, 109, 110, 111, 112, 113, 114, 115, 116, 117, 118, 119, 120, 121, 122])) bi')))))) (tE (eOp pEq (eV 0) (eC (.str []))))) (fy' "NoLot") bf')
  (sIf (iw' (tE (eO (aO' f_is_string_of (ae' (eV 1) (ae' (eV 0) bi')))))) (fy' "NoWord") bf')))
def f_pieces : MF := fnM 2 2 ((aZ' (fz' (eO (aO' f_check_pieces (ae' (eV 0) (ae' (eV 1) bi')))))
  (bZ' (aO' f_cut_pieces (ae' (eV 0) (ae' (eV 1) bi'))))))
def f_pieces_back : MF := fnM 2 5 ((aZ' (fz' (eO (aO' f_check_pieces (ae' (eV 0) (ae' (eV 1) bi')))))
  (aZ' (qC' (gT [2, 3]) (eO (aO' f_cut_pieces (ae' (eV 0) (ae' (eUn jp' (eV 1)) bi')))))
  (bZ' (oE (mK' (ae' (eUn jp' (eV 3)) (ae' (eLc [4] (uF' (eV 2)) (gN 4) tT (eUn jp' (eV 4))) bi'))))))))
def f__law_hand : MF := fnM 1 3 ((aZ' (bN' 1 (oLc [2] (gH' (eSl (eV 0) pNo (pSo (eC (.int 63))))) (gN 2) tT (eUn vX' (eUn jq' (eV 2)))))
  (bZ' (um' (ae' (eV 1) (ae' (eC (.int 0)) (ae' (eC (.int 0)) (ae' (eOp cD' (eC (.int 1)) (eUn dg' (eV 1))) (ae' (eC (.int 0)) bi')))))))))
def f__law_draw : MF := fnM 2 5 ((aZ' (sIf (sk' (tE (eOp pEq (eQ' (eV 0) (eC (.int 2))) (eC (.int 0)))) (tE (eOp pLt (eQ' (eV 0) (eC (.int 1))) (eUn dg' (eQ' (eV 0) (eC (.int 0))))))) (aZ' (bN' 2 (oE (eOp pIx (eQ' (eV 0) (eC (.int 0))) (eQ' (eV 0) (eC (.int 1))))))
  (aZ' (eu' (eV 0) (eC (.int 1)) (eOp cD' (eQ' (eV 0) (eC (.int 1))) (eC (.int 1))))
  (aZ' (eu' (eV 0) (eC (.int 3)) (eOp lE' (eUn jq' (eOp cD' (eOp cD' (eOp gn' (eQ' (eV 0) (eC (.int 3))) (eC (.int 69621))) (eV 2)) (eC (.int 11)))) (eC (.int 2147483629))))
  (sIf (tE (eOp pGe (eV 2) (eOp ub' (eC (.int 10)) (eC (.int 18))))) (eu' (eV 0) (eC (.int 2)) (eV 2)) bf')))) bf')
  (aZ' (sIf (tE (eOp pGt (eQ' (eV 0) (eC (.int 2))) (eC (.int 0)))) (aZ' (bN' 3 (oE (eOp lE' (eUn jq' (eQ' (eV 0) (eC (.int 2)))) (eV 1))))
  (aZ' (eu' (eV 0) (eC (.int 2)) (eOp fE' (eQ' (eV 0) (eC (.int 2))) (eV 1)))
  (bZ' (oV 3)))) bf')
  (aZ' (eu' (eV 0) (eC (.int 4)) (eOp cD' (eQ' (eV 0) (eC (.int 4))) (eC (.int 1))))
  (aZ' (bN' 4 (oE (eOp lE' (eUn jq' (eOp gn' (eUn jq' (eOp cD' (eQ' (eV 0) (eC (.int 3))) (eOp gn' (eC (.int 7919)) (eQ' (eV 0) (eC (.int 4)))))) (eC (.int 48271)))) (eC (.int 2147483647)))))
  (aZ' (bN' 4 (oE (eOp lE' (eUn jq' (eOp gn' (eV 4) (eOp cD' (eOp fE' (eV 4) (eC (.int 1009))) (eC (.int 69621))))) (eC (.int 2147483647)))))
  (aZ' (bN' 4 (oE (eOp lE' (eUn jq' (eOp gn' (eV 4) (eOp cD' (eOp fE' (eV 4) (eC (.int 2003))) (eC (.int 40692))))) (eC (.int 2147483399)))))
  (bZ' (oE (eOp lE' (eUn jq' (eOp fE' (eV 4) (eC (.int 16)))) (eV 1)))))))))))
def f__law_letters : MF := fnM 3 7 ((aZ' (bN' 3 (oE (eV 1)))
  (aZ' (bN' 4 (oE (eC (.str []))))
  (aZ' (iE' (bM' (eV 2)) (gN 5) (aZ' (bN' 6 (aO' f__law_draw (ae' (eV 0) (ae' (eUn dg' (eV 3)) bi'))))
  (aZ' (bN' 4 (oE (eOp cD' (eV 4) (eOp pIx (eV 3) (eV 6)))))
  (bN' 3 (oE (eOp cD' (eSl (eV 3) pNo (pSo (eV 6))) (eSl (eV 3) (pSo (eOp cD' (eV 6) (eC (.int 1)))) pNo)))))))
  (bZ' (oV 4))))))
def f__law_cut : MF := fnM 2 6 ((aZ' (bN' 2 (sq' (mL' bi')))
  (aZ' (bN' 3 (oE (eC (.int 0))))
  (aZ' (iE' (dF' (eC (.int 1)) (eOp cD' (eUn dg' (eV 1)) (eC (.int 1)))) (gN 4) (sIf (tE (eUn lF' (eLc [5] (gH' (eV 0)) (gN 5) tT (eOp pGe (eMt fJ' (eV 1) (ae' (eV 5) (ae' (eV 3) (ae' (eV 4) bi')))) (eC (.int 0)))))) (aZ' (qE' 2 (oE (eSl (eV 1) (pSo (eV 3)) (pSo (eV 4)))))
  (bN' 3 (oE (eV 4)))) bf'))
  (bZ' (oE (mK' (ae' (eV 2) (ae' (eSl (eV 1) (pSo (eV 3)) pNo) bi')))))))))
def f__law_drawn : MF := fnM 2 7 ((aZ' (bN' 2 (aO' f__law_draw (ae' (eV 0) (ae' (eC (.int 4)) bi'))))
  (aZ' (bN' 3 (aO' f__law_draw (ae' (eV 0) (ae' (eC (.int 61)) bi'))))
  (aZ' (bN' 4 (oE (eC (.str []))))
  (aZ' (iE' (bM' (eV 3)) (gN 5) (aZ' (bN' 6 (oE (eOp pIx (eV 1) (eO (aO' f__law_draw (ae' (eV 0) (ae' (eUn dg' (eV 1)) bi')))))))
  (aZ' (sIf (sk' (tE (eOp pEq (eV 2) (eC (.int 1)))) (tE (eOp pGt (eO (aO' f__law_draw (ae' (eV 0) (ae' (eC (.int 5)) bi')))) (eC (.int 0))))) (bN' 6 (oE (eOp pIx (eV 1) (eC (.int 0))))) bf')
  (aZ' (sIf (tE (eOp pEq (eV 2) (eC (.int 2)))) (bN' 6 (oE (eOp pIx (eV 1) (eOp lE' (eV 5) (eUn dg' (eV 1)))))) bf')
  (aZ' (sIf (tE (eOp pEq (eV 2) (eC (.int 3)))) (bN' 6 (oE (eOp pIx (eV 1) (eUn uc' (eC (.int 1)))))) bf')
  (bN' 4 (oE (eOp cD' (eV 4) (eV 6)))))))))
  (bZ' (oV 4)))))))
def f__law_is_full : MF := fnM 2 3 ((bZ' (oE (eUn lF' (eLc [2] (gH' (eV 0)) (gN 2) tT (eOp pIn (eV 2) (eV 1)))))))
def f__law_right : MF := fnM 2 9 ((aZ' (qC' (gT [2, 3]) (eO (aO' f__law_cut (ae' (eV 0) (ae' (eV 1) bi')))))
  (aZ' (bN' 4 (aO' f_pieces (ae' (eV 0) (ae' (eV 1) bi'))))
  (aZ' (bN' 5 (aO' f_pieces_back (ae' (eV 0) (ae' (eV 1) bi'))))
  (aZ' (sIf (mE' [false, false, true, true, true, true] (tOr (tE (eOp pNe (eV 4) (mK' (ae' (eV 2) (ae' (eV 3) bi'))))) (tOr (iw' (tE (eUn (bs' "tuple") (eV 4)))) (iw' (tE (eUn (bs' "tuple") (eV 5))))))) (bZ' (oE (eC (.bl false)))) bf')
  (aZ' (qC' (gT [6, 7]) (eO (aO' f__law_cut (ae' (eV 0) (ae' (eUn jp' (eV 1)) bi')))))
  (aZ' (sIf (tE (eOp pNe (eV 5) (mK' (ae' (eUn jp' (eV 7)) (ae' (eLc [8] (gH' (eUn jp' (eV 6))) (gN 8) tT (eUn jp' (eV 8))) bi'))))) (bZ' (oE (eC (.bl false)))) bf')
  (aZ' (sIf (mE' [false, true, false, false, true, true] (tOr (tE (eOp pNe (eOp cD' (eMt dE' (eC (.str [])) (ae' (eOp pIx (eV 4) (eC (.int 0))) bi')) (eOp pIx (eV 4) (eC (.int 1)))) (eV 1))) (tE (eOp pNe (eOp cD' (eOp pIx (eV 5) (eC (.int 0))) (eMt dE' (eC (.str [])) (ae' (eOp pIx (eV 5) (eC (.int 1))) bi'))) (eV 1))))) (bZ' (oE (eC (.bl false)))) bf')
  (aZ' (sIf (mE' [true, false, false, false, true, true] (tOr (tE (eOp pNe (eUn dg' (eOp pIx (eV 4) (eC (.int 0)))) (eUn dg' (eOp pIx (eV 5) (eC (.int 1)))))) (tOr (tE (eO (aO' f__law_is_full (ae' (eV 0) (ae' (eOp pIx (eV 4) (eC (.int 1))) bi'))))) (tE (eO (aO' f__law_is_full (ae' (eV 0) (ae' (eOp pIx (eV 5) (eC (.int 0))) bi')))))))) (bZ' (oE (eC (.bl false)))) bf')
  (aZ' (sIf (mE' [true, false, false, false, true] (tE (eUn mG' (eLc [8] (gH' (eOp pIx (eV 4) (eC (.int 0)))) (gN 8) tT (eOr (sA' (eO (aO' f__law_is_full (ae' (eV 0) (ae' (eV 8) bi'))))) (eO (aO' f__law_is_full (ae' (eV 0) (ae' (eSl (eV 8) pNo (pSo (eUn uc' (eC (.int 1))))) bi'))))))))) (bZ' (oE (eC (.bl false)))) bf')
  (aZ' (sIf (tE (eUn mG' (eLc [8] (gH' (eOp pIx (eV 5) (eC (.int 1)))) (gN 8) tT (eOr (sA' (eO (aO' f__law_is_full (ae' (eV 0) (ae' (eV 8) bi'))))) (eO (aO' f__law_is_full (ae' (eV 0) (ae' (eSl (eV 8) (pSo (eC (.int 1))) pNo) bi')))))))) (bZ' (oE (eC (.bl false)))) bf')
  (aZ' (lr' 4 0 [120])
  (bZ' (oE (eOp pEq (eO (aO' f_pieces (ae' (eV 0) (ae' (eV 1) bi')))) (mK' (ae' (eV 2) (ae' (eV 3) bi'))))))))))))))))))
def f__law_refused : MF := fnM 3 4 ((aZ' (bN' 3 (oE (eC (.str [110, 111, 110, 101]))))
  (aZ' (sn' (sIf (tE (eOp pEq (eV 0) (eC (.int 0)))) (fz' (eO (aO' f_pieces (ae' (eV 1) (ae' (eV 2) bi'))))) (fz' (eO (aO' f_pieces_back (ae' (eV 1) (ae' (eV 2) bi')))))) ((fun y_ => sub exT y_ "NoLot", fun x_ => (bN' 3 (oE (eC (.str [108, 111, 116]))))) :: ((fun y_ => sub exT y_ "NoWord", fun x_ => (bN' 3 (oE (eC (.str [119, 111, 114, 100]))))) :: [])))
  (bZ' (oV 3)))))
def f__law_first : MF := fnM 2 4 ((aZ' (sIf (tOr (iw' (tE (eUn (bs' "str") (eV 0)))) (tE (eOp pEq (eV 0) (eC (.str []))))) (bZ' (oE (eC (.str [108, 111, 116])))) bf')
  (aZ' (sIf (iw' (tE (eUn lF' (eLc [2] (gH' (eV 0)) (gN 2) tT (eh' pLe pLe (eC (.str [97])) (eV 2) (eC (.str [122]))))))) (bZ' (oE (eC (.str [108, 111, 116])))) bf')
  (aZ' (sIf (tE (eUn mG' (eLc [3] (bM' (eOp vW' (eUn dg' (eV 0)) (eC (.int 1)))) (gN 3) tT (eOp pGe (eOp pIx (eV 0) (eV 3)) (eOp pIx (eV 0) (eOp cD' (eV 3) (eC (.int 1)))))))) (bZ' (oE (eC (.str [108, 111, 116])))) bf')
  (aZ' (sIf (tOr (iw' (tE (eUn (bs' "str") (eV 1)))) (iw' (tE (eUn lF' (eLc [2] (gH' (eV 1)) (gN 2) tT (eOp pIn (eV 2) (eV 0))))))) (bZ' (oE (eC (.str [119, 111, 114, 100])))) bf')
  (bZ' (oE (eC (.str [110, 111, 110, 101])))))))))
def f_law : MF := fnM 1 9 ((aZ' (bN' 1 (aO' f__law_hand (ae' (eV 0) bi')))
  (aZ' (bN' 2 (oE (eOp cD' (eC (.int 1)) (eO (aO' f__law_draw (ae' (eV 1) (ae' (eC (.int 5)) bi')))))))
  (aZ' (bN' 3 (oE (eMt dE' (eC (.str [])) (ae' (eUn cC' (eO (aO' f__law_letters (ae' (eV 1) (ae' (eC (.str [97, 98, 99, 100, 101, 102, 103, 104, 105, 106, 107, 108, 109, 110, 111, 112, 113, 114, 115, 116, 117, 118, 119, 120, 121, 122])) (ae' (eV 2) bi')))))) bi'))))
  (aZ' (iE' (bM' (eC (.int 3))) (gN 4) (sIf (iw' (tE (eO (aO' f__law_right (ae' (eV 3) (ae' (eO (aO' f__law_drawn (ae' (eV 1) (ae' (eV 3) bi')))) bi')))))) (bZ' (oE (eC (.bl false)))) bf'))
  (aZ' (bN' 5 (oE (mL' (ae' (eC .non) (ae' (eC (.int 0)) (ae' (eC (.bl true)) (ae' (eC (.str [])) (ae' (eC (.str [65])) (ae' (eC (.str [98, 97])) (ae' (eC (.str [97, 97])) (ae' (eC (.str [97, 32, 98])) (ae' (mL' (ae' (eC (.str [97])) bi')) (ae' (mK' (ae' (eC (.str [97])) bi')) (ae' (eO nJ') (ae' (eV 3) (ae' (eUn jp' (eV 3)) (ae' (eOp cD' (eV 3) (eC (.str [63]))) (ae' (eOp gn' (eV 3) (eC (.int 2))) (ae' (mL' (ae' (eV 3) bi')) bi')))))))))))))))))))
  (aZ' (iE' (bM' (eC (.int 4))) (gN 4) (aZ' (bN' 6 (oE (eOp pIx (eV 5) (eO (aO' f__law_draw (ae' (eV 1) (ae' (eUn dg' (eV 5)) bi')))))))
  (aZ' (bN' 7 (oE (eOp pIx (eV 5) (eO (aO' f__law_draw (ae' (eV 1) (ae' (eUn dg' (eV 5)) bi')))))))
  (iE' (bM' (eC (.int 2))) (gN 8) (aZ' (sIf (tE (eOp pNe (eO (aO' f__law_refused (ae' (eV 8) (ae' (eV 6) (ae' (eV 7) bi'))))) (eO (aO' f__law_first (ae' (eV 6) (ae' (eV 7) bi')))))) (bZ' (oE (eC (.bl false)))) bf')
  (sIf (tE (eOp pNe (eO (aO' f__law_refused (ae' (eV 8) (ae' (eV 3) (ae' (eV 7) bi'))))) (eO (aO' f__law_first (ae' (eV 3) (ae' (eV 7) bi')))))) (bZ' (oE (eC (.bl false)))) bf'))))))
  (bZ' (oE (eC (.bl true)))))))))))
end M
namespace S
open PySem PySem.Spec PyProof.Rows L2
def top (i : Nat) : Stmt := PySem.Challenge.pw_saidacross_k38_whole_pieces_of_words.main.body.getD i (.Pass ⟨0, 0, 0, 0⟩)
abbrev aq' : Stmt := top 6
abbrev dY' : List Str := ["thing", "signs", "sign"]
theorem b5' : FnScope dY' ["thing", "signs"] (defScope aq') := (by walk_at "3")
def cb' : He.DefD := ⟨("is_string_of", none), "is_string_of", "is_string_of", defArgs aq', defBody aq', defScope aq', [], []⟩
abbrev ar' : Stmt := top 7
abbrev dZ' : List Str := ["thing", "one", "other"]
theorem bx' : FnScope dZ' ["thing"] (defScope ar') := (by walk_at "3")
def cc' : He.DefD := ⟨("is_ascending", none), "is_ascending", "is_ascending", defArgs ar', defBody ar', defScope ar', [], []⟩
abbrev aL' : Stmt := top 8
abbrev hb' : List Str := ["thing", "signs"]
theorem fx' : FnScope hb' ["thing", "signs"] (defScope aL') := (by walk_at "3")
def dc' : He.DefD := ⟨("is_choice", none), "is_choice", "is_choice", defArgs aL', defBody aL', defScope aL', [], []⟩
abbrev az' : Stmt := top 10
abbrev df' : List Str := ["lot", "word", "found", "piece", "letter", "one"]
theorem aK' : FnScope df' ["lot", "word"] (defScope az') := (by walk_at "3")
def cQ' : He.DefD := ⟨("cut_pieces", none), "cut_pieces", "cut_pieces", defArgs az', defBody az', defScope az', [], []⟩
abbrev as' : Stmt := top 11
abbrev d0' : List Str := ["lot", "word"]
theorem dt' : FnScope d0' ["lot", "word"] (defScope as') := (by walk_at "3")
def cd' : He.DefD := ⟨("check_pieces", none), "check_pieces", "check_pieces", defArgs as', defBody as', defScope as', [], []⟩
abbrev bn' : Stmt := top 12
abbrev ov' : List Str := ["lot", "word"]
theorem lo' : FnScope ov' ["lot", "word"] (defScope bn') := (by walk_at "3")
def fS' : He.DefD := ⟨("pieces", none), "pieces", "pieces", defArgs bn', defBody bn', defScope bn', [], []⟩
abbrev av' : Stmt := top 13
abbrev cZ' : List Str := ["lot", "word", "found", "rest", "piece"]
theorem a5' : FnScope cZ' ["lot", "word"] (defScope av') := (by walk_at "3")
def cx' : He.DefD := ⟨("pieces_back", none), "pieces_back", "pieces_back", defArgs av', defBody av', defScope av', [], []⟩
abbrev aJ' : Stmt := top 15
abbrev dK' : List Str := ["_law_script", "_law_cells", "_law_cell"]
theorem b6' : FnScope dK' ["_law_script"] (defScope aJ') := (by walk_at "3")
def dd' : He.DefD := ⟨("_law_hand", none), "_law_hand", "_law_hand", defArgs aJ', defBody aJ', defScope aJ', [], []⟩
abbrev aM' : Stmt := top 16
abbrev hd' : List Str := ["_law_hand_here", "_law_many", "_law_cell", "_law_digit", "_law_number"]
theorem bc' : FnScope hd' ["_law_hand_here", "_law_many"] (defScope aM') := (by walk_at "3")
def de' : He.DefD := ⟨("_law_draw", none), "_law_draw", "_law_draw", defArgs aM', defBody aM', defScope aM', [], []⟩
abbrev au' : Stmt := top 17
abbrev d2' : List Str := ["_law_hand_here", "_law_signs", "_law_many", "_law_rest", "_law_found", "_law_turn", "_law_at"]
theorem aI' : FnScope d2' ["_law_hand_here", "_law_signs", "_law_many"] (defScope au') := (by walk_at "3")
def cf' : He.DefD := ⟨("_law_letters", none), "_law_letters", "_law_letters", defArgs au', defBody au', defScope au', [], []⟩
abbrev aQ' : Stmt := top 18
abbrev ei' : List Str := ["_law_lot", "_law_word", "_law_found", "_law_start", "_law_end", "_law_letter"]
theorem a9' : FnScope ei' ["_law_lot", "_law_word"] (defScope aQ') := (by walk_at "3")
def dH' : He.DefD := ⟨("_law_cut", none), "_law_cut", "_law_cut", defArgs aQ', defBody aQ', defScope aQ', [], []⟩
abbrev aE' : Stmt := top 19
abbrev gk' : List Str := ["_law_hand_here", "_law_lot", "_law_way", "_law_many", "_law_word", "_law_place", "_law_letter"]
theorem ay' : FnScope gk' ["_law_hand_here", "_law_lot"] (defScope aE') := (by walk_at "3")
def cT' : He.DefD := ⟨("_law_drawn", none), "_law_drawn", "_law_drawn", defArgs aE', defBody aE', defScope aE', [], []⟩
abbrev am' : Stmt := top 20
abbrev cy' : List Str := ["_law_lot", "_law_word", "_law_letter"]
theorem bz' : FnScope cy' ["_law_lot", "_law_word"] (defScope am') := (by walk_at "3")
def cg' : He.DefD := ⟨("_law_is_full", none), "_law_is_full", "_law_is_full", defArgs am', defBody am', defScope am', [], []⟩
abbrev ao' : Stmt := top 21
abbrev bI' : List Str := ["_law_lot", "_law_word", "_law_due", "_law_rest", "_law_found", "_law_back", "_law_turned", "_law_left", "_law_piece"]
theorem al' : FnScope bI' ["_law_lot", "_law_word"] (defScope ao') := (by walk_at "3")
def cR' : He.DefD := ⟨("_law_right", none), "_law_right", "_law_right", defArgs ao', defBody ao', defScope ao', [], []⟩
abbrev at' : Stmt := top 22
abbrev d1' : List Str := ["_law_which", "_law_lot", "_law_word", "_law_told"]
theorem be' : FnScope d1' ["_law_which", "_law_lot", "_law_word"] (defScope at') := (by walk_at "3")
def ce' : He.DefD := ⟨("_law_refused", none), "_law_refused", "_law_refused", defArgs at', defBody at', defScope at', [], []⟩
abbrev ap' : Stmt := top 23
abbrev bJ' : List Str := ["_law_lot", "_law_word", "_law_letter", "_law_k"]
theorem aW' : FnScope bJ' ["_law_lot", "_law_word"] (defScope ap') := (by walk_at "3")
def cS' : He.DefD := ⟨("_law_first", none), "_law_first", "_law_first", defArgs ap', defBody ap', defScope ap', [], []⟩
abbrev dN' : Stmt := top 24
abbrev yy' : List Str := ["_law_script", "_law_hand_here", "_law_many", "_law_lot", "_law_turn", "_law_odd", "_law_one", "_law_other", "_law_which"]
theorem ct' : FnScope yy' ["_law_script"] (defScope dN') := (by walk_at "3")
def pq' : He.DefD := ⟨("law", none), "law", "law", defArgs dN', defBody dN', defScope dN', [], []⟩
def fns : List He.DefD := [cb', cc', dc', cQ', cd', fS', cx', dd', de', cf', dH', cT', cg', cR', ce', cS', pq']
def tbs : List He.Tab := []
def fas : List He.Fa := [.glo "is_string_of", .glo "is_ascending", .glo "is_choice", .glo "cut_pieces", .glo "check_pieces", .glo "pieces", .glo "pieces_back", .glo "_law_hand", .glo "_law_draw", .glo "_law_letters", .glo "_law_cut", .glo "_law_drawn", .glo "_law_is_full", .glo "_law_right", .glo "_law_refused", .glo "_law_first", .glo "law", .glo "SaidError", .exc "SaidError", .glo "NoWord", .exc "NoWord", .glo "NoLot", .exc "NoLot", .str "SMALL" "abcdefghijklmnopqrstuvwxyz", .free "zip", .free "range", .free "all", .free "any", .free "isinstance", .free "str", .free "abs", .free "int", .free "sorted", .free "len", .free "tuple", .free "reversed"]
def exs : List (PySem.W.Frag -> Bool) := [fun K => (M.exT.all fun e => decide (PySem.W.exmOne K (.ref (He.ga K e.1)) (.ref (He.ga K e.2.1)) = some e.2.2))]
def exK (K : PySem.W.Frag) : Bool := exs.all fun f => f K
end S
set_option maxHeartbeats 0
namespace S
open PySem PySem.Spec PyProof.Rows L2
def us' : List Str := ["SaidError", "NoWord", "NoLot", "SMALL", "is_string_of", "is_ascending", "is_choice", "cut_pieces", "check_pieces", "pieces", "pieces_back", "_law_hand", "_law_draw", "_law_letters", "_law_cut", "_law_drawn", "_law_is_full", "_law_right", "_law_refused", "_law_first"]
def loose : List Str := us'
abbrev Rw : PySem.W.OpenRow := PySem.W.OpenLaw.row PySem.Challenge.rw_saidacross_k38_whole_pieces_of_words
abbrev hk : PySem.W.Hook := He.hookX 4 fas fns tbs [] exK
def ob (s : PySem.W.SharedT) : He.AlX := He.obsX 4 fas fns tbs [] exK (HandSHeadRun.getT s)
theorem xi' (s : PySem.W.SharedT) : ob s = hk.obs s.abs := He.obsX_eq (HandSHeadRun.getT_eq s)
theorem ua' {α β γ : Type} {x : Option α} {f : α -> β} {g : α -> γ} {b : β} {c : γ} (h1 : x.map f = some b) (h2 : x.map g = some c) : x.map (fun s => (f s, g s)) = some (b, c) := by
  cases x with
  | none => cases h1
  | some a =>
    obtain rfl := Option.some.inj h1
    obtain rfl := Option.some.inj h2
    rfl
section
open PySem.W HandSHeadRun
theorem zd' (w : World) (os : OsState) : (endF (stepQ (denQ tabQ) Rw.prog w) 1900 Rw.prog w os).map (fun s => looksF Rw.prog (boot_heap w.params) s.abs) = some true := by kernel_rfl
theorem zc' (w : World) (os : OsState) : (endF (stepQ (denQ tabQ) Rw.prog w) 1900 Rw.prog w os).map (fun s => seenQ (PySem.W.view Rw.prog [24]) loose (importedModules Rw.prog.main.body) (fun s => xlAt (PySem.W.view Rw.prog [24]) [] s && recOk Rw.toRowW.records s) s.abs) = some (openGood (PySem.W.view Rw.prog [24]) loose) := by kernel_rfl
theorem zb' (w : World) (os : OsState) : (endF (stepQ (denQ tabQ) Rw.prog w) 1900 Rw.prog w os).map (fun s => ob s) = some (hk.val w) := by kernel_rfl
end
theorem run (w : World) : HandSHeadRun.RunEq Rw (PySem.W.view Rw.prog [24]) hk ob 1900 loose w := fun os => ua' (zd' w os) (ua' (zc' w os) (zb' w os))
end S
set_option maxHeartbeats 4000000
namespace S
open PySem PySem.Spec PyProof.Rows L2
abbrev St := L2.St
section
variable {X : Cx}
def jG' (z : Str) (n : Nat) : Str := ⟨((List.replicate n z.cps.toList).flatten).toArray⟩
theorem fR' : ∀ (l : List (Array Nat)) (a : Array Nat), l.foldl (· ++ ·) a = (a.toList ++ (l.map Array.toList).flatten).toArray
  | [], a => by simp
  | b :: r, a => by
    rw [List.foldl_cons, fR' r]
    simp
theorem lx' (z : Str) (n : Nat) : (⟨(List.replicate n z.cps).foldl (· ++ ·) #[]⟩ : Str) = jG' z n := by
  unfold jG'
  rw [fR']
  simp
theorem nB' (z : Str) : jG' z 1 = z := by
  obtain ⟨c⟩ := z
  simp [jG']
theorem lw' (z : Str) : jG' z 0 = Str.empty := by
  simp [jG']
  rfl
theorem jn' (z : Str) (h : z.length = 0) (n : Nat) : jG' z n = z := by
  obtain ⟨c⟩ := z
  have e : c.toList = [] := by
    have h1 : c.size = 0 := h
    exact List.eq_nil_of_length_eq_zero (by simpa using h1)
  have e2 : c = #[] := by simpa using congrArg List.toArray e
  subst e2
  simp [jG']
theorem gv' (z : Str) (n : Nat) : (jG' z n).length = n * z.length := by
  show ((List.replicate n z.cps.toList).flatten).toArray.size = _
  rw [List.size_toArray, List.length_flatten]
  simp
  rfl
def o8' : R2 := fun x y H Q => ∃ z i, x = .str z /\ y = .int i /\ i < 2 ^ 62 /\ -(2 ^ 62) <= i /\ z.length * i.toNat <= sizeLine /\ Q (.str (jG' z i.toNat)) H
theorem nG' : OpR X (binaryOp .Mult) o8' := by
  intro pins s σ H x y v u Q I rx ry h
  obtain ⟨z, i, rfl, rfl, h1, h2, h3, q⟩ := h
  obtain ⟨t, rfl⟩ := rx
  obtain ⟨t', rfl⟩ := ry
  have h63 : (decide (i < -(2 ^ 63 : Int)) || decide (i >= 2 ^ 63)) = false := by
    rw [decide_eq_false (by omega), decide_eq_false (by omega)]; rfl
  have hsz : (sizeLine : Nat) < 2 ^ 62 := by rw [sizeLine_eq]; decide
  refine PySem.P.mul_str h63 (fun hn hz => ?_) (fun hn hz => ?_) ?_
  . intro hg
    have hpos : 0 < i := by omega
    have e : (i.toNat : Int) = i := by omega
    have h4 : (z.length : Int) * i <= sizeLine := by
      rw [<- e]; exact_mod_cast h3
    have h5 : (2 ^ 63 - 1) / i < (z.length : Int) := hg
    have h6 : (2 ^ 63 - 1 : Int) < z.length * i := by
      have := Int.lt_mul_of_ediv_lt hpos h5
      rw [Int.mul_comm] at this
      first
        | exact this
        | (rw [Int.mul_comm]; exact this)
    omega
  . exact decide_eq_false (by omega)
  . by_cases hn : i < 1
    . rw [if_pos hn]
      have e : i.toNat = 0 := by omega
      rw [e, lw'] at q
      exact ⟨by decide, .str Str.empty, H, I.tok _, ⟨_, rfl⟩, q⟩
    . rw [if_neg hn]
      by_cases hz : (i == 1 || z.length == 0) = true
      . rw [if_pos hz]
        have e : jG' z i.toNat = z := by
          rcases Bool.or_eq_true_iff.mp hz with h | h
          . have h' : i = 1 := eq_of_beq h
            rw [h']; exact nB' z
          . exact jn' z (eq_of_beq h) _
        rw [e] at q
        exact ⟨.str z, H, I, ⟨_, rfl⟩, q⟩
      . rw [if_neg hz, lx']
        exact ⟨by rw [gv', Nat.mul_comm]; omega, .str _, H, I.tok _, ⟨_, rfl⟩, q⟩
def tY' : R2 := fun x y H Q => rI CMul (fun i j => .int (i * j)) x y H Q \/ o8' x y H Q \/ rRep x y H Q
theorem qS' : OpR X (binaryOp .Mult) tY' := op_mul.or (nG'.or op_rep)
def tZ' (f : List Nat -> List Nat -> Bool) : R2 := fun x y H Q => ∃ i j, x = .str i /\ y = .str j /\ Q (.bl (f i.cps.toList j.cps.toList)) H
def o9' (p : Int -> Int -> Bool) (f : List Nat -> List Nat -> Bool) : R2 := fun x y H Q => rI0 (fun i j => .bl (p i j)) x y H Q \/ tZ' f x y H Q
theorem ug' : OpR X (compareOp .Lt) (o9' (fun i j => decide (i < j)) fun a b => decide (a < b)) := op_lt.or (r' := tZ' fun a b => decide (a < b)) op_lt_str
theorem pb' : OpR X (compareOp .LtE) (o9' (fun i j => decide (i <= j)) fun a b => !decide (b < a)) := op_le.or (r' := tZ' fun a b => !decide (b < a)) op_le_str
theorem pc' : OpR X (compareOp .Gt) (o9' (fun i j => decide (j < i)) fun a b => decide (b < a)) := op_gt.or (r' := tZ' fun a b => decide (b < a)) op_gt_str
theorem iN' : OpR X (compareOp .GtE) (o9' (fun i j => decide (j <= i)) fun a b => !decide (a < b)) := op_ge.or (r' := tZ' fun a b => !decide (a < b)) op_ge_str
def t5' (K : PySem.W.Frag) : R2 := fun x y H Q => rI0 (fun i j => .int (i + j)) x y H Q \/ (∃ i j, x = .str i /\ y = .str j /\ i.length + j.length <= sizeLine /\ Q (.str (i ++ j)) H) \/ rCat x y H Q \/ rCatA K x y H Q
theorem aX' : OpR X (binaryOp .Add) (t5' X.K) := op_add.or (op_add_str.or (op_cat.or op_catA))
def yH' (K : PySem.W.Frag) : R2 := fun x y H Q => rEq x y H Q \/ rEqD K x y H Q
theorem c8' (hu : X.A.units + 64 < cLine) : OpR X (compareOp .Eq) (yH' X.K) := op_eq.or (op_eqD hu)
def yE' (K : PySem.W.Frag) : R2 := fun x y H Q => rNe x y H Q \/ rNeD K x y H Q
theorem dy' (hu : X.A.units + 64 < cLine) : OpR X (compareOp .NotEq) (yE' X.K) := op_ne.or (op_neD hu)
def yG' : R2 := fun x y H Q => ∃ (c : Nat) (z : Str), x = .str ⟨#[c]⟩ /\ y = .str z /\ Q (.bl (decide (c ∈ z.cps.toList))) H
def lB' : R2 := fun x y H Q => ∃ (c : Nat) (z : Str), x = .str ⟨#[c]⟩ /\ y = .str z /\ Q (.bl (!decide (c ∈ z.cps.toList))) H
def t4' : R2 := fun x y H Q => ∃ i j, x = .str i /\ y = .str j /\ Q (.bl (!(Builtin.Str.occurrences j i 0 j.length 1).isEmpty)) H
def iF' : R2 := fun x y H Q => ∃ i j, x = .str i /\ y = .str j /\ Q (.bl (!(!(Builtin.Str.occurrences j i 0 j.length 1).isEmpty))) H
def yF' (K : PySem.W.Frag) : R2 := fun x y H Q => yG' x y H Q \/ rIn K false x y H Q \/ t4' x y H Q
def lA' (K : PySem.W.Frag) : R2 := fun x y H Q => lB' x y H Q \/ rIn K true x y H Q \/ iF' x y H Q
theorem lH' : OpR X (compareOp .In) (yF' X.K) := OpR.or (r := yG') op_in_sign (op_in_seq.or (r' := t4') op_in_str)
theorem lG' : OpR X (compareOp .NotIn) (lA' X.K) := OpR.or (r := lB') op_notIn_sign (op_notIn_seq.or (r' := iF') op_notIn_str)
def yD' (K : PySem.W.Frag) : V -> Option Int -> Option Int -> Hp -> VK -> Prop := fun x lo hi H Q => rSlL K x lo hi H Q \/ rSlS x lo hi H Q \/ rSlA K x lo hi H Q
theorem o3' : SlR X (yD' X.K) := sl_list.or (sl_str.or sl_tupA)
def t1' (K : PySem.W.Frag) : List V -> Hp -> VK -> Prop := fun xs H Q => (∃ z, xs = [.str z] /\ z.length <= sizeLine /\ Q (.int z.length) H) \/ (∃ p ys, xs = [.ref p] /\ (SqL K H p ys \/ SqT K H p ys) /\ Q (.int ys.length) H) \/ (∃ a kvs, xs = [V.ref a] /\ Rd H a (.dK kvs) /\ Q (.int kvs.length) H)
theorem ms' : CallR X (.builtin "len") (t1' X.K) := call_len_str.or (call_len_seq.or fun pins s σ H vs us Q I r h => by
  obtain ⟨a, kvs, rfl, e, q⟩ := h
  cases r with
  | cons ra rn =>
    cases rn
    cases (show _ = Value.ref a from ra)
    exact d_len I e fun t s' I' => ⟨.int kvs.length, H, I', ⟨t, rfl⟩, q⟩)
def t3' : List V -> Hp -> VK -> Prop := fun xs H Q => (∃ i, xs = [.int i] /\ Q (.int i) H) \/ ∃ k, xs = [.bl k] /\ Q (.int (if k then 1 else 0)) H
theorem bq' : CallR X (.type "int") t3' := call_int1
def t6' : List V -> Hp -> VK -> Prop := fun xs H Q => ∃ i, xs = [.int i] /\ Q (.int (if i < 0 then -i else i)) H
theorem mt' : CallR X (.builtin "abs") t6' := call_abs
theorem qO' {x z : Str} {pos : Pos} (hg : Gl X x) (h : ∃ t, X.mg x = some (.str z t)) (hd : (x == ("__debug__" : Str)) = false := by decide) : PE X (.Name x pos) (tC (.str z)) := by
  obtain ⟨t, e⟩ := h
  exact pe_glob hg e ⟨t, rfl⟩ hd
theorem iI' {C : Addr} {bmB : List Value} {B newId initId : String} {x : Str} {p pos : Pos} (F : ExcBaseFacts B newId initId bmB) (q : PySem.W.excIn X.K C bmB newId = true) (gC : X.mg x = some (.ref C))
    (kC : PySem.W.keepIn X.K (.ref C) = true) (r : Raises X (.ref C)) (hg : Gl X x) (hdb : (x == ("__debug__" : Str)) = false := by decide) : PMk X (.Call (.Name x p) [] [] pos) (fun _ H Q => Q (.ref C) none H) := by
  intro pins s σ H Q I h
  refine wpAny_Call_Name_kw (ld_glob I hg gC ?_ hdb)
  refine PySem.W.callWith_K0 I.kIn kC ?_
  show wpAny _ _ (call (.ref C) []) _ _ _
  obtain ⟨bm, N, nm, qn, bs, hdct, sn, sub, ab, col, dd, k0, k1, k2, k3, k5, mN, hC, hN, hni, T⟩ := exc_obj I.kIn q
  refine wpAny_call_exc_subT F T hC hN hni (fun h' e hm => ?_) (Nat.zero_le _)
  exact mk_of I hm r h (I.hok.gone hm.new)
end
section
variable {P : Program} {w : World} {K : PySem.W.Frag} {mg : Str -> Option Value} {base : Heap}
section
variable {X : Cx} {k : Nat} {x : Str} {ps : List Str} {sp : Sp} {p pos : Pos} {e : Expr} {es : List Expr} {t : TA} {W : WX}
end
end
end S
namespace S
open PySem PySem.Spec PyProof.Rows L2
section
variable {K : PySem.W.Frag} {D : Ends} {σ : St} {H H' : Hp} {Q : VK} {t u : TS} {te ta tb tc : TE} {tt tu : TT} {g : TG} {tl : TA} {v x y : V} {i j : Int} {a p : Addr} {xs ys : List V} {z z' : Str} {r : R2}
theorem wy' {n : String} {tv : Value} {b : Bool} (ty : TyX K H x tv) (e : PySem.W.kitOne K tv (.type n) = some b) (h : Q (.bl b) H) : rIsi K [x, .ty n] H Q := ⟨x, .ty n, tv, _, b, rfl, .ty n, ty, e, h⟩
theorem Same.upd {H : Hp} {p : Addr} {o : HO} (h : H p = none) : Same H (upd H p o) := fun b u e => by
  rw [upd_ne (ne_of_none e h)]; exact e
theorem Same.app (s : Same H H') {o : HO} (h : H p = some o) : H' p = some o := s p o h
end
theorem FnOk.to0 {P : Program} {w : World} {K : PySem.W.Frag} {mg : Str -> Option Value} {base : Heap} {k : Nat} {f : Addr} {fd : FuncData} {ps : List Str} {sp : Sp} (F : FnOk P w K mg base (L2.CX P w) k f fd ps sp) :
    FnOk P w K mg base CX0 k f fd ps (fun vs H Q _ => sp vs H Q E0) :=
  ⟨fun vs H Q _ h => F.len vs H Q E0 h, fun A outer s H args us vs Q _ hr he hb hv hs => codeAny_mono (F.run A outer s H args us vs Q E0 hr he hb hv hs) fun r s' hq => by
    cases r with
    | error e =>
      obtain ⟨_, _, _, _, _, _, _, _, _, _, _, _, z⟩ := hq
      exact z.elim
    | ok fl =>
      cases fl with
      | ret u => exact hq
      | next => exact hq
      | brk => exact hq
      | cont => exact hq⟩
end S
namespace S
open PySem PySem.Spec PyProof.Rows L2
section
variable {α : Type} {as : List α} {J : It} {G : Hp -> Prop} {Y : α -> Hp -> V -> Hp -> Prop} {K : PySem.W.Frag} {D : Ends} {σ : St} {H : Hp} {g : TG} {tb : TS} {tt : TT} {te : TE} {a : Addr}
def zA' (J : It) (g : TG) (tb : TS) (D : Ends) (σ : St) (H1 : Hp) : Prop := ∃ W : Nat -> Nat -> St -> Hp -> Prop, (∃ m, W 0 m σ H1) /\ ∀ i m σ H, W i m σ H →
  (J.stop i H /\ D.nx σ H) \/ (J.go i H /\ ∃ N : St -> Hp -> Prop, (∀ σ' H', N σ' H' -> ∃ m', m' < m /\ W (i + 1) m' σ' H') /\ ∀ x H', J.yld i H x H' -> g x σ H' fun σ2 H2 => tb { D with nx := N, ct := N, bk := D.nx } σ2 H2)
theorem cF' {lo : Int} {n : Nat} (Pv : Nat -> St -> Hp -> Prop) (h0 : Pv 0 σ H)
    (hs : ∀ i σ H, i < n -> Pv i σ H -> g (.int (lo + (i : Nat))) σ H fun σ2 H2 => tb { D with nx := Pv (i + 1), ct := Pv (i + 1), bk := D.nx } σ2 H2) (hd : ∀ σ H, Pv n σ H -> D.nx σ H) : zA' (Itr lo n) g tb D σ H := for_range Pv h0 hs hd
end
section
variable {H H' : Hp} {p q : Addr} {o : HO}
theorem seqT {K : PySem.W.Frag} {a : Addr} {xs : List V} (e : Same H H') (h : SqT K H a xs) : SqT K H' a xs := by
  rcases h with (h | ⟨o, h⟩) | h
  . exact .inl (.inl (e _ _ h))
  . exact .inl (.inr ⟨o, e _ _ h⟩)
  . exact .inr h
end
end S
namespace S
open PySem PySem.Spec PyProof.Rows L2
def yz' (c a : Addr) : HO := .ext fun h => ∃ (its : List Value) (n : Nat) (i s t k : Int), Vals [.ref c, .int i, .int s, .int t, .int k] its /\ h.get? a = some { cls := .type "list", data := .seq its.toArray n } /\ 0 <= i
def gl' (H : Hp) (a : Addr) : Prop := ∃ (c : Addr) (ns : List Int), H a = some (yz' c a) /\ H c = some (.lst (ns.map V.int))
section
variable {P : Program} {w : World} {H H' : Hp} {h h' : Heap} {a c : Addr} {o o' : HO} {fs : List Addr}
end
section
variable {P : Program} {w : World} {K : PySem.W.Frag} {mg : Str -> Option Value} {base : Heap} {k : Nat} {f : Addr} {fd : FuncData} {ps : List Str}
end
end S
namespace S
open PySem PySem.Spec PyProof.Rows L2
def Sh (n : Nat) (d : PyData) : Prop := d.canLay0 = true /\ d.depth <= n
theorem Sh.shaped {n : Nat} {d : PyData} (h : Sh n d) (hn : n <= 64) : SeqAt.shaped d = true := by
  unfold SeqAt.shaped
  rw [h.1, Bool.true_and]
  exact decide_eq_true (Nat.le_trans h.2 hn)
theorem Sh.mono {n m : Nat} {d : PyData} (h : Sh n d) (e : n <= m) : Sh m d := ⟨h.1, Nat.le_trans h.2 e⟩
theorem Sh.int {n : Nat} {i : Int} : Sh n (.int i) := ⟨rfl, Nat.zero_le _⟩
theorem Sh.bool {n : Nat} {b : Bool} : Sh n (.bool b) := ⟨rfl, Nat.zero_le _⟩
theorem Sh.none {n : Nat} : Sh n .none := ⟨rfl, Nat.zero_le _⟩
theorem Sh.str {n : Nat} {z : Str} (h : ∀ c ∈ z.cps.toList, c < 128) : Sh n (.str z) := by
  refine ⟨?_, Nat.zero_le _⟩
  show PyData.strOk z = true
  unfold PyData.strOk
  rw [Array.all_eq_true']
  intro c hc
  have := h c (by simpa using hc)
  simp only [decide_eq_true_eq]
  omega
theorem Sh.all {n : Nat} : ∀ {ds : List PyData}, (∀ d ∈ ds, Sh n d) -> PyData.canLayAll0 ds = true /\ PyData.depthAll ds <= n
  | [], _ => ⟨rfl, Nat.zero_le _⟩
  | d :: r, h => by
    have h1 := h d (by simp)
    have h2 := Sh.all (ds := r) fun x hx => h x (by simp [hx])
    refine ⟨?_, ?_⟩
    . show (d.canLay0 && PyData.canLayAll0 r) = true
      rw [h1.1, h2.1]
      rfl
    . show max d.depth (PyData.depthAll r) <= n
      exact Nat.max_le.mpr ⟨h1.2, h2.2⟩
theorem Sh.list {n : Nat} {ds : List PyData} (h : ∀ d ∈ ds, Sh n d) : Sh (n + 1) (.list ds) := ⟨(Sh.all h).1, Nat.succ_le_succ (Sh.all h).2⟩
theorem Sh.tuple {n : Nat} {ds : List PyData} (h : ∀ d ∈ ds, Sh n d) : Sh (n + 1) (.tuple ds) := ⟨(Sh.all h).1, Nat.succ_le_succ (Sh.all h).2⟩
section
variable {K : PySem.W.Frag} {H H' : Hp} {v : V} {vs : List V} {ds es : List PyData} {p : Addr} {xs : List V}
theorem DpAll.append : ∀ {vs ws : List V} {ds es : List PyData}, DpAll K H vs ds -> DpAll K H ws es -> DpAll K H (vs ++ ws) (ds ++ es)
  | _, _, _, _, .nil, h => h
  | _, _, _, _, .cons a r, h => .cons a (DpAll.append r h)
theorem DpAll.length : ∀ {vs : List V} {ds : List PyData}, DpAll K H vs ds -> vs.length = ds.length
  | _, _, .nil => rfl
  | _, _, .cons _ r => congrArg (· + 1) (DpAll.length r)
theorem DpAll.split : ∀ {a b : List V} {ds : List PyData}, DpAll K H (a ++ b) ds -> ∃ d e, ds = d ++ e /\ DpAll K H a d /\ DpAll K H b e
  | [], b, ds, h => ⟨[], ds, rfl, .nil, h⟩
  | x :: a, b, _, .cons h r => by
    obtain ⟨d, e, rfl, h1, h2⟩ := DpAll.split (a := a) r
    exact ⟨_ :: d, e, rfl, .cons h h1, h2⟩
theorem DpAll.get : ∀ {vs : List V} {ds : List PyData} {i : Nat} {d : PyData}, DpAll K H vs ds -> ds[i]? = some d -> ∃ v, vs[i]? = some v /\ Dp K H v d
  | _, _, _, _, .nil, e => by cases e
  | _, _, 0, _, .cons h _, e => ⟨_, rfl, by rw [<- Option.some.inj e]; exact h⟩
  | _, _, i + 1, _, .cons _ r, e => DpAll.get (i := i) r e
theorem Dp.int_inv {i : Int} (h : Dp K H v (.int i)) : v = .int i := by cases h; rfl
theorem Dp.str_inv {z : Str} (h : Dp K H v (.str z)) : v = .str z := by cases h; rfl
theorem Dp.tup_inv (h : Dp K H v (.tuple ds)) : ∃ p xs, v = .ref p /\ SqT K H p xs /\ DpAll K H xs ds := by
  cases h with
  | tup h1 h2 => exact ⟨_, _, rfl, h1, h2⟩
theorem Dp.lst_inv (h : Dp K H v (.list ds)) : ∃ p xs, v = .ref p /\ SqL K H p xs /\ DpAll K H xs ds := by
  cases h with
  | lst h1 h2 => exact ⟨_, _, rfl, h1, h2⟩
theorem tyT (h : SqT K H p xs) : TyX K H (.ref p) (.type "tuple") := by
  rcases h with (h | ⟨o, h⟩) | ⟨o, its, n, h, c, _⟩
  . exact .base (.tup h)
  . exact .fTuple h
  . exact .kTuple h c
theorem tyL (h : SqL K H p xs) : TyX K H (.ref p) (.type "list") := by
  rcases h with (h | ⟨o, h⟩) | ⟨o, its, n, h, c, _⟩
  . exact .base (.lst h)
  . exact .base (.frz h)
  . exact .kList h c
def tyn : PyData -> String
  | .none => "NoneType" | .bool _ => "bool" | .int _ => "int" | .str _ => "str" | .list _ => "list" | .tuple _ => "tuple" | .dict _ => "dict"
theorem _root_.L2.Dp.ty {d : PyData} (h : Dp K H v d) : TyX K H v (.type (tyn d)) := by
  cases h with
  | non => exact .base .non
  | bl b => exact .base (.bl b)
  | int i => exact .base (.int i)
  | str z => exact .base (.str z)
  | lst h1 _ => exact tyL h1
  | tup h1 _ => exact tyT h1
variable {σ : St} {R : St -> Hp -> Prop}
end
theorem ep' {a b : Str} (h : a.cps.toList = b.cps.toList) : a = b := by
  obtain ⟨a⟩ := a
  obtain ⟨b⟩ := b
  have : a = b := by simpa using congrArg List.toArray h
  rw [this]
theorem ot' (a b : Str) : (a ++ b).cps.toList = a.cps.toList ++ b.cps.toList := by
  show (a.cps ++ b.cps).toList = _
  simp
theorem nR' (a : Str) : a.length = a.cps.toList.length := by
  show a.cps.size = _
  simp
section
variable {α β : Type}
def yR' (xs : List α) (lo hi : Option Int) : List α := (xs.drop (HT.sIx xs.length 0 lo)).take (HT.sIx xs.length xs.length hi - HT.sIx xs.length 0 lo)
theorem vC' (z : Str) (lo hi : Option Int) : (cutS z lo hi).cps.toList = yR' z.cps.toList lo hi := by
  unfold cutS yR'
  rw [nR']
end
end S
namespace S
open PySem PySem.Spec PyProof.Rows L2
section
variable {K : PySem.W.Frag} {H : Hp} {J : It} {g : TG} {tt : TT} {te : TE} {vs : List Nat} {σ : St} {Q : VK} {G : Hp -> Prop}
theorem DpAll.at {H : Hp} : ∀ {d r : List V} {x : V} {ds : List PyData}, DpAll K H (d ++ x :: r) ds -> ∃ e, ds[d.length]? = some e /\ Dp K H x e /\ ds.take (d.length + 1) = ds.take d.length ++ [e] := by
  intro d r x ds h
  obtain ⟨a, b, rfl, h1, h2⟩ := DpAll.split h
  cases h2 with
  | cons h3 h4 =>
    have hl := DpAll.length h1
    rename_i e es
    have e1 : (a ++ e :: es)[d.length]? = some e := by rw [List.getElem?_append_right (by omega), hl, Nat.sub_self]; rfl
    refine ⟨_, e1, h3, ?_⟩
    rw [List.take_add_one, e1]
    rfl
theorem _root_.L2.Dp.t2 {v : V} {d e : PyData} (h : Dp K H v (.tuple [d, e])) : ∃ p x y, v = .ref p /\ SqT K H p [x, y] /\ Dp K H x d /\ Dp K H y e := by
  obtain ⟨p, xs, rfl, q, a⟩ := Dp.tup_inv h
  cases a with
  | cons a1 a => cases a with
    | cons a2 a => cases a; exact ⟨p, _, _, rfl, q, a1, a2⟩
end
end S
namespace S
open PySem PySem.Spec PyProof.Rows L2
def ItP (xs ys : Nat -> Option V) (n : Nat) : It :=
  ⟨fun i _ => i < n, fun i H v H' => ∃ T x y, v = .ref T /\ H T = none /\ H' = upd H T (.tup [x, y]) /\ xs i = some x /\ ys i = some y, fun i _ => i = n⟩
theorem lc' {P : Program} {w : World} {K : PySem.W.Frag} {tg : Expr} {z : Addr} {fp wr : List Addr} {n : Nat} {P1 P2 : Nat -> Value -> Prop} {St : Nat -> Heap -> Prop} {xs ys : Nat -> Option V}
    (W : ∀ A : Around, A.handled = none -> GoesN P w A tg z fp wr n (fun i h₀ v h => ∃ T x y, v = .ref T /\ h₀.objs.size <= T /\ P1 i x /\ P2 i y /\ h.IsTuple T #[x, y]) St) (hz : z ∈ fp) (sf : ∀ (A : Around) (i : Nat) (s : Shared) (Q : Value -> Shared -> Prop) (E : Value -> Shared -> Prop), St i s.heap -> Q (.ref z) s -> wpAny (model P w) A (pyIter (.ref z)) Q E s)
    (ob : ∀ i h, St i h -> ∀ b ∈ fp, ∃ o, h.get? b = some o /\ ∀ v, o.data ≠ .cell v) (r1 : ∀ i u, i < n -> P1 i u -> ∃ x, xs i = some x /\ RelV x u) (r2 : ∀ i u, i < n -> P2 i u -> ∃ x, ys i = some x /\ RelV x u) :
    Turn P w K tg (ItP xs ys n) fp z St where
  mem := hz
  obj := ob
  keep := fun i h h' st k => (W callerA rfl).frame i h h' st k
  item := by
    intro X hP hw hK hc i pins s σ H E I hf st hg
    subst hP hw hK
    have Wa := W X.A (I.ok.hd hc)
    refine Wa.goes i s _ E hg st fun v h' tk hY st' hk htk => ?_
    obtain ⟨T, u1, u2, rfl, hT, p1, p2, o, ho, hoc, m, hod⟩ := hY
    obtain ⟨x, hx, rx⟩ := r1 i u1 hg p1
    obtain ⟨y, hy, ry⟩ := r2 i u2 hg p2
    have new : ObjOk X.prog X.w (upd H T (.tup [x, y])) h' T (.tup [x, y]) := ⟨by show 2 <= sizeLine; decide, [u1, u2], .cons rx (.cons ry .nil), ⟨_, ho, hoc, _, hod⟩⟩
    have I1 : Inv X pins σ (upd H T (.tup [x, y])) { s with heap := h', toks := tk } :=
      I.turnedNew (t' := tk) (ch := fp) (fun b o hb q => hk b o (fun z => hb (Wa.sub b z)) q) hf hT new
    refine ⟨.ref T, _, I1, rfl, ⟨T, x, y, rfl, I.hok.fresh hT, rfl, hx, hy⟩, st', fun b hb => ?_⟩
    obtain ⟨ob1, hob, _⟩ := ob i s.heap st b hb
    rw [upd_ne (Nat.ne_of_lt (Nat.lt_of_lt_of_le (Heap.lt_size hob) hT))]
    exact (hf b hb).1
  done := by
    intro X hP hw hK hc i pins s σ H E I hf st hg
    subst hP hw hK
    have Wa := W X.A (I.ok.hd hc)
    have hg' : i = n := hg
    subst hg'
    exact Wa.stops s _ E st fun h' tk hk htk => I.turnedL (t' := tk) (ch := fp) (fun b o hb q => hk b o (fun z => hb (Wa.sub b z)) q) hf
  self := sf
def chS (z : Str) (i : Nat) : Option V := (z.cps.toList[i]?).map fun c => .str ⟨#[c]⟩
theorem py' {z : Str} {i : Nat} {u : Value} (h : ∃ c t, z.cps[i]? = some c /\ u = .str ⟨#[c]⟩ t) : ∃ x, chS z i = some x /\ RelV x u := by
  obtain ⟨c, t, hc, rfl⟩ := h
  refine ⟨.str ⟨#[c]⟩, ?_, ⟨t, rfl⟩⟩
  unfold chS
  rw [show z.cps.toList[i]? = some c by rw [<- hc]; simp]
  rfl
def uD' (ta : TA) : TI := fun σ H R => ta σ H fun vs H1 => ∃ x y : Str, vs = [.str x, .str y] /\ R (ItP (chS x) (chS y) (min x.cps.size y.cps.size)) H1
theorem qL' {X : Cx} {e e2 : Expr} {ta : TA} {p pos tpos : Pos} {elts : List Expr} {kk} (hg : Gl X "zip") (hm : X.mg "zip" = none) (ha : PA X [e, e2] ta)
    (hs : starEach [e, e2] X.env = (false, eval e X.env) :: starEach [e2] X.env := by rfl) (hpl : (backTo pos (starEach [e2] X.env)).any (·.1) = false := by rfl) :
    PI X (.Tuple elts kk tpos) (.Call (.Name "zip" p) [e, e2] [] pos) (uD' ta) := by
  refine ⟨fun pins s σ H R I h => ?_⟩
  refine Call_ (ld_blt I hg hm PyProof.Rows.boot_zip (PyProof.Rows.callWith_type1 (thn (ha.run pos pins s σ H _ I h) fun us s1 ⟨vs, H1, I1, r1, q1⟩ => ?_) hs hpl))
  obtain ⟨x, y, ex, q⟩ := q1
  subst ex
  cases r1 with
  | cons r rr =>
    cases rr with
    | cons r' rr =>
      cases rr
      obtain ⟨t1, rfl⟩ := r
      obtain ⟨t2, rfl⟩ := r'
      refine zip_begins2 (begins_text x _) (begins_text y _) True.intro True.intro fun h' hz hTI hTO h1 h2 hsz hk => wpAny_pyIter_zip hz ?_
      have I2 : Inv X pins σ H1 { s1 with heap := h' } := I1.kept (t' := s1.toks) hk
      have S2 : ZipSep2 (s1.heap.objs.size + 4) (s1.heap.objs.size + 2) (s1.heap.objs.size + 3) s1.heap.objs.size (s1.heap.objs.size + 1) [s1.heap.objs.size] [s1.heap.objs.size + 1] := by
        constructor <;> simp
      refine ⟨s1.heap.objs.size + 4, (s1.heap.objs.size + 4) :: (s1.heap.objs.size + 2) :: (s1.heap.objs.size + 3) :: ([s1.heap.objs.size] ++ [s1.heap.objs.size + 1]), _, _, H1, rfl, I2,
        lc' (fun A hA => GoesN.zip2 S2 (Draws.text (A := A.in1) hA _ x _) (Draws.text (A := A.in1) hA _ y _)) (by simp) (fun A i s Q E st h => wpAny_pyIter_zip st.1 h) (fun i h st b hb => ?_) (fun i u _ hu => py' hu) (fun i u _ hu => py' hu), ⟨hz, hTI, ⟨_, _, hTO⟩, ⟨_, h1, rfl, rfl⟩, ⟨_, h2, rfl, rfl⟩⟩, fun c hcm => ?_, q⟩
      . obtain ⟨hz, hTI, ⟨a1, a2, hTO⟩, ⟨o1, e1, _, d1⟩, ⟨o2, e2, _, d2⟩⟩ := st
        have e' : b = s1.heap.objs.size + 4 \/ b = s1.heap.objs.size + 2 \/ b = s1.heap.objs.size + 3 \/ b = s1.heap.objs.size \/ b = s1.heap.objs.size + 1 := by simpa using hb
        rcases e' with z | z | z | z | z
        . rw [z]; exact ⟨_, hz, fun v q => nomatch q⟩
        . rw [z]; exact ⟨_, hTI, fun v q => nomatch q⟩
        . rw [z]; exact ⟨_, hTO, fun v q => nomatch q⟩
        . rw [z]; exact ⟨o1, e1, fun v q => by rw [d1] at q; cases q⟩
        . rw [z]; exact ⟨o2, e2, fun v q => by rw [d2] at q; cases q⟩
      . have e' : c = s1.heap.objs.size + 4 \/ c = s1.heap.objs.size + 2 \/ c = s1.heap.objs.size + 3 \/ c = s1.heap.objs.size \/ c = s1.heap.objs.size + 1 := by simpa using hcm
        have hle : s1.heap.objs.size <= c := by
          rcases e' with z | z | z | z | z
          . rw [z]; exact Nat.le_add_right _ _
          . rw [z]; exact Nat.le_add_right _ _
          . rw [z]; exact Nat.le_add_right _ _
          . rw [z]; exact Nat.le_refl _
          . rw [z]; exact Nat.le_add_right _ _
        exact I1.fpOk hle (I1.hok.fresh hle)
end S
namespace S
open PySem PySem.Spec PyProof.Rows L2
section
variable {X : Cx} {K : PySem.W.Frag} {to te : TE} {o e : Expr} {H : Hp} {Q : VK}
def t2' (K : PySem.W.Frag) : V -> List V -> Hp -> VK -> Prop := fun x xs H Q => ∃ a p, ∃ ys : List Str, x = .str a /\ xs = [.ref p] /\ (SqL K H p (ys.map V.str) \/ SqT K H p (ys.map V.str)) ∧
    (ys.map (·.length)).sum + ys.length * a.length <= 16777216 /\ Q (.str (Txt.join a ys)) H
def chv (c : Nat) : V := .str ⟨#[c]⟩
end
end S
namespace S
open PySem PySem.Spec PyProof.Rows L2
end S
namespace S
open PySem PySem.Spec PyProof.Rows L2
theorem ea' : ∀ (vs : List Value) (l : List Nat), vs.length = l.length -> (∀ (j : Nat) (v : Value), vs[j]? = some v -> ∃ c u, l[j]? = some c /\ v = .str ⟨#[c]⟩ u) -> StrsAre vs (l.map fun c => ⟨#[c]⟩)
  | [], [], _, _ => .nil
  | [], _ :: _, h, _ => by simp at h
  | _ :: _, [], h, _ => by simp at h
  | v :: vs, c :: l, h, hh => by
    obtain ⟨d, u, h1, rfl⟩ := hh 0 v rfl
    cases h1
    exact .cons _ _ (ea' vs l (by simpa using h) fun j w hw => by
      have := hh (j + 1) w (by simpa using hw)
      simpa using this)
theorem gt' {prog : Program} {w : World} {A : Around} {E : Value -> Shared -> Prop} {s : Shared} {x : Str} {t : Tok} {Q : Value -> Shared -> Prop} (hh : A.handled = none) (h64 : x.cps.size < 64)
    (h : ∀ (h' h'' : Heap) (tk : Nat) (out : List Value) (ss : List Str), (∀ b o, s.heap.get? b = some o -> h'.get? b = some o) -> (∀ b o, h'.get? b = some o -> h''.get? b = some o) -> (∃ e, h''.get? h'.objs.size = some (seqObj "list" out.toArray e)) →
      StrsAre out ss -> ss.Perm (x.cps.toList.map fun c => ⟨#[c]⟩) -> sortedS ss = true -> Q (.ref h'.objs.size) { s with heap := h'', toks := tk }) :
    wpAny (model prog w) A (call (.builtin "sorted") [.str x t]) Q E s := by
  refine Calls.call_function_entry kind_sorted plain_sorted entry_sorted (args_sorted1 _) ?_
  unfold Builtin.«sorted»
  refine wpAny_bind (m := checkCount "sorted" 1 1 _) (wpAny_pure ?_)
  refine wpAny_bind (m := collect (.str x t)) (wpAny_collect_str (A := A.in1) hh x t (fun s' acc hk hg hd ho hacc => ?_) (by rw [sizeLine_eq]; omega))
  obtain ⟨hp, g, d, tk, os⟩ := s
  obtain ⟨hp', g', d', tk', os'⟩ := s'
  obtain rfl : g' = g := hg
  obtain rfl : d' = d := hd
  obtain rfl : os' = os := ho
  have hS : StrsAre acc.toList (x.cps.toList.map fun c => ⟨#[c]⟩) := by
    refine ea' _ _ (by rw [Array.length_toList, Array.length_toList]; exact hacc.1) fun j v hv => ?_
    obtain ⟨c, u, h1, h2⟩ := hacc.2 j v (by simpa using hv)
    exact ⟨c, u, by rw [<- h1]; simp, h2⟩
  have hl : acc.toList.length < 64 := by rw [Array.length_toList, hacc.1]; exact h64
  refine wpAny_bind (wpAny_newList ?_)
  have hoL : (hp'.push (seqObj "list" acc.toList.toArray 0)).get? hp'.objs.size = some (seqObj "list" acc.toList.toArray 0) := Heap.get?_push_size _ rfl
  refine wpAny_bind (wpAny_holding (wpAny_call_entry slot_list_sort ⟨_, hoL, rfl⟩ entry_list_sort (list_sort_treeK strKind_oneLt hoL hS.keysOf (fun v₁ v₂ rest e => keyKind_strs (by rw [<- e]; exact hS)) hl fun st' a1 a2 => ⟨_, rfl, ?_⟩) (args_list_sort _)))
  obtain ⟨ss', h1, h2, h3⟩ := sorted_out_str hS a1 a2
  refine wpAny_pure ⟨_, rfl, h hp' _ tk' _ ss' hk (fun b o hb => ?_) ?_ h1 h2 h3⟩
  . have hlt := Heap.lt_size hb
    rw [sortedHeap_old (Nat.ne_of_lt hlt) (by rw [size_push']; exact Nat.lt_succ_of_lt hlt)]
    exact Heap.get?_push_of_some _ hb
  . obtain ⟨e, he⟩ := sortedHeap_at (out := (arrOf st').map (·.2)) hoL
    exact ⟨e, by rw [he]⟩
def fA' : List V -> Hp -> VK -> Prop := fun vs H Q => ∃ x : Str, vs = [V.str x] /\ x.length < 64 /\ ∀ (ys : List Str) (p : Addr) (H' : Hp), ys.Perm (x.cps.toList.map fun c => ⟨#[c]⟩) -> sortedS ys = true -> H p = none -> Same H H' -> H' p = some (.lst (ys.map V.str)) -> Q (.ref p) H'
theorem g7' {X : Cx} (hc : X.calm = true) : CallR X (.builtin "sorted") fA' := by
  intro pins s σ H vs us Q I r h
  obtain ⟨x, rfl, h64, q⟩ := h
  cases r with
  | cons r rr =>
    cases rr
    obtain ⟨t, rfl⟩ := r
    refine gt' (I.ok.hd hc) h64 fun h' h'' tk out ss hk hk2 ho h1 h2 h3 => ?_
    obtain ⟨e, he⟩ := ho
    have I1 : Inv X pins σ H { s with heap := h' } := I.kept (t' := s.toks) hk
    have hlen : (ss.map V.str).length <= sizeLine := by
      rw [List.length_map, h2.length_eq, List.length_map, Array.length_toList]
      exact small64 h64
    have I2 : Inv X pins σ (upd H h'.objs.size (.lst (ss.map V.str))) { s with heap := h'', toks := tk } :=
      I1.laid (t' := tk) (fun b u hb => hk2 b u hb) (Nat.le_refl _) ⟨hlen, out, e, vals_of_strs h1, he⟩
    have hn : H h'.objs.size = none := I1.hok.fresh (Nat.le_refl _)
    exact ⟨.ref _, _, I2, rfl, q ss _ _ h2 h3 hn (Same.upd hn) upd_same⟩
section
variable {K : PySem.W.Frag} {H : Hp} {Q : VK} {σ : St}
end
theorem qM' {X : Cx} {tg iter : Expr} {w1 w2 : TI} (h1 : PI X tg iter w1) (h2 : PI X tg iter w2) : PI X tg iter (fun σ H R => w1 σ H R \/ w2 σ H R) :=
  ⟨fun pins s σ H R I h => h.elim (h1.run pins s σ H R I) (h2.run pins s σ H R I)⟩
def uC' (K : PySem.W.Frag) (ta : TA) : TI := fun σ H R => uD' ta σ H R \/ RZ.iZipA K ta σ H R
theorem qK' {X : Cx} {e e2 : Expr} {ta : TA} {p pos tpos : Pos} {elts : List Expr} {kk} (hg : Gl X "zip") (hm : X.mg "zip" = none) (ha : PA X [e, e2] ta)
    (hs : starEach [e, e2] X.env = (false, eval e X.env) :: starEach [e2] X.env := by rfl) (hpl : (backTo pos (starEach [e2] X.env)).any (·.1) = false := by rfl) :
    PI X (.Tuple elts kk tpos) (.Call (.Name "zip" p) [e, e2] [] pos) (uC' X.K ta) := qM' (qL' hg hm ha hs hpl) (RZ.pi_zipA hg hm ha hs hpl)
end S
namespace S
open PySem PySem.Spec PyProof.Rows L2
section
variable {K : PySem.W.Frag} {σ : St} {H : Hp} {Q : VK} {te ta tv : TE} {f : Str} {v y : V} {a C dx : Addr} {fs : List (Str × V)} {D : Ends} {R : Hp -> Prop}
end
section
variable {K : PySem.W.Frag} {σ : St} {H : Hp} {Q : VK} {ta : TE} {t : TA} {C a dx : Addr} {m : Str} {sp : Sp} {E : St -> XK} {E' : XK} {fs : List (Str × V)} {vs : List V}
end
section
variable {X : Cx} {k : Nat} {C : Addr} {x m : Str} {ps : List Str} {sp : Sp} {p pos apos : Pos} {e o : Expr} {es : List Expr} {ta : TE} {t : TA} {W : WX} {CX : CXT} {f : Addr} {fd : FuncData} {E : St -> XK}
end
end S
namespace S
open PySem PySem.Spec PyProof.Rows L2
def signs (x : Str) : List V := x.cps.toList.map fun c => V.str ⟨#[c]⟩
end S
namespace S
open PySem PySem.Spec PyProof.Rows L2
structure RoomG (k : Nat) (A : Around) : Prop where
  r : Room k A
  g : A.guards = some []
theorem RoomG.mono {j k : Nat} {A : Around} (h : RoomG k A) (l : j <= k) : RoomG j A := ⟨h.r.mono l, h.g⟩
theorem RoomG.units {k : Nat} {A : Around} (h : RoomG k A) : A.units + 64 < cLine := h.r.units
structure FnG (P : Program) (w : World) (K : PySem.W.Frag) (mg : Str -> Option Value) (base : Heap) (CX : CXT) (k : Nat) (f : Addr) (fd : FuncData) (ps : List Str) (sp : Sp) : Prop where
  len : ∀ vs H Q E, sp vs H Q E -> vs.length = ps.length
  run : ∀ (A : Around) (outer : List Env) (s : Shared) (H : Hp) (args : Args) (us : List Value) (vs : List V) (Q : VK) (E : XK), RoomG k A -> Env0 P w K mg base A outer s H →
    BindsTo s fd args (ps.zip us) -> Vals vs us -> sp vs H Q E -> codeAny (model P w) A (.call (.ref f) args) (CR CX outer P w H s Q E) s
theorem FnG.of {P : Program} {w : World} {K : PySem.W.Frag} {mg : Str -> Option Value} {base : Heap} {CX : CXT} {k : Nat} {f : Addr} {fd : FuncData} {ps : List Str} {sp : Sp} (F : FnOk P w K mg base CX k f fd ps sp) : FnG P w K mg base CX k f fd ps sp :=
  ⟨F.len, fun A o s H as us vs Q E h => F.run A o s H as us vs Q E h.r⟩
section
variable {P : Program} {w : World} {K : PySem.W.Frag} {mg : Str -> Option Value} {base : Heap} {CX : CXT} {f : Addr} {fd : FuncData}
theorem uG' {N ps : List Str} {scope : Scope} (S : FnScope N ps scope) (us : List Value) (n : Nat) : ∀ y ∈ ps.zip us,
    scope.names.lookup y.1 = some .local \/ (scope.names.lookup y.1 = some .cell /\ ((cellsFrom n scope.names []).lookup y.1).isSome = true) := by
  rintro ⟨nm, v⟩ hy
  have q := S.par nm (List.of_mem_zip hy).1
  exact q.imp id fun q => ⟨q, PySem.W.cellsFrom_some _ _ _ (.inl q)⟩
theorem mf' {x qual : Str} {params : Arguments} {body : List Stmt} {scope : Scope} {N ps : List Str} {k : Nat} {sp : Sp} (F : FunD K x qual params body scope [] [] f fd) (S : FnScope N ps scope)
    (len : ∀ vs H Q E, sp vs H Q E -> vs.length = ps.length)
    (hbody : ∀ (cdv oc : Value) (od : Option Addr) (osl : Array (Option Value)), K.lookup f = some ⟨oc, od, .func fd, osl⟩ -> fd.code = cdv -> PySem.W.codeIn K cdv qual = true -> ∀ (A : Around) (o : List Env) (s : Shared) (H : Hp) (vs : List V) (Q : VK) (E : XK), RoomG k (A.deeper (envOfC qual scope s.heap.objs.size f cdv)) -> sp vs H Q E →
      ∃ t, PSs (cxOf CX P w K mg base N qual scope f cdv A o s H E) body t /\ t { nx := fun _ H' => Q .non H', rt := Q } (start N vs) H) : FnG P w K mg base CX (k + 1) f fd ps sp := by
  obtain ⟨oc, od, dV, kV, doc, pm, an, cdv, ct, osl, rfl, lk, hcd, _, _⟩ := F.ex
  constructor
  . exact len
  intro A o s H args us vs Q E hg e0 hb r hsp
  have Ks : K.In s.heap := e0.mod.kin.keeps fun b u e => (e0.bs b u e).1
  have Ls : s.heap.NoLimit := e0.mod.nolimit.keeps fun b u e => (e0.bs b u e).1
  refine codeAny_call_function hg.r.depth (Ks _ _ lk) rfl S.co S.gen rfl (PySem.W.codeRec_of Ks hcd) (hb _ _ _ _ ?_)
  refine wpAny_newFunctionEnv_cells S.kind (uG' S us _) fun env he s1 z => ?_
  subst he
  refine ⟨Ls.keeps z.toInCall.keep, codeAny_func ?_⟩
  obtain ⟨t, pt, tq⟩ := hbody cdv oc od osl lk rfl hcd A o s H vs Q E ⟨hg.r.deeper _, hg.g⟩ hsp
  have J := inv_start (CX := CX) (E := E) S hg.r.hd e0 (len _ _ _ _ hsp) r z
  refine wpAny_mono (pt.run [] s1 (start N vs) H _ J tq) (fun fl s' q => ?_) fun _ _ q => q
  cases fl with
  | next =>
    obtain ⟨σ', H', I, q⟩ := q
    exact ⟨V.non, H', I.os, I.bare, I.base, I.hok, rfl, q⟩
  | ret u =>
    obtain ⟨v, σ', H', I, e, q⟩ := q
    exact ⟨v, H', I.os, I.bare, I.base, I.hok, e, q⟩
  | brk => exact (let ⟨_, _, _, z⟩ := q; z).elim
  | cont => exact (let ⟨_, _, _, z⟩ := q; z).elim
theorem uM' {x qual : Str} {params : Arguments} {body : List Stmt} {scope : Scope} {N ps : List Str} {k : Nat} {sp : Sp} (F : FunD K x qual params body scope [] [] f fd) (S : FnScope N ps scope)
    (len : ∀ vs H Q E, sp vs H Q E -> vs.length = ps.length)
    (hbody : ∀ (cdv : Value) (A : Around) (o : List Env) (s : Shared) (H : Hp) (vs : List V) (Q : VK) (E : XK), RoomG k (A.deeper (envOfC qual scope s.heap.objs.size f cdv)) -> sp vs H Q E →
      ∃ t, PSs (cxOf CX P w K mg base N qual scope f cdv A o s H E) body t /\ t { nx := fun _ H' => Q .non H', rt := Q } (start N vs) H) : FnG P w K mg base CX (k + 1) f fd ps sp :=
  mf' F S len fun cdv _ _ _ _ _ _ => hbody cdv
theorem uP' {X : Cx} {pins : List (Addr × Obj)} {σ : St} {H : Hp} {s s' : Shared} {Q : VK} {E : XK} (hx : PassesAt CX X σ E) (I : Inv X pins σ H s) : ∀ r : Result, CR CX X.stack X.prog X.w H s Q E r s' -> (match r with
    | .ok (.ret u) => EP X pins σ Q u s'
    | .ok _ => False
    | .error e => X.xe e s')
  | .error e, q => hx pins H s e s' I q
  | .ok (.ret u), q => I.after q
  | .ok .next, q => q
  | .ok .brk, q => q
  | .ok .cont, q => q
end
section
variable {X : Cx} {CX : CXT} {k : Nat} {f C : Addr} {fd : FuncData} {ps : List Str} {sp : Sp} {E : St -> XK} {x m : Str} {p pos apos : Pos} {e o : Expr} {es : List Expr} {ta : TE} {t : TA} {W : WX}
theorem ls' {pins : List (Addr × Obj)} {σ : St} {H : Hp} {s : Shared} {Q : VK} {us : List Value} {vs : List V} (F : FnG X.prog X.w X.K X.mg X.base CX k f fd ps sp) (hr : RoomG k X.A)
    (hb : Binds X.K fd ps []) (hx : PassesAt CX X σ (E σ)) (I : Inv X pins σ H s) (r : Vals vs us) (h : sp vs H Q (E σ)) : wpAny (model X.prog X.w) X.A (call (.ref f) us) (EP X pins σ Q) X.xe s := by
  have b := hb s us I.kIn (by rw [List.append_nil, <- r.length]; exact F.len _ _ _ _ h)
  rw [List.append_nil] at b
  refine wpAny_call (codeAny_mono (F.run X.A X.stack s H ⟨us, []⟩ us vs Q (E σ) hr I.env0 b r h) fun res s' q => ?_)
  have z := uP' hx I res q
  revert z
  cases res with
  | error e => exact id
  | ok fl => cases fl <;> exact id
def Og (P : Program) (w : World) (K : PySem.W.Frag) (mg : Str -> Option Value) (base : Heap) (k : Nat) (x : Str) (ps : List Str) (sp : Sp) : Prop :=
  ∃ fd, FnG P w K mg base (L2.CX P w) k (He.ga K x) fd ps sp /\ Binds K fd ps [] /\ PySem.W.keepIn K (.ref (He.ga K x)) = true /\ mg x = some (.ref (He.ga K x))
def OgM (P : Program) (w : World) (K : PySem.W.Frag) (mg : Str -> Option Value) (base : Heap) (k : Nat) (C : Addr) (m : Str) (ps : List Str) (sp : Sp) : Prop :=
  ∃ fd, FnG P w K mg base (L2.CX P w) k (He.ma K C m) fd ps sp /\ Binds K fd ps []
theorem nE' (F : Og X.prog X.w X.K X.mg X.base k x ps sp) (hr : RoomG k X.A) (hg : Gl X x) (tk : Takes X W) (ha : PA X (e :: es) t) (hdb : (x == ("__debug__" : Str)) = false := by decide)
    (he : starEach (e :: es) X.env = (false, eval e X.env) :: starEach es X.env := by rfl) (hpl : (backTo pos (starEach es X.env)).any (·.1) = false := by rfl) : PE X (.Call (.Name x p) (e :: es) [] pos) (tCallS sp (WE W) t) := by
  obtain ⟨fd, F, b, kp, hm⟩ := F
  refine ⟨fun pins s σ H Q I h => wpAny_Call_Name_kw (ld_glob I hg hm ?_ hdb)⟩
  refine PySem.W.callWith_K (h₀ := X.base) I.ok.mod.kin kp (thn (ha.run pos pins s σ H _ I h) fun us s1 ⟨vs, H1, I1, r, q⟩ => ?_) he hpl
  exact ⟨I1.kIn, ls' F hr b (passAt tk σ) I1 r q⟩
end
theorem jB' {P : Program} {w : World} {CX : CXT} {H : Hp} {s s' : Shared} (hO : Only H) (ok : HOk P w H s.heap) (hCX : ∀ e s', CX [] H s (fun _ _ _ => False) e s' -> False) : ∀ res : Result,
    CR CX [] P w H s (fun v _ => v = .bl true) (fun _ _ _ => False) res s' -> res = .ok (.ret (.bool true)) /\ OldK s.heap s'.heap /\ s'.os = s.os /\ AllBare s'.gens
  | .error e, q => (hCX e s' q).elim
  | .ok .next, q => False.elim q
  | .ok .brk, q => False.elim q
  | .ok .cont, q => False.elim q
  | .ok (.ret u), ⟨v, H', os, bare, un, ok', rv, q⟩ => by
    have q : v = .bl true := q
    rw [q] at rv
    cases (show u = Value.bool true from rv)
    refine ⟨rfl, OldK.of_keep fun b o e => ?_, os, bare⟩
    rcases hO b with z | ⟨ob, xs, z⟩
    . exact un.keep b o e z (List.not_mem_nil) (List.not_mem_nil)
    . have e1 := (ok b _ z).1
      have e2 := (ok' b _ (un.frzs b ob _ z)).1
      rw [e] at e1
      cases e1
      exact e2
theorem fM' {P : Program} {w : World} {K : PySem.W.Frag} {mg mb : Str -> Option Value} {CX : CXT} {k : Nat} {fa a : Addr} {fd : FuncData} {x : Str} {sp : Sp} {s : Shared} {vs : List Value} {n0 : Nat} {H : Hp}
    (KX : K.In s.heap) (n1 : s.heap.Ns mainGlobals mg) (n2 : s.heap.Ns builtinsNs mb) (n3 : ∀ x : Str, x ≠ "__name__" -> mb x = bootBuiltins x) (lim : s.heap.NoLimit) (hg : s.gens = #[])
    (ha : s.heap.get? a = some { cls := .type "list", data := .seq vs.toArray n0 }) (hr : Room k callerA) (F : ∀ base : Heap, K.In base -> base.Ns mainGlobals mg -> FnG P w K mg base CX k fa fd [x] sp)
    (hbind : ∀ (s : Shared) (u : Value), BindsTo s fd ⟨[u], []⟩ [(x, u)]) (hO : Only H) (hs : sp [.ref a] H (fun v _ => v = .bl true) fun _ _ _ => False) (hCX : ∀ e s', CX [] H s (fun _ _ _ => False) e s' -> False)
    (ok : HOk P w H s.heap) (one : ∀ b u, H b = some u -> b = a) (out : H a ≠ none -> K.lookup a = none) :
    codeAny (model P w) callerA (.call (.ref fa) ⟨[.ref a], []⟩) (fun r s' => r = .ok (.ret (.bool true)) /\ OldK s.heap s'.heap /\ s'.os = s.os /\ AllBare s'.gens) s := by
  -- an object that is no list of the script stands in the base
  have apart : ∀ {b : Addr} {o : Obj}, s.heap.get? b = some o -> (∀ l n, o.data ≠ .seq l n) -> H b = none := by
    intro b o e d
    cases q : H b with
    | none => rfl
    | some u =>
      have e' := one b u q
      rw [e', ha] at e
      cases e
      exact absurd rfl (d _ _)
  have keep : ∀ {b : Addr} {m : Str -> Option Value}, s.heap.Ns b m -> (hidT s.heap H).Ns b m := by
    rintro b m ⟨o, es, ep, e, d, r⟩
    exact ⟨o, es, ep, hidT_get e (apart e fun l n z => by rw [d] at z; cases z), d, r⟩
  have Kb : K.In (hidT s.heap H) := by
    intro b o e
    refine hidT_get (KX b o e) ?_
    cases q : H b with
    | none => rfl
    | some u =>
      have e' := one b u q
      subst e'
      rw [out (by rw [q]; exact fun z => nomatch z)] at e
      cases e
  have M : Mod K mg (hidT s.heap H) := { kin := Kb, glob := keep n1, blt := ⟨mb, keep n2, n3⟩, nolimit := (let ⟨m, q1, q2⟩ := lim; ⟨m, keep q1, q2⟩) }
  have e0 : Env0 P w K mg (hidT s.heap H) callerA [] s H := { frames := rfl, mod := M, bs := (fun b o e => of_hidT e), bsz := Nat.le_of_eq (hidT_size _ _), funs := trivial, frf := (fun b z => absurd z List.not_mem_nil), hok := ok, bare := .of_eq hg }
  exact codeAny_mono ((F _ Kb (keep n1)).run callerA [] s H ⟨[.ref a], []⟩ [.ref a] [.ref a] _ _ ⟨hr, rfl⟩ e0 (hbind s (.ref a)) (.cons rfl .nil) hs) fun r s' q => jB' hO ok hCX r q
theorem l1' {P : Program} {w : World} {K : PySem.W.Frag} {mg mb : Str -> Option Value} {CX : CXT} {k : Nat} {fa a : Addr} {fd : FuncData} {x : Str} {sp : Sp} {s : Shared} {vs : List Value} {ns : List Int}
    (KX : K.In s.heap) (n1 : s.heap.Ns mainGlobals mg) (n2 : s.heap.Ns builtinsNs mb) (n3 : ∀ x : Str, x ≠ "__name__" -> mb x = bootBuiltins x) (lim : s.heap.NoLimit) (hg : s.gens = #[])
    (ha : s.heap.get? a = some { cls := .type "list", data := .seq vs.toArray }) (hi : IntsAre vs ns) (hl : ns.length <= sizeLine) (hr : Room k callerA)
    (F : ∀ base : Heap, K.In base -> base.Ns mainGlobals mg -> FnG P w K mg base CX k fa fd [x] sp) (hbind : ∀ (s : Shared) (u : Value), BindsTo s fd ⟨[u], []⟩ [(x, u)])
    (hsp : ∀ H : Hp, Only H -> SqL K H a (ns.map V.int) -> sp [.ref a] H (fun v _ => v = .bl true) fun _ _ _ => False) (hCX : ∀ H e s', CX [] H s (fun _ _ _ => False) e s' -> False) :
    codeAny (model P w) callerA (.call (.ref fa) ⟨[.ref a], []⟩) (fun r s' => r = .ok (.ret (.bool true)) /\ OldK s.heap s'.heap /\ s'.os = s.os /\ AllBare s'.gens) s := by
  have rv := vals_ints hi
  have zl : (vs.toArray).size <= sizeLine := by rw [List.size_toArray, hi.length]; exact hl
  rcases hk : K.lookup a with _ | o
  . -- the script alone is tracked
    let H : Hp := fun b => if b = a then some (.frz { cls := .type "list", data := .seq vs.toArray } (.lst (ns.map V.int))) else none
    have Ha : H a = some (.frz { cls := .type "list", data := .seq vs.toArray } (.lst (ns.map V.int))) := if_pos rfl
    have Hb : ∀ b u, H b = some u -> b = a := fun b u z => Classical.byContradiction fun nb => by rw [show H b = none from if_neg nb] at z; cases z
    have hO : Only H := fun b => (Decidable.em (b = a)).elim (fun e => .inr ⟨_, _, if_pos e⟩) fun e => .inl (if_neg e)
    refine fM' KX n1 n2 n3 lim hg ha hr F hbind hO (hsp H hO (.inl (.inr ⟨_, Ha⟩))) (hCX H) (fun b u z => ?_) Hb fun _ => hk
    have eb := Hb b u z
    subst eb
    rw [Ha] at z
    cases z
    exact ⟨ha, by rw [List.length_map]; exact hl, vs, _, rv, ha⟩
  . -- it is one of the module's own
    have e := KX a o hk
    rw [ha] at e
    cases e
    let H : Hp := fun _ => none
    have hO : Only H := fun _ => .inl rfl
    refine fM' KX n1 n2 n3 lim hg ha hr F hbind hO (hsp H hO (.inr ⟨_, vs.toArray, _, hk, rfl, rfl, rfl, zl, rv⟩)) (hCX H) (fun b u z => nomatch z) (fun b u z => nomatch z) fun z => absurd rfl z
theorem mU' {l : PySem.W.OpenLaw} {n k : Nat} {q : Program} {loose : List Str} {XP : (Str -> Option Value) -> Heap -> Prop} {YP : World -> Heap -> Prop} {d : DefRec} {CX : CXT} {x : Str}
    (hn : l.most = some n) (hn2 : n <= sizeLine) (hdf : d.params.defaults = []) (hr : Room k callerA)
    (F : ∀ (w : World) (mg : Str -> Option Value) (fa : Addr) (h : Heap), YP w h -> h.Ns mainGlobals mg -> mg d.name = some (.ref fa) -> ∃ (K : PySem.W.Frag) (fd : FuncData) (sp : Sp), K.In h ∧
      (∀ (s : Shared) (u : Value), BindsTo s fd ⟨[u], []⟩ [(x, u)]) /\ (∀ (H : Hp) (a : Addr) (ns : List Int), ns.length <= n -> Only H -> SqL K H a (ns.map V.int) -> sp [.ref a] H (fun v _ => v = .bl true) fun _ _ _ => False) ∧
        ∀ base : Heap, K.In base -> base.Ns mainGlobals mg -> FnG l.prog w K mg base CX k fa fd [x] sp)
    (hCX : ∀ (H : Hp) (s : Shared) (e : Value) (s' : Shared), CX [] H s (fun _ _ _ => False) e s' -> False) : PySem.W.WalkO q loose XP YP l.row.toRowW d [] (fun f vs => PySem.call f vs) :=
  Att.attach_call hn hdf fun w s₀ s₁ mg mb fa o pm cd doc a vs ns G Y ho hd hcd hmg hobj hints hlen hg => by
    obtain ⟨K, fd, sp, KX, hb, hsp, hF⟩ := F w mg fa _ Y G.T.g hmg
    exact l1' KX G.T.g G.T.b G.T.builtins G.T.nolimit hg hobj hints (Nat.le_trans hlen hn2) hr hF hb (fun H hO hS => hsp H a ns hlen hO hS) fun H e s' => hCX H s₁ e s'
theorem FnG.to0 {P : Program} {w : World} {K : PySem.W.Frag} {mg : Str -> Option Value} {base : Heap} {k : Nat} {f : Addr} {fd : FuncData} {ps : List Str} {sp : Sp} (F : FnG P w K mg base (L2.CX P w) k f fd ps sp) :
    FnG P w K mg base CX0 k f fd ps (fun vs H Q _ => sp vs H Q E0) := by
  refine ⟨fun vs H Q _ h => F.len vs H Q E0 h, fun A o s H args us vs Q _ hr he hb hv hs => codeAny_mono (F.run A o s H args us vs Q E0 hr he hb hv hs) fun r s' q => ?_⟩
  rcases r with e | fl
  . obtain ⟨_, _, _, _, _, _, _, _, _, _, _, _, z⟩ := q
    exact z.elim
  . cases fl <;> exact q
end S
namespace S
open PySem PySem.Spec PyProof.Rows L2
def sx (s : M.Tx) : Str := ⟨s.toArray⟩
theorem fm' (s : M.Tx) : (sx s).cps.toList = s := rfl
theorem bG' (s : M.Tx) : (sx s).length = s.length := by show s.toArray.size = _; simp
theorem tr' {a b : M.Tx} (h : sx a = sx b) : a = b := by have := congrArg (fun z : Str => z.cps.toList) h; exact this
theorem tt' (a b : M.Tx) : sx a ++ sx b = sx (a ++ b) := ep' (by rw [ot', fm', fm', fm'])
def okT (s : M.Tx) : Prop := (∀ c ∈ s, c < 1114112) /\ s.length <= M.bB'
def okK : Key -> Prop
  | .inl _ => True
  | .inr x => okT x.cps.toList
def mB' (kvs : List (Key × V)) : Prop := ∀ p ∈ kvs, okK p.1
theorem mB'.nil : mB' [] := fun _ h => nomatch h
theorem mB'.fst {kvs kvs' : List (Key × V)} (h : mB' kvs) (e : kvs'.map (·.1) = kvs.map (·.1)) : mB' kvs' := fun p hp => by
  have : p.1 ∈ kvs.map (·.1) := by rw [<- e]; exact List.mem_map_of_mem hp
  obtain ⟨q, h1, h2⟩ := List.mem_map.mp this
  rw [<- h2]; exact h q h1
def kD : Key -> M.D
  | .inl i => .int i
  | .inr x => .str x.cps.toList
mutual
def py : M.D -> PyData
  | .bl b => .bool b
  | .int i => .int i
  | .str s => .str (sx s)
  | .tup ds => .tuple (pys ds)
  | .lst ds => .list (pys ds)
  | .dct ks ds => .dict ((pys ks).zip (pys ds))
  | _ => .none
def pys : List M.D -> List PyData
  | [] => []
  | d :: r => py d :: pys r
end
class Wd where
  P : Program
  w : World
  ts : List (Addr × Str)
structure CloD where
  f : Addr
  c : Addr
  q : Str
  ob : Obj
  ws : List V
  caps : List M.D
class Hot where
  hot : Option (Addr × Nat × Option Addr × M.Exc)
  clo : List (Nat × CloD)
abbrev mw' (cs : List (Nat × CloD)) : Hot := ⟨none, cs⟩
instance coldI : Hot := ⟨none, []⟩
def FnO (f : Addr) (ob : Obj) : HO := .ext fun h => h.get? f = some ob
variable [Wd]
mutual
def nk : M.D -> NestedKey
  | .bl b => .num (if b = true then 1 else 0)
  | .int i => .num i
  | .str s => .text (sx s)
  | .tup ds => .tup (nks ds)
  | _ => .none
def nks : List M.D -> List NestedKey
  | [] => []
  | d :: r => nk d :: nks r
end
def lfD : M.D -> Leaf
  | .bl b => .num (if b = true then 1 else 0)
  | .int i => .num i
  | .str s => .text (sx s)
  | _ => .none
def dcL (p : Addr) (kvs : List (Leaf × V)) : HO := .ext fun h => (p == sysModules) = false /\ kvs.length <= sizeLine /\ ∃ vs, KV kvs vs /\ h.DictOf (leafKind Wd.P Wd.w) p vs
abbrev zy' : NestedKey × Addr × V -> NestedKey × Addr × Value -> Prop := fun x y => x.1 = y.1 /\ x.2.1 = y.2.1 /\ RelV x.2.2 y.2.2
def dcN (p : Addr) (xs : List (NestedKey × Addr × V)) : HO := .ext fun h => (p == sysModules) = false /\ xs.length <= sizeLine /\ (xs.map (·.1)).Nodup /\ ∃ ys, Paired zy' xs ys ∧
  ∃ o es ep, h.get? p = some o /\ o.ExactDict /\ o.data = .dict es ep /\ es.toList = ys.map (entryOfKey (nestedKind Wd.P Wd.w))
structure LeafKeys (ks : List M.D) (ls : List Leaf) : Prop where
  e : ls = ks.map lfD
  s : ∀ d ∈ ks, M.sca d = true
structure NestKeys (ks : List M.D) (xs : List (NestedKey × Addr × V)) : Prop where
  e : xs.map (·.1) = ks.map nk
  s : ∀ d ∈ ks, M.kat d = true /\ M.dep d <= 8 /\ M.sca d = false
section
variable (K : PySem.W.Frag)
mutual
/-- v stands for d: what it stands on lies in F and never changes; T: where the world's objects stand -/
inductive Fz (F : Hp) (T : List Addr) : V -> M.D -> Prop
  | non : Fz F T .non .non
  | bl (b : Bool) : Fz F T (.bl b) (.bl b)
  | int (i : Int) : Fz F T (.int i) (.int i)
  | str {s : M.Tx} : okT s -> Fz F T (.str (sx s)) (.str s)
  | tup {a : Addr} {vs : List V} {ds : List M.D} : SqT K F a vs -> FzA F T vs ds -> Fz F T (.ref a) (.tup ds)
  | lst {a : Addr} {vs : List V} {ds : List M.D} : F a = some (.lst vs) -> FzA F T vs ds -> Fz F T (.ref a) (.lst ds)
  | dct {a : Addr} {kvs : List (Key × V)} {ds : List M.D} : Rd F a (.dK kvs) -> mB' kvs -> FzA F T (kvs.map (·.2)) ds -> Fz F T (.ref a) (.dct (kvs.map fun p => kD p.1) ds)
  | dcl {a : Addr} {kvs : List (Leaf × V)} {ks ds : List M.D} : Rd F a (dcL a kvs) -> LeafKeys ks (kvs.map (·.1)) -> FzA F T (kvs.map (·.2)) ds -> Fz F T (.ref a) (.dcx ks ds)
  | dcn {a : Addr} {xs : List (NestedKey × Addr × V)} {ks ds : List M.D} : Rd F a (dcN a xs) -> NestKeys ks xs -> FzA F T (xs.map fun x => .ref x.2.1) ks -> FzA F T (xs.map (·.2.2)) ds -> Fz F T (.ref a) (.dcx ks ds)
  | rep (d : M.D) : Fz F T (.str (py d).shown) (.rep d)
  | obj {n : Nat} {a : Addr} : T[n]? = some a -> Fz F T (.ref a) (.obj n)
  | ty (n : String) : Fz F T (.ty n) (.ty n)
  | fn (x : String) : Fz F T (.ref (He.ga K x)) (.fn x)
  | scr {a : Addr} {vs : List V} {ds : List M.D} : SqL K F a vs -> FzA F T vs ds -> Fz F T (.ref a) (.scr ds)
inductive FzA (F : Hp) (T : List Addr) : List V -> List M.D -> Prop
  | nil : FzA F T [] []
  | cons {v : V} {vs : List V} {d : M.D} {ds : List M.D} : Fz F T v d -> FzA F T vs ds -> FzA F T (v :: vs) (d :: ds)
end
abbrev Fp := List (Addr × HO)
mutual
/-- v stands for o, alone; fp: what it stands on and may change -/
inductive Rp (F : Hp) (T : List Addr) : V -> M.O -> Fp -> Prop
  | fz {v : V} {d : M.D} : Fz K F T v d -> Rp F T v (.fz d) []
  | lst {p : Addr} {vs : List V} {os : List M.O} {fp : Fp} : RpA F T vs os fp -> Rp F T (.ref p) (.lst os) ((p, .lst vs) :: fp)
  | tup {p : Addr} {vs : List V} {os : List M.O} {fp : Fp} : RpA F T vs os fp -> Rp F T (.ref p) (.tup os) ((p, .tup vs) :: fp)
  | dct {p : Addr} {kvs : List (Key × V)} {os : List M.O} {fp : Fp} : mB' kvs -> RpA F T (kvs.map (·.2)) os fp -> Rp F T (.ref p) (.dct (kvs.map fun q => kD q.1) os) ((p, .dK kvs) :: fp)
  | dcl {p : Addr} {kvs : List (Leaf × V)} {ks : List M.D} {os : List M.O} {fp : Fp} : LeafKeys ks (kvs.map (·.1)) -> RpA F T (kvs.map (·.2)) os fp -> Rp F T (.ref p) (.dcx ks os) ((p, dcL p kvs) :: fp)
  | dcn {p : Addr} {xs : List (NestedKey × Addr × V)} {ks : List M.D} {os : List M.O} {fp : Fp} : NestKeys ks xs -> FzA K F T (xs.map fun x => .ref x.2.1) ks -> RpA F T (xs.map (·.2.2)) os fp -> Rp F T (.ref p) (.dcx ks os) ((p, dcN p xs) :: fp)
inductive RpA (F : Hp) (T : List Addr) : List V -> List M.O -> Fp -> Prop
  | nil : RpA F T [] [] []
  | cons {v : V} {vs : List V} {o : M.O} {os : List M.O} {fp fq : Fp} : Rp F T v o fp -> RpA F T vs os fq -> RpA F T (v :: vs) (o :: os) (fp ++ fq)
end
def XcR (F : Hp) (T : List Addr) (x : M.Exc) (cls : Value) (dd : Option Addr) : Prop :=
  cls = .ref (He.ga K x.cls) /\ ((x.fs = [] /\ dd = none) \/ ∃ (a : Addr) (f : String) (v : V) (d : M.D), x.fs = [(f, d)] /\ dd = some a /\ F a = some (.xd [(Str.ofString f, v)]) /\ Fz K F T v d)
structure CloAt (F : Hp) (T : List Addr) (c : CloD) : Prop where
  fn : Rd F c.f (FnO c.f c.ob)
  code : Rd F c.c (LamX.CodeO c.c c.q)
  caps : FzA K F T c.ws c.caps
variable [Hot]
inductive RpE (F : Hp) (T : List Addr) : St -> List (Option M.O) -> Fp -> Prop
  | nil : RpE F T [] [] []
  | off {x : Option V} {σ : St} {env : List (Option M.O)} {fp : Fp} : RpE F T σ env fp -> RpE F T (x :: σ) (none :: env) fp
  | on {v : V} {o : M.O} {σ : St} {env : List (Option M.O)} {fp fq : Fp} : Rp K F T v o fp -> RpE F T σ env fq -> RpE F T (some v :: σ) (some o :: env) (fp ++ fq)
  | hot {a : Addr} {dd : Option Addr} {x : M.Exc} {σ : St} {env : List (Option M.O)} {fp : Fp} : Hot.hot = some (a, env.length, dd, x) -> XcR K F T x (.ref (He.ga K x.cls)) dd -> RpE F T σ env fp -> RpE F T (some (.ref a) :: σ) (some .exn :: env) fp
  | clo {c : CloD} {σ : St} {env : List (Option M.O)} {fp : Fp} : Hot.clo.lookup env.length = some c -> CloAt K F T c -> RpE F T σ env fp -> RpE F T (some (.ref c.f) :: σ) (some .clo :: env) fp
inductive RpOb (F : Hp) (T : List Addr) : Addr -> M.Ob -> Fp -> Prop
  | lst {a : Addr} {vs : List V} {os : List M.O} {fp : Fp} : RpA K F T vs os fp -> RpOb F T a (.lst os) ((a, .lst vs) :: fp)
  | dct {a : Addr} {kvs : List (Key × V)} {os : List M.O} {fp : Fp} : mB' kvs -> RpA K F T (kvs.map (·.2)) os fp -> RpOb F T a (.dct (kvs.map fun q => kD q.1) os) ((a, .dK kvs) :: fp)
  | dcl {a : Addr} {kvs : List (Leaf × V)} {ks : List M.D} {os : List M.O} {fp : Fp} : LeafKeys ks (kvs.map (·.1)) -> RpA K F T (kvs.map (·.2)) os fp -> RpOb F T a (.dcx ks os) ((a, dcL a kvs) :: fp)
  | dcn {a : Addr} {xs : List (NestedKey × Addr × V)} {ks : List M.D} {os : List M.O} {fp : Fp} : NestKeys ks xs -> FzA K F T (xs.map fun x => .ref x.2.1) ks -> RpA K F T (xs.map (·.2.2)) os fp -> RpOb F T a (.dcx ks os) ((a, dcN a xs) :: fp)
  | ins {a dx : Addr} {C : String} {fs : List (String × V)} {os : List M.O} {fp : Fp} : F dx = some (.own a) -> RpA K F T (fs.map (·.2)) os fp →
      RpOb F T a (.ins C ((fs.map (·.1)).zip os)) ((a, .ins (He.ga K C) dx (fs.map fun q => (Str.ofString q.1, q.2))) :: fp)
inductive RpW (F : Hp) (T : List Addr) : List Addr -> M.W -> Fp -> Prop
  | nil : RpW F T [] [] []
  | cons {a : Addr} {l : List Addr} {ob : M.Ob} {w : M.W} {fp fq : Fp} : RpOb K F T a ob fp -> RpW F T l w fq -> RpW F T (a :: l) (ob :: w) (fp ++ fq)
structure Kept (F H : Hp) (fp : Fp) (F' H' : Hp) (fp' : Fp) : Prop where
  un : ∀ a, F a = none -> H a ≠ none -> (∀ e ∈ fp, e.1 ≠ a) -> F' a = none /\ H' a = H a /\ ∀ e ∈ fp', e.1 ≠ a
  cd : ∀ c q, Rd F c (LamX.CodeO c q) -> Rd F' c (LamX.CodeO c q)
structure TbAt (F H : Hp) (fp : Fp) (P : Addr) (q : Str) : Prop where
  f : F P = none
  n : ∀ e ∈ fp, e.1 ≠ P
  t : ∃ ps : Array Value, H P = some (.tbl ps) /\ TriplesOk ps.toList /\ ∀ (pos : Pos) (cv : Value), codeAmong pos ps.toList = some cv -> ∃ c, cv = .ref c /\ Rd F c (LamX.CodeO c q)
theorem TbAt.kept {F H F' H' : Hp} {fp fp' : Fp} {P : Addr} {q : Str} (h : TbAt F H fp P q) (k : Kept F H fp F' H' fp') : TbAt F' H' fp' P q := by
  obtain ⟨ps, h1, h2, h3⟩ := h.t
  obtain ⟨k1, k2, k3⟩ := k.un P h.f (by rw [h1]; simp) h.n
  refine ⟨k1, k3, ps, by rw [k2]; exact h1, h2, fun pos cv hc => ?_⟩
  obtain ⟨c, e1, e2⟩ := h3 pos cv hc
  exact ⟨c, e1, k.cd c q e2⟩
structure FpH (F H : Hp) (fp : Fp) : Prop where
  low : Same F H
  at_ : ∀ e ∈ fp, H e.1 = some e.2 /\ F e.1 = none
  nd : (fp.map (·.1)).Nodup
  tb : ∀ p ∈ Wd.ts, TbAt F H fp p.1 p.2
theorem FpH.tbs {F H F' H' : Hp} {fp fp' : Fp} (f : FpH F H fp) (un : ∀ a, F a = none -> H a ≠ none -> (∀ e ∈ fp, e.1 ≠ a) -> F' a = none /\ H' a = H a /\ ∀ e ∈ fp', e.1 ≠ a)
    (cd : ∀ c q, Rd F c (LamX.CodeO c q) -> Rd F' c (LamX.CodeO c q) := by exact fun _ _ h => h) : ∀ p ∈ Wd.ts, TbAt F' H' fp' p.1 p.2 := fun p hp => (f.tb p hp).kept ⟨un, cd⟩
theorem gx' {F F' : Hp} (s : Same F F') {c : Addr} {o : HO} (h : Rd F c o) : Rd F' c o := by
  rcases h with h | ⟨od, h⟩
  . exact .inl (s _ _ h)
  . exact .inr ⟨od, s _ _ h⟩
def Rel (ρ : M.PSt) (σ : St) (H F : Hp) (T : List Addr) (fr : Fp) : Prop := ∃ fe fw, RpE K F T σ ρ.env fe /\ RpW K F T T ρ.w fw /\ FpH F H (fe ++ (fw ++ fr))
abbrev ou' (w : M.W) (H F : Hp) (T : List Addr) (fr : Fp) : Prop := @Rel _ K coldI ⟨[], w⟩ [] H F T fr
theorem xr' {K : PySem.W.Frag} {F : Hp} {T : List Addr} : @RpE _ K coldI F T [] [] [] := @RpE.nil _ K coldI F T
def Lkb (o : HO) : Prop := (∃ kvs, o = .dK kvs) \/ ∃ φ, o = .ext φ
def Wk (F F' : Hp) : Prop := ∀ a o, F a = some o -> F' a = some o \/ Lkb o /\ ∃ od, F' a = some (.frz od o)
theorem Wk.of {F F' : Hp} (s : Same F F') : Wk F F' := fun a o h => .inl (s a o h)
theorem Wk.trans {F F' F2 : Hp} (s : Wk F F') (r : Wk F' F2) : Wk F F2 := fun a o h => by
  rcases s a o h with h1 | ⟨hl, od, h1⟩
  . exact r a o h1
  . rcases r a _ h1 with h2 | ⟨⟨_, e⟩ | ⟨_, e⟩, _⟩
    . exact .inr ⟨hl, od, h2⟩
    . cases e
    . cases e
theorem Wk.at_ {F F' : Hp} (s : Wk F F') {a : Addr} {o : HO} (h : F a = some o) (n : ∀ kvs, o ≠ .dK kvs) (n2 : ∀ φ, o ≠ .ext φ := by intro _ e; cases e) : F' a = some o := by
  rcases s a o h with h | ⟨⟨kvs, rfl⟩ | ⟨φ, rfl⟩, od, _⟩
  . exact h
  . exact absurd rfl (n kvs)
  . exact absurd rfl (n2 φ)
theorem Wk.rd {F F' : Hp} (s : Wk F F') {a : Addr} {u : HO} (hl : Lkb u) (h : Rd F a u) : Rd F' a u := by
  rcases h with h | ⟨o, h⟩
  . rcases s _ _ h with h | ⟨_, od, h⟩
    . exact .inl h
    . exact .inr ⟨od, h⟩
  . exact .inr ⟨o, s.at_ h fun _ e => nomatch e⟩
theorem Wk.lst {F F' : Hp} (s : Wk F F') {a : Addr} {vs : List V} (h : F a = some (.lst vs)) : F' a = some (.lst vs) := s.at_ h fun _ e => nomatch e
theorem Wk.dict {F F' : Hp} (s : Wk F F') {a : Addr} {kvs : List (Key × V)} (h : Rd F a (.dK kvs)) : Rd F' a (.dK kvs) := by
  exact s.rd (.inl ⟨_, rfl⟩) h
theorem Wk.seqT {K : PySem.W.Frag} {F F' : Hp} (s : Wk F F') {a : Addr} {xs : List V} (h : SqT K F a xs) : SqT K F' a xs := by
  rcases h with (h | ⟨o, h⟩) | h
  . exact .inl (.inl (s.at_ h fun _ e => nomatch e))
  . exact .inl (.inr ⟨o, s.at_ h fun _ e => nomatch e⟩)
  . exact .inr h
theorem Wk.seqL {K : PySem.W.Frag} {F F' : Hp} (s : Wk F F') {a : Addr} {xs : List V} (h : SqL K F a xs) : SqL K F' a xs := by
  rcases h with (h | ⟨o, h⟩) | h
  . exact .inl (.inl (s.at_ h fun _ e => nomatch e))
  . exact .inl (.inr ⟨o, s.at_ h fun _ e => nomatch e⟩)
  . exact .inr h
structure Ext (F : Hp) (T : List Addr) (F' : Hp) (T' : List Addr) : Prop where
  f : Wk F F'
  t : T <+: T'
end
variable [Hot]
section
variable {K : PySem.W.Frag} {F F' F2 H H' : Hp} {T T' T2 : List Addr}
theorem Ext.refl : Ext F T F T := ⟨fun _ _ h => .inl h, List.prefix_refl _⟩
theorem Ext.trans (a : Ext F T F' T') (b : Ext F' T' F2 T2) : Ext F T F2 T2 := ⟨a.f.trans b.f, a.t.trans b.t⟩
theorem Ext.of (h : Same F F') : Ext F T F' T := ⟨.of h, List.prefix_refl _⟩
theorem Ext.get (e : Ext F T F' T') {n : Nat} {a : Addr} (h : T[n]? = some a) : T'[n]? = some a := by
  obtain ⟨r, rfl⟩ := e.t
  rw [List.getElem?_append_left (List.getElem?_eq_some_iff.mp h).1]
  exact h
mutual
theorem Fz.mono (e : Ext F T F' T') : ∀ {v : V} {d : M.D}, Fz K F T v d -> Fz K F' T' v d
  | _, _, .non => .non
  | _, _, .bl b => .bl b
  | _, _, .int i => .int i
  | _, _, .str h => .str h
  | _, _, .tup h r => .tup (e.f.seqT h) (FzA.mono e r)
  | _, _, .lst h r => .lst (e.f.lst h) (FzA.mono e r)
  | _, _, .dct h k r => .dct (e.f.dict h) k (FzA.mono e r)
  | _, _, .dcl h k r => .dcl (e.f.rd (.inr ⟨_, rfl⟩) h) k (FzA.mono e r)
  | _, _, .dcn h k q r => .dcn (e.f.rd (.inr ⟨_, rfl⟩) h) k (FzA.mono e q) (FzA.mono e r)
  | _, _, .rep d => .rep d
  | _, _, .obj h => .obj (e.get h)
  | _, _, .ty n => .ty n
  | _, _, .fn x => .fn x
  | _, _, .scr h r => .scr (e.f.seqL h) (FzA.mono e r)
theorem FzA.mono (e : Ext F T F' T') : ∀ {vs : List V} {ds : List M.D}, FzA K F T vs ds -> FzA K F' T' vs ds
  | _, _, .nil => .nil
  | _, _, .cons h r => .cons (Fz.mono e h) (FzA.mono e r)
end
mutual
theorem Rp.mono (e : Ext F T F' T') : ∀ {v : V} {o : M.O} {fp : Fp}, Rp K F T v o fp -> Rp K F' T' v o fp
  | _, _, _, .fz h => .fz (h.mono e)
  | _, _, _, .lst r => .lst (RpA.mono e r)
  | _, _, _, .tup r => .tup (RpA.mono e r)
  | _, _, _, .dct k r => .dct k (RpA.mono e r)
  | _, _, _, .dcl k r => .dcl k (RpA.mono e r)
  | _, _, _, .dcn k q r => .dcn k (q.mono e) (RpA.mono e r)
theorem RpA.mono (e : Ext F T F' T') : ∀ {vs : List V} {os : List M.O} {fp : Fp}, RpA K F T vs os fp -> RpA K F' T' vs os fp
  | _, _, _, .nil => .nil
  | _, _, _, .cons h r => .cons (Rp.mono e h) (RpA.mono e r)
end
theorem XcR.mono' (e : Ext F T F' T') {x : M.Exc} {cls : Value} {dd : Option Addr} (h : XcR K F T x cls dd) : XcR K F' T' x cls dd := by
  obtain ⟨h1, h2 | ⟨a, f, v, d, h3, h4, h5, h6⟩⟩ := h
  . exact ⟨h1, .inl h2⟩
  . exact ⟨h1, .inr ⟨a, f, v, d, h3, h4, e.f.at_ h5 (fun _ z => nomatch z), h6.mono e⟩⟩
theorem CloAt.mono (e : Ext F T F' T') {c : CloD} (h : CloAt K F T c) : CloAt K F' T' c := ⟨e.f.rd (.inr ⟨_, rfl⟩) h.fn, e.f.rd (.inr ⟨_, rfl⟩) h.code, h.caps.mono e⟩
theorem RpE.mono (e : Ext F T F' T') {σ : St} {env : List (Option M.O)} {fp : Fp} (h : RpE K F T σ env fp) : RpE K F' T' σ env fp := by
  induction h with
  | nil => exact .nil
  | off _ ih => exact .off ih
  | on r _ ih => exact .on (r.mono e) ih
  | hot h z _ ih => exact .hot h (z.mono' e) ih
  | clo h z _ ih => exact .clo h (z.mono e) ih
theorem RpOb.mono (e : Ext F T F' T') {a : Addr} {ob : M.Ob} {fp : Fp} (h : RpOb K F T a ob fp) : RpOb K F' T' a ob fp := by
  cases h with
  | lst r => exact .lst (r.mono e)
  | dct k r => exact .dct k (r.mono e)
  | dcl k r => exact .dcl k (r.mono e)
  | dcn k q r => exact .dcn k (q.mono e) (r.mono e)
  | ins d r => exact .ins (e.f.at_ d fun _ z => nomatch z) (r.mono e)
theorem RpW.mono (e : Ext F T F' T') {l : List Addr} {w : M.W} {fp : Fp} (h : RpW K F T l w fp) : RpW K F' T' l w fp := by
  induction h with
  | nil => exact .nil
  | cons r _ ih => exact .cons (r.mono e) ih
theorem FpH.new {p : Addr} {o : HO} {fp : Fp} (f : FpH F H fp) (hp : H p = none) : FpH (upd F p o) (upd H p o) fp := by
  have np : ∀ e ∈ fp, e.1 ≠ p := fun e he => ne_of_none (f.at_ e he).1 hp
  refine ⟨fun a u h => ?_, fun e he => ?_, f.nd, f.tbs (fun a h1 h2 h3 => ?_) fun c q h => gx' (fun b u e => by rw [upd_ne (fun z => by rw [z] at e; rw [f.low _ _ e] at hp; cases hp)]; exact e) h⟩
  . by_cases ha : a = p
    . subst ha; rw [upd_same] at h ⊢; exact h
    . rw [upd_ne ha] at h ⊢; exact f.low _ _ h
  . rw [upd_ne (np e he), upd_ne (np e he)]; exact f.at_ e he
  . have ha : a ≠ p := fun z => h2 (by rw [z]; exact hp)
    exact ⟨by rw [upd_ne ha]; exact h1, upd_ne ha, h3⟩
theorem FpH.free {fp : Fp} (f : FpH F H fp) {p : Addr} (hp : H p = none) : F p = none := by
  cases h : F p with
  | none => rfl
  | some o => rw [f.low _ _ h] at hp; cases hp
theorem cj' {p : Addr} {o : HO} (h : F p = none) : Same F (upd F p o) := fun b u e => by rw [upd_ne (ne_of_none e h)]; exact e
end
section
variable {K : PySem.W.Frag} {W : WX} {α β : Type}
abbrev Wx := M.Exc -> M.PSt -> Prop
def aS' (r : M.Res α) (P : α -> M.PSt -> Prop) (X : Wx) : Prop := match r with
  | .ok a ρ => P a ρ
  | .exc x ρ => X x ρ
  | .bad => False
theorem aS'.bind {r : M.Res α} {f : α -> M.PSt -> M.Res β} {P : β -> M.PSt -> Prop} {X : Wx} (h : aS' (r.bind f) P X) : aS' r (fun a ρ => aS' (f a ρ) P X) X := by
  cases r with
  | ok a ρ => exact h
  | exc x ρ => exact h
  | bad => exact h
theorem aS'.ofO {o : Option α} {ρ : M.PSt} {P : α -> M.PSt -> Prop} {X : Wx} (h : aS' (M.ofO o ρ) P X) : ∃ a, o = some a /\ P a ρ := by
  cases o with
  | none => exact h.elim
  | some a => exact ⟨a, rfl, h⟩
theorem aS'.mono {r : M.Res α} {P P' : α -> M.PSt -> Prop} {X X' : Wx} (h : aS' r P X) (hp : ∀ a ρ, P a ρ -> P' a ρ) (hx : ∀ x ρ, X x ρ -> X' x ρ) : aS' r P' X' := by
  cases r with
  | ok a ρ => exact hp _ _ h
  | exc x ρ => exact hx _ _ h
  | bad => exact h
def EX (K : PySem.W.Frag) (W : WX) (σ : St) (F : Hp) (T : List Addr) (fr : Fp) : Wx := fun x ρ => ∀ cls dd H' F' T', Ext F T F' T' -> XcR K F' T' x cls dd -> Rel K ρ σ H' F' T' fr -> W cls dd σ H'
theorem EX.mono {σ : St} {F F' : Hp} {T T' : List Addr} {fr : Fp} {x : M.Exc} {ρ : M.PSt} (h : EX K W σ F T fr x ρ) (e : Ext F T F' T') : EX K W σ F' T' fr x ρ := fun cls dd H' F2 T2 e2 => h cls dd H' F2 T2 (e.trans e2)
def qE (K : PySem.W.Frag) (W : WX) (m : M.ME) : TE := fun σ H Q => ∃ ρ F T fr, Rel K ρ σ H F T fr ∧
  aS' (m ρ) (fun d ρ' => ∀ v H' F' T', Ext F T F' T' -> Fz K F' T' v d -> Rel K ρ' σ H' F' T' fr -> Q v H') (EX K W σ F T fr)
def qO (K : PySem.W.Frag) (W : WX) (m : M.MO) : TE := fun σ H Q => ∃ ρ F T fr, Rel K ρ σ H F T fr ∧
  aS' (m ρ) (fun o ρ' => ∀ v H' F' T' fp, Ext F T F' T' -> Rp K F' T' v o fp -> Rel K ρ' σ H' F' T' (fp ++ fr) -> Q v H') (EX K W σ F T fr)
def qA (K : PySem.W.Frag) (W : WX) (m : M.MA) : TA := fun σ H Q => ∃ ρ F T fr, Rel K ρ σ H F T fr ∧
  aS' (m ρ) (fun ds ρ' => ∀ vs H' F' T', Ext F T F' T' -> FzA K F' T' vs ds -> Rel K ρ' σ H' F' T' fr -> Q vs H') (EX K W σ F T fr)
def qOA (K : PySem.W.Frag) (W : WX) (m : M.MOA) : TA := fun σ H Q => ∃ ρ F T fr, Rel K ρ σ H F T fr ∧
  aS' (m ρ) (fun os ρ' => ∀ vs H' F' T' fp, Ext F T F' T' -> RpA K F' T' vs os fp -> Rel K ρ' σ H' F' T' (fp ++ fr) -> Q vs H') (EX K W σ F T fr)
def qT (K : PySem.W.Frag) (W : WX) (m : M.MT) : TT := fun σ H Q => ∃ ρ F T fr, Rel K ρ σ H F T fr ∧
  aS' (m ρ) (fun b ρ' => ∀ H' F' T', Ext F T F' T' -> Rel K ρ' σ H' F' T' fr -> Q b H') (EX K W σ F T fr)
def qP (K : PySem.W.Frag) (W : WX) (m : M.MP) : TO := fun σ H Q => ∃ ρ F T fr, Rel K ρ σ H F T fr ∧
  aS' (m ρ) (fun b ρ' => ∀ H' F' T', Ext F T F' T' -> Rel K ρ' σ H' F' T' fr -> Q b H') (EX K W σ F T fr)
def a6' (K : PySem.W.Frag) (W : WX) (D : Ends) (F : Hp) (T : List Addr) (fr : Fp) : M.Out -> Prop
  | .nx ρ => ∀ σ' H' F' T', Ext F T F' T' -> Rel K ρ σ' H' F' T' fr -> D.nx σ' H'
  | .bk ρ => ∀ σ' H' F' T', Ext F T F' T' -> Rel K ρ σ' H' F' T' fr -> D.bk σ' H'
  | .ct ρ => ∀ σ' H' F' T', Ext F T F' T' -> Rel K ρ σ' H' F' T' fr -> D.ct σ' H'
  | .rt o w => ∀ v H' F' T' fp, Ext F T F' T' -> Rp K F' T' v o fp -> ou' K (w) H' F' T' (fp ++ fr) -> D.rt v H'
  | .exc x ρ => ∀ σ' cls dd H' F' T', Ext F T F' T' -> XcR K F' T' x cls dd -> Rel K ρ σ' H' F' T' fr -> W cls dd σ' H'
  | .bad => False
def qS (K : PySem.W.Frag) (W : WX) (m : M.MS) : TS := fun D σ H => ∃ ρ F T fr, Rel K ρ σ H F T fr /\ a6' K W D F T fr (m ρ)
abbrev SE (X : Cx) (W : WX) (e : Expr) (m : M.ME) : Prop := PE X e (qE X.K W m)
abbrev SO (X : Cx) (W : WX) (e : Expr) (m : M.MO) : Prop := PE X e (qO X.K W m)
abbrev SA (X : Cx) (W : WX) (es : List Expr) (m : M.MA) : Prop := PA X es (qA X.K W m)
abbrev SOA (X : Cx) (W : WX) (es : List Expr) (m : M.MOA) : Prop := PA X es (qOA X.K W m)
abbrev ST (X : Cx) (W : WX) (e : Expr) (m : M.MT) : Prop := PT X e (qT X.K W m)
abbrev SS (X : Cx) (W : WX) (s : Stmt) (m : M.MS) : Prop := PS X s (qS X.K W m)
abbrev SSs (X : Cx) (W : WX) (s : List Stmt) (m : M.MS) : Prop := PSs X s (qS X.K W m)
theorem PE.imp {X : Cx} {e : Expr} {t t' : TE} (h : PE X e t) (i : ∀ σ H Q, t' σ H Q -> t σ H Q) : PE X e t' := ⟨fun pins s σ H Q I q => h.run pins s σ H Q I (i σ H Q q)⟩
theorem PT.imp {X : Cx} {e : Expr} {t t' : TT} (h : PT X e t) (i : ∀ σ H Q, t' σ H Q -> t σ H Q) : PT X e t' := ⟨fun pins s σ H Q I q => h.run pins s σ H Q I (i σ H Q q)⟩
theorem PW.imp {X : Cx} {e : Expr} {t t' : TT} (h : PW X e t) (i : ∀ σ H Q, t' σ H Q -> t σ H Q) : PW X e t' := ⟨fun wh pins s σ H Q I q => h.run wh pins s σ H Q I (i σ H Q q)⟩
theorem PA.imp {X : Cx} {e : List Expr} {t t' : TA} (h : PA X e t) (i : ∀ σ H Q, t' σ H Q -> t σ H Q) : PA X e t' := ⟨fun pos pins s σ H Q I q => h.run pos pins s σ H Q I (i σ H Q q)⟩
theorem PS.imp {X : Cx} {e : Stmt} {t t' : TS} (h : PS X e t) (i : ∀ D σ H, t' D σ H -> t D σ H) : PS X e t' := ⟨fun pins s σ H Q I q => h.run pins s σ H Q I (i Q σ H q)⟩
theorem PSs.imp {X : Cx} {e : List Stmt} {t t' : TS} (h : PSs X e t) (i : ∀ D σ H, t' D σ H -> t D σ H) : PSs X e t' := ⟨fun pins s σ H Q I q => h.run pins s σ H Q I (i Q σ H q)⟩
theorem PO.imp {X : Cx} {e : Option Expr} {t t' : TO} (h : PO X e t) (i : ∀ σ H Q, t' σ H Q -> t σ H Q) : PO X e t' := ⟨fun pins s σ H Q I q => h.run pins s σ H Q I (i σ H Q q)⟩
variable {σ : St} {H F : Hp} {T : List Addr} {fr : Fp} {ρ : M.PSt} {P : β -> M.PSt -> Prop} {X : Wx}
theorem aD' {m : M.ME} {k : M.D -> M.PSt -> M.Res β} {Q : VK} (rel : Rel K ρ σ H F T fr) (h : aS' ((m ρ).bind k) P (EX K W σ F T fr))
    (q : ∀ d ρ1 v H1 F1 T1, Ext F T F1 T1 -> Fz K F1 T1 v d -> Rel K ρ1 σ H1 F1 T1 fr -> aS' (k d ρ1) P (EX K W σ F1 T1 fr) -> Q v H1) : qE K W m σ H Q :=
  ⟨ρ, F, T, fr, rel, (aS'.bind h).mono (fun d ρ1 h1 v H1 F1 T1 e z r => q d ρ1 v H1 F1 T1 e z r (h1.mono (fun _ _ z => z) fun _ _ z => z.mono e)) fun _ _ z => z⟩
theorem qH' {m : M.MO} {k : M.O -> M.PSt -> M.Res β} {Q : VK} (rel : Rel K ρ σ H F T fr) (h : aS' ((m ρ).bind k) P (EX K W σ F T fr))
    (q : ∀ o ρ1 v H1 F1 T1 fp, Ext F T F1 T1 -> Rp K F1 T1 v o fp -> Rel K ρ1 σ H1 F1 T1 (fp ++ fr) -> aS' (k o ρ1) P (EX K W σ F1 T1 fr) -> Q v H1) : qO K W m σ H Q :=
  ⟨ρ, F, T, fr, rel, (aS'.bind h).mono (fun d ρ1 h1 v H1 F1 T1 fp e z r => q d ρ1 v H1 F1 T1 fp e z r (h1.mono (fun _ _ z => z) fun _ _ z => z.mono e)) fun _ _ z => z⟩
theorem cB' {m : M.MA} {k : List M.D -> M.PSt -> M.Res β} {Q : List V -> Hp -> Prop} (rel : Rel K ρ σ H F T fr) (h : aS' ((m ρ).bind k) P (EX K W σ F T fr))
    (q : ∀ ds ρ1 vs H1 F1 T1, Ext F T F1 T1 -> FzA K F1 T1 vs ds -> Rel K ρ1 σ H1 F1 T1 fr -> aS' (k ds ρ1) P (EX K W σ F1 T1 fr) -> Q vs H1) : qA K W m σ H Q :=
  ⟨ρ, F, T, fr, rel, (aS'.bind h).mono (fun d ρ1 h1 v H1 F1 T1 e z r => q d ρ1 v H1 F1 T1 e z r (h1.mono (fun _ _ z => z) fun _ _ z => z.mono e)) fun _ _ z => z⟩
theorem iG' {m : M.MOA} {k : List M.O -> M.PSt -> M.Res β} {Q : List V -> Hp -> Prop} (rel : Rel K ρ σ H F T fr) (h : aS' ((m ρ).bind k) P (EX K W σ F T fr))
    (q : ∀ os ρ1 vs H1 F1 T1 fp, Ext F T F1 T1 -> RpA K F1 T1 vs os fp -> Rel K ρ1 σ H1 F1 T1 (fp ++ fr) -> aS' (k os ρ1) P (EX K W σ F1 T1 fr) -> Q vs H1) : qOA K W m σ H Q :=
  ⟨ρ, F, T, fr, rel, (aS'.bind h).mono (fun d ρ1 h1 v H1 F1 T1 fp e z r => q d ρ1 v H1 F1 T1 fp e z r (h1.mono (fun _ _ z => z) fun _ _ z => z.mono e)) fun _ _ z => z⟩
theorem gy' {m : M.MT} {k : Bool -> M.PSt -> M.Res β} {Q : Bool -> Hp -> Prop} (rel : Rel K ρ σ H F T fr) (h : aS' ((m ρ).bind k) P (EX K W σ F T fr))
    (q : ∀ b ρ1 H1 F1 T1, Ext F T F1 T1 -> Rel K ρ1 σ H1 F1 T1 fr -> aS' (k b ρ1) P (EX K W σ F1 T1 fr) -> Q b H1) : qT K W m σ H Q :=
  ⟨ρ, F, T, fr, rel, (aS'.bind h).mono (fun d ρ1 h1 H1 F1 T1 e r => q d ρ1 H1 F1 T1 e r (h1.mono (fun _ _ z => z) fun _ _ z => z.mono e)) fun _ _ z => z⟩
theorem lC' {m : M.MP} {k : Option Int -> M.PSt -> M.Res β} {Q : Option Int -> Hp -> Prop} (rel : Rel K ρ σ H F T fr) (h : aS' ((m ρ).bind k) P (EX K W σ F T fr))
    (q : ∀ b ρ1 H1 F1 T1, Ext F T F1 T1 -> Rel K ρ1 σ H1 F1 T1 fr -> aS' (k b ρ1) P (EX K W σ F1 T1 fr) -> Q b H1) : qP K W m σ H Q :=
  ⟨ρ, F, T, fr, rel, (aS'.bind h).mono (fun d ρ1 h1 H1 F1 T1 e r => q d ρ1 H1 F1 T1 e r (h1.mono (fun _ _ z => z) fun _ _ z => z.mono e)) fun _ _ z => z⟩
end
end S
namespace S
open PySem PySem.Spec PyProof.Rows L2
variable [Wd] [Hot]
section
variable {K : PySem.W.Frag} {F H : Hp} {T : List Addr} {v : V} {d : M.D} {vs ws : List V} {ds es : List M.D}
theorem Fz.int_inv {i : Int} (h : Fz K F T v (.int i)) : v = .int i := by cases h; rfl
theorem Fz.bl_inv {i : Bool} (h : Fz K F T v (.bl i)) : v = .bl i := by cases h; rfl
theorem Fz.str_inv {s : M.Tx} (h : Fz K F T v (.str s)) : v = .str (sx s) /\ okT s := by cases h with | str h => exact ⟨rfl, h⟩
theorem Fz.tup_inv (h : Fz K F T v (.tup ds)) : ∃ a vs, v = .ref a /\ SqT K F a vs /\ FzA K F T vs ds := by cases h with | tup h r => exact ⟨_, _, rfl, h, r⟩
theorem Fz.lst_inv (h : Fz K F T v (.lst ds)) : ∃ a vs, v = .ref a /\ F a = some (.lst vs) /\ FzA K F T vs ds := by cases h with | lst h r => exact ⟨_, _, rfl, h, r⟩
theorem FzA.length : ∀ {vs : List V} {ds : List M.D}, FzA K F T vs ds -> vs.length = ds.length
  | _, _, .nil => rfl
  | _, _, .cons _ r => congrArg (· + 1) (FzA.length r)
theorem FzA.append : ∀ {vs ws : List V} {ds es : List M.D}, FzA K F T vs ds -> FzA K F T ws es -> FzA K F T (vs ++ ws) (ds ++ es)
  | _, _, _, _, .nil, h => h
  | _, _, _, _, .cons a r, h => .cons a (FzA.append r h)
theorem FzA.take : ∀ {vs : List V} {ds : List M.D} (n : Nat), FzA K F T vs ds -> FzA K F T (vs.take n) (ds.take n)
  | _, _, 0, _ => .nil
  | _, _, n + 1, .nil => .nil
  | _, _, n + 1, .cons a r => .cons a (FzA.take n r)
theorem FzA.drop : ∀ {vs : List V} {ds : List M.D} (n : Nat), FzA K F T vs ds -> FzA K F T (vs.drop n) (ds.drop n)
  | _, _, 0, h => h
  | _, _, n + 1, .nil => .nil
  | _, _, n + 1, .cons a r => FzA.drop n r
theorem FzA.get : ∀ {vs : List V} {ds : List M.D} {i : Nat} {d : M.D}, FzA K F T vs ds -> ds[i]? = some d -> ∃ v, vs[i]? = some v /\ Fz K F T v d
  | _, _, _, _, .nil, e => by cases e
  | _, _, 0, _, .cons h _, e => ⟨_, rfl, by rw [<- Option.some.inj e]; exact h⟩
  | _, _, i + 1, _, .cons _ r, e => FzA.get (i := i) r e
theorem FzA.rev {vs : List V} {ds : List M.D} (h : FzA K F T vs ds) : FzA K F T vs.reverse ds.reverse := by
  match vs, ds, h with
  | [], [], .nil => exact .nil
  | v :: vs, d :: ds, .cons a r =>
    rw [List.reverse_cons, List.reverse_cons]
    exact FzA.append (FzA.rev r) (.cons a .nil)
theorem FzA.rep {vs : List V} {ds : List M.D} (h : FzA K F T vs ds) : ∀ n, FzA K F T (List.replicate n vs).flatten (List.replicate n ds).flatten
  | 0 => .nil
  | n + 1 => FzA.append h (FzA.rep h n)
theorem FzA.cutV {lo hi : Option Int} (h : FzA K F T vs ds) : FzA K F T (cutV vs lo hi) (M.cut ds lo hi) := by
  unfold L2.cutV M.cut
  rw [h.length]
  exact FzA.take _ (FzA.drop _ h)
theorem mb' {c : Nat} (h : c < 1114112) : Fz K F T (.str ⟨#[c]⟩) (M.chD c) := Fz.str (s := [c]) ⟨fun x hx => by rw [List.mem_singleton.mp hx]; exact h, by show 1 <= 16777216; decide⟩
theorem FzA.chars : ∀ {s : M.Tx}, (∀ c ∈ s, c < 1114112) -> FzA K F T (s.map chv) (s.map M.chD)
  | [], _ => .nil
  | c :: s, h => .cons (mb' (h c (by simp))) (FzA.chars fun x hx => h x (by simp [hx]))
theorem SqT.low (s : Same F H) {a : Addr} (h : SqT K F a vs) : SqT K H a vs := seqT s h
theorem okT.app {a b : M.Tx} (h1 : okT a) (h2 : okT b) (h : a.length + b.length <= M.bB') : okT (a ++ b) :=
  ⟨fun c hc => (List.mem_append.mp hc).elim (h1.1 c) (h2.1 c), by rw [List.length_append]; exact h⟩
theorem okT.sub {a b : M.Tx} (h1 : okT a) (h : ∀ c ∈ b, c ∈ a) (hl : b.length <= a.length) : okT b := ⟨fun c hc => h1.1 c (h c hc), Nat.le_trans hl h1.2⟩
theorem okT.len {s : M.Tx} (h : okT s) : (sx s).length <= sizeLine := by rw [bG', sizeLine_eq]; exact h.2
theorem bl' : sizeLine = M.bB' := sizeLine_eq
theorem Rel.fp {ρ : M.PSt} {σ : St} {fr : Fp} (r : Rel K ρ σ H F T fr) : ∃ fp, FpH F H fp /\ ∀ H' F', Same F F' -> FpH F' H' fp -> Rel K ρ σ H' F' T fr := by
  obtain ⟨fe, fw, re, rw, f⟩ := r
  exact ⟨_, f, fun H' F' s f' => ⟨fe, fw, re.mono (.of s), rw.mono (.of s), f'⟩⟩
abbrev dj' (K : PySem.W.Frag) (F : Hp) (T : List Addr) (fp : Fp) (dz : M.D) (Q : VK) : Prop := ∀ v H' F', Same F F' -> Fz K F' T v dz -> FpH F' H' fp -> Q v H'
theorem dj'.here {fp : Fp} {dz : M.D} {Q : VK} (k : dj' K F T fp dz Q) (f : FpH F H fp) (z : Fz K F T v dz) : Q v H := k v H F (fun _ _ e => e) z f
theorem dj'.newT {fp : Fp} {Q : VK} (k : dj' K F T fp (.tup ds) Q) (f : FpH F H fp) (z : FzA K F T vs ds) {p : Addr} (hp : H p = none) : Q (.ref p) (upd H p (.tup vs)) := by
  have s : Same F (upd F p (.tup vs)) := cj' (f.free hp)
  exact k _ _ _ s (.tup (SqT.of upd_same) (z.mono (.of s))) (f.new hp)
theorem dj'.newL {fp : Fp} {Q : VK} (k : dj' K F T fp (.lst ds) Q) (f : FpH F H fp) (z : FzA K F T vs ds) {p : Addr} (hp : H p = none) : Q (.ref p) (upd H p (.lst vs)) := by
  have s : Same F (upd F p (.lst vs)) := cj' (f.free hp)
  exact k _ _ _ s (.lst upd_same (z.mono (.of s))) (f.new hp)
end
section
variable (K : PySem.W.Frag)
def Op1 (f : M.D -> Option M.D) (r : V -> Hp -> VK -> Prop) : Prop := ∀ {F H : Hp} {T : List Addr} {fp : Fp} {x : V} {dx dz : M.D} {Q : VK}, FpH F H fp -> Fz K F T x dx -> f dx = some dz -> dj' K F T fp dz Q -> r x H Q
def Op2 (f : M.D -> M.D -> Option M.D) (r : R2) : Prop := ∀ {F H : Hp} {T : List Addr} {fp : Fp} {x y : V} {dx dy dz : M.D} {Q : VK}, FpH F H fp -> Fz K F T x dx -> Fz K F T y dy -> f dx dy = some dz -> dj' K F T fp dz Q -> r x y H Q
end
section
variable {K : PySem.W.Frag}
mutual
theorem Fz.py {F H : Hp} {T : List Addr} (s : Same F H) : ∀ {v : V} {d : M.D}, Fz K F T v d -> M.dat d = true -> Dp K H v (py d)
  | _, _, .non, _ => .non
  | _, _, .bl b, _ => .bl b
  | _, _, .int i, _ => .int i
  | _, _, .str h, _ => .str _
  | _, _, .tup h r, e => .tup (seqT s h) (FzA.py s r e)
  | _, _, .lst h r, e => .lst (SqL.of (s _ _ h)) (FzA.py s r e)
  | _, _, .dct h _ r, e => by cases e
  | _, _, .dcl _ _ _, e => by cases e
  | _, _, .dcn _ _ _ _, e => by cases e
  | _, _, .rep _, e => by cases e
  | _, _, .obj h, e => by cases e
  | _, _, .ty n, e => by cases e
  | _, _, .fn x, e => by cases e
  | _, _, .scr h r, e => by cases e
theorem FzA.py {F H : Hp} {T : List Addr} (s : Same F H) : ∀ {vs : List V} {ds : List M.D}, FzA K F T vs ds -> M.dats ds = true -> DpAll K H vs (pys ds)
  | _, _, .nil, _ => .nil
  | _, _, .cons h r, e => by
    obtain ⟨e1, e2⟩ := Bool.and_eq_true_iff.mp (show (M.dat _ && M.dats _) = true from e)
    exact .cons (Fz.py s h e1) (FzA.py s r e2)
end
theorem ni' {s : M.Tx} (h : okT s) : PyData.strOk (sx s) = true := by
  unfold PyData.strOk
  rw [Array.all_eq_true']
  intro c hc
  have := h.1 c (by simpa [sx] using hc)
  simp only [decide_eq_true_eq]
  omega
mutual
theorem lZ' {F : Hp} {T : List Addr} : ∀ {v : V} {d : M.D}, Fz K F T v d -> M.dat d = true -> (py d).canLay0 = true /\ (py d).depth = M.dep d
  | _, _, .non, _ => ⟨rfl, rfl⟩
  | _, _, .bl b, _ => ⟨rfl, rfl⟩
  | _, _, .int i, _ => ⟨rfl, rfl⟩
  | _, _, .str h, _ => ⟨ni' h, rfl⟩
  | _, _, .tup h r, e => by
    obtain ⟨h1, h2⟩ := lays_of r e
    exact ⟨h1, congrArg (· + 1) h2⟩
  | _, _, .lst h r, e => by
    obtain ⟨h1, h2⟩ := lays_of r e
    exact ⟨h1, congrArg (· + 1) h2⟩
  | _, _, .dct h _ r, e => by cases e
  | _, _, .dcl _ _ _, e => by cases e
  | _, _, .dcn _ _ _ _, e => by cases e
  | _, _, .rep _, e => by cases e
  | _, _, .obj h, e => by cases e
  | _, _, .ty n, e => by cases e
  | _, _, .fn x, e => by cases e
  | _, _, .scr h r, e => by cases e
theorem lays_of {F : Hp} {T : List Addr} : ∀ {vs : List V} {ds : List M.D}, FzA K F T vs ds -> M.dats ds = true -> PyData.canLayAll0 (pys ds) = true /\ PyData.depthAll (pys ds) = M.deps ds
  | _, _, .nil, _ => ⟨rfl, rfl⟩
  | _, _, .cons h r, e => by
    obtain ⟨e1, e2⟩ := Bool.and_eq_true_iff.mp (show (M.dat _ && M.dats _) = true from e)
    obtain ⟨a1, a2⟩ := lZ' h e1
    obtain ⟨b1, b2⟩ := lays_of r e2
    refine ⟨?_, ?_⟩
    . show (PyData.canLay0 _ && PyData.canLayAll0 _) = true
      rw [a1, b1]; rfl
    . show max (PyData.depth _) (PyData.depthAll _) = max _ _
      rw [a2, b2]
end
theorem oX' (a b : M.Tx) : (sx a == sx b) = (a == b) := by
  rw [Bool.eq_iff_iff, beq_iff_eq, beq_iff_eq]
  exact ⟨tr', fun h => by rw [h]⟩
mutual
theorem pn' : ∀ (d e : M.D), M.dat d = true -> M.dat e = true -> PyData.eqv (py d) (py e) = M.eqb d e
  | .non, e, _, h => by cases e <;> first | rfl | cases h
  | .bl a, e, _, h => by cases e <;> first | rfl | cases h
  | .int a, e, _, h => by cases e <;> first | rfl | cases h
  | .str a, e, _, h => by
    cases e with
    | str b => exact oX' a b
    | _ => first | rfl | cases h
  | .tup a, e, h1, h => by
    cases e with
    | tup b => exact eqvs_py a b h1 h
    | _ => first | rfl | cases h
  | .lst a, e, h1, h => by
    cases e with
    | lst b => exact eqvs_py a b h1 h
    | _ => first | rfl | cases h
  | .dct _ _, _, h, _ => by cases h
  | .obj _, _, h, _ => by cases h
  | .ty _, _, h, _ => by cases h
  | .fn _, _, h, _ => by cases h
  | .exc _ _, _, h, _ => by cases h
  | .scr _, _, h, _ => by cases h
theorem eqvs_py : ∀ (d e : List M.D), M.dats d = true -> M.dats e = true -> PyData.eqvAll (pys d) (pys e) = M.eqbs d e
  | [], [], _, _ => rfl
  | [], _ :: _, _, _ => rfl
  | _ :: _, [], _, _ => rfl
  | a :: d, b :: e, h1, h2 => by
    obtain ⟨a1, a2⟩ := Bool.and_eq_true_iff.mp (show (M.dat _ && M.dats _) = true from h1)
    obtain ⟨b1, b2⟩ := Bool.and_eq_true_iff.mp (show (M.dat _ && M.dats _) = true from h2)
    show (PyData.eqv (py a) (py b) && PyData.eqvAll (pys d) (pys e)) = (M.eqb a b && M.eqbs d e)
    rw [pn' a b a1 b1, eqvs_py d e a2 b2]
end
theorem uN' {F H : Hp} {T : List Addr} {fp : Fp} {x y : V} {dx dy : M.D} {b : Bool} (f : FpH F H fp) (hx : Fz K F T x dx) (hy : Fz K F T y dy) (h : M.eqv dx dy = some b) :
    ∃ d e, Dp K H x d /\ Dp K H y e /\ SeqAt.shaped d = true /\ SeqAt.shaped e = true /\ PyData.eqv d e = b := by
  unfold M.eqv at h
  split at h
  . rename_i c
    obtain ⟨c1, c2, c3, c4⟩ := c
    obtain ⟨a1, a2⟩ := lZ' hx c1
    obtain ⟨b1, b2⟩ := lZ' hy c2
    refine ⟨_, _, hx.py f.low c1, hy.py f.low c2, ?_, ?_, ?_⟩
    . exact Sh.shaped (n := 64) ⟨a1, by rw [a2]; exact c3⟩ (Nat.le_refl _)
    . exact Sh.shaped (n := 64) ⟨b1, by rw [b2]; exact c4⟩ (Nat.le_refl _)
    . rw [pn' _ _ c1 c2]; exact Option.some.inj h
  . cases h
theorem pf' : Op2 K M.pEq (yH' K) := by
  intro F H T fp x y dx dy dz Q f hx hy h k
  unfold M.pEq M.ob at h
  cases e : M.eqv dx dy with
  | none => rw [e] at h; cases h
  | some b =>
    rw [e] at h
    cases h
    obtain ⟨d, e, h1, h2, h3, h4, h5⟩ := uN' f hx hy e
    exact .inr ⟨d, e, h1, h2, h3, h4, by rw [h5]; exact k.here f (.bl b)⟩
theorem qY' : Op2 K M.pNe (yE' K) := by
  intro F H T fp x y dx dy dz Q f hx hy h k
  unfold M.pNe M.ob at h
  cases e : M.eqv dx dy with
  | none => rw [e] at h; cases h
  | some b =>
    rw [e] at h
    cases h
    obtain ⟨d, e, h1, h2, h3, h4, h5⟩ := uN' f hx hy e
    exact .inr ⟨d, e, h1, h2, h3, h4, by rw [h5]; exact k.here f (.bl (!b))⟩
theorem bU' : Op2 K M.cD' (t5' K) := by
  intro F H T fp x y dx dy dz Q f hx hy h k
  cases dx <;> cases dy <;> try (cases h; done)
  . cases hx; cases hy; cases h
    exact .inl ⟨_, _, rfl, rfl, k.here f (.int _)⟩
  . obtain ⟨rfl, o1⟩ := hx.str_inv
    obtain ⟨rfl, o2⟩ := hy.str_inv
    simp only [M.cD'] at h
    split at h
    . rename_i hl
      cases h
      refine .inr (.inl ⟨_, _, rfl, rfl, by rw [bG', bG', bl']; exact hl, ?_⟩)
      rw [tt']
      exact k.here f (.str (o1.app o2 hl))
    . cases h
  . obtain ⟨a, vs, rfl, ha, za⟩ := hx.tup_inv
    obtain ⟨b, ws, rfl, hb, zb⟩ := hy.tup_inv
    simp only [M.cD'] at h
    split at h
    . rename_i hl
      cases h
      refine .inr (.inr (.inr ⟨a, b, vs, ws, rfl, rfl, seqT f.low ha, seqT f.low hb, by rw [za.length, zb.length, bl']; exact hl, fun e => ?_, fun _ e => ?_, fun _ _ p hp => k.newT f (za.append zb) hp⟩))
      . subst e
        cases za
        exact k.here f (.tup hb zb)
      . subst e
        cases zb
        refine k.here f ?_
        rw [List.append_nil]
        exact .tup ha za
    . cases h
  . obtain ⟨a, vs, rfl, ha, za⟩ := hx.lst_inv
    obtain ⟨b, ws, rfl, hb, zb⟩ := hy.lst_inv
    simp only [M.cD'] at h
    split at h
    . rename_i hl
      cases h
      exact .inr (.inr (.inl ⟨a, b, vs, ws, rfl, rfl, f.low _ _ ha, f.low _ _ hb, by rw [za.length, zb.length, bl']; exact hl, fun p hp => k.newL f (za.append zb) hp⟩))
    . cases h
theorem xj' : Op2 K M.vW' (rI0 fun i j => .int (i - j)) := by
  intro F H T fp x y dx dy dz Q f hx hy h k
  cases dx <;> cases dy <;> try (cases h; done)
  cases hx; cases hy; cases h
  exact ⟨_, _, rfl, rfl, k.here f (.int _)⟩
theorem tT' (s : M.Tx) (n : Nat) : jG' (sx s) n = sx (List.replicate n s).flatten := rfl
theorem tU' {s : M.Tx} {n : Nat} (h : okT s) (hl : s.length * n <= M.bB') : okT (List.replicate n s).flatten := by
  refine ⟨fun c hc => ?_, ?_⟩
  . obtain ⟨l, h1, h2⟩ := List.mem_flatten.mp hc
    rw [List.eq_of_mem_replicate h1] at h2
    exact h.1 c h2
  . rw [List.length_flatten]
    simp
    rw [Nat.mul_comm]
    exact hl
def tX' : R2 := fun x y H Q => tY' x y H Q \/ rI CMulW (fun i j => .int (i * j)) x y H Q
theorem c4' {X : Cx} : OpR X (binaryOp .Mult) tX' := qS'.or op_mulW
theorem ur' {i : Int} (h : -2582249878086908589655919172003011874329705792829223512830659356540647622016841194629645353280137831435903171972747493376 < i /\ i < 2582249878086908589655919172003011874329705792829223512830659356540647622016841194629645353280137831435903171972747493376) : i.natAbs < 2 ^ 400 := by
  have : (2 : Nat) ^ 400 = 2582249878086908589655919172003011874329705792829223512830659356540647622016841194629645353280137831435903171972747493376 := by decide +kernel
  omega
theorem jr' : Op2 K M.gn' tX' := by
  intro F H T fp x y dx dy dz Q f hx hy h k
  cases dx <;> cases dy <;> try (cases h; done)
  . cases hx; cases hy
    simp only [M.gn'] at h
    split at h
    . rename_i hc
      cases h
      rcases hc with hc | hc
      . refine .inl (.inl ⟨_, _, rfl, rfl, ?_, k.here f (.int _)⟩)
        rcases hc with hc | hc <;> simp only [M.small64, Bool.and_eq_true, decide_eq_true_eq] at hc
        . exact .inl hc
        . exact .inr hc
      . exact .inr ⟨_, _, rfl, rfl, wide_mul (ur' hc.1) (ur' hc.2) (by decide) (by decide) (by decide), k.here f (.int _)⟩
    . cases h
  . obtain ⟨rfl, o1⟩ := hx.str_inv
    cases hy
    simp only [M.gn'] at h
    split at h
    . rename_i hc
      cases h
      refine .inl (.inr (.inl ⟨_, _, rfl, rfl, hc.1, hc.2.1, by rw [bG', bl']; exact hc.2.2, ?_⟩))
      rw [tT']
      exact k.here f (.str (tU' o1 hc.2.2))
    . cases h
  . obtain ⟨a, vs, rfl, ha, za⟩ := hx.lst_inv
    cases hy
    simp only [M.gn'] at h
    split at h
    . rename_i hc
      cases h
      refine .inl (.inr (.inr ⟨a, _, vs, rfl, rfl, f.low _ _ ha, by omega, by omega, by rw [za.length, bl']; exact hc.2.2, fun p hp => k.newL f (za.rep _) hp⟩))
    . cases h
theorem iS' : Op2 K M.fE' (rI CDivW fun i j => .int (i / j)) := by
  intro F H T fp x y dx dy dz Q f hx hy h k
  cases dx <;> cases dy <;> try (cases h; done)
  cases hx; cases hy
  simp only [M.fE'] at h
  split at h
  . rename_i hc
    cases h
    refine ⟨_, _, rfl, rfl, wide_div (b := 200) hc.1 ?_ (by decide) (by decide), k.here f (.int _)⟩
    have : (2 : Nat) ^ 200 = 1606938044258990275541962092341162602522202993782792835301376 := by decide +kernel
    omega
  . cases h
theorem gA' : Op2 K M.lE' (rI (fun _ j => 0 < j) fun i j => .int (i % j)) := by
  intro F H T fp x y dx dy dz Q f hx hy h k
  cases dx <;> cases dy <;> try (cases h; done)
  cases hx; cases hy
  simp only [M.lE'] at h
  split at h
  . rename_i hc
    cases h
    exact ⟨_, _, rfl, rfl, hc, k.here f (.int _)⟩
  . cases h
theorem xk' : Op2 K M.ub' (rI CPow fun i j => .int (i ^ j.toNat)) := by
  intro F H T fp x y dx dy dz Q f hx hy h k
  cases dx <;> cases dy <;> try (cases h; done)
  cases hx; cases hy
  simp only [M.ub'] at h
  split at h
  . rename_i hc
    cases h
    obtain ⟨h1, h2, h3⟩ := hc
    simp only [M.small64, Bool.and_eq_true, decide_eq_true_eq] at h3
    exact ⟨_, _, rfl, rfl, ⟨h1, by omega, by omega⟩, k.here f (.int _)⟩
  . cases h
theorem zj' : Op2 K M.pLt (o9' (fun i j => decide (i < j)) fun a b => decide (a < b)) := by
  intro F H T fp x y dx dy dz Q f hx hy h k
  cases dx <;> cases dy <;> try (cases h; done)
  . cases hx; cases hy; cases h
    exact .inl ⟨_, _, rfl, rfl, k.here f (.bl _)⟩
  . obtain ⟨rfl, o1⟩ := hx.str_inv
    obtain ⟨rfl, o2⟩ := hy.str_inv
    cases h
    exact .inr ⟨_, _, rfl, rfl, k.here f (.bl _)⟩
theorem yJ' : Op2 K M.pLe (o9' (fun i j => decide (i <= j)) fun a b => !decide (b < a)) := by
  intro F H T fp x y dx dy dz Q f hx hy h k
  cases dx <;> cases dy <;> try (cases h; done)
  . cases hx; cases hy; cases h
    exact .inl ⟨_, _, rfl, rfl, k.here f (.bl _)⟩
  . obtain ⟨rfl, o1⟩ := hx.str_inv
    obtain ⟨rfl, o2⟩ := hy.str_inv
    cases h
    exact .inr ⟨_, _, rfl, rfl, k.here f (.bl _)⟩
theorem yK' : Op2 K M.pGt (o9' (fun i j => decide (j < i)) fun a b => decide (b < a)) := by
  intro F H T fp x y dx dy dz Q f hx hy h k
  cases dx <;> cases dy <;> try (cases h; done)
  . cases hx; cases hy; cases h
    exact .inl ⟨_, _, rfl, rfl, k.here f (.bl _)⟩
  . obtain ⟨rfl, o1⟩ := hx.str_inv
    obtain ⟨rfl, o2⟩ := hy.str_inv
    cases h
    exact .inr ⟨_, _, rfl, rfl, k.here f (.bl _)⟩
theorem vZ' : Op2 K M.pGe (o9' (fun i j => decide (j <= i)) fun a b => !decide (a < b)) := by
  intro F H T fp x y dx dy dz Q f hx hy h k
  cases dx <;> cases dy <;> try (cases h; done)
  . cases hx; cases hy; cases h
    exact .inl ⟨_, _, rfl, rfl, k.here f (.bl _)⟩
  . obtain ⟨rfl, o1⟩ := hx.str_inv
    obtain ⟨rfl, o2⟩ := hy.str_inv
    cases h
    exact .inr ⟨_, _, rfl, rfl, k.here f (.bl _)⟩
theorem FzA.ati {F : Hp} {T : List Addr} {vs : List V} {ds : List M.D} {i : Int} {d : M.D} (h : FzA K F T vs ds) (e : M.ati ds i = some d) : ∃ v, atI vs i = some v /\ Fz K F T v d := by
  unfold M.ati at e
  unfold atI
  rw [h.length]
  cases q : M.ixn ds.length i with
  | none => rw [q] at e; cases e
  | some j =>
    rw [q] at e
    obtain ⟨v, h1, h2⟩ := h.get (i := j) e
    have q' : ixN ds.length i = some j := q
    rw [q']
    exact ⟨v, h1, h2⟩
theorem dO' : Op2 K M.pIx (rIx K) := by
  intro F H T fp x y dx dy dz Q f hx hy h k
  cases dx <;> cases dy <;> try (cases h; done)
  . obtain ⟨rfl, o1⟩ := hx.str_inv
    cases hy
    simp only [M.pIx] at h
    rename_i s i
    cases q : M.ati s i with
    | none => rw [q] at h; cases h
    | some c =>
      rw [q] at h
      cases h
      have hc : c ∈ s := by
        unfold M.ati at q
        cases q2 : M.ixn s.length i with
        | none => rw [q2] at q; cases q
        | some j => rw [q2] at q; exact List.mem_of_getElem? q
      exact .inr (.inr ⟨_, _, c, rfl, rfl, o1.len, q, k.here f (mb' (o1.1 c hc))⟩)
  . obtain ⟨a, vs, rfl, ha, za⟩ := hx.tup_inv
    cases hy
    obtain ⟨v, h1, h2⟩ := za.ati h
    exact .inr (.inl ⟨a, vs, _, v, rfl, rfl, seqT f.low ha, h1, k.here f h2⟩)
  . obtain ⟨a, vs, rfl, ha, za⟩ := hx.lst_inv
    cases hy
    obtain ⟨v, h1, h2⟩ := za.ati h
    exact .inl ⟨a, vs, _, v, rfl, rfl, SqL.of (f.low _ _ ha), h1, k.here f h2⟩
def yU' (K : PySem.W.Frag) (r : V -> Option Int -> Option Int -> Hp -> VK -> Prop) : Prop := ∀ {F H : Hp} {T : List Addr} {fp : Fp} {x : V} {dx dz : M.D} {lo hi : Option Int} {Q : VK}, FpH F H fp -> Fz K F T x dx -> M.pSl dx lo hi = some dz -> dj' K F T fp dz Q -> r x lo hi H Q
theorem mp' {s : M.Tx} {lo hi : Option Int} : (∀ c ∈ M.cut s lo hi, c ∈ s) /\ (M.cut s lo hi).length <= s.length := by
  unfold M.cut
  refine ⟨fun c hc => List.mem_of_mem_drop (List.mem_of_mem_take hc), ?_⟩
  rw [List.length_take, List.length_drop]
  omega
theorem pe' : yU' K (yD' K) := by
  intro F H T fp x dx dz lo hi Q f hx h k
  cases dx <;> try (cases h; done)
  . obtain ⟨rfl, o1⟩ := hx.str_inv
    cases h
    refine .inr (.inl ⟨_, rfl, o1.len, ?_⟩)
    have e : cutS (sx ‹M.Tx›) lo hi = sx (M.cut ‹M.Tx› lo hi) := ep' (by rw [vC']; rfl)
    rw [e]
    exact k.here f (.str (o1.sub mp'.1 mp'.2))
  . obtain ⟨a, vs, rfl, ha, za⟩ := hx.tup_inv
    cases h
    refine .inr (.inr ⟨a, vs, rfl, seqT f.low ha, fun e => ?_, fun _ p hp => k.newT f za.cutV hp⟩)
    refine k.here f ?_
    have e2 : M.cut ‹List M.D› lo hi = ‹List M.D› := by
      unfold M.cut
      rw [<- za.length]
      have e1 : M.six vs.length 0 lo = 0 := e.1
      have e3 : M.six vs.length vs.length hi = vs.length := e.2
      rw [e1, e3, List.drop_zero, Nat.sub_zero, za.length, List.take_length]
    rw [e2]
    exact .tup ha za
  . obtain ⟨a, vs, rfl, ha, za⟩ := hx.lst_inv
    cases h
    exact .inl ⟨a, vs, rfl, SqL.of (f.low _ _ ha), fun p hp => k.newL f za.cutV hp⟩
  . cases hx with
    | scr ha za =>
      cases h
      exact .inl ⟨_, _, rfl, Same.seq f.low ha, fun p hp => k.newL f za.cutV hp⟩
end
end S
namespace S
open PySem PySem.Spec PyProof.Rows L2
variable [Wd] [Hot]
section
variable {K : PySem.W.Frag} {F F' H H' : Hp} {T T' : List Addr} {fp fq fr : Fp} {ρ : M.PSt} {σ : St}
abbrev keys (fp : Fp) : List Addr := fp.map (·.1)
theorem FpH.sub (f : FpH F H fp) (hm : ∀ e ∈ fq, e ∈ fp) (hc : ∀ a, (keys fq).count a <= (keys fp).count a) : FpH F H fq := by
  refine ⟨f.low, fun e he => f.at_ e (hm e he), ?_, f.tbs fun a h1 h2 h3 => ⟨h1, rfl, fun e he => h3 e (hm e he)⟩⟩
  rw [List.nodup_iff_count]
  exact fun a => Nat.le_trans (hc a) (List.nodup_iff_count.mp f.nd a)
structure Part (a b : Fp) : Prop where
  m : ∀ e ∈ a, e ∈ b
  c : ∀ x, (keys a).count x <= (keys b).count x
theorem FpH.part (f : FpH F H fp) (p : Part fq fp) : FpH F H fq := f.sub p.m p.c
theorem Part.refl {a : Fp} : Part a a := ⟨fun _ h => h, fun _ => Nat.le_refl _⟩
theorem Part.trans {a b c : Fp} (p : Part a b) (q : Part b c) : Part a c := ⟨fun e h => q.m e (p.m e h), fun x => Nat.le_trans (p.c x) (q.c x)⟩
theorem Part.app {a b c d : Fp} (p : Part a b) (q : Part c d) : Part (a ++ c) (b ++ d) := by
  refine ⟨fun e h => ?_, fun x => ?_⟩
  . rcases List.mem_append.mp h with h | h
    . exact List.mem_append_left _ (p.m e h)
    . exact List.mem_append_right _ (q.m e h)
  . have := p.c x
    have := q.c x
    simp only [keys, List.map_append, List.count_append] at *
    omega
theorem Part.left {a b c : Fp} (p : Part a b) : Part a (b ++ c) := by
  refine ⟨fun e h => List.mem_append_left _ (p.m e h), fun x => ?_⟩
  have := p.c x
  simp only [keys, List.map_append, List.count_append] at *
  omega
theorem Part.right {a b c : Fp} (p : Part a c) : Part a (b ++ c) := by
  refine ⟨fun e h => List.mem_append_right _ (p.m e h), fun x => ?_⟩
  have := p.c x
  simp only [keys, List.map_append, List.count_append] at *
  omega
theorem Part.nil {b : Fp} : Part [] b := ⟨fun e h => (nomatch h), fun x => by simp [keys]⟩
local macro_rules | `(tactic| walk_at "parts") => `(tactic| (constructor; (intro e h; simp only [List.mem_append, List.mem_cons] at *; grind); (intro x; simp only [keys, List.map_append, List.map_cons, List.count_append, List.count_cons] at *; omega)))
theorem Part.swap {a b c : Fp} : Part (a ++ (b ++ c)) (b ++ (a ++ c)) := by walk_at "parts"
theorem RpE.get {env : List (Option M.O)} {i : Nat} {o : M.O} (r : RpE K F T σ env fp) (h : env[i]? = some (some o)) (hne : M.yB' o = true := by first | assumption | rfl) : ∃ v f1 f2 f3, σ[i]? = some (some v) /\ fp = f1 ++ (f2 ++ f3) /\ Rp K F T v o f2 ∧
    RpE K F T σ (env.set i none) (f1 ++ f3) /\ ∀ F' T' v' o' f2', Ext F T F' T' -> Rp K F' T' v' o' f2' -> RpE K F' T' (σ.set i (some v')) (env.set i (some o')) (f1 ++ (f2' ++ f3)) := by
  induction r generalizing i with
  | nil => cases h
  | off r ih =>
    cases i with
    | zero => cases h
    | succ i =>
      obtain ⟨v, f1, f2, f3, h1, rfl, h3, h4, h5⟩ := ih (i := i) h
      exact ⟨v, f1, f2, f3, h1, rfl, h3, .off h4, fun F' T' v' o' f2' e r' => .off (h5 F' T' v' o' f2' e r')⟩
  | @on v0 o0 σ env fa fb r0 r ih =>
    cases i with
    | zero =>
      have e : o0 = o := Option.some.inj (Option.some.inj h)
      subst e
      exact ⟨v0, [], fa, fb, rfl, rfl, r0, .off r, fun F' T' v' o' f2' e r' => (RpE.on r' (r.mono e) : RpE K F' T' _ _ (f2' ++ fb))⟩
    | succ i =>
      obtain ⟨v, f1, f2, f3, h1, rfl, h3, h4, h5⟩ := ih (i := i) h
      refine ⟨v, fa ++ f1, f2, f3, h1, by simp, h3, ?_, fun F' T' v' o' f2' e r' => ?_⟩
      . rw [List.append_assoc]; exact .on r0 h4
      . rw [List.append_assoc]; exact .on (r0.mono e) (h5 F' T' v' o' f2' e r')
  | hot hh z r ih =>
    cases i with
    | zero => rw [<- Option.some.inj (Option.some.inj h)] at hne; cases hne
    | succ i =>
      obtain ⟨v, f1, f2, f3, h1, rfl, h3, h4, h5⟩ := ih (i := i) h
      exact ⟨v, f1, f2, f3, h1, rfl, h3, .hot (by rw [List.length_set]; exact hh) z h4, fun F' T' v' o' f2' e r' => .hot (by rw [List.length_set]; exact hh) (z.mono' e) (h5 F' T' v' o' f2' e r')⟩
  | clo hh z r ih =>
    cases i with
    | zero => rw [<- Option.some.inj (Option.some.inj h)] at hne; cases hne
    | succ i =>
      obtain ⟨v, f1, f2, f3, h1, rfl, h3, h4, h5⟩ := ih (i := i) h
      exact ⟨v, f1, f2, f3, h1, rfl, h3, .clo (by rw [List.length_set]; exact hh) z h4, fun F' T' v' o' f2' e r' => .clo (by rw [List.length_set]; exact hh) (z.mono e) (h5 F' T' v' o' f2' e r')⟩
theorem RpE.val {env : List (Option M.O)} {i : Nat} {o : M.O} (r : RpE K F T σ env fp) (h : env[i]? = some (some o)) : ∃ v, σ[i]? = some (some v) := by
  induction r generalizing i with
  | nil => cases h
  | off r ih => cases i with
    | zero => cases h
    | succ i => exact ih (i := i) h
  | on _ r ih => cases i with
    | zero => exact ⟨_, rfl⟩
    | succ i => exact ih (i := i) h
  | hot _ _ r ih => cases i with
    | zero => exact ⟨_, rfl⟩
    | succ i => exact ih (i := i) h
  | clo _ _ r ih => cases i with
    | zero => exact ⟨_, rfl⟩
    | succ i => exact ih (i := i) h
theorem RpE.exn {env : List (Option M.O)} {i : Nat} (r : RpE K F T σ env fp) (h : env[i]? = some (some .exn)) : ∃ a n dd x, Hot.hot = some (a, n, dd, x) /\ XcR K F T x (.ref (He.ga K x.cls)) dd /\ σ[i]? = some (some (.ref a)) := by
  induction r generalizing i with
  | nil => cases h
  | off r ih => cases i with
    | zero => cases h
    | succ i => exact ih (i := i) h
  | on q r ih => cases i with
    | zero =>
      have e := Option.some.inj (Option.some.inj h)
      subst e
      cases q
    | succ i => exact ih (i := i) h
  | hot hh z r ih => cases i with
    | zero => exact ⟨_, _, _, _, hh, z, rfl⟩
    | succ i => exact ih (i := i) h
  | clo hh z r ih => cases i with
    | zero => cases h
    | succ i => exact ih (i := i) h
theorem cI' {α : Type} : ∀ {l : List α} {i : Nat} {x : α}, l[i]? = some x -> l.set i x = l
  | [], _, _, h => by cases h
  | a :: l, 0, x, h => by rw [<- Option.some.inj h]; rfl
  | a :: l, i + 1, x, h => by
    show a :: l.set i x = a :: l
    rw [cI' (l := l) (i := i) h]
theorem RpE.len {env : List (Option M.O)} (r : RpE K F T σ env fp) : σ.length = env.length := by
  induction r with
  | nil => rfl
  | off _ ih => exact congrArg (· + 1) ih
  | on _ _ ih => exact congrArg (· + 1) ih
  | hot _ _ _ ih => exact congrArg (· + 1) ih
  | clo _ _ _ ih => exact congrArg (· + 1) ih
theorem RpE.drop {env : List (Option M.O)} (r : RpE K F T σ env fp) (i : Nat) (x : Option V) : ∃ fq, RpE K F T (σ.set i x) (env.set i none) fq /\ Part fq fp := by
  induction r generalizing i with
  | nil => exact ⟨[], .nil, .refl⟩
  | @off y σ env fp r ih =>
    cases i with
    | zero => exact ⟨_, .off r, .refl⟩
    | succ i =>
      obtain ⟨fq, h1, h2⟩ := ih i
      exact ⟨fq, .off h1, h2⟩
  | @on v0 o0 σ env fa fb r0 r ih =>
    cases i with
    | zero => exact ⟨_, .off r, .right .refl⟩
    | succ i =>
      obtain ⟨fq, h1, h2⟩ := ih i
      exact ⟨_, .on r0 h1, .app .refl h2⟩
  | hot hh z r ih =>
    cases i with
    | zero => exact ⟨_, .off r, .refl⟩
    | succ i =>
      obtain ⟨fq, h1, h2⟩ := ih i
      exact ⟨fq, .hot (by rw [List.length_set]; exact hh) z h1, h2⟩
  | clo hh z r ih =>
    cases i with
    | zero => exact ⟨_, .off r, .refl⟩
    | succ i =>
      obtain ⟨fq, h1, h2⟩ := ih i
      exact ⟨fq, .clo (by rw [List.length_set]; exact hh) z h1, h2⟩
theorem RpE.drop0 {env : List (Option M.O)} (r : RpE K F T σ env fp) (i : Nat) : ∃ fq, RpE K F T σ (env.set i none) fq /\ Part fq fp := by
  induction r generalizing i with
  | nil => exact ⟨[], .nil, .refl⟩
  | @off y σ env fp r ih =>
    cases i with
    | zero => exact ⟨_, .off r, .refl⟩
    | succ i =>
      obtain ⟨fq, h1, h2⟩ := ih i
      exact ⟨fq, .off h1, h2⟩
  | @on v0 o0 σ env fa fb r0 r ih =>
    cases i with
    | zero => exact ⟨_, .off r, .right .refl⟩
    | succ i =>
      obtain ⟨fq, h1, h2⟩ := ih i
      exact ⟨_, .on r0 h1, .app .refl h2⟩
  | hot hh z r ih =>
    cases i with
    | zero => exact ⟨_, .off r, .refl⟩
    | succ i =>
      obtain ⟨fq, h1, h2⟩ := ih i
      exact ⟨fq, .hot (by rw [List.length_set]; exact hh) z h1, h2⟩
  | clo hh z r ih =>
    cases i with
    | zero => exact ⟨_, .off r, .refl⟩
    | succ i =>
      obtain ⟨fq, h1, h2⟩ := ih i
      exact ⟨fq, .clo (by rw [List.length_set]; exact hh) z h1, h2⟩
theorem RpE.put {env : List (Option M.O)} (r : RpE K F T σ env fp) {i : Nat} (hi : i < env.length) {v : V} {o : M.O} {f2 : Fp} (q : Rp K F T v o f2) :
    ∃ fq, RpE K F T (σ.set i (some v)) (env.set i (some o)) fq /\ Part fq (fp ++ f2) := by
  induction r generalizing i with
  | nil => cases hi
  | @off y σ env fp r ih =>
    cases i with
    | zero => exact ⟨_, .on q r, by walk_at "parts"⟩
    | succ i =>
      obtain ⟨fq, h1, h2⟩ := ih (i := i) (Nat.lt_of_succ_lt_succ hi)
      exact ⟨fq, .off h1, h2⟩
  | @on v0 o0 σ env fa fb r0 r ih =>
    cases i with
    | zero => exact ⟨_, .on q r, by walk_at "parts"⟩
    | succ i =>
      obtain ⟨fq, h1, h2⟩ := ih (i := i) (Nat.lt_of_succ_lt_succ hi)
      refine ⟨_, .on r0 h1, ?_⟩
      rw [List.append_assoc]
      exact .app .refl h2
  | hot hh z r ih =>
    cases i with
    | zero => exact ⟨_, .on q r, by walk_at "parts"⟩
    | succ i =>
      obtain ⟨fq, h1, h2⟩ := ih (i := i) (Nat.lt_of_succ_lt_succ hi)
      exact ⟨fq, .hot (by rw [List.length_set]; exact hh) z h1, h2⟩
  | clo hh z r ih =>
    cases i with
    | zero => exact ⟨_, .on q r, by walk_at "parts"⟩
    | succ i =>
      obtain ⟨fq, h1, h2⟩ := ih (i := i) (Nat.lt_of_succ_lt_succ hi)
      exact ⟨fq, .clo (by rw [List.length_set]; exact hh) z h1, h2⟩
theorem RpE.put0 {env : List (Option M.O)} (r : RpE K F T σ env fp) {i : Nat} {v : V} (hi : σ[i]? = some (some v)) {o : M.O} {f2 : Fp} (q : Rp K F T v o f2) :
    ∃ fq, RpE K F T σ (env.set i (some o)) fq /\ Part fq (fp ++ f2) := by
  have hl : i < env.length := by rw [<- r.len]; exact (List.getElem?_eq_some_iff.mp hi).1
  obtain ⟨fq, h1, h2⟩ := r.put hl q
  rw [cI' hi] at h1
  exact ⟨fq, h1, h2⟩
def jK' (F : Hp) : Fp -> Hp
  | [] => F
  | e :: r => upd (jK' F r) e.1 e.2
theorem cX' {a : Addr} : ∀ {fp : Fp}, a ∉ keys fp -> jK' F fp a = F a
  | [], _ => rfl
  | e :: r, h => by
    have h' : a ≠ e.1 /\ a ∉ keys r := by simpa [keys] using h
    show upd (jK' F r) e.1 e.2 a = F a
    rw [upd_ne h'.1, cX' h'.2]
theorem cY' : ∀ {fp : Fp}, (keys fp).Nodup -> ∀ e ∈ fp, jK' F fp e.1 = some e.2
  | e :: r, h, e', he => by
    obtain ⟨h1, h2⟩ := List.nodup_cons.mp h
    show upd (jK' F r) e.1 e.2 e'.1 = _
    rcases List.mem_cons.mp he with rfl | he
    . exact upd_same
    . rw [upd_ne fun z => h1 (by have q : e'.1 ∈ keys r := List.mem_map_of_mem he; rw [z] at q; exact q)]
      exact cY' h2 e' he
theorem cW' {fp : Fp} (h : ∀ e ∈ fp, F e.1 = none) : Same F (jK' F fp) := fun a o e => by
  rw [cX' fun z => ?_]
  . exact e
  . obtain ⟨x, h1, h2⟩ := List.mem_map.mp z
    rw [<- h2, h x h1] at e
    cases e
theorem FpH.freeze {a b : Fp} (f : FpH F H (a ++ b)) : FpH (jK' F a) H b := by
  have nd : (keys a ++ keys b).Nodup := by rw [<- List.map_append]; exact f.nd
  obtain ⟨n1, n2, n3⟩ := List.nodup_append.mp nd
  refine ⟨fun p o h => ?_, fun e he => ⟨(f.at_ e (List.mem_append_right _ he)).1, ?_⟩, n2, f.tbs (fun p h1 h2 h3 => ⟨?_, rfl, fun e he => h3 e (List.mem_append_right _ he)⟩) fun c q h => gx' (cW' fun e he => (f.at_ e (List.mem_append_left _ he)).2) h⟩
  . by_cases hp : p ∈ keys a
    . obtain ⟨x, h1, rfl⟩ := List.mem_map.mp hp
      rw [cY' n1 x h1] at h
      rw [(f.at_ x (List.mem_append_left _ h1)).1]
      exact h
    . rw [cX' hp] at h
      exact f.low _ _ h
  . rw [cX' fun z => n3 _ z _ (List.mem_map_of_mem he) rfl]
    exact (f.at_ e (List.mem_append_right _ he)).2
  . rw [cX' fun z => ?_]
    . exact h1
    . obtain ⟨x, hx, e⟩ := List.mem_map.mp z
      exact h3 x (List.mem_append_left _ hx) e
mutual
theorem Rp.freeze {G : Hp} (s : Same F G) : ∀ {v : V} {o : M.O} {fp : Fp}, Rp K F T v o fp -> (∀ e ∈ fp, G e.1 = some e.2) -> Fz K G T v (M.frz o)
  | _, _, _, .fz h, _ => h.mono (.of s)
  | _, _, _, .lst r, g => .lst (g _ List.mem_cons_self) (RpA.freeze s r fun e he => g e (List.mem_cons_of_mem _ he))
  | _, _, _, .tup r, g => .tup (SqT.of (g _ List.mem_cons_self)) (RpA.freeze s r fun e he => g e (List.mem_cons_of_mem _ he))
  | _, _, _, .dct k r, g => .dct (.inl (g _ List.mem_cons_self)) k (RpA.freeze s r fun e he => g e (List.mem_cons_of_mem _ he))
  | _, _, _, .dcl k r, g => .dcl (.inl (g _ List.mem_cons_self)) k (RpA.freeze s r fun e he => g e (List.mem_cons_of_mem _ he))
  | _, _, _, .dcn k q r, g => .dcn (.inl (g _ List.mem_cons_self)) k (q.mono (.of s)) (RpA.freeze s r fun e he => g e (List.mem_cons_of_mem _ he))
theorem RpA.freeze {G : Hp} (s : Same F G) : ∀ {vs : List V} {os : List M.O} {fp : Fp}, RpA K F T vs os fp -> (∀ e ∈ fp, G e.1 = some e.2) -> FzA K G T vs (M.frzs os)
  | _, _, _, .nil, _ => .nil
  | _, _, _, .cons h r, g => .cons (Rp.freeze s h fun e he => g e (List.mem_append_left _ he)) (RpA.freeze s r fun e he => g e (List.mem_append_right _ he))
end
theorem Rp.frozen {v : V} {o : M.O} {a b : Fp} (q : Rp K F T v o a) (f : FpH F H (a ++ b)) : ∃ G, Same F G /\ Fz K G T v (M.frz o) /\ FpH G H b := by
  have s : Same F (jK' F a) := cW' fun e he => (f.at_ e (List.mem_append_left _ he)).2
  refine ⟨_, s, q.freeze s fun e he => cY' ?_ e he, f.freeze⟩
  have nd : (keys a ++ keys b).Nodup := by rw [<- List.map_append]; exact f.nd
  exact (List.nodup_append.mp nd).1
theorem RpA.frozen {v : List V} {o : List M.O} {a b : Fp} (q : RpA K F T v o a) (f : FpH F H (a ++ b)) : ∃ G, Same F G /\ FzA K G T v (M.frzs o) /\ FpH G H b := by
  have s : Same F (jK' F a) := cW' fun e he => (f.at_ e (List.mem_append_left _ he)).2
  refine ⟨_, s, q.freeze s fun e he => cY' ?_ e he, f.freeze⟩
  have nd : (keys a ++ keys b).Nodup := by rw [<- List.map_append]; exact f.nd
  exact (List.nodup_append.mp nd).1
theorem Rel.frozen {v : V} {o : M.O} (r : Rel K ρ σ H F T (fp ++ fr)) (q : Rp K F T v o fp) : ∃ G, Same F G /\ Fz K G T v (M.frz o) /\ Rel K ρ σ H G T fr := by
  obtain ⟨fe, fw, re, rw, f⟩ := r
  have f' : FpH F H (fp ++ (fe ++ (fw ++ fr))) := f.part (by walk_at "parts")
  obtain ⟨G, s, z, f2⟩ := q.frozen f'
  exact ⟨G, s, z, fe, fw, re.mono (.of s), rw.mono (.of s), f2⟩
theorem Rel.part {fr' : Fp} (r : Rel K ρ σ H F T fr) (p : Part fr' fr) : Rel K ρ σ H F T fr' := by
  obtain ⟨fe, fw, re, rw, f⟩ := r
  exact ⟨fe, fw, re, rw, f.part (.app .refl (.app .refl p))⟩
theorem FpH.own {p : Addr} {o : HO} (f : FpH F H fp) (hp : H p = none) : FpH F (upd H p o) ((p, o) :: fp) := by
  have np : ∀ e ∈ fp, e.1 ≠ p := fun e he => ne_of_none (f.at_ e he).1 hp
  refine ⟨fun a u h => ?_, fun e he => ?_, ?_, f.tbs fun a h1 h2 h3 => ?_⟩
  . rw [upd_ne (ne_of_none (f.low _ _ h) hp)]; exact f.low _ _ h
  . rcases List.mem_cons.mp he with rfl | he
    . exact ⟨upd_same, f.free hp⟩
    . rw [upd_ne (np e he)]; exact f.at_ e he
  . refine List.nodup_cons.mpr ⟨fun h => ?_, f.nd⟩
    obtain ⟨x, h1, h2⟩ := List.mem_map.mp h
    exact np x h1 h2
  . have ha : a ≠ p := fun z => h2 (by rw [z]; exact hp)
    refine ⟨h1, upd_ne ha, fun e he => ?_⟩
    rcases List.mem_cons.mp he with rfl | he
    . exact Ne.symm ha
    . exact h3 e he
theorem FpH.write {p : Addr} {o o' : HO} {a b : Fp} (f : FpH F H (a ++ ((p, o) :: b))) : FpH F (upd H p o') (a ++ ((p, o') :: b)) := by
  have nd : (keys a ++ (p :: keys b)).Nodup := by
    have := f.nd
    simpa [keys] using this
  obtain ⟨n1, n2, n3⟩ := List.nodup_append.mp nd
  have hp : F p = none := (f.at_ (p, o) (by simp)).2
  refine ⟨fun x u h => ?_, fun e he => ?_, ?_, f.tbs fun x h1 h2 h3 => ?_⟩
  . rw [upd_ne (fun z => by rw [z, hp] at h; cases h)]; exact f.low _ _ h
  . rcases List.mem_append.mp he with h | h
    . rw [upd_ne (n3 _ (List.mem_map_of_mem h) _ List.mem_cons_self)]
      exact f.at_ e (List.mem_append_left _ h)
    . rcases List.mem_cons.mp h with rfl | h
      . exact ⟨upd_same, hp⟩
      . rw [upd_ne (fun z => (List.nodup_cons.mp n2).1 (by have q : e.1 ∈ keys b := List.mem_map_of_mem h; rw [z] at q; exact q))]
        exact f.at_ e (List.mem_append_right _ (List.mem_cons_of_mem _ h))
  . have e : (a ++ ((p, o') :: b)).map (·.1) = keys a ++ (p :: keys b) := by simp [keys]
    rw [e]
    exact nd
  . have ha : x ≠ p := fun z => h3 (p, o) (by simp) z.symm
    refine ⟨h1, upd_ne ha, fun e he => ?_⟩
    rcases List.mem_append.mp he with h | h
    . exact h3 e (List.mem_append_left _ h)
    . rcases List.mem_cons.mp h with rfl | h
      . exact Ne.symm ha
      . exact h3 e (List.mem_append_right _ (List.mem_cons_of_mem _ h))
end
section
variable {X : Cx} {W : WX} {K : PySem.W.Frag} {pos : Pos}
theorem ad' {i j pos} : SE X W (.Constant (.int i) j pos) (M.eC (.int i)) := PE.imp pe_int fun σ H Q ⟨ρ, F, T, fr, rel, h⟩ => h _ _ _ _ .refl (.int i) rel
theorem co' {b j pos} : SE X W (.Constant (.bool b) j pos) (M.eC (.bl b)) := PE.imp pe_bl fun σ H Q ⟨ρ, F, T, fr, rel, h⟩ => h _ _ _ _ .refl (.bl b) rel
theorem tD' {j pos} : SE X W (.Constant .none j pos) (M.eC .non) := PE.imp pe_non fun σ H Q ⟨ρ, F, T, fr, rel, h⟩ => h _ _ _ _ .refl .non rel
def uh' (s : M.Tx) : Bool := s.all (fun c => decide (c < 1114112)) && decide (s.length <= 16777216)
theorem lJ' {s : M.Tx} (h : uh' s = true) : okT s := by
  unfold uh' at h
  rw [Bool.and_eq_true, List.all_eq_true] at h
  exact ⟨fun c hc => of_decide_eq_true (h.1 c hc), of_decide_eq_true h.2⟩
theorem aN' {x : Str} {j pos} (s : M.Tx) (hs : x = sx s) (ho : uh' s = true) : SE X W (.Constant (.str x) j pos) (M.eC (.str s)) := by
  subst hs
  exact PE.imp pe_str fun σ H Q ⟨ρ, F, T, fr, rel, h⟩ => h _ _ _ _ .refl (.str (lJ' ho)) rel
theorem y9' {e : Expr} {v : V} {d : M.D} (h : PE X e (tC v)) (z : ∀ F T, Fz X.K F T v d) : SE X W e (M.eC d) := PE.imp h fun σ H Q ⟨ρ, F, T, fr, rel, h⟩ => h _ _ _ _ .refl (z F T) rel
theorem to' {i : Nat} {σ : St} {H : Hp} {Q : VK} (h : qE K W (M.eV i) σ H Q) : tVar i σ H Q := by
  obtain ⟨ρ, F, T, fr, rel, h⟩ := h
  unfold M.eV at h
  split at h
  . rename_i d e
    obtain ⟨fe, fw, re, rw, f⟩ := id rel
    obtain ⟨v, f1, f2, f3, h1, rfl, h3, h4, h5⟩ := re.get e
    cases h3 with
    | fz z => exact ⟨v, h1, h v H F T .refl z rel⟩
  . exact h.elim
  . exact h.elim
  . rename_i o _ hne hnc e
    obtain ⟨fe, fw, re, rw, f⟩ := rel
    obtain ⟨v, f1, f2, f3, h1, rfl, h3, h4, h5⟩ := re.get e (M.ld' (fun z => hne (by rw [z])) fun z => hnc (by rw [z]))
    have f' : FpH F H (f2 ++ (f1 ++ f3 ++ (fw ++ fr))) := f.part (by refine ⟨fun e h => ?_, fun x => ?_⟩; (simp only [List.mem_append] at *; grind); (simp only [keys, List.map_append, List.count_append] at *; omega))
    obtain ⟨G, s, z, fG⟩ := h3.frozen f'
    have re' := h5 G T v (.fz (M.frz o)) [] (.of s) (.fz z)
    rw [cI' h1] at re'
    exact ⟨v, h1, h v H G T (.of s) z ⟨_, fw, re', rw.mono (.of s), by simpa using fG⟩⟩
  . exact h.elim
theorem ah' {e : Expr} {i : Nat} (h : PE X e (tVar i)) : SE X W e (M.eV i) := PE.imp h fun _ _ _ => to'
variable {a b c : Expr} {ma mb mc : M.ME} {σ : St} {H : Hp} {Q : VK}
theorem ex' {f : M.D -> M.D -> Option M.D} {r : R2} (hf : Op2 K f r) (h : qE K W (M.eOp f ma mb) σ H Q) : tOp r (qE K W ma) (qE K W mb) σ H Q := by
  obtain ⟨ρ, F, T, fr, rel, h⟩ := h
  refine aD' rel h fun dx ρ1 v H1 F1 T1 e1 z1 r1 h1 => ?_
  refine aD' r1 h1 fun dy ρ2 u H2 F2 T2 e2 z2 r2 h2 => ?_
  obtain ⟨dz, ez, q⟩ := aS'.ofO h2
  obtain ⟨fp, f2, back⟩ := r2.fp
  exact hf f2 (z1.mono e2) z2 ez fun v' H3 F3 s zz f3 => q v' H3 F3 T2 (e1.trans (e2.trans (.of s))) zz (back H3 F3 s f3)
theorem aY' {op : Operator} {f : M.D -> M.D -> Option M.D} {r : R2} (ho : OpR X (binaryOp op) r) (hf : Op2 X.K f r) (ha : SE X W a ma) (hb : SE X W b mb) : SE X W (.BinOp a op b pos) (M.eOp f ma mb) := PE.imp (pe_op ho ha hb) fun _ _ _ => ex' hf
theorem ed' {op : CmpOp} {f : M.D -> M.D -> Option M.D} {r : R2} (ho : OpR X (compareOp op) r) (hf : Op2 X.K f r) (hm : behindInMarks op b = false) (ha : SE X W a ma) (hb : SE X W b mb) : SE X W (.Compare a [op] [b] pos) (M.eOp f ma mb) := PE.imp (pe_cmpR ho ha hb hm) fun _ _ _ => ex' hf
theorem bQ' {f : M.D -> M.D -> Option M.D} {r : R2} (ho : IxR X r) (hf : Op2 X.K f r) (ha : SE X W a ma) (hb : SE X W b mb) (hs : PlainIx b) : SE X W (.Subscript a b pos) (M.eOp f ma mb) := PE.imp (pe_ix ho ha hb hs) fun _ _ _ => ex' hf
theorem qf' {f : M.D -> Option M.D} {r : V -> Hp -> VK -> Prop} (hf : Op1 K f r) (h : qE K W (M.eUn f ma) σ H Q) : tUn r (qE K W ma) σ H Q := by
  obtain ⟨ρ, F, T, fr, rel, h⟩ := h
  refine aD' rel h fun dx ρ1 v H1 F1 T1 e1 z1 r1 h1 => ?_
  obtain ⟨dz, ez, q⟩ := aS'.ofO h1
  obtain ⟨fp, f2, back⟩ := r1.fp
  exact hf f2 z1 ez fun v' H3 F3 s zz f3 => q v' H3 F3 T1 (e1.trans (.of s)) zz (back H3 F3 s f3)
theorem tB' {op : UnaryOp} {f : M.D -> Option M.D} {r : V -> Hp -> VK -> Prop} (ho : UnR X (unaryOp op) r) (hf : Op1 X.K f r) (ha : SE X W a ma) : SE X W (.UnaryOp op a pos) (M.eUn f ma) := PE.imp (pe_un ho ha) fun _ _ _ => qf' hf
theorem aS'.asB {d : M.D} {ρ : M.PSt} {P : Bool -> M.PSt -> Prop} {Y : Wx} (h : aS' (M.asB d ρ) P Y) : ∃ b, d = .bl b /\ P b ρ := by
  cases d <;> first | exact h.elim | exact ⟨_, rfl, h⟩
theorem jA' {f g : M.D -> M.D -> Option M.D} {r r' : R2} (hf : Op2 K f r) (hg : Op2 K g r') (h : qE K W (M.eh' f g ma mb mc) σ H Q) : tChain r r' (qE K W ma) (qE K W mb) (qE K W mc) σ H Q := by
  obtain ⟨ρ, F, T, fr, rel, h⟩ := h
  refine aD' rel h fun dx ρ1 v H1 F1 T1 e1 z1 r1 h1 => ?_
  refine aD' r1 h1 fun dy ρ2 u H2 F2 T2 e2 z2 r2 h2 => ?_
  obtain ⟨dz, ez, h3⟩ := aS'.ofO (aS'.bind h2)
  obtain ⟨fp, f2, back⟩ := r2.fp
  refine hf f2 (z1.mono e2) z2 ez fun v' H3 F3 s zz f3 => ?_
  have h4 := aS'.bind h3
  obtain ⟨k, rfl, h5⟩ := aS'.asB h4
  refine ⟨k, zz.bl_inv, ?_⟩
  have r3 := back H3 F3 s f3
  cases k with
  | true =>
    rw [if_pos rfl] at h5 ⊢
    refine aD' r3 (h5.mono (fun _ _ z => z) fun _ _ z => z.mono (.of s)) fun dw ρ4 w' H4 F4 T4 e4 z4 r4 h6 => ?_
    obtain ⟨dz, ez, q⟩ := aS'.ofO h6
    obtain ⟨fp, f4, back⟩ := r4.fp
    exact hg f4 ((z2.mono (.of s)).mono e4) z4 ez fun v' H5 F5 s5 zz f5 => q v' H5 F5 T4 (e1.trans (e2.trans ((Ext.of s).trans (e4.trans (.of s5))))) zz (back H5 F5 s5 f5)
  | false =>
    rw [if_neg Bool.false_ne_true] at h5 ⊢
    exact h5 _ H3 F3 T2 (e1.trans (e2.trans (.of s))) (.bl false) r3
theorem nv' {op op' : CmpOp} {f g : M.D -> M.D -> Option M.D} {r r' : R2} (ho : OpR X (compareOp op) r) (hf : Op2 X.K f r) (ho' : OpR X (compareOp op') r') (hg : Op2 X.K g r') (ha : SE X W a ma) (hb : SE X W b mb) (hc : SE X W c mc)
    (hm : lastMarks [op, op'] [b, c] = false := by with_unfolding_all rfl) : SE X W (.Compare a [op, op'] [b, c] pos) (M.eh' f g ma mb mc) := PE.imp (pe_chain ho ho' ha hb hc hm) fun _ _ _ => jA' hf hg
variable {rest : List Expr}
theorem tE' (ha : SE X W a ma) (hb : SE X W (.BoolOp .And (b :: rest) pos) mb) : SE X W (.BoolOp .And (a :: b :: rest) pos) (M.uR' ma mb) := PE.imp (pe_and ha hb) fun σ H Q ⟨ρ, F, T, fr, rel, h⟩ => by
  refine aD' rel h fun dx ρ1 v H1 F1 T1 e1 z1 r1 h1 => ?_
  obtain ⟨k, rfl, h2⟩ := aS'.asB (aS'.bind h1)
  refine ⟨k, z1.bl_inv, ?_⟩
  cases k with
  | true => rw [if_pos rfl] at h2 ⊢; exact ⟨ρ1, F1, T1, fr, r1, h2.mono (fun _ _ z v H' F' T' e => z v H' F' T' (e1.trans e)) fun _ _ z => z⟩
  | false => rw [if_neg Bool.false_ne_true] at h2 ⊢; exact h2 _ _ _ _ e1 (.bl false) r1
theorem tC' (ha : SE X W a ma) (hb : SE X W (.BoolOp .Or (b :: rest) pos) mb) : SE X W (.BoolOp .Or (a :: b :: rest) pos) (M.eOr ma mb) := PE.imp (pe_or ha hb) fun σ H Q ⟨ρ, F, T, fr, rel, h⟩ => by
  refine aD' rel h fun dx ρ1 v H1 F1 T1 e1 z1 r1 h1 => ?_
  obtain ⟨k, rfl, h2⟩ := aS'.asB (aS'.bind h1)
  refine ⟨k, z1.bl_inv, ?_⟩
  cases k with
  | true => rw [if_pos rfl] at h2 ⊢; exact h2 _ _ _ _ e1 (.bl true) r1
  | false => rw [if_neg Bool.false_ne_true] at h2 ⊢; exact ⟨ρ1, F1, T1, fr, r1, h2.mono (fun _ _ z v H' F' T' e => z v H' F' T' (e1.trans e)) fun _ _ z => z⟩
theorem lm' {op} (ha : SE X W a ma) : SE X W (.BoolOp op [a] pos) ma := pe_one ha
theorem o4' (ha : SE X W a ma) : SE X W (.UnaryOp .Not a pos) (M.sA' ma) := PE.imp (pe_not ha) fun σ H Q ⟨ρ, F, T, fr, rel, h⟩ => by
  refine aD' rel h fun dx ρ1 v H1 F1 T1 e1 z1 r1 h1 => ?_
  obtain ⟨k, rfl, h2⟩ := aS'.asB (aS'.bind h1)
  exact ⟨k, z1.bl_inv, h2 _ _ _ _ e1 (.bl _) r1⟩
variable {mt mu : M.MT}
theorem fo' (ha : SE X W a ma) (he : ∀ whole, isTrue a X.env whole = (do let v ← whole; standAt a.pos; holding [v] (truthy v)) := by intro _; rfl) : ST X W a (M.tE ma) := PT.imp (pt_val ha he) fun σ H Q ⟨ρ, F, T, fr, rel, h⟩ => by
  refine aD' rel h fun dx ρ1 v H1 F1 T1 e1 z1 r1 h1 => ?_
  obtain ⟨k, rfl, h2⟩ := aS'.asB h1
  exact ⟨k, z1.bl_inv, h2 _ _ _ e1 r1⟩
theorem bb' {op : CmpOp} {f : M.D -> M.D -> Option M.D} {r : R2} (ho : OpR X (compareOp op) r) (hf : Op2 X.K f r) (hm : behindInMarks op b = false) (ha : SE X W a ma) (hb : SE X W b mb) : ST X W (.Compare a [op] [b] pos) (M.tE (M.eOp f ma mb)) :=
  PT.imp (pt_cmpR ho ha hb hm) fun σ H Q ⟨ρ, F, T, fr, rel, h⟩ => by
    show tOp r (qE X.K W ma) (qE X.K W mb) σ H fun x H' => ∃ k, x = .bl k /\ Q k H'
    refine ex' hf ⟨ρ, F, T, fr, rel, (aS'.bind h).mono (fun d ρ1 h1 v H1 F1 T1 e z r => ?_) fun _ _ z => z⟩
    obtain ⟨k, rfl, h2⟩ := aS'.asB h1
    exact ⟨k, z.bl_inv, h2 _ _ _ e r⟩
abbrev SW (X : Cx) (W : WX) (e : Expr) (m : M.MT) : Prop := PW X e (qT X.K W m)
theorem le' (ha : ST X W a mt) : SW X W (.BoolOp .And [a] pos) mt := pw_and1 ha
theorem d9' (ha : ST X W a mt) : SW X W (.BoolOp .Or [a] pos) mt := pw_or1 ha
theorem oY' (ha : ST X W a mt) (hb : SW X W (.BoolOp .And (b :: rest) pos) mu) : SW X W (.BoolOp .And (a :: b :: rest) pos) (M.sk' mt mu) := PW.imp (pw_and ha hb) fun σ H Q ⟨ρ, F, T, fr, rel, h⟩ => by
  refine gy' rel h fun k ρ1 H1 F1 T1 e1 r1 h1 => ?_
  cases k with
  | true => rw [if_pos rfl] at h1 ⊢; exact ⟨ρ1, F1, T1, fr, r1, h1.mono (fun _ _ z H' F' T' e => z H' F' T' (e1.trans e)) fun _ _ z => z⟩
  | false => rw [if_neg Bool.false_ne_true] at h1 ⊢; exact h1 _ _ _ e1 r1
theorem fn' (ha : ST X W a mt) (hb : SW X W (.BoolOp .Or (b :: rest) pos) mu) : SW X W (.BoolOp .Or (a :: b :: rest) pos) (M.tOr mt mu) := PW.imp (pw_or ha hb) fun σ H Q ⟨ρ, F, T, fr, rel, h⟩ => by
  refine gy' rel h fun k ρ1 H1 F1 T1 e1 r1 h1 => ?_
  cases k with
  | true => rw [if_pos rfl] at h1 ⊢; exact h1 _ _ _ e1 r1
  | false => rw [if_neg Bool.false_ne_true] at h1 ⊢; exact ⟨ρ1, F1, T1, fr, r1, h1.mono (fun _ _ z H' F' T' e => z H' F' T' (e1.trans e)) fun _ _ z => z⟩
theorem oZ' (h : SW X W a mt) : ST X W a mt := PW.pt h
theorem cq' (ha : ST X W a mt) : ST X W (.UnaryOp .Not a pos) (M.iw' mt) := PT.imp (pt_not ha) fun σ H Q ⟨ρ, F, T, fr, rel, h⟩ => gy' rel h fun k ρ1 H1 F1 T1 e1 r1 h1 => h1 _ _ _ e1 r1
variable {es : List Expr} {as : M.MA}
theorem aj' : SA X W [] M.bi' := PA.imp pa_nil fun σ H Q ⟨ρ, F, T, fr, rel, h⟩ => h [] H F T .refl .nil rel
theorem ab' (ha : SE X W a ma) (hr : SA X W es as) (hs : starEach (a :: es) X.env = (false, eval a X.env) :: starEach es X.env := by rfl) : SA X W (a :: es) (M.ae' ma as) := PA.imp (pa_cons ha hr hs) fun σ H Q ⟨ρ, F, T, fr, rel, h⟩ => by
  refine aD' rel h fun dx ρ1 v H1 F1 T1 e1 z1 r1 h1 => ?_
  refine cB' r1 h1 fun ds ρ2 vs H2 F2 T2 e2 z2 r2 h2 => ?_
  exact h2 _ _ _ _ (e1.trans e2) (.cons (z1.mono e2) z2) r2
theorem ec' {k} (h : SA X W es as) : SE X W (.Tuple es k pos) (M.mK' as) := PE.imp (pe_tup h) fun σ H Q ⟨ρ, F, T, fr, rel, h⟩ => by
  refine cB' rel h fun ds ρ1 vs H1 F1 T1 e1 z1 r1 h1 => ?_
  split at h1
  . rename_i hl
    refine ⟨by rw [z1.length, bl']; exact hl, fun p hp => ?_⟩
    obtain ⟨fp, f, back⟩ := r1.fp
    have s : Same F1 (upd F1 p (.tup vs)) := cj' (f.free hp)
    exact h1 _ _ _ _ (e1.trans (.of s)) (.tup (SqT.of upd_same) (z1.mono (.of s))) (back _ _ s (f.new hp))
  . exact h1.elim
theorem ln' (h : SA X W es as) : SE X W (.List es pos) (M.mL' as) := PE.imp (pe_lst h) fun σ H Q ⟨ρ, F, T, fr, rel, h⟩ => by
  refine cB' rel h fun ds ρ1 vs H1 F1 T1 e1 z1 r1 h1 => ?_
  split at h1
  . rename_i hl
    refine ⟨by rw [z1.length, bl']; exact hl, fun p hp => ?_⟩
    obtain ⟨fp, f, back⟩ := r1.fp
    have s : Same F1 (upd F1 p (.lst vs)) := cj' (f.free hp)
    exact h1 _ _ _ _ (e1.trans (.of s)) (.lst upd_same (z1.mono (.of s))) (back _ _ s (f.new hp))
  . exact h1.elim
abbrev SP_ (X : Cx) (W : WX) (e : Option Expr) (m : M.MP) : Prop := PO X e (qP X.K W m)
theorem gs' : SP_ X W none M.pNo := PO.imp po_none fun σ H Q ⟨ρ, F, T, fr, rel, h⟩ => h _ _ _ .refl rel
theorem es' (ha : SE X W a ma) : SP_ X W (some a) (M.pSo ma) := PO.imp (po_some ha) fun σ H Q ⟨ρ, F, T, fr, rel, h⟩ => by
  refine aD' rel h fun dx ρ1 v H1 F1 T1 e1 z1 r1 h1 => ?_
  split at h1
  . exact ⟨_, z1.int_inv, h1 _ _ _ e1 r1⟩
  . exact h1.elim
theorem fu' {r : V -> Option Int -> Option Int -> Hp -> VK -> Prop} {lo hi : Option Expr} {ml mh : M.MP} {p2 : Pos} (ho : SlR X r) (hf : yU' X.K r) (ha : SE X W a ma) (hl : SP_ X W lo ml) (hh : SP_ X W hi mh) : SE X W (.Subscript a (.Slice lo hi none p2) pos) (M.eSl ma ml mh) :=
  PE.imp (pe_slice ho ha hl hh) fun σ H Q ⟨ρ, F, T, fr, rel, h⟩ => by
    refine aD' rel h fun dx ρ1 v H1 F1 T1 e1 z1 r1 h1 => ?_
    refine lC' r1 h1 fun l ρ2 H2 F2 T2 e2 r2 h2 => ?_
    refine lC' r2 h2 fun u ρ3 H3 F3 T3 e3 r3 h3 => ?_
    obtain ⟨dz, ez, q⟩ := aS'.ofO h3
    obtain ⟨fp, f3, back⟩ := r3.fp
    exact hf f3 ((z1.mono e2).mono e3) ez fun v' H4 F4 s zz f4 => q v' H4 F4 T3 (e1.trans (e2.trans (e3.trans (.of s)))) zz (back H4 F4 s f4)
end
end S
namespace S
open PySem PySem.Spec PyProof.Rows L2
variable [Wd]
section
variable (K : PySem.W.Frag) (H : Hp)
mutual
inductive NkV : V -> NestedKey -> Prop
  | non : NkV .non .none
  | bl (b : Bool) : NkV (.bl b) (.num (if b = true then 1 else 0))
  | int (i : Int) : NkV (.int i) (.num i)
  | str (x : Str) : NkV (.str x) (.text x)
  | tup {a : Addr} {vs : List V} {ks : List NestedKey} : SqT K H a vs -> NkVs vs ks -> NkV (.ref a) (.tup ks)
inductive NkVs : List V -> List NestedKey -> Prop
  | nil : NkVs [] []
  | cons {v : V} {vs : List V} {k : NestedKey} {ks : List NestedKey} : NkV v k -> NkVs vs ks -> NkVs (v :: vs) (k :: ks)
end
end
section
variable {X : Cx} {pins : List (Addr × Obj)} {σ : St} {H : Hp} {s : Shared}
mutual
theorem NkV.is (I : Inv X pins σ H s) : ∀ {v : V} {k : NestedKey} {u : Value}, NkV X.K H v k -> RelV v u -> NestedIs s.heap k u
  | _, _, _, .non, r => by cases (show _ = Value.none from r); exact .none
  | _, _, _, .bl b, r => by cases (show _ = Value.bool b from r); exact .bool rfl
  | _, _, _, .int i, r => by obtain ⟨t, e⟩ := (show ∃ t, _ = Value.int i t from r); subst e; exact .int i t
  | _, _, _, .str x, r => by obtain ⟨t, e⟩ := (show ∃ t, _ = Value.str x t from r); subst e; exact .text x t
  | _, _, _, .tup (a := a) h q, r => by
    cases (show _ = Value.ref a from r)
    obtain ⟨its, rv, ⟨o, h1, h2, n, h3⟩, _⟩ := I.tuple h
    exact .tup h1 h2 h3 (NkVs.is I q rv)
theorem NkVs.is (I : Inv X pins σ H s) : ∀ {v : List V} {k : List NestedKey} {u : List Value}, NkVs X.K H v k -> Vals v u -> NestedAll s.heap k u
  | _, _, _, .nil, r => by cases r; exact .nil
  | _, _, _, .cons a q, r => by
    cases r with
    | cons ra rq => exact .cons (NkV.is I a ra) (NkVs.is I q rq)
end
end
section
variable {K : PySem.W.Frag} {F H : Hp} {T : List Addr}
mutual
theorem Fz.nk (s : Same F H) : ∀ {v : V} {d : M.D}, Fz K F T v d -> M.kat d = true -> NkV K H v (nk d)
  | _, _, .non, _ => .non
  | _, _, .bl b, _ => .bl b
  | _, _, .int i, _ => .int i
  | _, _, .str h, _ => .str _
  | _, _, .tup h r, e => .tup (seqT s h) (FzA.nk s r e)
  | _, _, .lst h r, e => by cases e
  | _, _, .dct h _ r, e => by cases e
  | _, _, .dcl h k r, e => by cases e
  | _, _, .dcn h k q r, e => by cases e
  | _, _, .rep d, e => by cases e
  | _, _, .obj h, e => by cases e
  | _, _, .ty n, e => by cases e
  | _, _, .fn x, e => by cases e
  | _, _, .scr h r, e => by cases e
theorem FzA.nk (s : Same F H) : ∀ {vs : List V} {ds : List M.D}, FzA K F T vs ds -> M.kats ds = true -> NkVs K H vs (nks ds)
  | _, _, .nil, _ => .nil
  | _, _, .cons h r, e => by
    obtain ⟨e1, e2⟩ := Bool.and_eq_true_iff.mp (show (M.kat _ && M.kats _) = true from e)
    exact .cons (Fz.nk s h e1) (FzA.nk s r e2)
end
def lfV : V -> Option Leaf
  | .non => some .none
  | .bl b => some (.num (if b = true then 1 else 0))
  | .int i => some (.num i)
  | .str x => some (.text x)
  | _ => none
end
section
variable {κ : Type} [DecidableEq κ]
end
abbrev xsV (xs : List (NestedKey × Addr × V)) : List (NestedKey × V) := xs.map fun x => (x.1, x.2.2)
def v5' (K : PySem.W.Frag) (H : Hp) (xs : List (NestedKey × Addr × V)) : Prop := ∀ x ∈ xs, NkV K H (.ref x.2.1) x.1 /\ x.1.depth <= 8
inductive DLk (K : PySem.W.Frag) (H : Hp) (a : Addr) : V -> Option V -> Prop
  | k {kvs : List (Key × V)} (k : Key) : Rd H a (.dK kvs) -> DLk K H a (kV k) (valV kvs k)
  | l {kvs : List (Leaf × V)} {y : V} {l : Leaf} : Rd H a (dcL a kvs) -> lfV y = some l -> DLk K H a y (valV kvs l)
  | n {xs : List (NestedKey × Addr × V)} {b : Addr} {k : NestedKey} : Rd H a (dcN a xs) -> v5' K H xs -> NkV K H (.ref b) k -> k.depth <= 8 -> DLk K H a (.ref b) (valV (xsV xs) k)
  | ln {b : Addr} {k : NestedKey} : Rd H a (dcL a []) -> NkV K H (.ref b) k -> k.depth <= 8 -> DLk K H a (.ref b) none
  | nl {y : V} {l : Leaf} : Rd H a (dcN a []) -> lfV y = some l -> DLk K H a y none
section
variable {X : Cx} {pins : List (Addr × Obj)} {σ : St} {H : Hp} {s : Shared} {a b : Addr} {y : V} {u : Value} {ov : Option V} {A : Around} {E : Value -> Shared -> Prop}
theorem tV' {u : HO} (I : Inv X pins σ H s) (h : Rd H a u) : ObjOk X.prog X.w H s.heap a u := by
  rcases h with h | ⟨o, h⟩
  . exact I.hok a _ h
  . exact (show ObjOk X.prog X.w H s.heap a (.frz o u) from I.hok a _ h).2
theorem uT' (hw : X.prog = Wd.P /\ X.w = Wd.w) (I : Inv X pins σ H s) {kvs : List (Leaf × V)} (h : Rd H a (dcL a kvs)) : (a == sysModules) = false /\ kvs.length <= sizeLine /\ ∃ vs, KV kvs vs /\ s.heap.DictOf (leafKind X.prog X.w) a vs := by
  obtain ⟨⟨h1, h2, vs, h3, h4⟩, _⟩ := (show ObjOk X.prog X.w H s.heap a (dcL a kvs) from tV' I h)
  refine ⟨h1, h2, vs, h3, ?_⟩
  rw [<- hw.1, <- hw.2] at h4
  exact h4
def vU' (xs : List (NestedKey × Addr × V)) (k : NestedKey) (b : Addr) (v : V) : List (NestedKey × Addr × V) :=
  if (xs.any fun x => decide (x.1 = k)) = true then xs.map (fun x => if x.1 = k then (x.1, x.2.1, v) else x) else xs ++ [(k, b, v)]
inductive DSt (K : PySem.W.Frag) (H : Hp) (a : Addr) (y v : V) (N : Hp -> Prop) : Prop
  | k {kvs : List (Key × V)} (k : Key) : H a = some (.dK kvs) -> y = kV k -> ((kvs.map (·.1)).Nodup -> (kvs.length <= sizeLine -> (putK kvs k v).length <= sizeLine) /\ N (upd H a (.dK (putK kvs k v)))) -> DSt K H a y v N
  | l {kvs : List (Leaf × V)} {l : Leaf} : H a = some (dcL a kvs) -> lfV y = some l -> ((kvs.map (·.1)).Nodup -> (kvs.length <= sizeLine -> (putK kvs l v).length <= sizeLine) /\ N (upd H a (dcL a (putK kvs l v)))) -> DSt K H a y v N
  | n {xs : List (NestedKey × Addr × V)} {b : Addr} {k : NestedKey} : H a = some (dcN a xs) -> v5' K H xs -> y = .ref b -> NkV K H (.ref b) k -> k.depth <= 8 -> ((xs.map (·.1)).Nodup -> (xs.length <= sizeLine -> (vU' xs k b v).length <= sizeLine) /\ N (upd H a (dcN a (vU' xs k b v)))) -> DSt K H a y v N
  | ln {b : Addr} {k : NestedKey} : H a = some (dcL a []) -> y = .ref b -> NkV K H (.ref b) k -> k.depth <= 8 -> N (upd H a (dcN a [(k, b, v)])) -> DSt K H a y v N
  | nl {l : Leaf} : H a = some (dcN a []) -> lfV y = some l -> N (upd H a (dcL a [(l, v)])) -> DSt K H a y v N
def t0' (K : PySem.W.Frag) : List V -> Hp -> VK -> Prop := fun xs H Q => t1' K xs H Q \/ (∃ a kvs, xs = [V.ref a] /\ Rd H a (dcL a kvs) /\ Q (.int kvs.length) H) \/ ∃ a ys, xs = [V.ref a] /\ Rd H a (dcN a ys) /\ Q (.int ys.length) H
theorem a3' (hw : X.prog = Wd.P /\ X.w = Wd.w) : CallR X (.builtin "len") (t0' X.K) := by
  intro pins s σ H vs us Q I r h
  rcases h with h | ⟨a, kvs, rfl, e, q⟩ | ⟨a, xs, rfl, e, q⟩
  . exact ms' pins s σ H vs us Q I r h
  . cases r with
    | cons ra rn =>
      cases rn
      cases (show _ = Value.ref a from ra)
      obtain ⟨hd, z, ws, rel, dd⟩ := uT' hw I e
      refine call_len_dict hd dd (by rw [<- rel.length]; rw [sizeLine_eq] at z; omega) ?_
      rw [<- rel.length]
      exact ⟨.int kvs.length, H, I.tok _, ⟨_, rfl⟩, q⟩
  . cases r with
    | cons ra rn =>
      cases rn
      cases (show _ = Value.ref a from ra)
      obtain ⟨⟨hd, z, _, ys, rel, o, es, ep, g1, g2, g3, g4⟩, _⟩ := (show ObjOk X.prog X.w H s.heap a (dcN a xs) from tV' I e)
      have hl : es.size = xs.length := by
        have := congrArg List.length g4
        rw [List.length_map, <- Paired.length rel, Array.length_toList] at this
        exact this
      refine PyProof.Rows.call_len_slot (n := es.size) (show s.TypeIs (.ref a) "dict" from ⟨o, g1, g2.1⟩) PySem.F.slot_dict_len (fun Q' hq => call_len_raw hd ⟨o, g1, g2, g3⟩ hq) (by omega) (by rw [sizeLine_eq] at z; omega) ?_
      rw [hl]
      exact ⟨.int xs.length, H, I.tok _, ⟨_, rfl⟩, q⟩
end
end S
namespace S
open PySem PySem.Spec PyProof.Rows L2
variable [Wd] [Hot]
section
variable (K : PySem.W.Frag)
def Bi1 (f : M.D -> Option M.D) (r : List V -> Hp -> VK -> Prop) : Prop := ∀ {F H : Hp} {T : List Addr} {fp : Fp} {x : V} {dx dz : M.D} {Q : VK}, FpH F H fp -> Fz K F T x dx -> f dx = some dz -> dj' K F T fp dz Q -> r [x] H Q
end
section
variable {X : Cx} {W : WX} {K : PySem.W.Frag} {pos p : Pos} {x : Str} {id : String} {a b : Expr} {ma mb : M.ME} {σ : St} {H : Hp} {Q : VK} {r : List V -> Hp -> VK -> Prop}
theorem my' {f : M.D -> Option M.D} (hf : Bi1 K f r) (h : qE K W (M.eUn f ma) σ H Q) : tCB r (tCons (qE K W ma) tNil) σ H Q := by
  obtain ⟨ρ, F, T, fr, rel, h⟩ := h
  refine aD' rel h fun dx ρ1 v H1 F1 T1 e1 z1 r1 h1 => ?_
  obtain ⟨dz, ez, q⟩ := aS'.ofO h1
  obtain ⟨fp, f2, back⟩ := r1.fp
  exact hf f2 z1 ez fun v' H3 F3 s zz f3 => q v' H3 F3 T1 (e1.trans (.of s)) zz (back H3 F3 s f3)
theorem bL' {f : M.D -> Option M.D} (hc : CallR X (.builtin id) r) (hf : Bi1 X.K f r) (hg : Gl X x) (hm : X.mg x = none) (hv : bootBuiltins x = some (.builtin id)) (ha : SE X W a ma) (hn : x ≠ "__name__" := by decide) (hdb : (x == ("__debug__" : Str)) = false := by decide)
    (he : starEach [a] X.env = (false, eval a X.env) :: starEach [] X.env := by rfl) (hpl : (backTo pos (starEach [] X.env)).any (·.1) = false := by rfl) : SE X W (.Call (.Name x p) [a] [] pos) (M.eUn f ma) := PE.imp (pe_callB hc hg hm hv (pa_cons ha pa_nil he) hn hdb he hpl) fun _ _ _ => my' hf
theorem ft' {f : M.D -> Option M.D} (hc : CallR X (.type id) r) (hf : Bi1 X.K f r) (hg : Gl X x) (hm : X.mg x = none) (hv : bootBuiltins x = some (.type id)) (ha : SE X W a ma) (hn : x ≠ "__name__" := by decide) (hdb : (x == ("__debug__" : Str)) = false := by decide)
    (he : starEach [a] X.env = (false, eval a X.env) :: starEach [] X.env := by rfl) (hpl : (backTo pos (starEach [] X.env)).any (·.1) = false := by rfl) : SE X W (.Call (.Name x p) [a] [] pos) (M.eUn f ma) := PE.imp (pe_callTy hc hg hm hv (pa_cons ha pa_nil he) hn hdb he hpl) fun _ _ _ => my' hf
theorem tW' {F H : Hp} {a : Addr} {u : HO} (s : Same F H) (h : Rd F a u) : Rd H a u := h.imp (s _ _) fun ⟨o, h⟩ => ⟨o, s _ _ h⟩
theorem dI' : Bi1 K M.dg' (t0' K) := by
  intro F H T fp x dx dz Q f hx h k
  by_cases hX : ∃ ks vs, dx = .dcx ks vs
  . obtain ⟨ks, vs, rfl⟩ := hX
    cases h
    cases hx with
    | @dcl a kvs _ _ e ke z =>
      have q : kvs.length = ks.length := by have := congrArg List.length ke.e; simpa using this
      refine .inr (.inl ⟨_, _, rfl, e.imp (f.low _ _) fun ⟨o, h⟩ => ⟨o, f.low _ _ h⟩, ?_⟩)
      rw [q]
      exact k.here f (.int _)
    | @dcn a xs _ _ e ke z1 z2 =>
      have q : xs.length = ks.length := by have := congrArg List.length ke.e; simpa using this
      refine .inr (.inr ⟨_, _, rfl, e.imp (f.low _ _) fun ⟨o, h⟩ => ⟨o, f.low _ _ h⟩, ?_⟩)
      rw [q]
      exact k.here f (.int _)
  refine .inl ?_
  cases dx <;> try (cases h; done)
  . obtain ⟨rfl, o1⟩ := hx.str_inv
    cases h
    refine .inl ⟨_, rfl, o1.len, ?_⟩
    rw [bG']
    exact k.here f (.int _)
  . obtain ⟨a, vs, rfl, ha, za⟩ := hx.tup_inv
    cases h
    refine .inr (.inl ⟨a, vs, rfl, .inr (seqT f.low ha), ?_⟩)
    rw [za.length]
    exact k.here f (.int _)
  . obtain ⟨a, vs, rfl, ha, za⟩ := hx.lst_inv
    cases h
    refine .inr (.inl ⟨a, vs, rfl, .inl (SqL.of (f.low _ _ ha)), ?_⟩)
    rw [za.length]
    exact k.here f (.int _)
  . cases hx with
    | dct ha _ za =>
      cases h
      refine .inr (.inr ⟨_, _, rfl, tW' f.low ha, ?_⟩)
      refine k.here f ?_
      rw [List.length_map]
      exact .int _
  . exact absurd ⟨_, _, rfl⟩ hX
theorem dJ' {F : Hp} {T : List Addr} : ∀ {vs : List V} {ds : List M.D} {bs : List Bool}, FzA K F T vs ds -> M.bools ds = some bs -> vs = bs.map V.bl
  | _, _, bs, .nil, h => by cases h; rfl
  | _, d :: ds, bs, .cons a r, h => by
    cases d <;> try (cases h; done)
    rename_i b
    cases q : M.bools ds with
    | none => simp only [M.bools, q] at h; cases h
    | some cs =>
      simp only [M.bools, q, Option.map_some] at h
      cases h
      rw [a.bl_inv, dJ' r q]
      rfl
theorem mu' : Bi1 K M.lF' (rAll K) := by
  intro F H T fp x dx dz Q f hx h k
  cases dx <;> try (cases h; done)
  obtain ⟨a, vs, rfl, ha, za⟩ := hx.lst_inv
  rename_i ds
  cases q : M.bools ds with
  | none => simp only [M.lF', q] at h; cases h
  | some bs =>
    simp only [M.lF', q, Option.map_some] at h
    cases h
    exact ⟨a, bs, rfl, by rw [<- dJ' za q]; exact SqL.of (f.low _ _ ha), k.here f (.bl _)⟩
theorem se' : Bi1 K M.mG' (rAny K) := by
  intro F H T fp x dx dz Q f hx h k
  cases dx <;> try (cases h; done)
  obtain ⟨a, vs, rfl, ha, za⟩ := hx.lst_inv
  rename_i ds
  cases q : M.bools ds with
  | none => simp only [M.mG', q] at h; cases h
  | some bs =>
    simp only [M.mG', q, Option.map_some] at h
    cases h
    exact ⟨a, bs, rfl, by rw [<- dJ' za q]; exact SqL.of (f.low _ _ ha), k.here f (.bl _)⟩
theorem ge' : Bi1 K M.jq' t3' := by
  intro F H T fp x dx dz Q f hx h k
  cases dx <;> try (cases h; done)
  . cases hx; cases h
    exact .inr ⟨_, rfl, k.here f (.int _)⟩
  . cases hx; cases h
    exact .inl ⟨_, rfl, k.here f (.int _)⟩
theorem yu' : Bi1 K M.vX' t6' := by
  intro F H T fp x dx dz Q f hx h k
  cases dx <;> try (cases h; done)
  cases hx; cases h
  exact ⟨_, rfl, k.here f (.int _)⟩
theorem nq' {s : M.Tx} : signs (sx s) = s.map chv := by
  unfold signs
  show (s.toArray.toList.map fun c => V.str ⟨#[c]⟩) = _
  simp
  intro a _
  rfl
theorem FzA.signs {K : PySem.W.Frag} {F : Hp} {T : List Addr} {s : M.Tx} (o : okT s) : FzA K F T (S.signs (sx s)) (s.map M.chD) := by
  rw [nq']
  exact FzA.chars o.1
theorem tp' {F H : Hp} {T : List Addr} {v : V} {d : M.D} {n : String} (s : Same F H) (h : Fz K F T v d) (e : M.tyn d = some n) : TyX K H v (.type n) := by
  cases h with
  | non => cases e; exact .base .non
  | bl b => cases e; exact .base (.bl b)
  | int i => cases e; exact .base (.int i)
  | str z => cases e; exact .base (.str _)
  | lst h1 _ => cases e; exact tyL (SqL.of (s _ _ h1))
  | tup h1 _ => cases e; exact tyT (seqT s h1)
  | dct h1 _ _ =>
    cases e
    rcases h1 with h1 | ⟨o, h1⟩
    . exact .base (.dK (s _ _ h1))
    . exact .fDict (s _ _ h1)
  | dcl _ _ _ => cases e
  | dcn _ _ _ _ => cases e
  | rep _ => cases e
  | obj _ => cases e
  | ty _ => cases e
  | fn _ => cases e
  | scr _ _ => cases e
theorem q9' : ∀ n ∈ ["NoneType", "bool", "int", "str", "tuple", "list", "dict"], ∀ t ∈ ["bool", "int", "str", "tuple", "list", "dict"], kitB n t = some (n == t || (n == "bool" && t == "int")) := by decide +kernel
theorem qg' {d : M.D} {n : String} (e : M.tyn d = some n) : n ∈ ["NoneType", "bool", "int", "str", "tuple", "list", "dict"] := by
  cases d <;> first | (cases e; done) | (cases e; decide)
def go' (K : PySem.W.Frag) (J : It) (ds : List M.D) (F : Hp) (T : List Addr) : Prop := ∀ F' T' H' fp i, Ext F T F' T' -> FpH F' H' fp -> i <= ds.length →
  (i = ds.length -> J.stop i H') /\ ∀ d, ds[i]? = some d -> J.go i H' /\ ∀ x H2, J.yld i H' x H2 -> ∃ F2, Same F' F2 /\ Fz K F2 T' x d /\ FpH F2 H2 fp
theorem go'.mono {J : It} {ds : List M.D} {F F' : Hp} {T T' : List Addr} (h : go' K J ds F T) (e : Ext F T F' T') : go' K J ds F' T' := fun F2 T2 H2 fp i e2 => h F2 T2 H2 fp i (e.trans e2)
def qI (K : PySem.W.Frag) (W : WX) (m : M.MI) : TI := fun σ H R => ∃ ρ F T fr, Rel K ρ σ H F T fr ∧
  aS' (m ρ) (fun ds ρ' => ∀ J H' F' T', Ext F T F' T' -> go' K J ds F' T' -> Rel K ρ' σ H' F' T' fr -> R J H') (EX K W σ F T fr)
abbrev SI (X : Cx) (W : WX) (tg e : Expr) (m : M.MI) : Prop := PI X tg e (qI X.K W m)
theorem PI.imp {tg e : Expr} {t t' : TI} (h : PI X tg e t) (i : ∀ σ H Q, t' σ H Q -> t σ H Q) : PI X tg e t' := ⟨fun pins s σ H Q I q => h.run pins s σ H Q I (i σ H Q q)⟩
theorem ri' {a : Addr} {vs : List V} {ds : List M.D} {F : Hp} {T : List Addr} (ha : F a = some (.lst vs)) (z : FzA K F T vs ds) : go' K (Itl K a) ds F T := fun F' T' H' fp i e f hi => by
  have h' : SqL K H' a vs := SqL.of (f.low _ _ (e.f.lst ha))
  refine ⟨fun q => ⟨vs, h', by rw [z.length]; omega⟩, fun d hd => ?_⟩
  obtain ⟨v, h1, h2⟩ := z.get hd
  refine ⟨⟨vs, v, h', h1⟩, fun x H2 y => ?_⟩
  obtain ⟨rfl, y⟩ := y
  have := y vs h'
  rw [h1] at this
  cases this
  exact ⟨F', fun _ _ e => e, h2.mono e, f⟩
theorem uz' {a : Addr} {vs : List V} {ds : List M.D} {F : Hp} {T : List Addr} (ha : SqT K F a vs) (z : FzA K F T vs ds) : go' K (Itt K a) ds F T := fun F' T' H' fp i e f hi => by
  have h' : SqT K H' a vs := seqT f.low (e.f.seqT ha)
  refine ⟨fun q => ⟨vs, h', by rw [z.length]; omega⟩, fun d hd => ?_⟩
  obtain ⟨v, h1, h2⟩ := z.get hd
  refine ⟨⟨vs, v, h', h1⟩, fun x H2 y => ?_⟩
  obtain ⟨rfl, y⟩ := y
  have := y vs h'
  rw [h1] at this
  cases this
  exact ⟨F', fun _ _ e => e, h2.mono e, f⟩
theorem ts' (s : M.Tx) (i : Nat) : (sx s).cps[i]? = s[i]? := by simp [sx]
theorem uA' {s : M.Tx} {F : Hp} {T : List Addr} (o : okT s) : go' K (Its (sx s)) (s.map M.chD) F T := fun F' T' H' fp i e f hi => by
  have el : (sx s).cps.size = s.length := bG' s
  rw [List.length_map] at hi ⊢
  refine ⟨fun q => by show (sx s).cps.size <= i; omega, fun d hd => ?_⟩
  rw [List.getElem?_map] at hd
  cases q : s[i]? with
  | none => rw [q] at hd; cases hd
  | some c =>
    rw [q] at hd
    cases hd
    refine ⟨by show i < (sx s).cps.size; have := (List.getElem?_eq_some_iff.mp q).1; omega, fun x H2 y => ?_⟩
    obtain ⟨rfl, c', h1, rfl⟩ := y
    rw [ts', q] at h1
    cases h1
    exact ⟨F', fun _ _ e => e, mb' (o.1 c (List.mem_of_getElem? q)), f⟩
theorem pk' {lo : Int} {n : Nat} {F : Hp} {T : List Addr} : go' K (Itr lo n) (M.rgI lo n) F T := fun F' T' H' fp i e f hi => by
  unfold M.rgI at hi ⊢
  rw [List.length_map, List.length_range] at hi ⊢
  refine ⟨fun q => by show n <= i; omega, fun d hd => ?_⟩
  rw [List.getElem?_map] at hd
  by_cases h : i < n
  . rw [List.getElem?_range h] at hd
    cases hd
    refine ⟨h, fun x H2 y => ?_⟩
    obtain ⟨rfl, rfl⟩ := y
    exact ⟨F', fun _ _ e => e, .int _, f⟩
  . rw [List.getElem?_eq_none (by rw [List.length_range]; omega)] at hd
    cases hd
theorem t9' {tg e : Expr} {te : TE} (h : PE X e te) : PI X tg e (fun σ H R => iStr te σ H R \/ iList X.K te σ H R \/ iTup X.K te σ H R) := qM' (pi_str h) (qM' (pi_list h) (pi_tup h))
theorem qI' {m : M.ME} {ρ ρ1 : M.PSt} {F : Hp} {T : List Addr} {fr : Fp} {d : M.D} (rel : Rel K ρ σ H F T fr) (em : m ρ = .ok d ρ1) (h : ∀ v H' F' T', Ext F T F' T' -> Fz K F' T' v d -> Rel K ρ1 σ H' F' T' fr -> Q v H') : qE K W m σ H Q :=
  ⟨ρ, F, T, fr, rel, by rw [em]; exact h⟩
theorem b3' {tg : Expr} (h : SE X W a ma) : SI X W tg a (M.gH' ma) := PI.imp (t9' h) fun σ H R ⟨ρ, F, T, fr, rel, q⟩ => by
  have q2 := aS'.bind q
  cases em : ma ρ with
  | bad => rw [em] at q2; exact q2.elim
  | exc x ρ1 =>
    rw [em] at q2
    exact .inl ⟨ρ, F, T, fr, rel, by rw [em]; exact q2⟩
  | ok d ρ1 =>
    rw [em] at q2
    obtain ⟨ds, e1, q3⟩ := aS'.ofO (show aS' _ _ _ from q2)
    cases d <;> try (cases e1; done)
    . cases e1
      refine .inl (qI' rel em fun v H' F' T' e z r => ?_)
      obtain ⟨rfl, o⟩ := z.str_inv
      exact ⟨_, rfl, q3 _ _ _ _ e (uA' o) r⟩
    . cases e1
      refine .inr (.inr (qI' rel em fun v H' F' T' e z r => ?_))
      obtain ⟨p, vs, rfl, ha, za⟩ := z.tup_inv
      obtain ⟨fp, f, _⟩ := r.fp
      exact ⟨p, rfl, ⟨vs, seqT f.low ha⟩, q3 _ _ _ _ e (uz' ha za) r⟩
    . cases e1
      refine .inr (.inl (qI' rel em fun v H' F' T' e z r => ?_))
      obtain ⟨p, vs, rfl, ha, za⟩ := z.lst_inv
      obtain ⟨fp, f, _⟩ := r.fp
      exact ⟨p, rfl, ⟨vs, SqL.of (f.low _ _ ha)⟩, q3 _ _ _ _ e (ri' ha za) r⟩
theorem sf' {i : Int} (h : M.mM' i = true) : -(2 ^ 62) <= i /\ i < 2 ^ 62 := by
  unfold M.mM' at h
  simpa [Bool.and_eq_true] using h
theorem bO' {tg : Expr} (hg : Gl X "range") (hm : X.mg "range" = none) (ha : SE X W a ma) (hs : starEach [a] X.env = [(false, eval a X.env)] := by rfl) : SI X W tg (.Call (.Name "range" p) [a] [] pos) (M.bM' ma) :=
  PI.imp (pi_range1 hg hm (pa_cons ha pa_nil hs) hs) fun σ H R ⟨ρ, F, T, fr, rel, q⟩ => by
    refine aD' rel q fun dx ρ1 v H1 F1 T1 e1 z1 r1 h1 => ?_
    obtain ⟨ds, e2, q2⟩ := aS'.ofO h1
    unfold M.c3' at e2
    split at e2
    . split at e2
      . rename_i hb
        cases e2
        cases z1
        obtain ⟨b1, b2⟩ := sf' hb
        exact ⟨_, rfl, b1, b2, q2 _ _ _ _ e1 pk' r1⟩
      . cases e2
    . cases e2
theorem ll' {tg : Expr} (hg : Gl X "range") (hm : X.mg "range" = none) (ha : SE X W a ma) (hb : SE X W b mb) (hs : starEach [a, b] X.env = [(false, eval a X.env), (false, eval b X.env)] := by rfl) (hs2 : starEach [b] X.env = [(false, eval b X.env)] := by rfl) :
    SI X W tg (.Call (.Name "range" p) [a, b] [] pos) (M.dF' ma mb) :=
  PI.imp (pi_range2 hg hm (pa_cons ha (pa_cons hb pa_nil hs2) (hs.trans (by rw [hs2]))) hs hs2) fun σ H R ⟨ρ, F, T, fr, rel, q⟩ => by
    refine aD' rel q fun dx ρ1 v H1 F1 T1 e1 z1 r1 h1 => ?_
    refine aD' r1 h1 fun dy ρ2 u H2 F2 T2 e2 z2 r2 h2 => ?_
    obtain ⟨ds, e3, q2⟩ := aS'.ofO h2
    unfold M.c2' at e3
    split at e3
    . split at e3
      . rename_i hb
        cases e3
        cases z1
        cases z2
        obtain ⟨b1, b2⟩ := sf' hb.1
        obtain ⟨b3, b4⟩ := sf' hb.2
        exact ⟨_, _, rfl, ⟨b1, b2, b3, b4⟩, q2 _ _ _ _ (e1.trans e2) pk' r2⟩
      . cases e3
    . cases e3
theorem hf' : ∀ (a b : List M.D), (M.b0' a b).length = min a.length b.length
  | [], _ => by simp [M.b0']
  | _ :: _, [] => by simp [M.b0']
  | x :: a, y :: b => by
    show (M.b0' a b).length + 1 = _
    rw [hf' a b]
    simp only [List.length_cons]
    omega
theorem hh' : ∀ (a b : List M.D) (i : Nat) (d : M.D), (M.b0' a b)[i]? = some d -> ∃ x y, a[i]? = some x /\ b[i]? = some y /\ d = .tup [x, y]
  | [], _, i, d, h => by simp [M.b0'] at h
  | _ :: _, [], i, d, h => by simp [M.b0'] at h
  | x :: a, y :: b, 0, d, h => ⟨x, y, rfl, rfl, (Option.some.inj h).symm⟩
  | x :: a, y :: b, i + 1, d, h => hh' a b i d h
theorem gE' {J : It} {as bs : List M.D} {F : Hp} {T : List Addr} (hs : ∀ F' T' H' fp i, Ext F T F' T' -> FpH F' H' fp -> i = min as.length bs.length -> J.stop i H')
    (hy : ∀ F' T' H' fp i dx dy, Ext F T F' T' -> FpH F' H' fp -> as[i]? = some dx -> bs[i]? = some dy -> J.go i H' /\ ∀ v H2, J.yld i H' v H2 -> ∃ p x y, v = .ref p /\ H' p = none /\ H2 = upd H' p (.tup [x, y]) /\ Fz K F' T' x dx /\ Fz K F' T' y dy) : go' K J (M.b0' as bs) F T := fun F' T' H' fp i e f hi => by
  rw [hf'] at hi ⊢
  refine ⟨fun q => hs F' T' H' fp i e f q, fun d hd => ?_⟩
  obtain ⟨dx, dy, h1, h2, rfl⟩ := hh' _ _ _ _ hd
  obtain ⟨g, y⟩ := hy F' T' H' fp i dx dy e f h1 h2
  refine ⟨g, fun v H2 q => ?_⟩
  obtain ⟨p, x, y', rfl, hp, rfl, zx, zy⟩ := y v H2 q
  have s : Same F' (upd F' p (.tup [x, y'])) := cj' (f.free hp)
  exact ⟨_, s, .tup (SqT.of upd_same) (.cons (zx.mono (.of s)) (.cons (zy.mono (.of s)) .nil)), f.new hp⟩
theorem rd' {s t : M.Tx} {F : Hp} {T : List Addr} (o : okT s) (o2 : okT t) : go' K (ItP (chS (sx s)) (chS (sx t)) (min (sx s).cps.size (sx t).cps.size)) (M.b0' (s.map M.chD) (t.map M.chD)) F T := by
  have e1 : (sx s).cps.size = s.length := bG' s
  have e2 : (sx t).cps.size = t.length := bG' t
  refine gE' (fun F' T' H' fp i e f hi => ?_) fun F' T' H' fp i dx dy e f h1 h2 => ?_
  . rw [List.length_map, List.length_map] at hi
    show i = min (sx s).cps.size (sx t).cps.size
    omega
  . rw [List.getElem?_map] at h1 h2
    cases q1 : s[i]? with
    | none => rw [q1] at h1; cases h1
    | some c =>
      cases q2 : t[i]? with
      | none => rw [q2] at h2; cases h2
      | some d =>
        rw [q1] at h1
        rw [q2] at h2
        cases h1
        cases h2
        have l1 := (List.getElem?_eq_some_iff.mp q1).1
        have l2 := (List.getElem?_eq_some_iff.mp q2).1
        refine ⟨by show i < min (sx s).cps.size (sx t).cps.size; omega, fun v H2 y => ?_⟩
        obtain ⟨p, x, y', rfl, hp, rfl, c1, c2⟩ := y
        unfold chS at c1 c2
        rw [fm', q1] at c1
        rw [fm', q2] at c2
        cases c1
        cases c2
        exact ⟨p, _, _, rfl, hp, rfl, mb' (o.1 c (List.mem_of_getElem? q1)), mb' (o2.1 d (List.mem_of_getElem? q2))⟩
theorem rf' {a b : Addr} {vs ws : List V} {ds es : List M.D} {F : Hp} {T : List Addr} (ha : F a = some (.lst vs)) (z : FzA K F T vs ds) (hb : F b = some (.lst ws)) (z2 : FzA K F T ws es) : go' K (Itz K a b) (M.b0' ds es) F T := by
  refine gE' (fun F' T' H' fp i e f hi => ?_) fun F' T' H' fp i dx dy e f h1 h2 => ?_
  . exact ⟨vs, ws, SqL.of (f.low _ _ (e.f.lst ha)), SqL.of (f.low _ _ (e.f.lst hb)), by rw [z.length, z2.length]; omega⟩
  . obtain ⟨x, x1, x2⟩ := z.get h1
    obtain ⟨y, y1, y2⟩ := z2.get h2
    have a1 : SqL K H' a vs := SqL.of (f.low _ _ (e.f.lst ha))
    have b1 : SqL K H' b ws := SqL.of (f.low _ _ (e.f.lst hb))
    refine ⟨⟨vs, ws, x, y, a1, b1, x1, y1⟩, fun v H2 q => ?_⟩
    obtain ⟨p, x', y', rfl, hp, rfl, q1, q2⟩ := q
    have := q1 vs a1
    rw [x1] at this
    cases this
    have := q2 ws b1
    rw [y1] at this
    cases this
    exact ⟨p, _, _, rfl, hp, rfl, x2.mono e, y2.mono e⟩
theorem rc' {a b : Addr} {vs ws : List V} {ds es : List M.D} {F : Hp} {T : List Addr} (ha : SqT K F a vs) (z : FzA K F T vs ds) (hb : SqT K F b ws) (z2 : FzA K F T ws es) : go' K (RZ.ItzT K a b) (M.b0' ds es) F T := by
  refine gE' (fun F' T' H' fp i e f hi => ?_) fun F' T' H' fp i dx dy e f h1 h2 => ?_
  . exact ⟨vs, ws, seqT f.low (e.f.seqT ha), seqT f.low (e.f.seqT hb), by rw [z.length, z2.length]; omega⟩
  . obtain ⟨x, x1, x2⟩ := z.get h1
    obtain ⟨y, y1, y2⟩ := z2.get h2
    have a1 : SqT K H' a vs := seqT f.low (e.f.seqT ha)
    have b1 : SqT K H' b ws := seqT f.low (e.f.seqT hb)
    refine ⟨⟨vs, ws, x, y, a1, b1, x1, y1⟩, fun v H2 q => ?_⟩
    obtain ⟨p, x', y', rfl, hp, rfl, q1, q2⟩ := q
    have := q1 vs a1
    rw [x1] at this
    cases this
    have := q2 ws b1
    rw [y1] at this
    cases this
    exact ⟨p, _, _, rfl, hp, rfl, x2.mono e, y2.mono e⟩
theorem ty' {elts : List Expr} {kk : Nat} {tpos : Pos} (hg : Gl X "zip") (hm : X.mg "zip" = none) (ha : SE X W a ma) (hb : SE X W b mb)
    (hs : starEach [a, b] X.env = (false, eval a X.env) :: starEach [b] X.env := by rfl) (hs2 : starEach [b] X.env = (false, eval b X.env) :: starEach [] X.env := by rfl) (hpl : (backTo pos (starEach [b] X.env)).any (·.1) = false := by rfl) :
    SI X W (.Tuple elts kk tpos) (.Call (.Name "zip" p) [a, b] [] pos) (M.uE' ma mb) :=
  PI.imp (qK' hg hm (pa_cons ha (pa_cons hb pa_nil hs2) hs) hs hpl) fun σ H R ⟨ρ, F, T, fr, rel, q⟩ => by
    -- the kind of both is known ahead
    have fin : ∀ (isS : Bool), (∀ x ρ1, ma ρ = .ok x ρ1 -> ∀ y ρ2, mb ρ1 = .ok y ρ2 -> (isS = true ↔ ∃ s, x = .str s)) -> uC' X.K (tCons (qE X.K W ma) (tCons (qE X.K W mb) tNil)) σ H R := by
      intro isS hS
      have q1 := aS'.bind q
      have body : ∀ (G : List V -> Hp -> Prop), (∀ x y u v H2 F2 T2 ds ρ2, Ext F T F2 T2 -> Fz X.K F2 T2 u x -> Fz X.K F2 T2 v y -> M.mD' x y = some ds -> Rel X.K ρ2 σ H2 F2 T2 fr -> (isS = true ↔ ∃ s, x = .str s) →
          (∀ J H' F' T', Ext F T F' T' -> go' X.K J ds F' T' -> Rel X.K ρ2 σ H' F' T' fr -> R J H') -> G [u, v] H2) -> tCons (qE X.K W ma) (tCons (qE X.K W mb) tNil) σ H G := by
        intro G hG
        refine ⟨ρ, F, T, fr, rel, ?_⟩
        cases em : ma ρ with
        | bad => rw [em] at q1; exact q1.elim
        | exc x ρ1 => rw [em] at q1; exact q1
        | ok x ρ1 =>
          rw [em] at q1
          have q2 := aS'.bind (show aS' ((mb ρ1).bind _) _ _ from q1)
          intro u H1 F1 T1 e1 z1 r1
          refine ⟨ρ1, F1, T1, fr, r1, ?_⟩
          cases en : mb ρ1 with
          | bad => rw [en] at q2; exact q2.elim
          | exc y ρ2 => rw [en] at q2; exact EX.mono (show EX X.K W σ F T fr y ρ2 from q2) e1
          | ok y ρ2 =>
            rw [en] at q2
            obtain ⟨ds, e3, q3⟩ := aS'.ofO (show aS' (M.ofO _ _) _ _ from q2)
            intro v H2 F2 T2 e2 z2 r2
            exact hG x y u v H2 F2 T2 ds ρ2 (e1.trans e2) (z1.mono e2) z2 e3 r2 (hS x ρ1 em y ρ2 en) q3
      cases isS with
      | true =>
        refine .inl (body _ fun x y u v H2 F2 T2 ds ρ2 e z1 z2 hz r2 hk q3 => ?_)
        obtain ⟨s, rfl⟩ := hk.mp rfl
        cases y <;> try (cases hz; done)
        obtain ⟨rfl, o1⟩ := z1.str_inv
        obtain ⟨rfl, o2⟩ := z2.str_inv
        cases hz
        exact ⟨_, _, rfl, q3 _ _ _ _ e (rd' o1 o2) r2⟩
      | false =>
        refine .inr (body _ fun x y u v H2 F2 T2 ds ρ2 e z1 z2 hz r2 hk q3 => ?_)
        obtain ⟨fp, f, _⟩ := r2.fp
        cases x <;> cases y <;> try (cases hz; done)
        . exact absurd (hk.mpr ⟨_, rfl⟩) Bool.false_ne_true
        . obtain ⟨a1, vs, rfl, ha, za⟩ := z1.tup_inv
          obtain ⟨b1, ws, rfl, hb, zb⟩ := z2.tup_inv
          cases hz
          exact ⟨a1, b1, vs, ws, rfl, .inr ⟨seqT f.low ha, seqT f.low hb, q3 _ _ _ _ e (rc' ha za hb zb) r2⟩⟩
        . obtain ⟨a1, vs, rfl, ha, za⟩ := z1.lst_inv
          obtain ⟨b1, ws, rfl, hb, zb⟩ := z2.lst_inv
          cases hz
          exact ⟨a1, b1, vs, ws, rfl, .inl ⟨SqL.of (f.low _ _ ha), SqL.of (f.low _ _ hb), q3 _ _ _ _ e (rf' ha za hb zb) r2⟩⟩
    cases em : ma ρ with
    | ok x ρ1 =>
      by_cases hx : ∃ s, x = .str s
      . exact fin true fun x' ρ1' e y ρ2 _ => by rw [em] at e; cases e; exact ⟨fun _ => hx, fun _ => rfl⟩
      . exact fin false fun x' ρ1' e y ρ2 _ => by rw [em] at e; cases e; exact ⟨fun z => (nomatch z), fun z => absurd z hx⟩
    | exc x ρ1 => exact fin true fun x' ρ1' e => by rw [em] at e; cases e
    | bad => exact fin true fun x' ρ1' e => by rw [em] at e; cases e
end
end S
namespace S
open PySem PySem.Spec PyProof.Rows L2
variable [Wd] [Hot]
section
variable {K : PySem.W.Frag} {F F' H H' : Hp} {T T' : List Addr} {fp fq fr : Fp} {ρ : M.PSt} {σ : St} {W : WX}
theorem dk' {i : Nat} {x : Option V} : ∀ (is : List Nat) (σ : St), (wipe (σ.set i x) is).set i none = (wipe σ is).set i none
  | [], σ => by show (σ.set i x).set i none = σ.set i none; rw [List.set_set]
  | k :: is, σ => by
    show ((wipe (σ.set i x) is).set k none).set i none = ((wipe σ is).set k none).set i none
    by_cases h : k = i
    . subst h
      rw [List.set_set, List.set_set, dk' is σ]
    . rw [List.set_comm _ _ h, dk' is σ, List.set_comm _ _ h]
theorem FzA.cons_inv {vs : List V} {d : M.D} {ds : List M.D} (h : FzA K F T vs (d :: ds)) : ∃ v r, vs = v :: r /\ Fz K F T v d /\ FzA K F T r ds := by
  cases h with
  | cons a b => exact ⟨_, _, rfl, a, b⟩
theorem RpA.of_fz : ∀ {vs : List V} {ds : List M.D}, FzA K F T vs ds -> RpA K F T vs (ds.map .fz) []
  | _, _, .nil => .nil
  | _, _, .cons z r => RpA.cons (fp := []) (fq := []) (.fz z) (RpA.of_fz r)
def qG (K : PySem.W.Frag) (sl : List Nat) (m : M.MG) : TG := fun v σ H Q => ∃ ρ F T fr d ρ', Rel K ρ σ H F T fr /\ Fz K F T v d /\ m d ρ = some ρ' /\ ∀ σ', wipe σ' sl = wipe σ sl -> Rel K ρ' σ' H F T fr -> Q σ' H
def qGs (K : PySem.W.Frag) (is : List Nat) : TGs := fun vs σ H Q => ∃ ρ F T fr ds ρ', Rel K ρ σ H F T fr /\ FzA K F T vs ds /\ M.gNs is ds ρ = some ρ' /\ ∀ σ', wipe σ' is = wipe σ is -> Rel K ρ' σ' H F T fr -> Q σ' H
abbrev SG (X : Cx) (tg : Expr) (sl : List Nat) (m : M.MG) : Prop := PG X tg (qG X.K sl m)
abbrev SGs (X : Cx) (ts : List Expr) (is : List Nat) : Prop := PGs X ts (qGs X.K is)
theorem PG.imp {X : Cx} {tg : Expr} {t t' : TG} (h : PG X tg t) (i : ∀ v σ H Q, t' v σ H Q -> t v σ H Q) : PG X tg t' := ⟨fun pins s σ H v u Q I r q => h.run pins s σ H v u Q I r (i v σ H Q q)⟩
theorem PGs.imp {X : Cx} {tg : List Expr} {t t' : TGs} (h : PGs X tg t) (i : ∀ v σ H Q, t' v σ H Q -> t v σ H Q) : PGs X tg t' := ⟨fun pins s σ H v u Q I r q => h.run pins s σ H v u Q I r (i v σ H Q q)⟩
theorem Rel.put (rel : Rel K ρ σ H F T fr) {i : Nat} (hi : i < ρ.env.length) {v : V} {o : M.O} {f2 fr' : Fp} (q : Rp K F T v o f2) (p : Part (f2 ++ fr') fr) : Rel K ⟨ρ.env.set i (some o), ρ.w⟩ (σ.set i (some v)) H F T fr' := by
  obtain ⟨fe, fw, re, rw, f⟩ := rel
  obtain ⟨fq, h1, h2⟩ := re.put hi q
  refine ⟨fq, fw, h1, rw, f.part ?_⟩
  have p1 : Part (fq ++ (fw ++ fr')) ((fe ++ f2) ++ (fw ++ fr')) := .app h2 .refl
  refine p1.trans ?_
  refine Part.trans (b := fe ++ (fw ++ (f2 ++ fr'))) ?_ (.app .refl (.app .refl p))
  constructor
  . intro e h
    simp only [List.mem_append] at *
    grind
  . intro x
    simp only [keys, List.map_append, List.count_append] at *
    omega
theorem Part.nilL {a : Fp} : Part ([] ++ a) a := ⟨fun _ h => h, fun _ => Nat.le_refl _⟩
theorem c1' {X : Cx} {pos : Pos} {x : Str} (i : Nat) (hN : X.N.Nodup) (hi : X.N[i]? = some x) (hx : Loc X.env.scope x) (hf : X.fn x = true \/ X.env.scope.names.lookup x = some .local) : SG X (.Name x pos) [i] (M.gN i) :=
  PG.imp (pg_name hN hi hx hf) fun v σ H Q ⟨ρ, F, T, fr, d, ρ', rel, z, e, q⟩ => by
    unfold M.gN at e
    split at e
    . rename_i hl
      cases e
      refine q _ ?_ (rel.put hl (.fz z) .nilL)
      show (σ.set i (some v)).set i none = σ.set i none
      rw [List.set_set]
    . cases e
theorem et' {X : Cx} : SGs X [] [] := PGs.imp pgs_nil fun vs σ H Q ⟨ρ, F, T, fr, ds, ρ', rel, z, e, q⟩ => by
  cases ds with
  | nil =>
    cases z
    cases e
    exact ⟨rfl, q _ rfl rel⟩
  | cons d ds => cases e
theorem bH' {X : Cx} {e : Expr} {es : List Expr} {i : Nat} {is : List Nat} (hs : (assignEach (e :: es) X.env).map (·.2) = assign e X.env :: (assignEach es X.env).map (·.2)) (h1 : SG X e [i] (M.gN i)) (h2 : SGs X es is) : SGs X (e :: es) (i :: is) :=
  PGs.imp (pgs_cons h1 h2 hs) fun vs σ H Q ⟨ρ, F, T, fr, ds, ρ', rel, z, e, q⟩ => by
    cases ds with
    | nil => cases e
    | cons d ds =>
      obtain ⟨v, r, rfl, z, zs⟩ := z.cons_inv
      . cases e1 : M.gN i d ρ with
        | none => simp only [M.gNs, e1] at e; cases e
        | some ρ1 =>
          simp only [M.gNs, e1, Option.bind_some] at e
          refine ⟨v, r, rfl, ρ, F, T, fr, d, ρ1, rel, z, e1, fun σ1 w1 r1 => ⟨ρ1, F, T, fr, ds, ρ', r1, zs, e, fun σ2 w2 r2 => q σ2 ?_ r2⟩⟩
          show (wipe σ2 is).set i none = (wipe σ is).set i none
          rw [w2]
          have w1' : σ1.set i none = σ.set i none := w1
          rw [<- dk' (x := none) is σ1, w1', dk' is σ]
theorem vT' {X : Cx} {es : List Expr} {k} {pos : Pos} {n : Nat} {is : List Nat} (hc : X.calm = true) (hn : (assignEach es X.env).length = n) (hst : (assignEach es X.env).findIdx? (·.1) = none) (hl : is.length = n) (h : SGs X es is) : SG X (.Tuple es k pos) is (M.gT is) :=
  PG.imp (pg_tup hc h hn hst) fun v σ H Q ⟨ρ, F, T, fr, d, ρ', rel, z, e, q⟩ => by
    cases d with
    | tup ds =>
      obtain ⟨a, vs, rfl, ha, za⟩ := z.tup_inv
      obtain ⟨fp, f, _⟩ := rel.fp
      refine ⟨a, vs, rfl, seqT f.low ha, ?_, ρ, F, T, fr, ds, ρ', rel, za, e, q⟩
      rw [za.length, <- hl]
      have : ∀ (is : List Nat) (ds : List M.D) (ρ ρ' : M.PSt), M.gNs is ds ρ = some ρ' -> ds.length = is.length := by
        intro is
        induction is with
        | nil => intro ds ρ ρ' h; cases ds with | nil => rfl | cons d ds => cases h
        | cons i is ih =>
          intro ds ρ ρ' h
          cases ds with
          | nil => cases h
          | cons d ds =>
            cases e1 : M.gN i d ρ with
            | none => simp only [M.gNs, e1] at h; cases h
            | some ρ1 =>
              simp only [M.gNs, e1, Option.bind_some] at h
              exact congrArg (· + 1) (ih ds ρ1 ρ' h)
      exact this is ds ρ ρ' e
    | _ => cases e
theorem RpE.wiped {env : List (Option M.O)} (r : RpE K F T σ env fp) : ∀ is : List Nat, ∃ fq, RpE K F T (wipe σ is) (M.aF' is env) fq /\ Part fq fp
  | [] => ⟨fp, r, .refl⟩
  | i :: is => by
    obtain ⟨fq, h1, h2⟩ := r.wiped is
    obtain ⟨fq2, h3, h4⟩ := h1.drop i none
    exact ⟨fq2, h3, h4.trans h2⟩
theorem em' {σ : St} : ∀ {is : List Nat} {j : Nat}, j ∉ is -> (wipe σ is)[j]? = σ[j]?
  | [], _, _ => rfl
  | i :: is, j, h => by
    have h' : j ≠ i /\ j ∉ is := by simpa using h
    show ((wipe σ is).set i none)[j]? = _
    rw [List.getElem?_set_ne (Ne.symm h'.1), em' h'.2]
theorem gp' {σ : St} : ∀ {is : List Nat} {j : Nat}, j ∈ is -> j < σ.length -> (wipe σ is)[j]? = some none
  | i :: is, j, h, hl => by
    show ((wipe σ is).set i none)[j]? = _
    by_cases e : i = j
    . subst e
      rw [List.getElem?_set_self (by rw [wipe_length]; exact hl)]
    . rw [List.getElem?_set_ne e]
      refine gp' ?_ hl
      rcases List.mem_cons.mp h with h | h
      . exact absurd h.symm e
      . exact h
theorem jN' {σ : St} (is : List Nat) : wipe (wipe σ is) is = wipe σ is := by
  refine List.ext_getElem? fun j => ?_
  by_cases h : j ∈ is
  . by_cases hl : j < σ.length
    . rw [gp' h hl, gp' h (by rw [wipe_length]; exact hl)]
    . rw [List.getElem?_eq_none (by rw [wipe_length, wipe_length]; omega), List.getElem?_eq_none (by rw [wipe_length]; omega)]
  . rw [em' h]
theorem d3' {env : List (Option M.O)} : ∀ {is : List Nat} {j : Nat} {o : M.O}, (M.aF' is env)[j]? = some (some o) -> j ∉ is
  | [], _, _, _ => by simp
  | i :: is, j, o, h => by
    have h : ((M.aF' is env).set i none)[j]? = some (some o) := h
    by_cases hj : i = j
    . subst hj
      by_cases hl : i < (M.aF' is env).length
      . rw [List.getElem?_set_self hl] at h; cases h
      . rw [List.getElem?_eq_none (by simpa using hl)] at h; cases h
    . rw [List.getElem?_set_ne hj] at h
      have := d3' h
      simp only [List.mem_cons, not_or]
      exact ⟨Ne.symm hj, this⟩
theorem RpE.other {env : List (Option M.O)} {σ' : St} (r : RpE K F T σ env fp) (hl : σ'.length = σ.length) (h : ∀ (j : Nat) (o : M.O), env[j]? = some (some o) -> σ'[j]? = σ[j]?) : RpE K F T σ' env fp := by
  induction r generalizing σ' with
  | nil =>
    cases σ' with
    | nil => exact .nil
    | cons _ _ => cases hl
  | off r ih =>
    cases σ' with
    | nil => cases hl
    | cons y σ' => exact .off (ih (Nat.succ.inj hl) fun j o e => h (j + 1) o e)
  | on q r ih =>
    cases σ' with
    | nil => cases hl
    | cons y σ' =>
      have e : y = _ := Option.some.inj (h 0 _ rfl)
      subst e
      exact .on q (ih (Nat.succ.inj hl) fun j o e => h (j + 1) o e)
  | hot hh z r ih =>
    cases σ' with
    | nil => cases hl
    | cons y σ' =>
      have e : y = _ := Option.some.inj (h 0 _ rfl)
      subst e
      exact .hot hh z (ih (Nat.succ.inj hl) fun j o e => h (j + 1) o e)
  | clo hh z r ih =>
    cases σ' with
    | nil => cases hl
    | cons y σ' =>
      have e : y = _ := Option.some.inj (h 0 _ rfl)
      subst e
      exact .clo hh z (ih (Nat.succ.inj hl) fun j o e => h (j + 1) o e)
theorem RpE.backed {env0 : List (Option M.O)} (h0 : ∀ (i : Nat) (d : M.D), env0[i]? = some (some (M.O.fz d)) -> ∃ v, σ[i]? = some (some v) /\ Fz K F T v d) : ∀ (is : List Nat) {env : List (Option M.O)} {fp : Fp}, RpE K F T σ env fp -> ∃ fq, RpE K F T σ (M.back env0 is env) fq /\ Part fq fp
  | [], env, fp, r => ⟨fp, r, .refl⟩
  | i :: is, env, fp, r => by
    obtain ⟨fq, h1, h2⟩ := RpE.backed h0 is r
    unfold M.back
    split
    . rename_i d e
      obtain ⟨v, hv, z⟩ := h0 i d e
      obtain ⟨f2, h3, h4⟩ := h1.put0 hv (.fz z)
      refine ⟨f2, h3, h4.trans ?_⟩
      rw [List.append_nil]
      exact h2
    . obtain ⟨f2, h3, h4⟩ := h1.drop0 i
      exact ⟨f2, h3, h4.trans h2⟩
theorem RpE.data {env : List (Option M.O)} (r : RpE K F T σ env fp) {i : Nat} {d : M.D} (h : env[i]? = some (some (.fz d))) : ∃ v, σ[i]? = some (some v) /\ Fz K F T v d := by
  obtain ⟨v, f1, f2, f3, h1, _, h3, _⟩ := r.get h
  cases h3 with
  | fz z => exact ⟨v, h1, z⟩
abbrev W0 : WX := fun _ _ _ _ => False
theorem aS'.noX {α : Type} {r : M.Res α} {P : α -> M.PSt -> Prop} {Y Y' : Wx} (h : aS' (M.noX r) P Y) : aS' r P Y' := by
  cases r with
  | ok a ρ => exact h
  | exc x ρ => exact h.elim
  | bad => exact h
def vL' (K : PySem.W.Frag) (sl : List Nat) (g : M.MG) (t : M.MT) (e : M.ME) (ds : List M.D) (σ : St) (D : Addr) (fr : Fp) (F1 : Hp) (T1 : List Addr) (P : List M.D -> M.PSt -> Prop) (Y : Wx) (i : Nat) (H : Hp) : Prop :=
  i <= ds.length /\ ∃ ρ' F' T' acc vacc, Ext F1 T1 F' T' /\ FzA K F' T' vacc acc /\ Rel K ⟨M.aF' sl ρ'.env, ρ'.w⟩ (wipe σ sl) H F' T' ((D, .lst vacc) :: fr) /\ aS' (M.lcL sl g t e (ds.drop i) acc ρ') P Y
theorem Rel.wiped (r : Rel K ρ σ H F T fr) (is : List Nat) : Rel K ⟨M.aF' is ρ.env, ρ.w⟩ (wipe σ is) H F T fr := by
  obtain ⟨fe, fw, re, rw, f⟩ := r
  obtain ⟨fq, h1, h2⟩ := re.wiped is
  exact ⟨fq, fw, h1, rw, f.part (.app h2 .refl)⟩
theorem Rel.own (r : Rel K ρ σ H F T fr) {p : Addr} {o : HO} (hp : H p = none) : Rel K ρ σ (upd H p o) F T ((p, o) :: fr) := by
  obtain ⟨fe, fw, re, rw, f⟩ := r
  refine ⟨fe, fw, re, rw, (f.own hp).part ?_⟩
  constructor
  . intro e h
    simp only [List.mem_append, List.mem_cons] at *
    grind
  . intro x
    simp only [keys, List.map_append, List.map_cons, List.count_append, List.count_cons] at *
    omega
theorem Rel.at_ (r : Rel K ρ σ H F T fr) {e : Addr × HO} (h : e ∈ fr) : H e.1 = some e.2 := by
  obtain ⟨fe, fw, re, rw, f⟩ := r
  exact (f.at_ e (List.mem_append_right _ (List.mem_append_right _ h))).1
theorem Rel.write {p : Addr} {o o' : HO} (r : Rel K ρ σ H F T ((p, o) :: fr)) : Rel K ρ σ (upd H p o') F T ((p, o') :: fr) := by
  obtain ⟨fe, fw, re, rw, f⟩ := r
  have f' : FpH F H ((fe ++ fw) ++ ((p, o) :: fr)) := by rw [List.append_assoc]; exact f
  refine ⟨fe, fw, re, rw, ?_⟩
  have := f'.write (o' := o')
  rw [List.append_assoc] at this
  exact this
theorem lY' {sl : List Nat} {it : M.MI} {g : M.MG} {t : M.MT} {e : M.ME} {Q : VK} (h : qO K W (M.oLc sl it g t e) σ H Q) : tLc (qI K W it) (qG K sl g) (qT K W0 t) (qE K W0 e) sl σ H Q := by
  obtain ⟨ρ, F, T, fr, rel, h⟩ := h
  refine ⟨ρ, F, T, fr, rel, (aS'.bind h).mono (fun ds ρ1 h1 J H1 F1 T1 e1 io r1 => ?_) fun _ _ z => z⟩
  intro D hD
  have h2 := aS'.bind h1
  -- the loop's word
  refine ⟨fun i m H => m = ds.length - i /\ vL' K sl g t e ds σ D fr F1 T1 _ _ i H, ⟨ds.length, by simp, Nat.zero_le _, ρ1, F1, T1, [], [], .refl, .nil, (r1.wiped sl).own hD, h2⟩, ?_⟩
  rintro i m H2 ⟨rfl, hi, ρ2, F2, T2, acc, vacc, e2, za, r2, h3⟩
  have hH : H2 D = some (.lst vacc) := r2.at_ (e := (D, .lst vacc)) List.mem_cons_self
  obtain ⟨fp2, f2, _⟩ := r2.fp
  by_cases hl : i = ds.length
  . refine .inl ⟨(io F2 T2 H2 fp2 i e2 f2 hi).1 hl, ?_⟩
    rw [hl, List.drop_length] at h3
    have h4 : aS' (M.lcL sl g t e [] acc ρ2) _ _ := h3
    unfold M.lcL at h4
    have h5 := h4
    refine h5 (.ref D) H2 F2 T2 ((D, .lst vacc) :: []) (e1.trans e2) ?_ ?_
    . exact .lst (RpA.of_fz za)
    . obtain ⟨fe, fw, re, rw, f⟩ := r2
      have re1 : RpE K F2 T2 σ (M.aF' sl ρ2.env) fe := by
        refine re.other ?_ fun j o hj => (em' (d3' hj)).symm
        rw [wipe_length]
      obtain ⟨fe0, fw0, re0, rw0, f0⟩ := r1
      obtain ⟨fq, h6, h7⟩ := RpE.backed (env0 := ρ1.env) (fun i d hd => by
        obtain ⟨v, hv, z⟩ := re0.data hd
        exact ⟨v, hv, z.mono e2⟩) sl re1
      exact ⟨fq, fw, h6, rw, f.part (.app h7 .refl)⟩
  . have hlt : i < ds.length := by omega
    have hd : ds[i]? = some ds[i] := List.getElem?_eq_getElem hlt
    obtain ⟨go, yl⟩ := (io F2 T2 H2 fp2 i e2 f2 hi).2 _ hd
    refine .inr ⟨go, vL' K sl g t e ds σ D fr F1 T1 _ _ (i + 1), fun H' n => ⟨ds.length - (i + 1), by omega, rfl, n⟩, fun x H3 y => ?_⟩
    obtain ⟨fe, fw, re, rw, f⟩ := id r2
    obtain ⟨yg, yh⟩ := (io F2 T2 H2 _ i e2 f hi).2 _ hd
    obtain ⟨F3, s3, zx, f3⟩ := yh x H3 y
    have r3 : Rel K ⟨M.aF' sl ρ2.env, ρ2.w⟩ (wipe σ sl) H3 F3 T2 ((D, .lst vacc) :: fr) := ⟨fe, fw, re.mono (.of s3), rw.mono (.of s3), f3⟩
    rw [List.drop_eq_getElem_cons hlt] at h3
    unfold M.lcL at h3
    cases eg : g ds[i] ⟨M.aF' sl ρ2.env, ρ2.w⟩ with
    | none => rw [eg] at h3; exact h3.elim
    | some ρ3 =>
      rw [eg] at h3
      refine ⟨_, F3, T2, _, ds[i], ρ3, r3, zx, eg, fun σ4 w4 r4 => ?_⟩
      rw [jN'] at w4
      refine ⟨w4, ?_⟩
      have h4 := aS'.bind h3
      refine ⟨ρ3, F3, T2, _, r4, (aS'.noX h4).mono (fun b ρ5 h5 H5 F5 T5 e5 r5 => ?_) fun _ _ z => z⟩
      cases b with
      | false =>
        rw [if_neg Bool.false_ne_true]
        refine ⟨hlt, ρ5, F5, T5, acc, vacc, e2.trans ((Ext.of s3).trans e5), (za.mono (.of s3)).mono e5, ?_, h5⟩
        rw [<- w4]
        exact r5.wiped sl
      | true =>
        rw [if_pos rfl] at h5 ⊢
        have h6 := aS'.bind h5
        refine ⟨ρ5, F5, T5, _, r5, (aS'.noX h6).mono (fun d ρ6 h7 y6 H6 F6 T6 e6 z6 r6 => ?_) fun _ _ z => z⟩
        split at h7
        . rename_i hacc
          have hH6 : H6 D = some (.lst vacc) := r6.at_ (e := (D, .lst vacc)) List.mem_cons_self
          refine ⟨vacc, hH6, by rw [bl', za.length]; exact hacc, hlt, ρ6, F6, T6, acc ++ [d], vacc ++ [y6], e2.trans ((Ext.of s3).trans (e5.trans e6)), (((za.mono (.of s3)).mono e5).mono e6).append (.cons z6 .nil), ?_, h7⟩
          rw [<- w4]
          exact (r6.wiped sl).write
        . exact h7.elim
end
section
variable {X : Cx} {W : WX} {pos : Pos} {elt tg iter : Expr} {ifs : List Expr} {scope : Scope} {own : List (Str × Nat)} {sl : List Nat} {it : M.MI} {g : M.MG} {t : M.MT} {e : M.ME}
theorem bd' {X : Cx} {W : WX} : PTs X [] (qT X.K W M.tT) := ⟨fun _ _ _ H Q I ⟨ρ, F, T, fr, rel, h⟩ => wpAny_tests_nil ⟨H, I, h _ _ _ .refl rel⟩⟩
theorem wK' (hc : X.calm = true) (hN : X.N.Nodup) (hi : SI X W tg iter it) (ok : BlkOk X.N X.env.scope scope own) (hsl : sl = own.map (·.2))
    (hg : ∀ (s : Shared) (H : Hp) (C : Addr) (cl : List (Str × Addr)) (fp : List Addr), SG (X.blk s H scope (compEnvC scope cl C X.env) fp) tg sl g) (ht : ∀ (s : Shared) (H : Hp) (C : Addr) (cl : List (Str × Addr)) (fp : List Addr), PTs (X.blk s H scope (compEnvC scope cl C X.env) fp) ifs (qT X.K W0 t))
    (he : ∀ (s : Shared) (H : Hp) (C : Addr) (cl : List (Str × Addr)) (fp : List Addr), SE (X.blk s H scope (compEnvC scope cl C X.env) fp) W0 elt e) (hs : ∀ x, foldedSetIterable iter X.env x = pure x := by intro _; rfl) :
    SO X W (.ListComp elt [⟨tg, iter, ifs, 0⟩] scope pos) (M.oLc sl it g t e) := by
  subst hsl
  exact PE.imp (pe_lc hc hN hi ok hg ht he hs) fun σ H Q h => lY' h
theorem t7' {K : PySem.W.Frag} {m : M.MO} {σ : St} {H : Hp} {Q : VK} (h : qE K W (M.eO m) σ H Q) : qO K W m σ H Q := by
  obtain ⟨ρ, F, T, fr, rel, h⟩ := h
  refine ⟨ρ, F, T, fr, rel, (aS'.bind h).mono (fun o ρ1 h1 v H1 F1 T1 fp e1 z1 r1 => ?_) fun _ _ z => z⟩
  obtain ⟨G, s, z, r⟩ := r1.frozen z1
  exact h1 v H1 G T1 (e1.trans (.of s)) z r
theorem cr' {a : Expr} {m : M.MO} (h : SO X W a m) : SE X W a (M.eO m) := PE.imp h fun σ H Q h => t7' h
theorem bh' {a : Expr} {m : M.ME} (h : SE X W a m) : SO X W a (M.oE m) := PE.imp h fun σ H Q ⟨ρ, F, T, fr, rel, h⟩ => aD' rel h fun d ρ1 v H1 F1 T1 e1 z1 r1 h1 => h1 v H1 F1 T1 [] e1 (.fz z1) r1
theorem uv' (xs : List M.D) : M.frz (.lst (xs.map .fz)) = .lst xs := by
  show M.D.lst (M.frzs _) = _
  rw [M.me']
theorem dM' (hc : X.calm = true) (hN : X.N.Nodup) (hi : SI X W tg iter it) (ok : BlkOk X.N X.env.scope scope own) (hsl : sl = own.map (·.2))
    (hg : ∀ (s : Shared) (H : Hp) (C : Addr) (cl : List (Str × Addr)) (fp : List Addr), SG (X.blk s H scope (compEnvC scope cl C X.env) fp) tg sl g) (ht : ∀ (s : Shared) (H : Hp) (C : Addr) (cl : List (Str × Addr)) (fp : List Addr), PTs (X.blk s H scope (compEnvC scope cl C X.env) fp) ifs (qT X.K W0 t))
    (he : ∀ (s : Shared) (H : Hp) (C : Addr) (cl : List (Str × Addr)) (fp : List Addr), SE (X.blk s H scope (compEnvC scope cl C X.env) fp) W0 elt e) (hs : ∀ x, foldedSetIterable iter X.env x = pure x := by intro _; rfl) :
    SE X W (.ListComp elt [⟨tg, iter, ifs, 0⟩] scope pos) (M.eLc sl it g t e) := by
  have h := cr' (wK' (pos := pos) hc hN hi ok hsl hg ht he hs)
  have eq : M.eO (M.oLc sl it g t e) = M.eLc sl it g t e := by
    funext ρ
    show ((it ρ).bind fun xs ρ1 => _).bind _ = (it ρ).bind _
    cases it ρ with
    | bad => rfl
    | exc x ρ1 => rfl
    | ok xs ρ1 =>
      show ((M.lcL sl g t e xs [] ρ1).bind _).bind _ = (M.lcL sl g t e xs [] ρ1).bind _
      cases M.lcL sl g t e xs [] ρ1 with
      | bad => rfl
      | exc x ρ2 => rfl
      | ok ys ρ2 =>
        show M.Res.ok (M.frz (.lst (ys.map .fz))) _ = M.Res.ok (M.D.lst ys) _
        rw [uv']
  rw [eq] at h
  exact h
end
end S
namespace S
open PySem PySem.Spec PyProof.Rows L2
variable [Wd] [Hot]
section
variable {K : PySem.W.Frag} {F F' H H' : Hp} {T T' : List Addr} {fp fq fr : Fp} {ρ : M.PSt} {σ : St} {W : WX} {D : Ends} {Q : VK}
theorem a6'.mono {r : M.Out} (h : a6' K W D F T fr r) (e : Ext F T F' T') : a6' K W D F' T' fr r := by
  cases r with
  | nx ρ => exact fun σ' H' F2 T2 e2 => h σ' H' F2 T2 (e.trans e2)
  | bk ρ => exact fun σ' H' F2 T2 e2 => h σ' H' F2 T2 (e.trans e2)
  | ct ρ => exact fun σ' H' F2 T2 e2 => h σ' H' F2 T2 (e.trans e2)
  | rt o w => exact fun v H' F2 T2 fp e2 => h v H' F2 T2 fp (e.trans e2)
  | exc x ρ => exact fun σ' cls dd H' F2 T2 e2 => h σ' cls dd H' F2 T2 (e.trans e2)
  | bad => exact h
theorem a6'.imp {r : M.Out} {D' : Ends} {W' : WX} (h : a6' K W D F T fr r) (h1 : ∀ σ H, D.nx σ H -> D'.nx σ H) (h2 : ∀ σ H, D.bk σ H -> D'.bk σ H) (h3 : ∀ σ H, D.ct σ H -> D'.ct σ H) (h4 : ∀ v H, D.rt v H -> D'.rt v H) (h5 : ∀ c d σ H, W c d σ H -> W' c d σ H) : a6' K W' D' F T fr r := by
  cases r with
  | nx ρ => exact fun σ' H' F2 T2 e2 r => h1 _ _ (h σ' H' F2 T2 e2 r)
  | bk ρ => exact fun σ' H' F2 T2 e2 r => h2 _ _ (h σ' H' F2 T2 e2 r)
  | ct ρ => exact fun σ' H' F2 T2 e2 r => h3 _ _ (h σ' H' F2 T2 e2 r)
  | rt o w => exact fun v H' F2 T2 fp e2 z r => h4 _ _ (h v H' F2 T2 fp e2 z r)
  | exc x ρ => exact fun σ' cls dd H' F2 T2 e2 z r => h5 _ _ _ _ (h σ' cls dd H' F2 T2 e2 z r)
  | bad => exact h
theorem dm' {α : Type} {r : M.Res α} {f : α -> M.PSt -> M.Out} (h : a6' K W D F T fr (r.out f)) : aS' r (fun a ρ' => a6' K W D F T fr (f a ρ')) (EX K W σ F T fr) := by
  cases r with
  | ok a ρ => exact h
  | exc x ρ => exact fun cls dd H' F' T' e z r => h σ cls dd H' F' T' e z r
  | bad => exact h
theorem du' {m : M.ME} {k : M.D -> M.PSt -> M.Out} (rel : Rel K ρ σ H F T fr) (h : a6' K W D F T fr ((m ρ).out k))
    (q : ∀ d ρ1 v H1 F1 T1, Ext F T F1 T1 -> Fz K F1 T1 v d -> Rel K ρ1 σ H1 F1 T1 fr -> a6' K W D F1 T1 fr (k d ρ1) -> Q v H1) : qE K W m σ H Q :=
  ⟨ρ, F, T, fr, rel, (dm' h).mono (fun d ρ1 h1 v H1 F1 T1 e z r => q d ρ1 v H1 F1 T1 e z r (h1.mono e)) fun _ _ z => z⟩
theorem ev' {m : M.MO} {k : M.O -> M.PSt -> M.Out} (rel : Rel K ρ σ H F T fr) (h : a6' K W D F T fr ((m ρ).out k))
    (q : ∀ o ρ1 v H1 F1 T1 fp, Ext F T F1 T1 -> Rp K F1 T1 v o fp -> Rel K ρ1 σ H1 F1 T1 (fp ++ fr) -> a6' K W D F1 T1 fr (k o ρ1) -> Q v H1) : qO K W m σ H Q :=
  ⟨ρ, F, T, fr, rel, (dm' h).mono (fun d ρ1 h1 v H1 F1 T1 fp e z r => q d ρ1 v H1 F1 T1 fp e z r (h1.mono e)) fun _ _ z => z⟩
theorem qw' {m : M.MT} {k : Bool -> M.PSt -> M.Out} {Q : Bool -> Hp -> Prop} (rel : Rel K ρ σ H F T fr) (h : a6' K W D F T fr ((m ρ).out k))
    (q : ∀ b ρ1 H1 F1 T1, Ext F T F1 T1 -> Rel K ρ1 σ H1 F1 T1 fr -> a6' K W D F1 T1 fr (k b ρ1) -> Q b H1) : qT K W m σ H Q :=
  ⟨ρ, F, T, fr, rel, (dm' h).mono (fun d ρ1 h1 H1 F1 T1 e r => q d ρ1 H1 F1 T1 e r (h1.mono e)) fun _ _ z => z⟩
theorem qz' {m : M.MI} {k : List M.D -> M.PSt -> M.Out} {R : It -> Hp -> Prop} (rel : Rel K ρ σ H F T fr) (h : a6' K W D F T fr ((m ρ).out k))
    (q : ∀ ds ρ1 J H1 F1 T1, Ext F T F1 T1 -> go' K J ds F1 T1 -> Rel K ρ1 σ H1 F1 T1 fr -> a6' K W D F1 T1 fr (k ds ρ1) -> R J H1) : qI K W m σ H R :=
  ⟨ρ, F, T, fr, rel, (dm' h).mono (fun d ρ1 h1 J H1 F1 T1 e z r => q d ρ1 J H1 F1 T1 e z r (h1.mono e)) fun _ _ z => z⟩
theorem Rel.noenv (r : Rel K ρ σ H F T fr) : ou' K (ρ.w) H F T fr := by
  obtain ⟨fe, fw, re, rw, f⟩ := r
  exact ⟨[], fw, xr', rw, f.part (.app .nil .refl)⟩
end
section
variable {X : Cx} {W : WX} {pos : Pos} {a b c : Expr} {st : Stmt} {rest body : List Stmt} {ma mb : M.ME} {mo : M.MO} {mt : M.MT} {m1 m2 : M.MS} {D : Ends} {σ : St} {H : Hp}
theorem aT' : SSs X W [] M.bf' := PSs.imp pss_nil fun D σ H ⟨ρ, F, T, fr, rel, h⟩ => h σ H F T .refl rel
theorem ai' (h : SS X W st m1) : SSs X W [st] m1 := pss_one h
theorem ac' (h1 : SS X W st m1) (h2 : SSs X W rest m2) : SSs X W (st :: rest) (M.aZ' m1 m2) := PSs.imp (pss_cons h1 h2) fun D σ H ⟨ρ, F, T, fr, rel, h⟩ => by
  refine ⟨ρ, F, T, fr, rel, ?_⟩
  unfold M.aZ' at h
  cases e : m1 ρ with
  | nx ρ1 => rw [e] at h; exact fun σ1 H1 F1 T1 e1 r1 => ⟨ρ1, F1, T1, fr, r1, a6'.mono h e1⟩
  | bk ρ1 => rw [e] at h; exact h
  | ct ρ1 => rw [e] at h; exact h
  | rt o w => rw [e] at h; exact h
  | exc x ρ1 => rw [e] at h; exact h
  | bad => rw [e] at h; exact h
theorem er' (ha : SE X W a ma) (hs : swapsWith a none pos.line X.env = pure false := by rfl) : SS X W (.Expr a pos) (M.fz' ma) := PS.imp (ps_expr ha hs) fun D σ H ⟨ρ, F, T, fr, rel, h⟩ =>
  du' rel h fun d ρ1 v H1 F1 T1 e1 z1 r1 h1 => h1 σ H1 F1 T1 .refl r1
theorem aA' (ha : SO X W a mo) : SS X W (.Return (some a) pos) (M.bZ' mo) := PS.imp (ps_ret ha) fun D σ H ⟨ρ, F, T, fr, rel, h⟩ =>
  ev' rel h fun o ρ1 v H1 F1 T1 fp e1 z1 r1 h1 => h1 v H1 F1 T1 fp .refl z1 r1.noenv
theorem bj' (hc : ST X W c mt) (ha : SSs X W rest m1) (hb : SSs X W body m2) : SS X W (.If c rest body pos) (M.sIf mt m1 m2) := PS.imp (ps_if hc ha hb) fun D σ H ⟨ρ, F, T, fr, rel, h⟩ => by
  refine qw' rel h fun k ρ1 H1 F1 T1 e1 r1 h1 => ?_
  cases k with
  | true => rw [if_pos rfl] at h1 ⊢; exact ⟨ρ1, F1, T1, fr, r1, h1⟩
  | false => rw [if_neg Bool.false_ne_true] at h1 ⊢; exact ⟨ρ1, F1, T1, fr, r1, h1⟩
theorem ax' {i : Nat} {x : Str} {pos' : Pos} (hN : X.N.Nodup) (hi : X.N[i]? = some x) (hx : Loc X.env.scope x) (ha : SO X W a mo) (hs : swapsWith a (some (.Name x pos')) pos.line X.env = pure false := by rfl) (hf : X.fn x = true \/ X.env.scope.names.lookup x = some .local := by first | exact .inl rfl | exact .inr rfl | assumption) :
    SS X W (.Assign [.Name x pos'] a pos) (M.bN' i mo) := PS.imp (ps_set hN hi hx ha hs hf) fun D σ H ⟨ρ, F, T, fr, rel, h⟩ => by
  refine ev' rel h fun o ρ1 v H1 F1 T1 fp e1 z1 r1 h1 => ?_
  unfold M.sm' at h1
  split at h1
  . rename_i hl
    exact h1 _ H1 F1 T1 .refl (r1.put hl z1 .refl)
  . exact h1.elim
theorem nl' {i : Nat} {y : Str} {py : Pos} {elt tg iter : Expr} {ifs : List Expr} {scope : Scope} {own : List (Str × Nat)} {spos : Pos} {sl : List Nat} {it : M.MI} {g : M.MG} {t : M.MT} {e : M.ME} (hc : X.calm = true) (hN : X.N.Nodup) (hy : X.N[i]? = some y) (hyl : X.env.scope.names.lookup y = some .local)
    (hsw : swapsWith (.ListComp elt [⟨tg, iter, ifs, 0⟩] scope pos) (some (.Name y py)) spos.line X.env = pure true) (hi : SI X W tg iter it) (ok : BlkOk X.N X.env.scope scope own) (hsl : sl = own.map (·.2))
    (hg : ∀ (s : Shared) (H : Hp) (C : Addr) (cl : List (Str × Addr)) (fp : List Addr), SG (X.blk s H scope (compEnvC scope cl C X.env) fp) tg sl g) (ht : ∀ (s : Shared) (H : Hp) (C : Addr) (cl : List (Str × Addr)) (fp : List Addr), PTs (X.blk s H scope (compEnvC scope cl C X.env) fp) ifs (qT X.K W0 t))
    (he : ∀ (s : Shared) (H : Hp) (C : Addr) (cl : List (Str × Addr)) (fp : List Addr), SE (X.blk s H scope (compEnvC scope cl C X.env) fp) W0 elt e) (hs : ∀ x, foldedSetIterable iter X.env x = pure x := by intro _; rfl) :
    SS X W (.Assign [.Name y py] (.ListComp elt [⟨tg, iter, ifs, 0⟩] scope pos) spos) (M.bN' i (M.oLc sl it g t e)) := by
  subst hsl
  refine PS.imp (ps_setLc (g := qG X.K (own.map (·.2)) g) (tt := qT X.K W0 t) (te := qE X.K W0 e) hc hN hy hyl hsw hi ok hg ht he hs) fun D σ H ⟨ρ, F, T, fr, rel, h⟩ => ?_
  show tLc (qI X.K W it) (qG X.K (own.map (·.2)) g) (qT X.K W0 t) (qE X.K W0 e) (own.map (·.2)) σ H fun x H1 => gName i x σ H1 D.nx
  refine lY' (W := W) (ev' (D := D) rel h fun o ρ1 v H1 F1 T1 fp e1 z1 r1 h1 => ?_)
  unfold M.sm' at h1
  split at h1
  . rename_i hl
    exact h1 _ H1 F1 T1 .refl (r1.put hl z1 .refl)
  . exact h1.elim
theorem lj' {tg : Expr} {sl : List Nat} {g : M.MG} (ha : SE X W a ma) (hg : SG X tg sl g) (hs : swapsWithSole [tg] a pos.line X.env = pure false := by rfl) (hw : swappedStores [tg] a X.env = pure none := by rfl)
    (h1 : (assignEach [tg] X.env).map (·.2) = [assign tg X.env] := by rfl) : SS X W (.Assign [tg] a pos) (M.qC' g ma) := PS.imp (ps_asg ha hg hs hw h1) fun D σ H ⟨ρ, F, T, fr, rel, h⟩ => by
  refine du' rel h fun d ρ1 v H1 F1 T1 e1 z1 r1 h1 => ?_
  cases e : g d ρ1 with
  | none => rw [e] at h1; exact h1.elim
  | some ρ2 =>
    rw [e] at h1
    exact ⟨ρ1, F1, T1, fr, d, ρ2, r1, z1, e, fun σ' _ r' => h1 σ' H1 F1 T1 .refl r'⟩
theorem RpA.app {K : PySem.W.Frag} {F : Hp} {T : List Addr} : ∀ {vs ws : List V} {os ps : List M.O} {fp fq : Fp}, RpA K F T vs os fp -> RpA K F T ws ps fq -> RpA K F T (vs ++ ws) (os ++ ps) (fp ++ fq)
  | _, _, _, _, _, _, .nil, h => h
  | _, _, _, _, _, _, .cons a r, h => by
    rw [List.append_assoc]
    exact .cons a (RpA.app r h)
theorem RpA.length {K : PySem.W.Frag} {F : Hp} {T : List Addr} : ∀ {vs : List V} {os : List M.O} {fp : Fp}, RpA K F T vs os fp -> vs.length = os.length
  | _, _, _, .nil => rfl
  | _, _, _, .cons _ r => congrArg (· + 1) (RpA.length r)
theorem Rel.slotW {K : PySem.W.Frag} {ρ : M.PSt} {F : Hp} {T : List Addr} {fr : Fp} {i : Nat} {p : Addr} {os : List M.O} (rel : Rel K ρ σ H F T fr) (e : ρ.env[i]? = some (some (.lst os))) (hp : σ[i]? = some (some (.ref p))) :
    ∃ vs f2, H p = some (.lst vs) /\ RpA K F T vs os f2 /\ ∀ vs' os' f2' fr', RpA K F T vs' os' f2' -> Part (f2' ++ fr') (f2 ++ fr) -> Rel K ⟨ρ.env.set i (some (.lst os')), ρ.w⟩ σ (upd H p (.lst vs')) F T fr' := by
  obtain ⟨fe, fw, re, rw, f⟩ := rel
  obtain ⟨v, f1, f2, f3, h1, rfl, h3, h4, h5⟩ := re.get e
  rw [h1] at hp
  cases hp
  cases h3 with
  | lst r =>
    rename_i vs0 fp0
    refine ⟨vs0, fp0, (f.at_ (p, .lst vs0) (by simp)).1, r, fun vs' os' f2' fr' r' pt => ?_⟩
    have e5 := h5 F T (.ref p) (.lst os') ((p, .lst vs') :: f2') .refl (.lst r')
    rw [cI' h1] at e5
    refine ⟨_, fw, e5, rw, ?_⟩
    have fA : FpH F H (f1 ++ ((p, .lst vs0) :: (f3 ++ (fw ++ (fp0 ++ fr))))) := f.part (by
      constructor
      . intro e h
        simp only [List.mem_append, List.mem_cons] at *
        grind
      . intro x
        simp only [keys, List.map_append, List.map_cons, List.count_append, List.count_cons] at *
        omega)
    have fB := fA.write (o' := .lst vs')
    refine fB.part (.trans (b := f1 ++ ((p, .lst vs') :: (f3 ++ (fw ++ (f2' ++ fr'))))) ?_ ?_)
    . constructor
      . intro e h
        simp only [List.mem_append, List.mem_cons] at *
        grind
      . intro x
        simp only [keys, List.map_append, List.map_cons, List.count_append, List.count_cons] at *
        omega
    . have := pt.m
      have := pt.c
      constructor
      . intro e h
        simp only [List.mem_append, List.mem_cons] at *
        grind
      . intro x
        have := pt.c x
        simp only [keys, List.map_append, List.map_cons, List.count_append, List.count_cons] at *
        omega
theorem o0' {i : Nat} {x : Str} {px apos cpos : Pos} (hv : PE X (.Name x px) (tVar i)) (ha : SO X W a mo)
    (hbase : attributeBase (.Name x px) "append" X.env (eval (.Name x px) X.env) = eval (.Name x px) X.env := by rfl)
    (hfew : ((backTo cpos (starEach [a] X.env)).all (fun x => !x.1) && (backToKw cpos (keywordEach [] X.env)).all (fun x => x.1.isSome)
      && decide ([a].length + ([] : List Keyword).length + (if ([] : List Keyword).isEmpty then 0 else 1) < 30)) = true := by rfl)
    (hline : (apos.endLine == cpos.line) = true := by rfl) (hs : starEach [a] X.env = (false, eval a X.env) :: starEach [] X.env := by rfl) (hplain : (backTo cpos (starEach [] X.env)).any (·.1) = false := by rfl)
    (hsw : swapsWith (.Call (.Attribute (.Name x px) "append" apos) [a] [] cpos) none pos.line X.env = pure false := by rfl) :
    SS X W (.Expr (.Call (.Attribute (.Name x px) "append" apos) [a] [] cpos) pos) (M.qE' i mo) :=
  PS.imp (ps_expr (pe_bm PySem.F.plainAttrs_list PySem.F.slot_list_append PySem.F.type_list_append mt_append hv (pa_cons ha pa_nil hs) hbase hfew hline hs hplain) hsw) fun D σ H ⟨ρ, F, T, fr, rel, h⟩ => by
    unfold M.qE' at h
    split at h
    . rename_i os0 e0
      obtain ⟨fe, fw, re, rw, ff⟩ := id rel
      obtain ⟨v, f1, f2, f3, h1, _, h3, _⟩ := re.get e0
      cases h3 with
      | @lst p vs0 _ fp0 r0 =>
        obtain ⟨vs1, f21, hH, _, _⟩ := rel.slotW e0 h1
        refine ⟨.ref p, h1, .inl ⟨rfl, vs1, SqL.of hH⟩, ev' rel h fun o ρ1 u H1 F1 T1 fp e1 z1 r1 h2 => ?_⟩
        split at h2
        . rename_i os e2
          split at h2
          . rename_i hl
            obtain ⟨vs, f2', hH2, r2, back⟩ := r1.slotW e2 h1
            refine ⟨p, vs, u, rfl, rfl, hH2, by rw [r2.length, bl']; exact hl, ?_⟩
            have z1' : RpA X.K F1 T1 [u] [o] (fp ++ []) := .cons z1 .nil
            exact h2 σ _ F1 T1 .refl (back _ _ _ fr (r2.app z1') (by
              constructor
              . intro e h
                simp only [List.mem_append, List.not_mem_nil] at *
                grind
              . intro x
                simp only [keys, List.map_append, List.map_nil, List.count_append, List.count_nil] at *
                omega))
          . exact h2.elim
        . exact h2.elim
    . exact h.elim
theorem nZ' {K : PySem.W.Frag} {sl : List Nat} {it : M.MI} {g : M.MG} {b : M.MS} (h : qS K W (M.iE' it g b) D σ H) : tFor (qI K W it) (qG K sl g) (qS K W b) D σ H := by
  obtain ⟨ρ, F, T, fr, rel, h⟩ := h
  refine qz' rel h fun ds ρ1 J H1 F1 T1 e1 io r1 h1 => ?_
  refine ⟨fun i m σ2 H2 => m = ds.length - i /\ i <= ds.length /\ ∃ ρ2 F2 T2, Ext F1 T1 F2 T2 /\ Rel K ρ2 σ2 H2 F2 T2 fr /\ a6' K W D F2 T2 fr (M.i1' g b (ds.drop i) ρ2), ⟨ds.length, by simp, Nat.zero_le _, ρ1, F1, T1, .refl, r1, h1⟩, ?_⟩
  rintro i m σ2 H2 ⟨rfl, hi, ρ2, F2, T2, e2, r2, h2⟩
  obtain ⟨fe, fw, re, rw, f2⟩ := id r2
  obtain ⟨st, yl⟩ := io F2 T2 H2 _ i e2 f2 hi
  by_cases hl : i = ds.length
  . refine .inl ⟨st hl, ?_⟩
    rw [hl, List.drop_length] at h2
    exact h2 σ2 H2 F2 T2 .refl r2
  . have hlt : i < ds.length := by omega
    obtain ⟨go, yh⟩ := yl ds[i] (List.getElem?_eq_getElem hlt)
    refine .inr ⟨go, fun σ3 H3 => ∃ ρ3 F3 T3, Ext F1 T1 F3 T3 /\ Rel K ρ3 σ3 H3 F3 T3 fr /\ a6' K W D F3 T3 fr (M.i1' g b (ds.drop (i + 1)) ρ3), fun σ3 H3 n => ⟨ds.length - (i + 1), by omega, rfl, hlt, n⟩, fun x H3 y => ?_⟩
    obtain ⟨F3, s3, zx, f3⟩ := yh x H3 y
    have r3 : Rel K ρ2 σ2 H3 F3 T2 fr := ⟨fe, fw, re.mono (.of s3), rw.mono (.of s3), f3⟩
    rw [List.drop_eq_getElem_cons hlt] at h2
    unfold M.i1' at h2
    cases eg : g ds[i] ρ2 with
    | none => rw [eg] at h2; exact h2.elim
    | some ρ4 =>
      rw [eg] at h2
      refine ⟨ρ2, F3, T2, fr, ds[i], ρ4, r3, zx, eg, fun σ4 _ r4 => ⟨ρ4, F3, T2, fr, r4, ?_⟩⟩
      have h3 := a6'.mono h2 (.of s3)
      have e3 : Ext F1 T1 F3 T2 := e2.trans (.of s3)
      dsimp only at h3
      cases eb : b ρ4 with
      | nx ρ5 => rw [eb] at h3; exact fun σ5 H5 F5 T5 e5 r5 => ⟨ρ5, F5, T5, e3.trans e5, r5, a6'.mono h3 e5⟩
      | ct ρ5 => rw [eb] at h3; exact fun σ5 H5 F5 T5 e5 r5 => ⟨ρ5, F5, T5, e3.trans e5, r5, a6'.mono h3 e5⟩
      | bk ρ5 => rw [eb] at h3; exact fun σ5 H5 F5 T5 e5 r5 => h3 σ5 H5 F5 T5 e5 r5
      | rt o w => rw [eb] at h3; exact h3
      | exc x ρ5 => rw [eb] at h3; exact h3
      | bad => rw [eb] at h3; exact h3
theorem cH' {tg iter : Expr} {sl : List Nat} {it : M.MI} {g : M.MG} (hp : PassesOwn (model X.prog X.w) X.A X.env X.xe) (hc : X.calm = true) (hi : SI X W tg iter it) (hg : SG X tg sl g) (hb : SSs X W body m1)
    (hs : ∀ x, foldedSetIterable iter X.env x = pure x := by intro _; rfl) : SS X W (.For tg iter body [] pos) (M.iE' it g m1) := PS.imp (ps_for hp hc hi hg hb hs) fun D σ H h => nZ' h
theorem iA' {e : Expr} {x : String} (hc : X.calm = true) (tk : Takes X W) (he : PMk X e (fun _ H Q => Q (.ref (He.ga X.K x)) none H)) : SS X W (.Raise (some e) none pos) (M.fy' x) := PS.imp (ps_raise hc tk he) fun D σ H ⟨ρ, F, T, fr, rel, h⟩ =>
  h σ _ _ H F T .refl ⟨rfl, .inl ⟨rfl, rfl⟩⟩ rel
def sj' (K : PySem.W.Frag) (Q : VK) (E : XK) (F : Hp) (T : List Addr) (fr : Fp) : M.FRes -> Prop
  | .ok o w' => ∀ v H' F' T' fp, Ext F T F' T' -> Rp K F' T' v o fp -> ou' K (w') H' F' T' (fp ++ fr) -> Q v H'
  | .exc x w' => ∀ cls dd H' F' T', Ext F T F' T' -> XcR K F' T' x cls dd -> ou' K (w') H' F' T' fr -> E cls dd H'
  | .bad => False
def spM (K : PySem.W.Frag) (m : M.MF) : Sp := fun vs H Q E => ∃ ds w F T fr, FzA K F T vs ds /\ ou' K (w) H F T fr /\ sj' K Q E F T fr (m ds w)
theorem RpE.start {K : PySem.W.Frag} {F : Hp} {T : List Addr} {n : Nat} : ∀ {vs : List V} {ds : List M.D}, FzA K F T vs ds -> RpE K F T (vs.map some ++ List.replicate n none) (ds.map (fun d => some (.fz d)) ++ List.replicate n none) []
  | _, _, .nil => by
    show RpE K F T (List.replicate n none) (List.replicate n none) []
    induction n with
    | zero => exact .nil
    | succ n ih => exact .off ih
  | _, _, .cons z r => RpE.on (fp := []) (fq := []) (.fz z) (RpE.start r)
end
section
variable {P : Program} {w : World} {K : PySem.W.Frag} {mg : Str -> Option Value} {base : Heap}
end
section
variable {X : Cx} {k : Nat} {x : Str} {ps : List Str} {p pos : Pos} {e : Expr} {es : List Expr} {as : M.MA} {W : WX} {m : M.MF}
theorem mr' {K : PySem.W.Frag} {σ : St} {H : Hp} {Q : VK} (h : qO K W (M.aO' m as) σ H Q) : tCallS (spM K m) (WE W) (qA K W as) σ H Q := by
  obtain ⟨ρ, F, T, fr, rel, h⟩ := h
  refine cB' rel h fun ds ρ1 vs H1 F1 T1 e1 z1 r1 h1 => ?_
  obtain ⟨fe, fw, re, rw, f⟩ := r1
  refine ⟨ds, ρ1.w, F1, T1, fe ++ fr, z1, ⟨[], fw, xr', rw, f.part (Part.swap : Part (fw ++ (fe ++ fr)) (fe ++ (fw ++ fr)))⟩, ?_⟩
  cases em : m ds ρ1.w with
  | bad => rw [em] at h1; exact h1.elim
  | ok o w' =>
    rw [em] at h1
    refine fun v H' F' T' fp e z r => h1 v H' F' T' fp (e1.trans e) z ?_
    obtain ⟨fe', fw', re', rw', f'⟩ := r
    cases re'
    refine ⟨fe, fw', re.mono e, rw', f'.part ?_⟩
    constructor
    . intro e h
      simp only [List.mem_append, List.not_mem_nil] at *
      grind
    . intro x
      simp only [keys, List.map_append, List.map_nil, List.count_append, List.count_nil] at *
      omega
  | exc x w' =>
    rw [em] at h1
    refine fun cls dd H' F' T' e z r => h1 cls dd H' F' T' e z ?_
    obtain ⟨fe', fw', re', rw', f'⟩ := r
    cases re'
    refine ⟨fe, fw', re.mono e, rw', f'.part ?_⟩
    constructor
    . intro e h
      simp only [List.mem_append, List.not_mem_nil] at *
      grind
    . intro x
      simp only [keys, List.map_append, List.map_nil, List.count_append, List.count_nil] at *
      omega
theorem ak' (F : Og X.prog X.w X.K X.mg X.base k x ps (spM X.K m)) (hr : RoomG k X.A) (hg : Gl X x) (tk : Takes X W) (ha : SA X W (e :: es) as) (hdb : (x == ("__debug__" : Str)) = false := by decide)
    (he : starEach (e :: es) X.env = (false, eval e X.env) :: starEach es X.env := by rfl) (hpl : (backTo pos (starEach es X.env)).any (·.1) = false := by rfl) : SO X W (.Call (.Name x p) (e :: es) [] pos) (M.aO' m as) :=
  PE.imp (nE' F hr hg tk ha hdb he hpl) fun _ _ _ h => mr' h
theorem dl' : Takes X W0 := fun _ _ ⟨_, _, _, _, _, _, _, _, _, _, _, _, _, _, _, _, w⟩ => w.elim
end
end S
namespace S
open PySem PySem.Spec PyProof.Rows L2
variable [Wd]
section
variable {P : Program} {w : World} {K : PySem.W.Frag} {mg : Str -> Option Value} {base : Heap}
theorem zi' {x qual : Str} {st : Stmt} {f : Addr} {fd : FuncData} {N ps : List Str} {k j n : Nat} {b : M.MS} (F : FunD K x qual (defArgs st) (defBody st) (defScope st) [] [] f fd) (S : FnScope N ps (defScope st)) (hj : ps.length = j) (hn : N.length = n)
    (hbody : ∀ (cdv oc : Value) (od : Option Addr) (osl : Array (Option Value)), K.lookup f = some ⟨oc, od, .func fd, osl⟩ -> fd.code = cdv -> PySem.W.codeIn K cdv qual = true -> ∀ (A : Around) (outer : List Env) (s : Shared) (H : Hp) (E : XK), RoomG k (A.deeper (envOfC qual (defScope st) s.heap.objs.size f cdv)) →
      SSs (cxOf (L2.CX P w) P w K mg base N qual (defScope st) f cdv A outer s H E) (fun cls d _ H => E cls d H) (defBody st) b)   : FnG P w K mg base (L2.CX P w) (k + 1) f fd ps (spM K (M.fnM j n b)) := by
  refine mf' F S (fun vs H Q E h => ?_) fun cdv oc od osl lk e1 e2 A outer s H vs Q E hr h => ⟨_, hbody cdv oc od osl lk e1 e2 A outer s H E hr, ?_⟩
  . obtain ⟨ds, w', F', T, fr, za, rel, h⟩ := h
    unfold M.fnM at h
    by_cases hl : ds.length = j
    . rw [za.length, hl, hj]
    . rw [if_neg hl] at h; exact h.elim
  . obtain ⟨ds, w', F', T, fr, za, rel, h⟩ := h
    unfold M.fnM at h
    by_cases hl : ds.length = j
    . rw [if_pos hl] at h
      obtain ⟨fe, fw, re, rw', ff⟩ := rel
      cases re
      have re' : RpE K F' T (L2.start N vs) (ds.map (fun d => some (.fz d)) ++ List.replicate (n - j) none) [] := by
        unfold L2.start
        rw [hn, za.length, hl]
        exact RpE.start za
      refine ⟨⟨_, w'⟩, F', T, fr, ⟨[], fw, re', rw', ff⟩, ?_⟩
      generalize b ⟨ds.map (fun d => some (.fz d)) ++ List.replicate (n - j) none, w'⟩ = r at h
      cases r with
      | nx ρ => exact fun σ' H' F2 T2 e2 r2 => h .non H' F2 T2 [] e2 (.fz .non) r2.noenv
      | rt o w2 => exact fun v H' F2 T2 fp e2 z2 r2 => h v H' F2 T2 fp e2 z2 r2
      | exc x ρ => exact fun σ' cls dd H' F2 T2 e2 z2 r2 => h cls dd H' F2 T2 e2 z2 r2.noenv
      | bk ρ => exact h.elim
      | ct ρ => exact h.elim
      | bad => exact h.elim
    . rw [if_neg hl] at h; exact h.elim
theorem okM {x qual : Str} {st : Stmt} {f : Addr} {fd : FuncData} {N ps : List Str} {k j n : Nat} {b : M.MS} (F : FunD K x qual (defArgs st) (defBody st) (defScope st) [] [] f fd) (S : FnScope N ps (defScope st)) (hj : ps.length = j) (hn : N.length = n)
    (hbody : ∀ (cdv : Value) (A : Around) (outer : List Env) (s : Shared) (H : Hp) (E : XK), RoomG k (A.deeper (envOfC qual (defScope st) s.heap.objs.size f cdv)) →
      SSs (cxOf (L2.CX P w) P w K mg base N qual (defScope st) f cdv A outer s H E) (fun cls d _ H => E cls d H) (defBody st) b)   : FnG P w K mg base (L2.CX P w) (k + 1) f fd ps (spM K (M.fnM j n b)) :=
  zi' F S hj hn fun cdv _ _ _ _ _ _ => hbody cdv
end
end S
namespace S
open PySem PySem.Spec PyProof.Rows L2
variable [Wd] [Hot]
section
variable {K : PySem.W.Frag}
theorem rz' {F : Hp} {T : List Addr} {x y : V} {dx dy : M.D} (hx : Fz K F T x dx) (hy : Fz K F T y dy) (sx' : M.sca dx = true) (sy : M.sca dy = true) : eqV y x = M.eqb dy dx /\ flatV x = true := by
  cases dx <;> try (cases sx'; done)
  all_goals cases dy <;> try (cases sy; done)
  all_goals first
    | (cases hx; cases hy; exact ⟨rfl, rfl⟩)
    | skip
  obtain ⟨rfl, _⟩ := hx.str_inv
  obtain ⟨rfl, _⟩ := hy.str_inv
  exact ⟨oX' _ _, rfl⟩
theorem l9' {F : Hp} {T : List Addr} {x : V} {dx : M.D} (hx : Fz K F T x dx) (sx' : M.sca dx = true) : ∀ {vs : List V} {ds : List M.D}, FzA K F T vs ds -> ds.all M.sca = true -> inV x vs = ds.any (fun d => M.eqb d dx) /\ vs.all flatV = true
  | _, _, .nil, _ => ⟨rfl, rfl⟩
  | _, _, .cons z r, h => by
    rw [List.all_cons, Bool.and_eq_true] at h
    obtain ⟨h1, h2⟩ := l9' hx sx' r h.2
    obtain ⟨h3, h4⟩ := rz' hx z sx' h.1
    obtain ⟨_, h5⟩ := rz' z z h.1 h.1
    refine ⟨?_, ?_⟩
    . show (eqV _ x || inV x _) = _
      rw [List.any_cons, h3, h1]
    . rw [List.all_cons, h5, h2]; rfl
theorem i3' {F : Hp} {T : List Addr} {x : V} {dx : M.D} (hx : Fz K F T x dx) (s : M.sca dx = true) : flatV x = true := (rz' hx hx s s).2
theorem iZ' {dx dy dz : M.D} (h : M.pIn dx dy = some dz) : (∃ c s, dx = .str [c] /\ dy = .str s /\ dz = .bl (decide (c ∈ s))) \/ (∃ ds, (dy = .lst ds \/ dy = .tup ds) /\ M.sca dx = true /\ ds.all M.sca = true /\ dz = .bl (ds.any fun d => M.eqb d dx)) := by
  unfold M.pIn at h
  split at h
  . exact .inl ⟨_, _, rfl, rfl, (Option.some.inj h).symm⟩
  . split at h
    . rename_i c; exact .inr ⟨_, .inl rfl, c.1, c.2, (Option.some.inj h).symm⟩
    . cases h
  . split at h
    . rename_i c; exact .inr ⟨_, .inr rfl, c.1, c.2, (Option.some.inj h).symm⟩
    . cases h
  . cases h
theorem xl' : Op2 K M.pIn (yF' K) := by
  intro F H T fp x y dx dy dz Q f hx hy h k
  rcases iZ' h with ⟨c, s, rfl, rfl, rfl⟩ | ⟨ds, e, h1, h2, rfl⟩
  . obtain ⟨rfl, o1⟩ := hx.str_inv
    obtain ⟨rfl, o2⟩ := hy.str_inv
    exact .inl ⟨c, _, rfl, rfl, k.here f (.bl _)⟩
  . rcases e with rfl | rfl
    . obtain ⟨a, vs, rfl, ha, za⟩ := hy.lst_inv
      obtain ⟨e1, e2⟩ := l9' hx h1 za h2
      refine .inr (.inl ⟨a, vs, rfl, .inl (SqL.of (f.low _ _ ha)), i3' hx h1, e2, ?_⟩)
      rw [if_neg Bool.false_ne_true, e1]
      exact k.here f (.bl _)
    . obtain ⟨a, vs, rfl, ha, za⟩ := hy.tup_inv
      obtain ⟨e1, e2⟩ := l9' hx h1 za h2
      refine .inr (.inl ⟨a, vs, rfl, .inr (seqT f.low ha), i3' hx h1, e2, ?_⟩)
      rw [if_neg Bool.false_ne_true, e1]
      exact k.here f (.bl _)
theorem qX' : Op2 K M.fC' (lA' K) := by
  intro F H T fp x y dx dy dz Q f hx hy h k
  unfold M.fC' at h
  split at h
  . rename_i b hb
    cases h
    rcases iZ' hb with ⟨c, s, rfl, rfl, eb⟩ | ⟨ds, e, h1, h2, eb⟩
    . cases eb
      obtain ⟨rfl, o1⟩ := hx.str_inv
      obtain ⟨rfl, o2⟩ := hy.str_inv
      exact .inl ⟨c, _, rfl, rfl, k.here f (.bl _)⟩
    . cases eb
      rcases e with rfl | rfl
      . obtain ⟨a, vs, rfl, ha, za⟩ := hy.lst_inv
        obtain ⟨e1, e2⟩ := l9' hx h1 za h2
        refine .inr (.inl ⟨a, vs, rfl, .inl (SqL.of (f.low _ _ ha)), i3' hx h1, e2, ?_⟩)
        rw [if_pos rfl, e1]
        exact k.here f (.bl _)
      . obtain ⟨a, vs, rfl, ha, za⟩ := hy.tup_inv
        obtain ⟨e1, e2⟩ := l9' hx h1 za h2
        refine .inr (.inl ⟨a, vs, rfl, .inr (seqT f.low ha), i3' hx h1, e2, ?_⟩)
        rw [if_pos rfl, e1]
        exact k.here f (.bl _)
  . cases h
theorem iy' {F : Hp} {T : List Addr} : ∀ {vs : List V} {ds : List M.D} {ss : List M.Tx}, FzA K F T vs ds -> M.cn' ds = some ss -> vs = (ss.map sx).map V.str /\ ∀ s ∈ ss, okT s
  | _, _, ss, .nil, h => by cases h; exact ⟨rfl, fun s h => nomatch h⟩
  | _, d :: ds, ss, .cons a r, h => by
    cases d <;> try (cases h; done)
    rename_i b
    cases q : M.cn' ds with
    | none => simp only [M.cn', q] at h; cases h
    | some cs =>
      simp only [M.cn', q, Option.map_some] at h
      cases h
      obtain ⟨rfl, o⟩ := a.str_inv
      obtain ⟨rfl, os⟩ := iy' r q
      refine ⟨rfl, fun s hs => ?_⟩
      rcases List.mem_cons.mp hs with rfl | hs
      . exact o
      . exact os s hs
theorem iW' (sep : M.Tx) : ∀ ss : List M.Tx, TL.joinL sep ss = M.bR' sep ss
  | [] => rfl
  | [_] => rfl
  | a :: b :: r => by
    show a ++ (sep ++ TL.joinL sep (b :: r)) = a ++ (sep ++ M.bR' sep (b :: r))
    rw [iW' sep (b :: r)]
theorem ra' (sep : M.Tx) (ss : List M.Tx) : Txt.join (sx sep) (ss.map sx) = sx (M.bR' sep ss) := by
  rw [TL.join_eq]
  refine ep' ?_
  have := TL.tl_join (sx sep) (ss.map sx)
  rw [List.map_map, show ss.map (TL.tl ∘ sx) = ss from (List.map_congr_left fun a _ => rfl).trans (List.map_id ss), show TL.tl (sx sep) = sep from rfl, iW'] at this
  exact this
theorem fO' (sep : M.Tx) : ∀ (ss : List M.Tx) (c : Nat), c ∈ M.bR' sep ss -> c ∈ sep \/ ∃ s ∈ ss, c ∈ s
  | [], c, h => by cases h
  | [a], c, h => .inr ⟨a, by simp, h⟩
  | a :: b :: r, c, h => by
    rcases List.mem_append.mp (show c ∈ a ++ (sep ++ M.bR' sep (b :: r)) from h) with h | h
    . exact .inr ⟨a, by simp, h⟩
    . rcases List.mem_append.mp h with h | h
      . exact .inl h
      . rcases fO' sep (b :: r) c h with h | ⟨s, h1, h2⟩
        . exact .inl h
        . exact .inr ⟨s, List.mem_cons_of_mem _ h1, h2⟩
theorem cN' (sep : M.Tx) : ∀ (ss : List M.Tx), (M.bR' sep ss).length <= (ss.map List.length).sum + ss.length * sep.length
  | [] => by simp [M.bR']
  | [a] => by simp [M.bR']
  | a :: b :: r => by
    have ih := cN' sep (b :: r)
    show (a ++ (sep ++ M.bR' sep (b :: r))).length <= _
    rw [List.length_append, List.length_append, List.map_cons, List.sum_cons, List.length_cons (as := b :: r), Nat.succ_mul]
    omega
def MtD (K : PySem.W.Frag) (f : M.Tx -> List M.D -> Option M.D) (r : V -> List V -> Hp -> VK -> Prop) : Prop := ∀ {F H : Hp} {T : List Addr} {fp : Fp} {s : M.Tx} {xs : List V} {ds : List M.D} {dz : M.D} {Q : VK}, FpH F H fp -> okT s -> FzA K F T xs ds -> f s ds = some dz -> dj' K F T fp dz Q -> r (.str (sx s)) xs H Q
theorem FzA.one {F : Hp} {T : List Addr} {xs : List V} {d : M.D} (h : FzA K F T xs [d]) : ∃ v, xs = [v] /\ Fz K F T v d := by
  cases h with
  | cons a r => cases r; exact ⟨_, rfl, a⟩
theorem lS' : MtD K M.dE' (t2' K) := by
  intro F H T fp a xs ds dz Q f oa hx h k
  have fin : ∀ {ds : List M.D} {p : Addr} {vs : List V}, (SqL K H p vs \/ SqT K H p vs) -> FzA K F T vs ds -> ((M.cn' ds).bind fun ys => if (ys.map List.length).sum + ys.length * a.length <= M.bB' then some (M.D.str (M.bR' a ys)) else none) = some dz -> t2' K (.str (sx a)) [.ref p] H Q := by
    intro ds p vs hp za e
    cases q : M.cn' ds with
    | none => rw [q] at e; cases e
    | some ss =>
      rw [q, Option.bind_some] at e
      split at e
      . rename_i hl
        cases e
        obtain ⟨rfl, os⟩ := iy' za q
        refine ⟨_, p, ss.map sx, rfl, rfl, hp, ?_, ?_⟩
        . rw [List.map_map, show ss.map (Str.length ∘ sx) = ss.map List.length from List.map_congr_left fun s _ => bG' s, List.length_map, bG']
          exact hl
        . rw [ra']
          refine k.here f (.str ⟨fun c hc => ?_, Nat.le_trans (cN' a ss) hl⟩)
          rcases fO' a ss c hc with h | ⟨s, h1, h2⟩
          . exact oa.1 c h
          . exact (os s h1).1 c h2
      . cases e
  unfold M.dE' at h
  split at h
  . obtain ⟨v, rfl, z⟩ := hx.one
    obtain ⟨p, vs, rfl, ha, za⟩ := z.lst_inv
    exact fin (.inl (SqL.of (f.low _ _ ha))) za h
  . obtain ⟨v, rfl, z⟩ := hx.one
    obtain ⟨p, vs, rfl, ha, za⟩ := z.tup_inv
    exact fin (.inr (seqT f.low ha)) za h
  . cases h
end
section
variable {X : Cx} {W : WX} {K : PySem.W.Frag} {cpos apos p : Pos} {name : Str} {id T : String} {o e : Expr} {es : List Expr} {mo : M.ME} {as : M.MA} {σ : St} {H : Hp} {Q : VK}
theorem q5' {f : M.Tx -> List M.D -> Option M.D} {r : V -> List V -> Hp -> VK -> Prop} (hf : MtD K f r) (h : qE K W (M.eMt f mo as) σ H Q) : tBM K "str" r (qE K W mo) (qA K W as) σ H Q := by
  obtain ⟨ρ, F, T, fr, rel, h⟩ := h
  refine aD' rel h fun dx ρ1 v H1 F1 T1 e1 z1 r1 h1 => ?_
  cases dx <;> try exact h1.elim
  obtain ⟨rfl, o⟩ := z1.str_inv
  refine ⟨rfl, ?_⟩
  refine cB' r1 h1 fun ds ρ2 vs H2 F2 T2 e2 z2 r2 h2 => ?_
  obtain ⟨dz, ez, q⟩ := aS'.ofO h2
  obtain ⟨fp, f2, back⟩ := r2.fp
  exact hf f2 o z2 ez fun v' H3 F3 s zz f3 => q v' H3 F3 T2 (e1.trans (e2.trans (.of s))) zz (back H3 F3 s f3)
theorem nu' {f : M.Tx -> List M.D -> Option M.D} {r : V -> List V -> Hp -> VK -> Prop} (slot : Slot "str" name id) (hty : typeOf (.builtin id) = pure (.type "method_descriptor")) (hm : MtR X id r) (hf : MtD X.K f r) (ho : SE X W o mo) (ha : SA X W (e :: es) as)
    (hbase : attributeBase o name X.env (eval o X.env) = eval o X.env := by rfl)
    (hfew : ((backTo cpos (starEach (e :: es) X.env)).all (fun x => !x.1) && (backToKw cpos (keywordEach [] X.env)).all (fun x => x.1.isSome)
      && decide ((e :: es).length + ([] : List Keyword).length + (if ([] : List Keyword).isEmpty then 0 else 1) < 30)) = true := by rfl)
    (hline : (apos.endLine == cpos.line) = true := by rfl) (hs : starEach (e :: es) X.env = (false, eval e X.env) :: starEach es X.env := by rfl) (hplain : (backTo cpos (starEach es X.env)).any (·.1) = false := by rfl) :
    SE X W (.Call (.Attribute o name apos) (e :: es) [] cpos) (M.eMt f mo as) := PE.imp (pe_bm PySem.F.plainAttrs_str slot hty hm ho ha hbase hfew hline hs hplain) fun _ _ _ h => q5' hf h
end
end S
namespace S
open PySem PySem.Spec PyProof.Rows L2
variable [Wd] [Hot]
section
variable {K : PySem.W.Frag} {F F' H H' : Hp} {T T' : List Addr} {fp fq fr : Fp} {ρ : M.PSt} {σ : St} {W : WX} {Q : VK}
theorem RpW.get {l : List Addr} {w : M.W} {n : Nat} {ob : M.Ob} (r : RpW K F T l w fp) (h : w[n]? = some ob) : ∃ a f1 f2 f3, l[n]? = some a /\ fp = f1 ++ (f2 ++ f3) /\ RpOb K F T a ob f2 ∧
    ∀ F' T' ob' f2', Ext F T F' T' -> RpOb K F' T' a ob' f2' -> RpW K F' T' l (w.set n ob') (f1 ++ (f2' ++ f3)) := by
  induction r generalizing n with
  | nil => cases h
  | @cons a l ob0 w fa fb r0 r ih =>
    cases n with
    | zero =>
      cases h
      exact ⟨a, [], fa, fb, rfl, rfl, r0, fun F' T' ob' f2' e r' => (RpW.cons r' (r.mono e) : RpW K F' T' _ _ (f2' ++ fb))⟩
    | succ n =>
      obtain ⟨a', f1, f2, f3, h1, rfl, h3, h4⟩ := ih (n := n) h
      refine ⟨a', fa ++ f1, f2, f3, h1, by simp, h3, fun F' T' ob' f2' e r' => ?_⟩
      rw [List.append_assoc]
      exact .cons (r0.mono e) (h4 F' T' ob' f2' e r')
theorem RpW.len {l : List Addr} {w : M.W} (r : RpW K F T l w fp) : l.length = w.length := by
  induction r with
  | nil => rfl
  | cons _ _ ih => exact congrArg (· + 1) ih
theorem RpA.get : ∀ {vs : List V} {os : List M.O} {fp : Fp} {i : Nat} {d : M.D}, RpA K F T vs os fp -> os[i]? = some (.fz d) -> ∃ v, vs[i]? = some v /\ Fz K F T v d
  | _, _, _, _, _, .nil, e => by cases e
  | _, _, _, 0, _, .cons h _, e => by
    have e := Option.some.inj e
    subst e
    cases h with
    | fz z => exact ⟨_, rfl, z⟩
  | _, _, _, i + 1, _, .cons _ r, e => RpA.get (i := i) r e
theorem RpA.ati {vs : List V} {os : List M.O} {i : Int} {d : M.D} (h : RpA K F T vs os fp) (e : M.ati os i = some (.fz d)) : ∃ v, atI vs i = some v /\ Fz K F T v d := by
  unfold M.ati at e
  unfold atI
  rw [h.length]
  cases q : M.ixn os.length i with
  | none => rw [q] at e; cases e
  | some j =>
    rw [q] at e
    obtain ⟨v, h1, h2⟩ := h.get (i := j) e
    have q' : ixN os.length i = some j := q
    rw [q']
    exact ⟨v, h1, h2⟩
theorem Rel.wlist (rel : Rel K ρ σ H F T fr) {n : Nat} {os : List M.O} (h : ρ.w[n]? = some (.lst os)) : ∃ a vs f2, T[n]? = some a /\ H a = some (.lst vs) /\ RpA K F T vs os f2 ∧
    ∀ vs' os' f2' fr', RpA K F T vs' os' f2' -> Part (f2' ++ fr') (f2 ++ fr) -> Rel K ⟨ρ.env, ρ.w.set n (.lst os')⟩ σ (upd H a (.lst vs')) F T fr' := by
  obtain ⟨fe, fw, re, rw, f⟩ := rel
  obtain ⟨a, f1, f2, f3, h1, rfl, h3, h4⟩ := rw.get h
  cases h3 with
  | lst r =>
    rename_i vs fp0
    refine ⟨a, vs, fp0, h1, (f.at_ (a, .lst vs) (by simp)).1, r, fun vs' os' f2' fr' r' pt => ?_⟩
    have e5 := h4 F T (.lst os') ((a, .lst vs') :: f2') .refl (.lst r')
    refine ⟨fe, _, re, e5, ?_⟩
    have fA : FpH F H ((fe ++ f1) ++ ((a, .lst vs) :: (f3 ++ (fp0 ++ fr)))) := f.part (by
      constructor
      . intro e h
        simp only [List.mem_append, List.mem_cons] at *
        grind
      . intro x
        simp only [keys, List.map_append, List.map_cons, List.count_append, List.count_cons] at *
        omega)
    have fB := fA.write (o' := .lst vs')
    refine fB.part ?_
    have pm := pt.m
    constructor
    . intro e h
      have := pm e
      simp only [List.mem_append, List.mem_cons] at *
      grind
    . intro x
      have := pt.c x
      simp only [keys, List.map_append, List.map_cons, List.count_append, List.count_cons] at *
      omega
theorem RpA.set {v : V} {d : M.D} (zd : Fz K F T v d) : ∀ {os : List M.O} {vs : List V} {f2 : Fp} (j : Nat), RpA K F T vs os f2 -> ∃ f2', RpA K F T (vs.set j v) (os.set j (.fz d)) f2' /\ Part f2' f2
  | [], _, _, _, .nil => ⟨[], .nil, .refl⟩
  | o :: os, _, _, 0, .cons r0 r => ⟨_, RpA.cons (fp := []) (.fz zd) r, .right .refl⟩
  | o :: os, _, _, j + 1, .cons r0 r => by
    obtain ⟨f2', q1, q2⟩ := RpA.set zd j r
    exact ⟨_, .cons r0 q1, .app .refl q2⟩
theorem RpA.set' {v : V} {d : M.D} {vs : List V} {os : List M.O} {fp : Fp} (h : RpA K F T vs os fp) (j : Nat) (zd : Fz K F T v d) : ∃ f2', RpA K F T (vs.set j v) (os.set j (.fz d)) f2' /\ Part f2' fp := RpA.set zd j h
theorem nj' {w w' : M.W} {x k d : M.D} (h : M.nk' w x k d = some w') : ∃ n z os j, x = .obj n /\ k = .int z /\ w[n]? = some (.lst os) /\ M.ixn os.length z = some j /\ w' = w.set n (.lst (os.set j (.fz d))) := by
  unfold M.nk' at h
  split at h
  . rename_i n z
    split at h
    . rename_i os e
      cases q : M.ixn os.length z with
      | none => rw [q] at h; cases h
      | some j =>
        rw [q] at h
        cases h
        exact ⟨n, z, os, j, rfl, rfl, e, q, rfl⟩
    . cases h
  . cases h
theorem nT' {ma mb : M.ME} (h : qE K W (M.eQ' ma mb) σ H Q) : tOp (rIx K) (qE K W ma) (qE K W mb) σ H Q := by
  obtain ⟨ρ, F, T, fr, rel, h⟩ := h
  refine aD' rel h fun dx ρ1 v H1 F1 T1 e1 z1 r1 h1 => ?_
  refine aD' r1 h1 fun dy ρ2 u H2 F2 T2 e2 z2 r2 h2 => ?_
  obtain ⟨dz, ez, q⟩ := aS'.ofO h2
  by_cases ho : ∃ n, dx = .obj n
  . obtain ⟨n, rfl⟩ := ho
    cases e : ρ2.w[n]? with
    | none => simp only [M.ixW, e] at ez; cases ez
    | some ob =>
      cases ob with
      | lst os =>
        simp only [M.ixW, e] at ez
        obtain ⟨a, vs, f2, h3, h4, h5, _⟩ := r2.wlist e
        cases z1.mono e2 with
        | obj t =>
          rw [h3] at t
          cases t
          cases dy <;> try (cases ez; done)
          rename_i i
          cases z2
          unfold M.ixO at ez
          cases e6 : M.ati os i with
          | none => simp only [e6] at ez; cases ez
          | some o =>
            cases o <;> simp only [e6] at ez <;> try (cases ez; done)
            cases ez
            obtain ⟨v', h7, h8⟩ := h5.ati e6
            exact .inl ⟨_, vs, i, v', rfl, rfl, SqL.of h4, h7, q v' H2 F2 T2 (e1.trans e2) h8 r2⟩
      | dct ks vs => simp only [M.ixW, e] at ez; cases ez
      | dcx ks vs => simp only [M.ixW, e] at ez; cases ez
      | ins C fs => simp only [M.ixW, e] at ez; cases ez
  . have ez' : M.pIx dx dy = some dz := by
      cases dx <;> first | exact ez | exact absurd ⟨_, rfl⟩ ho
    obtain ⟨fp, f2, back⟩ := r2.fp
    exact dO' f2 (z1.mono e2) z2 ez' fun v' H3 F3 s zz f3 => q v' H3 F3 T2 (e1.trans (e2.trans (.of s))) zz (back H3 F3 s f3)
end
section
variable {X : Cx} {W : WX} {pos tpos : Pos} {a b o i : Expr} {ma mb mo mi : M.ME} {as : M.MA} {es : List Expr} {σ : St} {H : Hp} {Q : VK}
theorem bP' (ha : SE X W a ma) (hb : SE X W b mb) (hs : PlainIx b) : SE X W (.Subscript a b pos) (M.eQ' ma mb) := PE.imp (pe_ix ix_seq ha hb hs) fun _ _ _ h => nT' h
theorem ds' (ha : SE X W a ma) (ho : SE X W o mo) (hi : SE X W i mi)
    (hst : ∀ v, assign (.Subscript o i tpos) X.env v = (do
      let ov ← holding [v] (eval o X.env)
      let iv ← holding [v, ov] (eval i X.env)
      standAt tpos
      holding [v, ov, iv] (setItem ov iv v)
      release [v, ov, iv] []) := by intro _; rfl)
    (hs : swapsWithSole [.Subscript o i tpos] a pos.line X.env = pure false := by rfl) (hw : swappedStores [.Subscript o i tpos] a X.env = pure none := by rfl)
    (h1 : (assignEach [.Subscript o i tpos] X.env).map (·.2) = [assign (.Subscript o i tpos) X.env] := by rfl) : SS X W (.Assign [.Subscript o i tpos] a pos) (M.eu' mo mi ma) :=
  PS.imp (ps_asg ha (pg_sub ho hi set_list hst) hs hw h1) fun D σ H ⟨ρ, F, T, fr, rel, h⟩ => by
    refine du' rel h fun d ρ1 v H1 F1 T1 e1 z1 r1 h1 => ?_
    refine du' r1 h1 fun dx ρ2 u H2 F2 T2 e2 z2 r2 h2 => ?_
    refine du' r2 h2 fun dk ρ3 t H3 F3 T3 e3 z3 r3 h3 => ?_
    cases es : M.nk' ρ3.w dx dk d with
    | none => rw [es] at h3; exact h3.elim
    | some w' =>
      rw [es] at h3
      obtain ⟨n, z, os, j, rfl, rfl, e, ej, rfl⟩ := nj' es
      cases z3
      obtain ⟨p, vs, f2, h4, h5, h6, back⟩ := r3.wlist e
      cases z2.mono e3 with
      | obj t =>
        rw [h4] at t
        cases t
        have ej' : ixN vs.length z = some j := by rw [h6.length]; exact ej
        obtain ⟨f2', q1, q2⟩ := h6.set' j ((z1.mono e2).mono e3)
        exact ⟨p, vs, z, j, rfl, rfl, h5, ej', h3 σ _ F3 T3 .refl (back _ _ f2' fr q1 (.app q2 .refl))⟩
theorem tx' (h : SA X W es as) : SO X W (.List es pos) (M.um' as) := PE.imp (pe_lst h) fun σ H Q ⟨ρ, F, T, fr, rel, h⟩ => by
  refine cB' rel h fun ds ρ1 vs H1 F1 T1 e1 z1 r1 h1 => ?_
  split at h1
  . rename_i hl
    refine ⟨by rw [z1.length, bl']; exact hl, fun p hp => ?_⟩
    obtain ⟨fe, fw, re, rw, f⟩ := r1
    have eT : Ext F1 T1 F1 (T1 ++ [p]) := ⟨fun _ _ h => .inl h, ⟨[p], rfl⟩⟩
    have hn : (T1 ++ [p])[ρ1.w.length]? = some p := by rw [<- rw.len, List.getElem?_append_right (Nat.le_refl _), Nat.sub_self]; rfl
    have app : ∀ {l : List Addr} {w : M.W} {fw : Fp}, RpW X.K F1 T1 l w fw -> ∃ fw', RpW X.K F1 (T1 ++ [p]) (l ++ [p]) (w ++ [.lst (ds.map .fz)]) fw' /\ Part fw' ((p, .lst vs) :: fw) := by
      intro l w fw r
      induction r with
      | nil => exact ⟨_, RpW.cons (RpOb.lst (RpA.of_fz (z1.mono eT))) .nil, by simp only [List.append_nil]; exact .refl⟩
      | @cons a l ob w fa fb r0 r ih =>
        obtain ⟨fw', q1, q2⟩ := ih
        refine ⟨fa ++ fw', .cons (r0.mono eT) q1, ?_⟩
        have p1 : Part (fa ++ fw') (fa ++ ((p, .lst vs) :: fb)) := .app .refl q2
        refine p1.trans ?_
        constructor
        . intro e h
          simp only [List.mem_append, List.mem_cons] at *
          grind
        . intro x
          simp only [keys, List.map_append, List.map_cons, List.count_append, List.count_cons] at *
          omega
    obtain ⟨fw', q1, q2⟩ := app rw
    refine h1 (.ref p) (upd H1 p (.lst vs)) F1 (T1 ++ [p]) [] (e1.trans eT) (.fz (.obj hn)) ⟨fe, fw', re.mono eT, q1, ?_⟩
    refine (f.own hp).part ?_
    have p1 : Part (fe ++ (fw' ++ ([] ++ fr))) (fe ++ (((p, .lst vs) :: fw) ++ fr)) := .app .refl (.app q2 .nilL)
    refine p1.trans ?_
    constructor
    . intro e h
      simp only [List.mem_append, List.mem_cons] at *
      grind
    . intro x
      simp only [keys, List.map_append, List.map_cons, List.count_append, List.count_cons] at *
      omega
  . exact h1.elim
end
end S
namespace S
open PySem PySem.Spec PyProof.Rows L2
variable [Wd] [Hot]
local macro_rules | `(tactic| walk_at "parts") => `(tactic| (constructor; (intro e h; simp only [List.mem_append, List.mem_cons, List.not_mem_nil] at *; grind); (intro x; simp only [keys, List.map_append, List.map_cons, List.map_nil, List.count_append, List.count_cons, List.count_nil] at *; omega)))
section
variable {K : PySem.W.Frag} {F F' H H' : Hp} {T T' : List Addr} {fp fq fr : Fp} {ρ : M.PSt} {σ : St} {W : WX} {Q : VK}
theorem RpA.lookup {f : String} {o : M.O} : ∀ {fv : List (String × V)} {os : List M.O} {fp : Fp}, RpA K F T (fv.map (·.2)) os fp -> ((fv.map (·.1)).zip os).lookup f = some o →
    ∃ v f1 f2 f3, fv.lookup f = some v /\ fp = f1 ++ (f2 ++ f3) /\ Rp K F T v o f2
  | [], _, _, r, h => by cases r; cases h
  | (g, v) :: fv, _, _, r, h => by
    cases r with
    | @cons _ _ o1 os fp fq r0 r =>
      rw [List.map_cons, List.zip_cons_cons] at h
      by_cases e : f = g
      . subst e
        rw [List.lookup_cons_self] at h
        cases h
        exact ⟨v, [], fp, fq, List.lookup_cons_self, rfl, r0⟩
      . have h1 : (f == g) = false := by simpa using e
        simp only [List.lookup, h1] at h
        obtain ⟨v', f1, f2, f3, e1, e2, e3⟩ := RpA.lookup r h
        refine ⟨v', fp ++ f1, f2, f3, ?_, by rw [e2, List.append_assoc], e3⟩
        simp only [List.lookup, h1]
        exact e1
theorem ly' {K : PySem.W.Frag} {w : M.W} {fr' : Fp} (r : ou' K w H F T fr) (p : Part fr' fr) : ou' K w H F T fr' := by
  obtain ⟨fe, fw, re, rw, f⟩ := r
  exact ⟨fe, fw, re, rw, f.part (.app .refl (.app .refl p))⟩
theorem a6'.frame {D : Ends} {r : M.Out} (h : a6' K W D F T fr r) (p : Part fr fq) : a6' K W D F T fq r := by
  cases r with
  | nx ρ => exact fun σ' H' F' T' e r => h σ' H' F' T' e (r.part p)
  | bk ρ => exact fun σ' H' F' T' e r => h σ' H' F' T' e (r.part p)
  | ct ρ => exact fun σ' H' F' T' e r => h σ' H' F' T' e (r.part p)
  | rt o w => exact fun v H' F' T' fp e z r => h v H' F' T' fp e z (ly' r (.app .refl p))
  | exc x ρ => exact fun σ' cls dd H' F' T' e z r => h σ' cls dd H' F' T' e z (r.part p)
  | bad => exact h
theorem EX.frame {x : M.Exc} (h : EX K W σ F T fr x ρ) (p : Part fr fq) : EX K W σ F T fq x ρ := fun cls dd H' F' T' e z r => h cls dd H' F' T' e z (r.part p)
end
section
variable {X : Cx} {W : WX} {pos apos p pos' : Pos} {e o value : Expr} {es : List Expr} {ma : M.ME} {mo : M.MO} {as : M.MA} {k : Nat} {x : Str} {ps : List Str} {mf : M.MF}
end
end S
namespace S
open PySem PySem.Spec PyProof.Rows L2
variable [Wd] [Hot]
local macro_rules | `(tactic| walk_at "parts") => `(tactic| (constructor; (intro e h; simp only [List.mem_append, List.mem_cons, List.not_mem_nil] at *; grind); (intro x; simp only [keys, List.map_append, List.map_cons, List.map_nil, List.count_append, List.count_cons, List.count_nil] at *; omega)))
section
variable {K : PySem.W.Frag} {W : WX} {Q : VK} {σ : St} {H : Hp}
theorem uk' : Op1 K M.uc' (rU fun i => .int (-i)) := by
  intro F H T fp x dx dz Q f hx h k
  cases dx <;> try (cases h; done)
  cases hx; cases h
  exact ⟨_, rfl, k.here f (.int _)⟩
theorem iX' {F : Hp} {T : List Addr} : ∀ {vs : List V} {ds : List M.D} {ns : List Int}, FzA K F T vs ds -> M.bA' ds = some ns -> vs = ns.map V.int
  | _, _, ns, .nil, h => by cases h; rfl
  | _, d :: ds, ns, .cons a r, h => by
    cases d <;> try (cases h; done)
    rename_i b
    cases q : M.bA' ds with
    | none => simp only [M.bA', q] at h; cases h
    | some cs =>
      simp only [M.bA', q, Option.map_some] at h
      cases h
      rw [a.int_inv, iX' r q]
      rfl
theorem FzA.rgI {F : Hp} {T : List Addr} : ∀ ns : List Int, FzA K F T (ns.map V.int) (ns.map M.D.int)
  | [] => .nil
  | n :: r => .cons (.int n) (FzA.rgI r)
def iQ' (c : Nat) : Str := ⟨#[c]⟩
def nf' (z : Str) : Nat := z.cps.toList.headD 0
theorem iJ' {ys : List Str} {l : List Nat} (h : ys.Perm (l.map iQ')) : ∃ l' : List Nat, ys = l'.map iQ' /\ l'.Perm l := by
  refine ⟨ys.map nf', ?_, ?_⟩
  . rw [List.map_map]
    have : ∀ y ∈ ys, (iQ' ∘ nf') y = y := fun y hy => by
      obtain ⟨c, _, rfl⟩ := List.mem_map.mp (h.subset hy)
      rfl
    exact (List.map_congr_left this).trans (List.map_id ys) |>.symm
  . have := h.map nf'
    rw [List.map_map] at this
    have e : l.map (nf' ∘ iQ') = l := (List.map_congr_left fun c _ => rfl).trans (List.map_id l)
    rw [e] at this
    exact this
theorem jm' : ∀ (l : List Nat) (c : Nat), risingS (iQ' c) (l.map iQ') = true -> c <= l.headD c /\ sortedS (l.map iQ') = true
  | [], c, _ => ⟨Nat.le_refl c, rfl⟩
  | e :: l, c, h => by
    rw [List.map_cons] at h ⊢
    unfold risingS at h
    rw [Bool.and_eq_true] at h
    obtain ⟨h1, h2⟩ := h
    refine ⟨?_, h2⟩
    show c <= e
    simp [ltCps, iQ'] at h1
    omega
theorem c0' : ∀ l : List Nat, sortedS (l.map iQ') = true -> l.Pairwise (· <= ·)
  | [], _ => .nil
  | c :: l, h => by
    obtain ⟨h1, h2⟩ := jm' l c h
    have ih := c0' l h2
    refine List.pairwise_cons.mpr ⟨fun d hd => ?_, ih⟩
    cases l with
    | nil => cases hd
    | cons e t =>
      have hce : c <= e := h1
      cases hd with
      | head => exact hce
      | tail _ hd => exact Nat.le_trans hce ((List.pairwise_cons.mp ih).1 d hd)
theorem iB' {l l' : List Nat} (p : l'.Perm l) (s : l'.Pairwise (· <= ·)) : l' = M.bK' l := by
  refine List.Perm.eq_of_pairwise (le := (· <= ·)) (fun a b _ _ h1 h2 => Nat.le_antisymm h1 h2) s ?_ (p.trans (List.mergeSort_perm l _).symm)
  exact (List.pairwise_mergeSort (le := fun a b => decide (a <= b)) (fun a b c h1 h2 => decide_eq_true (Nat.le_trans (of_decide_eq_true h1) (of_decide_eq_true h2))) (fun a b => by
    rw [Bool.or_eq_true, decide_eq_true_eq, decide_eq_true_eq]; omega) l).imp fun h => of_decide_eq_true h
theorem no' {l l' : List Int} (p : l'.Perm l) (s : l'.Pairwise (· <= ·)) : l' = M.np' l := by
  refine List.Perm.eq_of_pairwise (le := (· <= ·)) (fun a b _ _ h1 h2 => Int.le_antisymm h1 h2) s ?_ (p.trans (List.mergeSort_perm l _).symm)
  exact (List.pairwise_mergeSort (le := fun a b => decide (a <= b)) (fun a b c h1 h2 => decide_eq_true (Int.le_trans (of_decide_eq_true h1) (of_decide_eq_true h2))) (fun a b => by
    rw [Bool.or_eq_true, decide_eq_true_eq, decide_eq_true_eq]; omega) l).imp fun h => of_decide_eq_true h
def lz' (K : PySem.W.Frag) : List V -> Hp -> VK -> Prop := fun vs H Q => fA' vs H Q \/ rSortedI K vs H Q \/ rSortedS K vs H Q
theorem jC' {X : Cx} (hc : X.calm = true) : CallR X (.builtin "sorted") (lz' X.K) := (g7' hc).or (cr_sortedI.or cr_sortedS)
theorem fq' {s : M.Tx} {c : Nat} : c ∈ M.bK' s ↔ c ∈ s := (List.mergeSort_perm s _).mem_iff
theorem iO' {K : PySem.W.Frag} {F : Hp} {T : List Addr} : ∀ {vs : List V} {ds : List M.D} {cs : List Nat}, FzA K F T vs ds -> M.iP' ds = some cs -> vs = (cs.map iQ').map V.str /\ ∀ c ∈ cs, c < 1114112
  | _, [], _, .nil, h => by cases h; exact ⟨rfl, fun _ h => nomatch h⟩
  | _, d :: ds, cs, .cons z r, h => by
    unfold M.iP' at h
    split at h
    . rename_i e
      cases e
    . rename_i c r' e
      cases e
      obtain ⟨cs', h1, rfl⟩ := Option.map_eq_some_iff.mp h
      obtain ⟨e2, h2⟩ := iO' r h1
      obtain ⟨rfl, o⟩ := z.str_inv
      refine ⟨by rw [e2]; rfl, fun c' hc => ?_⟩
      rcases List.mem_cons.mp hc with rfl | hc
      . exact o.1 _ List.mem_cons_self
      . exact h2 _ hc
    . cases h
theorem on' : Bi1 K M.cC' (lz' K) := by
  intro F H T fp x dx dz Q f hx h k
  cases dx <;> try (cases h; done)
  . obtain ⟨rfl, o⟩ := hx.str_inv
    rename_i s
    simp only [M.cC'] at h
    split at h
    . rename_i hl
      cases h
      refine .inl ⟨_, rfl, by rw [bG']; exact hl, fun ys p H' hp hs hn s' e => ?_⟩
      obtain ⟨l', rfl, p'⟩ := iJ' hp
      rw [iB' p' (c0' l' hs)] at *
      have z : FzA K F T (((M.bK' s).map iQ').map V.str) ((M.bK' s).map M.chD) := by
        rw [List.map_map]
        exact FzA.chars fun c hc => o.1 c (fq'.mp hc)
      have hF : F p = none := f.free hn
      have sF : Same F (upd F p (.lst (((M.bK' s).map iQ').map V.str))) := cj' hF
      refine k (.ref p) H' _ sF (.lst upd_same (z.mono (.of sF))) ⟨fun a u ha => ?_, fun q hq => ?_, f.nd, f.tbs (fun a h1 h2 h3 => ?_) fun c q h => gx' sF h⟩
      . by_cases hap : a = p
        . subst hap
          rw [upd_same] at ha
          cases ha
          exact e
        . rw [upd_ne hap] at ha
          exact s' _ _ (f.low _ _ ha)
      . have np : q.1 ≠ p := ne_of_none (f.at_ q hq).1 hn
        exact ⟨s' _ _ (f.at_ q hq).1, by rw [upd_ne np]; exact (f.at_ q hq).2⟩
      . have hap : a ≠ p := fun z => h2 (by rw [z]; exact hn)
        refine ⟨by rw [upd_ne hap]; exact h1, ?_, h3⟩
        cases hh : H a with
        | none => exact absurd hh h2
        | some o => exact s' _ _ hh
    . cases h
  . obtain ⟨a, vs, rfl, ha, za⟩ := hx.lst_inv
    rename_i ds
    cases q : M.bA' ds with
    | none =>
      simp only [M.cC', q] at h
      obtain ⟨cs, h1, h2⟩ := Option.bind_eq_some_iff.mp h
      split at h2
      . rename_i hl
        cases h2
        obtain ⟨e2, hc⟩ := iO' za h1
        refine .inr (.inr ⟨a, cs.map iQ', rfl, by rw [<- e2]; exact SqL.of (f.low _ _ ha), by rw [List.length_map]; exact hl, fun ys p hp hs hn => ?_⟩)
        obtain ⟨l', rfl, p'⟩ := iJ' hp
        rw [iB' p' (c0' l' hs)]
        have z : FzA K F T (((M.bK' cs).map iQ').map V.str) ((M.bK' cs).map M.chD) := by
          rw [List.map_map]
          exact FzA.chars fun c hc' => hc c (fq'.mp hc')
        exact k.newL f z hn
      . cases h2
    | some ns =>
      simp only [M.cC', q] at h
      cases h
      refine .inr (.inl ⟨a, ns, rfl, by rw [<- iX' za q]; exact SqL.of (f.low _ _ ha), fun ns' p hp hs hn => ?_⟩)
      rw [no' hp hs]
      exact k.newL f (FzA.rgI _) hn
theorem nC' {p : Nat -> Bool} {n i : Nat} (h : p i = true) (hi : i < n) (hm : ∀ k, k < i -> p k = false) : (List.range n).find? p = some i := by
  rw [List.find?_eq_some_iff_getElem]
  refine ⟨h, i, by simpa using hi, by simp, fun j hj => ?_⟩
  rw [List.getElem_range, hm j hj]
  rfl
end
section
variable {X : Cx} {W : WX} {pos p pos' : Pos} {a b e : Expr} {ma mb : M.ME} {mo : M.MO} {σ : St} {H : Hp} {Q : VK}
theorem fv' {x : Str} (t : String) (ht : t ∈ ["bool", "int", "str", "tuple", "list", "dict"]) (hg : Gl X x) (hm : X.mg x = none) (hv : bootBuiltins x = some (.builtin "isinstance")) (ha : SE X W a ma) (hb : PE X b (tC (.ty t))) (hn : x ≠ "__name__" := by decide) (hdb : (x == ("__debug__" : Str)) = false := by decide)
    (he : starEach [a, b] X.env = (false, eval a X.env) :: starEach [b] X.env := by rfl) (he2 : starEach [b] X.env = (false, eval b X.env) :: starEach [] X.env := by rfl) (hpl : (backTo pos (starEach [b] X.env)).any (·.1) = false := by rfl) : SE X W (.Call (.Name x p) [a, b] [] pos) (M.eUn (M.bs' t) ma) :=
  PE.imp (pe_callB call_isi hg hm hv (pa_cons ha (pa_cons hb pa_nil he2) he) hn hdb he hpl) fun σ H Q ⟨ρ, F, T, fr, rel, h⟩ => by
    refine aD' rel h fun dx ρ1 v H1 F1 T1 e1 z1 r1 h1 => ?_
    obtain ⟨dz, ez, q⟩ := aS'.ofO h1
    unfold M.bs' at ez
    cases eq : M.tyn dx with
    | none => rw [eq] at ez; cases ez
    | some n =>
      rw [eq] at ez
      cases ez
      obtain ⟨fp, f, _⟩ := r1.fp
      exact wy' (tp' f.low z1 eq) (kit_ty (q9' n (qg' eq) t ht)) (q _ H1 F1 T1 e1 (.bl _) r1)
theorem qo' : SO X W (.Dict [] [] pos) M.nJ' := PE.imp pe_dnewK fun σ H Q ⟨ρ, F, T, fr, rel, h⟩ => fun p hp => by
  have z : Rp X.K F T (.ref p) (.dct [] []) [(p, .dK [])] := Rp.dct (kvs := []) .nil .nil
  exact h (.ref p) _ F T _ .refl z (rel.own hp)
end
end S
namespace S
open PySem PySem.Spec PyProof.Rows L2
variable [Wd] [Hot]
section
variable {X : Cx} {W : WX} {K : PySem.W.Frag} {D : Ends} {σ : St} {H : Hp} {F : Hp} {T : List Addr} {fr : Fp}
abbrev Hm := List ((String -> Option Bool) × (M.Exc -> M.MS))
def tsM (K : PySem.W.Frag) (h : M.Exc -> M.MS) : Addr -> Value -> Option Addr -> TS := fun _ cls _ D σ H => ∃ e : M.Exc, cls = .ref (He.ga K e.cls) /\ qS K W0 (h e) D σ H
inductive HdsM (X : Cx) : List ExceptHandler -> Hm -> List (Value × (Addr -> Value -> Option Addr -> TS)) -> Prop
  | nil : HdsM X [] [] []
  | cons {x : Str} {c : Value} {g : String -> Option Bool} {h : M.Exc -> M.MS} {b₀ : Stmt} {suite : List Stmt} {np pos' : Pos} {hds : List ExceptHandler} {l : Hm} {l' : List (Value × (Addr -> Value -> Option Addr -> TS))} (hc : Names X x c)
      (hg : ∀ y b, g y = some b -> PySem.W.exmOne X.K (.ref (He.ga X.K y)) c = some b)
      (hsu : ∀ (e : M.Exc) (a : Addr) (oe : Obj) (d : Option Addr) (pn : List (Addr × Obj)), Zc (.ref (He.ga X.K e.cls)) d oe -> (∃ vs, oe.data = .fields vs) -> SSs (X.suite a ((a, oe) :: pn)) W0 (b₀ :: suite) (h e)) (r : HdsM X hds l l') :
      HdsM X (.ExceptHandler (some (.Name x np)) none (b₀ :: suite) pos' :: hds) ((g, h) :: l) ((c, tsM X.K h) :: l')
theorem ix' {h : M.Exc -> M.MS} {b : List Stmt} (hsu : ∀ (e : M.Exc) (a : Addr) (oe : Obj) (d : Option Addr) (pn : List (Addr × Obj)), Zc (.ref (He.ga X.K e.cls)) d oe -> (∃ vs, oe.data = .fields vs) -> SSs (X.suite a ((a, oe) :: pn)) W0 b (h e)) :
    ∀ (a : Addr) (oe : Obj) (cls : Value) (d : Option Addr) (pn : List (Addr × Obj)), Zc cls d oe -> (∃ vs, oe.data = .fields vs) -> PSs (X.suite a ((a, oe) :: pn)) b (tsM X.K h a cls d) := by
  intro a oe cls d pn hz hf
  refine ⟨fun pins s σ H D I q => ?_⟩
  obtain ⟨e, rfl, q⟩ := q
  exact (hsu e a oe d pn hz hf).run pins s σ H D I q
theorem HdsM.ok {hds : List ExceptHandler} {l : Hm} {l' : List (Value × (Addr -> Value -> Option Addr -> TS))} (h : HdsM X hds l l') : HdsOk X hds l' := by
  induction h with
  | nil => exact .nil
  | cons hc hg hsu r ih => exact .cons hc (ix' hsu) ih
theorem a6'.noX {r : M.Out} (h : a6' K W D F T fr (M.sr' r)) : a6' K W0 D F T fr r := by
  cases r with
  | exc x ρ => exact h.elim
  | nx ρ => exact h
  | bk ρ => exact h
  | ct ρ => exact h
  | rt o w => exact h
  | bad => exact h
theorem nX' {hds : List ExceptHandler} {l : Hm} {l' : List (Value × (Addr -> Value -> Option Addr -> TS))} (hm : HdsM X hds l l') {x : M.Exc} {ρ : M.PSt} (h : a6' X.K W D F T fr (M.hds l x ρ)) :
    ∀ cls dd H' F' T', Ext F T F' T' -> XcR X.K F' T' x cls dd -> Rel X.K ρ σ H' F' T' fr -> wMany X.K W D l' cls dd σ H' := by
  induction hm with
  | nil => exact fun cls dd H' F' T' e z r => h σ cls dd H' F' T' e z r
  | @cons x0 c g hh b₀ suite np pos' hds l l' hc hg hsu r ih =>
    intro cls dd H' F' T' e z rel
    have ec := z.1
    subst ec
    unfold M.hds at h
    cases eg : g x.cls with
    | none => rw [eg] at h; exact h.elim
    | some b =>
      rw [eg] at h
      refine ⟨b, hg _ _ eg, fun hb a ha => ?_, fun hb => ?_⟩
      . subst hb
        exact ⟨x, rfl, ρ, F', T', fr, rel, a6'.mono (a6'.noX h) e⟩
      . subst hb
        exact ih h _ dd H' F' T' e z rel
theorem tv' {body : List Stmt} {h₀ : ExceptHandler} {hds : List ExceptHandler} {l : Hm} {l' : List (Value × (Addr -> Value -> Option Addr -> TS))} {pos : Pos} {mb : M.MS} (hs : X.stack = X.env :: X.outer) (hf : X.env.frame = some X.env.locals) (tk : Takes X W)
    (hb : ∀ (W : WX) (pn : List (Addr × Obj)) (xe : Value -> Shared -> Prop), Takes (X.tr pn xe) W -> PassesOwn (model X.prog X.w) X.A X.env xe -> SSs (X.tr pn xe) W body mb)
    (hh : HdsM X (h₀ :: hds) l l') : SS X W (.Try body (h₀ :: hds) [] [] pos) (M.sn' mb l) :=
  PS.imp (ps_try_many (tb := fun W => qS X.K W mb) hs hf tk hb hh.ok) fun D σ H ⟨ρ, F, T, fr, rel, h⟩ => by
    refine ⟨ρ, F, T, fr, rel, ?_⟩
    unfold M.sn' at h
    cases e : mb ρ with
    | nx ρ1 => rw [e] at h; exact h
    | bk ρ1 => rw [e] at h; exact h
    | ct ρ1 => rw [e] at h; exact h
    | rt o w => rw [e] at h; exact h
    | exc x ρ1 => rw [e] at h; exact fun σ' cls dd H' F' T' e z r => nX' hh h cls dd H' F' T' e z r
    | bad => rw [e] at h; exact h
theorem Rel.off {K : PySem.W.Frag} {ρ : M.PSt} (r : Rel K ρ σ H F T fr) (i : Nat) (x : Option V) : Rel K ⟨ρ.env.set i none, ρ.w⟩ (σ.set i x) H F T fr := by
  obtain ⟨fe, fw, re, rw, f⟩ := r
  obtain ⟨fq, h1, h2⟩ := re.drop i x
  exact ⟨fq, fw, h1, rw, f.part (.app h2 .refl)⟩
end
def vJ' (K : PySem.W.Frag) (t : M.ET) : Prop := ∀ e ∈ t, PySem.W.exmOne K (.ref (He.ga K e.1)) (.ref (He.ga K e.2.1)) = some e.2.2
theorem lg' {K : PySem.W.Frag} : ∀ {t : M.ET} (h : vJ' K t) {y c : String} {b : Bool}, M.sub t y c = some b -> PySem.W.exmOne K (.ref (He.ga K y)) (.ref (He.ga K c)) = some b
  | [], _, _, _, _, e => by cases e
  | (a, b', r) :: t, h, y, c, b, e => by
    unfold M.sub at e
    split at e
    . rename_i q
      obtain ⟨rfl, rfl⟩ := q
      cases e
      exact h _ List.mem_cons_self
    . exact lg' (fun e he => h e (List.mem_cons_of_mem _ he)) e
end S
namespace S
open PySem PySem.Spec PyProof.Rows L2
variable [Wd] [Hot]
section
variable {X : Cx} {W : WX} {pos p : Pos} {a b e : Expr} {st : Stmt} {es : List Expr} {ma mb : M.ME} {as : M.MA}
theorem sl' {i : Nat} (h : PE X e (tVar i)) : SO X W e (M.oV i) := PE.imp h fun σ H Q ⟨ρ, F, T, fr, rel, h⟩ => by
  unfold M.oV at h
  split at h
  . rename_i d e
    obtain ⟨fe, fw, re, rw, f⟩ := id rel
    obtain ⟨v, f1, f2, f3, h1, rfl, h3, h4, h5⟩ := re.get e
    cases h3 with
    | fz z => exact ⟨v, h1, h v H F T [] .refl (.fz z) rel⟩
  . exact h.elim
  . exact h.elim
  . rename_i o _ hne hnc e
    obtain ⟨fe, fw, re, rw, f⟩ := rel
    obtain ⟨v, f1, f2, f3, h1, rfl, h3, h4, h5⟩ := re.get e (M.ld' (fun z => hne (by rw [z])) fun z => hnc (by rw [z]))
    refine ⟨v, h1, h v H F T f2 .refl h3 ⟨_, fw, h4, rw, f.part ?_⟩⟩
    constructor
    . intro e h
      simp only [List.mem_append] at *
      grind
    . intro x
      simp only [keys, List.map_append, List.count_append] at *
      omega
  . exact h.elim
theorem o1' (h : SA X W es as) : SO X W (.List es pos) (M.sq' (M.mL' as)) := PE.imp (pe_lst h) fun σ H Q ⟨ρ, F, T, fr, rel, h⟩ => by
  have h0 := aS'.bind h
  refine cB' rel h0 fun ds ρ1 vs H1 F1 T1 e1 z1 r1 h1 => ?_
  split at h1
  . rename_i hl
    refine ⟨by rw [z1.length, bl']; exact hl, fun p hp => ?_⟩
    exact h1 (.ref p) _ F1 T1 _ e1 (.lst (RpA.of_fz z1)) (r1.own hp)
  . exact h1.elim
end
section
variable {K : PySem.W.Frag} {F : Hp} {T : List Addr}
theorem rh' {a : Addr} {vs : List V} {ds : List M.D} (ha : F a = some (.lst vs)) (z : FzA K F T vs ds) : go' K (Itv K a vs.length) ds.reverse F T := fun F' T' H' fp i e f hi => by
  have h' : SqL K H' a vs := SqL.of (f.low _ _ (e.f.lst ha))
  rw [List.length_reverse] at hi ⊢
  refine ⟨fun q => by show vs.length <= i; rw [z.length]; omega, fun d hd => ?_⟩
  have hl : i < ds.length := by
    have := (List.getElem?_eq_some_iff.mp hd).1
    rwa [List.length_reverse] at this
  rw [List.getElem?_reverse hl] at hd
  obtain ⟨v, h1, h2⟩ := z.get hd
  have h1' : vs[vs.length - 1 - i]? = some v := by rw [z.length]; exact h1
  refine ⟨⟨by rw [z.length]; exact hl, vs, v, h', h1'⟩, fun x H2 y => ?_⟩
  obtain ⟨rfl, y⟩ := y
  have := y vs h'
  rw [h1'] at this
  cases this
  exact ⟨F', fun _ _ e => e, h2.mono e, f⟩
theorem rg' {a : Addr} {vs : List V} {ds : List M.D} (ha : SqT K F a vs) (z : FzA K F T vs ds) : go' K (RT.ItvT K a vs.length) ds.reverse F T := fun F' T' H' fp i e f hi => by
  have h' : SqT K H' a vs := seqT f.low (e.f.seqT ha)
  rw [List.length_reverse] at hi ⊢
  refine ⟨fun q => by show vs.length <= i; rw [z.length]; omega, fun d hd => ?_⟩
  have hl : i < ds.length := by
    have := (List.getElem?_eq_some_iff.mp hd).1
    rwa [List.length_reverse] at this
  rw [List.getElem?_reverse hl] at hd
  obtain ⟨v, h1, h2⟩ := z.get hd
  have h1' : vs[vs.length - 1 - i]? = some v := by rw [z.length]; exact h1
  refine ⟨⟨by rw [z.length]; exact hl, vs, v, h', h1'⟩, fun x H2 y => ?_⟩
  obtain ⟨rfl, y⟩ := y
  have := y vs h'
  rw [h1'] at this
  cases this
  exact ⟨F', fun _ _ e => e, h2.mono e, f⟩
end
section
variable {X : Cx} {W : WX} {pos p tpos : Pos} {a : Expr} {ma : M.ME} {σ : St} {H : Hp} {elts : List Expr} {kk : Nat}
theorem tz' {tg : Expr} (hg : Gl X "reversed") (hm : X.mg "reversed" = none) (h : SE X W a ma) (hs : starEach [a] X.env = (false, eval a X.env) :: starEach [] X.env := by rfl) : SI X W tg (.Call (.Name "reversed" p) [a] [] pos) (M.uF' ma) :=
  PI.imp (RT.pi_revA hg hm h hs) fun σ H R ⟨ρ, F, T, fr, rel, q⟩ => by
    refine aD' rel q fun dx ρ1 v H1 F1 T1 e1 z1 r1 h1 => ?_
    obtain ⟨ds, e2, q2⟩ := aS'.ofO h1
    obtain ⟨fp, f, _⟩ := r1.fp
    cases dx <;> try (cases e2; done)
    . cases e2
      obtain ⟨p, vs, rfl, ha, za⟩ := z1.tup_inv
      exact ⟨p, vs, rfl, .inr ⟨seqT f.low ha, q2 _ _ _ _ e1 (rg' ha za) r1⟩⟩
    . cases e2
      obtain ⟨p, vs, rfl, ha, za⟩ := z1.lst_inv
      exact ⟨p, vs, rfl, .inl ⟨SqL.of (f.low _ _ ha), q2 _ _ _ _ e1 (rh' ha za) r1⟩⟩
end
theorem uH' {K : PySem.W.Frag} {F : Hp} {T : List Addr} {x : Str} {s : M.Tx} (hs : x = sx s) (ho : uh' s = true) : Fz K F T (.str x) (.str s) := by subst hs; exact .str (lJ' ho)
end S
namespace S
open PySem PySem.Spec PyProof.Rows L2
variable [Wd] [Hot]
section
variable {X : Cx} {W : WX} {K : PySem.W.Frag} {pos p : Pos} {a b : Expr} {ma : M.ME} {F H : Hp} {T : List Addr}
end
def su' [Wd] (H : Hp) : Hp := fun b => if b ∈ Wd.ts.map (·.1) then none else H b
theorem lO' [Wd] (H : Hp) : Same (su' H) H := fun b o h => by
  unfold su' at h
  split at h
  . cases h
  . exact h
theorem lP' [Wd] {H : Hp} (hT : ∀ p ∈ Wd.ts, H p.1 = some (.tbl #[])) {b : Addr} {o : HO} (h : H b = some o) (ho : o ≠ .tbl #[]) : su' H b = some o := by
  unfold su'
  rw [if_neg fun z => ?_]
  . exact h
  . obtain ⟨p, hp, e⟩ := List.mem_map.mp z
    have := hT p hp
    rw [e, h] at this
    exact ho (Option.some.inj this)
theorem nO' [Wd] {K : PySem.W.Frag} {H : Hp} (hT : ∀ p ∈ Wd.ts, H p.1 = some (.tbl #[])) {a : Addr} {vs : List V} (h : SqL K H a vs) : SqL K (su' H) a vs := by
  rcases h with (h | ⟨o, h⟩) | h
  . exact .inl (.inl (lP' hT h (by intro z; cases z)))
  . exact .inl (.inr ⟨o, lP' hT h (by intro z; cases z)⟩)
  . exact .inr h
theorem l0' [Wd] (K : PySem.W.Frag) (H : Hp) (hT : ∀ p ∈ Wd.ts, H p.1 = some (.tbl #[])) (a : Addr) (ns : List Int) (hn : ns.length <= 63) (hs : SqL K H a (ns.map V.int)) {m : M.MF} (h : ∀ ns : List Int, ns.length <= 63 -> ∃ w, m [.scr (ns.map .int)] [] = .ok (.fz (.bl true)) w) :
    spM K m [.ref a] H (fun v _ => v = .bl true) L2.E0 := by
  obtain ⟨w, e⟩ := h ns hn
  refine ⟨[.scr (ns.map .int)], [], su' H, [], [], .cons (.scr (nO' hT hs) (FzA.rgI ns)) .nil, ⟨[], [], xr', .nil, ⟨lO' H, fun _ h => (nomatch h), .nil, fun p hp => ⟨if_pos (List.mem_map_of_mem hp), fun _ h => (nomatch h), #[], hT p hp, True.intro, fun pos cv hc => ?_⟩⟩⟩, ?_⟩
  . have z : codeAmong pos [] = some cv := hc
    simp [codeAmong] at z
  rw [e]
  intro v H' F' T' fp _ z _
  cases z with
  | fz z => exact z.bl_inv
end S
namespace S
open PySem PySem.Spec PyProof.Rows L2
variable [Wd] [Hot]
section
variable {X : Cx} {W : WX} {K : PySem.W.Frag} {cpos apos p : Pos} {name : Str} {id T : String} {o e : Expr} {es : List Expr} {mo : M.ME} {as : M.MA} {σ : St} {H : Hp} {Q : VK}
end
end S
namespace S
open PySem PySem.Spec PyProof.Rows L2
variable [Wd] [Hot]
section
variable {X : Cx} {W : WX} {K : PySem.W.Frag}
theorem FzA.two {F : Hp} {T : List Addr} {xs : List V} {d e : M.D} (h : FzA K F T xs [d, e]) : ∃ v u, xs = [v, u] /\ Fz K F T v d /\ Fz K F T u e := by
  cases h with
  | cons a r =>
    cases r with
    | cons b r => cases r; exact ⟨_, _, rfl, a, b⟩
theorem gI' (s : M.Tx) (v : Nat) : (sx s).cps.getD v 0 = (s[v]?).getD 0 := by
  show s.toArray.getD v 0 = _
  simp [Array.getD_eq_getD_getElem?]
end
end S
namespace S
open PySem PySem.Spec PyProof.Rows L2
variable [Wd] [Hot]
section
variable {P : Program} {w : World} {K : PySem.W.Frag} {mg : Str -> Option Value} {base : Heap}
theorem okB {x qual : Str} {st : Stmt} {f : Addr} {fd : FuncData} {N ps : List Str} {k : Nat} (F : FunD K x qual (defArgs st) (defBody st) (defScope st) [] [] f fd) (S : FnScope N ps (defScope st)) :
    FnG P w K mg base (L2.CX P w) (k + 1) f fd ps (spM K fun _ _ => .bad) := by
  refine uM' F S (fun vs H Q E h => ?_) fun cdv A outer s H vs Q E hr h => ?_
  . obtain ⟨ds, w', F', T, fr, za, rel, h⟩ := h
    exact h.elim
  . obtain ⟨ds, w', F', T, fr, za, rel, h⟩ := h
    exact h.elim
end
section
variable {X : Cx} {W : WX} {K : PySem.W.Frag}
end
end S
namespace S
open PySem PySem.Spec PyProof.Rows L2
variable [Wd] [Hot]
local macro_rules | `(tactic| walk_at "parts") => `(tactic| (constructor; (intro e h; simp only [List.mem_append, List.mem_cons, List.not_mem_nil] at *; grind); (intro x; simp only [keys, List.map_append, List.map_cons, List.map_nil, List.count_append, List.count_cons, List.count_nil] at *; omega)))
section
variable {K : PySem.W.Frag} {F F' H H' : Hp} {T T' : List Addr} {fp fq fr : Fp} {ρ : M.PSt} {σ : St} {W : WX} {Q : VK}
theorem RpA.dget {vs : List V} {os : List M.O} {ks : List M.D} {dk : M.D} (h : RpA K F T vs os fp) : (M.dget ks vs dk).isSome = (M.dget ks os dk).isSome /\ ∀ d, M.dget ks os dk = some (.fz d) -> ∃ u, M.dget ks vs dk = some u /\ Fz K F T u d := by
  unfold M.dget
  cases M.sw' ks dk with
  | none => exact ⟨rfl, fun d e => nomatch e⟩
  | some j =>
    simp only [Option.bind_some]
    refine ⟨?_, fun d e => h.get e⟩
    rw [Bool.eq_iff_iff, Option.isSome_iff_exists, Option.isSome_iff_exists]
    constructor
    . rintro ⟨x, e⟩
      exact ⟨_, List.getElem?_eq_getElem (h.length ▸ (List.getElem?_eq_some_iff.mp e).1)⟩
    . rintro ⟨x, e⟩
      exact ⟨_, List.getElem?_eq_getElem (h.length ▸ (List.getElem?_eq_some_iff.mp e).1)⟩
end
section
variable {X : Cx} {W : WX} {pos tpos : Pos} {a b o i : Expr} {ma mb mo mi : M.ME} {σ : St} {H : Hp} {Q : VK}
end
end S
namespace S
open PySem PySem.Spec PyProof.Rows L2
variable [Wd] [Hot]
section
variable {K : PySem.W.Frag} {F F' H H' : Hp} {T T' : List Addr} {fp fq fr : Fp} {ρ : M.PSt} {σ : St} {W : WX} {Q : VK}
theorem Wk.frz {a : Addr} {o : Obj} {u : HO} (s : Wk F F') (h : F a = some (.frz o u)) : F' a = some (.frz o u) := s.at_ h fun _ e => nomatch e
end
section
variable {X : Cx} {W : WX} {tg a : Expr} {ma : M.ME} {apos cpos : Pos}
end
section
variable {K : PySem.W.Frag} {F F' H H' : Hp} {T T' : List Addr} {fp fq fr : Fp} {ρ : M.PSt} {σ : St} {W : WX}
end
section
variable {X : Cx} {W : WX} {pos : Pos} {kx vx tg iter : Expr} {ifs : List Expr} {scope : Scope} {own : List (Str × Nat)} {sl : List Nat} {it : M.MI} {g : M.MG} {t : M.MT} {ek ev : M.ME}
end
section
variable {K : PySem.W.Frag}
end
section
variable {X : Cx} {W : WX} {e : Expr} {te : TE} {apos cpos pos p : Pos} {me : M.ME}
end
end S
namespace S
open PySem PySem.Spec PyProof.Rows L2
variable [Wd] [Hot]
section
variable {K : PySem.W.Frag} {F H : Hp} {T : List Addr}
end
section
variable {K : PySem.W.Frag} {F H : Hp} {T : List Addr}
theorem FzA.keys : ∀ {kvs : List (Key × V)}, mB' kvs -> FzA K F T (kvs.map fun p => kV p.1) (kvs.map fun p => kD p.1)
  | [], _ => .nil
  | (k, v) :: r, h => by
    have hk := h (k, v) (List.mem_cons_self ..)
    refine .cons ?_ (FzA.keys fun p hp => h p (List.mem_cons_of_mem _ hp))
    cases k with
    | inl i => exact .int i
    | inr x =>
      have : Fz K F T (.str (sx x.cps.toList)) (.str x.cps.toList) := .str hk
      exact this
theorem FzA.len : ∀ {vs : List V} {ds : List M.D}, FzA K F T vs ds -> vs.length = ds.length
  | _, _, .nil => rfl
  | _, _, .cons _ r => congrArg (· + 1) (FzA.len r)
def kP : Key -> PyData := fun k => py (kD k)
inductive Dq0 (K : PySem.W.Frag) (H : Hp) : V -> PyData -> Prop
  | dp {v : V} {d : PyData} : Dp K H v d -> d.hasDict = false -> Dq0 K H v d
  | dct {a : Addr} {kvs : List (Key × V)} {ds : List M.D} : Rd H a (.dK kvs) -> mB' kvs -> DpAll K H (kvs.map (·.2)) (pys ds) -> ds.all M.lX' = true -> Dq0 K H (.ref a) (.dict ((pys (kvs.map fun p => kD p.1)).zip (pys ds)))
inductive LqAll (K : PySem.W.Frag) (H : Hp) : List V -> List M.D -> Prop
  | nil : LqAll K H [] []
  | leaf {v : V} {d : M.D} {vs : List V} {ds : List M.D} : Dp K H v (py d) -> M.lX' d = true -> LqAll K H vs ds -> LqAll K H (v :: vs) (d :: ds)
  | emp {a : Addr} {vs : List V} {ds : List M.D} : Rd H a (.dK []) -> LqAll K H vs ds -> LqAll K H (.ref a :: vs) (.dct [] [] :: ds)
inductive Dq (K : PySem.W.Frag) (H : Hp) : V -> PyData -> Prop
  | old {v : V} {d : PyData} : Dq0 K H v d -> Dq K H v d
  | tupE {a : Addr} {vs : List V} {ds : List M.D} : SqT K H a vs -> LqAll K H vs ds -> Dq K H (.ref a) (.tuple (pys ds))
end
section
variable {X : Cx} {pins : List (Addr × Obj)} {σ : St} {H : Hp} {s : Shared}
theorem cE' (I : Inv X pins σ H s) {d : M.D} {v : V} {u : Value} (l : M.lX' d = true) (h : Dp X.K H v (py d)) (r : RelV v u) : Reads s.heap u (py d) [] := by
  cases d with
  | non => cases h; cases r; exact .none
  | bl b => cases h; cases r; exact .bool b
  | int i => cases h; obtain ⟨t, rfl⟩ := r; exact .int i t
  | str x => cases h; obtain ⟨t, rfl⟩ := r; exact .str _ t
  | _ => cases l
theorem ee' (I : Inv X pins σ H s) : ∀ {kvs : List (Key × V)} {vs : List (Key × Value)} {ds : List M.D}, KV kvs vs -> DpAll X.K H (kvs.map (·.2)) (pys ds) -> ds.all M.lX' = true →
    PyProof.V.PairsRead s.heap kP vs ((pys (kvs.map fun p => kD p.1)).zip (pys ds)) []
  | _, _, [], .nil, _, _ => .nil
  | _, _, _ :: _, .nil, h, _ => by cases h
  | _, _, [], .cons _ _, h, _ => by cases h
  | (k, v) :: kvs, (k', u) :: vs, d :: ds, .cons hr hp, h, l => by
    obtain ⟨he, hr⟩ := hr
    have he : k = k' := he
    subst he
    rw [List.all_cons, Bool.and_eq_true] at l
    cases h with
    | cons h1 h2 =>
      have := PyProof.V.PairsRead.cons (enc := kP) (k := k) (cE' I l.1 h1 hr) (ee' I hp h2 l.2)
      exact this
theorem Dq0.reads (I : Inv X pins σ H s) {d : PyData} {v : V} {u : Value} (h : Dq0 X.K H v d) (r : RelV v u) : ∃ as, Reads s.heap u d as /\ (d.hasDict = true -> sysModules ∉ as) := by
  cases h with
  | dp dp e =>
    obtain ⟨as, rd⟩ := Dp.reads I d v u dp r
    exact ⟨as, rd, PyData.noDict_hsm e⟩
  | @dct a kvs ds e k dd l =>
    cases r
    obtain ⟨_, hs, vs, rk, hd⟩ := dk_rd I.hok e
    refine ⟨[a], PyProof.V.reads_dictOf (enc := kP) (fun k key hk => ?_) hd (ee' I rk dd l), fun _ hm => ?_⟩
    . rcases keyIs_shape hk with ⟨i, t, rfl, rfl⟩ | ⟨x, t, rfl, rfl⟩
      . exact .int i t
      . exact .str _ t
    . have := List.mem_singleton.mp hm
      rw [<- this] at hs
      simp at hs
theorem nP' (I : Inv X pins σ H s) : ∀ {vs : List V} {us : List Value} {ds : List M.D}, LqAll X.K H vs ds -> Vals vs us -> ∃ as, ReadsAll s.heap us (pys ds) as /\ sysModules ∉ as := by
  intro vs us ds h
  induction h generalizing us with
  | nil =>
    intro r
    cases r
    exact ⟨[], .nil, by simp⟩
  | leaf h1 h2 _ ih =>
    intro r
    cases r with
    | cons r1 r2 =>
      obtain ⟨bs, q2, q3⟩ := ih r2
      exact ⟨_, .cons (cE' I h2 h1 r1) q2, by simpa using q3⟩
  | emp h1 _ ih =>
    intro r
    cases r with
    | cons r1 r2 =>
      obtain ⟨bs, q2, q3⟩ := ih r2
      obtain ⟨as, q1, q4⟩ := Dq0.reads I (Dq0.dct (ds := []) h1 (fun p hp => by cases hp) .nil rfl) r1
      exact ⟨_, .cons q1 q2, by
        rw [List.mem_append]
        rintro (h | h)
        . exact q4 rfl h
        . exact q3 h⟩
theorem Dq.reads (I : Inv X pins σ H s) {d : PyData} {v : V} {u : Value} (h : Dq X.K H v d) (r : RelV v u) : ∃ as, Reads s.heap u d as /\ (d.hasDict = true -> sysModules ∉ as) := by
  cases h with
  | old h => exact h.reads I r
  | tupE hs la =>
    cases r
    obtain ⟨its, rv, ⟨o, ho, hc, n, hd⟩, _⟩ := I.tuple hs
    obtain ⟨as, hr, hm⟩ := nP' I la rv
    exact ⟨_, Reads.tuple ho hc hd hr, fun _ => hm⟩
end
def rRep (K : PySem.W.Frag) : List V -> Hp -> VK -> Prop := fun xs H Q => ∃ v d, xs = [v] /\ Dq K H v d /\ d.showable = true /\ d.depth <= 40 /\ d.shown.length <= sizeLine /\ Q (.str d.shown) H
section
variable {X : Cx}
end
section
variable {K : PySem.W.Frag}
end
end S
namespace S
open PySem PySem.Spec PyProof.Rows L2
variable [Wd] [Hot]
local macro_rules | `(tactic| walk_at "parts") => `(tactic| (constructor; (intro e h; simp only [List.mem_append, List.mem_cons, List.not_mem_nil] at *; grind); (intro x; simp only [keys, List.map_append, List.map_cons, List.map_nil, List.count_append, List.count_cons, List.count_nil] at *; omega)))
section
variable {K : PySem.W.Frag} {σ : St} {H : Hp} {Q : VK} {W : WX}
end
section
variable {X : Cx} {W : WX} {pos p : Pos} {a b e : Expr} {ma mb : M.ME} {mo : M.MO} {k : Nat} {args : List Str} {mf : M.MF}
end
end S
namespace S
open PySem PySem.Spec PyProof.Rows L2
variable [Wd] {cc : List (Nat × CloD)}
abbrev xs' (a : Addr) (n : Nat) (dd : Option Addr) (x : M.Exc) (cs : List (Nat × CloD) := []) : Hot := ⟨some (a, n, dd, x), cs⟩
section
variable {K : PySem.W.Frag} {F H : Hp} {T : List Addr} {fp fr : Fp} {σ : St} {env : List (Option M.O)} {a : Addr} {n i : Nat} {dd : Option Addr} {x : M.Exc}
theorem RpE.cool (r : @RpE _ K (xs' a n dd x cc) F T σ env fp) (hl : env.length <= n) : @RpE _ K (mw' cc) F T σ env fp := by
  induction r with
  | nil => exact @RpE.nil _ K (mw' cc) F T
  | off _ ih => exact @RpE.off _ K (mw' cc) F T _ _ _ _ (ih (by simp at hl; omega))
  | on q _ ih => exact @RpE.on _ K (mw' cc) F T _ _ _ _ _ _ q (ih (by simp at hl; omega))
  | hot z _ _ _ =>
    have := (Prod.mk.inj (Prod.mk.inj (Option.some.inj z)).2).1
    simp at hl
    omega
  | clo z y _ ih => exact @RpE.clo _ K (mw' cc) F T _ _ _ _ z y (ih (by simp at hl; omega))
end
section
variable {X : Cx} {W : WX} {K : PySem.W.Frag} {D : Ends} {σ : St} {H : Hp} {F : Hp} {T : List Addr} {fr : Fp}
def tsA (cc : List (Nat × CloD)) (K : PySem.W.Frag) (n : Nat) (h : M.Exc -> M.MS) : Addr -> Value -> Option Addr -> TS := fun a cls d D σ H => ∃ e : M.Exc, cls = .ref (He.ga K e.cls) /\ @qS _ (xs' a n d e cc) K W0 (h e) D σ H
end
section
variable {X : Cx} {W : WX} {pos p : Pos} {a b : Expr}
end
end S
namespace S
open PySem PySem.Spec PyProof.Rows L2
section
variable {prog : Program} {w : World} {A : Around} {E : Value -> Shared -> Prop} {s : Shared} {K : PySem.W.Frag} {x C L f : Addr} {h₀ : Heap} {m : Str -> Option Value} {ox : Obj} {od : Option Obj} {b tb : Value}
open PySem.W in
end
end S
namespace S
open PySem PySem.Spec PyProof.Rows L2
variable [Wd] [Hot]
section
variable {K : PySem.W.Frag} {σ : St} {H : Hp} {Q : VK} {W : WX}
end
section
variable {X : Cx} {W : WX} {pos : Pos} {a b : Expr} {ma mb : M.ME} {k : Nat} {args : List Str} {mf : M.MF}
end
end S
namespace S
open PySem PySem.Spec PyProof.Rows L2
variable [Wd] [Hot]
def yC' (z : Str) : Str := ⟨z.cps.toList.reverse.toArray⟩
def w9' (K : PySem.W.Frag) : V -> Hp -> VK -> Prop := fun x H Q => (∃ z, x = .str z /\ z.length <= sizeLine /\ Q (.str (yC' z)) H) \/ (∃ a xs, x = .ref a /\ SqL K H a xs /\ ∀ p, H p = none -> Q (.ref p) (upd H p (.lst xs.reverse)))
theorem jD' {lo up by' : Value} (h1 : IsPart lo none) (h2 : IsPart up none) (h3 : IsPart by' (some (-1))) : lo = .none /\ up = .none /\ ∃ tk, by' = .int (-1) tk := by
  have no : ∀ {v : Value}, IsPart v none -> v = .none := fun {v} q => by
    obtain ⟨r, rfl, z⟩ := IsPart.raw q
    cases r with
    | none => rfl
    | some r => cases z
  obtain ⟨r, rfl, z⟩ := IsPart.raw h3
  cases r with
  | none => cases z
  | some r =>
    obtain ⟨i, tk⟩ := r
    obtain rfl : i = -1 := Option.some.inj z
    exact ⟨no h1, no h2, tk, rfl⟩
def ow' (X : Cx) (e sl : Expr) (r : V -> Hp -> VK -> Prop) : Prop := ∀ (pins : List (Addr × Obj)) (s : Shared) (σ : St) (H : Hp) (x : V) (v lo up by' : Value) (Q : VK), Inv X pins σ H s -> RelV x v -> IsPart lo none -> IsPart up none -> IsPart by' (some (-1)) -> r x H Q →
  Inv X pins σ H { s with heap := s.heap.push { cls := .type "slice", data := .fields #[lo, up, by'] } } →
  wpAny (model X.prog X.w) X.A (subscriptTail e sl v (.ref s.heap.objs.size)) (EP X pins σ Q) X.xe { s with heap := s.heap.push { cls := .type "slice", data := .fields #[lo, up, by'] } }
theorem qP' {X : Cx} {e : Expr} {te : TE} {k : Nat} {p1 p2 p3 pos : Pos} {r : V -> Hp -> VK -> Prop} (he : PE X e te) (tail : ow' X e (.Slice none none (some (.UnaryOp .USub (.Constant (.int 1) k p1) p2)) p3) r) :
    PE X (.Subscript e (.Slice none none (some (.UnaryOp .USub (.Constant (.int 1) k p1) p2)) p3) pos) (fun σ H Q => te σ H fun x H1 => r x H1 Q) := by
  have minus : PO X (some (.UnaryOp .USub (.Constant (.int 1) k p1) p2)) (tPart (tUn (rU fun i => .int (-i)) (tC (.int 1)))) := po_some (pe_un un_neg pe_int)
  -- a part that is left out changes nothing
  have left : ∀ (pins : List (Addr × Obj)) (s : Shared) (σ : St) (H : Hp), Inv X pins σ H s -> _ := fun pins s σ H I => po_none.run pins s σ H (fun o H2 => o = none /\ H2 = H) I ⟨rfl, rfl⟩
  exact ⟨fun pins s σ H Q I want => Subscript_ (thn (he.run pins s σ H _ I want) fun v sa ⟨x, Ha, Ia, rx, wx⟩ => wpAny_Slice (thn (left pins sa σ Ha Ia) fun lo sb ⟨o1, Hb, Ib, q1, z1, y1⟩ => by
    cases z1
    cases y1
    exact thn (left pins sb σ Ha Ib) fun up sc ⟨o2, Hc, Ic, q2, z2, y2⟩ => by
      cases z2
      cases y2
      exact thn (minus.run pins sc σ Ha (fun o H4 => o = some (-1) /\ H4 = Ha) Ic ⟨1, rfl, -1, rfl, rfl, rfl⟩) fun by' sd ⟨o3, Hd, Id, q3, z3, y3⟩ => by
        cases z3
        cases y3
        exact tail pins sd σ Ha x v lo up by' Q Id rx q1 q2 q3 wx (Id.kept (t' := sd.toks) fun _ _ there => Heap.get?_push_of_some _ there)))⟩
theorem qN' {X : Cx} {e : Expr} {te : TE} {k : Nat} {p1 p2 p3 pos : Pos} (he : PE X e te) : PE X (.Subscript e (.Slice none none (some (.UnaryOp .USub (.Constant (.int 1) k p1) p2)) p3) pos) (fun σ H Q => te σ H fun x H1 => w9' X.K x H1 Q) := qP' he fun pins s4 σ H4 x v vl vu vs Q I4 r1 pl pu ps q1 I5 => by
  rcases q1 with ⟨z, rfl, hz, q⟩ | ⟨a, xs, rfl, hx, q⟩
  . obtain ⟨t, rfl⟩ := r1
    show wpAny (model X.prog X.w) X.A (subscriptTail e (.Slice none none (some (.UnaryOp .USub (.Constant (.int 1) k p1) p2)) p3) (.str z t) (.ref s4.heap.objs.size)) (EP X pins σ Q) X.xe { s4 with heap := s4.heap.push { cls := .type "slice", data := .fields #[vl, vu, vs] } }
    refine tail_any (ops := [.str z t, .ref s4.heap.objs.size]) (typeIs_str _ z t) (F.slot_str_getitem.lookup) ?_ (by with_unfolding_all rfl)
    obtain ⟨rfl, rfl, tk, rfl⟩ : vl = .none /\ vu = .none /\ ∃ tk, vs = .int (-1) tk := jD' pl pu ps
    refine wpAny_getItem_str_slice (l := none) (u := none) (st := some (-1, tk)) ⟨_, Heap.get?_push_size _ rfl, rfl, rfl⟩ rfl ?_
    show Made.post (if (((-1 : Int) == 1) && _) = true then Made.val (.str z t) else Made.str ⟨((Builtin.Str.strSliceIndices none none (-1) z.length).filterMap (z.cps[·]?)).toArray⟩) (EP X pins σ Q) _
    rw [if_neg (by simp), picked_rev, PySem.W.krv_range, List.filterMap_reverse]
    rw [show (List.range z.length).filterMap (z.cps[·]?) = z.cps.toList from PySem.W.krv_all z.cps]
    refine ⟨?_, .str _, H4, I5.tok _, ⟨_, rfl⟩, q⟩
    show z.cps.toList.reverse.toArray.size <= sizeLine
    rw [List.size_toArray, List.length_reverse, Array.length_toList]
    exact hz
  . cases r1
    obtain ⟨its, r, ht, hz⟩ := I5.list hx
    have fits : its.toArray.size <= sizeLine := by rw [List.size_toArray, <- r.length]; exact hz
    have laid := I5.laid (t' := s4.toks) (o := .lst xs.reverse) (fun _ _ there => Heap.get?_push_of_some _ there) (Nat.le_refl _) ⟨by rw [List.length_reverse]; exact hz, _, 0, r.reverse, Heap.get?_push_size _ rfl⟩
    exact tail_any (ops := [.ref a, .ref s4.heap.objs.size]) ht.isList.typeIs PySem.slot_list_getitem.lookup
      (wpAny_getItem_list_slice ht.isList (Heap.IsSliceOf.new _ vl vu vs) pl pu ps (by decide) (by
        rw [PySem.W.krv_pick]
        exact ⟨.ref _, _, laid, rfl, q _ (I5.hok.fresh (Nat.le_refl _))⟩) fits) (by with_unfolding_all rfl)
theorem qT' {s : M.Tx} (o : okT s) : okT s.reverse := o.sub (fun c hc => List.mem_reverse.mp hc) (by rw [List.length_reverse]; exact Nat.le_refl _)
section
variable {X : Cx} {W : WX} {a : Expr} {ma : M.ME} {pos p1 p2 p3 : Pos} {k : Nat}
theorem b4' (ha : SE X W a ma) : SE X W (.Subscript a (.Slice none none (some (.UnaryOp .USub (.Constant (.int 1) k p1) p2)) p3) pos) (M.eUn M.jp' ma) :=
  PE.imp (qN' ha) fun σ H Q ⟨ρ, F, T, fr, rel, h⟩ => by
    refine aD' rel h fun dx ρ1 v H1 F1 T1 e1 z1 r1 h1 => ?_
    obtain ⟨dz, ez, q⟩ := aS'.ofO h1
    obtain ⟨fp, f1, back⟩ := r1.fp
    have g : dj' X.K F1 T1 fp dz fun v' H4 => Q v' H4 := fun v' H4 F4 s zz f4 => q v' H4 F4 T1 (e1.trans (.of s)) zz (back H4 F4 s f4)
    cases dx <;> try (cases ez; done)
    . obtain ⟨rfl, o1⟩ := z1.str_inv
      cases ez
      refine .inl ⟨_, rfl, o1.len, ?_⟩
      have e : yC' (sx ‹M.Tx›) = sx (‹M.Tx›.reverse) := ep' (by rfl)
      rw [e]
      exact g.here f1 (.str (qT' o1))
    . obtain ⟨a, vs, rfl, ha, za⟩ := z1.lst_inv
      cases ez
      exact .inr ⟨a, vs, rfl, SqL.of (f1.low _ _ ha), fun p hp => g.newL f1 za.rev hp⟩
end
end S
namespace S
open PySem PySem.Spec PyProof.Rows L2 TL
variable [Wd] [Hot]
section
variable {K : PySem.W.Frag}
end
end S
namespace S
open PySem PySem.Spec PyProof.Rows L2
variable [Wd] [Hot]
section
variable {X : Cx} {W : WX} {K : PySem.W.Frag} {a b : Expr} {ma : M.ME} {pos : Pos}
end
end S
namespace S
open PySem PySem.Spec PyProof.Rows L2
variable [Wd] [Hot]
section
variable {K : PySem.W.Frag} {W : WX} {σ : St} {H : Hp}
end
section
variable {X : Cx} {W : WX} {pos : Pos} {elt tg iter tg1 iter1 : Expr} {ifs ifs1 : List Expr} {scope : Scope} {own : List (Str × Nat)} {sl sl0 sl1 : List Nat} {it it1 : M.MI} {g g1 : M.MG} {t t1 : M.MT} {e : M.ME}
end
end S
namespace S
open PySem PySem.Spec PyProof.Rows L2
end S
namespace S
open PySem PySem.Spec PyProof.Rows L2
variable [Wd] [Hot]
section
variable {K : PySem.W.Frag} {W : WX} {X : Cx} {p pos : Pos} {a b : Expr} {ma mb : M.ME}
end
end S
namespace S
open PySem PySem.Spec PyProof.Rows L2
variable [Wd] [Hot]
section
variable {X : Cx} {W : WX} {K : PySem.W.Frag} {a : Expr} {ma : M.ME} {pos : Pos}
end
end S
namespace S
open PySem PySem.Spec PyProof.Rows L2
variable [Wd] [Hot]
section
variable {K : PySem.W.Frag} {W : WX} {σ : St} {H : Hp}
end
section
variable {X : Cx} {W : WX} {pos px : Pos} {elt tg : Expr} {ifs : List Expr} {scope : Scope} {own : List (Str × Nat)} {sl : List Nat} {i : Nat} {nm : Str} {g : M.MG} {t : M.MT} {e : M.ME}
end
end S
namespace S
open PySem PySem.Spec PyProof.Rows L2
variable [Wd] [Hot]
section
variable {X : Cx} {W : WX} {pos cpos apos : Pos} {o a : Expr} {mo : M.ME} {ma : M.MO}
end
end S
namespace S
open PySem PySem.Spec PyProof.Rows L2
structure SupF (file : Str) (K : PySem.W.Frag) (C f : Addr) (fld : Str) : Prop where
  ex : ∃ (oc : Value) (od : Option Addr) (fd : FuncData) (osl : Array (Option Value)) (x y : Str) (cc cda : Addr), K.lookup f = some ⟨oc, od, .func fd, osl⟩ /\ yw' fd.params = some (x, y) /\ yv' fd.body = some (("super" : Str), ("__init__" : Str), x, fld, y) ∧
    fd.closure = [(("__class__" : Str), cc)] /\ fd.code = .ref cda /\ fd.defaults = .none /\ fd.kwdefaults = .none /\ fd.globals = mainGlobals /\ fd.builtins = builtinsNs /\ PySem.W.codeIn K (.ref cda) fd.qualname = true ∧
    fd.scope.names.lookup ("super" : Str) = some .globalImplicit /\ fd.scope.names.lookup ("__class__" : Str) = some .free /\ fd.scope.names.lookup x = some .local /\ fd.scope.names.lookup y = some .local /\ (∀ q ∈ fd.scope.names, q.2 ≠ .cell) ∧
    fd.scope.kind = .function /\ fd.scope.isGenerator = false /\ fd.scope.isCoroutine = false /\ x = "self" /\ (y = "part" \/ y = "most") ∧
    (∃ a b c, K.lookup cc = some ⟨a, b, .cell (some (.ref C)), c⟩) /\ (∃ a b c vs tf, K.lookup cda = some ⟨a, b, .fields vs, c⟩ /\ vs[2]? = some (.str file tf))
  sup : PySem.W.ks_superIn K C C "__init__" = some (some (.builtin "ValueError.__init__"))
  own : PySem.W.mroIn K C (.ref C) = some true
  ve : PySem.W.subIn K (.ref C) (.type "ValueError") = some true
  no3 : PySem.W.nsIn K cStatics "thirdparty.any" = some none
  cls : ∃ nm q N bs bm sn sub ab col dd k0 k1 k2 k3 k5, K.lookup C = some (excClassObj nm q C N bs bm true sn sub ab col dd k0 k1 k2 k3 k5 "ValueError.__new__") /\ HandSPX.refsVE bm = true
  sa : PySem.W.findIn K (.ref C) "__setattr__" = some (some (.builtin "object.__setattr__"))
  exC : PySem.W.subIn K (.ref C) (.type "BaseException") = some true
  tyC : PySem.W.typeIn K (.ref C) = some (.type "type")
  kC : PySem.W.keepIn K (.ref C) = true
  iC : PySem.W.findIn K (.ref C) "__init__" = some (some (.ref f))
  tI : PySem.W.typeIn K (.ref f) = some (.type "function")
  fl : PySem.W.findIn K (.ref C) fld = some none
end S
namespace S
open PySem PySem.Spec PyProof.Rows L2
variable [Wd] [Hot]
local macro_rules | `(tactic| walk_at "parts") => `(tactic| (constructor; (intro e h; simp only [List.mem_append, List.mem_cons, List.not_mem_nil] at *; grind); (intro x; simp only [keys, List.map_append, List.map_cons, List.map_nil, List.count_append, List.count_cons, List.count_nil] at *; omega)))
section
variable {prog : Program} {w : World} {A : Around} {E : Value -> Shared -> Prop} {s : Shared}
end
def zB' (K : PySem.W.Frag) (ps : List (String × String)) (g : Addr) : Prop := ∀ C, (C, C) ∈ ps -> PySem.W.findIn K (.ref (He.ga K (Str.ofString C))) "__eq__" = some (some (.ref g)) /\ PySem.W.isFn K (.ref g) = true ∧
  ∀ n ∈ ["NoneType", "bool", "int", "str", "tuple", "list", "dict"], PySem.W.notFirst K (He.ga K (Str.ofString C)) (.type n) = true
def rEqD (K : PySem.W.Frag) (ps : List (String × String)) (mf : M.MF) : R2 := fun x y H Q => ∃ (C n : String) (a dx : Addr) (fs : List (Str × V)), (C, C) ∈ ps /\ n ∈ ["NoneType", "bool", "int", "str", "tuple", "list", "dict"] /\ x = .ref a ∧
  H a = some (.ins (He.ga K (Str.ofString C)) dx fs) /\ TyX K H y (.type n) /\ spM K mf [x, y] H (fun v H' => ∃ r, v = .bl r /\ Q (.bl r) H') E0
theorem op_eqD {X : Cx} {k : Nat} {C0 : Addr} {args : List Str} {ps : List (String × String)} {mf : M.MF} (F : OgM X.prog X.w X.K X.mg X.base k C0 "__eq__" args (spM X.K mf)) (hr : RoomG k X.A) (hp : zB' X.K ps (He.ma X.K C0 "__eq__")) :
    OpR X (compareOp .Eq) (rEqD X.K ps mf) := by
  obtain ⟨fd, F, hb⟩ := F
  intro pins s σ H x y v u Q I rx ry h
  obtain ⟨C, n, a, dx, fs, hC, hn, rfl, ha, ht, hs⟩ := h
  cases (show v = Value.ref a from rx)
  obtain ⟨q1, q2, q3⟩ := hp _ hC
  obtain ⟨mA, J, _⟩ := ins_get I.hok ha
  obtain ⟨od, J, _⟩ := J.look
  obtain ⟨m, hF⟩ := I.fr
  obtain ⟨P, Z, hP, _⟩ := kit_of I ry ht
  show wpAny (model X.prog X.w) X.A (richCompare .Eq (.ref a) u) (EP X pins σ Q) X.xe s
  refine PySem.W.cmp_K (op := .Eq) (tb := .type n) hr.r.units0 hF I.ok.mod.kin J (Z.ty _ _ I.kIn hP) (q3 n hn) q1 q2 ?_
  refine wpAny_mono (ls' (E := fun _ => E0) (us := [.ref a, u]) (vs := [.ref a, y]) F hr hb (fun _ _ _ e s' _ c => ?_) I (.cons rfl (.cons ry .nil)) hs) (fun r s' q => ?_) fun _ _ z => z
  . obtain ⟨_, _, _, _, _, _, _, _, _, _, _, _, z⟩ := c
    exact z.elim
  . obtain ⟨z, H', I', rz, t, ez, q⟩ := q
    subst ez
    cases rz
    exact ⟨.bl t, H', I', rfl, q⟩
section
variable {K : PySem.W.Frag} {σ : St} {H : Hp} {Q : VK} {W : WX}
end
section
variable {X : Cx} {W : WX} {pos p tpos : Pos} {a b e o i : Expr} {ma mb mo mi : M.ME} {k : Nat} {args : List Str} {mf : M.MF}
end
end S
namespace S
open PySem PySem.Spec PyProof.Rows L2
variable [Wd] [Hot]
mutual
inductive DqN (K : PySem.W.Frag) (H : Hp) : V -> M.D -> Prop
  | leaf {v : V} {d : M.D} : Dp K H v (py d) -> M.lX' d = true -> DqN K H v d
  | tup {a : Addr} {vs : List V} {ds : List M.D} : SqT K H a vs -> DqNs K H vs ds -> DqN K H (.ref a) (.tup ds)
  | lst {a : Addr} {vs : List V} {ds : List M.D} : H a = some (.lst vs) -> DqNs K H vs ds -> DqN K H (.ref a) (.lst ds)
  | dct {a : Addr} {kvs : List (Key × V)} {ds : List M.D} : Rd H a (.dK kvs) -> mB' kvs -> DqNs K H (kvs.map (·.2)) ds -> DqN K H (.ref a) (.dct (kvs.map fun p => kD p.1) ds)
inductive DqNs (K : PySem.W.Frag) (H : Hp) : List V -> List M.D -> Prop
  | nil : DqNs K H [] []
  | cons {v : V} {d : M.D} {vs : List V} {ds : List M.D} : DqN K H v d -> DqNs K H vs ds -> DqNs K H (v :: vs) (d :: ds)
end
section
variable {K : PySem.W.Frag} {F H : Hp} {T : List Addr}
end
section
variable {X : Cx} {pins : List (Addr × Obj)} {σ : St} {H : Hp} {s : Shared}
def v6' (K : PySem.W.Frag) : Prop := ∃ o, K.lookup sysModules = some o
theorem qj' (I : Inv X pins σ H s) (h : v6' X.K) {a : Addr} {o : HO} (ha : H a = some o) : a ≠ sysModules := fun e => by
  obtain ⟨ob, hk⟩ := h
  have := (I.bs _ _ (I.ok.mod.kin _ _ hk)).2
  rw [e, this] at ha
  cases ha
mutual
theorem DqN.reads (I : Inv X pins σ H s) (hS : v6' X.K) : ∀ {v : V} {d : M.D} {u : Value}, DqN X.K H v d -> RelV v u -> ∃ as, Reads s.heap u (py d) as /\ sysModules ∉ as
  | _, _, _, .leaf h l, r => ⟨[], cE' I l h r, by simp⟩
  | _, _, _, .tup hs la, r => by
    cases r
    obtain ⟨its, rv, ⟨o, ho, hc, n, hd⟩, _⟩ := I.tuple hs
    obtain ⟨as, hr, hm⟩ := DqNs.reads I hS la rv
    exact ⟨_, Reads.tuple ho hc hd hr, hm⟩
  | _, _, _, .lst (a := a) hs la, r => by
    cases r
    obtain ⟨_, its, n, rv, hd⟩ := I.hok a _ hs
    obtain ⟨as, hr, hm⟩ := DqNs.reads I hS la rv
    refine ⟨_, Reads.list hd rfl rfl hr, fun z => ?_⟩
    rcases List.mem_cons.mp z with z | z
    . exact qj' I hS hs z.symm
    . exact hm z
  | _, _, _, .dct (a := a) (kvs := kvs) (ds := ds) e k la, r => by
    cases r
    obtain ⟨_, hs, vs, rk, hd⟩ := dk_rd I.hok e
    obtain ⟨bs, hp, hm⟩ := DqNs.pairs I hS la kvs rfl rk
    refine ⟨_, PyProof.V.reads_dictOf (enc := kP) (fun k key hk => ?_) hd hp, fun z => ?_⟩
    . rcases keyIs_shape hk with ⟨i, t, rfl, rfl⟩ | ⟨x, t, rfl, rfl⟩
      . exact .int i t
      . exact .str _ t
    . rcases List.mem_cons.mp z with z | z
      . rw [<- z] at hs
        simp at hs
      . exact hm z
theorem DqNs.reads (I : Inv X pins σ H s) (hS : v6' X.K) : ∀ {vs : List V} {ds : List M.D} {us : List Value}, DqNs X.K H vs ds -> Vals vs us -> ∃ as, ReadsAll s.heap us (pys ds) as /\ sysModules ∉ as
  | _, _, _, .nil, r => by
    cases r
    exact ⟨[], .nil, by simp⟩
  | _, _, _, .cons h1 h2, r => by
    cases r with
    | cons r1 r2 =>
      obtain ⟨as, q1, q4⟩ := DqN.reads I hS h1 r1
      obtain ⟨bs, q2, q3⟩ := DqNs.reads I hS h2 r2
      exact ⟨_, .cons q1 q2, fun z => (List.mem_append.mp z).elim q4 q3⟩
theorem DqNs.pairs (I : Inv X pins σ H s) (hS : v6' X.K) : ∀ {vs : List V} {ds : List M.D}, DqNs X.K H vs ds -> ∀ (kvs : List (Key × V)) {us : List (Key × Value)}, kvs.map (·.2) = vs -> KV kvs us →
    ∃ bs, PyProof.V.PairsRead s.heap kP us ((pys (kvs.map fun p => kD p.1)).zip (pys ds)) bs /\ sysModules ∉ bs
  | _, _, .nil, kvs, us, e, r => by
    cases kvs with
    | nil => cases r; exact ⟨[], .nil, by simp⟩
    | cons _ _ => cases e
  | _, _, .cons h1 h2, kvs, us, e, r => by
    cases kvs with
    | nil => cases e
    | cons p kvs =>
      obtain ⟨k, v⟩ := p
      obtain ⟨rfl, e2⟩ := List.cons.inj e
      cases r with
      | @cons _ q _ us hr hp =>
        obtain ⟨k', u⟩ := q
        obtain ⟨he, hr⟩ := hr
        have he : k = k' := he
        subst he
        obtain ⟨as, q1, q4⟩ := DqN.reads I hS h1 hr
        obtain ⟨bs, q2, q3⟩ := DqNs.pairs I hS h2 kvs e2 hp
        exact ⟨_, PyProof.V.PairsRead.cons (enc := kP) (k := k) q1 q2, fun z => (List.mem_append.mp z).elim q4 q3⟩
end
end
section
variable {X : Cx}
end
end S
namespace S
open PySem PySem.Spec PyProof.Rows L2
variable [Wd] [Hot]
end S
namespace S
open PySem PySem.Spec PyProof.Rows L2 HT
variable [Wd] [Hot]
section
variable {prog : Program} {w : World} {A : Around} {E : Value -> Shared -> Prop} {s : Shared}
end
section
variable {X : Cx} {W : WX} {a : Expr} {ma : M.ME} {pos p1 p2 p3 : Pos} {k : Nat}
end
end S
namespace S
open PySem PySem.Spec PyProof.Rows L2
variable [Wd]
section
variable {X : Cx} {W : WX} {pos p : Pos} {a b : Expr}
end
end S
namespace S
open PySem PySem.Spec PyProof.Rows L2 CwR
section
variable {X : Cx} {o e : Expr} {te to : TE} {es : List Expr} {ta : TA} {y z : Str} {i : Int} {j j1 j2 : Nat} {c0 c1 apos pos p : Pos}
end
variable [Wd]
section
variable {X : Cx} {W : WX} {o : Expr} {mo : M.ME} {y z : Str} {i : Int} {j j1 j2 : Nat} {c0 c1 apos pos p : Pos}
end
end S
namespace S
open PySem PySem.Spec PyProof.Rows L2
variable [Wd]
section
variable {X : Cx} {W : WX} {a : Expr} {ma : M.ME} {pos : Pos}
end
end S
namespace S
open PySem PySem.Spec PyProof.Rows L2
end S
namespace S
open PySem PySem.Spec PyProof.Rows L2
variable [Wd] [Hot]
section
variable {K : PySem.W.Frag} {W : WX} {X : Cx} {p pos : Pos} {a b : Expr} {ma mb : M.ME}
end
end S
namespace S
open PySem PySem.Spec
open PySem (ZipApart)
structure ZlSt (h : Heap) (z TI TO i1 i2 l1 l2 : Addr) (xs ys : Array Value) (S : Addr) (i : Nat) : Prop where
  ti : IsPair h TI (.ref i1) (.ref i2)
  it1 : h.IsListIter i1 l1 i
  it2 : h.IsListIter i2 l2 i
  li1 : h.IsList l1 xs
  li2 : h.IsList l2 ys
  zz : (IsZip h z TI TO .none /\ ∃ a b, IsPair h TO a b) \/ ∃ T f oT, PySem.IsZipHeld h z TI TO T f /\ h.get? T = some oT /\ T ≠ z /\ T ≠ i1 /\ T ≠ i2 /\ T ≠ S
structure ZlA (z TI TO i1 i2 l1 l2 S : Addr) : Prop where
  z : z < S
  TI : TI < S
  TO : TO < S
  i1 : i1 < S
  i2 : i2 < S
  l1 : l1 < S
  l2 : l2 < S
section
variable {prog : Program} {w : World} {A : Around} {E : Value -> Shared -> Prop} {s : Shared} {z TI TO i1 i2 l1 l2 S : Addr} {xs ys : Array Value} {i : Nat}
theorem ZlSt.keep {h h' : Heap} (st : ZlSt h z TI TO i1 i2 l1 l2 xs ys S i) (L : ZlA z TI TO i1 i2 l1 l2 S) (hk : ∀ b o, b ≠ S -> h.get? b = some o -> h'.get? b = some o) : ZlSt h' z TI TO i1 i2 l1 l2 xs ys S i := by
  obtain ⟨a1, a2, a3, a4, a5, a6⟩ := st
  have n : ∀ {a : Addr}, a < S -> a ≠ S := fun h => Nat.ne_of_lt h
  refine ⟨hk _ _ (n L.TI) a1, a2.at fun o e => hk _ o (n L.i1) e, a3.at fun o e => hk _ o (n L.i2) e, a4.at fun o e => hk _ o (n L.l1) e, a5.at fun o e => hk _ o (n L.l2) e, ?_⟩
  rcases a6 with ⟨hz, a, b, hTO⟩ | ⟨T, f, oT, hz, hT, r1, r2, r3, r4⟩
  . exact .inl ⟨hk _ _ (n L.z) hz, a, b, hk _ _ (n L.TO) hTO⟩
  . exact .inr ⟨T, f, oT, hk _ _ (n L.z) hz, hk _ _ r4 hT, r1, r2, r3, r4⟩
structure ZlG (xs ys : Array Value) (lo : Addr) (h : Heap) (as : List Addr) : Prop where
  rise : as.Pairwise (· < ·)
  above : ∀ a ∈ as, lo < a
  pairs : ∀ (j : Nat) (a : Addr), as[j]? = some a -> ∃ x y, xs[j]? = some x /\ ys[j]? = some y /\ h.get? a = some { cls := .type "tuple", data := .seq #[x, y] }
theorem ZlG.there {lo : Addr} {h : Heap} {as : List Addr} (g : ZlG xs ys lo h as) {a : Addr} (ha : a ∈ as) : a < h.objs.size := by
  obtain ⟨j, hj⟩ := List.mem_iff_getElem?.mp ha
  obtain ⟨_, _, _, _, e⟩ := g.pairs j a hj
  exact Heap.lt_size e
end
section
variable {prog : Program} {w : World} {A : Around} {s : Shared} {R : Result -> Shared -> Prop} {z TI TO i1 i2 l1 l2 S : Addr} {xs ys : Array Value}
end
section
variable {prog : Program} {w : World} {A : Around} {E : Value -> Shared -> Prop} {s : Shared} {z TI TO i1 i2 l1 l2 S : Addr} {xs ys : Array Value}
theorem ZlSt.type {h : Heap} {i : Nat} (st : ZlSt h z TI TO i1 i2 l1 l2 xs ys S i) : ∃ o, h.get? z = some o /\ o.cls = .type "zip" := by
  rcases st.zz with ⟨hz, _⟩ | ⟨T, f, oT, hz, _⟩
  . exact ⟨_, hz, rfl⟩
  . exact ⟨_, hz, rfl⟩
end
end S
namespace S
open PySem PySem.Spec PyProof.Rows L2 LiI
section
variable {X : Cx}
end
section
variable {K : PySem.W.Frag} [Wd]
end
section
variable [Wd] {X : Cx} {W : WX} {a b : Expr} {ma mb : M.ME} {p p2 pos pos2 : Pos}
end
end S
namespace S
open PySem PySem.Spec PyProof.Rows L2
section
variable {prog : Program} {w : World} {A : Around} {E : Value -> Shared -> Prop} {s : Shared} {z TI TO i1 i2 l1 l2 : Addr} {xs ys : Array Value} {k : Nat}
abbrev ZO (h : Heap) (z TI TO : Addr) (f0 : Value) (b : Bool) : Prop :=
  h.get? z = some { cls := .type "zip", dict := none, data := .fields #[f0, .bool b, .bool false, .ref TI, .ref TO], slots := #[] }
def Gvn (f0 : Value) : Prop := f0 = .none \/ ∃ T : Addr, f0 = rawInt T
structure ZnSt (h : Heap) (z TI TO i1 i2 l1 l2 : Addr) (k : Nat) : Prop where
  zz : ∃ f0 b, ZO h z TI TO f0 b /\ Gvn f0
  ti : IsPair h TI (.ref i1) (.ref i2)
  to : ∃ x y, IsPair h TO x y
  h1 : h.IsTupleIter i1 l1 k
  h2 : h.IsTupleIter i2 l2 k
end
end S
namespace S
open PySem PySem.Spec PyProof.Rows L2
section
variable [Wd] [Hot] {X : Cx} {W : WX} {a b : Expr} {ma mb : M.ME} {p pos : Pos}
end
end S
namespace S
open PySem PySem.Spec PyProof.Rows L2
section
variable [Wd] [Hot] {X : Cx} {W : WX} {a : Expr} {ma : M.ME} {pos : Pos}
end
end S
namespace S
open PySem PySem.Spec PyProof.Rows L2
variable [Wd]
inductive DSd (K : PySem.W.Frag) (H : Hp) (a : Addr) (y v : V) (Q : V -> Hp -> Prop) : Prop
  | old {xs : List (NestedKey × Addr × V)} {b : Addr} {k : NestedKey} {u : V} : H a = some (dcN a xs) -> v5' K H xs -> y = .ref b -> NkV K H (.ref b) k -> k.depth <= 8 -> valV (xsV xs) k = some u -> xs.length <= sizeLine -> Q u H -> DSd K H a y v Q
  | new {xs : List (NestedKey × Addr × V)} {b : Addr} {k : NestedKey} : H a = some (dcN a xs) -> v5' K H xs -> y = .ref b -> NkV K H (.ref b) k -> k.depth <= 8 -> valV (xsV xs) k = none -> (vU' xs k b v).length <= sizeLine -> Q v (upd H a (dcN a (vU' xs k b v))) -> DSd K H a y v Q
  | fst {b : Addr} {k : NestedKey} : H a = some (dcL a []) -> y = .ref b -> NkV K H (.ref b) k -> k.depth <= 8 -> Q v (upd H a (dcN a [(k, b, v)])) -> DSd K H a y v Q
section
variable {X : Cx} {pins : List (Addr × Obj)} {σ : St} {H : Hp} {s : Shared} {a : Addr} {y : V} {u : Value} {A : Around} {E : Value -> Shared -> Prop}
end
section
variable [Hot] {X : Cx} {W : WX} {o : Expr}
end
end S
namespace PySem.W
open Spec PyProof PyProof.Rows
section
variable {prog : Program} {w : World} {A A₀ : Around} {E : Value -> Shared -> Prop} {s : Shared} {K : Frag} {x y C C' L f : Addr} {h₀ : Heap} {m : Str -> Option Value} {ox oy : Obj} {od od' : Option Obj} {b tb : Value}
end
end PySem.W
namespace S
open PySem PySem.Spec PyProof.Rows L2
variable [Wd] [Hot]
local macro_rules | `(tactic| walk_at "parts") => `(tactic| (constructor; (intro e h; simp only [List.mem_append, List.mem_cons, List.not_mem_nil] at *; grind); (intro x; simp only [keys, List.map_append, List.map_cons, List.map_nil, List.count_append, List.count_cons, List.count_nil] at *; omega)))
section
variable {K : PySem.W.Frag} {σ : St} {H : Hp} {Q : VK} {W : WX}
end
section
variable {X : Cx} {W : WX} {pos p : Pos} {a b e : Expr} {ma mb : M.ME} {k : Nat} {args : List Str} {mf : M.MF}
end
end S
namespace S
open PySem PySem.Spec PyProof.Rows L2
local macro_rules | `(tactic| walk_at "parts") => `(tactic| (constructor; (intro e h; simp only [List.mem_append, List.mem_cons, List.not_mem_nil] at *; grind); (intro x; simp only [keys, List.map_append, List.map_cons, List.map_nil, List.count_append, List.count_cons, List.count_nil] at *; omega)))
section
variable [Wd]
variable {K : PySem.W.Frag} {F H G : Hp} {T T' : List Addr}
mutual
/-- data hangs on no object of the world -/
theorem Fz.noT : ∀ {v : V} {d : M.D}, Fz K F T v d -> M.dat d = true -> Fz K F T' v d
  | _, _, .non, _ => .non
  | _, _, .bl b, _ => .bl b
  | _, _, .int i, _ => .int i
  | _, _, .str h, _ => .str h
  | _, _, .tup h r, e => .tup h (FzA.noT r e)
  | _, _, .lst h r, e => .lst h (FzA.noT r e)
  | _, _, .dct _ _ _, e => by cases e
  | _, _, .dcl _ _ _, e => by cases e
  | _, _, .dcn _ _ _ _, e => by cases e
  | _, _, .rep _, e => by cases e
  | _, _, .obj _, e => by cases e
  | _, _, .ty _, e => by cases e
  | _, _, .fn _, e => by cases e
  | _, _, .scr _ _, e => by cases e
theorem FzA.noT : ∀ {vs : List V} {ds : List M.D}, FzA K F T vs ds -> M.dats ds = true -> FzA K F T' vs ds
  | _, _, .nil, _ => .nil
  | _, _, .cons h r, e => by
    obtain ⟨e1, e2⟩ := Bool.and_eq_true_iff.mp (show (M.dat _ && M.dats _) = true from e)
    exact .cons (Fz.noT h e1) (FzA.noT r e2)
end
end
section
variable [Wd]
variable {K : PySem.W.Frag} {F H G : Hp} {T T' : List Addr}
mutual
theorem lK' : ∀ {o : M.O}, M.okO o = true -> M.dat (M.frz o) = true
  | .fz d, h => h
  | .lst os, h => okOs_dats (os := os) h
  | .tup os, h => okOs_dats (os := os) h
  | .dct _ _, h => by cases h
  | .dcx _ _, h => by cases h
  | .exn, h => by cases h
  | .clo, h => by cases h
theorem okOs_dats : ∀ {os : List M.O}, M.okOs os = true -> M.dats (M.frzs os) = true
  | [], _ => rfl
  | o :: r, h => by
    obtain ⟨e1, e2⟩ := Bool.and_eq_true_iff.mp (show (M.okO o && M.okOs r) = true from h)
    exact Bool.and_eq_true_iff.mpr ⟨lK' e1, okOs_dats e2⟩
end
def NoD (fp : Fp) : Prop := ∀ e ∈ fp, (∀ kvs, e.2 ≠ .dK kvs) /\ (∀ φ, e.2 ≠ .ext φ) /\ ∀ od u, e.2 ≠ .frz od u
theorem NoD.app {a b : Fp} (h : NoD a) (g : NoD b) : NoD (a ++ b) := fun e he => (List.mem_append.mp he).elim (h e) (g e)
mutual
theorem Rp.noD : ∀ {v : V} {o : M.O} {fp : Fp}, Rp K F T v o fp -> M.okO o = true -> NoD fp
  | _, _, _, .fz _, _ => nofun
  | _, _, _, .lst r, h => fun e he => by
    rcases List.mem_cons.mp he with rfl | he
    . exact ⟨(fun _ q => nomatch q), (fun _ q => nomatch q), fun _ _ q => nomatch q⟩
    . exact RpA.noD r h e he
  | _, _, _, .tup r, h => fun e he => by
    rcases List.mem_cons.mp he with rfl | he
    . exact ⟨(fun _ q => nomatch q), (fun _ q => nomatch q), fun _ _ q => nomatch q⟩
    . exact RpA.noD r h e he
  | _, _, _, .dct _ _, h => by cases h
  | _, _, _, .dcl _ _, h => by cases h
  | _, _, _, .dcn _ _ _, h => by cases h
theorem RpA.noD : ∀ {vs : List V} {os : List M.O} {fp : Fp}, RpA K F T vs os fp -> M.okOs os = true -> NoD fp
  | _, _, _, .nil, _ => nofun
  | _, o :: os, _, .cons h r, e => by
    obtain ⟨e1, e2⟩ := Bool.and_eq_true_iff.mp (show (M.okO o && M.okOs os) = true from e)
    exact (Rp.noD h e1).app (RpA.noD r e2)
end
structure Split (C A B : Fp) : Prop where
  mem : ∀ e, e ∈ C ↔ e ∈ A \/ e ∈ B
  cnt : ∀ x, (keys C).count x = (keys A).count x + (keys B).count x
theorem RpE.lent [Hot] {σ : St} {env : List (Option M.O)} {fe : Fp} (re : RpE K F T σ env fe) : ∀ m : List Bool, M.okM m env = true →
    ∃ A B, Split fe A B /\ NoD A /\ ∀ G, Same F G -> (∀ e ∈ A, G e.1 = some e.2) -> RpE K G [] σ (M.c7' m env) [] := by
  induction re with
  | nil => exact fun m _ => ⟨[], [], ⟨by simp, by simp [keys]⟩, nofun, fun G _ _ => by
      cases m with
      | nil => exact .nil
      | cons b m => exact .nil⟩
  | @off x σ env fp r ih =>
    intro m hm
    cases m with
    | nil =>
      obtain ⟨A, B, h1, h2, h3⟩ := ih [] (by cases env <;> rfl)
      exact ⟨A, B, h1, h2, fun G s g => .off (h3 G s g)⟩
    | cons b m =>
      cases b with
      | false =>
        obtain ⟨A, B, h1, h2, h3⟩ := ih m hm
        exact ⟨A, B, h1, h2, fun G s g => .off (h3 G s g)⟩
      | true => cases hm
  | @on v o σ env fp fq q r ih =>
    intro m hm
    cases m with
    | nil =>
      obtain ⟨A, B, h1, h2, h3⟩ := ih [] (by cases env <;> rfl)
      exact ⟨A, fp ++ B, ⟨fun e => by simp only [List.mem_append, h1.mem]; grind, fun x => by have := h1.cnt x; simp only [keys, List.map_append, List.count_append] at *; omega⟩, h2, fun G s g => .off (h3 G s g)⟩
    | cons b m =>
      cases b with
      | false =>
        obtain ⟨A, B, h1, h2, h3⟩ := ih m hm
        exact ⟨A, fp ++ B, ⟨fun e => by simp only [List.mem_append, h1.mem]; grind, fun x => by have := h1.cnt x; simp only [keys, List.map_append, List.count_append] at *; omega⟩, h2, fun G s g => .off (h3 G s g)⟩
      | true =>
        obtain ⟨e1, e2⟩ := Bool.and_eq_true_iff.mp (show (M.okO o && M.okM m env) = true from hm)
        obtain ⟨A, B, h1, h2, h3⟩ := ih m e2
        refine ⟨fp ++ A, B, ⟨fun e => by simp only [List.mem_append, h1.mem]; grind, fun x => by have := h1.cnt x; simp only [keys, List.map_append, List.count_append] at *; omega⟩, (q.noD e1).app h2, fun G s g => ?_⟩
        have z := (q.freeze s fun e he => g e (List.mem_append_left _ he)).noT (T' := []) (lK' e1)
        exact RpE.on (fp := []) (fq := []) (.fz z) (h3 G s fun e he => g e (List.mem_append_right _ he))
  | @hot a dd x σ env fp hh z r ih =>
    intro m hm
    cases m with
    | nil =>
      obtain ⟨A, B, h1, h2, h3⟩ := ih [] (by cases env <;> rfl)
      exact ⟨A, B, h1, h2, fun G s g => .off (h3 G s g)⟩
    | cons b m =>
      cases b with
      | false =>
        obtain ⟨A, B, h1, h2, h3⟩ := ih m hm
        exact ⟨A, B, h1, h2, fun G s g => .off (h3 G s g)⟩
      | true => cases hm
  | @clo c σ env fp hh z r ih =>
    intro m hm
    cases m with
    | nil =>
      obtain ⟨A, B, h1, h2, h3⟩ := ih [] (by cases env <;> rfl)
      exact ⟨A, B, h1, h2, fun G s g => .off (h3 G s g)⟩
    | cons b m =>
      cases b with
      | false =>
        obtain ⟨A, B, h1, h2, h3⟩ := ih m hm
        exact ⟨A, B, h1, h2, fun G s g => .off (h3 G s g)⟩
      | true => cases hm
end
section
variable [Wd] [Hot] {X : Cx} {W : WX} {a b e : Expr} {ma mb me : M.ME} {p p2 pos pos2 : Pos}
theorem Rel.lend {K : PySem.W.Frag} {ρ : M.PSt} {σ : St} {H F : Hp} {T : List Addr} {fr : Fp} {m : List Bool} (rel : Rel K ρ σ H F T fr) (hm : M.okM m ρ.env = true) :
    ∃ G frB, Rel K ⟨M.c7' m ρ.env, []⟩ σ H G [] frB /\ ∀ ρ' H' F' T', Ext G [] F' T' -> Rel K ρ' σ H' F' T' frB -> ∃ F3, Ext F T F3 T /\ Rel K ρ σ H' F3 T fr := by
  obtain ⟨fe, fw, re, rw, f⟩ := rel
  obtain ⟨A, B, h1, h2, h3⟩ := re.lent m hm
  have h1' := h1
  have h2' := h2
  have f' : FpH F H (A ++ (B ++ (fw ++ fr))) := f.part ⟨fun e he => by
    have := h1.mem e
    simp only [List.mem_append] at *
    grind, fun x => by
    have := h1.cnt x
    simp only [keys, List.map_append, List.count_append] at *
    omega⟩
  have s : Same F (jK' F A) := cW' fun e he => (f'.at_ e (List.mem_append_left _ he)).2
  have nd : (keys A).Nodup := by
    have nd : (keys A ++ keys (B ++ (fw ++ fr))).Nodup := by rw [<- List.map_append]; exact f'.nd
    exact (List.nodup_append.mp nd).1
  have hG : ∀ e ∈ A, jK' F A e.1 = some e.2 := fun e he => cY' nd e he
  have re2 := h3 _ s hG
  refine ⟨jK' F A, B ++ (fw ++ fr), ⟨[], [], re2, .nil, f'.freeze⟩, ?_⟩
  rintro ρ' H' F' T' e1 ⟨fe2, fw2, _, _, g⟩
  have gB : ∀ e ∈ B ++ (fw ++ fr), H' e.1 = some e.2 /\ F' e.1 = none := fun e he => g.at_ e (by simp only [List.mem_append] at *; grind)
  have gA : ∀ e ∈ A, H' e.1 = some e.2 := fun e he => g.low _ _ (e1.f.at_ (hG e he) (h2 e he).1 (h2 e he).2.1)
  let F3 : Hp := fun a => if a ∈ keys A then none else F' a
  have wk : Wk F F3 := fun a o ha => by
    have hn : a ∉ keys A := fun hin => by
      obtain ⟨e, he, rfl⟩ := List.mem_map.mp hin
      rw [(f'.at_ e (List.mem_append_left _ he)).2] at ha
      cases ha
    have := e1.f a o (s a o ha)
    show (if a ∈ keys A then none else F' a) = some o \/ Lkb o /\ ∃ od, (if a ∈ keys A then none else F' a) = some (.frz od o)
    rw [if_neg hn]
    exact this
  have ext : Ext F T F3 T := ⟨wk, List.prefix_refl _⟩
  refine ⟨F3, ext, fe, fw, re.mono ext, rw.mono ext, fun a o ha => ?_, fun e he => ?_, f.nd, g.tbs (fun a h1 h2 h3 => ?_) fun c q hc => ?_⟩
  rotate_left 3
  . have nc : c ∉ keys A := fun hin => by
      obtain ⟨e, he, ec⟩ := List.mem_map.mp hin
      have := e1.f.at_ (hG e he) (h2' e he).1 (h2' e he).2.1
      rw [ec] at this
      rcases hc with hc | ⟨o, hc⟩
      . rw [this] at hc
        exact (h2' e he).2.1 _ (Option.some.inj hc)
      . rw [this] at hc
        exact (h2' e he).2.2 _ _ (Option.some.inj hc)
    show (if c ∈ keys A then none else F' c) = _ \/ ∃ od, (if c ∈ keys A then none else F' c) = _
    rw [if_neg nc]
    exact hc
  . have ha : (if a ∈ keys A then none else F' a) = some o := ha
    split at ha
    . cases ha
    . exact g.low _ _ ha
  . have hab : e ∈ A \/ e ∈ B ++ (fw ++ fr) := by
      have := h1.mem e
      simp only [List.mem_append] at *
      grind
    show H' e.1 = some e.2 /\ (if e.1 ∈ keys A then none else F' e.1) = none
    rcases hab with ha | hb
    . exact ⟨gA e ha, if_pos (List.mem_map_of_mem ha)⟩
    . refine ⟨(gB e hb).1, ?_⟩
      split
      . rfl
      . exact (gB e hb).2
  . refine ⟨?_, rfl, fun e he z => ?_⟩
    . show (if a ∈ keys A then none else F' a) = none
      split
      . rfl
      . exact h1
    . have hab : e ∈ A \/ e ∈ B ++ (fw ++ fr) := by
        have := h1'.mem e
        simp only [List.mem_append] at *
        grind
      rcases hab with ha | hb
      . have := e1.f.at_ (hG e ha) (h2' e ha).1 (h2' e ha).2.1
        rw [z, h1] at this
        cases this
      . exact h3 e (by simp only [List.mem_append] at *; grind) z
theorem mv' {K : PySem.W.Frag} {σ : St} {H : Hp} {Q : Bool -> Hp -> Prop} {m : List Bool} {mt : M.MT} (h : qT K W (M.mE' m mt) σ H Q) : qT K W mt σ H Q := by
  obtain ⟨ρ, F, T, fr, rel, h⟩ := h
  unfold M.mE' at h
  split at h
  . rename_i hm
    obtain ⟨G, frB, r, back⟩ := rel.lend hm
    refine ⟨⟨M.c7' m ρ.env, []⟩, G, [], frB, r, ?_⟩
    cases em : mt ⟨M.c7' m ρ.env, []⟩ with
    | bad => rw [em] at h; exact h.elim
    | exc x ρ' => rw [em] at h; exact h.elim
    | ok d ρ' =>
      rw [em] at h
      intro H' F' T' e1 r'
      obtain ⟨F3, ext, r3⟩ := back ρ' H' F' T' e1 r'
      exact h H' F3 T ext r3
  . exact h.elim
theorem iz' {mt : M.MT} (m : List Bool) (he : ST X W e mt) : ST X W e (M.mE' m mt) := PT.imp he fun _ _ _ h => mv' h
variable {es : List Expr} {mo : M.MO} {moa : M.MOA}
theorem qm' : SOA X W [] M.nH' := PA.imp pa_nil fun σ H Q ⟨ρ, F, T, fr, rel, h⟩ => h [] H F T [] .refl .nil rel
theorem xb' {a b : Fp} : Part b (a ++ b) := ⟨fun e h => List.mem_append_right _ h, fun x => by simp only [keys, List.map_append, List.count_append]; omega⟩
theorem iC' (h1 : SO X W e mo) (h2 : SOA X W es moa) (hs : starEach (e :: es) X.env = (false, eval e X.env) :: starEach es X.env := by rfl) : SOA X W (e :: es) (M.eg' mo moa) :=
  PA.imp (pa_cons h1 h2 hs) fun σ H Q ⟨ρ, F, T, fr, rel, h⟩ => by
    refine qH' rel h fun o ρ1 v H1 F1 T1 fp e1 z1 r1 h1 => ?_
    refine iG' r1 (h1.mono (fun _ _ z => z) fun x ρ' z cls dd H' F' T' e xc r => z cls dd H' F' T' e xc (r.part xb')) fun os ρ2 vs H2 F2 T2 fq e2 z2 r2 h2 => ?_
    exact h2 _ _ _ _ (fp ++ fq) (e1.trans e2) (.cons (z1.mono e2) z2) (r2.part (by walk_at "parts"))
theorem qn' {k} (h : SOA X W es moa) : SO X W (.Tuple es k pos) (M.ul' moa) := PE.imp (pe_tup h) fun σ H Q ⟨ρ, F, T, fr, rel, h⟩ => by
  refine iG' rel h fun os ρ1 vs H1 F1 T1 fp e1 z1 r1 h1 => ?_
  split at h1
  . rename_i hl
    refine ⟨by rw [z1.length, bl']; exact hl, fun p hp => ?_⟩
    exact h1 (.ref p) _ F1 T1 _ e1 (.tup z1) (r1.own hp)
  . exact h1.elim
theorem RpA.rev {K : PySem.W.Frag} {F : Hp} {T : List Addr} {vs : List V} {os : List M.O} {fp : Fp} (h : RpA K F T vs os fp) : ∃ fq, RpA K F T vs.reverse os.reverse fq /\ Part fq fp := by
  induction vs generalizing os fp with
  | nil => cases h; exact ⟨[], .nil, .refl⟩
  | cons v vs ih =>
    cases h with
    | @cons _ _ o os fa fb h r =>
      obtain ⟨fq, h1, h2⟩ := ih r
      rw [List.reverse_cons, List.reverse_cons]
      have z : RpA K F T [v] [o] (fa ++ []) := .cons h .nil
      refine ⟨_, h1.app z, ?_⟩
      have p1 : Part (fq ++ (fa ++ [])) (fb ++ (fa ++ [])) := .app h2 .refl
      exact p1.trans (by walk_at "parts")
end
section
variable [Wd] {X : Cx} {W : WX} {a b : Expr} {ma mb : M.ME} {p p2 pos pos2 : Pos}
end
end S
namespace PySem.W
open PySem PySem.Spec PySem.Calls PyProof PyProof.Rows
section
variable {x t : Value} {P : Heap -> Prop}
end
end PySem.W
namespace L2
open PySem PySem.Spec PyProof.Rows
end L2
namespace S
open PySem PySem.Spec PyProof.Rows L2
variable [Wd] {X : Cx} {W : WX} {pos p : Pos} {a b : Expr}
end S
namespace S
open PySem PySem.Spec PyProof.Rows L2
variable [Wd] [Hot]
local macro_rules | `(tactic| walk_at "parts") => `(tactic| (constructor; (intro e h; simp only [List.mem_append, List.mem_cons, List.not_mem_nil] at *; grind); (intro x; simp only [keys, List.map_append, List.map_cons, List.map_nil, List.count_append, List.count_cons, List.count_nil] at *; omega)))
section
variable {K : PySem.W.Frag} {F H : Hp} {T : List Addr} {fp fr : Fp} {ρ : M.PSt} {σ : St}
theorem RpA.named {f : String} {o : M.O} : ∀ {fv : List (String × V)} {os : List M.O} {fp : Fp}, RpA K F T (fv.map (·.2)) os fp -> ((fv.map (·.1)).zip os).lookup f = some o →
    ∃ v f1 f2 f3, fv.lookup f = some v /\ fp = f1 ++ (f2 ++ f3) /\ Rp K F T v o f2 /\ ∀ o' f2', Rp K F T v o' f2' -> ∃ os', RpA K F T (fv.map (·.2)) os' (f1 ++ (f2' ++ f3)) /\ M.mF' f o' ((fv.map (·.1)).zip os) = (fv.map (·.1)).zip os'
  | [], _, _, r, h => by cases r; cases h
  | (g, v) :: fv, _, _, r, h => by
    cases r with
    | @cons _ _ o1 os fa fb r0 r =>
      by_cases e : f = g
      . subst e
        have h : some o1 = some o := by rw [<- h, List.map_cons, List.zip_cons_cons, List.lookup_cons_self]
        cases h
        refine ⟨v, [], fa, fb, List.lookup_cons_self, rfl, r0, fun o' f2' q => ⟨o' :: os, (RpA.cons q r : RpA K F T _ _ (f2' ++ fb)), ?_⟩⟩
        rw [List.map_cons, List.zip_cons_cons, List.zip_cons_cons]
        exact if_pos rfl
      . have h1 : (f == g) = false := by simpa using e
        have h : ((fv.map (·.1)).zip os).lookup f = some o := by
          rw [<- h, List.map_cons, List.zip_cons_cons]
          simp only [List.lookup, h1]
        obtain ⟨v', f1, f2, f3, e1, e2, e3, e4⟩ := RpA.named r h
        refine ⟨v', fa ++ f1, f2, f3, by simp only [List.lookup, h1]; exact e1, by rw [e2, List.append_assoc], e3, fun o' f2' q => ?_⟩
        obtain ⟨os', q1, q2⟩ := e4 o' f2' q
        refine ⟨o1 :: os', by rw [List.append_assoc]; exact .cons r0 q1, ?_⟩
        rw [List.map_cons, List.zip_cons_cons, List.zip_cons_cons]
        show (if g = f then _ else _) = _
        rw [if_neg (fun z => e z.symm), q2]
end
section
variable {X : Cx} {W : WX} {pos apos cpos tpos p2 : Pos} {a b e k value : Expr} {ma mk mv : M.ME}
end
end S
namespace S
open PySem PySem.Spec PyProof.Rows L2
variable [Wd] [Hot]
section
variable {K : PySem.W.Frag}
end
end S
namespace S
open PySem PySem.Spec PyProof.Rows L2
variable [Wd] [Hot]
section
variable {X : Cx} {W : WX} {K : PySem.W.Frag} {a b : Expr} {ma mb : M.ME} {pos p apos : Pos} {x : Str}
end
end S
namespace S
open PySem PySem.Spec PyProof.Rows L2
variable [Wd] [Hot]
section
variable {X : Cx} {tg e : Expr} {td : TE}
end
section
variable {K : PySem.W.Frag} {F : Hp} {T : List Addr}
end
section
variable {X : Cx} {W : WX} {tg a : Expr} {ma : M.ME}
end
end S
namespace S
open PySem PySem.Spec PyProof.Rows L2
variable [Wd]
theorem lL' (s s' sub : Str) (lo hi l : Nat) (h : ∀ i, i + sub.length <= hi -> Builtin.Str.subAt s sub i = Builtin.Str.subAt s' sub i) : Builtin.Str.occurrences s sub lo hi l = Builtin.Str.occurrences s' sub lo hi l := by
  have key : ∀ (n b i : Nat), (decide (n < l) && decide (b <= i) && decide (i + sub.length <= hi) && Builtin.Str.subAt s sub i) = (decide (n < l) && decide (b <= i) && decide (i + sub.length <= hi) && Builtin.Str.subAt s' sub i) := by
    intro n b i
    by_cases q : i + sub.length <= hi
    . rw [h i q]
    . rw [decide_eq_false q]; simp
  unfold Builtin.Str.occurrences
  simp only [key]
theorem jl' (s : M.Tx) (c i j : Nat) (h : i + 1 <= j) : Builtin.Str.subAt (sx s) ⟨#[c]⟩ i = Builtin.Str.subAt (sx (s.take j)) ⟨#[c]⟩ i := by
  show (s.toArray.extract i (i + 1) == #[c]) = ((s.take j).toArray.extract i (i + 1) == #[c])
  congr 1
  simp only [List.extract_toArray]
  congr 1
  rw [List.extract_eq_take_drop, List.extract_eq_take_drop, List.drop_take, List.take_take]
  congr 1
  omega
theorem mg' (s : M.Tx) (c : Nat) (i : Int) (h0 : 0 <= i) : Txt.find3 (sx s) ⟨#[c]⟩ i = M.fnd (M.jJ' s c i.toNat) := by
  have ef : fromIndex (sx s).length i = i.toNat := by
    unfold fromIndex
    rw [if_neg (by omega)]
    omega
  have hlen : (sx s).length = s.length := bG' s
  rcases StrLaws.find3_spec (sx s) c i with ⟨h, hn⟩ | ⟨k, h, hlo, hk, hc, hn⟩
  . rw [h]
    have : M.jJ' s c i.toNat = none := by
      unfold M.jJ'
      rw [List.find?_eq_none]
      intro j hj hp
      rw [Bool.and_eq_true, decide_eq_true_eq, decide_eq_true_eq] at hp
      have hj := List.mem_range.mp hj
      refine hn j (by rw [ef]; exact hp.1) (by rw [hlen]; exact hj) ?_
      rw [gI', hp.2]; rfl
    rw [this]; rfl
  . rw [h]
    rw [ef] at hlo
    rw [hlen] at hk
    have this : M.jJ' s c i.toNat = some k := by
      refine nC' ?_ hk fun j hj => ?_
      . rw [Bool.and_eq_true, decide_eq_true_eq, decide_eq_true_eq]
        refine ⟨hlo, ?_⟩
        rw [gI', List.getElem?_eq_getElem hk] at hc
        rw [List.getElem?_eq_getElem hk]
        exact congrArg some hc
      . rw [Bool.eq_false_iff]
        intro hp
        rw [Bool.and_eq_true, decide_eq_true_eq, decide_eq_true_eq] at hp
        refine hn j (by rw [ef]; exact hp.1) hj ?_
        rw [gI', hp.2]; rfl
    rw [this]; rfl
theorem gL' (s : M.Tx) (c : Nat) (i j : Int) (h0 : 0 <= i) (h1 : 0 <= j) (h2 : j <= s.length) : Txt.findIn (sx s) ⟨#[c]⟩ i j = Txt.find3 (sx (s.take j.toNat)) ⟨#[c]⟩ i := by
  have hlen : (sx s).length = s.length := bG' s
  have hlen2 : (sx (s.take j.toNat)).length = j.toNat := by rw [bG', List.length_take]; omega
  have e1 : fromIndex (sx s).length i = i.toNat := by
    unfold fromIndex
    rw [if_neg (by omega)]
    omega
  have e2 : fromIndex (sx (s.take j.toNat)).length i = i.toNat := by
    unfold fromIndex
    rw [if_neg (by omega)]
    omega
  have e3 : toIndexW (sx s).length j = j.toNat := by
    unfold toIndexW
    rw [if_neg (by omega), hlen]
    omega
  unfold Txt.findIn Txt.find3
  rw [e1, e2, e3, hlen2, lL' (sx s) (sx (s.take j.toNat)) ⟨#[c]⟩ i.toNat j.toNat 1 fun k hk => jl' s c k j.toNat hk]
  rfl
section
variable {K : PySem.W.Frag}
theorem FzA.three {F : Hp} {T : List Addr} {xs : List V} {d e g : M.D} (h : FzA K F T xs [d, e, g]) : ∃ v u t, xs = [v, u, t] /\ Fz K F T v d /\ Fz K F T u e /\ Fz K F T t g := by
  cases h with
  | cons a r =>
    obtain ⟨v, u, rfl, h1, h2⟩ := r.two
    exact ⟨_, _, _, rfl, a, h1, h2⟩
theorem q7' : MtD K M.fJ' (fun x xs H Q => ∃ (a b : Str) (i j : Int), x = .str a /\ xs = [.str b, .int i, .int j] /\ Q (.int (Txt.findIn a b i j)) H) := by
  intro F H T fp s xs ds dz Q f o hx h k
  unfold M.fJ' at h
  split at h
  . rename_i c i j
    split at h
    . rename_i h0
      cases h
      obtain ⟨v, u, t, rfl, z1, z2, z3⟩ := hx.three
      obtain ⟨rfl, o2⟩ := z1.str_inv
      cases z2
      cases z3
      refine ⟨_, _, i, j, rfl, rfl, ?_⟩
      have e : Txt.findIn (sx s) (sx [c]) i j = M.fnd (M.jJ' (s.take j.toNat) c i.toNat) := by
        show Txt.findIn (sx s) ⟨#[c]⟩ i j = _
        rw [gL' s c i j h0.1 h0.2.1 h0.2.2, mg' _ c i h0.1]
      rw [e]
      exact k.here f (.int _)
    . cases h
  . cases h
theorem RpA.atL {F : Hp} {T : List Addr} {vs : List V} {os : List M.O} {fp : Fp} {k : Nat} {ys : List M.O} (r : RpA K F T vs os fp) (h : os[k]? = some (.lst ys)) :
    ∃ q ws f1 f2 f3, vs[k]? = some (.ref q) /\ RpA K F T ws ys f2 /\ fp = f1 ++ (((q, .lst ws) :: f2) ++ f3) /\ ∀ ws' ys' f2', RpA K F T ws' ys' f2' -> RpA K F T vs (os.set k (.lst ys')) (f1 ++ (((q, .lst ws') :: f2') ++ f3)) := by
  induction os generalizing k vs fp with
  | nil => cases h
  | cons o os ih =>
    cases r with
    | @cons v vs _ _ fa fb r0 r =>
      cases k with
      | zero =>
        cases h
        cases r0 with
        | @lst q ws _ f2 r1 => exact ⟨q, ws, [], f2, fb, rfl, r1, rfl, fun ws' ys' f2' r' => by
          show RpA K F T (.ref q :: vs) (.lst ys' :: os) (((q, .lst ws') :: f2') ++ fb)
          exact .cons (.lst r') r⟩
      | succ k =>
        obtain ⟨q, ws, f1, f2, f3, h1, h2, rfl, h4⟩ := ih (k := k) r h
        exact ⟨q, ws, fa ++ f1, f2, f3, h1, h2, by rw [List.append_assoc], fun ws' ys' f2' r' => by rw [List.append_assoc]; exact .cons r0 (h4 ws' ys' f2' r')⟩
end
variable [Hot]
section
variable {X : Cx} {W : WX} {pos cpos apos spos ipos epos : Pos}
theorem ql' {i : Nat} {x : Str} {px : Pos} {k : Nat} {s : M.Tx} {t : Str} {j1 j2 : Nat} (hv : PE X (.Name x px) (tVar i)) (ht : t = sx s) (ho : uh' s = true)
    (hs0 : PlainIx (.Constant (.int ((k : Nat) : Int)) j1 ipos))
    (hbase : attributeBase (.Subscript (.Name x px) (.Constant (.int ((k : Nat) : Int)) j1 ipos) spos) "append" X.env (eval (.Subscript (.Name x px) (.Constant (.int ((k : Nat) : Int)) j1 ipos) spos) X.env) = eval (.Subscript (.Name x px) (.Constant (.int ((k : Nat) : Int)) j1 ipos) spos) X.env := by rfl)
    (hfew : ((backTo cpos (starEach [.Constant (.str t) j2 epos] X.env)).all (fun x => !x.1) && (backToKw cpos (keywordEach [] X.env)).all (fun x => x.1.isSome)
      && decide ([Expr.Constant (.str t) j2 epos].length + ([] : List Keyword).length + (if ([] : List Keyword).isEmpty then 0 else 1) < 30)) = true := by rfl)
    (hline : (apos.endLine == cpos.line) = true := by rfl) (hs : starEach [.Constant (.str t) j2 epos] X.env = (false, eval (.Constant (.str t) j2 epos) X.env) :: starEach [] X.env := by rfl) (hplain : (backTo cpos (starEach [] X.env)).any (·.1) = false := by rfl)
    (hsw : swapsWith (.Call (.Attribute (.Subscript (.Name x px) (.Constant (.int ((k : Nat) : Int)) j1 ipos) spos) "append" apos) [.Constant (.str t) j2 epos] [] cpos) none pos.line X.env = pure false := by rfl) :
    SS X W (.Expr (.Call (.Attribute (.Subscript (.Name x px) (.Constant (.int ((k : Nat) : Int)) j1 ipos) spos) "append" apos) [.Constant (.str t) j2 epos] [] cpos) pos) (M.lr' i k s) :=
  PS.imp (ps_expr (pe_bm PySem.F.plainAttrs_list PySem.F.slot_list_append PySem.F.type_list_append mt_append (pe_ix ix_tup hv pe_int hs0) (pa_cons pe_str pa_nil hs) hbase hfew hline hs hplain) hsw) fun D σ H ⟨ρ, F, T, fr, rel, h⟩ => by
    subst ht
    unfold M.lr' at h
    split at h
    . rename_i os e0
      split at h
      . rename_i ys ek
        split at h
        . rename_i hl
          obtain ⟨fe, fw, re, rw, f⟩ := id rel
          obtain ⟨v, f1, f2, f3, h1, rfl, h3, h4, h5⟩ := re.get e0
          cases h3 with
          | @tup p vs _ fp0 r0 =>
            obtain ⟨q, ws, g1, g2, g3, k1, k2, rfl, k4⟩ := r0.atL ek
            have hp : H p = some (.tup vs) := (f.at_ (p, .tup vs) (by simp)).1
            have hq : H q = some (.lst ws) := (f.at_ (q, .lst ws) (by simp)).1
            refine ⟨.ref p, h1, p, vs, (k : Nat), .ref q, rfl, rfl, SqT.of hp, atI_nat k1, .inl ⟨rfl, ws, SqL.of hq⟩, ?_⟩
            refine ⟨q, ws, .str (sx s), rfl, rfl, hq, by rw [k2.length, bl']; exact hl, ?_⟩
            have z : RpA X.K F T [.str (sx s)] [.fz (.str s)] ([] ++ []) := .cons (.fz (.str (lJ' ho))) .nil
            have r' := k4 _ _ _ (k2.app z)
            have e5 := h5 F T (.ref p) (.tup (os.set k (.lst (ys ++ [.fz (.str s)])))) _ .refl (.tup r')
            rw [cI' h1] at e5
            refine h σ _ F T .refl ⟨_, fw, e5, rw, ?_⟩
            have fA : FpH F H ((f1 ++ ((p, .tup vs) :: g1)) ++ ((q, .lst ws) :: (g2 ++ (g3 ++ (f3 ++ (fw ++ fr)))))) := f.part (by
              constructor
              . intro e h
                simp only [List.mem_append, List.mem_cons] at *
                grind
              . intro x
                simp only [keys, List.map_append, List.map_cons, List.count_append, List.count_cons] at *
                omega)
            have fB := fA.write (o' := .lst (ws ++ [.str (sx s)]))
            refine fB.part ?_
            constructor
            . intro e h
              simp only [List.mem_append, List.mem_cons, List.not_mem_nil] at *
              grind
            . intro x
              simp only [keys, List.map_append, List.map_cons, List.map_nil, List.count_append, List.count_cons, List.count_nil] at *
              omega
        . exact h.elim
      . exact h.elim
    . exact h.elim
end
end S
namespace S
open PySem PySem.Spec PyProof.Rows L2
variable [Wd]
inductive CodeMade (Ck : Addr -> Prop) (H : Hp) (P : Addr) (q : Str) (c : Addr) : Hp -> Prop
  | told : Ck c -> CodeMade Ck H P q c H
  | fresh {ps ps' : Array Value} : H c = none -> H P = some (.tbl ps) -> TriplesOk ps'.toList -> (∀ (pos : Pos) (cv : Value), codeAmong pos ps'.toList = some cv -> codeAmong pos ps.toList = some cv \/ cv = .ref c) →
      CodeMade Ck H P q c (upd (upd H P (.tbl ps')) c (LamX.CodeO c q))
section
variable {X : Cx} {pins : List (Addr × Obj)} {σ : L2.St} {H : Hp} {s : Shared}
end
end S
namespace S
open PySem PySem.Spec PyProof.Rows L2
end S
namespace S
open PySem PySem.Spec PyProof.Rows L2
variable [Wd]
end S
namespace S
open PySem PySem.Spec PyProof.Rows L2
section
variable {P : Program} {w : World} {K : PySem.W.Frag} {mg mb : Str -> Option Value} {CX : CXT} {k : Nat} {fa a : Addr} {fd : FuncData} {x : Str} {sp : Sp} {s : Shared} {vs : List Value} {n0 : Nat} {H : Hp} {cs : List (Addr × Addr)}
end
end S
namespace S
open PySem PySem.Spec PyProof.Rows L2
variable [Wd] [Hot]
section
variable {X : Cx} {W : WX} {pos apos tpos p2 : Pos} {a value : Expr} {ma mv : M.ME} {t : Str} {j2 : Nat} {s : M.Tx}
end
end S
namespace S
open PySem PySem.Spec PyProof.Rows PySem.W
section
variable {prog : Program} {w : World} {A : Around} {E : Value -> Shared -> Prop} {s : Shared}
end
section
open L2
variable {X : Cx}
end
section
open L2
variable {X : Cx} {e : Expr} {te : TE} {p apos cpos pos : Pos} {sn : Str}
end
section
open L2
variable [Wd] [Hot]
end
section
open L2
variable [Wd] [Hot]
end
section
open L2
variable [Wd] [Hot] {X : Cx} {W : WX} {a : Expr} {ma : M.ME} {p apos iapos cpos pos : Pos} {sn : Str}
end
end S
namespace S
open PySem PySem.Spec PyProof.Rows L2
local macro_rules | `(tactic| walk_at "parts") => `(tactic| (constructor; (intro e h; simp only [List.mem_append, List.mem_cons, List.not_mem_nil] at *; grind); (intro x; simp only [keys, List.map_append, List.map_cons, List.map_nil, List.count_append, List.count_cons, List.count_nil] at *; omega)))
section
variable [Wd]
variable {K : PySem.W.Frag} {F H G : Hp} {T T' : List Addr}
def Drp (kl kd : Bool) (F G : Hp) : Prop := ∀ a o, F a = some o -> G a = some o \/ (kl = true /\ ∃ vs, o = .lst vs) \/ (kd = true /\ ∃ od kvs, o = .frz od (.dK kvs))
theorem Drp.keep {kl kd : Bool} (s : Drp kl kd F G) {a : Addr} {o : HO} (h : F a = some o) (n1 : ∀ vs, o ≠ .lst vs) (n2 : ∀ od kvs, o ≠ .frz od (.dK kvs)) : G a = some o := by
  rcases s a o h with h | ⟨_, vs, e⟩ | ⟨_, od, kvs, e⟩
  . exact h
  . exact absurd e (n1 vs)
  . exact absurd e (n2 od kvs)
theorem Drp.seqT {kl kd : Bool} (s : Drp kl kd F G) {a : Addr} {xs : List V} (h : SqT K F a xs) : SqT K G a xs := by
  rcases h with (h | ⟨o, h⟩) | h
  . exact .inl (.inl (s.keep h (fun _ z => nomatch z) fun _ _ z => nomatch z))
  . exact .inl (.inr ⟨o, s.keep h (fun _ z => nomatch z) fun _ _ z => nomatch z⟩)
  . exact .inr h
theorem Drp.lst {kd : Bool} (s : Drp false kd F G) {a : Addr} {vs : List V} (h : F a = some (.lst vs)) : G a = some (.lst vs) := by
  rcases s a _ h with h | ⟨z, _⟩ | ⟨_, od, kvs, e⟩
  . exact h
  . cases z
  . cases e
theorem Drp.seqL {kd : Bool} (s : Drp false kd F G) {a : Addr} {xs : List V} (h : SqL K F a xs) : SqL K G a xs := by
  rcases h with (h | ⟨o, h⟩) | h
  . exact .inl (.inl (s.lst h))
  . exact .inl (.inr ⟨o, s.keep h (fun _ z => nomatch z) fun _ _ z => nomatch z⟩)
  . exact .inr h
theorem Drp.dict {kl : Bool} (s : Drp kl false F G) {a : Addr} {kvs : List (Key × V)} (h : Rd F a (.dK kvs)) : Rd G a (.dK kvs) := by
  rcases h with h | ⟨o, h⟩
  . exact .inl (s.keep h (fun _ z => nomatch z) fun _ _ z => nomatch z)
  . rcases s a _ h with h | ⟨_, _, e⟩ | ⟨z, _⟩
    . exact .inr ⟨o, h⟩
    . cases e
    . cases z
theorem Drp.ext {kl kd : Bool} (s : Drp kl kd F G) {a : Addr} {φ : Heap -> Prop} (h : Rd F a (.ext φ)) : Rd G a (.ext φ) := by
  rcases h with h | ⟨o, h⟩
  . exact .inl (s.keep h (fun _ z => nomatch z) fun _ _ z => nomatch z)
  . exact .inr ⟨o, s.keep h (fun _ z => nomatch z) fun _ _ z => nomatch z⟩
theorem yx' {a b : Bool} (h : (a && b) = true) : a = true /\ b = true := Bool.and_eq_true_iff.mp h
def Lnt (kl kd : Bool) (o : HO) : Prop := (kl = true /\ ∃ vs, o = .lst vs) \/ (kd = true /\ ∃ kvs, o = .dK kvs)
def zz' (G : Hp) (e : Addr × HO) : Prop := G e.1 = some e.2 \/ ∃ od kvs, e.2 = .dK kvs /\ G e.1 = some (.frz od e.2)
theorem RpA.allFz {vs : List V} {os : List M.O} {fp : Fp} (r : RpA K F T vs os fp) (h : os.all M.mJ' = true) : fp = [] /\ FzA K F T vs (M.frzs os) := by
  induction vs generalizing os fp with
  | nil => cases r; exact ⟨rfl, .nil⟩
  | cons v vs ih =>
    cases r with
    | @cons _ _ o os fa fb q r =>
      obtain ⟨h1, h2⟩ := yx' (show (M.mJ' o && os.all M.mJ') = true from h)
      obtain ⟨rfl, z⟩ := ih r h2
      cases o <;> try (cases h1; done)
      cases q with
      | fz q => exact ⟨rfl, .cons q z⟩
theorem Rp.lendO {kl kd : Bool} {v : V} {o : M.O} {fp : Fp} (q : Rp K F T v o fp) (h : M.lendO kl kd o = true) : (∀ e ∈ fp, Lnt kl kd e.2) /\ fp.length = M.vY' o /\ ∀ G, Same F G -> (∀ e ∈ fp, zz' G e) -> Fz K G T v (M.frz o) := by
  cases q with
  | fz z => exact ⟨nofun, rfl, fun G s _ => z.mono (.of s)⟩
  | lst r =>
    obtain ⟨h1, h2⟩ := yx' (show (kl && _) = true from h)
    obtain ⟨rfl, z⟩ := r.allFz h2
    refine ⟨fun e he => ?_, rfl, fun G s g => ?_⟩
    . cases List.mem_singleton.mp he; exact .inl ⟨h1, _, rfl⟩
    . rcases g _ List.mem_cons_self with g | ⟨_, _, g, _⟩
      . exact .lst g (z.mono (.of s))
      . cases g
  | tup r => cases h
  | dct k r =>
    obtain ⟨h1, h2⟩ := yx' (show (kd && _) = true from h)
    obtain ⟨rfl, z⟩ := r.allFz h2
    refine ⟨fun e he => ?_, rfl, fun G s g => ?_⟩
    . cases List.mem_singleton.mp he; exact .inr ⟨h1, _, rfl⟩
    . rcases g _ List.mem_cons_self with g | ⟨od, _, _, g⟩
      . exact .dct (.inl g) k (z.mono (.of s))
      . exact .dct (.inr ⟨od, g⟩) k (z.mono (.of s))
  | dcl k r => cases h
  | dcn k q r => cases h
end
section
variable [Wd] [Hot] {X : Cx} {W : WX} {e : Expr} {mo : M.MO}
end
end S
namespace S
open PySem PySem.Spec PyProof.Rows L2
local macro_rules | `(tactic| walk_at "parts") => `(tactic| (constructor; (intro e h; simp only [List.mem_append, List.mem_cons, List.not_mem_nil] at *; grind); (intro x; simp only [keys, List.map_append, List.map_cons, List.map_nil, List.count_append, List.count_cons, List.count_nil] at *; omega)))
variable [Wd] [Hot]
section
variable {K : PySem.W.Frag}
end
section
variable {X : Cx} {W : WX} {a b : Expr} {mb : M.ME} {pos : Pos}
end
end S
namespace S
open PySem PySem.Spec PyProof.Rows L2
local macro_rules | `(tactic| walk_at "parts") => `(tactic| (constructor; (intro e h; simp only [List.mem_append, List.mem_cons, List.not_mem_nil] at *; grind); (intro x; simp only [keys, List.map_append, List.map_cons, List.map_nil, List.count_append, List.count_cons, List.count_nil] at *; omega)))
variable [Wd]
section
variable {X : Cx} {pins : List (Addr × Obj)} {σ : St} {H : Hp} {s : Shared} {a b : Addr} {y d : V} {u r : Value} {ov : Option V} {A : Around} {E : Value -> Shared -> Prop}
end
section
variable [Hot] {X : Cx} {W : WX} {o e f a i k l : Expr} {me mf ma mk ml : M.ME} {pos tpos tpos2 apos cpos : Pos}
end
section
variable {K : PySem.W.Frag}
end
section
variable [Hot]
end
end S
namespace S
open PySem PySem.Spec PyProof.Rows L2
variable [Wd]
end S
namespace S
open PySem PySem.Spec PyProof.Rows L2
variable [Wd] [Hot]
section
variable {X : Cx} {W : WX}
end
end S
namespace S
open PySem PySem.Spec PyProof.Rows L2
local macro_rules | `(tactic| walk_at "parts") => `(tactic| (constructor; (intro e h; simp only [List.mem_append, List.mem_cons, List.not_mem_nil] at *; grind); (intro x; simp only [keys, List.map_append, List.map_cons, List.map_nil, List.count_append, List.count_cons, List.count_nil] at *; omega)))
variable [Wd]
inductive HitsD (K : PySem.W.Frag) (H : Hp) (ls : List (Key × V)) : List (Key × V) -> Bool -> Prop
  | nil : HitsD K H ls [] true
  | miss {p : Key × V} {r : List (Key × V)} : valV ls p.1 = none -> HitsD K H ls (p :: r) false
  | hit {p : Key × V} {u : V} {d e : PyData} {r : List (Key × V)} {b : Bool} : valV ls p.1 = some u -> Dp K H p.2 d -> Dp K H u e -> SeqAt.shaped d = true -> SeqAt.shaped e = true -> HitsD K H ls r b -> HitsD K H ls (p :: r) (PyData.eqv d e && b)
section
variable {X : Cx}
end
section
variable {K : PySem.W.Frag}
end
section
variable {X : Cx} {pins : List (Addr × Obj)} {σ : St} {H : Hp} {s : Shared} {a b : Addr} {y d : V} {u r : Value} {ov : Option V} {A : Around} {E : Value -> Shared -> Prop}
end
section
variable [Hot] {X : Cx} {W : WX} {o e f a i k l : Expr} {me mf ma mk ml : M.ME} {pos tpos tpos2 apos cpos : Pos}
end
end S
namespace S
open PySem PySem.Spec PyProof.Rows L2 PySem.SeqAt
variable [Wd] [Hot]
variable {K : PySem.W.Frag}
end S
namespace S
open PySem PySem.Spec PyProof.Rows L2
local macro_rules | `(tactic| walk_at "parts") => `(tactic| (constructor; (intro e h; simp only [List.mem_append, List.mem_cons, List.not_mem_nil] at *; grind); (intro x; simp only [keys, List.map_append, List.map_cons, List.map_nil, List.count_append, List.count_cons, List.count_nil] at *; omega)))
section
variable [Wd] [Hot] {X : Cx} {W : WX} {pos : Pos}
end
end S
namespace S
open PySem PySem.Spec PyProof.Rows L2
variable [Wd] [Hot]
section
variable {K : PySem.W.Frag} {W : WX} {σ : St} {H : Hp} {D : Ends}
end
section
variable {X : Cx} {W : WX} {pos px ps pr : Pos} {tg c e : Expr} {sl : List Nat} {i : Nat} {nm : Str} {g : M.MG} {t : M.MT} {a : M.MO}
end
section
variable {X : Cx} {W : WX} {apos cpos : Pos} {o e : Expr} {es : List Expr} {x : Str} {as : M.MA}
end
end S
namespace L2
open PySem PySem.Spec PyProof.Rows
structure Lay (X : Cx) (pn : List (Addr × Obj)) (a : Addr) (cls : Value) (d : Option Addr) (σ : St) (H : Hp) (s : Shared) : Prop where
  src : ∃ B z, Inv X pn σ H z /\ (∀ b o, z.heap.get? b = some o -> b ∉ frs X.stack -> B.get? b = some o) /\ z.heap.UpToSlots s.heap /\ HandSPX.FlyingZ B (X.env :: X.outer) a (Zc cls d) s.heap /\ s.os = z.os /\ AllBare s.gens
  na : H a = none
section
variable {X : Cx} {pn : List (Addr × Obj)} {a : Addr} {cls : Value} {d : Option Addr} {σ : St} {H : Hp} {s : Shared}
theorem Lay.inv (y : Lay X pn a cls d σ H s) : Inv X pn σ H s := by
  obtain ⟨⟨B, z, I, h1, h2, h3, h4, h5⟩, -⟩ := y
  exact I.landed h1 h3.1 h2 h4 h5
theorem Lay.held (y : Lay X pn a cls d σ H s) (hf : X.env.frame = some X.env.locals) : ∃ oe, s.heap.get? a = some oe /\ Zc cls d oe /\ (∃ vs, oe.data = .fields vs) /\ Inv (X.suite a ((a, oe) :: (X.pn ++ pn))) [] σ H s := by
  have I := y.inv
  obtain ⟨⟨B, z, -, -, -, fl, -, -⟩, na⟩ := y
  obtain ⟨oe, vs, e1, e2, e3⟩ := fl.there
  have off : a ∉ frs (X.env :: X.outer) := by
    intro m
    obtain ⟨_, o2, e4, no⟩ := fl.2.2.1.mem m
    rw [e1] at e4
    cases e4
    exact no vs e3
  have q1 : a ≠ X.env.locals := by
    intro q
    refine off (List.mem_filterMap.2 ⟨X.env, by simp, ?_⟩)
    rw [hf, q]
  have q2 : a ∉ X.fs := by
    intro m
    obtain ⟨w, m1, m2⟩ := List.mem_filterMap.1 m
    exact off (List.mem_filterMap.2 ⟨w, by simp [m1], m2⟩)
  exact ⟨oe, e1, e2, ⟨vs, e3⟩, I.suite e1 e3 na q1 q2⟩
theorem Lay.cool {M : Model} {A : Around} {E : Value -> Shared -> Prop} {Q : Unit -> Shared -> Prop} (y : Lay X pn a cls d σ H s) (h : ∀ s', Lay X pn a cls d σ H s' -> Q () s') : wpAny M A (setFlight (.ref a) none) Q E s := by
  obtain ⟨⟨B, z, I, h1, h2, h3, h4, h5⟩, na⟩ := y
  exact HandSPX.lands_againZ h3 fun g k1 k2 => h _ ⟨⟨B, z, I, h1, h2.trans k2, k1, h4, h5⟩, na⟩
theorem Lay.out {W : WX} {Q : Flow -> Shared -> Prop} (y : Lay X pn a cls d σ H s) (hs : X.stack = X.env :: X.outer) (hf : X.env.frame = some X.env.locals) (tk : Takes X W) (w : W cls d σ H) : wpAny (model X.prog X.w) X.A (handleBy (.ref a) X.env []) Q X.xe s := by
  obtain ⟨⟨B, z, I, h1, h2, h3, h4, h5⟩, na⟩ := y
  obtain ⟨-, -, -, oe, vs, T, -, -, e1, -, e2, e3, -⟩ := id h3
  refine wpAny_handleBy_nil ?_
  unfold PySem.passOn
  refine wpAny_bind (wpAny_field e1 e2 e3 ?_)
  have nT : (Value.ref T == Value.none) = false := by simp
  rw [nT, if_neg Bool.false_ne_true]
  have up : wpAny (model X.prog X.w) X.A (setFlight (.ref a) X.env.frame) (fun _ r => wpAny (model X.prog X.w) X.A (throw (.ref a) : Sem Flow) Q X.xe r) X.xe s := by
    rw [hf]
    refine HandSPX.setFlight_upZ h3 fun g k1 k2 => wpAny_throw (tk (.ref a) _ ?_)
    refine ⟨a, B, z, pn, σ, H, cls, d, rfl, I, h1, h2.trans k2, ?_, na, h4, h5, w⟩
    rw [hs]
    exact .inr (.inr k1)
  first
    | exact wpAny_bind (wpAny_pure (wpAny_bind up))
    | exact wpAny_bind up
end
def zm' (D : Ends) (i : Nat) : Ends := { nx := fun σ H => D.nx (σ.set i none) H, rt := D.rt, bk := fun σ H => D.bk (σ.set i none) H, ct := fun σ H => D.ct (σ.set i none) H }
def tAs (i : Nat) (ts : Addr -> Value -> Option Addr -> TS) : Addr -> Value -> Option Addr -> TS := fun a cls d D σ H => ts a cls d (zm' D i) (σ.set i (some (.ref a))) H
inductive HdsN (X : Cx) : List ExceptHandler -> List (Value × (Addr -> Value -> Option Addr -> TS)) -> Prop
  | nil : HdsN X [] []
  | plain {x : Str} {c : Value} {ts : Addr -> Value -> Option Addr -> TS} {b : Stmt} {bs : List Stmt} {p q : Pos} {r : List ExceptHandler} {l : List (Value × (Addr -> Value -> Option Addr -> TS))} (hc : Names X x c)
      (h : ∀ (a : Addr) (oe : Obj) (cls : Value) (d : Option Addr) (pn : List (Addr × Obj)), Zc cls d oe -> (∃ vs, oe.data = .fields vs) -> PSs (X.suite a ((a, oe) :: pn)) (b :: bs) (ts a cls d)) : HdsN X r l →
      HdsN X (.ExceptHandler (some (.Name x p)) none (b :: bs) q :: r) ((c, ts) :: l)
  | named {x n : Str} {i : Nat} {c : Value} {ts : Addr -> Value -> Option Addr -> TS} {b : Stmt} {bs : List Stmt} {p q : Pos} {r : List ExceptHandler} {l : List (Value × (Addr -> Value -> Option Addr -> TS))} (hN : X.N.Nodup) (hi : X.N[i]? = some n) (hln : X.env.kindOf n = some .local) (hc : Names X x c)
      (h : ∀ (a : Addr) (oe : Obj) (cls : Value) (d : Option Addr) (pn : List (Addr × Obj)), Zc cls d oe -> (∃ vs, oe.data = .fields vs) -> PSs (X.suite a ((a, oe) :: pn)) (b :: bs) (ts a cls d)) : HdsN X r l →
      HdsN X (.ExceptHandler (some (.Name x p)) (some n) (b :: bs) q :: r) ((c, tAs i ts) :: l)
section
variable {X : Cx} {pn : List (Addr × Obj)} {a : Addr} {cls : Value} {d : Option Addr} {σ : St} {H : Hp} {s : Shared}
theorem Lay.asks {x : Str} {c : Value} {b : Bool} {nm : Option Str} {body : List Stmt} {p q : Pos} {r : List ExceptHandler} {Q : Flow -> Shared -> Prop} (y : Lay X pn a cls d σ H s) (hf : X.env.frame = some X.env.locals) (hc : Names X x c) (hb : PySem.W.exmOne X.K cls c = some b)
    (yes : b = true -> codeAny (model X.prog X.w) (X.A.mark (some (.ref a))) (.handlers (.ref a) [.ExceptHandler none nm body q] X.env) (fun o s₂ => match o with
          | .ok f => (match nm with
            | none => Q f s₂
            | some n => wpAny (model X.prog X.w) X.A (do bindName X.env n .none; unbindBehindTheSuite X.env n q) (fun _ s₃ => Q f s₃) X.xe s₂)
          | .error x => cameBackBy (model X.prog X.w) X.A X.env X.xe x s₂) s)
    (no : b = false -> wpAny (model X.prog X.w) X.A (handleBy (.ref a) X.env r) Q X.xe s) : wpAny (model X.prog X.w) X.A (handleBy (.ref a) X.env (.ExceptHandler (some (.Name x p)) nm body q :: r)) Q X.xe s := by
  obtain ⟨oe, e1, e2, e3, S⟩ := y.held hf
  have I := y.inv
  refine wpAny_handleBy_cons (codeAny_handlers_test ?_) (fun z => by cases z)
  have lt : PySem.W.Looks (model X.prog X.w) s.heap (typeOf (.ref a)) cls := fun A Q E s k q => wpAny_typeOf_ref (k _ _ e1) (by rw [e2.1]; exact q)
  have lm := PySem.W.exm_one (M := model X.prog X.w) I.kIn lt hb
  have ask : ∀ {Q E : Value -> Shared -> Prop}, Q c s -> wpAny (model X.prog X.w) (X.A.mark (some (.ref a))) (eval (.Name x p) X.env) Q E s := by
    intro Q E z
    obtain ⟨g1, g2, g3⟩ := hc
    rcases g3 with g3 | ⟨g3, g4, g5⟩
    . exact ld_glob (X := X.suite a ((a, oe) :: (X.pn ++ pn))) S g1 g3 z g2
    . exact ld_blt (X := X.suite a ((a, oe) :: (X.pn ++ pn))) S g1 g3 g4 z g5 g2
  refine ask (lm.here ?_)
  cases b with
  | false => exact no rfl
  | true => exact yes rfl
theorem Lay.run {W : WX} {D : Ends} (hs : X.stack = X.env :: X.outer) (hf : X.env.frame = some X.env.locals) (tk : Takes X W) {hds : List ExceptHandler} {l : List (Value × (Addr -> Value -> Option Addr -> TS))} (hh : HdsN X hds l) (y : Lay X pn a cls d σ H s) (w : wMany X.K W D l cls d σ H) :
    wpAny (model X.prog X.w) X.A (handleBy (.ref a) X.env hds) (SP X pn D) X.xe s := by
  have ok := y.inv.ok
  induction hh with
  | nil => exact y.out hs hf tk w
  | @plain x c ts b bs p q r l hc h _ ih =>
    obtain ⟨t, w1, w2, w3⟩ := w
    refine y.asks hf hc w1 (fun et => codeAny_handlers_suite (y.cool fun s2 y2 => ?_)) fun et => ih (w3 et)
    obtain ⟨oe, e1, e2, e3, S⟩ := y2.held hf
    refine wpAny_mono ((h a oe cls d (X.pn ++ pn) e2 e3).run [] s2 σ H D S (w2 et a y.na)) (fun f s3 z => ?_) (fun _ _ z => z.elim)
    cases f with
    | next =>
      obtain ⟨σ3, H3, S3, z⟩ := z
      exact ⟨σ3, H3, S3.unsuite ok, z⟩
    | brk =>
      obtain ⟨σ3, H3, S3, z⟩ := z
      exact ⟨σ3, H3, S3.unsuite ok, z⟩
    | cont =>
      obtain ⟨σ3, H3, S3, z⟩ := z
      exact ⟨σ3, H3, S3.unsuite ok, z⟩
    | ret u =>
      obtain ⟨v, σ3, H3, S3, z⟩ := z
      exact ⟨v, σ3, H3, S3.unsuite ok, z⟩
  | @named x n i c ts b bs p q r l hN hi hln hc h _ ih =>
    obtain ⟨t, w1, w2, w3⟩ := w
    refine y.asks hf hc w1 (fun et => codeAny_handlers_suite_as (y.cool fun s2 y2 => ?_)) fun et => ih (w3 et)
    obtain ⟨oe, e1, e2, e3, S⟩ := y2.held hf
    refine store_ok (X := X.suite a ((a, oe) :: (X.pn ++ pn))) (v := .ref a) S hN hi (.inl hln) rfl (fun s3 S3 => ?_) (.inr hln)
    refine wpAny_mono ((h a oe cls d (X.pn ++ pn) e2 e3).run [] s3 _ H _ S3 (w2 et a y.na)) (fun f s4 z => ?_) (fun _ _ z => z.elim)
    have gone : ∀ {σ4 : St} {H4 : Hp} {R : Shared -> Prop}, Inv (X.suite a ((a, oe) :: (X.pn ++ pn))) [] σ4 H4 s4 -> (∀ s5, Inv X pn (σ4.set i none) H4 s5 -> R s5) -> wpAny (model X.prog X.w) X.A (do bindName X.env n .none; unbindBehindTheSuite X.env n q) (fun _ s5 => R s5) X.xe s4 := by
      intro σ4 H4 R S4 k
      exact gone_ok (S4.unsuite ok) hN hi hln k
    cases f with
    | next =>
      obtain ⟨σ3, H3, S3, z⟩ := z
      exact gone S3 fun _ k => ⟨_, _, k, z⟩
    | brk =>
      obtain ⟨σ3, H3, S3, z⟩ := z
      exact gone S3 fun _ k => ⟨_, _, k, z⟩
    | cont =>
      obtain ⟨σ3, H3, S3, z⟩ := z
      exact gone S3 fun _ k => ⟨_, _, k, z⟩
    | ret u =>
      obtain ⟨v, σ3, H3, S3, z⟩ := z
      exact gone S3 fun _ k => ⟨_, _, _, k, z⟩
end
section
variable {X : Cx} {body : List Stmt} {h₀ : ExceptHandler} {hds : List ExceptHandler} {l : List (Value × (Addr -> Value -> Option Addr -> TS))} {pos : Pos} {tb : WX -> TS} {W : WX}
end
end L2
namespace S
open PySem PySem.Spec PyProof.Rows L2
variable [Wd]
section
variable {X : Cx} {W : WX} {D : Ends} {σ : St} {H : Hp} {F : Hp} {T : List Addr} {fr : Fp}
abbrev Hn := List (Option (Nat × Nat) × (String -> Option Bool) × (M.Exc -> M.MS))
inductive HdsMN (X : Cx) : List ExceptHandler -> Hn -> List (Value × (Addr -> Value -> Option Addr -> TS)) -> Prop
  | nil : HdsMN X [] [] []
  | plain {x : Str} {c : Value} {g : String -> Option Bool} {h : M.Exc -> M.MS} {b : Stmt} {bs : List Stmt} {p q : Pos} {r : List ExceptHandler} {l : Hn} {l' : List (Value × (Addr -> Value -> Option Addr -> TS))} (hc : Names X x c)
      (hg : ∀ y b, g y = some b -> PySem.W.exmOne X.K (.ref (He.ga X.K y)) c = some b)
      (hsu : ∀ (e : M.Exc) (a : Addr) (oe : Obj) (d : Option Addr) (pn : List (Addr × Obj)), Zc (.ref (He.ga X.K e.cls)) d oe -> (∃ vs, oe.data = .fields vs) -> SSs (X.suite a ((a, oe) :: pn)) W0 (b :: bs) (h e)) : HdsMN X r l l' →
      HdsMN X (.ExceptHandler (some (.Name x p)) none (b :: bs) q :: r) ((none, g, h) :: l) ((c, tsM X.K h) :: l')
  | named {x n : Str} {i m : Nat} {c : Value} {g : String -> Option Bool} {h : M.Exc -> M.MS} {b : Stmt} {bs : List Stmt} {p q : Pos} {r : List ExceptHandler} {l : Hn} {l' : List (Value × (Addr -> Value -> Option Addr -> TS))} (hN : X.N.Nodup) (hi : X.N[i]? = some n) (hln : X.env.kindOf n = some .local) (hc : Names X x c)
      (hg : ∀ y b, g y = some b -> PySem.W.exmOne X.K (.ref (He.ga X.K y)) c = some b)
      (hsu : ∀ (e : M.Exc) (a : Addr) (oe : Obj) (d : Option Addr) (pn : List (Addr × Obj)), Zc (.ref (He.ga X.K e.cls)) d oe -> (∃ vs, oe.data = .fields vs) -> @SSs _ (xs' a m d e) (X.suite a ((a, oe) :: pn)) W0 (b :: bs) (h e)) : HdsMN X r l l' →
      HdsMN X (.ExceptHandler (some (.Name x p)) (some n) (b :: bs) q :: r) ((some (i, m), g, h) :: l) ((c, tAs i (tsA [] X.K m h)) :: l')
theorem HdsMN.ok {hds : List ExceptHandler} {l : Hn} {l' : List (Value × (Addr -> Value -> Option Addr -> TS))} (h : HdsMN X hds l l') : HdsN X hds l' := by
  induction h with
  | nil => exact .nil
  | plain hc hg hsu r ih => exact .plain hc (ix' hsu) ih
  | named hN hi hln hc hg hsu r ih =>
    refine .named hN hi hln hc (fun a oe cls d pn hz hf => ⟨fun pins s σ H D I q => ?_⟩) ih
    obtain ⟨e, rfl, q⟩ := q
    exact (hsu e a oe d pn hz hf).run pins s σ H D I q
end
end S
namespace S
open PySem PySem.Spec PyProof.Rows L2
variable [Wd]
structure LamOk (P : Program) (w : World) (K : PySem.W.Frag) (mg : Str -> Option Value) (base : Heap) (k : Nat) (cl : List (Str × Addr)) (fr : List Str) (c : CloD) (U : M.MF) : Prop where
  isfn : ∀ h : Heap, h.get? c.f = some c.ob -> PySem.W.FnAt c.f h
  run : ∀ (A : Around) (outer : List Env) (s : Shared) (H : Hp) (us : List Value) (vs : List V) (Q : VK) (E : XK), RoomG k A -> Env0 P w K mg base A outer s H →
    NdefX.CellsAt cl fr (c.ws.map some) s.heap H -> Vals vs us →
    (∃ ds w' F T fp, FzA K F T vs ds /\ CloAt K F T c /\ ou' K w' H F T fp /\ sj' K Q E F T fp (U ds w')) -> codeAny (model P w) A (.call (.ref c.f) ⟨us, []⟩) (CR (L2.CX P w) outer P w H s Q E) s
theorem LamOk.mono {P : Program} {w : World} {K : PySem.W.Frag} {mg : Str -> Option Value} {base : Heap} {j k : Nat} {cl : List (Str × Addr)} {fr : List Str} {c : CloD} {U : M.MF} (h : LamOk P w K mg base j cl fr c U) (l : j <= k) : LamOk P w K mg base k cl fr c U :=
  ⟨h.isfn, fun A o s H us vs Q E hr => h.run A o s H us vs Q E (hr.mono l)⟩
section
variable {P : Program} {w : World} {K : PySem.W.Frag} {mg : Str -> Option Value} {base : Heap}
end
inductive ArgK (K : PySem.W.Frag) (F : Hp) (T : List Addr) : List Bool -> List V -> List M.D -> List CloD -> Prop
  | nil : ArgK K F T [] [] [] []
  | dat {m : List Bool} {v : V} {vs : List V} {d : M.D} {ds : List M.D} {cs : List CloD} : Fz K F T v d -> ArgK K F T m vs ds cs -> ArgK K F T (false :: m) (v :: vs) (d :: ds) cs
  | clo {m : List Bool} {vs : List V} {ds : List M.D} {c : CloD} {cs : List CloD} : CloAt K F T c -> ArgK K F T m vs ds cs -> ArgK K F T (true :: m) (.ref c.f :: vs) ds (c :: cs)
theorem ArgK.mono {K : PySem.W.Frag} {F F' : Hp} {T T' : List Addr} (e : Ext F T F' T') {m : List Bool} {vs : List V} {ds : List M.D} {cs : List CloD} (h : ArgK K F T m vs ds cs) : ArgK K F' T' m vs ds cs := by
  induction h with
  | nil => exact .nil
  | dat z _ ih => exact .dat (z.mono e) ih
  | clo z _ ih => exact .clo (z.mono e) ih
section
variable [Hot] {X : Cx} {W : WX} {k : Nat} {e : Expr} {es : List Expr} {a : M.ME} {as : List M.AK}
end
structure FnK (P : Program) (w : World) (K : PySem.W.Frag) (mg : Str -> Option Value) (base : Heap) (k : Nat) (f : Addr) (fd : FuncData) (ps : List Str) (kc : Nat) (mask : List Bool) (m : List M.MF -> M.MF) : Prop where
  len : mask.length = ps.length
  run : ∀ (A : Around) (outer : List Env) (s : Shared) (H : Hp) (args : Args) (us : List Value) (vs : List V) (Q : VK) (E : XK), RoomG k A -> Env0 P w K mg base A outer s H -> BindsTo s fd args (ps.zip us) -> Vals vs us →
    (∃ ds cs Us w' F T fr, ArgK K F T mask vs ds cs /\ Paired (fun c U => ∃ cl fr, LamOk P w K mg base kc cl fr c U /\ NdefX.CellsAt cl fr (c.ws.map some) s.heap H) cs Us /\ ou' K w' H F T fr /\ sj' K Q E F T fr (m Us ds w')) →
    codeAny (model P w) A (.call (.ref f) args) (CR (L2.CX P w) outer P w H s Q E) s
theorem ArgK.len {K : PySem.W.Frag} {F : Hp} {T : List Addr} {m : List Bool} {vs : List V} {ds : List M.D} {cs : List CloD} (h : ArgK K F T m vs ds cs) : vs.length = m.length := by
  induction h with
  | nil => rfl
  | dat _ _ ih => exact congrArg (· + 1) ih
  | clo _ _ ih => exact congrArg (· + 1) ih
def so' : Nat -> List Bool -> List CloD -> List (Nat × CloD)
  | n, true :: m, c :: cs => (n - 1, c) :: so' (n - 1) m cs
  | n, false :: m, cs => so' (n - 1) m cs
  | _, _, _ => []
theorem RpE.offs [Hot] {K : PySem.W.Frag} {F : Hp} {T : List Addr} : ∀ r : Nat, RpE K F T (List.replicate r none) (List.replicate r none) []
  | 0 => .nil
  | r + 1 => .off (RpE.offs r)
theorem ArgK.start [Hot] {K : PySem.W.Frag} {F : Hp} {T : List Addr} {r : Nat} : ∀ {m : List Bool} {vs : List V} {ds : List M.D} {cs : List CloD}, ArgK K F T m vs ds cs -> (∀ i c, (i, c) ∈ so' (m.length + r) m cs -> Hot.clo.lookup i = some c) →
    ∃ env, M.uO' m ds = some env /\ env.length = m.length /\ RpE K F T (vs.map some ++ List.replicate r none) (env ++ List.replicate r none) []
  | _, _, _, _, .nil, _ => ⟨[], rfl, rfl, RpE.offs r⟩
  | _, _, _, _, @ArgK.dat _ _ _ _ m v vs d ds cs z a, h => by
    obtain ⟨env, h1, h2, h3⟩ := ArgK.start (r := r) a fun i c hi => h i c (by
      show (i, c) ∈ so' (m.length + 1 + r - 1) m cs
      rwa [show m.length + 1 + r - 1 = m.length + r by omega])
    exact ⟨some (.fz d) :: env, by show (M.uO' m ds).map _ = _; rw [h1]; rfl, congrArg (· + 1) h2, RpE.on (fp := []) (fq := []) (.fz z) h3⟩
  | _, _, _, _, @ArgK.clo _ _ _ _ m vs ds c cs z a, h => by
    have e1 : m.length + 1 + r - 1 = m.length + r := by omega
    obtain ⟨env, h1, h2, h3⟩ := ArgK.start (r := r) a fun i c' hi => h i c' (by
      show (i, c') ∈ (m.length + 1 + r - 1, c) :: so' (m.length + 1 + r - 1) m cs
      rw [e1]
      exact List.mem_cons_of_mem _ hi)
    refine ⟨some .clo :: env, by show (M.uO' m ds).map _ = _; rw [h1]; rfl, congrArg (· + 1) h2, RpE.clo ?_ z h3⟩
    show Hot.clo.lookup (env ++ List.replicate r none).length = some c
    rw [List.length_append, List.length_replicate, h2]
    refine h _ c ?_
    show _ ∈ (m.length + 1 + r - 1, c) :: so' (m.length + 1 + r - 1) m cs
    rw [e1]
    exact List.mem_cons_self
section
variable {P : Program} {w : World} {K : PySem.W.Frag} {mg : Str -> Option Value} {base : Heap}
end
section
variable [Hot] {X : Cx} {W : WX} {k kc : Nat} {x : Str} {ps : List Str} {p pos : Pos} {e : Expr} {es : List Expr} {as : List M.AK} {m : List M.MF -> M.MF}
end
section
variable [Hot] {X : Cx} {W : WX} {kc i : Nat} {x : Str} {p pos : Pos} {e : Expr} {es : List Expr} {as : M.MA} {U : M.MF}
end
end S
namespace S
open PySem PySem.Spec PyProof.Rows L2
variable [Wd] [Hot]
section
variable {K : PySem.W.Frag}
end
end S
namespace S
open PySem PySem.Spec PyProof.Rows L2
variable [Wd] [Hot]
section
variable {X : Cx} {W : WX} {pos p : Pos} {x : Str} {a : Expr} {σ : St} {H : Hp} {Q : VK}
end
end S
namespace S
open PySem PySem.Spec PyProof.Rows L2
structure Ctx (w : World) (K : PySem.W.Frag) (mg : Str -> Option Value) : Prop where
  says : ∃ (h : Heap), He.SaysX fas fns tbs [] exK w h K
  inn : ∃ h : Heap, K.In h /\ h.Ns mainGlobals mg
section
variable [Wd] {w : World} {K : PySem.W.Frag} {mg : Str -> Option Value}
theorem Ctx.d (C : Ctx w K mg) : He.SaysD fas fns K := by
  obtain ⟨h, s⟩ := C.says
  exact s.t.d
theorem Ctx.more (C : Ctx w K mg) (i : Nat) {f : PySem.W.Frag -> Bool} (e : exs[i]? = some f) : f K = true := by
  obtain ⟨h, s⟩ := C.says
  exact List.all_eq_true.mp s.more f (List.mem_of_getElem? e)
theorem Ctx.glo (C : Ctx w K mg) {x : Str} (i : Nat) (h : fas[i]? = some (.glo x)) : mg x = some (.ref (He.ga K x)) := by
  obtain ⟨hp, X, G⟩ := C.inn
  exact He.glo_ok X G (C.d.fact i h)
theorem Ctx.g_is_string_of (C : Ctx w K mg) : mg "is_string_of" = some (.ref (He.ga K "is_string_of")) := C.glo 0 rfl
theorem Ctx.g_is_ascending (C : Ctx w K mg) : mg "is_ascending" = some (.ref (He.ga K "is_ascending")) := C.glo 1 rfl
theorem Ctx.g_is_choice (C : Ctx w K mg) : mg "is_choice" = some (.ref (He.ga K "is_choice")) := C.glo 2 rfl
theorem Ctx.g_cut_pieces (C : Ctx w K mg) : mg "cut_pieces" = some (.ref (He.ga K "cut_pieces")) := C.glo 3 rfl
theorem Ctx.g_check_pieces (C : Ctx w K mg) : mg "check_pieces" = some (.ref (He.ga K "check_pieces")) := C.glo 4 rfl
theorem Ctx.g_pieces (C : Ctx w K mg) : mg "pieces" = some (.ref (He.ga K "pieces")) := C.glo 5 rfl
theorem Ctx.g_pieces_back (C : Ctx w K mg) : mg "pieces_back" = some (.ref (He.ga K "pieces_back")) := C.glo 6 rfl
theorem Ctx.g__law_hand (C : Ctx w K mg) : mg "_law_hand" = some (.ref (He.ga K "_law_hand")) := C.glo 7 rfl
theorem Ctx.g__law_draw (C : Ctx w K mg) : mg "_law_draw" = some (.ref (He.ga K "_law_draw")) := C.glo 8 rfl
theorem Ctx.g__law_letters (C : Ctx w K mg) : mg "_law_letters" = some (.ref (He.ga K "_law_letters")) := C.glo 9 rfl
theorem Ctx.g__law_cut (C : Ctx w K mg) : mg "_law_cut" = some (.ref (He.ga K "_law_cut")) := C.glo 10 rfl
theorem Ctx.g__law_drawn (C : Ctx w K mg) : mg "_law_drawn" = some (.ref (He.ga K "_law_drawn")) := C.glo 11 rfl
theorem Ctx.g__law_is_full (C : Ctx w K mg) : mg "_law_is_full" = some (.ref (He.ga K "_law_is_full")) := C.glo 12 rfl
theorem Ctx.g__law_right (C : Ctx w K mg) : mg "_law_right" = some (.ref (He.ga K "_law_right")) := C.glo 13 rfl
theorem Ctx.g__law_refused (C : Ctx w K mg) : mg "_law_refused" = some (.ref (He.ga K "_law_refused")) := C.glo 14 rfl
theorem Ctx.g__law_first (C : Ctx w K mg) : mg "_law_first" = some (.ref (He.ga K "_law_first")) := C.glo 15 rfl
theorem Ctx.g_law (C : Ctx w K mg) : mg "law" = some (.ref (He.ga K "law")) := C.glo 16 rfl
theorem Ctx.g_NoWord (C : Ctx w K mg) : mg "NoWord" = some (.ref (He.ga K "NoWord")) := C.glo 19 rfl
theorem Ctx.x_NoWord (C : Ctx w K mg) : PySem.W.excIn K (He.ga K "NoWord") He.veBase "ValueError.__new__" = true := (He.exc_ok (C.d.fact 20 rfl)).1
theorem Ctx.k_NoWord (C : Ctx w K mg) : PySem.W.keepIn K (.ref (He.ga K "NoWord")) = true := (He.exc_ok (C.d.fact 20 rfl)).2.1
theorem Ctx.r_NoWord (C : Ctx w K mg) {X : Cx} (e : X.K = K := by rfl) : Raises X (.ref (He.ga K "NoWord")) := by subst e; exact raises_own (He.exc_ok (C.d.fact 20 rfl)).2.2.1 (He.exc_ok (C.d.fact 20 rfl)).2.2.2
theorem Ctx.g_NoLot (C : Ctx w K mg) : mg "NoLot" = some (.ref (He.ga K "NoLot")) := C.glo 21 rfl
theorem Ctx.x_NoLot (C : Ctx w K mg) : PySem.W.excIn K (He.ga K "NoLot") He.veBase "ValueError.__new__" = true := (He.exc_ok (C.d.fact 22 rfl)).1
theorem Ctx.k_NoLot (C : Ctx w K mg) : PySem.W.keepIn K (.ref (He.ga K "NoLot")) = true := (He.exc_ok (C.d.fact 22 rfl)).2.1
theorem Ctx.r_NoLot (C : Ctx w K mg) {X : Cx} (e : X.K = K := by rfl) : Raises X (.ref (He.ga K "NoLot")) := by subst e; exact raises_own (He.exc_ok (C.d.fact 22 rfl)).2.2.1 (He.exc_ok (C.d.fact 22 rfl)).2.2.2
theorem Ctx.subs (C : Ctx w K mg) : vJ' K M.exT := fun e he => of_decide_eq_true (List.all_eq_true.mp (C.more 0 rfl) e he)
theorem Ctx.c_SMALL (C : Ctx w K mg) : ∃ t, mg "SMALL" = some (.str "abcdefghijklmnopqrstuvwxyz" t) := by obtain ⟨h, X, G⟩ := C.inn; exact He.str_ok X G (C.d.fact 23 rfl)
theorem Ctx.free_zip (C : Ctx w K mg) : mg "zip" = none := by obtain ⟨h, X, G⟩ := C.inn; exact He.free_ok X G (C.d.fact 24 rfl)
theorem Ctx.free_range (C : Ctx w K mg) : mg "range" = none := by obtain ⟨h, X, G⟩ := C.inn; exact He.free_ok X G (C.d.fact 25 rfl)
theorem Ctx.free_all (C : Ctx w K mg) : mg "all" = none := by obtain ⟨h, X, G⟩ := C.inn; exact He.free_ok X G (C.d.fact 26 rfl)
theorem Ctx.free_any (C : Ctx w K mg) : mg "any" = none := by obtain ⟨h, X, G⟩ := C.inn; exact He.free_ok X G (C.d.fact 27 rfl)
theorem Ctx.free_isinstance (C : Ctx w K mg) : mg "isinstance" = none := by obtain ⟨h, X, G⟩ := C.inn; exact He.free_ok X G (C.d.fact 28 rfl)
theorem Ctx.free_str (C : Ctx w K mg) : mg "str" = none := by obtain ⟨h, X, G⟩ := C.inn; exact He.free_ok X G (C.d.fact 29 rfl)
theorem Ctx.free_abs (C : Ctx w K mg) : mg "abs" = none := by obtain ⟨h, X, G⟩ := C.inn; exact He.free_ok X G (C.d.fact 30 rfl)
theorem Ctx.free_int (C : Ctx w K mg) : mg "int" = none := by obtain ⟨h, X, G⟩ := C.inn; exact He.free_ok X G (C.d.fact 31 rfl)
theorem Ctx.free_sorted (C : Ctx w K mg) : mg "sorted" = none := by obtain ⟨h, X, G⟩ := C.inn; exact He.free_ok X G (C.d.fact 32 rfl)
theorem Ctx.free_len (C : Ctx w K mg) : mg "len" = none := by obtain ⟨h, X, G⟩ := C.inn; exact He.free_ok X G (C.d.fact 33 rfl)
theorem Ctx.free_tuple (C : Ctx w K mg) : mg "tuple" = none := by obtain ⟨h, X, G⟩ := C.inn; exact He.free_ok X G (C.d.fact 34 rfl)
theorem Ctx.free_reversed (C : Ctx w K mg) : mg "reversed" = none := by obtain ⟨h, X, G⟩ := C.inn; exact He.free_ok X G (C.d.fact 35 rfl)
theorem Ctx.f_is_string_of (C : Ctx w K mg) : ∃ fd, FunD K "is_string_of" "is_string_of" (defArgs aq') (defBody aq') (defScope aq') [] [] (He.ga K "is_string_of") fd := C.d.def_ 0 (d := cb') rfl
theorem dS' {f : Addr} {fd : FuncData} (F : FunD K "is_string_of" "is_string_of" (defArgs aq') (defBody aq') (defScope aq') [] [] f fd) : Binds K fd ["thing", "signs"] [] := F.bindsN fun _ _ _ _ _ _ us hl => match us, hl with | [_, _], _ => rfl
theorem Ctx.f_is_ascending (C : Ctx w K mg) : ∃ fd, FunD K "is_ascending" "is_ascending" (defArgs ar') (defBody ar') (defScope ar') [] [] (He.ga K "is_ascending") fd := C.d.def_ 1 (d := cc') rfl
theorem dT' {f : Addr} {fd : FuncData} (F : FunD K "is_ascending" "is_ascending" (defArgs ar') (defBody ar') (defScope ar') [] [] f fd) : Binds K fd ["thing"] [] := F.bindsN fun _ _ _ _ _ _ us hl => match us, hl with | [_], _ => rfl
theorem Ctx.f_is_choice (C : Ctx w K mg) : ∃ fd, FunD K "is_choice" "is_choice" (defArgs aL') (defBody aL') (defScope aL') [] [] (He.ga K "is_choice") fd := C.d.def_ 2 (d := dc') rfl
theorem g8' {f : Addr} {fd : FuncData} (F : FunD K "is_choice" "is_choice" (defArgs aL') (defBody aL') (defScope aL') [] [] f fd) : Binds K fd ["thing", "signs"] [] := F.bindsN fun _ _ _ _ _ _ us hl => match us, hl with | [_, _], _ => rfl
theorem Ctx.f_cut_pieces (C : Ctx w K mg) : ∃ fd, FunD K "cut_pieces" "cut_pieces" (defArgs az') (defBody az') (defScope az') [] [] (He.ga K "cut_pieces") fd := C.d.def_ 3 (d := cQ') rfl
theorem gf' {f : Addr} {fd : FuncData} (F : FunD K "cut_pieces" "cut_pieces" (defArgs az') (defBody az') (defScope az') [] [] f fd) : Binds K fd ["lot", "word"] [] := F.bindsN fun _ _ _ _ _ _ us hl => match us, hl with | [_, _], _ => rfl
theorem Ctx.f_check_pieces (C : Ctx w K mg) : ∃ fd, FunD K "check_pieces" "check_pieces" (defArgs as') (defBody as') (defScope as') [] [] (He.ga K "check_pieces") fd := C.d.def_ 4 (d := cd') rfl
theorem dU' {f : Addr} {fd : FuncData} (F : FunD K "check_pieces" "check_pieces" (defArgs as') (defBody as') (defScope as') [] [] f fd) : Binds K fd ["lot", "word"] [] := F.bindsN fun _ _ _ _ _ _ us hl => match us, hl with | [_, _], _ => rfl
theorem Ctx.f_pieces (C : Ctx w K mg) : ∃ fd, FunD K "pieces" "pieces" (defArgs bn') (defBody bn') (defScope bn') [] [] (He.ga K "pieces") fd := C.d.def_ 5 (d := fS') rfl
theorem or' {f : Addr} {fd : FuncData} (F : FunD K "pieces" "pieces" (defArgs bn') (defBody bn') (defScope bn') [] [] f fd) : Binds K fd ["lot", "word"] [] := F.bindsN fun _ _ _ _ _ _ us hl => match us, hl with | [_, _], _ => rfl
theorem Ctx.f_pieces_back (C : Ctx w K mg) : ∃ fd, FunD K "pieces_back" "pieces_back" (defArgs av') (defBody av') (defScope av') [] [] (He.ga K "pieces_back") fd := C.d.def_ 6 (d := cx') rfl
theorem eN' {f : Addr} {fd : FuncData} (F : FunD K "pieces_back" "pieces_back" (defArgs av') (defBody av') (defScope av') [] [] f fd) : Binds K fd ["lot", "word"] [] := F.bindsN fun _ _ _ _ _ _ us hl => match us, hl with | [_, _], _ => rfl
theorem Ctx.f__law_hand (C : Ctx w K mg) : ∃ fd, FunD K "_law_hand" "_law_hand" (defArgs aJ') (defBody aJ') (defScope aJ') [] [] (He.ga K "_law_hand") fd := C.d.def_ 7 (d := dd') rfl
theorem g9' {f : Addr} {fd : FuncData} (F : FunD K "_law_hand" "_law_hand" (defArgs aJ') (defBody aJ') (defScope aJ') [] [] f fd) : Binds K fd ["_law_script"] [] := F.bindsN fun _ _ _ _ _ _ us hl => match us, hl with | [_], _ => rfl
theorem Ctx.f__law_draw (C : Ctx w K mg) : ∃ fd, FunD K "_law_draw" "_law_draw" (defArgs aM') (defBody aM') (defScope aM') [] [] (He.ga K "_law_draw") fd := C.d.def_ 8 (d := de') rfl
theorem ha' {f : Addr} {fd : FuncData} (F : FunD K "_law_draw" "_law_draw" (defArgs aM') (defBody aM') (defScope aM') [] [] f fd) : Binds K fd ["_law_hand_here", "_law_many"] [] := F.bindsN fun _ _ _ _ _ _ us hl => match us, hl with | [_, _], _ => rfl
theorem Ctx.f__law_letters (C : Ctx w K mg) : ∃ fd, FunD K "_law_letters" "_law_letters" (defArgs au') (defBody au') (defScope au') [] [] (He.ga K "_law_letters") fd := C.d.def_ 9 (d := cf') rfl
theorem dW' {f : Addr} {fd : FuncData} (F : FunD K "_law_letters" "_law_letters" (defArgs au') (defBody au') (defScope au') [] [] f fd) : Binds K fd ["_law_hand_here", "_law_signs", "_law_many"] [] := F.bindsN fun _ _ _ _ _ _ us hl => match us, hl with | [_, _, _], _ => rfl
theorem Ctx.f__law_cut (C : Ctx w K mg) : ∃ fd, FunD K "_law_cut" "_law_cut" (defArgs aQ') (defBody aQ') (defScope aQ') [] [] (He.ga K "_law_cut") fd := C.d.def_ 10 (d := dH') rfl
theorem jE' {f : Addr} {fd : FuncData} (F : FunD K "_law_cut" "_law_cut" (defArgs aQ') (defBody aQ') (defScope aQ') [] [] f fd) : Binds K fd ["_law_lot", "_law_word"] [] := F.bindsN fun _ _ _ _ _ _ us hl => match us, hl with | [_, _], _ => rfl
theorem Ctx.f__law_drawn (C : Ctx w K mg) : ∃ fd, FunD K "_law_drawn" "_law_drawn" (defArgs aE') (defBody aE') (defScope aE') [] [] (He.ga K "_law_drawn") fd := C.d.def_ 11 (d := cT') rfl
theorem gi' {f : Addr} {fd : FuncData} (F : FunD K "_law_drawn" "_law_drawn" (defArgs aE') (defBody aE') (defScope aE') [] [] f fd) : Binds K fd ["_law_hand_here", "_law_lot"] [] := F.bindsN fun _ _ _ _ _ _ us hl => match us, hl with | [_, _], _ => rfl
theorem Ctx.f__law_is_full (C : Ctx w K mg) : ∃ fd, FunD K "_law_is_full" "_law_is_full" (defArgs am') (defBody am') (defScope am') [] [] (He.ga K "_law_is_full") fd := C.d.def_ 12 (d := cg') rfl
theorem dX' {f : Addr} {fd : FuncData} (F : FunD K "_law_is_full" "_law_is_full" (defArgs am') (defBody am') (defScope am') [] [] f fd) : Binds K fd ["_law_lot", "_law_word"] [] := F.bindsN fun _ _ _ _ _ _ us hl => match us, hl with | [_, _], _ => rfl
theorem Ctx.f__law_right (C : Ctx w K mg) : ∃ fd, FunD K "_law_right" "_law_right" (defArgs ao') (defBody ao') (defScope ao') [] [] (He.ga K "_law_right") fd := C.d.def_ 13 (d := cR') rfl
theorem gg' {f : Addr} {fd : FuncData} (F : FunD K "_law_right" "_law_right" (defArgs ao') (defBody ao') (defScope ao') [] [] f fd) : Binds K fd ["_law_lot", "_law_word"] [] := F.bindsN fun _ _ _ _ _ _ us hl => match us, hl with | [_, _], _ => rfl
theorem Ctx.f__law_refused (C : Ctx w K mg) : ∃ fd, FunD K "_law_refused" "_law_refused" (defArgs at') (defBody at') (defScope at') [] [] (He.ga K "_law_refused") fd := C.d.def_ 14 (d := ce') rfl
theorem dV' {f : Addr} {fd : FuncData} (F : FunD K "_law_refused" "_law_refused" (defArgs at') (defBody at') (defScope at') [] [] f fd) : Binds K fd ["_law_which", "_law_lot", "_law_word"] [] := F.bindsN fun _ _ _ _ _ _ us hl => match us, hl with | [_, _, _], _ => rfl
theorem Ctx.f__law_first (C : Ctx w K mg) : ∃ fd, FunD K "_law_first" "_law_first" (defArgs ap') (defBody ap') (defScope ap') [] [] (He.ga K "_law_first") fd := C.d.def_ 15 (d := cS') rfl
theorem gh' {f : Addr} {fd : FuncData} (F : FunD K "_law_first" "_law_first" (defArgs ap') (defBody ap') (defScope ap') [] [] f fd) : Binds K fd ["_law_lot", "_law_word"] [] := F.bindsN fun _ _ _ _ _ _ us hl => match us, hl with | [_, _], _ => rfl
theorem Ctx.f_law (C : Ctx w K mg) : ∃ fd, FunD K "law" "law" (defArgs dN') (defBody dN') (defScope dN') [] [] (He.ga K "law") fd := C.d.def_ 16 (d := pq') rfl
end
end S
namespace M
structure En where
  nx : PSt -> Prop
  rt : O -> W -> Prop
  bk : PSt -> Prop
  ct : PSt -> Prop
  ex : Exc -> PSt -> Prop
def vE {α : Type} (r : Res α) (Q : α -> PSt -> Prop) (X : Exc -> PSt -> Prop) : Prop := match r with
  | .ok a ρ => Q a ρ
  | .exc x ρ => X x ρ
  | .bad => False
def vS (o : Out) (D : En) : Prop := match o with
  | .nx ρ => D.nx ρ
  | .rt o w => D.rt o w
  | .bk ρ => D.bk ρ
  | .ct ρ => D.ct ρ
  | .exc x ρ => D.ex x ρ
  | .bad => False
def vF (r : FRes) (Q : O -> W -> Prop) (X : Exc -> W -> Prop) : Prop := match r with
  | .ok o w => Q o w
  | .exc x w => X x w
  | .bad => False
def vD {α : Type} (o : Option α) (Q : α -> Prop) : Prop := match o with
  | some z => Q z
  | none => False
def vI (k : Bool) (A B : Prop) : Prop := if k = true then A else B
def vB (d : D) (P : Bool -> Prop) : Prop := match d with
  | .bl k => P k
  | _ => False
def vT (d : D) (P : Tx -> Prop) : Prop := match d with
  | .str s => P s
  | _ => False
def vN (d : D) (P : Int -> Prop) : Prop := match d with
  | .int s => P s
  | _ => False
def vV (o : Option (Option O)) (i : Nat) (ρ : PSt) (Q : D -> PSt -> Prop) : Prop := match o with
  | some (some (.fz d)) => Q d ρ
  | some (some .exn) => False
  | some (some .clo) => False
  | some (some o) => Q (frz o) ⟨ρ.env.set i (some (.fz (frz o))), ρ.w⟩
  | _ => False
def vG (o : Option (Option O)) (i : Nat) (ρ : PSt) (Q : O -> PSt -> Prop) : Prop := match o with
  | some (some (.fz d)) => Q (.fz d) ρ
  | some (some .exn) => False
  | some (some .clo) => False
  | some (some o) => Q o ⟨ρ.env.set i none, ρ.w⟩
  | _ => False
def vO (o : Option (Option O)) (Q : O -> Prop) : Prop := match o with
  | some (some o) => Q o
  | _ => False
def vL (o : Option (Option O)) (Q : List O -> Prop) : Prop := match o with
  | some (some (.lst os)) => Q os
  | _ => False
def asF : O -> Option D
  | .fz d => some d
  | _ => none
def asL : D -> Option (List D)
  | .lst ds => some ds
  | _ => none
abbrev FX : Exc -> W -> Prop := fun _ _ => False
abbrev PX : Exc -> PSt -> Prop := fun _ _ => False
section
variable {α β : Type} {Q : α -> PSt -> Prop} {X : Exc -> PSt -> Prop} {ρ : PSt} {P : D -> PSt -> Prop} {D0 : En}
theorem aa' (r : Res β) (f : β -> PSt -> Res α) : vE (r.bind f) Q X = vE r (fun b ρ => vE (f b ρ) Q X) X := by cases r <;> rfl
theorem an' (r : Res β) (f : β -> PSt -> Out) : vS (r.out f) D0 = vE r (fun b ρ => vS (f b ρ) D0) D0.ex := by cases r <;> rfl
theorem af' (o : Option α) : vE (ofO o ρ) Q X = vD o (fun z => Q z ρ) := by cases o <;> rfl
theorem cm' (a : α) : vE (.ok a ρ) Q X = Q a ρ := rfl
theorem cG' (d : D) {Q : Bool -> PSt -> Prop} : vE (asB d ρ) Q X = vB d (fun k => Q k ρ) := by cases d <;> rfl
theorem ci' (k : Bool) (a b : Res α) : vE (if k = true then a else b) Q X = vI k (vE a Q X) (vE b Q X) := by cases k <;> rfl
theorem m8' (k : Bool) (a b : Out) : vS (if k = true then a else b) D0 = vI k (vS a D0) (vS b D0) := by cases k <;> rfl
theorem e2' (z : α) {Q : α -> Prop} : vD (some z) Q = Q z := rfl
theorem ki' (k : Bool) {Q : Bool -> Prop} : vB (.bl k) Q = Q k := rfl
theorem oL' (A B : Prop) : vI true A B = A := rfl
theorem oM' (A B : Prop) : vI false A B = B := rfl
theorem hK' (k : Bool) (A B : Prop) : vI (!k) A B = vI k B A := by cases k <;> rfl
theorem tn' (d : D) : vE (eC d ρ) P X = P d ρ := rfl
theorem tl' (i : Nat) (env : List (Option O)) (w : W) : vE (eV i ⟨env, w⟩) P X = vV env[i]? i ⟨env, w⟩ P := by
  show vE (match env[i]? with | some (some (.fz d)) => Res.ok d ⟨env, w⟩ | some (some .exn) => .bad | some (some .clo) => .bad | some (some o) => .ok (frz o) ⟨env.set i (some (.fz (frz o))), w⟩ | _ => .bad) P X = _
  rcases env[i]? with _ | _ | o
  . rfl
  . rfl
  . cases o <;> rfl
theorem kc' (d : D) (i : Nat) (ρ : PSt) : vV (some (some (.fz d))) i ρ P = P d ρ := rfl
theorem hF' (os : List O) (i : Nat) (env : List (Option O)) (w : W) : vV (some (some (.lst os))) i ⟨env, w⟩ P = P (.lst (frzs os)) ⟨env.set i (some (.fz (.lst (frzs os)))), w⟩ := rfl
theorem hE' (os : List O) (i : Nat) (env : List (Option O)) (w : W) : vV (some (some (.tup os))) i ⟨env, w⟩ P = P (.tup (frzs os)) ⟨env.set i (some (.fz (.tup (frzs os)))), w⟩ := rfl
theorem hG' (ks : List D) (os : List O) (i : Nat) (env : List (Option O)) (w : W) : vV (some (some (.dct ks os))) i ⟨env, w⟩ P = P (.dct ks (frzs os)) ⟨env.set i (some (.fz (.dct ks (frzs os)))), w⟩ := rfl
theorem ke' (d : D) (i : Nat) (ρ : PSt) {P : O -> PSt -> Prop} : vG (some (some (.fz d))) i ρ P = P (.fz d) ρ := rfl
theorem hN' (os : List O) (i : Nat) (env : List (Option O)) (w : W) {P : O -> PSt -> Prop} : vG (some (some (.lst os))) i ⟨env, w⟩ P = P (.lst os) ⟨env.set i none, w⟩ := rfl
theorem hM' (os : List O) (i : Nat) (env : List (Option O)) (w : W) {P : O -> PSt -> Prop} : vG (some (some (.tup os))) i ⟨env, w⟩ P = P (.tup os) ⟨env.set i none, w⟩ := rfl
theorem hO' (ks : List D) (os : List O) (i : Nat) (env : List (Option O)) (w : W) {P : O -> PSt -> Prop} : vG (some (some (.dct ks os))) i ⟨env, w⟩ P = P (.dct ks os) ⟨env.set i none, w⟩ := rfl
theorem e0' (o : O) {P : O -> Prop} : vO (some (some o)) P = P o := rfl
theorem hJ' (os : List O) {P : List O -> Prop} : vL (some (some (.lst os))) P = P os := rfl
theorem oG' (f : D -> D -> Option D) (a b : ME) : vE (eOp f a b ρ) P X = vE (a ρ) (fun x ρ1 => vE (b ρ1) (fun y ρ2 => vD (f x y) (fun z => P z ρ2)) X) X := by simp only [eOp, aa', af']
theorem oC' (f : D -> Option D) (a : ME) : vE (eUn f a ρ) P X = vE (a ρ) (fun x ρ1 => vD (f x) (fun z => P z ρ1)) X := by simp only [eUn, aa', af']
theorem kb' (a b : ME) : vE (uR' a b ρ) P X = vE (a ρ) (fun x ρ1 => vB x fun k => vI k (vE (b ρ1) P X) (P (.bl false) ρ1)) X := by simp only [uR', aa', cG', ci', cm']
theorem oF' (a b : ME) : vE (eOr a b ρ) P X = vE (a ρ) (fun x ρ1 => vB x fun k => vI k (P (.bl true) ρ1) (vE (b ρ1) P X)) X := by simp only [eOr, aa', cG', ci', cm']
theorem jY' (a : ME) : vE (sA' a ρ) P X = vE (a ρ) (fun x ρ1 => vB x fun k => P (.bl (!k)) ρ1) X := by simp only [sA', aa', cG', cm']
theorem oK' (t : MT) (a b : ME) : vE (eIf t a b ρ) P X = vE (t ρ) (fun k ρ1 => vI k (vE (a ρ1) P X) (vE (b ρ1) P X)) X := by simp only [eIf, aa', ci']
theorem eX' (f g : D -> D -> Option D) (a b c : ME) : vE (eh' f g a b c ρ) P X = vE (a ρ) (fun x ρ1 => vE (b ρ1) (fun y ρ2 => vD (f x y) fun r => vB r fun k => vI k (vE (c ρ2) (fun z ρ3 => vD (g y z) fun v => P v ρ3) X) (P (.bl false) ρ2)) X) X := by
  simp only [eh', aa', af', cG', ci', cm']
theorem jZ' {P : List D -> PSt -> Prop} : vE (bi' ρ) P X = P [] ρ := rfl
theorem hC' (a : ME) (r : MA) {P : List D -> PSt -> Prop} : vE (ae' a r ρ) P X = vE (a ρ) (fun x ρ1 => vE (r ρ1) (fun xs ρ2 => P (x :: xs) ρ2) X) X := by simp only [ae', aa', cm']
def eo' (n : Nat) (A : Prop) : Prop := n <= 16777216 /\ A
theorem e1' {n : Nat} (h : n <= 16777216) (A : Prop) : eo' n A = A := by unfold eo'; simp [h]
theorem jV' (as : MA) : vE (mK' as ρ) P X = vE (as ρ) (fun xs ρ1 => eo' xs.length (P (.tup xs) ρ1)) X := by
  simp only [mK', aa']
  congr
  funext xs ρ1
  unfold eo'
  by_cases h : xs.length <= 16777216
  . rw [if_pos h]; simp [vE, h]
  . rw [if_neg h]; simp [vE, h]
theorem j1' (as : MA) : vE (mL' as ρ) P X = vE (as ρ) (fun xs ρ1 => eo' xs.length (P (.lst xs) ρ1)) X := by
  simp only [mL', aa']
  congr
  funext xs ρ1
  unfold eo'
  by_cases h : xs.length <= 16777216
  . rw [if_pos h]; simp [vE, h]
  . rw [if_neg h]; simp [vE, h]
theorem oI' (f : Tx -> List D -> Option D) (a : ME) (as : MA) : vE (eMt f a as ρ) P X = vE (a ρ) (fun x ρ1 => vT x fun s => vE (as ρ1) (fun ds ρ2 => vD (f s ds) fun z => P z ρ2) X) X := by
  simp only [eMt, aa']
  congr
  funext x ρ1
  cases x <;> simp only [aa', af'] <;> rfl
theorem j0' (f : List D -> List D -> Option D) (a : ME) (as : MA) : vE (xv' f a as ρ) P X = vE (a ρ) (fun x ρ1 => vD (asL x) fun s => vE (as ρ1) (fun ds ρ2 => vD (f s ds) fun z => P z ρ2) X) X := by
  simp only [xv', aa']
  congr
  funext x ρ1
  cases x <;> simp only [aa', af'] <;> rfl
theorem hH' (s : Tx) {P : Tx -> Prop} : vT (.str s) P = P s := rfl
theorem hI' (s : Int) {P : Int -> Prop} : vN (.int s) P = P s := rfl
theorem oH' {P : Option Int -> PSt -> Prop} : vE (pNo ρ) P X = P none ρ := rfl
theorem oD' (a : ME) {P : Option Int -> PSt -> Prop} : vE (pSo a ρ) P X = vE (a ρ) (fun x ρ1 => vN x fun i => P (some i) ρ1) X := by
  simp only [pSo, aa']
  congr
  funext x ρ1
  cases x <;> rfl
theorem oE' (a : ME) (lo hi : MP) : vE (eSl a lo hi ρ) P X = vE (a ρ) (fun x ρ1 => vE (lo ρ1) (fun l ρ2 => vE (hi ρ2) (fun h ρ3 => vD (pSl x l h) fun z => P z ρ3) X) X) X := by simp only [eSl, aa', af']
theorem tm' (a : MO) : vE (eO a ρ) P X = vE (a ρ) (fun o ρ1 => P (frz o) ρ1) X := by simp only [eO, aa', cm']
variable {R : O -> PSt -> Prop}
theorem oB' (a : ME) : vE (oE a ρ) R X = vE (a ρ) (fun d ρ1 => R (.fz d) ρ1) X := by simp only [oE, aa', cm']
theorem oA' (i : Nat) (env : List (Option O)) (w : W) : vE (oV i ⟨env, w⟩) R X = vG env[i]? i ⟨env, w⟩ R := by
  show vE (match env[i]? with | some (some (.fz d)) => Res.ok (O.fz d) ⟨env, w⟩ | some (some .exn) => .bad | some (some .clo) => .bad | some (some o) => .ok o ⟨env.set i none, w⟩ | _ => .bad) R X = _
  rcases env[i]? with _ | _ | o
  . rfl
  . rfl
  . cases o <;> rfl
theorem hD' (f : MF) (as : MA) : vE (aO' f as ρ) R X = vE (as ρ) (fun ds ρ1 => vF (f ds ρ1.w) (fun o w => R o ⟨ρ1.env, w⟩) fun x w => X x ⟨ρ1.env, w⟩) X := by
  simp only [aO', aa']
  congr
  funext ds ρ1
  cases f ds ρ1.w <;> rfl
theorem hm' (a : ME) : vE (sq' a ρ) R X = vE (a ρ) (fun d ρ1 => vD (asL d) fun ds => R (.lst (ds.map .fz)) ρ1) X := by
  simp only [sq', aa']
  congr
  funext d ρ1
  cases d <;> rfl
theorem hA' (k : D) (a : ME) : vE (rG' k a ρ) P X = vE (a ρ) (fun d ρ1 => P (.dct [k] [d]) ρ1) X := by simp only [rG', aa', cm']
theorem hB' : vE (uQ' ρ) P X = P (.dct [] []) ρ := rfl
theorem eT' : vE (nJ' ρ) R X = R (.dct [] []) ρ := rfl
theorem eW' (i : Nat) (a : ME) (env : List (Option O)) (w : W) : vE (po' i a ⟨env, w⟩) P X = vL env[i]? fun _ => vE (a ⟨env, w⟩) (fun d ρ1 => vN d fun z => vL ρ1.env[i]? fun os => eo' os.length (vD (ixn os.length z) fun j => vD os[j]? fun o => vD (asF o) fun y => P y ⟨ρ1.env.set i (some (.lst (os.eraseIdx j))), ρ1.w⟩)) X := by
  show vE (match env[i]? with
  | some (some (.lst _)) => (a ⟨env, w⟩).bind fun d ρ1 => match ρ1.env[i]?, d with
    | some (some (.lst os)), .int z => (match (if os.length <= bB' then ixn os.length z else none) with
      | some j => (match os[j]? with
        | some (.fz y) => .ok y ⟨ρ1.env.set i (some (.lst (os.eraseIdx j))), ρ1.w⟩
        | _ => .bad)
      | none => .bad)
    | _, _ => .bad
  | _ => .bad) P X = _
  rcases env[i]? with _ | _ | o
  . rfl
  . rfl
  cases o with
  | lst os0 =>
    simp only [aa', vL]
    congr
    funext d ρ1
    cases d with
    | int z =>
      simp only [vN]
      rcases ρ1.env[i]? with _ | _ | o
      . rfl
      . rfl
      cases o with
      | lst os =>
        simp only [eo']
        by_cases hl : os.length <= 16777216
        . simp only [hl, if_pos, true_and]
          cases ixn os.length z with
          | none => rfl
          | some j =>
            simp only [vD]
            rcases os[j]? with _ | o
            . rfl
            . cases o <;> rfl
        . simp only [hl, if_neg, false_and]; simp [vE]
      | _ => rfl
    | _ =>
      rcases ρ1.env[i]? with _ | _ | o
      . rfl
      . rfl
      cases o <;> rfl
  | _ => rfl
theorem j5' (i : Nat) (b : ME) (env : List (Option O)) (w : W) : vE (yO' i b ⟨env, w⟩) P X = vO env[i]? fun _ => vE (b ⟨env, w⟩) (fun k ρ1 => vO ρ1.env[i]? fun o => vD (ixO o k) fun z => P z ρ1) X := by
  show vE (match env[i]? with
  | some (some _) => (b ⟨env, w⟩).bind fun k ρ1 => match ρ1.env[i]? with
    | some (some o) => ofO (ixO o k) ρ1
    | _ => .bad
  | _ => .bad) P X = _
  rcases env[i]? with _ | _ | o
  . rfl
  . rfl
  simp only [aa', vO]
  congr
  funext k ρ1
  rcases ρ1.env[i]? with _ | _ | o
  . rfl
  . rfl
  exact af' _
theorem j6' (i : Nat) (a : ME) : vE (xA' i a ρ) P X = vE (a ρ) (fun x ρ1 => vO ρ1.env[i]? fun o => vD (inO x o) fun z => P z ρ1) X := by
  simp only [xA', aa']
  congr
  funext x ρ1
  rcases ρ1.env[i]? with _ | _ | o
  . rfl
  . rfl
  exact af' _
theorem j7' (neg : Bool) (i : Nat) (a : ME) : vE (xB' neg i a ρ) P X = vE (a ρ) (fun x ρ1 => vO ρ1.env[i]? fun o => vD (sy' x o) fun b => P (.bl (b != neg)) ρ1) X := by
  simp only [xB', aa']
  congr 1
  funext x ρ1
  cases ρ1.env[i]? with
  | none => rfl
  | some y =>
    cases y with
    | none => rfl
    | some o =>
      show vE (ofO ((sy' x o).map fun b => D.bl (b != neg)) ρ1) P X = vD (sy' x o) _
      rw [af']
      cases sy' x o <;> rfl
theorem hz' (i : Nat) (a : ME) : vE (rE' i a ρ) P X = vL ρ.env[i]? fun _ => vE (a ρ) (fun x ρ1 => vO ρ1.env[i]? fun o => vD (ju' x o) fun n => P (.int (n : Nat)) ρ1) X := by
  unfold rE'
  rcases ρ.env[i]? with _ | _ | o
  . rfl
  . rfl
  cases o with
  | lst os0 =>
    show vE ((a ρ).bind _) P X = vE (a ρ) _ X
    rw [aa']
    congr 1
    funext x ρ1
    cases ρ1.env[i]? with
    | none => rfl
    | some y =>
      cases y with
      | none => rfl
      | some o =>
        show vE (ofO ((ju' x o).map fun n => D.int (n : Nat)) ρ1) P X = vD (ju' x o) _
        rw [af']
        cases ju' x o <;> rfl
  | _ => rfl
theorem d5' (i : Nat) (a : ME) : vE (gP' i a ρ) P X = vE (a ρ) (fun x ρ1 => vO ρ1.env[i]? fun o => vD (pg' (inO x o)) fun z => P z ρ1) X := by
  simp only [gP', aa']
  congr
  funext x ρ1
  rcases ρ1.env[i]? with _ | _ | o
  . rfl
  . rfl
  exact af' _
theorem hy' (i : Nat) : vE (rC' i ρ) P X = vO ρ.env[i]? fun o => vD (mH' o) fun z => P z ρ := by
  unfold rC'
  rcases ρ.env[i]? with _ | _ | o
  . rfl
  . rfl
  exact af' _
theorem j4' (a b : ME) : vE (eQ' a b ρ) P X = vE (a ρ) (fun x ρ1 => vE (b ρ1) (fun y ρ2 => vD (ixW ρ2.w x y) fun z => P z ρ2) X) X := by simp only [eQ', aa', af']
theorem jX' (as : MA) : vE (um' as ρ) R X = vE (as ρ) (fun xs ρ1 => eo' xs.length (R (.fz (.obj ρ1.w.length)) ⟨ρ1.env, ρ1.w ++ [.lst (xs.map .fz)]⟩)) X := by
  simp only [um', aa']
  congr
  funext xs ρ1
  unfold eo'
  by_cases h : xs.length <= 16777216
  . rw [if_pos h]; simp [vE, h]
  . rw [if_neg h]; simp [vE, h]
theorem j8' (cs : List String) (a : ME) (f : String) : vE (xC' cs a f ρ) P X = vE (a ρ) (fun x ρ1 => vD (ry' cs f ρ1.w x) fun z => P z ρ1) X := by simp only [xC', aa', af']
theorem hv' (C : String) (init : MF) (as : MA) : vE (q0' C init as ρ) R X = vE (as ρ) (fun ds ρ1 => vF (init (.obj ρ1.w.length :: ds) (ρ1.w ++ [.ins C []])) (fun o w => o = .fz .non /\ R (.fz (.obj ρ1.w.length)) ⟨ρ1.env, w⟩) fun x w => X x ⟨ρ1.env, w⟩) X := by
  simp only [q0', aa']
  congr
  funext ds ρ1
  cases init (.obj ρ1.w.length :: ds) (ρ1.w ++ [.ins C []]) with
  | ok o w =>
    cases o with
    | fz d => cases d <;> simp [vE, vF]
    | _ => simp [vE, vF]
  | _ => rfl
theorem hu' (C : List String) (m : String) (f : MF) (a : ME) (as : MA) : vE (qZ' C m f a as ρ) R X = vE (a ρ) (fun x ρ1 => nU' C m ρ1.w x = true /\ vE (as ρ1) (fun ds ρ2 => vF (f (x :: ds) ρ2.w) (fun o w => R o ⟨ρ2.env, w⟩) fun x w => X x ⟨ρ2.env, w⟩) X) X := by
  simp only [qZ', aa']
  congr
  funext x ρ1
  by_cases h : nU' C m ρ1.w x = true
  . rw [if_pos h]
    simp only [h, true_and, aa']
    congr
    funext ds ρ2
    cases f (x :: ds) ρ2.w <;> rfl
  . rw [if_neg h]
    simp [vE, h]
def vX (o : Option (Option O)) (A : Prop) : Prop := match o with
  | some (some .exn) => A
  | _ => False
theorem pZ' (i : Nat) (t : ET) (c : String) (x : Exc) : vE (xy' i t c x ρ) P X = vX ρ.env[i]? (x.fs = [] /\ vD (sub t x.cls c) fun b => P (.bl b) ρ) := by
  unfold xy'
  rcases ρ.env[i]? with _ | _ | o
  . rfl
  . rfl
  . cases o <;> try rfl
    show vE (if x.fs = [] then _ else _) P X = (x.fs = [] /\ _)
    by_cases h : x.fs = []
    . rw [if_pos h]; simp only [h, true_and, af']
      cases sub t x.cls c <;> rfl
    . rw [if_neg h]; simp [h, vE]
theorem tj' (i : Nat) (cs : List String) (f : String) (x : Exc) : vE (eXf i cs f x ρ) P X = vX ρ.env[i]? (x.cls ∈ cs /\ vD (x.fs.lookup f) fun d => P d ρ) := by
  unfold eXf
  rcases ρ.env[i]? with _ | _ | o
  . rfl
  . rfl
  . cases o <;> try rfl
    show vE (if x.cls ∈ cs then _ else _) P X = (x.cls ∈ cs /\ _)
    by_cases h : x.cls ∈ cs
    . rw [if_pos h, af']; simp only [h, true_and]
    . rw [if_neg h]; simp [h, vE]
variable {B : Bool -> PSt -> Prop}
theorem oz' (a : ME) : vE (tE a ρ) B X = vE (a ρ) (fun d ρ1 => vB d fun k => B k ρ1) X := by simp only [tE, aa', cG']
theorem hk' (a : MT) : vE (iw' a ρ) B X = vE (a ρ) (fun k ρ1 => B (!k) ρ1) X := by simp only [iw', aa', cm']
theorem hl' (a b : MT) : vE (sk' a b ρ) B X = vE (a ρ) (fun k ρ1 => vI k (vE (b ρ1) B X) (B false ρ1)) X := by simp only [sk', aa', ci', cm']
theorem jO' (a b : MT) : vE (tOr a b ρ) B X = vE (a ρ) (fun k ρ1 => vI k (B true ρ1) (vE (b ρ1) B X)) X := by simp only [tOr, aa', ci', cm']
theorem oy' : vE (tT ρ) B X = B true ρ := rfl
variable {Y : List D -> PSt -> Prop}
theorem hs' (a : ME) : vE (gH' a ρ) Y X = vE (a ρ) (fun d ρ1 => vD (cz' d) fun z => Y z ρ1) X := by simp only [gH', aa', af']
theorem dq' (a : ME) : vE (bM' a ρ) Y X = vE (a ρ) (fun d ρ1 => vD (c3' d) fun z => Y z ρ1) X := by simp only [bM', aa', af']
theorem dp' (a b : ME) : vE (dF' a b ρ) Y X = vE (a ρ) (fun d ρ1 => vE (b ρ1) (fun e ρ2 => vD (c2' d e) fun z => Y z ρ2) X) X := by simp only [dF', aa', af']
theorem hr' (a b : ME) : vE (uE' a b ρ) Y X = vE (a ρ) (fun d ρ1 => vE (b ρ1) (fun e ρ2 => vD (mD' d e) fun z => Y z ρ2) X) X := by simp only [uE', aa', af']
theorem eU' (a b : ME) : vE (rq' a b ρ) Y X = vE (a ρ) (fun d ρ1 => vE (b ρ1) (fun e ρ2 => vD (sB' d e) fun z => Y z ρ2) X) X := by simp only [rq', aa', af']
theorem eV' (a : ME) : vE (rs' a ρ) Y X = vE (a ρ) (fun d ρ1 => vD (enB d) fun z => Y z ρ1) X := by simp only [rs', aa', af']
theorem ht' (a : ME) : vE (uF' a ρ) Y X = vE (a ρ) (fun d ρ1 => vD (qG' d) fun z => Y z ρ1) X := by simp only [uF', aa', af']
theorem j2' (own : List Nat) (i : Nat) (g : MG) (t : MT) (e : ME) : vE (xw' own i g t e ρ) P X = vL ρ.env[i]? fun os => vE (mI' own i g t e os.length 0 [] ρ) (fun ys ρ2 => P (.lst ys) ⟨back ρ.env own (aF' own ρ2.env), ρ2.w⟩) X := by
  unfold xw'
  rcases ρ.env[i]? with _ | _ | o
  . rfl
  . rfl
  cases o with
  | lst os => show vE ((mI' own i g t e os.length 0 [] ρ).bind _) P X = _; rw [aa']; rfl
  | _ => rfl
theorem hn' (own : List Nat) (i : Nat) (g : MG) (t : MT) (e : ME) : vE (xn' own i g t e ρ) R X = vL ρ.env[i]? fun os => vE (mI' own i g t e os.length 0 [] ρ) (fun ys ρ2 => R (.lst (ys.map .fz)) ⟨back ρ.env own (aF' own ρ2.env), ρ2.w⟩) X := by
  unfold xn'
  rcases ρ.env[i]? with _ | _ | o
  . rfl
  . rfl
  cases o with
  | lst os => show vE ((mI' own i g t e os.length 0 [] ρ).bind _) R X = _; rw [aa']; rfl
  | _ => rfl
theorem j3' (own : List Nat) (it : MI) (g : MG) (t : MT) (it1 : MI) (own1 : List Nat) (g1 : MG) (t1 : MT) (e : ME) : vE (xx' own it g t it1 own1 g1 t1 e ρ) P X = vE (it ρ) (fun xs ρ1 => vE (pj' own g t it1 own1 g1 t1 e xs [] ρ1) (fun ys ρ2 => P (.lst ys) ⟨back ρ1.env own (aF' own ρ2.env), ρ2.w⟩) X) X := by simp only [xx', aa', cm']
theorem hq' (own : List Nat) (it : MI) (g : MG) (t : MT) (it1 : MI) (own1 : List Nat) (g1 : MG) (t1 : MT) (e : ME) : vE (xo' own it g t it1 own1 g1 t1 e ρ) R X = vE (it ρ) (fun xs ρ1 => vE (pj' own g t it1 own1 g1 t1 e xs [] ρ1) (fun ys ρ2 => R (.lst (ys.map .fz)) ⟨back ρ1.env own (aF' own ρ2.env), ρ2.w⟩) X) X := by simp only [xo', aa', cm']
theorem oJ' (own : List Nat) (it : MI) (g : MG) (t : MT) (e : ME) : vE (eLc own it g t e ρ) P X = vE (it ρ) (fun xs ρ1 => vE (lcL own g t e xs [] ρ1) (fun ys ρ2 => P (.lst ys) ⟨back ρ1.env own (aF' own ρ2.env), ρ2.w⟩) X) X := by simp only [eLc, aa', cm']
theorem jQ' (own : List Nat) (it : MI) (g : MG) (t : MT) (e : ME) : vE (oLc own it g t e ρ) R X = vE (it ρ) (fun xs ρ1 => vE (lcL own g t e xs [] ρ1) (fun ys ρ2 => R (.lst (ys.map .fz)) ⟨back ρ1.env own (aF' own ρ2.env), ρ2.w⟩) X) X := by simp only [oLc, aa', cm']
variable {N : PSt -> Prop} {rt : O -> W -> Prop} {bk ct : PSt -> Prop} {ex : Exc -> PSt -> Prop}
theorem hU' : vS (bf' ρ) ⟨N, rt, bk, ct, ex⟩ = N ρ := rfl
theorem e7' : vS (o7' ρ) ⟨N, rt, bk, ct, ex⟩ = bk ρ := rfl
theorem hW' : vS (tS' ρ) ⟨N, rt, bk, ct, ex⟩ = ct ρ := rfl
theorem hV' (a : ME) : vS (fz' a ρ) ⟨N, rt, bk, ct, ex⟩ = vE (a ρ) (fun _ ρ1 => N ρ1) ex := by simp only [fz', an']; rfl
theorem ko' (a : MO) : vS (bZ' a ρ) ⟨N, rt, bk, ct, ex⟩ = vE (a ρ) (fun o ρ1 => rt o ρ1.w) ex := by simp only [bZ', an']; rfl
theorem hT' : vS (tR' ρ) ⟨N, rt, bk, ct, ex⟩ = rt (.fz .non) ρ.w := rfl
theorem gr' (a b : MS) : vS (aZ' a b ρ) ⟨N, rt, bk, ct, ex⟩ = vS (a ρ) ⟨fun ρ1 => vS (b ρ1) ⟨N, rt, bk, ct, ex⟩, rt, bk, ct, ex⟩ := by
  unfold aZ'
  cases a ρ <;> rfl
theorem oN' (t : MT) (a b : MS) : vS (sIf t a b ρ) ⟨N, rt, bk, ct, ex⟩ = vE (t ρ) (fun k ρ1 => vI k (vS (a ρ1) ⟨N, rt, bk, ct, ex⟩) (vS (b ρ1) ⟨N, rt, bk, ct, ex⟩)) ex := by simp only [sIf, an', m8']
def gm' (i n : Nat) (A : Prop) : Prop := i < n /\ A
theorem eY' {i n : Nat} (h : i < n) (A : Prop) : gm' i n A = A := by unfold gm'; simp [h]
theorem kn' (i : Nat) (a : MO) : vS (bN' i a ρ) ⟨N, rt, bk, ct, ex⟩ = vE (a ρ) (fun o ρ1 => gm' i ρ1.env.length (N ⟨ρ1.env.set i (some o), ρ1.w⟩)) ex := by
  simp only [bN', an']
  congr
  funext o ρ1
  unfold sm' gm'
  by_cases h : i < ρ1.env.length
  . rw [if_pos h]; simp [vS, h]
  . rw [if_neg h]; simp [vS, h]
theorem ku' (g : MG) (a : ME) : vS (qC' g a ρ) ⟨N, rt, bk, ct, ex⟩ = vE (a ρ) (fun d ρ1 => vD (g d ρ1) N) ex := by
  simp only [qC', an']
  congr
  funext o ρ1
  cases g o ρ1 <;> rfl
theorem kp' (i j : Nat) (a b : ME) : vS (w4' i j a b ρ) ⟨N, rt, bk, ct, ex⟩ = vE (a ρ) (fun x ρ1 => vE (b ρ1) (fun y ρ2 => (i < ρ2.env.length /\ j < ρ2.env.length /\ i ≠ j) /\ N ⟨(ρ2.env.set i (some (.fz x))).set j (some (.fz y)), ρ2.w⟩) ex) ex := by
  simp only [w4', an']
  congr
  funext x ρ1
  congr
  funext y ρ2
  split <;> simp_all [vS]
theorem kt' (f : D -> D -> Option D) (i : Nat) (a : ME) : vS (w8' f i a ρ) ⟨N, rt, bk, ct, ex⟩ = vO ρ.env[i]? fun o => vD (asF o) fun d => vE (a ρ) (fun y ρ1 => vD (f d y) fun z => gm' i ρ1.env.length (N ⟨ρ1.env.set i (some (.fz z)), ρ1.w⟩)) ex := by
  unfold w8'
  rcases ρ.env[i]? with _ | _ | o
  . rfl
  . rfl
  cases o with
  | fz d =>
    simp only [an', vD, vO, asF]
    congr
    funext y ρ1
    cases f d y with
    | none => rfl
    | some z =>
      dsimp only
      unfold sm' gm'
      by_cases h : i < ρ1.env.length
      . rw [if_pos h]; simp [vS, h]
      . rw [if_neg h]; simp [vS, h]
  | _ => rfl
theorem e6' (x : String) : vS (fy' x ρ) ⟨N, rt, bk, ct, ex⟩ = ex ⟨x, []⟩ ρ := rfl
theorem d6' (x f : String) (a : ME) : vS (gu' x f a ρ) ⟨N, rt, bk, ct, ex⟩ = vE (a ρ) (fun d ρ1 => ex ⟨x, [(f, d)]⟩ ρ1) ex := by simp only [gu', an']; rfl
theorem kv' (i : Nat) (a : MO) : vS (qE' i a ρ) ⟨N, rt, bk, ct, ex⟩ = vL ρ.env[i]? fun _ => vE (a ρ) (fun o ρ1 => vL ρ1.env[i]? fun os => gm' os.length 16777216 (N ⟨ρ1.env.set i (some (.lst (os ++ [o]))), ρ1.w⟩)) ex := by
  unfold qE'
  rcases ρ.env[i]? with _ | _ | o
  . rfl
  . rfl
  cases o with
  | lst os0 =>
    simp only [an', vL]
    congr
    funext o ρ1
    rcases ρ1.env[i]? with _ | _ | o2
    . rfl
    . rfl
    cases o2 with
    | lst os =>
      dsimp only
      unfold gm'
      by_cases h : os.length < 16777216
      . rw [if_pos h]; simp [vS, h]
      . rw [if_neg h]; simp [vS, h]
    | _ => rfl
  | _ => rfl
theorem hS' (i : Nat) (k a : ME) : vS (qy' i k a ρ) ⟨N, rt, bk, ct, ex⟩ = vE (a ρ) (fun d ρ1 => vO ρ1.env[i]? fun _ => vE (k ρ1) (fun y ρ2 => vL ρ2.env[i]? fun os => vN y fun z => vD (ixn os.length z) fun j => N ⟨ρ2.env.set i (some (.lst (os.set j (.fz d)))), ρ2.w⟩) ex) ex := by
  simp only [qy', an']
  congr
  funext d ρ1
  rcases ρ1.env[i]? with _ | _ | o
  . rfl
  . rfl
  simp only [an', vO]
  congr
  funext y ρ2
  rcases ρ2.env[i]? with _ | _ | o2
  . rfl
  . rfl
  cases o2 with
  | lst os =>
    cases y with
    | int z => simp only [vL, vN]; cases ixn os.length z <;> rfl
    | _ => rfl
  | _ => rfl
theorem hR' (o k a : ME) : vS (eu' o k a ρ) ⟨N, rt, bk, ct, ex⟩ = vE (a ρ) (fun d ρ1 => vE (o ρ1) (fun x ρ2 => vE (k ρ2) (fun y ρ3 => vD (nk' ρ3.w x y d) fun w => N ⟨ρ3.env, w⟩) ex) ex) ex := by
  simp only [eu', an']
  congr
  funext d ρ1
  congr
  funext x ρ2
  congr
  funext y ρ3
  cases nk' ρ3.w x y d <;> rfl
def sv' (w : W) : D -> Option (List O)
  | .obj n => (match w[n]? with
    | some (.lst os) => some os
    | _ => none)
  | _ => none
def wL' (w : W) (b : Ob) : D -> W
  | .obj n => w.set n b
  | _ => w
theorem hX' (o : ME) (a : MO) : vS (qD' o a ρ) ⟨N, rt, bk, ct, ex⟩ = vE (o ρ) (fun x ρ1 => vD (sv' ρ1.w x) fun _ => vE (a ρ1) (fun y ρ2 => vD (sv' ρ2.w x) fun os => gm' os.length 16777216 (N ⟨ρ2.env, wL' ρ2.w (.lst (os ++ [y])) x⟩)) ex) ex := by
  simp only [qD', an']
  congr
  funext x ρ1
  cases x with
  | obj n =>
    show vS (match ρ1.w[n]? with
      | some (.lst _) => (a ρ1).out fun y ρ2 => (match ρ2.w[n]? with
        | some (.lst os) => if os.length < bB' then .nx ⟨ρ2.env, ρ2.w.set n (.lst (os ++ [y]))⟩ else .bad
        | _ => .bad)
      | _ => .bad) _ = vD (match ρ1.w[n]? with | some (.lst os) => some os | _ => none) _
    rcases ρ1.w[n]? with _ | b
    . rfl
    cases b with
    | lst os0 =>
      show vS ((a ρ1).out _) _ = vE (a ρ1) _ ex
      rw [an']
      congr
      funext y ρ2
      show vS (match ρ2.w[n]? with
        | some (.lst os) => if os.length < bB' then .nx ⟨ρ2.env, ρ2.w.set n (.lst (os ++ [y]))⟩ else .bad
        | _ => .bad) _ = vD (match ρ2.w[n]? with | some (.lst os) => some os | _ => none) _
      rcases ρ2.w[n]? with _ | b
      . rfl
      cases b with
      | lst os =>
        show vS (if os.length < bB' then _ else _) _ = gm' _ _ _
        unfold gm'
        by_cases h : os.length < bB'
        . rw [if_pos h]
          have h' : os.length < 16777216 := h
          simp [h']
          rfl
        . rw [if_neg h]
          have h' : ¬ os.length < 16777216 := h
          simp [h']
          exact fun z => z
      | _ => rfl
    | _ => rfl
  | _ => rfl
theorem hx' (a : ME) : vE (rB' a ρ) P X = vE (a ρ) (fun x ρ1 => vD (uu' ρ1.w x) fun z => P z ρ1) X := by simp only [rB', aa', af']
theorem kr' (cs : List String) (a : ME) (f : String) (v : MO) : vS (w5' cs a f v ρ) ⟨N, rt, bk, ct, ex⟩ = vE (v ρ) (fun o ρ1 => vE (a ρ1) (fun x ρ2 => vD (stF cs f o ρ2.w x) fun w => N ⟨ρ2.env, w⟩) ex) ex := by
  simp only [w5', an']
  congr
  funext d ρ1
  congr
  funext x ρ2
  cases stF cs f d ρ2.w x <;> rfl
theorem kq' (it : MI) (g : MG) (b : MS) : vS (iE' it g b ρ) ⟨N, rt, bk, ct, ex⟩ = vE (it ρ) (fun ds ρ1 => vS (i1' g b ds ρ1) ⟨N, rt, bk, ct, ex⟩) ex := by simp only [iE', an']
theorem e5' (n : Nat) (t : MT) (b : MS) : vS (o6' n t b ρ) ⟨N, rt, bk, ct, ex⟩ = vS (eS' t b n ρ) ⟨N, rt, bk, ct, ex⟩ := rfl
theorem km' (b : MS) (hs : List ((String -> Option Bool) × (Exc -> MS))) : vS (sn' b hs ρ) ⟨N, rt, bk, ct, ex⟩ = vS (b ρ) ⟨N, rt, bk, ct, fun x ρ1 => vS (hds hs x ρ1) ⟨N, rt, bk, ct, ex⟩⟩ := by
  unfold sn'
  cases b ρ <;> rfl
theorem kj' (o : Out) : vS (sr' o) ⟨N, rt, bk, ct, ex⟩ = vS o ⟨N, rt, bk, ct, fun _ _ => False⟩ := by cases o <;> rfl
theorem p8' (i m : Nat) (o : Out) : vS (sp' i m o) ⟨N, rt, bk, ct, ex⟩ = vS o ⟨fun ρ => (ρ.env.length = i + m + 1 /\ N ⟨ρ.env.set i none, ρ.w⟩), rt, fun ρ => (ρ.env.length = i + m + 1 /\ bk ⟨ρ.env.set i none, ρ.w⟩), fun ρ => (ρ.env.length = i + m + 1 /\ ct ⟨ρ.env.set i none, ρ.w⟩), ex⟩ := by
  cases o with
  | nx ρ => by_cases h : ρ.env.length = i + m + 1 <;> simp [sp', vS, h]
  | bk ρ => by_cases h : ρ.env.length = i + m + 1 <;> simp [sp', vS, h]
  | ct ρ => by_cases h : ρ.env.length = i + m + 1 <;> simp [sp', vS, h]
  | _ => rfl
theorem hQ' (x : Exc) : vS (hds [] x ρ) ⟨N, rt, bk, ct, ex⟩ = ex x ρ := rfl
theorem kk' (g : String -> Option Bool) (h : Exc -> MS) (r : List ((String -> Option Bool) × (Exc -> MS))) (x : Exc) : vS (hds ((g, h) :: r) x ρ) ⟨N, rt, bk, ct, ex⟩ = vD (g x.cls) fun k => vI k (vS (h x ρ) ⟨N, rt, bk, ct, fun _ _ => False⟩) (vS (hds r x ρ) ⟨N, rt, bk, ct, ex⟩) := by
  show vS (match g x.cls with | some true => sr' (h x ρ) | some false => hds r x ρ | none => .bad) _ = _
  cases g x.cls with
  | none => rfl
  | some k => cases k with
    | false => rfl
    | true => exact kj' _
theorem kl' (i m : Nat) (b : MS) (g : String -> Option Bool) (h : Exc -> MS) : vS (lp' i m b g h ρ) ⟨N, rt, bk, ct, ex⟩ = vS (b ρ) ⟨N, rt, bk, ct, fun x ρ1 => vD (g x.cls) fun k => vI k (ρ1.env.length = i + m + 1 /\ vS (h x ⟨ρ1.env.set i (some .exn), ρ1.w⟩) ⟨fun ρ => (ρ.env.length = i + m + 1 /\ N ⟨ρ.env.set i none, ρ.w⟩), rt, fun ρ => (ρ.env.length = i + m + 1 /\ bk ⟨ρ.env.set i none, ρ.w⟩), fun ρ => (ρ.env.length = i + m + 1 /\ ct ⟨ρ.env.set i none, ρ.w⟩), fun _ _ => False⟩) (ex x ρ1)⟩ := by
  unfold lp'
  cases b ρ with
  | exc x ρ1 =>
    show vS (match g x.cls with | some true => if ρ1.env.length = i + m + 1 then sp' i m (sr' (h x ⟨ρ1.env.set i (some .exn), ρ1.w⟩)) else .bad | some false => .exc x ρ1 | none => .bad) _ = vD (g x.cls) _
    cases g x.cls with
    | none => rfl
    | some k => cases k with
      | false => rfl
      | true =>
        show vS (if ρ1.env.length = i + m + 1 then _ else _) _ = (ρ1.env.length = i + m + 1 /\ vS _ _)
        by_cases hl : ρ1.env.length = i + m + 1
        . rw [if_pos hl, p8', kj']; simp only [hl, true_and]
        . rw [if_neg hl]; simp [hl, vS]
  | _ => rfl
theorem qd' {k n : Nat} (b : MS) (ds : List D) (w : W) {Q : O -> W -> Prop} {X : Exc -> W -> Prop} (h : ds.length = k) : vF (fnM k n b ds w) Q X = vS (b ⟨ds.map (fun d => some (.fz d)) ++ List.replicate (n - k) none, w⟩) ⟨fun ρ => Q (.fz .non) ρ.w, Q, fun _ => False, fun _ => False, fun x ρ => X x ρ.w⟩ := by
  unfold fnM
  rw [if_pos h]
  cases b ⟨ds.map (fun d => some (.fz d)) ++ List.replicate (n - k) none, w⟩ <;> rfl
theorem hY' {k n : Nat} {b : MS} {ds : List D} {w : W} {Q : O -> W -> Prop} {X : Exc -> W -> Prop} (q : vS (b ⟨ds.map (fun d => some (.fz d)) ++ List.replicate (n - k) none, w⟩) ⟨fun ρ => Q (.fz .non) ρ.w, Q, fun _ => False, fun _ => False, fun x ρ => X x ρ.w⟩) (h : ds.length = k) : vF (fnM k n b ds w) Q X := by
  rw [qd' _ _ _ h]; exact q
theorem kf' (o : O) (w : W) {Q : O -> W -> Prop} {X : Exc -> W -> Prop} : vF (.ok o w) Q X = Q o w := rfl
theorem hP' (x : Exc) (w : W) {Q : O -> W -> Prop} {X : Exc -> W -> Prop} : vF (.exc x w) Q X = X x w := rfl
theorem vF.mono {r : FRes} {Q Q' : O -> W -> Prop} {X : Exc -> W -> Prop} (h : vF r Q FX) (k : ∀ o w, Q o w -> Q' o w) : vF r Q' X := by
  cases r with
  | ok o w => exact k _ _ h
  | exc x w => exact h.elim
  | bad => exact h
theorem vF.monoX {r : FRes} {Q Q' : O -> W -> Prop} {X X' : Exc -> W -> Prop} (h : vF r Q X) (k : ∀ o w, Q o w -> Q' o w) (k2 : ∀ x w, X x w -> X' x w) : vF r Q' X' := by
  cases r with
  | ok o w => exact k _ _ h
  | exc x w => exact k2 _ _ h
  | bad => exact h
theorem vF.exi {r : FRes} {Q : O -> W -> Prop} (h : vF r Q FX) : ∃ o w, r = .ok o w /\ Q o w := by
  cases r with
  | ok o w => exact ⟨o, w, rfl, h⟩
  | exc x w => exact h.elim
  | bad => exact h.elim
theorem vF.of {r : FRes} {Q : O -> W -> Prop} {X : Exc -> W -> Prop} {o : O} {w : W} (e : r = .ok o w) (h : Q o w) : vF r Q X := by rw [e]; exact h
theorem vS.mono {o : Out} {D1 D2 : En} (h : vS o D1) (h1 : ∀ ρ, D1.nx ρ -> D2.nx ρ) (h2 : ∀ o w, D1.rt o w -> D2.rt o w) (h3 : ∀ ρ, D1.bk ρ -> D2.bk ρ) (h4 : ∀ ρ, D1.ct ρ -> D2.ct ρ) (h5 : ∀ x ρ, D1.ex x ρ -> D2.ex x ρ) : vS o D2 := by
  cases o with
  | nx ρ => exact h1 _ h
  | rt o w => exact h2 _ _ h
  | bk ρ => exact h3 _ h
  | ct ρ => exact h4 _ h
  | exc x ρ => exact h5 _ _ h
  | bad => exact h
theorem vE.mono {r : Res α} {Q Q' : α -> PSt -> Prop} {X X' : Exc -> PSt -> Prop} (h : vE r Q X) (k : ∀ a ρ, Q a ρ -> Q' a ρ) (k2 : ∀ x ρ, X x ρ -> X' x ρ) : vE r Q' X' := by
  cases r with
  | ok a ρ => exact k _ _ h
  | exc x ρ => exact k2 _ _ h
  | bad => exact h
theorem e4' {a b : MS} (J : PSt -> Prop) (h : vS (a ρ) ⟨J, rt, bk, ct, ex⟩) (k : ∀ ρ1, J ρ1 -> vS (b ρ1) ⟨N, rt, bk, ct, ex⟩) : vS (aZ' a b ρ) ⟨N, rt, bk, ct, ex⟩ := by
  rw [gr']
  exact h.mono k (fun _ _ z => z) (fun _ z => z) (fun _ z => z) (fun _ _ z => z)
theorem hL' {p : Prop} [Decidable p] {A B : Prop} (h1 : p -> A) (h2 : ¬ p -> B) : vI (decide p) A B := by
  by_cases h : p
  . rw [decide_eq_true h]; exact h1 h
  . rw [decide_eq_false h]; exact h2 h
theorem dr' {γ : Type} {g : MG} {b : MS} {f : γ -> D} {cs : List γ} (Inv : List γ -> PSt -> Prop) (h0 : Inv [] ρ)
    (step : ∀ pre c post ρ, cs = pre ++ c :: post -> Inv pre ρ -> vD (g (f c) ρ) fun ρ1 => vS (b ρ1) ⟨Inv (pre ++ [c]), rt, N, Inv (pre ++ [c]), ex⟩)
    (hend : ∀ ρ, Inv cs ρ -> N ρ) : vS (i1' g b (cs.map f) ρ) ⟨N, rt, bk, ct, ex⟩ := by
  have main : ∀ (post pre : List γ) (ρ : PSt), cs = pre ++ post -> Inv pre ρ -> vS (i1' g b (post.map f) ρ) ⟨N, rt, bk, ct, ex⟩ := by
    intro post
    induction post with
    | nil =>
      intro pre ρ e h
      rw [List.append_nil] at e
      exact hend ρ (e ▸ h)
    | cons d post ih =>
      intro pre ρ e h
      have s := step pre d post ρ e h
      rw [List.map_cons]
      unfold i1'
      cases eg : g (f d) ρ with
      | none => rw [eg] at s; exact s
      | some ρ1 =>
        rw [eg] at s
        have s : vS (b ρ1) _ := s
        dsimp only
        cases eb : b ρ1 with
        | nx ρ2 => rw [eb] at s; exact ih (pre ++ [d]) ρ2 (by rw [e, List.append_assoc]; rfl) s
        | ct ρ2 => rw [eb] at s; exact ih (pre ++ [d]) ρ2 (by rw [e, List.append_assoc]; rfl) s
        | bk ρ2 => rw [eb] at s; exact s
        | rt o w => rw [eb] at s; exact s
        | exc x ρ2 => rw [eb] at s; exact s
        | bad => rw [eb] at s; exact s
  exact main cs [] ρ rfl h0
theorem e8' {g : MG} {b : MS} {lo : Int} {n : Nat} (Inv : Nat -> PSt -> Prop) (h0 : Inv 0 ρ)
    (step : ∀ k ρ, k < n -> Inv k ρ -> vD (g (.int (lo + (k : Nat))) ρ) fun ρ1 => vS (b ρ1) ⟨Inv (k + 1), rt, N, Inv (k + 1), ex⟩)
    (hend : ∀ ρ, Inv n ρ -> N ρ) : vS (i1' g b (rgI lo n) ρ) ⟨N, rt, bk, ct, ex⟩ := by
  unfold rgI
  refine dr' (fun pre ρ => Inv pre.length ρ) h0 (fun pre c post ρ e h => ?_) (fun ρ h => hend ρ (by rwa [List.length_range] at h))
  have hl : pre.length < n := by
    have := congrArg List.length e
    rw [List.length_range, List.length_append, List.length_cons] at this
    omega
  have hc : c = pre.length := by
    have h1 : (List.range n)[pre.length]? = some c := by rw [e, List.getElem?_append_right (Nat.le_refl _), Nat.sub_self]; rfl
    rw [List.getElem?_range hl] at h1
    exact (Option.some.inj h1).symm
  subst hc
  have := step pre.length ρ hl h
  simp only [List.length_append, List.length_cons, List.length_nil, Nat.zero_add]
  exact this
theorem hZ' {own : List Nat} {g : MG} {t : MT} {e : ME} {γ : Type} {f : γ -> D} {cs : List γ} {Q : List D -> PSt -> Prop} (hl : cs.length <= 16777216) (Inv : List γ -> List D -> PSt -> Prop) (h0 : Inv [] [] ρ)
    (step : ∀ pre c post acc ρ, cs = pre ++ c :: post -> Inv pre acc ρ -> vD (g (f c) ⟨aF' own ρ.env, ρ.w⟩) fun ρ1 => vE (t ρ1) (fun k ρ2 => vI k (vE (e ρ2) (fun y ρ3 => Inv (pre ++ [c]) (acc ++ [y]) ρ3) PX) (Inv (pre ++ [c]) acc ρ2)) PX)
    (hend : ∀ acc ρ, Inv cs acc ρ -> Q acc ρ) : vE (lcL own g t e (cs.map f) [] ρ) Q X := by
  have main : ∀ (post pre : List γ) (acc : List D) (ρ : PSt), cs = pre ++ post -> acc.length <= pre.length -> Inv pre acc ρ -> vE (lcL own g t e (post.map f) acc ρ) Q X := by
    intro post
    induction post with
    | nil =>
      intro pre acc ρ e' hacc h
      rw [List.append_nil] at e'
      exact hend acc ρ (e' ▸ h)
    | cons d post ih =>
      intro pre acc ρ e' hacc h
      have s := step pre d post acc ρ e' h
      have hpre : pre.length < 16777216 := by
        have := congrArg List.length e'
        rw [List.length_append, List.length_cons] at this
        omega
      rw [List.map_cons]
      unfold lcL
      cases eg : g (f d) ⟨aF' own ρ.env, ρ.w⟩ with
      | none => rw [eg] at s; exact s
      | some ρ1 =>
        rw [eg] at s
        have s : vE (t ρ1) _ _ := s
        dsimp only
        cases et : t ρ1 with
        | bad => rw [et] at s; exact s
        | exc x ρ2 => rw [et] at s; exact s.elim
        | ok k ρ2 =>
          rw [et] at s
          have s : vI k _ _ := s
          show vE (if k = true then _ else _) Q X
          have e2 : cs = (pre ++ [d]) ++ post := by rw [e', List.append_assoc]; rfl
          cases k with
          | false =>
            rw [if_neg Bool.false_ne_true]
            exact ih (pre ++ [d]) acc ρ2 e2 (by rw [List.length_append]; omega) s
          | true =>
            rw [if_pos rfl]
            have s : vE (e ρ2) _ _ := s
            cases ee : e ρ2 with
            | bad => rw [ee] at s; exact s
            | exc x ρ3 => rw [ee] at s; exact s.elim
            | ok y ρ3 =>
              rw [ee] at s
              show vE (if acc.length < bB' then _ else _) Q X
              rw [if_pos (show acc.length < 16777216 by omega)]
              exact ih (pre ++ [d]) (acc ++ [y]) ρ3 e2 (by rw [List.length_append, List.length_append, List.length_cons, List.length_cons]; omega) s
  exact main cs [] [] ρ rfl (Nat.le_refl _) h0
end
end M
namespace M
def vC (c : Prop) (A : Prop) : Prop := c /\ A
def vOb (o : Option Ob) (P : List O -> Prop) : Prop := match o with
  | some (.lst os) => P os
  | _ => False
def vR' (o : Option Ob) (P : String -> List (String × O) -> Prop) : Prop := match o with
  | some (.ins C fs) => P C fs
  | _ => False
theorem kd' (C : String) (fs : List (String × O)) {P : String -> List (String × O) -> Prop} : vR' (some (.ins C fs)) P = P C fs := rfl
theorem qe' (cs : List String) (f : String) (o : O) (w : W) (n : Nat) {N : W -> Prop} : vD (stF cs f o w (.obj n)) N = vR' w[n]? (fun C fs => vC (C ∈ cs /\ fs.length < 1000) (N (w.set n (.ins C (mF' f o fs))))) := by
  show vD (match w[n]? with | some (.ins C fs) => if C ∈ cs /\ fs.length < 1000 then some (w.set n (.ins C (mF' f o fs))) else none | _ => none) N = _
  rcases w[n]? with _ | ob
  . rfl
  . cases ob with
    | ins C fs =>
      show vD (if _ then _ else _) N = vC _ _
      unfold vC
      by_cases h : C ∈ cs /\ fs.length < 1000
      . rw [if_pos h]; simp [vD, h]
      . rw [if_neg h]
        show False = (_ /\ _)
        rw [eq_iff_iff]
        exact ⟨False.elim, fun a => h a.1⟩
    | _ => rfl
theorem eZ' (os : List O) {P : List O -> Prop} : vOb (some (.lst os)) P = P os := rfl
theorem kh' {c : Prop} (h : c) (A : Prop) : vC c A = A := by unfold vC; simp [h]
theorem e3' (A : Prop) : vC True A = A := by unfold vC; simp
theorem aw' {α : Type} {c : Prop} [Decidable c] {x : α} {Q : α -> Prop} : vD (if c then some x else none) Q = vC c (Q x) := by
  unfold vC
  by_cases h : c
  . rw [if_pos h]; simp [vD, h]
  . rw [if_neg h]; simp [vD, h]
theorem a7' {α β : Type} {f : α -> β} {o : Option α} {Q : β -> Prop} : vD (o.map f) Q = vD o (fun a => Q (f a)) := by cases o <;> rfl
theorem kg' {α β : Type} {f : α -> Option β} {o : Option α} {Q : β -> Prop} : vD (o.bind f) Q = vD o (fun a => vD (f a) Q) := by cases o <;> rfl
section
variable {Q : D -> Prop} {Y : List D -> Prop}
theorem iv' (i j : Int) : vD (cD' (.int i) (.int j)) Q = Q (.int (i + j)) := rfl
theorem it' (a b : Tx) : vD (cD' (.str a) (.str b)) Q = eo' (a.length + b.length) (Q (.str (a ++ b))) := aw'
theorem iu' (a b : List D) : vD (cD' (.lst a) (.lst b)) Q = eo' (a.length + b.length) (Q (.lst (a ++ b))) := aw'
theorem is' (a b : List D) : vD (cD' (.tup a) (.tup b)) Q = eo' (a.length + b.length) (Q (.tup (a ++ b))) := aw'
theorem fk' (i j : Int) : vD (uf' (.int i) (.int j)) Q = Q (.int (i + j)) := rfl
theorem kx' (i j : Int) : vD (vW' (.int i) (.int j)) Q = Q (.int (i - j)) := rfl
theorem kI' (i j : Int) : vD (gn' (.int i) (.int j)) Q = vC (((-18446744073709551616 < i /\ i < 18446744073709551616) \/ (-18446744073709551616 < j /\ j < 18446744073709551616)) \/ ((-2582249878086908589655919172003011874329705792829223512830659356540647622016841194629645353280137831435903171972747493376 < i /\ i < 2582249878086908589655919172003011874329705792829223512830659356540647622016841194629645353280137831435903171972747493376) /\ (-2582249878086908589655919172003011874329705792829223512830659356540647622016841194629645353280137831435903171972747493376 < j /\ j < 2582249878086908589655919172003011874329705792829223512830659356540647622016841194629645353280137831435903171972747493376))) (Q (.int (i * j))) := by
  show vD (if (small64 i = true \/ small64 j = true) \/ _ then _ else _) Q = _
  rw [aw']
  congr 1
  simp [small64]
theorem ig' (a : Tx) (j : Int) : vD (gn' (.str a) (.int j)) Q = vC (j < 4611686018427387904 /\ -4611686018427387904 <= j /\ a.length * j.toNat <= 16777216) (Q (.str (List.replicate j.toNat a).flatten)) := aw'
theorem ih' (a : List D) (j : Int) : vD (gn' (.lst a) (.int j)) Q = vC (j < 4611686018427387904 /\ -4611686018427387904 <= j /\ a.length * j.toNat <= 16777216) (Q (.lst (List.replicate j.toNat a).flatten)) := aw'
theorem ir' (i j : Int) : vD (fE' (.int i) (.int j)) Q = vC (0 < j /\ j < 1606938044258990275541962092341162602522202993782792835301376) (Q (.int (i / j))) := aw'
theorem kJ' (i j : Int) : vD (lE' (.int i) (.int j)) Q = vC (0 < j) (Q (.int (i % j))) := aw'
theorem kE' (i j : Int) : vD (ub' (.int i) (.int j)) Q = vC (0 <= j /\ j <= 1000 /\ -18446744073709551616 < i /\ i < 18446744073709551616) (Q (.int (i ^ j.toNat))) := by
  show vD (if 0 <= j /\ j <= 1000 /\ small64 i = true then _ else _) Q = _
  rw [aw']
  congr 1
  simp [small64]
theorem kF' (i : Int) : vD (uc' (.int i)) Q = Q (.int (-i)) := rfl
theorem k3' (i j : Int) : vD (pEq (.int i) (.int j)) Q = Q (.bl (decide (i = j))) := by
  show Q (.bl (i == j)) = _
  congr 2
theorem k1' (i j : Tx) : vD (pEq (.str i) (.str j)) Q = Q (.bl (decide (i = j))) := by
  show Q (.bl (i == j)) = _
  congr 2
  rw [Bool.eq_iff_iff]
  simp
theorem k4' (i j : Bool) : vD (pEq (.bl i) (.bl j)) Q = Q (.bl (i == j)) := rfl
theorem oW' (x y : D) : vD (pEq x y) Q = vC (dat x = true /\ dat y = true /\ dep x <= 64 /\ dep y <= 64) (Q (.bl (eqb x y))) := by
  unfold pEq ob eqv
  rw [a7', aw']
theorem kH' (i j : Int) : vD (pNe (.int i) (.int j)) Q = Q (.bl (!decide (i = j))) := by
  show Q (.bl (!(i == j))) = _
  congr 3
theorem kG' (i j : Tx) : vD (pNe (.str i) (.str j)) Q = Q (.bl (!decide (i = j))) := by
  show Q (.bl (!(i == j))) = _
  congr 3
  rw [Bool.eq_iff_iff]
  simp
theorem oO' (x y : D) : vD (pNe x y) Q = vC (dat x = true /\ dat y = true /\ dep x <= 64 /\ dep y <= 64) (Q (.bl (!eqb x y))) := by
  unfold pNe ob eqv
  rw [a7', a7', aw']
theorem kU' (x : D) : vD (pIs x .non) Q = Q (.bl (dh' x)) := by cases x <;> rfl
theorem kV' (x y : Bool) : vD (pIs (.bl x) (.bl y)) Q = Q (.bl (x == y)) := rfl
theorem d7' (x : D) : vD (iL' x .non) Q = Q (.bl (!dh' x)) := by cases x <;> rfl
theorem d8' (x y : Bool) : vD (iL' (.bl x) (.bl y)) Q = Q (.bl (!(x == y))) := rfl
theorem oP' (i j : Int) : vD (pLt (.int i) (.int j)) Q = Q (.bl (decide (i < j))) := rfl
theorem oQ' (i j : Int) : vD (pLe (.int i) (.int j)) Q = Q (.bl (decide (i <= j))) := rfl
theorem oR' (i j : Int) : vD (pGt (.int i) (.int j)) Q = Q (.bl (decide (j < i))) := rfl
theorem oT' (i j : Int) : vD (pGe (.int i) (.int j)) Q = Q (.bl (decide (j <= i))) := rfl
theorem kM' (i j : Tx) : vD (pLt (.str i) (.str j)) Q = Q (.bl (decide (i < j))) := rfl
theorem kN' (i j : Tx) : vD (pLe (.str i) (.str j)) Q = Q (.bl (!decide (j < i))) := rfl
theorem kY' (i j : Tx) : vD (pGt (.str i) (.str j)) Q = Q (.bl (decide (j < i))) := rfl
theorem k0' (i j : Tx) : vD (pGe (.str i) (.str j)) Q = Q (.bl (!decide (i < j))) := rfl
theorem kX' (c : Nat) (s : Tx) : vD (pIn (.str [c]) (.str s)) Q = Q (.bl (decide (c ∈ s))) := rfl
theorem if' (c : Nat) (s : Tx) : vD (fC' (.str [c]) (.str s)) Q = Q (.bl (!decide (c ∈ s))) := rfl
theorem iD' (ns : List Int) : (ns.map D.int).all sca = true := by induction ns <;> simp_all [sca]
theorem jd' (i : Int) (ns : List Int) : ((ns.map D.int).any fun d => eqb d (.int i)) = decide (i ∈ ns) := by
  induction ns with
  | nil => rfl
  | cons n ns ih =>
    simp only [List.map_cons, List.any_cons, ih]
    rw [Bool.eq_iff_iff]
    simp [eqb]
    exact ⟨fun h => h.elim (fun e => .inl e.symm) .inr, fun h => h.elim (fun e => .inl e.symm) .inr⟩
theorem io' (i : Int) (ns : List Int) : vD (pIn (.int i) (.tup (ns.map .int))) Q = Q (.bl (decide (i ∈ ns))) := by
  show vD (if sca (.int i) = true /\ (ns.map D.int).all sca = true then some (D.bl ((ns.map D.int).any fun d => eqb d (.int i))) else none) Q = _
  rw [iD', jd']
  rfl
theorem ip' (i : Int) (ns : List Int) : vD (pIn (.int i) (.lst (ns.map .int))) Q = Q (.bl (decide (i ∈ ns))) := by
  show vD (if sca (.int i) = true /\ (ns.map D.int).all sca = true then some (D.bl ((ns.map D.int).any fun d => eqb d (.int i))) else none) Q = _
  rw [iD', jd']
  rfl
theorem ik' (s : Tx) : vD (dg' (.str s)) Q = Q (.int s.length) := rfl
theorem il' (s : List D) : vD (dg' (.lst s)) Q = Q (.int s.length) := rfl
theorem ij' (s : List D) : vD (dg' (.tup s)) Q = Q (.int s.length) := rfl
theorem kQ' (s : Tx) (i : Int) : vD (pIx (.str s) (.int i)) Q = vD (ati s i) (fun c => Q (.str [c])) := a7'
theorem kS' (s : List D) (i : Int) : vD (pIx (.lst s) (.int i)) Q = vD (ati s i) Q := rfl
theorem kP' (s : List D) (i : Int) : vD (pIx (.tup s) (.int i)) Q = vD (ati s i) Q := rfl
theorem uy' {n : Nat} {i : Int} (h : 0 <= i) (h2 : i < n) : ixn n i = some i.toNat := by unfold ixn; rw [if_pos h, if_pos h2]
theorem jb' {α : Type} {xs : List α} {i : Int} (h : 0 <= i) : ati xs i = xs[i.toNat]? := by
  unfold ati ixn
  rw [if_pos h]
  split
  . rfl
  . rename_i h2
    rw [List.getElem?_eq_none (by omega)]
    rfl
theorem kz' (s : Tx) (lo hi : Option Int) : vD (pSl (.str s) lo hi) Q = Q (.str (cut s lo hi)) := rfl
theorem kB' (s : List D) (lo hi : Option Int) : vD (pSl (.lst s) lo hi) Q = Q (.lst (cut s lo hi)) := rfl
theorem ky' (s : List D) (lo hi : Option Int) : vD (pSl (.tup s) lo hi) Q = Q (.tup (cut s lo hi)) := rfl
theorem kA' (s : List D) (lo hi : Option Int) : vD (pSl (.scr s) lo hi) Q = Q (.lst (cut s lo hi)) := rfl
theorem px' {α : Type} {s : List α} {i : Int} (h : 0 <= i) : cut s none (some i) = s.take i.toNat := by
  unfold cut six
  simp only [if_neg (show ¬ i < 0 by omega), List.drop_zero, Nat.sub_zero]
  rcases Nat.le_total i.toNat s.length with h | h
  . rw [Nat.min_eq_left h]
  . rw [Nat.min_eq_right h, List.take_length, List.take_of_length_le h]
theorem oj' {α : Type} {s : List α} {i : Int} (h : 0 <= i) : cut s (some i) none = s.drop i.toNat := by
  unfold cut six
  simp only [if_neg (show ¬ i < 0 by omega)]
  rcases Nat.le_total i.toNat s.length with h | h
  . rw [Nat.min_eq_left h, List.take_of_length_le (by rw [List.length_drop]; omega)]
  . rw [Nat.min_eq_right h, List.drop_length, List.drop_of_length_le h, List.take_nil]
theorem ic' (s : Tx) : vD (jp' (.str s)) Q = Q (.str s.reverse) := rfl
theorem id' (s : List D) : vD (jp' (.lst s)) Q = Q (.lst s.reverse) := rfl
theorem nh' (l : List Tx) : cn' (l.map .str) = some l := by
  induction l with
  | nil => rfl
  | cons a l ih => simp [cn', ih]
theorem fN' : ∀ l : List Tx, bR' [] l = l.flatten
  | [] => rfl
  | [x] => by simp [bR']
  | x :: y :: r => by
    have := fN' (y :: r)
    simp only [bR', this, List.flatten_cons, List.nil_append]
theorem en' (l : List Tx) : vD (dE' [] [.lst (l.map .str)]) Q = eo' (l.map List.length).sum (Q (.str l.flatten)) := by
  show vD ((cn' (l.map .str)).bind _) Q = _
  rw [nh']
  show vD (if _ then _ else _) Q = _
  rw [aw', fN']
  simp [vC, eo']
theorem lf' : ∀ l : Tx, ((l.map fun c => [c]).map List.length).sum = l.length
  | [] => rfl
  | c :: l => by simp only [List.map_cons, List.sum_cons, lf' l, List.length_cons, List.length_nil]; omega
theorem i2' : ∀ l : Tx, (l.map fun c => [c]).flatten = l
  | [] => rfl
  | c :: l => by simp only [List.map_cons, List.flatten_cons, i2' l]; rfl
theorem fi' (l : Tx) : vD (dE' [] [.lst (l.map chD)]) Q = eo' l.length (Q (.str l)) := by
  have h := en' (Q := Q) (l.map fun c => [c])
  rw [List.map_map, lf', i2'] at h
  exact h
theorem iq' (a b : Tx) : vD (uq' a [.str b]) Q = Q (.int (fnd (sz' a b))) := rfl
theorem fj' (a b : Tx) : vD (ph' a [.str b]) Q = vD (sz' a b) (fun i => Q (.int (i : Nat))) := a7'
theorem e9' (s : Tx) : vD (pa' (.str s)) Q = vC (s.all (fun c => decide (c < 128)) = true /\ s.length <= 5592405) (Q (.str (s.map up1))) := aw'
theorem kW' (i : Int) : vD (jq' (.int i)) Q = Q (.int i) := rfl
theorem in' (b : Bool) : vD (jq' (.bl b)) Q = Q (.int (if b then 1 else 0)) := rfl
theorem lb' (i : Int) : vD (vX' (.int i)) Q = Q (.int (if i < 0 then -i else i)) := rfl
theorem kL' (i j : Int) : vD (ue' (.int i) (.int j)) Q = Q (.int (max i j)) := by
  show Q (.int (if j > i then j else i)) = _
  congr 2
  split <;> omega
theorem kK' (i j : Int) : vD (ud' (.int i) (.int j)) Q = Q (.int (min i j)) := by
  show Q (.int (if j < i then j else i)) = _
  congr 2
  split <;> omega
theorem h7' (s : List D) : vD (fB' (.lst s)) Q = Q (.tup s) := rfl
theorem h6' (s : List D) : vD (fB' (.tup s)) Q = Q (.tup s) := rfl
theorem ff' (s : List D) : vD (fD' (.lst s)) Q = Q (.lst s) := rfl
theorem fd' (s : List D) : vD (fD' (.tup s)) Q = Q (.lst s) := rfl
theorem fa' (s : Tx) : vD (cC' (.str s)) Q = vC (s.length < 64) (Q (.lst ((bK' s).map chD))) := aw'
theorem kT' (t : String) (d : D) : vD (bs' t d) Q = vD (tyn d) (fun n => Q (.bl (n == t || (n == "bool" && t == "int")))) := a7'
theorem l6' (l : List Int) : bA' (l.map .int) = some l := by
  induction l with
  | nil => rfl
  | cons a l ih => simp [bA', ih]
theorem ja' (l : List Bool) : bools (l.map .bl) = some l := by
  induction l with
  | nil => rfl
  | cons a l ih => simp [bools, ih]
theorem kw' (l : List Int) : vD (yI' (.lst (l.map .int))) Q = Q (.int l.sum) := by
  show vD ((bA' (l.map .int)).map _) Q = _
  rw [l6']
  rfl
theorem la' (l : List Bool) : vD (lF' (.lst (l.map .bl))) Q = Q (.bl (l.all id)) := by
  show vD ((bools (l.map .bl)).map _) Q = _
  rw [ja']
  rfl
theorem k9' (l : List Bool) : vD (mG' (.lst (l.map .bl))) Q = Q (.bl (l.any id)) := by
  show vD ((bools (l.map .bl)).map _) Q = _
  rw [ja']
  rfl
theorem ib' (s : List D) : vD (cz' (.lst s)) Y = Y s := rfl
theorem h9' (s : List D) : vD (cz' (.tup s)) Y = Y s := rfl
theorem ia' (s : Tx) : vD (cz' (.str s)) Y = Y (s.map chD) := rfl
theorem kD' (j : Int) : vD (c3' (.int j)) Y = vC (-4611686018427387904 <= j /\ j < 4611686018427387904) (Y (rgI 0 j.toNat)) := by
  show vD (if mM' j = true then _ else _) Y = _
  rw [aw']
  congr 1
  simp [mM']
theorem kC' (i j : Int) : vD (c2' (.int i) (.int j)) Y = vC ((-4611686018427387904 <= i /\ i < 4611686018427387904) /\ (-4611686018427387904 <= j /\ j < 4611686018427387904)) (Y (rgI i (j - i).toNat)) := by
  show vD (if mM' i = true /\ mM' j = true then _ else _) Y = _
  rw [aw']
  congr 1
  simp [mM']
theorem h3' (a b : Tx) : vD (mD' (.str a) (.str b)) Y = Y (b0' (a.map chD) (b.map chD)) := rfl
theorem h5' (a b : List D) : vD (mD' (.lst a) (.lst b)) Y = Y (b0' a b) := rfl
theorem h0' (a b : List D) : vD (mD' (.tup a) (.tup b)) Y = Y (b0' a b) := rfl
theorem h4' (a : Tx) (b : List D) : vD (sB' (.str a) (.tup b)) Y = Y (b0' (a.map chD) b) := rfl
theorem k5' (a : Tx) : vD (enB (.str a)) Y = Y (gN' 0 (a.map chD)) := rfl
theorem k6' (a : List D) : vD (enB (.lst a)) Y = Y (gN' 0 a) := rfl
theorem fc' (a : List D) : vD (qG' (.lst a)) Y = Y a.reverse := rfl
theorem fb' (a : List D) : vD (qG' (.tup a)) Y = Y a.reverse := rfl
theorem ii' (j : Int) : vD (iK' (.int j)) Q = vC (RgB 0 j = true) (Q (.lst (l7' 0 j))) := aw'
theorem vK' {a b : Int} (h1 : 0 <= a) (h2 : b <= 16777216) (h3 : a <= 16777216) (h4 : 0 <= b) : RgB a b = true := by
  unfold RgB
  simp only [Bool.and_eq_true, decide_eq_true_eq]
  omega
theorem oV' (i : Nat) (d : D) (env : List (Option O)) (w : W) {N : PSt -> Prop} : vD (gN i d ⟨env, w⟩) N = gm' i env.length (N ⟨env.set i (some (.fz d)), w⟩) := aw'
theorem oU' (is : List Nat) (ds : List D) (ρ : PSt) {N : PSt -> Prop} : vD (gT is (.tup ds) ρ) N = vD (gNs is ds ρ) N := rfl
theorem kZ' (ρ : PSt) {N : PSt -> Prop} : vD (gNs [] [] ρ) N = N ρ := rfl
theorem oS' (i : Nat) (is : List Nat) (d : D) (ds : List D) (ρ : PSt) {N : PSt -> Prop} : vD (gNs (i :: is) (d :: ds) ρ) N = vD (gN i d ρ) (fun ρ1 => vD (gNs is ds ρ1) N) := kg'
theorem kO' (w : W) (n : Nat) (k : D) : vD (ixW w (.obj n) k) Q = vOb w[n]? (fun os => vD (ixO (.lst os) k) Q) := by
  show vD (match w[n]? with | some (.lst os) => ixO (.lst os) k | _ => none) Q = _
  rcases w[n]? with _ | ob
  . rfl
  . cases ob <;> rfl
theorem kR' (os : List O) (i : Int) : vD (ixO (.lst os) (.int i)) Q = vD (ati os i) (fun o => vD (asF o) Q) := by
  show vD (match ati os i with | some (.fz d) => some d | _ => none) Q = _
  rcases ati os i with _ | o
  . rfl
  . cases o <;> rfl
theorem k8' (d : D) : vD (asF (.fz d)) Q = Q d := rfl
theorem k7' (d : List D) {Q : List D -> Prop} : vD (asL (.lst d)) Q = Q d := rfl
theorem im' (d k : D) : vD (ixO (.fz d) k) Q = vD (pIx d k) Q := rfl
theorem h8' (w : W) (n : Nat) (z : Int) (d : D) {N : W -> Prop} : vD (nk' w (.obj n) (.int z) d) N = vOb w[n]? (fun os => vD (ixn os.length z) (fun j => N (w.set n (.lst (os.set j (.fz d)))))) := by
  show vD (match w[n]? with | some (.lst os) => (ixn os.length z).map fun j => w.set n (.lst (os.set j (.fz d))) | _ => none) N = _
  rcases w[n]? with _ | ob
  . rfl
  . cases ob with
    | lst os => exact a7'
    | _ => rfl
theorem fg' (os : List O) : vD (mH' (.lst os)) Q = Q (.int os.length) := rfl
theorem fh' (d : D) : vD (mH' (.fz d)) Q = vD (dg' d) Q := rfl
end
structure U {α : Sort _} (a : α) : Type where
@[irreducible] def wE {α : Type} (r : Res α) (Q : α -> PSt -> Prop) (X : Exc -> PSt -> Prop) (_ : U (Q, X) := U.mk) : Prop := vE r Q X
@[irreducible] def wS (o : Out) (D : En) (_ : U D := U.mk) : Prop := vS o D
@[irreducible] def wF (r : FRes) (Q : O -> W -> Prop) (X : Exc -> W -> Prop) (_ : U (Q, X) := U.mk) : Prop := vF r Q X
@[irreducible] def wD {α : Type} (o : Option α) (Q : α -> Prop) (_ : U Q := U.mk) : Prop := vD o Q
@[irreducible] def wI (k : Bool) (A B : Prop) (_ : U (A, B) := U.mk) : Prop := vI k A B
@[irreducible] def wB (d : D) (P : Bool -> Prop) (_ : U P := U.mk) : Prop := vB d P
@[irreducible] def wT (d : D) (P : Tx -> Prop) (_ : U P := U.mk) : Prop := vT d P
@[irreducible] def wN (d : D) (P : Int -> Prop) (_ : U P := U.mk) : Prop := vN d P
@[irreducible] def wV (o : Option (Option O)) (i : Nat) (ρ : PSt) (Q : D -> PSt -> Prop) (_ : U Q := U.mk) : Prop := vV o i ρ Q
@[irreducible] def wG (o : Option (Option O)) (i : Nat) (ρ : PSt) (Q : O -> PSt -> Prop) (_ : U Q := U.mk) : Prop := vG o i ρ Q
@[irreducible] def wO (o : Option (Option O)) (Q : O -> Prop) (_ : U Q := U.mk) : Prop := vO o Q
@[irreducible] def wL (o : Option (Option O)) (Q : List O -> Prop) (_ : U Q := U.mk) : Prop := vL o Q
@[irreducible] def jf' (n : Nat) (A : Prop) (_ : U A := U.mk) : Prop := eo' n A
@[irreducible] def mV' (i n : Nat) (A : Prop) (_ : U A := U.mk) : Prop := gm' i n A
@[irreducible] def wC (c : Prop) (A : Prop) (_ : U A := U.mk) : Prop := vC c A
@[irreducible] def vP' (o : Option Ob) (P : String -> List (String × O) -> Prop) (_ : U P := U.mk) : Prop := vR' o P
@[irreducible] def wOb (o : Option Ob) (P : List O -> Prop) (_ : U P := U.mk) : Prop := vOb o P
theorem aC' {α : Type} (r : Res α) (Q : α -> PSt -> Prop) (X : Exc -> PSt -> Prop) (u : U (Q, X)) : wE r Q X u = vE r Q X := by unfold wE; rfl
theorem a8' (o : Out) (D : En) (u : U D) : wS o D u = vS o D := by unfold wS; rfl
theorem bv' (r : FRes) (Q : O -> W -> Prop) (X : Exc -> W -> Prop) (u : U (Q, X)) : wF r Q X u = vF r Q X := by unfold wF; rfl
theorem ag' {α : Type} (o : Option α) (Q : α -> Prop) (u : U Q) : wD o Q u = vD o Q := by unfold wD; rfl
theorem bD' (k : Bool) (A B : Prop) (u : U (A, B)) : wI k A B u = vI k A B := by unfold wI; rfl
theorem bE' (d : D) (P : Bool -> Prop) (u : U P) : wB d P u = vB d P := by unfold wB; rfl
theorem bC' (d : D) (P : Tx -> Prop) (u : U P) : wT d P u = vT d P := by unfold wT; rfl
theorem bw' (d : D) (P : Int -> Prop) (u : U P) : wN d P u = vN d P := by unfold wN; rfl
theorem bt' (o : Option (Option O)) (i : Nat) (ρ : PSt) (Q : D -> PSt -> Prop) (u : U Q) : wV o i ρ Q u = vV o i ρ Q := by unfold wV; rfl
theorem bu' (o : Option (Option O)) (i : Nat) (ρ : PSt) (Q : O -> PSt -> Prop) (u : U Q) : wG o i ρ Q u = vG o i ρ Q := by unfold wG; rfl
theorem bg' (o : Option (Option O)) (Q : O -> Prop) (u : U Q) : wO o Q u = vO o Q := by unfold wO; rfl
theorem bo' (o : Option (Option O)) (Q : List O -> Prop) (u : U Q) : wL o Q u = vL o Q := by unfold wL; rfl
theorem aH' (n : Nat) (A : Prop) (u : U A) : jf' n A u = eo' n A := by unfold jf'; rfl
theorem aG' (i n : Nat) (A : Prop) (u : U A) : mV' i n A u = gm' i n A := by unfold mV'; rfl
theorem br' (c : Prop) (A : Prop) (u : U A) : wC c A u = vC c A := by unfold wC; rfl
theorem a0' (o : Option Ob) (P : List O -> Prop) (u : U P) : wOb o P u = vOb o P := by unfold wOb; rfl
theorem aB' (o : Option Ob) (P : String -> List (String × O) -> Prop) (u : U P) : vP' o P u = vR' o P := by unfold vP'; rfl
local macro_rules | `(tactic| walk_at "z") => `(tactic| simp only [aC', a8', bv', ag', bD', bE', bC', bw', bt', bu', bg', bo', aH', aG', br', a0', aB'] at *)
section
variable {α β : Type} {Q : α -> PSt -> Prop} {X : Exc -> PSt -> Prop} {ρ : PSt} {P : D -> PSt -> Prop} {D0 : En}
theorem aV' (z : α) {Q : α -> Prop} : wD (some z) Q = Q z := by walk_at "z"; first | exact e2' .. | (apply e2' <;> assumption)
theorem wI' (k : Bool) {Q : Bool -> Prop} : wB (.bl k) Q = Q k := by walk_at "z"; first | exact ki' .. | (apply ki' <;> assumption)
theorem vQ' (A B : Prop) : wI true A B = A := by walk_at "z"; first | exact oL' .. | (apply oL' <;> assumption)
theorem wD' (A B : Prop) : wI false A B = B := by walk_at "z"; first | exact oM' .. | (apply oM' <;> assumption)
theorem te' (k : Bool) (A B : Prop) : wI (!k) A B = wI k B A := by walk_at "z"; first | exact hK' .. | (apply hK' <;> assumption)
theorem x_C (d : D) : wE (eC d ρ) P X = P d ρ := by walk_at "z"; first | exact tn' .. | (apply tn' <;> assumption)
theorem x_V (i : Nat) (env : List (Option O)) (w : W) : wE (eV i ⟨env, w⟩) P X = wV env[i]? i ⟨env, w⟩ P := by walk_at "z"; first | exact tl' .. | (apply tl' <;> assumption)
theorem wz' (d : D) (i : Nat) (ρ : PSt) : wV (some (some (.fz d))) i ρ P = P d ρ := by walk_at "z"; first | exact kc' .. | (apply kc' <;> assumption)
theorem s8' (os : List O) (i : Nat) (env : List (Option O)) (w : W) : wV (some (some (.lst os))) i ⟨env, w⟩ P = P (.lst (frzs os)) ⟨env.set i (some (.fz (.lst (frzs os)))), w⟩ := by walk_at "z"; first | exact hF' .. | (apply hF' <;> assumption)
theorem s7' (os : List O) (i : Nat) (env : List (Option O)) (w : W) : wV (some (some (.tup os))) i ⟨env, w⟩ P = P (.tup (frzs os)) ⟨env.set i (some (.fz (.tup (frzs os)))), w⟩ := by walk_at "z"; first | exact hE' .. | (apply hE' <;> assumption)
theorem s9' (ks : List D) (os : List O) (i : Nat) (env : List (Option O)) (w : W) : wV (some (some (.dct ks os))) i ⟨env, w⟩ P = P (.dct ks (frzs os)) ⟨env.set i (some (.fz (.dct ks (frzs os)))), w⟩ := by walk_at "z"; first | exact hG' .. | (apply hG' <;> assumption)
theorem wE' (d : D) (i : Nat) (ρ : PSt) {P : O -> PSt -> Prop} : wG (some (some (.fz d))) i ρ P = P (.fz d) ρ := by walk_at "z"; first | exact ke' .. | (apply ke' <;> assumption)
theorem tg' (os : List O) (i : Nat) (env : List (Option O)) (w : W) {P : O -> PSt -> Prop} : wG (some (some (.lst os))) i ⟨env, w⟩ P = P (.lst os) ⟨env.set i none, w⟩ := by walk_at "z"; first | exact hN' .. | (apply hN' <;> assumption)
theorem tf' (os : List O) (i : Nat) (env : List (Option O)) (w : W) {P : O -> PSt -> Prop} : wG (some (some (.tup os))) i ⟨env, w⟩ P = P (.tup os) ⟨env.set i none, w⟩ := by walk_at "z"; first | exact hM' .. | (apply hM' <;> assumption)
theorem th' (ks : List D) (os : List O) (i : Nat) (env : List (Option O)) (w : W) {P : O -> PSt -> Prop} : wG (some (some (.dct ks os))) i ⟨env, w⟩ P = P (.dct ks os) ⟨env.set i none, w⟩ := by walk_at "z"; first | exact hO' .. | (apply hO' <;> assumption)
theorem pR' (o : O) {P : O -> Prop} : wO (some (some o)) P = P o := by walk_at "z"; first | exact e0' .. | (apply e0' <;> assumption)
theorem tc' (os : List O) {P : List O -> Prop} : wL (some (some (.lst os))) P = P os := by walk_at "z"; first | exact hJ' .. | (apply hJ' <;> assumption)
theorem y4' (f : D -> D -> Option D) (a b : ME) : wE (eOp f a b ρ) P X = wE (a ρ) (fun x ρ1 => wE (b ρ1) (fun y ρ2 => wD (f x y) (fun z => P z ρ2)) X) X := by walk_at "z"; first | exact oG' .. | (apply oG' <;> assumption)
theorem y0' (f : D -> Option D) (a : ME) : wE (eUn f a ρ) P X = wE (a ρ) (fun x ρ1 => wD (f x) (fun z => P z ρ1)) X := by walk_at "z"; first | exact oC' .. | (apply oC' <;> assumption)
theorem wx' (a b : ME) : wE (uR' a b ρ) P X = wE (a ρ) (fun x ρ1 => wB x fun k => wI k (wE (b ρ1) P X) (P (.bl false) ρ1)) X := by walk_at "z"; first | exact kb' .. | (apply kb' <;> assumption)
theorem y3' (a b : ME) : wE (eOr a b ρ) P X = wE (a ρ) (fun x ρ1 => wB x fun k => wI k (P (.bl true) ρ1) (wE (b ρ1) P X)) X := by walk_at "z"; first | exact oF' .. | (apply oF' <;> assumption)
theorem we' (a : ME) : wE (sA' a ρ) P X = wE (a ρ) (fun x ρ1 => wB x fun k => P (.bl (!k)) ρ1) X := by walk_at "z"; first | exact jY' .. | (apply jY' <;> assumption)
theorem y8' (t : MT) (a b : ME) : wE (eIf t a b ρ) P X = wE (t ρ) (fun k ρ1 => wI k (wE (a ρ1) P X) (wE (b ρ1) P X)) X := by walk_at "z"; first | exact oK' .. | (apply oK' <;> assumption)
theorem pO' (f g : D -> D -> Option D) (a b c : ME) : wE (eh' f g a b c ρ) P X = wE (a ρ) (fun x ρ1 => wE (b ρ1) (fun y ρ2 => wD (f x y) fun r => wB r fun k => wI k (wE (c ρ2) (fun z ρ3 => wD (g y z) fun v => P v ρ3) X) (P (.bl false) ρ2)) X) X := by walk_at "z"; first | exact eX' .. | (apply eX' <;> assumption)
theorem wf' {P : List D -> PSt -> Prop} : wE (bi' ρ) P X = P [] ρ := by walk_at "z"; first | exact jZ' .. | (apply jZ' <;> assumption)
theorem s4' (a : ME) (r : MA) {P : List D -> PSt -> Prop} : wE (ae' a r ρ) P X = wE (a ρ) (fun x ρ1 => wE (r ρ1) (fun xs ρ2 => P (x :: xs) ρ2) X) X := by walk_at "z"; first | exact hC' .. | (apply hC' <;> assumption)
theorem gq' {n : Nat} (h : n <= 16777216) (A : Prop) : jf' n A = A := by walk_at "z"; first | exact e1' .. | (apply e1' <;> assumption)
theorem wa' (as : MA) : wE (mK' as ρ) P X = wE (as ρ) (fun xs ρ1 => jf' xs.length (P (.tup xs) ρ1)) X := by walk_at "z"; first | exact jV' .. | (apply jV' <;> assumption)
theorem wh' (as : MA) : wE (mL' as ρ) P X = wE (as ρ) (fun xs ρ1 => jf' xs.length (P (.lst xs) ρ1)) X := by walk_at "z"; first | exact j1' .. | (apply j1' <;> assumption)
theorem y6' (f : Tx -> List D -> Option D) (a : ME) (as : MA) : wE (eMt f a as ρ) P X = wE (a ρ) (fun x ρ1 => wT x fun s => wE (as ρ1) (fun ds ρ2 => wD (f s ds) fun z => P z ρ2) X) X := by walk_at "z"; first | exact oI' .. | (apply oI' <;> assumption)
theorem wg' (f : List D -> List D -> Option D) (a : ME) (as : MA) : wE (xv' f a as ρ) P X = wE (a ρ) (fun x ρ1 => wD (asL x) fun s => wE (as ρ1) (fun ds ρ2 => wD (f s ds) fun z => P z ρ2) X) X := by walk_at "z"; first | exact j0' .. | (apply j0' <;> assumption)
theorem ta' (s : Tx) {P : Tx -> Prop} : wT (.str s) P = P s := by walk_at "z"; first | exact hH' .. | (apply hH' <;> assumption)
theorem tb' (s : Int) {P : Int -> Prop} : wN (.int s) P = P s := by walk_at "z"; first | exact hI' .. | (apply hI' <;> assumption)
theorem y5' {P : Option Int -> PSt -> Prop} : wE (pNo ρ) P X = P none ρ := by walk_at "z"; first | exact oH' .. | (apply oH' <;> assumption)
theorem y1' (a : ME) {P : Option Int -> PSt -> Prop} : wE (pSo a ρ) P X = wE (a ρ) (fun x ρ1 => wN x fun i => P (some i) ρ1) X := by walk_at "z"; first | exact oD' .. | (apply oD' <;> assumption)
theorem y2' (a : ME) (lo hi : MP) : wE (eSl a lo hi ρ) P X = wE (a ρ) (fun x ρ1 => wE (lo ρ1) (fun l ρ2 => wE (hi ρ2) (fun h ρ3 => wD (pSl x l h) fun z => P z ρ3) X) X) X := by walk_at "z"; first | exact oE' .. | (apply oE' <;> assumption)
theorem x_O (a : MO) : wE (eO a ρ) P X = wE (a ρ) (fun o ρ1 => P (frz o) ρ1) X := by walk_at "z"; first | exact tm' .. | (apply tm' <;> assumption)
variable {R : O -> PSt -> Prop}
theorem yY' (a : ME) : wE (oE a ρ) R X = wE (a ρ) (fun d ρ1 => R (.fz d) ρ1) X := by walk_at "z"; first | exact oB' .. | (apply oB' <;> assumption)
theorem yX' (i : Nat) (env : List (Option O)) (w : W) : wE (oV i ⟨env, w⟩) R X = wG env[i]? i ⟨env, w⟩ R := by walk_at "z"; first | exact oA' .. | (apply oA' <;> assumption)
theorem s5' (f : MF) (as : MA) : wE (aO' f as ρ) R X = wE (as ρ) (fun ds ρ1 => wF (f ds ρ1.w) (fun o w => R o ⟨ρ1.env, w⟩) fun x w => X x ⟨ρ1.env, w⟩) X := by walk_at "z"; first | exact hD' .. | (apply hD' <;> assumption)
theorem sI' (a : ME) : wE (sq' a ρ) R X = wE (a ρ) (fun d ρ1 => wD (asL d) fun ds => R (.lst (ds.map .fz)) ρ1) X := by walk_at "z"; first | exact hm' .. | (apply hm' <;> assumption)
theorem sX' (k : D) (a : ME) : wE (rG' k a ρ) P X = wE (a ρ) (fun d ρ1 => P (.dct [k] [d]) ρ1) X := by walk_at "z"; first | exact hA' .. | (apply hA' <;> assumption)
theorem sY' : wE (uQ' ρ) P X = P (.dct [] []) ρ := by walk_at "z"; first | exact hB' .. | (apply hB' <;> assumption)
theorem pC' : wE (nJ' ρ) R X = R (.dct [] []) ρ := by walk_at "z"; first | exact eT' .. | (apply eT' <;> assumption)
theorem pJ' (i : Nat) (a : ME) (env : List (Option O)) (w : W) : wE (po' i a ⟨env, w⟩) P X = wL env[i]? fun _ => wE (a ⟨env, w⟩) (fun d ρ1 => wN d fun z => wL ρ1.env[i]? fun os => jf' os.length (wD (ixn os.length z) fun j => wD os[j]? fun o => wD (asF o) fun y => P y ⟨ρ1.env.set i (some (.lst (os.eraseIdx j))), ρ1.w⟩)) X := by walk_at "z"; first | exact eW' .. | (apply eW' <;> assumption)
theorem wl' (i : Nat) (b : ME) (env : List (Option O)) (w : W) : wE (yO' i b ⟨env, w⟩) P X = wO env[i]? fun _ => wE (b ⟨env, w⟩) (fun k ρ1 => wO ρ1.env[i]? fun o => wD (ixO o k) fun z => P z ρ1) X := by walk_at "z"; first | exact j5' .. | (apply j5' <;> assumption)
theorem wo' (i : Nat) (a : ME) : wE (xA' i a ρ) P X = wE (a ρ) (fun x ρ1 => wO ρ1.env[i]? fun o => wD (inO x o) fun z => P z ρ1) X := by walk_at "z"; first | exact j6' .. | (apply j6' <;> assumption)
theorem wp' (neg : Bool) (i : Nat) (a : ME) : wE (xB' neg i a ρ) P X = wE (a ρ) (fun x ρ1 => wO ρ1.env[i]? fun o => wD (sy' x o) fun b => P (.bl (b != neg)) ρ1) X := by walk_at "z"; first | exact j7' .. | (apply j7' <;> assumption)
theorem sV' (i : Nat) (a : ME) : wE (rE' i a ρ) P X = wL ρ.env[i]? fun _ => wE (a ρ) (fun x ρ1 => wO ρ1.env[i]? fun o => wD (ju' x o) fun n => P (.int (n : Nat)) ρ1) X := by walk_at "z"; first | exact hz' .. | (apply hz' <;> assumption)
theorem mR' (i : Nat) (a : ME) : wE (gP' i a ρ) P X = wE (a ρ) (fun x ρ1 => wO ρ1.env[i]? fun o => wD (pg' (inO x o)) fun z => P z ρ1) X := by walk_at "z"; first | exact d5' .. | (apply d5' <;> assumption)
theorem sT' (i : Nat) : wE (rC' i ρ) P X = wO ρ.env[i]? fun o => wD (mH' o) fun z => P z ρ := by walk_at "z"; first | exact hy' .. | (apply hy' <;> assumption)
theorem wk' (a b : ME) : wE (eQ' a b ρ) P X = wE (a ρ) (fun x ρ1 => wE (b ρ1) (fun y ρ2 => wD (ixW ρ2.w x y) fun z => P z ρ2) X) X := by walk_at "z"; first | exact j4' .. | (apply j4' <;> assumption)
theorem wd' (as : MA) : wE (um' as ρ) R X = wE (as ρ) (fun xs ρ1 => jf' xs.length (R (.fz (.obj ρ1.w.length)) ⟨ρ1.env, ρ1.w ++ [.lst (xs.map .fz)]⟩)) X := by walk_at "z"; first | exact jX' .. | (apply jX' <;> assumption)
theorem wq' (cs : List String) (a : ME) (f : String) : wE (xC' cs a f ρ) P X = wE (a ρ) (fun x ρ1 => wD (ry' cs f ρ1.w x) fun z => P z ρ1) X := by walk_at "z"; first | exact j8' .. | (apply j8' <;> assumption)
theorem sR' (C : String) (init : MF) (as : MA) : wE (q0' C init as ρ) R X = wE (as ρ) (fun ds ρ1 => wF (init (.obj ρ1.w.length :: ds) (ρ1.w ++ [.ins C []])) (fun o w => o = .fz .non /\ R (.fz (.obj ρ1.w.length)) ⟨ρ1.env, w⟩) fun x w => X x ⟨ρ1.env, w⟩) X := by walk_at "z"; first | exact hv' .. | (apply hv' <;> assumption)
theorem sQ' (C : List String) (m : String) (f : MF) (a : ME) (as : MA) : wE (qZ' C m f a as ρ) R X = wE (a ρ) (fun x ρ1 => nU' C m ρ1.w x = true /\ wE (as ρ1) (fun ds ρ2 => wF (f (x :: ds) ρ2.w) (fun o w => R o ⟨ρ2.env, w⟩) fun x w => X x ⟨ρ2.env, w⟩) X) X := by walk_at "z"; first | exact hu' .. | (apply hu' <;> assumption)
theorem wm' (i : Nat) (t : ET) (c : String) (x : Exc) : wE (xy' i t c x ρ) P X = vX ρ.env[i]? (x.fs = [] /\ wD (sub t x.cls c) fun b => P (.bl b) ρ) := by simp only [aC', a8', bv', ag', bD', bE', bC', bw', bt', bu', bg', bo', aH', aG', br', a0', aB']; exact pZ' ..
theorem yZ' (i : Nat) (cs : List String) (f : String) (x : Exc) : wE (eXf i cs f x ρ) P X = vX ρ.env[i]? (x.cls ∈ cs /\ wD (x.fs.lookup f) fun d => P d ρ) := by simp only [aC', a8', bv', ag', bD', bE', bC', bw', bt', bu', bg', bo', aH', aG', br', a0', aB']; exact tj' ..
variable {B : Bool -> PSt -> Prop}
theorem yW' (a : ME) : wE (tE a ρ) B X = wE (a ρ) (fun d ρ1 => wB d fun k => B k ρ1) X := by walk_at "z"; first | exact oz' .. | (apply oz' <;> assumption)
theorem sD' (a : MT) : wE (iw' a ρ) B X = wE (a ρ) (fun k ρ1 => B (!k) ρ1) X := by walk_at "z"; first | exact hk' .. | (apply hk' <;> assumption)
theorem sF' (a b : MT) : wE (sk' a b ρ) B X = wE (a ρ) (fun k ρ1 => wI k (wE (b ρ1) B X) (B false ρ1)) X := by walk_at "z"; first | exact hl' .. | (apply hl' <;> assumption)
theorem v7' (a b : MT) : wE (tOr a b ρ) B X = wE (a ρ) (fun k ρ1 => wI k (B true ρ1) (wE (b ρ1) B X)) X := by walk_at "z"; first | exact jO' .. | (apply jO' <;> assumption)
theorem yV' : wE (tT ρ) B X = B true ρ := by walk_at "z"; first | exact oy' .. | (apply oy' <;> assumption)
variable {Y : List D -> PSt -> Prop}
theorem sN' (a : ME) : wE (gH' a ρ) Y X = wE (a ρ) (fun d ρ1 => wD (cz' d) fun z => Y z ρ1) X := by walk_at "z"; first | exact hs' .. | (apply hs' <;> assumption)
theorem jM' (a : ME) : wE (bM' a ρ) Y X = wE (a ρ) (fun d ρ1 => wD (c3' d) fun z => Y z ρ1) X := by walk_at "z"; first | exact dq' .. | (apply dq' <;> assumption)
theorem jL' (a b : ME) : wE (dF' a b ρ) Y X = wE (a ρ) (fun d ρ1 => wE (b ρ1) (fun e ρ2 => wD (c2' d e) fun z => Y z ρ2) X) X := by walk_at "z"; first | exact dp' .. | (apply dp' <;> assumption)
theorem sM' (a b : ME) : wE (uE' a b ρ) Y X = wE (a ρ) (fun d ρ1 => wE (b ρ1) (fun e ρ2 => wD (mD' d e) fun z => Y z ρ2) X) X := by walk_at "z"; first | exact hr' .. | (apply hr' <;> assumption)
theorem pE' (a b : ME) : wE (rq' a b ρ) Y X = wE (a ρ) (fun d ρ1 => wE (b ρ1) (fun e ρ2 => wD (sB' d e) fun z => Y z ρ2) X) X := by walk_at "z"; first | exact eU' .. | (apply eU' <;> assumption)
theorem pG' (a : ME) : wE (rs' a ρ) Y X = wE (a ρ) (fun d ρ1 => wD (enB d) fun z => Y z ρ1) X := by walk_at "z"; first | exact eV' .. | (apply eV' <;> assumption)
theorem sO' (a : ME) : wE (uF' a ρ) Y X = wE (a ρ) (fun d ρ1 => wD (qG' d) fun z => Y z ρ1) X := by walk_at "z"; first | exact ht' .. | (apply ht' <;> assumption)
theorem wi' (own : List Nat) (i : Nat) (g : MG) (t : MT) (e : ME) : wE (xw' own i g t e ρ) P X = wL ρ.env[i]? fun os => wE (mI' own i g t e os.length 0 [] ρ) (fun ys ρ2 => P (.lst ys) ⟨back ρ.env own (aF' own ρ2.env), ρ2.w⟩) X := by walk_at "z"; first | exact j2' .. | (apply j2' <;> assumption)
theorem sJ' (own : List Nat) (i : Nat) (g : MG) (t : MT) (e : ME) : wE (xn' own i g t e ρ) R X = wL ρ.env[i]? fun os => wE (mI' own i g t e os.length 0 [] ρ) (fun ys ρ2 => R (.lst (ys.map .fz)) ⟨back ρ.env own (aF' own ρ2.env), ρ2.w⟩) X := by walk_at "z"; first | exact hn' .. | (apply hn' <;> assumption)
theorem sS' (a : ME) : wE (rB' a ρ) P X = wE (a ρ) (fun x ρ1 => wD (uu' ρ1.w x) fun z => P z ρ1) X := by walk_at "z"; first | exact hx' .. | (apply hx' <;> assumption)
theorem wj' (own : List Nat) (it : MI) (g : MG) (t : MT) (it1 : MI) (own1 : List Nat) (g1 : MG) (t1 : MT) (e : ME) : wE (xx' own it g t it1 own1 g1 t1 e ρ) P X = wE (it ρ) (fun xs ρ1 => wE (pj' own g t it1 own1 g1 t1 e xs [] ρ1) (fun ys ρ2 => P (.lst ys) ⟨back ρ1.env own (aF' own ρ2.env), ρ2.w⟩) X) X := by walk_at "z"; first | exact j3' .. | (apply j3' <;> assumption)
theorem sK' (own : List Nat) (it : MI) (g : MG) (t : MT) (it1 : MI) (own1 : List Nat) (g1 : MG) (t1 : MT) (e : ME) : wE (xo' own it g t it1 own1 g1 t1 e ρ) R X = wE (it ρ) (fun xs ρ1 => wE (pj' own g t it1 own1 g1 t1 e xs [] ρ1) (fun ys ρ2 => R (.lst (ys.map .fz)) ⟨back ρ1.env own (aF' own ρ2.env), ρ2.w⟩) X) X := by walk_at "z"; first | exact hq' .. | (apply hq' <;> assumption)
theorem y7' (own : List Nat) (it : MI) (g : MG) (t : MT) (e : ME) : wE (eLc own it g t e ρ) P X = wE (it ρ) (fun xs ρ1 => wE (lcL own g t e xs [] ρ1) (fun ys ρ2 => P (.lst ys) ⟨back ρ1.env own (aF' own ρ2.env), ρ2.w⟩) X) X := by walk_at "z"; first | exact oJ' .. | (apply oJ' <;> assumption)
theorem v8' (own : List Nat) (it : MI) (g : MG) (t : MT) (e : ME) : wE (oLc own it g t e ρ) R X = wE (it ρ) (fun xs ρ1 => wE (lcL own g t e xs [] ρ1) (fun ys ρ2 => R (.lst (ys.map .fz)) ⟨back ρ1.env own (aF' own ρ2.env), ρ2.w⟩) X) X := by walk_at "z"; first | exact jQ' .. | (apply jQ' <;> assumption)
variable {N : PSt -> Prop} {rt : O -> W -> Prop} {bk ct : PSt -> Prop} {ex : Exc -> PSt -> Prop}
theorem tK' : wS (bf' ρ) ⟨N, rt, bk, ct, ex⟩ = N ρ := by walk_at "z"; first | exact hU' .. | (apply hU' <;> assumption)
theorem qv' : wS (o7' ρ) ⟨N, rt, bk, ct, ex⟩ = bk ρ := by walk_at "z"; first | exact e7' .. | (apply e7' <;> assumption)
theorem tO' : wS (tS' ρ) ⟨N, rt, bk, ct, ex⟩ = ct ρ := by walk_at "z"; first | exact hW' .. | (apply hW' <;> assumption)
theorem tL' (a : ME) : wS (fz' a ρ) ⟨N, rt, bk, ct, ex⟩ = wE (a ρ) (fun _ ρ1 => N ρ1) ex := by walk_at "z"; first | exact hV' .. | (apply hV' <;> assumption)
theorem wS' (a : MO) : wS (bZ' a ρ) ⟨N, rt, bk, ct, ex⟩ = wE (a ρ) (fun o ρ1 => rt o ρ1.w) ex := by walk_at "z"; first | exact ko' .. | (apply ko' <;> assumption)
theorem tJ' : wS (tR' ρ) ⟨N, rt, bk, ct, ex⟩ = rt (.fz .non) ρ.w := by walk_at "z"; first | exact hT' .. | (apply hT' <;> assumption)
theorem wQ' (a b : MS) : wS (aZ' a b ρ) ⟨N, rt, bk, ct, ex⟩ = wS (a ρ) ⟨fun ρ1 => wS (b ρ1) ⟨N, rt, bk, ct, ex⟩, rt, bk, ct, ex⟩ := by walk_at "z"; first | exact gr' .. | (apply gr' <;> assumption)
theorem za' (t : MT) (a b : MS) : wS (sIf t a b ρ) ⟨N, rt, bk, ct, ex⟩ = wE (t ρ) (fun k ρ1 => wI k (wS (a ρ1) ⟨N, rt, bk, ct, ex⟩) (wS (b ρ1) ⟨N, rt, bk, ct, ex⟩)) ex := by walk_at "z"; first | exact oN' .. | (apply oN' <;> assumption)
theorem pP' {i n : Nat} (h : i < n) (A : Prop) : mV' i n A = A := by walk_at "z"; first | exact eY' .. | (apply eY' <;> assumption)
theorem wP' (i : Nat) (a : MO) : wS (bN' i a ρ) ⟨N, rt, bk, ct, ex⟩ = wE (a ρ) (fun o ρ1 => mV' i ρ1.env.length (N ⟨ρ1.env.set i (some o), ρ1.w⟩)) ex := by walk_at "z"; first | exact kn' .. | (apply kn' <;> assumption)
theorem wZ' (g : MG) (a : ME) : wS (qC' g a ρ) ⟨N, rt, bk, ct, ex⟩ = wE (a ρ) (fun d ρ1 => wD (g d ρ1) N) ex := by walk_at "z"; first | exact ku' .. | (apply ku' <;> assumption)
theorem wT' (i j : Nat) (a b : ME) : wS (w4' i j a b ρ) ⟨N, rt, bk, ct, ex⟩ = wE (a ρ) (fun x ρ1 => wE (b ρ1) (fun y ρ2 => (i < ρ2.env.length /\ j < ρ2.env.length /\ i ≠ j) /\ N ⟨(ρ2.env.set i (some (.fz x))).set j (some (.fz y)), ρ2.w⟩) ex) ex := by walk_at "z"; first | exact kp' .. | (apply kp' <;> assumption)
theorem wY' (f : D -> D -> Option D) (i : Nat) (a : ME) : wS (w8' f i a ρ) ⟨N, rt, bk, ct, ex⟩ = wO ρ.env[i]? fun o => wD (asF o) fun d => wE (a ρ) (fun y ρ1 => wD (f d y) fun z => mV' i ρ1.env.length (N ⟨ρ1.env.set i (some (.fz z)), ρ1.w⟩)) ex := by walk_at "z"; first | exact kt' .. | (apply kt' <;> assumption)
theorem qt' (x : String) : wS (fy' x ρ) ⟨N, rt, bk, ct, ex⟩ = ex ⟨x, []⟩ ρ := by walk_at "z"; first | exact e6' .. | (apply e6' <;> assumption)
theorem nz' (x f : String) (a : ME) : wS (gu' x f a ρ) ⟨N, rt, bk, ct, ex⟩ = wE (a ρ) (fun d ρ1 => ex ⟨x, [(f, d)]⟩ ρ1) ex := by walk_at "z"; first | exact d6' .. | (apply d6' <;> assumption)
theorem w0' (i : Nat) (a : MO) : wS (qE' i a ρ) ⟨N, rt, bk, ct, ex⟩ = wL ρ.env[i]? fun _ => wE (a ρ) (fun o ρ1 => wL ρ1.env[i]? fun os => mV' os.length 16777216 (N ⟨ρ1.env.set i (some (.lst (os ++ [o]))), ρ1.w⟩)) ex := by walk_at "z"; first | exact kv' .. | (apply kv' <;> assumption)
theorem tI' (i : Nat) (k a : ME) : wS (qy' i k a ρ) ⟨N, rt, bk, ct, ex⟩ = wE (a ρ) (fun d ρ1 => wO ρ1.env[i]? fun _ => wE (k ρ1) (fun y ρ2 => wL ρ2.env[i]? fun os => wN y fun z => wD (ixn os.length z) fun j => N ⟨ρ2.env.set i (some (.lst (os.set j (.fz d)))), ρ2.w⟩) ex) ex := by walk_at "z"; first | exact hS' .. | (apply hS' <;> assumption)
theorem tH' (o k a : ME) : wS (eu' o k a ρ) ⟨N, rt, bk, ct, ex⟩ = wE (a ρ) (fun d ρ1 => wE (o ρ1) (fun x ρ2 => wE (k ρ2) (fun y ρ3 => wD (nk' ρ3.w x y d) fun w => N ⟨ρ3.env, w⟩) ex) ex) ex := by walk_at "z"; first | exact hR' .. | (apply hR' <;> assumption)
theorem tP' (o : ME) (a : MO) : wS (qD' o a ρ) ⟨N, rt, bk, ct, ex⟩ = wE (o ρ) (fun x ρ1 => wD (sv' ρ1.w x) fun _ => wE (a ρ1) (fun y ρ2 => wD (sv' ρ2.w x) fun os => mV' os.length 16777216 (N ⟨ρ2.env, wL' ρ2.w (.lst (os ++ [y])) x⟩)) ex) ex := by walk_at "z"; first | exact hX' .. | (apply hX' <;> assumption)
theorem nt' (w : W) (b : Ob) (n : Nat) : wL' w b (.obj n) = w.set n b := rfl
theorem wV' (cs : List String) (a : ME) (f : String) (v : MO) : wS (w5' cs a f v ρ) ⟨N, rt, bk, ct, ex⟩ = wE (v ρ) (fun o ρ1 => wE (a ρ1) (fun x ρ2 => wD (stF cs f o ρ2.w x) fun w => N ⟨ρ2.env, w⟩) ex) ex := by walk_at "z"; first | exact kr' .. | (apply kr' <;> assumption)
theorem wU' (it : MI) (g : MG) (b : MS) : wS (iE' it g b ρ) ⟨N, rt, bk, ct, ex⟩ = wE (it ρ) (fun ds ρ1 => wS (i1' g b ds ρ1) ⟨N, rt, bk, ct, ex⟩) ex := by walk_at "z"; first | exact kq' .. | (apply kq' <;> assumption)
theorem qr' (n : Nat) (t : MT) (b : MS) : wS (o6' n t b ρ) ⟨N, rt, bk, ct, ex⟩ = wS (eS' t b n ρ) ⟨N, rt, bk, ct, ex⟩ := by walk_at "z"; first | exact e5' .. | (apply e5' <;> assumption)
theorem wO' (b : MS) (hs : List ((String -> Option Bool) × (Exc -> MS))) : wS (sn' b hs ρ) ⟨N, rt, bk, ct, ex⟩ = wS (b ρ) ⟨N, rt, bk, ct, fun x ρ1 => wS (hds hs x ρ1) ⟨N, rt, bk, ct, ex⟩⟩ := by walk_at "z"; first | exact km' .. | (apply km' <;> assumption)
theorem tF' (x : Exc) : wS (hds [] x ρ) ⟨N, rt, bk, ct, ex⟩ = ex x ρ := by walk_at "z"; first | exact hQ' .. | (apply hQ' <;> assumption)
theorem wM' (g : String -> Option Bool) (h : Exc -> MS) (r : List ((String -> Option Bool) × (Exc -> MS))) (x : Exc) : wS (hds ((g, h) :: r) x ρ) ⟨N, rt, bk, ct, ex⟩ = wD (g x.cls) fun k => wI k (wS (h x ρ) ⟨N, rt, bk, ct, fun _ _ => False⟩) (wS (hds r x ρ) ⟨N, rt, bk, ct, ex⟩) := by walk_at "z"; first | exact kk' .. | (apply kk' <;> assumption)
theorem qs' (i m : Nat) (b : MS) (g : String -> Option Bool) (h : Exc -> MS) : wS (lp' i m b g h ρ) ⟨N, rt, bk, ct, ex⟩ = wS (b ρ) ⟨N, rt, bk, ct, fun x ρ1 => wD (g x.cls) fun k => wI k (wC (ρ1.env.length = i + m + 1) (wS (h x ⟨ρ1.env.set i (some .exn), ρ1.w⟩) ⟨fun ρ => wC (ρ.env.length = i + m + 1) (N ⟨ρ.env.set i none, ρ.w⟩), rt, fun ρ => wC (ρ.env.length = i + m + 1) (bk ⟨ρ.env.set i none, ρ.w⟩), fun ρ => wC (ρ.env.length = i + m + 1) (ct ⟨ρ.env.set i none, ρ.w⟩), fun _ _ => False⟩)) (ex x ρ1)⟩ := by simp only [aC', a8', bv', ag', bD', bE', bC', bw', bt', bu', bg', bo', aH', aG', br', a0', aB']; exact kl' ..
theorem uj' {k n : Nat} {b : MS} {ds : List D} {w : W} {Q : O -> W -> Prop} {X : Exc -> W -> Prop} (q : wS (b ⟨ds.map (fun d => some (.fz d)) ++ List.replicate (n - k) none, w⟩) ⟨fun ρ => Q (.fz .non) ρ.w, Q, fun _ => False, fun _ => False, fun x ρ => X x ρ.w⟩) (h : ds.length = k) : wF (fnM k n b ds w) Q X := by walk_at "z"; first | exact hY' .. | (apply hY' <;> assumption)
theorem wH' (o : O) (w : W) {Q : O -> W -> Prop} {X : Exc -> W -> Prop} : wF (.ok o w) Q X = Q o w := by walk_at "z"; first | exact kf' .. | (apply kf' <;> assumption)
theorem ti' (x : Exc) (w : W) {Q : O -> W -> Prop} {X : Exc -> W -> Prop} : wF (.exc x w) Q X = X x w := by walk_at "z"; first | exact hP' .. | (apply hP' <;> assumption)
theorem wF.mono {r : FRes} {Q Q' : O -> W -> Prop} {X : Exc -> W -> Prop} (h : wF r Q FX) (k : ∀ o w, Q o w -> Q' o w) : wF r Q' X := by walk_at "z"; first | exact vF.mono .. | (apply vF.mono <;> assumption)
theorem wF.monoX {r : FRes} {Q Q' : O -> W -> Prop} {X X' : Exc -> W -> Prop} (h : wF r Q X) (k : ∀ o w, Q o w -> Q' o w) (k2 : ∀ x w, X x w -> X' x w) : wF r Q' X' := by walk_at "z"; first | exact vF.monoX .. | (apply vF.monoX <;> assumption)
theorem wF.exi {r : FRes} {Q : O -> W -> Prop} (h : wF r Q FX) : ∃ o w, r = .ok o w /\ Q o w := by walk_at "z"; first | exact vF.exi .. | (apply vF.exi <;> assumption)
theorem wF.of {r : FRes} {Q : O -> W -> Prop} {X : Exc -> W -> Prop} {o : O} {w : W} (e : r = .ok o w) (h : Q o w) : wF r Q X := by walk_at "z"; first | exact vF.of .. | (apply vF.of <;> assumption)
theorem wS.mono {o : Out} {D1 D2 : En} (h : wS o D1) (h1 : ∀ ρ, D1.nx ρ -> D2.nx ρ) (h2 : ∀ o w, D1.rt o w -> D2.rt o w) (h3 : ∀ ρ, D1.bk ρ -> D2.bk ρ) (h4 : ∀ ρ, D1.ct ρ -> D2.ct ρ) (h5 : ∀ x ρ, D1.ex x ρ -> D2.ex x ρ) : wS o D2 := by walk_at "z"; first | exact vS.mono .. | (apply vS.mono <;> assumption)
theorem wE.mono {r : Res α} {Q Q' : α -> PSt -> Prop} {X X' : Exc -> PSt -> Prop} (h : wE r Q X) (k : ∀ a ρ, Q a ρ -> Q' a ρ) (k2 : ∀ x ρ, X x ρ -> X' x ρ) : wE r Q' X' := by walk_at "z"; first | exact vE.mono .. | (apply vE.mono <;> assumption)
theorem qp' {a b : MS} (J : PSt -> Prop) (h : wS (a ρ) ⟨J, rt, bk, ct, ex⟩) (k : ∀ ρ1, J ρ1 -> wS (b ρ1) ⟨N, rt, bk, ct, ex⟩) : wS (aZ' a b ρ) ⟨N, rt, bk, ct, ex⟩ := by walk_at "z"; first | exact e4' .. | (apply e4' <;> assumption)
theorem do' {p : Prop} [Decidable p] {A B : Prop} (h1 : p -> A) (h2 : ¬ p -> B) : wI (decide p) A B := by walk_at "z"; first | exact hL' .. | (apply hL' <;> assumption)
theorem gK' {γ : Type} {g : MG} {b : MS} {f : γ -> D} {cs : List γ} (Inv : List γ -> PSt -> Prop) (h0 : Inv [] ρ)
    (step : ∀ pre c post ρ, cs = pre ++ c :: post -> Inv pre ρ -> wD (g (f c) ρ) fun ρ1 => wS (b ρ1) ⟨Inv (pre ++ [c]), rt, N, Inv (pre ++ [c]), ex⟩)
    (hend : ∀ ρ, Inv cs ρ -> N ρ) : wS (i1' g b (cs.map f) ρ) ⟨N, rt, bk, ct, ex⟩ := by walk_at "z"; first | exact dr' .. | (apply dr' <;> assumption)
theorem cF' {g : MG} {b : MS} {lo : Int} {n : Nat} (Inv : Nat -> PSt -> Prop) (h0 : Inv 0 ρ)
    (step : ∀ k ρ, k < n -> Inv k ρ -> wD (g (.int (lo + (k : Nat))) ρ) fun ρ1 => wS (b ρ1) ⟨Inv (k + 1), rt, N, Inv (k + 1), ex⟩)
    (hend : ∀ ρ, Inv n ρ -> N ρ) : wS (i1' g b (rgI lo n) ρ) ⟨N, rt, bk, ct, ex⟩ := by walk_at "z"; first | exact e8' .. | (apply e8' <;> assumption)
theorem pi' {own : List Nat} {g : MG} {t : MT} {e : ME} {γ : Type} {f : γ -> D} {cs : List γ} {Q : List D -> PSt -> Prop} (hl : cs.length <= 16777216) (Inv : List γ -> List D -> PSt -> Prop) (h0 : Inv [] [] ρ)
    (step : ∀ pre c post acc ρ, cs = pre ++ c :: post -> Inv pre acc ρ -> wD (g (f c) ⟨aF' own ρ.env, ρ.w⟩) fun ρ1 => wE (t ρ1) (fun k ρ2 => wI k (wE (e ρ2) (fun y ρ3 => Inv (pre ++ [c]) (acc ++ [y]) ρ3) PX) (Inv (pre ++ [c]) acc ρ2)) PX)
    (hend : ∀ acc ρ, Inv cs acc ρ -> Q acc ρ) : wE (lcL own g t e (cs.map f) [] ρ) Q X := by walk_at "z"; first | exact hZ' .. | (apply hZ' <;> assumption)
end
theorem pS' (C : String) (fs : List (String × O)) {P : String -> List (String × O) -> Prop} : vP' (some (.ins C fs)) P = P C fs := by simp only [aB']; exact kd' ..
theorem xM' (cs : List String) (f : String) (o : O) (w : W) (n : Nat) {N : W -> Prop} : wD (stF cs f o w (.obj n)) N = vP' w[n]? (fun C fs => wC (C ∈ cs /\ fs.length < 1000) (N (w.set n (.ins C (mF' f o fs))))) := by simp only [ag', aB', br']; exact qe' ..
theorem nd' (w : W) (n : Nat) {Q : List O -> Prop} : vD (sv' w (.obj n)) Q = vOb w[n]? Q := by
  show vD (match w[n]? with | some (.lst os) => some os | _ => none) Q = _
  rcases w[n]? with _ | b
  . rfl
  cases b <;> rfl
theorem ve' (w : W) (n : Nat) {Q : List O -> Prop} : wD (sv' w (.obj n)) Q = wOb w[n]? Q := by simp only [aC', a8', bv', ag', a0']; exact nd' w n
theorem ne' (w : W) (n : Nat) {Q : D -> Prop} : vD (uu' w (.obj n)) Q = vOb w[n]? fun os => Q (.int os.length) := by
  show vD (match w[n]? with | some (.lst os) => some (.int os.length) | _ => none) Q = _
  rcases w[n]? with _ | b
  . rfl
  cases b <;> rfl
theorem vh' (w : W) (n : Nat) {Q : D -> Prop} : wD (uu' w (.obj n)) Q = wOb w[n]? fun os => Q (.int os.length) := by simp only [aC', a8', bv', ag', a0']; exact ne' w n
theorem pQ' (os : List O) {P : List O -> Prop} : wOb (some (.lst os)) P = P os := by walk_at "z"; first | exact eZ' .. | (apply eZ' <;> assumption)
theorem pV' {c : Prop} (h : c) (A : Prop) : wC c A = A := by walk_at "z"; first | exact kh' .. | (apply kh' <;> assumption)
theorem pU' (A : Prop) : wC True A = A := by walk_at "z"; first | exact e3' .. | (apply e3' <;> assumption)
theorem d4' {α : Type} {c : Prop} [Decidable c] {x : α} {Q : α -> Prop} : wD (if c then some x else none) Q = wC c (Q x) := by walk_at "z"; first | exact aw' .. | (apply aw' <;> assumption)
theorem hj' {α β : Type} {f : α -> β} {o : Option α} {Q : β -> Prop} : wD (o.map f) Q = wD o (fun a => Q (f a)) := by walk_at "z"; first | exact a7' .. | (apply a7' <;> assumption)
section
variable {Q : D -> Prop} {Y : List D -> Prop}
theorem vA' (i j : Int) : wD (cD' (.int i) (.int j)) Q = Q (.int (i + j)) := by walk_at "z"; first | exact iv' .. | (apply iv' <;> assumption)
theorem vy' (a b : Tx) : wD (cD' (.str a) (.str b)) Q = jf' (a.length + b.length) (Q (.str (a ++ b))) := by walk_at "z"; first | exact it' .. | (apply it' <;> assumption)
theorem vz' (a b : List D) : wD (cD' (.lst a) (.lst b)) Q = jf' (a.length + b.length) (Q (.lst (a ++ b))) := by walk_at "z"; first | exact iu' .. | (apply iu' <;> assumption)
theorem vx' (a b : List D) : wD (cD' (.tup a) (.tup b)) Q = jf' (a.length + b.length) (Q (.tup (a ++ b))) := by walk_at "z"; first | exact is' .. | (apply is' <;> assumption)
theorem sd' (i j : Int) : wD (uf' (.int i) (.int j)) Q = Q (.int (i + j)) := by walk_at "z"; first | exact fk' .. | (apply fk' <;> assumption)
theorem xK' (i j : Int) : wD (vW' (.int i) (.int j)) Q = Q (.int (i - j)) := by walk_at "z"; first | exact kx' .. | (apply kx' <;> assumption)
theorem x0' (i j : Int) : wD (gn' (.int i) (.int j)) Q = wC (((-18446744073709551616 < i /\ i < 18446744073709551616) \/ (-18446744073709551616 < j /\ j < 18446744073709551616)) \/ ((-2582249878086908589655919172003011874329705792829223512830659356540647622016841194629645353280137831435903171972747493376 < i /\ i < 2582249878086908589655919172003011874329705792829223512830659356540647622016841194629645353280137831435903171972747493376) /\ (-2582249878086908589655919172003011874329705792829223512830659356540647622016841194629645353280137831435903171972747493376 < j /\ j < 2582249878086908589655919172003011874329705792829223512830659356540647622016841194629645353280137831435903171972747493376))) (Q (.int (i * j))) := by walk_at "z"; first | exact kI' .. | (apply kI' <;> assumption)
theorem vc' (a : Tx) (j : Int) : wD (gn' (.str a) (.int j)) Q = wC (j < 4611686018427387904 /\ -4611686018427387904 <= j /\ a.length * j.toNat <= 16777216) (Q (.str (List.replicate j.toNat a).flatten)) := by walk_at "z"; first | exact ig' .. | (apply ig' <;> assumption)
theorem vd' (a : List D) (j : Int) : wD (gn' (.lst a) (.int j)) Q = wC (j < 4611686018427387904 /\ -4611686018427387904 <= j /\ a.length * j.toNat <= 16777216) (Q (.lst (List.replicate j.toNat a).flatten)) := by walk_at "z"; first | exact ih' .. | (apply ih' <;> assumption)
theorem vt' (i j : Int) : wD (fE' (.int i) (.int j)) Q = wC (0 < j /\ j < 1606938044258990275541962092341162602522202993782792835301376) (Q (.int (i / j))) := by walk_at "z"; first | exact ir' .. | (apply ir' <;> assumption)
theorem x1' (i j : Int) : wD (lE' (.int i) (.int j)) Q = wC (0 < j) (Q (.int (i % j))) := by walk_at "z"; first | exact kJ' .. | (apply kJ' <;> assumption)
theorem xV' (i j : Int) : wD (ub' (.int i) (.int j)) Q = wC (0 <= j /\ j <= 1000 /\ -18446744073709551616 < i /\ i < 18446744073709551616) (Q (.int (i ^ j.toNat))) := by walk_at "z"; first | exact kE' .. | (apply kE' <;> assumption)
theorem xW' (i : Int) : wD (uc' (.int i)) Q = Q (.int (-i)) := by walk_at "z"; first | exact kF' .. | (apply kF' <;> assumption)
theorem yj' (i j : Int) : wD (pEq (.int i) (.int j)) Q = Q (.bl (decide (i = j))) := by walk_at "z"; first | exact k3' .. | (apply k3' <;> assumption)
theorem vu' (i j : Tx) : wD (pEq (.str i) (.str j)) Q = Q (.bl (decide (i = j))) := by walk_at "z"; first | exact k1' .. | (apply k1' <;> assumption)
theorem yk' (i j : Bool) : wD (pEq (.bl i) (.bl j)) Q = Q (.bl (i == j)) := by walk_at "z"; first | exact k4' .. | (apply k4' <;> assumption)
theorem zw' (x y : D) : wD (pEq x y) Q = wC (dat x = true /\ dat y = true /\ dep x <= 64 /\ dep y <= 64) (Q (.bl (eqb x y))) := by walk_at "z"; first | exact oW' .. | (apply oW' <;> assumption)
theorem xY' (i j : Int) : wD (pNe (.int i) (.int j)) Q = Q (.bl (!decide (i = j))) := by walk_at "z"; first | exact kH' .. | (apply kH' <;> assumption)
theorem xX' (i j : Tx) : wD (pNe (.str i) (.str j)) Q = Q (.bl (!decide (i = j))) := by walk_at "z"; first | exact kG' .. | (apply kG' <;> assumption)
theorem zn' (x y : D) : wD (pNe x y) Q = wC (dat x = true /\ dat y = true /\ dep x <= 64 /\ dep y <= 64) (Q (.bl (!eqb x y))) := by walk_at "z"; first | exact oO' .. | (apply oO' <;> assumption)
theorem ya' (x : D) : wD (pIs x .non) Q = Q (.bl (dh' x)) := by walk_at "z"; first | exact kU' .. | (apply kU' <;> assumption)
theorem yb' (x y : Bool) : wD (pIs (.bl x) (.bl y)) Q = Q (.bl (x == y)) := by walk_at "z"; first | exact kV' .. | (apply kV' <;> assumption)
theorem n9' (x : D) : wD (iL' x .non) Q = Q (.bl (!dh' x)) := by walk_at "z"; first | exact d7' .. | (apply d7' <;> assumption)
theorem oa' (x y : Bool) : wD (iL' (.bl x) (.bl y)) Q = Q (.bl (!(x == y))) := by walk_at "z"; first | exact d8' .. | (apply d8' <;> assumption)
theorem zo' (i j : Int) : wD (pLt (.int i) (.int j)) Q = Q (.bl (decide (i < j))) := by walk_at "z"; first | exact oP' .. | (apply oP' <;> assumption)
theorem zp' (i j : Int) : wD (pLe (.int i) (.int j)) Q = Q (.bl (decide (i <= j))) := by walk_at "z"; first | exact oQ' .. | (apply oQ' <;> assumption)
theorem zq' (i j : Int) : wD (pGt (.int i) (.int j)) Q = Q (.bl (decide (j < i))) := by walk_at "z"; first | exact oR' .. | (apply oR' <;> assumption)
theorem zs' (i j : Int) : wD (pGe (.int i) (.int j)) Q = Q (.bl (decide (j <= i))) := by walk_at "z"; first | exact oT' .. | (apply oT' <;> assumption)
theorem x4' (i j : Tx) : wD (pLt (.str i) (.str j)) Q = Q (.bl (decide (i < j))) := by walk_at "z"; first | exact kM' .. | (apply kM' <;> assumption)
theorem r2' (i j : Tx) : wD (pLe (.str i) (.str j)) Q = Q (.bl (!decide (j < i))) := by walk_at "z"; first | exact kN' .. | (apply kN' <;> assumption)
theorem ye' (i j : Tx) : wD (pGt (.str i) (.str j)) Q = Q (.bl (decide (j < i))) := by walk_at "z"; first | exact kY' .. | (apply kY' <;> assumption)
theorem vp' (i j : Tx) : wD (pGe (.str i) (.str j)) Q = Q (.bl (!decide (i < j))) := by walk_at "z"; first | exact k0' .. | (apply k0' <;> assumption)
theorem yd' (c : Nat) (s : Tx) : wD (pIn (.str [c]) (.str s)) Q = Q (.bl (decide (c ∈ s))) := by walk_at "z"; first | exact kX' .. | (apply kX' <;> assumption)
theorem va' (c : Nat) (s : Tx) : wD (fC' (.str [c]) (.str s)) Q = Q (.bl (!decide (c ∈ s))) := by walk_at "z"; first | exact if' .. | (apply if' <;> assumption)
theorem pu' (i : Int) (ns : List Int) : wD (pIn (.int i) (.tup (ns.map .int))) Q = Q (.bl (decide (i ∈ ns))) := by walk_at "z"; first | exact io' .. | (apply io' <;> assumption)
theorem pv' (i : Int) (ns : List Int) : wD (pIn (.int i) (.lst (ns.map .int))) Q = Q (.bl (decide (i ∈ ns))) := by walk_at "z"; first | exact ip' .. | (apply ip' <;> assumption)
theorem vi' (s : Tx) : wD (dg' (.str s)) Q = Q (.int s.length) := by walk_at "z"; first | exact ik' .. | (apply ik' <;> assumption)
theorem vk' (s : List D) : wD (dg' (.lst s)) Q = Q (.int s.length) := by walk_at "z"; first | exact il' .. | (apply il' <;> assumption)
theorem i6' (s : List D) : wD (dg' (.tup s)) Q = Q (.int s.length) := by walk_at "z"; first | exact ij' .. | (apply ij' <;> assumption)
theorem x6' (s : Tx) (i : Int) : wD (pIx (.str s) (.int i)) Q = wD (ati s i) (fun c => Q (.str [c])) := by walk_at "z"; first | exact kQ' .. | (apply kQ' <;> assumption)
theorem x9' (s : List D) (i : Int) : wD (pIx (.lst s) (.int i)) Q = wD (ati s i) Q := by walk_at "z"; first | exact kS' .. | (apply kS' <;> assumption)
theorem r5' (s : List D) (i : Int) : wD (pIx (.tup s) (.int i)) Q = wD (ati s i) Q := by walk_at "z"; first | exact kP' .. | (apply kP' <;> assumption)
theorem xO' (s : Tx) (lo hi : Option Int) : wD (pSl (.str s) lo hi) Q = Q (.str (cut s lo hi)) := by walk_at "z"; first | exact kz' .. | (apply kz' <;> assumption)
theorem xQ' (s : List D) (lo hi : Option Int) : wD (pSl (.lst s) lo hi) Q = Q (.lst (cut s lo hi)) := by walk_at "z"; first | exact kB' .. | (apply kB' <;> assumption)
theorem xN' (s : List D) (lo hi : Option Int) : wD (pSl (.tup s) lo hi) Q = Q (.tup (cut s lo hi)) := by walk_at "z"; first | exact ky' .. | (apply ky' <;> assumption)
theorem xP' (s : List D) (lo hi : Option Int) : wD (pSl (.scr s) lo hi) Q = Q (.lst (cut s lo hi)) := by walk_at "z"; first | exact kA' .. | (apply kA' <;> assumption)
theorem u6' (s : Tx) : wD (jp' (.str s)) Q = Q (.str s.reverse) := by walk_at "z"; first | exact ic' .. | (apply ic' <;> assumption)
theorem u7' (s : List D) : wD (jp' (.lst s)) Q = Q (.lst s.reverse) := by walk_at "z"; first | exact id' .. | (apply id' <;> assumption)
theorem mm' (l : List Tx) : wD (dE' [] [.lst (l.map .str)]) Q = jf' (l.map List.length).sum (Q (.str l.flatten)) := by walk_at "z"; first | exact en' .. | (apply en' <;> assumption)
theorem r3' (l : Tx) : wD (dE' [] [.lst (l.map chD)]) Q = jf' l.length (Q (.str l)) := by walk_at "z"; first | exact fi' .. | (apply fi' <;> assumption)
theorem vr' (a b : Tx) : wD (uq' a [.str b]) Q = Q (.int (fnd (sz' a b))) := by walk_at "z"; first | exact iq' .. | (apply iq' <;> assumption)
theorem r8' (a b : Tx) : wD (ph' a [.str b]) Q = wD (sz' a b) (fun i => Q (.int (i : Nat))) := by walk_at "z"; first | exact fj' .. | (apply fj' <;> assumption)
theorem rO' (s : Tx) : wD (pa' (.str s)) Q = wC (s.all (fun c => decide (c < 128)) = true /\ s.length <= 5592405) (Q (.str (s.map up1))) := by walk_at "z"; first | exact e9' .. | (apply e9' <;> assumption)
theorem yc' (i : Int) : wD (jq' (.int i)) Q = Q (.int i) := by walk_at "z"; first | exact kW' .. | (apply kW' <;> assumption)
theorem vo' (b : Bool) : wD (jq' (.bl b)) Q = Q (.int (if b then 1 else 0)) := by walk_at "z"; first | exact in' .. | (apply in' <;> assumption)
theorem yq' (i : Int) : wD (vX' (.int i)) Q = Q (.int (if i < 0 then -i else i)) := by walk_at "z"; first | exact lb' .. | (apply lb' <;> assumption)
theorem x3' (i j : Int) : wD (ue' (.int i) (.int j)) Q = Q (.int (max i j)) := by walk_at "z"; first | exact kL' .. | (apply kL' <;> assumption)
theorem x2' (i j : Int) : wD (ud' (.int i) (.int j)) Q = Q (.int (min i j)) := by walk_at "z"; first | exact kK' .. | (apply kK' <;> assumption)
theorem u2' (s : List D) : wD (fB' (.lst s)) Q = Q (.tup s) := by walk_at "z"; first | exact h7' .. | (apply h7' <;> assumption)
theorem u0' (s : List D) : wD (fB' (.tup s)) Q = Q (.tup s) := by walk_at "z"; first | exact h6' .. | (apply h6' <;> assumption)
theorem rX' (s : List D) : wD (fD' (.lst s)) Q = Q (.lst s) := by walk_at "z"; first | exact ff' .. | (apply ff' <;> assumption)
theorem rV' (s : List D) : wD (fD' (.tup s)) Q = Q (.lst s) := by walk_at "z"; first | exact fd' .. | (apply fd' <;> assumption)
theorem rR' (s : Tx) : wD (cC' (.str s)) Q = wC (s.length < 64) (Q (.lst ((bK' s).map chD))) := by walk_at "z"; first | exact fa' .. | (apply fa' <;> assumption)
theorem aP' (t : String) (d : D) : wD (bs' t d) Q = wD (tyn d) (fun n => Q (.bl (n == t || (n == "bool" && t == "int")))) := by walk_at "z"; first | exact kT' .. | (apply kT' <;> assumption)
theorem xJ' (l : List Int) : wD (yI' (.lst (l.map .int))) Q = Q (.int l.sum) := by walk_at "z"; first | exact kw' .. | (apply kw' <;> assumption)
theorem vw' (l : List Bool) : wD (lF' (.lst (l.map .bl))) Q = Q (.bl (l.all id)) := by walk_at "z"; first | exact la' .. | (apply la' <;> assumption)
theorem sc' (l : List Bool) : wD (mG' (.lst (l.map .bl))) Q = Q (.bl (l.any id)) := by walk_at "z"; first | exact k9' .. | (apply k9' <;> assumption)
theorem u5' (s : List D) : wD (cz' (.lst s)) Y = Y s := by walk_at "z"; first | exact ib' .. | (apply ib' <;> assumption)
theorem i4' (s : List D) : wD (cz' (.tup s)) Y = Y s := by walk_at "z"; first | exact h9' .. | (apply h9' <;> assumption)
theorem u4' (s : Tx) : wD (cz' (.str s)) Y = Y (s.map chD) := by walk_at "z"; first | exact ia' .. | (apply ia' <;> assumption)
theorem xU' (j : Int) : wD (c3' (.int j)) Y = wC (-4611686018427387904 <= j /\ j < 4611686018427387904) (Y (rgI 0 j.toNat)) := by walk_at "z"; first | exact kD' .. | (apply kD' <;> assumption)
theorem xT' (i j : Int) : wD (c2' (.int i) (.int j)) Y = wC ((-4611686018427387904 <= i /\ i < 4611686018427387904) /\ (-4611686018427387904 <= j /\ j < 4611686018427387904)) (Y (rgI i (j - i).toNat)) := by walk_at "z"; first | exact kC' .. | (apply kC' <;> assumption)
theorem uV' (a b : Tx) : wD (mD' (.str a) (.str b)) Y = Y (b0' (a.map chD) (b.map chD)) := by walk_at "z"; first | exact h3' .. | (apply h3' <;> assumption)
theorem uY' (a b : List D) : wD (mD' (.lst a) (.lst b)) Y = Y (b0' a b) := by walk_at "z"; first | exact h5' .. | (apply h5' <;> assumption)
theorem uU' (a b : List D) : wD (mD' (.tup a) (.tup b)) Y = Y (b0' a b) := by walk_at "z"; first | exact h0' .. | (apply h0' <;> assumption)
theorem uX' (a : Tx) (b : List D) : wD (sB' (.str a) (.tup b)) Y = Y (b0' (a.map chD) b) := by walk_at "z"; first | exact h4' .. | (apply h4' <;> assumption)
theorem yl' (a : Tx) : wD (enB (.str a)) Y = Y (gN' 0 (a.map chD)) := by walk_at "z"; first | exact k5' .. | (apply k5' <;> assumption)
theorem ym' (a : List D) : wD (enB (.lst a)) Y = Y (gN' 0 a) := by walk_at "z"; first | exact k6' .. | (apply k6' <;> assumption)
theorem rT' (a : List D) : wD (qG' (.lst a)) Y = Y a.reverse := by walk_at "z"; first | exact fc' .. | (apply fc' <;> assumption)
theorem rS' (a : List D) : wD (qG' (.tup a)) Y = Y a.reverse := by walk_at "z"; first | exact fb' .. | (apply fb' <;> assumption)
theorem vf' (j : Int) : wD (iK' (.int j)) Q = wC (RgB 0 j = true) (Q (.lst (l7' 0 j))) := by walk_at "z"; first | exact ii' .. | (apply ii' <;> assumption)
theorem zu' (i : Nat) (d : D) (env : List (Option O)) (w : W) {N : PSt -> Prop} : wD (gN i d ⟨env, w⟩) N = mV' i env.length (N ⟨env.set i (some (.fz d)), w⟩) := by walk_at "z"; first | exact oV' .. | (apply oV' <;> assumption)
theorem zt' (is : List Nat) (ds : List D) (ρ : PSt) {N : PSt -> Prop} : wD (gT is (.tup ds) ρ) N = wD (gNs is ds ρ) N := by walk_at "z"; first | exact oU' .. | (apply oU' <;> assumption)
theorem yf' (ρ : PSt) {N : PSt -> Prop} : wD (gNs [] [] ρ) N = N ρ := by walk_at "z"; first | exact kZ' .. | (apply kZ' <;> assumption)
theorem zr' (i : Nat) (is : List Nat) (d : D) (ds : List D) (ρ : PSt) {N : PSt -> Prop} : wD (gNs (i :: is) (d :: ds) ρ) N = wD (gN i d ρ) (fun ρ1 => wD (gNs is ds ρ1) N) := by walk_at "z"; first | exact oS' .. | (apply oS' <;> assumption)
theorem x5' (w : W) (n : Nat) (k : D) : wD (ixW w (.obj n) k) Q = wOb w[n]? (fun os => wD (ixO (.lst os) k) Q) := by walk_at "z"; first | exact kO' .. | (apply kO' <;> assumption)
theorem x7' (os : List O) (i : Int) : wD (ixO (.lst os) (.int i)) Q = wD (ati os i) (fun o => wD (asF o) Q) := by walk_at "z"; first | exact kR' .. | (apply kR' <;> assumption)
theorem yp' (d : D) : wD (asF (.fz d)) Q = Q d := by walk_at "z"; first | exact k8' .. | (apply k8' <;> assumption)
theorem yo' (d : List D) {Q : List D -> Prop} : wD (asL (.lst d)) Q = Q d := by walk_at "z"; first | exact k7' .. | (apply k7' <;> assumption)
theorem vm' (d k : D) : wD (ixO (.fz d) k) Q = wD (pIx d k) Q := by walk_at "z"; first | exact im' .. | (apply im' <;> assumption)
theorem u3' (w : W) (n : Nat) (z : Int) (d : D) {N : W -> Prop} : wD (nk' w (.obj n) (.int z) d) N = wOb w[n]? (fun os => wD (ixn os.length z) (fun j => N (w.set n (.lst (os.set j (.fz d)))))) := by walk_at "z"; first | exact h8' .. | (apply h8' <;> assumption)
theorem rZ' (os : List O) : wD (mH' (.lst os)) Q = Q (.int os.length) := by walk_at "z"; first | exact fg' .. | (apply fg' <;> assumption)
theorem r0' (d : D) : wD (mH' (.fz d)) Q = wD (dg' d) Q := by walk_at "z"; first | exact fh' .. | (apply fh' <;> assumption)
end
theorem g1'  {Q : D -> Prop} : wD (bs' "int" .non) Q = Q (.bl false) := by rw [aP', ag']; rfl
theorem jy' (a : Bool) {Q : D -> Prop} : wD (bs' "int" (.bl a)) Q = Q (.bl true) := by rw [aP', ag']; rfl
theorem g3' (a : Int) {Q : D -> Prop} : wD (bs' "int" (.int a)) Q = Q (.bl true) := by rw [aP', ag']; rfl
theorem g0' (a : Tx) {Q : D -> Prop} : wD (bs' "int" (.str a)) Q = Q (.bl false) := by rw [aP', ag']; rfl
theorem gZ' (a : List D) {Q : D -> Prop} : wD (bs' "int" (.tup a)) Q = Q (.bl false) := by rw [aP', ag']; rfl
theorem g2' (a : List D) {Q : D -> Prop} : wD (bs' "int" (.lst a)) Q = Q (.bl false) := by rw [aP', ag']; rfl
theorem g4' (a b : List D) {Q : D -> Prop} : wD (bs' "int" (.dct a b)) Q = Q (.bl false) := by rw [aP', ag']; rfl
theorem f9'  {Q : D -> Prop} : wD (bs' "bool" .non) Q = Q (.bl false) := by rw [aP', ag']; rfl
theorem g6' (a : Bool) {Q : D -> Prop} : wD (bs' "bool" (.bl a)) Q = Q (.bl true) := by rw [aP', ag']; rfl
theorem gb' (a : Int) {Q : D -> Prop} : wD (bs' "bool" (.int a)) Q = Q (.bl false) := by rw [aP', ag']; rfl
theorem f8' (a : Tx) {Q : D -> Prop} : wD (bs' "bool" (.str a)) Q = Q (.bl false) := by rw [aP', ag']; rfl
theorem f7' (a : List D) {Q : D -> Prop} : wD (bs' "bool" (.tup a)) Q = Q (.bl false) := by rw [aP', ag']; rfl
theorem ga' (a : List D) {Q : D -> Prop} : wD (bs' "bool" (.lst a)) Q = Q (.bl false) := by rw [aP', ag']; rfl
theorem gc' (a b : List D) {Q : D -> Prop} : wD (bs' "bool" (.dct a b)) Q = Q (.bl false) := by rw [aP', ag']; rfl
theorem gU'  {Q : D -> Prop} : wD (bs' "str" .non) Q = Q (.bl false) := by rw [aP', ag']; rfl
theorem jx' (a : Bool) {Q : D -> Prop} : wD (bs' "str" (.bl a)) Q = Q (.bl false) := by rw [aP', ag']; rfl
theorem gW' (a : Int) {Q : D -> Prop} : wD (bs' "str" (.int a)) Q = Q (.bl false) := by rw [aP', ag']; rfl
theorem gT' (a : Tx) {Q : D -> Prop} : wD (bs' "str" (.str a)) Q = Q (.bl true) := by rw [aP', ag']; rfl
theorem gS' (a : List D) {Q : D -> Prop} : wD (bs' "str" (.tup a)) Q = Q (.bl false) := by rw [aP', ag']; rfl
theorem gV' (a : List D) {Q : D -> Prop} : wD (bs' "str" (.lst a)) Q = Q (.bl false) := by rw [aP', ag']; rfl
theorem gX' (a b : List D) {Q : D -> Prop} : wD (bs' "str" (.dct a b)) Q = Q (.bl false) := by rw [aP', ag']; rfl
theorem eI'  {Q : D -> Prop} : wD (bs' "tuple" .non) Q = Q (.bl false) := by rw [aP', ag']; rfl
theorem fT' (a : Bool) {Q : D -> Prop} : wD (bs' "tuple" (.bl a)) Q = Q (.bl false) := by rw [aP', ag']; rfl
theorem eK' (a : Int) {Q : D -> Prop} : wD (bs' "tuple" (.int a)) Q = Q (.bl false) := by rw [aP', ag']; rfl
theorem eH' (a : Tx) {Q : D -> Prop} : wD (bs' "tuple" (.str a)) Q = Q (.bl false) := by rw [aP', ag']; rfl
theorem eG' (a : List D) {Q : D -> Prop} : wD (bs' "tuple" (.tup a)) Q = Q (.bl true) := by rw [aP', ag']; rfl
theorem eJ' (a : List D) {Q : D -> Prop} : wD (bs' "tuple" (.lst a)) Q = Q (.bl false) := by rw [aP', ag']; rfl
theorem eL' (a b : List D) {Q : D -> Prop} : wD (bs' "tuple" (.dct a b)) Q = Q (.bl false) := by rw [aP', ag']; rfl
theorem fW'  {Q : D -> Prop} : wD (bs' "list" .non) Q = Q (.bl false) := by rw [aP', ag']; rfl
theorem gY' (a : Bool) {Q : D -> Prop} : wD (bs' "list" (.bl a)) Q = Q (.bl false) := by rw [aP', ag']; rfl
theorem fY' (a : Int) {Q : D -> Prop} : wD (bs' "list" (.int a)) Q = Q (.bl false) := by rw [aP', ag']; rfl
theorem fV' (a : Tx) {Q : D -> Prop} : wD (bs' "list" (.str a)) Q = Q (.bl false) := by rw [aP', ag']; rfl
theorem fU' (a : List D) {Q : D -> Prop} : wD (bs' "list" (.tup a)) Q = Q (.bl false) := by rw [aP', ag']; rfl
theorem fX' (a : List D) {Q : D -> Prop} : wD (bs' "list" (.lst a)) Q = Q (.bl true) := by rw [aP', ag']; rfl
theorem fZ' (a b : List D) {Q : D -> Prop} : wD (bs' "list" (.dct a b)) Q = Q (.bl false) := by rw [aP', ag']; rfl
theorem f3'  {Q : D -> Prop} : wD (bs' "dict" .non) Q = Q (.bl false) := by rw [aP', ag']; rfl
theorem g5' (a : Bool) {Q : D -> Prop} : wD (bs' "dict" (.bl a)) Q = Q (.bl false) := by rw [aP', ag']; rfl
theorem f5' (a : Int) {Q : D -> Prop} : wD (bs' "dict" (.int a)) Q = Q (.bl false) := by rw [aP', ag']; rfl
theorem f1' (a : Tx) {Q : D -> Prop} : wD (bs' "dict" (.str a)) Q = Q (.bl false) := by rw [aP', ag']; rfl
theorem f0' (a : List D) {Q : D -> Prop} : wD (bs' "dict" (.tup a)) Q = Q (.bl false) := by rw [aP', ag']; rfl
theorem f4' (a : List D) {Q : D -> Prop} : wD (bs' "dict" (.lst a)) Q = Q (.bl false) := by rw [aP', ag']; rfl
theorem f6' (a b : List D) {Q : D -> Prop} : wD (bs' "dict" (.dct a b)) Q = Q (.bl true) := by rw [aP', ag']; rfl
theorem i7' (l : List Int) (v : Int) {Q : D -> Prop} : wD (lT' (l.map .int) [.int v]) Q = wC (v ∈ l) (Q (.int (l.idxOf v : Nat))) := by
  show wD ((bA' (l.map .int)).bind fun ns => if v ∈ ns then some (D.int ((ns.idxOf v : Nat) : Int)) else none) Q = _
  rw [l6', Option.bind_some, d4']
theorem td' {p : Prop} [Decidable p] (h : p) (A B : Prop) : wI (decide p) A B = A := by rw [decide_eq_true h]; exact vQ' A B
theorem wC' {p : Prop} [Decidable p] (h : ¬ p) (A B : Prop) : wI (decide p) A B = B := by rw [decide_eq_false h]; exact wD' A B
theorem yS' {b : Bool} (h : b = true) : O.fz (.bl true) = O.fz (.bl b) := by rw [h]
theorem yT' {b : Bool} (h : b = false) : O.fz (.bl false) = O.fz (.bl b) := by rw [h]
theorem sg' {α β : Type} (f : α -> β) (l : List α) (i : Int) : ati (l.map f) i = (ati l i).map f := by
  unfold ati
  rw [List.length_map]
  cases ixn l.length i with
  | none => rfl
  | some j => simp
theorem bV' {α : Type} {xs : List α} {i : Nat} {Q : α -> Prop} (h : i < xs.length) (k : ∀ x, x ∈ xs -> xs[i]? = some x -> Q x) : wD xs[i]? Q := by
  rw [List.getElem?_eq_getElem h, aV']
  exact k _ (List.getElem_mem h) (List.getElem?_eq_getElem h)
theorem fK' {α : Type} {l : List α} {i : Nat} {x : α} (h : l[i]? = some x) : i < l.length := (List.getElem?_eq_some_iff.mp h).1
def But (n : Nat) (w w' : W) : Prop := w'.length = w.length /\ ∀ j, j ≠ n -> w'[j]? = w[j]?
theorem But.refl {n : Nat} {w : W} : But n w w := ⟨rfl, fun _ _ => rfl⟩
theorem But.trans {n : Nat} {w w1 w2 : W} (a : But n w w1) (b : But n w1 w2) : But n w w2 := ⟨b.1.trans a.1, fun j h => (b.2 j h).trans (a.2 j h)⟩
theorem But.set {n : Nat} {w w1 : W} {o : Ob} (a : But n w w1) : But n w (w1.set n o) := ⟨by rw [List.length_set]; exact a.1, fun j h => by rw [List.getElem?_set_ne (Ne.symm h)]; exact a.2 j h⟩
theorem tn1 (d : Nat) : ((d : Int) + 1).toNat = d + 1 := rfl
theorem vI' (l : List D) (d : D) : l.map O.fz ++ [O.fz d] = (l ++ [d]).map O.fz := by simp
theorem rv' (l : List D) : frz (.lst (l.map .fz)) = .lst l := by simp [frz]
theorem pT' {k : Bool} {A B : Prop} (h1 : k = true -> A) (h2 : k = false -> B) : wI k A B := by
  cases k
  . rw [wD']; exact h2 rfl
  . rw [vQ']; exact h1 rfl
def gl' (w : W) (n : Nat) : Prop := ∃ (cells : List Int) (i b s c : Int), w[n]? = some (.lst [.fz (.lst (cells.map .int)), .fz (.int i), .fz (.int b), .fz (.int s), .fz (.int c)]) /\ 0 <= i
theorem s6' (A : Prop) : vX (some (some .exn)) A = A := rfl
end M
namespace M
mutual
theorem eD' : ∀ (d : D), dat d = true -> eqb d d = true
  | .non, _ => rfl
  | .bl b, _ => by simp [eqb]
  | .int i, _ => by simp [eqb]
  | .str s, _ => by simp [eqb]
  | .tup ds, h => by simp only [eqb]; exact eqbs_refl ds (by simpa [dat] using h)
  | .lst ds, h => by simp only [eqb]; exact eqbs_refl ds (by simpa [dat] using h)
theorem eqbs_refl : ∀ (ds : List D), dats ds = true -> eqbs ds ds = true
  | [], _ => rfl
  | d :: r, h => by
    simp only [dats, Bool.and_eq_true] at h
    simp only [eqbs, eD' d h.1, eqbs_refl r h.2, Bool.and_self]
end
theorem i5' (x : D) (h : dat x = true) (h2 : dep x <= 64) {Q : D -> Prop} : wD (pNe x x) Q = Q (.bl false) := by
  rw [zn', pV' ⟨h, h, h2, h2⟩, eD' x h]; rfl
theorem oe' (x : D) (h : dat x = true) (h2 : dep x <= 64) {Q : D -> Prop} : wD (pEq x x) Q = Q (.bl true) := by
  rw [zw', pV' ⟨h, h, h2, h2⟩, eD' x h]
def lv' (r : List Nat) : D := .tup (r.map fun t => .int (t : Nat))
def ng' (T : List (List Nat)) : D := .tup (T.map lv')
def mz' (A : List Nat) : D := .tup (A.map fun a => .int (a : Nat))
def eP' (T : List (List Nat)) (size many : Nat) : Prop := T.length = size /\ ∀ r ∈ T, r.length = many /\ ∀ t ∈ r, t < size
abbrev abc : Tx := [97, 98, 99, 100, 101, 102, 103, 104, 105, 106, 107, 108, 109, 110, 111, 112, 113, 114, 115, 116, 117, 118, 119, 120, 121, 122]
structure LetOk (L : Tx) (most : Nat) : Prop where
  ne : 1 <= L.length
  le : L.length <= most
  asc : L.Pairwise (· < ·)
  abc : ∀ c ∈ L, 97 <= c /\ c <= 122
structure AccOk (A : List Nat) (size : Nat) : Prop where
  asc : A.Pairwise (· < ·)
  lt : ∀ a ∈ A, a < size
structure MacOk (L : Tx) (T : List (List Nat)) (A : List Nat) (most states : Nat) : Prop where
  let' : LetOk L most
  tab : eP' T T.length L.length
  ne : 1 <= T.length
  le : T.length <= states
  acc : AccOk A T.length
theorem r4' (T : List (List Nat)) (s : Nat) {Q : D -> Prop} : wD (pIx (ng' T) (.int (s : Nat))) Q = wD T[s]? (fun r => Q (lv' r)) := by
  unfold ng'
  rw [r5', jb' (by omega), List.getElem?_map, hj', Int.toNat_natCast]
theorem r6' (r : List Nat) (s : Nat) {Q : D -> Prop} : wD (pIx (lv' r) (.int (s : Nat))) Q = wD r[s]? (fun t => Q (.int (t : Nat))) := by
  unfold lv'
  rw [r5', jb' (by omega), List.getElem?_map, hj', Int.toNat_natCast]
theorem mn' (A : List Nat) (s : Nat) {Q : D -> Prop} : wD (pIn (.int (s : Nat)) (mz' A)) Q = Q (.bl (decide (s ∈ A))) := by
  unfold mz'
  have := pu' (Q := Q) (s : Int) (A.map (Nat.cast : Nat -> Int))
  rw [List.map_map] at this
  rw [show (A.map fun a => D.int (a : Nat)) = A.map (D.int ∘ (Nat.cast : Nat -> Int)) from rfl, this]
  congr 2
  simp only [List.mem_map, decide_eq_decide]
  constructor
  . rintro ⟨a, h, e⟩
    have : a = s := by omega
    exact this ▸ h
  . exact fun h => ⟨s, h, rfl⟩
theorem n6' (T : List (List Nat)) {Q : D -> Prop} : wD (dg' (ng' T)) Q = Q (.int T.length) := by
  unfold ng'
  rw [i6', List.length_map]
theorem n7' (T : List Nat) {Q : D -> Prop} : wD (dg' (lv' T)) Q = Q (.int T.length) := by
  unfold lv'
  rw [i6', List.length_map]
theorem n8' (T : List Nat) {Q : D -> Prop} : wD (dg' (mz' T)) Q = Q (.int T.length) := by
  unfold mz'
  rw [i6', List.length_map]
theorem i0' (v : Nat) : ∀ l : List Nat, (l.map (Nat.cast : Nat -> Int)).idxOf (v : Int) = l.idxOf v
  | [] => rfl
  | a :: l => by
    simp only [List.map_cons, List.idxOf_cons, i0' v l]
    have : ((a : Int) == (v : Int)) = (a == v) := by rw [Bool.eq_iff_iff]; simp; omega
    rw [this]
theorem oc' (l : List Nat) (v : Nat) {Q : D -> Prop} : wD (lT' (l.map fun s => .int (s : Nat)) [.int (v : Nat)]) Q = wC (v ∈ l) (Q (.int (l.idxOf v : Nat))) := by
  have h := i7' (Q := Q) (l.map (Nat.cast : Nat -> Int)) (v : Int)
  rw [List.map_map, i0'] at h
  rw [show (l.map fun s => D.int (s : Nat)) = l.map (D.int ∘ (Nat.cast : Nat -> Int)) from rfl, h]
  congr 1
  simp only [List.mem_map]
  rw [eq_iff_iff]
  constructor
  . rintro ⟨a, h, e⟩
    have : a = v := by omega
    exact this ▸ h
  . exact fun h => ⟨v, h, rfl⟩
theorem n0' (i : Nat) : fnd (some i) = (i : Int) := rfl
def stp (L : Tx) (T : List (List Nat)) (s c : Nat) : Nat := (((T[s]?).getD [])[L.idxOf c]?).getD 0
def run (L : Tx) (T : List (List Nat)) (s : Nat) (x : Tx) : Nat := x.foldl (stp L T) s
theorem tu' {L : Tx} {T : List (List Nat)} (h : eP' T T.length L.length) {s c : Nat} (hs : s < T.length) (hc : c ∈ L) : ∃ r, T[s]? = some r /\ r[L.idxOf c]? = some (stp L T s c) /\ stp L T s c < T.length := by
  have hr := h.2 T[s] (List.getElem_mem hs)
  have hi : L.idxOf c < T[s].length := by rw [hr.1]; exact List.idxOf_lt_length_iff.mpr hc
  have e : stp L T s c = T[s][L.idxOf c] := by
    unfold stp
    rw [List.getElem?_eq_getElem hs, Option.getD_some, List.getElem?_eq_getElem hi, Option.getD_some]
  exact ⟨T[s], List.getElem?_eq_getElem hs, by rw [e, List.getElem?_eq_getElem hi], by rw [e]; exact hr.2 _ (List.getElem_mem hi)⟩
theorem qF' {L T s} : run L T s [] = s := rfl
theorem nA' {L T s c x} : run L T s (c :: x) = run L T (stp L T s c) x := rfl
def yM' (L : Tx) (T : List (List Nat)) (A : List Nat) : Ob := .ins "Machine" [("kept_letters", .fz (.str L)), ("kept_table", .fz (ng' T)), ("kept_accepts", .fz (mz' A)), ("kept_least", .fz .non), ("kept_field", .fz .non), ("kept_lots", .dct [] []), ("kept_more", .dct [] [])]
structure Mac (w : W) (m : Nat) (L : Tx) (T : List (List Nat)) (A : List Nat) : Prop where
  fl : ∀ cs, "Machine" ∈ cs -> ry' cs "kept_letters" w (.obj m) = some (.str L)
  ft : ∀ cs, "Machine" ∈ cs -> ry' cs "kept_table" w (.obj m) = some (ng' T)
  fa : ∀ cs, "Machine" ∈ cs -> ry' cs "kept_accepts" w (.obj m) = some (mz' A)
theorem Mac.new {w : W} {m : Nat} {L T A} (h : w[m]? = some (yM' L T A)) : Mac w m L T A := by
  refine ⟨fun cs hc => ?_, fun cs hc => ?_, fun cs hc => ?_⟩
  all_goals simp [ry', h, yM', hc, List.lookup]
end M
namespace M
theorem wD.mono {α : Type} {o : Option α} {Q Q' : α -> Prop} (h : wD o Q) (k : ∀ a, Q a -> Q' a) : wD o Q' := by
  rw [ag'] at *
  cases o with
  | none => exact h
  | some a => exact k a h
theorem cv' {own : List Nat} {g : MG} {t : MT} {e : ME} {γ : Type} {f : γ -> D} {cs : List γ} {Q : List D -> PSt -> Prop} {X : Exc -> PSt -> Prop} {env : List (Option O)} {w : W} (v : γ -> D) (hl : cs.length <= 16777216)
    (step : ∀ c ∈ cs, wD (g (f c) ⟨aF' own env, w⟩) fun ρ1 => wE (t ρ1) (fun k ρ2 => k = true /\ wE (e ρ2) (fun y ρ3 => y = v c /\ ρ3.w = w /\ aF' own ρ3.env = aF' own env) PX) PX)
    (hend : ∀ env2, aF' own env2 = aF' own env -> Q (cs.map v) ⟨env2, w⟩) : wE (lcL own g t e (cs.map f) [] ⟨env, w⟩) Q X := by
  refine pi' hl (fun pre acc ρ => acc = pre.map v /\ ρ.w = w /\ aF' own ρ.env = aF' own env) ⟨rfl, rfl, rfl⟩ ?_ ?_
  . rintro pre c post acc ρ ec ⟨rfl, hw, he⟩
    have s := step c (by rw [ec]; simp)
    rw [he, hw]
    refine s.mono fun ρ1 s => ?_
    refine s.mono ?_ (fun _ _ z => z)
    rintro k ρ2 ⟨rfl, h3⟩
    rw [vQ']
    refine h3.mono ?_ (fun _ _ z => z)
    rintro y ρ3 ⟨rfl, h4, h5⟩
    exact ⟨by simp, h4, h5⟩
  . rintro acc ⟨env2, w2⟩ ⟨rfl, hw, he⟩
    simp only at hw he
    subst hw
    exact hend env2 he
end M
namespace M
def rM' : O -> D -> D -> Option (D × O)
  | .dct ks os, y, d => if isK y = true /\ ks.length < bB' then (match dget ks os y with
    | some (.fz e) => some (e, .dct ks os)
    | some _ => none
    | none => some (d, .dct (ks ++ [y]) (os ++ [.fz d]))) else none
  | _, _, _ => none
def l5' : O -> Prop
  | .dct _ _ => True
  | _ => False
section
variable {ρ : PSt} {P : D -> PSt -> Prop} {R : O -> PSt -> Prop} {X : Exc -> PSt -> Prop} {Y : List D -> PSt -> Prop}
theorem p6' (neg : Bool) (i : Nat) (a : ME) : vE (xF' neg i a ρ) P X = vE (a ρ) (fun k ρ1 => vO ρ1.env[i]? fun o => vD (bk' o k) fun r => P (.bl (r.isSome != neg)) ρ1) X := by
  unfold xF'
  rw [aa']
  congr
  funext k ρ1
  rcases ρ1.env[i]? with _ | _ | o
  . rfl
  . rfl
  . show vE (ofO _ _) P X = vD _ _
    rw [af', a7']
theorem p5' (i : Nat) (b : ME) (env : List (Option O)) (w : W) : vE (yP' i b ⟨env, w⟩) P X = vO env[i]? fun _ => vE (b ⟨env, w⟩) (fun k ρ1 => vO ρ1.env[i]? fun o => vD (gj' (bk' o k)) fun z => P z ρ1) X := by
  show vE (match env[i]? with
  | some (some _) => (b ⟨env, w⟩).bind fun k ρ1 => match ρ1.env[i]? with
    | some (some o) => ofO (gj' (bk' o k)) ρ1
    | _ => .bad
  | _ => .bad) P X = _
  rcases env[i]? with _ | _ | o
  . rfl
  . rfl
  simp only [aa', vO]
  congr
  funext k ρ1
  rcases ρ1.env[i]? with _ | _ | o
  . rfl
  . rfl
  exact af' _
theorem j9' (i : Nat) (k a : ME) (env : List (Option O)) (w : W) : vE (mi' i k a ⟨env, w⟩) P X = vO env[i]? fun o0 => l5' o0 /\ vE (k ⟨env, w⟩) (fun y ρ1 => vE (a ρ1) (fun d ρ2 => vO ρ2.env[i]? fun o => vD (rM' o y d) fun p => P p.1 ⟨ρ2.env.set i (some p.2), ρ2.w⟩) X) X := by
  unfold mi'
  show vE (match env[i]? with
  | some (some (.dct _ _)) => _
  | _ => .bad) P X = _
  rcases env[i]? with _ | _ | o
  . rfl
  . rfl
  cases o with
  | dct ks0 os0 =>
    simp only [aa', vO, l5', true_and]
    congr
    funext y ρ1
    congr
    funext d ρ2
    rcases h : ρ2.env[i]? with _ | _ | o
    . rfl
    . rfl
    cases o with
    | dct ks os =>
      show vE (if isK y = true /\ ks.length < bB' then _ else _) P X = vD (rM' (.dct ks os) y d) _
      show _ = vD (if isK y = true /\ ks.length < bB' then (match dget ks os y with | some (.fz e) => some (e, O.dct ks os) | some _ => none | none => some (d, .dct (ks ++ [y]) (os ++ [.fz d]))) else none) _
      by_cases hc : isK y = true /\ ks.length < bB'
      . rw [if_pos hc, if_pos hc]
        rcases dget ks os y with _ | o
        . rfl
        . cases o with
          | fz e =>
            show P e ρ2 = P e ⟨ρ2.env.set i _, ρ2.w⟩
            have hi : ρ2.env.set i (some (.dct ks os)) = ρ2.env := by
              obtain ⟨hl, e⟩ := List.getElem?_eq_some_iff.mp h
              rw [<- e, List.set_getElem_self]
            rw [hi]
          | _ => rfl
      . rw [if_neg hc, if_neg hc]; rfl
    | _ => rfl
  | _ => simp [vO, l5', vE]
theorem jR'  : vE (un' ρ) R X = R (.dcx [] []) ρ := rfl
theorem jh' (x : Bool) (k a : ME) : vE (lM' x k a ρ) R X = vE (k ρ) (fun y ρ1 => vE (a ρ1) (fun d ρ2 => vD (iM' x y d) fun o => R o ρ2) X) X := by simp only [lM', aa', af']
theorem jU' (f : D -> Option (List D)) (a : ME) : vE (rt' f a ρ) Y X = vE (a ρ) (fun x ρ1 => vD (f x) fun ds => Y ds ρ1) X := by simp only [rt', aa', af']
theorem pW' (own : List Nat) (it : MI) (g : MG) (t : MT) (ek ev : ME) : vE (oDc own it g t ek ev ρ) R X = vE (it ρ) (fun xs ρ1 => vE (dcL own g t ek ev xs [] [] ρ1) (fun p ρ2 => R (.dct p.1 (p.2.map .fz)) ⟨back ρ1.env own (aF' own ρ2.env), ρ2.w⟩) X) X := by simp only [oDc, aa', cm']
theorem p3' (ps : List (String × String)) (f : MF) (a b : ME) : vE (xD' ps f a b ρ) P X = vE (a ρ) (fun x ρ1 => vE (b ρ1) (fun y ρ2 => pl' ps ρ2.w x y = true /\ vF (f [x, y] ρ2.w) (fun o w => ∃ r, o = .fz (.bl r) /\ P (.bl r) ⟨ρ2.env, w⟩) (fun _ _ => False)) X) X := by
  simp only [xD', aa']
  congr
  funext x ρ1
  congr
  funext y ρ2
  by_cases h : pl' ps ρ2.w x y = true
  . rw [if_pos h]
    simp only [h, true_and]
    cases f [x, y] ρ2.w with
    | ok o w =>
      show vE (match O.fz (.bl true) with | _ => _) P X = _
      cases o with
      | fz d => cases d <;> simp [vE, vF]
      | _ => simp [vE, vF]
    | exc x w => rfl
    | bad => rfl
  . rw [if_neg h]
    simp [vE, h]
theorem p0' (t : ET) (c : String) (a : ME) : vE (xz' t c a ρ) P X = vE (a ρ) (fun x ρ1 => vD (isC t c ρ1.w x) fun b => P (.bl b) ρ1) X := by simp only [xz', aa', af', a7']
theorem mY' (a : MO) : vE (xm' a ρ) R X = vE (a ρ) (fun o ρ1 => vD (tq' o) fun ob => R (.fz (.obj ρ1.w.length)) ⟨ρ1.env, ρ1.w ++ [ob]⟩) X := by
  simp only [xm', aa']
  congr
  funext o ρ1
  cases tq' o <;> rfl
theorem pX' (a : ME) (lo hi : MP) : vE (xt' a lo hi ρ) P X = vE (a ρ) (fun x ρ1 => vE (lo ρ1) (fun l ρ2 => vE (hi ρ2) (fun h ρ3 => vD (slW ρ3.w x l h) fun z => P z ρ3) X) X) X := by simp only [xt', aa', af']
variable {N : PSt -> Prop} {rt : O -> W -> Prop} {bk ct : PSt -> Prop} {ex : Exc -> PSt -> Prop}
theorem qc' (i : Nat) (k a : ME) : vS (w7' i k a ρ) ⟨N, rt, bk, ct, ex⟩ = vE (a ρ) (fun d ρ1 => vO ρ1.env[i]? fun _ => vE (k ρ1) (fun y ρ2 => vO ρ2.env[i]? fun o => vD (ew' o y (.fz d)) fun o' => N ⟨ρ2.env.set i (some o'), ρ2.w⟩) ex) ex := by
  simp only [w7', an']
  congr
  funext d ρ1
  rcases ρ1.env[i]? with _ | _ | o
  . rfl
  . rfl
  simp only [an', vO]
  congr
  funext y ρ2
  rcases ρ2.env[i]? with _ | _ | o
  . rfl
  . rfl
  show vS (match ew' o y (.fz d) with | some o' => Out.nx _ | none => Out.bad) _ = vD (ew' o y (.fz d)) _
  cases ew' o y (.fz d) <;> rfl
theorem wv' (neg : Bool) (i : Nat) (a : ME) : wE (xF' neg i a ρ) P X = wE (a ρ) (fun k ρ1 => wO ρ1.env[i]? fun o => wD (bk' o k) fun r => P (.bl (r.isSome != neg)) ρ1) X := by simp only [aC', a8', bv', ag', bD', bE', bC', bw', bt', bu', bg', bo', aH', aG', br', a0', aB']; exact p6' ..
theorem wu' (i : Nat) (b : ME) (env : List (Option O)) (w : W) : wE (yP' i b ⟨env, w⟩) P X = wO env[i]? fun _ => wE (b ⟨env, w⟩) (fun k ρ1 => wO ρ1.env[i]? fun o => wD (gj' (bk' o k)) fun z => P z ρ1) X := by simp only [aC', a8', bv', ag', bD', bE', bC', bw', bt', bu', bg', bo', aH', aG', br', a0', aB']; exact p5' ..
theorem pM' (i : Nat) (k a : ME) (env : List (Option O)) (w : W) : wE (mi' i k a ⟨env, w⟩) P X = wO env[i]? fun o0 => l5' o0 /\ wE (k ⟨env, w⟩) (fun y ρ1 => wE (a ρ1) (fun d ρ2 => wO ρ2.env[i]? fun o => wD (rM' o y d) fun p => P p.1 ⟨ρ2.env.set i (some p.2), ρ2.w⟩) X) X := by simp only [aC', a8', bv', ag', bD', bE', bC', bw', bt', bu', bg', bo', aH', aG', br', a0', aB']; exact j9' ..
theorem pB'  : wE (un' ρ) R X = R (.dcx [] []) ρ := by simp only [aC', a8', bv', ag', bD', bE', bC', bw', bt', bu', bg', bo', aH', aG', br', a0', aB']; exact jR' ..
theorem mP' (x : Bool) (k a : ME) : wE (lM' x k a ρ) R X = wE (k ρ) (fun y ρ1 => wE (a ρ1) (fun d ρ2 => wD (iM' x y d) fun o => R o ρ2) X) X := by simp only [aC', a8', bv', ag', bD', bE', bC', bw', bt', bu', bg', bo', aH', aG', br', a0', aB']; exact jh' ..
theorem pH' (f : D -> Option (List D)) (a : ME) : wE (rt' f a ρ) Y X = wE (a ρ) (fun x ρ1 => wD (f x) fun ds => Y ds ρ1) X := by simp only [aC', a8', bv', ag', bD', bE', bC', bw', bt', bu', bg', bo', aH', aG', br', a0', aB']; exact jU' ..
theorem v9' (own : List Nat) (it : MI) (g : MG) (t : MT) (ek ev : ME) : wE (oDc own it g t ek ev ρ) R X = wE (it ρ) (fun xs ρ1 => wE (dcL own g t ek ev xs [] [] ρ1) (fun p ρ2 => R (.dct p.1 (p.2.map .fz)) ⟨back ρ1.env own (aF' own ρ2.env), ρ2.w⟩) X) X := by simp only [aC', a8', bv', ag', bD', bE', bC', bw', bt', bu', bg', bo', aH', aG', br', a0', aB']; exact pW' ..
theorem wr' (ps : List (String × String)) (f : MF) (a b : ME) : wE (xD' ps f a b ρ) P X = wE (a ρ) (fun x ρ1 => wE (b ρ1) (fun y ρ2 => pl' ps ρ2.w x y = true /\ wF (f [x, y] ρ2.w) (fun o w => ∃ r, o = .fz (.bl r) /\ P (.bl r) ⟨ρ2.env, w⟩) (fun _ _ => False)) X) X := by simp only [aC', a8', bv', ag', bD', bE', bC', bw', bt', bu', bg', bo', aH', aG', br', a0', aB']; exact p3' ..
theorem wn' (t : ET) (c : String) (a : ME) : wE (xz' t c a ρ) P X = wE (a ρ) (fun x ρ1 => wD (isC t c ρ1.w x) fun b => P (.bl b) ρ1) X := by simp only [aC', a8', bv', ag', bD', bE', bC', bw', bt', bu', bg', bo', aH', aG', br', a0', aB']; exact p0' ..
theorem sH' (a : MO) : wE (xm' a ρ) R X = wE (a ρ) (fun o ρ1 => wD (tq' o) fun ob => R (.fz (.obj ρ1.w.length)) ⟨ρ1.env, ρ1.w ++ [ob]⟩) X := by simp only [aC', a8', bv', ag', bD', bE', bC', bw', bt', bu', bg', bo', aH', aG', br', a0', aB']; exact mY' ..
theorem wb' (a : ME) (lo hi : MP) : wE (xt' a lo hi ρ) P X = wE (a ρ) (fun x ρ1 => wE (lo ρ1) (fun l ρ2 => wE (hi ρ2) (fun h ρ3 => wD (slW ρ3.w x l h) fun z => P z ρ3) X) X) X := by simp only [aC', a8', bv', ag', bD', bE', bC', bw', bt', bu', bg', bo', aH', aG', br', a0', aB']; exact pX' ..
theorem wX' (i : Nat) (k a : ME) : wS (w7' i k a ρ) ⟨N, rt, bk, ct, ex⟩ = wE (a ρ) (fun d ρ1 => wO ρ1.env[i]? fun _ => wE (k ρ1) (fun y ρ2 => wO ρ2.env[i]? fun o => wD (ew' o y (.fz d)) fun o' => N ⟨ρ2.env.set i (some o'), ρ2.w⟩) ex) ex := by simp only [aC', a8', bv', ag', bD', bE', bC', bw', bt', bu', bg', bo', aH', aG', br', a0', aB']; exact qc' ..
theorem p4' (ps : List (String × String)) (f : MF) (a b : ME) : vE (xE' ps f a b ρ) P X = vE (a ρ) (fun x ρ1 => vE (b ρ1) (fun y ρ2 => v2' ps ρ2.w x y = true /\ vF (f [x, y] ρ2.w) (fun o w => ∃ r, o = .fz (.bl r) /\ P (.bl r) ⟨ρ2.env, w⟩) (fun _ _ => False)) X) X := by
  simp only [xE', aa']
  congr
  funext x ρ1
  congr
  funext y ρ2
  by_cases h : v2' ps ρ2.w x y = true
  . rw [if_pos h]
    simp only [h, true_and]
    cases f [x, y] ρ2.w with
    | ok o w =>
      show vE (match O.fz (.bl true) with | _ => _) P X = _
      cases o with
      | fz d => cases d <;> simp [vE, vF]
      | _ => simp [vE, vF]
    | exc x w => rfl
    | bad => rfl
  . rw [if_neg h]
    simp [vE, h]
theorem m5' (neg : Bool) (a b : ME) : vE (rJ' neg a b ρ) P X = vE (a ρ) (fun k ρ1 => vE (b ρ1) (fun x ρ2 => vD (js' ρ2.w x k) fun r => P (.bl (r.isSome != neg)) ρ2) X) X := by simp only [rJ', aa', af', a7']
theorem m3' (a b : ME) : vE (rH' a b ρ) P X = vE (a ρ) (fun x ρ1 => vE (b ρ1) (fun k ρ2 => vD (gj' (js' ρ2.w x k)) fun z => P z ρ2) X) X := by simp only [rH', aa', af']
theorem jT' (a b : ME) : vE (rr' a b ρ) Y X = vE (a ρ) (fun d ρ1 => vE (b ρ1) (fun e ρ2 => vD (vN' d e) fun z => Y z ρ2) X) X := by simp only [rr', aa', af']
theorem nb' (o k a : ME) : vS (qA' o k a ρ) ⟨N, rt, bk, ct, ex⟩ = vE (a ρ) (fun d ρ1 => vE (o ρ1) (fun x ρ2 => vE (k ρ2) (fun y ρ3 => vD (vV' ρ3.w x y d) fun w => N ⟨ρ3.env, w⟩) ex) ex) ex := by
  simp only [qA', an']
  congr
  funext d ρ1
  congr
  funext x ρ2
  congr
  funext y ρ3
  cases vV' ρ3.w x y d <;> rfl
theorem wt' (ps : List (String × String)) (f : MF) (a b : ME) : wE (xE' ps f a b ρ) P X = wE (a ρ) (fun x ρ1 => wE (b ρ1) (fun y ρ2 => v2' ps ρ2.w x y = true /\ wF (f [x, y] ρ2.w) (fun o w => ∃ r, o = .fz (.bl r) /\ P (.bl r) ⟨ρ2.env, w⟩) (fun _ _ => False)) X) X := by simp only [aC', a8', bv', ag', bD', bE', bC', bw', bt', bu', bg', bo', aH', aG', br', a0', aB']; exact p4' ..
theorem s1' (neg : Bool) (a b : ME) : wE (rJ' neg a b ρ) P X = wE (a ρ) (fun k ρ1 => wE (b ρ1) (fun x ρ2 => wD (js' ρ2.w x k) fun r => P (.bl (r.isSome != neg)) ρ2) X) X := by simp only [aC', a8', bv', ag', bD', bE', bC', bw', bt', bu', bg', bo', aH', aG', br', a0', aB']; exact m5' ..
theorem sZ' (a b : ME) : wE (rH' a b ρ) P X = wE (a ρ) (fun x ρ1 => wE (b ρ1) (fun k ρ2 => wD (gj' (js' ρ2.w x k)) fun z => P z ρ2) X) X := by simp only [aC', a8', bv', ag', bD', bE', bC', bw', bt', bu', bg', bo', aH', aG', br', a0', aB']; exact m3' ..
theorem pF' (a b : ME) : wE (rr' a b ρ) Y X = wE (a ρ) (fun d ρ1 => wE (b ρ1) (fun e ρ2 => wD (vN' d e) fun z => Y z ρ2) X) X := by simp only [aC', a8', bv', ag', bD', bE', bC', bw', bt', bu', bg', bo', aH', aG', br', a0', aB']; exact jT' ..
theorem tM' (o k a : ME) : wS (qA' o k a ρ) ⟨N, rt, bk, ct, ex⟩ = wE (a ρ) (fun d ρ1 => wE (o ρ1) (fun x ρ2 => wE (k ρ2) (fun y ρ3 => wD (vV' ρ3.w x y d) fun w => N ⟨ρ3.env, w⟩) ex) ex) ex := by simp only [aC', a8', bv', ag', bD', bE', bC', bw', bt', bu', bg', bo', aH', aG', br', a0', aB']; exact nb' ..
theorem rN' (a : Tx) (b : List D) {Y : List D -> Prop} : wD (vN' (.str a) (.lst b)) Y = Y (b0' (a.map chD) b) := by rw [ag']; rfl
end
theorem eE' {γ δ α : Type} [DecidableEq γ] (e : γ -> D) (he : ∀ a b, eqb (e a) (e b) = decide (a = b)) (v : δ -> α) (k : γ) : ∀ l : List (γ × δ), dget (l.map fun p => e p.1) (l.map fun p => v p.2) (e k) = (l.lookup k).map v
  | [] => rfl
  | (a, b) :: l => by
    have ih := eE' e he v k l
    unfold dget sw' at *
    rw [List.map_cons, List.map_cons, List.findIdx?_cons, he, List.lookup_cons]
    by_cases h : a = k
    . subst h; simp
    . have h2 : (k == a) = false := by simp; exact fun e => h e.symm
      rw [decide_eq_false h, h2]
      simp only [Bool.false_eq_true, if_false]
      rw [<- ih]
      cases List.findIdx? (fun d => eqb d (e k)) (l.map fun p => e p.1) <;> simp
theorem iV' {γ δ : Type} [DecidableEq γ] (e : γ -> D) (he : ∀ a b, eqb (e a) (e b) = decide (a = b)) (k : γ) : ∀ l : List (γ × δ), l.lookup k = none -> sw' (l.map fun p => e p.1) (e k) = none
  | [], _ => rfl
  | (a, b) :: l, h => by
    rw [List.lookup_cons] at h
    by_cases hk : a = k
    . subst hk; simp at h
    . have h2 : (k == a) = false := by simp; exact fun e => hk e.symm
      rw [h2] at h
      have ih := iV' e he k l h
      unfold sw' at *
      rw [List.map_cons, List.findIdx?_cons, he, decide_eq_false hk]
      simp only [Bool.false_eq_true, if_false, ih, Option.map_none]
theorem gM' (a b : Nat) : eqb (.int (a : Nat)) (.int (b : Nat)) = decide (a = b) := by
  simp only [eqb]
  rw [Bool.eq_iff_iff]
  simp
  try omega
def dN (l : List (Nat × D)) : O := .dct (l.map fun p => .int (p.1 : Nat)) (l.map fun p => .fz p.2)
def dNz (l : List (Nat × D)) : D := .dct (l.map fun p => .int (p.1 : Nat)) (l.map fun p => p.2)
def dX {γ : Type} (e : γ -> D) (l : List (γ × D)) : O := .dcx (l.map fun p => e p.1) (l.map fun p => .fz p.2)
structure KeyE {γ : Type} [DecidableEq γ] (e : γ -> D) : Prop where
  eq : ∀ a b, eqb (e a) (e b) = decide (a = b)
  kat : ∀ a, kat (e a) = true
  dep : ∀ a, dep (e a) <= 8
  sca : ∀ a b, sca (e a) = sca (e b)
theorem pm' (l : List (Nat × D)) : frz (dN l) = dNz l := by
  unfold dN dNz
  simp only [frz, gJ', List.map_map]
  rfl
theorem wB' (l : List (Nat × D)) (i : Nat) (env : List (Option O)) (w : W) {P : D -> PSt -> Prop} : wV (some (some (dN l))) i ⟨env, w⟩ P = P (dNz l) ⟨env.set i (some (.fz (dNz l))), w⟩ := by
  rw [bt']
  show vV (some (some (O.dct _ _))) _ _ _ = _
  rw [<- pm']; rfl
theorem wG' (l : List (Nat × D)) (i : Nat) (env : List (Option O)) (w : W) {P : O -> PSt -> Prop} : wG (some (some (dN l))) i ⟨env, w⟩ P = P (dN l) ⟨env.set i none, w⟩ := by
  rw [bu']; rfl
theorem lU' (l : List (Nat × D)) (k : Nat) : bk' (dN l) (.int (k : Nat)) = some ((l.lookup k).map .fz) := by
  show (if isK (.int (k : Nat)) = true then some (dget _ _ _) else none) = _
  rw [if_pos (show isK (.int (k : Nat)) = true from rfl), eE' (fun n : Nat => D.int (n : Nat)) gM' O.fz k l]
theorem iU' (l : List (Nat × D)) (k : Nat) : bk' (.fz (dNz l)) (.int (k : Nat)) = some ((l.lookup k).map .fz) := by
  show (if isK (.int (k : Nat)) = true then some (dget _ (List.map O.fz (l.map fun p => p.2)) _) else none) = _
  rw [if_pos (show isK (.int (k : Nat)) = true from rfl), List.map_map]
  exact congrArg some (eE' (fun n : Nat => D.int (n : Nat)) gM' O.fz k l)
section
variable {Q : Option O -> Prop} {P : D -> Prop} {N : O -> Prop} {Y : List D -> Prop}
theorem rU' (l : List (Nat × D)) (k : Nat) : wD (bk' (dN l) (.int (k : Nat))) Q = Q ((l.lookup k).map .fz) := by rw [lU', aV']
theorem n5' (l : List (Nat × D)) (k : Nat) : wD (bk' (.fz (dNz l)) (.int (k : Nat))) Q = Q ((l.lookup k).map .fz) := by rw [iU', aV']
theorem jc' (o : Option D) : gj' (some (o.map .fz)) = o := by cases o <;> rfl
theorem si' (d : D) : gj' (some (some (.fz d))) = some d := rfl
theorem x8' (l : List (Nat × D)) (k : Nat) : wD (gj' (bk' (dN l) (.int (k : Nat)))) P = wD (l.lookup k) P := by rw [lU', jc']
theorem vn' (l : List (Nat × D)) (k : Nat) : wD (gj' (bk' (.fz (dNz l)) (.int (k : Nat)))) P = wD (l.lookup k) P := by rw [iU', jc']
theorem u8' {l : List (Nat × D)} {k : Nat} (h : l.lookup k = none) (hl : l.length < 16777216) (d : D) : wD (ew' (dN l) (.int (k : Nat)) (.fz d)) N = N (dN (l ++ [(k, d)])) := by
  show wD (if isK (.int (k : Nat)) = true then (t8' _ _ _ _).map (fun p => O.dct p.1 p.2) else none) N = _
  rw [if_pos (show isK (.int (k : Nat)) = true from rfl), hj']
  unfold t8'
  rw [iV' (fun n : Nat => D.int (n : Nat)) gM' k l h]
  simp only
  rw [if_pos (by rw [List.length_map]; exact hl), aV']
  unfold dN
  simp
theorem vj' (l : List (Nat × D)) : wD (mH' (dN l)) P = P (.int l.length) := by
  show wD (some (D.int _)) P = _
  rw [aV', List.length_map]
theorem vg' {γ : Type} (e : γ -> D) (l : List (γ × D)) : wD (mH' (dX e l)) P = P (.int l.length) := by
  show wD (some (D.int _)) P = _
  rw [aV', List.length_map]
theorem r1' (l : List (Nat × D)) : wD (dg' (dNz l)) P = P (.int l.length) := by
  show wD (some (D.int _)) P = _
  rw [aV', List.length_map]
theorem nW' (l : List (Nat × D)) : l5' (dN l) = True := rfl
theorem eR' {γ : Type} (f g : γ -> D) : ∀ l : List γ, b0' (l.map f) (l.map g) = l.map fun p => .tup [f p, g p]
  | [] => rfl
  | a :: l => by
    simp only [List.map_cons, b0', eR' f g l]
theorem r7' (l : List (Nat × D)) : wD (vB' (dNz l)) Y = Y (l.map fun p => .tup [.int (p.1 : Nat), p.2]) := by
  show wD (some (b0' _ _)) Y = _
  rw [aV', eR']
theorem uZ' (l : List (Nat × D)) : wD (yr' (dNz l)) Y = Y (l.map fun p => p.2) := by
  show wD (some _) Y = _
  rw [aV']
theorem vl' (l : List (Nat × D)) : wD (yt' (dNz l)) Y = Y (l.map fun p => .int (p.1 : Nat)) := by
  show wD (some _) Y = _
  rw [aV']
theorem of' (k : Int) (d : D) : wD (iM' false (.int k) d) N = N (.dct [.int k] [.fz d]) := by
  show wD (some (O.dct [.int k] [.fz d])) N = _
  rw [aV']
theorem xZ' (i j : Bool) : wD (pNe (.bl i) (.bl j)) P = P (.bl (!(i == j))) := by
  rw [show pNe (.bl i) (.bl j) = some (.bl (!(i == j))) from rfl, aV']
end
section
variable {Q : D -> Prop} {Y : List D -> Prop}
theorem n3' (r : List Nat) : wD (cz' (lv' r)) Y = Y (r.map fun t => .int (t : Nat)) := by unfold lv'; rw [i4']
theorem n4' (r : List Nat) : wD (cz' (mz' r)) Y = Y (r.map fun t => .int (t : Nat)) := by unfold mz'; rw [i4']
theorem n2' (T : List (List Nat)) : wD (cz' (ng' T)) Y = Y (T.map lv') := by unfold ng'; rw [i4']
end
theorem rm' : dh' .non = true := rfl
theorem rl' (n : Nat) : dh' (.obj n) = false := rfl
theorem ro' (n : Int) : dh' (.int n) = false := rfl
theorem rk' (n : Tx) : dh' (.str n) = false := rfl
theorem uB' (n : Bool) : dh' (.bl n) = false := rfl
theorem rj' (n : List D) : dh' (.tup n) = false := rfl
theorem rn' (n : List D) : dh' (.lst n) = false := rfl
section
variable {Q : D -> Prop}
theorem rW' (s : Tx) : wD (fD' (.str s)) Q = Q (.lst (s.map chD)) := by
  show wD (some _) Q = _
  rw [aV']
end
theorem vb' (F : List Nat) (t : Nat) {P : D -> Prop} : wD (pg' (inO (.int (t : Nat)) (.lst (F.map fun s => .fz (.int (s : Nat)))))) P = P (.bl (!decide (t ∈ F))) := by
  have e1 : (F.map fun s => O.fz (.int (s : Nat))).all (fun o => match o with | .fz _ => true | _ => false) = true := by induction F <;> simp_all
  have e2 : (F.map fun s => O.fz (.int (s : Nat))).map frz = F.map fun s => .int (s : Nat) := by rw [List.map_map]; rfl
  have h := pv' (Q := fun d => wD (pg' (some d)) P) (t : Int) (F.map (Nat.cast : Nat -> Int))
  rw [List.map_map] at h
  show wD (pg' (if (F.map fun s => O.fz (.int (s : Nat))).all (fun o => match o with | .fz _ => true | _ => false) = true then pIn (.int (t : Nat)) (.lst ((F.map fun s => O.fz (.int (s : Nat))).map frz)) else none)) P = _
  rw [if_pos e1, e2]
  have e3 : ∀ o : Option D, wD (pg' o) P = wD o (fun d => wD (pg' (some d)) P) := fun o => by cases o with
    | none => rw [ag', ag']; rfl
    | some d => rw [aV']
  rw [e3]
  refine h.trans ?_
  show wD (some (D.bl (!decide _))) P = _
  rw [aV']
  congr 3
  rw [decide_eq_decide]
  constructor
  . intro hm
    obtain ⟨a, h1, h2⟩ := List.mem_map.mp hm
    have h2 : (a : Int) = (t : Int) := h2
    have : a = t := by omega
    exact this ▸ h1
  . exact fun hm => List.mem_map.mpr ⟨t, hm, rfl⟩
def l3' (o : Option (Option O)) : Option O := match o with
  | some (some (.fz d)) => some (.fz d)
  | _ => none
theorem oq' (env env' : List (Option O)) : back env [] env' = env' := rfl
theorem mx' (env env' : List (Option O)) (i : Nat) (is : List Nat) : back env (i :: is) env' = (back env is env').set i (l3' env[i]?) := by
  show (back env is env').set i _ = _
  congr 1
theorem jt' : l3' (some none) = none := rfl
theorem nS' (d : D) : l3' (some (some (.fz d))) = some (.fz d) := rfl
theorem l2' (os : List O) : l3' (some (some (.lst os))) = none := rfl
section
variable {Q : D -> Prop}
theorem rP' (a : Tx) (c : Nat) : wD (up' a [.str [c]]) Q = wC (c < 128 /\ a.length + 2 <= 16777216) (Q (.lst ((vS' c a).map .str))) := d4'
theorem xL' (i : Int) : wD (ze' (.int i)) Q = wC (0 <= i /\ i < 1000000000000000000000000000000000000000000000000000000000000) (Q (.str (yQ' i.toNat))) := d4'
end
end M
namespace M
theorem yn' (c : Nat) (s : Tx) {P : D -> Prop} : wD (zh' c (.str s)) P = wC (s.length <= 1000000) (P (.str (s.filter fun d => decide (d ≠ c)))) := d4'
theorem m0' (a : ME) {ρ : PSt} {P : D -> PSt -> Prop} {X : Exc -> PSt -> Prop} : vE (rA' a ρ) P X = vE (a ρ) (fun x ρ1 => vD (wJ' ρ1.w x) fun z => P z ρ1) X := by simp only [rA', aa', af']
theorem sP' (a : ME) {ρ : PSt} {P : D -> PSt -> Prop} {X : Exc -> PSt -> Prop} : wE (rA' a ρ) P X = wE (a ρ) (fun x ρ1 => wD (wJ' ρ1.w x) fun z => P z ρ1) X := by simp only [aC', ag']; exact m0' ..
end M
namespace M
theorem jS' (a b : ME) {ρ : PSt} {Y : List D -> PSt -> Prop} {X : Exc -> PSt -> Prop} : vE (rp' a b ρ) Y X = vE (a ρ) (fun d ρ1 => vE (b ρ1) (fun e ρ2 => vD (vM' d e) fun z => Y z ρ2) X) X := by simp only [rp', aa', af']
theorem pD' (a b : ME) {ρ : PSt} {Y : List D -> PSt -> Prop} {X : Exc -> PSt -> Prop} : wE (rp' a b ρ) Y X = wE (a ρ) (fun d ρ1 => wE (b ρ1) (fun e ρ2 => wD (vM' d e) fun z => Y z ρ2) X) X := by simp only [aC', ag']; exact jS' ..
theorem uW' (a b : List D) {Y : List D -> Prop} : wD (vM' (.tup a) (.tup b)) Y = Y (b0' a b) := by rw [ag']; rfl
theorem yi' (os : List O) (ds : List D) {N : O -> Prop} : wD (v4' (.lst os) (.lst ds)) N = wC (os.length + ds.length <= 16777216) (N (.lst (os ++ ds.map .fz))) := d4'
theorem qb' (i : Nat) (a : ME) {ρ : PSt} {N : PSt -> Prop} {rt : O -> W -> Prop} {bk ct : PSt -> Prop} {ex : Exc -> PSt -> Prop} : vS (w6' i a ρ) ⟨N, rt, bk, ct, ex⟩ = vL ρ.env[i]? fun _ => vE (a ρ) (fun d ρ1 => vL ρ1.env[i]? fun os => vD (v4' (.lst os) d) fun o => N ⟨ρ1.env.set i (some o), ρ1.w⟩) ex := by
  unfold w6'
  rcases ρ.env[i]? with _ | _ | o
  . rfl
  . rfl
  cases o with
  | lst os0 =>
    simp only [an', vL]
    congr
    funext d ρ1
    rcases ρ1.env[i]? with _ | _ | o2
    . rfl
    . rfl
    cases o2 with
    | lst os =>
      cases d with
      | lst ds =>
        simp only [v4']
        by_cases h : os.length + ds.length <= bB'
        . rw [if_pos h, if_pos h]; rfl
        . rw [if_neg h, if_neg h]; rfl
      | _ => rfl
    | _ => rfl
  | _ => rfl
theorem wW' (i : Nat) (a : ME) {ρ : PSt} {N : PSt -> Prop} {rt : O -> W -> Prop} {bk ct : PSt -> Prop} {ex : Exc -> PSt -> Prop} : wS (w6' i a ρ) ⟨N, rt, bk, ct, ex⟩ = wL ρ.env[i]? fun _ => wE (a ρ) (fun d ρ1 => wL ρ1.env[i]? fun os => wD (v4' (.lst os) d) fun o => N ⟨ρ1.env.set i (some o), ρ1.w⟩) ex := by simp only [aC', a8', ag', bo']; exact qb' ..
def l4' : O -> Prop
  | .dcx _ _ => True
  | _ => False
theorem nV' {γ : Type} (e : γ -> D) (l : List (γ × D)) : l4' (dX e l) := True.intro
theorem jj' (i : Nat) (k a : ME) (env : List (Option O)) (w : W) {P : D -> PSt -> Prop} {X : Exc -> PSt -> Prop} : vE (gQ' i k a ⟨env, w⟩) P X = vO env[i]? fun o0 => l4' o0 /\ vE (k ⟨env, w⟩) (fun y ρ1 => vE (a ρ1) (fun d ρ2 => vO ρ2.env[i]? fun o => vD (nr' o y d) fun p => P p.1 ⟨ρ2.env.set i (some p.2), ρ2.w⟩) X) X := by
  unfold gQ'
  show vE (match env[i]? with
  | some (some (.dcx _ _)) => _
  | _ => .bad) P X = _
  rcases env[i]? with _ | _ | o
  . rfl
  . rfl
  cases o with
  | dcx ks0 os0 =>
    simp only [aa', vO, l4', true_and]
    congr
    funext y ρ1
    congr
    funext d ρ2
    rcases ρ2.env[i]? with _ | _ | o2
    . rfl
    . rfl
    simp only [vO]
    cases nr' o2 y d <;> rfl
  | _ => simp [vO, l4', vE]
theorem mS' (i : Nat) (k a : ME) (env : List (Option O)) (w : W) {P : D -> PSt -> Prop} {X : Exc -> PSt -> Prop} : wE (gQ' i k a ⟨env, w⟩) P X = wO env[i]? fun o0 => l4' o0 /\ wE (k ⟨env, w⟩) (fun y ρ1 => wE (a ρ1) (fun d ρ2 => wO ρ2.env[i]? fun o => wD (nr' o y d) fun p => P p.1 ⟨ρ2.env.set i (some p.2), ρ2.w⟩) X) X := by simp only [aC', bg', ag']; exact jj' ..
theorem m2' (ps : List (String × String)) (f : MF) (a b : ME) : vE (rF' ps f a b ρ) P X = vE (a ρ) (fun x ρ1 => vE (b ρ1) (fun y ρ2 => pl' ps ρ2.w x y = true /\ vF (f [y, x] ρ2.w) (fun o w => ∃ r, o = .fz (.bl r) /\ P (.bl r) ⟨ρ2.env, w⟩) (fun _ _ => False)) X) X := by
  simp only [rF', aa']
  congr
  funext x ρ1
  congr
  funext y ρ2
  by_cases h : pl' ps ρ2.w x y = true
  . rw [if_pos h]
    simp only [h, true_and]
    cases f [y, x] ρ2.w with
    | ok o w =>
      show vE (match O.fz (.bl true) with | _ => _) P X = _
      cases o with
      | fz d => cases d <;> simp [vE, vF]
      | _ => simp [vE, vF]
    | exc x w => rfl
    | bad => rfl
  . rw [if_neg h]
    simp [vE, h]
theorem sW' (ps : List (String × String)) (f : MF) (a b : ME) : wE (rF' ps f a b ρ) P X = wE (a ρ) (fun x ρ1 => wE (b ρ1) (fun y ρ2 => pl' ps ρ2.w x y = true /\ wF (f [y, x] ρ2.w) (fun o w => ∃ r, o = .fz (.bl r) /\ P (.bl r) ⟨ρ2.env, w⟩) (fun _ _ => False)) X) X := by simp only [aC', a8', bv', ag', bD', bE', bC', bw', bt', bu', bg', bo', aH', aG', br', a0', aB']; exact m2' ..
theorem p7' (m : List Bool) (e : ME) (env : List (Option O)) (w : W) {P : D -> PSt -> Prop} {X : Exc -> PSt -> Prop} : vE (xG' m e ⟨env, w⟩) P X = (okM m env = true /\ vE (e ⟨c7' m env, []⟩) (fun d _ => o5' d = true /\ P d ⟨env, w⟩) (fun _ _ => False)) := by
  unfold xG'
  by_cases h : okM m env = true
  . simp only [if_pos h]
    cases e ⟨c7' m env, []⟩ with
    | ok d ρ =>
      by_cases h2 : o5' d = true
      . simp [vE, h, h2]
      . simp [vE, h, h2]
    | exc x ρ => simp [vE]
    | bad => simp [vE]
  . simp [vE, h]
theorem ww' (m : List Bool) (e : ME) (env : List (Option O)) (w : W) {P : D -> PSt -> Prop} {X : Exc -> PSt -> Prop} : wE (xG' m e ⟨env, w⟩) P X = (okM m env = true /\ wE (e ⟨c7' m env, []⟩) (fun d _ => o5' d = true /\ P d ⟨env, w⟩) (fun _ _ => False)) := by simp only [aC']; exact p7' ..
theorem mW' (m : List Bool) (e : MT) (env : List (Option O)) (w : W) {P : Bool -> PSt -> Prop} {X : Exc -> PSt -> Prop} : vE (mE' m e ⟨env, w⟩) P X = (okM m env = true /\ vE (e ⟨c7' m env, []⟩) (fun d _ => P d ⟨env, w⟩) (fun _ _ => False)) := by
  unfold mE'
  by_cases h : okM m env = true
  . simp only [if_pos h]
    cases e ⟨c7' m env, []⟩ with
    | ok d ρ => simp [vE, h]
    | exc x ρ => simp [vE]
    | bad => simp [vE]
  . simp [vE, h]
theorem sE' (m : List Bool) (e : MT) (env : List (Option O)) (w : W) {P : Bool -> PSt -> Prop} {X : Exc -> PSt -> Prop} : wE (mE' m e ⟨env, w⟩) P X = (okM m env = true /\ wE (e ⟨c7' m env, []⟩) (fun d _ => P d ⟨env, w⟩) (fun _ _ => False)) := by simp only [aC']; exact mW' ..
theorem mZ' (a b : ME) {ρ : PSt} {R : O -> PSt -> Prop} {X : Exc -> PSt -> Prop} : vE (xp' a b ρ) R X = vE (a ρ) (fun x ρ1 => vE (b ρ1) (fun y ρ2 => vD (lzW ρ2.w x y) fun d => vD (asL d) fun ds => R (.lst (ds.map .fz)) ρ2) X) X := by
  simp only [xp', aa']
  congr
  funext x ρ1
  congr
  funext y ρ2
  cases lzW ρ2.w x y with
  | none => rfl
  | some d => cases d <;> rfl
theorem sL' (a b : ME) {ρ : PSt} {R : O -> PSt -> Prop} {X : Exc -> PSt -> Prop} : wE (xp' a b ρ) R X = wE (a ρ) (fun x ρ1 => wE (b ρ1) (fun y ρ2 => wD (lzW ρ2.w x y) fun d => wD (asL d) fun ds => R (.lst (ds.map .fz)) ρ2) X) X := by simp only [aC', ag']; exact mZ' ..
theorem qa' (i : Nat) {ρ : PSt} {N : PSt -> Prop} {rt : O -> W -> Prop} {bk ct : PSt -> Prop} {ex : Exc -> PSt -> Prop} : vS (w3' i ρ) ⟨N, rt, bk, ct, ex⟩ = vL ρ.env[i]? fun os => N ⟨ρ.env.set i (some (.lst os.reverse)), ρ.w⟩ := by
  unfold w3'
  rcases ρ.env[i]? with _ | _ | o
  . rfl
  . rfl
  cases o <;> rfl
theorem wR' (i : Nat) {ρ : PSt} {N : PSt -> Prop} {rt : O -> W -> Prop} {bk ct : PSt -> Prop} {ex : Exc -> PSt -> Prop} : wS (w3' i ρ) ⟨N, rt, bk, ct, ex⟩ = wL ρ.env[i]? fun os => N ⟨ρ.env.set i (some (.lst os.reverse)), ρ.w⟩ := by simp only [a8', bo']; exact qa' ..
theorem p9' (is : List Nat) (a : MO) {ρ : PSt} {N : PSt -> Prop} {rt : O -> W -> Prop} {bk ct : PSt -> Prop} {ex : Exc -> PSt -> Prop} : vS (w2' is a ρ) ⟨N, rt, bk, ct, ex⟩ = vE (a ρ) (fun o ρ1 => vD (unO o) fun os => vD (jI' is os ρ1) N) ex := by
  simp only [w2', an']
  congr
  funext o ρ1
  cases unO o with
  | none => rfl
  | some os =>
    show vS (match jI' is os ρ1 with | some ρ2 => _ | none => _) _ = vD (jI' is os ρ1) N
    cases jI' is os ρ1 <;> rfl
theorem wN' (is : List Nat) (a : MO) {ρ : PSt} {N : PSt -> Prop} {rt : O -> W -> Prop} {bk ct : PSt -> Prop} {ex : Exc -> PSt -> Prop} : wS (w2' is a ρ) ⟨N, rt, bk, ct, ex⟩ = wE (a ρ) (fun o ρ1 => wD (unO o) fun os => wD (jI' is os ρ1) N) ex := by simp only [aC', a8', ag']; exact p9' ..
theorem xH' (os : List O) {N : List O -> Prop} : wD (unO (.tup os)) N = N os := by rw [ag']; rfl
theorem xI' (ds : List D) {N : List O -> Prop} : wD (unO (.fz (.tup ds))) N = N (ds.map .fz) := by rw [ag']; rfl
theorem sa' {ρ : PSt} {N : PSt -> Prop} : wD (jI' [] [] ρ) N = N ρ := by rw [ag']; rfl
theorem r9' (i : Nat) (is : List Nat) (o : O) (os : List O) {env : List (Option O)} {w : W} {N : PSt -> Prop} : wD (jI' (i :: is) (o :: os) ⟨env, w⟩) N = mV' i env.length (wD (jI' is os ⟨env.set i (some o), w⟩) N) := by
  rw [ag', ag', aG']
  by_cases h : i < env.length
  . simp [jI', gm', h]
  . simp [jI', gm', vD, h]
theorem mX' (as : MOA) {ρ : PSt} {R : O -> PSt -> Prop} {X : Exc -> PSt -> Prop} : vE (ul' as ρ) R X = vE (as ρ) (fun xs ρ1 => eo' xs.length (R (.tup xs) ρ1)) X := by
  simp only [ul', aa']
  congr
  funext xs ρ1
  by_cases h : xs.length <= bB'
  . rw [if_pos h]; exact propext ⟨fun q => ⟨h, q⟩, fun q => q.2⟩
  . rw [if_neg h]; exact propext ⟨fun q => q.elim, fun q => (h q.1).elim⟩
theorem sG' (as : MOA) {ρ : PSt} {R : O -> PSt -> Prop} {X : Exc -> PSt -> Prop} : wE (ul' as ρ) R X = wE (as ρ) (fun xs ρ1 => jf' xs.length (R (.tup xs) ρ1)) X := by simp only [aC', aH']; exact mX' ..
theorem jP' {ρ : PSt} {R : List O -> PSt -> Prop} {X : Exc -> PSt -> Prop} : vE (nH' ρ) R X = R [] ρ := rfl
theorem pA' {ρ : PSt} {R : List O -> PSt -> Prop} {X : Exc -> PSt -> Prop} : wE (nH' ρ) R X = R [] ρ := by simp only [aC']; exact jP' ..
theorem jg' (a : MO) (r : MOA) {ρ : PSt} {R : List O -> PSt -> Prop} {X : Exc -> PSt -> Prop} : vE (eg' a r ρ) R X = vE (a ρ) (fun x ρ1 => vE (r ρ1) (fun xs ρ2 => R (x :: xs) ρ2) X) X := by simp only [eg', aa']; rfl
theorem mO' (a : MO) (r : MOA) {ρ : PSt} {R : List O -> PSt -> Prop} {X : Exc -> PSt -> Prop} : wE (eg' a r ρ) R X = wE (a ρ) (fun x ρ1 => wE (r ρ1) (fun xs ρ2 => R (x :: xs) ρ2) X) X := by simp only [aC']; exact jg' ..
theorem oo' (m : List Bool) : c7' m [] = [] := by cases m <;> rfl
theorem vF' (x : Option O) (r : List (Option O)) : c7' [] (x :: r) = none :: c7' [] r := rfl
theorem vH' (m : List Bool) (x : Option O) (r : List (Option O)) : c7' (false :: m) (x :: r) = none :: c7' m r := rfl
theorem vG' (m : List Bool) (o : O) (r : List (Option O)) : c7' (true :: m) (some o :: r) = some (.fz (frz o)) :: c7' m r := rfl
theorem qV' (r : List (Option O)) : okM [] r = true := by cases r <;> rfl
theorem xf' (m : List Bool) (x : Option O) (r : List (Option O)) : okM (false :: m) (x :: r) = okM m r := rfl
theorem xe' (m : List Bool) (o : O) (r : List (Option O)) : okM (true :: m) (some o :: r) = (okO o && okM m r) := rfl
theorem ui' (d : D) : okO (.fz d) = dat d := rfl
theorem qU' (os : List O) : okO (.lst os) = okOs os := rfl
theorem gz' : ∀ ds : List D, okOs (ds.map .fz) = dats ds
  | [] => rfl
  | d :: r => by show (dat d && okOs (r.map .fz)) = (dat d && dats r); rw [gz' r]
theorem uJ' (d : D) : frz (.fz d) = d := rfl
theorem qq' (b : Bool) : o5' (.bl b) = true := rfl
theorem ny' (b : Int) : o5' (.int b) = true := rfl
theorem nw' (b : Tx) : o5' (.str b) = true := rfl
theorem nx' : o5' .non = true := rfl
theorem m1' (i : Nat) (c : String) (x : Exc) {ρ : PSt} {P : D -> PSt -> Prop} {X : Exc -> PSt -> Prop} : vE (rD' i c x ρ) P X = vX ρ.env[i]? (x.cls = c /\ P (.bl true) ρ) := by
  unfold rD'
  rcases ρ.env[i]? with _ | _ | o
  . rfl
  . rfl
  . cases o <;> try rfl
    show vE (if x.cls = c then _ else _) P X = (x.cls = c /\ _)
    by_cases h : x.cls = c
    . simp [h, vE]
    . simp [h, vE]
theorem sU' (i : Nat) (c : String) (x : Exc) {ρ : PSt} {P : D -> PSt -> Prop} {X : Exc -> PSt -> Prop} : wE (rD' i c x ρ) P X = vX ρ.env[i]? (x.cls = c /\ P (.bl true) ρ) := by simp only [aC']; exact m1' ..
theorem m6' (neg : Bool) (cs : List String) (f : String) (k a : ME) {ρ : PSt} {P : D -> PSt -> Prop} {X : Exc -> PSt -> Prop} : vE (rK' neg cs f k a ρ) P X = vE (k ρ) (fun y ρ1 => vE (a ρ1) (fun x ρ2 => vD (bm' cs f ρ2.w x) fun o => vD (bk' o y) fun r => P (.bl (r.isSome != neg)) ρ2) X) X := by
  simp only [rK', aa', af']
  congr
  funext y ρ1
  congr
  funext x ρ2
  cases bm' cs f ρ2.w x with
  | none => rfl
  | some o =>
    show vD ((bk' o y).map _) _ = vD (bk' o y) _
    cases bk' o y <;> rfl
theorem s2' (neg : Bool) (cs : List String) (f : String) (k a : ME) {ρ : PSt} {P : D -> PSt -> Prop} {X : Exc -> PSt -> Prop} : wE (rK' neg cs f k a ρ) P X = wE (k ρ) (fun y ρ1 => wE (a ρ1) (fun x ρ2 => wD (bm' cs f ρ2.w x) fun o => wD (bk' o y) fun r => P (.bl (r.isSome != neg)) ρ2) X) X := by simp only [aC', ag']; exact m6' ..
theorem m4' (cs : List String) (f : String) (a : ME) (j : Nat) {ρ : PSt} {P : D -> PSt -> Prop} {X : Exc -> PSt -> Prop} : vE (rI' cs f a j ρ) P X = vE (a ρ) (fun x ρ1 => vO ρ1.env[j]? fun oy => vD (asF oy) fun y => vD (bm' cs f ρ1.w x) fun o => vD (gj' (bk' o y)) fun d => P d ρ1) X := by
  simp only [rI', aa']
  congr
  funext x ρ1
  rcases ρ1.env[j]? with _ | _ | oy
  . rfl
  . rfl
  cases oy with
  | fz y =>
    show vE (ofO _ ρ1) P X = vD (bm' cs f ρ1.w x) _
    rw [af']
    cases bm' cs f ρ1.w x <;> rfl
  | _ => rfl
theorem s0' (cs : List String) (f : String) (a : ME) (j : Nat) {ρ : PSt} {P : D -> PSt -> Prop} {X : Exc -> PSt -> Prop} : wE (rI' cs f a j ρ) P X = wE (a ρ) (fun x ρ1 => wO ρ1.env[j]? fun oy => wD (asF oy) fun y => wD (bm' cs f ρ1.w x) fun o => wD (gj' (bk' o y)) fun d => P d ρ1) X := by simp only [aC', ag', bg']; exact m4' ..
theorem nc' (cs : List String) (f : String) (a : ME) (j : Nat) (v : ME) {ρ : PSt} {N : PSt -> Prop} {rt : O -> W -> Prop} {bk ct : PSt -> Prop} {ex : Exc -> PSt -> Prop} : vS (qB' cs f a j v ρ) ⟨N, rt, bk, ct, ex⟩ = vE (v ρ) (fun d ρ1 => vE (a ρ1) (fun x ρ2 => vO ρ2.env[j]? fun oy => vD (asF oy) fun y => vD (jF' cs f y d ρ2.w x) fun w => N ⟨ρ2.env, w⟩) ex) ex := by
  simp only [qB', an']
  congr
  funext d ρ1
  congr
  funext x ρ2
  rcases ρ2.env[j]? with _ | _ | oy
  . rfl
  . rfl
  cases oy with
  | fz y =>
    show vS (match jF' cs f y d ρ2.w x with | some w => _ | none => _) _ = vD (jF' cs f y d ρ2.w x) _
    cases jF' cs f y d ρ2.w x <;> rfl
  | _ => rfl
theorem tN' (cs : List String) (f : String) (a : ME) (j : Nat) (v : ME) {ρ : PSt} {N : PSt -> Prop} {rt : O -> W -> Prop} {bk ct : PSt -> Prop} {ex : Exc -> PSt -> Prop} : wS (qB' cs f a j v ρ) ⟨N, rt, bk, ct, ex⟩ = wE (v ρ) (fun d ρ1 => wE (a ρ1) (fun x ρ2 => wO ρ2.env[j]? fun oy => wD (asF oy) fun y => wD (jF' cs f y d ρ2.w x) fun w => N ⟨ρ2.env, w⟩) ex) ex := by simp only [aC', a8', ag', bg']; exact nc' ..
theorem pY' (i : Nat) (env : List (Option O)) (w : W) {P : D -> PSt -> Prop} {X : Exc -> PSt -> Prop} : vE (xu' i ⟨env, w⟩) P X = vL env[i]? fun os => vD os[os.length - 1]? fun o => vD (asF o) fun y => P y ⟨env.set i (some (.lst os.dropLast)), w⟩ := by
  unfold xu'
  rcases h : env[i]? with _ | _ | o
  . rfl
  . rfl
  cases o with
  | lst os =>
    show vE (match os[os.length - 1]? with | some (.fz y) => _ | _ => _) P X = vD os[os.length - 1]? _
    cases os[os.length - 1]? with
    | none => rfl
    | some o => cases o <;> rfl
  | _ => rfl
theorem wc' (i : Nat) (env : List (Option O)) (w : W) {P : D -> PSt -> Prop} {X : Exc -> PSt -> Prop} : wE (xu' i ⟨env, w⟩) P X = wL env[i]? fun os => wD os[os.length - 1]? fun o => wD (asF o) fun y => P y ⟨env.set i (some (.lst os.dropLast)), w⟩ := by simp only [aC', ag', bo']; exact pY' ..
def tA' (cs : List String) (f : String) (y d : D) (w : W) : D -> Option (D × W)
  | .obj n => (match bm' cs f w (.obj n), w[n]? with
    | some (.dct ks os), some (.ins C fs) => if isK y = true /\ ks.length < bB' then (match dget ks os y with
        | some (.fz e) => some (e, w)
        | some _ => none
        | none => some (d, w.set n (.ins C (mF' f (.dct (ks ++ [y]) (os ++ [.fz d])) fs)))) else none
    | _, _ => none)
  | _ => none
theorem jk' (cs : List String) (f : String) (a : ME) (j l : Nat) {ρ : PSt} {P : D -> PSt -> Prop} {X : Exc -> PSt -> Prop} : vE (gR' cs f a j l ρ) P X = vE (a ρ) (fun x ρ1 => vO ρ1.env[j]? fun oy => vD (asF oy) fun y => vO ρ1.env[l]? fun od => vD (asF od) fun d => vD (tA' cs f y d ρ1.w x) fun p => P p.1 ⟨ρ1.env, p.2⟩) X := by
  simp only [gR', aa']
  congr
  funext x ρ1
  rcases ρ1.env[j]? with _ | _ | oy
  . cases x <;> rfl
  . cases x <;> rfl
  cases oy with
  | fz y =>
    rcases ρ1.env[l]? with _ | _ | od
    . cases x <;> rfl
    . cases x <;> rfl
    cases od with
    | fz d =>
      cases x with
      | obj n =>
        show vE (match bm' cs f ρ1.w (.obj n), ρ1.w[n]? with | some (.dct ks os), some (.ins C fs) => _ | _, _ => _) P X = vD (match bm' cs f ρ1.w (.obj n), ρ1.w[n]? with | some (.dct ks os), some (.ins C fs) => _ | _, _ => _) _
        split
        . rename_i ks os C fs e1 e2
          by_cases hc : isK y = true /\ ks.length < bB'
          . rw [if_pos hc, if_pos hc]
            cases dget ks os y with
            | none => rfl
            | some o => cases o <;> rfl
          . rw [if_neg hc, if_neg hc]
            rfl
        . rfl
      | _ => rfl
    | _ => cases x <;> rfl
  | _ => cases x <;> rfl
theorem mT' (cs : List String) (f : String) (a : ME) (j l : Nat) {ρ : PSt} {P : D -> PSt -> Prop} {X : Exc -> PSt -> Prop} : wE (gR' cs f a j l ρ) P X = wE (a ρ) (fun x ρ1 => wO ρ1.env[j]? fun oy => wD (asF oy) fun y => wO ρ1.env[l]? fun od => wD (asF od) fun d => wD (tA' cs f y d ρ1.w x) fun p => P p.1 ⟨ρ1.env, p.2⟩) X := by simp only [aC', ag', bg']; exact jk' ..
end M
namespace M
theorem fl' : ∀ l : List Tx, cn' (l.map D.str) = some l
  | [] => rfl
  | a :: l => by show (cn' (l.map D.str)).map (a :: ·) = _; rw [fl' l]; rfl
theorem rQ' (l : List Tx) {P : D -> Prop} : wD (nF' (.lst (l.map .str))) P = wC (l.length < 64) (P (.lst ((tw' l).map .str))) := by
  show wD ((cn' (l.map D.str)).bind _) P = _
  rw [fl', Option.bind_some]
  exact d4'
theorem u1' (s : Tx) {P : D -> Prop} : wD (fB' (.str s)) P = P (.tup (s.map chD)) := by
  show wD (some _) P = _
  rw [aV']
theorem wF' {α : Type} (e : α -> D) (l : List (α × D)) (i : Nat) (env : List (Option O)) (w : W) {P : O -> PSt -> Prop} : wG (some (some (dX e l))) i ⟨env, w⟩ P = P (dX e l) ⟨env.set i none, w⟩ := by
  simp only [bu']; rfl
end M
namespace M
def uw' : Option O -> Option D
  | some (.dct ks _) => (bA' ks).bind fun ns => if ns.length <= bB' then some (.lst ((np' ns).map .int)) else none
  | _ => none
theorem jW' (cs : List String) (f : String) (a : ME) {ρ : PSt} {P : D -> PSt -> Prop} {X : Exc -> PSt -> Prop} : vE (mh' cs f a ρ) P X = vE (a ρ) (fun x ρ1 => vD (uw' (bm' cs f ρ1.w x)) fun z => P z ρ1) X := by
  simp only [mh', aa']
  congr
  funext x ρ1
  rcases bm' cs f ρ1.w x with _ | o
  . rfl
  cases o with
  | dct ks os => exact af' ..
  | _ => rfl
theorem pI' (cs : List String) (f : String) (a : ME) {ρ : PSt} {P : D -> PSt -> Prop} {X : Exc -> PSt -> Prop} : wE (mh' cs f a ρ) P X = wE (a ρ) (fun x ρ1 => wD (uw' (bm' cs f ρ1.w x)) fun z => P z ρ1) X := by simp only [aC', ag']; exact jW' ..
def dXz {γ : Type} (e : γ -> D) (l : List (γ × D)) : D := .dcx (l.map fun p => e p.1) (l.map fun p => p.2)
theorem uK' {γ : Type} (e : γ -> D) (l : List (γ × D)) : frz (dX e l) = dXz e l := by
  unfold dX dXz
  simp only [frz, gJ', List.map_map]
  rfl
theorem wA' {γ : Type} (e : γ -> D) (l : List (γ × D)) (i : Nat) (env : List (Option O)) (w : W) {P : D -> PSt -> Prop} : wV (some (some (dX e l))) i ⟨env, w⟩ P = P (dXz e l) ⟨env.set i (some (.fz (dXz e l))), w⟩ := by
  rw [bt']
  show vV (some (some (O.dcx _ _))) _ _ _ = _
  rw [<- uK']; rfl
theorem rY' {γ : Type} (e : γ -> D) (l : List (γ × D)) {P : D -> Prop} : wD (mH' (.fz (dXz e l))) P = P (.int l.length) := by
  show wD (some (D.int _)) P = _
  rw [aV', List.length_map]
end M
namespace M
theorem sb' (a : Tx) (c : Nat) (i j : Nat) (h : j <= a.length) {P : D -> Prop} : wD (fJ' a [.str [c], .int (i : Nat), .int (j : Nat)]) P = P (.int (fnd (jJ' (a.take j) c i))) := by
  show wD (if 0 <= ((i : Nat) : Int) /\ 0 <= ((j : Nat) : Int) /\ ((j : Nat) : Int) <= a.length then some (.int (fnd (jJ' (a.take ((j : Nat) : Int).toNat) c ((i : Nat) : Int).toNat))) else none) P = _
  rw [if_pos ⟨by omega, by omega, by omega⟩, aV', Int.toNat_natCast, Int.toNat_natCast]
theorem ka' (cs : List String) (f : String) (a : ME) (s : Tx) {ρ : PSt} {P : D -> PSt -> Prop} {X : Exc -> PSt -> Prop} : vE (mj' cs f a s ρ) P X = vE (a ρ) (fun x ρ1 => vD (bm' cs f ρ1.w x) fun o => vD (gj' (bk' o (.str s))) fun d => P d ρ1) X := by
  simp only [mj', aa']
  congr
  funext x ρ1
  show vE (ofO _ ρ1) P X = vD (bm' cs f ρ1.w x) _
  rw [af']
  cases bm' cs f ρ1.w x <;> rfl
theorem pN' (cs : List String) (f : String) (a : ME) (s : Tx) {ρ : PSt} {P : D -> PSt -> Prop} {X : Exc -> PSt -> Prop} : wE (mj' cs f a s ρ) P X = wE (a ρ) (fun x ρ1 => wD (bm' cs f ρ1.w x) fun o => wD (gj' (bk' o (.str s))) fun d => P d ρ1) X := by simp only [aC', ag']; exact ka' ..
theorem ks' (cs : List String) (f : String) (a : ME) (s : Tx) (v : ME) {ρ : PSt} {N : PSt -> Prop} {rt : O -> W -> Prop} {bk ct : PSt -> Prop} {ex : Exc -> PSt -> Prop} : vS (lq' cs f a s v ρ) ⟨N, rt, bk, ct, ex⟩ = vE (v ρ) (fun d ρ1 => vE (a ρ1) (fun x ρ2 => vD (jF' cs f (.str s) d ρ2.w x) fun w => N ⟨ρ2.env, w⟩) ex) ex := by
  simp only [lq', an']
  congr
  funext d ρ1
  congr
  funext x ρ2
  show vS (match jF' cs f (.str s) d ρ2.w x with | some w => _ | none => _) _ = vD (jF' cs f (.str s) d ρ2.w x) _
  cases jF' cs f (.str s) d ρ2.w x <;> rfl
theorem qu' (cs : List String) (f : String) (a : ME) (s : Tx) (v : ME) {ρ : PSt} {N : PSt -> Prop} {rt : O -> W -> Prop} {bk ct : PSt -> Prop} {ex : Exc -> PSt -> Prop} : wS (lq' cs f a s v ρ) ⟨N, rt, bk, ct, ex⟩ = wE (v ρ) (fun d ρ1 => wE (a ρ1) (fun x ρ2 => wD (jF' cs f (.str s) d ρ2.w x) fun w => N ⟨ρ2.env, w⟩) ex) ex := by simp only [aC', a8', ag']; exact ks' ..
theorem tQ' {i k : Nat} {s : Tx} {env : List (Option O)} {w : W} {os ys : List O} {N rt bk ct ex} (h : env[i]? = some (some (.tup os))) (h2 : os[k]? = some (.lst ys)) (hl : ys.length < 16777216) :
    wS (lr' i k s ⟨env, w⟩) ⟨N, rt, bk, ct, ex⟩ = N ⟨env.set i (some (.tup (os.set k (.lst (ys ++ [.fz (.str s)]))))), w⟩ := by
  rw [a8']
  unfold lr'
  dsimp only
  rw [h]
  dsimp only
  rw [h2]
  dsimp only
  rw [if_pos hl]
  rfl
end M
namespace M
theorem ji' (cs : List String) (f : String) (a : ME) {ρ : PSt} {P : D -> PSt -> Prop} {X : Exc -> PSt -> Prop} : vE (gO' cs f a ρ) P X = vE (a ρ) (fun x ρ1 => vD (bm' cs f ρ1.w x) fun o => vD (fs' o) fun d => P d ρ1) X := by
  simp only [gO', aa']
  congr
  funext x ρ1
  show vE (ofO _ ρ1) P X = vD (bm' cs f ρ1.w x) _
  rw [af']
  cases bm' cs f ρ1.w x <;> rfl
theorem mQ' (cs : List String) (f : String) (a : ME) {ρ : PSt} {P : D -> PSt -> Prop} {X : Exc -> PSt -> Prop} : wE (gO' cs f a ρ) P X = wE (a ρ) (fun x ρ1 => wD (bm' cs f ρ1.w x) fun o => wD (fs' o) fun d => P d ρ1) X := by simp only [aC', ag']; exact ji' ..
theorem ef' : ∀ (es : List (Nat × Tx)), dx' (es.map fun p => .int (p.1 : Nat)) (es.map fun p => .fz (.str p.2)) = some es
  | [] => rfl
  | p :: es => by
    show (if (0 : Int) <= (p.1 : Nat) then (dx' (es.map fun p => .int (p.1 : Nat)) (es.map fun p => .fz (.str p.2))).map ((((p.1 : Nat) : Int).toNat, p.2) :: ·) else none) = _
    rw [if_pos (Int.natCast_nonneg _), ef' es]
    rfl
theorem n1' (es : List (Nat × Tx)) {P : D -> Prop} : wD (fs' (.dct (es.map fun p => .int (p.1 : Nat)) (es.map fun p => .fz (.str p.2)))) P = P (.lst ((es.mergeSort xa').map fun p => .tup [.int (p.1 : Nat), .str p.2])) := by
  have e : fs' (.dct (es.map fun p => .int (p.1 : Nat)) (es.map fun p => .fz (.str p.2))) = some (.lst ((es.mergeSort xa').map fun p => .tup [.int (p.1 : Nat), .str p.2])) := by
    show (dx' _ _).map _ = _
    rw [ef']
    rfl
  rw [e, ag']
  rfl
end M
namespace M
theorem hw' (kd : Bool) (m : List Bool) (a : MO) (env : List (Option O)) (w : W) {P : O -> PSt -> Prop} {X : Exc -> PSt -> Prop} : vE (nI' kd m a ⟨env, w⟩) P X = (okL (!kd) kd m env = true /\ (kd = true -> mq' m env = 1) /\ vE (a ⟨c7' m env, w⟩) (fun o ρ => nN' (!kd) kd o = true /\ q3' (!kd) kd ρ.w = true /\ P o ⟨env, ρ.w⟩) (fun _ _ => False)) := by
  unfold nI'
  by_cases h : okL (!kd) kd m env = true /\ (kd = true -> mq' m env = 1)
  . rw [if_pos h]
    cases a ⟨c7' m env, w⟩ with
    | bad => exact propext ⟨fun z => z.elim, fun z => z.2.2.elim⟩
    | exc x ρ => exact propext ⟨fun z => z.elim, fun z => z.2.2.elim⟩
    | ok o ρ =>
      by_cases h2 : nN' (!kd) kd o = true /\ q3' (!kd) kd ρ.w = true
      . simp only [h2, and_self, if_true]
        exact propext ⟨fun z => ⟨h.1, h.2, h2.1, h2.2, z⟩, fun z => z.2.2.2.2⟩
      . rw [show (vE (match (Res.ok o ρ : Res O) with | .ok o ρ' => if nN' (!kd) kd o = true /\ q3' (!kd) kd ρ'.w = true then .ok o ⟨env, ρ'.w⟩ else .bad | _ => .bad) P X) = vE (if nN' (!kd) kd o = true /\ q3' (!kd) kd ρ.w = true then (.ok o ⟨env, ρ.w⟩ : Res O) else .bad) P X from rfl, if_neg h2]
        exact propext ⟨fun z => z.elim, fun z => h2 ⟨z.2.2.1, z.2.2.2.1⟩⟩
  . rw [if_neg h]
    exact propext ⟨fun z => z.elim, fun z => h ⟨z.1, z.2.1⟩⟩
theorem pL' (m : List Bool) (a : MO) (env : List (Option O)) (w : W) {P : O -> PSt -> Prop} {X : Exc -> PSt -> Prop} : wE (nI' false m a ⟨env, w⟩) P X = (okL true false m env = true /\ wE (a ⟨c7' m env, w⟩) (fun o ρ => nN' true false o = true /\ q3' true false ρ.w = true /\ P o ⟨env, ρ.w⟩) (fun _ _ => False)) := by
  simp only [aC']
  rw [hw']
  exact propext ⟨fun z => ⟨z.1, z.2.2⟩, fun z => ⟨z.1, nofun, z.2⟩⟩
theorem pK' (m : List Bool) (a : MO) (env : List (Option O)) (w : W) {P : O -> PSt -> Prop} {X : Exc -> PSt -> Prop} : wE (nI' true m a ⟨env, w⟩) P X = (okL false true m env = true /\ mq' m env = 1 /\ wE (a ⟨c7' m env, w⟩) (fun o ρ => nN' false true o = true /\ q3' false true ρ.w = true /\ P o ⟨env, ρ.w⟩) (fun _ _ => False)) := by
  simp only [aC']
  rw [hw']
  exact propext ⟨fun z => ⟨z.1, z.2.1 rfl, z.2.2⟩, fun z => ⟨z.1, fun _ => z.2.1, z.2.2⟩⟩
theorem qW' (kl kd : Bool) (r : List (Option O)) : okL kl kd [] r = true := by cases r <;> rfl
theorem xh' (kl kd : Bool) (m : List Bool) (x : Option O) (r : List (Option O)) : okL kl kd (false :: m) (x :: r) = okL kl kd m r := rfl
theorem xg' (kl kd : Bool) (m : List Bool) (o : O) (r : List (Option O)) : okL kl kd (true :: m) (some o :: r) = (lendO kl kd o && okL kl kd m r) := rfl
theorem om' (r : List (Option O)) : mq' [] r = 0 := by cases r <;> rfl
theorem vE' (m : List Bool) (x : Option O) (r : List (Option O)) : mq' (false :: m) (x :: r) = mq' m r := rfl
theorem vD' (m : List Bool) (o : O) (r : List (Option O)) : mq' (true :: m) (some o :: r) = vY' o + mq' m r := rfl
theorem nQ' (kl kd : Bool) (d : D) : lendO kl kd (.fz d) = true := rfl
theorem qR' (d : D) : vY' (.fz d) = 0 := rfl
theorem lV' (kd : Bool) (ds : List D) : lendO true kd (.lst (ds.map .fz)) = true := by
  show (true && (ds.map O.fz).all mJ') = true
  simp [mJ']
theorem nM' (kl kd : Bool) (n : Nat) : nN' kl kd (.fz (.obj n)) = true := rfl
def qQ' : D -> Option (D × D)
  | .tup [x, y] => some (x, y)
  | _ => none
theorem m9' (i : Nat) (k : ME) (d : D) {ρ1 : PSt} {N : PSt -> Prop} {rt : O -> W -> Prop} {bk ct : PSt -> Prop} {ex : Exc -> PSt -> Prop} : vS (li' i k d ρ1) ⟨N, rt, bk, ct, ex⟩ = vO ρ1.env[i]? fun _ => vE (k ρ1) (fun y ρ2 => vL ρ2.env[i]? fun os => vN y fun z => vD (ixn os.length z) fun j => N ⟨ρ2.env.set i (some (.lst (os.set j (.fz d)))), ρ2.w⟩) ex := by
  unfold li'
  rcases ρ1.env[i]? with _ | _ | o
  . rfl
  . rfl
  simp only [an', vO]
  congr
  funext y ρ2
  rcases ρ2.env[i]? with _ | _ | o2
  . rfl
  . rfl
  cases o2 with
  | lst os =>
    cases y <;> try rfl
    rename_i z
    show vS (match ixn os.length z with | some j => .nx _ | none => .bad) _ = vD (ixn os.length z) _
    cases ixn os.length z <;> rfl
  | _ => rfl
theorem na' (i : Nat) (k l a : ME) {ρ : PSt} {N : PSt -> Prop} {rt : O -> W -> Prop} {bk ct : PSt -> Prop} {ex : Exc -> PSt -> Prop} : vS (qx' i k l a ρ) ⟨N, rt, bk, ct, ex⟩ = vE (a ρ) (fun d ρ1 => vD (qQ' d) fun p => vO ρ1.env[i]? fun _ => vE (k ρ1) (fun y ρ2 => vL ρ2.env[i]? fun os => vN y fun z => vD (ixn os.length z) fun j => vO (ρ2.env.set i (some (.lst (os.set j (.fz p.1)))))[i]? fun _ => vE (l ⟨ρ2.env.set i (some (.lst (os.set j (.fz p.1)))), ρ2.w⟩) (fun y ρ3 => vL ρ3.env[i]? fun os => vN y fun z => vD (ixn os.length z) fun j => N ⟨ρ3.env.set i (some (.lst (os.set j (.fz p.2)))), ρ3.w⟩) ex) ex) ex := by
  simp only [qx', an']
  congr
  funext d ρ1
  have key : ∀ x y, vS (aZ' (li' i k x) (li' i l y) ρ1) ⟨N, rt, bk, ct, ex⟩ = vS (li' i k x ρ1) ⟨fun ρ2 => vS (li' i l y ρ2) ⟨N, rt, bk, ct, ex⟩, rt, bk, ct, ex⟩ := fun x y => by
    show vS (match li' i k x ρ1 with | .nx ρ1 => li' i l y ρ1 | r => r) _ = _
    cases li' i k x ρ1 <;> rfl
  cases d with
  | tup ds =>
    match ds with
    | [] => rfl
    | [x] => rfl
    | [x, y] => exact (key x y).trans (by simp only [m9']; rfl)
    | x :: y :: z :: r => rfl
  | _ => rfl
theorem tG' (i : Nat) (k l a : ME) {ρ : PSt} {N : PSt -> Prop} {rt : O -> W -> Prop} {bk ct : PSt -> Prop} {ex : Exc -> PSt -> Prop} : wS (qx' i k l a ρ) ⟨N, rt, bk, ct, ex⟩ = wE (a ρ) (fun d ρ1 => wD (qQ' d) fun p => wO ρ1.env[i]? fun _ => wE (k ρ1) (fun y ρ2 => wL ρ2.env[i]? fun os => wN y fun z => wD (ixn os.length z) fun j => wO (ρ2.env.set i (some (.lst (os.set j (.fz p.1)))))[i]? fun _ => wE (l ⟨ρ2.env.set i (some (.lst (os.set j (.fz p.1)))), ρ2.w⟩) (fun y ρ3 => wL ρ3.env[i]? fun os => wN y fun z => wD (ixn os.length z) fun j => N ⟨ρ3.env.set i (some (.lst (os.set j (.fz p.2)))), ρ3.w⟩) ex) ex) ex := by
  simp only [aC', a8', ag', bw', bg', bo']; exact na' ..
theorem u9' (x y : D) {P : D × D -> Prop} : wD (qQ' (.tup [x, y])) P = P (x, y) := by rw [ag']; rfl
theorem m7' (i : Nat) (k a : ME) (env : List (Option O)) (w : W) {P : D -> PSt -> Prop} {X : Exc -> PSt -> Prop} : vE (rL' i k a ⟨env, w⟩) P X = vO env[i]? fun o0 => v1' o0 = true /\ vE (k ⟨env, w⟩) (fun y ρ1 => vE (a ρ1) (fun d ρ2 => vO ρ2.env[i]? fun o => vD (v3' o y d) fun e => P e ρ2) X) X := by
  unfold rL'
  show vE (match env[i]? with
  | some (some o0) => _
  | _ => .bad) P X = _
  rcases env[i]? with _ | _ | o
  . rfl
  . rfl
  simp only [vO]
  by_cases h : v1' o = true
  . rw [if_pos h]
    simp only [aa', h, true_and]
    congr
    funext y ρ1
    congr
    funext d ρ2
    rcases ρ2.env[i]? with _ | _ | o2
    . rfl
    . rfl
    simp only [vO]
    cases v3' o2 y d <;> rfl
  . rw [if_neg h]
    exact propext ⟨fun z => z.elim, fun z => h z.1⟩
theorem s3' (i : Nat) (k a : ME) (env : List (Option O)) (w : W) {P : D -> PSt -> Prop} {X : Exc -> PSt -> Prop} : wE (rL' i k a ⟨env, w⟩) P X = wO env[i]? fun o0 => v1' o0 = true /\ wE (k ⟨env, w⟩) (fun y ρ1 => wE (a ρ1) (fun d ρ2 => wO ρ2.env[i]? fun o => wD (v3' o y d) fun e => P e ρ2) X) X := by
  simp only [aC', bg', ag']; exact m7' ..
theorem xS' (i j : Int) {Q : D -> Prop} : wD (zg' (.int i) (.int j)) Q = wC (0 <= j /\ j <= 1000 /\ -18446744073709551616 < i /\ i < 18446744073709551616) (Q (.int (i * 2 ^ j.toNat))) := by
  rw [ag', br']
  show vD (if 0 <= j /\ j <= 1000 /\ small64 i = true then _ else _) Q = _
  rw [aw']
  congr 1
  simp [small64]
theorem xR' (i j : Int) {Q : D -> Prop} : wD (zf' (.int i) (.int j)) Q = wC (0 <= j) (Q (.int (i / 2 ^ j.toNat))) := by
  rw [ag', br']
  exact aw'
theorem zv' (is : List Nat) (ds : List D) (ρ : PSt) {N : PSt -> Prop} : wD (gL is (.lst ds) ρ) N = wD (gNs is ds ρ) N := rfl
theorem yg' (gs : List MG) (ds : List D) (ρ : PSt) {N : PSt -> Prop} : wD (gTg gs (.tup ds) ρ) N = wD (gSq gs ds ρ) N := rfl
theorem vq' (ρ : PSt) {N : PSt -> Prop} : wD (gSq [] [] ρ) N = N ρ := by rw [ag']; rfl
theorem yh' (g : MG) (gs : List MG) (d : D) (ds : List D) (ρ : PSt) {N : PSt -> Prop} : wD (gSq (g :: gs) (d :: ds) ρ) N = wD (g d ρ) (fun ρ1 => wD (gSq gs ds ρ1) N) := by
  simp only [ag']
  show vD ((g d ρ).bind (gSq gs ds)) N = _
  cases g d ρ <;> rfl
end M
namespace M
section
variable {α : Type} {env : List (Option O)} {w : W} {ρ : PSt} {X : Exc -> PSt -> Prop}
end
end M
namespace M
section
variable {α β : Type} [DecidableEq α] [DecidableEq β]
def ins (F : List α) (x : α) : List α := if x ∈ F then F else F ++ [x]
def db' (F xs : List α) : List α := xs.foldl ins F
def bX' (xs : List α) : List α := db' [] xs
theorem iY' {F : List α} {x : α} (h : x ∈ F) : ins F x = F := if_pos h
theorem gF' {F : List α} {x : α} (h : x ∉ F) : ins F x = F ++ [x] := if_neg h
theorem lQ' {F : List α} {x y : α} : y ∈ ins F x ↔ y ∈ F \/ y = x := by
  unfold ins
  split
  . rename_i h
    exact ⟨.inl, fun q => q.elim id fun e => e ▸ h⟩
  . simp
theorem bT' {F : List α} {x : α} {xs : List α} : db' F (x :: xs) = db' (ins F x) xs := rfl
theorem gG' {F xs ys : List α} : db' F (xs ++ ys) = db' (db' F xs) ys := List.foldl_append ..
theorem l8' {F xs : List α} {x : α} : db' F (xs ++ [x]) = ins (db' F xs) x := by rw [gG']; rfl
theorem dn' {y : α} : ∀ {xs F : List α}, y ∈ db' F xs ↔ y ∈ F \/ y ∈ xs
  | [], F => by simp [db']
  | x :: xs, F => by
    rw [bT', dn', lQ', List.mem_cons]
    constructor
    . rintro ((h | h) | h)
      . exact .inl h
      . exact .inr (.inl h)
      . exact .inr (.inr h)
    . rintro (h | h | h)
      . exact .inl (.inl h)
      . exact .inl (.inr h)
      . exact .inr h
theorem cM' {xs : List α} {y : α} : y ∈ bX' xs ↔ y ∈ xs := by rw [bX', dn']; simp
theorem qJ' {F : List α} {x : α} : F <+: ins F x := by
  unfold ins
  split
  . exact List.prefix_refl _
  . exact List.prefix_append ..
theorem iH' : ∀ {xs F : List α}, F <+: db' F xs
  | [], F => List.prefix_refl _
  | x :: xs, F => qJ'.trans iH'
theorem uo' {F : List α} {x : α} (h : F.Nodup) : (ins F x).Nodup := by
  unfold ins
  split
  . exact h
  . rename_i q
    rw [List.nodup_append]
    exact ⟨h, by simp, fun a ha b hb e => q (by rw [List.mem_singleton] at hb; rw [<- hb, <- e]; exact ha)⟩
theorem gC' : ∀ {xs F : List α}, F.Nodup -> (db' F xs).Nodup
  | [], _, h => h
  | _ :: xs, _, h => gC' (xs := xs) (uo' h)
theorem q4' {xs : List α} : (bX' xs).Nodup := gC' List.nodup_nil
theorem lN' {xs : List α} {x : α} : bX' (xs ++ [x]) = ins (bX' xs) x := l8'
theorem fH' (c : α -> β) (F : List α) (x : α) : bX' ((ins F x).map c) = ins (bX' (F.map c)) (c x) := by
  by_cases h : x ∈ F
  . rw [iY' h, iY' (cM'.mpr (List.mem_map.mpr ⟨x, h, rfl⟩))]
  . rw [gF' h, List.map_append, List.map_cons, List.map_nil, lN']
theorem cL' (c : α -> β) : ∀ (xs F : List α), bX' ((db' F xs).map c) = db' (bX' (F.map c)) (xs.map c)
  | [], _ => rfl
  | x :: xs, F => by rw [bT', cL' c xs, fH', List.map_cons, bT']
theorem eB' (c : α -> β) (xs : List α) : bX' ((bX' xs).map c) = bX' (xs.map c) := by
  have := cL' c xs []
  exact this
theorem gD' (f : α -> β) {F : List α} {x : α} (h : ∀ y ∈ F, f y = f x -> y = x) : (ins F x).map f = ins (F.map f) (f x) := by
  by_cases hx : x ∈ F
  . rw [iY' hx, iY' (List.mem_map.mpr ⟨x, hx, rfl⟩)]
  . rw [gF' hx, gF']
    . simp
    . rw [List.mem_map]
      rintro ⟨y, hy, e⟩
      exact hx (h y hy e ▸ hy)
theorem c9' (f : α -> β) (U : α -> Prop) (inj : ∀ a b, U a -> U b -> f a = f b -> a = b) : ∀ (xs F : List α), (∀ x ∈ F, U x) -> (∀ x ∈ xs, U x) -> (db' F xs).map f = db' (F.map f) (xs.map f)
  | [], _, _, _ => rfl
  | x :: xs, F, hF, hx => by
    have ux := hx x (by simp)
    rw [bT', c9' f U inj xs (ins F x) (fun y hy => (lQ'.mp hy).elim (hF y) fun e => e ▸ ux) (fun y hy => hx y (by simp [hy])), gD' f fun y hy e => inj y x (hF y hy) ux e, List.map_cons, bT']
theorem fI' (f : α -> β) (xs : List α) (inj : ∀ a ∈ xs, ∀ b ∈ xs, f a = f b -> a = b) : bX' (xs.map f) = (bX' xs).map f :=
  (c9' f (· ∈ xs) (fun a b ha hb => inj a ha b hb) xs [] (fun _ h => nomatch h) (fun _ h => h)).symm
theorem q6' : ∀ {xs : List α}, xs.Nodup -> xs.map (fun x => xs.idxOf x) = List.range xs.length := by
  intro xs h
  refine List.ext_getElem (by simp) fun i h1 h2 => ?_
  rw [List.getElem_map, List.getElem_range]
  rw [List.length_map] at h1
  exact List.Nodup.idxOf_getElem h i h1
theorem nK' (xs : List α) : bX' (xs.map fun x => (bX' xs).idxOf x) = List.range (bX' xs).length := by
  rw [fI' (fun x => (bX' xs).idxOf x) xs, q6' q4']
  intro a ha b hb e
  have h1 : (bX' xs)[(bX' xs).idxOf a]? = some a := by
    rw [List.getElem?_eq_getElem (List.idxOf_lt_length_iff.mpr (cM'.mpr ha)), List.getElem_idxOf]
  have h2 : (bX' xs)[(bX' xs).idxOf b]? = some b := by
    rw [List.getElem?_eq_getElem (List.idxOf_lt_length_iff.mpr (cM'.mpr hb)), List.getElem_idxOf]
  rw [e, h2] at h1
  exact (Option.some.inj h1).symm
theorem gB' (g : α -> β) (X : List α) : (bX' (X.map g)).length <= (bX' X).length := by
  have h := eB' g X
  rw [<- h]
  have go : ∀ (ys F : List β), (db' F ys).length <= F.length + ys.length := by
    intro ys
    induction ys with
    | nil => intro F; simp [db']
    | cons y ys ih =>
      intro F
      rw [bT']
      refine Nat.le_trans (ih _) ?_
      have : (ins F y).length <= F.length + 1 := by unfold ins; split <;> simp
      simp only [List.length_cons]
      omega
  have := go ((bX' X).map g) []
  simpa [bX'] using this
end
def cA' (T : List (List Nat)) (s : Nat) : List Nat := (T[s]?).getD []
def bfs (T : List (List Nat)) : Nat -> List Nat
  | 0 => [0]
  | j + 1 => match (bfs T j)[j]? with
    | some s => db' (bfs T j) (cA' T s)
    | none => bfs T j
section
variable {T : List (List Nat)} {n m : Nat}
theorem lu' (h : eP' T n m) {s : Nat} (hs : s < n) : (cA' T s).length = m := by
  unfold cA'
  rw [List.getElem?_eq_getElem (by rw [h.1]; exact hs)]
  exact (h.2 _ (List.getElem_mem _)).1
def gw' (T : List (List Nat)) : List Nat := bfs T T.length
end
section
variable {γ : Type} [DecidableEq γ] {S : List Nat}
def nL' (S : List Nat) (f : Nat -> γ) (s : Nat) : Nat := (bX' (S.map f)).idxOf (f s)
theorem eC' (f : Nat -> γ) : bX' (S.map (nL' S f)) = List.range (bX' (S.map f)).length := by
  have := nK' (S.map f)
  rw [List.map_map] at this
  exact this
theorem iT' (f : Nat -> γ) {s : Nat} (hs : s ∈ S) : (bX' (S.map f))[nL' S f s]? = some (f s) := by
  have : nL' S f s < (bX' (S.map f)).length := List.idxOf_lt_length_iff.mpr (cM'.mpr (List.mem_map.mpr ⟨s, hs, rfl⟩))
  rw [List.getElem?_eq_getElem this]
  exact congrArg some (List.getElem_idxOf _)
theorem ck' (f : Nat -> γ) {s t : Nat} (hs : s ∈ S) (ht : t ∈ S) : nL' S f s = nL' S f t ↔ f s = f t := by
  constructor
  . intro e
    have h1 := iT' f hs
    rw [e, iT' f ht] at h1
    exact (Option.some.inj h1).symm
  . intro e; unfold nL'; rw [e]
end
def key (T : List (List Nat)) (c : Nat -> Nat) (s : Nat) : Nat × List Nat := (c s, (cA' T s).map c)
def Leq (L : Tx) (T : List (List Nat)) (A : List Nat) (s t : Nat) : Prop := ∀ x : Tx, (∀ a ∈ x, a ∈ L) -> (run L T s x ∈ A ↔ run L T t x ∈ A)
structure Clz (L : Tx) (T : List (List Nat)) (A : List Nat) (S : List Nat) (c : Nat -> Nat) (k : Nat) : Prop where
  num : bX' (S.map c) = List.range k
  ref : ∀ s ∈ S, ∀ t ∈ S, c s = c t -> (s ∈ A ↔ t ∈ A)
  co : ∀ s ∈ S, ∀ t ∈ S, Leq L T A s t -> c s = c t
section
variable {L : Tx} {T : List (List Nat)} {A S : List Nat} {c : Nat -> Nat} {k : Nat}
theorem qk' (s a : Nat) : stp L T s a = ((cA' T s)[L.idxOf a]?).getD 0 := rfl
theorem lh' (hL : L.Nodup) {s i : Nat} (hi : i < L.length) : stp L T s L[i] = ((cA' T s)[i]?).getD 0 := by rw [qk', hL.idxOf_getElem i hi]
theorem eq' (h : eP' T T.length L.length) {s a : Nat} (hs : s < T.length) (ha : a ∈ L) : stp L T s a ∈ cA' T s := by
  obtain ⟨r, h1, h2, _⟩ := tu' h hs ha
  have : cA' T s = r := by unfold cA'; rw [h1]; rfl
  rw [this]
  exact List.mem_of_getElem? h2
theorem Leq.step (h : Leq L T A s t) (ha : a ∈ L) : Leq L T A (stp L T s a) (stp L T t a) := fun x hx => by
  have := h (a :: x) fun b hb => (List.mem_cons.mp hb).elim (fun e => e ▸ ha) (hx b)
  exact this
theorem Leq.refl (s : Nat) : Leq L T A s s := fun _ _ => Iff.rfl
theorem Leq.symm (h : Leq L T A s t) : Leq L T A t s := fun x hx => (h x hx).symm
theorem Leq.trans (h : Leq L T A s t) (h' : Leq L T A t u) : Leq L T A s u := fun x hx => (h x hx).trans (h' x hx)
theorem lt' (h : eP' T T.length L.length) (hL : L.Nodup) {s t : Nat} (hs : s < T.length) (ht : t < T.length) (hc : ∀ a ∈ L, c (stp L T s a) = c (stp L T t a)) : (cA' T s).map c = (cA' T t).map c := by
  have l1 := lu' h hs
  have l2 := lu' h ht
  refine List.ext_getElem (by simp [l1, l2]) fun i h1 h2 => ?_
  rw [List.getElem_map, List.getElem_map]
  rw [List.length_map] at h1 h2
  have := hc L[i] (List.getElem_mem (by omega))
  rw [lh' hL (by omega), lh' hL (by omega), List.getElem?_eq_getElem h1, List.getElem?_eq_getElem h2] at this
  exact this
theorem Clz.lt (h : Clz L T A S c k) {s : Nat} (hs : s ∈ S) : c s < k := by
  have : c s ∈ bX' (S.map c) := cM'.mpr (List.mem_map.mpr ⟨s, hs, rfl⟩)
  rw [h.num] at this
  exact List.mem_range.mp this
theorem Clz.first : Clz L T A S (nL' S fun s => decide (s ∈ A)) (bX' (S.map fun s => decide (s ∈ A))).length := by
  refine ⟨eC' _, fun s hs t ht e => ?_, fun s hs t ht e => (ck' _ hs ht).mpr ?_⟩
  . have := (ck' _ hs ht).mp e
    simpa using this
  . have := e [] (fun _ h => nomatch h)
    simpa [qF'] using this
theorem Clz.next (hT : eP' T T.length L.length) (hL : L.Nodup) (hS : ∀ s ∈ S, s < T.length) (hcl : ∀ s ∈ S, ∀ t ∈ cA' T s, t ∈ S) (h : Clz L T A S c k) : Clz L T A S (nL' S (key T c)) (bX' (S.map (key T c))).length := by
  refine ⟨eC' _, fun s hs t ht e => ?_, fun s hs t ht e => (ck' _ hs ht).mpr ?_⟩
  . have := (ck' _ hs ht).mp e
    exact h.ref s hs t ht (congrArg Prod.fst this)
  . refine Prod.ext (h.co s hs t ht e) (lt' hT hL (hS s hs) (hS t ht) fun a ha => ?_)
    exact h.co _ (hcl s hs _ (eq' hT (hS s hs) ha)) _ (hcl t ht _ (eq' hT (hS t ht) ha)) (e.step ha)
theorem nY' : (S.map (key T c)).map Prod.fst = S.map c := by rw [List.map_map]; rfl
theorem Clz.le (h : Clz L T A S c k) : k <= (bX' (S.map (key T c))).length := by
  have := gB' Prod.fst (S.map (key T c))
  rw [nY', h.num, List.length_range] at this
  exact this
end
structure IsLeast (L : Tx) (T : List (List Nat)) (A : List Nat) (c : Nat -> Nat) (T' : List (List Nat)) (A' : List Nat) : Prop where
  tab : eP' T' T'.length L.length
  ne : 1 <= T'.length
  le : T'.length <= T.length
  acc : AccOk A' T'.length
  c0 : c 0 = 0
  lt : ∀ s ∈ gw' T, c s < T'.length
  row : ∀ s ∈ gw' T, cA' T' (c s) = (cA' T s).map c
  fin : ∀ s ∈ gw' T, (c s ∈ A' ↔ s ∈ A)
  onto : ∀ q < T'.length, ∃ s ∈ gw' T, c s = q
  gw' : gw' T' = List.range T'.length
  apart : ∀ p < T'.length, ∀ q < T'.length, Leq L T' A' p q -> p = q
  num : bX' ((M.gw' T).map c) = List.range T'.length
section
variable {L : Tx} {T : List (List Nat)} {A : List Nat} {c : Nat -> Nat} {k : Nat}
end
structure Cw (L : Tx) (T : List (List Nat)) (A : List Nat) (S : List Nat) (c : Nat -> Nat) : Prop where
  ref : ∀ s ∈ S, ∀ t ∈ S, c s = c t -> (s ∈ A ↔ t ∈ A)
  co : ∀ s ∈ S, ∀ t ∈ S, Leq L T A s t -> c s = c t
section
variable {L : Tx} {T : List (List Nat)} {A S : List Nat} {c : Nat -> Nat} {k : Nat}
theorem Cw.next (hT : eP' T T.length L.length) (hL : L.Nodup) (hS : ∀ s ∈ S, s < T.length) (hcl : ∀ s ∈ S, ∀ t ∈ cA' T s, t ∈ S) (h : Cw L T A S c) : Clz L T A S (nL' S (key T c)) (bX' (S.map (key T c))).length := by
  refine ⟨eC' _, fun s hs t ht e => ?_, fun s hs t ht e => (ck' _ hs ht).mpr ?_⟩
  . have := (ck' _ hs ht).mp e
    exact h.ref s hs t ht (congrArg Prod.fst this)
  . refine Prod.ext (h.co s hs t ht e) (lt' hT hL (hS s hs) (hS t ht) fun a ha => ?_)
    exact h.co _ (hcl s hs _ (eq' hT (hS s hs) ha)) _ (hcl t ht _ (eq' hT (hS t ht) ha)) (e.step ha)
end
def mA' (X : D) (T : List (List Nat)) : Prop := ∀ (s : Nat) (r : List Nat), T[s]? = some r -> ∃ R, pIx X (.int (s : Nat)) = some R /\ cz' R = some (r.map fun t => .int (t : Nat))
def mC' (Y : D) (A : List Nat) : Prop := ∀ s : Nat, pIn (.int (s : Nat)) Y = some (.bl (decide (s ∈ A)))
theorem mA'.tab (T : List (List Nat)) : mA' (ng' T) T := fun s r h => ⟨lv' r, by
  show ati (T.map lv') (s : Int) = _
  rw [jb' (by omega), List.getElem?_map, Int.toNat_natCast, h]; rfl, rfl⟩
theorem mC'.acc (A : List Nat) : mC' (mz' A) A := fun s => by
  have h := mn' A s (Q := fun d => d = .bl (decide (s ∈ A)))
  have : wD (pIn (.int (s : Nat)) (mz' A)) (fun d => d = .bl (decide (s ∈ A))) := by rw [h]
  rw [ag'] at this
  cases e : pIn (.int (s : Nat)) (mz' A) with
  | none => rw [e] at this; exact this.elim
  | some d => rw [e] at this; exact congrArg some this
def ixo {γ : Type} [DecidableEq γ] (G : List γ) (a : γ) : Nat := G.idxOf a
section
variable {L : Tx} {T : List (List Nat)} {A : List Nat} {c c' : Nat -> Nat} {T1 T2 : List (List Nat)} {A1 A2 : List Nat}
end
def Pl (y : Option O) : Prop := y = none \/ ∃ d, y = some (.fz d)
theorem Pl.keep {y : Option O} (h : Pl y) : l3' (some y) = y := by rcases h with rfl | ⟨d, rfl⟩ <;> rfl
end M
namespace M
section
variable {L : Tx} {T T' U : List (List Nat)} {A A' B T1 A1 T2 A2 : List Nat} {m : Nat} {c : Nat -> Nat}
end
end M
namespace M
section
variable {γ : Type} [DecidableEq γ] (L : Tx) (sx : γ -> Nat -> γ) (g0 : γ)
def nxG (g : γ) : List γ := L.map (sx g)
def xbf : Nat -> List γ
  | 0 => [g0]
  | j + 1 => match (xbf j)[j]? with
    | some g => db' (xbf j) (nxG L sx g)
    | none => xbf j
def q8' (g : γ) (z : Tx) : γ := z.foldl sx g
def Rch (g : γ) : Prop := ∃ z : Tx, (∀ c ∈ z, c ∈ L) /\ g = q8' sx g0 z
def Few (N : Nat) : Prop := ∀ l : List γ, l.Nodup -> (∀ g ∈ l, Rch L sx g0 g) -> l.length <= N
def dL' (N : Nat) : List γ := xbf L sx g0 N
def vO' (F : List γ) (g : γ) : List Nat := L.map fun c => ixo F (sx g c)
def ox' (F : List γ) : List (List Nat) := F.map (vO' L sx F)
def yA' (F : List γ) (p : γ -> Bool) : List Nat := (List.range F.length).filter fun q => ((F[q]?).map p).getD false
variable {L sx g0}
theorem pz' {j : Nat} : xbf L sx g0 j <+: xbf L sx g0 (j + 1) := by
  show xbf L sx g0 j <+: (match (xbf L sx g0 j)[j]? with | some s => db' (xbf L sx g0 j) (nxG L sx s) | none => xbf L sx g0 j)
  split
  . exact iH'
  . exact List.prefix_refl _
theorem mN' {i j : Nat} (h : i <= j) : xbf L sx g0 i <+: xbf L sx g0 j := by
  induction h with
  | refl => exact List.prefix_refl _
  | step _ ih => exact ih.trans pz'
theorem hi' : ∀ j : Nat, (xbf L sx g0 j).Nodup
  | 0 => by simp [xbf]
  | j + 1 => by
    show (match (xbf L sx g0 j)[j]? with | some s => db' (xbf L sx g0 j) (nxG L sx s) | none => xbf L sx g0 j).Nodup
    split
    . exact gC' (hi' j)
    . exact hi' j
theorem lW' {g : γ} {z : Tx} {c : Nat} : q8' sx g (z ++ [c]) = sx (q8' sx g z) c := by unfold q8'; rw [List.foldl_append]; rfl
theorem el' : ∀ j : Nat, ∀ g ∈ xbf L sx g0 j, Rch L sx g0 g
  | 0, g, h => by
    have : g = g0 := by simpa [xbf] using h
    exact ⟨[], nofun, this⟩
  | j + 1, g, h => by
    have h : g ∈ (match (xbf L sx g0 j)[j]? with | some s => db' (xbf L sx g0 j) (nxG L sx s) | none => xbf L sx g0 j) := h
    split at h
    . rename_i s e
      rcases dn'.mp h with q | q
      . exact el' j g q
      . obtain ⟨c, hc, rfl⟩ := List.mem_map.mp q
        obtain ⟨z, hz, rfl⟩ := el' j s (List.mem_of_getElem? e)
        exact ⟨z ++ [c], fun d hd => (List.mem_append.mp hd).elim (hz d) (fun q => List.mem_singleton.mp q ▸ hc), lW'.symm⟩
    . exact el' j g h
theorem ek' {j : Nat} (h : (xbf L sx g0 j).length <= j) : ∀ {i : Nat}, j <= i -> xbf L sx g0 i = xbf L sx g0 j := by
  intro i hi
  induction hi with
  | refl => rfl
  | @step i hi ih =>
    show (match (xbf L sx g0 i)[i]? with | some s => db' (xbf L sx g0 i) (nxG L sx s) | none => xbf L sx g0 i) = _
    have : (xbf L sx g0 i)[i]? = none := by rw [ih]; exact List.getElem?_eq_none (Nat.le_trans h hi)
    rw [this, ih]
theorem sC' {j : Nat} {g : γ} (h : (xbf L sx g0 j)[j]? = some g) : xbf L sx g0 (j + 1) = db' (xbf L sx g0 j) (nxG L sx g) := by
  show (match (xbf L sx g0 j)[j]? with | some s => db' (xbf L sx g0 j) (nxG L sx s) | none => xbf L sx g0 j) = _
  rw [h]
variable {N : Nat}
theorem Few.len (h : Few L sx g0 N) (j : Nat) : (xbf L sx g0 j).length <= N := h _ (hi' j) (el' j)
theorem Few.all (h : Few L sx g0 N) {j : Nat} (hj : (xbf L sx g0 j).length <= j) : xbf L sx g0 j = dL' L sx g0 N := by
  by_cases q : j <= N
  . exact (ek' hj q).symm
  . exact ek' (h.len _) (by omega)
theorem Few.pre (h : Few L sx g0 N) (j : Nat) : xbf L sx g0 j <+: dL' L sx g0 N := by
  by_cases q : j <= N
  . exact mN' q
  . have : xbf L sx g0 j = dL' L sx g0 N := ek' (h.len _) (by omega)
    rw [this]
    exact List.prefix_refl _
theorem Few.get (h : Few L sx g0 N) {j : Nat} {g : γ} (e : (dL' L sx g0 N)[j]? = some g) : (xbf L sx g0 j)[j]? = some g := by
  have h1 : j < (xbf L sx g0 j).length := by
    rcases Nat.lt_or_ge j (xbf L sx g0 j).length with q | q
    . exact q
    . have := h.all q
      rw [<- this] at e
      have := (List.getElem?_eq_some_iff.mp e).1
      omega
  obtain ⟨G, eG⟩ := h.pre j
  rw [<- eG, List.getElem?_append_left h1] at e
  exact e
theorem Few.nd : (dL' L sx g0 N).Nodup := hi' N
theorem Few.zero (h : Few L sx g0 N) : (dL' L sx g0 N)[0]? = some g0 := by
  obtain ⟨G, e⟩ := h.pre 0
  rw [<- e]
  rfl
theorem Few.closed (h : Few L sx g0 N) {g : γ} (hg : g ∈ dL' L sx g0 N) {c : Nat} (hc : c ∈ L) : sx g c ∈ dL' L sx g0 N := by
  obtain ⟨j, hj, e⟩ := List.getElem_of_mem hg
  have e1 : (dL' L sx g0 N)[j]? = some g := by rw [List.getElem?_eq_getElem hj, e]
  have := sC' (h.get e1)
  exact (h.pre (j + 1)).subset (by rw [this]; exact dn'.mpr (.inr (List.mem_map.mpr ⟨c, hc, rfl⟩)))
theorem Few.mono {N' : Nat} (h : Few L sx g0 N) (hn : N <= N') : Few L sx g0 N' := fun l a b => Nat.le_trans (h l a b) hn
theorem ux' {F : List γ} {g : γ} (h : g ∈ F) : ixo F g < F.length := List.idxOf_lt_length_iff.mpr h
theorem rb' {F : List γ} {g : γ} (h : g ∈ F) : F[ixo F g]? = some g := by
  unfold ixo
  rw [List.getElem?_eq_getElem (List.idxOf_lt_length_iff.mpr h), List.getElem_idxOf]
theorem Few.tab (h : Few L sx g0 N) : eP' (ox' L sx (dL' L sx g0 N)) (ox' L sx (dL' L sx g0 N)).length L.length := by
  refine ⟨rfl, fun r hr => ?_⟩
  obtain ⟨g, hg, rfl⟩ := List.mem_map.mp hr
  refine ⟨by simp [vO'], fun t ht => ?_⟩
  obtain ⟨c, hc, rfl⟩ := List.mem_map.mp ht
  rw [show (ox' L sx (dL' L sx g0 N)).length = (dL' L sx g0 N).length by simp [ox']]
  exact ux' (h.closed hg hc)
theorem Few.ne (h : Few L sx g0 N) : 1 <= (dL' L sx g0 N).length := by
  have := (List.getElem?_eq_some_iff.mp h.zero).1
  omega
theorem Few.run (h : Few L sx g0 N) : ∀ (z : Tx) (s : Nat) (g : γ), (∀ c ∈ z, c ∈ L) -> (dL' L sx g0 N)[s]? = some g -> (dL' L sx g0 N)[M.run L (ox' L sx (dL' L sx g0 N)) s z]? = some (q8' sx g z)
  | [], s, g, _, e => e
  | c :: z, s, g, hz, e => by
    have hc := hz c (by simp)
    have hg := List.mem_of_getElem? e
    rw [nA']
    have e1 : stp L (ox' L sx (dL' L sx g0 N)) s c = ixo (dL' L sx g0 N) (sx g c) := by
      unfold stp ox'
      rw [List.getElem?_map, e]
      show ((vO' L sx (dL' L sx g0 N) g)[L.idxOf c]?).getD 0 = _
      unfold vO'
      rw [List.getElem?_map, List.getElem?_eq_getElem (List.idxOf_lt_length_iff.mpr hc), List.getElem_idxOf]
      rfl
    rw [e1]
    exact Few.run h z _ (sx g c) (fun d hd => hz d (by simp [hd])) (rb' (h.closed hg hc))
theorem Few.says (h : Few L sx g0 N) (p : γ -> Bool) {z : Tx} (hz : ∀ c ∈ z, c ∈ L) : M.run L (ox' L sx (dL' L sx g0 N)) 0 z ∈ yA' (dL' L sx g0 N) p ↔ p (q8' sx g0 z) = true := by
  have e := h.run z 0 g0 hz h.zero
  have hl := (List.getElem?_eq_some_iff.mp e).1
  unfold yA'
  rw [List.mem_filter, e]
  simp only [List.mem_range, Option.map_some, Option.getD_some]
  exact ⟨fun q => q.2, fun q => ⟨hl, q⟩⟩
end
end M
namespace M
theorem cN' (c : Nat) : ∀ l : List Tx, (bR' [c] l).length <= (l.map List.length).sum + l.length
  | [] => by simp [bR']
  | [a] => by simp [bR']
  | a :: b :: r => by
    have ih := cN' c (b :: r)
    show (a ++ ([c] ++ bR' [c] (b :: r))).length <= _
    rw [List.length_append, List.length_append, List.length_singleton, List.map_cons, List.sum_cons, List.length_cons]
    omega
end M
namespace M
def wlt (x y : Tx) : Prop := x.length < y.length \/ (x.length = y.length /\ x < y)
def wle (x y : Tx) : Prop := x = y \/ wlt x y
section
variable {γ : Type} [DecidableEq γ] (sx : γ -> Nat -> γ)
def zl' (p : γ × Tx) (F : List (γ × Tx)) (c : Nat) : List (γ × Tx) := if sx p.1 c ∈ F.map (·.1) then F else F ++ [(sx p.1 c, p.2 ++ [c])]
variable (L : Tx) (g0 : γ)
def xw : Nat -> List (γ × Tx)
  | 0 => [(g0, [])]
  | j + 1 => match (xw j)[j]? with
    | some p => L.foldl (zl' sx p) (xw j)
    | none => xw j
variable {sx L g0}
structure XwOk (sx : γ -> Nat -> γ) (L : Tx) (g0 : γ) (j : Nat) : Prop where
  asc : (xw sx L g0 j).Pairwise (fun a b => wlt a.2 b.2)
  led : ∀ q ∈ xw sx L g0 j, (∀ c ∈ q.2, c ∈ L) /\ q.1 = q8' sx g0 q.2
  old : ∀ (i : Nat) (q : γ × Tx), (xw sx L g0 j)[i]? = some q -> q.2 = [] \/ ∃ (k : Nat) (r : γ × Tx) (c : Nat), k < j /\ (xw sx L g0 j)[k]? = some r /\ q.2 = r.2 ++ [c]
  small : ∀ (k : Nat) (r : γ × Tx), k < j -> (xw sx L g0 j)[k]? = some r -> ∀ c ∈ L, ∃ q ∈ xw sx L g0 j, q.1 = sx r.1 c /\ wle q.2 (r.2 ++ [c])
end
end M
namespace M
section
variable {X : Exc -> PSt -> Prop} {ρ : PSt}
end
end M
namespace M
section
variable {α : Type} (mul : α -> α -> α) (one : α) (S : α -> Prop)
structure Mon (l : List α) : Prop where
  cl : ∀ {a b}, S a -> S b -> S (mul a b)
  as : ∀ {a b c}, S a -> S b -> S c -> mul (mul a b) c = mul a (mul b c)
  o : S one
  l1 : ∀ {a}, S a -> mul one a = a
  r1 : ∀ {a}, S a -> mul a one = a
  fin : ∀ a, S a -> a ∈ l
def pw (a : α) : Nat -> α
  | 0 => a
  | n + 1 => mul (pw a n) a
def Idm (e : α) : Prop := mul e e = e
def Om (a e : α) : Prop := ∃ n, e = pw mul a n /\ Idm mul e
def Ker (d : α) : Prop := S d /\ ∀ y, S y -> ∃ u v, S u /\ S v /\ d = mul u (mul y v)
end
section
variable {α : Type} {mul : α -> α -> α} {one : α} {S : α -> Prop} {l : List α}
theorem Mon.pw (h : Mon mul one S l) {a : α} (ha : S a) : ∀ n, S (M.pw mul a n)
  | 0 => ha
  | n + 1 => h.cl (h.pw ha n) ha
theorem Mon.pw_add (h : Mon mul one S l) {a : α} (ha : S a) (m : Nat) : ∀ n, mul (M.pw mul a m) (M.pw mul a n) = M.pw mul a (m + n + 1)
  | 0 => rfl
  | n + 1 => by
    show mul (M.pw mul a m) (mul (M.pw mul a n) a) = mul (M.pw mul a (m + n + 1)) a
    rw [<- h.as (h.pw ha m) (h.pw ha n) ha, h.pw_add ha m n]
theorem Mon.pw_comm (h : Mon mul one S l) {a : α} (ha : S a) (m n : Nat) : mul (M.pw mul a m) (M.pw mul a n) = mul (M.pw mul a n) (M.pw mul a m) := by
  rw [h.pw_add ha, h.pw_add ha, Nat.add_comm m n]
theorem Mon.om_ex (h : Mon mul one S l) {a : α} (ha : S a) : ∃ n, n <= l.length * (l.length + 1) /\ Idm mul (M.pw mul a n) := by
  have hnd : ¬ ((List.range (l.length + 1)).map (M.pw mul a)).Nodup := fun hn => by
    have := List.Nodup.length_le_of_subset hn (l₂ := l) fun x hx => by
      obtain ⟨n, _, rfl⟩ := List.mem_map.1 hx
      exact h.fin _ (h.pw ha n)
    simp at this
    omega
  obtain ⟨i, j, hij, hj, e⟩ : ∃ i j, i < j /\ j <= l.length /\ M.pw mul a i = M.pw mul a j := by
    refine Classical.byContradiction fun hc => hnd ?_
    rw [List.nodup_iff_pairwise_ne, List.pairwise_map]
    refine List.Pairwise.imp_of_mem ?_ List.pairwise_lt_range
    intro a b ha hb hab e
    exact hc ⟨a, b, hab, by have := List.mem_range.1 hb; omega, e⟩
  have per : ∀ k, M.pw mul a (i + k + (j - i)) = M.pw mul a (i + k) := by
    intro k
    cases k with
    | zero => rw [Nat.add_zero, show i + (j - i) = j by omega, e]
    | succ k =>
      have e1 := h.pw_add ha i k
      have e2 := h.pw_add ha j k
      rw [show i + (k + 1) + (j - i) = j + k + 1 by omega, <- e2, <- e, e1]
      rfl
  have pers : ∀ k m, M.pw mul a (i + k + m * (j - i)) = M.pw mul a (i + k) := by
    intro k m
    induction m with
    | zero => rw [Nat.zero_mul, Nat.add_zero]
    | succ m ih =>
      rw [Nat.add_mul, Nat.one_mul, <- Nat.add_assoc, show i + k + m * (j - i) + (j - i) = i + (k + m * (j - i)) + (j - i) by omega, per, <- Nat.add_assoc, ih]
  have hp : 1 <= j - i := by omega
  have hge : i + 1 <= (i + 1) * (j - i) := Nat.le_mul_of_pos_right _ hp
  have hle : (i + 1) * (j - i) <= (l.length + 1) * l.length := Nat.mul_le_mul (by omega) (by omega)
  refine ⟨(i + 1) * (j - i) - 1, by rw [Nat.mul_comm l.length]; omega, ?_⟩
  show mul _ _ = _
  rw [h.pw_add ha]
  have := pers ((i + 1) * (j - i) - 1 - i) (i + 1)
  rw [show i + ((i + 1) * (j - i) - 1 - i) = (i + 1) * (j - i) - 1 by omega] at this
  rw [<- this]
  congr 1
  omega
theorem Om.s (h : Mon mul one S l) {a e : α} (ha : S a) (o : Om mul a e) : S e := by
  obtain ⟨n, rfl, _⟩ := o
  exact h.pw ha n
theorem Mon.pw_split (h : Mon mul one S l) {a : α} (ha : S a) (n : Nat) : ∃ w, S w /\ M.pw mul a n = mul a w /\ M.pw mul a n = mul w a := by
  cases n with
  | zero => exact ⟨one, h.o, (h.r1 ha).symm, (h.l1 ha).symm⟩
  | succ n =>
    refine ⟨M.pw mul a n, h.pw ha n, ?_, rfl⟩
    have := h.pw_add ha 0 n
    rw [show 0 + n + 1 = n + 1 by omega] at this
    exact this.symm
theorem Ker.mul_l (h : Mon mul one S l) {d a : α} (hd : Ker mul S d) (ha : S a) : Ker mul S (mul a d) := by
  refine ⟨h.cl ha hd.1, fun y hy => ?_⟩
  obtain ⟨u, v, hu, hv, e⟩ := hd.2 y hy
  refine ⟨mul a u, v, h.cl ha hu, hv, ?_⟩
  rw [h.as ha hu (h.cl hy hv), <- e]
theorem Ker.pw (h : Mon mul one S l) {d : α} (hd : Ker mul S d) : ∀ n, Ker mul S (M.pw mul d n)
  | 0 => hd
  | n + 1 => Ker.mul_l h hd (h.pw hd.1 n)
theorem Ker.below (h : Mon mul one S l) {e f : α} (he : Ker mul S e) (ie : Idm mul e) (sf : S f) (jf : Idm mul f) (h1 : mul e f = f) (h2 : mul f e = f) : f = e := by
  have se := he.1
  obtain ⟨u, v, su, sv, eq⟩ := he.2 f sf
  have sfv := h.cl sf sv
  have sb := h.cl sfv se
  have sa := h.cl se (h.cl su sf)
  generalize ha : mul e (mul u f) = a at *
  generalize hb : mul (mul f v) e = b at *
  have ab : mul a b = e := by
    rw [<- ha, <- hb, h.as se (h.cl su sf) (h.cl sfv se), h.as su sf (h.cl sfv se), <- h.as sf sfv se, <- h.as sf sf sv, show mul f f = f from jf, <- h.as su sfv se, <- eq, show mul e e = e from ie]
    exact ie
  have eb : mul e b = b := by rw [<- hb, <- h.as se sfv se, <- h.as se sf sv, h1]
  have fb : mul f b = b := by rw [<- hb, <- h.as sf sfv se, <- h.as sf sf sv, show mul f f = f from jf]
  have ae : mul a e = a := by rw [<- ha, h.as se (h.cl su sf) se, h.as su sf se, h2]
  have key : ∀ n, mul (M.pw mul a n) (M.pw mul b n) = e := by
    intro n
    induction n with
    | zero => exact ab
    | succ n ih =>
      have sn := h.pw sa n
      have sm := h.pw sb n
      show mul (mul (M.pw mul a n) a) (mul (M.pw mul b n) b) = e
      rw [show mul (M.pw mul b n) b = mul b (M.pw mul b n) from h.pw_comm sb n 0, h.as sn sa (h.cl sb sm), <- h.as sa sb sm, ab]
      have : mul e (M.pw mul b n) = M.pw mul b n := by
        obtain ⟨r, sr, r1, -⟩ := h.pw_split sb n
        rw [r1, <- h.as se sb sr, eb]
      rw [this]
      exact ih
  obtain ⟨m, _, hm⟩ := h.om_ex sb
  have k := key m
  have sg := h.pw sb m
  have e1 : mul e (M.pw mul b m) = e := by
    rw [<- k, h.as (h.pw sa m) sg sg, show mul (M.pw mul b m) (M.pw mul b m) = _ from hm]
  obtain ⟨r, sr, r1, -⟩ := h.pw_split sb m
  have e2 : mul e (M.pw mul b m) = M.pw mul b m := by rw [r1, <- h.as se sb sr, eb]
  have e3 : mul f (M.pw mul b m) = M.pw mul b m := by rw [r1, <- h.as sf sb sr, fb]
  rw [<- e2, e1, h2] at e3
  exact e3
theorem nD' (h : Mon mul one S l) {e x : α} (se : S e) (sx : S x) (h1 : mul e x = x) (h2 : mul x e = x) (n : Nat) : mul e (M.pw mul x n) = M.pw mul x n /\ mul (M.pw mul x n) e = M.pw mul x n := by
  obtain ⟨r, sr, r1, r2⟩ := h.pw_split sx n
  exact ⟨by rw [r1, <- h.as se sx sr, h1], by rw [r2, h.as sr sx se, h2]⟩
theorem Ker.om_grp (h : Mon mul one S l) {e a f : α} (he : Ker mul S e) (ie : Idm mul e) (sa : S a) (h1 : mul e a = a) (h2 : mul a e = a) (o : Om mul a f) : f = e := by
  have sf := Om.s h sa o
  obtain ⟨n, rfl, jf⟩ := o
  obtain ⟨f1, f2⟩ := nD' h he.1 sa h1 h2 n
  exact he.below h ie sf jf f1 f2
theorem Ker.inv (h : Mon mul one S l) {e a : α} (he : Ker mul S e) (ie : Idm mul e) (sa : S a) (h1 : mul e a = a) (h2 : mul a e = a) : ∃ b, S b /\ mul e b = b /\ mul b e = b /\ mul a b = e /\ mul b a = e := by
  obtain ⟨n, _, hn⟩ := h.om_ex sa
  have en := he.om_grp h ie sa h1 h2 ⟨n, rfl, hn⟩
  obtain ⟨w, sw, w1, w2⟩ := h.pw_split sa n
  have sew := h.cl (h.cl he.1 sw) he.1
  refine ⟨mul (mul e w) e, sew, ?_, ?_, ?_, ?_⟩
  . rw [<- h.as he.1 (h.cl he.1 sw) he.1, <- h.as he.1 he.1 sw, show mul e e = e from ie]
  . rw [h.as (h.cl he.1 sw) he.1 he.1, show mul e e = e from ie]
  . rw [<- h.as sa (h.cl he.1 sw) he.1, <- h.as sa he.1 sw, h2, <- w1, en]
    exact ie
  . rw [h.as (h.cl he.1 sw) he.1 sa, h1, h.as he.1 sw sa, <- w2, en]
    exact ie
end
end M
namespace M
section
variable {β : Type} [Mul β]
structure FM (one : β) (l : List β) : Prop where
  as : ∀ a b c : β, a * b * c = a * (b * c)
  l1 : ∀ a : β, one * a = a
  r1 : ∀ a : β, a * one = a
  fin : ∀ a : β, a ∈ l
structure Sub (one : β) (S : β -> Prop) : Prop where
  cl : ∀ {a b}, S a -> S b -> S (a * b)
  o : S one
abbrev mu : β -> β -> β := fun a b => a * b
theorem Sub.all {one : β} : Sub one (fun _ => True) := ⟨fun _ _ => trivial, trivial⟩
def je' (β : Type) [Mul β] : Prop := ∀ x y e f : β, Om mu (x * y) e -> Om mu (y * x) f -> e * (f * e) = e
structure Blk (e a b c d : β) : Prop where
  i : e * e = e
  one : e * (a * (c * e)) = e
  other : e * (b * (d * e)) = e
  both : e * (a * (b * (c * (d * e)))) ≠ e
theorem pd' {e : β} (h : e * e = e) : Om mu e e := ⟨0, rfl, h⟩
structure Un (e a : β) : Prop where
  l : e * a = a
  r : a * e = a
  ex : ∃ b, e * b = b /\ b * e = b /\ a * b = e /\ b * a = e
theorem Un.mul {one : β} {l : List β} (h : FM one l) {e a b : β} (ha : Un e a) (hb : Un e b) : Un e (a * b) := by
  obtain ⟨a', p1, p2, p3, p4⟩ := ha.ex
  obtain ⟨b', q1, q2, q3, q4⟩ := hb.ex
  refine ⟨by rw [<- h.as, ha.l], by rw [h.as, hb.r], b' * a', by rw [<- h.as, q1], by rw [h.as, p2], ?_, ?_⟩
  . rw [h.as, <- h.as b, q3, p1, p3]
  . rw [h.as, <- h.as a', p4, hb.l, q4]
theorem je'.split {one : β} {l : List β} (h : FM one l) (st : je' β) {e x y : β} (ie : e * e = e) (hx : Un e (e * (x * e))) (hy : Un e (e * (y * e))) : e * (x * (y * e)) = e * (x * e) * (e * (y * e)) := by
  obtain ⟨p', p1, p2, p3, p4⟩ := hx.ex
  obtain ⟨q', q1, q2, q3, q4⟩ := hy.ex
  have ie' : ∀ z, e * (e * z) = e * z := fun z => by rw [<- h.as, ie]
  have p1' : ∀ z, e * (p' * z) = p' * z := fun z => by rw [<- h.as, p1]
  have p2' : ∀ z, p' * (e * z) = p' * z := fun z => by rw [<- h.as, p2]
  have q1' : ∀ z, e * (q' * z) = q' * z := fun z => by rw [<- h.as, q1]
  have q2' : ∀ z, q' * (e * z) = q' * z := fun z => by rw [<- h.as, q2]
  -- g = p' x, h = y q'
  have a1 : p' * (x * e) = e := by rw [<- p2', p4]
  have a1' : ∀ z, p' * (x * (e * z)) = e * z := fun z => by
    have := congrArg (· * z) a1
    simpa only [h.as] using this
  have a2 : e * (x * p') = e := by
    have := p3
    rw [h.as, h.as, p1] at this
    exact this
  have a2' : ∀ z, e * (x * (p' * z)) = e * z := fun z => by
    have := congrArg (· * z) a2
    simpa only [h.as] using this
  have b1 : e * (y * q') = e := by
    have := q3
    rw [h.as, h.as, q1] at this
    exact this
  have b1' : ∀ z, e * (y * (q' * z)) = e * z := fun z => by
    have := congrArg (· * z) b1
    simpa only [h.as] using this
  have b2 : q' * (y * e) = e := by rw [<- q2', q4]
  have b2' : ∀ z, q' * (y * (e * z)) = e * z := fun z => by
    have := congrArg (· * z) b2
    simpa only [h.as] using this
  -- e, h g
  have gi : (p' * x) * (p' * x) = p' * x := by
    rw [h.as, <- p2', a2', p2']
  have hi : (y * q') * (y * q') = y * q' := by
    rw [h.as]
    have : q' * (y * q') = q' := by
      have := b2' q'
      rw [q1] at this
      exact this
    rw [this]
  have o1 : Om mu (e * ((y * q') * (p' * x))) (p' * x) := by
    have : e * ((y * q') * (p' * x)) = p' * x := by rw [h.as, b1', p1']
    rw [this]; exact pd' gi
  have o2 : Om mu (((y * q') * (p' * x)) * e) (y * q') := by
    have : ((y * q') * (p' * x)) * e = y * q' := by rw [h.as, h.as p', a1, h.as, q2]
    rw [this]; exact pd' hi
  have k := st _ _ _ _ o1 o2
  -- g h g = g
  have k2 : (p' * x) * (y * q') = e := by
    have := congrArg (· * e) k
    simp only [h.as, a1, q2] at this
    simpa only [h.as] using this
  have k2' : p' * (x * (y * q')) = e := by rw [<- h.as]; exact k2
  have f1 : e * (x * e) * (p' * (x * (y * (q' * (e * (y * e)))))) = e * (x * (y * e)) := by
    have : q' * (e * (y * e)) = e := q4
    rw [this, h.as, h.as, p1', a2']
  rw [<- f1]
  have f2 : p' * (x * (y * (q' * (e * (y * e))))) = e * (y * e) := by
    have := congrArg (· * (e * (y * e))) k2'
    simp only [h.as, ie'] at this
    exact this
  rw [f2]
section
variable {one : β} {l : List β} (gen : Nat -> β)
def dd (one : β) : List Nat -> β
  | [] => one
  | c :: z => gen c * dd one z
def DL (one : β) (lot : List Nat) (d : β) : Prop := ∃ z, (∀ c ∈ z, c ∈ lot) /\ d = dd gen one z
def FL (one : β) (lot : List Nat) (d : β) : Prop := ∃ z, (∀ c ∈ z, c ∈ lot) /\ (∀ c ∈ lot, c ∈ z) /\ d = dd gen one z
variable {gen}
theorem ml' (h : FM one l) (x y : List Nat) : dd gen one (x ++ y) = dd gen one x * dd gen one y := by
  induction x with
  | nil => exact (h.l1 _).symm
  | cons c x ih => show gen c * dd gen one (x ++ y) = gen c * dd gen one x * dd gen one y; rw [ih, h.as]
theorem DL.sub (h : FM one l) {lot : List Nat} : Sub one (DL gen one lot) where
  cl := by
    rintro _ _ ⟨x, hx, rfl⟩ ⟨y, hy, rfl⟩
    exact ⟨x ++ y, fun c hc => (List.mem_append.1 hc).elim (hx c) (hy c), (ml' h x y).symm⟩
  o := ⟨[], by simp, rfl⟩
theorem FL.mul (h : FM one l) {lot : List Nat} {a b c : β} (ha : DL gen one lot a) (hb : FL gen one lot b) (hc : DL gen one lot c) : FL gen one lot (a * (b * c)) := by
  obtain ⟨x, x1, rfl⟩ := ha
  obtain ⟨y, y1, y2, rfl⟩ := hb
  obtain ⟨z, z1, rfl⟩ := hc
  refine ⟨x ++ (y ++ z), fun c hc => ?_, fun c hc => ?_, by rw [ml' h, ml' h]⟩
  . simp only [List.mem_append] at hc
    rcases hc with q | q | q
    . exact x1 c q
    . exact y1 c q
    . exact z1 c q
  . simp only [List.mem_append]
    exact .inr (.inl (y2 c hc))
end
end
section
variable {β : Type} [Mul β] {one : β} {l : List β}
end
end M
namespace M
section
local macro_rules | `(tactic| walk_at "s") => `(tactic| simp (disch := first | assumption | omega | decide) only [*, ↓x_C, ↓x_V, ↓y4', ↓y0', ↓wx', ↓y3', ↓we', ↓y8', ↓pO', ↓wf', ↓s4', ↓wa', ↓wh', ↓y6', ↓wg', ↓y5', ↓y1', ↓y2', ↓x_O, ↓yY', ↓yX', ↓s5', ↓sI', ↓sX', ↓sY', ↓pC', ↓pJ', ↓wl', ↓wo', ↓mR', ↓wp', ↓sV', ↓sT', ↓wk', ↓wd', ↓wq', ↓sR', ↓sQ', ↓wm', ↓yZ', s6', ↓wv', ↓wu', ↓pM', ↓pB', ↓mP', ↓pH', ↓v9', ↓wr', ↓sW', ↓ww', ↓pL', ↓tG', u9', zv', yg', vq', yh', ↓s3', xS', xR', ↓pK', qW', xh', xg', om', vE', vD', nQ', qR', lV', nM', ↓s2', ↓mT', ↓s0', ↓pI', ↓mQ', ↓pN', ↓qu', n1', ↓tN', ↓wc', ↓sU', ↓sE', ↓sL', ↓wR', ↓wN', xH', xI', sa', r9', ↓sG', ↓pA', ↓mO', oo', vF', vH', vG', qV', xf', xe', ui', qU', gz', rv', uJ', qq', ny', nw', nx', ↓wt', ↓s1', ↓sZ', ↓pF', ↓pD', uW', ↓wW', yi', ↓mS', nV', ↓tM', rN', ↓wn', ↓sH', ↓wb', ↓yW', ↓sD', ↓sF', ↓v7', ↓yV', ↓sN', ↓jM', ↓jL', ↓sM', ↓pE', ↓pG', ↓sO', ↓y7', ↓v8', ↓wj', ↓sK', ↓wi', ↓sS', ↓sP', ↓sJ',
  ↓tK', ↓qv', ↓tO', ↓tL', ↓wS', ↓tJ', ↓wQ', ↓za', ↓wP', ↓wZ', ↓wT', ↓wY', ↓qt', ↓nz', ↓w0', ↓tI', ↓wX', ↓tH', ↓tP', ↓wV', ↓wU', ↓qr', ↓wO', ↓qs', ↓tF', ↓wM', ↓wH', ↓ti',
  wB', wG', wA', wF', rY', rU', n5', x8', vn', u8', vj', r1', vg', nW', of', n3', n4', n2', Option.map_some, Option.map_none, Option.isSome_some, Option.isSome_none, Bool.bne_true, Bool.bne_false, si', rm', rl', ro', rk', uB', rj', rn', rW', vb', r7', uZ', vl', pm', wz', s8', s7', s9', wE', tg', tf', th', pR', tc', wI', ta', tb', vQ', wD', te', td', wC', aV', gq', pP', pV', pU',
  vA', vy', vz', vx', sd', xK', x0', vc', vd', vt', x1', xV', xW', yj', vu', yk', xY', xX', xZ', beq_self_eq_true, r4', r6', mn', n6', n7', n8', n0', ya', yb', n9', oa', zo', zp', zq', zs', x4', r2', ye', vp', yd', va', pu', pv', vi', vk', i6', x6', x9', r5', aF', oq', mx', jt', nS', l2', sg', hj', List.getElem?_map, jb', uy', xO', xQ', xN', xP', px', oj', u6', u7', mm', r3', rP', xL', vr', r8', i7', oc', rO', yc', vo', yq', x3', x2', u2', u0', u1', rQ', rX', rV', rR', g1', jy', g3', g0', gZ', g2', g4', f9', g6', gb', f8', f7', ga', gc', gU', jx', gW', gT', gS', gV', gX', eI', fT', eK', eH', eG', eJ', eL', fW', gY', fY', fV', fU', fX', fZ', f3', g5', f5', f1', f0', f4', f6', xJ', vw', sc', u5', i4', u4', xU', xT', uV', uY', uU', uX', yl', ym', rT', rS', vf', vK', zu', zt', yf', zr', x5', ve', vh', nt', x7', vm', u3', xM', pS', mF', String.reduceEq, reduceIte, pQ', List.getElem?_set_self, List.getElem?_set_ne, List.set_set, rZ', yn', r0', yp', yo', chD,
  decide_true, decide_false, frz, me', vI', tn1, Int.zero_add, Bool.not_false, Bool.not_true, Bool.and_true, Bool.true_and, Bool.and_false, Bool.false_and, Bool.or_true, Bool.true_or, Bool.or_false, Bool.false_or, List.getElem?_cons_zero, List.getElem?_cons_succ, List.set_cons_zero, List.set_cons_succ, List.length_cons, List.length_nil, List.map_cons, List.map_nil, List.cons_append, List.nil_append, List.replicate_succ, List.replicate_zero, List.length_map, List.length_range, List.length_set, Int.toNat_natCast, and_self, or_true, true_or, true_and, and_true, or_self, Int.reduceToNat, Int.toNat_zero, Int.toNat_one, Int.reduceNeg, Int.reducePow, Int.reduceAdd, Int.reduceSub, Int.reduceMul, Int.reduceLT, Int.reduceLE, Nat.reduceAdd, Nat.reduceSub, Nat.reduceLT, Nat.reduceLeDiff])
local macro_rules | `(tactic| walk_at "f0") => `(tactic| (refine uj' ?_ rfl; simp only [List.map_cons, List.map_nil, List.replicate_succ, List.replicate_zero, List.cons_append, List.nil_append, Nat.reduceSub]))
local macro_rules | `(tactic| walk_at "f") => `(tactic| (walk_at "f0"; walk_at "s"))
local macro_rules | `(tactic| walk_at "l") => `(tactic| (intro env2_ he_; simp only [aF', List.set_cons_zero, List.set_cons_succ] at he_; rw [he_]; clear he_))
theorem jw' {w : W} {n : Nat} {m : Int} (h : gl' w n) (h1 : 0 < m) (h2 : m < 1606938044258990275541962092341162602522202993782792835301376) : wF (f__law_draw [.obj n, .int m] w) (fun o w' => ∃ d, o = .fz (.int d) /\ 0 <= d /\ d < m /\ gl' w' n /\ But n w w') FX := by
  obtain ⟨cells, i, b, s, c, hw, hi⟩ := h
  have hn := fK' hw
  unfold f__law_draw
  walk_at "f0"
  refine qp' (fun ρ => ∃ x w', ρ = ⟨[some (.fz (.obj n)), some (.fz (.int m)), x, none, none], w'⟩ /\ gl' w' n /\ But n w w') ?_ ?_
  . walk_at "s"
    refine do' (fun hb => ?_) (fun hb => ?_)
    . walk_at "s"
      refine do' (fun hc => ?_) (fun hc => ?_)
      . walk_at "s"
        refine bV' ?_ fun x _ hx => ?_
        . omega
        walk_at "s"
        refine do' (fun hc => ?_) (fun hc => ?_)
        . walk_at "s"
          exact ⟨_, _, rfl, ⟨cells, _, _, _, _, List.getElem?_set_self hn, by omega⟩, But.refl.set⟩
        . walk_at "s"
          exact ⟨_, _, rfl, ⟨cells, _, _, _, _, List.getElem?_set_self hn, by omega⟩, But.refl.set⟩
      . walk_at "s"
        exact ⟨_, _, rfl, ⟨cells, _, _, _, _, hw, hi⟩, But.refl⟩
    . walk_at "s"
      exact ⟨_, _, rfl, ⟨cells, _, _, _, _, hw, hi⟩, But.refl⟩
  . rintro ρ1 ⟨x, w1, rfl, ⟨cells1, i1, b1, s1, c1, hw1, hi1⟩, bt⟩
    have hn1 := fK' hw1
    walk_at "s"
    refine do' (fun hb => ?_) (fun hb => ?_)
    . walk_at "s"
      exact ⟨_, rfl, Int.emod_nonneg _ (by omega), Int.emod_lt_of_pos _ h1, ⟨cells1, _, _, _, _, List.getElem?_set_self hn1, hi1⟩, bt.set⟩
    . walk_at "s"
      exact ⟨_, rfl, Int.emod_nonneg _ (by omega), Int.emod_lt_of_pos _ h1, ⟨cells1, _, _, _, _, List.getElem?_set_self hn1, hi1⟩, bt.set⟩
theorem bp' {w : W} {n : Nat} {m : Int} (h : gl' w n) (h1 : 0 < m) (h2 : m < 1606938044258990275541962092341162602522202993782792835301376) : wF (f__law_draw [.obj n, .int m] w) (fun o w' => ∃ d : Nat, o = .fz (.int (d : Nat)) /\ (d : Int) < m /\ gl' w' n /\ But n w w') FX := by
  refine (jw' h h1 h2).mono ?_
  rintro _ w' ⟨d, rfl, h3, h4, h5, h6⟩
  exact ⟨d.toNat, by rw [Int.toNat_of_nonneg h3], by rw [Int.toNat_of_nonneg h3]; exact h4, h5, h6⟩
theorem ma' {w : W} {ns : List Int} (hl : ns.length <= 63) : wF (f__law_hand [.scr (ns.map .int)] w) (fun o w' => o = .fz (.obj w.length) /\ gl' w' w.length /\ w'.length = w.length + 1 /\ ∀ j, j < w.length -> w'[j]? = w[j]?) FX := by
  unfold f__law_hand
  walk_at "f"
  have e : cut (ns.map D.int) none (some 63) = (ns.take 63).map .int := by
    rw [px' (by decide), <- List.map_take]
    rfl
  have e2 : ns.take 63 = ns := List.take_of_length_le hl
  rw [e2] at e
  try rw [e]
  try rw [show List.take 63 (List.map D.int ns) = ns.map D.int by rw [<- List.map_take, e2]]
  refine pi' (by omega) (fun pre acc ρ => acc = pre.map (fun i => .int (if i < 0 then -i else i)) /\ ∃ x, ρ = ⟨[some (.fz (.scr (ns.map .int))), none, x], w⟩) ⟨rfl, _, rfl⟩ ?_ ?_
  . rintro pre c post acc _ e ⟨rfl, x, rfl⟩
    walk_at "s"
    exact ⟨by simp, _, rfl⟩
  . rintro acc _ ⟨rfl, x, rfl⟩
    walk_at "s"
    refine ⟨⟨ns.map (fun i => if i < 0 then -i else i), 0, 0, 1 + ns.length, 0, ?_, by decide⟩, by simp, fun j hj => ?_⟩
    . rw [List.getElem?_append_right (Nat.le_refl _), Nat.sub_self]
      rw [List.map_map]
      rfl
    . rw [List.getElem?_append_left hj]
theorem lD' {α : Type} {l f : List α} {d : Nat} {x : α} (h : l[d]? = some x) : ((l.take d ++ l.drop (d + 1)) ++ (f ++ [x])).Perm (l ++ f) := by
  obtain ⟨hd, e⟩ := List.getElem?_eq_some_iff.mp h
  have h1 : l = l.take d ++ x :: l.drop (d + 1) := by rw [<- e, List.getElem_cons_drop, List.take_append_drop]
  generalize l.take d = a at *
  generalize l.drop (d + 1) = b at *
  subst h1
  simp only [List.append_assoc, List.cons_append]
  refine List.Perm.append_left a ?_
  rw [<- List.append_assoc]
  exact List.perm_append_comm
theorem fL' {w : W} {n : Nat} {s : Tx} {m : Nat} (h : gl' w n) (hs : s.length < 1073741) (hm : m <= s.length) : wF (f__law_letters [.obj n, .str s, .int m] w) (fun o w' => ∃ r t : Tx, o = .fz (.str r) /\ r.length = m /\ (t ++ r).Perm s /\ gl' w' n /\ But n w w') FX := by
  unfold f__law_letters
  walk_at "f"
  refine cF' (fun k ρ => ∃ x y, ∃ t r : Tx, ∃ w', ρ = ⟨[some (.fz (.obj n)), some (.fz (.str s)), some (.fz (.int m)), some (.fz (.str t)), some (.fz (.str r)), x, y], w'⟩ /\ r.length = k /\ (t ++ r).Perm s /\ gl' w' n /\ But n w w') ⟨_, _, _, _, _, rfl, rfl, by simp, h, But.refl⟩ ?_ ?_
  . rintro k ρ hk ⟨x, y, t, r, w1, rfl, rfl, hp, hh, hb⟩
    have hl := hp.length_eq
    rw [List.length_append] at hl
    walk_at "s"
    refine (bp' hh (by omega) (by omega)).mono ?_
    rintro _ w2 ⟨d, rfl, h3, h4, h5⟩
    walk_at "s"
    refine bV' (by omega) fun c _ hc => ?_
    walk_at "s"
    have hl2 : (t.take d).length + (t.drop (d + 1)).length <= 16777216 := by rw [List.length_take, List.length_drop]; omega
    walk_at "s"
    refine ⟨_, _, _, _, _, rfl, by simp, ?_, h4, hb.trans h5⟩
    exact (lD' hc).trans hp
  . rintro ρ ⟨x, y, t, r, w1, rfl, e, hp, hh, hb⟩
    walk_at "s"
    exact ⟨r, t, rfl, e, hp⟩
theorem lk' (s : Tx) : (bK' s).length = s.length := List.length_mergeSort s
theorem eb' (s : Tx) : (bK' s).Perm s := List.mergeSort_perm s _
theorem nn' (s : Tx) : (bK' s).Pairwise (· <= ·) := by
  have := List.pairwise_mergeSort (le := fun a b : Nat => decide (a <= b)) (fun a b c h1 h2 => by simp at *; omega) (fun a b => by simp; omega) s
  exact this.imp (by simp)
theorem nm' {s : Tx} (h : s.Nodup) : (bK' s).Pairwise (· < ·) := by
  have h1 := nn' s
  have h2 : (bK' s).Nodup := (eb' s).nodup_iff.mpr h
  exact (h1.and h2).imp (fun h => by have := h.1; have := h.2; omega)
theorem he' {α β : Type} (f : α -> D) (g : β -> D) : ∀ (a : List α) (b : List β), b0' (a.map f) (b.map g) = (a.zip b).map fun p => .tup [f p.1, g p.2]
  | [], _ => by simp [b0']
  | _ :: _, [] => by simp [b0']
  | x :: a, y :: b => by simp [b0', he' f g a b]
theorem eO' : ∀ s : List Nat, s.Pairwise (· < ·) ↔ ∀ p ∈ s.zip (s.drop 1), p.1 < p.2
  | [] => by simp
  | [a] => by simp
  | a :: b :: r => by
    have ih := eO' (b :: r)
    simp only [List.drop_succ_cons, List.drop_zero, List.zip_cons_cons, List.mem_cons, forall_eq_or_imp] at ih ⊢
    rw [List.pairwise_cons, <- ih]
    constructor
    . rintro ⟨h1, h2⟩
      exact ⟨h1 b (by simp), h2⟩
    . rintro ⟨h1, h2⟩
      refine ⟨?_, h2⟩
      rw [List.pairwise_cons] at h2
      intro c hc
      rcases List.mem_cons.mp hc with rfl | hc
      . exact h1
      . exact Nat.lt_trans h1 (h2.1 c hc)
theorem bS' (s S : Tx) (w : W) : wF (f_is_string_of [.str s, .str S] w) (fun o w' => o = .fz (.bl (s.all fun c => decide (c ∈ S))) /\ w' = w) FX := by
  unfold f_is_string_of
  walk_at "f"
  refine gK' (fun pre ρ => ∃ x, ρ = ⟨[some (.fz (.str s)), some (.fz (.str S)), x], w⟩ /\ ∀ c ∈ pre, c ∈ S) ⟨_, rfl, by simp⟩ ?_ ?_
  . rintro pre c post _ e ⟨x, rfl, hp⟩
    walk_at "s"
    refine do' (fun h => ?_) (fun h => ?_)
    . walk_at "s"
      exact ⟨_, rfl, by simpa [or_imp, forall_and] using ⟨hp, h⟩⟩
    . walk_at "s"
      refine yT' ?_
      rw [List.all_eq_false]
      exact ⟨c, by simp, by simpa using h⟩
  . rintro _ ⟨x, rfl, hp⟩
    walk_at "s"
    refine yS' ?_
    rw [List.all_eq_true]
    exact fun c hc => by simpa using hp c hc
theorem ca' {d : D} (h : ∃ t, tyn d = some t /\ t ≠ "str") (S : Tx) (w : W) : wF (f_is_string_of [d, .str S] w) (fun o w' => o = .fz (.bl false) /\ w' = w) FX := by
  unfold f_is_string_of
  cases d <;> simp [tyn] at h
  all_goals walk_at "f"
theorem c5' (s : Tx) (w : W) : wF (f_is_ascending [.str s] w) (fun o w' => o = .fz (.bl (decide (s.Pairwise (· < ·)))) /\ w' = w) FX := by
  unfold f_is_ascending
  walk_at "f"
  rw [he']
  refine gK' (fun pre ρ => ∃ x y, ρ = ⟨[some (.fz (.str s)), x, y], w⟩ /\ ∀ p ∈ pre, p.1 < p.2) ⟨_, _, rfl, by simp⟩ ?_ ?_
  . rintro pre c post _ e ⟨x, y, rfl, hp⟩
    walk_at "s"
    refine do' (fun h => ?_) (fun h => ?_)
    . walk_at "s"
      refine ⟨_, _, rfl, ?_⟩
      have : c.1 < c.2 := by simpa [List.cons_lt_cons_iff] using h
      simp only [List.mem_append, List.mem_singleton]
      rintro p (hq | rfl)
      . exact hp p hq
      . exact this
    . walk_at "s"
      refine yT' ?_
      rw [decide_eq_false_iff_not, eO']
      intro h2
      have := h2 c (by rw [e]; simp)
      exact h (by simpa [List.cons_lt_cons_iff] using this)
  . rintro _ ⟨x, y, rfl, hp⟩
    walk_at "s"
    refine yS' ?_
    rw [decide_eq_true_iff, eO']
    exact hp
theorem dR' (s S : Tx) (w : W) : wF (f_is_choice [.str s, .str S] w) (fun o w' => o = .fz (.bl ((s.all fun c => decide (c ∈ S)) && decide (s.Pairwise (· < ·)))) /\ w' = w) FX := by
  unfold f_is_choice
  walk_at "f"
  refine (bS' s S w).mono ?_
  rintro _ _ ⟨rfl, rfl⟩
  walk_at "s"
  refine pT' (fun h => ?_) (fun h => ?_)
  . walk_at "s"
    refine (c5' s _).mono ?_
    rintro _ _ ⟨rfl, rfl⟩
    walk_at "s"
  . walk_at "s"
def ba' (lot w : Tx) : Bool := lot.all fun c => decide (c ∈ w)
theorem mc' {lot w : Tx} : ba' lot w = true ↔ ∀ c ∈ lot, c ∈ w := by
  unfold ba'
  rw [List.all_eq_true]
  exact ⟨fun h c hc => of_decide_eq_true (h c hc), fun h c hc => decide_eq_true (h c hc)⟩
theorem jv' {lot w v : Tx} (h : ba' lot w = true) (hs : ∀ c ∈ w, c ∈ v) : ba' lot v = true := by
  rw [mc'] at *
  exact fun c hc => hs c (h c hc)
theorem cO' (lot w : Tx) : ba' lot w.reverse = ba' lot w := by
  unfold ba'
  simp only [List.mem_reverse]
def c6' (lot : Tx) (s : List Tx × Tx) (c : Nat) : List Tx × Tx := if ba' lot (s.2 ++ [c]) = true then (s.1 ++ [s.2 ++ [c]], []) else (s.1, s.2 ++ [c])
def a4' (lot w : Tx) : List Tx × Tx := w.foldl (c6' lot) ([], [])
theorem cV' (lot w : Tx) (c : Nat) : a4' lot (w ++ [c]) = c6' lot (a4' lot w) c := by unfold a4'; rw [List.foldl_append]; rfl
theorem o2' {P : Tx -> Prop} (h0 : P []) (h1 : ∀ L c, P L -> P (L ++ [c])) (L : Tx) : P L := by
  have : ∀ R : Tx, P R.reverse := by
    intro R
    induction R with
    | nil => exact h0
    | cons c R ih => rw [List.reverse_cons]; exact h1 _ _ ih
  have := this L.reverse
  rwa [List.reverse_reverse] at this
structure CutOk (lot w : Tx) : Prop where
  join : (a4' lot w).1.flatten ++ (a4' lot w).2 = w
  rest : ba' lot (a4' lot w).2 = false
  pcs : ∀ p ∈ (a4' lot w).1, ba' lot p = true /\ ba' lot p.dropLast = false
  len : (a4' lot w).1.length <= w.length
theorem cU' {lot : Tx} (hl : lot ≠ []) (w : Tx) : CutOk lot w := by
  have h0 : ba' lot [] = false := by
    cases lot with
    | nil => exact absurd rfl hl
    | cons a r => simp [ba']
  refine o2' (P := CutOk lot) ⟨rfl, h0, by simp [a4'], Nat.le_refl _⟩ (fun w c ih => ?_) w
  have e := cV' lot w c
  unfold c6' at e
  by_cases h : ba' lot ((a4' lot w).2 ++ [c]) = true
  . rw [if_pos h] at e
    refine ⟨?_, ?_, ?_, ?_⟩
    . rw [e, List.flatten_append]
      simp only [List.flatten_cons, List.flatten_nil, List.append_nil]
      rw [<- List.append_assoc, ih.join]
    . rw [e]; exact h0
    . rw [e]
      intro p hp
      rcases List.mem_append.1 hp with hp | hp
      . exact ih.pcs p hp
      . rw [List.mem_singleton.1 hp]
        exact ⟨h, by rw [List.dropLast_concat]; exact ih.rest⟩
    . rw [e, List.length_append, List.length_append]
      have := ih.len
      simp only [List.length_singleton]
      omega
  . rw [if_neg h] at e
    refine ⟨?_, ?_, ?_, ?_⟩
    . rw [e, <- List.append_assoc, ih.join]
    . rw [e]; exact Bool.eq_false_iff.2 h
    . rw [e]; exact ih.pcs
    . rw [e, List.length_append]
      exact Nat.le_trans ih.len (Nat.le_add_right ..)
theorem i9' (lot w u : Tx) : (a4' lot w).1.length <= (a4' lot (w ++ u)).1.length /\ ((a4' lot (w ++ u)).1.length = (a4' lot w).1.length -> (a4' lot (w ++ u)).2 = (a4' lot w).2 ++ u) := by
  refine o2' (P := fun u => (a4' lot w).1.length <= (a4' lot (w ++ u)).1.length /\ ((a4' lot (w ++ u)).1.length = (a4' lot w).1.length -> (a4' lot (w ++ u)).2 = (a4' lot w).2 ++ u)) (by simp) (fun u c ih => ?_) u
  have e := cV' lot (w ++ u) c
  rw [List.append_assoc] at e
  unfold c6' at e
  rw [e]
  by_cases h : ba' lot ((a4' lot (w ++ u)).2 ++ [c]) = true
  . rw [if_pos h]
    refine ⟨by simp only [List.length_append, List.length_singleton]; omega, fun q => ?_⟩
    simp only [List.length_append, List.length_singleton] at q
    omega
  . rw [if_neg h]
    refine ⟨ih.1, fun q => ?_⟩
    rw [<- List.append_assoc, <- ih.2 q]
theorem oi' {lot : Tx} (hl : lot ≠ []) (w u : Tx) (hu : ba' lot u = true) : (a4' lot w).1.length + 1 <= (a4' lot (w ++ u)).1.length := by
  obtain ⟨h1, h2⟩ := i9' lot w u
  refine Classical.byContradiction fun h => ?_
  have h3 := (cU' hl (w ++ u)).rest
  rw [h2 (by omega)] at h3
  have := jv' hu (v := (a4' lot w).2 ++ u) fun c hc => by simp [hc]
  rw [h3] at this
  cases this
theorem oh' {lot : Tx} (hl : lot ≠ []) (us : List Tx) (hu : ∀ u ∈ us, ba' lot u = true) : ∀ w r : Tx, (a4' lot w).1.length + us.length <= (a4' lot (w ++ (us.flatten ++ r))).1.length := by
  induction us with
  | nil => exact fun w r => (i9' lot w _).1
  | cons u us ih =>
    intro w r
    have h1 := oi' hl w u (hu u (by simp))
    have h2 := ih (fun v hv => hu v (by simp [hv])) (w ++ u) r
    rw [List.flatten_cons, List.append_assoc, <- List.append_assoc w, List.length_cons]
    omega
theorem i8' {lot : Tx} (hl : lot ≠ []) (w : Tx) : (a4' lot w).1.length <= (a4' lot w.reverse).1.length := by
  have h := cU' hl w
  have e : w.reverse = (a4' lot w).2.reverse ++ (((a4' lot w).1.map List.reverse).reverse.flatten ++ []) := by
    have := congrArg List.reverse h.join
    rw [List.reverse_append, List.reverse_flatten] at this
    rw [List.append_nil]; exact this.symm
  have k := oh' hl ((a4' lot w).1.map List.reverse).reverse (fun u hu => by
    obtain ⟨p, hp, rfl⟩ := List.mem_map.1 (List.mem_reverse.1 hu)
    rw [cO']
    exact (h.pcs p hp).1) (a4' lot w).2.reverse []
  rw [<- e, List.length_reverse, List.length_map] at k
  omega
theorem og' {lot : Tx} (hl : lot ≠ []) (w : Tx) : (a4' lot w.reverse).1.length = (a4' lot w).1.length := by
  have h1 := i8' hl w
  have h2 := i8' hl w.reverse
  rw [List.reverse_reverse] at h2
  omega
theorem ol' {lot : Tx} (hl : lot ≠ []) (w : Tx) : (a4' lot w.reverse).2.reverse ++ ((a4' lot w.reverse).1.reverse.map List.reverse).flatten = w := by
  have := congrArg List.reverse (cU' hl w.reverse).join
  rw [List.reverse_append, List.reverse_flatten, List.reverse_reverse] at this
  rw [List.map_reverse]; exact this
theorem eM' {lot w : Tx} (hl : lot ≠ []) {p : Tx} (h : p ∈ (a4' lot w).1) : p.length <= w.length := by
  have := (cU' hl w).join
  have h2 := congrArg List.length this
  rw [List.length_append] at h2
  have h3 := (List.sublist_flatten_of_mem h).length_le
  omega
structure Hid (p : Prop) : Prop where
  out : p
theorem rx' {o : Option Nat} : (decide ((0 : Int) <= fnd o)) = o.isSome := by
  cases o with
  | none => rfl
  | some k => exact decide_eq_true (Int.natCast_nonneg k)
theorem ru' (a : Tx) (c i : Nat) : (jJ' a c i).isSome = decide (c ∈ a.drop i) := by
  unfold jJ'
  rw [Bool.eq_iff_iff, List.find?_isSome, decide_eq_true_iff]
  simp only [List.mem_range, Bool.and_eq_true, decide_eq_true_eq]
  constructor
  . rintro ⟨k, h1, h2, h3⟩
    rw [List.mem_iff_getElem?]
    exact ⟨k - i, by rw [List.getElem?_drop, show i + (k - i) = k by omega]; exact h3⟩
  . intro h
    obtain ⟨k, h⟩ := List.mem_iff_getElem?.1 h
    rw [List.getElem?_drop] at h
    have := (List.getElem?_eq_some_iff.1 h).1
    exact ⟨i + k, this, by omega, h⟩
theorem gd' {lot : Tx} {f : Nat -> Bool} {P : D -> Prop} : wD (lF' (.lst (lot.map fun c => D.bl (f c)))) P = P (.bl (lot.all f)) := by
  rw [show (lot.map fun c => D.bl (f c)) = (lot.map f).map .bl by rw [List.map_map]; rfl, vw', List.all_map]; rfl
def pcD (l : List Tx) : List D := l.map .str
theorem ch' {lot word : Tx} (hl : lot ≠ []) (h1 : lot.length <= 1000) (h2 : word.length <= 1000) (w : W) :
    wF (f_cut_pieces [.str lot, .str word] w) (fun o w' => o = .tup [.lst ((pcD (a4' lot word).1).map .fz), .fz (.str (a4' lot word).2)] /\ w' = w) FX := by
  have hp : ∀ pre c post, word = pre ++ c :: post -> (a4' lot pre).1.length <= 1000 /\ (a4' lot pre).2.length <= 1000 := fun pre c post e => by
    have h := cU' hl pre
    have h3 := congrArg List.length h.join
    have h4 := h.len
    have h5 := congrArg List.length e
    simp only [List.length_append, List.length_cons] at h3 h5
    omega
  unfold f_cut_pieces
  walk_at "f0"
  walk_at "s"
  refine gK' (fun pre ρ => ∃ x4, ρ = ⟨[some (.fz (.str lot)), some (.fz (.str word)), some (.lst ((pcD (a4' lot pre).1).map .fz)), some (.fz (.str (a4' lot pre).2)), x4, none], w⟩) ⟨_, rfl⟩ ?_ ?_
  . rintro pre c post _ e ⟨x4, rfl⟩
    obtain ⟨k1, k2⟩ := hp pre c post e
    rw [cV']
    unfold c6'
    clear hp e
    generalize (a4' lot pre).1 = F at *
    generalize (a4' lot pre).2 = q at *
    have hfl : (pcD F).length = F.length := List.length_map ..
    walk_at "s"
    refine cv' (f := fun c : Nat => D.str [c]) (cs := lot) (fun one => D.bl (decide (one ∈ q ++ [c]))) (by omega) ?_ ?_
    . intro one ho
      walk_at "s"
    walk_at "l"
    rw [gd', show (lot.all fun one => decide (one ∈ q ++ [c])) = ba' lot (q ++ [c]) from rfl]
    by_cases h : ba' lot (q ++ [c]) = true
    . rw [h]
      walk_at "s"
      exact ⟨some (.fz (.str [c])), by simp [pcD]⟩
    . have h := Bool.eq_false_iff.2 h
      rw [h]
      walk_at "s"
      exact ⟨_, rfl⟩
  . rintro _ ⟨x4, rfl⟩
    walk_at "s"
theorem fP' (lot x : Tx) (h1 : lot.length <= 1000) (w : W) : wF (f__law_is_full [.str lot, .str x] w) (fun o w' => o = .fz (.bl (ba' lot x)) /\ w' = w) FX := by
  unfold f__law_is_full
  walk_at "f0"
  walk_at "s"
  refine cv' (f := fun c : Nat => D.str [c]) (cs := lot) (fun one => D.bl (decide (one ∈ x))) (by omega) ?_ ?_
  . intro one ho
    walk_at "s"
  intro env2 he
  rw [gd', show (lot.all fun one => decide (one ∈ x)) = ba' lot x from rfl]
  exact ⟨rfl, rfl⟩
theorem da' {lot word : Tx} (hl : lot ≠ []) (h1 : lot.length <= 1000) (h2 : word.length <= 1000) (w : W) :
    wF (f__law_cut [.str lot, .str word] w) (fun o w' => o = .fz (.tup [.lst (pcD (a4' lot word).1), .str (a4' lot word).2]) /\ w' = w) FX := by
  have hp : ∀ i, (a4' lot (word.take i)).1.length <= 1000 /\ (a4' lot (word.take i)).2.length <= 1000 := fun i => by
    have h := cU' hl (word.take i)
    have h3 := congrArg List.length h.join
    have h4 := h.len
    simp only [List.length_append, List.length_take] at h3 h4
    omega
  unfold f__law_cut
  walk_at "f0"
  walk_at "s"
  refine cF' (fun i ρ => ∃ x4 s, s <= i /\ (a4' lot (word.take i)).2 = (word.take i).drop s /\ ρ = ⟨[some (.fz (.str lot)), some (.fz (.str word)), some (.lst ((pcD (a4' lot (word.take i)).1).map .fz)), some (.fz (.int (s : Nat))), x4, none], w⟩) ⟨_, 0, Nat.le_refl _, rfl, rfl⟩ ?_ ?_
  . rintro i _ hi ⟨x4, s, hs, hr, rfl⟩
    obtain ⟨k1, k2⟩ := hp i
    have hi : i < word.length := by omega
    have et : word.take (i + 1) = word.take i ++ [word[i]] := by rw [List.take_succ, List.getElem?_eq_getElem hi]; rfl
    have e2 : (word.take (i + 1)).drop s = (word.take i).drop s ++ [word[i]] := by
      rw [et, List.drop_append_of_le_length (by rw [List.length_take]; omega)]
    have ec := cV' lot (word.take i) word[i]
    rw [<- et] at ec
    unfold c6' at ec
    rw [hr, <- e2] at ec
    have hf : ∀ c : Nat, ∀ P : D -> Prop, wD (fJ' word [.str [c], .int (s : Nat), .int (1 + (i : Int))]) P = P (.int (fnd (jJ' (word.take (i + 1)) c s))) := fun c P => by
      rw [show (1 + (i : Int)) = ((i + 1 : Nat) : Int) by omega]
      exact sb' word c s (i + 1) (by omega)
    have hq : ∀ c : Nat, decide ((0 : Int) <= fnd (jJ' (word.take (i + 1)) c s)) = decide (c ∈ (word.take (i + 1)).drop s) := fun c => by rw [rx', ru']
    have hcut : cut word (some (s : Int)) (some (1 + (i : Int))) = (word.take (i + 1)).drop s := by
      have e1 : six word.length 0 (some (s : Int)) = s := by
        unfold six
        simp only [if_neg (show ¬ ((s : Nat) : Int) < 0 by omega)]
        omega
      have e3 : six word.length word.length (some (1 + (i : Int))) = i + 1 := by
        unfold six
        simp only [if_neg (show ¬ (1 + (i : Int)) < 0 by omega)]
        omega
      unfold cut
      rw [e1, e3, List.drop_take]
    have hfl : (pcD (a4' lot (word.take i)).1).length = (a4' lot (word.take i)).1.length := List.length_map ..
    have k3 : ((word.take (i + 1)).drop s).length <= 1000 := by rw [List.length_drop, List.length_take]; omega
    rw [ec]
    clear ec hr e2 et
    generalize (a4' lot (word.take i)).1 = F at *
    generalize hqq : (word.take (i + 1)).drop s = q at *
    replace hqq := Hid.mk hqq
    walk_at "s"
    refine cv' (f := fun c : Nat => D.str [c]) (cs := lot) (fun one => D.bl (decide (one ∈ q))) (by omega) ?_ ?_
    . intro c hc
      walk_at "s"
    walk_at "l"
    rw [gd', show (lot.all fun one => decide (one ∈ q)) = ba' lot q from rfl]
    by_cases h : ba' lot q = true
    . rw [h]
      walk_at "s"
      exact ⟨some (.fz (.int (1 + (i : Int)))), i + 1, Nat.le_refl _, (List.drop_eq_nil_of_le (by rw [List.length_take]; omega)).symm, by rw [show pcD (F ++ [q]) = pcD F ++ [.str q] from List.map_append .., show ((i + 1 : Nat) : Int) = 1 + (i : Int) by omega]⟩
    . have h := Bool.eq_false_iff.2 h
      rw [h]
      walk_at "s"
      exact ⟨some (.fz (.int (1 + (i : Int)))), s, by omega, hqq.out.symm, rfl⟩
  . rintro _ ⟨x4, s, hs, hr, rfl⟩
    have e0 : (((word.length : Nat) : Int) + 1 - 1).toNat = word.length := by omega
    rw [e0, List.take_length] at hr
    rw [e0, List.take_length]
    walk_at "s"
    done
def dD' (d : D) : Bool := match d with
  | .str s => (s.all fun c => decide (c ∈ abc)) && decide (s.Pairwise (· < ·)) && decide (s ≠ [])
  | _ => false
def jH' (d e : D) : Bool := match d, e with
  | .str l, .str x => x.all fun c => decide (c ∈ l)
  | _, _ => false
def bF' (d e : D) : Option String := if dD' d = true then (if jH' d e = true then none else some "NoWord") else some "NoLot"
def di' (d : D) : Prop := (∃ s : Tx, d = .str s /\ s.length <= 1000) \/ ∃ t, tyn d = some t /\ t ≠ "str"
theorem iR' {d : D} (h : ∃ t, tyn d = some t /\ t ≠ "str") : dD' d = false := by
  cases d <;> simp [tyn] at h <;> rfl
theorem lI' {d e : D} (h : ∃ t, tyn e = some t /\ t ≠ "str") : jH' d e = false := by
  cases d <;> cases e <;> simp [tyn] at h <;> rfl
theorem fQ' {d : D} (h : ∃ t, tyn d = some t /\ t ≠ "str") (S : Tx) (w : W) : wF (f_is_choice [d, .str S] w) (fun o w' => o = .fz (.bl false) /\ w' = w) FX := by
  have k := ca' h S w
  clear h
  unfold f_is_choice
  walk_at "f0"
  walk_at "s"
  refine k.mono ?_
  rintro _ _ ⟨rfl, rfl⟩
  walk_at "s"
theorem cl' {d e : D} (hd : di' d) (he : di' e) (w : W) :
    wF (f_check_pieces [d, e] w) (fun o w' => w' = w /\ bF' d e = none) (fun x w' => w' = w /\ ∃ n, bF' d e = some n /\ x = ⟨n, []⟩) := by
  rcases hd with ⟨s, rfl, hs⟩ | hd
  . have k1 := dR' s abc w
    rw [show abc = [97, 98, 99, 100, 101, 102, 103, 104, 105, 106, 107, 108, 109, 110, 111, 112, 113, 114, 115, 116, 117, 118, 119, 120, 121, 122] from rfl] at k1
    have e1 : dD' (.str s) = (((s.all fun c => decide (c ∈ abc)) && decide (s.Pairwise (· < ·))) && decide (s ≠ [])) := rfl
    rw [show abc = [97, 98, 99, 100, 101, 102, 103, 104, 105, 106, 107, 108, 109, 110, 111, 112, 113, 114, 115, 116, 117, 118, 119, 120, 121, 122] from rfl] at e1
    generalize ((s.all fun c => decide (c ∈ [97, 98, 99, 100, 101, 102, 103, 104, 105, 106, 107, 108, 109, 110, 111, 112, 113, 114, 115, 116, 117, 118, 119, 120, 121, 122])) && decide (s.Pairwise (· < ·))) = b at *
    have k2 : ∀ w, wF (f_is_string_of [e, .str s] w) (fun o w' => o = .fz (.bl (jH' (.str s) e)) /\ w' = w) FX := fun w => by
      rcases he with ⟨x, rfl, hx⟩ | he
      . exact bS' x s w
      . rw [lI' he]
        exact ca' he s w
    unfold bF'
    rw [e1]
    generalize jH' (.str s) e = b2 at *
    replace k2 := Hid.mk k2
    clear e1 hs he
    have hemp : ∀ P : D -> Prop, wD (pEq (.str s) (.str [])) P = P (.bl (!decide (s ≠ []))) := fun P => by
      rw [vu']
      by_cases h : s = [] <;> simp [h]
    generalize decide (s ≠ []) = b3 at *
    unfold f_check_pieces
    walk_at "f0"
    walk_at "s"
    refine k1.mono ?_
    rintro _ _ ⟨rfl, rfl⟩
    rename_i w
    have k3 := k2.out w
    clear k1 k2
    cases b
    . walk_at "s"
      exact ⟨_, rfl, rfl⟩
    . cases b3
      . walk_at "s"
        exact ⟨_, rfl, rfl⟩
      . walk_at "s"
        refine k3.mono ?_
        rintro _ _ ⟨rfl, rfl⟩
        clear k3
        cases b2
        . walk_at "s"
          exact ⟨_, rfl, rfl⟩
        . walk_at "s"
  . have k1 := fQ' hd abc w
    rw [show abc = [97, 98, 99, 100, 101, 102, 103, 104, 105, 106, 107, 108, 109, 110, 111, 112, 113, 114, 115, 116, 117, 118, 119, 120, 121, 122] from rfl] at k1
    have e1 : bF' d e = some "NoLot" := by unfold bF'; rw [iR' hd]; rfl
    rw [e1]
    clear e1 hd he
    unfold f_check_pieces
    walk_at "f0"
    walk_at "s"
    refine k1.mono ?_
    rintro _ _ ⟨rfl, rfl⟩
    clear k1
    walk_at "s"
    exact ⟨_, rfl, rfl⟩
theorem uI' (ds : List D) : frz (.lst (ds.map .fz)) = .lst ds := by
  show D.lst (frzs (ds.map .fz)) = _
  rw [gJ', List.map_map, show (frz ∘ O.fz) = id from rfl, List.map_id]
theorem md' (ds : List D) (d : D) : frzs [.lst (ds.map .fz), .fz d] = [.lst ds, d] := by
  show [frz (.lst (ds.map .fz)), d] = _
  rw [uI']
theorem cP' {d e : D} (h : bF' d e = none) : ∃ l x : Tx, d = .str l /\ e = .str x /\ l ≠ [] /\ (∀ c ∈ x, c ∈ l) := by
  unfold bF' at h
  split at h
  . rename_i h1
    split at h
    . rename_i h2
      cases d <;> try (cases h1; done)
      cases e <;> try (cases h2; done)
      rename_i l x
      unfold dD' at h1
      unfold jH' at h2
      simp only [Bool.and_eq_true, decide_eq_true_eq, List.all_eq_true] at h1 h2
      exact ⟨l, x, rfl, rfl, h1.2, h2⟩
    . cases h
  . cases h
theorem dv' {lot word : Tx} (h : bF' (.str lot) (.str word) = none) (h1 : lot.length <= 1000) (h2 : word.length <= 1000) (w : W) :
    wF (f_pieces [.str lot, .str word] w) (fun o w' => o = .tup [.lst ((pcD (a4' lot word).1).map .fz), .fz (.str (a4' lot word).2)] /\ w' = w) FX := by
  obtain ⟨l, x, e1, e2, hl, hx⟩ := cP' h
  cases e1
  cases e2
  have k1 := cl' (.inl ⟨lot, rfl, h1⟩) (.inl ⟨word, rfl, h2⟩) w
  have k2 := ch' hl h1 h2 w
  rw [h] at k1
  clear h
  unfold f_pieces
  walk_at "f0"
  walk_at "s"
  refine k1.monoX ?_ ?_
  . rintro _ _ ⟨rfl, -⟩
    clear k1
    walk_at "s"
  . rintro x _ ⟨-, n, e, -⟩
    cases e
theorem bW' {lot word : Tx} (h : bF' (.str lot) (.str word) = none) (h1 : lot.length <= 1000) (h2 : word.length <= 1000) (w : W) :
    wF (f_pieces_back [.str lot, .str word] w) (fun o w' => o = .fz (.tup [.str (a4' lot word.reverse).2.reverse, .lst (pcD ((a4' lot word.reverse).1.reverse.map List.reverse))]) /\ w' = w) FX := by
  obtain ⟨l, x, e1, e2, hl, hx⟩ := cP' h
  cases e1
  cases e2
  have k1 := cl' (.inl ⟨lot, rfl, h1⟩) (.inl ⟨word, rfl, h2⟩) w
  have k2 := ch' (word := word.reverse) hl h1 (by rw [List.length_reverse]; exact h2) w
  have hlen : (pcD (a4' lot word.reverse).1).reverse.length <= 1000 := by
    have := (cU' hl word.reverse).len
    rw [List.length_reverse] at *
    unfold pcD
    rw [List.length_map]
    omega
  rw [h] at k1
  clear h
  have hr : (pcD (a4' lot word.reverse).1).reverse = (a4' lot word.reverse).1.reverse.map D.str := by unfold pcD; rw [List.map_reverse]
  rw [hr, List.length_map] at hlen
  generalize a4' lot word.reverse = G at *
  unfold f_pieces_back
  walk_at "f0"
  walk_at "s"
  refine k1.monoX ?_ ?_
  . rintro _ _ ⟨rfl, -⟩
    clear k1
    walk_at "s"
    refine k2.mono ?_
    rintro _ _ ⟨rfl, rfl⟩
    clear k2
    walk_at "s"
    rw [md']
    walk_at "s"
    refine cv' (f := D.str) (cs := G.1.reverse) (fun p => D.str p.reverse) (by omega) ?_ ?_
    . intro p hp
      walk_at "s"
    walk_at "l"
    walk_at "s"
    unfold pcD
    rw [List.map_map]; rfl
  . rintro x _ ⟨-, n, e, -⟩
    cases e
theorem eF' (l : List Tx) : dats (pcD l) = true := by
  induction l with
  | nil => rfl
  | cons a l ih => show (true && dats (pcD l)) = true; rw [ih]; rfl
theorem mk' (l : List Tx) : deps (pcD l) <= 1 := by
  induction l with
  | nil => exact Nat.zero_le _
  | cons a l ih => show max (dep (.str a)) (deps (pcD l)) <= 1; exact Nat.max_le.2 ⟨Nat.zero_le _, ih⟩
theorem pt' (l : List Tx) (q : Tx) : dat (.tup [.lst (pcD l), .str q]) = true := by
  show (dats (pcD l) && (true && true)) = true
  rw [eF']; rfl
theorem pr' (l : List Tx) (q : Tx) : dat (.tup [.str q, .lst (pcD l)]) = true := by
  show (true && (dats (pcD l) && true)) = true
  rw [eF']; rfl
theorem pp' (l : List Tx) (q : Tx) : dep (.tup [.lst (pcD l), .str q]) <= 64 := by
  have := mk' l
  show max (deps (pcD l) + 1) (max 0 0) + 1 <= 64
  omega
theorem uS' (l : List Tx) (q : Tx) : dep (.tup [.str q, .lst (pcD l)]) <= 64 := by
  have := mk' l
  show max 0 (max (deps (pcD l) + 1) 0) + 1 <= 64
  omega
theorem jz' {α : Type} {l : List α} (h : l ≠ []) : cut l none (some (-1)) = l.dropLast := by
  have hl : 0 < l.length := List.length_pos_iff.mpr h
  show (l.drop 0).take ((-1 + (l.length : Int)).toNat - 0) = _
  rw [List.drop_zero, List.dropLast_eq_take]
  congr 1
  omega
theorem pw' {α : Type} {l : List α} {P : D -> Prop} : wD (mG' (.lst (l.map fun _ => D.bl false))) P = P (.bl false) := by
  rw [show (l.map fun _ => D.bl false) = (l.map fun _ => false).map .bl by rw [List.map_map]; rfl, sc']
  have : (l.map fun _ => false).any id = false := by
    rw [List.any_eq_false]
    intro x hx
    obtain ⟨_, _, rfl⟩ := List.mem_map.1 hx
    simp
  rw [this]
structure CutG (lot w : Tx) (G : List Tx × Tx) : Prop where
  join : G.1.flatten ++ G.2 = w
  rest : ba' lot G.2 = false
  pcs : ∀ p ∈ G.1, ba' lot p = true /\ ba' lot p.dropLast = false
  len : G.1.length <= w.length
theorem mo' {lot w : Tx} (h : CutOk lot w) : CutG lot w (a4' lot w) := ⟨h.join, h.rest, h.pcs, h.len⟩
theorem dP' {lot word : Tx} (h : bF' (.str lot) (.str word) = none) (h1 : lot.length <= 1000) (h2 : word.length <= 1000) (w : W) :
    wF (f__law_right [.str lot, .str word] w) (fun o w' => o = .fz (.bl true) /\ w' = w) FX := by
  obtain ⟨l, x, e1, e2, hl, hx⟩ := cP' h
  cases e1
  cases e2
  have c1 := mo' (cU' hl word)
  have c2 := mo' (cU' hl word.reverse)
  have c3 := og' hl word
  have c4 := ol' hl word
  have k1 := da' hl h1 h2
  have k2 := dv' h h1 h2
  have k3 := bW' h h1 h2
  have k4 := da' (word := word.reverse) hl h1 (by rw [List.length_reverse]; exact h2)
  have k5 := fun x => fP' lot x h1
  have hpl : ∀ p ∈ (a4' lot word).1, p.length <= 1000 := fun p hp => Nat.le_trans (eM' hl hp) h2
  generalize a4' lot word = G at *
  generalize a4' lot word.reverse = R at *
  have hB : ∀ p ∈ R.1.reverse.map List.reverse, ba' lot p = true /\ ba' lot (p.drop 1) = false := fun p hp => by
    obtain ⟨q, hq, rfl⟩ := List.mem_map.1 hp
    obtain ⟨h1, h2⟩ := c2.pcs q (List.mem_reverse.1 hq)
    refine ⟨by rw [cO']; exact h1, ?_⟩
    rw [<- cO', List.reverse_drop, List.reverse_reverse, List.length_reverse, <- List.dropLast_eq_take]
    exact h2
  have hG : ∀ p ∈ G.1, p ≠ [] /\ ba' lot p = true /\ ba' lot p.dropLast = false := fun p hp => by
    obtain ⟨h1, h2⟩ := c1.pcs p hp
    refine ⟨fun e => ?_, h1, h2⟩
    rw [e] at h1 h2
    rw [show ([] : Tx).dropLast = [] from rfl, h1] at h2
    cases h2
  have hlG : ∀ p ∈ G.1, p.length <= 1000 := hpl
  have hR2 : ba' lot R.2.reverse = false := by rw [cO']; exact c2.rest
  have hG2 := c1.rest
  have hGj := c1.join
  have hBl : (R.1.reverse.map List.reverse).length = G.1.length := by rw [List.length_map, List.length_reverse]; exact c3
  have hGl := c1.len
  have e5 : R.1.reverse.map (fun p => D.str p.reverse) = pcD (R.1.reverse.map List.reverse) := by unfold pcD; rw [List.map_map]; rfl
  have e6 : (pcD R.1).reverse = R.1.reverse.map .str := by unfold pcD; rw [List.map_reverse]
  have hRl : R.1.reverse.length <= 1000 := by rw [List.length_reverse]; omega
  generalize R.1.reverse.map List.reverse = B at *
  have dB : ∀ P : D -> Prop, wD (pNe (.tup [.str R.2.reverse, .lst (pcD B)]) (.tup [.str R.2.reverse, .lst (pcD B)])) P = P (.bl false) := fun P => i5' _ (pr' _ _) (uS' _ _)
  have dG : ∀ P : D -> Prop, wD (pNe (.tup [.lst (pcD G.1), .str G.2]) (.tup [.lst (pcD G.1), .str G.2])) P = P (.bl false) := fun P => i5' _ (pt' _ _) (pp' _ _)
  have dG' : ∀ P : D -> Prop, wD (pEq (.tup [.lst (pcD G.1), .str G.2]) (.tup [.lst (pcD G.1), .str G.2])) P = P (.bl true) := fun P => oe' _ (pt' _ _) (pp' _ _)
  have jG : ∀ P : D -> Prop, wD (dE' [] [.lst (pcD G.1)]) P = P (.str G.1.flatten) := fun P => by
    have : (G.1.map List.length).sum <= 16777216 := by
      rw [<- List.length_flatten]
      have := congrArg List.length hGj
      rw [List.length_append] at this
      omega
    unfold pcD
    rw [mm', gq' this]
  have jB : ∀ P : D -> Prop, wD (dE' [] [.lst (pcD B)]) P = P (.str B.flatten) := fun P => by
    have : (B.map List.length).sum <= 16777216 := by
      rw [<- List.length_flatten]
      have := congrArg List.length c4
      rw [List.length_append] at this
      omega
    unfold pcD
    rw [mm', gq' this]
  have nG : (pcD G.1).length = G.1.length := List.length_map ..
  have nB : (pcD B).length = G.1.length := (List.length_map ..).trans hBl
  have okG : okO (.tup [.lst ((pcD G.1).map .fz), .fz (.str G.2)]) = true := by
    show (okOs ((pcD G.1).map .fz) && (true && true)) = true
    rw [gz', eF']; rfl
  have okL : dat (.lst (pcD G.1)) = true := eF' _
  have okS : ∀ x : Tx, dat (.str x) = true := fun _ => rfl
  have hand : ∀ b : Bool, (true && b) = b := Bool.true_and
  have hL1 : G.1.flatten.length + G.2.length <= 1000 := by
    have := congrArg List.length hGj
    rw [List.length_append] at this
    omega
  have hL2 : R.2.reverse.length + B.flatten.length <= 1000 := by
    have := congrArg List.length c4
    rw [List.length_append] at this
    omega
  have hL3 : R.2.length + B.flatten.length <= 1000 := by rw [List.length_reverse] at hL2; exact hL2
  have okB : dat (.tup [.str R.2.reverse, .lst (pcD B)]) = true := pr' _ _
  have fzG : frzs [.lst ((pcD G.1).map .fz), .fz (.str G.2)] = [.lst (pcD G.1), .str G.2] := md' _ _
  replace hB := Hid.mk hB
  replace hG := Hid.mk hG
  replace hlG := Hid.mk hlG
  unfold f__law_right
  walk_at "f0"
  clear c1 c2 c3 hl hx h
  walk_at "s"
  refine (k1 w).mono ?_
  rintro _ _ ⟨rfl, rfl⟩
  rename_i w
  walk_at "s"
  refine (k2 w).mono ?_
  rintro _ _ ⟨rfl, rfl⟩
  rename_i w
  walk_at "s"
  refine (k3 w).mono ?_
  rintro _ _ ⟨rfl, rfl⟩
  rename_i w
  walk_at "s"
  refine (k4 w).mono ?_
  rintro _ _ ⟨rfl, rfl⟩
  rename_i w
  walk_at "s"
  refine cv' (f := D.str) (cs := R.1.reverse) (fun p => D.str p.reverse) (by omega) ?_ ?_
  . intro p hp
    walk_at "s"
  walk_at "l"
  walk_at "s"
  have f1 := k5 G.2 []
  have f2 := k5 R.2.reverse []
  rw [hG2] at f1
  rw [hR2] at f2
  replace k5 := Hid.mk k5
  refine f1.mono ?_
  rintro _ _ ⟨rfl, e⟩
  cases e
  walk_at "s"
  refine f2.mono ?_
  rintro _ _ ⟨rfl, e⟩
  cases e
  clear f1 f2
  walk_at "s"
  refine cv' (f := D.str) (cs := G.1) (fun _ => D.bl false) (by omega) ?_ ?_
  . intro p hp
    obtain ⟨g1, g2, g3⟩ := hG.out p hp
    have gl := hlG.out p hp
    have f1 := k5.out p
    have f2 := k5.out p.dropLast
    rw [g2] at f1
    rw [g3] at f2
    have gc := jz' g1
    clear k1 k2 k3 k4 dB dG dG' jG jB
    walk_at "s"
    refine (f1 _).mono ?_
    rintro _ _ ⟨rfl, rfl⟩
    walk_at "s"
    refine (f2 _).mono ?_
    rintro _ _ ⟨rfl, rfl⟩
    walk_at "s"
  intro env2 he
  rw [pw']
  walk_at "s"
  refine cv' (f := D.str) (cs := B) (fun _ => D.bl false) (by omega) ?_ ?_
  . intro p hp
    obtain ⟨g2, g3⟩ := hB.out p hp
    have f1 := k5.out p
    have f2 := k5.out (p.drop 1)
    rw [g2] at f1
    rw [g3] at f2
    clear k1 k2 k3 k4 dB dG dG' jG jB
    walk_at "s"
    refine (f1 _).mono ?_
    rintro _ _ ⟨rfl, rfl⟩
    walk_at "s"
    refine (f2 _).mono ?_
    rintro _ _ ⟨rfl, rfl⟩
    walk_at "s"
  walk_at "l"
  rw [pw']
  walk_at "s"
  rw [tQ' (os := [.lst ((pcD G.1).map .fz), .fz (.str G.2)]) (ys := (pcD G.1).map .fz) rfl rfl (by rw [List.length_map]; omega)]
  walk_at "s"
  refine (k2 w).mono ?_
  rintro _ _ ⟨rfl, rfl⟩
  walk_at "s"
theorem jo' {d e : D} (hd : di' d) (he : di' e) (w : W) :
    wF (f_pieces [d, e] w) (fun o w' => w' = w /\ bF' d e = none) (fun x w' => w' = w /\ ∃ n, bF' d e = some n /\ x = ⟨n, []⟩) := by
  cases h : bF' d e with
  | none =>
    obtain ⟨l, x, rfl, rfl, hl, hx⟩ := cP' h
    have h1 : l.length <= 1000 := by
      rcases hd with ⟨s, e, h⟩ | ⟨t, e, h⟩
      . cases e; exact h
      . cases e; exact absurd rfl h
    have h2 : x.length <= 1000 := by
      rcases he with ⟨s, e, h⟩ | ⟨t, e, h⟩
      . cases e; exact h
      . cases e; exact absurd rfl h
    exact (dv' h h1 h2 w).monoX (fun o w' h => ⟨h.2, rfl⟩) (fun _ _ h => h.elim)
  | some n =>
    have k := cl' hd he w
    rw [h] at k
    unfold f_pieces
    clear hd he h
    walk_at "f0"
    walk_at "s"
    refine k.monoX ?_ ?_
    . rintro _ _ ⟨-, e⟩
      cases e
    . rintro x w' h
      exact h
theorem dw' {d e : D} (hd : di' d) (he : di' e) (w : W) :
    wF (f_pieces_back [d, e] w) (fun o w' => w' = w /\ bF' d e = none) (fun x w' => w' = w /\ ∃ n, bF' d e = some n /\ x = ⟨n, []⟩) := by
  cases h : bF' d e with
  | none =>
    obtain ⟨l, x, rfl, rfl, hl, hx⟩ := cP' h
    have h1 : l.length <= 1000 := by
      rcases hd with ⟨s, e, h⟩ | ⟨t, e, h⟩
      . cases e; exact h
      . cases e; exact absurd rfl h
    have h2 : x.length <= 1000 := by
      rcases he with ⟨s, e, h⟩ | ⟨t, e, h⟩
      . cases e; exact h
      . cases e; exact absurd rfl h
    exact (bW' h h1 h2 w).monoX (fun o w' h => ⟨h.2, rfl⟩) (fun _ _ h => h.elim)
  | some n =>
    have k := cl' hd he w
    rw [h] at k
    unfold f_pieces_back
    clear hd he h
    walk_at "f0"
    walk_at "s"
    refine k.monoX ?_ ?_
    . rintro _ _ ⟨-, e⟩
      cases e
    . rintro x w' h
      exact h
def cp' (d e : D) : Tx := if dD' d = true then (if jH' d e = true then [110, 111, 110, 101] else [119, 111, 114, 100]) else [108, 111, 116]
theorem qh' {d e : D} {n : String} (h : bF' d e = some n) : (n = "NoLot" /\ cp' d e = [108, 111, 116]) \/ (n = "NoWord" /\ cp' d e = [119, 111, 114, 100]) := by
  unfold bF' at h
  unfold cp'
  cases h1 : dD' d
  . rw [h1] at h
    cases h
    exact .inl ⟨rfl, rfl⟩
  . rw [h1] at h
    cases h2 : jH' d e
    . rw [h2] at h
      cases h
      exact .inr ⟨rfl, rfl⟩
    . rw [h2] at h
      cases h
theorem qi' {d e : D} (h : bF' d e = none) : cp' d e = [110, 111, 110, 101] := by
  unfold bF' at h
  unfold cp'
  cases h1 : dD' d
  . rw [h1] at h
    cases h
  . rw [h1] at h
    cases h2 : jH' d e
    . rw [h2] at h
      cases h
    . rfl
theorem bY' {d e : D} (hd : di' d) (he : di' e) (i : Nat) (w : W) :
    wF (f__law_refused [.int (i : Nat), d, e] w) (fun o w' => o = .fz (.str (cp' d e)) /\ w' = w) FX := by
  have k1 := jo' hd he w
  have k2 := dw' hd he w
  have q1 := @qh' d e
  have q2 := @qi' d e
  replace q1 := Hid.mk @q1
  replace q2 := Hid.mk q2
  unfold f__law_refused
  clear hd he
  walk_at "f0"
  by_cases h : i = 0
  . have h0 : decide (((i : Nat) : Int) = 0) = true := decide_eq_true (by omega)
    clear k2
    walk_at "s"
    refine k1.monoX ?_ ?_
    . rintro _ _ ⟨rfl, h⟩
      clear k1
      rw [q2.out h]
      walk_at "s"
    . rintro x _ ⟨rfl, n, h, rfl⟩
      clear k1
      rcases q1.out h with ⟨rfl, e⟩ | ⟨rfl, e⟩
      . rw [e]
        walk_at "s"
        rw [show sub exT "NoLot" "NoLot" = some true by decide]
        walk_at "s"
      . rw [e]
        walk_at "s"
        rw [show sub exT "NoWord" "NoLot" = some false by decide]
        walk_at "s"
        rw [show sub exT "NoWord" "NoWord" = some true by decide]
        walk_at "s"
  . have h0 : decide (((i : Nat) : Int) = 0) = false := decide_eq_false (by omega)
    clear k1
    walk_at "s"
    refine k2.monoX ?_ ?_
    . rintro _ _ ⟨rfl, h⟩
      clear k2
      rw [q2.out h]
      walk_at "s"
    . rintro x _ ⟨rfl, n, h, rfl⟩
      clear k2
      rcases q1.out h with ⟨rfl, e⟩ | ⟨rfl, e⟩
      . rw [e]
        walk_at "s"
        rw [show sub exT "NoLot" "NoLot" = some true by decide]
        walk_at "s"
      . rw [e]
        walk_at "s"
        rw [show sub exT "NoWord" "NoLot" = some false by decide]
        walk_at "s"
        rw [show sub exT "NoWord" "NoWord" = some true by decide]
        walk_at "s"
theorem lR' (c : Nat) : c ∈ abc ↔ 97 <= c /\ c <= 122 := by
  unfold abc
  simp only [List.mem_cons, List.not_mem_nil, or_false]
  omega
theorem sh' (s : Tx) : ((List.range (s.length - 1)).any fun k => decide (s.getD (k + 1) 0 <= s.getD k 0)) = !decide (s.Pairwise (· < ·)) := by
  rw [Bool.eq_iff_iff, List.any_eq_true, Bool.not_eq_true', decide_eq_false_iff_not, eO']
  constructor
  . rintro ⟨k, hk, h⟩ q
    have hk := List.mem_range.1 hk
    have h := of_decide_eq_true h
    have e1 : s[k]? = some s[k] := List.getElem?_eq_getElem (by omega)
    have e2 : s[k + 1]? = some s[k + 1] := List.getElem?_eq_getElem (by omega)
    rw [List.getD_eq_getElem?_getD, List.getD_eq_getElem?_getD, e1, e2] at h
    have := q (s[k], s[k + 1]) (List.mem_iff_getElem?.2 ⟨k, by
      rw [List.getElem?_zip_eq_some]
      exact ⟨e1, by rw [List.getElem?_drop, Nat.add_comm]; exact e2⟩⟩)
    have this : s[k] < s[k + 1] := this
    have h : s[k + 1] <= s[k] := h
    omega
  . intro q
    refine Classical.byContradiction fun hn => q fun p hp => ?_
    obtain ⟨k, hk⟩ := List.mem_iff_getElem?.1 hp
    rw [List.getElem?_zip_eq_some, List.getElem?_drop, Nat.add_comm 1 k] at hk
    obtain ⟨h1, h2⟩ := hk
    have hl := (List.getElem?_eq_some_iff.1 h2).1
    refine Classical.byContradiction fun hc => hn ⟨k, List.mem_range.2 (by omega), decide_eq_true ?_⟩
    rw [List.getD_eq_getElem?_getD, List.getD_eq_getElem?_getD, h1, h2]
    show p.2 <= p.1
    omega
theorem vv' {α : Type} {l : List α} {f : α -> Bool} {P : D -> Prop} : wD (mG' (.lst (l.map fun c => D.bl (f c)))) P = P (.bl (l.any f)) := by
  rw [show (l.map fun c => D.bl (f c)) = (l.map f).map .bl by rw [List.map_map]; rfl, sc', List.any_map]; rfl
theorem cw' {d e : D} (hd : di' d) (he : di' e) (w : W) :
    wF (f__law_first [d, e] w) (fun o w' => o = .fz (.str (cp' d e)) /\ w' = w) FX := by
  unfold f__law_first
  rcases hd with ⟨s, rfl, hs⟩ | ⟨t, hd, hne⟩
  . have hT : cp' (.str s) e = if dD' (.str s) = true then (if jH' (.str s) e = true then [110, 111, 110, 101] else [119, 111, 114, 100]) else [108, 111, 116] := rfl
    have hA : ∀ c : Nat, ∀ P : D -> Prop, wD (pLe (.str [97]) (.str [c])) P = P (.bl (decide (97 <= c))) := fun c P => by
      rw [r2']
      congr 2
      by_cases h : 97 <= c <;> simp [h, List.cons_lt_cons_iff] <;> omega
    have hZ : ∀ c : Nat, ∀ P : D -> Prop, wD (pLe (.str [c]) (.str [122])) P = P (.bl (decide (c <= 122))) := fun c P => by
      rw [r2']
      congr 2
      by_cases h : c <= 122 <;> simp [h, List.cons_lt_cons_iff] <;> omega
    rw [hT]
    walk_at "f0"
    by_cases h0 : s = []
    . have : dD' (.str s) = false := by rw [h0]; rfl
      rw [this, if_neg (by simp)]
      have h0 : decide (s = []) = true := decide_eq_true h0
      walk_at "s"
    have e1 : dD' (.str s) = ((s.all fun c => decide (97 <= c /\ c <= 122)) && decide (s.Pairwise (· < ·))) := by
      show (((s.all fun c => decide (c ∈ abc)) && decide (s.Pairwise (· < ·))) && decide (s ≠ [])) = _
      rw [decide_eq_true h0, Bool.and_true]
      congr 2
      funext c
      congr 1
      exact propext (lR' c)
    have h0 : decide (s = []) = false := decide_eq_false h0
    rw [e1]
    walk_at "s"
    refine cv' (f := fun c : Nat => D.str [c]) (cs := s) (fun c => D.bl (decide (97 <= c /\ c <= 122))) (by omega) ?_ ?_
    . intro c hc
      by_cases q1 : 97 <= c
      . have q2 : decide (97 <= c) = true := decide_eq_true q1
        have q3 : decide (97 <= c /\ c <= 122) = decide (c <= 122) := by simp [q1]
        rw [q3]
        clear q1 q3
        walk_at "s"
      . have q2 : decide (97 <= c) = false := decide_eq_false q1
        have q3 : decide (97 <= c /\ c <= 122) = false := by simp [q1]
        rw [q3]
        clear q1 q3
        walk_at "s"
    walk_at "l"
    rw [gd']
    cases hb : s.all fun c => decide (97 <= c /\ c <= 122)
    . rw [Bool.false_and, if_neg (by simp)]
      walk_at "s"
    rw [Bool.true_and]
    have hany := sh' s
    walk_at "s"
    rw [show rgI 0 (((s.length : Nat) : Int) - 1).toNat = (List.range (s.length - 1)).map (fun k : Nat => D.int (k : Nat)) by
      rw [show (((s.length : Nat) : Int) - 1).toNat = s.length - 1 by omega]
      unfold rgI
      exact List.map_congr_left fun k _ => by rw [Int.zero_add]]
    refine cv' (f := fun k : Nat => D.int (k : Nat)) (cs := List.range (s.length - 1)) (fun k => D.bl (decide (s.getD (k + 1) 0 <= s.getD k 0))) (by rw [List.length_range]; omega) ?_ ?_
    . intro k hk
      have hk := List.mem_range.1 hk
      have g1 : s[k]? = some s[k] := List.getElem?_eq_getElem (by omega)
      have g2 : s[k + 1]? = some s[k + 1] := List.getElem?_eq_getElem (by omega)
      rw [List.getD_eq_getElem?_getD, List.getD_eq_getElem?_getD, g1, g2]
      have hG : ∀ P : D -> Prop, wD (pGe (.str [s[k]]) (.str [s[k + 1]])) P = P (.bl (decide (s[k + 1] <= s[k]))) := fun P => by
        rw [vp']
        congr 2
        by_cases h : s[k + 1] <= s[k] <;> simp [h, List.cons_lt_cons_iff] <;> omega
      generalize s[k] = a at *
      generalize s[k + 1] = b at *
      rw [show (some b).getD 0 = b from rfl, show (some a).getD 0 = a from rfl]
      walk_at "s"
    walk_at "l"
    rw [vv', hany]
    cases hpw : decide (s.Pairwise (· < ·))
    . rw [if_neg (by simp)]
      walk_at "s"
    rw [if_pos rfl]
    clear hany hb e1 h0 hT hA hZ hpw
    rcases he with ⟨x, rfl, hx⟩ | ⟨t, he, hne⟩
    . walk_at "s"
      refine cv' (f := fun c : Nat => D.str [c]) (cs := x) (fun c => D.bl (decide (c ∈ s))) (by omega) ?_ ?_
      . intro c hc
        walk_at "s"
      walk_at "l"
      rw [gd', show (x.all fun c => decide (c ∈ s)) = jH' (.str s) (.str x) from rfl]
      cases jH' (.str s) (.str x)
      . rw [if_neg (by simp)]
        walk_at "s"
      . rw [if_pos rfl]
        walk_at "s"
    . rw [lI' ⟨t, he, hne⟩, if_neg (by simp)]
      cases e <;> simp [tyn] at he
      all_goals (try subst he)
      all_goals (try exact absurd rfl hne)
      all_goals walk_at "s"
  . have : cp' d e = [108, 111, 116] := by unfold cp'; rw [iR' ⟨t, hd, hne⟩]; rfl
    rw [this]
    cases d <;> simp [tyn] at hd
    all_goals (try subst hd)
    all_goals (try exact absurd rfl hne)
    all_goals walk_at "f"
theorem dQ' {w : W} {n : Nat} {lot : Tx} (h : gl' w n) (hl : 1 <= lot.length) (hl2 : lot.length <= 5) :
    wF (f__law_drawn [.obj n, .str lot] w) (fun o w' => ∃ x : Tx, o = .fz (.str x) /\ x.length <= 60 /\ (∀ c ∈ x, c ∈ lot) /\ gl' w' n) FX := by
  have hlast : ∃ c, lot[lot.length - 1]? = some c := ⟨_, List.getElem?_eq_getElem (by omega)⟩
  have hfst : ∃ c, lot[0]? = some c := ⟨_, List.getElem?_eq_getElem (by omega)⟩
  unfold f__law_drawn
  walk_at "f0"
  walk_at "s"
  refine (bp' h (by omega) (by omega)).mono ?_
  rintro _ w1 ⟨way, rfl, hway, h1, -⟩
  walk_at "s"
  refine (bp' h1 (by omega) (by omega)).mono ?_
  rintro _ w2 ⟨many, rfl, hmany, h2, -⟩
  clear h h1
  walk_at "s"
  refine cF' (fun i ρ => ∃ x5 x6, ∃ x : Tx, ∃ w', ρ = ⟨[some (.fz (.obj n)), some (.fz (.str lot)), some (.fz (.int (way : Nat))), some (.fz (.int (many : Nat))), some (.fz (.str x)), x5, x6], w'⟩ /\ x.length = i /\ (∀ c ∈ x, c ∈ lot) /\ gl' w' n) ⟨_, _, [], _, rfl, rfl, by simp, h2⟩ ?_ ?_
  . rintro i _ hi ⟨x5, x6, x, w3, rfl, hx, hxl, h3⟩
    walk_at "s"
    refine (bp' h3 (by omega) (by omega)).mono ?_
    rintro _ w4 ⟨a, rfl, ha, h4, -⟩
    clear h3
    walk_at "s"
    refine bV' (by omega) fun c hc _ => ?_
    clear ha
    have hxc : ∀ c ∈ lot, ∀ a ∈ x ++ [c], a ∈ lot := fun c hc a ha => (List.mem_append.1 ha).elim (hxl a) fun h => by rw [List.mem_singleton.1 h]; exact hc
    replace hxc := Hid.mk hxc
    clear hxl
    rcases (show way = 0 \/ way = 1 \/ way = 2 \/ way = 3 by omega) with rfl | rfl | rfl | rfl
    . walk_at "s"
      exact ⟨_, _, _, _, rfl, by rw [List.length_append, hx]; rfl, hxc.out c hc, h4⟩
    . walk_at "s"
      refine (bp' h4 (by omega) (by omega)).mono ?_
      rintro _ w5 ⟨b, rfl, hb, h5, -⟩
      clear h4
      walk_at "s"
      refine do' (fun hz => ?_) (fun hz => ?_)
      . walk_at "s"
        refine bV' (by omega) fun c2 hc2 _ => ?_
        walk_at "s"
        exact ⟨_, _, _, _, rfl, by rw [List.length_append, hx]; rfl, hxc.out c2 hc2, h5⟩
      . walk_at "s"
        exact ⟨_, _, _, _, rfl, by rw [List.length_append, hx]; rfl, hxc.out c hc, h5⟩
    . have hm1 := Int.emod_lt_of_pos (i : Int) (show (0 : Int) < (lot.length : Nat) by omega)
      have hm0 := Int.emod_nonneg (i : Int) (show ((lot.length : Nat) : Int) ≠ 0 by omega)
      walk_at "s"
      refine bV' (by omega) fun c2 hc2 _ => ?_
      clear hm1 hm0
      walk_at "s"
      exact ⟨_, _, _, _, rfl, by rw [List.length_append, hx]; rfl, hxc.out c2 hc2, h4⟩
    . obtain ⟨z, hz⟩ := hlast
      have hat : ati lot (-1) = some z := by
        unfold ati ixn
        rw [if_neg (by decide), if_pos (by omega)]
        show lot[(-1 + (lot.length : Int)).toNat]? = _
        rw [show (-1 + (lot.length : Int)).toNat = lot.length - 1 by omega]
        exact hz
      have hzm : z ∈ lot := List.mem_of_getElem? hz
      clear hz
      walk_at "s"
      exact ⟨_, _, _, _, rfl, by rw [List.length_append, hx]; rfl, hxc.out z hzm, h4⟩
  . rintro _ ⟨x5, x6, x, w3, rfl, hx, hxl, h3⟩
    replace hxl := Hid.mk hxl
    walk_at "s"
    exact ⟨x, rfl, by omega, hxl.out⟩
theorem law_true (ns : List Int) (hl : ns.length <= 63) : ∃ w, f_law [.scr (ns.map .int)] [] = .ok (.fz (.bl true)) w := by
  suffices h : wF (f_law [.scr (ns.map .int)] []) (fun o _ => o = .fz (.bl true)) FX by
    obtain ⟨o, w, e, rfl⟩ := h.exi
    exact ⟨w, e⟩
  unfold f_law
  walk_at "f"
  refine (ma' hl).mono ?_
  rintro _ w1 ⟨rfl, h1, -, -⟩
  change gl' w1 0 at h1
  walk_at "s"
  refine (bp' h1 (by omega) (by omega)).mono ?_
  rintro _ w2 ⟨d, rfl, hd, h2, -⟩
  have kl := fL' (s := abc) (m := 1 + d) h2 (by decide) (by show 1 + d <= 26; omega)
  clear h1
  rw [show abc = [97, 98, 99, 100, 101, 102, 103, 104, 105, 106, 107, 108, 109, 110, 111, 112, 113, 114, 115, 116, 117, 118, 119, 120, 121, 122] from rfl, show ((1 + d : Nat) : Int) = 1 + (d : Int) by omega] at kl
  walk_at "s"
  refine kl.mono ?_
  rintro _ w3 ⟨r, t, rfl, hr, hp, h3, -⟩
  clear kl h2
  have hnd : r.Nodup := by
    have := hp.nodup_iff.mpr (by decide)
    exact (List.nodup_append.mp this).2.1
  have hasc := nm' hnd
  have habc : ∀ c ∈ bK' r, c ∈ abc := fun c hc => hp.mem_iff.mp (List.mem_append.mpr (.inr ((eb' r).mem_iff.mp hc)))
  have hlen := lk' r
  have hl26 : (bK' r).length <= 16777216 := by omega
  have hlot1 : 1 <= (bK' r).length := by omega
  have hlot2 : (bK' r).length <= 5 := by omega
  have hr64 : r.length < 64 := by omega
  walk_at "s"
  clear hr64 hr hlen hd
  generalize bK' r = lot at *
  have hok : ∀ x : Tx, (∀ c ∈ x, c ∈ lot) -> bF' (.str lot) (.str x) = none := fun x hx => by
    have h1 : dD' (.str lot) = true := by
      show (((lot.all fun c => decide (c ∈ abc)) && decide (lot.Pairwise (· < ·))) && decide (lot ≠ [])) = true
      rw [decide_eq_true hasc, decide_eq_true (List.length_pos_iff.1 hlot1), List.all_eq_true.2 fun c hc => decide_eq_true (habc c hc)]; rfl
    have h2 : jH' (.str lot) (.str x) = true := List.all_eq_true.2 fun c hc => decide_eq_true (hx c hc)
    unfold bF'
    rw [h1, h2]; rfl
  replace hok := Hid.mk hok
  clear hp hnd hasc habc
  refine cF' (fun i ρ => ∃ x4 w', ρ = ⟨[some (.fz (.scr (ns.map .int))), some (.fz (.obj 0)), some (.fz (.int (1 + (d : Int)))), some (.fz (.str lot)), x4, none, none, none, none], w'⟩ /\ gl' w' 0) ⟨_, _, rfl, h3⟩ ?_ ?_
  . rintro i _ hi ⟨x4, w4, rfl, h4⟩
    walk_at "s"
    refine (dQ' h4 hlot1 hlot2).mono ?_
    rintro _ w5 ⟨x, rfl, hx1, hx2, h5⟩
    have k := dP' (hok.out x hx2) (by omega) (by omega) w5
    clear hx2
    walk_at "s"
    refine k.mono ?_
    rintro _ _ ⟨rfl, rfl⟩
    clear k
    walk_at "s"
    exact ⟨_, _, rfl, h5⟩
  rintro _ ⟨x4, w4, rfl, h4⟩
  clear h3
  walk_at "s"
  have hO1 : ∀ y ∈ [D.non, D.int 0, D.bl true, D.str [], D.str [65], D.str [98, 97], D.str [97, 97], D.str [97, 32, 98], D.lst [D.str [97]], D.tup [D.str [97]], D.dct [] (frzs []), D.str lot, D.str lot.reverse, D.str (lot ++ [63]), D.str [lot, lot].flatten, D.lst [D.str lot]], di' y := by
    intro y hy
    simp only [List.mem_cons, List.not_mem_nil, or_false] at hy
    rcases hy with rfl | rfl | rfl | rfl | rfl | rfl | rfl | rfl | rfl | rfl | rfl | rfl | rfl | rfl | rfl | rfl
    . exact .inr ⟨_, rfl, by decide⟩
    . exact .inr ⟨_, rfl, by decide⟩
    . exact .inr ⟨_, rfl, by decide⟩
    . exact .inl ⟨_, rfl, by decide⟩
    . exact .inl ⟨_, rfl, by decide⟩
    . exact .inl ⟨_, rfl, by decide⟩
    . exact .inl ⟨_, rfl, by decide⟩
    . exact .inl ⟨_, rfl, by decide⟩
    . exact .inr ⟨_, rfl, by decide⟩
    . exact .inr ⟨_, rfl, by decide⟩
    . exact .inr ⟨_, rfl, by decide⟩
    . exact .inl ⟨_, rfl, by omega⟩
    . exact .inl ⟨_, rfl, by rw [List.length_reverse]; omega⟩
    . exact .inl ⟨_, rfl, by rw [List.length_append]; show lot.length + 1 <= 1000; omega⟩
    . exact .inl ⟨_, rfl, by simp only [List.flatten_cons, List.flatten_nil, List.length_append, List.length_nil]; omega⟩
    . exact .inr ⟨_, rfl, by decide⟩
  have hO2 : [D.non, D.int 0, D.bl true, D.str [], D.str [65], D.str [98, 97], D.str [97, 97], D.str [97, 32, 98], D.lst [D.str [97]], D.tup [D.str [97]], D.dct [] (frzs []), D.str lot, D.str lot.reverse, D.str (lot ++ [63]), D.str [lot, lot].flatten, D.lst [D.str lot]].length = 16 := rfl
  have hSl : di' (.str lot) := .inl ⟨lot, rfl, by omega⟩
  generalize [D.non, D.int 0, D.bl true, D.str [], D.str [65], D.str [98, 97], D.str [97, 97], D.str [97, 32, 98], D.lst [D.str [97]], D.tup [D.str [97]], D.dct [] (frzs []), D.str lot, D.str lot.reverse, D.str (lot ++ [63]), D.str [lot, lot].flatten, D.lst [D.str lot]] = odd at *
  replace hO1 := Hid.mk hO1
  replace hSl := Hid.mk hSl
  refine cF' (fun i ρ => ∃ x4 x6 x7 x8 w', ρ = ⟨[some (.fz (.scr (ns.map .int))), some (.fz (.obj 0)), some (.fz (.int (1 + (d : Int)))), some (.fz (.str lot)), x4, some (.fz (.lst odd)), x6, x7, x8], w'⟩ /\ gl' w' 0) ⟨_, _, _, _, _, rfl, h4⟩ ?_ ?_
  . rintro i _ hi ⟨x4, x6, x7, x8, w5, rfl, h5⟩
    clear h4
    walk_at "s"
    refine (bp' h5 (by omega) (by omega)).mono ?_
    rintro _ w6 ⟨a, rfl, ha, h6, -⟩
    clear h5
    walk_at "s"
    refine bV' (by omega) fun y hy _ => ?_
    clear ha
    walk_at "s"
    refine (bp' h6 (by omega) (by omega)).mono ?_
    rintro _ w7 ⟨b, rfl, hb, h7, -⟩
    clear h6
    walk_at "s"
    refine bV' (by omega) fun z hz _ => ?_
    clear hb
    have hy := hO1.out y hy
    have hz := hO1.out z hz
    replace hy := Hid.mk hy
    replace hz := Hid.mk hz
    walk_at "s"
    refine cF' (fun j ρ => ∃ x8 w', ρ = ⟨[some (.fz (.scr (ns.map .int))), some (.fz (.obj 0)), some (.fz (.int (1 + (d : Int)))), some (.fz (.str lot)), some (.fz (.int (i : Nat))), some (.fz (.lst odd)), some (.fz y), some (.fz z), x8], w'⟩ /\ gl' w' 0) ⟨_, _, rfl, h7⟩ ?_ ?_
    . rintro j _ hj ⟨x8, w8, rfl, h8⟩
      have k1 := bY' hy.out hz.out j
      have k2 := cw' hy.out hz.out
      have k3 := bY' hSl.out hz.out j
      have k4 := cw' hSl.out hz.out
      replace k1 := Hid.mk k1
      replace k2 := Hid.mk k2
      replace k3 := Hid.mk k3
      replace k4 := Hid.mk k4
      clear h7
      walk_at "s"
      refine (k1.out _).mono ?_
      rintro _ _ ⟨rfl, rfl⟩
      walk_at "s"
      refine (k2.out _).mono ?_
      rintro _ _ ⟨rfl, rfl⟩
      walk_at "s"
      refine (k3.out _).mono ?_
      rintro _ _ ⟨rfl, rfl⟩
      walk_at "s"
      refine (k4.out _).mono ?_
      rintro _ _ ⟨rfl, rfl⟩
      walk_at "s"
      exact ⟨_, _, rfl, h8⟩
    . rintro _ ⟨x8, w8, rfl, h8⟩
      exact ⟨_, _, _, _, _, rfl, h8⟩
  . rintro _ ⟨x4, x6, x7, x8, w5, rfl, h5⟩
    walk_at "s"
end
end M
namespace S
open PySem PySem.Spec PyProof.Rows L2
section
variable [Wd] {K : PySem.W.Frag} {mg : Str -> Option Value} {base : Heap}
theorem b7' (C : Ctx Wd.w K mg) : Og Wd.P Wd.w K mg base 1 "is_string_of" ["thing", "signs"] (spM K M.f_is_string_of) := by
  obtain ⟨fd, F⟩ := C.f_is_string_of
  exact ⟨fd, okM F b5' rfl rfl (fun cdv A outer s H E hr =>
    (ac' (bj' (cq' (fo' (fv' "str" (by decide) rfl (C.free_isinstance) (by decide +kernel) (ah' (pv 0)) (pe_bltn (v := .ty "str") rfl (C.free_str) (by decide +kernel) rfl)))) (ai' (aA' (bh' co'))) aT')
      (ac' (cH' (passes_of rfl) rfl (b3' (ah' (pv 0))) (c1' 2 b5'.nd rfl (by walk_at "1") (by walk_at "2")) (ai' (bj' (bb' lG' qX' (by rfl) (ah' (pv 2)) (ah' (pv 1))) (ai' (aA' (bh' co'))) aT')))
      (ai' (aA' (bh' co')))))), dS' F, F.kp, C.g_is_string_of⟩
theorem dA' (C : Ctx Wd.w K mg) : Og Wd.P Wd.w K mg base 1 "is_ascending" ["thing"] (spM K M.f_is_ascending) := by
  obtain ⟨fd, F⟩ := C.f_is_ascending
  exact ⟨fd, okM F bx' rfl rfl (fun cdv A outer s H E hr =>
    (ac' (cH' (passes_of rfl) rfl (ty' rfl (C.free_zip) (ah' (pv 0)) (fu' o3' pe' (ah' (pv 0)) (es' ad') gs')) (vT' (n := 2) rfl rfl rfl rfl (bH' rfl (c1' 1 bx'.nd rfl (by walk_at "1") (by walk_at "2")) (bH' rfl (c1' 2 bx'.nd rfl (by walk_at "1") (by walk_at "2")) et'))) (ai' (bj' (bb' iN' vZ' (nomark _) (ah' (pv 1)) (ah' (pv 2))) (ai' (aA' (bh' co'))) aT')))
      (ai' (aA' (bh' co'))))), dT' F, F.kp, C.g_is_ascending⟩
theorem fF' (C : Ctx Wd.w K mg) : Og Wd.P Wd.w K mg base 2 "is_choice" ["thing", "signs"] (spM K M.f_is_choice) := by
  obtain ⟨fd, F⟩ := C.f_is_choice
  exact ⟨fd, okM F fx' rfl rfl (fun cdv A outer s H E hr =>
    (ai' (aA' (bh' (tE' (cr' (ak' (b7' C) (hr.mono (by walk_at "4")) rfl (takes_of rfl rfl rfl rfl) (ab' (ah' (pv 0)) (ab' (ah' (pv 1)) aj')))) (lm' (cr' (ak' (dA' C) (hr.mono (by walk_at "4")) rfl (takes_of rfl rfl rfl rfl) (ab' (ah' (pv 0)) aj'))))))))), g8' F, F.kp, C.g_is_choice⟩
theorem cJ' (C : Ctx Wd.w K mg) : Og Wd.P Wd.w K mg base 1 "cut_pieces" ["lot", "word"] (spM K M.f_cut_pieces) := by
  obtain ⟨fd, F⟩ := C.f_cut_pieces
  exact ⟨fd, okM F aK' rfl rfl (fun cdv A outer s H E hr =>
    (ac' (ax' (i := 2) aK'.nd rfl (by walk_at "1") (o1' aj'))
      (ac' (ax' (i := 3) aK'.nd rfl (by walk_at "1") (bh' (aN' [] (by decide +kernel) (by decide +kernel))))
      (ac' (cH' (passes_of rfl) rfl (b3' (ah' (pv 1))) (c1' 4 aK'.nd rfl (by walk_at "1") (by walk_at "2")) (ac' (ax' (i := 3) aK'.nd rfl (by walk_at "1") (bh' (aY' aX' bU' (ah' (pv 3)) (ah' (pv 4)))))
      (ai' (bj' (fo' (bL' (cr_all rfl) mu' rfl (C.free_all) (by decide +kernel) (dM' (own := [("one", 5)]) rfl aK'.nd (b3' (ah' (pv 0))) (blkOk_by (own := [("one", 5)]) (N := df') (sc := defScope az') (by decide +kernel)) rfl (fun _ _ _ _ _ => (c1' 5 aK'.nd rfl (by walk_at "1") (by walk_at "2"))) (fun _ _ _ _ _ => bd') (fun _ _ _ _ _ => (ed' lH' xl' (by rfl) (ah' (pv 5)) (ah' (pv 3))))))) (ac' (o0' (pv 2) (bh' (ah' (pv 3))))
      (ai' (ax' (i := 3) aK'.nd rfl (by walk_at "1") (bh' (aN' [] (by decide +kernel) (by decide +kernel)))))) aT'))))
      (ai' (aA' (qn' (iC' (sl' (pv 2)) (iC' (sl' (pv 3)) qm'))))))))), gf' F, F.kp, C.g_cut_pieces⟩
theorem b8' (C : Ctx Wd.w K mg) : Og Wd.P Wd.w K mg base 3 "check_pieces" ["lot", "word"] (spM K M.f_check_pieces) := by
  obtain ⟨fd, F⟩ := C.f_check_pieces
  exact ⟨fd, okM F dt' rfl rfl (fun cdv A outer s H E hr =>
    (ac' (bj' (oZ' (fn' (cq' (fo' (cr' (ak' (fF' C) (hr.mono (by walk_at "4")) rfl (takes_of rfl rfl rfl rfl) (ab' (ah' (pv 0)) (ab' (y9' (qO' rfl C.c_SMALL) fun _ _ => uH' (by decide +kernel) (by decide +kernel)) aj')))))) (d9' (bb' (c8' hr.units) pf' (nomark _) (ah' (pv 0)) (aN' [] (by decide +kernel) (by decide +kernel)))))) (ai' (iA' rfl (takes_of rfl rfl rfl rfl) (iI' PySem.F.excBase_ValueError C.x_NoLot C.g_NoLot C.k_NoLot C.r_NoLot rfl))) aT')
      (ai' (bj' (cq' (fo' (cr' (ak' (b7' C) (hr.mono (by walk_at "4")) rfl (takes_of rfl rfl rfl rfl) (ab' (ah' (pv 1)) (ab' (ah' (pv 0)) aj')))))) (ai' (iA' rfl (takes_of rfl rfl rfl rfl) (iI' PySem.F.excBase_ValueError C.x_NoWord C.g_NoWord C.k_NoWord C.r_NoWord rfl))) aT')))), dU' F, F.kp, C.g_check_pieces⟩
theorem dz' (C : Ctx Wd.w K mg) : Og Wd.P Wd.w K mg base 4 "pieces" ["lot", "word"] (spM K M.f_pieces) := by
  obtain ⟨fd, F⟩ := C.f_pieces
  exact ⟨fd, okM F lo' rfl rfl (fun cdv A outer s H E hr =>
    (ac' (er' (cr' (ak' (b8' C) (hr.mono (by walk_at "4")) rfl (takes_of rfl rfl rfl rfl) (ab' (ah' (pv 0)) (ab' (ah' (pv 1)) aj')))))
      (ai' (aA' (ak' (cJ' C) (hr.mono (by walk_at "4")) rfl (takes_of rfl rfl rfl rfl) (ab' (ah' (pv 0)) (ab' (ah' (pv 1)) aj'))))))), or' F, F.kp, C.g_pieces⟩
theorem cu' (C : Ctx Wd.w K mg) : Og Wd.P Wd.w K mg base 4 "pieces_back" ["lot", "word"] (spM K M.f_pieces_back) := by
  obtain ⟨fd, F⟩ := C.f_pieces_back
  exact ⟨fd, okM F a5' rfl rfl (fun cdv A outer s H E hr =>
    (ac' (er' (cr' (ak' (b8' C) (hr.mono (by walk_at "4")) rfl (takes_of rfl rfl rfl rfl) (ab' (ah' (pv 0)) (ab' (ah' (pv 1)) aj')))))
      (ac' (lj' (cr' (ak' (cJ' C) (hr.mono (by walk_at "4")) rfl (takes_of rfl rfl rfl rfl) (ab' (ah' (pv 0)) (ab' (b4' (ah' (pv 1))) aj')))) (vT' (n := 2) rfl rfl rfl rfl (bH' rfl (c1' 2 a5'.nd rfl (by walk_at "1") (by walk_at "2")) (bH' rfl (c1' 3 a5'.nd rfl (by walk_at "1") (by walk_at "2")) et'))))
      (ai' (aA' (bh' (ec' (ab' (b4' (ah' (pv 3))) (ab' (dM' (own := [("piece", 4)]) rfl a5'.nd (tz' rfl (C.free_reversed) (ah' (pv 2))) (blkOk_by (own := [("piece", 4)]) (N := cZ') (sc := defScope av') (by decide +kernel)) rfl (fun _ _ _ _ _ => (c1' 4 a5'.nd rfl (by walk_at "1") (by walk_at "2"))) (fun _ _ _ _ _ => bd') (fun _ _ _ _ _ => (b4' (ah' (pv 4))))) aj'))))))))), eN' F, F.kp, C.g_pieces_back⟩
theorem fG' (C : Ctx Wd.w K mg) : Og Wd.P Wd.w K mg base 1 "_law_hand" ["_law_script"] (spM K M.f__law_hand) := by
  obtain ⟨fd, F⟩ := C.f__law_hand
  exact ⟨fd, okM F b6' rfl rfl (fun cdv A outer s H E hr =>
    (ac' (nl' (i := 1) (own := [("_law_cell", 2)]) rfl b6'.nd rfl rfl (sw_true (by rfl) (by rfl) (by rfl) (by decide +kernel)) (b3' (fu' o3' pe' (ah' (pv 0)) gs' (es' ad'))) (blkOk_by (own := [("_law_cell", 2)]) (N := dK') (sc := defScope aJ') (by decide +kernel)) rfl (fun _ _ _ _ _ => (c1' 2 b6'.nd rfl (by walk_at "1") (by walk_at "2"))) (fun _ _ _ _ _ => bd') (fun _ _ _ _ _ => (bL' mt' yu' rfl (C.free_abs) (by decide +kernel) (ft' bq' ge' rfl (C.free_int) (by decide +kernel) (ah' (pv 2))))))
      (ai' (aA' (tx' (ab' (ah' (pv 1)) (ab' ad' (ab' ad' (ab' (aY' aX' bU' ad' (bL' (a3' ⟨rfl, rfl⟩) dI' rfl (C.free_len) (by decide +kernel) (ah' (pv 1)))) (ab' ad' aj')))))))))), g9' F, F.kp, C.g__law_hand⟩
theorem aU' (C : Ctx Wd.w K mg) : Og Wd.P Wd.w K mg base 1 "_law_draw" ["_law_hand_here", "_law_many"] (spM K M.f__law_draw) := by
  obtain ⟨fd, F⟩ := C.f__law_draw
  exact ⟨fd, okM F bc' rfl rfl (fun cdv A outer s H E hr =>
    (ac' (bj' (oZ' (oY' (bb' (c8' hr.units) pf' (nomark _) (bP' (ah' (pv 0)) ad' (fun _ _ => rfl)) ad') (le' (bb' ug' zj' (nomark _) (bP' (ah' (pv 0)) ad' (fun _ _ => rfl)) (bL' (a3' ⟨rfl, rfl⟩) dI' rfl (C.free_len) (by decide +kernel) (bP' (ah' (pv 0)) ad' (fun _ _ => rfl))))))) (ac' (ax' (i := 2) bc'.nd rfl (by walk_at "1") (bh' (bQ' ix_seq dO' (bP' (ah' (pv 0)) ad' (fun _ _ => rfl)) (bP' (ah' (pv 0)) ad' (fun _ _ => rfl)) (fun _ _ => rfl))))
      (ac' (ds' (aY' aX' bU' (bP' (ah' (pv 0)) ad' (fun _ _ => rfl)) ad') (ah' (pv 0)) ad')
      (ac' (ds' (aY' op_mod gA' (ft' bq' ge' rfl (C.free_int) (by decide +kernel) (aY' aX' bU' (aY' aX' bU' (aY' c4' jr' (bP' (ah' (pv 0)) ad' (fun _ _ => rfl)) ad') (ah' (pv 2))) ad')) ad') (ah' (pv 0)) ad')
      (ai' (bj' (bb' iN' vZ' (nomark _) (ah' (pv 2)) (aY' op_pow xk' ad' ad')) (ai' (ds' (ah' (pv 2)) (ah' (pv 0)) ad')) aT'))))) aT')
      (ac' (bj' (bb' pc' yK' (nomark _) (bP' (ah' (pv 0)) ad' (fun _ _ => rfl)) ad') (ac' (ax' (i := 3) bc'.nd rfl (by walk_at "1") (bh' (aY' op_mod gA' (ft' bq' ge' rfl (C.free_int) (by decide +kernel) (bP' (ah' (pv 0)) ad' (fun _ _ => rfl))) (ah' (pv 1)))))
      (ac' (ds' (aY' op_fdivW iS' (bP' (ah' (pv 0)) ad' (fun _ _ => rfl)) (ah' (pv 1))) (ah' (pv 0)) ad')
      (ai' (aA' (sl' (pv 3)))))) aT')
      (ac' (ds' (aY' aX' bU' (bP' (ah' (pv 0)) ad' (fun _ _ => rfl)) ad') (ah' (pv 0)) ad')
      (ac' (ax' (i := 4) bc'.nd rfl (by walk_at "1") (bh' (aY' op_mod gA' (ft' bq' ge' rfl (C.free_int) (by decide +kernel) (aY' c4' jr' (ft' bq' ge' rfl (C.free_int) (by decide +kernel) (aY' aX' bU' (bP' (ah' (pv 0)) ad' (fun _ _ => rfl)) (aY' c4' jr' ad' (bP' (ah' (pv 0)) ad' (fun _ _ => rfl))))) ad')) ad')))
      (ac' (ax' (i := 4) bc'.nd rfl (by walk_at "1") (bh' (aY' op_mod gA' (ft' bq' ge' rfl (C.free_int) (by decide +kernel) (aY' c4' jr' (ah' (pv 4)) (aY' aX' bU' (aY' op_fdivW iS' (ah' (pv 4)) ad') ad'))) ad')))
      (ac' (ax' (i := 4) bc'.nd rfl (by walk_at "1") (bh' (aY' op_mod gA' (ft' bq' ge' rfl (C.free_int) (by decide +kernel) (aY' c4' jr' (ah' (pv 4)) (aY' aX' bU' (aY' op_fdivW iS' (ah' (pv 4)) ad') ad'))) ad')))
      (ai' (aA' (bh' (aY' op_mod gA' (ft' bq' ge' rfl (C.free_int) (by decide +kernel) (aY' op_fdivW iS' (ah' (pv 4)) ad')) (ah' (pv 1))))))))))))), ha' F, F.kp, C.g__law_draw⟩
theorem dB' (C : Ctx Wd.w K mg) : Og Wd.P Wd.w K mg base 2 "_law_letters" ["_law_hand_here", "_law_signs", "_law_many"] (spM K M.f__law_letters) := by
  obtain ⟨fd, F⟩ := C.f__law_letters
  exact ⟨fd, okM F aI' rfl rfl (fun cdv A outer s H E hr =>
    (ac' (ax' (i := 3) aI'.nd rfl (by walk_at "1") (bh' (ah' (pv 1))))
      (ac' (ax' (i := 4) aI'.nd rfl (by walk_at "1") (bh' (aN' [] (by decide +kernel) (by decide +kernel))))
      (ac' (cH' (passes_of rfl) rfl (bO' rfl (C.free_range) (ah' (pv 2))) (c1' 5 aI'.nd rfl (by walk_at "1") (by walk_at "2")) (ac' (ax' (i := 6) aI'.nd rfl (by walk_at "1") (ak' (aU' C) (hr.mono (by walk_at "4")) rfl (takes_of rfl rfl rfl rfl) (ab' (ah' (pv 0)) (ab' (bL' (a3' ⟨rfl, rfl⟩) dI' rfl (C.free_len) (by decide +kernel) (ah' (pv 3))) aj'))))
      (ac' (ax' (i := 4) aI'.nd rfl (by walk_at "1") (bh' (aY' aX' bU' (ah' (pv 4)) (bQ' ix_seq dO' (ah' (pv 3)) (ah' (pv 6)) (fun _ _ => rfl)))))
      (ai' (ax' (i := 3) aI'.nd rfl (by walk_at "1") (bh' (aY' aX' bU' (fu' o3' pe' (ah' (pv 3)) gs' (es' (ah' (pv 6)))) (fu' o3' pe' (ah' (pv 3)) (es' (aY' aX' bU' (ah' (pv 6)) ad')) gs'))))))))
      (ai' (aA' (sl' (pv 4)))))))), dW' F, F.kp, C.g__law_letters⟩
theorem dC' (C : Ctx Wd.w K mg) : Og Wd.P Wd.w K mg base 1 "_law_cut" ["_law_lot", "_law_word"] (spM K M.f__law_cut) := by
  obtain ⟨fd, F⟩ := C.f__law_cut
  exact ⟨fd, okM F a9' rfl rfl (fun cdv A outer s H E hr =>
    (ac' (ax' (i := 2) a9'.nd rfl (by walk_at "1") (o1' aj'))
      (ac' (ax' (i := 3) a9'.nd rfl (by walk_at "1") (bh' ad'))
      (ac' (cH' (passes_of rfl) rfl (ll' rfl (C.free_range) ad' (aY' aX' bU' (bL' (a3' ⟨rfl, rfl⟩) dI' rfl (C.free_len) (by decide +kernel) (ah' (pv 1))) ad')) (c1' 4 a9'.nd rfl (by walk_at "1") (by walk_at "2")) (ai' (bj' (fo' (bL' (cr_all rfl) mu' rfl (C.free_all) (by decide +kernel) (dM' (own := [("_law_letter", 5)]) rfl a9'.nd (b3' (ah' (pv 0))) (blkOk_by (own := [("_law_letter", 5)]) (N := ei') (sc := defScope aQ') (by decide +kernel)) rfl (fun _ _ _ _ _ => (c1' 5 a9'.nd rfl (by walk_at "1") (by walk_at "2"))) (fun _ _ _ _ _ => bd') (fun _ _ _ _ _ => (ed' iN' vZ' (nomark _) (nu' PySem.F.slot_str_find PySem.F.type_str_find mt_find4 q7' (ah' (pv 1)) (ab' (ah' (pv 5)) (ab' (ah' (pv 3)) (ab' (ah' (pv 4)) aj')))) ad'))))) (ac' (o0' (pv 2) (bh' (fu' o3' pe' (ah' (pv 1)) (es' (ah' (pv 3))) (es' (ah' (pv 4))))))
      (ai' (ax' (i := 3) a9'.nd rfl (by walk_at "1") (bh' (ah' (pv 4)))))) aT')))
      (ai' (aA' (bh' (ec' (ab' (ah' (pv 2)) (ab' (fu' o3' pe' (ah' (pv 1)) (es' (ah' (pv 3))) gs') aj')))))))))), jE' F, F.kp, C.g__law_cut⟩
theorem eA' (C : Ctx Wd.w K mg) : Og Wd.P Wd.w K mg base 2 "_law_drawn" ["_law_hand_here", "_law_lot"] (spM K M.f__law_drawn) := by
  obtain ⟨fd, F⟩ := C.f__law_drawn
  exact ⟨fd, okM F ay' rfl rfl (fun cdv A outer s H E hr =>
    (ac' (ax' (i := 2) ay'.nd rfl (by walk_at "1") (ak' (aU' C) (hr.mono (by walk_at "4")) rfl (takes_of rfl rfl rfl rfl) (ab' (ah' (pv 0)) (ab' ad' aj'))))
      (ac' (ax' (i := 3) ay'.nd rfl (by walk_at "1") (ak' (aU' C) (hr.mono (by walk_at "4")) rfl (takes_of rfl rfl rfl rfl) (ab' (ah' (pv 0)) (ab' ad' aj'))))
      (ac' (ax' (i := 4) ay'.nd rfl (by walk_at "1") (bh' (aN' [] (by decide +kernel) (by decide +kernel))))
      (ac' (cH' (passes_of rfl) rfl (bO' rfl (C.free_range) (ah' (pv 3))) (c1' 5 ay'.nd rfl (by walk_at "1") (by walk_at "2")) (ac' (ax' (i := 6) ay'.nd rfl (by walk_at "1") (bh' (bQ' ix_seq dO' (ah' (pv 1)) (cr' (ak' (aU' C) (hr.mono (by walk_at "4")) rfl (takes_of rfl rfl rfl rfl) (ab' (ah' (pv 0)) (ab' (bL' (a3' ⟨rfl, rfl⟩) dI' rfl (C.free_len) (by decide +kernel) (ah' (pv 1))) aj')))) (fun _ _ => rfl))))
      (ac' (bj' (oZ' (oY' (bb' (c8' hr.units) pf' (nomark _) (ah' (pv 2)) ad') (le' (bb' pc' yK' (nomark _) (cr' (ak' (aU' C) (hr.mono (by walk_at "4")) rfl (takes_of rfl rfl rfl rfl) (ab' (ah' (pv 0)) (ab' ad' aj')))) ad')))) (ai' (ax' (i := 6) ay'.nd rfl (by walk_at "1") (bh' (bQ' ix_seq dO' (ah' (pv 1)) ad' (fun _ _ => rfl))))) aT')
      (ac' (bj' (bb' (c8' hr.units) pf' (nomark _) (ah' (pv 2)) ad') (ai' (ax' (i := 6) ay'.nd rfl (by walk_at "1") (bh' (bQ' ix_seq dO' (ah' (pv 1)) (aY' op_mod gA' (ah' (pv 5)) (bL' (a3' ⟨rfl, rfl⟩) dI' rfl (C.free_len) (by decide +kernel) (ah' (pv 1)))) (fun _ _ => rfl))))) aT')
      (ac' (bj' (bb' (c8' hr.units) pf' (nomark _) (ah' (pv 2)) ad') (ai' (ax' (i := 6) ay'.nd rfl (by walk_at "1") (bh' (bQ' ix_seq dO' (ah' (pv 1)) (tB' un_neg uk' ad') (fun _ _ => rfl))))) aT')
      (ai' (ax' (i := 4) ay'.nd rfl (by walk_at "1") (bh' (aY' aX' bU' (ah' (pv 4)) (ah' (pv 6)))))))))))
      (ai' (aA' (sl' (pv 4))))))))), gi' F, F.kp, C.g__law_drawn⟩
end
end S
namespace S
open PySem PySem.Spec PyProof.Rows L2
section
variable [Wd] {K : PySem.W.Frag} {mg : Str -> Option Value} {base : Heap}
theorem aR' (C : Ctx Wd.w K mg) : Og Wd.P Wd.w K mg base 1 "_law_is_full" ["_law_lot", "_law_word"] (spM K M.f__law_is_full) := by
  obtain ⟨fd, F⟩ := C.f__law_is_full
  exact ⟨fd, okM F bz' rfl rfl (fun cdv A outer s H E hr =>
    (ai' (aA' (bh' (bL' (cr_all rfl) mu' rfl (C.free_all) (by decide +kernel) (dM' (own := [("_law_letter", 2)]) rfl bz'.nd (b3' (ah' (pv 0))) (blkOk_by (own := [("_law_letter", 2)]) (N := cy') (sc := defScope am') (by decide +kernel)) rfl (fun _ _ _ _ _ => (c1' 2 bz'.nd rfl (by walk_at "1") (by walk_at "2"))) (fun _ _ _ _ _ => bd') (fun _ _ _ _ _ => (ed' lH' xl' (by rfl) (ah' (pv 2)) (ah' (pv 1)))))))))), dX' F, F.kp, C.g__law_is_full⟩
theorem ey' (C : Ctx Wd.w K mg) : Og Wd.P Wd.w K mg base 5 "_law_right" ["_law_lot", "_law_word"] (spM K M.f__law_right) := by
  obtain ⟨fd, F⟩ := C.f__law_right
  exact ⟨fd, okM F al' rfl rfl (fun cdv A outer s H E hr =>
    (ac' (lj' (cr' (ak' (dC' C) (hr.mono (by walk_at "4")) rfl (takes_of rfl rfl rfl rfl) (ab' (ah' (pv 0)) (ab' (ah' (pv 1)) aj')))) (vT' (n := 2) rfl rfl rfl rfl (bH' rfl (c1' 2 al'.nd rfl (by walk_at "1") (by walk_at "2")) (bH' rfl (c1' 3 al'.nd rfl (by walk_at "1") (by walk_at "2")) et'))))
      (ac' (ax' (i := 4) al'.nd rfl (by walk_at "1") (ak' (dz' C) (hr.mono (by walk_at "4")) rfl (takes_of rfl rfl rfl rfl) (ab' (ah' (pv 0)) (ab' (ah' (pv 1)) aj'))))
      (ac' (ax' (i := 5) al'.nd rfl (by walk_at "1") (ak' (cu' C) (hr.mono (by walk_at "4")) rfl (takes_of rfl rfl rfl rfl) (ab' (ah' (pv 0)) (ab' (ah' (pv 1)) aj'))))
      (ac' (bj' (iz' [false, false, true, true, true, true] (oZ' (fn' (bb' (dy' hr.units) qY' (nomark _) (ah' (pv 4)) (ec' (ab' (ah' (pv 2)) (ab' (ah' (pv 3)) aj')))) (fn' (cq' (fo' (fv' "tuple" (by decide) rfl (C.free_isinstance) (by decide +kernel) (ah' (pv 4)) (pe_bltn (v := .ty "tuple") rfl (C.free_tuple) (by decide +kernel) rfl)))) (d9' (cq' (fo' (fv' "tuple" (by decide) rfl (C.free_isinstance) (by decide +kernel) (ah' (pv 5)) (pe_bltn (v := .ty "tuple") rfl (C.free_tuple) (by decide +kernel) rfl))))))))) (ai' (aA' (bh' co'))) aT')
      (ac' (lj' (cr' (ak' (dC' C) (hr.mono (by walk_at "4")) rfl (takes_of rfl rfl rfl rfl) (ab' (ah' (pv 0)) (ab' (b4' (ah' (pv 1))) aj')))) (vT' (n := 2) rfl rfl rfl rfl (bH' rfl (c1' 6 al'.nd rfl (by walk_at "1") (by walk_at "2")) (bH' rfl (c1' 7 al'.nd rfl (by walk_at "1") (by walk_at "2")) et'))))
      (ac' (bj' (bb' (dy' hr.units) qY' (nomark _) (ah' (pv 5)) (ec' (ab' (b4' (ah' (pv 7))) (ab' (dM' (own := [("_law_piece", 8)]) rfl al'.nd (b3' (b4' (ah' (pv 6)))) (blkOk_by (own := [("_law_piece", 8)]) (N := bI') (sc := defScope ao') (by decide +kernel)) rfl (fun _ _ _ _ _ => (c1' 8 al'.nd rfl (by walk_at "1") (by walk_at "2"))) (fun _ _ _ _ _ => bd') (fun _ _ _ _ _ => (b4' (ah' (pv 8))))) aj')))) (ai' (aA' (bh' co'))) aT')
      (ac' (bj' (iz' [false, true, false, false, true, true] (oZ' (fn' (bb' (dy' hr.units) qY' (nomark _) (aY' aX' bU' (nu' PySem.F.slot_str_join PySem.F.type_str_join mt_join lS' (aN' [] (by decide +kernel) (by decide +kernel)) (ab' (bQ' ix_seq dO' (ah' (pv 4)) ad' (fun _ _ => rfl)) aj')) (bQ' ix_seq dO' (ah' (pv 4)) ad' (fun _ _ => rfl))) (ah' (pv 1))) (d9' (bb' (dy' hr.units) qY' (nomark _) (aY' aX' bU' (bQ' ix_seq dO' (ah' (pv 5)) ad' (fun _ _ => rfl)) (nu' PySem.F.slot_str_join PySem.F.type_str_join mt_join lS' (aN' [] (by decide +kernel) (by decide +kernel)) (ab' (bQ' ix_seq dO' (ah' (pv 5)) ad' (fun _ _ => rfl)) aj'))) (ah' (pv 1))))))) (ai' (aA' (bh' co'))) aT')
      (ac' (bj' (iz' [true, false, false, false, true, true] (oZ' (fn' (bb' (dy' hr.units) qY' (nomark _) (bL' (a3' ⟨rfl, rfl⟩) dI' rfl (C.free_len) (by decide +kernel) (bQ' ix_seq dO' (ah' (pv 4)) ad' (fun _ _ => rfl))) (bL' (a3' ⟨rfl, rfl⟩) dI' rfl (C.free_len) (by decide +kernel) (bQ' ix_seq dO' (ah' (pv 5)) ad' (fun _ _ => rfl)))) (fn' (fo' (cr' (ak' (aR' C) (hr.mono (by walk_at "4")) rfl (takes_of rfl rfl rfl rfl) (ab' (ah' (pv 0)) (ab' (bQ' ix_seq dO' (ah' (pv 4)) ad' (fun _ _ => rfl)) aj'))))) (d9' (fo' (cr' (ak' (aR' C) (hr.mono (by walk_at "4")) rfl (takes_of rfl rfl rfl rfl) (ab' (ah' (pv 0)) (ab' (bQ' ix_seq dO' (ah' (pv 5)) ad' (fun _ _ => rfl)) aj')))))))))) (ai' (aA' (bh' co'))) aT')
      (ac' (bj' (iz' [true, false, false, false, true] (fo' (bL' (cr_any rfl) se' rfl (C.free_any) (by decide +kernel) (dM' (own := [("_law_piece", 8)]) rfl al'.nd (b3' (bQ' ix_seq dO' (ah' (pv 4)) ad' (fun _ _ => rfl))) (blkOk_by (own := [("_law_piece", 8)]) (N := bI') (sc := defScope ao') (by decide +kernel)) rfl (fun _ _ _ _ _ => (c1' 8 al'.nd rfl (by walk_at "1") (by walk_at "2"))) (fun _ _ _ _ _ => bd') (fun _ _ _ _ _ => (tC' (o4' (cr' (ak' (aR' C) (hr.mono (by walk_at "4")) rfl dl' (ab' (ah' (pv 0)) (ab' (ah' (pv 8)) aj'))))) (lm' (cr' (ak' (aR' C) (hr.mono (by walk_at "4")) rfl dl' (ab' (ah' (pv 0)) (ab' (fu' o3' pe' (ah' (pv 8)) gs' (es' (tB' un_neg uk' ad'))) aj'))))))))))) (ai' (aA' (bh' co'))) aT')
      (ac' (bj' (fo' (bL' (cr_any rfl) se' rfl (C.free_any) (by decide +kernel) (dM' (own := [("_law_piece", 8)]) rfl al'.nd (b3' (bQ' ix_seq dO' (ah' (pv 5)) ad' (fun _ _ => rfl))) (blkOk_by (own := [("_law_piece", 8)]) (N := bI') (sc := defScope ao') (by decide +kernel)) rfl (fun _ _ _ _ _ => (c1' 8 al'.nd rfl (by walk_at "1") (by walk_at "2"))) (fun _ _ _ _ _ => bd') (fun _ _ _ _ _ => (tC' (o4' (cr' (ak' (aR' C) (hr.mono (by walk_at "4")) rfl dl' (ab' (ah' (pv 0)) (ab' (ah' (pv 8)) aj'))))) (lm' (cr' (ak' (aR' C) (hr.mono (by walk_at "4")) rfl dl' (ab' (ah' (pv 0)) (ab' (fu' o3' pe' (ah' (pv 8)) (es' ad') gs') aj')))))))))) (ai' (aA' (bh' co'))) aT')
      (ac' (ql' (k := 0) (s := [120]) (pv 4) (by decide +kernel) (by decide +kernel) (fun _ _ => rfl))
      (ai' (aA' (bh' (ed' (c8' hr.units) pf' (nomark _) (cr' (ak' (dz' C) (hr.mono (by walk_at "4")) rfl (takes_of rfl rfl rfl rfl) (ab' (ah' (pv 0)) (ab' (ah' (pv 1)) aj')))) (ec' (ab' (ah' (pv 2)) (ab' (ah' (pv 3)) aj'))))))))))))))))))), gg' F, F.kp, C.g__law_right⟩
theorem b9' (C : Ctx Wd.w K mg) : Og Wd.P Wd.w K mg base 5 "_law_refused" ["_law_which", "_law_lot", "_law_word"] (spM K M.f__law_refused) := by
  obtain ⟨fd, F⟩ := C.f__law_refused
  exact ⟨fd, okM F be' rfl rfl (fun cdv A outer s H E hr =>
    (ac' (ax' (i := 3) be'.nd rfl (by walk_at "1") (bh' (aN' [110, 111, 110, 101] (by decide +kernel) (by decide +kernel))))
      (ac' (tv' rfl rfl (takes_of rfl rfl rfl rfl) (fun W_ pn_ xe_ tk_ po_ => (ai' (bj' (bb' (c8' hr.units) pf' (nomark _) (ah' (pv 0)) ad') (ai' (er' (cr' (ak' (dz' C) (hr.mono (by walk_at "4")) rfl tk_ (ab' (ah' (pv 1)) (ab' (ah' (pv 2)) aj')))))) (ai' (er' (cr' (ak' (cu' C) (hr.mono (by walk_at "4")) rfl tk_ (ab' (ah' (pv 1)) (ab' (ah' (pv 2)) aj'))))))))) (HdsM.cons ⟨rfl, by decide, Or.inl C.g_NoLot⟩ (fun _ _ e_ => lg' C.subs e_) (fun x_ a_ oe_ d_ pn_ hz_ hf_ => (ai' (ax' (i := 3) be'.nd rfl (by walk_at "1") (bh' (aN' [108, 111, 116] (by decide +kernel) (by decide +kernel)))))) (HdsM.cons ⟨rfl, by decide, Or.inl C.g_NoWord⟩ (fun _ _ e_ => lg' C.subs e_) (fun x_ a_ oe_ d_ pn_ hz_ hf_ => (ai' (ax' (i := 3) be'.nd rfl (by walk_at "1") (bh' (aN' [119, 111, 114, 100] (by decide +kernel) (by decide +kernel)))))) HdsM.nil)))
      (ai' (aA' (sl' (pv 3))))))), dV' F, F.kp, C.g__law_refused⟩
theorem cK' (C : Ctx Wd.w K mg) : Og Wd.P Wd.w K mg base 1 "_law_first" ["_law_lot", "_law_word"] (spM K M.f__law_first) := by
  obtain ⟨fd, F⟩ := C.f__law_first
  exact ⟨fd, okM F aW' rfl rfl (fun cdv A outer s H E hr =>
    (ac' (bj' (oZ' (fn' (cq' (fo' (fv' "str" (by decide) rfl (C.free_isinstance) (by decide +kernel) (ah' (pv 0)) (pe_bltn (v := .ty "str") rfl (C.free_str) (by decide +kernel) rfl)))) (d9' (bb' (c8' hr.units) pf' (nomark _) (ah' (pv 0)) (aN' [] (by decide +kernel) (by decide +kernel)))))) (ai' (aA' (bh' (aN' [108, 111, 116] (by decide +kernel) (by decide +kernel))))) aT')
      (ac' (bj' (cq' (fo' (bL' (cr_all rfl) mu' rfl (C.free_all) (by decide +kernel) (dM' (own := [("_law_letter", 2)]) rfl aW'.nd (b3' (ah' (pv 0))) (blkOk_by (own := [("_law_letter", 2)]) (N := bJ') (sc := defScope ap') (by decide +kernel)) rfl (fun _ _ _ _ _ => (c1' 2 aW'.nd rfl (by walk_at "1") (by walk_at "2"))) (fun _ _ _ _ _ => bd') (fun _ _ _ _ _ => (nv' pb' yJ' pb' yJ' (aN' [97] (by decide +kernel) (by decide +kernel)) (ah' (pv 2)) (aN' [122] (by decide +kernel) (by decide +kernel)))))))) (ai' (aA' (bh' (aN' [108, 111, 116] (by decide +kernel) (by decide +kernel))))) aT')
      (ac' (bj' (fo' (bL' (cr_any rfl) se' rfl (C.free_any) (by decide +kernel) (dM' (own := [("_law_k", 3)]) rfl aW'.nd (bO' rfl (C.free_range) (aY' op_sub xj' (bL' (a3' ⟨rfl, rfl⟩) dI' rfl (C.free_len) (by decide +kernel) (ah' (pv 0))) ad')) (blkOk_by (own := [("_law_k", 3)]) (N := bJ') (sc := defScope ap') (by decide +kernel)) rfl (fun _ _ _ _ _ => (c1' 3 aW'.nd rfl (by walk_at "1") (by walk_at "2"))) (fun _ _ _ _ _ => bd') (fun _ _ _ _ _ => (ed' iN' vZ' (nomark _) (bQ' ix_seq dO' (ah' (pv 0)) (ah' (pv 3)) (fun _ _ => rfl)) (bQ' ix_seq dO' (ah' (pv 0)) (aY' aX' bU' (ah' (pv 3)) ad') (fun _ _ => rfl))))))) (ai' (aA' (bh' (aN' [108, 111, 116] (by decide +kernel) (by decide +kernel))))) aT')
      (ac' (bj' (oZ' (fn' (cq' (fo' (fv' "str" (by decide) rfl (C.free_isinstance) (by decide +kernel) (ah' (pv 1)) (pe_bltn (v := .ty "str") rfl (C.free_str) (by decide +kernel) rfl)))) (d9' (cq' (fo' (bL' (cr_all rfl) mu' rfl (C.free_all) (by decide +kernel) (dM' (own := [("_law_letter", 2)]) rfl aW'.nd (b3' (ah' (pv 1))) (blkOk_by (own := [("_law_letter", 2)]) (N := bJ') (sc := defScope ap') (by decide +kernel)) rfl (fun _ _ _ _ _ => (c1' 2 aW'.nd rfl (by walk_at "1") (by walk_at "2"))) (fun _ _ _ _ _ => bd') (fun _ _ _ _ _ => (ed' lH' xl' (by rfl) (ah' (pv 2)) (ah' (pv 0))))))))))) (ai' (aA' (bh' (aN' [119, 111, 114, 100] (by decide +kernel) (by decide +kernel))))) aT')
      (ai' (aA' (bh' (aN' [110, 111, 110, 101] (by decide +kernel) (by decide +kernel)))))))))), gh' F, F.kp, C.g__law_first⟩
end
end S
namespace S
open PySem PySem.Spec PyProof.Rows L2
section
variable [Wd] {K : PySem.W.Frag} {mg : Str -> Option Value} {base : Heap}
theorem uL' (C : Ctx Wd.w K mg) {fd : FuncData} (F : FunD K "law" "law" (defArgs dN') (defBody dN') (defScope dN') [] [] (He.ga K "law") fd) : FnG Wd.P Wd.w K mg base (L2.CX Wd.P Wd.w) 6 (He.ga K "law") fd ["_law_script"] (spM K M.f_law) :=
  okM F ct' rfl rfl (fun cdv A outer s H E hr =>
    (ac' (ax' (i := 1) ct'.nd rfl (by walk_at "1") (ak' (fG' C) (hr.mono (by walk_at "4")) rfl (takes_of rfl rfl rfl rfl) (ab' (ah' (pv 0)) aj')))
      (ac' (ax' (i := 2) ct'.nd rfl (by walk_at "1") (bh' (aY' aX' bU' ad' (cr' (ak' (aU' C) (hr.mono (by walk_at "4")) rfl (takes_of rfl rfl rfl rfl) (ab' (ah' (pv 1)) (ab' ad' aj')))))))
      (ac' (ax' (i := 3) ct'.nd rfl (by walk_at "1") (bh' (nu' PySem.F.slot_str_join PySem.F.type_str_join mt_join lS' (aN' [] (by decide +kernel) (by decide +kernel)) (ab' (bL' (jC' rfl) on' rfl (C.free_sorted) (by decide +kernel) (cr' (ak' (dB' C) (hr.mono (by walk_at "4")) rfl (takes_of rfl rfl rfl rfl) (ab' (ah' (pv 1)) (ab' (aN' [97, 98, 99, 100, 101, 102, 103, 104, 105, 106, 107, 108, 109, 110, 111, 112, 113, 114, 115, 116, 117, 118, 119, 120, 121, 122] (by decide +kernel) (by decide +kernel)) (ab' (ah' (pv 2)) aj')))))) aj'))))
      (ac' (cH' (passes_of rfl) rfl (bO' rfl (C.free_range) ad') (c1' 4 ct'.nd rfl (by walk_at "1") (by walk_at "2")) (ai' (bj' (cq' (fo' (cr' (ak' (ey' C) (hr.mono (by walk_at "4")) rfl (takes_of rfl rfl rfl rfl) (ab' (ah' (pv 3)) (ab' (cr' (ak' (eA' C) (hr.mono (by walk_at "4")) rfl (takes_of rfl rfl rfl rfl) (ab' (ah' (pv 1)) (ab' (ah' (pv 3)) aj')))) aj')))))) (ai' (aA' (bh' co'))) aT')))
      (ac' (ax' (i := 5) ct'.nd rfl (by walk_at "1") (bh' (ln' (ab' tD' (ab' ad' (ab' co' (ab' (aN' [] (by decide +kernel) (by decide +kernel)) (ab' (aN' [65] (by decide +kernel) (by decide +kernel)) (ab' (aN' [98, 97] (by decide +kernel) (by decide +kernel)) (ab' (aN' [97, 97] (by decide +kernel) (by decide +kernel)) (ab' (aN' [97, 32, 98] (by decide +kernel) (by decide +kernel)) (ab' (ln' (ab' (aN' [97] (by decide +kernel) (by decide +kernel)) aj')) (ab' (ec' (ab' (aN' [97] (by decide +kernel) (by decide +kernel)) aj')) (ab' (cr' qo') (ab' (ah' (pv 3)) (ab' (b4' (ah' (pv 3))) (ab' (aY' aX' bU' (ah' (pv 3)) (aN' [63] (by decide +kernel) (by decide +kernel))) (ab' (aY' c4' jr' (ah' (pv 3)) ad') (ab' (ln' (ab' (ah' (pv 3)) aj')) aj')))))))))))))))))))
      (ac' (cH' (passes_of rfl) rfl (bO' rfl (C.free_range) ad') (c1' 4 ct'.nd rfl (by walk_at "1") (by walk_at "2")) (ac' (ax' (i := 6) ct'.nd rfl (by walk_at "1") (bh' (bQ' ix_seq dO' (ah' (pv 5)) (cr' (ak' (aU' C) (hr.mono (by walk_at "4")) rfl (takes_of rfl rfl rfl rfl) (ab' (ah' (pv 1)) (ab' (bL' (a3' ⟨rfl, rfl⟩) dI' rfl (C.free_len) (by decide +kernel) (ah' (pv 5))) aj')))) (fun _ _ => rfl))))
      (ac' (ax' (i := 7) ct'.nd rfl (by walk_at "1") (bh' (bQ' ix_seq dO' (ah' (pv 5)) (cr' (ak' (aU' C) (hr.mono (by walk_at "4")) rfl (takes_of rfl rfl rfl rfl) (ab' (ah' (pv 1)) (ab' (bL' (a3' ⟨rfl, rfl⟩) dI' rfl (C.free_len) (by decide +kernel) (ah' (pv 5))) aj')))) (fun _ _ => rfl))))
      (ai' (cH' (passes_of rfl) rfl (bO' rfl (C.free_range) ad') (c1' 8 ct'.nd rfl (by walk_at "1") (by walk_at "2")) (ac' (bj' (bb' (dy' hr.units) qY' (nomark _) (cr' (ak' (b9' C) (hr.mono (by walk_at "4")) rfl (takes_of rfl rfl rfl rfl) (ab' (ah' (pv 8)) (ab' (ah' (pv 6)) (ab' (ah' (pv 7)) aj'))))) (cr' (ak' (cK' C) (hr.mono (by walk_at "4")) rfl (takes_of rfl rfl rfl rfl) (ab' (ah' (pv 6)) (ab' (ah' (pv 7)) aj'))))) (ai' (aA' (bh' co'))) aT')
      (ai' (bj' (bb' (dy' hr.units) qY' (nomark _) (cr' (ak' (b9' C) (hr.mono (by walk_at "4")) rfl (takes_of rfl rfl rfl rfl) (ab' (ah' (pv 8)) (ab' (ah' (pv 3)) (ab' (ah' (pv 7)) aj'))))) (cr' (ak' (cK' C) (hr.mono (by walk_at "4")) rfl (takes_of rfl rfl rfl rfl) (ab' (ah' (pv 3)) (ab' (ah' (pv 7)) aj'))))) (ai' (aA' (bh' co'))) aT'))))))))
      (ai' (aA' (bh' co'))))))))))
end
end S
open PySem PySem.W PySem.Calls PyProof.Rows
set_option maxRecDepth 100000 in
set_option maxHeartbeats 0 in
theorem PySem.Challenge.cw_saidacross_k38_whole_pieces_of_words_holds : PySem.Challenge.rw_saidacross_k38_whole_pieces_of_words.Holds := by
  w_on; o_law
  refine HandSHeadRun.head_any (r := OpenLaw.row PySem.Challenge.rw_saidacross_k38_whole_pieces_of_words) (q := view (OpenLaw.row PySem.Challenge.rw_saidacross_k38_whole_pieces_of_words).prog [24]) (H := S.hk) (ob := S.ob) (loose := S.loose) (d := HandSHeadRun.topDef (OpenLaw.row PySem.Challenge.rw_saidacross_k38_whole_pieces_of_words).prog 24) (kwd := []) S.xi'
    (by kernel_rfl) (fun s => by kernel_rfl) S.run (by kernel_rfl) (by kernel_rfl) (by kernel_rfl) (by rfl) (by first | assumption | decide +kernel) (by decide +kernel) ⟨rfl, rfl, rfl, rfl, rfl, by decide +kernel⟩ ?hw ?hc
  case hw => w_witness2
  case hc =>
    refine S.mU' (l := PySem.Challenge.rw_saidacross_k38_whole_pieces_of_words) (n := 63) (k := 6) (x := "_law_script") (CX := L2.CX0) rfl (by decide) (by kernel_rfl) ⟨rfl, by decide, by decide⟩ ?F (fun H s e s' z => z)
    intro w mg fa h Y G hmg0
    obtain ⟨K, KX, c⟩ := Y
    letI : S.Wd := ⟨(PySem.Challenge.rw_saidacross_k38_whole_pieces_of_words).prog, w, []⟩
    have C : S.Ctx S.Wd.w K mg := ⟨⟨_, c⟩, h, KX, G⟩
    have hmg : mg ("law" : PySem.Str) = some (.ref fa) := by
      have e : (HandSHeadRun.topDef (OpenLaw.row PySem.Challenge.rw_saidacross_k38_whole_pieces_of_words).prog 24).name = ("law" : PySem.Str) := by kernel_rfl
      rw [<- e]
      exact hmg0
    obtain rfl : fa = He.ga K "law" := by
      have e := C.g_law
      rw [hmg] at e
      exact PySem.Value.ref.inj (Option.some.inj e)
    obtain ⟨fd, F⟩ := C.f_law
    refine ⟨K, fd, fun vs H Q _ => S.spM K M.f_law vs H Q L2.E0, KX, fun s u => ?_, ?_, fun base X N => ?_⟩
    . exact F.bindsA (ps := ["_law_script"]) (fun _ _ _ _ _ _ us hl => match us, hl with | [_], _ => rfl) s [u] rfl
    . intro H a ns hn _ hs
      exact S.l0' K H (fun p z => absurd (show p ∈ ([] : List (Addr × Str)) from z) List.not_mem_nil) a ns hn hs M.law_true
    . exact S.FnG.to0 (S.uL' (base := base) C F)
