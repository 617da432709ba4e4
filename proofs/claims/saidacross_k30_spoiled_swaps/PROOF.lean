import PyProof.Rows.All
import Wide.All
import OpenK.AllK
import Wide.FinOn
import KE.KStateDown
import KE.GoesNew
import HandS.ForMost
import HandS.Exc
import HandS.TryOnly
import HandS.TryMany
import HandS.ExcOwn
import HandS.ExcBuiltin
import HandS.Small
import HandS.WordsExc
import HandS.IsInst
import HandS.StrMore
import HandS.TupAny
import HandS.Zip
import HandS.Defaults
import HandS.Head0
import HandS.Head1
import HandS.Head2
import HandS.HeadEnd
import HandS.HeadHook1
import HandS.HeadHook2
import HandS.Walk
import KE.GoesMore
import HandS.Iter
import PyProof.CollectStr
import HandS.Conv
import PyProof.ListStr
import PyProof.TupleOfStr
import HandS.Lambda
import HandS.Style
import KE.KDictKeyed
import HandS.Wide
import KE.KTupTabMore
import HandS.Rev
import HandS.RevRange
import HandS.SortInts
import HandS.ExcIs
import HandS.ExcField
import HandS.Rindex
import HandS.HeadHook4
import PyProof.StrLawsFrom
import PyProof.Rows.RegReprOcc
import PyProof.Rows.StrLast
import KE.KDictDisplayH
import HandS.SetKeys
import HandS.DictComp
import HandS.More
import PyProof.ReprBulk
import PyProof.ReprRoads
import PyProof.CallFns
import PyProof.RowDictHeap
import PyProof.Rows.StrRev
import KE.KRevSl
import HandS.Deep
import HandS.Call
import KE.KExcSuper
import HandS.TupMul
import HandS.ReplaceLit
import HandS.ReplaceList
import KE.KDictZip
import PyProof.ListNew
import HandS.ListItems
import HandS.Zip0
import HandS.TupSets
import KE.SortKeyHeap
import KE.KLam
import HandS.SortKw
import HandS.EndTab
import KE.KItemsList
import HandS.NoneIn
import KE.DataMinKey
import KE.DataFind
import KE.DatumOrd
import HandS.Finally
import HandS.Strs
import HandS.Nested
import PyProof.Rows.Walk
import PySem.Challenge.RW_saidacross_k30_spoiled_swaps
set_option Elab.async false
set_option linter.all false
set_option maxRecDepth 100000
set_option maxHeartbeats 4000000
local macro_rules | `(tactic| walk_at "1") => `(tactic| first | exact Or.inl rfl | exact Or.inr rfl)
local macro_rules | `(tactic| walk_at "2") => `(tactic| first | exact Or.inl rfl | exact Or.inr rfl | assumption)
local macro_rules | `(tactic| walk_at "3") => `(tactic| exact ⟨rfl, rfl, rfl, by decide +kernel, rfl, by decide +kernel, by decide +kernel⟩)
local macro_rules | `(tactic| walk_at "4") => `(tactic| first | decide | omega)
namespace M
abbrev Tx := List Nat
abbrev cR' : Nat := 16777216
inductive D where
  | non | bl (b : Bool) | int (i : Int) | str (s : Tx)
  | tup (ds : List D) | lst (ds : List D) | dct (ks vs : List D)
  | obj (n : Nat) | ty (x : String) | fn (x : String) | exc (x : String) (ds : List D)
  | scr (ds : List D)
  /-- a dict whose keys are bools, or tuples; the text that repr gives -/
  | dcx (ks vs : List D) | rep (d : D)
  deriving Inhabited
inductive O where
  | fz (d : D) | lst (os : List O) | dct (ks : List D) (vs : List O) | tup (os : List O) | dcx (ks : List D) (vs : List O) | exn | clo
  deriving Inhabited
inductive Ob where
  | lst (os : List O) | dct (ks : List D) (vs : List O) | ins (C : String) (fs : List (String × O)) | dcx (ks : List D) (vs : List O)
abbrev W := List Ob
structure PSt where
  env : List (Option O)
  w : W
structure Exc where
  cls : String
  fs : List (String × D)
inductive Res (α : Type) where
  | ok (a : α) (ρ : PSt) | exc (x : Exc) (ρ : PSt) | bad
inductive Out where
  | nx (ρ : PSt) | rt (o : O) (w : W) | bk (ρ : PSt) | ct (ρ : PSt) | exc (x : Exc) (ρ : PSt) | bad
inductive FRes where
  | ok (o : O) (w : W) | exc (x : Exc) (w : W) | bad
def A7' : O -> Bool
  | .exn => false
  | .clo => false
  | _ => true
theorem dW' {o : O} (h : o ≠ .exn) (k : o ≠ .clo) : A7' o = true := by
  cases o <;> first | rfl | exact absurd rfl h | exact absurd rfl k
mutual
def frz : O -> D
  | .fz d => d
  | .lst os => .lst (frzs os)
  | .dct ks vs => .dct ks (frzs vs)
  | .tup os => .tup (frzs os)
  | .dcx ks vs => .dcx ks (frzs vs)
  | .exn => .non
  | .clo => .non
def frzs : List O -> List D
  | [] => []
  | o :: r => frz o :: frzs r
end
@[simp] theorem li' (ds : List D) : frzs (ds.map .fz) = ds := by
  induction ds with
  | nil => rfl
  | cons d r ih => simp [frzs, frz, ih]
theorem iz' (os : List O) : frzs os = os.map frz := by
  induction os with
  | nil => rfl
  | cons d r ih => simp [frzs, ih]
mutual
/-- data that == compares, at most so deep -/
def dep : D -> Nat
  | .tup ds => deps ds + 1
  | .lst ds => deps ds + 1
  | _ => 0
def deps : List D -> Nat
  | [] => 0
  | d :: r => max (dep d) (deps r)
end
mutual
def dat : D -> Bool
  | .non => true | .bl _ => true | .int _ => true | .str _ => true
  | .tup ds => dats ds
  | .lst ds => dats ds
  | _ => false
def dats : List D -> Bool
  | [] => true
  | d :: r => dat d && dats r
end
mutual
def eqb : D -> D -> Bool
  | .non, .non => true
  | .bl a, .bl b => a == b
  | .bl a, .int j => (if a then 1 else 0) == j
  | .int i, .bl b => i == (if b then 1 else 0)
  | .int i, .int j => i == j
  | .str x, .str y => x == y
  | .lst xs, .lst ys => eqbs xs ys
  | .tup xs, .tup ys => eqbs xs ys
  | _, _ => false
def eqbs : List D -> List D -> Bool
  | [], [] => true
  | x :: xs, y :: ys => eqb x y && eqbs xs ys
  | _, _ => false
end
def eqv (d e : D) : Option Bool := if dat d = true /\ dat e = true /\ dep d <= 64 /\ dep e <= 64 then some (eqb d e) else none
mutual
/-- no whole number is too great to be shown -/
def oW' : D -> Bool
  | .int i => decide (i.natAbs < 10 ^ 60)
  | .tup ds => repIs ds
  | .lst ds => repIs ds
  | .dct ks ds => repIs ks && repIs ds
  | _ => true
def repIs : List D -> Bool
  | [] => true
  | d :: r => oW' d && repIs r
end
mutual
def nc' : D -> Nat
  | .str s => s.length
  | .tup ds => repWs ds
  | .lst ds => repWs ds
  | .dct ks ds => repWs ks + repWs ds
  | _ => 0
def repWs : List D -> Nat
  | [] => 0
  | d :: r => nc' d + 1 + repWs r
end
mutual
/-- the same data -/
def same : D -> D -> Bool
  | .non, .non => true
  | .bl a, .bl b => a == b
  | .int i, .int j => i == j
  | .str x, .str y => x == y
  | .lst xs, .lst ys => sames xs ys
  | .tup xs, .tup ys => sames xs ys
  | .dct ks xs, .dct ls ys => sames ks ls && sames xs ys
  | _, _ => false
def sames : List D -> List D -> Bool
  | [], [] => true
  | x :: xs, y :: ys => same x y && sames xs ys
  | _, _ => false
end
def da' : D -> Bool
  | .non => true
  | .bl _ => true
  | .int _ => true
  | .str _ => true
  | _ => false
def xv' : D -> Bool
  | .dct [] [] => true
  | _ => false
def yl' : D -> Bool
  | .dct _ ds => ds.all da'
  | .tup ds => dats ds || ds.all fun d => da' d || xv' d
  | d => dat d
theorem qC' {d : D} (h : dat d = true) : yl' d = true := by
  cases d with
  | tup ds => show (dats ds || _) = true; rw [show dats ds = true from h]; rfl
  | dct ks ds => cases h
  | _ => exact h
def uD' (d : D) : Option D := if yl' d = true /\ dep d <= 40 /\ oW' d = true /\ nc' d <= 200000 then some (.rep d) else none
def xq' : D -> D -> Option D
  | .rep a, .rep b => if same a b = true then some (.bl false) else none
  | _, _ => none
def ob (o : Option Bool) : Option D := o.map .bl
def pEq (x y : D) : Option D := ob (eqv x y)
def pNe (x y : D) : Option D := ob ((eqv x y).map (!·))
def dq' : D -> Bool
  | .non => true
  | _ => false
def pIs : D -> D -> Option D
  | x, .non => some (.bl (dq' x))
  | .bl a, .bl b => some (.bl (a == b))
  | _, _ => none
def e2' (x y : D) : Option D := match pIs x y with | some (.bl b) => some (.bl (!b)) | _ => none
def pLt : D -> D -> Option D
  | .int i, .int j => some (.bl (decide (i < j)))
  | .str a, .str b => some (.bl (decide (a < b)))
  | _, _ => none
def pLe : D -> D -> Option D
  | .int i, .int j => some (.bl (decide (i <= j)))
  | .str a, .str b => some (.bl (!decide (b < a)))
  | _, _ => none
def pGt : D -> D -> Option D
  | .int i, .int j => some (.bl (decide (j < i)))
  | .str a, .str b => some (.bl (decide (b < a)))
  | _, _ => none
def pGe : D -> D -> Option D
  | .int i, .int j => some (.bl (decide (j <= i)))
  | .str a, .str b => some (.bl (!decide (a < b)))
  | _, _ => none
def bX' : D -> D -> Option D
  | .int i, .int j => some (.int (i + j))
  | .str a, .str b => if a.length + b.length <= cR' then some (.str (a ++ b)) else none
  | .lst a, .lst b => if a.length + b.length <= cR' then some (.lst (a ++ b)) else none
  | .tup a, .tup b => if a.length + b.length <= cR' then some (.tup (a ++ b)) else none
  | _, _ => none
def qT' : D -> D -> Option D
  | .int i, .int j => some (.int (i + j))
  | _, _ => none
def uC' : D -> D -> Option D
  | .int i, .int j => some (.int (i - j))
  | _, _ => none
def small64 (i : Int) : Bool := decide (-(2 ^ 64) < i) && decide (i < 2 ^ 64)
def kC' : D -> D -> Option D
  | .int i, .int j => if (small64 i = true \/ small64 j = true) \/ ((-2582249878086908589655919172003011874329705792829223512830659356540647622016841194629645353280137831435903171972747493376 < i /\ i < 2582249878086908589655919172003011874329705792829223512830659356540647622016841194629645353280137831435903171972747493376) /\ (-2582249878086908589655919172003011874329705792829223512830659356540647622016841194629645353280137831435903171972747493376 < j /\ j < 2582249878086908589655919172003011874329705792829223512830659356540647622016841194629645353280137831435903171972747493376)) then some (.int (i * j)) else none
  | .str a, .int j => if j < 2 ^ 62 /\ -(2 ^ 62) <= j /\ a.length * j.toNat <= cR' then some (.str (List.replicate j.toNat a).flatten) else none
  | .lst a, .int j => if j < 2 ^ 62 /\ -(2 ^ 62) <= j /\ a.length * j.toNat <= cR' then some (.lst (List.replicate j.toNat a).flatten) else none
  | _, _ => none
def jx' : D -> D -> Option D
  | .int i, .int j => if 0 < j /\ j < 1606938044258990275541962092341162602522202993782792835301376 then some (.int (i / j)) else none
  | _, _ => none
def kD' : D -> D -> Option D
  | .int i, .int j => if 0 < j then some (.int (i % j)) else none
  | _, _ => none
def yF' : D -> D -> Option D
  | .int i, .int j => if 0 <= j /\ j <= 1000 /\ small64 i = true then some (.int (i ^ j.toNat)) else none
  | _, _ => none
def CT' : D -> Option D
  | .int i => some (.int (-i))
  | _ => none
def chD (c : Nat) : D := .str [c]
def ixn (n : Nat) (i : Int) : Option Nat := if 0 <= i then (if i < n then some i.toNat else none) else (if -(n : Int) <= i then some (i + n).toNat else none)
def ati {α : Type} (xs : List α) (i : Int) : Option α := (ixn xs.length i).bind fun j => xs[j]?
def six (n : Nat) (d : Nat) : Option Int -> Nat
  | none => d
  | some i => if i < 0 then (i + (n : Int)).toNat else min i.toNat n
def cut {α : Type} (xs : List α) (lo hi : Option Int) : List α := (xs.drop (six xs.length 0 lo)).take (six xs.length xs.length hi - six xs.length 0 lo)
def dX' : D -> Option (List D)
  | .lst xs => some xs
  | .tup xs => some xs
  | .str s => some (s.map chD)
  | _ => none
def sca : D -> Bool
  | .non => true | .bl _ => true | .int _ => true | .str _ => true
  | _ => false
def pIn : D -> D -> Option D
  | .str [c], .str s => some (.bl (decide (c ∈ s)))
  | x, .lst ds => if sca x = true /\ ds.all sca = true then some (.bl (ds.any fun d => eqb d x)) else none
  | x, .tup ds => if sca x = true /\ ds.all sca = true then some (.bl (ds.any fun d => eqb d x)) else none
  | _, _ => none
mutual
def kat : D -> Bool
  | .non => true | .bl _ => true | .int _ => true | .str _ => true
  | .tup ds => kats ds
  | _ => false
def kats : List D -> Bool
  | [] => true
  | d :: r => kat d && kats r
end
def rp' (ks : List D) (k : D) : Bool := kat k && decide (dep k <= 8) && ks.all (fun d => sca d == sca k)
def fH' (ks : List D) (k : D) : Option Nat := ks.findIdx? fun d => eqb d k
def isK : D -> Bool
  | .int _ => true | .str _ => true
  | _ => false
def dget {α : Type} (ks : List D) (vs : List α) (k : D) : Option α := (fH' ks k).bind fun j => vs[j]?
def cd' : O -> D -> Option (Option O)
  | .dct ks os, k => if isK k = true then some (dget ks os k) else none
  | .dcx ks os, k => if rp' ks k = true then some (dget ks os k) else none
  | .fz (.dct ks vs), k => if isK k = true then some (dget ks (vs.map .fz) k) else none
  | .fz (.dcx ks vs), k => if rp' ks k = true then some (dget ks (vs.map .fz) k) else none
  | _, _ => none
def ni' {α : Type} (ks : List D) (os : List α) (k : D) (o : α) : Option (List D × List α) := match fH' ks k with
  | some j => some (ks, os.set j o)
  | none => if ks.length < cR' then some (ks ++ [k], os ++ [o]) else none
def dZ' : O -> D -> O -> Option O
  | .dct ks os, k, o => if isK k = true then (ni' ks os k o).map fun p => .dct p.1 p.2 else none
  | .dcx ks os, k, o => if rp' ks k = true then (ni' ks os k o).map fun p => .dcx p.1 p.2 else none
  | _, _, _ => none
def gh' (x y : D) : Option D := match pIn x y with | some (.bl b) => some (.bl (!b)) | _ => none
def dH' : D -> Option D
  | .str s => some (.int s.length)
  | .lst ds => some (.int ds.length)
  | .tup ds => some (.int ds.length)
  | .dct ks _ => some (.int ks.length)
  | .dcx ks _ => some (.int ks.length)
  | _ => none
def pIx : D -> D -> Option D
  | .str s, .int i => (ati s i).map chD
  | .lst ds, .int i => ati ds i
  | .tup ds, .int i => ati ds i
  | _, _ => none
def pSl (d : D) (lo hi : Option Int) : Option D := match d with
  | .str s => some (.str (cut s lo hi))
  | .lst s => some (.lst (cut s lo hi))
  | .tup s => some (.tup (cut s lo hi))
  | .scr s => some (.lst (cut s lo hi))
  | _ => none
def Ax' : D -> Option D
  | .str s => some (.str s.reverse)
  | .lst s => some (.lst s.reverse)
  | _ => none
def dM' : List D -> Option (List Tx)
  | [] => some []
  | .str s :: r => (dM' r).map (s :: ·)
  | _ :: _ => none
def cP' (sep : Tx) : List Tx -> Tx
  | [] => []
  | [x] => x
  | x :: y :: r => x ++ (sep ++ cP' sep (y :: r))
def la' (a : Tx) : List D -> Option D
  | [.lst ds] => (dM' ds).bind fun ys => if (ys.map List.length).sum + ys.length * a.length <= cR' then some (.str (cP' a ys)) else none
  | [.tup ds] => (dM' ds).bind fun ys => if (ys.map List.length).sum + ys.length * a.length <= cR' then some (.str (cP' a ys)) else none
  | _ => none
def bt' : List D -> Option (List Int)
  | [] => some []
  | .int b :: r => (bt' r).map (b :: ·)
  | _ :: _ => none
def CS' : D -> Option D
  | .lst ds => (bt' ds).map fun ns => .int ns.sum
  | _ => none
def b6' (l : List Nat) : List Nat := l.mergeSort fun a b => decide (a <= b)
def fX' (l : List Int) : List Int := l.mergeSort fun a b => decide (a <= b)
def cX' : D -> Option D
  | .dct ks _ => (bt' ks).bind fun ns => if ns.length <= cR' then some (.lst ((fX' ns).map .int)) else none
  | _ => none
def nn' : List D -> Option (List Nat)
  | [] => some []
  | .str [c] :: r => (nn' r).map (c :: ·)
  | _ => none
def cY' : D -> Option D
  | .str s => if s.length < 64 then some (.lst ((b6' s).map chD)) else none
  | .lst ds => match bt' ds with
    | some ns => some (.lst ((fX' ns).map .int))
    | none => (nn' ds).bind fun cs => if cs.length < 64 then some (.lst ((b6' cs).map chD)) else none
  | _ => none
def uM' (a b : Tx) (i : Nat) : Bool := decide (i + b.length <= a.length) && decide ((a.drop i).take b.length = b)
def nK' (a b : Tx) : Option Nat := (List.range (a.length + 1)).find? (uM' a b)
def fnd (o : Option Nat) : Int := match o with | some i => (i : Int) | none => -1
def rb' (a : Tx) : List D -> Option D
  | [.str b] => some (.int (fnd (nK' a b)))
  | _ => none
def jJ' (a : Tx) : List D -> Option D
  | [.str b] => (nK' a b).map fun (i : Nat) => D.int (Int.ofNat i)
  | _ => none
def As' (c : Nat) : Tx -> List Tx
  | [] => [[]]
  | x :: r => if x = c then [] :: As' c r else (match As' c r with
    | [] => [[x]]
    | y :: ys => (x :: y) :: ys)
def yQ' (a : Tx) : List D -> Option D
  | [.str [c]] => if c < 128 /\ a.length + 2 <= cR' then some (.lst ((As' c a).map .str)) else none
  | _ => none
def C0' (n : Nat) : Tx := (Nat.toDigits 10 n).map Char.toNat
def Dp' : D -> Option D
  | .int i => if 0 <= i /\ i < 1000000000000000000000000000000000000000000000000000000000000 then some (.str (C0' i.toNat)) else none
  | _ => none
def up1 (c : Nat) : Nat := if 97 <= c /\ c <= 122 then c - 32 else c
def uB' : D -> Option D
  | .str s => if s.all (fun c => decide (c < 128)) = true /\ s.length <= 5592405 then some (.str (s.map up1)) else none
  | _ => none
def bools : List D -> Option (List Bool)
  | [] => some []
  | .bl b :: r => (bools r).map (b :: ·)
  | _ :: _ => none
def v8' : D -> Option D
  | .lst ds => (bools ds).map fun bs => .bl (bs.all id)
  | _ => none
def CU' : D -> Option D
  | .lst ds => (bools ds).map fun bs => .bl (bs.any id)
  | _ => none
def Bt' : D -> Option D
  | .lst ds => some (.lst ds)
  | .tup ds => some (.lst ds)
  | .str s => some (.lst (s.map chD))
  | _ => none
def e1' : D -> Option D
  | .str s => some (.lst (s.map chD))
  | d => Bt' d
def cb' : D -> Option D
  | .str s => some (.tup (s.map chD))
  | .lst ds => some (.tup ds)
  | .tup ds => some (.tup ds)
  | _ => none
def iL' : D -> Option D
  | .int i => some (.int i)
  | .bl b => some (.int (if b then 1 else 0))
  | _ => none
def Ay' : D -> Option D
  | .int i => some (.int (if i < 0 then -i else i))
  | _ => none
def qS' : D -> D -> Option D
  | .int i, .int j => some (.int (if j > i then j else i))
  | _, _ => none
def or' : D -> D -> Option D
  | .int i, .int j => some (.int (if j < i then j else i))
  | _, _ => none
def nv' : List Int -> Int
  | [] => 0
  | [x] => x
  | x :: r => max x (nv' r)
def ot' : D -> Option D
  | .dct _ vs => (bt' vs).bind fun ns => if ns = [] then none else some (.int (nv' ns))
  | _ => none
def tyn : D -> Option String
  | .non => some "NoneType" | .bl _ => some "bool" | .int _ => some "int" | .str _ => some "str"
  | .tup _ => some "tuple" | .lst _ => some "list" | .dct _ _ => some "dict"
  | _ => none
def b0' (t : String) (d : D) : Option D := (tyn d).map fun n => .bl (n == t || (n == "bool" && t == "int"))
abbrev ME := PSt -> Res D
abbrev MO := PSt -> Res O
abbrev MA := PSt -> Res (List D)
abbrev MT := PSt -> Res Bool
abbrev MS := PSt -> Out
abbrev MF := List D -> W -> FRes
abbrev MG := D -> PSt -> Option PSt
abbrev MI := PSt -> Res (List D)
@[simp] def Res.bind {α β : Type} (r : Res α) (f : α -> PSt -> Res β) : Res β := match r with
  | .ok a ρ => f a ρ
  | .exc x ρ => .exc x ρ
  | .bad => .bad
@[simp] def Res.out {α : Type} (r : Res α) (f : α -> PSt -> Out) : Out := match r with
  | .ok a ρ => f a ρ
  | .exc x ρ => .exc x ρ
  | .bad => .bad
@[simp] def ofO {α : Type} (o : Option α) (ρ : PSt) : Res α := match o with
  | some a => .ok a ρ
  | none => .bad
@[simp] def eC (d : D) : ME := fun ρ => .ok d ρ
@[simp] def eV (i : Nat) : ME := fun ρ => match ρ.env[i]? with
  | some (some (.fz d)) => .ok d ρ
  | some (some .exn) => .bad
  | some (some .clo) => .bad
  | some (some o) => .ok (frz o) ⟨ρ.env.set i (some (.fz (frz o))), ρ.w⟩
  | _ => .bad
@[simp] def eOp (f : D -> D -> Option D) (a b : ME) : ME := fun ρ => (a ρ).bind fun x ρ1 => (b ρ1).bind fun y ρ2 => ofO (f x y) ρ2
@[simp] def eUn (f : D -> Option D) (a : ME) : ME := fun ρ => (a ρ).bind fun x ρ1 => ofO (f x) ρ1
@[simp] def asB (d : D) (ρ : PSt) : Res Bool := match d with
  | .bl b => .ok b ρ
  | _ => .bad
@[simp] def tv' (a b : ME) : ME := fun ρ => (a ρ).bind fun x ρ1 => (asB x ρ1).bind fun k ρ1 => if k = true then b ρ1 else .ok (.bl false) ρ1
@[simp] def zq' (a : ME) : ME := fun ρ => (a ρ).bind fun x ρ1 => (asB x ρ1).bind fun k ρ1 => .ok (.bl (!k)) ρ1
@[simp] def gC' (f g : D -> D -> Option D) (a b c : ME) : ME := fun ρ => (a ρ).bind fun x ρ1 => (b ρ1).bind fun y ρ2 => (ofO (f x y) ρ2).bind fun r ρ2 => (asB r ρ2).bind fun k ρ2 =>
  if k = true then (c ρ2).bind fun z ρ3 => ofO (g y z) ρ3 else .ok (.bl false) ρ2
@[simp] def aW' : MA := fun ρ => .ok [] ρ
@[simp] def ac' (a : ME) (r : MA) : MA := fun ρ => (a ρ).bind fun x ρ1 => (r ρ1).bind fun xs ρ2 => .ok (x :: xs) ρ2
@[simp] def gP' (as : MA) : ME := fun ρ => (as ρ).bind fun xs ρ1 => if xs.length <= cR' then .ok (.tup xs) ρ1 else .bad
@[simp] def iM' (as : MA) : ME := fun ρ => (as ρ).bind fun xs ρ1 => if xs.length <= cR' then .ok (.lst xs) ρ1 else .bad
@[simp] def eMt (f : Tx -> List D -> Option D) (a : ME) (as : MA) : ME := fun ρ => (a ρ).bind fun x ρ1 => match x with
  | .str s => (as ρ1).bind fun ds ρ2 => ofO (f s ds) ρ2
  | _ => .bad
def ra' (ds : List D) : List D -> Option D
  | [.int v] => (bt' ds).bind fun ns => if v ∈ ns then some (.int ((ns.idxOf v : Nat) : Int)) else none
  | _ => none
abbrev MP := PSt -> Res (Option Int)
@[simp] def pNo : MP := fun ρ => .ok none ρ
@[simp] def pSo (a : ME) : MP := fun ρ => (a ρ).bind fun x ρ1 => match x with | .int i => .ok (some i) ρ1 | _ => .bad
@[simp] def eSl (a : ME) (lo hi : MP) : ME := fun ρ => (a ρ).bind fun x ρ1 => (lo ρ1).bind fun l ρ2 => (hi ρ2).bind fun h ρ3 => ofO (pSl x l h) ρ3
@[simp] def fin (r : FRes) (ρ : PSt) : Res O := match r with
  | .ok o w => .ok o ⟨ρ.env, w⟩
  | .exc x w => .exc x ⟨ρ.env, w⟩
  | .bad => .bad
@[simp] def az' (f : MF) (as : MA) : MO := fun ρ => (as ρ).bind fun xs ρ1 => fin (f xs ρ1.w) ρ1
@[simp] def eO (a : MO) : ME := fun ρ => (a ρ).bind fun o ρ1 => .ok (frz o) ρ1
@[simp] def oE (a : ME) : MO := fun ρ => (a ρ).bind fun d ρ1 => .ok (.fz d) ρ1
@[simp] def oV (i : Nat) : MO := fun ρ => match ρ.env[i]? with
  | some (some (.fz d)) => .ok (.fz d) ρ
  | some (some .exn) => .bad
  | some (some .clo) => .bad
  | some (some o) => .ok o ⟨ρ.env.set i none, ρ.w⟩
  | _ => .bad
abbrev MOA := PSt -> Res (List O)
@[simp] def ip' (a : ME) : MO := fun ρ => (a ρ).bind fun d ρ1 => match d with | .lst ds => .ok (.lst (ds.map .fz)) ρ1 | _ => .bad
@[simp] def iq' : MO := fun ρ => .ok (.dct [] []) ρ
def RgB (a b : Int) : Bool := decide (-(2 ^ 62) <= a) && decide (a < 2 ^ 62) && decide (-(2 ^ 62) <= b) && decide (b < 2 ^ 62) && decide ((b - a).toNat <= 16777216)
def eq' (a b : Int) : List D := (List.range (b - a).toNat).map fun i => .int (a + (i : Nat))
@[simp] def eh' : D -> Option D
  | .int b => if RgB 0 b = true then some (.lst (eq' 0 b)) else none
  | _ => none
@[simp] def hK' (i : Nat) (a : ME) : ME := fun ρ => match ρ.env[i]? with
  | some (some (.lst _)) => (a ρ).bind fun d ρ1 => match ρ1.env[i]?, d with
    | some (some (.lst os)), .int z => (match (if os.length <= cR' then ixn os.length z else none) with
      | some j => (match os[j]? with
        | some (.fz y) => .ok y ⟨ρ1.env.set i (some (.lst (os.eraseIdx j))), ρ1.w⟩
        | _ => .bad)
      | none => .bad)
    | _, _ => .bad
  | _ => .bad
@[simp] def items : O -> Option (List O)
  | .fz (.lst ds) => some (ds.map .fz)
  | .fz (.tup ds) => some (ds.map .fz)
  | .fz (.str s) => some (s.map fun c => .fz (chD c))
  | .lst os => some os
  | .tup os => some os
  | _ => none
@[simp] def ixO : O -> D -> Option D
  | .fz d, k => pIx d k
  | .lst os, .int i => match ati os i with | some (.fz d) => some d | _ => none
  | .tup os, .int i => match ati os i with | some (.fz d) => some d | _ => none
  | _, _ => none
@[simp] def sc' (i : Nat) (b : ME) : ME := fun ρ => match ρ.env[i]? with
  | some (some _) => (b ρ).bind fun k ρ1 => match ρ1.env[i]? with
    | some (some o) => ofO (ixO o k) ρ1
    | _ => .bad
  | _ => .bad
@[simp] def inO (x : D) : O -> Option D
  | .fz d => pIn x d
  | .lst os => if os.all (fun o => match o with | .fz _ => true | _ => false) = true then pIn x (.lst (os.map frz)) else none
  | _ => none
@[simp] def yK' : Option D -> Option D
  | some (.bl b) => some (.bl (!b))
  | _ => none
@[simp] def oX' : O -> Option D
  | .fz d => dH' d
  | .lst os => some (.int os.length)
  | .tup os => some (.int os.length)
  | .dct ks _ => some (.int ks.length)
  | .dcx ks _ => some (.int ks.length)
  | .exn => none
  | .clo => none
@[simp] def gB' (i : Nat) : ME := fun ρ => match ρ.env[i]? with
  | some (some o) => ofO (oX' o) ρ
  | _ => .bad
@[simp] def tQ' : Option (Option O) -> Option D
  | some (some (.fz d)) => some d
  | _ => none
@[simp] def tu' (neg : Bool) (i : Nat) (a : ME) : ME := fun ρ => (a ρ).bind fun k ρ1 => match ρ1.env[i]? with
  | some (some o) => ofO ((cd' o k).map fun r => .bl (r.isSome != neg)) ρ1
  | _ => .bad
@[simp] def kE' (i : Nat) (a : ME) : ME := fun ρ => match ρ.env[i]? with
  | some (some _) => (a ρ).bind fun k ρ1 => match ρ1.env[i]? with
    | some (some o) => ofO (tQ' (cd' o k)) ρ1
    | _ => .bad
  | _ => .bad
@[simp] def hL' (i : Nat) (k a : ME) : ME := fun ρ => match ρ.env[i]? with
  | some (some (.dct _ _)) => (k ρ).bind fun y ρ1 => (a ρ1).bind fun d ρ2 => match ρ2.env[i]? with
    | some (some (.dct ks os)) => if isK y = true /\ ks.length < cR' then (match dget ks os y with
      | some (.fz e) => .ok e ρ2
      | some _ => .bad
      | none => .ok d ⟨ρ2.env.set i (some (.dct (ks ++ [y]) (os ++ [.fz d]))), ρ2.w⟩) else .bad
    | _ => .bad
  | _ => .bad
@[simp] def s7' : MO := fun ρ => .ok (.dcx [] []) ρ
def gi' (x : Bool) (y d : D) : Option O := if x = true then (if kat y = true /\ dep y <= 8 /\ sca y = false then some (.dcx [y] [.fz d]) else none) else (if isK y = true then some (.dct [y] [.fz d]) else none)
@[simp] def e7' (x : Bool) (k a : ME) : MO := fun ρ => (k ρ).bind fun y ρ1 => (a ρ1).bind fun d ρ2 => ofO (gi' x y d) ρ2
@[simp] def sa' (i : Nat) (k a : ME) : MS := fun ρ => (a ρ).out fun d ρ1 => match ρ1.env[i]? with
  | some (some _) => (k ρ1).out fun y ρ2 => match ρ2.env[i]? with
    | some (some o) => (match dZ' o y (.fz d) with
      | some o' => .nx ⟨ρ2.env.set i (some o'), ρ2.w⟩
      | none => .bad)
    | _ => .bad
  | _ => .bad
@[simp] def ixW (w : W) : D -> D -> Option D
  | .obj n, k => match w[n]? with | some (.lst os) => ixO (.lst os) k | _ => none
  | d, k => pIx d k
@[simp] def iN' (a b : ME) : ME := fun ρ => (a ρ).bind fun x ρ1 => (b ρ1).bind fun y ρ2 => ofO (ixW ρ2.w x y) ρ2
@[simp] def yJ' (as : MA) : MO := fun ρ => (as ρ).bind fun xs ρ1 => if xs.length <= cR' then .ok (.fz (.obj ρ1.w.length)) ⟨ρ1.env, ρ1.w ++ [.lst (xs.map .fz)]⟩ else .bad
@[simp] def tE (a : ME) : MT := fun ρ => (a ρ).bind asB
@[simp] def fA' (a : MT) : MT := fun ρ => (a ρ).bind fun k ρ1 => .ok (!k) ρ1
@[simp] def sw' (a b : MT) : MT := fun ρ => (a ρ).bind fun k ρ1 => if k = true then b ρ1 else .ok false ρ1
@[simp] def tOr (a b : MT) : MT := fun ρ => (a ρ).bind fun k ρ1 => if k = true then .ok true ρ1 else b ρ1
@[simp] def eQ' (a : ME) : MI := fun ρ => (a ρ).bind fun d ρ1 => ofO (dX' d) ρ1
def rgI (lo : Int) (n : Nat) : List D := (List.range n).map fun i => .int (lo + (i : Nat))
def se' (i : Int) : Bool := decide (-(2 ^ 62) <= i) && decide (i < 2 ^ 62)
@[simp] def eJ' : D -> Option (List D)
  | .int j => if se' j = true then some (rgI 0 j.toNat) else none
  | _ => none
@[simp] def qR' : D -> D -> Option (List D)
  | .int i, .int j => if se' i = true /\ se' j = true then some (rgI i (j - i).toNat) else none
  | _, _ => none
@[simp] def bN' (a : ME) : MI := fun ρ => (a ρ).bind fun x ρ1 => ofO (eJ' x) ρ1
def db' : List D -> List D -> List D
  | x :: xs, y :: ys => .tup [x, y] :: db' xs ys
  | _, _ => []
def d5' (k : Nat) : List D -> List D
  | [] => []
  | x :: xs => .tup [.int k, x] :: d5' (k + 1) xs
@[simp] def Bs' (x y : D) : Option (List D) := match dX' x, dX' y with
  | some a, some b => some (db' a b)
  | _, _ => none
def r7' (x y : D) : Option (List D) := match x, y with
  | .str _, .str _ => Bs' x y
  | .lst _, .lst _ => Bs' x y
  | .tup _, .tup _ => Bs' x y
  | _, _ => none
def enB : D -> Option (List D)
  | .str s => some (d5' 0 (s.map chD))
  | .lst ds => some (d5' 0 ds)
  | _ => none
def Aw' : D -> Option (List D)
  | .lst ds => some ds.reverse
  | .tup ds => some ds.reverse
  | _ => none
def xw' (x y : D) : Option (List D) := match x, y with
  | .str s, .tup ds => some (db' (s.map chD) ds)
  | _, _ => none
@[simp] def rx' (a b : ME) : MI := fun ρ => (a ρ).bind fun x ρ1 => (b ρ1).bind fun y ρ2 => ofO (xw' x y) ρ2
@[simp] def zd' (a b : ME) : MI := fun ρ => (a ρ).bind fun x ρ1 => (b ρ1).bind fun y ρ2 => ofO (r7' x y) ρ2
@[simp] def oB' (a : ME) : MI := fun ρ => (a ρ).bind fun x ρ1 => ofO (enB x) ρ1
def Cy' : D -> Option (List D)
  | .dct ks _ => some ks
  | _ => none
def Cx' : D -> Option (List D)
  | .dct _ vs => some vs
  | _ => none
def rO' : D -> Option (List D)
  | .dct ks vs => some (db' ks vs)
  | _ => none
@[simp] def ry' (f : D -> Option (List D)) (a : ME) : MI := fun ρ => (a ρ).bind fun x ρ1 => ofO (f x) ρ1
@[simp] def gN (i : Nat) : MG := fun d ρ => if i < ρ.env.length then some ⟨ρ.env.set i (some (.fz d)), ρ.w⟩ else none
@[simp] def gNs : List Nat -> List D -> PSt -> Option PSt
  | [], [], ρ => some ρ
  | i :: is, d :: ds, ρ => (gN i d ρ).bind (gNs is ds)
  | _, _, _ => none
@[simp] def gT (is : List Nat) : MG := fun d ρ => match d with
  | .tup ds => gNs is ds ρ
  | _ => none
@[simp] def noX {α : Type} : Res α -> Res α
  | .exc _ _ => .bad
  | r => r
def al' : List Nat -> List (Option O) -> List (Option O)
  | [], env => env
  | i :: is, env => (al' is env).set i none
def back (env : List (Option O)) : List Nat -> List (Option O) -> List (Option O)
  | [], env' => env'
  | i :: is, env' => (back env is env').set i (match env[i]? with | some (some (.fz d)) => some (.fz d) | _ => none)
def lcL (own : List Nat) (g : MG) (t : MT) (e : ME) : List D -> List D -> PSt -> Res (List D)
  | [], acc, ρ => .ok acc ρ
  | x :: xs, acc, ρ => match g x ⟨al' own ρ.env, ρ.w⟩ with
    | none => .bad
    | some ρ1 => (noX (t ρ1)).bind fun k ρ2 => if k = true then (noX (e ρ2)).bind fun y ρ3 => if acc.length < cR' then lcL own g t e xs (acc ++ [y]) ρ3 else .bad else lcL own g t e xs acc ρ2
@[simp] def eLc (own : List Nat) (it : MI) (g : MG) (t : MT) (e : ME) : ME := fun ρ => (it ρ).bind fun xs ρ1 =>
  (lcL own g t e xs [] ρ1).bind fun ys ρ2 => .ok (.lst ys) ⟨back ρ1.env own (al' own ρ2.env), ρ2.w⟩
@[simp] def oLc (own : List Nat) (it : MI) (g : MG) (t : MT) (e : ME) : MO := fun ρ => (it ρ).bind fun xs ρ1 =>
  (lcL own g t e xs [] ρ1).bind fun ys ρ2 => .ok (.lst (ys.map .fz)) ⟨back ρ1.env own (al' own ρ2.env), ρ2.w⟩
def iv' (own : List Nat) (g : MG) (t : MT) (it1 : MI) (own1 : List Nat) (g1 : MG) (t1 : MT) (e : ME) : List D -> List D -> PSt -> Res (List D)
  | [], acc, ρ => .ok acc ρ
  | x :: xs, acc, ρ => match g x ⟨al' own ρ.env, ρ.w⟩ with
    | none => .bad
    | some ρ1 => (noX (t ρ1)).bind fun k ρ2 => if k = true then (noX (it1 ρ2)).bind fun ys ρ3 => (noX (lcL own1 g1 t1 e ys acc ρ3)).bind fun acc2 ρ4 => iv' own g t it1 own1 g1 t1 e xs acc2 ρ4 else iv' own g t it1 own1 g1 t1 e xs acc ρ2
@[simp] def xs' (own : List Nat) (it : MI) (g : MG) (t : MT) (it1 : MI) (own1 : List Nat) (g1 : MG) (t1 : MT) (e : ME) : MO := fun ρ => (it ρ).bind fun xs ρ1 =>
  (iv' own g t it1 own1 g1 t1 e xs [] ρ1).bind fun ys ρ2 => .ok (.lst (ys.map .fz)) ⟨back ρ1.env own (al' own ρ2.env), ρ2.w⟩
def dcL (own : List Nat) (g : MG) (t : MT) (ek ev : ME) : List D -> List D -> List D -> PSt -> Res (List D × List D)
  | [], ks, vs, ρ => .ok (ks, vs) ρ
  | x :: xs, ks, vs, ρ => match g x ⟨al' own ρ.env, ρ.w⟩ with
    | none => .bad
    | some ρ1 => (noX (t ρ1)).bind fun k ρ2 => if k = true then (noX (ek ρ2)).bind fun y ρ3 => (noX (ev ρ3)).bind fun z ρ4 => (if isK y = true /\ ks.length < cR' then (match ni' ks vs y z with
      | some p => dcL own g t ek ev xs p.1 p.2 ρ4
      | none => .bad) else .bad) else dcL own g t ek ev xs ks vs ρ2
@[simp] def oDc (own : List Nat) (it : MI) (g : MG) (t : MT) (ek ev : ME) : MO := fun ρ => (it ρ).bind fun xs ρ1 =>
  (dcL own g t ek ev xs [] [] ρ1).bind fun p ρ2 => .ok (.dct p.1 (p.2.map .fz)) ⟨back ρ1.env own (al' own ρ2.env), ρ2.w⟩
@[simp] def tT : MT := fun ρ => .ok true ρ
@[simp] def aS' : MS := fun ρ => .nx ρ
@[simp] def kQ' (a : ME) : MS := fun ρ => (a ρ).out fun _ ρ1 => .nx ρ1
@[simp] def bQ' (a : MO) : MS := fun ρ => (a ρ).out fun o ρ1 => .rt o ρ1.w
@[simp] def aq' (a b : MS) : MS := fun ρ => match a ρ with
  | .nx ρ1 => b ρ1
  | r => r
@[simp] def sIf (t : MT) (a b : MS) : MS := fun ρ => (t ρ).out fun k ρ1 => if k = true then a ρ1 else b ρ1
@[simp] def vN' (i : Nat) (o : O) (ρ : PSt) : Out := if i < ρ.env.length then .nx ⟨ρ.env.set i (some o), ρ.w⟩ else .bad
@[simp] def be' (i : Nat) (a : MO) : MS := fun ρ => (a ρ).out fun o ρ1 => vN' i o ρ1
@[simp] def ut' (g : MG) (a : ME) : MS := fun ρ => (a ρ).out fun d ρ1 => match g d ρ1 with | some ρ2 => .nx ρ2 | none => .bad
@[simp] def vU' (f : D -> D -> Option D) (i : Nat) (a : ME) : MS := fun ρ => match ρ.env[i]? with
  | some (some (.fz d)) => (a ρ).out fun y ρ1 => match f d y with | some z => vN' i (.fz z) ρ1 | none => .bad
  | _ => .bad
@[simp] def us' (x : String) : MS := fun ρ => .exc ⟨x, []⟩ ρ
@[simp] def ol' (i : Nat) (a : MO) : MS := fun ρ => match ρ.env[i]? with
  | some (some (.lst _)) => (a ρ).out fun o ρ1 => match ρ1.env[i]? with
    | some (some (.lst os)) => if os.length < cR' then .nx ⟨ρ1.env.set i (some (.lst (os ++ [o]))), ρ1.w⟩ else .bad
    | _ => .bad
  | _ => .bad
@[simp] def CZ' (w : W) : D -> Option D
  | .obj n => (match w[n]? with
    | some (.lst os) => some (.int os.length)
    | _ => none)
  | _ => none
@[simp] def qu' (i : Nat) (k a : ME) : MS := fun ρ => (a ρ).out fun d ρ1 => match ρ1.env[i]? with
  | some (some _) => (k ρ1).out fun y ρ2 => match ρ2.env[i]?, y with
    | some (some (.lst os)), .int z => match ixn os.length z with
      | some j => .nx ⟨ρ2.env.set i (some (.lst (os.set j (.fz d)))), ρ2.w⟩
      | none => .bad
    | _, _ => .bad
  | _ => .bad
@[simp] def sB' (w : W) (x k d : D) : Option W := match x, k with
  | .obj n, .int z => match w[n]? with
    | some (.lst os) => (ixn os.length z).map fun j => w.set n (.lst (os.set j (.fz d)))
    | _ => none
  | _, _ => none
@[simp] def if' (o k a : ME) : MS := fun ρ => (a ρ).out fun d ρ1 => (o ρ1).out fun x ρ2 => (k ρ2).out fun y ρ3 => match sB' ρ3.w x y d with
  | some w => .nx ⟨ρ3.env, w⟩
  | none => .bad
def nL' (g : MG) (b : MS) : List D -> MS
  | [], ρ => .nx ρ
  | d :: ds, ρ => match g d ρ with
    | none => .bad
    | some ρ1 => match b ρ1 with
      | .nx ρ2 => nL' g b ds ρ2
      | .ct ρ2 => nL' g b ds ρ2
      | .bk ρ2 => .nx ρ2
      | r => r
@[simp] def eZ' (it : MI) (g : MG) (b : MS) : MS := fun ρ => (it ρ).out fun ds ρ1 => nL' g b ds ρ1
def dN' (t : MT) (b : MS) : Nat -> MS
  | 0, _ => .bad
  | n + 1, ρ => (t ρ).out fun k ρ1 => if k = true then (match b ρ1 with
      | .nx ρ2 => dN' t b n ρ2
      | .ct ρ2 => dN' t b n ρ2
      | .bk ρ2 => .nx ρ2
      | r => r) else .nx ρ1
def u3' : Nat := 2 ^ 40
@[simp] def f7' (n : Nat) (t : MT) (b : MS) : MS := fun ρ => dN' t b n ρ
abbrev ET := List (String × String × Bool)
def sub : ET -> String -> String -> Option Bool
  | [], _, _ => none
  | (a, b, r) :: t, x, c => if a = x /\ b = c then some r else sub t x c
@[simp] def CX' : Out -> Out
  | .exc _ _ => .bad
  | r => r
@[simp] def Av' : MS := fun _ => .bad
@[simp] def hds (hs : List ((String -> Option Bool) × (Exc -> MS))) (x : Exc) (ρ : PSt) : Out := match hs with
  | [] => .exc x ρ
  | (g, h) :: r => (match g x.cls with
    | some true => CX' (h x ρ)
    | some false => hds r x ρ
    | none => .bad)
def qP' (f : String) (o : O) : List (String × O) -> List (String × O)
  | [] => [(f, o)]
  | (g, x) :: r => if g = f then (g, o) :: r else (g, x) :: qP' f o r
@[simp] def gz' (cs : List String) (f : String) (w : W) : D -> Option D
  | .obj n => (match w[n]? with
    | some (.ins C fs) => if C ∈ cs then (match fs.lookup f with | some (.fz d) => some d | _ => none) else none
    | _ => none)
  | _ => none
@[simp] def de' (cs : List String) (a : ME) (f : String) : ME := fun ρ => (a ρ).bind fun x ρ1 => ofO (gz' cs f ρ1.w x) ρ1
@[simp] def stF (cs : List String) (f : String) (o : O) (w : W) : D -> Option W
  | .obj n => (match w[n]? with
    | some (.ins C fs) => if C ∈ cs /\ fs.length < 1000 then some (w.set n (.ins C (qP' f o fs))) else none
    | _ => none)
  | _ => none
@[simp] def sFld (cs : List String) (a : ME) (f : String) (v : MO) : MS := fun ρ => (v ρ).out fun o ρ1 => (a ρ1).out fun x ρ2 => match stF cs f o ρ2.w x with
  | some w => .nx ⟨ρ2.env, w⟩
  | none => .bad
@[simp] def jD' (C : String) (init : MF) (as : MA) : MO := fun ρ => (as ρ).bind fun ds ρ1 => match init (.obj ρ1.w.length :: ds) (ρ1.w ++ [.ins C []]) with
  | .ok (.fz .non) w => .ok (.fz (.obj ρ1.w.length)) ⟨ρ1.env, w⟩
  | .ok _ _ => .bad
  | .exc x w => .exc x ⟨ρ1.env, w⟩
  | .bad => .bad
def jW' (cs : List String) (m : String) (w : W) : D -> Bool
  | .obj n => (match w[n]? with
    | some (.ins C' fs) => decide (C' ∈ cs) && (fs.lookup m).isNone
    | _ => false)
  | _ => false
@[simp] def k5' (cs : List String) (m : String) (f : MF) (a : ME) (as : MA) : MO := fun ρ => (a ρ).bind fun x ρ1 => if jW' cs m ρ1.w x = true then (as ρ1).bind fun ds ρ2 => fin (f (x :: ds) ρ2.w) ρ2 else .bad
def wG' : O -> Bool
  | .fz _ => true
  | _ => false
@[simp] def fnM (k n : Nat) (b : MS) : MF := fun ds w => if ds.length = k then (match b ⟨ds.map (fun d => some (.fz d)) ++ List.replicate (n - k) none, w⟩ with
    | .nx ρ => .ok (.fz .non) ρ.w
    | .rt o w => .ok o w
    | .exc x ρ => .exc x ρ.w
    | _ => .bad) else .bad
def C5' (x y : D) : Option (List D) := match x, y with
  | .str s, .lst ds => some (db' (s.map chD) ds)
  | _, _ => none
end M
namespace M
def Ds' (c : Nat) : D -> Option D
  | .str s => if s.length <= 1000000 then some (.str (s.filter fun d => decide (d ≠ c))) else none
  | _ => none
end M
namespace M
def C4' : D -> D -> Option (List D)
  | .tup a, .tup b => some (db' a b)
  | _, _ => none
def Dx' : O -> D -> Option O
  | .lst os, .lst ds => if os.length + ds.length <= cR' then some (.lst (os ++ ds.map .fz)) else none
  | _, _ => none
mutual
def okO : O -> Bool
  | .fz d => dat d
  | .lst os => okOs os
  | .tup os => okOs os
  | _ => false
def okOs : List O -> Bool
  | [] => true
  | o :: r => okO o && okOs r
end
def okM : List Bool -> List (Option O) -> Bool
  | [], _ => true
  | _ :: _, [] => false
  | false :: m, _ :: r => okM m r
  | true :: m, some o :: r => okO o && okM m r
  | true :: _, none :: _ => false
def sd' : List Bool -> List (Option O) -> List (Option O)
  | _, [] => []
  | [], _ :: r => none :: sd' [] r
  | false :: m, _ :: r => none :: sd' m r
  | true :: m, x :: r => (x.map fun o => .fz (frz o)) :: sd' m r
def At' : D -> Bool
  | .non => true | .bl _ => true | .int _ => true | .str _ => true
  | _ => false
def unO : O -> Option (List O)
  | .tup os => some os
  | .fz (.tup ds) => some (ds.map .fz)
  | _ => none
def xu' : List Nat -> List O -> PSt -> Option PSt
  | [], [], ρ => some ρ
  | i :: is, o :: os, ρ => if i < ρ.env.length then xu' is os ⟨ρ.env.set i (some o), ρ.w⟩ else none
  | _, _, _ => none
end M
namespace M
def yW' (a b : Tx) : Bool := !decide (b < a)
def x6' (l : List Tx) : List Tx := l.mergeSort yW'
def s3' : D -> Option D
  | .lst ds => (dM' ds).bind fun xs => if xs.length < 64 then some (.lst ((x6' xs).map .str)) else none
  | _ => none
end M
namespace M
end M
namespace M
end M
namespace M
def Bo' (a b : Nat × Tx) : Bool := decide (a.1 < b.1) || (decide (a.1 = b.1) && yW' a.2 b.2)
def ge' : List D -> List O -> Option (List (Nat × Tx))
  | [], [] => some []
  | .int i :: ks, .fz (.str s) :: os => if 0 <= i then (ge' ks os).map ((i.toNat, s) :: ·) else none
  | _, _ => none
def up' : O -> Option D
  | .dct ks os => (ge' ks os).map fun ps => .lst ((ps.mergeSort Bo').map fun p => .tup [.int (p.1 : Nat), .str p.2])
  | _ => none
end M
namespace M
mutual
def CW' (kl kd : Bool) : D -> Bool
  | .tup ds => nodDs kl kd ds
  | .lst ds => !kl && nodDs kl kd ds
  | .scr ds => !kl && nodDs kl kd ds
  | .dct _ vs => !kd && nodDs kl kd vs
  | .dcx ks vs => nodDs kl kd ks && nodDs kl kd vs
  | _ => true
def nodDs (kl kd : Bool) : List D -> Bool
  | [] => true
  | d :: r => CW' kl kd d && nodDs kl kd r
end
mutual
def CV' (kl kd : Bool) : O -> Bool
  | .fz d => CW' kl kd d
  | .lst os => nodOs kl kd os
  | .tup os => nodOs kl kd os
  | .dct _ os => nodOs kl kd os
  | .dcx ks os => nodDs kl kd ks && nodOs kl kd os
  | .exn => true
  | .clo => true
def nodOs (kl kd : Bool) : List O -> Bool
  | [] => true
  | o :: r => CV' kl kd o && nodOs kl kd r
end
def lendO (kl kd : Bool) : O -> Bool
  | .fz _ => true
  | .lst os => kl && os.all wG'
  | .dct _ os => kd && os.all wG'
  | _ => false
def okL (kl kd : Bool) : List Bool -> List (Option O) -> Bool
  | [], _ => true
  | _ :: _, [] => false
  | false :: m, _ :: r => okL kl kd m r
  | true :: m, some o :: r => lendO kl kd o && okL kl kd m r
  | true :: _, none :: _ => false
def Az' : O -> Nat
  | .fz _ => 0
  | _ => 1
def xg' : List Bool -> List (Option O) -> Nat
  | true :: m, some o :: r => Az' o + xg' m r
  | false :: m, _ :: r => xg' m r
  | _, _ => 0
def Dr' : D -> D -> Option D
  | .int i, .int j => if 0 <= j /\ j <= 1000 /\ small64 i = true then some (.int (i * 2 ^ j.toNat)) else none
  | _, _ => none
def Dq' : D -> D -> Option D
  | .int i, .int j => if 0 <= j then some (.int (i / 2 ^ j.toNat)) else none
  | _, _ => none
@[simp] def gL (is : List Nat) : MG := fun d ρ => match d with
  | .lst ds => gNs is ds ρ
  | _ => none
def gSq : List MG -> List D -> PSt -> Option PSt
  | [], [], ρ => some ρ
  | g :: gs, d :: ds, ρ => (g d ρ).bind (gSq gs ds)
  | _, _, _ => none
def gTg (gs : List MG) : MG := fun d ρ => match d with
  | .tup ds => gSq gs ds ρ
  | _ => none
end M
namespace M
end M
namespace M
end M
namespace M
end M
namespace M
end M
namespace M
end M
namespace M
end M
namespace M
def zp' : List Bool -> List D -> Option (List (Option O))
  | [], [] => some []
  | true :: m, ds => (zp' m ds).map (some .clo :: ·)
  | false :: m, d :: ds => (zp' m ds).map (some (.fz d) :: ·)
  | _, _ => none
inductive AK where
  | e (a : ME) | c (f : MF) (js : List Nat)
end M
namespace M
def allFz : List O -> Option (List D)
  | [] => some []
  | .fz d :: r => (allFz r).map (d :: ·)
  | _ => none
end M
namespace M
end M
namespace M
end M
namespace S
open PySem PySem.Spec PyProof.Rows L2
def CD' : Arguments -> Option (Str × Str)
  | ⟨[], [a, b], none, [], [], none, []⟩ => some (a.arg, b.arg)
  | _ => none
def CA' : FuncBody -> Option (Str × Str × Str × Str × Str)
  | .stmts [.Expr (.Call (.Attribute (.Call (.Name s _) [] [] _) m p) [.Constant (.str _) _ _] [] q) _, .Assign [.Attribute (.Name a _) f _] (.Name b _) _] => if (p.endLine == q.line) = true then some (s, m, a, f, b) else none
  | _ => none
def bmB (K : PySem.W.Frag) : Bool := match K.lookup (He.ga K "__builtins__") with
  | some ⟨.type m, some d, .plain, _⟩ => decide (m = "module") && (decide (d = builtinsNs) && (decide (He.ga K "__builtins__" ≠ builtinsNs) && decide (He.ga K "__builtins__" ≠ mainGlobals)))
  | _ => false
end S
namespace M
def f_is_integer : MF := fnM 1 1 ((bQ' (oE (tv' (eUn (b0' "int") (eV 0)) (zq' (eUn (b0' "bool") (eV 0)))))))
def f_is_string_of : MF := fnM 2 3 ((aq' (sIf (fA' (tE (eUn (b0' "str") (eV 0)))) (bQ' (oE (eC (.bl false)))) aS')
  (aq' (eZ' (eQ' (eV 0)) (gN 2) (sIf (tE (eOp gh' (eV 2) (eV 1))) (bQ' (oE (eC (.bl false)))) aS'))
  (bQ' (oE (eC (.bl true)))))))
def f_is_ascending : MF := fnM 1 3 ((aq' (eZ' (zd' (eV 0) (eSl (eV 0) (pSo (eC (.int 1))) pNo)) (gT [1, 2]) (sIf (tE (eOp pGe (eV 1) (eV 2))) (bQ' (oE (eC (.bl false)))) aS'))
  (bQ' (oE (eC (.bl true))))))
def f_is_choice : MF := fnM 2 2 ((bQ' (oE (tv' (eO (az' f_is_string_of (ac' (eV 0) (ac' (eV 1) aW')))) (eO (az' f_is_ascending (ac' (eV 0) aW')))))))
def f_is_word : MF := fnM 2 2 ((bQ' (az' f_is_string_of (ac' (eV 1) (ac' (de' ["Machine", "RawMachine"] (eV 0) "kept_letters") aW')))))
def f_are_states : MF := fnM 2 3 ((aq' (sIf (fA' (tE (eUn (b0' "tuple") (eV 0)))) (bQ' (oE (eC (.bl false)))) aS')
  (aq' (eZ' (eQ' (eV 0)) (gN 2) (sIf (tOr (fA' (tE (eO (az' f_is_integer (ac' (eV 2) aW'))))) (tOr (tE (eOp pLt (eV 2) (eC (.int 0)))) (tE (eOp pGe (eV 2) (eV 1))))) (bQ' (oE (eC (.bl false)))) aS'))
  (bQ' (oE (eC (.bl true)))))))
def f_is_table : MF := fnM 2 3 ((aq' (sIf (tOr (fA' (tE (eUn (b0' "tuple") (eV 0)))) (fA' (tE (gC' pLe pLe (eC (.int 1)) (eUn dH' (eV 0)) (eC (.int 6)))))) (bQ' (oE (eC (.bl false)))) aS')
  (aq' (eZ' (eQ' (eV 0)) (gN 2) (sIf (tOr (fA' (tE (eO (az' f_are_states (ac' (eV 2) (ac' (eUn dH' (eV 0)) aW')))))) (tE (eOp pNe (eUn dH' (eV 2)) (eUn dH' (eV 1))))) (bQ' (oE (eC (.bl false)))) aS'))
  (bQ' (oE (eC (.bl true)))))))
def f_Machine_keep : MF := fnM 4 4 ((aq' (sFld ["Machine", "RawMachine"] (eV 0) "kept_letters" (oE (eV 1)))
  (aq' (sFld ["Machine", "RawMachine"] (eV 0) "kept_table" (oE (eV 2)))
  (aq' (sFld ["Machine", "RawMachine"] (eV 0) "kept_accepts" (oE (eV 3)))
  (aq' (sFld ["Machine", "RawMachine"] (eV 0) "kept_least" (oE (eC .non)))
  (aq' (sFld ["Machine", "RawMachine"] (eV 0) "kept_field" (oE (eC .non)))
  (aq' (sFld ["Machine", "RawMachine"] (eV 0) "kept_lots" iq')
  (sFld ["Machine", "RawMachine"] (eV 0) "kept_more" iq'))))))))
def f_Machine___init__ : MF := fnM 4 4 ((aq' (sIf (tOr (fA' (tE (eO (az' f_is_choice (ac' (eV 1) (ac' (eC (.str [97, 98, 99, 100, 101, 102, 103, 104, 105, 106, 107, 108, 109, 110, 111, 112, 113, 114, 115, 116, 117, 118, 119, 120, 121, 122])) aW')))))) (fA' (tE (gC' pLe pLe (eC (.int 1)) (eUn dH' (eV 1)) (eC (.int 4)))))) Av' aS')
  (aq' (sIf (fA' (tE (eO (az' f_is_table (ac' (eV 2) (ac' (eV 1) aW')))))) Av' aS')
  (aq' (sIf (tOr (fA' (tE (eO (az' f_are_states (ac' (eV 3) (ac' (eUn dH' (eV 2)) aW')))))) (fA' (tE (eO (az' f_is_ascending (ac' (eV 3) aW')))))) Av' aS')
  (kQ' (eO (k5' ["Machine", "RawMachine"] "keep" f_Machine_keep (eV 0) (ac' (eV 1) (ac' (eV 2) (ac' (eV 3) aW'))))))))))
def f_RawMachine___init__ : MF := fnM 4 4 ((kQ' (eO (k5' ["Machine", "RawMachine"] "keep" f_Machine_keep (eV 0) (ac' (eV 1) (ac' (eV 2) (ac' (eV 3) aW')))))))
def f_led : MF := fnM 3 4 ((aq' (eZ' (eQ' (eV 2)) (gN 3) (be' 1 (oE (eOp pIx (eOp pIx (de' ["Machine", "RawMachine"] (eV 0) "kept_table") (eV 1)) (eMt jJ' (de' ["Machine", "RawMachine"] (eV 0) "kept_letters") (ac' (eV 3) aW'))))))
  (bQ' (oV 1))))
def f_reached : MF := fnM 1 5 ((aq' (be' 1 (ip' (iM' (ac' (eC (.int 0)) aW'))))
  (aq' (be' 2 (e7' false (eC (.int 0)) (eC (.bl true))))
  (aq' (be' 3 (oE (eC (.int 0))))
  (aq' (f7' u3' (tE (eOp pLt (eV 3) (gB' 1))) (aq' (eZ' (eQ' (eOp pIx (de' ["Machine", "RawMachine"] (eV 0) "kept_table") (sc' 1 (eV 3)))) (gN 4) (sIf (tE (tu' true 2 (eV 4))) (aq' (sa' 2 (eV 4) (eC (.bl true)))
  (ol' 1 (oE (eV 4)))) aS'))
  (vU' qT' 3 (eC (.int 1)))))
  (bQ' (oV 1)))))))
def f_numbered : MF := fnM 1 5 ((aq' (be' 1 s7')
  (aq' (be' 2 iq')
  (aq' (eZ' (ry' rO' (eV 0)) (gT [3, 4]) (aq' (sIf (tE (tu' true 1 (eV 4))) (sa' 1 (eV 4) (gB' 1)) aS')
  (sa' 2 (eV 3) (kE' 1 (eV 4)))))
  (bQ' (oV 2))))))
def f_alike_states : MF := fnM 2 7 ((aq' (be' 2 (az' f_numbered (ac' (eO (oDc [5] (eQ' (eV 1)) (gN 5) tT (eV 5) (eOp pIn (eV 5) (de' ["Machine", "RawMachine"] (eV 0) "kept_accepts")))) aW')))
  (aq' (be' 3 (oE (eC (.int 0))))
  (aq' (f7' u3' (tE (eOp pGe (eUn ot' (eV 2)) (eV 3))) (aq' (be' 3 (oE (eOp bX' (eUn ot' (eV 2)) (eC (.int 1)))))
  (aq' (be' 4 iq')
  (aq' (eZ' (eQ' (eV 1)) (gN 5) (sa' 4 (eV 5) (gP' (ac' (kE' 2 (eV 5)) (ac' (eUn cb' (eLc [6] (eQ' (eOp pIx (de' ["Machine", "RawMachine"] (eV 0) "kept_table") (eV 5))) (gN 6) tT (kE' 2 (eV 6)))) aW')))))
  (be' 2 (az' f_numbered (ac' (eV 4) aW')))))))
  (bQ' (oV 2))))))
def f_least : MF := fnM 1 9 ((aq' (sIf (tE (eOp pIs (de' ["Machine", "RawMachine"] (eV 0) "kept_least") (eC .non))) (aq' (be' 1 (az' f_reached (ac' (eV 0) aW')))
  (aq' (be' 2 (az' f_alike_states (ac' (eV 0) (ac' (eV 1) aW'))))
  (aq' (be' 3 iq')
  (aq' (eZ' (eQ' (eV 1)) (gN 4) (kQ' (hL' 3 (kE' 2 (eV 4)) (eV 4))))
  (aq' (be' 5 (ip' (iM' aW')))
  (aq' (eZ' (eQ' (eUn cX' (eV 3))) (gN 6) (ol' 5 (oE (eUn cb' (eLc [8] (eQ' (eOp pIx (de' ["Machine", "RawMachine"] (eV 0) "kept_table") (kE' 3 (eV 6)))) (gN 8) tT (kE' 2 (eV 8)))))))
  (aq' (be' 7 (oE (eUn cb' (eLc [6] (eQ' (eUn cX' (eV 3))) (gN 6) (tE (eOp pIn (kE' 3 (eV 6)) (de' ["Machine", "RawMachine"] (eV 0) "kept_accepts"))) (eV 6)))))
  (aq' (sFld ["Machine", "RawMachine"] (eV 0) "kept_least" (jD' "RawMachine" f_RawMachine___init__ (ac' (de' ["Machine", "RawMachine"] (eV 0) "kept_letters") (ac' (eUn cb' (eV 5)) (ac' (eV 7) aW')))))
  (sFld ["Machine", "RawMachine"] (de' ["Machine", "RawMachine"] (eV 0) "kept_least") "kept_least" (oE (de' ["Machine", "RawMachine"] (eV 0) "kept_least"))))))))))) aS')
  (bQ' (oE (de' ["Machine", "RawMachine"] (eV 0) "kept_least")))))
def f_parting : MF := fnM 2 11 ((aq' (sIf (tE (eOp pNe (de' ["Machine", "RawMachine"] (eV 0) "kept_letters") (de' ["Machine", "RawMachine"] (eV 1) "kept_letters"))) (us' "OtherLetters") aS')
  (aq' (be' 2 (ip' (iM' (ac' (gP' (ac' (eC (.int 0)) (ac' (eC (.int 0)) (ac' (eC (.str [])) aW')))) aW'))))
  (aq' (be' 3 (e7' true (gP' (ac' (eC (.int 0)) (ac' (eC (.int 0)) aW'))) (eC (.bl true))))
  (aq' (be' 4 (oE (eC (.int 0))))
  (aq' (f7' u3' (tE (eOp pLt (eV 4) (gB' 2))) (aq' (ut' (gT [5, 6, 7]) (sc' 2 (eV 4)))
  (aq' (sIf (tE (eOp pNe (eOp pIn (eV 5) (de' ["Machine", "RawMachine"] (eV 0) "kept_accepts")) (eOp pIn (eV 6) (de' ["Machine", "RawMachine"] (eV 1) "kept_accepts")))) (bQ' (oV 7)) aS')
  (aq' (eZ' (oB' (de' ["Machine", "RawMachine"] (eV 0) "kept_letters")) (gT [8, 9]) (aq' (be' 10 (oE (gP' (ac' (eOp pIx (eOp pIx (de' ["Machine", "RawMachine"] (eV 0) "kept_table") (eV 5)) (eV 8)) (ac' (eOp pIx (eOp pIx (de' ["Machine", "RawMachine"] (eV 1) "kept_table") (eV 6)) (eV 8)) aW')))))
  (sIf (tE (tu' true 3 (eV 10))) (aq' (sa' 3 (eV 10) (eC (.bl true)))
  (ol' 2 (oE (gP' (ac' (eOp pIx (eV 10) (eC (.int 0))) (ac' (eOp pIx (eV 10) (eC (.int 1))) (ac' (eOp bX' (eV 7) (eV 9)) aW'))))))) aS')))
  (vU' qT' 4 (eC (.int 1)))))))
  (bQ' (oE (eC .non)))))))))
def f_pairs_of : MF := fnM 1 3 ((bQ' (xs' [1, 2] (eQ' (eV 0)) (gN 1) tT (eQ' (eV 0)) [2] (gN 2) (tE (eOp pLt (eV 1) (eV 2))) (gP' (ac' (eV 1) (ac' (eV 2) aW'))))))
def f_first_words : MF := fnM 1 6 ((aq' (be' 1 (e7' false (eC (.int 0)) (eC (.str []))))
  (aq' (be' 2 (ip' (iM' (ac' (eC (.int 0)) aW'))))
  (aq' (f7' u3' (tE (eOp pGt (gB' 2) (eC (.int 0)))) (aq' (be' 3 (oE (hK' 2 (eC (.int 0)))))
  (eZ' (rx' (de' ["Machine", "RawMachine"] (eV 0) "kept_letters") (eOp pIx (de' ["Machine", "RawMachine"] (eV 0) "kept_table") (eV 3))) (gT [4, 5]) (sIf (tE (tu' true 1 (eV 5))) (aq' (sa' 1 (eV 5) (eOp bX' (kE' 1 (eV 3)) (eV 4)))
  (ol' 2 (oE (eV 5)))) aS'))))
  (bQ' (oV 1))))))
def f_begun_at : MF := fnM 2 9 ((aq' (be' 2 (oE (eOp bX' (iM' (ac' (eV 1) aW')) (eLc [6] (bN' (eUn dH' (de' ["Machine", "RawMachine"] (eV 0) "kept_table"))) (gN 6) (tE (eOp pNe (eV 6) (eV 1))) (eV 6)))))
  (aq' (be' 3 (oDc [7, 6] (oB' (eV 2)) (gT [7, 6]) tT (eV 6) (eV 7)))
  (aq' (be' 4 (oE (eUn cb' (eLc [6] (eQ' (eV 2)) (gN 6) tT (eUn cb' (eLc [8] (eQ' (eOp pIx (de' ["Machine", "RawMachine"] (eV 0) "kept_table") (eV 6))) (gN 8) tT (kE' 3 (eV 8))))))))
  (aq' (be' 5 (oE (eUn cb' (eUn cY' (eLc [6] (eQ' (de' ["Machine", "RawMachine"] (eV 0) "kept_accepts")) (gN 6) tT (kE' 3 (eV 6)))))))
  (bQ' (jD' "RawMachine" f_RawMachine___init__ (ac' (de' ["Machine", "RawMachine"] (eV 0) "kept_letters") (ac' (eV 4) (ac' (eV 5) aW'))))))))))
def f_swap : MF := fnM 1 9 ((aq' (be' 1 (az' f_least (ac' (eV 0) aW')))
  (aq' (be' 2 (az' f_first_words (ac' (eV 1) aW')))
  (aq' (eZ' (eQ' (eO (az' f_pairs_of (ac' (de' ["Machine", "RawMachine"] (eV 1) "kept_letters") aW')))) (gT [3, 4]) (eZ' (eQ' (eUn cX' (eV 2))) (gN 5) (aq' (be' 6 (az' f_led (ac' (eV 1) (ac' (eV 5) (ac' (eOp bX' (eV 3) (eV 4)) aW')))))
  (aq' (be' 7 (az' f_led (ac' (eV 1) (ac' (eV 5) (ac' (eOp bX' (eV 4) (eV 3)) aW')))))
  (sIf (tE (eOp pNe (eV 6) (eV 7))) (aq' (be' 8 (az' f_parting (ac' (eO (az' f_begun_at (ac' (eV 1) (ac' (eV 6) aW')))) (ac' (eO (az' f_begun_at (ac' (eV 1) (ac' (eV 7) aW')))) aW'))))
  (aq' (sIf (tE (eOp pIn (eO (az' f_led (ac' (eV 1) (ac' (eV 6) (ac' (eV 8) aW'))))) (de' ["Machine", "RawMachine"] (eV 1) "kept_accepts"))) (bQ' (oE (gP' (ac' (kE' 2 (eV 5)) (ac' (eV 3) (ac' (eV 4) (ac' (eV 8) aW'))))))) aS')
  (bQ' (oE (gP' (ac' (kE' 2 (eV 5)) (ac' (eV 4) (ac' (eV 3) (ac' (eV 8) aW'))))))))) aS')))))
  (bQ' (oE (eC .non)))))))
def f_is_letter : MF := fnM 2 2 ((bQ' (oE (tv' (eO (az' f_is_string_of (ac' (eV 1) (ac' (de' ["Machine", "RawMachine"] (eV 0) "kept_letters") aW')))) (eOp pEq (eUn dH' (eV 1)) (eC (.int 1)))))))
def f_is_swap_form : MF := fnM 2 2 ((aq' (sIf (tOr (fA' (tE (eUn (b0' "tuple") (eV 1)))) (tE (eOp pNe (eUn dH' (eV 1)) (eC (.int 4))))) (bQ' (oE (eC (.bl false)))) aS')
  (aq' (sIf (tOr (fA' (tE (eO (az' f_is_letter (ac' (eV 0) (ac' (eOp pIx (eV 1) (eC (.int 1))) aW')))))) (fA' (tE (eO (az' f_is_letter (ac' (eV 0) (ac' (eOp pIx (eV 1) (eC (.int 2))) aW'))))))) (bQ' (oE (eC (.bl false)))) aS')
  (bQ' (oE (tv' (eO (az' f_is_word (ac' (eV 0) (ac' (eOp pIx (eV 1) (eC (.int 0))) aW')))) (eO (az' f_is_word (ac' (eV 0) (ac' (eOp pIx (eV 1) (eC (.int 3))) aW'))))))))))
def f_swap_fault : MF := fnM 2 6 ((aq' (sIf (fA' (tE (eO (az' f_is_swap_form (ac' (eV 0) (ac' (eV 1) aW')))))) (bQ' (oE (gP' (ac' (eC (.str [102, 111, 114, 109])) aW')))) aS')
  (aq' (ut' (gT [2, 3, 4, 5]) (eV 1))
  (aq' (sIf (tE (eOp gh' (eO (az' f_led (ac' (eV 0) (ac' (eC (.int 0)) (ac' (eOp bX' (eOp bX' (eOp bX' (eV 2) (eV 3)) (eV 4)) (eV 5)) aW'))))) (de' ["Machine", "RawMachine"] (eV 0) "kept_accepts"))) (bQ' (oE (gP' (ac' (eC (.str [110, 111])) aW')))) aS')
  (aq' (sIf (tE (eOp pIn (eO (az' f_led (ac' (eV 0) (ac' (eC (.int 0)) (ac' (eOp bX' (eOp bX' (eOp bX' (eV 2) (eV 4)) (eV 3)) (eV 5)) aW'))))) (de' ["Machine", "RawMachine"] (eV 0) "kept_accepts"))) (bQ' (oE (gP' (ac' (eC (.str [97, 108, 105, 107, 101])) aW')))) aS')
  (bQ' (oE (eC .non))))))))
def f__law_hand : MF := fnM 1 3 ((aq' (be' 1 (oLc [2] (eQ' (eSl (eV 0) pNo (pSo (eC (.int 63))))) (gN 2) tT (eUn Ay' (eUn iL' (eV 2)))))
  (bQ' (yJ' (ac' (eV 1) (ac' (eC (.int 0)) (ac' (eC (.int 0)) (ac' (eOp bX' (eC (.int 1)) (eUn dH' (eV 1))) (ac' (eC (.int 0)) aW')))))))))
def f__law_draw : MF := fnM 2 5 ((aq' (sIf (sw' (tE (eOp pEq (iN' (eV 0) (eC (.int 2))) (eC (.int 0)))) (tE (eOp pLt (iN' (eV 0) (eC (.int 1))) (eUn dH' (iN' (eV 0) (eC (.int 0))))))) (aq' (be' 2 (oE (eOp pIx (iN' (eV 0) (eC (.int 0))) (iN' (eV 0) (eC (.int 1))))))
  (aq' (if' (eV 0) (eC (.int 1)) (eOp bX' (iN' (eV 0) (eC (.int 1))) (eC (.int 1))))
  (aq' (if' (eV 0) (eC (.int 3)) (eOp kD' (eUn iL' (eOp bX' (eOp bX' (eOp kC' (iN' (eV 0) (eC (.int 3))) (eC (.int 69621))) (eV 2)) (eC (.int 11)))) (eC (.int 2147483629))))
  (sIf (tE (eOp pGe (eV 2) (eOp yF' (eC (.int 10)) (eC (.int 18))))) (if' (eV 0) (eC (.int 2)) (eV 2)) aS')))) aS')
  (aq' (sIf (tE (eOp pGt (iN' (eV 0) (eC (.int 2))) (eC (.int 0)))) (aq' (be' 3 (oE (eOp kD' (eUn iL' (iN' (eV 0) (eC (.int 2)))) (eV 1))))
  (aq' (if' (eV 0) (eC (.int 2)) (eOp jx' (iN' (eV 0) (eC (.int 2))) (eV 1)))
  (bQ' (oV 3)))) aS')
  (aq' (if' (eV 0) (eC (.int 4)) (eOp bX' (iN' (eV 0) (eC (.int 4))) (eC (.int 1))))
  (aq' (be' 4 (oE (eOp kD' (eUn iL' (eOp kC' (eUn iL' (eOp bX' (iN' (eV 0) (eC (.int 3))) (eOp kC' (eC (.int 7919)) (iN' (eV 0) (eC (.int 4)))))) (eC (.int 48271)))) (eC (.int 2147483647)))))
  (aq' (be' 4 (oE (eOp kD' (eUn iL' (eOp kC' (eV 4) (eOp bX' (eOp jx' (eV 4) (eC (.int 1009))) (eC (.int 69621))))) (eC (.int 2147483647)))))
  (aq' (be' 4 (oE (eOp kD' (eUn iL' (eOp kC' (eV 4) (eOp bX' (eOp jx' (eV 4) (eC (.int 2003))) (eC (.int 40692))))) (eC (.int 2147483399)))))
  (bQ' (oE (eOp kD' (eUn iL' (eOp jx' (eV 4) (eC (.int 16)))) (eV 1)))))))))))
def f__law_letters : MF := fnM 3 7 ((aq' (be' 3 (oE (eV 1)))
  (aq' (be' 4 (oE (eC (.str []))))
  (aq' (eZ' (bN' (eV 2)) (gN 5) (aq' (be' 6 (az' f__law_draw (ac' (eV 0) (ac' (eUn dH' (eV 3)) aW'))))
  (aq' (be' 4 (oE (eOp bX' (eV 4) (eOp pIx (eV 3) (eV 6)))))
  (be' 3 (oE (eOp bX' (eSl (eV 3) pNo (pSo (eV 6))) (eSl (eV 3) (pSo (eOp bX' (eV 6) (eC (.int 1)))) pNo)))))))
  (bQ' (oV 4))))))
def f__law_shuffled : MF := fnM 2 5 ((aq' (be' 2 (ip' (eUn e1' (eV 1))))
  (aq' (be' 3 (ip' (iM' aW')))
  (aq' (eZ' (bN' (eUn dH' (eV 1))) (gN 4) (ol' 3 (oE (hK' 2 (eO (az' f__law_draw (ac' (eV 0) (ac' (gB' 2) aW'))))))))
  (bQ' (oV 3))))))
def f__law_rows : MF := fnM 4 11 ((aq' (be' 4 (ip' (iM' aW')))
  (aq' (be' 5 (oLc [9] (bN' (eV 3)) (gN 9) tT (eO (az' f__law_draw (ac' (eV 0) (ac' (eV 2) aW'))))))
  (aq' (be' 6 (oLc [9] (bN' (eV 3)) (gN 9) tT (eO (az' f__law_shuffled (ac' (eV 0) (ac' (eO (ip' (eUn eh' (eV 2)))) aW'))))))
  (aq' (eZ' (bN' (eV 2)) (gN 7) (aq' (be' 8 (ip' (iM' aW')))
  (aq' (eZ' (bN' (eV 3)) (gN 9) (aq' (be' 10 (az' f__law_draw (ac' (eV 0) (ac' (eV 2) aW'))))
  (aq' (sIf (tE (eOp pEq (eV 1) (eC (.int 3)))) (be' 10 (oE (eOp kD' (eUn iL' (eOp bX' (eV 7) (eOp pIx (eV 5) (eV 9)))) (eV 2)))) aS')
  (aq' (sIf (tE (eOp pEq (eV 1) (eC (.int 4)))) (be' 10 (oE (eOp or' (eOp uC' (eV 2) (eC (.int 1))) (eOp bX' (eV 7) (eOp pIx (eV 5) (eV 9)))))) aS')
  (aq' (sIf (tE (eOp pEq (eV 1) (eC (.int 5)))) (aq' (be' 10 (oE (eV 7)))
  (sIf (tE (eOp pEq (eV 7) (eC (.int 0)))) (be' 10 (oE (eOp kD' (eUn iL' (eOp bX' (eC (.int 1)) (eV 9))) (eV 2)))) aS')) aS')
  (aq' (sIf (tE (eOp pEq (eV 1) (eC (.int 6)))) (be' 10 (oE (eOp kD' (eUn iL' (eOp bX' (eC (.int 1)) (eV 9))) (eV 2)))) aS')
  (aq' (sIf (tE (eOp pEq (eV 1) (eC (.int 7)))) (be' 10 (oE (eOp or' (eOp uC' (eV 2) (eC (.int 1))) (eOp bX' (eV 7) (eUn iL' (eOp pEq (eOp kD' (eV 7) (eV 3)) (eV 9))))))) aS')
  (aq' (sIf (tE (eOp pEq (eV 1) (eC (.int 8)))) (aq' (be' 10 (oE (eOp uC' (eV 2) (eC (.int 1)))))
  (sIf (sw' (tE (eOp pLt (eV 7) (eOp uC' (eV 2) (eC (.int 1))))) (tE (eOp pEq (eOp kD' (eV 7) (eV 3)) (eV 9)))) (be' 10 (oE (eOp kD' (eUn iL' (eOp bX' (eV 7) (eC (.int 1)))) (eOp uC' (eV 2) (eC (.int 1)))))) aS')) aS')
  (aq' (sIf (tE (eOp pEq (eV 1) (eC (.int 9)))) (be' 10 (oE (eOp pIx (eOp pIx (eV 6) (eV 9)) (eV 7)))) aS')
  (ol' 8 (oE (eV 10))))))))))))
  (ol' 4 (oE (eUn cb' (eV 8)))))))
  (bQ' (oE (eUn cb' (eV 4)))))))))
def f__law_parts : MF := fnM 3 10 ((aq' (be' 3 (az' f__law_draw (ac' (eV 0) (ac' (eC (.int 10)) aW'))))
  (aq' (be' 4 (oE (eOp bX' (eC (.int 1)) (eO (az' f__law_draw (ac' (eV 0) (ac' (eV 1) aW')))))))
  (aq' (be' 5 (oE (eOp bX' (eC (.int 1)) (eO (az' f__law_draw (ac' (eV 0) (ac' (eV 2) aW')))))))
  (aq' (sIf (tE (eOp pGt (eV 3) (eC (.int 4)))) (aq' (be' 5 (oE (eOp qS' (eC (.int 2)) (eV 5))))
  (be' 4 (oE (eOp qS' (eOp or' (eC (.int 2)) (eV 1)) (eV 4))))) aS')
  (aq' (be' 6 (oE (eMt la' (eC (.str [])) (ac' (eUn cY' (eO (az' f__law_letters (ac' (eV 0) (ac' (eC (.str [97, 98, 99, 100, 101, 102, 103, 104, 105, 106, 107, 108, 109, 110, 111, 112, 113, 114, 115, 116, 117, 118, 119, 120, 121, 122])) (ac' (eV 4) aW')))))) aW'))))
  (aq' (be' 7 (az' f__law_rows (ac' (eV 0) (ac' (eV 3) (ac' (eV 5) (ac' (eV 4) aW'))))))
  (aq' (be' 8 (oE (eUn cb' (eLc [9] (bN' (eV 5)) (gN 9) (tE (eOp pEq (eO (az' f__law_draw (ac' (eV 0) (ac' (eC (.int 2)) aW')))) (eC (.int 1)))) (eV 9)))))
  (bQ' (oE (gP' (ac' (eV 6) (ac' (eV 7) (ac' (eV 8) aW'))))))))))))))
def f__law_says : MF := fnM 4 6 ((aq' (be' 4 (oE (eC (.int 0))))
  (aq' (eZ' (eQ' (eV 3)) (gN 5) (be' 4 (oE (eOp pIx (eOp pIx (eV 1) (eV 4)) (eMt rb' (eV 0) (ac' (eV 5) aW'))))))
  (bQ' (oE (eOp pIn (eV 4) (eV 2)))))))
def f__law_word : MF := fnM 3 5 ((aq' (be' 3 (oE (eC (.str []))))
  (aq' (eZ' (bN' (eV 2)) (gN 4) (be' 3 (oE (eOp bX' (eV 3) (eOp pIx (eV 1) (eO (az' f__law_draw (ac' (eV 0) (ac' (eUn dH' (eV 1)) aW')))))))))
  (bQ' (oV 3)))))
def f__law_is_word : MF := fnM 2 3 ((bQ' (oE (tv' (eUn (b0' "str") (eV 1)) (eUn v8' (eLc [2] (eQ' (eV 1)) (gN 2) tT (eOp pIn (eV 2) (eV 0))))))))
def f__law_due : MF := fnM 4 9 ((aq' (sIf (tOr (fA' (tE (eUn (b0' "tuple") (eV 3)))) (tE (eOp pNe (eUn dH' (eV 3)) (eC (.int 4))))) (bQ' (oE (gP' (ac' (eC (.str [102, 111, 114, 109])) aW')))) aS')
  (aq' (sIf (tOr (fA' (tE (eUn v8' (eLc [8] (eQ' (eV 3)) (gN 8) tT (eO (az' f__law_is_word (ac' (eV 0) (ac' (eV 8) aW')))))))) (tOr (tE (eOp pNe (eUn dH' (eOp pIx (eV 3) (eC (.int 1)))) (eC (.int 1)))) (tE (eOp pNe (eUn dH' (eOp pIx (eV 3) (eC (.int 2)))) (eC (.int 1)))))) (bQ' (oE (gP' (ac' (eC (.str [102, 111, 114, 109])) aW')))) aS')
  (aq' (ut' (gT [4, 5, 6, 7]) (eV 3))
  (aq' (sIf (fA' (tE (eO (az' f__law_says (ac' (eV 0) (ac' (eV 1) (ac' (eV 2) (ac' (eOp bX' (eOp bX' (eOp bX' (eV 4) (eV 5)) (eV 6)) (eV 7)) aW')))))))) (bQ' (oE (gP' (ac' (eC (.str [110, 111])) aW')))) aS')
  (aq' (sIf (tE (eO (az' f__law_says (ac' (eV 0) (ac' (eV 1) (ac' (eV 2) (ac' (eOp bX' (eOp bX' (eOp bX' (eV 4) (eV 6)) (eV 5)) (eV 7)) aW'))))))) (bQ' (oE (gP' (ac' (eC (.str [97, 108, 105, 107, 101])) aW')))) aS')
  (bQ' (oE (eC .non)))))))))
def f__law_spoiled : MF := fnM 3 7 ((aq' (be' 3 (oE (iM' (ac' (eC .non) (ac' (eC (.int 1)) (ac' (eC (.bl true)) (ac' (eC (.str [])) (ac' (eOp kC' (eOp pIx (eV 1) (eC (.int 0))) (eC (.int 2))) (ac' (eC (.str [63])) (ac' (eC (.str [65])) (ac' (iM' (ac' (eC (.str [97])) aW')) (ac' (gP' (ac' (eC (.str [97])) aW')) (ac' (eO iq') (ac' (eOp bX' (eOp pIx (eV 1) (eC (.int 0))) (eC (.str [32]))) (ac' (eC (.str [122, 122])) (ac' (iM' (ac' (iM' aW') aW')) (ac' (eV 1) aW')))))))))))))))))
  (aq' (be' 4 (az' f__law_draw (ac' (eV 0) (ac' (eC (.int 8)) aW'))))
  (aq' (be' 5 (az' f__law_draw (ac' (eV 0) (ac' (eC (.int 4)) aW'))))
  (aq' (be' 6 (ip' (eUn e1' (eV 2))))
  (aq' (sIf (tE (eOp pEq (eV 4) (eC (.int 0)))) (qu' 6 (eV 5) (eOp pIx (eV 3) (eO (az' f__law_draw (ac' (eV 0) (ac' (eUn dH' (eV 3)) aW')))))) aS')
  (aq' (sIf (tE (eOp pEq (eV 4) (eC (.int 1)))) (bQ' (oV 6)) aS')
  (aq' (sIf (tE (eOp pEq (eV 4) (eC (.int 2)))) (be' 6 (ip' (eOp bX' (eSl (eV 6) pNo (pSo (eV 5))) (eSl (eV 6) (pSo (eOp bX' (eV 5) (eC (.int 1)))) pNo)))) aS')
  (aq' (sIf (tE (eOp pEq (eV 4) (eC (.int 3)))) (ol' 6 (oE (eOp pIx (eV 3) (eO (az' f__law_draw (ac' (eV 0) (ac' (eUn dH' (eV 3)) aW'))))))) aS')
  (aq' (sIf (tE (eOp pEq (eV 4) (eC (.int 4)))) (be' 6 (ip' (iM' (ac' (sc' 6 (eC (.int 0))) (ac' (sc' 6 (eC (.int 2))) (ac' (sc' 6 (eC (.int 1))) (ac' (sc' 6 (eC (.int 3))) aW'))))))) aS')
  (aq' (sIf (tE (eOp pEq (eV 4) (eC (.int 5)))) (bQ' (oE (eOp pIx (eV 3) (eO (az' f__law_draw (ac' (eV 0) (ac' (eUn dH' (eV 3)) aW'))))))) aS')
  (bQ' (oE (eUn cb' (eV 6)))))))))))))))
def f_law : MF := fnM 1 13 ((aq' (be' 1 (az' f__law_hand (ac' (eV 0) aW')))
  (aq' (ut' (gT [2, 3, 4]) (eO (az' f__law_parts (ac' (eV 1) (ac' (eC (.int 3)) (ac' (eC (.int 5)) aW'))))))
  (aq' (be' 5 (jD' "Machine" f_Machine___init__ (ac' (eV 2) (ac' (eV 3) (ac' (eV 4) aW')))))
  (aq' (be' 6 (az' f_swap (ac' (eV 5) aW')))
  (aq' (eZ' (bN' (eC (.int 8))) (gN 7) (aq' (be' 8 (oLc [12] (bN' (eC (.int 2))) (gN 12) tT (eO (az' f__law_word (ac' (eV 1) (ac' (eV 2) (ac' (eO (az' f__law_draw (ac' (eV 1) (ac' (eC (.int 5)) aW')))) aW')))))))
  (aq' (be' 9 (oE (gP' (ac' (eOp pIx (eV 8) (eC (.int 0))) (ac' (eO (az' f__law_word (ac' (eV 1) (ac' (eV 2) (ac' (eC (.int 1)) aW'))))) (ac' (eO (az' f__law_word (ac' (eV 1) (ac' (eV 2) (ac' (eC (.int 1)) aW'))))) (ac' (eOp pIx (eV 8) (eC (.int 1))) aW')))))))
  (aq' (sIf (sw' (tE (eOp e2' (eV 6) (eC .non))) (tE (eOp pLt (eV 7) (eC (.int 4))))) (be' 9 (oE (eV 6))) aS')
  (aq' (be' 9 (az' f__law_spoiled (ac' (eV 1) (ac' (eV 2) (ac' (eV 9) aW')))))
  (aq' (be' 10 (oE (eUn uD' (eV 9))))
  (aq' (be' 11 (az' f_swap_fault (ac' (eV 5) (ac' (eV 9) aW'))))
  (aq' (sIf (tOr (tE (eOp pNe (eV 11) (eO (az' f__law_due (ac' (eV 2) (ac' (eV 3) (ac' (eV 4) (ac' (eV 9) aW')))))))) (tE (eOp xq' (eUn uD' (eV 9)) (eV 10)))) (bQ' (oE (eC (.bl false)))) aS')
  (sIf (sw' (tE (eOp e2' (eV 11) (eC .non))) (fA' (tE (eUn (b0' "tuple") (eV 11))))) (bQ' (oE (eC (.bl false)))) aS')))))))))
  (bQ' (oE (eC (.bl true))))))))))
end M
namespace S
open PySem PySem.Spec PyProof.Rows L2
def top (i : Nat) : Stmt := PySem.Challenge.pw_saidacross_k30_spoiled_swaps.main.body.getD i (.Pass ⟨0, 0, 0, 0⟩)
abbrev a5' : Stmt := top 6
abbrev ky' : List Str := ["thing"]
theorem id' : FnScope ky' ["thing"] (defScope a5') := (by walk_at "3")
def eu' : He.DefD := ⟨("is_integer", none), "is_integer", "is_integer", defArgs a5', defBody a5', defScope a5', [], []⟩
abbrev aJ' : Stmt := top 7
abbrev g4' : List Str := ["thing", "signs", "sign"]
theorem dh' : FnScope g4' ["thing", "signs"] (defScope aJ') := (by walk_at "3")
def ds' : He.DefD := ⟨("is_string_of", none), "is_string_of", "is_string_of", defArgs aJ', defBody aJ', defScope aJ', [], []⟩
abbrev aK' : Stmt := top 8
abbrev g5' : List Str := ["thing", "one", "other"]
theorem co' : FnScope g5' ["thing"] (defScope aK') := (by walk_at "3")
def dt' : He.DefD := ⟨("is_ascending", none), "is_ascending", "is_ascending", defArgs aK', defBody aK', defScope aK', [], []⟩
abbrev bh' : Stmt := top 9
abbrev lN' : List Str := ["thing", "signs"]
theorem jr' : FnScope lN' ["thing", "signs"] (defScope bh') := (by walk_at "3")
def fg' : He.DefD := ⟨("is_choice", none), "is_choice", "is_choice", defArgs bh', defBody bh', defScope bh', [], []⟩
abbrev bJ' : Stmt := top 10
abbrev r6' : List Str := ["machine", "thing"]
theorem oj' : FnScope r6' ["machine", "thing"] (defScope bJ') := (by walk_at "3")
def hQ' : He.DefD := ⟨("is_word", none), "is_word", "is_word", defArgs bJ', defBody bJ', defScope bJ', [], []⟩
abbrev a6' : Stmt := top 12
abbrev kz' : List Str := ["thing", "many", "state"]
theorem ee' : FnScope kz' ["thing", "many"] (defScope a6') := (by walk_at "3")
def ev' : He.DefD := ⟨("are_states", none), "are_states", "are_states", defArgs a6', defBody a6', defScope a6', [], []⟩
abbrev by' : Stmt := top 13
abbrev oS' : List Str := ["thing", "letters", "row"]
theorem f0' : FnScope oS' ["thing", "letters"] (defScope by') := (by walk_at "3")
def gF' : He.DefD := ⟨("is_table", none), "is_table", "is_table", defArgs by', defBody by', defScope by', [], []⟩
abbrev ap' : Stmt := inClass (top 14) 0
abbrev eA' : List Str := ["self", "letters", "table", "accepts"]
theorem dY' : FnScope eA' ["self", "letters", "table", "accepts"] (defScope ap') := (by walk_at "3")
def cu' : He.DefD := ⟨("Machine", some "__init__"), "__init__", "Machine.__init__", defArgs ap', defBody ap', defScope ap', [], []⟩
abbrev aN' : Stmt := inClass (top 14) 1
abbrev g8' : List Str := ["self", "letters", "table", "accepts"]
theorem f5' : FnScope g8' ["self", "letters", "table", "accepts"] (defScope aN') := (by walk_at "3")
def dy' : He.DefD := ⟨("Machine", some "keep"), "keep", "Machine.keep", defArgs aN', defBody aN', defScope aN', [], []⟩
abbrev ak' : Stmt := inClass (top 15) 0
abbrev dC' : List Str := ["self", "letters", "table", "accepts"]
theorem c8' : FnScope dC' ["self", "letters", "table", "accepts"] (defScope ak') := (by walk_at "3")
def b5' : He.DefD := ⟨("RawMachine", some "__init__"), "__init__", "RawMachine.__init__", defArgs ak', defBody ak', defScope ak', [], []⟩
abbrev gR' : Stmt := top 16
abbrev CH' : List Str := ["machine", "state", "word", "letter"]
theorem qr' : FnScope CH' ["machine", "state", "word"] (defScope gR') := (by walk_at "3")
def uT' : He.DefD := ⟨("led", none), "led", "led", defArgs gR', defBody gR', defScope gR', [], []⟩
abbrev bH' : Stmt := top 17
abbrev r4' : List Str := ["machine", "found", "known", "at", "state"]
theorem ci' : FnScope r4' ["machine"] (defScope bH') := (by walk_at "3")
def hN' : He.DefD := ⟨("reached", none), "reached", "reached", defArgs bH', defBody bH', defScope bH', [], []⟩
abbrev bx' : Stmt := top 18
abbrev oR' : List Str := ["keys", "numbers", "found", "item", "key"]
theorem cm' : FnScope oR' ["keys"] (defScope bx') := (by walk_at "3")
def gE' : He.DefD := ⟨("numbered", none), "numbered", "numbered", defArgs bx', defBody bx', defScope bx', [], []⟩
abbrev ax' : Stmt := top 19
abbrev cK' : List Str := ["machine", "states", "classes", "many", "keys", "state", "step"]
theorem av' : FnScope cK' ["machine", "states"] (defScope ax') := (by walk_at "3")
def du' : He.DefD := ⟨("alike_states", none), "alike_states", "alike_states", defArgs ax', defBody ax', defScope ax', [], []⟩
abbrev cc' : Stmt := top 20
abbrev lL' : List Str := ["machine", "states", "classes", "firsts", "state", "table", "one", "accepts", "step"]
theorem bK' : FnScope lL' ["machine"] (defScope cc') := (by walk_at "3")
def nQ' : He.DefD := ⟨("least", none), "least", "least", defArgs cc', defBody cc', defScope cc', [], []⟩
abbrev bI' : Stmt := top 21
abbrev r5' : List Str := ["one", "other", "found", "known", "at", "left", "right", "word", "index", "letter", "pair"]
theorem bm' : FnScope r5' ["one", "other"] (defScope bI') := (by walk_at "3")
def hO' : He.DefD := ⟨("parting", none), "parting", "parting", defArgs bI', defBody bI', defScope bI', [], []⟩
abbrev bn' : Stmt := top 23
abbrev hV' : List Str := ["letters", "a", "b"]
theorem cU' : FnScope hV' ["letters"] (defScope bn') := (by walk_at "3")
def gD' : He.DefD := ⟨("pairs_of", none), "pairs_of", "pairs_of", defArgs bn', defBody bn', defScope bn', [], []⟩
abbrev aU' : Stmt := top 24
abbrev iH' : List Str := ["machine", "found", "waiting", "state", "letter", "to"]
theorem bw' : FnScope iH' ["machine"] (defScope aU') := (by walk_at "3")
def dT' : He.DefD := ⟨("first_words", none), "first_words", "first_words", defArgs aU', defBody aU', defScope aU', [], []⟩
abbrev aX' : Stmt := top 25
abbrev cj' : List Str := ["machine", "state", "order", "place", "table", "accepts", "other", "index", "to"]
theorem aA' : FnScope cj' ["machine", "state"] (defScope aX') := (by walk_at "3")
def gG' : He.DefD := ⟨("begun_at", none), "begun_at", "begun_at", defArgs aX', defBody aX', defScope aX', [], []⟩
abbrev dR' : Stmt := top 26
abbrev Al' : List Str := ["machine", "small", "heads", "a", "b", "state", "left", "right", "tail"]
theorem cT' : FnScope Al' ["machine"] (defScope dR') := (by walk_at "3")
def rI' : He.DefD := ⟨("swap", none), "swap", "swap", defArgs dR', defBody dR', defScope dR', [], []⟩
abbrev bg' : Stmt := top 27
abbrev lM' : List Str := ["machine", "thing"]
theorem jq' : FnScope lM' ["machine", "thing"] (defScope bg') := (by walk_at "3")
def ff' : He.DefD := ⟨("is_letter", none), "is_letter", "is_letter", defArgs bg', defBody bg', defScope bg', [], []⟩
abbrev aI' : Stmt := top 28
abbrev g3' : List Str := ["machine", "thing"]
theorem f4' : FnScope g3' ["machine", "thing"] (defScope aI') := (by walk_at "3")
def dr' : He.DefD := ⟨("is_swap_form", none), "is_swap_form", "is_swap_form", defArgs aI', defBody aI', defScope aI', [], []⟩
abbrev a4' : Stmt := top 29
abbrev kx' : List Str := ["machine", "thing", "u", "a", "b", "v"]
theorem bU' : FnScope kx' ["machine", "thing"] (defScope a4') := (by walk_at "3")
def et' : He.DefD := ⟨("swap_fault", none), "swap_fault", "swap_fault", defArgs a4', defBody a4', defScope a4', [], []⟩
abbrev ba' : Stmt := top 31
abbrev gN' : List Str := ["_law_script", "_law_cells", "_law_cell"]
theorem di' : FnScope gN' ["_law_script"] (defScope ba') := (by walk_at "3")
def fk' : He.DefD := ⟨("_law_hand", none), "_law_hand", "_law_hand", defArgs ba', defBody ba', defScope ba', [], []⟩
abbrev bk' : Stmt := top 32
abbrev lQ' : List Str := ["_law_hand_here", "_law_many", "_law_cell", "_law_digit", "_law_number"]
theorem bP' : FnScope lQ' ["_law_hand_here", "_law_many"] (defScope bk') := (by walk_at "3")
def fl' : He.DefD := ⟨("_law_draw", none), "_law_draw", "_law_draw", defArgs bk', defBody bk', defScope bk', [], []⟩
abbrev aM' : Stmt := top 33
abbrev g7' : List Str := ["_law_hand_here", "_law_signs", "_law_many", "_law_rest", "_law_found", "_law_turn", "_law_at"]
theorem a9' : FnScope g7' ["_law_hand_here", "_law_signs", "_law_many"] (defScope aM') := (by walk_at "3")
def dw' : He.DefD := ⟨("_law_letters", none), "_law_letters", "_law_letters", defArgs aM', defBody aM', defScope aM', [], []⟩
abbrev aY' : Stmt := top 34
abbrev d6' : List Str := ["_law_hand_here", "_law_kind", "_law_size", "_law_many", "_law_rows_here", "_law_steps", "_law_turns", "_law_state", "_law_row", "_law_letter", "_law_to"]
theorem am' : FnScope d6' ["_law_hand_here", "_law_kind", "_law_size", "_law_many"] (defScope aY') := (by walk_at "3")
def fj' : He.DefD := ⟨("_law_rows", none), "_law_rows", "_law_rows", defArgs aY', defBody aY', defScope aY', [], []⟩
abbrev aD' : Stmt := top 35
abbrev gM' : List Str := ["_law_hand_here", "_law_things", "_law_rest", "_law_found", "_law_turn"]
theorem bL' : FnScope gM' ["_law_hand_here", "_law_things"] (defScope aD') := (by walk_at "3")
def c7' : He.DefD := ⟨("_law_shuffled", none), "_law_shuffled", "_law_shuffled", defArgs aD', defBody aD', defScope aD', [], []⟩
abbrev aV' : Stmt := top 36
abbrev fm' : List Str := ["_law_hand_here", "_law_most", "_law_states", "_law_kind", "_law_many", "_law_size", "_law_letters_here", "_law_table", "_law_accepts", "_law_state"]
theorem aO' : FnScope fm' ["_law_hand_here", "_law_most", "_law_states"] (defScope aV') := (by walk_at "3")
def ew' : He.DefD := ⟨("_law_parts", none), "_law_parts", "_law_parts", defArgs aV', defBody aV', defScope aV', [], []⟩
abbrev bj' : Stmt := top 37
abbrev lP' : List Str := ["_law_letters_here", "_law_table", "_law_accepts", "_law_word_here", "_law_state", "_law_letter"]
theorem cA' : FnScope lP' ["_law_letters_here", "_law_table", "_law_accepts", "_law_word_here"] (defScope bj') := (by walk_at "3")
def fi' : He.DefD := ⟨("_law_says", none), "_law_says", "_law_says", defArgs bj', defBody bj', defScope bj', [], []⟩
abbrev bi' : Stmt := top 38
abbrev lO' : List Str := ["_law_hand_here", "_law_letters_here", "_law_many", "_law_word_here", "_law_turn"]
theorem cz' : FnScope lO' ["_law_hand_here", "_law_letters_here", "_law_many"] (defScope bi') := (by walk_at "3")
def fh' : He.DefD := ⟨("_law_word", none), "_law_word", "_law_word", defArgs bi', defBody bi', defScope bi', [], []⟩
abbrev aE' : Stmt := top 39
abbrev dU' : List Str := ["_law_letters_here", "_law_word_here", "_law_letter"]
theorem cp' : FnScope dU' ["_law_letters_here", "_law_word_here"] (defScope aE') := (by walk_at "3")
def dx' : He.DefD := ⟨("_law_is_word", none), "_law_is_word", "_law_is_word", defArgs aE', defBody aE', defScope aE', [], []⟩
abbrev bo' : Stmt := top 40
abbrev hW' : List Str := ["_law_letters_here", "_law_table", "_law_accepts", "_law_thing", "_law_u", "_law_a", "_law_b", "_law_v", "_law_part"]
theorem bM' : FnScope hW' ["_law_letters_here", "_law_table", "_law_accepts", "_law_thing"] (defScope bo') := (by walk_at "3")
def gH' : He.DefD := ⟨("_law_due", none), "_law_due", "_law_due", defArgs bo', defBody bo', defScope bo', [], []⟩
abbrev aL' : Stmt := top 41
abbrev g6' : List Str := ["_law_hand_here", "_law_letters_here", "_law_thing", "_law_odd", "_law_way", "_law_at", "_law_parts_here"]
theorem a8' : FnScope g6' ["_law_hand_here", "_law_letters_here", "_law_thing"] (defScope aL') := (by walk_at "3")
def dv' : He.DefD := ⟨("_law_spoiled", none), "_law_spoiled", "_law_spoiled", defArgs aL', defBody aL', defScope aL', [], []⟩
abbrev f6' : Stmt := top 42
abbrev Am' : List Str := ["_law_script", "_law_hand_here", "_law_letters_here", "_law_table", "_law_accepts", "_law_machine", "_law_found", "_law_turn", "_law_words", "_law_thing", "_law_shown", "_law_fault", "_law_k"]
theorem cn' : FnScope Am' ["_law_script"] (defScope f6') := (by walk_at "3")
def uU' : He.DefD := ⟨("law", none), "law", "law", defArgs f6', defBody f6', defScope f6', [], []⟩
def fns : List He.DefD := [eu', ds', dt', fg', hQ', ev', gF', cu', dy', b5', uT', hN', gE', du', nQ', hO', gD', dT', gG', rI', ff', dr', et', fk', fl', dw', fj', c7', ew', fi', fh', dx', gH', dv', uU']
def tbs : List He.Tab := []
def fas : List He.Fa := [.glo "is_integer", .glo "is_string_of", .glo "is_ascending", .glo "is_choice", .glo "is_word", .glo "are_states", .glo "is_table", .glo "led", .glo "reached", .glo "numbered", .glo "alike_states", .glo "least", .glo "parting", .glo "pairs_of", .glo "first_words", .glo "begun_at", .glo "swap", .glo "is_letter", .glo "is_swap_form", .glo "swap_fault", .glo "_law_hand", .glo "_law_draw", .glo "_law_letters", .glo "_law_rows", .glo "_law_shuffled", .glo "_law_parts", .glo "_law_says", .glo "_law_word", .glo "_law_is_word", .glo "_law_due", .glo "_law_spoiled", .glo "law", .glo "SaidError", .exc "SaidError", .glo "OtherLetters", .exc "OtherLetters", .glo "NoMachine", .glo "Machine", .glo "RawMachine", .str "SMALL" "abcdefghijklmnopqrstuvwxyz", .free "zip", .free "tuple", .free "range", .free "list", .free "isinstance", .free "int", .free "str", .free "len", .free "max", .free "sorted", .free "enumerate", .free "abs", .free "all", .free "repr", .free "bool", .free "min", .cls "Machine", .noat "Machine" "kept_letters", .noat "Machine" "kept_table", .noat "Machine" "kept_accepts", .noat "Machine" "kept_least", .noat "Machine" "kept_field", .noat "Machine" "kept_lots", .noat "Machine" "kept_more", .mkr "Machine", .cls "RawMachine", .noat "RawMachine" "kept_letters", .noat "RawMachine" "kept_table", .noat "RawMachine" "kept_accepts", .noat "RawMachine" "kept_least", .noat "RawMachine" "kept_field", .noat "RawMachine" "kept_lots", .noat "RawMachine" "kept_more", .mkr "RawMachine", .meth "Machine" "keep", .meth "RawMachine" "keep"]
def exs : List (PySem.W.Frag -> Bool) := [fun K => (decide (He.ma K (He.ga K "RawMachine") "keep" = He.ma K (He.ga K "Machine") "keep"))]
def exK (K : PySem.W.Frag) : Bool := exs.all fun f => f K
end S
set_option maxHeartbeats 0
namespace S
open PySem PySem.Spec PyProof.Rows L2
def yV' : List Str := ["SaidError", "OtherLetters", "NoMachine", "SMALL", "is_integer", "is_string_of", "is_ascending", "is_choice", "is_word", "are_states", "is_table", "Machine", "RawMachine", "led", "reached", "numbered", "alike_states", "least", "parting", "pairs_of", "first_words", "begun_at", "swap", "is_letter"]
def yU' : List Str := ["is_swap_form", "swap_fault", "_law_hand", "_law_draw", "_law_letters", "_law_rows", "_law_shuffled", "_law_parts", "_law_says", "_law_word", "_law_is_word", "_law_due", "_law_spoiled"]
def loose : List Str := yV' ++ yU'
abbrev Rw : PySem.W.OpenRow := PySem.W.OpenLaw.row PySem.Challenge.rw_saidacross_k30_spoiled_swaps
abbrev hk : PySem.W.Hook := He.hookX 4 fas fns tbs [] exK
def ob (s : PySem.W.SharedT) : He.AlX := He.obsX 4 fas fns tbs [] exK (HandSHeadRun.getT s)
theorem By' (s : PySem.W.SharedT) : ob s = hk.obs s.abs := He.obsX_eq (HandSHeadRun.getT_eq s)
theorem yD' {α β γ : Type} {x : Option α} {f : α -> β} {g : α -> γ} {b : β} {c : γ} (h1 : x.map f = some b) (h2 : x.map g = some c) : x.map (fun s => (f s, g s)) = some (b, c) := by
  cases x with
  | none => cases h1
  | some a =>
    obtain rfl := Option.some.inj h1
    obtain rfl := Option.some.inj h2
    rfl
section
open PySem.W HandSHeadRun
theorem Dn' (w : World) (os : OsState) : (endF (stepQ (denQ tabQ) Rw.prog w) 2980 Rw.prog w os).map (fun s => looksF Rw.prog (boot_heap w.params) s.abs) = some true := by kernel_rfl
theorem Dm' (w : World) (os : OsState) : (endF (stepQ (denQ tabQ) Rw.prog w) 2980 Rw.prog w os).map (fun s => seenQ (PySem.W.view Rw.prog [42]) loose (importedModules Rw.prog.main.body) (fun s => xlAt (PySem.W.view Rw.prog [42]) [] s && recOk Rw.toRowW.records s) s.abs) = some (openGood (PySem.W.view Rw.prog [42]) loose) := by kernel_rfl
theorem Dl' (w : World) (os : OsState) : (endF (stepQ (denQ tabQ) Rw.prog w) 2980 Rw.prog w os).map (fun s => ob s) = some (hk.val w) := by kernel_rfl
end
theorem run (w : World) : HandSHeadRun.RunEq Rw (PySem.W.view Rw.prog [42]) hk ob 2980 loose w := fun os => yD' (Dn' w os) (yD' (Dm' w os) (Dl' w os))
end S
set_option maxHeartbeats 4000000
namespace S
open PySem PySem.Spec PyProof.Rows L2
abbrev St := L2.St
section
variable {X : Cx}
def oV' (z : Str) (n : Nat) : Str := ⟨((List.replicate n z.cps.toList).flatten).toArray⟩
theorem jZ' : ∀ (l : List (Array Nat)) (a : Array Nat), l.foldl (· ++ ·) a = (a.toList ++ (l.map Array.toList).flatten).toArray
  | [], a => by simp
  | b :: r, a => by
    rw [List.foldl_cons, jZ' r]
    simp
theorem qA' (z : Str) (n : Nat) : (⟨(List.replicate n z.cps).foldl (· ++ ·) #[]⟩ : Str) = oV' z n := by
  unfold oV'
  rw [jZ']
  simp
theorem sP' (z : Str) : oV' z 1 = z := by
  obtain ⟨c⟩ := z
  simp [oV']
theorem qz' (z : Str) : oV' z 0 = Str.empty := by
  simp [oV']
  rfl
theorem on' (z : Str) (h : z.length = 0) (n : Nat) : oV' z n = z := by
  obtain ⟨c⟩ := z
  have e : c.toList = [] := by
    have h1 : c.size = 0 := h
    exact List.eq_nil_of_length_eq_zero (by simpa using h1)
  have e2 : c = #[] := by simpa using congrArg List.toArray e
  subst e2
  simp [oV']
theorem kT' (z : Str) (n : Nat) : (oV' z n).length = n * z.length := by
  show ((List.replicate n z.cps.toList).flatten).toArray.size = _
  rw [List.size_toArray, List.length_flatten]
  simp
  rfl
def ux' : R2 := fun x y H Q => ∃ z i, x = .str z /\ y = .int i /\ i < 2 ^ 62 /\ -(2 ^ 62) <= i /\ z.length * i.toNat <= sizeLine /\ Q (.str (oV' z i.toNat)) H
theorem s5' : OpR X (binaryOp .Mult) ux' := by
  intro pins s σ H x y v u Q I rx ry h
  obtain ⟨z, i, rfl, rfl, h1, h2, h3, q⟩ := h
  obtain ⟨t, rfl⟩ := rx
  obtain ⟨t', rfl⟩ := ry
  have h63 : (decide (i < -(2 ^ 63 : Int)) || decide (i >= 2 ^ 63)) = false := by
    rw [decide_eq_false (by omega), decide_eq_false (by omega)]; rfl
  have hsz : (sizeLine : Nat) < 2 ^ 62 := by rw [sizeLine_eq]; decide
  refine PySem.P.mul_str h63 (fun hn hz => ?_) (fun hn hz => ?_) ?_
  . intro hg
    have hpos : 0 < i := by omega
    have e : (i.toNat : Int) = i := by omega
    have h4 : (z.length : Int) * i <= sizeLine := by
      rw [<- e]; exact_mod_cast h3
    have h5 : (2 ^ 63 - 1) / i < (z.length : Int) := hg
    have h6 : (2 ^ 63 - 1 : Int) < z.length * i := by
      have := Int.lt_mul_of_ediv_lt hpos h5
      rw [Int.mul_comm] at this
      first
        | exact this
        | (rw [Int.mul_comm]; exact this)
    omega
  . exact decide_eq_false (by omega)
  . by_cases hn : i < 1
    . rw [if_pos hn]
      have e : i.toNat = 0 := by omega
      rw [e, qz'] at q
      exact ⟨by decide, .str Str.empty, H, I.tok _, ⟨_, rfl⟩, q⟩
    . rw [if_neg hn]
      by_cases hz : (i == 1 || z.length == 0) = true
      . rw [if_pos hz]
        have e : oV' z i.toNat = z := by
          rcases Bool.or_eq_true_iff.mp hz with h | h
          . have h' : i = 1 := eq_of_beq h
            rw [h']; exact sP' z
          . exact on' z (eq_of_beq h) _
        rw [e] at q
        exact ⟨.str z, H, I, ⟨_, rfl⟩, q⟩
      . rw [if_neg hz, qA']
        exact ⟨by rw [kT', Nat.mul_comm]; omega, .str _, H, I.tok _, ⟨_, rfl⟩, q⟩
def yo' : R2 := fun x y H Q => rI CMul (fun i j => .int (i * j)) x y H Q \/ ux' x y H Q \/ rRep x y H Q
theorem wa' : OpR X (binaryOp .Mult) yo' := op_mul.or (s5'.or op_rep)
def yr' (f : List Nat -> List Nat -> Bool) : R2 := fun x y H Q => ∃ i j, x = .str i /\ y = .str j /\ Q (.bl (f i.cps.toList j.cps.toList)) H
def uA' (p : Int -> Int -> Bool) (f : List Nat -> List Nat -> Bool) : R2 := fun x y H Q => rI0 (fun i j => .bl (p i j)) x y H Q \/ yr' f x y H Q
theorem gj' : OpR X (compareOp .Lt) (uA' (fun i j => decide (i < j)) fun a b => decide (a < b)) := op_lt.or (r' := yr' fun a b => decide (a < b)) op_lt_str
theorem nk' : OpR X (compareOp .LtE) (uA' (fun i j => decide (i <= j)) fun a b => !decide (b < a)) := op_le.or (r' := yr' fun a b => !decide (b < a)) op_le_str
theorem qU' : OpR X (compareOp .Gt) (uA' (fun i j => decide (j < i)) fun a b => decide (b < a)) := op_gt.or (r' := yr' fun a b => decide (b < a)) op_gt_str
theorem nl' : OpR X (compareOp .GtE) (uA' (fun i j => decide (j <= i)) fun a b => !decide (a < b)) := op_ge.or (r' := yr' fun a b => !decide (a < b)) op_ge_str
def vZ' (K : PySem.W.Frag) : R2 := fun x y H Q => rI0 (fun i j => .int (i + j)) x y H Q \/ (∃ i j, x = .str i /\ y = .str j /\ i.length + j.length <= sizeLine /\ Q (.str (i ++ j)) H) \/ rCat x y H Q \/ rCatA K x y H Q
theorem ao' : OpR X (binaryOp .Add) (vZ' X.K) := op_add.or (op_add_str.or (op_cat.or op_catA))
def CQ' (K : PySem.W.Frag) : R2 := fun x y H Q => rEq x y H Q \/ rEqD K x y H Q
theorem bV' (hu : X.A.units + 64 < cLine) : OpR X (compareOp .Eq) (CQ' X.K) := op_eq.or (op_eqD hu)
def Bk' (K : PySem.W.Frag) : R2 := fun x y H Q => rNe x y H Q \/ rNeD K x y H Q
theorem dl' (hu : X.A.units + 64 < cLine) : OpR X (compareOp .NotEq) (Bk' X.K) := op_ne.or (op_neD hu)
def CP' : R2 := fun x y H Q => ∃ (c : Nat) (z : Str), x = .str ⟨#[c]⟩ /\ y = .str z /\ Q (.bl (decide (c ∈ z.cps.toList))) H
def qI' : R2 := fun x y H Q => ∃ (c : Nat) (z : Str), x = .str ⟨#[c]⟩ /\ y = .str z /\ Q (.bl (!decide (c ∈ z.cps.toList))) H
def yw' : R2 := fun x y H Q => ∃ i j, x = .str i /\ y = .str j /\ Q (.bl (!(Builtin.Str.occurrences j i 0 j.length 1).isEmpty)) H
def ne' : R2 := fun x y H Q => ∃ i j, x = .str i /\ y = .str j /\ Q (.bl (!(!(Builtin.Str.occurrences j i 0 j.length 1).isEmpty))) H
def CO' (K : PySem.W.Frag) : R2 := fun x y H Q => CP' x y H Q \/ rIn K false x y H Q \/ yw' x y H Q
def qH' (K : PySem.W.Frag) : R2 := fun x y H Q => qI' x y H Q \/ rIn K true x y H Q \/ ne' x y H Q
theorem e3' : OpR X (compareOp .In) (CO' X.K) := OpR.or (r := CP') op_in_sign (op_in_seq.or (r' := yw') op_in_str)
theorem jy' : OpR X (compareOp .NotIn) (qH' X.K) := OpR.or (r := qI') op_notIn_sign (op_notIn_seq.or (r' := ne') op_notIn_str)
def CL' (K : PySem.W.Frag) : V -> Option Int -> Option Int -> Hp -> VK -> Prop := fun x lo hi H Q => rSlL K x lo hi H Q \/ rSlS x lo hi H Q \/ rSlA K x lo hi H Q
theorem xo' : SlR X (CL' X.K) := sl_list.or (sl_str.or sl_tupA)
def yt' (K : PySem.W.Frag) : List V -> Hp -> VK -> Prop := fun xs H Q => (∃ z, xs = [.str z] /\ z.length <= sizeLine /\ Q (.int z.length) H) \/ (∃ p ys, xs = [.ref p] /\ (SqL K H p ys \/ SqT K H p ys) /\ Q (.int ys.length) H) \/ (∃ a kvs, xs = [V.ref a] /\ Rd H a (.dK kvs) /\ Q (.int kvs.length) H)
theorem rR' : CallR X (.builtin "len") (yt' X.K) := call_len_str.or (call_len_seq.or fun pins s σ H vs us Q I r h => by
  obtain ⟨a, kvs, rfl, e, q⟩ := h
  cases r with
  | cons ra rn =>
    cases rn
    cases (show _ = Value.ref a from ra)
    exact d_len I e fun t s' I' => ⟨.int kvs.length, H, I', ⟨t, rfl⟩, q⟩)
def uz' (K : PySem.W.Frag) : List V -> Hp -> VK -> Prop := fun xs H Q => (∃ p ys, xs = [.ref p] /\ (SqL K H p ys \/ SqT K H p ys) /\ ∀ l, H l = none -> Q (.ref l) (upd H l (.lst ys)))
theorem oK' : CallR X (.type "list") (uz' X.K) := call_list_of
def qF' (K : PySem.W.Frag) : List V -> Hp -> VK -> Prop := fun xs H Q => ∃ p ys, xs = [.ref p] /\ ((SqL K H p ys /\ ∀ l, H l = none -> Q (.ref l) (upd H l (.tup ys))) \/ (SqT K H p ys /\ Q (.ref p) H))
theorem lB' : CallR X (.type "tuple") (qF' X.K) := call_tuple_of
def yv' : List V -> Hp -> VK -> Prop := fun xs H Q => (∃ i, xs = [.int i] /\ Q (.int i) H) \/ ∃ k, xs = [.bl k] /\ Q (.int (if k then 1 else 0)) H
theorem br' : CallR X (.type "int") yv' := call_int1
def yx' : List V -> Hp -> VK -> Prop := fun xs H Q => ∃ i, xs = [.int i] /\ Q (.int (if i < 0 then -i else i)) H
theorem rS' : CallR X (.builtin "abs") yx' := call_abs
def yq' : List V -> Hp -> VK -> Prop := fun xs H Q => ∃ i j, xs = [.int i, .int j] /\ Q (.int (if j > i then j else i)) H
theorem hT' (hc : X.calm = true) : CallR X (.builtin "max") yq' := call_max2 hc
def yp' : List V -> Hp -> VK -> Prop := fun xs H Q => ∃ i j, xs = [.int i, .int j] /\ Q (.int (if j < i then j else i)) H
theorem eT' (hc : X.calm = true) : CallR X (.builtin "min") yp' := call_min2 hc
def CN' : R2 := fun x y H Q => y = .non /\ Q (.bl (decide (x = .non))) H
theorem wc' : OpR X (compareOp .Is) CN' := op_isN
def ym' : R2 := fun x y H Q => y = .non /\ Q (.bl (!decide (x = .non))) H
theorem s4' : OpR X (compareOp .IsNot) ym' := op_notN
theorem v7' {x z : Str} {pos : Pos} (hg : Gl X x) (h : ∃ t, X.mg x = some (.str z t)) (hd : (x == ("__debug__" : Str)) = false := by decide) : PE X (.Name x pos) (tC (.str z)) := by
  obtain ⟨t, e⟩ := h
  exact pe_glob hg e ⟨t, rfl⟩ hd
theorem sV' {C : Addr} {bmB : List Value} {B newId initId : String} {x : Str} {p pos : Pos} (F : ExcBaseFacts B newId initId bmB) (q : PySem.W.excIn X.K C bmB newId = true) (gC : X.mg x = some (.ref C))
    (kC : PySem.W.keepIn X.K (.ref C) = true) (r : Raises X (.ref C)) (hg : Gl X x) (hdb : (x == ("__debug__" : Str)) = false := by decide) : PMk X (.Call (.Name x p) [] [] pos) (fun _ H Q => Q (.ref C) none H) := by
  intro pins s σ H Q I h
  refine wpAny_Call_Name_kw (ld_glob I hg gC ?_ hdb)
  refine PySem.W.callWith_K0 I.kIn kC ?_
  show wpAny _ _ (call (.ref C) []) _ _ _
  obtain ⟨bm, N, nm, qn, bs, hdct, sn, sub, ab, col, dd, k0, k1, k2, k3, k5, mN, hC, hN, hni, T⟩ := exc_obj I.kIn q
  refine wpAny_call_exc_subT F T hC hN hni (fun h' e hm => ?_) (Nat.zero_le _)
  exact mk_of I hm r h (I.hok.gone hm.new)
end
section
variable {P : Program} {w : World} {K : PySem.W.Frag} {mg : Str -> Option Value} {base : Heap}
section
variable {X : Cx} {k : Nat} {x : Str} {ps : List Str} {sp : Sp} {p pos : Pos} {e : Expr} {es : List Expr} {t : TA} {W : WX}
end
end
end S
namespace S
open PySem PySem.Spec PyProof.Rows L2
section
variable {K : PySem.W.Frag} {D : Ends} {σ : St} {H H' : Hp} {Q : VK} {t u : TS} {te ta tb tc : TE} {tt tu : TT} {g : TG} {tl : TA} {v x y : V} {i j : Int} {a p : Addr} {xs ys : List V} {z z' : Str} {r : R2}
theorem AX' {n : String} {tv : Value} {b : Bool} (ty : TyX K H x tv) (e : PySem.W.kitOne K tv (.type n) = some b) (h : Q (.bl b) H) : rIsi K [x, .ty n] H Q := ⟨x, .ty n, tv, _, b, rfl, .ty n, ty, e, h⟩
theorem Same.upd {H : Hp} {p : Addr} {o : HO} (h : H p = none) : Same H (upd H p o) := fun b u e => by
  rw [upd_ne (ne_of_none e h)]; exact e
theorem Same.app (s : Same H H') {o : HO} (h : H p = some o) : H' p = some o := s p o h
end
theorem FnOk.to0 {P : Program} {w : World} {K : PySem.W.Frag} {mg : Str -> Option Value} {base : Heap} {k : Nat} {f : Addr} {fd : FuncData} {ps : List Str} {sp : Sp} (F : FnOk P w K mg base (L2.CX P w) k f fd ps sp) :
    FnOk P w K mg base CX0 k f fd ps (fun vs H Q _ => sp vs H Q E0) :=
  ⟨fun vs H Q _ h => F.len vs H Q E0 h, fun A outer s H args us vs Q _ hr he hb hv hs => codeAny_mono (F.run A outer s H args us vs Q E0 hr he hb hv hs) fun r s' hq => by
    cases r with
    | error e =>
      obtain ⟨_, _, _, _, _, _, _, _, _, _, _, _, z⟩ := hq
      exact z.elim
    | ok fl =>
      cases fl with
      | ret u => exact hq
      | next => exact hq
      | brk => exact hq
      | cont => exact hq⟩
end S
namespace S
open PySem PySem.Spec PyProof.Rows L2
section
variable {α : Type} {as : List α} {J : It} {G : Hp -> Prop} {Y : α -> Hp -> V -> Hp -> Prop} {K : PySem.W.Frag} {D : Ends} {σ : St} {H : Hp} {g : TG} {tb : TS} {tt : TT} {te : TE} {a : Addr}
def DJ' (J : It) (g : TG) (tb : TS) (D : Ends) (σ : St) (H1 : Hp) : Prop := ∃ W : Nat -> Nat -> St -> Hp -> Prop, (∃ m, W 0 m σ H1) /\ ∀ i m σ H, W i m σ H →
  (J.stop i H /\ D.nx σ H) \/ (J.go i H /\ ∃ N : St -> Hp -> Prop, (∀ σ' H', N σ' H' -> ∃ m', m' < m /\ W (i + 1) m' σ' H') /\ ∀ x H', J.yld i H x H' -> g x σ H' fun σ2 H2 => tb { D with nx := N, ct := N, bk := D.nx } σ2 H2)
theorem d4' {lo : Int} {n : Nat} (Pv : Nat -> St -> Hp -> Prop) (h0 : Pv 0 σ H)
    (hs : ∀ i σ H, i < n -> Pv i σ H -> g (.int (lo + (i : Nat))) σ H fun σ2 H2 => tb { D with nx := Pv (i + 1), ct := Pv (i + 1), bk := D.nx } σ2 H2) (hd : ∀ σ H, Pv n σ H -> D.nx σ H) : DJ' (Itr lo n) g tb D σ H := for_range Pv h0 hs hd
end
section
variable {H H' : Hp} {p q : Addr} {o : HO}
theorem seqT {K : PySem.W.Frag} {a : Addr} {xs : List V} (e : Same H H') (h : SqT K H a xs) : SqT K H' a xs := by
  rcases h with (h | ⟨o, h⟩) | h
  . exact .inl (.inl (e _ _ h))
  . exact .inl (.inr ⟨o, e _ _ h⟩)
  . exact .inr h
end
mutual
theorem Dp.same {K : PySem.W.Frag} {H H' : Hp} (s : Same H H') : ∀ {d : PyData} {v : V}, Dp K H v d -> Dp K H' v d
  | _, _, .non => .non
  | _, _, .bl b => .bl b
  | _, _, .int i => .int i
  | _, _, .str x => .str x
  | _, _, .lst h r => .lst (Same.seq s h) (DpAll.same s r)
  | _, _, .tup h r => .tup (seqT s h) (DpAll.same s r)
theorem DpAll.same {K : PySem.W.Frag} {H H' : Hp} (s : Same H H') : ∀ {ds : List PyData} {vs : List V}, DpAll K H vs ds -> DpAll K H' vs ds
  | _, _, .nil => .nil
  | _, _, .cons h r => .cons (Dp.same s h) (DpAll.same s r)
end
end S
namespace S
open PySem PySem.Spec PyProof.Rows L2
def CJ' (c a : Addr) : HO := .ext fun h => ∃ (its : List Value) (n : Nat) (i s t k : Int), Vals [.ref c, .int i, .int s, .int t, .int k] its /\ h.get? a = some { cls := .type "list", data := .seq its.toArray n } /\ 0 <= i
def ch' (H : Hp) (a : Addr) : Prop := ∃ (c : Addr) (ns : List Int), H a = some (CJ' c a) /\ H c = some (.lst (ns.map V.int))
theorem ch'.same {H H' : Hp} {a : Addr} (s : Same H H') (h : ch' H a) : ch' H' a := by
  obtain ⟨c, ns, h1, h2⟩ := h
  exact ⟨c, ns, s _ _ h1, s _ _ h2⟩
section
variable {P : Program} {w : World} {H H' : Hp} {h h' : Heap} {a c : Addr} {o o' : HO} {fs : List Addr}
end
section
variable {P : Program} {w : World} {K : PySem.W.Frag} {mg : Str -> Option Value} {base : Heap} {k : Nat} {f : Addr} {fd : FuncData} {ps : List Str}
end
end S
namespace S
open PySem PySem.Spec PyProof.Rows L2
def Sh (n : Nat) (d : PyData) : Prop := d.canLay0 = true /\ d.depth <= n
theorem Sh.shaped {n : Nat} {d : PyData} (h : Sh n d) (hn : n <= 64) : SeqAt.shaped d = true := by
  unfold SeqAt.shaped
  rw [h.1, Bool.true_and]
  exact decide_eq_true (Nat.le_trans h.2 hn)
theorem Sh.mono {n m : Nat} {d : PyData} (h : Sh n d) (e : n <= m) : Sh m d := ⟨h.1, Nat.le_trans h.2 e⟩
theorem Sh.int {n : Nat} {i : Int} : Sh n (.int i) := ⟨rfl, Nat.zero_le _⟩
theorem Sh.bool {n : Nat} {b : Bool} : Sh n (.bool b) := ⟨rfl, Nat.zero_le _⟩
theorem Sh.none {n : Nat} : Sh n .none := ⟨rfl, Nat.zero_le _⟩
theorem Sh.str {n : Nat} {z : Str} (h : ∀ c ∈ z.cps.toList, c < 128) : Sh n (.str z) := by
  refine ⟨?_, Nat.zero_le _⟩
  show PyData.strOk z = true
  unfold PyData.strOk
  rw [Array.all_eq_true']
  intro c hc
  have := h c (by simpa using hc)
  simp only [decide_eq_true_eq]
  omega
theorem Sh.all {n : Nat} : ∀ {ds : List PyData}, (∀ d ∈ ds, Sh n d) -> PyData.canLayAll0 ds = true /\ PyData.depthAll ds <= n
  | [], _ => ⟨rfl, Nat.zero_le _⟩
  | d :: r, h => by
    have h1 := h d (by simp)
    have h2 := Sh.all (ds := r) fun x hx => h x (by simp [hx])
    refine ⟨?_, ?_⟩
    . show (d.canLay0 && PyData.canLayAll0 r) = true
      rw [h1.1, h2.1]
      rfl
    . show max d.depth (PyData.depthAll r) <= n
      exact Nat.max_le.mpr ⟨h1.2, h2.2⟩
theorem Sh.list {n : Nat} {ds : List PyData} (h : ∀ d ∈ ds, Sh n d) : Sh (n + 1) (.list ds) := ⟨(Sh.all h).1, Nat.succ_le_succ (Sh.all h).2⟩
theorem Sh.tuple {n : Nat} {ds : List PyData} (h : ∀ d ∈ ds, Sh n d) : Sh (n + 1) (.tuple ds) := ⟨(Sh.all h).1, Nat.succ_le_succ (Sh.all h).2⟩
section
variable {K : PySem.W.Frag} {H H' : Hp} {v : V} {vs : List V} {ds es : List PyData} {p : Addr} {xs : List V}
theorem DpAll.append : ∀ {vs ws : List V} {ds es : List PyData}, DpAll K H vs ds -> DpAll K H ws es -> DpAll K H (vs ++ ws) (ds ++ es)
  | _, _, _, _, .nil, h => h
  | _, _, _, _, .cons a r, h => .cons a (DpAll.append r h)
theorem DpAll.length : ∀ {vs : List V} {ds : List PyData}, DpAll K H vs ds -> vs.length = ds.length
  | _, _, .nil => rfl
  | _, _, .cons _ r => congrArg (· + 1) (DpAll.length r)
theorem DpAll.split : ∀ {a b : List V} {ds : List PyData}, DpAll K H (a ++ b) ds -> ∃ d e, ds = d ++ e /\ DpAll K H a d /\ DpAll K H b e
  | [], b, ds, h => ⟨[], ds, rfl, .nil, h⟩
  | x :: a, b, _, .cons h r => by
    obtain ⟨d, e, rfl, h1, h2⟩ := DpAll.split (a := a) r
    exact ⟨_ :: d, e, rfl, .cons h h1, h2⟩
theorem DpAll.get : ∀ {vs : List V} {ds : List PyData} {i : Nat} {d : PyData}, DpAll K H vs ds -> ds[i]? = some d -> ∃ v, vs[i]? = some v /\ Dp K H v d
  | _, _, _, _, .nil, e => by cases e
  | _, _, 0, _, .cons h _, e => ⟨_, rfl, by rw [<- Option.some.inj e]; exact h⟩
  | _, _, i + 1, _, .cons _ r, e => DpAll.get (i := i) r e
theorem Dp.int_inv {i : Int} (h : Dp K H v (.int i)) : v = .int i := by cases h; rfl
theorem Dp.str_inv {z : Str} (h : Dp K H v (.str z)) : v = .str z := by cases h; rfl
theorem Dp.tup_inv (h : Dp K H v (.tuple ds)) : ∃ p xs, v = .ref p /\ SqT K H p xs /\ DpAll K H xs ds := by
  cases h with
  | tup h1 h2 => exact ⟨_, _, rfl, h1, h2⟩
theorem Dp.lst_inv (h : Dp K H v (.list ds)) : ∃ p xs, v = .ref p /\ SqL K H p xs /\ DpAll K H xs ds := by
  cases h with
  | lst h1 h2 => exact ⟨_, _, rfl, h1, h2⟩
theorem tyT (h : SqT K H p xs) : TyX K H (.ref p) (.type "tuple") := by
  rcases h with (h | ⟨o, h⟩) | ⟨o, its, n, h, c, _⟩
  . exact .base (.tup h)
  . exact .fTuple h
  . exact .kTuple h c
theorem tyL (h : SqL K H p xs) : TyX K H (.ref p) (.type "list") := by
  rcases h with (h | ⟨o, h⟩) | ⟨o, its, n, h, c, _⟩
  . exact .base (.lst h)
  . exact .base (.frz h)
  . exact .kList h c
def tyn : PyData -> String
  | .none => "NoneType" | .bool _ => "bool" | .int _ => "int" | .str _ => "str" | .list _ => "list" | .tuple _ => "tuple" | .dict _ => "dict"
theorem _root_.L2.Dp.ty {d : PyData} (h : Dp K H v d) : TyX K H v (.type (tyn d)) := by
  cases h with
  | non => exact .base .non
  | bl b => exact .base (.bl b)
  | int i => exact .base (.int i)
  | str z => exact .base (.str z)
  | lst h1 _ => exact tyL h1
  | tup h1 _ => exact tyT h1
variable {σ : St} {R : St -> Hp -> Prop}
end
theorem kI' {a b : Str} (h : a.cps.toList = b.cps.toList) : a = b := by
  obtain ⟨a⟩ := a
  obtain ⟨b⟩ := b
  have : a = b := by simpa using congrArg List.toArray h
  rw [this]
theorem tR' (a b : Str) : (a ++ b).cps.toList = a.cps.toList ++ b.cps.toList := by
  show (a.cps ++ b.cps).toList = _
  simp
theorem tf' (a : Str) : a.length = a.cps.toList.length := by
  show a.cps.size = _
  simp
section
variable {α β : Type}
def C1' (xs : List α) (lo hi : Option Int) : List α := (xs.drop (HT.sIx xs.length 0 lo)).take (HT.sIx xs.length xs.length hi - HT.sIx xs.length 0 lo)
theorem z9' (z : Str) (lo hi : Option Int) : (cutS z lo hi).cps.toList = C1' z.cps.toList lo hi := by
  unfold cutS C1'
  rw [tf']
end
end S
namespace S
open PySem PySem.Spec PyProof.Rows L2
section
variable {K : PySem.W.Frag} {H : Hp} {J : It} {g : TG} {tt : TT} {te : TE} {vs : List Nat} {σ : St} {Q : VK} {G : Hp -> Prop}
theorem DpAll.at {H : Hp} : ∀ {d r : List V} {x : V} {ds : List PyData}, DpAll K H (d ++ x :: r) ds -> ∃ e, ds[d.length]? = some e /\ Dp K H x e /\ ds.take (d.length + 1) = ds.take d.length ++ [e] := by
  intro d r x ds h
  obtain ⟨a, b, rfl, h1, h2⟩ := DpAll.split h
  cases h2 with
  | cons h3 h4 =>
    have hl := DpAll.length h1
    rename_i e es
    have e1 : (a ++ e :: es)[d.length]? = some e := by rw [List.getElem?_append_right (by omega), hl, Nat.sub_self]; rfl
    refine ⟨_, e1, h3, ?_⟩
    rw [List.take_add_one, e1]
    rfl
theorem _root_.L2.Dp.t2 {v : V} {d e : PyData} (h : Dp K H v (.tuple [d, e])) : ∃ p x y, v = .ref p /\ SqT K H p [x, y] /\ Dp K H x d /\ Dp K H y e := by
  obtain ⟨p, xs, rfl, q, a⟩ := Dp.tup_inv h
  cases a with
  | cons a1 a => cases a with
    | cons a2 a => cases a; exact ⟨p, _, _, rfl, q, a1, a2⟩
end
end S
namespace S
open PySem PySem.Spec PyProof.Rows L2
def ItP (xs ys : Nat -> Option V) (n : Nat) : It :=
  ⟨fun i _ => i < n, fun i H v H' => ∃ T x y, v = .ref T /\ H T = none /\ H' = upd H T (.tup [x, y]) /\ xs i = some x /\ ys i = some y, fun i _ => i = n⟩
theorem jj' {P : Program} {w : World} {K : PySem.W.Frag} {tg : Expr} {z : Addr} {fp wr : List Addr} {n : Nat} {P1 P2 : Nat -> Value -> Prop} {St : Nat -> Heap -> Prop} {xs ys : Nat -> Option V}
    (W : ∀ A : Around, A.handled = none -> GoesN P w A tg z fp wr n (fun i h₀ v h => ∃ T x y, v = .ref T /\ h₀.objs.size <= T /\ P1 i x /\ P2 i y /\ h.IsTuple T #[x, y]) St) (hz : z ∈ fp) (sf : ∀ (A : Around) (i : Nat) (s : Shared) (Q : Value -> Shared -> Prop) (E : Value -> Shared -> Prop), St i s.heap -> Q (.ref z) s -> wpAny (model P w) A (pyIter (.ref z)) Q E s)
    (ob : ∀ i h, St i h -> ∀ b ∈ fp, ∃ o, h.get? b = some o /\ ∀ v, o.data ≠ .cell v) (r1 : ∀ i u, i < n -> P1 i u -> ∃ x, xs i = some x /\ RelV x u) (r2 : ∀ i u, i < n -> P2 i u -> ∃ x, ys i = some x /\ RelV x u) :
    Turn P w K tg (ItP xs ys n) fp z St where
  mem := hz
  obj := ob
  keep := fun i h h' st k => (W callerA rfl).frame i h h' st k
  item := by
    intro X hP hw hK hc i pins s σ H E I hf st hg
    subst hP hw hK
    have Wa := W X.A (I.ok.hd hc)
    refine Wa.goes i s _ E hg st fun v h' tk hY st' hk htk => ?_
    obtain ⟨T, u1, u2, rfl, hT, p1, p2, o, ho, hoc, m, hod⟩ := hY
    obtain ⟨x, hx, rx⟩ := r1 i u1 hg p1
    obtain ⟨y, hy, ry⟩ := r2 i u2 hg p2
    have new : ObjOk X.prog X.w (upd H T (.tup [x, y])) h' T (.tup [x, y]) := ⟨by show 2 <= sizeLine; decide, [u1, u2], .cons rx (.cons ry .nil), ⟨_, ho, hoc, _, hod⟩⟩
    have I1 : Inv X pins σ (upd H T (.tup [x, y])) { s with heap := h', toks := tk } :=
      I.turnedNew (t' := tk) (ch := fp) (fun b o hb q => hk b o (fun z => hb (Wa.sub b z)) q) hf hT new
    refine ⟨.ref T, _, I1, rfl, ⟨T, x, y, rfl, I.hok.fresh hT, rfl, hx, hy⟩, st', fun b hb => ?_⟩
    obtain ⟨ob1, hob, _⟩ := ob i s.heap st b hb
    rw [upd_ne (Nat.ne_of_lt (Nat.lt_of_lt_of_le (Heap.lt_size hob) hT))]
    exact (hf b hb).1
  done := by
    intro X hP hw hK hc i pins s σ H E I hf st hg
    subst hP hw hK
    have Wa := W X.A (I.ok.hd hc)
    have hg' : i = n := hg
    subst hg'
    exact Wa.stops s _ E st fun h' tk hk htk => I.turnedL (t' := tk) (ch := fp) (fun b o hb q => hk b o (fun z => hb (Wa.sub b z)) q) hf
  self := sf
def chS (z : Str) (i : Nat) : Option V := (z.cps.toList[i]?).map fun c => .str ⟨#[c]⟩
theorem nW' {z : Str} {i : Nat} {u : Value} (h : ∃ c t, z.cps[i]? = some c /\ u = .str ⟨#[c]⟩ t) : ∃ x, chS z i = some x /\ RelV x u := by
  obtain ⟨c, t, hc, rfl⟩ := h
  refine ⟨.str ⟨#[c]⟩, ?_, ⟨t, rfl⟩⟩
  unfold chS
  rw [show z.cps.toList[i]? = some c by rw [<- hc]; simp]
  rfl
def zc' (ta : TA) : TI := fun σ H R => ta σ H fun vs H1 => ∃ x y : Str, vs = [.str x, .str y] /\ R (ItP (chS x) (chS y) (min x.cps.size y.cps.size)) H1
theorem v5' {X : Cx} {e e2 : Expr} {ta : TA} {p pos tpos : Pos} {elts : List Expr} {kk} (hg : Gl X "zip") (hm : X.mg "zip" = none) (ha : PA X [e, e2] ta)
    (hs : starEach [e, e2] X.env = (false, eval e X.env) :: starEach [e2] X.env := by rfl) (hpl : (backTo pos (starEach [e2] X.env)).any (·.1) = false := by rfl) :
    PI X (.Tuple elts kk tpos) (.Call (.Name "zip" p) [e, e2] [] pos) (zc' ta) := by
  refine ⟨fun pins s σ H R I h => ?_⟩
  refine Call_ (ld_blt I hg hm PyProof.Rows.boot_zip (PyProof.Rows.callWith_type1 (thn (ha.run pos pins s σ H _ I h) fun us s1 ⟨vs, H1, I1, r1, q1⟩ => ?_) hs hpl))
  obtain ⟨x, y, ex, q⟩ := q1
  subst ex
  cases r1 with
  | cons r rr =>
    cases rr with
    | cons r' rr =>
      cases rr
      obtain ⟨t1, rfl⟩ := r
      obtain ⟨t2, rfl⟩ := r'
      refine zip_begins2 (begins_text x _) (begins_text y _) True.intro True.intro fun h' hz hTI hTO h1 h2 hsz hk => wpAny_pyIter_zip hz ?_
      have I2 : Inv X pins σ H1 { s1 with heap := h' } := I1.kept (t' := s1.toks) hk
      have S2 : ZipSep2 (s1.heap.objs.size + 4) (s1.heap.objs.size + 2) (s1.heap.objs.size + 3) s1.heap.objs.size (s1.heap.objs.size + 1) [s1.heap.objs.size] [s1.heap.objs.size + 1] := by
        constructor <;> simp
      refine ⟨s1.heap.objs.size + 4, (s1.heap.objs.size + 4) :: (s1.heap.objs.size + 2) :: (s1.heap.objs.size + 3) :: ([s1.heap.objs.size] ++ [s1.heap.objs.size + 1]), _, _, H1, rfl, I2,
        jj' (fun A hA => GoesN.zip2 S2 (Draws.text (A := A.in1) hA _ x _) (Draws.text (A := A.in1) hA _ y _)) (by simp) (fun A i s Q E st h => wpAny_pyIter_zip st.1 h) (fun i h st b hb => ?_) (fun i u _ hu => nW' hu) (fun i u _ hu => nW' hu), ⟨hz, hTI, ⟨_, _, hTO⟩, ⟨_, h1, rfl, rfl⟩, ⟨_, h2, rfl, rfl⟩⟩, fun c hcm => ?_, q⟩
      . obtain ⟨hz, hTI, ⟨a1, a2, hTO⟩, ⟨o1, e1, _, d1⟩, ⟨o2, e2, _, d2⟩⟩ := st
        have e' : b = s1.heap.objs.size + 4 \/ b = s1.heap.objs.size + 2 \/ b = s1.heap.objs.size + 3 \/ b = s1.heap.objs.size \/ b = s1.heap.objs.size + 1 := by simpa using hb
        rcases e' with z | z | z | z | z
        . rw [z]; exact ⟨_, hz, fun v q => nomatch q⟩
        . rw [z]; exact ⟨_, hTI, fun v q => nomatch q⟩
        . rw [z]; exact ⟨_, hTO, fun v q => nomatch q⟩
        . rw [z]; exact ⟨o1, e1, fun v q => by rw [d1] at q; cases q⟩
        . rw [z]; exact ⟨o2, e2, fun v q => by rw [d2] at q; cases q⟩
      . have e' : c = s1.heap.objs.size + 4 \/ c = s1.heap.objs.size + 2 \/ c = s1.heap.objs.size + 3 \/ c = s1.heap.objs.size \/ c = s1.heap.objs.size + 1 := by simpa using hcm
        have hle : s1.heap.objs.size <= c := by
          rcases e' with z | z | z | z | z
          . rw [z]; exact Nat.le_add_right _ _
          . rw [z]; exact Nat.le_add_right _ _
          . rw [z]; exact Nat.le_add_right _ _
          . rw [z]; exact Nat.le_refl _
          . rw [z]; exact Nat.le_add_right _ _
        exact I1.fpOk hle (I1.hok.fresh hle)
end S
namespace S
open PySem PySem.Spec PyProof.Rows L2
section
variable {X : Cx} {K : PySem.W.Frag} {to te : TE} {o e : Expr} {H : Hp} {Q : VK}
def qL' : V -> List V -> Hp -> VK -> Prop := fun x xs H Q => ∃ a b i rest, x = .str a /\ xs = [.str b] /\ Builtin.Str.occurrences a b 0 a.length 1 = i :: rest /\ Q (.int (i : Nat)) H
theorem q4' : MtR X "str.index" qL' := by
  intro pins s σ H x xs v us Q I rx rs h
  obtain ⟨a, b, i, rest, rfl, rfl, ho, h⟩ := h
  obtain ⟨t, rfl⟩ := rx
  cases rs with
  | cons r1 rs =>
    cases rs
    obtain ⟨u, rfl⟩ := r1
    exact PySem.call_gives F.slot_str_index (typeIs_str _ _ _) F.entry_str_index (F.args_str_index_2 _ _) (gives_str_index a b t u i rest ho) ⟨.int (i : Nat), H, I.tok (s.toks + 1), ⟨_, rfl⟩, h⟩
def yu' (K : PySem.W.Frag) : V -> List V -> Hp -> VK -> Prop := fun x xs H Q => ∃ a p, ∃ ys : List Str, x = .str a /\ xs = [.ref p] /\ (SqL K H p (ys.map V.str) \/ SqT K H p (ys.map V.str)) ∧
    (ys.map (·.length)).sum + ys.length * a.length <= 16777216 /\ Q (.str (Txt.join a ys)) H
def chv (c : Nat) : V := .str ⟨#[c]⟩
end
end S
namespace S
open PySem PySem.Spec PyProof.Rows L2
def ze' (ta : TA) : TI := fun σ H R => ta σ H fun vs H1 => ∃ x : Str, vs = [.str x] /\ R (ItP (fun i => some (.int (i : Nat))) (chS x) x.cps.size) H1
theorem sY' {X : Cx} {e : Expr} {ta : TA} {p pos tpos : Pos} {elts : List Expr} {kk} (hg : Gl X "enumerate") (hm : X.mg "enumerate" = none) (ha : PA X [e] ta) (hs : starEach [e] X.env = [(false, eval e X.env)] := by rfl) :
    PI X (.Tuple elts kk tpos) (.Call (.Name "enumerate" p) [e] [] pos) (ze' ta) := by
  refine ⟨fun pins s σ H R I h => ?_⟩
  refine Call_ (ld_blt I hg hm boot_enumerate (PyProof.Rows.callWith_type1 (thn (ha.run pos pins s σ H _ I h) fun us s1 ⟨vs, H1, I1, r1, q1⟩ => ?_) hs rfl))
  obtain ⟨x, ex, q⟩ := q1
  subst ex
  cases r1 with
  | cons r rr =>
    cases rr
    obtain ⟨t, rfl⟩ := r
    refine call_enumerate_str fun h' he hit hsz hk => wpAny_pyIter_enum he ?_
    have I2 : Inv X pins σ H1 { s1 with heap := h' } := I1.kept (t' := s1.toks) hk
    refine ⟨s1.heap.objs.size + 1, [s1.heap.objs.size + 1, s1.heap.objs.size], fun i h => (∃ old, IsEnum h (s1.heap.objs.size + 1) s1.heap.objs.size ((0 : Int) + (i : Nat)) old) /\ h.IsStrIter s1.heap.objs.size (strIterType x) x t i, _, H1, rfl, I2,
      jj' (P1 := fun i u => ∃ t, u = .int ((0 : Int) + (i : Nat)) t) (P2 := fun i v => ∃ c u, x.cps[i]? = some c /\ v = .str ⟨#[c]⟩ u) (wr := [s1.heap.objs.size + 1, s1.heap.objs.size])
        (fun A hA => (GoesN.enumFrom 0 (Draws.text (A := A.in1) hA s1.heap.objs.size x t) (s1.heap.objs.size + 1) (Nat.succ_ne_self _) (by simp) (by simp)).mono fun i h₀ v h _ ⟨T, t, y, ev, hn, hy, hT⟩ => ⟨T, _, y, ev, hn, ⟨t, rfl⟩, hy, hT⟩)
        (by simp) (fun A i s Q E st h => let ⟨⟨_, he⟩, _⟩ := st; wpAny_pyIter_enum he h) (fun i h st b hb => ?_) (fun i u _ hu => ?_) (fun i u _ hu => nW' hu), ⟨⟨_, he⟩, hit⟩, fun c hcm => ?_, q⟩
    . obtain ⟨⟨old, he⟩, ⟨o1, e1, _, d1⟩⟩ := st
      have e' : b = s1.heap.objs.size + 1 \/ b = s1.heap.objs.size := by simpa using hb
      rcases e' with z | z
      . rw [z]; exact ⟨_, he, fun v q => nomatch q⟩
      . rw [z]; exact ⟨o1, e1, fun v q => by rw [d1] at q; cases q⟩
    . obtain ⟨t, rfl⟩ := hu
      exact ⟨_, rfl, ⟨t, by rw [Int.zero_add]⟩⟩
    . have e' : c = s1.heap.objs.size + 1 \/ c = s1.heap.objs.size := by simpa using hcm
      have hle : s1.heap.objs.size <= c := by
        rcases e' with z | z
        . rw [z]; exact Nat.le_add_right _ _
        . rw [z]; exact Nat.le_refl _
      exact I1.fpOk hle (I1.hok.fresh hle)
end S
namespace S
open PySem PySem.Spec PyProof.Rows L2
theorem eF' : ∀ (vs : List Value) (l : List Nat), vs.length = l.length -> (∀ (j : Nat) (v : Value), vs[j]? = some v -> ∃ c u, l[j]? = some c /\ v = .str ⟨#[c]⟩ u) -> StrsAre vs (l.map fun c => ⟨#[c]⟩)
  | [], [], _, _ => .nil
  | [], _ :: _, h, _ => by simp at h
  | _ :: _, [], h, _ => by simp at h
  | v :: vs, c :: l, h, hh => by
    obtain ⟨d, u, h1, rfl⟩ := hh 0 v rfl
    cases h1
    exact .cons _ _ (eF' vs l (by simpa using h) fun j w hw => by
      have := hh (j + 1) w (by simpa using hw)
      simpa using this)
theorem kN' {prog : Program} {w : World} {A : Around} {E : Value -> Shared -> Prop} {s : Shared} {x : Str} {t : Tok} {Q : Value -> Shared -> Prop} (hh : A.handled = none) (h64 : x.cps.size < 64)
    (h : ∀ (h' h'' : Heap) (tk : Nat) (out : List Value) (ss : List Str), (∀ b o, s.heap.get? b = some o -> h'.get? b = some o) -> (∀ b o, h'.get? b = some o -> h''.get? b = some o) -> (∃ e, h''.get? h'.objs.size = some (seqObj "list" out.toArray e)) →
      StrsAre out ss -> ss.Perm (x.cps.toList.map fun c => ⟨#[c]⟩) -> sortedS ss = true -> Q (.ref h'.objs.size) { s with heap := h'', toks := tk }) :
    wpAny (model prog w) A (call (.builtin "sorted") [.str x t]) Q E s := by
  refine Calls.call_function_entry kind_sorted plain_sorted entry_sorted (args_sorted1 _) ?_
  unfold Builtin.«sorted»
  refine wpAny_bind (m := checkCount "sorted" 1 1 _) (wpAny_pure ?_)
  refine wpAny_bind (m := collect (.str x t)) (wpAny_collect_str (A := A.in1) hh x t (fun s' acc hk hg hd ho hacc => ?_) (by rw [sizeLine_eq]; omega))
  obtain ⟨hp, g, d, tk, os⟩ := s
  obtain ⟨hp', g', d', tk', os'⟩ := s'
  obtain rfl : g' = g := hg
  obtain rfl : d' = d := hd
  obtain rfl : os' = os := ho
  have hS : StrsAre acc.toList (x.cps.toList.map fun c => ⟨#[c]⟩) := by
    refine eF' _ _ (by rw [Array.length_toList, Array.length_toList]; exact hacc.1) fun j v hv => ?_
    obtain ⟨c, u, h1, h2⟩ := hacc.2 j v (by simpa using hv)
    exact ⟨c, u, by rw [<- h1]; simp, h2⟩
  have hl : acc.toList.length < 64 := by rw [Array.length_toList, hacc.1]; exact h64
  refine wpAny_bind (wpAny_newList ?_)
  have hoL : (hp'.push (seqObj "list" acc.toList.toArray 0)).get? hp'.objs.size = some (seqObj "list" acc.toList.toArray 0) := Heap.get?_push_size _ rfl
  refine wpAny_bind (wpAny_holding (wpAny_call_entry slot_list_sort ⟨_, hoL, rfl⟩ entry_list_sort (list_sort_treeK strKind_oneLt hoL hS.keysOf (fun v₁ v₂ rest e => keyKind_strs (by rw [<- e]; exact hS)) hl fun st' a1 a2 => ⟨_, rfl, ?_⟩) (args_list_sort _)))
  obtain ⟨ss', h1, h2, h3⟩ := sorted_out_str hS a1 a2
  refine wpAny_pure ⟨_, rfl, h hp' _ tk' _ ss' hk (fun b o hb => ?_) ?_ h1 h2 h3⟩
  . have hlt := Heap.lt_size hb
    rw [sortedHeap_old (Nat.ne_of_lt hlt) (by rw [size_push']; exact Nat.lt_succ_of_lt hlt)]
    exact Heap.get?_push_of_some _ hb
  . obtain ⟨e, he⟩ := sortedHeap_at (out := (arrOf st').map (·.2)) hoL
    exact ⟨e, by rw [he]⟩
def ju' : List V -> Hp -> VK -> Prop := fun vs H Q => ∃ x : Str, vs = [V.str x] /\ x.length < 64 /\ ∀ (ys : List Str) (p : Addr) (H' : Hp), ys.Perm (x.cps.toList.map fun c => ⟨#[c]⟩) -> sortedS ys = true -> H p = none -> Same H H' -> H' p = some (.lst (ys.map V.str)) -> Q (.ref p) H'
theorem lA' {X : Cx} (hc : X.calm = true) : CallR X (.builtin "sorted") ju' := by
  intro pins s σ H vs us Q I r h
  obtain ⟨x, rfl, h64, q⟩ := h
  cases r with
  | cons r rr =>
    cases rr
    obtain ⟨t, rfl⟩ := r
    refine kN' (I.ok.hd hc) h64 fun h' h'' tk out ss hk hk2 ho h1 h2 h3 => ?_
    obtain ⟨e, he⟩ := ho
    have I1 : Inv X pins σ H { s with heap := h' } := I.kept (t' := s.toks) hk
    have hlen : (ss.map V.str).length <= sizeLine := by
      rw [List.length_map, h2.length_eq, List.length_map, Array.length_toList]
      exact small64 h64
    have I2 : Inv X pins σ (upd H h'.objs.size (.lst (ss.map V.str))) { s with heap := h'', toks := tk } :=
      I1.laid (t' := tk) (fun b u hb => hk2 b u hb) (Nat.le_refl _) ⟨hlen, out, e, vals_of_strs h1, he⟩
    have hn : H h'.objs.size = none := I1.hok.fresh (Nat.le_refl _)
    exact ⟨.ref _, _, I2, rfl, q ss _ _ h2 h3 hn (Same.upd hn) upd_same⟩
section
variable {K : PySem.W.Frag} {H : Hp} {Q : VK} {σ : St}
end
theorem sX' {X : Cx} {tg iter : Expr} {w1 w2 : TI} (h1 : PI X tg iter w1) (h2 : PI X tg iter w2) : PI X tg iter (fun σ H R => w1 σ H R \/ w2 σ H R) :=
  ⟨fun pins s σ H R I h => h.elim (h1.run pins s σ H R I) (h2.run pins s σ H R I)⟩
def za' (K : PySem.W.Frag) (ta : TA) : TI := fun σ H R => zc' ta σ H R \/ RZ.iZipA K ta σ H R
theorem v4' {X : Cx} {e e2 : Expr} {ta : TA} {p pos tpos : Pos} {elts : List Expr} {kk} (hg : Gl X "zip") (hm : X.mg "zip" = none) (ha : PA X [e, e2] ta)
    (hs : starEach [e, e2] X.env = (false, eval e X.env) :: starEach [e2] X.env := by rfl) (hpl : (backTo pos (starEach [e2] X.env)).any (·.1) = false := by rfl) :
    PI X (.Tuple elts kk tpos) (.Call (.Name "zip" p) [e, e2] [] pos) (za' X.K ta) := sX' (v5' hg hm ha hs hpl) (RZ.pi_zipA hg hm ha hs hpl)
end S
namespace S
open PySem PySem.Spec PyProof.Rows L2
section
variable {K : PySem.W.Frag} {σ : St} {H : Hp} {Q : VK} {te ta tv : TE} {f : Str} {v y : V} {a C dx : Addr} {fs : List (Str × V)} {D : Ends} {R : Hp -> Prop}
end
def Bl' (C : Addr) (m : Str) (sp : Sp) (E : XK) (σ : St) (t : TA) : V -> Hp -> VK -> Prop := fun x H Q => ∃ a dx fs, x = .ref a /\ H a = some (.ins C dx fs) /\ fs.lookup m = none /\ t σ H fun vs H2 => sp (x :: vs) H2 Q E
def ul' (C : Addr) (sp : Sp) (E : St -> XK) (t : TA) : TE := fun σ H Q => t σ H fun vs H1 => ∀ x dx, H1 x = none -> H1 dx = none -> dx ≠ x -> sp (.ref x :: vs) (upd (upd H1 dx (.own x)) x (.ins C dx [])) (fun v H2 => v = .non /\ Q (.ref x) H2) (E σ)
section
variable {K : PySem.W.Frag} {σ : St} {H : Hp} {Q : VK} {ta : TE} {t : TA} {C a dx : Addr} {m : Str} {sp : Sp} {E : St -> XK} {E' : XK} {fs : List (Str × V)} {vs : List V}
end
section
variable {X : Cx} {k : Nat} {C : Addr} {x m : Str} {ps : List Str} {sp : Sp} {p pos apos : Pos} {e o : Expr} {es : List Expr} {ta : TE} {t : TA} {W : WX} {CX : CXT} {f : Addr} {fd : FuncData} {E : St -> XK}
end
end S
namespace S
open PySem PySem.Spec PyProof.Rows L2
def signs (x : Str) : List V := x.cps.toList.map fun c => V.str ⟨#[c]⟩
theorem hq' {x : Str} {acc : Array Value} (h : ItemsOf (SignAt x) acc x.cps.size) : Vals (signs x) acc.toList := by
  have hS : StrsAre acc.toList (x.cps.toList.map fun c => ⟨#[c]⟩) := by
    refine eF' _ _ (by rw [Array.length_toList, Array.length_toList]; exact h.1) fun j v hv => ?_
    obtain ⟨c, u, h1, h2⟩ := h.2 j v (by simpa using hv)
    exact ⟨c, u, by rw [<- h1]; simp, h2⟩
  have := vals_of_strs hS
  rw [List.map_map] at this
  exact this
def qJ' : List V -> Hp -> VK -> Prop := fun vs H Q => ∃ x : Str, vs = [V.str x] /\ x.length <= sizeLine /\ ∀ p, H p = none -> Q (.ref p) (upd H p (.lst (signs x)))
theorem lC' {X : Cx} (hc : X.calm = true) : CallR X (.type "list") qJ' := by
  intro pins s σ H vs us Q I r h
  obtain ⟨x, rfl, hl, q⟩ := h
  cases r with
  | cons r rr =>
    cases rr
    obtain ⟨t, rfl⟩ := r
    refine call_list_str (I.ok.hd hc) x t (fun h' tk acc c' hk ho hacc => ?_) hl
    have hlen : (signs x).length <= sizeLine := by
      unfold signs
      rw [List.length_map, Array.length_toList]
      exact hl
    have I2 : Inv X pins σ (upd H s.heap.objs.size (.lst (signs x))) { s with heap := h', toks := tk } :=
      I.laid (t' := tk) (fun b u hb => hk b u hb) (Nat.le_refl _) ⟨hlen, acc.toList, c', hq' hacc, by rw [ho]⟩
    exact ⟨.ref _, _, I2, rfl, q _ (I.hok.fresh (Nat.le_refl _))⟩
def uv' : List V -> Hp -> VK -> Prop := fun vs H Q => ∃ x : Str, vs = [V.str x] /\ x.length <= sizeLine /\ ∀ p, H p = none -> Q (.ref p) (upd H p (.tup (signs x)))
theorem oJ' {X : Cx} (hc : X.calm = true) : CallR X (.type "tuple") uv' := by
  intro pins s σ H vs us Q I r h
  obtain ⟨x, rfl, hl, q⟩ := h
  cases r with
  | cons r rr =>
    cases rr
    obtain ⟨t, rfl⟩ := r
    refine call_tuple_str (I.ok.hd hc) x t (fun h' tk acc hk hacc => ?_) hl
    have hlen : (signs x).length <= sizeLine := by
      unfold signs
      rw [List.length_map, Array.length_toList]
      exact hl
    have I1 : Inv X pins σ H { s with heap := h' } := I.kept (t' := s.toks) hk
    have I2 : Inv X pins σ (upd H h'.objs.size (.tup (signs x))) { s with heap := h'.push { cls := .type "tuple", data := .seq acc }, toks := tk } :=
      I1.laid (t' := tk) (fun b u hb => Heap.get?_push_of_some _ hb) (Nat.le_refl _) ⟨hlen, acc.toList, hq' hacc, ⟨_, Heap.get?_push_size _ rfl, rfl, 0, by simp⟩⟩
    exact ⟨.ref _, _, I2, rfl, q _ (I1.hok.fresh (Nat.le_refl _))⟩
def uy' (K : PySem.W.Frag) : List V -> Hp -> VK -> Prop := fun vs H Q => uz' K vs H Q \/ qJ' vs H Q
theorem hU' {X : Cx} (hc : X.calm = true) : CallR X (.type "list") (uy' X.K) := oK'.or (lC' hc)
def qE' (K : PySem.W.Frag) : List V -> Hp -> VK -> Prop := fun vs H Q => qF' K vs H Q \/ uv' vs H Q
theorem bc' {X : Cx} (hc : X.calm = true) : CallR X (.type "tuple") (qE' X.K) := lB'.or (oJ' hc)
end S
namespace S
open PySem PySem.Spec PyProof.Rows L2
structure RoomG (k : Nat) (A : Around) : Prop where
  r : Room k A
  g : A.guards = some []
theorem RoomG.mono {j k : Nat} {A : Around} (h : RoomG k A) (l : j <= k) : RoomG j A := ⟨h.r.mono l, h.g⟩
theorem RoomG.units {k : Nat} {A : Around} (h : RoomG k A) : A.units + 64 < cLine := h.r.units
structure FnG (P : Program) (w : World) (K : PySem.W.Frag) (mg : Str -> Option Value) (base : Heap) (CX : CXT) (k : Nat) (f : Addr) (fd : FuncData) (ps : List Str) (sp : Sp) : Prop where
  len : ∀ vs H Q E, sp vs H Q E -> vs.length = ps.length
  run : ∀ (A : Around) (outer : List Env) (s : Shared) (H : Hp) (args : Args) (us : List Value) (vs : List V) (Q : VK) (E : XK), RoomG k A -> Env0 P w K mg base A outer s H →
    BindsTo s fd args (ps.zip us) -> Vals vs us -> sp vs H Q E -> codeAny (model P w) A (.call (.ref f) args) (CR CX outer P w H s Q E) s
theorem FnG.of {P : Program} {w : World} {K : PySem.W.Frag} {mg : Str -> Option Value} {base : Heap} {CX : CXT} {k : Nat} {f : Addr} {fd : FuncData} {ps : List Str} {sp : Sp} (F : FnOk P w K mg base CX k f fd ps sp) : FnG P w K mg base CX k f fd ps sp :=
  ⟨F.len, fun A o s H as us vs Q E h => F.run A o s H as us vs Q E h.r⟩
section
variable {P : Program} {w : World} {K : PySem.W.Frag} {mg : Str -> Option Value} {base : Heap} {CX : CXT} {f : Addr} {fd : FuncData}
theorem zf' {N ps : List Str} {scope : Scope} (S : FnScope N ps scope) (us : List Value) (n : Nat) : ∀ y ∈ ps.zip us,
    scope.names.lookup y.1 = some .local \/ (scope.names.lookup y.1 = some .cell /\ ((cellsFrom n scope.names []).lookup y.1).isSome = true) := by
  rintro ⟨nm, v⟩ hy
  have q := S.par nm (List.of_mem_zip hy).1
  exact q.imp id fun q => ⟨q, PySem.W.cellsFrom_some _ _ _ (.inl q)⟩
theorem wI' {x qual : Str} {params : Arguments} {body : List Stmt} {scope : Scope} {N ps : List Str} {k : Nat} {sp : Sp} (F : FunD K x qual params body scope [] [] f fd) (S : FnScope N ps scope)
    (len : ∀ vs H Q E, sp vs H Q E -> vs.length = ps.length)
    (hbody : ∀ (cdv oc : Value) (od : Option Addr) (osl : Array (Option Value)), K.lookup f = some ⟨oc, od, .func fd, osl⟩ -> fd.code = cdv -> PySem.W.codeIn K cdv qual = true -> ∀ (A : Around) (o : List Env) (s : Shared) (H : Hp) (vs : List V) (Q : VK) (E : XK), RoomG k (A.deeper (envOfC qual scope s.heap.objs.size f cdv)) -> sp vs H Q E →
      ∃ t, PSs (cxOf CX P w K mg base N qual scope f cdv A o s H E) body t /\ t { nx := fun _ H' => Q .non H', rt := Q } (start N vs) H) : FnG P w K mg base CX (k + 1) f fd ps sp := by
  obtain ⟨oc, od, dV, kV, doc, pm, an, cdv, ct, osl, rfl, lk, hcd, _, _⟩ := F.ex
  constructor
  . exact len
  intro A o s H args us vs Q E hg e0 hb r hsp
  have Ks : K.In s.heap := e0.mod.kin.keeps fun b u e => (e0.bs b u e).1
  have Ls : s.heap.NoLimit := e0.mod.nolimit.keeps fun b u e => (e0.bs b u e).1
  refine codeAny_call_function hg.r.depth (Ks _ _ lk) rfl S.co S.gen rfl (PySem.W.codeRec_of Ks hcd) (hb _ _ _ _ ?_)
  refine wpAny_newFunctionEnv_cells S.kind (zf' S us _) fun env he s1 z => ?_
  subst he
  refine ⟨Ls.keeps z.toInCall.keep, codeAny_func ?_⟩
  obtain ⟨t, pt, tq⟩ := hbody cdv oc od osl lk rfl hcd A o s H vs Q E ⟨hg.r.deeper _, hg.g⟩ hsp
  have J := inv_start (CX := CX) (E := E) S hg.r.hd e0 (len _ _ _ _ hsp) r z
  refine wpAny_mono (pt.run [] s1 (start N vs) H _ J tq) (fun fl s' q => ?_) fun _ _ q => q
  cases fl with
  | next =>
    obtain ⟨σ', H', I, q⟩ := q
    exact ⟨V.non, H', I.os, I.bare, I.base, I.hok, rfl, q⟩
  | ret u =>
    obtain ⟨v, σ', H', I, e, q⟩ := q
    exact ⟨v, H', I.os, I.bare, I.base, I.hok, e, q⟩
  | brk => exact (let ⟨_, _, _, z⟩ := q; z).elim
  | cont => exact (let ⟨_, _, _, z⟩ := q; z).elim
theorem uS' {X : Cx} {pins : List (Addr × Obj)} {σ : St} {H : Hp} {s s' : Shared} {Q : VK} {E : XK} (hx : PassesAt CX X σ E) (I : Inv X pins σ H s) : ∀ r : Result, CR CX X.stack X.prog X.w H s Q E r s' -> (match r with
    | .ok (.ret u) => EP X pins σ Q u s'
    | .ok _ => False
    | .error e => X.xe e s')
  | .error e, q => hx pins H s e s' I q
  | .ok (.ret u), q => I.after q
  | .ok .next, q => q
  | .ok .brk, q => q
  | .ok .cont, q => q
end
section
variable {X : Cx} {CX : CXT} {k : Nat} {f C : Addr} {fd : FuncData} {ps : List Str} {sp : Sp} {E : St -> XK} {x m : Str} {p pos apos : Pos} {e o : Expr} {es : List Expr} {ta : TE} {t : TA} {W : WX}
theorem kR' {pins : List (Addr × Obj)} {σ : St} {H : Hp} {s : Shared} {Q : VK} {us : List Value} {vs : List V} (F : FnG X.prog X.w X.K X.mg X.base CX k f fd ps sp) (hr : RoomG k X.A)
    (hb : Binds X.K fd ps []) (hx : PassesAt CX X σ (E σ)) (I : Inv X pins σ H s) (r : Vals vs us) (h : sp vs H Q (E σ)) : wpAny (model X.prog X.w) X.A (call (.ref f) us) (EP X pins σ Q) X.xe s := by
  have b := hb s us I.kIn (by rw [List.append_nil, <- r.length]; exact F.len _ _ _ _ h)
  rw [List.append_nil] at b
  refine wpAny_call (codeAny_mono (F.run X.A X.stack s H ⟨us, []⟩ us vs Q (E σ) hr I.env0 b r h) fun res s' q => ?_)
  have z := uS' hx I res q
  revert z
  cases res with
  | error e => exact id
  | ok fl => cases fl <;> exact id
def Og (P : Program) (w : World) (K : PySem.W.Frag) (mg : Str -> Option Value) (base : Heap) (k : Nat) (x : Str) (ps : List Str) (sp : Sp) : Prop :=
  ∃ fd, FnG P w K mg base (L2.CX P w) k (He.ga K x) fd ps sp /\ Binds K fd ps [] /\ PySem.W.keepIn K (.ref (He.ga K x)) = true /\ mg x = some (.ref (He.ga K x))
def OgM (P : Program) (w : World) (K : PySem.W.Frag) (mg : Str -> Option Value) (base : Heap) (k : Nat) (C : Addr) (m : Str) (ps : List Str) (sp : Sp) : Prop :=
  ∃ fd, FnG P w K mg base (L2.CX P w) k (He.ma K C m) fd ps sp /\ Binds K fd ps []
theorem s2' (F : Og X.prog X.w X.K X.mg X.base k x ps sp) (hr : RoomG k X.A) (hg : Gl X x) (tk : Takes X W) (ha : PA X (e :: es) t) (hdb : (x == ("__debug__" : Str)) = false := by decide)
    (he : starEach (e :: es) X.env = (false, eval e X.env) :: starEach es X.env := by rfl) (hpl : (backTo pos (starEach es X.env)).any (·.1) = false := by rfl) : PE X (.Call (.Name x p) (e :: es) [] pos) (tCallS sp (WE W) t) := by
  obtain ⟨fd, F, b, kp, hm⟩ := F
  refine ⟨fun pins s σ H Q I h => wpAny_Call_Name_kw (ld_glob I hg hm ?_ hdb)⟩
  refine PySem.W.callWith_K (h₀ := X.base) I.ok.mod.kin kp (thn (ha.run pos pins s σ H _ I h) fun us s1 ⟨vs, H1, I1, r, q⟩ => ?_) he hpl
  exact ⟨I1.kIn, kR' F hr b (passAt tk σ) I1 r q⟩
def xn' (K : PySem.W.Frag) (cs : List String) (m : Str) (g : Addr) : Prop := ∀ C ∈ cs, Cls K (He.ga K (Str.ofString C)) /\ Meth K (He.ga K (Str.ofString C)) m g
def uk' (K : PySem.W.Frag) (cs : List String) (m : Str) (sp : Sp) (E : St -> XK) (ta : TE) (t : TA) : TE := fun σ H Q => ta σ H fun x H1 => ∃ C, C ∈ cs /\ Bl' (He.ga K (Str.ofString C)) m sp (E σ) σ t x H1 Q
theorem sZ' {pl : Sem Bool} {cs : List String} (he : PE X o ta) (F : OgM X.prog X.w X.K X.mg X.base k C m ps sp) (hr : RoomG k X.A) (hm : xn' X.K cs m (He.ma X.K C m)) (tk : Takes X W) (ha : PA X (e :: es) t)
    (hst : starEach (e :: es) X.env = (false, eval e X.env) :: starEach es X.env := by rfl) (hpl : (backTo pos (starEach es X.env)).any (·.1) = false := by rfl)
    (ht : eval (.Call (.Attribute o m apos) (e :: es) [] pos) X.env = (eval o X.env >>= fun ov => standAt apos.atName >>= fun _ => holding [ov] (getMethod ov m pl) >>= fun q =>
      callWith pos q.1 q.2 (backTo pos (starEach (e :: es) X.env)) (backToKw pos (keywordEach [] X.env))) := by rfl) :
    PE X (.Call (.Attribute o m apos) (e :: es) [] pos) (uk' X.K cs m sp (WE W) ta t) := by
  obtain ⟨fd, F, hb⟩ := F
  refine ⟨fun pins s σ H Q I h => PySem.W.methodCall_KW (pl := pl) (thn (he.run pins s σ H _ I h) fun u s1 ⟨x, H1, I1, rx, D, hD, a, dx, fs, ex, ea, l, q⟩ => ?_) ht⟩
  obtain ⟨c, hm⟩ := hm D hD
  subst ex
  cases (show u = Value.ref a from rx)
  refine getmeth_ok I1 ea c hm l (PySem.W.callWith_K (first := [.ref a]) (h₀ := X.base) I.ok.mod.kin hm.kp (thn (ha.run pos pins s1 σ H1 _ I1 q) fun us s2 ⟨vs, H2, I2, r, q2⟩ => ?_) hst hpl)
  exact ⟨I2.kIn, kR' (us := .ref a :: us) (vs := .ref a :: vs) F hr hb (passAt tk σ) I2 (.cons rfl r) q2⟩
theorem oc' {A : Around} {C : Addr} {us : List Value} {kw : List (Str × Value)} (h : A.guards = some []) : (A.under (.builtin "type.__call__" ⟨.ref C :: us, kw⟩)).guards = some [] := by
  simp [Around.under, Code.guards, Code.isGuard, guardIds, pushGuards, h]
theorem s0' (F : OgM X.prog X.w X.K X.mg X.base k C "__init__" ps sp) (hr : RoomG (k + 1) X.A) (hg : Gl X x) (M : Mk X.K C (He.ma X.K C "__init__")) (hm : X.mg x = some (.ref C)) (tk : Takes X W)
    (ha : PA X (e :: es) t) (hdb : (x == ("__debug__" : Str)) = false := by decide) (he : starEach (e :: es) X.env = (false, eval e X.env) :: starEach es X.env := by rfl) (hpl : (backTo pos (starEach es X.env)).any (·.1) = false := by rfl) :
    PE X (.Call (.Name x p) (e :: es) [] pos) (ul' C sp (WE W) t) := by
  obtain ⟨fd, F, hb⟩ := F
  refine ⟨fun pins s σ H Q I h => wpAny_Call_Name_kw (ld_glob I hg hm ?_ hdb)⟩
  refine PySem.W.callWith_K (h₀ := X.base) I.ok.mod.kin M.kp (thn (ha.run pos pins s σ H _ I h) fun us s1 ⟨vs, H1, I1, r, q⟩ => ?_) he hpl
  have fr := fun n (l : s1.heap.objs.size <= n) => I1.hok.fresh l
  have q := q (s1.heap.objs.size + 1) s1.heap.objs.size (fr _ (Nat.le_succ _)) (fr _ (Nat.le_refl _)) (Nat.ne_of_lt (Nat.lt_succ_self _))
  have J := Inv.made (C := C) I1
  have b := hb (s := _) (us := Value.ref (s1.heap.objs.size + 1) :: us) J.kIn (by
    rw [List.append_nil, <- F.len _ _ _ _ q]
    simp [r.length])
  rw [List.append_nil] at b
  refine ⟨I1.kIn, wpAny_call (make_map (f := He.ma X.K C "__init__") I1.kIn M.makes M.init (beq_iff_eq.mp M.fn) (codeAny_mono (F.run _ X.stack _ _ ⟨Value.ref (s1.heap.objs.size + 1) :: us, []⟩ _ _ _ (WE W σ)
    (k := k) ⟨hr.r.make C _ [], oc' hr.g⟩ (J.env0.make C _ []) b (Paired.cons (show L2.RelV (.ref (s1.heap.objs.size + 1)) (.ref (s1.heap.objs.size + 1)) from rfl) r) q) fun res s' q' => ?_))⟩
  have z := uS' (passAt tk σ) J res q'
  revert z
  cases res with
  | error e => exact id
  | ok fl =>
    cases fl with
    | ret u =>
      rintro ⟨v, H', I3, rv, ev, q3⟩
      subst ev
      exact ⟨rv, ⟨V.ref (s1.heap.objs.size + 1), H', I3, rfl, q3⟩⟩
    | next => exact id
    | brk => exact id
    | cont => exact id
end
theorem oI' {P : Program} {w : World} {CX : CXT} {H : Hp} {s s' : Shared} (hO : Only H) (ok : HOk P w H s.heap) (hCX : ∀ e s', CX [] H s (fun _ _ _ => False) e s' -> False) : ∀ res : Result,
    CR CX [] P w H s (fun v _ => v = .bl true) (fun _ _ _ => False) res s' -> res = .ok (.ret (.bool true)) /\ OldK s.heap s'.heap /\ s'.os = s.os /\ AllBare s'.gens
  | .error e, q => (hCX e s' q).elim
  | .ok .next, q => False.elim q
  | .ok .brk, q => False.elim q
  | .ok .cont, q => False.elim q
  | .ok (.ret u), ⟨v, H', os, bare, un, ok', rv, q⟩ => by
    have q : v = .bl true := q
    rw [q] at rv
    cases (show u = Value.bool true from rv)
    refine ⟨rfl, OldK.of_keep fun b o e => ?_, os, bare⟩
    rcases hO b with z | ⟨ob, xs, z⟩
    . exact un.keep b o e z (List.not_mem_nil) (List.not_mem_nil)
    . have e1 := (ok b _ z).1
      have e2 := (ok' b _ (un.frzs b ob _ z)).1
      rw [e] at e1
      cases e1
      exact e2
theorem jR' {P : Program} {w : World} {K : PySem.W.Frag} {mg mb : Str -> Option Value} {CX : CXT} {k : Nat} {fa a : Addr} {fd : FuncData} {x : Str} {sp : Sp} {s : Shared} {vs : List Value} {n0 : Nat} {H : Hp}
    (KX : K.In s.heap) (n1 : s.heap.Ns mainGlobals mg) (n2 : s.heap.Ns builtinsNs mb) (n3 : ∀ x : Str, x ≠ "__name__" -> mb x = bootBuiltins x) (lim : s.heap.NoLimit) (hg : s.gens = #[])
    (ha : s.heap.get? a = some { cls := .type "list", data := .seq vs.toArray n0 }) (hr : Room k callerA) (F : ∀ base : Heap, K.In base -> base.Ns mainGlobals mg -> FnG P w K mg base CX k fa fd [x] sp)
    (hbind : ∀ (s : Shared) (u : Value), BindsTo s fd ⟨[u], []⟩ [(x, u)]) (hO : Only H) (hs : sp [.ref a] H (fun v _ => v = .bl true) fun _ _ _ => False) (hCX : ∀ e s', CX [] H s (fun _ _ _ => False) e s' -> False)
    (ok : HOk P w H s.heap) (one : ∀ b u, H b = some u -> b = a) (out : H a ≠ none -> K.lookup a = none) :
    codeAny (model P w) callerA (.call (.ref fa) ⟨[.ref a], []⟩) (fun r s' => r = .ok (.ret (.bool true)) /\ OldK s.heap s'.heap /\ s'.os = s.os /\ AllBare s'.gens) s := by
  -- an object that is no list of the script stands in the base
  have apart : ∀ {b : Addr} {o : Obj}, s.heap.get? b = some o -> (∀ l n, o.data ≠ .seq l n) -> H b = none := by
    intro b o e d
    cases q : H b with
    | none => rfl
    | some u =>
      have e' := one b u q
      rw [e', ha] at e
      cases e
      exact absurd rfl (d _ _)
  have keep : ∀ {b : Addr} {m : Str -> Option Value}, s.heap.Ns b m -> (hidT s.heap H).Ns b m := by
    rintro b m ⟨o, es, ep, e, d, r⟩
    exact ⟨o, es, ep, hidT_get e (apart e fun l n z => by rw [d] at z; cases z), d, r⟩
  have Kb : K.In (hidT s.heap H) := by
    intro b o e
    refine hidT_get (KX b o e) ?_
    cases q : H b with
    | none => rfl
    | some u =>
      have e' := one b u q
      subst e'
      rw [out (by rw [q]; exact fun z => nomatch z)] at e
      cases e
  have M : Mod K mg (hidT s.heap H) := { kin := Kb, glob := keep n1, blt := ⟨mb, keep n2, n3⟩, nolimit := (let ⟨m, q1, q2⟩ := lim; ⟨m, keep q1, q2⟩) }
  have e0 : Env0 P w K mg (hidT s.heap H) callerA [] s H := { frames := rfl, mod := M, bs := (fun b o e => of_hidT e), bsz := Nat.le_of_eq (hidT_size _ _), funs := trivial, frf := (fun b z => absurd z List.not_mem_nil), hok := ok, bare := .of_eq hg }
  exact codeAny_mono ((F _ Kb (keep n1)).run callerA [] s H ⟨[.ref a], []⟩ [.ref a] [.ref a] _ _ ⟨hr, rfl⟩ e0 (hbind s (.ref a)) (.cons rfl .nil) hs) fun r s' q => oI' hO ok hCX r q
theorem ro' {P : Program} {w : World} {K : PySem.W.Frag} {mg mb : Str -> Option Value} {CX : CXT} {k : Nat} {fa a : Addr} {fd : FuncData} {x : Str} {sp : Sp} {s : Shared} {vs : List Value} {ns : List Int}
    (KX : K.In s.heap) (n1 : s.heap.Ns mainGlobals mg) (n2 : s.heap.Ns builtinsNs mb) (n3 : ∀ x : Str, x ≠ "__name__" -> mb x = bootBuiltins x) (lim : s.heap.NoLimit) (hg : s.gens = #[])
    (ha : s.heap.get? a = some { cls := .type "list", data := .seq vs.toArray }) (hi : IntsAre vs ns) (hl : ns.length <= sizeLine) (hr : Room k callerA)
    (F : ∀ base : Heap, K.In base -> base.Ns mainGlobals mg -> FnG P w K mg base CX k fa fd [x] sp) (hbind : ∀ (s : Shared) (u : Value), BindsTo s fd ⟨[u], []⟩ [(x, u)])
    (hsp : ∀ H : Hp, Only H -> SqL K H a (ns.map V.int) -> sp [.ref a] H (fun v _ => v = .bl true) fun _ _ _ => False) (hCX : ∀ H e s', CX [] H s (fun _ _ _ => False) e s' -> False) :
    codeAny (model P w) callerA (.call (.ref fa) ⟨[.ref a], []⟩) (fun r s' => r = .ok (.ret (.bool true)) /\ OldK s.heap s'.heap /\ s'.os = s.os /\ AllBare s'.gens) s := by
  have rv := vals_ints hi
  have zl : (vs.toArray).size <= sizeLine := by rw [List.size_toArray, hi.length]; exact hl
  rcases hk : K.lookup a with _ | o
  . -- the script alone is tracked
    let H : Hp := fun b => if b = a then some (.frz { cls := .type "list", data := .seq vs.toArray } (.lst (ns.map V.int))) else none
    have Ha : H a = some (.frz { cls := .type "list", data := .seq vs.toArray } (.lst (ns.map V.int))) := if_pos rfl
    have Hb : ∀ b u, H b = some u -> b = a := fun b u z => Classical.byContradiction fun nb => by rw [show H b = none from if_neg nb] at z; cases z
    have hO : Only H := fun b => (Decidable.em (b = a)).elim (fun e => .inr ⟨_, _, if_pos e⟩) fun e => .inl (if_neg e)
    refine jR' KX n1 n2 n3 lim hg ha hr F hbind hO (hsp H hO (.inl (.inr ⟨_, Ha⟩))) (hCX H) (fun b u z => ?_) Hb fun _ => hk
    have eb := Hb b u z
    subst eb
    rw [Ha] at z
    cases z
    exact ⟨ha, by rw [List.length_map]; exact hl, vs, _, rv, ha⟩
  . -- it is one of the module's own
    have e := KX a o hk
    rw [ha] at e
    cases e
    let H : Hp := fun _ => none
    have hO : Only H := fun _ => .inl rfl
    refine jR' KX n1 n2 n3 lim hg ha hr F hbind hO (hsp H hO (.inr ⟨_, vs.toArray, _, hk, rfl, rfl, rfl, zl, rv⟩)) (hCX H) (fun b u z => nomatch z) (fun b u z => nomatch z) fun z => absurd rfl z
theorem sl' {l : PySem.W.OpenLaw} {n k : Nat} {q : Program} {loose : List Str} {XP : (Str -> Option Value) -> Heap -> Prop} {YP : World -> Heap -> Prop} {d : DefRec} {CX : CXT} {x : Str}
    (hn : l.most = some n) (hn2 : n <= sizeLine) (hdf : d.params.defaults = []) (hr : Room k callerA)
    (F : ∀ (w : World) (mg : Str -> Option Value) (fa : Addr) (h : Heap), YP w h -> h.Ns mainGlobals mg -> mg d.name = some (.ref fa) -> ∃ (K : PySem.W.Frag) (fd : FuncData) (sp : Sp), K.In h ∧
      (∀ (s : Shared) (u : Value), BindsTo s fd ⟨[u], []⟩ [(x, u)]) /\ (∀ (H : Hp) (a : Addr) (ns : List Int), ns.length <= n -> Only H -> SqL K H a (ns.map V.int) -> sp [.ref a] H (fun v _ => v = .bl true) fun _ _ _ => False) ∧
        ∀ base : Heap, K.In base -> base.Ns mainGlobals mg -> FnG l.prog w K mg base CX k fa fd [x] sp)
    (hCX : ∀ (H : Hp) (s : Shared) (e : Value) (s' : Shared), CX [] H s (fun _ _ _ => False) e s' -> False) : PySem.W.WalkO q loose XP YP l.row.toRowW d [] (fun f vs => PySem.call f vs) :=
  Att.attach_call hn hdf fun w s₀ s₁ mg mb fa o pm cd doc a vs ns G Y ho hd hcd hmg hobj hints hlen hg => by
    obtain ⟨K, fd, sp, KX, hb, hsp, hF⟩ := F w mg fa _ Y G.T.g hmg
    exact ro' KX G.T.g G.T.b G.T.builtins G.T.nolimit hg hobj hints (Nat.le_trans hlen hn2) hr hF hb (fun H hO hS => hsp H a ns hlen hO hS) fun H e s' => hCX H s₁ e s'
theorem FnG.to0 {P : Program} {w : World} {K : PySem.W.Frag} {mg : Str -> Option Value} {base : Heap} {k : Nat} {f : Addr} {fd : FuncData} {ps : List Str} {sp : Sp} (F : FnG P w K mg base (L2.CX P w) k f fd ps sp) :
    FnG P w K mg base CX0 k f fd ps (fun vs H Q _ => sp vs H Q E0) := by
  refine ⟨fun vs H Q _ h => F.len vs H Q E0 h, fun A o s H args us vs Q _ hr he hb hv hs => codeAny_mono (F.run A o s H args us vs Q E0 hr he hb hv hs) fun r s' q => ?_⟩
  rcases r with e | fl
  . obtain ⟨_, _, _, _, _, _, _, _, _, _, _, _, z⟩ := q
    exact z.elim
  . cases fl <;> exact q
end S
namespace S
open PySem PySem.Spec PyProof.Rows L2
def sx (s : M.Tx) : Str := ⟨s.toArray⟩
theorem dO' (s : M.Tx) : (sx s).cps.toList = s := rfl
theorem ca' (s : M.Tx) : (sx s).length = s.length := by show s.toArray.size = _; simp
theorem vD' (z : Str) : sx z.cps.toList = z := by cases z; rfl
theorem um' {a b : M.Tx} (h : sx a = sx b) : a = b := by have := congrArg (fun z : Str => z.cps.toList) h; exact this
theorem x4' (a b : M.Tx) : sx a ++ sx b = sx (a ++ b) := kI' (by rw [tR', dO', dO', dO'])
def okT (s : M.Tx) : Prop := (∀ c ∈ s, c < 1114112) /\ s.length <= M.cR'
def okK : Key -> Prop
  | .inl _ => True
  | .inr x => okT x.cps.toList
def kv' (kvs : List (Key × V)) : Prop := ∀ p ∈ kvs, okK p.1
theorem kv'.nil : kv' [] := fun _ h => nomatch h
theorem kv'.snoc {kvs : List (Key × V)} (h : kv' kvs) {k : Key} {v : V} (hk : okK k) : kv' (kvs ++ [(k, v)]) := fun p hp => by
  rcases List.mem_append.mp hp with hp | hp
  . exact h p hp
  . rw [List.mem_singleton.mp hp]; exact hk
theorem kv'.fst {kvs kvs' : List (Key × V)} (h : kv' kvs) (e : kvs'.map (·.1) = kvs.map (·.1)) : kv' kvs' := fun p hp => by
  have : p.1 ∈ kvs.map (·.1) := by rw [<- e]; exact List.mem_map_of_mem hp
  obtain ⟨q, h1, h2⟩ := List.mem_map.mp this
  rw [<- h2]; exact h q h1
def kD : Key -> M.D
  | .inl i => .int i
  | .inr x => .str x.cps.toList
mutual
def py : M.D -> PyData
  | .bl b => .bool b
  | .int i => .int i
  | .str s => .str (sx s)
  | .tup ds => .tuple (pys ds)
  | .lst ds => .list (pys ds)
  | .dct ks ds => .dict ((pys ks).zip (pys ds))
  | _ => .none
def pys : List M.D -> List PyData
  | [] => []
  | d :: r => py d :: pys r
end
class Wd where
  P : Program
  w : World
  ts : List (Addr × Str)
structure CloD where
  f : Addr
  c : Addr
  q : Str
  ob : Obj
  ws : List V
  caps : List M.D
class Hot where
  hot : Option (Addr × Nat × Option Addr × M.Exc)
  clo : List (Nat × CloD)
abbrev rW' (cs : List (Nat × CloD)) : Hot := ⟨none, cs⟩
instance coldI : Hot := ⟨none, []⟩
def FnO (f : Addr) (ob : Obj) : HO := .ext fun h => h.get? f = some ob
variable [Wd]
mutual
def nk : M.D -> NestedKey
  | .bl b => .num (if b = true then 1 else 0)
  | .int i => .num i
  | .str s => .text (sx s)
  | .tup ds => .tup (nks ds)
  | _ => .none
def nks : List M.D -> List NestedKey
  | [] => []
  | d :: r => nk d :: nks r
end
def lfD : M.D -> Leaf
  | .bl b => .num (if b = true then 1 else 0)
  | .int i => .num i
  | .str s => .text (sx s)
  | _ => .none
def dcL (p : Addr) (kvs : List (Leaf × V)) : HO := .ext fun h => (p == sysModules) = false /\ kvs.length <= sizeLine /\ ∃ vs, KV kvs vs /\ h.DictOf (leafKind Wd.P Wd.w) p vs
abbrev oY' : NestedKey × Addr × V -> NestedKey × Addr × Value -> Prop := fun x y => x.1 = y.1 /\ x.2.1 = y.2.1 /\ RelV x.2.2 y.2.2
def dcN (p : Addr) (xs : List (NestedKey × Addr × V)) : HO := .ext fun h => (p == sysModules) = false /\ xs.length <= sizeLine /\ (xs.map (·.1)).Nodup /\ ∃ ys, Paired oY' xs ys ∧
  ∃ o es ep, h.get? p = some o /\ o.ExactDict /\ o.data = .dict es ep /\ es.toList = ys.map (entryOfKey (nestedKind Wd.P Wd.w))
structure LeafKeys (ks : List M.D) (ls : List Leaf) : Prop where
  e : ls = ks.map lfD
  s : ∀ d ∈ ks, M.sca d = true
structure NestKeys (ks : List M.D) (xs : List (NestedKey × Addr × V)) : Prop where
  e : xs.map (·.1) = ks.map nk
  s : ∀ d ∈ ks, M.kat d = true /\ M.dep d <= 8 /\ M.sca d = false
section
variable (K : PySem.W.Frag)
mutual
/-- v stands for d: what it stands on lies in F and never changes; T: where the world's objects stand -/
inductive Fz (F : Hp) (T : List Addr) : V -> M.D -> Prop
  | non : Fz F T .non .non
  | bl (b : Bool) : Fz F T (.bl b) (.bl b)
  | int (i : Int) : Fz F T (.int i) (.int i)
  | str {s : M.Tx} : okT s -> Fz F T (.str (sx s)) (.str s)
  | tup {a : Addr} {vs : List V} {ds : List M.D} : SqT K F a vs -> FzA F T vs ds -> Fz F T (.ref a) (.tup ds)
  | lst {a : Addr} {vs : List V} {ds : List M.D} : F a = some (.lst vs) -> FzA F T vs ds -> Fz F T (.ref a) (.lst ds)
  | dct {a : Addr} {kvs : List (Key × V)} {ds : List M.D} : Rd F a (.dK kvs) -> kv' kvs -> FzA F T (kvs.map (·.2)) ds -> Fz F T (.ref a) (.dct (kvs.map fun p => kD p.1) ds)
  | dcl {a : Addr} {kvs : List (Leaf × V)} {ks ds : List M.D} : Rd F a (dcL a kvs) -> LeafKeys ks (kvs.map (·.1)) -> FzA F T (kvs.map (·.2)) ds -> Fz F T (.ref a) (.dcx ks ds)
  | dcn {a : Addr} {xs : List (NestedKey × Addr × V)} {ks ds : List M.D} : Rd F a (dcN a xs) -> NestKeys ks xs -> FzA F T (xs.map fun x => .ref x.2.1) ks -> FzA F T (xs.map (·.2.2)) ds -> Fz F T (.ref a) (.dcx ks ds)
  | rep (d : M.D) : Fz F T (.str (py d).shown) (.rep d)
  | obj {n : Nat} {a : Addr} : T[n]? = some a -> Fz F T (.ref a) (.obj n)
  | ty (n : String) : Fz F T (.ty n) (.ty n)
  | fn (x : String) : Fz F T (.ref (He.ga K x)) (.fn x)
  | scr {a : Addr} {vs : List V} {ds : List M.D} : SqL K F a vs -> FzA F T vs ds -> Fz F T (.ref a) (.scr ds)
inductive FzA (F : Hp) (T : List Addr) : List V -> List M.D -> Prop
  | nil : FzA F T [] []
  | cons {v : V} {vs : List V} {d : M.D} {ds : List M.D} : Fz F T v d -> FzA F T vs ds -> FzA F T (v :: vs) (d :: ds)
end
abbrev Fp := List (Addr × HO)
mutual
/-- v stands for o, alone; fp: what it stands on and may change -/
inductive Rp (F : Hp) (T : List Addr) : V -> M.O -> Fp -> Prop
  | fz {v : V} {d : M.D} : Fz K F T v d -> Rp F T v (.fz d) []
  | lst {p : Addr} {vs : List V} {os : List M.O} {fp : Fp} : RpA F T vs os fp -> Rp F T (.ref p) (.lst os) ((p, .lst vs) :: fp)
  | tup {p : Addr} {vs : List V} {os : List M.O} {fp : Fp} : RpA F T vs os fp -> Rp F T (.ref p) (.tup os) ((p, .tup vs) :: fp)
  | dct {p : Addr} {kvs : List (Key × V)} {os : List M.O} {fp : Fp} : kv' kvs -> RpA F T (kvs.map (·.2)) os fp -> Rp F T (.ref p) (.dct (kvs.map fun q => kD q.1) os) ((p, .dK kvs) :: fp)
  | dcl {p : Addr} {kvs : List (Leaf × V)} {ks : List M.D} {os : List M.O} {fp : Fp} : LeafKeys ks (kvs.map (·.1)) -> RpA F T (kvs.map (·.2)) os fp -> Rp F T (.ref p) (.dcx ks os) ((p, dcL p kvs) :: fp)
  | dcn {p : Addr} {xs : List (NestedKey × Addr × V)} {ks : List M.D} {os : List M.O} {fp : Fp} : NestKeys ks xs -> FzA K F T (xs.map fun x => .ref x.2.1) ks -> RpA F T (xs.map (·.2.2)) os fp -> Rp F T (.ref p) (.dcx ks os) ((p, dcN p xs) :: fp)
inductive RpA (F : Hp) (T : List Addr) : List V -> List M.O -> Fp -> Prop
  | nil : RpA F T [] [] []
  | cons {v : V} {vs : List V} {o : M.O} {os : List M.O} {fp fq : Fp} : Rp F T v o fp -> RpA F T vs os fq -> RpA F T (v :: vs) (o :: os) (fp ++ fq)
end
def XcR (F : Hp) (T : List Addr) (x : M.Exc) (cls : Value) (dd : Option Addr) : Prop :=
  cls = .ref (He.ga K x.cls) /\ ((x.fs = [] /\ dd = none) \/ ∃ (a : Addr) (f : String) (v : V) (d : M.D), x.fs = [(f, d)] /\ dd = some a /\ F a = some (.xd [(Str.ofString f, v)]) /\ Fz K F T v d)
structure CloAt (F : Hp) (T : List Addr) (c : CloD) : Prop where
  fn : Rd F c.f (FnO c.f c.ob)
  code : Rd F c.c (LamX.CodeO c.c c.q)
  caps : FzA K F T c.ws c.caps
variable [Hot]
inductive RpE (F : Hp) (T : List Addr) : St -> List (Option M.O) -> Fp -> Prop
  | nil : RpE F T [] [] []
  | off {x : Option V} {σ : St} {env : List (Option M.O)} {fp : Fp} : RpE F T σ env fp -> RpE F T (x :: σ) (none :: env) fp
  | on {v : V} {o : M.O} {σ : St} {env : List (Option M.O)} {fp fq : Fp} : Rp K F T v o fp -> RpE F T σ env fq -> RpE F T (some v :: σ) (some o :: env) (fp ++ fq)
  | hot {a : Addr} {dd : Option Addr} {x : M.Exc} {σ : St} {env : List (Option M.O)} {fp : Fp} : Hot.hot = some (a, env.length, dd, x) -> XcR K F T x (.ref (He.ga K x.cls)) dd -> RpE F T σ env fp -> RpE F T (some (.ref a) :: σ) (some .exn :: env) fp
  | clo {c : CloD} {σ : St} {env : List (Option M.O)} {fp : Fp} : Hot.clo.lookup env.length = some c -> CloAt K F T c -> RpE F T σ env fp -> RpE F T (some (.ref c.f) :: σ) (some .clo :: env) fp
inductive RpOb (F : Hp) (T : List Addr) : Addr -> M.Ob -> Fp -> Prop
  | lst {a : Addr} {vs : List V} {os : List M.O} {fp : Fp} : RpA K F T vs os fp -> RpOb F T a (.lst os) ((a, .lst vs) :: fp)
  | dct {a : Addr} {kvs : List (Key × V)} {os : List M.O} {fp : Fp} : kv' kvs -> RpA K F T (kvs.map (·.2)) os fp -> RpOb F T a (.dct (kvs.map fun q => kD q.1) os) ((a, .dK kvs) :: fp)
  | dcl {a : Addr} {kvs : List (Leaf × V)} {ks : List M.D} {os : List M.O} {fp : Fp} : LeafKeys ks (kvs.map (·.1)) -> RpA K F T (kvs.map (·.2)) os fp -> RpOb F T a (.dcx ks os) ((a, dcL a kvs) :: fp)
  | dcn {a : Addr} {xs : List (NestedKey × Addr × V)} {ks : List M.D} {os : List M.O} {fp : Fp} : NestKeys ks xs -> FzA K F T (xs.map fun x => .ref x.2.1) ks -> RpA K F T (xs.map (·.2.2)) os fp -> RpOb F T a (.dcx ks os) ((a, dcN a xs) :: fp)
  | ins {a dx : Addr} {C : String} {fs : List (String × V)} {os : List M.O} {fp : Fp} : F dx = some (.own a) -> RpA K F T (fs.map (·.2)) os fp →
      RpOb F T a (.ins C ((fs.map (·.1)).zip os)) ((a, .ins (He.ga K C) dx (fs.map fun q => (Str.ofString q.1, q.2))) :: fp)
inductive RpW (F : Hp) (T : List Addr) : List Addr -> M.W -> Fp -> Prop
  | nil : RpW F T [] [] []
  | cons {a : Addr} {l : List Addr} {ob : M.Ob} {w : M.W} {fp fq : Fp} : RpOb K F T a ob fp -> RpW F T l w fq -> RpW F T (a :: l) (ob :: w) (fp ++ fq)
structure Kept (F H : Hp) (fp : Fp) (F' H' : Hp) (fp' : Fp) : Prop where
  un : ∀ a, F a = none -> H a ≠ none -> (∀ e ∈ fp, e.1 ≠ a) -> F' a = none /\ H' a = H a /\ ∀ e ∈ fp', e.1 ≠ a
  cd : ∀ c q, Rd F c (LamX.CodeO c q) -> Rd F' c (LamX.CodeO c q)
structure TbAt (F H : Hp) (fp : Fp) (P : Addr) (q : Str) : Prop where
  f : F P = none
  n : ∀ e ∈ fp, e.1 ≠ P
  t : ∃ ps : Array Value, H P = some (.tbl ps) /\ TriplesOk ps.toList /\ ∀ (pos : Pos) (cv : Value), codeAmong pos ps.toList = some cv -> ∃ c, cv = .ref c /\ Rd F c (LamX.CodeO c q)
theorem TbAt.kept {F H F' H' : Hp} {fp fp' : Fp} {P : Addr} {q : Str} (h : TbAt F H fp P q) (k : Kept F H fp F' H' fp') : TbAt F' H' fp' P q := by
  obtain ⟨ps, h1, h2, h3⟩ := h.t
  obtain ⟨k1, k2, k3⟩ := k.un P h.f (by rw [h1]; simp) h.n
  refine ⟨k1, k3, ps, by rw [k2]; exact h1, h2, fun pos cv hc => ?_⟩
  obtain ⟨c, e1, e2⟩ := h3 pos cv hc
  exact ⟨c, e1, k.cd c q e2⟩
structure FpH (F H : Hp) (fp : Fp) : Prop where
  low : Same F H
  at_ : ∀ e ∈ fp, H e.1 = some e.2 /\ F e.1 = none
  nd : (fp.map (·.1)).Nodup
  tb : ∀ p ∈ Wd.ts, TbAt F H fp p.1 p.2
theorem FpH.tbs {F H F' H' : Hp} {fp fp' : Fp} (f : FpH F H fp) (un : ∀ a, F a = none -> H a ≠ none -> (∀ e ∈ fp, e.1 ≠ a) -> F' a = none /\ H' a = H a /\ ∀ e ∈ fp', e.1 ≠ a)
    (cd : ∀ c q, Rd F c (LamX.CodeO c q) -> Rd F' c (LamX.CodeO c q) := by exact fun _ _ h => h) : ∀ p ∈ Wd.ts, TbAt F' H' fp' p.1 p.2 := fun p hp => (f.tb p hp).kept ⟨un, cd⟩
theorem kU' {F F' : Hp} (s : Same F F') {c : Addr} {o : HO} (h : Rd F c o) : Rd F' c o := by
  rcases h with h | ⟨od, h⟩
  . exact .inl (s _ _ h)
  . exact .inr ⟨od, s _ _ h⟩
def Rel (ρ : M.PSt) (σ : St) (H F : Hp) (T : List Addr) (fr : Fp) : Prop := ∃ fe fw, RpE K F T σ ρ.env fe /\ RpW K F T T ρ.w fw /\ FpH F H (fe ++ (fw ++ fr))
abbrev sf' (w : M.W) (H F : Hp) (T : List Addr) (fr : Fp) : Prop := @Rel _ K coldI ⟨[], w⟩ [] H F T fr
theorem yL' {K : PySem.W.Frag} {F : Hp} {T : List Addr} : @RpE _ K coldI F T [] [] [] := @RpE.nil _ K coldI F T
def Lkb (o : HO) : Prop := (∃ kvs, o = .dK kvs) \/ ∃ φ, o = .ext φ
def Wk (F F' : Hp) : Prop := ∀ a o, F a = some o -> F' a = some o \/ Lkb o /\ ∃ od, F' a = some (.frz od o)
theorem Wk.of {F F' : Hp} (s : Same F F') : Wk F F' := fun a o h => .inl (s a o h)
theorem Wk.trans {F F' F2 : Hp} (s : Wk F F') (r : Wk F' F2) : Wk F F2 := fun a o h => by
  rcases s a o h with h1 | ⟨hl, od, h1⟩
  . exact r a o h1
  . rcases r a _ h1 with h2 | ⟨⟨_, e⟩ | ⟨_, e⟩, _⟩
    . exact .inr ⟨hl, od, h2⟩
    . cases e
    . cases e
theorem Wk.at_ {F F' : Hp} (s : Wk F F') {a : Addr} {o : HO} (h : F a = some o) (n : ∀ kvs, o ≠ .dK kvs) (n2 : ∀ φ, o ≠ .ext φ := by intro _ e; cases e) : F' a = some o := by
  rcases s a o h with h | ⟨⟨kvs, rfl⟩ | ⟨φ, rfl⟩, od, _⟩
  . exact h
  . exact absurd rfl (n kvs)
  . exact absurd rfl (n2 φ)
theorem Wk.rd {F F' : Hp} (s : Wk F F') {a : Addr} {u : HO} (hl : Lkb u) (h : Rd F a u) : Rd F' a u := by
  rcases h with h | ⟨o, h⟩
  . rcases s _ _ h with h | ⟨_, od, h⟩
    . exact .inl h
    . exact .inr ⟨od, h⟩
  . exact .inr ⟨o, s.at_ h fun _ e => nomatch e⟩
theorem Wk.lst {F F' : Hp} (s : Wk F F') {a : Addr} {vs : List V} (h : F a = some (.lst vs)) : F' a = some (.lst vs) := s.at_ h fun _ e => nomatch e
theorem Wk.dict {F F' : Hp} (s : Wk F F') {a : Addr} {kvs : List (Key × V)} (h : Rd F a (.dK kvs)) : Rd F' a (.dK kvs) := by
  exact s.rd (.inl ⟨_, rfl⟩) h
theorem Wk.seqT {K : PySem.W.Frag} {F F' : Hp} (s : Wk F F') {a : Addr} {xs : List V} (h : SqT K F a xs) : SqT K F' a xs := by
  rcases h with (h | ⟨o, h⟩) | h
  . exact .inl (.inl (s.at_ h fun _ e => nomatch e))
  . exact .inl (.inr ⟨o, s.at_ h fun _ e => nomatch e⟩)
  . exact .inr h
theorem Wk.seqL {K : PySem.W.Frag} {F F' : Hp} (s : Wk F F') {a : Addr} {xs : List V} (h : SqL K F a xs) : SqL K F' a xs := by
  rcases h with (h | ⟨o, h⟩) | h
  . exact .inl (.inl (s.at_ h fun _ e => nomatch e))
  . exact .inl (.inr ⟨o, s.at_ h fun _ e => nomatch e⟩)
  . exact .inr h
structure Ext (F : Hp) (T : List Addr) (F' : Hp) (T' : List Addr) : Prop where
  f : Wk F F'
  t : T <+: T'
end
variable [Hot]
section
variable {K : PySem.W.Frag} {F F' F2 H H' : Hp} {T T' T2 : List Addr}
theorem Ext.refl : Ext F T F T := ⟨fun _ _ h => .inl h, List.prefix_refl _⟩
theorem Ext.trans (a : Ext F T F' T') (b : Ext F' T' F2 T2) : Ext F T F2 T2 := ⟨a.f.trans b.f, a.t.trans b.t⟩
theorem Ext.of (h : Same F F') : Ext F T F' T := ⟨.of h, List.prefix_refl _⟩
theorem Ext.get (e : Ext F T F' T') {n : Nat} {a : Addr} (h : T[n]? = some a) : T'[n]? = some a := by
  obtain ⟨r, rfl⟩ := e.t
  rw [List.getElem?_append_left (List.getElem?_eq_some_iff.mp h).1]
  exact h
mutual
theorem Fz.mono (e : Ext F T F' T') : ∀ {v : V} {d : M.D}, Fz K F T v d -> Fz K F' T' v d
  | _, _, .non => .non
  | _, _, .bl b => .bl b
  | _, _, .int i => .int i
  | _, _, .str h => .str h
  | _, _, .tup h r => .tup (e.f.seqT h) (FzA.mono e r)
  | _, _, .lst h r => .lst (e.f.lst h) (FzA.mono e r)
  | _, _, .dct h k r => .dct (e.f.dict h) k (FzA.mono e r)
  | _, _, .dcl h k r => .dcl (e.f.rd (.inr ⟨_, rfl⟩) h) k (FzA.mono e r)
  | _, _, .dcn h k q r => .dcn (e.f.rd (.inr ⟨_, rfl⟩) h) k (FzA.mono e q) (FzA.mono e r)
  | _, _, .rep d => .rep d
  | _, _, .obj h => .obj (e.get h)
  | _, _, .ty n => .ty n
  | _, _, .fn x => .fn x
  | _, _, .scr h r => .scr (e.f.seqL h) (FzA.mono e r)
theorem FzA.mono (e : Ext F T F' T') : ∀ {vs : List V} {ds : List M.D}, FzA K F T vs ds -> FzA K F' T' vs ds
  | _, _, .nil => .nil
  | _, _, .cons h r => .cons (Fz.mono e h) (FzA.mono e r)
end
mutual
theorem Rp.mono (e : Ext F T F' T') : ∀ {v : V} {o : M.O} {fp : Fp}, Rp K F T v o fp -> Rp K F' T' v o fp
  | _, _, _, .fz h => .fz (h.mono e)
  | _, _, _, .lst r => .lst (RpA.mono e r)
  | _, _, _, .tup r => .tup (RpA.mono e r)
  | _, _, _, .dct k r => .dct k (RpA.mono e r)
  | _, _, _, .dcl k r => .dcl k (RpA.mono e r)
  | _, _, _, .dcn k q r => .dcn k (q.mono e) (RpA.mono e r)
theorem RpA.mono (e : Ext F T F' T') : ∀ {vs : List V} {os : List M.O} {fp : Fp}, RpA K F T vs os fp -> RpA K F' T' vs os fp
  | _, _, _, .nil => .nil
  | _, _, _, .cons h r => .cons (Rp.mono e h) (RpA.mono e r)
end
theorem XcR.mono' (e : Ext F T F' T') {x : M.Exc} {cls : Value} {dd : Option Addr} (h : XcR K F T x cls dd) : XcR K F' T' x cls dd := by
  obtain ⟨h1, h2 | ⟨a, f, v, d, h3, h4, h5, h6⟩⟩ := h
  . exact ⟨h1, .inl h2⟩
  . exact ⟨h1, .inr ⟨a, f, v, d, h3, h4, e.f.at_ h5 (fun _ z => nomatch z), h6.mono e⟩⟩
theorem CloAt.mono (e : Ext F T F' T') {c : CloD} (h : CloAt K F T c) : CloAt K F' T' c := ⟨e.f.rd (.inr ⟨_, rfl⟩) h.fn, e.f.rd (.inr ⟨_, rfl⟩) h.code, h.caps.mono e⟩
theorem RpE.mono (e : Ext F T F' T') {σ : St} {env : List (Option M.O)} {fp : Fp} (h : RpE K F T σ env fp) : RpE K F' T' σ env fp := by
  induction h with
  | nil => exact .nil
  | off _ ih => exact .off ih
  | on r _ ih => exact .on (r.mono e) ih
  | hot h z _ ih => exact .hot h (z.mono' e) ih
  | clo h z _ ih => exact .clo h (z.mono e) ih
theorem RpOb.mono (e : Ext F T F' T') {a : Addr} {ob : M.Ob} {fp : Fp} (h : RpOb K F T a ob fp) : RpOb K F' T' a ob fp := by
  cases h with
  | lst r => exact .lst (r.mono e)
  | dct k r => exact .dct k (r.mono e)
  | dcl k r => exact .dcl k (r.mono e)
  | dcn k q r => exact .dcn k (q.mono e) (r.mono e)
  | ins d r => exact .ins (e.f.at_ d fun _ z => nomatch z) (r.mono e)
theorem RpW.mono (e : Ext F T F' T') {l : List Addr} {w : M.W} {fp : Fp} (h : RpW K F T l w fp) : RpW K F' T' l w fp := by
  induction h with
  | nil => exact .nil
  | cons r _ ih => exact .cons (r.mono e) ih
theorem FpH.new {p : Addr} {o : HO} {fp : Fp} (f : FpH F H fp) (hp : H p = none) : FpH (upd F p o) (upd H p o) fp := by
  have np : ∀ e ∈ fp, e.1 ≠ p := fun e he => ne_of_none (f.at_ e he).1 hp
  refine ⟨fun a u h => ?_, fun e he => ?_, f.nd, f.tbs (fun a h1 h2 h3 => ?_) fun c q h => kU' (fun b u e => by rw [upd_ne (fun z => by rw [z] at e; rw [f.low _ _ e] at hp; cases hp)]; exact e) h⟩
  . by_cases ha : a = p
    . subst ha; rw [upd_same] at h ⊢; exact h
    . rw [upd_ne ha] at h ⊢; exact f.low _ _ h
  . rw [upd_ne (np e he), upd_ne (np e he)]; exact f.at_ e he
  . have ha : a ≠ p := fun z => h2 (by rw [z]; exact hp)
    exact ⟨by rw [upd_ne ha]; exact h1, upd_ne ha, h3⟩
theorem FpH.free {fp : Fp} (f : FpH F H fp) {p : Addr} (hp : H p = none) : F p = none := by
  cases h : F p with
  | none => rfl
  | some o => rw [f.low _ _ h] at hp; cases hp
theorem cg' {p : Addr} {o : HO} (h : F p = none) : Same F (upd F p o) := fun b u e => by rw [upd_ne (ne_of_none e h)]; exact e
end
section
variable {K : PySem.W.Frag} {W : WX} {α β : Type}
abbrev Wx := M.Exc -> M.PSt -> Prop
def aG' (r : M.Res α) (P : α -> M.PSt -> Prop) (X : Wx) : Prop := match r with
  | .ok a ρ => P a ρ
  | .exc x ρ => X x ρ
  | .bad => False
theorem aG'.bind {r : M.Res α} {f : α -> M.PSt -> M.Res β} {P : β -> M.PSt -> Prop} {X : Wx} (h : aG' (r.bind f) P X) : aG' r (fun a ρ => aG' (f a ρ) P X) X := by
  cases r with
  | ok a ρ => exact h
  | exc x ρ => exact h
  | bad => exact h
theorem aG'.ofO {o : Option α} {ρ : M.PSt} {P : α -> M.PSt -> Prop} {X : Wx} (h : aG' (M.ofO o ρ) P X) : ∃ a, o = some a /\ P a ρ := by
  cases o with
  | none => exact h.elim
  | some a => exact ⟨a, rfl, h⟩
theorem aG'.mono {r : M.Res α} {P P' : α -> M.PSt -> Prop} {X X' : Wx} (h : aG' r P X) (hp : ∀ a ρ, P a ρ -> P' a ρ) (hx : ∀ x ρ, X x ρ -> X' x ρ) : aG' r P' X' := by
  cases r with
  | ok a ρ => exact hp _ _ h
  | exc x ρ => exact hx _ _ h
  | bad => exact h
def EX (K : PySem.W.Frag) (W : WX) (σ : St) (F : Hp) (T : List Addr) (fr : Fp) : Wx := fun x ρ => ∀ cls dd H' F' T', Ext F T F' T' -> XcR K F' T' x cls dd -> Rel K ρ σ H' F' T' fr -> W cls dd σ H'
theorem EX.mono {σ : St} {F F' : Hp} {T T' : List Addr} {fr : Fp} {x : M.Exc} {ρ : M.PSt} (h : EX K W σ F T fr x ρ) (e : Ext F T F' T') : EX K W σ F' T' fr x ρ := fun cls dd H' F2 T2 e2 => h cls dd H' F2 T2 (e.trans e2)
def qE (K : PySem.W.Frag) (W : WX) (m : M.ME) : TE := fun σ H Q => ∃ ρ F T fr, Rel K ρ σ H F T fr ∧
  aG' (m ρ) (fun d ρ' => ∀ v H' F' T', Ext F T F' T' -> Fz K F' T' v d -> Rel K ρ' σ H' F' T' fr -> Q v H') (EX K W σ F T fr)
def qO (K : PySem.W.Frag) (W : WX) (m : M.MO) : TE := fun σ H Q => ∃ ρ F T fr, Rel K ρ σ H F T fr ∧
  aG' (m ρ) (fun o ρ' => ∀ v H' F' T' fp, Ext F T F' T' -> Rp K F' T' v o fp -> Rel K ρ' σ H' F' T' (fp ++ fr) -> Q v H') (EX K W σ F T fr)
def qA (K : PySem.W.Frag) (W : WX) (m : M.MA) : TA := fun σ H Q => ∃ ρ F T fr, Rel K ρ σ H F T fr ∧
  aG' (m ρ) (fun ds ρ' => ∀ vs H' F' T', Ext F T F' T' -> FzA K F' T' vs ds -> Rel K ρ' σ H' F' T' fr -> Q vs H') (EX K W σ F T fr)
def qT (K : PySem.W.Frag) (W : WX) (m : M.MT) : TT := fun σ H Q => ∃ ρ F T fr, Rel K ρ σ H F T fr ∧
  aG' (m ρ) (fun b ρ' => ∀ H' F' T', Ext F T F' T' -> Rel K ρ' σ H' F' T' fr -> Q b H') (EX K W σ F T fr)
def qP (K : PySem.W.Frag) (W : WX) (m : M.MP) : TO := fun σ H Q => ∃ ρ F T fr, Rel K ρ σ H F T fr ∧
  aG' (m ρ) (fun b ρ' => ∀ H' F' T', Ext F T F' T' -> Rel K ρ' σ H' F' T' fr -> Q b H') (EX K W σ F T fr)
def bB' (K : PySem.W.Frag) (W : WX) (D : Ends) (F : Hp) (T : List Addr) (fr : Fp) : M.Out -> Prop
  | .nx ρ => ∀ σ' H' F' T', Ext F T F' T' -> Rel K ρ σ' H' F' T' fr -> D.nx σ' H'
  | .bk ρ => ∀ σ' H' F' T', Ext F T F' T' -> Rel K ρ σ' H' F' T' fr -> D.bk σ' H'
  | .ct ρ => ∀ σ' H' F' T', Ext F T F' T' -> Rel K ρ σ' H' F' T' fr -> D.ct σ' H'
  | .rt o w => ∀ v H' F' T' fp, Ext F T F' T' -> Rp K F' T' v o fp -> sf' K (w) H' F' T' (fp ++ fr) -> D.rt v H'
  | .exc x ρ => ∀ σ' cls dd H' F' T', Ext F T F' T' -> XcR K F' T' x cls dd -> Rel K ρ σ' H' F' T' fr -> W cls dd σ' H'
  | .bad => False
def qS (K : PySem.W.Frag) (W : WX) (m : M.MS) : TS := fun D σ H => ∃ ρ F T fr, Rel K ρ σ H F T fr /\ bB' K W D F T fr (m ρ)
abbrev SE (X : Cx) (W : WX) (e : Expr) (m : M.ME) : Prop := PE X e (qE X.K W m)
abbrev SO (X : Cx) (W : WX) (e : Expr) (m : M.MO) : Prop := PE X e (qO X.K W m)
abbrev SA (X : Cx) (W : WX) (es : List Expr) (m : M.MA) : Prop := PA X es (qA X.K W m)
abbrev ST (X : Cx) (W : WX) (e : Expr) (m : M.MT) : Prop := PT X e (qT X.K W m)
abbrev SS (X : Cx) (W : WX) (s : Stmt) (m : M.MS) : Prop := PS X s (qS X.K W m)
abbrev SSs (X : Cx) (W : WX) (s : List Stmt) (m : M.MS) : Prop := PSs X s (qS X.K W m)
theorem PE.imp {X : Cx} {e : Expr} {t t' : TE} (h : PE X e t) (i : ∀ σ H Q, t' σ H Q -> t σ H Q) : PE X e t' := ⟨fun pins s σ H Q I q => h.run pins s σ H Q I (i σ H Q q)⟩
theorem PT.imp {X : Cx} {e : Expr} {t t' : TT} (h : PT X e t) (i : ∀ σ H Q, t' σ H Q -> t σ H Q) : PT X e t' := ⟨fun pins s σ H Q I q => h.run pins s σ H Q I (i σ H Q q)⟩
theorem PW.imp {X : Cx} {e : Expr} {t t' : TT} (h : PW X e t) (i : ∀ σ H Q, t' σ H Q -> t σ H Q) : PW X e t' := ⟨fun wh pins s σ H Q I q => h.run wh pins s σ H Q I (i σ H Q q)⟩
theorem PA.imp {X : Cx} {e : List Expr} {t t' : TA} (h : PA X e t) (i : ∀ σ H Q, t' σ H Q -> t σ H Q) : PA X e t' := ⟨fun pos pins s σ H Q I q => h.run pos pins s σ H Q I (i σ H Q q)⟩
theorem PS.imp {X : Cx} {e : Stmt} {t t' : TS} (h : PS X e t) (i : ∀ D σ H, t' D σ H -> t D σ H) : PS X e t' := ⟨fun pins s σ H Q I q => h.run pins s σ H Q I (i Q σ H q)⟩
theorem PSs.imp {X : Cx} {e : List Stmt} {t t' : TS} (h : PSs X e t) (i : ∀ D σ H, t' D σ H -> t D σ H) : PSs X e t' := ⟨fun pins s σ H Q I q => h.run pins s σ H Q I (i Q σ H q)⟩
theorem PO.imp {X : Cx} {e : Option Expr} {t t' : TO} (h : PO X e t) (i : ∀ σ H Q, t' σ H Q -> t σ H Q) : PO X e t' := ⟨fun pins s σ H Q I q => h.run pins s σ H Q I (i σ H Q q)⟩
variable {σ : St} {H F : Hp} {T : List Addr} {fr : Fp} {ρ : M.PSt} {P : β -> M.PSt -> Prop} {X : Wx}
theorem aB' {m : M.ME} {k : M.D -> M.PSt -> M.Res β} {Q : VK} (rel : Rel K ρ σ H F T fr) (h : aG' ((m ρ).bind k) P (EX K W σ F T fr))
    (q : ∀ d ρ1 v H1 F1 T1, Ext F T F1 T1 -> Fz K F1 T1 v d -> Rel K ρ1 σ H1 F1 T1 fr -> aG' (k d ρ1) P (EX K W σ F1 T1 fr) -> Q v H1) : qE K W m σ H Q :=
  ⟨ρ, F, T, fr, rel, (aG'.bind h).mono (fun d ρ1 h1 v H1 F1 T1 e z r => q d ρ1 v H1 F1 T1 e z r (h1.mono (fun _ _ z => z) fun _ _ z => z.mono e)) fun _ _ z => z⟩
theorem cV' {m : M.MA} {k : List M.D -> M.PSt -> M.Res β} {Q : List V -> Hp -> Prop} (rel : Rel K ρ σ H F T fr) (h : aG' ((m ρ).bind k) P (EX K W σ F T fr))
    (q : ∀ ds ρ1 vs H1 F1 T1, Ext F T F1 T1 -> FzA K F1 T1 vs ds -> Rel K ρ1 σ H1 F1 T1 fr -> aG' (k ds ρ1) P (EX K W σ F1 T1 fr) -> Q vs H1) : qA K W m σ H Q :=
  ⟨ρ, F, T, fr, rel, (aG'.bind h).mono (fun d ρ1 h1 v H1 F1 T1 e z r => q d ρ1 v H1 F1 T1 e z r (h1.mono (fun _ _ z => z) fun _ _ z => z.mono e)) fun _ _ z => z⟩
theorem kW' {m : M.MT} {k : Bool -> M.PSt -> M.Res β} {Q : Bool -> Hp -> Prop} (rel : Rel K ρ σ H F T fr) (h : aG' ((m ρ).bind k) P (EX K W σ F T fr))
    (q : ∀ b ρ1 H1 F1 T1, Ext F T F1 T1 -> Rel K ρ1 σ H1 F1 T1 fr -> aG' (k b ρ1) P (EX K W σ F1 T1 fr) -> Q b H1) : qT K W m σ H Q :=
  ⟨ρ, F, T, fr, rel, (aG'.bind h).mono (fun d ρ1 h1 H1 F1 T1 e r => q d ρ1 H1 F1 T1 e r (h1.mono (fun _ _ z => z) fun _ _ z => z.mono e)) fun _ _ z => z⟩
theorem qM' {m : M.MP} {k : Option Int -> M.PSt -> M.Res β} {Q : Option Int -> Hp -> Prop} (rel : Rel K ρ σ H F T fr) (h : aG' ((m ρ).bind k) P (EX K W σ F T fr))
    (q : ∀ b ρ1 H1 F1 T1, Ext F T F1 T1 -> Rel K ρ1 σ H1 F1 T1 fr -> aG' (k b ρ1) P (EX K W σ F1 T1 fr) -> Q b H1) : qP K W m σ H Q :=
  ⟨ρ, F, T, fr, rel, (aG'.bind h).mono (fun d ρ1 h1 H1 F1 T1 e r => q d ρ1 H1 F1 T1 e r (h1.mono (fun _ _ z => z) fun _ _ z => z.mono e)) fun _ _ z => z⟩
end
end S
namespace S
open PySem PySem.Spec PyProof.Rows L2
variable [Wd] [Hot]
section
variable {K : PySem.W.Frag} {F H : Hp} {T : List Addr} {v : V} {d : M.D} {vs ws : List V} {ds es : List M.D}
theorem Fz.int_inv {i : Int} (h : Fz K F T v (.int i)) : v = .int i := by cases h; rfl
theorem Fz.bl_inv {i : Bool} (h : Fz K F T v (.bl i)) : v = .bl i := by cases h; rfl
theorem Fz.non_inv (h : Fz K F T v .non) : v = .non := by cases h; rfl
theorem Fz.str_inv {s : M.Tx} (h : Fz K F T v (.str s)) : v = .str (sx s) /\ okT s := by cases h with | str h => exact ⟨rfl, h⟩
theorem Fz.tup_inv (h : Fz K F T v (.tup ds)) : ∃ a vs, v = .ref a /\ SqT K F a vs /\ FzA K F T vs ds := by cases h with | tup h r => exact ⟨_, _, rfl, h, r⟩
theorem Fz.lst_inv (h : Fz K F T v (.lst ds)) : ∃ a vs, v = .ref a /\ F a = some (.lst vs) /\ FzA K F T vs ds := by cases h with | lst h r => exact ⟨_, _, rfl, h, r⟩
theorem FzA.length : ∀ {vs : List V} {ds : List M.D}, FzA K F T vs ds -> vs.length = ds.length
  | _, _, .nil => rfl
  | _, _, .cons _ r => congrArg (· + 1) (FzA.length r)
theorem FzA.append : ∀ {vs ws : List V} {ds es : List M.D}, FzA K F T vs ds -> FzA K F T ws es -> FzA K F T (vs ++ ws) (ds ++ es)
  | _, _, _, _, .nil, h => h
  | _, _, _, _, .cons a r, h => .cons a (FzA.append r h)
theorem FzA.take : ∀ {vs : List V} {ds : List M.D} (n : Nat), FzA K F T vs ds -> FzA K F T (vs.take n) (ds.take n)
  | _, _, 0, _ => .nil
  | _, _, n + 1, .nil => .nil
  | _, _, n + 1, .cons a r => .cons a (FzA.take n r)
theorem FzA.drop : ∀ {vs : List V} {ds : List M.D} (n : Nat), FzA K F T vs ds -> FzA K F T (vs.drop n) (ds.drop n)
  | _, _, 0, h => h
  | _, _, n + 1, .nil => .nil
  | _, _, n + 1, .cons a r => FzA.drop n r
theorem FzA.get : ∀ {vs : List V} {ds : List M.D} {i : Nat} {d : M.D}, FzA K F T vs ds -> ds[i]? = some d -> ∃ v, vs[i]? = some v /\ Fz K F T v d
  | _, _, _, _, .nil, e => by cases e
  | _, _, 0, _, .cons h _, e => ⟨_, rfl, by rw [<- Option.some.inj e]; exact h⟩
  | _, _, i + 1, _, .cons _ r, e => FzA.get (i := i) r e
theorem FzA.rep {vs : List V} {ds : List M.D} (h : FzA K F T vs ds) : ∀ n, FzA K F T (List.replicate n vs).flatten (List.replicate n ds).flatten
  | 0 => .nil
  | n + 1 => FzA.append h (FzA.rep h n)
theorem FzA.cutV {lo hi : Option Int} (h : FzA K F T vs ds) : FzA K F T (cutV vs lo hi) (M.cut ds lo hi) := by
  unfold L2.cutV M.cut
  rw [h.length]
  exact FzA.take _ (FzA.drop _ h)
theorem FzA.of_all : ∀ {n : Nat} {f : Nat -> V} {g : Nat -> M.D}, (∀ i, Fz K F T (f i) (g i)) -> FzA K F T ((List.range n).map f) ((List.range n).map g) := by
  intro n f g h
  generalize List.range n = l
  induction l with
  | nil => exact .nil
  | cons a l ih => exact .cons (h a) ih
theorem lh' {c : Nat} (h : c < 1114112) : Fz K F T (.str ⟨#[c]⟩) (M.chD c) := Fz.str (s := [c]) ⟨fun x hx => by rw [List.mem_singleton.mp hx]; exact h, by show 1 <= 16777216; decide⟩
theorem FzA.chars : ∀ {s : M.Tx}, (∀ c ∈ s, c < 1114112) -> FzA K F T (s.map chv) (s.map M.chD)
  | [], _ => .nil
  | c :: s, h => .cons (lh' (h c (by simp))) (FzA.chars fun x hx => h x (by simp [hx]))
theorem SqT.low (s : Same F H) {a : Addr} (h : SqT K F a vs) : SqT K H a vs := seqT s h
theorem okT.app {a b : M.Tx} (h1 : okT a) (h2 : okT b) (h : a.length + b.length <= M.cR') : okT (a ++ b) :=
  ⟨fun c hc => (List.mem_append.mp hc).elim (h1.1 c) (h2.1 c), by rw [List.length_append]; exact h⟩
theorem okT.sub {a b : M.Tx} (h1 : okT a) (h : ∀ c ∈ b, c ∈ a) (hl : b.length <= a.length) : okT b := ⟨fun c hc => h1.1 c (h c hc), Nat.le_trans hl h1.2⟩
theorem okT.len {s : M.Tx} (h : okT s) : (sx s).length <= sizeLine := by rw [ca', sizeLine_eq]; exact h.2
theorem bu' : sizeLine = M.cR' := sizeLine_eq
theorem Rel.fp {ρ : M.PSt} {σ : St} {fr : Fp} (r : Rel K ρ σ H F T fr) : ∃ fp, FpH F H fp /\ ∀ H' F', Same F F' -> FpH F' H' fp -> Rel K ρ σ H' F' T fr := by
  obtain ⟨fe, fw, re, rw, f⟩ := r
  exact ⟨_, f, fun H' F' s f' => ⟨fe, fw, re.mono (.of s), rw.mono (.of s), f'⟩⟩
abbrev eV' (K : PySem.W.Frag) (F : Hp) (T : List Addr) (fp : Fp) (dz : M.D) (Q : VK) : Prop := ∀ v H' F', Same F F' -> Fz K F' T v dz -> FpH F' H' fp -> Q v H'
theorem eV'.here {fp : Fp} {dz : M.D} {Q : VK} (k : eV' K F T fp dz Q) (f : FpH F H fp) (z : Fz K F T v dz) : Q v H := k v H F (fun _ _ e => e) z f
theorem eV'.newT {fp : Fp} {Q : VK} (k : eV' K F T fp (.tup ds) Q) (f : FpH F H fp) (z : FzA K F T vs ds) {p : Addr} (hp : H p = none) : Q (.ref p) (upd H p (.tup vs)) := by
  have s : Same F (upd F p (.tup vs)) := cg' (f.free hp)
  exact k _ _ _ s (.tup (SqT.of upd_same) (z.mono (.of s))) (f.new hp)
theorem eV'.newL {fp : Fp} {Q : VK} (k : eV' K F T fp (.lst ds) Q) (f : FpH F H fp) (z : FzA K F T vs ds) {p : Addr} (hp : H p = none) : Q (.ref p) (upd H p (.lst vs)) := by
  have s : Same F (upd F p (.lst vs)) := cg' (f.free hp)
  exact k _ _ _ s (.lst upd_same (z.mono (.of s))) (f.new hp)
end
section
variable (K : PySem.W.Frag)
def Op2 (f : M.D -> M.D -> Option M.D) (r : R2) : Prop := ∀ {F H : Hp} {T : List Addr} {fp : Fp} {x y : V} {dx dy dz : M.D} {Q : VK}, FpH F H fp -> Fz K F T x dx -> Fz K F T y dy -> f dx dy = some dz -> eV' K F T fp dz Q -> r x y H Q
end
section
variable {K : PySem.W.Frag}
mutual
theorem Fz.py {F H : Hp} {T : List Addr} (s : Same F H) : ∀ {v : V} {d : M.D}, Fz K F T v d -> M.dat d = true -> Dp K H v (py d)
  | _, _, .non, _ => .non
  | _, _, .bl b, _ => .bl b
  | _, _, .int i, _ => .int i
  | _, _, .str h, _ => .str _
  | _, _, .tup h r, e => .tup (seqT s h) (FzA.py s r e)
  | _, _, .lst h r, e => .lst (SqL.of (s _ _ h)) (FzA.py s r e)
  | _, _, .dct h _ r, e => by cases e
  | _, _, .dcl _ _ _, e => by cases e
  | _, _, .dcn _ _ _ _, e => by cases e
  | _, _, .rep _, e => by cases e
  | _, _, .obj h, e => by cases e
  | _, _, .ty n, e => by cases e
  | _, _, .fn x, e => by cases e
  | _, _, .scr h r, e => by cases e
theorem FzA.py {F H : Hp} {T : List Addr} (s : Same F H) : ∀ {vs : List V} {ds : List M.D}, FzA K F T vs ds -> M.dats ds = true -> DpAll K H vs (pys ds)
  | _, _, .nil, _ => .nil
  | _, _, .cons h r, e => by
    obtain ⟨e1, e2⟩ := Bool.and_eq_true_iff.mp (show (M.dat _ && M.dats _) = true from e)
    exact .cons (Fz.py s h e1) (FzA.py s r e2)
end
theorem sz' {s : M.Tx} (h : okT s) : PyData.strOk (sx s) = true := by
  unfold PyData.strOk
  rw [Array.all_eq_true']
  intro c hc
  have := h.1 c (by simpa [sx] using hc)
  simp only [decide_eq_true_eq]
  omega
mutual
theorem ny' {F : Hp} {T : List Addr} : ∀ {v : V} {d : M.D}, Fz K F T v d -> M.dat d = true -> (py d).canLay0 = true /\ (py d).depth = M.dep d
  | _, _, .non, _ => ⟨rfl, rfl⟩
  | _, _, .bl b, _ => ⟨rfl, rfl⟩
  | _, _, .int i, _ => ⟨rfl, rfl⟩
  | _, _, .str h, _ => ⟨sz' h, rfl⟩
  | _, _, .tup h r, e => by
    obtain ⟨h1, h2⟩ := lays_of r e
    exact ⟨h1, congrArg (· + 1) h2⟩
  | _, _, .lst h r, e => by
    obtain ⟨h1, h2⟩ := lays_of r e
    exact ⟨h1, congrArg (· + 1) h2⟩
  | _, _, .dct h _ r, e => by cases e
  | _, _, .dcl _ _ _, e => by cases e
  | _, _, .dcn _ _ _ _, e => by cases e
  | _, _, .rep _, e => by cases e
  | _, _, .obj h, e => by cases e
  | _, _, .ty n, e => by cases e
  | _, _, .fn x, e => by cases e
  | _, _, .scr h r, e => by cases e
theorem lays_of {F : Hp} {T : List Addr} : ∀ {vs : List V} {ds : List M.D}, FzA K F T vs ds -> M.dats ds = true -> PyData.canLayAll0 (pys ds) = true /\ PyData.depthAll (pys ds) = M.deps ds
  | _, _, .nil, _ => ⟨rfl, rfl⟩
  | _, _, .cons h r, e => by
    obtain ⟨e1, e2⟩ := Bool.and_eq_true_iff.mp (show (M.dat _ && M.dats _) = true from e)
    obtain ⟨a1, a2⟩ := ny' h e1
    obtain ⟨b1, b2⟩ := lays_of r e2
    refine ⟨?_, ?_⟩
    . show (PyData.canLay0 _ && PyData.canLayAll0 _) = true
      rw [a1, b1]; rfl
    . show max (PyData.depth _) (PyData.depthAll _) = max _ _
      rw [a2, b2]
end
theorem un' (a b : M.Tx) : (sx a == sx b) = (a == b) := by
  rw [Bool.eq_iff_iff, beq_iff_eq, beq_iff_eq]
  exact ⟨um', fun h => by rw [h]⟩
mutual
theorem uP' : ∀ (d e : M.D), M.dat d = true -> M.dat e = true -> PyData.eqv (py d) (py e) = M.eqb d e
  | .non, e, _, h => by cases e <;> first | rfl | cases h
  | .bl a, e, _, h => by cases e <;> first | rfl | cases h
  | .int a, e, _, h => by cases e <;> first | rfl | cases h
  | .str a, e, _, h => by
    cases e with
    | str b => exact un' a b
    | _ => first | rfl | cases h
  | .tup a, e, h1, h => by
    cases e with
    | tup b => exact eqvs_py a b h1 h
    | _ => first | rfl | cases h
  | .lst a, e, h1, h => by
    cases e with
    | lst b => exact eqvs_py a b h1 h
    | _ => first | rfl | cases h
  | .dct _ _, _, h, _ => by cases h
  | .obj _, _, h, _ => by cases h
  | .ty _, _, h, _ => by cases h
  | .fn _, _, h, _ => by cases h
  | .exc _ _, _, h, _ => by cases h
  | .scr _, _, h, _ => by cases h
theorem eqvs_py : ∀ (d e : List M.D), M.dats d = true -> M.dats e = true -> PyData.eqvAll (pys d) (pys e) = M.eqbs d e
  | [], [], _, _ => rfl
  | [], _ :: _, _, _ => rfl
  | _ :: _, [], _, _ => rfl
  | a :: d, b :: e, h1, h2 => by
    obtain ⟨a1, a2⟩ := Bool.and_eq_true_iff.mp (show (M.dat _ && M.dats _) = true from h1)
    obtain ⟨b1, b2⟩ := Bool.and_eq_true_iff.mp (show (M.dat _ && M.dats _) = true from h2)
    show (PyData.eqv (py a) (py b) && PyData.eqvAll (pys d) (pys e)) = (M.eqb a b && M.eqbs d e)
    rw [uP' a b a1 b1, eqvs_py d e a2 b2]
end
theorem zn' {F H : Hp} {T : List Addr} {fp : Fp} {x y : V} {dx dy : M.D} {b : Bool} (f : FpH F H fp) (hx : Fz K F T x dx) (hy : Fz K F T y dy) (h : M.eqv dx dy = some b) :
    ∃ d e, Dp K H x d /\ Dp K H y e /\ SeqAt.shaped d = true /\ SeqAt.shaped e = true /\ PyData.eqv d e = b := by
  unfold M.eqv at h
  split at h
  . rename_i c
    obtain ⟨c1, c2, c3, c4⟩ := c
    obtain ⟨a1, a2⟩ := ny' hx c1
    obtain ⟨b1, b2⟩ := ny' hy c2
    refine ⟨_, _, hx.py f.low c1, hy.py f.low c2, ?_, ?_, ?_⟩
    . exact Sh.shaped (n := 64) ⟨a1, by rw [a2]; exact c3⟩ (Nat.le_refl _)
    . exact Sh.shaped (n := 64) ⟨b1, by rw [b2]; exact c4⟩ (Nat.le_refl _)
    . rw [uP' _ _ c1 c2]; exact Option.some.inj h
  . cases h
theorem io' : Op2 K M.pEq (CQ' K) := by
  intro F H T fp x y dx dy dz Q f hx hy h k
  unfold M.pEq M.ob at h
  cases e : M.eqv dx dy with
  | none => rw [e] at h; cases h
  | some b =>
    rw [e] at h
    cases h
    obtain ⟨d, e, h1, h2, h3, h4, h5⟩ := zn' f hx hy e
    exact .inr ⟨d, e, h1, h2, h3, h4, by rw [h5]; exact k.here f (.bl b)⟩
theorem sb' : Op2 K M.pNe (Bk' K) := by
  intro F H T fp x y dx dy dz Q f hx hy h k
  unfold M.pNe M.ob at h
  cases e : M.eqv dx dy with
  | none => rw [e] at h; cases h
  | some b =>
    rw [e] at h
    cases h
    obtain ⟨d, e, h1, h2, h3, h4, h5⟩ := zn' f hx hy e
    exact .inr ⟨d, e, h1, h2, h3, h4, by rw [h5]; exact k.here f (.bl (!b))⟩
theorem bs' : Op2 K M.bX' (vZ' K) := by
  intro F H T fp x y dx dy dz Q f hx hy h k
  cases dx <;> cases dy <;> try (cases h; done)
  . cases hx; cases hy; cases h
    exact .inl ⟨_, _, rfl, rfl, k.here f (.int _)⟩
  . obtain ⟨rfl, o1⟩ := hx.str_inv
    obtain ⟨rfl, o2⟩ := hy.str_inv
    simp only [M.bX'] at h
    split at h
    . rename_i hl
      cases h
      refine .inr (.inl ⟨_, _, rfl, rfl, by rw [ca', ca', bu']; exact hl, ?_⟩)
      rw [x4']
      exact k.here f (.str (o1.app o2 hl))
    . cases h
  . obtain ⟨a, vs, rfl, ha, za⟩ := hx.tup_inv
    obtain ⟨b, ws, rfl, hb, zb⟩ := hy.tup_inv
    simp only [M.bX'] at h
    split at h
    . rename_i hl
      cases h
      refine .inr (.inr (.inr ⟨a, b, vs, ws, rfl, rfl, seqT f.low ha, seqT f.low hb, by rw [za.length, zb.length, bu']; exact hl, fun e => ?_, fun _ e => ?_, fun _ _ p hp => k.newT f (za.append zb) hp⟩))
      . subst e
        cases za
        exact k.here f (.tup hb zb)
      . subst e
        cases zb
        refine k.here f ?_
        rw [List.append_nil]
        exact .tup ha za
    . cases h
  . obtain ⟨a, vs, rfl, ha, za⟩ := hx.lst_inv
    obtain ⟨b, ws, rfl, hb, zb⟩ := hy.lst_inv
    simp only [M.bX'] at h
    split at h
    . rename_i hl
      cases h
      exact .inr (.inr (.inl ⟨a, b, vs, ws, rfl, rfl, f.low _ _ ha, f.low _ _ hb, by rw [za.length, zb.length, bu']; exact hl, fun p hp => k.newL f (za.append zb) hp⟩))
    . cases h
theorem qW' : Op2 K M.uC' (rI0 fun i j => .int (i - j)) := by
  intro F H T fp x y dx dy dz Q f hx hy h k
  cases dx <;> cases dy <;> try (cases h; done)
  cases hx; cases hy; cases h
  exact ⟨_, _, rfl, rfl, k.here f (.int _)⟩
theorem yi' (s : M.Tx) (n : Nat) : oV' (sx s) n = sx (List.replicate n s).flatten := rfl
theorem yk' {s : M.Tx} {n : Nat} (h : okT s) (hl : s.length * n <= M.cR') : okT (List.replicate n s).flatten := by
  refine ⟨fun c hc => ?_, ?_⟩
  . obtain ⟨l, h1, h2⟩ := List.mem_flatten.mp hc
    rw [List.eq_of_mem_replicate h1] at h2
    exact h.1 c h2
  . rw [List.length_flatten]
    simp
    rw [Nat.mul_comm]
    exact hl
def yn' : R2 := fun x y H Q => yo' x y H Q \/ rI CMulW (fun i j => .int (i * j)) x y H Q
theorem eK' {X : Cx} : OpR X (binaryOp .Mult) yn' := wa'.or op_mulW
theorem yS' {i : Int} (h : -2582249878086908589655919172003011874329705792829223512830659356540647622016841194629645353280137831435903171972747493376 < i /\ i < 2582249878086908589655919172003011874329705792829223512830659356540647622016841194629645353280137831435903171972747493376) : i.natAbs < 2 ^ 400 := by
  have : (2 : Nat) ^ 400 = 2582249878086908589655919172003011874329705792829223512830659356540647622016841194629645353280137831435903171972747493376 := by decide +kernel
  omega
theorem ox' : Op2 K M.kC' yn' := by
  intro F H T fp x y dx dy dz Q f hx hy h k
  cases dx <;> cases dy <;> try (cases h; done)
  . cases hx; cases hy
    simp only [M.kC'] at h
    split at h
    . rename_i hc
      cases h
      rcases hc with hc | hc
      . refine .inl (.inl ⟨_, _, rfl, rfl, ?_, k.here f (.int _)⟩)
        rcases hc with hc | hc <;> simp only [M.small64, Bool.and_eq_true, decide_eq_true_eq] at hc
        . exact .inl hc
        . exact .inr hc
      . exact .inr ⟨_, _, rfl, rfl, wide_mul (yS' hc.1) (yS' hc.2) (by decide) (by decide) (by decide), k.here f (.int _)⟩
    . cases h
  . obtain ⟨rfl, o1⟩ := hx.str_inv
    cases hy
    simp only [M.kC'] at h
    split at h
    . rename_i hc
      cases h
      refine .inl (.inr (.inl ⟨_, _, rfl, rfl, hc.1, hc.2.1, by rw [ca', bu']; exact hc.2.2, ?_⟩))
      rw [yi']
      exact k.here f (.str (yk' o1 hc.2.2))
    . cases h
  . obtain ⟨a, vs, rfl, ha, za⟩ := hx.lst_inv
    cases hy
    simp only [M.kC'] at h
    split at h
    . rename_i hc
      cases h
      refine .inl (.inr (.inr ⟨a, _, vs, rfl, rfl, f.low _ _ ha, by omega, by omega, by rw [za.length, bu']; exact hc.2.2, fun p hp => k.newL f (za.rep _) hp⟩))
    . cases h
theorem nq' : Op2 K M.jx' (rI CDivW fun i j => .int (i / j)) := by
  intro F H T fp x y dx dy dz Q f hx hy h k
  cases dx <;> cases dy <;> try (cases h; done)
  cases hx; cases hy
  simp only [M.jx'] at h
  split at h
  . rename_i hc
    cases h
    refine ⟨_, _, rfl, rfl, wide_div (b := 200) hc.1 ?_ (by decide) (by decide), k.here f (.int _)⟩
    have : (2 : Nat) ^ 200 = 1606938044258990275541962092341162602522202993782792835301376 := by decide +kernel
    omega
  . cases h
theorem fs' : Op2 K M.kD' (rI (fun _ j => 0 < j) fun i j => .int (i % j)) := by
  intro F H T fp x y dx dy dz Q f hx hy h k
  cases dx <;> cases dy <;> try (cases h; done)
  cases hx; cases hy
  simp only [M.kD'] at h
  split at h
  . rename_i hc
    cases h
    exact ⟨_, _, rfl, rfl, hc, k.here f (.int _)⟩
  . cases h
theorem Bz' : Op2 K M.yF' (rI CPow fun i j => .int (i ^ j.toNat)) := by
  intro F H T fp x y dx dy dz Q f hx hy h k
  cases dx <;> cases dy <;> try (cases h; done)
  cases hx; cases hy
  simp only [M.yF'] at h
  split at h
  . rename_i hc
    cases h
    obtain ⟨h1, h2, h3⟩ := hc
    simp only [M.small64, Bool.and_eq_true, decide_eq_true_eq] at h3
    exact ⟨_, _, rfl, rfl, ⟨h1, by omega, by omega⟩, k.here f (.int _)⟩
  . cases h
theorem wi' : Op2 K M.pLt (uA' (fun i j => decide (i < j)) fun a b => decide (a < b)) := by
  intro F H T fp x y dx dy dz Q f hx hy h k
  cases dx <;> cases dy <;> try (cases h; done)
  . cases hx; cases hy; cases h
    exact .inl ⟨_, _, rfl, rfl, k.here f (.bl _)⟩
  . obtain ⟨rfl, o1⟩ := hx.str_inv
    obtain ⟨rfl, o2⟩ := hy.str_inv
    cases h
    exact .inr ⟨_, _, rfl, rfl, k.here f (.bl _)⟩
theorem AC' : Op2 K M.pLe (uA' (fun i j => decide (i <= j)) fun a b => !decide (b < a)) := by
  intro F H T fp x y dx dy dz Q f hx hy h k
  cases dx <;> cases dy <;> try (cases h; done)
  . cases hx; cases hy; cases h
    exact .inl ⟨_, _, rfl, rfl, k.here f (.bl _)⟩
  . obtain ⟨rfl, o1⟩ := hx.str_inv
    obtain ⟨rfl, o2⟩ := hy.str_inv
    cases h
    exact .inr ⟨_, _, rfl, rfl, k.here f (.bl _)⟩
theorem BB' : Op2 K M.pGt (uA' (fun i j => decide (j < i)) fun a b => decide (b < a)) := by
  intro F H T fp x y dx dy dz Q f hx hy h k
  cases dx <;> cases dy <;> try (cases h; done)
  . cases hx; cases hy; cases h
    exact .inl ⟨_, _, rfl, rfl, k.here f (.bl _)⟩
  . obtain ⟨rfl, o1⟩ := hx.str_inv
    obtain ⟨rfl, o2⟩ := hy.str_inv
    cases h
    exact .inr ⟨_, _, rfl, rfl, k.here f (.bl _)⟩
theorem AD' : Op2 K M.pGe (uA' (fun i j => decide (j <= i)) fun a b => !decide (a < b)) := by
  intro F H T fp x y dx dy dz Q f hx hy h k
  cases dx <;> cases dy <;> try (cases h; done)
  . cases hx; cases hy; cases h
    exact .inl ⟨_, _, rfl, rfl, k.here f (.bl _)⟩
  . obtain ⟨rfl, o1⟩ := hx.str_inv
    obtain ⟨rfl, o2⟩ := hy.str_inv
    cases h
    exact .inr ⟨_, _, rfl, rfl, k.here f (.bl _)⟩
def CM' : R2 := fun x y H Q => CN' x y H Q \/ rIsB x y H Q
def qK' : R2 := fun x y H Q => ym' x y H Q \/ rNotB x y H Q
theorem wb' {X : Cx} : OpR X (compareOp .Is) CM' := wc'.or op_isBl
theorem hB' {X : Cx} : OpR X (compareOp .IsNot) qK' := s4'.or op_notBl
theorem uL' {F : Hp} {T : List Addr} {x : V} {d : M.D} (h : Fz K F T x d) : decide (x = .non) = M.dq' d := by cases h <;> rfl
theorem Du' : Op2 K M.pIs CM' := by
  intro F H T fp x y dx dy dz Q f hx hy h k
  cases dy with
  | non =>
    cases hy
    have e : M.D.bl (M.dq' dx) = dz := by cases dx <;> exact Option.some.inj h
    subst e
    exact .inl ⟨rfl, by rw [uL' hx]; exact k.here f (.bl _)⟩
  | bl b =>
    cases dx <;> try (cases h; done)
    cases hx; cases hy; cases h
    refine .inr ⟨_, _, rfl, rfl, ?_⟩
    rw [<- Bool.beq_eq_decide_eq]
    exact k.here f (.bl _)
  | _ => cases dx <;> cases h
theorem qY' : Op2 K M.e2' qK' := by
  intro F H T fp x y dx dy dz Q f hx hy h k
  cases dy with
  | non =>
    cases hy
    have e : M.D.bl (!M.dq' dx) = dz := by cases dx <;> exact Option.some.inj h
    subst e
    exact .inl ⟨rfl, by rw [uL' hx]; exact k.here f (.bl _)⟩
  | bl b =>
    cases dx <;> try (cases h; done)
    cases hx; cases hy; cases h
    refine .inr ⟨_, _, rfl, rfl, ?_⟩
    rw [<- Bool.beq_eq_decide_eq]
    exact k.here f (.bl _)
  | _ => cases dx <;> cases h
theorem FzA.ati {F : Hp} {T : List Addr} {vs : List V} {ds : List M.D} {i : Int} {d : M.D} (h : FzA K F T vs ds) (e : M.ati ds i = some d) : ∃ v, atI vs i = some v /\ Fz K F T v d := by
  unfold M.ati at e
  unfold atI
  rw [h.length]
  cases q : M.ixn ds.length i with
  | none => rw [q] at e; cases e
  | some j =>
    rw [q] at e
    obtain ⟨v, h1, h2⟩ := h.get (i := j) e
    have q' : ixN ds.length i = some j := q
    rw [q']
    exact ⟨v, h1, h2⟩
theorem c9' : Op2 K M.pIx (rIx K) := by
  intro F H T fp x y dx dy dz Q f hx hy h k
  cases dx <;> cases dy <;> try (cases h; done)
  . obtain ⟨rfl, o1⟩ := hx.str_inv
    cases hy
    simp only [M.pIx] at h
    rename_i s i
    cases q : M.ati s i with
    | none => rw [q] at h; cases h
    | some c =>
      rw [q] at h
      cases h
      have hc : c ∈ s := by
        unfold M.ati at q
        cases q2 : M.ixn s.length i with
        | none => rw [q2] at q; cases q
        | some j => rw [q2] at q; exact List.mem_of_getElem? q
      exact .inr (.inr ⟨_, _, c, rfl, rfl, o1.len, q, k.here f (lh' (o1.1 c hc))⟩)
  . obtain ⟨a, vs, rfl, ha, za⟩ := hx.tup_inv
    cases hy
    obtain ⟨v, h1, h2⟩ := za.ati h
    exact .inr (.inl ⟨a, vs, _, v, rfl, rfl, seqT f.low ha, h1, k.here f h2⟩)
  . obtain ⟨a, vs, rfl, ha, za⟩ := hx.lst_inv
    cases hy
    obtain ⟨v, h1, h2⟩ := za.ati h
    exact .inl ⟨a, vs, _, v, rfl, rfl, SqL.of (f.low _ _ ha), h1, k.here f h2⟩
def C2' (K : PySem.W.Frag) (r : V -> Option Int -> Option Int -> Hp -> VK -> Prop) : Prop := ∀ {F H : Hp} {T : List Addr} {fp : Fp} {x : V} {dx dz : M.D} {lo hi : Option Int} {Q : VK}, FpH F H fp -> Fz K F T x dx -> M.pSl dx lo hi = some dz -> eV' K F T fp dz Q -> r x lo hi H Q
theorem rP' {s : M.Tx} {lo hi : Option Int} : (∀ c ∈ M.cut s lo hi, c ∈ s) /\ (M.cut s lo hi).length <= s.length := by
  unfold M.cut
  refine ⟨fun c hc => List.mem_of_mem_drop (List.mem_of_mem_take hc), ?_⟩
  rw [List.length_take, List.length_drop]
  omega
theorem xr' : C2' K (CL' K) := by
  intro F H T fp x dx dz lo hi Q f hx h k
  cases dx <;> try (cases h; done)
  . obtain ⟨rfl, o1⟩ := hx.str_inv
    cases h
    refine .inr (.inl ⟨_, rfl, o1.len, ?_⟩)
    have e : cutS (sx ‹M.Tx›) lo hi = sx (M.cut ‹M.Tx› lo hi) := kI' (by rw [z9']; rfl)
    rw [e]
    exact k.here f (.str (o1.sub rP'.1 rP'.2))
  . obtain ⟨a, vs, rfl, ha, za⟩ := hx.tup_inv
    cases h
    refine .inr (.inr ⟨a, vs, rfl, seqT f.low ha, fun e => ?_, fun _ p hp => k.newT f za.cutV hp⟩)
    refine k.here f ?_
    have e2 : M.cut ‹List M.D› lo hi = ‹List M.D› := by
      unfold M.cut
      rw [<- za.length]
      have e1 : M.six vs.length 0 lo = 0 := e.1
      have e3 : M.six vs.length vs.length hi = vs.length := e.2
      rw [e1, e3, List.drop_zero, Nat.sub_zero, za.length, List.take_length]
    rw [e2]
    exact .tup ha za
  . obtain ⟨a, vs, rfl, ha, za⟩ := hx.lst_inv
    cases h
    exact .inl ⟨a, vs, rfl, SqL.of (f.low _ _ ha), fun p hp => k.newL f za.cutV hp⟩
  . cases hx with
    | scr ha za =>
      cases h
      exact .inl ⟨_, _, rfl, Same.seq f.low ha, fun p hp => k.newL f za.cutV hp⟩
end
end S
namespace S
open PySem PySem.Spec PyProof.Rows L2
variable [Wd] [Hot]
section
variable {K : PySem.W.Frag} {F F' H H' : Hp} {T T' : List Addr} {fp fq fr : Fp} {ρ : M.PSt} {σ : St}
abbrev keys (fp : Fp) : List Addr := fp.map (·.1)
theorem FpH.sub (f : FpH F H fp) (hm : ∀ e ∈ fq, e ∈ fp) (hc : ∀ a, (keys fq).count a <= (keys fp).count a) : FpH F H fq := by
  refine ⟨f.low, fun e he => f.at_ e (hm e he), ?_, f.tbs fun a h1 h2 h3 => ⟨h1, rfl, fun e he => h3 e (hm e he)⟩⟩
  rw [List.nodup_iff_count]
  exact fun a => Nat.le_trans (hc a) (List.nodup_iff_count.mp f.nd a)
structure Part (a b : Fp) : Prop where
  m : ∀ e ∈ a, e ∈ b
  c : ∀ x, (keys a).count x <= (keys b).count x
theorem FpH.part (f : FpH F H fp) (p : Part fq fp) : FpH F H fq := f.sub p.m p.c
theorem Part.refl {a : Fp} : Part a a := ⟨fun _ h => h, fun _ => Nat.le_refl _⟩
theorem Part.trans {a b c : Fp} (p : Part a b) (q : Part b c) : Part a c := ⟨fun e h => q.m e (p.m e h), fun x => Nat.le_trans (p.c x) (q.c x)⟩
theorem Part.app {a b c d : Fp} (p : Part a b) (q : Part c d) : Part (a ++ c) (b ++ d) := by
  refine ⟨fun e h => ?_, fun x => ?_⟩
  . rcases List.mem_append.mp h with h | h
    . exact List.mem_append_left _ (p.m e h)
    . exact List.mem_append_right _ (q.m e h)
  . have := p.c x
    have := q.c x
    simp only [keys, List.map_append, List.count_append] at *
    omega
theorem Part.left {a b c : Fp} (p : Part a b) : Part a (b ++ c) := by
  refine ⟨fun e h => List.mem_append_left _ (p.m e h), fun x => ?_⟩
  have := p.c x
  simp only [keys, List.map_append, List.count_append] at *
  omega
theorem Part.right {a b c : Fp} (p : Part a c) : Part a (b ++ c) := by
  refine ⟨fun e h => List.mem_append_right _ (p.m e h), fun x => ?_⟩
  have := p.c x
  simp only [keys, List.map_append, List.count_append] at *
  omega
theorem Part.nil {b : Fp} : Part [] b := ⟨fun e h => (nomatch h), fun x => by simp [keys]⟩
local macro_rules | `(tactic| walk_at "parts") => `(tactic| (constructor; (intro e h; simp only [List.mem_append, List.mem_cons] at *; grind); (intro x; simp only [keys, List.map_append, List.map_cons, List.count_append, List.count_cons] at *; omega)))
theorem Part.swap {a b c : Fp} : Part (a ++ (b ++ c)) (b ++ (a ++ c)) := by walk_at "parts"
theorem RpE.get {env : List (Option M.O)} {i : Nat} {o : M.O} (r : RpE K F T σ env fp) (h : env[i]? = some (some o)) (hne : M.A7' o = true := by first | assumption | rfl) : ∃ v f1 f2 f3, σ[i]? = some (some v) /\ fp = f1 ++ (f2 ++ f3) /\ Rp K F T v o f2 ∧
    RpE K F T σ (env.set i none) (f1 ++ f3) /\ ∀ F' T' v' o' f2', Ext F T F' T' -> Rp K F' T' v' o' f2' -> RpE K F' T' (σ.set i (some v')) (env.set i (some o')) (f1 ++ (f2' ++ f3)) := by
  induction r generalizing i with
  | nil => cases h
  | off r ih =>
    cases i with
    | zero => cases h
    | succ i =>
      obtain ⟨v, f1, f2, f3, h1, rfl, h3, h4, h5⟩ := ih (i := i) h
      exact ⟨v, f1, f2, f3, h1, rfl, h3, .off h4, fun F' T' v' o' f2' e r' => .off (h5 F' T' v' o' f2' e r')⟩
  | @on v0 o0 σ env fa fb r0 r ih =>
    cases i with
    | zero =>
      have e : o0 = o := Option.some.inj (Option.some.inj h)
      subst e
      exact ⟨v0, [], fa, fb, rfl, rfl, r0, .off r, fun F' T' v' o' f2' e r' => (RpE.on r' (r.mono e) : RpE K F' T' _ _ (f2' ++ fb))⟩
    | succ i =>
      obtain ⟨v, f1, f2, f3, h1, rfl, h3, h4, h5⟩ := ih (i := i) h
      refine ⟨v, fa ++ f1, f2, f3, h1, by simp, h3, ?_, fun F' T' v' o' f2' e r' => ?_⟩
      . rw [List.append_assoc]; exact .on r0 h4
      . rw [List.append_assoc]; exact .on (r0.mono e) (h5 F' T' v' o' f2' e r')
  | hot hh z r ih =>
    cases i with
    | zero => rw [<- Option.some.inj (Option.some.inj h)] at hne; cases hne
    | succ i =>
      obtain ⟨v, f1, f2, f3, h1, rfl, h3, h4, h5⟩ := ih (i := i) h
      exact ⟨v, f1, f2, f3, h1, rfl, h3, .hot (by rw [List.length_set]; exact hh) z h4, fun F' T' v' o' f2' e r' => .hot (by rw [List.length_set]; exact hh) (z.mono' e) (h5 F' T' v' o' f2' e r')⟩
  | clo hh z r ih =>
    cases i with
    | zero => rw [<- Option.some.inj (Option.some.inj h)] at hne; cases hne
    | succ i =>
      obtain ⟨v, f1, f2, f3, h1, rfl, h3, h4, h5⟩ := ih (i := i) h
      exact ⟨v, f1, f2, f3, h1, rfl, h3, .clo (by rw [List.length_set]; exact hh) z h4, fun F' T' v' o' f2' e r' => .clo (by rw [List.length_set]; exact hh) (z.mono e) (h5 F' T' v' o' f2' e r')⟩
theorem RpE.val {env : List (Option M.O)} {i : Nat} {o : M.O} (r : RpE K F T σ env fp) (h : env[i]? = some (some o)) : ∃ v, σ[i]? = some (some v) := by
  induction r generalizing i with
  | nil => cases h
  | off r ih => cases i with
    | zero => cases h
    | succ i => exact ih (i := i) h
  | on _ r ih => cases i with
    | zero => exact ⟨_, rfl⟩
    | succ i => exact ih (i := i) h
  | hot _ _ r ih => cases i with
    | zero => exact ⟨_, rfl⟩
    | succ i => exact ih (i := i) h
  | clo _ _ r ih => cases i with
    | zero => exact ⟨_, rfl⟩
    | succ i => exact ih (i := i) h
theorem RpE.exn {env : List (Option M.O)} {i : Nat} (r : RpE K F T σ env fp) (h : env[i]? = some (some .exn)) : ∃ a n dd x, Hot.hot = some (a, n, dd, x) /\ XcR K F T x (.ref (He.ga K x.cls)) dd /\ σ[i]? = some (some (.ref a)) := by
  induction r generalizing i with
  | nil => cases h
  | off r ih => cases i with
    | zero => cases h
    | succ i => exact ih (i := i) h
  | on q r ih => cases i with
    | zero =>
      have e := Option.some.inj (Option.some.inj h)
      subst e
      cases q
    | succ i => exact ih (i := i) h
  | hot hh z r ih => cases i with
    | zero => exact ⟨_, _, _, _, hh, z, rfl⟩
    | succ i => exact ih (i := i) h
  | clo hh z r ih => cases i with
    | zero => cases h
    | succ i => exact ih (i := i) h
theorem ec' {α : Type} : ∀ {l : List α} {i : Nat} {x : α}, l[i]? = some x -> l.set i x = l
  | [], _, _, h => by cases h
  | a :: l, 0, x, h => by rw [<- Option.some.inj h]; rfl
  | a :: l, i + 1, x, h => by
    show a :: l.set i x = a :: l
    rw [ec' (l := l) (i := i) h]
theorem RpE.len {env : List (Option M.O)} (r : RpE K F T σ env fp) : σ.length = env.length := by
  induction r with
  | nil => rfl
  | off _ ih => exact congrArg (· + 1) ih
  | on _ _ ih => exact congrArg (· + 1) ih
  | hot _ _ _ ih => exact congrArg (· + 1) ih
  | clo _ _ _ ih => exact congrArg (· + 1) ih
theorem RpE.drop {env : List (Option M.O)} (r : RpE K F T σ env fp) (i : Nat) (x : Option V) : ∃ fq, RpE K F T (σ.set i x) (env.set i none) fq /\ Part fq fp := by
  induction r generalizing i with
  | nil => exact ⟨[], .nil, .refl⟩
  | @off y σ env fp r ih =>
    cases i with
    | zero => exact ⟨_, .off r, .refl⟩
    | succ i =>
      obtain ⟨fq, h1, h2⟩ := ih i
      exact ⟨fq, .off h1, h2⟩
  | @on v0 o0 σ env fa fb r0 r ih =>
    cases i with
    | zero => exact ⟨_, .off r, .right .refl⟩
    | succ i =>
      obtain ⟨fq, h1, h2⟩ := ih i
      exact ⟨_, .on r0 h1, .app .refl h2⟩
  | hot hh z r ih =>
    cases i with
    | zero => exact ⟨_, .off r, .refl⟩
    | succ i =>
      obtain ⟨fq, h1, h2⟩ := ih i
      exact ⟨fq, .hot (by rw [List.length_set]; exact hh) z h1, h2⟩
  | clo hh z r ih =>
    cases i with
    | zero => exact ⟨_, .off r, .refl⟩
    | succ i =>
      obtain ⟨fq, h1, h2⟩ := ih i
      exact ⟨fq, .clo (by rw [List.length_set]; exact hh) z h1, h2⟩
theorem RpE.drop0 {env : List (Option M.O)} (r : RpE K F T σ env fp) (i : Nat) : ∃ fq, RpE K F T σ (env.set i none) fq /\ Part fq fp := by
  induction r generalizing i with
  | nil => exact ⟨[], .nil, .refl⟩
  | @off y σ env fp r ih =>
    cases i with
    | zero => exact ⟨_, .off r, .refl⟩
    | succ i =>
      obtain ⟨fq, h1, h2⟩ := ih i
      exact ⟨fq, .off h1, h2⟩
  | @on v0 o0 σ env fa fb r0 r ih =>
    cases i with
    | zero => exact ⟨_, .off r, .right .refl⟩
    | succ i =>
      obtain ⟨fq, h1, h2⟩ := ih i
      exact ⟨_, .on r0 h1, .app .refl h2⟩
  | hot hh z r ih =>
    cases i with
    | zero => exact ⟨_, .off r, .refl⟩
    | succ i =>
      obtain ⟨fq, h1, h2⟩ := ih i
      exact ⟨fq, .hot (by rw [List.length_set]; exact hh) z h1, h2⟩
  | clo hh z r ih =>
    cases i with
    | zero => exact ⟨_, .off r, .refl⟩
    | succ i =>
      obtain ⟨fq, h1, h2⟩ := ih i
      exact ⟨fq, .clo (by rw [List.length_set]; exact hh) z h1, h2⟩
theorem RpE.put {env : List (Option M.O)} (r : RpE K F T σ env fp) {i : Nat} (hi : i < env.length) {v : V} {o : M.O} {f2 : Fp} (q : Rp K F T v o f2) :
    ∃ fq, RpE K F T (σ.set i (some v)) (env.set i (some o)) fq /\ Part fq (fp ++ f2) := by
  induction r generalizing i with
  | nil => cases hi
  | @off y σ env fp r ih =>
    cases i with
    | zero => exact ⟨_, .on q r, by walk_at "parts"⟩
    | succ i =>
      obtain ⟨fq, h1, h2⟩ := ih (i := i) (Nat.lt_of_succ_lt_succ hi)
      exact ⟨fq, .off h1, h2⟩
  | @on v0 o0 σ env fa fb r0 r ih =>
    cases i with
    | zero => exact ⟨_, .on q r, by walk_at "parts"⟩
    | succ i =>
      obtain ⟨fq, h1, h2⟩ := ih (i := i) (Nat.lt_of_succ_lt_succ hi)
      refine ⟨_, .on r0 h1, ?_⟩
      rw [List.append_assoc]
      exact .app .refl h2
  | hot hh z r ih =>
    cases i with
    | zero => exact ⟨_, .on q r, by walk_at "parts"⟩
    | succ i =>
      obtain ⟨fq, h1, h2⟩ := ih (i := i) (Nat.lt_of_succ_lt_succ hi)
      exact ⟨fq, .hot (by rw [List.length_set]; exact hh) z h1, h2⟩
  | clo hh z r ih =>
    cases i with
    | zero => exact ⟨_, .on q r, by walk_at "parts"⟩
    | succ i =>
      obtain ⟨fq, h1, h2⟩ := ih (i := i) (Nat.lt_of_succ_lt_succ hi)
      exact ⟨fq, .clo (by rw [List.length_set]; exact hh) z h1, h2⟩
theorem RpE.put0 {env : List (Option M.O)} (r : RpE K F T σ env fp) {i : Nat} {v : V} (hi : σ[i]? = some (some v)) {o : M.O} {f2 : Fp} (q : Rp K F T v o f2) :
    ∃ fq, RpE K F T σ (env.set i (some o)) fq /\ Part fq (fp ++ f2) := by
  have hl : i < env.length := by rw [<- r.len]; exact (List.getElem?_eq_some_iff.mp hi).1
  obtain ⟨fq, h1, h2⟩ := r.put hl q
  rw [ec' hi] at h1
  exact ⟨fq, h1, h2⟩
def tT' (F : Hp) : Fp -> Hp
  | [] => F
  | e :: r => upd (tT' F r) e.1 e.2
theorem ey' {a : Addr} : ∀ {fp : Fp}, a ∉ keys fp -> tT' F fp a = F a
  | [], _ => rfl
  | e :: r, h => by
    have h' : a ≠ e.1 /\ a ∉ keys r := by simpa [keys] using h
    show upd (tT' F r) e.1 e.2 a = F a
    rw [upd_ne h'.1, ey' h'.2]
theorem fK' : ∀ {fp : Fp}, (keys fp).Nodup -> ∀ e ∈ fp, tT' F fp e.1 = some e.2
  | e :: r, h, e', he => by
    obtain ⟨h1, h2⟩ := List.nodup_cons.mp h
    show upd (tT' F r) e.1 e.2 e'.1 = _
    rcases List.mem_cons.mp he with rfl | he
    . exact upd_same
    . rw [upd_ne fun z => h1 (by have q : e'.1 ∈ keys r := List.mem_map_of_mem he; rw [z] at q; exact q)]
      exact fK' h2 e' he
theorem gL' {fp : Fp} (h : ∀ e ∈ fp, F e.1 = none) : Same F (tT' F fp) := fun a o e => by
  rw [ey' fun z => ?_]
  . exact e
  . obtain ⟨x, h1, h2⟩ := List.mem_map.mp z
    rw [<- h2, h x h1] at e
    cases e
theorem FpH.freeze {a b : Fp} (f : FpH F H (a ++ b)) : FpH (tT' F a) H b := by
  have nd : (keys a ++ keys b).Nodup := by rw [<- List.map_append]; exact f.nd
  obtain ⟨n1, n2, n3⟩ := List.nodup_append.mp nd
  refine ⟨fun p o h => ?_, fun e he => ⟨(f.at_ e (List.mem_append_right _ he)).1, ?_⟩, n2, f.tbs (fun p h1 h2 h3 => ⟨?_, rfl, fun e he => h3 e (List.mem_append_right _ he)⟩) fun c q h => kU' (gL' fun e he => (f.at_ e (List.mem_append_left _ he)).2) h⟩
  . by_cases hp : p ∈ keys a
    . obtain ⟨x, h1, rfl⟩ := List.mem_map.mp hp
      rw [fK' n1 x h1] at h
      rw [(f.at_ x (List.mem_append_left _ h1)).1]
      exact h
    . rw [ey' hp] at h
      exact f.low _ _ h
  . rw [ey' fun z => n3 _ z _ (List.mem_map_of_mem he) rfl]
    exact (f.at_ e (List.mem_append_right _ he)).2
  . rw [ey' fun z => ?_]
    . exact h1
    . obtain ⟨x, hx, e⟩ := List.mem_map.mp z
      exact h3 x (List.mem_append_left _ hx) e
mutual
theorem Rp.freeze {G : Hp} (s : Same F G) : ∀ {v : V} {o : M.O} {fp : Fp}, Rp K F T v o fp -> (∀ e ∈ fp, G e.1 = some e.2) -> Fz K G T v (M.frz o)
  | _, _, _, .fz h, _ => h.mono (.of s)
  | _, _, _, .lst r, g => .lst (g _ List.mem_cons_self) (RpA.freeze s r fun e he => g e (List.mem_cons_of_mem _ he))
  | _, _, _, .tup r, g => .tup (SqT.of (g _ List.mem_cons_self)) (RpA.freeze s r fun e he => g e (List.mem_cons_of_mem _ he))
  | _, _, _, .dct k r, g => .dct (.inl (g _ List.mem_cons_self)) k (RpA.freeze s r fun e he => g e (List.mem_cons_of_mem _ he))
  | _, _, _, .dcl k r, g => .dcl (.inl (g _ List.mem_cons_self)) k (RpA.freeze s r fun e he => g e (List.mem_cons_of_mem _ he))
  | _, _, _, .dcn k q r, g => .dcn (.inl (g _ List.mem_cons_self)) k (q.mono (.of s)) (RpA.freeze s r fun e he => g e (List.mem_cons_of_mem _ he))
theorem RpA.freeze {G : Hp} (s : Same F G) : ∀ {vs : List V} {os : List M.O} {fp : Fp}, RpA K F T vs os fp -> (∀ e ∈ fp, G e.1 = some e.2) -> FzA K G T vs (M.frzs os)
  | _, _, _, .nil, _ => .nil
  | _, _, _, .cons h r, g => .cons (Rp.freeze s h fun e he => g e (List.mem_append_left _ he)) (RpA.freeze s r fun e he => g e (List.mem_append_right _ he))
end
theorem Rp.frozen {v : V} {o : M.O} {a b : Fp} (q : Rp K F T v o a) (f : FpH F H (a ++ b)) : ∃ G, Same F G /\ Fz K G T v (M.frz o) /\ FpH G H b := by
  have s : Same F (tT' F a) := gL' fun e he => (f.at_ e (List.mem_append_left _ he)).2
  refine ⟨_, s, q.freeze s fun e he => fK' ?_ e he, f.freeze⟩
  have nd : (keys a ++ keys b).Nodup := by rw [<- List.map_append]; exact f.nd
  exact (List.nodup_append.mp nd).1
theorem RpA.frozen {v : List V} {o : List M.O} {a b : Fp} (q : RpA K F T v o a) (f : FpH F H (a ++ b)) : ∃ G, Same F G /\ FzA K G T v (M.frzs o) /\ FpH G H b := by
  have s : Same F (tT' F a) := gL' fun e he => (f.at_ e (List.mem_append_left _ he)).2
  refine ⟨_, s, q.freeze s fun e he => fK' ?_ e he, f.freeze⟩
  have nd : (keys a ++ keys b).Nodup := by rw [<- List.map_append]; exact f.nd
  exact (List.nodup_append.mp nd).1
theorem Rel.frozen {v : V} {o : M.O} (r : Rel K ρ σ H F T (fp ++ fr)) (q : Rp K F T v o fp) : ∃ G, Same F G /\ Fz K G T v (M.frz o) /\ Rel K ρ σ H G T fr := by
  obtain ⟨fe, fw, re, rw, f⟩ := r
  have f' : FpH F H (fp ++ (fe ++ (fw ++ fr))) := f.part (by walk_at "parts")
  obtain ⟨G, s, z, f2⟩ := q.frozen f'
  exact ⟨G, s, z, fe, fw, re.mono (.of s), rw.mono (.of s), f2⟩
theorem Rel.part {fr' : Fp} (r : Rel K ρ σ H F T fr) (p : Part fr' fr) : Rel K ρ σ H F T fr' := by
  obtain ⟨fe, fw, re, rw, f⟩ := r
  exact ⟨fe, fw, re, rw, f.part (.app .refl (.app .refl p))⟩
theorem FpH.own {p : Addr} {o : HO} (f : FpH F H fp) (hp : H p = none) : FpH F (upd H p o) ((p, o) :: fp) := by
  have np : ∀ e ∈ fp, e.1 ≠ p := fun e he => ne_of_none (f.at_ e he).1 hp
  refine ⟨fun a u h => ?_, fun e he => ?_, ?_, f.tbs fun a h1 h2 h3 => ?_⟩
  . rw [upd_ne (ne_of_none (f.low _ _ h) hp)]; exact f.low _ _ h
  . rcases List.mem_cons.mp he with rfl | he
    . exact ⟨upd_same, f.free hp⟩
    . rw [upd_ne (np e he)]; exact f.at_ e he
  . refine List.nodup_cons.mpr ⟨fun h => ?_, f.nd⟩
    obtain ⟨x, h1, h2⟩ := List.mem_map.mp h
    exact np x h1 h2
  . have ha : a ≠ p := fun z => h2 (by rw [z]; exact hp)
    refine ⟨h1, upd_ne ha, fun e he => ?_⟩
    rcases List.mem_cons.mp he with rfl | he
    . exact Ne.symm ha
    . exact h3 e he
theorem FpH.write {p : Addr} {o o' : HO} {a b : Fp} (f : FpH F H (a ++ ((p, o) :: b))) : FpH F (upd H p o') (a ++ ((p, o') :: b)) := by
  have nd : (keys a ++ (p :: keys b)).Nodup := by
    have := f.nd
    simpa [keys] using this
  obtain ⟨n1, n2, n3⟩ := List.nodup_append.mp nd
  have hp : F p = none := (f.at_ (p, o) (by simp)).2
  refine ⟨fun x u h => ?_, fun e he => ?_, ?_, f.tbs fun x h1 h2 h3 => ?_⟩
  . rw [upd_ne (fun z => by rw [z, hp] at h; cases h)]; exact f.low _ _ h
  . rcases List.mem_append.mp he with h | h
    . rw [upd_ne (n3 _ (List.mem_map_of_mem h) _ List.mem_cons_self)]
      exact f.at_ e (List.mem_append_left _ h)
    . rcases List.mem_cons.mp h with rfl | h
      . exact ⟨upd_same, hp⟩
      . rw [upd_ne (fun z => (List.nodup_cons.mp n2).1 (by have q : e.1 ∈ keys b := List.mem_map_of_mem h; rw [z] at q; exact q))]
        exact f.at_ e (List.mem_append_right _ (List.mem_cons_of_mem _ h))
  . have e : (a ++ ((p, o') :: b)).map (·.1) = keys a ++ (p :: keys b) := by simp [keys]
    rw [e]
    exact nd
  . have ha : x ≠ p := fun z => h3 (p, o) (by simp) z.symm
    refine ⟨h1, upd_ne ha, fun e he => ?_⟩
    rcases List.mem_append.mp he with h | h
    . exact h3 e (List.mem_append_left _ h)
    . rcases List.mem_cons.mp h with rfl | h
      . exact Ne.symm ha
      . exact h3 e (List.mem_append_right _ (List.mem_cons_of_mem _ h))
end
section
variable {X : Cx} {W : WX} {K : PySem.W.Frag} {pos : Pos}
theorem ae' {i j pos} : SE X W (.Constant (.int i) j pos) (M.eC (.int i)) := PE.imp pe_int fun σ H Q ⟨ρ, F, T, fr, rel, h⟩ => h _ _ _ _ .refl (.int i) rel
theorem cF' {b j pos} : SE X W (.Constant (.bool b) j pos) (M.eC (.bl b)) := PE.imp pe_bl fun σ H Q ⟨ρ, F, T, fr, rel, h⟩ => h _ _ _ _ .refl (.bl b) rel
theorem dQ' {j pos} : SE X W (.Constant .none j pos) (M.eC .non) := PE.imp pe_non fun σ H Q ⟨ρ, F, T, fr, rel, h⟩ => h _ _ _ _ .refl .non rel
def AA' (s : M.Tx) : Bool := s.all (fun c => decide (c < 1114112)) && decide (s.length <= 16777216)
theorem uF' {s : M.Tx} (h : AA' s = true) : okT s := by
  unfold AA' at h
  rw [Bool.and_eq_true, List.all_eq_true] at h
  exact ⟨fun c hc => of_decide_eq_true (h.1 c hc), of_decide_eq_true h.2⟩
theorem bO' {x : Str} {j pos} (s : M.Tx) (hs : x = sx s) (ho : AA' s = true) : SE X W (.Constant (.str x) j pos) (M.eC (.str s)) := by
  subst hs
  exact PE.imp pe_str fun σ H Q ⟨ρ, F, T, fr, rel, h⟩ => h _ _ _ _ .refl (.str (uF' ho)) rel
theorem Dj' {e : Expr} {v : V} {d : M.D} (h : PE X e (tC v)) (z : ∀ F T, Fz X.K F T v d) : SE X W e (M.eC d) := PE.imp h fun σ H Q ⟨ρ, F, T, fr, rel, h⟩ => h _ _ _ _ .refl (z F T) rel
theorem xZ' {i : Nat} {σ : St} {H : Hp} {Q : VK} (h : qE K W (M.eV i) σ H Q) : tVar i σ H Q := by
  obtain ⟨ρ, F, T, fr, rel, h⟩ := h
  unfold M.eV at h
  split at h
  . rename_i d e
    obtain ⟨fe, fw, re, rw, f⟩ := id rel
    obtain ⟨v, f1, f2, f3, h1, rfl, h3, h4, h5⟩ := re.get e
    cases h3 with
    | fz z => exact ⟨v, h1, h v H F T .refl z rel⟩
  . exact h.elim
  . exact h.elim
  . rename_i o _ hne hnc e
    obtain ⟨fe, fw, re, rw, f⟩ := rel
    obtain ⟨v, f1, f2, f3, h1, rfl, h3, h4, h5⟩ := re.get e (M.dW' (fun z => hne (by rw [z])) fun z => hnc (by rw [z]))
    have f' : FpH F H (f2 ++ (f1 ++ f3 ++ (fw ++ fr))) := f.part (by refine ⟨fun e h => ?_, fun x => ?_⟩; (simp only [List.mem_append] at *; grind); (simp only [keys, List.map_append, List.count_append] at *; omega))
    obtain ⟨G, s, z, fG⟩ := h3.frozen f'
    have re' := h5 G T v (.fz (M.frz o)) [] (.of s) (.fz z)
    rw [ec' h1] at re'
    exact ⟨v, h1, h v H G T (.of s) z ⟨_, fw, re', rw.mono (.of s), by simpa using fG⟩⟩
  . exact h.elim
theorem ad' {e : Expr} {i : Nat} (h : PE X e (tVar i)) : SE X W e (M.eV i) := PE.imp h fun _ _ _ => xZ'
variable {a b c : Expr} {ma mb mc : M.ME} {σ : St} {H : Hp} {Q : VK}
theorem ik' {f : M.D -> M.D -> Option M.D} {r : R2} (hf : Op2 K f r) (h : qE K W (M.eOp f ma mb) σ H Q) : tOp r (qE K W ma) (qE K W mb) σ H Q := by
  obtain ⟨ρ, F, T, fr, rel, h⟩ := h
  refine aB' rel h fun dx ρ1 v H1 F1 T1 e1 z1 r1 h1 => ?_
  refine aB' r1 h1 fun dy ρ2 u H2 F2 T2 e2 z2 r2 h2 => ?_
  obtain ⟨dz, ez, q⟩ := aG'.ofO h2
  obtain ⟨fp, f2, back⟩ := r2.fp
  exact hf f2 (z1.mono e2) z2 ez fun v' H3 F3 s zz f3 => q v' H3 F3 T2 (e1.trans (e2.trans (.of s))) zz (back H3 F3 s f3)
theorem ay' {op : Operator} {f : M.D -> M.D -> Option M.D} {r : R2} (ho : OpR X (binaryOp op) r) (hf : Op2 X.K f r) (ha : SE X W a ma) (hb : SE X W b mb) : SE X W (.BinOp a op b pos) (M.eOp f ma mb) := PE.imp (pe_op ho ha hb) fun _ _ _ => ik' hf
theorem fZ' {op : CmpOp} {f : M.D -> M.D -> Option M.D} {r : R2} (ho : OpR X (compareOp op) r) (hf : Op2 X.K f r) (hm : behindInMarks op b = false) (ha : SE X W a ma) (hb : SE X W b mb) : SE X W (.Compare a [op] [b] pos) (M.eOp f ma mb) := PE.imp (pe_cmpR ho ha hb hm) fun _ _ _ => ik' hf
theorem bE' {f : M.D -> M.D -> Option M.D} {r : R2} (ho : IxR X r) (hf : Op2 X.K f r) (ha : SE X W a ma) (hb : SE X W b mb) (hs : PlainIx b) : SE X W (.Subscript a b pos) (M.eOp f ma mb) := PE.imp (pe_ix ho ha hb hs) fun _ _ _ => ik' hf
theorem aG'.asB {d : M.D} {ρ : M.PSt} {P : Bool -> M.PSt -> Prop} {Y : Wx} (h : aG' (M.asB d ρ) P Y) : ∃ b, d = .bl b /\ P b ρ := by
  cases d <;> first | exact h.elim | exact ⟨_, rfl, h⟩
theorem oH' {f g : M.D -> M.D -> Option M.D} {r r' : R2} (hf : Op2 K f r) (hg : Op2 K g r') (h : qE K W (M.gC' f g ma mb mc) σ H Q) : tChain r r' (qE K W ma) (qE K W mb) (qE K W mc) σ H Q := by
  obtain ⟨ρ, F, T, fr, rel, h⟩ := h
  refine aB' rel h fun dx ρ1 v H1 F1 T1 e1 z1 r1 h1 => ?_
  refine aB' r1 h1 fun dy ρ2 u H2 F2 T2 e2 z2 r2 h2 => ?_
  obtain ⟨dz, ez, h3⟩ := aG'.ofO (aG'.bind h2)
  obtain ⟨fp, f2, back⟩ := r2.fp
  refine hf f2 (z1.mono e2) z2 ez fun v' H3 F3 s zz f3 => ?_
  have h4 := aG'.bind h3
  obtain ⟨k, rfl, h5⟩ := aG'.asB h4
  refine ⟨k, zz.bl_inv, ?_⟩
  have r3 := back H3 F3 s f3
  cases k with
  | true =>
    rw [if_pos rfl] at h5 ⊢
    refine aB' r3 (h5.mono (fun _ _ z => z) fun _ _ z => z.mono (.of s)) fun dw ρ4 w' H4 F4 T4 e4 z4 r4 h6 => ?_
    obtain ⟨dz, ez, q⟩ := aG'.ofO h6
    obtain ⟨fp, f4, back⟩ := r4.fp
    exact hg f4 ((z2.mono (.of s)).mono e4) z4 ez fun v' H5 F5 s5 zz f5 => q v' H5 F5 T4 (e1.trans (e2.trans ((Ext.of s).trans (e4.trans (.of s5))))) zz (back H5 F5 s5 f5)
  | false =>
    rw [if_neg Bool.false_ne_true] at h5 ⊢
    exact h5 _ H3 F3 T2 (e1.trans (e2.trans (.of s))) (.bl false) r3
variable {rest : List Expr}
theorem jp' (ha : SE X W a ma) (hb : SE X W (.BoolOp .And (b :: rest) pos) mb) : SE X W (.BoolOp .And (a :: b :: rest) pos) (M.tv' ma mb) := PE.imp (pe_and ha hb) fun σ H Q ⟨ρ, F, T, fr, rel, h⟩ => by
  refine aB' rel h fun dx ρ1 v H1 F1 T1 e1 z1 r1 h1 => ?_
  obtain ⟨k, rfl, h2⟩ := aG'.asB (aG'.bind h1)
  refine ⟨k, z1.bl_inv, ?_⟩
  cases k with
  | true => rw [if_pos rfl] at h2 ⊢; exact ⟨ρ1, F1, T1, fr, r1, h2.mono (fun _ _ z v H' F' T' e => z v H' F' T' (e1.trans e)) fun _ _ z => z⟩
  | false => rw [if_neg Bool.false_ne_true] at h2 ⊢; exact h2 _ _ _ _ e1 (.bl false) r1
theorem jn' {op} (ha : SE X W a ma) : SE X W (.BoolOp op [a] pos) ma := pe_one ha
theorem yc' (ha : SE X W a ma) : SE X W (.UnaryOp .Not a pos) (M.zq' ma) := PE.imp (pe_not ha) fun σ H Q ⟨ρ, F, T, fr, rel, h⟩ => by
  refine aB' rel h fun dx ρ1 v H1 F1 T1 e1 z1 r1 h1 => ?_
  obtain ⟨k, rfl, h2⟩ := aG'.asB (aG'.bind h1)
  exact ⟨k, z1.bl_inv, h2 _ _ _ _ e1 (.bl _) r1⟩
variable {mt mu : M.MT}
theorem iK' (ha : SE X W a ma) (he : ∀ whole, isTrue a X.env whole = (do let v ← whole; standAt a.pos; holding [v] (truthy v)) := by intro _; rfl) : ST X W a (M.tE ma) := PT.imp (pt_val ha he) fun σ H Q ⟨ρ, F, T, fr, rel, h⟩ => by
  refine aB' rel h fun dx ρ1 v H1 F1 T1 e1 z1 r1 h1 => ?_
  obtain ⟨k, rfl, h2⟩ := aG'.asB h1
  exact ⟨k, z1.bl_inv, h2 _ _ _ e1 r1⟩
theorem ar' {op : CmpOp} {f : M.D -> M.D -> Option M.D} {r : R2} (ho : OpR X (compareOp op) r) (hf : Op2 X.K f r) (hm : behindInMarks op b = false) (ha : SE X W a ma) (hb : SE X W b mb) : ST X W (.Compare a [op] [b] pos) (M.tE (M.eOp f ma mb)) :=
  PT.imp (pt_cmpR ho ha hb hm) fun σ H Q ⟨ρ, F, T, fr, rel, h⟩ => by
    show tOp r (qE X.K W ma) (qE X.K W mb) σ H fun x H' => ∃ k, x = .bl k /\ Q k H'
    refine ik' hf ⟨ρ, F, T, fr, rel, (aG'.bind h).mono (fun d ρ1 h1 v H1 F1 T1 e z r => ?_) fun _ _ z => z⟩
    obtain ⟨k, rfl, h2⟩ := aG'.asB h1
    exact ⟨k, z.bl_inv, h2 _ _ _ e r⟩
theorem m4' {op op' : CmpOp} {f g : M.D -> M.D -> Option M.D} {r r' : R2} (ho : OpR X (compareOp op) r) (hf : Op2 X.K f r) (ho' : OpR X (compareOp op') r') (hg : Op2 X.K g r') (ha : SE X W a ma) (hb : SE X W b mb) (hc : SE X W c mc)
    (hm : lastMarks [op, op'] [b, c] = false := by with_unfolding_all rfl) : ST X W (.Compare a [op, op'] [b, c] pos) (M.tE (M.gC' f g ma mb mc)) := PT.imp (pt_chain ho ho' ha hb hc hm) fun σ H Q ⟨ρ, F, T, fr, rel, h⟩ => by
    show tChain r r' (qE X.K W ma) (qE X.K W mb) (qE X.K W mc) σ H fun x H' => ∃ k, x = .bl k /\ Q k H'
    refine oH' hf hg ⟨ρ, F, T, fr, rel, (aG'.bind h).mono (fun d ρ1 h1 v H1 F1 T1 e z r => ?_) fun _ _ z => z⟩
    obtain ⟨k, rfl, h2⟩ := aG'.asB h1
    exact ⟨k, z.bl_inv, h2 _ _ _ e r⟩
abbrev SW (X : Cx) (W : WX) (e : Expr) (m : M.MT) : Prop := PW X e (qT X.K W m)
theorem ia' (ha : ST X W a mt) : SW X W (.BoolOp .And [a] pos) mt := pw_and1 ha
theorem dP' (ha : ST X W a mt) : SW X W (.BoolOp .Or [a] pos) mt := pw_or1 ha
theorem mX' (ha : ST X W a mt) (hb : SW X W (.BoolOp .And (b :: rest) pos) mu) : SW X W (.BoolOp .And (a :: b :: rest) pos) (M.sw' mt mu) := PW.imp (pw_and ha hb) fun σ H Q ⟨ρ, F, T, fr, rel, h⟩ => by
  refine kW' rel h fun k ρ1 H1 F1 T1 e1 r1 h1 => ?_
  cases k with
  | true => rw [if_pos rfl] at h1 ⊢; exact ⟨ρ1, F1, T1, fr, r1, h1.mono (fun _ _ z H' F' T' e => z H' F' T' (e1.trans e)) fun _ _ z => z⟩
  | false => rw [if_neg Bool.false_ne_true] at h1 ⊢; exact h1 _ _ _ e1 r1
theorem fo' (ha : ST X W a mt) (hb : SW X W (.BoolOp .Or (b :: rest) pos) mu) : SW X W (.BoolOp .Or (a :: b :: rest) pos) (M.tOr mt mu) := PW.imp (pw_or ha hb) fun σ H Q ⟨ρ, F, T, fr, rel, h⟩ => by
  refine kW' rel h fun k ρ1 H1 F1 T1 e1 r1 h1 => ?_
  cases k with
  | true => rw [if_pos rfl] at h1 ⊢; exact h1 _ _ _ e1 r1
  | false => rw [if_neg Bool.false_ne_true] at h1 ⊢; exact ⟨ρ1, F1, T1, fr, r1, h1.mono (fun _ _ z H' F' T' e => z H' F' T' (e1.trans e)) fun _ _ z => z⟩
theorem m3' (h : SW X W a mt) : ST X W a mt := PW.pt h
theorem bS' (ha : ST X W a mt) : ST X W (.UnaryOp .Not a pos) (M.fA' mt) := PT.imp (pt_not ha) fun σ H Q ⟨ρ, F, T, fr, rel, h⟩ => kW' rel h fun k ρ1 H1 F1 T1 e1 r1 h1 => h1 _ _ _ e1 r1
variable {es : List Expr} {as : M.MA}
theorem ag' : SA X W [] M.aW' := PA.imp pa_nil fun σ H Q ⟨ρ, F, T, fr, rel, h⟩ => h [] H F T .refl .nil rel
theorem aa' (ha : SE X W a ma) (hr : SA X W es as) (hs : starEach (a :: es) X.env = (false, eval a X.env) :: starEach es X.env := by rfl) : SA X W (a :: es) (M.ac' ma as) := PA.imp (pa_cons ha hr hs) fun σ H Q ⟨ρ, F, T, fr, rel, h⟩ => by
  refine aB' rel h fun dx ρ1 v H1 F1 T1 e1 z1 r1 h1 => ?_
  refine cV' r1 h1 fun ds ρ2 vs H2 F2 T2 e2 z2 r2 h2 => ?_
  exact h2 _ _ _ _ (e1.trans e2) (.cons (z1.mono e2) z2) r2
theorem bZ' {k} (h : SA X W es as) : SE X W (.Tuple es k pos) (M.gP' as) := PE.imp (pe_tup h) fun σ H Q ⟨ρ, F, T, fr, rel, h⟩ => by
  refine cV' rel h fun ds ρ1 vs H1 F1 T1 e1 z1 r1 h1 => ?_
  split at h1
  . rename_i hl
    refine ⟨by rw [z1.length, bu']; exact hl, fun p hp => ?_⟩
    obtain ⟨fp, f, back⟩ := r1.fp
    have s : Same F1 (upd F1 p (.tup vs)) := cg' (f.free hp)
    exact h1 _ _ _ _ (e1.trans (.of s)) (.tup (SqT.of upd_same) (z1.mono (.of s))) (back _ _ s (f.new hp))
  . exact h1.elim
theorem jo' (h : SA X W es as) : SE X W (.List es pos) (M.iM' as) := PE.imp (pe_lst h) fun σ H Q ⟨ρ, F, T, fr, rel, h⟩ => by
  refine cV' rel h fun ds ρ1 vs H1 F1 T1 e1 z1 r1 h1 => ?_
  split at h1
  . rename_i hl
    refine ⟨by rw [z1.length, bu']; exact hl, fun p hp => ?_⟩
    obtain ⟨fp, f, back⟩ := r1.fp
    have s : Same F1 (upd F1 p (.lst vs)) := cg' (f.free hp)
    exact h1 _ _ _ _ (e1.trans (.of s)) (.lst upd_same (z1.mono (.of s))) (back _ _ s (f.new hp))
  . exact h1.elim
abbrev SP_ (X : Cx) (W : WX) (e : Option Expr) (m : M.MP) : Prop := PO X e (qP X.K W m)
theorem og' : SP_ X W none M.pNo := PO.imp po_none fun σ H Q ⟨ρ, F, T, fr, rel, h⟩ => h _ _ _ .refl rel
theorem of' (ha : SE X W a ma) : SP_ X W (some a) (M.pSo ma) := PO.imp (po_some ha) fun σ H Q ⟨ρ, F, T, fr, rel, h⟩ => by
  refine aB' rel h fun dx ρ1 v H1 F1 T1 e1 z1 r1 h1 => ?_
  split at h1
  . exact ⟨_, z1.int_inv, h1 _ _ _ e1 r1⟩
  . exact h1.elim
theorem oi' {r : V -> Option Int -> Option Int -> Hp -> VK -> Prop} {lo hi : Option Expr} {ml mh : M.MP} {p2 : Pos} (ho : SlR X r) (hf : C2' X.K r) (ha : SE X W a ma) (hl : SP_ X W lo ml) (hh : SP_ X W hi mh) : SE X W (.Subscript a (.Slice lo hi none p2) pos) (M.eSl ma ml mh) :=
  PE.imp (pe_slice ho ha hl hh) fun σ H Q ⟨ρ, F, T, fr, rel, h⟩ => by
    refine aB' rel h fun dx ρ1 v H1 F1 T1 e1 z1 r1 h1 => ?_
    refine qM' r1 h1 fun l ρ2 H2 F2 T2 e2 r2 h2 => ?_
    refine qM' r2 h2 fun u ρ3 H3 F3 T3 e3 r3 h3 => ?_
    obtain ⟨dz, ez, q⟩ := aG'.ofO h3
    obtain ⟨fp, f3, back⟩ := r3.fp
    exact hf f3 ((z1.mono e2).mono e3) ez fun v' H4 F4 s zz f4 => q v' H4 F4 T3 (e1.trans (e2.trans (e3.trans (.of s)))) zz (back H4 F4 s f4)
end
end S
namespace S
open PySem PySem.Spec PyProof.Rows L2
variable [Wd]
section
variable (K : PySem.W.Frag) (H : Hp)
mutual
inductive NkV : V -> NestedKey -> Prop
  | non : NkV .non .none
  | bl (b : Bool) : NkV (.bl b) (.num (if b = true then 1 else 0))
  | int (i : Int) : NkV (.int i) (.num i)
  | str (x : Str) : NkV (.str x) (.text x)
  | tup {a : Addr} {vs : List V} {ks : List NestedKey} : SqT K H a vs -> NkVs vs ks -> NkV (.ref a) (.tup ks)
inductive NkVs : List V -> List NestedKey -> Prop
  | nil : NkVs [] []
  | cons {v : V} {vs : List V} {k : NestedKey} {ks : List NestedKey} : NkV v k -> NkVs vs ks -> NkVs (v :: vs) (k :: ks)
end
end
section
variable {X : Cx} {pins : List (Addr × Obj)} {σ : St} {H : Hp} {s : Shared}
mutual
theorem NkV.is (I : Inv X pins σ H s) : ∀ {v : V} {k : NestedKey} {u : Value}, NkV X.K H v k -> RelV v u -> NestedIs s.heap k u
  | _, _, _, .non, r => by cases (show _ = Value.none from r); exact .none
  | _, _, _, .bl b, r => by cases (show _ = Value.bool b from r); exact .bool rfl
  | _, _, _, .int i, r => by obtain ⟨t, e⟩ := (show ∃ t, _ = Value.int i t from r); subst e; exact .int i t
  | _, _, _, .str x, r => by obtain ⟨t, e⟩ := (show ∃ t, _ = Value.str x t from r); subst e; exact .text x t
  | _, _, _, .tup (a := a) h q, r => by
    cases (show _ = Value.ref a from r)
    obtain ⟨its, rv, ⟨o, h1, h2, n, h3⟩, _⟩ := I.tuple h
    exact .tup h1 h2 h3 (NkVs.is I q rv)
theorem NkVs.is (I : Inv X pins σ H s) : ∀ {v : List V} {k : List NestedKey} {u : List Value}, NkVs X.K H v k -> Vals v u -> NestedAll s.heap k u
  | _, _, _, .nil, r => by cases r; exact .nil
  | _, _, _, .cons a q, r => by
    cases r with
    | cons ra rq => exact .cons (NkV.is I a ra) (NkVs.is I q rq)
end
end
section
variable {K : PySem.W.Frag} {F H : Hp} {T : List Addr}
mutual
theorem Fz.nk (s : Same F H) : ∀ {v : V} {d : M.D}, Fz K F T v d -> M.kat d = true -> NkV K H v (nk d)
  | _, _, .non, _ => .non
  | _, _, .bl b, _ => .bl b
  | _, _, .int i, _ => .int i
  | _, _, .str h, _ => .str _
  | _, _, .tup h r, e => .tup (seqT s h) (FzA.nk s r e)
  | _, _, .lst h r, e => by cases e
  | _, _, .dct h _ r, e => by cases e
  | _, _, .dcl h k r, e => by cases e
  | _, _, .dcn h k q r, e => by cases e
  | _, _, .rep d, e => by cases e
  | _, _, .obj h, e => by cases e
  | _, _, .ty n, e => by cases e
  | _, _, .fn x, e => by cases e
  | _, _, .scr h r, e => by cases e
theorem FzA.nk (s : Same F H) : ∀ {vs : List V} {ds : List M.D}, FzA K F T vs ds -> M.kats ds = true -> NkVs K H vs (nks ds)
  | _, _, .nil, _ => .nil
  | _, _, .cons h r, e => by
    obtain ⟨e1, e2⟩ := Bool.and_eq_true_iff.mp (show (M.kat _ && M.kats _) = true from e)
    exact .cons (Fz.nk s h e1) (FzA.nk s r e2)
end
def lfV : V -> Option Leaf
  | .non => some .none
  | .bl b => some (.num (if b = true then 1 else 0))
  | .int i => some (.num i)
  | .str x => some (.text x)
  | _ => none
theorem Fz.lf {v : V} {d : M.D} (h : Fz K F T v d) (e : M.sca d = true) : lfV v = some (lfD d) := by
  cases h <;> first | rfl | (cases e)
theorem ri' {P : Program} {w : World} {v : V} {l : Leaf} {u : Value} (h : lfV v = some l) (r : RelV v u) : (leafKind P w).is l u = true := by
  cases v with
  | non => cases h; cases (show _ = Value.none from r); rfl
  | bl b => cases h; cases (show _ = Value.bool b from r); cases b <;> rfl
  | int i => cases h; obtain ⟨t, e⟩ := (show ∃ t, _ = Value.int i t from r); subst e; exact leaf_int i t
  | str x => cases h; obtain ⟨t, e⟩ := (show ∃ t, _ = Value.str x t from r); subst e; exact leaf_str x t
  | _ => cases h
end
mutual
theorem iu' : ∀ d : M.D, M.kat d = true -> (nk d).depth = M.dep d
  | .non, _ => rfl
  | .bl _, _ => rfl
  | .int _, _ => rfl
  | .str _, _ => rfl
  | .tup ds, e => congrArg (· + 1) (nks_depth ds e)
  | .lst _, e => by cases e
  | .dct _ _, e => by cases e
  | .dcx _ _, e => by cases e
  | .rep _, e => by cases e
  | .obj _, e => by cases e
  | .ty _, e => by cases e
  | .fn _, e => by cases e
  | .exc _ _, e => by cases e
  | .scr _, e => by cases e
theorem nks_depth : ∀ ds : List M.D, M.kats ds = true -> NestedKey.depthAll (nks ds) = M.deps ds
  | [], _ => rfl
  | d :: r, e => by
    obtain ⟨e1, e2⟩ := Bool.and_eq_true_iff.mp (show (M.kat d && M.kats r) = true from e)
    show max _ _ = max _ _
    rw [iu' d e1, nks_depth r e2]
end
mutual
theorem uQ' : ∀ d e : M.D, M.kat d = true -> M.kat e = true -> M.eqb d e = NestedKey.beq (nk d) (nk e)
  | .non, e, _, h => by cases e <;> first | rfl | (cases h)
  | .bl a, e, _, h => by
    cases e with
    | bl b => cases a <;> cases b <;> rfl
    | int j => show ((if a then 1 else 0 : Int) == j) = decide _; rw [Bool.eq_iff_iff]; simp
    | _ => first | rfl | (cases h)
  | .int i, e, _, h => by
    cases e with
    | bl b => show (i == (if b then 1 else 0 : Int)) = decide _; rw [Bool.eq_iff_iff]; simp
    | int j => show (i == j) = decide _; rw [Bool.eq_iff_iff]; simp
    | _ => first | rfl | (cases h)
  | .str a, e, _, h => by
    cases e with
    | str b => show (a == b) = decide _; rw [Bool.eq_iff_iff, beq_iff_eq, decide_eq_true_iff]; exact ⟨fun h => by rw [h], um'⟩
    | _ => first | rfl | (cases h)
  | .tup a, e, h1, h => by
    cases e with
    | tup b => exact eqbs_nk a b h1 h
    | _ => first | rfl | (cases h)
  | .lst _, _, h, _ => by cases h
  | .dct _ _, _, h, _ => by cases h
  | .dcx _ _, _, h, _ => by cases h
  | .rep _, _, h, _ => by cases h
  | .obj _, _, h, _ => by cases h
  | .ty _, _, h, _ => by cases h
  | .fn _, _, h, _ => by cases h
  | .exc _ _, _, h, _ => by cases h
  | .scr _, _, h, _ => by cases h
theorem eqbs_nk : ∀ d e : List M.D, M.kats d = true -> M.kats e = true -> M.eqbs d e = NestedKey.beqAll (nks d) (nks e)
  | [], [], _, _ => rfl
  | [], _ :: _, _, _ => rfl
  | _ :: _, [], _, _ => rfl
  | a :: d, b :: e, h1, h2 => by
    obtain ⟨a1, a2⟩ := Bool.and_eq_true_iff.mp (show (M.kat a && M.kats d) = true from h1)
    obtain ⟨b1, b2⟩ := Bool.and_eq_true_iff.mp (show (M.kat b && M.kats e) = true from h2)
    show (M.eqb a b && M.eqbs d e) = (NestedKey.beq (nk a) (nk b) && NestedKey.beqAll (nks d) (nks e))
    rw [uQ' a b a1 b1, eqbs_nk d e a2 b2]
end
theorem rH' {d e : M.D} (h1 : M.kat d = true) (h2 : M.kat e = true) : M.eqb d e = decide (nk d = nk e) := by
  rw [uQ' d e h1 h2, NestedKey.decide_eq]
theorem qq' {d : M.D} (h : M.sca d = true) : M.kat d = true := by cases d <;> first | rfl | (cases h)
theorem uI' {d : M.D} (h : M.sca d = true) : (lfD d).key = nk d := by cases d <;> first | rfl | (cases h)
theorem zo' {d e : M.D} (h1 : M.sca d = true) (h2 : M.sca e = true) : M.eqb d e = decide (lfD d = lfD e) := by
  rw [rH' (qq' h1) (qq' h2), <- uI' h1, <- uI' h2]
  by_cases q : lfD d = lfD e
  . rw [decide_eq_true q, decide_eq_true (congrArg Leaf.key q)]
  . rw [decide_eq_false q, decide_eq_false fun r => q (Leaf.key_inj r)]
theorem uR' (k j : Key) : M.eqb (kD k) (kD j) = decide (k = j) := by
  cases k with
  | inl a => cases j with
    | inl b => rw [key_ll]; rfl
    | inr b => rw [key_lr]; rfl
  | inr a => cases j with
    | inl b => rw [key_rl]; rfl
    | inr b =>
      rw [key_rr]
      show (a.cps.toList == b.cps.toList) = _
      rw [Bool.eq_iff_iff, beq_iff_eq, decide_eq_true_iff]
      exact ⟨fun h => by rw [<- vD' a, <- vD' b, h], fun h => by rw [h]⟩
section
variable {κ : Type} [DecidableEq κ]
theorem dV' {dk : M.D} {k : κ} : ∀ {kvs : List (κ × V)} {ks : List M.D}, Paired (fun p d => M.eqb d dk = decide (p.1 = k)) kvs ks -> valV kvs k = M.dget ks (kvs.map (·.2)) dk
  | _, _, .nil => rfl
  | p :: kvs, d :: ks, .cons h r => by
    have ih := dV' r
    unfold M.dget M.fH' at ih ⊢
    rw [List.findIdx?_cons, h]
    by_cases e : p.1 = k
    . rw [valV_pos e, decide_eq_true e]; rfl
    . rw [valV_neg e, decide_eq_false e, ih]
      cases ks.findIdx? fun d => M.eqb d dk <;> rfl
theorem cW' {dk : M.D} {k : κ} {v : V} : ∀ {kvs : List (κ × V)} {ks : List M.D}, Paired (fun p d => M.eqb d dk = decide (p.1 = k)) kvs ks -> (kvs.map (·.1)).Nodup →
    (∀ j, M.fH' ks dk = some j -> (putK kvs k v).map (·.1) = kvs.map (·.1) /\ (putK kvs k v).map (·.2) = (kvs.map (·.2)).set j v) /\ (M.fH' ks dk = none -> putK kvs k v = kvs ++ [(k, v)])
  | _, _, .nil, _ => ⟨fun j h => (nomatch (show (none : Option Nat) = some j from h)), fun _ => rfl⟩
  | p :: kvs, d :: ks, .cons h r, nd => by
    rw [List.map_cons, List.nodup_cons] at nd
    obtain ⟨i1, i2⟩ := cW' (v := v) r nd.2
    have hk : M.fH' (d :: ks) dk = if p.1 = k then some 0 else (M.fH' ks dk).map (· + 1) := by
      unfold M.fH'
      rw [List.findIdx?_cons, h]
      by_cases e : p.1 = k <;> simp [e]
    by_cases e : p.1 = k
    . rw [hk, if_pos e]
      refine ⟨fun j hj => ?_, fun hj => nomatch hj⟩
      cases hj
      have no : ∀ q ∈ kvs, ¬ q.1 = k := fun q hq z => nd.1 (by rw [e, <- z]; exact List.mem_map_of_mem hq)
      have same : kvs.map (fun kv => if kv.1 = k then (kv.1, v) else kv) = kvs := by
        conv => rhs; rw [<- List.map_id kvs]
        exact List.map_congr_left fun q hq => by rw [if_neg (no q hq)]; rfl
      have hp : putK (p :: kvs) k v = (p.1, v) :: kvs := by
        unfold putK
        rw [if_pos (by simp [e]), List.map_cons, if_pos e, same]
      rw [hp]
      exact ⟨rfl, rfl⟩
    . have hp : putK (p :: kvs) k v = p :: putK kvs k v := by
        unfold putK
        simp only [List.any_cons, decide_eq_false e, Bool.false_or, List.map_cons, if_neg e, List.cons_append]
        split <;> rfl
      rw [hk, if_neg e, hp]
      refine ⟨fun j hj => ?_, fun hj => ?_⟩
      . cases q : M.fH' ks dk with
        | none => rw [q] at hj; cases hj
        | some j' =>
          rw [q] at hj
          cases hj
          obtain ⟨a, b⟩ := i1 j' q
          simp only [List.map_cons, a, b, List.set_cons_succ, and_self]
      . cases q : M.fH' ks dk with
        | none => rw [i2 q]; rfl
        | some j' => rw [q] at hj; cases hj
end
theorem gg' {κ : Type} [DecidableEq κ] {g : M.D -> κ} {dk : M.D} {k : κ} : ∀ {kvs : List (κ × V)} {ks : List M.D}, kvs.map (·.1) = ks.map g -> (∀ d ∈ ks, M.eqb d dk = decide (g d = k)) -> Paired (fun p d => M.eqb d dk = decide (p.1 = k)) kvs ks
  | [], [], _, _ => .nil
  | [], _ :: _, e, _ => by cases e
  | _ :: _, [], e, _ => by cases e
  | p :: kvs, d :: ks, e, h => by
    simp only [List.map_cons, List.cons.injEq] at e
    exact .cons (by rw [h d (by simp), e.1]) (gg' e.2 fun d hd => h d (by simp [hd]))
abbrev xsV (xs : List (NestedKey × Addr × V)) : List (NestedKey × V) := xs.map fun x => (x.1, x.2.2)
def xl' (K : PySem.W.Frag) (H : Hp) (xs : List (NestedKey × Addr × V)) : Prop := ∀ x ∈ xs, NkV K H (.ref x.2.1) x.1 /\ x.1.depth <= 8
inductive DLk (K : PySem.W.Frag) (H : Hp) (a : Addr) : V -> Option V -> Prop
  | k {kvs : List (Key × V)} (k : Key) : Rd H a (.dK kvs) -> DLk K H a (kV k) (valV kvs k)
  | l {kvs : List (Leaf × V)} {y : V} {l : Leaf} : Rd H a (dcL a kvs) -> lfV y = some l -> DLk K H a y (valV kvs l)
  | n {xs : List (NestedKey × Addr × V)} {b : Addr} {k : NestedKey} : Rd H a (dcN a xs) -> xl' K H xs -> NkV K H (.ref b) k -> k.depth <= 8 -> DLk K H a (.ref b) (valV (xsV xs) k)
  | ln {b : Addr} {k : NestedKey} : Rd H a (dcL a []) -> NkV K H (.ref b) k -> k.depth <= 8 -> DLk K H a (.ref b) none
  | nl {y : V} {l : Leaf} : Rd H a (dcN a []) -> lfV y = some l -> DLk K H a y none
section
variable {X : Cx} {pins : List (Addr × Obj)} {σ : St} {H : Hp} {s : Shared} {a b : Addr} {y : V} {u : Value} {ov : Option V} {A : Around} {E : Value -> Shared -> Prop}
theorem sQ' {u : HO} (I : Inv X pins σ H s) (h : Rd H a u) : ObjOk X.prog X.w H s.heap a u := by
  rcases h with h | ⟨o, h⟩
  . exact I.hok a _ h
  . exact (show ObjOk X.prog X.w H s.heap a (.frz o u) from I.hok a _ h).2
theorem hR' (hw : X.prog = Wd.P /\ X.w = Wd.w) (I : Inv X pins σ H s) {kvs : List (Leaf × V)} (h : Rd H a (dcL a kvs)) : (a == sysModules) = false /\ kvs.length <= sizeLine /\ ∃ vs, KV kvs vs /\ s.heap.DictOf (leafKind X.prog X.w) a vs := by
  obtain ⟨⟨h1, h2, vs, h3, h4⟩, _⟩ := (show ObjOk X.prog X.w H s.heap a (dcL a kvs) from sQ' I h)
  refine ⟨h1, h2, vs, h3, ?_⟩
  rw [<- hw.1, <- hw.2] at h4
  exact h4
theorem gf' {xs : List (NestedKey × Addr × V)} {ys : List (NestedKey × Addr × Value)} (p : Paired oY' xs ys) : xs.map (·.1) = ys.map (·.1) := by
  induction p with
  | nil => rfl
  | cons h _ ih => rw [List.map_cons, List.map_cons, h.1, ih]
theorem u7' {xs : List (NestedKey × Addr × V)} {ys : List (NestedKey × Addr × Value)} (p : Paired oY' xs ys) (k : NestedKey) : RelO (valV (xsV xs) k) ((atKey ys k).map (·.2)) := by
  induction p with
  | nil => exact True.intro
  | @cons x y xs ys h r ih =>
    by_cases e : x.1 = k
    . have e' : y.1 = k := by rw [<- h.1]; exact e
      rw [show xsV (x :: xs) = (x.1, x.2.2) :: xsV xs from rfl, valV_pos (p := (x.1, x.2.2)) e]
      have : atKey (y :: ys) k = some y.2 := by simp [atKey, List.find?_cons, e']
      rw [this]
      exact h.2.2
    . have e' : ¬ y.1 = k := by rw [<- h.1]; exact e
      rw [show xsV (x :: xs) = (x.1, x.2.2) :: xsV xs from rfl, valV_neg (p := (x.1, x.2.2)) e]
      have : atKey (y :: ys) k = atKey ys k := by simp [atKey, List.find?_cons, e']
      rw [this]
      exact ih
theorem nR' (hw : X.prog = Wd.P /\ X.w = Wd.w) (I : Inv X pins σ H s) {xs : List (NestedKey × Addr × V)} (h : Rd H a (dcN a xs)) (ok : xl' X.K H xs) : (a == sysModules) = false /\ xs.length <= sizeLine /\ (xs.map (·.1)).Nodup ∧
    ∃ ys, Paired oY' xs ys /\ s.heap.DictOfH (nestedKind X.prog X.w) a ys := by
  obtain ⟨⟨h1, h2, h3, ys, h4, o, es, ep, g1, g2, g3, g4⟩, _⟩ := (show ObjOk X.prog X.w H s.heap a (dcN a xs) from sQ' I h)
  refine ⟨h1, h2, h3, ys, h4, o, es, ep, g1, g2, g3, ?_, ?_, ?_⟩
  . rw [<- hw.1, <- hw.2] at g4
    exact g4
  . have main : ∀ {xs : List (NestedKey × Addr × V)} {ys : List (NestedKey × Addr × Value)}, Paired oY' xs ys -> xl' X.K H xs -> ∀ y ∈ ys, (nestedKind X.prog X.w).is s.heap y.1 y.2.1 := by
      intro xs ys p ok
      induction p with
      | nil => exact fun _ z => nomatch z
      | @cons x y xs ys h r ih =>
        intro z hz
        rcases List.mem_cons.mp hz with rfl | hz
        . obtain ⟨q1, q2⟩ := ok x (by simp)
          rw [<- h.1, <- h.2.1]
          exact ⟨q1.is I rfl, q2⟩
        . exact ih (fun w hw => ok w (by simp [hw])) z hz
    exact main h4 ok
  . rw [<- gf' h4]; exact h3
theorem eO' (hw : X.prog = Wd.P /\ X.w = Wd.w) (I : Inv X pins σ H s) (h : Rd H a (dcL a [])) : (a == sysModules) = false /\ s.heap.DictOfH (nestedKind X.prog X.w) a [] := by
  obtain ⟨h1, _, vs, h3, o, es, ep, g1, g2, g3, _, g5, _⟩ := hR' hw I h
  cases h3
  obtain ⟨l⟩ := es
  have e : l = [] := by
    have g5 : PySem.Pairs (leafKind X.prog X.w) l [] := g5
    cases g5
    rfl
  exact ⟨h1, o, _, ep, g1, g2, g3, e, (fun _ z => nomatch z), List.nodup_nil⟩
theorem eL' (I : Inv X pins σ H s) (h : Rd H a (dcN a [])) : (a == sysModules) = false /\ s.heap.DictOf (leafKind X.prog X.w) a [] := by
  obtain ⟨⟨h1, _, _, ys, h4, o, es, ep, g1, g2, g3, g4⟩, _⟩ := (show ObjOk X.prog X.w H s.heap a (dcN a []) from sQ' I h)
  cases h4
  obtain ⟨l⟩ := es
  have e : l = [] := g4
  subst e
  exact ⟨h1, o, #[], ep, g1, g2, g3, (fun _ z => by simp at z), .nil, List.nodup_nil⟩
theorem wM' (hw : X.prog = Wd.P /\ X.w = Wd.w) (I : Inv X pins σ H s) (g : DLk X.K H a y ov) : s.TypeIs (.ref a) "dict" := by
  cases g with
  | k k e => obtain ⟨_, _, vs, _, dd⟩ := dk_rd I.hok e; exact dd.typeIs
  | l e _ => obtain ⟨_, _, vs, _, dd⟩ := hR' hw I e; exact dd.typeIs
  | n e ok _ _ => obtain ⟨_, _, _, ys, _, dd⟩ := nR' hw I e ok; exact dd.typeIs
  | ln e _ _ => exact (eO' hw I e).2.typeIs
  | nl e _ => exact (eL' I e).2.typeIs
theorem qx' {P : Program} {w : World} (hu : A.units + 64 < cLine) : (nestedKind P w).room A.in1 := by
  show A.units + 1 + 8 < cLine
  omega
theorem zt' {v : V} {Q : Value -> Shared -> Prop} (hw : X.prog = Wd.P /\ X.w = Wd.w) (hu : A.units + 64 < cLine) (I : Inv X pins σ H s) (g : DLk X.K H a y (some v)) (ry : RelV y u)
    (h : ∀ w' s', Inv X pins σ H s' -> RelV v w' -> Q w' s') : wpAny (model X.prog X.w) A (getItem (.ref a) u) Q E s := by
  generalize hov : some v = ov at g
  cases g with
  | k k e =>
    obtain ⟨_, _, vs, rel, dd⟩ := dk_rd I.hok e
    obtain ⟨w', q1, q2⟩ := RelO.some_of (v := v) (o := valueAt vs k) (by rw [hov]; exact rel.val k)
    exact wpAny_getItem_of (kV_is ry) dd.mapOf q1 (h w' _ (I.tok _) q2)
  | @l kvs _ l e hy =>
    obtain ⟨_, _, vs, rel, dd⟩ := hR' hw I e
    obtain ⟨w', q1, q2⟩ := RelO.some_of (v := v) (o := valueAt vs l) (by rw [hov]; exact rel.val l)
    exact wpAny_getItem_of (ri' hy ry) dd.mapOf q1 (h w' _ (I.tok _) q2)
  | @n xs b k e ok hk hd =>
    obtain ⟨_, _, _, ys, rel, dd⟩ := nR' hw I e ok
    cases (show u = Value.ref b from ry)
    obtain ⟨w', q1, q2⟩ := RelO.some_of (v := v) (o := (atKey ys k).map (·.2)) (by rw [hov]; exact u7' rel k)
    obtain ⟨p, hp, hp2⟩ := Option.map_eq_some_iff.mp q1
    refine wpAny_getItem_heap (qx' hu) ⟨hk.is I rfl, hd⟩ dd hp ?_
    rw [hp2]
    exact h w' _ (I.tok _) q2
  | ln _ _ _ => cases hov
  | nl _ _ => cases hov
theorem zs' {Q : Value -> Shared -> Prop} (hw : X.prog = Wd.P /\ X.w = Wd.w) (hu : A.units + 64 < cLine) (I : Inv X pins σ H s) (g : DLk X.K H a y ov) (ry : RelV y u)
    (h : ∀ s', Inv X pins σ H s' -> Q (.bool (!ov.isSome)) s') : wpAny (model X.prog X.w) A (compareOp .NotIn u (.ref a)) Q E s := by
  cases g with
  | k k e =>
    obtain ⟨_, hd, vs, rel, dd⟩ := dk_rd I.hok e
    refine wpAny_notIn_of (kV_is ry) hd dd.mapOf ?_
    rw [<- (rel.val k).isSome_eq]
    exact h _ (I.tok _)
  | @l kvs _ l e hy =>
    obtain ⟨hd, _, vs, rel, dd⟩ := hR' hw I e
    refine wpAny_notIn_of (ri' hy ry) hd dd.mapOf ?_
    rw [<- (rel.val l).isSome_eq]
    exact h _ (I.tok _)
  | @n xs b k e ok hk hdp =>
    obtain ⟨hd, _, _, ys, rel, dd⟩ := nR' hw I e ok
    cases (show u = Value.ref b from ry)
    refine wpAny_notIn_heap (qx' hu) ⟨hk.is I rfl, hdp⟩ hd dd ?_
    have q := (u7' rel k).isSome_eq
    rw [Option.isSome_map] at q
    rw [<- q]
    exact h _ (I.tok _)
  | @ln b k e hk hdp =>
    obtain ⟨hd, dd⟩ := eO' hw I e
    cases (show u = Value.ref b from ry)
    exact wpAny_notIn_heap (qx' hu) ⟨hk.is I rfl, hdp⟩ hd dd (h _ (I.tok _))
  | @nl _ l e hy =>
    obtain ⟨hd, dd⟩ := eL' I e
    exact wpAny_notIn_of (ri' hy ry) hd dd.mapOf (h _ (I.tok _))
def kB' (xs : List (NestedKey × Addr × V)) (k : NestedKey) (b : Addr) (v : V) : List (NestedKey × Addr × V) :=
  if (xs.any fun x => decide (x.1 = k)) = true then xs.map (fun x => if x.1 = k then (x.1, x.2.1, v) else x) else xs ++ [(k, b, v)]
theorem nf' (xs : List (NestedKey × Addr × V)) (k : NestedKey) (b : Addr) (v : V) : xsV (kB' xs k b v) = putK (xsV xs) k v := by
  have e : ((xsV xs).any fun kv => decide (kv.1 = k)) = xs.any fun x => decide (x.1 = k) := by rw [xsV, List.any_map]; rfl
  unfold kB' putK
  rw [e]
  split
  . rw [xsV, xsV, List.map_map, List.map_map]
    refine List.map_congr_left fun x _ => ?_
    by_cases h : x.1 = k <;> simp [h]
  . simp [xsV]
theorem qO' {xs : List (NestedKey × Addr × V)} {k : NestedKey} {b : Addr} {v : V} (h : (xs.any fun x => decide (x.1 = k)) = true) : (kB' xs k b v).map (fun x => V.ref x.2.1) = xs.map fun x => V.ref x.2.1 := by
  unfold kB'
  rw [if_pos h, List.map_map]
  refine List.map_congr_left fun x _ => ?_
  by_cases h : x.1 = k <;> simp [h]
theorem jv' (k : NestedKey) {v : V} {r : Value} (rv : RelV v r) : ∀ {xs : List (NestedKey × Addr × V)} {ys : List (NestedKey × Addr × Value)}, Paired oY' xs ys -> Paired oY' (xs.map fun x => if x.1 = k then (x.1, x.2.1, v) else x) (ys.map (putAt k r))
  | _, _, .nil => .nil
  | x :: _, y :: _, .cons h p => by
    refine .cons ?_ (jv' k rv p)
    unfold putAt
    by_cases e : x.1 = k
    . simp only [if_pos e, if_pos (show y.1 = k from h.1 ▸ e)]
      exact ⟨h.1, h.2.1, rv⟩
    . simp only [if_neg e, if_neg (show ¬ y.1 = k from h.1 ▸ e)]
      exact h
theorem m8' (k : NestedKey) (b : Addr) {v : V} {r : Value} (rv : RelV v r) : ∀ {xs : List (NestedKey × Addr × V)} {ys : List (NestedKey × Addr × Value)}, Paired oY' xs ys -> Paired oY' (xs ++ [(k, b, v)]) (ys ++ [(k, b, r)])
  | _, _, .nil => .cons ⟨rfl, rfl, rv⟩ .nil
  | _, _, .cons h p => .cons h (m8' k b rv p)
theorem ng' {xs : List (NestedKey × Addr × V)} {ys : List (NestedKey × Addr × Value)} (p : Paired oY' xs ys) (k : NestedKey) (b : Addr) {v : V} {r : Value} (rv : RelV v r) : Paired oY' (kB' xs k b v) (storedH ys k b r) := by
  have ea : (xs.any fun x => decide (x.1 = k)) = (atKey ys k).isSome := by
    have q := (u7' p k).isSome_eq
    rw [Option.isSome_map] at q
    rw [<- q, <- valV_any, xsV, List.any_map]
    rfl
  unfold kB' storedH
  rw [ea]
  split
  . exact jv' k rv p
  . exact m8' k b rv p
inductive DSt (K : PySem.W.Frag) (H : Hp) (a : Addr) (y v : V) (N : Hp -> Prop) : Prop
  | k {kvs : List (Key × V)} (k : Key) : H a = some (.dK kvs) -> y = kV k -> ((kvs.map (·.1)).Nodup -> (kvs.length <= sizeLine -> (putK kvs k v).length <= sizeLine) /\ N (upd H a (.dK (putK kvs k v)))) -> DSt K H a y v N
  | l {kvs : List (Leaf × V)} {l : Leaf} : H a = some (dcL a kvs) -> lfV y = some l -> ((kvs.map (·.1)).Nodup -> (kvs.length <= sizeLine -> (putK kvs l v).length <= sizeLine) /\ N (upd H a (dcL a (putK kvs l v)))) -> DSt K H a y v N
  | n {xs : List (NestedKey × Addr × V)} {b : Addr} {k : NestedKey} : H a = some (dcN a xs) -> xl' K H xs -> y = .ref b -> NkV K H (.ref b) k -> k.depth <= 8 -> ((xs.map (·.1)).Nodup -> (xs.length <= sizeLine -> (kB' xs k b v).length <= sizeLine) /\ N (upd H a (dcN a (kB' xs k b v)))) -> DSt K H a y v N
  | ln {b : Addr} {k : NestedKey} : H a = some (dcL a []) -> y = .ref b -> NkV K H (.ref b) k -> k.depth <= 8 -> N (upd H a (dcN a [(k, b, v)])) -> DSt K H a y v N
  | nl {l : Leaf} : H a = some (dcN a []) -> lfV y = some l -> N (upd H a (dcL a [(l, v)])) -> DSt K H a y v N
theorem lk' {P : Program} {H' : Hp} {h' : Heap} {kvs : List (Leaf × V)} {vs : List (Leaf × Value)} (z : kvs.length <= sizeLine) (hd : (a == sysModules) = false) (rel : KV kvs vs) (dd : h'.DictOf (leafKind Wd.P Wd.w) a vs) :
    ObjOk P Wd.w H' h' a (dcL a kvs) := by
  obtain ⟨o, es, ep, g⟩ := id dd
  refine ⟨⟨hd, z, vs, rel, dd⟩, ⟨o, g.1⟩, ?_⟩
  rintro h1 h2 ⟨a1, a2, vs', a3, o', es', ep', g1, g2⟩ k
  exact ⟨a1, a2, vs', a3, o', es', ep', k _ g1, g2⟩
theorem lj' {P : Program} {H' : Hp} {h' : Heap} {xs : List (NestedKey × Addr × V)} {ys : List (NestedKey × Addr × Value)} (z : xs.length <= sizeLine) (hd : (a == sysModules) = false) (rel : Paired oY' xs ys) (dd : h'.DictOfH (nestedKind Wd.P Wd.w) a ys) :
    ObjOk P Wd.w H' h' a (dcN a xs) := by
  obtain ⟨o, es, ep, g1, g2, g3, g4, g5, g6⟩ := dd
  refine ⟨⟨hd, z, by rw [gf' rel]; exact g6, ys, rel, o, es, ep, g1, g2, g3, g4⟩, ⟨o, g1⟩, ?_⟩
  rintro h1 h2 ⟨a1, a2, a3, ys', a4, o', es', ep', g1, g2⟩ k
  exact ⟨a1, a2, a3, ys', a4, o', es', ep', k _ g1, g2⟩
theorem zr' {v : V} {r : Value} {N : Hp -> Prop} {Q : Unit -> Shared -> Prop} (hw : X.prog = Wd.P /\ X.w = Wd.w) (hu : A.units + 64 < cLine) (I : Inv X pins σ H s) (g : DSt X.K H a y v N) (ry : RelV y u) (rv : RelV v r)
    (h : ∀ H' s', Inv X pins σ H' s' -> N H' -> Q () s') : wpAny (model X.prog X.w) A (setItem (.ref a) u r) Q E s := by
  cases g with
  | @k kvs k e ey n =>
    subst ey
    obtain ⟨z, hd, vs, rel, dd⟩ := dk_of I.hok e
    have hz : vs.length <= sizeLine := by rw [<- rel.length]; exact z
    have nd : (kvs.map (·.1)).Nodup := by
      rw [rel.keys]
      obtain ⟨_, _, _, _, _, _, _, _, nd⟩ := id dd
      exact nd
    obtain ⟨n1, n2⟩ := n nd
    exact wpAny_setItem_pairs (hsz := hz) (kV_is ry) dd fun h' dd' hs => h _ _ (d_write I (by rw [e]; exact True.intro) hs (let ⟨q, _, _, hq, _⟩ := dd'; ⟨q, hq⟩) (dk_new (n1 z) hd (rel.put k rv) dd')) n2
  | @l kvs l e hy n =>
    obtain ⟨hd, z, vs, rel, dd⟩ := hR' hw I (.inl e)
    have hz : vs.length <= sizeLine := by rw [<- rel.length]; exact z
    have nd : (kvs.map (·.1)).Nodup := by
      rw [rel.keys]
      obtain ⟨_, _, _, _, _, _, _, _, nd⟩ := id dd
      exact nd
    obtain ⟨n1, n2⟩ := n nd
    refine wpAny_setItem_pairs (hsz := hz) (ri' hy ry) dd fun h' dd' hs => h _ _ (d_write I (by rw [e]; exact True.intro) hs (let ⟨q, _, _, hq, _⟩ := dd'; ⟨q, hq⟩) ?_) n2
    rw [hw.1, hw.2] at dd'
    rw [hw.2]
    exact lk' (n1 z) hd (rel.put l rv) dd'
  | @n xs b k e ok ey hk hdp n =>
    subst ey
    cases (show u = Value.ref b from ry)
    obtain ⟨hd, z, nd, ys, rel, dd⟩ := nR' hw I (.inl e) ok
    have hz : ys.length <= sizeLine := by rw [<- Paired.length rel]; exact z
    obtain ⟨n1, n2⟩ := n nd
    refine wpAny_setItem_heap (hsz := hz) (qx' hu) ⟨hk.is I rfl, hdp⟩ dd fun h' dd' hs => h _ _ (d_write I (by rw [e]; exact True.intro) hs (let ⟨q, _, _, hq, _⟩ := dd'; ⟨q, hq⟩) ?_) n2
    rw [hw.1, hw.2] at dd'
    rw [hw.2]
    exact lj' (n1 z) hd (ng' rel k b rv) dd'
  | @ln b k e ey hk hdp n =>
    subst ey
    cases (show u = Value.ref b from ry)
    obtain ⟨hd, dd⟩ := eO' hw I (.inl e)
    refine wpAny_setItem_heap (hsz := Nat.zero_le _) (qx' hu) ⟨hk.is I rfl, hdp⟩ dd fun h' dd' hs => h _ _ (d_write I (by rw [e]; exact True.intro) hs (let ⟨q, _, _, hq, _⟩ := dd'; ⟨q, hq⟩) ?_) n
    rw [hw.1, hw.2] at dd'
    rw [hw.2]
    exact lj' (by rw [sizeLine_eq]; show 1 <= 16777216; decide) hd (ng' .nil k b rv) dd'
  | @nl l e hy n =>
    obtain ⟨hd, dd⟩ := eL' I (.inl e)
    refine wpAny_setItem_pairs (hsz := Nat.zero_le _) (ri' hy ry) dd fun h' dd' hs => h _ _ (d_write I (by rw [e]; exact True.intro) hs (let ⟨q, _, _, hq, _⟩ := dd'; ⟨q, hq⟩) ?_) n
    rw [hw.1, hw.2] at dd'
    rw [hw.2]
    exact lk' (by rw [sizeLine_eq]; show 1 <= 16777216; decide) hd (KV.put (kvs := []) .nil l rv) dd'
def vY' (K : PySem.W.Frag) : List V -> Hp -> VK -> Prop := fun xs H Q => yt' K xs H Q \/ (∃ a kvs, xs = [V.ref a] /\ Rd H a (dcL a kvs) /\ Q (.int kvs.length) H) \/ ∃ a ys, xs = [V.ref a] /\ Rd H a (dcN a ys) /\ Q (.int ys.length) H
theorem aF' (hw : X.prog = Wd.P /\ X.w = Wd.w) : CallR X (.builtin "len") (vY' X.K) := by
  intro pins s σ H vs us Q I r h
  rcases h with h | ⟨a, kvs, rfl, e, q⟩ | ⟨a, xs, rfl, e, q⟩
  . exact rR' pins s σ H vs us Q I r h
  . cases r with
    | cons ra rn =>
      cases rn
      cases (show _ = Value.ref a from ra)
      obtain ⟨hd, z, ws, rel, dd⟩ := hR' hw I e
      refine call_len_dict hd dd (by rw [<- rel.length]; rw [sizeLine_eq] at z; omega) ?_
      rw [<- rel.length]
      exact ⟨.int kvs.length, H, I.tok _, ⟨_, rfl⟩, q⟩
  . cases r with
    | cons ra rn =>
      cases rn
      cases (show _ = Value.ref a from ra)
      obtain ⟨⟨hd, z, _, ys, rel, o, es, ep, g1, g2, g3, g4⟩, _⟩ := (show ObjOk X.prog X.w H s.heap a (dcN a xs) from sQ' I e)
      have hl : es.size = xs.length := by
        have := congrArg List.length g4
        rw [List.length_map, <- Paired.length rel, Array.length_toList] at this
        exact this
      refine PyProof.Rows.call_len_slot (n := es.size) (show s.TypeIs (.ref a) "dict" from ⟨o, g1, g2.1⟩) PySem.F.slot_dict_len (fun Q' hq => call_len_raw hd ⟨o, g1, g2, g3⟩ hq) (by omega) (by rw [sizeLine_eq] at z; omega) ?_
      rw [hl]
      exact ⟨.int xs.length, H, I.tok _, ⟨_, rfl⟩, q⟩
end
end S
namespace S
open PySem PySem.Spec PyProof.Rows L2
variable [Wd] [Hot]
section
variable (K : PySem.W.Frag)
def Bi1 (f : M.D -> Option M.D) (r : List V -> Hp -> VK -> Prop) : Prop := ∀ {F H : Hp} {T : List Addr} {fp : Fp} {x : V} {dx dz : M.D} {Q : VK}, FpH F H fp -> Fz K F T x dx -> f dx = some dz -> eV' K F T fp dz Q -> r [x] H Q
def Bi2 (f : M.D -> M.D -> Option M.D) (r : List V -> Hp -> VK -> Prop) : Prop := ∀ {F H : Hp} {T : List Addr} {fp : Fp} {x y : V} {dx dy dz : M.D} {Q : VK}, FpH F H fp -> Fz K F T x dx -> Fz K F T y dy -> f dx dy = some dz -> eV' K F T fp dz Q -> r [x, y] H Q
end
section
variable {X : Cx} {W : WX} {K : PySem.W.Frag} {pos p : Pos} {x : Str} {id : String} {a b : Expr} {ma mb : M.ME} {σ : St} {H : Hp} {Q : VK} {r : List V -> Hp -> VK -> Prop}
theorem r1' {f : M.D -> Option M.D} (hf : Bi1 K f r) (h : qE K W (M.eUn f ma) σ H Q) : tCB r (tCons (qE K W ma) tNil) σ H Q := by
  obtain ⟨ρ, F, T, fr, rel, h⟩ := h
  refine aB' rel h fun dx ρ1 v H1 F1 T1 e1 z1 r1 h1 => ?_
  obtain ⟨dz, ez, q⟩ := aG'.ofO h1
  obtain ⟨fp, f2, back⟩ := r1.fp
  exact hf f2 z1 ez fun v' H3 F3 s zz f3 => q v' H3 F3 T1 (e1.trans (.of s)) zz (back H3 F3 s f3)
theorem xi' {f : M.D -> M.D -> Option M.D} (hf : Bi2 K f r) (h : qE K W (M.eOp f ma mb) σ H Q) : tCB r (tCons (qE K W ma) (tCons (qE K W mb) tNil)) σ H Q := by
  obtain ⟨ρ, F, T, fr, rel, h⟩ := h
  refine aB' rel h fun dx ρ1 v H1 F1 T1 e1 z1 r1 h1 => ?_
  refine aB' r1 h1 fun dy ρ2 u H2 F2 T2 e2 z2 r2 h2 => ?_
  obtain ⟨dz, ez, q⟩ := aG'.ofO h2
  obtain ⟨fp, f2, back⟩ := r2.fp
  exact hf f2 (z1.mono e2) z2 ez fun v' H3 F3 s zz f3 => q v' H3 F3 T2 (e1.trans (e2.trans (.of s))) zz (back H3 F3 s f3)
theorem bR' {f : M.D -> Option M.D} (hc : CallR X (.builtin id) r) (hf : Bi1 X.K f r) (hg : Gl X x) (hm : X.mg x = none) (hv : bootBuiltins x = some (.builtin id)) (ha : SE X W a ma) (hn : x ≠ "__name__" := by decide) (hdb : (x == ("__debug__" : Str)) = false := by decide)
    (he : starEach [a] X.env = (false, eval a X.env) :: starEach [] X.env := by rfl) (hpl : (backTo pos (starEach [] X.env)).any (·.1) = false := by rfl) : SE X W (.Call (.Name x p) [a] [] pos) (M.eUn f ma) := PE.imp (pe_callB hc hg hm hv (pa_cons ha pa_nil he) hn hdb he hpl) fun _ _ _ => r1' hf
theorem cf' {f : M.D -> Option M.D} (hc : CallR X (.type id) r) (hf : Bi1 X.K f r) (hg : Gl X x) (hm : X.mg x = none) (hv : bootBuiltins x = some (.type id)) (ha : SE X W a ma) (hn : x ≠ "__name__" := by decide) (hdb : (x == ("__debug__" : Str)) = false := by decide)
    (he : starEach [a] X.env = (false, eval a X.env) :: starEach [] X.env := by rfl) (hpl : (backTo pos (starEach [] X.env)).any (·.1) = false := by rfl) : SE X W (.Call (.Name x p) [a] [] pos) (M.eUn f ma) := PE.imp (pe_callTy hc hg hm hv (pa_cons ha pa_nil he) hn hdb he hpl) fun _ _ _ => r1' hf
theorem qp' {f : M.D -> M.D -> Option M.D} (hc : CallR X (.builtin id) r) (hf : Bi2 X.K f r) (hg : Gl X x) (hm : X.mg x = none) (hv : bootBuiltins x = some (.builtin id)) (ha : SE X W a ma) (hb : SE X W b mb) (hn : x ≠ "__name__" := by decide) (hdb : (x == ("__debug__" : Str)) = false := by decide)
    (he : starEach [a, b] X.env = (false, eval a X.env) :: starEach [b] X.env := by rfl) (he2 : starEach [b] X.env = (false, eval b X.env) :: starEach [] X.env := by rfl) (hpl : (backTo pos (starEach [b] X.env)).any (·.1) = false := by rfl) : SE X W (.Call (.Name x p) [a, b] [] pos) (M.eOp f ma mb) := PE.imp (pe_callB hc hg hm hv (pa_cons ha (pa_cons hb pa_nil he2) he) hn hdb he hpl) fun _ _ _ => xi' hf
theorem e0' {F H : Hp} {a : Addr} {u : HO} (s : Same F H) (h : Rd F a u) : Rd H a u := h.imp (s _ _) fun ⟨o, h⟩ => ⟨o, s _ _ h⟩
theorem cJ' : Bi1 K M.dH' (vY' K) := by
  intro F H T fp x dx dz Q f hx h k
  by_cases hX : ∃ ks vs, dx = .dcx ks vs
  . obtain ⟨ks, vs, rfl⟩ := hX
    cases h
    cases hx with
    | @dcl a kvs _ _ e ke z =>
      have q : kvs.length = ks.length := by have := congrArg List.length ke.e; simpa using this
      refine .inr (.inl ⟨_, _, rfl, e.imp (f.low _ _) fun ⟨o, h⟩ => ⟨o, f.low _ _ h⟩, ?_⟩)
      rw [q]
      exact k.here f (.int _)
    | @dcn a xs _ _ e ke z1 z2 =>
      have q : xs.length = ks.length := by have := congrArg List.length ke.e; simpa using this
      refine .inr (.inr ⟨_, _, rfl, e.imp (f.low _ _) fun ⟨o, h⟩ => ⟨o, f.low _ _ h⟩, ?_⟩)
      rw [q]
      exact k.here f (.int _)
  refine .inl ?_
  cases dx <;> try (cases h; done)
  . obtain ⟨rfl, o1⟩ := hx.str_inv
    cases h
    refine .inl ⟨_, rfl, o1.len, ?_⟩
    rw [ca']
    exact k.here f (.int _)
  . obtain ⟨a, vs, rfl, ha, za⟩ := hx.tup_inv
    cases h
    refine .inr (.inl ⟨a, vs, rfl, .inr (seqT f.low ha), ?_⟩)
    rw [za.length]
    exact k.here f (.int _)
  . obtain ⟨a, vs, rfl, ha, za⟩ := hx.lst_inv
    cases h
    refine .inr (.inl ⟨a, vs, rfl, .inl (SqL.of (f.low _ _ ha)), ?_⟩)
    rw [za.length]
    exact k.here f (.int _)
  . cases hx with
    | dct ha _ za =>
      cases h
      refine .inr (.inr ⟨_, _, rfl, e0' f.low ha, ?_⟩)
      refine k.here f ?_
      rw [List.length_map]
      exact .int _
  . exact absurd ⟨_, _, rfl⟩ hX
theorem kn' {F : Hp} {T : List Addr} : ∀ {vs : List V} {ds : List M.D} {bs : List Bool}, FzA K F T vs ds -> M.bools ds = some bs -> vs = bs.map V.bl
  | _, _, bs, .nil, h => by cases h; rfl
  | _, d :: ds, bs, .cons a r, h => by
    cases d <;> try (cases h; done)
    rename_i b
    cases q : M.bools ds with
    | none => simp only [M.bools, q] at h; cases h
    | some cs =>
      simp only [M.bools, q, Option.map_some] at h
      cases h
      rw [a.bl_inv, kn' r q]
      rfl
theorem Ad' : Bi1 K M.v8' (rAll K) := by
  intro F H T fp x dx dz Q f hx h k
  cases dx <;> try (cases h; done)
  obtain ⟨a, vs, rfl, ha, za⟩ := hx.lst_inv
  rename_i ds
  cases q : M.bools ds with
  | none => simp only [M.v8', q] at h; cases h
  | some bs =>
    simp only [M.v8', q, Option.map_some] at h
    cases h
    exact ⟨a, bs, rfl, by rw [<- kn' za q]; exact SqL.of (f.low _ _ ha), k.here f (.bl _)⟩
theorem eU' : Bi1 K M.iL' yv' := by
  intro F H T fp x dx dz Q f hx h k
  cases dx <;> try (cases h; done)
  . cases hx; cases h
    exact .inr ⟨_, rfl, k.here f (.int _)⟩
  . cases hx; cases h
    exact .inl ⟨_, rfl, k.here f (.int _)⟩
theorem Cz' : Bi1 K M.Ay' yx' := by
  intro F H T fp x dx dz Q f hx h k
  cases dx <;> try (cases h; done)
  cases hx; cases h
  exact ⟨_, rfl, k.here f (.int _)⟩
theorem u2' : Bi2 K M.qS' yq' := by
  intro F H T fp x y dx dy dz Q f hx hy h k
  cases dx <;> cases dy <;> try (cases h; done)
  cases hx; cases hy; cases h
  exact ⟨_, _, rfl, k.here f (.int _)⟩
theorem rT' : Bi2 K M.or' yp' := by
  intro F H T fp x y dx dy dz Q f hx hy h k
  cases dx <;> cases dy <;> try (cases h; done)
  cases hx; cases hy; cases h
  exact ⟨_, _, rfl, k.here f (.int _)⟩
theorem sG' {s : M.Tx} : signs (sx s) = s.map chv := by
  unfold signs
  show (s.toArray.toList.map fun c => V.str ⟨#[c]⟩) = _
  simp
  intro a _
  rfl
theorem FzA.signs {K : PySem.W.Frag} {F : Hp} {T : List Addr} {s : M.Tx} (o : okT s) : FzA K F T (S.signs (sx s)) (s.map M.chD) := by
  rw [sG']
  exact FzA.chars o.1
theorem cv' : Bi1 K M.cb' (qE' K) := by
  intro F H T fp x dx dz Q f hx h k
  cases dx <;> try (cases h; done)
  . obtain ⟨rfl, o⟩ := hx.str_inv
    cases h
    exact .inr ⟨_, rfl, o.len, fun l hl => k.newT f (FzA.signs o) hl⟩
  . obtain ⟨a, vs, rfl, ha, za⟩ := hx.tup_inv
    cases h
    exact .inl ⟨a, vs, rfl, .inr ⟨seqT f.low ha, k.here f (.tup ha za)⟩⟩
  . obtain ⟨a, vs, rfl, ha, za⟩ := hx.lst_inv
    cases h
    exact .inl ⟨a, vs, rfl, .inl ⟨SqL.of (f.low _ _ ha), fun l hl => k.newT f za hl⟩⟩
theorem x0' {F H : Hp} {T : List Addr} {v : V} {d : M.D} {n : String} (s : Same F H) (h : Fz K F T v d) (e : M.tyn d = some n) : TyX K H v (.type n) := by
  cases h with
  | non => cases e; exact .base .non
  | bl b => cases e; exact .base (.bl b)
  | int i => cases e; exact .base (.int i)
  | str z => cases e; exact .base (.str _)
  | lst h1 _ => cases e; exact tyL (SqL.of (s _ _ h1))
  | tup h1 _ => cases e; exact tyT (seqT s h1)
  | dct h1 _ _ =>
    cases e
    rcases h1 with h1 | ⟨o, h1⟩
    . exact .base (.dK (s _ _ h1))
    . exact .fDict (s _ _ h1)
  | dcl _ _ _ => cases e
  | dcn _ _ _ _ => cases e
  | rep _ => cases e
  | obj _ => cases e
  | ty _ => cases e
  | fn _ => cases e
  | scr _ _ => cases e
theorem wt' : ∀ n ∈ ["NoneType", "bool", "int", "str", "tuple", "list", "dict"], ∀ t ∈ ["bool", "int", "str", "tuple", "list", "dict"], kitB n t = some (n == t || (n == "bool" && t == "int")) := by decide +kernel
theorem vz' {d : M.D} {n : String} (e : M.tyn d = some n) : n ∈ ["NoneType", "bool", "int", "str", "tuple", "list", "dict"] := by
  cases d <;> first | (cases e; done) | (cases e; decide)
def iI' (K : PySem.W.Frag) (J : It) (ds : List M.D) (F : Hp) (T : List Addr) : Prop := ∀ F' T' H' fp i, Ext F T F' T' -> FpH F' H' fp -> i <= ds.length →
  (i = ds.length -> J.stop i H') /\ ∀ d, ds[i]? = some d -> J.go i H' /\ ∀ x H2, J.yld i H' x H2 -> ∃ F2, Same F' F2 /\ Fz K F2 T' x d /\ FpH F2 H2 fp
theorem iI'.mono {J : It} {ds : List M.D} {F F' : Hp} {T T' : List Addr} (h : iI' K J ds F T) (e : Ext F T F' T') : iI' K J ds F' T' := fun F2 T2 H2 fp i e2 => h F2 T2 H2 fp i (e.trans e2)
def qI (K : PySem.W.Frag) (W : WX) (m : M.MI) : TI := fun σ H R => ∃ ρ F T fr, Rel K ρ σ H F T fr ∧
  aG' (m ρ) (fun ds ρ' => ∀ J H' F' T', Ext F T F' T' -> iI' K J ds F' T' -> Rel K ρ' σ H' F' T' fr -> R J H') (EX K W σ F T fr)
abbrev SI (X : Cx) (W : WX) (tg e : Expr) (m : M.MI) : Prop := PI X tg e (qI X.K W m)
theorem PI.imp {tg e : Expr} {t t' : TI} (h : PI X tg e t) (i : ∀ σ H Q, t' σ H Q -> t σ H Q) : PI X tg e t' := ⟨fun pins s σ H Q I q => h.run pins s σ H Q I (i σ H Q q)⟩
theorem wz' {a : Addr} {vs : List V} {ds : List M.D} {F : Hp} {T : List Addr} (ha : F a = some (.lst vs)) (z : FzA K F T vs ds) : iI' K (Itl K a) ds F T := fun F' T' H' fp i e f hi => by
  have h' : SqL K H' a vs := SqL.of (f.low _ _ (e.f.lst ha))
  refine ⟨fun q => ⟨vs, h', by rw [z.length]; omega⟩, fun d hd => ?_⟩
  obtain ⟨v, h1, h2⟩ := z.get hd
  refine ⟨⟨vs, v, h', h1⟩, fun x H2 y => ?_⟩
  obtain ⟨rfl, y⟩ := y
  have := y vs h'
  rw [h1] at this
  cases this
  exact ⟨F', fun _ _ e => e, h2.mono e, f⟩
theorem y2' {a : Addr} {vs : List V} {ds : List M.D} {F : Hp} {T : List Addr} (ha : SqT K F a vs) (z : FzA K F T vs ds) : iI' K (Itt K a) ds F T := fun F' T' H' fp i e f hi => by
  have h' : SqT K H' a vs := seqT f.low (e.f.seqT ha)
  refine ⟨fun q => ⟨vs, h', by rw [z.length]; omega⟩, fun d hd => ?_⟩
  obtain ⟨v, h1, h2⟩ := z.get hd
  refine ⟨⟨vs, v, h', h1⟩, fun x H2 y => ?_⟩
  obtain ⟨rfl, y⟩ := y
  have := y vs h'
  rw [h1] at this
  cases this
  exact ⟨F', fun _ _ e => e, h2.mono e, f⟩
theorem x3' (s : M.Tx) (i : Nat) : (sx s).cps[i]? = s[i]? := by simp [sx]
theorem y3' {s : M.Tx} {F : Hp} {T : List Addr} (o : okT s) : iI' K (Its (sx s)) (s.map M.chD) F T := fun F' T' H' fp i e f hi => by
  have el : (sx s).cps.size = s.length := ca' s
  rw [List.length_map] at hi ⊢
  refine ⟨fun q => by show (sx s).cps.size <= i; omega, fun d hd => ?_⟩
  rw [List.getElem?_map] at hd
  cases q : s[i]? with
  | none => rw [q] at hd; cases hd
  | some c =>
    rw [q] at hd
    cases hd
    refine ⟨by show i < (sx s).cps.size; have := (List.getElem?_eq_some_iff.mp q).1; omega, fun x H2 y => ?_⟩
    obtain ⟨rfl, c', h1, rfl⟩ := y
    rw [x3', q] at h1
    cases h1
    exact ⟨F', fun _ _ e => e, lh' (o.1 c (List.mem_of_getElem? q)), f⟩
theorem y4' {lo : Int} {n : Nat} {F : Hp} {T : List Addr} : iI' K (Itr lo n) (M.rgI lo n) F T := fun F' T' H' fp i e f hi => by
  unfold M.rgI at hi ⊢
  rw [List.length_map, List.length_range] at hi ⊢
  refine ⟨fun q => by show n <= i; omega, fun d hd => ?_⟩
  rw [List.getElem?_map] at hd
  by_cases h : i < n
  . rw [List.getElem?_range h] at hd
    cases hd
    refine ⟨h, fun x H2 y => ?_⟩
    obtain ⟨rfl, rfl⟩ := y
    exact ⟨F', fun _ _ e => e, .int _, f⟩
  . rw [List.getElem?_eq_none (by rw [List.length_range]; omega)] at hd
    cases hd
theorem yB' {tg e : Expr} {te : TE} (h : PE X e te) : PI X tg e (fun σ H R => iStr te σ H R \/ iList X.K te σ H R \/ iTup X.K te σ H R) := sX' (pi_str h) (sX' (pi_list h) (pi_tup h))
theorem v0' {m : M.ME} {ρ ρ1 : M.PSt} {F : Hp} {T : List Addr} {fr : Fp} {d : M.D} (rel : Rel K ρ σ H F T fr) (em : m ρ = .ok d ρ1) (h : ∀ v H' F' T', Ext F T F' T' -> Fz K F' T' v d -> Rel K ρ1 σ H' F' T' fr -> Q v H') : qE K W m σ H Q :=
  ⟨ρ, F, T, fr, rel, by rw [em]; exact h⟩
theorem bC' {tg : Expr} (h : SE X W a ma) : SI X W tg a (M.eQ' ma) := PI.imp (yB' h) fun σ H R ⟨ρ, F, T, fr, rel, q⟩ => by
  have q2 := aG'.bind q
  cases em : ma ρ with
  | bad => rw [em] at q2; exact q2.elim
  | exc x ρ1 =>
    rw [em] at q2
    exact .inl ⟨ρ, F, T, fr, rel, by rw [em]; exact q2⟩
  | ok d ρ1 =>
    rw [em] at q2
    obtain ⟨ds, e1, q3⟩ := aG'.ofO (show aG' _ _ _ from q2)
    cases d <;> try (cases e1; done)
    . cases e1
      refine .inl (v0' rel em fun v H' F' T' e z r => ?_)
      obtain ⟨rfl, o⟩ := z.str_inv
      exact ⟨_, rfl, q3 _ _ _ _ e (y3' o) r⟩
    . cases e1
      refine .inr (.inr (v0' rel em fun v H' F' T' e z r => ?_))
      obtain ⟨p, vs, rfl, ha, za⟩ := z.tup_inv
      obtain ⟨fp, f, _⟩ := r.fp
      exact ⟨p, rfl, ⟨vs, seqT f.low ha⟩, q3 _ _ _ _ e (y2' ha za) r⟩
    . cases e1
      refine .inr (.inl (v0' rel em fun v H' F' T' e z r => ?_))
      obtain ⟨p, vs, rfl, ha, za⟩ := z.lst_inv
      obtain ⟨fp, f, _⟩ := r.fp
      exact ⟨p, rfl, ⟨vs, SqL.of (f.low _ _ ha)⟩, q3 _ _ _ _ e (wz' ha za) r⟩
theorem CB' {i : Int} (h : M.se' i = true) : -(2 ^ 62) <= i /\ i < 2 ^ 62 := by
  unfold M.se' at h
  simpa [Bool.and_eq_true] using h
theorem bD' {tg : Expr} (hg : Gl X "range") (hm : X.mg "range" = none) (ha : SE X W a ma) (hs : starEach [a] X.env = [(false, eval a X.env)] := by rfl) : SI X W tg (.Call (.Name "range" p) [a] [] pos) (M.bN' ma) :=
  PI.imp (pi_range1 hg hm (pa_cons ha pa_nil hs) hs) fun σ H R ⟨ρ, F, T, fr, rel, q⟩ => by
    refine aB' rel q fun dx ρ1 v H1 F1 T1 e1 z1 r1 h1 => ?_
    obtain ⟨ds, e2, q2⟩ := aG'.ofO h1
    unfold M.eJ' at e2
    split at e2
    . split at e2
      . rename_i hb
        cases e2
        cases z1
        obtain ⟨b1, b2⟩ := CB' hb
        exact ⟨_, rfl, b1, b2, q2 _ _ _ _ e1 y4' r1⟩
      . cases e2
    . cases e2
theorem lS' : ∀ (a b : List M.D), (M.db' a b).length = min a.length b.length
  | [], _ => by simp [M.db']
  | _ :: _, [] => by simp [M.db']
  | x :: a, y :: b => by
    show (M.db' a b).length + 1 = _
    rw [lS' a b]
    simp only [List.length_cons]
    omega
theorem lT' : ∀ (a b : List M.D) (i : Nat) (d : M.D), (M.db' a b)[i]? = some d -> ∃ x y, a[i]? = some x /\ b[i]? = some y /\ d = .tup [x, y]
  | [], _, i, d, h => by simp [M.db'] at h
  | _ :: _, [], i, d, h => by simp [M.db'] at h
  | x :: a, y :: b, 0, d, h => ⟨x, y, rfl, rfl, (Option.some.inj h).symm⟩
  | x :: a, y :: b, i + 1, d, h => lT' a b i d h
theorem gv' {J : It} {as bs : List M.D} {F : Hp} {T : List Addr} (hs : ∀ F' T' H' fp i, Ext F T F' T' -> FpH F' H' fp -> i = min as.length bs.length -> J.stop i H')
    (hy : ∀ F' T' H' fp i dx dy, Ext F T F' T' -> FpH F' H' fp -> as[i]? = some dx -> bs[i]? = some dy -> J.go i H' /\ ∀ v H2, J.yld i H' v H2 -> ∃ p x y, v = .ref p /\ H' p = none /\ H2 = upd H' p (.tup [x, y]) /\ Fz K F' T' x dx /\ Fz K F' T' y dy) : iI' K J (M.db' as bs) F T := fun F' T' H' fp i e f hi => by
  rw [lS'] at hi ⊢
  refine ⟨fun q => hs F' T' H' fp i e f q, fun d hd => ?_⟩
  obtain ⟨dx, dy, h1, h2, rfl⟩ := lT' _ _ _ _ hd
  obtain ⟨g, y⟩ := hy F' T' H' fp i dx dy e f h1 h2
  refine ⟨g, fun v H2 q => ?_⟩
  obtain ⟨p, x, y', rfl, hp, rfl, zx, zy⟩ := y v H2 q
  have s : Same F' (upd F' p (.tup [x, y'])) := cg' (f.free hp)
  exact ⟨_, s, .tup (SqT.of upd_same) (.cons (zx.mono (.of s)) (.cons (zy.mono (.of s)) .nil)), f.new hp⟩
theorem wx' {s t : M.Tx} {F : Hp} {T : List Addr} (o : okT s) (o2 : okT t) : iI' K (ItP (chS (sx s)) (chS (sx t)) (min (sx s).cps.size (sx t).cps.size)) (M.db' (s.map M.chD) (t.map M.chD)) F T := by
  have e1 : (sx s).cps.size = s.length := ca' s
  have e2 : (sx t).cps.size = t.length := ca' t
  refine gv' (fun F' T' H' fp i e f hi => ?_) fun F' T' H' fp i dx dy e f h1 h2 => ?_
  . rw [List.length_map, List.length_map] at hi
    show i = min (sx s).cps.size (sx t).cps.size
    omega
  . rw [List.getElem?_map] at h1 h2
    cases q1 : s[i]? with
    | none => rw [q1] at h1; cases h1
    | some c =>
      cases q2 : t[i]? with
      | none => rw [q2] at h2; cases h2
      | some d =>
        rw [q1] at h1
        rw [q2] at h2
        cases h1
        cases h2
        have l1 := (List.getElem?_eq_some_iff.mp q1).1
        have l2 := (List.getElem?_eq_some_iff.mp q2).1
        refine ⟨by show i < min (sx s).cps.size (sx t).cps.size; omega, fun v H2 y => ?_⟩
        obtain ⟨p, x, y', rfl, hp, rfl, c1, c2⟩ := y
        unfold chS at c1 c2
        rw [dO', q1] at c1
        rw [dO', q2] at c2
        cases c1
        cases c2
        exact ⟨p, _, _, rfl, hp, rfl, lh' (o.1 c (List.mem_of_getElem? q1)), lh' (o2.1 d (List.mem_of_getElem? q2))⟩
theorem wy' {a b : Addr} {vs ws : List V} {ds es : List M.D} {F : Hp} {T : List Addr} (ha : F a = some (.lst vs)) (z : FzA K F T vs ds) (hb : F b = some (.lst ws)) (z2 : FzA K F T ws es) : iI' K (Itz K a b) (M.db' ds es) F T := by
  refine gv' (fun F' T' H' fp i e f hi => ?_) fun F' T' H' fp i dx dy e f h1 h2 => ?_
  . exact ⟨vs, ws, SqL.of (f.low _ _ (e.f.lst ha)), SqL.of (f.low _ _ (e.f.lst hb)), by rw [z.length, z2.length]; omega⟩
  . obtain ⟨x, x1, x2⟩ := z.get h1
    obtain ⟨y, y1, y2⟩ := z2.get h2
    have a1 : SqL K H' a vs := SqL.of (f.low _ _ (e.f.lst ha))
    have b1 : SqL K H' b ws := SqL.of (f.low _ _ (e.f.lst hb))
    refine ⟨⟨vs, ws, x, y, a1, b1, x1, y1⟩, fun v H2 q => ?_⟩
    obtain ⟨p, x', y', rfl, hp, rfl, q1, q2⟩ := q
    have := q1 vs a1
    rw [x1] at this
    cases this
    have := q2 ws b1
    rw [y1] at this
    cases this
    exact ⟨p, _, _, rfl, hp, rfl, x2.mono e, y2.mono e⟩
theorem ww' {a b : Addr} {vs ws : List V} {ds es : List M.D} {F : Hp} {T : List Addr} (ha : SqT K F a vs) (z : FzA K F T vs ds) (hb : SqT K F b ws) (z2 : FzA K F T ws es) : iI' K (RZ.ItzT K a b) (M.db' ds es) F T := by
  refine gv' (fun F' T' H' fp i e f hi => ?_) fun F' T' H' fp i dx dy e f h1 h2 => ?_
  . exact ⟨vs, ws, seqT f.low (e.f.seqT ha), seqT f.low (e.f.seqT hb), by rw [z.length, z2.length]; omega⟩
  . obtain ⟨x, x1, x2⟩ := z.get h1
    obtain ⟨y, y1, y2⟩ := z2.get h2
    have a1 : SqT K H' a vs := seqT f.low (e.f.seqT ha)
    have b1 : SqT K H' b ws := seqT f.low (e.f.seqT hb)
    refine ⟨⟨vs, ws, x, y, a1, b1, x1, y1⟩, fun v H2 q => ?_⟩
    obtain ⟨p, x', y', rfl, hp, rfl, q1, q2⟩ := q
    have := q1 vs a1
    rw [x1] at this
    cases this
    have := q2 ws b1
    rw [y1] at this
    cases this
    exact ⟨p, _, _, rfl, hp, rfl, x2.mono e, y2.mono e⟩
theorem ya' {elts : List Expr} {kk : Nat} {tpos : Pos} (hg : Gl X "zip") (hm : X.mg "zip" = none) (ha : SE X W a ma) (hb : SE X W b mb)
    (hs : starEach [a, b] X.env = (false, eval a X.env) :: starEach [b] X.env := by rfl) (hs2 : starEach [b] X.env = (false, eval b X.env) :: starEach [] X.env := by rfl) (hpl : (backTo pos (starEach [b] X.env)).any (·.1) = false := by rfl) :
    SI X W (.Tuple elts kk tpos) (.Call (.Name "zip" p) [a, b] [] pos) (M.zd' ma mb) :=
  PI.imp (v4' hg hm (pa_cons ha (pa_cons hb pa_nil hs2) hs) hs hpl) fun σ H R ⟨ρ, F, T, fr, rel, q⟩ => by
    -- the kind of both is known ahead
    have fin : ∀ (isS : Bool), (∀ x ρ1, ma ρ = .ok x ρ1 -> ∀ y ρ2, mb ρ1 = .ok y ρ2 -> (isS = true ↔ ∃ s, x = .str s)) -> za' X.K (tCons (qE X.K W ma) (tCons (qE X.K W mb) tNil)) σ H R := by
      intro isS hS
      have q1 := aG'.bind q
      have body : ∀ (G : List V -> Hp -> Prop), (∀ x y u v H2 F2 T2 ds ρ2, Ext F T F2 T2 -> Fz X.K F2 T2 u x -> Fz X.K F2 T2 v y -> M.r7' x y = some ds -> Rel X.K ρ2 σ H2 F2 T2 fr -> (isS = true ↔ ∃ s, x = .str s) →
          (∀ J H' F' T', Ext F T F' T' -> iI' X.K J ds F' T' -> Rel X.K ρ2 σ H' F' T' fr -> R J H') -> G [u, v] H2) -> tCons (qE X.K W ma) (tCons (qE X.K W mb) tNil) σ H G := by
        intro G hG
        refine ⟨ρ, F, T, fr, rel, ?_⟩
        cases em : ma ρ with
        | bad => rw [em] at q1; exact q1.elim
        | exc x ρ1 => rw [em] at q1; exact q1
        | ok x ρ1 =>
          rw [em] at q1
          have q2 := aG'.bind (show aG' ((mb ρ1).bind _) _ _ from q1)
          intro u H1 F1 T1 e1 z1 r1
          refine ⟨ρ1, F1, T1, fr, r1, ?_⟩
          cases en : mb ρ1 with
          | bad => rw [en] at q2; exact q2.elim
          | exc y ρ2 => rw [en] at q2; exact EX.mono (show EX X.K W σ F T fr y ρ2 from q2) e1
          | ok y ρ2 =>
            rw [en] at q2
            obtain ⟨ds, e3, q3⟩ := aG'.ofO (show aG' (M.ofO _ _) _ _ from q2)
            intro v H2 F2 T2 e2 z2 r2
            exact hG x y u v H2 F2 T2 ds ρ2 (e1.trans e2) (z1.mono e2) z2 e3 r2 (hS x ρ1 em y ρ2 en) q3
      cases isS with
      | true =>
        refine .inl (body _ fun x y u v H2 F2 T2 ds ρ2 e z1 z2 hz r2 hk q3 => ?_)
        obtain ⟨s, rfl⟩ := hk.mp rfl
        cases y <;> try (cases hz; done)
        obtain ⟨rfl, o1⟩ := z1.str_inv
        obtain ⟨rfl, o2⟩ := z2.str_inv
        cases hz
        exact ⟨_, _, rfl, q3 _ _ _ _ e (wx' o1 o2) r2⟩
      | false =>
        refine .inr (body _ fun x y u v H2 F2 T2 ds ρ2 e z1 z2 hz r2 hk q3 => ?_)
        obtain ⟨fp, f, _⟩ := r2.fp
        cases x <;> cases y <;> try (cases hz; done)
        . exact absurd (hk.mpr ⟨_, rfl⟩) Bool.false_ne_true
        . obtain ⟨a1, vs, rfl, ha, za⟩ := z1.tup_inv
          obtain ⟨b1, ws, rfl, hb, zb⟩ := z2.tup_inv
          cases hz
          exact ⟨a1, b1, vs, ws, rfl, .inr ⟨seqT f.low ha, seqT f.low hb, q3 _ _ _ _ e (ww' ha za hb zb) r2⟩⟩
        . obtain ⟨a1, vs, rfl, ha, za⟩ := z1.lst_inv
          obtain ⟨b1, ws, rfl, hb, zb⟩ := z2.lst_inv
          cases hz
          exact ⟨a1, b1, vs, ws, rfl, .inl ⟨SqL.of (f.low _ _ ha), SqL.of (f.low _ _ hb), q3 _ _ _ _ e (wy' ha za hb zb) r2⟩⟩
    cases em : ma ρ with
    | ok x ρ1 =>
      by_cases hx : ∃ s, x = .str s
      . exact fin true fun x' ρ1' e y ρ2 _ => by rw [em] at e; cases e; exact ⟨fun _ => hx, fun _ => rfl⟩
      . exact fin false fun x' ρ1' e y ρ2 _ => by rw [em] at e; cases e; exact ⟨fun z => (nomatch z), fun z => absurd z hx⟩
    | exc x ρ1 => exact fin true fun x' ρ1' e => by rw [em] at e; cases e
    | bad => exact fin true fun x' ρ1' e => by rw [em] at e; cases e
end
end S
namespace S
open PySem PySem.Spec PyProof.Rows L2
variable [Wd] [Hot]
section
variable {K : PySem.W.Frag} {F F' H H' : Hp} {T T' : List Addr} {fp fq fr : Fp} {ρ : M.PSt} {σ : St} {W : WX}
theorem fx' {i : Nat} {x : Option V} : ∀ (is : List Nat) (σ : St), (wipe (σ.set i x) is).set i none = (wipe σ is).set i none
  | [], σ => by show (σ.set i x).set i none = σ.set i none; rw [List.set_set]
  | k :: is, σ => by
    show ((wipe (σ.set i x) is).set k none).set i none = ((wipe σ is).set k none).set i none
    by_cases h : k = i
    . subst h
      rw [List.set_set, List.set_set, fx' is σ]
    . rw [List.set_comm _ _ h, fx' is σ, List.set_comm _ _ h]
theorem FzA.cons_inv {vs : List V} {d : M.D} {ds : List M.D} (h : FzA K F T vs (d :: ds)) : ∃ v r, vs = v :: r /\ Fz K F T v d /\ FzA K F T r ds := by
  cases h with
  | cons a b => exact ⟨_, _, rfl, a, b⟩
theorem RpA.of_fz : ∀ {vs : List V} {ds : List M.D}, FzA K F T vs ds -> RpA K F T vs (ds.map .fz) []
  | _, _, .nil => .nil
  | _, _, .cons z r => RpA.cons (fp := []) (fq := []) (.fz z) (RpA.of_fz r)
def qG (K : PySem.W.Frag) (sl : List Nat) (m : M.MG) : TG := fun v σ H Q => ∃ ρ F T fr d ρ', Rel K ρ σ H F T fr /\ Fz K F T v d /\ m d ρ = some ρ' /\ ∀ σ', wipe σ' sl = wipe σ sl -> Rel K ρ' σ' H F T fr -> Q σ' H
def qGs (K : PySem.W.Frag) (is : List Nat) : TGs := fun vs σ H Q => ∃ ρ F T fr ds ρ', Rel K ρ σ H F T fr /\ FzA K F T vs ds /\ M.gNs is ds ρ = some ρ' /\ ∀ σ', wipe σ' is = wipe σ is -> Rel K ρ' σ' H F T fr -> Q σ' H
abbrev SG (X : Cx) (tg : Expr) (sl : List Nat) (m : M.MG) : Prop := PG X tg (qG X.K sl m)
abbrev SGs (X : Cx) (ts : List Expr) (is : List Nat) : Prop := PGs X ts (qGs X.K is)
theorem PG.imp {X : Cx} {tg : Expr} {t t' : TG} (h : PG X tg t) (i : ∀ v σ H Q, t' v σ H Q -> t v σ H Q) : PG X tg t' := ⟨fun pins s σ H v u Q I r q => h.run pins s σ H v u Q I r (i v σ H Q q)⟩
theorem PGs.imp {X : Cx} {tg : List Expr} {t t' : TGs} (h : PGs X tg t) (i : ∀ v σ H Q, t' v σ H Q -> t v σ H Q) : PGs X tg t' := ⟨fun pins s σ H v u Q I r q => h.run pins s σ H v u Q I r (i v σ H Q q)⟩
theorem Rel.put (rel : Rel K ρ σ H F T fr) {i : Nat} (hi : i < ρ.env.length) {v : V} {o : M.O} {f2 fr' : Fp} (q : Rp K F T v o f2) (p : Part (f2 ++ fr') fr) : Rel K ⟨ρ.env.set i (some o), ρ.w⟩ (σ.set i (some v)) H F T fr' := by
  obtain ⟨fe, fw, re, rw, f⟩ := rel
  obtain ⟨fq, h1, h2⟩ := re.put hi q
  refine ⟨fq, fw, h1, rw, f.part ?_⟩
  have p1 : Part (fq ++ (fw ++ fr')) ((fe ++ f2) ++ (fw ++ fr')) := .app h2 .refl
  refine p1.trans ?_
  refine Part.trans (b := fe ++ (fw ++ (f2 ++ fr'))) ?_ (.app .refl (.app .refl p))
  constructor
  . intro e h
    simp only [List.mem_append] at *
    grind
  . intro x
    simp only [keys, List.map_append, List.count_append] at *
    omega
theorem Part.nilL {a : Fp} : Part ([] ++ a) a := ⟨fun _ h => h, fun _ => Nat.le_refl _⟩
theorem bT' {X : Cx} {pos : Pos} {x : Str} (i : Nat) (hN : X.N.Nodup) (hi : X.N[i]? = some x) (hx : Loc X.env.scope x) (hf : X.fn x = true \/ X.env.scope.names.lookup x = some .local) : SG X (.Name x pos) [i] (M.gN i) :=
  PG.imp (pg_name hN hi hx hf) fun v σ H Q ⟨ρ, F, T, fr, d, ρ', rel, z, e, q⟩ => by
    unfold M.gN at e
    split at e
    . rename_i hl
      cases e
      refine q _ ?_ (rel.put hl (.fz z) .nilL)
      show (σ.set i (some v)).set i none = σ.set i none
      rw [List.set_set]
    . cases e
theorem cE' {X : Cx} : SGs X [] [] := PGs.imp pgs_nil fun vs σ H Q ⟨ρ, F, T, fr, ds, ρ', rel, z, e, q⟩ => by
  cases ds with
  | nil =>
    cases z
    cases e
    exact ⟨rfl, q _ rfl rel⟩
  | cons d ds => cases e
theorem aC' {X : Cx} {e : Expr} {es : List Expr} {i : Nat} {is : List Nat} (hs : (assignEach (e :: es) X.env).map (·.2) = assign e X.env :: (assignEach es X.env).map (·.2)) (h1 : SG X e [i] (M.gN i)) (h2 : SGs X es is) : SGs X (e :: es) (i :: is) :=
  PGs.imp (pgs_cons h1 h2 hs) fun vs σ H Q ⟨ρ, F, T, fr, ds, ρ', rel, z, e, q⟩ => by
    cases ds with
    | nil => cases e
    | cons d ds =>
      obtain ⟨v, r, rfl, z, zs⟩ := z.cons_inv
      . cases e1 : M.gN i d ρ with
        | none => simp only [M.gNs, e1] at e; cases e
        | some ρ1 =>
          simp only [M.gNs, e1, Option.bind_some] at e
          refine ⟨v, r, rfl, ρ, F, T, fr, d, ρ1, rel, z, e1, fun σ1 w1 r1 => ⟨ρ1, F, T, fr, ds, ρ', r1, zs, e, fun σ2 w2 r2 => q σ2 ?_ r2⟩⟩
          show (wipe σ2 is).set i none = (wipe σ is).set i none
          rw [w2]
          have w1' : σ1.set i none = σ.set i none := w1
          rw [<- fx' (x := none) is σ1, w1', fx' is σ]
theorem r9' {X : Cx} {es : List Expr} {k} {pos : Pos} {n : Nat} {is : List Nat} (hc : X.calm = true) (hn : (assignEach es X.env).length = n) (hst : (assignEach es X.env).findIdx? (·.1) = none) (hl : is.length = n) (h : SGs X es is) : SG X (.Tuple es k pos) is (M.gT is) :=
  PG.imp (pg_tup hc h hn hst) fun v σ H Q ⟨ρ, F, T, fr, d, ρ', rel, z, e, q⟩ => by
    cases d with
    | tup ds =>
      obtain ⟨a, vs, rfl, ha, za⟩ := z.tup_inv
      obtain ⟨fp, f, _⟩ := rel.fp
      refine ⟨a, vs, rfl, seqT f.low ha, ?_, ρ, F, T, fr, ds, ρ', rel, za, e, q⟩
      rw [za.length, <- hl]
      have : ∀ (is : List Nat) (ds : List M.D) (ρ ρ' : M.PSt), M.gNs is ds ρ = some ρ' -> ds.length = is.length := by
        intro is
        induction is with
        | nil => intro ds ρ ρ' h; cases ds with | nil => rfl | cons d ds => cases h
        | cons i is ih =>
          intro ds ρ ρ' h
          cases ds with
          | nil => cases h
          | cons d ds =>
            cases e1 : M.gN i d ρ with
            | none => simp only [M.gNs, e1] at h; cases h
            | some ρ1 =>
              simp only [M.gNs, e1, Option.bind_some] at h
              exact congrArg (· + 1) (ih ds ρ1 ρ' h)
      exact this is ds ρ ρ' e
    | _ => cases e
theorem RpE.wiped {env : List (Option M.O)} (r : RpE K F T σ env fp) : ∀ is : List Nat, ∃ fq, RpE K F T (wipe σ is) (M.al' is env) fq /\ Part fq fp
  | [] => ⟨fp, r, .refl⟩
  | i :: is => by
    obtain ⟨fq, h1, h2⟩ := r.wiped is
    obtain ⟨fq2, h3, h4⟩ := h1.drop i none
    exact ⟨fq2, h3, h4.trans h2⟩
theorem cy' {σ : St} : ∀ {is : List Nat} {j : Nat}, j ∉ is -> (wipe σ is)[j]? = σ[j]?
  | [], _, _ => rfl
  | i :: is, j, h => by
    have h' : j ≠ i /\ j ∉ is := by simpa using h
    show ((wipe σ is).set i none)[j]? = _
    rw [List.getElem?_set_ne (Ne.symm h'.1), cy' h'.2]
theorem fM' {σ : St} : ∀ {is : List Nat} {j : Nat}, j ∈ is -> j < σ.length -> (wipe σ is)[j]? = some none
  | i :: is, j, h, hl => by
    show ((wipe σ is).set i none)[j]? = _
    by_cases e : i = j
    . subst e
      rw [List.getElem?_set_self (by rw [wipe_length]; exact hl)]
    . rw [List.getElem?_set_ne e]
      refine fM' ?_ hl
      rcases List.mem_cons.mp h with h | h
      . exact absurd h.symm e
      . exact h
theorem d8' {σ : St} (is : List Nat) : wipe (wipe σ is) is = wipe σ is := by
  refine List.ext_getElem? fun j => ?_
  by_cases h : j ∈ is
  . by_cases hl : j < σ.length
    . rw [fM' h hl, fM' h (by rw [wipe_length]; exact hl)]
    . rw [List.getElem?_eq_none (by rw [wipe_length, wipe_length]; omega), List.getElem?_eq_none (by rw [wipe_length]; omega)]
  . rw [cy' h]
theorem dD' {env : List (Option M.O)} : ∀ {is : List Nat} {j : Nat} {o : M.O}, (M.al' is env)[j]? = some (some o) -> j ∉ is
  | [], _, _, _ => by simp
  | i :: is, j, o, h => by
    have h : ((M.al' is env).set i none)[j]? = some (some o) := h
    by_cases hj : i = j
    . subst hj
      by_cases hl : i < (M.al' is env).length
      . rw [List.getElem?_set_self hl] at h; cases h
      . rw [List.getElem?_eq_none (by simpa using hl)] at h; cases h
    . rw [List.getElem?_set_ne hj] at h
      have := dD' h
      simp only [List.mem_cons, not_or]
      exact ⟨Ne.symm hj, this⟩
theorem RpE.other {env : List (Option M.O)} {σ' : St} (r : RpE K F T σ env fp) (hl : σ'.length = σ.length) (h : ∀ (j : Nat) (o : M.O), env[j]? = some (some o) -> σ'[j]? = σ[j]?) : RpE K F T σ' env fp := by
  induction r generalizing σ' with
  | nil =>
    cases σ' with
    | nil => exact .nil
    | cons _ _ => cases hl
  | off r ih =>
    cases σ' with
    | nil => cases hl
    | cons y σ' => exact .off (ih (Nat.succ.inj hl) fun j o e => h (j + 1) o e)
  | on q r ih =>
    cases σ' with
    | nil => cases hl
    | cons y σ' =>
      have e : y = _ := Option.some.inj (h 0 _ rfl)
      subst e
      exact .on q (ih (Nat.succ.inj hl) fun j o e => h (j + 1) o e)
  | hot hh z r ih =>
    cases σ' with
    | nil => cases hl
    | cons y σ' =>
      have e : y = _ := Option.some.inj (h 0 _ rfl)
      subst e
      exact .hot hh z (ih (Nat.succ.inj hl) fun j o e => h (j + 1) o e)
  | clo hh z r ih =>
    cases σ' with
    | nil => cases hl
    | cons y σ' =>
      have e : y = _ := Option.some.inj (h 0 _ rfl)
      subst e
      exact .clo hh z (ih (Nat.succ.inj hl) fun j o e => h (j + 1) o e)
theorem RpE.backed {env0 : List (Option M.O)} (h0 : ∀ (i : Nat) (d : M.D), env0[i]? = some (some (M.O.fz d)) -> ∃ v, σ[i]? = some (some v) /\ Fz K F T v d) : ∀ (is : List Nat) {env : List (Option M.O)} {fp : Fp}, RpE K F T σ env fp -> ∃ fq, RpE K F T σ (M.back env0 is env) fq /\ Part fq fp
  | [], env, fp, r => ⟨fp, r, .refl⟩
  | i :: is, env, fp, r => by
    obtain ⟨fq, h1, h2⟩ := RpE.backed h0 is r
    unfold M.back
    split
    . rename_i d e
      obtain ⟨v, hv, z⟩ := h0 i d e
      obtain ⟨f2, h3, h4⟩ := h1.put0 hv (.fz z)
      refine ⟨f2, h3, h4.trans ?_⟩
      rw [List.append_nil]
      exact h2
    . obtain ⟨f2, h3, h4⟩ := h1.drop0 i
      exact ⟨f2, h3, h4.trans h2⟩
theorem RpE.data {env : List (Option M.O)} (r : RpE K F T σ env fp) {i : Nat} {d : M.D} (h : env[i]? = some (some (.fz d))) : ∃ v, σ[i]? = some (some v) /\ Fz K F T v d := by
  obtain ⟨v, f1, f2, f3, h1, _, h3, _⟩ := r.get h
  cases h3 with
  | fz z => exact ⟨v, h1, z⟩
abbrev W0 : WX := fun _ _ _ _ => False
theorem aG'.noX {α : Type} {r : M.Res α} {P : α -> M.PSt -> Prop} {Y Y' : Wx} (h : aG' (M.noX r) P Y) : aG' r P Y' := by
  cases r with
  | ok a ρ => exact h
  | exc x ρ => exact h.elim
  | bad => exact h
def An' (K : PySem.W.Frag) (sl : List Nat) (g : M.MG) (t : M.MT) (e : M.ME) (ds : List M.D) (σ : St) (D : Addr) (fr : Fp) (F1 : Hp) (T1 : List Addr) (P : List M.D -> M.PSt -> Prop) (Y : Wx) (i : Nat) (H : Hp) : Prop :=
  i <= ds.length /\ ∃ ρ' F' T' acc vacc, Ext F1 T1 F' T' /\ FzA K F' T' vacc acc /\ Rel K ⟨M.al' sl ρ'.env, ρ'.w⟩ (wipe σ sl) H F' T' ((D, .lst vacc) :: fr) /\ aG' (M.lcL sl g t e (ds.drop i) acc ρ') P Y
theorem Rel.wiped (r : Rel K ρ σ H F T fr) (is : List Nat) : Rel K ⟨M.al' is ρ.env, ρ.w⟩ (wipe σ is) H F T fr := by
  obtain ⟨fe, fw, re, rw, f⟩ := r
  obtain ⟨fq, h1, h2⟩ := re.wiped is
  exact ⟨fq, fw, h1, rw, f.part (.app h2 .refl)⟩
theorem Rel.own (r : Rel K ρ σ H F T fr) {p : Addr} {o : HO} (hp : H p = none) : Rel K ρ σ (upd H p o) F T ((p, o) :: fr) := by
  obtain ⟨fe, fw, re, rw, f⟩ := r
  refine ⟨fe, fw, re, rw, (f.own hp).part ?_⟩
  constructor
  . intro e h
    simp only [List.mem_append, List.mem_cons] at *
    grind
  . intro x
    simp only [keys, List.map_append, List.map_cons, List.count_append, List.count_cons] at *
    omega
theorem Rel.at_ (r : Rel K ρ σ H F T fr) {e : Addr × HO} (h : e ∈ fr) : H e.1 = some e.2 := by
  obtain ⟨fe, fw, re, rw, f⟩ := r
  exact (f.at_ e (List.mem_append_right _ (List.mem_append_right _ h))).1
theorem Rel.write {p : Addr} {o o' : HO} (r : Rel K ρ σ H F T ((p, o) :: fr)) : Rel K ρ σ (upd H p o') F T ((p, o') :: fr) := by
  obtain ⟨fe, fw, re, rw, f⟩ := r
  have f' : FpH F H ((fe ++ fw) ++ ((p, o) :: fr)) := by rw [List.append_assoc]; exact f
  refine ⟨fe, fw, re, rw, ?_⟩
  have := f'.write (o' := o')
  rw [List.append_assoc] at this
  exact this
theorem rm' {sl : List Nat} {it : M.MI} {g : M.MG} {t : M.MT} {e : M.ME} {Q : VK} (h : qO K W (M.oLc sl it g t e) σ H Q) : tLc (qI K W it) (qG K sl g) (qT K W0 t) (qE K W0 e) sl σ H Q := by
  obtain ⟨ρ, F, T, fr, rel, h⟩ := h
  refine ⟨ρ, F, T, fr, rel, (aG'.bind h).mono (fun ds ρ1 h1 J H1 F1 T1 e1 io r1 => ?_) fun _ _ z => z⟩
  intro D hD
  have h2 := aG'.bind h1
  -- the loop's word
  refine ⟨fun i m H => m = ds.length - i /\ An' K sl g t e ds σ D fr F1 T1 _ _ i H, ⟨ds.length, by simp, Nat.zero_le _, ρ1, F1, T1, [], [], .refl, .nil, (r1.wiped sl).own hD, h2⟩, ?_⟩
  rintro i m H2 ⟨rfl, hi, ρ2, F2, T2, acc, vacc, e2, za, r2, h3⟩
  have hH : H2 D = some (.lst vacc) := r2.at_ (e := (D, .lst vacc)) List.mem_cons_self
  obtain ⟨fp2, f2, _⟩ := r2.fp
  by_cases hl : i = ds.length
  . refine .inl ⟨(io F2 T2 H2 fp2 i e2 f2 hi).1 hl, ?_⟩
    rw [hl, List.drop_length] at h3
    have h4 : aG' (M.lcL sl g t e [] acc ρ2) _ _ := h3
    unfold M.lcL at h4
    have h5 := h4
    refine h5 (.ref D) H2 F2 T2 ((D, .lst vacc) :: []) (e1.trans e2) ?_ ?_
    . exact .lst (RpA.of_fz za)
    . obtain ⟨fe, fw, re, rw, f⟩ := r2
      have re1 : RpE K F2 T2 σ (M.al' sl ρ2.env) fe := by
        refine re.other ?_ fun j o hj => (cy' (dD' hj)).symm
        rw [wipe_length]
      obtain ⟨fe0, fw0, re0, rw0, f0⟩ := r1
      obtain ⟨fq, h6, h7⟩ := RpE.backed (env0 := ρ1.env) (fun i d hd => by
        obtain ⟨v, hv, z⟩ := re0.data hd
        exact ⟨v, hv, z.mono e2⟩) sl re1
      exact ⟨fq, fw, h6, rw, f.part (.app h7 .refl)⟩
  . have hlt : i < ds.length := by omega
    have hd : ds[i]? = some ds[i] := List.getElem?_eq_getElem hlt
    obtain ⟨go, yl⟩ := (io F2 T2 H2 fp2 i e2 f2 hi).2 _ hd
    refine .inr ⟨go, An' K sl g t e ds σ D fr F1 T1 _ _ (i + 1), fun H' n => ⟨ds.length - (i + 1), by omega, rfl, n⟩, fun x H3 y => ?_⟩
    obtain ⟨fe, fw, re, rw, f⟩ := id r2
    obtain ⟨yg, yh⟩ := (io F2 T2 H2 _ i e2 f hi).2 _ hd
    obtain ⟨F3, s3, zx, f3⟩ := yh x H3 y
    have r3 : Rel K ⟨M.al' sl ρ2.env, ρ2.w⟩ (wipe σ sl) H3 F3 T2 ((D, .lst vacc) :: fr) := ⟨fe, fw, re.mono (.of s3), rw.mono (.of s3), f3⟩
    rw [List.drop_eq_getElem_cons hlt] at h3
    unfold M.lcL at h3
    cases eg : g ds[i] ⟨M.al' sl ρ2.env, ρ2.w⟩ with
    | none => rw [eg] at h3; exact h3.elim
    | some ρ3 =>
      rw [eg] at h3
      refine ⟨_, F3, T2, _, ds[i], ρ3, r3, zx, eg, fun σ4 w4 r4 => ?_⟩
      rw [d8'] at w4
      refine ⟨w4, ?_⟩
      have h4 := aG'.bind h3
      refine ⟨ρ3, F3, T2, _, r4, (aG'.noX h4).mono (fun b ρ5 h5 H5 F5 T5 e5 r5 => ?_) fun _ _ z => z⟩
      cases b with
      | false =>
        rw [if_neg Bool.false_ne_true]
        refine ⟨hlt, ρ5, F5, T5, acc, vacc, e2.trans ((Ext.of s3).trans e5), (za.mono (.of s3)).mono e5, ?_, h5⟩
        rw [<- w4]
        exact r5.wiped sl
      | true =>
        rw [if_pos rfl] at h5 ⊢
        have h6 := aG'.bind h5
        refine ⟨ρ5, F5, T5, _, r5, (aG'.noX h6).mono (fun d ρ6 h7 y6 H6 F6 T6 e6 z6 r6 => ?_) fun _ _ z => z⟩
        split at h7
        . rename_i hacc
          have hH6 : H6 D = some (.lst vacc) := r6.at_ (e := (D, .lst vacc)) List.mem_cons_self
          refine ⟨vacc, hH6, by rw [bu', za.length]; exact hacc, hlt, ρ6, F6, T6, acc ++ [d], vacc ++ [y6], e2.trans ((Ext.of s3).trans (e5.trans e6)), (((za.mono (.of s3)).mono e5).mono e6).append (.cons z6 .nil), ?_, h7⟩
          rw [<- w4]
          exact (r6.wiped sl).write
        . exact h7.elim
end
section
variable {X : Cx} {W : WX} {pos : Pos} {elt tg iter : Expr} {ifs : List Expr} {scope : Scope} {own : List (Str × Nat)} {sl : List Nat} {it : M.MI} {g : M.MG} {t : M.MT} {e : M.ME}
theorem bA' {X : Cx} {W : WX} : PTs X [] (qT X.K W M.tT) := ⟨fun _ _ _ H Q I ⟨ρ, F, T, fr, rel, h⟩ => wpAny_tests_nil ⟨H, I, h _ _ _ .refl rel⟩⟩
theorem fD' {X : Cx} {W : WX} {c : Expr} {m : M.MT} (h : ST X W c m) : PTs X [c] (qT X.K W m) := pts_one h
theorem A9' (hc : X.calm = true) (hN : X.N.Nodup) (hi : SI X W tg iter it) (ok : BlkOk X.N X.env.scope scope own) (hsl : sl = own.map (·.2))
    (hg : ∀ (s : Shared) (H : Hp) (C : Addr) (cl : List (Str × Addr)) (fp : List Addr), SG (X.blk s H scope (compEnvC scope cl C X.env) fp) tg sl g) (ht : ∀ (s : Shared) (H : Hp) (C : Addr) (cl : List (Str × Addr)) (fp : List Addr), PTs (X.blk s H scope (compEnvC scope cl C X.env) fp) ifs (qT X.K W0 t))
    (he : ∀ (s : Shared) (H : Hp) (C : Addr) (cl : List (Str × Addr)) (fp : List Addr), SE (X.blk s H scope (compEnvC scope cl C X.env) fp) W0 elt e) (hs : ∀ x, foldedSetIterable iter X.env x = pure x := by intro _; rfl) :
    SO X W (.ListComp elt [⟨tg, iter, ifs, 0⟩] scope pos) (M.oLc sl it g t e) := by
  subst hsl
  exact PE.imp (pe_lc hc hN hi ok hg ht he hs) fun σ H Q h => rm' h
theorem yy' {K : PySem.W.Frag} {m : M.MO} {σ : St} {H : Hp} {Q : VK} (h : qE K W (M.eO m) σ H Q) : qO K W m σ H Q := by
  obtain ⟨ρ, F, T, fr, rel, h⟩ := h
  refine ⟨ρ, F, T, fr, rel, (aG'.bind h).mono (fun o ρ1 h1 v H1 F1 T1 fp e1 z1 r1 => ?_) fun _ _ z => z⟩
  obtain ⟨G, s, z, r⟩ := r1.frozen z1
  exact h1 v H1 G T1 (e1.trans (.of s)) z r
theorem cw' {a : Expr} {m : M.MO} (h : SO X W a m) : SE X W a (M.eO m) := PE.imp h fun σ H Q h => yy' h
theorem a3' {a : Expr} {m : M.ME} (h : SE X W a m) : SO X W a (M.oE m) := PE.imp h fun σ H Q ⟨ρ, F, T, fr, rel, h⟩ => aB' rel h fun d ρ1 v H1 F1 T1 e1 z1 r1 h1 => h1 v H1 F1 T1 [] e1 (.fz z1) r1
theorem yY' (xs : List M.D) : M.frz (.lst (xs.map .fz)) = .lst xs := by
  show M.D.lst (M.frzs _) = _
  rw [M.li']
theorem gQ' (hc : X.calm = true) (hN : X.N.Nodup) (hi : SI X W tg iter it) (ok : BlkOk X.N X.env.scope scope own) (hsl : sl = own.map (·.2))
    (hg : ∀ (s : Shared) (H : Hp) (C : Addr) (cl : List (Str × Addr)) (fp : List Addr), SG (X.blk s H scope (compEnvC scope cl C X.env) fp) tg sl g) (ht : ∀ (s : Shared) (H : Hp) (C : Addr) (cl : List (Str × Addr)) (fp : List Addr), PTs (X.blk s H scope (compEnvC scope cl C X.env) fp) ifs (qT X.K W0 t))
    (he : ∀ (s : Shared) (H : Hp) (C : Addr) (cl : List (Str × Addr)) (fp : List Addr), SE (X.blk s H scope (compEnvC scope cl C X.env) fp) W0 elt e) (hs : ∀ x, foldedSetIterable iter X.env x = pure x := by intro _; rfl) :
    SE X W (.ListComp elt [⟨tg, iter, ifs, 0⟩] scope pos) (M.eLc sl it g t e) := by
  have h := cw' (A9' (pos := pos) hc hN hi ok hsl hg ht he hs)
  have eq : M.eO (M.oLc sl it g t e) = M.eLc sl it g t e := by
    funext ρ
    show ((it ρ).bind fun xs ρ1 => _).bind _ = (it ρ).bind _
    cases it ρ with
    | bad => rfl
    | exc x ρ1 => rfl
    | ok xs ρ1 =>
      show ((M.lcL sl g t e xs [] ρ1).bind _).bind _ = (M.lcL sl g t e xs [] ρ1).bind _
      cases M.lcL sl g t e xs [] ρ1 with
      | bad => rfl
      | exc x ρ2 => rfl
      | ok ys ρ2 =>
        show M.Res.ok (M.frz (.lst (ys.map .fz))) _ = M.Res.ok (M.D.lst ys) _
        rw [yY']
  rw [eq] at h
  exact h
end
end S
namespace S
open PySem PySem.Spec PyProof.Rows L2
variable [Wd] [Hot]
section
variable {K : PySem.W.Frag} {F F' H H' : Hp} {T T' : List Addr} {fp fq fr : Fp} {ρ : M.PSt} {σ : St} {W : WX} {D : Ends} {Q : VK}
theorem bB'.mono {r : M.Out} (h : bB' K W D F T fr r) (e : Ext F T F' T') : bB' K W D F' T' fr r := by
  cases r with
  | nx ρ => exact fun σ' H' F2 T2 e2 => h σ' H' F2 T2 (e.trans e2)
  | bk ρ => exact fun σ' H' F2 T2 e2 => h σ' H' F2 T2 (e.trans e2)
  | ct ρ => exact fun σ' H' F2 T2 e2 => h σ' H' F2 T2 (e.trans e2)
  | rt o w => exact fun v H' F2 T2 fp e2 => h v H' F2 T2 fp (e.trans e2)
  | exc x ρ => exact fun σ' cls dd H' F2 T2 e2 => h σ' cls dd H' F2 T2 (e.trans e2)
  | bad => exact h
theorem bB'.imp {r : M.Out} {D' : Ends} {W' : WX} (h : bB' K W D F T fr r) (h1 : ∀ σ H, D.nx σ H -> D'.nx σ H) (h2 : ∀ σ H, D.bk σ H -> D'.bk σ H) (h3 : ∀ σ H, D.ct σ H -> D'.ct σ H) (h4 : ∀ v H, D.rt v H -> D'.rt v H) (h5 : ∀ c d σ H, W c d σ H -> W' c d σ H) : bB' K W' D' F T fr r := by
  cases r with
  | nx ρ => exact fun σ' H' F2 T2 e2 r => h1 _ _ (h σ' H' F2 T2 e2 r)
  | bk ρ => exact fun σ' H' F2 T2 e2 r => h2 _ _ (h σ' H' F2 T2 e2 r)
  | ct ρ => exact fun σ' H' F2 T2 e2 r => h3 _ _ (h σ' H' F2 T2 e2 r)
  | rt o w => exact fun v H' F2 T2 fp e2 z r => h4 _ _ (h v H' F2 T2 fp e2 z r)
  | exc x ρ => exact fun σ' cls dd H' F2 T2 e2 z r => h5 _ _ _ _ (h σ' cls dd H' F2 T2 e2 z r)
  | bad => exact h
theorem ei' {α : Type} {r : M.Res α} {f : α -> M.PSt -> M.Out} (h : bB' K W D F T fr (r.out f)) : aG' r (fun a ρ' => bB' K W D F T fr (f a ρ')) (EX K W σ F T fr) := by
  cases r with
  | ok a ρ => exact h
  | exc x ρ => exact fun cls dd H' F' T' e z r => h σ cls dd H' F' T' e z r
  | bad => exact h
theorem cG' {m : M.ME} {k : M.D -> M.PSt -> M.Out} (rel : Rel K ρ σ H F T fr) (h : bB' K W D F T fr ((m ρ).out k))
    (q : ∀ d ρ1 v H1 F1 T1, Ext F T F1 T1 -> Fz K F1 T1 v d -> Rel K ρ1 σ H1 F1 T1 fr -> bB' K W D F1 T1 fr (k d ρ1) -> Q v H1) : qE K W m σ H Q :=
  ⟨ρ, F, T, fr, rel, (ei' h).mono (fun d ρ1 h1 v H1 F1 T1 e z r => q d ρ1 v H1 F1 T1 e z r (h1.mono e)) fun _ _ z => z⟩
theorem f8' {m : M.MO} {k : M.O -> M.PSt -> M.Out} (rel : Rel K ρ σ H F T fr) (h : bB' K W D F T fr ((m ρ).out k))
    (q : ∀ o ρ1 v H1 F1 T1 fp, Ext F T F1 T1 -> Rp K F1 T1 v o fp -> Rel K ρ1 σ H1 F1 T1 (fp ++ fr) -> bB' K W D F1 T1 fr (k o ρ1) -> Q v H1) : qO K W m σ H Q :=
  ⟨ρ, F, T, fr, rel, (ei' h).mono (fun d ρ1 h1 v H1 F1 T1 fp e z r => q d ρ1 v H1 F1 T1 fp e z r (h1.mono e)) fun _ _ z => z⟩
theorem qt' {m : M.MT} {k : Bool -> M.PSt -> M.Out} {Q : Bool -> Hp -> Prop} (rel : Rel K ρ σ H F T fr) (h : bB' K W D F T fr ((m ρ).out k))
    (q : ∀ b ρ1 H1 F1 T1, Ext F T F1 T1 -> Rel K ρ1 σ H1 F1 T1 fr -> bB' K W D F1 T1 fr (k b ρ1) -> Q b H1) : qT K W m σ H Q :=
  ⟨ρ, F, T, fr, rel, (ei' h).mono (fun d ρ1 h1 H1 F1 T1 e r => q d ρ1 H1 F1 T1 e r (h1.mono e)) fun _ _ z => z⟩
theorem vT' {m : M.MI} {k : List M.D -> M.PSt -> M.Out} {R : It -> Hp -> Prop} (rel : Rel K ρ σ H F T fr) (h : bB' K W D F T fr ((m ρ).out k))
    (q : ∀ ds ρ1 J H1 F1 T1, Ext F T F1 T1 -> iI' K J ds F1 T1 -> Rel K ρ1 σ H1 F1 T1 fr -> bB' K W D F1 T1 fr (k ds ρ1) -> R J H1) : qI K W m σ H R :=
  ⟨ρ, F, T, fr, rel, (ei' h).mono (fun d ρ1 h1 J H1 F1 T1 e z r => q d ρ1 J H1 F1 T1 e z r (h1.mono e)) fun _ _ z => z⟩
theorem Rel.noenv (r : Rel K ρ σ H F T fr) : sf' K (ρ.w) H F T fr := by
  obtain ⟨fe, fw, re, rw, f⟩ := r
  exact ⟨[], fw, yL', rw, f.part (.app .nil .refl)⟩
end
section
variable {X : Cx} {W : WX} {pos : Pos} {a b c : Expr} {st : Stmt} {rest body : List Stmt} {ma mb : M.ME} {mo : M.MO} {mt : M.MT} {m1 m2 : M.MS} {D : Ends} {σ : St} {H : Hp}
theorem as' : SSs X W [] M.aS' := PSs.imp pss_nil fun D σ H ⟨ρ, F, T, fr, rel, h⟩ => h σ H F T .refl rel
theorem af' (h : SS X W st m1) : SSs X W [st] m1 := pss_one h
theorem ab' (h1 : SS X W st m1) (h2 : SSs X W rest m2) : SSs X W (st :: rest) (M.aq' m1 m2) := PSs.imp (pss_cons h1 h2) fun D σ H ⟨ρ, F, T, fr, rel, h⟩ => by
  refine ⟨ρ, F, T, fr, rel, ?_⟩
  unfold M.aq' at h
  cases e : m1 ρ with
  | nx ρ1 => rw [e] at h; exact fun σ1 H1 F1 T1 e1 r1 => ⟨ρ1, F1, T1, fr, r1, bB'.mono h e1⟩
  | bk ρ1 => rw [e] at h; exact h
  | ct ρ1 => rw [e] at h; exact h
  | rt o w => rw [e] at h; exact h
  | exc x ρ1 => rw [e] at h; exact h
  | bad => rw [e] at h; exact h
theorem kL' (ha : SE X W a ma) (hs : swapsWith a none pos.line X.env = pure false := by rfl) : SS X W (.Expr a pos) (M.kQ' ma) := PS.imp (ps_expr ha hs) fun D σ H ⟨ρ, F, T, fr, rel, h⟩ =>
  cG' rel h fun d ρ1 v H1 F1 T1 e1 z1 r1 h1 => h1 σ H1 F1 T1 .refl r1
theorem an' (ha : SO X W a mo) : SS X W (.Return (some a) pos) (M.bQ' mo) := PS.imp (ps_ret ha) fun D σ H ⟨ρ, F, T, fr, rel, h⟩ =>
  f8' rel h fun o ρ1 v H1 F1 T1 fp e1 z1 r1 h1 => h1 v H1 F1 T1 fp .refl z1 r1.noenv
theorem aZ' (hc : ST X W c mt) (ha : SSs X W rest m1) (hb : SSs X W body m2) : SS X W (.If c rest body pos) (M.sIf mt m1 m2) := PS.imp (ps_if hc ha hb) fun D σ H ⟨ρ, F, T, fr, rel, h⟩ => by
  refine qt' rel h fun k ρ1 H1 F1 T1 e1 r1 h1 => ?_
  cases k with
  | true => rw [if_pos rfl] at h1 ⊢; exact ⟨ρ1, F1, T1, fr, r1, h1⟩
  | false => rw [if_neg Bool.false_ne_true] at h1 ⊢; exact ⟨ρ1, F1, T1, fr, r1, h1⟩
theorem ai' {i : Nat} {x : Str} {pos' : Pos} (hN : X.N.Nodup) (hi : X.N[i]? = some x) (hx : Loc X.env.scope x) (ha : SO X W a mo) (hs : swapsWith a (some (.Name x pos')) pos.line X.env = pure false := by rfl) (hf : X.fn x = true \/ X.env.scope.names.lookup x = some .local := by first | exact .inl rfl | exact .inr rfl | assumption) :
    SS X W (.Assign [.Name x pos'] a pos) (M.be' i mo) := PS.imp (ps_set hN hi hx ha hs hf) fun D σ H ⟨ρ, F, T, fr, rel, h⟩ => by
  refine f8' rel h fun o ρ1 v H1 F1 T1 fp e1 z1 r1 h1 => ?_
  unfold M.vN' at h1
  split at h1
  . rename_i hl
    exact h1 _ H1 F1 T1 .refl (r1.put hl z1 .refl)
  . exact h1.elim
theorem fC' {i : Nat} {y : Str} {py : Pos} {elt tg iter : Expr} {ifs : List Expr} {scope : Scope} {own : List (Str × Nat)} {spos : Pos} {sl : List Nat} {it : M.MI} {g : M.MG} {t : M.MT} {e : M.ME} (hc : X.calm = true) (hN : X.N.Nodup) (hy : X.N[i]? = some y) (hyl : X.env.scope.names.lookup y = some .local)
    (hsw : swapsWith (.ListComp elt [⟨tg, iter, ifs, 0⟩] scope pos) (some (.Name y py)) spos.line X.env = pure true) (hi : SI X W tg iter it) (ok : BlkOk X.N X.env.scope scope own) (hsl : sl = own.map (·.2))
    (hg : ∀ (s : Shared) (H : Hp) (C : Addr) (cl : List (Str × Addr)) (fp : List Addr), SG (X.blk s H scope (compEnvC scope cl C X.env) fp) tg sl g) (ht : ∀ (s : Shared) (H : Hp) (C : Addr) (cl : List (Str × Addr)) (fp : List Addr), PTs (X.blk s H scope (compEnvC scope cl C X.env) fp) ifs (qT X.K W0 t))
    (he : ∀ (s : Shared) (H : Hp) (C : Addr) (cl : List (Str × Addr)) (fp : List Addr), SE (X.blk s H scope (compEnvC scope cl C X.env) fp) W0 elt e) (hs : ∀ x, foldedSetIterable iter X.env x = pure x := by intro _; rfl) :
    SS X W (.Assign [.Name y py] (.ListComp elt [⟨tg, iter, ifs, 0⟩] scope pos) spos) (M.be' i (M.oLc sl it g t e)) := by
  subst hsl
  refine PS.imp (ps_setLc (g := qG X.K (own.map (·.2)) g) (tt := qT X.K W0 t) (te := qE X.K W0 e) hc hN hy hyl hsw hi ok hg ht he hs) fun D σ H ⟨ρ, F, T, fr, rel, h⟩ => ?_
  show tLc (qI X.K W it) (qG X.K (own.map (·.2)) g) (qT X.K W0 t) (qE X.K W0 e) (own.map (·.2)) σ H fun x H1 => gName i x σ H1 D.nx
  refine rm' (W := W) (f8' (D := D) rel h fun o ρ1 v H1 F1 T1 fp e1 z1 r1 h1 => ?_)
  unfold M.vN' at h1
  split at h1
  . rename_i hl
    exact h1 _ H1 F1 T1 .refl (r1.put hl z1 .refl)
  . exact h1.elim
theorem m5' {tg : Expr} {sl : List Nat} {g : M.MG} (ha : SE X W a ma) (hg : SG X tg sl g) (hs : swapsWithSole [tg] a pos.line X.env = pure false := by rfl) (hw : swappedStores [tg] a X.env = pure none := by rfl)
    (h1 : (assignEach [tg] X.env).map (·.2) = [assign tg X.env] := by rfl) : SS X W (.Assign [tg] a pos) (M.ut' g ma) := PS.imp (ps_asg ha hg hs hw h1) fun D σ H ⟨ρ, F, T, fr, rel, h⟩ => by
  refine cG' rel h fun d ρ1 v H1 F1 T1 e1 z1 r1 h1 => ?_
  cases e : g d ρ1 with
  | none => rw [e] at h1; exact h1.elim
  | some ρ2 =>
    rw [e] at h1
    exact ⟨ρ1, F1, T1, fr, d, ρ2, r1, z1, e, fun σ' _ r' => h1 σ' H1 F1 T1 .refl r'⟩
theorem uo' {i : Nat} {x : Str} {op : Operator} {f : M.D -> M.D -> Option M.D} {ti : TIp} {pos' : Pos} (hN : X.N.Nodup) (hi : X.N[i]? = some x) (hx : Loc X.env.scope x) (ha : SE X W a ma) (ho : PIp X op ti)
    (hf2 : ∀ {F H : Hp} {T : List Addr} {fp : Fp} {x y : V} {dx dy dz : M.D} {Q : VK}, FpH F H fp -> Fz X.K F T x dx -> Fz X.K F T y dy -> f dx dy = some dz -> eV' X.K F T fp dz Q -> ti x y H Q)
    (hf : X.fn x = true \/ X.env.scope.names.lookup x = some .local := by first | exact .inl rfl | exact .inr rfl | assumption) :
    SS X W (.AugAssign (.Name x pos') op a pos) (M.vU' f i ma) := PS.imp (ps_aug hN hi hx ha ho hf) fun D σ H ⟨ρ, F, T, fr, rel, h⟩ => by
  unfold M.vU' at h
  split at h
  . rename_i d e
    obtain ⟨fe, fw, re, rw, ff⟩ := id rel
    obtain ⟨v, hv, zv⟩ := re.data e
    refine ⟨v, hv, cG' rel h fun d2 ρ1 u H1 F1 T1 e1 z1 r1 h1 => ?_⟩
    cases q : f d d2 with
    | none => rw [q] at h1; exact h1.elim
    | some z =>
      rw [q] at h1
      obtain ⟨fp, f1, back⟩ := r1.fp
      refine hf2 f1 (zv.mono e1) z1 q fun v2 H2 F2 s2 z2 f2 => ?_
      unfold M.vN' at h1
      dsimp only at h1
      split at h1
      . rename_i hl
        exact h1 _ H2 F2 T1 (.of s2) ((back H2 F2 s2 f2).put hl (.fz z2) .nilL)
      . exact h1.elim
  . exact h.elim
theorem yE' {F H : Hp} {T : List Addr} {fp : Fp} {x y : V} {dx dy dz : M.D} {Q : VK} {K : PySem.W.Frag} (f : FpH F H fp) (hx : Fz K F T x dx) (hy : Fz K F T y dy) (h : M.qT' dx dy = some dz) (k : eV' K F T fp dz Q) : ipI (fun i j => i + j) x y H Q := by
  cases dx <;> cases dy <;> try (cases h; done)
  cases hx; cases hy; cases h
  exact ⟨_, _, rfl, rfl, k.here f (.int _)⟩
theorem RpA.app {K : PySem.W.Frag} {F : Hp} {T : List Addr} : ∀ {vs ws : List V} {os ps : List M.O} {fp fq : Fp}, RpA K F T vs os fp -> RpA K F T ws ps fq -> RpA K F T (vs ++ ws) (os ++ ps) (fp ++ fq)
  | _, _, _, _, _, _, .nil, h => h
  | _, _, _, _, _, _, .cons a r, h => by
    rw [List.append_assoc]
    exact .cons a (RpA.app r h)
theorem RpA.length {K : PySem.W.Frag} {F : Hp} {T : List Addr} : ∀ {vs : List V} {os : List M.O} {fp : Fp}, RpA K F T vs os fp -> vs.length = os.length
  | _, _, _, .nil => rfl
  | _, _, _, .cons _ r => congrArg (· + 1) (RpA.length r)
theorem Rel.slotW {K : PySem.W.Frag} {ρ : M.PSt} {F : Hp} {T : List Addr} {fr : Fp} {i : Nat} {p : Addr} {os : List M.O} (rel : Rel K ρ σ H F T fr) (e : ρ.env[i]? = some (some (.lst os))) (hp : σ[i]? = some (some (.ref p))) :
    ∃ vs f2, H p = some (.lst vs) /\ RpA K F T vs os f2 /\ ∀ vs' os' f2' fr', RpA K F T vs' os' f2' -> Part (f2' ++ fr') (f2 ++ fr) -> Rel K ⟨ρ.env.set i (some (.lst os')), ρ.w⟩ σ (upd H p (.lst vs')) F T fr' := by
  obtain ⟨fe, fw, re, rw, f⟩ := rel
  obtain ⟨v, f1, f2, f3, h1, rfl, h3, h4, h5⟩ := re.get e
  rw [h1] at hp
  cases hp
  cases h3 with
  | lst r =>
    rename_i vs0 fp0
    refine ⟨vs0, fp0, (f.at_ (p, .lst vs0) (by simp)).1, r, fun vs' os' f2' fr' r' pt => ?_⟩
    have e5 := h5 F T (.ref p) (.lst os') ((p, .lst vs') :: f2') .refl (.lst r')
    rw [ec' h1] at e5
    refine ⟨_, fw, e5, rw, ?_⟩
    have fA : FpH F H (f1 ++ ((p, .lst vs0) :: (f3 ++ (fw ++ (fp0 ++ fr))))) := f.part (by
      constructor
      . intro e h
        simp only [List.mem_append, List.mem_cons] at *
        grind
      . intro x
        simp only [keys, List.map_append, List.map_cons, List.count_append, List.count_cons] at *
        omega)
    have fB := fA.write (o' := .lst vs')
    refine fB.part (.trans (b := f1 ++ ((p, .lst vs') :: (f3 ++ (fw ++ (f2' ++ fr'))))) ?_ ?_)
    . constructor
      . intro e h
        simp only [List.mem_append, List.mem_cons] at *
        grind
      . intro x
        simp only [keys, List.map_append, List.map_cons, List.count_append, List.count_cons] at *
        omega
    . have := pt.m
      have := pt.c
      constructor
      . intro e h
        simp only [List.mem_append, List.mem_cons] at *
        grind
      . intro x
        have := pt.c x
        simp only [keys, List.map_append, List.map_cons, List.count_append, List.count_cons] at *
        omega
theorem eX' {i : Nat} {x : Str} {px apos cpos : Pos} (hv : PE X (.Name x px) (tVar i)) (ha : SO X W a mo)
    (hbase : attributeBase (.Name x px) "append" X.env (eval (.Name x px) X.env) = eval (.Name x px) X.env := by rfl)
    (hfew : ((backTo cpos (starEach [a] X.env)).all (fun x => !x.1) && (backToKw cpos (keywordEach [] X.env)).all (fun x => x.1.isSome)
      && decide ([a].length + ([] : List Keyword).length + (if ([] : List Keyword).isEmpty then 0 else 1) < 30)) = true := by rfl)
    (hline : (apos.endLine == cpos.line) = true := by rfl) (hs : starEach [a] X.env = (false, eval a X.env) :: starEach [] X.env := by rfl) (hplain : (backTo cpos (starEach [] X.env)).any (·.1) = false := by rfl)
    (hsw : swapsWith (.Call (.Attribute (.Name x px) "append" apos) [a] [] cpos) none pos.line X.env = pure false := by rfl) :
    SS X W (.Expr (.Call (.Attribute (.Name x px) "append" apos) [a] [] cpos) pos) (M.ol' i mo) :=
  PS.imp (ps_expr (pe_bm PySem.F.plainAttrs_list PySem.F.slot_list_append PySem.F.type_list_append mt_append hv (pa_cons ha pa_nil hs) hbase hfew hline hs hplain) hsw) fun D σ H ⟨ρ, F, T, fr, rel, h⟩ => by
    unfold M.ol' at h
    split at h
    . rename_i os0 e0
      obtain ⟨fe, fw, re, rw, ff⟩ := id rel
      obtain ⟨v, f1, f2, f3, h1, _, h3, _⟩ := re.get e0
      cases h3 with
      | @lst p vs0 _ fp0 r0 =>
        obtain ⟨vs1, f21, hH, _, _⟩ := rel.slotW e0 h1
        refine ⟨.ref p, h1, .inl ⟨rfl, vs1, SqL.of hH⟩, f8' rel h fun o ρ1 u H1 F1 T1 fp e1 z1 r1 h2 => ?_⟩
        split at h2
        . rename_i os e2
          split at h2
          . rename_i hl
            obtain ⟨vs, f2', hH2, r2, back⟩ := r1.slotW e2 h1
            refine ⟨p, vs, u, rfl, rfl, hH2, by rw [r2.length, bu']; exact hl, ?_⟩
            have z1' : RpA X.K F1 T1 [u] [o] (fp ++ []) := .cons z1 .nil
            exact h2 σ _ F1 T1 .refl (back _ _ _ fr (r2.app z1') (by
              constructor
              . intro e h
                simp only [List.mem_append, List.not_mem_nil] at *
                grind
              . intro x
                simp only [keys, List.map_append, List.map_nil, List.count_append, List.count_nil] at *
                omega))
          . exact h2.elim
        . exact h2.elim
    . exact h.elim
theorem tq' {K : PySem.W.Frag} {sl : List Nat} {it : M.MI} {g : M.MG} {b : M.MS} (h : qS K W (M.eZ' it g b) D σ H) : tFor (qI K W it) (qG K sl g) (qS K W b) D σ H := by
  obtain ⟨ρ, F, T, fr, rel, h⟩ := h
  refine vT' rel h fun ds ρ1 J H1 F1 T1 e1 io r1 h1 => ?_
  refine ⟨fun i m σ2 H2 => m = ds.length - i /\ i <= ds.length /\ ∃ ρ2 F2 T2, Ext F1 T1 F2 T2 /\ Rel K ρ2 σ2 H2 F2 T2 fr /\ bB' K W D F2 T2 fr (M.nL' g b (ds.drop i) ρ2), ⟨ds.length, by simp, Nat.zero_le _, ρ1, F1, T1, .refl, r1, h1⟩, ?_⟩
  rintro i m σ2 H2 ⟨rfl, hi, ρ2, F2, T2, e2, r2, h2⟩
  obtain ⟨fe, fw, re, rw, f2⟩ := id r2
  obtain ⟨st, yl⟩ := io F2 T2 H2 _ i e2 f2 hi
  by_cases hl : i = ds.length
  . refine .inl ⟨st hl, ?_⟩
    rw [hl, List.drop_length] at h2
    exact h2 σ2 H2 F2 T2 .refl r2
  . have hlt : i < ds.length := by omega
    obtain ⟨go, yh⟩ := yl ds[i] (List.getElem?_eq_getElem hlt)
    refine .inr ⟨go, fun σ3 H3 => ∃ ρ3 F3 T3, Ext F1 T1 F3 T3 /\ Rel K ρ3 σ3 H3 F3 T3 fr /\ bB' K W D F3 T3 fr (M.nL' g b (ds.drop (i + 1)) ρ3), fun σ3 H3 n => ⟨ds.length - (i + 1), by omega, rfl, hlt, n⟩, fun x H3 y => ?_⟩
    obtain ⟨F3, s3, zx, f3⟩ := yh x H3 y
    have r3 : Rel K ρ2 σ2 H3 F3 T2 fr := ⟨fe, fw, re.mono (.of s3), rw.mono (.of s3), f3⟩
    rw [List.drop_eq_getElem_cons hlt] at h2
    unfold M.nL' at h2
    cases eg : g ds[i] ρ2 with
    | none => rw [eg] at h2; exact h2.elim
    | some ρ4 =>
      rw [eg] at h2
      refine ⟨ρ2, F3, T2, fr, ds[i], ρ4, r3, zx, eg, fun σ4 _ r4 => ⟨ρ4, F3, T2, fr, r4, ?_⟩⟩
      have h3 := bB'.mono h2 (.of s3)
      have e3 : Ext F1 T1 F3 T2 := e2.trans (.of s3)
      dsimp only at h3
      cases eb : b ρ4 with
      | nx ρ5 => rw [eb] at h3; exact fun σ5 H5 F5 T5 e5 r5 => ⟨ρ5, F5, T5, e3.trans e5, r5, bB'.mono h3 e5⟩
      | ct ρ5 => rw [eb] at h3; exact fun σ5 H5 F5 T5 e5 r5 => ⟨ρ5, F5, T5, e3.trans e5, r5, bB'.mono h3 e5⟩
      | bk ρ5 => rw [eb] at h3; exact fun σ5 H5 F5 T5 e5 r5 => h3 σ5 H5 F5 T5 e5 r5
      | rt o w => rw [eb] at h3; exact h3
      | exc x ρ5 => rw [eb] at h3; exact h3
      | bad => rw [eb] at h3; exact h3
theorem bG' {tg iter : Expr} {sl : List Nat} {it : M.MI} {g : M.MG} (hp : PassesOwn (model X.prog X.w) X.A X.env X.xe) (hc : X.calm = true) (hi : SI X W tg iter it) (hg : SG X tg sl g) (hb : SSs X W body m1)
    (hs : ∀ x, foldedSetIterable iter X.env x = pure x := by intro _; rfl) : SS X W (.For tg iter body [] pos) (M.eZ' it g m1) := PS.imp (ps_for hp hc hi hg hb hs) fun D σ H h => tq' h
theorem fB' (n : Nat) (hp : PassesOwn (model X.prog X.w) X.A X.env X.xe) (hc : ST X W c mt) (hb : SSs X W body m1) : SS X W (.While c body [] pos) (M.f7' n mt m1) := PS.imp (ps_while hp hc hb) fun D σ H ⟨ρ, F, T, fr, rel, h⟩ => by
  refine ⟨fun m σ2 H2 => ∃ ρ2 F2 T2, Ext F T F2 T2 /\ Rel X.K ρ2 σ2 H2 F2 T2 fr /\ bB' X.K W D F2 T2 fr (M.dN' mt m1 m ρ2), ⟨n, ρ, F, T, .refl, rel, h⟩, ?_⟩
  rintro m σ2 H2 ⟨ρ2, F2, T2, e2, r2, h2⟩
  cases m with
  | zero => exact h2.elim
  | succ m =>
    refine qt' r2 (show bB' X.K W D F2 T2 fr ((mt ρ2).out _) from h2) fun k ρ3 H3 F3 T3 e3 r3 h3 => ?_
    cases k with
    | false => rw [if_neg Bool.false_ne_true] at h3 ⊢; exact h3 σ2 H3 F3 T3 .refl r3
    | true =>
      rw [if_pos rfl] at h3 ⊢
      have e4 := e2.trans e3
      refine ⟨fun σ4 H4 => ∃ ρ4 F4 T4, Ext F T F4 T4 /\ Rel X.K ρ4 σ4 H4 F4 T4 fr /\ bB' X.K W D F4 T4 fr (M.dN' mt m1 m ρ4), fun σ' H' q => ⟨m, Nat.lt_succ_self m, q⟩, ρ3, F3, T3, fr, r3, ?_⟩
      cases eb : m1 ρ3 with
      | nx ρ5 => rw [eb] at h3; exact fun σ5 H5 F5 T5 e5 r5 => ⟨ρ5, F5, T5, e4.trans e5, r5, bB'.mono h3 e5⟩
      | ct ρ5 => rw [eb] at h3; exact fun σ5 H5 F5 T5 e5 r5 => ⟨ρ5, F5, T5, e4.trans e5, r5, bB'.mono h3 e5⟩
      | bk ρ5 => rw [eb] at h3; exact fun σ5 H5 F5 T5 e5 r5 => h3 σ5 H5 F5 T5 e5 r5
      | rt o w => rw [eb] at h3; exact h3
      | exc x ρ5 => rw [eb] at h3; exact h3
      | bad => rw [eb] at h3; exact h3
theorem sC' {e : Expr} {x : String} (hc : X.calm = true) (tk : Takes X W) (he : PMk X e (fun _ H Q => Q (.ref (He.ga X.K x)) none H)) : SS X W (.Raise (some e) none pos) (M.us' x) := PS.imp (ps_raise hc tk he) fun D σ H ⟨ρ, F, T, fr, rel, h⟩ =>
  h σ _ _ H F T .refl ⟨rfl, .inl ⟨rfl, rfl⟩⟩ rel
def xm' (K : PySem.W.Frag) (Q : VK) (E : XK) (F : Hp) (T : List Addr) (fr : Fp) : M.FRes -> Prop
  | .ok o w' => ∀ v H' F' T' fp, Ext F T F' T' -> Rp K F' T' v o fp -> sf' K (w') H' F' T' (fp ++ fr) -> Q v H'
  | .exc x w' => ∀ cls dd H' F' T', Ext F T F' T' -> XcR K F' T' x cls dd -> sf' K (w') H' F' T' fr -> E cls dd H'
  | .bad => False
def spM (K : PySem.W.Frag) (m : M.MF) : Sp := fun vs H Q E => ∃ ds w F T fr, FzA K F T vs ds /\ sf' K (w) H F T fr /\ xm' K Q E F T fr (m ds w)
theorem RpE.start {K : PySem.W.Frag} {F : Hp} {T : List Addr} {n : Nat} : ∀ {vs : List V} {ds : List M.D}, FzA K F T vs ds -> RpE K F T (vs.map some ++ List.replicate n none) (ds.map (fun d => some (.fz d)) ++ List.replicate n none) []
  | _, _, .nil => by
    show RpE K F T (List.replicate n none) (List.replicate n none) []
    induction n with
    | zero => exact .nil
    | succ n ih => exact .off ih
  | _, _, .cons z r => RpE.on (fp := []) (fq := []) (.fz z) (RpE.start r)
end
section
variable {P : Program} {w : World} {K : PySem.W.Frag} {mg : Str -> Option Value} {base : Heap}
end
section
variable {X : Cx} {k : Nat} {x : Str} {ps : List Str} {p pos : Pos} {e : Expr} {es : List Expr} {as : M.MA} {W : WX} {m : M.MF}
theorem rQ' {K : PySem.W.Frag} {σ : St} {H : Hp} {Q : VK} (h : qO K W (M.az' m as) σ H Q) : tCallS (spM K m) (WE W) (qA K W as) σ H Q := by
  obtain ⟨ρ, F, T, fr, rel, h⟩ := h
  refine cV' rel h fun ds ρ1 vs H1 F1 T1 e1 z1 r1 h1 => ?_
  obtain ⟨fe, fw, re, rw, f⟩ := r1
  refine ⟨ds, ρ1.w, F1, T1, fe ++ fr, z1, ⟨[], fw, yL', rw, f.part (Part.swap : Part (fw ++ (fe ++ fr)) (fe ++ (fw ++ fr)))⟩, ?_⟩
  cases em : m ds ρ1.w with
  | bad => rw [em] at h1; exact h1.elim
  | ok o w' =>
    rw [em] at h1
    refine fun v H' F' T' fp e z r => h1 v H' F' T' fp (e1.trans e) z ?_
    obtain ⟨fe', fw', re', rw', f'⟩ := r
    cases re'
    refine ⟨fe, fw', re.mono e, rw', f'.part ?_⟩
    constructor
    . intro e h
      simp only [List.mem_append, List.not_mem_nil] at *
      grind
    . intro x
      simp only [keys, List.map_append, List.map_nil, List.count_append, List.count_nil] at *
      omega
  | exc x w' =>
    rw [em] at h1
    refine fun cls dd H' F' T' e z r => h1 cls dd H' F' T' e z ?_
    obtain ⟨fe', fw', re', rw', f'⟩ := r
    cases re'
    refine ⟨fe, fw', re.mono e, rw', f'.part ?_⟩
    constructor
    . intro e h
      simp only [List.mem_append, List.not_mem_nil] at *
      grind
    . intro x
      simp only [keys, List.map_append, List.map_nil, List.count_append, List.count_nil] at *
      omega
theorem aj' (F : Og X.prog X.w X.K X.mg X.base k x ps (spM X.K m)) (hr : RoomG k X.A) (hg : Gl X x) (tk : Takes X W) (ha : SA X W (e :: es) as) (hdb : (x == ("__debug__" : Str)) = false := by decide)
    (he : starEach (e :: es) X.env = (false, eval e X.env) :: starEach es X.env := by rfl) (hpl : (backTo pos (starEach es X.env)).any (·.1) = false := by rfl) : SO X W (.Call (.Name x p) (e :: es) [] pos) (M.az' m as) :=
  PE.imp (s2' F hr hg tk ha hdb he hpl) fun _ _ _ h => rQ' h
theorem dE' : Takes X W0 := fun _ _ ⟨_, _, _, _, _, _, _, _, _, _, _, _, _, _, _, _, w⟩ => w.elim
end
end S
namespace S
open PySem PySem.Spec PyProof.Rows L2
variable [Wd]
section
variable {P : Program} {w : World} {K : PySem.W.Frag} {mg : Str -> Option Value} {base : Heap}
theorem Dt' {x qual : Str} {st : Stmt} {f : Addr} {fd : FuncData} {N ps : List Str} {k j n : Nat} {b : M.MS} (F : FunD K x qual (defArgs st) (defBody st) (defScope st) [] [] f fd) (S : FnScope N ps (defScope st)) (hj : ps.length = j) (hn : N.length = n)
    (hbody : ∀ (cdv oc : Value) (od : Option Addr) (osl : Array (Option Value)), K.lookup f = some ⟨oc, od, .func fd, osl⟩ -> fd.code = cdv -> PySem.W.codeIn K cdv qual = true -> ∀ (A : Around) (outer : List Env) (s : Shared) (H : Hp) (E : XK), RoomG k (A.deeper (envOfC qual (defScope st) s.heap.objs.size f cdv)) →
      SSs (cxOf (L2.CX P w) P w K mg base N qual (defScope st) f cdv A outer s H E) (fun cls d _ H => E cls d H) (defBody st) b)   : FnG P w K mg base (L2.CX P w) (k + 1) f fd ps (spM K (M.fnM j n b)) := by
  refine wI' F S (fun vs H Q E h => ?_) fun cdv oc od osl lk e1 e2 A outer s H vs Q E hr h => ⟨_, hbody cdv oc od osl lk e1 e2 A outer s H E hr, ?_⟩
  . obtain ⟨ds, w', F', T, fr, za, rel, h⟩ := h
    unfold M.fnM at h
    by_cases hl : ds.length = j
    . rw [za.length, hl, hj]
    . rw [if_neg hl] at h; exact h.elim
  . obtain ⟨ds, w', F', T, fr, za, rel, h⟩ := h
    unfold M.fnM at h
    by_cases hl : ds.length = j
    . rw [if_pos hl] at h
      obtain ⟨fe, fw, re, rw', ff⟩ := rel
      cases re
      have re' : RpE K F' T (L2.start N vs) (ds.map (fun d => some (.fz d)) ++ List.replicate (n - j) none) [] := by
        unfold L2.start
        rw [hn, za.length, hl]
        exact RpE.start za
      refine ⟨⟨_, w'⟩, F', T, fr, ⟨[], fw, re', rw', ff⟩, ?_⟩
      generalize b ⟨ds.map (fun d => some (.fz d)) ++ List.replicate (n - j) none, w'⟩ = r at h
      cases r with
      | nx ρ => exact fun σ' H' F2 T2 e2 r2 => h .non H' F2 T2 [] e2 (.fz .non) r2.noenv
      | rt o w2 => exact fun v H' F2 T2 fp e2 z2 r2 => h v H' F2 T2 fp e2 z2 r2
      | exc x ρ => exact fun σ' cls dd H' F2 T2 e2 z2 r2 => h cls dd H' F2 T2 e2 z2 r2.noenv
      | bk ρ => exact h.elim
      | ct ρ => exact h.elim
      | bad => exact h.elim
    . rw [if_neg hl] at h; exact h.elim
theorem okM {x qual : Str} {st : Stmt} {f : Addr} {fd : FuncData} {N ps : List Str} {k j n : Nat} {b : M.MS} (F : FunD K x qual (defArgs st) (defBody st) (defScope st) [] [] f fd) (S : FnScope N ps (defScope st)) (hj : ps.length = j) (hn : N.length = n)
    (hbody : ∀ (cdv : Value) (A : Around) (outer : List Env) (s : Shared) (H : Hp) (E : XK), RoomG k (A.deeper (envOfC qual (defScope st) s.heap.objs.size f cdv)) →
      SSs (cxOf (L2.CX P w) P w K mg base N qual (defScope st) f cdv A outer s H E) (fun cls d _ H => E cls d H) (defBody st) b)   : FnG P w K mg base (L2.CX P w) (k + 1) f fd ps (spM K (M.fnM j n b)) :=
  Dt' F S hj hn fun cdv _ _ _ _ _ _ => hbody cdv
end
end S
namespace S
open PySem PySem.Spec PyProof.Rows L2
variable [Wd] [Hot]
section
variable {K : PySem.W.Frag}
theorem wK' {F : Hp} {T : List Addr} {x y : V} {dx dy : M.D} (hx : Fz K F T x dx) (hy : Fz K F T y dy) (sx' : M.sca dx = true) (sy : M.sca dy = true) : eqV y x = M.eqb dy dx /\ flatV x = true := by
  cases dx <;> try (cases sx'; done)
  all_goals cases dy <;> try (cases sy; done)
  all_goals first
    | (cases hx; cases hy; exact ⟨rfl, rfl⟩)
    | skip
  obtain ⟨rfl, _⟩ := hx.str_inv
  obtain ⟨rfl, _⟩ := hy.str_inv
  exact ⟨un' _ _, rfl⟩
theorem rv' {F : Hp} {T : List Addr} {x : V} {dx : M.D} (hx : Fz K F T x dx) (sx' : M.sca dx = true) : ∀ {vs : List V} {ds : List M.D}, FzA K F T vs ds -> ds.all M.sca = true -> inV x vs = ds.any (fun d => M.eqb d dx) /\ vs.all flatV = true
  | _, _, .nil, _ => ⟨rfl, rfl⟩
  | _, _, .cons z r, h => by
    rw [List.all_cons, Bool.and_eq_true] at h
    obtain ⟨h1, h2⟩ := rv' hx sx' r h.2
    obtain ⟨h3, h4⟩ := wK' hx z sx' h.1
    obtain ⟨_, h5⟩ := wK' z z h.1 h.1
    refine ⟨?_, ?_⟩
    . show (eqV _ x || inV x _) = _
      rw [List.any_cons, h3, h1]
    . rw [List.all_cons, h5, h2]; rfl
theorem nO' {F : Hp} {T : List Addr} {x : V} {dx : M.D} (hx : Fz K F T x dx) (s : M.sca dx = true) : flatV x = true := (wK' hx hx s s).2
theorem nG' {dx dy dz : M.D} (h : M.pIn dx dy = some dz) : (∃ c s, dx = .str [c] /\ dy = .str s /\ dz = .bl (decide (c ∈ s))) \/ (∃ ds, (dy = .lst ds \/ dy = .tup ds) /\ M.sca dx = true /\ ds.all M.sca = true /\ dz = .bl (ds.any fun d => M.eqb d dx)) := by
  unfold M.pIn at h
  split at h
  . exact .inl ⟨_, _, rfl, rfl, (Option.some.inj h).symm⟩
  . split at h
    . rename_i c; exact .inr ⟨_, .inl rfl, c.1, c.2, (Option.some.inj h).symm⟩
    . cases h
  . split at h
    . rename_i c; exact .inr ⟨_, .inr rfl, c.1, c.2, (Option.some.inj h).symm⟩
    . cases h
  . cases h
theorem uG' : Op2 K M.pIn (CO' K) := by
  intro F H T fp x y dx dy dz Q f hx hy h k
  rcases nG' h with ⟨c, s, rfl, rfl, rfl⟩ | ⟨ds, e, h1, h2, rfl⟩
  . obtain ⟨rfl, o1⟩ := hx.str_inv
    obtain ⟨rfl, o2⟩ := hy.str_inv
    exact .inl ⟨c, _, rfl, rfl, k.here f (.bl _)⟩
  . rcases e with rfl | rfl
    . obtain ⟨a, vs, rfl, ha, za⟩ := hy.lst_inv
      obtain ⟨e1, e2⟩ := rv' hx h1 za h2
      refine .inr (.inl ⟨a, vs, rfl, .inl (SqL.of (f.low _ _ ha)), nO' hx h1, e2, ?_⟩)
      rw [if_neg Bool.false_ne_true, e1]
      exact k.here f (.bl _)
    . obtain ⟨a, vs, rfl, ha, za⟩ := hy.tup_inv
      obtain ⟨e1, e2⟩ := rv' hx h1 za h2
      refine .inr (.inl ⟨a, vs, rfl, .inr (seqT f.low ha), nO' hx h1, e2, ?_⟩)
      rw [if_neg Bool.false_ne_true, e1]
      exact k.here f (.bl _)
theorem qX' : Op2 K M.gh' (qH' K) := by
  intro F H T fp x y dx dy dz Q f hx hy h k
  unfold M.gh' at h
  split at h
  . rename_i b hb
    cases h
    rcases nG' hb with ⟨c, s, rfl, rfl, eb⟩ | ⟨ds, e, h1, h2, eb⟩
    . cases eb
      obtain ⟨rfl, o1⟩ := hx.str_inv
      obtain ⟨rfl, o2⟩ := hy.str_inv
      exact .inl ⟨c, _, rfl, rfl, k.here f (.bl _)⟩
    . cases eb
      rcases e with rfl | rfl
      . obtain ⟨a, vs, rfl, ha, za⟩ := hy.lst_inv
        obtain ⟨e1, e2⟩ := rv' hx h1 za h2
        refine .inr (.inl ⟨a, vs, rfl, .inl (SqL.of (f.low _ _ ha)), nO' hx h1, e2, ?_⟩)
        rw [if_pos rfl, e1]
        exact k.here f (.bl _)
      . obtain ⟨a, vs, rfl, ha, za⟩ := hy.tup_inv
        obtain ⟨e1, e2⟩ := rv' hx h1 za h2
        refine .inr (.inl ⟨a, vs, rfl, .inr (seqT f.low ha), nO' hx h1, e2, ?_⟩)
        rw [if_pos rfl, e1]
        exact k.here f (.bl _)
  . cases h
theorem mZ' {F : Hp} {T : List Addr} : ∀ {vs : List V} {ds : List M.D} {ss : List M.Tx}, FzA K F T vs ds -> M.dM' ds = some ss -> vs = (ss.map sx).map V.str /\ ∀ s ∈ ss, okT s
  | _, _, ss, .nil, h => by cases h; exact ⟨rfl, fun s h => nomatch h⟩
  | _, d :: ds, ss, .cons a r, h => by
    cases d <;> try (cases h; done)
    rename_i b
    cases q : M.dM' ds with
    | none => simp only [M.dM', q] at h; cases h
    | some cs =>
      simp only [M.dM', q, Option.map_some] at h
      cases h
      obtain ⟨rfl, o⟩ := a.str_inv
      obtain ⟨rfl, os⟩ := mZ' r q
      refine ⟨rfl, fun s hs => ?_⟩
      rcases List.mem_cons.mp hs with rfl | hs
      . exact o
      . exact os s hs
theorem nC' (sep : M.Tx) : ∀ ss : List M.Tx, TL.joinL sep ss = M.cP' sep ss
  | [] => rfl
  | [_] => rfl
  | a :: b :: r => by
    show a ++ (sep ++ TL.joinL sep (b :: r)) = a ++ (sep ++ M.cP' sep (b :: r))
    rw [nC' sep (b :: r)]
theorem wu' (sep : M.Tx) (ss : List M.Tx) : Txt.join (sx sep) (ss.map sx) = sx (M.cP' sep ss) := by
  rw [TL.join_eq]
  refine kI' ?_
  have := TL.tl_join (sx sep) (ss.map sx)
  rw [List.map_map, show ss.map (TL.tl ∘ sx) = ss from (List.map_congr_left fun a _ => rfl).trans (List.map_id ss), show TL.tl (sx sep) = sep from rfl, nC'] at this
  exact this
theorem jU' (sep : M.Tx) : ∀ (ss : List M.Tx) (c : Nat), c ∈ M.cP' sep ss -> c ∈ sep \/ ∃ s ∈ ss, c ∈ s
  | [], c, h => by cases h
  | [a], c, h => .inr ⟨a, by simp, h⟩
  | a :: b :: r, c, h => by
    rcases List.mem_append.mp (show c ∈ a ++ (sep ++ M.cP' sep (b :: r)) from h) with h | h
    . exact .inr ⟨a, by simp, h⟩
    . rcases List.mem_append.mp h with h | h
      . exact .inl h
      . rcases jU' sep (b :: r) c h with h | ⟨s, h1, h2⟩
        . exact .inl h
        . exact .inr ⟨s, List.mem_cons_of_mem _ h1, h2⟩
theorem eo' (sep : M.Tx) : ∀ (ss : List M.Tx), (M.cP' sep ss).length <= (ss.map List.length).sum + ss.length * sep.length
  | [] => by simp [M.cP']
  | [a] => by simp [M.cP']
  | a :: b :: r => by
    have ih := eo' sep (b :: r)
    show (a ++ (sep ++ M.cP' sep (b :: r))).length <= _
    rw [List.length_append, List.length_append, List.map_cons, List.sum_cons, List.length_cons (as := b :: r), Nat.succ_mul]
    omega
def MtD (K : PySem.W.Frag) (f : M.Tx -> List M.D -> Option M.D) (r : V -> List V -> Hp -> VK -> Prop) : Prop := ∀ {F H : Hp} {T : List Addr} {fp : Fp} {s : M.Tx} {xs : List V} {ds : List M.D} {dz : M.D} {Q : VK}, FpH F H fp -> okT s -> FzA K F T xs ds -> f s ds = some dz -> eV' K F T fp dz Q -> r (.str (sx s)) xs H Q
theorem FzA.one {F : Hp} {T : List Addr} {xs : List V} {d : M.D} (h : FzA K F T xs [d]) : ∃ v, xs = [v] /\ Fz K F T v d := by
  cases h with
  | cons a r => cases r; exact ⟨_, rfl, a⟩
theorem yO' : MtD K M.la' (yu' K) := by
  intro F H T fp a xs ds dz Q f oa hx h k
  have fin : ∀ {ds : List M.D} {p : Addr} {vs : List V}, (SqL K H p vs \/ SqT K H p vs) -> FzA K F T vs ds -> ((M.dM' ds).bind fun ys => if (ys.map List.length).sum + ys.length * a.length <= M.cR' then some (M.D.str (M.cP' a ys)) else none) = some dz -> yu' K (.str (sx a)) [.ref p] H Q := by
    intro ds p vs hp za e
    cases q : M.dM' ds with
    | none => rw [q] at e; cases e
    | some ss =>
      rw [q, Option.bind_some] at e
      split at e
      . rename_i hl
        cases e
        obtain ⟨rfl, os⟩ := mZ' za q
        refine ⟨_, p, ss.map sx, rfl, rfl, hp, ?_, ?_⟩
        . rw [List.map_map, show ss.map (Str.length ∘ sx) = ss.map List.length from List.map_congr_left fun s _ => ca' s, List.length_map, ca']
          exact hl
        . rw [wu']
          refine k.here f (.str ⟨fun c hc => ?_, Nat.le_trans (eo' a ss) hl⟩)
          rcases jU' a ss c hc with h | ⟨s, h1, h2⟩
          . exact oa.1 c h
          . exact (os s h1).1 c h2
      . cases e
  unfold M.la' at h
  split at h
  . obtain ⟨v, rfl, z⟩ := hx.one
    obtain ⟨p, vs, rfl, ha, za⟩ := z.lst_inv
    exact fin (.inl (SqL.of (f.low _ _ ha))) za h
  . obtain ⟨v, rfl, z⟩ := hx.one
    obtain ⟨p, vs, rfl, ha, za⟩ := z.tup_inv
    exact fin (.inr (seqT f.low ha)) za h
  . cases h
theorem wH' (a b : M.Tx) (i : Nat) : (decide (i + (sx b).length <= (sx a).length) && Builtin.Str.subAt (sx a) (sx b) i) = M.uM' a b i := by
  rw [ca', ca', PySem.StrLaws.subAt_eq, dO', dO', ca']
  unfold M.uM'
  congr 1
  rw [Bool.eq_iff_iff]
  simp
end
section
variable {X : Cx} {W : WX} {K : PySem.W.Frag} {cpos apos p : Pos} {name : Str} {id T : String} {o e : Expr} {es : List Expr} {mo : M.ME} {as : M.MA} {σ : St} {H : Hp} {Q : VK}
theorem wk' {f : M.Tx -> List M.D -> Option M.D} {r : V -> List V -> Hp -> VK -> Prop} (hf : MtD K f r) (h : qE K W (M.eMt f mo as) σ H Q) : tBM K "str" r (qE K W mo) (qA K W as) σ H Q := by
  obtain ⟨ρ, F, T, fr, rel, h⟩ := h
  refine aB' rel h fun dx ρ1 v H1 F1 T1 e1 z1 r1 h1 => ?_
  cases dx <;> try exact h1.elim
  obtain ⟨rfl, o⟩ := z1.str_inv
  refine ⟨rfl, ?_⟩
  refine cV' r1 h1 fun ds ρ2 vs H2 F2 T2 e2 z2 r2 h2 => ?_
  obtain ⟨dz, ez, q⟩ := aG'.ofO h2
  obtain ⟨fp, f2, back⟩ := r2.fp
  exact hf f2 o z2 ez fun v' H3 F3 s zz f3 => q v' H3 F3 T2 (e1.trans (e2.trans (.of s))) zz (back H3 F3 s f3)
theorem vP' {f : M.Tx -> List M.D -> Option M.D} {r : V -> List V -> Hp -> VK -> Prop} (slot : Slot "str" name id) (hty : typeOf (.builtin id) = pure (.type "method_descriptor")) (hm : MtR X id r) (hf : MtD X.K f r) (ho : SE X W o mo) (ha : SA X W (e :: es) as)
    (hbase : attributeBase o name X.env (eval o X.env) = eval o X.env := by rfl)
    (hfew : ((backTo cpos (starEach (e :: es) X.env)).all (fun x => !x.1) && (backToKw cpos (keywordEach [] X.env)).all (fun x => x.1.isSome)
      && decide ((e :: es).length + ([] : List Keyword).length + (if ([] : List Keyword).isEmpty then 0 else 1) < 30)) = true := by rfl)
    (hline : (apos.endLine == cpos.line) = true := by rfl) (hs : starEach (e :: es) X.env = (false, eval e X.env) :: starEach es X.env := by rfl) (hplain : (backTo cpos (starEach es X.env)).any (·.1) = false := by rfl) :
    SE X W (.Call (.Attribute o name apos) (e :: es) [] cpos) (M.eMt f mo as) := PE.imp (pe_bm PySem.F.plainAttrs_str slot hty hm ho ha hbase hfew hline hs hplain) fun _ _ _ h => wk' hf h
end
end S
namespace S
open PySem PySem.Spec PyProof.Rows L2
variable [Wd] [Hot]
section
variable {K : PySem.W.Frag} {F F' H H' : Hp} {T T' : List Addr} {fp fq fr : Fp} {ρ : M.PSt} {σ : St} {W : WX} {Q : VK}
theorem RpW.get {l : List Addr} {w : M.W} {n : Nat} {ob : M.Ob} (r : RpW K F T l w fp) (h : w[n]? = some ob) : ∃ a f1 f2 f3, l[n]? = some a /\ fp = f1 ++ (f2 ++ f3) /\ RpOb K F T a ob f2 ∧
    ∀ F' T' ob' f2', Ext F T F' T' -> RpOb K F' T' a ob' f2' -> RpW K F' T' l (w.set n ob') (f1 ++ (f2' ++ f3)) := by
  induction r generalizing n with
  | nil => cases h
  | @cons a l ob0 w fa fb r0 r ih =>
    cases n with
    | zero =>
      cases h
      exact ⟨a, [], fa, fb, rfl, rfl, r0, fun F' T' ob' f2' e r' => (RpW.cons r' (r.mono e) : RpW K F' T' _ _ (f2' ++ fb))⟩
    | succ n =>
      obtain ⟨a', f1, f2, f3, h1, rfl, h3, h4⟩ := ih (n := n) h
      refine ⟨a', fa ++ f1, f2, f3, h1, by simp, h3, fun F' T' ob' f2' e r' => ?_⟩
      rw [List.append_assoc]
      exact .cons (r0.mono e) (h4 F' T' ob' f2' e r')
theorem RpW.len {l : List Addr} {w : M.W} (r : RpW K F T l w fp) : l.length = w.length := by
  induction r with
  | nil => rfl
  | cons _ _ ih => exact congrArg (· + 1) ih
theorem RpA.get : ∀ {vs : List V} {os : List M.O} {fp : Fp} {i : Nat} {d : M.D}, RpA K F T vs os fp -> os[i]? = some (.fz d) -> ∃ v, vs[i]? = some v /\ Fz K F T v d
  | _, _, _, _, _, .nil, e => by cases e
  | _, _, _, 0, _, .cons h _, e => by
    have e := Option.some.inj e
    subst e
    cases h with
    | fz z => exact ⟨_, rfl, z⟩
  | _, _, _, i + 1, _, .cons _ r, e => RpA.get (i := i) r e
theorem RpA.ati {vs : List V} {os : List M.O} {i : Int} {d : M.D} (h : RpA K F T vs os fp) (e : M.ati os i = some (.fz d)) : ∃ v, atI vs i = some v /\ Fz K F T v d := by
  unfold M.ati at e
  unfold atI
  rw [h.length]
  cases q : M.ixn os.length i with
  | none => rw [q] at e; cases e
  | some j =>
    rw [q] at e
    obtain ⟨v, h1, h2⟩ := h.get (i := j) e
    have q' : ixN os.length i = some j := q
    rw [q']
    exact ⟨v, h1, h2⟩
theorem Rel.wlist (rel : Rel K ρ σ H F T fr) {n : Nat} {os : List M.O} (h : ρ.w[n]? = some (.lst os)) : ∃ a vs f2, T[n]? = some a /\ H a = some (.lst vs) /\ RpA K F T vs os f2 ∧
    ∀ vs' os' f2' fr', RpA K F T vs' os' f2' -> Part (f2' ++ fr') (f2 ++ fr) -> Rel K ⟨ρ.env, ρ.w.set n (.lst os')⟩ σ (upd H a (.lst vs')) F T fr' := by
  obtain ⟨fe, fw, re, rw, f⟩ := rel
  obtain ⟨a, f1, f2, f3, h1, rfl, h3, h4⟩ := rw.get h
  cases h3 with
  | lst r =>
    rename_i vs fp0
    refine ⟨a, vs, fp0, h1, (f.at_ (a, .lst vs) (by simp)).1, r, fun vs' os' f2' fr' r' pt => ?_⟩
    have e5 := h4 F T (.lst os') ((a, .lst vs') :: f2') .refl (.lst r')
    refine ⟨fe, _, re, e5, ?_⟩
    have fA : FpH F H ((fe ++ f1) ++ ((a, .lst vs) :: (f3 ++ (fp0 ++ fr)))) := f.part (by
      constructor
      . intro e h
        simp only [List.mem_append, List.mem_cons] at *
        grind
      . intro x
        simp only [keys, List.map_append, List.map_cons, List.count_append, List.count_cons] at *
        omega)
    have fB := fA.write (o' := .lst vs')
    refine fB.part ?_
    have pm := pt.m
    constructor
    . intro e h
      have := pm e
      simp only [List.mem_append, List.mem_cons] at *
      grind
    . intro x
      have := pt.c x
      simp only [keys, List.map_append, List.map_cons, List.count_append, List.count_cons] at *
      omega
theorem RpA.set {v : V} {d : M.D} (zd : Fz K F T v d) : ∀ {os : List M.O} {vs : List V} {f2 : Fp} (j : Nat), RpA K F T vs os f2 -> ∃ f2', RpA K F T (vs.set j v) (os.set j (.fz d)) f2' /\ Part f2' f2
  | [], _, _, _, .nil => ⟨[], .nil, .refl⟩
  | o :: os, _, _, 0, .cons r0 r => ⟨_, RpA.cons (fp := []) (.fz zd) r, .right .refl⟩
  | o :: os, _, _, j + 1, .cons r0 r => by
    obtain ⟨f2', q1, q2⟩ := RpA.set zd j r
    exact ⟨_, .cons r0 q1, .app .refl q2⟩
theorem RpA.set' {v : V} {d : M.D} {vs : List V} {os : List M.O} {fp : Fp} (h : RpA K F T vs os fp) (j : Nat) (zd : Fz K F T v d) : ∃ f2', RpA K F T (vs.set j v) (os.set j (.fz d)) f2' /\ Part f2' fp := RpA.set zd j h
theorem sA' {w w' : M.W} {x k d : M.D} (h : M.sB' w x k d = some w') : ∃ n z os j, x = .obj n /\ k = .int z /\ w[n]? = some (.lst os) /\ M.ixn os.length z = some j /\ w' = w.set n (.lst (os.set j (.fz d))) := by
  unfold M.sB' at h
  split at h
  . rename_i n z
    split at h
    . rename_i os e
      cases q : M.ixn os.length z with
      | none => rw [q] at h; cases h
      | some j =>
        rw [q] at h
        cases h
        exact ⟨n, z, os, j, rfl, rfl, e, q, rfl⟩
    . cases h
  . cases h
theorem tj' {ma mb : M.ME} (h : qE K W (M.iN' ma mb) σ H Q) : tOp (rIx K) (qE K W ma) (qE K W mb) σ H Q := by
  obtain ⟨ρ, F, T, fr, rel, h⟩ := h
  refine aB' rel h fun dx ρ1 v H1 F1 T1 e1 z1 r1 h1 => ?_
  refine aB' r1 h1 fun dy ρ2 u H2 F2 T2 e2 z2 r2 h2 => ?_
  obtain ⟨dz, ez, q⟩ := aG'.ofO h2
  by_cases ho : ∃ n, dx = .obj n
  . obtain ⟨n, rfl⟩ := ho
    cases e : ρ2.w[n]? with
    | none => simp only [M.ixW, e] at ez; cases ez
    | some ob =>
      cases ob with
      | lst os =>
        simp only [M.ixW, e] at ez
        obtain ⟨a, vs, f2, h3, h4, h5, _⟩ := r2.wlist e
        cases z1.mono e2 with
        | obj t =>
          rw [h3] at t
          cases t
          cases dy <;> try (cases ez; done)
          rename_i i
          cases z2
          unfold M.ixO at ez
          cases e6 : M.ati os i with
          | none => simp only [e6] at ez; cases ez
          | some o =>
            cases o <;> simp only [e6] at ez <;> try (cases ez; done)
            cases ez
            obtain ⟨v', h7, h8⟩ := h5.ati e6
            exact .inl ⟨_, vs, i, v', rfl, rfl, SqL.of h4, h7, q v' H2 F2 T2 (e1.trans e2) h8 r2⟩
      | dct ks vs => simp only [M.ixW, e] at ez; cases ez
      | dcx ks vs => simp only [M.ixW, e] at ez; cases ez
      | ins C fs => simp only [M.ixW, e] at ez; cases ez
  . have ez' : M.pIx dx dy = some dz := by
      cases dx <;> first | exact ez | exact absurd ⟨_, rfl⟩ ho
    obtain ⟨fp, f2, back⟩ := r2.fp
    exact c9' f2 (z1.mono e2) z2 ez' fun v' H3 F3 s zz f3 => q v' H3 F3 T2 (e1.trans (e2.trans (.of s))) zz (back H3 F3 s f3)
end
section
variable {X : Cx} {W : WX} {pos tpos : Pos} {a b o i : Expr} {ma mb mo mi : M.ME} {as : M.MA} {es : List Expr} {σ : St} {H : Hp} {Q : VK}
theorem cN' (ha : SE X W a ma) (hb : SE X W b mb) (hs : PlainIx b) : SE X W (.Subscript a b pos) (M.iN' ma mb) := PE.imp (pe_ix ix_seq ha hb hs) fun _ _ _ h => tj' h
theorem fW' (ha : SE X W a ma) (ho : SE X W o mo) (hi : SE X W i mi)
    (hst : ∀ v, assign (.Subscript o i tpos) X.env v = (do
      let ov ← holding [v] (eval o X.env)
      let iv ← holding [v, ov] (eval i X.env)
      standAt tpos
      holding [v, ov, iv] (setItem ov iv v)
      release [v, ov, iv] []) := by intro _; rfl)
    (hs : swapsWithSole [.Subscript o i tpos] a pos.line X.env = pure false := by rfl) (hw : swappedStores [.Subscript o i tpos] a X.env = pure none := by rfl)
    (h1 : (assignEach [.Subscript o i tpos] X.env).map (·.2) = [assign (.Subscript o i tpos) X.env] := by rfl) : SS X W (.Assign [.Subscript o i tpos] a pos) (M.if' mo mi ma) :=
  PS.imp (ps_asg ha (pg_sub ho hi set_list hst) hs hw h1) fun D σ H ⟨ρ, F, T, fr, rel, h⟩ => by
    refine cG' rel h fun d ρ1 v H1 F1 T1 e1 z1 r1 h1 => ?_
    refine cG' r1 h1 fun dx ρ2 u H2 F2 T2 e2 z2 r2 h2 => ?_
    refine cG' r2 h2 fun dk ρ3 t H3 F3 T3 e3 z3 r3 h3 => ?_
    cases es : M.sB' ρ3.w dx dk d with
    | none => rw [es] at h3; exact h3.elim
    | some w' =>
      rw [es] at h3
      obtain ⟨n, z, os, j, rfl, rfl, e, ej, rfl⟩ := sA' es
      cases z3
      obtain ⟨p, vs, f2, h4, h5, h6, back⟩ := r3.wlist e
      cases z2.mono e3 with
      | obj t =>
        rw [h4] at t
        cases t
        have ej' : ixN vs.length z = some j := by rw [h6.length]; exact ej
        obtain ⟨f2', q1, q2⟩ := h6.set' j ((z1.mono e2).mono e3)
        exact ⟨p, vs, z, j, rfl, rfl, h5, ej', h3 σ _ F3 T3 .refl (back _ _ f2' fr q1 (.app q2 .refl))⟩
theorem x7' (h : SA X W es as) : SO X W (.List es pos) (M.yJ' as) := PE.imp (pe_lst h) fun σ H Q ⟨ρ, F, T, fr, rel, h⟩ => by
  refine cV' rel h fun ds ρ1 vs H1 F1 T1 e1 z1 r1 h1 => ?_
  split at h1
  . rename_i hl
    refine ⟨by rw [z1.length, bu']; exact hl, fun p hp => ?_⟩
    obtain ⟨fe, fw, re, rw, f⟩ := r1
    have eT : Ext F1 T1 F1 (T1 ++ [p]) := ⟨fun _ _ h => .inl h, ⟨[p], rfl⟩⟩
    have hn : (T1 ++ [p])[ρ1.w.length]? = some p := by rw [<- rw.len, List.getElem?_append_right (Nat.le_refl _), Nat.sub_self]; rfl
    have app : ∀ {l : List Addr} {w : M.W} {fw : Fp}, RpW X.K F1 T1 l w fw -> ∃ fw', RpW X.K F1 (T1 ++ [p]) (l ++ [p]) (w ++ [.lst (ds.map .fz)]) fw' /\ Part fw' ((p, .lst vs) :: fw) := by
      intro l w fw r
      induction r with
      | nil => exact ⟨_, RpW.cons (RpOb.lst (RpA.of_fz (z1.mono eT))) .nil, by simp only [List.append_nil]; exact .refl⟩
      | @cons a l ob w fa fb r0 r ih =>
        obtain ⟨fw', q1, q2⟩ := ih
        refine ⟨fa ++ fw', .cons (r0.mono eT) q1, ?_⟩
        have p1 : Part (fa ++ fw') (fa ++ ((p, .lst vs) :: fb)) := .app .refl q2
        refine p1.trans ?_
        constructor
        . intro e h
          simp only [List.mem_append, List.mem_cons] at *
          grind
        . intro x
          simp only [keys, List.map_append, List.map_cons, List.count_append, List.count_cons] at *
          omega
    obtain ⟨fw', q1, q2⟩ := app rw
    refine h1 (.ref p) (upd H1 p (.lst vs)) F1 (T1 ++ [p]) [] (e1.trans eT) (.fz (.obj hn)) ⟨fe, fw', re.mono eT, q1, ?_⟩
    refine (f.own hp).part ?_
    have p1 : Part (fe ++ (fw' ++ ([] ++ fr))) (fe ++ (((p, .lst vs) :: fw) ++ fr)) := .app .refl (.app q2 .nilL)
    refine p1.trans ?_
    constructor
    . intro e h
      simp only [List.mem_append, List.mem_cons] at *
      grind
    . intro x
      simp only [keys, List.map_append, List.map_cons, List.count_append, List.count_cons] at *
      omega
  . exact h1.elim
theorem ht' {n : Nat} (hv : PE X a (tVar n)) (hb : SE X W b mb) (hs : PlainIx b) : SE X W (.Subscript a b pos) (M.sc' n mb) := PE.imp (pe_ix ix_seq hv hb hs) fun σ H Q ⟨ρ, F, T, fr, rel, h⟩ => by
  unfold M.sc' at h
  split at h
  . rename_i o0 e0
    obtain ⟨fe, fw, re, rw, f⟩ := id rel
    obtain ⟨v, h1⟩ := re.val e0
    refine ⟨v, h1, aB' rel h fun dk ρ1 u H1 F1 T1 e1 z1 r1 h2 => ?_⟩
    split at h2
    . rename_i o e2
      obtain ⟨dz, ez, q⟩ := aG'.ofO h2
      obtain ⟨fe', fw', re', rw', f'⟩ := id r1
      obtain ⟨v', f1', f2', f3', h1', rfl, h3', _⟩ := re'.get e2 (M.dW' (fun z => by rw [z] at ez; exact nomatch (show (none : Option M.D) = some dz from ez)) fun z => by rw [z] at ez; exact nomatch (show (none : Option M.D) = some dz from ez))
      rw [h1] at h1'
      cases h1'
      cases h3' with
      | fz z =>
        obtain ⟨fx, f4, back⟩ := r1.fp
        exact c9' f4 z z1 ez fun v' H3 F3 s zz f3 => q v' H3 F3 T1 (e1.trans (.of s)) zz (back H3 F3 s f3)
      | @lst p vs os fp0 r =>
        cases dk <;> try (cases ez; done)
        rename_i i
        cases z1
        unfold M.ixO at ez
        cases e6 : M.ati os i with
        | none => simp only [e6] at ez; cases ez
        | some o =>
          cases o <;> simp only [e6] at ez <;> try (cases ez; done)
          cases ez
          obtain ⟨v', h7, h8⟩ := r.ati e6
          exact .inl ⟨p, vs, i, v', rfl, rfl, SqL.of (f'.at_ (p, .lst vs) (by simp)).1, h7, q v' H1 F1 T1 e1 h8 r1⟩
      | @tup p vs os fp0 r =>
        cases dk <;> try (cases ez; done)
        rename_i i
        cases z1
        unfold M.ixO at ez
        cases e6 : M.ati os i with
        | none => simp only [e6] at ez; cases ez
        | some o =>
          cases o <;> simp only [e6] at ez <;> try (cases ez; done)
          cases ez
          obtain ⟨v', h7, h8⟩ := r.ati e6
          exact .inr (.inl ⟨p, vs, i, v', rfl, rfl, SqT.of (f'.at_ (p, .tup vs) (by simp)).1, h7, q v' H1 F1 T1 e1 h8 r1⟩)
      | dct _ r => cases dk <;> cases ez
      | dcl _ r => cases dk <;> cases ez
      | dcn _ _ r => cases dk <;> cases ez
    . exact h2.elim
  . exact h.elim
theorem rk' {K : PySem.W.Frag} {n : Nat} (h : qE K W (M.gB' n) σ H Q) : tCB (vY' K) (tCons (tVar n) tNil) σ H Q := by
  obtain ⟨ρ, F, T, fr, rel, h⟩ := h
  unfold M.gB' at h
  split at h
  . rename_i o e
    obtain ⟨dz, ez, q⟩ := aG'.ofO h
    obtain ⟨fe, fw, re, rw, f⟩ := id rel
    obtain ⟨v, f1, f2, f3, h1, rfl, h3, _⟩ := re.get e (M.dW' (fun z => by rw [z] at ez; exact nomatch (show (none : Option M.D) = some dz from ez)) fun z => by rw [z] at ez; exact nomatch (show (none : Option M.D) = some dz from ez))
    refine ⟨v, h1, ?_⟩
    cases h3 with
    | fz z =>
      exact cJ' f z ez fun v' H3 F3 s zz f3 => q v' H3 F3 T (.of s) zz ⟨_, fw, re.mono (.of s), rw.mono (.of s), f3⟩
    | @lst p vs os fp0 r =>
      cases ez
      refine .inl (.inr (.inl ⟨p, vs, rfl, .inl (SqL.of (f.at_ (p, .lst vs) (by simp)).1), ?_⟩))
      rw [r.length]
      exact q _ H F T .refl (.int _) rel
    | @tup p vs os fp0 r =>
      cases ez
      refine .inl (.inr (.inl ⟨p, vs, rfl, .inr (SqT.of (f.at_ (p, .tup vs) (by simp)).1), ?_⟩))
      rw [r.length]
      exact q _ H F T .refl (.int _) rel
    | @dct p kvs os fp0 _ r =>
      cases ez
      refine .inl (.inr (.inr ⟨p, kvs, rfl, .inl (f.at_ (p, .dK kvs) (by simp)).1, q _ H F T .refl ?_ rel⟩))
      rw [List.length_map]
      exact .int _
    | @dcl p kvs ks os fp0 ke r =>
      cases ez
      have e2 : kvs.length = ks.length := by have := congrArg List.length ke.e; simpa using this
      refine .inr (.inl ⟨p, kvs, rfl, .inl (f.at_ (p, dcL p kvs) (by simp)).1, q _ H F T .refl ?_ rel⟩)
      rw [e2]
      exact .int _
    | @dcn p xs ks os fp0 ke z r =>
      cases ez
      have e2 : xs.length = ks.length := by have := congrArg List.length ke.e; simpa using this
      refine .inr (.inr ⟨p, xs, rfl, .inl (f.at_ (p, dcN p xs) (by simp)).1, q _ H F T .refl ?_ rel⟩)
      rw [e2]
      exact .int _
  . exact h.elim
theorem fY' {n : Nat} {x : Str} {p : Pos} (hwd : X.prog = Wd.P /\ X.w = Wd.w) (hg : Gl X x) (hm : X.mg x = none) (hv : bootBuiltins x = some (.builtin "len")) (ha : PE X a (tVar n)) (hn : x ≠ "__name__" := by decide) (hdb : (x == ("__debug__" : Str)) = false := by decide)
    (he : starEach [a] X.env = (false, eval a X.env) :: starEach [] X.env := by rfl) (hpl : (backTo pos (starEach [] X.env)).any (·.1) = false := by rfl) : SE X W (.Call (.Name x p) [a] [] pos) (M.gB' n) := PE.imp (pe_callB (aF' hwd) hg hm hv (pa_cons ha pa_nil he) hn hdb he hpl) fun _ _ _ => rk'
theorem vH' {n : Nat} (ha : SE X W a ma) (ho : PE X o (tVar n)) (hi : SE X W i mi)
    (hst : ∀ v, assign (.Subscript o i tpos) X.env v = (do
      let ov ← holding [v] (eval o X.env)
      let iv ← holding [v, ov] (eval i X.env)
      standAt tpos
      holding [v, ov, iv] (setItem ov iv v)
      release [v, ov, iv] []) := by intro _; rfl)
    (hs : swapsWithSole [.Subscript o i tpos] a pos.line X.env = pure false := by rfl) (hw : swappedStores [.Subscript o i tpos] a X.env = pure none := by rfl)
    (h1 : (assignEach [.Subscript o i tpos] X.env).map (·.2) = [assign (.Subscript o i tpos) X.env] := by rfl) : SS X W (.Assign [.Subscript o i tpos] a pos) (M.qu' n mi ma) :=
  PS.imp (ps_asg ha (pg_sub ho hi set_list hst) hs hw h1) fun D σ H ⟨ρ, F, T, fr, rel, h⟩ => by
    refine cG' rel h fun d ρ1 v H1 F1 T1 e1 z1 r1 h1 => ?_
    split at h1
    . rename_i o0 e0
      obtain ⟨fe, fw, re, rw, f⟩ := id r1
      obtain ⟨v0, hv0⟩ := re.val e0
      refine ⟨v0, hv0, cG' r1 h1 fun dk ρ2 u H2 F2 T2 e2 z2 r2 h2 => ?_⟩
      split at h2
      . rename_i os z e3
        split at h2
        . rename_i j ej
          cases z2
          obtain ⟨fe', fw', re', rw', f'⟩ := id r2
          obtain ⟨v1, _, _, _, hv1, _, h3, _⟩ := re'.get e3
          rw [hv0] at hv1
          cases hv1
          cases h3 with
          | @lst p vs0 _ fp0 r0 =>
            obtain ⟨vs, f2', hH2, q2, back⟩ := r2.slotW e3 hv0
            obtain ⟨f3', q3, q4⟩ := q2.set' j (z1.mono e2)
            have ej' : ixN vs.length z = some j := by rw [q2.length]; exact ej
            exact ⟨p, vs, z, j, rfl, rfl, hH2, ej', h2 σ _ F2 T2 .refl (back _ _ f3' fr q3 (.app q4 .refl))⟩
        . exact h2.elim
      . exact h2.elim
    . exact h1.elim
end
end S
namespace S
open PySem PySem.Spec PyProof.Rows L2
variable [Wd] [Hot]
local macro_rules | `(tactic| walk_at "parts") => `(tactic| (constructor; (intro e h; simp only [List.mem_append, List.mem_cons, List.not_mem_nil] at *; grind); (intro x; simp only [keys, List.map_append, List.map_cons, List.map_nil, List.count_append, List.count_cons, List.count_nil] at *; omega)))
theorem e6' {a b : String} (h : Str.ofString a = Str.ofString b) : a = b := by
  rw [Str.ofString_eq_toList, Str.ofString_eq_toList] at h
  have h2 : a.toList.map Char.toNat = b.toList.map Char.toNat := by
    have := congrArg (fun z : Str => z.cps.toList) h
    simpa using this
  have h3 : a.toList = b.toList := by
    have inj : ∀ (x y : List Char), x.map Char.toNat = y.map Char.toNat -> x = y := by
      intro x
      induction x with
      | nil => intro y h; cases y with
        | nil => rfl
        | cons _ _ => cases h
      | cons c x ih => intro y h; cases y with
        | nil => cases h
        | cons d y =>
          rw [List.map_cons, List.map_cons] at h
          injection h with h1 h2
          rw [ih y h2, show c = d from Char.toNat_inj.mp h1]
    exact inj _ _ h2
  exact String.toList_inj.mp h3
section
variable {K : PySem.W.Frag} {F F' H H' : Hp} {T T' : List Addr} {fp fq fr : Fp} {ρ : M.PSt} {σ : St} {W : WX} {Q : VK}
abbrev r8' (q : String × V) : Str × V := (Str.ofString q.1, q.2)
theorem rg' (f : String) : ∀ fv : List (String × V), (fv.map r8').lookup (Str.ofString f) = fv.lookup f
  | [] => rfl
  | (g, v) :: r => by
    rw [List.map_cons]
    by_cases h : f = g
    . subst h
      show List.lookup _ ((Str.ofString f, v) :: _) = _
      rw [List.lookup_cons_self, List.lookup_cons_self]
    . have h1 : (f == g) = false := by simpa using h
      have h2 : (Str.ofString f == Str.ofString g) = false := by
        rw [beq_eq_false_iff_ne]
        exact fun e => h (e6' e)
      show List.lookup _ ((Str.ofString g, v) :: _) = _
      simp only [List.lookup, h1, h2]
      exact rg' f r
theorem RpA.lookup {f : String} {o : M.O} : ∀ {fv : List (String × V)} {os : List M.O} {fp : Fp}, RpA K F T (fv.map (·.2)) os fp -> ((fv.map (·.1)).zip os).lookup f = some o →
    ∃ v f1 f2 f3, fv.lookup f = some v /\ fp = f1 ++ (f2 ++ f3) /\ Rp K F T v o f2
  | [], _, _, r, h => by cases r; cases h
  | (g, v) :: fv, _, _, r, h => by
    cases r with
    | @cons _ _ o1 os fp fq r0 r =>
      rw [List.map_cons, List.zip_cons_cons] at h
      by_cases e : f = g
      . subst e
        rw [List.lookup_cons_self] at h
        cases h
        exact ⟨v, [], fp, fq, List.lookup_cons_self, rfl, r0⟩
      . have h1 : (f == g) = false := by simpa using e
        simp only [List.lookup, h1] at h
        obtain ⟨v', f1, f2, f3, e1, e2, e3⟩ := RpA.lookup r h
        refine ⟨v', fp ++ f1, f2, f3, ?_, by rw [e2, List.append_assoc], e3⟩
        simp only [List.lookup, h1]
        exact e1
theorem rh' {f : String} : ∀ {fv : List (String × V)} {os : List M.O}, fv.length = os.length -> ((fv.map (·.1)).zip os).lookup f = none -> fv.lookup f = none
  | [], _, _, _ => rfl
  | (g, v) :: fv, [], h, _ => by cases h
  | (g, v) :: fv, o :: os, hl, h => by
    rw [List.map_cons, List.zip_cons_cons] at h
    by_cases e : f = g
    . subst e
      rw [List.lookup_cons_self] at h
      cases h
    . have h1 : (f == g) = false := by simpa using e
      simp only [List.lookup, h1] at h ⊢
      exact rh' (Nat.succ.inj hl) h
def putS (f : String) (v : V) : List (String × V) -> List (String × V)
  | [] => [(f, v)]
  | (g, x) :: r => if g = f then (g, v) :: r else (g, x) :: putS f v r
theorem nh' (f : String) (v : V) : ∀ fv : List (String × V), putF (Str.ofString f) v (fv.map r8') = (putS f v fv).map r8'
  | [] => rfl
  | (g, x) :: r => by
    rw [List.map_cons]
    show (if Str.ofString g = Str.ofString f then _ else _) = _
    unfold putS
    by_cases h : g = f
    . rw [if_pos h, if_pos (by rw [h])]
      rfl
    . rw [if_neg h, if_neg (fun e => h (e6' e)), nh' f v r]
      rfl
theorem RpA.putS {f : String} {o : M.O} {v : V} (q : Rp K F T v o fq) : ∀ {fv : List (String × V)} {os : List M.O} {fp : Fp}, RpA K F T (fv.map (·.2)) os fp →
    ∃ os' fp', M.qP' f o ((fv.map (·.1)).zip os) = ((S.putS f v fv).map (·.1)).zip os' /\ RpA K F T ((S.putS f v fv).map (·.2)) os' fp' /\ Part fp' (fq ++ fp)
  | [], _, _, r => by
    cases r
    exact ⟨[o], fq ++ [], rfl, .cons q .nil, by walk_at "parts"⟩
  | (g, x) :: fv, _, _, r => by
    cases r with
    | @cons _ _ o1 os fp fp2 r0 r =>
      unfold S.putS
      by_cases h : g = f
      . refine ⟨o :: os, fq ++ fp2, ?_, ?_, by walk_at "parts"⟩
        . rw [if_pos h, List.map_cons, List.zip_cons_cons]
          show (if g = f then _ else _) = _
          rw [if_pos h, List.map_cons, List.zip_cons_cons]
        . rw [if_pos h]
          exact .cons q r
      . obtain ⟨os', fp', h1, h2, h3⟩ := RpA.putS q r
        refine ⟨o1 :: os', fp ++ fp', ?_, ?_, ?_⟩
        . rw [if_neg h, List.map_cons, List.zip_cons_cons]
          show (if g = f then _ else _) = _
          rw [if_neg h, h1, List.map_cons, List.zip_cons_cons]
        . rw [if_neg h]
          exact .cons r0 h2
        . have h4 : Part (fp ++ fp') (fp ++ (fq ++ fp2)) := .app .refl h3
          refine h4.trans ?_
          walk_at "parts"
theorem Rel.wins (rel : Rel K ρ σ H F T fr) {n : Nat} {C : String} {fs : List (String × M.O)} (h : ρ.w[n]? = some (.ins C fs)) :
    ∃ (a dx : Addr) (fv : List (String × V)) (os : List M.O) (f2 : Fp), T[n]? = some a /\ fs = (fv.map (·.1)).zip os /\ H a = some (.ins (He.ga K C) dx (fv.map r8')) /\ RpA K F T (fv.map (·.2)) os f2 ∧
    (∃ f0, FpH F H ((a, .ins (He.ga K C) dx (fv.map r8')) :: (f2 ++ f0))) ∧
    ∀ (fv' : List (String × V)) (os' : List M.O) (f2' fr' : Fp), RpA K F T (fv'.map (·.2)) os' f2' -> Part (f2' ++ fr') (f2 ++ fr) -> Rel K ⟨ρ.env, ρ.w.set n (.ins C ((fv'.map (·.1)).zip os'))⟩ σ (upd H a (.ins (He.ga K C) dx (fv'.map r8'))) F T fr' := by
  obtain ⟨fe, fw, re, rw, f⟩ := rel
  obtain ⟨a, f1, f2, f3, h1, rfl, h3, h4⟩ := rw.get h
  generalize eo : M.Ob.ins C fs = ob at h3
  cases h3 with
  | lst r => cases eo
  | dct _ r => cases eo
  | dcl _ r => cases eo
  | dcn _ _ r => cases eo
  | @ins dx C' fv os fp0 hd r =>
    cases eo
    have fA : FpH F H ((fe ++ f1) ++ ((a, .ins (He.ga K C) dx (fv.map r8')) :: (f3 ++ (fp0 ++ fr)))) := f.part (by walk_at "parts")
    refine ⟨a, dx, fv, os, fp0, h1, rfl, (f.at_ (a, .ins (He.ga K C) dx (fv.map r8')) (by simp)).1, r, ⟨fe ++ (f1 ++ (f3 ++ fr)), fA.part (by walk_at "parts")⟩, fun fv' os' f2' fr' r' pt => ?_⟩
    have e5 := h4 F T (.ins C ((fv'.map (·.1)).zip os')) ((a, .ins (He.ga K C) dx (fv'.map r8')) :: f2') .refl (.ins hd r')
    refine ⟨fe, _, re, e5, ?_⟩
    have fB := fA.write (o' := .ins (He.ga K C) dx (fv'.map r8'))
    refine fB.part ?_
    have pm := pt.m
    constructor
    . intro e h
      have := pm e
      simp only [List.mem_append, List.mem_cons] at *
      grind
    . intro x
      have := pt.c x
      simp only [keys, List.map_append, List.map_cons, List.count_append, List.count_cons] at *
      omega
theorem tt' {cs : List String} {f : String} {w : M.W} {x d : M.D} (h : M.gz' cs f w x = some d) : ∃ n C fs, x = .obj n /\ w[n]? = some (.ins C fs) /\ C ∈ cs /\ fs.lookup f = some (.fz d) := by
  unfold M.gz' at h
  split at h
  . rename_i n
    split at h
    . rename_i C fs e
      split at h
      . rename_i hC
        split at h
        . rename_i d' e2
          cases h
          exact ⟨n, C, fs, rfl, e, hC, e2⟩
        . cases h
      . cases h
    . cases h
  . cases h
theorem ts' {cs : List String} {f : String} {ma : M.ME} (hC : ∀ C ∈ cs, Cls K (He.ga K C) /\ NoAttr K (He.ga K C) (Str.ofString f)) (h : qE K W (M.de' cs ma f) σ H Q) : tFld K (qE K W ma) (Str.ofString f) σ H Q := by
  obtain ⟨ρ, F, T, fr, rel, h⟩ := h
  refine aB' rel h fun dx ρ1 v H1 F1 T1 e1 z1 r1 h1 => ?_
  obtain ⟨d, ed, q⟩ := aG'.ofO h1
  obtain ⟨n, C, fs, rfl, ew, hm, el⟩ := tt' ed
  obtain ⟨a, dx, fv, os, f2, hT, rfl, hH, r, _, _⟩ := r1.wins ew
  obtain ⟨v', _, _, _, e2, _, e3⟩ := r.lookup el
  cases z1 with
  | obj t =>
    rw [hT] at t
    cases t
    cases e3 with
    | fz z => exact ⟨a, _, dx, _, v', rfl, hH, (hC C hm).1, (hC C hm).2, by rw [rg']; exact e2, q v' H1 F1 T1 e1 z r1⟩
theorem qB' {K : PySem.W.Frag} {w : M.W} {fr' : Fp} (r : sf' K w H F T fr) (p : Part fr' fr) : sf' K w H F T fr' := by
  obtain ⟨fe, fw, re, rw, f⟩ := r
  exact ⟨fe, fw, re, rw, f.part (.app .refl (.app .refl p))⟩
theorem bB'.frame {D : Ends} {r : M.Out} (h : bB' K W D F T fr r) (p : Part fr fq) : bB' K W D F T fq r := by
  cases r with
  | nx ρ => exact fun σ' H' F' T' e r => h σ' H' F' T' e (r.part p)
  | bk ρ => exact fun σ' H' F' T' e r => h σ' H' F' T' e (r.part p)
  | ct ρ => exact fun σ' H' F' T' e r => h σ' H' F' T' e (r.part p)
  | rt o w => exact fun v H' F' T' fp e z r => h v H' F' T' fp e z (qB' r (.app .refl p))
  | exc x ρ => exact fun σ' cls dd H' F' T' e z r => h σ' cls dd H' F' T' e z (r.part p)
  | bad => exact h
theorem EX.frame {x : M.Exc} (h : EX K W σ F T fr x ρ) (p : Part fr fq) : EX K W σ F T fq x ρ := fun cls dd H' F' T' e z r => h cls dd H' F' T' e z (r.part p)
theorem sN' {D : Ends} {m : M.ME} {k : M.D -> M.PSt -> M.Out} (rel : Rel K ρ σ H F T (fp ++ fr)) (h : bB' K W D F T fr ((m ρ).out k))
    (q : ∀ d ρ1 v H1 F1 T1, Ext F T F1 T1 -> Fz K F1 T1 v d -> Rel K ρ1 σ H1 F1 T1 (fp ++ fr) -> bB' K W D F1 T1 fr (k d ρ1) -> Q v H1) : qE K W m σ H Q :=
  ⟨ρ, F, T, fp ++ fr, rel, (ei' h).mono (fun d ρ1 h1 v H1 F1 T1 e z r => q d ρ1 v H1 F1 T1 e z r (h1.mono e)) fun _ _ z => z.frame (.right .refl)⟩
theorem vG' {cs : List String} {f : String} {o : M.O} {w w' : M.W} {x : M.D} (h : M.stF cs f o w x = some w') : ∃ n C fs, x = .obj n /\ w[n]? = some (.ins C fs) /\ C ∈ cs /\ fs.length < 1000 /\ w' = w.set n (.ins C (M.qP' f o fs)) := by
  unfold M.stF at h
  split at h
  . rename_i n
    split at h
    . rename_i C fs e
      split at h
      . rename_i hC
        cases h
        exact ⟨n, C, fs, rfl, e, hC.1, hC.2, rfl⟩
      . cases h
    . cases h
  . cases h
theorem qn' {cs : List String} {f : String} {ma : M.ME} {mo : M.MO} {D : Ends} (hC : ∀ C ∈ cs, Cls K (He.ga K C) /\ NoAttr K (He.ga K C) (Str.ofString f)) (h : qS K W (M.sFld cs ma f mo) D σ H) : sFld K (qE K W ma) (qO K W mo) (Str.ofString f) D σ H := by
  obtain ⟨ρ, F, T, fr, rel, h⟩ := h
  refine f8' rel h fun o ρ1 y H1 F1 T1 fp e1 z1 r1 h1 => ?_
  refine sN' r1 h1 fun d ρ2 x H2 F2 T2 e2 z2 r2 h2 => ?_
  cases es : M.stF cs f o ρ2.w d with
  | none => rw [es] at h2; exact h2.elim
  | some w' =>
    rw [es] at h2
    obtain ⟨n, C, fs, rfl, ew, hm, hl, rfl⟩ := vG' es
    obtain ⟨a, dx, fv, os, f2, hT, rfl, hH, r, _, back⟩ := r2.wins ew
    cases z2 with
    | obj t =>
      rw [hT] at t
      cases t
      obtain ⟨os', fp', p1, p2, p3⟩ := RpA.putS (z1.mono e2) r (f := f)
      have hlen := r.length
      rw [List.length_map] at hlen
      rw [List.length_zip, List.length_map, hlen, Nat.min_self] at hl
      refine ⟨a, _, dx, _, rfl, hH, (hC C hm).1, (hC C hm).2, by rw [List.length_map, hlen]; exact hl, ?_⟩
      rw [nh']
      refine h2 σ _ F2 T2 .refl ?_
      show Rel K ⟨ρ2.env, ρ2.w.set n (.ins C (M.qP' f o _))⟩ σ _ F2 T2 fr
      rw [p1]
      refine back _ _ fp' fr p2 ?_
      have h4 : Part (fp' ++ fr) ((fp ++ f2) ++ fr) := .app p3 .refl
      refine h4.trans ?_
      walk_at "parts"
theorem RpW.snoc {a : Addr} {ob : M.Ob} {fb : Fp} (q : RpOb K F T a ob fb) {l : List Addr} {w : M.W} {fw : Fp} (r : RpW K F T l w fw) : ∃ fw', RpW K F T (l ++ [a]) (w ++ [ob]) fw' /\ Part fw' (fb ++ fw) := by
  induction r with
  | nil => exact ⟨_, RpW.cons q .nil, by walk_at "parts"⟩
  | @cons a l ob w fa fb' r0 r ih =>
    obtain ⟨fw', q1, q2⟩ := ih
    refine ⟨fa ++ fw', .cons r0 q1, ?_⟩
    have p1 : Part (fa ++ fw') (fa ++ (fb ++ fb')) := .app .refl q2
    refine p1.trans ?_
    walk_at "parts"
theorem Rel.reenv {env : List (Option M.O)} {fe : Fp} {w' : M.W} {F0 : Hp} {T0 : List Addr} (re : RpE K F0 T0 σ env fe) (e : Ext F0 T0 F T) (r : sf' K (w') H F T (fp ++ (fe ++ fr))) : Rel K ⟨env, w'⟩ σ H F T (fp ++ fr) := by
  obtain ⟨fe', fw', re', rw', f'⟩ := r
  cases re'
  exact ⟨fe, fw', re.mono e, rw', f'.part (by walk_at "parts")⟩
theorem q9' {C : String} {init : M.MF} {as : M.MA} (h : qO K W (M.jD' C init as) σ H Q) : ul' (He.ga K C) (spM K init) (WE W) (qA K W as) σ H Q := by
  obtain ⟨ρ, F, T, fr, rel, h⟩ := h
  refine cV' rel h fun ds ρ1 vs H1 F1 T1 e1 z1 r1 h1 => ?_
  intro x dx hx hdx hne
  obtain ⟨fe, fw, re, rw', f⟩ := r1
  have s1 : Same F1 (upd F1 dx (.own x)) := cg' (f.free hdx)
  have eT : Ext F1 T1 (upd F1 dx (.own x)) (T1 ++ [x]) := ⟨.of s1, ⟨[x], rfl⟩⟩
  have hn : (T1 ++ [x])[ρ1.w.length]? = some x := by rw [<- rw'.len, List.getElem?_append_right (Nat.le_refl _), Nat.sub_self]; rfl
  have qi : RpOb K (upd F1 dx (.own x)) (T1 ++ [x]) x (.ins C []) [(x, .ins (He.ga K C) dx [])] := RpOb.ins (fs := []) (os := []) (fp := []) upd_same .nil
  obtain ⟨fw', q1, q2⟩ := RpW.snoc qi (rw'.mono eT)
  have f1 : FpH (upd F1 dx (.own x)) (upd (upd H1 dx (.own x)) x (.ins (He.ga K C) dx [])) ((x, .ins (He.ga K C) dx []) :: (fe ++ (fw ++ fr))) := (f.new hdx).own (by rw [upd_ne (Ne.symm hne)]; exact hx)
  refine ⟨.obj ρ1.w.length :: ds, ρ1.w ++ [.ins C []], _, _, fe ++ fr, .cons (.obj hn) (z1.mono eT), ⟨[], fw', yL', q1, f1.part ?_⟩, ?_⟩
  . have p1 : Part ([] ++ (fw' ++ (fe ++ fr))) ([] ++ (([(x, .ins (He.ga K C) dx [])] ++ fw) ++ (fe ++ fr))) := .app .refl (.app q2 .refl)
    refine p1.trans ?_
    walk_at "parts"
  . cases em : init (.obj ρ1.w.length :: ds) (ρ1.w ++ [.ins C []]) with
    | bad => rw [em] at h1; exact h1.elim
    | ok o w' =>
      rw [em] at h1
      intro v H' F' T' fp e z r
      cases z with
      | fz z =>
        rename_i d
        cases d <;> try exact h1.elim
        refine ⟨z.non_inv, h1 (.ref x) H' F' T' [] (e1.trans (eT.trans e)) (.fz (.obj (e.get hn))) ?_⟩
        exact Rel.reenv (re.mono eT) e r
      | lst _ => exact h1.elim
      | tup _ => exact h1.elim
      | dct _ _ => exact h1.elim
      | dcl _ _ => exact h1.elim
      | dcn _ _ _ => exact h1.elim
    | exc x w' =>
      rw [em] at h1
      intro cls dd H' F' T' e z r
      refine h1 cls dd H' F' T' (eT.trans e) z ?_
      exact Rel.reenv (fp := []) (re.mono eT) e r
theorem rt' {cs : List String} {m : String} {w : M.W} {x : M.D} (h : M.jW' cs m w x = true) : ∃ C n fs, C ∈ cs /\ x = .obj n /\ w[n]? = some (.ins C fs) /\ fs.lookup m = none := by
  unfold M.jW' at h
  split at h
  . rename_i n
    split at h
    . rename_i C' fs e
      rw [Bool.and_eq_true, decide_eq_true_eq, Option.isNone_iff_eq_none] at h
      exact ⟨C', n, fs, h.1, rfl, e, h.2⟩
    . cases h
  . cases h
theorem q5' {cs : List String} {m : String} {mf : M.MF} {ma : M.ME} {as : M.MA} (h : qO K W (M.k5' cs m mf ma as) σ H Q) : uk' K cs (Str.ofString m) (spM K mf) (WE W) (qE K W ma) (qA K W as) σ H Q := by
  obtain ⟨ρ, F, T, fr, rel, h⟩ := h
  refine aB' rel h fun dx ρ1 v H1 F1 T1 e1 z1 r1 h1 => ?_
  split at h1
  . rename_i hi
    obtain ⟨C, n, fs, hC, rfl, ew, el⟩ := rt' hi
    obtain ⟨a, dx, fv, os, f2, hT, rfl, hH, r, _, _⟩ := r1.wins ew
    cases id z1 with
    | obj t =>
      rw [hT] at t
      cases t
      have hlen := r.length
      rw [List.length_map] at hlen
      refine ⟨C, hC, a, dx, _, rfl, hH, by rw [rg']; exact rh' hlen el, ?_⟩
      refine cV' r1 h1 fun ds ρ2 vs H2 F2 T2 e2 z2 r2 h2 => ?_
      obtain ⟨fe, fw, re, rw', f⟩ := r2
      refine ⟨.obj n :: ds, ρ2.w, F2, T2, fe ++ fr, .cons (z1.mono e2) z2, ⟨[], fw, yL', rw', f.part (by walk_at "parts")⟩, ?_⟩
      cases em : mf (.obj n :: ds) ρ2.w with
      | bad => rw [em] at h2; exact h2.elim
      | ok o w' =>
        rw [em] at h2
        exact fun v H' F' T' fp e z r => h2 v H' F' T' fp (e1.trans (e2.trans e)) z (Rel.reenv re e r)
      | exc x w' =>
        rw [em] at h2
        exact fun cls dd H' F' T' e z r => h2 cls dd H' F' T' e z (Rel.reenv (fp := []) re e r)
  . exact h1.elim
end
section
variable {X : Cx} {W : WX} {pos apos p pos' : Pos} {e o value : Expr} {es : List Expr} {ma : M.ME} {mo : M.MO} {as : M.MA} {k : Nat} {x : Str} {ps : List Str} {mf : M.MF}
theorem a7' {f : String} (cs : List String) (ha : SE X W e ma) (hC : ∀ C ∈ cs, Cls X.K (He.ga X.K C) /\ NoAttr X.K (He.ga X.K C) (Str.ofString f)) (hb : attributeBase e (Str.ofString f) X.env (eval e X.env) = eval e X.env := by rfl) :
    SE X W (.Attribute e (Str.ofString f) pos) (M.de' cs ma f) := PE.imp (pe_fld ha hb) fun _ _ _ h => ts' hC h
theorem eb' {f : String} (cs : List String) (ha : SE X W o ma) (hv : SO X W value mo) (hC : ∀ C ∈ cs, Cls X.K (He.ga X.K C) /\ NoAttr X.K (He.ga X.K C) (Str.ofString f)) (hs : swapsWith value (some (.Attribute o (Str.ofString f) pos')) pos.line X.env = pure false := by rfl) :
    SS X W (.Assign [.Attribute o (Str.ofString f) pos'] value pos) (M.sFld cs ma f mo) := PS.imp (ps_fld ha hv hs) fun _ _ _ h => qn' hC h
theorem kP' {C : String} (F : OgM X.prog X.w X.K X.mg X.base k (He.ga X.K C) "__init__" ps (spM X.K mf)) (hr : RoomG (k + 1) X.A) (hg : Gl X x) (Mk' : Mk X.K (He.ga X.K C) (He.ma X.K (He.ga X.K C) "__init__")) (hm : X.mg x = some (.ref (He.ga X.K C))) (tk : Takes X W)
    (ha : SA X W (e :: es) as) (hdb : (x == ("__debug__" : Str)) = false := by decide) (he : starEach (e :: es) X.env = (false, eval e X.env) :: starEach es X.env := by rfl) (hpl : (backTo pos (starEach es X.env)).any (·.1) = false := by rfl) :
    SO X W (.Call (.Name x p) (e :: es) [] pos) (M.jD' C mf as) := PE.imp (s0' F hr hg Mk' hm tk ha hdb he hpl) fun _ _ _ h => q9' h
theorem qk' {C m : String} {cs : List String} {pl : Sem Bool} (he : SE X W o ma) (F : OgM X.prog X.w X.K X.mg X.base k (He.ga X.K C) (Str.ofString m) ps (spM X.K mf)) (hr : RoomG k X.A) (hm : xn' X.K cs (Str.ofString m) (He.ma X.K (He.ga X.K C) (Str.ofString m))) (tk : Takes X W)
    (ha : SA X W (e :: es) as)
    (hst : starEach (e :: es) X.env = (false, eval e X.env) :: starEach es X.env := by rfl) (hpl : (backTo pos (starEach es X.env)).any (·.1) = false := by rfl)
    (ht : eval (.Call (.Attribute o (Str.ofString m) apos) (e :: es) [] pos) X.env = (do
      let ov ← eval o X.env
      standAt apos.atName
      let (f, first) ← holding [ov] (getMethod ov (Str.ofString m) pl)
      callWith pos f first (backTo pos (starEach (e :: es) X.env)) (backToKw pos (keywordEach [] X.env))) := by rfl) :
    SO X W (.Call (.Attribute o (Str.ofString m) apos) (e :: es) [] pos) (M.k5' cs m mf ma as) := PE.imp (sZ' he F hr hm tk ha hst hpl ht) fun _ _ _ h => q5' h
end
end S
namespace S
open PySem PySem.Spec PyProof.Rows L2
variable [Wd] [Hot]
local macro_rules | `(tactic| walk_at "parts") => `(tactic| (constructor; (intro e h; simp only [List.mem_append, List.mem_cons, List.not_mem_nil] at *; grind); (intro x; simp only [keys, List.map_append, List.map_cons, List.map_nil, List.count_append, List.count_cons, List.count_nil] at *; omega)))
section
variable {K : PySem.W.Frag} {W : WX} {Q : VK} {σ : St} {H : Hp}
theorem ix' {F : Hp} {T : List Addr} : ∀ {vs : List V} {ds : List M.D} {ns : List Int}, FzA K F T vs ds -> M.bt' ds = some ns -> vs = ns.map V.int
  | _, _, ns, .nil, h => by cases h; rfl
  | _, d :: ds, ns, .cons a r, h => by
    cases d <;> try (cases h; done)
    rename_i b
    cases q : M.bt' ds with
    | none => simp only [M.bt', q] at h; cases h
    | some cs =>
      simp only [M.bt', q, Option.map_some] at h
      cases h
      rw [a.int_inv, ix' r q]
      rfl
theorem FzA.rgI {F : Hp} {T : List Addr} : ∀ ns : List Int, FzA K F T (ns.map V.int) (ns.map M.D.int)
  | [] => .nil
  | n :: r => .cons (.int n) (FzA.rgI r)
theorem jI' : ∀ (ns : List Int) (m : Int), m ∈ ns -> (∀ y ∈ ns, y <= m) -> M.nv' ns = m
  | [x], m, h, _ => by rw [List.mem_singleton.mp h]; rfl
  | x :: y :: r, m, h, hm => by
    show max x (M.nv' (y :: r)) = m
    have ge : ∀ (l : List Int) (a : Int), l ≠ [] -> (∀ z ∈ l, z <= a) -> M.nv' l <= a := by
      intro l
      induction l with
      | nil => intro a h; exact absurd rfl h
      | cons z t ih =>
        intro a _ hz
        cases t with
        | nil => exact hz z (by simp)
        | cons u t =>
          show max z (M.nv' (u :: t)) <= a
          have := ih a (by simp) fun q hq => hz q (by simp [hq])
          have := hz z (by simp)
          omega
    have ge2 := ge (y :: r) m (by simp) fun z hz => hm z (List.mem_cons_of_mem _ hz)
    have hx := hm x List.mem_cons_self
    rcases List.mem_cons.mp h with rfl | h
    . omega
    . rw [jI' (y :: r) m h fun z hz => hm z (List.mem_cons_of_mem _ hz)]
      omega
def no' (c : Nat) : Str := ⟨#[c]⟩
def su' (z : Str) : Nat := z.cps.toList.headD 0
theorem nj' {ys : List Str} {l : List Nat} (h : ys.Perm (l.map no')) : ∃ l' : List Nat, ys = l'.map no' /\ l'.Perm l := by
  refine ⟨ys.map su', ?_, ?_⟩
  . rw [List.map_map]
    have : ∀ y ∈ ys, (no' ∘ su') y = y := fun y hy => by
      obtain ⟨c, _, rfl⟩ := List.mem_map.mp (h.subset hy)
      rfl
    exact (List.map_congr_left this).trans (List.map_id ys) |>.symm
  . have := h.map su'
    rw [List.map_map] at this
    have e : l.map (su' ∘ no') = l := (List.map_congr_left fun c _ => rfl).trans (List.map_id l)
    rw [e] at this
    exact this
theorem om' : ∀ (l : List Nat) (c : Nat), risingS (no' c) (l.map no') = true -> c <= l.headD c /\ sortedS (l.map no') = true
  | [], c, _ => ⟨Nat.le_refl c, rfl⟩
  | e :: l, c, h => by
    rw [List.map_cons] at h ⊢
    unfold risingS at h
    rw [Bool.and_eq_true] at h
    obtain ⟨h1, h2⟩ := h
    refine ⟨?_, h2⟩
    show c <= e
    simp [ltCps, no'] at h1
    omega
theorem eG' : ∀ l : List Nat, sortedS (l.map no') = true -> l.Pairwise (· <= ·)
  | [], _ => .nil
  | c :: l, h => by
    obtain ⟨h1, h2⟩ := om' l c h
    have ih := eG' l h2
    refine List.pairwise_cons.mpr ⟨fun d hd => ?_, ih⟩
    cases l with
    | nil => cases hd
    | cons e t =>
      have hce : c <= e := h1
      cases hd with
      | head => exact hce
      | tail _ hd => exact Nat.le_trans hce ((List.pairwise_cons.mp ih).1 d hd)
theorem m6' {l l' : List Nat} (p : l'.Perm l) (s : l'.Pairwise (· <= ·)) : l' = M.b6' l := by
  refine List.Perm.eq_of_pairwise (le := (· <= ·)) (fun a b _ _ h1 h2 => Nat.le_antisymm h1 h2) s ?_ (p.trans (List.mergeSort_perm l _).symm)
  exact (List.pairwise_mergeSort (le := fun a b => decide (a <= b)) (fun a b c h1 h2 => decide_eq_true (Nat.le_trans (of_decide_eq_true h1) (of_decide_eq_true h2))) (fun a b => by
    rw [Bool.or_eq_true, decide_eq_true_eq, decide_eq_true_eq]; omega) l).imp fun h => of_decide_eq_true h
theorem m7' {l l' : List Int} (p : l'.Perm l) (s : l'.Pairwise (· <= ·)) : l' = M.fX' l := by
  refine List.Perm.eq_of_pairwise (le := (· <= ·)) (fun a b _ _ h1 h2 => Int.le_antisymm h1 h2) s ?_ (p.trans (List.mergeSort_perm l _).symm)
  exact (List.pairwise_mergeSort (le := fun a b => decide (a <= b)) (fun a b c h1 h2 => decide_eq_true (Int.le_trans (of_decide_eq_true h1) (of_decide_eq_true h2))) (fun a b => by
    rw [Bool.or_eq_true, decide_eq_true_eq, decide_eq_true_eq]; omega) l).imp fun h => of_decide_eq_true h
def qG' (K : PySem.W.Frag) : List V -> Hp -> VK -> Prop := fun vs H Q => ju' vs H Q \/ rSortedI K vs H Q \/ rSortedS K vs H Q
theorem hS' {X : Cx} (hc : X.calm = true) : CallR X (.builtin "sorted") (qG' X.K) := (lA' hc).or (cr_sortedI.or cr_sortedS)
theorem jl' {s : M.Tx} {c : Nat} : c ∈ M.b6' s ↔ c ∈ s := (List.mergeSort_perm s _).mem_iff
theorem nm' {K : PySem.W.Frag} {F : Hp} {T : List Addr} : ∀ {vs : List V} {ds : List M.D} {cs : List Nat}, FzA K F T vs ds -> M.nn' ds = some cs -> vs = (cs.map no').map V.str /\ ∀ c ∈ cs, c < 1114112
  | _, [], _, .nil, h => by cases h; exact ⟨rfl, fun _ h => nomatch h⟩
  | _, d :: ds, cs, .cons z r, h => by
    unfold M.nn' at h
    split at h
    . rename_i e
      cases e
    . rename_i c r' e
      cases e
      obtain ⟨cs', h1, rfl⟩ := Option.map_eq_some_iff.mp h
      obtain ⟨e2, h2⟩ := nm' r h1
      obtain ⟨rfl, o⟩ := z.str_inv
      refine ⟨by rw [e2]; rfl, fun c' hc => ?_⟩
      rcases List.mem_cons.mp hc with rfl | hc
      . exact o.1 _ List.mem_cons_self
      . exact h2 _ hc
    . cases h
theorem nY' : Bi1 K M.cY' (qG' K) := by
  intro F H T fp x dx dz Q f hx h k
  cases dx <;> try (cases h; done)
  . obtain ⟨rfl, o⟩ := hx.str_inv
    rename_i s
    simp only [M.cY'] at h
    split at h
    . rename_i hl
      cases h
      refine .inl ⟨_, rfl, by rw [ca']; exact hl, fun ys p H' hp hs hn s' e => ?_⟩
      obtain ⟨l', rfl, p'⟩ := nj' hp
      rw [m6' p' (eG' l' hs)] at *
      have z : FzA K F T (((M.b6' s).map no').map V.str) ((M.b6' s).map M.chD) := by
        rw [List.map_map]
        exact FzA.chars fun c hc => o.1 c (jl'.mp hc)
      have hF : F p = none := f.free hn
      have sF : Same F (upd F p (.lst (((M.b6' s).map no').map V.str))) := cg' hF
      refine k (.ref p) H' _ sF (.lst upd_same (z.mono (.of sF))) ⟨fun a u ha => ?_, fun q hq => ?_, f.nd, f.tbs (fun a h1 h2 h3 => ?_) fun c q h => kU' sF h⟩
      . by_cases hap : a = p
        . subst hap
          rw [upd_same] at ha
          cases ha
          exact e
        . rw [upd_ne hap] at ha
          exact s' _ _ (f.low _ _ ha)
      . have np : q.1 ≠ p := ne_of_none (f.at_ q hq).1 hn
        exact ⟨s' _ _ (f.at_ q hq).1, by rw [upd_ne np]; exact (f.at_ q hq).2⟩
      . have hap : a ≠ p := fun z => h2 (by rw [z]; exact hn)
        refine ⟨by rw [upd_ne hap]; exact h1, ?_, h3⟩
        cases hh : H a with
        | none => exact absurd hh h2
        | some o => exact s' _ _ hh
    . cases h
  . obtain ⟨a, vs, rfl, ha, za⟩ := hx.lst_inv
    rename_i ds
    cases q : M.bt' ds with
    | none =>
      simp only [M.cY', q] at h
      obtain ⟨cs, h1, h2⟩ := Option.bind_eq_some_iff.mp h
      split at h2
      . rename_i hl
        cases h2
        obtain ⟨e2, hc⟩ := nm' za h1
        refine .inr (.inr ⟨a, cs.map no', rfl, by rw [<- e2]; exact SqL.of (f.low _ _ ha), by rw [List.length_map]; exact hl, fun ys p hp hs hn => ?_⟩)
        obtain ⟨l', rfl, p'⟩ := nj' hp
        rw [m6' p' (eG' l' hs)]
        have z : FzA K F T (((M.b6' cs).map no').map V.str) ((M.b6' cs).map M.chD) := by
          rw [List.map_map]
          exact FzA.chars fun c hc' => hc c (jl'.mp hc')
        exact k.newL f z hn
      . cases h2
    | some ns =>
      simp only [M.cY', q] at h
      cases h
      refine .inr (.inl ⟨a, ns, rfl, by rw [<- ix' za q]; exact SqL.of (f.low _ _ ha), fun ns' p hp hs hn => ?_⟩)
      rw [m7' hp hs]
      exact k.newL f (FzA.rgI _) hn
theorem r2' (a b : M.Tx) (i : Nat) : StrLaws.At (sx a) (sx b) (sx a).length i ↔ M.uM' a b i = true := by
  rw [<- wH', Bool.and_eq_true, decide_eq_true_eq]
  exact Iff.rfl
theorem sS' {p : Nat -> Bool} {n i : Nat} (h : p i = true) (hi : i < n) (hm : ∀ k, k < i -> p k = false) : (List.range n).find? p = some i := by
  rw [List.find?_eq_some_iff_getElem]
  refine ⟨h, i, by simpa using hi, by simp, fun j hj => ?_⟩
  rw [List.getElem_range, hm j hj]
  rfl
theorem nI' (a b : M.Tx) : Txt.find (sx a) (sx b) = M.fnd (M.nK' a b) := by
  rcases find_whole (sx a) (sx b) with ⟨h1, h2⟩ | ⟨i, h1, h2, h3⟩
  . rw [h1]
    have : M.nK' a b = none := by
      unfold M.nK'
      rw [List.find?_eq_none]
      intro i _ h
      exact h2 i ((r2' a b i).mpr h)
    rw [this]
    rfl
  . rw [h1]
    have hi : M.uM' a b i = true := (r2' a b i).mp h2
    have hl : i < a.length + 1 := by
      unfold M.uM' at hi
      rw [Bool.and_eq_true, decide_eq_true_eq] at hi
      omega
    have : M.nK' a b = some i := sS' hi hl fun k hk => by
      have := h3 k hk
      rw [r2'] at this
      exact Bool.eq_false_iff.mpr this
    rw [this]
    rfl
theorem FzA.str1 {F : Hp} {T : List Addr} {xs : List V} {b : M.Tx} (h : FzA K F T xs [.str b]) : xs = [.str (sx b)] /\ okT b := by
  obtain ⟨v, rfl, z⟩ := h.one
  obtain ⟨rfl, o⟩ := z.str_inv
  exact ⟨rfl, o⟩
theorem yP' : MtD K M.rb' (fun x xs H Q => ∃ a b, x = .str a /\ xs = [.str b] /\ Q (.int (Txt.find a b)) H) := by
  intro F H T fp s xs ds dz Q f o hx h k
  unfold M.rb' at h
  split at h
  . obtain ⟨rfl, o2⟩ := hx.str1
    cases h
    exact ⟨_, _, rfl, rfl, by rw [nI']; exact k.here f (.int _)⟩
  . cases h
theorem ow' {a b : M.Tx} {i : Nat} (h : M.nK' a b = some i) : ∃ rest, Builtin.Str.occurrences (sx a) (sx b) 0 (sx a).length 1 = i :: rest := by
  have h1 := nI' a b
  rw [h] at h1
  unfold Txt.find at h1
  cases e : Builtin.Str.occurrences (sx a) (sx b) 0 (sx a).length 1 with
  | nil => rw [e] at h1; exact absurd h1 (by show ¬ (-1 : Int) = (i : Int); omega)
  | cons j rest =>
    rw [e] at h1
    have h2 : (j : Int) = (i : Int) := h1
    exact ⟨rest, by rw [show j = i by omega]⟩
theorem wn' : MtD K M.jJ' qL' := by
  intro F H T fp s xs ds dz Q f o hx h k
  unfold M.jJ' at h
  split at h
  . obtain ⟨rfl, o2⟩ := hx.str1
    rename_i b
    cases q : M.nK' s b with
    | none => rw [q] at h; cases h
    | some i =>
      rw [q] at h
      cases h
      obtain ⟨rest, e⟩ := ow' q
      exact ⟨_, _, i, rest, rfl, rfl, e, k.here f (.int _)⟩
  . cases h
def BD' : M.D -> Option Key
  | .int i => some (.inl i)
  | .str s => some (.inr (sx s))
  | _ => none
theorem gu' {d : M.D} {k : Key} (h : BD' d = some k) : kD k = d := by
  cases d <;> cases h <;> rfl
theorem jS' {F : Hp} {T : List Addr} {v : V} {d : M.D} {k : Key} (z : Fz K F T v d) (h : BD' d = some k) : v = kV k := by
  cases d <;> cases h
  . cases z; rfl
  . obtain ⟨rfl, _⟩ := z.str_inv; rfl
end
section
variable {X : Cx} {W : WX} {pos p pos' : Pos} {a b e : Expr} {ma mb : M.ME} {mo : M.MO} {σ : St} {H : Hp} {Q : VK}
theorem ed' {x : Str} (t : String) (ht : t ∈ ["bool", "int", "str", "tuple", "list", "dict"]) (hg : Gl X x) (hm : X.mg x = none) (hv : bootBuiltins x = some (.builtin "isinstance")) (ha : SE X W a ma) (hb : PE X b (tC (.ty t))) (hn : x ≠ "__name__" := by decide) (hdb : (x == ("__debug__" : Str)) = false := by decide)
    (he : starEach [a, b] X.env = (false, eval a X.env) :: starEach [b] X.env := by rfl) (he2 : starEach [b] X.env = (false, eval b X.env) :: starEach [] X.env := by rfl) (hpl : (backTo pos (starEach [b] X.env)).any (·.1) = false := by rfl) : SE X W (.Call (.Name x p) [a, b] [] pos) (M.eUn (M.b0' t) ma) :=
  PE.imp (pe_callB call_isi hg hm hv (pa_cons ha (pa_cons hb pa_nil he2) he) hn hdb he hpl) fun σ H Q ⟨ρ, F, T, fr, rel, h⟩ => by
    refine aB' rel h fun dx ρ1 v H1 F1 T1 e1 z1 r1 h1 => ?_
    obtain ⟨dz, ez, q⟩ := aG'.ofO h1
    unfold M.b0' at ez
    cases eq : M.tyn dx with
    | none => rw [eq] at ez; cases ez
    | some n =>
      rw [eq] at ez
      cases ez
      obtain ⟨fp, f, _⟩ := r1.fp
      exact AX' (x0' f.low z1 eq) (kit_ty (wt' n (vz' eq) t ht)) (q _ H1 F1 T1 e1 (.bl _) r1)
theorem eH' : SO X W (.Dict [] [] pos) M.iq' := PE.imp pe_dnewK fun σ H Q ⟨ρ, F, T, fr, rel, h⟩ => fun p hp => by
  have z : Rp X.K F T (.ref p) (.dct [] []) [(p, .dK [])] := Rp.dct (kvs := []) .nil .nil
  exact h (.ref p) _ F T _ .refl z (rel.own hp)
theorem qj' {f : M.D -> Option M.D} {r : List V -> Hp -> VK -> Prop} {x : Str} {id : String} (hc : CallR X (.type id) r)
    (hf : ∀ {F H : Hp} {T : List Addr} {v : V} {d : M.D} {ds : List M.D} {Q : VK}, Same F H -> Fz X.K F T v d -> f d = some (.lst ds) -> (∀ l ws, H l = none -> FzA X.K F T ws ds -> Q (.ref l) (upd H l (.lst ws))) -> r [v] H Q)
    (hg : Gl X x) (hm : X.mg x = none) (hv : bootBuiltins x = some (.type id)) (ha : SE X W a ma) (hn : x ≠ "__name__" := by decide) (hdb : (x == ("__debug__" : Str)) = false := by decide)
    (he : starEach [a] X.env = (false, eval a X.env) :: starEach [] X.env := by rfl) (hpl : (backTo pos (starEach [] X.env)).any (·.1) = false := by rfl) : SO X W (.Call (.Name x p) [a] [] pos) (M.ip' (M.eUn f ma)) :=
  PE.imp (pe_callTy hc hg hm hv (pa_cons ha pa_nil he) hn hdb he hpl) fun σ H Q ⟨ρ, F, T, fr, rel, h⟩ => by
    have h0 := aG'.bind h
    refine aB' rel h0 fun dx ρ1 v H1 F1 T1 e1 z1 r1 h1 => ?_
    obtain ⟨dz, ez, q⟩ := aG'.ofO h1
    cases dz <;> try exact q.elim
    rename_i ds
    obtain ⟨fp, f1, _⟩ := r1.fp
    refine hf f1.low z1 ez fun l ws hl zw => ?_
    exact q (.ref l) _ F1 T1 _ e1 (.lst (RpA.of_fz zw)) (r1.own hl)
theorem nt' {K : PySem.W.Frag} {F H : Hp} {T : List Addr} {v : V} {d : M.D} {ds : List M.D} {Q : VK} (s : Same F H) (z : Fz K F T v d) (h : M.e1' d = some (.lst ds)) (k : ∀ l ws, H l = none -> FzA K F T ws ds -> Q (.ref l) (upd H l (.lst ws))) : uy' K [v] H Q := by
  cases d <;> try (cases h; done)
  . obtain ⟨rfl, o⟩ := z.str_inv
    cases h
    exact .inr ⟨_, rfl, o.len, fun l hl => k l _ hl (FzA.signs o)⟩
  . obtain ⟨a, vs, rfl, ha, za⟩ := z.tup_inv
    cases h
    exact .inl ⟨a, vs, rfl, .inr (seqT s ha), fun l hl => k l vs hl za⟩
  . obtain ⟨a, vs, rfl, ha, za⟩ := z.lst_inv
    cases h
    exact .inl ⟨a, vs, rfl, .inl (SqL.of (s _ _ ha)), fun l hl => k l vs hl za⟩
theorem FzA.rg {K : PySem.W.Frag} {F : Hp} {T : List Addr} (a b : Int) : FzA K F T (rgV a b) (M.eq' a b) := FzA.of_all fun i => .int _
theorem Bj' {a b : Int} (h : M.RgB a b = true) : RgOk a b := by
  unfold M.RgB at h
  simp only [Bool.and_eq_true, decide_eq_true_eq] at h
  exact ⟨h.1.1.1.1, h.1.1.1.2, h.1.1.2, h.1.2, h.2⟩
theorem oh' {q : Pos} (hc : X.calm = true) (hg : Gl X "list") (hm : X.mg "list" = none) (hg2 : Gl X "range") (hm2 : X.mg "range" = none) (ha : SE X W a ma)
    (na2 : starEach [a] X.env = (false, eval a X.env) :: starEach [] X.env := by rfl) (na : starEach [.Call (.Name "range" q) [a] [] pos'] X.env = (false, eval (.Call (.Name "range" q) [a] [] pos') X.env) :: starEach [] X.env := by rfl) :
    SO X W (.Call (.Name "list" p) [.Call (.Name "range" q) [a] [] pos'] [] pos) (M.ip' (M.eUn M.eh' ma)) :=
  PE.imp (pe_listRg hc hg hm (prg_1 hg2 hm2 ha na2) na) fun σ H Q ⟨ρ, F, T, fr, rel, h⟩ => by
    have h0 := aG'.bind h
    refine aB' rel h0 fun dx ρ1 v H1 F1 T1 e1 z1 r1 h1 => ?_
    obtain ⟨dz, ez, q⟩ := aG'.ofO h1
    unfold M.eh' at ez
    split at ez
    . split at ez
      . rename_i hr
        cases ez
        refine ⟨_, z1.int_inv, Bj' hr, fun l hl => ?_⟩
        exact q (.ref l) _ F1 T1 _ e1 (.lst (RpA.of_fz (FzA.rg _ _))) (r1.own hl)
      . cases ez
    . cases ez
theorem sF' {op : Operator} {f : M.D -> M.D -> Option M.D} {r : R2} (ho : OpR X (binaryOp op) r)
    (hf : ∀ {F H : Hp} {T : List Addr} {u v : V} {c d : M.D} {ds : List M.D} {Q : VK}, Same F H -> Fz X.K F T u c -> Fz X.K F T v d -> f c d = some (.lst ds) -> (∀ l ws, H l = none -> FzA X.K F T ws ds -> Q (.ref l) (upd H l (.lst ws))) -> r u v H Q)
    (ha : SE X W a ma) (hb : SE X W b mb) : SO X W (.BinOp a op b pos) (M.ip' (M.eOp f ma mb)) := PE.imp (pe_op ho ha hb) fun σ H Q ⟨ρ, F, T, fr, rel, h⟩ => by
  have h0 := aG'.bind h
  refine aB' rel h0 fun dx ρ1 v H1 F1 T1 e1 z1 r1 h1 => ?_
  refine aB' r1 h1 fun dy ρ2 u H2 F2 T2 e2 z2 r2 h2 => ?_
  obtain ⟨dz, ez, q⟩ := aG'.ofO h2
  cases dz <;> try exact q.elim
  obtain ⟨fp, f1, _⟩ := r2.fp
  refine hf f1.low (z1.mono e2) z2 ez fun l ws hl zw => ?_
  exact q (.ref l) _ F2 T2 _ (e1.trans e2) (.lst (RpA.of_fz zw)) (r2.own hl)
theorem wj' {K : PySem.W.Frag} {F H : Hp} {T : List Addr} {u v : V} {c d : M.D} {ds : List M.D} {Q : VK} (s : Same F H) (z : Fz K F T u c) (z2 : Fz K F T v d) (h : M.bX' c d = some (.lst ds)) (k : ∀ l ws, H l = none -> FzA K F T ws ds -> Q (.ref l) (upd H l (.lst ws))) : vZ' K u v H Q := by
  cases c <;> cases d <;> try (cases h; done)
  . simp only [M.bX'] at h
    split at h <;> cases h
  . simp only [M.bX'] at h
    split at h <;> cases h
  . obtain ⟨a, vs, rfl, ha, za⟩ := z.lst_inv
    obtain ⟨b, ws, rfl, hb, zb⟩ := z2.lst_inv
    simp only [M.bX'] at h
    split at h
    . rename_i hl
      cases h
      exact .inr (.inr (.inl ⟨a, b, vs, ws, rfl, rfl, s _ _ ha, s _ _ hb, by rw [za.length, zb.length, bu']; exact hl, fun p hp => k p _ hp (za.append zb)⟩))
    . cases h
theorem RpA.erase {K : PySem.W.Frag} {F : Hp} {T : List Addr} {y : M.D} : ∀ {os : List M.O} {vs : List V} {f2 : Fp} {j : Nat}, RpA K F T vs os f2 -> os[j]? = some (.fz y) -> ∃ v, vs[j]? = some v /\ Fz K F T v y /\ RpA K F T (vs.eraseIdx j) (os.eraseIdx j) f2
  | [], _, _, _, r, h => by cases h
  | o :: os, _, _, 0, r, h => by
    cases r with
    | cons r0 r =>
      cases h
      cases r0 with
      | fz z => exact ⟨_, rfl, z, r⟩
  | o :: os, _, _, j + 1, r, h => by
    cases r with
    | cons r0 r =>
      obtain ⟨v, h1, h2, h3⟩ := RpA.erase (j := j) r h
      exact ⟨v, h1, h2, .cons r0 h3⟩
theorem m9' {n : Nat} {nm : Str} {px apos : Pos} (hv : PE X (.Name nm px) (tVar n)) (ha : SE X W a ma)
    (hbase : attributeBase (.Name nm px) "pop" X.env (eval (.Name nm px) X.env) = eval (.Name nm px) X.env := by rfl)
    (hfew : ((backTo pos (starEach [a] X.env)).all (fun x => !x.1) && (backToKw pos (keywordEach [] X.env)).all (fun x => x.1.isSome)
      && decide ([a].length + ([] : List Keyword).length + (if ([] : List Keyword).isEmpty then 0 else 1) < 30)) = true := by rfl)
    (hline : (apos.endLine == pos.line) = true := by rfl) (hs : starEach [a] X.env = (false, eval a X.env) :: starEach [] X.env := by rfl) (hplain : (backTo pos (starEach [] X.env)).any (·.1) = false := by rfl) :
    SE X W (.Call (.Attribute (.Name nm px) "pop" apos) [a] [] pos) (M.hK' n ma) :=
  PE.imp (pe_bm PySem.F.plainAttrs_list PySem.F.slot_list_pop PySem.F.type_list_pop mt_popAt hv (pa_cons ha pa_nil hs) hbase hfew hline hs hplain) fun σ H Q ⟨ρ, F, T, fr, rel, h⟩ => by
    unfold M.hK' at h
    split at h
    . rename_i os0 e0
      obtain ⟨fe, fw, re, rw, ff⟩ := id rel
      obtain ⟨v, f1, f2, f3, h1, _, h3, _⟩ := re.get e0
      cases h3 with
      | @lst p vs0 _ fp0 r0 =>
        obtain ⟨vs1, f21, hH, _, _⟩ := rel.slotW e0 h1
        refine ⟨.ref p, h1, .inl ⟨rfl, vs1, SqL.of hH⟩, aB' rel h fun d ρ1 u H1 F1 T1 e1 z1 r1 h2 => ?_⟩
        split at h2
        . rename_i os z e2
          split at h2
          . rename_i j ej
            split at h2
            . rename_i y ey
              cases z1
              obtain ⟨vs, f2', hH2, r2, back⟩ := r1.slotW e2 h1
              obtain ⟨vy, g1, g2, g3⟩ := RpA.erase r2 ey
              split at ej
              . rename_i hl
                have hlen : vs.length <= M.cR' := by rw [r2.length]; exact hl
                have ej' : ixN vs.length z = some j := by rw [r2.length]; exact ej
                obtain ⟨q1, q2, q3, q4⟩ := ixN_seq ej'
                have hlen' : vs.length <= 16777216 := hlen
                exact ⟨p, vs, z, j, vy, rfl, rfl, hH2, by omega, by omega, q1, g1, h2 vy _ F1 T1 e1 g2 (back _ _ f2' fr g3 .refl)⟩
              . cases ej
            . exact h2.elim
          . exact h2.elim
        . exact h2.elim
    . exact h.elim
end
end S
namespace S
open PySem PySem.Spec PyProof.Rows L2
variable [Wd] [Hot]
section
variable {X : Cx} {W : WX} {K : PySem.W.Frag} {D : Ends} {σ : St} {H : Hp} {F : Hp} {T : List Addr} {fr : Fp}
abbrev Hm := List ((String -> Option Bool) × (M.Exc -> M.MS))
def tsM (K : PySem.W.Frag) (h : M.Exc -> M.MS) : Addr -> Value -> Option Addr -> TS := fun _ cls _ D σ H => ∃ e : M.Exc, cls = .ref (He.ga K e.cls) /\ qS K W0 (h e) D σ H
inductive HdsM (X : Cx) : List ExceptHandler -> Hm -> List (Value × (Addr -> Value -> Option Addr -> TS)) -> Prop
  | nil : HdsM X [] [] []
  | cons {x : Str} {c : Value} {g : String -> Option Bool} {h : M.Exc -> M.MS} {b₀ : Stmt} {suite : List Stmt} {np pos' : Pos} {hds : List ExceptHandler} {l : Hm} {l' : List (Value × (Addr -> Value -> Option Addr -> TS))} (hc : Names X x c)
      (hg : ∀ y b, g y = some b -> PySem.W.exmOne X.K (.ref (He.ga X.K y)) c = some b)
      (hsu : ∀ (e : M.Exc) (a : Addr) (oe : Obj) (d : Option Addr) (pn : List (Addr × Obj)), Zc (.ref (He.ga X.K e.cls)) d oe -> (∃ vs, oe.data = .fields vs) -> SSs (X.suite a ((a, oe) :: pn)) W0 (b₀ :: suite) (h e)) (r : HdsM X hds l l') :
      HdsM X (.ExceptHandler (some (.Name x np)) none (b₀ :: suite) pos' :: hds) ((g, h) :: l) ((c, tsM X.K h) :: l')
theorem mY' {h : M.Exc -> M.MS} {b : List Stmt} (hsu : ∀ (e : M.Exc) (a : Addr) (oe : Obj) (d : Option Addr) (pn : List (Addr × Obj)), Zc (.ref (He.ga X.K e.cls)) d oe -> (∃ vs, oe.data = .fields vs) -> SSs (X.suite a ((a, oe) :: pn)) W0 b (h e)) :
    ∀ (a : Addr) (oe : Obj) (cls : Value) (d : Option Addr) (pn : List (Addr × Obj)), Zc cls d oe -> (∃ vs, oe.data = .fields vs) -> PSs (X.suite a ((a, oe) :: pn)) b (tsM X.K h a cls d) := by
  intro a oe cls d pn hz hf
  refine ⟨fun pins s σ H D I q => ?_⟩
  obtain ⟨e, rfl, q⟩ := q
  exact (hsu e a oe d pn hz hf).run pins s σ H D I q
theorem HdsM.ok {hds : List ExceptHandler} {l : Hm} {l' : List (Value × (Addr -> Value -> Option Addr -> TS))} (h : HdsM X hds l l') : HdsOk X hds l' := by
  induction h with
  | nil => exact .nil
  | cons hc hg hsu r ih => exact .cons hc (mY' hsu) ih
theorem bB'.noX {r : M.Out} (h : bB' K W D F T fr (M.CX' r)) : bB' K W0 D F T fr r := by
  cases r with
  | exc x ρ => exact h.elim
  | nx ρ => exact h
  | bk ρ => exact h
  | ct ρ => exact h
  | rt o w => exact h
  | bad => exact h
theorem Rel.off {K : PySem.W.Frag} {ρ : M.PSt} (r : Rel K ρ σ H F T fr) (i : Nat) (x : Option V) : Rel K ⟨ρ.env.set i none, ρ.w⟩ (σ.set i x) H F T fr := by
  obtain ⟨fe, fw, re, rw, f⟩ := r
  obtain ⟨fq, h1, h2⟩ := re.drop i x
  exact ⟨fq, fw, h1, rw, f.part (.app h2 .refl)⟩
end
end S
namespace S
open PySem PySem.Spec PyProof.Rows L2
variable [Wd] [Hot]
section
variable {X : Cx} {W : WX} {pos p : Pos} {a b e : Expr} {st : Stmt} {es : List Expr} {ma mb : M.ME} {as : M.MA}
theorem qi' {i : Nat} (h : PE X e (tVar i)) : SO X W e (M.oV i) := PE.imp h fun σ H Q ⟨ρ, F, T, fr, rel, h⟩ => by
  unfold M.oV at h
  split at h
  . rename_i d e
    obtain ⟨fe, fw, re, rw, f⟩ := id rel
    obtain ⟨v, f1, f2, f3, h1, rfl, h3, h4, h5⟩ := re.get e
    cases h3 with
    | fz z => exact ⟨v, h1, h v H F T [] .refl (.fz z) rel⟩
  . exact h.elim
  . exact h.elim
  . rename_i o _ hne hnc e
    obtain ⟨fe, fw, re, rw, f⟩ := rel
    obtain ⟨v, f1, f2, f3, h1, rfl, h3, h4, h5⟩ := re.get e (M.dW' (fun z => hne (by rw [z])) fun z => hnc (by rw [z]))
    refine ⟨v, h1, h v H F T f2 .refl h3 ⟨_, fw, h4, rw, f.part ?_⟩⟩
    constructor
    . intro e h
      simp only [List.mem_append] at *
      grind
    . intro x
      simp only [keys, List.map_append, List.count_append] at *
      omega
  . exact h.elim
theorem eY' (h : SA X W es as) : SO X W (.List es pos) (M.ip' (M.iM' as)) := PE.imp (pe_lst h) fun σ H Q ⟨ρ, F, T, fr, rel, h⟩ => by
  have h0 := aG'.bind h
  refine cV' rel h0 fun ds ρ1 vs H1 F1 T1 e1 z1 r1 h1 => ?_
  split at h1
  . rename_i hl
    refine ⟨by rw [z1.length, bu']; exact hl, fun p hp => ?_⟩
    exact h1 (.ref p) _ F1 T1 _ e1 (.lst (RpA.of_fz z1)) (r1.own hp)
  . exact h1.elim
theorem kM' : SS X W st M.Av' := ⟨fun _ _ _ _ _ _ ⟨_, _, _, _, _, h⟩ => h.elim⟩
end
section
variable {K : PySem.W.Frag} {F : Hp} {T : List Addr}
theorem j1' : ∀ (ds : List M.D) (k : Nat), (M.d5' k ds).length = ds.length
  | [], _ => rfl
  | _ :: ds, k => congrArg (· + 1) (j1' ds (k + 1))
theorem j2' : ∀ (ds : List M.D) (k i : Nat) (d : M.D), (M.d5' k ds)[i]? = some d -> ∃ x, ds[i]? = some x /\ d = .tup [.int ((k + i : Nat) : Int), x]
  | [], _, i, d, h => by simp [M.d5'] at h
  | x :: ds, k, 0, d, h => ⟨x, rfl, (Option.some.inj h).symm⟩
  | x :: ds, k, i + 1, d, h => by
    obtain ⟨y, h1, h2⟩ := j2' ds (k + 1) i d h
    exact ⟨y, h1, by rw [h2, show k + 1 + i = k + (i + 1) by omega]⟩
theorem y7' {J : It} {ds : List M.D} (hs : ∀ F' T' H' fp i, Ext F T F' T' -> FpH F' H' fp -> i = ds.length -> J.stop i H')
    (hy : ∀ F' T' H' fp i dx, Ext F T F' T' -> FpH F' H' fp -> ds[i]? = some dx -> J.go i H' /\ ∀ v H2, J.yld i H' v H2 -> ∃ p x, v = .ref p /\ H' p = none /\ H2 = upd H' p (.tup [.int (i : Nat), x]) /\ Fz K F' T' x dx) : iI' K J (M.d5' 0 ds) F T := fun F' T' H' fp i e f hi => by
  rw [j1'] at hi ⊢
  refine ⟨fun q => hs F' T' H' fp i e f q, fun d hd => ?_⟩
  obtain ⟨dx, h1, rfl⟩ := j2' _ _ _ _ hd
  obtain ⟨g, y⟩ := hy F' T' H' fp i dx e f h1
  refine ⟨g, fun v H2 q => ?_⟩
  obtain ⟨p, x, rfl, hp, rfl, zx⟩ := y v H2 q
  have s : Same F' (upd F' p (.tup [.int (i : Nat), x])) := cg' (f.free hp)
  refine ⟨_, s, .tup (SqT.of upd_same) (.cons ?_ (.cons (zx.mono (.of s)) .nil)), f.new hp⟩
  rw [Nat.zero_add]
  exact .int _
theorem y5' {s : M.Tx} (o : okT s) : iI' K (ItP (fun i => some (.int (i : Nat))) (chS (sx s)) (sx s).cps.size) (M.d5' 0 (s.map M.chD)) F T := by
  have e1 : (sx s).cps.size = s.length := ca' s
  refine y7' (fun F' T' H' fp i e f hi => ?_) fun F' T' H' fp i dx e f h1 => ?_
  . rw [List.length_map] at hi
    show i = (sx s).cps.size
    omega
  . rw [List.getElem?_map] at h1
    cases q1 : s[i]? with
    | none => rw [q1] at h1; cases h1
    | some c =>
      rw [q1] at h1
      cases h1
      have l1 := (List.getElem?_eq_some_iff.mp q1).1
      refine ⟨by show i < (sx s).cps.size; omega, fun v H2 y => ?_⟩
      obtain ⟨p, x, y', rfl, hp, rfl, c1, c2⟩ := y
      cases c1
      unfold chS at c2
      rw [dO', q1] at c2
      cases c2
      exact ⟨p, _, rfl, hp, rfl, lh' (o.1 c (List.mem_of_getElem? q1))⟩
theorem y6' {a : Addr} {vs : List V} {ds : List M.D} (ha : F a = some (.lst vs)) (z : FzA K F T vs ds) : iI' K (Ite K a) (M.d5' 0 ds) F T := by
  refine y7' (fun F' T' H' fp i e f hi => ?_) fun F' T' H' fp i dx e f h1 => ?_
  . exact ⟨vs, SqL.of (f.low _ _ (e.f.lst ha)), by rw [z.length]; omega⟩
  . obtain ⟨x, x1, x2⟩ := z.get h1
    have a1 : SqL K H' a vs := SqL.of (f.low _ _ (e.f.lst ha))
    refine ⟨⟨vs, x, a1, x1⟩, fun v H2 q => ?_⟩
    obtain ⟨p, x', rfl, hp, rfl, q1⟩ := q
    have := q1 vs a1
    rw [x1] at this
    cases this
    exact ⟨p, _, rfl, hp, rfl, x2.mono e⟩
end
section
variable {X : Cx} {W : WX} {pos p tpos : Pos} {a : Expr} {ma : M.ME} {σ : St} {H : Hp} {elts : List Expr} {kk : Nat}
theorem mW' {K : PySem.W.Frag} {m : M.ME} {ρ ρ1 : M.PSt} {F : Hp} {T : List Addr} {fr : Fp} {d : M.D} {R : List V -> Hp -> Prop} (rel : Rel K ρ σ H F T fr) (em : m ρ = .ok d ρ1) (h : ∀ v H' F' T', Ext F T F' T' -> Fz K F' T' v d -> Rel K ρ1 σ H' F' T' fr -> R [v] H') : tCons (qE K W m) tNil σ H R :=
  ⟨ρ, F, T, fr, rel, by rw [em]; exact h⟩
theorem qm' (hg : Gl X "enumerate") (hm : X.mg "enumerate" = none) (h : SE X W a ma) (hs : starEach [a] X.env = [(false, eval a X.env)] := by rfl) : SI X W (.Tuple elts kk tpos) (.Call (.Name "enumerate" p) [a] [] pos) (M.oB' ma) :=
  PI.imp (sX' (sY' hg hm (pa_cons h pa_nil hs) hs) (pi_enum hg hm (pa_cons h pa_nil hs) hs)) fun σ H R ⟨ρ, F, T, fr, rel, q⟩ => by
    have q2 := aG'.bind q
    cases em : ma ρ with
    | bad => rw [em] at q2; exact q2.elim
    | exc x ρ1 =>
      rw [em] at q2
      exact .inl ⟨ρ, F, T, fr, rel, by rw [em]; exact q2⟩
    | ok d ρ1 =>
      rw [em] at q2
      obtain ⟨ds, e1, q3⟩ := aG'.ofO (show aG' _ _ _ from q2)
      cases d <;> try (cases e1; done)
      . cases e1
        refine .inl (mW' rel em fun v H' F' T' e z r => ?_)
        obtain ⟨rfl, o⟩ := z.str_inv
        exact ⟨_, rfl, q3 _ _ _ _ e (y5' o) r⟩
      . cases e1
        refine .inr (mW' rel em fun v H' F' T' e z r => ?_)
        obtain ⟨p, vs, rfl, ha, za⟩ := z.lst_inv
        obtain ⟨fp, f, _⟩ := r.fp
        exact ⟨p, vs, rfl, SqL.of (f.low _ _ ha), q3 _ _ _ _ e (y6' ha za) r⟩
end
theorem zh' {K : PySem.W.Frag} {F : Hp} {T : List Addr} {x : Str} {s : M.Tx} (hs : x = sx s) (ho : AA' s = true) : Fz K F T (.str x) (.str s) := by subst hs; exact .str (uF' ho)
end S
namespace S
open PySem PySem.Spec PyProof.Rows L2
variable [Wd] [Hot]
section
variable {X : Cx} {W : WX} {K : PySem.W.Frag} {pos p : Pos} {a b : Expr} {ma : M.ME} {F H : Hp} {T : List Addr}
end
def xt' [Wd] (H : Hp) : Hp := fun b => if b ∈ Wd.ts.map (·.1) then none else H b
theorem qZ' [Wd] (H : Hp) : Same (xt' H) H := fun b o h => by
  unfold xt' at h
  split at h
  . cases h
  . exact h
theorem q0' [Wd] {H : Hp} (hT : ∀ p ∈ Wd.ts, H p.1 = some (.tbl #[])) {b : Addr} {o : HO} (h : H b = some o) (ho : o ≠ .tbl #[]) : xt' H b = some o := by
  unfold xt'
  rw [if_neg fun z => ?_]
  . exact h
  . obtain ⟨p, hp, e⟩ := List.mem_map.mp z
    have := hT p hp
    rw [e, h] at this
    exact ho (Option.some.inj this)
theorem ta' [Wd] {K : PySem.W.Frag} {H : Hp} (hT : ∀ p ∈ Wd.ts, H p.1 = some (.tbl #[])) {a : Addr} {vs : List V} (h : SqL K H a vs) : SqL K (xt' H) a vs := by
  rcases h with (h | ⟨o, h⟩) | h
  . exact .inl (.inl (q0' hT h (by intro z; cases z)))
  . exact .inl (.inr ⟨o, q0' hT h (by intro z; cases z)⟩)
  . exact .inr h
theorem rn' [Wd] (K : PySem.W.Frag) (H : Hp) (hT : ∀ p ∈ Wd.ts, H p.1 = some (.tbl #[])) (a : Addr) (ns : List Int) (hn : ns.length <= 63) (hs : SqL K H a (ns.map V.int)) {m : M.MF} (h : ∀ ns : List Int, ns.length <= 63 -> ∃ w, m [.scr (ns.map .int)] [] = .ok (.fz (.bl true)) w) :
    spM K m [.ref a] H (fun v _ => v = .bl true) L2.E0 := by
  obtain ⟨w, e⟩ := h ns hn
  refine ⟨[.scr (ns.map .int)], [], xt' H, [], [], .cons (.scr (ta' hT hs) (FzA.rgI ns)) .nil, ⟨[], [], yL', .nil, ⟨qZ' H, fun _ h => (nomatch h), .nil, fun p hp => ⟨if_pos (List.mem_map_of_mem hp), fun _ h => (nomatch h), #[], hT p hp, True.intro, fun pos cv hc => ?_⟩⟩⟩, ?_⟩
  . have z : codeAmong pos [] = some cv := hc
    simp [codeAmong] at z
  rw [e]
  intro v H' F' T' fp _ z _
  cases z with
  | fz z => exact z.bl_inv
end S
namespace S
open PySem PySem.Spec PyProof.Rows L2
variable [Wd] [Hot]
section
variable {X : Cx} {W : WX} {K : PySem.W.Frag} {cpos apos p : Pos} {name : Str} {id T : String} {o e : Expr} {es : List Expr} {mo : M.ME} {as : M.MA} {σ : St} {H : Hp} {Q : VK}
end
end S
namespace S
open PySem PySem.Spec PyProof.Rows L2
variable [Wd] [Hot]
section
variable {X : Cx} {W : WX} {K : PySem.W.Frag}
theorem FzA.two {F : Hp} {T : List Addr} {xs : List V} {d e : M.D} (h : FzA K F T xs [d, e]) : ∃ v u, xs = [v, u] /\ Fz K F T v d /\ Fz K F T u e := by
  cases h with
  | cons a r =>
    cases r with
    | cons b r => cases r; exact ⟨_, _, rfl, a, b⟩
theorem jL' {t : List (M.Tx × Bool)} {a : M.Tx} {b : Bool} (h : t.lookup a = some b) : (a, b) ∈ t := by
  induction t with
  | nil => cases h
  | cons p t ih =>
    obtain ⟨c, d⟩ := p
    rw [List.lookup_cons] at h
    split at h
    . rename_i e
      cases h
      rw [eq_of_beq e]
      exact List.mem_cons_self
    . exact List.mem_cons_of_mem _ (ih h)
end
end S
namespace S
open PySem PySem.Spec PyProof.Rows L2
variable [Wd] [Hot]
section
variable {P : Program} {w : World} {K : PySem.W.Frag} {mg : Str -> Option Value} {base : Heap}
end
section
variable {X : Cx} {W : WX} {K : PySem.W.Frag}
end
end S
namespace S
open PySem PySem.Spec PyProof.Rows L2
variable [Wd] [Hot]
local macro_rules | `(tactic| walk_at "parts") => `(tactic| (constructor; (intro e h; simp only [List.mem_append, List.mem_cons, List.not_mem_nil] at *; grind); (intro x; simp only [keys, List.map_append, List.map_cons, List.map_nil, List.count_append, List.count_cons, List.count_nil] at *; omega)))
section
variable {K : PySem.W.Frag} {F F' H H' : Hp} {T T' : List Addr} {fp fq fr : Fp} {ρ : M.PSt} {σ : St} {W : WX} {Q : VK}
theorem jV' {d : M.D} (h : M.isK d = true) : ∃ k, BD' d = some k := by cases d <;> first | exact ⟨_, rfl⟩ | (cases h)
theorem RpA.dget {vs : List V} {os : List M.O} {ks : List M.D} {dk : M.D} (h : RpA K F T vs os fp) : (M.dget ks vs dk).isSome = (M.dget ks os dk).isSome /\ ∀ d, M.dget ks os dk = some (.fz d) -> ∃ u, M.dget ks vs dk = some u /\ Fz K F T u d := by
  unfold M.dget
  cases M.fH' ks dk with
  | none => exact ⟨rfl, fun d e => nomatch e⟩
  | some j =>
    simp only [Option.bind_some]
    refine ⟨?_, fun d e => h.get e⟩
    rw [Bool.eq_iff_iff, Option.isSome_iff_exists, Option.isSome_iff_exists]
    constructor
    . rintro ⟨x, e⟩
      exact ⟨_, List.getElem?_eq_getElem (h.length ▸ (List.getElem?_eq_some_iff.mp e).1)⟩
    . rintro ⟨x, e⟩
      exact ⟨_, List.getElem?_eq_getElem (h.length ▸ (List.getElem?_eq_some_iff.mp e).1)⟩
theorem hH' {kvs : List (Key × V)} (k : Key) : Paired (fun p d => M.eqb d (kD k) = decide (p.1 = k)) kvs (kvs.map fun p => kD p.1) := by
  induction kvs with
  | nil => exact .nil
  | cons p kvs ih => exact .cons (uR' p.1 k) ih
theorem fI' {ks : List M.D} {k : M.D} (h : M.rp' ks k = true) : M.kat k = true /\ M.dep k <= 8 /\ ∀ d ∈ ks, M.sca d = M.sca k := by
  unfold M.rp' at h
  rw [Bool.and_eq_true, Bool.and_eq_true, decide_eq_true_iff, List.all_eq_true] at h
  exact ⟨h.1.1, h.1.2, fun d hd => by simpa using h.2 d hd⟩
theorem u6' {xs : List (NestedKey × Addr × V)} {ks : List M.D} (s : Same F H) (n : NestKeys ks xs) (z : FzA K F T (xs.map fun x => .ref x.2.1) ks) : xl' K H xs := by
  obtain ⟨e, q⟩ := n
  induction xs generalizing ks with
  | nil => exact fun _ z => nomatch z
  | cons x xs ih =>
    cases z with
    | @cons _ _ d ds z1 z2 =>
      simp only [List.map_cons, List.cons.injEq] at e
      obtain ⟨q1, q2, q3⟩ := q d (by simp)
      intro y hy
      rcases List.mem_cons.mp hy with rfl | hy
      . have := z1.nk s q1
        rw [<- e.1] at this
        refine ⟨this, ?_⟩
        rw [e.1, iu' d q1]
        exact q2
      . exact ih z2 e.2 (fun d hd => q d (by simp [hd])) y hy
theorem js' {y : V} {dk : M.D} (z : Fz K F T y dk) (h1 : M.kat dk = true) (h2 : M.sca dk = false) : ∃ b, y = .ref b := by
  cases z with
  | tup _ _ => exact ⟨_, rfl⟩
  | non => cases h2
  | bl _ => cases h2
  | int _ => cases h2
  | str _ => cases h2
  | _ => cases h1
theorem jF' {y : V} {dk : M.D} (s : Same F H) (z : Fz K F T y dk) (h1 : M.kat dk = true) (h3 : M.dep dk <= 8) : NkV K H y (nk dk) /\ (nk dk).depth <= 8 := ⟨z.nk s h1, by rw [iu' dk h1]; exact h3⟩
theorem fL' {xs : List (NestedKey × Addr × V)} {ks : List M.D} {dk : M.D} (n : NestKeys ks xs) (h : M.kat dk = true) : Paired (fun p d => M.eqb d dk = decide (p.1 = nk dk)) (xsV xs) ks := by
  refine gg' (g := nk) ?_ fun d hd => rH' (n.s d hd).1 h
  rw [xsV, List.map_map]
  exact n.e
theorem lc' {kvs : List (Leaf × V)} {ks : List M.D} {dk : M.D} (n : LeafKeys ks (kvs.map (·.1))) (h : M.sca dk = true) : Paired (fun p d => M.eqb d dk = decide (p.1 = lfD dk)) kvs ks :=
  gg' (g := lfD) n.e fun d hd => zo' (n.s d hd) h
def Ans (K : PySem.W.Frag) (F : Hp) (T : List Addr) (ov : Option V) (r : Option M.O) : Prop := ov.isSome = r.isSome /\ ∀ d, r = some (.fz d) -> ∃ u, ov = some u /\ Fz K F T u d
theorem jP' {a : Addr} {kvs : List (Leaf × V)} {ks : List M.D} {os : List M.O} {y : V} {dk : M.D} (s : Same F H) (hH : Rd H a (dcL a kvs)) (n : LeafKeys ks (kvs.map (·.1))) (ra : RpA K F T (kvs.map (·.2)) os fp)
    (zk : Fz K F T y dk) (hf : M.rp' ks dk = true) : ∃ ov, DLk K H a y ov /\ Ans K F T ov (M.dget ks os dk) := by
  obtain ⟨h1, h2, h3⟩ := fI' hf
  cases hs : M.sca dk with
  | true =>
    refine ⟨_, .l hH (zk.lf hs), ?_⟩
    rw [dV' (lc' n hs)]
    exact ra.dget
  | false =>
    have e : ks = [] := by
      cases ks with
      | nil => rfl
      | cons d ks => have q1 := h3 d (by simp); rw [n.s d (by simp), hs] at q1; cases q1
    subst e
    have e2 : kvs = [] := by have := congrArg List.length n.e; simpa using this
    subst e2
    obtain ⟨b, rfl⟩ := js' zk h1 hs
    obtain ⟨q1, q2⟩ := jF' s zk h1 h2
    exact ⟨none, .ln hH q1 q2, rfl, fun d e => nomatch e⟩
theorem jG' {a : Addr} {xs : List (NestedKey × Addr × V)} {ks : List M.D} {os : List M.O} {y : V} {dk : M.D} (s : Same F H) (hH : Rd H a (dcN a xs)) (n : NestKeys ks xs) (zx : FzA K F T (xs.map fun x => .ref x.2.1) ks)
    (ra : RpA K F T (xs.map (·.2.2)) os fp) (zk : Fz K F T y dk) (hf : M.rp' ks dk = true) : ∃ ov, DLk K H a y ov /\ Ans K F T ov (M.dget ks os dk) := by
  obtain ⟨h1, h2, h3⟩ := fI' hf
  cases hs : M.sca dk with
  | true =>
    have e : ks = [] := by
      cases ks with
      | nil => rfl
      | cons d ks => have q1 := h3 d (by simp); rw [(n.s d (by simp)).2.2, hs] at q1; cases q1
    subst e
    have e2 : xs = [] := by have := congrArg List.length n.e; simpa using this
    subst e2
    exact ⟨none, .nl hH (zk.lf hs), rfl, fun d e => nomatch e⟩
  | false =>
    obtain ⟨b, rfl⟩ := js' zk h1 hs
    obtain ⟨q1, q2⟩ := jF' s zk h1 h2
    refine ⟨_, .n hH (u6' s n zx) q1 q2, ?_⟩
    rw [dV' (fL' n h1)]
    have e : (xsV xs).map (·.2) = xs.map (·.2.2) := by rw [xsV, List.map_map]; rfl
    rw [e]
    exact ra.dget
theorem nA' {a : Addr} {kvs : List (Key × V)} {os : List M.O} {y : V} {dk : M.D} (hH : Rd H a (.dK kvs)) (ra : RpA K F T (kvs.map (·.2)) os fp) (zk : Fz K F T y dk) (hf : M.isK dk = true) :
    ∃ ov, DLk K H a y ov /\ Ans K F T ov (M.dget (kvs.map fun p => kD p.1) os dk) := by
  obtain ⟨k, hk⟩ := jV' hf
  have e := jS' zk hk
  subst e
  have e2 := gu' hk
  subst e2
  refine ⟨_, .k k hH, ?_⟩
  rw [dV' (hH' k)]
  exact ra.dget
theorem np' {v : V} {k : Key} (z : Fz K F T v (kD k)) : okK k := by
  cases k with
  | inl i => exact True.intro
  | inr x =>
    obtain ⟨_, o⟩ := Fz.str_inv (s := x.cps.toList) z
    exact o
theorem rd' {v : V} {o : M.O} {y : V} {dk : M.D} {r : Option M.O} (f : FpH F H (fp ++ fr)) (q : Rp K F T v o fp) (zk : Fz K F T y dk) (e : M.cd' o dk = some r) : ∃ a ov, v = .ref a /\ DLk K H a y ov /\ Ans K F T ov r := by
  cases q with
  | fz z =>
    rename_i d
    cases d <;> try (cases e; done)
    . cases z with
      | dct h _ z =>
        simp only [M.cd'] at e
        split at e
        . rename_i hk
          cases e
          obtain ⟨ov, g1, g2⟩ := nA' (e0' f.low h) (.of_fz z) zk hk
          exact ⟨_, ov, rfl, g1, g2⟩
        . cases e
    . simp only [M.cd'] at e
      split at e
      . rename_i hk
        cases e
        cases z with
        | dcl h n z =>
          obtain ⟨ov, g1, g2⟩ := jP' f.low (e0' f.low h) n (.of_fz z) zk hk
          exact ⟨_, ov, rfl, g1, g2⟩
        | dcn h n zx z =>
          obtain ⟨ov, g1, g2⟩ := jG' f.low (e0' f.low h) n zx (.of_fz z) zk hk
          exact ⟨_, ov, rfl, g1, g2⟩
      . cases e
  | lst _ => cases e
  | tup _ => cases e
  | @dct p kvs os fp0 _ ra =>
    simp only [M.cd'] at e
    split at e
    . rename_i hk
      cases e
      obtain ⟨ov, g1, g2⟩ := nA' (.inl (f.at_ (p, .dK kvs) (by simp)).1) ra zk hk
      exact ⟨_, ov, rfl, g1, g2⟩
    . cases e
  | @dcl p kvs ks os fp0 n ra =>
    simp only [M.cd'] at e
    split at e
    . rename_i hk
      cases e
      obtain ⟨ov, g1, g2⟩ := jP' f.low (.inl (f.at_ (p, dcL p kvs) (by simp)).1) n ra zk hk
      exact ⟨_, ov, rfl, g1, g2⟩
    . cases e
  | @dcn p xs ks os fp0 n zx ra =>
    simp only [M.cd'] at e
    split at e
    . rename_i hk
      cases e
      obtain ⟨ov, g1, g2⟩ := jG' f.low (.inl (f.at_ (p, dcN p xs) (by simp)).1) n zx ra zk hk
      exact ⟨_, ov, rfl, g1, g2⟩
    . cases e
def Put (K : PySem.W.Frag) (F H : Hp) (T : List Addr) (a : Addr) (y v : V) (h0 : HO) (f0 : Fp) (o' : M.O) (fv : Fp) : Prop :=
  H a = some h0 /\ ∀ N : Hp -> Prop, (∀ h1 f1, Rp K F T (.ref a) o' ((a, h1) :: f1) -> Part f1 (f0 ++ fv) -> N (upd H a h1)) -> DSt K H a y v N
theorem RpA.setO {v : V} {o : M.O} {fv : Fp} (zd : Rp K F T v o fv) : ∀ {os : List M.O} {vs : List V} {f2 : Fp} (j : Nat), RpA K F T vs os f2 -> ∃ f2', RpA K F T (vs.set j v) (os.set j o) f2' /\ Part f2' (f2 ++ fv)
  | [], _, _, _, .nil => ⟨[], .nil, .nil⟩
  | _ :: os, _, _, 0, .cons (fp := fa) (fq := fb) r0 r => ⟨_, RpA.cons zd r, by walk_at "parts"⟩
  | _ :: os, _, _, j + 1, .cons (fp := fa) (fq := fb) r0 r => by
    obtain ⟨f2', q1, q2⟩ := RpA.setO zd j r
    refine ⟨_, .cons r0 q1, ?_⟩
    rw [List.append_assoc]
    exact .app .refl q2
theorem dG' {α : Type} {ks ks' : List M.D} {os os' : List α} {k : M.D} {o : α} (h : M.ni' ks os k o = some (ks', os')) : (∃ j, M.fH' ks k = some j /\ ks' = ks /\ os' = os.set j o) \/ (M.fH' ks k = none /\ ks.length < M.cR' /\ ks' = ks ++ [k] /\ os' = os ++ [o]) := by
  unfold M.ni' at h
  split at h
  . rename_i j e
    cases h
    exact .inl ⟨j, e, rfl, rfl⟩
  . rename_i e
    split at h
    . rename_i hl
      cases h
      exact .inr ⟨e, hl, rfl, rfl⟩
    . cases h
theorem hE' {kvs kvs' : List (Key × V)} (h : kvs'.map (·.1) = kvs.map (·.1)) : (kvs'.map fun p => kD p.1) = kvs.map fun p => kD p.1 := by
  have := congrArg (List.map kD) h
  rw [List.map_map, List.map_map] at this
  exact this
theorem yz' {a : Addr} {o o' ov : M.O} {h0 : HO} {f0 fv : Fp} {y v : V} {dk : M.D} (f : FpH F H (((a, h0) :: f0) ++ fr)) (q : Rp K F T (.ref a) o ((a, h0) :: f0)) (zk : Fz K F T y dk) (zv : Rp K F T v ov fv)
    (e : M.dZ' o dk ov = some o') : Put K F H T a y v h0 f0 o' fv := by
  have hH : H a = some h0 := (f.at_ (a, h0) (by simp)).1
  have zv' : RpA K F T [v] [ov] (fv ++ []) := .cons zv .nil
  rw [List.append_nil] at zv'
  refine ⟨hH, fun N hN => ?_⟩
  cases q with
  | lst _ => cases e
  | tup _ => cases e
  | @dct _ kvs os _ okk ra =>
    simp only [M.dZ'] at e
    split at e
    . rename_i hk
      obtain ⟨k, hk⟩ := jV' hk
      have e1 := jS' zk hk
      subst e1
      have e2 := gu' hk
      subst e2
      cases el : M.ni' (kvs.map fun p => kD p.1) os (kD k) ov with
      | none => rw [el] at e; cases e
      | some p =>
        obtain ⟨ks', os'⟩ := p
        rw [el] at e
        cases e
        rcases dG' el with ⟨j, ej, rfl, rfl⟩ | ⟨ej, hl, rfl, rfl⟩
        . obtain ⟨f2', q1, q2⟩ := RpA.setO zv j ra
          refine .k k hH rfl fun nd => ?_
          obtain ⟨g1, g2⟩ := (cW' (v := v) (hH' k) nd).1 j ej
          refine ⟨fun z => by have := congrArg List.length g1; simp only [List.length_map] at this; omega, hN _ f2' ?_ q2⟩
          rw [<- hE' g1]
          rw [<- g2] at q1
          exact .dct (okk.fst g1) q1
        . rw [List.length_map] at hl
          refine .k k hH rfl fun nd => ?_
          have g := (cW' (v := v) (hH' k) nd).2 ej
          rw [g]
          refine ⟨fun _ => by rw [bu', List.length_append]; simp only [List.length_singleton]; omega, hN _ (f0 ++ fv) ?_ .refl⟩
          have q1 := ra.app zv'
          have e3 : ((kvs.map fun p => kD p.1) ++ [kD k]) = (kvs ++ [(k, v)]).map fun p => kD p.1 := by simp
          rw [e3]
          exact .dct (okk.snoc (np' zk)) (by simpa using q1)
    . cases e
  | @dcl _ kvs ks os _ n ra =>
    simp only [M.dZ'] at e
    split at e
    . rename_i hk
      obtain ⟨h1, h2, h3⟩ := fI' hk
      cases el : M.ni' ks os dk ov with
      | none => rw [el] at e; cases e
      | some p =>
        obtain ⟨ks', os'⟩ := p
        rw [el] at e
        cases e
        cases hs : M.sca dk with
        | true =>
          rcases dG' el with ⟨j, ej, rfl, rfl⟩ | ⟨ej, hl, rfl, rfl⟩
          . obtain ⟨f2', q1, q2⟩ := RpA.setO zv j ra
            refine .l hH (zk.lf hs) fun nd => ?_
            obtain ⟨g1, g2⟩ := (cW' (v := v) (lc' n hs) nd).1 j ej
            refine ⟨fun z => by have := congrArg List.length g1; simp only [List.length_map] at this; omega, hN _ f2' ?_ q2⟩
            rw [<- g2] at q1
            rw [<- g1] at n
            exact .dcl n q1
          . have e4 : kvs.length = ks.length := by have := congrArg List.length n.e; simpa using this
            refine .l hH (zk.lf hs) fun nd => ?_
            have g := (cW' (v := v) (lc' n hs) nd).2 ej
            rw [g]
            refine ⟨fun _ => by rw [bu', List.length_append]; simp only [List.length_singleton]; omega, hN _ (f0 ++ fv) ?_ .refl⟩
            have q1 := ra.app zv'
            refine .dcl ⟨by simp [n.e], fun d hd => ?_⟩ (by simpa using q1)
            rcases List.mem_append.mp hd with hd | hd
            . exact n.s d hd
            . rw [List.mem_singleton.mp hd]; exact hs
        | false =>
          have e5 : ks = [] := by
            cases ks with
            | nil => rfl
            | cons d ks => have q1 := h3 d (by simp); rw [n.s d (by simp), hs] at q1; cases q1
          subst e5
          have e6 : kvs = [] := by have := congrArg List.length n.e; simpa using this
          subst e6
          cases ra
          obtain ⟨b, rfl⟩ := js' zk h1 hs
          obtain ⟨q1, q2⟩ := jF' f.low zk h1 h2
          rcases dG' el with ⟨j, ej, rfl, rfl⟩ | ⟨ej, hl, rfl, rfl⟩
          . cases ej
          . refine .ln hH rfl q1 q2 (hN _ fv ?_ (.right .refl))
            exact .dcn (xs := [(nk dk, b, v)]) ⟨rfl, fun d hd => by rw [List.mem_singleton.mp hd]; exact ⟨h1, h2, hs⟩⟩ (.cons zk .nil) zv'
    . cases e
  | @dcn _ xs ks os _ n zx ra =>
    simp only [M.dZ'] at e
    split at e
    . rename_i hk
      obtain ⟨h1, h2, h3⟩ := fI' hk
      cases el : M.ni' ks os dk ov with
      | none => rw [el] at e; cases e
      | some p =>
        obtain ⟨ks', os'⟩ := p
        rw [el] at e
        cases e
        cases hs : M.sca dk with
        | true =>
          have e5 : ks = [] := by
            cases ks with
            | nil => rfl
            | cons d ks => have q1 := h3 d (by simp); rw [(n.s d (by simp)).2.2, hs] at q1; cases q1
          subst e5
          have e6 : xs = [] := by have := congrArg List.length n.e; simpa using this
          subst e6
          cases ra
          rcases dG' el with ⟨j, ej, rfl, rfl⟩ | ⟨ej, hl, rfl, rfl⟩
          . cases ej
          . refine .nl hH (zk.lf hs) (hN _ fv ?_ (.right .refl))
            exact .dcl (kvs := [(lfD dk, v)]) ⟨rfl, fun d hd => by rw [List.mem_singleton.mp hd]; exact hs⟩ zv'
        | false =>
          obtain ⟨b, rfl⟩ := js' zk h1 hs
          obtain ⟨q1, q2⟩ := jF' f.low zk h1 h2
          have ev : (xsV xs).map (·.2) = xs.map (·.2.2) := by rw [xsV, List.map_map]; rfl
          have ek : (xsV xs).map (·.1) = xs.map (·.1) := by rw [xsV, List.map_map]; rfl
          have evp : ∀ k b v, (xsV (kB' xs k b v)).map (·.2) = (kB' xs k b v).map (·.2.2) := fun k b v => by rw [xsV, List.map_map]; rfl
          have ekp : ∀ k b v, (xsV (kB' xs k b v)).map (·.1) = (kB' xs k b v).map (·.1) := fun k b v => by rw [xsV, List.map_map]; rfl
          rcases dG' el with ⟨j, ej, rfl, rfl⟩ | ⟨ej, hl, rfl, rfl⟩
          . obtain ⟨f2', r1, r2⟩ := RpA.setO zv j ra
            refine .n hH (u6' f.low n zx) rfl q1 q2 fun nd => ?_
            obtain ⟨g1, g2⟩ := (cW' (v := v) (fL' n h1) (by rw [ek]; exact nd)).1 j ej
            rw [<- nf' xs (nk dk) b v, evp, ev] at g2
            rw [<- nf' xs (nk dk) b v, ekp, ek] at g1
            have hany : (xs.any fun x => decide (x.1 = nk dk)) = true := by
              have e7 := dV' (fL' (dk := dk) n h1)
              have e8 : (M.dget ks' ((xsV xs).map (·.2)) dk).isSome = true := by
                unfold M.dget
                rw [ej, Option.bind_some, ev]
                have hj : j < ks'.length := by
                  unfold M.fH' at ej
                  exact (List.findIdx?_eq_some_iff_getElem.mp ej).1
                have e9 : xs.length = ks'.length := by have := congrArg List.length n.e; simpa using this
                rw [List.getElem?_eq_getElem (by rw [List.length_map]; omega)]
                rfl
              rw [<- e7, <- valV_any, xsV, List.any_map] at e8
              exact e8
            refine ⟨fun z => by have := congrArg List.length g1; simp only [List.length_map] at this; omega, hN _ f2' ?_ r2⟩
            rw [<- g2] at r1
            refine .dcn ⟨by rw [g1]; exact n.e, n.s⟩ ?_ r1
            rw [qO' hany]
            exact zx
          . have e4 : xs.length = ks.length := by have := congrArg List.length n.e; simpa using this
            refine .n hH (u6' f.low n zx) rfl q1 q2 fun nd => ?_
            have g := (cW' (v := v) (fL' n h1) (by rw [ek]; exact nd)).2 ej
            have gx : kB' xs (nk dk) b v = xs ++ [(nk dk, b, v)] := by
              unfold kB'
              rw [if_neg]
              intro hany
              have e7 := dV' (fL' (dk := dk) n h1)
              have e8 : (valV (xsV xs) (nk dk)).isSome = true := by
                rw [<- valV_any, xsV, List.any_map]
                exact hany
              rw [e7] at e8
              unfold M.dget at e8
              rw [ej] at e8
              cases e8
            rw [gx]
            refine ⟨fun _ => by rw [bu', List.length_append]; simp only [List.length_singleton]; omega, hN _ (f0 ++ fv) ?_ .refl⟩
            have r1 := ra.app zv'
            refine .dcn ⟨by simp [n.e], fun d hd => ?_⟩ ?_ (by simpa using r1)
            . rcases List.mem_append.mp hd with hd | hd
              . exact n.s d hd
              . rw [List.mem_singleton.mp hd]; exact ⟨h1, h2, hs⟩
            . rw [List.map_append]
              exact zx.append (.cons zk .nil)
    . cases e
end
def CR' (K : PySem.W.Frag) (neg : Bool) : R2 := fun y x H Q => ∃ a ov, x = .ref a /\ DLk K H a y ov /\ Q (.bl (ov.isSome != neg)) H
def Do' (K : PySem.W.Frag) : R2 := fun x y H Q => ∃ a v, x = .ref a /\ DLk K H a y (some v) /\ Q v H
section
variable {X : Cx} {W : WX} {pos tpos : Pos} {a b o i : Expr} {ma mb mo mi : M.ME} {σ : St} {H : Hp} {Q : VK}
theorem wd' (hw : X.prog = Wd.P /\ X.w = Wd.w) (hu : X.A.units + 64 < cLine) : OpR X (compareOp .NotIn) (CR' X.K true) := by
  intro pins s σ H y x iv u Q I ry rx h
  obtain ⟨a, ov, ex, g, q⟩ := h
  subst ex
  cases (show u = Value.ref a from rx)
  exact zs' hw hu I g ry fun s' I' => ⟨.bl (ov.isSome != true), H, I', by rw [Bool.bne_true]; exact rfl, q⟩
theorem tL' {neg : Bool} {i : Nat} (h : qE X.K W (M.tu' neg i ma) σ H Q) : tOp (CR' X.K neg) (qE X.K W ma) (tVar i) σ H Q := by
  obtain ⟨ρ, F, T, fr, rel, h⟩ := h
  refine aB' rel h fun dk ρ1 y H1 F1 T1 e1 zk r1 h1 => ?_
  split at h1
  . rename_i o e
    obtain ⟨dz, ez, q⟩ := aG'.ofO h1
    obtain ⟨r, er, rfl⟩ := Option.map_eq_some_iff.mp ez
    obtain ⟨fe, fw, re, rw, f⟩ := id r1
    obtain ⟨u, f1, f2, f3, g1, rfl, g3, _, _⟩ := re.get e (M.dW' (fun z => by rw [z] at er; exact nomatch (show (none : Option (Option M.O)) = some r from er)) (fun z => by rw [z] at er; exact nomatch (show (none : Option (Option M.O)) = some r from er)))
    have f' : FpH F1 H1 (f2 ++ (f1 ++ (f3 ++ (fw ++ fr)))) := f.part (by walk_at "parts")
    obtain ⟨p, ov, rfl, g, a1, _⟩ := rd' f' g3 zk er
    refine ⟨_, g1, p, ov, rfl, g, ?_⟩
    rw [a1]
    exact q _ H1 F1 T1 e1 (.bl _) r1
  . exact h1.elim
theorem yC' {te ti : TE} (hw : X.prog = Wd.P /\ X.w = Wd.w) (hu : X.A.units + 64 < cLine) (ho : PE X o te) (hi : PE X i ti) (hs : NoSl i) : PE X (.Subscript o i pos) (tOp (Do' X.K) te ti) := by
  refine ⟨fun pins s σ H Q I h => subD_of PySem.F.slot_dict_getitem.lookup hs (thn (ho.run pins s σ H _ I h) fun u s1 ⟨x, H1, I1, rx, q1⟩ => thn (hi.run pins s1 σ H1 _ I1 q1) fun iv s2 ⟨y, H2, I2, ry, q2⟩ => ?_)⟩
  obtain ⟨a, v, ex, g, q2⟩ := q2
  subst ex
  cases (show u = Value.ref a from rx)
  exact ⟨wM' hw I2 g, zt' hw hu I2 g ry fun w' s3 I3 rw' => ⟨v, H2, I3, rw', q2⟩⟩
theorem c5' {n : Nat} (hw : X.prog = Wd.P /\ X.w = Wd.w) (hu : X.A.units + 64 < cLine) (hv : PE X o (tVar n)) (hi : SE X W i mi) (hs : NoSl i) : SE X W (.Subscript o i pos) (M.kE' n mi) :=
  PE.imp (yC' hw hu hv hi hs) fun σ H Q ⟨ρ, F, T, fr, rel, h⟩ => by
    unfold M.kE' at h
    split at h
    . rename_i o0 e0
      obtain ⟨fe, fw, re, rw, f⟩ := id rel
      obtain ⟨v, h1⟩ := re.val e0
      refine ⟨v, h1, aB' rel h fun dk ρ1 y H1 F1 T1 e1 zk r1 h2 => ?_⟩
      split at h2
      . rename_i o e2
        obtain ⟨dz, ez, q⟩ := aG'.ofO h2
        obtain ⟨fe', fw', re', rw', f'⟩ := id r1
        obtain ⟨u, f1', f2', f3', h1', rfl, h3', _⟩ := re'.get e2 (M.dW' (fun z => by rw [z] at ez; exact nomatch (show (none : Option M.D) = some dz from ez)) fun z => by rw [z] at ez; exact nomatch (show (none : Option M.D) = some dz from ez))
        rw [h1] at h1'
        cases h1'
        have f4 : FpH F1 H1 (f2' ++ (f1' ++ (f3' ++ (fw' ++ fr)))) := f'.part (by walk_at "parts")
        obtain ⟨r, er, hr⟩ : ∃ r, M.cd' o dk = some r /\ r = some (.fz dz) := by
          unfold M.tQ' at ez
          split at ez
          . rename_i d er
            cases ez
            exact ⟨_, er, rfl⟩
          . cases ez
        obtain ⟨p, ov, rfl, g, _, a2⟩ := rd' f4 h3' zk er
        obtain ⟨w, rfl, zw⟩ := a2 dz hr
        exact ⟨p, w, rfl, g, q w H1 F1 T1 e1 zw r1⟩
      . exact h2.elim
    . exact h.elim
theorem Rel.slotX {K : PySem.W.Frag} {ρ : M.PSt} {F : Hp} {T : List Addr} {fr : Fp} {i : Nat} {o : M.O} {v : V} (rel : Rel K ρ σ H F T fr) (e : ρ.env[i]? = some (some o)) (hp : σ[i]? = some (some v)) (hne : M.A7' o = true := by first | assumption | rfl) :
    ∃ f2 fz, Rp K F T v o f2 /\ FpH F H (f2 ++ (fz ++ fr)) /\ ∀ p h0 f0 h1 o' f1 fr', f2 = (p, h0) :: f0 -> v = .ref p -> Rp K F T v o' ((p, h1) :: f1) -> Part (f1 ++ fr') (f0 ++ fr) -> Rel K ⟨ρ.env.set i (some o'), ρ.w⟩ σ (upd H p h1) F T fr' := by
  obtain ⟨fe, fw, re, rw, f⟩ := rel
  obtain ⟨v', f1, f2, f3, g1, rfl, g3, _, g5⟩ := re.get e
  rw [g1] at hp
  cases hp
  refine ⟨f2, f1 ++ (f3 ++ fw), g3, f.part (by walk_at "parts"), ?_⟩
  intro p h0 f0 h1 o' f1' fr' e2 ev r pt
  subst e2 ev
  have e5 := g5 F T (.ref p) o' ((p, h1) :: f1') .refl r
  rw [ec' g1] at e5
  refine ⟨_, fw, e5, rw, ?_⟩
  have fA : FpH F H (f1 ++ ((p, h0) :: (f3 ++ (fw ++ (f0 ++ fr))))) := f.part (by walk_at "parts")
  have fB := fA.write (o' := h1)
  have pm := pt.m
  have pc := pt.c
  refine fB.part ?_
  constructor
  . intro e h
    have := pm e
    simp only [List.mem_append, List.mem_cons] at *
    grind
  . intro x
    have := pc x
    simp only [keys, List.map_append, List.map_cons, List.count_append, List.count_cons] at *
    omega
theorem sU' {value : Expr} {te ti tv : TE} (hwd : X.prog = Wd.P /\ X.w = Wd.w) (hu : X.A.units + 64 < cLine) (ho : PE X o te) (hi : PE X i ti) (hv : PE X value tv) (hs : swapsWith value (some (.Subscript o i tpos)) pos.line X.env = pure false) :
    PS X (.Assign [.Subscript o i tpos] value pos) (fun D σ H => tv σ H fun v H1 => te σ H1 fun x H2 => ti σ H2 fun y H3 => ∃ a, x = .ref a /\ DSt X.K H3 a y v (fun H4 => D.nx σ H4)) := by
  refine ⟨fun pins s σ H D I h => wpAny_Assign_Subscript (thn (hv.run pins s σ H _ I h) fun r s1 ⟨v, H1, I1, rv, q1⟩ => thn (ho.run pins s1 σ H1 _ I1 q1) fun u s2 ⟨x, H2, I2, rx, q2⟩ => thn (hi.run pins s2 σ H2 _ I2 q2) fun iv s3 ⟨y, H3, I3, ry, q3⟩ => ?_) hs⟩
  obtain ⟨a, ex, g⟩ := q3
  subst ex
  cases (show u = Value.ref a from rx)
  exact zr' hwd hu I3 g ry rv fun H4 s4 I4 q4 => ⟨σ, H4, I4, q4⟩
theorem qQ' {o o' ov : M.O} {dk : M.D} (h : M.dZ' o dk ov = some o') {K : PySem.W.Frag} {F : Hp} {T : List Addr} {v : V} {fp : Fp} (q : Rp K F T v o fp) : ∃ p h0 f0, v = .ref p /\ fp = (p, h0) :: f0 := by
  cases q with
  | fz z => cases h
  | lst _ => exact ⟨_, _, _, rfl, rfl⟩
  | tup _ => exact ⟨_, _, _, rfl, rfl⟩
  | dct _ _ => exact ⟨_, _, _, rfl, rfl⟩
  | dcl _ _ => exact ⟨_, _, _, rfl, rfl⟩
  | dcn _ _ _ => exact ⟨_, _, _, rfl, rfl⟩
theorem hk' {n : Nat} (hwd : X.prog = Wd.P /\ X.w = Wd.w) (hu : X.A.units + 64 < cLine) (ha : SE X W a ma) (ho : PE X o (tVar n)) (hi : SE X W i mi) (hs : swapsWith a (some (.Subscript o i tpos)) pos.line X.env = pure false := by rfl) :
    SS X W (.Assign [.Subscript o i tpos] a pos) (M.sa' n mi ma) := PS.imp (sU' hwd hu ho hi ha hs) fun D σ H ⟨ρ, F, T, fr, rel, h⟩ => by
  refine cG' rel h fun d ρ1 v H1 F1 T1 e1 z1 r1 h1 => ?_
  split at h1
  . rename_i o0 e0
    obtain ⟨fe, fw, re, rw, f⟩ := id r1
    obtain ⟨x, g1⟩ := re.val e0
    refine ⟨x, g1, cG' r1 h1 fun dk ρ2 y H2 F2 T2 e2 zk r2 h2 => ?_⟩
    split at h2
    . rename_i o1 e3
      split at h2
      . rename_i o' eo
        obtain ⟨f2', fz, q1, q2, q3⟩ := r2.slotX e3 g1 (M.dW' (fun z => by rw [z] at eo; exact nomatch (show (none : Option M.O) = some o' from eo)) (fun z => by rw [z] at eo; exact nomatch (show (none : Option M.O) = some o' from eo)))
        obtain ⟨p, h0, f0, rfl, rfl⟩ := qQ' eo q1
        have hp := yz' (fr := fz ++ fr) q2 q1 zk (.fz (z1.mono e2)) eo
        refine ⟨p, rfl, hp.2 _ fun h1' f1' r3 pt => ?_⟩
        refine h2 σ _ F2 T2 .refl (q3 p h0 f0 h1' o' f1' fr rfl rfl r3 (.app ?_ .refl))
        simpa using pt
      . exact h2.elim
    . exact h2.elim
  . exact h1.elim
theorem vJ' (hwd : X.prog = Wd.P /\ X.w = Wd.w) : SO X W (.Dict [] [] pos) M.s7' := by
  refine ⟨fun pins s σ H Q I ⟨ρ, F, T, fr, rel, h⟩ => wpAny_Dict_empty ⟨.ref s.heap.objs.size, upd H s.heap.objs.size (dcL s.heap.objs.size []), ?_, rfl, ?_⟩⟩
  . refine I.laid (a := s.heap.objs.size) (t' := s.toks) (fun _ _ q => Heap.get?_push_of_some _ q) (Nat.le_refl _) ?_
    rw [hwd.2]
    exact lk' (Nat.zero_le _) (beq_eq_false_iff_ne.mpr (Ne.symm (Nat.ne_of_lt I.big))) .nil (Heap.DictOf.new s.heap)
  . have z : Rp X.K F T (.ref s.heap.objs.size) (.dcx [] []) [(s.heap.objs.size, dcL s.heap.objs.size [])] := Rp.dcl (kvs := []) ⟨rfl, fun _ h => nomatch h⟩ .nil
    exact h _ _ F T _ .refl z (rel.own (I.hok.fresh (Nat.le_refl _)))
def x2' (K : PySem.W.Frag) (tk tv : TE) : TE := fun σ H Q => ∀ p, H p = none -> tPairs [(tk, tv)] σ (upd H p (.dK [])) fun ps H2 => H2 p = some (.dK []) /\ ∃ b k v, ps = [(.ref b, v)] /\ NkV K H2 (.ref b) k /\ k.depth <= 8 /\ Q (.ref p) (upd H2 p (dcN p [(k, b, v)]))
theorem rq' {pins : List (Addr × Obj)} {s : Shared} {p : Addr} (I : Inv X pins σ H s) (h : H p = some (.dK [])) : (p == sysModules) = false /\ s.heap.DictOfH (nestedKind X.prog X.w) p [] := by
  obtain ⟨_, hd, vs, rel, dd⟩ := dk_of I.hok h
  cases rel
  obtain ⟨o, ⟨l⟩, ep, g1, g2, g3, g4, g5, g6⟩ := id dd
  have e : l = [] := by
    have g5 : PySem.Pairs (mixKind X.prog X.w) l [] := g5
    cases g5
    rfl
  subst e
  exact ⟨hd, o, _, ep, g1, g2, g3, rfl, (fun _ z => nomatch z), List.nodup_nil⟩
theorem s1' {k e : Expr} {tk tv : TE} (hwd : X.prog = Wd.P /\ X.w = Wd.w) (hu : X.A.units + 64 < cLine) (hk : PE X k tk) (hv : PE X e tv) : PE X (.Dict [some k] [e] pos) (x2' X.K tk tv) := by
  refine ⟨fun pins s σ H Q I q => ?_⟩
  have J := I.laid (a := s.heap.objs.size) (o := .dK []) (h' := s.heap.push { cls := .type "dict", data := .dict #[] }) (t' := s.toks) (fun _ _ q => Heap.get?_push_of_some _ q) (Nat.le_refl _) (dk_empty s.heap I.big)
  have run := (pps_cons (pos := pos) hk hv pps_nil).run pins _ σ _ _ J (q _ (I.hok.fresh (Nat.le_refl s.heap.objs.size)))
  rw [arm_eval_Dict, zip_pairTrees [some k] [e] X.env pos rfl rfl, dictDisplay_pairs (pairTrees [some k] [e] X.env pos) (by rintro ⟨⟩) (by show 1 < 17; decide)]
  refine wpAny_bind (wpAny_standAt (wpAny_bind (wpAny_subDictH (knd := nestedKind X.prog X.w) (Q := fun d s' => wpAny (model X.prog X.w) X.A (pure (Value.ref d)) (EP X pins σ Q) X.xe s') (by show X.A.units + 8 < cLine; omega) (by show 1 <= 15; decide) ?_)))
  refine thn run fun vs s1 ⟨ps, H2, I2, rel, e0, b, nk, v, ep, h1, h2, q2⟩ => ?_
  subst ep
  cases rel with
  | @cons _ uv _ _ r rn =>
    cases rn
    obtain ⟨ku, vu⟩ := uv
    obtain ⟨r1, r2⟩ := r
    cases (show ku = Value.ref b from r1)
    obtain ⟨hd, dd⟩ := rq' I2 e0
    refine ⟨[(nk, b, vu)], ⟨rfl, rfl, ⟨h1.is I2 rfl, h2⟩, trivial⟩, dd, fun h' tk' dd' hs => wpAny_pure ⟨V.ref s.heap.objs.size, _, d_write I2 (by rw [e0]; exact True.intro) hs (let ⟨q, _, _, hq, _⟩ := dd'; ⟨q, hq⟩) ?_, rfl, q2⟩⟩
    have dd' : h'.DictOfH (nestedKind X.prog X.w) s.heap.objs.size [(nk, b, vu)] := dd'
    rw [hwd.1, hwd.2] at dd'
    rw [hwd.2]
    exact lj' (by rw [sizeLine_eq]; show 1 <= 16777216; decide) hd (.cons ⟨rfl, rfl, r2⟩ .nil) dd'
theorem ql' {k e : Expr} {mk me : M.ME} (hwd : X.prog = Wd.P /\ X.w = Wd.w) (hu : X.A.units + 64 < cLine) (hk : SE X W k mk) (hv : SE X W e me) : SO X W (.Dict [some k] [e] pos) (M.e7' true mk me) :=
  PE.imp (s1' hwd hu hk hv) fun σ H Q ⟨ρ, F, T, fr, rel, h⟩ => fun p hp => by
    have fr1 : Part fr ((p, HO.dK []) :: fr) := by walk_at "parts"
    refine ⟨ρ, F, T, (p, .dK []) :: fr, rel.own hp, (aG'.bind h).mono (fun dk ρ1 h1 y H1 F1 T1 e1 zk r1 => ?_) fun _ _ z => z.frame fr1⟩
    refine ⟨ρ1, F1, T1, (p, .dK []) :: fr, r1, (aG'.bind (h1.mono (fun _ _ z => z) fun _ _ z => z)).mono (fun d ρ2 h2 v H2 F2 T2 e2 zv r2 => ?_) fun _ _ z => (z.mono e1).frame fr1⟩
    obtain ⟨o, eo, q⟩ := aG'.ofO h2
    simp only [M.gi', if_true] at eo
    split at eo
    . rename_i hc
      obtain ⟨c1, c2, c3⟩ := hc
      cases eo
      have zk' := zk.mono e2
      obtain ⟨b, rfl⟩ := js' zk c1 c3
      obtain ⟨fe, fw, re, rw', f⟩ := id r2
      obtain ⟨n1, n2⟩ := jF' f.low zk' c1 c2
      refine ⟨r2.at_ (e := (p, .dK [])) List.mem_cons_self, b, _, v, rfl, n1, n2, ?_⟩
      refine q (.ref p) _ F2 T2 [(p, dcN p [(nk dk, b, v)])] (e1.trans e2) ?_ ?_
      . refine .dcn (xs := [(nk dk, b, v)]) ⟨rfl, fun d hd => by rw [List.mem_singleton.mp hd]; exact ⟨c1, c2, c3⟩⟩ (.cons zk' .nil) ?_
        exact (RpA.cons (fp := []) (fq := []) (.fz zv) .nil)
      . exact r2.write
    . cases eo
theorem jm' {k e : Expr} {mk me : M.ME} (hk : SE X W k mk) (hv : SE X W e me) : SO X W (.Dict [some k] [e] pos) (M.e7' false mk me) :=
  PE.imp (pe_disp (pps_cons hk hv pps_nil) rfl rfl (by intro z; cases z) (by simp)) fun σ H Q ⟨ρ, F, T, fr, rel, h⟩ => fun p hp => by
    have fr1 : Part fr ((p, HO.dK []) :: fr) := by walk_at "parts"
    refine ⟨ρ, F, T, (p, .dK []) :: fr, rel.own hp, (aG'.bind h).mono (fun dk ρ1 h1 y H1 F1 T1 e1 zk r1 => ?_) fun _ _ z => z.frame fr1⟩
    refine ⟨ρ1, F1, T1, (p, .dK []) :: fr, r1, (aG'.bind (h1.mono (fun _ _ z => z) fun _ _ z => z)).mono (fun d ρ2 h2 v H2 F2 T2 e2 zv r2 => ?_) fun _ _ z => (z.mono e1).frame fr1⟩
    obtain ⟨o, eo, q⟩ := aG'.ofO h2
    simp only [M.gi', Bool.false_eq_true, if_false] at eo
    split at eo
    . rename_i hc
      cases eo
      obtain ⟨key, hk⟩ := jV' hc
      have e3 := jS' zk hk
      have e4 := gu' hk
      subst e3 e4
      refine ⟨r2.at_ (e := (p, .dK [])) List.mem_cons_self, [(key, v)], rfl, (by show 1 <= 15; decide), ?_⟩
      refine q (.ref p) _ F2 T2 [(p, .dK [(key, v)])] (e1.trans e2) ?_ ?_
      . exact .dct (kvs := [(key, v)]) (fun p hp => by rw [List.mem_singleton.mp hp]; exact np' zk) (RpA.cons (fp := []) (fq := []) (.fz zv) .nil)
      . exact r2.write
    . cases eo
theorem sJ' {n : Nat} {e f : Expr} {me mf : M.ME} {apos cpos : Pos} (hv : PE X o (tVar n)) (he : SE X W e me) (hf : SE X W f mf) (m : M2 X o "setdefault" apos e f cpos) :
    SE X W (.Call (.Attribute o "setdefault" apos) [e, f] [] cpos) (M.hL' n me mf) := PE.imp (pe_dsetd hv he hf m) fun σ H Q ⟨ρ, F, T, fr, rel, h⟩ => by
  unfold M.hL' at h
  split at h
  . rename_i ks0 os0 e0
    obtain ⟨fe, fw, re, rw, f⟩ := id rel
    obtain ⟨x, f1, f2, f3, g1, eq, g3, _⟩ := re.get e0
    cases g3 with
    | @dct p kvs0 _ fp0 okk0 ra0 =>
      have hH0 : H p = some (.dK kvs0) := (f.at_ (p, .dK kvs0) (by rw [eq]; simp)).1
      refine ⟨_, g1, p, rfl, .inl ⟨_, .inl hH0⟩, aB' rel h fun dk ρ1 y H1 F1 T1 e1 zk r1 h1 => aB' r1 h1 fun d ρ2 z H2 F2 T2 e2 zd r2 h2 => ?_⟩
      split at h2
      . rename_i ks os e3
        split at h2
        . rename_i hc
          obtain ⟨hk, hl⟩ := hc
          obtain ⟨f2', fz, q1, q2, q3⟩ := r2.slotX e3 g1
          cases q1 with
          | @dct _ kvs _ fp1 okk ra =>
            have hH : H2 p = some (.dK kvs) := (q2.at_ (p, .dK kvs) (by simp)).1
            obtain ⟨key, hkey⟩ := jV' hk
            have e4 := jS' zk hkey
            have e5 := gu' hkey
            subst e4 e5
            rw [List.length_map] at hl
            have hv := dV' (hH' (kvs := kvs) key)
            obtain ⟨a1, a2⟩ := ra.dget (ks := kvs.map fun p => kD p.1) (dk := kD key)
            refine ⟨kvs, key, hH, rfl, by rw [bu']; exact hl, fun v ev => ?_, fun ev => ?_⟩
            . rw [hv] at ev
              rw [ev] at a1
              split at h2
              . rename_i d' ed
                obtain ⟨u, g4, g5⟩ := a2 d' ed
                rw [ev] at g4
                cases g4
                exact h2 v H2 F2 T2 (e1.trans e2) g5 r2
              . exact h2.elim
              . rename_i ed
                rw [ed] at a1
                cases a1
            . rw [hv] at ev
              rw [ev] at a1
              split at h2
              . rename_i d' ed
                rw [ed] at a1
                cases a1
              . exact h2.elim
              . have hn : M.fH' (kvs.map fun p => kD p.1) (kD key) = none := by
                  unfold M.dget at ev
                  cases q : M.fH' (kvs.map fun p => kD p.1) (kD key) with
                  | none => rfl
                  | some j =>
                    rw [q, Option.bind_some] at ev
                    unfold M.fH' at q
                    have hj := (List.findIdx?_eq_some_iff_getElem.mp q).1
                    rw [List.length_map] at hj
                    rw [List.getElem?_eq_getElem (by rw [List.length_map]; exact hj)] at ev
                    cases ev
                have hp : putK kvs key z = kvs ++ [(key, z)] := putK_new z (by rw [hv]; exact ev)
                rw [hp]
                refine h2 z _ F2 T2 (e1.trans e2) zd (q3 p _ fp1 (.dK (kvs ++ [(key, z)])) (.dct ((kvs.map fun p => kD p.1) ++ [kD key]) (os ++ [.fz d])) fp1 fr rfl rfl ?_ (.app .refl .refl))
                have r5 := ra.app (RpA.cons (fp := []) (fq := []) (.fz zd) .nil)
                rw [List.append_nil, List.append_nil] at r5
                have e6 : ((kvs.map fun p => kD p.1) ++ [kD key]) = (kvs ++ [(key, z)]).map fun p => kD p.1 := by simp
                rw [e6]
                exact .dct (okk.snoc (np' zk)) (by simpa using r5)
        . exact h2.elim
      . exact h2.elim
  . exact h.elim
end
end S
namespace S
open PySem PySem.Spec PyProof.Rows L2
variable [Wd] [Hot]
section
variable {K : PySem.W.Frag} {F F' H H' : Hp} {T T' : List Addr} {fp fq fr : Fp} {ρ : M.PSt} {σ : St} {W : WX} {Q : VK}
theorem FpH.lock {d : Addr} {u : HO} {od : Obj} (hl : Lkb u) (f : FpH F H fp) (h : F d = some u) : FpH (upd F d (.frz od u)) (upd H d (.frz od u)) fp := by
  have np : ∀ e ∈ fp, e.1 ≠ d := fun e he z => by have := (f.at_ e he).2; rw [z, h] at this; cases this
  refine ⟨fun a u e => ?_, fun e he => ?_, f.nd, f.tbs (fun a h1 h2 h3 => ?_) fun c q hc => ?_⟩
  rotate_left 3
  . rcases hc with hc | ⟨o, hc⟩
    . by_cases ha : c = d
      . subst ha
        rw [h] at hc
        cases hc
        exact .inr ⟨od, upd_same⟩
      . exact .inl (by rw [upd_ne ha]; exact hc)
    . by_cases ha : c = d
      . subst ha
        rw [h] at hc
        cases hc
        rcases hl with ⟨_, e⟩ | ⟨_, e⟩ <;> cases e
      . exact .inr ⟨o, by rw [upd_ne ha]; exact hc⟩
  . by_cases ha : a = d
    . subst ha; rw [upd_same] at e ⊢; exact e
    . rw [upd_ne ha] at e ⊢; exact f.low _ _ e
  . rw [upd_ne (np e he), upd_ne (np e he)]; exact f.at_ e he
  . have ha : a ≠ d := fun z => by rw [z, h] at h1; cases h1
    exact ⟨by rw [upd_ne ha]; exact h1, upd_ne ha, h3⟩
theorem Wk.lock {d : Addr} {u : HO} {od : Obj} (hl : Lkb u) (h : F d = some u) : Wk F (upd F d (.frz od u)) := fun a o e => by
  by_cases ha : a = d
  . subst ha
    rw [h] at e
    cases e
    exact .inr ⟨hl, od, upd_same⟩
  . exact .inl (by rw [upd_ne ha]; exact e)
theorem Rel.lock {d : Addr} {u : HO} {od : Obj} (hl : Lkb u) (r : Rel K ρ σ H F T fr) (h : F d = some u) : Rel K ρ σ (upd H d (.frz od u)) (upd F d (.frz od u)) T fr := by
  obtain ⟨fe, fw, re, rw, f⟩ := r
  have e : Ext F T (upd F d (.frz od u)) T := ⟨.lock hl h, List.prefix_refl _⟩
  exact ⟨fe, fw, re.mono e, rw.mono e, f.lock hl h⟩
def tLk (te : TE) : TE := fun σ H Q => te σ H fun x H1 => (∃ d u, x = .ref d /\ H1 d = some u /\ Mut (some u) /\ ∀ od, Q x (upd H1 d (.frz od u))) \/ Q x H1
theorem Bq' {X : Cx} {e : Expr} {te : TE} (h : PE X e te) : PE X e (tLk te) := by
  refine ⟨fun pins s σ H Q I q => thn (h.run pins s σ H _ I q) fun u s1 ⟨x, H1, I1, rx, q1⟩ => ?_⟩
  rcases q1 with ⟨d, v, rfl, hd, mu, q1⟩ | q1
  . obtain ⟨od, I2⟩ := I1.lock hd mu
    exact ⟨_, _, I2, rx, q1 od⟩
  . exact ⟨x, H1, I1, rx, q1⟩
theorem wp' {ma : M.ME} {G : M.D -> Option (List M.D)} {R : List M.D -> M.PSt -> Prop} {W : WX} {P : V -> Hp -> Prop} (hG : ∀ d ds, G d = some ds -> ∃ ks vs, d = .dct ks vs)
    (rel : Rel K ρ σ H F T fr) (h : aG' ((ma ρ).bind fun x ρ1 => M.ofO (G x) ρ1) R (EX K W σ F T fr))
    (k : ∀ d o kvs ds vs H' F' T' ρ', Ext F T F' T' -> F' d = some (.frz o (.dK kvs)) -> kv' kvs -> FzA K F' T' (kvs.map (·.2)) vs -> G (.dct (kvs.map fun p => kD p.1) vs) = some ds -> Rel K ρ' σ H' F' T' fr -> R ds ρ' -> P (.ref d) H') : tLk (qE K W ma) σ H P := by
  refine ⟨ρ, F, T, fr, rel, (aG'.bind h).mono (fun dx ρ1 h1 v H1 F1 T1 e1 z1 r1 => ?_) fun _ _ z => z⟩
  obtain ⟨ds, eg, hR⟩ := aG'.ofO h1
  obtain ⟨ks, vs, rfl⟩ := hG _ _ eg
  cases z1 with
  | @dct a kvs _ hd ok za =>
    rcases hd with hd | ⟨o, hd⟩
    . refine .inl ⟨a, .dK kvs, rfl, ?_, True.intro, fun od => ?_⟩
      . obtain ⟨fp, f, _⟩ := r1.fp
        exact f.low _ _ hd
      . have e2 : Ext F1 T1 (upd F1 a (.frz od (.dK kvs))) T1 := ⟨.lock (.inl ⟨_, rfl⟩) hd, List.prefix_refl _⟩
        exact k a od kvs ds vs _ _ T1 ρ1 (e1.trans e2) upd_same ok (za.mono e2) eg (r1.lock (.inl ⟨_, rfl⟩) hd) hR
    . exact .inr (k a o kvs ds vs _ _ T1 ρ1 e1 hd ok za eg r1 hR)
theorem Wk.frz {a : Addr} {o : Obj} {u : HO} (s : Wk F F') (h : F a = some (.frz o u)) : F' a = some (.frz o u) := s.at_ h fun _ e => nomatch e
theorem zi' {p : Key} (h : okK p) : Fz K F T (kV p) (kD p) := by
  cases p with
  | inl i => exact .int i
  | inr x =>
    have := Fz.str (K := K) (F := F) (T := T) (s := x.cps.toList) h
    rw [vD'] at this
    exact this
theorem tm' {d : Addr} {o : Obj} {kvs : List (Key × V)} {vs : List M.D} (hd : F d = some (.frz o (.dK kvs))) (ok : kv' kvs) (za : FzA K F T (kvs.map (·.2)) vs) : iI' K (Iti d o kvs) (M.db' (kvs.map fun p => kD p.1) vs) F T := by
  have hl := za.length
  rw [List.length_map] at hl
  refine gv' (fun F' T' H' fp i e f hi => ?_) fun F' T' H' fp i dx dy e f h1 h2 => ?_
  . rw [List.length_map] at hi
    exact ⟨f.low _ _ (e.f.frz hd), by omega⟩
  . rw [List.getElem?_map] at h1
    obtain ⟨p, hp, rfl⟩ := Option.map_eq_some_iff.mp h1
    obtain ⟨v, g1, g2⟩ := za.get h2
    rw [List.getElem?_map, hp] at g1
    cases g1
    refine ⟨⟨f.low _ _ (e.f.frz hd), (List.getElem?_eq_some_iff.mp hp).1⟩, ?_⟩
    rintro x H2 ⟨T0, k, v', ek, rfl, hT, rfl⟩
    rw [hp] at ek
    cases ek
    exact ⟨T0, _, _, rfl, hT, rfl, zi' (ok _ (List.mem_of_getElem? hp)), g2.mono e⟩
end
section
variable {X : Cx} {W : WX} {tg a : Expr} {ma : M.ME} {apos cpos : Pos}
theorem sH' {elts : List Expr} {kk : Nat} {tpos : Pos} (ha : SE X W a ma) (hbase : attributeBase a "items" X.env (eval a X.env) = eval a X.env := by rfl) (hline : (apos.endLine == cpos.line) = true := by rfl) :
    SI X W (.Tuple elts kk tpos) (.Call (.Attribute a "items" apos) [] [] cpos) (M.ry' M.rO' ma) := PI.imp (pi_items (Bq' ha) hbase hline) fun σ H R ⟨ρ, F, T, fr, rel, h⟩ => by
  refine wp' (fun d ds e => by cases d <;> first | exact ⟨_, _, rfl⟩ | (cases e)) rel h fun d o kvs ds vs H' F' T' ρ' e hd ok za eg r hR => ?_
  cases eg
  obtain ⟨fp, f, _⟩ := r.fp
  exact ⟨d, o, kvs, rfl, f.low _ _ hd, hR _ _ _ _ e (tm' hd ok za) r⟩
end
section
variable {K : PySem.W.Frag} {F F' H H' : Hp} {T T' : List Addr} {fp fq fr : Fp} {ρ : M.PSt} {σ : St} {W : WX}
def Ao' (K : PySem.W.Frag) (sl : List Nat) (g : M.MG) (t : M.MT) (ek ev : M.ME) (ds : List M.D) (σ : St) (D : Addr) (fr : Fp) (F1 : Hp) (T1 : List Addr) (P : List M.D × List M.D -> M.PSt -> Prop) (Y : Wx) (i : Nat) (H : Hp) : Prop :=
  i <= ds.length /\ ∃ ρ' F' T' kvs vs, Ext F1 T1 F' T' /\ (kvs.map (·.1)).Nodup /\ kv' kvs /\ FzA K F' T' (kvs.map (·.2)) vs /\ Rel K ⟨M.al' sl ρ'.env, ρ'.w⟩ (wipe σ sl) H F' T' ((D, .dK kvs) :: fr) ∧
    aG' (M.dcL sl g t ek ev (ds.drop i) (kvs.map fun p => kD p.1) vs ρ') P Y
theorem wN' {sl : List Nat} {it : M.MI} {g : M.MG} {t : M.MT} {ek ev : M.ME} {Q : VK} (h : qO K W (M.oDc sl it g t ek ev) σ H Q) : tDc (qI K W it) (qG K sl g) (qT K W0 t) (qE K W0 ek) (qE K W0 ev) sl σ H Q := by
  obtain ⟨ρ, F, T, fr, rel, h⟩ := h
  refine ⟨ρ, F, T, fr, rel, (aG'.bind h).mono (fun ds ρ1 h1 J H1 F1 T1 e1 io r1 => ?_) fun _ _ z => z⟩
  intro D hD
  have h2 := aG'.bind h1
  refine ⟨fun i m H => m = ds.length - i /\ Ao' K sl g t ek ev ds σ D fr F1 T1 _ _ i H, ⟨ds.length, by simp, Nat.zero_le _, ρ1, F1, T1, [], [], .refl, List.nodup_nil, .nil, .nil, (r1.wiped sl).own hD, h2⟩, ?_⟩
  rintro i m H2 ⟨rfl, hi, ρ2, F2, T2, kvs, vs, e2, nd, okk, za, r2, h3⟩
  have hH : H2 D = some (.dK kvs) := r2.at_ (e := (D, .dK kvs)) List.mem_cons_self
  obtain ⟨fp2, f2, _⟩ := r2.fp
  by_cases hl : i = ds.length
  . refine .inl ⟨(io F2 T2 H2 fp2 i e2 f2 hi).1 hl, ?_⟩
    rw [hl, List.drop_length] at h3
    have h4 : aG' (M.dcL sl g t ek ev [] _ vs ρ2) _ _ := h3
    unfold M.dcL at h4
    have h5 := h4
    refine h5 (.ref D) H2 F2 T2 ((D, .dK kvs) :: []) (e1.trans e2) ?_ ?_
    . exact .dct okk (RpA.of_fz za)
    . obtain ⟨fe, fw, re, rw, f⟩ := r2
      have re1 : RpE K F2 T2 σ (M.al' sl ρ2.env) fe := by
        refine re.other ?_ fun j o hj => (cy' (dD' hj)).symm
        rw [wipe_length]
      obtain ⟨fe0, fw0, re0, rw0, f0⟩ := r1
      obtain ⟨fq, h6, h7⟩ := RpE.backed (env0 := ρ1.env) (fun i d hd => by
        obtain ⟨v, hv, z⟩ := re0.data hd
        exact ⟨v, hv, z.mono e2⟩) sl re1
      exact ⟨fq, fw, h6, rw, f.part (.app h7 .refl)⟩
  . have hlt : i < ds.length := by omega
    have hd : ds[i]? = some ds[i] := List.getElem?_eq_getElem hlt
    obtain ⟨go, yl⟩ := (io F2 T2 H2 fp2 i e2 f2 hi).2 _ hd
    refine .inr ⟨go, Ao' K sl g t ek ev ds σ D fr F1 T1 _ _ (i + 1), fun H' n => ⟨ds.length - (i + 1), by omega, rfl, n⟩, fun x H3 y => ?_⟩
    obtain ⟨fe, fw, re, rw, f⟩ := id r2
    obtain ⟨yg, yh⟩ := (io F2 T2 H2 _ i e2 f hi).2 _ hd
    obtain ⟨F3, s3, zx, f3⟩ := yh x H3 y
    have r3 : Rel K ⟨M.al' sl ρ2.env, ρ2.w⟩ (wipe σ sl) H3 F3 T2 ((D, .dK kvs) :: fr) := ⟨fe, fw, re.mono (.of s3), rw.mono (.of s3), f3⟩
    rw [List.drop_eq_getElem_cons hlt] at h3
    unfold M.dcL at h3
    cases eg : g ds[i] ⟨M.al' sl ρ2.env, ρ2.w⟩ with
    | none => rw [eg] at h3; exact h3.elim
    | some ρ3 =>
      rw [eg] at h3
      refine ⟨_, F3, T2, _, ds[i], ρ3, r3, zx, eg, fun σ4 w4 r4 => ?_⟩
      rw [d8'] at w4
      refine ⟨w4, ?_⟩
      have h4 := aG'.bind h3
      refine ⟨ρ3, F3, T2, _, r4, (aG'.noX h4).mono (fun b ρ5 h5 H5 F5 T5 e5 r5 => ?_) fun _ _ z => z⟩
      cases b with
      | false =>
        rw [if_neg Bool.false_ne_true]
        refine ⟨hlt, ρ5, F5, T5, kvs, vs, e2.trans ((Ext.of s3).trans e5), nd, okk, (za.mono (.of s3)).mono e5, ?_, h5⟩
        rw [<- w4]
        exact r5.wiped sl
      | true =>
        rw [if_pos rfl] at h5 ⊢
        have h6 := aG'.bind h5
        refine ⟨ρ5, F5, T5, _, r5, (aG'.noX h6).mono (fun dk ρ6 h7 y6 H6 F6 T6 e6 z6 r6 => ?_) fun _ _ z => z⟩
        have h8 := aG'.bind h7
        refine ⟨ρ6, F6, T6, _, r6, (aG'.noX h8).mono (fun dv ρ7 h9 y7 H7 F7 T7 e7 z7 r7 => ?_) fun _ _ z => z⟩
        split at h9
        . rename_i hc
          obtain ⟨hk, hlen⟩ := hc
          rw [List.length_map] at hlen
          have hH7 : H7 D = some (.dK kvs) := r7.at_ (e := (D, .dK kvs)) List.mem_cons_self
          obtain ⟨key, hkey⟩ := jV' hk
          have z6' := z6.mono e7
          have q1 := jS' z6' hkey
          have q2 := gu' hkey
          subst q1 q2
          have za7 := ((za.mono (.of s3)).mono e5).mono (e6.trans e7)
          have ee := e2.trans ((Ext.of s3).trans (e5.trans (e6.trans e7)))
          refine ⟨kvs, key, rfl, hH7, by rw [bu']; exact hlen, hlt, ?_⟩
          cases el : M.ni' (kvs.map fun p => kD p.1) vs (kD key) dv with
          | none => rw [el] at h9; exact h9.elim
          | some p =>
            obtain ⟨ks', vs'⟩ := p
            rw [el] at h9
            have hr := (r7.wiped sl).write (o' := .dK (putK kvs key y7))
            rw [w4] at hr
            rcases dG' el with ⟨j, ej, rfl, rfl⟩ | ⟨ej, _, rfl, rfl⟩
            . obtain ⟨g1, g2⟩ := (cW' (v := y7) (hH' key) nd).1 j ej
              refine ⟨ρ7, F7, T7, putK kvs key y7, vs.set j dv, ee, by rw [g1]; exact nd, okk.fst g1, ?_, hr, ?_⟩
              . rw [g2]
                have main : ∀ {us : List V} {ws : List M.D} (j : Nat), FzA K F7 T7 us ws -> FzA K F7 T7 (us.set j y7) (ws.set j dv) := by
                  intro us ws j h
                  induction us generalizing ws j with
                  | nil => cases h; exact .nil
                  | cons u us ih =>
                    cases h with
                    | cons a r =>
                      cases j with
                      | zero => exact .cons z7 r
                      | succ j => exact .cons a (ih j r)
                exact main j za7
              . rw [hE' g1]
                exact h9
            . have g := (cW' (v := y7) (hH' key) nd).2 ej
              have nin : key ∉ kvs.map (·.1) := by
                intro hm
                obtain ⟨p, hp, rfl⟩ := List.mem_map.mp hm
                unfold M.fH' at ej
                rw [List.findIdx?_eq_none_iff] at ej
                have := ej (kD p.1) (List.mem_map_of_mem hp)
                rw [uR', decide_eq_true rfl] at this
                cases this
              rw [g] at hr ⊢
              refine ⟨ρ7, F7, T7, kvs ++ [(key, y7)], vs ++ [dv], ee, ?_, okk.snoc (np' z6'), ?_, hr, ?_⟩
              . rw [List.map_append, List.nodup_append]
                refine ⟨nd, by simp, ?_⟩
                intro a ha b hb
                simp only [List.map_cons, List.map_nil, List.mem_singleton] at hb
                rw [hb]
                exact fun z => nin (z ▸ ha)
              . rw [List.map_append]
                exact za7.append (.cons z7 .nil)
              . rw [List.map_append]
                exact h9
        . exact h9.elim
end
section
variable {X : Cx} {W : WX} {pos : Pos} {kx vx tg iter : Expr} {ifs : List Expr} {scope : Scope} {own : List (Str × Nat)} {sl : List Nat} {it : M.MI} {g : M.MG} {t : M.MT} {ek ev : M.ME}
theorem x9' (hc : X.calm = true) (hN : X.N.Nodup) (hi : SI X W tg iter it) (ok : BlkOk X.N X.env.scope scope own) (hsl : sl = own.map (·.2))
    (hg : ∀ (s : Shared) (H : Hp) (C : Addr) (cl : List (Str × Addr)) (fp : List Addr), SG (X.blk s H scope (compEnvC scope cl C X.env) fp) tg sl g) (ht : ∀ (s : Shared) (H : Hp) (C : Addr) (cl : List (Str × Addr)) (fp : List Addr), PTs (X.blk s H scope (compEnvC scope cl C X.env) fp) ifs (qT X.K W0 t))
    (hk : ∀ (s : Shared) (H : Hp) (C : Addr) (cl : List (Str × Addr)) (fp : List Addr), SE (X.blk s H scope (compEnvC scope cl C X.env) fp) W0 kx ek) (he : ∀ (s : Shared) (H : Hp) (C : Addr) (cl : List (Str × Addr)) (fp : List Addr), SE (X.blk s H scope (compEnvC scope cl C X.env) fp) W0 vx ev)
    (hs : ∀ x, foldedSetIterable iter X.env x = pure x := by intro _; rfl) : SO X W (.DictComp kx vx [⟨tg, iter, ifs, 0⟩] scope pos) (M.oDc sl it g t ek ev) := by
  subst hsl
  exact PE.imp (pe_dc hc hN hi ok hg ht hk he hs) fun σ H Q h => wN' h
end
section
variable {K : PySem.W.Frag}
def uw' (K : PySem.W.Frag) : List V -> Hp -> VK -> Prop := fun xs H Q => ∃ (d : Addr) (ps : List (Key × V)) (ns : List Int), xs = [.ref d] /\ Rd H d (.dK ps) /\ ps.map (·.1) = ns.map Sum.inl /\ ns.length <= sizeLine ∧
    ∀ (ms : List Int) (l : Addr), ms.Perm ns -> ms.Pairwise (· <= ·) -> H l = none -> Q (.ref l) (upd H l (.lst (ms.map V.int)))
theorem eS' {X : Cx} (hc : X.calm = true) : CallR X (.builtin "sorted") (uw' X.K) := by
  intro pins s σ H xs us Q I r hq
  obtain ⟨d, ps, ns, rfl, hrd, hns, hz, hq⟩ := hq
  obtain ⟨u0, rfl, ru⟩ := vals1 r
  cases ru
  obtain ⟨_, lo, vs, rel, dd⟩ := dk_rd I.hok hrd
  obtain ⟨ep0, hat⟩ := dd.dictAt
  have hk1 : vs.map (·.1) = ns.map Sum.inl := rel.keys.symm.trans hns
  have hl1 : vs.length = ns.length := by
    have := congrArg List.length hk1
    simpa using this
  refine Calls.call_function_entry kind_sorted plain_sorted entry_sorted (args_sorted1 _) ?_
  unfold Builtin.«sorted»
  refine wpAny_bind (m := checkCount "sorted" 1 1 _) (wpAny_pure ?_)
  refine wpAny_bind (PySem.W.kdu_collect (A := X.A.in1) (PySem.W.kdl_dict (knd := mixKind X.prog X.w) (kvs := vs) (ep := ep0) lo) (I.ok.hd hc) hat (by rw [hl1]; exact hz) fun hp tk keys hkeep hall => ?_)
  have hlen0 : keys.toList.length = ns.length := by rw [Array.length_toList, hall.1, hl1]
  have hI : IntsAre keys.toList ns := ints_each hlen0 fun j v ev => by
    obtain ⟨k, y, z1, z2⟩ := hall.2 j v (by rw [<- Array.getElem?_toList]; exact ev)
    have z3 : (vs.map (·.1))[j]? = some k := by rw [List.getElem?_map, z1]; rfl
    rw [hk1, List.getElem?_map] at z3
    cases z4 : ns[j]? with
    | none => rw [z4] at z3; cases z3
    | some n0 =>
      rw [z4] at z3
      obtain rfl : Sum.inl n0 = k := Option.some.inj z3
      rcases keyIs_shape (show keyIs (Sum.inl n0) v = true from z2) with ⟨i, t, ei, et⟩ | ⟨z, t, ei, et⟩
      . cases ei
        exact ⟨n0, t, rfl, et⟩
      . cases ei
  have I1 : Inv X pins σ H { s with heap := hp, toks := tk } := I.kept hkeep
  refine wpAny_bind (wpAny_newList ?_ (by rw [hlen0]; exact hz))
  have hoL : (hp.push (seqObj "list" keys.toList.toArray 0)).get? hp.objs.size = some (seqObj "list" keys.toList.toArray 0) := Heap.get?_push_size _ rfl
  show wpAny _ _ _ _ _ { s with heap := hp.push (seqObj "list" keys.toList.toArray 0), toks := tk }
  refine wpAny_bind (wpAny_holding (wpAny_call_entry slot_list_sort ⟨_, hoL, rfl⟩ entry_list_sort
    (SrtO.list_sort_ord (s := { s with heap := hp.push (seqObj "list" keys.toList.toArray 0), toks := tk }) SrtO.swo_int hoL (by rw [hlen0]; exact hz) (fun two => SrtO.ints_sortable hI two) fun out g1 g2 => ⟨_, rfl, ?_⟩) (args_list_sort _)))
  obtain ⟨y1, y2, y3⟩ := SrtO.ints_out hI g1 g2
  obtain ⟨e0, he0⟩ := sortedHeap_at (vs := keys.toList) (out := out.toArray) hoL
  have hlen : ((out.map SrtO.iv).map V.int).length <= sizeLine := by
    rw [List.length_map, y2.length_eq]; exact hz
  refine wpAny_pure ⟨_, rfl, .ref hp.objs.size, upd H hp.objs.size (.lst ((out.map SrtO.iv).map V.int)), I1.laid (t' := tk) (fun b u eb => ?_) (Nat.le_refl _)
    ⟨hlen, out, e0, vals_of_ints y1, he0⟩, rfl, hq _ _ y2 y3 (I1.hok.fresh (Nat.le_refl _))⟩
  have hb : b < hp.objs.size := Heap.lt_size eb
  rw [sortedHeap_old (Nat.ne_of_lt hb) (by rw [size_push']; exact Nat.lt_succ_of_lt hb)]
  exact Heap.get?_push_of_some _ eb
theorem jX' : ∀ {kvs : List (Key × V)} {ns : List Int}, M.bt' (kvs.map fun p => kD p.1) = some ns -> kvs.map (·.1) = ns.map Sum.inl
  | [], ns, h => by cases h; rfl
  | p :: kvs, ns, h => by
    obtain ⟨k, v⟩ := p
    cases k with
    | inl i =>
      have h : (M.bt' (kvs.map fun p => kD p.1)).map (fun x => i :: x) = some ns := h
      cases q : M.bt' (kvs.map fun p => kD p.1) with
      | none => rw [q] at h; cases h
      | some ms =>
        rw [q] at h
        cases h
        rw [List.map_cons, List.map_cons, jX' q]
    | inr x => cases (show (none : Option (List Int)) = some ns from h)
theorem lD' : Bi1 K M.cX' (uw' K) := by
  intro F H T fp x dx dz Q f hx h k
  cases dx <;> try (cases h; done)
  cases hx with
  | @dct a kvs _ hd ok za =>
    simp only [M.cX'] at h
    cases q : M.bt' (kvs.map fun p => kD p.1) with
    | none => rw [q] at h; cases h
    | some ns =>
      rw [q, Option.bind_some] at h
      split at h
      . rename_i hl
        cases h
        refine ⟨a, kvs, ns, rfl, e0' f.low hd, jX' q, hl, fun ys p hp hs hn => ?_⟩
        rw [m7' hp hs]
        exact k.newL f (FzA.rgI _) hn
      . cases h
end
def n8' (p d : Addr) : HO := .ext fun h => h.IsValuesView p d
theorem sn' {P : Program} {w : World} {H : Hp} {h : Heap} {p d : Addr} (e : h.IsValuesView p d) : ObjOk P w H h p (n8' p d) := by
  obtain ⟨o, e1, e2⟩ := id e
  refine ⟨e, ⟨o, e1⟩, ?_⟩
  rintro h1 h2 ⟨o', q1, q2⟩ k
  exact ⟨o', k _ q1, q2⟩
def A8' (te : TE) : TE := fun σ H Q => te σ H fun x H1 => ∃ a kvs, x = .ref a /\ Rd H1 a (.dK kvs) /\ ∀ p, H1 p = none -> Q (.ref p) (upd H1 p (n8' p a))
def Bm' : List V -> Hp -> VK -> Prop := fun xs H Q => ∃ (p a : Addr) (kvs : List (Key × V)) (ns : List Int), xs = [.ref p] /\ H p = some (n8' p a) /\ Rd H a (.dK kvs) /\ kvs.map Prod.snd = ns.map V.int /\ 0 < ns.length /\ ∀ m, m ∈ ns -> (∀ y, y ∈ ns -> y <= m) -> Q (.int m) H
section
variable {X : Cx} {W : WX} {e : Expr} {te : TE} {apos cpos pos p : Pos} {me : M.ME}
theorem v6' (he : PE X e te) (hbase : attributeBase e "values" X.env (eval e X.env) = eval e X.env := by rfl) (hline : (apos.endLine == cpos.line) = true := by rfl) : PE X (.Call (.Attribute e "values" apos) [] [] cpos) (A8' te) := by
  refine ⟨fun pins s σ H Q I h => wpAny_Call_method (T := "dict") (id := "dict.values") hbase rfl hline PySem.F.plainAttrs_dict PySem.F.slot_dict_values PySem.F.type_dict_values (thn (he.run pins s σ H _ I h) fun u s1 ⟨x, H1, I1, rx, a, kvs, ex, hd, q⟩ => ?_)⟩
  subst ex
  cases (show u = Value.ref a from rx)
  obtain ⟨z, hs, vs, rel, dd⟩ := dk_rd I1.hok hd
  refine ⟨dd.typeIs, dd.mapOf.noDict, ?_⟩
  have J := I1.laid (a := s1.heap.objs.size) (o := n8' s1.heap.objs.size a) (h' := s1.heap.push { cls := .type "dict_values", data := .fields #[.ref a] }) (t' := s1.toks) (fun _ _ q => Heap.get?_push_of_some _ q) (Nat.le_refl _)
    (sn' ⟨_, Heap.get?_push_size _ rfl, rfl, rfl⟩)
  show wpAny _ _ (callWith cpos (.builtin "dict.values") [.ref a] [] []) _ X.xe s1
  exact method_meetsIn PySem.F.slot_dict_values PySem.F.entry_dict_values rfl (PySem.evalArgs_none ⟨rfl, dd.typeIs, PySem.F.args_dict_values_1 _, _, meets_dict_values (mixKind X.prog X.w) a hs, ⟨vs, dd⟩, ⟨.ref s1.heap.objs.size, _, J, rfl, q _ (I1.hok.fresh (Nat.le_refl _))⟩⟩)
theorem xf' (hc : X.calm = true) : CallR X (.builtin "max") Bm' := by
  intro pins s σ H xs us Q I rx h
  obtain ⟨p, a, kvs, ns, rfl, hp, hd, hns, hne, q⟩ := h
  rw [Vals.ref1 rx]
  obtain ⟨z, hs, vs, rel, dd⟩ := dk_rd I.hok hd
  have hv : s.heap.IsValuesView p a := (show ObjOk X.prog X.w H s.heap p (n8' p a) from I.hok p _ hp).1
  have hkn : vs.length = ns.length := by
    have e := congrArg List.length hns
    rw [List.length_map, List.length_map] at e
    rw [<- rel.length]
    exact e
  obtain ⟨o, es, ep, g1, g2, g3, g4, g5, g6⟩ := id dd
  have da : s.heap.DictAt (mixKind X.prog X.w) a vs ep := ⟨o, es, g1, g2, g3, g4, g5, g6⟩
  have hP : ∀ (i : Nat) (k : Key) (v : Value), vs[i]? = some (k, v) -> ∃ t, v = .int (ns.getD i 0) t := by
    intro i k v hi
    have hi1 : i < vs.length := (List.getElem?_eq_some_iff.mp hi).1
    have hi2 : i < kvs.length := by rw [rel.length]; exact hi1
    have hi3 : i < ns.length := by omega
    have e2 : kvs[i].2 = V.int ns[i] := by
      have z : (kvs.map Prod.snd)[i]? = (ns.map V.int)[i]? := by rw [hns]
      rw [List.getElem?_map, List.getElem?_map, List.getElem?_eq_getElem hi2, List.getElem?_eq_getElem hi3] at z
      exact Option.some.inj z
    have e3 : ns.getD i 0 = ns[i] := by rw [List.getD_eq_getElem?_getD, List.getElem?_eq_getElem hi3]; rfl
    have main : ∀ {l : List (Key × V)} {m : List (Key × Value)} (i : Nat) (p : Key × V), KV l m -> l[i]? = some p -> ∀ q, m[i]? = some q -> RelV p.2 q.2 := by
      intro l m i p h
      unfold KV at h
      induction h generalizing i with
      | nil => intro e; cases e
      | cons r _ ih =>
        cases i with
        | zero => intro e q e'; cases e; cases e'; exact r.2
        | succ i => exact fun e q e' => ih i e q e'
    have r := main i kvs[i] rel (List.getElem?_eq_getElem hi2) _ hi
    rw [e2] at r
    rw [e3]
    exact r
  have ha : a < s.heap.objs.size := Heap.lt_size g1
  refine call_max_walk (wpAny_pyIter_values (d := a) (knd := mixKind X.prog X.w) hv da ?_)
  refine ⟨s.heap.objs.size, [s.heap.objs.size, a], [s.heap.objs.size], vs.length, fun i v => ∃ k, vs[i]? = some (k, v), _, fun i j => decide (ns.getD i 0 > ns.getD j 0), rfl,
    Walks.dictValues (knd := mixKind X.prog X.w) (show X.A.in1.handled = none from I.ok.hd hc) _ a (Nat.ne_of_lt ha) vs ep, ⟨⟨_, Heap.get?_push_size _ rfl, rfl, rfl⟩, da.push _⟩, fun b hb => ?_, by omega, CmpOf.ints_gt (fun i => ns.getD i 0) (fun i v z => (let ⟨k, z⟩ := z; hP i k v z)), fun v h' tk hv' hk => ?_⟩
  . show b < (s.heap.push _).objs.size
    rw [Heap.size_push]
    rcases List.mem_cons.mp hb with z | z
    . rw [z]; exact Nat.lt_succ_self _
    . rw [List.mem_singleton.mp z]; exact Nat.lt_succ_of_lt ha
  . obtain ⟨k, hv'⟩ := hv'
    obtain ⟨t, rfl⟩ := hP _ k v hv'
    obtain ⟨m1', m2'⟩ := argBest_gt (fun i => ns.getD i 0) (vs.length - 1)
    have m1 : argBest (fun i j => decide (ns.getD i 0 > ns.getD j 0)) (vs.length - 1) <= vs.length - 1 := m1'
    have m2 : ∀ j, j <= vs.length - 1 -> ns.getD j 0 <= ns.getD (argBest (fun i j => decide (ns.getD i 0 > ns.getD j 0)) (vs.length - 1)) 0 := m2'
    have hk2 : ∀ b o, s.heap.get? b = some o -> h'.get? b = some o := fun b o e => hk b o (fun z => by rw [List.mem_singleton.mp z] at e; exact absurd (Heap.lt_size e) (Nat.lt_irrefl _)) (Heap.get?_push_of_some _ e)
    refine ⟨.int _, H, I.kept (t' := tk) hk2, ⟨t, rfl⟩, q _ (PySem.getD_mem (by omega)) fun y hy => ?_⟩
    obtain ⟨j, hj, e⟩ := List.mem_iff_getElem.mp hy
    have z := m2 j (by omega)
    have e3 : ns.getD j 0 = y := by rw [List.getD_eq_getElem?_getD, List.getElem?_eq_getElem hj, <- e]; rfl
    rw [e3] at z
    exact z
theorem qo' {x : Str} (hc : X.calm = true) (hg : Gl X x) (hm : X.mg x = none) (hv : bootBuiltins x = some (.builtin "max")) (he : SE X W e me) (hn : x ≠ "__name__" := by decide) (hdb : (x == ("__debug__" : Str)) = false := by decide)
    (hbase : attributeBase e "values" X.env (eval e X.env) = eval e X.env := by rfl) (hline : (apos.endLine == cpos.line) = true := by rfl)
    (hs : starEach [(.Call (.Attribute e "values" apos) [] [] cpos)] X.env = (false, eval (.Call (.Attribute e "values" apos) [] [] cpos) X.env) :: starEach [] X.env := by rfl) (hpl : (backTo pos (starEach [] X.env)).any (·.1) = false := by rfl) :
    SE X W (.Call (.Name x p) [.Call (.Attribute e "values" apos) [] [] cpos] [] pos) (M.eUn M.ot' me) :=
  PE.imp (pe_callB (xf' hc) hg hm hv (pa_cons (v6' he hbase hline) pa_nil hs) hn hdb hs hpl) fun σ H Q ⟨ρ, F, T, fr, rel, h⟩ => by
    refine aB' rel h fun d ρ1 v H1 F1 T1 e1 z1 r1 h1 => ?_
    obtain ⟨dz, ez, q⟩ := aG'.ofO h1
    cases d <;> try (cases ez; done)
    rename_i ks vs
    cases z1 with
    | @dct a kvs _ hd ok za =>
      simp only [M.ot'] at ez
      cases qi : M.bt' vs with
      | none => rw [qi] at ez; cases ez
      | some ns =>
        rw [qi, Option.bind_some] at ez
        split at ez
        . cases ez
        . rename_i hne
          cases ez
          obtain ⟨fp, f, back⟩ := r1.fp
          have hR := e0' f.low hd
          refine ⟨a, kvs, rfl, hR, fun p hp => ⟨p, a, kvs, ns, rfl, upd_same, ?_, ix' za qi, List.length_pos_iff.mpr hne, fun m hm hM => ?_⟩⟩
          . rcases hR with hR | ⟨o, hR⟩
            . exact .inl (by rw [upd_ne (ne_of_none hR hp)]; exact hR)
            . exact .inr ⟨o, by rw [upd_ne (ne_of_none hR hp)]; exact hR⟩
          . rw [<- jI' ns m hm hM] at *
            have s : Same F1 (upd F1 p (n8' p a)) := cg' (f.free hp)
            exact q _ _ _ T1 (e1.trans (.of s)) (.int _) (back _ _ s (f.new hp))
end
end S
namespace S
open PySem PySem.Spec PyProof.Rows L2
variable [Wd] [Hot]
section
variable {K : PySem.W.Frag} {F H : Hp} {T : List Addr}
mutual
theorem gb' : ∀ {v : V} {d : M.D}, Fz K F T v d -> M.dat d = true -> M.oW' d = true -> (py d).leavesShort 62 = true /\ (py d).showable = true /\ (py d).hasDict = false /\ (py d).bulk = M.nc' d
  | _, _, .non, _, _ => ⟨rfl, rfl, rfl, rfl⟩
  | _, _, .bl b, _, _ => ⟨rfl, rfl, rfl, rfl⟩
  | _, _, .int i, _, h => by
    have h : i.natAbs < 10 ^ 60 := of_decide_eq_true h
    refine ⟨?_, ?_, rfl, rfl⟩
    . show decide ((Str.ofString (toString i)).length <= 62) = true
      rw [decide_eq_true_iff, PySem.ofString_length]
      have := int_text_length_le10 (k := 60) (by decide) h
      omega
    . show decide (i.natAbs.log2 < 1920) = true
      rw [decide_eq_true_iff]
      have h2 : i.natAbs < 2 ^ 1920 := Nat.lt_of_lt_of_le h (by decide +kernel)
      by_cases h0 : i.natAbs = 0
      . rw [h0]; decide
      . exact (Nat.log2_lt h0).mpr h2
  | _, _, .str (s := s) o, _, _ => by
    refine ⟨?_, rfl, rfl, ?_⟩
    . show (sx s).cps.toList.all _ = true
      rw [dO', List.all_eq_true]
      intro c hc
      rw [decide_eq_true_iff]
      have := o.1 c hc
      omega
    . exact ca' s
  | _, _, .tup h r, e, g => by
    obtain ⟨a, b, c, d⟩ := reps_facts r e g
    exact ⟨a, b, c, d⟩
  | _, _, .lst h r, e, g => by
    obtain ⟨a, b, c, d⟩ := reps_facts r e g
    exact ⟨a, b, c, d⟩
  | _, _, .dct h _ r, e, _ => by cases e
  | _, _, .dcl h k r, e, _ => by cases e
  | _, _, .dcn h k q r, e, _ => by cases e
  | _, _, .rep d, e, _ => by cases e
  | _, _, .obj h, e, _ => by cases e
  | _, _, .ty n, e, _ => by cases e
  | _, _, .fn x, e, _ => by cases e
  | _, _, .scr h r, e, _ => by cases e
theorem reps_facts : ∀ {vs : List V} {ds : List M.D}, FzA K F T vs ds -> M.dats ds = true -> M.repIs ds = true -> PyData.leavesShortAll 62 (pys ds) = true /\ PyData.showableAll (pys ds) = true /\ PyData.hasDictAll (pys ds) = false /\ PyData.bulkAll (pys ds) = M.repWs ds
  | _, _, .nil, _, _ => ⟨rfl, rfl, rfl, rfl⟩
  | _, _, .cons h r, e, g => by
    obtain ⟨e1, e2⟩ := Bool.and_eq_true_iff.mp (show (M.dat _ && M.dats _) = true from e)
    obtain ⟨g1, g2⟩ := Bool.and_eq_true_iff.mp (show (M.oW' _ && M.repIs _) = true from g)
    obtain ⟨a1, a2, a3, a4⟩ := gb' h e1 g1
    obtain ⟨b1, b2, b3, b4⟩ := reps_facts r e2 g2
    refine ⟨?_, ?_, ?_, ?_⟩
    . show (PyData.leavesShort 62 _ && PyData.leavesShortAll 62 _) = true
      rw [a1, b1]; rfl
    . show (PyData.showable _ && PyData.showableAll _) = true
      rw [a2, b2]; rfl
    . show (PyData.hasDict _ || PyData.hasDictAll _) = false
      rw [a3, b3]; rfl
    . show PyData.bulk _ + 1 + PyData.bulkAll _ = M.nc' _ + 1 + M.repWs _
      rw [a4, b4]
end
mutual
theorem qs' : ∀ d e : M.D, M.same d e = true -> d = e
  | .non, e, h => by cases e <;> first | rfl | (cases h)
  | .bl a, e, h => by cases e <;> first | (have := eq_of_beq (show (_ == _) = true from h); rw [this]) | (cases h)
  | .int a, e, h => by cases e <;> first | (have := eq_of_beq (show (_ == _) = true from h); rw [this]) | (cases h)
  | .str a, e, h => by cases e <;> first | (have := eq_of_beq (show (_ == _) = true from h); rw [this]) | (cases h)
  | .lst a, e, h => by
    cases e with
    | lst b => rw [sames_eq a b h]
    | _ => cases h
  | .tup a, e, h => by
    cases e with
    | tup b => rw [sames_eq a b h]
    | _ => cases h
  | .dct a b, e, h => by
    cases e with
    | dct c d =>
      obtain ⟨h1, h2⟩ := Bool.and_eq_true_iff.mp (show (M.sames a c && M.sames b d) = true from h)
      rw [sames_eq a c h1, sames_eq b d h2]
    | _ => cases h
  | .dcx _ _, e, h => by cases e <;> cases h
  | .rep _, e, h => by cases e <;> cases h
  | .obj _, e, h => by cases e <;> cases h
  | .ty _, e, h => by cases e <;> cases h
  | .fn _, e, h => by cases e <;> cases h
  | .exc _ _, e, h => by cases e <;> cases h
  | .scr _, e, h => by cases e <;> cases h
theorem sames_eq : ∀ d e : List M.D, M.sames d e = true -> d = e
  | [], [], _ => rfl
  | [], _ :: _, h => by cases h
  | _ :: _, [], h => by cases h
  | a :: d, b :: e, h => by
    obtain ⟨h1, h2⟩ := Bool.and_eq_true_iff.mp (show (M.same a b && M.sames d e) = true from h)
    rw [qs' a b h1, sames_eq d e h2]
end
end
section
variable {K : PySem.W.Frag} {F H : Hp} {T : List Addr}
theorem FzA.keys : ∀ {kvs : List (Key × V)}, kv' kvs -> FzA K F T (kvs.map fun p => kV p.1) (kvs.map fun p => kD p.1)
  | [], _ => .nil
  | (k, v) :: r, h => by
    have hk := h (k, v) (List.mem_cons_self ..)
    refine .cons ?_ (FzA.keys fun p hp => h p (List.mem_cons_of_mem _ hp))
    cases k with
    | inl i => exact .int i
    | inr x =>
      have : Fz K F T (.str (sx x.cps.toList)) (.str x.cps.toList) := .str hk
      exact this
theorem gI' : ∀ kvs : List (Key × V), M.dats (kvs.map fun p => kD p.1) = true
  | [] => rfl
  | (k, v) :: r => by
    show (M.dat (kD k) && M.dats (r.map fun p => kD p.1)) = true
    rw [gI' r]
    cases k <;> rfl
theorem dL' : ∀ {ds : List M.D}, ds.all M.da' = true -> M.dats ds = true
  | [], _ => rfl
  | d :: r, h => by
    rw [List.all_cons, Bool.and_eq_true] at h
    show (M.dat d && M.dats r) = true
    rw [dL' h.2]
    cases d <;> first | rfl | cases h.1
theorem uK' : ∀ {ks ds : List PyData}, ks.length = ds.length -> PyData.leavesShortAll 62 ks = true -> PyData.leavesShortAll 62 ds = true -> PyData.showableAll ks = true -> PyData.showableAll ds = true →
    PyData.leavesShortKv 62 (ks.zip ds) = true /\ PyData.showableKv (ks.zip ds) = true /\ PyData.bulkKv (ks.zip ds) = PyData.bulkAll ks + PyData.bulkAll ds /\ PyData.depthKv (ks.zip ds) = max (PyData.depthAll ks) (PyData.depthAll ds)
  | [], [], _, _, _, _, _ => ⟨rfl, rfl, rfl, rfl⟩
  | [], _ :: _, e, _, _, _, _ => by cases e
  | _ :: _, [], e, _, _, _, _ => by cases e
  | k :: ks, d :: ds, e, a1, b1, a2, b2 => by
    obtain ⟨a1, a1'⟩ := Bool.and_eq_true_iff.mp (show (PyData.leavesShort 62 k && PyData.leavesShortAll 62 ks) = true from a1)
    obtain ⟨b1, b1'⟩ := Bool.and_eq_true_iff.mp (show (PyData.leavesShort 62 d && PyData.leavesShortAll 62 ds) = true from b1)
    obtain ⟨a2, a2'⟩ := Bool.and_eq_true_iff.mp (show (PyData.showable k && PyData.showableAll ks) = true from a2)
    obtain ⟨b2, b2'⟩ := Bool.and_eq_true_iff.mp (show (PyData.showable d && PyData.showableAll ds) = true from b2)
    obtain ⟨h1, h2, h3, h4⟩ := uK' (Nat.succ.inj e) a1' b1' a2' b2'
    refine ⟨?_, ?_, ?_, ?_⟩
    . show (PyData.leavesShort 62 k && PyData.leavesShort 62 d && PyData.leavesShortKv 62 (ks.zip ds)) = true
      rw [a1, b1, h1]; rfl
    . show (PyData.showable k && PyData.showable d && PyData.showableKv (ks.zip ds)) = true
      rw [a2, b2, h2]; rfl
    . show PyData.bulk k + PyData.bulk d + 2 + PyData.bulkKv (ks.zip ds) = (PyData.bulk k + 1 + PyData.bulkAll ks) + (PyData.bulk d + 1 + PyData.bulkAll ds)
      rw [h3]; omega
    . show max (max (PyData.depth k) (PyData.depth d)) (PyData.depthKv (ks.zip ds)) = max (max (PyData.depth k) (PyData.depthAll ks)) (max (PyData.depth d) (PyData.depthAll ds))
      rw [h4]; omega
theorem kX' : ∀ ds : List M.D, (pys ds).length = ds.length
  | [] => rfl
  | _ :: r => congrArg (· + 1) (kX' r)
theorem FzA.len : ∀ {vs : List V} {ds : List M.D}, FzA K F T vs ds -> vs.length = ds.length
  | _, _, .nil => rfl
  | _, _, .cons _ r => congrArg (· + 1) (FzA.len r)
theorem j3' : ∀ kvs : List (Key × V), M.deps (kvs.map fun p => kD p.1) = 0
  | [] => rfl
  | (k, v) :: r => by
    show max (M.dep (kD k)) (M.deps (r.map fun p => kD p.1)) = 0
    rw [j3' r]
    cases k <;> rfl
theorem hM' : ∀ {ds : List M.D}, ds.all M.da' = true -> M.deps ds = 0
  | [], _ => rfl
  | d :: r, h => by
    rw [List.all_cons, Bool.and_eq_true] at h
    show max (M.dep d) (M.deps r) = 0
    rw [hM' h.2]
    cases d <;> first | rfl | cases h.1
def kP : Key -> PyData := fun k => py (kD k)
inductive Dq0 (K : PySem.W.Frag) (H : Hp) : V -> PyData -> Prop
  | dp {v : V} {d : PyData} : Dp K H v d -> d.hasDict = false -> Dq0 K H v d
  | dct {a : Addr} {kvs : List (Key × V)} {ds : List M.D} : Rd H a (.dK kvs) -> kv' kvs -> DpAll K H (kvs.map (·.2)) (pys ds) -> ds.all M.da' = true -> Dq0 K H (.ref a) (.dict ((pys (kvs.map fun p => kD p.1)).zip (pys ds)))
inductive LqAll (K : PySem.W.Frag) (H : Hp) : List V -> List M.D -> Prop
  | nil : LqAll K H [] []
  | leaf {v : V} {d : M.D} {vs : List V} {ds : List M.D} : Dp K H v (py d) -> M.da' d = true -> LqAll K H vs ds -> LqAll K H (v :: vs) (d :: ds)
  | emp {a : Addr} {vs : List V} {ds : List M.D} : Rd H a (.dK []) -> LqAll K H vs ds -> LqAll K H (.ref a :: vs) (.dct [] [] :: ds)
inductive Dq (K : PySem.W.Frag) (H : Hp) : V -> PyData -> Prop
  | old {v : V} {d : PyData} : Dq0 K H v d -> Dq K H v d
  | tupE {a : Addr} {vs : List V} {ds : List M.D} : SqT K H a vs -> LqAll K H vs ds -> Dq K H (.ref a) (.tuple (pys ds))
theorem jO' {d : M.D} (h : M.da' d = true) : M.dat d = true := by cases d <;> first | rfl | cases h
theorem rl' {d : M.D} (h : M.da' d = true) : (py d).depth = 0 := by cases d <;> first | rfl | cases h
theorem yT' (s : Same F H) : ∀ {vs : List V} {ds : List M.D}, FzA K F T vs ds -> (ds.all fun d => M.da' d || M.xv' d) = true -> M.repIs ds = true →
    LqAll K H vs ds /\ PyData.leavesShortAll 62 (pys ds) = true /\ PyData.showableAll (pys ds) = true /\ PyData.depthAll (pys ds) <= 1 /\ PyData.bulkAll (pys ds) = M.repWs ds
  | _, _, .nil, _, _ => ⟨.nil, rfl, rfl, Nat.zero_le 1, rfl⟩
  | _, _, .cons (v := v) (d := d) (ds := ds) h r, e, g => by
    rw [List.all_cons, Bool.and_eq_true] at e
    obtain ⟨g1, g2⟩ := Bool.and_eq_true_iff.mp (show (M.oW' _ && M.repIs _) = true from g)
    obtain ⟨b0, b1, b2, b3, b4⟩ := yT' s r e.2 g2
    cases hl : M.da' d with
    | true =>
      obtain ⟨a1, a2, a3, a4⟩ := gb' h (jO' hl) g1
      refine ⟨.leaf (h.py s (jO' hl)) hl b0, ?_, ?_, ?_, ?_⟩
      . show (PyData.leavesShort 62 _ && PyData.leavesShortAll 62 _) = true
        rw [a1, b1]; rfl
      . show (PyData.showable _ && PyData.showableAll _) = true
        rw [a2, b2]; rfl
      . show max (PyData.depth _) (PyData.depthAll _) <= 1
        rw [rl' hl]; omega
      . show PyData.bulk _ + 1 + PyData.bulkAll _ = M.nc' _ + 1 + M.repWs _
        rw [a4, b4]
    | false =>
      have e1 := e.1
      rw [hl, Bool.false_or] at e1
      cases h with
      | @dct a kvs es hr k r' =>
        have h1 : kvs = [] /\ es = [] := by
          cases kvs with
          | nil => cases es with
            | nil => exact ⟨rfl, rfl⟩
            | cons _ _ => cases e1
          | cons _ _ => cases e1
        obtain ⟨rfl, rfl⟩ := h1
        refine ⟨.emp (e0' s hr) b0, ?_, ?_, ?_, ?_⟩
        . show (PyData.leavesShort 62 (.dict []) && PyData.leavesShortAll 62 _) = true
          rw [b1]; rfl
        . show (PyData.showable (.dict []) && PyData.showableAll _) = true
          rw [b2]; rfl
        . show max (PyData.depth (.dict [])) (PyData.depthAll _) <= 1
          rw [show PyData.depth (.dict []) = 1 from rfl]; omega
        . show PyData.bulk (.dict []) + 1 + PyData.bulkAll _ = M.nc' (.dct [] []) + 1 + M.repWs _
          rw [b4]; rfl
      | _ => cases e1
theorem yj' {v : V} {d : M.D} (s : Same F H) (h : Fz K F T v d) (c1 : M.yl' d = true) (c2 : M.dep d <= 40) (c3 : M.oW' d = true) :
    Dq K H v (py d) /\ (py d).leavesShort 62 = true /\ (py d).showable = true /\ (py d).depth <= 40 /\ (py d).bulk = M.nc' d := by
  have old (e : M.dat d = true) : Dq K H v (py d) /\ (py d).leavesShort 62 = true /\ (py d).showable = true /\ (py d).depth <= 40 /\ (py d).bulk = M.nc' d := by
    obtain ⟨a1, a2, a3, a4⟩ := gb' h e c3
    exact ⟨.old (.dp (h.py s e) a3), a1, a2, by rw [(ny' h e).2]; exact c2, a4⟩
  cases h with
  | @dct a kvs ds h k r =>
    have c1 : ds.all M.da' = true := c1
    obtain ⟨c3, c3'⟩ := Bool.and_eq_true_iff.mp (show (M.repIs (kvs.map fun p => kD p.1) && M.repIs ds) = true from c3)
    obtain ⟨a1, a2, a3, a4⟩ := reps_facts (FzA.keys (K := K) (F := F) (T := T) k) (gI' kvs) c3
    obtain ⟨b1, b2, b3, b4⟩ := reps_facts r (dL' c1) c3'
    have hl : (pys (kvs.map fun p => kD p.1)).length = (pys ds).length := by
      rw [kX', kX', List.length_map, <- r.len, List.length_map]
    obtain ⟨z1, z2, z3, z4⟩ := uK' hl a1 b1 a2 b2
    refine ⟨.old (.dct (e0' s h) k (r.py s (dL' c1)) c1), z1, z2, ?_, ?_⟩
    . show PyData.depthKv _ + 1 <= 40
      rw [z4, (lays_of (FzA.keys (K := K) (F := F) (T := T) k) (gI' kvs)).2, j3', (lays_of r (dL' c1)).2, hM' c1]
      decide
    . show PyData.bulkKv _ = M.repWs _ + M.repWs _
      rw [z3, a4, b4]
  | @tup a vs ds h r =>
    cases hd : M.dats ds with
    | true => exact old hd
    | false =>
      have c1 : (M.dats ds || ds.all fun d => M.da' d || M.xv' d) = true := c1
      rw [hd, Bool.false_or] at c1
      obtain ⟨b0, b1, b2, b3, b4⟩ := yT' s r c1 c3
      refine ⟨.tupE (SqT.low s h) b0, b1, b2, ?_, b4⟩
      show PyData.depthAll _ + 1 <= 40
      omega
  | _ => exact old c1
end
section
variable {X : Cx} {pins : List (Addr × Obj)} {σ : St} {H : Hp} {s : Shared}
theorem d1' (I : Inv X pins σ H s) {d : M.D} {v : V} {u : Value} (l : M.da' d = true) (h : Dp X.K H v (py d)) (r : RelV v u) : Reads s.heap u (py d) [] := by
  cases d with
  | non => cases h; cases r; exact .none
  | bl b => cases h; cases r; exact .bool b
  | int i => cases h; obtain ⟨t, rfl⟩ := r; exact .int i t
  | str x => cases h; obtain ⟨t, rfl⟩ := r; exact .str _ t
  | _ => cases l
theorem hy' (I : Inv X pins σ H s) : ∀ {kvs : List (Key × V)} {vs : List (Key × Value)} {ds : List M.D}, KV kvs vs -> DpAll X.K H (kvs.map (·.2)) (pys ds) -> ds.all M.da' = true →
    PyProof.V.PairsRead s.heap kP vs ((pys (kvs.map fun p => kD p.1)).zip (pys ds)) []
  | _, _, [], .nil, _, _ => .nil
  | _, _, _ :: _, .nil, h, _ => by cases h
  | _, _, [], .cons _ _, h, _ => by cases h
  | (k, v) :: kvs, (k', u) :: vs, d :: ds, .cons hr hp, h, l => by
    obtain ⟨he, hr⟩ := hr
    have he : k = k' := he
    subst he
    rw [List.all_cons, Bool.and_eq_true] at l
    cases h with
    | cons h1 h2 =>
      have := PyProof.V.PairsRead.cons (enc := kP) (k := k) (d1' I l.1 h1 hr) (hy' I hp h2 l.2)
      exact this
theorem Dq0.reads (I : Inv X pins σ H s) {d : PyData} {v : V} {u : Value} (h : Dq0 X.K H v d) (r : RelV v u) : ∃ as, Reads s.heap u d as /\ (d.hasDict = true -> sysModules ∉ as) := by
  cases h with
  | dp dp e =>
    obtain ⟨as, rd⟩ := Dp.reads I d v u dp r
    exact ⟨as, rd, PyData.noDict_hsm e⟩
  | @dct a kvs ds e k dd l =>
    cases r
    obtain ⟨_, hs, vs, rk, hd⟩ := dk_rd I.hok e
    refine ⟨[a], PyProof.V.reads_dictOf (enc := kP) (fun k key hk => ?_) hd (hy' I rk dd l), fun _ hm => ?_⟩
    . rcases keyIs_shape hk with ⟨i, t, rfl, rfl⟩ | ⟨x, t, rfl, rfl⟩
      . exact .int i t
      . exact .str _ t
    . have := List.mem_singleton.mp hm
      rw [<- this] at hs
      simp at hs
theorem td' (I : Inv X pins σ H s) : ∀ {vs : List V} {us : List Value} {ds : List M.D}, LqAll X.K H vs ds -> Vals vs us -> ∃ as, ReadsAll s.heap us (pys ds) as /\ sysModules ∉ as := by
  intro vs us ds h
  induction h generalizing us with
  | nil =>
    intro r
    cases r
    exact ⟨[], .nil, by simp⟩
  | leaf h1 h2 _ ih =>
    intro r
    cases r with
    | cons r1 r2 =>
      obtain ⟨bs, q2, q3⟩ := ih r2
      exact ⟨_, .cons (d1' I h2 h1 r1) q2, by simpa using q3⟩
  | emp h1 _ ih =>
    intro r
    cases r with
    | cons r1 r2 =>
      obtain ⟨bs, q2, q3⟩ := ih r2
      obtain ⟨as, q1, q4⟩ := Dq0.reads I (Dq0.dct (ds := []) h1 (fun p hp => by cases hp) .nil rfl) r1
      exact ⟨_, .cons q1 q2, by
        rw [List.mem_append]
        rintro (h | h)
        . exact q4 rfl h
        . exact q3 h⟩
theorem Dq.reads (I : Inv X pins σ H s) {d : PyData} {v : V} {u : Value} (h : Dq X.K H v d) (r : RelV v u) : ∃ as, Reads s.heap u d as /\ (d.hasDict = true -> sysModules ∉ as) := by
  cases h with
  | old h => exact h.reads I r
  | tupE hs la =>
    cases r
    obtain ⟨its, rv, ⟨o, ho, hc, n, hd⟩, _⟩ := I.tuple hs
    obtain ⟨as, hr, hm⟩ := td' I la rv
    exact ⟨_, Reads.tuple ho hc hd hr, fun _ => hm⟩
end
def rRep (K : PySem.W.Frag) : List V -> Hp -> VK -> Prop := fun xs H Q => ∃ v d, xs = [v] /\ Dq K H v d /\ d.showable = true /\ d.depth <= 40 /\ d.shown.length <= sizeLine /\ Q (.str d.shown) H
section
variable {X : Cx}
theorem nX' (hu : X.A.units + 64 < cLine) (hg : X.A.guards = some []) : CallR X (.builtin "repr") (rRep X.K) := by
  intro pins s σ H vs us Q I r h
  obtain ⟨v, d, rfl, dp, h1, h3, h4, q⟩ := h
  cases r with
  | @cons _ u _ _ ru rn =>
    cases rn
    obtain ⟨as, rd, hm⟩ := dp.reads I ru
    cases rd with
    | none => exact P.repr_of_none ⟨.str _, H, I.tok _, ⟨_, rfl⟩, q⟩
    | bool b => exact P.repr_of_bool ⟨.str _, H, I.tok _, ⟨_, rfl⟩, q⟩
    | int i t => exact P.repr_of_int (of_decide_eq_true h1) ⟨.str _, H, I.tok _, ⟨_, rfl⟩, q⟩
    | str x t => exact P.repr_of_str (hsz := h4) ⟨.str _, H, I.tok _, ⟨_, rfl⟩, q⟩
    | list a b c e => exact repr_of_reads' (.list a b c e) h1 hm hg (by omega) (fun _ _ z => z) (fun h' u tk hk => ⟨.str _, H, I.kept hk, ⟨_, rfl⟩, q⟩) h4
    | tuple a b c e => exact repr_of_reads' (.tuple a b c e) h1 hm hg (by omega) (fun _ _ z => z) (fun h' u tk hk => ⟨.str _, H, I.kept hk, ⟨_, rfl⟩, q⟩) h4
    | dict a b c e f => exact repr_of_reads' (.dict a b c e f) h1 hm hg (by omega) (fun _ _ z => z) (fun h' u tk hk => ⟨.str _, H, I.kept hk, ⟨_, rfl⟩, q⟩) h4
end
section
variable {K : PySem.W.Frag}
theorem Ac' : Bi1 K M.uD' (rRep K) := by
  intro F H T fp x dx dz Q f hx h k
  unfold M.uD' at h
  split at h
  . rename_i hc
    obtain ⟨c1, c2, c3, c4⟩ := hc
    cases h
    obtain ⟨a0, a1, a2, a3, a4⟩ := yj' f.low hx c1 c2 c3
    refine ⟨x, py dx, rfl, a0, a2, a3, ?_, k.here f (.rep dx)⟩
    have := PyData.shown_le_bulk 62 (by decide) (py dx) a1
    rw [a4] at this
    rw [bu']
    show _ <= 16777216
    omega
  . cases h
theorem qy' {F : Hp} {T : List Addr} {v : V} {d : M.D} (h : Fz K F T v (.rep d)) : v = .str (py d).shown := by cases h; rfl
theorem BA' : Op2 K M.xq' (Bk' K) := by
  intro F H T fp x y dx dy dz Q f hx hy h k
  cases dx <;> try (cases h; done)
  cases dy <;> try (cases h; done)
  simp only [M.xq'] at h
  split at h
  . rename_i hs
    cases h
    have e := qs' _ _ hs
    subst e
    obtain rfl := qy' hx
    obtain rfl := qy' hy
    exact .inl ⟨rfl, by rw [decide_eq_true rfl]; exact k.here f (.bl false)⟩
  . cases h
end
end S
namespace S
open PySem PySem.Spec PyProof.Rows L2
variable [Wd] [Hot]
local macro_rules | `(tactic| walk_at "parts") => `(tactic| (constructor; (intro e h; simp only [List.mem_append, List.mem_cons, List.not_mem_nil] at *; grind); (intro x; simp only [keys, List.map_append, List.map_cons, List.map_nil, List.count_append, List.count_cons, List.count_nil] at *; omega)))
section
variable {K : PySem.W.Frag} {σ : St} {H : Hp} {Q : VK} {W : WX}
end
section
variable {X : Cx} {W : WX} {pos p : Pos} {a b e : Expr} {ma mb : M.ME} {mo : M.MO} {k : Nat} {args : List Str} {mf : M.MF}
theorem Bn' {σ : St} {H : Hp} {Q : Bool -> Hp -> Prop} {m : M.ME} (h : qT X.K W (M.tE m) σ H Q) : qE X.K W m σ H fun x H' => ∃ k, x = .bl k /\ Q k H' := by
  obtain ⟨ρ, F, T, fr, rel, h⟩ := h
  refine ⟨ρ, F, T, fr, rel, (aG'.bind h).mono (fun d ρ1 h1 v H1 F1 T1 e z r => ?_) fun _ _ z => z⟩
  obtain ⟨k, rfl, h2⟩ := aG'.asB h1
  exact ⟨k, z.bl_inv, h2 _ _ _ e r⟩
theorem ib' {i : Nat} (hw : X.prog = Wd.P /\ X.w = Wd.w) (hu : X.A.units + 64 < cLine) (ha : SE X W a ma) (hv : PE X b (tVar i)) (hm : behindInMarks .NotIn b = false := by rfl) : ST X W (.Compare a [.NotIn] [b] pos) (M.tE (M.tu' true i ma)) :=
  PT.imp (pt_cmpR (wd' hw hu) ha hv hm) fun _ _ _ h => tL' (Bn' h)
end
end S
namespace S
open PySem PySem.Spec PyProof.Rows L2
variable [Wd] {cc : List (Nat × CloD)}
abbrev BF' (a : Addr) (n : Nat) (dd : Option Addr) (x : M.Exc) (cs : List (Nat × CloD) := []) : Hot := ⟨some (a, n, dd, x), cs⟩
section
variable {K : PySem.W.Frag} {F H : Hp} {T : List Addr} {fp fr : Fp} {σ : St} {env : List (Option M.O)} {a : Addr} {n i : Nat} {dd : Option Addr} {x : M.Exc}
theorem RpE.cool (r : @RpE _ K (BF' a n dd x cc) F T σ env fp) (hl : env.length <= n) : @RpE _ K (rW' cc) F T σ env fp := by
  induction r with
  | nil => exact @RpE.nil _ K (rW' cc) F T
  | off _ ih => exact @RpE.off _ K (rW' cc) F T _ _ _ _ (ih (by simp at hl; omega))
  | on q _ ih => exact @RpE.on _ K (rW' cc) F T _ _ _ _ _ _ q (ih (by simp at hl; omega))
  | hot z _ _ _ =>
    have := (Prod.mk.inj (Prod.mk.inj (Option.some.inj z)).2).1
    simp at hl
    omega
  | clo z y _ ih => exact @RpE.clo _ K (rW' cc) F T _ _ _ _ z y (ih (by simp at hl; omega))
end
section
variable {X : Cx} {W : WX} {K : PySem.W.Frag} {D : Ends} {σ : St} {H : Hp} {F : Hp} {T : List Addr} {fr : Fp}
def tsA (cc : List (Nat × CloD)) (K : PySem.W.Frag) (n : Nat) (h : M.Exc -> M.MS) : Addr -> Value -> Option Addr -> TS := fun a cls d D σ H => ∃ e : M.Exc, cls = .ref (He.ga K e.cls) /\ @qS _ (BF' a n d e cc) K W0 (h e) D σ H
end
section
variable {X : Cx} {W : WX} {pos p : Pos} {a b : Expr}
end
end S
namespace S
open PySem PySem.Spec PyProof.Rows L2
section
variable {prog : Program} {w : World} {A : Around} {E : Value -> Shared -> Prop} {s : Shared} {K : PySem.W.Frag} {x C L f : Addr} {h₀ : Heap} {m : Str -> Option Value} {ox : Obj} {od : Option Obj} {b tb : Value}
open PySem.W in
end
end S
namespace S
open PySem PySem.Spec PyProof.Rows L2
variable [Wd] [Hot]
section
variable {K : PySem.W.Frag} {σ : St} {H : Hp} {Q : VK} {W : WX}
end
section
variable {X : Cx} {W : WX} {pos : Pos} {a b : Expr} {ma mb : M.ME} {k : Nat} {args : List Str} {mf : M.MF}
end
end S
namespace S
open PySem PySem.Spec PyProof.Rows L2
variable [Wd] [Hot]
section
variable {X : Cx} {W : WX} {a : Expr} {ma : M.ME} {pos p1 p2 p3 : Pos} {k : Nat}
end
end S
namespace S
open PySem PySem.Spec PyProof.Rows L2 TL
variable [Wd] [Hot]
section
variable {K : PySem.W.Frag}
end
end S
namespace S
open PySem PySem.Spec PyProof.Rows L2
variable [Wd] [Hot]
section
variable {X : Cx} {W : WX} {K : PySem.W.Frag} {a b : Expr} {ma : M.ME} {pos : Pos}
end
end S
namespace S
open PySem PySem.Spec PyProof.Rows L2
variable [Wd] [Hot]
theorem d9' {env : List (Option M.O)} : ∀ {is : List Nat} {j : Nat}, j ∉ is -> (M.al' is env)[j]? = env[j]?
  | [], _, _ => rfl
  | i :: is, j, h => by
    have h' : j ≠ i /\ j ∉ is := by simpa using h
    show ((M.al' is env).set i none)[j]? = _
    rw [List.getElem?_set_ne (Ne.symm h'.1), d9' h'.2]
theorem cL' {env : List (Option M.O)} : ∀ is : List Nat, (M.al' is env).length = env.length
  | [] => rfl
  | i :: is => by
    show ((M.al' is env).set i none).length = _
    rw [List.length_set, cL' is]
theorem hZ' {env : List (Option M.O)} : ∀ {is : List Nat} {j : Nat}, j ∈ is -> j < env.length -> (M.al' is env)[j]? = some none
  | i :: is, j, h, hl => by
    show ((M.al' is env).set i none)[j]? = _
    by_cases e : i = j
    . subst e
      rw [List.getElem?_set_self (by rw [cL']; exact hl)]
    . rw [List.getElem?_set_ne e]
      refine hZ' ?_ hl
      rcases List.mem_cons.mp h with h | h
      . exact absurd h.symm e
      . exact h
theorem o2' {env : List (Option M.O)} {is js : List Nat} (h : ∀ j ∈ js, j ∈ is) : M.al' is (M.al' js env) = M.al' is env := by
  refine List.ext_getElem? fun j => ?_
  by_cases hj : j ∈ is
  . by_cases hl : j < env.length
    . rw [hZ' hj (by rw [cL']; exact hl), hZ' hj hl]
    . rw [List.getElem?_eq_none (by rw [cL', cL']; omega), List.getElem?_eq_none (by rw [cL']; omega)]
  . rw [d9' hj, d9' fun q => hj (h j q), d9' hj]
theorem lW' {σ : St} {is js : List Nat} (h : ∀ j ∈ js, j ∈ is) : wipe (wipe σ js) is = wipe σ is := by
  refine List.ext_getElem? fun j => ?_
  by_cases hj : j ∈ is
  . by_cases hl : j < σ.length
    . rw [fM' hj (by rw [wipe_length]; exact hl), fM' hj hl]
    . rw [List.getElem?_eq_none (by rw [wipe_length, wipe_length]; omega), List.getElem?_eq_none (by rw [wipe_length]; omega)]
  . rw [cy' hj, cy' fun q => hj (h j q), cy' hj]
section
variable {K : PySem.W.Frag} {W : WX} {σ : St} {H : Hp}
def n7' (K : PySem.W.Frag) (sl : List Nat) (step : List M.D -> List M.D -> M.PSt -> M.Res (List M.D)) (ds : List M.D) (σ : St) (D : Addr) (fr : Fp) (F1 : Hp) (T1 : List Addr) (P : List M.D -> M.PSt -> Prop) (Y : Wx) (i : Nat) (H : Hp) : Prop :=
  i <= ds.length /\ ∃ ρ' F' T' acc vacc, Ext F1 T1 F' T' /\ FzA K F' T' vacc acc /\ Rel K ⟨M.al' sl ρ'.env, ρ'.w⟩ (wipe σ sl) H F' T' ((D, .lst vacc) :: fr) /\ aG' (step (ds.drop i) acc ρ') P Y
theorem th' {sl sl0 sl1 : List Nat} {it it1 : M.MI} {g g1 : M.MG} {t t1 : M.MT} {e : M.ME} {Q : VK} (hsub0 : ∀ j ∈ sl0, j ∈ sl) (hsub : ∀ j ∈ sl1, j ∈ sl) (h : qO K W (M.xs' sl it g t it1 sl1 g1 t1 e) σ H Q) : tLc2 (qI K W it) (qG K sl0 g) (qT K W0 t) (qI K W0 it1) (qG K sl1 g1) (qT K W0 t1) (qE K W0 e) sl sl1 σ H Q := by
  obtain ⟨ρ, F, T, fr, rel, h⟩ := h
  refine ⟨ρ, F, T, fr, rel, (aG'.bind h).mono (fun ds ρ1 h1 J H1 F1 T1 e1 io r1 => ?_) fun _ _ z => z⟩
  intro D hD
  have h2 := aG'.bind h1
  generalize hP : (fun (ys : List M.D) (ρ2 : M.PSt) => aG' (M.Res.ok (M.O.lst (ys.map M.O.fz)) (⟨M.back ρ1.env sl (M.al' sl ρ2.env), ρ2.w⟩ : M.PSt)) (fun o ρ' => ∀ (v : V) (H' F' : Hp) (T' : List Addr) (fp : Fp), Ext F T F' T' -> Rp K F' T' v o fp -> Rel K ρ' σ H' F' T' (fp ++ fr) -> Q v H') (EX K W σ F T fr)) = P0 at h2
  generalize EX K W σ F T fr = Y0 at h2
  refine ⟨fun i m H => m = ds.length - i /\ n7' K sl (M.iv' sl g t it1 sl1 g1 t1 e) ds σ D fr F1 T1 P0 Y0 i H, ⟨ds.length, by simp, Nat.zero_le _, ρ1, F1, T1, [], [], .refl, .nil, (r1.wiped sl).own hD, h2⟩, ?_⟩
  rintro i m H2 ⟨rfl, hi, ρ2, F2, T2, acc, vacc, e2, za, r2, h3⟩
  obtain ⟨fp2, f2, _⟩ := r2.fp
  by_cases hl : i = ds.length
  . refine .inl ⟨(io F2 T2 H2 fp2 i e2 f2 hi).1 hl, ?_⟩
    rw [hl, List.drop_length] at h3
    have h4 : aG' (M.iv' sl g t it1 sl1 g1 t1 e [] acc ρ2) P0 Y0 := h3
    unfold M.iv' at h4
    rw [<- hP] at h4
    refine h4 (.ref D) H2 F2 T2 ((D, .lst vacc) :: []) (e1.trans e2) ?_ ?_
    . exact .lst (RpA.of_fz za)
    . obtain ⟨fe, fw, re, rw, f⟩ := r2
      have re1 : RpE K F2 T2 σ (M.al' sl ρ2.env) fe := by
        refine re.other ?_ fun j o hj => (cy' (dD' hj)).symm
        rw [wipe_length]
      obtain ⟨fe0, fw0, re0, rw0, f0⟩ := r1
      obtain ⟨fq, h6, h7⟩ := RpE.backed (env0 := ρ1.env) (fun i d hd => by
        obtain ⟨v, hv, z⟩ := re0.data hd
        exact ⟨v, hv, z.mono e2⟩) sl re1
      exact ⟨fq, fw, h6, rw, f.part (.app h7 .refl)⟩
  . have hlt : i < ds.length := by omega
    have hd : ds[i]? = some ds[i] := List.getElem?_eq_getElem hlt
    obtain ⟨go, yl⟩ := (io F2 T2 H2 fp2 i e2 f2 hi).2 _ hd
    refine .inr ⟨go, n7' K sl (M.iv' sl g t it1 sl1 g1 t1 e) ds σ D fr F1 T1 P0 Y0 (i + 1), fun H' n => ⟨ds.length - (i + 1), by omega, rfl, n⟩, fun x H3 y => ?_⟩
    obtain ⟨fe, fw, re, rw, f⟩ := id r2
    obtain ⟨yg, yh⟩ := (io F2 T2 H2 _ i e2 f hi).2 _ hd
    obtain ⟨F3, s3, zx, f3⟩ := yh x H3 y
    have r3 : Rel K ⟨M.al' sl ρ2.env, ρ2.w⟩ (wipe σ sl) H3 F3 T2 ((D, .lst vacc) :: fr) := ⟨fe, fw, re.mono (.of s3), rw.mono (.of s3), f3⟩
    rw [List.drop_eq_getElem_cons hlt] at h3
    unfold M.iv' at h3
    cases eg : g ds[i] ⟨M.al' sl ρ2.env, ρ2.w⟩ with
    | none => rw [eg] at h3; exact h3.elim
    | some ρ3 =>
      rw [eg] at h3
      refine ⟨_, F3, T2, _, ds[i], ρ3, r3, zx, eg, fun σ4 w4 r4 => ?_⟩
      have w4 : wipe σ4 sl = wipe σ sl := by
        have := congrArg (fun s => wipe s sl) w4
        simp only [lW' hsub0, d8'] at this
        exact this
      refine ⟨w4, ?_⟩
      have h4 := aG'.bind h3
      refine ⟨ρ3, F3, T2, _, r4, (aG'.noX h4).mono (fun b ρ5 h5 H5 F5 T5 e5 r5 => ?_) fun _ _ z => z⟩
      cases b with
      | false =>
        rw [if_neg Bool.false_ne_true]
        refine ⟨hlt, ρ5, F5, T5, acc, vacc, e2.trans ((Ext.of s3).trans e5), (za.mono (.of s3)).mono e5, ?_, h5⟩
        rw [<- w4]
        exact r5.wiped sl
      | true =>
        rw [if_pos rfl] at h5 ⊢
        have h6 := aG'.bind h5
        have e25 : Ext F1 T1 F5 T5 := e2.trans ((Ext.of s3).trans e5)
        have za5 : FzA K F5 T5 vacc acc := (za.mono (.of s3)).mono e5
        refine ⟨ρ5, F5, T5, _, r5, (aG'.noX h6).mono (fun ys ρ6 h7 J1 H6 F6 T6 e6 io1 r6 => ?_) fun _ _ z => z⟩
        -- the inner loop's word
        refine ⟨fun j k H => k = ys.length - j /\ n7' K sl1 (fun l acc ρ => (M.noX (M.lcL sl1 g1 t1 e l acc ρ)).bind fun acc2 ρ4 => M.iv' sl g t it1 sl1 g1 t1 e (ds.drop (i + 1)) acc2 ρ4) ys σ4 D fr F6 T6 P0 Y0 j H, ⟨ys.length, by simp, Nat.zero_le _, ρ6, F6, T6, acc, vacc, .refl, za5.mono e6, r6.wiped sl1, h7⟩, ?_⟩
        rintro j k H7 ⟨rfl, hj, ρ7, F7, T7, acc7, vacc7, e7, za7, r7, h8⟩
        obtain ⟨fp7, f7, _⟩ := r7.fp
        by_cases hjl : j = ys.length
        . refine .inl ⟨(io1 F7 T7 H7 fp7 j e7 f7 hj).1 hjl, ?_⟩
          rw [hjl, List.drop_length] at h8
          have h9 : aG' ((M.noX (M.lcL sl1 g1 t1 e [] acc7 ρ7)).bind _) _ _ := h8
          unfold M.lcL at h9
          refine ⟨hlt, ρ7, F7, T7, acc7, vacc7, e25.trans (e6.trans e7), za7, ?_, h9⟩
          have := r7.wiped sl
          rw [o2' hsub, lW' hsub, w4] at this
          exact this
        . have hjt : j < ys.length := by omega
          have hd1 : ys[j]? = some ys[j] := List.getElem?_eq_getElem hjt
          obtain ⟨go1, yl1⟩ := (io1 F7 T7 H7 fp7 j e7 f7 hj).2 _ hd1
          refine .inr ⟨go1, n7' K sl1 (fun l acc ρ => (M.noX (M.lcL sl1 g1 t1 e l acc ρ)).bind fun acc2 ρ4 => M.iv' sl g t it1 sl1 g1 t1 e (ds.drop (i + 1)) acc2 ρ4) ys σ4 D fr F6 T6 P0 Y0 (j + 1), fun H' n => ⟨ys.length - (j + 1), by omega, rfl, n⟩, fun x1 H8 y1 => ?_⟩
          obtain ⟨fe, fw, re, rw, f⟩ := id r7
          obtain ⟨yg, yh⟩ := (io1 F7 T7 H7 _ j e7 f hj).2 _ hd1
          obtain ⟨F8, s8, zx, f8⟩ := yh x1 H8 y1
          have r8 : Rel K ⟨M.al' sl1 ρ7.env, ρ7.w⟩ (wipe σ4 sl1) H8 F8 T7 ((D, .lst vacc7) :: fr) := ⟨fe, fw, re.mono (.of s8), rw.mono (.of s8), f8⟩
          rw [List.drop_eq_getElem_cons hjt] at h8
          have h8 : aG' ((M.noX (M.lcL sl1 g1 t1 e (ys[j] :: ys.drop (j + 1)) acc7 ρ7)).bind _) _ _ := h8
          unfold M.lcL at h8
          cases eg1 : g1 ys[j] ⟨M.al' sl1 ρ7.env, ρ7.w⟩ with
          | none => rw [eg1] at h8; exact h8.elim
          | some ρ8 =>
            rw [eg1] at h8
            dsimp only at h8
            refine ⟨_, F8, T7, _, ys[j], ρ8, r8, zx, eg1, fun σ9 w9 r9 => ?_⟩
            rw [d8'] at w9
            refine ⟨w9, ?_⟩
            have h9 : aG' (t1 ρ8) (fun b ρ9 => aG' ((M.noX (if b = true then (M.noX (e ρ9)).bind fun y ρ3 => if acc7.length < M.cR' then M.lcL sl1 g1 t1 e (ys.drop (j + 1)) (acc7 ++ [y]) ρ3 else .bad else M.lcL sl1 g1 t1 e (ys.drop (j + 1)) acc7 ρ9)).bind fun acc2 ρ4 => M.iv' sl g t it1 sl1 g1 t1 e (ds.drop (i + 1)) acc2 ρ4) P0 Y0) (fun _ _ => False) := by
              cases ht : t1 ρ8 with
              | bad => rw [ht] at h8; exact h8
              | exc x q => rw [ht] at h8; exact h8.elim
              | ok b ρ9 => rw [ht] at h8; exact h8
            refine ⟨ρ8, F8, T7, _, r9, h9.mono (fun b ρ9 h10 H9 F9 T9 e9 r10 => ?_) ?_⟩
            . cases b with
              | false =>
                rw [if_neg Bool.false_ne_true] at h10 ⊢
                refine ⟨hjt, ρ9, F9, T9, acc7, vacc7, e7.trans ((Ext.of s8).trans e9), (za7.mono (.of s8)).mono e9, ?_, h10⟩
                rw [<- w9]
                exact r10.wiped sl1
              | true =>
                rw [if_pos rfl] at h10 ⊢
                have h11 : aG' (e ρ9) (fun y ρ3 => aG' ((M.noX (if acc7.length < M.cR' then M.lcL sl1 g1 t1 e (ys.drop (j + 1)) (acc7 ++ [y]) ρ3 else .bad)).bind fun acc2 ρ4 => M.iv' sl g t it1 sl1 g1 t1 e (ds.drop (i + 1)) acc2 ρ4) P0 Y0) (fun _ _ => False) := by
                  cases ht : e ρ9 with
                  | bad => rw [ht] at h10; exact h10
                  | exc x q => rw [ht] at h10; exact h10.elim
                  | ok b ρ9 => rw [ht] at h10; exact h10
                refine ⟨ρ9, F9, T9, _, r10, h11.mono (fun d ρ10 h12 y6 H10 F10 T10 e10 z10 r11 => ?_) ?_⟩
                . split at h12
                  . rename_i hacc
                    have hH : H10 D = some (.lst vacc7) := r11.at_ (e := (D, .lst vacc7)) List.mem_cons_self
                    refine ⟨vacc7, hH, by rw [bu', za7.length]; exact hacc, hjt, ρ10, F10, T10, acc7 ++ [d], vacc7 ++ [y6], e7.trans ((Ext.of s8).trans (e9.trans e10)), (((za7.mono (.of s8)).mono e9).mono e10).append (.cons z10 .nil), ?_, h12⟩
                    rw [<- w9]
                    exact (r11.wiped sl1).write
                  . exact h12.elim
                . exact fun _ _ z => z.elim
            . exact fun _ _ z => z.elim
end
section
variable {X : Cx} {W : WX} {pos : Pos} {elt tg iter tg1 iter1 : Expr} {ifs ifs1 : List Expr} {scope : Scope} {own : List (Str × Nat)} {sl sl0 sl1 : List Nat} {it it1 : M.MI} {g g1 : M.MG} {t t1 : M.MT} {e : M.ME}
theorem x8' (hc : X.calm = true) (hN : X.N.Nodup) (hi : SI X W tg iter it) (ok : BlkOk X.N X.env.scope scope own) (hsl : sl = own.map (·.2)) (hsub0 : ∀ j ∈ sl0, j ∈ own.map (·.2)) (hsub : ∀ j ∈ sl1, j ∈ own.map (·.2))
    (hg : ∀ (s : Shared) (H : Hp) (C : Addr) (cl : List (Str × Addr)) (fp : List Addr), SG (X.blk s H scope (compEnvC scope cl C X.env) fp) tg sl0 g) (ht : ∀ (s : Shared) (H : Hp) (C : Addr) (cl : List (Str × Addr)) (fp : List Addr), PTs (X.blk s H scope (compEnvC scope cl C X.env) fp) ifs (qT X.K W0 t))
    (hi1 : ∀ (s : Shared) (H : Hp) (C : Addr) (cl : List (Str × Addr)) (fp : List Addr), SI (X.blk s H scope (compEnvC scope cl C X.env) fp) W0 tg1 iter1 it1)
    (hg1 : ∀ (s : Shared) (H : Hp) (C : Addr) (cl : List (Str × Addr)) (fp : List Addr), SG (X.blk s H scope (compEnvC scope cl C X.env) fp) tg1 sl1 g1) (ht1 : ∀ (s : Shared) (H : Hp) (C : Addr) (cl : List (Str × Addr)) (fp : List Addr), PTs (X.blk s H scope (compEnvC scope cl C X.env) fp) ifs1 (qT X.K W0 t1))
    (he : ∀ (s : Shared) (H : Hp) (C : Addr) (cl : List (Str × Addr)) (fp : List Addr), SE (X.blk s H scope (compEnvC scope cl C X.env) fp) W0 elt e) (hs : ∀ x, foldedSetIterable iter X.env x = pure x := by intro _; rfl) (hs1 : ∀ env x, foldedSetIterable iter1 env x = pure x := by intro _ _; rfl) :
    SO X W (.ListComp elt [⟨tg, iter, ifs, 0⟩, ⟨tg1, iter1, ifs1, 0⟩] scope pos) (M.xs' sl it g t it1 sl1 g1 t1 e) := by
  subst hsl
  exact PE.imp (pe_lc2 hc hN hi ok hsub hg ht hi1 hg1 ht1 he hs hs1) fun σ H Q h => th' hsub0 hsub h
end
end S
namespace S
open PySem PySem.Spec PyProof.Rows L2
theorem Di' (n b : Nat) (h : b < n) : ZipSep2 (n + 4) (n + 2) (n + 3) n (n + 1) [n] [n + 1, b] := by
  have h4 : n + 4 ≠ b := by omega
  have h3 : n + 3 ≠ b := by omega
  have h0 : n ≠ b := by omega
  constructor <;> simp [h4, h3, h0]
theorem BH' {Pr : Addr -> Prop} {a b c d e x : Addr} (ha : Pr a) (hb : Pr b) (hc : Pr c) (hd : Pr d) (he : Pr e) (hx : x ∈ [a, b, c, d, e]) : Pr x := by
  simp only [List.mem_cons, List.not_mem_nil, or_false] at hx
  obtain rfl | rfl | rfl | rfl | rfl := hx <;> assumption
def CI' (K : PySem.W.Frag) (x : Str) (b : Addr) : It :=
  ⟨fun i H => ∃ (ys : List V), SqT K H b ys /\ i < min x.cps.size ys.length,
    fun i H v H' => ∃ T u y, v = .ref T /\ H T = none /\ H' = upd H T (.tup [u, y]) /\ chS x i = some u /\ ∀ ys, SqT K H b ys -> ys[i]? = some y,
    fun i H => ∃ ys : List V, SqT K H b ys /\ i = min x.cps.size ys.length⟩
theorem oe' {P : Program} {w : World} {K : PySem.W.Frag} {elts : List Expr} {kk : Nat} {tpos : Pos} {x : Str} {t1 : Tok} {b z TI TO i1 i2 : Addr} (D : ZipSep2 z TI TO i1 i2 [i1] [i2, b]) (hb2 : b ≠ i2) :
    Turn P w K (.Tuple elts kk tpos) (CI' K x b) [z, TI, TO, i1, i2] z (fun i h => IsZip h z TI TO .none /\ IsTupOf2 h TI (.ref i1) (.ref i2) /\ (∃ a1 a2, IsTupOf2 h TO a1 a2) /\ h.IsStrIter i1 (strIterType x) x t1 i /\ h.IsTupleIter i2 b i) where
  mem := by simp
  obj := fun i h st c hc => by
    obtain ⟨hz, hTI, ⟨a1, a2, hTO⟩, ⟨o1, e1, _, d1⟩, ⟨o2, e2, _, d2⟩⟩ := st
    exact BH' (Pr := fun a => ∃ o, h.get? a = some o /\ ∀ v, o.data = .cell v -> False) ⟨_, hz, nofun⟩ ⟨_, hTI, nofun⟩ ⟨_, hTO, nofun⟩ ⟨o1, e1, by rw [d1]; nofun⟩ ⟨o2, e2, by rw [d2]; nofun⟩ hc
  keep := fun i h h' st k => by
    obtain ⟨hz, hTI, ⟨a1, a2, hTO⟩, ⟨o1, e1, d1⟩, h2⟩ := st
    exact ⟨k z (by simp) _ hz, k TI (by simp) _ hTI, ⟨_, _, k TO (by simp) _ hTO⟩, ⟨o1, k i1 (by simp) _ e1, d1⟩, h2.at fun o q => k i2 (by simp) o q⟩
  item := by
    intro X hP hw hK hc i pins s σ H E I hf st hg
    subst hP hw hK
    obtain ⟨hz, hTI, hTO, h1, h2⟩ := st
    obtain ⟨ys, hqy, hi⟩ := hg
    obtain ⟨its, rv, p, _⟩ := I.tuple hqy
    have lv := rv.length
    have hA := I.ok.hd hc
    have Wa := GoesN.zip2 (elts := elts) (x1 := kk) (pos := tpos) D (Draws.text (A := X.A.in1) hA i1 x t1) (Draws.tuple (prog := X.prog) (w := X.w) (A := X.A.in1) hA i2 b hb2 its.toArray)
    refine Wa.goes i s _ E (by simp; omega) ⟨hz, hTI, hTO, h1, h2, p⟩ fun v h' tk hY st' hk htk => ?_
    obtain ⟨T, u1, u2, rfl, hT, p1, p2, o, ho, hoc, m, hod⟩ := hY
    obtain ⟨a, ha, ra⟩ := nW' p1
    obtain ⟨y, hy, ry⟩ : ∃ y, ys[i]? = some y /\ RelV y u2 := by
      have hi2 : i < ys.length := by omega
      obtain ⟨u, hu, ru⟩ := rv.get (List.getElem?_eq_getElem hi2)
      have : u2 = u := by
        have : its[i]? = some u2 := by simpa using p2
        rw [hu] at this
        exact (Option.some.inj this).symm
      subst this
      exact ⟨_, List.getElem?_eq_getElem hi2, ru⟩
    have new : ObjOk X.prog X.w (upd H T (.tup [a, y])) h' T (.tup [a, y]) := ⟨by show 2 <= sizeLine; decide, [u1, u2], .cons ra (.cons ry .nil), ⟨_, ho, hoc, _, hod⟩⟩
    have I1 : Inv X pins σ (upd H T (.tup [a, y])) { s with heap := h', toks := tk } :=
      I.turnedNew (t' := tk) (ch := [z, TI, TO, i1, i2]) (fun b o hb q => hk b o (fun hm => hb (by simp at hm ⊢; rcases hm with e | e | e | e <;> simp [e])) q) hf hT new
    obtain ⟨hz', hTI', hTO', h1', h2', _⟩ := st'
    refine ⟨.ref T, _, I1, rfl, ⟨T, a, y, rfl, I.hok.fresh hT, rfl, ha, fun l hl => by rw [I.tuple_inj hl hqy]; exact hy⟩, ⟨hz', hTI', hTO', h1', h2'⟩, fun c hcm => ?_⟩
    have hlt : c < s.heap.objs.size := BH' (Pr := fun a => a < s.heap.objs.size) (Heap.lt_size hz) (Heap.lt_size hTI) (let ⟨_, _, e⟩ := hTO; Heap.lt_size e) (let ⟨_, e, _⟩ := h1; Heap.lt_size e) (let ⟨_, e, _⟩ := h2; Heap.lt_size e) hcm
    rw [upd_ne (Nat.ne_of_lt (Nat.lt_of_lt_of_le hlt hT))]
    exact (hf c hcm).1
  done := by
    intro X hP hw hK hc i pins s σ H E I hf st hg
    subst hP hw hK
    obtain ⟨hz, hTI, hTO, h1, h2⟩ := st
    obtain ⟨ys, hqy, hi⟩ := hg
    obtain ⟨its, rv, p, _⟩ := I.tuple hqy
    have lv := rv.length
    have hA := I.ok.hd hc
    have Wa := GoesN.zip2 (elts := elts) (x1 := kk) (pos := tpos) D (Draws.text (A := X.A.in1) hA i1 x t1) (Draws.tuple (prog := X.prog) (w := X.w) (A := X.A.in1) hA i2 b hb2 its.toArray)
    have e : min x.cps.size its.toArray.size = i := by simp; omega
    rw [e] at Wa
    exact Wa.stops s _ E ⟨hz, hTI, hTO, h1, h2, p⟩ fun h' tk hk htk => I.turnedL (t' := tk) (ch := [z, TI, TO, i1, i2]) (fun b o hb q => hk b o (fun hm => hb (by simp at hm ⊢; rcases hm with e | e | e | e <;> simp [e])) q) hf
  self := fun A i s Q E st h => wpAny_pyIter_zip st.1 h
def zb' (K : PySem.W.Frag) (ta : TA) : TI := fun σ H R => ta σ H fun vs H1 => ∃ (x : Str) (b : Addr) (ys : List V), vs = [.str x, .ref b] /\ SqT K H1 b ys /\ R (CI' K x b) H1
theorem sW' {X : Cx} {e e2 : Expr} {ta : TA} {p pos tpos : Pos} {elts : List Expr} {kk} (hg : Gl X "zip") (hm : X.mg "zip" = none) (ha : PA X [e, e2] ta)
    (hs : starEach [e, e2] X.env = (false, eval e X.env) :: starEach [e2] X.env := by rfl) (hpl : (backTo pos (starEach [e2] X.env)).any (·.1) = false := by rfl) :
    PI X (.Tuple elts kk tpos) (.Call (.Name "zip" p) [e, e2] [] pos) (zb' X.K ta) := by
  refine ⟨fun pins s σ H R I h => ?_⟩
  refine Call_ (ld_blt I hg hm PyProof.Rows.boot_zip (PyProof.Rows.callWith_type1 (thn (ha.run pos pins s σ H _ I h) fun us s1 ⟨vs, H1, I1, r1, q1⟩ => ?_) hs hpl))
  obtain ⟨x, b, ys, ex, hqy, q⟩ := q1
  subst ex
  cases r1 with
  | cons r rr =>
    cases rr with
    | cons r' rr =>
      cases rr
      obtain ⟨t1, rfl⟩ := r
      cases r'
      obtain ⟨its, rv, p1, _⟩ := I1.tuple hqy
      have hlt : b < s1.heap.objs.size := by
        obtain ⟨o, ho, _⟩ := id p1
        exact Heap.lt_size ho
      refine zip_begins2 (begins_text x _) (begins_tuple b its.toArray) True.intro p1 fun h' hz hTI hTO h1 h2 hsz hk => wpAny_pyIter_zip hz ?_
      have I2 : Inv X pins σ H1 { s1 with heap := h' } := I1.kept (t' := s1.toks) hk
      have S2 : ZipSep2 (s1.heap.objs.size + 4) (s1.heap.objs.size + 2) (s1.heap.objs.size + 3) s1.heap.objs.size (s1.heap.objs.size + 1) [s1.heap.objs.size] [s1.heap.objs.size + 1, b] := by
        exact Di' _ _ hlt
      refine ⟨s1.heap.objs.size + 4, [s1.heap.objs.size + 4, s1.heap.objs.size + 2, s1.heap.objs.size + 3, s1.heap.objs.size, s1.heap.objs.size + 1], _, _, H1, rfl, I2,
        oe' S2 (Nat.ne_of_lt (Nat.lt_succ_of_lt hlt)), ⟨hz, hTI, ⟨_, _, hTO⟩, ⟨_, h1, rfl, rfl⟩, ⟨_, h2, rfl, rfl⟩⟩, fun c hcm => ?_, q⟩
      have hle : s1.heap.objs.size <= c := BH' (Pr := fun a => s1.heap.objs.size <= a) (Nat.le_add_right _ _) (Nat.le_add_right _ _) (Nat.le_add_right _ _) (Nat.le_refl _) (Nat.le_add_right _ _) hcm
      exact I1.fpOk hle (I1.hok.fresh hle)
end S
namespace S
open PySem PySem.Spec PyProof.Rows L2
variable [Wd] [Hot]
section
variable {K : PySem.W.Frag} {W : WX} {X : Cx} {p pos : Pos} {a b : Expr} {ma mb : M.ME}
theorem tl' {s : M.Tx} {c : Addr} {ws : List V} {es : List M.D} {F : Hp} {T : List Addr} (o : okT s) (hb : SqT K F c ws) (z2 : FzA K F T ws es) : iI' K (CI' K (sx s) c) (M.db' (s.map M.chD) es) F T := by
  have e1 : (sx s).cps.size = s.length := ca' s
  refine gv' (fun F' T' H' fp i e f hi => ?_) fun F' T' H' fp i dx dy e f h1 h2 => ?_
  . rw [List.length_map] at hi
    refine ⟨ws, seqT f.low (e.f.seqT hb), ?_⟩
    rw [z2.length, e1]
    omega
  . rw [List.getElem?_map] at h1
    cases q1 : s[i]? with
    | none => rw [q1] at h1; cases h1
    | some c1 =>
      rw [q1] at h1
      cases h1
      obtain ⟨y, y1, y2⟩ := z2.get h2
      have b1 : SqT K H' c ws := seqT f.low (e.f.seqT hb)
      have l1 := (List.getElem?_eq_some_iff.mp q1).1
      have l2 := (List.getElem?_eq_some_iff.mp y1).1
      refine ⟨⟨ws, b1, by rw [e1]; omega⟩, fun v H2 q => ?_⟩
      obtain ⟨p, x, y', rfl, hp, rfl, c2, c3⟩ := q
      unfold chS at c2
      rw [dO', q1] at c2
      cases c2
      have := c3 ws b1
      rw [y1] at this
      cases this
      exact ⟨p, _, _, rfl, hp, rfl, lh' (o.1 c1 (List.mem_of_getElem? q1)), y2.mono e⟩
theorem vK' {elts : List Expr} {kk : Nat} {tpos : Pos} (hg : Gl X "zip") (hm : X.mg "zip" = none) (ha : SE X W a ma) (hb : SE X W b mb)
    (hs : starEach [a, b] X.env = (false, eval a X.env) :: starEach [b] X.env := by rfl) (hs2 : starEach [b] X.env = (false, eval b X.env) :: starEach [] X.env := by rfl) (hpl : (backTo pos (starEach [b] X.env)).any (·.1) = false := by rfl) :
    SI X W (.Tuple elts kk tpos) (.Call (.Name "zip" p) [a, b] [] pos) (M.rx' ma mb) :=
  PI.imp (sW' hg hm (pa_cons ha (pa_cons hb pa_nil hs2) hs) hs hpl) fun σ H R ⟨ρ, F, T, fr, rel, q⟩ => by
    have q1 := aG'.bind q
    refine ⟨ρ, F, T, fr, rel, ?_⟩
    cases em : ma ρ with
    | bad => rw [em] at q1; exact q1.elim
    | exc x ρ1 => rw [em] at q1; exact q1
    | ok x ρ1 =>
      rw [em] at q1
      have q2 := aG'.bind (show aG' ((mb ρ1).bind _) _ _ from q1)
      intro u H1 F1 T1 e1 z1 r1
      refine ⟨ρ1, F1, T1, fr, r1, ?_⟩
      cases en : mb ρ1 with
      | bad => rw [en] at q2; exact q2.elim
      | exc y ρ2 => rw [en] at q2; exact EX.mono (show EX X.K W σ F T fr y ρ2 from q2) e1
      | ok y ρ2 =>
        rw [en] at q2
        obtain ⟨ds, e3, q3⟩ := aG'.ofO (show aG' (M.ofO _ _) _ _ from q2)
        intro v H2 F2 T2 e2 z2 r2
        have z1 := z1.mono e2
        obtain ⟨fp, f, _⟩ := r2.fp
        cases x <;> cases y <;> try (cases e3; done)
        obtain ⟨rfl, o1⟩ := z1.str_inv
        obtain ⟨b1, ws, rfl, hb, zb⟩ := z2.tup_inv
        cases e3
        exact ⟨_, b1, ws, rfl, seqT f.low hb, q3 _ _ _ _ (e1.trans e2) (tl' o1 hb zb) r2⟩
end
end S
namespace S
open PySem PySem.Spec PyProof.Rows L2
variable [Wd] [Hot]
section
variable {X : Cx} {W : WX} {K : PySem.W.Frag} {a : Expr} {ma : M.ME} {pos : Pos}
end
end S
namespace S
open PySem PySem.Spec PyProof.Rows L2
variable [Wd] [Hot]
section
variable {K : PySem.W.Frag} {W : WX} {σ : St} {H : Hp}
end
section
variable {X : Cx} {W : WX} {pos px : Pos} {elt tg : Expr} {ifs : List Expr} {scope : Scope} {own : List (Str × Nat)} {sl : List Nat} {i : Nat} {nm : Str} {g : M.MG} {t : M.MT} {e : M.ME}
end
end S
namespace S
open PySem PySem.Spec PyProof.Rows L2
variable [Wd] [Hot]
section
variable {X : Cx} {W : WX} {pos cpos apos : Pos} {o a : Expr} {mo : M.ME} {ma : M.MO}
end
end S
namespace S
open PySem PySem.Spec PyProof.Rows L2
structure SupF (file : Str) (K : PySem.W.Frag) (C f : Addr) (fld : Str) : Prop where
  ex : ∃ (oc : Value) (od : Option Addr) (fd : FuncData) (osl : Array (Option Value)) (x y : Str) (cc cda : Addr), K.lookup f = some ⟨oc, od, .func fd, osl⟩ /\ CD' fd.params = some (x, y) /\ CA' fd.body = some (("super" : Str), ("__init__" : Str), x, fld, y) ∧
    fd.closure = [(("__class__" : Str), cc)] /\ fd.code = .ref cda /\ fd.defaults = .none /\ fd.kwdefaults = .none /\ fd.globals = mainGlobals /\ fd.builtins = builtinsNs /\ PySem.W.codeIn K (.ref cda) fd.qualname = true ∧
    fd.scope.names.lookup ("super" : Str) = some .globalImplicit /\ fd.scope.names.lookup ("__class__" : Str) = some .free /\ fd.scope.names.lookup x = some .local /\ fd.scope.names.lookup y = some .local /\ (∀ q ∈ fd.scope.names, q.2 ≠ .cell) ∧
    fd.scope.kind = .function /\ fd.scope.isGenerator = false /\ fd.scope.isCoroutine = false /\ x = "self" /\ (y = "part" \/ y = "most") ∧
    (∃ a b c, K.lookup cc = some ⟨a, b, .cell (some (.ref C)), c⟩) /\ (∃ a b c vs tf, K.lookup cda = some ⟨a, b, .fields vs, c⟩ /\ vs[2]? = some (.str file tf))
  sup : PySem.W.ks_superIn K C C "__init__" = some (some (.builtin "ValueError.__init__"))
  own : PySem.W.mroIn K C (.ref C) = some true
  ve : PySem.W.subIn K (.ref C) (.type "ValueError") = some true
  no3 : PySem.W.nsIn K cStatics "thirdparty.any" = some none
  cls : ∃ nm q N bs bm sn sub ab col dd k0 k1 k2 k3 k5, K.lookup C = some (excClassObj nm q C N bs bm true sn sub ab col dd k0 k1 k2 k3 k5 "ValueError.__new__") /\ HandSPX.refsVE bm = true
  sa : PySem.W.findIn K (.ref C) "__setattr__" = some (some (.builtin "object.__setattr__"))
  exC : PySem.W.subIn K (.ref C) (.type "BaseException") = some true
  tyC : PySem.W.typeIn K (.ref C) = some (.type "type")
  kC : PySem.W.keepIn K (.ref C) = true
  iC : PySem.W.findIn K (.ref C) "__init__" = some (some (.ref f))
  tI : PySem.W.typeIn K (.ref f) = some (.type "function")
  fl : PySem.W.findIn K (.ref C) fld = some none
end S
namespace S
open PySem PySem.Spec PyProof.Rows L2
variable [Wd] [Hot]
local macro_rules | `(tactic| walk_at "parts") => `(tactic| (constructor; (intro e h; simp only [List.mem_append, List.mem_cons, List.not_mem_nil] at *; grind); (intro x; simp only [keys, List.map_append, List.map_cons, List.map_nil, List.count_append, List.count_cons, List.count_nil] at *; omega)))
section
variable {prog : Program} {w : World} {A : Around} {E : Value -> Shared -> Prop} {s : Shared}
end
def DK' (K : PySem.W.Frag) (ps : List (String × String)) (g : Addr) : Prop := ∀ C, (C, C) ∈ ps -> PySem.W.findIn K (.ref (He.ga K (Str.ofString C))) "__eq__" = some (some (.ref g)) /\ PySem.W.isFn K (.ref g) = true ∧
  ∀ n ∈ ["NoneType", "bool", "int", "str", "tuple", "list", "dict"], PySem.W.notFirst K (He.ga K (Str.ofString C)) (.type n) = true
def rEqD (K : PySem.W.Frag) (ps : List (String × String)) (mf : M.MF) : R2 := fun x y H Q => ∃ (C n : String) (a dx : Addr) (fs : List (Str × V)), (C, C) ∈ ps /\ n ∈ ["NoneType", "bool", "int", "str", "tuple", "list", "dict"] /\ x = .ref a ∧
  H a = some (.ins (He.ga K (Str.ofString C)) dx fs) /\ TyX K H y (.type n) /\ spM K mf [x, y] H (fun v H' => ∃ r, v = .bl r /\ Q (.bl r) H') E0
theorem op_eqD {X : Cx} {k : Nat} {C0 : Addr} {args : List Str} {ps : List (String × String)} {mf : M.MF} (F : OgM X.prog X.w X.K X.mg X.base k C0 "__eq__" args (spM X.K mf)) (hr : RoomG k X.A) (hp : DK' X.K ps (He.ma X.K C0 "__eq__")) :
    OpR X (compareOp .Eq) (rEqD X.K ps mf) := by
  obtain ⟨fd, F, hb⟩ := F
  intro pins s σ H x y v u Q I rx ry h
  obtain ⟨C, n, a, dx, fs, hC, hn, rfl, ha, ht, hs⟩ := h
  cases (show v = Value.ref a from rx)
  obtain ⟨q1, q2, q3⟩ := hp _ hC
  obtain ⟨mA, J, _⟩ := ins_get I.hok ha
  obtain ⟨od, J, _⟩ := J.look
  obtain ⟨m, hF⟩ := I.fr
  obtain ⟨P, Z, hP, _⟩ := kit_of I ry ht
  show wpAny (model X.prog X.w) X.A (richCompare .Eq (.ref a) u) (EP X pins σ Q) X.xe s
  refine PySem.W.cmp_K (op := .Eq) (tb := .type n) hr.r.units0 hF I.ok.mod.kin J (Z.ty _ _ I.kIn hP) (q3 n hn) q1 q2 ?_
  refine wpAny_mono (kR' (E := fun _ => E0) (us := [.ref a, u]) (vs := [.ref a, y]) F hr hb (fun _ _ _ e s' _ c => ?_) I (.cons rfl (.cons ry .nil)) hs) (fun r s' q => ?_) fun _ _ z => z
  . obtain ⟨_, _, _, _, _, _, _, _, _, _, _, _, z⟩ := c
    exact z.elim
  . obtain ⟨z, H', I', rz, t, ez, q⟩ := q
    subst ez
    cases rz
    exact ⟨.bl t, H', I', rfl, q⟩
section
variable {K : PySem.W.Frag} {σ : St} {H : Hp} {Q : VK} {W : WX}
end
section
variable {X : Cx} {W : WX} {pos p tpos : Pos} {a b e o i : Expr} {ma mb mo mi : M.ME} {k : Nat} {args : List Str} {mf : M.MF}
end
end S
namespace S
open PySem PySem.Spec PyProof.Rows L2
variable [Wd] [Hot]
mutual
inductive DqN (K : PySem.W.Frag) (H : Hp) : V -> M.D -> Prop
  | leaf {v : V} {d : M.D} : Dp K H v (py d) -> M.da' d = true -> DqN K H v d
  | tup {a : Addr} {vs : List V} {ds : List M.D} : SqT K H a vs -> DqNs K H vs ds -> DqN K H (.ref a) (.tup ds)
  | lst {a : Addr} {vs : List V} {ds : List M.D} : H a = some (.lst vs) -> DqNs K H vs ds -> DqN K H (.ref a) (.lst ds)
  | dct {a : Addr} {kvs : List (Key × V)} {ds : List M.D} : Rd H a (.dK kvs) -> kv' kvs -> DqNs K H (kvs.map (·.2)) ds -> DqN K H (.ref a) (.dct (kvs.map fun p => kD p.1) ds)
inductive DqNs (K : PySem.W.Frag) (H : Hp) : List V -> List M.D -> Prop
  | nil : DqNs K H [] []
  | cons {v : V} {d : M.D} {vs : List V} {ds : List M.D} : DqN K H v d -> DqNs K H vs ds -> DqNs K H (v :: vs) (d :: ds)
end
section
variable {K : PySem.W.Frag} {F H : Hp} {T : List Addr}
end
section
variable {X : Cx} {pins : List (Addr × Obj)} {σ : St} {H : Hp} {s : Shared}
def AI' (K : PySem.W.Frag) : Prop := ∃ o, K.lookup sysModules = some o
theorem vC' (I : Inv X pins σ H s) (h : AI' X.K) {a : Addr} {o : HO} (ha : H a = some o) : a ≠ sysModules := fun e => by
  obtain ⟨ob, hk⟩ := h
  have := (I.bs _ _ (I.ok.mod.kin _ _ hk)).2
  rw [e, this] at ha
  cases ha
mutual
theorem DqN.reads (I : Inv X pins σ H s) (hS : AI' X.K) : ∀ {v : V} {d : M.D} {u : Value}, DqN X.K H v d -> RelV v u -> ∃ as, Reads s.heap u (py d) as /\ sysModules ∉ as
  | _, _, _, .leaf h l, r => ⟨[], d1' I l h r, by simp⟩
  | _, _, _, .tup hs la, r => by
    cases r
    obtain ⟨its, rv, ⟨o, ho, hc, n, hd⟩, _⟩ := I.tuple hs
    obtain ⟨as, hr, hm⟩ := DqNs.reads I hS la rv
    exact ⟨_, Reads.tuple ho hc hd hr, hm⟩
  | _, _, _, .lst (a := a) hs la, r => by
    cases r
    obtain ⟨_, its, n, rv, hd⟩ := I.hok a _ hs
    obtain ⟨as, hr, hm⟩ := DqNs.reads I hS la rv
    refine ⟨_, Reads.list hd rfl rfl hr, fun z => ?_⟩
    rcases List.mem_cons.mp z with z | z
    . exact vC' I hS hs z.symm
    . exact hm z
  | _, _, _, .dct (a := a) (kvs := kvs) (ds := ds) e k la, r => by
    cases r
    obtain ⟨_, hs, vs, rk, hd⟩ := dk_rd I.hok e
    obtain ⟨bs, hp, hm⟩ := DqNs.pairs I hS la kvs rfl rk
    refine ⟨_, PyProof.V.reads_dictOf (enc := kP) (fun k key hk => ?_) hd hp, fun z => ?_⟩
    . rcases keyIs_shape hk with ⟨i, t, rfl, rfl⟩ | ⟨x, t, rfl, rfl⟩
      . exact .int i t
      . exact .str _ t
    . rcases List.mem_cons.mp z with z | z
      . rw [<- z] at hs
        simp at hs
      . exact hm z
theorem DqNs.reads (I : Inv X pins σ H s) (hS : AI' X.K) : ∀ {vs : List V} {ds : List M.D} {us : List Value}, DqNs X.K H vs ds -> Vals vs us -> ∃ as, ReadsAll s.heap us (pys ds) as /\ sysModules ∉ as
  | _, _, _, .nil, r => by
    cases r
    exact ⟨[], .nil, by simp⟩
  | _, _, _, .cons h1 h2, r => by
    cases r with
    | cons r1 r2 =>
      obtain ⟨as, q1, q4⟩ := DqN.reads I hS h1 r1
      obtain ⟨bs, q2, q3⟩ := DqNs.reads I hS h2 r2
      exact ⟨_, .cons q1 q2, fun z => (List.mem_append.mp z).elim q4 q3⟩
theorem DqNs.pairs (I : Inv X pins σ H s) (hS : AI' X.K) : ∀ {vs : List V} {ds : List M.D}, DqNs X.K H vs ds -> ∀ (kvs : List (Key × V)) {us : List (Key × Value)}, kvs.map (·.2) = vs -> KV kvs us →
    ∃ bs, PyProof.V.PairsRead s.heap kP us ((pys (kvs.map fun p => kD p.1)).zip (pys ds)) bs /\ sysModules ∉ bs
  | _, _, .nil, kvs, us, e, r => by
    cases kvs with
    | nil => cases r; exact ⟨[], .nil, by simp⟩
    | cons _ _ => cases e
  | _, _, .cons h1 h2, kvs, us, e, r => by
    cases kvs with
    | nil => cases e
    | cons p kvs =>
      obtain ⟨k, v⟩ := p
      obtain ⟨rfl, e2⟩ := List.cons.inj e
      cases r with
      | @cons _ q _ us hr hp =>
        obtain ⟨k', u⟩ := q
        obtain ⟨he, hr⟩ := hr
        have he : k = k' := he
        subst he
        obtain ⟨as, q1, q4⟩ := DqN.reads I hS h1 hr
        obtain ⟨bs, q2, q3⟩ := DqNs.pairs I hS h2 kvs e2 hp
        exact ⟨_, PyProof.V.PairsRead.cons (enc := kP) (k := k) q1 q2, fun z => (List.mem_append.mp z).elim q4 q3⟩
end
end
section
variable {X : Cx}
end
end S
namespace S
open PySem PySem.Spec PyProof.Rows L2
variable [Wd] [Hot]
end S
namespace S
open PySem PySem.Spec PyProof.Rows L2 HT
variable [Wd] [Hot]
section
variable {prog : Program} {w : World} {A : Around} {E : Value -> Shared -> Prop} {s : Shared}
end
section
variable {X : Cx} {W : WX} {a : Expr} {ma : M.ME} {pos p1 p2 p3 : Pos} {k : Nat}
end
end S
namespace S
open PySem PySem.Spec PyProof.Rows L2
variable [Wd]
section
variable {X : Cx} {W : WX} {pos p : Pos} {a b : Expr}
end
end S
namespace S
open PySem PySem.Spec PyProof.Rows L2 CwR
section
variable {X : Cx} {o e : Expr} {te to : TE} {es : List Expr} {ta : TA} {y z : Str} {i : Int} {j j1 j2 : Nat} {c0 c1 apos pos p : Pos}
end
variable [Wd]
section
variable {X : Cx} {W : WX} {o : Expr} {mo : M.ME} {y z : Str} {i : Int} {j j1 j2 : Nat} {c0 c1 apos pos p : Pos}
end
end S
namespace S
open PySem PySem.Spec PyProof.Rows L2
variable [Wd]
section
variable {X : Cx} {W : WX} {a : Expr} {ma : M.ME} {pos : Pos}
end
end S
namespace S
open PySem PySem.Spec PyProof.Rows L2
end S
namespace S
open PySem PySem.Spec PyProof.Rows L2
variable [Wd] [Hot]
section
variable {K : PySem.W.Frag} {W : WX} {X : Cx} {p pos : Pos} {a b : Expr} {ma mb : M.ME}
end
end S
namespace S
open PySem PySem.Spec
open PySem (ZipApart)
structure ZlSt (h : Heap) (z TI TO i1 i2 l1 l2 : Addr) (xs ys : Array Value) (S : Addr) (i : Nat) : Prop where
  ti : IsPair h TI (.ref i1) (.ref i2)
  it1 : h.IsListIter i1 l1 i
  it2 : h.IsListIter i2 l2 i
  li1 : h.IsList l1 xs
  li2 : h.IsList l2 ys
  zz : (IsZip h z TI TO .none /\ ∃ a b, IsPair h TO a b) \/ ∃ T f oT, PySem.IsZipHeld h z TI TO T f /\ h.get? T = some oT /\ T ≠ z /\ T ≠ i1 /\ T ≠ i2 /\ T ≠ S
structure ZlA (z TI TO i1 i2 l1 l2 S : Addr) : Prop where
  z : z < S
  TI : TI < S
  TO : TO < S
  i1 : i1 < S
  i2 : i2 < S
  l1 : l1 < S
  l2 : l2 < S
section
variable {prog : Program} {w : World} {A : Around} {E : Value -> Shared -> Prop} {s : Shared} {z TI TO i1 i2 l1 l2 S : Addr} {xs ys : Array Value} {i : Nat}
theorem ZlSt.keep {h h' : Heap} (st : ZlSt h z TI TO i1 i2 l1 l2 xs ys S i) (L : ZlA z TI TO i1 i2 l1 l2 S) (hk : ∀ b o, b ≠ S -> h.get? b = some o -> h'.get? b = some o) : ZlSt h' z TI TO i1 i2 l1 l2 xs ys S i := by
  obtain ⟨a1, a2, a3, a4, a5, a6⟩ := st
  have n : ∀ {a : Addr}, a < S -> a ≠ S := fun h => Nat.ne_of_lt h
  refine ⟨hk _ _ (n L.TI) a1, a2.at fun o e => hk _ o (n L.i1) e, a3.at fun o e => hk _ o (n L.i2) e, a4.at fun o e => hk _ o (n L.l1) e, a5.at fun o e => hk _ o (n L.l2) e, ?_⟩
  rcases a6 with ⟨hz, a, b, hTO⟩ | ⟨T, f, oT, hz, hT, r1, r2, r3, r4⟩
  . exact .inl ⟨hk _ _ (n L.z) hz, a, b, hk _ _ (n L.TO) hTO⟩
  . exact .inr ⟨T, f, oT, hk _ _ (n L.z) hz, hk _ _ r4 hT, r1, r2, r3, r4⟩
structure ZlG (xs ys : Array Value) (lo : Addr) (h : Heap) (as : List Addr) : Prop where
  rise : as.Pairwise (· < ·)
  above : ∀ a ∈ as, lo < a
  pairs : ∀ (j : Nat) (a : Addr), as[j]? = some a -> ∃ x y, xs[j]? = some x /\ ys[j]? = some y /\ h.get? a = some { cls := .type "tuple", data := .seq #[x, y] }
theorem ZlG.there {lo : Addr} {h : Heap} {as : List Addr} (g : ZlG xs ys lo h as) {a : Addr} (ha : a ∈ as) : a < h.objs.size := by
  obtain ⟨j, hj⟩ := List.mem_iff_getElem?.mp ha
  obtain ⟨_, _, _, _, e⟩ := g.pairs j a hj
  exact Heap.lt_size e
end
section
variable {prog : Program} {w : World} {A : Around} {s : Shared} {R : Result -> Shared -> Prop} {z TI TO i1 i2 l1 l2 S : Addr} {xs ys : Array Value}
end
section
variable {prog : Program} {w : World} {A : Around} {E : Value -> Shared -> Prop} {s : Shared} {z TI TO i1 i2 l1 l2 S : Addr} {xs ys : Array Value}
theorem ZlSt.type {h : Heap} {i : Nat} (st : ZlSt h z TI TO i1 i2 l1 l2 xs ys S i) : ∃ o, h.get? z = some o /\ o.cls = .type "zip" := by
  rcases st.zz with ⟨hz, _⟩ | ⟨T, f, oT, hz, _⟩
  . exact ⟨_, hz, rfl⟩
  . exact ⟨_, hz, rfl⟩
end
end S
namespace S
open PySem PySem.Spec PyProof.Rows L2 LiI
section
variable {X : Cx}
end
section
variable {K : PySem.W.Frag} [Wd]
end
section
variable [Wd] {X : Cx} {W : WX} {a b : Expr} {ma mb : M.ME} {p p2 pos pos2 : Pos}
end
end S
namespace S
open PySem PySem.Spec PyProof.Rows L2
section
variable {prog : Program} {w : World} {A : Around} {E : Value -> Shared -> Prop} {s : Shared} {z TI TO i1 i2 l1 l2 : Addr} {xs ys : Array Value} {k : Nat}
abbrev ZO (h : Heap) (z TI TO : Addr) (f0 : Value) (b : Bool) : Prop :=
  h.get? z = some { cls := .type "zip", dict := none, data := .fields #[f0, .bool b, .bool false, .ref TI, .ref TO], slots := #[] }
def Gvn (f0 : Value) : Prop := f0 = .none \/ ∃ T : Addr, f0 = rawInt T
structure ZnSt (h : Heap) (z TI TO i1 i2 l1 l2 : Addr) (k : Nat) : Prop where
  zz : ∃ f0 b, ZO h z TI TO f0 b /\ Gvn f0
  ti : IsPair h TI (.ref i1) (.ref i2)
  to : ∃ x y, IsPair h TO x y
  h1 : h.IsTupleIter i1 l1 k
  h2 : h.IsTupleIter i2 l2 k
end
end S
namespace S
open PySem PySem.Spec PyProof.Rows L2
section
variable [Wd] [Hot] {X : Cx} {W : WX} {a b : Expr} {ma mb : M.ME} {p pos : Pos}
end
end S
namespace S
open PySem PySem.Spec PyProof.Rows L2
section
variable [Wd] [Hot] {X : Cx} {W : WX} {a : Expr} {ma : M.ME} {pos : Pos}
end
end S
namespace S
open PySem PySem.Spec PyProof.Rows L2
variable [Wd]
inductive DSd (K : PySem.W.Frag) (H : Hp) (a : Addr) (y v : V) (Q : V -> Hp -> Prop) : Prop
  | old {xs : List (NestedKey × Addr × V)} {b : Addr} {k : NestedKey} {u : V} : H a = some (dcN a xs) -> xl' K H xs -> y = .ref b -> NkV K H (.ref b) k -> k.depth <= 8 -> valV (xsV xs) k = some u -> xs.length <= sizeLine -> Q u H -> DSd K H a y v Q
  | new {xs : List (NestedKey × Addr × V)} {b : Addr} {k : NestedKey} : H a = some (dcN a xs) -> xl' K H xs -> y = .ref b -> NkV K H (.ref b) k -> k.depth <= 8 -> valV (xsV xs) k = none -> (kB' xs k b v).length <= sizeLine -> Q v (upd H a (dcN a (kB' xs k b v))) -> DSd K H a y v Q
  | fst {b : Addr} {k : NestedKey} : H a = some (dcL a []) -> y = .ref b -> NkV K H (.ref b) k -> k.depth <= 8 -> Q v (upd H a (dcN a [(k, b, v)])) -> DSd K H a y v Q
section
variable {X : Cx} {pins : List (Addr × Obj)} {σ : St} {H : Hp} {s : Shared} {a : Addr} {y : V} {u : Value} {A : Around} {E : Value -> Shared -> Prop}
end
section
variable [Hot] {X : Cx} {W : WX} {o : Expr}
end
end S
namespace PySem.W
open Spec PyProof PyProof.Rows
section
variable {prog : Program} {w : World} {A A₀ : Around} {E : Value -> Shared -> Prop} {s : Shared} {K : Frag} {x y C C' L f : Addr} {h₀ : Heap} {m : Str -> Option Value} {ox oy : Obj} {od od' : Option Obj} {b tb : Value}
end
end PySem.W
namespace S
open PySem PySem.Spec PyProof.Rows L2
variable [Wd] [Hot]
local macro_rules | `(tactic| walk_at "parts") => `(tactic| (constructor; (intro e h; simp only [List.mem_append, List.mem_cons, List.not_mem_nil] at *; grind); (intro x; simp only [keys, List.map_append, List.map_cons, List.map_nil, List.count_append, List.count_cons, List.count_nil] at *; omega)))
section
variable {K : PySem.W.Frag} {σ : St} {H : Hp} {Q : VK} {W : WX}
end
section
variable {X : Cx} {W : WX} {pos p : Pos} {a b e : Expr} {ma mb : M.ME} {k : Nat} {args : List Str} {mf : M.MF}
end
end S
namespace S
open PySem PySem.Spec PyProof.Rows L2
local macro_rules | `(tactic| walk_at "parts") => `(tactic| (constructor; (intro e h; simp only [List.mem_append, List.mem_cons, List.not_mem_nil] at *; grind); (intro x; simp only [keys, List.map_append, List.map_cons, List.map_nil, List.count_append, List.count_cons, List.count_nil] at *; omega)))
section
variable [Wd]
variable {K : PySem.W.Frag} {F H G : Hp} {T T' : List Addr}
end
section
variable [Wd]
variable {K : PySem.W.Frag} {F H G : Hp} {T T' : List Addr}
def NoD (fp : Fp) : Prop := ∀ e ∈ fp, (∀ kvs, e.2 ≠ .dK kvs) /\ (∀ φ, e.2 ≠ .ext φ) /\ ∀ od u, e.2 ≠ .frz od u
theorem NoD.app {a b : Fp} (h : NoD a) (g : NoD b) : NoD (a ++ b) := fun e he => (List.mem_append.mp he).elim (h e) (g e)
structure Split (C A B : Fp) : Prop where
  mem : ∀ e, e ∈ C ↔ e ∈ A \/ e ∈ B
  cnt : ∀ x, (keys C).count x = (keys A).count x + (keys B).count x
end
section
variable [Wd] [Hot] {X : Cx} {W : WX} {a b e : Expr} {ma mb me : M.ME} {p p2 pos pos2 : Pos}
variable {es : List Expr} {mo : M.MO} {moa : M.MOA}
end
section
variable [Wd] {X : Cx} {W : WX} {a b : Expr} {ma mb : M.ME} {p p2 pos pos2 : Pos}
end
end S
namespace PySem.W
open PySem PySem.Spec PySem.Calls PyProof PyProof.Rows
section
variable {x t : Value} {P : Heap -> Prop}
end
end PySem.W
namespace L2
open PySem PySem.Spec PyProof.Rows
end L2
namespace S
open PySem PySem.Spec PyProof.Rows L2
variable [Wd] {X : Cx} {W : WX} {pos p : Pos} {a b : Expr}
end S
namespace S
open PySem PySem.Spec PyProof.Rows L2
variable [Wd] [Hot]
local macro_rules | `(tactic| walk_at "parts") => `(tactic| (constructor; (intro e h; simp only [List.mem_append, List.mem_cons, List.not_mem_nil] at *; grind); (intro x; simp only [keys, List.map_append, List.map_cons, List.map_nil, List.count_append, List.count_cons, List.count_nil] at *; omega)))
section
variable {K : PySem.W.Frag} {F H : Hp} {T : List Addr} {fp fr : Fp} {ρ : M.PSt} {σ : St}
theorem RpA.named {f : String} {o : M.O} : ∀ {fv : List (String × V)} {os : List M.O} {fp : Fp}, RpA K F T (fv.map (·.2)) os fp -> ((fv.map (·.1)).zip os).lookup f = some o →
    ∃ v f1 f2 f3, fv.lookup f = some v /\ fp = f1 ++ (f2 ++ f3) /\ Rp K F T v o f2 /\ ∀ o' f2', Rp K F T v o' f2' -> ∃ os', RpA K F T (fv.map (·.2)) os' (f1 ++ (f2' ++ f3)) /\ M.qP' f o' ((fv.map (·.1)).zip os) = (fv.map (·.1)).zip os'
  | [], _, _, r, h => by cases r; cases h
  | (g, v) :: fv, _, _, r, h => by
    cases r with
    | @cons _ _ o1 os fa fb r0 r =>
      by_cases e : f = g
      . subst e
        have h : some o1 = some o := by rw [<- h, List.map_cons, List.zip_cons_cons, List.lookup_cons_self]
        cases h
        refine ⟨v, [], fa, fb, List.lookup_cons_self, rfl, r0, fun o' f2' q => ⟨o' :: os, (RpA.cons q r : RpA K F T _ _ (f2' ++ fb)), ?_⟩⟩
        rw [List.map_cons, List.zip_cons_cons, List.zip_cons_cons]
        exact if_pos rfl
      . have h1 : (f == g) = false := by simpa using e
        have h : ((fv.map (·.1)).zip os).lookup f = some o := by
          rw [<- h, List.map_cons, List.zip_cons_cons]
          simp only [List.lookup, h1]
        obtain ⟨v', f1, f2, f3, e1, e2, e3, e4⟩ := RpA.named r h
        refine ⟨v', fa ++ f1, f2, f3, by simp only [List.lookup, h1]; exact e1, by rw [e2, List.append_assoc], e3, fun o' f2' q => ?_⟩
        obtain ⟨os', q1, q2⟩ := e4 o' f2' q
        refine ⟨o1 :: os', by rw [List.append_assoc]; exact .cons r0 q1, ?_⟩
        rw [List.map_cons, List.zip_cons_cons, List.zip_cons_cons]
        show (if g = f then _ else _) = _
        rw [if_neg (fun z => e z.symm), q2]
end
section
variable {X : Cx} {W : WX} {pos apos cpos tpos p2 : Pos} {a b e k value : Expr} {ma mk mv : M.ME}
end
end S
namespace S
open PySem PySem.Spec PyProof.Rows L2
variable [Wd] [Hot]
section
variable {K : PySem.W.Frag}
end
end S
namespace S
open PySem PySem.Spec PyProof.Rows L2
variable [Wd] [Hot]
section
variable {X : Cx} {W : WX} {K : PySem.W.Frag} {a b : Expr} {ma mb : M.ME} {pos p apos : Pos} {x : Str}
end
end S
namespace S
open PySem PySem.Spec PyProof.Rows L2
variable [Wd] [Hot]
section
variable {X : Cx} {tg e : Expr} {td : TE}
end
section
variable {K : PySem.W.Frag} {F : Hp} {T : List Addr}
end
section
variable {X : Cx} {W : WX} {tg a : Expr} {ma : M.ME}
end
end S
namespace S
open PySem PySem.Spec PyProof.Rows L2
variable [Wd]
section
variable {K : PySem.W.Frag}
end
variable [Hot]
section
variable {X : Cx} {W : WX} {pos cpos apos spos ipos epos : Pos}
end
end S
namespace S
open PySem PySem.Spec PyProof.Rows L2
variable [Wd]
inductive CodeMade (Ck : Addr -> Prop) (H : Hp) (P : Addr) (q : Str) (c : Addr) : Hp -> Prop
  | told : Ck c -> CodeMade Ck H P q c H
  | fresh {ps ps' : Array Value} : H c = none -> H P = some (.tbl ps) -> TriplesOk ps'.toList -> (∀ (pos : Pos) (cv : Value), codeAmong pos ps'.toList = some cv -> codeAmong pos ps.toList = some cv \/ cv = .ref c) →
      CodeMade Ck H P q c (upd (upd H P (.tbl ps')) c (LamX.CodeO c q))
section
variable {X : Cx} {pins : List (Addr × Obj)} {σ : L2.St} {H : Hp} {s : Shared}
end
end S
namespace S
open PySem PySem.Spec PyProof.Rows L2
end S
namespace S
open PySem PySem.Spec PyProof.Rows L2
variable [Wd]
end S
namespace S
open PySem PySem.Spec PyProof.Rows L2
section
variable {P : Program} {w : World} {K : PySem.W.Frag} {mg mb : Str -> Option Value} {CX : CXT} {k : Nat} {fa a : Addr} {fd : FuncData} {x : Str} {sp : Sp} {s : Shared} {vs : List Value} {n0 : Nat} {H : Hp} {cs : List (Addr × Addr)}
end
end S
namespace S
open PySem PySem.Spec PyProof.Rows L2
variable [Wd] [Hot]
section
variable {X : Cx} {W : WX} {pos apos tpos p2 : Pos} {a value : Expr} {ma mv : M.ME} {t : Str} {j2 : Nat} {s : M.Tx}
end
end S
namespace S
open PySem PySem.Spec PyProof.Rows PySem.W
section
variable {prog : Program} {w : World} {A : Around} {E : Value -> Shared -> Prop} {s : Shared}
end
section
open L2
variable {X : Cx}
end
section
open L2
variable {X : Cx} {e : Expr} {te : TE} {p apos cpos pos : Pos} {sn : Str}
end
section
open L2
variable [Wd] [Hot]
end
section
open L2
variable [Wd] [Hot]
end
section
open L2
variable [Wd] [Hot] {X : Cx} {W : WX} {a : Expr} {ma : M.ME} {p apos iapos cpos pos : Pos} {sn : Str}
end
end S
namespace S
open PySem PySem.Spec PyProof.Rows L2
local macro_rules | `(tactic| walk_at "parts") => `(tactic| (constructor; (intro e h; simp only [List.mem_append, List.mem_cons, List.not_mem_nil] at *; grind); (intro x; simp only [keys, List.map_append, List.map_cons, List.map_nil, List.count_append, List.count_cons, List.count_nil] at *; omega)))
section
variable [Wd]
variable {K : PySem.W.Frag} {F H G : Hp} {T T' : List Addr}
def Drp (kl kd : Bool) (F G : Hp) : Prop := ∀ a o, F a = some o -> G a = some o \/ (kl = true /\ ∃ vs, o = .lst vs) \/ (kd = true /\ ∃ od kvs, o = .frz od (.dK kvs))
theorem Drp.keep {kl kd : Bool} (s : Drp kl kd F G) {a : Addr} {o : HO} (h : F a = some o) (n1 : ∀ vs, o ≠ .lst vs) (n2 : ∀ od kvs, o ≠ .frz od (.dK kvs)) : G a = some o := by
  rcases s a o h with h | ⟨_, vs, e⟩ | ⟨_, od, kvs, e⟩
  . exact h
  . exact absurd e (n1 vs)
  . exact absurd e (n2 od kvs)
theorem Drp.seqT {kl kd : Bool} (s : Drp kl kd F G) {a : Addr} {xs : List V} (h : SqT K F a xs) : SqT K G a xs := by
  rcases h with (h | ⟨o, h⟩) | h
  . exact .inl (.inl (s.keep h (fun _ z => nomatch z) fun _ _ z => nomatch z))
  . exact .inl (.inr ⟨o, s.keep h (fun _ z => nomatch z) fun _ _ z => nomatch z⟩)
  . exact .inr h
theorem Drp.lst {kd : Bool} (s : Drp false kd F G) {a : Addr} {vs : List V} (h : F a = some (.lst vs)) : G a = some (.lst vs) := by
  rcases s a _ h with h | ⟨z, _⟩ | ⟨_, od, kvs, e⟩
  . exact h
  . cases z
  . cases e
theorem Drp.seqL {kd : Bool} (s : Drp false kd F G) {a : Addr} {xs : List V} (h : SqL K F a xs) : SqL K G a xs := by
  rcases h with (h | ⟨o, h⟩) | h
  . exact .inl (.inl (s.lst h))
  . exact .inl (.inr ⟨o, s.keep h (fun _ z => nomatch z) fun _ _ z => nomatch z⟩)
  . exact .inr h
theorem Drp.dict {kl : Bool} (s : Drp kl false F G) {a : Addr} {kvs : List (Key × V)} (h : Rd F a (.dK kvs)) : Rd G a (.dK kvs) := by
  rcases h with h | ⟨o, h⟩
  . exact .inl (s.keep h (fun _ z => nomatch z) fun _ _ z => nomatch z)
  . rcases s a _ h with h | ⟨_, _, e⟩ | ⟨z, _⟩
    . exact .inr ⟨o, h⟩
    . cases e
    . cases z
theorem Drp.ext {kl kd : Bool} (s : Drp kl kd F G) {a : Addr} {φ : Heap -> Prop} (h : Rd F a (.ext φ)) : Rd G a (.ext φ) := by
  rcases h with h | ⟨o, h⟩
  . exact .inl (s.keep h (fun _ z => nomatch z) fun _ _ z => nomatch z)
  . exact .inr ⟨o, s.keep h (fun _ z => nomatch z) fun _ _ z => nomatch z⟩
theorem CE' {a b : Bool} (h : (a && b) = true) : a = true /\ b = true := Bool.and_eq_true_iff.mp h
def Lnt (kl kd : Bool) (o : HO) : Prop := (kl = true /\ ∃ vs, o = .lst vs) \/ (kd = true /\ ∃ kvs, o = .dK kvs)
def DI' (G : Hp) (e : Addr × HO) : Prop := G e.1 = some e.2 \/ ∃ od kvs, e.2 = .dK kvs /\ G e.1 = some (.frz od e.2)
theorem RpA.allFz {vs : List V} {os : List M.O} {fp : Fp} (r : RpA K F T vs os fp) (h : os.all M.wG' = true) : fp = [] /\ FzA K F T vs (M.frzs os) := by
  induction vs generalizing os fp with
  | nil => cases r; exact ⟨rfl, .nil⟩
  | cons v vs ih =>
    cases r with
    | @cons _ _ o os fa fb q r =>
      obtain ⟨h1, h2⟩ := CE' (show (M.wG' o && os.all M.wG') = true from h)
      obtain ⟨rfl, z⟩ := ih r h2
      cases o <;> try (cases h1; done)
      cases q with
      | fz q => exact ⟨rfl, .cons q z⟩
theorem Rp.lendO {kl kd : Bool} {v : V} {o : M.O} {fp : Fp} (q : Rp K F T v o fp) (h : M.lendO kl kd o = true) : (∀ e ∈ fp, Lnt kl kd e.2) /\ fp.length = M.Az' o /\ ∀ G, Same F G -> (∀ e ∈ fp, DI' G e) -> Fz K G T v (M.frz o) := by
  cases q with
  | fz z => exact ⟨nofun, rfl, fun G s _ => z.mono (.of s)⟩
  | lst r =>
    obtain ⟨h1, h2⟩ := CE' (show (kl && _) = true from h)
    obtain ⟨rfl, z⟩ := r.allFz h2
    refine ⟨fun e he => ?_, rfl, fun G s g => ?_⟩
    . cases List.mem_singleton.mp he; exact .inl ⟨h1, _, rfl⟩
    . rcases g _ List.mem_cons_self with g | ⟨_, _, g, _⟩
      . exact .lst g (z.mono (.of s))
      . cases g
  | tup r => cases h
  | dct k r =>
    obtain ⟨h1, h2⟩ := CE' (show (kd && _) = true from h)
    obtain ⟨rfl, z⟩ := r.allFz h2
    refine ⟨fun e he => ?_, rfl, fun G s g => ?_⟩
    . cases List.mem_singleton.mp he; exact .inr ⟨h1, _, rfl⟩
    . rcases g _ List.mem_cons_self with g | ⟨od, _, _, g⟩
      . exact .dct (.inl g) k (z.mono (.of s))
      . exact .dct (.inr ⟨od, g⟩) k (z.mono (.of s))
  | dcl k r => cases h
  | dcn k q r => cases h
end
section
variable [Wd] [Hot] {X : Cx} {W : WX} {e : Expr} {mo : M.MO}
end
end S
namespace S
open PySem PySem.Spec PyProof.Rows L2
local macro_rules | `(tactic| walk_at "parts") => `(tactic| (constructor; (intro e h; simp only [List.mem_append, List.mem_cons, List.not_mem_nil] at *; grind); (intro x; simp only [keys, List.map_append, List.map_cons, List.map_nil, List.count_append, List.count_cons, List.count_nil] at *; omega)))
variable [Wd] [Hot]
section
variable {K : PySem.W.Frag}
end
section
variable {X : Cx} {W : WX} {a b : Expr} {mb : M.ME} {pos : Pos}
end
end S
namespace S
open PySem PySem.Spec PyProof.Rows L2
local macro_rules | `(tactic| walk_at "parts") => `(tactic| (constructor; (intro e h; simp only [List.mem_append, List.mem_cons, List.not_mem_nil] at *; grind); (intro x; simp only [keys, List.map_append, List.map_cons, List.map_nil, List.count_append, List.count_cons, List.count_nil] at *; omega)))
variable [Wd]
section
variable {X : Cx} {pins : List (Addr × Obj)} {σ : St} {H : Hp} {s : Shared} {a b : Addr} {y d : V} {u r : Value} {ov : Option V} {A : Around} {E : Value -> Shared -> Prop}
end
section
variable [Hot] {X : Cx} {W : WX} {o e f a i k l : Expr} {me mf ma mk ml : M.ME} {pos tpos tpos2 apos cpos : Pos}
end
section
variable {K : PySem.W.Frag}
end
section
variable [Hot]
end
end S
namespace S
open PySem PySem.Spec PyProof.Rows L2
variable [Wd]
end S
namespace S
open PySem PySem.Spec PyProof.Rows L2
variable [Wd] [Hot]
section
variable {X : Cx} {W : WX}
end
end S
namespace S
open PySem PySem.Spec PyProof.Rows L2
local macro_rules | `(tactic| walk_at "parts") => `(tactic| (constructor; (intro e h; simp only [List.mem_append, List.mem_cons, List.not_mem_nil] at *; grind); (intro x; simp only [keys, List.map_append, List.map_cons, List.map_nil, List.count_append, List.count_cons, List.count_nil] at *; omega)))
variable [Wd]
inductive HitsD (K : PySem.W.Frag) (H : Hp) (ls : List (Key × V)) : List (Key × V) -> Bool -> Prop
  | nil : HitsD K H ls [] true
  | miss {p : Key × V} {r : List (Key × V)} : valV ls p.1 = none -> HitsD K H ls (p :: r) false
  | hit {p : Key × V} {u : V} {d e : PyData} {r : List (Key × V)} {b : Bool} : valV ls p.1 = some u -> Dp K H p.2 d -> Dp K H u e -> SeqAt.shaped d = true -> SeqAt.shaped e = true -> HitsD K H ls r b -> HitsD K H ls (p :: r) (PyData.eqv d e && b)
section
variable {X : Cx}
end
section
variable {K : PySem.W.Frag}
end
section
variable {X : Cx} {pins : List (Addr × Obj)} {σ : St} {H : Hp} {s : Shared} {a b : Addr} {y d : V} {u r : Value} {ov : Option V} {A : Around} {E : Value -> Shared -> Prop}
end
section
variable [Hot] {X : Cx} {W : WX} {o e f a i k l : Expr} {me mf ma mk ml : M.ME} {pos tpos tpos2 apos cpos : Pos}
end
end S
namespace S
open PySem PySem.Spec PyProof.Rows L2 PySem.SeqAt
variable [Wd] [Hot]
variable {K : PySem.W.Frag}
end S
namespace S
open PySem PySem.Spec PyProof.Rows L2
local macro_rules | `(tactic| walk_at "parts") => `(tactic| (constructor; (intro e h; simp only [List.mem_append, List.mem_cons, List.not_mem_nil] at *; grind); (intro x; simp only [keys, List.map_append, List.map_cons, List.map_nil, List.count_append, List.count_cons, List.count_nil] at *; omega)))
section
variable [Wd] [Hot] {X : Cx} {W : WX} {pos : Pos}
end
end S
namespace S
open PySem PySem.Spec PyProof.Rows L2
variable [Wd] [Hot]
section
variable {K : PySem.W.Frag} {W : WX} {σ : St} {H : Hp} {D : Ends}
end
section
variable {X : Cx} {W : WX} {pos px ps pr : Pos} {tg c e : Expr} {sl : List Nat} {i : Nat} {nm : Str} {g : M.MG} {t : M.MT} {a : M.MO}
end
section
variable {X : Cx} {W : WX} {apos cpos : Pos} {o e : Expr} {es : List Expr} {x : Str} {as : M.MA}
end
end S
namespace L2
open PySem PySem.Spec PyProof.Rows
structure Lay (X : Cx) (pn : List (Addr × Obj)) (a : Addr) (cls : Value) (d : Option Addr) (σ : St) (H : Hp) (s : Shared) : Prop where
  src : ∃ B z, Inv X pn σ H z /\ (∀ b o, z.heap.get? b = some o -> b ∉ frs X.stack -> B.get? b = some o) /\ z.heap.UpToSlots s.heap /\ HandSPX.FlyingZ B (X.env :: X.outer) a (Zc cls d) s.heap /\ s.os = z.os /\ AllBare s.gens
  na : H a = none
section
variable {X : Cx} {pn : List (Addr × Obj)} {a : Addr} {cls : Value} {d : Option Addr} {σ : St} {H : Hp} {s : Shared}
theorem Lay.inv (y : Lay X pn a cls d σ H s) : Inv X pn σ H s := by
  obtain ⟨⟨B, z, I, h1, h2, h3, h4, h5⟩, -⟩ := y
  exact I.landed h1 h3.1 h2 h4 h5
theorem Lay.held (y : Lay X pn a cls d σ H s) (hf : X.env.frame = some X.env.locals) : ∃ oe, s.heap.get? a = some oe /\ Zc cls d oe /\ (∃ vs, oe.data = .fields vs) /\ Inv (X.suite a ((a, oe) :: (X.pn ++ pn))) [] σ H s := by
  have I := y.inv
  obtain ⟨⟨B, z, -, -, -, fl, -, -⟩, na⟩ := y
  obtain ⟨oe, vs, e1, e2, e3⟩ := fl.there
  have off : a ∉ frs (X.env :: X.outer) := by
    intro m
    obtain ⟨_, o2, e4, no⟩ := fl.2.2.1.mem m
    rw [e1] at e4
    cases e4
    exact no vs e3
  have q1 : a ≠ X.env.locals := by
    intro q
    refine off (List.mem_filterMap.2 ⟨X.env, by simp, ?_⟩)
    rw [hf, q]
  have q2 : a ∉ X.fs := by
    intro m
    obtain ⟨w, m1, m2⟩ := List.mem_filterMap.1 m
    exact off (List.mem_filterMap.2 ⟨w, by simp [m1], m2⟩)
  exact ⟨oe, e1, e2, ⟨vs, e3⟩, I.suite e1 e3 na q1 q2⟩
theorem Lay.cool {M : Model} {A : Around} {E : Value -> Shared -> Prop} {Q : Unit -> Shared -> Prop} (y : Lay X pn a cls d σ H s) (h : ∀ s', Lay X pn a cls d σ H s' -> Q () s') : wpAny M A (setFlight (.ref a) none) Q E s := by
  obtain ⟨⟨B, z, I, h1, h2, h3, h4, h5⟩, na⟩ := y
  exact HandSPX.lands_againZ h3 fun g k1 k2 => h _ ⟨⟨B, z, I, h1, h2.trans k2, k1, h4, h5⟩, na⟩
theorem Lay.out {W : WX} {Q : Flow -> Shared -> Prop} (y : Lay X pn a cls d σ H s) (hs : X.stack = X.env :: X.outer) (hf : X.env.frame = some X.env.locals) (tk : Takes X W) (w : W cls d σ H) : wpAny (model X.prog X.w) X.A (handleBy (.ref a) X.env []) Q X.xe s := by
  obtain ⟨⟨B, z, I, h1, h2, h3, h4, h5⟩, na⟩ := y
  obtain ⟨-, -, -, oe, vs, T, -, -, e1, -, e2, e3, -⟩ := id h3
  refine wpAny_handleBy_nil ?_
  unfold PySem.passOn
  refine wpAny_bind (wpAny_field e1 e2 e3 ?_)
  have nT : (Value.ref T == Value.none) = false := by simp
  rw [nT, if_neg Bool.false_ne_true]
  have up : wpAny (model X.prog X.w) X.A (setFlight (.ref a) X.env.frame) (fun _ r => wpAny (model X.prog X.w) X.A (throw (.ref a) : Sem Flow) Q X.xe r) X.xe s := by
    rw [hf]
    refine HandSPX.setFlight_upZ h3 fun g k1 k2 => wpAny_throw (tk (.ref a) _ ?_)
    refine ⟨a, B, z, pn, σ, H, cls, d, rfl, I, h1, h2.trans k2, ?_, na, h4, h5, w⟩
    rw [hs]
    exact .inr (.inr k1)
  first
    | exact wpAny_bind (wpAny_pure (wpAny_bind up))
    | exact wpAny_bind up
end
def Dy' (D : Ends) (i : Nat) : Ends := { nx := fun σ H => D.nx (σ.set i none) H, rt := D.rt, bk := fun σ H => D.bk (σ.set i none) H, ct := fun σ H => D.ct (σ.set i none) H }
def tAs (i : Nat) (ts : Addr -> Value -> Option Addr -> TS) : Addr -> Value -> Option Addr -> TS := fun a cls d D σ H => ts a cls d (Dy' D i) (σ.set i (some (.ref a))) H
inductive HdsN (X : Cx) : List ExceptHandler -> List (Value × (Addr -> Value -> Option Addr -> TS)) -> Prop
  | nil : HdsN X [] []
  | plain {x : Str} {c : Value} {ts : Addr -> Value -> Option Addr -> TS} {b : Stmt} {bs : List Stmt} {p q : Pos} {r : List ExceptHandler} {l : List (Value × (Addr -> Value -> Option Addr -> TS))} (hc : Names X x c)
      (h : ∀ (a : Addr) (oe : Obj) (cls : Value) (d : Option Addr) (pn : List (Addr × Obj)), Zc cls d oe -> (∃ vs, oe.data = .fields vs) -> PSs (X.suite a ((a, oe) :: pn)) (b :: bs) (ts a cls d)) : HdsN X r l →
      HdsN X (.ExceptHandler (some (.Name x p)) none (b :: bs) q :: r) ((c, ts) :: l)
  | named {x n : Str} {i : Nat} {c : Value} {ts : Addr -> Value -> Option Addr -> TS} {b : Stmt} {bs : List Stmt} {p q : Pos} {r : List ExceptHandler} {l : List (Value × (Addr -> Value -> Option Addr -> TS))} (hN : X.N.Nodup) (hi : X.N[i]? = some n) (hln : X.env.kindOf n = some .local) (hc : Names X x c)
      (h : ∀ (a : Addr) (oe : Obj) (cls : Value) (d : Option Addr) (pn : List (Addr × Obj)), Zc cls d oe -> (∃ vs, oe.data = .fields vs) -> PSs (X.suite a ((a, oe) :: pn)) (b :: bs) (ts a cls d)) : HdsN X r l →
      HdsN X (.ExceptHandler (some (.Name x p)) (some n) (b :: bs) q :: r) ((c, tAs i ts) :: l)
section
variable {X : Cx} {pn : List (Addr × Obj)} {a : Addr} {cls : Value} {d : Option Addr} {σ : St} {H : Hp} {s : Shared}
theorem Lay.asks {x : Str} {c : Value} {b : Bool} {nm : Option Str} {body : List Stmt} {p q : Pos} {r : List ExceptHandler} {Q : Flow -> Shared -> Prop} (y : Lay X pn a cls d σ H s) (hf : X.env.frame = some X.env.locals) (hc : Names X x c) (hb : PySem.W.exmOne X.K cls c = some b)
    (yes : b = true -> codeAny (model X.prog X.w) (X.A.mark (some (.ref a))) (.handlers (.ref a) [.ExceptHandler none nm body q] X.env) (fun o s₂ => match o with
          | .ok f => (match nm with
            | none => Q f s₂
            | some n => wpAny (model X.prog X.w) X.A (do bindName X.env n .none; unbindBehindTheSuite X.env n q) (fun _ s₃ => Q f s₃) X.xe s₂)
          | .error x => cameBackBy (model X.prog X.w) X.A X.env X.xe x s₂) s)
    (no : b = false -> wpAny (model X.prog X.w) X.A (handleBy (.ref a) X.env r) Q X.xe s) : wpAny (model X.prog X.w) X.A (handleBy (.ref a) X.env (.ExceptHandler (some (.Name x p)) nm body q :: r)) Q X.xe s := by
  obtain ⟨oe, e1, e2, e3, S⟩ := y.held hf
  have I := y.inv
  refine wpAny_handleBy_cons (codeAny_handlers_test ?_) (fun z => by cases z)
  have lt : PySem.W.Looks (model X.prog X.w) s.heap (typeOf (.ref a)) cls := fun A Q E s k q => wpAny_typeOf_ref (k _ _ e1) (by rw [e2.1]; exact q)
  have lm := PySem.W.exm_one (M := model X.prog X.w) I.kIn lt hb
  have ask : ∀ {Q E : Value -> Shared -> Prop}, Q c s -> wpAny (model X.prog X.w) (X.A.mark (some (.ref a))) (eval (.Name x p) X.env) Q E s := by
    intro Q E z
    obtain ⟨g1, g2, g3⟩ := hc
    rcases g3 with g3 | ⟨g3, g4, g5⟩
    . exact ld_glob (X := X.suite a ((a, oe) :: (X.pn ++ pn))) S g1 g3 z g2
    . exact ld_blt (X := X.suite a ((a, oe) :: (X.pn ++ pn))) S g1 g3 g4 z g5 g2
  refine ask (lm.here ?_)
  cases b with
  | false => exact no rfl
  | true => exact yes rfl
theorem Lay.run {W : WX} {D : Ends} (hs : X.stack = X.env :: X.outer) (hf : X.env.frame = some X.env.locals) (tk : Takes X W) {hds : List ExceptHandler} {l : List (Value × (Addr -> Value -> Option Addr -> TS))} (hh : HdsN X hds l) (y : Lay X pn a cls d σ H s) (w : wMany X.K W D l cls d σ H) :
    wpAny (model X.prog X.w) X.A (handleBy (.ref a) X.env hds) (SP X pn D) X.xe s := by
  have ok := y.inv.ok
  induction hh with
  | nil => exact y.out hs hf tk w
  | @plain x c ts b bs p q r l hc h _ ih =>
    obtain ⟨t, w1, w2, w3⟩ := w
    refine y.asks hf hc w1 (fun et => codeAny_handlers_suite (y.cool fun s2 y2 => ?_)) fun et => ih (w3 et)
    obtain ⟨oe, e1, e2, e3, S⟩ := y2.held hf
    refine wpAny_mono ((h a oe cls d (X.pn ++ pn) e2 e3).run [] s2 σ H D S (w2 et a y.na)) (fun f s3 z => ?_) (fun _ _ z => z.elim)
    cases f with
    | next =>
      obtain ⟨σ3, H3, S3, z⟩ := z
      exact ⟨σ3, H3, S3.unsuite ok, z⟩
    | brk =>
      obtain ⟨σ3, H3, S3, z⟩ := z
      exact ⟨σ3, H3, S3.unsuite ok, z⟩
    | cont =>
      obtain ⟨σ3, H3, S3, z⟩ := z
      exact ⟨σ3, H3, S3.unsuite ok, z⟩
    | ret u =>
      obtain ⟨v, σ3, H3, S3, z⟩ := z
      exact ⟨v, σ3, H3, S3.unsuite ok, z⟩
  | @named x n i c ts b bs p q r l hN hi hln hc h _ ih =>
    obtain ⟨t, w1, w2, w3⟩ := w
    refine y.asks hf hc w1 (fun et => codeAny_handlers_suite_as (y.cool fun s2 y2 => ?_)) fun et => ih (w3 et)
    obtain ⟨oe, e1, e2, e3, S⟩ := y2.held hf
    refine store_ok (X := X.suite a ((a, oe) :: (X.pn ++ pn))) (v := .ref a) S hN hi (.inl hln) rfl (fun s3 S3 => ?_) (.inr hln)
    refine wpAny_mono ((h a oe cls d (X.pn ++ pn) e2 e3).run [] s3 _ H _ S3 (w2 et a y.na)) (fun f s4 z => ?_) (fun _ _ z => z.elim)
    have gone : ∀ {σ4 : St} {H4 : Hp} {R : Shared -> Prop}, Inv (X.suite a ((a, oe) :: (X.pn ++ pn))) [] σ4 H4 s4 -> (∀ s5, Inv X pn (σ4.set i none) H4 s5 -> R s5) -> wpAny (model X.prog X.w) X.A (do bindName X.env n .none; unbindBehindTheSuite X.env n q) (fun _ s5 => R s5) X.xe s4 := by
      intro σ4 H4 R S4 k
      exact gone_ok (S4.unsuite ok) hN hi hln k
    cases f with
    | next =>
      obtain ⟨σ3, H3, S3, z⟩ := z
      exact gone S3 fun _ k => ⟨_, _, k, z⟩
    | brk =>
      obtain ⟨σ3, H3, S3, z⟩ := z
      exact gone S3 fun _ k => ⟨_, _, k, z⟩
    | cont =>
      obtain ⟨σ3, H3, S3, z⟩ := z
      exact gone S3 fun _ k => ⟨_, _, k, z⟩
    | ret u =>
      obtain ⟨v, σ3, H3, S3, z⟩ := z
      exact gone S3 fun _ k => ⟨_, _, _, k, z⟩
end
section
variable {X : Cx} {body : List Stmt} {h₀ : ExceptHandler} {hds : List ExceptHandler} {l : List (Value × (Addr -> Value -> Option Addr -> TS))} {pos : Pos} {tb : WX -> TS} {W : WX}
end
end L2
namespace S
open PySem PySem.Spec PyProof.Rows L2
variable [Wd]
section
variable {X : Cx} {W : WX} {D : Ends} {σ : St} {H : Hp} {F : Hp} {T : List Addr} {fr : Fp}
abbrev Hn := List (Option (Nat × Nat) × (String -> Option Bool) × (M.Exc -> M.MS))
inductive HdsMN (X : Cx) : List ExceptHandler -> Hn -> List (Value × (Addr -> Value -> Option Addr -> TS)) -> Prop
  | nil : HdsMN X [] [] []
  | plain {x : Str} {c : Value} {g : String -> Option Bool} {h : M.Exc -> M.MS} {b : Stmt} {bs : List Stmt} {p q : Pos} {r : List ExceptHandler} {l : Hn} {l' : List (Value × (Addr -> Value -> Option Addr -> TS))} (hc : Names X x c)
      (hg : ∀ y b, g y = some b -> PySem.W.exmOne X.K (.ref (He.ga X.K y)) c = some b)
      (hsu : ∀ (e : M.Exc) (a : Addr) (oe : Obj) (d : Option Addr) (pn : List (Addr × Obj)), Zc (.ref (He.ga X.K e.cls)) d oe -> (∃ vs, oe.data = .fields vs) -> SSs (X.suite a ((a, oe) :: pn)) W0 (b :: bs) (h e)) : HdsMN X r l l' →
      HdsMN X (.ExceptHandler (some (.Name x p)) none (b :: bs) q :: r) ((none, g, h) :: l) ((c, tsM X.K h) :: l')
  | named {x n : Str} {i m : Nat} {c : Value} {g : String -> Option Bool} {h : M.Exc -> M.MS} {b : Stmt} {bs : List Stmt} {p q : Pos} {r : List ExceptHandler} {l : Hn} {l' : List (Value × (Addr -> Value -> Option Addr -> TS))} (hN : X.N.Nodup) (hi : X.N[i]? = some n) (hln : X.env.kindOf n = some .local) (hc : Names X x c)
      (hg : ∀ y b, g y = some b -> PySem.W.exmOne X.K (.ref (He.ga X.K y)) c = some b)
      (hsu : ∀ (e : M.Exc) (a : Addr) (oe : Obj) (d : Option Addr) (pn : List (Addr × Obj)), Zc (.ref (He.ga X.K e.cls)) d oe -> (∃ vs, oe.data = .fields vs) -> @SSs _ (BF' a m d e) (X.suite a ((a, oe) :: pn)) W0 (b :: bs) (h e)) : HdsMN X r l l' →
      HdsMN X (.ExceptHandler (some (.Name x p)) (some n) (b :: bs) q :: r) ((some (i, m), g, h) :: l) ((c, tAs i (tsA [] X.K m h)) :: l')
theorem HdsMN.ok {hds : List ExceptHandler} {l : Hn} {l' : List (Value × (Addr -> Value -> Option Addr -> TS))} (h : HdsMN X hds l l') : HdsN X hds l' := by
  induction h with
  | nil => exact .nil
  | plain hc hg hsu r ih => exact .plain hc (mY' hsu) ih
  | named hN hi hln hc hg hsu r ih =>
    refine .named hN hi hln hc (fun a oe cls d pn hz hf => ⟨fun pins s σ H D I q => ?_⟩) ih
    obtain ⟨e, rfl, q⟩ := q
    exact (hsu e a oe d pn hz hf).run pins s σ H D I q
end
end S
namespace S
open PySem PySem.Spec PyProof.Rows L2
variable [Wd]
structure LamOk (P : Program) (w : World) (K : PySem.W.Frag) (mg : Str -> Option Value) (base : Heap) (k : Nat) (cl : List (Str × Addr)) (fr : List Str) (c : CloD) (U : M.MF) : Prop where
  isfn : ∀ h : Heap, h.get? c.f = some c.ob -> PySem.W.FnAt c.f h
  run : ∀ (A : Around) (outer : List Env) (s : Shared) (H : Hp) (us : List Value) (vs : List V) (Q : VK) (E : XK), RoomG k A -> Env0 P w K mg base A outer s H →
    NdefX.CellsAt cl fr (c.ws.map some) s.heap H -> Vals vs us →
    (∃ ds w' F T fp, FzA K F T vs ds /\ CloAt K F T c /\ sf' K w' H F T fp /\ xm' K Q E F T fp (U ds w')) -> codeAny (model P w) A (.call (.ref c.f) ⟨us, []⟩) (CR (L2.CX P w) outer P w H s Q E) s
theorem LamOk.mono {P : Program} {w : World} {K : PySem.W.Frag} {mg : Str -> Option Value} {base : Heap} {j k : Nat} {cl : List (Str × Addr)} {fr : List Str} {c : CloD} {U : M.MF} (h : LamOk P w K mg base j cl fr c U) (l : j <= k) : LamOk P w K mg base k cl fr c U :=
  ⟨h.isfn, fun A o s H us vs Q E hr => h.run A o s H us vs Q E (hr.mono l)⟩
section
variable {P : Program} {w : World} {K : PySem.W.Frag} {mg : Str -> Option Value} {base : Heap}
end
inductive ArgK (K : PySem.W.Frag) (F : Hp) (T : List Addr) : List Bool -> List V -> List M.D -> List CloD -> Prop
  | nil : ArgK K F T [] [] [] []
  | dat {m : List Bool} {v : V} {vs : List V} {d : M.D} {ds : List M.D} {cs : List CloD} : Fz K F T v d -> ArgK K F T m vs ds cs -> ArgK K F T (false :: m) (v :: vs) (d :: ds) cs
  | clo {m : List Bool} {vs : List V} {ds : List M.D} {c : CloD} {cs : List CloD} : CloAt K F T c -> ArgK K F T m vs ds cs -> ArgK K F T (true :: m) (.ref c.f :: vs) ds (c :: cs)
theorem ArgK.mono {K : PySem.W.Frag} {F F' : Hp} {T T' : List Addr} (e : Ext F T F' T') {m : List Bool} {vs : List V} {ds : List M.D} {cs : List CloD} (h : ArgK K F T m vs ds cs) : ArgK K F' T' m vs ds cs := by
  induction h with
  | nil => exact .nil
  | dat z _ ih => exact .dat (z.mono e) ih
  | clo z _ ih => exact .clo (z.mono e) ih
section
variable [Hot] {X : Cx} {W : WX} {k : Nat} {e : Expr} {es : List Expr} {a : M.ME} {as : List M.AK}
end
structure FnK (P : Program) (w : World) (K : PySem.W.Frag) (mg : Str -> Option Value) (base : Heap) (k : Nat) (f : Addr) (fd : FuncData) (ps : List Str) (kc : Nat) (mask : List Bool) (m : List M.MF -> M.MF) : Prop where
  len : mask.length = ps.length
  run : ∀ (A : Around) (outer : List Env) (s : Shared) (H : Hp) (args : Args) (us : List Value) (vs : List V) (Q : VK) (E : XK), RoomG k A -> Env0 P w K mg base A outer s H -> BindsTo s fd args (ps.zip us) -> Vals vs us →
    (∃ ds cs Us w' F T fr, ArgK K F T mask vs ds cs /\ Paired (fun c U => ∃ cl fr, LamOk P w K mg base kc cl fr c U /\ NdefX.CellsAt cl fr (c.ws.map some) s.heap H) cs Us /\ sf' K w' H F T fr /\ xm' K Q E F T fr (m Us ds w')) →
    codeAny (model P w) A (.call (.ref f) args) (CR (L2.CX P w) outer P w H s Q E) s
theorem ArgK.len {K : PySem.W.Frag} {F : Hp} {T : List Addr} {m : List Bool} {vs : List V} {ds : List M.D} {cs : List CloD} (h : ArgK K F T m vs ds cs) : vs.length = m.length := by
  induction h with
  | nil => rfl
  | dat _ _ ih => exact congrArg (· + 1) ih
  | clo _ _ ih => exact congrArg (· + 1) ih
def xp' : Nat -> List Bool -> List CloD -> List (Nat × CloD)
  | n, true :: m, c :: cs => (n - 1, c) :: xp' (n - 1) m cs
  | n, false :: m, cs => xp' (n - 1) m cs
  | _, _, _ => []
theorem RpE.offs [Hot] {K : PySem.W.Frag} {F : Hp} {T : List Addr} : ∀ r : Nat, RpE K F T (List.replicate r none) (List.replicate r none) []
  | 0 => .nil
  | r + 1 => .off (RpE.offs r)
theorem ArgK.start [Hot] {K : PySem.W.Frag} {F : Hp} {T : List Addr} {r : Nat} : ∀ {m : List Bool} {vs : List V} {ds : List M.D} {cs : List CloD}, ArgK K F T m vs ds cs -> (∀ i c, (i, c) ∈ xp' (m.length + r) m cs -> Hot.clo.lookup i = some c) →
    ∃ env, M.zp' m ds = some env /\ env.length = m.length /\ RpE K F T (vs.map some ++ List.replicate r none) (env ++ List.replicate r none) []
  | _, _, _, _, .nil, _ => ⟨[], rfl, rfl, RpE.offs r⟩
  | _, _, _, _, @ArgK.dat _ _ _ _ m v vs d ds cs z a, h => by
    obtain ⟨env, h1, h2, h3⟩ := ArgK.start (r := r) a fun i c hi => h i c (by
      show (i, c) ∈ xp' (m.length + 1 + r - 1) m cs
      rwa [show m.length + 1 + r - 1 = m.length + r by omega])
    exact ⟨some (.fz d) :: env, by show (M.zp' m ds).map _ = _; rw [h1]; rfl, congrArg (· + 1) h2, RpE.on (fp := []) (fq := []) (.fz z) h3⟩
  | _, _, _, _, @ArgK.clo _ _ _ _ m vs ds c cs z a, h => by
    have e1 : m.length + 1 + r - 1 = m.length + r := by omega
    obtain ⟨env, h1, h2, h3⟩ := ArgK.start (r := r) a fun i c' hi => h i c' (by
      show (i, c') ∈ (m.length + 1 + r - 1, c) :: xp' (m.length + 1 + r - 1) m cs
      rw [e1]
      exact List.mem_cons_of_mem _ hi)
    refine ⟨some .clo :: env, by show (M.zp' m ds).map _ = _; rw [h1]; rfl, congrArg (· + 1) h2, RpE.clo ?_ z h3⟩
    show Hot.clo.lookup (env ++ List.replicate r none).length = some c
    rw [List.length_append, List.length_replicate, h2]
    refine h _ c ?_
    show _ ∈ (m.length + 1 + r - 1, c) :: xp' (m.length + 1 + r - 1) m cs
    rw [e1]
    exact List.mem_cons_self
section
variable {P : Program} {w : World} {K : PySem.W.Frag} {mg : Str -> Option Value} {base : Heap}
end
section
variable [Hot] {X : Cx} {W : WX} {k kc : Nat} {x : Str} {ps : List Str} {p pos : Pos} {e : Expr} {es : List Expr} {as : List M.AK} {m : List M.MF -> M.MF}
end
section
variable [Hot] {X : Cx} {W : WX} {kc i : Nat} {x : Str} {p pos : Pos} {e : Expr} {es : List Expr} {as : M.MA} {U : M.MF}
end
end S
namespace S
open PySem PySem.Spec PyProof.Rows L2
variable [Wd] [Hot]
section
variable {K : PySem.W.Frag}
end
end S
namespace S
open PySem PySem.Spec PyProof.Rows L2
variable [Wd] [Hot]
section
variable {X : Cx} {W : WX} {pos p : Pos} {x : Str} {a : Expr} {σ : St} {H : Hp} {Q : VK}
end
end S
namespace S
open PySem PySem.Spec PyProof.Rows L2
variable [Wd] [Hot]
section
variable {K : PySem.W.Frag} {W : WX} {σ : St} {H : Hp} {D : Ends}
end
section
variable {X : Cx} {W : WX} {pos : Pos} {tg e : Expr} {body : List Stmt} {sl : List Nat} {a : M.ME} {g : M.MG} {m1 : M.MS}
end
end S
namespace S
open PySem PySem.Spec PyProof.Rows L2
variable [Wd] [Hot]
section
variable {K : PySem.W.Frag} {W : WX} {σ : St} {H : Hp} {D : Ends} {ρ : M.PSt} {F : Hp} {T : List Addr} {fr : Fp}
end
section
variable {X : Cx} {W : WX} {pos : Pos} {elt tg iter : Expr} {ifs : List Expr} {scope : Scope} {own : List (Str × Nat)} {sl : List Nat} {it : M.MI} {g : M.MG} {t : M.MT} {e : M.MO}
end
end S
namespace S
open PySem PySem.Spec PyProof.Rows L2
variable [Wd] [Hot]
section
variable {K : PySem.W.Frag} {W : WX} {σ : St} {H : Hp} {D : Ends} {ρ : M.PSt} {F : Hp} {T : List Addr} {fr : Fp}
theorem RpA.at' : ∀ {vs : List V} {os : List M.O} {fp : Fp} {j : Nat} {o : M.O}, RpA K F T vs os fp -> os[j]? = some o -> ∃ v fa fb fc, vs[j]? = some v /\ fp = fa ++ (fb ++ fc) /\ Rp K F T v o fb /\ ∀ o' fb', Rp K F T v o' fb' -> RpA K F T vs (os.set j o') (fa ++ (fb' ++ fc))
  | _, _, _, _, _, .nil, e => by cases e
  | _, _, _, 0, _, .cons (fp := fp) (fq := fq) h r, e => by
    have e := Option.some.inj e
    subst e
    refine ⟨_, [], fp, fq, rfl, rfl, h, fun o' fb' z => ?_⟩
    rw [List.nil_append]
    exact RpA.cons z r
  | _, _, _, j + 1, _, .cons (fp := fp) h r, e => by
    obtain ⟨v, fa, fb, fc, h1, h2, h3, h4⟩ := RpA.at' (j := j) r e
    subst h2
    refine ⟨v, fp ++ fa, fb, fc, h1, by simp, h3, fun o' fb' z => ?_⟩
    rw [List.append_assoc]
    exact .cons h (h4 o' fb' z)
end
section
variable {X : Cx} {W : WX} {pos px qx epos apos cpos : Pos} {tg a : Expr} {nm x : Str} {i r : Nat} {v : V} {d : M.D}
end
end S
namespace S
open PySem PySem.Spec PyProof.Rows L2
structure Ctx (w : World) (K : PySem.W.Frag) (mg : Str -> Option Value) : Prop where
  says : ∃ (h : Heap), He.SaysX fas fns tbs [] exK w h K
  inn : ∃ h : Heap, K.In h /\ h.Ns mainGlobals mg
section
variable [Wd] {w : World} {K : PySem.W.Frag} {mg : Str -> Option Value}
theorem Ctx.d (C : Ctx w K mg) : He.SaysD fas fns K := by
  obtain ⟨h, s⟩ := C.says
  exact s.t.d
theorem Ctx.more (C : Ctx w K mg) (i : Nat) {f : PySem.W.Frag -> Bool} (e : exs[i]? = some f) : f K = true := by
  obtain ⟨h, s⟩ := C.says
  exact List.all_eq_true.mp s.more f (List.mem_of_getElem? e)
theorem Ctx.glo (C : Ctx w K mg) {x : Str} (i : Nat) (h : fas[i]? = some (.glo x)) : mg x = some (.ref (He.ga K x)) := by
  obtain ⟨hp, X, G⟩ := C.inn
  exact He.glo_ok X G (C.d.fact i h)
theorem Ctx.g_is_integer (C : Ctx w K mg) : mg "is_integer" = some (.ref (He.ga K "is_integer")) := C.glo 0 rfl
theorem Ctx.g_is_string_of (C : Ctx w K mg) : mg "is_string_of" = some (.ref (He.ga K "is_string_of")) := C.glo 1 rfl
theorem Ctx.g_is_ascending (C : Ctx w K mg) : mg "is_ascending" = some (.ref (He.ga K "is_ascending")) := C.glo 2 rfl
theorem Ctx.g_is_choice (C : Ctx w K mg) : mg "is_choice" = some (.ref (He.ga K "is_choice")) := C.glo 3 rfl
theorem Ctx.g_is_word (C : Ctx w K mg) : mg "is_word" = some (.ref (He.ga K "is_word")) := C.glo 4 rfl
theorem Ctx.g_are_states (C : Ctx w K mg) : mg "are_states" = some (.ref (He.ga K "are_states")) := C.glo 5 rfl
theorem Ctx.g_is_table (C : Ctx w K mg) : mg "is_table" = some (.ref (He.ga K "is_table")) := C.glo 6 rfl
theorem Ctx.g_led (C : Ctx w K mg) : mg "led" = some (.ref (He.ga K "led")) := C.glo 7 rfl
theorem Ctx.g_reached (C : Ctx w K mg) : mg "reached" = some (.ref (He.ga K "reached")) := C.glo 8 rfl
theorem Ctx.g_numbered (C : Ctx w K mg) : mg "numbered" = some (.ref (He.ga K "numbered")) := C.glo 9 rfl
theorem Ctx.g_alike_states (C : Ctx w K mg) : mg "alike_states" = some (.ref (He.ga K "alike_states")) := C.glo 10 rfl
theorem Ctx.g_least (C : Ctx w K mg) : mg "least" = some (.ref (He.ga K "least")) := C.glo 11 rfl
theorem Ctx.g_parting (C : Ctx w K mg) : mg "parting" = some (.ref (He.ga K "parting")) := C.glo 12 rfl
theorem Ctx.g_pairs_of (C : Ctx w K mg) : mg "pairs_of" = some (.ref (He.ga K "pairs_of")) := C.glo 13 rfl
theorem Ctx.g_first_words (C : Ctx w K mg) : mg "first_words" = some (.ref (He.ga K "first_words")) := C.glo 14 rfl
theorem Ctx.g_begun_at (C : Ctx w K mg) : mg "begun_at" = some (.ref (He.ga K "begun_at")) := C.glo 15 rfl
theorem Ctx.g_swap (C : Ctx w K mg) : mg "swap" = some (.ref (He.ga K "swap")) := C.glo 16 rfl
theorem Ctx.g_is_letter (C : Ctx w K mg) : mg "is_letter" = some (.ref (He.ga K "is_letter")) := C.glo 17 rfl
theorem Ctx.g_is_swap_form (C : Ctx w K mg) : mg "is_swap_form" = some (.ref (He.ga K "is_swap_form")) := C.glo 18 rfl
theorem Ctx.g_swap_fault (C : Ctx w K mg) : mg "swap_fault" = some (.ref (He.ga K "swap_fault")) := C.glo 19 rfl
theorem Ctx.g__law_hand (C : Ctx w K mg) : mg "_law_hand" = some (.ref (He.ga K "_law_hand")) := C.glo 20 rfl
theorem Ctx.g__law_draw (C : Ctx w K mg) : mg "_law_draw" = some (.ref (He.ga K "_law_draw")) := C.glo 21 rfl
theorem Ctx.g__law_letters (C : Ctx w K mg) : mg "_law_letters" = some (.ref (He.ga K "_law_letters")) := C.glo 22 rfl
theorem Ctx.g__law_rows (C : Ctx w K mg) : mg "_law_rows" = some (.ref (He.ga K "_law_rows")) := C.glo 23 rfl
theorem Ctx.g__law_shuffled (C : Ctx w K mg) : mg "_law_shuffled" = some (.ref (He.ga K "_law_shuffled")) := C.glo 24 rfl
theorem Ctx.g__law_parts (C : Ctx w K mg) : mg "_law_parts" = some (.ref (He.ga K "_law_parts")) := C.glo 25 rfl
theorem Ctx.g__law_says (C : Ctx w K mg) : mg "_law_says" = some (.ref (He.ga K "_law_says")) := C.glo 26 rfl
theorem Ctx.g__law_word (C : Ctx w K mg) : mg "_law_word" = some (.ref (He.ga K "_law_word")) := C.glo 27 rfl
theorem Ctx.g__law_is_word (C : Ctx w K mg) : mg "_law_is_word" = some (.ref (He.ga K "_law_is_word")) := C.glo 28 rfl
theorem Ctx.g__law_due (C : Ctx w K mg) : mg "_law_due" = some (.ref (He.ga K "_law_due")) := C.glo 29 rfl
theorem Ctx.g__law_spoiled (C : Ctx w K mg) : mg "_law_spoiled" = some (.ref (He.ga K "_law_spoiled")) := C.glo 30 rfl
theorem Ctx.g_law (C : Ctx w K mg) : mg "law" = some (.ref (He.ga K "law")) := C.glo 31 rfl
theorem Ctx.g_OtherLetters (C : Ctx w K mg) : mg "OtherLetters" = some (.ref (He.ga K "OtherLetters")) := C.glo 34 rfl
theorem Ctx.x_OtherLetters (C : Ctx w K mg) : PySem.W.excIn K (He.ga K "OtherLetters") He.veBase "ValueError.__new__" = true := (He.exc_ok (C.d.fact 35 rfl)).1
theorem Ctx.k_OtherLetters (C : Ctx w K mg) : PySem.W.keepIn K (.ref (He.ga K "OtherLetters")) = true := (He.exc_ok (C.d.fact 35 rfl)).2.1
theorem Ctx.r_OtherLetters (C : Ctx w K mg) {X : Cx} (e : X.K = K := by rfl) : Raises X (.ref (He.ga K "OtherLetters")) := by subst e; exact raises_own (He.exc_ok (C.d.fact 35 rfl)).2.2.1 (He.exc_ok (C.d.fact 35 rfl)).2.2.2
theorem Ctx.g_Machine (C : Ctx w K mg) : mg "Machine" = some (.ref (He.ga K "Machine")) := C.glo 37 rfl
theorem Ctx.g_RawMachine (C : Ctx w K mg) : mg "RawMachine" = some (.ref (He.ga K "RawMachine")) := C.glo 38 rfl
theorem Ctx.c_SMALL (C : Ctx w K mg) : ∃ t, mg "SMALL" = some (.str "abcdefghijklmnopqrstuvwxyz" t) := by obtain ⟨h, X, G⟩ := C.inn; exact He.str_ok X G (C.d.fact 39 rfl)
theorem Ctx.free_zip (C : Ctx w K mg) : mg "zip" = none := by obtain ⟨h, X, G⟩ := C.inn; exact He.free_ok X G (C.d.fact 40 rfl)
theorem Ctx.free_tuple (C : Ctx w K mg) : mg "tuple" = none := by obtain ⟨h, X, G⟩ := C.inn; exact He.free_ok X G (C.d.fact 41 rfl)
theorem Ctx.free_range (C : Ctx w K mg) : mg "range" = none := by obtain ⟨h, X, G⟩ := C.inn; exact He.free_ok X G (C.d.fact 42 rfl)
theorem Ctx.free_list (C : Ctx w K mg) : mg "list" = none := by obtain ⟨h, X, G⟩ := C.inn; exact He.free_ok X G (C.d.fact 43 rfl)
theorem Ctx.free_isinstance (C : Ctx w K mg) : mg "isinstance" = none := by obtain ⟨h, X, G⟩ := C.inn; exact He.free_ok X G (C.d.fact 44 rfl)
theorem Ctx.free_int (C : Ctx w K mg) : mg "int" = none := by obtain ⟨h, X, G⟩ := C.inn; exact He.free_ok X G (C.d.fact 45 rfl)
theorem Ctx.free_str (C : Ctx w K mg) : mg "str" = none := by obtain ⟨h, X, G⟩ := C.inn; exact He.free_ok X G (C.d.fact 46 rfl)
theorem Ctx.free_len (C : Ctx w K mg) : mg "len" = none := by obtain ⟨h, X, G⟩ := C.inn; exact He.free_ok X G (C.d.fact 47 rfl)
theorem Ctx.free_max (C : Ctx w K mg) : mg "max" = none := by obtain ⟨h, X, G⟩ := C.inn; exact He.free_ok X G (C.d.fact 48 rfl)
theorem Ctx.free_sorted (C : Ctx w K mg) : mg "sorted" = none := by obtain ⟨h, X, G⟩ := C.inn; exact He.free_ok X G (C.d.fact 49 rfl)
theorem Ctx.free_enumerate (C : Ctx w K mg) : mg "enumerate" = none := by obtain ⟨h, X, G⟩ := C.inn; exact He.free_ok X G (C.d.fact 50 rfl)
theorem Ctx.free_abs (C : Ctx w K mg) : mg "abs" = none := by obtain ⟨h, X, G⟩ := C.inn; exact He.free_ok X G (C.d.fact 51 rfl)
theorem Ctx.free_all (C : Ctx w K mg) : mg "all" = none := by obtain ⟨h, X, G⟩ := C.inn; exact He.free_ok X G (C.d.fact 52 rfl)
theorem Ctx.free_repr (C : Ctx w K mg) : mg "repr" = none := by obtain ⟨h, X, G⟩ := C.inn; exact He.free_ok X G (C.d.fact 53 rfl)
theorem Ctx.free_bool (C : Ctx w K mg) : mg "bool" = none := by obtain ⟨h, X, G⟩ := C.inn; exact He.free_ok X G (C.d.fact 54 rfl)
theorem Ctx.free_min (C : Ctx w K mg) : mg "min" = none := by obtain ⟨h, X, G⟩ := C.inn; exact He.free_ok X G (C.d.fact 55 rfl)
theorem Ctx.cl_Machine (C : Ctx w K mg) : Cls K (He.ga K "Machine") := He.cls_ok (C.d.fact 56 rfl)
theorem Ctx.n_Machine_kept_letters (C : Ctx w K mg) : NoAttr K (He.ga K "Machine") "kept_letters" := He.noat_ok (C.d.fact 57 rfl)
theorem Ctx.n_Machine_kept_table (C : Ctx w K mg) : NoAttr K (He.ga K "Machine") "kept_table" := He.noat_ok (C.d.fact 58 rfl)
theorem Ctx.n_Machine_kept_accepts (C : Ctx w K mg) : NoAttr K (He.ga K "Machine") "kept_accepts" := He.noat_ok (C.d.fact 59 rfl)
theorem Ctx.n_Machine_kept_least (C : Ctx w K mg) : NoAttr K (He.ga K "Machine") "kept_least" := He.noat_ok (C.d.fact 60 rfl)
theorem Ctx.n_Machine_kept_field (C : Ctx w K mg) : NoAttr K (He.ga K "Machine") "kept_field" := He.noat_ok (C.d.fact 61 rfl)
theorem Ctx.n_Machine_kept_lots (C : Ctx w K mg) : NoAttr K (He.ga K "Machine") "kept_lots" := He.noat_ok (C.d.fact 62 rfl)
theorem Ctx.n_Machine_kept_more (C : Ctx w K mg) : NoAttr K (He.ga K "Machine") "kept_more" := He.noat_ok (C.d.fact 63 rfl)
theorem Ctx.mk_Machine (C : Ctx w K mg) : Mk K (He.ga K "Machine") (He.ma K (He.ga K "Machine") "__init__") := He.mkr_ok (C.d.fact 64 rfl)
theorem Ctx.cl_RawMachine (C : Ctx w K mg) : Cls K (He.ga K "RawMachine") := He.cls_ok (C.d.fact 65 rfl)
theorem Ctx.n_RawMachine_kept_letters (C : Ctx w K mg) : NoAttr K (He.ga K "RawMachine") "kept_letters" := He.noat_ok (C.d.fact 66 rfl)
theorem Ctx.n_RawMachine_kept_table (C : Ctx w K mg) : NoAttr K (He.ga K "RawMachine") "kept_table" := He.noat_ok (C.d.fact 67 rfl)
theorem Ctx.n_RawMachine_kept_accepts (C : Ctx w K mg) : NoAttr K (He.ga K "RawMachine") "kept_accepts" := He.noat_ok (C.d.fact 68 rfl)
theorem Ctx.n_RawMachine_kept_least (C : Ctx w K mg) : NoAttr K (He.ga K "RawMachine") "kept_least" := He.noat_ok (C.d.fact 69 rfl)
theorem Ctx.n_RawMachine_kept_field (C : Ctx w K mg) : NoAttr K (He.ga K "RawMachine") "kept_field" := He.noat_ok (C.d.fact 70 rfl)
theorem Ctx.n_RawMachine_kept_lots (C : Ctx w K mg) : NoAttr K (He.ga K "RawMachine") "kept_lots" := He.noat_ok (C.d.fact 71 rfl)
theorem Ctx.n_RawMachine_kept_more (C : Ctx w K mg) : NoAttr K (He.ga K "RawMachine") "kept_more" := He.noat_ok (C.d.fact 72 rfl)
theorem Ctx.mk_RawMachine (C : Ctx w K mg) : Mk K (He.ga K "RawMachine") (He.ma K (He.ga K "RawMachine") "__init__") := He.mkr_ok (C.d.fact 73 rfl)
theorem Ctx.ml_Machine_keep (C : Ctx w K mg) : xn' K ["Machine", "RawMachine"] "keep" (He.ma K (He.ga K "Machine") "keep") := by
  intro c h
  rcases List.mem_cons.mp h with rfl | h
  . exact ⟨C.cl_Machine, He.meth_ok (C.d.fact 74 rfl)⟩
  rcases List.mem_cons.mp h with rfl | h
  . have e := of_decide_eq_true (C.more 0 rfl)
    refine ⟨C.cl_RawMachine, ?_⟩
    rw [<- e]
    exact He.meth_ok (C.d.fact 75 rfl)
  cases h
theorem Ctx.at_kept_letters (C : Ctx w K mg) : ∀ c ∈ ["Machine", "RawMachine"], Cls K (He.ga K (Str.ofString c)) /\ NoAttr K (He.ga K (Str.ofString c)) (Str.ofString "kept_letters") := by
  intro c h
  rcases List.mem_cons.mp h with rfl | h
  . exact ⟨C.cl_Machine, C.n_Machine_kept_letters⟩
  rcases List.mem_cons.mp h with rfl | h
  . exact ⟨C.cl_RawMachine, C.n_RawMachine_kept_letters⟩
  cases h
theorem Ctx.at_kept_table (C : Ctx w K mg) : ∀ c ∈ ["Machine", "RawMachine"], Cls K (He.ga K (Str.ofString c)) /\ NoAttr K (He.ga K (Str.ofString c)) (Str.ofString "kept_table") := by
  intro c h
  rcases List.mem_cons.mp h with rfl | h
  . exact ⟨C.cl_Machine, C.n_Machine_kept_table⟩
  rcases List.mem_cons.mp h with rfl | h
  . exact ⟨C.cl_RawMachine, C.n_RawMachine_kept_table⟩
  cases h
theorem Ctx.at_kept_accepts (C : Ctx w K mg) : ∀ c ∈ ["Machine", "RawMachine"], Cls K (He.ga K (Str.ofString c)) /\ NoAttr K (He.ga K (Str.ofString c)) (Str.ofString "kept_accepts") := by
  intro c h
  rcases List.mem_cons.mp h with rfl | h
  . exact ⟨C.cl_Machine, C.n_Machine_kept_accepts⟩
  rcases List.mem_cons.mp h with rfl | h
  . exact ⟨C.cl_RawMachine, C.n_RawMachine_kept_accepts⟩
  cases h
theorem Ctx.at_kept_least (C : Ctx w K mg) : ∀ c ∈ ["Machine", "RawMachine"], Cls K (He.ga K (Str.ofString c)) /\ NoAttr K (He.ga K (Str.ofString c)) (Str.ofString "kept_least") := by
  intro c h
  rcases List.mem_cons.mp h with rfl | h
  . exact ⟨C.cl_Machine, C.n_Machine_kept_least⟩
  rcases List.mem_cons.mp h with rfl | h
  . exact ⟨C.cl_RawMachine, C.n_RawMachine_kept_least⟩
  cases h
theorem Ctx.at_kept_field (C : Ctx w K mg) : ∀ c ∈ ["Machine", "RawMachine"], Cls K (He.ga K (Str.ofString c)) /\ NoAttr K (He.ga K (Str.ofString c)) (Str.ofString "kept_field") := by
  intro c h
  rcases List.mem_cons.mp h with rfl | h
  . exact ⟨C.cl_Machine, C.n_Machine_kept_field⟩
  rcases List.mem_cons.mp h with rfl | h
  . exact ⟨C.cl_RawMachine, C.n_RawMachine_kept_field⟩
  cases h
theorem Ctx.at_kept_lots (C : Ctx w K mg) : ∀ c ∈ ["Machine", "RawMachine"], Cls K (He.ga K (Str.ofString c)) /\ NoAttr K (He.ga K (Str.ofString c)) (Str.ofString "kept_lots") := by
  intro c h
  rcases List.mem_cons.mp h with rfl | h
  . exact ⟨C.cl_Machine, C.n_Machine_kept_lots⟩
  rcases List.mem_cons.mp h with rfl | h
  . exact ⟨C.cl_RawMachine, C.n_RawMachine_kept_lots⟩
  cases h
theorem Ctx.at_kept_more (C : Ctx w K mg) : ∀ c ∈ ["Machine", "RawMachine"], Cls K (He.ga K (Str.ofString c)) /\ NoAttr K (He.ga K (Str.ofString c)) (Str.ofString "kept_more") := by
  intro c h
  rcases List.mem_cons.mp h with rfl | h
  . exact ⟨C.cl_Machine, C.n_Machine_kept_more⟩
  rcases List.mem_cons.mp h with rfl | h
  . exact ⟨C.cl_RawMachine, C.n_RawMachine_kept_more⟩
  cases h
theorem Ctx.f_is_integer (C : Ctx w K mg) : ∃ fd, FunD K "is_integer" "is_integer" (defArgs a5') (defBody a5') (defScope a5') [] [] (He.ga K "is_integer") fd := C.d.def_ 0 (d := eu') rfl
theorem kr' {f : Addr} {fd : FuncData} (F : FunD K "is_integer" "is_integer" (defArgs a5') (defBody a5') (defScope a5') [] [] f fd) : Binds K fd ["thing"] [] := F.bindsN fun _ _ _ _ _ _ us hl => match us, hl with | [_], _ => rfl
theorem Ctx.f_is_string_of (C : Ctx w K mg) : ∃ fd, FunD K "is_string_of" "is_string_of" (defArgs aJ') (defBody aJ') (defScope aJ') [] [] (He.ga K "is_string_of") fd := C.d.def_ 1 (d := ds') rfl
theorem gW' {f : Addr} {fd : FuncData} (F : FunD K "is_string_of" "is_string_of" (defArgs aJ') (defBody aJ') (defScope aJ') [] [] f fd) : Binds K fd ["thing", "signs"] [] := F.bindsN fun _ _ _ _ _ _ us hl => match us, hl with | [_, _], _ => rfl
theorem Ctx.f_is_ascending (C : Ctx w K mg) : ∃ fd, FunD K "is_ascending" "is_ascending" (defArgs aK') (defBody aK') (defScope aK') [] [] (He.ga K "is_ascending") fd := C.d.def_ 2 (d := dt') rfl
theorem gX' {f : Addr} {fd : FuncData} (F : FunD K "is_ascending" "is_ascending" (defArgs aK') (defBody aK') (defScope aK') [] [] f fd) : Binds K fd ["thing"] [] := F.bindsN fun _ _ _ _ _ _ us hl => match us, hl with | [_], _ => rfl
theorem Ctx.f_is_choice (C : Ctx w K mg) : ∃ fd, FunD K "is_choice" "is_choice" (defArgs bh') (defBody bh') (defScope bh') [] [] (He.ga K "is_choice") fd := C.d.def_ 3 (d := fg') rfl
theorem lF' {f : Addr} {fd : FuncData} (F : FunD K "is_choice" "is_choice" (defArgs bh') (defBody bh') (defScope bh') [] [] f fd) : Binds K fd ["thing", "signs"] [] := F.bindsN fun _ _ _ _ _ _ us hl => match us, hl with | [_, _], _ => rfl
theorem Ctx.f_is_word (C : Ctx w K mg) : ∃ fd, FunD K "is_word" "is_word" (defArgs bJ') (defBody bJ') (defScope bJ') [] [] (He.ga K "is_word") fd := C.d.def_ 4 (d := hQ') rfl
theorem r0' {f : Addr} {fd : FuncData} (F : FunD K "is_word" "is_word" (defArgs bJ') (defBody bJ') (defScope bJ') [] [] f fd) : Binds K fd ["machine", "thing"] [] := F.bindsN fun _ _ _ _ _ _ us hl => match us, hl with | [_, _], _ => rfl
theorem Ctx.f_are_states (C : Ctx w K mg) : ∃ fd, FunD K "are_states" "are_states" (defArgs a6') (defBody a6') (defScope a6') [] [] (He.ga K "are_states") fd := C.d.def_ 5 (d := ev') rfl
theorem kt' {f : Addr} {fd : FuncData} (F : FunD K "are_states" "are_states" (defArgs a6') (defBody a6') (defScope a6') [] [] f fd) : Binds K fd ["thing", "many"] [] := F.bindsN fun _ _ _ _ _ _ us hl => match us, hl with | [_, _], _ => rfl
theorem Ctx.f_is_table (C : Ctx w K mg) : ∃ fd, FunD K "is_table" "is_table" (defArgs by') (defBody by') (defScope by') [] [] (He.ga K "is_table") fd := C.d.def_ 6 (d := gF') rfl
theorem oN' {f : Addr} {fd : FuncData} (F : FunD K "is_table" "is_table" (defArgs by') (defBody by') (defScope by') [] [] f fd) : Binds K fd ["thing", "letters"] [] := F.bindsN fun _ _ _ _ _ _ us hl => match us, hl with | [_, _], _ => rfl
theorem Ctx.f_Machine___init__ (C : Ctx w K mg) : ∃ fd, FunD K "__init__" "Machine.__init__" (defArgs ap') (defBody ap') (defScope ap') [] [] (He.ma K (He.ga K "Machine") "__init__") fd := C.d.def_ 7 (d := cu') rfl
theorem ex' {f : Addr} {fd : FuncData} (F : FunD K "__init__" "Machine.__init__" (defArgs ap') (defBody ap') (defScope ap') [] [] f fd) : Binds K fd ["self", "letters", "table", "accepts"] [] := F.bindsN fun _ _ _ _ _ _ us hl => match us, hl with | [_, _, _, _], _ => rfl
theorem Ctx.f_Machine_keep (C : Ctx w K mg) : ∃ fd, FunD K "keep" "Machine.keep" (defArgs aN') (defBody aN') (defScope aN') [] [] (He.ma K (He.ga K "Machine") "keep") fd := C.d.def_ 8 (d := dy') rfl
theorem g2' {f : Addr} {fd : FuncData} (F : FunD K "keep" "Machine.keep" (defArgs aN') (defBody aN') (defScope aN') [] [] f fd) : Binds K fd ["self", "letters", "table", "accepts"] [] := F.bindsN fun _ _ _ _ _ _ us hl => match us, hl with | [_, _, _, _], _ => rfl
theorem Ctx.f_RawMachine___init__ (C : Ctx w K mg) : ∃ fd, FunD K "__init__" "RawMachine.__init__" (defArgs ak') (defBody ak') (defScope ak') [] [] (He.ma K (He.ga K "RawMachine") "__init__") fd := C.d.def_ 9 (d := b5') rfl
theorem dz' {f : Addr} {fd : FuncData} (F : FunD K "__init__" "RawMachine.__init__" (defArgs ak') (defBody ak') (defScope ak') [] [] f fd) : Binds K fd ["self", "letters", "table", "accepts"] [] := F.bindsN fun _ _ _ _ _ _ us hl => match us, hl with | [_, _, _, _], _ => rfl
theorem Ctx.f_led (C : Ctx w K mg) : ∃ fd, FunD K "led" "led" (defArgs gR') (defBody gR') (defScope gR') [] [] (He.ga K "led") fd := C.d.def_ 10 (d := uT') rfl
theorem CC' {f : Addr} {fd : FuncData} (F : FunD K "led" "led" (defArgs gR') (defBody gR') (defScope gR') [] [] f fd) : Binds K fd ["machine", "state", "word"] [] := F.bindsN fun _ _ _ _ _ _ us hl => match us, hl with | [_, _, _], _ => rfl
theorem Ctx.f_reached (C : Ctx w K mg) : ∃ fd, FunD K "reached" "reached" (defArgs bH') (defBody bH') (defScope bH') [] [] (He.ga K "reached") fd := C.d.def_ 11 (d := hN') rfl
theorem rY' {f : Addr} {fd : FuncData} (F : FunD K "reached" "reached" (defArgs bH') (defBody bH') (defScope bH') [] [] f fd) : Binds K fd ["machine"] [] := F.bindsN fun _ _ _ _ _ _ us hl => match us, hl with | [_], _ => rfl
theorem Ctx.f_numbered (C : Ctx w K mg) : ∃ fd, FunD K "numbered" "numbered" (defArgs bx') (defBody bx') (defScope bx') [] [] (He.ga K "numbered") fd := C.d.def_ 12 (d := gE') rfl
theorem oM' {f : Addr} {fd : FuncData} (F : FunD K "numbered" "numbered" (defArgs bx') (defBody bx') (defScope bx') [] [] f fd) : Binds K fd ["keys"] [] := F.bindsN fun _ _ _ _ _ _ us hl => match us, hl with | [_], _ => rfl
theorem Ctx.f_alike_states (C : Ctx w K mg) : ∃ fd, FunD K "alike_states" "alike_states" (defArgs ax') (defBody ax') (defScope ax') [] [] (He.ga K "alike_states") fd := C.d.def_ 13 (d := du') rfl
theorem gY' {f : Addr} {fd : FuncData} (F : FunD K "alike_states" "alike_states" (defArgs ax') (defBody ax') (defScope ax') [] [] f fd) : Binds K fd ["machine", "states"] [] := F.bindsN fun _ _ _ _ _ _ us hl => match us, hl with | [_, _], _ => rfl
theorem Ctx.f_least (C : Ctx w K mg) : ∃ fd, FunD K "least" "least" (defArgs cc') (defBody cc') (defScope cc') [] [] (He.ga K "least") fd := C.d.def_ 14 (d := nQ') rfl
theorem xh' {f : Addr} {fd : FuncData} (F : FunD K "least" "least" (defArgs cc') (defBody cc') (defScope cc') [] [] f fd) : Binds K fd ["machine"] [] := F.bindsN fun _ _ _ _ _ _ us hl => match us, hl with | [_], _ => rfl
theorem Ctx.f_parting (C : Ctx w K mg) : ∃ fd, FunD K "parting" "parting" (defArgs bI') (defBody bI') (defScope bI') [] [] (He.ga K "parting") fd := C.d.def_ 15 (d := hO') rfl
theorem rZ' {f : Addr} {fd : FuncData} (F : FunD K "parting" "parting" (defArgs bI') (defBody bI') (defScope bI') [] [] f fd) : Binds K fd ["one", "other"] [] := F.bindsN fun _ _ _ _ _ _ us hl => match us, hl with | [_, _], _ => rfl
theorem Ctx.f_pairs_of (C : Ctx w K mg) : ∃ fd, FunD K "pairs_of" "pairs_of" (defArgs bn') (defBody bn') (defScope bn') [] [] (He.ga K "pairs_of") fd := C.d.def_ 16 (d := gD') rfl
theorem oL' {f : Addr} {fd : FuncData} (F : FunD K "pairs_of" "pairs_of" (defArgs bn') (defBody bn') (defScope bn') [] [] f fd) : Binds K fd ["letters"] [] := F.bindsN fun _ _ _ _ _ _ us hl => match us, hl with | [_], _ => rfl
theorem Ctx.f_first_words (C : Ctx w K mg) : ∃ fd, FunD K "first_words" "first_words" (defArgs aU') (defBody aU') (defScope aU') [] [] (He.ga K "first_words") fd := C.d.def_ 17 (d := dT') rfl
theorem iG' {f : Addr} {fd : FuncData} (F : FunD K "first_words" "first_words" (defArgs aU') (defBody aU') (defScope aU') [] [] f fd) : Binds K fd ["machine"] [] := F.bindsN fun _ _ _ _ _ _ us hl => match us, hl with | [_], _ => rfl
theorem Ctx.f_begun_at (C : Ctx w K mg) : ∃ fd, FunD K "begun_at" "begun_at" (defArgs aX') (defBody aX') (defScope aX') [] [] (He.ga K "begun_at") fd := C.d.def_ 18 (d := gG') rfl
theorem oO' {f : Addr} {fd : FuncData} (F : FunD K "begun_at" "begun_at" (defArgs aX') (defBody aX') (defScope aX') [] [] f fd) : Binds K fd ["machine", "state"] [] := F.bindsN fun _ _ _ _ _ _ us hl => match us, hl with | [_, _], _ => rfl
theorem Ctx.f_swap (C : Ctx w K mg) : ∃ fd, FunD K "swap" "swap" (defArgs dR') (defBody dR') (defScope dR') [] [] (He.ga K "swap") fd := C.d.def_ 19 (d := rI') rfl
theorem Ah' {f : Addr} {fd : FuncData} (F : FunD K "swap" "swap" (defArgs dR') (defBody dR') (defScope dR') [] [] f fd) : Binds K fd ["machine"] [] := F.bindsN fun _ _ _ _ _ _ us hl => match us, hl with | [_], _ => rfl
theorem Ctx.f_is_letter (C : Ctx w K mg) : ∃ fd, FunD K "is_letter" "is_letter" (defArgs bg') (defBody bg') (defScope bg') [] [] (He.ga K "is_letter") fd := C.d.def_ 20 (d := ff') rfl
theorem lE' {f : Addr} {fd : FuncData} (F : FunD K "is_letter" "is_letter" (defArgs bg') (defBody bg') (defScope bg') [] [] f fd) : Binds K fd ["machine", "thing"] [] := F.bindsN fun _ _ _ _ _ _ us hl => match us, hl with | [_, _], _ => rfl
theorem Ctx.f_is_swap_form (C : Ctx w K mg) : ∃ fd, FunD K "is_swap_form" "is_swap_form" (defArgs aI') (defBody aI') (defScope aI') [] [] (He.ga K "is_swap_form") fd := C.d.def_ 21 (d := dr') rfl
theorem gV' {f : Addr} {fd : FuncData} (F : FunD K "is_swap_form" "is_swap_form" (defArgs aI') (defBody aI') (defScope aI') [] [] f fd) : Binds K fd ["machine", "thing"] [] := F.bindsN fun _ _ _ _ _ _ us hl => match us, hl with | [_, _], _ => rfl
theorem Ctx.f_swap_fault (C : Ctx w K mg) : ∃ fd, FunD K "swap_fault" "swap_fault" (defArgs a4') (defBody a4') (defScope a4') [] [] (He.ga K "swap_fault") fd := C.d.def_ 22 (d := et') rfl
theorem kq' {f : Addr} {fd : FuncData} (F : FunD K "swap_fault" "swap_fault" (defArgs a4') (defBody a4') (defScope a4') [] [] f fd) : Binds K fd ["machine", "thing"] [] := F.bindsN fun _ _ _ _ _ _ us hl => match us, hl with | [_, _], _ => rfl
theorem Ctx.f__law_hand (C : Ctx w K mg) : ∃ fd, FunD K "_law_hand" "_law_hand" (defArgs ba') (defBody ba') (defScope ba') [] [] (He.ga K "_law_hand") fd := C.d.def_ 23 (d := fk') rfl
theorem lJ' {f : Addr} {fd : FuncData} (F : FunD K "_law_hand" "_law_hand" (defArgs ba') (defBody ba') (defScope ba') [] [] f fd) : Binds K fd ["_law_script"] [] := F.bindsN fun _ _ _ _ _ _ us hl => match us, hl with | [_], _ => rfl
theorem Ctx.f__law_draw (C : Ctx w K mg) : ∃ fd, FunD K "_law_draw" "_law_draw" (defArgs bk') (defBody bk') (defScope bk') [] [] (He.ga K "_law_draw") fd := C.d.def_ 24 (d := fl') rfl
theorem lK' {f : Addr} {fd : FuncData} (F : FunD K "_law_draw" "_law_draw" (defArgs bk') (defBody bk') (defScope bk') [] [] f fd) : Binds K fd ["_law_hand_here", "_law_many"] [] := F.bindsN fun _ _ _ _ _ _ us hl => match us, hl with | [_, _], _ => rfl
theorem Ctx.f__law_letters (C : Ctx w K mg) : ∃ fd, FunD K "_law_letters" "_law_letters" (defArgs aM') (defBody aM') (defScope aM') [] [] (He.ga K "_law_letters") fd := C.d.def_ 25 (d := dw') rfl
theorem g0' {f : Addr} {fd : FuncData} (F : FunD K "_law_letters" "_law_letters" (defArgs aM') (defBody aM') (defScope aM') [] [] f fd) : Binds K fd ["_law_hand_here", "_law_signs", "_law_many"] [] := F.bindsN fun _ _ _ _ _ _ us hl => match us, hl with | [_, _, _], _ => rfl
theorem Ctx.f__law_rows (C : Ctx w K mg) : ∃ fd, FunD K "_law_rows" "_law_rows" (defArgs aY') (defBody aY') (defScope aY') [] [] (He.ga K "_law_rows") fd := C.d.def_ 26 (d := fj') rfl
theorem lI' {f : Addr} {fd : FuncData} (F : FunD K "_law_rows" "_law_rows" (defArgs aY') (defBody aY') (defScope aY') [] [] f fd) : Binds K fd ["_law_hand_here", "_law_kind", "_law_size", "_law_many"] [] := F.bindsN fun _ _ _ _ _ _ us hl => match us, hl with | [_, _, _, _], _ => rfl
theorem Ctx.f__law_shuffled (C : Ctx w K mg) : ∃ fd, FunD K "_law_shuffled" "_law_shuffled" (defArgs aD') (defBody aD') (defScope aD') [] [] (He.ga K "_law_shuffled") fd := C.d.def_ 27 (d := c7') rfl
theorem gJ' {f : Addr} {fd : FuncData} (F : FunD K "_law_shuffled" "_law_shuffled" (defArgs aD') (defBody aD') (defScope aD') [] [] f fd) : Binds K fd ["_law_hand_here", "_law_things"] [] := F.bindsN fun _ _ _ _ _ _ us hl => match us, hl with | [_, _], _ => rfl
theorem Ctx.f__law_parts (C : Ctx w K mg) : ∃ fd, FunD K "_law_parts" "_law_parts" (defArgs aV') (defBody aV') (defScope aV') [] [] (He.ga K "_law_parts") fd := C.d.def_ 28 (d := ew') rfl
theorem ku' {f : Addr} {fd : FuncData} (F : FunD K "_law_parts" "_law_parts" (defArgs aV') (defBody aV') (defScope aV') [] [] f fd) : Binds K fd ["_law_hand_here", "_law_most", "_law_states"] [] := F.bindsN fun _ _ _ _ _ _ us hl => match us, hl with | [_, _, _], _ => rfl
theorem Ctx.f__law_says (C : Ctx w K mg) : ∃ fd, FunD K "_law_says" "_law_says" (defArgs bj') (defBody bj') (defScope bj') [] [] (He.ga K "_law_says") fd := C.d.def_ 29 (d := fi') rfl
theorem lH' {f : Addr} {fd : FuncData} (F : FunD K "_law_says" "_law_says" (defArgs bj') (defBody bj') (defScope bj') [] [] f fd) : Binds K fd ["_law_letters_here", "_law_table", "_law_accepts", "_law_word_here"] [] := F.bindsN fun _ _ _ _ _ _ us hl => match us, hl with | [_, _, _, _], _ => rfl
theorem Ctx.f__law_word (C : Ctx w K mg) : ∃ fd, FunD K "_law_word" "_law_word" (defArgs bi') (defBody bi') (defScope bi') [] [] (He.ga K "_law_word") fd := C.d.def_ 30 (d := fh') rfl
theorem lG' {f : Addr} {fd : FuncData} (F : FunD K "_law_word" "_law_word" (defArgs bi') (defBody bi') (defScope bi') [] [] f fd) : Binds K fd ["_law_hand_here", "_law_letters_here", "_law_many"] [] := F.bindsN fun _ _ _ _ _ _ us hl => match us, hl with | [_, _, _], _ => rfl
theorem Ctx.f__law_is_word (C : Ctx w K mg) : ∃ fd, FunD K "_law_is_word" "_law_is_word" (defArgs aE') (defBody aE') (defScope aE') [] [] (He.ga K "_law_is_word") fd := C.d.def_ 31 (d := dx') rfl
theorem g1' {f : Addr} {fd : FuncData} (F : FunD K "_law_is_word" "_law_is_word" (defArgs aE') (defBody aE') (defScope aE') [] [] f fd) : Binds K fd ["_law_letters_here", "_law_word_here"] [] := F.bindsN fun _ _ _ _ _ _ us hl => match us, hl with | [_, _], _ => rfl
theorem Ctx.f__law_due (C : Ctx w K mg) : ∃ fd, FunD K "_law_due" "_law_due" (defArgs bo') (defBody bo') (defScope bo') [] [] (He.ga K "_law_due") fd := C.d.def_ 32 (d := gH') rfl
theorem oP' {f : Addr} {fd : FuncData} (F : FunD K "_law_due" "_law_due" (defArgs bo') (defBody bo') (defScope bo') [] [] f fd) : Binds K fd ["_law_letters_here", "_law_table", "_law_accepts", "_law_thing"] [] := F.bindsN fun _ _ _ _ _ _ us hl => match us, hl with | [_, _, _, _], _ => rfl
theorem Ctx.f__law_spoiled (C : Ctx w K mg) : ∃ fd, FunD K "_law_spoiled" "_law_spoiled" (defArgs aL') (defBody aL') (defScope aL') [] [] (He.ga K "_law_spoiled") fd := C.d.def_ 33 (d := dv') rfl
theorem gZ' {f : Addr} {fd : FuncData} (F : FunD K "_law_spoiled" "_law_spoiled" (defArgs aL') (defBody aL') (defScope aL') [] [] f fd) : Binds K fd ["_law_hand_here", "_law_letters_here", "_law_thing"] [] := F.bindsN fun _ _ _ _ _ _ us hl => match us, hl with | [_, _, _], _ => rfl
theorem Ctx.f_law (C : Ctx w K mg) : ∃ fd, FunD K "law" "law" (defArgs f6') (defBody f6') (defScope f6') [] [] (He.ga K "law") fd := C.d.def_ 34 (d := uU') rfl
end
end S
namespace M
structure En where
  nx : PSt -> Prop
  rt : O -> W -> Prop
  bk : PSt -> Prop
  ct : PSt -> Prop
  ex : Exc -> PSt -> Prop
def vE {α : Type} (r : Res α) (Q : α -> PSt -> Prop) (X : Exc -> PSt -> Prop) : Prop := match r with
  | .ok a ρ => Q a ρ
  | .exc x ρ => X x ρ
  | .bad => False
def vS (o : Out) (D : En) : Prop := match o with
  | .nx ρ => D.nx ρ
  | .rt o w => D.rt o w
  | .bk ρ => D.bk ρ
  | .ct ρ => D.ct ρ
  | .exc x ρ => D.ex x ρ
  | .bad => False
def vF (r : FRes) (Q : O -> W -> Prop) (X : Exc -> W -> Prop) : Prop := match r with
  | .ok o w => Q o w
  | .exc x w => X x w
  | .bad => False
def vD {α : Type} (o : Option α) (Q : α -> Prop) : Prop := match o with
  | some z => Q z
  | none => False
def vI (k : Bool) (A B : Prop) : Prop := if k = true then A else B
def vB (d : D) (P : Bool -> Prop) : Prop := match d with
  | .bl k => P k
  | _ => False
def vT (d : D) (P : Tx -> Prop) : Prop := match d with
  | .str s => P s
  | _ => False
def vN (d : D) (P : Int -> Prop) : Prop := match d with
  | .int s => P s
  | _ => False
def vV (o : Option (Option O)) (i : Nat) (ρ : PSt) (Q : D -> PSt -> Prop) : Prop := match o with
  | some (some (.fz d)) => Q d ρ
  | some (some .exn) => False
  | some (some .clo) => False
  | some (some o) => Q (frz o) ⟨ρ.env.set i (some (.fz (frz o))), ρ.w⟩
  | _ => False
def vG (o : Option (Option O)) (i : Nat) (ρ : PSt) (Q : O -> PSt -> Prop) : Prop := match o with
  | some (some (.fz d)) => Q (.fz d) ρ
  | some (some .exn) => False
  | some (some .clo) => False
  | some (some o) => Q o ⟨ρ.env.set i none, ρ.w⟩
  | _ => False
def vO (o : Option (Option O)) (Q : O -> Prop) : Prop := match o with
  | some (some o) => Q o
  | _ => False
def vL (o : Option (Option O)) (Q : List O -> Prop) : Prop := match o with
  | some (some (.lst os)) => Q os
  | _ => False
def asF : O -> Option D
  | .fz d => some d
  | _ => none
def asL : D -> Option (List D)
  | .lst ds => some ds
  | _ => none
abbrev FX : Exc -> W -> Prop := fun _ _ => False
abbrev PX : Exc -> PSt -> Prop := fun _ _ => False
section
variable {α β : Type} {Q : α -> PSt -> Prop} {X : Exc -> PSt -> Prop} {ρ : PSt} {P : D -> PSt -> Prop} {D0 : En}
theorem ah' (r : Res β) (f : β -> PSt -> Res α) : vE (r.bind f) Q X = vE r (fun b ρ => vE (f b ρ) Q X) X := by cases r <;> rfl
theorem bz' (r : Res β) (f : β -> PSt -> Out) : vS (r.out f) D0 = vE r (fun b ρ => vS (f b ρ) D0) D0.ex := by cases r <;> rfl
theorem bd' (o : Option α) : vE (ofO o ρ) Q X = vD o (fun z => Q z ρ) := by cases o <;> rfl
theorem eE' (a : α) : vE (.ok a ρ) Q X = Q a ρ := rfl
theorem fz' (d : D) {Q : Bool -> PSt -> Prop} : vE (asB d ρ) Q X = vB d (fun k => Q k ρ) := by cases d <;> rfl
theorem fy' (k : Bool) (a b : Res α) : vE (if k = true then a else b) Q X = vI k (vE a Q X) (vE b Q X) := by cases k <;> rfl
theorem so' (k : Bool) (a b : Out) : vS (if k = true then a else b) D0 = vI k (vS a D0) (vS b D0) := by cases k <;> rfl
theorem i2' (z : α) {Q : α -> Prop} : vD (some z) Q = Q z := rfl
theorem pn' (k : Bool) {Q : Bool -> Prop} : vB (.bl k) Q = Q k := rfl
theorem t8' (A B : Prop) : vI true A B = A := rfl
theorem t9' (A B : Prop) : vI false A B = B := rfl
theorem mg' (k : Bool) (A B : Prop) : vI (!k) A B = vI k B A := by cases k <;> rfl
theorem xY' (d : D) : vE (eC d ρ) P X = P d ρ := rfl
theorem xW' (i : Nat) (env : List (Option O)) (w : W) : vE (eV i ⟨env, w⟩) P X = vV env[i]? i ⟨env, w⟩ P := by
  show vE (match env[i]? with | some (some (.fz d)) => Res.ok d ⟨env, w⟩ | some (some .exn) => .bad | some (some .clo) => .bad | some (some o) => .ok (frz o) ⟨env.set i (some (.fz (frz o))), w⟩ | _ => .bad) P X = _
  rcases env[i]? with _ | _ | o
  . rfl
  . rfl
  . cases o <;> rfl
theorem ph' (d : D) (i : Nat) (ρ : PSt) : vV (some (some (.fz d))) i ρ P = P d ρ := rfl
theorem mb' (os : List O) (i : Nat) (env : List (Option O)) (w : W) : vV (some (some (.lst os))) i ⟨env, w⟩ P = P (.lst (frzs os)) ⟨env.set i (some (.fz (.lst (frzs os)))), w⟩ := rfl
theorem ma' (os : List O) (i : Nat) (env : List (Option O)) (w : W) : vV (some (some (.tup os))) i ⟨env, w⟩ P = P (.tup (frzs os)) ⟨env.set i (some (.fz (.tup (frzs os)))), w⟩ := rfl
theorem mc' (ks : List D) (os : List O) (i : Nat) (env : List (Option O)) (w : W) : vV (some (some (.dct ks os))) i ⟨env, w⟩ P = P (.dct ks (frzs os)) ⟨env.set i (some (.fz (.dct ks (frzs os)))), w⟩ := rfl
theorem pj' (d : D) (i : Nat) (ρ : PSt) {P : O -> PSt -> Prop} : vG (some (some (.fz d))) i ρ P = P (.fz d) ρ := rfl
theorem mj' (os : List O) (i : Nat) (env : List (Option O)) (w : W) {P : O -> PSt -> Prop} : vG (some (some (.lst os))) i ⟨env, w⟩ P = P (.lst os) ⟨env.set i none, w⟩ := rfl
theorem mi' (os : List O) (i : Nat) (env : List (Option O)) (w : W) {P : O -> PSt -> Prop} : vG (some (some (.tup os))) i ⟨env, w⟩ P = P (.tup os) ⟨env.set i none, w⟩ := rfl
theorem mk' (ks : List D) (os : List O) (i : Nat) (env : List (Option O)) (w : W) {P : O -> PSt -> Prop} : vG (some (some (.dct ks os))) i ⟨env, w⟩ P = P (.dct ks os) ⟨env.set i none, w⟩ := rfl
theorem i0' (o : O) {P : O -> Prop} : vO (some (some o)) P = P o := rfl
theorem mf' (os : List O) {P : List O -> Prop} : vL (some (some (.lst os))) P = P os := rfl
theorem t4' (f : D -> D -> Option D) (a b : ME) : vE (eOp f a b ρ) P X = vE (a ρ) (fun x ρ1 => vE (b ρ1) (fun y ρ2 => vD (f x y) (fun z => P z ρ2)) X) X := by simp only [eOp, ah', bd']
theorem t1' (f : D -> Option D) (a : ME) : vE (eUn f a ρ) P X = vE (a ρ) (fun x ρ1 => vD (f x) (fun z => P z ρ1)) X := by simp only [eUn, ah', bd']
theorem pg' (a b : ME) : vE (tv' a b ρ) P X = vE (a ρ) (fun x ρ1 => vB x fun k => vI k (vE (b ρ1) P X) (P (.bl false) ρ1)) X := by simp only [tv', ah', fz', fy', eE']
theorem o9' (a : ME) : vE (zq' a ρ) P X = vE (a ρ) (fun x ρ1 => vB x fun k => P (.bl (!k)) ρ1) X := by simp only [zq', ah', fz', eE']
theorem iX' (f g : D -> D -> Option D) (a b c : ME) : vE (gC' f g a b c ρ) P X = vE (a ρ) (fun x ρ1 => vE (b ρ1) (fun y ρ2 => vD (f x y) fun r => vB r fun k => vI k (vE (c ρ2) (fun z ρ3 => vD (g y z) fun v => P v ρ3) X) (P (.bl false) ρ2)) X) X := by
  simp only [gC', ah', bd', fz', fy', eE']
theorem pa' {P : List D -> PSt -> Prop} : vE (aW' ρ) P X = P [] ρ := rfl
theorem l8' (a : ME) (r : MA) {P : List D -> PSt -> Prop} : vE (ac' a r ρ) P X = vE (a ρ) (fun x ρ1 => vE (r ρ1) (fun xs ρ2 => P (x :: xs) ρ2) X) X := by simp only [ac', ah', eE']
def iJ' (n : Nat) (A : Prop) : Prop := n <= 16777216 /\ A
theorem i1' {n : Nat} (h : n <= 16777216) (A : Prop) : iJ' n A = A := by unfold iJ'; simp [h]
theorem o7' (as : MA) : vE (gP' as ρ) P X = vE (as ρ) (fun xs ρ1 => iJ' xs.length (P (.tup xs) ρ1)) X := by
  simp only [gP', ah']
  congr
  funext xs ρ1
  unfold iJ'
  by_cases h : xs.length <= 16777216
  . rw [if_pos h]; simp [vE, h]
  . rw [if_neg h]; simp [vE, h]
theorem pb' (as : MA) : vE (iM' as ρ) P X = vE (as ρ) (fun xs ρ1 => iJ' xs.length (P (.lst xs) ρ1)) X := by
  simp only [iM', ah']
  congr
  funext xs ρ1
  unfold iJ'
  by_cases h : xs.length <= 16777216
  . rw [if_pos h]; simp [vE, h]
  . rw [if_neg h]; simp [vE, h]
theorem t6' (f : Tx -> List D -> Option D) (a : ME) (as : MA) : vE (eMt f a as ρ) P X = vE (a ρ) (fun x ρ1 => vT x fun s => vE (as ρ1) (fun ds ρ2 => vD (f s ds) fun z => P z ρ2) X) X := by
  simp only [eMt, ah']
  congr
  funext x ρ1
  cases x <;> simp only [ah', bd'] <;> rfl
theorem md' (s : Tx) {P : Tx -> Prop} : vT (.str s) P = P s := rfl
theorem me' (s : Int) {P : Int -> Prop} : vN (.int s) P = P s := rfl
theorem t5' {P : Option Int -> PSt -> Prop} : vE (pNo ρ) P X = P none ρ := rfl
theorem t2' (a : ME) {P : Option Int -> PSt -> Prop} : vE (pSo a ρ) P X = vE (a ρ) (fun x ρ1 => vN x fun i => P (some i) ρ1) X := by
  simp only [pSo, ah']
  congr
  funext x ρ1
  cases x <;> rfl
theorem t3' (a : ME) (lo hi : MP) : vE (eSl a lo hi ρ) P X = vE (a ρ) (fun x ρ1 => vE (lo ρ1) (fun l ρ2 => vE (hi ρ2) (fun h ρ3 => vD (pSl x l h) fun z => P z ρ3) X) X) X := by simp only [eSl, ah', bd']
theorem xX' (a : MO) : vE (eO a ρ) P X = vE (a ρ) (fun o ρ1 => P (frz o) ρ1) X := by simp only [eO, ah', eE']
variable {R : O -> PSt -> Prop}
theorem t0' (a : ME) : vE (oE a ρ) R X = vE (a ρ) (fun d ρ1 => R (.fz d) ρ1) X := by simp only [oE, ah', eE']
theorem tZ' (i : Nat) (env : List (Option O)) (w : W) : vE (oV i ⟨env, w⟩) R X = vG env[i]? i ⟨env, w⟩ R := by
  show vE (match env[i]? with | some (some (.fz d)) => Res.ok (O.fz d) ⟨env, w⟩ | some (some .exn) => .bad | some (some .clo) => .bad | some (some o) => .ok o ⟨env.set i none, w⟩ | _ => .bad) R X = _
  rcases env[i]? with _ | _ | o
  . rfl
  . rfl
  . cases o <;> rfl
theorem l9' (f : MF) (as : MA) : vE (az' f as ρ) R X = vE (as ρ) (fun ds ρ1 => vF (f ds ρ1.w) (fun o w => R o ⟨ρ1.env, w⟩) fun x w => X x ⟨ρ1.env, w⟩) X := by
  simp only [az', ah']
  congr
  funext ds ρ1
  cases f ds ρ1.w <;> rfl
theorem l1' (a : ME) : vE (ip' a ρ) R X = vE (a ρ) (fun d ρ1 => vD (asL d) fun ds => R (.lst (ds.map .fz)) ρ1) X := by
  simp only [ip', ah']
  congr
  funext d ρ1
  cases d <;> rfl
theorem iT' : vE (iq' ρ) R X = R (.dct [] []) ρ := rfl
theorem iW' (i : Nat) (a : ME) (env : List (Option O)) (w : W) : vE (hK' i a ⟨env, w⟩) P X = vL env[i]? fun _ => vE (a ⟨env, w⟩) (fun d ρ1 => vN d fun z => vL ρ1.env[i]? fun os => iJ' os.length (vD (ixn os.length z) fun j => vD os[j]? fun o => vD (asF o) fun y => P y ⟨ρ1.env.set i (some (.lst (os.eraseIdx j))), ρ1.w⟩)) X := by
  show vE (match env[i]? with
  | some (some (.lst _)) => (a ⟨env, w⟩).bind fun d ρ1 => match ρ1.env[i]?, d with
    | some (some (.lst os)), .int z => (match (if os.length <= cR' then ixn os.length z else none) with
      | some j => (match os[j]? with
        | some (.fz y) => .ok y ⟨ρ1.env.set i (some (.lst (os.eraseIdx j))), ρ1.w⟩
        | _ => .bad)
      | none => .bad)
    | _, _ => .bad
  | _ => .bad) P X = _
  rcases env[i]? with _ | _ | o
  . rfl
  . rfl
  cases o with
  | lst os0 =>
    simp only [ah', vL]
    congr
    funext d ρ1
    cases d with
    | int z =>
      simp only [vN]
      rcases ρ1.env[i]? with _ | _ | o
      . rfl
      . rfl
      cases o with
      | lst os =>
        simp only [iJ']
        by_cases hl : os.length <= 16777216
        . simp only [hl, if_pos, true_and]
          cases ixn os.length z with
          | none => rfl
          | some j =>
            simp only [vD]
            rcases os[j]? with _ | o
            . rfl
            . cases o <;> rfl
        . simp only [hl, if_neg, false_and]; simp [vE]
      | _ => rfl
    | _ =>
      rcases ρ1.env[i]? with _ | _ | o
      . rfl
      . rfl
      cases o <;> rfl
  | _ => rfl
theorem pd' (i : Nat) (b : ME) (env : List (Option O)) (w : W) : vE (sc' i b ⟨env, w⟩) P X = vO env[i]? fun _ => vE (b ⟨env, w⟩) (fun k ρ1 => vO ρ1.env[i]? fun o => vD (ixO o k) fun z => P z ρ1) X := by
  show vE (match env[i]? with
  | some (some _) => (b ⟨env, w⟩).bind fun k ρ1 => match ρ1.env[i]? with
    | some (some o) => ofO (ixO o k) ρ1
    | _ => .bad
  | _ => .bad) P X = _
  rcases env[i]? with _ | _ | o
  . rfl
  . rfl
  simp only [ah', vO]
  congr
  funext k ρ1
  rcases ρ1.env[i]? with _ | _ | o
  . rfl
  . rfl
  exact bd' _
theorem l7' (i : Nat) : vE (gB' i ρ) P X = vO ρ.env[i]? fun o => vD (oX' o) fun z => P z ρ := by
  unfold gB'
  rcases ρ.env[i]? with _ | _ | o
  . rfl
  . rfl
  exact bd' _
theorem pc' (a b : ME) : vE (iN' a b ρ) P X = vE (a ρ) (fun x ρ1 => vE (b ρ1) (fun y ρ2 => vD (ixW ρ2.w x y) fun z => P z ρ2) X) X := by simp only [iN', ah', bd']
theorem o8' (as : MA) : vE (yJ' as ρ) R X = vE (as ρ) (fun xs ρ1 => iJ' xs.length (R (.fz (.obj ρ1.w.length)) ⟨ρ1.env, ρ1.w ++ [.lst (xs.map .fz)]⟩)) X := by
  simp only [yJ', ah']
  congr
  funext xs ρ1
  unfold iJ'
  by_cases h : xs.length <= 16777216
  . rw [if_pos h]; simp [vE, h]
  . rw [if_neg h]; simp [vE, h]
theorem pe' (cs : List String) (a : ME) (f : String) : vE (de' cs a f ρ) P X = vE (a ρ) (fun x ρ1 => vD (gz' cs f ρ1.w x) fun z => P z ρ1) X := by simp only [de', ah', bd']
theorem l6' (C : String) (init : MF) (as : MA) : vE (jD' C init as ρ) R X = vE (as ρ) (fun ds ρ1 => vF (init (.obj ρ1.w.length :: ds) (ρ1.w ++ [.ins C []])) (fun o w => o = .fz .non /\ R (.fz (.obj ρ1.w.length)) ⟨ρ1.env, w⟩) fun x w => X x ⟨ρ1.env, w⟩) X := by
  simp only [jD', ah']
  congr
  funext ds ρ1
  cases init (.obj ρ1.w.length :: ds) (ρ1.w ++ [.ins C []]) with
  | ok o w =>
    cases o with
    | fz d => cases d <;> simp [vE, vF]
    | _ => simp [vE, vF]
  | _ => rfl
theorem l5' (C : List String) (m : String) (f : MF) (a : ME) (as : MA) : vE (k5' C m f a as ρ) R X = vE (a ρ) (fun x ρ1 => jW' C m ρ1.w x = true /\ vE (as ρ1) (fun ds ρ2 => vF (f (x :: ds) ρ2.w) (fun o w => R o ⟨ρ2.env, w⟩) fun x w => X x ⟨ρ2.env, w⟩) X) X := by
  simp only [k5', ah']
  congr
  funext x ρ1
  by_cases h : jW' C m ρ1.w x = true
  . rw [if_pos h]
    simp only [h, true_and, ah']
    congr
    funext ds ρ2
    cases f (x :: ds) ρ2.w <;> rfl
  . rw [if_neg h]
    simp [vE, h]
def vX (o : Option (Option O)) (A : Prop) : Prop := match o with
  | some (some .exn) => A
  | _ => False
variable {B : Bool -> PSt -> Prop}
theorem tY' (a : ME) : vE (tE a ρ) B X = vE (a ρ) (fun d ρ1 => vB d fun k => B k ρ1) X := by simp only [tE, ah', fz']
theorem lZ' (a : MT) : vE (fA' a ρ) B X = vE (a ρ) (fun k ρ1 => B (!k) ρ1) X := by simp only [fA', ah', eE']
theorem l0' (a b : MT) : vE (sw' a b ρ) B X = vE (a ρ) (fun k ρ1 => vI k (vE (b ρ1) B X) (B false ρ1)) X := by simp only [sw', ah', fy', eE']
theorem o3' (a b : MT) : vE (tOr a b ρ) B X = vE (a ρ) (fun k ρ1 => vI k (B true ρ1) (vE (b ρ1) B X)) X := by simp only [tOr, ah', fy', eE']
theorem tX' : vE (tT ρ) B X = B true ρ := rfl
variable {Y : List D -> PSt -> Prop}
theorem l4' (a : ME) : vE (eQ' a ρ) Y X = vE (a ρ) (fun d ρ1 => vD (dX' d) fun z => Y z ρ1) X := by simp only [eQ', ah', bd']
theorem fS' (a : ME) : vE (bN' a ρ) Y X = vE (a ρ) (fun d ρ1 => vD (eJ' d) fun z => Y z ρ1) X := by simp only [bN', ah', bd']
theorem l3' (a b : ME) : vE (zd' a b ρ) Y X = vE (a ρ) (fun d ρ1 => vE (b ρ1) (fun e ρ2 => vD (r7' d e) fun z => Y z ρ2) X) X := by simp only [zd', ah', bd']
theorem iU' (a b : ME) : vE (rx' a b ρ) Y X = vE (a ρ) (fun d ρ1 => vE (b ρ1) (fun e ρ2 => vD (xw' d e) fun z => Y z ρ2) X) X := by simp only [rx', ah', bd']
theorem iV' (a : ME) : vE (oB' a ρ) Y X = vE (a ρ) (fun d ρ1 => vD (enB d) fun z => Y z ρ1) X := by simp only [oB', ah', bd']
theorem l2' (own : List Nat) (it : MI) (g : MG) (t : MT) (it1 : MI) (own1 : List Nat) (g1 : MG) (t1 : MT) (e : ME) : vE (xs' own it g t it1 own1 g1 t1 e ρ) R X = vE (it ρ) (fun xs ρ1 => vE (iv' own g t it1 own1 g1 t1 e xs [] ρ1) (fun ys ρ2 => R (.lst (ys.map .fz)) ⟨back ρ1.env own (al' own ρ2.env), ρ2.w⟩) X) X := by simp only [xs', ah', eE']
theorem t7' (own : List Nat) (it : MI) (g : MG) (t : MT) (e : ME) : vE (eLc own it g t e ρ) P X = vE (it ρ) (fun xs ρ1 => vE (lcL own g t e xs [] ρ1) (fun ys ρ2 => P (.lst ys) ⟨back ρ1.env own (al' own ρ2.env), ρ2.w⟩) X) X := by simp only [eLc, ah', eE']
theorem o4' (own : List Nat) (it : MI) (g : MG) (t : MT) (e : ME) : vE (oLc own it g t e ρ) R X = vE (it ρ) (fun xs ρ1 => vE (lcL own g t e xs [] ρ1) (fun ys ρ2 => R (.lst (ys.map .fz)) ⟨back ρ1.env own (al' own ρ2.env), ρ2.w⟩) X) X := by simp only [oLc, ah', eE']
variable {N : PSt -> Prop} {rt : O -> W -> Prop} {bk ct : PSt -> Prop} {ex : Exc -> PSt -> Prop}
theorem mo' : vS (aS' ρ) ⟨N, rt, bk, ct, ex⟩ = N ρ := rfl
theorem mp' (a : ME) : vS (kQ' a ρ) ⟨N, rt, bk, ct, ex⟩ = vE (a ρ) (fun _ ρ1 => N ρ1) ex := by simp only [kQ', bz']; rfl
theorem pp' (a : MO) : vS (bQ' a ρ) ⟨N, rt, bk, ct, ex⟩ = vE (a ρ) (fun o ρ1 => rt o ρ1.w) ex := by simp only [bQ', bz']; rfl
theorem kH' (a b : MS) : vS (aq' a b ρ) ⟨N, rt, bk, ct, ex⟩ = vS (a ρ) ⟨fun ρ1 => vS (b ρ1) ⟨N, rt, bk, ct, ex⟩, rt, bk, ct, ex⟩ := by
  unfold aq'
  cases a ρ <;> rfl
theorem ua' (t : MT) (a b : MS) : vS (sIf t a b ρ) ⟨N, rt, bk, ct, ex⟩ = vE (t ρ) (fun k ρ1 => vI k (vS (a ρ1) ⟨N, rt, bk, ct, ex⟩) (vS (b ρ1) ⟨N, rt, bk, ct, ex⟩)) ex := by simp only [sIf, bz', so']
def oa' (i n : Nat) (A : Prop) : Prop := i < n /\ A
theorem iY' {i n : Nat} (h : i < n) (A : Prop) : oa' i n A = A := by unfold oa'; simp [h]
theorem po' (i : Nat) (a : MO) : vS (be' i a ρ) ⟨N, rt, bk, ct, ex⟩ = vE (a ρ) (fun o ρ1 => oa' i ρ1.env.length (N ⟨ρ1.env.set i (some o), ρ1.w⟩)) ex := by
  simp only [be', bz']
  congr
  funext o ρ1
  unfold vN' oa'
  by_cases h : i < ρ1.env.length
  . rw [if_pos h]; simp [vS, h]
  . rw [if_neg h]; simp [vS, h]
theorem pu' (g : MG) (a : ME) : vS (ut' g a ρ) ⟨N, rt, bk, ct, ex⟩ = vE (a ρ) (fun d ρ1 => vD (g d ρ1) N) ex := by
  simp only [ut', bz']
  congr
  funext o ρ1
  cases g o ρ1 <;> rfl
theorem pt' (f : D -> D -> Option D) (i : Nat) (a : ME) : vS (vU' f i a ρ) ⟨N, rt, bk, ct, ex⟩ = vO ρ.env[i]? fun o => vD (asF o) fun d => vE (a ρ) (fun y ρ1 => vD (f d y) fun z => oa' i ρ1.env.length (N ⟨ρ1.env.set i (some (.fz z)), ρ1.w⟩)) ex := by
  unfold vU'
  rcases ρ.env[i]? with _ | _ | o
  . rfl
  . rfl
  cases o with
  | fz d =>
    simp only [bz', vD, vO, asF]
    congr
    funext y ρ1
    cases f d y with
    | none => rfl
    | some z =>
      dsimp only
      unfold vN' oa'
      by_cases h : i < ρ1.env.length
      . rw [if_pos h]; simp [vS, h]
      . rw [if_neg h]; simp [vS, h]
  | _ => rfl
theorem pv' (i : Nat) (a : MO) : vS (ol' i a ρ) ⟨N, rt, bk, ct, ex⟩ = vL ρ.env[i]? fun _ => vE (a ρ) (fun o ρ1 => vL ρ1.env[i]? fun os => oa' os.length 16777216 (N ⟨ρ1.env.set i (some (.lst (os ++ [o]))), ρ1.w⟩)) ex := by
  unfold ol'
  rcases ρ.env[i]? with _ | _ | o
  . rfl
  . rfl
  cases o with
  | lst os0 =>
    simp only [bz', vL]
    congr
    funext o ρ1
    rcases ρ1.env[i]? with _ | _ | o2
    . rfl
    . rfl
    cases o2 with
    | lst os =>
      dsimp only
      unfold oa'
      by_cases h : os.length < 16777216
      . rw [if_pos h]; simp [vS, h]
      . rw [if_neg h]; simp [vS, h]
    | _ => rfl
  | _ => rfl
theorem mn' (i : Nat) (k a : ME) : vS (qu' i k a ρ) ⟨N, rt, bk, ct, ex⟩ = vE (a ρ) (fun d ρ1 => vO ρ1.env[i]? fun _ => vE (k ρ1) (fun y ρ2 => vL ρ2.env[i]? fun os => vN y fun z => vD (ixn os.length z) fun j => N ⟨ρ2.env.set i (some (.lst (os.set j (.fz d)))), ρ2.w⟩) ex) ex := by
  simp only [qu', bz']
  congr
  funext d ρ1
  rcases ρ1.env[i]? with _ | _ | o
  . rfl
  . rfl
  simp only [bz', vO]
  congr
  funext y ρ2
  rcases ρ2.env[i]? with _ | _ | o2
  . rfl
  . rfl
  cases o2 with
  | lst os =>
    cases y with
    | int z => simp only [vL, vN]; cases ixn os.length z <;> rfl
    | _ => rfl
  | _ => rfl
theorem mm' (o k a : ME) : vS (if' o k a ρ) ⟨N, rt, bk, ct, ex⟩ = vE (a ρ) (fun d ρ1 => vE (o ρ1) (fun x ρ2 => vE (k ρ2) (fun y ρ3 => vD (sB' ρ3.w x y d) fun w => N ⟨ρ3.env, w⟩) ex) ex) ex := by
  simp only [if', bz']
  congr
  funext d ρ1
  congr
  funext x ρ2
  congr
  funext y ρ3
  cases sB' ρ3.w x y d <;> rfl
def CY' (w : W) : D -> Option (List O)
  | .obj n => (match w[n]? with
    | some (.lst os) => some os
    | _ => none)
  | _ => none
def Dh' (w : W) (b : Ob) : D -> W
  | .obj n => w.set n b
  | _ => w
theorem pr' (cs : List String) (a : ME) (f : String) (v : MO) : vS (sFld cs a f v ρ) ⟨N, rt, bk, ct, ex⟩ = vE (v ρ) (fun o ρ1 => vE (a ρ1) (fun x ρ2 => vD (stF cs f o ρ2.w x) fun w => N ⟨ρ2.env, w⟩) ex) ex := by
  simp only [sFld, bz']
  congr
  funext d ρ1
  congr
  funext x ρ2
  cases stF cs f d ρ2.w x <;> rfl
theorem pq' (it : MI) (g : MG) (b : MS) : vS (eZ' it g b ρ) ⟨N, rt, bk, ct, ex⟩ = vE (it ρ) (fun ds ρ1 => vS (nL' g b ds ρ1) ⟨N, rt, bk, ct, ex⟩) ex := by simp only [eZ', bz']
theorem i5' (n : Nat) (t : MT) (b : MS) : vS (f7' n t b ρ) ⟨N, rt, bk, ct, ex⟩ = vS (dN' t b n ρ) ⟨N, rt, bk, ct, ex⟩ := rfl
theorem vx' {k n : Nat} (b : MS) (ds : List D) (w : W) {Q : O -> W -> Prop} {X : Exc -> W -> Prop} (h : ds.length = k) : vF (fnM k n b ds w) Q X = vS (b ⟨ds.map (fun d => some (.fz d)) ++ List.replicate (n - k) none, w⟩) ⟨fun ρ => Q (.fz .non) ρ.w, Q, fun _ => False, fun _ => False, fun x ρ => X x ρ.w⟩ := by
  unfold fnM
  rw [if_pos h]
  cases b ⟨ds.map (fun d => some (.fz d)) ++ List.replicate (n - k) none, w⟩ <;> rfl
theorem mq' {k n : Nat} {b : MS} {ds : List D} {w : W} {Q : O -> W -> Prop} {X : Exc -> W -> Prop} (q : vS (b ⟨ds.map (fun d => some (.fz d)) ++ List.replicate (n - k) none, w⟩) ⟨fun ρ => Q (.fz .non) ρ.w, Q, fun _ => False, fun _ => False, fun x ρ => X x ρ.w⟩) (h : ds.length = k) : vF (fnM k n b ds w) Q X := by
  rw [vx' _ _ _ h]; exact q
theorem pk' (o : O) (w : W) {Q : O -> W -> Prop} {X : Exc -> W -> Prop} : vF (.ok o w) Q X = Q o w := rfl
theorem ml' (x : Exc) (w : W) {Q : O -> W -> Prop} {X : Exc -> W -> Prop} : vF (.exc x w) Q X = X x w := rfl
theorem vF.mono {r : FRes} {Q Q' : O -> W -> Prop} {X : Exc -> W -> Prop} (h : vF r Q FX) (k : ∀ o w, Q o w -> Q' o w) : vF r Q' X := by
  cases r with
  | ok o w => exact k _ _ h
  | exc x w => exact h.elim
  | bad => exact h
theorem vF.exi {r : FRes} {Q : O -> W -> Prop} (h : vF r Q FX) : ∃ o w, r = .ok o w /\ Q o w := by
  cases r with
  | ok o w => exact ⟨o, w, rfl, h⟩
  | exc x w => exact h.elim
  | bad => exact h.elim
theorem vF.of {r : FRes} {Q : O -> W -> Prop} {X : Exc -> W -> Prop} {o : O} {w : W} (e : r = .ok o w) (h : Q o w) : vF r Q X := by rw [e]; exact h
theorem vS.mono {o : Out} {D1 D2 : En} (h : vS o D1) (h1 : ∀ ρ, D1.nx ρ -> D2.nx ρ) (h2 : ∀ o w, D1.rt o w -> D2.rt o w) (h3 : ∀ ρ, D1.bk ρ -> D2.bk ρ) (h4 : ∀ ρ, D1.ct ρ -> D2.ct ρ) (h5 : ∀ x ρ, D1.ex x ρ -> D2.ex x ρ) : vS o D2 := by
  cases o with
  | nx ρ => exact h1 _ h
  | rt o w => exact h2 _ _ h
  | bk ρ => exact h3 _ h
  | ct ρ => exact h4 _ h
  | exc x ρ => exact h5 _ _ h
  | bad => exact h
theorem vE.mono {r : Res α} {Q Q' : α -> PSt -> Prop} {X X' : Exc -> PSt -> Prop} (h : vE r Q X) (k : ∀ a ρ, Q a ρ -> Q' a ρ) (k2 : ∀ x ρ, X x ρ -> X' x ρ) : vE r Q' X' := by
  cases r with
  | ok a ρ => exact k _ _ h
  | exc x ρ => exact k2 _ _ h
  | bad => exact h
theorem i4' {a b : MS} (J : PSt -> Prop) (h : vS (a ρ) ⟨J, rt, bk, ct, ex⟩) (k : ∀ ρ1, J ρ1 -> vS (b ρ1) ⟨N, rt, bk, ct, ex⟩) : vS (aq' a b ρ) ⟨N, rt, bk, ct, ex⟩ := by
  rw [kH']
  exact h.mono k (fun _ _ z => z) (fun _ z => z) (fun _ z => z) (fun _ _ z => z)
theorem mh' {p : Prop} [Decidable p] {A B : Prop} (h1 : p -> A) (h2 : ¬ p -> B) : vI (decide p) A B := by
  by_cases h : p
  . rw [decide_eq_true h]; exact h1 h
  . rw [decide_eq_false h]; exact h2 h
theorem fU' {γ : Type} {g : MG} {b : MS} {f : γ -> D} {cs : List γ} (Inv : List γ -> PSt -> Prop) (h0 : Inv [] ρ)
    (step : ∀ pre c post ρ, cs = pre ++ c :: post -> Inv pre ρ -> vD (g (f c) ρ) fun ρ1 => vS (b ρ1) ⟨Inv (pre ++ [c]), rt, N, Inv (pre ++ [c]), ex⟩)
    (hend : ∀ ρ, Inv cs ρ -> N ρ) : vS (nL' g b (cs.map f) ρ) ⟨N, rt, bk, ct, ex⟩ := by
  have main : ∀ (post pre : List γ) (ρ : PSt), cs = pre ++ post -> Inv pre ρ -> vS (nL' g b (post.map f) ρ) ⟨N, rt, bk, ct, ex⟩ := by
    intro post
    induction post with
    | nil =>
      intro pre ρ e h
      rw [List.append_nil] at e
      exact hend ρ (e ▸ h)
    | cons d post ih =>
      intro pre ρ e h
      have s := step pre d post ρ e h
      rw [List.map_cons]
      unfold nL'
      cases eg : g (f d) ρ with
      | none => rw [eg] at s; exact s
      | some ρ1 =>
        rw [eg] at s
        have s : vS (b ρ1) _ := s
        dsimp only
        cases eb : b ρ1 with
        | nx ρ2 => rw [eb] at s; exact ih (pre ++ [d]) ρ2 (by rw [e, List.append_assoc]; rfl) s
        | ct ρ2 => rw [eb] at s; exact ih (pre ++ [d]) ρ2 (by rw [e, List.append_assoc]; rfl) s
        | bk ρ2 => rw [eb] at s; exact s
        | rt o w => rw [eb] at s; exact s
        | exc x ρ2 => rw [eb] at s; exact s
        | bad => rw [eb] at s; exact s
  exact main cs [] ρ rfl h0
theorem i6' {g : MG} {b : MS} {lo : Int} {n : Nat} (Inv : Nat -> PSt -> Prop) (h0 : Inv 0 ρ)
    (step : ∀ k ρ, k < n -> Inv k ρ -> vD (g (.int (lo + (k : Nat))) ρ) fun ρ1 => vS (b ρ1) ⟨Inv (k + 1), rt, N, Inv (k + 1), ex⟩)
    (hend : ∀ ρ, Inv n ρ -> N ρ) : vS (nL' g b (rgI lo n) ρ) ⟨N, rt, bk, ct, ex⟩ := by
  unfold rgI
  refine fU' (fun pre ρ => Inv pre.length ρ) h0 (fun pre c post ρ e h => ?_) (fun ρ h => hend ρ (by rwa [List.length_range] at h))
  have hl : pre.length < n := by
    have := congrArg List.length e
    rw [List.length_range, List.length_append, List.length_cons] at this
    omega
  have hc : c = pre.length := by
    have h1 : (List.range n)[pre.length]? = some c := by rw [e, List.getElem?_append_right (Nat.le_refl _), Nat.sub_self]; rfl
    rw [List.getElem?_range hl] at h1
    exact (Option.some.inj h1).symm
  subst hc
  have := step pre.length ρ hl h
  simp only [List.length_append, List.length_cons, List.length_nil, Nat.zero_add]
  exact this
theorem fT' {t : MT} {b : MS} {n : Nat} (Inv : Nat -> PSt -> Prop) (m : Nat) (hm : m < n) (h0 : Inv m ρ)
    (step : ∀ m ρ, Inv m ρ -> vE (t ρ) (fun k ρ1 => vI k (vS (b ρ1) ⟨fun ρ2 => ∃ m', m' < m /\ Inv m' ρ2, rt, N, fun ρ2 => ∃ m', m' < m /\ Inv m' ρ2, ex⟩) (N ρ1)) ex) :
    vS (dN' t b n ρ) ⟨N, rt, bk, ct, ex⟩ := by
  induction n generalizing m ρ with
  | zero => omega
  | succ n ih =>
    have s := step m ρ h0
    unfold dN'
    cases et : t ρ with
    | bad => rw [et] at s; exact s
    | exc x ρ1 => rw [et] at s; exact s
    | ok k ρ1 =>
      rw [et] at s
      have s : vI k _ _ := s
      show vS (if k = true then _ else _) _
      cases k with
      | false => exact s
      | true =>
        rw [if_pos rfl]
        have s : vS (b ρ1) _ := s
        cases eb : b ρ1 with
        | nx ρ2 =>
          rw [eb] at s
          obtain ⟨m', h1, h2⟩ := s
          exact ih m' (by omega) h2
        | ct ρ2 =>
          rw [eb] at s
          obtain ⟨m', h1, h2⟩ := s
          exact ih m' (by omega) h2
        | bk ρ2 => rw [eb] at s; exact s
        | rt o w => rw [eb] at s; exact s
        | exc x ρ2 => rw [eb] at s; exact s
        | bad => rw [eb] at s; exact s
theorem mr' {own : List Nat} {g : MG} {t : MT} {e : ME} {γ : Type} {f : γ -> D} {cs : List γ} {Q : List D -> PSt -> Prop} (hl : cs.length <= 16777216) (Inv : List γ -> List D -> PSt -> Prop) (h0 : Inv [] [] ρ)
    (step : ∀ pre c post acc ρ, cs = pre ++ c :: post -> Inv pre acc ρ -> vD (g (f c) ⟨al' own ρ.env, ρ.w⟩) fun ρ1 => vE (t ρ1) (fun k ρ2 => vI k (vE (e ρ2) (fun y ρ3 => Inv (pre ++ [c]) (acc ++ [y]) ρ3) PX) (Inv (pre ++ [c]) acc ρ2)) PX)
    (hend : ∀ acc ρ, Inv cs acc ρ -> Q acc ρ) : vE (lcL own g t e (cs.map f) [] ρ) Q X := by
  have main : ∀ (post pre : List γ) (acc : List D) (ρ : PSt), cs = pre ++ post -> acc.length <= pre.length -> Inv pre acc ρ -> vE (lcL own g t e (post.map f) acc ρ) Q X := by
    intro post
    induction post with
    | nil =>
      intro pre acc ρ e' hacc h
      rw [List.append_nil] at e'
      exact hend acc ρ (e' ▸ h)
    | cons d post ih =>
      intro pre acc ρ e' hacc h
      have s := step pre d post acc ρ e' h
      have hpre : pre.length < 16777216 := by
        have := congrArg List.length e'
        rw [List.length_append, List.length_cons] at this
        omega
      rw [List.map_cons]
      unfold lcL
      cases eg : g (f d) ⟨al' own ρ.env, ρ.w⟩ with
      | none => rw [eg] at s; exact s
      | some ρ1 =>
        rw [eg] at s
        have s : vE (t ρ1) _ _ := s
        dsimp only
        cases et : t ρ1 with
        | bad => rw [et] at s; exact s
        | exc x ρ2 => rw [et] at s; exact s.elim
        | ok k ρ2 =>
          rw [et] at s
          have s : vI k _ _ := s
          show vE (if k = true then _ else _) Q X
          have e2 : cs = (pre ++ [d]) ++ post := by rw [e', List.append_assoc]; rfl
          cases k with
          | false =>
            rw [if_neg Bool.false_ne_true]
            exact ih (pre ++ [d]) acc ρ2 e2 (by rw [List.length_append]; omega) s
          | true =>
            rw [if_pos rfl]
            have s : vE (e ρ2) _ _ := s
            cases ee : e ρ2 with
            | bad => rw [ee] at s; exact s
            | exc x ρ3 => rw [ee] at s; exact s.elim
            | ok y ρ3 =>
              rw [ee] at s
              show vE (if acc.length < cR' then _ else _) Q X
              rw [if_pos (show acc.length < 16777216 by omega)]
              exact ih (pre ++ [d]) (acc ++ [y]) ρ3 e2 (by rw [List.length_append, List.length_append, List.length_cons, List.length_cons]; omega) s
  exact main cs [] [] ρ rfl (Nat.le_refl _) h0
end
end M
namespace M
def vC (c : Prop) (A : Prop) : Prop := c /\ A
def vOb (o : Option Ob) (P : List O -> Prop) : Prop := match o with
  | some (.lst os) => P os
  | _ => False
def Ar' (o : Option Ob) (P : String -> List (String × O) -> Prop) : Prop := match o with
  | some (.ins C fs) => P C fs
  | _ => False
theorem pi' (C : String) (fs : List (String × O)) {P : String -> List (String × O) -> Prop} : Ar' (some (.ins C fs)) P = P C fs := rfl
theorem vy' (cs : List String) (f : String) (o : O) (w : W) (n : Nat) {N : W -> Prop} : vD (stF cs f o w (.obj n)) N = Ar' w[n]? (fun C fs => vC (C ∈ cs /\ fs.length < 1000) (N (w.set n (.ins C (qP' f o fs))))) := by
  show vD (match w[n]? with | some (.ins C fs) => if C ∈ cs /\ fs.length < 1000 then some (w.set n (.ins C (qP' f o fs))) else none | _ => none) N = _
  rcases w[n]? with _ | ob
  . rfl
  . cases ob with
    | ins C fs =>
      show vD (if _ then _ else _) N = vC _ _
      unfold vC
      by_cases h : C ∈ cs /\ fs.length < 1000
      . rw [if_pos h]; simp [vD, h]
      . rw [if_neg h]
        show False = (_ /\ _)
        rw [eq_iff_iff]
        exact ⟨False.elim, fun a => h a.1⟩
    | _ => rfl
theorem iZ' (os : List O) {P : List O -> Prop} : vOb (some (.lst os)) P = P os := rfl
theorem pm' {c : Prop} (h : c) (A : Prop) : vC c A = A := by unfold vC; simp [h]
theorem i3' (A : Prop) : vC True A = A := by unfold vC; simp
theorem aT' {α : Type} {c : Prop} [Decidable c] {x : α} {Q : α -> Prop} : vD (if c then some x else none) Q = vC c (Q x) := by
  unfold vC
  by_cases h : c
  . rw [if_pos h]; simp [vD, h]
  . rw [if_neg h]; simp [vD, h]
theorem ce' {α β : Type} {f : α -> β} {o : Option α} {Q : β -> Prop} : vD (o.map f) Q = vD o (fun a => Q (f a)) := by cases o <;> rfl
theorem pl' {α β : Type} {f : α -> Option β} {o : Option α} {Q : β -> Prop} : vD (o.bind f) Q = vD o (fun a => vD (f a) Q) := by cases o <;> rfl
section
variable {Q : D -> Prop} {Y : List D -> Prop}
theorem mU' (i j : Int) : vD (bX' (.int i) (.int j)) Q = Q (.int (i + j)) := rfl
theorem mS' (a b : Tx) : vD (bX' (.str a) (.str b)) Q = iJ' (a.length + b.length) (Q (.str (a ++ b))) := aT'
theorem mT' (a b : List D) : vD (bX' (.lst a) (.lst b)) Q = iJ' (a.length + b.length) (Q (.lst (a ++ b))) := aT'
theorem mR' (a b : List D) : vD (bX' (.tup a) (.tup b)) Q = iJ' (a.length + b.length) (Q (.tup (a ++ b))) := aT'
theorem jh' (i j : Int) : vD (qT' (.int i) (.int j)) Q = Q (.int (i + j)) := rfl
theorem py' (i j : Int) : vD (uC' (.int i) (.int j)) Q = Q (.int (i - j)) := rfl
theorem pJ' (i j : Int) : vD (kC' (.int i) (.int j)) Q = vC (((-18446744073709551616 < i /\ i < 18446744073709551616) \/ (-18446744073709551616 < j /\ j < 18446744073709551616)) \/ ((-2582249878086908589655919172003011874329705792829223512830659356540647622016841194629645353280137831435903171972747493376 < i /\ i < 2582249878086908589655919172003011874329705792829223512830659356540647622016841194629645353280137831435903171972747493376) /\ (-2582249878086908589655919172003011874329705792829223512830659356540647622016841194629645353280137831435903171972747493376 < j /\ j < 2582249878086908589655919172003011874329705792829223512830659356540647622016841194629645353280137831435903171972747493376))) (Q (.int (i * j))) := by
  show vD (if (small64 i = true \/ small64 j = true) \/ _ then _ else _) Q = _
  rw [aT']
  congr 1
  simp [small64]
theorem mF' (a : Tx) (j : Int) : vD (kC' (.str a) (.int j)) Q = vC (j < 4611686018427387904 /\ -4611686018427387904 <= j /\ a.length * j.toNat <= 16777216) (Q (.str (List.replicate j.toNat a).flatten)) := aT'
theorem mG' (a : List D) (j : Int) : vD (kC' (.lst a) (.int j)) Q = vC (j < 4611686018427387904 /\ -4611686018427387904 <= j /\ a.length * j.toNat <= 16777216) (Q (.lst (List.replicate j.toNat a).flatten)) := aT'
theorem mQ' (i j : Int) : vD (jx' (.int i) (.int j)) Q = vC (0 < j /\ j < 1606938044258990275541962092341162602522202993782792835301376) (Q (.int (i / j))) := aT'
theorem pK' (i j : Int) : vD (kD' (.int i) (.int j)) Q = vC (0 < j) (Q (.int (i % j))) := aT'
theorem pF' (i j : Int) : vD (yF' (.int i) (.int j)) Q = vC (0 <= j /\ j <= 1000 /\ -18446744073709551616 < i /\ i < 18446744073709551616) (Q (.int (i ^ j.toNat))) := by
  show vD (if 0 <= j /\ j <= 1000 /\ small64 i = true then _ else _) Q = _
  rw [aT']
  congr 1
  simp [small64]
theorem pG' (i : Int) : vD (CT' (.int i)) Q = Q (.int (-i)) := rfl
theorem p5' (i j : Int) : vD (pEq (.int i) (.int j)) Q = Q (.bl (decide (i = j))) := by
  show Q (.bl (i == j)) = _
  congr 2
theorem p4' (i j : Tx) : vD (pEq (.str i) (.str j)) Q = Q (.bl (decide (i = j))) := by
  show Q (.bl (i == j)) = _
  congr 2
  rw [Bool.eq_iff_iff]
  simp
theorem p6' (i j : Bool) : vD (pEq (.bl i) (.bl j)) Q = Q (.bl (i == j)) := rfl
theorem pI' (i j : Int) : vD (pNe (.int i) (.int j)) Q = Q (.bl (!decide (i = j))) := by
  show Q (.bl (!(i == j))) = _
  congr 3
theorem pH' (i j : Tx) : vD (pNe (.str i) (.str j)) Q = Q (.bl (!decide (i = j))) := by
  show Q (.bl (!(i == j))) = _
  congr 3
  rw [Bool.eq_iff_iff]
  simp
theorem ub' (x y : D) : vD (pNe x y) Q = vC (dat x = true /\ dat y = true /\ dep x <= 64 /\ dep y <= 64) (Q (.bl (!eqb x y))) := by
  unfold pNe ob eqv
  rw [ce', ce', aT']
theorem pV' (x : D) : vD (pIs x .non) Q = Q (.bl (dq' x)) := by cases x <;> rfl
theorem pW' (x y : Bool) : vD (pIs (.bl x) (.bl y)) Q = Q (.bl (x == y)) := rfl
theorem he' (x : D) : vD (e2' x .non) Q = Q (.bl (!dq' x)) := by cases x <;> rfl
theorem hf' (x y : Bool) : vD (e2' (.bl x) (.bl y)) Q = Q (.bl (!(x == y))) := rfl
theorem uc' (i j : Int) : vD (pLt (.int i) (.int j)) Q = Q (.bl (decide (i < j))) := rfl
theorem ud' (i j : Int) : vD (pLe (.int i) (.int j)) Q = Q (.bl (decide (i <= j))) := rfl
theorem ue' (i j : Int) : vD (pGt (.int i) (.int j)) Q = Q (.bl (decide (j < i))) := rfl
theorem ug' (i j : Int) : vD (pGe (.int i) (.int j)) Q = Q (.bl (decide (j <= i))) := rfl
theorem pN' (i j : Tx) : vD (pLt (.str i) (.str j)) Q = Q (.bl (decide (i < j))) := rfl
theorem pO' (i j : Tx) : vD (pLe (.str i) (.str j)) Q = Q (.bl (!decide (j < i))) := rfl
theorem pZ' (i j : Tx) : vD (pGt (.str i) (.str j)) Q = Q (.bl (decide (j < i))) := rfl
theorem p3' (i j : Tx) : vD (pGe (.str i) (.str j)) Q = Q (.bl (!decide (i < j))) := rfl
theorem pY' (c : Nat) (s : Tx) : vD (pIn (.str [c]) (.str s)) Q = Q (.bl (decide (c ∈ s))) := rfl
theorem mE' (c : Nat) (s : Tx) : vD (gh' (.str [c]) (.str s)) Q = Q (.bl (!decide (c ∈ s))) := rfl
theorem na' (ns : List Int) : (ns.map D.int).all sca = true := by induction ns <;> simp_all [sca]
theorem n5' (i : Int) (ns : List Int) : ((ns.map D.int).any fun d => eqb d (.int i)) = decide (i ∈ ns) := by
  induction ns with
  | nil => rfl
  | cons n ns ih =>
    simp only [List.map_cons, List.any_cons, ih]
    rw [Bool.eq_iff_iff]
    simp [eqb]
    exact ⟨fun h => h.elim (fun e => .inl e.symm) .inr, fun h => h.elim (fun e => .inl e.symm) .inr⟩
theorem mN' (i : Int) (ns : List Int) : vD (pIn (.int i) (.tup (ns.map .int))) Q = Q (.bl (decide (i ∈ ns))) := by
  show vD (if sca (.int i) = true /\ (ns.map D.int).all sca = true then some (D.bl ((ns.map D.int).any fun d => eqb d (.int i))) else none) Q = _
  rw [na', n5']
  rfl
theorem mO' (i : Int) (ns : List Int) : vD (pIn (.int i) (.lst (ns.map .int))) Q = Q (.bl (decide (i ∈ ns))) := by
  show vD (if sca (.int i) = true /\ (ns.map D.int).all sca = true then some (D.bl ((ns.map D.int).any fun d => eqb d (.int i))) else none) Q = _
  rw [na', n5']
  rfl
theorem mJ' (s : Tx) : vD (dH' (.str s)) Q = Q (.int s.length) := rfl
theorem mK' (s : List D) : vD (dH' (.lst s)) Q = Q (.int s.length) := rfl
theorem mI' (s : List D) : vD (dH' (.tup s)) Q = Q (.int s.length) := rfl
theorem pR' (s : Tx) (i : Int) : vD (pIx (.str s) (.int i)) Q = vD (ati s i) (fun c => Q (.str [c])) := ce'
theorem pT' (s : List D) (i : Int) : vD (pIx (.lst s) (.int i)) Q = vD (ati s i) Q := rfl
theorem pQ' (s : List D) (i : Int) : vD (pIx (.tup s) (.int i)) Q = vD (ati s i) Q := rfl
theorem y1' {n : Nat} {i : Int} (h : 0 <= i) (h2 : i < n) : ixn n i = some i.toNat := by unfold ixn; rw [if_pos h, if_pos h2]
theorem n3' {α : Type} {xs : List α} {i : Int} (h : 0 <= i) : ati xs i = xs[i.toNat]? := by
  unfold ati ixn
  rw [if_pos h]
  split
  . rfl
  . rename_i h2
    rw [List.getElem?_eq_none (by omega)]
    rfl
theorem pA' (s : Tx) (lo hi : Option Int) : vD (pSl (.str s) lo hi) Q = Q (.str (cut s lo hi)) := rfl
theorem pC' (s : List D) (lo hi : Option Int) : vD (pSl (.lst s) lo hi) Q = Q (.lst (cut s lo hi)) := rfl
theorem pz' (s : List D) (lo hi : Option Int) : vD (pSl (.tup s) lo hi) Q = Q (.tup (cut s lo hi)) := rfl
theorem pB' (s : List D) (lo hi : Option Int) : vD (pSl (.scr s) lo hi) Q = Q (.lst (cut s lo hi)) := rfl
theorem u1' {α : Type} {s : List α} {i : Int} (h : 0 <= i) : cut s none (some i) = s.take i.toNat := by
  unfold cut six
  simp only [if_neg (show ¬ i < 0 by omega), List.drop_zero, Nat.sub_zero]
  rcases Nat.le_total i.toNat s.length with h | h
  . rw [Nat.min_eq_left h]
  . rw [Nat.min_eq_right h, List.take_length, List.take_of_length_le h]
theorem tM' {α : Type} {s : List α} {i : Int} (h : 0 <= i) : cut s (some i) none = s.drop i.toNat := by
  unfold cut six
  simp only [if_neg (show ¬ i < 0 by omega)]
  rcases Nat.le_total i.toNat s.length with h | h
  . rw [Nat.min_eq_left h, List.take_of_length_le (by rw [List.length_drop]; omega)]
  . rw [Nat.min_eq_right h, List.drop_length, List.drop_of_length_le h, List.take_nil]
theorem mC' (s : Tx) : vD (Ax' (.str s)) Q = Q (.str s.reverse) := rfl
theorem mD' (s : List D) : vD (Ax' (.lst s)) Q = Q (.lst s.reverse) := rfl
theorem sy' (l : List Tx) : dM' (l.map .str) = some l := by
  induction l with
  | nil => rfl
  | cons a l ih => simp [dM', ih]
theorem jT' : ∀ l : List Tx, cP' [] l = l.flatten
  | [] => rfl
  | [x] => by simp [cP']
  | x :: y :: r => by
    have := jT' (y :: r)
    simp only [cP', this, List.flatten_cons, List.nil_append]
theorem h8' (l : List Tx) : vD (la' [] [.lst (l.map .str)]) Q = iJ' (l.map List.length).sum (Q (.str l.flatten)) := by
  show vD ((dM' (l.map .str)).bind _) Q = _
  rw [sy']
  show vD (if _ then _ else _) Q = _
  rw [aT', jT']
  simp [vC, iJ']
theorem qg' : ∀ l : Tx, ((l.map fun c => [c]).map List.length).sum = l.length
  | [] => rfl
  | c :: l => by simp only [List.map_cons, List.sum_cons, qg' l, List.length_cons, List.length_nil]; omega
theorem nN' : ∀ l : Tx, (l.map fun c => [c]).flatten = l
  | [] => rfl
  | c :: l => by simp only [List.map_cons, List.flatten_cons, nN' l]; rfl
theorem jf' (l : Tx) : vD (la' [] [.lst (l.map chD)]) Q = iJ' l.length (Q (.str l)) := by
  have h := h8' (Q := Q) (l.map fun c => [c])
  rw [List.map_map, qg', nN'] at h
  exact h
theorem mP' (a b : Tx) : vD (rb' a [.str b]) Q = Q (.int (fnd (nK' a b))) := rfl
theorem jg' (a b : Tx) : vD (jJ' a [.str b]) Q = vD (nK' a b) (fun i => Q (.int (i : Nat))) := ce'
theorem i7' (s : Tx) : vD (uB' (.str s)) Q = vC (s.all (fun c => decide (c < 128)) = true /\ s.length <= 5592405) (Q (.str (s.map up1))) := aT'
theorem pX' (i : Int) : vD (iL' (.int i)) Q = Q (.int i) := rfl
theorem mM' (b : Bool) : vD (iL' (.bl b)) Q = Q (.int (if b then 1 else 0)) := rfl
theorem qd' (i : Int) : vD (Ay' (.int i)) Q = Q (.int (if i < 0 then -i else i)) := rfl
theorem pM' (i j : Int) : vD (qS' (.int i) (.int j)) Q = Q (.int (max i j)) := by
  show Q (.int (if j > i then j else i)) = _
  congr 2
  split <;> omega
theorem pL' (i j : Int) : vD (or' (.int i) (.int j)) Q = Q (.int (min i j)) := by
  show Q (.int (if j < i then j else i)) = _
  congr 2
  split <;> omega
theorem mx' (s : List D) : vD (cb' (.lst s)) Q = Q (.tup s) := rfl
theorem mw' (s : List D) : vD (cb' (.tup s)) Q = Q (.tup s) := rfl
theorem jc' (s : List D) : vD (e1' (.lst s)) Q = Q (.lst s) := rfl
theorem jb' (s : List D) : vD (e1' (.tup s)) Q = Q (.lst s) := rfl
theorem i8' (s : Tx) : vD (cY' (.str s)) Q = vC (s.length < 64) (Q (.lst ((b6' s).map chD))) := aT'
theorem pU' (t : String) (d : D) : vD (b0' t d) Q = vD (tyn d) (fun n => Q (.bl (n == t || (n == "bool" && t == "int")))) := ce'
theorem lf' (l : List Int) : bt' (l.map .int) = some l := by
  induction l with
  | nil => rfl
  | cons a l ih => simp [bt', ih]
theorem nZ' (l : List Bool) : bools (l.map .bl) = some l := by
  induction l with
  | nil => rfl
  | cons a l ih => simp [bools, ih]
theorem px' (l : List Int) : vD (CS' (.lst (l.map .int))) Q = Q (.int l.sum) := by
  show vD ((bt' (l.map .int)).map _) Q = _
  rw [lf']
  rfl
theorem qc' (l : List Bool) : vD (v8' (.lst (l.map .bl))) Q = Q (.bl (l.all id)) := by
  show vD ((bools (l.map .bl)).map _) Q = _
  rw [nZ']
  rfl
theorem qb' (l : List Bool) : vD (CU' (.lst (l.map .bl))) Q = Q (.bl (l.any id)) := by
  show vD ((bools (l.map .bl)).map _) Q = _
  rw [nZ']
  rfl
theorem mB' (s : List D) : vD (dX' (.lst s)) Y = Y s := rfl
theorem mz' (s : List D) : vD (dX' (.tup s)) Y = Y s := rfl
theorem mA' (s : Tx) : vD (dX' (.str s)) Y = Y (s.map chD) := rfl
theorem pE' (j : Int) : vD (eJ' (.int j)) Y = vC (-4611686018427387904 <= j /\ j < 4611686018427387904) (Y (rgI 0 j.toNat)) := by
  show vD (if se' j = true then _ else _) Y = _
  rw [aT']
  congr 1
  simp [se']
theorem pD' (i j : Int) : vD (qR' (.int i) (.int j)) Y = vC ((-4611686018427387904 <= i /\ i < 4611686018427387904) /\ (-4611686018427387904 <= j /\ j < 4611686018427387904)) (Y (rgI i (j - i).toNat)) := by
  show vD (if se' i = true /\ se' j = true then _ else _) Y = _
  rw [aT']
  congr 1
  simp [se']
theorem mt' (a b : Tx) : vD (r7' (.str a) (.str b)) Y = Y (db' (a.map chD) (b.map chD)) := rfl
theorem mv' (a b : List D) : vD (r7' (.lst a) (.lst b)) Y = Y (db' a b) := rfl
theorem ms' (a b : List D) : vD (r7' (.tup a) (.tup b)) Y = Y (db' a b) := rfl
theorem mu' (a : Tx) (b : List D) : vD (xw' (.str a) (.tup b)) Y = Y (db' (a.map chD) b) := rfl
theorem p7' (a : Tx) : vD (enB (.str a)) Y = Y (d5' 0 (a.map chD)) := rfl
theorem p8' (a : List D) : vD (enB (.lst a)) Y = Y (d5' 0 a) := rfl
theorem ja' (a : List D) : vD (Aw' (.lst a)) Y = Y a.reverse := rfl
theorem i9' (a : List D) : vD (Aw' (.tup a)) Y = Y a.reverse := rfl
theorem mH' (j : Int) : vD (eh' (.int j)) Q = vC (RgB 0 j = true) (Q (.lst (eq' 0 j))) := aT'
theorem Ak' {a b : Int} (h1 : 0 <= a) (h2 : b <= 16777216) (h3 : a <= 16777216) (h4 : 0 <= b) : RgB a b = true := by
  unfold RgB
  simp only [Bool.and_eq_true, decide_eq_true_eq]
  omega
theorem ui' (i : Nat) (d : D) (env : List (Option O)) (w : W) {N : PSt -> Prop} : vD (gN i d ⟨env, w⟩) N = oa' i env.length (N ⟨env.set i (some (.fz d)), w⟩) := aT'
theorem uh' (is : List Nat) (ds : List D) (ρ : PSt) {N : PSt -> Prop} : vD (gT is (.tup ds) ρ) N = vD (gNs is ds ρ) N := rfl
theorem p0' (ρ : PSt) {N : PSt -> Prop} : vD (gNs [] [] ρ) N = N ρ := rfl
theorem uf' (i : Nat) (is : List Nat) (d : D) (ds : List D) (ρ : PSt) {N : PSt -> Prop} : vD (gNs (i :: is) (d :: ds) ρ) N = vD (gN i d ρ) (fun ρ1 => vD (gNs is ds ρ1) N) := pl'
theorem pP' (w : W) (n : Nat) (k : D) : vD (ixW w (.obj n) k) Q = vOb w[n]? (fun os => vD (ixO (.lst os) k) Q) := by
  show vD (match w[n]? with | some (.lst os) => ixO (.lst os) k | _ => none) Q = _
  rcases w[n]? with _ | ob
  . rfl
  . cases ob <;> rfl
theorem pS' (os : List O) (i : Int) : vD (ixO (.lst os) (.int i)) Q = vD (ati os i) (fun o => vD (asF o) Q) := by
  show vD (match ati os i with | some (.fz d) => some d | _ => none) Q = _
  rcases ati os i with _ | o
  . rfl
  . cases o <;> rfl
theorem qa' (d : D) : vD (asF (.fz d)) Q = Q d := rfl
theorem p9' (d : List D) {Q : List D -> Prop} : vD (asL (.lst d)) Q = Q d := rfl
theorem mL' (d k : D) : vD (ixO (.fz d) k) Q = vD (pIx d k) Q := rfl
theorem my' (w : W) (n : Nat) (z : Int) (d : D) {N : W -> Prop} : vD (sB' w (.obj n) (.int z) d) N = vOb w[n]? (fun os => vD (ixn os.length z) (fun j => N (w.set n (.lst (os.set j (.fz d)))))) := by
  show vD (match w[n]? with | some (.lst os) => (ixn os.length z).map fun j => w.set n (.lst (os.set j (.fz d))) | _ => none) N = _
  rcases w[n]? with _ | ob
  . rfl
  . cases ob with
    | lst os => exact ce'
    | _ => rfl
theorem jd' (os : List O) : vD (oX' (.lst os)) Q = Q (.int os.length) := rfl
theorem je' (d : D) : vD (oX' (.fz d)) Q = vD (dH' d) Q := rfl
end
structure U {α : Sort _} (a : α) : Type where
@[irreducible] def wE {α : Type} (r : Res α) (Q : α -> PSt -> Prop) (X : Exc -> PSt -> Prop) (_ : U (Q, X) := U.mk) : Prop := vE r Q X
@[irreducible] def wS (o : Out) (D : En) (_ : U D := U.mk) : Prop := vS o D
@[irreducible] def wF (r : FRes) (Q : O -> W -> Prop) (X : Exc -> W -> Prop) (_ : U (Q, X) := U.mk) : Prop := vF r Q X
@[irreducible] def wD {α : Type} (o : Option α) (Q : α -> Prop) (_ : U Q := U.mk) : Prop := vD o Q
@[irreducible] def wI (k : Bool) (A B : Prop) (_ : U (A, B) := U.mk) : Prop := vI k A B
@[irreducible] def wB (d : D) (P : Bool -> Prop) (_ : U P := U.mk) : Prop := vB d P
@[irreducible] def wT (d : D) (P : Tx -> Prop) (_ : U P := U.mk) : Prop := vT d P
@[irreducible] def wN (d : D) (P : Int -> Prop) (_ : U P := U.mk) : Prop := vN d P
@[irreducible] def wV (o : Option (Option O)) (i : Nat) (ρ : PSt) (Q : D -> PSt -> Prop) (_ : U Q := U.mk) : Prop := vV o i ρ Q
@[irreducible] def wG (o : Option (Option O)) (i : Nat) (ρ : PSt) (Q : O -> PSt -> Prop) (_ : U Q := U.mk) : Prop := vG o i ρ Q
@[irreducible] def wO (o : Option (Option O)) (Q : O -> Prop) (_ : U Q := U.mk) : Prop := vO o Q
@[irreducible] def wL (o : Option (Option O)) (Q : List O -> Prop) (_ : U Q := U.mk) : Prop := vL o Q
@[irreducible] def oT' (n : Nat) (A : Prop) (_ : U A := U.mk) : Prop := iJ' n A
@[irreducible] def tW' (i n : Nat) (A : Prop) (_ : U A := U.mk) : Prop := oa' i n A
@[irreducible] def wC (c : Prop) (A : Prop) (_ : U A := U.mk) : Prop := vC c A
@[irreducible] def Aq' (o : Option Ob) (P : String -> List (String × O) -> Prop) (_ : U P := U.mk) : Prop := Ar' o P
@[irreducible] def wOb (o : Option Ob) (P : List O -> Prop) (_ : U P := U.mk) : Prop := vOb o P
theorem dg' {α : Type} (r : Res α) (Q : α -> PSt -> Prop) (X : Exc -> PSt -> Prop) (u : U (Q, X)) : wE r Q X u = vE r Q X := by unfold wE; rfl
theorem fO' (o : Out) (D : En) (u : U D) : wS o D u = vS o D := by unfold wS; rfl
theorem fR' (r : FRes) (Q : O -> W -> Prop) (X : Exc -> W -> Prop) (u : U (Q, X)) : wF r Q X u = vF r Q X := by unfold wF; rfl
theorem au' {α : Type} (o : Option α) (Q : α -> Prop) (u : U Q) : wD o Q u = vD o Q := by unfold wD; rfl
theorem fP' (k : Bool) (A B : Prop) (u : U (A, B)) : wI k A B u = vI k A B := by unfold wI; rfl
theorem h7' (d : D) (P : Bool -> Prop) (u : U P) : wB d P u = vB d P := by unfold wB; rfl
theorem h0' (d : D) (P : Tx -> Prop) (u : U P) : wT d P u = vT d P := by unfold wT; rfl
theorem h5' (d : D) (P : Int -> Prop) (u : U P) : wN d P u = vN d P := by unfold wN; rfl
theorem fN' (o : Option (Option O)) (i : Nat) (ρ : PSt) (Q : D -> PSt -> Prop) (u : U Q) : wV o i ρ Q u = vV o i ρ Q := by unfold wV; rfl
theorem fQ' (o : Option (Option O)) (i : Nat) (ρ : PSt) (Q : O -> PSt -> Prop) (u : U Q) : wG o i ρ Q u = vG o i ρ Q := by unfold wG; rfl
theorem h4' (o : Option (Option O)) (Q : O -> Prop) (u : U Q) : wO o Q u = vO o Q := by unfold wO; rfl
theorem h6' (o : Option (Option O)) (Q : List O -> Prop) (u : U Q) : wL o Q u = vL o Q := by unfold wL; rfl
theorem cS' (n : Nat) (A : Prop) (u : U A) : oT' n A u = iJ' n A := by unfold oT'; rfl
theorem cD' (i n : Nat) (A : Prop) (u : U A) : tW' i n A u = oa' i n A := by unfold tW'; rfl
theorem fn' (c : Prop) (A : Prop) (u : U A) : wC c A u = vC c A := by unfold wC; rfl
theorem df' (o : Option Ob) (P : List O -> Prop) (u : U P) : wOb o P u = vOb o P := by unfold wOb; rfl
theorem cl' (o : Option Ob) (P : String -> List (String × O) -> Prop) (u : U P) : Aq' o P u = Ar' o P := by unfold Aq'; rfl
local macro_rules | `(tactic| walk_at "z") => `(tactic| simp only [dg', fO', fR', au', fP', h7', h0', h5', fN', fQ', h4', h6', cS', cD', fn', df', cl'] at *)
section
variable {α β : Type} {Q : α -> PSt -> Prop} {X : Exc -> PSt -> Prop} {ρ : PSt} {P : D -> PSt -> Prop} {D0 : En}
theorem aR' (z : α) {Q : α -> Prop} : wD (some z) Q = Q z := by walk_at "z"; first | exact i2' .. | (apply i2' <;> assumption)
theorem A6' (k : Bool) {Q : Bool -> Prop} : wB (.bl k) Q = Q k := by walk_at "z"; first | exact pn' .. | (apply pn' <;> assumption)
theorem vo' (A B : Prop) : wI true A B = A := by walk_at "z"; first | exact t8' .. | (apply t8' <;> assumption)
theorem vp' (A B : Prop) : wI false A B = B := by walk_at "z"; first | exact t9' .. | (apply t9' <;> assumption)
theorem xR' (k : Bool) (A B : Prop) : wI (!k) A B = wI k B A := by walk_at "z"; first | exact mg' .. | (apply mg' <;> assumption)
theorem x_C (d : D) : wE (eC d ρ) P X = P d ρ := by walk_at "z"; first | exact xY' .. | (apply xY' <;> assumption)
theorem x_V (i : Nat) (env : List (Option O)) (w : W) : wE (eV i ⟨env, w⟩) P X = wV env[i]? i ⟨env, w⟩ P := by walk_at "z"; first | exact xW' .. | (apply xW' <;> assumption)
theorem AY' (d : D) (i : Nat) (ρ : PSt) : wV (some (some (.fz d))) i ρ P = P d ρ := by walk_at "z"; first | exact ph' .. | (apply ph' <;> assumption)
theorem xL' (os : List O) (i : Nat) (env : List (Option O)) (w : W) : wV (some (some (.lst os))) i ⟨env, w⟩ P = P (.lst (frzs os)) ⟨env.set i (some (.fz (.lst (frzs os)))), w⟩ := by walk_at "z"; first | exact mb' .. | (apply mb' <;> assumption)
theorem xK' (os : List O) (i : Nat) (env : List (Option O)) (w : W) : wV (some (some (.tup os))) i ⟨env, w⟩ P = P (.tup (frzs os)) ⟨env.set i (some (.fz (.tup (frzs os)))), w⟩ := by walk_at "z"; first | exact ma' .. | (apply ma' <;> assumption)
theorem xM' (ks : List D) (os : List O) (i : Nat) (env : List (Option O)) (w : W) : wV (some (some (.dct ks os))) i ⟨env, w⟩ P = P (.dct ks (frzs os)) ⟨env.set i (some (.fz (.dct ks (frzs os)))), w⟩ := by walk_at "z"; first | exact mc' .. | (apply mc' <;> assumption)
theorem A2' (d : D) (i : Nat) (ρ : PSt) {P : O -> PSt -> Prop} : wG (some (some (.fz d))) i ρ P = P (.fz d) ρ := by walk_at "z"; first | exact pj' .. | (apply pj' <;> assumption)
theorem xT' (os : List O) (i : Nat) (env : List (Option O)) (w : W) {P : O -> PSt -> Prop} : wG (some (some (.lst os))) i ⟨env, w⟩ P = P (.lst os) ⟨env.set i none, w⟩ := by walk_at "z"; first | exact mj' .. | (apply mj' <;> assumption)
theorem xS' (os : List O) (i : Nat) (env : List (Option O)) (w : W) {P : O -> PSt -> Prop} : wG (some (some (.tup os))) i ⟨env, w⟩ P = P (.tup os) ⟨env.set i none, w⟩ := by walk_at "z"; first | exact mi' .. | (apply mi' <;> assumption)
theorem xU' (ks : List D) (os : List O) (i : Nat) (env : List (Option O)) (w : W) {P : O -> PSt -> Prop} : wG (some (some (.dct ks os))) i ⟨env, w⟩ P = P (.dct ks os) ⟨env.set i none, w⟩ := by walk_at "z"; first | exact mk' .. | (apply mk' <;> assumption)
theorem vm' (o : O) {P : O -> Prop} : wO (some (some o)) P = P o := by walk_at "z"; first | exact i0' .. | (apply i0' <;> assumption)
theorem xP' (os : List O) {P : List O -> Prop} : wL (some (some (.lst os))) P = P os := by walk_at "z"; first | exact mf' .. | (apply mf' <;> assumption)
theorem Dd' (f : D -> D -> Option D) (a b : ME) : wE (eOp f a b ρ) P X = wE (a ρ) (fun x ρ1 => wE (b ρ1) (fun y ρ2 => wD (f x y) (fun z => P z ρ2)) X) X := by walk_at "z"; first | exact t4' .. | (apply t4' <;> assumption)
theorem Da' (f : D -> Option D) (a : ME) : wE (eUn f a ρ) P X = wE (a ρ) (fun x ρ1 => wD (f x) (fun z => P z ρ1)) X := by walk_at "z"; first | exact t1' .. | (apply t1' <;> assumption)
theorem AW' (a b : ME) : wE (tv' a b ρ) P X = wE (a ρ) (fun x ρ1 => wB x fun k => wI k (wE (b ρ1) P X) (P (.bl false) ρ1)) X := by walk_at "z"; first | exact pg' .. | (apply pg' <;> assumption)
theorem AO' (a : ME) : wE (zq' a ρ) P X = wE (a ρ) (fun x ρ1 => wB x fun k => P (.bl (!k)) ρ1) X := by walk_at "z"; first | exact o9' .. | (apply o9' <;> assumption)
theorem vg' (f g : D -> D -> Option D) (a b c : ME) : wE (gC' f g a b c ρ) P X = wE (a ρ) (fun x ρ1 => wE (b ρ1) (fun y ρ2 => wD (f x y) fun r => wB r fun k => wI k (wE (c ρ2) (fun z ρ3 => wD (g y z) fun v => P v ρ3) X) (P (.bl false) ρ2)) X) X := by walk_at "z"; first | exact iX' .. | (apply iX' <;> assumption)
theorem AP' {P : List D -> PSt -> Prop} : wE (aW' ρ) P X = P [] ρ := by walk_at "z"; first | exact pa' .. | (apply pa' <;> assumption)
theorem xH' (a : ME) (r : MA) {P : List D -> PSt -> Prop} : wE (ac' a r ρ) P X = wE (a ρ) (fun x ρ1 => wE (r ρ1) (fun xs ρ2 => P (x :: xs) ρ2) X) X := by walk_at "z"; first | exact l8' .. | (apply l8' <;> assumption)
theorem kG' {n : Nat} (h : n <= 16777216) (A : Prop) : oT' n A = A := by walk_at "z"; first | exact i1' .. | (apply i1' <;> assumption)
theorem AM' (as : MA) : wE (gP' as ρ) P X = wE (as ρ) (fun xs ρ1 => oT' xs.length (P (.tup xs) ρ1)) X := by walk_at "z"; first | exact o7' .. | (apply o7' <;> assumption)
theorem AQ' (as : MA) : wE (iM' as ρ) P X = wE (as ρ) (fun xs ρ1 => oT' xs.length (P (.lst xs) ρ1)) X := by walk_at "z"; first | exact pb' .. | (apply pb' <;> assumption)
theorem Df' (f : Tx -> List D -> Option D) (a : ME) (as : MA) : wE (eMt f a as ρ) P X = wE (a ρ) (fun x ρ1 => wT x fun s => wE (as ρ1) (fun ds ρ2 => wD (f s ds) fun z => P z ρ2) X) X := by walk_at "z"; first | exact t6' .. | (apply t6' <;> assumption)
theorem xN' (s : Tx) {P : Tx -> Prop} : wT (.str s) P = P s := by walk_at "z"; first | exact md' .. | (apply md' <;> assumption)
theorem xO' (s : Int) {P : Int -> Prop} : wN (.int s) P = P s := by walk_at "z"; first | exact me' .. | (apply me' <;> assumption)
theorem De' {P : Option Int -> PSt -> Prop} : wE (pNo ρ) P X = P none ρ := by walk_at "z"; first | exact t5' .. | (apply t5' <;> assumption)
theorem Db' (a : ME) {P : Option Int -> PSt -> Prop} : wE (pSo a ρ) P X = wE (a ρ) (fun x ρ1 => wN x fun i => P (some i) ρ1) X := by walk_at "z"; first | exact t2' .. | (apply t2' <;> assumption)
theorem Dc' (a : ME) (lo hi : MP) : wE (eSl a lo hi ρ) P X = wE (a ρ) (fun x ρ1 => wE (lo ρ1) (fun l ρ2 => wE (hi ρ2) (fun h ρ3 => wD (pSl x l h) fun z => P z ρ3) X) X) X := by walk_at "z"; first | exact t3' .. | (apply t3' <;> assumption)
theorem x_O (a : MO) : wE (eO a ρ) P X = wE (a ρ) (fun o ρ1 => P (frz o) ρ1) X := by walk_at "z"; first | exact xX' .. | (apply xX' <;> assumption)
variable {R : O -> PSt -> Prop}
theorem C9' (a : ME) : wE (oE a ρ) R X = wE (a ρ) (fun d ρ1 => R (.fz d) ρ1) X := by walk_at "z"; first | exact t0' .. | (apply t0' <;> assumption)
theorem C8' (i : Nat) (env : List (Option O)) (w : W) : wE (oV i ⟨env, w⟩) R X = wG env[i]? i ⟨env, w⟩ R := by walk_at "z"; first | exact tZ' .. | (apply tZ' <;> assumption)
theorem xI' (f : MF) (as : MA) : wE (az' f as ρ) R X = wE (as ρ) (fun ds ρ1 => wF (f ds ρ1.w) (fun o w => R o ⟨ρ1.env, w⟩) fun x w => X x ⟨ρ1.env, w⟩) X := by walk_at "z"; first | exact l9' .. | (apply l9' <;> assumption)
theorem xA' (a : ME) : wE (ip' a ρ) R X = wE (a ρ) (fun d ρ1 => wD (asL d) fun ds => R (.lst (ds.map .fz)) ρ1) X := by walk_at "z"; first | exact l1' .. | (apply l1' <;> assumption)
theorem va' : wE (iq' ρ) R X = R (.dct [] []) ρ := by walk_at "z"; first | exact iT' .. | (apply iT' <;> assumption)
theorem ve' (i : Nat) (a : ME) (env : List (Option O)) (w : W) : wE (hK' i a ⟨env, w⟩) P X = wL env[i]? fun _ => wE (a ⟨env, w⟩) (fun d ρ1 => wN d fun z => wL ρ1.env[i]? fun os => oT' os.length (wD (ixn os.length z) fun j => wD os[j]? fun o => wD (asF o) fun y => P y ⟨ρ1.env.set i (some (.lst (os.eraseIdx j))), ρ1.w⟩)) X := by walk_at "z"; first | exact iW' .. | (apply iW' <;> assumption)
theorem AS' (i : Nat) (b : ME) (env : List (Option O)) (w : W) : wE (sc' i b ⟨env, w⟩) P X = wO env[i]? fun _ => wE (b ⟨env, w⟩) (fun k ρ1 => wO ρ1.env[i]? fun o => wD (ixO o k) fun z => P z ρ1) X := by walk_at "z"; first | exact pd' .. | (apply pd' <;> assumption)
theorem xG' (i : Nat) : wE (gB' i ρ) P X = wO ρ.env[i]? fun o => wD (oX' o) fun z => P z ρ := by walk_at "z"; first | exact l7' .. | (apply l7' <;> assumption)
theorem AR' (a b : ME) : wE (iN' a b ρ) P X = wE (a ρ) (fun x ρ1 => wE (b ρ1) (fun y ρ2 => wD (ixW ρ2.w x y) fun z => P z ρ2) X) X := by walk_at "z"; first | exact pc' .. | (apply pc' <;> assumption)
theorem AN' (as : MA) : wE (yJ' as ρ) R X = wE (as ρ) (fun xs ρ1 => oT' xs.length (R (.fz (.obj ρ1.w.length)) ⟨ρ1.env, ρ1.w ++ [.lst (xs.map .fz)]⟩)) X := by walk_at "z"; first | exact o8' .. | (apply o8' <;> assumption)
theorem AT' (cs : List String) (a : ME) (f : String) : wE (de' cs a f ρ) P X = wE (a ρ) (fun x ρ1 => wD (gz' cs f ρ1.w x) fun z => P z ρ1) X := by walk_at "z"; first | exact pe' .. | (apply pe' <;> assumption)
theorem xF' (C : String) (init : MF) (as : MA) : wE (jD' C init as ρ) R X = wE (as ρ) (fun ds ρ1 => wF (init (.obj ρ1.w.length :: ds) (ρ1.w ++ [.ins C []])) (fun o w => o = .fz .non /\ R (.fz (.obj ρ1.w.length)) ⟨ρ1.env, w⟩) fun x w => X x ⟨ρ1.env, w⟩) X := by walk_at "z"; first | exact l6' .. | (apply l6' <;> assumption)
theorem xE' (C : List String) (m : String) (f : MF) (a : ME) (as : MA) : wE (k5' C m f a as ρ) R X = wE (a ρ) (fun x ρ1 => jW' C m ρ1.w x = true /\ wE (as ρ1) (fun ds ρ2 => wF (f (x :: ds) ρ2.w) (fun o w => R o ⟨ρ2.env, w⟩) fun x w => X x ⟨ρ2.env, w⟩) X) X := by walk_at "z"; first | exact l5' .. | (apply l5' <;> assumption)
variable {B : Bool -> PSt -> Prop}
theorem C7' (a : ME) : wE (tE a ρ) B X = wE (a ρ) (fun d ρ1 => wB d fun k => B k ρ1) X := by walk_at "z"; first | exact tY' .. | (apply tY' <;> assumption)
theorem xy' (a : MT) : wE (fA' a ρ) B X = wE (a ρ) (fun k ρ1 => B (!k) ρ1) X := by walk_at "z"; first | exact lZ' .. | (apply lZ' <;> assumption)
theorem xz' (a b : MT) : wE (sw' a b ρ) B X = wE (a ρ) (fun k ρ1 => wI k (wE (b ρ1) B X) (B false ρ1)) X := by walk_at "z"; first | exact l0' .. | (apply l0' <;> assumption)
theorem AJ' (a b : MT) : wE (tOr a b ρ) B X = wE (a ρ) (fun k ρ1 => wI k (B true ρ1) (wE (b ρ1) B X)) X := by walk_at "z"; first | exact o3' .. | (apply o3' <;> assumption)
theorem C6' : wE (tT ρ) B X = B true ρ := by walk_at "z"; first | exact tX' .. | (apply tX' <;> assumption)
variable {Y : List D -> PSt -> Prop}
theorem xD' (a : ME) : wE (eQ' a ρ) Y X = wE (a ρ) (fun d ρ1 => wD (dX' d) fun z => Y z ρ1) X := by walk_at "z"; first | exact l4' .. | (apply l4' <;> assumption)
theorem o0' (a : ME) : wE (bN' a ρ) Y X = wE (a ρ) (fun d ρ1 => wD (eJ' d) fun z => Y z ρ1) X := by walk_at "z"; first | exact fS' .. | (apply fS' <;> assumption)
theorem xC' (a b : ME) : wE (zd' a b ρ) Y X = wE (a ρ) (fun d ρ1 => wE (b ρ1) (fun e ρ2 => wD (r7' d e) fun z => Y z ρ2) X) X := by walk_at "z"; first | exact l3' .. | (apply l3' <;> assumption)
theorem vb' (a b : ME) : wE (rx' a b ρ) Y X = wE (a ρ) (fun d ρ1 => wE (b ρ1) (fun e ρ2 => wD (xw' d e) fun z => Y z ρ2) X) X := by walk_at "z"; first | exact iU' .. | (apply iU' <;> assumption)
theorem vc' (a : ME) : wE (oB' a ρ) Y X = wE (a ρ) (fun d ρ1 => wD (enB d) fun z => Y z ρ1) X := by walk_at "z"; first | exact iV' .. | (apply iV' <;> assumption)
theorem xB' (own : List Nat) (it : MI) (g : MG) (t : MT) (it1 : MI) (own1 : List Nat) (g1 : MG) (t1 : MT) (e : ME) : wE (xs' own it g t it1 own1 g1 t1 e ρ) R X = wE (it ρ) (fun xs ρ1 => wE (iv' own g t it1 own1 g1 t1 e xs [] ρ1) (fun ys ρ2 => R (.lst (ys.map .fz)) ⟨back ρ1.env own (al' own ρ2.env), ρ2.w⟩) X) X := by walk_at "z"; first | exact l2' .. | (apply l2' <;> assumption)
theorem Dg' (own : List Nat) (it : MI) (g : MG) (t : MT) (e : ME) : wE (eLc own it g t e ρ) P X = wE (it ρ) (fun xs ρ1 => wE (lcL own g t e xs [] ρ1) (fun ys ρ2 => P (.lst ys) ⟨back ρ1.env own (al' own ρ2.env), ρ2.w⟩) X) X := by walk_at "z"; first | exact t7' .. | (apply t7' <;> assumption)
theorem AK' (own : List Nat) (it : MI) (g : MG) (t : MT) (e : ME) : wE (oLc own it g t e ρ) R X = wE (it ρ) (fun xs ρ1 => wE (lcL own g t e xs [] ρ1) (fun ys ρ2 => R (.lst (ys.map .fz)) ⟨back ρ1.env own (al' own ρ2.env), ρ2.w⟩) X) X := by walk_at "z"; first | exact o4' .. | (apply o4' <;> assumption)
variable {N : PSt -> Prop} {rt : O -> W -> Prop} {bk ct : PSt -> Prop} {ex : Exc -> PSt -> Prop}
theorem ur' : wS (aS' ρ) ⟨N, rt, bk, ct, ex⟩ = N ρ := by walk_at "z"; first | exact mo' .. | (apply mo' <;> assumption)
theorem yf' (a : ME) : wS (kQ' a ρ) ⟨N, rt, bk, ct, ex⟩ = wE (a ρ) (fun _ ρ1 => N ρ1) ex := by walk_at "z"; first | exact mp' .. | (apply mp' <;> assumption)
theorem Bc' (a : MO) : wS (bQ' a ρ) ⟨N, rt, bk, ct, ex⟩ = wE (a ρ) (fun o ρ1 => rt o ρ1.w) ex := by walk_at "z"; first | exact pp' .. | (apply pp' <;> assumption)
theorem Bb' (a b : MS) : wS (aq' a b ρ) ⟨N, rt, bk, ct, ex⟩ = wS (a ρ) ⟨fun ρ1 => wS (b ρ1) ⟨N, rt, bk, ct, ex⟩, rt, bk, ct, ex⟩ := by walk_at "z"; first | exact kH' .. | (apply kH' <;> assumption)
theorem Dk' (t : MT) (a b : MS) : wS (sIf t a b ρ) ⟨N, rt, bk, ct, ex⟩ = wE (t ρ) (fun k ρ1 => wI k (wS (a ρ1) ⟨N, rt, bk, ct, ex⟩) (wS (b ρ1) ⟨N, rt, bk, ct, ex⟩)) ex := by walk_at "z"; first | exact ua' .. | (apply ua' <;> assumption)
theorem vk' {i n : Nat} (h : i < n) (A : Prop) : tW' i n A = A := by walk_at "z"; first | exact iY' .. | (apply iY' <;> assumption)
theorem Ba' (i : Nat) (a : MO) : wS (be' i a ρ) ⟨N, rt, bk, ct, ex⟩ = wE (a ρ) (fun o ρ1 => tW' i ρ1.env.length (N ⟨ρ1.env.set i (some o), ρ1.w⟩)) ex := by walk_at "z"; first | exact po' .. | (apply po' <;> assumption)
theorem Bh' (g : MG) (a : ME) : wS (ut' g a ρ) ⟨N, rt, bk, ct, ex⟩ = wE (a ρ) (fun d ρ1 => wD (g d ρ1) N) ex := by walk_at "z"; first | exact pu' .. | (apply pu' <;> assumption)
theorem Bg' (f : D -> D -> Option D) (i : Nat) (a : ME) : wS (vU' f i a ρ) ⟨N, rt, bk, ct, ex⟩ = wO ρ.env[i]? fun o => wD (asF o) fun d => wE (a ρ) (fun y ρ1 => wD (f d y) fun z => tW' i ρ1.env.length (N ⟨ρ1.env.set i (some (.fz z)), ρ1.w⟩)) ex := by walk_at "z"; first | exact pt' .. | (apply pt' <;> assumption)
theorem Bi' (i : Nat) (a : MO) : wS (ol' i a ρ) ⟨N, rt, bk, ct, ex⟩ = wL ρ.env[i]? fun _ => wE (a ρ) (fun o ρ1 => wL ρ1.env[i]? fun os => tW' os.length 16777216 (N ⟨ρ1.env.set i (some (.lst (os ++ [o]))), ρ1.w⟩)) ex := by walk_at "z"; first | exact pv' .. | (apply pv' <;> assumption)
theorem ye' (i : Nat) (k a : ME) : wS (qu' i k a ρ) ⟨N, rt, bk, ct, ex⟩ = wE (a ρ) (fun d ρ1 => wO ρ1.env[i]? fun _ => wE (k ρ1) (fun y ρ2 => wL ρ2.env[i]? fun os => wN y fun z => wD (ixn os.length z) fun j => N ⟨ρ2.env.set i (some (.lst (os.set j (.fz d)))), ρ2.w⟩) ex) ex := by walk_at "z"; first | exact mn' .. | (apply mn' <;> assumption)
theorem yd' (o k a : ME) : wS (if' o k a ρ) ⟨N, rt, bk, ct, ex⟩ = wE (a ρ) (fun d ρ1 => wE (o ρ1) (fun x ρ2 => wE (k ρ2) (fun y ρ3 => wD (sB' ρ3.w x y d) fun w => N ⟨ρ3.env, w⟩) ex) ex) ex := by walk_at "z"; first | exact mm' .. | (apply mm' <;> assumption)
theorem sI' (w : W) (b : Ob) (n : Nat) : Dh' w b (.obj n) = w.set n b := rfl
theorem Be' (cs : List String) (a : ME) (f : String) (v : MO) : wS (sFld cs a f v ρ) ⟨N, rt, bk, ct, ex⟩ = wE (v ρ) (fun o ρ1 => wE (a ρ1) (fun x ρ2 => wD (stF cs f o ρ2.w x) fun w => N ⟨ρ2.env, w⟩) ex) ex := by walk_at "z"; first | exact pr' .. | (apply pr' <;> assumption)
theorem Bd' (it : MI) (g : MG) (b : MS) : wS (eZ' it g b ρ) ⟨N, rt, bk, ct, ex⟩ = wE (it ρ) (fun ds ρ1 => wS (nL' g b ds ρ1) ⟨N, rt, bk, ct, ex⟩) ex := by walk_at "z"; first | exact pq' .. | (apply pq' <;> assumption)
theorem vS' (n : Nat) (t : MT) (b : MS) : wS (f7' n t b ρ) ⟨N, rt, bk, ct, ex⟩ = wS (dN' t b n ρ) ⟨N, rt, bk, ct, ex⟩ := by walk_at "z"; first | exact i5' .. | (apply i5' <;> assumption)
theorem yI' {k n : Nat} {b : MS} {ds : List D} {w : W} {Q : O -> W -> Prop} {X : Exc -> W -> Prop} (q : wS (b ⟨ds.map (fun d => some (.fz d)) ++ List.replicate (n - k) none, w⟩) ⟨fun ρ => Q (.fz .non) ρ.w, Q, fun _ => False, fun _ => False, fun x ρ => X x ρ.w⟩) (h : ds.length = k) : wF (fnM k n b ds w) Q X := by walk_at "z"; first | exact mq' .. | (apply mq' <;> assumption)
theorem A5' (o : O) (w : W) {Q : O -> W -> Prop} {X : Exc -> W -> Prop} : wF (.ok o w) Q X = Q o w := by walk_at "z"; first | exact pk' .. | (apply pk' <;> assumption)
theorem xV' (x : Exc) (w : W) {Q : O -> W -> Prop} {X : Exc -> W -> Prop} : wF (.exc x w) Q X = X x w := by walk_at "z"; first | exact ml' .. | (apply ml' <;> assumption)
theorem wF.mono {r : FRes} {Q Q' : O -> W -> Prop} {X : Exc -> W -> Prop} (h : wF r Q FX) (k : ∀ o w, Q o w -> Q' o w) : wF r Q' X := by walk_at "z"; first | exact vF.mono .. | (apply vF.mono <;> assumption)
theorem wF.exi {r : FRes} {Q : O -> W -> Prop} (h : wF r Q FX) : ∃ o w, r = .ok o w /\ Q o w := by walk_at "z"; first | exact vF.exi .. | (apply vF.exi <;> assumption)
theorem wF.of {r : FRes} {Q : O -> W -> Prop} {X : Exc -> W -> Prop} {o : O} {w : W} (e : r = .ok o w) (h : Q o w) : wF r Q X := by walk_at "z"; first | exact vF.of .. | (apply vF.of <;> assumption)
theorem wS.mono {o : Out} {D1 D2 : En} (h : wS o D1) (h1 : ∀ ρ, D1.nx ρ -> D2.nx ρ) (h2 : ∀ o w, D1.rt o w -> D2.rt o w) (h3 : ∀ ρ, D1.bk ρ -> D2.bk ρ) (h4 : ∀ ρ, D1.ct ρ -> D2.ct ρ) (h5 : ∀ x ρ, D1.ex x ρ -> D2.ex x ρ) : wS o D2 := by walk_at "z"; first | exact vS.mono .. | (apply vS.mono <;> assumption)
theorem wE.mono {r : Res α} {Q Q' : α -> PSt -> Prop} {X X' : Exc -> PSt -> Prop} (h : wE r Q X) (k : ∀ a ρ, Q a ρ -> Q' a ρ) (k2 : ∀ x ρ, X x ρ -> X' x ρ) : wE r Q' X' := by walk_at "z"; first | exact vE.mono .. | (apply vE.mono <;> assumption)
theorem vO' {a b : MS} (J : PSt -> Prop) (h : wS (a ρ) ⟨J, rt, bk, ct, ex⟩) (k : ∀ ρ1, J ρ1 -> wS (b ρ1) ⟨N, rt, bk, ct, ex⟩) : wS (aq' a b ρ) ⟨N, rt, bk, ct, ex⟩ := by walk_at "z"; first | exact i4' .. | (apply i4' <;> assumption)
theorem aP' {p : Prop} [Decidable p] {A B : Prop} (h1 : p -> A) (h2 : ¬ p -> B) : wI (decide p) A B := by walk_at "z"; first | exact mh' .. | (apply mh' <;> assumption)
theorem bF' {γ : Type} {g : MG} {b : MS} {f : γ -> D} {cs : List γ} (Inv : List γ -> PSt -> Prop) (h0 : Inv [] ρ)
    (step : ∀ pre c post ρ, cs = pre ++ c :: post -> Inv pre ρ -> wD (g (f c) ρ) fun ρ1 => wS (b ρ1) ⟨Inv (pre ++ [c]), rt, N, Inv (pre ++ [c]), ex⟩)
    (hend : ∀ ρ, Inv cs ρ -> N ρ) : wS (nL' g b (cs.map f) ρ) ⟨N, rt, bk, ct, ex⟩ := by walk_at "z"; first | exact fU' .. | (apply fU' <;> assumption)
theorem d4' {g : MG} {b : MS} {lo : Int} {n : Nat} (Inv : Nat -> PSt -> Prop) (h0 : Inv 0 ρ)
    (step : ∀ k ρ, k < n -> Inv k ρ -> wD (g (.int (lo + (k : Nat))) ρ) fun ρ1 => wS (b ρ1) ⟨Inv (k + 1), rt, N, Inv (k + 1), ex⟩)
    (hend : ∀ ρ, Inv n ρ -> N ρ) : wS (nL' g b (rgI lo n) ρ) ⟨N, rt, bk, ct, ex⟩ := by walk_at "z"; first | exact i6' .. | (apply i6' <;> assumption)
theorem ea' {t : MT} {b : MS} {n : Nat} (Inv : Nat -> PSt -> Prop) (m : Nat) (hm : m < n) (h0 : Inv m ρ)
    (step : ∀ m ρ, Inv m ρ -> wE (t ρ) (fun k ρ1 => wI k (wS (b ρ1) ⟨fun ρ2 => ∃ m', m' < m /\ Inv m' ρ2, rt, N, fun ρ2 => ∃ m', m' < m /\ Inv m' ρ2, ex⟩) (N ρ1)) ex) :
    wS (dN' t b n ρ) ⟨N, rt, bk, ct, ex⟩ := by walk_at "z"; first | exact fT' .. | (apply fT' <;> assumption)
theorem fa' {own : List Nat} {g : MG} {t : MT} {e : ME} {γ : Type} {f : γ -> D} {cs : List γ} {Q : List D -> PSt -> Prop} (hl : cs.length <= 16777216) (Inv : List γ -> List D -> PSt -> Prop) (h0 : Inv [] [] ρ)
    (step : ∀ pre c post acc ρ, cs = pre ++ c :: post -> Inv pre acc ρ -> wD (g (f c) ⟨al' own ρ.env, ρ.w⟩) fun ρ1 => wE (t ρ1) (fun k ρ2 => wI k (wE (e ρ2) (fun y ρ3 => Inv (pre ++ [c]) (acc ++ [y]) ρ3) PX) (Inv (pre ++ [c]) acc ρ2)) PX)
    (hend : ∀ acc ρ, Inv cs acc ρ -> Q acc ρ) : wE (lcL own g t e (cs.map f) [] ρ) Q X := by walk_at "z"; first | exact mr' .. | (apply mr' <;> assumption)
end
theorem vn' (C : String) (fs : List (String × O)) {P : String -> List (String × O) -> Prop} : Aq' (some (.ins C fs)) P = P C fs := by simp only [cl']; exact pi' ..
theorem BN' (cs : List String) (f : String) (o : O) (w : W) (n : Nat) {N : W -> Prop} : wD (stF cs f o w (.obj n)) N = Aq' w[n]? (fun C fs => wC (C ∈ cs /\ fs.length < 1000) (N (w.set n (.ins C (qP' f o fs))))) := by simp only [au', cl', fn']; exact vy' ..
theorem sq' (w : W) (n : Nat) {Q : List O -> Prop} : vD (CY' w (.obj n)) Q = vOb w[n]? Q := by
  show vD (match w[n]? with | some (.lst os) => some os | _ => none) Q = _
  rcases w[n]? with _ | b
  . rfl
  cases b <;> rfl
theorem zP' (w : W) (n : Nat) {Q : List O -> Prop} : wD (CY' w (.obj n)) Q = wOb w[n]? Q := by simp only [dg', fO', fR', au', df']; exact sq' w n
theorem sr' (w : W) (n : Nat) {Q : D -> Prop} : vD (CZ' w (.obj n)) Q = vOb w[n]? fun os => Q (.int os.length) := by
  show vD (match w[n]? with | some (.lst os) => some (.int os.length) | _ => none) Q = _
  rcases w[n]? with _ | b
  . rfl
  cases b <;> rfl
theorem zS' (w : W) (n : Nat) {Q : D -> Prop} : wD (CZ' w (.obj n)) Q = wOb w[n]? fun os => Q (.int os.length) := by simp only [dg', fO', fR', au', df']; exact sr' w n
theorem vl' (os : List O) {P : List O -> Prop} : wOb (some (.lst os)) P = P os := by walk_at "z"; first | exact iZ' .. | (apply iZ' <;> assumption)
theorem sm' {c : Prop} (h : c) (A : Prop) : wC c A = A := by walk_at "z"; first | exact pm' .. | (apply pm' <;> assumption)
theorem vr' (A : Prop) : wC True A = A := by walk_at "z"; first | exact i3' .. | (apply i3' <;> assumption)
theorem eW' {α : Type} {c : Prop} [Decidable c] {x : α} {Q : α -> Prop} : wD (if c then some x else none) Q = wC c (Q x) := by walk_at "z"; first | exact aT' .. | (apply aT' <;> assumption)
theorem lY' {α β : Type} {f : α -> β} {o : Option α} {Q : β -> Prop} : wD (o.map f) Q = wD o (fun a => Q (f a)) := by walk_at "z"; first | exact ce' .. | (apply ce' <;> assumption)
section
variable {Q : D -> Prop} {Y : List D -> Prop}
theorem z8' (i j : Int) : wD (bX' (.int i) (.int j)) Q = Q (.int (i + j)) := by walk_at "z"; first | exact mU' .. | (apply mU' <;> assumption)
theorem z7' (a b : Tx) : wD (bX' (.str a) (.str b)) Q = oT' (a.length + b.length) (Q (.str (a ++ b))) := by walk_at "z"; first | exact mS' .. | (apply mS' <;> assumption)
theorem u0' (a b : List D) : wD (bX' (.lst a) (.lst b)) Q = oT' (a.length + b.length) (Q (.lst (a ++ b))) := by walk_at "z"; first | exact mT' .. | (apply mT' <;> assumption)
theorem z5' (a b : List D) : wD (bX' (.tup a) (.tup b)) Q = oT' (a.length + b.length) (Q (.tup (a ++ b))) := by walk_at "z"; first | exact mR' .. | (apply mR' <;> assumption)
theorem xe' (i j : Int) : wD (qT' (.int i) (.int j)) Q = Q (.int (i + j)) := by walk_at "z"; first | exact jh' .. | (apply jh' <;> assumption)
theorem BL' (i j : Int) : wD (uC' (.int i) (.int j)) Q = Q (.int (i - j)) := by walk_at "z"; first | exact py' .. | (apply py' <;> assumption)
theorem B2' (i j : Int) : wD (kC' (.int i) (.int j)) Q = wC (((-18446744073709551616 < i /\ i < 18446744073709551616) \/ (-18446744073709551616 < j /\ j < 18446744073709551616)) \/ ((-2582249878086908589655919172003011874329705792829223512830659356540647622016841194629645353280137831435903171972747493376 < i /\ i < 2582249878086908589655919172003011874329705792829223512830659356540647622016841194629645353280137831435903171972747493376) /\ (-2582249878086908589655919172003011874329705792829223512830659356540647622016841194629645353280137831435903171972747493376 < j /\ j < 2582249878086908589655919172003011874329705792829223512830659356540647622016841194629645353280137831435903171972747493376))) (Q (.int (i * j))) := by walk_at "z"; first | exact pJ' .. | (apply pJ' <;> assumption)
theorem zM' (a : Tx) (j : Int) : wD (kC' (.str a) (.int j)) Q = wC (j < 4611686018427387904 /\ -4611686018427387904 <= j /\ a.length * j.toNat <= 16777216) (Q (.str (List.replicate j.toNat a).flatten)) := by walk_at "z"; first | exact mF' .. | (apply mF' <;> assumption)
theorem zN' (a : List D) (j : Int) : wD (kC' (.lst a) (.int j)) Q = wC (j < 4611686018427387904 /\ -4611686018427387904 <= j /\ a.length * j.toNat <= 16777216) (Q (.lst (List.replicate j.toNat a).flatten)) := by walk_at "z"; first | exact mG' .. | (apply mG' <;> assumption)
theorem z4' (i j : Int) : wD (jx' (.int i) (.int j)) Q = wC (0 < j /\ j < 1606938044258990275541962092341162602522202993782792835301376) (Q (.int (i / j))) := by walk_at "z"; first | exact mQ' .. | (apply mQ' <;> assumption)
theorem B3' (i j : Int) : wD (kD' (.int i) (.int j)) Q = wC (0 < j) (Q (.int (i % j))) := by walk_at "z"; first | exact pK' .. | (apply pK' <;> assumption)
theorem BW' (i j : Int) : wD (yF' (.int i) (.int j)) Q = wC (0 <= j /\ j <= 1000 /\ -18446744073709551616 < i /\ i < 18446744073709551616) (Q (.int (i ^ j.toNat))) := by walk_at "z"; first | exact pF' .. | (apply pF' <;> assumption)
theorem BX' (i : Int) : wD (CT' (.int i)) Q = Q (.int (-i)) := by walk_at "z"; first | exact pG' .. | (apply pG' <;> assumption)
theorem Co' (i j : Int) : wD (pEq (.int i) (.int j)) Q = Q (.bl (decide (i = j))) := by walk_at "z"; first | exact p5' .. | (apply p5' <;> assumption)
theorem Cn' (i j : Tx) : wD (pEq (.str i) (.str j)) Q = Q (.bl (decide (i = j))) := by walk_at "z"; first | exact p4' .. | (apply p4' <;> assumption)
theorem Cp' (i j : Bool) : wD (pEq (.bl i) (.bl j)) Q = Q (.bl (i == j)) := by walk_at "z"; first | exact p6' .. | (apply p6' <;> assumption)
theorem B0' (i j : Int) : wD (pNe (.int i) (.int j)) Q = Q (.bl (!decide (i = j))) := by walk_at "z"; first | exact pI' .. | (apply pI' <;> assumption)
theorem BY' (i j : Tx) : wD (pNe (.str i) (.str j)) Q = Q (.bl (!decide (i = j))) := by walk_at "z"; first | exact pH' .. | (apply pH' <;> assumption)
theorem Dz' (x y : D) : wD (pNe x y) Q = wC (dat x = true /\ dat y = true /\ dep x <= 64 /\ dep y <= 64) (Q (.bl (!eqb x y))) := by walk_at "z"; first | exact ub' .. | (apply ub' <;> assumption)
theorem Cd' (x : D) : wD (pIs x .non) Q = Q (.bl (dq' x)) := by walk_at "z"; first | exact pV' .. | (apply pV' <;> assumption)
theorem Ce' (x y : Bool) : wD (pIs (.bl x) (.bl y)) Q = Q (.bl (x == y)) := by walk_at "z"; first | exact pW' .. | (apply pW' <;> assumption)
theorem tH' (x : D) : wD (e2' x .non) Q = Q (.bl (!dq' x)) := by walk_at "z"; first | exact he' .. | (apply he' <;> assumption)
theorem tI' (x y : Bool) : wD (e2' (.bl x) (.bl y)) Q = Q (.bl (!(x == y))) := by walk_at "z"; first | exact hf' .. | (apply hf' <;> assumption)
theorem DA' (i j : Int) : wD (pLt (.int i) (.int j)) Q = Q (.bl (decide (i < j))) := by walk_at "z"; first | exact uc' .. | (apply uc' <;> assumption)
theorem DB' (i j : Int) : wD (pLe (.int i) (.int j)) Q = Q (.bl (decide (i <= j))) := by walk_at "z"; first | exact ud' .. | (apply ud' <;> assumption)
theorem DC' (i j : Int) : wD (pGt (.int i) (.int j)) Q = Q (.bl (decide (j < i))) := by walk_at "z"; first | exact ue' .. | (apply ue' <;> assumption)
theorem DE' (i j : Int) : wD (pGe (.int i) (.int j)) Q = Q (.bl (decide (j <= i))) := by walk_at "z"; first | exact ug' .. | (apply ug' <;> assumption)
theorem B6' (i j : Tx) : wD (pLt (.str i) (.str j)) Q = Q (.bl (decide (i < j))) := by walk_at "z"; first | exact pN' .. | (apply pN' <;> assumption)
theorem B7' (i j : Tx) : wD (pLe (.str i) (.str j)) Q = Q (.bl (!decide (j < i))) := by walk_at "z"; first | exact pO' .. | (apply pO' <;> assumption)
theorem Ch' (i j : Tx) : wD (pGt (.str i) (.str j)) Q = Q (.bl (decide (j < i))) := by walk_at "z"; first | exact pZ' .. | (apply pZ' <;> assumption)
theorem Cj' (i j : Tx) : wD (pGe (.str i) (.str j)) Q = Q (.bl (!decide (i < j))) := by walk_at "z"; first | exact p3' .. | (apply p3' <;> assumption)
theorem Cg' (c : Nat) (s : Tx) : wD (pIn (.str [c]) (.str s)) Q = Q (.bl (decide (c ∈ s))) := by walk_at "z"; first | exact pY' .. | (apply pY' <;> assumption)
theorem zK' (c : Nat) (s : Tx) : wD (gh' (.str [c]) (.str s)) Q = Q (.bl (!decide (c ∈ s))) := by walk_at "z"; first | exact mE' .. | (apply mE' <;> assumption)
theorem uY' (i : Int) (ns : List Int) : wD (pIn (.int i) (.tup (ns.map .int))) Q = Q (.bl (decide (i ∈ ns))) := by walk_at "z"; first | exact mN' .. | (apply mN' <;> assumption)
theorem uZ' (i : Int) (ns : List Int) : wD (pIn (.int i) (.lst (ns.map .int))) Q = Q (.bl (decide (i ∈ ns))) := by walk_at "z"; first | exact mO' .. | (apply mO' <;> assumption)
theorem zT' (s : Tx) : wD (dH' (.str s)) Q = Q (.int s.length) := by walk_at "z"; first | exact mJ' .. | (apply mJ' <;> assumption)
theorem zV' (s : List D) : wD (dH' (.lst s)) Q = Q (.int s.length) := by walk_at "z"; first | exact mK' .. | (apply mK' <;> assumption)
theorem nU' (s : List D) : wD (dH' (.tup s)) Q = Q (.int s.length) := by walk_at "z"; first | exact mI' .. | (apply mI' <;> assumption)
theorem B9' (s : Tx) (i : Int) : wD (pIx (.str s) (.int i)) Q = wD (ati s i) (fun c => Q (.str [c])) := by walk_at "z"; first | exact pR' .. | (apply pR' <;> assumption)
theorem Cc' (s : List D) (i : Int) : wD (pIx (.lst s) (.int i)) Q = wD (ati s i) Q := by walk_at "z"; first | exact pT' .. | (apply pT' <;> assumption)
theorem w7' (s : List D) (i : Int) : wD (pIx (.tup s) (.int i)) Q = wD (ati s i) Q := by walk_at "z"; first | exact pQ' .. | (apply pQ' <;> assumption)
theorem BP' (s : Tx) (lo hi : Option Int) : wD (pSl (.str s) lo hi) Q = Q (.str (cut s lo hi)) := by walk_at "z"; first | exact pA' .. | (apply pA' <;> assumption)
theorem BR' (s : List D) (lo hi : Option Int) : wD (pSl (.lst s) lo hi) Q = Q (.lst (cut s lo hi)) := by walk_at "z"; first | exact pC' .. | (apply pC' <;> assumption)
theorem BO' (s : List D) (lo hi : Option Int) : wD (pSl (.tup s) lo hi) Q = Q (.tup (cut s lo hi)) := by walk_at "z"; first | exact pz' .. | (apply pz' <;> assumption)
theorem BQ' (s : List D) (lo hi : Option Int) : wD (pSl (.scr s) lo hi) Q = Q (.lst (cut s lo hi)) := by walk_at "z"; first | exact pB' .. | (apply pB' <;> assumption)
theorem zF' (s : Tx) : wD (Ax' (.str s)) Q = Q (.str s.reverse) := by walk_at "z"; first | exact mC' .. | (apply mC' <;> assumption)
theorem zG' (s : List D) : wD (Ax' (.lst s)) Q = Q (.lst s.reverse) := by walk_at "z"; first | exact mD' .. | (apply mD' <;> assumption)
theorem zX' (l : List Tx) : wD (la' [] [.lst (l.map .str)]) Q = oT' (l.map List.length).sum (Q (.str l.flatten)) := by walk_at "z"; first | exact h8' .. | (apply h8' <;> assumption)
theorem w5' (l : Tx) : wD (la' [] [.lst (l.map chD)]) Q = oT' l.length (Q (.str l)) := by walk_at "z"; first | exact jf' .. | (apply jf' <;> assumption)
theorem z3' (a b : Tx) : wD (rb' a [.str b]) Q = Q (.int (fnd (nK' a b))) := by walk_at "z"; first | exact mP' .. | (apply mP' <;> assumption)
theorem xa' (a b : Tx) : wD (jJ' a [.str b]) Q = wD (nK' a b) (fun i => Q (.int (i : Nat))) := by walk_at "z"; first | exact jg' .. | (apply jg' <;> assumption)
theorem wP' (s : Tx) : wD (uB' (.str s)) Q = wC (s.all (fun c => decide (c < 128)) = true /\ s.length <= 5592405) (Q (.str (s.map up1))) := by walk_at "z"; first | exact i7' .. | (apply i7' <;> assumption)
theorem Cf' (i : Int) : wD (iL' (.int i)) Q = Q (.int i) := by walk_at "z"; first | exact pX' .. | (apply pX' <;> assumption)
theorem z0' (b : Bool) : wD (iL' (.bl b)) Q = Q (.int (if b then 1 else 0)) := by walk_at "z"; first | exact mM' .. | (apply mM' <;> assumption)
theorem Cw' (i : Int) : wD (Ay' (.int i)) Q = Q (.int (if i < 0 then -i else i)) := by walk_at "z"; first | exact qd' .. | (apply qd' <;> assumption)
theorem B5' (i j : Int) : wD (qS' (.int i) (.int j)) Q = Q (.int (max i j)) := by walk_at "z"; first | exact pM' .. | (apply pM' <;> assumption)
theorem B4' (i j : Int) : wD (or' (.int i) (.int j)) Q = Q (.int (min i j)) := by walk_at "z"; first | exact pL' .. | (apply pL' <;> assumption)
theorem uX' (s : List D) : wD (cb' (.lst s)) Q = Q (.tup s) := by walk_at "z"; first | exact mx' .. | (apply mx' <;> assumption)
theorem zA' (s : List D) : wD (cb' (.tup s)) Q = Q (.tup s) := by walk_at "z"; first | exact mw' .. | (apply mw' <;> assumption)
theorem wZ' (s : List D) : wD (e1' (.lst s)) Q = Q (.lst s) := by walk_at "z"; first | exact jc' .. | (apply jc' <;> assumption)
theorem wX' (s : List D) : wD (e1' (.tup s)) Q = Q (.lst s) := by walk_at "z"; first | exact jb' .. | (apply jb' <;> assumption)
theorem wS' (s : Tx) : wD (cY' (.str s)) Q = wC (s.length < 64) (Q (.lst ((b6' s).map chD))) := by walk_at "z"; first | exact i8' .. | (apply i8' <;> assumption)
theorem bl' (t : String) (d : D) : wD (b0' t d) Q = wD (tyn d) (fun n => Q (.bl (n == t || (n == "bool" && t == "int")))) := by walk_at "z"; first | exact pU' .. | (apply pU' <;> assumption)
theorem BK' (l : List Int) : wD (CS' (.lst (l.map .int))) Q = Q (.int l.sum) := by walk_at "z"; first | exact px' .. | (apply px' <;> assumption)
theorem xd' (l : List Bool) : wD (v8' (.lst (l.map .bl))) Q = Q (.bl (l.all id)) := by walk_at "z"; first | exact qc' .. | (apply qc' <;> assumption)
theorem Cv' (l : List Bool) : wD (CU' (.lst (l.map .bl))) Q = Q (.bl (l.any id)) := by walk_at "z"; first | exact qb' .. | (apply qb' <;> assumption)
theorem zE' (s : List D) : wD (dX' (.lst s)) Y = Y s := by walk_at "z"; first | exact mB' .. | (apply mB' <;> assumption)
theorem nS' (s : List D) : wD (dX' (.tup s)) Y = Y s := by walk_at "z"; first | exact mz' .. | (apply mz' <;> assumption)
theorem zD' (s : Tx) : wD (dX' (.str s)) Y = Y (s.map chD) := by walk_at "z"; first | exact mA' .. | (apply mA' <;> assumption)
theorem BV' (j : Int) : wD (eJ' (.int j)) Y = wC (-4611686018427387904 <= j /\ j < 4611686018427387904) (Y (rgI 0 j.toNat)) := by walk_at "z"; first | exact pE' .. | (apply pE' <;> assumption)
theorem BU' (i j : Int) : wD (qR' (.int i) (.int j)) Y = wC ((-4611686018427387904 <= i /\ i < 4611686018427387904) /\ (-4611686018427387904 <= j /\ j < 4611686018427387904)) (Y (rgI i (j - i).toNat)) := by walk_at "z"; first | exact pD' .. | (apply pD' <;> assumption)
theorem zw' (a b : Tx) : wD (r7' (.str a) (.str b)) Y = Y (db' (a.map chD) (b.map chD)) := by walk_at "z"; first | exact mt' .. | (apply mt' <;> assumption)
theorem zy' (a b : List D) : wD (r7' (.lst a) (.lst b)) Y = Y (db' a b) := by walk_at "z"; first | exact mv' .. | (apply mv' <;> assumption)
theorem zu' (a b : List D) : wD (r7' (.tup a) (.tup b)) Y = Y (db' a b) := by walk_at "z"; first | exact ms' .. | (apply ms' <;> assumption)
theorem uW' (a : Tx) (b : List D) : wD (xw' (.str a) (.tup b)) Y = Y (db' (a.map chD) b) := by walk_at "z"; first | exact mu' .. | (apply mu' <;> assumption)
theorem Cq' (a : Tx) : wD (enB (.str a)) Y = Y (d5' 0 (a.map chD)) := by walk_at "z"; first | exact p7' .. | (apply p7' <;> assumption)
theorem Cr' (a : List D) : wD (enB (.lst a)) Y = Y (d5' 0 a) := by walk_at "z"; first | exact p8' .. | (apply p8' <;> assumption)
theorem wV' (a : List D) : wD (Aw' (.lst a)) Y = Y a.reverse := by walk_at "z"; first | exact ja' .. | (apply ja' <;> assumption)
theorem wU' (a : List D) : wD (Aw' (.tup a)) Y = Y a.reverse := by walk_at "z"; first | exact i9' .. | (apply i9' <;> assumption)
theorem zQ' (j : Int) : wD (eh' (.int j)) Q = wC (RgB 0 j = true) (Q (.lst (eq' 0 j))) := by walk_at "z"; first | exact mH' .. | (apply mH' <;> assumption)
theorem DG' (i : Nat) (d : D) (env : List (Option O)) (w : W) {N : PSt -> Prop} : wD (gN i d ⟨env, w⟩) N = tW' i env.length (N ⟨env.set i (some (.fz d)), w⟩) := by walk_at "z"; first | exact ui' .. | (apply ui' <;> assumption)
theorem DF' (is : List Nat) (ds : List D) (ρ : PSt) {N : PSt -> Prop} : wD (gT is (.tup ds) ρ) N = wD (gNs is ds ρ) N := by walk_at "z"; first | exact uh' .. | (apply uh' <;> assumption)
theorem Ci' (ρ : PSt) {N : PSt -> Prop} : wD (gNs [] [] ρ) N = N ρ := by walk_at "z"; first | exact p0' .. | (apply p0' <;> assumption)
theorem DD' (i : Nat) (is : List Nat) (d : D) (ds : List D) (ρ : PSt) {N : PSt -> Prop} : wD (gNs (i :: is) (d :: ds) ρ) N = wD (gN i d ρ) (fun ρ1 => wD (gNs is ds ρ1) N) := by walk_at "z"; first | exact uf' .. | (apply uf' <;> assumption)
theorem B8' (w : W) (n : Nat) (k : D) : wD (ixW w (.obj n) k) Q = wOb w[n]? (fun os => wD (ixO (.lst os) k) Q) := by walk_at "z"; first | exact pP' .. | (apply pP' <;> assumption)
theorem Ca' (os : List O) (i : Int) : wD (ixO (.lst os) (.int i)) Q = wD (ati os i) (fun o => wD (asF o) Q) := by walk_at "z"; first | exact pS' .. | (apply pS' <;> assumption)
theorem Cu' (d : D) : wD (asF (.fz d)) Q = Q d := by walk_at "z"; first | exact qa' .. | (apply qa' <;> assumption)
theorem Ct' (d : List D) {Q : List D -> Prop} : wD (asL (.lst d)) Q = Q d := by walk_at "z"; first | exact p9' .. | (apply p9' <;> assumption)
theorem zY' (d k : D) : wD (ixO (.fz d) k) Q = wD (pIx d k) Q := by walk_at "z"; first | exact mL' .. | (apply mL' <;> assumption)
theorem zC' (w : W) (n : Nat) (z : Int) (d : D) {N : W -> Prop} : wD (sB' w (.obj n) (.int z) d) N = wOb w[n]? (fun os => wD (ixn os.length z) (fun j => N (w.set n (.lst (os.set j (.fz d)))))) := by walk_at "z"; first | exact my' .. | (apply my' <;> assumption)
theorem w2' (os : List O) : wD (oX' (.lst os)) Q = Q (.int os.length) := by walk_at "z"; first | exact jd' .. | (apply jd' <;> assumption)
theorem w3' (d : D) : wD (oX' (.fz d)) Q = wD (dH' d) Q := by walk_at "z"; first | exact je' .. | (apply je' <;> assumption)
end
theorem lu'  {Q : D -> Prop} : wD (b0' "int" .non) Q = Q (.bl false) := by rw [bl', au']; rfl
theorem oG' (a : Bool) {Q : D -> Prop} : wD (b0' "int" (.bl a)) Q = Q (.bl true) := by rw [bl', au']; rfl
theorem lw' (a : Int) {Q : D -> Prop} : wD (b0' "int" (.int a)) Q = Q (.bl true) := by rw [bl', au']; rfl
theorem lt' (a : Tx) {Q : D -> Prop} : wD (b0' "int" (.str a)) Q = Q (.bl false) := by rw [bl', au']; rfl
theorem ls' (a : List D) {Q : D -> Prop} : wD (b0' "int" (.tup a)) Q = Q (.bl false) := by rw [bl', au']; rfl
theorem lv' (a : List D) {Q : D -> Prop} : wD (b0' "int" (.lst a)) Q = Q (.bl false) := by rw [bl', au']; rfl
theorem lx' (a b : List D) {Q : D -> Prop} : wD (b0' "int" (.dct a b)) Q = Q (.bl false) := by rw [bl', au']; rfl
theorem kj'  {Q : D -> Prop} : wD (b0' "bool" .non) Q = Q (.bl false) := by rw [bl', au']; rfl
theorem lz' (a : Bool) {Q : D -> Prop} : wD (b0' "bool" (.bl a)) Q = Q (.bl true) := by rw [bl', au']; rfl
theorem kl' (a : Int) {Q : D -> Prop} : wD (b0' "bool" (.int a)) Q = Q (.bl false) := by rw [bl', au']; rfl
theorem ki' (a : Tx) {Q : D -> Prop} : wD (b0' "bool" (.str a)) Q = Q (.bl false) := by rw [bl', au']; rfl
theorem kh' (a : List D) {Q : D -> Prop} : wD (b0' "bool" (.tup a)) Q = Q (.bl false) := by rw [bl', au']; rfl
theorem kk' (a : List D) {Q : D -> Prop} : wD (b0' "bool" (.lst a)) Q = Q (.bl false) := by rw [bl', au']; rfl
theorem km' (a b : List D) {Q : D -> Prop} : wD (b0' "bool" (.dct a b)) Q = Q (.bl false) := by rw [bl', au']; rfl
theorem ln'  {Q : D -> Prop} : wD (b0' "str" .non) Q = Q (.bl false) := by rw [bl', au']; rfl
theorem oF' (a : Bool) {Q : D -> Prop} : wD (b0' "str" (.bl a)) Q = Q (.bl false) := by rw [bl', au']; rfl
theorem lp' (a : Int) {Q : D -> Prop} : wD (b0' "str" (.int a)) Q = Q (.bl false) := by rw [bl', au']; rfl
theorem lm' (a : Tx) {Q : D -> Prop} : wD (b0' "str" (.str a)) Q = Q (.bl true) := by rw [bl', au']; rfl
theorem ll' (a : List D) {Q : D -> Prop} : wD (b0' "str" (.tup a)) Q = Q (.bl false) := by rw [bl', au']; rfl
theorem lo' (a : List D) {Q : D -> Prop} : wD (b0' "str" (.lst a)) Q = Q (.bl false) := by rw [bl', au']; rfl
theorem lq' (a b : List D) {Q : D -> Prop} : wD (b0' "str" (.dct a b)) Q = Q (.bl false) := by rw [bl', au']; rfl
theorem iC'  {Q : D -> Prop} : wD (b0' "tuple" .non) Q = Q (.bl false) := by rw [bl', au']; rfl
theorem j4' (a : Bool) {Q : D -> Prop} : wD (b0' "tuple" (.bl a)) Q = Q (.bl false) := by rw [bl', au']; rfl
theorem iE' (a : Int) {Q : D -> Prop} : wD (b0' "tuple" (.int a)) Q = Q (.bl false) := by rw [bl', au']; rfl
theorem iB' (a : Tx) {Q : D -> Prop} : wD (b0' "tuple" (.str a)) Q = Q (.bl false) := by rw [bl', au']; rfl
theorem iA' (a : List D) {Q : D -> Prop} : wD (b0' "tuple" (.tup a)) Q = Q (.bl true) := by rw [bl', au']; rfl
theorem iD' (a : List D) {Q : D -> Prop} : wD (b0' "tuple" (.lst a)) Q = Q (.bl false) := by rw [bl', au']; rfl
theorem iF' (a b : List D) {Q : D -> Prop} : wD (b0' "tuple" (.dct a b)) Q = Q (.bl false) := by rw [bl', au']; rfl
theorem j7'  {Q : D -> Prop} : wD (b0' "list" .non) Q = Q (.bl false) := by rw [bl', au']; rfl
theorem lr' (a : Bool) {Q : D -> Prop} : wD (b0' "list" (.bl a)) Q = Q (.bl false) := by rw [bl', au']; rfl
theorem j9' (a : Int) {Q : D -> Prop} : wD (b0' "list" (.int a)) Q = Q (.bl false) := by rw [bl', au']; rfl
theorem j6' (a : Tx) {Q : D -> Prop} : wD (b0' "list" (.str a)) Q = Q (.bl false) := by rw [bl', au']; rfl
theorem j5' (a : List D) {Q : D -> Prop} : wD (b0' "list" (.tup a)) Q = Q (.bl false) := by rw [bl', au']; rfl
theorem j8' (a : List D) {Q : D -> Prop} : wD (b0' "list" (.lst a)) Q = Q (.bl true) := by rw [bl', au']; rfl
theorem ka' (a b : List D) {Q : D -> Prop} : wD (b0' "list" (.dct a b)) Q = Q (.bl false) := by rw [bl', au']; rfl
theorem kd'  {Q : D -> Prop} : wD (b0' "dict" .non) Q = Q (.bl false) := by rw [bl', au']; rfl
theorem ly' (a : Bool) {Q : D -> Prop} : wD (b0' "dict" (.bl a)) Q = Q (.bl false) := by rw [bl', au']; rfl
theorem kf' (a : Int) {Q : D -> Prop} : wD (b0' "dict" (.int a)) Q = Q (.bl false) := by rw [bl', au']; rfl
theorem kc' (a : Tx) {Q : D -> Prop} : wD (b0' "dict" (.str a)) Q = Q (.bl false) := by rw [bl', au']; rfl
theorem kb' (a : List D) {Q : D -> Prop} : wD (b0' "dict" (.tup a)) Q = Q (.bl false) := by rw [bl', au']; rfl
theorem ke' (a : List D) {Q : D -> Prop} : wD (b0' "dict" (.lst a)) Q = Q (.bl false) := by rw [bl', au']; rfl
theorem kg' (a b : List D) {Q : D -> Prop} : wD (b0' "dict" (.dct a b)) Q = Q (.bl true) := by rw [bl', au']; rfl
theorem nV' (l : List Int) (v : Int) {Q : D -> Prop} : wD (ra' (l.map .int) [.int v]) Q = wC (v ∈ l) (Q (.int (l.idxOf v : Nat))) := by
  show wD ((bt' (l.map .int)).bind fun ns => if v ∈ ns then some (D.int ((ns.idxOf v : Nat) : Int)) else none) Q = _
  rw [lf', Option.bind_some, eW']
theorem xQ' {p : Prop} [Decidable p] (h : p) (A B : Prop) : wI (decide p) A B = A := by rw [decide_eq_true h]; exact vo' A B
theorem A1' {p : Prop} [Decidable p] (h : ¬ p) (A B : Prop) : wI (decide p) A B = B := by rw [decide_eq_false h]; exact vp' A B
theorem AF' {b : Bool} (h : b = true) : O.fz (.bl true) = O.fz (.bl b) := by rw [h]
theorem AG' {b : Bool} (h : b = false) : O.fz (.bl false) = O.fz (.bl b) := by rw [h]
theorem xj' {α β : Type} (f : α -> β) (l : List α) (i : Int) : ati (l.map f) i = (ati l i).map f := by
  unfold ati
  rw [List.length_map]
  cases ixn l.length i with
  | none => rfl
  | some j => simp
theorem bv' {α : Type} {xs : List α} {i : Nat} {Q : α -> Prop} (h : i < xs.length) (k : ∀ x, x ∈ xs -> xs[i]? = some x -> Q x) : wD xs[i]? Q := by
  rw [List.getElem?_eq_getElem h, aR']
  exact k _ (List.getElem_mem h) (List.getElem?_eq_getElem h)
theorem bp' {α : Type} {l : List α} {i : Nat} {x : α} (h : l[i]? = some x) : i < l.length := (List.getElem?_eq_some_iff.mp h).1
def But (n : Nat) (w w' : W) : Prop := w'.length = w.length /\ ∀ j, j ≠ n -> w'[j]? = w[j]?
theorem But.refl {n : Nat} {w : W} : But n w w := ⟨rfl, fun _ _ => rfl⟩
theorem But.trans {n : Nat} {w w1 w2 : W} (a : But n w w1) (b : But n w1 w2) : But n w w2 := ⟨b.1.trans a.1, fun j h => (b.2 j h).trans (a.2 j h)⟩
theorem But.set {n : Nat} {w w1 : W} {o : Ob} (a : But n w w1) : But n w (w1.set n o) := ⟨by rw [List.length_set]; exact a.1, fun j h => by rw [List.getElem?_set_ne (Ne.symm h)]; exact a.2 j h⟩
theorem tn1 (d : Nat) : ((d : Int) + 1).toNat = d + 1 := rfl
theorem Ai' (l : List D) (d : D) : l.map O.fz ++ [O.fz d] = (l ++ [d]).map O.fz := by simp
theorem rF' (l : List D) : frz (.lst (l.map .fz)) = .lst l := by simp [frz]
theorem vq' {k : Bool} {A B : Prop} (h1 : k = true -> A) (h2 : k = false -> B) : wI k A B := by
  cases k
  . rw [vp']; exact h2 rfl
  . rw [vo']; exact h1 rfl
theorem cM' {k : Bool} {a b : Out} {N bk ct : PSt -> Prop} {rt : O -> W -> Prop} {ex : Exc -> PSt -> Prop} (J : PSt -> Prop) (h : wI k (wS a ⟨J, rt, bk, ct, ex⟩) (wS b ⟨J, rt, bk, ct, ex⟩)) (hk : ∀ ρ, J ρ -> N ρ) : wI k (wS a ⟨N, rt, bk, ct, ex⟩) (wS b ⟨N, rt, bk, ct, ex⟩) := by
  cases k
  . rw [vp'] at *
    exact wS.mono h hk (fun _ _ h => h) (fun _ h => h) (fun _ h => h) (fun _ _ h => h)
  . rw [vo'] at *
    exact wS.mono h hk (fun _ _ h => h) (fun _ h => h) (fun _ h => h) (fun _ _ h => h)
def ch' (w : W) (n : Nat) : Prop := ∃ (cells : List Int) (i b s c : Int), w[n]? = some (.lst [.fz (.lst (cells.map .int)), .fz (.int i), .fz (.int b), .fz (.int s), .fz (.int c)]) /\ 0 <= i
theorem xJ' (A : Prop) : vX (some (some .exn)) A = A := rfl
end M
namespace M
mutual
theorem nP' : ∀ (d : D), dat d = true -> eqb d d = true
  | .non, _ => rfl
  | .bl b, _ => by simp [eqb]
  | .int i, _ => by simp [eqb]
  | .str s, _ => by simp [eqb]
  | .tup ds, h => by simp only [eqb]; exact eqbs_refl ds (by simpa [dat] using h)
  | .lst ds, h => by simp only [eqb]; exact eqbs_refl ds (by simpa [dat] using h)
theorem eqbs_refl : ∀ (ds : List D), dats ds = true -> eqbs ds ds = true
  | [], _ => rfl
  | d :: r, h => by
    simp only [dats, Bool.and_eq_true] at h
    simp only [eqbs, nP' d h.1, eqbs_refl r h.2, Bool.and_self]
end
theorem nT' (x : D) (h : dat x = true) (h2 : dep x <= 64) {Q : D -> Prop} : wD (pNe x x) Q = Q (.bl false) := by
  rw [Dz', sm' ⟨h, h, h2, h2⟩, nP' x h]; rfl
def d7' (r : List Nat) : D := .tup (r.map fun t => .int (t : Nat))
def dc' (T : List (List Nat)) : D := .tup (T.map d7')
def dB' (A : List Nat) : D := .tup (A.map fun a => .int (a : Nat))
def bf' (T : List (List Nat)) (size many : Nat) : Prop := T.length = size /\ ∀ r ∈ T, r.length = many /\ ∀ t ∈ r, t < size
abbrev abc : Tx := [97, 98, 99, 100, 101, 102, 103, 104, 105, 106, 107, 108, 109, 110, 111, 112, 113, 114, 115, 116, 117, 118, 119, 120, 121, 122]
theorem q7' {c : Nat} : c ∈ abc ↔ 97 <= c /\ c <= 122 := by
  simp only [List.mem_cons, List.not_mem_nil, or_false]
  omega
structure LetOk (L : Tx) (most : Nat) : Prop where
  ne : 1 <= L.length
  le : L.length <= most
  asc : L.Pairwise (· < ·)
  abc : ∀ c ∈ L, 97 <= c /\ c <= 122
structure AccOk (A : List Nat) (size : Nat) : Prop where
  asc : A.Pairwise (· < ·)
  lt : ∀ a ∈ A, a < size
structure MacOk (L : Tx) (T : List (List Nat)) (A : List Nat) (most states : Nat) : Prop where
  let' : LetOk L most
  tab : bf' T T.length L.length
  ne : 1 <= T.length
  le : T.length <= states
  acc : AccOk A T.length
theorem w6' (T : List (List Nat)) (s : Nat) {Q : D -> Prop} : wD (pIx (dc' T) (.int (s : Nat))) Q = wD T[s]? (fun r => Q (d7' r)) := by
  unfold dc'
  rw [w7', n3' (by omega), List.getElem?_map, lY', Int.toNat_natCast]
theorem w8' (r : List Nat) (s : Nat) {Q : D -> Prop} : wD (pIx (d7' r) (.int (s : Nat))) Q = wD r[s]? (fun t => Q (.int (t : Nat))) := by
  unfold d7'
  rw [w7', n3' (by omega), List.getElem?_map, lY', Int.toNat_natCast]
theorem rN' (A : List Nat) (s : Nat) {Q : D -> Prop} : wD (pIn (.int (s : Nat)) (dB' A)) Q = Q (.bl (decide (s ∈ A))) := by
  unfold dB'
  have := uY' (Q := Q) (s : Int) (A.map (Nat.cast : Nat -> Int))
  rw [List.map_map] at this
  rw [show (A.map fun a => D.int (a : Nat)) = A.map (D.int ∘ (Nat.cast : Nat -> Int)) from rfl, this]
  congr 2
  simp only [List.mem_map, decide_eq_decide]
  constructor
  . rintro ⟨a, h, e⟩
    have : a = s := by omega
    exact this ▸ h
  . exact fun h => ⟨s, h, rfl⟩
theorem tE' (T : List (List Nat)) {Q : D -> Prop} : wD (dH' (dc' T)) Q = Q (.int T.length) := by
  unfold dc'
  rw [nU', List.length_map]
theorem tF' (T : List Nat) {Q : D -> Prop} : wD (dH' (d7' T)) Q = Q (.int T.length) := by
  unfold d7'
  rw [nU', List.length_map]
theorem tG' (T : List Nat) {Q : D -> Prop} : wD (dH' (dB' T)) Q = Q (.int T.length) := by
  unfold dB'
  rw [nU', List.length_map]
theorem nH' (v : Nat) : ∀ l : List Nat, (l.map (Nat.cast : Nat -> Int)).idxOf (v : Int) = l.idxOf v
  | [] => rfl
  | a :: l => by
    simp only [List.map_cons, List.idxOf_cons, nH' v l]
    have : ((a : Int) == (v : Int)) = (a == v) := by rw [Bool.eq_iff_iff]; simp; omega
    rw [this]
theorem tJ' (l : List Nat) (v : Nat) {Q : D -> Prop} : wD (ra' (l.map fun s => .int (s : Nat)) [.int (v : Nat)]) Q = wC (v ∈ l) (Q (.int (l.idxOf v : Nat))) := by
  have h := nV' (Q := Q) (l.map (Nat.cast : Nat -> Int)) (v : Int)
  rw [List.map_map, nH'] at h
  rw [show (l.map fun s => D.int (s : Nat)) = l.map (D.int ∘ (Nat.cast : Nat -> Int)) from rfl, h]
  congr 1
  simp only [List.mem_map]
  rw [eq_iff_iff]
  constructor
  . rintro ⟨a, h, e⟩
    have : a = v := by omega
    exact this ▸ h
  . exact fun h => ⟨v, h, rfl⟩
theorem tr' (i : Nat) : fnd (some i) = (i : Int) := rfl
theorem nD' (a : Tx) (c : Nat) (i : Nat) : uM' a [c] i = decide (a[i]? = some c) := by
  unfold uM'
  rw [Bool.eq_iff_iff]
  simp only [Bool.and_eq_true, decide_eq_true_eq, List.length_cons, List.length_nil]
  constructor
  . rintro ⟨h1, h2⟩
    rw [List.take_one, List.head?_drop] at h2
    revert h2
    cases a[i]? <;> simp
  . intro h
    have := (List.getElem?_eq_some_iff.mp h).1
    refine ⟨by omega, ?_⟩
    rw [List.take_one, List.head?_drop, h]
    rfl
theorem nJ' {a : Tx} {c : Nat} (h : c ∈ a) : nK' a [c] = some (a.idxOf c) := by
  unfold nK'
  rw [List.find?_range_eq_some]
  have hi : a.idxOf c < a.length := List.idxOf_lt_length_iff.mpr h
  refine ⟨?_, by simp; omega, ?_⟩
  . rw [nD', decide_eq_true_iff, List.getElem?_eq_getElem hi, List.getElem_idxOf]
  . intro j hj
    rw [nD']
    simp only [Bool.not_eq_eq_eq_not, Bool.not_true, decide_eq_false_iff_not]
    intro e
    obtain ⟨hl, e⟩ := List.getElem?_eq_some_iff.mp e
    have := List.not_of_lt_findIdx (p := (· == c)) (xs := a) hj
    simp [e] at this
def stp (L : Tx) (T : List (List Nat)) (s c : Nat) : Nat := (((T[s]?).getD [])[L.idxOf c]?).getD 0
def run (L : Tx) (T : List (List Nat)) (s : Nat) (x : Tx) : Nat := x.foldl (stp L T) s
theorem m0' {L : Tx} {T : List (List Nat)} (h : bf' T T.length L.length) {s c : Nat} (hs : s < T.length) (hc : c ∈ L) : ∃ r, T[s]? = some r /\ r[L.idxOf c]? = some (stp L T s c) /\ stp L T s c < T.length := by
  have hr := h.2 T[s] (List.getElem_mem hs)
  have hi : L.idxOf c < T[s].length := by rw [hr.1]; exact List.idxOf_lt_length_iff.mpr hc
  have e : stp L T s c = T[s][L.idxOf c] := by
    unfold stp
    rw [List.getElem?_eq_getElem hs, Option.getD_some, List.getElem?_eq_getElem hi, Option.getD_some]
  exact ⟨T[s], List.getElem?_eq_getElem hs, by rw [e, List.getElem?_eq_getElem hi], by rw [e]; exact hr.2 _ (List.getElem_mem hi)⟩
theorem vV' {L T s} : run L T s [] = s := rfl
theorem nb' {L T s x c} : run L T s (x ++ [c]) = stp L T (run L T s x) c := by unfold run; rw [List.foldl_append]; rfl
theorem ig' {L T s c x} : run L T s (c :: x) = run L T (stp L T s c) x := rfl
theorem f9' {L : Tx} {T : List (List Nat)} (h : bf' T T.length L.length) {s : Nat} (hs : s < T.length) : ∀ {x : Tx}, (∀ c ∈ x, c ∈ L) -> run L T s x < T.length := by
  intro x
  induction x generalizing s with
  | nil => intro _; exact hs
  | cons c x ih =>
    intro hx
    obtain ⟨_, _, _, h3⟩ := m0' h hs (hx c (by simp))
    exact ih h3 (fun d hd => hx d (by simp [hd]))
def BC' (L : Tx) (T : List (List Nat)) (A : List Nat) : Ob := .ins "Machine" [("kept_letters", .fz (.str L)), ("kept_table", .fz (dc' T)), ("kept_accepts", .fz (dB' A)), ("kept_least", .fz .non), ("kept_field", .fz .non), ("kept_lots", .dct [] []), ("kept_more", .dct [] [])]
structure Mac (w : W) (m : Nat) (L : Tx) (T : List (List Nat)) (A : List Nat) : Prop where
  fl : ∀ cs, "Machine" ∈ cs -> gz' cs "kept_letters" w (.obj m) = some (.str L)
  ft : ∀ cs, "Machine" ∈ cs -> gz' cs "kept_table" w (.obj m) = some (dc' T)
  fa : ∀ cs, "Machine" ∈ cs -> gz' cs "kept_accepts" w (.obj m) = some (dB' A)
theorem Mac.new {w : W} {m : Nat} {L T A} (h : w[m]? = some (BC' L T A)) : Mac w m L T A := by
  refine ⟨fun cs hc => ?_, fun cs hc => ?_, fun cs hc => ?_⟩
  all_goals simp [gz', h, BC', hc, List.lookup]
theorem Mac.but {w w' : W} {m n : Nat} {L T A} (h : Mac w m L T A) (hb : But n w w') (hn : m ≠ n) : Mac w' m L T A := by
  refine ⟨fun cs hc => ?_, fun cs hc => ?_, fun cs hc => ?_⟩
  . have := h.fl cs hc; simpa only [gz', hb.2 m hn] using this
  . have := h.ft cs hc; simpa only [gz', hb.2 m hn] using this
  . have := h.fa cs hc; simpa only [gz', hb.2 m hn] using this
theorem Mac.snoc {w : W} {m : Nat} {L T A} {o : Ob} (h : Mac w m L T A) (hn : m < w.length) : Mac (w ++ [o]) m L T A := by
  have e : (w ++ [o])[m]? = w[m]? := List.getElem?_append_left hn
  refine ⟨fun cs hc => ?_, fun cs hc => ?_, fun cs hc => ?_⟩
  . have := h.fl cs hc; simpa only [gz', e] using this
  . have := h.ft cs hc; simpa only [gz', e] using this
  . have := h.fa cs hc; simpa only [gz', e] using this
theorem ch'.snoc {w : W} {n : Nat} {o : Ob} (h : ch' w n) : ch' (w ++ [o]) n := by
  obtain ⟨c, i, b, s, k, e, hi⟩ := h
  exact ⟨c, i, b, s, k, by rw [List.getElem?_append_left (bp' e)]; exact e, hi⟩
theorem Mac.made {w : W} {L T A} : Mac (w ++ [BC' L T A]) w.length L T A := Mac.new (by rw [List.getElem?_append_right (by omega), Nat.sub_self]; rfl)
end M
namespace M
theorem wD.mono {α : Type} {o : Option α} {Q Q' : α -> Prop} (h : wD o Q) (k : ∀ a, Q a -> Q' a) : wD o Q' := by
  rw [au'] at *
  cases o with
  | none => exact h
  | some a => exact k a h
theorem uJ' {own : List Nat} {g : MG} {t : MT} {e : ME} {γ : Type} {f : γ -> D} {cs : List γ} {Q : List D -> PSt -> Prop} {X : Exc -> PSt -> Prop} {env : List (Option O)} {w : W} (p : γ -> Bool) (v : γ -> D) (hl : cs.length <= 16777216)
    (step : ∀ c ∈ cs, wD (g (f c) ⟨al' own env, w⟩) fun ρ1 => wE (t ρ1) (fun k ρ2 => k = p c /\ ρ2.w = w /\ al' own ρ2.env = al' own env /\ (p c = true -> wE (e ρ2) (fun y ρ3 => y = v c /\ ρ3.w = w /\ al' own ρ3.env = al' own env) PX)) PX)
    (hend : ∀ env2, al' own env2 = al' own env -> Q ((cs.filter p).map v) ⟨env2, w⟩) : wE (lcL own g t e (cs.map f) [] ⟨env, w⟩) Q X := by
  refine fa' hl (fun pre acc ρ => acc = (pre.filter p).map v /\ ρ.w = w /\ al' own ρ.env = al' own env) ⟨rfl, rfl, rfl⟩ ?_ ?_
  . rintro pre c post acc ρ ec ⟨rfl, hw, he⟩
    have s := step c (by rw [ec]; simp)
    rw [he, hw]
    refine s.mono fun ρ1 s => ?_
    refine s.mono ?_ (fun _ _ z => z)
    rintro k ρ2 ⟨rfl, h1, h2, h3⟩
    cases hp : p c with
    | false =>
      rw [vp']
      exact ⟨by simp [hp], h1, h2⟩
    | true =>
      rw [vo']
      refine (h3 hp).mono ?_ (fun _ _ z => z)
      rintro y ρ3 ⟨rfl, h4, h5⟩
      exact ⟨by simp [hp], h4, h5⟩
  . rintro acc ⟨env2, w2⟩ ⟨rfl, hw, he⟩
    simp only at hw he
    subst hw
    exact hend env2 he
theorem hG' {own : List Nat} {g : MG} {t : MT} {e : ME} {γ : Type} {f : γ -> D} {cs : List γ} {Q : List D -> PSt -> Prop} {X : Exc -> PSt -> Prop} {env : List (Option O)} {w : W} (v : γ -> D) (hl : cs.length <= 16777216)
    (step : ∀ c ∈ cs, wD (g (f c) ⟨al' own env, w⟩) fun ρ1 => wE (t ρ1) (fun k ρ2 => k = true /\ wE (e ρ2) (fun y ρ3 => y = v c /\ ρ3.w = w /\ al' own ρ3.env = al' own env) PX) PX)
    (hend : ∀ env2, al' own env2 = al' own env -> Q (cs.map v) ⟨env2, w⟩) : wE (lcL own g t e (cs.map f) [] ⟨env, w⟩) Q X := by
  refine fa' hl (fun pre acc ρ => acc = pre.map v /\ ρ.w = w /\ al' own ρ.env = al' own env) ⟨rfl, rfl, rfl⟩ ?_ ?_
  . rintro pre c post acc ρ ec ⟨rfl, hw, he⟩
    have s := step c (by rw [ec]; simp)
    rw [he, hw]
    refine s.mono fun ρ1 s => ?_
    refine s.mono ?_ (fun _ _ z => z)
    rintro k ρ2 ⟨rfl, h3⟩
    rw [vo']
    refine h3.mono ?_ (fun _ _ z => z)
    rintro y ρ3 ⟨rfl, h4, h5⟩
    exact ⟨by simp, h4, h5⟩
  . rintro acc ⟨env2, w2⟩ ⟨rfl, hw, he⟩
    simp only at hw he
    subst hw
    exact hend env2 he
theorem wr' {own : List Nat} {g : MG} {t : MT} {e : ME} {lo : Int} {n : Nat} {Q : List D -> PSt -> Prop} {X : Exc -> PSt -> Prop} {env : List (Option O)} {w : W} (p : Nat -> Bool) (v : Nat -> D) (hl : n <= 16777216)
    (step : ∀ c < n, wD (g (.int (lo + (c : Nat))) ⟨al' own env, w⟩) fun ρ1 => wE (t ρ1) (fun k ρ2 => k = p c /\ ρ2.w = w /\ al' own ρ2.env = al' own env /\ (p c = true -> wE (e ρ2) (fun y ρ3 => y = v c /\ ρ3.w = w /\ al' own ρ3.env = al' own env) PX)) PX)
    (hend : ∀ env2, al' own env2 = al' own env -> Q (((List.range n).filter p).map v) ⟨env2, w⟩) : wE (lcL own g t e (rgI lo n) [] ⟨env, w⟩) Q X :=
  uJ' (f := fun i : Nat => D.int (lo + (i : Nat))) p v (by simpa using hl) (fun c hc => step c (List.mem_range.mp hc)) hend
end M
namespace M
def tx' : O -> D -> D -> Option (D × O)
  | .dct ks os, y, d => if isK y = true /\ ks.length < cR' then (match dget ks os y with
    | some (.fz e) => some (e, .dct ks os)
    | some _ => none
    | none => some (d, .dct (ks ++ [y]) (os ++ [.fz d]))) else none
  | _, _, _ => none
def ru' : O -> Prop
  | .dct _ _ => True
  | _ => False
section
variable {ρ : PSt} {P : D -> PSt -> Prop} {R : O -> PSt -> Prop} {X : Exc -> PSt -> Prop} {Y : List D -> PSt -> Prop}
theorem vv' (neg : Bool) (i : Nat) (a : ME) : vE (tu' neg i a ρ) P X = vE (a ρ) (fun k ρ1 => vO ρ1.env[i]? fun o => vD (cd' o k) fun r => P (.bl (r.isSome != neg)) ρ1) X := by
  unfold tu'
  rw [ah']
  congr
  funext k ρ1
  rcases ρ1.env[i]? with _ | _ | o
  . rfl
  . rfl
  . show vE (ofO _ _) P X = vD _ _
    rw [bd', ce']
theorem vu' (i : Nat) (b : ME) (env : List (Option O)) (w : W) : vE (kE' i b ⟨env, w⟩) P X = vO env[i]? fun _ => vE (b ⟨env, w⟩) (fun k ρ1 => vO ρ1.env[i]? fun o => vD (tQ' (cd' o k)) fun z => P z ρ1) X := by
  show vE (match env[i]? with
  | some (some _) => (b ⟨env, w⟩).bind fun k ρ1 => match ρ1.env[i]? with
    | some (some o) => ofO (tQ' (cd' o k)) ρ1
    | _ => .bad
  | _ => .bad) P X = _
  rcases env[i]? with _ | _ | o
  . rfl
  . rfl
  simp only [ah', vO]
  congr
  funext k ρ1
  rcases ρ1.env[i]? with _ | _ | o
  . rfl
  . rfl
  exact bd' _
theorem pf' (i : Nat) (k a : ME) (env : List (Option O)) (w : W) : vE (hL' i k a ⟨env, w⟩) P X = vO env[i]? fun o0 => ru' o0 /\ vE (k ⟨env, w⟩) (fun y ρ1 => vE (a ρ1) (fun d ρ2 => vO ρ2.env[i]? fun o => vD (tx' o y d) fun p => P p.1 ⟨ρ2.env.set i (some p.2), ρ2.w⟩) X) X := by
  unfold hL'
  show vE (match env[i]? with
  | some (some (.dct _ _)) => _
  | _ => .bad) P X = _
  rcases env[i]? with _ | _ | o
  . rfl
  . rfl
  cases o with
  | dct ks0 os0 =>
    simp only [ah', vO, ru', true_and]
    congr
    funext y ρ1
    congr
    funext d ρ2
    rcases h : ρ2.env[i]? with _ | _ | o
    . rfl
    . rfl
    cases o with
    | dct ks os =>
      show vE (if isK y = true /\ ks.length < cR' then _ else _) P X = vD (tx' (.dct ks os) y d) _
      show _ = vD (if isK y = true /\ ks.length < cR' then (match dget ks os y with | some (.fz e) => some (e, O.dct ks os) | some _ => none | none => some (d, .dct (ks ++ [y]) (os ++ [.fz d]))) else none) _
      by_cases hc : isK y = true /\ ks.length < cR'
      . rw [if_pos hc, if_pos hc]
        rcases dget ks os y with _ | o
        . rfl
        . cases o with
          | fz e =>
            show P e ρ2 = P e ⟨ρ2.env.set i _, ρ2.w⟩
            have hi : ρ2.env.set i (some (.dct ks os)) = ρ2.env := by
              obtain ⟨hl, e⟩ := List.getElem?_eq_some_iff.mp h
              rw [<- e, List.set_getElem_self]
            rw [hi]
          | _ => rfl
      . rw [if_neg hc, if_neg hc]; rfl
    | _ => rfl
  | _ => simp [vO, ru', vE]
theorem o5'  : vE (s7' ρ) R X = R (.dcx [] []) ρ := rfl
theorem n9' (x : Bool) (k a : ME) : vE (e7' x k a ρ) R X = vE (k ρ) (fun y ρ1 => vE (a ρ1) (fun d ρ2 => vD (gi' x y d) fun o => R o ρ2) X) X := by simp only [e7', ah', bd']
theorem o6' (f : D -> Option (List D)) (a : ME) : vE (ry' f a ρ) Y X = vE (a ρ) (fun x ρ1 => vD (f x) fun ds => Y ds ρ1) X := by simp only [ry', ah', bd']
theorem vt' (own : List Nat) (it : MI) (g : MG) (t : MT) (ek ev : ME) : vE (oDc own it g t ek ev ρ) R X = vE (it ρ) (fun xs ρ1 => vE (dcL own g t ek ev xs [] [] ρ1) (fun p ρ2 => R (.dct p.1 (p.2.map .fz)) ⟨back ρ1.env own (al' own ρ2.env), ρ2.w⟩) X) X := by simp only [oDc, ah', eE']
variable {N : PSt -> Prop} {rt : O -> W -> Prop} {bk ct : PSt -> Prop} {ex : Exc -> PSt -> Prop}
theorem vw' (i : Nat) (k a : ME) : vS (sa' i k a ρ) ⟨N, rt, bk, ct, ex⟩ = vE (a ρ) (fun d ρ1 => vO ρ1.env[i]? fun _ => vE (k ρ1) (fun y ρ2 => vO ρ2.env[i]? fun o => vD (dZ' o y (.fz d)) fun o' => N ⟨ρ2.env.set i (some o'), ρ2.w⟩) ex) ex := by
  simp only [sa', bz']
  congr
  funext d ρ1
  rcases ρ1.env[i]? with _ | _ | o
  . rfl
  . rfl
  simp only [bz', vO]
  congr
  funext y ρ2
  rcases ρ2.env[i]? with _ | _ | o
  . rfl
  . rfl
  show vS (match dZ' o y (.fz d) with | some o' => Out.nx _ | none => Out.bad) _ = vD (dZ' o y (.fz d)) _
  cases dZ' o y (.fz d) <;> rfl
theorem AV' (neg : Bool) (i : Nat) (a : ME) : wE (tu' neg i a ρ) P X = wE (a ρ) (fun k ρ1 => wO ρ1.env[i]? fun o => wD (cd' o k) fun r => P (.bl (r.isSome != neg)) ρ1) X := by simp only [dg', fO', fR', au', fP', h7', h0', h5', fN', fQ', h4', h6', cS', cD', fn', df', cl']; exact vv' ..
theorem AU' (i : Nat) (b : ME) (env : List (Option O)) (w : W) : wE (kE' i b ⟨env, w⟩) P X = wO env[i]? fun _ => wE (b ⟨env, w⟩) (fun k ρ1 => wO ρ1.env[i]? fun o => wD (tQ' (cd' o k)) fun z => P z ρ1) X := by simp only [dg', fO', fR', au', fP', h7', h0', h5', fN', fQ', h4', h6', cS', cD', fn', df', cl']; exact vu' ..
theorem vf' (i : Nat) (k a : ME) (env : List (Option O)) (w : W) : wE (hL' i k a ⟨env, w⟩) P X = wO env[i]? fun o0 => ru' o0 /\ wE (k ⟨env, w⟩) (fun y ρ1 => wE (a ρ1) (fun d ρ2 => wO ρ2.env[i]? fun o => wD (tx' o y d) fun p => P p.1 ⟨ρ2.env.set i (some p.2), ρ2.w⟩) X) X := by simp only [dg', fO', fR', au', fP', h7', h0', h5', fN', fQ', h4', h6', cS', cD', fn', df', cl']; exact pf' ..
theorem u9'  : wE (s7' ρ) R X = R (.dcx [] []) ρ := by simp only [dg', fO', fR', au', fP', h7', h0', h5', fN', fQ', h4', h6', cS', cD', fn', df', cl']; exact o5' ..
theorem si' (x : Bool) (k a : ME) : wE (e7' x k a ρ) R X = wE (k ρ) (fun y ρ1 => wE (a ρ1) (fun d ρ2 => wD (gi' x y d) fun o => R o ρ2) X) X := by simp only [dg', fO', fR', au', fP', h7', h0', h5', fN', fQ', h4', h6', cS', cD', fn', df', cl']; exact n9' ..
theorem vd' (f : D -> Option (List D)) (a : ME) : wE (ry' f a ρ) Y X = wE (a ρ) (fun x ρ1 => wD (f x) fun ds => Y ds ρ1) X := by simp only [dg', fO', fR', au', fP', h7', h0', h5', fN', fQ', h4', h6', cS', cD', fn', df', cl']; exact o6' ..
theorem AL' (own : List Nat) (it : MI) (g : MG) (t : MT) (ek ev : ME) : wE (oDc own it g t ek ev ρ) R X = wE (it ρ) (fun xs ρ1 => wE (dcL own g t ek ev xs [] [] ρ1) (fun p ρ2 => R (.dct p.1 (p.2.map .fz)) ⟨back ρ1.env own (al' own ρ2.env), ρ2.w⟩) X) X := by simp only [dg', fO', fR', au', fP', h7', h0', h5', fN', fQ', h4', h6', cS', cD', fn', df', cl']; exact vt' ..
theorem Bf' (i : Nat) (k a : ME) : wS (sa' i k a ρ) ⟨N, rt, bk, ct, ex⟩ = wE (a ρ) (fun d ρ1 => wO ρ1.env[i]? fun _ => wE (k ρ1) (fun y ρ2 => wO ρ2.env[i]? fun o => wD (dZ' o y (.fz d)) fun o' => N ⟨ρ2.env.set i (some o'), ρ2.w⟩) ex) ex := by simp only [dg', fO', fR', au', fP', h7', h0', h5', fN', fQ', h4', h6', cS', cD', fn', df', cl']; exact vw' ..
theorem wO' (a : Tx) (b : List D) {Y : List D -> Prop} : wD (C5' (.str a) (.lst b)) Y = Y (db' (a.map chD) b) := by rw [au']; rfl
end
theorem er' {γ δ α : Type} [DecidableEq γ] (e : γ -> D) (he : ∀ a b, eqb (e a) (e b) = decide (a = b)) (v : δ -> α) (k : γ) : ∀ l : List (γ × δ), dget (l.map fun p => e p.1) (l.map fun p => v p.2) (e k) = (l.lookup k).map v
  | [] => rfl
  | (a, b) :: l => by
    have ih := er' e he v k l
    unfold dget fH' at *
    rw [List.map_cons, List.map_cons, List.findIdx?_cons, he, List.lookup_cons]
    by_cases h : a = k
    . subst h; simp
    . have h2 : (k == a) = false := by simp; exact fun e => h e.symm
      rw [decide_eq_false h, h2]
      simp only [Bool.false_eq_true, if_false]
      rw [<- ih]
      cases List.findIdx? (fun d => eqb d (e k)) (l.map fun p => e p.1) <;> simp
theorem fG' {γ δ : Type} [DecidableEq γ] (e : γ -> D) (he : ∀ a b, eqb (e a) (e b) = decide (a = b)) (k : γ) : ∀ l : List (γ × δ), l.lookup k = none -> fH' (l.map fun p => e p.1) (e k) = none
  | [], _ => rfl
  | (a, b) :: l, h => by
    rw [List.lookup_cons] at h
    by_cases hk : a = k
    . subst hk; simp at h
    . have h2 : (k == a) = false := by simp; exact fun e => hk e.symm
      rw [h2] at h
      have ih := fG' e he k l h
      unfold fH' at *
      rw [List.map_cons, List.findIdx?_cons, he, decide_eq_false hk]
      simp only [Bool.false_eq_true, if_false, ih, Option.map_none]
theorem eR' (a b : Nat) : eqb (.int (a : Nat)) (.int (b : Nat)) = decide (a = b) := by
  simp only [eqb]
  rw [Bool.eq_iff_iff]
  simp
  try omega
def dN (l : List (Nat × D)) : O := .dct (l.map fun p => .int (p.1 : Nat)) (l.map fun p => .fz p.2)
def dNz (l : List (Nat × D)) : D := .dct (l.map fun p => .int (p.1 : Nat)) (l.map fun p => p.2)
def dX {γ : Type} (e : γ -> D) (l : List (γ × D)) : O := .dcx (l.map fun p => e p.1) (l.map fun p => .fz p.2)
structure KeyE {γ : Type} [DecidableEq γ] (e : γ -> D) : Prop where
  eq : ∀ a b, eqb (e a) (e b) = decide (a = b)
  kat : ∀ a, kat (e a) = true
  dep : ∀ a, dep (e a) <= 8
  sca : ∀ a b, sca (e a) = sca (e b)
theorem nz' {γ : Type} [DecidableEq γ] {e : γ -> D} (he : KeyE e) (k : γ) (l : List (γ × D)) : rp' (l.map fun p => e p.1) (e k) = true := by
  unfold rp'
  rw [he.kat, decide_eq_true (he.dep k)]
  simp only [Bool.and_true, Bool.true_and, List.all_eq_true, List.mem_map]
  rintro _ ⟨p, _, rfl⟩
  simp [he.sca p.1 k]
theorem uN' (l : List (Nat × D)) : frz (dN l) = dNz l := by
  unfold dN dNz
  simp only [frz, iz', List.map_map]
  rfl
theorem A0' (l : List (Nat × D)) (i : Nat) (env : List (Option O)) (w : W) {P : D -> PSt -> Prop} : wV (some (some (dN l))) i ⟨env, w⟩ P = P (dNz l) ⟨env.set i (some (.fz (dNz l))), w⟩ := by
  rw [fN']
  show vV (some (some (O.dct _ _))) _ _ _ = _
  rw [<- uN']; rfl
theorem A4' (l : List (Nat × D)) (i : Nat) (env : List (Option O)) (w : W) {P : O -> PSt -> Prop} : wG (some (some (dN l))) i ⟨env, w⟩ P = P (dN l) ⟨env.set i none, w⟩ := by
  rw [fQ']; rfl
theorem rf' (l : List (Nat × D)) (k : Nat) : cd' (dN l) (.int (k : Nat)) = some ((l.lookup k).map .fz) := by
  show (if isK (.int (k : Nat)) = true then some (dget _ _ _) else none) = _
  rw [if_pos (show isK (.int (k : Nat)) = true from rfl), er' (fun n : Nat => D.int (n : Nat)) eR' O.fz k l]
theorem nw' (l : List (Nat × D)) (k : Nat) : cd' (.fz (dNz l)) (.int (k : Nat)) = some ((l.lookup k).map .fz) := by
  show (if isK (.int (k : Nat)) = true then some (dget _ (List.map O.fz (l.map fun p => p.2)) _) else none) = _
  rw [if_pos (show isK (.int (k : Nat)) = true from rfl), List.map_map]
  exact congrArg some (er' (fun n : Nat => D.int (n : Nat)) eR' O.fz k l)
theorem gs' {γ : Type} [DecidableEq γ] {e : γ -> D} (he : KeyE e) (l : List (γ × D)) (k : γ) : cd' (dX e l) (e k) = some ((l.lookup k).map .fz) := by
  show (if rp' (l.map fun p => e p.1) (e k) = true then some (dget _ _ _) else none) = _
  rw [if_pos (nz' he k l), er' e he.eq O.fz k l]
section
variable {Q : Option O -> Prop} {P : D -> Prop} {N : O -> Prop} {Y : List D -> Prop}
theorem wW' (l : List (Nat × D)) (k : Nat) : wD (cd' (dN l) (.int (k : Nat))) Q = Q ((l.lookup k).map .fz) := by rw [rf', aR']
theorem tD' (l : List (Nat × D)) (k : Nat) : wD (cd' (.fz (dNz l)) (.int (k : Nat))) Q = Q ((l.lookup k).map .fz) := by rw [nw', aR']
theorem n4' (o : Option D) : tQ' (some (o.map .fz)) = o := by cases o <;> rfl
theorem xk' (d : D) : tQ' (some (some (.fz d))) = some d := rfl
theorem Cb' (l : List (Nat × D)) (k : Nat) : wD (tQ' (cd' (dN l) (.int (k : Nat)))) P = wD (l.lookup k) P := by rw [rf', n4']
theorem zZ' (l : List (Nat × D)) (k : Nat) : wD (tQ' (cd' (.fz (dNz l)) (.int (k : Nat)))) P = wD (l.lookup k) P := by rw [nw', n4']
theorem zI' {l : List (Nat × D)} {k : Nat} (h : l.lookup k = none) (hl : l.length < 16777216) (d : D) : wD (dZ' (dN l) (.int (k : Nat)) (.fz d)) N = N (dN (l ++ [(k, d)])) := by
  show wD (if isK (.int (k : Nat)) = true then (ni' _ _ _ _).map (fun p => O.dct p.1 p.2) else none) N = _
  rw [if_pos (show isK (.int (k : Nat)) = true from rfl), lY']
  unfold ni'
  rw [fG' (fun n : Nat => D.int (n : Nat)) eR' k l h]
  simp only
  rw [if_pos (by rw [List.length_map]; exact hl), aR']
  unfold dN
  simp
theorem qN' {γ : Type} [DecidableEq γ] {e : γ -> D} (he : KeyE e) {l : List (γ × D)} {k : γ} (h : l.lookup k = none) (hl : l.length < 16777216) (d : D) : dZ' (dX e l) (e k) (.fz d) = some (dX e (l ++ [(k, d)])) := by
  show (if rp' (l.map fun p => e p.1) (e k) = true then (ni' _ _ _ _).map (fun p => O.dcx p.1 p.2) else none) = _
  rw [if_pos (nz' he k l)]
  unfold ni'
  rw [fG' e he.eq k l h]
  simp only
  rw [if_pos (by rw [List.length_map]; exact hl)]
  unfold dX
  simp
theorem zU' (l : List (Nat × D)) : wD (oX' (dN l)) P = P (.int l.length) := by
  show wD (some (D.int _)) P = _
  rw [aR', List.length_map]
theorem zR' {γ : Type} (e : γ -> D) (l : List (γ × D)) : wD (oX' (dX e l)) P = P (.int l.length) := by
  show wD (some (D.int _)) P = _
  rw [aR', List.length_map]
theorem w4' (l : List (Nat × D)) : wD (dH' (dNz l)) P = P (.int l.length) := by
  show wD (some (D.int _)) P = _
  rw [aR', List.length_map]
theorem wT' {l : List (Nat × D)} {k : Nat} (hl : l.length < 16777216) (d : D) {Q : D × O -> Prop} : wD (tx' (dN l) (.int (k : Nat)) d) Q = match l.lookup k with
    | some e => Q (e, dN l)
    | none => Q (d, dN (l ++ [(k, d)])) := by
  show wD (if isK (.int (k : Nat)) = true /\ (l.map fun p => D.int (p.1 : Nat)).length < cR' then (match dget (l.map fun p => D.int (p.1 : Nat)) (l.map fun p => O.fz p.2) (.int (k : Nat)) with
    | some (.fz e) => some (e, O.dct _ _)
    | some _ => none
    | none => some (d, .dct ((l.map fun p => D.int (p.1 : Nat)) ++ [.int (k : Nat)]) ((l.map fun p => O.fz p.2) ++ [.fz d]))) else none) Q = _
  rw [if_pos ⟨rfl, by rw [List.length_map]; exact hl⟩, er' (fun n : Nat => D.int (n : Nat)) eR' O.fz k l]
  cases l.lookup k with
  | none =>
    simp only [Option.map_none, aR']
    unfold dN
    simp
  | some e => simp only [Option.map_some, aR']; rfl
theorem to' (l : List (Nat × D)) : ru' (dN l) = True := rfl
theorem iO' {γ : Type} (f g : γ -> D) : ∀ l : List γ, db' (l.map f) (l.map g) = l.map fun p => .tup [f p, g p]
  | [] => rfl
  | a :: l => by
    simp only [List.map_cons, db', iO' f g l]
theorem w9' (l : List (Nat × D)) : wD (rO' (dNz l)) Y = Y (l.map fun p => .tup [.int (p.1 : Nat), p.2]) := by
  show wD (some (db' _ _)) Y = _
  rw [aR', iO']
theorem zz' (l : List (Nat × D)) : wD (Cx' (dNz l)) Y = Y (l.map fun p => p.2) := by
  show wD (some _) Y = _
  rw [aR']
theorem zW' (l : List (Nat × D)) : wD (Cy' (dNz l)) Y = Y (l.map fun p => .int (p.1 : Nat)) := by
  show wD (some _) Y = _
  rw [aR']
theorem hJ' {γ : Type} (f : γ -> Int) (l : List γ) : bt' (l.map fun p => .int (f p)) = some (l.map f) := by
  have := lf' (l.map f)
  rw [List.map_map] at this
  exact this
theorem zO' {γ : Type} (f : γ -> Nat) (g : γ -> Int) (l : List γ) (h : l ≠ []) : wD (ot' (dNz (l.map fun p => (f p, .int (g p))))) P = P (.int (nv' (l.map g))) := by
  show wD ((bt' ((l.map fun p => (f p, D.int (g p))).map fun p => p.2)).bind _) P = _
  rw [List.map_map, show ((fun p : Nat × D => p.2) ∘ fun p => (f p, D.int (g p))) = fun p => D.int (g p) from rfl, hJ']
  show wD (if l.map g = [] then none else some _) P = _
  rw [if_neg (by simpa using h), aR']
theorem rM' (l : List (Nat × D)) (h : l.length <= 16777216) : wD (cX' (dNz l)) P = P (.lst ((fX' (l.map fun p => (p.1 : Int))).map .int)) := by
  show wD ((bt' (l.map fun p => D.int (p.1 : Nat))).bind _) P = _
  rw [hJ' (fun p : Nat × D => (p.1 : Int))]
  show wD (if (l.map fun p => (p.1 : Int)).length <= cR' then some _ else none) P = _
  rw [if_pos (by rw [List.length_map]; exact h), aR']
theorem tK' (k : Int) (d : D) : wD (gi' false (.int k) d) N = N (.dct [.int k] [.fz d]) := by
  show wD (some (O.dct [.int k] [.fz d])) N = _
  rw [aR']
theorem zH' (d : D) : wD (uD' d) P = wC (yl' d = true /\ dep d <= 40 /\ oW' d = true /\ nc' d <= 200000) (P (.rep d)) := eW'
theorem B1' (i j : Bool) : wD (pNe (.bl i) (.bl j)) P = P (.bl (!(i == j))) := by
  rw [show pNe (.bl i) (.bl j) = some (.bl (!(i == j))) from rfl, aR']
theorem BZ' (a b : D) : wD (xq' (.rep a) (.rep b)) P = wC (same a b = true) (P (.bl false)) := eW'
end
theorem b8' {γ : Type} (f : Nat -> γ) (k : Nat) : ∀ l : List Nat, (l.map fun s => (s, f s)).lookup k = if k ∈ l then some (f k) else none
  | [] => rfl
  | a :: l => by
    rw [List.map_cons, List.lookup_cons, b8' f k l]
    by_cases h : k = a
    . subst h; simp
    . have : (k == a) = false := by simpa using h
      simp [this, h]
theorem ct' {γ δ : Type} [DecidableEq γ] (k : γ) : ∀ l : List (γ × δ), k ∉ l.map (·.1) -> l.lookup k = none
  | [], _ => rfl
  | (a, b) :: l, h => by
    simp only [List.map_cons, List.mem_cons, not_or] at h
    rw [List.lookup_cons, ct' k l h.2]
    have : (k == a) = false := by simpa using h.1
    rw [this]
mutual
theorem dj' : ∀ (d : D), dat d = true -> same d d = true
  | .non, _ => rfl
  | .bl b, _ => by simp [same]
  | .int i, _ => by simp [same]
  | .str s, _ => by simp [same]
  | .tup ds, h => by simp only [same]; exact sames_refl ds (by simpa [dat] using h)
  | .lst ds, h => by simp only [same]; exact sames_refl ds (by simpa [dat] using h)
theorem sames_refl : ∀ (ds : List D), dats ds = true -> sames ds ds = true
  | [], _ => rfl
  | d :: r, h => by
    simp only [dats, Bool.and_eq_true] at h
    simp only [sames, dj' d h.1, sames_refl r h.2, Bool.and_self]
end
theorem uV' {own : List Nat} {g : MG} {t : MT} {ek ev : ME} {γ : Type} {f : γ -> D} {cs : List γ} {Q : List D × List D -> PSt -> Prop} {X : Exc -> PSt -> Prop} {env : List (Option O)} {w : W} (kf : γ -> Nat) (v : γ -> D) (hl : cs.length <= 16777216) (hn : (cs.map kf).Nodup)
    (step : ∀ c ∈ cs, wD (g (f c) ⟨al' own env, w⟩) fun ρ1 => wE (t ρ1) (fun k ρ2 => k = true /\ wE (ek ρ2) (fun y ρ3 => y = .int (kf c : Nat) /\ wE (ev ρ3) (fun z ρ4 => z = v c /\ ρ4.w = w /\ al' own ρ4.env = al' own env) PX) PX) PX)
    (hend : ∀ env2, al' own env2 = al' own env -> Q (cs.map (fun c => .int (kf c : Nat)), cs.map v) ⟨env2, w⟩) : wE (dcL own g t ek ev (cs.map f) [] [] ⟨env, w⟩) Q X := by
  have go : ∀ (post pre : List γ) (env1 : List (Option O)), cs = pre ++ post -> al' own env1 = al' own env →
      vE (dcL own g t ek ev (post.map f) (pre.map fun c => .int (kf c : Nat)) (pre.map v) ⟨env1, w⟩) Q X := by
    intro post
    induction post with
    | nil =>
      intro pre env1 e he
      rw [List.append_nil] at e
      subst e
      exact hend env1 he
    | cons c post ih =>
      intro pre env1 e he
      have s := step c (by rw [e]; simp)
      rw [au'] at s
      show vE (match g (f c) ⟨al' own env1, w⟩ with | none => Res.bad | some ρ1 => _) Q X
      rw [he]
      cases hg : g (f c) ⟨al' own env, w⟩ with
      | none => rw [hg] at s; exact s
      | some ρ1 =>
        rw [hg] at s
        have s : wE (t ρ1) _ PX := s
        rw [dg'] at s
        dsimp only
        cases ht : t ρ1 with
        | bad => rw [ht] at s; exact s
        | exc x q => rw [ht] at s; exact s.elim
        | ok k ρ2 =>
          rw [ht] at s
          obtain ⟨ek1, s2⟩ := (show k = true /\ wE (ek ρ2) _ PX from s)
          subst ek1
          rw [dg'] at s2
          show vE ((noX (ek ρ2)).bind _) Q X
          cases hk : ek ρ2 with
          | bad => rw [hk] at s2; exact s2
          | exc x q => rw [hk] at s2; exact s2.elim
          | ok y ρ3 =>
            rw [hk] at s2
            obtain ⟨ey, s3⟩ := (show y = .int (kf c : Nat) /\ wE (ev ρ3) _ PX from s2)
            subst ey
            rw [dg'] at s3
            show vE ((noX (ev ρ3)).bind _) Q X
            cases hv : ev ρ3 with
            | bad => rw [hv] at s3; exact s3
            | exc x q => rw [hv] at s3; exact s3.elim
            | ok z ρ4 =>
              rw [hv] at s3
              obtain ⟨ez, hw, he2⟩ := (show z = v c /\ ρ4.w = w /\ al' own ρ4.env = al' own env from s3)
              subst ez
              obtain ⟨env4, w4⟩ := ρ4
              simp only at hw he2
              subst hw
              show vE (if isK (.int (kf c : Nat)) = true /\ (pre.map fun c => D.int (kf c : Nat)).length < cR' then _ else _) Q X
              have hlen : pre.length < cR' := by
                have : cs.length = pre.length + (post.length + 1) := by rw [e]; simp
                unfold cR'; omega
              rw [if_pos ⟨rfl, by rw [List.length_map]; exact hlen⟩]
              have hnone : fH' (pre.map fun c => D.int (kf c : Nat)) (.int (kf c : Nat)) = none := by
                have h1 : ((pre.map fun c => (kf c, ())).map fun p => D.int (p.1 : Nat)) = pre.map fun c => D.int (kf c : Nat) := by rw [List.map_map]; rfl
                rw [<- h1]
                refine fG' (fun n : Nat => D.int (n : Nat)) eR' (kf c) _ (ct' _ _ ?_)
                rw [List.map_map]
                intro hm
                rw [e, List.map_append, List.map_cons] at hn
                have := (List.nodup_append.mp hn).2.2 (kf c) (by simpa using hm) (kf c) (by simp)
                exact this rfl
              unfold ni'
              rw [hnone]
              simp only
              rw [if_pos (by rw [List.length_map]; exact hlen)]
              have r := ih (pre ++ [c]) env4 (by rw [e]; simp) he2
              simpa using r
  rw [dg']
  exact go cs [] env rfl rfl
theorem oE' {γ : Type} (kf : γ -> Nat) (v : γ -> D) (cs : List γ) : D.dct (cs.map fun c => .int (kf c : Nat)) (cs.map v) = dNz (cs.map fun c => (kf c, v c)) := by
  unfold dNz
  simp only [List.map_map]
  rfl
theorem rK' {γ : Type} (kf : γ -> Nat) (v : γ -> D) (cs : List γ) : O.dct (cs.map fun c => .int (kf c : Nat)) ((cs.map v).map .fz) = dN (cs.map fun c => (kf c, v c)) := by
  unfold dN
  simp only [List.map_map]
  rfl
section
variable {Q : D -> Prop} {Y : List D -> Prop}
theorem tA' (r : List Nat) : wD (dX' (d7' r)) Y = Y (r.map fun t => .int (t : Nat)) := by unfold d7'; rw [nS']
theorem tB' (r : List Nat) : wD (dX' (dB' r)) Y = Y (r.map fun t => .int (t : Nat)) := by unfold dB'; rw [nS']
theorem tz' (T : List (List Nat)) : wD (dX' (dc' T)) Y = Y (T.map d7') := by unfold dc'; rw [nS']
end
theorem wD' : dq' .non = true := rfl
theorem wC' (n : Nat) : dq' (.obj n) = false := rfl
theorem wF' (n : Int) : dq' (.int n) = false := rfl
theorem wB' (n : Tx) : dq' (.str n) = false := rfl
theorem y8' (n : Bool) : dq' (.bl n) = false := rfl
theorem wA' (n : List D) : dq' (.tup n) = false := rfl
theorem wE' (n : List D) : dq' (.lst n) = false := rfl
section
variable {Q : D -> Prop}
theorem wY' (s : Tx) : wD (e1' (.str s)) Q = Q (.lst (s.map chD)) := by
  show wD (some _) Q = _
  rw [aR']
end
theorem zL' (F : List Nat) (t : Nat) {P : D -> Prop} : wD (yK' (inO (.int (t : Nat)) (.lst (F.map fun s => .fz (.int (s : Nat)))))) P = P (.bl (!decide (t ∈ F))) := by
  have e1 : (F.map fun s => O.fz (.int (s : Nat))).all (fun o => match o with | .fz _ => true | _ => false) = true := by induction F <;> simp_all
  have e2 : (F.map fun s => O.fz (.int (s : Nat))).map frz = F.map fun s => .int (s : Nat) := by rw [List.map_map]; rfl
  have h := uZ' (Q := fun d => wD (yK' (some d)) P) (t : Int) (F.map (Nat.cast : Nat -> Int))
  rw [List.map_map] at h
  show wD (yK' (if (F.map fun s => O.fz (.int (s : Nat))).all (fun o => match o with | .fz _ => true | _ => false) = true then pIn (.int (t : Nat)) (.lst ((F.map fun s => O.fz (.int (s : Nat))).map frz)) else none)) P = _
  rw [if_pos e1, e2]
  have e3 : ∀ o : Option D, wD (yK' o) P = wD o (fun d => wD (yK' (some d)) P) := fun o => by cases o with
    | none => rw [au', au']; rfl
    | some d => rw [aR']
  rw [e3]
  refine h.trans ?_
  show wD (some (D.bl (!decide _))) P = _
  rw [aR']
  congr 3
  rw [decide_eq_decide]
  constructor
  . intro hm
    obtain ⟨a, h1, h2⟩ := List.mem_map.mp hm
    have h2 : (a : Int) = (t : Int) := h2
    have : a = t := by omega
    exact this ▸ h1
  . exact fun hm => List.mem_map.mpr ⟨t, hm, rfl⟩
def rs' (o : Option (Option O)) : Option O := match o with
  | some (some (.fz d)) => some (.fz d)
  | _ => none
theorem tP' (env env' : List (Option O)) : back env [] env' = env' := rfl
theorem rX' (env env' : List (Option O)) (i : Nat) (is : List Nat) : back env (i :: is) env' = (back env is env').set i (rs' env[i]?) := by
  show (back env is env').set i _ = _
  congr 1
theorem oA' : rs' (some none) = none := rfl
theorem ti' (d : D) : rs' (some (some (.fz d))) = some (.fz d) := rfl
theorem rr' (os : List O) : rs' (some (some (.lst os))) = none := rfl
section
variable {Q : D -> Prop}
theorem wQ' (a : Tx) (c : Nat) : wD (yQ' a [.str [c]]) Q = wC (c < 128 /\ a.length + 2 <= 16777216) (Q (.lst ((As' c a).map .str))) := eW'
theorem BM' (i : Int) : wD (Dp' (.int i)) Q = wC (0 <= i /\ i < 1000000000000000000000000000000000000000000000000000000000000) (Q (.str (C0' i.toNat))) := eW'
end
end M
namespace M
theorem Cs' (c : Nat) (s : Tx) {P : D -> Prop} : wD (Ds' c (.str s)) P = wC (s.length <= 1000000) (P (.str (s.filter fun d => decide (d ≠ c)))) := eW'
end M
namespace M
theorem zx' (a b : List D) {Y : List D -> Prop} : wD (C4' (.tup a) (.tup b)) Y = Y (db' a b) := by rw [au']; rfl
theorem Cm' (os : List O) (ds : List D) {N : O -> Prop} : wD (Dx' (.lst os) (.lst ds)) N = wC (os.length + ds.length <= 16777216) (N (.lst (os ++ ds.map .fz))) := eW'
def BE' : O -> Prop
  | .dcx _ _ => True
  | _ => False
theorem tn' {γ : Type} (e : γ -> D) (l : List (γ × D)) : BE' (dX e l) := True.intro
theorem BI' (os : List O) {N : List O -> Prop} : wD (unO (.tup os)) N = N os := by rw [au']; rfl
theorem BJ' (ds : List D) {N : List O -> Prop} : wD (unO (.fz (.tup ds))) N = N (ds.map .fz) := by rw [au']; rfl
theorem xc' {ρ : PSt} {N : PSt -> Prop} : wD (xu' [] [] ρ) N = N ρ := by rw [au']; rfl
theorem xb' (i : Nat) (is : List Nat) (o : O) (os : List O) {env : List (Option O)} {w : W} {N : PSt -> Prop} : wD (xu' (i :: is) (o :: os) ⟨env, w⟩) N = tW' i env.length (wD (xu' is os ⟨env.set i (some o), w⟩) N) := by
  rw [au', au', cD']
  by_cases h : i < env.length
  . simp [xu', oa', h]
  . simp [xu', oa', vD, h]
theorem tO' (m : List Bool) : sd' m [] = [] := by cases m <;> rfl
theorem Ae' (x : Option O) (r : List (Option O)) : sd' [] (x :: r) = none :: sd' [] r := rfl
theorem Ag' (m : List Bool) (x : Option O) (r : List (Option O)) : sd' (false :: m) (x :: r) = none :: sd' m r := rfl
theorem Af' (m : List Bool) (o : O) (r : List (Option O)) : sd' (true :: m) (some o :: r) = some (.fz (frz o)) :: sd' m r := rfl
theorem wg' (r : List (Option O)) : okM [] r = true := by cases r <;> rfl
theorem Bv' (m : List Bool) (x : Option O) (r : List (Option O)) : okM (false :: m) (x :: r) = okM m r := rfl
theorem Bu' (m : List Bool) (o : O) (r : List (Option O)) : okM (true :: m) (some o :: r) = (okO o && okM m r) := rfl
theorem yH' (d : D) : okO (.fz d) = dat d := rfl
theorem wf' (os : List O) : okO (.lst os) = okOs os := rfl
theorem qV' : ∀ ds : List D, okOs (ds.map .fz) = dats ds
  | [] => rfl
  | d :: r => by show (dat d && okOs (r.map .fz)) = (dat d && dats r); rw [qV' r]
theorem zj' (d : D) : frz (.fz d) = d := rfl
theorem vQ' (b : Bool) : At' (.bl b) = true := rfl
theorem sM' (b : Int) : At' (.int b) = true := rfl
theorem sK' (b : Tx) : At' (.str b) = true := rfl
theorem sL' : At' .non = true := rfl
end M
namespace M
theorem ji' : ∀ l : List Tx, dM' (l.map D.str) = some l
  | [] => rfl
  | a :: l => by show (dM' (l.map D.str)).map (a :: ·) = _; rw [ji' l]; rfl
theorem wR' (l : List Tx) {P : D -> Prop} : wD (s3' (.lst (l.map .str))) P = wC (l.length < 64) (P (.lst ((x6' l).map .str))) := by
  show wD ((dM' (l.map D.str)).bind _) P = _
  rw [ji', Option.bind_some]
  exact eW'
theorem zB' (s : Tx) {P : D -> Prop} : wD (cb' (.str s)) P = P (.tup (s.map chD)) := by
  show wD (some _) P = _
  rw [aR']
theorem A3' {α : Type} (e : α -> D) (l : List (α × D)) (i : Nat) (env : List (Option O)) (w : W) {P : O -> PSt -> Prop} : wG (some (some (dX e l))) i ⟨env, w⟩ P = P (dX e l) ⟨env.set i none, w⟩ := by
  simp only [fQ']; rfl
end M
namespace M
theorem lg' (l : List Nat) : bt' (l.map fun n => D.int (n : Nat)) = some (l.map fun n : Nat => (n : Int)) := by
  induction l with
  | nil => rfl
  | cons a l ih => show (bt' (l.map fun n => D.int (n : Nat))).map _ = _; rw [ih]; rfl
def dXz {γ : Type} (e : γ -> D) (l : List (γ × D)) : D := .dcx (l.map fun p => e p.1) (l.map fun p => p.2)
theorem zl' {γ : Type} (e : γ -> D) (l : List (γ × D)) : frz (dX e l) = dXz e l := by
  unfold dX dXz
  simp only [frz, iz', List.map_map]
  rfl
theorem AZ' {γ : Type} (e : γ -> D) (l : List (γ × D)) (i : Nat) (env : List (Option O)) (w : W) {P : D -> PSt -> Prop} : wV (some (some (dX e l))) i ⟨env, w⟩ P = P (dXz e l) ⟨env.set i (some (.fz (dXz e l))), w⟩ := by
  rw [fN']
  show vV (some (some (O.dcx _ _))) _ _ _ = _
  rw [<- zl']; rfl
theorem w0' {γ : Type} (e : γ -> D) (l : List (γ × D)) {P : D -> Prop} : wD (oX' (.fz (dXz e l))) P = P (.int l.length) := by
  show wD (some (D.int _)) P = _
  rw [aR', List.length_map]
end M
namespace M
end M
namespace M
theorem hA' : ∀ (es : List (Nat × Tx)), ge' (es.map fun p => .int (p.1 : Nat)) (es.map fun p => .fz (.str p.2)) = some es
  | [] => rfl
  | p :: es => by
    show (if (0 : Int) <= (p.1 : Nat) then (ge' (es.map fun p => .int (p.1 : Nat)) (es.map fun p => .fz (.str p.2))).map ((((p.1 : Nat) : Int).toNat, p.2) :: ·) else none) = _
    rw [if_pos (Int.natCast_nonneg _), hA' es]
    rfl
theorem ty' (es : List (Nat × Tx)) {P : D -> Prop} : wD (up' (.dct (es.map fun p => .int (p.1 : Nat)) (es.map fun p => .fz (.str p.2)))) P = P (.lst ((es.mergeSort Bo').map fun p => .tup [.int (p.1 : Nat), .str p.2])) := by
  have e : up' (.dct (es.map fun p => .int (p.1 : Nat)) (es.map fun p => .fz (.str p.2))) = some (.lst ((es.mergeSort Bo').map fun p => .tup [.int (p.1 : Nat), .str p.2])) := by
    show (ge' _ _).map _ = _
    rw [hA']
    rfl
  rw [e, au']
  rfl
end M
namespace M
theorem wh' (kl kd : Bool) (r : List (Option O)) : okL kl kd [] r = true := by cases r <;> rfl
theorem Bx' (kl kd : Bool) (m : List Bool) (x : Option O) (r : List (Option O)) : okL kl kd (false :: m) (x :: r) = okL kl kd m r := rfl
theorem Bw' (kl kd : Bool) (m : List Bool) (o : O) (r : List (Option O)) : okL kl kd (true :: m) (some o :: r) = (lendO kl kd o && okL kl kd m r) := rfl
theorem tN' (r : List (Option O)) : xg' [] r = 0 := by cases r <;> rfl
theorem Ab' (m : List Bool) (x : Option O) (r : List (Option O)) : xg' (false :: m) (x :: r) = xg' m r := rfl
theorem Aa' (m : List Bool) (o : O) (r : List (Option O)) : xg' (true :: m) (some o :: r) = Az' o + xg' m r := rfl
theorem te' (kl kd : Bool) (d : D) : lendO kl kd (.fz d) = true := rfl
theorem v9' (d : D) : Az' (.fz d) = 0 := rfl
theorem rj' (kd : Bool) (ds : List D) : lendO true kd (.lst (ds.map .fz)) = true := by
  show (true && (ds.map O.fz).all wG') = true
  simp [wG']
theorem s9' (kl kd : Bool) (n : Nat) : CV' kl kd (.fz (.obj n)) = true := rfl
def Br' : D -> Option (D × D)
  | .tup [x, y] => some (x, y)
  | _ => none
theorem zJ' (x y : D) {P : D × D -> Prop} : wD (Br' (.tup [x, y])) P = P (x, y) := by rw [au']; rfl
theorem BT' (i j : Int) {Q : D -> Prop} : wD (Dr' (.int i) (.int j)) Q = wC (0 <= j /\ j <= 1000 /\ -18446744073709551616 < i /\ i < 18446744073709551616) (Q (.int (i * 2 ^ j.toNat))) := by
  rw [au', fn']
  show vD (if 0 <= j /\ j <= 1000 /\ small64 i = true then _ else _) Q = _
  rw [aT']
  congr 1
  simp [small64]
theorem BS' (i j : Int) {Q : D -> Prop} : wD (Dq' (.int i) (.int j)) Q = wC (0 <= j) (Q (.int (i / 2 ^ j.toNat))) := by
  rw [au', fn']
  exact aT'
theorem DH' (is : List Nat) (ds : List D) (ρ : PSt) {N : PSt -> Prop} : wD (gL is (.lst ds) ρ) N = wD (gNs is ds ρ) N := rfl
theorem Ck' (gs : List MG) (ds : List D) (ρ : PSt) {N : PSt -> Prop} : wD (gTg gs (.tup ds) ρ) N = wD (gSq gs ds ρ) N := rfl
theorem z2' (ρ : PSt) {N : PSt -> Prop} : wD (gSq [] [] ρ) N = N ρ := by rw [au']; rfl
theorem Cl' (g : MG) (gs : List MG) (d : D) (ds : List D) (ρ : PSt) {N : PSt -> Prop} : wD (gSq (g :: gs) (d :: ds) ρ) N = wD (g d ρ) (fun ρ1 => wD (gSq gs ds ρ1) N) := by
  simp only [au']
  show vD ((g d ρ).bind (gSq gs ds)) N = _
  cases g d ρ <;> rfl
end M
namespace M
section
variable {α : Type} {env : List (Option O)} {w : W} {ρ : PSt} {X : Exc -> PSt -> Prop}
end
end M
namespace M
section
variable {α β : Type} [DecidableEq α] [DecidableEq β]
def ins (F : List α) (x : α) : List α := if x ∈ F then F else F ++ [x]
def cC' (F xs : List α) : List α := xs.foldl ins F
def aQ' (xs : List α) : List α := cC' [] xs
theorem c6' {F : List α} {x : α} (h : x ∈ F) : ins F x = F := if_pos h
theorem cI' {F : List α} {x : α} (h : x ∉ F) : ins F x = F ++ [x] := if_neg h
theorem q6' {F : List α} {x y : α} : y ∈ ins F x ↔ y ∈ F \/ y = x := by
  unfold ins
  split
  . rename_i h
    exact ⟨.inl, fun q => q.elim id fun e => e ▸ h⟩
  . simp
theorem bW' {F : List α} {x : α} {xs : List α} : cC' F (x :: xs) = cC' (ins F x) xs := rfl
theorem d2' {F xs ys : List α} : cC' F (xs ++ ys) = cC' (cC' F xs) ys := List.foldl_append ..
theorem jY' {F xs : List α} {x : α} : cC' F (xs ++ [x]) = ins (cC' F xs) x := by rw [d2']; rfl
theorem cB' {y : α} : ∀ {xs F : List α}, y ∈ cC' F xs ↔ y ∈ F \/ y ∈ xs
  | [], F => by simp [cC']
  | x :: xs, F => by
    rw [bW', cB', q6', List.mem_cons]
    constructor
    . rintro ((h | h) | h)
      . exact .inl h
      . exact .inr (.inl h)
      . exact .inr (.inr h)
    . rintro (h | h | h)
      . exact .inl (.inl h)
      . exact .inl (.inr h)
      . exact .inr h
theorem a0' {xs : List α} {y : α} : y ∈ aQ' xs ↔ y ∈ xs := by rw [aQ', cB']; simp
theorem v2' {F : List α} {x : α} : F <+: ins F x := by
  unfold ins
  split
  . exact List.prefix_refl _
  . exact List.prefix_append ..
theorem eg' : ∀ {xs F : List α}, F <+: cC' F xs
  | [], F => List.prefix_refl _
  | x :: xs, F => v2'.trans eg'
theorem yM' {F : List α} {x : α} (h : F.Nodup) : (ins F x).Nodup := by
  unfold ins
  split
  . exact h
  . rename_i q
    rw [List.nodup_append]
    exact ⟨h, by simp, fun a ha b hb e => q (by rw [List.mem_singleton] at hb; rw [<- hb, <- e]; exact ha)⟩
theorem eM' : ∀ {xs F : List α}, F.Nodup -> (cC' F xs).Nodup
  | [], _, h => h
  | _ :: xs, _, h => eM' (xs := xs) (yM' h)
theorem k8' {xs : List α} : (aQ' xs).Nodup := eM' List.nodup_nil
theorem nF' : ∀ {xs F : List α}, (∀ x ∈ xs, x ∈ F) -> cC' F xs = F
  | [], _, _ => rfl
  | x :: xs, F, h => by
    rw [bW', c6' (h x (by simp))]
    exact nF' fun y hy => h y (by simp [hy])
theorem cr' {xs : List α} {x : α} : aQ' (xs ++ [x]) = ins (aQ' xs) x := jY'
theorem dI' {xs : List α} (h : xs.Nodup) : aQ' xs = xs := by
  have go : ∀ (ys F : List α), (F ++ ys).Nodup -> cC' F ys = F ++ ys := by
    intro ys
    induction ys with
    | nil => intro F _; simp [cC']
    | cons y ys ih =>
      intro F hn
      have : y ∉ F := fun hy => (List.nodup_append.mp hn).2.2 y hy y (by simp) rfl
      rw [bW', cI' this, ih _ (by simpa using hn)]
      simp
  exact go xs [] (by simpa using h)
theorem jE' (c : α -> β) (F : List α) (x : α) : aQ' ((ins F x).map c) = ins (aQ' (F.map c)) (c x) := by
  by_cases h : x ∈ F
  . rw [c6' h, c6' (a0'.mpr (List.mem_map.mpr ⟨x, h, rfl⟩))]
  . rw [cI' h, List.map_append, List.map_cons, List.map_nil, cr']
theorem cZ' (c : α -> β) : ∀ (xs F : List α), aQ' ((cC' F xs).map c) = cC' (aQ' (F.map c)) (xs.map c)
  | [], _ => rfl
  | x :: xs, F => by rw [bW', cZ' c xs, jE', List.map_cons, bW']
theorem ir' (c : α -> β) (xs : List α) : aQ' ((aQ' xs).map c) = aQ' (xs.map c) := by
  have := cZ' c xs []
  exact this
theorem k9' (f : α -> β) {F : List α} {x : α} (h : ∀ y ∈ F, f y = f x -> y = x) : (ins F x).map f = ins (F.map f) (f x) := by
  by_cases hx : x ∈ F
  . rw [c6' hx, c6' (List.mem_map.mpr ⟨x, hx, rfl⟩)]
  . rw [cI' hx, cI']
    . simp
    . rw [List.mem_map]
      rintro ⟨y, hy, e⟩
      exact hx (h y hy e ▸ hy)
theorem e9' (f : α -> β) (U : α -> Prop) (inj : ∀ a b, U a -> U b -> f a = f b -> a = b) : ∀ (xs F : List α), (∀ x ∈ F, U x) -> (∀ x ∈ xs, U x) -> (cC' F xs).map f = cC' (F.map f) (xs.map f)
  | [], _, _, _ => rfl
  | x :: xs, F, hF, hx => by
    have ux := hx x (by simp)
    rw [bW', e9' f U inj xs (ins F x) (fun y hy => (q6'.mp hy).elim (hF y) fun e => e ▸ ux) (fun y hy => hx y (by simp [hy])), k9' f fun y hy e => inj y x (hF y hy) ux e, List.map_cons, bW']
theorem e8' (f : α -> β) (xs : List α) (inj : ∀ a ∈ xs, ∀ b ∈ xs, f a = f b -> a = b) : aQ' (xs.map f) = (aQ' xs).map f :=
  (e9' f (· ∈ xs) (fun a b ha hb => inj a ha b hb) xs [] (fun _ h => nomatch h) (fun _ h => h)).symm
theorem wm' : ∀ {xs : List α}, xs.Nodup -> xs.map (fun x => xs.idxOf x) = List.range xs.length := by
  intro xs h
  refine List.ext_getElem (by simp) fun i h1 h2 => ?_
  rw [List.getElem_map, List.getElem_range]
  rw [List.length_map] at h1
  exact List.Nodup.idxOf_getElem h i h1
theorem s8' (xs : List α) : aQ' (xs.map fun x => (aQ' xs).idxOf x) = List.range (aQ' xs).length := by
  rw [e8' (fun x => (aQ' xs).idxOf x) xs, wm' k8']
  intro a ha b hb e
  have h1 : (aQ' xs)[(aQ' xs).idxOf a]? = some a := by
    rw [List.getElem?_eq_getElem (List.idxOf_lt_length_iff.mpr (a0'.mpr ha)), List.getElem_idxOf]
  have h2 : (aQ' xs)[(aQ' xs).idxOf b]? = some b := by
    rw [List.getElem?_eq_getElem (List.idxOf_lt_length_iff.mpr (a0'.mpr hb)), List.getElem_idxOf]
  rw [e, h2] at h1
  exact (Option.some.inj h1).symm
theorem b7' (g : α -> β) (X : List α) : (aQ' (X.map g)).length <= (aQ' X).length := by
  have h := ir' g X
  rw [<- h]
  have go : ∀ (ys F : List β), (cC' F ys).length <= F.length + ys.length := by
    intro ys
    induction ys with
    | nil => intro F; simp [cC']
    | cons y ys ih =>
      intro F
      rw [bW']
      refine Nat.le_trans (ih _) ?_
      have : (ins F y).length <= F.length + 1 := by unfold ins; split <;> simp
      simp only [List.length_cons]
      omega
  have := go ((aQ' X).map g) []
  simpa [aQ'] using this
theorem k6' (g : α -> β) (X : List α) (h : (aQ' (X.map g)).length = (aQ' X).length) : ∀ a ∈ X, ∀ b ∈ X, g a = g b -> a = b := by
  have go : ∀ (l : List α), (aQ' (l.reverse.map g)).length = (aQ' l.reverse).length -> ∀ a ∈ l, ∀ b ∈ l, g a = g b -> a = b := by
    intro l
    induction l with
    | nil => intro _ a ha; cases ha
    | cons x l ih =>
      intro h
      rw [List.reverse_cons, List.map_append, List.map_cons, List.map_nil, cr', cr'] at h
      by_cases hx : x ∈ l
      . have hx' : x ∈ aQ' l.reverse := a0'.mpr (List.mem_reverse.mpr hx)
        have hg : g x ∈ aQ' (l.reverse.map g) := a0'.mpr (List.mem_map.mpr ⟨x, List.mem_reverse.mpr hx, rfl⟩)
        rw [c6' hx', c6' hg] at h
        intro a ha b hb e
        have ha' : a ∈ l := (List.mem_cons.mp ha).elim (fun e => e ▸ hx) id
        have hb' : b ∈ l := (List.mem_cons.mp hb).elim (fun e => e ▸ hx) id
        exact ih h a ha' b hb' e
      . have hx' : x ∉ aQ' l.reverse := fun q => hx (List.mem_reverse.mp (a0'.mp q))
        rw [cI' hx', List.length_append, List.length_singleton] at h
        have le := b7' g l.reverse
        by_cases hg : g x ∈ aQ' (l.reverse.map g)
        . rw [c6' hg] at h; omega
        . rw [cI' hg, List.length_append, List.length_singleton] at h
          have ih := ih (by omega)
          have no : ∀ a ∈ l, g a ≠ g x := fun a ha e => hg (a0'.mpr (List.mem_map.mpr ⟨a, List.mem_reverse.mpr ha, e⟩))
          intro a ha b hb e
          rcases List.mem_cons.mp ha with ea | ha2
          . rcases List.mem_cons.mp hb with eb | hb2
            . rw [ea, eb]
            . exact absurd (by rw [<- ea]; exact e.symm) (no b hb2)
          . rcases List.mem_cons.mp hb with eb | hb2
            . exact absurd (by rw [<- eb]; exact e) (no a ha2)
            . exact ih a ha2 b hb2 e
  intro a ha b hb e
  exact go X.reverse (by rw [List.reverse_reverse]; exact h) a (List.mem_reverse.mpr ha) b (List.mem_reverse.mpr hb) e
end
def aH' (T : List (List Nat)) (s : Nat) : List Nat := (T[s]?).getD []
def bfs (T : List (List Nat)) : Nat -> List Nat
  | 0 => [0]
  | j + 1 => match (bfs T j)[j]? with
    | some s => cC' (bfs T j) (aH' T s)
    | none => bfs T j
section
variable {T : List (List Nat)} {n m : Nat}
theorem hu' (h : bf' T n m) {s t : Nat} (ht : t ∈ aH' T s) : t < n := by
  unfold aH' at ht
  cases e : T[s]? with
  | none => rw [e] at ht; cases ht
  | some r =>
    rw [e] at ht
    exact (h.2 r (List.mem_of_getElem? e)).2 t ht
theorem cH' (h : bf' T n m) {s : Nat} (hs : s < n) : (aH' T s).length = m := by
  unfold aH'
  rw [List.getElem?_eq_getElem (by rw [h.1]; exact hs)]
  exact (h.2 _ (List.getElem_mem _)).1
theorem dF' (h : bf' T n m) {s : Nat} (hs : s < n) : T[s]? = some (aH' T s) := by
  unfold aH'
  rw [List.getElem?_eq_getElem (by rw [h.1]; exact hs)]
  rfl
theorem rU' : ∀ {j : Nat}, bfs T j <+: bfs T (j + 1) := by
  intro j
  show bfs T j <+: (match (bfs T j)[j]? with | some s => cC' (bfs T j) (aH' T s) | none => bfs T j)
  split
  . exact eg'
  . exact List.prefix_refl _
theorem c2' {i j : Nat} (h : i <= j) : bfs T i <+: bfs T j := by
  induction h with
  | refl => exact List.prefix_refl _
  | step _ ih => exact ih.trans rU'
theorem ko' : ∀ j : Nat, (bfs T j).Nodup
  | 0 => by simp [bfs]
  | j + 1 => by
    show (match (bfs T j)[j]? with | some s => cC' (bfs T j) (aH' T s) | none => bfs T j).Nodup
    split
    . exact eM' (ko' j)
    . exact ko' j
theorem n1' (h : bf' T n m) (hn : 1 <= n) : ∀ {j s : Nat}, s ∈ bfs T j -> s < n := by
  intro j
  induction j with
  | zero => intro s hs; simp [bfs] at hs; omega
  | succ j ih =>
    intro s hs
    have hs : s ∈ (match (bfs T j)[j]? with | some s => cC' (bfs T j) (aH' T s) | none => bfs T j) := hs
    split at hs
    . rcases cB'.mp hs with h1 | h1
      . exact ih h1
      . exact hu' h h1
    . exact ih hs
theorem q3' {l : List Nat} (hn : l.Nodup) (h : ∀ s ∈ l, s < n) : l.length <= n := by
  have := List.Nodup.length_le_of_subset hn fun s hs => List.mem_range.mpr (h s hs)
  simpa using this
theorem c4' (h : bf' T n m) (hn : 1 <= n) (j : Nat) : (bfs T j).length <= n := q3' (ko' j) fun _ hs => n1' h hn hs
theorem n0' {j : Nat} (h : (bfs T j).length <= j) : ∀ {i : Nat}, j <= i -> bfs T i = bfs T j := by
  intro i hi
  induction hi with
  | refl => rfl
  | @step i hi ih =>
    show (match (bfs T i)[i]? with | some s => cC' (bfs T i) (aH' T s) | none => bfs T i) = _
    have : (bfs T i)[i]? = none := by rw [ih]; exact List.getElem?_eq_none (Nat.le_trans h hi)
    rw [this, ih]
theorem kp' {j s : Nat} (h : (bfs T j)[j]? = some s) : bfs T (j + 1) = cC' (bfs T j) (aH' T s) := by
  show (match (bfs T j)[j]? with | some s => cC' (bfs T j) (aH' T s) | none => bfs T j) = _
  rw [h]
def reach (T : List (List Nat)) : List Nat := bfs T T.length
theorem ih' (h : bf' T T.length m) (hn : 1 <= T.length) {j : Nat} (hj : (bfs T j).length <= j) : bfs T j = reach T := by
  have hl := c4' h hn
  by_cases q : j <= T.length
  . exact (n0' hj q).symm
  . exact n0' (hl _) (by omega)
theorem gc' {j s : Nat} (h : bf' T T.length m) (hn : 1 <= T.length) (e : (reach T)[j]? = some s) : (bfs T j)[j]? = some s := by
  -- what stands at j is found before j is walked
  have h1 : j < (bfs T j).length := by
    rcases Nat.lt_or_ge j (bfs T j).length with q | q
    . exact q
    . have := ih' h hn q
      rw [<- this] at e
      have := (List.getElem?_eq_some_iff.mp e).1
      omega
  have hle : j <= T.length := by
    have := (List.getElem?_eq_some_iff.mp e).1
    have := c4' h hn T.length
    unfold reach at *
    omega
  obtain ⟨G, eG⟩ := c2' (T := T) hle
  unfold reach at e
  rw [<- eG, List.getElem?_append_left h1] at e
  exact e
theorem ii' : (reach T).Nodup := ko' _
theorem ij' (h : bf' T T.length m) (hn : 1 <= T.length) {s : Nat} (hs : s ∈ reach T) : s < T.length := n1' h hn hs
theorem vX' : (reach T)[0]? = some 0 := by
  obtain ⟨G, e⟩ := c2' (T := T) (Nat.zero_le T.length)
  unfold reach
  rw [<- e]
  rfl
theorem eI' : 0 ∈ reach T := List.mem_of_getElem? vX'
theorem dk' (h : bf' T T.length m) (hn : 1 <= T.length) {s t : Nat} (hs : s ∈ reach T) (ht : t ∈ aH' T s) : t ∈ reach T := by
  obtain ⟨j, hj, e⟩ := List.getElem_of_mem hs
  have e : (reach T)[j]? = some s := by rw [List.getElem?_eq_getElem hj, e]
  have e2 := kp' (gc' h hn e)
  have hl := c4' h hn T.length
  have hj' : j + 1 <= T.length := by unfold reach at hj; omega
  exact (c2' hj').subset (by rw [e2]; exact cB'.mpr (.inr ht))
end
section
variable {γ : Type} [DecidableEq γ] {S : List Nat}
def nr' (S : List Nat) (f : Nat -> γ) (s : Nat) : Nat := (aQ' (S.map f)).idxOf (f s)
theorem is' (f : Nat -> γ) : aQ' (S.map (nr' S f)) = List.range (aQ' (S.map f)).length := by
  have := s8' (S.map f)
  rw [List.map_map] at this
  exact this
theorem it' (f : Nat -> γ) {s : Nat} (hs : s ∈ S) : (aQ' (S.map f))[nr' S f s]? = some (f s) := by
  have : nr' S f s < (aQ' (S.map f)).length := List.idxOf_lt_length_iff.mpr (a0'.mpr (List.mem_map.mpr ⟨s, hs, rfl⟩))
  rw [List.getElem?_eq_getElem this]
  exact congrArg some (List.getElem_idxOf _)
theorem dJ' (f : Nat -> γ) {s t : Nat} (hs : s ∈ S) (ht : t ∈ S) : nr' S f s = nr' S f t ↔ f s = f t := by
  constructor
  . intro e
    have h1 := it' f hs
    rw [e, it' f ht] at h1
    exact (Option.some.inj h1).symm
  . intro e; unfold nr'; rw [e]
end
def key (T : List (List Nat)) (c : Nat -> Nat) (s : Nat) : Nat × List Nat := (c s, (aH' T s).map c)
def Leq (L : Tx) (T : List (List Nat)) (A : List Nat) (s t : Nat) : Prop := ∀ x : Tx, (∀ a ∈ x, a ∈ L) -> (run L T s x ∈ A ↔ run L T t x ∈ A)
structure Clz (L : Tx) (T : List (List Nat)) (A : List Nat) (S : List Nat) (c : Nat -> Nat) (k : Nat) : Prop where
  num : aQ' (S.map c) = List.range k
  ref : ∀ s ∈ S, ∀ t ∈ S, c s = c t -> (s ∈ A ↔ t ∈ A)
  co : ∀ s ∈ S, ∀ t ∈ S, Leq L T A s t -> c s = c t
section
variable {L : Tx} {T : List (List Nat)} {A S : List Nat} {c : Nat -> Nat} {k : Nat}
theorem kJ' (s a : Nat) : stp L T s a = ((aH' T s)[L.idxOf a]?).getD 0 := rfl
theorem kK' (hL : L.Nodup) {s i : Nat} (hi : i < L.length) : stp L T s L[i] = ((aH' T s)[i]?).getD 0 := by rw [kJ', hL.idxOf_getElem i hi]
theorem fV' (h : bf' T T.length L.length) {s a : Nat} (hs : s < T.length) (ha : a ∈ L) : stp L T s a ∈ aH' T s := by
  obtain ⟨r, h1, h2, _⟩ := m0' h hs ha
  have : aH' T s = r := by unfold aH'; rw [h1]; rfl
  rw [this]
  exact List.mem_of_getElem? h2
theorem Leq.step (h : Leq L T A s t) (ha : a ∈ L) : Leq L T A (stp L T s a) (stp L T t a) := fun x hx => by
  have := h (a :: x) fun b hb => (List.mem_cons.mp hb).elim (fun e => e ▸ ha) (hx b)
  exact this
theorem Leq.refl (s : Nat) : Leq L T A s s := fun _ _ => Iff.rfl
theorem Leq.symm (h : Leq L T A s t) : Leq L T A t s := fun x hx => (h x hx).symm
theorem Leq.trans (h : Leq L T A s t) (h' : Leq L T A t u) : Leq L T A s u := fun x hx => (h x hx).trans (h' x hx)
theorem qw' (h : bf' T T.length L.length) (hL : L.Nodup) {s t : Nat} (hs : s < T.length) (ht : t < T.length) (hc : ∀ a ∈ L, c (stp L T s a) = c (stp L T t a)) : (aH' T s).map c = (aH' T t).map c := by
  have l1 := cH' h hs
  have l2 := cH' h ht
  refine List.ext_getElem (by simp [l1, l2]) fun i h1 h2 => ?_
  rw [List.getElem_map, List.getElem_map]
  rw [List.length_map] at h1 h2
  have := hc L[i] (List.getElem_mem (by omega))
  rw [kK' hL (by omega), kK' hL (by omega), List.getElem?_eq_getElem h1, List.getElem?_eq_getElem h2] at this
  exact this
theorem Clz.lt (h : Clz L T A S c k) {s : Nat} (hs : s ∈ S) : c s < k := by
  have : c s ∈ aQ' (S.map c) := a0'.mpr (List.mem_map.mpr ⟨s, hs, rfl⟩)
  rw [h.num] at this
  exact List.mem_range.mp this
theorem Clz.first : Clz L T A S (nr' S fun s => decide (s ∈ A)) (aQ' (S.map fun s => decide (s ∈ A))).length := by
  refine ⟨is' _, fun s hs t ht e => ?_, fun s hs t ht e => (dJ' _ hs ht).mpr ?_⟩
  . have := (dJ' _ hs ht).mp e
    simpa using this
  . have := e [] (fun _ h => nomatch h)
    simpa [vV'] using this
theorem Clz.next (hT : bf' T T.length L.length) (hL : L.Nodup) (hS : ∀ s ∈ S, s < T.length) (hcl : ∀ s ∈ S, ∀ t ∈ aH' T s, t ∈ S) (h : Clz L T A S c k) : Clz L T A S (nr' S (key T c)) (aQ' (S.map (key T c))).length := by
  refine ⟨is' _, fun s hs t ht e => ?_, fun s hs t ht e => (dJ' _ hs ht).mpr ?_⟩
  . have := (dJ' _ hs ht).mp e
    exact h.ref s hs t ht (congrArg Prod.fst this)
  . refine Prod.ext (h.co s hs t ht e) (qw' hT hL (hS s hs) (hS t ht) fun a ha => ?_)
    exact h.co _ (hcl s hs _ (fV' hT (hS s hs) ha)) _ (hcl t ht _ (fV' hT (hS t ht) ha)) (e.step ha)
theorem iy' : (S.map (key T c)).map Prod.fst = S.map c := by rw [List.map_map]; rfl
theorem Clz.le (h : Clz L T A S c k) : k <= (aQ' (S.map (key T c))).length := by
  have := b7' Prod.fst (S.map (key T c))
  rw [iy', h.num, List.length_range] at this
  exact this
theorem Clz.stable (h : Clz L T A S c k) (he : (aQ' (S.map (key T c))).length <= k) : ∀ s ∈ S, ∀ t ∈ S, c s = c t -> key T c s = key T c t := fun s hs t ht e => by
  have hk := Nat.le_antisymm he h.le
  refine k6' Prod.fst (S.map (key T c)) ?_ _ (List.mem_map.mpr ⟨s, hs, rfl⟩) _ (List.mem_map.mpr ⟨t, ht, rfl⟩) e
  rw [iy', h.num, List.length_range, hk]
theorem Clz.same (h : Clz L T A S c k) (he : (aQ' (S.map (key T c))).length <= k) : ∀ s ∈ S, nr' S (key T c) s = c s := fun s hs => by
  have st := h.stable he
  have e : aQ' ((S.map (key T c)).map Prod.fst) = (aQ' (S.map (key T c))).map Prod.fst := e8' Prod.fst _ fun a ha b hb q => by
    obtain ⟨s1, h1, rfl⟩ := List.mem_map.mp ha
    obtain ⟨s2, h2, rfl⟩ := List.mem_map.mp hb
    exact st s1 h1 s2 h2 q
  rw [iy', h.num] at e
  have g := it' (key T c) hs
  have g2 : ((aQ' (S.map (key T c))).map Prod.fst)[nr' S (key T c) s]? = some (c s) := by rw [List.getElem?_map, g]; rfl
  rw [<- e] at g2
  obtain ⟨hl, g3⟩ := List.getElem?_eq_some_iff.mp g2
  rw [List.getElem_range] at g3
  exact g3
end
def bY' (S : List Nat) (c : Nat -> Nat) (q : Nat) : Nat := (S.find? fun s => decide (c s = q)).getD 0
def b4' (T : List (List Nat)) (S : List Nat) (c : Nat -> Nat) (k : Nat) : List (List Nat) := (List.range k).map fun q => (aH' T (bY' S c q)).map c
def hF' (A : List Nat) (S : List Nat) (c : Nat -> Nat) (k : Nat) : List Nat := (List.range k).filter fun q => decide (bY' S c q ∈ A)
structure IsLeast (L : Tx) (T : List (List Nat)) (A : List Nat) (c : Nat -> Nat) (T' : List (List Nat)) (A' : List Nat) : Prop where
  tab : bf' T' T'.length L.length
  ne : 1 <= T'.length
  le : T'.length <= T.length
  acc : AccOk A' T'.length
  c0 : c 0 = 0
  lt : ∀ s ∈ reach T, c s < T'.length
  row : ∀ s ∈ reach T, aH' T' (c s) = (aH' T s).map c
  fin : ∀ s ∈ reach T, (c s ∈ A' ↔ s ∈ A)
  onto : ∀ q < T'.length, ∃ s ∈ reach T, c s = q
  reach : reach T' = List.range T'.length
  apart : ∀ p < T'.length, ∀ q < T'.length, Leq L T' A' p q -> p = q
  num : aQ' ((M.reach T).map c) = List.range T'.length
section
variable {L : Tx} {T : List (List Nat)} {A : List Nat} {c : Nat -> Nat} {k : Nat}
theorem vF' {T' : List (List Nat)} (hT : bf' T T.length L.length) {s a : Nat} (hs : s < T.length) (ha : a ∈ L) (e : aH' T' (c s) = (aH' T s).map c) : stp L T' (c s) a = c (stp L T s a) := by
  rw [kJ', kJ', e]
  have l1 := cH' hT hs
  have hi : L.idxOf a < L.length := List.idxOf_lt_length_iff.mpr ha
  rw [List.getElem?_map, List.getElem?_eq_getElem (by omega)]
  rfl
theorem ga' {T' : List (List Nat)} {S : List Nat} (hT : bf' T T.length L.length) (hS : ∀ s ∈ S, s < T.length) (hcl : ∀ s ∈ S, ∀ t ∈ aH' T s, t ∈ S) (hr : ∀ s ∈ S, aH' T' (c s) = (aH' T s).map c) :
    ∀ x : Tx, (∀ a ∈ x, a ∈ L) -> ∀ s ∈ S, run L T' (c s) x = c (run L T s x) /\ run L T s x ∈ S
  | [], _, s, hs => ⟨rfl, hs⟩
  | a :: x, hx, s, hs => by
    have ha := hx a (by simp)
    rw [ig', ig', vF' hT (hS s hs) ha (hr s hs)]
    exact ga' hT hS hcl hr x (fun b hb => hx b (by simp [hb])) _ (hcl s hs _ (fV' hT (hS s hs) ha))
theorem ef' {l : List Nat} {k : Nat} (h : l <+: List.range k) : l = List.range l.length := by
  obtain ⟨G, e⟩ := h
  refine List.ext_getElem (by simp) fun i h1 h2 => ?_
  have : (l ++ G)[i]? = (List.range k)[i]? := by rw [e]
  have hk : i < k := by
    have := congrArg List.length e
    simp only [List.length_append, List.length_range] at this
    omega
  rw [List.getElem?_append_left h1, List.getElem?_eq_getElem h1, List.getElem?_eq_getElem (by simpa using hk), List.getElem_range] at this
  rw [List.getElem_range]
  exact Option.some.inj this
theorem fF' {F G : List Nat} (c : Nat -> Nat) (h : F <+: G) : aQ' (F.map c) <+: aQ' (G.map c) := by
  obtain ⟨K, rfl⟩ := h
  rw [List.map_append, aQ', aQ', d2']
  exact eg'
theorem tg' (hT : bf' T T.length L.length) (hL : L.Nodup) (hn : 1 <= T.length) (h : Clz L T A (reach T) c k) (st : ∀ s ∈ reach T, ∀ t ∈ reach T, c s = c t -> key T c s = key T c t) :
    IsLeast L T A c (b4' T (reach T) c k) (hF' A (reach T) c k) := by
  have hS : ∀ s ∈ reach T, s < T.length := fun s hs => ij' hT hn hs
  have hcl : ∀ s ∈ reach T, ∀ t ∈ aH' T s, t ∈ reach T := fun s hs t ht => dk' hT hn hs ht
  have lenT : (b4' T (reach T) c k).length = k := by simp [b4']
  have fst : ∀ q < k, bY' (reach T) c q ∈ reach T /\ c (bY' (reach T) c q) = q := by
    intro q hq
    have : q ∈ aQ' ((reach T).map c) := by rw [h.num]; exact List.mem_range.mpr hq
    obtain ⟨s, hs, e⟩ := List.mem_map.mp (a0'.mp this)
    unfold bY'
    cases f : (reach T).find? fun s => decide (c s = q) with
    | none =>
      have := List.find?_eq_none.mp f s hs
      simp [e] at this
    | some t => exact ⟨List.mem_of_find?_eq_some f, by have := List.find?_some f; simpa using this⟩
  have c0 : c 0 = 0 := by
    have h1 : aQ' (([0] : List Nat).map c) <+: aQ' ((reach T).map c) := fF' c (by
      have := c2' (T := T) (Nat.zero_le T.length)
      exact this)
    rw [h.num] at h1
    have h2 := ef' h1
    have h3 : aQ' (([0] : List Nat).map c) = [c 0] := rfl
    rw [h3] at h2
    simpa using h2
  have lt : ∀ s ∈ reach T, c s < k := fun s hs => h.lt hs
  have fH' : 1 <= k := by have := lt 0 eI'; omega
  have rowL : ∀ q < k, aH' (b4' T (reach T) c k) q = (aH' T (bY' (reach T) c q)).map c := by
    intro q hq
    unfold aH'
    unfold b4'
    rw [List.getElem?_map, List.getElem?_range hq]
    rfl
  have row : ∀ s ∈ reach T, aH' (b4' T (reach T) c k) (c s) = (aH' T s).map c := by
    intro s hs
    rw [rowL _ (lt s hs)]
    obtain ⟨f1, f2⟩ := fst _ (lt s hs)
    exact congrArg Prod.snd (st _ f1 s hs f2)
  have fin : ∀ s ∈ reach T, (c s ∈ hF' A (reach T) c k ↔ s ∈ A) := by
    intro s hs
    unfold hF'
    rw [List.mem_filter, List.mem_range]
    obtain ⟨f1, f2⟩ := fst _ (lt s hs)
    have := h.ref _ f1 s hs f2
    simp [lt s hs, this]
  have onto : ∀ q < k, ∃ s ∈ reach T, c s = q := fun q hq => ⟨_, (fst q hq).1, (fst q hq).2⟩
  have kle : k <= T.length := by
    have h1 := b7' c (reach T)
    rw [h.num, List.length_range, dI' ii'] at h1
    exact Nat.le_trans h1 (c4' hT hn _)
  have tab : bf' (b4' T (reach T) c k) (b4' T (reach T) c k).length L.length := by
    refine ⟨rfl, fun r hr => ?_⟩
    unfold b4' at hr
    obtain ⟨q, hq, rfl⟩ := List.mem_map.mp hr
    obtain ⟨f1, f2⟩ := fst q (List.mem_range.mp hq)
    refine ⟨by rw [List.length_map]; exact cH' hT (hS _ f1), fun t ht => ?_⟩
    obtain ⟨u, hu, rfl⟩ := List.mem_map.mp ht
    rw [lenT]
    exact lt u (hcl _ f1 u hu)
  have apart : ∀ p < k, ∀ q < k, Leq L (b4' T (reach T) c k) (hF' A (reach T) c k) p q -> p = q := by
    intro p hp q hq hl
    obtain ⟨f1, f2⟩ := fst p hp
    obtain ⟨g1, g2⟩ := fst q hq
    rw [<- f2, <- g2]
    refine h.co _ f1 _ g1 fun x hx => ?_
    have a1 := ga' hT hS hcl row x hx _ f1
    have a2 := ga' hT hS hcl row x hx _ g1
    have := hl x hx
    rw [<- f2, <- g2, a1.1, a2.1, fin _ a1.2, fin _ a2.2] at this
    exact this
  -- the order in which the classes are found
  have seq : ∀ j, j <= (reach T).length -> bfs (b4' T (reach T) c k) (aQ' (((reach T).take j).map c)).length = aQ' ((bfs T j).map c) := by
    intro j
    induction j with
    | zero =>
      intro _
      show [0] = aQ' [c 0]
      rw [c0]; rfl
    | succ j ih =>
      intro hj
      have ih := ih (by omega)
      have hs : (reach T)[j]? = some (reach T)[j] := List.getElem?_eq_getElem (by omega)
      generalize (reach T)[j] = s at hs
      have hsb := gc' hT hn hs
      have hsm : s ∈ reach T := List.mem_of_getElem? hs
      have tk : (reach T).take (j + 1) = (reach T).take j ++ [s] := by rw [List.take_succ, hs]; rfl
      have hpre : aQ' (((reach T).take j).map c) <+: List.range k := by rw [<- h.num]; exact fF' c (List.take_prefix ..)
      have hr := ef' hpre
      have hpre2 : aQ' (((reach T).take (j + 1)).map c) <+: List.range k := by rw [<- h.num]; exact fF' c (List.take_prefix ..)
      have hjl : j <= T.length := by
        have := c4' hT hn T.length
        unfold reach at hj
        omega
      rw [kp' hsb, cZ']
      rw [tk, List.map_append, List.map_cons, List.map_nil, cr'] at hpre2 ⊢
      by_cases hc : c s ∈ aQ' (((reach T).take j).map c)
      . rw [c6' hc, ih]
        refine (nF' fun y hy => ?_).symm
        obtain ⟨y0, hy0, rfl⟩ := List.mem_map.mp hy
        obtain ⟨s', hs', e'⟩ := List.mem_map.mp (a0'.mp hc)
        have hs'm : s' ∈ reach T := List.mem_of_mem_take hs'
        have rr : (aH' T s').map c = (aH' T s).map c := congrArg Prod.snd (st _ hs'm _ hsm e')
        have : c y0 ∈ (aH' T s').map c := by rw [rr]; exact hy
        obtain ⟨y1, hy1, e1⟩ := List.mem_map.mp this
        refine a0'.mpr (List.mem_map.mpr ⟨y1, ?_, e1⟩)
        obtain ⟨i, hi, ei⟩ := List.getElem_of_mem hs'
        rw [List.length_take] at hi
        rw [List.getElem_take] at ei
        have gi : (reach T)[i]? = some s' := by rw [List.getElem?_eq_getElem (by omega), ei]
        have := kp' (gc' hT hn gi)
        exact (c2' (show i + 1 <= j by omega)).subset (by rw [this]; exact cB'.mpr (.inr hy1))
      . rw [cI' hc] at hpre2 ⊢
        have hq := ef' hpre2
        have hcs : c s = (aQ' (((reach T).take j).map c)).length := by
          have := congrArg (fun l => l[(aQ' (((reach T).take j).map c)).length]?) hq
          simp only [List.getElem?_append_right (Nat.le_refl _), Nat.sub_self, List.getElem?_cons_zero, List.length_append, List.length_singleton] at this
          rw [List.getElem?_range (by omega)] at this
          exact Option.some.inj this
        rw [List.length_append, List.length_singleton]
        have hG : aQ' ((bfs T j).map c) <+: List.range k := by rw [<- h.num]; exact fF' c (c2' hjl)
        have hGr := ef' hG
        have hmem : c s ∈ aQ' ((bfs T j).map c) := a0'.mpr (List.mem_map.mpr ⟨s, List.mem_of_getElem? hsb, rfl⟩)
        have hget : (bfs (b4' T (reach T) c k) (aQ' (((reach T).take j).map c)).length)[(aQ' (((reach T).take j).map c)).length]? = some (c s) := by
          rw [ih, <- hcs]
          rw [hGr] at hmem ⊢
          rw [List.getElem?_range (List.mem_range.mp hmem)]
        rw [kp' hget, ih, row s hsm]
  have rch : reach (b4' T (reach T) c k) = List.range (b4' T (reach T) c k).length := by
    have e := seq (reach T).length (Nat.le_refl _)
    rw [List.take_length, h.num, List.length_range] at e
    have hb : bfs T (reach T).length = reach T := by
      refine ih' hT hn ?_
      have := c2' (T := T) (show (reach T).length <= T.length from c4' hT hn _)
      exact this.length_le
    rw [hb, h.num] at e
    show bfs _ (b4' T (reach T) c k).length = _
    rw [lenT]
    exact e
  refine ⟨tab, by rw [lenT]; exact fH', by rw [lenT]; exact kle, ⟨?_, fun a ha => ?_⟩, c0, by rw [lenT]; exact lt, row, fin, by rw [lenT]; exact onto, rch, by rw [lenT]; exact apart, by rw [lenT]; exact h.num⟩
  . exact List.Pairwise.filter _ List.pairwise_lt_range
  . rw [lenT]
    exact List.mem_range.mp (List.mem_filter.mp ha).1
end
structure Cw (L : Tx) (T : List (List Nat)) (A : List Nat) (S : List Nat) (c : Nat -> Nat) : Prop where
  ref : ∀ s ∈ S, ∀ t ∈ S, c s = c t -> (s ∈ A ↔ t ∈ A)
  co : ∀ s ∈ S, ∀ t ∈ S, Leq L T A s t -> c s = c t
section
variable {L : Tx} {T : List (List Nat)} {A S : List Nat} {c : Nat -> Nat} {k : Nat}
theorem Cw.next (hT : bf' T T.length L.length) (hL : L.Nodup) (hS : ∀ s ∈ S, s < T.length) (hcl : ∀ s ∈ S, ∀ t ∈ aH' T s, t ∈ S) (h : Cw L T A S c) : Clz L T A S (nr' S (key T c)) (aQ' (S.map (key T c))).length := by
  refine ⟨is' _, fun s hs t ht e => ?_, fun s hs t ht e => (dJ' _ hs ht).mpr ?_⟩
  . have := (dJ' _ hs ht).mp e
    exact h.ref s hs t ht (congrArg Prod.fst this)
  . refine Prod.ext (h.co s hs t ht e) (qw' hT hL (hS s hs) (hS t ht) fun a ha => ?_)
    exact h.co _ (hcl s hs _ (fV' hT (hS s hs) ha)) _ (hcl t ht _ (fV' hT (hS t ht) ha)) (e.step ha)
end
def r3' (X : D) (T : List (List Nat)) : Prop := ∀ (s : Nat) (r : List Nat), T[s]? = some r -> ∃ R, pIx X (.int (s : Nat)) = some R /\ dX' R = some (r.map fun t => .int (t : Nat))
def lR' (Y : D) (A : List Nat) : Prop := ∀ s : Nat, pIn (.int (s : Nat)) Y = some (.bl (decide (s ∈ A)))
theorem r3'.tab (T : List (List Nat)) : r3' (dc' T) T := fun s r h => ⟨d7' r, by
  show ati (T.map d7') (s : Int) = _
  rw [n3' (by omega), List.getElem?_map, Int.toNat_natCast, h]; rfl, rfl⟩
theorem lR'.acc (A : List Nat) : lR' (dB' A) A := fun s => by
  have h := rN' A s (Q := fun d => d = .bl (decide (s ∈ A)))
  have : wD (pIn (.int (s : Nat)) (dB' A)) (fun d => d = .bl (decide (s ∈ A))) := by rw [h]
  rw [au'] at this
  cases e : pIn (.int (s : Nat)) (dB' A) with
  | none => rw [e] at this; exact this.elim
  | some d => rw [e] at this; exact congrArg some this
def ixo {γ : Type} [DecidableEq γ] (G : List γ) (a : γ) : Nat := G.idxOf a
section
variable {L : Tx} {T : List (List Nat)} {A : List Nat} {c c' : Nat -> Nat} {T1 T2 : List (List Nat)} {A1 A2 : List Nat}
end
theorem rD' {S : List Nat} {c : Nat -> Nat} {s q : Nat} (h : q ∈ S.map c) : bY' (S ++ [s]) c q = bY' S c q := by
  obtain ⟨t, ht, rfl⟩ := List.mem_map.mp h
  unfold bY'
  rw [List.find?_append]
  cases e : S.find? fun s => decide (c s = c t) with
  | none =>
    have := List.find?_eq_none.mp e t ht
    simp at this
  | some u => rfl
theorem rE' {S : List Nat} {c : Nat -> Nat} {s : Nat} (h : c s ∉ S.map c) : bY' (S ++ [s]) c (c s) = s := by
  unfold bY'
  rw [List.find?_append]
  have : (S.find? fun t => decide (c t = c s)) = none := by
    rw [List.find?_eq_none]
    intro t ht e
    exact h (List.mem_map.mpr ⟨t, ht, by simpa using e⟩)
  rw [this]
  simp
def Pl (y : Option O) : Prop := y = none \/ ∃ d, y = some (.fz d)
theorem Pl.keep {y : Option O} (h : Pl y) : rs' (some y) = y := by rcases h with rfl | ⟨d, rfl⟩ <;> rfl
end M
namespace M
section
variable {L : Tx} {T T' U : List (List Nat)} {A A' B T1 A1 T2 A2 : List Nat} {m : Nat} {c : Nat -> Nat}
theorem IsLeast.run0 {T1 : List (List Nat)} (hT : bf' T T.length L.length) (hn : 1 <= T.length) (h : IsLeast L T A c T1 A1) {x : Tx} (hx : ∀ a ∈ x, a ∈ L) : run L T1 0 x ∈ A1 ↔ run L T 0 x ∈ A := by
  have hS : ∀ s ∈ M.reach T, s < T.length := fun s hs => ij' hT hn hs
  have hcl : ∀ s ∈ M.reach T, ∀ t ∈ aH' T s, t ∈ M.reach T := fun s hs t ht => dk' hT hn hs ht
  have := ga' hT hS hcl h.row x hx 0 eI'
  rw [h.c0] at this
  rw [this.1, h.fin _ this.2]
end
end M
namespace M
section
variable {γ : Type} [DecidableEq γ] (L : Tx) (sx : γ -> Nat -> γ) (g0 : γ)
def nxG (g : γ) : List γ := L.map (sx g)
def xbf : Nat -> List γ
  | 0 => [g0]
  | j + 1 => match (xbf j)[j]? with
    | some g => cC' (xbf j) (nxG L sx g)
    | none => xbf j
def nx' (g : γ) (z : Tx) : γ := z.foldl sx g
def Rch (g : γ) : Prop := ∃ z : Tx, (∀ c ∈ z, c ∈ L) /\ g = nx' sx g0 z
def Few (N : Nat) : Prop := ∀ l : List γ, l.Nodup -> (∀ g ∈ l, Rch L sx g0 g) -> l.length <= N
def gO' (N : Nat) : List γ := xbf L sx g0 N
def Ap' (F : List γ) (g : γ) : List Nat := L.map fun c => ixo F (sx g c)
def tV' (F : List γ) : List (List Nat) := F.map (Ap' L sx F)
def CK' (F : List γ) (p : γ -> Bool) : List Nat := (List.range F.length).filter fun q => ((F[q]?).map p).getD false
variable {L sx g0}
theorem u8' {j : Nat} : xbf L sx g0 j <+: xbf L sx g0 (j + 1) := by
  show xbf L sx g0 j <+: (match (xbf L sx g0 j)[j]? with | some s => cC' (xbf L sx g0 j) (nxG L sx s) | none => xbf L sx g0 j)
  split
  . exact eg'
  . exact List.prefix_refl _
theorem sh' {i j : Nat} (h : i <= j) : xbf L sx g0 i <+: xbf L sx g0 j := by
  induction h with
  | refl => exact List.prefix_refl _
  | step _ ih => exact ih.trans u8'
theorem g9' : ∀ j : Nat, (xbf L sx g0 j).Nodup
  | 0 => by simp [xbf]
  | j + 1 => by
    show (match (xbf L sx g0 j)[j]? with | some s => cC' (xbf L sx g0 j) (nxG L sx s) | none => xbf L sx g0 j).Nodup
    split
    . exact eM' (g9' j)
    . exact g9' j
theorem gt' {g : γ} {z : Tx} {c : Nat} : nx' sx g (z ++ [c]) = sx (nx' sx g z) c := by unfold nx'; rw [List.foldl_append]; rfl
theorem hY' : ∀ j : Nat, ∀ g ∈ xbf L sx g0 j, Rch L sx g0 g
  | 0, g, h => by
    have : g = g0 := by simpa [xbf] using h
    exact ⟨[], nofun, this⟩
  | j + 1, g, h => by
    have h : g ∈ (match (xbf L sx g0 j)[j]? with | some s => cC' (xbf L sx g0 j) (nxG L sx s) | none => xbf L sx g0 j) := h
    split at h
    . rename_i s e
      rcases cB'.mp h with q | q
      . exact hY' j g q
      . obtain ⟨c, hc, rfl⟩ := List.mem_map.mp q
        obtain ⟨z, hz, rfl⟩ := hY' j s (List.mem_of_getElem? e)
        exact ⟨z ++ [c], fun d hd => (List.mem_append.mp hd).elim (hz d) (fun q => List.mem_singleton.mp q ▸ hc), gt'.symm⟩
    . exact hY' j g h
theorem hX' {j : Nat} (h : (xbf L sx g0 j).length <= j) : ∀ {i : Nat}, j <= i -> xbf L sx g0 i = xbf L sx g0 j := by
  intro i hi
  induction hi with
  | refl => rfl
  | @step i hi ih =>
    show (match (xbf L sx g0 i)[i]? with | some s => cC' (xbf L sx g0 i) (nxG L sx s) | none => xbf L sx g0 i) = _
    have : (xbf L sx g0 i)[i]? = none := by rw [ih]; exact List.getElem?_eq_none (Nat.le_trans h hi)
    rw [this, ih]
theorem xx' {j : Nat} {g : γ} (h : (xbf L sx g0 j)[j]? = some g) : xbf L sx g0 (j + 1) = cC' (xbf L sx g0 j) (nxG L sx g) := by
  show (match (xbf L sx g0 j)[j]? with | some s => cC' (xbf L sx g0 j) (nxG L sx s) | none => xbf L sx g0 j) = _
  rw [h]
variable {N : Nat}
theorem Few.len (h : Few L sx g0 N) (j : Nat) : (xbf L sx g0 j).length <= N := h _ (g9' j) (hY' j)
theorem Few.all (h : Few L sx g0 N) {j : Nat} (hj : (xbf L sx g0 j).length <= j) : xbf L sx g0 j = gO' L sx g0 N := by
  by_cases q : j <= N
  . exact (hX' hj q).symm
  . exact hX' (h.len _) (by omega)
theorem Few.pre (h : Few L sx g0 N) (j : Nat) : xbf L sx g0 j <+: gO' L sx g0 N := by
  by_cases q : j <= N
  . exact sh' q
  . have : xbf L sx g0 j = gO' L sx g0 N := hX' (h.len _) (by omega)
    rw [this]
    exact List.prefix_refl _
theorem Few.get (h : Few L sx g0 N) {j : Nat} {g : γ} (e : (gO' L sx g0 N)[j]? = some g) : (xbf L sx g0 j)[j]? = some g := by
  have h1 : j < (xbf L sx g0 j).length := by
    rcases Nat.lt_or_ge j (xbf L sx g0 j).length with q | q
    . exact q
    . have := h.all q
      rw [<- this] at e
      have := (List.getElem?_eq_some_iff.mp e).1
      omega
  obtain ⟨G, eG⟩ := h.pre j
  rw [<- eG, List.getElem?_append_left h1] at e
  exact e
theorem Few.nd : (gO' L sx g0 N).Nodup := g9' N
theorem Few.zero (h : Few L sx g0 N) : (gO' L sx g0 N)[0]? = some g0 := by
  obtain ⟨G, e⟩ := h.pre 0
  rw [<- e]
  rfl
theorem Few.closed (h : Few L sx g0 N) {g : γ} (hg : g ∈ gO' L sx g0 N) {c : Nat} (hc : c ∈ L) : sx g c ∈ gO' L sx g0 N := by
  obtain ⟨j, hj, e⟩ := List.getElem_of_mem hg
  have e1 : (gO' L sx g0 N)[j]? = some g := by rw [List.getElem?_eq_getElem hj, e]
  have := xx' (h.get e1)
  exact (h.pre (j + 1)).subset (by rw [this]; exact cB'.mpr (.inr (List.mem_map.mpr ⟨c, hc, rfl⟩)))
theorem Few.mono {N' : Nat} (h : Few L sx g0 N) (hn : N <= N') : Few L sx g0 N' := fun l a b => Nat.le_trans (h l a b) hn
theorem y0' {F : List γ} {g : γ} (h : g ∈ F) : ixo F g < F.length := List.idxOf_lt_length_iff.mpr h
theorem wv' {F : List γ} {g : γ} (h : g ∈ F) : F[ixo F g]? = some g := by
  unfold ixo
  rw [List.getElem?_eq_getElem (List.idxOf_lt_length_iff.mpr h), List.getElem_idxOf]
theorem Few.tab (h : Few L sx g0 N) : bf' (tV' L sx (gO' L sx g0 N)) (tV' L sx (gO' L sx g0 N)).length L.length := by
  refine ⟨rfl, fun r hr => ?_⟩
  obtain ⟨g, hg, rfl⟩ := List.mem_map.mp hr
  refine ⟨by simp [Ap'], fun t ht => ?_⟩
  obtain ⟨c, hc, rfl⟩ := List.mem_map.mp ht
  rw [show (tV' L sx (gO' L sx g0 N)).length = (gO' L sx g0 N).length by simp [tV']]
  exact y0' (h.closed hg hc)
theorem Few.ne (h : Few L sx g0 N) : 1 <= (gO' L sx g0 N).length := by
  have := (List.getElem?_eq_some_iff.mp h.zero).1
  omega
theorem Few.run (h : Few L sx g0 N) : ∀ (z : Tx) (s : Nat) (g : γ), (∀ c ∈ z, c ∈ L) -> (gO' L sx g0 N)[s]? = some g -> (gO' L sx g0 N)[M.run L (tV' L sx (gO' L sx g0 N)) s z]? = some (nx' sx g z)
  | [], s, g, _, e => e
  | c :: z, s, g, hz, e => by
    have hc := hz c (by simp)
    have hg := List.mem_of_getElem? e
    rw [ig']
    have e1 : stp L (tV' L sx (gO' L sx g0 N)) s c = ixo (gO' L sx g0 N) (sx g c) := by
      unfold stp tV'
      rw [List.getElem?_map, e]
      show ((Ap' L sx (gO' L sx g0 N) g)[L.idxOf c]?).getD 0 = _
      unfold Ap'
      rw [List.getElem?_map, List.getElem?_eq_getElem (List.idxOf_lt_length_iff.mpr hc), List.getElem_idxOf]
      rfl
    rw [e1]
    exact Few.run h z _ (sx g c) (fun d hd => hz d (by simp [hd])) (wv' (h.closed hg hc))
theorem Few.says (h : Few L sx g0 N) (p : γ -> Bool) {z : Tx} (hz : ∀ c ∈ z, c ∈ L) : M.run L (tV' L sx (gO' L sx g0 N)) 0 z ∈ CK' (gO' L sx g0 N) p ↔ p (nx' sx g0 z) = true := by
  have e := h.run z 0 g0 hz h.zero
  have hl := (List.getElem?_eq_some_iff.mp e).1
  unfold CK'
  rw [List.mem_filter, e]
  simp only [List.mem_range, Option.map_some, Option.getD_some]
  exact ⟨fun q => q.2, fun q => ⟨hl, q⟩⟩
theorem eN' (v : γ -> D) (G : List γ) (k : γ) : (G.map fun a => (a, v a)).lookup k = if k ∈ G then some (v k) else none := by
  induction G with
  | nil => rfl
  | cons a l ih =>
    rw [List.map_cons, List.lookup_cons, ih]
    by_cases q : k = a
    . subst q; simp
    . have : (k == a) = false := by simpa using q
      simp [this, q]
def oU' (e : γ -> D) (F : List γ) : O := dX e (F.map fun a => (a, .bl true))
theorem yb' {e : γ -> D} (he : KeyE e) {F : List γ} {k : γ} (h : k ∈ F) : cd' (oU' e F) (e k) = some (some (.fz (.bl true))) := by
  have := gs' he (F.map fun a => (a, D.bl true)) k
  rw [eN' (fun _ => D.bl true), if_pos h] at this
  exact this
theorem vM' {e : γ -> D} (he : KeyE e) {F : List γ} {k : γ} (h : k ∉ F) : cd' (oU' e F) (e k) = some none := by
  have := gs' he (F.map fun a => (a, D.bl true)) k
  rw [eN' (fun _ => D.bl true), if_neg h] at this
  exact this
theorem vL' {e : γ -> D} (he : KeyE e) {F : List γ} {k : γ} (h : k ∉ F) (hl : F.length < 16777216) : dZ' (oU' e F) (e k) (.fz (.bl true)) = some (oU' e (F ++ [k])) := by
  have hk : (F.map fun a => (a, D.bl true)).lookup k = none := by rw [eN' (fun _ => D.bl true), if_neg h]
  have := qN' he hk (by rw [List.length_map]; exact hl) (.bl true)
  unfold oU'
  rw [this, List.map_append]
  rfl
theorem uO' (G : List γ) {N : Nat} (hN : G.length <= N) (h : ∀ g, Rch L sx g0 g -> g ∈ G) : Few L sx g0 N := fun l hn hl =>
  Nat.le_trans (List.Nodup.length_le_of_subset hn fun g hg => h g (hl g hg)) hN
end
theorem kS' {L : Tx} {T : List (List Nat)} (hT : bf' T T.length L.length) (hL : L.Nodup) {q i : Nat} (hq : q < T.length) (hi : i < L.length) : T[q]? = some (aH' T q) /\ (aH' T q)[i]? = some (stp L T q L[i]) /\ stp L T q L[i] < T.length := by
  have h1 := dF' hT hq
  have h2 := cH' hT hq
  have h3 : i < (aH' T q).length := by omega
  have e : stp L T q L[i] = (aH' T q)[i] := by rw [kK' hL hi, List.getElem?_eq_getElem h3]; rfl
  refine ⟨h1, by rw [e, List.getElem?_eq_getElem h3], ?_⟩
  rw [e]
  exact hu' hT (List.getElem_mem h3)
end M
namespace M
theorem tC' (A : List Nat) (s : Nat) {Q : D -> Prop} : wD (gh' (.int (s : Nat)) (dB' A)) Q = Q (.bl (!decide (s ∈ A))) := by
  show wD (match pIn (.int (s : Nat)) (dB' A) with | some (.bl b) => some (.bl (!b)) | _ => none) Q = _
  rw [lR'.acc A s, aR']
theorem eo' (c : Nat) : ∀ l : List Tx, (cP' [c] l).length <= (l.map List.length).sum + l.length
  | [] => by simp [cP']
  | [a] => by simp [cP']
  | a :: b :: r => by
    have ih := eo' c (b :: r)
    show (a ++ ([c] ++ cP' [c] (b :: r))).length <= _
    rw [List.length_append, List.length_append, List.length_singleton, List.map_cons, List.sum_cons, List.length_cons]
    omega
end M
namespace M
def wlt (x y : Tx) : Prop := x.length < y.length \/ (x.length = y.length /\ x < y)
def wle (x y : Tx) : Prop := x = y \/ wlt x y
theorem yR' {x y : Tx} (h : x < y) (hl : x.length = y.length) (a b : Tx) : x ++ a < y ++ b := by
  induction x generalizing y with
  | nil =>
    cases y with
    | nil => exact absurd h (by simp)
    | cons c y => simp at hl
  | cons c x ih =>
    cases y with
    | nil => simp at hl
    | cons d y =>
      rw [List.cons_append, List.cons_append]
      rcases List.cons_lt_cons_iff.mp h with q | ⟨rfl, q⟩
      . exact List.cons_lt_cons_iff.mpr (.inl q)
      . exact List.cons_lt_cons_iff.mpr (.inr ⟨rfl, ih q (by simpa using hl)⟩)
theorem wo' (x : Tx) {c d : Nat} (h : c < d) : x ++ [c] < x ++ [d] := by
  induction x with
  | nil => exact List.cons_lt_cons_iff.mpr (.inl h)
  | cons a x ih => exact List.cons_lt_cons_iff.mpr (.inr ⟨rfl, ih⟩)
theorem hd' (x : Tx) : ¬ wlt x x := fun h => h.elim (fun h => Nat.lt_irrefl _ h) (fun h => List.lt_irrefl x h.2)
theorem iQ' {x y z : Tx} (h1 : wlt x y) (h2 : wlt y z) : wlt x z := by
  rcases h1 with h1 | ⟨e1, h1⟩ <;> rcases h2 with h2 | ⟨e2, h2⟩
  . exact .inl (by omega)
  . exact .inl (by omega)
  . exact .inl (by omega)
  . exact .inr ⟨by omega, List.lt_trans h1 h2⟩
theorem sk' (x : Tx) : wle x x := .inl rfl
theorem iS' {x y z : Tx} (h1 : wle x y) (h2 : wle y z) : wle x z := by
  rcases h1 with rfl | h1
  . exact h2
  . rcases h2 with rfl | h2
    . exact .inr h1
    . exact .inr (iQ' h1 h2)
theorem iR' {x y : Tx} (h : wlt x y) (c d : Nat) : wlt (x ++ [c]) (y ++ [d]) := by
  rcases h with h | ⟨e, h⟩
  . exact .inl (by simpa using h)
  . exact .inr ⟨by simpa using e, yR' h e _ _⟩
theorem sj' {x y : Tx} (h : wle x y) (c : Nat) : wle (x ++ [c]) (y ++ [c]) := by
  rcases h with rfl | h
  . exact .inl rfl
  . exact .inr (iR' h c c)
theorem vi' (x : Tx) {c d : Nat} (h : c < d) : wlt (x ++ [c]) (x ++ [d]) := .inr ⟨by simp, wo' x h⟩
theorem vh' (x : Tx) (c : Nat) : wlt [] (x ++ [c]) := .inl (by simp)
section
variable {γ : Type} [DecidableEq γ] (sx : γ -> Nat -> γ)
def cx' (p : γ × Tx) (F : List (γ × Tx)) (c : Nat) : List (γ × Tx) := if sx p.1 c ∈ F.map (·.1) then F else F ++ [(sx p.1 c, p.2 ++ [c])]
variable (L : Tx) (g0 : γ)
def xw : Nat -> List (γ × Tx)
  | 0 => [(g0, [])]
  | j + 1 => match (xw j)[j]? with
    | some p => L.foldl (cx' sx p) (xw j)
    | none => xw j
variable {sx L g0}
theorem tp' (p : γ × Tx) (F : List (γ × Tx)) (c : Nat) : (cx' sx p F c).map (·.1) = ins (F.map (·.1)) (sx p.1 c) := by
  unfold cx' ins
  split
  . rfl
  . simp
theorem gy' (p : γ × Tx) : ∀ (cs : Tx) (F : List (γ × Tx)), (cs.foldl (cx' sx p) F).map (·.1) = cC' (F.map (·.1)) (cs.map (sx p.1))
  | [], _ => rfl
  | c :: cs, F => by
    rw [List.foldl_cons, gy' p cs, tp', List.map_cons, bW']
theorem lV' : ∀ j : Nat, (xw sx L g0 j).map (·.1) = xbf L sx g0 j
  | 0 => rfl
  | j + 1 => by
    have ih := lV' j
    show List.map (fun x : γ × Tx => x.1) (match (xw sx L g0 j)[j]? with | some p => L.foldl (cx' sx p) (xw sx L g0 j) | none => xw sx L g0 j) = (match (xbf L sx g0 j)[j]? with | some s => cC' (xbf L sx g0 j) (nxG L sx s) | none => xbf L sx g0 j)
    rw [<- ih, List.getElem?_map]
    cases (xw sx L g0 j)[j]? with
    | none => rfl
    | some p => exact gy' p L _
theorem ck' (j : Nat) : (xw sx L g0 j).length = (xbf L sx g0 j).length := by rw [<- lV', List.length_map]
theorem nE' (p : γ × Tx) (F : List (γ × Tx)) (c : Nat) : F <+: cx' sx p F c := by
  unfold cx'
  split
  . exact List.prefix_refl _
  . exact ⟨_, rfl⟩
theorem cQ' (p : γ × Tx) : ∀ (cs : Tx) (F : List (γ × Tx)), F <+: cs.foldl (cx' sx p) F
  | [], _ => List.prefix_refl _
  | c :: cs, F => (nE' p F c).trans (cQ' p cs _)
theorem lU' {j : Nat} : xw sx L g0 j <+: xw sx L g0 (j + 1) := by
  show xw sx L g0 j <+: (match (xw sx L g0 j)[j]? with | some p => L.foldl (cx' sx p) (xw sx L g0 j) | none => xw sx L g0 j)
  split
  . exact cQ' ..
  . exact List.prefix_refl _
theorem oZ' {i j : Nat} (h : i <= j) : xw sx L g0 i <+: xw sx L g0 j := by
  induction h with
  | refl => exact List.prefix_refl _
  | step _ ih => exact ih.trans lU'
theorem u5' {j : Nat} {p : γ × Tx} (h : (xw sx L g0 j)[j]? = some p) : xw sx L g0 (j + 1) = L.foldl (cx' sx p) (xw sx L g0 j) := by
  show (match (xw sx L g0 j)[j]? with | some p => L.foldl (cx' sx p) (xw sx L g0 j) | none => xw sx L g0 j) = _
  rw [h]
theorem nM' (p : γ × Tx) : ∀ (cs : Tx) (F : List (γ × Tx)), cs.Pairwise (· < ·) -> F.Pairwise (fun a b => wlt a.2 b.2) -> (∀ q ∈ F, ∀ c ∈ cs, wlt q.2 (p.2 ++ [c])) →
    (cs.foldl (cx' sx p) F).Pairwise (fun a b => wlt a.2 b.2) /\ (∀ q ∈ cs.foldl (cx' sx p) F, q ∈ F \/ ∃ c ∈ cs, q = (sx p.1 c, p.2 ++ [c])) /\ ∀ c ∈ cs, ∃ q ∈ cs.foldl (cx' sx p) F, q.1 = sx p.1 c /\ wle q.2 (p.2 ++ [c])
  | [], F, _, h2, _ => ⟨h2, fun q hq => .inl hq, nofun⟩
  | c :: cs, F, h1, h2, h3 => by
    have hc := List.pairwise_cons.mp h1
    have hF : (cx' sx p F c).Pairwise (fun a b => wlt a.2 b.2) := by
      unfold cx'
      split
      . exact h2
      . refine List.pairwise_append.mpr ⟨h2, List.pairwise_singleton .., fun q hq r hr => ?_⟩
        rw [List.mem_singleton.mp hr]
        exact h3 q hq c (by simp)
    have hmem : ∀ q ∈ cx' sx p F c, q ∈ F \/ q = (sx p.1 c, p.2 ++ [c]) := fun q hq => by
      unfold cx' at hq
      split at hq
      . exact .inl hq
      . rcases List.mem_append.mp hq with h | h
        . exact .inl h
        . exact .inr (List.mem_singleton.mp h)
    obtain ⟨r1, r2, r3⟩ := nM' p cs (cx' sx p F c) hc.2 hF fun q hq d hd => by
      rcases hmem q hq with h | h
      . exact h3 q h d (by simp [hd])
      . rw [h]; exact vi' _ (hc.1 d hd)
    refine ⟨r1, fun q hq => ?_, fun d hd => ?_⟩
    . rcases r2 q hq with h | ⟨d, hd, h⟩
      . rcases hmem q h with h | h
        . exact .inl h
        . exact .inr ⟨c, by simp, h⟩
      . exact .inr ⟨d, by simp [hd], h⟩
    . rcases List.mem_cons.mp hd with rfl | hd
      . have sub := (cQ' (sx := sx) p cs (cx' sx p F d)).subset
        by_cases q : sx p.1 d ∈ F.map (·.1)
        . obtain ⟨r, hr, e⟩ := List.mem_map.mp q
          exact ⟨r, sub ((nE' p F d).subset hr), e, .inr (h3 r hr d (by simp))⟩
        . refine ⟨(sx p.1 d, p.2 ++ [d]), sub ?_, rfl, .inl rfl⟩
          unfold cx'
          rw [if_neg q]
          simp
      . exact r3 d hd
structure XwOk (sx : γ -> Nat -> γ) (L : Tx) (g0 : γ) (j : Nat) : Prop where
  asc : (xw sx L g0 j).Pairwise (fun a b => wlt a.2 b.2)
  led : ∀ q ∈ xw sx L g0 j, (∀ c ∈ q.2, c ∈ L) /\ q.1 = nx' sx g0 q.2
  old : ∀ (i : Nat) (q : γ × Tx), (xw sx L g0 j)[i]? = some q -> q.2 = [] \/ ∃ (k : Nat) (r : γ × Tx) (c : Nat), k < j /\ (xw sx L g0 j)[k]? = some r /\ q.2 = r.2 ++ [c]
  small : ∀ (k : Nat) (r : γ × Tx), k < j -> (xw sx L g0 j)[k]? = some r -> ∀ c ∈ L, ∃ q ∈ xw sx L g0 j, q.1 = sx r.1 c /\ wle q.2 (r.2 ++ [c])
theorem gd' {α : Type} {l m : List α} (h : l <+: m) {i : Nat} {a : α} (e : l[i]? = some a) : m[i]? = some a := by
  obtain ⟨k, rfl⟩ := h
  rw [List.getElem?_append_left (List.getElem?_eq_some_iff.mp e).1]
  exact e
theorem iP' (hL : L.Pairwise (· < ·)) : ∀ j : Nat, XwOk sx L g0 j
  | 0 => by
    refine ⟨by simp [xw], fun q hq => ?_, fun i q e => ?_, fun k r h => absurd h (by omega)⟩
    . have : q = (g0, []) := by simpa [xw] using hq
      rw [this]
      exact ⟨nofun, rfl⟩
    . have : q = (g0, []) := by
        have := List.mem_of_getElem? e
        simpa [xw] using this
      exact .inl (by rw [this])
  | j + 1 => by
    have ih := iP' hL j
    cases hp : (xw sx L g0 j)[j]? with
    | none =>
      have e : xw sx L g0 (j + 1) = xw sx L g0 j := by
        show (match (xw sx L g0 j)[j]? with | some p => L.foldl (cx' sx p) (xw sx L g0 j) | none => xw sx L g0 j) = _
        rw [hp]
      refine ⟨by rw [e]; exact ih.asc, by rw [e]; exact ih.led, fun i q hq => ?_, fun k r hk hr => ?_⟩
      . rw [e] at hq ⊢
        rcases ih.old i q hq with h | ⟨k, r, c, h1, h2, h3⟩
        . exact .inl h
        . exact .inr ⟨k, r, c, by omega, h2, h3⟩
      . rw [e] at hr ⊢
        have : k < j := by
          rcases Nat.lt_or_ge k j with h | h
          . exact h
          . have : k = j := by omega
            rw [this, hp] at hr; cases hr
        exact ih.small k r this hr
    | some p =>
      have e := u5' hp
      have hpre : xw sx L g0 j <+: xw sx L g0 (j + 1) := lU'
      have hj := (List.getElem?_eq_some_iff.mp hp).1
      -- all that is there is ahead of what comes
      have hah : ∀ q ∈ xw sx L g0 j, ∀ c ∈ L, wlt q.2 (p.2 ++ [c]) := fun q hq c _ => by
        obtain ⟨i, hi, ei⟩ := List.getElem_of_mem hq
        rcases ih.old i q (by rw [List.getElem?_eq_getElem hi, ei]) with h | ⟨k, r, d, h1, h2, h3⟩
        . rw [h]; exact vh' _ _
        . rw [h3]
          refine iR' ?_ _ _
          have hk := (List.getElem?_eq_some_iff.mp h2)
          have hjp := (List.getElem?_eq_some_iff.mp hp)
          have := List.pairwise_iff_getElem.mp ih.asc k j hk.1 hj h1
          rw [hk.2, hjp.2] at this
          exact this
      obtain ⟨r1, r2, r3⟩ := nM' (sx := sx) p L (xw sx L g0 j) hL ih.asc hah
      rw [<- e] at r1 r2 r3
      have hpm := List.mem_of_getElem? hp
      refine ⟨r1, fun q hq => ?_, fun i q hq => ?_, fun k r hk hr c hc => ?_⟩
      . rcases r2 q hq with h | ⟨c, hc, rfl⟩
        . exact ih.led q h
        . obtain ⟨h1, h2⟩ := ih.led p hpm
          refine ⟨fun d hd => (List.mem_append.mp hd).elim (h1 d) (fun h => List.mem_singleton.mp h ▸ hc), ?_⟩
          show sx p.1 c = _
          rw [gt', <- h2]
      . rcases r2 q (List.mem_of_getElem? hq) with h | ⟨c, hc, rfl⟩
        . obtain ⟨i', hi, ei⟩ := List.getElem_of_mem h
          rcases ih.old i' q (by rw [List.getElem?_eq_getElem hi, ei]) with h | ⟨k, r, d, h1, h2, h3⟩
          . exact .inl h
          . exact .inr ⟨k, r, d, by omega, gd' hpre h2, h3⟩
        . exact .inr ⟨j, p, c, by omega, gd' hpre hp, rfl⟩
      . rcases Nat.lt_or_ge k j with h | h
        . have hr' : (xw sx L g0 j)[k]? = some r := by
            have hkl : k < (xw sx L g0 j).length := by omega
            have := gd' hpre (List.getElem?_eq_getElem hkl)
            rw [this] at hr
            rw [List.getElem?_eq_getElem hkl]; exact hr
          obtain ⟨q, h1, h2, h3⟩ := ih.small k r h hr' c hc
          exact ⟨q, hpre.subset h1, h2, h3⟩
        . have hkj : k = j := by omega
          subst hkj
          have := gd' hpre hp
          rw [this] at hr
          cases hr
          exact r3 c hc
theorem tU' (hL : L.Pairwise (· < ·)) {j : Nat} (hj : (xw sx L g0 j).length <= j) : ∀ (n : Nat) (z : Tx), z.length = n -> (∀ c ∈ z, c ∈ L) -> ∃ q ∈ xw sx L g0 j, q.1 = nx' sx g0 z /\ wle q.2 z := by
  have h := iP' (sx := sx) (g0 := g0) hL j
  intro n
  induction n with
  | zero =>
    intro z hz _
    have : z = [] := List.length_eq_zero_iff.mp hz
    subst this
    refine ⟨(g0, []), ?_, rfl, .inl rfl⟩
    exact (oZ' (Nat.zero_le j)).subset (by simp [xw])
  | succ n ih =>
    intro z hz hzl
    have hne : z ≠ [] := fun e => by rw [e] at hz; cases hz
    obtain ⟨y, c, rfl⟩ : ∃ y c, z = y ++ [c] := ⟨z.dropLast, z.getLast hne, (List.dropLast_concat_getLast hne).symm⟩
    obtain ⟨q, hq, e1, e2⟩ := ih y (by simpa using hz) fun d hd => hzl d (by simp [hd])
    obtain ⟨k, hk, ek⟩ := List.getElem_of_mem hq
    obtain ⟨r, hr, f1, f2⟩ := h.small k q (by omega) (by rw [List.getElem?_eq_getElem hk, ek]) c (hzl c (by simp))
    refine ⟨r, hr, ?_, iS' f2 (sj' e2 c)⟩
    rw [f1, e1, gt']
def C3' (L : Tx) (P : Tx -> Prop) (x : Tx) : Prop := (∀ c ∈ x, c ∈ L) /\ P x /\ ∀ z, (∀ c ∈ z, c ∈ L) -> P z -> wle x z
theorem eC' {i j : Nat} (h : i <= j) {q : γ × Tx} (e : (xw sx L g0 i)[i]? = some q) : (xw sx L g0 j)[i]? = some q := gd' (oZ' h) e
theorem sg' {N : Nat} (hF : Few L sx g0 N) (hL : L.Pairwise (· < ·)) (p : γ -> Bool) {j : Nat} {q : γ × Tx} (hq : (xw sx L g0 j)[j]? = some q) (hp : p q.1 = true) (hb : ∀ i, i < j -> ∀ r, (xw sx L g0 i)[i]? = some r -> p r.1 = false) : C3' L (fun z => p (nx' sx g0 z) = true) q.2 := by
  have hlen : (xw sx L g0 N).length <= N := by rw [ck']; exact hF.len N
  have hjN : j <= N := by
    have h1 := (List.getElem?_eq_some_iff.mp hq).1
    rw [ck'] at h1
    have := hF.len j
    omega
  have hqN := eC' hjN hq
  have ok := iP' (sx := sx) (g0 := g0) hL N
  obtain ⟨l1, l2⟩ := ok.led q (List.mem_of_getElem? hqN)
  refine ⟨l1, by show p (nx' sx g0 q.2) = true; rw [<- l2]; exact hp, fun z hz hpz => ?_⟩
  obtain ⟨r, hr, e1, e2⟩ := tU' hL hlen z.length z rfl hz
  obtain ⟨i, hi, ei⟩ := List.getElem_of_mem hr
  have hiN : i < N := by omega
  have eri : (xw sx L g0 N)[i]? = some r := by rw [List.getElem?_eq_getElem hi, ei]
  refine iS' ?_ e2
  rcases Nat.lt_trichotomy i j with h | h | h
  . exfalso
    have h1 : i < (xw sx L g0 i).length := by
      rcases Nat.lt_or_ge i (xw sx L g0 i).length with w | w
      . exact w
      . rw [ck'] at w
        have := hF.all w
        have h3 : (xw sx L g0 N).length = (xw sx L g0 i).length := by
          rw [ck', ck', this]; rfl
        rw [ck' i] at h3
        omega
    have e3 := eC' (Nat.le_of_lt hiN) (List.getElem?_eq_getElem h1)
    rw [eri] at e3
    have := hb i h _ (List.getElem?_eq_getElem h1)
    rw [<- Option.some.inj e3, e1, hpz] at this
    cases this
  . rw [h, hqN] at eri
    cases eri
    exact sk' _
  . have hk := List.getElem?_eq_some_iff.mp hqN
    have := List.pairwise_iff_getElem.mp ok.asc j i hk.1 hi h
    rw [hk.2, ei] at this
    exact .inr this
theorem u4' {N : Nat} (hF : Few L sx g0 N) (hL : L.Pairwise (· < ·)) (p : γ -> Bool) {j : Nat} (hj : (xw sx L g0 j).length <= j) (hb : ∀ i, i < j -> ∀ r, (xw sx L g0 i)[i]? = some r -> p r.1 = false) : ∀ z, (∀ c ∈ z, c ∈ L) -> p (nx' sx g0 z) = false := by
  intro z hz
  obtain ⟨r, hr, e1, _⟩ := tU' hL hj z.length z rfl hz
  obtain ⟨i, hi, ei⟩ := List.getElem_of_mem hr
  have hij : i < j := by omega
  have h1 : i < (xw sx L g0 i).length := by
    rcases Nat.lt_or_ge i (xw sx L g0 i).length with w | w
    . exact w
    . rw [ck'] at w hj
      have a1 := hF.all w
      have a2 := hF.all hj
      have h3 : (xw sx L g0 j).length = (xw sx L g0 i).length := by
        rw [ck', ck', a1, a2]
      rw [ck' i] at h3
      omega
  have e3 := eC' (Nat.le_of_lt hij) (List.getElem?_eq_getElem h1)
  rw [List.getElem?_eq_getElem hi, ei] at e3
  have := hb i hij _ (List.getElem?_eq_getElem h1)
  rw [<- Option.some.inj e3, e1] at this
  exact this
theorem eB' (hL : L.Pairwise (· < ·)) {j : Nat} : ∀ (i : Nat) (q : γ × Tx), (xw sx L g0 j)[i]? = some q -> q.2.length <= i := by
  have h := iP' (sx := sx) (g0 := g0) hL j
  intro i
  induction i using Nat.strongRecOn with
  | ind i ih =>
    intro q hq
    rcases h.old i q hq with e | ⟨k, r, c, _, hr, e⟩
    . rw [e]; exact Nat.zero_le _
    . have hki : k < i := by
        rcases Nat.lt_or_ge k i with w | w
        . exact w
        . exfalso
          have hlt : wlt r.2 q.2 := by rw [e]; exact .inl (by simp)
          have k1 := List.getElem?_eq_some_iff.mp hr
          have k2 := List.getElem?_eq_some_iff.mp hq
          rcases Nat.lt_or_eq_of_le w with w | w
          . have := List.pairwise_iff_getElem.mp h.asc i k k2.1 k1.1 w
            rw [k1.2, k2.2] at this
            exact hd' _ (iQ' hlt this)
          . subst w
            rw [hq] at hr
            cases hr
            exact hd' _ hlt
      have := ih k hki r hr
      rw [e, List.length_append, List.length_singleton]
      omega
end
end M
namespace M
section
variable {X : Exc -> PSt -> Prop} {ρ : PSt}
theorem sp' {own : List Nat} {g : MG} {t : MT} {e : ME} {γ : Type} {f : γ -> D} {cs : List γ} {a0 : List D} {Q : List D -> PSt -> Prop} (hl : a0.length + cs.length <= 16777216) (Inv : List γ -> List D -> PSt -> Prop) (h0 : Inv [] a0 ρ)
    (step : ∀ pre c post acc ρ, cs = pre ++ c :: post -> Inv pre acc ρ -> vD (g (f c) ⟨al' own ρ.env, ρ.w⟩) fun ρ1 => vE (t ρ1) (fun k ρ2 => vI k (vE (e ρ2) (fun y ρ3 => Inv (pre ++ [c]) (acc ++ [y]) ρ3) PX) (Inv (pre ++ [c]) acc ρ2)) PX)
    (hend : ∀ acc ρ, Inv cs acc ρ -> Q acc ρ) : vE (lcL own g t e (cs.map f) a0 ρ) Q X := by
  have main : ∀ (post pre : List γ) (acc : List D) (ρ : PSt), cs = pre ++ post -> acc.length <= a0.length + pre.length -> Inv pre acc ρ -> vE (lcL own g t e (post.map f) acc ρ) Q X := by
    intro post
    induction post with
    | nil =>
      intro pre acc ρ e' hacc h
      rw [List.append_nil] at e'
      exact hend acc ρ (e' ▸ h)
    | cons d post ih =>
      intro pre acc ρ e' hacc h
      have s := step pre d post acc ρ e' h
      have hpre : a0.length + pre.length < 16777216 := by
        have := congrArg List.length e'
        rw [List.length_append, List.length_cons] at this
        omega
      rw [List.map_cons]
      unfold lcL
      cases eg : g (f d) ⟨al' own ρ.env, ρ.w⟩ with
      | none => rw [eg] at s; exact s
      | some ρ1 =>
        rw [eg] at s
        have s : vE (t ρ1) _ _ := s
        dsimp only
        cases et : t ρ1 with
        | bad => rw [et] at s; exact s
        | exc x ρ2 => rw [et] at s; exact s.elim
        | ok k ρ2 =>
          rw [et] at s
          have s : vI k _ _ := s
          show vE (if k = true then _ else _) Q X
          have e2 : cs = (pre ++ [d]) ++ post := by rw [e', List.append_assoc]; rfl
          cases k with
          | false =>
            rw [if_neg Bool.false_ne_true]
            exact ih (pre ++ [d]) acc ρ2 e2 (by rw [List.length_append]; omega) s
          | true =>
            rw [if_pos rfl]
            have s : vE (e ρ2) _ _ := s
            cases ee : e ρ2 with
            | bad => rw [ee] at s; exact s
            | exc x ρ3 => rw [ee] at s; exact s.elim
            | ok y ρ3 =>
              rw [ee] at s
              show vE (if acc.length < cR' then _ else _) Q X
              rw [if_pos (show acc.length < cR' from Nat.lt_of_le_of_lt hacc hpre)]
              exact ih (pre ++ [d]) (acc ++ [y]) ρ3 e2 (by simp only [List.length_append, List.length_cons, List.length_nil]; omega) s
  exact main cs [] a0 ρ rfl (Nat.le_refl _) h0
theorem pw' {own own1 : List Nat} {g g1 : MG} {t t1 : MT} {it1 : MI} {e : ME} {γ : Type} {f : γ -> D} {cs : List γ} {a0 : List D} {Q : List D -> PSt -> Prop} (Inv : List γ -> List D -> PSt -> Prop) (h0 : Inv [] a0 ρ)
    (step : ∀ pre c post acc ρ, cs = pre ++ c :: post -> Inv pre acc ρ -> vD (g (f c) ⟨al' own ρ.env, ρ.w⟩) fun ρ1 => vE (t ρ1) (fun k ρ2 => vI k (vE (it1 ρ2) (fun ys ρ3 => vE (lcL own1 g1 t1 e ys acc ρ3) (fun a2 ρ4 => Inv (pre ++ [c]) a2 ρ4) PX) PX) (Inv (pre ++ [c]) acc ρ2)) PX)
    (hend : ∀ acc ρ, Inv cs acc ρ -> Q acc ρ) : vE (iv' own g t it1 own1 g1 t1 e (cs.map f) a0 ρ) Q X := by
  have main : ∀ (post pre : List γ) (acc : List D) (ρ : PSt), cs = pre ++ post -> Inv pre acc ρ -> vE (iv' own g t it1 own1 g1 t1 e (post.map f) acc ρ) Q X := by
    intro post
    induction post with
    | nil =>
      intro pre acc ρ e' h
      rw [List.append_nil] at e'
      exact hend acc ρ (e' ▸ h)
    | cons d post ih =>
      intro pre acc ρ e' h
      have s := step pre d post acc ρ e' h
      rw [List.map_cons]
      unfold iv'
      cases eg : g (f d) ⟨al' own ρ.env, ρ.w⟩ with
      | none => rw [eg] at s; exact s
      | some ρ1 =>
        rw [eg] at s
        have s : vE (t ρ1) _ _ := s
        dsimp only
        cases et : t ρ1 with
        | bad => rw [et] at s; exact s
        | exc x ρ2 => rw [et] at s; exact s.elim
        | ok k ρ2 =>
          rw [et] at s
          have s : vI k _ _ := s
          show vE (if k = true then _ else _) Q X
          have e2 : cs = (pre ++ [d]) ++ post := by rw [e', List.append_assoc]; rfl
          cases k with
          | false =>
            rw [if_neg Bool.false_ne_true]
            exact ih (pre ++ [d]) acc ρ2 e2 s
          | true =>
            rw [if_pos rfl]
            have s : vE (it1 ρ2) _ _ := s
            cases ee : it1 ρ2 with
            | bad => rw [ee] at s; exact s
            | exc x ρ3 => rw [ee] at s; exact s.elim
            | ok ys ρ3 =>
              rw [ee] at s
              have s : vE (lcL own1 g1 t1 e ys acc ρ3) _ _ := s
              show vE ((noX (lcL own1 g1 t1 e ys acc ρ3)).bind fun acc2 ρ4 => iv' own g t it1 own1 g1 t1 e (post.map f) acc2 ρ4) Q X
              cases el : lcL own1 g1 t1 e ys acc ρ3 with
              | bad => rw [el] at s; exact s
              | exc x ρ3 => rw [el] at s; exact s.elim
              | ok a2 ρ4 =>
                rw [el] at s
                exact ih (pre ++ [d]) a2 ρ4 e2 s
  exact main cs [] a0 ρ rfl h0
theorem yX' {own : List Nat} {g : MG} {t : MT} {e : ME} {γ : Type} {f : γ -> D} {cs : List γ} {a0 : List D} {Q : List D -> PSt -> Prop} (hl : a0.length + cs.length <= 16777216) (Inv : List γ -> List D -> PSt -> Prop) (h0 : Inv [] a0 ρ)
    (step : ∀ pre c post acc ρ, cs = pre ++ c :: post -> Inv pre acc ρ -> wD (g (f c) ⟨al' own ρ.env, ρ.w⟩) fun ρ1 => wE (t ρ1) (fun k ρ2 => wI k (wE (e ρ2) (fun y ρ3 => Inv (pre ++ [c]) (acc ++ [y]) ρ3) PX) (Inv (pre ++ [c]) acc ρ2)) PX)
    (hend : ∀ acc ρ, Inv cs acc ρ -> Q acc ρ) : wE (lcL own g t e (cs.map f) a0 ρ) Q X := by simp only [dg', au', fP'] at *; apply sp' <;> assumption
theorem ws' {own own1 : List Nat} {g g1 : MG} {t t1 : MT} {it1 : MI} {e : ME} {γ : Type} {f : γ -> D} {cs : List γ} {a0 : List D} {Q : List D -> PSt -> Prop} (Inv : List γ -> List D -> PSt -> Prop) (h0 : Inv [] a0 ρ)
    (step : ∀ pre c post acc ρ, cs = pre ++ c :: post -> Inv pre acc ρ -> wD (g (f c) ⟨al' own ρ.env, ρ.w⟩) fun ρ1 => wE (t ρ1) (fun k ρ2 => wI k (wE (it1 ρ2) (fun ys ρ3 => wE (lcL own1 g1 t1 e ys acc ρ3) (fun a2 ρ4 => Inv (pre ++ [c]) a2 ρ4) PX) PX) (Inv (pre ++ [c]) acc ρ2)) PX)
    (hend : ∀ acc ρ, Inv cs acc ρ -> Q acc ρ) : wE (iv' own g t it1 own1 g1 t1 e (cs.map f) a0 ρ) Q X := by simp only [dg', au', fP'] at *; apply pw' <;> assumption
end
end M
namespace M
section
variable {α : Type} (mul : α -> α -> α) (one : α) (S : α -> Prop)
structure Mon (l : List α) : Prop where
  cl : ∀ {a b}, S a -> S b -> S (mul a b)
  as : ∀ {a b c}, S a -> S b -> S c -> mul (mul a b) c = mul a (mul b c)
  o : S one
  l1 : ∀ {a}, S a -> mul one a = a
  r1 : ∀ {a}, S a -> mul a one = a
  fin : ∀ a, S a -> a ∈ l
def pw (a : α) : Nat -> α
  | 0 => a
  | n + 1 => mul (pw a n) a
def Idm (e : α) : Prop := mul e e = e
def Om (a e : α) : Prop := ∃ n, e = pw mul a n /\ Idm mul e
def Ker (d : α) : Prop := S d /\ ∀ y, S y -> ∃ u v, S u /\ S v /\ d = mul u (mul y v)
end
section
variable {α : Type} {mul : α -> α -> α} {one : α} {S : α -> Prop} {l : List α}
theorem Mon.pw (h : Mon mul one S l) {a : α} (ha : S a) : ∀ n, S (M.pw mul a n)
  | 0 => ha
  | n + 1 => h.cl (h.pw ha n) ha
theorem Mon.pw_add (h : Mon mul one S l) {a : α} (ha : S a) (m : Nat) : ∀ n, mul (M.pw mul a m) (M.pw mul a n) = M.pw mul a (m + n + 1)
  | 0 => rfl
  | n + 1 => by
    show mul (M.pw mul a m) (mul (M.pw mul a n) a) = mul (M.pw mul a (m + n + 1)) a
    rw [<- h.as (h.pw ha m) (h.pw ha n) ha, h.pw_add ha m n]
theorem Mon.pw_comm (h : Mon mul one S l) {a : α} (ha : S a) (m n : Nat) : mul (M.pw mul a m) (M.pw mul a n) = mul (M.pw mul a n) (M.pw mul a m) := by
  rw [h.pw_add ha, h.pw_add ha, Nat.add_comm m n]
theorem Mon.om_ex (h : Mon mul one S l) {a : α} (ha : S a) : ∃ n, n <= l.length * (l.length + 1) /\ Idm mul (M.pw mul a n) := by
  have hnd : ¬ ((List.range (l.length + 1)).map (M.pw mul a)).Nodup := fun hn => by
    have := List.Nodup.length_le_of_subset hn (l₂ := l) fun x hx => by
      obtain ⟨n, _, rfl⟩ := List.mem_map.1 hx
      exact h.fin _ (h.pw ha n)
    simp at this
    omega
  obtain ⟨i, j, hij, hj, e⟩ : ∃ i j, i < j /\ j <= l.length /\ M.pw mul a i = M.pw mul a j := by
    refine Classical.byContradiction fun hc => hnd ?_
    rw [List.nodup_iff_pairwise_ne, List.pairwise_map]
    refine List.Pairwise.imp_of_mem ?_ List.pairwise_lt_range
    intro a b ha hb hab e
    exact hc ⟨a, b, hab, by have := List.mem_range.1 hb; omega, e⟩
  have per : ∀ k, M.pw mul a (i + k + (j - i)) = M.pw mul a (i + k) := by
    intro k
    cases k with
    | zero => rw [Nat.add_zero, show i + (j - i) = j by omega, e]
    | succ k =>
      have e1 := h.pw_add ha i k
      have e2 := h.pw_add ha j k
      rw [show i + (k + 1) + (j - i) = j + k + 1 by omega, <- e2, <- e, e1]
      rfl
  have pers : ∀ k m, M.pw mul a (i + k + m * (j - i)) = M.pw mul a (i + k) := by
    intro k m
    induction m with
    | zero => rw [Nat.zero_mul, Nat.add_zero]
    | succ m ih =>
      rw [Nat.add_mul, Nat.one_mul, <- Nat.add_assoc, show i + k + m * (j - i) + (j - i) = i + (k + m * (j - i)) + (j - i) by omega, per, <- Nat.add_assoc, ih]
  have hp : 1 <= j - i := by omega
  have hge : i + 1 <= (i + 1) * (j - i) := Nat.le_mul_of_pos_right _ hp
  have hle : (i + 1) * (j - i) <= (l.length + 1) * l.length := Nat.mul_le_mul (by omega) (by omega)
  refine ⟨(i + 1) * (j - i) - 1, by rw [Nat.mul_comm l.length]; omega, ?_⟩
  show mul _ _ = _
  rw [h.pw_add ha]
  have := pers ((i + 1) * (j - i) - 1 - i) (i + 1)
  rw [show i + ((i + 1) * (j - i) - 1 - i) = (i + 1) * (j - i) - 1 by omega] at this
  rw [<- this]
  congr 1
  omega
theorem Om.s (h : Mon mul one S l) {a e : α} (ha : S a) (o : Om mul a e) : S e := by
  obtain ⟨n, rfl, _⟩ := o
  exact h.pw ha n
theorem Mon.pw_split (h : Mon mul one S l) {a : α} (ha : S a) (n : Nat) : ∃ w, S w /\ M.pw mul a n = mul a w /\ M.pw mul a n = mul w a := by
  cases n with
  | zero => exact ⟨one, h.o, (h.r1 ha).symm, (h.l1 ha).symm⟩
  | succ n =>
    refine ⟨M.pw mul a n, h.pw ha n, ?_, rfl⟩
    have := h.pw_add ha 0 n
    rw [show 0 + n + 1 = n + 1 by omega] at this
    exact this.symm
theorem Ker.mul_l (h : Mon mul one S l) {d a : α} (hd : Ker mul S d) (ha : S a) : Ker mul S (mul a d) := by
  refine ⟨h.cl ha hd.1, fun y hy => ?_⟩
  obtain ⟨u, v, hu, hv, e⟩ := hd.2 y hy
  refine ⟨mul a u, v, h.cl ha hu, hv, ?_⟩
  rw [h.as ha hu (h.cl hy hv), <- e]
theorem Ker.pw (h : Mon mul one S l) {d : α} (hd : Ker mul S d) : ∀ n, Ker mul S (M.pw mul d n)
  | 0 => hd
  | n + 1 => Ker.mul_l h hd (h.pw hd.1 n)
theorem Ker.below (h : Mon mul one S l) {e f : α} (he : Ker mul S e) (ie : Idm mul e) (sf : S f) (jf : Idm mul f) (h1 : mul e f = f) (h2 : mul f e = f) : f = e := by
  have se := he.1
  obtain ⟨u, v, su, sv, eq⟩ := he.2 f sf
  have sfv := h.cl sf sv
  have sb := h.cl sfv se
  have sa := h.cl se (h.cl su sf)
  generalize ha : mul e (mul u f) = a at *
  generalize hb : mul (mul f v) e = b at *
  have ab : mul a b = e := by
    rw [<- ha, <- hb, h.as se (h.cl su sf) (h.cl sfv se), h.as su sf (h.cl sfv se), <- h.as sf sfv se, <- h.as sf sf sv, show mul f f = f from jf, <- h.as su sfv se, <- eq, show mul e e = e from ie]
    exact ie
  have eb : mul e b = b := by rw [<- hb, <- h.as se sfv se, <- h.as se sf sv, h1]
  have fb : mul f b = b := by rw [<- hb, <- h.as sf sfv se, <- h.as sf sf sv, show mul f f = f from jf]
  have ae : mul a e = a := by rw [<- ha, h.as se (h.cl su sf) se, h.as su sf se, h2]
  have key : ∀ n, mul (M.pw mul a n) (M.pw mul b n) = e := by
    intro n
    induction n with
    | zero => exact ab
    | succ n ih =>
      have sn := h.pw sa n
      have sm := h.pw sb n
      show mul (mul (M.pw mul a n) a) (mul (M.pw mul b n) b) = e
      rw [show mul (M.pw mul b n) b = mul b (M.pw mul b n) from h.pw_comm sb n 0, h.as sn sa (h.cl sb sm), <- h.as sa sb sm, ab]
      have : mul e (M.pw mul b n) = M.pw mul b n := by
        obtain ⟨r, sr, r1, -⟩ := h.pw_split sb n
        rw [r1, <- h.as se sb sr, eb]
      rw [this]
      exact ih
  obtain ⟨m, _, hm⟩ := h.om_ex sb
  have k := key m
  have sg := h.pw sb m
  have e1 : mul e (M.pw mul b m) = e := by
    rw [<- k, h.as (h.pw sa m) sg sg, show mul (M.pw mul b m) (M.pw mul b m) = _ from hm]
  obtain ⟨r, sr, r1, -⟩ := h.pw_split sb m
  have e2 : mul e (M.pw mul b m) = M.pw mul b m := by rw [r1, <- h.as se sb sr, eb]
  have e3 : mul f (M.pw mul b m) = M.pw mul b m := by rw [r1, <- h.as sf sb sr, fb]
  rw [<- e2, e1, h2] at e3
  exact e3
theorem sT' (h : Mon mul one S l) {e x : α} (se : S e) (sx : S x) (h1 : mul e x = x) (h2 : mul x e = x) (n : Nat) : mul e (M.pw mul x n) = M.pw mul x n /\ mul (M.pw mul x n) e = M.pw mul x n := by
  obtain ⟨r, sr, r1, r2⟩ := h.pw_split sx n
  exact ⟨by rw [r1, <- h.as se sx sr, h1], by rw [r2, h.as sr sx se, h2]⟩
theorem Ker.om_grp (h : Mon mul one S l) {e a f : α} (he : Ker mul S e) (ie : Idm mul e) (sa : S a) (h1 : mul e a = a) (h2 : mul a e = a) (o : Om mul a f) : f = e := by
  have sf := Om.s h sa o
  obtain ⟨n, rfl, jf⟩ := o
  obtain ⟨f1, f2⟩ := sT' h he.1 sa h1 h2 n
  exact he.below h ie sf jf f1 f2
theorem Ker.inv (h : Mon mul one S l) {e a : α} (he : Ker mul S e) (ie : Idm mul e) (sa : S a) (h1 : mul e a = a) (h2 : mul a e = a) : ∃ b, S b /\ mul e b = b /\ mul b e = b /\ mul a b = e /\ mul b a = e := by
  obtain ⟨n, _, hn⟩ := h.om_ex sa
  have en := he.om_grp h ie sa h1 h2 ⟨n, rfl, hn⟩
  obtain ⟨w, sw, w1, w2⟩ := h.pw_split sa n
  have sew := h.cl (h.cl he.1 sw) he.1
  refine ⟨mul (mul e w) e, sew, ?_, ?_, ?_, ?_⟩
  . rw [<- h.as he.1 (h.cl he.1 sw) he.1, <- h.as he.1 he.1 sw, show mul e e = e from ie]
  . rw [h.as (h.cl he.1 sw) he.1 he.1, show mul e e = e from ie]
  . rw [<- h.as sa (h.cl he.1 sw) he.1, <- h.as sa he.1 sw, h2, <- w1, en]
    exact ie
  . rw [h.as (h.cl he.1 sw) he.1 sa, h1, h.as he.1 sw sa, <- w2, en]
    exact ie
end
end M
namespace M
section
variable {β : Type} [Mul β]
structure FM (one : β) (l : List β) : Prop where
  as : ∀ a b c : β, a * b * c = a * (b * c)
  l1 : ∀ a : β, one * a = a
  r1 : ∀ a : β, a * one = a
  fin : ∀ a : β, a ∈ l
structure Sub (one : β) (S : β -> Prop) : Prop where
  cl : ∀ {a b}, S a -> S b -> S (a * b)
  o : S one
abbrev mu : β -> β -> β := fun a b => a * b
theorem Sub.all {one : β} : Sub one (fun _ => True) := ⟨fun _ _ => trivial, trivial⟩
def n6' (β : Type) [Mul β] : Prop := ∀ x y e f : β, Om mu (x * y) e -> Om mu (y * x) f -> e * (f * e) = e
structure Blk (e a b c d : β) : Prop where
  i : e * e = e
  one : e * (a * (c * e)) = e
  other : e * (b * (d * e)) = e
  both : e * (a * (b * (c * (d * e)))) ≠ e
theorem uE' {e : β} (h : e * e = e) : Om mu e e := ⟨0, rfl, h⟩
structure Un (e a : β) : Prop where
  l : e * a = a
  r : a * e = a
  ex : ∃ b, e * b = b /\ b * e = b /\ a * b = e /\ b * a = e
theorem Un.mul {one : β} {l : List β} (h : FM one l) {e a b : β} (ha : Un e a) (hb : Un e b) : Un e (a * b) := by
  obtain ⟨a', p1, p2, p3, p4⟩ := ha.ex
  obtain ⟨b', q1, q2, q3, q4⟩ := hb.ex
  refine ⟨by rw [<- h.as, ha.l], by rw [h.as, hb.r], b' * a', by rw [<- h.as, q1], by rw [h.as, p2], ?_, ?_⟩
  . rw [h.as, <- h.as b, q3, p1, p3]
  . rw [h.as, <- h.as a', p4, hb.l, q4]
theorem n6'.split {one : β} {l : List β} (h : FM one l) (st : n6' β) {e x y : β} (ie : e * e = e) (hx : Un e (e * (x * e))) (hy : Un e (e * (y * e))) : e * (x * (y * e)) = e * (x * e) * (e * (y * e)) := by
  obtain ⟨p', p1, p2, p3, p4⟩ := hx.ex
  obtain ⟨q', q1, q2, q3, q4⟩ := hy.ex
  have ie' : ∀ z, e * (e * z) = e * z := fun z => by rw [<- h.as, ie]
  have p1' : ∀ z, e * (p' * z) = p' * z := fun z => by rw [<- h.as, p1]
  have p2' : ∀ z, p' * (e * z) = p' * z := fun z => by rw [<- h.as, p2]
  have q1' : ∀ z, e * (q' * z) = q' * z := fun z => by rw [<- h.as, q1]
  have q2' : ∀ z, q' * (e * z) = q' * z := fun z => by rw [<- h.as, q2]
  -- g = p' x, h = y q'
  have a1 : p' * (x * e) = e := by rw [<- p2', p4]
  have a1' : ∀ z, p' * (x * (e * z)) = e * z := fun z => by
    have := congrArg (· * z) a1
    simpa only [h.as] using this
  have a2 : e * (x * p') = e := by
    have := p3
    rw [h.as, h.as, p1] at this
    exact this
  have a2' : ∀ z, e * (x * (p' * z)) = e * z := fun z => by
    have := congrArg (· * z) a2
    simpa only [h.as] using this
  have b1 : e * (y * q') = e := by
    have := q3
    rw [h.as, h.as, q1] at this
    exact this
  have b1' : ∀ z, e * (y * (q' * z)) = e * z := fun z => by
    have := congrArg (· * z) b1
    simpa only [h.as] using this
  have b2 : q' * (y * e) = e := by rw [<- q2', q4]
  have b2' : ∀ z, q' * (y * (e * z)) = e * z := fun z => by
    have := congrArg (· * z) b2
    simpa only [h.as] using this
  -- e, h g
  have gi : (p' * x) * (p' * x) = p' * x := by
    rw [h.as, <- p2', a2', p2']
  have hi : (y * q') * (y * q') = y * q' := by
    rw [h.as]
    have : q' * (y * q') = q' := by
      have := b2' q'
      rw [q1] at this
      exact this
    rw [this]
  have o1 : Om mu (e * ((y * q') * (p' * x))) (p' * x) := by
    have : e * ((y * q') * (p' * x)) = p' * x := by rw [h.as, b1', p1']
    rw [this]; exact uE' gi
  have o2 : Om mu (((y * q') * (p' * x)) * e) (y * q') := by
    have : ((y * q') * (p' * x)) * e = y * q' := by rw [h.as, h.as p', a1, h.as, q2]
    rw [this]; exact uE' hi
  have k := st _ _ _ _ o1 o2
  -- g h g = g
  have k2 : (p' * x) * (y * q') = e := by
    have := congrArg (· * e) k
    simp only [h.as, a1, q2] at this
    simpa only [h.as] using this
  have k2' : p' * (x * (y * q')) = e := by rw [<- h.as]; exact k2
  have f1 : e * (x * e) * (p' * (x * (y * (q' * (e * (y * e)))))) = e * (x * (y * e)) := by
    have : q' * (e * (y * e)) = e := q4
    rw [this, h.as, h.as, p1', a2']
  rw [<- f1]
  have f2 : p' * (x * (y * (q' * (e * (y * e))))) = e * (y * e) := by
    have := congrArg (· * (e * (y * e))) k2'
    simp only [h.as, ie'] at this
    exact this
  rw [f2]
section
variable {one : β} {l : List β} (gen : Nat -> β)
def dd (one : β) : List Nat -> β
  | [] => one
  | c :: z => gen c * dd one z
def DL (one : β) (lot : List Nat) (d : β) : Prop := ∃ z, (∀ c ∈ z, c ∈ lot) /\ d = dd gen one z
def FL (one : β) (lot : List Nat) (d : β) : Prop := ∃ z, (∀ c ∈ z, c ∈ lot) /\ (∀ c ∈ lot, c ∈ z) /\ d = dd gen one z
variable {gen}
theorem rJ' (h : FM one l) (x y : List Nat) : dd gen one (x ++ y) = dd gen one x * dd gen one y := by
  induction x with
  | nil => exact (h.l1 _).symm
  | cons c x ih => show gen c * dd gen one (x ++ y) = gen c * dd gen one x * dd gen one y; rw [ih, h.as]
theorem DL.sub (h : FM one l) {lot : List Nat} : Sub one (DL gen one lot) where
  cl := by
    rintro _ _ ⟨x, hx, rfl⟩ ⟨y, hy, rfl⟩
    exact ⟨x ++ y, fun c hc => (List.mem_append.1 hc).elim (hx c) (hy c), (rJ' h x y).symm⟩
  o := ⟨[], by simp, rfl⟩
theorem FL.mul (h : FM one l) {lot : List Nat} {a b c : β} (ha : DL gen one lot a) (hb : FL gen one lot b) (hc : DL gen one lot c) : FL gen one lot (a * (b * c)) := by
  obtain ⟨x, x1, rfl⟩ := ha
  obtain ⟨y, y1, y2, rfl⟩ := hb
  obtain ⟨z, z1, rfl⟩ := hc
  refine ⟨x ++ (y ++ z), fun c hc => ?_, fun c hc => ?_, by rw [rJ' h, rJ' h]⟩
  . simp only [List.mem_append] at hc
    rcases hc with q | q | q
    . exact x1 c q
    . exact y1 c q
    . exact z1 c q
  . simp only [List.mem_append]
    exact .inr (.inl (y2 c hc))
end
end
section
variable {β : Type} [Mul β] {one : β} {l : List β}
end
end M
namespace M
section
local macro_rules | `(tactic| walk_at "s") => `(tactic| simp (disch := first | assumption | omega | decide) only [*, ↓x_C, ↓x_V, ↓Dd', ↓Da', ↓AW', ↓AO', ↓vg', ↓AP', ↓xH', ↓AM', ↓AQ', ↓Df', ↓De', ↓Db', ↓Dc', ↓x_O, ↓C9', ↓C8', ↓xI', ↓xA', ↓va', ↓ve', ↓AS', ↓xG', ↓AR', ↓AN', ↓AT', ↓xF', ↓xE', xJ', ↓AV', ↓AU', ↓vf', ↓u9', ↓si', ↓vd', ↓AL', zJ', DH', Ck', z2', Cl', BT', BS', wh', Bx', Bw', tN', Ab', Aa', te', v9', rj', s9', ty', BI', BJ', xc', xb', tO', Ae', Ag', Af', wg', Bv', Bu', yH', wf', qV', rF', zj', vQ', sM', sK', sL', zx', Cm', tn', wO', ↓C7', ↓xy', ↓xz', ↓AJ', ↓C6', ↓xD', ↓o0', ↓xC', ↓vb', ↓vc', ↓Dg', ↓AK', ↓xB',
  ↓ur', ↓yf', ↓Bc', ↓Bb', ↓Dk', ↓Ba', ↓Bh', ↓Bg', ↓Bi', ↓ye', ↓Bf', ↓yd', ↓Be', ↓Bd', ↓vS', ↓A5', ↓xV',
  A0', A4', AZ', A3', w0', wW', tD', Cb', zZ', zI', zU', w4', zR', to', tK', tA', tB', tz', Option.map_some, Option.map_none, Option.isSome_some, Option.isSome_none, Bool.bne_true, Bool.bne_false, xk', wD', wC', wF', wB', y8', wA', wE', wY', zL', w9', zz', zW', uN', AY', xL', xK', xM', A2', xT', xS', xU', vm', xP', A6', xN', xO', vo', vp', xR', xQ', A1', aR', kG', vk', sm', vr',
  z8', z7', u0', z5', xe', BL', B2', zM', zN', z4', B3', BW', BX', Co', Cn', Cp', B0', BY', B1', beq_self_eq_true, w6', w8', rN', tE', tF', tG', tr', Cd', Ce', tH', tI', DA', DB', DC', DE', B6', B7', Ch', Cj', Cg', zK', uY', uZ', zT', zV', nU', B9', Cc', w7', al', tP', rX', oA', ti', rr', xj', lY', List.getElem?_map, n3', y1', BP', BR', BO', BQ', u1', tM', zF', zG', zX', w5', wQ', BM', z3', xa', nV', tJ', wP', Cf', z0', Cw', B5', B4', uX', zA', zB', wR', wZ', wX', wS', lu', oG', lw', lt', ls', lv', lx', kj', lz', kl', ki', kh', kk', km', ln', oF', lp', lm', ll', lo', lq', iC', j4', iE', iB', iA', iD', iF', j7', lr', j9', j6', j5', j8', ka', kd', ly', kf', kc', kb', ke', kg', BK', xd', Cv', zE', nS', zD', BV', BU', zw', zy', zu', uW', Cq', Cr', wV', wU', zQ', Ak', DG', DF', Ci', DD', B8', zP', zS', sI', Ca', zY', zC', BN', vn', qP', String.reduceEq, reduceIte, vl', List.getElem?_set_self, List.getElem?_set_ne, List.set_set, w2', Cs', w3', Cu', Ct', chD,
  decide_true, decide_false, frz, li', Ai', tn1, Int.zero_add, Bool.not_false, Bool.not_true, Bool.and_true, Bool.true_and, Bool.and_false, Bool.false_and, Bool.or_true, Bool.true_or, Bool.or_false, Bool.false_or, List.getElem?_cons_zero, List.getElem?_cons_succ, List.set_cons_zero, List.set_cons_succ, List.length_cons, List.length_nil, List.map_cons, List.map_nil, List.cons_append, List.nil_append, List.replicate_succ, List.replicate_zero, List.length_map, List.length_range, List.length_set, Int.toNat_natCast, and_self, or_true, true_or, true_and, and_true, or_self, Int.reduceToNat, Int.toNat_zero, Int.toNat_one, Int.reduceNeg, Int.reducePow, Int.reduceAdd, Int.reduceSub, Int.reduceMul, Int.reduceLT, Int.reduceLE, Nat.reduceAdd, Nat.reduceSub, Nat.reduceLT, Nat.reduceLeDiff])
local macro_rules | `(tactic| walk_at "f0") => `(tactic| (refine yI' ?_ rfl; simp only [List.map_cons, List.map_nil, List.replicate_succ, List.replicate_zero, List.cons_append, List.nil_append, Nat.reduceSub]))
local macro_rules | `(tactic| walk_at "f") => `(tactic| (walk_at "f0"; walk_at "s"))
local macro_rules | `(tactic| walk_at "l") => `(tactic| (intro env2_ he_; simp only [al', List.set_cons_zero, List.set_cons_succ] at he_; rw [he_]; clear he_))
theorem oD' {w : W} {n : Nat} {m : Int} (h : ch' w n) (h1 : 0 < m) (h2 : m < 1606938044258990275541962092341162602522202993782792835301376) : wF (f__law_draw [.obj n, .int m] w) (fun o w' => ∃ d, o = .fz (.int d) /\ 0 <= d /\ d < m /\ ch' w' n /\ But n w w') FX := by
  obtain ⟨cells, i, b, s, c, hw, hi⟩ := h
  have hn := bp' hw
  unfold f__law_draw
  walk_at "f0"
  refine vO' (fun ρ => ∃ x w', ρ = ⟨[some (.fz (.obj n)), some (.fz (.int m)), x, none, none], w'⟩ /\ ch' w' n /\ But n w w') ?_ ?_
  . walk_at "s"
    refine aP' (fun hb => ?_) (fun hb => ?_)
    . walk_at "s"
      refine aP' (fun hc => ?_) (fun hc => ?_)
      . walk_at "s"
        refine bv' ?_ fun x _ hx => ?_
        . omega
        walk_at "s"
        refine aP' (fun hc => ?_) (fun hc => ?_)
        . walk_at "s"
          exact ⟨_, _, rfl, ⟨cells, _, _, _, _, List.getElem?_set_self hn, by omega⟩, But.refl.set⟩
        . walk_at "s"
          exact ⟨_, _, rfl, ⟨cells, _, _, _, _, List.getElem?_set_self hn, by omega⟩, But.refl.set⟩
      . walk_at "s"
        exact ⟨_, _, rfl, ⟨cells, _, _, _, _, hw, hi⟩, But.refl⟩
    . walk_at "s"
      exact ⟨_, _, rfl, ⟨cells, _, _, _, _, hw, hi⟩, But.refl⟩
  . rintro ρ1 ⟨x, w1, rfl, ⟨cells1, i1, b1, s1, c1, hw1, hi1⟩, bt⟩
    have hn1 := bp' hw1
    walk_at "s"
    refine aP' (fun hb => ?_) (fun hb => ?_)
    . walk_at "s"
      exact ⟨_, rfl, Int.emod_nonneg _ (by omega), Int.emod_lt_of_pos _ h1, ⟨cells1, _, _, _, _, List.getElem?_set_self hn1, hi1⟩, bt.set⟩
    . walk_at "s"
      exact ⟨_, rfl, Int.emod_nonneg _ (by omega), Int.emod_lt_of_pos _ h1, ⟨cells1, _, _, _, _, List.getElem?_set_self hn1, hi1⟩, bt.set⟩
theorem bq' {w : W} {n : Nat} {m : Int} (h : ch' w n) (h1 : 0 < m) (h2 : m < 1606938044258990275541962092341162602522202993782792835301376) : wF (f__law_draw [.obj n, .int m] w) (fun o w' => ∃ d : Nat, o = .fz (.int (d : Nat)) /\ (d : Int) < m /\ ch' w' n /\ But n w w') FX := by
  refine (oD' h h1 h2).mono ?_
  rintro _ w' ⟨d, rfl, h3, h4, h5, h6⟩
  exact ⟨d.toNat, by rw [Int.toNat_of_nonneg h3], by rw [Int.toNat_of_nonneg h3]; exact h4, h5, h6⟩
theorem rz' {w : W} {ns : List Int} (hl : ns.length <= 63) : wF (f__law_hand [.scr (ns.map .int)] w) (fun o w' => o = .fz (.obj w.length) /\ ch' w' w.length /\ w'.length = w.length + 1 /\ ∀ j, j < w.length -> w'[j]? = w[j]?) FX := by
  unfold f__law_hand
  walk_at "f"
  have e : cut (ns.map D.int) none (some 63) = (ns.take 63).map .int := by
    rw [u1' (by decide), <- List.map_take]
    rfl
  have e2 : ns.take 63 = ns := List.take_of_length_le hl
  rw [e2] at e
  try rw [e]
  try rw [show List.take 63 (List.map D.int ns) = ns.map D.int by rw [<- List.map_take, e2]]
  refine fa' (by omega) (fun pre acc ρ => acc = pre.map (fun i => .int (if i < 0 then -i else i)) /\ ∃ x, ρ = ⟨[some (.fz (.scr (ns.map .int))), none, x], w⟩) ⟨rfl, _, rfl⟩ ?_ ?_
  . rintro pre c post acc _ e ⟨rfl, x, rfl⟩
    walk_at "s"
    exact ⟨by simp, _, rfl⟩
  . rintro acc _ ⟨rfl, x, rfl⟩
    walk_at "s"
    refine ⟨⟨ns.map (fun i => if i < 0 then -i else i), 0, 0, 1 + ns.length, 0, ?_, by decide⟩, by simp, fun j hj => ?_⟩
    . rw [List.getElem?_append_right (Nat.le_refl _), Nat.sub_self]
      rw [List.map_map]
      rfl
    . rw [List.getElem?_append_left hj]
theorem jw' {α : Type} {l f : List α} {d : Nat} {x : α} (h : l[d]? = some x) : ((l.take d ++ l.drop (d + 1)) ++ (f ++ [x])).Perm (l ++ f) := by
  obtain ⟨hd, e⟩ := List.getElem?_eq_some_iff.mp h
  have h1 : l = l.take d ++ x :: l.drop (d + 1) := by rw [<- e, List.getElem_cons_drop, List.take_append_drop]
  generalize l.take d = a at *
  generalize l.drop (d + 1) = b at *
  subst h1
  simp only [List.append_assoc, List.cons_append]
  refine List.Perm.append_left a ?_
  rw [<- List.append_assoc]
  exact List.perm_append_comm
theorem jM' {w : W} {n : Nat} {s : Tx} {m : Nat} (h : ch' w n) (hs : s.length < 1073741) (hm : m <= s.length) : wF (f__law_letters [.obj n, .str s, .int m] w) (fun o w' => ∃ r t : Tx, o = .fz (.str r) /\ r.length = m /\ (t ++ r).Perm s /\ ch' w' n /\ But n w w') FX := by
  unfold f__law_letters
  walk_at "f"
  refine d4' (fun k ρ => ∃ x y, ∃ t r : Tx, ∃ w', ρ = ⟨[some (.fz (.obj n)), some (.fz (.str s)), some (.fz (.int m)), some (.fz (.str t)), some (.fz (.str r)), x, y], w'⟩ /\ r.length = k /\ (t ++ r).Perm s /\ ch' w' n /\ But n w w') ⟨_, _, _, _, _, rfl, rfl, by simp, h, But.refl⟩ ?_ ?_
  . rintro k ρ hk ⟨x, y, t, r, w1, rfl, rfl, hp, hh, hb⟩
    have hl := hp.length_eq
    rw [List.length_append] at hl
    walk_at "s"
    refine (bq' hh (by omega) (by omega)).mono ?_
    rintro _ w2 ⟨d, rfl, h3, h4, h5⟩
    walk_at "s"
    refine bv' (by omega) fun c _ hc => ?_
    walk_at "s"
    have hl2 : (t.take d).length + (t.drop (d + 1)).length <= 16777216 := by rw [List.length_take, List.length_drop]; omega
    walk_at "s"
    refine ⟨_, _, _, _, _, rfl, by simp, ?_, h4, hb.trans h5⟩
    exact (jw' hc).trans hp
  . rintro ρ ⟨x, y, t, r, w1, rfl, e, hp, hh, hb⟩
    walk_at "s"
    exact ⟨r, t, rfl, e, hp⟩
theorem em' {α β : Type} (f : α -> β) : ∀ (l : List α) (i : Nat), (l.map f).eraseIdx i = (l.eraseIdx i).map f
  | [], _ => rfl
  | _ :: _, 0 => rfl
  | a :: l, i + 1 => by simp [List.eraseIdx, em' f l i]
theorem ic' {w : W} {n : Nat} {l : List D} (h : ch' w n) (hs : l.length < 1073741) : wF (f__law_shuffled [.obj n, .lst l] w) (fun o w' => ∃ r : List D, o = .lst (r.map .fz) /\ r.Perm l /\ ch' w' n /\ But n w w') FX := by
  unfold f__law_shuffled
  walk_at "f"
  refine d4' (fun k ρ => ∃ x, ∃ t r : List D, ∃ w', ρ = ⟨[some (.fz (.obj n)), some (.fz (.lst l)), some (.lst (t.map .fz)), some (.lst (r.map .fz)), x], w'⟩ /\ r.length = k /\ (t ++ r).Perm l /\ ch' w' n /\ But n w w') ⟨_, _, [], _, rfl, rfl, by simp, h, But.refl⟩ ?_ ?_
  . rintro k ρ hk ⟨x, t, r, w1, rfl, rfl, hp, hh, hb⟩
    have hl := hp.length_eq
    rw [List.length_append] at hl
    walk_at "s"
    refine (bq' hh (by omega) (by omega)).mono ?_
    rintro _ w2 ⟨d, rfl, h3, h4, h5⟩
    have hd : d < t.length := by omega
    walk_at "s"
    refine bv' (by omega) fun c _ hc => ?_
    walk_at "s"
    refine ⟨_, t.eraseIdx d, r ++ [c], _, by rw [em'], by simp, ?_, h4, hb.trans h5⟩
    rw [List.eraseIdx_eq_take_drop_succ]
    exact (jw' hc).trans hp
  . rintro ρ ⟨x, t, r, w1, rfl, e, hp, hh, hb⟩
    walk_at "s"
    have hl := hp.length_eq
    rw [List.length_append] at hl
    have ht : t = [] := List.eq_nil_of_length_eq_zero (by omega)
    subst ht
    exact ⟨r, rfl, hp⟩
def Aj' (T : List (List Nat)) (k many size : Nat) : Prop := T.length = k /\ ∀ r ∈ T, r.length = many /\ ∀ t ∈ r, t < size
theorem c1' (a b : Int) : (eq' a b).length = (b - a).toNat := by simp [eq']
theorem hD' {m : Nat} {d : D} (h : d ∈ eq' 0 m) : ∃ v : Nat, v < m /\ d = .int (v : Nat) := by
  unfold eq' at h
  obtain ⟨v, hv, rfl⟩ := List.mem_map.mp h
  exact ⟨v, by have := List.mem_range.mp hv; omega, by simp⟩
def Hd (o : O) (ds : List D) : Prop := o = .lst (ds.map .fz) \/ o = .fz (.lst ds)
theorem sO' {w : W} {n : Nat} {kind size many : Nat} (h : ch' w n) (hs : 1 <= size) (hs2 : size < 1000) (hm : 1 <= many) (hm2 : many < 1000) : wF (f__law_rows [.obj n, .int kind, .int size, .int many] w) (fun o w' => ∃ T, o = .fz (dc' T) /\ bf' T size many /\ ch' w' n /\ But n w w') FX := by
  unfold f__law_rows
  walk_at "f"
  refine fa' (by simp; omega) (fun pre acc ρ => (∃ l : List Nat, acc = l.map (fun t => .int (t : Nat)) /\ l.length = pre.length) /\ ∃ x w', ρ = ⟨[some (.fz (.obj n)), some (.fz (.int kind)), some (.fz (.int size)), some (.fz (.int many)), some (.lst []), none, none, none, none, x, none], w'⟩ /\ ch' w' n /\ But n w w') ⟨⟨[], rfl, rfl⟩, _, _, rfl, h, But.refl⟩ ?_ ?_
  . rintro pre c post acc _ e ⟨⟨l, rfl, hl⟩, x, w1, rfl, hh, hb⟩
    walk_at "s"
    refine (bq' hh (by omega) (by omega)).mono ?_
    rintro _ w2 ⟨d, rfl, h3, h4, h5⟩
    walk_at "s"
    exact ⟨⟨l ++ [d], by simp, by simp [hl]⟩, _, _, rfl, h4, hb.trans h5⟩
  . rintro _ _ ⟨⟨steps, rfl, hsteps⟩, x, w1, rfl, hh, hb⟩
    have hsl : steps.length = many := by rw [hsteps]; simp
    walk_at "s"
    refine fa' (by simp; omega) (fun pre acc ρ => (∃ l : List (List D), acc = l.map .lst /\ l.length = pre.length /\ ∀ r ∈ l, r.Perm (eq' 0 size)) /\ ∃ x w', ρ = ⟨[some (.fz (.obj n)), some (.fz (.int kind)), some (.fz (.int size)), some (.fz (.int many)), some (.lst []), some (.lst ((steps.map (fun t => D.int (t : Nat))).map .fz)), none, none, none, x, none], w'⟩ /\ ch' w' n /\ But n w w') ⟨⟨[], rfl, rfl, by simp⟩, _, _, rfl, hh, hb⟩ ?_ ?_
    . rintro pre c post acc _ e ⟨⟨l, rfl, hl, hp⟩, x, w1, rfl, hh, hb⟩
      walk_at "s"
      refine (ic' hh (by rw [c1']; omega)).mono ?_
      rintro _ w2 ⟨d, rfl, h3, h4, h5⟩
      walk_at "s"
      exact ⟨⟨l ++ [d], by simp, by simp [hl], by simpa [or_imp, forall_and] using ⟨hp, h3⟩⟩, _, _, rfl, h4, hb.trans h5⟩
    . rintro _ _ ⟨⟨turns, rfl, hturns, hperm⟩, x, w2, rfl, hh, hb⟩
      have htl : turns.length = many := by rw [hturns]; simp
      walk_at "s"
      refine d4' (fun k ρ => ∃ o5 o6 x7 x8 x9 x10 w', ∃ T : List (List Nat), ρ = ⟨[some (.fz (.obj n)), some (.fz (.int kind)), some (.fz (.int size)), some (.fz (.int many)), some (.lst ((T.map d7').map .fz)), some o5, some o6, x7, x8, x9, x10], w'⟩ /\ Hd o5 (steps.map (fun t => D.int (t : Nat))) /\ Hd o6 (turns.map .lst) /\ ch' w' n /\ But n w w' /\ Aj' T k many size) ⟨_, _, _, _, _, _, _, [], rfl, .inl rfl, .inl rfl, hh, hb, rfl, by simp⟩ ?_ ?_
      . rintro state _ hst ⟨o5, o6, x7, x8, x9, x10, w3, T, rfl, h5, h6, hh3, hb3, hT, hTr⟩
        walk_at "s"
        refine d4' (fun k ρ => ∃ o5 o6 x9 x10 w', ∃ row : List Nat, ρ = ⟨[some (.fz (.obj n)), some (.fz (.int kind)), some (.fz (.int size)), some (.fz (.int many)), some (.lst ((T.map d7').map .fz)), some o5, some o6, some (.fz (.int (state : Nat))), some (.lst ((row.map fun t => D.int (t : Nat)).map .fz)), x9, x10], w'⟩ /\ Hd o5 (steps.map (fun t => D.int (t : Nat))) /\ Hd o6 (turns.map .lst) /\ ch' w' n /\ But n w w' /\ row.length = k /\ ∀ t ∈ row, t < size) ⟨_, _, _, _, _, [], rfl, h5, h6, hh3, hb3, rfl, by simp⟩ ?_ ?_
        . rintro letter _ hle ⟨o5, o6, x9, x10, w4, row, rfl, h5, h6, hh4, hb4, hrow, hrt⟩
          walk_at "s"
          refine (bq' hh4 (by omega) (by omega)).mono ?_
          rintro _ w5 ⟨d, rfl, hd, hh5, hb5⟩
          walk_at "s"
          have ht0 : (0 : Int) <= d := by omega
          generalize (d : Int) = t at hd ht0
          refine cM' (fun ρ => ∃ o5 o6, ∃ t : Int, ρ = ⟨[some (.fz (.obj n)), some (.fz (.int kind)), some (.fz (.int size)), some (.fz (.int many)), some (.lst ((T.map d7').map .fz)), some o5, some o6, some (.fz (.int (state : Nat))), some (.lst ((row.map fun t => D.int (t : Nat)).map .fz)), some (.fz (.int (letter : Nat))), some (.fz (.int t))], w5⟩ /\ Hd o5 (steps.map (fun t => D.int (t : Nat))) /\ Hd o6 (turns.map .lst) /\ 0 <= t /\ t < size) (aP' (fun hk3 => ?_) (fun _ => ?_)) ?_
          . walk_at "s"
            rcases h5 with rfl | rfl
            . walk_at "s"
              refine bv' (by omega) fun z hz _ => ?_
              walk_at "s"
              exact ⟨_, _, _, rfl, .inr rfl, h6, Int.emod_nonneg _ (by omega), Int.emod_lt_of_pos _ (by omega)⟩
            . walk_at "s"
              refine bv' (by omega) fun z hz _ => ?_
              walk_at "s"
              exact ⟨_, _, _, rfl, .inr rfl, h6, Int.emod_nonneg _ (by omega), Int.emod_lt_of_pos _ (by omega)⟩
          . walk_at "s"
            exact ⟨_, _, _, rfl, h5, h6, ht0, hd⟩
          rintro ρ5 hJ
          rcases hJ with ⟨o5, o6, t, rfl, h5, h6, ht0, hd⟩
          walk_at "s"
          refine cM' (fun ρ => ∃ o5 o6, ∃ t : Int, ρ = ⟨[some (.fz (.obj n)), some (.fz (.int kind)), some (.fz (.int size)), some (.fz (.int many)), some (.lst ((T.map d7').map .fz)), some o5, some o6, some (.fz (.int (state : Nat))), some (.lst ((row.map fun t => D.int (t : Nat)).map .fz)), some (.fz (.int (letter : Nat))), some (.fz (.int t))], w5⟩ /\ Hd o5 (steps.map (fun t => D.int (t : Nat))) /\ Hd o6 (turns.map .lst) /\ 0 <= t /\ t < size) (aP' (fun hk3 => ?_) (fun _ => ?_)) ?_
          . walk_at "s"
            rcases h5 with rfl | rfl
            . walk_at "s"
              refine bv' (by omega) fun z hz _ => ?_
              walk_at "s"
              exact ⟨_, _, _, rfl, .inr rfl, h6, by omega, by omega⟩
            . walk_at "s"
              refine bv' (by omega) fun z hz _ => ?_
              walk_at "s"
              exact ⟨_, _, _, rfl, .inr rfl, h6, by omega, by omega⟩
          . walk_at "s"
            exact ⟨_, _, _, rfl, h5, h6, ht0, hd⟩
          rintro ρ5 hJ
          rcases hJ with ⟨o5, o6, t, rfl, h5, h6, ht0, hd⟩
          walk_at "s"
          refine cM' (fun ρ => ∃ o5 o6, ∃ t : Int, ρ = ⟨[some (.fz (.obj n)), some (.fz (.int kind)), some (.fz (.int size)), some (.fz (.int many)), some (.lst ((T.map d7').map .fz)), some o5, some o6, some (.fz (.int (state : Nat))), some (.lst ((row.map fun t => D.int (t : Nat)).map .fz)), some (.fz (.int (letter : Nat))), some (.fz (.int t))], w5⟩ /\ Hd o5 (steps.map (fun t => D.int (t : Nat))) /\ Hd o6 (turns.map .lst) /\ 0 <= t /\ t < size) (aP' (fun hk3 => ?_) (fun _ => ?_)) ?_
          . walk_at "s"
            refine aP' (fun _ => ?_) (fun _ => ?_)
            . walk_at "s"
              exact ⟨_, _, _, rfl, h5, h6, Int.emod_nonneg _ (by omega), Int.emod_lt_of_pos _ (by omega)⟩
            . walk_at "s"
              exact ⟨_, _, _, rfl, h5, h6, by omega, by omega⟩
          . walk_at "s"
            exact ⟨_, _, _, rfl, h5, h6, ht0, hd⟩
          rintro ρ5 hJ
          rcases hJ with ⟨o5, o6, t, rfl, h5, h6, ht0, hd⟩
          walk_at "s"
          refine cM' (fun ρ => ∃ o5 o6, ∃ t : Int, ρ = ⟨[some (.fz (.obj n)), some (.fz (.int kind)), some (.fz (.int size)), some (.fz (.int many)), some (.lst ((T.map d7').map .fz)), some o5, some o6, some (.fz (.int (state : Nat))), some (.lst ((row.map fun t => D.int (t : Nat)).map .fz)), some (.fz (.int (letter : Nat))), some (.fz (.int t))], w5⟩ /\ Hd o5 (steps.map (fun t => D.int (t : Nat))) /\ Hd o6 (turns.map .lst) /\ 0 <= t /\ t < size) (aP' (fun hk3 => ?_) (fun _ => ?_)) ?_
          . walk_at "s"
            exact ⟨_, _, _, rfl, h5, h6, Int.emod_nonneg _ (by omega), Int.emod_lt_of_pos _ (by omega)⟩
          . walk_at "s"
            exact ⟨_, _, _, rfl, h5, h6, ht0, hd⟩
          rintro ρ5 hJ
          rcases hJ with ⟨o5, o6, t, rfl, h5, h6, ht0, hd⟩
          walk_at "s"
          refine cM' (fun ρ => ∃ o5 o6, ∃ t : Int, ρ = ⟨[some (.fz (.obj n)), some (.fz (.int kind)), some (.fz (.int size)), some (.fz (.int many)), some (.lst ((T.map d7').map .fz)), some o5, some o6, some (.fz (.int (state : Nat))), some (.lst ((row.map fun t => D.int (t : Nat)).map .fz)), some (.fz (.int (letter : Nat))), some (.fz (.int t))], w5⟩ /\ Hd o5 (steps.map (fun t => D.int (t : Nat))) /\ Hd o6 (turns.map .lst) /\ 0 <= t /\ t < size) (aP' (fun hk3 => ?_) (fun _ => ?_)) ?_
          . walk_at "s"
            refine ⟨_, _, _, rfl, h5, h6, ?_, ?_⟩
            . split <;> omega
            . split <;> omega
          . walk_at "s"
            exact ⟨_, _, _, rfl, h5, h6, ht0, hd⟩
          rintro ρ5 hJ
          rcases hJ with ⟨o5, o6, t, rfl, h5, h6, ht0, hd⟩
          walk_at "s"
          refine cM' (fun ρ => ∃ o5 o6, ∃ t : Int, ρ = ⟨[some (.fz (.obj n)), some (.fz (.int kind)), some (.fz (.int size)), some (.fz (.int many)), some (.lst ((T.map d7').map .fz)), some o5, some o6, some (.fz (.int (state : Nat))), some (.lst ((row.map fun t => D.int (t : Nat)).map .fz)), some (.fz (.int (letter : Nat))), some (.fz (.int t))], w5⟩ /\ Hd o5 (steps.map (fun t => D.int (t : Nat))) /\ Hd o6 (turns.map .lst) /\ 0 <= t /\ t < size) (aP' (fun hk3 => ?_) (fun _ => ?_)) ?_
          . walk_at "s"
            refine aP' (fun _ => ?_) (fun _ => ?_)
            . walk_at "s"
              refine aP' (fun _ => ?_) (fun _ => ?_)
              . walk_at "s"
                refine ⟨_, _, _, rfl, h5, h6, Int.emod_nonneg _ (by omega), ?_⟩
                have := Int.emod_lt_of_pos ((state : Int) + 1) (show (0 : Int) < (size : Int) - 1 by omega)
                omega
              . walk_at "s"
                exact ⟨_, _, _, rfl, h5, h6, by omega, by omega⟩
            . walk_at "s"
              exact ⟨_, _, _, rfl, h5, h6, by omega, by omega⟩
          . walk_at "s"
            exact ⟨_, _, _, rfl, h5, h6, ht0, hd⟩
          rintro ρ5 hJ
          rcases hJ with ⟨o5, o6, t, rfl, h5, h6, ht0, hd⟩
          walk_at "s"
          refine cM' (fun ρ => ∃ o5 o6, ∃ t : Int, ρ = ⟨[some (.fz (.obj n)), some (.fz (.int kind)), some (.fz (.int size)), some (.fz (.int many)), some (.lst ((T.map d7').map .fz)), some o5, some o6, some (.fz (.int (state : Nat))), some (.lst ((row.map fun t => D.int (t : Nat)).map .fz)), some (.fz (.int (letter : Nat))), some (.fz (.int t))], w5⟩ /\ Hd o5 (steps.map (fun t => D.int (t : Nat))) /\ Hd o6 (turns.map .lst) /\ 0 <= t /\ t < size) (aP' (fun hk3 => ?_) (fun _ => ?_)) ?_
          . walk_at "s"
            rcases h6 with rfl | rfl
            . walk_at "s"
              refine bv' (by omega) fun z hz _ => ?_
              have hp := hperm z hz
              have hpl := hp.length_eq
              rw [c1'] at hpl
              walk_at "s"
              refine bv' (by omega) fun y hy _ => ?_
              obtain ⟨v, hv, rfl⟩ := hD' (hp.mem_iff.mp hy)
              walk_at "s"
              exact ⟨_, _, _, rfl, h5, .inr rfl, by omega, by omega⟩
            . walk_at "s"
              refine bv' (by omega) fun z hz _ => ?_
              have hp := hperm z hz
              have hpl := hp.length_eq
              rw [c1'] at hpl
              walk_at "s"
              refine bv' (by omega) fun y hy _ => ?_
              obtain ⟨v, hv, rfl⟩ := hD' (hp.mem_iff.mp hy)
              walk_at "s"
              exact ⟨_, _, _, rfl, h5, .inr rfl, by omega, by omega⟩
          . walk_at "s"
            exact ⟨_, _, _, rfl, h5, h6, ht0, hd⟩
          rintro ρ5 hJ
          rcases hJ with ⟨o5, o6, t, rfl, h5, h6, ht0, hd⟩
          obtain ⟨t, rfl⟩ := Int.eq_ofNat_of_zero_le ht0
          walk_at "s"
          exact ⟨_, _, _, _, _, row ++ [t], by simp; exact ⟨rfl, rfl⟩, h5, h6, hh5, hb4.trans hb5, by simp [hrow], by simpa [or_imp, forall_and] using ⟨hrt, by omega⟩⟩
        . rintro _ ⟨o5, o6, x9, x10, w4, row, rfl, h5, h6, hh4, hb4, hrow, hrt⟩
          walk_at "s"
          exact ⟨_, _, _, _, _, _, _, T ++ [row], by simp [d7']; exact ⟨rfl, rfl, rfl, rfl⟩, h5, h6, hh4, hb4, by simp [hT], by
            simp only [List.mem_append, List.mem_singleton]
            rintro r (hr | rfl)
            . exact hTr r hr
            . exact ⟨hrow, hrt⟩⟩
      . rintro _ ⟨o5, o6, x7, x8, x9, x10, w3, T, rfl, h5, h6, hh3, hb3, hT, hTr⟩
        walk_at "s"
        exact ⟨T, rfl, hT, hTr⟩
theorem qv' {w : W} {n : Nat} {kind size many : Nat} (h : ch' w n) (hs : 1 <= size) (hs2 : size < 1000) (hm : 1 <= many) (hm2 : many < 1000) (hk : kind <= 4 \/ 2 <= size) : wF (f__law_rows [.obj n, .int kind, .int size, .int many] w) (fun o w' => ∃ T, o = .fz (dc' T) /\ bf' T size many /\ ch' w' n /\ But n w w') FX := sO' h hs hs2 hm hm2
theorem kV' {n : Nat} {pre post : List Nat} {c : Nat} (e : List.range n = pre ++ c :: post) : c = pre.length /\ pre.length < n := by
  have h1 : (List.range n)[pre.length]? = some c := by rw [e]; simp
  have h2 : pre.length < n := by
    have := congrArg List.length e
    simp at this
    omega
  rw [List.getElem?_range h2] at h1
  exact ⟨(Option.some.inj h1).symm, h2⟩
theorem qh' (s : Tx) : (b6' s).length = s.length := List.length_mergeSort s
theorem hm' (s : Tx) : (b6' s).Perm s := List.mergeSort_perm s _
theorem sE' (s : Tx) : (b6' s).Pairwise (· <= ·) := by
  have := List.pairwise_mergeSort (le := fun a b : Nat => decide (a <= b)) (fun a b c h1 h2 => by simp at *; omega) (fun a b => by simp; omega) s
  exact this.imp (by simp)
theorem sD' {s : Tx} (h : s.Nodup) : (b6' s).Pairwise (· < ·) := by
  have h1 := sE' s
  have h2 : (b6' s).Nodup := (hm' s).nodup_iff.mpr h
  exact (h1.and h2).imp (fun h => by have := h.1; have := h.2; omega)
theorem oo' {w : W} {n : Nat} {most states : Nat} (h : ch' w n) (hm : 1 <= most) (hm2 : most <= 26) (hs : 2 <= states) (hs2 : states < 100) : wF (f__law_parts [.obj n, .int most, .int states] w) (fun o w' => ∃ L T A, o = .fz (.tup [.str L, dc' T, dB' A]) /\ MacOk L T A most states /\ ch' w' n /\ But n w w') FX := by
  unfold f__law_parts
  walk_at "f"
  refine (bq' h (by omega) (by omega)).mono ?_
  rintro _ w1 ⟨kind, rfl, hkind, h1, b1⟩
  walk_at "s"
  refine (bq' h1 (by omega) (by omega)).mono ?_
  rintro _ w2 ⟨many0, rfl, hmany0, h2, b2⟩
  walk_at "s"
  refine (bq' h2 (by omega) (by omega)).mono ?_
  rintro _ w3 ⟨size0, rfl, hsize0, h3, b3⟩
  walk_at "s"
  refine cM' (fun ρ => ∃ many size : Nat, ρ = ⟨[some (.fz (.obj n)), some (.fz (.int most)), some (.fz (.int states)), some (.fz (.int kind)), some (.fz (.int many)), some (.fz (.int size)), none, none, none, none], w3⟩ /\ 1 <= many /\ many <= most /\ 1 <= size /\ size <= states /\ (kind <= 4 \/ 2 <= size)) (aP' (fun hk => ?_) (fun hk => ?_)) ?_
  . walk_at "s"
    refine ⟨max (min 2 most) (1 + many0), max 2 (1 + size0), ?_, by omega, by omega, by omega, by omega, by omega⟩
    have e1 : ((max (min 2 most) (1 + many0) : Nat) : Int) = max (min 2 (most : Int)) (1 + (many0 : Int)) := by omega
    have e2 : ((max 2 (1 + size0) : Nat) : Int) = max 2 (1 + (size0 : Int)) := by omega
    rw [e1, e2]
  . walk_at "s"
    refine ⟨1 + many0, 1 + size0, ?_, by omega, by omega, by omega, by omega, by omega⟩
    have e1 : ((1 + many0 : Nat) : Int) = (1 + (many0 : Int)) := by omega
    have e2 : ((1 + size0 : Nat) : Int) = (1 + (size0 : Int)) := by omega
    rw [e1, e2]
  rintro _ ⟨many, size, rfl, hm1, hmm, hs1, hss, hks⟩
  walk_at "s"
  refine (jM' h3 (by decide) (by simp; omega)).mono ?_
  rintro _ w4 ⟨r, t, rfl, hr, hperm, h4, b4⟩
  have hnd : r.Nodup := by
    have : (t ++ r).Nodup := hperm.nodup_iff.mpr (by decide)
    exact (List.nodup_append.mp this).2.1
  have hlen := qh' r
  have hlow : ∀ c ∈ b6' r, 97 <= c /\ c <= 122 := fun c hc => q7'.mp (hperm.mem_iff.mp (List.mem_append_right t ((hm' r).mem_iff.mp hc)))
  walk_at "s"
  refine (qv' h4 hs1 (by omega) hm1 (by omega) hks).mono ?_
  rintro _ w5 ⟨T, rfl, hT, h5, b5⟩
  walk_at "s"
  refine fa' (by simp; omega) (fun pre acc ρ => (∃ A : List Nat, acc = A.map (fun a => .int (a : Nat)) /\ A.Pairwise (· < ·) /\ ∀ a ∈ A, a < pre.length) /\ ∃ x w', ρ = ⟨[some (.fz (.obj n)), some (.fz (.int most)), some (.fz (.int states)), some (.fz (.int kind)), some (.fz (.int many)), some (.fz (.int size)), some (.fz (.str (b6' r))), some (.fz (dc' T)), none, x], w'⟩ /\ ch' w' n /\ But n w w') ⟨⟨[], rfl, by simp, by simp⟩, _, _, rfl, h5, ((((b1.trans b2).trans b3).trans b4).trans b5)⟩ ?_ ?_
  . rintro pre c post acc _ e ⟨⟨A, rfl, hp, hA⟩, x, w6, rfl, h6, b6⟩
    obtain ⟨rfl, hlt⟩ := kV' e
    walk_at "s"
    refine (bq' h6 (by omega) (by omega)).mono ?_
    rintro _ w7 ⟨d, rfl, hd, h7, b7⟩
    walk_at "s"
    refine aP' (fun hd => ?_) (fun hd => ?_)
    . walk_at "s"
      refine ⟨⟨A ++ [pre.length], by simp, ?_, ?_⟩, _, _, rfl, h7, b6.trans b7⟩
      . rw [List.pairwise_append]
        exact ⟨hp, by simp, by simpa using hA⟩
      . simp only [List.mem_append, List.mem_singleton, List.length_append, List.length_singleton]
        rintro a (ha | rfl)
        . have := hA a ha; omega
        . omega
    . exact ⟨⟨A, rfl, hp, fun a ha => by have := hA a ha; simp; omega⟩, _, _, rfl, h7, b6.trans b7⟩
  . rintro _ _ ⟨⟨A, rfl, hp, hA⟩, x, w6, rfl, h6, b6⟩
    rw [List.length_range] at hA
    walk_at "s"
    refine ⟨_, T, A, rfl, ⟨⟨by omega, by omega, sD' hnd, hlow⟩, ?_, by rw [hT.1]; exact hs1, by rw [hT.1]; exact hss, ⟨hp, by rw [hT.1]; exact hA⟩⟩⟩
    rw [hlen, hr, hT.1]
    exact hT
theorem fu' {α β : Type} (f : α -> D) (g : β -> D) : ∀ (a : List α) (b : List β), db' (a.map f) (b.map g) = (a.zip b).map fun p => .tup [f p.1, g p.2]
  | [], _ => by simp [db']
  | _ :: _, [] => by simp [db']
  | x :: a, y :: b => by simp [db', fu' f g a b]
theorem gK' : ∀ s : List Nat, s.Pairwise (· < ·) ↔ ∀ p ∈ s.zip (s.drop 1), p.1 < p.2
  | [] => by simp
  | [a] => by simp
  | a :: b :: r => by
    have ih := gK' (b :: r)
    simp only [List.drop_succ_cons, List.drop_zero, List.zip_cons_cons, List.mem_cons, forall_eq_or_imp] at ih ⊢
    rw [List.pairwise_cons, <- ih]
    constructor
    . rintro ⟨h1, h2⟩
      exact ⟨h1 b (by simp), h2⟩
    . rintro ⟨h1, h2⟩
      refine ⟨?_, h2⟩
      rw [List.pairwise_cons] at h2
      intro c hc
      rcases List.mem_cons.mp hc with rfl | hc
      . exact h1
      . exact Nat.lt_trans h1 (h2.1 c hc)
theorem b9' (s S : Tx) (w : W) : wF (f_is_string_of [.str s, .str S] w) (fun o w' => o = .fz (.bl (s.all fun c => decide (c ∈ S))) /\ w' = w) FX := by
  unfold f_is_string_of
  walk_at "f"
  refine bF' (fun pre ρ => ∃ x, ρ = ⟨[some (.fz (.str s)), some (.fz (.str S)), x], w⟩ /\ ∀ c ∈ pre, c ∈ S) ⟨_, rfl, by simp⟩ ?_ ?_
  . rintro pre c post _ e ⟨x, rfl, hp⟩
    walk_at "s"
    refine aP' (fun h => ?_) (fun h => ?_)
    . walk_at "s"
      exact ⟨_, rfl, by simpa [or_imp, forall_and] using ⟨hp, h⟩⟩
    . walk_at "s"
      refine AG' ?_
      rw [List.all_eq_false]
      exact ⟨c, by simp, by simpa using h⟩
  . rintro _ ⟨x, rfl, hp⟩
    walk_at "s"
    refine AF' ?_
    rw [List.all_eq_true]
    exact fun c hc => by simpa using hp c hc
theorem dp' {d : D} (h : ∃ t, tyn d = some t /\ t ≠ "str") (S : Tx) (w : W) : wF (f_is_string_of [d, .str S] w) (fun o w' => o = .fz (.bl false) /\ w' = w) FX := by
  unfold f_is_string_of
  cases d <;> simp [tyn] at h
  all_goals walk_at "f"
theorem eP' (s : Tx) (w : W) : wF (f_is_ascending [.str s] w) (fun o w' => o = .fz (.bl (decide (s.Pairwise (· < ·)))) /\ w' = w) FX := by
  unfold f_is_ascending
  walk_at "f"
  rw [fu']
  refine bF' (fun pre ρ => ∃ x y, ρ = ⟨[some (.fz (.str s)), x, y], w⟩ /\ ∀ p ∈ pre, p.1 < p.2) ⟨_, _, rfl, by simp⟩ ?_ ?_
  . rintro pre c post _ e ⟨x, y, rfl, hp⟩
    walk_at "s"
    refine aP' (fun h => ?_) (fun h => ?_)
    . walk_at "s"
      refine ⟨_, _, rfl, ?_⟩
      have : c.1 < c.2 := by simpa [List.cons_lt_cons_iff] using h
      simp only [List.mem_append, List.mem_singleton]
      rintro p (hq | rfl)
      . exact hp p hq
      . exact this
    . walk_at "s"
      refine AG' ?_
      rw [decide_eq_false_iff_not, gK']
      intro h2
      have := h2 c (by rw [e]; simp)
      exact h (by simpa [List.cons_lt_cons_iff] using this)
  . rintro _ ⟨x, y, rfl, hp⟩
    walk_at "s"
    refine AF' ?_
    rw [decide_eq_true_iff, gK']
    exact hp
theorem gT' (s S : Tx) (w : W) : wF (f_is_choice [.str s, .str S] w) (fun o w' => o = .fz (.bl ((s.all fun c => decide (c ∈ S)) && decide (s.Pairwise (· < ·)))) /\ w' = w) FX := by
  unfold f_is_choice
  walk_at "f"
  refine (b9' s S w).mono ?_
  rintro _ _ ⟨rfl, rfl⟩
  walk_at "s"
  refine vq' (fun h => ?_) (fun h => ?_)
  . walk_at "s"
    refine (eP' s _).mono ?_
    rintro _ _ ⟨rfl, rfl⟩
    walk_at "s"
  . walk_at "s"
theorem gx' (i : Int) (w : W) : wF (f_is_integer [.int i] w) (fun o w' => o = .fz (.bl true) /\ w' = w) FX := by
  unfold f_is_integer
  walk_at "f"
theorem ft' (A : List Nat) (w : W) : wF (f_is_ascending [dB' A] w) (fun o w' => o = .fz (.bl (decide (A.Pairwise (· < ·)))) /\ w' = w) FX := by
  unfold f_is_ascending dB'
  walk_at "f"
  have e0 : (A.map fun a => D.int (a : Nat)).drop 1 = (A.drop 1).map fun a => D.int (a : Nat) := by rw [List.map_drop]
  rw [e0, fu']
  refine bF' (fun pre ρ => ∃ x y, ρ = ⟨[some (.fz (.tup (A.map fun a => .int (a : Nat)))), x, y], w⟩ /\ ∀ p ∈ pre, p.1 < p.2) ⟨_, _, rfl, by simp⟩ ?_ ?_
  . rintro pre c post _ e ⟨x, y, rfl, hp⟩
    walk_at "s"
    refine aP' (fun h => ?_) (fun h => ?_)
    . walk_at "s"
      refine AG' ?_
      rw [decide_eq_false_iff_not, gK']
      intro h2
      have := h2 c (by rw [e]; simp)
      omega
    . walk_at "s"
      refine ⟨_, _, rfl, ?_⟩
      simp only [List.mem_append, List.mem_singleton]
      rintro p (hq | rfl)
      . exact hp p hq
      . omega
  . rintro _ ⟨x, y, rfl, hp⟩
    walk_at "s"
    refine AF' ?_
    rw [decide_eq_true_iff, gK']
    exact hp
theorem dA' (A : List Nat) (m : Nat) (w : W) : wF (f_are_states [dB' A, .int m] w) (fun o w' => o = .fz (.bl (A.all fun a => decide (a < m))) /\ w' = w) FX := by
  unfold f_are_states dB'
  walk_at "f"
  refine bF' (fun pre ρ => ∃ x, ρ = ⟨[some (.fz (.tup (A.map fun a => .int (a : Nat)))), some (.fz (.int m)), x], w⟩ /\ ∀ a ∈ pre, a < m) ⟨_, rfl, by simp⟩ ?_ ?_
  . rintro pre c post _ e ⟨x, rfl, hp⟩
    walk_at "s"
    refine (gx' _ _).mono ?_
    rintro _ _ ⟨rfl, rfl⟩
    walk_at "s"
    refine aP' (fun h => ?_) (fun h => ?_)
    . walk_at "s"
      refine AG' ?_
      rw [List.all_eq_false]
      exact ⟨c, by simp, by simp; omega⟩
    . walk_at "s"
      exact ⟨_, rfl, by simpa [or_imp, forall_and] using ⟨hp, by omega⟩⟩
  . rintro _ ⟨x, rfl, hp⟩
    walk_at "s"
    refine AF' ?_
    rw [List.all_eq_true]
    exact fun c hc => by simpa using hp c hc
theorem iw' {T : List (List Nat)} {L : Tx} (h : bf' T T.length L.length) (h1 : 1 <= T.length) (h2 : T.length <= 6) (w : W) : wF (f_is_table [dc' T, .str L] w) (fun o w' => o = .fz (.bl true) /\ w' = w) FX := by
  unfold f_is_table dc'
  walk_at "f"
  refine bF' (fun pre ρ => ∃ x, ρ = ⟨[some (.fz (.tup (T.map d7'))), some (.fz (.str L)), x], w⟩) ⟨_, rfl⟩ ?_ ?_
  . rintro pre c post _ e ⟨x, rfl⟩
    have hc := h.2 c (by rw [e]; simp)
    clear e
    walk_at "s"
    refine (dA' c T.length w).mono ?_
    rintro _ _ ⟨rfl, rfl⟩
    have e2 : (c.all fun a => decide (a < T.length)) = true := by rw [List.all_eq_true]; exact fun a ha => by simpa using hc.2 a ha
    have e3 := hc.1
    clear hc
    rw [e2]
    unfold d7'
    walk_at "s"
    exact ⟨_, rfl⟩
  . rintro _ ⟨x, rfl⟩
    walk_at "s"
def eB (b : Bool) : D := .bl b
theorem Dw' : KeyE eB := ⟨fun a b => by cases a <;> cases b <;> rfl, fun _ => rfl, fun _ => by show dep (.bl _) <= 8; simp [dep], fun _ _ => rfl⟩
def eK (k : Nat × List Nat) : D := .tup [.int (k.1 : Nat), .tup (k.2.map fun t => .int (t : Nat))]
theorem j0' : ∀ a b : List Nat, eqbs (a.map fun t => .int (t : Nat)) (b.map fun t => .int (t : Nat)) = decide (a = b)
  | [], [] => rfl
  | [], _ :: _ => rfl
  | _ :: _, [] => rfl
  | a :: l, b :: r => by
    simp only [List.map_cons, eqbs, eR', j0' l r]
    rw [Bool.eq_iff_iff]
    simp
theorem Dv' : KeyE eK := by
  refine ⟨fun a b => ?_, fun a => ?_, fun a => ?_, fun _ _ => rfl⟩
  . obtain ⟨a1, a2⟩ := a
    obtain ⟨b1, b2⟩ := b
    simp only [eK, eqb, eqbs, j0', Bool.and_true]
    rw [Bool.eq_iff_iff]
    simp
    omega
  . have : ∀ l : List Nat, kats (l.map fun t => .int (t : Nat)) = true := by intro l; induction l <;> simp_all [kats, kat]
    simp [eK, kat, kats, this]
  . have : ∀ l : List Nat, deps (l.map fun t => .int (t : Nat)) <= 1 := by intro l; induction l <;> simp_all [deps, dep]
    have := this a.2
    simp only [eK, dep, deps]
    omega
theorem el' {γ : Type} [DecidableEq γ] {e : γ -> D} (he : KeyE e) (S : List Nat) (f : Nat -> γ) (hS : S.Nodup) (hl : S.length <= 1000) (w : W) : wF (f_numbered [dNz (S.map fun s => (s, e (f s)))] w) (fun o w' => o = dN (S.map fun s => (s, .int (nr' S f s : Nat))) /\ w' = w) FX := by
  unfold f_numbered
  walk_at "f"
  have pairs : ∀ G : List γ, G.Nodup -> ∀ k : γ, (G.map fun a => (a, D.int (G.idxOf a : Nat))).lookup k = if k ∈ G then some (D.int (G.idxOf k : Nat)) else none := by
    intro G _ k
    have go : ∀ (l : List γ) (h : γ -> D), (l.map fun a => (a, h a)).lookup k = if k ∈ l then some (h k) else none := by
      intro l h
      induction l with
      | nil => rfl
      | cons a l ih =>
        rw [List.map_cons, List.lookup_cons, ih]
        by_cases q : k = a
        . subst q; simp
        . have : (k == a) = false := by simpa using q
          simp [this, q]
    exact go G _
  rw [List.map_map]
  refine bF' (fun pre ρ => ∃ y z, ρ = ⟨[some (.fz (dNz (S.map fun s => (s, e (f s))))), some (dX e ((aQ' (pre.map f)).map fun a => (a, .int ((aQ' (pre.map f)).idxOf a : Nat)))), some (dN (pre.map fun s => (s, .int ((aQ' (S.map f)).idxOf (f s) : Nat)))), y, z], w⟩) ⟨_, _, rfl⟩ ?_ ?_
  . rintro pre s post _ es ⟨y, z, rfl⟩
    rw [List.map_append, List.map_cons, List.map_nil, cr']
    show wD (gT [3, 4] (.tup [.int (s : Nat), e (f s)]) _) _
    -- numbers found once stay
    have keep : (aQ' (pre.map f ++ [f s])) <+: aQ' (S.map f) := by
      have e2 : aQ' (S.map f) = cC' (aQ' (pre.map f ++ [f s])) (post.map f) := by
        rw [es, List.map_append, List.map_cons, show pre.map f ++ f s :: post.map f = (pre.map f ++ [f s]) ++ post.map f by simp]
        exact d2'
      rw [e2]
      exact eg'
    rw [cr'] at keep
    have hnd : (aQ' (pre.map f)).Nodup := k8'
    have hlk := pairs _ hnd (f s)
    have hlen : pre.length < 1000 := by
      have := congrArg List.length es
      simp at this
      omega
    have hlen2 : (aQ' (pre.map f)).length <= pre.length := by
      have h2 := List.Nodup.length_le_of_subset hnd (l₂ := pre.map f) (fun a ha => a0'.mp ha)
      simpa using h2
    have hfr : ((pre.map fun s => (s, D.int ((aQ' (S.map f)).idxOf (f s) : Nat))).lookup s) = none := by
      refine ct' _ _ ?_
      rw [List.map_map]
      intro hm
      rw [es] at hS
      obtain ⟨s', hs', e'⟩ := List.mem_map.mp hm
      have : s' = s := e'
      exact (List.nodup_append.mp hS).2.2 s' hs' s (by simp) this
    have hl3 : (pre.map fun s => (s, D.int ((aQ' (S.map f)).idxOf (f s) : Nat))).length < 16777216 := by rw [List.length_map]; omega
    by_cases hm : f s ∈ aQ' (pre.map f)
    . rw [if_pos hm] at hlk
      rw [c6' hm] at keep ⊢
      have hx := gs' he ((aQ' (pre.map f)).map fun a => (a, D.int ((aQ' (pre.map f)).idxOf a : Nat))) (f s)
      rw [hlk] at hx
      have hid : (aQ' (S.map f)).idxOf (f s) = (aQ' (pre.map f)).idxOf (f s) := by
        obtain ⟨G, eG⟩ := keep
        rw [<- eG, List.idxOf_append, if_pos hm]
      clear es keep
      walk_at "s"
      exact ⟨_, _, by rw [List.map_append, List.map_cons, List.map_nil, hid]⟩
    . rw [if_neg hm] at hlk
      rw [cI' hm] at keep ⊢
      have hx := gs' he ((aQ' (pre.map f)).map fun a => (a, D.int ((aQ' (pre.map f)).idxOf a : Nat))) (f s)
      rw [hlk] at hx
      have hp := fun d => qN' he (l := (aQ' (pre.map f)).map fun a => (a, D.int ((aQ' (pre.map f)).idxOf a : Nat))) (k := f s) hlk (by rw [List.length_map]; omega) d
      have hx2 := fun d => gs' he (((aQ' (pre.map f)).map fun a => (a, D.int ((aQ' (pre.map f)).idxOf a : Nat))) ++ [(f s, d)]) (f s)
      have hl4 : ∀ d : D, (((aQ' (pre.map f)).map fun a => (a, D.int ((aQ' (pre.map f)).idxOf a : Nat))) ++ [(f s, d)]).lookup (f s) = some d := by
        intro d
        rw [List.lookup_append, hlk]
        simp
      simp only [hl4] at hx2
      have hid : (aQ' (S.map f)).idxOf (f s) = (aQ' (pre.map f)).length := by
        obtain ⟨G, eG⟩ := keep
        rw [<- eG, List.idxOf_append, if_pos (by simp), List.idxOf_append, if_neg hm]
        simp
      have hnew : (aQ' (pre.map f) ++ [f s]).map (fun a => (a, D.int ((aQ' (pre.map f) ++ [f s]).idxOf a : Nat))) = ((aQ' (pre.map f)).map fun a => (a, D.int ((aQ' (pre.map f)).idxOf a : Nat))) ++ [(f s, D.int ((aQ' (pre.map f)).length : Nat))] := by
        rw [List.map_append]
        congr 1
        . refine List.map_congr_left fun a ha => ?_
          rw [List.idxOf_append, if_pos ha]
        . simp [List.idxOf_append, hm]
      rw [hnew]
      clear es keep hnew hl4
      walk_at "s"
      exact ⟨_, _, by rw [List.map_append, List.map_cons, List.map_nil, hid]⟩
  . rintro _ ⟨y, z, rfl⟩
    walk_at "s"
    rfl
theorem q8' : ∀ {l : List Int} {x : Int}, x ∈ l -> x <= nv' l
  | [], _, h => by cases h
  | [y], x, h => by
    rw [List.mem_singleton.mp h]
    show y <= y
    omega
  | y :: z :: r, x, h => by
    show x <= max y (nv' (z :: r))
    rcases List.mem_cons.mp h with rfl | h
    . omega
    . have := q8' h
      omega
theorem nu' : ∀ {l : List Int}, l ≠ [] -> nv' l ∈ l
  | [], h => absurd rfl h
  | [y], _ => by show y ∈ [y]; simp
  | y :: z :: r, _ => by
    show max y (nv' (z :: r)) ∈ _
    have := nu' (l := z :: r) (by simp)
    rcases Int.le_total y (nv' (z :: r)) with h | h
    . rw [Int.max_eq_right h]; exact List.mem_cons_of_mem _ this
    . rw [Int.max_eq_left h]; simp
theorem tc' {S : List Nat} {c : Nat -> Nat} {k : Nat} (h : aQ' (S.map c) = List.range k) (hS : S ≠ []) : nv' (S.map fun s => ((c s : Nat) : Int)) = (k : Int) - 1 := by
  have mem : ∀ q, q ∈ S.map c ↔ q < k := fun q => by rw [<- a0', h, List.mem_range]
  obtain ⟨s, hs⟩ := List.exists_mem_of_ne_nil S hS
  have k1 : c s < k := (mem _).mp (List.mem_map.mpr ⟨s, hs, rfl⟩)
  have h1 : ((k : Int) - 1) ∈ S.map fun s => ((c s : Nat) : Int) := by
    obtain ⟨t, ht, e⟩ := List.mem_map.mp ((mem (k - 1)).mpr (by omega))
    exact List.mem_map.mpr ⟨t, ht, by omega⟩
  have h2 := q8' h1
  have h3 := nu' (l := S.map fun s => ((c s : Nat) : Int)) (by simpa using hS)
  obtain ⟨t, ht, e⟩ := List.mem_map.mp h3
  have := (mem (c t)).mp (List.mem_map.mpr ⟨t, ht, rfl⟩)
  have e : ((c t : Nat) : Int) = nv' (S.map fun s => ((c s : Nat) : Int)) := e
  omega
theorem oQ' {w : W} {m : Nat} {L : Tx} {T : List (List Nat)} {A S : List Nat} (ht : gz' ["Machine", "RawMachine"] "kept_table" w (.obj m) = some (dc' T)) (ha : gz' ["Machine", "RawMachine"] "kept_accepts" w (.obj m) = some (dB' A))
    (hT : bf' T T.length L.length) (hL : L.Nodup) (hLl : L.length <= 1000) (hn2 : T.length <= 1000) (hS : ∀ s ∈ S, s < T.length) (hcl : ∀ s ∈ S, ∀ t ∈ aH' T s, t ∈ S) (hnd : S.Nodup) (hne : S ≠ []) :
    wF (f_alike_states [.obj m, .lst (S.map fun s => .int (s : Nat))] w) (fun o w' => (∃ c k, Clz L T A S c k /\ (∀ s ∈ S, ∀ t ∈ S, c s = c t -> key T c s = key T c t) /\ o = .fz (dNz (S.map fun s => (s, .int (c s : Nat))))) /\ w' = w) FX := by
  have hlen : S.length <= T.length := q3' hnd hS
  unfold f_alike_states
  walk_at "f"
  refine uV' (fun s : Nat => s) (fun s => eB (decide (s ∈ A))) (by omega) (by simpa using hnd) ?_ ?_
  . intro s hs
    walk_at "s"
    rfl
  walk_at "l"
  walk_at "s"
  rw [oE' (fun s : Nat => s) (fun s => eB (decide (s ∈ A)))]
  refine (el' Dw' S (fun s => decide (s ∈ A)) hnd (by omega) w).mono ?_
  rintro _ _ ⟨rfl, rfl⟩
  walk_at "s"
  rename_i w
  have n0 : S.map (fun s => ((s : Nat) : Int)) ≠ [] := by simpa using hne
  refine ea' (fun mm ρ => ∃ many c k y z z2 o, mm = T.length + 1 - many /\ Clz L T A S c k /\ (many = 0 \/ ∃ c1, Clz L T A S c1 many /\ c = nr' S (key T c1) /\ k = (aQ' (S.map (key T c1))).length) ∧
      (o = dN (S.map fun s => (s, .int (c s : Nat))) \/ o = .fz (dNz (S.map fun s => (s, .int (c s : Nat))))) /\ ρ = ⟨[some (.fz (.obj m)), some (.fz (.lst (S.map fun s => .int (s : Nat)))), some o, some (.fz (.int (many : Nat))), y, z, z2], w⟩)
    (T.length + 1) (by show T.length + 1 < 2 ^ 40; omega) ⟨0, _, _, _, _, _, _, rfl, Clz.first, .inl rfl, .inl rfl, rfl⟩ ?_
  rintro mm _ ⟨many, c, k, y, z, z2, o, rfl, hc, hm, ho, rfl⟩
  have hmx := tc' hc.num hne
  have kle : k <= T.length := by
    have h1 := b7' c S
    rw [hc.num, List.length_range, dI' hnd] at h1
    omega
  have hmv : ∀ P : D -> Prop, wD (ot' (dNz (S.map fun s => (s, D.int (c s : Nat))))) P = P (.int ((k : Int) - 1)) := fun P => by
    have := zO' (P := P) (fun s : Nat => s) (fun s : Nat => ((c s : Nat) : Int)) S hne
    rw [hmx] at this
    exact this
  have hlk : ∀ s ∈ S, (S.map fun s => (s, D.int (c s : Nat))).lookup s = some (.int (c s : Nat)) := fun s hs => by rw [b8' (fun s => D.int (c s : Nat)), if_pos hs]
  clear ha
  rcases ho with rfl | rfl
  all_goals
    walk_at "s"
    refine aP' (fun h => ?_) (fun h => ?_)
    . have hpush : (k : Int) - 1 + 1 = ((k : Nat) : Int) := by omega
      walk_at "s"
      refine bF' (fun pre ρ => ∃ y z2, ρ = ⟨[some (.fz (.obj m)), some (.fz (.lst (S.map fun s => .int (s : Nat)))), some (.fz (dNz (S.map fun s => (s, .int (c s : Nat))))), some (.fz (.int (k : Nat))), some (dN (pre.map fun s => (s, eK (key T c s)))), y, z2], w⟩) ⟨_, _, rfl⟩ ?_ ?_
      . rintro pre s post _ e ⟨y, z2, rfl⟩
        have hs : s ∈ S := by rw [e]; simp
        have hl1 := hlk s hs
        have hrow := dF' hT (hS s hs)
        have hfr : (pre.map fun s => (s, eK (key T c s))).lookup s = none := by
          refine ct' _ _ ?_
          rw [List.map_map]
          intro hm
          rw [e] at hnd
          obtain ⟨s', hs', e'⟩ := List.mem_map.mp hm
          have : s' = s := e'
          exact (List.nodup_append.mp hnd).2.2 s' hs' s (by simp) this
        have hl3 : (pre.map fun s => (s, eK (key T c s))).length < 16777216 := by
          have := congrArg List.length e
          rw [List.length_map]
          simp at this
          omega
        clear e
        walk_at "s"
        refine hG' (fun t : Nat => D.int (c t : Nat)) (by have := cH' hT (hS s hs); omega) ?_ ?_
        . intro t htr
          have hl2 := hlk t (hcl s hs t htr)
          walk_at "s"
        walk_at "l"
        walk_at "s"
        exact ⟨_, _, by rw [List.map_append, List.map_cons, List.map_nil]; simp only [eK, key, List.map_map]; rfl⟩
      . rintro _ ⟨y, z2, rfl⟩
        walk_at "s"
        refine (el' Dv' S (key T c) hnd (by omega) w).mono ?_
        rintro _ _ ⟨rfl, rfl⟩
        walk_at "s"
        exact ⟨T.length + 1 - k, by omega, k, nr' S (key T c), _, _, _, _, _, rfl, hc.next hT hL hS hcl, .inr ⟨c, hc, rfl, rfl⟩, .inl rfl, rfl⟩
    . have hk0 : 0 < k := by
        obtain ⟨s, hs⟩ := List.exists_mem_of_ne_nil S hne
        have := hc.lt hs
        omega
      rcases hm with hm | ⟨c1, h1, e1, e2⟩
      . omega
      . have hst := h1.stable (by omega)
        have hsm := h1.same (by omega)
        walk_at "s"
        refine ⟨c1, many, h1, hst, ?_⟩
        congr 2
        refine List.map_congr_left fun s hs => ?_
        rw [hsm s hs]
theorem jt' {w : W} {m : Nat} {T : List (List Nat)} {n : Nat} (ht : gz' ["Machine", "RawMachine"] "kept_table" w (.obj m) = some (dc' T)) (hT : bf' T T.length n) (hn : 1 <= T.length) (hn2 : T.length <= 1000) : wF (f_reached [.obj m] w) (fun o w' => o = .lst ((reach T).map fun s => .fz (.int (s : Nat))) /\ w' = w) FX := by
  unfold f_reached
  walk_at "f"
  refine ea' (fun mm ρ => ∃ j, mm = T.length + 1 - j /\ j <= (bfs T j).length /\ ∃ y, ρ = ⟨[some (.fz (.obj m)), some (.lst ((bfs T j).map fun s => .fz (.int (s : Nat)))), some (dN ((bfs T j).map fun s => (s, .bl true))), some (.fz (.int (j : Nat))), y], w⟩) (T.length + 1) (by show T.length + 1 < 2 ^ 40; omega) ⟨0, by simp, by simp, _, rfl⟩ ?_
  rintro mm _ ⟨j, rfl, hj, y, rfl⟩
  walk_at "s"
  refine aP' (fun h => ?_) (fun h => ?_)
  . have hj2 : j < (bfs T j).length := by omega
    have hs : (bfs T j)[j]? = some (bfs T j)[j] := List.getElem?_eq_getElem hj2
    generalize (bfs T j)[j] = s at hs
    have hsl : s < T.length := n1' hT hn (List.mem_of_getElem? hs)
    have hrow := dF' hT hsl
    have hlen := c4' hT hn j
    walk_at "s"
    refine bF' (fun pre ρ => ∃ y, ρ = ⟨[some (.fz (.obj m)), some (.lst ((cC' (bfs T j) pre).map fun s => .fz (.int (s : Nat)))), some (dN ((cC' (bfs T j) pre).map fun s => (s, .bl true))), some (.fz (.int (j : Nat))), y], w⟩) ⟨_, rfl⟩ ?_ ?_
    . rintro pre t post _ e ⟨y, rfl⟩
      have hl2 : (cC' (bfs T j) pre).length <= T.length := q3' (eM' (ko' j)) fun x hx => (cB'.mp hx).elim (fun q => n1' hT hn q) fun q => hu' hT (s := s) (by rw [e]; simp [q])
      have hlk := b8' (fun _ => D.bl true) t (cC' (bfs T j) pre)
      have hlL : ((cC' (bfs T j) pre).map fun s => (s, D.bl true)).length < 16777216 := by rw [List.length_map]; omega
      rw [jY']
      clear e hs hrow
      by_cases hm : t ∈ cC' (bfs T j) pre
      . rw [if_pos hm] at hlk
        rw [c6' hm]
        walk_at "s"
        exact ⟨_, rfl⟩
      . rw [if_neg hm] at hlk
        rw [cI' hm]
        walk_at "s"
        exact ⟨some (.fz (.int (t : Nat))), by simp⟩
    . rintro _ ⟨y, rfl⟩
      walk_at "s"
      rw [<- kp' hs]
      refine ⟨T.length + 1 - (j + 1), by omega, j + 1, rfl, ?_, _, rfl⟩
      have := (rU' (T := T) (j := j)).length_le
      omega
  . have e : bfs T j = reach T := ih' hT hn (by omega)
    rw [e]
    walk_at "s"
def mkM (C : String) (L : Tx) (T : List (List Nat)) (A : List Nat) (l : D) (rest : List (String × O)) : Ob :=
  .ins C (("kept_letters", .fz (.str L)) :: ("kept_table", .fz (dc' T)) :: ("kept_accepts", .fz (dB' A)) :: ("kept_least", .fz l) :: rest)
abbrev cO' : List (String × O) := [("kept_field", .fz .non), ("kept_lots", .dct [] []), ("kept_more", .dct [] [])]
structure McAt (w : W) (m : Nat) (L : Tx) (T : List (List Nat)) (A : List Nat) (l : D) : Prop where
  fl : gz' ["Machine", "RawMachine"] "kept_letters" w (.obj m) = some (.str L)
  ft : gz' ["Machine", "RawMachine"] "kept_table" w (.obj m) = some (dc' T)
  fa : gz' ["Machine", "RawMachine"] "kept_accepts" w (.obj m) = some (dB' A)
  fk : gz' ["Machine", "RawMachine"] "kept_least" w (.obj m) = some l
theorem McAt.of {w : W} {m : Nat} {C : String} {L T A l rest} (h : w[m]? = some (mkM C L T A l rest)) (hC : C = "Machine" \/ C = "RawMachine") : McAt w m L T A l := by
  refine ⟨?_, ?_, ?_, ?_⟩
  all_goals rcases hC with rfl | rfl
  all_goals simp [gz', h, mkM, List.lookup]
theorem nB' {w : W} {m : Nat} {C : String} {L : Tx} {T : List (List Nat)} {A : List Nat} (h : w[m]? = some (.ins C [])) (hC : C = "Machine" \/ C = "RawMachine") : wF (f_Machine_keep [.obj m, .str L, dc' T, dB' A] w) (fun o w' => o = .fz .non /\ w' = w.set m (mkM C L T A .non cO')) FX := by
  have hm := bp' h
  have hC1 : C ∈ ["Machine", "RawMachine"] := by rcases hC with rfl | rfl <;> simp
  unfold f_Machine_keep
  walk_at "f"
  rfl
theorem nd' {w : W} {m : Nat} {L : Tx} {T : List (List Nat)} {A : List Nat} (h : w[m]? = some (.ins "RawMachine" [])) : wF (f_RawMachine___init__ [.obj m, .str L, dc' T, dB' A] w) (fun o w' => o = .fz .non /\ w' = w.set m (mkM "RawMachine" L T A .non cO')) FX := by
  unfold f_RawMachine___init__
  walk_at "f"
  refine ⟨by simp [jW', h], ?_⟩
  refine (nB' h (.inr rfl)).mono ?_
  rintro _ _ ⟨rfl, rfl⟩
  walk_at "s"
theorem x5' {cs : List String} {f : String} {o : O} {w : W} {n : Nat} {C : String} {fs : List (String × O)} (h : w[n]? = some (.ins C fs)) (hc : C ∈ cs) (hl : fs.length < 1000) : stF cs f o w (.obj n) = some (w.set n (.ins C (qP' f o fs))) := by
  simp only [stF, h]
  exact if_pos ⟨hc, hl⟩
theorem jk' {cs : List String} {w : W} {n : Nat} {C : String} {L T A} {l d : D} {rest : List (String × O)} (h : w[n]? = some (mkM C L T A l rest)) (hc : C ∈ cs) (hl : rest.length <= 100) : stF cs "kept_least" (.fz d) w (.obj n) = some (w.set n (mkM C L T A d rest)) := by
  rw [x5' h hc (by simp; omega)]
  rfl
theorem kO' (k : Nat) : fX' ((List.range k).map fun q => ((q : Nat) : Int)) = (List.range k).map fun q => ((q : Nat) : Int) := by
  unfold fX'
  refine List.mergeSort_of_pairwise ?_
  rw [List.pairwise_map]
  refine List.Pairwise.imp (fun {a b} h => ?_) List.pairwise_lt_range
  simp
  omega
theorem oy' {w : W} {m : Nat} {C : String} {L : Tx} {T : List (List Nat)} {A : List Nat} {rest : List (String × O)} (h : w[m]? = some (mkM C L T A .non rest)) (hC : C = "Machine" \/ C = "RawMachine") (hr : rest.length <= 100)
    (hT : bf' T T.length L.length) (hL : L.Nodup) (hLl : L.length <= 1000) (hn : 1 <= T.length) (hn2 : T.length <= 1000) :
    wF (f_least [.obj m] w) (fun o w' => ∃ c T' A', IsLeast L T A c T' A' /\ o = .fz (.obj w.length) /\ w' = w.set m (mkM C L T A (.obj w.length) rest) ++ [mkM "RawMachine" L T' A' (.obj w.length) cO']) FX := by
  have hM := McAt.of h hC
  have h1 := hM.fl
  have h2 := hM.ft
  have h3 := hM.fa
  have h4 := hM.fk
  unfold f_least
  walk_at "f"
  refine (jt' h2 hT hn (by omega)).mono ?_
  rintro _ _ ⟨rfl, rfl⟩
  walk_at "s"
  have hS : ∀ s ∈ reach T, s < T.length := fun s hs => ij' hT hn hs
  have hcl : ∀ s ∈ reach T, ∀ t ∈ aH' T s, t ∈ reach T := fun s hs t ht => dk' hT hn hs ht
  have efr : frzs ((reach T).map fun s => O.fz (D.int (s : Nat))) = (reach T).map fun s => D.int (s : Nat) := by
    rw [iz', List.map_map]; rfl
  rw [efr]
  refine (oQ' h2 h3 hT hL hLl (by omega) hS hcl ii' (fun e => by have := eI' (T := T); rw [e] at this; cases this)).mono ?_
  rintro _ _ ⟨⟨c, k, hc, hst, rfl⟩, rfl⟩
  rename_i w
  have hlk : ∀ s ∈ reach T, ((reach T).map fun s => (s, D.int (c s : Nat))).lookup s = some (.int (c s : Nat)) := fun s hs => by rw [b8' (fun s => D.int (c s : Nat)), if_pos hs]
  have kle : k <= T.length := by
    have h1 := b7' c (reach T)
    rw [hc.num, List.length_range, dI' ii'] at h1
    exact Nat.le_trans h1 (c4' hT hn _)
  walk_at "s"
  refine bF' (fun pre ρ => ∃ y, ρ = ⟨[some (.fz (.obj m)), some (.fz (.lst ((reach T).map fun s => .int (s : Nat)))), some (.fz (dNz ((reach T).map fun s => (s, .int (c s : Nat))))), some (dN ((aQ' (pre.map c)).map fun q => (q, .int (bY' pre c q : Nat)))), y, none, none, none, none], w⟩) ⟨_, rfl⟩ ?_ ?_
  . rintro pre s post _ e ⟨y, rfl⟩
    have hs : s ∈ reach T := by rw [e]; simp
    have hl1 := hlk s hs
    have hlen : ((aQ' (pre.map c)).map fun q => (q, D.int (bY' pre c q : Nat))).length < 16777216 := by
      have h1 := b7' c pre
      have h5 := congrArg List.length e
      have h6 := c4' hT hn T.length
      have h7 := List.Nodup.length_le_of_subset (k8' (xs := pre)) (l₂ := pre) (fun a ha => a0'.mp ha)
      simp only [List.length_append, List.length_cons] at h5
      unfold reach at h5
      rw [List.length_map]
      omega
    have hlf := b8' (fun q => D.int (bY' pre c q : Nat)) (c s) (aQ' (pre.map c))
    clear e
    rw [List.map_append, List.map_cons, List.map_nil, cr']
    have hold : (aQ' (pre.map c)).map (fun q => (q, D.int (bY' (pre ++ [s]) c q : Nat))) = (aQ' (pre.map c)).map fun q => (q, D.int (bY' pre c q : Nat)) := List.map_congr_left fun q hq => by rw [rD' (a0'.mp hq)]
    walk_at "s"
    rw [wT' hlen, hlf]
    by_cases hm : c s ∈ aQ' (pre.map c)
    . rw [if_pos hm, c6' hm]
      refine ⟨some (.fz (.int (s : Nat))), ?_⟩
      rw [hold]
    . rw [if_neg hm, cI' hm]
      refine ⟨some (.fz (.int (s : Nat))), ?_⟩
      rw [List.map_append, hold, List.map_cons, List.map_nil, rE' fun q => hm (a0'.mpr q)]
  rintro _ ⟨y, rfl⟩
  rw [hc.num]
  have hlf : ∀ q < k, ((List.range k).map fun q => (q, D.int (bY' (reach T) c q : Nat))).lookup q = some (.int (bY' (reach T) c q : Nat)) := fun q hq => by rw [b8' (fun q => D.int (bY' (reach T) c q : Nat)), if_pos (List.mem_range.mpr hq)]
  have hsk : ∀ P : D -> Prop, wD (cX' (dNz ((List.range k).map fun q => (q, D.int (bY' (reach T) c q : Nat))))) P = P (.lst ((List.range k).map fun q => .int (q : Nat))) := fun P => by
    rw [rM' _ (by simp; omega), List.map_map]
    have := kO' k
    rw [show ((fun p : Nat × D => (p.1 : Int)) ∘ fun q => (q, D.int (bY' (reach T) c q : Nat))) = fun q => ((q : Nat) : Int) from rfl, this, List.map_map]
    rfl
  have hfst : ∀ q < k, bY' (reach T) c q ∈ reach T := by
    intro q hq
    have : q ∈ aQ' ((reach T).map c) := by rw [hc.num]; exact List.mem_range.mpr hq
    obtain ⟨s, hs, e⟩ := List.mem_map.mp (a0'.mp this)
    unfold bY'
    cases f : (reach T).find? fun s => decide (c s = q) with
    | none =>
      have := List.find?_eq_none.mp f s hs
      simp [e] at this
    | some t => exact List.mem_of_find?_eq_some f
  walk_at "s"
  refine bF' (fun pre ρ => ∃ z z2, ρ = ⟨[some (.fz (.obj m)), some (.fz (.lst ((reach T).map fun s => .int (s : Nat)))), some (.fz (dNz ((reach T).map fun s => (s, .int (c s : Nat))))), some (.fz (dNz ((List.range k).map fun q => (q, .int (bY' (reach T) c q : Nat))))), y, some (.lst (pre.map fun q => .fz (d7' ((aH' T (bY' (reach T) c q)).map c)))), z, none, z2], w⟩) ⟨_, _, rfl⟩ ?_ ?_
  . rintro pre q post _ e ⟨z, z2, rfl⟩
    have hq : q < k := List.mem_range.mp (by rw [e]; simp)
    have hl1 := hlf q hq
    have hf := hfst q hq
    have hrow := dF' hT (hS _ hf)
    have hlen : pre.length < 16777216 := by
      have h5 := congrArg List.length e
      simp only [List.length_append, List.length_cons, List.length_range] at h5
      omega
    clear e
    walk_at "s"
    refine hG' (fun t : Nat => D.int (c t : Nat)) (by have := cH' hT (hS _ hf); omega) ?_ ?_
    . intro t htr
      have hl2 := hlk t (hcl _ hf t htr)
      walk_at "s"
    walk_at "l"
    walk_at "s"
    exact ⟨_, _, by rw [List.map_append, List.map_cons, List.map_nil]; simp only [d7', List.map_map]; rfl⟩
  rintro _ ⟨z, z2, rfl⟩
  walk_at "s"
  refine uJ' (fun q => decide (bY' (reach T) c q ∈ A)) (fun q : Nat => D.int (q : Nat)) (by simp; omega) ?_ ?_
  . intro q hq
    have hl1 := hlf q (List.mem_range.mp hq)
    walk_at "s"
    exact fun _ => trivial
  walk_at "l"
  walk_at "s"
  have et : D.tup (frzs ((List.range k).map fun q => O.fz (d7' ((aH' T (bY' (reach T) c q)).map c)))) = dc' (b4' T (reach T) c k) := by
    unfold dc' b4'
    rw [iz', List.map_map, List.map_map]; rfl
  have ea : D.tup (((List.range k).filter fun q => decide (bY' (reach T) c q ∈ A)).map fun q => D.int (q : Nat)) = dB' (hF' A (reach T) c k) := rfl
  rw [et, ea]
  have hI := tg' hT hL hn hc hst
  generalize b4' T (reach T) c k = T' at *
  generalize hF' A (reach T) c k = A' at *
  refine (nd' (by rw [List.getElem?_append_right (by omega), Nat.sub_self]; rfl)).mono ?_
  rintro _ _ ⟨rfl, rfl⟩
  rw [List.set_append_right _ _ (by omega), Nat.sub_self]
  have hm := bp' h
  have hC1 : C ∈ ["Machine", "RawMachine"] := by rcases hC with rfl | rfl <;> simp
  have g1 : (w ++ [mkM "RawMachine" L T' A' .non cO'])[m]? = some (mkM C L T A .non rest) := by rw [List.getElem?_append_left hm]; exact h
  obtain ⟨W1, e1⟩ : ∃ W1, W1 = (w ++ [mkM "RawMachine" L T' A' .non cO']).set m (mkM C L T A (.obj w.length) rest) := ⟨_, rfl⟩
  have s1 : stF ["Machine", "RawMachine"] "kept_least" (.fz (.obj w.length)) (w ++ [mkM "RawMachine" L T' A' .non cO']) (.obj m) = some W1 := by
    rw [jk' g1 hC1 hr, e1]
  have g2 : W1[m]? = some (mkM C L T A (.obj w.length) rest) := by
    rw [e1, List.getElem?_set_self (by simp; omega)]
  have f1 := (McAt.of g2 hC).fk
  have g3 : W1[w.length]? = some (mkM "RawMachine" L T' A' .non cO') := by
    rw [e1, List.getElem?_set_ne (by omega), List.getElem?_append_right (by omega), Nat.sub_self]
    rfl
  obtain ⟨W2, e2⟩ : ∃ W2, W2 = w.set m (mkM C L T A (.obj w.length) rest) ++ [mkM "RawMachine" L T' A' (.obj w.length) cO'] := ⟨_, rfl⟩
  have s2 : stF ["Machine", "RawMachine"] "kept_least" (.fz (.obj w.length)) W1 (.obj w.length) = some W2 := by
    rw [jk' g3 (by simp) (by simp), e1, e2]
    rw [List.set_append_left _ _ hm, List.set_append_right _ _ (by simp)]
    simp only [List.length_set, Nat.sub_self]
    rfl
  have g4 : W2[m]? = some (mkM C L T A (.obj w.length) rest) := by
    rw [e2, List.getElem?_append_left (by simpa using hm), List.getElem?_set_self hm]
  have f2 := (McAt.of g4 hC).fk
  clear g1 g2 g3 g4 e1 h1 h2 h3 h4 hlk hlf hsk
  walk_at "s"
  rw [<- e2, f2, aR']
  exact ⟨c, T', A', hI, rfl, e2⟩
theorem oz' {w : W} {m n : Nat} {C : String} {L : Tx} {T : List (List Nat)} {A : List Nat} {rest : List (String × O)} (h : w[m]? = some (mkM C L T A (.obj n) rest)) (hC : C = "Machine" \/ C = "RawMachine") :
    wF (f_least [.obj m] w) (fun o w' => o = .fz (.obj n) /\ w' = w) FX := by
  have h4 := (McAt.of h hC).fk
  unfold f_least
  walk_at "f"
theorem y9' {w : W} {m most : Nat} {L : Tx} {T : List (List Nat)} {A : List Nat} (h : w[m]? = some (.ins "Machine" [])) (hM : MacOk L T A most 6) (hmost : most <= 4) : wF (f_Machine___init__ [.obj m, .str L, dc' T, dB' A] w) (fun o w' => o = .fz .non /\ w' = w.set m (mkM "Machine" L T A .non cO')) FX := by
  have hL := hM.let'
  have h1 := hL.ne
  have h2 : L.length <= 4 := Nat.le_trans hL.le hmost
  have e1 : (L.all fun c => decide (c ∈ abc)) = true := by
    rw [List.all_eq_true]
    exact fun c hc => by rw [decide_eq_true_iff]; exact q7'.mpr (hL.abc c hc)
  have e2 : (A.all fun a => decide (a < T.length)) = true := by
    rw [List.all_eq_true]
    exact fun a ha => by simpa using hM.acc.lt a ha
  unfold f_Machine___init__
  walk_at "f0"
  walk_at "s"
  refine (gT' L abc w).mono ?_
  rintro _ _ ⟨rfl, rfl⟩
  rw [e1, decide_eq_true hL.asc]
  walk_at "s"
  refine (iw' hM.tab hM.ne hM.le _).mono ?_
  rintro _ _ ⟨rfl, rfl⟩
  walk_at "s"
  refine (dA' A T.length _).mono ?_
  rintro _ _ ⟨rfl, rfl⟩
  rw [e2]
  walk_at "s"
  refine (ft' A _).mono ?_
  rintro _ _ ⟨rfl, rfl⟩
  rw [decide_eq_true hM.acc.asc]
  walk_at "s"
  refine ⟨by simp [jW', h], ?_⟩
  refine (nB' h (.inl rfl)).mono ?_
  rintro _ _ ⟨rfl, rfl⟩
  walk_at "s"
theorem yN' {w : W} {m most : Nat} {L : Tx} {T : List (List Nat)} {A : List Nat} (hm : w.length = m) (hM : MacOk L T A most 6) (hmost : most <= 4) : wF (f_Machine___init__ [.obj m, .str L, dc' T, dB' A] (w ++ [.ins "Machine" []])) (fun o w' => o = .fz .non /\ w' = w ++ [mkM "Machine" L T A .non cO']) FX := by
  subst hm
  refine (y9' (by rw [List.getElem?_append_right (by omega), Nat.sub_self]; rfl) hM hmost).mono ?_
  rintro _ _ ⟨rfl, rfl⟩
  refine ⟨rfl, ?_⟩
  rw [List.set_append_right _ _ (by omega), Nat.sub_self]; rfl
structure Pt (L : Tx) (T : List (List Nat)) : Prop where
  tab : bf' T T.length L.length
  nd : L.Nodup
  ll : L.length <= 1000
  ne : 1 <= T.length
  le : T.length <= 400
theorem Pt.least {L : Tx} {T : List (List Nat)} {A : List Nat} {c : Nat -> Nat} {T' : List (List Nat)} {A' : List Nat} (h : Pt L T) (hI : IsLeast L T A c T' A') : Pt L T' :=
  ⟨hI.tab, h.nd, h.ll, hI.ne, Nat.le_trans hI.le h.le⟩
theorem MacOk.pt {L : Tx} {T : List (List Nat)} {A : List Nat} {most states : Nat} (h : MacOk L T A most states) (h1 : most <= 1000) (h2 : states <= 400) : Pt L T :=
  ⟨h.tab, h.let'.asc.imp (fun h => Nat.ne_of_lt h), Nat.le_trans h.let'.le h1, h.ne, Nat.le_trans h.le h2⟩
def Rs (rest : List (String × O)) : Prop := ∃ o1 o2 o3, rest = [("kept_field", o1), ("kept_lots", o2), ("kept_more", o3)]
theorem Rs.z : Rs cO' := ⟨_, _, _, rfl⟩
theorem Rs.le {rest : List (String × O)} (h : Rs rest) : rest.length <= 100 := by obtain ⟨_, _, _, rfl⟩ := h; simp
structure MM (w : W) (m : Nat) (C : String) (L : Tx) (T : List (List Nat)) (A : List Nat) : Prop where
  cl : C = "Machine" \/ C = "RawMachine"
  ex : ∃ l rest, Rs rest /\ w[m]? = some (mkM C L T A l rest)
theorem MM.mc {w : W} {m : Nat} {C : String} {L T A} (h : MM w m C L T A) : ∃ l, McAt w m L T A l := by
  obtain ⟨l, rest, _, h2⟩ := h.ex
  exact ⟨l, McAt.of h2 h.cl⟩
theorem MM.lt {w : W} {m : Nat} {C : String} {L T A} (h : MM w m C L T A) : m < w.length := by
  obtain ⟨l, rest, _, h2⟩ := h.ex
  exact bp' h2
def WOk (w : W) : Prop := ∀ (m : Nat) (C : String) (L : Tx) (T : List (List Nat)) (A : List Nat) (l : D) (rest : List (String × O)), w[m]? = some (mkM C L T A l rest) →
  l = .non \/ ∃ k c T' A', l = .obj k /\ IsLeast L T A c T' A' /\ ∃ rest', Rs rest' /\ w[k]? = some (mkM "RawMachine" L T' A' (.obj k) rest')
structure Evo (w w' : W) : Prop where
  len : w.length <= w'.length
  mac : ∀ m C L T A, MM w m C L T A -> MM w' m C L T A
  hand : ∀ n, ch' w n -> ch' w' n
theorem Evo.refl {w : W} : Evo w w := ⟨Nat.le_refl _, fun _ _ _ _ _ h => h, fun _ h => h⟩
theorem Evo.trans {w w1 w2 : W} (h : Evo w w1) (h' : Evo w1 w2) : Evo w w2 := ⟨Nat.le_trans h.len h'.len, fun _ _ _ _ _ q => h'.mac _ _ _ _ _ (h.mac _ _ _ _ _ q), fun _ q => h'.hand _ (h.hand _ q)⟩
theorem MM.evo {w w' : W} {m : Nat} {C : String} {L T A} (h : MM w m C L T A) (e : Evo w w') : MM w' m C L T A := e.mac _ _ _ _ _ h
theorem IsLeast.self {L : Tx} {T : List (List Nat)} {A : List Nat} {c : Nat -> Nat} {T' : List (List Nat)} {A' : List Nat} (h : IsLeast L T A c T' A') : IsLeast L T' A' id T' A' where
  tab := h.tab
  ne := h.ne
  le := Nat.le_refl _
  acc := h.acc
  c0 := rfl
  lt s hs := by rw [h.reach] at hs; exact List.mem_range.mp hs
  row s _ := by rw [List.map_id]; rfl
  fin s _ := Iff.rfl
  onto q hq := ⟨q, by rw [h.reach]; exact List.mem_range.mpr hq, rfl⟩
  reach := h.reach
  apart := h.apart
  num := by rw [List.map_id, h.reach, dI' List.nodup_range]
theorem gr' {C C' : String} {L L' : Tx} {T T' : List (List Nat)} {A A' : List Nat} {l l' : D} {rest rest' : List (String × O)} (h : mkM C L T A l rest = mkM C' L' T' A' l' rest') : C = C' /\ L = L' /\ T = T' /\ A = A' /\ l = l' /\ rest = rest' := by
  have nat : ∀ {x y : List Nat}, (x.map fun t => D.int (t : Nat)) = (y.map fun t => D.int (t : Nat)) -> x = y := fun e =>
    List.map_inj_right (fun a b h => by have := D.int.inj h; omega) |>.mp e
  obtain ⟨e1, e2⟩ := Ob.ins.inj h
  simp only [List.cons.injEq, Prod.mk.injEq, true_and, O.fz.injEq, D.str.injEq, and_assoc] at e2
  obtain ⟨f1, f2, f3, f4, f5⟩ := e2
  refine ⟨e1, f1, ?_, nat (D.tup.inj f3), f4, f5⟩
  exact List.map_inj_right (fun a b h => nat (D.tup.inj h)) |>.mp (D.tup.inj f2)
theorem WOk.but {w w' : W} {n : Nat} (h : WOk w) (hh : ch' w n) (hh' : ch' w' n) (b : But n w w') : WOk w' /\ Evo w w' := by
  obtain ⟨cells, i, bb, s, c, hw, _⟩ := id hh
  obtain ⟨cells', i', bb', s', c', hw', _⟩ := id hh'
  refine ⟨fun m C L T A l rest e => ?_, Nat.le_of_eq b.1.symm, fun m C L T A hM => ?_, fun k hk => ?_⟩
  . have hm : m ≠ n := fun q => by rw [q, hw'] at e; cases e
    rw [b.2 m hm] at e
    rcases h m C L T A l rest e with q | ⟨k, c0, T', A', q1, q2, rest', q3, q4⟩
    . exact .inl q
    . refine .inr ⟨k, c0, T', A', q1, q2, rest', q3, ?_⟩
      rw [b.2 k (fun q => by rw [q, hw] at q4; cases q4)]
      exact q4
  . obtain ⟨l, rest, h1, h2⟩ := hM.ex
    refine ⟨hM.cl, l, rest, h1, ?_⟩
    rw [b.2 m (fun q => by rw [q, hw] at h2; cases h2)]
    exact h2
  . by_cases q : k = n
    . rw [q]; exact hh'
    . obtain ⟨c1, i1, b1, s1, k1, e1, e2⟩ := hk
      exact ⟨c1, i1, b1, s1, k1, by rw [b.2 k q]; exact e1, e2⟩
theorem WOk.snoc {w : W} {o : Ob} (h : WOk w) (ho : ∀ C L T A l rest, o = mkM C L T A l rest -> l = .non) : WOk (w ++ [o]) /\ Evo w (w ++ [o]) := by
  refine ⟨fun m C L T A l rest e => ?_, by simp, fun m C L T A hM => ?_, fun k hk => hk.snoc⟩
  . by_cases hm : m < w.length
    . rw [List.getElem?_append_left hm] at e
      rcases h m C L T A l rest e with q | ⟨k, c0, T', A', q1, q2, rest', q3, q4⟩
      . exact .inl q
      . exact .inr ⟨k, c0, T', A', q1, q2, rest', q3, by rw [List.getElem?_append_left (bp' q4)]; exact q4⟩
    . rw [List.getElem?_append_right (by omega)] at e
      have : m - w.length = 0 := by
        have := (List.getElem?_eq_some_iff.mp e).1
        simp at this; omega
      rw [this] at e
      exact .inl (ho C L T A l rest (Option.some.inj e))
  . obtain ⟨l, rest, h1, h2⟩ := hM.ex
    exact ⟨hM.cl, l, rest, h1, by rw [List.getElem?_append_left (bp' h2)]; exact h2⟩
theorem MM.new {w : W} {C : String} {L T A l rest} (hC : C = "Machine" \/ C = "RawMachine") (hr : Rs rest) : MM (w ++ [mkM C L T A l rest]) w.length C L T A :=
  ⟨hC, l, rest, hr, by rw [List.getElem?_append_right (Nat.le_refl _), Nat.sub_self]; rfl⟩
theorem WOk.mach {w : W} {C : String} {L T A} (h : WOk w) : WOk (w ++ [mkM C L T A .non cO']) /\ Evo w (w ++ [mkM C L T A .non cO']) :=
  h.snoc fun C' L' T' A' l rest e => (gr' e).2.2.2.2.1.symm
theorem WOk.lst {w : W} {os : List O} (h : WOk w) : WOk (w ++ [.lst os]) /\ Evo w (w ++ [.lst os]) := h.snoc fun C' L' T' A' l rest e => by cases e
theorem WOk.nil : WOk [] := fun m C L T A l rest e => by simp at e
theorem WOk.one {os : List O} : WOk [.lst os] := (WOk.lst .nil).1
theorem wq' {w : W} {m : Nat} {C : String} {L : Tx} {T : List (List Nat)} {A : List Nat} (hW : WOk w) (h : MM w m C L T A) (hP : Pt L T) :
    wF (f_least [.obj m] w) (fun o w' => ∃ k c T' A', o = .fz (.obj k) /\ IsLeast L T A c T' A' /\ MM w' k "RawMachine" L T' A' /\ WOk w' /\ Evo w w') FX := by
  obtain ⟨l, rest, hr, e⟩ := h.ex
  rcases hW m C L T A l rest e with rfl | ⟨k, c0, T', A', rfl, q2, rest', q3, q4⟩
  . refine (oy' e h.cl hr.le hP.tab hP.nd hP.ll hP.ne (Nat.le_trans hP.le (by decide))).mono ?_
    rintro _ _ ⟨c, T', A', hI, rfl, rfl⟩
    have hm := bp' e
    have e1 : (w.set m (mkM C L T A (.obj w.length) rest) ++ [mkM "RawMachine" L T' A' (.obj w.length) cO'])[w.length]? = some (mkM "RawMachine" L T' A' (.obj w.length) cO') := by
      rw [List.getElem?_append_right (by simp), List.length_set, Nat.sub_self]; rfl
    have e2 : (w.set m (mkM C L T A (.obj w.length) rest) ++ [mkM "RawMachine" L T' A' (.obj w.length) cO'])[m]? = some (mkM C L T A (.obj w.length) rest) := by
      rw [List.getElem?_append_left (by simpa using hm), List.getElem?_set_self hm]
    have e3 : ∀ i, i < w.length -> i ≠ m -> (w.set m (mkM C L T A (.obj w.length) rest) ++ [mkM "RawMachine" L T' A' (.obj w.length) cO'])[i]? = w[i]? := fun i hi hne => by
      rw [List.getElem?_append_left (by simpa using hi), List.getElem?_set_ne (fun h => hne h.symm)]
    refine ⟨w.length, c, T', A', rfl, hI, ⟨.inr rfl, _, _, .z, e1⟩, fun i Ci Li Ti Ai li ri ei => ?_, by simp, fun i Ci Li Ti Ai hi => ?_, fun i hi => ?_⟩
    . rcases Nat.lt_trichotomy i w.length with hi | hi | hi
      . by_cases him : i = m
        . rw [him, e2] at ei
          obtain ⟨rfl, rfl, rfl, rfl, rfl, rfl⟩ := gr' (Option.some.inj ei)
          exact .inr ⟨_, c, T', A', rfl, hI, _, .z, e1⟩
        . rw [e3 i hi him] at ei
          rcases hW i _ _ _ _ _ _ ei with q | ⟨k, c1, T1, A1, q1, q2, rest1, q3, q4⟩
          . exact .inl q
          . refine .inr ⟨k, c1, T1, A1, q1, q2, rest1, q3, ?_⟩
            rw [e3 k (bp' q4) (fun q => ?_)]
            . exact q4
            . rw [q, e] at q4
              have := (gr' (Option.some.inj q4)).2.2.2.2.1
              cases this
      . rw [hi, e1] at ei
        obtain ⟨rfl, rfl, rfl, rfl, rfl, rfl⟩ := gr' (Option.some.inj ei)
        exact .inr ⟨_, id, _, _, rfl, hI.self, _, .z, e1⟩
      . have := bp' ei
        simp at this
        omega
    . obtain ⟨l1, r1, h1, h2⟩ := hi.ex
      by_cases him : i = m
      . rw [him, e] at h2
        obtain ⟨rfl, rfl, rfl, rfl, rfl, rfl⟩ := gr' (Option.some.inj h2)
        exact ⟨hi.cl, _, _, hr, by rw [him]; exact e2⟩
      . exact ⟨hi.cl, _, _, h1, by rw [e3 i (bp' h2) him]; exact h2⟩
    . obtain ⟨c1, i1, b1, s1, k1, e4, e5⟩ := hi
      exact ⟨c1, i1, b1, s1, k1, by rw [e3 i (bp' e4) (fun q => by rw [q, e] at e4; cases e4)]; exact e4, e5⟩
  . refine (oz' e h.cl).mono ?_
    rintro _ _ ⟨rfl, rfl⟩
    exact ⟨k, c0, T', A', rfl, q2, ⟨.inr rfl, _, _, q3, q4⟩, hW, .refl⟩
theorem sR' {w : W} {L : Tx} {T : List (List Nat)} {A : List Nat} {n : Nat} (hn : n = w.length) : wF (f_RawMachine___init__ [.obj n, .str L, dc' T, dB' A] (w ++ [.ins "RawMachine" []])) (fun o w' => o = .fz .non /\ w' = w ++ [mkM "RawMachine" L T A .non cO']) FX := by
  subst hn
  refine (nd' (by rw [List.getElem?_append_right (Nat.le_refl _), Nat.sub_self]; rfl)).mono ?_
  rintro _ _ ⟨rfl, rfl⟩
  refine ⟨rfl, ?_⟩
  rw [List.set_append_right _ _ (Nat.le_refl _), Nat.sub_self]; rfl
def plD : D -> Bool := fun d => (tyn d).isSome
def wdD (L : Tx) : D -> Bool
  | .str s => s.all fun c => decide (c ∈ L)
  | _ => false
theorem vj' {L : Tx} {s : Tx} (h : ∀ c ∈ s, c ∈ L) : wdD L (.str s) = true := by
  show s.all _ = true
  rw [List.all_eq_true]
  exact fun c hc => decide_eq_true (h c hc)
theorem eD' {L : Tx} {d : D} (h : wdD L d = true) : ∃ s, d = .str s /\ ∀ c ∈ s, c ∈ L := by
  cases d <;> try (cases h; done)
  rename_i s
  have h : s.all _ = true := h
  rw [List.all_eq_true] at h
  exact ⟨s, rfl, fun c hc => of_decide_eq_true (h c hc)⟩
theorem jN' {w : W} {m : Nat} {C : String} {L : Tx} {T : List (List Nat)} {A : List Nat} {s : Nat} {x : Tx} (hm : MM w m C L T A) (hT : bf' T T.length L.length) (hs : s < T.length) (hx : ∀ c ∈ x, c ∈ L) : wF (f_led [.obj m, .int s, .str x] w) (fun o w' => o = .fz (.int (run L T s x : Nat)) /\ w' = w) FX := by
  obtain ⟨l, hm⟩ := hm.mc
  unfold f_led
  walk_at "f"
  have h1 := hm.fl
  have h2 := hm.ft
  refine bF' (fun pre ρ => ∃ y, ρ = ⟨[some (.fz (.obj m)), some (.fz (.int (run L T s pre : Nat))), some (.fz (.str x)), y], w⟩ /\ run L T s pre < T.length) ⟨_, rfl, hs⟩ ?_ ?_
  . rintro pre c post _ e ⟨y, rfl, hr⟩
    have hc := hx c (by rw [e]; simp)
    obtain ⟨r, h3, h4, h5⟩ := m0' hT hr hc
    have h6 := nJ' hc
    rw [nb']
    clear hc e
    walk_at "s"
    exact ⟨_, rfl⟩
  . rintro _ ⟨y, rfl, hr⟩
    walk_at "s"
theorem hI' {w : W} {m : Nat} {C : String} {L : Tx} {T : List (List Nat)} {A : List Nat} {d : D} (h : MM w m C L T A) (hd : plD d = true) : wF (f_is_word [.obj m, d] w) (fun o w' => o = .fz (.bl (wdD L d)) /\ w' = w) FX := by
  obtain ⟨l, hm⟩ := h.mc
  have h1 := hm.fl
  unfold f_is_word
  walk_at "f0"
  clear h hm
  walk_at "s"
  by_cases hs : ∃ s, d = .str s
  . obtain ⟨s, rfl⟩ := hs
    refine (b9' s L w).mono ?_
    rintro _ _ ⟨rfl, rfl⟩
    walk_at "s"
    rfl
  . have h2 : ∃ t, tyn d = some t /\ t ≠ "str" := by
      cases d <;> simp [plD, tyn] at hd ⊢
      exact hs ⟨_, rfl⟩
    refine (dp' h2 L w).mono ?_
    rintro _ _ ⟨rfl, rfl⟩
    have h3 : wdD L d = false := by
      cases d <;> first | rfl | exact absurd ⟨_, rfl⟩ hs
    rw [h3]
    clear h2 hs
    walk_at "s"
def kA' (L : Tx) (T' : List (List Nat)) (A' : List Nat) (P : Tx -> Prop) : Prop := ∃ U B c, bf' U U.length L.length /\ 1 <= U.length /\ IsLeast L U B c T' A' /\ ∀ z : Tx, (∀ a ∈ z, a ∈ L) -> (run L U 0 z ∈ B ↔ P z)
theorem kA'.says {L : Tx} {T1 : List (List Nat)} {A1 : List Nat} {P : Tx -> Prop} (h1 : kA' L T1 A1 P) {z : Tx} (hz : ∀ a ∈ z, a ∈ L) : run L T1 0 z ∈ A1 ↔ P z := by
  obtain ⟨U1, B1, c1, a1, a2, a3, a4⟩ := h1
  rw [a3.run0 a1 a2 hz, a4 z hz]
theorem kA'.acc {L : Tx} {T1 : List (List Nat)} {A1 : List Nat} {P : Tx -> Prop} (h1 : kA' L T1 A1 P) : AccOk A1 T1.length := by
  obtain ⟨U1, B1, c1, a1, a2, a3, a4⟩ := h1
  exact a3.acc
theorem kA'.tab {L : Tx} {T1 : List (List Nat)} {A1 : List Nat} {P : Tx -> Prop} (h1 : kA' L T1 A1 P) : bf' T1 T1.length L.length := by
  obtain ⟨U1, B1, c1, a1, a2, a3, a4⟩ := h1
  exact a3.tab
theorem kA'.of {L : Tx} {T T' : List (List Nat)} {A A' : List Nat} {c : Nat -> Nat} {P : Tx -> Prop} (hT : bf' T T.length L.length) (hn : 1 <= T.length) (h : IsLeast L T A c T' A') (hp : ∀ z : Tx, (∀ a ∈ z, a ∈ L) -> (run L T 0 z ∈ A ↔ P z)) : kA' L T' A' P := ⟨T, A, c, hT, hn, h, hp⟩
theorem hn' (l : List Nat) : fX' (l.map fun q => ((q : Nat) : Int)) = (b6' l).map fun q => ((q : Nat) : Int) := by
  unfold fX' b6'
  refine (List.map_mergeSort (f := fun q : Nat => (q : Int)) fun a _ b _ => ?_).symm
  simp
theorem rL' {Q : D -> Prop} (l : List Nat) : wD (cY' (.lst (l.map fun q => D.int (q : Nat)))) Q = Q (.lst ((b6' l).map fun q => D.int (q : Nat))) := by
  show wD (match bt' (l.map fun q => D.int (q : Nat)) with | some ns => some (D.lst ((fX' ns).map .int)) | none => _) Q = _
  rw [lg']
  show wD (some (D.lst ((fX' (l.map fun q => ((q : Nat) : Int))).map .int))) Q = _
  rw [hn', aR', List.map_map]
  rfl
theorem jH' {l : List Nat} {a : Nat} : a ∈ b6' l ↔ a ∈ l := List.mem_mergeSort
theorem gA' {γ : Type} (f : γ -> D) : ∀ (l : List γ) (k : Nat), d5' k (l.map f) = (l.zipIdx k).map fun p => .tup [.int (p.2 : Nat), f p.1]
  | [], _ => rfl
  | x :: r, k => by
    rw [List.map_cons, List.zipIdx_cons, List.map_cons]
    show D.tup [.int k, f x] :: d5' (k + 1) (r.map f) = _
    rw [gA' f r]
def fE' (n f : Nat) : List Nat := f :: (List.range n).filter fun s => decide (s ≠ f)
def plc (n f s : Nat) : Nat := (fE' n f).idxOf s
section
variable {n f : Nat}
theorem c0' (hf : f < n) {s : Nat} : s ∈ fE' n f ↔ s < n := by
  unfold fE'
  simp only [List.mem_cons, List.mem_filter, List.mem_range, decide_eq_true_eq]
  omega
theorem k7' : (fE' n f).Nodup := by
  unfold fE'
  refine List.nodup_cons.mpr ⟨by simp, List.Pairwise.filter _ List.nodup_range⟩
theorem dK' (hf : f < n) : (fE' n f).length = n := by
  have h1 : (fE' n f).length <= n := q3' k7' fun s hs => (c0' hf).mp hs
  have h2 := List.Nodup.length_le_of_subset (List.nodup_range (n := n)) (l₂ := fE' n f) fun s hs => (c0' hf).mpr (List.mem_range.mp hs)
  rw [List.length_range] at h2
  omega
theorem yA' (hf : f < n) {s : Nat} (hs : s < n) : plc n f s < n := by
  have := List.idxOf_lt_length_iff.mpr ((c0' hf).mpr hs)
  rw [dK' hf] at this
  exact this
theorem kZ' (hf : f < n) {s : Nat} (hs : s < n) : (fE' n f)[plc n f s]? = some s := by
  have h := List.idxOf_lt_length_iff.mpr ((c0' hf).mpr hs)
  show (fE' n f)[List.idxOf s (fE' n f)]? = some s
  rw [List.getElem?_eq_getElem h, List.getElem_idxOf]
theorem v3' (hf : f < n) {s t : Nat} (hs : s < n) (ht : t < n) (e : plc n f s = plc n f t) : s = t := by
  have h1 := kZ' hf hs
  rw [e, kZ' hf ht] at h1
  exact (Option.some.inj h1).symm
theorem Bp' : plc n f f = 0 := by unfold plc fE'; simp
end
def hi' (T : List (List Nat)) (f : Nat) : List (List Nat) := (fE' T.length f).map fun s => (aH' T s).map (plc T.length f)
theorem sv' {T : List (List Nat)} {f s : Nat} (hf : f < T.length) (hs : s < T.length) : aH' (hi' T f) (plc T.length f s) = (aH' T s).map (plc T.length f) := by
  unfold hi'
  show ((((fE' T.length f).map _)[plc T.length f s]?).getD []) = _
  rw [List.getElem?_map, kZ' hf hs]; rfl
theorem vB' {L : Tx} {T : List (List Nat)} {f : Nat} (hT : bf' T T.length L.length) (hf : f < T.length) : bf' (hi' T f) (hi' T f).length L.length := by
  refine ⟨rfl, fun r hr => ?_⟩
  obtain ⟨s, hs, rfl⟩ := List.mem_map.mp hr
  have hs := (c0' hf).mp hs
  refine ⟨by rw [List.length_map]; exact cH' hT hs, fun t ht => ?_⟩
  obtain ⟨u, hu, rfl⟩ := List.mem_map.mp ht
  rw [show (hi' T f).length = T.length by unfold hi'; rw [List.length_map, dK' hf]]
  exact yA' hf (hu' hT hu)
theorem rV' {L : Tx} {T : List (List Nat)} {A : List Nat} {f : Nat} {z : Tx} (hT : bf' T T.length L.length) (hA : ∀ x ∈ A, x < T.length) (hf : f < T.length) (hz : ∀ a ∈ z, a ∈ L) : run L (hi' T f) 0 z ∈ b6' (A.map (plc T.length f)) ↔ run L T f z ∈ A := by
  have h := ga' (S := List.range T.length) (c := plc T.length f) (T' := hi' T f) hT (fun s hs => List.mem_range.mp hs) (fun s hs t ht => List.mem_range.mpr (hu' hT ht)) (fun s hs => sv' hf (List.mem_range.mp hs)) z hz f (List.mem_range.mpr hf)
  rw [Bp'] at h
  have hr := List.mem_range.mp h.2
  rw [h.1, jH', List.mem_map]
  constructor
  . rintro ⟨s, hs, e⟩
    rw [<- v3' hf (hA s hs) hr e]
    exact hs
  . intro q
    exact ⟨_, q, rfl⟩
theorem n2' {w : W} {m : Nat} {C : String} {L : Tx} {T : List (List Nat)} {A : List Nat} {f : Nat} (hW : WOk w) (h : MM w m C L T A) (hP : Pt L T) (hA : ∀ x ∈ A, x < T.length) (hAl : A.length <= 1000) (hf : f < T.length) :
    wF (f_begun_at [.obj m, .int f] w) (fun o w' => ∃ k A', o = .fz (.obj k) /\ MM w' k "RawMachine" L (hi' T f) A' /\ Pt L (hi' T f) /\ (∀ z, (∀ a ∈ z, a ∈ L) -> (run L (hi' T f) 0 z ∈ A' ↔ run L T f z ∈ A)) /\ WOk w' /\ Evo w w') FX := by
  have hrun := fun z (hz : ∀ a ∈ z, a ∈ L) => rV' hP.tab hA hf hz
  have hPt : Pt L (hi' T f) := ⟨vB' hP.tab hf, hP.nd, hP.ll, by unfold hi'; rw [List.length_map, dK' hf]; exact hP.ne, by unfold hi'; rw [List.length_map, dK' hf]; exact hP.le⟩
  have hrows := fun s (hs : s < T.length) => dF' hP.tab hs
  have hrl := fun s (hs : s < T.length) => cH' hP.tab hs
  have hrlt := fun s t (ht : t ∈ aH' T s) => hu' hP.tab (s := s) ht
  have hle := hP.le
  have hll := hP.ll
  obtain ⟨l, hm⟩ := h.mc
  have h1 := hm.fl
  have h2 := hm.ft
  have h3 := hm.fa
  unfold f_begun_at
  walk_at "f0"
  clear h hP hm
  walk_at "s"
  refine wr' (fun s => decide (s ≠ f)) (fun s => .int (s : Nat)) (by omega) ?_ ?_
  . intro s hs
    walk_at "s"
    refine ⟨?_, fun _ => trivial⟩
    rw [Bool.eq_iff_iff]
    simp only [Bool.not_eq_true', decide_eq_false_iff_not, decide_eq_true_eq]
    omega
  walk_at "l"
  have oX' := dK' hf
  have hfl : ((List.range T.length).filter fun s => decide (s ≠ f)).length + 1 = T.length := by
    have := oX'
    unfold fE' at this
    simpa using this
  have q1 : 1 + ((List.range T.length).filter fun s => decide (s ≠ f)).length <= 16777216 := by omega
  have eo : [D.int (f : Nat)] ++ ((List.range T.length).filter fun s => decide (s ≠ f)).map (fun s => D.int (s : Nat)) = (fE' T.length f).map fun s => D.int (s : Nat) := rfl
  rw [u0']
  rw [eo]
  rw [kG' (by simpa [Nat.add_comm] using q1)]
  walk_at "s"
  rw [gA']
  have hzip : (fE' T.length f).zipIdx.map Prod.fst = fE' T.length f := List.zipIdx_map_fst ..
  refine uV' (fun p : Nat × Nat => p.1) (fun p => .int (p.2 : Nat)) (by rw [List.length_zipIdx]; omega) (by rw [show ((fE' T.length f).zipIdx.map fun p : Nat × Nat => p.1) = fE' T.length f from hzip]; exact k7') ?_ ?_
  . rintro ⟨a, b⟩ hc
    walk_at "s"
  walk_at "l"
  have ez : (fE' T.length f).zipIdx.map (fun p : Nat × Nat => (p.1, D.int (p.2 : Nat))) = (fE' T.length f).map fun s => (s, D.int (plc T.length f s : Nat)) := by
    refine List.ext_getElem (by simp) fun i i1 i2 => ?_
    simp only [List.getElem_map, List.getElem_zipIdx, Prod.mk.injEq, D.int.injEq, true_and]
    unfold plc
    rw [k7'.idxOf_getElem i (by simpa using i2)]
    omega
  rw [rK' (fun p : Nat × Nat => p.1) (fun p => .int (p.2 : Nat)), ez]
  have hlk : ∀ s, s < T.length -> ((fE' T.length f).map fun s => (s, D.int (plc T.length f s : Nat))).lookup s = some (.int (plc T.length f s : Nat)) := fun s hs => by
    rw [b8' (fun s => D.int (plc T.length f s : Nat)), if_pos ((c0' hf).mpr hs)]
  clear hfl q1 eo hzip ez
  walk_at "s"
  refine hG' (fun s => d7' ((aH' T s).map (plc T.length f))) (by omega) ?_ ?_
  . intro s hs
    have hs := (c0' hf).mp hs
    have hr := hrows s hs
    have hr2 := hrl s hs
    have hr3 := hrlt s
    clear hrows hrl hrlt
    have hlk' := hlk
    clear hlk
    walk_at "s"
    refine hG' (fun t => D.int (plc T.length f t : Nat)) (by omega) ?_ ?_
    . intro t ht
      have hl1 := hlk' t (hr3 t ht)
      walk_at "s"
    walk_at "l"
    walk_at "s"
    unfold d7'
    rw [List.map_map]
    rfl
  walk_at "l"
  have e7 : D.tup ((fE' T.length f).map fun s => d7' ((aH' T s).map (plc T.length f))) = dc' (hi' T f) := by
    unfold dc' hi'
    rw [List.map_map]
    rfl
  walk_at "s"
  clear hrows hrl hrlt e7
  have hlk' := hlk
  clear hlk
  refine hG' (fun s => D.int (plc T.length f s : Nat)) (by omega) ?_ ?_
  . intro s hs
    have hl1 := hlk' s (hA s hs)
    clear hlk'
    walk_at "s"
  walk_at "l"
  have e8 : A.map (fun s => D.int (plc T.length f s : Nat)) = (A.map (plc T.length f)).map fun s => D.int (s : Nat) := by
    rw [List.map_map]
    rfl
  rw [e8]
  clear hlk' e8
  walk_at "s"
  rw [rL', uX']
  walk_at "s"
  refine (sR' (A := b6' (A.map (plc T.length f))) rfl).mono ?_
  rintro _ _ ⟨rfl, rfl⟩
  have hM := MM.new (w := w) (C := "RawMachine") (L := L) (T := hi' T f) (A := b6' (A.map (plc T.length f))) (l := .non) (.inr rfl) Rs.z
  obtain ⟨hW1, hE1⟩ := hW.mach (C := "RawMachine") (L := L) (T := hi' T f) (A := b6' (A.map (plc T.length f)))
  exact ⟨rfl, _, _, rfl, hM, hPt, hrun, hW1, hE1⟩
def prs (L : Tx) : List (Nat × Nat) := L.flatMap fun a => (L.filter fun b => decide (a < b)).map fun b => (a, b)
def prD (p : Nat × Nat) : D := .tup [chD p.1, chD p.2]
theorem wl' {L : Tx} {p : Nat × Nat} (h : p ∈ prs L) : p.1 ∈ L /\ p.2 ∈ L /\ p.1 < p.2 := by
  obtain ⟨a, ha, h⟩ := List.mem_flatMap.mp h
  obtain ⟨b, hb, rfl⟩ := List.mem_map.mp h
  obtain ⟨h1, h2⟩ := List.mem_filter.mp hb
  exact ⟨ha, h1, of_decide_eq_true h2⟩
theorem v1' {L M : Tx} : (M.flatMap fun a => (L.filter fun b => decide (a < b)).map fun b => (a, b)).length <= M.length * L.length := by
  induction M with
  | nil => simp
  | cons a M ih =>
    rw [List.flatMap_cons, List.length_append, List.length_map, List.length_cons, Nat.succ_mul]
    have := List.length_filter_le (fun b => decide (a < b)) L
    omega
theorem yG' {a b : Nat} : decide (([a] : Tx) < [b]) = decide (a < b) := by
  rw [Bool.eq_iff_iff, decide_eq_true_iff, decide_eq_true_iff, List.cons_lt_cons_iff]
  simp
theorem oq' {L : Tx} (hL : L.length <= 1000) (w : W) : wF (f_pairs_of [.str L] w) (fun o w' => o = .lst (((prs L).map prD).map .fz) /\ w' = w) FX := by
  unfold f_pairs_of
  walk_at "f"
  refine ws' (γ := Nat) (fun pre acc ρ => acc = (pre.flatMap fun a => (L.filter fun b => decide (a < b)).map fun b => (a, b)).map prD /\ ∃ y z, ρ = ⟨[some (.fz (.str L)), y, z], w⟩) ⟨rfl, _, _, rfl⟩ ?_ ?_
  . rintro pre a post _ _ e ⟨rfl, y, z, rfl⟩
    have hl2 : pre.length <= L.length := by rw [e]; simp
    have hle : ((pre.flatMap fun a => (L.filter fun b => decide (a < b)).map fun b => (a, b)).map prD).length <= 1000 * 1000 := by
      rw [List.length_map]
      exact Nat.le_trans v1' (Nat.mul_le_mul (by omega) hL)
    clear e
    walk_at "s"
    refine yX' (γ := Nat) (by omega) (fun p2 acc ρ => acc = (pre.flatMap fun a => (L.filter fun b => decide (a < b)).map fun b => (a, b)).map prD ++ (p2.filter fun b => decide (a < b)).map (fun b => prD (a, b)) /\ ∃ z, ρ = ⟨[some (.fz (.str L)), some (.fz (chD a)), z], w⟩) ⟨by simp, _, rfl⟩ ?_ ?_
    . rintro p2 b q2 _ _ e2 ⟨rfl, z, rfl⟩
      clear e2
      walk_at "s"
      rw [yG']
      refine aP' (fun h => ?_) (fun h => ?_)
      . walk_at "s"
        refine ⟨?_, _, rfl⟩
        rw [List.append_assoc, List.filter_append, List.filter_cons, if_pos (decide_eq_true h)]
        simp [prD, chD]
      . refine ⟨?_, _, rfl⟩
        rw [List.filter_append, List.filter_cons, if_neg (by simpa using h)]
        simp
    . rintro _ _ ⟨rfl, z, rfl⟩
      refine ⟨?_, _, _, rfl⟩
      rw [List.flatMap_append, List.flatMap_cons, List.flatMap_nil, List.append_nil, List.map_append, List.map_map]
      rfl
  . rintro _ _ ⟨rfl, y, z, rfl⟩
    walk_at "s"
    rfl
def wdE (p : Nat × Tx) : Nat × D := (p.1, .str p.2)
theorem ld' {L : Tx} {T : List (List Nat)} (s : Nat) (z : Tx) : nx' (stp L T) s z = run L T s z := rfl
theorem rG' {L : Tx} {T : List (List Nat)} (hP : Pt L T) : Few L (stp L T) 0 T.length :=
  uO' (List.range T.length) (by simp) fun g ⟨z, hz, e⟩ => List.mem_range.mpr (by rw [e, ld']; exact f9' hP.tab hP.ne hz)
theorem jK' {l : List (Nat × Tx)} (hn : (l.map (·.1)).Nodup) {p : Nat × Tx} (hp : p ∈ l) : (l.map wdE).lookup p.1 = some (.str p.2) := by
  induction l with
  | nil => cases hp
  | cons q l ih =>
    rw [List.map_cons, List.nodup_cons] at hn
    rw [List.map_cons, wdE, List.lookup_cons]
    rcases List.mem_cons.mp hp with rfl | hp
    . simp
    . have : p.1 ≠ q.1 := fun e => hn.1 (e ▸ List.mem_map_of_mem (f := (·.1)) hp)
      rw [show (p.1 == q.1) = false by simpa using this]
      exact ih hn.2 hp
theorem rc' {l : List (Nat × Tx)} {k : Nat} (h : k ∉ l.map (·.1)) : (l.map wdE).lookup k = none := by
  refine ct' k _ ?_
  rw [List.map_map]
  exact h
theorem jL' {l : List (Nat × Tx)} {k : Nat} (h : k ∈ l.map (·.1)) : ∃ d, (l.map wdE).lookup k = some d := by
  cases e : (l.map wdE).lookup k with
  | some d => exact ⟨d, rfl⟩
  | none =>
    exfalso
    induction l with
    | nil => cases h
    | cons q l ih =>
      rw [List.map_cons, wdE, List.lookup_cons] at e
      by_cases hk : k = q.1
      . subst hk
        simp at e
      . rw [show (k == q.1) = false by simpa using hk] at e
        rw [List.map_cons] at h
        rcases List.mem_cons.mp h with h | h
        . exact hk h
        . exact ih h e
theorem gU' {w : W} {m : Nat} {C : String} {L : Tx} {T : List (List Nat)} {A : List Nat} (h : MM w m C L T A) (hP : Pt L T) (hL : L.Pairwise (· < ·)) :
    wF (f_first_words [.obj m] w) (fun o w' => ∃ j, (xw (stp L T) L 0 j).length <= j /\ o = dN ((xw (stp L T) L 0 j).map wdE) /\ w' = w) FX := by
  have hf := rG' hP
  have hN : T.length <= 400 := hP.le
  have hll := hP.ll
  have hT := hP.tab
  have hnd := hP.nd
  have hne := hP.ne
  obtain ⟨l1, hm1⟩ := h.mc
  have f1 := hm1.fl
  have f2 := hm1.ft
  have f3 := hm1.fa
  unfold f_first_words
  walk_at "f0"
  clear h hm1
  walk_at "s"
  refine ea' (fun mm ρ => ∃ j, mm = T.length + 1 - j /\ j <= (xw (stp L T) L 0 j).length /\ ∃ x3 x4 x5, ρ = ⟨[some (.fz (.obj m)), some (dN ((xw (stp L T) L 0 j).map wdE)), some (.lst ((((xw (stp L T) L 0 j).drop j).map (·.1)).map fun q => .fz (.int (q : Nat)))), x3, x4, x5], w⟩) (T.length + 1) (by show T.length + 1 < 2 ^ 40; omega) ⟨0, rfl, Nat.zero_le _, _, _, _, rfl⟩ ?_
  rintro mm _ ⟨j, rfl, hj, x3, x4, x5, rfl⟩
  have hlen := hf.len j
  rw [<- ck'] at hlen
  walk_at "s"
  refine aP' (fun hlt => ?_) (fun hge => ?_)
  . have hjl : j < (xw (stp L T) L 0 j).length := by
      simp only [List.length_map, List.length_drop] at hlt
      omega
    have hg : (xw (stp L T) L 0 j)[j]? = some (xw (stp L T) L 0 j)[j] := List.getElem?_eq_getElem hjl
    have hdr : (xw (stp L T) L 0 j).drop j = (xw (stp L T) L 0 j)[j] :: (xw (stp L T) L 0 j).drop (j + 1) := List.drop_eq_getElem_cons hjl
    rw [hdr]
    generalize (xw (stp L T) L 0 j)[j] = p at hg
    have hgo := u5' hg
    have hlen1 := hf.len (j + 1)
    rw [<- ck'] at hlen1
    have hw1 := eB' hL j p hg
    have hr : p.1 < T.length := by
      have := ((iP' (sx := stp L T) (g0 := 0) hL j).led p (List.mem_of_getElem? hg))
      rw [this.2, ld']
      exact f9' hT hne this.1
    have hmem := List.mem_of_getElem? hg
    obtain ⟨s, x⟩ := p
    have hr1 : s < T.length := hr
    have hw1 : x.length <= j := hw1
    have hx2 : x.length + 1 <= 16777216 := by omega
    have hrow := dF' hT hr1
    have hrl := cH' hT hr1
    clear hr hdr hlt
    walk_at "s"
    have e0 : ∀ k : Nat, ixn (k + 1) 0 = some 0 := fun k => by
      unfold ixn
      simp
    rw [kG' (by rw [List.length_drop]; omega), e0, aR']
    show wD (some (O.fz (D.int (s : Nat)))) _
    rw [aR']
    clear e0
    walk_at "s"
    have er : d7' (aH' T s) = .tup ((aH' T s).map fun t => D.int (t : Nat)) := rfl
    rw [er, uW', fu']
    refine bF' (f := fun p : Nat × Nat => D.tup [chD p.1, .int (p.2 : Nat)]) (cs := L.zip (aH' T s)) (fun pre ρ => ∃ x4 x5, ρ = ⟨[some (.fz (.obj m)), some (dN (((pre.map (·.1)).foldl (cx' (stp L T) (s, x)) (xw (stp L T) L 0 j)).map wdE)), some (.lst (((((pre.map (·.1)).foldl (cx' (stp L T) (s, x)) (xw (stp L T) L 0 j)).drop (j + 1)).map (·.1)).map fun q => .fz (.int (q : Nat)))), some (.fz (.int (s : Nat))), x4, x5], w⟩) ⟨_, _, rfl⟩ ?_ ?_
    . rintro pre ⟨c, t⟩ post _ e ⟨x4, x5, rfl⟩
      have hi : (L.zip (aH' T s))[pre.length]? = some (c, t) := by rw [e]; simp
      rw [List.getElem?_zip_eq_some] at hi
      obtain ⟨hi1, hi2⟩ := hi
      obtain ⟨hl, ec⟩ := List.getElem?_eq_some_iff.mp hi1
      obtain ⟨r1, r2, r3⟩ := kS' hT hnd hr1 hl
      rw [r2] at hi2
      have et : stp L T s c = t := by
        have := Option.some.inj hi2
        rw [ec] at this
        exact this
      clear hi1 hi2 r1 r2 r3
      rw [List.map_append, List.map_cons, List.map_nil, List.foldl_append]
      have e1 : L = pre.map (·.1) ++ c :: post.map (·.1) := by
        have := congrArg (List.map Prod.fst) e
        rw [List.map_fst_zip (by omega)] at this
        simpa using this
      have hFl : ((pre.map (·.1)).foldl (cx' (stp L T) (s, x)) (xw (stp L T) L 0 j)).length <= 400 := by
        rw [e1, List.foldl_append] at hgo
        have := (cQ' (sx := stp L T) (s, x) (c :: post.map (·.1)) ((pre.map (·.1)).foldl (cx' (stp L T) (s, x)) (xw (stp L T) L 0 j))).length_le
        rw [<- e1] at hgo
        rw [<- hgo] at this
        omega
      have hnF : (((pre.map (·.1)).foldl (cx' (stp L T) (s, x)) (xw (stp L T) L 0 j)).map (·.1)).Nodup := by
        rw [gy', lV']
        exact eM' (g9' j)
      have hpre := cQ' (sx := stp L T) (s, x) (pre.map (·.1)) (xw (stp L T) L 0 j)
      have hmF := hpre.subset hmem
      have hjF : j + 1 <= ((pre.map (·.1)).foldl (cx' (stp L T) (s, x)) (xw (stp L T) L 0 j)).length := Nat.le_trans hjl hpre.length_le
      generalize (pre.map (·.1)).foldl (cx' (stp L T) (s, x)) (xw (stp L T) L 0 j) = F at hFl hnF hmF hjF ⊢
      clear e e1 hgo hlen1 hlen hg hf hmem hpre hrow hrl er
      have hls := jK' hnF hmF
      clear hmF hnF
      show wD _ _
      by_cases hm : stp L T s c ∈ F.map (·.1)
      . obtain ⟨d, hd⟩ := jL' hm
        have e2 : [c].foldl (cx' (stp L T) (s, x)) F = F := by
          show cx' _ _ _ _ = _
          unfold cx'
          rw [if_pos hm]
        rw [e2]
        rw [et] at hd
        clear e2 hm et hls
        walk_at "s"
        exact ⟨_, _, rfl⟩
      . have hd := rc' hm
        have e2 : [c].foldl (cx' (stp L T) (s, x)) F = F ++ [(stp L T s c, x ++ [c])] := by
          show cx' _ _ _ _ = _
          unfold cx'
          rw [if_neg hm]
        rw [e2, List.drop_append_of_le_length hjF]
        rw [et] at hd ⊢
        have hlF : (F.map wdE).length < 16777216 := by rw [List.length_map]; omega
        have hlD : (F.drop (j + 1)).length < 16777216 := by rw [List.length_drop]; omega
        clear e2 hm et
        walk_at "s"
        exact ⟨_, _, by rw [List.map_append, List.map_append, List.map_append]; rfl⟩
    . rintro _ ⟨x4, x5, rfl⟩
      rw [List.map_fst_zip (by omega), <- hgo]
      clear hgo
      refine ⟨T.length + 1 - (j + 1), by omega, j + 1, rfl, ?_, _, _, _, rfl⟩
      have := (lU' (sx := stp L T) (L := L) (g0 := 0) (j := j)).length_le
      omega
  . walk_at "s"
    refine ⟨j, ?_, rfl⟩
    simp only [List.length_map, List.length_drop] at hge
    omega
def psx (L : Tx) (T1 T2 : List (List Nat)) (p : Nat × Nat) (c : Nat) : Nat × Nat := (stp L T1 p.1 c, stp L T2 p.2 c)
theorem le' {L : Tx} {T1 T2 : List (List Nat)} : ∀ (z : Tx) (p : Nat × Nat), nx' (psx L T1 T2) p z = (run L T1 p.1 z, run L T2 p.2 z)
  | [], _ => rfl
  | c :: z, p => le' z (psx L T1 T2 p c)
def AH' (n m : Nat) : List (Nat × Nat) := (List.range n).flatMap fun s => (List.range m).map fun t => (s, t)
theorem tS' (n m : Nat) : (AH' n m).length = n * m := by
  unfold AH'
  induction n with
  | zero => simp
  | succ n ih =>
    rw [List.range_succ, List.flatMap_append, List.length_append, ih]
    simp [Nat.succ_mul]
theorem tb' {n m s t : Nat} (h1 : s < n) (h2 : t < m) : (s, t) ∈ AH' n m :=
  List.mem_flatMap.mpr ⟨s, List.mem_range.mpr h1, List.mem_map.mpr ⟨t, List.mem_range.mpr h2, rfl⟩⟩
theorem qD' {L : Tx} {T1 T2 : List (List Nat)} (h1 : bf' T1 T1.length L.length) (h2 : bf' T2 T2.length L.length) (n1 : 1 <= T1.length) (n2 : 1 <= T2.length) {g : Nat × Nat} (h : Rch L (psx L T1 T2) (0, 0) g) : g.1 < T1.length /\ g.2 < T2.length := by
  obtain ⟨z, hz, rfl⟩ := h
  rw [le']
  exact ⟨f9' h1 n1 hz, f9' h2 n2 hz⟩
theorem wJ' {L : Tx} {T1 T2 : List (List Nat)} (h1 : bf' T1 T1.length L.length) (h2 : bf' T2 T2.length L.length) (n1 : 1 <= T1.length) (n2 : 1 <= T2.length) : Few L (psx L T1 T2) (0, 0) (T1.length * T2.length) :=
  uO' (AH' T1.length T2.length) (by rw [tS']; exact Nat.le_refl _) fun g hg => by
    obtain ⟨a, b⟩ := qD' h1 h2 n1 n2 hg
    exact tb' a b
def eP (p : Nat × Nat) : D := .tup [.int (p.1 : Nat), .int (p.2 : Nat)]
theorem yZ' : KeyE eP := by
  refine ⟨fun a b => ?_, fun a => rfl, fun a => by show dep (.tup _) <= 8; simp [dep, deps], fun _ _ => rfl⟩
  obtain ⟨a1, a2⟩ := a
  obtain ⟨b1, b2⟩ := b
  simp only [eP, eqb, eqbs, Bool.and_true]
  rw [Bool.eq_iff_iff]
  simp
  omega
def prt (A1 A2 : List Nat) (p : Nat × Nat) : Bool := !(decide (p.1 ∈ A1) == decide (p.2 ∈ A2))
def Prt (L : Tx) (T1 : List (List Nat)) (A1 : List Nat) (T2 : List (List Nat)) (A2 : List Nat) (z : Tx) : Prop := ¬ (run L T1 0 z ∈ A1 ↔ run L T2 0 z ∈ A2)
theorem kY' {L : Tx} {T1 T2 : List (List Nat)} {A1 A2 : List Nat} {z : Tx} : prt A1 A2 (nx' (psx L T1 T2) (0, 0) z) = true ↔ Prt L T1 A1 T2 A2 z := by
  rw [le']
  unfold prt Prt
  simp only [Bool.not_eq_true', beq_eq_false_iff_ne, ne_eq, decide_eq_decide]
def CG' (L : Tx) (T1 : List (List Nat)) (A1 : List Nat) (T2 : List (List Nat)) (A2 : List Nat) (d : D) : Prop :=
  (d = .non /\ ∀ z, (∀ c ∈ z, c ∈ L) -> ¬ Prt L T1 A1 T2 A2 z) \/ ∃ x, d = .str x /\ C3' L (Prt L T1 A1 T2 A2) x
theorem k0' {w : W} {m1 m2 : Nat} {C1 C2 : String} {L : Tx} {T1 T2 : List (List Nat)} {A1 A2 : List Nat} (h : MM w m1 C1 L T1 A1) (h' : MM w m2 C2 L T2 A2) (hL : L.Pairwise (· < ·)) (hP1 : Pt L T1) (hP2 : Pt L T2) :
    wF (f_parting [.obj m1, .obj m2] w) (fun o w' => (∃ d, o = .fz d /\ CG' L T1 A1 T2 A2 d /\ ∀ y, d = .str y -> y.length <= T1.length * T2.length) /\ w' = w) FX := by
  have hf := wJ' hP1.tab hP2.tab hP1.ne hP2.ne
  have hrch := fun g => qD' (g := g) hP1.tab hP2.tab hP1.ne hP2.ne
  have hN : T1.length * T2.length <= 160000 := Nat.mul_le_mul hP1.le hP2.le
  have hll := hP1.ll
  obtain ⟨l1, hm1⟩ := h.mc
  obtain ⟨l2, hm2⟩ := h'.mc
  have f1 := hm1.fl
  have f2 := hm1.ft
  have f3 := hm1.fa
  have g1 := hm2.fl
  have g2 := hm2.ft
  have g3 := hm2.fa
  have hself : decide (L = L) = true := decide_eq_true rfl
  generalize hNe : T1.length * T2.length = N at *
  unfold f_parting
  walk_at "f0"
  clear h h' hm1 hm2
  walk_at "s"
  have ek : gi' true (.tup [.int 0, .int 0]) (.bl true) = some (oU' eP [(0, 0)]) := by
    show (if kat (eP (0, 0)) = true /\ dep (eP (0, 0)) <= 8 /\ sca (eP (0, 0)) = false then some (O.dcx [eP (0, 0)] [O.fz (.bl true)]) else none) = _
    rw [if_pos ⟨yZ'.kat _, yZ'.dep _, rfl⟩]
    rfl
  walk_at "s"
  clear ek hself
  refine ea' (fun mm ρ => ∃ j, mm = N + 1 - j /\ j <= (xw (psx L T1 T2) L (0, 0) j).length /\ (∀ i, i < j -> ∀ r, (xw (psx L T1 T2) L (0, 0) i)[i]? = some r -> prt A1 A2 r.1 = false) /\ ∃ x5 x6 x7 x8 x9 x10, ρ = ⟨[some (.fz (.obj m1)), some (.fz (.obj m2)), some (.lst ((xw (psx L T1 T2) L (0, 0) j).map fun p => .fz (.tup [.int (p.1.1 : Nat), .int (p.1.2 : Nat), .str p.2]))), some (oU' eP ((xw (psx L T1 T2) L (0, 0) j).map (·.1))), some (.fz (.int (j : Nat))), x5, x6, x7, x8, x9, x10], w⟩) (N + 1) (by show N + 1 < 2 ^ 40; omega) ⟨0, rfl, Nat.zero_le _, fun i h => absurd h (by omega), _, _, _, _, _, _, rfl⟩ ?_
  rintro mm _ ⟨j, rfl, hj, hb, x5, x6, x7, x8, x9, x10, rfl⟩
  have hlen := hf.len j
  rw [<- ck'] at hlen
  walk_at "s"
  refine aP' (fun hlt => ?_) (fun hge => ?_)
  . have hjl : j < (xw (psx L T1 T2) L (0, 0) j).length := by omega
    have hg : (xw (psx L T1 T2) L (0, 0) j)[j]? = some (xw (psx L T1 T2) L (0, 0) j)[j] := List.getElem?_eq_getElem hjl
    generalize (xw (psx L T1 T2) L (0, 0) j)[j] = p at hg
    have hgo := u5' hg
    have hlen1 := hf.len (j + 1)
    rw [<- ck'] at hlen1
    have hw1 := eB' hL j p hg
    have hr := hrch p.1 (by exact ⟨p.2, ((iP' (sx := psx L T1 T2) (g0 := ((0, 0) : Nat × Nat)) hL j).led p (List.mem_of_getElem? hg)).1, ((iP' (sx := psx L T1 T2) (g0 := ((0, 0) : Nat × Nat)) hL j).led p (List.mem_of_getElem? hg)).2⟩)
    obtain ⟨⟨s, t⟩, x⟩ := p
    have hr1 : s < T1.length := hr.1
    have hr2 : t < T2.length := hr.2
    have hw1 : x.length <= j := hw1
    have hx2 : x.length + 1 <= 16777216 := by omega
    clear hr hrch
    cases hp : prt A1 A2 (s, t) with
    | true =>
      have hp' : (!(decide (s ∈ A1) == decide (t ∈ A2))) = true := hp
      have hfst := sg' hf hL (prt A1 A2) hg hp hb
      have hxN : x.length <= N := by omega
      clear hgo hlen1 hlen hb
      walk_at "s"
      exact ⟨_, rfl, .inr ⟨x, rfl, hfst.1, kY'.mp hfst.2.1, fun z hz hz2 => hfst.2.2 z hz (kY'.mpr hz2)⟩, fun y e => by cases e; exact hxN⟩
    | false =>
      have hp' : (!(decide (s ∈ A1) == decide (t ∈ A2))) = false := hp
      have hb' : ∀ i, i < j + 1 -> ∀ r, (xw (psx L T1 T2) L (0, 0) i)[i]? = some r -> prt A1 A2 r.1 = false := fun i hi r hr => by
        rcases Nat.lt_or_ge i j with q | q
        . exact hb i q r hr
        . have : i = j := by omega
          subst this
          rw [hg] at hr
          cases hr
          exact hp
      clear hb
      walk_at "s"
      rw [gA']
      refine bF' (f := fun p : Nat × Nat => D.tup [.int (p.2 : Nat), chD p.1]) (cs := L.zipIdx) (fun pre ρ => ∃ x8 x9 x10, ρ = ⟨[some (.fz (.obj m1)), some (.fz (.obj m2)), some (.lst (((pre.map (·.1)).foldl (cx' (psx L T1 T2) ((s, t), x)) (xw (psx L T1 T2) L (0, 0) j)).map fun p => .fz (.tup [.int (p.1.1 : Nat), .int (p.1.2 : Nat), .str p.2]))), some (oU' eP (((pre.map (·.1)).foldl (cx' (psx L T1 T2) ((s, t), x)) (xw (psx L T1 T2) L (0, 0) j)).map (·.1))), some (.fz (.int (j : Nat))), some (.fz (.int (s : Nat))), some (.fz (.int (t : Nat))), some (.fz (.str x)), x8, x9, x10], w⟩) ⟨_, _, _, rfl⟩ ?_ ?_
      . rintro pre ⟨c, i⟩ post _ e ⟨x8, x9, x10, rfl⟩
        have hci : L[i]? = some c := by
          have hm : (c, i) ∈ L.zipIdx := by rw [e]; simp
          have := List.mem_zipIdx hm
          simp at this
          obtain ⟨h1, h2⟩ := this
          rw [List.getElem?_eq_getElem h1, h2]
        obtain ⟨hi, ec⟩ := List.getElem?_eq_some_iff.mp hci
        obtain ⟨r1, r2, r3⟩ := kS' hP1.tab hP1.nd hr1 hi
        obtain ⟨r4, r5, r6⟩ := kS' hP2.tab hP2.nd hr2 hi
        rw [ec] at r2 r3 r5 r6
        rw [List.map_append, List.map_cons, List.map_nil, List.foldl_append]
        have hFl : ((pre.map (·.1)).foldl (cx' (psx L T1 T2) ((s, t), x)) (xw (psx L T1 T2) L (0, 0) j)).length <= 160000 := by
          have e1 : L = pre.map (·.1) ++ c :: post.map (·.1) := by
            have := congrArg (List.map Prod.fst) e
            rw [List.zipIdx_map_fst] at this
            simpa using this
          rw [e1, List.foldl_append] at hgo
          have := (cQ' (sx := psx L T1 T2) ((s, t), x) (c :: post.map (·.1)) ((pre.map (·.1)).foldl (cx' (psx L T1 T2) ((s, t), x)) (xw (psx L T1 T2) L (0, 0) j))).length_le
          rw [<- e1] at hgo
          rw [<- hgo] at this
          omega
        generalize (pre.map (·.1)).foldl (cx' (psx L T1 T2) ((s, t), x)) (xw (psx L T1 T2) L (0, 0) j) = F at hFl ⊢
        clear e hgo hlen1 hlen hb' hg hf
        show wD _ _
        by_cases hm : psx L T1 T2 (s, t) c ∈ F.map (·.1)
        . have k1 : cd' (oU' eP (F.map (·.1))) (.tup [.int (stp L T1 s c : Nat), .int (stp L T2 t c : Nat)]) = some (some (.fz (.bl true))) := yb' yZ' hm
          have e2 : [c].foldl (cx' (psx L T1 T2) ((s, t), x)) F = F := by
            show cx' _ _ _ _ = _
            unfold cx'
            rw [if_pos hm]
          rw [e2]
          clear e2
          walk_at "s"
          exact ⟨_, _, _, rfl⟩
        . have k1 : cd' (oU' eP (F.map (·.1))) (.tup [.int (stp L T1 s c : Nat), .int (stp L T2 t c : Nat)]) = some none := vM' yZ' hm
          have k2 : dZ' (oU' eP (F.map (·.1))) (.tup [.int (stp L T1 s c : Nat), .int (stp L T2 t c : Nat)]) (.fz (.bl true)) = some (oU' eP (F.map (·.1) ++ [psx L T1 T2 (s, t) c])) := vL' yZ' hm (by rw [List.length_map]; omega)
          have e2 : [c].foldl (cx' (psx L T1 T2) ((s, t), x)) F = F ++ [(psx L T1 T2 (s, t) c, x ++ [c])] := by
            show cx' _ _ _ _ = _
            unfold cx'
            rw [if_neg hm]
          rw [e2]
          clear e2
          walk_at "s"
          exact ⟨_, _, _, by rw [List.map_append, List.map_append]; rfl⟩
      . rintro _ ⟨x8, x9, x10, rfl⟩
        rw [List.zipIdx_map_fst, <- hgo]
        clear hgo
        walk_at "s"
        refine ⟨N + 1 - (j + 1), by omega, j + 1, rfl, ?_, hb', _, _, _, _, _, _, rfl⟩
        have := (lU' (sx := psx L T1 T2) (L := L) (g0 := ((0, 0) : Nat × Nat)) (j := j)).length_le
        omega
  . have hnone := u4' hf hL (prt A1 A2) (j := j) (by omega) hb
    walk_at "s"
    refine ⟨_, rfl, .inl ⟨rfl, fun z hz hz2 => ?_⟩, fun y e => by cases e⟩
    have := hnone z hz
    rw [kY'.mpr hz2] at this
    cases this
def CF' (L : Tx) (n : Nat) (d : D) : Prop := d = .non \/ ∃ u v a b, d = .tup [.str u, .str [a], .str [b], .str v] /\ (∀ c ∈ u, c ∈ L) /\ (∀ c ∈ v, c ∈ L) /\ a ∈ L /\ b ∈ L /\ u.length <= n /\ v.length <= n * n
theorem mV' {T : List (List Nat)} {f : Nat} (hf : f < T.length) : (hi' T f).length = T.length := by
  unfold hi'
  rw [List.length_map, dK' hf]
theorem qf' {w : W} {k : Nat} {L : Tx} {T' : List (List Nat)} {A' : List Nat} {p q : Nat} (hW : WOk w) (h : MM w k "RawMachine" L T' A') (hP : Pt L T') (hL : L.Pairwise (· < ·)) (hA : AccOk A' T'.length) (hap : ∀ p < T'.length, ∀ q < T'.length, Leq L T' A' p q -> p = q) (hp : p < T'.length) (hq : q < T'.length) (hpq : p ≠ q) :
    wF (f_begun_at [.obj k, .int p] w) (fun o1 w1 => ∃ k1, o1 = .fz (.obj k1) /\ MM w1 k "RawMachine" L T' A' /\ wF (f_begun_at [.obj k, .int q] w1) (fun o2 w2 => ∃ k2, o2 = .fz (.obj k2) /\ MM w2 k "RawMachine" L T' A' /\ wF (f_parting [.obj k1, .obj k2] w2) (fun o w' => (∃ v, o = .fz (.str v) /\ (∀ c ∈ v, c ∈ L) /\ v.length <= T'.length * T'.length) /\ WOk w' /\ Evo w w' /\ MM w' k "RawMachine" L T' A') FX) FX) FX := by
  have hAl : A'.length <= 1000 := by
    have := q3' (hA.asc.imp fun h => Nat.ne_of_lt h) hA.lt
    have := hP.le
    omega
  refine (n2' hW h hP hA.lt hAl hp).mono ?_
  rintro _ w1 ⟨k1, A1, rfl, m1, hP1, e1, hW1, hE1⟩
  refine ⟨k1, rfl, h.evo hE1, ?_⟩
  refine (n2' hW1 (h.evo hE1) hP hA.lt hAl hq).mono ?_
  rintro _ w2 ⟨k2, A2, rfl, m2, hP2, e2, hW2, hE2⟩
  refine ⟨k2, rfl, (h.evo hE1).evo hE2, ?_⟩
  refine (k0' (m1.evo hE2) m2 hL hP1 hP2).mono ?_
  rintro _ _ ⟨⟨d, rfl, hd, hlen⟩, rfl⟩
  refine ⟨?_, hW2, hE1.trans hE2, (h.evo hE1).evo hE2⟩
  rcases hd with ⟨rfl, hd⟩ | ⟨x, rfl, hd⟩
  . exfalso
    refine hpq (hap p hp q hq fun z hz => ?_)
    have := hd z hz
    unfold Prt at this
    rw [e1 z hz, e2 z hz] at this
    exact Classical.byContradiction this
  . refine ⟨x, rfl, hd.1, ?_⟩
    have := hlen x rfl
    rw [mV' hp, mV' hq] at this
    exact this
theorem vE' {w : W} {m : Nat} {C : String} {L : Tx} {T : List (List Nat)} {A : List Nat} (hW : WOk w) (h : MM w m C L T A) (hP : Pt L T) (hL : L.Pairwise (· < ·)) :
    wF (f_swap [.obj m] w) (fun o w' => (∃ d, o = .fz d /\ CF' L T.length d) /\ WOk w' /\ Evo w w') FX := by
  have k1 := wq' hW h hP
  unfold f_swap
  walk_at "f0"
  clear hW h
  walk_at "s"
  refine k1.mono ?_
  rintro _ w1 ⟨k, c, T', A', rfl, hI, h1, hW1, hE1⟩
  clear k1
  have hP' := hP.least hI
  have hle := hI.le
  have hap := hI.apart
  have hA := hI.acc
  have k2 := gU' h1 hP' hL
  obtain ⟨l1, hm1⟩ := id h1.mc
  have f1 := hm1.fl
  have f3 := hm1.fa
  have hll := hP'.ll
  have hT400 := hP'.le
  have k3 := oq' (L := L) hll w1
  clear hI hP hm1
  walk_at "s"
  refine k2.mono ?_
  rintro _ w1 ⟨j, hj, rfl, rfl⟩
  clear k2
  walk_at "s"
  refine k3.mono ?_
  rintro _ w1 ⟨rfl, rfl⟩
  clear k3
  rw [rF']
  walk_at "s"
  have hf := rG' hP'
  have hok := iP' (sx := stp L T') (g0 := 0) hL j
  have hlen := hf.len j
  rw [<- ck'] at hlen
  have hwl := fun i q => eB' (sx := stp L T') (g0 := 0) hL (j := j) i q
  have hnd : ((xw (stp L T') L 0 j).map (·.1)).Nodup := by rw [lV']; exact g9' j
  have hled := hok.led
  have hTab := hP'.tab
  have hne := hP'.ne
  have hkey : ∀ p ∈ xw (stp L T') L 0 j, p.1 < T'.length /\ (∀ c ∈ p.2, c ∈ L) /\ p.2.length <= T'.length := fun p hp => by
    obtain ⟨i, hi, e⟩ := List.getElem_of_mem hp
    have h1 := hwl i p (by rw [List.getElem?_eq_getElem hi, e])
    obtain ⟨h2, h3⟩ := hled p hp
    refine ⟨?_, h2, by omega⟩
    rw [h3, ld']
    exact f9' hTab hne h2
  have hlk := fun p (hp : p ∈ xw (stp L T') L 0 j) => jK' hnd hp
  clear hf hok hwl hled hj
  generalize xw (stp L T') L 0 j = G at *
  refine bF' (γ := Nat × Nat) (f := prD) (fun pre ρ => ∃ x2 x3 x4 x5 x6 x7 x8, ρ = ⟨[some (.fz (.obj m)), some (.fz (.obj k)), some x2, x3, x4, x5, x6, x7, x8], w1⟩ /\ (x2 = dN (G.map wdE) \/ x2 = .fz (dNz (G.map wdE)))) ⟨_, _, _, _, _, _, _, rfl, .inl rfl⟩ ?_ ?_
  . rintro pre ⟨a, b⟩ post _ e ⟨x2, x3, x4, x5, x6, x7, x8, rfl, hx2⟩
    obtain ⟨ha, hb, hab⟩ := wl' (L := L) (p := (a, b)) (by rw [e]; simp)
    have ha : a ∈ L := ha
    have hb : b ∈ L := hb
    clear e
    have es : fX' ((G.map wdE).map fun p => (p.1 : Int)) = (b6' (G.map (·.1))).map fun q => ((q : Nat) : Int) := by
      rw [<- hn', List.map_map, List.map_map]
      rfl
    show wD (gT [3, 4] (.tup [chD a, chD b]) _) _
    rcases hx2 with rfl | rfl
    all_goals
      have es' := es
      clear es
      walk_at "s"
      rw [rM' _ (by rw [List.length_map]; omega)]
      rw [es', List.map_map]
      walk_at "s"
      refine bF' (γ := Nat) (f := D.int ∘ fun q : Nat => (q : Int)) (fun pre ρ => ∃ x5 x6 x7 x8, ρ = ⟨[some (.fz (.obj m)), some (.fz (.obj k)), some (.fz (dNz (G.map wdE))), some (.fz (.str [a])), some (.fz (.str [b])), x5, x6, x7, x8], w1⟩) ⟨_, _, _, _, rfl⟩ ?_ ?_
      . rintro pre q post _ e ⟨x5, x6, x7, x8, rfl⟩
        have hq : q ∈ G.map (·.1) := jH'.mp (by rw [e]; simp)
        obtain ⟨p, hp, rfl⟩ := List.mem_map.mp hq
        obtain ⟨hp1, hp2, hp3⟩ := hkey p hp
        have hlk1 := hlk p hp
        clear e hq es' hkey hlk hnd hlen
        show wD (gN 5 (.int (p.1 : Nat)) _) _
        have kl := jN' h1 hTab hp1 (x := [a] ++ [b]) (by simp [ha, hb])
        have kr := jN' h1 hTab hp1 (x := [b] ++ [a]) (by simp [ha, hb])
        have hl1 := f9' (L := L) (x := [a] ++ [b]) hTab hp1 (by simp [ha, hb])
        have hl2 := f9' (L := L) (x := [b] ++ [a]) hTab hp1 (by simp [ha, hb])
        generalize run L T' p.1 ([a] ++ [b]) = sl at kl hl1
        generalize run L T' p.1 ([b] ++ [a]) = sr at kr hl2
        walk_at "s"
        refine kl.mono ?_
        rintro _ w1 ⟨rfl, rfl⟩
        clear kl
        walk_at "s"
        refine kr.mono ?_
        rintro _ w1 ⟨rfl, rfl⟩
        clear kr
        walk_at "s"
        refine aP' (fun hs => ?_) (fun hs => ?_)
        . walk_at "s"
          exact ⟨_, _, _, _, rfl⟩
        . have hs' : sl ≠ sr := fun e => hs (by rw [e])
          have kt := qf' hW1 h1 hP' hL hA hap hl1 hl2 hs'
          clear hap hL hA hP' hs hs'
          walk_at "s"
          refine kt.mono ?_
          rintro _ w2 ⟨k1, rfl, m1, kt⟩
          obtain ⟨l1, hm1⟩ := id m1.mc
          have f1 := hm1.fl
          have f3 := hm1.fa
          clear hm1
          walk_at "s"
          refine kt.mono ?_
          rintro _ w3 ⟨k2, rfl, m2, kt⟩
          walk_at "s"
          refine kt.mono ?_
          rintro _ w4 ⟨⟨v, rfl, hv, hvl⟩, hW4, hE4, m4⟩
          have kl2 := jN' m4 hTab hl1 hv
          obtain ⟨l4, hm4⟩ := id m4.mc
          have f1 := hm4.fl
          have f3 := hm4.fa
          have hE5 := hE1.trans hE4
          have hvl2 := Nat.le_trans hvl (Nat.mul_le_mul hle hle)
          have hp4 : p.2.length <= T.length := by omega
          clear kt m1 m2 m4 hm4 hE1 hE4 hvl hp3 hle hTab hW1 h1
          walk_at "s"
          refine kl2.mono ?_
          rintro _ w4 ⟨rfl, rfl⟩
          clear kl2
          walk_at "s"
          refine aP' (fun hs => ?_) (fun hs => ?_)
          . walk_at "s"
            exact ⟨_, rfl, .inr ⟨p.2, v, a, b, rfl, hp2, hv, ha, hb, hp4, hvl2⟩⟩
          . walk_at "s"
            exact ⟨_, rfl, .inr ⟨p.2, v, b, a, rfl, hp2, hv, hb, ha, hp4, hvl2⟩⟩
      . rintro _ ⟨x5, x6, x7, x8, rfl⟩
        exact ⟨_, _, _, _, _, _, _, rfl, .inr rfl⟩
  . rintro _ ⟨x2, x3, x4, x5, x6, x7, x8, rfl, -⟩
    walk_at "s"
    exact ⟨_, rfl, .inl rfl⟩
def okD (d : D) : Prop := plD d = true /\ ∀ ds, d = .tup ds -> ∀ x ∈ ds, plD x = true
def rp (d : D) : Prop := yl' d = true /\ dep d <= 40 /\ oW' d = true /\ nc' d <= 200000 /\ same d d = true
def gx (d : D) : Prop := plD d = true /\ dat d = true /\ dep d <= 3 /\ oW' d = true /\ nc' d <= 100
theorem rA' : ∀ {ds : List D}, (∀ d ∈ ds, gx d) -> dats ds = true /\ deps ds <= 3 /\ repIs ds = true /\ repWs ds <= 101 * ds.length
  | [], _ => ⟨rfl, by decide, rfl, by decide⟩
  | d :: r, h => by
    obtain ⟨h1, h2, h3, h4, h5⟩ := h d (List.mem_cons_self ..)
    obtain ⟨a1, a2, a3, a4⟩ := rA' fun x hx => h x (List.mem_cons_of_mem _ hx)
    refine ⟨?_, ?_, ?_, ?_⟩
    . show (dat d && dats r) = true
      rw [h2, a1]; rfl
    . show max (dep d) (deps r) <= 3
      omega
    . show (oW' d && repIs r) = true
      rw [h4, a3]; rfl
    . show nc' d + 1 + repWs r <= 101 * (r.length + 1)
      omega
theorem yg' {ds : List D} (h : ∀ d ∈ ds, gx d) (hl : ds.length <= 100) : okD (.tup ds) /\ rp (.tup ds) := by
  obtain ⟨a1, a2, a3, a4⟩ := rA' h
  refine ⟨⟨rfl, ?_⟩, qC' (d := .tup ds) a1, ?_, a3, ?_, dj' _ a1⟩
  . rintro _ ⟨⟩ x hx
    exact (h x hx).1
  . show deps ds + 1 <= 40
    omega
  . show repWs ds <= 200000
    omega
theorem yh' {ds : List D} (h : ∀ d ∈ ds, gx d) (hl : ds.length <= 100) : okD (.lst ds) /\ rp (.lst ds) := by
  obtain ⟨a1, a2, a3, a4⟩ := rA' h
  refine ⟨⟨rfl, nofun⟩, a1, ?_, a3, ?_, dj' _ a1⟩
  . show deps ds + 1 <= 40
    omega
  . show repWs ds <= 200000
    omega
theorem zg' {i : Int} (h : i.natAbs < 10 ^ 60) : gx (.int i) := ⟨rfl, rfl, Nat.zero_le 3, decide_eq_true h, Nat.zero_le 100⟩
theorem vW' {d : D} (h : gx d) (h2 : ∀ ds, d ≠ .tup ds) : okD d /\ rp d := by
  obtain ⟨h1, a1, a2, a3, a4⟩ := h
  exact ⟨⟨h1, fun ds e => absurd e (h2 ds)⟩, qC' a1, by omega, a3, by omega, dj' _ a1⟩
theorem en' {w : W} {L : Tx} {T : List (List Nat)} {A : List Nat} {x : Tx} (hT : bf' T T.length L.length) (hs : 0 < T.length) (hx : ∀ c ∈ x, c ∈ L) : wF (f__law_says [.str L, dc' T, dB' A, .str x] w) (fun o w' => o = .fz (.bl (decide (run L T 0 x ∈ A))) /\ w' = w) FX := by
  unfold f__law_says
  walk_at "f"
  refine bF' (fun pre ρ => ∃ y, ρ = ⟨[some (.fz (.str L)), some (.fz (dc' T)), some (.fz (dB' A)), some (.fz (.str x)), some (.fz (.int (run L T 0 pre : Nat))), y], w⟩ /\ run L T 0 pre < T.length) ⟨_, rfl, hs⟩ ?_ ?_
  . rintro pre c post _ e ⟨y, rfl, hr⟩
    have hc := hx c (by rw [e]; simp)
    obtain ⟨r, h3, h4, h5⟩ := m0' hT hr hc
    have h6 := nJ' hc
    rw [nb']
    clear hc e
    walk_at "s"
    exact ⟨_, rfl⟩
  . rintro _ ⟨y, rfl, hr⟩
    walk_at "s"
theorem o1' {w : W} {n : Nat} {L : Tx} {m : Nat} (h : ch' w n) (hl : 1 <= L.length) (hl2 : L.length < 1000) (hm : m < 100000) : wF (f__law_word [.obj n, .str L, .int m] w) (fun o w' => ∃ s : Tx, o = .fz (.str s) /\ s.length = m /\ (∀ c ∈ s, c ∈ L) /\ ch' w' n /\ But n w w') FX := by
  unfold f__law_word
  walk_at "f"
  refine d4' (fun k ρ => ∃ x w', ∃ s : Tx, ρ = ⟨[some (.fz (.obj n)), some (.fz (.str L)), some (.fz (.int m)), some (.fz (.str s)), x], w'⟩ /\ s.length = k /\ (∀ c ∈ s, c ∈ L) /\ ch' w' n /\ But n w w') ⟨_, _, _, rfl, rfl, by simp, h, But.refl⟩ ?_ ?_
  . rintro k _ hk ⟨x, w1, s, rfl, hs, hc, h1, b1⟩
    walk_at "s"
    refine (bq' h1 (by omega) (by omega)).mono ?_
    rintro _ w2 ⟨d, rfl, hd, h2, b2⟩
    walk_at "s"
    refine bv' (by omega) fun c hcL _ => ?_
    walk_at "s"
    exact ⟨_, _, s ++ [c], rfl, by simp [hs], by simpa [or_imp, forall_and] using ⟨hc, hcL⟩, h2, b1.trans b2⟩
  . rintro _ ⟨x, w1, s, rfl, hs, hc, h1, b1⟩
    walk_at "s"
    exact ⟨s, rfl, hs, hc⟩
structure StC (w : W) (C : String) (L : Tx) (T : List (List Nat)) (A : List Nat) : Prop where
  ok : WOk w
  hand : ch' w 0
  mac : MM w 1 C L T A
theorem StC.evo {w w' : W} {C L T A} (h : StC w C L T A) (hW : WOk w') (e : Evo w w') : StC w' C L T A := ⟨hW, e.hand _ h.hand, h.mac.evo e⟩
theorem StC.but {w w' : W} {C L T A} (h : StC w C L T A) (hh : ch' w' 0) (b : But 0 w w') : StC w' C L T A /\ Evo w w' := by
  obtain ⟨h1, h2⟩ := h.ok.but h.hand hh b
  exact ⟨h.evo h1 h2, h2⟩
theorem wL' {w : W} {C L T A} {m : Int} (h : StC w C L T A) (h1 : 0 < m) (h2 : m < 1606938044258990275541962092341162602522202993782792835301376) : wF (f__law_draw [.obj 0, .int m] w) (fun o w' => ∃ d : Nat, o = .fz (.int (d : Nat)) /\ (d : Int) < m /\ StC w' C L T A /\ Evo w w') FX := by
  refine (bq' h.hand h1 h2).mono ?_
  rintro _ w1 ⟨d, rfl, hd, hh, b⟩
  exact ⟨d, rfl, hd, h.but hh b⟩
theorem kF' {w : W} {C L T A} {L' : Tx} {m : Nat} (h : StC w C L T A) (hl : 1 <= L'.length) (hl2 : L'.length < 1000) (hm : m < 100000) : wF (f__law_word [.obj 0, .str L', .int m] w) (fun o w' => ∃ s : Tx, o = .fz (.str s) /\ s.length = m /\ (∀ c ∈ s, c ∈ L') /\ StC w' C L T A /\ Evo w w') FX := by
  refine (o1' h.hand hl hl2 hm).mono ?_
  rintro _ w1 ⟨s, rfl, h1, h2, hh, b⟩
  exact ⟨s, rfl, h1, h2, h.but hh b⟩
theorem vR' {w2 : W} {C : String} {L : Tx} {T : List (List Nat)} {A : List Nat} (hC : C = "Machine" \/ C = "RawMachine") (h2 : ch' w2 0) (hl2 : w2.length = 1) : StC (w2 ++ [mkM C L T A .non cO']) C L T A := by
  have hw0 : WOk w2 := by
    obtain ⟨a, b, c, d, e, f, _⟩ := h2
    match w2, hl2, f with
    | [x], _, f =>
      have : x = _ := Option.some.inj f
      subst this
      exact .one
  have := MM.new (w := w2) (C := C) (L := L) (T := T) (A := A) (l := .non) hC Rs.z
  rw [hl2] at this
  exact ⟨hw0.mach.1, h2.snoc, this⟩
def ltD (L : Tx) : D -> Bool
  | .str s => (s.all fun c => decide (c ∈ L)) && decide ((s.length : Int) = 1)
  | _ => false
def d3' (L : Tx) : D -> Bool
  | .tup [u, a, b, v] => ltD L a && (ltD L b && (wdD L u && wdD L v))
  | _ => false
def Au' (L : Tx) (T : List (List Nat)) (A : List Nat) : D -> D
  | .tup [.str u, .str a, .str b, .str v] => if run L T 0 (u ++ a ++ b ++ v) ∈ A then (if run L T 0 (u ++ b ++ a ++ v) ∈ A then .tup [.str [97, 108, 105, 107, 101]] else .non) else .tup [.str [110, 111]]
  | _ => .non
def dS' (L : Tx) (T : List (List Nat)) (A : List Nat) (d : D) : D := if d3' L d then Au' L T A d else .tup [.str [102, 111, 114, 109]]
structure Th (d : D) : Prop where
  ok : okD d
  rep : rp d
  sh : ∀ ds, d = .tup ds -> ∀ x ∈ ds, ∀ s, x = .str s -> s.length <= 100
theorem lb' {L : Tx} {d : D} (h : ltD L d = true) : ∃ c, d = .str [c] /\ c ∈ L := by
  cases d <;> try (cases h; done)
  rename_i s
  have h : (s.all (fun c => decide (c ∈ L)) && decide ((s.length : Int) = 1)) = true := h
  rw [Bool.and_eq_true] at h
  obtain ⟨h1, h2⟩ := h
  have h2 : s.length = 1 := by have := of_decide_eq_true h2; omega
  match s, h2 with
  | [c], _ =>
    refine ⟨c, rfl, ?_⟩
    simpa using h1
theorem rB' {L : Tx} {d : D} (h : d3' L d = true) : ∃ u a b v, d = .tup [.str u, .str [a], .str [b], .str v] /\ (∀ c ∈ u, c ∈ L) /\ a ∈ L /\ b ∈ L /\ ∀ c ∈ v, c ∈ L := by
  unfold d3' at h
  split at h
  . rename_i u a b v
    simp only [Bool.and_eq_true] at h
    obtain ⟨h1, h2, h3, h4⟩ := h
    obtain ⟨a, rfl, ha⟩ := lb' h1
    obtain ⟨b, rfl, hb⟩ := lb' h2
    obtain ⟨u, rfl, hu⟩ := eD' h3
    obtain ⟨v, rfl, hv⟩ := eD' h4
    exact ⟨u, a, b, v, rfl, hu, ha, hb, hv⟩
  . cases h
theorem fc' {w : W} {m : Nat} {C : String} {L : Tx} {T : List (List Nat)} {A : List Nat} {d : D} (h : MM w m C L T A) (hd : plD d = true) : wF (f_is_letter [.obj m, d] w) (fun o w' => o = .fz (.bl (ltD L d)) /\ w' = w) FX := by
  obtain ⟨l, hm⟩ := h.mc
  have h1 := hm.fl
  unfold f_is_letter
  walk_at "f0"
  clear h hm
  walk_at "s"
  by_cases hs : ∃ s, d = .str s
  . obtain ⟨s, rfl⟩ := hs
    refine (b9' s L w).mono ?_
    rintro _ _ ⟨rfl, rfl⟩
    cases hb : s.all fun c => decide (c ∈ L) with
    | true =>
      walk_at "s"
      show O.fz (D.bl _) = O.fz (D.bl (s.all (fun c => decide (c ∈ L)) && _))
      rw [hb]; rfl
    | false =>
      walk_at "s"
      show O.fz (D.bl _) = O.fz (D.bl (s.all (fun c => decide (c ∈ L)) && _))
      rw [hb]; rfl
  . have h2 : ∃ t, tyn d = some t /\ t ≠ "str" := by
      cases d <;> simp [plD, tyn] at hd ⊢
      exact hs ⟨_, rfl⟩
    refine (dp' h2 L w).mono ?_
    rintro _ _ ⟨rfl, rfl⟩
    have h3 : ltD L d = false := by
      cases d <;> first | rfl | exact absurd ⟨_, rfl⟩ hs
    rw [h3]
    clear h2 hs
    walk_at "s"
theorem gw' {w : W} {m : Nat} {C : String} {L : Tx} {T : List (List Nat)} {A : List Nat} {d : D} (h : MM w m C L T A) (hd : okD d) : wF (f_is_swap_form [.obj m, d] w) (fun o w' => o = .fz (.bl (d3' L d)) /\ w' = w) FX := by
  obtain ⟨hp, hq⟩ := hd
  unfold f_is_swap_form
  by_cases ht : ∃ ds, d = .tup ds
  . obtain ⟨ds, rfl⟩ := ht
    have hq := hq ds rfl
    by_cases hl : ds.length = 4
    . match ds, hl, hq with
      | [u, a, b, v], _, hq =>
        have k1 := fc' h (hq a (by simp))
        have k2 := fc' h (hq b (by simp))
        have k3 := hI' h (hq u (by simp))
        have k4 := hI' h (hq v (by simp))
        have e : d3' L (.tup [u, a, b, v]) = (ltD L a && (ltD L b && (wdD L u && wdD L v))) := rfl
        rw [e]
        generalize ltD L a = ba at *
        generalize ltD L b = bb at *
        generalize wdD L u = bu at *
        generalize wdD L v = bv at *
        clear hq h e hp
        walk_at "f0"
        walk_at "s"
        refine k1.mono ?_
        rintro _ w ⟨rfl, rfl⟩
        clear k1
        cases ba with
        | false =>
          clear k2 k3 k4
          walk_at "s"
        | true =>
          walk_at "s"
          refine k2.mono ?_
          rintro _ w ⟨rfl, rfl⟩
          clear k2
          cases bb with
          | false =>
            clear k3 k4
            walk_at "s"
          | true =>
            walk_at "s"
            refine k3.mono ?_
            rintro _ w ⟨rfl, rfl⟩
            clear k3
            cases bu with
            | false =>
              clear k4
              walk_at "s"
            | true =>
              walk_at "s"
              refine k4.mono ?_
              rintro _ w ⟨rfl, rfl⟩
              clear k4
              walk_at "s"
    . have e : d3' L (.tup ds) = false := by
        unfold d3'
        split
        . rename_i h
          cases h
          exact absurd rfl hl
        . rfl
      have hl' : ¬ ((ds.length : Int) = 4) := fun h => hl (by omega)
      rw [e]
      clear h e hp hl hq
      walk_at "f0"
      walk_at "s"
  . have e : d3' L d = false := by
      unfold d3'
      split
      . exact absurd ⟨_, rfl⟩ ht
      . rfl
    rw [e]
    cases d <;> simp [plD, tyn] at hp
    case tup ds => exact absurd ⟨_, rfl⟩ ht
    all_goals clear h hq ht e
    all_goals walk_at "f0"
    all_goals walk_at "s"
theorem AE' {L u v : Tx} {a b : Nat} (hu : ∀ c ∈ u, c ∈ L) (ha : a ∈ L) (hb : b ∈ L) (hv : ∀ c ∈ v, c ∈ L) : ∀ c ∈ u ++ [a] ++ [b] ++ v, c ∈ L := by
  intro c hc
  simp only [List.mem_append, List.mem_singleton] at hc
  rcases hc with ((h | rfl) | rfl) | h
  . exact hu c h
  . exact ha
  . exact hb
  . exact hv c h
theorem fJ' {u v : Tx} {a b : Nat} (hu : u.length <= 100) (hv : v.length <= 100) : List.length (u ++ [a]) + 1 <= 16777216 /\ List.length (u ++ [a] ++ [b]) + v.length <= 16777216 := by
  simp only [List.length_append, List.length_singleton]
  omega
theorem h9' {w : W} {m : Nat} {C : String} {L : Tx} {T : List (List Nat)} {A : List Nat} {d : D} (h : MM w m C L T A) (hT : bf' T T.length L.length) (hn : 0 < T.length) (hd : Th d) : wF (f_swap_fault [.obj m, d] w) (fun o w' => o = .fz (dS' L T A d) /\ w' = w) FX := by
  have k1 := gw' h hd.ok
  unfold f_swap_fault dS'
  cases hg : d3' L d with
  | false =>
    rw [hg] at k1
    rw [if_neg Bool.false_ne_true]
    clear hg h hd hT hn
    walk_at "f0"
    walk_at "s"
    refine k1.mono ?_
    rintro _ w ⟨rfl, rfl⟩
    clear k1
    walk_at "s"
  | true =>
    rw [hg] at k1
    rw [if_pos rfl]
    obtain ⟨u, a, b, v, rfl, hu, ha, hb, hv⟩ := rB' hg
    have hul := hd.sh _ rfl (.str u) (by simp) u rfl
    have hvl := hd.sh _ rfl (.str v) (by simp) v rfl
    have k2 := jN' h hT hn (x := u ++ [a] ++ [b] ++ v) (AE' hu ha hb hv)
    have k3 := jN' h hT hn (x := u ++ [b] ++ [a] ++ v) (AE' hu hb ha hv)
    obtain ⟨l, hm⟩ := h.mc
    have h3 := hm.fa
    have es : Au' L T A (.tup [.str u, .str [a], .str [b], .str v]) = if run L T 0 (u ++ [a] ++ [b] ++ v) ∈ A then (if run L T 0 (u ++ [b] ++ [a] ++ v) ∈ A then .tup [.str [97, 108, 105, 107, 101]] else .non) else .tup [.str [110, 111]] := rfl
    rw [es]
    generalize run L T 0 (u ++ [a] ++ [b] ++ v) = r1 at *
    generalize run L T 0 (u ++ [b] ++ [a] ++ v) = r2 at *
    obtain ⟨n1, n2⟩ := fJ' (a := a) (b := b) hul hvl
    obtain ⟨n3, n4⟩ := fJ' (a := b) (b := a) hul hvl
    clear hg h hd hT hn hm hu ha hb hv es
    walk_at "f0"
    walk_at "s"
    refine k1.mono ?_
    rintro _ w ⟨rfl, rfl⟩
    clear k1
    walk_at "s"
    refine k2.mono ?_
    rintro _ w ⟨rfl, rfl⟩
    clear k2
    walk_at "s"
    rw [tC']
    walk_at "s"
    refine aP' (fun c0 => ?_) (fun c0 => ?_)
    . rw [if_pos c0]
      walk_at "s"
      refine k3.mono ?_
      rintro _ w ⟨rfl, rfl⟩
      clear k3
      walk_at "s"
      refine aP' (fun c1 => ?_) (fun c1 => ?_)
      . rw [if_pos c1]
        walk_at "s"
      . rw [if_neg c1]
        walk_at "s"
    . rw [if_neg c0]
      clear k3
      walk_at "s"
theorem jQ' {w : W} {L : Tx} {d : D} (hd : plD d = true) (hx : ∀ s, d = .str s -> s.length <= 16777216) : wF (f__law_is_word [.str L, d] w) (fun o w' => o = .fz (.bl (wdD L d)) /\ w' = w) FX := by
  unfold f__law_is_word
  by_cases hs : ∃ s, d = .str s
  . obtain ⟨x, rfl⟩ := hs
    have e : wdD L (.str x) = x.all fun c => decide (c ∈ L) := rfl
    rw [e]
    have hx := hx x rfl
    clear e hd
    walk_at "f0"
    walk_at "s"
    refine fa' hx (fun pre acc ρ => acc = (pre.map fun c => decide (c ∈ L)).map .bl /\ ∃ y, ρ = ⟨[some (.fz (.str L)), some (.fz (.str x)), y], w⟩) ⟨rfl, _, rfl⟩ ?_ ?_
    . rintro pre c post acc _ e ⟨rfl, y, rfl⟩
      clear e
      walk_at "s"
      exact ⟨by simp, _, rfl⟩
    . rintro acc _ ⟨rfl, y, rfl⟩
      rw [xd']
      walk_at "s"
      rw [show ((x.map fun c => decide (c ∈ L)).all id) = x.all fun c => decide (c ∈ L) by rw [List.all_map]; rfl]
  . have h3 : wdD L d = false := by
      cases d <;> first | rfl | exact absurd ⟨_, rfl⟩ hs
    rw [h3]
    cases d <;> simp [plD, tyn] at hd
    case str s => exact absurd ⟨_, rfl⟩ hs
    all_goals clear hs h3
    all_goals walk_at "f0"
    all_goals walk_at "s"
theorem lX' {L : Tx} {d : D} (h : wdD L d = false) : ltD L d = false := by
  cases e : ltD L d with
  | false => rfl
  | true =>
    obtain ⟨c, rfl, hc⟩ := lb' e
    rw [vj' (by simpa using hc)] at h
    cases h
theorem uH' {L a : Tx} (h : wdD L (.str a) = true) : ltD L (.str a) = decide ((a.length : Int) = 1) := by
  show (a.all (fun c => decide (c ∈ L)) && _) = _
  rw [show (a.all fun c => decide (c ∈ L)) = true from h]
  rfl
theorem tw' {L : Tx} {T : List (List Nat)} {A : List Nat} {d : D} (hT : bf' T T.length L.length) (hn : 0 < T.length) (hd : Th d) (w : W) : wF (f__law_due [.str L, dc' T, dB' A, d] w) (fun o w' => o = .fz (dS' L T A d) /\ w' = w) FX := by
  obtain ⟨⟨hp, hq⟩, _, hsh⟩ := hd
  unfold f__law_due
  by_cases ht : ∃ ds, d = .tup ds
  . obtain ⟨ds, rfl⟩ := ht
    have hq := hq ds rfl
    have hsh := hsh ds rfl
    by_cases hl : ds.length = 4
    . match ds, hl, hq, hsh with
      | [u, a, b, v], _, hq, hsh =>
        have kw : ∀ x ∈ [u, a, b, v], ∀ w : W, wF (f__law_is_word [.str L, x] w) (fun o w' => o = .fz (.bl (wdD L x)) /\ w' = w) FX := fun x hx w => jQ' (hq x hx) fun s e => by
          have := hsh x hx s e
          omega
        have eg : d3' L (.tup [u, a, b, v]) = (ltD L a && (ltD L b && (wdD L u && wdD L v))) := rfl
        have hlen : ∀ x ∈ [u, a, b, v], ∀ s, x = D.str s -> s.length <= 100 := hsh
        unfold dS'
        rw [eg]
        have kw' := kw
        clear kw hq hsh hp eg
        walk_at "f0"
        walk_at "s"
        refine hG' (γ := D) (f := id) (cs := [u, a, b, v]) (fun x => .bl (wdD L x)) (by show 4 <= 16777216; omega) ?_ ?_
        . intro x hx
          have k := kw' x hx w
          clear kw' hlen hx
          show wD (gN 8 x _) _
          walk_at "s"
          refine k.mono ?_
          rintro _ w ⟨rfl, rfl⟩
          clear k
          walk_at "s"
        walk_at "l"
        clear kw'
        have ea : [u, a, b, v].map (fun x => D.bl (wdD L x)) = [wdD L u, wdD L a, wdD L b, wdD L v].map .bl := rfl
        rw [ea, xd']
        clear ea
        walk_at "s"
        cases hall : [wdD L u, wdD L a, wdD L b, wdD L v].all id with
        | false =>
          have e : (ltD L a && (ltD L b && (wdD L u && wdD L v))) = false := by
            cases h1 : wdD L a with
            | false => rw [lX' h1]; rfl
            | true =>
              cases h2 : wdD L b with
              | false => rw [lX' h2, Bool.false_and, Bool.and_false]
              | true =>
                rw [h1, h2] at hall
                cases h3 : wdD L u with
                | false => simp
                | true =>
                  rw [h3] at hall
                  cases h4 : wdD L v with
                  | false => simp
                  | true => rw [h4] at hall; cases hall
          rw [e, if_neg Bool.false_ne_true]
          clear hall hlen e hT hn
          walk_at "s"
        | true =>
          have h4 : wdD L u = true /\ wdD L a = true /\ wdD L b = true /\ wdD L v = true := by
            simpa using hall
          obtain ⟨h1, h2, h3, h4⟩ := h4
          obtain ⟨u, rfl, hu⟩ := eD' h1
          obtain ⟨a, rfl, ha⟩ := eD' h2
          obtain ⟨b, rfl, hb⟩ := eD' h3
          obtain ⟨v, rfl, hv⟩ := eD' h4
          rw [uH' h2, uH' h3, h1, h4, Bool.and_true, Bool.and_true]
          have hul := hlen (.str u) (by simp) u rfl
          have hvl := hlen (.str v) (by simp) v rfl
          clear h1 h2 h3 h4 hall hlen
          walk_at "s"
          by_cases c1 : (a.length : Int) = 1
          . by_cases c2 : (b.length : Int) = 1
            . match a, c1, b, c2 with
              | [a], _, [b], _ =>
                have ha := ha a (by simp)
                have hb := hb b (by simp)
                have k2 := en' (A := A) (w := w) hT hn (x := u ++ [a] ++ [b] ++ v) (AE' hu ha hb hv)
                have k3 := en' (A := A) (w := w) hT hn (x := u ++ [b] ++ [a] ++ v) (AE' hu hb ha hv)
                have es : Au' L T A (.tup [.str u, .str [a], .str [b], .str v]) = if run L T 0 (u ++ [a] ++ [b] ++ v) ∈ A then (if run L T 0 (u ++ [b] ++ [a] ++ v) ∈ A then .tup [.str [97, 108, 105, 107, 101]] else .non) else .tup [.str [110, 111]] := rfl
                rw [es]
                generalize run L T 0 (u ++ [a] ++ [b] ++ v) = r1 at *
                generalize run L T 0 (u ++ [b] ++ [a] ++ v) = r2 at *
                obtain ⟨n1, n2⟩ := fJ' (a := a) (b := b) hul hvl
                obtain ⟨n3, n4⟩ := fJ' (a := b) (b := a) hul hvl
                clear hT hn hu ha hb hv es hvl c1 c2
                rw [show decide ((List.length [a] : Int) = 1) = true by simp, show decide ((List.length [b] : Int) = 1) = true by simp]
                walk_at "s"
                refine k2.mono ?_
                rintro _ w ⟨rfl, rfl⟩
                clear k2
                walk_at "s"
                refine aP' (fun c0 => ?_) (fun c0 => ?_)
                . rw [if_pos c0]
                  walk_at "s"
                  refine k3.mono ?_
                  rintro _ w ⟨rfl, rfl⟩
                  clear k3
                  walk_at "s"
                  refine aP' (fun c1 => ?_) (fun c1 => ?_)
                  . rw [if_pos c1]
                    walk_at "s"
                  . rw [if_neg c1]
                    walk_at "s"
                . rw [if_neg c0]
                  clear k3
                  walk_at "s"
            . clear hT hn hu ha hb hv
              rw [decide_eq_true c1, decide_eq_false c2, Bool.true_and, if_neg Bool.false_ne_true]
              walk_at "s"
          . clear hT hn hu ha hb hv
            rw [decide_eq_false c1, Bool.false_and, if_neg Bool.false_ne_true]
            walk_at "s"
    . have e : d3' L (.tup ds) = false := by
        unfold d3'
        split
        . rename_i h
          cases h
          exact absurd rfl hl
        . rfl
      have hl' : ¬ ((ds.length : Int) = 4) := fun h => hl (by omega)
      unfold dS'
      rw [e, if_neg Bool.false_ne_true]
      clear e hp hl hq hsh hT hn
      walk_at "f0"
      walk_at "s"
  . have e : d3' L d = false := by
      unfold d3'
      split
      . exact absurd ⟨_, rfl⟩ ht
      . rfl
    unfold dS'
    rw [e, if_neg Bool.false_ne_true]
    cases d <;> simp [plD, tyn] at hp
    case tup ds => exact absurd ⟨_, rfl⟩ ht
    all_goals clear hq ht e hT hn hsh
    all_goals walk_at "f0"
    all_goals walk_at "s"
theorem fd' {s : Tx} (h : s.length <= 100) : gx (.str s) := ⟨rfl, rfl, Nat.zero_le 3, rfl, h⟩
theorem BG' {d : D} (h : gx d) : ∀ s, d = .str s -> s.length <= 100 := by
  rintro s rfl
  exact h.2.2.2.2
theorem uj' {ds : List D} (h : ∀ d ∈ ds, gx d) (hl : ds.length <= 100) : Th (.tup ds) := by
  obtain ⟨r1, r2⟩ := yg' h hl
  refine ⟨r1, r2, ?_⟩
  rintro _ ⟨⟩ x hx
  exact BG' (h x hx)
theorem x1' {ds : List D} (h : ∀ d ∈ ds, gx d) (hl : ds.length <= 100) : Th (.lst ds) := by
  obtain ⟨r1, r2⟩ := yh' h hl
  exact ⟨r1, r2, nofun⟩
theorem qe' {d : D} (h : gx d) (h2 : ∀ ds, d ≠ .tup ds) : Th d := by
  obtain ⟨r1, r2⟩ := vW' h h2
  exact ⟨r1, r2, fun ds e => absurd e (h2 ds)⟩
def se (d : D) : Prop := (∃ s, d = .str s /\ s.length <= 100) \/ d = .dct [] []
theorem uq' : ∀ {ds : List D}, (∀ d ∈ ds, se d) -> (ds.all fun d => da' d || xv' d) = true /\ deps ds <= 3 /\ repIs ds = true /\ repWs ds <= 101 * ds.length /\ sames ds ds = true
  | [], _ => ⟨rfl, by decide, rfl, by decide, rfl⟩
  | d :: r, h => by
    obtain ⟨a1, a2, a3, a4, a5⟩ := uq' fun x hx => h x (List.mem_cons_of_mem _ hx)
    have q : (da' d || xv' d) = true /\ dep d <= 3 /\ oW' d = true /\ nc' d <= 100 /\ same d d = true := by
      rcases h d (List.mem_cons_self ..) with ⟨s, rfl, hs⟩ | rfl
      . exact ⟨rfl, Nat.zero_le 3, rfl, hs, dj' _ rfl⟩
      . exact ⟨rfl, by decide, rfl, by decide, rfl⟩
    obtain ⟨b1, b2, b3, b4, b5⟩ := q
    refine ⟨?_, ?_, ?_, ?_, ?_⟩
    . rw [List.all_cons, b1, a1]; rfl
    . show max (dep d) (deps r) <= 3
      omega
    . show (oW' d && repIs r) = true
      rw [b3, a3]; rfl
    . show nc' d + 1 + repWs r <= 101 * (r.length + 1)
      omega
    . show (same d d && sames r r) = true
      rw [b5, a5]; rfl
theorem vA' {ds : List D} (h : ∀ d ∈ ds, se d) (hl : ds.length <= 100) : Th (.tup ds) := by
  obtain ⟨a1, a2, a3, a4, a5⟩ := uq' h
  refine ⟨⟨rfl, ?_⟩, ⟨?_, ?_, a3, ?_, a5⟩, ?_⟩
  . rintro _ ⟨⟩ x hx
    rcases h x hx with ⟨s, rfl, _⟩ | rfl <;> rfl
  . show (dats ds || ds.all fun d => da' d || xv' d) = true
    rw [a1, Bool.or_true]
  . show deps ds + 1 <= 40
    omega
  . show repWs ds <= 200000
    omega
  . rintro _ ⟨⟩ x hx s rfl
    rcases h _ hx with ⟨s', e, hs⟩ | e
    . cases e; exact hs
    . cases e
def Gd (ds : List D) : Prop := (∀ x ∈ ds, gx x) \/ ∀ x ∈ ds, se x
theorem Gd.th {ds : List D} (h : Gd ds) (hl : ds.length <= 100) : Th (.tup ds) := h.elim (fun h => uj' h hl) fun h => vA' h hl
def AB' (x : D) : Prop := (gx x \/ x = .dct [] []) /\ Th x
theorem rC' {cs : List D} (hc : ∀ x ∈ cs, ∃ s, x = .str s /\ s.length <= 100) {x : D} (hx : AB' x) {ds : List D} (h : ∀ y ∈ ds, y ∈ cs \/ y = x) : Gd ds := by
  rcases hx.1 with hg | rfl
  . refine .inl fun y hy => ?_
    rcases h y hy with h | rfl
    . obtain ⟨s, rfl, hs⟩ := hc y h
      exact fd' hs
    . exact hg
  . refine .inr fun y hy => ?_
    rcases h y hy with h | rfl
    . exact .inl (hc y h)
    . exact .inr rfl
theorem vI' {w : W} {n : Nat} {L : Tx} {cs : List D} (h : ch' w n) (hL1 : 1 <= L.length) (hL3 : L.length <= 3) (hl : cs.length = 4) (hc : ∀ x ∈ cs, ∃ s, x = .str s /\ s.length <= 100) :
    wF (f__law_spoiled [.obj n, .str L, .tup cs] w) (fun o w' => ∃ d, (o = .fz d \/ ∃ ds, d = .lst ds /\ o = .lst (ds.map .fz)) /\ Th d /\ ch' w' n /\ But n w w') FX := by
  have h0 : L[0]? = some L[0] := List.getElem?_eq_getElem hL1
  generalize L[0] = l0 at h0
  unfold f__law_spoiled
  walk_at "f0"
  walk_at "s"
  refine (bq' h (by omega) (by omega)).mono ?_
  rintro _ w1 ⟨way, rfl, hway, h1, b1⟩
  walk_at "s"
  refine (bq' h1 (by omega) (by omega)).mono ?_
  rintro _ w2 ⟨at', rfl, hat, h2, b2⟩
  have hb := b1.trans b2
  clear h h1 b1 b2 h0
  walk_at "s"
  have hod : ∀ x ∈ [D.non, D.int 1, D.bl true, D.str [], D.str [[l0], [l0]].flatten, D.str [63], D.str [65], D.lst [D.str [97]], D.tup [D.str [97]], D.dct [] (frzs []), D.str [l0, 32], D.str [122, 122], D.lst [D.lst []], D.str L], AB' x := by
    intro x hx
    simp only [List.mem_cons, List.not_mem_nil, or_false] at hx
    have gs : ∀ s : Tx, s.length <= 100 -> AB' (.str s) := fun s hs => ⟨.inl (fd' hs), qe' (fd' hs) nofun⟩
    have gl : ∀ d, gx d -> (∀ ds, d ≠ .tup ds) -> AB' d := fun d h h2 => ⟨.inl h, qe' h h2⟩
    rcases hx with rfl | rfl | rfl | rfl | rfl | rfl | rfl | rfl | rfl | rfl | rfl | rfl | rfl | rfl
    . exact gl _ ⟨rfl, rfl, by decide, rfl, by decide⟩ nofun
    . exact gl _ (zg' (by decide)) nofun
    . exact gl _ ⟨rfl, rfl, by decide, rfl, by decide⟩ nofun
    . exact gs _ (by simp)
    . exact gs _ (by simp)
    . exact gs _ (by simp)
    . exact gs _ (by simp)
    . exact gl _ ⟨rfl, rfl, by decide, rfl, by decide⟩ nofun
    . exact ⟨.inl ⟨rfl, rfl, by decide, rfl, by decide⟩, uj' (by simp; exact fd' (by simp)) (by simp)⟩
    . exact ⟨.inr rfl, ⟨⟨rfl, nofun⟩, ⟨rfl, by decide, rfl, by decide, rfl⟩, nofun⟩⟩
    . exact gs _ (by simp)
    . exact gs _ (by simp)
    . exact gl _ ⟨rfl, rfl, by decide, rfl, by decide⟩ nofun
    . exact gs _ (by omega)
  generalize hX : [D.non, D.int 1, D.bl true, D.str [], D.str [[l0], [l0]].flatten, D.str [63], D.str [65], D.lst [D.str [97]], D.tup [D.str [97]], D.dct [] (frzs []), D.str [l0, 32], D.str [122, 122], D.lst [D.lst []], D.str L] = X at hod ⊢
  have hXl : X.length = 14 := by rw [<- hX]; rfl
  clear hX
  have gcs : Gd cs := .inl fun x hx => by
    obtain ⟨s, rfl, hs⟩ := hc x hx
    exact fd' hs
  have pick : ∀ w1 : W, ch' w1 n -> wF (f__law_draw [.obj n, .int 14] w1) (fun o w' => ∃ d : Nat, o = .fz (.int (d : Nat)) /\ (d : Int) < 14 /\ ch' w' n /\ But n w1 w') FX := fun w1 h1 => bq' h1 (by omega) (by omega)
  refine cM' (fun ρ => ∃ ds w', ρ = ⟨[some (.fz (.obj n)), some (.fz (.str L)), some (.fz (.tup cs)), some (.fz (.lst X)), some (.fz (.int (way : Nat))), some (.fz (.int (at' : Nat))), some (.lst (ds.map .fz))], w'⟩ /\ ch' w' n /\ But n w w' /\ Gd ds /\ ds.length = 4 /\ (way ≠ 0 -> ds = cs)) ?_ ?_
  . refine aP' (fun c0 => ?_) (fun c0 => ?_)
    . have nc : ¬ (way ≠ 0) := fun h => h (by omega)
      clear c0
      walk_at "s"
      refine (pick w2 h2).mono ?_
      rintro _ w3 ⟨q, rfl, hq, h3, b3⟩
      have hb3 := hb.trans b3
      walk_at "s"
      refine bv' (by omega) fun x hx _ => ?_
      have hx := hod x hx
      clear pick hod b3 hb h2 gcs
      walk_at "s"
      exact ⟨cs.set at' x, _, by rw [List.map_set], h3, hb3, rC' hc hx (fun y hy => List.mem_or_eq_of_mem_set hy), by rw [List.length_set]; exact hl, False.elim⟩
    . walk_at "s"
      exact ⟨_, _, rfl, h2, hb, gcs, hl, fun _ => rfl⟩
  clear h2 hb
  rintro _ ⟨ds, w3, rfl, h3, b3, g3, l3, e3⟩
  walk_at "s"
  refine aP' (fun c1 => ?_) (fun c1 => ?_)
  . have e := e3 (by omega)
    have hds : ∀ d ∈ ds, gx d := fun x hx => by
      rw [e] at hx
      obtain ⟨s, rfl, hs⟩ := hc x hx
      exact fd' hs
    clear e c1 e3
    walk_at "s"
    exact ⟨.lst ds, .inr ⟨ds, rfl, rfl⟩, x1' hds (by omega)⟩
  walk_at "s"
  refine cM' (fun ρ => ∃ ds w', ρ = ⟨[some (.fz (.obj n)), some (.fz (.str L)), some (.fz (.tup cs)), some (.fz (.lst X)), some (.fz (.int (way : Nat))), some (.fz (.int (at' : Nat))), some (.lst (ds.map .fz))], w'⟩ /\ ch' w' n /\ But n w w' /\ Gd ds /\ ds.length <= 4 /\ (way ≠ 0 -> way ≠ 2 -> ds = cs)) ?_ ?_
  . refine aP' (fun c2 => ?_) (fun c2 => ?_)
    . have nc : ¬ (way ≠ 2) := fun h => h (by omega)
      have e := e3 (by omega)
      have ls : (ds.take at' ++ ds.drop (at' + 1)).length <= 4 := by
        rw [List.length_append, List.length_take, List.length_drop]; omega
      have gs : Gd (ds.take at' ++ ds.drop (at' + 1)) := .inl fun x hx => by
        have : x ∈ ds := (List.mem_append.mp hx).elim List.mem_of_mem_take List.mem_of_mem_drop
        rw [e] at this
        obtain ⟨s, rfl, hs⟩ := hc x this
        exact fd' hs
      have ls2 : (ds.take at').length + (ds.drop (at' + 1)).length <= 16777216 := by
        rw [List.length_take, List.length_drop]; omega
      clear c2 c1 e e3 pick hod
      walk_at "s"
      exact ⟨_, _, rfl, h3, b3, gs, ls, fun _ h => h.elim⟩
    . walk_at "s"
      exact ⟨_, _, rfl, h3, b3, g3, by omega, fun h _ => e3 h⟩
  clear h3 b3 g3 l3 e3 ds
  rintro _ ⟨ds, w4, rfl, h4, b4, g4, l4, e4⟩
  walk_at "s"
  refine cM' (fun ρ => ∃ ds w', ρ = ⟨[some (.fz (.obj n)), some (.fz (.str L)), some (.fz (.tup cs)), some (.fz (.lst X)), some (.fz (.int (way : Nat))), some (.fz (.int (at' : Nat))), some (.lst (ds.map .fz))], w'⟩ /\ ch' w' n /\ But n w w' /\ Gd ds /\ ds.length <= 5 /\ (way = 4 -> ds = cs)) ?_ ?_
  . refine aP' (fun c2 => ?_) (fun c2 => ?_)
    . have e := e4 (by omega) (by omega)
      have nw : ¬ (way = 4) := by omega
      clear c2 c1 e4
      walk_at "s"
      refine (pick w4 h4).mono ?_
      rintro _ w5 ⟨q, rfl, hq, h5, b5⟩
      have hb5 := b4.trans b5
      walk_at "s"
      refine bv' (by omega) fun x hx _ => ?_
      have hx := hod x hx
      clear pick hod b5 b4 h4
      walk_at "s"
      exact ⟨cs ++ [x], _, rfl, h5, hb5, rC' hc hx (fun y hy => by simpa using hy), by rw [List.length_append, List.length_singleton]; omega, False.elim⟩
    . walk_at "s"
      exact ⟨_, _, rfl, h4, b4, g4, by omega, fun h => e4 (by omega) (by omega)⟩
  clear h4 b4 g4 l4 e4 ds
  rintro _ ⟨ds, w5, rfl, h5, b5, g5, l5, e5⟩
  walk_at "s"
  refine cM' (fun ρ => ∃ ds w', ρ = ⟨[some (.fz (.obj n)), some (.fz (.str L)), some (.fz (.tup cs)), some (.fz (.lst X)), some (.fz (.int (way : Nat))), some (.fz (.int (at' : Nat))), some (.lst (ds.map .fz))], w'⟩ /\ ch' w' n /\ But n w w' /\ Gd ds /\ ds.length <= 5) ?_ ?_
  . refine aP' (fun c2 => ?_) (fun c2 => ?_)
    . have e := e5 (by omega)
      subst e
      match ds, hl, hc with
      | [p0, p1, p2, p3], _, hc =>
        clear c2 c1 e5
        walk_at "s"
        exact ⟨[p0, p2, p1, p3], _, rfl, h5, b5, .inl (fun x hx => by
          obtain ⟨s, rfl, hs⟩ := hc x (by
            simp only [List.mem_cons, List.not_mem_nil, or_false] at hx ⊢
            rcases hx with rfl | rfl | rfl | rfl <;> simp)
          exact fd' hs), by simp⟩
    . walk_at "s"
      exact ⟨_, _, rfl, h5, b5, g5, l5⟩
  clear h5 b5 g5 l5 e5 ds
  rintro _ ⟨ds, w6, rfl, h6, b6, g6, l6⟩
  walk_at "s"
  refine aP' (fun c2 => ?_) (fun c2 => ?_)
  . clear c2 c1
    walk_at "s"
    refine (pick w6 h6).mono ?_
    rintro _ w7 ⟨q, rfl, hq, h7, b7⟩
    have hb7 := b6.trans b7
    walk_at "s"
    refine bv' (by omega) fun x hx _ => ?_
    have hx := hod x hx
    clear pick hod b7 b6 h6
    walk_at "s"
    exact ⟨x, .inl rfl, hx.2⟩
  . clear c2 c1
    walk_at "s"
    exact ⟨_, .inl rfl, g6.th (by omega)⟩
theorem MacOk.six {L : Tx} {T : List (List Nat)} {A : List Nat} {most : Nat} (h : MacOk L T A most 5) : MacOk L T A most 6 := ⟨h.let', h.tab, h.ne, Nat.le_trans h.le (by decide), h.acc⟩
theorem oC' {L : Tx} {T : List (List Nat)} {A : List Nat} {d : D} : (dS' L T A d = .non \/ ∃ s, dS' L T A d = .tup [.str s]) := by
  unfold dS'
  split
  . unfold Au'
    split
    . split
      . split
        . exact .inr ⟨_, rfl⟩
        . exact .inl rfl
      . exact .inr ⟨_, rfl⟩
    . exact .inl rfl
  . exact .inr ⟨_, rfl⟩
theorem uu' {ns : List Int} {L : Tx} {T : List (List Nat)} {A : List Nat} {d : D} {j : Nat} {x8 x10 x11 : Option O} {cs : List D} {w : W} {N : PSt -> Prop} {rt : O -> W -> Prop} {bk ct : PSt -> Prop} {ex : Exc -> PSt -> Prop} (hs : StC w "Machine" L T A) (hT : bf' T T.length L.length) (hne : 1 <= T.length) (hL1 : 1 <= L.length) (hL3 : L.length <= 3) (hl : cs.length = 4) (hc : ∀ x ∈ cs, ∃ s, x = .str s /\ s.length <= 100)
    (hN : ∀ x9 x10 x11 w', StC w' "Machine" L T A -> N ⟨[some (.fz (.scr (ns.map .int))), some (.fz (.obj 0)), some (.fz (.str L)), some (.fz (dc' T)), some (.fz (dB' A)), some (.fz (.obj 1)), some (.fz d), some (.fz (.int j)), x8, x9, x10, x11, none], w'⟩) :
    wS ((aq' (be' 9 (az' f__law_spoiled (ac' (eV 1) (ac' (eV 2) (ac' (eV 9) aW'))))) (aq' (be' 10 (oE (eUn uD' (eV 9)))) (aq' (be' 11 (az' f_swap_fault (ac' (eV 5) (ac' (eV 9) aW')))) (aq' (sIf (tOr (tE (eOp pNe (eV 11) (eO (az' f__law_due (ac' (eV 2) (ac' (eV 3) (ac' (eV 4) (ac' (eV 9) aW')))))))) (tE (eOp xq' (eUn uD' (eV 9)) (eV 10)))) (bQ' (oE (eC (.bl false)))) aS') (sIf (sw' (tE (eOp e2' (eV 11) (eC .non))) (fA' (tE (eUn (b0' "tuple") (eV 11))))) (bQ' (oE (eC (.bl false)))) aS'))))) ⟨[some (.fz (.scr (ns.map .int))), some (.fz (.obj 0)), some (.fz (.str L)), some (.fz (dc' T)), some (.fz (dB' A)), some (.fz (.obj 1)), some (.fz d), some (.fz (.int j)), x8, some (.fz (.tup cs)), x10, x11, none], w⟩) ⟨N, rt, bk, ct, ex⟩ := by
  have k1 := vI' hs.hand hL1 hL3 hl hc
  walk_at "s"
  refine k1.mono ?_
  rintro _ w1 ⟨t, ho, ht, hh, hb⟩
  obtain ⟨s1, -⟩ := hs.but hh hb
  clear k1 hs hh hb
  obtain ⟨z1, z2, z3, z4, z5⟩ := ht.rep
  have k2 := h9' s1.mac hT hne ht
  have k3 := tw' (A := A) hT hne ht w1
  have hfd := oC' (L := L) (T := T) (A := A) (d := t)
  have r1 : ∀ P : D -> Prop, wD (uD' t) P = P (.rep t) := fun P => by rw [zH', sm' ⟨z1, z2, z3, z4⟩]
  have r2 : ∀ P : D -> Prop, wD (xq' (.rep t) (.rep t)) P = P (.bl false) := fun P => by rw [BZ', sm' z5]
  generalize dS' L T A t = f at k2 k3 hfd
  have r3 : ∀ P : D -> Prop, wD (pNe f f) P = P (.bl false) := fun P => by
    rcases hfd with rfl | ⟨s, rfl⟩
    . exact nT' _ rfl (by decide)
    . exact nT' _ rfl (by show max 0 0 + 1 <= 64; decide)
  clear ht z1 z2 z3 z4 z5 hc hl hL1 hL3 hT hne
  rcases ho with rfl | ⟨ds, rfl, rfl⟩
  . walk_at "s"
    refine k2.mono ?_
    rintro _ w1 ⟨rfl, rfl⟩
    clear k2
    walk_at "s"
    refine k3.mono ?_
    rintro _ w1 ⟨rfl, rfl⟩
    clear k3
    rcases hfd with rfl | ⟨s, rfl⟩
    . walk_at "s"
    . walk_at "s"
  . have ef := li' ds
    walk_at "s"
    refine k2.mono ?_
    rintro _ w1 ⟨rfl, rfl⟩
    clear k2
    walk_at "s"
    refine k3.mono ?_
    rintro _ w1 ⟨rfl, rfl⟩
    clear k3
    rcases hfd with rfl | ⟨s, rfl⟩
    . walk_at "s"
    . walk_at "s"
theorem law_true (ns : List Int) (hl : ns.length <= 63) : ∃ w, f_law [.scr (ns.map .int)] [] = .ok (.fz (.bl true)) w := by
  suffices h : wF (f_law [.scr (ns.map .int)] []) (fun o _ => o = .fz (.bl true)) FX by
    obtain ⟨o, w, e, rfl⟩ := h.exi
    exact ⟨w, e⟩
  unfold f_law
  walk_at "f"
  refine (rz' hl).mono ?_
  rintro _ w1 ⟨rfl, h1, hl1, -⟩
  change ch' w1 0 at h1
  walk_at "s"
  refine (oo' (most := 3) (states := 5) h1 (by omega) (by omega) (by omega) (by omega)).mono ?_
  rintro _ w2 ⟨L, T, A, rfl, hM, h2, b2⟩
  have hl2 : w2.length = 1 := b2.1.trans hl1
  have hP : Pt L T := hM.pt (by decide) (by decide)
  have hT := hM.tab
  have hne := hM.ne
  have hn5 := hM.le
  have hLet := hM.let'
  have hasc := hLet.asc
  clear h1 b2
  walk_at "s"
  refine (yN' hl2 hM.six (by omega)).mono ?_
  rintro _ _ ⟨rfl, rfl⟩
  have hst := vR' (C := "Machine") (L := L) (T := T) (A := A) (.inl rfl) h2 hl2
  rw [hl2]
  generalize w2 ++ [mkM "Machine" L T A .non cO'] = w3 at hst
  clear h2 hl2 hl1 w2 hM
  have hLn := hLet.ne
  have hLm := hLet.le
  have ks := vE' hst.ok hst.mac hP hasc
  walk_at "s"
  refine ks.mono ?_
  rintro _ w4 ⟨⟨d, rfl, hd⟩, hW4, hE4⟩
  have s4 := hst.evo hW4 hE4
  clear ks hst hW4 hE4 hLet hasc
  walk_at "s"
  refine d4' (fun j ρ => ∃ x7 x8 x9 x10 x11 w', ρ = ⟨[some (.fz (.scr (ns.map .int))), some (.fz (.obj 0)), some (.fz (.str L)), some (.fz (dc' T)), some (.fz (dB' A)), some (.fz (.obj 1)), some (.fz d), x7, x8, x9, x10, x11, none], w'⟩ /\ StC w' "Machine" L T A) ⟨_, _, _, _, _, _, rfl, s4⟩ ?_ ?_
  . clear s4
    rintro j _ hj ⟨x7, x8, x9, x10, x11, w5, rfl, s5⟩
    walk_at "s"
    refine fa' (by simp) (fun pre acc ρ => ∃ ws : List Tx, acc = ws.map .str /\ ws.length = pre.length /\ (∀ s ∈ ws, s.length <= 4 /\ ∀ c ∈ s, c ∈ L) /\ ∃ y w', ρ = ⟨[some (.fz (.scr (ns.map .int))), some (.fz (.obj 0)), some (.fz (.str L)), some (.fz (dc' T)), some (.fz (dB' A)), some (.fz (.obj 1)), some (.fz d), some (.fz (.int j)), x8, x9, x10, x11, y], w'⟩ /\ StC w' "Machine" L T A) ⟨[], rfl, rfl, by simp, _, _, rfl, s5⟩ ?_ ?_
    . clear s5 w5
      rintro pre c post _ _ e ⟨ws, rfl, lw, hw, y, w5, rfl, s5⟩
      clear e
      walk_at "s"
      refine (wL' s5 (by omega) (by omega)).mono ?_
      rintro _ w6 ⟨n1, rfl, hn1, s6, -⟩
      clear s5
      walk_at "s"
      refine (kF' s6 hLn (by omega) (by omega)).mono ?_
      rintro _ w7 ⟨x0, rfl, lx0, hx0, s7, -⟩
      clear s6
      walk_at "s"
      refine ⟨ws ++ [x0], by simp, by simp [lw], fun s hs => ?_, _, _, rfl, s7⟩
      rcases List.mem_append.mp hs with h | h
      . exact hw s h
      . rw [List.mem_singleton.mp h]
        exact ⟨by omega, hx0⟩
    . clear s5 w5
      rintro _ _ ⟨ws, rfl, lw, hw, y, w5, rfl, s5⟩
      have lw : ws.length = 2 := by rw [lw]; simp
      match ws, lw, hw with
      | [u0, v0], _, hw =>
        obtain ⟨lu0, hu0⟩ := hw u0 (by simp)
        obtain ⟨lv0, hv0⟩ := hw v0 (by simp)
        clear hw lw
        have ef : frzs [O.fz (D.str u0), O.fz (D.str v0)] = [.str u0, .str v0] := rfl
        walk_at "s"
        refine (kF' (m := 1) s5 hLn (by omega) (by omega)).mono ?_
        rintro _ w6 ⟨a0, rfl, la0, ha0, s6, -⟩
        clear s5
        walk_at "s"
        refine (kF' (m := 1) s6 hLn (by omega) (by omega)).mono ?_
        rintro _ w7 ⟨b0, rfl, lb0, hb0, s7, -⟩
        clear s6
        walk_at "s"
        have hcs0 : ∀ x ∈ [D.str u0, .str a0, .str b0, .str v0], ∃ s, x = D.str s /\ s.length <= 100 := by
          intro x hx
          simp only [List.mem_cons, List.not_mem_nil, or_false] at hx
          rcases hx with rfl | rfl | rfl | rfl
          . exact ⟨_, rfl, by omega⟩
          . exact ⟨_, rfl, by omega⟩
          . exact ⟨_, rfl, by omega⟩
          . exact ⟨_, rfl, by omega⟩
        have hnn : dq' d = true \/ (dq' d = false /\ ∃ cs, d = .tup cs /\ cs.length = 4 /\ ∀ x ∈ cs, ∃ s, x = D.str s /\ s.length <= 100) := by
          rcases hd with rfl | ⟨u, v, a, b, rfl, hu, hv, ha, hb, lu, lv⟩
          . exact .inl rfl
          . have : T.length * T.length <= 5 * 5 := Nat.mul_le_mul hn5 hn5
            refine .inr ⟨rfl, _, rfl, rfl, fun x hx => ?_⟩
            simp only [List.mem_cons, List.not_mem_nil, or_false] at hx
            rcases hx with rfl | rfl | rfl | rfl
            . exact ⟨_, rfl, by omega⟩
            . exact ⟨_, rfl, by simp⟩
            . exact ⟨_, rfl, by simp⟩
            . exact ⟨_, rfl, by omega⟩
        rcases hnn with hnn | ⟨hnn, cs, hdc, lcs, hcs⟩
        . rw [hnn, vo', vp', ur']
          exact uu' s7 hT hne hLn hLm rfl hcs0 fun x9 x10 x11 w' s => ⟨_, _, _, _, _, _, rfl, s⟩
        . subst hdc
          rw [hnn, vp']
          clear hd hnn hP
          walk_at "s"
          refine cM' (fun ρ => ∃ c2 : List D, ρ = ⟨[some (.fz (.scr (ns.map .int))), some (.fz (.obj 0)), some (.fz (.str L)), some (.fz (dc' T)), some (.fz (dB' A)), some (.fz (.obj 1)), some (.fz (.tup cs)), some (.fz (.int j)), some (.fz (.lst [.str u0, .str v0])), some (.fz (.tup c2)), x10, x11, none], w7⟩ /\ c2.length = 4 /\ ∀ x ∈ c2, ∃ s, x = D.str s /\ s.length <= 100) ?_ ?_
          . refine aP' (fun c0 => ?_) (fun c0 => ?_)
            . walk_at "s"
              exact ⟨cs, rfl, lcs, hcs⟩
            . walk_at "s"
              exact ⟨_, rfl, rfl, hcs0⟩
          . rintro _ ⟨c2, rfl, l2, h2⟩
            exact uu' s7 hT hne hLn hLm l2 h2 fun x9 x10 x11 w' s => ⟨_, _, _, _, _, _, rfl, s⟩
  . rintro _ ⟨x7, x8, x9, x10, x11, w5, rfl, s5⟩
    walk_at "s"
end
end M
namespace S
open PySem PySem.Spec PyProof.Rows L2
section
variable [Wd] {K : PySem.W.Frag} {mg : Str -> Option Value} {base : Heap}
theorem im' (C : Ctx Wd.w K mg) : Og Wd.P Wd.w K mg base 1 "is_integer" ["thing"] (spM K M.f_is_integer) := by
  obtain ⟨fd, F⟩ := C.f_is_integer
  exact ⟨fd, okM F id' rfl rfl (fun cdv A outer s H E hr =>
    (af' (an' (a3' (jp' (ed' "int" (by decide) rfl (C.free_isinstance) (by decide +kernel) (ad' (pv 0)) (pe_bltn (v := .ty "int") rfl (C.free_int) (by decide +kernel) rfl)) (jn' (yc' (ed' "bool" (by decide) rfl (C.free_isinstance) (by decide +kernel) (ad' (pv 0)) (pe_bltn (v := .ty "bool") rfl (C.free_bool) (by decide +kernel) rfl))))))))), kr' F, F.kp, C.g_is_integer⟩
theorem cq' (C : Ctx Wd.w K mg) : Og Wd.P Wd.w K mg base 1 "is_string_of" ["thing", "signs"] (spM K M.f_is_string_of) := by
  obtain ⟨fd, F⟩ := C.f_is_string_of
  exact ⟨fd, okM F dh' rfl rfl (fun cdv A outer s H E hr =>
    (ab' (aZ' (bS' (iK' (ed' "str" (by decide) rfl (C.free_isinstance) (by decide +kernel) (ad' (pv 0)) (pe_bltn (v := .ty "str") rfl (C.free_str) (by decide +kernel) rfl)))) (af' (an' (a3' cF'))) as')
      (ab' (bG' (passes_of rfl) rfl (bC' (ad' (pv 0))) (bT' 2 dh'.nd rfl (by walk_at "1") (by walk_at "2")) (af' (aZ' (ar' jy' qX' (by rfl) (ad' (pv 2)) (ad' (pv 1))) (af' (an' (a3' cF'))) as')))
      (af' (an' (a3' cF')))))), gW' F, F.kp, C.g_is_string_of⟩
theorem dm' (C : Ctx Wd.w K mg) : Og Wd.P Wd.w K mg base 1 "is_ascending" ["thing"] (spM K M.f_is_ascending) := by
  obtain ⟨fd, F⟩ := C.f_is_ascending
  exact ⟨fd, okM F co' rfl rfl (fun cdv A outer s H E hr =>
    (ab' (bG' (passes_of rfl) rfl (ya' rfl (C.free_zip) (ad' (pv 0)) (oi' xo' xr' (ad' (pv 0)) (of' ae') og')) (r9' (n := 2) rfl rfl rfl rfl (aC' rfl (bT' 1 co'.nd rfl (by walk_at "1") (by walk_at "2")) (aC' rfl (bT' 2 co'.nd rfl (by walk_at "1") (by walk_at "2")) cE'))) (af' (aZ' (ar' nl' AD' (nomark _) (ad' (pv 1)) (ad' (pv 2))) (af' (an' (a3' cF'))) as')))
      (af' (an' (a3' cF'))))), gX' F, F.kp, C.g_is_ascending⟩
theorem jA' (C : Ctx Wd.w K mg) : Og Wd.P Wd.w K mg base 2 "is_choice" ["thing", "signs"] (spM K M.f_is_choice) := by
  obtain ⟨fd, F⟩ := C.f_is_choice
  exact ⟨fd, okM F jr' rfl rfl (fun cdv A outer s H E hr =>
    (af' (an' (a3' (jp' (cw' (aj' (cq' C) (hr.mono (by walk_at "4")) rfl (takes_of rfl rfl rfl rfl) (aa' (ad' (pv 0)) (aa' (ad' (pv 1)) ag')))) (jn' (cw' (aj' (dm' C) (hr.mono (by walk_at "4")) rfl (takes_of rfl rfl rfl rfl) (aa' (ad' (pv 0)) ag'))))))))), lF' F, F.kp, C.g_is_choice⟩
theorem hC' (C : Ctx Wd.w K mg) : Og Wd.P Wd.w K mg base 2 "is_word" ["machine", "thing"] (spM K M.f_is_word) := by
  obtain ⟨fd, F⟩ := C.f_is_word
  exact ⟨fd, okM F oj' rfl rfl (fun cdv A outer s H E hr =>
    (af' (an' (aj' (cq' C) (hr.mono (by walk_at "4")) rfl (takes_of rfl rfl rfl rfl) (aa' (ad' (pv 1)) (aa' (a7' ["Machine", "RawMachine"] (ad' (pv 0)) C.at_kept_letters) ag')))))), r0' F, F.kp, C.g_is_word⟩
theorem ek' (C : Ctx Wd.w K mg) : Og Wd.P Wd.w K mg base 2 "are_states" ["thing", "many"] (spM K M.f_are_states) := by
  obtain ⟨fd, F⟩ := C.f_are_states
  exact ⟨fd, okM F ee' rfl rfl (fun cdv A outer s H E hr =>
    (ab' (aZ' (bS' (iK' (ed' "tuple" (by decide) rfl (C.free_isinstance) (by decide +kernel) (ad' (pv 0)) (pe_bltn (v := .ty "tuple") rfl (C.free_tuple) (by decide +kernel) rfl)))) (af' (an' (a3' cF'))) as')
      (ab' (bG' (passes_of rfl) rfl (bC' (ad' (pv 0))) (bT' 2 ee'.nd rfl (by walk_at "1") (by walk_at "2")) (af' (aZ' (m3' (fo' (bS' (iK' (cw' (aj' (im' C) (hr.mono (by walk_at "4")) rfl (takes_of rfl rfl rfl rfl) (aa' (ad' (pv 2)) ag'))))) (fo' (ar' gj' wi' (nomark _) (ad' (pv 2)) ae') (dP' (ar' nl' AD' (nomark _) (ad' (pv 2)) (ad' (pv 1))))))) (af' (an' (a3' cF'))) as')))
      (af' (an' (a3' cF')))))), kt' F, F.kp, C.g_are_states⟩
theorem k3' (C : Ctx Wd.w K mg) : Og Wd.P Wd.w K mg base 3 "is_table" ["thing", "letters"] (spM K M.f_is_table) := by
  obtain ⟨fd, F⟩ := C.f_is_table
  exact ⟨fd, okM F f0' rfl rfl (fun cdv A outer s H E hr =>
    (ab' (aZ' (m3' (fo' (bS' (iK' (ed' "tuple" (by decide) rfl (C.free_isinstance) (by decide +kernel) (ad' (pv 0)) (pe_bltn (v := .ty "tuple") rfl (C.free_tuple) (by decide +kernel) rfl)))) (dP' (bS' (m4' nk' AC' nk' AC' ae' (bR' (aF' ⟨rfl, rfl⟩) cJ' rfl (C.free_len) (by decide +kernel) (ad' (pv 0))) ae'))))) (af' (an' (a3' cF'))) as')
      (ab' (bG' (passes_of rfl) rfl (bC' (ad' (pv 0))) (bT' 2 f0'.nd rfl (by walk_at "1") (by walk_at "2")) (af' (aZ' (m3' (fo' (bS' (iK' (cw' (aj' (ek' C) (hr.mono (by walk_at "4")) rfl (takes_of rfl rfl rfl rfl) (aa' (ad' (pv 2)) (aa' (bR' (aF' ⟨rfl, rfl⟩) cJ' rfl (C.free_len) (by decide +kernel) (ad' (pv 0))) ag')))))) (dP' (ar' (dl' hr.units) sb' (nomark _) (bR' (aF' ⟨rfl, rfl⟩) cJ' rfl (C.free_len) (by decide +kernel) (ad' (pv 2))) (bR' (aF' ⟨rfl, rfl⟩) cJ' rfl (C.free_len) (by decide +kernel) (ad' (pv 1))))))) (af' (an' (a3' cF'))) as')))
      (af' (an' (a3' cF')))))), oN' F, F.kp, C.g_is_table⟩
theorem do' (C : Ctx Wd.w K mg) : OgM Wd.P Wd.w K mg base 1 (He.ga K "Machine") "keep" ["self", "letters", "table", "accepts"] (spM K M.f_Machine_keep) := by
  obtain ⟨fd, F⟩ := C.f_Machine_keep
  exact ⟨fd, okM F f5' rfl rfl (fun cdv A outer s H E hr =>
    (ab' (eb' ["Machine", "RawMachine"] (ad' (pv 0)) (a3' (ad' (pv 1))) C.at_kept_letters)
      (ab' (eb' ["Machine", "RawMachine"] (ad' (pv 0)) (a3' (ad' (pv 2))) C.at_kept_table)
      (ab' (eb' ["Machine", "RawMachine"] (ad' (pv 0)) (a3' (ad' (pv 3))) C.at_kept_accepts)
      (ab' (eb' ["Machine", "RawMachine"] (ad' (pv 0)) (a3' dQ') C.at_kept_least)
      (ab' (eb' ["Machine", "RawMachine"] (ad' (pv 0)) (a3' dQ') C.at_kept_field)
      (ab' (eb' ["Machine", "RawMachine"] (ad' (pv 0)) eH' C.at_kept_lots)
      (af' (eb' ["Machine", "RawMachine"] (ad' (pv 0)) eH' C.at_kept_more))))))))), g2' F⟩
theorem d0' (C : Ctx Wd.w K mg) : OgM Wd.P Wd.w K mg base 4 (He.ga K "Machine") "__init__" ["self", "letters", "table", "accepts"] (spM K M.f_Machine___init__) := by
  obtain ⟨fd, F⟩ := C.f_Machine___init__
  exact ⟨fd, okM F dY' rfl rfl (fun cdv A outer s H E hr =>
    (ab' (aZ' (m3' (fo' (bS' (iK' (cw' (aj' (jA' C) (hr.mono (by walk_at "4")) rfl (takes_of rfl rfl rfl rfl) (aa' (ad' (pv 1)) (aa' (Dj' (v7' rfl C.c_SMALL) fun _ _ => zh' (by decide +kernel) (by decide +kernel)) ag')))))) (dP' (bS' (m4' nk' AC' nk' AC' ae' (bR' (aF' ⟨rfl, rfl⟩) cJ' rfl (C.free_len) (by decide +kernel) (ad' (pv 1))) ae'))))) (af' kM') as')
      (ab' (aZ' (bS' (iK' (cw' (aj' (k3' C) (hr.mono (by walk_at "4")) rfl (takes_of rfl rfl rfl rfl) (aa' (ad' (pv 2)) (aa' (ad' (pv 1)) ag')))))) (af' kM') as')
      (ab' (aZ' (m3' (fo' (bS' (iK' (cw' (aj' (ek' C) (hr.mono (by walk_at "4")) rfl (takes_of rfl rfl rfl rfl) (aa' (ad' (pv 3)) (aa' (bR' (aF' ⟨rfl, rfl⟩) cJ' rfl (C.free_len) (by decide +kernel) (ad' (pv 2))) ag')))))) (dP' (bS' (iK' (cw' (aj' (dm' C) (hr.mono (by walk_at "4")) rfl (takes_of rfl rfl rfl rfl) (aa' (ad' (pv 3)) ag')))))))) (af' kM') as')
      (af' (kL' (cw' (qk' (ad' (pv 0)) (do' C) (hr.mono (by decide)) C.ml_Machine_keep (takes_of rfl rfl rfl rfl) (aa' (ad' (pv 1)) (aa' (ad' (pv 2)) (aa' (ad' (pv 3)) ag'))))))))))), ex' F⟩
theorem b3' (C : Ctx Wd.w K mg) : OgM Wd.P Wd.w K mg base 2 (He.ga K "RawMachine") "__init__" ["self", "letters", "table", "accepts"] (spM K M.f_RawMachine___init__) := by
  obtain ⟨fd, F⟩ := C.f_RawMachine___init__
  exact ⟨fd, okM F c8' rfl rfl (fun cdv A outer s H E hr =>
    (af' (kL' (cw' (qk' (ad' (pv 0)) (do' C) (hr.mono (by decide)) C.ml_Machine_keep (takes_of rfl rfl rfl rfl) (aa' (ad' (pv 1)) (aa' (ad' (pv 2)) (aa' (ad' (pv 3)) ag')))))))), dz' F⟩
theorem jz' (C : Ctx Wd.w K mg) : Og Wd.P Wd.w K mg base 1 "led" ["machine", "state", "word"] (spM K M.f_led) := by
  obtain ⟨fd, F⟩ := C.f_led
  exact ⟨fd, okM F qr' rfl rfl (fun cdv A outer s H E hr =>
    (ab' (bG' (passes_of rfl) rfl (bC' (ad' (pv 2))) (bT' 3 qr'.nd rfl (by walk_at "1") (by walk_at "2")) (af' (ai' (i := 1) qr'.nd rfl (by walk_at "1") (a3' (bE' ix_seq c9' (bE' ix_seq c9' (a7' ["Machine", "RawMachine"] (ad' (pv 0)) C.at_kept_table) (ad' (pv 1)) (fun _ _ => rfl)) (vP' PySem.F.slot_str_index PySem.F.type_str_index q4' wn' (a7' ["Machine", "RawMachine"] (ad' (pv 0)) C.at_kept_letters) (aa' (ad' (pv 3)) ag')) (fun _ _ => rfl))))))
      (af' (an' (qi' (pv 1)))))), CC' F, F.kp, C.g_led⟩
theorem ou' (C : Ctx Wd.w K mg) : Og Wd.P Wd.w K mg base 1 "reached" ["machine"] (spM K M.f_reached) := by
  obtain ⟨fd, F⟩ := C.f_reached
  exact ⟨fd, okM F ci' rfl rfl (fun cdv A outer s H E hr =>
    (ab' (ai' (i := 1) ci'.nd rfl (by walk_at "1") (eY' (aa' ae' ag')))
      (ab' (ai' (i := 2) ci'.nd rfl (by walk_at "1") (jm' ae' cF'))
      (ab' (ai' (i := 3) ci'.nd rfl (by walk_at "1") (a3' ae'))
      (ab' (fB' M.u3' (passes_of rfl) (ar' gj' wi' (nomark _) (ad' (pv 3)) (fY' ⟨rfl, rfl⟩ rfl (C.free_len) (by decide +kernel) (pv 1))) (ab' (bG' (passes_of rfl) rfl (bC' (bE' ix_seq c9' (a7' ["Machine", "RawMachine"] (ad' (pv 0)) C.at_kept_table) (ht' (pv 1) (ad' (pv 3)) (fun _ _ => rfl)) (fun _ _ => rfl))) (bT' 4 ci'.nd rfl (by walk_at "1") (by walk_at "2")) (af' (aZ' (ib' ⟨rfl, rfl⟩ hr.units (ad' (pv 4)) (pv 2)) (ab' (hk' ⟨rfl, rfl⟩ hr.units cF' (pv 2) (ad' (pv 4)))
      (af' (eX' (pv 1) (a3' (ad' (pv 4)))))) as')))
      (af' (uo' (i := 3) ci'.nd rfl (by walk_at "1") ae' ip_add yE'))))
      (af' (an' (qi' (pv 1))))))))), rY' F, F.kp, C.g_reached⟩
end
end S
namespace S
open PySem PySem.Spec PyProof.Rows L2
section
variable [Wd] {K : PySem.W.Frag} {mg : Str -> Option Value} {base : Heap}
theorem gk' (C : Ctx Wd.w K mg) : Og Wd.P Wd.w K mg base 1 "numbered" ["keys"] (spM K M.f_numbered) := by
  obtain ⟨fd, F⟩ := C.f_numbered
  exact ⟨fd, okM F cm' rfl rfl (fun cdv A outer s H E hr =>
    (ab' (ai' (i := 1) cm'.nd rfl (by walk_at "1") (vJ' ⟨rfl, rfl⟩))
      (ab' (ai' (i := 2) cm'.nd rfl (by walk_at "1") eH')
      (ab' (bG' (passes_of rfl) rfl (sH' (ad' (pv 0))) (r9' (n := 2) rfl rfl rfl rfl (aC' rfl (bT' 3 cm'.nd rfl (by walk_at "1") (by walk_at "2")) (aC' rfl (bT' 4 cm'.nd rfl (by walk_at "1") (by walk_at "2")) cE'))) (ab' (aZ' (ib' ⟨rfl, rfl⟩ hr.units (ad' (pv 4)) (pv 1)) (af' (hk' ⟨rfl, rfl⟩ hr.units (fY' ⟨rfl, rfl⟩ rfl (C.free_len) (by decide +kernel) (pv 1)) (pv 1) (ad' (pv 4)))) as')
      (af' (hk' ⟨rfl, rfl⟩ hr.units (c5' ⟨rfl, rfl⟩ hr.units (pv 1) (ad' (pv 4)) (fun _ _ => rfl)) (pv 2) (ad' (pv 3))))))
      (af' (an' (qi' (pv 2)))))))), oM' F, F.kp, C.g_numbered⟩
theorem gn' (C : Ctx Wd.w K mg) : Og Wd.P Wd.w K mg base 2 "alike_states" ["machine", "states"] (spM K M.f_alike_states) := by
  obtain ⟨fd, F⟩ := C.f_alike_states
  exact ⟨fd, okM F av' rfl rfl (fun cdv A outer s H E hr =>
    (ab' (ai' (i := 2) av'.nd rfl (by walk_at "1") (aj' (gk' C) (hr.mono (by walk_at "4")) rfl (takes_of rfl rfl rfl rfl) (aa' (cw' (x9' (own := [("state", 5)]) rfl av'.nd (bC' (ad' (pv 1))) (blkOk_by (own := [("state", 5)]) (N := cK') (sc := defScope ax') (by decide +kernel)) rfl (fun _ _ _ _ _ => (bT' 5 av'.nd rfl (by walk_at "1") (by walk_at "2"))) (fun _ _ _ _ _ => bA') (fun _ _ _ _ _ => (ad' (pv 5))) (fun _ _ _ _ _ => (fZ' e3' uG' (by rfl) (ad' (pv 5)) (a7' ["Machine", "RawMachine"] (ad' (pv 0)) C.at_kept_accepts))))) ag')))
      (ab' (ai' (i := 3) av'.nd rfl (by walk_at "1") (a3' ae'))
      (ab' (fB' M.u3' (passes_of rfl) (ar' nl' AD' (nomark _) (qo' rfl rfl (C.free_max) (by decide +kernel) (ad' (pv 2))) (ad' (pv 3))) (ab' (ai' (i := 3) av'.nd rfl (by walk_at "1") (a3' (ay' ao' bs' (qo' rfl rfl (C.free_max) (by decide +kernel) (ad' (pv 2))) ae')))
      (ab' (ai' (i := 4) av'.nd rfl (by walk_at "1") eH')
      (ab' (bG' (passes_of rfl) rfl (bC' (ad' (pv 1))) (bT' 5 av'.nd rfl (by walk_at "1") (by walk_at "2")) (af' (hk' ⟨rfl, rfl⟩ hr.units (bZ' (aa' (c5' ⟨rfl, rfl⟩ hr.units (pv 2) (ad' (pv 5)) (fun _ _ => rfl)) (aa' (cf' (bc' rfl) cv' rfl (C.free_tuple) (by decide +kernel) (gQ' (own := [("step", 6)]) rfl av'.nd (bC' (bE' ix_seq c9' (a7' ["Machine", "RawMachine"] (ad' (pv 0)) C.at_kept_table) (ad' (pv 5)) (fun _ _ => rfl))) (blkOk_by (own := [("step", 6)]) (N := cK') (sc := defScope ax') (by decide +kernel)) rfl (fun _ _ _ _ _ => (bT' 6 av'.nd rfl (by walk_at "1") (by walk_at "2"))) (fun _ _ _ _ _ => bA') (fun _ _ _ _ _ => (c5' ⟨rfl, rfl⟩ hr.units (pv 2) (ad' (pv 6)) (fun _ _ => rfl))))) ag'))) (pv 4) (ad' (pv 5)))))
      (af' (ai' (i := 2) av'.nd rfl (by walk_at "1") (aj' (gk' C) (hr.mono (by walk_at "4")) rfl (takes_of rfl rfl rfl rfl) (aa' (ad' (pv 4)) ag'))))))))
      (af' (an' (qi' (pv 2)))))))), gY' F, F.kp, C.g_alike_states⟩
theorem s6' (C : Ctx Wd.w K mg) : Og Wd.P Wd.w K mg base 4 "least" ["machine"] (spM K M.f_least) := by
  obtain ⟨fd, F⟩ := C.f_least
  exact ⟨fd, okM F bK' rfl rfl (fun cdv A outer s H E hr =>
    (ab' (aZ' (ar' wb' Du' (nomark _) (a7' ["Machine", "RawMachine"] (ad' (pv 0)) C.at_kept_least) dQ') (ab' (ai' (i := 1) bK'.nd rfl (by walk_at "1") (aj' (ou' C) (hr.mono (by walk_at "4")) rfl (takes_of rfl rfl rfl rfl) (aa' (ad' (pv 0)) ag')))
      (ab' (ai' (i := 2) bK'.nd rfl (by walk_at "1") (aj' (gn' C) (hr.mono (by walk_at "4")) rfl (takes_of rfl rfl rfl rfl) (aa' (ad' (pv 0)) (aa' (ad' (pv 1)) ag'))))
      (ab' (ai' (i := 3) bK'.nd rfl (by walk_at "1") eH')
      (ab' (bG' (passes_of rfl) rfl (bC' (ad' (pv 1))) (bT' 4 bK'.nd rfl (by walk_at "1") (by walk_at "2")) (af' (kL' (sJ' (pv 3) (c5' ⟨rfl, rfl⟩ hr.units (pv 2) (ad' (pv 4)) (fun _ _ => rfl)) (ad' (pv 4)) ⟨rfl, rfl, rfl, rfl⟩))))
      (ab' (ai' (i := 5) bK'.nd rfl (by walk_at "1") (eY' ag'))
      (ab' (bG' (passes_of rfl) rfl (bC' (bR' (eS' rfl) lD' rfl (C.free_sorted) (by decide +kernel) (ad' (pv 3)))) (bT' 6 bK'.nd rfl (by walk_at "1") (by walk_at "2")) (af' (eX' (pv 5) (a3' (cf' (bc' rfl) cv' rfl (C.free_tuple) (by decide +kernel) (gQ' (own := [("step", 8)]) rfl bK'.nd (bC' (bE' ix_seq c9' (a7' ["Machine", "RawMachine"] (ad' (pv 0)) C.at_kept_table) (c5' ⟨rfl, rfl⟩ hr.units (pv 3) (ad' (pv 6)) (fun _ _ => rfl)) (fun _ _ => rfl))) (blkOk_by (own := [("step", 8)]) (N := lL') (sc := defScope cc') (by decide +kernel)) rfl (fun _ _ _ _ _ => (bT' 8 bK'.nd rfl (by walk_at "1") (by walk_at "2"))) (fun _ _ _ _ _ => bA') (fun _ _ _ _ _ => (c5' ⟨rfl, rfl⟩ hr.units (pv 2) (ad' (pv 8)) (fun _ _ => rfl)))))))))
      (ab' (ai' (i := 7) bK'.nd rfl (by walk_at "1") (a3' (cf' (bc' rfl) cv' rfl (C.free_tuple) (by decide +kernel) (gQ' (own := [("one", 6)]) rfl bK'.nd (bC' (bR' (eS' rfl) lD' rfl (C.free_sorted) (by decide +kernel) (ad' (pv 3)))) (blkOk_by (own := [("one", 6)]) (N := lL') (sc := defScope cc') (by decide +kernel)) rfl (fun _ _ _ _ _ => (bT' 6 bK'.nd rfl (by walk_at "1") (by walk_at "2"))) (fun _ _ _ _ _ => (fD' (ar' e3' uG' (by rfl) (c5' ⟨rfl, rfl⟩ hr.units (pv 3) (ad' (pv 6)) (fun _ _ => rfl)) (a7' ["Machine", "RawMachine"] (ad' (pv 0)) C.at_kept_accepts)))) (fun _ _ _ _ _ => (ad' (pv 6)))))))
      (ab' (eb' ["Machine", "RawMachine"] (ad' (pv 0)) (kP' (b3' C) (hr.mono (by decide)) rfl C.mk_RawMachine C.g_RawMachine (takes_of rfl rfl rfl rfl) (aa' (a7' ["Machine", "RawMachine"] (ad' (pv 0)) C.at_kept_letters) (aa' (cf' (bc' rfl) cv' rfl (C.free_tuple) (by decide +kernel) (ad' (pv 5))) (aa' (ad' (pv 7)) ag')))) C.at_kept_least)
      (af' (eb' ["Machine", "RawMachine"] (a7' ["Machine", "RawMachine"] (ad' (pv 0)) C.at_kept_least) (a3' (a7' ["Machine", "RawMachine"] (ad' (pv 0)) C.at_kept_least)) C.at_kept_least)))))))))) as')
      (af' (an' (a3' (a7' ["Machine", "RawMachine"] (ad' (pv 0)) C.at_kept_least)))))), xh' F, F.kp, C.g_least⟩
theorem ov' (C : Ctx Wd.w K mg) : Og Wd.P Wd.w K mg base 1 "parting" ["one", "other"] (spM K M.f_parting) := by
  obtain ⟨fd, F⟩ := C.f_parting
  exact ⟨fd, okM F bm' rfl rfl (fun cdv A outer s H E hr =>
    (ab' (aZ' (ar' (dl' hr.units) sb' (nomark _) (a7' ["Machine", "RawMachine"] (ad' (pv 0)) C.at_kept_letters) (a7' ["Machine", "RawMachine"] (ad' (pv 1)) C.at_kept_letters)) (af' (sC' rfl (takes_of rfl rfl rfl rfl) (sV' PySem.F.excBase_ValueError C.x_OtherLetters C.g_OtherLetters C.k_OtherLetters C.r_OtherLetters rfl))) as')
      (ab' (ai' (i := 2) bm'.nd rfl (by walk_at "1") (eY' (aa' (bZ' (aa' ae' (aa' ae' (aa' (bO' [] (by decide +kernel) (by decide +kernel)) ag')))) ag')))
      (ab' (ai' (i := 3) bm'.nd rfl (by walk_at "1") (ql' ⟨rfl, rfl⟩ hr.units (bZ' (aa' ae' (aa' ae' ag'))) cF'))
      (ab' (ai' (i := 4) bm'.nd rfl (by walk_at "1") (a3' ae'))
      (ab' (fB' M.u3' (passes_of rfl) (ar' gj' wi' (nomark _) (ad' (pv 4)) (fY' ⟨rfl, rfl⟩ rfl (C.free_len) (by decide +kernel) (pv 2))) (ab' (m5' (ht' (pv 2) (ad' (pv 4)) (fun _ _ => rfl)) (r9' (n := 3) rfl rfl rfl rfl (aC' rfl (bT' 5 bm'.nd rfl (by walk_at "1") (by walk_at "2")) (aC' rfl (bT' 6 bm'.nd rfl (by walk_at "1") (by walk_at "2")) (aC' rfl (bT' 7 bm'.nd rfl (by walk_at "1") (by walk_at "2")) cE')))))
      (ab' (aZ' (ar' (dl' hr.units) sb' (nomark _) (fZ' e3' uG' (by rfl) (ad' (pv 5)) (a7' ["Machine", "RawMachine"] (ad' (pv 0)) C.at_kept_accepts)) (fZ' e3' uG' (by rfl) (ad' (pv 6)) (a7' ["Machine", "RawMachine"] (ad' (pv 1)) C.at_kept_accepts))) (af' (an' (qi' (pv 7)))) as')
      (ab' (bG' (passes_of rfl) rfl (qm' rfl (C.free_enumerate) (a7' ["Machine", "RawMachine"] (ad' (pv 0)) C.at_kept_letters)) (r9' (n := 2) rfl rfl rfl rfl (aC' rfl (bT' 8 bm'.nd rfl (by walk_at "1") (by walk_at "2")) (aC' rfl (bT' 9 bm'.nd rfl (by walk_at "1") (by walk_at "2")) cE'))) (ab' (ai' (i := 10) bm'.nd rfl (by walk_at "1") (a3' (bZ' (aa' (bE' ix_seq c9' (bE' ix_seq c9' (a7' ["Machine", "RawMachine"] (ad' (pv 0)) C.at_kept_table) (ad' (pv 5)) (fun _ _ => rfl)) (ad' (pv 8)) (fun _ _ => rfl)) (aa' (bE' ix_seq c9' (bE' ix_seq c9' (a7' ["Machine", "RawMachine"] (ad' (pv 1)) C.at_kept_table) (ad' (pv 6)) (fun _ _ => rfl)) (ad' (pv 8)) (fun _ _ => rfl)) ag')))))
      (af' (aZ' (ib' ⟨rfl, rfl⟩ hr.units (ad' (pv 10)) (pv 3)) (ab' (hk' ⟨rfl, rfl⟩ hr.units cF' (pv 3) (ad' (pv 10)))
      (af' (eX' (pv 2) (a3' (bZ' (aa' (bE' ix_seq c9' (ad' (pv 10)) ae' (fun _ _ => rfl)) (aa' (bE' ix_seq c9' (ad' (pv 10)) ae' (fun _ _ => rfl)) (aa' (ay' ao' bs' (ad' (pv 7)) (ad' (pv 9))) ag')))))))) as'))))
      (af' (uo' (i := 4) bm'.nd rfl (by walk_at "1") ae' ip_add yE'))))))
      (af' (an' (a3' dQ'))))))))), rZ' F, F.kp, C.g_parting⟩
theorem k1' (C : Ctx Wd.w K mg) : Og Wd.P Wd.w K mg base 1 "pairs_of" ["letters"] (spM K M.f_pairs_of) := by
  obtain ⟨fd, F⟩ := C.f_pairs_of
  exact ⟨fd, okM F cU' rfl rfl (fun cdv A outer s H E hr =>
    (af' (an' (x8' (own := [("a", 1), ("b", 2)]) (sl0 := [1]) (sl1 := [2]) rfl cU'.nd (bC' (ad' (pv 0))) (blkOk_by (own := [("a", 1), ("b", 2)]) (N := hV') (sc := defScope bn') (by decide +kernel)) rfl (by decide) (by decide) (fun _ _ _ _ _ => (bT' 1 cU'.nd rfl (by walk_at "1") (by walk_at "2"))) (fun _ _ _ _ _ => bA') (fun _ _ _ _ _ => (bC' (ad' (pv 0)))) (fun _ _ _ _ _ => (bT' 2 cU'.nd rfl (by walk_at "1") (by walk_at "2"))) (fun _ _ _ _ _ => (fD' (ar' gj' wi' (nomark _) (ad' (pv 1)) (ad' (pv 2))))) (fun _ _ _ _ _ => (bZ' (aa' (ad' (pv 1)) (aa' (ad' (pv 2)) ag')))))))), oL' F, F.kp, C.g_pairs_of⟩
theorem gS' (C : Ctx Wd.w K mg) : Og Wd.P Wd.w K mg base 1 "first_words" ["machine"] (spM K M.f_first_words) := by
  obtain ⟨fd, F⟩ := C.f_first_words
  exact ⟨fd, okM F bw' rfl rfl (fun cdv A outer s H E hr =>
    (ab' (ai' (i := 1) bw'.nd rfl (by walk_at "1") (jm' ae' (bO' [] (by decide +kernel) (by decide +kernel))))
      (ab' (ai' (i := 2) bw'.nd rfl (by walk_at "1") (eY' (aa' ae' ag')))
      (ab' (fB' M.u3' (passes_of rfl) (ar' qU' BB' (nomark _) (fY' ⟨rfl, rfl⟩ rfl (C.free_len) (by decide +kernel) (pv 2)) ae') (ab' (ai' (i := 3) bw'.nd rfl (by walk_at "1") (a3' (m9' (pv 2) ae')))
      (af' (bG' (passes_of rfl) rfl (vK' rfl (C.free_zip) (a7' ["Machine", "RawMachine"] (ad' (pv 0)) C.at_kept_letters) (bE' ix_seq c9' (a7' ["Machine", "RawMachine"] (ad' (pv 0)) C.at_kept_table) (ad' (pv 3)) (fun _ _ => rfl))) (r9' (n := 2) rfl rfl rfl rfl (aC' rfl (bT' 4 bw'.nd rfl (by walk_at "1") (by walk_at "2")) (aC' rfl (bT' 5 bw'.nd rfl (by walk_at "1") (by walk_at "2")) cE'))) (af' (aZ' (ib' ⟨rfl, rfl⟩ hr.units (ad' (pv 5)) (pv 1)) (ab' (hk' ⟨rfl, rfl⟩ hr.units (ay' ao' bs' (c5' ⟨rfl, rfl⟩ hr.units (pv 1) (ad' (pv 3)) (fun _ _ => rfl)) (ad' (pv 4))) (pv 1) (ad' (pv 5)))
      (af' (eX' (pv 2) (a3' (ad' (pv 5)))))) as'))))))
      (af' (an' (qi' (pv 1)))))))), iG' F, F.kp, C.g_first_words⟩
theorem gm' (C : Ctx Wd.w K mg) : Og Wd.P Wd.w K mg base 4 "begun_at" ["machine", "state"] (spM K M.f_begun_at) := by
  obtain ⟨fd, F⟩ := C.f_begun_at
  exact ⟨fd, okM F aA' rfl rfl (fun cdv A outer s H E hr =>
    (ab' (ai' (i := 2) aA'.nd rfl (by walk_at "1") (a3' (ay' ao' bs' (jo' (aa' (ad' (pv 1)) ag')) (gQ' (own := [("other", 6)]) rfl aA'.nd (bD' rfl (C.free_range) (bR' (aF' ⟨rfl, rfl⟩) cJ' rfl (C.free_len) (by decide +kernel) (a7' ["Machine", "RawMachine"] (ad' (pv 0)) C.at_kept_table))) (blkOk_by (own := [("other", 6)]) (N := cj') (sc := defScope aX') (by decide +kernel)) rfl (fun _ _ _ _ _ => (bT' 6 aA'.nd rfl (by walk_at "1") (by walk_at "2"))) (fun _ _ _ _ _ => (fD' (ar' (dl' hr.units) sb' (nomark _) (ad' (pv 6)) (ad' (pv 1))))) (fun _ _ _ _ _ => (ad' (pv 6)))))))
      (ab' (ai' (i := 3) aA'.nd rfl (by walk_at "1") (x9' (own := [("index", 7), ("other", 6)]) rfl aA'.nd (qm' rfl (C.free_enumerate) (ad' (pv 2))) (blkOk_by (own := [("index", 7), ("other", 6)]) (N := cj') (sc := defScope aX') (by decide +kernel)) rfl (fun _ _ _ _ _ => (r9' (n := 2) rfl rfl rfl rfl (aC' rfl (bT' 7 aA'.nd rfl (by walk_at "1") (by walk_at "2")) (aC' rfl (bT' 6 aA'.nd rfl (by walk_at "1") (by walk_at "2")) cE')))) (fun _ _ _ _ _ => bA') (fun _ _ _ _ _ => (ad' (pv 6))) (fun _ _ _ _ _ => (ad' (pv 7)))))
      (ab' (ai' (i := 4) aA'.nd rfl (by walk_at "1") (a3' (cf' (bc' rfl) cv' rfl (C.free_tuple) (by decide +kernel) (gQ' (own := [("other", 6)]) rfl aA'.nd (bC' (ad' (pv 2))) (blkOk_by (own := [("other", 6)]) (N := cj') (sc := defScope aX') (by decide +kernel)) rfl (fun _ _ _ _ _ => (bT' 6 aA'.nd rfl (by walk_at "1") (by walk_at "2"))) (fun _ _ _ _ _ => bA') (fun _ _ _ _ _ => (cf' (bc' rfl) cv' rfl (C.free_tuple) (by decide +kernel) (gQ' (own := [("to", 8)]) rfl aA'.nd (bC' (bE' ix_seq c9' (a7' ["Machine", "RawMachine"] (ad' (pv 0)) C.at_kept_table) (ad' (pv 6)) (fun _ _ => rfl))) (blkOk_by (own := [("to", 8)]) (N := cj') (by kernel_rfl)) rfl (fun _ _ _ _ _ => (bT' 8 aA'.nd rfl (by walk_at "1") (by walk_at "2"))) (fun _ _ _ _ _ => bA') (fun _ _ _ _ _ => (c5' ⟨rfl, rfl⟩ hr.units (pv 3) (ad' (pv 8)) (fun _ _ => rfl))))))))))
      (ab' (ai' (i := 5) aA'.nd rfl (by walk_at "1") (a3' (cf' (bc' rfl) cv' rfl (C.free_tuple) (by decide +kernel) (bR' (hS' rfl) nY' rfl (C.free_sorted) (by decide +kernel) (gQ' (own := [("other", 6)]) rfl aA'.nd (bC' (a7' ["Machine", "RawMachine"] (ad' (pv 0)) C.at_kept_accepts)) (blkOk_by (own := [("other", 6)]) (N := cj') (sc := defScope aX') (by decide +kernel)) rfl (fun _ _ _ _ _ => (bT' 6 aA'.nd rfl (by walk_at "1") (by walk_at "2"))) (fun _ _ _ _ _ => bA') (fun _ _ _ _ _ => (c5' ⟨rfl, rfl⟩ hr.units (pv 3) (ad' (pv 6)) (fun _ _ => rfl))))))))
      (af' (an' (kP' (b3' C) (hr.mono (by decide)) rfl C.mk_RawMachine C.g_RawMachine (takes_of rfl rfl rfl rfl) (aa' (a7' ["Machine", "RawMachine"] (ad' (pv 0)) C.at_kept_letters) (aa' (ad' (pv 4)) (aa' (ad' (pv 5)) ag'))))))))))), oO' F, F.kp, C.g_begun_at⟩
theorem we' (C : Ctx Wd.w K mg) : Og Wd.P Wd.w K mg base 5 "swap" ["machine"] (spM K M.f_swap) := by
  obtain ⟨fd, F⟩ := C.f_swap
  exact ⟨fd, okM F cT' rfl rfl (fun cdv A outer s H E hr =>
    (ab' (ai' (i := 1) cT'.nd rfl (by walk_at "1") (aj' (s6' C) (hr.mono (by walk_at "4")) rfl (takes_of rfl rfl rfl rfl) (aa' (ad' (pv 0)) ag')))
      (ab' (ai' (i := 2) cT'.nd rfl (by walk_at "1") (aj' (gS' C) (hr.mono (by walk_at "4")) rfl (takes_of rfl rfl rfl rfl) (aa' (ad' (pv 1)) ag')))
      (ab' (bG' (passes_of rfl) rfl (bC' (cw' (aj' (k1' C) (hr.mono (by walk_at "4")) rfl (takes_of rfl rfl rfl rfl) (aa' (a7' ["Machine", "RawMachine"] (ad' (pv 1)) C.at_kept_letters) ag')))) (r9' (n := 2) rfl rfl rfl rfl (aC' rfl (bT' 3 cT'.nd rfl (by walk_at "1") (by walk_at "2")) (aC' rfl (bT' 4 cT'.nd rfl (by walk_at "1") (by walk_at "2")) cE'))) (af' (bG' (passes_of rfl) rfl (bC' (bR' (eS' rfl) lD' rfl (C.free_sorted) (by decide +kernel) (ad' (pv 2)))) (bT' 5 cT'.nd rfl (by walk_at "1") (by walk_at "2")) (ab' (ai' (i := 6) cT'.nd rfl (by walk_at "1") (aj' (jz' C) (hr.mono (by walk_at "4")) rfl (takes_of rfl rfl rfl rfl) (aa' (ad' (pv 1)) (aa' (ad' (pv 5)) (aa' (ay' ao' bs' (ad' (pv 3)) (ad' (pv 4))) ag')))))
      (ab' (ai' (i := 7) cT'.nd rfl (by walk_at "1") (aj' (jz' C) (hr.mono (by walk_at "4")) rfl (takes_of rfl rfl rfl rfl) (aa' (ad' (pv 1)) (aa' (ad' (pv 5)) (aa' (ay' ao' bs' (ad' (pv 4)) (ad' (pv 3))) ag')))))
      (af' (aZ' (ar' (dl' hr.units) sb' (nomark _) (ad' (pv 6)) (ad' (pv 7))) (ab' (ai' (i := 8) cT'.nd rfl (by walk_at "1") (aj' (ov' C) (hr.mono (by walk_at "4")) rfl (takes_of rfl rfl rfl rfl) (aa' (cw' (aj' (gm' C) (hr.mono (by walk_at "4")) rfl (takes_of rfl rfl rfl rfl) (aa' (ad' (pv 1)) (aa' (ad' (pv 6)) ag')))) (aa' (cw' (aj' (gm' C) (hr.mono (by walk_at "4")) rfl (takes_of rfl rfl rfl rfl) (aa' (ad' (pv 1)) (aa' (ad' (pv 7)) ag')))) ag'))))
      (ab' (aZ' (ar' e3' uG' (by rfl) (cw' (aj' (jz' C) (hr.mono (by walk_at "4")) rfl (takes_of rfl rfl rfl rfl) (aa' (ad' (pv 1)) (aa' (ad' (pv 6)) (aa' (ad' (pv 8)) ag'))))) (a7' ["Machine", "RawMachine"] (ad' (pv 1)) C.at_kept_accepts)) (af' (an' (a3' (bZ' (aa' (c5' ⟨rfl, rfl⟩ hr.units (pv 2) (ad' (pv 5)) (fun _ _ => rfl)) (aa' (ad' (pv 3)) (aa' (ad' (pv 4)) (aa' (ad' (pv 8)) ag')))))))) as')
      (af' (an' (a3' (bZ' (aa' (c5' ⟨rfl, rfl⟩ hr.units (pv 2) (ad' (pv 5)) (fun _ _ => rfl)) (aa' (ad' (pv 4)) (aa' (ad' (pv 3)) (aa' (ad' (pv 8)) ag')))))))))) as')))))))
      (af' (an' (a3' dQ'))))))), Ah' F, F.kp, C.g_swap⟩
theorem e4' (C : Ctx Wd.w K mg) : Og Wd.P Wd.w K mg base 2 "is_letter" ["machine", "thing"] (spM K M.f_is_letter) := by
  obtain ⟨fd, F⟩ := C.f_is_letter
  exact ⟨fd, okM F jq' rfl rfl (fun cdv A outer s H E hr =>
    (af' (an' (a3' (jp' (cw' (aj' (cq' C) (hr.mono (by walk_at "4")) rfl (takes_of rfl rfl rfl rfl) (aa' (ad' (pv 1)) (aa' (a7' ["Machine", "RawMachine"] (ad' (pv 0)) C.at_kept_letters) ag')))) (jn' (fZ' (bV' hr.units) io' (nomark _) (bR' (aF' ⟨rfl, rfl⟩) cJ' rfl (C.free_len) (by decide +kernel) (ad' (pv 1))) ae'))))))), lE' F, F.kp, C.g_is_letter⟩
theorem gl' (C : Ctx Wd.w K mg) : Og Wd.P Wd.w K mg base 3 "is_swap_form" ["machine", "thing"] (spM K M.f_is_swap_form) := by
  obtain ⟨fd, F⟩ := C.f_is_swap_form
  exact ⟨fd, okM F f4' rfl rfl (fun cdv A outer s H E hr =>
    (ab' (aZ' (m3' (fo' (bS' (iK' (ed' "tuple" (by decide) rfl (C.free_isinstance) (by decide +kernel) (ad' (pv 1)) (pe_bltn (v := .ty "tuple") rfl (C.free_tuple) (by decide +kernel) rfl)))) (dP' (ar' (dl' hr.units) sb' (nomark _) (bR' (aF' ⟨rfl, rfl⟩) cJ' rfl (C.free_len) (by decide +kernel) (ad' (pv 1))) ae')))) (af' (an' (a3' cF'))) as')
      (ab' (aZ' (m3' (fo' (bS' (iK' (cw' (aj' (e4' C) (hr.mono (by walk_at "4")) rfl (takes_of rfl rfl rfl rfl) (aa' (ad' (pv 0)) (aa' (bE' ix_seq c9' (ad' (pv 1)) ae' (fun _ _ => rfl)) ag')))))) (dP' (bS' (iK' (cw' (aj' (e4' C) (hr.mono (by walk_at "4")) rfl (takes_of rfl rfl rfl rfl) (aa' (ad' (pv 0)) (aa' (bE' ix_seq c9' (ad' (pv 1)) ae' (fun _ _ => rfl)) ag'))))))))) (af' (an' (a3' cF'))) as')
      (af' (an' (a3' (jp' (cw' (aj' (hC' C) (hr.mono (by walk_at "4")) rfl (takes_of rfl rfl rfl rfl) (aa' (ad' (pv 0)) (aa' (bE' ix_seq c9' (ad' (pv 1)) ae' (fun _ _ => rfl)) ag')))) (jn' (cw' (aj' (hC' C) (hr.mono (by walk_at "4")) rfl (takes_of rfl rfl rfl rfl) (aa' (ad' (pv 0)) (aa' (bE' ix_seq c9' (ad' (pv 1)) ae' (fun _ _ => rfl)) ag')))))))))))), gV' F, F.kp, C.g_is_swap_form⟩
theorem il' (C : Ctx Wd.w K mg) : Og Wd.P Wd.w K mg base 4 "swap_fault" ["machine", "thing"] (spM K M.f_swap_fault) := by
  obtain ⟨fd, F⟩ := C.f_swap_fault
  exact ⟨fd, okM F bU' rfl rfl (fun cdv A outer s H E hr =>
    (ab' (aZ' (bS' (iK' (cw' (aj' (gl' C) (hr.mono (by walk_at "4")) rfl (takes_of rfl rfl rfl rfl) (aa' (ad' (pv 0)) (aa' (ad' (pv 1)) ag')))))) (af' (an' (a3' (bZ' (aa' (bO' [102, 111, 114, 109] (by decide +kernel) (by decide +kernel)) ag'))))) as')
      (ab' (m5' (ad' (pv 1)) (r9' (n := 4) rfl rfl rfl rfl (aC' rfl (bT' 2 bU'.nd rfl (by walk_at "1") (by walk_at "2")) (aC' rfl (bT' 3 bU'.nd rfl (by walk_at "1") (by walk_at "2")) (aC' rfl (bT' 4 bU'.nd rfl (by walk_at "1") (by walk_at "2")) (aC' rfl (bT' 5 bU'.nd rfl (by walk_at "1") (by walk_at "2")) cE'))))))
      (ab' (aZ' (ar' jy' qX' (by rfl) (cw' (aj' (jz' C) (hr.mono (by walk_at "4")) rfl (takes_of rfl rfl rfl rfl) (aa' (ad' (pv 0)) (aa' ae' (aa' (ay' ao' bs' (ay' ao' bs' (ay' ao' bs' (ad' (pv 2)) (ad' (pv 3))) (ad' (pv 4))) (ad' (pv 5))) ag'))))) (a7' ["Machine", "RawMachine"] (ad' (pv 0)) C.at_kept_accepts)) (af' (an' (a3' (bZ' (aa' (bO' [110, 111] (by decide +kernel) (by decide +kernel)) ag'))))) as')
      (ab' (aZ' (ar' e3' uG' (by rfl) (cw' (aj' (jz' C) (hr.mono (by walk_at "4")) rfl (takes_of rfl rfl rfl rfl) (aa' (ad' (pv 0)) (aa' ae' (aa' (ay' ao' bs' (ay' ao' bs' (ay' ao' bs' (ad' (pv 2)) (ad' (pv 4))) (ad' (pv 3))) (ad' (pv 5))) ag'))))) (a7' ["Machine", "RawMachine"] (ad' (pv 0)) C.at_kept_accepts)) (af' (an' (a3' (bZ' (aa' (bO' [97, 108, 105, 107, 101] (by decide +kernel) (by decide +kernel)) ag'))))) as')
      (af' (an' (a3' dQ')))))))), kq' F, F.kp, C.g_swap_fault⟩
theorem jC' (C : Ctx Wd.w K mg) : Og Wd.P Wd.w K mg base 1 "_law_hand" ["_law_script"] (spM K M.f__law_hand) := by
  obtain ⟨fd, F⟩ := C.f__law_hand
  exact ⟨fd, okM F di' rfl rfl (fun cdv A outer s H E hr =>
    (ab' (fC' (i := 1) (own := [("_law_cell", 2)]) rfl di'.nd rfl rfl (sw_true (by rfl) (by rfl) (by rfl) (by decide +kernel)) (bC' (oi' xo' xr' (ad' (pv 0)) og' (of' ae'))) (blkOk_by (own := [("_law_cell", 2)]) (N := gN') (sc := defScope ba') (by decide +kernel)) rfl (fun _ _ _ _ _ => (bT' 2 di'.nd rfl (by walk_at "1") (by walk_at "2"))) (fun _ _ _ _ _ => bA') (fun _ _ _ _ _ => (bR' rS' Cz' rfl (C.free_abs) (by decide +kernel) (cf' br' eU' rfl (C.free_int) (by decide +kernel) (ad' (pv 2))))))
      (af' (an' (x7' (aa' (ad' (pv 1)) (aa' ae' (aa' ae' (aa' (ay' ao' bs' ae' (bR' (aF' ⟨rfl, rfl⟩) cJ' rfl (C.free_len) (by decide +kernel) (ad' (pv 1)))) (aa' ae' ag')))))))))), lJ' F, F.kp, C.g__law_hand⟩
end
end S
namespace S
open PySem PySem.Spec PyProof.Rows L2
section
variable [Wd] {K : PySem.W.Frag} {mg : Str -> Option Value} {base : Heap}
theorem aw' (C : Ctx Wd.w K mg) : Og Wd.P Wd.w K mg base 1 "_law_draw" ["_law_hand_here", "_law_many"] (spM K M.f__law_draw) := by
  obtain ⟨fd, F⟩ := C.f__law_draw
  exact ⟨fd, okM F bP' rfl rfl (fun cdv A outer s H E hr =>
    (ab' (aZ' (m3' (mX' (ar' (bV' hr.units) io' (nomark _) (cN' (ad' (pv 0)) ae' (fun _ _ => rfl)) ae') (ia' (ar' gj' wi' (nomark _) (cN' (ad' (pv 0)) ae' (fun _ _ => rfl)) (bR' (aF' ⟨rfl, rfl⟩) cJ' rfl (C.free_len) (by decide +kernel) (cN' (ad' (pv 0)) ae' (fun _ _ => rfl))))))) (ab' (ai' (i := 2) bP'.nd rfl (by walk_at "1") (a3' (bE' ix_seq c9' (cN' (ad' (pv 0)) ae' (fun _ _ => rfl)) (cN' (ad' (pv 0)) ae' (fun _ _ => rfl)) (fun _ _ => rfl))))
      (ab' (fW' (ay' ao' bs' (cN' (ad' (pv 0)) ae' (fun _ _ => rfl)) ae') (ad' (pv 0)) ae')
      (ab' (fW' (ay' op_mod fs' (cf' br' eU' rfl (C.free_int) (by decide +kernel) (ay' ao' bs' (ay' ao' bs' (ay' eK' ox' (cN' (ad' (pv 0)) ae' (fun _ _ => rfl)) ae') (ad' (pv 2))) ae')) ae') (ad' (pv 0)) ae')
      (af' (aZ' (ar' nl' AD' (nomark _) (ad' (pv 2)) (ay' op_pow Bz' ae' ae')) (af' (fW' (ad' (pv 2)) (ad' (pv 0)) ae')) as'))))) as')
      (ab' (aZ' (ar' qU' BB' (nomark _) (cN' (ad' (pv 0)) ae' (fun _ _ => rfl)) ae') (ab' (ai' (i := 3) bP'.nd rfl (by walk_at "1") (a3' (ay' op_mod fs' (cf' br' eU' rfl (C.free_int) (by decide +kernel) (cN' (ad' (pv 0)) ae' (fun _ _ => rfl))) (ad' (pv 1)))))
      (ab' (fW' (ay' op_fdivW nq' (cN' (ad' (pv 0)) ae' (fun _ _ => rfl)) (ad' (pv 1))) (ad' (pv 0)) ae')
      (af' (an' (qi' (pv 3)))))) as')
      (ab' (fW' (ay' ao' bs' (cN' (ad' (pv 0)) ae' (fun _ _ => rfl)) ae') (ad' (pv 0)) ae')
      (ab' (ai' (i := 4) bP'.nd rfl (by walk_at "1") (a3' (ay' op_mod fs' (cf' br' eU' rfl (C.free_int) (by decide +kernel) (ay' eK' ox' (cf' br' eU' rfl (C.free_int) (by decide +kernel) (ay' ao' bs' (cN' (ad' (pv 0)) ae' (fun _ _ => rfl)) (ay' eK' ox' ae' (cN' (ad' (pv 0)) ae' (fun _ _ => rfl))))) ae')) ae')))
      (ab' (ai' (i := 4) bP'.nd rfl (by walk_at "1") (a3' (ay' op_mod fs' (cf' br' eU' rfl (C.free_int) (by decide +kernel) (ay' eK' ox' (ad' (pv 4)) (ay' ao' bs' (ay' op_fdivW nq' (ad' (pv 4)) ae') ae'))) ae')))
      (ab' (ai' (i := 4) bP'.nd rfl (by walk_at "1") (a3' (ay' op_mod fs' (cf' br' eU' rfl (C.free_int) (by decide +kernel) (ay' eK' ox' (ad' (pv 4)) (ay' ao' bs' (ay' op_fdivW nq' (ad' (pv 4)) ae') ae'))) ae')))
      (af' (an' (a3' (ay' op_mod fs' (cf' br' eU' rfl (C.free_int) (by decide +kernel) (ay' op_fdivW nq' (ad' (pv 4)) ae')) (ad' (pv 1))))))))))))), lK' F, F.kp, C.g__law_draw⟩
theorem gp' (C : Ctx Wd.w K mg) : Og Wd.P Wd.w K mg base 2 "_law_letters" ["_law_hand_here", "_law_signs", "_law_many"] (spM K M.f__law_letters) := by
  obtain ⟨fd, F⟩ := C.f__law_letters
  exact ⟨fd, okM F a9' rfl rfl (fun cdv A outer s H E hr =>
    (ab' (ai' (i := 3) a9'.nd rfl (by walk_at "1") (a3' (ad' (pv 1))))
      (ab' (ai' (i := 4) a9'.nd rfl (by walk_at "1") (a3' (bO' [] (by decide +kernel) (by decide +kernel))))
      (ab' (bG' (passes_of rfl) rfl (bD' rfl (C.free_range) (ad' (pv 2))) (bT' 5 a9'.nd rfl (by walk_at "1") (by walk_at "2")) (ab' (ai' (i := 6) a9'.nd rfl (by walk_at "1") (aj' (aw' C) (hr.mono (by walk_at "4")) rfl (takes_of rfl rfl rfl rfl) (aa' (ad' (pv 0)) (aa' (bR' (aF' ⟨rfl, rfl⟩) cJ' rfl (C.free_len) (by decide +kernel) (ad' (pv 3))) ag'))))
      (ab' (ai' (i := 4) a9'.nd rfl (by walk_at "1") (a3' (ay' ao' bs' (ad' (pv 4)) (bE' ix_seq c9' (ad' (pv 3)) (ad' (pv 6)) (fun _ _ => rfl)))))
      (af' (ai' (i := 3) a9'.nd rfl (by walk_at "1") (a3' (ay' ao' bs' (oi' xo' xr' (ad' (pv 3)) og' (of' (ad' (pv 6)))) (oi' xo' xr' (ad' (pv 3)) (of' (ay' ao' bs' (ad' (pv 6)) ae')) og'))))))))
      (af' (an' (qi' (pv 4)))))))), g0' F, F.kp, C.g__law_letters⟩
theorem fq' (C : Ctx Wd.w K mg) : Og Wd.P Wd.w K mg base 2 "_law_shuffled" ["_law_hand_here", "_law_things"] (spM K M.f__law_shuffled) := by
  obtain ⟨fd, F⟩ := C.f__law_shuffled
  exact ⟨fd, okM F bL' rfl rfl (fun cdv A outer s H E hr =>
    (ab' (ai' (i := 2) bL'.nd rfl (by walk_at "1") (qj' (hU' rfl) nt' rfl (C.free_list) (by decide +kernel) (ad' (pv 1))))
      (ab' (ai' (i := 3) bL'.nd rfl (by walk_at "1") (eY' ag'))
      (ab' (bG' (passes_of rfl) rfl (bD' rfl (C.free_range) (bR' (aF' ⟨rfl, rfl⟩) cJ' rfl (C.free_len) (by decide +kernel) (ad' (pv 1)))) (bT' 4 bL'.nd rfl (by walk_at "1") (by walk_at "2")) (af' (eX' (pv 3) (a3' (m9' (pv 2) (cw' (aj' (aw' C) (hr.mono (by walk_at "4")) rfl (takes_of rfl rfl rfl rfl) (aa' (ad' (pv 0)) (aa' (fY' ⟨rfl, rfl⟩ rfl (C.free_len) (by decide +kernel) (pv 2)) ag')))))))))
      (af' (an' (qi' (pv 3)))))))), gJ' F, F.kp, C.g__law_shuffled⟩
theorem jB' (C : Ctx Wd.w K mg) : Og Wd.P Wd.w K mg base 3 "_law_rows" ["_law_hand_here", "_law_kind", "_law_size", "_law_many"] (spM K M.f__law_rows) := by
  obtain ⟨fd, F⟩ := C.f__law_rows
  exact ⟨fd, okM F am' rfl rfl (fun cdv A outer s H E hr =>
    (ab' (ai' (i := 4) am'.nd rfl (by walk_at "1") (eY' ag'))
      (ab' (fC' (i := 5) (own := [("_law_letter", 9)]) rfl am'.nd rfl rfl (sw_true (by rfl) (by rfl) (by rfl) (by decide +kernel)) (bD' rfl (C.free_range) (ad' (pv 3))) (blkOk_by (own := [("_law_letter", 9)]) (N := d6') (sc := defScope aY') (by decide +kernel)) rfl (fun _ _ _ _ _ => (bT' 9 am'.nd rfl (by walk_at "1") (by walk_at "2"))) (fun _ _ _ _ _ => bA') (fun _ _ _ _ _ => (cw' (aj' (aw' C) (hr.mono (by walk_at "4")) rfl dE' (aa' (ad' (pv 0)) (aa' (ad' (pv 2)) ag'))))))
      (ab' (fC' (i := 6) (own := [("_law_letter", 9)]) rfl am'.nd rfl rfl (sw_true (by rfl) (by rfl) (by rfl) (by decide +kernel)) (bD' rfl (C.free_range) (ad' (pv 3))) (blkOk_by (own := [("_law_letter", 9)]) (N := d6') (sc := defScope aY') (by decide +kernel)) rfl (fun _ _ _ _ _ => (bT' 9 am'.nd rfl (by walk_at "1") (by walk_at "2"))) (fun _ _ _ _ _ => bA') (fun _ _ _ _ _ => (cw' (aj' (fq' C) (hr.mono (by walk_at "4")) rfl dE' (aa' (ad' (pv 0)) (aa' (cw' (oh' rfl rfl (C.free_list) rfl (C.free_range) (ad' (pv 2)))) ag'))))))
      (ab' (bG' (passes_of rfl) rfl (bD' rfl (C.free_range) (ad' (pv 2))) (bT' 7 am'.nd rfl (by walk_at "1") (by walk_at "2")) (ab' (ai' (i := 8) am'.nd rfl (by walk_at "1") (eY' ag'))
      (ab' (bG' (passes_of rfl) rfl (bD' rfl (C.free_range) (ad' (pv 3))) (bT' 9 am'.nd rfl (by walk_at "1") (by walk_at "2")) (ab' (ai' (i := 10) am'.nd rfl (by walk_at "1") (aj' (aw' C) (hr.mono (by walk_at "4")) rfl (takes_of rfl rfl rfl rfl) (aa' (ad' (pv 0)) (aa' (ad' (pv 2)) ag'))))
      (ab' (aZ' (ar' (bV' hr.units) io' (nomark _) (ad' (pv 1)) ae') (af' (ai' (i := 10) am'.nd rfl (by walk_at "1") (a3' (ay' op_mod fs' (cf' br' eU' rfl (C.free_int) (by decide +kernel) (ay' ao' bs' (ad' (pv 7)) (bE' ix_seq c9' (ad' (pv 5)) (ad' (pv 9)) (fun _ _ => rfl)))) (ad' (pv 2)))))) as')
      (ab' (aZ' (ar' (bV' hr.units) io' (nomark _) (ad' (pv 1)) ae') (af' (ai' (i := 10) am'.nd rfl (by walk_at "1") (a3' (qp' (eT' rfl) rT' rfl (C.free_min) (by decide +kernel) (ay' op_sub qW' (ad' (pv 2)) ae') (ay' ao' bs' (ad' (pv 7)) (bE' ix_seq c9' (ad' (pv 5)) (ad' (pv 9)) (fun _ _ => rfl))))))) as')
      (ab' (aZ' (ar' (bV' hr.units) io' (nomark _) (ad' (pv 1)) ae') (ab' (ai' (i := 10) am'.nd rfl (by walk_at "1") (a3' (ad' (pv 7))))
      (af' (aZ' (ar' (bV' hr.units) io' (nomark _) (ad' (pv 7)) ae') (af' (ai' (i := 10) am'.nd rfl (by walk_at "1") (a3' (ay' op_mod fs' (cf' br' eU' rfl (C.free_int) (by decide +kernel) (ay' ao' bs' ae' (ad' (pv 9)))) (ad' (pv 2)))))) as'))) as')
      (ab' (aZ' (ar' (bV' hr.units) io' (nomark _) (ad' (pv 1)) ae') (af' (ai' (i := 10) am'.nd rfl (by walk_at "1") (a3' (ay' op_mod fs' (cf' br' eU' rfl (C.free_int) (by decide +kernel) (ay' ao' bs' ae' (ad' (pv 9)))) (ad' (pv 2)))))) as')
      (ab' (aZ' (ar' (bV' hr.units) io' (nomark _) (ad' (pv 1)) ae') (af' (ai' (i := 10) am'.nd rfl (by walk_at "1") (a3' (qp' (eT' rfl) rT' rfl (C.free_min) (by decide +kernel) (ay' op_sub qW' (ad' (pv 2)) ae') (ay' ao' bs' (ad' (pv 7)) (cf' br' eU' rfl (C.free_int) (by decide +kernel) (fZ' (bV' hr.units) io' (nomark _) (ay' op_mod fs' (ad' (pv 7)) (ad' (pv 3))) (ad' (pv 9))))))))) as')
      (ab' (aZ' (ar' (bV' hr.units) io' (nomark _) (ad' (pv 1)) ae') (ab' (ai' (i := 10) am'.nd rfl (by walk_at "1") (a3' (ay' op_sub qW' (ad' (pv 2)) ae')))
      (af' (aZ' (m3' (mX' (ar' gj' wi' (nomark _) (ad' (pv 7)) (ay' op_sub qW' (ad' (pv 2)) ae')) (ia' (ar' (bV' hr.units) io' (nomark _) (ay' op_mod fs' (ad' (pv 7)) (ad' (pv 3))) (ad' (pv 9)))))) (af' (ai' (i := 10) am'.nd rfl (by walk_at "1") (a3' (ay' op_mod fs' (cf' br' eU' rfl (C.free_int) (by decide +kernel) (ay' ao' bs' (ad' (pv 7)) ae')) (ay' op_sub qW' (ad' (pv 2)) ae'))))) as'))) as')
      (ab' (aZ' (ar' (bV' hr.units) io' (nomark _) (ad' (pv 1)) ae') (af' (ai' (i := 10) am'.nd rfl (by walk_at "1") (a3' (bE' ix_seq c9' (bE' ix_seq c9' (ad' (pv 6)) (ad' (pv 9)) (fun _ _ => rfl)) (ad' (pv 7)) (fun _ _ => rfl))))) as')
      (af' (eX' (pv 8) (a3' (ad' (pv 10))))))))))))))
      (af' (eX' (pv 4) (a3' (cf' (bc' rfl) cv' rfl (C.free_tuple) (by decide +kernel) (ad' (pv 8)))))))))
      (af' (an' (a3' (cf' (bc' rfl) cv' rfl (C.free_tuple) (by decide +kernel) (ad' (pv 4))))))))))), lI' F, F.kp, C.g__law_rows⟩
theorem in' (C : Ctx Wd.w K mg) : Og Wd.P Wd.w K mg base 4 "_law_parts" ["_law_hand_here", "_law_most", "_law_states"] (spM K M.f__law_parts) := by
  obtain ⟨fd, F⟩ := C.f__law_parts
  exact ⟨fd, okM F aO' rfl rfl (fun cdv A outer s H E hr =>
    (ab' (ai' (i := 3) aO'.nd rfl (by walk_at "1") (aj' (aw' C) (hr.mono (by walk_at "4")) rfl (takes_of rfl rfl rfl rfl) (aa' (ad' (pv 0)) (aa' ae' ag'))))
      (ab' (ai' (i := 4) aO'.nd rfl (by walk_at "1") (a3' (ay' ao' bs' ae' (cw' (aj' (aw' C) (hr.mono (by walk_at "4")) rfl (takes_of rfl rfl rfl rfl) (aa' (ad' (pv 0)) (aa' (ad' (pv 1)) ag')))))))
      (ab' (ai' (i := 5) aO'.nd rfl (by walk_at "1") (a3' (ay' ao' bs' ae' (cw' (aj' (aw' C) (hr.mono (by walk_at "4")) rfl (takes_of rfl rfl rfl rfl) (aa' (ad' (pv 0)) (aa' (ad' (pv 2)) ag')))))))
      (ab' (aZ' (ar' qU' BB' (nomark _) (ad' (pv 3)) ae') (ab' (ai' (i := 5) aO'.nd rfl (by walk_at "1") (a3' (qp' (hT' rfl) u2' rfl (C.free_max) (by decide +kernel) ae' (ad' (pv 5)))))
      (af' (ai' (i := 4) aO'.nd rfl (by walk_at "1") (a3' (qp' (hT' rfl) u2' rfl (C.free_max) (by decide +kernel) (qp' (eT' rfl) rT' rfl (C.free_min) (by decide +kernel) ae' (ad' (pv 1))) (ad' (pv 4))))))) as')
      (ab' (ai' (i := 6) aO'.nd rfl (by walk_at "1") (a3' (vP' PySem.F.slot_str_join PySem.F.type_str_join mt_join yO' (bO' [] (by decide +kernel) (by decide +kernel)) (aa' (bR' (hS' rfl) nY' rfl (C.free_sorted) (by decide +kernel) (cw' (aj' (gp' C) (hr.mono (by walk_at "4")) rfl (takes_of rfl rfl rfl rfl) (aa' (ad' (pv 0)) (aa' (bO' [97, 98, 99, 100, 101, 102, 103, 104, 105, 106, 107, 108, 109, 110, 111, 112, 113, 114, 115, 116, 117, 118, 119, 120, 121, 122] (by decide +kernel) (by decide +kernel)) (aa' (ad' (pv 4)) ag')))))) ag'))))
      (ab' (ai' (i := 7) aO'.nd rfl (by walk_at "1") (aj' (jB' C) (hr.mono (by walk_at "4")) rfl (takes_of rfl rfl rfl rfl) (aa' (ad' (pv 0)) (aa' (ad' (pv 3)) (aa' (ad' (pv 5)) (aa' (ad' (pv 4)) ag'))))))
      (ab' (ai' (i := 8) aO'.nd rfl (by walk_at "1") (a3' (cf' (bc' rfl) cv' rfl (C.free_tuple) (by decide +kernel) (gQ' (own := [("_law_state", 9)]) rfl aO'.nd (bD' rfl (C.free_range) (ad' (pv 5))) (blkOk_by (own := [("_law_state", 9)]) (N := fm') (sc := defScope aV') (by decide +kernel)) rfl (fun _ _ _ _ _ => (bT' 9 aO'.nd rfl (by walk_at "1") (by walk_at "2"))) (fun _ _ _ _ _ => (fD' (ar' (bV' hr.units) io' (nomark _) (cw' (aj' (aw' C) (hr.mono (by walk_at "4")) rfl dE' (aa' (ad' (pv 0)) (aa' ae' ag')))) ae'))) (fun _ _ _ _ _ => (ad' (pv 9)))))))
      (af' (an' (a3' (bZ' (aa' (ad' (pv 6)) (aa' (ad' (pv 7)) (aa' (ad' (pv 8)) ag'))))))))))))))), ku' F, F.kp, C.g__law_parts⟩
theorem e5' (C : Ctx Wd.w K mg) : Og Wd.P Wd.w K mg base 1 "_law_says" ["_law_letters_here", "_law_table", "_law_accepts", "_law_word_here"] (spM K M.f__law_says) := by
  obtain ⟨fd, F⟩ := C.f__law_says
  exact ⟨fd, okM F cA' rfl rfl (fun cdv A outer s H E hr =>
    (ab' (ai' (i := 4) cA'.nd rfl (by walk_at "1") (a3' ae'))
      (ab' (bG' (passes_of rfl) rfl (bC' (ad' (pv 3))) (bT' 5 cA'.nd rfl (by walk_at "1") (by walk_at "2")) (af' (ai' (i := 4) cA'.nd rfl (by walk_at "1") (a3' (bE' ix_seq c9' (bE' ix_seq c9' (ad' (pv 1)) (ad' (pv 4)) (fun _ _ => rfl)) (vP' PySem.F.slot_str_find PySem.F.type_str_find mt_find yP' (ad' (pv 0)) (aa' (ad' (pv 5)) ag')) (fun _ _ => rfl))))))
      (af' (an' (a3' (fZ' e3' uG' (by rfl) (ad' (pv 4)) (ad' (pv 2))))))))), lH' F, F.kp, C.g__law_says⟩
theorem dn' (C : Ctx Wd.w K mg) : Og Wd.P Wd.w K mg base 2 "_law_word" ["_law_hand_here", "_law_letters_here", "_law_many"] (spM K M.f__law_word) := by
  obtain ⟨fd, F⟩ := C.f__law_word
  exact ⟨fd, okM F cz' rfl rfl (fun cdv A outer s H E hr =>
    (ab' (ai' (i := 3) cz'.nd rfl (by walk_at "1") (a3' (bO' [] (by decide +kernel) (by decide +kernel))))
      (ab' (bG' (passes_of rfl) rfl (bD' rfl (C.free_range) (ad' (pv 2))) (bT' 4 cz'.nd rfl (by walk_at "1") (by walk_at "2")) (af' (ai' (i := 3) cz'.nd rfl (by walk_at "1") (a3' (ay' ao' bs' (ad' (pv 3)) (bE' ix_seq c9' (ad' (pv 1)) (cw' (aj' (aw' C) (hr.mono (by walk_at "4")) rfl (takes_of rfl rfl rfl rfl) (aa' (ad' (pv 0)) (aa' (bR' (aF' ⟨rfl, rfl⟩) cJ' rfl (C.free_len) (by decide +kernel) (ad' (pv 1))) ag')))) (fun _ _ => rfl)))))))
      (af' (an' (qi' (pv 3))))))), lG' F, F.kp, C.g__law_word⟩
theorem gq' (C : Ctx Wd.w K mg) : Og Wd.P Wd.w K mg base 1 "_law_is_word" ["_law_letters_here", "_law_word_here"] (spM K M.f__law_is_word) := by
  obtain ⟨fd, F⟩ := C.f__law_is_word
  exact ⟨fd, okM F cp' rfl rfl (fun cdv A outer s H E hr =>
    (af' (an' (a3' (jp' (ed' "str" (by decide) rfl (C.free_isinstance) (by decide +kernel) (ad' (pv 1)) (pe_bltn (v := .ty "str") rfl (C.free_str) (by decide +kernel) rfl)) (jn' (bR' (cr_all rfl) Ad' rfl (C.free_all) (by decide +kernel) (gQ' (own := [("_law_letter", 2)]) rfl cp'.nd (bC' (ad' (pv 1))) (blkOk_by (own := [("_law_letter", 2)]) (N := dU') (sc := defScope aE') (by decide +kernel)) rfl (fun _ _ _ _ _ => (bT' 2 cp'.nd rfl (by walk_at "1") (by walk_at "2"))) (fun _ _ _ _ _ => bA') (fun _ _ _ _ _ => (fZ' e3' uG' (by rfl) (ad' (pv 2)) (ad' (pv 0)))))))))))), g1' F, F.kp, C.g__law_is_word⟩
theorem k4' (C : Ctx Wd.w K mg) : Og Wd.P Wd.w K mg base 2 "_law_due" ["_law_letters_here", "_law_table", "_law_accepts", "_law_thing"] (spM K M.f__law_due) := by
  obtain ⟨fd, F⟩ := C.f__law_due
  exact ⟨fd, okM F bM' rfl rfl (fun cdv A outer s H E hr =>
    (ab' (aZ' (m3' (fo' (bS' (iK' (ed' "tuple" (by decide) rfl (C.free_isinstance) (by decide +kernel) (ad' (pv 3)) (pe_bltn (v := .ty "tuple") rfl (C.free_tuple) (by decide +kernel) rfl)))) (dP' (ar' (dl' hr.units) sb' (nomark _) (bR' (aF' ⟨rfl, rfl⟩) cJ' rfl (C.free_len) (by decide +kernel) (ad' (pv 3))) ae')))) (af' (an' (a3' (bZ' (aa' (bO' [102, 111, 114, 109] (by decide +kernel) (by decide +kernel)) ag'))))) as')
      (ab' (aZ' (m3' (fo' (bS' (iK' (bR' (cr_all rfl) Ad' rfl (C.free_all) (by decide +kernel) (gQ' (own := [("_law_part", 8)]) rfl bM'.nd (bC' (ad' (pv 3))) (blkOk_by (own := [("_law_part", 8)]) (N := hW') (sc := defScope bo') (by decide +kernel)) rfl (fun _ _ _ _ _ => (bT' 8 bM'.nd rfl (by walk_at "1") (by walk_at "2"))) (fun _ _ _ _ _ => bA') (fun _ _ _ _ _ => (cw' (aj' (gq' C) (hr.mono (by walk_at "4")) rfl dE' (aa' (ad' (pv 0)) (aa' (ad' (pv 8)) ag'))))))))) (fo' (ar' (dl' hr.units) sb' (nomark _) (bR' (aF' ⟨rfl, rfl⟩) cJ' rfl (C.free_len) (by decide +kernel) (bE' ix_seq c9' (ad' (pv 3)) ae' (fun _ _ => rfl))) ae') (dP' (ar' (dl' hr.units) sb' (nomark _) (bR' (aF' ⟨rfl, rfl⟩) cJ' rfl (C.free_len) (by decide +kernel) (bE' ix_seq c9' (ad' (pv 3)) ae' (fun _ _ => rfl))) ae'))))) (af' (an' (a3' (bZ' (aa' (bO' [102, 111, 114, 109] (by decide +kernel) (by decide +kernel)) ag'))))) as')
      (ab' (m5' (ad' (pv 3)) (r9' (n := 4) rfl rfl rfl rfl (aC' rfl (bT' 4 bM'.nd rfl (by walk_at "1") (by walk_at "2")) (aC' rfl (bT' 5 bM'.nd rfl (by walk_at "1") (by walk_at "2")) (aC' rfl (bT' 6 bM'.nd rfl (by walk_at "1") (by walk_at "2")) (aC' rfl (bT' 7 bM'.nd rfl (by walk_at "1") (by walk_at "2")) cE'))))))
      (ab' (aZ' (bS' (iK' (cw' (aj' (e5' C) (hr.mono (by walk_at "4")) rfl (takes_of rfl rfl rfl rfl) (aa' (ad' (pv 0)) (aa' (ad' (pv 1)) (aa' (ad' (pv 2)) (aa' (ay' ao' bs' (ay' ao' bs' (ay' ao' bs' (ad' (pv 4)) (ad' (pv 5))) (ad' (pv 6))) (ad' (pv 7))) ag')))))))) (af' (an' (a3' (bZ' (aa' (bO' [110, 111] (by decide +kernel) (by decide +kernel)) ag'))))) as')
      (ab' (aZ' (iK' (cw' (aj' (e5' C) (hr.mono (by walk_at "4")) rfl (takes_of rfl rfl rfl rfl) (aa' (ad' (pv 0)) (aa' (ad' (pv 1)) (aa' (ad' (pv 2)) (aa' (ay' ao' bs' (ay' ao' bs' (ay' ao' bs' (ad' (pv 4)) (ad' (pv 6))) (ad' (pv 5))) (ad' (pv 7))) ag'))))))) (af' (an' (a3' (bZ' (aa' (bO' [97, 108, 105, 107, 101] (by decide +kernel) (by decide +kernel)) ag'))))) as')
      (af' (an' (a3' dQ'))))))))), oP' F, F.kp, C.g__law_due⟩
theorem go' (C : Ctx Wd.w K mg) : Og Wd.P Wd.w K mg base 2 "_law_spoiled" ["_law_hand_here", "_law_letters_here", "_law_thing"] (spM K M.f__law_spoiled) := by
  obtain ⟨fd, F⟩ := C.f__law_spoiled
  exact ⟨fd, okM F a8' rfl rfl (fun cdv A outer s H E hr =>
    (ab' (ai' (i := 3) a8'.nd rfl (by walk_at "1") (a3' (jo' (aa' dQ' (aa' ae' (aa' cF' (aa' (bO' [] (by decide +kernel) (by decide +kernel)) (aa' (ay' eK' ox' (bE' ix_seq c9' (ad' (pv 1)) ae' (fun _ _ => rfl)) ae') (aa' (bO' [63] (by decide +kernel) (by decide +kernel)) (aa' (bO' [65] (by decide +kernel) (by decide +kernel)) (aa' (jo' (aa' (bO' [97] (by decide +kernel) (by decide +kernel)) ag')) (aa' (bZ' (aa' (bO' [97] (by decide +kernel) (by decide +kernel)) ag')) (aa' (cw' eH') (aa' (ay' ao' bs' (bE' ix_seq c9' (ad' (pv 1)) ae' (fun _ _ => rfl)) (bO' [32] (by decide +kernel) (by decide +kernel))) (aa' (bO' [122, 122] (by decide +kernel) (by decide +kernel)) (aa' (jo' (aa' (jo' ag') ag')) (aa' (ad' (pv 1)) ag')))))))))))))))))
      (ab' (ai' (i := 4) a8'.nd rfl (by walk_at "1") (aj' (aw' C) (hr.mono (by walk_at "4")) rfl (takes_of rfl rfl rfl rfl) (aa' (ad' (pv 0)) (aa' ae' ag'))))
      (ab' (ai' (i := 5) a8'.nd rfl (by walk_at "1") (aj' (aw' C) (hr.mono (by walk_at "4")) rfl (takes_of rfl rfl rfl rfl) (aa' (ad' (pv 0)) (aa' ae' ag'))))
      (ab' (ai' (i := 6) a8'.nd rfl (by walk_at "1") (qj' (hU' rfl) nt' rfl (C.free_list) (by decide +kernel) (ad' (pv 2))))
      (ab' (aZ' (ar' (bV' hr.units) io' (nomark _) (ad' (pv 4)) ae') (af' (vH' (bE' ix_seq c9' (ad' (pv 3)) (cw' (aj' (aw' C) (hr.mono (by walk_at "4")) rfl (takes_of rfl rfl rfl rfl) (aa' (ad' (pv 0)) (aa' (bR' (aF' ⟨rfl, rfl⟩) cJ' rfl (C.free_len) (by decide +kernel) (ad' (pv 3))) ag')))) (fun _ _ => rfl)) (pv 6) (ad' (pv 5)))) as')
      (ab' (aZ' (ar' (bV' hr.units) io' (nomark _) (ad' (pv 4)) ae') (af' (an' (qi' (pv 6)))) as')
      (ab' (aZ' (ar' (bV' hr.units) io' (nomark _) (ad' (pv 4)) ae') (af' (ai' (i := 6) a8'.nd rfl (by walk_at "1") (sF' ao' wj' (oi' xo' xr' (ad' (pv 6)) og' (of' (ad' (pv 5)))) (oi' xo' xr' (ad' (pv 6)) (of' (ay' ao' bs' (ad' (pv 5)) ae')) og')))) as')
      (ab' (aZ' (ar' (bV' hr.units) io' (nomark _) (ad' (pv 4)) ae') (af' (eX' (pv 6) (a3' (bE' ix_seq c9' (ad' (pv 3)) (cw' (aj' (aw' C) (hr.mono (by walk_at "4")) rfl (takes_of rfl rfl rfl rfl) (aa' (ad' (pv 0)) (aa' (bR' (aF' ⟨rfl, rfl⟩) cJ' rfl (C.free_len) (by decide +kernel) (ad' (pv 3))) ag')))) (fun _ _ => rfl))))) as')
      (ab' (aZ' (ar' (bV' hr.units) io' (nomark _) (ad' (pv 4)) ae') (af' (ai' (i := 6) a8'.nd rfl (by walk_at "1") (eY' (aa' (ht' (pv 6) ae' (fun _ _ => rfl)) (aa' (ht' (pv 6) ae' (fun _ _ => rfl)) (aa' (ht' (pv 6) ae' (fun _ _ => rfl)) (aa' (ht' (pv 6) ae' (fun _ _ => rfl)) ag'))))))) as')
      (ab' (aZ' (ar' (bV' hr.units) io' (nomark _) (ad' (pv 4)) ae') (af' (an' (a3' (bE' ix_seq c9' (ad' (pv 3)) (cw' (aj' (aw' C) (hr.mono (by walk_at "4")) rfl (takes_of rfl rfl rfl rfl) (aa' (ad' (pv 0)) (aa' (bR' (aF' ⟨rfl, rfl⟩) cJ' rfl (C.free_len) (by decide +kernel) (ad' (pv 3))) ag')))) (fun _ _ => rfl))))) as')
      (af' (an' (a3' (cf' (bc' rfl) cv' rfl (C.free_tuple) (by decide +kernel) (ad' (pv 6))))))))))))))))), gZ' F, F.kp, C.g__law_spoiled⟩
end
end S
namespace S
open PySem PySem.Spec PyProof.Rows L2
section
variable [Wd] {K : PySem.W.Frag} {mg : Str -> Option Value} {base : Heap}
theorem zm' (C : Ctx Wd.w K mg) {fd : FuncData} (F : FunD K "law" "law" (defArgs f6') (defBody f6') (defScope f6') [] [] (He.ga K "law") fd) : FnG Wd.P Wd.w K mg base (L2.CX Wd.P Wd.w) 6 (He.ga K "law") fd ["_law_script"] (spM K M.f_law) :=
  okM F cn' rfl rfl (fun cdv A outer s H E hr =>
    (ab' (ai' (i := 1) cn'.nd rfl (by walk_at "1") (aj' (jC' C) (hr.mono (by walk_at "4")) rfl (takes_of rfl rfl rfl rfl) (aa' (ad' (pv 0)) ag')))
      (ab' (m5' (cw' (aj' (in' C) (hr.mono (by walk_at "4")) rfl (takes_of rfl rfl rfl rfl) (aa' (ad' (pv 1)) (aa' ae' (aa' ae' ag'))))) (r9' (n := 3) rfl rfl rfl rfl (aC' rfl (bT' 2 cn'.nd rfl (by walk_at "1") (by walk_at "2")) (aC' rfl (bT' 3 cn'.nd rfl (by walk_at "1") (by walk_at "2")) (aC' rfl (bT' 4 cn'.nd rfl (by walk_at "1") (by walk_at "2")) cE')))))
      (ab' (ai' (i := 5) cn'.nd rfl (by walk_at "1") (kP' (d0' C) (hr.mono (by decide)) rfl C.mk_Machine C.g_Machine (takes_of rfl rfl rfl rfl) (aa' (ad' (pv 2)) (aa' (ad' (pv 3)) (aa' (ad' (pv 4)) ag')))))
      (ab' (ai' (i := 6) cn'.nd rfl (by walk_at "1") (aj' (we' C) (hr.mono (by walk_at "4")) rfl (takes_of rfl rfl rfl rfl) (aa' (ad' (pv 5)) ag')))
      (ab' (bG' (passes_of rfl) rfl (bD' rfl (C.free_range) ae') (bT' 7 cn'.nd rfl (by walk_at "1") (by walk_at "2")) (ab' (fC' (i := 8) (own := [("_law_k", 12)]) rfl cn'.nd rfl rfl (sw_true (by rfl) (by rfl) (by rfl) (by decide +kernel)) (bD' rfl (C.free_range) ae') (blkOk_by (own := [("_law_k", 12)]) (N := Am') (sc := defScope f6') (by decide +kernel)) rfl (fun _ _ _ _ _ => (bT' 12 cn'.nd rfl (by walk_at "1") (by walk_at "2"))) (fun _ _ _ _ _ => bA') (fun _ _ _ _ _ => (cw' (aj' (dn' C) (hr.mono (by walk_at "4")) rfl dE' (aa' (ad' (pv 1)) (aa' (ad' (pv 2)) (aa' (cw' (aj' (aw' C) (hr.mono (by walk_at "4")) rfl dE' (aa' (ad' (pv 1)) (aa' ae' ag')))) ag')))))))
      (ab' (ai' (i := 9) cn'.nd rfl (by walk_at "1") (a3' (bZ' (aa' (bE' ix_seq c9' (ad' (pv 8)) ae' (fun _ _ => rfl)) (aa' (cw' (aj' (dn' C) (hr.mono (by walk_at "4")) rfl (takes_of rfl rfl rfl rfl) (aa' (ad' (pv 1)) (aa' (ad' (pv 2)) (aa' ae' ag'))))) (aa' (cw' (aj' (dn' C) (hr.mono (by walk_at "4")) rfl (takes_of rfl rfl rfl rfl) (aa' (ad' (pv 1)) (aa' (ad' (pv 2)) (aa' ae' ag'))))) (aa' (bE' ix_seq c9' (ad' (pv 8)) ae' (fun _ _ => rfl)) ag')))))))
      (ab' (aZ' (m3' (mX' (ar' hB' qY' (nomark _) (ad' (pv 6)) dQ') (ia' (ar' gj' wi' (nomark _) (ad' (pv 7)) ae')))) (af' (ai' (i := 9) cn'.nd rfl (by walk_at "1") (a3' (ad' (pv 6))))) as')
      (ab' (ai' (i := 9) cn'.nd rfl (by walk_at "1") (aj' (go' C) (hr.mono (by walk_at "4")) rfl (takes_of rfl rfl rfl rfl) (aa' (ad' (pv 1)) (aa' (ad' (pv 2)) (aa' (ad' (pv 9)) ag')))))
      (ab' (ai' (i := 10) cn'.nd rfl (by walk_at "1") (a3' (bR' (nX' hr.units hr.g) Ac' rfl (C.free_repr) (by decide +kernel) (ad' (pv 9)))))
      (ab' (ai' (i := 11) cn'.nd rfl (by walk_at "1") (aj' (il' C) (hr.mono (by walk_at "4")) rfl (takes_of rfl rfl rfl rfl) (aa' (ad' (pv 5)) (aa' (ad' (pv 9)) ag'))))
      (ab' (aZ' (m3' (fo' (ar' (dl' hr.units) sb' (nomark _) (ad' (pv 11)) (cw' (aj' (k4' C) (hr.mono (by walk_at "4")) rfl (takes_of rfl rfl rfl rfl) (aa' (ad' (pv 2)) (aa' (ad' (pv 3)) (aa' (ad' (pv 4)) (aa' (ad' (pv 9)) ag'))))))) (dP' (ar' (dl' hr.units) BA' (nomark _) (bR' (nX' hr.units hr.g) Ac' rfl (C.free_repr) (by decide +kernel) (ad' (pv 9))) (ad' (pv 10)))))) (af' (an' (a3' cF'))) as')
      (af' (aZ' (m3' (mX' (ar' hB' qY' (nomark _) (ad' (pv 11)) dQ') (ia' (bS' (iK' (ed' "tuple" (by decide) rfl (C.free_isinstance) (by decide +kernel) (ad' (pv 11)) (pe_bltn (v := .ty "tuple") rfl (C.free_tuple) (by decide +kernel) rfl))))))) (af' (an' (a3' cF'))) as'))))))))))
      (af' (an' (a3' cF')))))))))
end
end S
open PySem PySem.W PySem.Calls PyProof.Rows
set_option maxRecDepth 100000 in
set_option maxHeartbeats 0 in
theorem PySem.Challenge.cw_saidacross_k30_spoiled_swaps_holds : PySem.Challenge.rw_saidacross_k30_spoiled_swaps.Holds := by
  w_on; o_law
  refine HandSHeadRun.head_any (r := OpenLaw.row PySem.Challenge.rw_saidacross_k30_spoiled_swaps) (q := view (OpenLaw.row PySem.Challenge.rw_saidacross_k30_spoiled_swaps).prog [42]) (H := S.hk) (ob := S.ob) (loose := S.loose) (d := HandSHeadRun.topDef (OpenLaw.row PySem.Challenge.rw_saidacross_k30_spoiled_swaps).prog 42) (kwd := []) S.By'
    (by kernel_rfl) (fun s => by kernel_rfl) S.run (by kernel_rfl) (by kernel_rfl) (by kernel_rfl) (by rfl) (by first | assumption | decide +kernel) (by decide +kernel) ⟨rfl, rfl, rfl, rfl, rfl, by decide +kernel⟩ ?hw ?hc
  case hw => w_witness2
  case hc =>
    refine S.sl' (l := PySem.Challenge.rw_saidacross_k30_spoiled_swaps) (n := 63) (k := 6) (x := "_law_script") (CX := L2.CX0) rfl (by decide) (by kernel_rfl) ⟨rfl, by decide, by decide⟩ ?F (fun H s e s' z => z)
    intro w mg fa h Y G hmg0
    obtain ⟨K, KX, c⟩ := Y
    letI : S.Wd := ⟨(PySem.Challenge.rw_saidacross_k30_spoiled_swaps).prog, w, []⟩
    have C : S.Ctx S.Wd.w K mg := ⟨⟨_, c⟩, h, KX, G⟩
    have hmg : mg ("law" : PySem.Str) = some (.ref fa) := by
      have e : (HandSHeadRun.topDef (OpenLaw.row PySem.Challenge.rw_saidacross_k30_spoiled_swaps).prog 42).name = ("law" : PySem.Str) := by kernel_rfl
      rw [<- e]
      exact hmg0
    obtain rfl : fa = He.ga K "law" := by
      have e := C.g_law
      rw [hmg] at e
      exact PySem.Value.ref.inj (Option.some.inj e)
    obtain ⟨fd, F⟩ := C.f_law
    refine ⟨K, fd, fun vs H Q _ => S.spM K M.f_law vs H Q L2.E0, KX, fun s u => ?_, ?_, fun base X N => ?_⟩
    . exact F.bindsA (ps := ["_law_script"]) (fun _ _ _ _ _ _ us hl => match us, hl with | [_], _ => rfl) s [u] rfl
    . intro H a ns hn _ hs
      exact S.rn' K H (fun p z => absurd (show p ∈ ([] : List (Addr × Str)) from z) List.not_mem_nil) a ns hn hs M.law_true
    . exact S.FnG.to0 (S.zm' (base := base) C F)
