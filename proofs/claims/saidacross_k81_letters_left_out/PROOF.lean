import PyProof.Rows.All
import Wide.All
import OpenK.AllK
import Wide.FinOn
import KE.KStateDown
import KE.GoesNew
import HandS.ForMost
import HandS.Exc
import HandS.TryOnly
import HandS.TryMany
import HandS.ExcOwn
import HandS.ExcBuiltin
import HandS.Small
import HandS.WordsExc
import HandS.IsInst
import HandS.StrMore
import HandS.TupAny
import HandS.Zip
import HandS.Defaults
import HandS.Head0
import HandS.Head1
import HandS.Head2
import HandS.HeadEnd
import HandS.HeadHook1
import HandS.HeadHook2
import HandS.Walk
import KE.GoesMore
import HandS.Iter
import PyProof.CollectStr
import HandS.Conv
import PyProof.ListStr
import PyProof.TupleOfStr
import HandS.Lambda
import HandS.Style
import KE.KDictKeyed
import HandS.Wide
import KE.KTupTabMore
import HandS.Rev
import HandS.RevRange
import HandS.SortInts
import HandS.ExcIs
import HandS.ExcField
import HandS.Rindex
import HandS.HeadHook4
import PyProof.StrLawsFrom
import PyProof.Rows.RegReprOcc
import PyProof.Rows.StrLast
import KE.KDictDisplayH
import HandS.SetKeys
import HandS.DictComp
import HandS.More
import PyProof.ReprBulk
import PyProof.ReprRoads
import PyProof.CallFns
import PyProof.RowDictHeap
import PyProof.Rows.StrRev
import KE.KRevSl
import HandS.Deep
import HandS.Call
import KE.KExcSuper
import HandS.TupMul
import HandS.ReplaceLit
import HandS.ReplaceList
import KE.KDictZip
import PyProof.ListNew
import HandS.ListItems
import HandS.Zip0
import HandS.TupSets
import KE.SortKeyHeap
import KE.KLam
import HandS.SortKw
import HandS.EndTab
import KE.KItemsList
import HandS.NoneIn
import KE.DataMinKey
import KE.DataFind
import KE.DatumOrd
import HandS.Finally
import HandS.Strs
import HandS.Nested
import PyProof.Rows.Walk
import PySem.Challenge.RW_saidacross_k81_letters_left_out
set_option Elab.async false
set_option linter.all false
set_option maxRecDepth 100000
set_option maxHeartbeats 4000000
local macro_rules | `(tactic| walk_at "1") => `(tactic| first | exact Or.inl rfl | exact Or.inr rfl)
local macro_rules | `(tactic| walk_at "2") => `(tactic| first | exact Or.inl rfl | exact Or.inr rfl | assumption)
local macro_rules | `(tactic| walk_at "3") => `(tactic| exact ⟨rfl, rfl, rfl, by decide +kernel, rfl, by decide +kernel, by decide +kernel⟩)
local macro_rules | `(tactic| walk_at "4") => `(tactic| first | decide | omega)
namespace M
abbrev Tx := List Nat
abbrev dq' : Nat := 16777216
inductive D where
  | non | bl (b : Bool) | int (i : Int) | str (s : Tx)
  | tup (ds : List D) | lst (ds : List D) | dct (ks vs : List D)
  | obj (n : Nat) | ty (x : String) | fn (x : String) | exc (x : String) (ds : List D)
  | scr (ds : List D)
  /-- a dict whose keys are bools, or tuples; the text that repr gives -/
  | dcx (ks vs : List D) | rep (d : D)
  deriving Inhabited
inductive O where
  | fz (d : D) | lst (os : List O) | dct (ks : List D) (vs : List O) | tup (os : List O) | dcx (ks : List D) (vs : List O) | exn | clo
  deriving Inhabited
inductive Ob where
  | lst (os : List O) | dct (ks : List D) (vs : List O) | ins (C : String) (fs : List (String × O)) | dcx (ks : List D) (vs : List O)
abbrev W := List Ob
structure PSt where
  env : List (Option O)
  w : W
structure Exc where
  cls : String
  fs : List (String × D)
inductive Res (α : Type) where
  | ok (a : α) (ρ : PSt) | exc (x : Exc) (ρ : PSt) | bad
inductive Out where
  | nx (ρ : PSt) | rt (o : O) (w : W) | bk (ρ : PSt) | ct (ρ : PSt) | exc (x : Exc) (ρ : PSt) | bad
inductive FRes where
  | ok (o : O) (w : W) | exc (x : Exc) (w : W) | bad
def A0' : O -> Bool
  | .exn => false
  | .clo => false
  | _ => true
theorem dt' {o : O} (h : o ≠ .exn) (k : o ≠ .clo) : A0' o = true := by
  cases o <;> first | rfl | exact absurd rfl h | exact absurd rfl k
mutual
def frz : O -> D
  | .fz d => d
  | .lst os => .lst (frzs os)
  | .dct ks vs => .dct ks (frzs vs)
  | .tup os => .tup (frzs os)
  | .dcx ks vs => .dcx ks (frzs vs)
  | .exn => .non
  | .clo => .non
def frzs : List O -> List D
  | [] => []
  | o :: r => frz o :: frzs r
end
@[simp] theorem rR' (ds : List D) : frzs (ds.map .fz) = ds := by
  induction ds with
  | nil => rfl
  | cons d r ih => simp [frzs, frz, ih]
theorem eu' (os : List O) : frzs os = os.map frz := by
  induction os with
  | nil => rfl
  | cons d r ih => simp [frzs, ih]
mutual
/-- data that == compares, at most so deep -/
def dep : D -> Nat
  | .tup ds => deps ds + 1
  | .lst ds => deps ds + 1
  | _ => 0
def deps : List D -> Nat
  | [] => 0
  | d :: r => max (dep d) (deps r)
end
mutual
def dat : D -> Bool
  | .non => true | .bl _ => true | .int _ => true | .str _ => true
  | .tup ds => dats ds
  | .lst ds => dats ds
  | _ => false
def dats : List D -> Bool
  | [] => true
  | d :: r => dat d && dats r
end
mutual
def eqb : D -> D -> Bool
  | .non, .non => true
  | .bl a, .bl b => a == b
  | .bl a, .int j => (if a then 1 else 0) == j
  | .int i, .bl b => i == (if b then 1 else 0)
  | .int i, .int j => i == j
  | .str x, .str y => x == y
  | .lst xs, .lst ys => eqbs xs ys
  | .tup xs, .tup ys => eqbs xs ys
  | _, _ => false
def eqbs : List D -> List D -> Bool
  | [], [] => true
  | x :: xs, y :: ys => eqb x y && eqbs xs ys
  | _, _ => false
end
def eqv (d e : D) : Option Bool := if dat d = true /\ dat e = true /\ dep d <= 64 /\ dep e <= 64 then some (eqb d e) else none
mutual
/-- no whole number is too great to be shown -/
def sk' : D -> Bool
  | .int i => decide (i.natAbs < 10 ^ 60)
  | .tup ds => repIs ds
  | .lst ds => repIs ds
  | .dct ks ds => repIs ks && repIs ds
  | _ => true
def repIs : List D -> Bool
  | [] => true
  | d :: r => sk' d && repIs r
end
mutual
def o4' : D -> Nat
  | .str s => s.length
  | .tup ds => repWs ds
  | .lst ds => repWs ds
  | .dct ks ds => repWs ks + repWs ds
  | _ => 0
def repWs : List D -> Nat
  | [] => 0
  | d :: r => o4' d + 1 + repWs r
end
mutual
/-- the same data -/
def same : D -> D -> Bool
  | .non, .non => true
  | .bl a, .bl b => a == b
  | .int i, .int j => i == j
  | .str x, .str y => x == y
  | .lst xs, .lst ys => sames xs ys
  | .tup xs, .tup ys => sames xs ys
  | .dct ks xs, .dct ls ys => sames ks ls && sames xs ys
  | _, _ => false
def sames : List D -> List D -> Bool
  | [], [] => true
  | x :: xs, y :: ys => same x y && sames xs ys
  | _, _ => false
end
def et' : D -> Bool
  | .non => true
  | .bl _ => true
  | .int _ => true
  | .str _ => true
  | _ => false
def BC' : D -> Bool
  | .dct [] [] => true
  | _ => false
def xq' : D -> Bool
  | .dct _ ds => ds.all et'
  | .tup ds => dats ds || ds.all fun d => et' d || BC' d
  | d => dat d
theorem vQ' {d : D} (h : dat d = true) : xq' d = true := by
  cases d with
  | tup ds => show (dats ds || _) = true; rw [show dats ds = true from h]; rfl
  | dct ks ds => cases h
  | _ => exact h
def v1' (d : D) : Option D := if xq' d = true /\ dep d <= 40 /\ sk' d = true /\ o4' d <= 200000 then some (.rep d) else none
def Ap' : D -> D -> Option D
  | .rep a, .rep b => if same a b = true then some (.bl true) else none
  | _, _ => none
def Ao' : D -> D -> Option D
  | .rep a, .rep b => if same a b = true then some (.bl false) else none
  | _, _ => none
def ob (o : Option Bool) : Option D := o.map .bl
def pEq (x y : D) : Option D := ob (eqv x y)
def pNe (x y : D) : Option D := ob ((eqv x y).map (!·))
def e1' : D -> Bool
  | .non => true
  | _ => false
def pIs : D -> D -> Option D
  | x, .non => some (.bl (e1' x))
  | .bl a, .bl b => some (.bl (a == b))
  | _, _ => none
def nG' (x y : D) : Option D := match pIs x y with | some (.bl b) => some (.bl (!b)) | _ => none
def pLt : D -> D -> Option D
  | .int i, .int j => some (.bl (decide (i < j)))
  | .str a, .str b => some (.bl (decide (a < b)))
  | _, _ => none
def pLe : D -> D -> Option D
  | .int i, .int j => some (.bl (decide (i <= j)))
  | .str a, .str b => some (.bl (!decide (b < a)))
  | _, _ => none
def pGt : D -> D -> Option D
  | .int i, .int j => some (.bl (decide (j < i)))
  | .str a, .str b => some (.bl (decide (b < a)))
  | _, _ => none
def pGe : D -> D -> Option D
  | .int i, .int j => some (.bl (decide (j <= i)))
  | .str a, .str b => some (.bl (!decide (a < b)))
  | _, _ => none
def cV' : D -> D -> Option D
  | .int i, .int j => some (.int (i + j))
  | .str a, .str b => if a.length + b.length <= dq' then some (.str (a ++ b)) else none
  | .lst a, .lst b => if a.length + b.length <= dq' then some (.lst (a ++ b)) else none
  | .tup a, .tup b => if a.length + b.length <= dq' then some (.tup (a ++ b)) else none
  | _, _ => none
def s7' : D -> D -> Option D
  | .int i, .int j => some (.int (i + j))
  | _, _ => none
def uG' : D -> D -> Option D
  | .int i, .int j => some (.int (i - j))
  | _, _ => none
def small64 (i : Int) : Bool := decide (-(2 ^ 64) < i) && decide (i < 2 ^ 64)
def iY' : D -> D -> Option D
  | .int i, .int j => if (small64 i = true \/ small64 j = true) \/ ((-2582249878086908589655919172003011874329705792829223512830659356540647622016841194629645353280137831435903171972747493376 < i /\ i < 2582249878086908589655919172003011874329705792829223512830659356540647622016841194629645353280137831435903171972747493376) /\ (-2582249878086908589655919172003011874329705792829223512830659356540647622016841194629645353280137831435903171972747493376 < j /\ j < 2582249878086908589655919172003011874329705792829223512830659356540647622016841194629645353280137831435903171972747493376)) then some (.int (i * j)) else none
  | .str a, .int j => if j < 2 ^ 62 /\ -(2 ^ 62) <= j /\ a.length * j.toNat <= dq' then some (.str (List.replicate j.toNat a).flatten) else none
  | .lst a, .int j => if j < 2 ^ 62 /\ -(2 ^ 62) <= j /\ a.length * j.toNat <= dq' then some (.lst (List.replicate j.toNat a).flatten) else none
  | _, _ => none
def iZ' : D -> D -> Option D
  | .int i, .int j => if 0 < j /\ j < 1606938044258990275541962092341162602522202993782792835301376 then some (.int (i / j)) else none
  | _, _ => none
def kf' : D -> D -> Option D
  | .int i, .int j => if 0 < j then some (.int (i % j)) else none
  | _, _ => none
def yB' : D -> D -> Option D
  | .int i, .int j => if 0 <= j /\ j <= 1000 /\ small64 i = true then some (.int (i ^ j.toNat)) else none
  | _, _ => none
def An' : D -> Option D
  | .int i => some (.int (-i))
  | _ => none
def chD (c : Nat) : D := .str [c]
def ixn (n : Nat) (i : Int) : Option Nat := if 0 <= i then (if i < n then some i.toNat else none) else (if -(n : Int) <= i then some (i + n).toNat else none)
def ati {α : Type} (xs : List α) (i : Int) : Option α := (ixn xs.length i).bind fun j => xs[j]?
def six (n : Nat) (d : Nat) : Option Int -> Nat
  | none => d
  | some i => if i < 0 then (i + (n : Int)).toNat else min i.toNat n
def cut {α : Type} (xs : List α) (lo hi : Option Int) : List α := (xs.drop (six xs.length 0 lo)).take (six xs.length xs.length hi - six xs.length 0 lo)
def ek' : D -> Option (List D)
  | .lst xs => some xs
  | .tup xs => some xs
  | .str s => some (s.map chD)
  | _ => none
def sca : D -> Bool
  | .non => true | .bl _ => true | .int _ => true | .str _ => true
  | _ => false
def pIn : D -> D -> Option D
  | .str [c], .str s => some (.bl (decide (c ∈ s)))
  | x, .lst ds => if sca x = true /\ ds.all sca = true then some (.bl (ds.any fun d => eqb d x)) else none
  | x, .tup ds => if sca x = true /\ ds.all sca = true then some (.bl (ds.any fun d => eqb d x)) else none
  | _, _ => none
mutual
def kat : D -> Bool
  | .non => true | .bl _ => true | .int _ => true | .str _ => true
  | .tup ds => kats ds
  | _ => false
def kats : List D -> Bool
  | [] => true
  | d :: r => kat d && kats r
end
def rH' (ks : List D) (k : D) : Bool := kat k && decide (dep k <= 8) && ks.all (fun d => sca d == sca k)
def gB' (ks : List D) (k : D) : Option Nat := ks.findIdx? fun d => eqb d k
def isK : D -> Bool
  | .int _ => true | .str _ => true
  | _ => false
def dget {α : Type} (ks : List D) (vs : List α) (k : D) : Option α := (gB' ks k).bind fun j => vs[j]?
def cu' : O -> D -> Option (Option O)
  | .dct ks os, k => if isK k = true then some (dget ks os k) else none
  | .dcx ks os, k => if rH' ks k = true then some (dget ks os k) else none
  | .fz (.dct ks vs), k => if isK k = true then some (dget ks (vs.map .fz) k) else none
  | .fz (.dcx ks vs), k => if rH' ks k = true then some (dget ks (vs.map .fz) k) else none
  | _, _ => none
def nD' {α : Type} (ks : List D) (os : List α) (k : D) (o : α) : Option (List D × List α) := match gB' ks k with
  | some j => some (ks, os.set j o)
  | none => if ks.length < dq' then some (ks ++ [k], os ++ [o]) else none
def fz' : O -> D -> O -> Option O
  | .dct ks os, k, o => if isK k = true then (nD' ks os k o).map fun p => .dct p.1 p.2 else none
  | .dcx ks os, k, o => if rH' ks k = true then (nD' ks os k o).map fun p => .dcx p.1 p.2 else none
  | _, _, _ => none
def eQ' (x y : D) : Option D := match pIn x y with | some (.bl b) => some (.bl (!b)) | _ => none
def en' : D -> Option D
  | .str s => some (.int s.length)
  | .lst ds => some (.int ds.length)
  | .tup ds => some (.int ds.length)
  | .dct ks _ => some (.int ks.length)
  | .dcx ks _ => some (.int ks.length)
  | _ => none
def pIx : D -> D -> Option D
  | .str s, .int i => (ati s i).map chD
  | .lst ds, .int i => ati ds i
  | .tup ds, .int i => ati ds i
  | _, _ => none
def pSl (d : D) (lo hi : Option Int) : Option D := match d with
  | .str s => some (.str (cut s lo hi))
  | .lst s => some (.lst (cut s lo hi))
  | .tup s => some (.tup (cut s lo hi))
  | .scr s => some (.lst (cut s lo hi))
  | _ => none
def xs' : D -> Option D
  | .str s => some (.str s.reverse)
  | .lst s => some (.lst s.reverse)
  | _ => none
def d3' : List D -> Option (List Tx)
  | [] => some []
  | .str s :: r => (d3' r).map (s :: ·)
  | _ :: _ => none
def cZ' (sep : Tx) : List Tx -> Tx
  | [] => []
  | [x] => x
  | x :: y :: r => x ++ (sep ++ cZ' sep (y :: r))
def jb' (a : Tx) : List D -> Option D
  | [.lst ds] => (d3' ds).bind fun ys => if (ys.map List.length).sum + ys.length * a.length <= dq' then some (.str (cZ' a ys)) else none
  | [.tup ds] => (d3' ds).bind fun ys => if (ys.map List.length).sum + ys.length * a.length <= dq' then some (.str (cZ' a ys)) else none
  | _ => none
def bC' : List D -> Option (List Int)
  | [] => some []
  | .int b :: r => (bC' r).map (b :: ·)
  | _ :: _ => none
def CP' : D -> Option D
  | .lst ds => (bC' ds).map fun ns => .int ns.sum
  | _ => none
def cA' (l : List Nat) : List Nat := l.mergeSort fun a b => decide (a <= b)
def ls' (l : List Int) : List Int := l.mergeSort fun a b => decide (a <= b)
def dW' : D -> Option D
  | .dct ks _ => (bC' ks).bind fun ns => if ns.length <= dq' then some (.lst ((ls' ns).map .int)) else none
  | _ => none
def gY' : List D -> Option (List Nat)
  | [] => some []
  | .str [c] :: r => (gY' r).map (c :: ·)
  | _ => none
def da' : D -> Option D
  | .str s => if s.length < 64 then some (.lst ((cA' s).map chD)) else none
  | .lst ds => match bC' ds with
    | some ns => some (.lst ((ls' ns).map .int))
    | none => (gY' ds).bind fun cs => if cs.length < 64 then some (.lst ((cA' cs).map chD)) else none
  | _ => none
def uP' (a b : Tx) (i : Nat) : Bool := decide (i + b.length <= a.length) && decide ((a.drop i).take b.length = b)
def n0' (a b : Tx) : Option Nat := (List.range (a.length + 1)).find? (uP' a b)
def fnd (o : Option Nat) : Int := match o with | some i => (i : Int) | none => -1
def rr' (a : Tx) : List D -> Option D
  | [.str b] => some (.int (fnd (n0' a b)))
  | _ => none
def in' (a : Tx) : List D -> Option D
  | [.str b] => (n0' a b).map fun (i : Nat) => D.int (Int.ofNat i)
  | _ => none
def Ah' (c : Nat) : Tx -> List Tx
  | [] => [[]]
  | x :: r => if x = c then [] :: Ah' c r else (match Ah' c r with
    | [] => [[x]]
    | y :: ys => (x :: y) :: ys)
def yL' (a : Tx) : List D -> Option D
  | [.str [c]] => if c < 128 /\ a.length + 2 <= dq' then some (.lst ((Ah' c a).map .str)) else none
  | _ => none
def CX' (n : Nat) : Tx := (Nat.toDigits 10 n).map Char.toNat
def Dl' : D -> Option D
  | .int i => if 0 <= i /\ i < 1000000000000000000000000000000000000000000000000000000000000 then some (.str (CX' i.toNat)) else none
  | _ => none
def up1 (c : Nat) : Nat := if 97 <= c /\ c <= 122 then c - 32 else c
def uF' : D -> Option D
  | .str s => if s.all (fun c => decide (c < 128)) = true /\ s.length <= 5592405 then some (.str (s.map up1)) else none
  | _ => none
def bools : List D -> Option (List Bool)
  | [] => some []
  | .bl b :: r => (bools r).map (b :: ·)
  | _ :: _ => none
def CR' : D -> Option D
  | .lst ds => (bools ds).map fun bs => .bl (bs.all id)
  | _ => none
def CQ' : D -> Option D
  | .lst ds => (bools ds).map fun bs => .bl (bs.any id)
  | _ => none
def Bo' : D -> Option D
  | .lst ds => some (.lst ds)
  | .tup ds => some (.lst ds)
  | .str s => some (.lst (s.map chD))
  | _ => none
def d9' : D -> Option D
  | .str s => some (.lst (s.map chD))
  | d => Bo' d
def bR' : D -> Option D
  | .str s => some (.tup (s.map chD))
  | .lst ds => some (.tup ds)
  | .tup ds => some (.tup ds)
  | _ => none
def ik' : D -> Option D
  | .int i => some (.int i)
  | .bl b => some (.int (if b then 1 else 0))
  | _ => none
def Aq' : D -> Option D
  | .int i => some (.int (if i < 0 then -i else i))
  | _ => none
def rb' : D -> D -> Option D
  | .int i, .int j => some (.int (if j > i then j else i))
  | _, _ => none
def oz' : D -> D -> Option D
  | .int i, .int j => some (.int (if j < i then j else i))
  | _, _ => none
def nQ' : List Int -> Int
  | [] => 0
  | [x] => x
  | x :: r => max x (nQ' r)
def oA' : D -> Option D
  | .dct _ vs => (bC' vs).bind fun ns => if ns = [] then none else some (.int (nQ' ns))
  | _ => none
def tyn : D -> Option String
  | .non => some "NoneType" | .bl _ => some "bool" | .int _ => some "int" | .str _ => some "str"
  | .tup _ => some "tuple" | .lst _ => some "list" | .dct _ _ => some "dict"
  | _ => none
def cl' (t : String) (d : D) : Option D := (tyn d).map fun n => .bl (n == t || (n == "bool" && t == "int"))
abbrev ME := PSt -> Res D
abbrev MO := PSt -> Res O
abbrev MA := PSt -> Res (List D)
abbrev MT := PSt -> Res Bool
abbrev MS := PSt -> Out
abbrev MF := List D -> W -> FRes
abbrev MG := D -> PSt -> Option PSt
abbrev MI := PSt -> Res (List D)
@[simp] def Res.bind {α β : Type} (r : Res α) (f : α -> PSt -> Res β) : Res β := match r with
  | .ok a ρ => f a ρ
  | .exc x ρ => .exc x ρ
  | .bad => .bad
@[simp] def Res.out {α : Type} (r : Res α) (f : α -> PSt -> Out) : Out := match r with
  | .ok a ρ => f a ρ
  | .exc x ρ => .exc x ρ
  | .bad => .bad
@[simp] def ofO {α : Type} (o : Option α) (ρ : PSt) : Res α := match o with
  | some a => .ok a ρ
  | none => .bad
@[simp] def eC (d : D) : ME := fun ρ => .ok d ρ
@[simp] def eV (i : Nat) : ME := fun ρ => match ρ.env[i]? with
  | some (some (.fz d)) => .ok d ρ
  | some (some .exn) => .bad
  | some (some .clo) => .bad
  | some (some o) => .ok (frz o) ⟨ρ.env.set i (some (.fz (frz o))), ρ.w⟩
  | _ => .bad
@[simp] def eOp (f : D -> D -> Option D) (a b : ME) : ME := fun ρ => (a ρ).bind fun x ρ1 => (b ρ1).bind fun y ρ2 => ofO (f x y) ρ2
@[simp] def eUn (f : D -> Option D) (a : ME) : ME := fun ρ => (a ρ).bind fun x ρ1 => ofO (f x) ρ1
@[simp] def asB (d : D) (ρ : PSt) : Res Bool := match d with
  | .bl b => .ok b ρ
  | _ => .bad
@[simp] def wI' (a b : ME) : ME := fun ρ => (a ρ).bind fun x ρ1 => (asB x ρ1).bind fun k ρ1 => if k = true then b ρ1 else .ok (.bl false) ρ1
@[simp] def zf' (a : ME) : ME := fun ρ => (a ρ).bind fun x ρ1 => (asB x ρ1).bind fun k ρ1 => .ok (.bl (!k)) ρ1
@[simp] def he' (f g : D -> D -> Option D) (a b c : ME) : ME := fun ρ => (a ρ).bind fun x ρ1 => (b ρ1).bind fun y ρ2 => (ofO (f x y) ρ2).bind fun r ρ2 => (asB r ρ2).bind fun k ρ2 =>
  if k = true then (c ρ2).bind fun z ρ3 => ofO (g y z) ρ3 else .ok (.bl false) ρ2
@[simp] def ba' : MA := fun ρ => .ok [] ρ
@[simp] def ad' (a : ME) (r : MA) : MA := fun ρ => (a ρ).bind fun x ρ1 => (r ρ1).bind fun xs ρ2 => .ok (x :: xs) ρ2
@[simp] def o6' (as : MA) : ME := fun ρ => (as ρ).bind fun xs ρ1 => if xs.length <= dq' then .ok (.tup xs) ρ1 else .bad
@[simp] def lk' (as : MA) : ME := fun ρ => (as ρ).bind fun xs ρ1 => if xs.length <= dq' then .ok (.lst xs) ρ1 else .bad
@[simp] def eMt (f : Tx -> List D -> Option D) (a : ME) (as : MA) : ME := fun ρ => (a ρ).bind fun x ρ1 => match x with
  | .str s => (as ρ1).bind fun ds ρ2 => ofO (f s ds) ρ2
  | _ => .bad
def rq' (ds : List D) : List D -> Option D
  | [.int v] => (bC' ds).bind fun ns => if v ∈ ns then some (.int ((ns.idxOf v : Nat) : Int)) else none
  | _ => none
abbrev MP := PSt -> Res (Option Int)
@[simp] def pNo : MP := fun ρ => .ok none ρ
@[simp] def pSo (a : ME) : MP := fun ρ => (a ρ).bind fun x ρ1 => match x with | .int i => .ok (some i) ρ1 | _ => .bad
@[simp] def eSl (a : ME) (lo hi : MP) : ME := fun ρ => (a ρ).bind fun x ρ1 => (lo ρ1).bind fun l ρ2 => (hi ρ2).bind fun h ρ3 => ofO (pSl x l h) ρ3
@[simp] def fin (r : FRes) (ρ : PSt) : Res O := match r with
  | .ok o w => .ok o ⟨ρ.env, w⟩
  | .exc x w => .exc x ⟨ρ.env, w⟩
  | .bad => .bad
@[simp] def aM' (f : MF) (as : MA) : MO := fun ρ => (as ρ).bind fun xs ρ1 => fin (f xs ρ1.w) ρ1
@[simp] def eO (a : MO) : ME := fun ρ => (a ρ).bind fun o ρ1 => .ok (frz o) ρ1
@[simp] def oE (a : ME) : MO := fun ρ => (a ρ).bind fun d ρ1 => .ok (.fz d) ρ1
@[simp] def oV (i : Nat) : MO := fun ρ => match ρ.env[i]? with
  | some (some (.fz d)) => .ok (.fz d) ρ
  | some (some .exn) => .bad
  | some (some .clo) => .bad
  | some (some o) => .ok o ⟨ρ.env.set i none, ρ.w⟩
  | _ => .bad
abbrev MOA := PSt -> Res (List O)
@[simp] def lj' (a : ME) : MO := fun ρ => (a ρ).bind fun d ρ1 => match d with | .lst ds => .ok (.lst (ds.map .fz)) ρ1 | _ => .bad
@[simp] def go' : MO := fun ρ => .ok (.dct [] []) ρ
def RgB (a b : Int) : Bool := decide (-(2 ^ 62) <= a) && decide (a < 2 ^ 62) && decide (-(2 ^ 62) <= b) && decide (b < 2 ^ 62) && decide ((b - a).toNat <= 16777216)
def e3' (a b : Int) : List D := (List.range (b - a).toNat).map fun i => .int (a + (i : Nat))
@[simp] def eR' : D -> Option D
  | .int b => if RgB 0 b = true then some (.lst (e3' 0 b)) else none
  | _ => none
@[simp] def kI' (i : Nat) (a : ME) : ME := fun ρ => match ρ.env[i]? with
  | some (some (.lst _)) => (a ρ).bind fun d ρ1 => match ρ1.env[i]?, d with
    | some (some (.lst os)), .int z => (match (if os.length <= dq' then ixn os.length z else none) with
      | some j => (match os[j]? with
        | some (.fz y) => .ok y ⟨ρ1.env.set i (some (.lst (os.eraseIdx j))), ρ1.w⟩
        | _ => .bad)
      | none => .bad)
    | _, _ => .bad
  | _ => .bad
@[simp] def items : O -> Option (List O)
  | .fz (.lst ds) => some (ds.map .fz)
  | .fz (.tup ds) => some (ds.map .fz)
  | .fz (.str s) => some (s.map fun c => .fz (chD c))
  | .lst os => some os
  | .tup os => some os
  | _ => none
@[simp] def ixO : O -> D -> Option D
  | .fz d, k => pIx d k
  | .lst os, .int i => match ati os i with | some (.fz d) => some d | _ => none
  | .tup os, .int i => match ati os i with | some (.fz d) => some d | _ => none
  | _, _ => none
@[simp] def wG' (i : Nat) (b : ME) : ME := fun ρ => match ρ.env[i]? with
  | some (some _) => (b ρ).bind fun k ρ1 => match ρ1.env[i]? with
    | some (some o) => ofO (ixO o k) ρ1
    | _ => .bad
  | _ => .bad
@[simp] def inO (x : D) : O -> Option D
  | .fz d => pIn x d
  | .lst os => if os.all (fun o => match o with | .fz _ => true | _ => false) = true then pIn x (.lst (os.map frz)) else none
  | _ => none
@[simp] def Dw' (i : Nat) (a : ME) : ME := fun ρ => (a ρ).bind fun x ρ1 => match ρ1.env[i]? with
  | some (some o) => ofO (inO x o) ρ1
  | _ => .bad
@[simp] def rh' : Option D -> Option D
  | some (.bl b) => some (.bl (!b))
  | _ => none
@[simp] def fJ' (i : Nat) (a : ME) : ME := fun ρ => (a ρ).bind fun x ρ1 => match ρ1.env[i]? with
  | some (some o) => ofO (rh' (inO x o)) ρ1
  | _ => .bad
@[simp] def sm' : O -> Option D
  | .fz d => en' d
  | .lst os => some (.int os.length)
  | .tup os => some (.int os.length)
  | .dct ks _ => some (.int ks.length)
  | .dcx ks _ => some (.int ks.length)
  | .exn => none
  | .clo => none
@[simp] def ex' (i : Nat) : ME := fun ρ => match ρ.env[i]? with
  | some (some o) => ofO (sm' o) ρ
  | _ => .bad
@[simp] def sd' : Option (Option O) -> Option D
  | some (some (.fz d)) => some d
  | _ => none
@[simp] def tB' (neg : Bool) (i : Nat) (a : ME) : ME := fun ρ => (a ρ).bind fun k ρ1 => match ρ1.env[i]? with
  | some (some o) => ofO ((cu' o k).map fun r => .bl (r.isSome != neg)) ρ1
  | _ => .bad
@[simp] def jB' (i : Nat) (a : ME) : ME := fun ρ => match ρ.env[i]? with
  | some (some _) => (a ρ).bind fun k ρ1 => match ρ1.env[i]? with
    | some (some o) => ofO (sd' (cu' o k)) ρ1
    | _ => .bad
  | _ => .bad
@[simp] def ir' (i : Nat) (k a : ME) : ME := fun ρ => match ρ.env[i]? with
  | some (some (.dct _ _)) => (k ρ).bind fun y ρ1 => (a ρ1).bind fun d ρ2 => match ρ2.env[i]? with
    | some (some (.dct ks os)) => if isK y = true /\ ks.length < dq' then (match dget ks os y with
      | some (.fz e) => .ok e ρ2
      | some _ => .bad
      | none => .ok d ⟨ρ2.env.set i (some (.dct (ks ++ [y]) (os ++ [.fz d]))), ρ2.w⟩) else .bad
    | _ => .bad
  | _ => .bad
@[simp] def rg' : MO := fun ρ => .ok (.dcx [] []) ρ
def kg' (x : Bool) (y d : D) : Option O := if x = true then (if kat y = true /\ dep y <= 8 /\ sca y = false then some (.dcx [y] [.fz d]) else none) else (if isK y = true then some (.dct [y] [.fz d]) else none)
@[simp] def ko' (x : Bool) (k a : ME) : MO := fun ρ => (k ρ).bind fun y ρ1 => (a ρ1).bind fun d ρ2 => ofO (kg' x y d) ρ2
@[simp] def o3' (i : Nat) (k a : ME) : MS := fun ρ => (a ρ).out fun d ρ1 => match ρ1.env[i]? with
  | some (some _) => (k ρ1).out fun y ρ2 => match ρ2.env[i]? with
    | some (some o) => (match fz' o y (.fz d) with
      | some o' => .nx ⟨ρ2.env.set i (some o'), ρ2.w⟩
      | none => .bad)
    | _ => .bad
  | _ => .bad
@[simp] def ixW (w : W) : D -> D -> Option D
  | .obj n, k => match w[n]? with | some (.lst os) => ixO (.lst os) k | _ => none
  | d, k => pIx d k
@[simp] def jA' (a b : ME) : ME := fun ρ => (a ρ).bind fun x ρ1 => (b ρ1).bind fun y ρ2 => ofO (ixW ρ2.w x y) ρ2
@[simp] def yH' (as : MA) : MO := fun ρ => (as ρ).bind fun xs ρ1 => if xs.length <= dq' then .ok (.fz (.obj ρ1.w.length)) ⟨ρ1.env, ρ1.w ++ [.lst (xs.map .fz)]⟩ else .bad
@[simp] def tE (a : ME) : MT := fun ρ => (a ρ).bind asB
@[simp] def gx' (a : MT) : MT := fun ρ => (a ρ).bind fun k ρ1 => .ok (!k) ρ1
@[simp] def us' (a b : MT) : MT := fun ρ => (a ρ).bind fun k ρ1 => if k = true then b ρ1 else .ok false ρ1
@[simp] def tOr (a b : MT) : MT := fun ρ => (a ρ).bind fun k ρ1 => if k = true then .ok true ρ1 else b ρ1
@[simp] def do' (a : ME) : MI := fun ρ => (a ρ).bind fun d ρ1 => ofO (ek' d) ρ1
def rgI (lo : Int) (n : Nat) : List D := (List.range n).map fun i => .int (lo + (i : Nat))
def so' (i : Int) : Bool := decide (-(2 ^ 62) <= i) && decide (i < 2 ^ 62)
@[simp] def fA' : D -> Option (List D)
  | .int j => if so' j = true then some (rgI 0 j.toNat) else none
  | _ => none
@[simp] def ra' : D -> D -> Option (List D)
  | .int i, .int j => if so' i = true /\ so' j = true then some (rgI i (j - i).toNat) else none
  | _, _ => none
@[simp] def bY' (a : ME) : MI := fun ρ => (a ρ).bind fun x ρ1 => ofO (fA' x) ρ1
def ds' : List D -> List D -> List D
  | x :: xs, y :: ys => .tup [x, y] :: ds' xs ys
  | _, _ => []
def lP' (k : Nat) : List D -> List D
  | [] => []
  | x :: xs => .tup [.int k, x] :: lP' (k + 1) xs
@[simp] def Bn' (x y : D) : Option (List D) := match ek' x, ek' y with
  | some a, some b => some (ds' a b)
  | _, _ => none
def si' (x y : D) : Option (List D) := match x, y with
  | .str _, .str _ => Bn' x y
  | .lst _, .lst _ => Bn' x y
  | .tup _, .tup _ => Bn' x y
  | _, _ => none
def enB : D -> Option (List D)
  | .str s => some (lP' 0 (s.map chD))
  | .lst ds => some (lP' 0 ds)
  | _ => none
def Al' : D -> Option (List D)
  | .lst ds => some ds.reverse
  | .tup ds => some ds.reverse
  | _ => none
def CG' (x y : D) : Option (List D) := match x, y with
  | .str s, .tup ds => some (ds' (s.map chD) ds)
  | _, _ => none
@[simp] def y4' (a b : ME) : MI := fun ρ => (a ρ).bind fun x ρ1 => (b ρ1).bind fun y ρ2 => ofO (si' x y) ρ2
def Cv' : D -> Option (List D)
  | .dct ks _ => some ks
  | _ => none
def Cu' : D -> Option (List D)
  | .dct _ vs => some vs
  | _ => none
def rZ' : D -> Option (List D)
  | .dct ks vs => some (ds' ks vs)
  | _ => none
@[simp] def rO' (f : D -> Option (List D)) (a : ME) : MI := fun ρ => (a ρ).bind fun x ρ1 => ofO (f x) ρ1
@[simp] def gN (i : Nat) : MG := fun d ρ => if i < ρ.env.length then some ⟨ρ.env.set i (some (.fz d)), ρ.w⟩ else none
@[simp] def gNs : List Nat -> List D -> PSt -> Option PSt
  | [], [], ρ => some ρ
  | i :: is, d :: ds, ρ => (gN i d ρ).bind (gNs is ds)
  | _, _, _ => none
@[simp] def gT (is : List Nat) : MG := fun d ρ => match d with
  | .tup ds => gNs is ds ρ
  | _ => none
@[simp] def noX {α : Type} : Res α -> Res α
  | .exc _ _ => .bad
  | r => r
def aD' : List Nat -> List (Option O) -> List (Option O)
  | [], env => env
  | i :: is, env => (aD' is env).set i none
def back (env : List (Option O)) : List Nat -> List (Option O) -> List (Option O)
  | [], env' => env'
  | i :: is, env' => (back env is env').set i (match env[i]? with | some (some (.fz d)) => some (.fz d) | _ => none)
def lcL (own : List Nat) (g : MG) (t : MT) (e : ME) : List D -> List D -> PSt -> Res (List D)
  | [], acc, ρ => .ok acc ρ
  | x :: xs, acc, ρ => match g x ⟨aD' own ρ.env, ρ.w⟩ with
    | none => .bad
    | some ρ1 => (noX (t ρ1)).bind fun k ρ2 => if k = true then (noX (e ρ2)).bind fun y ρ3 => if acc.length < dq' then lcL own g t e xs (acc ++ [y]) ρ3 else .bad else lcL own g t e xs acc ρ2
@[simp] def eLc (own : List Nat) (it : MI) (g : MG) (t : MT) (e : ME) : ME := fun ρ => (it ρ).bind fun xs ρ1 =>
  (lcL own g t e xs [] ρ1).bind fun ys ρ2 => .ok (.lst ys) ⟨back ρ1.env own (aD' own ρ2.env), ρ2.w⟩
@[simp] def oLc (own : List Nat) (it : MI) (g : MG) (t : MT) (e : ME) : MO := fun ρ => (it ρ).bind fun xs ρ1 =>
  (lcL own g t e xs [] ρ1).bind fun ys ρ2 => .ok (.lst (ys.map .fz)) ⟨back ρ1.env own (aD' own ρ2.env), ρ2.w⟩
def dcL (own : List Nat) (g : MG) (t : MT) (ek ev : ME) : List D -> List D -> List D -> PSt -> Res (List D × List D)
  | [], ks, vs, ρ => .ok (ks, vs) ρ
  | x :: xs, ks, vs, ρ => match g x ⟨aD' own ρ.env, ρ.w⟩ with
    | none => .bad
    | some ρ1 => (noX (t ρ1)).bind fun k ρ2 => if k = true then (noX (ek ρ2)).bind fun y ρ3 => (noX (ev ρ3)).bind fun z ρ4 => (if isK y = true /\ ks.length < dq' then (match nD' ks vs y z with
      | some p => dcL own g t ek ev xs p.1 p.2 ρ4
      | none => .bad) else .bad) else dcL own g t ek ev xs ks vs ρ2
@[simp] def oDc (own : List Nat) (it : MI) (g : MG) (t : MT) (ek ev : ME) : MO := fun ρ => (it ρ).bind fun xs ρ1 =>
  (dcL own g t ek ev xs [] [] ρ1).bind fun p ρ2 => .ok (.dct p.1 (p.2.map .fz)) ⟨back ρ1.env own (aD' own ρ2.env), ρ2.w⟩
@[simp] def tT : MT := fun ρ => .ok true ρ
@[simp] def bq' : MS := fun ρ => .nx ρ
@[simp] def nv' : MS := fun ρ => .bk ρ
@[simp] def hO' (a : ME) : MS := fun ρ => (a ρ).out fun _ ρ1 => .nx ρ1
@[simp] def ch' (a : MO) : MS := fun ρ => (a ρ).out fun o ρ1 => .rt o ρ1.w
@[simp] def aw' (a b : MS) : MS := fun ρ => match a ρ with
  | .nx ρ1 => b ρ1
  | r => r
@[simp] def sIf (t : MT) (a b : MS) : MS := fun ρ => (t ρ).out fun k ρ1 => if k = true then a ρ1 else b ρ1
@[simp] def vG' (i : Nat) (o : O) (ρ : PSt) : Out := if i < ρ.env.length then .nx ⟨ρ.env.set i (some o), ρ.w⟩ else .bad
@[simp] def bh' (i : Nat) (a : MO) : MS := fun ρ => (a ρ).out fun o ρ1 => vG' i o ρ1
@[simp] def xp' (g : MG) (a : ME) : MS := fun ρ => (a ρ).out fun d ρ1 => match g d ρ1 with | some ρ2 => .nx ρ2 | none => .bad
@[simp] def xo' (f : D -> D -> Option D) (i : Nat) (a : ME) : MS := fun ρ => match ρ.env[i]? with
  | some (some (.fz d)) => (a ρ).out fun y ρ1 => match f d y with | some z => vG' i (.fz z) ρ1 | none => .bad
  | _ => .bad
@[simp] def ka' (x : String) : MS := fun ρ => .exc ⟨x, []⟩ ρ
@[simp] def ou' (i : Nat) (a : MO) : MS := fun ρ => match ρ.env[i]? with
  | some (some (.lst _)) => (a ρ).out fun o ρ1 => match ρ1.env[i]? with
    | some (some (.lst os)) => if os.length < dq' then .nx ⟨ρ1.env.set i (some (.lst (os ++ [o]))), ρ1.w⟩ else .bad
    | _ => .bad
  | _ => .bad
@[simp] def CW' (w : W) : D -> Option D
  | .obj n => (match w[n]? with
    | some (.lst os) => some (.int os.length)
    | _ => none)
  | _ => none
@[simp] def sH' (w : W) (x k d : D) : Option W := match x, k with
  | .obj n, .int z => match w[n]? with
    | some (.lst os) => (ixn os.length z).map fun j => w.set n (.lst (os.set j (.fz d)))
    | _ => none
  | _, _ => none
@[simp] def iT' (o k a : ME) : MS := fun ρ => (a ρ).out fun d ρ1 => (o ρ1).out fun x ρ2 => (k ρ2).out fun y ρ3 => match sH' ρ3.w x y d with
  | some w => .nx ⟨ρ3.env, w⟩
  | none => .bad
def n1' (g : MG) (b : MS) : List D -> MS
  | [], ρ => .nx ρ
  | d :: ds, ρ => match g d ρ with
    | none => .bad
    | some ρ1 => match b ρ1 with
      | .nx ρ2 => n1' g b ds ρ2
      | .ct ρ2 => n1' g b ds ρ2
      | .bk ρ2 => .nx ρ2
      | r => r
@[simp] def fg' (it : MI) (g : MG) (b : MS) : MS := fun ρ => (it ρ).out fun ds ρ1 => n1' g b ds ρ1
def d5' (t : MT) (b : MS) : Nat -> MS
  | 0, _ => .bad
  | n + 1, ρ => (t ρ).out fun k ρ1 => if k = true then (match b ρ1 with
      | .nx ρ2 => d5' t b n ρ2
      | .ct ρ2 => d5' t b n ρ2
      | .bk ρ2 => .nx ρ2
      | r => r) else .nx ρ1
def xy' : Nat := 2 ^ 40
@[simp] def ib' (n : Nat) (t : MT) (b : MS) : MS := fun ρ => d5' t b n ρ
abbrev ET := List (String × String × Bool)
def sub : ET -> String -> String -> Option Bool
  | [], _, _ => none
  | (a, b, r) :: t, x, c => if a = x /\ b = c then some r else sub t x c
@[simp] def te' : Out -> Out
  | .exc _ _ => .bad
  | r => r
@[simp] def Ak' : MS := fun _ => .bad
@[simp] def hds (hs : List ((String -> Option Bool) × (Exc -> MS))) (x : Exc) (ρ : PSt) : Out := match hs with
  | [] => .exc x ρ
  | (g, h) :: r => (match g x.cls with
    | some true => te' (h x ρ)
    | some false => hds r x ρ
    | none => .bad)
@[simp] def sl' (i m : Nat) : Out -> Out
  | .nx ρ => if ρ.env.length = i + m + 1 then .nx ⟨ρ.env.set i none, ρ.w⟩ else .bad
  | .bk ρ => if ρ.env.length = i + m + 1 then .bk ⟨ρ.env.set i none, ρ.w⟩ else .bad
  | .ct ρ => if ρ.env.length = i + m + 1 then .ct ⟨ρ.env.set i none, ρ.w⟩ else .bad
  | r => r
@[simp] def ic' (i m : Nat) (b : MS) (g : String -> Option Bool) (h : Exc -> MS) : MS := fun ρ => match b ρ with
  | .exc x ρ1 => (match g x.cls with
    | some true => if ρ1.env.length = i + m + 1 then sl' i m (te' (h x ⟨ρ1.env.set i (some .exn), ρ1.w⟩)) else .bad
    | some false => .exc x ρ1
    | none => .bad)
  | r => r
@[simp] def tA' (i : Nat) (t : ET) (c : String) (x : Exc) : ME := fun ρ => match ρ.env[i]? with
  | some (some .exn) => if x.fs = [] then ofO ((sub t x.cls c).map .bl) ρ else .bad
  | _ => .bad
def q4' (f : String) (o : O) : List (String × O) -> List (String × O)
  | [] => [(f, o)]
  | (g, x) :: r => if g = f then (g, o) :: r else (g, x) :: q4' f o r
@[simp] def hd' (cs : List String) (f : String) (w : W) : D -> Option D
  | .obj n => (match w[n]? with
    | some (.ins C fs) => if C ∈ cs then (match fs.lookup f with | some (.fz d) => some d | _ => none) else none
    | _ => none)
  | _ => none
@[simp] def ey' (cs : List String) (a : ME) (f : String) : ME := fun ρ => (a ρ).bind fun x ρ1 => ofO (hd' cs f ρ1.w x) ρ1
@[simp] def stF (cs : List String) (f : String) (o : O) (w : W) : D -> Option W
  | .obj n => (match w[n]? with
    | some (.ins C fs) => if C ∈ cs /\ fs.length < 1000 then some (w.set n (.ins C (q4' f o fs))) else none
    | _ => none)
  | _ => none
@[simp] def sFld (cs : List String) (a : ME) (f : String) (v : MO) : MS := fun ρ => (v ρ).out fun o ρ1 => (a ρ1).out fun x ρ2 => match stF cs f o ρ2.w x with
  | some w => .nx ⟨ρ2.env, w⟩
  | none => .bad
@[simp] def kn' (C : String) (init : MF) (as : MA) : MO := fun ρ => (as ρ).bind fun ds ρ1 => match init (.obj ρ1.w.length :: ds) (ρ1.w ++ [.ins C []]) with
  | .ok (.fz .non) w => .ok (.fz (.obj ρ1.w.length)) ⟨ρ1.env, w⟩
  | .ok _ _ => .bad
  | .exc x w => .exc x ⟨ρ1.env, w⟩
  | .bad => .bad
def jg' (cs : List String) (m : String) (w : W) : D -> Bool
  | .obj n => (match w[n]? with
    | some (.ins C' fs) => decide (C' ∈ cs) && (fs.lookup m).isNone
    | _ => false)
  | _ => false
@[simp] def fC' (cs : List String) (m : String) (f : MF) (a : ME) (as : MA) : MO := fun ρ => (a ρ).bind fun x ρ1 => if jg' cs m ρ1.w x = true then (as ρ1).bind fun ds ρ2 => fin (f (x :: ds) ρ2.w) ρ2 else .bad
def wB' (ps : List (String × String)) (w : W) : D -> D -> Bool
  | .obj n, .obj m => (match w[n]?, w[m]? with
    | some (.ins C _), some (.ins C' _) => decide ((C, C') ∈ ps)
    | _, _ => false)
  | _, _ => false
@[simp] def wH' (ps : List (String × String)) (f : MF) (a b : ME) : ME := fun ρ => (a ρ).bind fun x ρ1 => (b ρ1).bind fun y ρ2 => if wB' ps ρ2.w x y = true then (match f [x, y] ρ2.w with
    | .ok (.fz (.bl r)) w => .ok (.bl r) ⟨ρ2.env, w⟩
    | _ => .bad) else .bad
def isC (t : ET) (c : String) (w : W) : D -> Option Bool
  | .obj n => (match w[n]? with
    | some (.ins C _) => sub t C c
    | _ => none)
  | d => (tyn d).map fun _ => false
@[simp] def xx' (t : ET) (c : String) (a : ME) : ME := fun ρ => (a ρ).bind fun x ρ1 => ofO ((isC t c ρ1.w x).map .bl) ρ1
def wz' : O -> Bool
  | .fz _ => true
  | _ => false
@[simp] def fnM (k n : Nat) (b : MS) : MF := fun ds w => if ds.length = k then (match b ⟨ds.map (fun d => some (.fz d)) ++ List.replicate (n - k) none, w⟩ with
    | .nx ρ => .ok (.fz .non) ρ.w
    | .rt o w => .ok o w
    | .exc x ρ => .exc x ρ.w
    | _ => .bad) else .bad
def C1' (x y : D) : Option (List D) := match x, y with
  | .str s, .lst ds => some (ds' (s.map chD) ds)
  | _, _ => none
end M
namespace M
def Do' (c : Nat) : D -> Option D
  | .str s => if s.length <= 1000000 then some (.str (s.filter fun d => decide (d ≠ c))) else none
  | _ => none
end M
namespace M
def C0' : D -> D -> Option (List D)
  | .tup a, .tup b => some (ds' a b)
  | _, _ => none
def Dt' : O -> D -> Option O
  | .lst os, .lst ds => if os.length + ds.length <= dq' then some (.lst (os ++ ds.map .fz)) else none
  | _, _ => none
mutual
def okO : O -> Bool
  | .fz d => dat d
  | .lst os => okOs os
  | .tup os => okOs os
  | _ => false
def okOs : List O -> Bool
  | [] => true
  | o :: r => okO o && okOs r
end
def okM : List Bool -> List (Option O) -> Bool
  | [], _ => true
  | _ :: _, [] => false
  | false :: m, _ :: r => okM m r
  | true :: m, some o :: r => okO o && okM m r
  | true :: _, none :: _ => false
def sn' : List Bool -> List (Option O) -> List (Option O)
  | _, [] => []
  | [], _ :: r => none :: sn' [] r
  | false :: m, _ :: r => none :: sn' m r
  | true :: m, x :: r => (x.map fun o => .fz (frz o)) :: sn' m r
def Aj' : D -> Bool
  | .non => true | .bl _ => true | .int _ => true | .str _ => true
  | _ => false
def unO : O -> Option (List O)
  | .tup os => some os
  | .fz (.tup ds) => some (ds.map .fz)
  | _ => none
def xw' : List Nat -> List O -> PSt -> Option PSt
  | [], [], ρ => some ρ
  | i :: is, o :: os, ρ => if i < ρ.env.length then xw' is os ⟨ρ.env.set i (some o), ρ.w⟩ else none
  | _, _, _ => none
end M
namespace M
def yQ' (a b : Tx) : Bool := !decide (b < a)
def x6' (l : List Tx) : List Tx := l.mergeSort yQ'
def s6' : D -> Option D
  | .lst ds => (d3' ds).bind fun xs => if xs.length < 64 then some (.lst ((x6' xs).map .str)) else none
  | _ => none
end M
namespace M
end M
namespace M
end M
namespace M
def Bj' (a b : Nat × Tx) : Bool := decide (a.1 < b.1) || (decide (a.1 = b.1) && yQ' a.2 b.2)
def gV' : List D -> List O -> Option (List (Nat × Tx))
  | [], [] => some []
  | .int i :: ks, .fz (.str s) :: os => if 0 <= i then (gV' ks os).map ((i.toNat, s) :: ·) else none
  | _, _ => none
def uy' : O -> Option D
  | .dct ks os => (gV' ks os).map fun ps => .lst ((ps.mergeSort Bj').map fun p => .tup [.int (p.1 : Nat), .str p.2])
  | _ => none
end M
namespace M
mutual
def CT' (kl kd : Bool) : D -> Bool
  | .tup ds => nodDs kl kd ds
  | .lst ds => !kl && nodDs kl kd ds
  | .scr ds => !kl && nodDs kl kd ds
  | .dct _ vs => !kd && nodDs kl kd vs
  | .dcx ks vs => nodDs kl kd ks && nodDs kl kd vs
  | _ => true
def nodDs (kl kd : Bool) : List D -> Bool
  | [] => true
  | d :: r => CT' kl kd d && nodDs kl kd r
end
mutual
def CS' (kl kd : Bool) : O -> Bool
  | .fz d => CT' kl kd d
  | .lst os => nodOs kl kd os
  | .tup os => nodOs kl kd os
  | .dct _ os => nodOs kl kd os
  | .dcx ks os => nodDs kl kd ks && nodOs kl kd os
  | .exn => true
  | .clo => true
def nodOs (kl kd : Bool) : List O -> Bool
  | [] => true
  | o :: r => CS' kl kd o && nodOs kl kd r
end
def lendO (kl kd : Bool) : O -> Bool
  | .fz _ => true
  | .lst os => kl && os.all wz'
  | .dct _ os => kd && os.all wz'
  | _ => false
def okL (kl kd : Bool) : List Bool -> List (Option O) -> Bool
  | [], _ => true
  | _ :: _, [] => false
  | false :: m, _ :: r => okL kl kd m r
  | true :: m, some o :: r => lendO kl kd o && okL kl kd m r
  | true :: _, none :: _ => false
def Ar' : O -> Nat
  | .fz _ => 0
  | _ => 1
def xf' : List Bool -> List (Option O) -> Nat
  | true :: m, some o :: r => Ar' o + xf' m r
  | false :: m, _ :: r => xf' m r
  | _, _ => 0
def Dn' : D -> D -> Option D
  | .int i, .int j => if 0 <= j /\ j <= 1000 /\ small64 i = true then some (.int (i * 2 ^ j.toNat)) else none
  | _, _ => none
def Dm' : D -> D -> Option D
  | .int i, .int j => if 0 <= j then some (.int (i / 2 ^ j.toNat)) else none
  | _, _ => none
@[simp] def gL (is : List Nat) : MG := fun d ρ => match d with
  | .lst ds => gNs is ds ρ
  | _ => none
def gSq : List MG -> List D -> PSt -> Option PSt
  | [], [], ρ => some ρ
  | g :: gs, d :: ds, ρ => (g d ρ).bind (gSq gs ds)
  | _, _, _ => none
def gTg (gs : List MG) : MG := fun d ρ => match d with
  | .tup ds => gSq gs ds ρ
  | _ => none
end M
namespace M
end M
namespace M
end M
namespace M
end M
namespace M
end M
namespace M
end M
namespace M
end M
namespace M
def ze' : List Bool -> List D -> Option (List (Option O))
  | [], [] => some []
  | true :: m, ds => (ze' m ds).map (some .clo :: ·)
  | false :: m, d :: ds => (ze' m ds).map (some (.fz d) :: ·)
  | _, _ => none
inductive AK where
  | e (a : ME) | c (f : MF) (js : List Nat)
end M
namespace M
def allFz : List O -> Option (List D)
  | [] => some []
  | .fz d :: r => (allFz r).map (d :: ·)
  | _ => none
end M
namespace M
end M
namespace M
end M
namespace S
open PySem PySem.Spec PyProof.Rows L2
def Du' (K : PySem.W.Frag) (ps : List (String × String)) (g : Addr) : Bool := ps.all fun p => decide (PySem.W.findIn K (.ref (He.ga K (Str.ofString p.1))) "__eq__" = some (some (.ref g))) && (PySem.W.isFn K (.ref g) &&
  PySem.W.notFirst K (He.ga K (Str.ofString p.1)) (.ref (He.ga K (Str.ofString p.2))))
def ws' (K : PySem.W.Frag) (t : M.ET) (c : String) : Bool := (t.all fun e => !decide (e.2.1 = c) || ((He.Fa.cls (Str.ofString e.1)).ok K && (decide (PySem.W.findIn K (.ref (He.ga K (Str.ofString e.1))) "__class__" = some (some (.builtin "object.__class__"))) &&
    (decide (PySem.W.specialIn K (.builtin "object.__class__") "__get__" = some (some (.builtin "getset_descriptor.__get__"))) && (decide (PySem.W.takesIn K (.builtin "object.__class__") = some true) && (decide (PySem.W.mroIn K (He.ga K (Str.ofString e.1)) (.type "object") = some true) &&
    decide (PySem.W.kitOne K (.ref (He.ga K (Str.ofString e.1))) (.ref (He.ga K (Str.ofString c))) = some e.2.2))))))) &&
  ["NoneType", "bool", "int", "str", "tuple", "list", "dict"].all fun n => decide (PySem.W.kitOne K (.type n) (.ref (He.ga K (Str.ofString c))) = some false)
def uN' (K : PySem.W.Frag) (t : M.ET) : Bool := t.all fun e => decide (PySem.W.findIn K (.ref (He.ga K (Str.ofString e.1))) "__getattribute__" = some (some (.builtin "BaseException.__getattribute__"))) && (decide (PySem.W.findIn K (.ref (He.ga K (Str.ofString e.1))) "__getattr__" = some none) &&
  (decide (PySem.W.subIn K (.ref (He.ga K (Str.ofString e.1))) (.type "BaseException") = some true) && (PySem.W.hasDictIn K (He.ga K (Str.ofString e.1)) && (decide (PySem.W.findIn K (.ref (He.ga K (Str.ofString e.1))) "__class__" = some (some (.builtin "object.__class__"))) &&
  (decide (PySem.W.specialIn K (.builtin "object.__class__") "__get__" = some (some (.builtin "getset_descriptor.__get__"))) && (decide (PySem.W.takesIn K (.builtin "object.__class__") = some true) && (decide (PySem.W.mroIn K (He.ga K (Str.ofString e.1)) (.type "object") = some true) &&
  decide (PySem.W.kitOne K (.ref (He.ga K (Str.ofString e.1))) (.ref (He.ga K (Str.ofString e.2.1))) = some e.2.2))))))))
def CU' (K : PySem.W.Frag) (ps : List (String × String)) (g : Addr) : Bool := ps.all fun p => decide (PySem.W.findIn K (.ref (He.ga K (Str.ofString p.1))) "__ne__" = some (some (.builtin "object.__ne__"))) &&
  (decide (PySem.W.findIn K (.ref (He.ga K (Str.ofString p.1))) "__eq__" = some (some (.ref g))) && (PySem.W.isFn K (.ref g) && (decide (PySem.W.mroIn K (He.ga K (Str.ofString p.1)) (.type "object") = some true) &&
  PySem.W.notFirst K (He.ga K (Str.ofString p.1)) (.ref (He.ga K (Str.ofString p.2))))))
def CA' : Arguments -> Option (Str × Str)
  | ⟨[], [a, b], none, [], [], none, []⟩ => some (a.arg, b.arg)
  | _ => none
def Cx' : FuncBody -> Option (Str × Str × Str × Str × Str)
  | .stmts [.Expr (.Call (.Attribute (.Call (.Name s _) [] [] _) m p) [.Constant (.str _) _ _] [] q) _, .Assign [.Attribute (.Name a _) f _] (.Name b _) _] => if (p.endLine == q.line) = true then some (s, m, a, f, b) else none
  | _ => none
def bmB (K : PySem.W.Frag) : Bool := match K.lookup (He.ga K "__builtins__") with
  | some ⟨.type m, some d, .plain, _⟩ => decide (m = "module") && (decide (d = builtinsNs) && (decide (He.ga K "__builtins__" ≠ builtinsNs) && decide (He.ga K "__builtins__" ≠ mainGlobals)))
  | _ => false
end S
namespace M
def exT : ET := [("NoWord", "SaidError", true), ("NoLetters", "SaidError", true), ("NoMachine", "SaidError", true)]
def exI : ET := [("NoWord", "NoLetters", false), ("NoLetters", "NoLetters", true), ("NoMachine", "NoLetters", false)]
def isT : ET := [("Machine", "Machine", true), ("RawMachine", "Machine", true)]
def f_is_integer : MF := fnM 1 1 ((ch' (oE (wI' (eUn (cl' "int") (eV 0)) (zf' (eUn (cl' "bool") (eV 0)))))))
def f_is_string_of : MF := fnM 2 3 ((aw' (sIf (gx' (tE (eUn (cl' "str") (eV 0)))) (ch' (oE (eC (.bl false)))) bq')
  (aw' (fg' (do' (eV 0)) (gN 2) (sIf (tE (eOp eQ' (eV 2) (eV 1))) (ch' (oE (eC (.bl false)))) bq'))
  (ch' (oE (eC (.bl true)))))))
def f_is_ascending : MF := fnM 1 3 ((aw' (fg' (y4' (eV 0) (eSl (eV 0) (pSo (eC (.int 1))) pNo)) (gT [1, 2]) (sIf (tE (eOp pGe (eV 1) (eV 2))) (ch' (oE (eC (.bl false)))) bq'))
  (ch' (oE (eC (.bl true))))))
def f_is_choice : MF := fnM 2 2 ((ch' (oE (wI' (eO (aM' f_is_string_of (ad' (eV 0) (ad' (eV 1) ba')))) (eO (aM' f_is_ascending (ad' (eV 0) ba')))))))
def f_is_word : MF := fnM 2 2 ((ch' (aM' f_is_string_of (ad' (eV 1) (ad' (ey' ["Machine", "RawMachine"] (eV 0) "kept_letters") ba')))))
def f_check_word : MF := fnM 2 2 ((sIf (gx' (tE (eO (aM' f_is_word (ad' (eV 0) (ad' (eV 1) ba')))))) (ka' "NoWord") bq'))
def f_check_letters : MF := fnM 2 2 ((sIf (tOr (gx' (tE (eO (aM' f_is_choice (ad' (eV 1) (ad' (ey' ["Machine", "RawMachine"] (eV 0) "kept_letters") ba')))))) (tE (eOp pEq (eUn en' (eV 1)) (eUn en' (ey' ["Machine", "RawMachine"] (eV 0) "kept_letters"))))) (ka' "NoLetters") bq'))
def f_are_states : MF := fnM 2 3 ((aw' (sIf (gx' (tE (eUn (cl' "tuple") (eV 0)))) (ch' (oE (eC (.bl false)))) bq')
  (aw' (fg' (do' (eV 0)) (gN 2) (sIf (tOr (gx' (tE (eO (aM' f_is_integer (ad' (eV 2) ba'))))) (tOr (tE (eOp pLt (eV 2) (eC (.int 0)))) (tE (eOp pGe (eV 2) (eV 1))))) (ch' (oE (eC (.bl false)))) bq'))
  (ch' (oE (eC (.bl true)))))))
def f_is_table : MF := fnM 2 3 ((aw' (sIf (tOr (gx' (tE (eUn (cl' "tuple") (eV 0)))) (gx' (tE (he' pLe pLe (eC (.int 1)) (eUn en' (eV 0)) (eC (.int 6)))))) (ch' (oE (eC (.bl false)))) bq')
  (aw' (fg' (do' (eV 0)) (gN 2) (sIf (tOr (gx' (tE (eO (aM' f_are_states (ad' (eV 2) (ad' (eUn en' (eV 0)) ba')))))) (tE (eOp pNe (eUn en' (eV 2)) (eUn en' (eV 1))))) (ch' (oE (eC (.bl false)))) bq'))
  (ch' (oE (eC (.bl true)))))))
def f_Machine_keep : MF := fnM 4 4 ((aw' (sFld ["Machine", "RawMachine"] (eV 0) "kept_letters" (oE (eV 1)))
  (aw' (sFld ["Machine", "RawMachine"] (eV 0) "kept_table" (oE (eV 2)))
  (aw' (sFld ["Machine", "RawMachine"] (eV 0) "kept_accepts" (oE (eV 3)))
  (aw' (sFld ["Machine", "RawMachine"] (eV 0) "kept_least" (oE (eC .non)))
  (aw' (sFld ["Machine", "RawMachine"] (eV 0) "kept_field" (oE (eC .non)))
  (aw' (sFld ["Machine", "RawMachine"] (eV 0) "kept_lots" go')
  (sFld ["Machine", "RawMachine"] (eV 0) "kept_more" go'))))))))
def f_Machine___init__ : MF := fnM 4 4 ((aw' (sIf (tOr (gx' (tE (eO (aM' f_is_choice (ad' (eV 1) (ad' (eC (.str [97, 98, 99, 100, 101, 102, 103, 104, 105, 106, 107, 108, 109, 110, 111, 112, 113, 114, 115, 116, 117, 118, 119, 120, 121, 122])) ba')))))) (gx' (tE (he' pLe pLe (eC (.int 1)) (eUn en' (eV 1)) (eC (.int 4)))))) Ak' bq')
  (aw' (sIf (gx' (tE (eO (aM' f_is_table (ad' (eV 2) (ad' (eV 1) ba')))))) Ak' bq')
  (aw' (sIf (tOr (gx' (tE (eO (aM' f_are_states (ad' (eV 3) (ad' (eUn en' (eV 2)) ba')))))) (gx' (tE (eO (aM' f_is_ascending (ad' (eV 3) ba')))))) Ak' bq')
  (hO' (eO (fC' ["Machine", "RawMachine"] "keep" f_Machine_keep (eV 0) (ad' (eV 1) (ad' (eV 2) (ad' (eV 3) ba'))))))))))
def f_Machine_letters : MF := fnM 1 1 ((ch' (oE (ey' ["Machine", "RawMachine"] (eV 0) "kept_letters"))))
def f_Machine_table : MF := fnM 1 1 ((ch' (oE (ey' ["Machine", "RawMachine"] (eV 0) "kept_table"))))
def f_Machine_accepts : MF := fnM 1 1 ((ch' (oE (ey' ["Machine", "RawMachine"] (eV 0) "kept_accepts"))))
def f_Machine_parts : MF := fnM 1 1 ((ch' (oE (o6' (ad' (ey' ["Machine", "RawMachine"] (eV 0) "kept_letters") (ad' (ey' ["Machine", "RawMachine"] (eV 0) "kept_table") (ad' (ey' ["Machine", "RawMachine"] (eV 0) "kept_accepts") ba')))))))
def f_Machine___eq__ : MF := fnM 2 2 ((ch' (oE (wI' (xx' isT "Machine" (eV 1)) (eOp pEq (eO (fC' ["Machine", "RawMachine"] "parts" f_Machine_parts (eV 0) ba')) (eO (fC' ["Machine", "RawMachine"] "parts" f_Machine_parts (eV 1) ba')))))))
def f_RawMachine___init__ : MF := fnM 4 4 ((hO' (eO (fC' ["Machine", "RawMachine"] "keep" f_Machine_keep (eV 0) (ad' (eV 1) (ad' (eV 2) (ad' (eV 3) ba')))))))
def f_led : MF := fnM 3 4 ((aw' (fg' (do' (eV 2)) (gN 3) (bh' 1 (oE (eOp pIx (eOp pIx (ey' ["Machine", "RawMachine"] (eV 0) "kept_table") (eV 1)) (eMt in' (ey' ["Machine", "RawMachine"] (eV 0) "kept_letters") (ad' (eV 3) ba'))))))
  (ch' (oV 1))))
def f_says : MF := fnM 2 2 ((aw' (hO' (eO (aM' f_check_word (ad' (eV 0) (ad' (eV 1) ba')))))
  (ch' (oE (eOp pIn (eO (aM' f_led (ad' (eV 0) (ad' (eC (.int 0)) (ad' (eV 1) ba'))))) (ey' ["Machine", "RawMachine"] (eV 0) "kept_accepts"))))))
def f_reached : MF := fnM 1 5 ((aw' (bh' 1 (lj' (lk' (ad' (eC (.int 0)) ba'))))
  (aw' (bh' 2 (ko' false (eC (.int 0)) (eC (.bl true))))
  (aw' (bh' 3 (oE (eC (.int 0))))
  (aw' (ib' xy' (tE (eOp pLt (eV 3) (ex' 1))) (aw' (fg' (do' (eOp pIx (ey' ["Machine", "RawMachine"] (eV 0) "kept_table") (wG' 1 (eV 3)))) (gN 4) (sIf (tE (tB' true 2 (eV 4))) (aw' (o3' 2 (eV 4) (eC (.bl true)))
  (ou' 1 (oE (eV 4)))) bq'))
  (xo' s7' 3 (eC (.int 1)))))
  (ch' (oV 1)))))))
def f_numbered : MF := fnM 1 5 ((aw' (bh' 1 rg')
  (aw' (bh' 2 go')
  (aw' (fg' (rO' rZ' (eV 0)) (gT [3, 4]) (aw' (sIf (tE (tB' true 1 (eV 4))) (o3' 1 (eV 4) (ex' 1)) bq')
  (o3' 2 (eV 3) (jB' 1 (eV 4)))))
  (ch' (oV 2))))))
def f_alike_states : MF := fnM 2 7 ((aw' (bh' 2 (aM' f_numbered (ad' (eO (oDc [5] (do' (eV 1)) (gN 5) tT (eV 5) (eOp pIn (eV 5) (ey' ["Machine", "RawMachine"] (eV 0) "kept_accepts")))) ba')))
  (aw' (bh' 3 (oE (eC (.int 0))))
  (aw' (ib' xy' (tE (eOp pGe (eUn oA' (eV 2)) (eV 3))) (aw' (bh' 3 (oE (eOp cV' (eUn oA' (eV 2)) (eC (.int 1)))))
  (aw' (bh' 4 go')
  (aw' (fg' (do' (eV 1)) (gN 5) (o3' 4 (eV 5) (o6' (ad' (jB' 2 (eV 5)) (ad' (eUn bR' (eLc [6] (do' (eOp pIx (ey' ["Machine", "RawMachine"] (eV 0) "kept_table") (eV 5))) (gN 6) tT (jB' 2 (eV 6)))) ba')))))
  (bh' 2 (aM' f_numbered (ad' (eV 4) ba')))))))
  (ch' (oV 2))))))
def f_least : MF := fnM 1 9 ((aw' (sIf (tE (eOp pIs (ey' ["Machine", "RawMachine"] (eV 0) "kept_least") (eC .non))) (aw' (bh' 1 (aM' f_reached (ad' (eV 0) ba')))
  (aw' (bh' 2 (aM' f_alike_states (ad' (eV 0) (ad' (eV 1) ba'))))
  (aw' (bh' 3 go')
  (aw' (fg' (do' (eV 1)) (gN 4) (hO' (ir' 3 (jB' 2 (eV 4)) (eV 4))))
  (aw' (bh' 5 (lj' (lk' ba')))
  (aw' (fg' (do' (eUn dW' (eV 3))) (gN 6) (ou' 5 (oE (eUn bR' (eLc [8] (do' (eOp pIx (ey' ["Machine", "RawMachine"] (eV 0) "kept_table") (jB' 3 (eV 6)))) (gN 8) tT (jB' 2 (eV 8)))))))
  (aw' (bh' 7 (oE (eUn bR' (eLc [6] (do' (eUn dW' (eV 3))) (gN 6) (tE (eOp pIn (jB' 3 (eV 6)) (ey' ["Machine", "RawMachine"] (eV 0) "kept_accepts"))) (eV 6)))))
  (aw' (sFld ["Machine", "RawMachine"] (eV 0) "kept_least" (kn' "RawMachine" f_RawMachine___init__ (ad' (ey' ["Machine", "RawMachine"] (eV 0) "kept_letters") (ad' (eUn bR' (eV 5)) (ad' (eV 7) ba')))))
  (sFld ["Machine", "RawMachine"] (ey' ["Machine", "RawMachine"] (eV 0) "kept_least") "kept_least" (oE (ey' ["Machine", "RawMachine"] (eV 0) "kept_least"))))))))))) bq')
  (ch' (oE (ey' ["Machine", "RawMachine"] (eV 0) "kept_least")))))
def f_silenced : MF := fnM 2 8 ((aw' (bh' 2 (oE (eMt jb' (eC (.str [])) (ad' (eLc [5] (do' (ey' ["Machine", "RawMachine"] (eV 0) "kept_letters")) (gN 5) (tE (eOp eQ' (eV 5) (eV 1))) (eV 5)) ba'))))
  (aw' (bh' 3 (oLc [5] (do' (eV 2)) (gN 5) tT (eMt in' (ey' ["Machine", "RawMachine"] (eV 0) "kept_letters") (ad' (eV 5) ba'))))
  (aw' (bh' 4 (oE (eUn bR' (eLc [6] (do' (ey' ["Machine", "RawMachine"] (eV 0) "kept_table")) (gN 6) tT (eUn bR' (eLc [7] (do' (eV 3)) (gN 7) tT (eOp pIx (eV 6) (eV 7))))))))
  (ch' (aM' f_least (ad' (eO (kn' "RawMachine" f_RawMachine___init__ (ad' (eV 2) (ad' (eV 4) (ad' (ey' ["Machine", "RawMachine"] (eV 0) "kept_accepts") ba'))))) ba')))))))
def f_without : MF := fnM 2 2 ((aw' (hO' (eO (aM' f_check_letters (ad' (eV 0) (ad' (eV 1) ba')))))
  (ch' (aM' f_silenced (ad' (eV 0) (ad' (eV 1) ba'))))))
def f__law_hand : MF := fnM 1 3 ((aw' (bh' 1 (oLc [2] (do' (eSl (eV 0) pNo (pSo (eC (.int 63))))) (gN 2) tT (eUn Aq' (eUn ik' (eV 2)))))
  (ch' (yH' (ad' (eV 1) (ad' (eC (.int 0)) (ad' (eC (.int 0)) (ad' (eOp cV' (eC (.int 1)) (eUn en' (eV 1))) (ad' (eC (.int 0)) ba')))))))))
def f__law_draw : MF := fnM 2 5 ((aw' (sIf (us' (tE (eOp pEq (jA' (eV 0) (eC (.int 2))) (eC (.int 0)))) (tE (eOp pLt (jA' (eV 0) (eC (.int 1))) (eUn en' (jA' (eV 0) (eC (.int 0))))))) (aw' (bh' 2 (oE (eOp pIx (jA' (eV 0) (eC (.int 0))) (jA' (eV 0) (eC (.int 1))))))
  (aw' (iT' (eV 0) (eC (.int 1)) (eOp cV' (jA' (eV 0) (eC (.int 1))) (eC (.int 1))))
  (aw' (iT' (eV 0) (eC (.int 3)) (eOp kf' (eUn ik' (eOp cV' (eOp cV' (eOp iY' (jA' (eV 0) (eC (.int 3))) (eC (.int 69621))) (eV 2)) (eC (.int 11)))) (eC (.int 2147483629))))
  (sIf (tE (eOp pGe (eV 2) (eOp yB' (eC (.int 10)) (eC (.int 18))))) (iT' (eV 0) (eC (.int 2)) (eV 2)) bq')))) bq')
  (aw' (sIf (tE (eOp pGt (jA' (eV 0) (eC (.int 2))) (eC (.int 0)))) (aw' (bh' 3 (oE (eOp kf' (eUn ik' (jA' (eV 0) (eC (.int 2)))) (eV 1))))
  (aw' (iT' (eV 0) (eC (.int 2)) (eOp iZ' (jA' (eV 0) (eC (.int 2))) (eV 1)))
  (ch' (oV 3)))) bq')
  (aw' (iT' (eV 0) (eC (.int 4)) (eOp cV' (jA' (eV 0) (eC (.int 4))) (eC (.int 1))))
  (aw' (bh' 4 (oE (eOp kf' (eUn ik' (eOp iY' (eUn ik' (eOp cV' (jA' (eV 0) (eC (.int 3))) (eOp iY' (eC (.int 7919)) (jA' (eV 0) (eC (.int 4)))))) (eC (.int 48271)))) (eC (.int 2147483647)))))
  (aw' (bh' 4 (oE (eOp kf' (eUn ik' (eOp iY' (eV 4) (eOp cV' (eOp iZ' (eV 4) (eC (.int 1009))) (eC (.int 69621))))) (eC (.int 2147483647)))))
  (aw' (bh' 4 (oE (eOp kf' (eUn ik' (eOp iY' (eV 4) (eOp cV' (eOp iZ' (eV 4) (eC (.int 2003))) (eC (.int 40692))))) (eC (.int 2147483399)))))
  (ch' (oE (eOp kf' (eUn ik' (eOp iZ' (eV 4) (eC (.int 16)))) (eV 1)))))))))))
def f__law_shuffled : MF := fnM 2 5 ((aw' (bh' 2 (lj' (eUn d9' (eV 1))))
  (aw' (bh' 3 (lj' (lk' ba')))
  (aw' (fg' (bY' (eUn en' (eV 1))) (gN 4) (ou' 3 (oE (kI' 2 (eO (aM' f__law_draw (ad' (eV 0) (ad' (ex' 2) ba'))))))))
  (ch' (oV 3))))))
def f__law_rows : MF := fnM 4 11 ((aw' (bh' 4 (lj' (lk' ba')))
  (aw' (bh' 5 (oLc [9] (bY' (eV 3)) (gN 9) tT (eO (aM' f__law_draw (ad' (eV 0) (ad' (eV 2) ba'))))))
  (aw' (bh' 6 (oLc [9] (bY' (eV 3)) (gN 9) tT (eO (aM' f__law_shuffled (ad' (eV 0) (ad' (eO (lj' (eUn eR' (eV 2)))) ba'))))))
  (aw' (fg' (bY' (eV 2)) (gN 7) (aw' (bh' 8 (lj' (lk' ba')))
  (aw' (fg' (bY' (eV 3)) (gN 9) (aw' (bh' 10 (aM' f__law_draw (ad' (eV 0) (ad' (eV 2) ba'))))
  (aw' (sIf (tE (eOp pEq (eV 1) (eC (.int 3)))) (bh' 10 (oE (eOp kf' (eUn ik' (eOp cV' (eV 7) (eOp pIx (eV 5) (eV 9)))) (eV 2)))) bq')
  (aw' (sIf (tE (eOp pEq (eV 1) (eC (.int 4)))) (bh' 10 (oE (eOp oz' (eOp uG' (eV 2) (eC (.int 1))) (eOp cV' (eV 7) (eOp pIx (eV 5) (eV 9)))))) bq')
  (aw' (sIf (tE (eOp pEq (eV 1) (eC (.int 5)))) (aw' (bh' 10 (oE (eV 7)))
  (sIf (tE (eOp pEq (eV 7) (eC (.int 0)))) (bh' 10 (oE (eOp kf' (eUn ik' (eOp cV' (eC (.int 1)) (eV 9))) (eV 2)))) bq')) bq')
  (aw' (sIf (tE (eOp pEq (eV 1) (eC (.int 6)))) (bh' 10 (oE (eOp kf' (eUn ik' (eOp cV' (eC (.int 1)) (eV 9))) (eV 2)))) bq')
  (aw' (sIf (tE (eOp pEq (eV 1) (eC (.int 7)))) (bh' 10 (oE (eOp oz' (eOp uG' (eV 2) (eC (.int 1))) (eOp cV' (eV 7) (eUn ik' (eOp pEq (eOp kf' (eV 7) (eV 3)) (eV 9))))))) bq')
  (aw' (sIf (tE (eOp pEq (eV 1) (eC (.int 8)))) (aw' (bh' 10 (oE (eOp uG' (eV 2) (eC (.int 1)))))
  (sIf (us' (tE (eOp pLt (eV 7) (eOp uG' (eV 2) (eC (.int 1))))) (tE (eOp pEq (eOp kf' (eV 7) (eV 3)) (eV 9)))) (bh' 10 (oE (eOp kf' (eUn ik' (eOp cV' (eV 7) (eC (.int 1)))) (eOp uG' (eV 2) (eC (.int 1)))))) bq')) bq')
  (aw' (sIf (tE (eOp pEq (eV 1) (eC (.int 9)))) (bh' 10 (oE (eOp pIx (eOp pIx (eV 6) (eV 9)) (eV 7)))) bq')
  (ou' 8 (oE (eV 10))))))))))))
  (ou' 4 (oE (eUn bR' (eV 8)))))))
  (ch' (oE (eUn bR' (eV 4)))))))))
def f__law_woven : MF := fnM 2 10 ((aw' (bh' 2 (aM' f__law_rows (ad' (eV 0) (ad' (eOp cV' (eC (.int 3)) (eO (aM' f__law_draw (ad' (eV 0) (ad' (eC (.int 7)) ba'))))) (ad' (eC (.int 2)) (ad' (eV 1) ba'))))))
  (aw' (bh' 3 (oE (eOp cV' (eC (.int 2)) (eO (aM' f__law_draw (ad' (eV 0) (ad' (eC (.int 2)) ba')))))))
  (aw' (bh' 4 (aM' f__law_rows (ad' (eV 0) (ad' (eOp cV' (eC (.int 3)) (eO (aM' f__law_draw (ad' (eV 0) (ad' (eC (.int 7)) ba'))))) (ad' (eV 3) (ad' (eV 1) ba'))))))
  (aw' (bh' 5 (lj' (lk' ba')))
  (aw' (fg' (bY' (eOp iY' (eC (.int 2)) (eV 3))) (gN 6) (aw' (bh' 7 (oE (eOp pIx (eV 2) (eOp iZ' (eV 6) (eV 3)))))
  (aw' (bh' 8 (oE (eOp pIx (eV 4) (eOp kf' (eUn ik' (eV 6)) (eV 3)))))
  (ou' 5 (oE (eUn bR' (eLc [9] (bY' (eV 1)) (gN 9) tT (eOp cV' (eOp iY' (eOp pIx (eV 7) (eV 9)) (eV 3)) (eOp pIx (eV 8) (eV 9))))))))))
  (ch' (oE (eUn bR' (eV 5))))))))))
def f__law_parts : MF := fnM 3 11 ((aw' (bh' 3 (aM' f__law_draw (ad' (eV 0) (ad' (eC (.int 13)) ba'))))
  (aw' (bh' 4 (oE (eOp cV' (eC (.int 1)) (eO (aM' f__law_draw (ad' (eV 0) (ad' (eV 1) ba')))))))
  (aw' (bh' 5 (oE (eOp cV' (eC (.int 1)) (eO (aM' f__law_draw (ad' (eV 0) (ad' (eV 2) ba')))))))
  (aw' (sIf (tE (eOp pGt (eV 3) (eC (.int 4)))) (aw' (bh' 5 (oE (eOp rb' (eC (.int 2)) (eV 5))))
  (bh' 4 (oE (eOp rb' (eOp oz' (eC (.int 2)) (eV 1)) (eV 4))))) bq')
  (aw' (bh' 6 (aM' f__law_shuffled (ad' (eV 0) (ad' (eUn d9' (eC (.str [97, 98, 99, 100, 101, 102, 103, 104, 105, 106, 107, 108, 109, 110, 111, 112, 113, 114, 115, 116, 117, 118, 119, 120, 121, 122]))) ba'))))
  (aw' (bh' 7 (oE (eMt jb' (eC (.str [])) (ad' (eUn da' (eSl (eV 6) pNo (pSo (eV 4)))) ba'))))
  (aw' (sIf (tE (eOp pGt (eV 3) (eC (.int 9)))) (bh' 8 (aM' f__law_woven (ad' (eV 0) (ad' (eV 4) ba')))) (bh' 8 (aM' f__law_rows (ad' (eV 0) (ad' (eV 3) (ad' (eV 5) (ad' (eV 4) ba')))))))
  (aw' (bh' 9 (oE (eUn bR' (eLc [10] (bY' (eUn en' (eV 8))) (gN 10) (tE (eOp pEq (eO (aM' f__law_draw (ad' (eV 0) (ad' (eC (.int 2)) ba')))) (eC (.int 1)))) (eV 10)))))
  (ch' (oE (o6' (ad' (eV 7) (ad' (eV 8) (ad' (eV 9) ba')))))))))))))))
def f__law_classes : MF := fnM 3 11 ((aw' (bh' 3 go')
  (aw' (fg' (do' (eV 2)) (gN 4) (o3' 3 (eV 4) (eUn ik' (eOp pIn (eV 4) (eV 1)))))
  (aw' (bh' 5 (oE (eC (.int 0))))
  (aw' (fg' (bY' (eUn en' (eV 2))) (gN 6) (aw' (bh' 7 rg')
  (aw' (bh' 8 go')
  (aw' (fg' (do' (eV 2)) (gN 4) (aw' (bh' 9 (oE (o6' (ad' (jB' 3 (eV 4)) (ad' (eUn bR' (eLc [10] (do' (eOp pIx (eV 0) (eV 4))) (gN 10) tT (jB' 3 (eV 10)))) ba')))))
  (aw' (sIf (tE (tB' true 7 (eV 9))) (o3' 7 (eV 9) (ex' 7)) bq')
  (o3' 8 (eV 4) (jB' 7 (eV 9))))))
  (aw' (bh' 3 (oE (eV 8)))
  (aw' (sIf (tE (eOp pEq (ex' 7) (eV 5))) nv' bq')
  (bh' 5 (oE (ex' 7)))))))))
  (ch' (oV 3)))))))
def f__law_least : MF := fnM 2 11 ((aw' (bh' 2 (lj' (lk' (ad' (eC (.int 0)) ba'))))
  (aw' (bh' 3 (oE (eC (.int 0))))
  (aw' (ib' xy' (tE (eOp pLt (eV 3) (ex' 2))) (aw' (fg' (do' (eOp pIx (eV 0) (wG' 2 (eV 3)))) (gN 4) (sIf (tE (fJ' 2 (eV 4))) (ou' 2 (oE (eV 4))) bq'))
  (bh' 3 (oE (eOp cV' (eV 3) (eC (.int 1)))))))
  (aw' (bh' 5 (aM' f__law_classes (ad' (eV 0) (ad' (eV 1) (ad' (eV 2) ba')))))
  (aw' (bh' 6 go')
  (aw' (bh' 7 (lj' (lk' ba')))
  (aw' (fg' (do' (eV 2)) (gN 8) (sIf (tE (tB' true 6 (jB' 5 (eV 8)))) (aw' (o3' 6 (jB' 5 (eV 8)) (ex' 7))
  (ou' 7 (oE (eV 8)))) bq'))
  (aw' (bh' 9 (oE (eUn bR' (eLc [8] (do' (eV 7)) (gN 8) tT (eUn bR' (eLc [4] (do' (eOp pIx (eV 0) (eV 8))) (gN 4) tT (jB' 6 (jB' 5 (eV 4)))))))))
  (ch' (oE (o6' (ad' (eV 9) (ad' (eUn bR' (eLc [10] (bY' (ex' 7)) (gN 10) (tE (eOp pIn (wG' 7 (eV 10)) (eV 1))) (eV 10))) ba'))))))))))))))
def f__law_word : MF := fnM 3 5 ((aw' (bh' 3 (oE (eC (.str []))))
  (aw' (fg' (bY' (eV 2)) (gN 4) (bh' 3 (oE (eOp cV' (eV 3) (eOp pIx (eV 1) (eO (aM' f__law_draw (ad' (eV 0) (ad' (eUn en' (eV 1)) ba')))))))))
  (ch' (oV 3)))))
def f__law_is_machine : MF := fnM 4 4 ((aw' (sIf (gx' (tE (xx' isT "Machine" (eV 0)))) (ch' (oE (eC (.bl false)))) bq')
  (ch' (oE (eOp Ap' (eUn v1' (o6' (ad' (eO (fC' ["Machine", "RawMachine"] "letters" f_Machine_letters (eV 0) ba')) (ad' (eO (fC' ["Machine", "RawMachine"] "table" f_Machine_table (eV 0) ba')) (ad' (eO (fC' ["Machine", "RawMachine"] "accepts" f_Machine_accepts (eV 0) ba')) ba'))))) (eUn v1' (o6' (ad' (eV 1) (ad' (eV 2) (ad' (eV 3) ba'))))))))))
def f__law_choices : MF := fnM 1 4 ((aw' (bh' 1 (oE (lk' (ad' (eC (.str [])) ba'))))
  (aw' (fg' (do' (eV 0)) (gN 2) (bh' 1 (oE (eOp cV' (eV 1) (eLc [3] (do' (eV 1)) (gN 3) tT (eOp cV' (eV 3) (eV 2)))))))
  (ch' (oE (eSl (eV 1) pNo (pSo (eUn An' (eC (.int 1))))))))))
def f__law_odd : MF := fnM 2 7 ((aw' (bh' 2 (oLc [3] (do' (eC (.str [97, 98, 99, 100, 101, 102, 103, 104, 105, 106, 107, 108, 109, 110, 111, 112, 113, 114, 115, 116, 117, 118, 119, 120, 121, 122]))) (gN 3) (tE (eOp eQ' (eV 3) (eV 1))) (eV 3)))
  (aw' (bh' 3 (oE (eOp pIx (eV 2) (eO (aM' f__law_draw (ad' (eV 0) (ad' (eUn en' (eV 2)) ba')))))))
  (aw' (bh' 4 (aM' f__law_draw (ad' (eV 0) (ad' (eUn en' (eV 1)) ba'))))
  (aw' (bh' 5 (oE (lk' (ad' (eC .non) (ad' (eC (.bl false)) (ad' (eC (.int 0)) (ad' (lk' ba') (ad' (o6' ba') (ad' (eO go') (ad' (eV 1) (ad' (eOp iY' (eV 1) (eC (.int 2))) (ad' (eOp iY' (eSl (eV 1) pNo (pSo (eC (.int 1)))) (eC (.int 2))) (ad' (eOp cV' (eUn xs' (eV 1)) (eV 1)) (ad' (eC (.str [65])) (ad' (eC (.str [32])) ba')))))))))))))))
  (aw' (bh' 6 (aM' f__law_draw (ad' (eV 0) (ad' (eC (.int 3)) ba'))))
  (aw' (sIf (tE (eOp pEq (eV 6) (eC (.int 0)))) (ch' (oE (eOp cV' (eOp cV' (eSl (eV 1) pNo (pSo (eV 4))) (eV 3)) (eSl (eV 1) (pSo (eOp cV' (eV 4) (eC (.int 1)))) pNo)))) bq')
  (aw' (sIf (us' (tE (eOp pEq (eV 6) (eC (.int 1)))) (tE (eOp pGt (eUn en' (eV 1)) (eC (.int 1))))) (ch' (oE (eOp cV' (eOp pIx (eV 1) (eC (.int 1))) (eOp pIx (eV 1) (eC (.int 0)))))) bq')
  (ch' (oE (eOp pIx (eV 5) (eO (aM' f__law_draw (ad' (eV 0) (ad' (eC (.int 12)) ba')))))))))))))))
def f__law_is_refused : MF := fnM 2 4 ((aw' (bh' 2 (oE (eC (.bl false))))
  (aw' (ic' 3 0 (hO' (eO (aM' f_without (ad' (eV 0) (ad' (eV 1) ba'))))) (fun y_ => sub exT y_ "SaidError") (fun x_ => (bh' 2 (oE (tA' 3 exI "NoLetters" x_)))))
  (ch' (oV 2)))))
def f_law : MF := fnM 1 19 ((aw' (bh' 1 (aM' f__law_hand (ad' (eV 0) ba')))
  (aw' (xp' (gT [2, 3, 4]) (eO (aM' f__law_parts (ad' (eV 1) (ad' (eC (.int 4)) (ad' (eC (.int 6)) ba'))))))
  (aw' (bh' 5 (kn' "Machine" f_Machine___init__ (ad' (eV 2) (ad' (eV 3) (ad' (eV 4) ba')))))
  (aw' (fg' (do' (eO (aM' f__law_choices (ad' (eV 2) ba')))) (gN 6) (aw' (bh' 7 (oE (eMt jb' (eC (.str [])) (ad' (eLc [14] (do' (eV 2)) (gN 14) (tE (eOp eQ' (eV 14) (eV 6))) (eV 14)) ba'))))
  (aw' (bh' 8 (oLc [14] (do' (eV 7)) (gN 14) tT (eMt rr' (eV 2) (ad' (eV 14) ba'))))
  (aw' (xp' (gT [9, 10]) (eO (aM' f__law_least (ad' (eLc [17] (do' (eV 3)) (gN 17) tT (eLc [18] (do' (eV 8)) (gN 18) tT (eOp pIx (eV 17) (eV 18)))) (ad' (eV 4) ba')))))
  (aw' (bh' 11 (aM' f_without (ad' (eV 5) (ad' (eV 6) ba'))))
  (aw' (sIf (gx' (tE (eO (aM' f__law_is_machine (ad' (eV 11) (ad' (eV 7) (ad' (eV 9) (ad' (eV 10) ba')))))))) (ch' (oE (eC (.bl false)))) bq')
  (aw' (bh' 12 (aM' f__law_word (ad' (eV 1) (ad' (eV 7) (ad' (eO (aM' f__law_draw (ad' (eV 1) (ad' (eC (.int 13)) ba')))) ba')))))
  (aw' (sIf (tE (eOp pNe (eO (aM' f_says (ad' (eV 11) (ad' (eV 12) ba')))) (eO (aM' f_says (ad' (eV 5) (ad' (eV 12) ba')))))) (ch' (oE (eC (.bl false)))) bq')
  (aw' (bh' 13 (oE (eV 5)))
  (aw' (fg' (do' (eO (aM' f__law_shuffled (ad' (eV 1) (ad' (eUn d9' (eV 6)) ba'))))) (gN 14) (bh' 13 (aM' f_without (ad' (eV 13) (ad' (eV 14) ba')))))
  (aw' (sIf (us' (tE (eOp pNe (eV 6) (eC (.str [])))) (gx' (tE (wH' [("Machine", "Machine"), ("RawMachine", "Machine"), ("RawMachine", "RawMachine")] f_Machine___eq__ (eV 13) (eV 11))))) (ch' (oE (eC (.bl false)))) bq')
  (aw' (bh' 15 (aM' f__law_odd (ad' (eV 1) (ad' (eV 2) ba'))))
  (aw' (bh' 16 (oE (eUn v1' (eV 15))))
  (sIf (tOr (gx' (tE (eO (aM' f__law_is_refused (ad' (eV 5) (ad' (eV 15) ba')))))) (tOr (tE (eOp Ao' (eUn v1' (eV 15)) (eV 16))) (gx' (tE (wH' [("Machine", "Machine"), ("RawMachine", "Machine"), ("RawMachine", "RawMachine")] f_Machine___eq__ (eO (aM' f_without (ad' (eV 5) (ad' (eV 6) ba')))) (eV 11)))))) (ch' (oE (eC (.bl false)))) bq'))))))))))))))
  (ch' (aM' f__law_is_machine (ad' (eV 5) (ad' (eV 2) (ad' (eV 3) (ad' (eV 4) ba')))))))))))
end M
namespace S
open PySem PySem.Spec PyProof.Rows L2
def top (i : Nat) : Stmt := PySem.Challenge.pw_saidacross_k81_letters_left_out.main.body.getD i (.Pass ⟨0, 0, 0, 0⟩)
abbrev bc' : Stmt := top 7
abbrev lf' : List Str := ["thing"]
theorem iR' : FnScope lf' ["thing"] (defScope bc') := (by walk_at "3")
def e5' : He.DefD := ⟨("is_integer", none), "is_integer", "is_integer", defArgs bc', defBody bc', defScope bc', [], []⟩
abbrev aQ' : Stmt := top 8
abbrev hX' : List Str := ["thing", "signs", "sign"]
theorem du' : FnScope hX' ["thing", "signs"] (defScope aQ') := (by walk_at "3")
def dI' : He.DefD := ⟨("is_string_of", none), "is_string_of", "is_string_of", defArgs aQ', defBody aQ', defScope aQ', [], []⟩
abbrev aR' : Stmt := top 9
abbrev hY' : List Str := ["thing", "one", "other"]
theorem cC' : FnScope hY' ["thing"] (defScope aR') := (by walk_at "3")
def dJ' : He.DefD := ⟨("is_ascending", none), "is_ascending", "is_ascending", defArgs aR', defBody aR', defScope aR', [], []⟩
abbrev bn' : Stmt := top 10
abbrev mf' : List Str := ["thing", "signs"]
theorem j8' : FnScope mf' ["thing", "signs"] (defScope bn') := (by walk_at "3")
def gb' : He.DefD := ⟨("is_choice", none), "is_choice", "is_choice", defArgs bn', defBody bn', defScope bn', [], []⟩
abbrev bQ' : Stmt := top 11
abbrev sh' : List Str := ["machine", "thing"]
theorem ot' : FnScope sh' ["machine", "thing"] (defScope bQ') := (by walk_at "3")
def iv' : He.DefD := ⟨("is_word", none), "is_word", "is_word", defArgs bQ', defBody bQ', defScope bQ', [], []⟩
abbrev bd' : Stmt := top 12
abbrev lg' : List Str := ["machine", "thing"]
theorem iS' : FnScope lg' ["machine", "thing"] (defScope bd') := (by walk_at "3")
def e6' : He.DefD := ⟨("check_word", none), "check_word", "check_word", defArgs bd', defBody bd', defScope bd', [], []⟩
abbrev aG' : Stmt := top 13
abbrev hG' : List Str := ["machine", "thing"]
theorem gj' : FnScope hG' ["machine", "thing"] (defScope aG') := (by walk_at "3")
def di' : He.DefD := ⟨("check_letters", none), "check_letters", "check_letters", defArgs aG', defBody aG', defScope aG', [], []⟩
abbrev be' : Stmt := top 15
abbrev lh' : List Str := ["thing", "many", "state"]
theorem eK' : FnScope lh' ["thing", "many"] (defScope be') := (by walk_at "3")
def e7' : He.DefD := ⟨("are_states", none), "are_states", "are_states", defArgs be', defBody be', defScope be', [], []⟩
abbrev bF' : Stmt := top 16
abbrev o1' : List Str := ["thing", "letters", "row"]
theorem gQ' : FnScope o1' ["thing", "letters"] (defScope bF') := (by walk_at "3")
def hq' : He.DefD := ⟨("is_table", none), "is_table", "is_table", defArgs bF', defBody bF', defScope bF', [], []⟩
abbrev aq' : Stmt := inClass (top 17) 0
abbrev ff' : List Str := ["self", "letters", "table", "accepts"]
theorem el' : FnScope ff' ["self", "letters", "table", "accepts"] (defScope aq') := (by walk_at "3")
def cE' : He.DefD := ⟨("Machine", some "__init__"), "__init__", "Machine.__init__", defArgs aq', defBody aq', defScope aq', [], []⟩
abbrev aS' : Stmt := inClass (top 17) 1
abbrev hZ' : List Str := ["self", "letters", "table", "accepts"]
theorem gR' : FnScope hZ' ["self", "letters", "table", "accepts"] (defScope aS') := (by walk_at "3")
def dN' : He.DefD := ⟨("Machine", some "keep"), "keep", "Machine.keep", defArgs aS', defBody aS', defScope aS', [], []⟩
abbrev au' : Stmt := inClass (top 17) 2
abbrev fT' : List Str := ["self"]
theorem eM' : FnScope fT' ["self"] (defScope au') := (by walk_at "3")
def cO' : He.DefD := ⟨("Machine", some "letters"), "letters", "Machine.letters", defArgs au', defBody au', defScope au', [], []⟩
abbrev aK' : Stmt := inClass (top 17) 3
abbrev hK' : List Str := ["self"]
theorem gk' : FnScope hK' ["self"] (defScope aK') := (by walk_at "3")
def dk' : He.DefD := ⟨("Machine", some "table"), "table", "Machine.table", defArgs aK', defBody aK', defScope aK', [], []⟩
abbrev av' : Stmt := inClass (top 17) 4
abbrev fU' : List Str := ["self"]
theorem eN' : FnScope fU' ["self"] (defScope av') := (by walk_at "3")
def cP' : He.DefD := ⟨("Machine", some "accepts"), "accepts", "Machine.accepts", defArgs av', defBody av', defScope av', [], []⟩
abbrev aL' : Stmt := inClass (top 17) 5
abbrev hL' : List Str := ["self"]
theorem gl' : FnScope hL' ["self"] (defScope aL') := (by walk_at "3")
def dl' : He.DefD := ⟨("Machine", some "parts"), "parts", "Machine.parts", defArgs aL', defBody aL', defScope aL', [], []⟩
abbrev aC' : Stmt := inClass (top 17) 6
abbrev gs' : List Str := ["self", "other"]
theorem fu' : FnScope gs' ["self", "other"] (defScope aC') := (by walk_at "3")
def c1' : He.DefD := ⟨("Machine", some "__eq__"), "__eq__", "Machine.__eq__", defArgs aC', defBody aC', defScope aC', [], []⟩
abbrev ak' : Stmt := inClass (top 18) 0
abbrev dQ' : List Str := ["self", "letters", "table", "accepts"]
theorem dn' : FnScope dQ' ["self", "letters", "table", "accepts"] (defScope ak') := (by walk_at "3")
def cb' : He.DefD := ⟨("RawMachine", some "__init__"), "__init__", "RawMachine.__init__", defArgs ak', defBody ak', defScope ak', [], []⟩
abbrev hN' : Stmt := top 19
abbrev CC' : List Str := ["machine", "state", "word", "letter"]
theorem qH' : FnScope CC' ["machine", "state", "word"] (defScope hN') := (by walk_at "3")
def uU' : He.DefD := ⟨("led", none), "led", "led", defArgs hN', defBody hN', defScope hN', [], []⟩
abbrev d8' : Stmt := top 20
abbrev Ab' : List Str := ["machine", "word"]
theorem vJ' : FnScope Ab' ["machine", "word"] (defScope d8') := (by walk_at "3")
def rU' : He.DefD := ⟨("says", none), "says", "says", defArgs d8', defBody d8', defScope d8', [], []⟩
abbrev bP' : Stmt := top 21
abbrev sf' : List Str := ["machine", "found", "known", "at", "state"]
theorem cw' : FnScope sf' ["machine"] (defScope bP') := (by walk_at "3")
def iu' : He.DefD := ⟨("reached", none), "reached", "reached", defArgs bP', defBody bP', defScope bP', [], []⟩
abbrev bE' : Stmt := top 22
abbrev o0' : List Str := ["keys", "numbers", "found", "item", "key"]
theorem cB' : FnScope o0' ["keys"] (defScope bE') := (by walk_at "3")
def hk' : He.DefD := ⟨("numbered", none), "numbered", "numbered", defArgs bE', defBody bE', defScope bE', [], []⟩
abbrev aB' : Stmt := top 23
abbrev cU' : List Str := ["machine", "states", "classes", "many", "keys", "state", "step"]
theorem aA' : FnScope cU' ["machine", "states"] (defScope aB') := (by walk_at "3")
def dK' : He.DefD := ⟨("alike_states", none), "alike_states", "alike_states", defArgs aB', defBody aB', defScope aB', [], []⟩
abbrev ck' : Stmt := top 24
abbrev me' : List Str := ["machine", "states", "classes", "firsts", "state", "table", "one", "accepts", "step"]
theorem bT' : FnScope me' ["machine"] (defScope ck') := (by walk_at "3")
def n4' : He.DefD := ⟨("least", none), "least", "least", defArgs ck', defBody ck', defScope ck', [], []⟩
abbrev bg' : Stmt := top 26
abbrev c2' : List Str := ["machine", "letters", "left", "places", "table", "letter", "row", "place"]
theorem a4' : FnScope c2' ["machine", "letters"] (defScope bg') := (by walk_at "3")
def hf' : He.DefD := ⟨("silenced", none), "silenced", "silenced", defArgs bg', defBody bg', defScope bg', [], []⟩
abbrev bO' : Stmt := top 27
abbrev se' : List Str := ["machine", "letters"]
theorem or' : FnScope se' ["machine", "letters"] (defScope bO') := (by walk_at "3")
def it' : He.DefD := ⟨("without", none), "without", "without", defArgs bO', defBody bO', defScope bO', [], []⟩
abbrev bj' : Stmt := top 29
abbrev hJ' : List Str := ["_law_script", "_law_cells", "_law_cell"]
theorem dv' : FnScope hJ' ["_law_script"] (defScope bj') := (by walk_at "3")
def ge' : He.DefD := ⟨("_law_hand", none), "_law_hand", "_law_hand", defArgs bj', defBody bj', defScope bj', [], []⟩
abbrev bp' : Stmt := top 30
abbrev mh' : List Str := ["_law_hand_here", "_law_many", "_law_cell", "_law_digit", "_law_number"]
theorem b3' : FnScope mh' ["_law_hand_here", "_law_many"] (defScope bp') := (by walk_at "3")
def gf' : He.DefD := ⟨("_law_draw", none), "_law_draw", "_law_draw", defArgs bp', defBody bp', defScope bp', [], []⟩
abbrev aH' : Stmt := top 31
abbrev hI' : List Str := ["_law_hand_here", "_law_things", "_law_rest", "_law_found", "_law_turn"]
theorem bU' : FnScope hI' ["_law_hand_here", "_law_things"] (defScope aH') := (by walk_at "3")
def dj' : He.DefD := ⟨("_law_shuffled", none), "_law_shuffled", "_law_shuffled", defArgs aH', defBody aH', defScope aH', [], []⟩
abbrev a5' : Stmt := top 32
abbrev eC' : List Str := ["_law_hand_here", "_law_kind", "_law_size", "_law_many", "_law_rows_here", "_law_steps", "_law_turns", "_law_state", "_law_row", "_law_letter", "_law_to"]
theorem al' : FnScope eC' ["_law_hand_here", "_law_kind", "_law_size", "_law_many"] (defScope a5') := (by walk_at "3")
def gd' : He.DefD := ⟨("_law_rows", none), "_law_rows", "_law_rows", defArgs a5', defBody a5', defScope a5', [], []⟩
abbrev a0' : Stmt := top 33
abbrev gg' : List Str := ["_law_hand_here", "_law_many", "_law_one", "_law_size", "_law_other", "_law_rows_here", "_law_state", "_law_left", "_law_right", "_law_k"]
theorem aY' : FnScope gg' ["_law_hand_here", "_law_many"] (defScope a0') := (by walk_at "3")
def e8' : He.DefD := ⟨("_law_woven", none), "_law_woven", "_law_woven", defArgs a0', defBody a0', defScope a0', [], []⟩
abbrev a3' : Stmt := top 34
abbrev gh' : List Str := ["_law_hand_here", "_law_most", "_law_states", "_law_kind", "_law_many", "_law_size", "_law_signs", "_law_letters", "_law_table", "_law_accepts", "_law_state"]
theorem aE' : FnScope gh' ["_law_hand_here", "_law_most", "_law_states"] (defScope a3') := (by walk_at "3")
def e9' : He.DefD := ⟨("_law_parts", none), "_law_parts", "_law_parts", defArgs a3', defBody a3', defScope a3', [], []⟩
abbrev aI' : Stmt := top 35
abbrev ec' : List Str := ["_law_table", "_law_accepts", "_law_states", "_law_classes_here", "_law_state", "_law_many", "_law_turn", "_law_numbers", "_law_later", "_law_key", "_law_to"]
theorem ao' : FnScope ec' ["_law_table", "_law_accepts", "_law_states"] (defScope aI') := (by walk_at "3")
def dL' : He.DefD := ⟨("_law_classes", none), "_law_classes", "_law_classes", defArgs aI', defBody aI', defScope aI', [], []⟩
abbrev aV' : Stmt := top 36
abbrev cQ' : List Str := ["_law_table", "_law_accepts", "_law_states", "_law_at", "_law_to", "_law_classes_here", "_law_numbers", "_law_order", "_law_state", "_law_rows_here", "_law_k"]
theorem an' : FnScope cQ' ["_law_table", "_law_accepts"] (defScope aV') := (by walk_at "3")
def fa' : He.DefD := ⟨("_law_least", none), "_law_least", "_law_least", defArgs aV', defBody aV', defScope aV', [], []⟩
abbrev bo' : Stmt := top 37
abbrev mg' : List Str := ["_law_hand_here", "_law_letters", "_law_many", "_law_word_here", "_law_turn"]
theorem cH' : FnScope mg' ["_law_hand_here", "_law_letters", "_law_many"] (defScope bo') := (by walk_at "3")
def gc' : He.DefD := ⟨("_law_word", none), "_law_word", "_law_word", defArgs bo', defBody bo', defScope bo', [], []⟩
abbrev at' : Stmt := top 38
abbrev fS' : List Str := ["_law_found", "_law_letters", "_law_rows_here", "_law_yes"]
theorem eL' : FnScope fS' ["_law_found", "_law_letters", "_law_rows_here", "_law_yes"] (defScope at') := (by walk_at "3")
def cN' : He.DefD := ⟨("_law_is_machine", none), "_law_is_machine", "_law_is_machine", defArgs at', defBody at', defScope at', [], []⟩
abbrev aJ' : Stmt := top 39
abbrev ed' : List Str := ["_law_letters", "_law_found", "_law_letter", "_law_lot"]
theorem bs' : FnScope ed' ["_law_letters"] (defScope aJ') := (by walk_at "3")
def dM' : He.DefD := ⟨("_law_choices", none), "_law_choices", "_law_choices", defArgs aJ', defBody aJ', defScope aJ', [], []⟩
abbrev bt' : Stmt := top 40
abbrev iA' : List Str := ["_law_hand_here", "_law_letters", "_law_others", "_law_sign", "_law_at", "_law_odd_here", "_law_way"]
theorem bW' : FnScope iA' ["_law_hand_here", "_law_letters"] (defScope bt') := (by walk_at "3")
def ht' : He.DefD := ⟨("_law_odd", none), "_law_odd", "_law_odd", defArgs bt', defBody bt', defScope bt', [], []⟩
abbrev as' : Stmt := top 41
abbrev fR' : List Str := ["_law_machine", "_law_thing", "_law_refused", "e"]
theorem bH' : FnScope fR' ["_law_machine", "_law_thing"] (defScope as') := (by walk_at "3")
def cM' : He.DefD := ⟨("_law_is_refused", none), "_law_is_refused", "_law_is_refused", defArgs as', defBody as', defScope as', [], []⟩
abbrev fx' : Stmt := top 42
abbrev sg' : List Str := ["_law_script", "_law_hand_here", "_law_letters", "_law_table", "_law_accepts", "_law_machine", "_law_lot", "_law_left", "_law_places", "_law_rows_here", "_law_yes", "_law_found", "_law_word_here", "_law_step", "_law_letter", "_law_thing", "_law_shown", "_law_row", "_law_k"]
theorem bA' : FnScope sg' ["_law_script"] (defScope fx') := (by walk_at "3")
def uV' : He.DefD := ⟨("law", none), "law", "law", defArgs fx', defBody fx', defScope fx', [], []⟩
def fns : List He.DefD := [e5', dI', dJ', gb', iv', e6', di', e7', hq', cE', dN', cO', dk', cP', dl', c1', cb', uU', rU', iu', hk', dK', n4', hf', it', ge', gf', dj', gd', e8', e9', dL', fa', gc', cN', dM', ht', cM', uV']
def tbs : List He.Tab := []
def fas : List He.Fa := [.glo "is_integer", .glo "is_string_of", .glo "is_ascending", .glo "is_choice", .glo "is_word", .glo "check_word", .glo "check_letters", .glo "are_states", .glo "is_table", .glo "led", .glo "says", .glo "reached", .glo "numbered", .glo "alike_states", .glo "least", .glo "silenced", .glo "without", .glo "_law_hand", .glo "_law_draw", .glo "_law_shuffled", .glo "_law_rows", .glo "_law_woven", .glo "_law_parts", .glo "_law_classes", .glo "_law_least", .glo "_law_word", .glo "_law_is_machine", .glo "_law_choices", .glo "_law_odd", .glo "_law_is_refused", .glo "law", .glo "SaidError", .exc "SaidError", .glo "NoWord", .exc "NoWord", .glo "NoLetters", .exc "NoLetters", .glo "NoMachine", .glo "Machine", .glo "RawMachine", .str "SMALL" "abcdefghijklmnopqrstuvwxyz", .free "zip", .free "tuple", .free "list", .free "range", .free "isinstance", .free "int", .free "str", .free "len", .free "max", .free "sorted", .free "abs", .free "repr", .free "bool", .free "min", .cls "Machine", .noat "Machine" "kept_letters", .noat "Machine" "kept_table", .noat "Machine" "kept_accepts", .noat "Machine" "kept_least", .noat "Machine" "kept_field", .noat "Machine" "kept_lots", .noat "Machine" "kept_more", .mkr "Machine", .cls "RawMachine", .noat "RawMachine" "kept_letters", .noat "RawMachine" "kept_table", .noat "RawMachine" "kept_accepts", .noat "RawMachine" "kept_least", .noat "RawMachine" "kept_field", .noat "RawMachine" "kept_lots", .noat "RawMachine" "kept_more", .mkr "RawMachine", .meth "Machine" "keep", .meth "RawMachine" "keep", .meth "Machine" "letters", .meth "RawMachine" "letters", .meth "Machine" "table", .meth "RawMachine" "table", .meth "Machine" "accepts", .meth "RawMachine" "accepts", .meth "Machine" "parts", .meth "RawMachine" "parts"]
def exs : List (PySem.W.Frag -> Bool) := [fun K => (M.exT.all fun e => decide (PySem.W.exmOne K (.ref (He.ga K e.1)) (.ref (He.ga K e.2.1)) = some e.2.2)), fun K => (decide (He.ma K (He.ga K "RawMachine") "keep" = He.ma K (He.ga K "Machine") "keep")), fun K => (decide (He.ma K (He.ga K "RawMachine") "letters" = He.ma K (He.ga K "Machine") "letters")), fun K => (decide (He.ma K (He.ga K "RawMachine") "table" = He.ma K (He.ga K "Machine") "table")), fun K => (decide (He.ma K (He.ga K "RawMachine") "accepts" = He.ma K (He.ga K "Machine") "accepts")), fun K => (decide (He.ma K (He.ga K "RawMachine") "parts" = He.ma K (He.ga K "Machine") "parts")), fun K => Du' K [("Machine", "Machine"), ("RawMachine", "Machine"), ("RawMachine", "RawMachine")] (He.ma K (He.ga K "Machine") "__eq__"), fun K => CU' K [("Machine", "Machine"), ("RawMachine", "Machine"), ("RawMachine", "RawMachine")] (He.ma K (He.ga K "Machine") "__eq__"), fun K => uN' K M.exI, fun K => ws' K M.isT "Machine"]
def exK (K : PySem.W.Frag) : Bool := exs.all fun f => f K
end S
set_option maxHeartbeats 0
namespace S
open PySem PySem.Spec PyProof.Rows L2
def yP' : List Str := ["SaidError", "NoWord", "NoLetters", "NoMachine", "SMALL", "is_integer", "is_string_of", "is_ascending", "is_choice", "is_word", "check_word", "check_letters", "are_states", "is_table", "Machine", "RawMachine", "led", "says", "reached", "numbered", "alike_states", "least", "silenced", "without"]
def yO' : List Str := ["_law_hand", "_law_draw", "_law_shuffled", "_law_rows", "_law_woven", "_law_parts", "_law_classes", "_law_least", "_law_word", "_law_is_machine", "_law_choices", "_law_odd", "_law_is_refused"]
def loose : List Str := yP' ++ yO'
abbrev Rw : PySem.W.OpenRow := PySem.W.OpenLaw.row PySem.Challenge.rw_saidacross_k81_letters_left_out
abbrev hk : PySem.W.Hook := He.hookX 4 fas fns tbs [] exK
def ob (s : PySem.W.SharedT) : He.AlX := He.obsX 4 fas fns tbs [] exK (HandSHeadRun.getT s)
theorem Bt' (s : PySem.W.SharedT) : ob s = hk.obs s.abs := He.obsX_eq (HandSHeadRun.getT_eq s)
theorem yA' {α β γ : Type} {x : Option α} {f : α -> β} {g : α -> γ} {b : β} {c : γ} (h1 : x.map f = some b) (h2 : x.map g = some c) : x.map (fun s => (f s, g s)) = some (b, c) := by
  cases x with
  | none => cases h1
  | some a =>
    obtain rfl := Option.some.inj h1
    obtain rfl := Option.some.inj h2
    rfl
section
open PySem.W HandSHeadRun
theorem Di' (w : World) (os : OsState) : (endF (stepQ (denQ tabQ) Rw.prog w) 2980 Rw.prog w os).map (fun s => looksF Rw.prog (boot_heap w.params) s.abs) = some true := by kernel_rfl
theorem Dh' (w : World) (os : OsState) : (endF (stepQ (denQ tabQ) Rw.prog w) 2980 Rw.prog w os).map (fun s => seenQ (PySem.W.view Rw.prog [42]) loose (importedModules Rw.prog.main.body) (fun s => xlAt (PySem.W.view Rw.prog [42]) [] s && recOk Rw.toRowW.records s) s.abs) = some (openGood (PySem.W.view Rw.prog [42]) loose) := by kernel_rfl
theorem Dg' (w : World) (os : OsState) : (endF (stepQ (denQ tabQ) Rw.prog w) 2980 Rw.prog w os).map (fun s => ob s) = some (hk.val w) := by kernel_rfl
end
theorem run (w : World) : HandSHeadRun.RunEq Rw (PySem.W.view Rw.prog [42]) hk ob 2980 loose w := fun os => yA' (Di' w os) (yA' (Dh' w os) (Dg' w os))
end S
set_option maxHeartbeats 4000000
namespace S
open PySem PySem.Spec PyProof.Rows L2
abbrev St := L2.St
section
variable {X : Cx}
def o5' (z : Str) (n : Nat) : Str := ⟨((List.replicate n z.cps.toList).flatten).toArray⟩
theorem kG' : ∀ (l : List (Array Nat)) (a : Array Nat), l.foldl (· ++ ·) a = (a.toList ++ (l.map Array.toList).flatten).toArray
  | [], a => by simp
  | b :: r, a => by
    rw [List.foldl_cons, kG' r]
    simp
theorem qO' (z : Str) (n : Nat) : (⟨(List.replicate n z.cps).foldl (· ++ ·) #[]⟩ : Str) = o5' z n := by
  unfold o5'
  rw [kG']
  simp
theorem sX' (z : Str) : o5' z 1 = z := by
  obtain ⟨c⟩ := z
  simp [o5']
theorem qN' (z : Str) : o5' z 0 = Str.empty := by
  simp [o5']
  rfl
theorem ow' (z : Str) (h : z.length = 0) (n : Nat) : o5' z n = z := by
  obtain ⟨c⟩ := z
  have e : c.toList = [] := by
    have h1 : c.size = 0 := h
    exact List.eq_nil_of_length_eq_zero (by simpa using h1)
  have e2 : c = #[] := by simpa using congrArg List.toArray e
  subst e2
  simp [o5']
theorem ly' (z : Str) (n : Nat) : (o5' z n).length = n * z.length := by
  show ((List.replicate n z.cps.toList).flatten).toArray.size = _
  rw [List.size_toArray, List.length_flatten]
  simp
  rfl
def uC' : R2 := fun x y H Q => ∃ z i, x = .str z /\ y = .int i /\ i < 2 ^ 62 /\ -(2 ^ 62) <= i /\ z.length * i.toNat <= sizeLine /\ Q (.str (o5' z i.toNat)) H
theorem s8' : OpR X (binaryOp .Mult) uC' := by
  intro pins s σ H x y v u Q I rx ry h
  obtain ⟨z, i, rfl, rfl, h1, h2, h3, q⟩ := h
  obtain ⟨t, rfl⟩ := rx
  obtain ⟨t', rfl⟩ := ry
  have h63 : (decide (i < -(2 ^ 63 : Int)) || decide (i >= 2 ^ 63)) = false := by
    rw [decide_eq_false (by omega), decide_eq_false (by omega)]; rfl
  have hsz : (sizeLine : Nat) < 2 ^ 62 := by rw [sizeLine_eq]; decide
  refine PySem.P.mul_str h63 (fun hn hz => ?_) (fun hn hz => ?_) ?_
  . intro hg
    have hpos : 0 < i := by omega
    have e : (i.toNat : Int) = i := by omega
    have h4 : (z.length : Int) * i <= sizeLine := by
      rw [<- e]; exact_mod_cast h3
    have h5 : (2 ^ 63 - 1) / i < (z.length : Int) := hg
    have h6 : (2 ^ 63 - 1 : Int) < z.length * i := by
      have := Int.lt_mul_of_ediv_lt hpos h5
      rw [Int.mul_comm] at this
      first
        | exact this
        | (rw [Int.mul_comm]; exact this)
    omega
  . exact decide_eq_false (by omega)
  . by_cases hn : i < 1
    . rw [if_pos hn]
      have e : i.toNat = 0 := by omega
      rw [e, qN'] at q
      exact ⟨by decide, .str Str.empty, H, I.tok _, ⟨_, rfl⟩, q⟩
    . rw [if_neg hn]
      by_cases hz : (i == 1 || z.length == 0) = true
      . rw [if_pos hz]
        have e : o5' z i.toNat = z := by
          rcases Bool.or_eq_true_iff.mp hz with h | h
          . have h' : i = 1 := eq_of_beq h
            rw [h']; exact sX' z
          . exact ow' z (eq_of_beq h) _
        rw [e] at q
        exact ⟨.str z, H, I, ⟨_, rfl⟩, q⟩
      . rw [if_neg hz, qO']
        exact ⟨by rw [ly', Nat.mul_comm]; omega, .str _, H, I.tok _, ⟨_, rfl⟩, q⟩
def yj' : R2 := fun x y H Q => rI CMul (fun i j => .int (i * j)) x y H Q \/ uC' x y H Q \/ rRep x y H Q
theorem v3' : OpR X (binaryOp .Mult) yj' := op_mul.or (s8'.or op_rep)
def ym' (f : List Nat -> List Nat -> Bool) : R2 := fun x y H Q => ∃ i j, x = .str i /\ y = .str j /\ Q (.bl (f i.cps.toList j.cps.toList)) H
def uE' (p : Int -> Int -> Bool) (f : List Nat -> List Nat -> Bool) : R2 := fun x y H Q => rI0 (fun i j => .bl (p i j)) x y H Q \/ ym' f x y H Q
theorem kh' : OpR X (compareOp .Lt) (uE' (fun i j => decide (i < j)) fun a b => decide (a < b)) := op_lt.or (r' := ym' fun a b => decide (a < b)) op_lt_str
theorem nI' : OpR X (compareOp .LtE) (uE' (fun i j => decide (i <= j)) fun a b => !decide (b < a)) := op_le.or (r' := ym' fun a b => !decide (b < a)) op_le_str
theorem nJ' : OpR X (compareOp .Gt) (uE' (fun i j => decide (j < i)) fun a b => decide (b < a)) := op_gt.or (r' := ym' fun a b => decide (b < a)) op_gt_str
theorem nK' : OpR X (compareOp .GtE) (uE' (fun i j => decide (j <= i)) fun a b => !decide (a < b)) := op_ge.or (r' := ym' fun a b => !decide (a < b)) op_ge_str
def yr' (K : PySem.W.Frag) : R2 := fun x y H Q => rI0 (fun i j => .int (i + j)) x y H Q \/ (∃ i j, x = .str i /\ y = .str j /\ i.length + j.length <= sizeLine /\ Q (.str (i ++ j)) H) \/ rCat x y H Q \/ rCatA K x y H Q
theorem aP' : OpR X (binaryOp .Add) (yr' X.K) := op_add.or (op_add_str.or (op_cat.or op_catA))
def Bi' (K : PySem.W.Frag) : R2 := fun x y H Q => rEq x y H Q \/ rEqD K x y H Q
theorem b9' (hu : X.A.units + 64 < cLine) : OpR X (compareOp .Eq) (Bi' X.K) := op_eq.or (op_eqD hu)
def Bf' (K : PySem.W.Frag) : R2 := fun x y H Q => rNe x y H Q \/ rNeD K x y H Q
theorem nH' (hu : X.A.units + 64 < cLine) : OpR X (compareOp .NotEq) (Bf' X.K) := op_ne.or (op_neD hu)
def CM' : R2 := fun x y H Q => ∃ (c : Nat) (z : Str), x = .str ⟨#[c]⟩ /\ y = .str z /\ Q (.bl (decide (c ∈ z.cps.toList))) H
def qV' : R2 := fun x y H Q => ∃ (c : Nat) (z : Str), x = .str ⟨#[c]⟩ /\ y = .str z /\ Q (.bl (!decide (c ∈ z.cps.toList))) H
def yq' : R2 := fun x y H Q => ∃ i j, x = .str i /\ y = .str j /\ Q (.bl (!(Builtin.Str.occurrences j i 0 j.length 1).isEmpty)) H
def nz' : R2 := fun x y H Q => ∃ i j, x = .str i /\ y = .str j /\ Q (.bl (!(!(Builtin.Str.occurrences j i 0 j.length 1).isEmpty))) H
def Am' (K : PySem.W.Frag) : R2 := fun x y H Q => CM' x y H Q \/ rIn K false x y H Q \/ yq' x y H Q
def iX' (K : PySem.W.Frag) : R2 := fun x y H Q => qV' x y H Q \/ rIn K true x y H Q \/ nz' x y H Q
theorem ki' : OpR X (compareOp .In) (Am' X.K) := OpR.or (r := CM') op_in_sign (op_in_seq.or (r' := yq') op_in_str)
theorem dz' : OpR X (compareOp .NotIn) (iX' X.K) := OpR.or (r := qV') op_notIn_sign (op_notIn_seq.or (r' := nz') op_notIn_str)
def CJ' (K : PySem.W.Frag) : V -> Option Int -> Option Int -> Hp -> VK -> Prop := fun x lo hi H Q => rSlL K x lo hi H Q \/ rSlS x lo hi H Q \/ rSlA K x lo hi H Q
theorem vF' : SlR X (CJ' X.K) := sl_list.or (sl_str.or sl_tupA)
def yn' (K : PySem.W.Frag) : List V -> Hp -> VK -> Prop := fun xs H Q => (∃ z, xs = [.str z] /\ z.length <= sizeLine /\ Q (.int z.length) H) \/ (∃ p ys, xs = [.ref p] /\ (SqL K H p ys \/ SqT K H p ys) /\ Q (.int ys.length) H) \/ (∃ a kvs, xs = [V.ref a] /\ Rd H a (.dK kvs) /\ Q (.int kvs.length) H)
theorem r2' : CallR X (.builtin "len") (yn' X.K) := call_len_str.or (call_len_seq.or fun pins s σ H vs us Q I r h => by
  obtain ⟨a, kvs, rfl, e, q⟩ := h
  cases r with
  | cons ra rn =>
    cases rn
    cases (show _ = Value.ref a from ra)
    exact d_len I e fun t s' I' => ⟨.int kvs.length, H, I', ⟨t, rfl⟩, q⟩)
def uD' (K : PySem.W.Frag) : List V -> Hp -> VK -> Prop := fun xs H Q => (∃ p ys, xs = [.ref p] /\ (SqL K H p ys \/ SqT K H p ys) /\ ∀ l, H l = none -> Q (.ref l) (upd H l (.lst ys)))
theorem oT' : CallR X (.type "list") (uD' X.K) := call_list_of
def qT' (K : PySem.W.Frag) : List V -> Hp -> VK -> Prop := fun xs H Q => ∃ p ys, xs = [.ref p] /\ ((SqL K H p ys /\ ∀ l, H l = none -> Q (.ref l) (upd H l (.tup ys))) \/ (SqT K H p ys /\ Q (.ref p) H))
theorem l7' : CallR X (.type "tuple") (qT' X.K) := call_tuple_of
def yp' : List V -> Hp -> VK -> Prop := fun xs H Q => (∃ i, xs = [.int i] /\ Q (.int i) H) \/ ∃ k, xs = [.bl k] /\ Q (.int (if k then 1 else 0)) H
theorem bk' : CallR X (.type "int") yp' := call_int1
def yt' : List V -> Hp -> VK -> Prop := fun xs H Q => ∃ i, xs = [.int i] /\ Q (.int (if i < 0 then -i else i)) H
theorem r3' : CallR X (.builtin "abs") yt' := call_abs
def yl' : List V -> Hp -> VK -> Prop := fun xs H Q => ∃ i j, xs = [.int i, .int j] /\ Q (.int (if j > i then j else i)) H
theorem iy' (hc : X.calm = true) : CallR X (.builtin "max") yl' := call_max2 hc
def yk' : List V -> Hp -> VK -> Prop := fun xs H Q => ∃ i j, xs = [.int i, .int j] /\ Q (.int (if j < i then j else i)) H
theorem fL' (hc : X.calm = true) : CallR X (.builtin "min") yk' := call_min2 hc
def CL' : R2 := fun x y H Q => y = .non /\ Q (.bl (decide (x = .non))) H
theorem v5' : OpR X (compareOp .Is) CL' := op_isN
theorem vZ' {x z : Str} {pos : Pos} (hg : Gl X x) (h : ∃ t, X.mg x = some (.str z t)) (hd : (x == ("__debug__" : Str)) = false := by decide) : PE X (.Name x pos) (tC (.str z)) := by
  obtain ⟨t, e⟩ := h
  exact pe_glob hg e ⟨t, rfl⟩ hd
theorem lE' {x : Str} {a : Addr} {pos : Pos} (hg : Gl X x) (h : X.mg x = some (.ref a)) (hd : (x == ("__debug__" : Str)) = false := by decide) : PE X (.Name x pos) (tC (.ref a)) := pe_glob hg h rfl hd
theorem nE' {C : Addr} {bmB : List Value} {B newId initId : String} {x : Str} {p pos : Pos} (F : ExcBaseFacts B newId initId bmB) (q : PySem.W.excIn X.K C bmB newId = true) (gC : X.mg x = some (.ref C))
    (kC : PySem.W.keepIn X.K (.ref C) = true) (r : Raises X (.ref C)) (hg : Gl X x) (hdb : (x == ("__debug__" : Str)) = false := by decide) : PMk X (.Call (.Name x p) [] [] pos) (fun _ H Q => Q (.ref C) none H) := by
  intro pins s σ H Q I h
  refine wpAny_Call_Name_kw (ld_glob I hg gC ?_ hdb)
  refine PySem.W.callWith_K0 I.kIn kC ?_
  show wpAny _ _ (call (.ref C) []) _ _ _
  obtain ⟨bm, N, nm, qn, bs, hdct, sn, sub, ab, col, dd, k0, k1, k2, k3, k5, mN, hC, hN, hni, T⟩ := exc_obj I.kIn q
  refine wpAny_call_exc_subT F T hC hN hni (fun h' e hm => ?_) (Nat.zero_le _)
  exact mk_of I hm r h (I.hok.gone hm.new)
end
section
variable {P : Program} {w : World} {K : PySem.W.Frag} {mg : Str -> Option Value} {base : Heap}
section
variable {X : Cx} {k : Nat} {x : Str} {ps : List Str} {sp : Sp} {p pos : Pos} {e : Expr} {es : List Expr} {t : TA} {W : WX}
end
end
end S
namespace S
open PySem PySem.Spec PyProof.Rows L2
section
variable {K : PySem.W.Frag} {D : Ends} {σ : St} {H H' : Hp} {Q : VK} {t u : TS} {te ta tb tc : TE} {tt tu : TT} {g : TG} {tl : TA} {v x y : V} {i j : Int} {a p : Addr} {xs ys : List V} {z z' : Str} {r : R2}
theorem AQ' {n : String} {tv : Value} {b : Bool} (ty : TyX K H x tv) (e : PySem.W.kitOne K tv (.type n) = some b) (h : Q (.bl b) H) : rIsi K [x, .ty n] H Q := ⟨x, .ty n, tv, _, b, rfl, .ty n, ty, e, h⟩
theorem Same.upd {H : Hp} {p : Addr} {o : HO} (h : H p = none) : Same H (upd H p o) := fun b u e => by
  rw [upd_ne (ne_of_none e h)]; exact e
theorem Same.app (s : Same H H') {o : HO} (h : H p = some o) : H' p = some o := s p o h
end
theorem FnOk.to0 {P : Program} {w : World} {K : PySem.W.Frag} {mg : Str -> Option Value} {base : Heap} {k : Nat} {f : Addr} {fd : FuncData} {ps : List Str} {sp : Sp} (F : FnOk P w K mg base (L2.CX P w) k f fd ps sp) :
    FnOk P w K mg base CX0 k f fd ps (fun vs H Q _ => sp vs H Q E0) :=
  ⟨fun vs H Q _ h => F.len vs H Q E0 h, fun A outer s H args us vs Q _ hr he hb hv hs => codeAny_mono (F.run A outer s H args us vs Q E0 hr he hb hv hs) fun r s' hq => by
    cases r with
    | error e =>
      obtain ⟨_, _, _, _, _, _, _, _, _, _, _, _, z⟩ := hq
      exact z.elim
    | ok fl =>
      cases fl with
      | ret u => exact hq
      | next => exact hq
      | brk => exact hq
      | cont => exact hq⟩
end S
namespace S
open PySem PySem.Spec PyProof.Rows L2
section
variable {α : Type} {as : List α} {J : It} {G : Hp -> Prop} {Y : α -> Hp -> V -> Hp -> Prop} {K : PySem.W.Frag} {D : Ends} {σ : St} {H : Hp} {g : TG} {tb : TS} {tt : TT} {te : TE} {a : Addr}
def DH' (J : It) (g : TG) (tb : TS) (D : Ends) (σ : St) (H1 : Hp) : Prop := ∃ W : Nat -> Nat -> St -> Hp -> Prop, (∃ m, W 0 m σ H1) /\ ∀ i m σ H, W i m σ H →
  (J.stop i H /\ D.nx σ H) \/ (J.go i H /\ ∃ N : St -> Hp -> Prop, (∀ σ' H', N σ' H' -> ∃ m', m' < m /\ W (i + 1) m' σ' H') /\ ∀ x H', J.yld i H x H' -> g x σ H' fun σ2 H2 => tb { D with nx := N, ct := N, bk := D.nx } σ2 H2)
theorem ev' {lo : Int} {n : Nat} (Pv : Nat -> St -> Hp -> Prop) (h0 : Pv 0 σ H)
    (hs : ∀ i σ H, i < n -> Pv i σ H -> g (.int (lo + (i : Nat))) σ H fun σ2 H2 => tb { D with nx := Pv (i + 1), ct := Pv (i + 1), bk := D.nx } σ2 H2) (hd : ∀ σ H, Pv n σ H -> D.nx σ H) : DH' (Itr lo n) g tb D σ H := for_range Pv h0 hs hd
end
section
variable {H H' : Hp} {p q : Addr} {o : HO}
theorem seqT {K : PySem.W.Frag} {a : Addr} {xs : List V} (e : Same H H') (h : SqT K H a xs) : SqT K H' a xs := by
  rcases h with (h | ⟨o, h⟩) | h
  . exact .inl (.inl (e _ _ h))
  . exact .inl (.inr ⟨o, e _ _ h⟩)
  . exact .inr h
end
mutual
theorem Dp.same {K : PySem.W.Frag} {H H' : Hp} (s : Same H H') : ∀ {d : PyData} {v : V}, Dp K H v d -> Dp K H' v d
  | _, _, .non => .non
  | _, _, .bl b => .bl b
  | _, _, .int i => .int i
  | _, _, .str x => .str x
  | _, _, .lst h r => .lst (Same.seq s h) (DpAll.same s r)
  | _, _, .tup h r => .tup (seqT s h) (DpAll.same s r)
theorem DpAll.same {K : PySem.W.Frag} {H H' : Hp} (s : Same H H') : ∀ {ds : List PyData} {vs : List V}, DpAll K H vs ds -> DpAll K H' vs ds
  | _, _, .nil => .nil
  | _, _, .cons h r => .cons (Dp.same s h) (DpAll.same s r)
end
end S
namespace S
open PySem PySem.Spec PyProof.Rows L2
def CE' (c a : Addr) : HO := .ext fun h => ∃ (its : List Value) (n : Nat) (i s t k : Int), Vals [.ref c, .int i, .int s, .int t, .int k] its /\ h.get? a = some { cls := .type "list", data := .seq its.toArray n } /\ 0 <= i
def cR' (H : Hp) (a : Addr) : Prop := ∃ (c : Addr) (ns : List Int), H a = some (CE' c a) /\ H c = some (.lst (ns.map V.int))
theorem cR'.same {H H' : Hp} {a : Addr} (s : Same H H') (h : cR' H a) : cR' H' a := by
  obtain ⟨c, ns, h1, h2⟩ := h
  exact ⟨c, ns, s _ _ h1, s _ _ h2⟩
section
variable {P : Program} {w : World} {H H' : Hp} {h h' : Heap} {a c : Addr} {o o' : HO} {fs : List Addr}
end
section
variable {P : Program} {w : World} {K : PySem.W.Frag} {mg : Str -> Option Value} {base : Heap} {k : Nat} {f : Addr} {fd : FuncData} {ps : List Str}
end
end S
namespace S
open PySem PySem.Spec PyProof.Rows L2
def Sh (n : Nat) (d : PyData) : Prop := d.canLay0 = true /\ d.depth <= n
theorem Sh.shaped {n : Nat} {d : PyData} (h : Sh n d) (hn : n <= 64) : SeqAt.shaped d = true := by
  unfold SeqAt.shaped
  rw [h.1, Bool.true_and]
  exact decide_eq_true (Nat.le_trans h.2 hn)
theorem Sh.mono {n m : Nat} {d : PyData} (h : Sh n d) (e : n <= m) : Sh m d := ⟨h.1, Nat.le_trans h.2 e⟩
theorem Sh.int {n : Nat} {i : Int} : Sh n (.int i) := ⟨rfl, Nat.zero_le _⟩
theorem Sh.bool {n : Nat} {b : Bool} : Sh n (.bool b) := ⟨rfl, Nat.zero_le _⟩
theorem Sh.none {n : Nat} : Sh n .none := ⟨rfl, Nat.zero_le _⟩
theorem Sh.str {n : Nat} {z : Str} (h : ∀ c ∈ z.cps.toList, c < 128) : Sh n (.str z) := by
  refine ⟨?_, Nat.zero_le _⟩
  show PyData.strOk z = true
  unfold PyData.strOk
  rw [Array.all_eq_true']
  intro c hc
  have := h c (by simpa using hc)
  simp only [decide_eq_true_eq]
  omega
theorem Sh.all {n : Nat} : ∀ {ds : List PyData}, (∀ d ∈ ds, Sh n d) -> PyData.canLayAll0 ds = true /\ PyData.depthAll ds <= n
  | [], _ => ⟨rfl, Nat.zero_le _⟩
  | d :: r, h => by
    have h1 := h d (by simp)
    have h2 := Sh.all (ds := r) fun x hx => h x (by simp [hx])
    refine ⟨?_, ?_⟩
    . show (d.canLay0 && PyData.canLayAll0 r) = true
      rw [h1.1, h2.1]
      rfl
    . show max d.depth (PyData.depthAll r) <= n
      exact Nat.max_le.mpr ⟨h1.2, h2.2⟩
theorem Sh.list {n : Nat} {ds : List PyData} (h : ∀ d ∈ ds, Sh n d) : Sh (n + 1) (.list ds) := ⟨(Sh.all h).1, Nat.succ_le_succ (Sh.all h).2⟩
theorem Sh.tuple {n : Nat} {ds : List PyData} (h : ∀ d ∈ ds, Sh n d) : Sh (n + 1) (.tuple ds) := ⟨(Sh.all h).1, Nat.succ_le_succ (Sh.all h).2⟩
section
variable {K : PySem.W.Frag} {H H' : Hp} {v : V} {vs : List V} {ds es : List PyData} {p : Addr} {xs : List V}
theorem DpAll.append : ∀ {vs ws : List V} {ds es : List PyData}, DpAll K H vs ds -> DpAll K H ws es -> DpAll K H (vs ++ ws) (ds ++ es)
  | _, _, _, _, .nil, h => h
  | _, _, _, _, .cons a r, h => .cons a (DpAll.append r h)
theorem DpAll.length : ∀ {vs : List V} {ds : List PyData}, DpAll K H vs ds -> vs.length = ds.length
  | _, _, .nil => rfl
  | _, _, .cons _ r => congrArg (· + 1) (DpAll.length r)
theorem DpAll.split : ∀ {a b : List V} {ds : List PyData}, DpAll K H (a ++ b) ds -> ∃ d e, ds = d ++ e /\ DpAll K H a d /\ DpAll K H b e
  | [], b, ds, h => ⟨[], ds, rfl, .nil, h⟩
  | x :: a, b, _, .cons h r => by
    obtain ⟨d, e, rfl, h1, h2⟩ := DpAll.split (a := a) r
    exact ⟨_ :: d, e, rfl, .cons h h1, h2⟩
theorem DpAll.get : ∀ {vs : List V} {ds : List PyData} {i : Nat} {d : PyData}, DpAll K H vs ds -> ds[i]? = some d -> ∃ v, vs[i]? = some v /\ Dp K H v d
  | _, _, _, _, .nil, e => by cases e
  | _, _, 0, _, .cons h _, e => ⟨_, rfl, by rw [<- Option.some.inj e]; exact h⟩
  | _, _, i + 1, _, .cons _ r, e => DpAll.get (i := i) r e
theorem Dp.int_inv {i : Int} (h : Dp K H v (.int i)) : v = .int i := by cases h; rfl
theorem Dp.str_inv {z : Str} (h : Dp K H v (.str z)) : v = .str z := by cases h; rfl
theorem Dp.tup_inv (h : Dp K H v (.tuple ds)) : ∃ p xs, v = .ref p /\ SqT K H p xs /\ DpAll K H xs ds := by
  cases h with
  | tup h1 h2 => exact ⟨_, _, rfl, h1, h2⟩
theorem Dp.lst_inv (h : Dp K H v (.list ds)) : ∃ p xs, v = .ref p /\ SqL K H p xs /\ DpAll K H xs ds := by
  cases h with
  | lst h1 h2 => exact ⟨_, _, rfl, h1, h2⟩
theorem tyT (h : SqT K H p xs) : TyX K H (.ref p) (.type "tuple") := by
  rcases h with (h | ⟨o, h⟩) | ⟨o, its, n, h, c, _⟩
  . exact .base (.tup h)
  . exact .fTuple h
  . exact .kTuple h c
theorem tyL (h : SqL K H p xs) : TyX K H (.ref p) (.type "list") := by
  rcases h with (h | ⟨o, h⟩) | ⟨o, its, n, h, c, _⟩
  . exact .base (.lst h)
  . exact .base (.frz h)
  . exact .kList h c
def tyn : PyData -> String
  | .none => "NoneType" | .bool _ => "bool" | .int _ => "int" | .str _ => "str" | .list _ => "list" | .tuple _ => "tuple" | .dict _ => "dict"
theorem _root_.L2.Dp.ty {d : PyData} (h : Dp K H v d) : TyX K H v (.type (tyn d)) := by
  cases h with
  | non => exact .base .non
  | bl b => exact .base (.bl b)
  | int i => exact .base (.int i)
  | str z => exact .base (.str z)
  | lst h1 _ => exact tyL h1
  | tup h1 _ => exact tyT h1
variable {σ : St} {R : St -> Hp -> Prop}
end
theorem iM' {a b : Str} (h : a.cps.toList = b.cps.toList) : a = b := by
  obtain ⟨a⟩ := a
  obtain ⟨b⟩ := b
  have : a = b := by simpa using congrArg List.toArray h
  rw [this]
theorem tY' (a b : Str) : (a ++ b).cps.toList = a.cps.toList ++ b.cps.toList := by
  show (a.cps ++ b.cps).toList = _
  simp
theorem tm' (a : Str) : a.length = a.cps.toList.length := by
  show a.cps.size = _
  simp
section
variable {α β : Type}
def CY' (xs : List α) (lo hi : Option Int) : List α := (xs.drop (HT.sIx xs.length 0 lo)).take (HT.sIx xs.length xs.length hi - HT.sIx xs.length 0 lo)
theorem zY' (z : Str) (lo hi : Option Int) : (cutS z lo hi).cps.toList = CY' z.cps.toList lo hi := by
  unfold cutS CY'
  rw [tm']
end
end S
namespace S
open PySem PySem.Spec PyProof.Rows L2
section
variable {K : PySem.W.Frag} {H : Hp} {J : It} {g : TG} {tt : TT} {te : TE} {vs : List Nat} {σ : St} {Q : VK} {G : Hp -> Prop}
theorem DpAll.at {H : Hp} : ∀ {d r : List V} {x : V} {ds : List PyData}, DpAll K H (d ++ x :: r) ds -> ∃ e, ds[d.length]? = some e /\ Dp K H x e /\ ds.take (d.length + 1) = ds.take d.length ++ [e] := by
  intro d r x ds h
  obtain ⟨a, b, rfl, h1, h2⟩ := DpAll.split h
  cases h2 with
  | cons h3 h4 =>
    have hl := DpAll.length h1
    rename_i e es
    have e1 : (a ++ e :: es)[d.length]? = some e := by rw [List.getElem?_append_right (by omega), hl, Nat.sub_self]; rfl
    refine ⟨_, e1, h3, ?_⟩
    rw [List.take_add_one, e1]
    rfl
theorem _root_.L2.Dp.t2 {v : V} {d e : PyData} (h : Dp K H v (.tuple [d, e])) : ∃ p x y, v = .ref p /\ SqT K H p [x, y] /\ Dp K H x d /\ Dp K H y e := by
  obtain ⟨p, xs, rfl, q, a⟩ := Dp.tup_inv h
  cases a with
  | cons a1 a => cases a with
    | cons a2 a => cases a; exact ⟨p, _, _, rfl, q, a1, a2⟩
theorem _root_.L2.Dp.t3 {v : V} {d e f : PyData} (h : Dp K H v (.tuple [d, e, f])) : ∃ p x y z, v = .ref p /\ SqT K H p [x, y, z] /\ Dp K H x d /\ Dp K H y e /\ Dp K H z f := by
  obtain ⟨p, xs, rfl, q, a⟩ := Dp.tup_inv h
  cases a with
  | cons a1 a => cases a with
    | cons a2 a => cases a with
      | cons a3 a => cases a; exact ⟨p, _, _, _, rfl, q, a1, a2, a3⟩
end
end S
namespace S
open PySem PySem.Spec PyProof.Rows L2
def ItP (xs ys : Nat -> Option V) (n : Nat) : It :=
  ⟨fun i _ => i < n, fun i H v H' => ∃ T x y, v = .ref T /\ H T = none /\ H' = upd H T (.tup [x, y]) /\ xs i = some x /\ ys i = some y, fun i _ => i = n⟩
theorem qn' {P : Program} {w : World} {K : PySem.W.Frag} {tg : Expr} {z : Addr} {fp wr : List Addr} {n : Nat} {P1 P2 : Nat -> Value -> Prop} {St : Nat -> Heap -> Prop} {xs ys : Nat -> Option V}
    (W : ∀ A : Around, A.handled = none -> GoesN P w A tg z fp wr n (fun i h₀ v h => ∃ T x y, v = .ref T /\ h₀.objs.size <= T /\ P1 i x /\ P2 i y /\ h.IsTuple T #[x, y]) St) (hz : z ∈ fp) (sf : ∀ (A : Around) (i : Nat) (s : Shared) (Q : Value -> Shared -> Prop) (E : Value -> Shared -> Prop), St i s.heap -> Q (.ref z) s -> wpAny (model P w) A (pyIter (.ref z)) Q E s)
    (ob : ∀ i h, St i h -> ∀ b ∈ fp, ∃ o, h.get? b = some o /\ ∀ v, o.data ≠ .cell v) (r1 : ∀ i u, i < n -> P1 i u -> ∃ x, xs i = some x /\ RelV x u) (r2 : ∀ i u, i < n -> P2 i u -> ∃ x, ys i = some x /\ RelV x u) :
    Turn P w K tg (ItP xs ys n) fp z St where
  mem := hz
  obj := ob
  keep := fun i h h' st k => (W callerA rfl).frame i h h' st k
  item := by
    intro X hP hw hK hc i pins s σ H E I hf st hg
    subst hP hw hK
    have Wa := W X.A (I.ok.hd hc)
    refine Wa.goes i s _ E hg st fun v h' tk hY st' hk htk => ?_
    obtain ⟨T, u1, u2, rfl, hT, p1, p2, o, ho, hoc, m, hod⟩ := hY
    obtain ⟨x, hx, rx⟩ := r1 i u1 hg p1
    obtain ⟨y, hy, ry⟩ := r2 i u2 hg p2
    have new : ObjOk X.prog X.w (upd H T (.tup [x, y])) h' T (.tup [x, y]) := ⟨by show 2 <= sizeLine; decide, [u1, u2], .cons rx (.cons ry .nil), ⟨_, ho, hoc, _, hod⟩⟩
    have I1 : Inv X pins σ (upd H T (.tup [x, y])) { s with heap := h', toks := tk } :=
      I.turnedNew (t' := tk) (ch := fp) (fun b o hb q => hk b o (fun z => hb (Wa.sub b z)) q) hf hT new
    refine ⟨.ref T, _, I1, rfl, ⟨T, x, y, rfl, I.hok.fresh hT, rfl, hx, hy⟩, st', fun b hb => ?_⟩
    obtain ⟨ob1, hob, _⟩ := ob i s.heap st b hb
    rw [upd_ne (Nat.ne_of_lt (Nat.lt_of_lt_of_le (Heap.lt_size hob) hT))]
    exact (hf b hb).1
  done := by
    intro X hP hw hK hc i pins s σ H E I hf st hg
    subst hP hw hK
    have Wa := W X.A (I.ok.hd hc)
    have hg' : i = n := hg
    subst hg'
    exact Wa.stops s _ E st fun h' tk hk htk => I.turnedL (t' := tk) (ch := fp) (fun b o hb q => hk b o (fun z => hb (Wa.sub b z)) q) hf
  self := sf
def chS (z : Str) (i : Nat) : Option V := (z.cps.toList[i]?).map fun c => .str ⟨#[c]⟩
theorem uZ' {z : Str} {i : Nat} {u : Value} (h : ∃ c t, z.cps[i]? = some c /\ u = .str ⟨#[c]⟩ t) : ∃ x, chS z i = some x /\ RelV x u := by
  obtain ⟨c, t, hc, rfl⟩ := h
  refine ⟨.str ⟨#[c]⟩, ?_, ⟨t, rfl⟩⟩
  unfold chS
  rw [show z.cps.toList[i]? = some c by rw [<- hc]; simp]
  rfl
def y3' (ta : TA) : TI := fun σ H R => ta σ H fun vs H1 => ∃ x y : Str, vs = [.str x, .str y] /\ R (ItP (chS x) (chS y) (min x.cps.size y.cps.size)) H1
theorem vV' {X : Cx} {e e2 : Expr} {ta : TA} {p pos tpos : Pos} {elts : List Expr} {kk} (hg : Gl X "zip") (hm : X.mg "zip" = none) (ha : PA X [e, e2] ta)
    (hs : starEach [e, e2] X.env = (false, eval e X.env) :: starEach [e2] X.env := by rfl) (hpl : (backTo pos (starEach [e2] X.env)).any (·.1) = false := by rfl) :
    PI X (.Tuple elts kk tpos) (.Call (.Name "zip" p) [e, e2] [] pos) (y3' ta) := by
  refine ⟨fun pins s σ H R I h => ?_⟩
  refine Call_ (ld_blt I hg hm PyProof.Rows.boot_zip (PyProof.Rows.callWith_type1 (thn (ha.run pos pins s σ H _ I h) fun us s1 ⟨vs, H1, I1, r1, q1⟩ => ?_) hs hpl))
  obtain ⟨x, y, ex, q⟩ := q1
  subst ex
  cases r1 with
  | cons r rr =>
    cases rr with
    | cons r' rr =>
      cases rr
      obtain ⟨t1, rfl⟩ := r
      obtain ⟨t2, rfl⟩ := r'
      refine zip_begins2 (begins_text x _) (begins_text y _) True.intro True.intro fun h' hz hTI hTO h1 h2 hsz hk => wpAny_pyIter_zip hz ?_
      have I2 : Inv X pins σ H1 { s1 with heap := h' } := I1.kept (t' := s1.toks) hk
      have S2 : ZipSep2 (s1.heap.objs.size + 4) (s1.heap.objs.size + 2) (s1.heap.objs.size + 3) s1.heap.objs.size (s1.heap.objs.size + 1) [s1.heap.objs.size] [s1.heap.objs.size + 1] := by
        constructor <;> simp
      refine ⟨s1.heap.objs.size + 4, (s1.heap.objs.size + 4) :: (s1.heap.objs.size + 2) :: (s1.heap.objs.size + 3) :: ([s1.heap.objs.size] ++ [s1.heap.objs.size + 1]), _, _, H1, rfl, I2,
        qn' (fun A hA => GoesN.zip2 S2 (Draws.text (A := A.in1) hA _ x _) (Draws.text (A := A.in1) hA _ y _)) (by simp) (fun A i s Q E st h => wpAny_pyIter_zip st.1 h) (fun i h st b hb => ?_) (fun i u _ hu => uZ' hu) (fun i u _ hu => uZ' hu), ⟨hz, hTI, ⟨_, _, hTO⟩, ⟨_, h1, rfl, rfl⟩, ⟨_, h2, rfl, rfl⟩⟩, fun c hcm => ?_, q⟩
      . obtain ⟨hz, hTI, ⟨a1, a2, hTO⟩, ⟨o1, e1, _, d1⟩, ⟨o2, e2, _, d2⟩⟩ := st
        have e' : b = s1.heap.objs.size + 4 \/ b = s1.heap.objs.size + 2 \/ b = s1.heap.objs.size + 3 \/ b = s1.heap.objs.size \/ b = s1.heap.objs.size + 1 := by simpa using hb
        rcases e' with z | z | z | z | z
        . rw [z]; exact ⟨_, hz, fun v q => nomatch q⟩
        . rw [z]; exact ⟨_, hTI, fun v q => nomatch q⟩
        . rw [z]; exact ⟨_, hTO, fun v q => nomatch q⟩
        . rw [z]; exact ⟨o1, e1, fun v q => by rw [d1] at q; cases q⟩
        . rw [z]; exact ⟨o2, e2, fun v q => by rw [d2] at q; cases q⟩
      . have e' : c = s1.heap.objs.size + 4 \/ c = s1.heap.objs.size + 2 \/ c = s1.heap.objs.size + 3 \/ c = s1.heap.objs.size \/ c = s1.heap.objs.size + 1 := by simpa using hcm
        have hle : s1.heap.objs.size <= c := by
          rcases e' with z | z | z | z | z
          . rw [z]; exact Nat.le_add_right _ _
          . rw [z]; exact Nat.le_add_right _ _
          . rw [z]; exact Nat.le_add_right _ _
          . rw [z]; exact Nat.le_refl _
          . rw [z]; exact Nat.le_add_right _ _
        exact I1.fpOk hle (I1.hok.fresh hle)
end S
namespace S
open PySem PySem.Spec PyProof.Rows L2
section
variable {X : Cx} {K : PySem.W.Frag} {to te : TE} {o e : Expr} {H : Hp} {Q : VK}
def qY' : V -> List V -> Hp -> VK -> Prop := fun x xs H Q => ∃ a b i rest, x = .str a /\ xs = [.str b] /\ Builtin.Str.occurrences a b 0 a.length 1 = i :: rest /\ Q (.int (i : Nat)) H
theorem kr' : MtR X "str.index" qY' := by
  intro pins s σ H x xs v us Q I rx rs h
  obtain ⟨a, b, i, rest, rfl, rfl, ho, h⟩ := h
  obtain ⟨t, rfl⟩ := rx
  cases rs with
  | cons r1 rs =>
    cases rs
    obtain ⟨u, rfl⟩ := r1
    exact PySem.call_gives F.slot_str_index (typeIs_str _ _ _) F.entry_str_index (F.args_str_index_2 _ _) (gives_str_index a b t u i rest ho) ⟨.int (i : Nat), H, I.tok (s.toks + 1), ⟨_, rfl⟩, h⟩
def yo' (K : PySem.W.Frag) : V -> List V -> Hp -> VK -> Prop := fun x xs H Q => ∃ a p, ∃ ys : List Str, x = .str a /\ xs = [.ref p] /\ (SqL K H p (ys.map V.str) \/ SqT K H p (ys.map V.str)) ∧
    (ys.map (·.length)).sum + ys.length * a.length <= 16777216 /\ Q (.str (Txt.join a ys)) H
def chv (c : Nat) : V := .str ⟨#[c]⟩
end
end S
namespace S
open PySem PySem.Spec PyProof.Rows L2
end S
namespace S
open PySem PySem.Spec PyProof.Rows L2
theorem fq' : ∀ (vs : List Value) (l : List Nat), vs.length = l.length -> (∀ (j : Nat) (v : Value), vs[j]? = some v -> ∃ c u, l[j]? = some c /\ v = .str ⟨#[c]⟩ u) -> StrsAre vs (l.map fun c => ⟨#[c]⟩)
  | [], [], _, _ => .nil
  | [], _ :: _, h, _ => by simp at h
  | _ :: _, [], h, _ => by simp at h
  | v :: vs, c :: l, h, hh => by
    obtain ⟨d, u, h1, rfl⟩ := hh 0 v rfl
    cases h1
    exact .cons _ _ (fq' vs l (by simpa using h) fun j w hw => by
      have := hh (j + 1) w (by simpa using hw)
      simpa using this)
theorem lq' {prog : Program} {w : World} {A : Around} {E : Value -> Shared -> Prop} {s : Shared} {x : Str} {t : Tok} {Q : Value -> Shared -> Prop} (hh : A.handled = none) (h64 : x.cps.size < 64)
    (h : ∀ (h' h'' : Heap) (tk : Nat) (out : List Value) (ss : List Str), (∀ b o, s.heap.get? b = some o -> h'.get? b = some o) -> (∀ b o, h'.get? b = some o -> h''.get? b = some o) -> (∃ e, h''.get? h'.objs.size = some (seqObj "list" out.toArray e)) →
      StrsAre out ss -> ss.Perm (x.cps.toList.map fun c => ⟨#[c]⟩) -> sortedS ss = true -> Q (.ref h'.objs.size) { s with heap := h'', toks := tk }) :
    wpAny (model prog w) A (call (.builtin "sorted") [.str x t]) Q E s := by
  refine Calls.call_function_entry kind_sorted plain_sorted entry_sorted (args_sorted1 _) ?_
  unfold Builtin.«sorted»
  refine wpAny_bind (m := checkCount "sorted" 1 1 _) (wpAny_pure ?_)
  refine wpAny_bind (m := collect (.str x t)) (wpAny_collect_str (A := A.in1) hh x t (fun s' acc hk hg hd ho hacc => ?_) (by rw [sizeLine_eq]; omega))
  obtain ⟨hp, g, d, tk, os⟩ := s
  obtain ⟨hp', g', d', tk', os'⟩ := s'
  obtain rfl : g' = g := hg
  obtain rfl : d' = d := hd
  obtain rfl : os' = os := ho
  have hS : StrsAre acc.toList (x.cps.toList.map fun c => ⟨#[c]⟩) := by
    refine fq' _ _ (by rw [Array.length_toList, Array.length_toList]; exact hacc.1) fun j v hv => ?_
    obtain ⟨c, u, h1, h2⟩ := hacc.2 j v (by simpa using hv)
    exact ⟨c, u, by rw [<- h1]; simp, h2⟩
  have hl : acc.toList.length < 64 := by rw [Array.length_toList, hacc.1]; exact h64
  refine wpAny_bind (wpAny_newList ?_)
  have hoL : (hp'.push (seqObj "list" acc.toList.toArray 0)).get? hp'.objs.size = some (seqObj "list" acc.toList.toArray 0) := Heap.get?_push_size _ rfl
  refine wpAny_bind (wpAny_holding (wpAny_call_entry slot_list_sort ⟨_, hoL, rfl⟩ entry_list_sort (list_sort_treeK strKind_oneLt hoL hS.keysOf (fun v₁ v₂ rest e => keyKind_strs (by rw [<- e]; exact hS)) hl fun st' a1 a2 => ⟨_, rfl, ?_⟩) (args_list_sort _)))
  obtain ⟨ss', h1, h2, h3⟩ := sorted_out_str hS a1 a2
  refine wpAny_pure ⟨_, rfl, h hp' _ tk' _ ss' hk (fun b o hb => ?_) ?_ h1 h2 h3⟩
  . have hlt := Heap.lt_size hb
    rw [sortedHeap_old (Nat.ne_of_lt hlt) (by rw [size_push']; exact Nat.lt_succ_of_lt hlt)]
    exact Heap.get?_push_of_some _ hb
  . obtain ⟨e, he⟩ := sortedHeap_at (out := (arrOf st').map (·.2)) hoL
    exact ⟨e, by rw [he]⟩
def kc' : List V -> Hp -> VK -> Prop := fun vs H Q => ∃ x : Str, vs = [V.str x] /\ x.length < 64 /\ ∀ (ys : List Str) (p : Addr) (H' : Hp), ys.Perm (x.cps.toList.map fun c => ⟨#[c]⟩) -> sortedS ys = true -> H p = none -> Same H H' -> H' p = some (.lst (ys.map V.str)) -> Q (.ref p) H'
theorem l6' {X : Cx} (hc : X.calm = true) : CallR X (.builtin "sorted") kc' := by
  intro pins s σ H vs us Q I r h
  obtain ⟨x, rfl, h64, q⟩ := h
  cases r with
  | cons r rr =>
    cases rr
    obtain ⟨t, rfl⟩ := r
    refine lq' (I.ok.hd hc) h64 fun h' h'' tk out ss hk hk2 ho h1 h2 h3 => ?_
    obtain ⟨e, he⟩ := ho
    have I1 : Inv X pins σ H { s with heap := h' } := I.kept (t' := s.toks) hk
    have hlen : (ss.map V.str).length <= sizeLine := by
      rw [List.length_map, h2.length_eq, List.length_map, Array.length_toList]
      exact small64 h64
    have I2 : Inv X pins σ (upd H h'.objs.size (.lst (ss.map V.str))) { s with heap := h'', toks := tk } :=
      I1.laid (t' := tk) (fun b u hb => hk2 b u hb) (Nat.le_refl _) ⟨hlen, out, e, vals_of_strs h1, he⟩
    have hn : H h'.objs.size = none := I1.hok.fresh (Nat.le_refl _)
    exact ⟨.ref _, _, I2, rfl, q ss _ _ h2 h3 hn (Same.upd hn) upd_same⟩
section
variable {K : PySem.W.Frag} {H : Hp} {Q : VK} {σ : St}
end
theorem vW' {X : Cx} {tg iter : Expr} {w1 w2 : TI} (h1 : PI X tg iter w1) (h2 : PI X tg iter w2) : PI X tg iter (fun σ H R => w1 σ H R \/ w2 σ H R) :=
  ⟨fun pins s σ H R I h => h.elim (h1.run pins s σ H R I) (h2.run pins s σ H R I)⟩
def y2' (K : PySem.W.Frag) (ta : TA) : TI := fun σ H R => y3' ta σ H R \/ RZ.iZipA K ta σ H R
theorem vU' {X : Cx} {e e2 : Expr} {ta : TA} {p pos tpos : Pos} {elts : List Expr} {kk} (hg : Gl X "zip") (hm : X.mg "zip" = none) (ha : PA X [e, e2] ta)
    (hs : starEach [e, e2] X.env = (false, eval e X.env) :: starEach [e2] X.env := by rfl) (hpl : (backTo pos (starEach [e2] X.env)).any (·.1) = false := by rfl) :
    PI X (.Tuple elts kk tpos) (.Call (.Name "zip" p) [e, e2] [] pos) (y2' X.K ta) := vW' (vV' hg hm ha hs hpl) (RZ.pi_zipA hg hm ha hs hpl)
end S
namespace S
open PySem PySem.Spec PyProof.Rows L2
section
variable {K : PySem.W.Frag} {σ : St} {H : Hp} {Q : VK} {te ta tv : TE} {f : Str} {v y : V} {a C dx : Addr} {fs : List (Str × V)} {D : Ends} {R : Hp -> Prop}
end
def Bg' (C : Addr) (m : Str) (sp : Sp) (E : XK) (σ : St) (t : TA) : V -> Hp -> VK -> Prop := fun x H Q => ∃ a dx fs, x = .ref a /\ H a = some (.ins C dx fs) /\ fs.lookup m = none /\ t σ H fun vs H2 => sp (x :: vs) H2 Q E
def ur' (C : Addr) (sp : Sp) (E : St -> XK) (t : TA) : TE := fun σ H Q => t σ H fun vs H1 => ∀ x dx, H1 x = none -> H1 dx = none -> dx ≠ x -> sp (.ref x :: vs) (upd (upd H1 dx (.own x)) x (.ins C dx [])) (fun v H2 => v = .non /\ Q (.ref x) H2) (E σ)
section
variable {K : PySem.W.Frag} {σ : St} {H : Hp} {Q : VK} {ta : TE} {t : TA} {C a dx : Addr} {m : Str} {sp : Sp} {E : St -> XK} {E' : XK} {fs : List (Str × V)} {vs : List V}
end
section
variable {X : Cx} {k : Nat} {C : Addr} {x m : Str} {ps : List Str} {sp : Sp} {p pos apos : Pos} {e o : Expr} {es : List Expr} {ta : TE} {t : TA} {W : WX} {CX : CXT} {f : Addr} {fd : FuncData} {E : St -> XK}
end
end S
namespace S
open PySem PySem.Spec PyProof.Rows L2
def signs (x : Str) : List V := x.cps.toList.map fun c => V.str ⟨#[c]⟩
theorem h9' {x : Str} {acc : Array Value} (h : ItemsOf (SignAt x) acc x.cps.size) : Vals (signs x) acc.toList := by
  have hS : StrsAre acc.toList (x.cps.toList.map fun c => ⟨#[c]⟩) := by
    refine fq' _ _ (by rw [Array.length_toList, Array.length_toList]; exact h.1) fun j v hv => ?_
    obtain ⟨c, u, h1, h2⟩ := h.2 j v (by simpa using hv)
    exact ⟨c, u, by rw [<- h1]; simp, h2⟩
  have := vals_of_strs hS
  rw [List.map_map] at this
  exact this
def qX' : List V -> Hp -> VK -> Prop := fun vs H Q => ∃ x : Str, vs = [V.str x] /\ x.length <= sizeLine /\ ∀ p, H p = none -> Q (.ref p) (upd H p (.lst (signs x)))
theorem l8' {X : Cx} (hc : X.calm = true) : CallR X (.type "list") qX' := by
  intro pins s σ H vs us Q I r h
  obtain ⟨x, rfl, hl, q⟩ := h
  cases r with
  | cons r rr =>
    cases rr
    obtain ⟨t, rfl⟩ := r
    refine call_list_str (I.ok.hd hc) x t (fun h' tk acc c' hk ho hacc => ?_) hl
    have hlen : (signs x).length <= sizeLine := by
      unfold signs
      rw [List.length_map, Array.length_toList]
      exact hl
    have I2 : Inv X pins σ (upd H s.heap.objs.size (.lst (signs x))) { s with heap := h', toks := tk } :=
      I.laid (t' := tk) (fun b u hb => hk b u hb) (Nat.le_refl _) ⟨hlen, acc.toList, c', h9' hacc, by rw [ho]⟩
    exact ⟨.ref _, _, I2, rfl, q _ (I.hok.fresh (Nat.le_refl _))⟩
def uA' : List V -> Hp -> VK -> Prop := fun vs H Q => ∃ x : Str, vs = [V.str x] /\ x.length <= sizeLine /\ ∀ p, H p = none -> Q (.ref p) (upd H p (.tup (signs x)))
theorem oR' {X : Cx} (hc : X.calm = true) : CallR X (.type "tuple") uA' := by
  intro pins s σ H vs us Q I r h
  obtain ⟨x, rfl, hl, q⟩ := h
  cases r with
  | cons r rr =>
    cases rr
    obtain ⟨t, rfl⟩ := r
    refine call_tuple_str (I.ok.hd hc) x t (fun h' tk acc hk hacc => ?_) hl
    have hlen : (signs x).length <= sizeLine := by
      unfold signs
      rw [List.length_map, Array.length_toList]
      exact hl
    have I1 : Inv X pins σ H { s with heap := h' } := I.kept (t' := s.toks) hk
    have I2 : Inv X pins σ (upd H h'.objs.size (.tup (signs x))) { s with heap := h'.push { cls := .type "tuple", data := .seq acc }, toks := tk } :=
      I1.laid (t' := tk) (fun b u hb => Heap.get?_push_of_some _ hb) (Nat.le_refl _) ⟨hlen, acc.toList, h9' hacc, ⟨_, Heap.get?_push_size _ rfl, rfl, 0, by simp⟩⟩
    exact ⟨.ref _, _, I2, rfl, q _ (I1.hok.fresh (Nat.le_refl _))⟩
def qW' (K : PySem.W.Frag) : List V -> Hp -> VK -> Prop := fun vs H Q => uD' K vs H Q \/ qX' vs H Q
theorem fM' {X : Cx} (hc : X.calm = true) : CallR X (.type "list") (qW' X.K) := oT'.or (l8' hc)
def qS' (K : PySem.W.Frag) : List V -> Hp -> VK -> Prop := fun vs H Q => qT' K vs H Q \/ uA' vs H Q
theorem aO' {X : Cx} (hc : X.calm = true) : CallR X (.type "tuple") (qS' X.K) := l7'.or (oR' hc)
end S
namespace S
open PySem PySem.Spec PyProof.Rows L2
structure RoomG (k : Nat) (A : Around) : Prop where
  r : Room k A
  g : A.guards = some []
theorem RoomG.mono {j k : Nat} {A : Around} (h : RoomG k A) (l : j <= k) : RoomG j A := ⟨h.r.mono l, h.g⟩
theorem RoomG.units {k : Nat} {A : Around} (h : RoomG k A) : A.units + 64 < cLine := h.r.units
structure FnG (P : Program) (w : World) (K : PySem.W.Frag) (mg : Str -> Option Value) (base : Heap) (CX : CXT) (k : Nat) (f : Addr) (fd : FuncData) (ps : List Str) (sp : Sp) : Prop where
  len : ∀ vs H Q E, sp vs H Q E -> vs.length = ps.length
  run : ∀ (A : Around) (outer : List Env) (s : Shared) (H : Hp) (args : Args) (us : List Value) (vs : List V) (Q : VK) (E : XK), RoomG k A -> Env0 P w K mg base A outer s H →
    BindsTo s fd args (ps.zip us) -> Vals vs us -> sp vs H Q E -> codeAny (model P w) A (.call (.ref f) args) (CR CX outer P w H s Q E) s
theorem FnG.of {P : Program} {w : World} {K : PySem.W.Frag} {mg : Str -> Option Value} {base : Heap} {CX : CXT} {k : Nat} {f : Addr} {fd : FuncData} {ps : List Str} {sp : Sp} (F : FnOk P w K mg base CX k f fd ps sp) : FnG P w K mg base CX k f fd ps sp :=
  ⟨F.len, fun A o s H as us vs Q E h => F.run A o s H as us vs Q E h.r⟩
section
variable {P : Program} {w : World} {K : PySem.W.Frag} {mg : Str -> Option Value} {base : Heap} {CX : CXT} {f : Addr} {fd : FuncData}
theorem y5' {N ps : List Str} {scope : Scope} (S : FnScope N ps scope) (us : List Value) (n : Nat) : ∀ y ∈ ps.zip us,
    scope.names.lookup y.1 = some .local \/ (scope.names.lookup y.1 = some .cell /\ ((cellsFrom n scope.names []).lookup y.1).isSome = true) := by
  rintro ⟨nm, v⟩ hy
  have q := S.par nm (List.of_mem_zip hy).1
  exact q.imp id fun q => ⟨q, PySem.W.cellsFrom_some _ _ _ (.inl q)⟩
theorem wE' {x qual : Str} {params : Arguments} {body : List Stmt} {scope : Scope} {N ps : List Str} {k : Nat} {sp : Sp} (F : FunD K x qual params body scope [] [] f fd) (S : FnScope N ps scope)
    (len : ∀ vs H Q E, sp vs H Q E -> vs.length = ps.length)
    (hbody : ∀ (cdv oc : Value) (od : Option Addr) (osl : Array (Option Value)), K.lookup f = some ⟨oc, od, .func fd, osl⟩ -> fd.code = cdv -> PySem.W.codeIn K cdv qual = true -> ∀ (A : Around) (o : List Env) (s : Shared) (H : Hp) (vs : List V) (Q : VK) (E : XK), RoomG k (A.deeper (envOfC qual scope s.heap.objs.size f cdv)) -> sp vs H Q E →
      ∃ t, PSs (cxOf CX P w K mg base N qual scope f cdv A o s H E) body t /\ t { nx := fun _ H' => Q .non H', rt := Q } (start N vs) H) : FnG P w K mg base CX (k + 1) f fd ps sp := by
  obtain ⟨oc, od, dV, kV, doc, pm, an, cdv, ct, osl, rfl, lk, hcd, _, _⟩ := F.ex
  constructor
  . exact len
  intro A o s H args us vs Q E hg e0 hb r hsp
  have Ks : K.In s.heap := e0.mod.kin.keeps fun b u e => (e0.bs b u e).1
  have Ls : s.heap.NoLimit := e0.mod.nolimit.keeps fun b u e => (e0.bs b u e).1
  refine codeAny_call_function hg.r.depth (Ks _ _ lk) rfl S.co S.gen rfl (PySem.W.codeRec_of Ks hcd) (hb _ _ _ _ ?_)
  refine wpAny_newFunctionEnv_cells S.kind (y5' S us _) fun env he s1 z => ?_
  subst he
  refine ⟨Ls.keeps z.toInCall.keep, codeAny_func ?_⟩
  obtain ⟨t, pt, tq⟩ := hbody cdv oc od osl lk rfl hcd A o s H vs Q E ⟨hg.r.deeper _, hg.g⟩ hsp
  have J := inv_start (CX := CX) (E := E) S hg.r.hd e0 (len _ _ _ _ hsp) r z
  refine wpAny_mono (pt.run [] s1 (start N vs) H _ J tq) (fun fl s' q => ?_) fun _ _ q => q
  cases fl with
  | next =>
    obtain ⟨σ', H', I, q⟩ := q
    exact ⟨V.non, H', I.os, I.bare, I.base, I.hok, rfl, q⟩
  | ret u =>
    obtain ⟨v, σ', H', I, e, q⟩ := q
    exact ⟨v, H', I.os, I.bare, I.base, I.hok, e, q⟩
  | brk => exact (let ⟨_, _, _, z⟩ := q; z).elim
  | cont => exact (let ⟨_, _, _, z⟩ := q; z).elim
theorem rT' {X : Cx} {pins : List (Addr × Obj)} {σ : St} {H : Hp} {s s' : Shared} {Q : VK} {E : XK} (hx : PassesAt CX X σ E) (I : Inv X pins σ H s) : ∀ r : Result, CR CX X.stack X.prog X.w H s Q E r s' -> (match r with
    | .ok (.ret u) => EP X pins σ Q u s'
    | .ok _ => False
    | .error e => X.xe e s')
  | .error e, q => hx pins H s e s' I q
  | .ok (.ret u), q => I.after q
  | .ok .next, q => q
  | .ok .brk, q => q
  | .ok .cont, q => q
end
section
variable {X : Cx} {CX : CXT} {k : Nat} {f C : Addr} {fd : FuncData} {ps : List Str} {sp : Sp} {E : St -> XK} {x m : Str} {p pos apos : Pos} {e o : Expr} {es : List Expr} {ta : TE} {t : TA} {W : WX}
theorem iV' {pins : List (Addr × Obj)} {σ : St} {H : Hp} {s : Shared} {Q : VK} {us : List Value} {vs : List V} (F : FnG X.prog X.w X.K X.mg X.base CX k f fd ps sp) (hr : RoomG k X.A)
    (hb : Binds X.K fd ps []) (hx : PassesAt CX X σ (E σ)) (I : Inv X pins σ H s) (r : Vals vs us) (h : sp vs H Q (E σ)) : wpAny (model X.prog X.w) X.A (call (.ref f) us) (EP X pins σ Q) X.xe s := by
  have b := hb s us I.kIn (by rw [List.append_nil, <- r.length]; exact F.len _ _ _ _ h)
  rw [List.append_nil] at b
  refine wpAny_call (codeAny_mono (F.run X.A X.stack s H ⟨us, []⟩ us vs Q (E σ) hr I.env0 b r h) fun res s' q => ?_)
  have z := rT' hx I res q
  revert z
  cases res with
  | error e => exact id
  | ok fl => cases fl <;> exact id
def Og (P : Program) (w : World) (K : PySem.W.Frag) (mg : Str -> Option Value) (base : Heap) (k : Nat) (x : Str) (ps : List Str) (sp : Sp) : Prop :=
  ∃ fd, FnG P w K mg base (L2.CX P w) k (He.ga K x) fd ps sp /\ Binds K fd ps [] /\ PySem.W.keepIn K (.ref (He.ga K x)) = true /\ mg x = some (.ref (He.ga K x))
def OgM (P : Program) (w : World) (K : PySem.W.Frag) (mg : Str -> Option Value) (base : Heap) (k : Nat) (C : Addr) (m : Str) (ps : List Str) (sp : Sp) : Prop :=
  ∃ fd, FnG P w K mg base (L2.CX P w) k (He.ma K C m) fd ps sp /\ Binds K fd ps []
theorem s5' (F : Og X.prog X.w X.K X.mg X.base k x ps sp) (hr : RoomG k X.A) (hg : Gl X x) (tk : Takes X W) (ha : PA X (e :: es) t) (hdb : (x == ("__debug__" : Str)) = false := by decide)
    (he : starEach (e :: es) X.env = (false, eval e X.env) :: starEach es X.env := by rfl) (hpl : (backTo pos (starEach es X.env)).any (·.1) = false := by rfl) : PE X (.Call (.Name x p) (e :: es) [] pos) (tCallS sp (WE W) t) := by
  obtain ⟨fd, F, b, kp, hm⟩ := F
  refine ⟨fun pins s σ H Q I h => wpAny_Call_Name_kw (ld_glob I hg hm ?_ hdb)⟩
  refine PySem.W.callWith_K (h₀ := X.base) I.ok.mod.kin kp (thn (ha.run pos pins s σ H _ I h) fun us s1 ⟨vs, H1, I1, r, q⟩ => ?_) he hpl
  exact ⟨I1.kIn, iV' F hr b (passAt tk σ) I1 r q⟩
def jv' (K : PySem.W.Frag) (cs : List String) (m : Str) (g : Addr) : Prop := ∀ C ∈ cs, Cls K (He.ga K (Str.ofString C)) /\ Meth K (He.ga K (Str.ofString C)) m g
def qo' (K : PySem.W.Frag) (cs : List String) (m : Str) (sp : Sp) (E : St -> XK) (ta : TE) (t : TA) : TE := fun σ H Q => ta σ H fun x H1 => ∃ C, C ∈ cs /\ Bg' (He.ga K (Str.ofString C)) m sp (E σ) σ t x H1 Q
theorem s3' {pl : Sem Bool} {cs : List String} (he : PE X o ta) (F : OgM X.prog X.w X.K X.mg X.base k C m ps sp) (hr : RoomG k X.A) (hm : jv' X.K cs m (He.ma X.K C m)) (tk : Takes X W) (ha : PA X (e :: es) t)
    (hst : starEach (e :: es) X.env = (false, eval e X.env) :: starEach es X.env := by rfl) (hpl : (backTo pos (starEach es X.env)).any (·.1) = false := by rfl)
    (ht : eval (.Call (.Attribute o m apos) (e :: es) [] pos) X.env = (eval o X.env >>= fun ov => standAt apos.atName >>= fun _ => holding [ov] (getMethod ov m pl) >>= fun q =>
      callWith pos q.1 q.2 (backTo pos (starEach (e :: es) X.env)) (backToKw pos (keywordEach [] X.env))) := by rfl) :
    PE X (.Call (.Attribute o m apos) (e :: es) [] pos) (qo' X.K cs m sp (WE W) ta t) := by
  obtain ⟨fd, F, hb⟩ := F
  refine ⟨fun pins s σ H Q I h => PySem.W.methodCall_KW (pl := pl) (thn (he.run pins s σ H _ I h) fun u s1 ⟨x, H1, I1, rx, D, hD, a, dx, fs, ex, ea, l, q⟩ => ?_) ht⟩
  obtain ⟨c, hm⟩ := hm D hD
  subst ex
  cases (show u = Value.ref a from rx)
  refine getmeth_ok I1 ea c hm l (PySem.W.callWith_K (first := [.ref a]) (h₀ := X.base) I.ok.mod.kin hm.kp (thn (ha.run pos pins s1 σ H1 _ I1 q) fun us s2 ⟨vs, H2, I2, r, q2⟩ => ?_) hst hpl)
  exact ⟨I2.kIn, iV' (us := .ref a :: us) (vs := .ref a :: vs) F hr hb (passAt tk σ) I2 (.cons rfl r) q2⟩
theorem q9' {pl : Sem Bool} {cs : List String} (he : PE X o ta) (F : OgM X.prog X.w X.K X.mg X.base k C m ps sp) (hr : RoomG k X.A) (hm : jv' X.K cs m (He.ma X.K C m)) (tk : Takes X W)
    (ht : eval (.Call (.Attribute o m apos) [] [] pos) X.env = (eval o X.env >>= fun ov => standAt apos.atName >>= fun _ => holding [ov] (getMethod ov m pl) >>= fun q =>
      callWith pos q.1 q.2 (backTo pos (starEach [] X.env)) (backToKw pos (keywordEach [] X.env))) := by rfl) :
    PE X (.Call (.Attribute o m apos) [] [] pos) (qo' X.K cs m sp (WE W) ta tNil) := by
  obtain ⟨fd, F, hb⟩ := F
  refine ⟨fun pins s σ H Q I h => PySem.W.methodCall_KW (pl := pl) (thn (he.run pins s σ H _ I h) fun u s1 ⟨x, H1, I1, rx, D, hD, a, dx, fs, ex, ea, l, q⟩ => ?_) ht⟩
  obtain ⟨c, hm⟩ := hm D hD
  subst ex
  cases (show u = Value.ref a from rx)
  exact getmeth_ok I1 ea c hm l (PySem.W.callWith_K0 (first := [.ref a]) I1.kIn hm.kp (iV' (us := [.ref a]) (vs := [.ref a]) F hr hb (passAt tk σ) I1 (.cons rfl .nil) q))
theorem on' {A : Around} {C : Addr} {us : List Value} {kw : List (Str × Value)} (h : A.guards = some []) : (A.under (.builtin "type.__call__" ⟨.ref C :: us, kw⟩)).guards = some [] := by
  simp [Around.under, Code.guards, Code.isGuard, guardIds, pushGuards, h]
theorem s4' (F : OgM X.prog X.w X.K X.mg X.base k C "__init__" ps sp) (hr : RoomG (k + 1) X.A) (hg : Gl X x) (M : Mk X.K C (He.ma X.K C "__init__")) (hm : X.mg x = some (.ref C)) (tk : Takes X W)
    (ha : PA X (e :: es) t) (hdb : (x == ("__debug__" : Str)) = false := by decide) (he : starEach (e :: es) X.env = (false, eval e X.env) :: starEach es X.env := by rfl) (hpl : (backTo pos (starEach es X.env)).any (·.1) = false := by rfl) :
    PE X (.Call (.Name x p) (e :: es) [] pos) (ur' C sp (WE W) t) := by
  obtain ⟨fd, F, hb⟩ := F
  refine ⟨fun pins s σ H Q I h => wpAny_Call_Name_kw (ld_glob I hg hm ?_ hdb)⟩
  refine PySem.W.callWith_K (h₀ := X.base) I.ok.mod.kin M.kp (thn (ha.run pos pins s σ H _ I h) fun us s1 ⟨vs, H1, I1, r, q⟩ => ?_) he hpl
  have fr := fun n (l : s1.heap.objs.size <= n) => I1.hok.fresh l
  have q := q (s1.heap.objs.size + 1) s1.heap.objs.size (fr _ (Nat.le_succ _)) (fr _ (Nat.le_refl _)) (Nat.ne_of_lt (Nat.lt_succ_self _))
  have J := Inv.made (C := C) I1
  have b := hb (s := _) (us := Value.ref (s1.heap.objs.size + 1) :: us) J.kIn (by
    rw [List.append_nil, <- F.len _ _ _ _ q]
    simp [r.length])
  rw [List.append_nil] at b
  refine ⟨I1.kIn, wpAny_call (make_map (f := He.ma X.K C "__init__") I1.kIn M.makes M.init (beq_iff_eq.mp M.fn) (codeAny_mono (F.run _ X.stack _ _ ⟨Value.ref (s1.heap.objs.size + 1) :: us, []⟩ _ _ _ (WE W σ)
    (k := k) ⟨hr.r.make C _ [], on' hr.g⟩ (J.env0.make C _ []) b (Paired.cons (show L2.RelV (.ref (s1.heap.objs.size + 1)) (.ref (s1.heap.objs.size + 1)) from rfl) r) q) fun res s' q' => ?_))⟩
  have z := rT' (passAt tk σ) J res q'
  revert z
  cases res with
  | error e => exact id
  | ok fl =>
    cases fl with
    | ret u =>
      rintro ⟨v, H', I3, rv, ev, q3⟩
      subst ev
      exact ⟨rv, ⟨V.ref (s1.heap.objs.size + 1), H', I3, rfl, q3⟩⟩
    | next => exact id
    | brk => exact id
    | cont => exact id
end
theorem oQ' {P : Program} {w : World} {CX : CXT} {H : Hp} {s s' : Shared} (hO : Only H) (ok : HOk P w H s.heap) (hCX : ∀ e s', CX [] H s (fun _ _ _ => False) e s' -> False) : ∀ res : Result,
    CR CX [] P w H s (fun v _ => v = .bl true) (fun _ _ _ => False) res s' -> res = .ok (.ret (.bool true)) /\ OldK s.heap s'.heap /\ s'.os = s.os /\ AllBare s'.gens
  | .error e, q => (hCX e s' q).elim
  | .ok .next, q => False.elim q
  | .ok .brk, q => False.elim q
  | .ok .cont, q => False.elim q
  | .ok (.ret u), ⟨v, H', os, bare, un, ok', rv, q⟩ => by
    have q : v = .bl true := q
    rw [q] at rv
    cases (show u = Value.bool true from rv)
    refine ⟨rfl, OldK.of_keep fun b o e => ?_, os, bare⟩
    rcases hO b with z | ⟨ob, xs, z⟩
    . exact un.keep b o e z (List.not_mem_nil) (List.not_mem_nil)
    . have e1 := (ok b _ z).1
      have e2 := (ok' b _ (un.frzs b ob _ z)).1
      rw [e] at e1
      cases e1
      exact e2
theorem ky' {P : Program} {w : World} {K : PySem.W.Frag} {mg mb : Str -> Option Value} {CX : CXT} {k : Nat} {fa a : Addr} {fd : FuncData} {x : Str} {sp : Sp} {s : Shared} {vs : List Value} {n0 : Nat} {H : Hp}
    (KX : K.In s.heap) (n1 : s.heap.Ns mainGlobals mg) (n2 : s.heap.Ns builtinsNs mb) (n3 : ∀ x : Str, x ≠ "__name__" -> mb x = bootBuiltins x) (lim : s.heap.NoLimit) (hg : s.gens = #[])
    (ha : s.heap.get? a = some { cls := .type "list", data := .seq vs.toArray n0 }) (hr : Room k callerA) (F : ∀ base : Heap, K.In base -> base.Ns mainGlobals mg -> FnG P w K mg base CX k fa fd [x] sp)
    (hbind : ∀ (s : Shared) (u : Value), BindsTo s fd ⟨[u], []⟩ [(x, u)]) (hO : Only H) (hs : sp [.ref a] H (fun v _ => v = .bl true) fun _ _ _ => False) (hCX : ∀ e s', CX [] H s (fun _ _ _ => False) e s' -> False)
    (ok : HOk P w H s.heap) (one : ∀ b u, H b = some u -> b = a) (out : H a ≠ none -> K.lookup a = none) :
    codeAny (model P w) callerA (.call (.ref fa) ⟨[.ref a], []⟩) (fun r s' => r = .ok (.ret (.bool true)) /\ OldK s.heap s'.heap /\ s'.os = s.os /\ AllBare s'.gens) s := by
  -- an object that is no list of the script stands in the base
  have apart : ∀ {b : Addr} {o : Obj}, s.heap.get? b = some o -> (∀ l n, o.data ≠ .seq l n) -> H b = none := by
    intro b o e d
    cases q : H b with
    | none => rfl
    | some u =>
      have e' := one b u q
      rw [e', ha] at e
      cases e
      exact absurd rfl (d _ _)
  have keep : ∀ {b : Addr} {m : Str -> Option Value}, s.heap.Ns b m -> (hidT s.heap H).Ns b m := by
    rintro b m ⟨o, es, ep, e, d, r⟩
    exact ⟨o, es, ep, hidT_get e (apart e fun l n z => by rw [d] at z; cases z), d, r⟩
  have Kb : K.In (hidT s.heap H) := by
    intro b o e
    refine hidT_get (KX b o e) ?_
    cases q : H b with
    | none => rfl
    | some u =>
      have e' := one b u q
      subst e'
      rw [out (by rw [q]; exact fun z => nomatch z)] at e
      cases e
  have M : Mod K mg (hidT s.heap H) := { kin := Kb, glob := keep n1, blt := ⟨mb, keep n2, n3⟩, nolimit := (let ⟨m, q1, q2⟩ := lim; ⟨m, keep q1, q2⟩) }
  have e0 : Env0 P w K mg (hidT s.heap H) callerA [] s H := { frames := rfl, mod := M, bs := (fun b o e => of_hidT e), bsz := Nat.le_of_eq (hidT_size _ _), funs := trivial, frf := (fun b z => absurd z List.not_mem_nil), hok := ok, bare := .of_eq hg }
  exact codeAny_mono ((F _ Kb (keep n1)).run callerA [] s H ⟨[.ref a], []⟩ [.ref a] [.ref a] _ _ ⟨hr, rfl⟩ e0 (hbind s (.ref a)) (.cons rfl .nil) hs) fun r s' q => oQ' hO ok hCX r q
theorem rF' {P : Program} {w : World} {K : PySem.W.Frag} {mg mb : Str -> Option Value} {CX : CXT} {k : Nat} {fa a : Addr} {fd : FuncData} {x : Str} {sp : Sp} {s : Shared} {vs : List Value} {ns : List Int}
    (KX : K.In s.heap) (n1 : s.heap.Ns mainGlobals mg) (n2 : s.heap.Ns builtinsNs mb) (n3 : ∀ x : Str, x ≠ "__name__" -> mb x = bootBuiltins x) (lim : s.heap.NoLimit) (hg : s.gens = #[])
    (ha : s.heap.get? a = some { cls := .type "list", data := .seq vs.toArray }) (hi : IntsAre vs ns) (hl : ns.length <= sizeLine) (hr : Room k callerA)
    (F : ∀ base : Heap, K.In base -> base.Ns mainGlobals mg -> FnG P w K mg base CX k fa fd [x] sp) (hbind : ∀ (s : Shared) (u : Value), BindsTo s fd ⟨[u], []⟩ [(x, u)])
    (hsp : ∀ H : Hp, Only H -> SqL K H a (ns.map V.int) -> sp [.ref a] H (fun v _ => v = .bl true) fun _ _ _ => False) (hCX : ∀ H e s', CX [] H s (fun _ _ _ => False) e s' -> False) :
    codeAny (model P w) callerA (.call (.ref fa) ⟨[.ref a], []⟩) (fun r s' => r = .ok (.ret (.bool true)) /\ OldK s.heap s'.heap /\ s'.os = s.os /\ AllBare s'.gens) s := by
  have rv := vals_ints hi
  have zl : (vs.toArray).size <= sizeLine := by rw [List.size_toArray, hi.length]; exact hl
  rcases hk : K.lookup a with _ | o
  . -- the script alone is tracked
    let H : Hp := fun b => if b = a then some (.frz { cls := .type "list", data := .seq vs.toArray } (.lst (ns.map V.int))) else none
    have Ha : H a = some (.frz { cls := .type "list", data := .seq vs.toArray } (.lst (ns.map V.int))) := if_pos rfl
    have Hb : ∀ b u, H b = some u -> b = a := fun b u z => Classical.byContradiction fun nb => by rw [show H b = none from if_neg nb] at z; cases z
    have hO : Only H := fun b => (Decidable.em (b = a)).elim (fun e => .inr ⟨_, _, if_pos e⟩) fun e => .inl (if_neg e)
    refine ky' KX n1 n2 n3 lim hg ha hr F hbind hO (hsp H hO (.inl (.inr ⟨_, Ha⟩))) (hCX H) (fun b u z => ?_) Hb fun _ => hk
    have eb := Hb b u z
    subst eb
    rw [Ha] at z
    cases z
    exact ⟨ha, by rw [List.length_map]; exact hl, vs, _, rv, ha⟩
  . -- it is one of the module's own
    have e := KX a o hk
    rw [ha] at e
    cases e
    let H : Hp := fun _ => none
    have hO : Only H := fun _ => .inl rfl
    refine ky' KX n1 n2 n3 lim hg ha hr F hbind hO (hsp H hO (.inr ⟨_, vs.toArray, _, hk, rfl, rfl, rfl, zl, rv⟩)) (hCX H) (fun b u z => nomatch z) (fun b u z => nomatch z) fun z => absurd rfl z
theorem sv' {l : PySem.W.OpenLaw} {n k : Nat} {q : Program} {loose : List Str} {XP : (Str -> Option Value) -> Heap -> Prop} {YP : World -> Heap -> Prop} {d : DefRec} {CX : CXT} {x : Str}
    (hn : l.most = some n) (hn2 : n <= sizeLine) (hdf : d.params.defaults = []) (hr : Room k callerA)
    (F : ∀ (w : World) (mg : Str -> Option Value) (fa : Addr) (h : Heap), YP w h -> h.Ns mainGlobals mg -> mg d.name = some (.ref fa) -> ∃ (K : PySem.W.Frag) (fd : FuncData) (sp : Sp), K.In h ∧
      (∀ (s : Shared) (u : Value), BindsTo s fd ⟨[u], []⟩ [(x, u)]) /\ (∀ (H : Hp) (a : Addr) (ns : List Int), ns.length <= n -> Only H -> SqL K H a (ns.map V.int) -> sp [.ref a] H (fun v _ => v = .bl true) fun _ _ _ => False) ∧
        ∀ base : Heap, K.In base -> base.Ns mainGlobals mg -> FnG l.prog w K mg base CX k fa fd [x] sp)
    (hCX : ∀ (H : Hp) (s : Shared) (e : Value) (s' : Shared), CX [] H s (fun _ _ _ => False) e s' -> False) : PySem.W.WalkO q loose XP YP l.row.toRowW d [] (fun f vs => PySem.call f vs) :=
  Att.attach_call hn hdf fun w s₀ s₁ mg mb fa o pm cd doc a vs ns G Y ho hd hcd hmg hobj hints hlen hg => by
    obtain ⟨K, fd, sp, KX, hb, hsp, hF⟩ := F w mg fa _ Y G.T.g hmg
    exact rF' KX G.T.g G.T.b G.T.builtins G.T.nolimit hg hobj hints (Nat.le_trans hlen hn2) hr hF hb (fun H hO hS => hsp H a ns hlen hO hS) fun H e s' => hCX H s₁ e s'
theorem FnG.to0 {P : Program} {w : World} {K : PySem.W.Frag} {mg : Str -> Option Value} {base : Heap} {k : Nat} {f : Addr} {fd : FuncData} {ps : List Str} {sp : Sp} (F : FnG P w K mg base (L2.CX P w) k f fd ps sp) :
    FnG P w K mg base CX0 k f fd ps (fun vs H Q _ => sp vs H Q E0) := by
  refine ⟨fun vs H Q _ h => F.len vs H Q E0 h, fun A o s H args us vs Q _ hr he hb hv hs => codeAny_mono (F.run A o s H args us vs Q E0 hr he hb hv hs) fun r s' q => ?_⟩
  rcases r with e | fl
  . obtain ⟨_, _, _, _, _, _, _, _, _, _, _, _, z⟩ := q
    exact z.elim
  . cases fl <;> exact q
end S
namespace S
open PySem PySem.Spec PyProof.Rows L2
def sx (s : M.Tx) : Str := ⟨s.toArray⟩
theorem fV' (s : M.Tx) : (sx s).cps.toList = s := rfl
theorem cz' (s : M.Tx) : (sx s).length = s.length := by show s.toArray.size = _; simp
theorem vz' (z : Str) : sx z.cps.toList = z := by cases z; rfl
theorem ut' {a b : M.Tx} (h : sx a = sx b) : a = b := by have := congrArg (fun z : Str => z.cps.toList) h; exact this
theorem x3' (a b : M.Tx) : sx a ++ sx b = sx (a ++ b) := iM' (by rw [tY', fV', fV', fV'])
def okT (s : M.Tx) : Prop := (∀ c ∈ s, c < 1114112) /\ s.length <= M.dq'
def okK : Key -> Prop
  | .inl _ => True
  | .inr x => okT x.cps.toList
def le' (kvs : List (Key × V)) : Prop := ∀ p ∈ kvs, okK p.1
theorem le'.nil : le' [] := fun _ h => nomatch h
theorem le'.snoc {kvs : List (Key × V)} (h : le' kvs) {k : Key} {v : V} (hk : okK k) : le' (kvs ++ [(k, v)]) := fun p hp => by
  rcases List.mem_append.mp hp with hp | hp
  . exact h p hp
  . rw [List.mem_singleton.mp hp]; exact hk
theorem le'.fst {kvs kvs' : List (Key × V)} (h : le' kvs) (e : kvs'.map (·.1) = kvs.map (·.1)) : le' kvs' := fun p hp => by
  have : p.1 ∈ kvs.map (·.1) := by rw [<- e]; exact List.mem_map_of_mem hp
  obtain ⟨q, h1, h2⟩ := List.mem_map.mp this
  rw [<- h2]; exact h q h1
def kD : Key -> M.D
  | .inl i => .int i
  | .inr x => .str x.cps.toList
mutual
def py : M.D -> PyData
  | .bl b => .bool b
  | .int i => .int i
  | .str s => .str (sx s)
  | .tup ds => .tuple (pys ds)
  | .lst ds => .list (pys ds)
  | .dct ks ds => .dict ((pys ks).zip (pys ds))
  | _ => .none
def pys : List M.D -> List PyData
  | [] => []
  | d :: r => py d :: pys r
end
class Wd where
  P : Program
  w : World
  ts : List (Addr × Str)
structure CloD where
  f : Addr
  c : Addr
  q : Str
  ob : Obj
  ws : List V
  caps : List M.D
class Hot where
  hot : Option (Addr × Nat × Option Addr × M.Exc)
  clo : List (Nat × CloD)
abbrev cT' (cs : List (Nat × CloD)) : Hot := ⟨none, cs⟩
instance coldI : Hot := ⟨none, []⟩
def FnO (f : Addr) (ob : Obj) : HO := .ext fun h => h.get? f = some ob
variable [Wd]
mutual
def nk : M.D -> NestedKey
  | .bl b => .num (if b = true then 1 else 0)
  | .int i => .num i
  | .str s => .text (sx s)
  | .tup ds => .tup (nks ds)
  | _ => .none
def nks : List M.D -> List NestedKey
  | [] => []
  | d :: r => nk d :: nks r
end
def lfD : M.D -> Leaf
  | .bl b => .num (if b = true then 1 else 0)
  | .int i => .num i
  | .str s => .text (sx s)
  | _ => .none
def dcL (p : Addr) (kvs : List (Leaf × V)) : HO := .ext fun h => (p == sysModules) = false /\ kvs.length <= sizeLine /\ ∃ vs, KV kvs vs /\ h.DictOf (leafKind Wd.P Wd.w) p vs
abbrev o7' : NestedKey × Addr × V -> NestedKey × Addr × Value -> Prop := fun x y => x.1 = y.1 /\ x.2.1 = y.2.1 /\ RelV x.2.2 y.2.2
def dcN (p : Addr) (xs : List (NestedKey × Addr × V)) : HO := .ext fun h => (p == sysModules) = false /\ xs.length <= sizeLine /\ (xs.map (·.1)).Nodup /\ ∃ ys, Paired o7' xs ys ∧
  ∃ o es ep, h.get? p = some o /\ o.ExactDict /\ o.data = .dict es ep /\ es.toList = ys.map (entryOfKey (nestedKind Wd.P Wd.w))
structure LeafKeys (ks : List M.D) (ls : List Leaf) : Prop where
  e : ls = ks.map lfD
  s : ∀ d ∈ ks, M.sca d = true
structure NestKeys (ks : List M.D) (xs : List (NestedKey × Addr × V)) : Prop where
  e : xs.map (·.1) = ks.map nk
  s : ∀ d ∈ ks, M.kat d = true /\ M.dep d <= 8 /\ M.sca d = false
section
variable (K : PySem.W.Frag)
mutual
/-- v stands for d: what it stands on lies in F and never changes; T: where the world's objects stand -/
inductive Fz (F : Hp) (T : List Addr) : V -> M.D -> Prop
  | non : Fz F T .non .non
  | bl (b : Bool) : Fz F T (.bl b) (.bl b)
  | int (i : Int) : Fz F T (.int i) (.int i)
  | str {s : M.Tx} : okT s -> Fz F T (.str (sx s)) (.str s)
  | tup {a : Addr} {vs : List V} {ds : List M.D} : SqT K F a vs -> FzA F T vs ds -> Fz F T (.ref a) (.tup ds)
  | lst {a : Addr} {vs : List V} {ds : List M.D} : F a = some (.lst vs) -> FzA F T vs ds -> Fz F T (.ref a) (.lst ds)
  | dct {a : Addr} {kvs : List (Key × V)} {ds : List M.D} : Rd F a (.dK kvs) -> le' kvs -> FzA F T (kvs.map (·.2)) ds -> Fz F T (.ref a) (.dct (kvs.map fun p => kD p.1) ds)
  | dcl {a : Addr} {kvs : List (Leaf × V)} {ks ds : List M.D} : Rd F a (dcL a kvs) -> LeafKeys ks (kvs.map (·.1)) -> FzA F T (kvs.map (·.2)) ds -> Fz F T (.ref a) (.dcx ks ds)
  | dcn {a : Addr} {xs : List (NestedKey × Addr × V)} {ks ds : List M.D} : Rd F a (dcN a xs) -> NestKeys ks xs -> FzA F T (xs.map fun x => .ref x.2.1) ks -> FzA F T (xs.map (·.2.2)) ds -> Fz F T (.ref a) (.dcx ks ds)
  | rep (d : M.D) : Fz F T (.str (py d).shown) (.rep d)
  | obj {n : Nat} {a : Addr} : T[n]? = some a -> Fz F T (.ref a) (.obj n)
  | ty (n : String) : Fz F T (.ty n) (.ty n)
  | fn (x : String) : Fz F T (.ref (He.ga K x)) (.fn x)
  | scr {a : Addr} {vs : List V} {ds : List M.D} : SqL K F a vs -> FzA F T vs ds -> Fz F T (.ref a) (.scr ds)
inductive FzA (F : Hp) (T : List Addr) : List V -> List M.D -> Prop
  | nil : FzA F T [] []
  | cons {v : V} {vs : List V} {d : M.D} {ds : List M.D} : Fz F T v d -> FzA F T vs ds -> FzA F T (v :: vs) (d :: ds)
end
abbrev Fp := List (Addr × HO)
mutual
/-- v stands for o, alone; fp: what it stands on and may change -/
inductive Rp (F : Hp) (T : List Addr) : V -> M.O -> Fp -> Prop
  | fz {v : V} {d : M.D} : Fz K F T v d -> Rp F T v (.fz d) []
  | lst {p : Addr} {vs : List V} {os : List M.O} {fp : Fp} : RpA F T vs os fp -> Rp F T (.ref p) (.lst os) ((p, .lst vs) :: fp)
  | tup {p : Addr} {vs : List V} {os : List M.O} {fp : Fp} : RpA F T vs os fp -> Rp F T (.ref p) (.tup os) ((p, .tup vs) :: fp)
  | dct {p : Addr} {kvs : List (Key × V)} {os : List M.O} {fp : Fp} : le' kvs -> RpA F T (kvs.map (·.2)) os fp -> Rp F T (.ref p) (.dct (kvs.map fun q => kD q.1) os) ((p, .dK kvs) :: fp)
  | dcl {p : Addr} {kvs : List (Leaf × V)} {ks : List M.D} {os : List M.O} {fp : Fp} : LeafKeys ks (kvs.map (·.1)) -> RpA F T (kvs.map (·.2)) os fp -> Rp F T (.ref p) (.dcx ks os) ((p, dcL p kvs) :: fp)
  | dcn {p : Addr} {xs : List (NestedKey × Addr × V)} {ks : List M.D} {os : List M.O} {fp : Fp} : NestKeys ks xs -> FzA K F T (xs.map fun x => .ref x.2.1) ks -> RpA F T (xs.map (·.2.2)) os fp -> Rp F T (.ref p) (.dcx ks os) ((p, dcN p xs) :: fp)
inductive RpA (F : Hp) (T : List Addr) : List V -> List M.O -> Fp -> Prop
  | nil : RpA F T [] [] []
  | cons {v : V} {vs : List V} {o : M.O} {os : List M.O} {fp fq : Fp} : Rp F T v o fp -> RpA F T vs os fq -> RpA F T (v :: vs) (o :: os) (fp ++ fq)
end
def XcR (F : Hp) (T : List Addr) (x : M.Exc) (cls : Value) (dd : Option Addr) : Prop :=
  cls = .ref (He.ga K x.cls) /\ ((x.fs = [] /\ dd = none) \/ ∃ (a : Addr) (f : String) (v : V) (d : M.D), x.fs = [(f, d)] /\ dd = some a /\ F a = some (.xd [(Str.ofString f, v)]) /\ Fz K F T v d)
structure CloAt (F : Hp) (T : List Addr) (c : CloD) : Prop where
  fn : Rd F c.f (FnO c.f c.ob)
  code : Rd F c.c (LamX.CodeO c.c c.q)
  caps : FzA K F T c.ws c.caps
variable [Hot]
inductive RpE (F : Hp) (T : List Addr) : St -> List (Option M.O) -> Fp -> Prop
  | nil : RpE F T [] [] []
  | off {x : Option V} {σ : St} {env : List (Option M.O)} {fp : Fp} : RpE F T σ env fp -> RpE F T (x :: σ) (none :: env) fp
  | on {v : V} {o : M.O} {σ : St} {env : List (Option M.O)} {fp fq : Fp} : Rp K F T v o fp -> RpE F T σ env fq -> RpE F T (some v :: σ) (some o :: env) (fp ++ fq)
  | hot {a : Addr} {dd : Option Addr} {x : M.Exc} {σ : St} {env : List (Option M.O)} {fp : Fp} : Hot.hot = some (a, env.length, dd, x) -> XcR K F T x (.ref (He.ga K x.cls)) dd -> RpE F T σ env fp -> RpE F T (some (.ref a) :: σ) (some .exn :: env) fp
  | clo {c : CloD} {σ : St} {env : List (Option M.O)} {fp : Fp} : Hot.clo.lookup env.length = some c -> CloAt K F T c -> RpE F T σ env fp -> RpE F T (some (.ref c.f) :: σ) (some .clo :: env) fp
inductive RpOb (F : Hp) (T : List Addr) : Addr -> M.Ob -> Fp -> Prop
  | lst {a : Addr} {vs : List V} {os : List M.O} {fp : Fp} : RpA K F T vs os fp -> RpOb F T a (.lst os) ((a, .lst vs) :: fp)
  | dct {a : Addr} {kvs : List (Key × V)} {os : List M.O} {fp : Fp} : le' kvs -> RpA K F T (kvs.map (·.2)) os fp -> RpOb F T a (.dct (kvs.map fun q => kD q.1) os) ((a, .dK kvs) :: fp)
  | dcl {a : Addr} {kvs : List (Leaf × V)} {ks : List M.D} {os : List M.O} {fp : Fp} : LeafKeys ks (kvs.map (·.1)) -> RpA K F T (kvs.map (·.2)) os fp -> RpOb F T a (.dcx ks os) ((a, dcL a kvs) :: fp)
  | dcn {a : Addr} {xs : List (NestedKey × Addr × V)} {ks : List M.D} {os : List M.O} {fp : Fp} : NestKeys ks xs -> FzA K F T (xs.map fun x => .ref x.2.1) ks -> RpA K F T (xs.map (·.2.2)) os fp -> RpOb F T a (.dcx ks os) ((a, dcN a xs) :: fp)
  | ins {a dx : Addr} {C : String} {fs : List (String × V)} {os : List M.O} {fp : Fp} : F dx = some (.own a) -> RpA K F T (fs.map (·.2)) os fp →
      RpOb F T a (.ins C ((fs.map (·.1)).zip os)) ((a, .ins (He.ga K C) dx (fs.map fun q => (Str.ofString q.1, q.2))) :: fp)
inductive RpW (F : Hp) (T : List Addr) : List Addr -> M.W -> Fp -> Prop
  | nil : RpW F T [] [] []
  | cons {a : Addr} {l : List Addr} {ob : M.Ob} {w : M.W} {fp fq : Fp} : RpOb K F T a ob fp -> RpW F T l w fq -> RpW F T (a :: l) (ob :: w) (fp ++ fq)
structure Kept (F H : Hp) (fp : Fp) (F' H' : Hp) (fp' : Fp) : Prop where
  un : ∀ a, F a = none -> H a ≠ none -> (∀ e ∈ fp, e.1 ≠ a) -> F' a = none /\ H' a = H a /\ ∀ e ∈ fp', e.1 ≠ a
  cd : ∀ c q, Rd F c (LamX.CodeO c q) -> Rd F' c (LamX.CodeO c q)
structure TbAt (F H : Hp) (fp : Fp) (P : Addr) (q : Str) : Prop where
  f : F P = none
  n : ∀ e ∈ fp, e.1 ≠ P
  t : ∃ ps : Array Value, H P = some (.tbl ps) /\ TriplesOk ps.toList /\ ∀ (pos : Pos) (cv : Value), codeAmong pos ps.toList = some cv -> ∃ c, cv = .ref c /\ Rd F c (LamX.CodeO c q)
theorem TbAt.kept {F H F' H' : Hp} {fp fp' : Fp} {P : Addr} {q : Str} (h : TbAt F H fp P q) (k : Kept F H fp F' H' fp') : TbAt F' H' fp' P q := by
  obtain ⟨ps, h1, h2, h3⟩ := h.t
  obtain ⟨k1, k2, k3⟩ := k.un P h.f (by rw [h1]; simp) h.n
  refine ⟨k1, k3, ps, by rw [k2]; exact h1, h2, fun pos cv hc => ?_⟩
  obtain ⟨c, e1, e2⟩ := h3 pos cv hc
  exact ⟨c, e1, k.cd c q e2⟩
structure FpH (F H : Hp) (fp : Fp) : Prop where
  low : Same F H
  at_ : ∀ e ∈ fp, H e.1 = some e.2 /\ F e.1 = none
  nd : (fp.map (·.1)).Nodup
  tb : ∀ p ∈ Wd.ts, TbAt F H fp p.1 p.2
theorem FpH.tbs {F H F' H' : Hp} {fp fp' : Fp} (f : FpH F H fp) (un : ∀ a, F a = none -> H a ≠ none -> (∀ e ∈ fp, e.1 ≠ a) -> F' a = none /\ H' a = H a /\ ∀ e ∈ fp', e.1 ≠ a)
    (cd : ∀ c q, Rd F c (LamX.CodeO c q) -> Rd F' c (LamX.CodeO c q) := by exact fun _ _ h => h) : ∀ p ∈ Wd.ts, TbAt F' H' fp' p.1 p.2 := fun p hp => (f.tb p hp).kept ⟨un, cd⟩
theorem lz' {F F' : Hp} (s : Same F F') {c : Addr} {o : HO} (h : Rd F c o) : Rd F' c o := by
  rcases h with h | ⟨od, h⟩
  . exact .inl (s _ _ h)
  . exact .inr ⟨od, s _ _ h⟩
def Rel (ρ : M.PSt) (σ : St) (H F : Hp) (T : List Addr) (fr : Fp) : Prop := ∃ fe fw, RpE K F T σ ρ.env fe /\ RpW K F T T ρ.w fw /\ FpH F H (fe ++ (fw ++ fr))
abbrev sp' (w : M.W) (H F : Hp) (T : List Addr) (fr : Fp) : Prop := @Rel _ K coldI ⟨[], w⟩ [] H F T fr
theorem xv' {K : PySem.W.Frag} {F : Hp} {T : List Addr} : @RpE _ K coldI F T [] [] [] := @RpE.nil _ K coldI F T
def Lkb (o : HO) : Prop := (∃ kvs, o = .dK kvs) \/ ∃ φ, o = .ext φ
def Wk (F F' : Hp) : Prop := ∀ a o, F a = some o -> F' a = some o \/ Lkb o /\ ∃ od, F' a = some (.frz od o)
theorem Wk.of {F F' : Hp} (s : Same F F') : Wk F F' := fun a o h => .inl (s a o h)
theorem Wk.trans {F F' F2 : Hp} (s : Wk F F') (r : Wk F' F2) : Wk F F2 := fun a o h => by
  rcases s a o h with h1 | ⟨hl, od, h1⟩
  . exact r a o h1
  . rcases r a _ h1 with h2 | ⟨⟨_, e⟩ | ⟨_, e⟩, _⟩
    . exact .inr ⟨hl, od, h2⟩
    . cases e
    . cases e
theorem Wk.at_ {F F' : Hp} (s : Wk F F') {a : Addr} {o : HO} (h : F a = some o) (n : ∀ kvs, o ≠ .dK kvs) (n2 : ∀ φ, o ≠ .ext φ := by intro _ e; cases e) : F' a = some o := by
  rcases s a o h with h | ⟨⟨kvs, rfl⟩ | ⟨φ, rfl⟩, od, _⟩
  . exact h
  . exact absurd rfl (n kvs)
  . exact absurd rfl (n2 φ)
theorem Wk.rd {F F' : Hp} (s : Wk F F') {a : Addr} {u : HO} (hl : Lkb u) (h : Rd F a u) : Rd F' a u := by
  rcases h with h | ⟨o, h⟩
  . rcases s _ _ h with h | ⟨_, od, h⟩
    . exact .inl h
    . exact .inr ⟨od, h⟩
  . exact .inr ⟨o, s.at_ h fun _ e => nomatch e⟩
theorem Wk.lst {F F' : Hp} (s : Wk F F') {a : Addr} {vs : List V} (h : F a = some (.lst vs)) : F' a = some (.lst vs) := s.at_ h fun _ e => nomatch e
theorem Wk.dict {F F' : Hp} (s : Wk F F') {a : Addr} {kvs : List (Key × V)} (h : Rd F a (.dK kvs)) : Rd F' a (.dK kvs) := by
  exact s.rd (.inl ⟨_, rfl⟩) h
theorem Wk.seqT {K : PySem.W.Frag} {F F' : Hp} (s : Wk F F') {a : Addr} {xs : List V} (h : SqT K F a xs) : SqT K F' a xs := by
  rcases h with (h | ⟨o, h⟩) | h
  . exact .inl (.inl (s.at_ h fun _ e => nomatch e))
  . exact .inl (.inr ⟨o, s.at_ h fun _ e => nomatch e⟩)
  . exact .inr h
theorem Wk.seqL {K : PySem.W.Frag} {F F' : Hp} (s : Wk F F') {a : Addr} {xs : List V} (h : SqL K F a xs) : SqL K F' a xs := by
  rcases h with (h | ⟨o, h⟩) | h
  . exact .inl (.inl (s.at_ h fun _ e => nomatch e))
  . exact .inl (.inr ⟨o, s.at_ h fun _ e => nomatch e⟩)
  . exact .inr h
structure Ext (F : Hp) (T : List Addr) (F' : Hp) (T' : List Addr) : Prop where
  f : Wk F F'
  t : T <+: T'
end
variable [Hot]
section
variable {K : PySem.W.Frag} {F F' F2 H H' : Hp} {T T' T2 : List Addr}
theorem Ext.refl : Ext F T F T := ⟨fun _ _ h => .inl h, List.prefix_refl _⟩
theorem Ext.trans (a : Ext F T F' T') (b : Ext F' T' F2 T2) : Ext F T F2 T2 := ⟨a.f.trans b.f, a.t.trans b.t⟩
theorem Ext.of (h : Same F F') : Ext F T F' T := ⟨.of h, List.prefix_refl _⟩
theorem Ext.get (e : Ext F T F' T') {n : Nat} {a : Addr} (h : T[n]? = some a) : T'[n]? = some a := by
  obtain ⟨r, rfl⟩ := e.t
  rw [List.getElem?_append_left (List.getElem?_eq_some_iff.mp h).1]
  exact h
mutual
theorem Fz.mono (e : Ext F T F' T') : ∀ {v : V} {d : M.D}, Fz K F T v d -> Fz K F' T' v d
  | _, _, .non => .non
  | _, _, .bl b => .bl b
  | _, _, .int i => .int i
  | _, _, .str h => .str h
  | _, _, .tup h r => .tup (e.f.seqT h) (FzA.mono e r)
  | _, _, .lst h r => .lst (e.f.lst h) (FzA.mono e r)
  | _, _, .dct h k r => .dct (e.f.dict h) k (FzA.mono e r)
  | _, _, .dcl h k r => .dcl (e.f.rd (.inr ⟨_, rfl⟩) h) k (FzA.mono e r)
  | _, _, .dcn h k q r => .dcn (e.f.rd (.inr ⟨_, rfl⟩) h) k (FzA.mono e q) (FzA.mono e r)
  | _, _, .rep d => .rep d
  | _, _, .obj h => .obj (e.get h)
  | _, _, .ty n => .ty n
  | _, _, .fn x => .fn x
  | _, _, .scr h r => .scr (e.f.seqL h) (FzA.mono e r)
theorem FzA.mono (e : Ext F T F' T') : ∀ {vs : List V} {ds : List M.D}, FzA K F T vs ds -> FzA K F' T' vs ds
  | _, _, .nil => .nil
  | _, _, .cons h r => .cons (Fz.mono e h) (FzA.mono e r)
end
mutual
theorem Rp.mono (e : Ext F T F' T') : ∀ {v : V} {o : M.O} {fp : Fp}, Rp K F T v o fp -> Rp K F' T' v o fp
  | _, _, _, .fz h => .fz (h.mono e)
  | _, _, _, .lst r => .lst (RpA.mono e r)
  | _, _, _, .tup r => .tup (RpA.mono e r)
  | _, _, _, .dct k r => .dct k (RpA.mono e r)
  | _, _, _, .dcl k r => .dcl k (RpA.mono e r)
  | _, _, _, .dcn k q r => .dcn k (q.mono e) (RpA.mono e r)
theorem RpA.mono (e : Ext F T F' T') : ∀ {vs : List V} {os : List M.O} {fp : Fp}, RpA K F T vs os fp -> RpA K F' T' vs os fp
  | _, _, _, .nil => .nil
  | _, _, _, .cons h r => .cons (Rp.mono e h) (RpA.mono e r)
end
theorem XcR.mono' (e : Ext F T F' T') {x : M.Exc} {cls : Value} {dd : Option Addr} (h : XcR K F T x cls dd) : XcR K F' T' x cls dd := by
  obtain ⟨h1, h2 | ⟨a, f, v, d, h3, h4, h5, h6⟩⟩ := h
  . exact ⟨h1, .inl h2⟩
  . exact ⟨h1, .inr ⟨a, f, v, d, h3, h4, e.f.at_ h5 (fun _ z => nomatch z), h6.mono e⟩⟩
theorem CloAt.mono (e : Ext F T F' T') {c : CloD} (h : CloAt K F T c) : CloAt K F' T' c := ⟨e.f.rd (.inr ⟨_, rfl⟩) h.fn, e.f.rd (.inr ⟨_, rfl⟩) h.code, h.caps.mono e⟩
theorem RpE.mono (e : Ext F T F' T') {σ : St} {env : List (Option M.O)} {fp : Fp} (h : RpE K F T σ env fp) : RpE K F' T' σ env fp := by
  induction h with
  | nil => exact .nil
  | off _ ih => exact .off ih
  | on r _ ih => exact .on (r.mono e) ih
  | hot h z _ ih => exact .hot h (z.mono' e) ih
  | clo h z _ ih => exact .clo h (z.mono e) ih
theorem RpOb.mono (e : Ext F T F' T') {a : Addr} {ob : M.Ob} {fp : Fp} (h : RpOb K F T a ob fp) : RpOb K F' T' a ob fp := by
  cases h with
  | lst r => exact .lst (r.mono e)
  | dct k r => exact .dct k (r.mono e)
  | dcl k r => exact .dcl k (r.mono e)
  | dcn k q r => exact .dcn k (q.mono e) (r.mono e)
  | ins d r => exact .ins (e.f.at_ d fun _ z => nomatch z) (r.mono e)
theorem RpW.mono (e : Ext F T F' T') {l : List Addr} {w : M.W} {fp : Fp} (h : RpW K F T l w fp) : RpW K F' T' l w fp := by
  induction h with
  | nil => exact .nil
  | cons r _ ih => exact .cons (r.mono e) ih
theorem FpH.new {p : Addr} {o : HO} {fp : Fp} (f : FpH F H fp) (hp : H p = none) : FpH (upd F p o) (upd H p o) fp := by
  have np : ∀ e ∈ fp, e.1 ≠ p := fun e he => ne_of_none (f.at_ e he).1 hp
  refine ⟨fun a u h => ?_, fun e he => ?_, f.nd, f.tbs (fun a h1 h2 h3 => ?_) fun c q h => lz' (fun b u e => by rw [upd_ne (fun z => by rw [z] at e; rw [f.low _ _ e] at hp; cases hp)]; exact e) h⟩
  . by_cases ha : a = p
    . subst ha; rw [upd_same] at h ⊢; exact h
    . rw [upd_ne ha] at h ⊢; exact f.low _ _ h
  . rw [upd_ne (np e he), upd_ne (np e he)]; exact f.at_ e he
  . have ha : a ≠ p := fun z => h2 (by rw [z]; exact hp)
    exact ⟨by rw [upd_ne ha]; exact h1, upd_ne ha, h3⟩
theorem FpH.free {fp : Fp} (f : FpH F H fp) {p : Addr} (hp : H p = none) : F p = none := by
  cases h : F p with
  | none => rfl
  | some o => rw [f.low _ _ h] at hp; cases hp
theorem cI' {p : Addr} {o : HO} (h : F p = none) : Same F (upd F p o) := fun b u e => by rw [upd_ne (ne_of_none e h)]; exact e
end
section
variable {K : PySem.W.Frag} {W : WX} {α β : Type}
abbrev Wx := M.Exc -> M.PSt -> Prop
def aZ' (r : M.Res α) (P : α -> M.PSt -> Prop) (X : Wx) : Prop := match r with
  | .ok a ρ => P a ρ
  | .exc x ρ => X x ρ
  | .bad => False
theorem aZ'.bind {r : M.Res α} {f : α -> M.PSt -> M.Res β} {P : β -> M.PSt -> Prop} {X : Wx} (h : aZ' (r.bind f) P X) : aZ' r (fun a ρ => aZ' (f a ρ) P X) X := by
  cases r with
  | ok a ρ => exact h
  | exc x ρ => exact h
  | bad => exact h
theorem aZ'.ofO {o : Option α} {ρ : M.PSt} {P : α -> M.PSt -> Prop} {X : Wx} (h : aZ' (M.ofO o ρ) P X) : ∃ a, o = some a /\ P a ρ := by
  cases o with
  | none => exact h.elim
  | some a => exact ⟨a, rfl, h⟩
theorem aZ'.mono {r : M.Res α} {P P' : α -> M.PSt -> Prop} {X X' : Wx} (h : aZ' r P X) (hp : ∀ a ρ, P a ρ -> P' a ρ) (hx : ∀ x ρ, X x ρ -> X' x ρ) : aZ' r P' X' := by
  cases r with
  | ok a ρ => exact hp _ _ h
  | exc x ρ => exact hx _ _ h
  | bad => exact h
def EX (K : PySem.W.Frag) (W : WX) (σ : St) (F : Hp) (T : List Addr) (fr : Fp) : Wx := fun x ρ => ∀ cls dd H' F' T', Ext F T F' T' -> XcR K F' T' x cls dd -> Rel K ρ σ H' F' T' fr -> W cls dd σ H'
theorem EX.mono {σ : St} {F F' : Hp} {T T' : List Addr} {fr : Fp} {x : M.Exc} {ρ : M.PSt} (h : EX K W σ F T fr x ρ) (e : Ext F T F' T') : EX K W σ F' T' fr x ρ := fun cls dd H' F2 T2 e2 => h cls dd H' F2 T2 (e.trans e2)
def qE (K : PySem.W.Frag) (W : WX) (m : M.ME) : TE := fun σ H Q => ∃ ρ F T fr, Rel K ρ σ H F T fr ∧
  aZ' (m ρ) (fun d ρ' => ∀ v H' F' T', Ext F T F' T' -> Fz K F' T' v d -> Rel K ρ' σ H' F' T' fr -> Q v H') (EX K W σ F T fr)
def qO (K : PySem.W.Frag) (W : WX) (m : M.MO) : TE := fun σ H Q => ∃ ρ F T fr, Rel K ρ σ H F T fr ∧
  aZ' (m ρ) (fun o ρ' => ∀ v H' F' T' fp, Ext F T F' T' -> Rp K F' T' v o fp -> Rel K ρ' σ H' F' T' (fp ++ fr) -> Q v H') (EX K W σ F T fr)
def qA (K : PySem.W.Frag) (W : WX) (m : M.MA) : TA := fun σ H Q => ∃ ρ F T fr, Rel K ρ σ H F T fr ∧
  aZ' (m ρ) (fun ds ρ' => ∀ vs H' F' T', Ext F T F' T' -> FzA K F' T' vs ds -> Rel K ρ' σ H' F' T' fr -> Q vs H') (EX K W σ F T fr)
def qT (K : PySem.W.Frag) (W : WX) (m : M.MT) : TT := fun σ H Q => ∃ ρ F T fr, Rel K ρ σ H F T fr ∧
  aZ' (m ρ) (fun b ρ' => ∀ H' F' T', Ext F T F' T' -> Rel K ρ' σ H' F' T' fr -> Q b H') (EX K W σ F T fr)
def qP (K : PySem.W.Frag) (W : WX) (m : M.MP) : TO := fun σ H Q => ∃ ρ F T fr, Rel K ρ σ H F T fr ∧
  aZ' (m ρ) (fun b ρ' => ∀ H' F' T', Ext F T F' T' -> Rel K ρ' σ H' F' T' fr -> Q b H') (EX K W σ F T fr)
def bw' (K : PySem.W.Frag) (W : WX) (D : Ends) (F : Hp) (T : List Addr) (fr : Fp) : M.Out -> Prop
  | .nx ρ => ∀ σ' H' F' T', Ext F T F' T' -> Rel K ρ σ' H' F' T' fr -> D.nx σ' H'
  | .bk ρ => ∀ σ' H' F' T', Ext F T F' T' -> Rel K ρ σ' H' F' T' fr -> D.bk σ' H'
  | .ct ρ => ∀ σ' H' F' T', Ext F T F' T' -> Rel K ρ σ' H' F' T' fr -> D.ct σ' H'
  | .rt o w => ∀ v H' F' T' fp, Ext F T F' T' -> Rp K F' T' v o fp -> sp' K (w) H' F' T' (fp ++ fr) -> D.rt v H'
  | .exc x ρ => ∀ σ' cls dd H' F' T', Ext F T F' T' -> XcR K F' T' x cls dd -> Rel K ρ σ' H' F' T' fr -> W cls dd σ' H'
  | .bad => False
def qS (K : PySem.W.Frag) (W : WX) (m : M.MS) : TS := fun D σ H => ∃ ρ F T fr, Rel K ρ σ H F T fr /\ bw' K W D F T fr (m ρ)
abbrev SE (X : Cx) (W : WX) (e : Expr) (m : M.ME) : Prop := PE X e (qE X.K W m)
abbrev SO (X : Cx) (W : WX) (e : Expr) (m : M.MO) : Prop := PE X e (qO X.K W m)
abbrev SA (X : Cx) (W : WX) (es : List Expr) (m : M.MA) : Prop := PA X es (qA X.K W m)
abbrev ST (X : Cx) (W : WX) (e : Expr) (m : M.MT) : Prop := PT X e (qT X.K W m)
abbrev SS (X : Cx) (W : WX) (s : Stmt) (m : M.MS) : Prop := PS X s (qS X.K W m)
abbrev SSs (X : Cx) (W : WX) (s : List Stmt) (m : M.MS) : Prop := PSs X s (qS X.K W m)
theorem PE.imp {X : Cx} {e : Expr} {t t' : TE} (h : PE X e t) (i : ∀ σ H Q, t' σ H Q -> t σ H Q) : PE X e t' := ⟨fun pins s σ H Q I q => h.run pins s σ H Q I (i σ H Q q)⟩
theorem PT.imp {X : Cx} {e : Expr} {t t' : TT} (h : PT X e t) (i : ∀ σ H Q, t' σ H Q -> t σ H Q) : PT X e t' := ⟨fun pins s σ H Q I q => h.run pins s σ H Q I (i σ H Q q)⟩
theorem PW.imp {X : Cx} {e : Expr} {t t' : TT} (h : PW X e t) (i : ∀ σ H Q, t' σ H Q -> t σ H Q) : PW X e t' := ⟨fun wh pins s σ H Q I q => h.run wh pins s σ H Q I (i σ H Q q)⟩
theorem PA.imp {X : Cx} {e : List Expr} {t t' : TA} (h : PA X e t) (i : ∀ σ H Q, t' σ H Q -> t σ H Q) : PA X e t' := ⟨fun pos pins s σ H Q I q => h.run pos pins s σ H Q I (i σ H Q q)⟩
theorem PS.imp {X : Cx} {e : Stmt} {t t' : TS} (h : PS X e t) (i : ∀ D σ H, t' D σ H -> t D σ H) : PS X e t' := ⟨fun pins s σ H Q I q => h.run pins s σ H Q I (i Q σ H q)⟩
theorem PSs.imp {X : Cx} {e : List Stmt} {t t' : TS} (h : PSs X e t) (i : ∀ D σ H, t' D σ H -> t D σ H) : PSs X e t' := ⟨fun pins s σ H Q I q => h.run pins s σ H Q I (i Q σ H q)⟩
theorem PO.imp {X : Cx} {e : Option Expr} {t t' : TO} (h : PO X e t) (i : ∀ σ H Q, t' σ H Q -> t σ H Q) : PO X e t' := ⟨fun pins s σ H Q I q => h.run pins s σ H Q I (i σ H Q q)⟩
variable {σ : St} {H F : Hp} {T : List Addr} {fr : Fp} {ρ : M.PSt} {P : β -> M.PSt -> Prop} {X : Wx}
theorem ay' {m : M.ME} {k : M.D -> M.PSt -> M.Res β} {Q : VK} (rel : Rel K ρ σ H F T fr) (h : aZ' ((m ρ).bind k) P (EX K W σ F T fr))
    (q : ∀ d ρ1 v H1 F1 T1, Ext F T F1 T1 -> Fz K F1 T1 v d -> Rel K ρ1 σ H1 F1 T1 fr -> aZ' (k d ρ1) P (EX K W σ F1 T1 fr) -> Q v H1) : qE K W m σ H Q :=
  ⟨ρ, F, T, fr, rel, (aZ'.bind h).mono (fun d ρ1 h1 v H1 F1 T1 e z r => q d ρ1 v H1 F1 T1 e z r (h1.mono (fun _ _ z => z) fun _ _ z => z.mono e)) fun _ _ z => z⟩
theorem c8' {m : M.MA} {k : List M.D -> M.PSt -> M.Res β} {Q : List V -> Hp -> Prop} (rel : Rel K ρ σ H F T fr) (h : aZ' ((m ρ).bind k) P (EX K W σ F T fr))
    (q : ∀ ds ρ1 vs H1 F1 T1, Ext F T F1 T1 -> FzA K F1 T1 vs ds -> Rel K ρ1 σ H1 F1 T1 fr -> aZ' (k ds ρ1) P (EX K W σ F1 T1 fr) -> Q vs H1) : qA K W m σ H Q :=
  ⟨ρ, F, T, fr, rel, (aZ'.bind h).mono (fun d ρ1 h1 v H1 F1 T1 e z r => q d ρ1 v H1 F1 T1 e z r (h1.mono (fun _ _ z => z) fun _ _ z => z.mono e)) fun _ _ z => z⟩
theorem lB' {m : M.MT} {k : Bool -> M.PSt -> M.Res β} {Q : Bool -> Hp -> Prop} (rel : Rel K ρ σ H F T fr) (h : aZ' ((m ρ).bind k) P (EX K W σ F T fr))
    (q : ∀ b ρ1 H1 F1 T1, Ext F T F1 T1 -> Rel K ρ1 σ H1 F1 T1 fr -> aZ' (k b ρ1) P (EX K W σ F1 T1 fr) -> Q b H1) : qT K W m σ H Q :=
  ⟨ρ, F, T, fr, rel, (aZ'.bind h).mono (fun d ρ1 h1 H1 F1 T1 e r => q d ρ1 H1 F1 T1 e r (h1.mono (fun _ _ z => z) fun _ _ z => z.mono e)) fun _ _ z => z⟩
theorem qZ' {m : M.MP} {k : Option Int -> M.PSt -> M.Res β} {Q : Option Int -> Hp -> Prop} (rel : Rel K ρ σ H F T fr) (h : aZ' ((m ρ).bind k) P (EX K W σ F T fr))
    (q : ∀ b ρ1 H1 F1 T1, Ext F T F1 T1 -> Rel K ρ1 σ H1 F1 T1 fr -> aZ' (k b ρ1) P (EX K W σ F1 T1 fr) -> Q b H1) : qP K W m σ H Q :=
  ⟨ρ, F, T, fr, rel, (aZ'.bind h).mono (fun d ρ1 h1 H1 F1 T1 e r => q d ρ1 H1 F1 T1 e r (h1.mono (fun _ _ z => z) fun _ _ z => z.mono e)) fun _ _ z => z⟩
end
end S
namespace S
open PySem PySem.Spec PyProof.Rows L2
variable [Wd] [Hot]
section
variable {K : PySem.W.Frag} {F H : Hp} {T : List Addr} {v : V} {d : M.D} {vs ws : List V} {ds es : List M.D}
theorem Fz.int_inv {i : Int} (h : Fz K F T v (.int i)) : v = .int i := by cases h; rfl
theorem Fz.bl_inv {i : Bool} (h : Fz K F T v (.bl i)) : v = .bl i := by cases h; rfl
theorem Fz.non_inv (h : Fz K F T v .non) : v = .non := by cases h; rfl
theorem Fz.str_inv {s : M.Tx} (h : Fz K F T v (.str s)) : v = .str (sx s) /\ okT s := by cases h with | str h => exact ⟨rfl, h⟩
theorem Fz.tup_inv (h : Fz K F T v (.tup ds)) : ∃ a vs, v = .ref a /\ SqT K F a vs /\ FzA K F T vs ds := by cases h with | tup h r => exact ⟨_, _, rfl, h, r⟩
theorem Fz.lst_inv (h : Fz K F T v (.lst ds)) : ∃ a vs, v = .ref a /\ F a = some (.lst vs) /\ FzA K F T vs ds := by cases h with | lst h r => exact ⟨_, _, rfl, h, r⟩
theorem FzA.length : ∀ {vs : List V} {ds : List M.D}, FzA K F T vs ds -> vs.length = ds.length
  | _, _, .nil => rfl
  | _, _, .cons _ r => congrArg (· + 1) (FzA.length r)
theorem FzA.append : ∀ {vs ws : List V} {ds es : List M.D}, FzA K F T vs ds -> FzA K F T ws es -> FzA K F T (vs ++ ws) (ds ++ es)
  | _, _, _, _, .nil, h => h
  | _, _, _, _, .cons a r, h => .cons a (FzA.append r h)
theorem FzA.take : ∀ {vs : List V} {ds : List M.D} (n : Nat), FzA K F T vs ds -> FzA K F T (vs.take n) (ds.take n)
  | _, _, 0, _ => .nil
  | _, _, n + 1, .nil => .nil
  | _, _, n + 1, .cons a r => .cons a (FzA.take n r)
theorem FzA.drop : ∀ {vs : List V} {ds : List M.D} (n : Nat), FzA K F T vs ds -> FzA K F T (vs.drop n) (ds.drop n)
  | _, _, 0, h => h
  | _, _, n + 1, .nil => .nil
  | _, _, n + 1, .cons a r => FzA.drop n r
theorem FzA.get : ∀ {vs : List V} {ds : List M.D} {i : Nat} {d : M.D}, FzA K F T vs ds -> ds[i]? = some d -> ∃ v, vs[i]? = some v /\ Fz K F T v d
  | _, _, _, _, .nil, e => by cases e
  | _, _, 0, _, .cons h _, e => ⟨_, rfl, by rw [<- Option.some.inj e]; exact h⟩
  | _, _, i + 1, _, .cons _ r, e => FzA.get (i := i) r e
theorem FzA.rev {vs : List V} {ds : List M.D} (h : FzA K F T vs ds) : FzA K F T vs.reverse ds.reverse := by
  match vs, ds, h with
  | [], [], .nil => exact .nil
  | v :: vs, d :: ds, .cons a r =>
    rw [List.reverse_cons, List.reverse_cons]
    exact FzA.append (FzA.rev r) (.cons a .nil)
theorem FzA.rep {vs : List V} {ds : List M.D} (h : FzA K F T vs ds) : ∀ n, FzA K F T (List.replicate n vs).flatten (List.replicate n ds).flatten
  | 0 => .nil
  | n + 1 => FzA.append h (FzA.rep h n)
theorem FzA.cutV {lo hi : Option Int} (h : FzA K F T vs ds) : FzA K F T (cutV vs lo hi) (M.cut ds lo hi) := by
  unfold L2.cutV M.cut
  rw [h.length]
  exact FzA.take _ (FzA.drop _ h)
theorem FzA.of_all : ∀ {n : Nat} {f : Nat -> V} {g : Nat -> M.D}, (∀ i, Fz K F T (f i) (g i)) -> FzA K F T ((List.range n).map f) ((List.range n).map g) := by
  intro n f g h
  generalize List.range n = l
  induction l with
  | nil => exact .nil
  | cons a l ih => exact .cons (h a) ih
theorem rQ' {c : Nat} (h : c < 1114112) : Fz K F T (.str ⟨#[c]⟩) (M.chD c) := Fz.str (s := [c]) ⟨fun x hx => by rw [List.mem_singleton.mp hx]; exact h, by show 1 <= 16777216; decide⟩
theorem FzA.chars : ∀ {s : M.Tx}, (∀ c ∈ s, c < 1114112) -> FzA K F T (s.map chv) (s.map M.chD)
  | [], _ => .nil
  | c :: s, h => .cons (rQ' (h c (by simp))) (FzA.chars fun x hx => h x (by simp [hx]))
theorem SqT.low (s : Same F H) {a : Addr} (h : SqT K F a vs) : SqT K H a vs := seqT s h
theorem okT.app {a b : M.Tx} (h1 : okT a) (h2 : okT b) (h : a.length + b.length <= M.dq') : okT (a ++ b) :=
  ⟨fun c hc => (List.mem_append.mp hc).elim (h1.1 c) (h2.1 c), by rw [List.length_append]; exact h⟩
theorem okT.sub {a b : M.Tx} (h1 : okT a) (h : ∀ c ∈ b, c ∈ a) (hl : b.length <= a.length) : okT b := ⟨fun c hc => h1.1 c (h c hc), Nat.le_trans hl h1.2⟩
theorem okT.len {s : M.Tx} (h : okT s) : (sx s).length <= sizeLine := by rw [cz', sizeLine_eq]; exact h.2
theorem bM' : sizeLine = M.dq' := sizeLine_eq
theorem Rel.fp {ρ : M.PSt} {σ : St} {fr : Fp} (r : Rel K ρ σ H F T fr) : ∃ fp, FpH F H fp /\ ∀ H' F', Same F F' -> FpH F' H' fp -> Rel K ρ σ H' F' T fr := by
  obtain ⟨fe, fw, re, rw, f⟩ := r
  exact ⟨_, f, fun H' F' s f' => ⟨fe, fw, re.mono (.of s), rw.mono (.of s), f'⟩⟩
abbrev eD' (K : PySem.W.Frag) (F : Hp) (T : List Addr) (fp : Fp) (dz : M.D) (Q : VK) : Prop := ∀ v H' F', Same F F' -> Fz K F' T v dz -> FpH F' H' fp -> Q v H'
theorem eD'.here {fp : Fp} {dz : M.D} {Q : VK} (k : eD' K F T fp dz Q) (f : FpH F H fp) (z : Fz K F T v dz) : Q v H := k v H F (fun _ _ e => e) z f
theorem eD'.newT {fp : Fp} {Q : VK} (k : eD' K F T fp (.tup ds) Q) (f : FpH F H fp) (z : FzA K F T vs ds) {p : Addr} (hp : H p = none) : Q (.ref p) (upd H p (.tup vs)) := by
  have s : Same F (upd F p (.tup vs)) := cI' (f.free hp)
  exact k _ _ _ s (.tup (SqT.of upd_same) (z.mono (.of s))) (f.new hp)
theorem eD'.newL {fp : Fp} {Q : VK} (k : eD' K F T fp (.lst ds) Q) (f : FpH F H fp) (z : FzA K F T vs ds) {p : Addr} (hp : H p = none) : Q (.ref p) (upd H p (.lst vs)) := by
  have s : Same F (upd F p (.lst vs)) := cI' (f.free hp)
  exact k _ _ _ s (.lst upd_same (z.mono (.of s))) (f.new hp)
end
section
variable (K : PySem.W.Frag)
def Op1 (f : M.D -> Option M.D) (r : V -> Hp -> VK -> Prop) : Prop := ∀ {F H : Hp} {T : List Addr} {fp : Fp} {x : V} {dx dz : M.D} {Q : VK}, FpH F H fp -> Fz K F T x dx -> f dx = some dz -> eD' K F T fp dz Q -> r x H Q
def Op2 (f : M.D -> M.D -> Option M.D) (r : R2) : Prop := ∀ {F H : Hp} {T : List Addr} {fp : Fp} {x y : V} {dx dy dz : M.D} {Q : VK}, FpH F H fp -> Fz K F T x dx -> Fz K F T y dy -> f dx dy = some dz -> eD' K F T fp dz Q -> r x y H Q
end
section
variable {K : PySem.W.Frag}
mutual
theorem Fz.py {F H : Hp} {T : List Addr} (s : Same F H) : ∀ {v : V} {d : M.D}, Fz K F T v d -> M.dat d = true -> Dp K H v (py d)
  | _, _, .non, _ => .non
  | _, _, .bl b, _ => .bl b
  | _, _, .int i, _ => .int i
  | _, _, .str h, _ => .str _
  | _, _, .tup h r, e => .tup (seqT s h) (FzA.py s r e)
  | _, _, .lst h r, e => .lst (SqL.of (s _ _ h)) (FzA.py s r e)
  | _, _, .dct h _ r, e => by cases e
  | _, _, .dcl _ _ _, e => by cases e
  | _, _, .dcn _ _ _ _, e => by cases e
  | _, _, .rep _, e => by cases e
  | _, _, .obj h, e => by cases e
  | _, _, .ty n, e => by cases e
  | _, _, .fn x, e => by cases e
  | _, _, .scr h r, e => by cases e
theorem FzA.py {F H : Hp} {T : List Addr} (s : Same F H) : ∀ {vs : List V} {ds : List M.D}, FzA K F T vs ds -> M.dats ds = true -> DpAll K H vs (pys ds)
  | _, _, .nil, _ => .nil
  | _, _, .cons h r, e => by
    obtain ⟨e1, e2⟩ := Bool.and_eq_true_iff.mp (show (M.dat _ && M.dats _) = true from e)
    exact .cons (Fz.py s h e1) (FzA.py s r e2)
end
theorem sF' {s : M.Tx} (h : okT s) : PyData.strOk (sx s) = true := by
  unfold PyData.strOk
  rw [Array.all_eq_true']
  intro c hc
  have := h.1 c (by simpa [sx] using hc)
  simp only [decide_eq_true_eq]
  omega
mutual
theorem nS' {F : Hp} {T : List Addr} : ∀ {v : V} {d : M.D}, Fz K F T v d -> M.dat d = true -> (py d).canLay0 = true /\ (py d).depth = M.dep d
  | _, _, .non, _ => ⟨rfl, rfl⟩
  | _, _, .bl b, _ => ⟨rfl, rfl⟩
  | _, _, .int i, _ => ⟨rfl, rfl⟩
  | _, _, .str h, _ => ⟨sF' h, rfl⟩
  | _, _, .tup h r, e => by
    obtain ⟨h1, h2⟩ := lays_of r e
    exact ⟨h1, congrArg (· + 1) h2⟩
  | _, _, .lst h r, e => by
    obtain ⟨h1, h2⟩ := lays_of r e
    exact ⟨h1, congrArg (· + 1) h2⟩
  | _, _, .dct h _ r, e => by cases e
  | _, _, .dcl _ _ _, e => by cases e
  | _, _, .dcn _ _ _ _, e => by cases e
  | _, _, .rep _, e => by cases e
  | _, _, .obj h, e => by cases e
  | _, _, .ty n, e => by cases e
  | _, _, .fn x, e => by cases e
  | _, _, .scr h r, e => by cases e
theorem lays_of {F : Hp} {T : List Addr} : ∀ {vs : List V} {ds : List M.D}, FzA K F T vs ds -> M.dats ds = true -> PyData.canLayAll0 (pys ds) = true /\ PyData.depthAll (pys ds) = M.deps ds
  | _, _, .nil, _ => ⟨rfl, rfl⟩
  | _, _, .cons h r, e => by
    obtain ⟨e1, e2⟩ := Bool.and_eq_true_iff.mp (show (M.dat _ && M.dats _) = true from e)
    obtain ⟨a1, a2⟩ := nS' h e1
    obtain ⟨b1, b2⟩ := lays_of r e2
    refine ⟨?_, ?_⟩
    . show (PyData.canLay0 _ && PyData.canLayAll0 _) = true
      rw [a1, b1]; rfl
    . show max (PyData.depth _) (PyData.depthAll _) = max _ _
      rw [a2, b2]
end
theorem uu' (a b : M.Tx) : (sx a == sx b) = (a == b) := by
  rw [Bool.eq_iff_iff, beq_iff_eq, beq_iff_eq]
  exact ⟨ut', fun h => by rw [h]⟩
mutual
theorem uR' : ∀ (d e : M.D), M.dat d = true -> M.dat e = true -> PyData.eqv (py d) (py e) = M.eqb d e
  | .non, e, _, h => by cases e <;> first | rfl | cases h
  | .bl a, e, _, h => by cases e <;> first | rfl | cases h
  | .int a, e, _, h => by cases e <;> first | rfl | cases h
  | .str a, e, _, h => by
    cases e with
    | str b => exact uu' a b
    | _ => first | rfl | cases h
  | .tup a, e, h1, h => by
    cases e with
    | tup b => exact eqvs_py a b h1 h
    | _ => first | rfl | cases h
  | .lst a, e, h1, h => by
    cases e with
    | lst b => exact eqvs_py a b h1 h
    | _ => first | rfl | cases h
  | .dct _ _, _, h, _ => by cases h
  | .obj _, _, h, _ => by cases h
  | .ty _, _, h, _ => by cases h
  | .fn _, _, h, _ => by cases h
  | .exc _ _, _, h, _ => by cases h
  | .scr _, _, h, _ => by cases h
theorem eqvs_py : ∀ (d e : List M.D), M.dats d = true -> M.dats e = true -> PyData.eqvAll (pys d) (pys e) = M.eqbs d e
  | [], [], _, _ => rfl
  | [], _ :: _, _, _ => rfl
  | _ :: _, [], _, _ => rfl
  | a :: d, b :: e, h1, h2 => by
    obtain ⟨a1, a2⟩ := Bool.and_eq_true_iff.mp (show (M.dat _ && M.dats _) = true from h1)
    obtain ⟨b1, b2⟩ := Bool.and_eq_true_iff.mp (show (M.dat _ && M.dats _) = true from h2)
    show (PyData.eqv (py a) (py b) && PyData.eqvAll (pys d) (pys e)) = (M.eqb a b && M.eqbs d e)
    rw [uR' a b a1 b1, eqvs_py d e a2 b2]
end
theorem zb' {F H : Hp} {T : List Addr} {fp : Fp} {x y : V} {dx dy : M.D} {b : Bool} (f : FpH F H fp) (hx : Fz K F T x dx) (hy : Fz K F T y dy) (h : M.eqv dx dy = some b) :
    ∃ d e, Dp K H x d /\ Dp K H y e /\ SeqAt.shaped d = true /\ SeqAt.shaped e = true /\ PyData.eqv d e = b := by
  unfold M.eqv at h
  split at h
  . rename_i c
    obtain ⟨c1, c2, c3, c4⟩ := c
    obtain ⟨a1, a2⟩ := nS' hx c1
    obtain ⟨b1, b2⟩ := nS' hy c2
    refine ⟨_, _, hx.py f.low c1, hy.py f.low c2, ?_, ?_, ?_⟩
    . exact Sh.shaped (n := 64) ⟨a1, by rw [a2]; exact c3⟩ (Nat.le_refl _)
    . exact Sh.shaped (n := 64) ⟨b1, by rw [b2]; exact c4⟩ (Nat.le_refl _)
    . rw [uR' _ _ c1 c2]; exact Option.some.inj h
  . cases h
theorem km' : Op2 K M.pEq (Bi' K) := by
  intro F H T fp x y dx dy dz Q f hx hy h k
  unfold M.pEq M.ob at h
  cases e : M.eqv dx dy with
  | none => rw [e] at h; cases h
  | some b =>
    rw [e] at h
    cases h
    obtain ⟨d, e, h1, h2, h3, h4, h5⟩ := zb' f hx hy e
    exact .inr ⟨d, e, h1, h2, h3, h4, by rw [h5]; exact k.here f (.bl b)⟩
theorem Bx' : Op2 K M.pNe (Bf' K) := by
  intro F H T fp x y dx dy dz Q f hx hy h k
  unfold M.pNe M.ob at h
  cases e : M.eqv dx dy with
  | none => rw [e] at h; cases h
  | some b =>
    rw [e] at h
    cases h
    obtain ⟨d, e, h1, h2, h3, h4, h5⟩ := zb' f hx hy e
    exact .inr ⟨d, e, h1, h2, h3, h4, by rw [h5]; exact k.here f (.bl (!b))⟩
theorem b5' : Op2 K M.cV' (yr' K) := by
  intro F H T fp x y dx dy dz Q f hx hy h k
  cases dx <;> cases dy <;> try (cases h; done)
  . cases hx; cases hy; cases h
    exact .inl ⟨_, _, rfl, rfl, k.here f (.int _)⟩
  . obtain ⟨rfl, o1⟩ := hx.str_inv
    obtain ⟨rfl, o2⟩ := hy.str_inv
    simp only [M.cV'] at h
    split at h
    . rename_i hl
      cases h
      refine .inr (.inl ⟨_, _, rfl, rfl, by rw [cz', cz', bM']; exact hl, ?_⟩)
      rw [x3']
      exact k.here f (.str (o1.app o2 hl))
    . cases h
  . obtain ⟨a, vs, rfl, ha, za⟩ := hx.tup_inv
    obtain ⟨b, ws, rfl, hb, zb⟩ := hy.tup_inv
    simp only [M.cV'] at h
    split at h
    . rename_i hl
      cases h
      refine .inr (.inr (.inr ⟨a, b, vs, ws, rfl, rfl, seqT f.low ha, seqT f.low hb, by rw [za.length, zb.length, bM']; exact hl, fun e => ?_, fun _ e => ?_, fun _ _ p hp => k.newT f (za.append zb) hp⟩))
      . subst e
        cases za
        exact k.here f (.tup hb zb)
      . subst e
        cases zb
        refine k.here f ?_
        rw [List.append_nil]
        exact .tup ha za
    . cases h
  . obtain ⟨a, vs, rfl, ha, za⟩ := hx.lst_inv
    obtain ⟨b, ws, rfl, hb, zb⟩ := hy.lst_inv
    simp only [M.cV'] at h
    split at h
    . rename_i hl
      cases h
      exact .inr (.inr (.inl ⟨a, b, vs, ws, rfl, rfl, f.low _ _ ha, f.low _ _ hb, by rw [za.length, zb.length, bM']; exact hl, fun p hp => k.newL f (za.append zb) hp⟩))
    . cases h
theorem rf' : Op2 K M.uG' (rI0 fun i j => .int (i - j)) := by
  intro F H T fp x y dx dy dz Q f hx hy h k
  cases dx <;> cases dy <;> try (cases h; done)
  cases hx; cases hy; cases h
  exact ⟨_, _, rfl, rfl, k.here f (.int _)⟩
theorem yf' (s : M.Tx) (n : Nat) : o5' (sx s) n = sx (List.replicate n s).flatten := rfl
theorem yh' {s : M.Tx} {n : Nat} (h : okT s) (hl : s.length * n <= M.dq') : okT (List.replicate n s).flatten := by
  refine ⟨fun c hc => ?_, ?_⟩
  . obtain ⟨l, h1, h2⟩ := List.mem_flatten.mp hc
    rw [List.eq_of_mem_replicate h1] at h2
    exact h.1 c h2
  . rw [List.length_flatten]
    simp
    rw [Nat.mul_comm]
    exact hl
def yi' : R2 := fun x y H Q => yj' x y H Q \/ rI CMulW (fun i j => .int (i * j)) x y H Q
theorem db' {X : Cx} : OpR X (binaryOp .Mult) yi' := v3'.or op_mulW
theorem yM' {i : Int} (h : -2582249878086908589655919172003011874329705792829223512830659356540647622016841194629645353280137831435903171972747493376 < i /\ i < 2582249878086908589655919172003011874329705792829223512830659356540647622016841194629645353280137831435903171972747493376) : i.natAbs < 2 ^ 400 := by
  have : (2 : Nat) ^ 400 = 2582249878086908589655919172003011874329705792829223512830659356540647622016841194629645353280137831435903171972747493376 := by decide +kernel
  omega
theorem i6' : Op2 K M.iY' yi' := by
  intro F H T fp x y dx dy dz Q f hx hy h k
  cases dx <;> cases dy <;> try (cases h; done)
  . cases hx; cases hy
    simp only [M.iY'] at h
    split at h
    . rename_i hc
      cases h
      rcases hc with hc | hc
      . refine .inl (.inl ⟨_, _, rfl, rfl, ?_, k.here f (.int _)⟩)
        rcases hc with hc | hc <;> simp only [M.small64, Bool.and_eq_true, decide_eq_true_eq] at hc
        . exact .inl hc
        . exact .inr hc
      . exact .inr ⟨_, _, rfl, rfl, wide_mul (yM' hc.1) (yM' hc.2) (by decide) (by decide) (by decide), k.here f (.int _)⟩
    . cases h
  . obtain ⟨rfl, o1⟩ := hx.str_inv
    cases hy
    simp only [M.iY'] at h
    split at h
    . rename_i hc
      cases h
      refine .inl (.inr (.inl ⟨_, _, rfl, rfl, hc.1, hc.2.1, by rw [cz', bM']; exact hc.2.2, ?_⟩))
      rw [yf']
      exact k.here f (.str (yh' o1 hc.2.2))
    . cases h
  . obtain ⟨a, vs, rfl, ha, za⟩ := hx.lst_inv
    cases hy
    simp only [M.iY'] at h
    split at h
    . rename_i hc
      cases h
      refine .inl (.inr (.inr ⟨a, _, vs, rfl, rfl, f.low _ _ ha, by omega, by omega, by rw [za.length, bM']; exact hc.2.2, fun p hp => k.newL f (za.rep _) hp⟩))
    . cases h
theorem kl' : Op2 K M.iZ' (rI CDivW fun i j => .int (i / j)) := by
  intro F H T fp x y dx dy dz Q f hx hy h k
  cases dx <;> cases dy <;> try (cases h; done)
  cases hx; cases hy
  simp only [M.iZ'] at h
  split at h
  . rename_i hc
    cases h
    refine ⟨_, _, rfl, rfl, wide_div (b := 200) hc.1 ?_ (by decide) (by decide), k.here f (.int _)⟩
    have : (2 : Nat) ^ 200 = 1606938044258990275541962092341162602522202993782792835301376 := by decide +kernel
    omega
  . cases h
theorem fB' : Op2 K M.kf' (rI (fun _ j => 0 < j) fun i j => .int (i % j)) := by
  intro F H T fp x y dx dy dz Q f hx hy h k
  cases dx <;> cases dy <;> try (cases h; done)
  cases hx; cases hy
  simp only [M.kf'] at h
  split at h
  . rename_i hc
    cases h
    exact ⟨_, _, rfl, rfl, hc, k.here f (.int _)⟩
  . cases h
theorem Bu' : Op2 K M.yB' (rI CPow fun i j => .int (i ^ j.toNat)) := by
  intro F H T fp x y dx dy dz Q f hx hy h k
  cases dx <;> cases dy <;> try (cases h; done)
  cases hx; cases hy
  simp only [M.yB'] at h
  split at h
  . rename_i hc
    cases h
    obtain ⟨h1, h2, h3⟩ := hc
    simp only [M.small64, Bool.and_eq_true, decide_eq_true_eq] at h3
    exact ⟨_, _, rfl, rfl, ⟨h1, by omega, by omega⟩, k.here f (.int _)⟩
  . cases h
theorem yG' : Op2 K M.pLt (uE' (fun i j => decide (i < j)) fun a b => decide (a < b)) := by
  intro F H T fp x y dx dy dz Q f hx hy h k
  cases dx <;> cases dy <;> try (cases h; done)
  . cases hx; cases hy; cases h
    exact .inl ⟨_, _, rfl, rfl, k.here f (.bl _)⟩
  . obtain ⟨rfl, o1⟩ := hx.str_inv
    obtain ⟨rfl, o2⟩ := hy.str_inv
    cases h
    exact .inr ⟨_, _, rfl, rfl, k.here f (.bl _)⟩
theorem At' : Op2 K M.pLe (uE' (fun i j => decide (i <= j)) fun a b => !decide (b < a)) := by
  intro F H T fp x y dx dy dz Q f hx hy h k
  cases dx <;> cases dy <;> try (cases h; done)
  . cases hx; cases hy; cases h
    exact .inl ⟨_, _, rfl, rfl, k.here f (.bl _)⟩
  . obtain ⟨rfl, o1⟩ := hx.str_inv
    obtain ⟨rfl, o2⟩ := hy.str_inv
    cases h
    exact .inr ⟨_, _, rfl, rfl, k.here f (.bl _)⟩
theorem Au' : Op2 K M.pGt (uE' (fun i j => decide (j < i)) fun a b => decide (b < a)) := by
  intro F H T fp x y dx dy dz Q f hx hy h k
  cases dx <;> cases dy <;> try (cases h; done)
  . cases hx; cases hy; cases h
    exact .inl ⟨_, _, rfl, rfl, k.here f (.bl _)⟩
  . obtain ⟨rfl, o1⟩ := hx.str_inv
    obtain ⟨rfl, o2⟩ := hy.str_inv
    cases h
    exact .inr ⟨_, _, rfl, rfl, k.here f (.bl _)⟩
theorem Av' : Op2 K M.pGe (uE' (fun i j => decide (j <= i)) fun a b => !decide (a < b)) := by
  intro F H T fp x y dx dy dz Q f hx hy h k
  cases dx <;> cases dy <;> try (cases h; done)
  . cases hx; cases hy; cases h
    exact .inl ⟨_, _, rfl, rfl, k.here f (.bl _)⟩
  . obtain ⟨rfl, o1⟩ := hx.str_inv
    obtain ⟨rfl, o2⟩ := hy.str_inv
    cases h
    exact .inr ⟨_, _, rfl, rfl, k.here f (.bl _)⟩
def CK' : R2 := fun x y H Q => CL' x y H Q \/ rIsB x y H Q
theorem v4' {X : Cx} : OpR X (compareOp .Is) CK' := v5'.or op_isBl
theorem yZ' {F : Hp} {T : List Addr} {x : V} {d : M.D} (h : Fz K F T x d) : decide (x = .non) = M.e1' d := by cases h <;> rfl
theorem Dq' : Op2 K M.pIs CK' := by
  intro F H T fp x y dx dy dz Q f hx hy h k
  cases dy with
  | non =>
    cases hy
    have e : M.D.bl (M.e1' dx) = dz := by cases dx <;> exact Option.some.inj h
    subst e
    exact .inl ⟨rfl, by rw [yZ' hx]; exact k.here f (.bl _)⟩
  | bl b =>
    cases dx <;> try (cases h; done)
    cases hx; cases hy; cases h
    refine .inr ⟨_, _, rfl, rfl, ?_⟩
    rw [<- Bool.beq_eq_decide_eq]
    exact k.here f (.bl _)
  | _ => cases dx <;> cases h
theorem FzA.ati {F : Hp} {T : List Addr} {vs : List V} {ds : List M.D} {i : Int} {d : M.D} (h : FzA K F T vs ds) (e : M.ati ds i = some d) : ∃ v, atI vs i = some v /\ Fz K F T v d := by
  unfold M.ati at e
  unfold atI
  rw [h.length]
  cases q : M.ixn ds.length i with
  | none => rw [q] at e; cases e
  | some j =>
    rw [q] at e
    obtain ⟨v, h1, h2⟩ := h.get (i := j) e
    have q' : ixN ds.length i = some j := q
    rw [q']
    exact ⟨v, h1, h2⟩
theorem f7' : Op2 K M.pIx (rIx K) := by
  intro F H T fp x y dx dy dz Q f hx hy h k
  cases dx <;> cases dy <;> try (cases h; done)
  . obtain ⟨rfl, o1⟩ := hx.str_inv
    cases hy
    simp only [M.pIx] at h
    rename_i s i
    cases q : M.ati s i with
    | none => rw [q] at h; cases h
    | some c =>
      rw [q] at h
      cases h
      have hc : c ∈ s := by
        unfold M.ati at q
        cases q2 : M.ixn s.length i with
        | none => rw [q2] at q; cases q
        | some j => rw [q2] at q; exact List.mem_of_getElem? q
      exact .inr (.inr ⟨_, _, c, rfl, rfl, o1.len, q, k.here f (rQ' (o1.1 c hc))⟩)
  . obtain ⟨a, vs, rfl, ha, za⟩ := hx.tup_inv
    cases hy
    obtain ⟨v, h1, h2⟩ := za.ati h
    exact .inr (.inl ⟨a, vs, _, v, rfl, rfl, seqT f.low ha, h1, k.here f h2⟩)
  . obtain ⟨a, vs, rfl, ha, za⟩ := hx.lst_inv
    cases hy
    obtain ⟨v, h1, h2⟩ := za.ati h
    exact .inl ⟨a, vs, _, v, rfl, rfl, SqL.of (f.low _ _ ha), h1, k.here f h2⟩
def CZ' (K : PySem.W.Frag) (r : V -> Option Int -> Option Int -> Hp -> VK -> Prop) : Prop := ∀ {F H : Hp} {T : List Addr} {fp : Fp} {x : V} {dx dz : M.D} {lo hi : Option Int} {Q : VK}, FpH F H fp -> Fz K F T x dx -> M.pSl dx lo hi = some dz -> eD' K F T fp dz Q -> r x lo hi H Q
theorem r0' {s : M.Tx} {lo hi : Option Int} : (∀ c ∈ M.cut s lo hi, c ∈ s) /\ (M.cut s lo hi).length <= s.length := by
  unfold M.cut
  refine ⟨fun c hc => List.mem_of_mem_drop (List.mem_of_mem_take hc), ?_⟩
  rw [List.length_take, List.length_drop]
  omega
theorem wb' : CZ' K (CJ' K) := by
  intro F H T fp x dx dz lo hi Q f hx h k
  cases dx <;> try (cases h; done)
  . obtain ⟨rfl, o1⟩ := hx.str_inv
    cases h
    refine .inr (.inl ⟨_, rfl, o1.len, ?_⟩)
    have e : cutS (sx ‹M.Tx›) lo hi = sx (M.cut ‹M.Tx› lo hi) := iM' (by rw [zY']; rfl)
    rw [e]
    exact k.here f (.str (o1.sub r0'.1 r0'.2))
  . obtain ⟨a, vs, rfl, ha, za⟩ := hx.tup_inv
    cases h
    refine .inr (.inr ⟨a, vs, rfl, seqT f.low ha, fun e => ?_, fun _ p hp => k.newT f za.cutV hp⟩)
    refine k.here f ?_
    have e2 : M.cut ‹List M.D› lo hi = ‹List M.D› := by
      unfold M.cut
      rw [<- za.length]
      have e1 : M.six vs.length 0 lo = 0 := e.1
      have e3 : M.six vs.length vs.length hi = vs.length := e.2
      rw [e1, e3, List.drop_zero, Nat.sub_zero, za.length, List.take_length]
    rw [e2]
    exact .tup ha za
  . obtain ⟨a, vs, rfl, ha, za⟩ := hx.lst_inv
    cases h
    exact .inl ⟨a, vs, rfl, SqL.of (f.low _ _ ha), fun p hp => k.newL f za.cutV hp⟩
  . cases hx with
    | scr ha za =>
      cases h
      exact .inl ⟨_, _, rfl, Same.seq f.low ha, fun p hp => k.newL f za.cutV hp⟩
end
end S
namespace S
open PySem PySem.Spec PyProof.Rows L2
variable [Wd] [Hot]
section
variable {K : PySem.W.Frag} {F F' H H' : Hp} {T T' : List Addr} {fp fq fr : Fp} {ρ : M.PSt} {σ : St}
abbrev keys (fp : Fp) : List Addr := fp.map (·.1)
theorem FpH.sub (f : FpH F H fp) (hm : ∀ e ∈ fq, e ∈ fp) (hc : ∀ a, (keys fq).count a <= (keys fp).count a) : FpH F H fq := by
  refine ⟨f.low, fun e he => f.at_ e (hm e he), ?_, f.tbs fun a h1 h2 h3 => ⟨h1, rfl, fun e he => h3 e (hm e he)⟩⟩
  rw [List.nodup_iff_count]
  exact fun a => Nat.le_trans (hc a) (List.nodup_iff_count.mp f.nd a)
structure Part (a b : Fp) : Prop where
  m : ∀ e ∈ a, e ∈ b
  c : ∀ x, (keys a).count x <= (keys b).count x
theorem FpH.part (f : FpH F H fp) (p : Part fq fp) : FpH F H fq := f.sub p.m p.c
theorem Part.refl {a : Fp} : Part a a := ⟨fun _ h => h, fun _ => Nat.le_refl _⟩
theorem Part.trans {a b c : Fp} (p : Part a b) (q : Part b c) : Part a c := ⟨fun e h => q.m e (p.m e h), fun x => Nat.le_trans (p.c x) (q.c x)⟩
theorem Part.app {a b c d : Fp} (p : Part a b) (q : Part c d) : Part (a ++ c) (b ++ d) := by
  refine ⟨fun e h => ?_, fun x => ?_⟩
  . rcases List.mem_append.mp h with h | h
    . exact List.mem_append_left _ (p.m e h)
    . exact List.mem_append_right _ (q.m e h)
  . have := p.c x
    have := q.c x
    simp only [keys, List.map_append, List.count_append] at *
    omega
theorem Part.left {a b c : Fp} (p : Part a b) : Part a (b ++ c) := by
  refine ⟨fun e h => List.mem_append_left _ (p.m e h), fun x => ?_⟩
  have := p.c x
  simp only [keys, List.map_append, List.count_append] at *
  omega
theorem Part.right {a b c : Fp} (p : Part a c) : Part a (b ++ c) := by
  refine ⟨fun e h => List.mem_append_right _ (p.m e h), fun x => ?_⟩
  have := p.c x
  simp only [keys, List.map_append, List.count_append] at *
  omega
theorem Part.nil {b : Fp} : Part [] b := ⟨fun e h => (nomatch h), fun x => by simp [keys]⟩
local macro_rules | `(tactic| walk_at "parts") => `(tactic| (constructor; (intro e h; simp only [List.mem_append, List.mem_cons] at *; grind); (intro x; simp only [keys, List.map_append, List.map_cons, List.count_append, List.count_cons] at *; omega)))
theorem Part.swap {a b c : Fp} : Part (a ++ (b ++ c)) (b ++ (a ++ c)) := by walk_at "parts"
theorem RpE.get {env : List (Option M.O)} {i : Nat} {o : M.O} (r : RpE K F T σ env fp) (h : env[i]? = some (some o)) (hne : M.A0' o = true := by first | assumption | rfl) : ∃ v f1 f2 f3, σ[i]? = some (some v) /\ fp = f1 ++ (f2 ++ f3) /\ Rp K F T v o f2 ∧
    RpE K F T σ (env.set i none) (f1 ++ f3) /\ ∀ F' T' v' o' f2', Ext F T F' T' -> Rp K F' T' v' o' f2' -> RpE K F' T' (σ.set i (some v')) (env.set i (some o')) (f1 ++ (f2' ++ f3)) := by
  induction r generalizing i with
  | nil => cases h
  | off r ih =>
    cases i with
    | zero => cases h
    | succ i =>
      obtain ⟨v, f1, f2, f3, h1, rfl, h3, h4, h5⟩ := ih (i := i) h
      exact ⟨v, f1, f2, f3, h1, rfl, h3, .off h4, fun F' T' v' o' f2' e r' => .off (h5 F' T' v' o' f2' e r')⟩
  | @on v0 o0 σ env fa fb r0 r ih =>
    cases i with
    | zero =>
      have e : o0 = o := Option.some.inj (Option.some.inj h)
      subst e
      exact ⟨v0, [], fa, fb, rfl, rfl, r0, .off r, fun F' T' v' o' f2' e r' => (RpE.on r' (r.mono e) : RpE K F' T' _ _ (f2' ++ fb))⟩
    | succ i =>
      obtain ⟨v, f1, f2, f3, h1, rfl, h3, h4, h5⟩ := ih (i := i) h
      refine ⟨v, fa ++ f1, f2, f3, h1, by simp, h3, ?_, fun F' T' v' o' f2' e r' => ?_⟩
      . rw [List.append_assoc]; exact .on r0 h4
      . rw [List.append_assoc]; exact .on (r0.mono e) (h5 F' T' v' o' f2' e r')
  | hot hh z r ih =>
    cases i with
    | zero => rw [<- Option.some.inj (Option.some.inj h)] at hne; cases hne
    | succ i =>
      obtain ⟨v, f1, f2, f3, h1, rfl, h3, h4, h5⟩ := ih (i := i) h
      exact ⟨v, f1, f2, f3, h1, rfl, h3, .hot (by rw [List.length_set]; exact hh) z h4, fun F' T' v' o' f2' e r' => .hot (by rw [List.length_set]; exact hh) (z.mono' e) (h5 F' T' v' o' f2' e r')⟩
  | clo hh z r ih =>
    cases i with
    | zero => rw [<- Option.some.inj (Option.some.inj h)] at hne; cases hne
    | succ i =>
      obtain ⟨v, f1, f2, f3, h1, rfl, h3, h4, h5⟩ := ih (i := i) h
      exact ⟨v, f1, f2, f3, h1, rfl, h3, .clo (by rw [List.length_set]; exact hh) z h4, fun F' T' v' o' f2' e r' => .clo (by rw [List.length_set]; exact hh) (z.mono e) (h5 F' T' v' o' f2' e r')⟩
theorem RpE.val {env : List (Option M.O)} {i : Nat} {o : M.O} (r : RpE K F T σ env fp) (h : env[i]? = some (some o)) : ∃ v, σ[i]? = some (some v) := by
  induction r generalizing i with
  | nil => cases h
  | off r ih => cases i with
    | zero => cases h
    | succ i => exact ih (i := i) h
  | on _ r ih => cases i with
    | zero => exact ⟨_, rfl⟩
    | succ i => exact ih (i := i) h
  | hot _ _ r ih => cases i with
    | zero => exact ⟨_, rfl⟩
    | succ i => exact ih (i := i) h
  | clo _ _ r ih => cases i with
    | zero => exact ⟨_, rfl⟩
    | succ i => exact ih (i := i) h
theorem RpE.exn {env : List (Option M.O)} {i : Nat} (r : RpE K F T σ env fp) (h : env[i]? = some (some .exn)) : ∃ a n dd x, Hot.hot = some (a, n, dd, x) /\ XcR K F T x (.ref (He.ga K x.cls)) dd /\ σ[i]? = some (some (.ref a)) := by
  induction r generalizing i with
  | nil => cases h
  | off r ih => cases i with
    | zero => cases h
    | succ i => exact ih (i := i) h
  | on q r ih => cases i with
    | zero =>
      have e := Option.some.inj (Option.some.inj h)
      subst e
      cases q
    | succ i => exact ih (i := i) h
  | hot hh z r ih => cases i with
    | zero => exact ⟨_, _, _, _, hh, z, rfl⟩
    | succ i => exact ih (i := i) h
  | clo hh z r ih => cases i with
    | zero => cases h
    | succ i => exact ih (i := i) h
theorem eJ' {α : Type} : ∀ {l : List α} {i : Nat} {x : α}, l[i]? = some x -> l.set i x = l
  | [], _, _, h => by cases h
  | a :: l, 0, x, h => by rw [<- Option.some.inj h]; rfl
  | a :: l, i + 1, x, h => by
    show a :: l.set i x = a :: l
    rw [eJ' (l := l) (i := i) h]
theorem RpE.len {env : List (Option M.O)} (r : RpE K F T σ env fp) : σ.length = env.length := by
  induction r with
  | nil => rfl
  | off _ ih => exact congrArg (· + 1) ih
  | on _ _ ih => exact congrArg (· + 1) ih
  | hot _ _ _ ih => exact congrArg (· + 1) ih
  | clo _ _ _ ih => exact congrArg (· + 1) ih
theorem RpE.drop {env : List (Option M.O)} (r : RpE K F T σ env fp) (i : Nat) (x : Option V) : ∃ fq, RpE K F T (σ.set i x) (env.set i none) fq /\ Part fq fp := by
  induction r generalizing i with
  | nil => exact ⟨[], .nil, .refl⟩
  | @off y σ env fp r ih =>
    cases i with
    | zero => exact ⟨_, .off r, .refl⟩
    | succ i =>
      obtain ⟨fq, h1, h2⟩ := ih i
      exact ⟨fq, .off h1, h2⟩
  | @on v0 o0 σ env fa fb r0 r ih =>
    cases i with
    | zero => exact ⟨_, .off r, .right .refl⟩
    | succ i =>
      obtain ⟨fq, h1, h2⟩ := ih i
      exact ⟨_, .on r0 h1, .app .refl h2⟩
  | hot hh z r ih =>
    cases i with
    | zero => exact ⟨_, .off r, .refl⟩
    | succ i =>
      obtain ⟨fq, h1, h2⟩ := ih i
      exact ⟨fq, .hot (by rw [List.length_set]; exact hh) z h1, h2⟩
  | clo hh z r ih =>
    cases i with
    | zero => exact ⟨_, .off r, .refl⟩
    | succ i =>
      obtain ⟨fq, h1, h2⟩ := ih i
      exact ⟨fq, .clo (by rw [List.length_set]; exact hh) z h1, h2⟩
theorem RpE.drop0 {env : List (Option M.O)} (r : RpE K F T σ env fp) (i : Nat) : ∃ fq, RpE K F T σ (env.set i none) fq /\ Part fq fp := by
  induction r generalizing i with
  | nil => exact ⟨[], .nil, .refl⟩
  | @off y σ env fp r ih =>
    cases i with
    | zero => exact ⟨_, .off r, .refl⟩
    | succ i =>
      obtain ⟨fq, h1, h2⟩ := ih i
      exact ⟨fq, .off h1, h2⟩
  | @on v0 o0 σ env fa fb r0 r ih =>
    cases i with
    | zero => exact ⟨_, .off r, .right .refl⟩
    | succ i =>
      obtain ⟨fq, h1, h2⟩ := ih i
      exact ⟨_, .on r0 h1, .app .refl h2⟩
  | hot hh z r ih =>
    cases i with
    | zero => exact ⟨_, .off r, .refl⟩
    | succ i =>
      obtain ⟨fq, h1, h2⟩ := ih i
      exact ⟨fq, .hot (by rw [List.length_set]; exact hh) z h1, h2⟩
  | clo hh z r ih =>
    cases i with
    | zero => exact ⟨_, .off r, .refl⟩
    | succ i =>
      obtain ⟨fq, h1, h2⟩ := ih i
      exact ⟨fq, .clo (by rw [List.length_set]; exact hh) z h1, h2⟩
theorem RpE.put {env : List (Option M.O)} (r : RpE K F T σ env fp) {i : Nat} (hi : i < env.length) {v : V} {o : M.O} {f2 : Fp} (q : Rp K F T v o f2) :
    ∃ fq, RpE K F T (σ.set i (some v)) (env.set i (some o)) fq /\ Part fq (fp ++ f2) := by
  induction r generalizing i with
  | nil => cases hi
  | @off y σ env fp r ih =>
    cases i with
    | zero => exact ⟨_, .on q r, by walk_at "parts"⟩
    | succ i =>
      obtain ⟨fq, h1, h2⟩ := ih (i := i) (Nat.lt_of_succ_lt_succ hi)
      exact ⟨fq, .off h1, h2⟩
  | @on v0 o0 σ env fa fb r0 r ih =>
    cases i with
    | zero => exact ⟨_, .on q r, by walk_at "parts"⟩
    | succ i =>
      obtain ⟨fq, h1, h2⟩ := ih (i := i) (Nat.lt_of_succ_lt_succ hi)
      refine ⟨_, .on r0 h1, ?_⟩
      rw [List.append_assoc]
      exact .app .refl h2
  | hot hh z r ih =>
    cases i with
    | zero => exact ⟨_, .on q r, by walk_at "parts"⟩
    | succ i =>
      obtain ⟨fq, h1, h2⟩ := ih (i := i) (Nat.lt_of_succ_lt_succ hi)
      exact ⟨fq, .hot (by rw [List.length_set]; exact hh) z h1, h2⟩
  | clo hh z r ih =>
    cases i with
    | zero => exact ⟨_, .on q r, by walk_at "parts"⟩
    | succ i =>
      obtain ⟨fq, h1, h2⟩ := ih (i := i) (Nat.lt_of_succ_lt_succ hi)
      exact ⟨fq, .clo (by rw [List.length_set]; exact hh) z h1, h2⟩
theorem RpE.put0 {env : List (Option M.O)} (r : RpE K F T σ env fp) {i : Nat} {v : V} (hi : σ[i]? = some (some v)) {o : M.O} {f2 : Fp} (q : Rp K F T v o f2) :
    ∃ fq, RpE K F T σ (env.set i (some o)) fq /\ Part fq (fp ++ f2) := by
  have hl : i < env.length := by rw [<- r.len]; exact (List.getElem?_eq_some_iff.mp hi).1
  obtain ⟨fq, h1, h2⟩ := r.put hl q
  rw [eJ' hi] at h1
  exact ⟨fq, h1, h2⟩
def tZ' (F : Hp) : Fp -> Hp
  | [] => F
  | e :: r => upd (tZ' F r) e.1 e.2
theorem fd' {a : Addr} : ∀ {fp : Fp}, a ∉ keys fp -> tZ' F fp a = F a
  | [], _ => rfl
  | e :: r, h => by
    have h' : a ≠ e.1 /\ a ∉ keys r := by simpa [keys] using h
    show upd (tZ' F r) e.1 e.2 a = F a
    rw [upd_ne h'.1, fd' h'.2]
theorem gF' : ∀ {fp : Fp}, (keys fp).Nodup -> ∀ e ∈ fp, tZ' F fp e.1 = some e.2
  | e :: r, h, e', he => by
    obtain ⟨h1, h2⟩ := List.nodup_cons.mp h
    show upd (tZ' F r) e.1 e.2 e'.1 = _
    rcases List.mem_cons.mp he with rfl | he
    . exact upd_same
    . rw [upd_ne fun z => h1 (by have q : e'.1 ∈ keys r := List.mem_map_of_mem he; rw [z] at q; exact q)]
      exact gF' h2 e' he
theorem hF' {fp : Fp} (h : ∀ e ∈ fp, F e.1 = none) : Same F (tZ' F fp) := fun a o e => by
  rw [fd' fun z => ?_]
  . exact e
  . obtain ⟨x, h1, h2⟩ := List.mem_map.mp z
    rw [<- h2, h x h1] at e
    cases e
theorem FpH.freeze {a b : Fp} (f : FpH F H (a ++ b)) : FpH (tZ' F a) H b := by
  have nd : (keys a ++ keys b).Nodup := by rw [<- List.map_append]; exact f.nd
  obtain ⟨n1, n2, n3⟩ := List.nodup_append.mp nd
  refine ⟨fun p o h => ?_, fun e he => ⟨(f.at_ e (List.mem_append_right _ he)).1, ?_⟩, n2, f.tbs (fun p h1 h2 h3 => ⟨?_, rfl, fun e he => h3 e (List.mem_append_right _ he)⟩) fun c q h => lz' (hF' fun e he => (f.at_ e (List.mem_append_left _ he)).2) h⟩
  . by_cases hp : p ∈ keys a
    . obtain ⟨x, h1, rfl⟩ := List.mem_map.mp hp
      rw [gF' n1 x h1] at h
      rw [(f.at_ x (List.mem_append_left _ h1)).1]
      exact h
    . rw [fd' hp] at h
      exact f.low _ _ h
  . rw [fd' fun z => n3 _ z _ (List.mem_map_of_mem he) rfl]
    exact (f.at_ e (List.mem_append_right _ he)).2
  . rw [fd' fun z => ?_]
    . exact h1
    . obtain ⟨x, hx, e⟩ := List.mem_map.mp z
      exact h3 x (List.mem_append_left _ hx) e
mutual
theorem Rp.freeze {G : Hp} (s : Same F G) : ∀ {v : V} {o : M.O} {fp : Fp}, Rp K F T v o fp -> (∀ e ∈ fp, G e.1 = some e.2) -> Fz K G T v (M.frz o)
  | _, _, _, .fz h, _ => h.mono (.of s)
  | _, _, _, .lst r, g => .lst (g _ List.mem_cons_self) (RpA.freeze s r fun e he => g e (List.mem_cons_of_mem _ he))
  | _, _, _, .tup r, g => .tup (SqT.of (g _ List.mem_cons_self)) (RpA.freeze s r fun e he => g e (List.mem_cons_of_mem _ he))
  | _, _, _, .dct k r, g => .dct (.inl (g _ List.mem_cons_self)) k (RpA.freeze s r fun e he => g e (List.mem_cons_of_mem _ he))
  | _, _, _, .dcl k r, g => .dcl (.inl (g _ List.mem_cons_self)) k (RpA.freeze s r fun e he => g e (List.mem_cons_of_mem _ he))
  | _, _, _, .dcn k q r, g => .dcn (.inl (g _ List.mem_cons_self)) k (q.mono (.of s)) (RpA.freeze s r fun e he => g e (List.mem_cons_of_mem _ he))
theorem RpA.freeze {G : Hp} (s : Same F G) : ∀ {vs : List V} {os : List M.O} {fp : Fp}, RpA K F T vs os fp -> (∀ e ∈ fp, G e.1 = some e.2) -> FzA K G T vs (M.frzs os)
  | _, _, _, .nil, _ => .nil
  | _, _, _, .cons h r, g => .cons (Rp.freeze s h fun e he => g e (List.mem_append_left _ he)) (RpA.freeze s r fun e he => g e (List.mem_append_right _ he))
end
theorem Rp.frozen {v : V} {o : M.O} {a b : Fp} (q : Rp K F T v o a) (f : FpH F H (a ++ b)) : ∃ G, Same F G /\ Fz K G T v (M.frz o) /\ FpH G H b := by
  have s : Same F (tZ' F a) := hF' fun e he => (f.at_ e (List.mem_append_left _ he)).2
  refine ⟨_, s, q.freeze s fun e he => gF' ?_ e he, f.freeze⟩
  have nd : (keys a ++ keys b).Nodup := by rw [<- List.map_append]; exact f.nd
  exact (List.nodup_append.mp nd).1
theorem RpA.frozen {v : List V} {o : List M.O} {a b : Fp} (q : RpA K F T v o a) (f : FpH F H (a ++ b)) : ∃ G, Same F G /\ FzA K G T v (M.frzs o) /\ FpH G H b := by
  have s : Same F (tZ' F a) := hF' fun e he => (f.at_ e (List.mem_append_left _ he)).2
  refine ⟨_, s, q.freeze s fun e he => gF' ?_ e he, f.freeze⟩
  have nd : (keys a ++ keys b).Nodup := by rw [<- List.map_append]; exact f.nd
  exact (List.nodup_append.mp nd).1
theorem Rel.frozen {v : V} {o : M.O} (r : Rel K ρ σ H F T (fp ++ fr)) (q : Rp K F T v o fp) : ∃ G, Same F G /\ Fz K G T v (M.frz o) /\ Rel K ρ σ H G T fr := by
  obtain ⟨fe, fw, re, rw, f⟩ := r
  have f' : FpH F H (fp ++ (fe ++ (fw ++ fr))) := f.part (by walk_at "parts")
  obtain ⟨G, s, z, f2⟩ := q.frozen f'
  exact ⟨G, s, z, fe, fw, re.mono (.of s), rw.mono (.of s), f2⟩
theorem Rel.part {fr' : Fp} (r : Rel K ρ σ H F T fr) (p : Part fr' fr) : Rel K ρ σ H F T fr' := by
  obtain ⟨fe, fw, re, rw, f⟩ := r
  exact ⟨fe, fw, re, rw, f.part (.app .refl (.app .refl p))⟩
theorem FpH.own {p : Addr} {o : HO} (f : FpH F H fp) (hp : H p = none) : FpH F (upd H p o) ((p, o) :: fp) := by
  have np : ∀ e ∈ fp, e.1 ≠ p := fun e he => ne_of_none (f.at_ e he).1 hp
  refine ⟨fun a u h => ?_, fun e he => ?_, ?_, f.tbs fun a h1 h2 h3 => ?_⟩
  . rw [upd_ne (ne_of_none (f.low _ _ h) hp)]; exact f.low _ _ h
  . rcases List.mem_cons.mp he with rfl | he
    . exact ⟨upd_same, f.free hp⟩
    . rw [upd_ne (np e he)]; exact f.at_ e he
  . refine List.nodup_cons.mpr ⟨fun h => ?_, f.nd⟩
    obtain ⟨x, h1, h2⟩ := List.mem_map.mp h
    exact np x h1 h2
  . have ha : a ≠ p := fun z => h2 (by rw [z]; exact hp)
    refine ⟨h1, upd_ne ha, fun e he => ?_⟩
    rcases List.mem_cons.mp he with rfl | he
    . exact Ne.symm ha
    . exact h3 e he
theorem FpH.write {p : Addr} {o o' : HO} {a b : Fp} (f : FpH F H (a ++ ((p, o) :: b))) : FpH F (upd H p o') (a ++ ((p, o') :: b)) := by
  have nd : (keys a ++ (p :: keys b)).Nodup := by
    have := f.nd
    simpa [keys] using this
  obtain ⟨n1, n2, n3⟩ := List.nodup_append.mp nd
  have hp : F p = none := (f.at_ (p, o) (by simp)).2
  refine ⟨fun x u h => ?_, fun e he => ?_, ?_, f.tbs fun x h1 h2 h3 => ?_⟩
  . rw [upd_ne (fun z => by rw [z, hp] at h; cases h)]; exact f.low _ _ h
  . rcases List.mem_append.mp he with h | h
    . rw [upd_ne (n3 _ (List.mem_map_of_mem h) _ List.mem_cons_self)]
      exact f.at_ e (List.mem_append_left _ h)
    . rcases List.mem_cons.mp h with rfl | h
      . exact ⟨upd_same, hp⟩
      . rw [upd_ne (fun z => (List.nodup_cons.mp n2).1 (by have q : e.1 ∈ keys b := List.mem_map_of_mem h; rw [z] at q; exact q))]
        exact f.at_ e (List.mem_append_right _ (List.mem_cons_of_mem _ h))
  . have e : (a ++ ((p, o') :: b)).map (·.1) = keys a ++ (p :: keys b) := by simp [keys]
    rw [e]
    exact nd
  . have ha : x ≠ p := fun z => h3 (p, o) (by simp) z.symm
    refine ⟨h1, upd_ne ha, fun e he => ?_⟩
    rcases List.mem_append.mp he with h | h
    . exact h3 e (List.mem_append_left _ h)
    . rcases List.mem_cons.mp h with rfl | h
      . exact Ne.symm ha
      . exact h3 e (List.mem_append_right _ (List.mem_cons_of_mem _ h))
end
section
variable {X : Cx} {W : WX} {K : PySem.W.Frag} {pos : Pos}
theorem af' {i j pos} : SE X W (.Constant (.int i) j pos) (M.eC (.int i)) := PE.imp pe_int fun σ H Q ⟨ρ, F, T, fr, rel, h⟩ => h _ _ _ _ .refl (.int i) rel
theorem cX' {b j pos} : SE X W (.Constant (.bool b) j pos) (M.eC (.bl b)) := PE.imp pe_bl fun σ H Q ⟨ρ, F, T, fr, rel, h⟩ => h _ _ _ _ .refl (.bl b) rel
theorem nt' {j pos} : SE X W (.Constant .none j pos) (M.eC .non) := PE.imp pe_non fun σ H Q ⟨ρ, F, T, fr, rel, h⟩ => h _ _ _ _ .refl .non rel
def As' (s : M.Tx) : Bool := s.all (fun c => decide (c < 1114112)) && decide (s.length <= 16777216)
theorem uI' {s : M.Tx} (h : As' s = true) : okT s := by
  unfold As' at h
  rw [Bool.and_eq_true, List.all_eq_true] at h
  exact ⟨fun c hc => of_decide_eq_true (h.1 c hc), of_decide_eq_true h.2⟩
theorem d7' {x : Str} {j pos} (s : M.Tx) (hs : x = sx s) (ho : As' s = true) : SE X W (.Constant (.str x) j pos) (M.eC (.str s)) := by
  subst hs
  exact PE.imp pe_str fun σ H Q ⟨ρ, F, T, fr, rel, h⟩ => h _ _ _ _ .refl (.str (uI' ho)) rel
theorem De' {e : Expr} {v : V} {d : M.D} (h : PE X e (tC v)) (z : ∀ F T, Fz X.K F T v d) : SE X W e (M.eC d) := PE.imp h fun σ H Q ⟨ρ, F, T, fr, rel, h⟩ => h _ _ _ _ .refl (z F T) rel
theorem x1' {i : Nat} {σ : St} {H : Hp} {Q : VK} (h : qE K W (M.eV i) σ H Q) : tVar i σ H Q := by
  obtain ⟨ρ, F, T, fr, rel, h⟩ := h
  unfold M.eV at h
  split at h
  . rename_i d e
    obtain ⟨fe, fw, re, rw, f⟩ := id rel
    obtain ⟨v, f1, f2, f3, h1, rfl, h3, h4, h5⟩ := re.get e
    cases h3 with
    | fz z => exact ⟨v, h1, h v H F T .refl z rel⟩
  . exact h.elim
  . exact h.elim
  . rename_i o _ hne hnc e
    obtain ⟨fe, fw, re, rw, f⟩ := rel
    obtain ⟨v, f1, f2, f3, h1, rfl, h3, h4, h5⟩ := re.get e (M.dt' (fun z => hne (by rw [z])) fun z => hnc (by rw [z]))
    have f' : FpH F H (f2 ++ (f1 ++ f3 ++ (fw ++ fr))) := f.part (by refine ⟨fun e h => ?_, fun x => ?_⟩; (simp only [List.mem_append] at *; grind); (simp only [keys, List.map_append, List.count_append] at *; omega))
    obtain ⟨G, s, z, fG⟩ := h3.frozen f'
    have re' := h5 G T v (.fz (M.frz o)) [] (.of s) (.fz z)
    rw [eJ' h1] at re'
    exact ⟨v, h1, h v H G T (.of s) z ⟨_, fw, re', rw.mono (.of s), by simpa using fG⟩⟩
  . exact h.elim
theorem ac' {e : Expr} {i : Nat} (h : PE X e (tVar i)) : SE X W e (M.eV i) := PE.imp h fun _ _ _ => x1'
variable {a b c : Expr} {ma mb mc : M.ME} {σ : St} {H : Hp} {Q : VK}
theorem i0' {f : M.D -> M.D -> Option M.D} {r : R2} (hf : Op2 K f r) (h : qE K W (M.eOp f ma mb) σ H Q) : tOp r (qE K W ma) (qE K W mb) σ H Q := by
  obtain ⟨ρ, F, T, fr, rel, h⟩ := h
  refine ay' rel h fun dx ρ1 v H1 F1 T1 e1 z1 r1 h1 => ?_
  refine ay' r1 h1 fun dy ρ2 u H2 F2 T2 e2 z2 r2 h2 => ?_
  obtain ⟨dz, ez, q⟩ := aZ'.ofO h2
  obtain ⟨fp, f2, back⟩ := r2.fp
  exact hf f2 (z1.mono e2) z2 ez fun v' H3 F3 s zz f3 => q v' H3 F3 T2 (e1.trans (e2.trans (.of s))) zz (back H3 F3 s f3)
theorem aN' {op : Operator} {f : M.D -> M.D -> Option M.D} {r : R2} (ho : OpR X (binaryOp op) r) (hf : Op2 X.K f r) (ha : SE X W a ma) (hb : SE X W b mb) : SE X W (.BinOp a op b pos) (M.eOp f ma mb) := PE.imp (pe_op ho ha hb) fun _ _ _ => i0' hf
theorem ia' {op : CmpOp} {f : M.D -> M.D -> Option M.D} {r : R2} (ho : OpR X (compareOp op) r) (hf : Op2 X.K f r) (hm : behindInMarks op b = false) (ha : SE X W a ma) (hb : SE X W b mb) : SE X W (.Compare a [op] [b] pos) (M.eOp f ma mb) := PE.imp (pe_cmpR ho ha hb hm) fun _ _ _ => i0' hf
theorem cr' {f : M.D -> M.D -> Option M.D} {r : R2} (ho : IxR X r) (hf : Op2 X.K f r) (ha : SE X W a ma) (hb : SE X W b mb) (hs : PlainIx b) : SE X W (.Subscript a b pos) (M.eOp f ma mb) := PE.imp (pe_ix ho ha hb hs) fun _ _ _ => i0' hf
theorem vv' {f : M.D -> Option M.D} {r : V -> Hp -> VK -> Prop} (hf : Op1 K f r) (h : qE K W (M.eUn f ma) σ H Q) : tUn r (qE K W ma) σ H Q := by
  obtain ⟨ρ, F, T, fr, rel, h⟩ := h
  refine ay' rel h fun dx ρ1 v H1 F1 T1 e1 z1 r1 h1 => ?_
  obtain ⟨dz, ez, q⟩ := aZ'.ofO h1
  obtain ⟨fp, f2, back⟩ := r1.fp
  exact hf f2 z1 ez fun v' H3 F3 s zz f3 => q v' H3 F3 T1 (e1.trans (.of s)) zz (back H3 F3 s f3)
theorem A3' {op : UnaryOp} {f : M.D -> Option M.D} {r : V -> Hp -> VK -> Prop} (ho : UnR X (unaryOp op) r) (hf : Op1 X.K f r) (ha : SE X W a ma) : SE X W (.UnaryOp op a pos) (M.eUn f ma) := PE.imp (pe_un ho ha) fun _ _ _ => vv' hf
theorem aZ'.asB {d : M.D} {ρ : M.PSt} {P : Bool -> M.PSt -> Prop} {Y : Wx} (h : aZ' (M.asB d ρ) P Y) : ∃ b, d = .bl b /\ P b ρ := by
  cases d <;> first | exact h.elim | exact ⟨_, rfl, h⟩
theorem oP' {f g : M.D -> M.D -> Option M.D} {r r' : R2} (hf : Op2 K f r) (hg : Op2 K g r') (h : qE K W (M.he' f g ma mb mc) σ H Q) : tChain r r' (qE K W ma) (qE K W mb) (qE K W mc) σ H Q := by
  obtain ⟨ρ, F, T, fr, rel, h⟩ := h
  refine ay' rel h fun dx ρ1 v H1 F1 T1 e1 z1 r1 h1 => ?_
  refine ay' r1 h1 fun dy ρ2 u H2 F2 T2 e2 z2 r2 h2 => ?_
  obtain ⟨dz, ez, h3⟩ := aZ'.ofO (aZ'.bind h2)
  obtain ⟨fp, f2, back⟩ := r2.fp
  refine hf f2 (z1.mono e2) z2 ez fun v' H3 F3 s zz f3 => ?_
  have h4 := aZ'.bind h3
  obtain ⟨k, rfl, h5⟩ := aZ'.asB h4
  refine ⟨k, zz.bl_inv, ?_⟩
  have r3 := back H3 F3 s f3
  cases k with
  | true =>
    rw [if_pos rfl] at h5 ⊢
    refine ay' r3 (h5.mono (fun _ _ z => z) fun _ _ z => z.mono (.of s)) fun dw ρ4 w' H4 F4 T4 e4 z4 r4 h6 => ?_
    obtain ⟨dz, ez, q⟩ := aZ'.ofO h6
    obtain ⟨fp, f4, back⟩ := r4.fp
    exact hg f4 ((z2.mono (.of s)).mono e4) z4 ez fun v' H5 F5 s5 zz f5 => q v' H5 F5 T4 (e1.trans (e2.trans ((Ext.of s).trans (e4.trans (.of s5))))) zz (back H5 F5 s5 f5)
  | false =>
    rw [if_neg Bool.false_ne_true] at h5 ⊢
    exact h5 _ H3 F3 T2 (e1.trans (e2.trans (.of s))) (.bl false) r3
variable {rest : List Expr}
theorem qF' (ha : SE X W a ma) (hb : SE X W (.BoolOp .And (b :: rest) pos) mb) : SE X W (.BoolOp .And (a :: b :: rest) pos) (M.wI' ma mb) := PE.imp (pe_and ha hb) fun σ H Q ⟨ρ, F, T, fr, rel, h⟩ => by
  refine ay' rel h fun dx ρ1 v H1 F1 T1 e1 z1 r1 h1 => ?_
  obtain ⟨k, rfl, h2⟩ := aZ'.asB (aZ'.bind h1)
  refine ⟨k, z1.bl_inv, ?_⟩
  cases k with
  | true => rw [if_pos rfl] at h2 ⊢; exact ⟨ρ1, F1, T1, fr, r1, h2.mono (fun _ _ z v H' F' T' e => z v H' F' T' (e1.trans e)) fun _ _ z => z⟩
  | false => rw [if_neg Bool.false_ne_true] at h2 ⊢; exact h2 _ _ _ _ e1 (.bl false) r1
theorem qA' {op} (ha : SE X W a ma) : SE X W (.BoolOp op [a] pos) ma := pe_one ha
theorem x9' (ha : SE X W a ma) : SE X W (.UnaryOp .Not a pos) (M.zf' ma) := PE.imp (pe_not ha) fun σ H Q ⟨ρ, F, T, fr, rel, h⟩ => by
  refine ay' rel h fun dx ρ1 v H1 F1 T1 e1 z1 r1 h1 => ?_
  obtain ⟨k, rfl, h2⟩ := aZ'.asB (aZ'.bind h1)
  exact ⟨k, z1.bl_inv, h2 _ _ _ _ e1 (.bl _) r1⟩
variable {mt mu : M.MT}
theorem nm' (ha : SE X W a ma) (he : ∀ whole, isTrue a X.env whole = (do let v ← whole; standAt a.pos; holding [v] (truthy v)) := by intro _; rfl) : ST X W a (M.tE ma) := PT.imp (pt_val ha he) fun σ H Q ⟨ρ, F, T, fr, rel, h⟩ => by
  refine ay' rel h fun dx ρ1 v H1 F1 T1 e1 z1 r1 h1 => ?_
  obtain ⟨k, rfl, h2⟩ := aZ'.asB h1
  exact ⟨k, z1.bl_inv, h2 _ _ _ e1 r1⟩
theorem aT' {op : CmpOp} {f : M.D -> M.D -> Option M.D} {r : R2} (ho : OpR X (compareOp op) r) (hf : Op2 X.K f r) (hm : behindInMarks op b = false) (ha : SE X W a ma) (hb : SE X W b mb) : ST X W (.Compare a [op] [b] pos) (M.tE (M.eOp f ma mb)) :=
  PT.imp (pt_cmpR ho ha hb hm) fun σ H Q ⟨ρ, F, T, fr, rel, h⟩ => by
    show tOp r (qE X.K W ma) (qE X.K W mb) σ H fun x H' => ∃ k, x = .bl k /\ Q k H'
    refine i0' hf ⟨ρ, F, T, fr, rel, (aZ'.bind h).mono (fun d ρ1 h1 v H1 F1 T1 e z r => ?_) fun _ _ z => z⟩
    obtain ⟨k, rfl, h2⟩ := aZ'.asB h1
    exact ⟨k, z.bl_inv, h2 _ _ _ e r⟩
theorem nn' {op op' : CmpOp} {f g : M.D -> M.D -> Option M.D} {r r' : R2} (ho : OpR X (compareOp op) r) (hf : Op2 X.K f r) (ho' : OpR X (compareOp op') r') (hg : Op2 X.K g r') (ha : SE X W a ma) (hb : SE X W b mb) (hc : SE X W c mc)
    (hm : lastMarks [op, op'] [b, c] = false := by with_unfolding_all rfl) : ST X W (.Compare a [op, op'] [b, c] pos) (M.tE (M.he' f g ma mb mc)) := PT.imp (pt_chain ho ho' ha hb hc hm) fun σ H Q ⟨ρ, F, T, fr, rel, h⟩ => by
    show tChain r r' (qE X.K W ma) (qE X.K W mb) (qE X.K W mc) σ H fun x H' => ∃ k, x = .bl k /\ Q k H'
    refine oP' hf hg ⟨ρ, F, T, fr, rel, (aZ'.bind h).mono (fun d ρ1 h1 v H1 F1 T1 e z r => ?_) fun _ _ z => z⟩
    obtain ⟨k, rfl, h2⟩ := aZ'.asB h1
    exact ⟨k, z.bl_inv, h2 _ _ _ e r⟩
abbrev SW (X : Cx) (W : WX) (e : Expr) (m : M.MT) : Prop := PW X e (qT X.K W m)
theorem iJ' (ha : ST X W a mt) : SW X W (.BoolOp .And [a] pos) mt := pw_and1 ha
theorem gL' (ha : ST X W a mt) : SW X W (.BoolOp .Or [a] pos) mt := pw_or1 ha
theorem nj' (ha : ST X W a mt) (hb : SW X W (.BoolOp .And (b :: rest) pos) mu) : SW X W (.BoolOp .And (a :: b :: rest) pos) (M.us' mt mu) := PW.imp (pw_and ha hb) fun σ H Q ⟨ρ, F, T, fr, rel, h⟩ => by
  refine lB' rel h fun k ρ1 H1 F1 T1 e1 r1 h1 => ?_
  cases k with
  | true => rw [if_pos rfl] at h1 ⊢; exact ⟨ρ1, F1, T1, fr, r1, h1.mono (fun _ _ z H' F' T' e => z H' F' T' (e1.trans e)) fun _ _ z => z⟩
  | false => rw [if_neg Bool.false_ne_true] at h1 ⊢; exact h1 _ _ _ e1 r1
theorem iI' (ha : ST X W a mt) (hb : SW X W (.BoolOp .Or (b :: rest) pos) mu) : SW X W (.BoolOp .Or (a :: b :: rest) pos) (M.tOr mt mu) := PW.imp (pw_or ha hb) fun σ H Q ⟨ρ, F, T, fr, rel, h⟩ => by
  refine lB' rel h fun k ρ1 H1 F1 T1 e1 r1 h1 => ?_
  cases k with
  | true => rw [if_pos rfl] at h1 ⊢; exact h1 _ _ _ e1 r1
  | false => rw [if_neg Bool.false_ne_true] at h1 ⊢; exact ⟨ρ1, F1, T1, fr, r1, h1.mono (fun _ _ z H' F' T' e => z H' F' T' (e1.trans e)) fun _ _ z => z⟩
theorem qs' (h : SW X W a mt) : ST X W a mt := PW.pt h
theorem cn' (ha : ST X W a mt) : ST X W (.UnaryOp .Not a pos) (M.gx' mt) := PT.imp (pt_not ha) fun σ H Q ⟨ρ, F, T, fr, rel, h⟩ => lB' rel h fun k ρ1 H1 F1 T1 e1 r1 h1 => h1 _ _ _ e1 r1
variable {es : List Expr} {as : M.MA}
theorem ag' : SA X W [] M.ba' := PA.imp pa_nil fun σ H Q ⟨ρ, F, T, fr, rel, h⟩ => h [] H F T .refl .nil rel
theorem aa' (ha : SE X W a ma) (hr : SA X W es as) (hs : starEach (a :: es) X.env = (false, eval a X.env) :: starEach es X.env := by rfl) : SA X W (a :: es) (M.ad' ma as) := PA.imp (pa_cons ha hr hs) fun σ H Q ⟨ρ, F, T, fr, rel, h⟩ => by
  refine ay' rel h fun dx ρ1 v H1 F1 T1 e1 z1 r1 h1 => ?_
  refine c8' r1 h1 fun ds ρ2 vs H2 F2 T2 e2 z2 r2 h2 => ?_
  exact h2 _ _ _ _ (e1.trans e2) (.cons (z1.mono e2) z2) r2
theorem fZ' {k} (h : SA X W es as) : SE X W (.Tuple es k pos) (M.o6' as) := PE.imp (pe_tup h) fun σ H Q ⟨ρ, F, T, fr, rel, h⟩ => by
  refine c8' rel h fun ds ρ1 vs H1 F1 T1 e1 z1 r1 h1 => ?_
  split at h1
  . rename_i hl
    refine ⟨by rw [z1.length, bM']; exact hl, fun p hp => ?_⟩
    obtain ⟨fp, f, back⟩ := r1.fp
    have s : Same F1 (upd F1 p (.tup vs)) := cI' (f.free hp)
    exact h1 _ _ _ _ (e1.trans (.of s)) (.tup (SqT.of upd_same) (z1.mono (.of s))) (back _ _ s (f.new hp))
  . exact h1.elim
theorem qC' (h : SA X W es as) : SE X W (.List es pos) (M.lk' as) := PE.imp (pe_lst h) fun σ H Q ⟨ρ, F, T, fr, rel, h⟩ => by
  refine c8' rel h fun ds ρ1 vs H1 F1 T1 e1 z1 r1 h1 => ?_
  split at h1
  . rename_i hl
    refine ⟨by rw [z1.length, bM']; exact hl, fun p hp => ?_⟩
    obtain ⟨fp, f, back⟩ := r1.fp
    have s : Same F1 (upd F1 p (.lst vs)) := cI' (f.free hp)
    exact h1 _ _ _ _ (e1.trans (.of s)) (.lst upd_same (z1.mono (.of s))) (back _ _ s (f.new hp))
  . exact h1.elim
abbrev SP_ (X : Cx) (W : WX) (e : Option Expr) (m : M.MP) : Prop := PO X e (qP X.K W m)
theorem lp' : SP_ X W none M.pNo := PO.imp po_none fun σ H Q ⟨ρ, F, T, fr, rel, h⟩ => h _ _ _ .refl rel
theorem lo' (ha : SE X W a ma) : SP_ X W (some a) (M.pSo ma) := PO.imp (po_some ha) fun σ H Q ⟨ρ, F, T, fr, rel, h⟩ => by
  refine ay' rel h fun dx ρ1 v H1 F1 T1 e1 z1 r1 h1 => ?_
  split at h1
  . exact ⟨_, z1.int_inv, h1 _ _ _ e1 r1⟩
  . exact h1.elim
theorem lv' {r : V -> Option Int -> Option Int -> Hp -> VK -> Prop} {lo hi : Option Expr} {ml mh : M.MP} {p2 : Pos} (ho : SlR X r) (hf : CZ' X.K r) (ha : SE X W a ma) (hl : SP_ X W lo ml) (hh : SP_ X W hi mh) : SE X W (.Subscript a (.Slice lo hi none p2) pos) (M.eSl ma ml mh) :=
  PE.imp (pe_slice ho ha hl hh) fun σ H Q ⟨ρ, F, T, fr, rel, h⟩ => by
    refine ay' rel h fun dx ρ1 v H1 F1 T1 e1 z1 r1 h1 => ?_
    refine qZ' r1 h1 fun l ρ2 H2 F2 T2 e2 r2 h2 => ?_
    refine qZ' r2 h2 fun u ρ3 H3 F3 T3 e3 r3 h3 => ?_
    obtain ⟨dz, ez, q⟩ := aZ'.ofO h3
    obtain ⟨fp, f3, back⟩ := r3.fp
    exact hf f3 ((z1.mono e2).mono e3) ez fun v' H4 F4 s zz f4 => q v' H4 F4 T3 (e1.trans (e2.trans (e3.trans (.of s)))) zz (back H4 F4 s f4)
end
end S
namespace S
open PySem PySem.Spec PyProof.Rows L2
variable [Wd]
section
variable (K : PySem.W.Frag) (H : Hp)
mutual
inductive NkV : V -> NestedKey -> Prop
  | non : NkV .non .none
  | bl (b : Bool) : NkV (.bl b) (.num (if b = true then 1 else 0))
  | int (i : Int) : NkV (.int i) (.num i)
  | str (x : Str) : NkV (.str x) (.text x)
  | tup {a : Addr} {vs : List V} {ks : List NestedKey} : SqT K H a vs -> NkVs vs ks -> NkV (.ref a) (.tup ks)
inductive NkVs : List V -> List NestedKey -> Prop
  | nil : NkVs [] []
  | cons {v : V} {vs : List V} {k : NestedKey} {ks : List NestedKey} : NkV v k -> NkVs vs ks -> NkVs (v :: vs) (k :: ks)
end
end
section
variable {X : Cx} {pins : List (Addr × Obj)} {σ : St} {H : Hp} {s : Shared}
mutual
theorem NkV.is (I : Inv X pins σ H s) : ∀ {v : V} {k : NestedKey} {u : Value}, NkV X.K H v k -> RelV v u -> NestedIs s.heap k u
  | _, _, _, .non, r => by cases (show _ = Value.none from r); exact .none
  | _, _, _, .bl b, r => by cases (show _ = Value.bool b from r); exact .bool rfl
  | _, _, _, .int i, r => by obtain ⟨t, e⟩ := (show ∃ t, _ = Value.int i t from r); subst e; exact .int i t
  | _, _, _, .str x, r => by obtain ⟨t, e⟩ := (show ∃ t, _ = Value.str x t from r); subst e; exact .text x t
  | _, _, _, .tup (a := a) h q, r => by
    cases (show _ = Value.ref a from r)
    obtain ⟨its, rv, ⟨o, h1, h2, n, h3⟩, _⟩ := I.tuple h
    exact .tup h1 h2 h3 (NkVs.is I q rv)
theorem NkVs.is (I : Inv X pins σ H s) : ∀ {v : List V} {k : List NestedKey} {u : List Value}, NkVs X.K H v k -> Vals v u -> NestedAll s.heap k u
  | _, _, _, .nil, r => by cases r; exact .nil
  | _, _, _, .cons a q, r => by
    cases r with
    | cons ra rq => exact .cons (NkV.is I a ra) (NkVs.is I q rq)
end
end
section
variable {K : PySem.W.Frag} {F H : Hp} {T : List Addr}
mutual
theorem Fz.nk (s : Same F H) : ∀ {v : V} {d : M.D}, Fz K F T v d -> M.kat d = true -> NkV K H v (nk d)
  | _, _, .non, _ => .non
  | _, _, .bl b, _ => .bl b
  | _, _, .int i, _ => .int i
  | _, _, .str h, _ => .str _
  | _, _, .tup h r, e => .tup (seqT s h) (FzA.nk s r e)
  | _, _, .lst h r, e => by cases e
  | _, _, .dct h _ r, e => by cases e
  | _, _, .dcl h k r, e => by cases e
  | _, _, .dcn h k q r, e => by cases e
  | _, _, .rep d, e => by cases e
  | _, _, .obj h, e => by cases e
  | _, _, .ty n, e => by cases e
  | _, _, .fn x, e => by cases e
  | _, _, .scr h r, e => by cases e
theorem FzA.nk (s : Same F H) : ∀ {vs : List V} {ds : List M.D}, FzA K F T vs ds -> M.kats ds = true -> NkVs K H vs (nks ds)
  | _, _, .nil, _ => .nil
  | _, _, .cons h r, e => by
    obtain ⟨e1, e2⟩ := Bool.and_eq_true_iff.mp (show (M.kat _ && M.kats _) = true from e)
    exact .cons (Fz.nk s h e1) (FzA.nk s r e2)
end
def lfV : V -> Option Leaf
  | .non => some .none
  | .bl b => some (.num (if b = true then 1 else 0))
  | .int i => some (.num i)
  | .str x => some (.text x)
  | _ => none
theorem Fz.lf {v : V} {d : M.D} (h : Fz K F T v d) (e : M.sca d = true) : lfV v = some (lfD d) := by
  cases h <;> first | rfl | (cases e)
theorem ry' {P : Program} {w : World} {v : V} {l : Leaf} {u : Value} (h : lfV v = some l) (r : RelV v u) : (leafKind P w).is l u = true := by
  cases v with
  | non => cases h; cases (show _ = Value.none from r); rfl
  | bl b => cases h; cases (show _ = Value.bool b from r); cases b <;> rfl
  | int i => cases h; obtain ⟨t, e⟩ := (show ∃ t, _ = Value.int i t from r); subst e; exact leaf_int i t
  | str x => cases h; obtain ⟨t, e⟩ := (show ∃ t, _ = Value.str x t from r); subst e; exact leaf_str x t
  | _ => cases h
end
mutual
theorem ja' : ∀ d : M.D, M.kat d = true -> (nk d).depth = M.dep d
  | .non, _ => rfl
  | .bl _, _ => rfl
  | .int _, _ => rfl
  | .str _, _ => rfl
  | .tup ds, e => congrArg (· + 1) (nks_depth ds e)
  | .lst _, e => by cases e
  | .dct _ _, e => by cases e
  | .dcx _ _, e => by cases e
  | .rep _, e => by cases e
  | .obj _, e => by cases e
  | .ty _, e => by cases e
  | .fn _, e => by cases e
  | .exc _ _, e => by cases e
  | .scr _, e => by cases e
theorem nks_depth : ∀ ds : List M.D, M.kats ds = true -> NestedKey.depthAll (nks ds) = M.deps ds
  | [], _ => rfl
  | d :: r, e => by
    obtain ⟨e1, e2⟩ := Bool.and_eq_true_iff.mp (show (M.kat d && M.kats r) = true from e)
    show max _ _ = max _ _
    rw [ja' d e1, nks_depth r e2]
end
mutual
theorem uS' : ∀ d e : M.D, M.kat d = true -> M.kat e = true -> M.eqb d e = NestedKey.beq (nk d) (nk e)
  | .non, e, _, h => by cases e <;> first | rfl | (cases h)
  | .bl a, e, _, h => by
    cases e with
    | bl b => cases a <;> cases b <;> rfl
    | int j => show ((if a then 1 else 0 : Int) == j) = decide _; rw [Bool.eq_iff_iff]; simp
    | _ => first | rfl | (cases h)
  | .int i, e, _, h => by
    cases e with
    | bl b => show (i == (if b then 1 else 0 : Int)) = decide _; rw [Bool.eq_iff_iff]; simp
    | int j => show (i == j) = decide _; rw [Bool.eq_iff_iff]; simp
    | _ => first | rfl | (cases h)
  | .str a, e, _, h => by
    cases e with
    | str b => show (a == b) = decide _; rw [Bool.eq_iff_iff, beq_iff_eq, decide_eq_true_iff]; exact ⟨fun h => by rw [h], ut'⟩
    | _ => first | rfl | (cases h)
  | .tup a, e, h1, h => by
    cases e with
    | tup b => exact eqbs_nk a b h1 h
    | _ => first | rfl | (cases h)
  | .lst _, _, h, _ => by cases h
  | .dct _ _, _, h, _ => by cases h
  | .dcx _ _, _, h, _ => by cases h
  | .rep _, _, h, _ => by cases h
  | .obj _, _, h, _ => by cases h
  | .ty _, _, h, _ => by cases h
  | .fn _, _, h, _ => by cases h
  | .exc _ _, _, h, _ => by cases h
  | .scr _, _, h, _ => by cases h
theorem eqbs_nk : ∀ d e : List M.D, M.kats d = true -> M.kats e = true -> M.eqbs d e = NestedKey.beqAll (nks d) (nks e)
  | [], [], _, _ => rfl
  | [], _ :: _, _, _ => rfl
  | _ :: _, [], _, _ => rfl
  | a :: d, b :: e, h1, h2 => by
    obtain ⟨a1, a2⟩ := Bool.and_eq_true_iff.mp (show (M.kat a && M.kats d) = true from h1)
    obtain ⟨b1, b2⟩ := Bool.and_eq_true_iff.mp (show (M.kat b && M.kats e) = true from h2)
    show (M.eqb a b && M.eqbs d e) = (NestedKey.beq (nk a) (nk b) && NestedKey.beqAll (nks d) (nks e))
    rw [uS' a b a1 b1, eqbs_nk d e a2 b2]
end
theorem rS' {d e : M.D} (h1 : M.kat d = true) (h2 : M.kat e = true) : M.eqb d e = decide (nk d = nk e) := by
  rw [uS' d e h1 h2, NestedKey.decide_eq]
theorem qG' {d : M.D} (h : M.sca d = true) : M.kat d = true := by cases d <;> first | rfl | (cases h)
theorem uK' {d : M.D} (h : M.sca d = true) : (lfD d).key = nk d := by cases d <;> first | rfl | (cases h)
theorem zc' {d e : M.D} (h1 : M.sca d = true) (h2 : M.sca e = true) : M.eqb d e = decide (lfD d = lfD e) := by
  rw [rS' (qG' h1) (qG' h2), <- uK' h1, <- uK' h2]
  by_cases q : lfD d = lfD e
  . rw [decide_eq_true q, decide_eq_true (congrArg Leaf.key q)]
  . rw [decide_eq_false q, decide_eq_false fun r => q (Leaf.key_inj r)]
theorem uT' (k j : Key) : M.eqb (kD k) (kD j) = decide (k = j) := by
  cases k with
  | inl a => cases j with
    | inl b => rw [key_ll]; rfl
    | inr b => rw [key_lr]; rfl
  | inr a => cases j with
    | inl b => rw [key_rl]; rfl
    | inr b =>
      rw [key_rr]
      show (a.cps.toList == b.cps.toList) = _
      rw [Bool.eq_iff_iff, beq_iff_eq, decide_eq_true_iff]
      exact ⟨fun h => by rw [<- vz' a, <- vz' b, h], fun h => by rw [h]⟩
section
variable {κ : Type} [DecidableEq κ]
theorem ei' {dk : M.D} {k : κ} : ∀ {kvs : List (κ × V)} {ks : List M.D}, Paired (fun p d => M.eqb d dk = decide (p.1 = k)) kvs ks -> valV kvs k = M.dget ks (kvs.map (·.2)) dk
  | _, _, .nil => rfl
  | p :: kvs, d :: ks, .cons h r => by
    have ih := ei' r
    unfold M.dget M.gB' at ih ⊢
    rw [List.findIdx?_cons, h]
    by_cases e : p.1 = k
    . rw [valV_pos e, decide_eq_true e]; rfl
    . rw [valV_neg e, decide_eq_false e, ih]
      cases ks.findIdx? fun d => M.eqb d dk <;> rfl
theorem c9' {dk : M.D} {k : κ} {v : V} : ∀ {kvs : List (κ × V)} {ks : List M.D}, Paired (fun p d => M.eqb d dk = decide (p.1 = k)) kvs ks -> (kvs.map (·.1)).Nodup →
    (∀ j, M.gB' ks dk = some j -> (putK kvs k v).map (·.1) = kvs.map (·.1) /\ (putK kvs k v).map (·.2) = (kvs.map (·.2)).set j v) /\ (M.gB' ks dk = none -> putK kvs k v = kvs ++ [(k, v)])
  | _, _, .nil, _ => ⟨fun j h => (nomatch (show (none : Option Nat) = some j from h)), fun _ => rfl⟩
  | p :: kvs, d :: ks, .cons h r, nd => by
    rw [List.map_cons, List.nodup_cons] at nd
    obtain ⟨i1, i2⟩ := c9' (v := v) r nd.2
    have hk : M.gB' (d :: ks) dk = if p.1 = k then some 0 else (M.gB' ks dk).map (· + 1) := by
      unfold M.gB'
      rw [List.findIdx?_cons, h]
      by_cases e : p.1 = k <;> simp [e]
    by_cases e : p.1 = k
    . rw [hk, if_pos e]
      refine ⟨fun j hj => ?_, fun hj => nomatch hj⟩
      cases hj
      have no : ∀ q ∈ kvs, ¬ q.1 = k := fun q hq z => nd.1 (by rw [e, <- z]; exact List.mem_map_of_mem hq)
      have same : kvs.map (fun kv => if kv.1 = k then (kv.1, v) else kv) = kvs := by
        conv => rhs; rw [<- List.map_id kvs]
        exact List.map_congr_left fun q hq => by rw [if_neg (no q hq)]; rfl
      have hp : putK (p :: kvs) k v = (p.1, v) :: kvs := by
        unfold putK
        rw [if_pos (by simp [e]), List.map_cons, if_pos e, same]
      rw [hp]
      exact ⟨rfl, rfl⟩
    . have hp : putK (p :: kvs) k v = p :: putK kvs k v := by
        unfold putK
        simp only [List.any_cons, decide_eq_false e, Bool.false_or, List.map_cons, if_neg e, List.cons_append]
        split <;> rfl
      rw [hk, if_neg e, hp]
      refine ⟨fun j hj => ?_, fun hj => ?_⟩
      . cases q : M.gB' ks dk with
        | none => rw [q] at hj; cases hj
        | some j' =>
          rw [q] at hj
          cases hj
          obtain ⟨a, b⟩ := i1 j' q
          simp only [List.map_cons, a, b, List.set_cons_succ, and_self]
      . cases q : M.gB' ks dk with
        | none => rw [i2 q]; rfl
        | some j' => rw [q] at hj; cases hj
end
theorem gX' {κ : Type} [DecidableEq κ] {g : M.D -> κ} {dk : M.D} {k : κ} : ∀ {kvs : List (κ × V)} {ks : List M.D}, kvs.map (·.1) = ks.map g -> (∀ d ∈ ks, M.eqb d dk = decide (g d = k)) -> Paired (fun p d => M.eqb d dk = decide (p.1 = k)) kvs ks
  | [], [], _, _ => .nil
  | [], _ :: _, e, _ => by cases e
  | _ :: _, [], e, _ => by cases e
  | p :: kvs, d :: ks, e, h => by
    simp only [List.map_cons, List.cons.injEq] at e
    exact .cons (by rw [h d (by simp), e.1]) (gX' e.2 fun d hd => h d (by simp [hd]))
abbrev xsV (xs : List (NestedKey × Addr × V)) : List (NestedKey × V) := xs.map fun x => (x.1, x.2.2)
def xl' (K : PySem.W.Frag) (H : Hp) (xs : List (NestedKey × Addr × V)) : Prop := ∀ x ∈ xs, NkV K H (.ref x.2.1) x.1 /\ x.1.depth <= 8
inductive DLk (K : PySem.W.Frag) (H : Hp) (a : Addr) : V -> Option V -> Prop
  | k {kvs : List (Key × V)} (k : Key) : Rd H a (.dK kvs) -> DLk K H a (kV k) (valV kvs k)
  | l {kvs : List (Leaf × V)} {y : V} {l : Leaf} : Rd H a (dcL a kvs) -> lfV y = some l -> DLk K H a y (valV kvs l)
  | n {xs : List (NestedKey × Addr × V)} {b : Addr} {k : NestedKey} : Rd H a (dcN a xs) -> xl' K H xs -> NkV K H (.ref b) k -> k.depth <= 8 -> DLk K H a (.ref b) (valV (xsV xs) k)
  | ln {b : Addr} {k : NestedKey} : Rd H a (dcL a []) -> NkV K H (.ref b) k -> k.depth <= 8 -> DLk K H a (.ref b) none
  | nl {y : V} {l : Leaf} : Rd H a (dcN a []) -> lfV y = some l -> DLk K H a y none
section
variable {X : Cx} {pins : List (Addr × Obj)} {σ : St} {H : Hp} {s : Shared} {a b : Addr} {y : V} {u : Value} {ov : Option V} {A : Around} {E : Value -> Shared -> Prop}
theorem sY' {u : HO} (I : Inv X pins σ H s) (h : Rd H a u) : ObjOk X.prog X.w H s.heap a u := by
  rcases h with h | ⟨o, h⟩
  . exact I.hok a _ h
  . exact (show ObjOk X.prog X.w H s.heap a (.frz o u) from I.hok a _ h).2
theorem iw' (hw : X.prog = Wd.P /\ X.w = Wd.w) (I : Inv X pins σ H s) {kvs : List (Leaf × V)} (h : Rd H a (dcL a kvs)) : (a == sysModules) = false /\ kvs.length <= sizeLine /\ ∃ vs, KV kvs vs /\ s.heap.DictOf (leafKind X.prog X.w) a vs := by
  obtain ⟨⟨h1, h2, vs, h3, h4⟩, _⟩ := (show ObjOk X.prog X.w H s.heap a (dcL a kvs) from sY' I h)
  refine ⟨h1, h2, vs, h3, ?_⟩
  rw [<- hw.1, <- hw.2] at h4
  exact h4
theorem gW' {xs : List (NestedKey × Addr × V)} {ys : List (NestedKey × Addr × Value)} (p : Paired o7' xs ys) : xs.map (·.1) = ys.map (·.1) := by
  induction p with
  | nil => rfl
  | cons h _ ih => rw [List.map_cons, List.map_cons, h.1, ih]
theorem u3' {xs : List (NestedKey × Addr × V)} {ys : List (NestedKey × Addr × Value)} (p : Paired o7' xs ys) (k : NestedKey) : RelO (valV (xsV xs) k) ((atKey ys k).map (·.2)) := by
  induction p with
  | nil => exact True.intro
  | @cons x y xs ys h r ih =>
    by_cases e : x.1 = k
    . have e' : y.1 = k := by rw [<- h.1]; exact e
      rw [show xsV (x :: xs) = (x.1, x.2.2) :: xsV xs from rfl, valV_pos (p := (x.1, x.2.2)) e]
      have : atKey (y :: ys) k = some y.2 := by simp [atKey, List.find?_cons, e']
      rw [this]
      exact h.2.2
    . have e' : ¬ y.1 = k := by rw [<- h.1]; exact e
      rw [show xsV (x :: xs) = (x.1, x.2.2) :: xsV xs from rfl, valV_neg (p := (x.1, x.2.2)) e]
      have : atKey (y :: ys) k = atKey ys k := by simp [atKey, List.find?_cons, e']
      rw [this]
      exact ih
theorem n5' (hw : X.prog = Wd.P /\ X.w = Wd.w) (I : Inv X pins σ H s) {xs : List (NestedKey × Addr × V)} (h : Rd H a (dcN a xs)) (ok : xl' X.K H xs) : (a == sysModules) = false /\ xs.length <= sizeLine /\ (xs.map (·.1)).Nodup ∧
    ∃ ys, Paired o7' xs ys /\ s.heap.DictOfH (nestedKind X.prog X.w) a ys := by
  obtain ⟨⟨h1, h2, h3, ys, h4, o, es, ep, g1, g2, g3, g4⟩, _⟩ := (show ObjOk X.prog X.w H s.heap a (dcN a xs) from sY' I h)
  refine ⟨h1, h2, h3, ys, h4, o, es, ep, g1, g2, g3, ?_, ?_, ?_⟩
  . rw [<- hw.1, <- hw.2] at g4
    exact g4
  . have main : ∀ {xs : List (NestedKey × Addr × V)} {ys : List (NestedKey × Addr × Value)}, Paired o7' xs ys -> xl' X.K H xs -> ∀ y ∈ ys, (nestedKind X.prog X.w).is s.heap y.1 y.2.1 := by
      intro xs ys p ok
      induction p with
      | nil => exact fun _ z => nomatch z
      | @cons x y xs ys h r ih =>
        intro z hz
        rcases List.mem_cons.mp hz with rfl | hz
        . obtain ⟨q1, q2⟩ := ok x (by simp)
          rw [<- h.1, <- h.2.1]
          exact ⟨q1.is I rfl, q2⟩
        . exact ih (fun w hw => ok w (by simp [hw])) z hz
    exact main h4 ok
  . rw [<- gW' h4]; exact h3
theorem fG' (hw : X.prog = Wd.P /\ X.w = Wd.w) (I : Inv X pins σ H s) (h : Rd H a (dcL a [])) : (a == sysModules) = false /\ s.heap.DictOfH (nestedKind X.prog X.w) a [] := by
  obtain ⟨h1, _, vs, h3, o, es, ep, g1, g2, g3, _, g5, _⟩ := iw' hw I h
  cases h3
  obtain ⟨l⟩ := es
  have e : l = [] := by
    have g5 : PySem.Pairs (leafKind X.prog X.w) l [] := g5
    cases g5
    rfl
  exact ⟨h1, o, _, ep, g1, g2, g3, e, (fun _ z => nomatch z), List.nodup_nil⟩
theorem fD' (I : Inv X pins σ H s) (h : Rd H a (dcN a [])) : (a == sysModules) = false /\ s.heap.DictOf (leafKind X.prog X.w) a [] := by
  obtain ⟨⟨h1, _, _, ys, h4, o, es, ep, g1, g2, g3, g4⟩, _⟩ := (show ObjOk X.prog X.w H s.heap a (dcN a []) from sY' I h)
  cases h4
  obtain ⟨l⟩ := es
  have e : l = [] := g4
  subst e
  exact ⟨h1, o, #[], ep, g1, g2, g3, (fun _ z => by simp at z), .nil, List.nodup_nil⟩
theorem wK' (hw : X.prog = Wd.P /\ X.w = Wd.w) (I : Inv X pins σ H s) (g : DLk X.K H a y ov) : s.TypeIs (.ref a) "dict" := by
  cases g with
  | k k e => obtain ⟨_, _, vs, _, dd⟩ := dk_rd I.hok e; exact dd.typeIs
  | l e _ => obtain ⟨_, _, vs, _, dd⟩ := iw' hw I e; exact dd.typeIs
  | n e ok _ _ => obtain ⟨_, _, _, ys, _, dd⟩ := n5' hw I e ok; exact dd.typeIs
  | ln e _ _ => exact (fG' hw I e).2.typeIs
  | nl e _ => exact (fD' I e).2.typeIs
theorem qM' {P : Program} {w : World} (hu : A.units + 64 < cLine) : (nestedKind P w).room A.in1 := by
  show A.units + 1 + 8 < cLine
  omega
theorem zi' {v : V} {Q : Value -> Shared -> Prop} (hw : X.prog = Wd.P /\ X.w = Wd.w) (hu : A.units + 64 < cLine) (I : Inv X pins σ H s) (g : DLk X.K H a y (some v)) (ry : RelV y u)
    (h : ∀ w' s', Inv X pins σ H s' -> RelV v w' -> Q w' s') : wpAny (model X.prog X.w) A (getItem (.ref a) u) Q E s := by
  generalize hov : some v = ov at g
  cases g with
  | k k e =>
    obtain ⟨_, _, vs, rel, dd⟩ := dk_rd I.hok e
    obtain ⟨w', q1, q2⟩ := RelO.some_of (v := v) (o := valueAt vs k) (by rw [hov]; exact rel.val k)
    exact wpAny_getItem_of (kV_is ry) dd.mapOf q1 (h w' _ (I.tok _) q2)
  | @l kvs _ l e hy =>
    obtain ⟨_, _, vs, rel, dd⟩ := iw' hw I e
    obtain ⟨w', q1, q2⟩ := RelO.some_of (v := v) (o := valueAt vs l) (by rw [hov]; exact rel.val l)
    exact wpAny_getItem_of (ry' hy ry) dd.mapOf q1 (h w' _ (I.tok _) q2)
  | @n xs b k e ok hk hd =>
    obtain ⟨_, _, _, ys, rel, dd⟩ := n5' hw I e ok
    cases (show u = Value.ref b from ry)
    obtain ⟨w', q1, q2⟩ := RelO.some_of (v := v) (o := (atKey ys k).map (·.2)) (by rw [hov]; exact u3' rel k)
    obtain ⟨p, hp, hp2⟩ := Option.map_eq_some_iff.mp q1
    refine wpAny_getItem_heap (qM' hu) ⟨hk.is I rfl, hd⟩ dd hp ?_
    rw [hp2]
    exact h w' _ (I.tok _) q2
  | ln _ _ _ => cases hov
  | nl _ _ => cases hov
theorem zh' {Q : Value -> Shared -> Prop} (hw : X.prog = Wd.P /\ X.w = Wd.w) (hu : A.units + 64 < cLine) (I : Inv X pins σ H s) (g : DLk X.K H a y ov) (ry : RelV y u)
    (h : ∀ s', Inv X pins σ H s' -> Q (.bool (!ov.isSome)) s') : wpAny (model X.prog X.w) A (compareOp .NotIn u (.ref a)) Q E s := by
  cases g with
  | k k e =>
    obtain ⟨_, hd, vs, rel, dd⟩ := dk_rd I.hok e
    refine wpAny_notIn_of (kV_is ry) hd dd.mapOf ?_
    rw [<- (rel.val k).isSome_eq]
    exact h _ (I.tok _)
  | @l kvs _ l e hy =>
    obtain ⟨hd, _, vs, rel, dd⟩ := iw' hw I e
    refine wpAny_notIn_of (ry' hy ry) hd dd.mapOf ?_
    rw [<- (rel.val l).isSome_eq]
    exact h _ (I.tok _)
  | @n xs b k e ok hk hdp =>
    obtain ⟨hd, _, _, ys, rel, dd⟩ := n5' hw I e ok
    cases (show u = Value.ref b from ry)
    refine wpAny_notIn_heap (qM' hu) ⟨hk.is I rfl, hdp⟩ hd dd ?_
    have q := (u3' rel k).isSome_eq
    rw [Option.isSome_map] at q
    rw [<- q]
    exact h _ (I.tok _)
  | @ln b k e hk hdp =>
    obtain ⟨hd, dd⟩ := fG' hw I e
    cases (show u = Value.ref b from ry)
    exact wpAny_notIn_heap (qM' hu) ⟨hk.is I rfl, hdp⟩ hd dd (h _ (I.tok _))
  | @nl _ l e hy =>
    obtain ⟨hd, dd⟩ := fD' I e
    exact wpAny_notIn_of (ry' hy ry) hd dd.mapOf (h _ (I.tok _))
def li' (xs : List (NestedKey × Addr × V)) (k : NestedKey) (b : Addr) (v : V) : List (NestedKey × Addr × V) :=
  if (xs.any fun x => decide (x.1 = k)) = true then xs.map (fun x => if x.1 = k then (x.1, x.2.1, v) else x) else xs ++ [(k, b, v)]
theorem nA' (xs : List (NestedKey × Addr × V)) (k : NestedKey) (b : Addr) (v : V) : xsV (li' xs k b v) = putK (xsV xs) k v := by
  have e : ((xsV xs).any fun kv => decide (kv.1 = k)) = xs.any fun x => decide (x.1 = k) := by rw [xsV, List.any_map]; rfl
  unfold li' putK
  rw [e]
  split
  . rw [xsV, xsV, List.map_map, List.map_map]
    refine List.map_congr_left fun x _ => ?_
    by_cases h : x.1 = k <;> simp [h]
  . simp [xsV]
theorem q3' {xs : List (NestedKey × Addr × V)} {k : NestedKey} {b : Addr} {v : V} (h : (xs.any fun x => decide (x.1 = k)) = true) : (li' xs k b v).map (fun x => V.ref x.2.1) = xs.map fun x => V.ref x.2.1 := by
  unfold li'
  rw [if_pos h, List.map_map]
  refine List.map_congr_left fun x _ => ?_
  by_cases h : x.1 = k <;> simp [h]
theorem kd' (k : NestedKey) {v : V} {r : Value} (rv : RelV v r) : ∀ {xs : List (NestedKey × Addr × V)} {ys : List (NestedKey × Addr × Value)}, Paired o7' xs ys -> Paired o7' (xs.map fun x => if x.1 = k then (x.1, x.2.1, v) else x) (ys.map (putAt k r))
  | _, _, .nil => .nil
  | x :: _, y :: _, .cons h p => by
    refine .cons ?_ (kd' k rv p)
    unfold putAt
    by_cases e : x.1 = k
    . simp only [if_pos e, if_pos (show y.1 = k from h.1 ▸ e)]
      exact ⟨h.1, h.2.1, rv⟩
    . simp only [if_neg e, if_neg (show ¬ y.1 = k from h.1 ▸ e)]
      exact h
theorem nr' (k : NestedKey) (b : Addr) {v : V} {r : Value} (rv : RelV v r) : ∀ {xs : List (NestedKey × Addr × V)} {ys : List (NestedKey × Addr × Value)}, Paired o7' xs ys -> Paired o7' (xs ++ [(k, b, v)]) (ys ++ [(k, b, r)])
  | _, _, .nil => .cons ⟨rfl, rfl, rv⟩ .nil
  | _, _, .cons h p => .cons h (nr' k b rv p)
theorem nB' {xs : List (NestedKey × Addr × V)} {ys : List (NestedKey × Addr × Value)} (p : Paired o7' xs ys) (k : NestedKey) (b : Addr) {v : V} {r : Value} (rv : RelV v r) : Paired o7' (li' xs k b v) (storedH ys k b r) := by
  have ea : (xs.any fun x => decide (x.1 = k)) = (atKey ys k).isSome := by
    have q := (u3' p k).isSome_eq
    rw [Option.isSome_map] at q
    rw [<- q, <- valV_any, xsV, List.any_map]
    rfl
  unfold li' storedH
  rw [ea]
  split
  . exact kd' k rv p
  . exact nr' k b rv p
inductive DSt (K : PySem.W.Frag) (H : Hp) (a : Addr) (y v : V) (N : Hp -> Prop) : Prop
  | k {kvs : List (Key × V)} (k : Key) : H a = some (.dK kvs) -> y = kV k -> ((kvs.map (·.1)).Nodup -> (kvs.length <= sizeLine -> (putK kvs k v).length <= sizeLine) /\ N (upd H a (.dK (putK kvs k v)))) -> DSt K H a y v N
  | l {kvs : List (Leaf × V)} {l : Leaf} : H a = some (dcL a kvs) -> lfV y = some l -> ((kvs.map (·.1)).Nodup -> (kvs.length <= sizeLine -> (putK kvs l v).length <= sizeLine) /\ N (upd H a (dcL a (putK kvs l v)))) -> DSt K H a y v N
  | n {xs : List (NestedKey × Addr × V)} {b : Addr} {k : NestedKey} : H a = some (dcN a xs) -> xl' K H xs -> y = .ref b -> NkV K H (.ref b) k -> k.depth <= 8 -> ((xs.map (·.1)).Nodup -> (xs.length <= sizeLine -> (li' xs k b v).length <= sizeLine) /\ N (upd H a (dcN a (li' xs k b v)))) -> DSt K H a y v N
  | ln {b : Addr} {k : NestedKey} : H a = some (dcL a []) -> y = .ref b -> NkV K H (.ref b) k -> k.depth <= 8 -> N (upd H a (dcN a [(k, b, v)])) -> DSt K H a y v N
  | nl {l : Leaf} : H a = some (dcN a []) -> lfV y = some l -> N (upd H a (dcL a [(l, v)])) -> DSt K H a y v N
theorem lQ' {P : Program} {H' : Hp} {h' : Heap} {kvs : List (Leaf × V)} {vs : List (Leaf × Value)} (z : kvs.length <= sizeLine) (hd : (a == sysModules) = false) (rel : KV kvs vs) (dd : h'.DictOf (leafKind Wd.P Wd.w) a vs) :
    ObjOk P Wd.w H' h' a (dcL a kvs) := by
  obtain ⟨o, es, ep, g⟩ := id dd
  refine ⟨⟨hd, z, vs, rel, dd⟩, ⟨o, g.1⟩, ?_⟩
  rintro h1 h2 ⟨a1, a2, vs', a3, o', es', ep', g1, g2⟩ k
  exact ⟨a1, a2, vs', a3, o', es', ep', k _ g1, g2⟩
theorem rW' {P : Program} {H' : Hp} {h' : Heap} {xs : List (NestedKey × Addr × V)} {ys : List (NestedKey × Addr × Value)} (z : xs.length <= sizeLine) (hd : (a == sysModules) = false) (rel : Paired o7' xs ys) (dd : h'.DictOfH (nestedKind Wd.P Wd.w) a ys) :
    ObjOk P Wd.w H' h' a (dcN a xs) := by
  obtain ⟨o, es, ep, g1, g2, g3, g4, g5, g6⟩ := dd
  refine ⟨⟨hd, z, by rw [gW' rel]; exact g6, ys, rel, o, es, ep, g1, g2, g3, g4⟩, ⟨o, g1⟩, ?_⟩
  rintro h1 h2 ⟨a1, a2, a3, ys', a4, o', es', ep', g1, g2⟩ k
  exact ⟨a1, a2, a3, ys', a4, o', es', ep', k _ g1, g2⟩
theorem zg' {v : V} {r : Value} {N : Hp -> Prop} {Q : Unit -> Shared -> Prop} (hw : X.prog = Wd.P /\ X.w = Wd.w) (hu : A.units + 64 < cLine) (I : Inv X pins σ H s) (g : DSt X.K H a y v N) (ry : RelV y u) (rv : RelV v r)
    (h : ∀ H' s', Inv X pins σ H' s' -> N H' -> Q () s') : wpAny (model X.prog X.w) A (setItem (.ref a) u r) Q E s := by
  cases g with
  | @k kvs k e ey n =>
    subst ey
    obtain ⟨z, hd, vs, rel, dd⟩ := dk_of I.hok e
    have hz : vs.length <= sizeLine := by rw [<- rel.length]; exact z
    have nd : (kvs.map (·.1)).Nodup := by
      rw [rel.keys]
      obtain ⟨_, _, _, _, _, _, _, _, nd⟩ := id dd
      exact nd
    obtain ⟨n1, n2⟩ := n nd
    exact wpAny_setItem_pairs (hsz := hz) (kV_is ry) dd fun h' dd' hs => h _ _ (d_write I (by rw [e]; exact True.intro) hs (let ⟨q, _, _, hq, _⟩ := dd'; ⟨q, hq⟩) (dk_new (n1 z) hd (rel.put k rv) dd')) n2
  | @l kvs l e hy n =>
    obtain ⟨hd, z, vs, rel, dd⟩ := iw' hw I (.inl e)
    have hz : vs.length <= sizeLine := by rw [<- rel.length]; exact z
    have nd : (kvs.map (·.1)).Nodup := by
      rw [rel.keys]
      obtain ⟨_, _, _, _, _, _, _, _, nd⟩ := id dd
      exact nd
    obtain ⟨n1, n2⟩ := n nd
    refine wpAny_setItem_pairs (hsz := hz) (ry' hy ry) dd fun h' dd' hs => h _ _ (d_write I (by rw [e]; exact True.intro) hs (let ⟨q, _, _, hq, _⟩ := dd'; ⟨q, hq⟩) ?_) n2
    rw [hw.1, hw.2] at dd'
    rw [hw.2]
    exact lQ' (n1 z) hd (rel.put l rv) dd'
  | @n xs b k e ok ey hk hdp n =>
    subst ey
    cases (show u = Value.ref b from ry)
    obtain ⟨hd, z, nd, ys, rel, dd⟩ := n5' hw I (.inl e) ok
    have hz : ys.length <= sizeLine := by rw [<- Paired.length rel]; exact z
    obtain ⟨n1, n2⟩ := n nd
    refine wpAny_setItem_heap (hsz := hz) (qM' hu) ⟨hk.is I rfl, hdp⟩ dd fun h' dd' hs => h _ _ (d_write I (by rw [e]; exact True.intro) hs (let ⟨q, _, _, hq, _⟩ := dd'; ⟨q, hq⟩) ?_) n2
    rw [hw.1, hw.2] at dd'
    rw [hw.2]
    exact rW' (n1 z) hd (nB' rel k b rv) dd'
  | @ln b k e ey hk hdp n =>
    subst ey
    cases (show u = Value.ref b from ry)
    obtain ⟨hd, dd⟩ := fG' hw I (.inl e)
    refine wpAny_setItem_heap (hsz := Nat.zero_le _) (qM' hu) ⟨hk.is I rfl, hdp⟩ dd fun h' dd' hs => h _ _ (d_write I (by rw [e]; exact True.intro) hs (let ⟨q, _, _, hq, _⟩ := dd'; ⟨q, hq⟩) ?_) n
    rw [hw.1, hw.2] at dd'
    rw [hw.2]
    exact rW' (by rw [sizeLine_eq]; show 1 <= 16777216; decide) hd (nB' .nil k b rv) dd'
  | @nl l e hy n =>
    obtain ⟨hd, dd⟩ := fD' I (.inl e)
    refine wpAny_setItem_pairs (hsz := Nat.zero_le _) (ry' hy ry) dd fun h' dd' hs => h _ _ (d_write I (by rw [e]; exact True.intro) hs (let ⟨q, _, _, hq, _⟩ := dd'; ⟨q, hq⟩) ?_) n
    rw [hw.1, hw.2] at dd'
    rw [hw.2]
    exact lQ' (by rw [sizeLine_eq]; show 1 <= 16777216; decide) hd (KV.put (kvs := []) .nil l rv) dd'
def vR' (K : PySem.W.Frag) : List V -> Hp -> VK -> Prop := fun xs H Q => yn' K xs H Q \/ (∃ a kvs, xs = [V.ref a] /\ Rd H a (dcL a kvs) /\ Q (.int kvs.length) H) \/ ∃ a ys, xs = [V.ref a] /\ Rd H a (dcN a ys) /\ Q (.int ys.length) H
theorem aW' (hw : X.prog = Wd.P /\ X.w = Wd.w) : CallR X (.builtin "len") (vR' X.K) := by
  intro pins s σ H vs us Q I r h
  rcases h with h | ⟨a, kvs, rfl, e, q⟩ | ⟨a, xs, rfl, e, q⟩
  . exact r2' pins s σ H vs us Q I r h
  . cases r with
    | cons ra rn =>
      cases rn
      cases (show _ = Value.ref a from ra)
      obtain ⟨hd, z, ws, rel, dd⟩ := iw' hw I e
      refine call_len_dict hd dd (by rw [<- rel.length]; rw [sizeLine_eq] at z; omega) ?_
      rw [<- rel.length]
      exact ⟨.int kvs.length, H, I.tok _, ⟨_, rfl⟩, q⟩
  . cases r with
    | cons ra rn =>
      cases rn
      cases (show _ = Value.ref a from ra)
      obtain ⟨⟨hd, z, _, ys, rel, o, es, ep, g1, g2, g3, g4⟩, _⟩ := (show ObjOk X.prog X.w H s.heap a (dcN a xs) from sY' I e)
      have hl : es.size = xs.length := by
        have := congrArg List.length g4
        rw [List.length_map, <- Paired.length rel, Array.length_toList] at this
        exact this
      refine PyProof.Rows.call_len_slot (n := es.size) (show s.TypeIs (.ref a) "dict" from ⟨o, g1, g2.1⟩) PySem.F.slot_dict_len (fun Q' hq => call_len_raw hd ⟨o, g1, g2, g3⟩ hq) (by omega) (by rw [sizeLine_eq] at z; omega) ?_
      rw [hl]
      exact ⟨.int xs.length, H, I.tok _, ⟨_, rfl⟩, q⟩
end
end S
namespace S
open PySem PySem.Spec PyProof.Rows L2
variable [Wd] [Hot]
section
variable (K : PySem.W.Frag)
def Bi1 (f : M.D -> Option M.D) (r : List V -> Hp -> VK -> Prop) : Prop := ∀ {F H : Hp} {T : List Addr} {fp : Fp} {x : V} {dx dz : M.D} {Q : VK}, FpH F H fp -> Fz K F T x dx -> f dx = some dz -> eD' K F T fp dz Q -> r [x] H Q
def Bi2 (f : M.D -> M.D -> Option M.D) (r : List V -> Hp -> VK -> Prop) : Prop := ∀ {F H : Hp} {T : List Addr} {fp : Fp} {x y : V} {dx dy dz : M.D} {Q : VK}, FpH F H fp -> Fz K F T x dx -> Fz K F T y dy -> f dx dy = some dz -> eD' K F T fp dz Q -> r [x, y] H Q
end
section
variable {X : Cx} {W : WX} {K : PySem.W.Frag} {pos p : Pos} {x : Str} {id : String} {a b : Expr} {ma mb : M.ME} {σ : St} {H : Hp} {Q : VK} {r : List V -> Hp -> VK -> Prop}
theorem sa' {f : M.D -> Option M.D} (hf : Bi1 K f r) (h : qE K W (M.eUn f ma) σ H Q) : tCB r (tCons (qE K W ma) tNil) σ H Q := by
  obtain ⟨ρ, F, T, fr, rel, h⟩ := h
  refine ay' rel h fun dx ρ1 v H1 F1 T1 e1 z1 r1 h1 => ?_
  obtain ⟨dz, ez, q⟩ := aZ'.ofO h1
  obtain ⟨fp, f2, back⟩ := r1.fp
  exact hf f2 z1 ez fun v' H3 F3 s zz f3 => q v' H3 F3 T1 (e1.trans (.of s)) zz (back H3 F3 s f3)
theorem xi' {f : M.D -> M.D -> Option M.D} (hf : Bi2 K f r) (h : qE K W (M.eOp f ma mb) σ H Q) : tCB r (tCons (qE K W ma) (tCons (qE K W mb) tNil)) σ H Q := by
  obtain ⟨ρ, F, T, fr, rel, h⟩ := h
  refine ay' rel h fun dx ρ1 v H1 F1 T1 e1 z1 r1 h1 => ?_
  refine ay' r1 h1 fun dy ρ2 u H2 F2 T2 e2 z2 r2 h2 => ?_
  obtain ⟨dz, ez, q⟩ := aZ'.ofO h2
  obtain ⟨fp, f2, back⟩ := r2.fp
  exact hf f2 (z1.mono e2) z2 ez fun v' H3 F3 s zz f3 => q v' H3 F3 T2 (e1.trans (e2.trans (.of s))) zz (back H3 F3 s f3)
theorem cj' {f : M.D -> Option M.D} (hc : CallR X (.builtin id) r) (hf : Bi1 X.K f r) (hg : Gl X x) (hm : X.mg x = none) (hv : bootBuiltins x = some (.builtin id)) (ha : SE X W a ma) (hn : x ≠ "__name__" := by decide) (hdb : (x == ("__debug__" : Str)) = false := by decide)
    (he : starEach [a] X.env = (false, eval a X.env) :: starEach [] X.env := by rfl) (hpl : (backTo pos (starEach [] X.env)).any (·.1) = false := by rfl) : SE X W (.Call (.Name x p) [a] [] pos) (M.eUn f ma) := PE.imp (pe_callB hc hg hm hv (pa_cons ha pa_nil he) hn hdb he hpl) fun _ _ _ => sa' hf
theorem bN' {f : M.D -> Option M.D} (hc : CallR X (.type id) r) (hf : Bi1 X.K f r) (hg : Gl X x) (hm : X.mg x = none) (hv : bootBuiltins x = some (.type id)) (ha : SE X W a ma) (hn : x ≠ "__name__" := by decide) (hdb : (x == ("__debug__" : Str)) = false := by decide)
    (he : starEach [a] X.env = (false, eval a X.env) :: starEach [] X.env := by rfl) (hpl : (backTo pos (starEach [] X.env)).any (·.1) = false := by rfl) : SE X W (.Call (.Name x p) [a] [] pos) (M.eUn f ma) := PE.imp (pe_callTy hc hg hm hv (pa_cons ha pa_nil he) hn hdb he hpl) fun _ _ _ => sa' hf
theorem qE' {f : M.D -> M.D -> Option M.D} (hc : CallR X (.builtin id) r) (hf : Bi2 X.K f r) (hg : Gl X x) (hm : X.mg x = none) (hv : bootBuiltins x = some (.builtin id)) (ha : SE X W a ma) (hb : SE X W b mb) (hn : x ≠ "__name__" := by decide) (hdb : (x == ("__debug__" : Str)) = false := by decide)
    (he : starEach [a, b] X.env = (false, eval a X.env) :: starEach [b] X.env := by rfl) (he2 : starEach [b] X.env = (false, eval b X.env) :: starEach [] X.env := by rfl) (hpl : (backTo pos (starEach [b] X.env)).any (·.1) = false := by rfl) : SE X W (.Call (.Name x p) [a, b] [] pos) (M.eOp f ma mb) := PE.imp (pe_callB hc hg hm hv (pa_cons ha (pa_cons hb pa_nil he2) he) hn hdb he hpl) fun _ _ _ => xi' hf
theorem f4' {F H : Hp} {a : Addr} {u : HO} (s : Same F H) (h : Rd F a u) : Rd H a u := h.imp (s _ _) fun ⟨o, h⟩ => ⟨o, s _ _ h⟩
theorem dp' : Bi1 K M.en' (vR' K) := by
  intro F H T fp x dx dz Q f hx h k
  by_cases hX : ∃ ks vs, dx = .dcx ks vs
  . obtain ⟨ks, vs, rfl⟩ := hX
    cases h
    cases hx with
    | @dcl a kvs _ _ e ke z =>
      have q : kvs.length = ks.length := by have := congrArg List.length ke.e; simpa using this
      refine .inr (.inl ⟨_, _, rfl, e.imp (f.low _ _) fun ⟨o, h⟩ => ⟨o, f.low _ _ h⟩, ?_⟩)
      rw [q]
      exact k.here f (.int _)
    | @dcn a xs _ _ e ke z1 z2 =>
      have q : xs.length = ks.length := by have := congrArg List.length ke.e; simpa using this
      refine .inr (.inr ⟨_, _, rfl, e.imp (f.low _ _) fun ⟨o, h⟩ => ⟨o, f.low _ _ h⟩, ?_⟩)
      rw [q]
      exact k.here f (.int _)
  refine .inl ?_
  cases dx <;> try (cases h; done)
  . obtain ⟨rfl, o1⟩ := hx.str_inv
    cases h
    refine .inl ⟨_, rfl, o1.len, ?_⟩
    rw [cz']
    exact k.here f (.int _)
  . obtain ⟨a, vs, rfl, ha, za⟩ := hx.tup_inv
    cases h
    refine .inr (.inl ⟨a, vs, rfl, .inr (seqT f.low ha), ?_⟩)
    rw [za.length]
    exact k.here f (.int _)
  . obtain ⟨a, vs, rfl, ha, za⟩ := hx.lst_inv
    cases h
    refine .inr (.inl ⟨a, vs, rfl, .inl (SqL.of (f.low _ _ ha)), ?_⟩)
    rw [za.length]
    exact k.here f (.int _)
  . cases hx with
    | dct ha _ za =>
      cases h
      refine .inr (.inr ⟨_, _, rfl, f4' f.low ha, ?_⟩)
      refine k.here f ?_
      rw [List.length_map]
      exact .int _
  . exact absurd ⟨_, _, rfl⟩ hX
theorem eA' : Bi1 K M.ik' yp' := by
  intro F H T fp x dx dz Q f hx h k
  cases dx <;> try (cases h; done)
  . cases hx; cases h
    exact .inr ⟨_, rfl, k.here f (.int _)⟩
  . cases hx; cases h
    exact .inl ⟨_, rfl, k.here f (.int _)⟩
theorem Cw' : Bi1 K M.Aq' yt' := by
  intro F H T fp x dx dz Q f hx h k
  cases dx <;> try (cases h; done)
  cases hx; cases h
  exact ⟨_, rfl, k.here f (.int _)⟩
theorem u0' : Bi2 K M.rb' yl' := by
  intro F H T fp x y dx dy dz Q f hx hy h k
  cases dx <;> cases dy <;> try (cases h; done)
  cases hx; cases hy; cases h
  exact ⟨_, _, rfl, k.here f (.int _)⟩
theorem r5' : Bi2 K M.oz' yk' := by
  intro F H T fp x y dx dy dz Q f hx hy h k
  cases dx <;> cases dy <;> try (cases h; done)
  cases hx; cases hy; cases h
  exact ⟨_, _, rfl, k.here f (.int _)⟩
theorem sN' {s : M.Tx} : signs (sx s) = s.map chv := by
  unfold signs
  show (s.toArray.toList.map fun c => V.str ⟨#[c]⟩) = _
  simp
  intro a _
  rfl
theorem FzA.signs {K : PySem.W.Frag} {F : Hp} {T : List Addr} {s : M.Tx} (o : okT s) : FzA K F T (S.signs (sx s)) (s.map M.chD) := by
  rw [sN']
  exact FzA.chars o.1
theorem bZ' : Bi1 K M.bR' (qS' K) := by
  intro F H T fp x dx dz Q f hx h k
  cases dx <;> try (cases h; done)
  . obtain ⟨rfl, o⟩ := hx.str_inv
    cases h
    exact .inr ⟨_, rfl, o.len, fun l hl => k.newT f (FzA.signs o) hl⟩
  . obtain ⟨a, vs, rfl, ha, za⟩ := hx.tup_inv
    cases h
    exact .inl ⟨a, vs, rfl, .inr ⟨seqT f.low ha, k.here f (.tup ha za)⟩⟩
  . obtain ⟨a, vs, rfl, ha, za⟩ := hx.lst_inv
    cases h
    exact .inl ⟨a, vs, rfl, .inl ⟨SqL.of (f.low _ _ ha), fun l hl => k.newT f za hl⟩⟩
theorem u1' : Bi1 K M.d9' (qW' K) := by
  intro F H T fp x dx dz Q f hx h k
  cases dx <;> try (cases h; done)
  . obtain ⟨rfl, o⟩ := hx.str_inv
    cases h
    exact .inr ⟨_, rfl, o.len, fun l hl => k.newL f (FzA.signs o) hl⟩
  . obtain ⟨a, vs, rfl, ha, za⟩ := hx.tup_inv
    cases h
    exact .inl ⟨a, vs, rfl, .inr (seqT f.low ha), fun l hl => k.newL f za hl⟩
  . obtain ⟨a, vs, rfl, ha, za⟩ := hx.lst_inv
    cases h
    exact .inl ⟨a, vs, rfl, .inl (SqL.of (f.low _ _ ha)), fun l hl => k.newL f za hl⟩
theorem uq' {F H : Hp} {T : List Addr} {v : V} {d : M.D} {n : String} (s : Same F H) (h : Fz K F T v d) (e : M.tyn d = some n) : TyX K H v (.type n) := by
  cases h with
  | non => cases e; exact .base .non
  | bl b => cases e; exact .base (.bl b)
  | int i => cases e; exact .base (.int i)
  | str z => cases e; exact .base (.str _)
  | lst h1 _ => cases e; exact tyL (SqL.of (s _ _ h1))
  | tup h1 _ => cases e; exact tyT (seqT s h1)
  | dct h1 _ _ =>
    cases e
    rcases h1 with h1 | ⟨o, h1⟩
    . exact .base (.dK (s _ _ h1))
    . exact .fDict (s _ _ h1)
  | dcl _ _ _ => cases e
  | dcn _ _ _ _ => cases e
  | rep _ => cases e
  | obj _ => cases e
  | ty _ => cases e
  | fn _ => cases e
  | scr _ _ => cases e
theorem wl' : ∀ n ∈ ["NoneType", "bool", "int", "str", "tuple", "list", "dict"], ∀ t ∈ ["bool", "int", "str", "tuple", "list", "dict"], kitB n t = some (n == t || (n == "bool" && t == "int")) := by decide +kernel
theorem vw' {d : M.D} {n : String} (e : M.tyn d = some n) : n ∈ ["NoneType", "bool", "int", "str", "tuple", "list", "dict"] := by
  cases d <;> first | (cases e; done) | (cases e; decide)
def mi' (K : PySem.W.Frag) (J : It) (ds : List M.D) (F : Hp) (T : List Addr) : Prop := ∀ F' T' H' fp i, Ext F T F' T' -> FpH F' H' fp -> i <= ds.length →
  (i = ds.length -> J.stop i H') /\ ∀ d, ds[i]? = some d -> J.go i H' /\ ∀ x H2, J.yld i H' x H2 -> ∃ F2, Same F' F2 /\ Fz K F2 T' x d /\ FpH F2 H2 fp
theorem mi'.mono {J : It} {ds : List M.D} {F F' : Hp} {T T' : List Addr} (h : mi' K J ds F T) (e : Ext F T F' T') : mi' K J ds F' T' := fun F2 T2 H2 fp i e2 => h F2 T2 H2 fp i (e.trans e2)
def qI (K : PySem.W.Frag) (W : WX) (m : M.MI) : TI := fun σ H R => ∃ ρ F T fr, Rel K ρ σ H F T fr ∧
  aZ' (m ρ) (fun ds ρ' => ∀ J H' F' T', Ext F T F' T' -> mi' K J ds F' T' -> Rel K ρ' σ H' F' T' fr -> R J H') (EX K W σ F T fr)
abbrev SI (X : Cx) (W : WX) (tg e : Expr) (m : M.MI) : Prop := PI X tg e (qI X.K W m)
theorem PI.imp {tg e : Expr} {t t' : TI} (h : PI X tg e t) (i : ∀ σ H Q, t' σ H Q -> t σ H Q) : PI X tg e t' := ⟨fun pins s σ H Q I q => h.run pins s σ H Q I (i σ H Q q)⟩
theorem wr' {a : Addr} {vs : List V} {ds : List M.D} {F : Hp} {T : List Addr} (ha : F a = some (.lst vs)) (z : FzA K F T vs ds) : mi' K (Itl K a) ds F T := fun F' T' H' fp i e f hi => by
  have h' : SqL K H' a vs := SqL.of (f.low _ _ (e.f.lst ha))
  refine ⟨fun q => ⟨vs, h', by rw [z.length]; omega⟩, fun d hd => ?_⟩
  obtain ⟨v, h1, h2⟩ := z.get hd
  refine ⟨⟨vs, v, h', h1⟩, fun x H2 y => ?_⟩
  obtain ⟨rfl, y⟩ := y
  have := y vs h'
  rw [h1] at this
  cases this
  exact ⟨F', fun _ _ e => e, h2.mono e, f⟩
theorem yW' {a : Addr} {vs : List V} {ds : List M.D} {F : Hp} {T : List Addr} (ha : SqT K F a vs) (z : FzA K F T vs ds) : mi' K (Itt K a) ds F T := fun F' T' H' fp i e f hi => by
  have h' : SqT K H' a vs := seqT f.low (e.f.seqT ha)
  refine ⟨fun q => ⟨vs, h', by rw [z.length]; omega⟩, fun d hd => ?_⟩
  obtain ⟨v, h1, h2⟩ := z.get hd
  refine ⟨⟨vs, v, h', h1⟩, fun x H2 y => ?_⟩
  obtain ⟨rfl, y⟩ := y
  have := y vs h'
  rw [h1] at this
  cases this
  exact ⟨F', fun _ _ e => e, h2.mono e, f⟩
theorem x2' (s : M.Tx) (i : Nat) : (sx s).cps[i]? = s[i]? := by simp [sx]
theorem yX' {s : M.Tx} {F : Hp} {T : List Addr} (o : okT s) : mi' K (Its (sx s)) (s.map M.chD) F T := fun F' T' H' fp i e f hi => by
  have el : (sx s).cps.size = s.length := cz' s
  rw [List.length_map] at hi ⊢
  refine ⟨fun q => by show (sx s).cps.size <= i; omega, fun d hd => ?_⟩
  rw [List.getElem?_map] at hd
  cases q : s[i]? with
  | none => rw [q] at hd; cases hd
  | some c =>
    rw [q] at hd
    cases hd
    refine ⟨by show i < (sx s).cps.size; have := (List.getElem?_eq_some_iff.mp q).1; omega, fun x H2 y => ?_⟩
    obtain ⟨rfl, c', h1, rfl⟩ := y
    rw [x2', q] at h1
    cases h1
    exact ⟨F', fun _ _ e => e, rQ' (o.1 c (List.mem_of_getElem? q)), f⟩
theorem yY' {lo : Int} {n : Nat} {F : Hp} {T : List Addr} : mi' K (Itr lo n) (M.rgI lo n) F T := fun F' T' H' fp i e f hi => by
  unfold M.rgI at hi ⊢
  rw [List.length_map, List.length_range] at hi ⊢
  refine ⟨fun q => by show n <= i; omega, fun d hd => ?_⟩
  rw [List.getElem?_map] at hd
  by_cases h : i < n
  . rw [List.getElem?_range h] at hd
    cases hd
    refine ⟨h, fun x H2 y => ?_⟩
    obtain ⟨rfl, rfl⟩ := y
    exact ⟨F', fun _ _ e => e, .int _, f⟩
  . rw [List.getElem?_eq_none (by rw [List.length_range]; omega)] at hd
    cases hd
theorem yy' {tg e : Expr} {te : TE} (h : PE X e te) : PI X tg e (fun σ H R => iStr te σ H R \/ iList X.K te σ H R \/ iTup X.K te σ H R) := vW' (pi_str h) (vW' (pi_list h) (pi_tup h))
theorem vS' {m : M.ME} {ρ ρ1 : M.PSt} {F : Hp} {T : List Addr} {fr : Fp} {d : M.D} (rel : Rel K ρ σ H F T fr) (em : m ρ = .ok d ρ1) (h : ∀ v H' F' T', Ext F T F' T' -> Fz K F' T' v d -> Rel K ρ1 σ H' F' T' fr -> Q v H') : qE K W m σ H Q :=
  ⟨ρ, F, T, fr, rel, by rw [em]; exact h⟩
theorem a6' {tg : Expr} (h : SE X W a ma) : SI X W tg a (M.do' ma) := PI.imp (yy' h) fun σ H R ⟨ρ, F, T, fr, rel, q⟩ => by
  have q2 := aZ'.bind q
  cases em : ma ρ with
  | bad => rw [em] at q2; exact q2.elim
  | exc x ρ1 =>
    rw [em] at q2
    exact .inl ⟨ρ, F, T, fr, rel, by rw [em]; exact q2⟩
  | ok d ρ1 =>
    rw [em] at q2
    obtain ⟨ds, e1, q3⟩ := aZ'.ofO (show aZ' _ _ _ from q2)
    cases d <;> try (cases e1; done)
    . cases e1
      refine .inl (vS' rel em fun v H' F' T' e z r => ?_)
      obtain ⟨rfl, o⟩ := z.str_inv
      exact ⟨_, rfl, q3 _ _ _ _ e (yX' o) r⟩
    . cases e1
      refine .inr (.inr (vS' rel em fun v H' F' T' e z r => ?_))
      obtain ⟨p, vs, rfl, ha, za⟩ := z.tup_inv
      obtain ⟨fp, f, _⟩ := r.fp
      exact ⟨p, rfl, ⟨vs, seqT f.low ha⟩, q3 _ _ _ _ e (yW' ha za) r⟩
    . cases e1
      refine .inr (.inl (vS' rel em fun v H' F' T' e z r => ?_))
      obtain ⟨p, vs, rfl, ha, za⟩ := z.lst_inv
      obtain ⟨fp, f, _⟩ := r.fp
      exact ⟨p, rfl, ⟨vs, SqL.of (f.low _ _ ha)⟩, q3 _ _ _ _ e (wr' ha za) r⟩
theorem Cy' {i : Int} (h : M.so' i = true) : -(2 ^ 62) <= i /\ i < 2 ^ 62 := by
  unfold M.so' at h
  simpa [Bool.and_eq_true] using h
theorem bK' {tg : Expr} (hg : Gl X "range") (hm : X.mg "range" = none) (ha : SE X W a ma) (hs : starEach [a] X.env = [(false, eval a X.env)] := by rfl) : SI X W tg (.Call (.Name "range" p) [a] [] pos) (M.bY' ma) :=
  PI.imp (pi_range1 hg hm (pa_cons ha pa_nil hs) hs) fun σ H R ⟨ρ, F, T, fr, rel, q⟩ => by
    refine ay' rel q fun dx ρ1 v H1 F1 T1 e1 z1 r1 h1 => ?_
    obtain ⟨ds, e2, q2⟩ := aZ'.ofO h1
    unfold M.fA' at e2
    split at e2
    . split at e2
      . rename_i hb
        cases e2
        cases z1
        obtain ⟨b1, b2⟩ := Cy' hb
        exact ⟨_, rfl, b1, b2, q2 _ _ _ _ e1 yY' r1⟩
      . cases e2
    . cases e2
theorem mj' : ∀ (a b : List M.D), (M.ds' a b).length = min a.length b.length
  | [], _ => by simp [M.ds']
  | _ :: _, [] => by simp [M.ds']
  | x :: a, y :: b => by
    show (M.ds' a b).length + 1 = _
    rw [mj' a b]
    simp only [List.length_cons]
    omega
theorem mk' : ∀ (a b : List M.D) (i : Nat) (d : M.D), (M.ds' a b)[i]? = some d -> ∃ x y, a[i]? = some x /\ b[i]? = some y /\ d = .tup [x, y]
  | [], _, i, d, h => by simp [M.ds'] at h
  | _ :: _, [], i, d, h => by simp [M.ds'] at h
  | x :: a, y :: b, 0, d, h => ⟨x, y, rfl, rfl, (Option.some.inj h).symm⟩
  | x :: a, y :: b, i + 1, d, h => mk' a b i d h
theorem je' {J : It} {as bs : List M.D} {F : Hp} {T : List Addr} (hs : ∀ F' T' H' fp i, Ext F T F' T' -> FpH F' H' fp -> i = min as.length bs.length -> J.stop i H')
    (hy : ∀ F' T' H' fp i dx dy, Ext F T F' T' -> FpH F' H' fp -> as[i]? = some dx -> bs[i]? = some dy -> J.go i H' /\ ∀ v H2, J.yld i H' v H2 -> ∃ p x y, v = .ref p /\ H' p = none /\ H2 = upd H' p (.tup [x, y]) /\ Fz K F' T' x dx /\ Fz K F' T' y dy) : mi' K J (M.ds' as bs) F T := fun F' T' H' fp i e f hi => by
  rw [mj'] at hi ⊢
  refine ⟨fun q => hs F' T' H' fp i e f q, fun d hd => ?_⟩
  obtain ⟨dx, dy, h1, h2, rfl⟩ := mk' _ _ _ _ hd
  obtain ⟨g, y⟩ := hy F' T' H' fp i dx dy e f h1 h2
  refine ⟨g, fun v H2 q => ?_⟩
  obtain ⟨p, x, y', rfl, hp, rfl, zx, zy⟩ := y v H2 q
  have s : Same F' (upd F' p (.tup [x, y'])) := cI' (f.free hp)
  exact ⟨_, s, .tup (SqT.of upd_same) (.cons (zx.mono (.of s)) (.cons (zy.mono (.of s)) .nil)), f.new hp⟩
theorem wp' {s t : M.Tx} {F : Hp} {T : List Addr} (o : okT s) (o2 : okT t) : mi' K (ItP (chS (sx s)) (chS (sx t)) (min (sx s).cps.size (sx t).cps.size)) (M.ds' (s.map M.chD) (t.map M.chD)) F T := by
  have e1 : (sx s).cps.size = s.length := cz' s
  have e2 : (sx t).cps.size = t.length := cz' t
  refine je' (fun F' T' H' fp i e f hi => ?_) fun F' T' H' fp i dx dy e f h1 h2 => ?_
  . rw [List.length_map, List.length_map] at hi
    show i = min (sx s).cps.size (sx t).cps.size
    omega
  . rw [List.getElem?_map] at h1 h2
    cases q1 : s[i]? with
    | none => rw [q1] at h1; cases h1
    | some c =>
      cases q2 : t[i]? with
      | none => rw [q2] at h2; cases h2
      | some d =>
        rw [q1] at h1
        rw [q2] at h2
        cases h1
        cases h2
        have l1 := (List.getElem?_eq_some_iff.mp q1).1
        have l2 := (List.getElem?_eq_some_iff.mp q2).1
        refine ⟨by show i < min (sx s).cps.size (sx t).cps.size; omega, fun v H2 y => ?_⟩
        obtain ⟨p, x, y', rfl, hp, rfl, c1, c2⟩ := y
        unfold chS at c1 c2
        rw [fV', q1] at c1
        rw [fV', q2] at c2
        cases c1
        cases c2
        exact ⟨p, _, _, rfl, hp, rfl, rQ' (o.1 c (List.mem_of_getElem? q1)), rQ' (o2.1 d (List.mem_of_getElem? q2))⟩
theorem wq' {a b : Addr} {vs ws : List V} {ds es : List M.D} {F : Hp} {T : List Addr} (ha : F a = some (.lst vs)) (z : FzA K F T vs ds) (hb : F b = some (.lst ws)) (z2 : FzA K F T ws es) : mi' K (Itz K a b) (M.ds' ds es) F T := by
  refine je' (fun F' T' H' fp i e f hi => ?_) fun F' T' H' fp i dx dy e f h1 h2 => ?_
  . exact ⟨vs, ws, SqL.of (f.low _ _ (e.f.lst ha)), SqL.of (f.low _ _ (e.f.lst hb)), by rw [z.length, z2.length]; omega⟩
  . obtain ⟨x, x1, x2⟩ := z.get h1
    obtain ⟨y, y1, y2⟩ := z2.get h2
    have a1 : SqL K H' a vs := SqL.of (f.low _ _ (e.f.lst ha))
    have b1 : SqL K H' b ws := SqL.of (f.low _ _ (e.f.lst hb))
    refine ⟨⟨vs, ws, x, y, a1, b1, x1, y1⟩, fun v H2 q => ?_⟩
    obtain ⟨p, x', y', rfl, hp, rfl, q1, q2⟩ := q
    have := q1 vs a1
    rw [x1] at this
    cases this
    have := q2 ws b1
    rw [y1] at this
    cases this
    exact ⟨p, _, _, rfl, hp, rfl, x2.mono e, y2.mono e⟩
theorem wo' {a b : Addr} {vs ws : List V} {ds es : List M.D} {F : Hp} {T : List Addr} (ha : SqT K F a vs) (z : FzA K F T vs ds) (hb : SqT K F b ws) (z2 : FzA K F T ws es) : mi' K (RZ.ItzT K a b) (M.ds' ds es) F T := by
  refine je' (fun F' T' H' fp i e f hi => ?_) fun F' T' H' fp i dx dy e f h1 h2 => ?_
  . exact ⟨vs, ws, seqT f.low (e.f.seqT ha), seqT f.low (e.f.seqT hb), by rw [z.length, z2.length]; omega⟩
  . obtain ⟨x, x1, x2⟩ := z.get h1
    obtain ⟨y, y1, y2⟩ := z2.get h2
    have a1 : SqT K H' a vs := seqT f.low (e.f.seqT ha)
    have b1 : SqT K H' b ws := seqT f.low (e.f.seqT hb)
    refine ⟨⟨vs, ws, x, y, a1, b1, x1, y1⟩, fun v H2 q => ?_⟩
    obtain ⟨p, x', y', rfl, hp, rfl, q1, q2⟩ := q
    have := q1 vs a1
    rw [x1] at this
    cases this
    have := q2 ws b1
    rw [y1] at this
    cases this
    exact ⟨p, _, _, rfl, hp, rfl, x2.mono e, y2.mono e⟩
theorem x8' {elts : List Expr} {kk : Nat} {tpos : Pos} (hg : Gl X "zip") (hm : X.mg "zip" = none) (ha : SE X W a ma) (hb : SE X W b mb)
    (hs : starEach [a, b] X.env = (false, eval a X.env) :: starEach [b] X.env := by rfl) (hs2 : starEach [b] X.env = (false, eval b X.env) :: starEach [] X.env := by rfl) (hpl : (backTo pos (starEach [b] X.env)).any (·.1) = false := by rfl) :
    SI X W (.Tuple elts kk tpos) (.Call (.Name "zip" p) [a, b] [] pos) (M.y4' ma mb) :=
  PI.imp (vU' hg hm (pa_cons ha (pa_cons hb pa_nil hs2) hs) hs hpl) fun σ H R ⟨ρ, F, T, fr, rel, q⟩ => by
    -- the kind of both is known ahead
    have fin : ∀ (isS : Bool), (∀ x ρ1, ma ρ = .ok x ρ1 -> ∀ y ρ2, mb ρ1 = .ok y ρ2 -> (isS = true ↔ ∃ s, x = .str s)) -> y2' X.K (tCons (qE X.K W ma) (tCons (qE X.K W mb) tNil)) σ H R := by
      intro isS hS
      have q1 := aZ'.bind q
      have body : ∀ (G : List V -> Hp -> Prop), (∀ x y u v H2 F2 T2 ds ρ2, Ext F T F2 T2 -> Fz X.K F2 T2 u x -> Fz X.K F2 T2 v y -> M.si' x y = some ds -> Rel X.K ρ2 σ H2 F2 T2 fr -> (isS = true ↔ ∃ s, x = .str s) →
          (∀ J H' F' T', Ext F T F' T' -> mi' X.K J ds F' T' -> Rel X.K ρ2 σ H' F' T' fr -> R J H') -> G [u, v] H2) -> tCons (qE X.K W ma) (tCons (qE X.K W mb) tNil) σ H G := by
        intro G hG
        refine ⟨ρ, F, T, fr, rel, ?_⟩
        cases em : ma ρ with
        | bad => rw [em] at q1; exact q1.elim
        | exc x ρ1 => rw [em] at q1; exact q1
        | ok x ρ1 =>
          rw [em] at q1
          have q2 := aZ'.bind (show aZ' ((mb ρ1).bind _) _ _ from q1)
          intro u H1 F1 T1 e1 z1 r1
          refine ⟨ρ1, F1, T1, fr, r1, ?_⟩
          cases en : mb ρ1 with
          | bad => rw [en] at q2; exact q2.elim
          | exc y ρ2 => rw [en] at q2; exact EX.mono (show EX X.K W σ F T fr y ρ2 from q2) e1
          | ok y ρ2 =>
            rw [en] at q2
            obtain ⟨ds, e3, q3⟩ := aZ'.ofO (show aZ' (M.ofO _ _) _ _ from q2)
            intro v H2 F2 T2 e2 z2 r2
            exact hG x y u v H2 F2 T2 ds ρ2 (e1.trans e2) (z1.mono e2) z2 e3 r2 (hS x ρ1 em y ρ2 en) q3
      cases isS with
      | true =>
        refine .inl (body _ fun x y u v H2 F2 T2 ds ρ2 e z1 z2 hz r2 hk q3 => ?_)
        obtain ⟨s, rfl⟩ := hk.mp rfl
        cases y <;> try (cases hz; done)
        obtain ⟨rfl, o1⟩ := z1.str_inv
        obtain ⟨rfl, o2⟩ := z2.str_inv
        cases hz
        exact ⟨_, _, rfl, q3 _ _ _ _ e (wp' o1 o2) r2⟩
      | false =>
        refine .inr (body _ fun x y u v H2 F2 T2 ds ρ2 e z1 z2 hz r2 hk q3 => ?_)
        obtain ⟨fp, f, _⟩ := r2.fp
        cases x <;> cases y <;> try (cases hz; done)
        . exact absurd (hk.mpr ⟨_, rfl⟩) Bool.false_ne_true
        . obtain ⟨a1, vs, rfl, ha, za⟩ := z1.tup_inv
          obtain ⟨b1, ws, rfl, hb, zb⟩ := z2.tup_inv
          cases hz
          exact ⟨a1, b1, vs, ws, rfl, .inr ⟨seqT f.low ha, seqT f.low hb, q3 _ _ _ _ e (wo' ha za hb zb) r2⟩⟩
        . obtain ⟨a1, vs, rfl, ha, za⟩ := z1.lst_inv
          obtain ⟨b1, ws, rfl, hb, zb⟩ := z2.lst_inv
          cases hz
          exact ⟨a1, b1, vs, ws, rfl, .inl ⟨SqL.of (f.low _ _ ha), SqL.of (f.low _ _ hb), q3 _ _ _ _ e (wq' ha za hb zb) r2⟩⟩
    cases em : ma ρ with
    | ok x ρ1 =>
      by_cases hx : ∃ s, x = .str s
      . exact fin true fun x' ρ1' e y ρ2 _ => by rw [em] at e; cases e; exact ⟨fun _ => hx, fun _ => rfl⟩
      . exact fin false fun x' ρ1' e y ρ2 _ => by rw [em] at e; cases e; exact ⟨fun z => (nomatch z), fun z => absurd z hx⟩
    | exc x ρ1 => exact fin true fun x' ρ1' e => by rw [em] at e; cases e
    | bad => exact fin true fun x' ρ1' e => by rw [em] at e; cases e
end
end S
namespace S
open PySem PySem.Spec PyProof.Rows L2
variable [Wd] [Hot]
section
variable {K : PySem.W.Frag} {F F' H H' : Hp} {T T' : List Addr} {fp fq fr : Fp} {ρ : M.PSt} {σ : St} {W : WX}
theorem gt' {i : Nat} {x : Option V} : ∀ (is : List Nat) (σ : St), (wipe (σ.set i x) is).set i none = (wipe σ is).set i none
  | [], σ => by show (σ.set i x).set i none = σ.set i none; rw [List.set_set]
  | k :: is, σ => by
    show ((wipe (σ.set i x) is).set k none).set i none = ((wipe σ is).set k none).set i none
    by_cases h : k = i
    . subst h
      rw [List.set_set, List.set_set, gt' is σ]
    . rw [List.set_comm _ _ h, gt' is σ, List.set_comm _ _ h]
theorem FzA.cons_inv {vs : List V} {d : M.D} {ds : List M.D} (h : FzA K F T vs (d :: ds)) : ∃ v r, vs = v :: r /\ Fz K F T v d /\ FzA K F T r ds := by
  cases h with
  | cons a b => exact ⟨_, _, rfl, a, b⟩
theorem RpA.of_fz : ∀ {vs : List V} {ds : List M.D}, FzA K F T vs ds -> RpA K F T vs (ds.map .fz) []
  | _, _, .nil => .nil
  | _, _, .cons z r => RpA.cons (fp := []) (fq := []) (.fz z) (RpA.of_fz r)
def qG (K : PySem.W.Frag) (sl : List Nat) (m : M.MG) : TG := fun v σ H Q => ∃ ρ F T fr d ρ', Rel K ρ σ H F T fr /\ Fz K F T v d /\ m d ρ = some ρ' /\ ∀ σ', wipe σ' sl = wipe σ sl -> Rel K ρ' σ' H F T fr -> Q σ' H
def qGs (K : PySem.W.Frag) (is : List Nat) : TGs := fun vs σ H Q => ∃ ρ F T fr ds ρ', Rel K ρ σ H F T fr /\ FzA K F T vs ds /\ M.gNs is ds ρ = some ρ' /\ ∀ σ', wipe σ' is = wipe σ is -> Rel K ρ' σ' H F T fr -> Q σ' H
abbrev SG (X : Cx) (tg : Expr) (sl : List Nat) (m : M.MG) : Prop := PG X tg (qG X.K sl m)
abbrev SGs (X : Cx) (ts : List Expr) (is : List Nat) : Prop := PGs X ts (qGs X.K is)
theorem PG.imp {X : Cx} {tg : Expr} {t t' : TG} (h : PG X tg t) (i : ∀ v σ H Q, t' v σ H Q -> t v σ H Q) : PG X tg t' := ⟨fun pins s σ H v u Q I r q => h.run pins s σ H v u Q I r (i v σ H Q q)⟩
theorem PGs.imp {X : Cx} {tg : List Expr} {t t' : TGs} (h : PGs X tg t) (i : ∀ v σ H Q, t' v σ H Q -> t v σ H Q) : PGs X tg t' := ⟨fun pins s σ H v u Q I r q => h.run pins s σ H v u Q I r (i v σ H Q q)⟩
theorem Rel.put (rel : Rel K ρ σ H F T fr) {i : Nat} (hi : i < ρ.env.length) {v : V} {o : M.O} {f2 fr' : Fp} (q : Rp K F T v o f2) (p : Part (f2 ++ fr') fr) : Rel K ⟨ρ.env.set i (some o), ρ.w⟩ (σ.set i (some v)) H F T fr' := by
  obtain ⟨fe, fw, re, rw, f⟩ := rel
  obtain ⟨fq, h1, h2⟩ := re.put hi q
  refine ⟨fq, fw, h1, rw, f.part ?_⟩
  have p1 : Part (fq ++ (fw ++ fr')) ((fe ++ f2) ++ (fw ++ fr')) := .app h2 .refl
  refine p1.trans ?_
  refine Part.trans (b := fe ++ (fw ++ (f2 ++ fr'))) ?_ (.app .refl (.app .refl p))
  constructor
  . intro e h
    simp only [List.mem_append] at *
    grind
  . intro x
    simp only [keys, List.map_append, List.count_append] at *
    omega
theorem Part.nilL {a : Fp} : Part ([] ++ a) a := ⟨fun _ h => h, fun _ => Nat.le_refl _⟩
theorem cg' {X : Cx} {pos : Pos} {x : Str} (i : Nat) (hN : X.N.Nodup) (hi : X.N[i]? = some x) (hx : Loc X.env.scope x) (hf : X.fn x = true \/ X.env.scope.names.lookup x = some .local) : SG X (.Name x pos) [i] (M.gN i) :=
  PG.imp (pg_name hN hi hx hf) fun v σ H Q ⟨ρ, F, T, fr, d, ρ', rel, z, e, q⟩ => by
    unfold M.gN at e
    split at e
    . rename_i hl
      cases e
      refine q _ ?_ (rel.put hl (.fz z) .nilL)
      show (σ.set i (some v)).set i none = σ.set i none
      rw [List.set_set]
    . cases e
theorem iQ' {X : Cx} : SGs X [] [] := PGs.imp pgs_nil fun vs σ H Q ⟨ρ, F, T, fr, ds, ρ', rel, z, e, q⟩ => by
  cases ds with
  | nil =>
    cases z
    cases e
    exact ⟨rfl, q _ rfl rel⟩
  | cons d ds => cases e
theorem cq' {X : Cx} {e : Expr} {es : List Expr} {i : Nat} {is : List Nat} (hs : (assignEach (e :: es) X.env).map (·.2) = assign e X.env :: (assignEach es X.env).map (·.2)) (h1 : SG X e [i] (M.gN i)) (h2 : SGs X es is) : SGs X (e :: es) (i :: is) :=
  PGs.imp (pgs_cons h1 h2 hs) fun vs σ H Q ⟨ρ, F, T, fr, ds, ρ', rel, z, e, q⟩ => by
    cases ds with
    | nil => cases e
    | cons d ds =>
      obtain ⟨v, r, rfl, z, zs⟩ := z.cons_inv
      . cases e1 : M.gN i d ρ with
        | none => simp only [M.gNs, e1] at e; cases e
        | some ρ1 =>
          simp only [M.gNs, e1, Option.bind_some] at e
          refine ⟨v, r, rfl, ρ, F, T, fr, d, ρ1, rel, z, e1, fun σ1 w1 r1 => ⟨ρ1, F, T, fr, ds, ρ', r1, zs, e, fun σ2 w2 r2 => q σ2 ?_ r2⟩⟩
          show (wipe σ2 is).set i none = (wipe σ is).set i none
          rw [w2]
          have w1' : σ1.set i none = σ.set i none := w1
          rw [<- gt' (x := none) is σ1, w1', gt' is σ]
theorem Ai' {X : Cx} {es : List Expr} {k} {pos : Pos} {n : Nat} {is : List Nat} (hc : X.calm = true) (hn : (assignEach es X.env).length = n) (hst : (assignEach es X.env).findIdx? (·.1) = none) (hl : is.length = n) (h : SGs X es is) : SG X (.Tuple es k pos) is (M.gT is) :=
  PG.imp (pg_tup hc h hn hst) fun v σ H Q ⟨ρ, F, T, fr, d, ρ', rel, z, e, q⟩ => by
    cases d with
    | tup ds =>
      obtain ⟨a, vs, rfl, ha, za⟩ := z.tup_inv
      obtain ⟨fp, f, _⟩ := rel.fp
      refine ⟨a, vs, rfl, seqT f.low ha, ?_, ρ, F, T, fr, ds, ρ', rel, za, e, q⟩
      rw [za.length, <- hl]
      have : ∀ (is : List Nat) (ds : List M.D) (ρ ρ' : M.PSt), M.gNs is ds ρ = some ρ' -> ds.length = is.length := by
        intro is
        induction is with
        | nil => intro ds ρ ρ' h; cases ds with | nil => rfl | cons d ds => cases h
        | cons i is ih =>
          intro ds ρ ρ' h
          cases ds with
          | nil => cases h
          | cons d ds =>
            cases e1 : M.gN i d ρ with
            | none => simp only [M.gNs, e1] at h; cases h
            | some ρ1 =>
              simp only [M.gNs, e1, Option.bind_some] at h
              exact congrArg (· + 1) (ih ds ρ1 ρ' h)
      exact this is ds ρ ρ' e
    | _ => cases e
theorem RpE.wiped {env : List (Option M.O)} (r : RpE K F T σ env fp) : ∀ is : List Nat, ∃ fq, RpE K F T (wipe σ is) (M.aD' is env) fq /\ Part fq fp
  | [] => ⟨fp, r, .refl⟩
  | i :: is => by
    obtain ⟨fq, h1, h2⟩ := r.wiped is
    obtain ⟨fq2, h3, h4⟩ := h1.drop i none
    exact ⟨fq2, h3, h4.trans h2⟩
theorem gu' {σ : St} : ∀ {is : List Nat} {j : Nat}, j ∉ is -> (wipe σ is)[j]? = σ[j]?
  | [], _, _ => rfl
  | i :: is, j, h => by
    have h' : j ≠ i /\ j ∉ is := by simpa using h
    show ((wipe σ is).set i none)[j]? = _
    rw [List.getElem?_set_ne (Ne.symm h'.1), gu' h'.2]
theorem ll' {σ : St} : ∀ {is : List Nat} {j : Nat}, j ∈ is -> j < σ.length -> (wipe σ is)[j]? = some none
  | i :: is, j, h, hl => by
    show ((wipe σ is).set i none)[j]? = _
    by_cases e : i = j
    . subst e
      rw [List.getElem?_set_self (by rw [wipe_length]; exact hl)]
    . rw [List.getElem?_set_ne e]
      refine ll' ?_ hl
      rcases List.mem_cons.mp h with h | h
      . exact absurd h.symm e
      . exact h
theorem jE' {σ : St} (is : List Nat) : wipe (wipe σ is) is = wipe σ is := by
  refine List.ext_getElem? fun j => ?_
  by_cases h : j ∈ is
  . by_cases hl : j < σ.length
    . rw [ll' h hl, ll' h (by rw [wipe_length]; exact hl)]
    . rw [List.getElem?_eq_none (by rw [wipe_length, wipe_length]; omega), List.getElem?_eq_none (by rw [wipe_length]; omega)]
  . rw [gu' h]
theorem fi' {env : List (Option M.O)} : ∀ {is : List Nat} {j : Nat} {o : M.O}, (M.aD' is env)[j]? = some (some o) -> j ∉ is
  | [], _, _, _ => by simp
  | i :: is, j, o, h => by
    have h : ((M.aD' is env).set i none)[j]? = some (some o) := h
    by_cases hj : i = j
    . subst hj
      by_cases hl : i < (M.aD' is env).length
      . rw [List.getElem?_set_self hl] at h; cases h
      . rw [List.getElem?_eq_none (by simpa using hl)] at h; cases h
    . rw [List.getElem?_set_ne hj] at h
      have := fi' h
      simp only [List.mem_cons, not_or]
      exact ⟨Ne.symm hj, this⟩
theorem RpE.other {env : List (Option M.O)} {σ' : St} (r : RpE K F T σ env fp) (hl : σ'.length = σ.length) (h : ∀ (j : Nat) (o : M.O), env[j]? = some (some o) -> σ'[j]? = σ[j]?) : RpE K F T σ' env fp := by
  induction r generalizing σ' with
  | nil =>
    cases σ' with
    | nil => exact .nil
    | cons _ _ => cases hl
  | off r ih =>
    cases σ' with
    | nil => cases hl
    | cons y σ' => exact .off (ih (Nat.succ.inj hl) fun j o e => h (j + 1) o e)
  | on q r ih =>
    cases σ' with
    | nil => cases hl
    | cons y σ' =>
      have e : y = _ := Option.some.inj (h 0 _ rfl)
      subst e
      exact .on q (ih (Nat.succ.inj hl) fun j o e => h (j + 1) o e)
  | hot hh z r ih =>
    cases σ' with
    | nil => cases hl
    | cons y σ' =>
      have e : y = _ := Option.some.inj (h 0 _ rfl)
      subst e
      exact .hot hh z (ih (Nat.succ.inj hl) fun j o e => h (j + 1) o e)
  | clo hh z r ih =>
    cases σ' with
    | nil => cases hl
    | cons y σ' =>
      have e : y = _ := Option.some.inj (h 0 _ rfl)
      subst e
      exact .clo hh z (ih (Nat.succ.inj hl) fun j o e => h (j + 1) o e)
theorem RpE.backed {env0 : List (Option M.O)} (h0 : ∀ (i : Nat) (d : M.D), env0[i]? = some (some (M.O.fz d)) -> ∃ v, σ[i]? = some (some v) /\ Fz K F T v d) : ∀ (is : List Nat) {env : List (Option M.O)} {fp : Fp}, RpE K F T σ env fp -> ∃ fq, RpE K F T σ (M.back env0 is env) fq /\ Part fq fp
  | [], env, fp, r => ⟨fp, r, .refl⟩
  | i :: is, env, fp, r => by
    obtain ⟨fq, h1, h2⟩ := RpE.backed h0 is r
    unfold M.back
    split
    . rename_i d e
      obtain ⟨v, hv, z⟩ := h0 i d e
      obtain ⟨f2, h3, h4⟩ := h1.put0 hv (.fz z)
      refine ⟨f2, h3, h4.trans ?_⟩
      rw [List.append_nil]
      exact h2
    . obtain ⟨f2, h3, h4⟩ := h1.drop0 i
      exact ⟨f2, h3, h4.trans h2⟩
theorem RpE.data {env : List (Option M.O)} (r : RpE K F T σ env fp) {i : Nat} {d : M.D} (h : env[i]? = some (some (.fz d))) : ∃ v, σ[i]? = some (some v) /\ Fz K F T v d := by
  obtain ⟨v, f1, f2, f3, h1, _, h3, _⟩ := r.get h
  cases h3 with
  | fz z => exact ⟨v, h1, z⟩
abbrev W0 : WX := fun _ _ _ _ => False
theorem aZ'.noX {α : Type} {r : M.Res α} {P : α -> M.PSt -> Prop} {Y Y' : Wx} (h : aZ' (M.noX r) P Y) : aZ' r P Y' := by
  cases r with
  | ok a ρ => exact h
  | exc x ρ => exact h.elim
  | bad => exact h
def Ac' (K : PySem.W.Frag) (sl : List Nat) (g : M.MG) (t : M.MT) (e : M.ME) (ds : List M.D) (σ : St) (D : Addr) (fr : Fp) (F1 : Hp) (T1 : List Addr) (P : List M.D -> M.PSt -> Prop) (Y : Wx) (i : Nat) (H : Hp) : Prop :=
  i <= ds.length /\ ∃ ρ' F' T' acc vacc, Ext F1 T1 F' T' /\ FzA K F' T' vacc acc /\ Rel K ⟨M.aD' sl ρ'.env, ρ'.w⟩ (wipe σ sl) H F' T' ((D, .lst vacc) :: fr) /\ aZ' (M.lcL sl g t e (ds.drop i) acc ρ') P Y
theorem Rel.wiped (r : Rel K ρ σ H F T fr) (is : List Nat) : Rel K ⟨M.aD' is ρ.env, ρ.w⟩ (wipe σ is) H F T fr := by
  obtain ⟨fe, fw, re, rw, f⟩ := r
  obtain ⟨fq, h1, h2⟩ := re.wiped is
  exact ⟨fq, fw, h1, rw, f.part (.app h2 .refl)⟩
theorem Rel.own (r : Rel K ρ σ H F T fr) {p : Addr} {o : HO} (hp : H p = none) : Rel K ρ σ (upd H p o) F T ((p, o) :: fr) := by
  obtain ⟨fe, fw, re, rw, f⟩ := r
  refine ⟨fe, fw, re, rw, (f.own hp).part ?_⟩
  constructor
  . intro e h
    simp only [List.mem_append, List.mem_cons] at *
    grind
  . intro x
    simp only [keys, List.map_append, List.map_cons, List.count_append, List.count_cons] at *
    omega
theorem Rel.at_ (r : Rel K ρ σ H F T fr) {e : Addr × HO} (h : e ∈ fr) : H e.1 = some e.2 := by
  obtain ⟨fe, fw, re, rw, f⟩ := r
  exact (f.at_ e (List.mem_append_right _ (List.mem_append_right _ h))).1
theorem Rel.write {p : Addr} {o o' : HO} (r : Rel K ρ σ H F T ((p, o) :: fr)) : Rel K ρ σ (upd H p o') F T ((p, o') :: fr) := by
  obtain ⟨fe, fw, re, rw, f⟩ := r
  have f' : FpH F H ((fe ++ fw) ++ ((p, o) :: fr)) := by rw [List.append_assoc]; exact f
  refine ⟨fe, fw, re, rw, ?_⟩
  have := f'.write (o' := o')
  rw [List.append_assoc] at this
  exact this
theorem rD' {sl : List Nat} {it : M.MI} {g : M.MG} {t : M.MT} {e : M.ME} {Q : VK} (h : qO K W (M.oLc sl it g t e) σ H Q) : tLc (qI K W it) (qG K sl g) (qT K W0 t) (qE K W0 e) sl σ H Q := by
  obtain ⟨ρ, F, T, fr, rel, h⟩ := h
  refine ⟨ρ, F, T, fr, rel, (aZ'.bind h).mono (fun ds ρ1 h1 J H1 F1 T1 e1 io r1 => ?_) fun _ _ z => z⟩
  intro D hD
  have h2 := aZ'.bind h1
  -- the loop's word
  refine ⟨fun i m H => m = ds.length - i /\ Ac' K sl g t e ds σ D fr F1 T1 _ _ i H, ⟨ds.length, by simp, Nat.zero_le _, ρ1, F1, T1, [], [], .refl, .nil, (r1.wiped sl).own hD, h2⟩, ?_⟩
  rintro i m H2 ⟨rfl, hi, ρ2, F2, T2, acc, vacc, e2, za, r2, h3⟩
  have hH : H2 D = some (.lst vacc) := r2.at_ (e := (D, .lst vacc)) List.mem_cons_self
  obtain ⟨fp2, f2, _⟩ := r2.fp
  by_cases hl : i = ds.length
  . refine .inl ⟨(io F2 T2 H2 fp2 i e2 f2 hi).1 hl, ?_⟩
    rw [hl, List.drop_length] at h3
    have h4 : aZ' (M.lcL sl g t e [] acc ρ2) _ _ := h3
    unfold M.lcL at h4
    have h5 := h4
    refine h5 (.ref D) H2 F2 T2 ((D, .lst vacc) :: []) (e1.trans e2) ?_ ?_
    . exact .lst (RpA.of_fz za)
    . obtain ⟨fe, fw, re, rw, f⟩ := r2
      have re1 : RpE K F2 T2 σ (M.aD' sl ρ2.env) fe := by
        refine re.other ?_ fun j o hj => (gu' (fi' hj)).symm
        rw [wipe_length]
      obtain ⟨fe0, fw0, re0, rw0, f0⟩ := r1
      obtain ⟨fq, h6, h7⟩ := RpE.backed (env0 := ρ1.env) (fun i d hd => by
        obtain ⟨v, hv, z⟩ := re0.data hd
        exact ⟨v, hv, z.mono e2⟩) sl re1
      exact ⟨fq, fw, h6, rw, f.part (.app h7 .refl)⟩
  . have hlt : i < ds.length := by omega
    have hd : ds[i]? = some ds[i] := List.getElem?_eq_getElem hlt
    obtain ⟨go, yl⟩ := (io F2 T2 H2 fp2 i e2 f2 hi).2 _ hd
    refine .inr ⟨go, Ac' K sl g t e ds σ D fr F1 T1 _ _ (i + 1), fun H' n => ⟨ds.length - (i + 1), by omega, rfl, n⟩, fun x H3 y => ?_⟩
    obtain ⟨fe, fw, re, rw, f⟩ := id r2
    obtain ⟨yg, yh⟩ := (io F2 T2 H2 _ i e2 f hi).2 _ hd
    obtain ⟨F3, s3, zx, f3⟩ := yh x H3 y
    have r3 : Rel K ⟨M.aD' sl ρ2.env, ρ2.w⟩ (wipe σ sl) H3 F3 T2 ((D, .lst vacc) :: fr) := ⟨fe, fw, re.mono (.of s3), rw.mono (.of s3), f3⟩
    rw [List.drop_eq_getElem_cons hlt] at h3
    unfold M.lcL at h3
    cases eg : g ds[i] ⟨M.aD' sl ρ2.env, ρ2.w⟩ with
    | none => rw [eg] at h3; exact h3.elim
    | some ρ3 =>
      rw [eg] at h3
      refine ⟨_, F3, T2, _, ds[i], ρ3, r3, zx, eg, fun σ4 w4 r4 => ?_⟩
      rw [jE'] at w4
      refine ⟨w4, ?_⟩
      have h4 := aZ'.bind h3
      refine ⟨ρ3, F3, T2, _, r4, (aZ'.noX h4).mono (fun b ρ5 h5 H5 F5 T5 e5 r5 => ?_) fun _ _ z => z⟩
      cases b with
      | false =>
        rw [if_neg Bool.false_ne_true]
        refine ⟨hlt, ρ5, F5, T5, acc, vacc, e2.trans ((Ext.of s3).trans e5), (za.mono (.of s3)).mono e5, ?_, h5⟩
        rw [<- w4]
        exact r5.wiped sl
      | true =>
        rw [if_pos rfl] at h5 ⊢
        have h6 := aZ'.bind h5
        refine ⟨ρ5, F5, T5, _, r5, (aZ'.noX h6).mono (fun d ρ6 h7 y6 H6 F6 T6 e6 z6 r6 => ?_) fun _ _ z => z⟩
        split at h7
        . rename_i hacc
          have hH6 : H6 D = some (.lst vacc) := r6.at_ (e := (D, .lst vacc)) List.mem_cons_self
          refine ⟨vacc, hH6, by rw [bM', za.length]; exact hacc, hlt, ρ6, F6, T6, acc ++ [d], vacc ++ [y6], e2.trans ((Ext.of s3).trans (e5.trans e6)), (((za.mono (.of s3)).mono e5).mono e6).append (.cons z6 .nil), ?_, h7⟩
          rw [<- w4]
          exact (r6.wiped sl).write
        . exact h7.elim
end
section
variable {X : Cx} {W : WX} {pos : Pos} {elt tg iter : Expr} {ifs : List Expr} {scope : Scope} {own : List (Str × Nat)} {sl : List Nat} {it : M.MI} {g : M.MG} {t : M.MT} {e : M.ME}
theorem bm' {X : Cx} {W : WX} : PTs X [] (qT X.K W M.tT) := ⟨fun _ _ _ H Q I ⟨ρ, F, T, fr, rel, h⟩ => wpAny_tests_nil ⟨H, I, h _ _ _ .refl rel⟩⟩
theorem dR' {X : Cx} {W : WX} {c : Expr} {m : M.MT} (h : ST X W c m) : PTs X [c] (qT X.K W m) := pts_one h
theorem vE' (hc : X.calm = true) (hN : X.N.Nodup) (hi : SI X W tg iter it) (ok : BlkOk X.N X.env.scope scope own) (hsl : sl = own.map (·.2))
    (hg : ∀ (s : Shared) (H : Hp) (C : Addr) (cl : List (Str × Addr)) (fp : List Addr), SG (X.blk s H scope (compEnvC scope cl C X.env) fp) tg sl g) (ht : ∀ (s : Shared) (H : Hp) (C : Addr) (cl : List (Str × Addr)) (fp : List Addr), PTs (X.blk s H scope (compEnvC scope cl C X.env) fp) ifs (qT X.K W0 t))
    (he : ∀ (s : Shared) (H : Hp) (C : Addr) (cl : List (Str × Addr)) (fp : List Addr), SE (X.blk s H scope (compEnvC scope cl C X.env) fp) W0 elt e) (hs : ∀ x, foldedSetIterable iter X.env x = pure x := by intro _; rfl) :
    SO X W (.ListComp elt [⟨tg, iter, ifs, 0⟩] scope pos) (M.oLc sl it g t e) := by
  subst hsl
  exact PE.imp (pe_lc hc hN hi ok hg ht he hs) fun σ H Q h => rD' h
theorem yw' {K : PySem.W.Frag} {m : M.MO} {σ : St} {H : Hp} {Q : VK} (h : qE K W (M.eO m) σ H Q) : qO K W m σ H Q := by
  obtain ⟨ρ, F, T, fr, rel, h⟩ := h
  refine ⟨ρ, F, T, fr, rel, (aZ'.bind h).mono (fun o ρ1 h1 v H1 F1 T1 fp e1 z1 r1 => ?_) fun _ _ z => z⟩
  obtain ⟨G, s, z, r⟩ := r1.frozen z1
  exact h1 v H1 G T1 (e1.trans (.of s)) z r
theorem cv' {a : Expr} {m : M.MO} (h : SO X W a m) : SE X W a (M.eO m) := PE.imp h fun σ H Q h => yw' h
theorem bf' {a : Expr} {m : M.ME} (h : SE X W a m) : SO X W a (M.oE m) := PE.imp h fun σ H Q ⟨ρ, F, T, fr, rel, h⟩ => ay' rel h fun d ρ1 v H1 F1 T1 e1 z1 r1 h1 => h1 v H1 F1 T1 [] e1 (.fz z1) r1
theorem yS' (xs : List M.D) : M.frz (.lst (xs.map .fz)) = .lst xs := by
  show M.D.lst (M.frzs _) = _
  rw [M.rR']
theorem d4' (hc : X.calm = true) (hN : X.N.Nodup) (hi : SI X W tg iter it) (ok : BlkOk X.N X.env.scope scope own) (hsl : sl = own.map (·.2))
    (hg : ∀ (s : Shared) (H : Hp) (C : Addr) (cl : List (Str × Addr)) (fp : List Addr), SG (X.blk s H scope (compEnvC scope cl C X.env) fp) tg sl g) (ht : ∀ (s : Shared) (H : Hp) (C : Addr) (cl : List (Str × Addr)) (fp : List Addr), PTs (X.blk s H scope (compEnvC scope cl C X.env) fp) ifs (qT X.K W0 t))
    (he : ∀ (s : Shared) (H : Hp) (C : Addr) (cl : List (Str × Addr)) (fp : List Addr), SE (X.blk s H scope (compEnvC scope cl C X.env) fp) W0 elt e) (hs : ∀ x, foldedSetIterable iter X.env x = pure x := by intro _; rfl) :
    SE X W (.ListComp elt [⟨tg, iter, ifs, 0⟩] scope pos) (M.eLc sl it g t e) := by
  have h := cv' (vE' (pos := pos) hc hN hi ok hsl hg ht he hs)
  have eq : M.eO (M.oLc sl it g t e) = M.eLc sl it g t e := by
    funext ρ
    show ((it ρ).bind fun xs ρ1 => _).bind _ = (it ρ).bind _
    cases it ρ with
    | bad => rfl
    | exc x ρ1 => rfl
    | ok xs ρ1 =>
      show ((M.lcL sl g t e xs [] ρ1).bind _).bind _ = (M.lcL sl g t e xs [] ρ1).bind _
      cases M.lcL sl g t e xs [] ρ1 with
      | bad => rfl
      | exc x ρ2 => rfl
      | ok ys ρ2 =>
        show M.Res.ok (M.frz (.lst (ys.map .fz))) _ = M.Res.ok (M.D.lst ys) _
        rw [yS']
  rw [eq] at h
  exact h
end
end S
namespace S
open PySem PySem.Spec PyProof.Rows L2
variable [Wd] [Hot]
section
variable {K : PySem.W.Frag} {F F' H H' : Hp} {T T' : List Addr} {fp fq fr : Fp} {ρ : M.PSt} {σ : St} {W : WX} {D : Ends} {Q : VK}
theorem bw'.mono {r : M.Out} (h : bw' K W D F T fr r) (e : Ext F T F' T') : bw' K W D F' T' fr r := by
  cases r with
  | nx ρ => exact fun σ' H' F2 T2 e2 => h σ' H' F2 T2 (e.trans e2)
  | bk ρ => exact fun σ' H' F2 T2 e2 => h σ' H' F2 T2 (e.trans e2)
  | ct ρ => exact fun σ' H' F2 T2 e2 => h σ' H' F2 T2 (e.trans e2)
  | rt o w => exact fun v H' F2 T2 fp e2 => h v H' F2 T2 fp (e.trans e2)
  | exc x ρ => exact fun σ' cls dd H' F2 T2 e2 => h σ' cls dd H' F2 T2 (e.trans e2)
  | bad => exact h
theorem bw'.imp {r : M.Out} {D' : Ends} {W' : WX} (h : bw' K W D F T fr r) (h1 : ∀ σ H, D.nx σ H -> D'.nx σ H) (h2 : ∀ σ H, D.bk σ H -> D'.bk σ H) (h3 : ∀ σ H, D.ct σ H -> D'.ct σ H) (h4 : ∀ v H, D.rt v H -> D'.rt v H) (h5 : ∀ c d σ H, W c d σ H -> W' c d σ H) : bw' K W' D' F T fr r := by
  cases r with
  | nx ρ => exact fun σ' H' F2 T2 e2 r => h1 _ _ (h σ' H' F2 T2 e2 r)
  | bk ρ => exact fun σ' H' F2 T2 e2 r => h2 _ _ (h σ' H' F2 T2 e2 r)
  | ct ρ => exact fun σ' H' F2 T2 e2 r => h3 _ _ (h σ' H' F2 T2 e2 r)
  | rt o w => exact fun v H' F2 T2 fp e2 z r => h4 _ _ (h v H' F2 T2 fp e2 z r)
  | exc x ρ => exact fun σ' cls dd H' F2 T2 e2 z r => h5 _ _ _ _ (h σ' cls dd H' F2 T2 e2 z r)
  | bad => exact h
theorem eS' {α : Type} {r : M.Res α} {f : α -> M.PSt -> M.Out} (h : bw' K W D F T fr (r.out f)) : aZ' r (fun a ρ' => bw' K W D F T fr (f a ρ')) (EX K W σ F T fr) := by
  cases r with
  | ok a ρ => exact h
  | exc x ρ => exact fun cls dd H' F' T' e z r => h σ cls dd H' F' T' e z r
  | bad => exact h
theorem dw' {m : M.ME} {k : M.D -> M.PSt -> M.Out} (rel : Rel K ρ σ H F T fr) (h : bw' K W D F T fr ((m ρ).out k))
    (q : ∀ d ρ1 v H1 F1 T1, Ext F T F1 T1 -> Fz K F1 T1 v d -> Rel K ρ1 σ H1 F1 T1 fr -> bw' K W D F1 T1 fr (k d ρ1) -> Q v H1) : qE K W m σ H Q :=
  ⟨ρ, F, T, fr, rel, (eS' h).mono (fun d ρ1 h1 v H1 F1 T1 e z r => q d ρ1 v H1 F1 T1 e z r (h1.mono e)) fun _ _ z => z⟩
theorem gS' {m : M.MO} {k : M.O -> M.PSt -> M.Out} (rel : Rel K ρ σ H F T fr) (h : bw' K W D F T fr ((m ρ).out k))
    (q : ∀ o ρ1 v H1 F1 T1 fp, Ext F T F1 T1 -> Rp K F1 T1 v o fp -> Rel K ρ1 σ H1 F1 T1 (fp ++ fr) -> bw' K W D F1 T1 fr (k o ρ1) -> Q v H1) : qO K W m σ H Q :=
  ⟨ρ, F, T, fr, rel, (eS' h).mono (fun d ρ1 h1 v H1 F1 T1 fp e z r => q d ρ1 v H1 F1 T1 fp e z r (h1.mono e)) fun _ _ z => z⟩
theorem qJ' {m : M.MT} {k : Bool -> M.PSt -> M.Out} {Q : Bool -> Hp -> Prop} (rel : Rel K ρ σ H F T fr) (h : bw' K W D F T fr ((m ρ).out k))
    (q : ∀ b ρ1 H1 F1 T1, Ext F T F1 T1 -> Rel K ρ1 σ H1 F1 T1 fr -> bw' K W D F1 T1 fr (k b ρ1) -> Q b H1) : qT K W m σ H Q :=
  ⟨ρ, F, T, fr, rel, (eS' h).mono (fun d ρ1 h1 H1 F1 T1 e r => q d ρ1 H1 F1 T1 e r (h1.mono e)) fun _ _ z => z⟩
theorem vO' {m : M.MI} {k : List M.D -> M.PSt -> M.Out} {R : It -> Hp -> Prop} (rel : Rel K ρ σ H F T fr) (h : bw' K W D F T fr ((m ρ).out k))
    (q : ∀ ds ρ1 J H1 F1 T1, Ext F T F1 T1 -> mi' K J ds F1 T1 -> Rel K ρ1 σ H1 F1 T1 fr -> bw' K W D F1 T1 fr (k ds ρ1) -> R J H1) : qI K W m σ H R :=
  ⟨ρ, F, T, fr, rel, (eS' h).mono (fun d ρ1 h1 J H1 F1 T1 e z r => q d ρ1 J H1 F1 T1 e z r (h1.mono e)) fun _ _ z => z⟩
theorem Rel.noenv (r : Rel K ρ σ H F T fr) : sp' K (ρ.w) H F T fr := by
  obtain ⟨fe, fw, re, rw, f⟩ := r
  exact ⟨[], fw, xv', rw, f.part (.app .nil .refl)⟩
end
section
variable {X : Cx} {W : WX} {pos : Pos} {a b c : Expr} {st : Stmt} {rest body : List Stmt} {ma mb : M.ME} {mo : M.MO} {mt : M.MT} {m1 m2 : M.MS} {D : Ends} {σ : St} {H : Hp}
theorem aU' : SSs X W [] M.bq' := PSs.imp pss_nil fun D σ H ⟨ρ, F, T, fr, rel, h⟩ => h σ H F T .refl rel
theorem ae' (h : SS X W st m1) : SSs X W [st] m1 := pss_one h
theorem ab' (h1 : SS X W st m1) (h2 : SSs X W rest m2) : SSs X W (st :: rest) (M.aw' m1 m2) := PSs.imp (pss_cons h1 h2) fun D σ H ⟨ρ, F, T, fr, rel, h⟩ => by
  refine ⟨ρ, F, T, fr, rel, ?_⟩
  unfold M.aw' at h
  cases e : m1 ρ with
  | nx ρ1 => rw [e] at h; exact fun σ1 H1 F1 T1 e1 r1 => ⟨ρ1, F1, T1, fr, r1, bw'.mono h e1⟩
  | bk ρ1 => rw [e] at h; exact h
  | ct ρ1 => rw [e] at h; exact h
  | rt o w => rw [e] at h; exact h
  | exc x ρ1 => rw [e] at h; exact h
  | bad => rw [e] at h; exact h
theorem sJ' : SS X W (.Break pos) M.nv' := PS.imp ps_break fun D σ H ⟨ρ, F, T, fr, rel, h⟩ => h σ H F T .refl rel
theorem fs' (ha : SE X W a ma) (hs : swapsWith a none pos.line X.env = pure false := by rfl) : SS X W (.Expr a pos) (M.hO' ma) := PS.imp (ps_expr ha hs) fun D σ H ⟨ρ, F, T, fr, rel, h⟩ =>
  dw' rel h fun d ρ1 v H1 F1 T1 e1 z1 r1 h1 => h1 σ H1 F1 T1 .refl r1
theorem az' (ha : SO X W a mo) : SS X W (.Return (some a) pos) (M.ch' mo) := PS.imp (ps_ret ha) fun D σ H ⟨ρ, F, T, fr, rel, h⟩ =>
  gS' rel h fun o ρ1 v H1 F1 T1 fp e1 z1 r1 h1 => h1 v H1 F1 T1 fp .refl z1 r1.noenv
theorem bx' (hc : ST X W c mt) (ha : SSs X W rest m1) (hb : SSs X W body m2) : SS X W (.If c rest body pos) (M.sIf mt m1 m2) := PS.imp (ps_if hc ha hb) fun D σ H ⟨ρ, F, T, fr, rel, h⟩ => by
  refine qJ' rel h fun k ρ1 H1 F1 T1 e1 r1 h1 => ?_
  cases k with
  | true => rw [if_pos rfl] at h1 ⊢; exact ⟨ρ1, F1, T1, fr, r1, h1⟩
  | false => rw [if_neg Bool.false_ne_true] at h1 ⊢; exact ⟨ρ1, F1, T1, fr, r1, h1⟩
theorem ah' {i : Nat} {x : Str} {pos' : Pos} (hN : X.N.Nodup) (hi : X.N[i]? = some x) (hx : Loc X.env.scope x) (ha : SO X W a mo) (hs : swapsWith a (some (.Name x pos')) pos.line X.env = pure false := by rfl) (hf : X.fn x = true \/ X.env.scope.names.lookup x = some .local := by first | exact .inl rfl | exact .inr rfl | assumption) :
    SS X W (.Assign [.Name x pos'] a pos) (M.bh' i mo) := PS.imp (ps_set hN hi hx ha hs hf) fun D σ H ⟨ρ, F, T, fr, rel, h⟩ => by
  refine gS' rel h fun o ρ1 v H1 F1 T1 fp e1 z1 r1 h1 => ?_
  unfold M.vG' at h1
  split at h1
  . rename_i hl
    exact h1 _ H1 F1 T1 .refl (r1.put hl z1 .refl)
  . exact h1.elim
theorem gy' {i : Nat} {y : Str} {py : Pos} {elt tg iter : Expr} {ifs : List Expr} {scope : Scope} {own : List (Str × Nat)} {spos : Pos} {sl : List Nat} {it : M.MI} {g : M.MG} {t : M.MT} {e : M.ME} (hc : X.calm = true) (hN : X.N.Nodup) (hy : X.N[i]? = some y) (hyl : X.env.scope.names.lookup y = some .local)
    (hsw : swapsWith (.ListComp elt [⟨tg, iter, ifs, 0⟩] scope pos) (some (.Name y py)) spos.line X.env = pure true) (hi : SI X W tg iter it) (ok : BlkOk X.N X.env.scope scope own) (hsl : sl = own.map (·.2))
    (hg : ∀ (s : Shared) (H : Hp) (C : Addr) (cl : List (Str × Addr)) (fp : List Addr), SG (X.blk s H scope (compEnvC scope cl C X.env) fp) tg sl g) (ht : ∀ (s : Shared) (H : Hp) (C : Addr) (cl : List (Str × Addr)) (fp : List Addr), PTs (X.blk s H scope (compEnvC scope cl C X.env) fp) ifs (qT X.K W0 t))
    (he : ∀ (s : Shared) (H : Hp) (C : Addr) (cl : List (Str × Addr)) (fp : List Addr), SE (X.blk s H scope (compEnvC scope cl C X.env) fp) W0 elt e) (hs : ∀ x, foldedSetIterable iter X.env x = pure x := by intro _; rfl) :
    SS X W (.Assign [.Name y py] (.ListComp elt [⟨tg, iter, ifs, 0⟩] scope pos) spos) (M.bh' i (M.oLc sl it g t e)) := by
  subst hsl
  refine PS.imp (ps_setLc (g := qG X.K (own.map (·.2)) g) (tt := qT X.K W0 t) (te := qE X.K W0 e) hc hN hy hyl hsw hi ok hg ht he hs) fun D σ H ⟨ρ, F, T, fr, rel, h⟩ => ?_
  show tLc (qI X.K W it) (qG X.K (own.map (·.2)) g) (qT X.K W0 t) (qE X.K W0 e) (own.map (·.2)) σ H fun x H1 => gName i x σ H1 D.nx
  refine rD' (W := W) (gS' (D := D) rel h fun o ρ1 v H1 F1 T1 fp e1 z1 r1 h1 => ?_)
  unfold M.vG' at h1
  split at h1
  . rename_i hl
    exact h1 _ H1 F1 T1 .refl (r1.put hl z1 .refl)
  . exact h1.elim
theorem ux' {tg : Expr} {sl : List Nat} {g : M.MG} (ha : SE X W a ma) (hg : SG X tg sl g) (hs : swapsWithSole [tg] a pos.line X.env = pure false := by rfl) (hw : swappedStores [tg] a X.env = pure none := by rfl)
    (h1 : (assignEach [tg] X.env).map (·.2) = [assign tg X.env] := by rfl) : SS X W (.Assign [tg] a pos) (M.xp' g ma) := PS.imp (ps_asg ha hg hs hw h1) fun D σ H ⟨ρ, F, T, fr, rel, h⟩ => by
  refine dw' rel h fun d ρ1 v H1 F1 T1 e1 z1 r1 h1 => ?_
  cases e : g d ρ1 with
  | none => rw [e] at h1; exact h1.elim
  | some ρ2 =>
    rw [e] at h1
    exact ⟨ρ1, F1, T1, fr, d, ρ2, r1, z1, e, fun σ' _ r' => h1 σ' H1 F1 T1 .refl r'⟩
theorem x5' {i : Nat} {x : Str} {op : Operator} {f : M.D -> M.D -> Option M.D} {ti : TIp} {pos' : Pos} (hN : X.N.Nodup) (hi : X.N[i]? = some x) (hx : Loc X.env.scope x) (ha : SE X W a ma) (ho : PIp X op ti)
    (hf2 : ∀ {F H : Hp} {T : List Addr} {fp : Fp} {x y : V} {dx dy dz : M.D} {Q : VK}, FpH F H fp -> Fz X.K F T x dx -> Fz X.K F T y dy -> f dx dy = some dz -> eD' X.K F T fp dz Q -> ti x y H Q)
    (hf : X.fn x = true \/ X.env.scope.names.lookup x = some .local := by first | exact .inl rfl | exact .inr rfl | assumption) :
    SS X W (.AugAssign (.Name x pos') op a pos) (M.xo' f i ma) := PS.imp (ps_aug hN hi hx ha ho hf) fun D σ H ⟨ρ, F, T, fr, rel, h⟩ => by
  unfold M.xo' at h
  split at h
  . rename_i d e
    obtain ⟨fe, fw, re, rw, ff⟩ := id rel
    obtain ⟨v, hv, zv⟩ := re.data e
    refine ⟨v, hv, dw' rel h fun d2 ρ1 u H1 F1 T1 e1 z1 r1 h1 => ?_⟩
    cases q : f d d2 with
    | none => rw [q] at h1; exact h1.elim
    | some z =>
      rw [q] at h1
      obtain ⟨fp, f1, back⟩ := r1.fp
      refine hf2 f1 (zv.mono e1) z1 q fun v2 H2 F2 s2 z2 f2 => ?_
      unfold M.vG' at h1
      dsimp only at h1
      split at h1
      . rename_i hl
        exact h1 _ H2 F2 T1 (.of s2) ((back H2 F2 s2 f2).put hl (.fz z2) .nilL)
      . exact h1.elim
  . exact h.elim
theorem Bm' {F H : Hp} {T : List Addr} {fp : Fp} {x y : V} {dx dy dz : M.D} {Q : VK} {K : PySem.W.Frag} (f : FpH F H fp) (hx : Fz K F T x dx) (hy : Fz K F T y dy) (h : M.s7' dx dy = some dz) (k : eD' K F T fp dz Q) : ipI (fun i j => i + j) x y H Q := by
  cases dx <;> cases dy <;> try (cases h; done)
  cases hx; cases hy; cases h
  exact ⟨_, _, rfl, rfl, k.here f (.int _)⟩
theorem RpA.app {K : PySem.W.Frag} {F : Hp} {T : List Addr} : ∀ {vs ws : List V} {os ps : List M.O} {fp fq : Fp}, RpA K F T vs os fp -> RpA K F T ws ps fq -> RpA K F T (vs ++ ws) (os ++ ps) (fp ++ fq)
  | _, _, _, _, _, _, .nil, h => h
  | _, _, _, _, _, _, .cons a r, h => by
    rw [List.append_assoc]
    exact .cons a (RpA.app r h)
theorem RpA.length {K : PySem.W.Frag} {F : Hp} {T : List Addr} : ∀ {vs : List V} {os : List M.O} {fp : Fp}, RpA K F T vs os fp -> vs.length = os.length
  | _, _, _, .nil => rfl
  | _, _, _, .cons _ r => congrArg (· + 1) (RpA.length r)
theorem Rel.slotW {K : PySem.W.Frag} {ρ : M.PSt} {F : Hp} {T : List Addr} {fr : Fp} {i : Nat} {p : Addr} {os : List M.O} (rel : Rel K ρ σ H F T fr) (e : ρ.env[i]? = some (some (.lst os))) (hp : σ[i]? = some (some (.ref p))) :
    ∃ vs f2, H p = some (.lst vs) /\ RpA K F T vs os f2 /\ ∀ vs' os' f2' fr', RpA K F T vs' os' f2' -> Part (f2' ++ fr') (f2 ++ fr) -> Rel K ⟨ρ.env.set i (some (.lst os')), ρ.w⟩ σ (upd H p (.lst vs')) F T fr' := by
  obtain ⟨fe, fw, re, rw, f⟩ := rel
  obtain ⟨v, f1, f2, f3, h1, rfl, h3, h4, h5⟩ := re.get e
  rw [h1] at hp
  cases hp
  cases h3 with
  | lst r =>
    rename_i vs0 fp0
    refine ⟨vs0, fp0, (f.at_ (p, .lst vs0) (by simp)).1, r, fun vs' os' f2' fr' r' pt => ?_⟩
    have e5 := h5 F T (.ref p) (.lst os') ((p, .lst vs') :: f2') .refl (.lst r')
    rw [eJ' h1] at e5
    refine ⟨_, fw, e5, rw, ?_⟩
    have fA : FpH F H (f1 ++ ((p, .lst vs0) :: (f3 ++ (fw ++ (fp0 ++ fr))))) := f.part (by
      constructor
      . intro e h
        simp only [List.mem_append, List.mem_cons] at *
        grind
      . intro x
        simp only [keys, List.map_append, List.map_cons, List.count_append, List.count_cons] at *
        omega)
    have fB := fA.write (o' := .lst vs')
    refine fB.part (.trans (b := f1 ++ ((p, .lst vs') :: (f3 ++ (fw ++ (f2' ++ fr'))))) ?_ ?_)
    . constructor
      . intro e h
        simp only [List.mem_append, List.mem_cons] at *
        grind
      . intro x
        simp only [keys, List.map_append, List.map_cons, List.count_append, List.count_cons] at *
        omega
    . have := pt.m
      have := pt.c
      constructor
      . intro e h
        simp only [List.mem_append, List.mem_cons] at *
        grind
      . intro x
        have := pt.c x
        simp only [keys, List.map_append, List.map_cons, List.count_append, List.count_cons] at *
        omega
theorem fX' {i : Nat} {x : Str} {px apos cpos : Pos} (hv : PE X (.Name x px) (tVar i)) (ha : SO X W a mo)
    (hbase : attributeBase (.Name x px) "append" X.env (eval (.Name x px) X.env) = eval (.Name x px) X.env := by rfl)
    (hfew : ((backTo cpos (starEach [a] X.env)).all (fun x => !x.1) && (backToKw cpos (keywordEach [] X.env)).all (fun x => x.1.isSome)
      && decide ([a].length + ([] : List Keyword).length + (if ([] : List Keyword).isEmpty then 0 else 1) < 30)) = true := by rfl)
    (hline : (apos.endLine == cpos.line) = true := by rfl) (hs : starEach [a] X.env = (false, eval a X.env) :: starEach [] X.env := by rfl) (hplain : (backTo cpos (starEach [] X.env)).any (·.1) = false := by rfl)
    (hsw : swapsWith (.Call (.Attribute (.Name x px) "append" apos) [a] [] cpos) none pos.line X.env = pure false := by rfl) :
    SS X W (.Expr (.Call (.Attribute (.Name x px) "append" apos) [a] [] cpos) pos) (M.ou' i mo) :=
  PS.imp (ps_expr (pe_bm PySem.F.plainAttrs_list PySem.F.slot_list_append PySem.F.type_list_append mt_append hv (pa_cons ha pa_nil hs) hbase hfew hline hs hplain) hsw) fun D σ H ⟨ρ, F, T, fr, rel, h⟩ => by
    unfold M.ou' at h
    split at h
    . rename_i os0 e0
      obtain ⟨fe, fw, re, rw, ff⟩ := id rel
      obtain ⟨v, f1, f2, f3, h1, _, h3, _⟩ := re.get e0
      cases h3 with
      | @lst p vs0 _ fp0 r0 =>
        obtain ⟨vs1, f21, hH, _, _⟩ := rel.slotW e0 h1
        refine ⟨.ref p, h1, .inl ⟨rfl, vs1, SqL.of hH⟩, gS' rel h fun o ρ1 u H1 F1 T1 fp e1 z1 r1 h2 => ?_⟩
        split at h2
        . rename_i os e2
          split at h2
          . rename_i hl
            obtain ⟨vs, f2', hH2, r2, back⟩ := r1.slotW e2 h1
            refine ⟨p, vs, u, rfl, rfl, hH2, by rw [r2.length, bM']; exact hl, ?_⟩
            have z1' : RpA X.K F1 T1 [u] [o] (fp ++ []) := .cons z1 .nil
            exact h2 σ _ F1 T1 .refl (back _ _ _ fr (r2.app z1') (by
              constructor
              . intro e h
                simp only [List.mem_append, List.not_mem_nil] at *
                grind
              . intro x
                simp only [keys, List.map_append, List.map_nil, List.count_append, List.count_nil] at *
                omega))
          . exact h2.elim
        . exact h2.elim
    . exact h.elim
theorem tv' {K : PySem.W.Frag} {sl : List Nat} {it : M.MI} {g : M.MG} {b : M.MS} (h : qS K W (M.fg' it g b) D σ H) : tFor (qI K W it) (qG K sl g) (qS K W b) D σ H := by
  obtain ⟨ρ, F, T, fr, rel, h⟩ := h
  refine vO' rel h fun ds ρ1 J H1 F1 T1 e1 io r1 h1 => ?_
  refine ⟨fun i m σ2 H2 => m = ds.length - i /\ i <= ds.length /\ ∃ ρ2 F2 T2, Ext F1 T1 F2 T2 /\ Rel K ρ2 σ2 H2 F2 T2 fr /\ bw' K W D F2 T2 fr (M.n1' g b (ds.drop i) ρ2), ⟨ds.length, by simp, Nat.zero_le _, ρ1, F1, T1, .refl, r1, h1⟩, ?_⟩
  rintro i m σ2 H2 ⟨rfl, hi, ρ2, F2, T2, e2, r2, h2⟩
  obtain ⟨fe, fw, re, rw, f2⟩ := id r2
  obtain ⟨st, yl⟩ := io F2 T2 H2 _ i e2 f2 hi
  by_cases hl : i = ds.length
  . refine .inl ⟨st hl, ?_⟩
    rw [hl, List.drop_length] at h2
    exact h2 σ2 H2 F2 T2 .refl r2
  . have hlt : i < ds.length := by omega
    obtain ⟨go, yh⟩ := yl ds[i] (List.getElem?_eq_getElem hlt)
    refine .inr ⟨go, fun σ3 H3 => ∃ ρ3 F3 T3, Ext F1 T1 F3 T3 /\ Rel K ρ3 σ3 H3 F3 T3 fr /\ bw' K W D F3 T3 fr (M.n1' g b (ds.drop (i + 1)) ρ3), fun σ3 H3 n => ⟨ds.length - (i + 1), by omega, rfl, hlt, n⟩, fun x H3 y => ?_⟩
    obtain ⟨F3, s3, zx, f3⟩ := yh x H3 y
    have r3 : Rel K ρ2 σ2 H3 F3 T2 fr := ⟨fe, fw, re.mono (.of s3), rw.mono (.of s3), f3⟩
    rw [List.drop_eq_getElem_cons hlt] at h2
    unfold M.n1' at h2
    cases eg : g ds[i] ρ2 with
    | none => rw [eg] at h2; exact h2.elim
    | some ρ4 =>
      rw [eg] at h2
      refine ⟨ρ2, F3, T2, fr, ds[i], ρ4, r3, zx, eg, fun σ4 _ r4 => ⟨ρ4, F3, T2, fr, r4, ?_⟩⟩
      have h3 := bw'.mono h2 (.of s3)
      have e3 : Ext F1 T1 F3 T2 := e2.trans (.of s3)
      dsimp only at h3
      cases eb : b ρ4 with
      | nx ρ5 => rw [eb] at h3; exact fun σ5 H5 F5 T5 e5 r5 => ⟨ρ5, F5, T5, e3.trans e5, r5, bw'.mono h3 e5⟩
      | ct ρ5 => rw [eb] at h3; exact fun σ5 H5 F5 T5 e5 r5 => ⟨ρ5, F5, T5, e3.trans e5, r5, bw'.mono h3 e5⟩
      | bk ρ5 => rw [eb] at h3; exact fun σ5 H5 F5 T5 e5 r5 => h3 σ5 H5 F5 T5 e5 r5
      | rt o w => rw [eb] at h3; exact h3
      | exc x ρ5 => rw [eb] at h3; exact h3
      | bad => rw [eb] at h3; exact h3
theorem bJ' {tg iter : Expr} {sl : List Nat} {it : M.MI} {g : M.MG} (hp : PassesOwn (model X.prog X.w) X.A X.env X.xe) (hc : X.calm = true) (hi : SI X W tg iter it) (hg : SG X tg sl g) (hb : SSs X W body m1)
    (hs : ∀ x, foldedSetIterable iter X.env x = pure x := by intro _; rfl) : SS X W (.For tg iter body [] pos) (M.fg' it g m1) := PS.imp (ps_for hp hc hi hg hb hs) fun D σ H h => tv' h
theorem iO' (n : Nat) (hp : PassesOwn (model X.prog X.w) X.A X.env X.xe) (hc : ST X W c mt) (hb : SSs X W body m1) : SS X W (.While c body [] pos) (M.ib' n mt m1) := PS.imp (ps_while hp hc hb) fun D σ H ⟨ρ, F, T, fr, rel, h⟩ => by
  refine ⟨fun m σ2 H2 => ∃ ρ2 F2 T2, Ext F T F2 T2 /\ Rel X.K ρ2 σ2 H2 F2 T2 fr /\ bw' X.K W D F2 T2 fr (M.d5' mt m1 m ρ2), ⟨n, ρ, F, T, .refl, rel, h⟩, ?_⟩
  rintro m σ2 H2 ⟨ρ2, F2, T2, e2, r2, h2⟩
  cases m with
  | zero => exact h2.elim
  | succ m =>
    refine qJ' r2 (show bw' X.K W D F2 T2 fr ((mt ρ2).out _) from h2) fun k ρ3 H3 F3 T3 e3 r3 h3 => ?_
    cases k with
    | false => rw [if_neg Bool.false_ne_true] at h3 ⊢; exact h3 σ2 H3 F3 T3 .refl r3
    | true =>
      rw [if_pos rfl] at h3 ⊢
      have e4 := e2.trans e3
      refine ⟨fun σ4 H4 => ∃ ρ4 F4 T4, Ext F T F4 T4 /\ Rel X.K ρ4 σ4 H4 F4 T4 fr /\ bw' X.K W D F4 T4 fr (M.d5' mt m1 m ρ4), fun σ' H' q => ⟨m, Nat.lt_succ_self m, q⟩, ρ3, F3, T3, fr, r3, ?_⟩
      cases eb : m1 ρ3 with
      | nx ρ5 => rw [eb] at h3; exact fun σ5 H5 F5 T5 e5 r5 => ⟨ρ5, F5, T5, e4.trans e5, r5, bw'.mono h3 e5⟩
      | ct ρ5 => rw [eb] at h3; exact fun σ5 H5 F5 T5 e5 r5 => ⟨ρ5, F5, T5, e4.trans e5, r5, bw'.mono h3 e5⟩
      | bk ρ5 => rw [eb] at h3; exact fun σ5 H5 F5 T5 e5 r5 => h3 σ5 H5 F5 T5 e5 r5
      | rt o w => rw [eb] at h3; exact h3
      | exc x ρ5 => rw [eb] at h3; exact h3
      | bad => rw [eb] at h3; exact h3
theorem no' {e : Expr} {x : String} (hc : X.calm = true) (tk : Takes X W) (he : PMk X e (fun _ H Q => Q (.ref (He.ga X.K x)) none H)) : SS X W (.Raise (some e) none pos) (M.ka' x) := PS.imp (ps_raise hc tk he) fun D σ H ⟨ρ, F, T, fr, rel, h⟩ =>
  h σ _ _ H F T .refl ⟨rfl, .inl ⟨rfl, rfl⟩⟩ rel
def xm' (K : PySem.W.Frag) (Q : VK) (E : XK) (F : Hp) (T : List Addr) (fr : Fp) : M.FRes -> Prop
  | .ok o w' => ∀ v H' F' T' fp, Ext F T F' T' -> Rp K F' T' v o fp -> sp' K (w') H' F' T' (fp ++ fr) -> Q v H'
  | .exc x w' => ∀ cls dd H' F' T', Ext F T F' T' -> XcR K F' T' x cls dd -> sp' K (w') H' F' T' fr -> E cls dd H'
  | .bad => False
def spM (K : PySem.W.Frag) (m : M.MF) : Sp := fun vs H Q E => ∃ ds w F T fr, FzA K F T vs ds /\ sp' K (w) H F T fr /\ xm' K Q E F T fr (m ds w)
theorem RpE.start {K : PySem.W.Frag} {F : Hp} {T : List Addr} {n : Nat} : ∀ {vs : List V} {ds : List M.D}, FzA K F T vs ds -> RpE K F T (vs.map some ++ List.replicate n none) (ds.map (fun d => some (.fz d)) ++ List.replicate n none) []
  | _, _, .nil => by
    show RpE K F T (List.replicate n none) (List.replicate n none) []
    induction n with
    | zero => exact .nil
    | succ n ih => exact .off ih
  | _, _, .cons z r => RpE.on (fp := []) (fq := []) (.fz z) (RpE.start r)
end
section
variable {P : Program} {w : World} {K : PySem.W.Frag} {mg : Str -> Option Value} {base : Heap}
end
section
variable {X : Cx} {k : Nat} {x : Str} {ps : List Str} {p pos : Pos} {e : Expr} {es : List Expr} {as : M.MA} {W : WX} {m : M.MF}
theorem r1' {K : PySem.W.Frag} {σ : St} {H : Hp} {Q : VK} (h : qO K W (M.aM' m as) σ H Q) : tCallS (spM K m) (WE W) (qA K W as) σ H Q := by
  obtain ⟨ρ, F, T, fr, rel, h⟩ := h
  refine c8' rel h fun ds ρ1 vs H1 F1 T1 e1 z1 r1 h1 => ?_
  obtain ⟨fe, fw, re, rw, f⟩ := r1
  refine ⟨ds, ρ1.w, F1, T1, fe ++ fr, z1, ⟨[], fw, xv', rw, f.part (Part.swap : Part (fw ++ (fe ++ fr)) (fe ++ (fw ++ fr)))⟩, ?_⟩
  cases em : m ds ρ1.w with
  | bad => rw [em] at h1; exact h1.elim
  | ok o w' =>
    rw [em] at h1
    refine fun v H' F' T' fp e z r => h1 v H' F' T' fp (e1.trans e) z ?_
    obtain ⟨fe', fw', re', rw', f'⟩ := r
    cases re'
    refine ⟨fe, fw', re.mono e, rw', f'.part ?_⟩
    constructor
    . intro e h
      simp only [List.mem_append, List.not_mem_nil] at *
      grind
    . intro x
      simp only [keys, List.map_append, List.map_nil, List.count_append, List.count_nil] at *
      omega
  | exc x w' =>
    rw [em] at h1
    refine fun cls dd H' F' T' e z r => h1 cls dd H' F' T' e z ?_
    obtain ⟨fe', fw', re', rw', f'⟩ := r
    cases re'
    refine ⟨fe, fw', re.mono e, rw', f'.part ?_⟩
    constructor
    . intro e h
      simp only [List.mem_append, List.not_mem_nil] at *
      grind
    . intro x
      simp only [keys, List.map_append, List.map_nil, List.count_append, List.count_nil] at *
      omega
theorem aj' (F : Og X.prog X.w X.K X.mg X.base k x ps (spM X.K m)) (hr : RoomG k X.A) (hg : Gl X x) (tk : Takes X W) (ha : SA X W (e :: es) as) (hdb : (x == ("__debug__" : Str)) = false := by decide)
    (he : starEach (e :: es) X.env = (false, eval e X.env) :: starEach es X.env := by rfl) (hpl : (backTo pos (starEach es X.env)).any (·.1) = false := by rfl) : SO X W (.Call (.Name x p) (e :: es) [] pos) (M.aM' m as) :=
  PE.imp (s5' F hr hg tk ha hdb he hpl) fun _ _ _ h => r1' h
theorem iG' : Takes X W0 := fun _ _ ⟨_, _, _, _, _, _, _, _, _, _, _, _, _, _, _, _, w⟩ => w.elim
end
end S
namespace S
open PySem PySem.Spec PyProof.Rows L2
variable [Wd]
section
variable {P : Program} {w : World} {K : PySem.W.Frag} {mg : Str -> Option Value} {base : Heap}
theorem Dp' {x qual : Str} {st : Stmt} {f : Addr} {fd : FuncData} {N ps : List Str} {k j n : Nat} {b : M.MS} (F : FunD K x qual (defArgs st) (defBody st) (defScope st) [] [] f fd) (S : FnScope N ps (defScope st)) (hj : ps.length = j) (hn : N.length = n)
    (hbody : ∀ (cdv oc : Value) (od : Option Addr) (osl : Array (Option Value)), K.lookup f = some ⟨oc, od, .func fd, osl⟩ -> fd.code = cdv -> PySem.W.codeIn K cdv qual = true -> ∀ (A : Around) (outer : List Env) (s : Shared) (H : Hp) (E : XK), RoomG k (A.deeper (envOfC qual (defScope st) s.heap.objs.size f cdv)) →
      SSs (cxOf (L2.CX P w) P w K mg base N qual (defScope st) f cdv A outer s H E) (fun cls d _ H => E cls d H) (defBody st) b)   : FnG P w K mg base (L2.CX P w) (k + 1) f fd ps (spM K (M.fnM j n b)) := by
  refine wE' F S (fun vs H Q E h => ?_) fun cdv oc od osl lk e1 e2 A outer s H vs Q E hr h => ⟨_, hbody cdv oc od osl lk e1 e2 A outer s H E hr, ?_⟩
  . obtain ⟨ds, w', F', T, fr, za, rel, h⟩ := h
    unfold M.fnM at h
    by_cases hl : ds.length = j
    . rw [za.length, hl, hj]
    . rw [if_neg hl] at h; exact h.elim
  . obtain ⟨ds, w', F', T, fr, za, rel, h⟩ := h
    unfold M.fnM at h
    by_cases hl : ds.length = j
    . rw [if_pos hl] at h
      obtain ⟨fe, fw, re, rw', ff⟩ := rel
      cases re
      have re' : RpE K F' T (L2.start N vs) (ds.map (fun d => some (.fz d)) ++ List.replicate (n - j) none) [] := by
        unfold L2.start
        rw [hn, za.length, hl]
        exact RpE.start za
      refine ⟨⟨_, w'⟩, F', T, fr, ⟨[], fw, re', rw', ff⟩, ?_⟩
      generalize b ⟨ds.map (fun d => some (.fz d)) ++ List.replicate (n - j) none, w'⟩ = r at h
      cases r with
      | nx ρ => exact fun σ' H' F2 T2 e2 r2 => h .non H' F2 T2 [] e2 (.fz .non) r2.noenv
      | rt o w2 => exact fun v H' F2 T2 fp e2 z2 r2 => h v H' F2 T2 fp e2 z2 r2
      | exc x ρ => exact fun σ' cls dd H' F2 T2 e2 z2 r2 => h cls dd H' F2 T2 e2 z2 r2.noenv
      | bk ρ => exact h.elim
      | ct ρ => exact h.elim
      | bad => exact h.elim
    . rw [if_neg hl] at h; exact h.elim
theorem okM {x qual : Str} {st : Stmt} {f : Addr} {fd : FuncData} {N ps : List Str} {k j n : Nat} {b : M.MS} (F : FunD K x qual (defArgs st) (defBody st) (defScope st) [] [] f fd) (S : FnScope N ps (defScope st)) (hj : ps.length = j) (hn : N.length = n)
    (hbody : ∀ (cdv : Value) (A : Around) (outer : List Env) (s : Shared) (H : Hp) (E : XK), RoomG k (A.deeper (envOfC qual (defScope st) s.heap.objs.size f cdv)) →
      SSs (cxOf (L2.CX P w) P w K mg base N qual (defScope st) f cdv A outer s H E) (fun cls d _ H => E cls d H) (defBody st) b)   : FnG P w K mg base (L2.CX P w) (k + 1) f fd ps (spM K (M.fnM j n b)) :=
  Dp' F S hj hn fun cdv _ _ _ _ _ _ => hbody cdv
end
end S
namespace S
open PySem PySem.Spec PyProof.Rows L2
variable [Wd] [Hot]
section
variable {K : PySem.W.Frag}
theorem wF' {F : Hp} {T : List Addr} {x y : V} {dx dy : M.D} (hx : Fz K F T x dx) (hy : Fz K F T y dy) (sx' : M.sca dx = true) (sy : M.sca dy = true) : eqV y x = M.eqb dy dx /\ flatV x = true := by
  cases dx <;> try (cases sx'; done)
  all_goals cases dy <;> try (cases sy; done)
  all_goals first
    | (cases hx; cases hy; exact ⟨rfl, rfl⟩)
    | skip
  obtain ⟨rfl, _⟩ := hx.str_inv
  obtain ⟨rfl, _⟩ := hy.str_inv
  exact ⟨uu' _ _, rfl⟩
theorem lO' {F : Hp} {T : List Addr} {x : V} {dx : M.D} (hx : Fz K F T x dx) (sx' : M.sca dx = true) : ∀ {vs : List V} {ds : List M.D}, FzA K F T vs ds -> ds.all M.sca = true -> inV x vs = ds.any (fun d => M.eqb d dx) /\ vs.all flatV = true
  | _, _, .nil, _ => ⟨rfl, rfl⟩
  | _, _, .cons z r, h => by
    rw [List.all_cons, Bool.and_eq_true] at h
    obtain ⟨h1, h2⟩ := lO' hx sx' r h.2
    obtain ⟨h3, h4⟩ := wF' hx z sx' h.1
    obtain ⟨_, h5⟩ := wF' z z h.1 h.1
    refine ⟨?_, ?_⟩
    . show (eqV _ x || inV x _) = _
      rw [List.any_cons, h3, h1]
    . rw [List.all_cons, h5, h2]; rfl
theorem iq' {F : Hp} {T : List Addr} {x : V} {dx : M.D} (hx : Fz K F T x dx) (s : M.sca dx = true) : flatV x = true := (wF' hx hx s s).2
theorem jj' {dx dy dz : M.D} (h : M.pIn dx dy = some dz) : (∃ c s, dx = .str [c] /\ dy = .str s /\ dz = .bl (decide (c ∈ s))) \/ (∃ ds, (dy = .lst ds \/ dy = .tup ds) /\ M.sca dx = true /\ ds.all M.sca = true /\ dz = .bl (ds.any fun d => M.eqb d dx)) := by
  unfold M.pIn at h
  split at h
  . exact .inl ⟨_, _, rfl, rfl, (Option.some.inj h).symm⟩
  . split at h
    . rename_i c; exact .inr ⟨_, .inl rfl, c.1, c.2, (Option.some.inj h).symm⟩
    . cases h
  . split at h
    . rename_i c; exact .inr ⟨_, .inr rfl, c.1, c.2, (Option.some.inj h).symm⟩
    . cases h
  . cases h
theorem xt' : Op2 K M.pIn (Am' K) := by
  intro F H T fp x y dx dy dz Q f hx hy h k
  rcases jj' h with ⟨c, s, rfl, rfl, rfl⟩ | ⟨ds, e, h1, h2, rfl⟩
  . obtain ⟨rfl, o1⟩ := hx.str_inv
    obtain ⟨rfl, o2⟩ := hy.str_inv
    exact .inl ⟨c, _, rfl, rfl, k.here f (.bl _)⟩
  . rcases e with rfl | rfl
    . obtain ⟨a, vs, rfl, ha, za⟩ := hy.lst_inv
      obtain ⟨e1, e2⟩ := lO' hx h1 za h2
      refine .inr (.inl ⟨a, vs, rfl, .inl (SqL.of (f.low _ _ ha)), iq' hx h1, e2, ?_⟩)
      rw [if_neg Bool.false_ne_true, e1]
      exact k.here f (.bl _)
    . obtain ⟨a, vs, rfl, ha, za⟩ := hy.tup_inv
      obtain ⟨e1, e2⟩ := lO' hx h1 za h2
      refine .inr (.inl ⟨a, vs, rfl, .inr (seqT f.low ha), iq' hx h1, e2, ?_⟩)
      rw [if_neg Bool.false_ne_true, e1]
      exact k.here f (.bl _)
theorem g3' : Op2 K M.eQ' (iX' K) := by
  intro F H T fp x y dx dy dz Q f hx hy h k
  unfold M.eQ' at h
  split at h
  . rename_i b hb
    cases h
    rcases jj' hb with ⟨c, s, rfl, rfl, eb⟩ | ⟨ds, e, h1, h2, eb⟩
    . cases eb
      obtain ⟨rfl, o1⟩ := hx.str_inv
      obtain ⟨rfl, o2⟩ := hy.str_inv
      exact .inl ⟨c, _, rfl, rfl, k.here f (.bl _)⟩
    . cases eb
      rcases e with rfl | rfl
      . obtain ⟨a, vs, rfl, ha, za⟩ := hy.lst_inv
        obtain ⟨e1, e2⟩ := lO' hx h1 za h2
        refine .inr (.inl ⟨a, vs, rfl, .inl (SqL.of (f.low _ _ ha)), iq' hx h1, e2, ?_⟩)
        rw [if_pos rfl, e1]
        exact k.here f (.bl _)
      . obtain ⟨a, vs, rfl, ha, za⟩ := hy.tup_inv
        obtain ⟨e1, e2⟩ := lO' hx h1 za h2
        refine .inr (.inl ⟨a, vs, rfl, .inr (seqT f.low ha), iq' hx h1, e2, ?_⟩)
        rw [if_pos rfl, e1]
        exact k.here f (.bl _)
  . cases h
theorem nl' {F : Hp} {T : List Addr} : ∀ {vs : List V} {ds : List M.D} {ss : List M.Tx}, FzA K F T vs ds -> M.d3' ds = some ss -> vs = (ss.map sx).map V.str /\ ∀ s ∈ ss, okT s
  | _, _, ss, .nil, h => by cases h; exact ⟨rfl, fun s h => nomatch h⟩
  | _, d :: ds, ss, .cons a r, h => by
    cases d <;> try (cases h; done)
    rename_i b
    cases q : M.d3' ds with
    | none => simp only [M.d3', q] at h; cases h
    | some cs =>
      simp only [M.d3', q, Option.map_some] at h
      cases h
      obtain ⟨rfl, o⟩ := a.str_inv
      obtain ⟨rfl, os⟩ := nl' r q
      refine ⟨rfl, fun s hs => ?_⟩
      rcases List.mem_cons.mp hs with rfl | hs
      . exact o
      . exact os s hs
theorem nW' (sep : M.Tx) : ∀ ss : List M.Tx, TL.joinL sep ss = M.cZ' sep ss
  | [] => rfl
  | [_] => rfl
  | a :: b :: r => by
    show a ++ (sep ++ TL.joinL sep (b :: r)) = a ++ (sep ++ M.cZ' sep (b :: r))
    rw [nW' sep (b :: r)]
theorem wm' (sep : M.Tx) (ss : List M.Tx) : Txt.join (sx sep) (ss.map sx) = sx (M.cZ' sep ss) := by
  rw [TL.join_eq]
  refine iM' ?_
  have := TL.tl_join (sx sep) (ss.map sx)
  rw [List.map_map, show ss.map (TL.tl ∘ sx) = ss from (List.map_congr_left fun a _ => rfl).trans (List.map_id ss), show TL.tl (sx sep) = sep from rfl, nW'] at this
  exact this
theorem kB' (sep : M.Tx) : ∀ (ss : List M.Tx) (c : Nat), c ∈ M.cZ' sep ss -> c ∈ sep \/ ∃ s ∈ ss, c ∈ s
  | [], c, h => by cases h
  | [a], c, h => .inr ⟨a, by simp, h⟩
  | a :: b :: r, c, h => by
    rcases List.mem_append.mp (show c ∈ a ++ (sep ++ M.cZ' sep (b :: r)) from h) with h | h
    . exact .inr ⟨a, by simp, h⟩
    . rcases List.mem_append.mp h with h | h
      . exact .inl h
      . rcases kB' sep (b :: r) c h with h | ⟨s, h1, h2⟩
        . exact .inl h
        . exact .inr ⟨s, List.mem_cons_of_mem _ h1, h2⟩
theorem eZ' (sep : M.Tx) : ∀ (ss : List M.Tx), (M.cZ' sep ss).length <= (ss.map List.length).sum + ss.length * sep.length
  | [] => by simp [M.cZ']
  | [a] => by simp [M.cZ']
  | a :: b :: r => by
    have ih := eZ' sep (b :: r)
    show (a ++ (sep ++ M.cZ' sep (b :: r))).length <= _
    rw [List.length_append, List.length_append, List.map_cons, List.sum_cons, List.length_cons (as := b :: r), Nat.succ_mul]
    omega
def MtD (K : PySem.W.Frag) (f : M.Tx -> List M.D -> Option M.D) (r : V -> List V -> Hp -> VK -> Prop) : Prop := ∀ {F H : Hp} {T : List Addr} {fp : Fp} {s : M.Tx} {xs : List V} {ds : List M.D} {dz : M.D} {Q : VK}, FpH F H fp -> okT s -> FzA K F T xs ds -> f s ds = some dz -> eD' K F T fp dz Q -> r (.str (sx s)) xs H Q
theorem FzA.one {F : Hp} {T : List Addr} {xs : List V} {d : M.D} (h : FzA K F T xs [d]) : ∃ v, xs = [v] /\ Fz K F T v d := by
  cases h with
  | cons a r => cases r; exact ⟨_, rfl, a⟩
theorem ro' : MtD K M.jb' (yo' K) := by
  intro F H T fp a xs ds dz Q f oa hx h k
  have fin : ∀ {ds : List M.D} {p : Addr} {vs : List V}, (SqL K H p vs \/ SqT K H p vs) -> FzA K F T vs ds -> ((M.d3' ds).bind fun ys => if (ys.map List.length).sum + ys.length * a.length <= M.dq' then some (M.D.str (M.cZ' a ys)) else none) = some dz -> yo' K (.str (sx a)) [.ref p] H Q := by
    intro ds p vs hp za e
    cases q : M.d3' ds with
    | none => rw [q] at e; cases e
    | some ss =>
      rw [q, Option.bind_some] at e
      split at e
      . rename_i hl
        cases e
        obtain ⟨rfl, os⟩ := nl' za q
        refine ⟨_, p, ss.map sx, rfl, rfl, hp, ?_, ?_⟩
        . rw [List.map_map, show ss.map (Str.length ∘ sx) = ss.map List.length from List.map_congr_left fun s _ => cz' s, List.length_map, cz']
          exact hl
        . rw [wm']
          refine k.here f (.str ⟨fun c hc => ?_, Nat.le_trans (eZ' a ss) hl⟩)
          rcases kB' a ss c hc with h | ⟨s, h1, h2⟩
          . exact oa.1 c h
          . exact (os s h1).1 c h2
      . cases e
  unfold M.jb' at h
  split at h
  . obtain ⟨v, rfl, z⟩ := hx.one
    obtain ⟨p, vs, rfl, ha, za⟩ := z.lst_inv
    exact fin (.inl (SqL.of (f.low _ _ ha))) za h
  . obtain ⟨v, rfl, z⟩ := hx.one
    obtain ⟨p, vs, rfl, ha, za⟩ := z.tup_inv
    exact fin (.inr (seqT f.low ha)) za h
  . cases h
theorem wA' (a b : M.Tx) (i : Nat) : (decide (i + (sx b).length <= (sx a).length) && Builtin.Str.subAt (sx a) (sx b) i) = M.uP' a b i := by
  rw [cz', cz', PySem.StrLaws.subAt_eq, fV', fV', cz']
  unfold M.uP'
  congr 1
  rw [Bool.eq_iff_iff]
  simp
end
section
variable {X : Cx} {W : WX} {K : PySem.W.Frag} {cpos apos p : Pos} {name : Str} {id T : String} {o e : Expr} {es : List Expr} {mo : M.ME} {as : M.MA} {σ : St} {H : Hp} {Q : VK}
theorem wd' {f : M.Tx -> List M.D -> Option M.D} {r : V -> List V -> Hp -> VK -> Prop} (hf : MtD K f r) (h : qE K W (M.eMt f mo as) σ H Q) : tBM K "str" r (qE K W mo) (qA K W as) σ H Q := by
  obtain ⟨ρ, F, T, fr, rel, h⟩ := h
  refine ay' rel h fun dx ρ1 v H1 F1 T1 e1 z1 r1 h1 => ?_
  cases dx <;> try exact h1.elim
  obtain ⟨rfl, o⟩ := z1.str_inv
  refine ⟨rfl, ?_⟩
  refine c8' r1 h1 fun ds ρ2 vs H2 F2 T2 e2 z2 r2 h2 => ?_
  obtain ⟨dz, ez, q⟩ := aZ'.ofO h2
  obtain ⟨fp, f2, back⟩ := r2.fp
  exact hf f2 o z2 ez fun v' H3 F3 s zz f3 => q v' H3 F3 T2 (e1.trans (e2.trans (.of s))) zz (back H3 F3 s f3)
theorem oq' {f : M.Tx -> List M.D -> Option M.D} {r : V -> List V -> Hp -> VK -> Prop} (slot : Slot "str" name id) (hty : typeOf (.builtin id) = pure (.type "method_descriptor")) (hm : MtR X id r) (hf : MtD X.K f r) (ho : SE X W o mo) (ha : SA X W (e :: es) as)
    (hbase : attributeBase o name X.env (eval o X.env) = eval o X.env := by rfl)
    (hfew : ((backTo cpos (starEach (e :: es) X.env)).all (fun x => !x.1) && (backToKw cpos (keywordEach [] X.env)).all (fun x => x.1.isSome)
      && decide ((e :: es).length + ([] : List Keyword).length + (if ([] : List Keyword).isEmpty then 0 else 1) < 30)) = true := by rfl)
    (hline : (apos.endLine == cpos.line) = true := by rfl) (hs : starEach (e :: es) X.env = (false, eval e X.env) :: starEach es X.env := by rfl) (hplain : (backTo cpos (starEach es X.env)).any (·.1) = false := by rfl) :
    SE X W (.Call (.Attribute o name apos) (e :: es) [] cpos) (M.eMt f mo as) := PE.imp (pe_bm PySem.F.plainAttrs_str slot hty hm ho ha hbase hfew hline hs hplain) fun _ _ _ h => wd' hf h
end
end S
namespace S
open PySem PySem.Spec PyProof.Rows L2
variable [Wd] [Hot]
section
variable {K : PySem.W.Frag} {F F' H H' : Hp} {T T' : List Addr} {fp fq fr : Fp} {ρ : M.PSt} {σ : St} {W : WX} {Q : VK}
theorem RpW.get {l : List Addr} {w : M.W} {n : Nat} {ob : M.Ob} (r : RpW K F T l w fp) (h : w[n]? = some ob) : ∃ a f1 f2 f3, l[n]? = some a /\ fp = f1 ++ (f2 ++ f3) /\ RpOb K F T a ob f2 ∧
    ∀ F' T' ob' f2', Ext F T F' T' -> RpOb K F' T' a ob' f2' -> RpW K F' T' l (w.set n ob') (f1 ++ (f2' ++ f3)) := by
  induction r generalizing n with
  | nil => cases h
  | @cons a l ob0 w fa fb r0 r ih =>
    cases n with
    | zero =>
      cases h
      exact ⟨a, [], fa, fb, rfl, rfl, r0, fun F' T' ob' f2' e r' => (RpW.cons r' (r.mono e) : RpW K F' T' _ _ (f2' ++ fb))⟩
    | succ n =>
      obtain ⟨a', f1, f2, f3, h1, rfl, h3, h4⟩ := ih (n := n) h
      refine ⟨a', fa ++ f1, f2, f3, h1, by simp, h3, fun F' T' ob' f2' e r' => ?_⟩
      rw [List.append_assoc]
      exact .cons (r0.mono e) (h4 F' T' ob' f2' e r')
theorem RpW.len {l : List Addr} {w : M.W} (r : RpW K F T l w fp) : l.length = w.length := by
  induction r with
  | nil => rfl
  | cons _ _ ih => exact congrArg (· + 1) ih
theorem RpA.get : ∀ {vs : List V} {os : List M.O} {fp : Fp} {i : Nat} {d : M.D}, RpA K F T vs os fp -> os[i]? = some (.fz d) -> ∃ v, vs[i]? = some v /\ Fz K F T v d
  | _, _, _, _, _, .nil, e => by cases e
  | _, _, _, 0, _, .cons h _, e => by
    have e := Option.some.inj e
    subst e
    cases h with
    | fz z => exact ⟨_, rfl, z⟩
  | _, _, _, i + 1, _, .cons _ r, e => RpA.get (i := i) r e
theorem RpA.ati {vs : List V} {os : List M.O} {i : Int} {d : M.D} (h : RpA K F T vs os fp) (e : M.ati os i = some (.fz d)) : ∃ v, atI vs i = some v /\ Fz K F T v d := by
  unfold M.ati at e
  unfold atI
  rw [h.length]
  cases q : M.ixn os.length i with
  | none => rw [q] at e; cases e
  | some j =>
    rw [q] at e
    obtain ⟨v, h1, h2⟩ := h.get (i := j) e
    have q' : ixN os.length i = some j := q
    rw [q']
    exact ⟨v, h1, h2⟩
theorem Rel.wlist (rel : Rel K ρ σ H F T fr) {n : Nat} {os : List M.O} (h : ρ.w[n]? = some (.lst os)) : ∃ a vs f2, T[n]? = some a /\ H a = some (.lst vs) /\ RpA K F T vs os f2 ∧
    ∀ vs' os' f2' fr', RpA K F T vs' os' f2' -> Part (f2' ++ fr') (f2 ++ fr) -> Rel K ⟨ρ.env, ρ.w.set n (.lst os')⟩ σ (upd H a (.lst vs')) F T fr' := by
  obtain ⟨fe, fw, re, rw, f⟩ := rel
  obtain ⟨a, f1, f2, f3, h1, rfl, h3, h4⟩ := rw.get h
  cases h3 with
  | lst r =>
    rename_i vs fp0
    refine ⟨a, vs, fp0, h1, (f.at_ (a, .lst vs) (by simp)).1, r, fun vs' os' f2' fr' r' pt => ?_⟩
    have e5 := h4 F T (.lst os') ((a, .lst vs') :: f2') .refl (.lst r')
    refine ⟨fe, _, re, e5, ?_⟩
    have fA : FpH F H ((fe ++ f1) ++ ((a, .lst vs) :: (f3 ++ (fp0 ++ fr)))) := f.part (by
      constructor
      . intro e h
        simp only [List.mem_append, List.mem_cons] at *
        grind
      . intro x
        simp only [keys, List.map_append, List.map_cons, List.count_append, List.count_cons] at *
        omega)
    have fB := fA.write (o' := .lst vs')
    refine fB.part ?_
    have pm := pt.m
    constructor
    . intro e h
      have := pm e
      simp only [List.mem_append, List.mem_cons] at *
      grind
    . intro x
      have := pt.c x
      simp only [keys, List.map_append, List.map_cons, List.count_append, List.count_cons] at *
      omega
theorem RpA.set {v : V} {d : M.D} (zd : Fz K F T v d) : ∀ {os : List M.O} {vs : List V} {f2 : Fp} (j : Nat), RpA K F T vs os f2 -> ∃ f2', RpA K F T (vs.set j v) (os.set j (.fz d)) f2' /\ Part f2' f2
  | [], _, _, _, .nil => ⟨[], .nil, .refl⟩
  | o :: os, _, _, 0, .cons r0 r => ⟨_, RpA.cons (fp := []) (.fz zd) r, .right .refl⟩
  | o :: os, _, _, j + 1, .cons r0 r => by
    obtain ⟨f2', q1, q2⟩ := RpA.set zd j r
    exact ⟨_, .cons r0 q1, .app .refl q2⟩
theorem RpA.set' {v : V} {d : M.D} {vs : List V} {os : List M.O} {fp : Fp} (h : RpA K F T vs os fp) (j : Nat) (zd : Fz K F T v d) : ∃ f2', RpA K F T (vs.set j v) (os.set j (.fz d)) f2' /\ Part f2' fp := RpA.set zd j h
theorem sG' {w w' : M.W} {x k d : M.D} (h : M.sH' w x k d = some w') : ∃ n z os j, x = .obj n /\ k = .int z /\ w[n]? = some (.lst os) /\ M.ixn os.length z = some j /\ w' = w.set n (.lst (os.set j (.fz d))) := by
  unfold M.sH' at h
  split at h
  . rename_i n z
    split at h
    . rename_i os e
      cases q : M.ixn os.length z with
      | none => rw [q] at h; cases h
      | some j =>
        rw [q] at h
        cases h
        exact ⟨n, z, os, j, rfl, rfl, e, q, rfl⟩
    . cases h
  . cases h
theorem to' {ma mb : M.ME} (h : qE K W (M.jA' ma mb) σ H Q) : tOp (rIx K) (qE K W ma) (qE K W mb) σ H Q := by
  obtain ⟨ρ, F, T, fr, rel, h⟩ := h
  refine ay' rel h fun dx ρ1 v H1 F1 T1 e1 z1 r1 h1 => ?_
  refine ay' r1 h1 fun dy ρ2 u H2 F2 T2 e2 z2 r2 h2 => ?_
  obtain ⟨dz, ez, q⟩ := aZ'.ofO h2
  by_cases ho : ∃ n, dx = .obj n
  . obtain ⟨n, rfl⟩ := ho
    cases e : ρ2.w[n]? with
    | none => simp only [M.ixW, e] at ez; cases ez
    | some ob =>
      cases ob with
      | lst os =>
        simp only [M.ixW, e] at ez
        obtain ⟨a, vs, f2, h3, h4, h5, _⟩ := r2.wlist e
        cases z1.mono e2 with
        | obj t =>
          rw [h3] at t
          cases t
          cases dy <;> try (cases ez; done)
          rename_i i
          cases z2
          unfold M.ixO at ez
          cases e6 : M.ati os i with
          | none => simp only [e6] at ez; cases ez
          | some o =>
            cases o <;> simp only [e6] at ez <;> try (cases ez; done)
            cases ez
            obtain ⟨v', h7, h8⟩ := h5.ati e6
            exact .inl ⟨_, vs, i, v', rfl, rfl, SqL.of h4, h7, q v' H2 F2 T2 (e1.trans e2) h8 r2⟩
      | dct ks vs => simp only [M.ixW, e] at ez; cases ez
      | dcx ks vs => simp only [M.ixW, e] at ez; cases ez
      | ins C fs => simp only [M.ixW, e] at ez; cases ez
  . have ez' : M.pIx dx dy = some dz := by
      cases dx <;> first | exact ez | exact absurd ⟨_, rfl⟩ ho
    obtain ⟨fp, f2, back⟩ := r2.fp
    exact f7' f2 (z1.mono e2) z2 ez' fun v' H3 F3 s zz f3 => q v' H3 F3 T2 (e1.trans (e2.trans (.of s))) zz (back H3 F3 s f3)
end
section
variable {X : Cx} {W : WX} {pos tpos : Pos} {a b o i : Expr} {ma mb mo mi : M.ME} {as : M.MA} {es : List Expr} {σ : St} {H : Hp} {Q : VK}
theorem cW' (ha : SE X W a ma) (hb : SE X W b mb) (hs : PlainIx b) : SE X W (.Subscript a b pos) (M.jA' ma mb) := PE.imp (pe_ix ix_seq ha hb hs) fun _ _ _ h => to' h
theorem gP' (ha : SE X W a ma) (ho : SE X W o mo) (hi : SE X W i mi)
    (hst : ∀ v, assign (.Subscript o i tpos) X.env v = (do
      let ov ← holding [v] (eval o X.env)
      let iv ← holding [v, ov] (eval i X.env)
      standAt tpos
      holding [v, ov, iv] (setItem ov iv v)
      release [v, ov, iv] []) := by intro _; rfl)
    (hs : swapsWithSole [.Subscript o i tpos] a pos.line X.env = pure false := by rfl) (hw : swappedStores [.Subscript o i tpos] a X.env = pure none := by rfl)
    (h1 : (assignEach [.Subscript o i tpos] X.env).map (·.2) = [assign (.Subscript o i tpos) X.env] := by rfl) : SS X W (.Assign [.Subscript o i tpos] a pos) (M.iT' mo mi ma) :=
  PS.imp (ps_asg ha (pg_sub ho hi set_list hst) hs hw h1) fun D σ H ⟨ρ, F, T, fr, rel, h⟩ => by
    refine dw' rel h fun d ρ1 v H1 F1 T1 e1 z1 r1 h1 => ?_
    refine dw' r1 h1 fun dx ρ2 u H2 F2 T2 e2 z2 r2 h2 => ?_
    refine dw' r2 h2 fun dk ρ3 t H3 F3 T3 e3 z3 r3 h3 => ?_
    cases es : M.sH' ρ3.w dx dk d with
    | none => rw [es] at h3; exact h3.elim
    | some w' =>
      rw [es] at h3
      obtain ⟨n, z, os, j, rfl, rfl, e, ej, rfl⟩ := sG' es
      cases z3
      obtain ⟨p, vs, f2, h4, h5, h6, back⟩ := r3.wlist e
      cases z2.mono e3 with
      | obj t =>
        rw [h4] at t
        cases t
        have ej' : ixN vs.length z = some j := by rw [h6.length]; exact ej
        obtain ⟨f2', q1, q2⟩ := h6.set' j ((z1.mono e2).mono e3)
        exact ⟨p, vs, z, j, rfl, rfl, h5, ej', h3 σ _ F3 T3 .refl (back _ _ f2' fr q1 (.app q2 .refl))⟩
theorem x7' (h : SA X W es as) : SO X W (.List es pos) (M.yH' as) := PE.imp (pe_lst h) fun σ H Q ⟨ρ, F, T, fr, rel, h⟩ => by
  refine c8' rel h fun ds ρ1 vs H1 F1 T1 e1 z1 r1 h1 => ?_
  split at h1
  . rename_i hl
    refine ⟨by rw [z1.length, bM']; exact hl, fun p hp => ?_⟩
    obtain ⟨fe, fw, re, rw, f⟩ := r1
    have eT : Ext F1 T1 F1 (T1 ++ [p]) := ⟨fun _ _ h => .inl h, ⟨[p], rfl⟩⟩
    have hn : (T1 ++ [p])[ρ1.w.length]? = some p := by rw [<- rw.len, List.getElem?_append_right (Nat.le_refl _), Nat.sub_self]; rfl
    have app : ∀ {l : List Addr} {w : M.W} {fw : Fp}, RpW X.K F1 T1 l w fw -> ∃ fw', RpW X.K F1 (T1 ++ [p]) (l ++ [p]) (w ++ [.lst (ds.map .fz)]) fw' /\ Part fw' ((p, .lst vs) :: fw) := by
      intro l w fw r
      induction r with
      | nil => exact ⟨_, RpW.cons (RpOb.lst (RpA.of_fz (z1.mono eT))) .nil, by simp only [List.append_nil]; exact .refl⟩
      | @cons a l ob w fa fb r0 r ih =>
        obtain ⟨fw', q1, q2⟩ := ih
        refine ⟨fa ++ fw', .cons (r0.mono eT) q1, ?_⟩
        have p1 : Part (fa ++ fw') (fa ++ ((p, .lst vs) :: fb)) := .app .refl q2
        refine p1.trans ?_
        constructor
        . intro e h
          simp only [List.mem_append, List.mem_cons] at *
          grind
        . intro x
          simp only [keys, List.map_append, List.map_cons, List.count_append, List.count_cons] at *
          omega
    obtain ⟨fw', q1, q2⟩ := app rw
    refine h1 (.ref p) (upd H1 p (.lst vs)) F1 (T1 ++ [p]) [] (e1.trans eT) (.fz (.obj hn)) ⟨fe, fw', re.mono eT, q1, ?_⟩
    refine (f.own hp).part ?_
    have p1 : Part (fe ++ (fw' ++ ([] ++ fr))) (fe ++ (((p, .lst vs) :: fw) ++ fr)) := .app .refl (.app q2 .nilL)
    refine p1.trans ?_
    constructor
    . intro e h
      simp only [List.mem_append, List.mem_cons] at *
      grind
    . intro x
      simp only [keys, List.map_append, List.map_cons, List.count_append, List.count_cons] at *
      omega
  . exact h1.elim
theorem qD' {n : Nat} (hv : PE X a (tVar n)) (hb : SE X W b mb) (hs : PlainIx b) : SE X W (.Subscript a b pos) (M.wG' n mb) := PE.imp (pe_ix ix_seq hv hb hs) fun σ H Q ⟨ρ, F, T, fr, rel, h⟩ => by
  unfold M.wG' at h
  split at h
  . rename_i o0 e0
    obtain ⟨fe, fw, re, rw, f⟩ := id rel
    obtain ⟨v, h1⟩ := re.val e0
    refine ⟨v, h1, ay' rel h fun dk ρ1 u H1 F1 T1 e1 z1 r1 h2 => ?_⟩
    split at h2
    . rename_i o e2
      obtain ⟨dz, ez, q⟩ := aZ'.ofO h2
      obtain ⟨fe', fw', re', rw', f'⟩ := id r1
      obtain ⟨v', f1', f2', f3', h1', rfl, h3', _⟩ := re'.get e2 (M.dt' (fun z => by rw [z] at ez; exact nomatch (show (none : Option M.D) = some dz from ez)) fun z => by rw [z] at ez; exact nomatch (show (none : Option M.D) = some dz from ez))
      rw [h1] at h1'
      cases h1'
      cases h3' with
      | fz z =>
        obtain ⟨fx, f4, back⟩ := r1.fp
        exact f7' f4 z z1 ez fun v' H3 F3 s zz f3 => q v' H3 F3 T1 (e1.trans (.of s)) zz (back H3 F3 s f3)
      | @lst p vs os fp0 r =>
        cases dk <;> try (cases ez; done)
        rename_i i
        cases z1
        unfold M.ixO at ez
        cases e6 : M.ati os i with
        | none => simp only [e6] at ez; cases ez
        | some o =>
          cases o <;> simp only [e6] at ez <;> try (cases ez; done)
          cases ez
          obtain ⟨v', h7, h8⟩ := r.ati e6
          exact .inl ⟨p, vs, i, v', rfl, rfl, SqL.of (f'.at_ (p, .lst vs) (by simp)).1, h7, q v' H1 F1 T1 e1 h8 r1⟩
      | @tup p vs os fp0 r =>
        cases dk <;> try (cases ez; done)
        rename_i i
        cases z1
        unfold M.ixO at ez
        cases e6 : M.ati os i with
        | none => simp only [e6] at ez; cases ez
        | some o =>
          cases o <;> simp only [e6] at ez <;> try (cases ez; done)
          cases ez
          obtain ⟨v', h7, h8⟩ := r.ati e6
          exact .inr (.inl ⟨p, vs, i, v', rfl, rfl, SqT.of (f'.at_ (p, .tup vs) (by simp)).1, h7, q v' H1 F1 T1 e1 h8 r1⟩)
      | dct _ r => cases dk <;> cases ez
      | dcl _ r => cases dk <;> cases ez
      | dcn _ _ r => cases dk <;> cases ez
    . exact h2.elim
  . exact h.elim
theorem rA' {K : PySem.W.Frag} {n : Nat} (h : qE K W (M.ex' n) σ H Q) : tCB (vR' K) (tCons (tVar n) tNil) σ H Q := by
  obtain ⟨ρ, F, T, fr, rel, h⟩ := h
  unfold M.ex' at h
  split at h
  . rename_i o e
    obtain ⟨dz, ez, q⟩ := aZ'.ofO h
    obtain ⟨fe, fw, re, rw, f⟩ := id rel
    obtain ⟨v, f1, f2, f3, h1, rfl, h3, _⟩ := re.get e (M.dt' (fun z => by rw [z] at ez; exact nomatch (show (none : Option M.D) = some dz from ez)) fun z => by rw [z] at ez; exact nomatch (show (none : Option M.D) = some dz from ez))
    refine ⟨v, h1, ?_⟩
    cases h3 with
    | fz z =>
      exact dp' f z ez fun v' H3 F3 s zz f3 => q v' H3 F3 T (.of s) zz ⟨_, fw, re.mono (.of s), rw.mono (.of s), f3⟩
    | @lst p vs os fp0 r =>
      cases ez
      refine .inl (.inr (.inl ⟨p, vs, rfl, .inl (SqL.of (f.at_ (p, .lst vs) (by simp)).1), ?_⟩))
      rw [r.length]
      exact q _ H F T .refl (.int _) rel
    | @tup p vs os fp0 r =>
      cases ez
      refine .inl (.inr (.inl ⟨p, vs, rfl, .inr (SqT.of (f.at_ (p, .tup vs) (by simp)).1), ?_⟩))
      rw [r.length]
      exact q _ H F T .refl (.int _) rel
    | @dct p kvs os fp0 _ r =>
      cases ez
      refine .inl (.inr (.inr ⟨p, kvs, rfl, .inl (f.at_ (p, .dK kvs) (by simp)).1, q _ H F T .refl ?_ rel⟩))
      rw [List.length_map]
      exact .int _
    | @dcl p kvs ks os fp0 ke r =>
      cases ez
      have e2 : kvs.length = ks.length := by have := congrArg List.length ke.e; simpa using this
      refine .inr (.inl ⟨p, kvs, rfl, .inl (f.at_ (p, dcL p kvs) (by simp)).1, q _ H F T .refl ?_ rel⟩)
      rw [e2]
      exact .int _
    | @dcn p xs ks os fp0 ke z r =>
      cases ez
      have e2 : xs.length = ks.length := by have := congrArg List.length ke.e; simpa using this
      refine .inr (.inr ⟨p, xs, rfl, .inl (f.at_ (p, dcN p xs) (by simp)).1, q _ H F T .refl ?_ rel⟩)
      rw [e2]
      exact .int _
  . exact h.elim
theorem c7' {n : Nat} {x : Str} {p : Pos} (hwd : X.prog = Wd.P /\ X.w = Wd.w) (hg : Gl X x) (hm : X.mg x = none) (hv : bootBuiltins x = some (.builtin "len")) (ha : PE X a (tVar n)) (hn : x ≠ "__name__" := by decide) (hdb : (x == ("__debug__" : Str)) = false := by decide)
    (he : starEach [a] X.env = (false, eval a X.env) :: starEach [] X.env := by rfl) (hpl : (backTo pos (starEach [] X.env)).any (·.1) = false := by rfl) : SE X W (.Call (.Name x p) [a] [] pos) (M.ex' n) := PE.imp (pe_callB (aW' hwd) hg hm hv (pa_cons ha pa_nil he) hn hdb he hpl) fun _ _ _ => rA'
end
end S
namespace S
open PySem PySem.Spec PyProof.Rows L2
variable [Wd] [Hot]
local macro_rules | `(tactic| walk_at "parts") => `(tactic| (constructor; (intro e h; simp only [List.mem_append, List.mem_cons, List.not_mem_nil] at *; grind); (intro x; simp only [keys, List.map_append, List.map_cons, List.map_nil, List.count_append, List.count_cons, List.count_nil] at *; omega)))
theorem f6' {a b : String} (h : Str.ofString a = Str.ofString b) : a = b := by
  rw [Str.ofString_eq_toList, Str.ofString_eq_toList] at h
  have h2 : a.toList.map Char.toNat = b.toList.map Char.toNat := by
    have := congrArg (fun z : Str => z.cps.toList) h
    simpa using this
  have h3 : a.toList = b.toList := by
    have inj : ∀ (x y : List Char), x.map Char.toNat = y.map Char.toNat -> x = y := by
      intro x
      induction x with
      | nil => intro y h; cases y with
        | nil => rfl
        | cons _ _ => cases h
      | cons c x ih => intro y h; cases y with
        | nil => cases h
        | cons d y =>
          rw [List.map_cons, List.map_cons] at h
          injection h with h1 h2
          rw [ih y h2, show c = d from Char.toNat_inj.mp h1]
    exact inj _ _ h2
  exact String.toList_inj.mp h3
section
variable {K : PySem.W.Frag} {F F' H H' : Hp} {T T' : List Addr} {fp fq fr : Fp} {ρ : M.PSt} {σ : St} {W : WX} {Q : VK}
abbrev sj' (q : String × V) : Str × V := (Str.ofString q.1, q.2)
theorem rv' (f : String) : ∀ fv : List (String × V), (fv.map sj').lookup (Str.ofString f) = fv.lookup f
  | [] => rfl
  | (g, v) :: r => by
    rw [List.map_cons]
    by_cases h : f = g
    . subst h
      show List.lookup _ ((Str.ofString f, v) :: _) = _
      rw [List.lookup_cons_self, List.lookup_cons_self]
    . have h1 : (f == g) = false := by simpa using h
      have h2 : (Str.ofString f == Str.ofString g) = false := by
        rw [beq_eq_false_iff_ne]
        exact fun e => h (f6' e)
      show List.lookup _ ((Str.ofString g, v) :: _) = _
      simp only [List.lookup, h1, h2]
      exact rv' f r
theorem RpA.lookup {f : String} {o : M.O} : ∀ {fv : List (String × V)} {os : List M.O} {fp : Fp}, RpA K F T (fv.map (·.2)) os fp -> ((fv.map (·.1)).zip os).lookup f = some o →
    ∃ v f1 f2 f3, fv.lookup f = some v /\ fp = f1 ++ (f2 ++ f3) /\ Rp K F T v o f2
  | [], _, _, r, h => by cases r; cases h
  | (g, v) :: fv, _, _, r, h => by
    cases r with
    | @cons _ _ o1 os fp fq r0 r =>
      rw [List.map_cons, List.zip_cons_cons] at h
      by_cases e : f = g
      . subst e
        rw [List.lookup_cons_self] at h
        cases h
        exact ⟨v, [], fp, fq, List.lookup_cons_self, rfl, r0⟩
      . have h1 : (f == g) = false := by simpa using e
        simp only [List.lookup, h1] at h
        obtain ⟨v', f1, f2, f3, e1, e2, e3⟩ := RpA.lookup r h
        refine ⟨v', fp ++ f1, f2, f3, ?_, by rw [e2, List.append_assoc], e3⟩
        simp only [List.lookup, h1]
        exact e1
theorem rx' {f : String} : ∀ {fv : List (String × V)} {os : List M.O}, fv.length = os.length -> ((fv.map (·.1)).zip os).lookup f = none -> fv.lookup f = none
  | [], _, _, _ => rfl
  | (g, v) :: fv, [], h, _ => by cases h
  | (g, v) :: fv, o :: os, hl, h => by
    rw [List.map_cons, List.zip_cons_cons] at h
    by_cases e : f = g
    . subst e
      rw [List.lookup_cons_self] at h
      cases h
    . have h1 : (f == g) = false := by simpa using e
      simp only [List.lookup, h1] at h ⊢
      exact rx' (Nat.succ.inj hl) h
def putS (f : String) (v : V) : List (String × V) -> List (String × V)
  | [] => [(f, v)]
  | (g, x) :: r => if g = f then (g, v) :: r else (g, x) :: putS f v r
theorem nC' (f : String) (v : V) : ∀ fv : List (String × V), putF (Str.ofString f) v (fv.map sj') = (putS f v fv).map sj'
  | [] => rfl
  | (g, x) :: r => by
    rw [List.map_cons]
    show (if Str.ofString g = Str.ofString f then _ else _) = _
    unfold putS
    by_cases h : g = f
    . rw [if_pos h, if_pos (by rw [h])]
      rfl
    . rw [if_neg h, if_neg (fun e => h (f6' e)), nC' f v r]
      rfl
theorem RpA.putS {f : String} {o : M.O} {v : V} (q : Rp K F T v o fq) : ∀ {fv : List (String × V)} {os : List M.O} {fp : Fp}, RpA K F T (fv.map (·.2)) os fp →
    ∃ os' fp', M.q4' f o ((fv.map (·.1)).zip os) = ((S.putS f v fv).map (·.1)).zip os' /\ RpA K F T ((S.putS f v fv).map (·.2)) os' fp' /\ Part fp' (fq ++ fp)
  | [], _, _, r => by
    cases r
    exact ⟨[o], fq ++ [], rfl, .cons q .nil, by walk_at "parts"⟩
  | (g, x) :: fv, _, _, r => by
    cases r with
    | @cons _ _ o1 os fp fp2 r0 r =>
      unfold S.putS
      by_cases h : g = f
      . refine ⟨o :: os, fq ++ fp2, ?_, ?_, by walk_at "parts"⟩
        . rw [if_pos h, List.map_cons, List.zip_cons_cons]
          show (if g = f then _ else _) = _
          rw [if_pos h, List.map_cons, List.zip_cons_cons]
        . rw [if_pos h]
          exact .cons q r
      . obtain ⟨os', fp', h1, h2, h3⟩ := RpA.putS q r
        refine ⟨o1 :: os', fp ++ fp', ?_, ?_, ?_⟩
        . rw [if_neg h, List.map_cons, List.zip_cons_cons]
          show (if g = f then _ else _) = _
          rw [if_neg h, h1, List.map_cons, List.zip_cons_cons]
        . rw [if_neg h]
          exact .cons r0 h2
        . have h4 : Part (fp ++ fp') (fp ++ (fq ++ fp2)) := .app .refl h3
          refine h4.trans ?_
          walk_at "parts"
theorem Rel.wins (rel : Rel K ρ σ H F T fr) {n : Nat} {C : String} {fs : List (String × M.O)} (h : ρ.w[n]? = some (.ins C fs)) :
    ∃ (a dx : Addr) (fv : List (String × V)) (os : List M.O) (f2 : Fp), T[n]? = some a /\ fs = (fv.map (·.1)).zip os /\ H a = some (.ins (He.ga K C) dx (fv.map sj')) /\ RpA K F T (fv.map (·.2)) os f2 ∧
    (∃ f0, FpH F H ((a, .ins (He.ga K C) dx (fv.map sj')) :: (f2 ++ f0))) ∧
    ∀ (fv' : List (String × V)) (os' : List M.O) (f2' fr' : Fp), RpA K F T (fv'.map (·.2)) os' f2' -> Part (f2' ++ fr') (f2 ++ fr) -> Rel K ⟨ρ.env, ρ.w.set n (.ins C ((fv'.map (·.1)).zip os'))⟩ σ (upd H a (.ins (He.ga K C) dx (fv'.map sj'))) F T fr' := by
  obtain ⟨fe, fw, re, rw, f⟩ := rel
  obtain ⟨a, f1, f2, f3, h1, rfl, h3, h4⟩ := rw.get h
  generalize eo : M.Ob.ins C fs = ob at h3
  cases h3 with
  | lst r => cases eo
  | dct _ r => cases eo
  | dcl _ r => cases eo
  | dcn _ _ r => cases eo
  | @ins dx C' fv os fp0 hd r =>
    cases eo
    have fA : FpH F H ((fe ++ f1) ++ ((a, .ins (He.ga K C) dx (fv.map sj')) :: (f3 ++ (fp0 ++ fr)))) := f.part (by walk_at "parts")
    refine ⟨a, dx, fv, os, fp0, h1, rfl, (f.at_ (a, .ins (He.ga K C) dx (fv.map sj')) (by simp)).1, r, ⟨fe ++ (f1 ++ (f3 ++ fr)), fA.part (by walk_at "parts")⟩, fun fv' os' f2' fr' r' pt => ?_⟩
    have e5 := h4 F T (.ins C ((fv'.map (·.1)).zip os')) ((a, .ins (He.ga K C) dx (fv'.map sj')) :: f2') .refl (.ins hd r')
    refine ⟨fe, _, re, e5, ?_⟩
    have fB := fA.write (o' := .ins (He.ga K C) dx (fv'.map sj'))
    refine fB.part ?_
    have pm := pt.m
    constructor
    . intro e h
      have := pm e
      simp only [List.mem_append, List.mem_cons] at *
      grind
    . intro x
      have := pt.c x
      simp only [keys, List.map_append, List.map_cons, List.count_append, List.count_cons] at *
      omega
theorem ty' {cs : List String} {f : String} {w : M.W} {x d : M.D} (h : M.hd' cs f w x = some d) : ∃ n C fs, x = .obj n /\ w[n]? = some (.ins C fs) /\ C ∈ cs /\ fs.lookup f = some (.fz d) := by
  unfold M.hd' at h
  split at h
  . rename_i n
    split at h
    . rename_i C fs e
      split at h
      . rename_i hC
        split at h
        . rename_i d' e2
          cases h
          exact ⟨n, C, fs, rfl, e, hC, e2⟩
        . cases h
      . cases h
    . cases h
  . cases h
theorem tx' {cs : List String} {f : String} {ma : M.ME} (hC : ∀ C ∈ cs, Cls K (He.ga K C) /\ NoAttr K (He.ga K C) (Str.ofString f)) (h : qE K W (M.ey' cs ma f) σ H Q) : tFld K (qE K W ma) (Str.ofString f) σ H Q := by
  obtain ⟨ρ, F, T, fr, rel, h⟩ := h
  refine ay' rel h fun dx ρ1 v H1 F1 T1 e1 z1 r1 h1 => ?_
  obtain ⟨d, ed, q⟩ := aZ'.ofO h1
  obtain ⟨n, C, fs, rfl, ew, hm, el⟩ := ty' ed
  obtain ⟨a, dx, fv, os, f2, hT, rfl, hH, r, _, _⟩ := r1.wins ew
  obtain ⟨v', _, _, _, e2, _, e3⟩ := r.lookup el
  cases z1 with
  | obj t =>
    rw [hT] at t
    cases t
    cases e3 with
    | fz z => exact ⟨a, _, dx, _, v', rfl, hH, (hC C hm).1, (hC C hm).2, by rw [rv']; exact e2, q v' H1 F1 T1 e1 z r1⟩
theorem qP' {K : PySem.W.Frag} {w : M.W} {fr' : Fp} (r : sp' K w H F T fr) (p : Part fr' fr) : sp' K w H F T fr' := by
  obtain ⟨fe, fw, re, rw, f⟩ := r
  exact ⟨fe, fw, re, rw, f.part (.app .refl (.app .refl p))⟩
theorem bw'.frame {D : Ends} {r : M.Out} (h : bw' K W D F T fr r) (p : Part fr fq) : bw' K W D F T fq r := by
  cases r with
  | nx ρ => exact fun σ' H' F' T' e r => h σ' H' F' T' e (r.part p)
  | bk ρ => exact fun σ' H' F' T' e r => h σ' H' F' T' e (r.part p)
  | ct ρ => exact fun σ' H' F' T' e r => h σ' H' F' T' e (r.part p)
  | rt o w => exact fun v H' F' T' fp e z r => h v H' F' T' fp e z (qP' r (.app .refl p))
  | exc x ρ => exact fun σ' cls dd H' F' T' e z r => h σ' cls dd H' F' T' e z (r.part p)
  | bad => exact h
theorem EX.frame {x : M.Exc} (h : EX K W σ F T fr x ρ) (p : Part fr fq) : EX K W σ F T fq x ρ := fun cls dd H' F' T' e z r => h cls dd H' F' T' e z (r.part p)
theorem sV' {D : Ends} {m : M.ME} {k : M.D -> M.PSt -> M.Out} (rel : Rel K ρ σ H F T (fp ++ fr)) (h : bw' K W D F T fr ((m ρ).out k))
    (q : ∀ d ρ1 v H1 F1 T1, Ext F T F1 T1 -> Fz K F1 T1 v d -> Rel K ρ1 σ H1 F1 T1 (fp ++ fr) -> bw' K W D F1 T1 fr (k d ρ1) -> Q v H1) : qE K W m σ H Q :=
  ⟨ρ, F, T, fp ++ fr, rel, (eS' h).mono (fun d ρ1 h1 v H1 F1 T1 e z r => q d ρ1 v H1 F1 T1 e z r (h1.mono e)) fun _ _ z => z.frame (.right .refl)⟩
theorem vC' {cs : List String} {f : String} {o : M.O} {w w' : M.W} {x : M.D} (h : M.stF cs f o w x = some w') : ∃ n C fs, x = .obj n /\ w[n]? = some (.ins C fs) /\ C ∈ cs /\ fs.length < 1000 /\ w' = w.set n (.ins C (M.q4' f o fs)) := by
  unfold M.stF at h
  split at h
  . rename_i n
    split at h
    . rename_i C fs e
      split at h
      . rename_i hC
        cases h
        exact ⟨n, C, fs, rfl, e, hC.1, hC.2, rfl⟩
      . cases h
    . cases h
  . cases h
theorem qy' {cs : List String} {f : String} {ma : M.ME} {mo : M.MO} {D : Ends} (hC : ∀ C ∈ cs, Cls K (He.ga K C) /\ NoAttr K (He.ga K C) (Str.ofString f)) (h : qS K W (M.sFld cs ma f mo) D σ H) : sFld K (qE K W ma) (qO K W mo) (Str.ofString f) D σ H := by
  obtain ⟨ρ, F, T, fr, rel, h⟩ := h
  refine gS' rel h fun o ρ1 y H1 F1 T1 fp e1 z1 r1 h1 => ?_
  refine sV' r1 h1 fun d ρ2 x H2 F2 T2 e2 z2 r2 h2 => ?_
  cases es : M.stF cs f o ρ2.w d with
  | none => rw [es] at h2; exact h2.elim
  | some w' =>
    rw [es] at h2
    obtain ⟨n, C, fs, rfl, ew, hm, hl, rfl⟩ := vC' es
    obtain ⟨a, dx, fv, os, f2, hT, rfl, hH, r, _, back⟩ := r2.wins ew
    cases z2 with
    | obj t =>
      rw [hT] at t
      cases t
      obtain ⟨os', fp', p1, p2, p3⟩ := RpA.putS (z1.mono e2) r (f := f)
      have hlen := r.length
      rw [List.length_map] at hlen
      rw [List.length_zip, List.length_map, hlen, Nat.min_self] at hl
      refine ⟨a, _, dx, _, rfl, hH, (hC C hm).1, (hC C hm).2, by rw [List.length_map, hlen]; exact hl, ?_⟩
      rw [nC']
      refine h2 σ _ F2 T2 .refl ?_
      show Rel K ⟨ρ2.env, ρ2.w.set n (.ins C (M.q4' f o _))⟩ σ _ F2 T2 fr
      rw [p1]
      refine back _ _ fp' fr p2 ?_
      have h4 : Part (fp' ++ fr) ((fp ++ f2) ++ fr) := .app p3 .refl
      refine h4.trans ?_
      walk_at "parts"
theorem RpW.snoc {a : Addr} {ob : M.Ob} {fb : Fp} (q : RpOb K F T a ob fb) {l : List Addr} {w : M.W} {fw : Fp} (r : RpW K F T l w fw) : ∃ fw', RpW K F T (l ++ [a]) (w ++ [ob]) fw' /\ Part fw' (fb ++ fw) := by
  induction r with
  | nil => exact ⟨_, RpW.cons q .nil, by walk_at "parts"⟩
  | @cons a l ob w fa fb' r0 r ih =>
    obtain ⟨fw', q1, q2⟩ := ih
    refine ⟨fa ++ fw', .cons r0 q1, ?_⟩
    have p1 : Part (fa ++ fw') (fa ++ (fb ++ fb')) := .app .refl q2
    refine p1.trans ?_
    walk_at "parts"
theorem Rel.reenv {env : List (Option M.O)} {fe : Fp} {w' : M.W} {F0 : Hp} {T0 : List Addr} (re : RpE K F0 T0 σ env fe) (e : Ext F0 T0 F T) (r : sp' K (w') H F T (fp ++ (fe ++ fr))) : Rel K ⟨env, w'⟩ σ H F T (fp ++ fr) := by
  obtain ⟨fe', fw', re', rw', f'⟩ := r
  cases re'
  exact ⟨fe, fw', re.mono e, rw', f'.part (by walk_at "parts")⟩
theorem rn' {C : String} {init : M.MF} {as : M.MA} (h : qO K W (M.kn' C init as) σ H Q) : ur' (He.ga K C) (spM K init) (WE W) (qA K W as) σ H Q := by
  obtain ⟨ρ, F, T, fr, rel, h⟩ := h
  refine c8' rel h fun ds ρ1 vs H1 F1 T1 e1 z1 r1 h1 => ?_
  intro x dx hx hdx hne
  obtain ⟨fe, fw, re, rw', f⟩ := r1
  have s1 : Same F1 (upd F1 dx (.own x)) := cI' (f.free hdx)
  have eT : Ext F1 T1 (upd F1 dx (.own x)) (T1 ++ [x]) := ⟨.of s1, ⟨[x], rfl⟩⟩
  have hn : (T1 ++ [x])[ρ1.w.length]? = some x := by rw [<- rw'.len, List.getElem?_append_right (Nat.le_refl _), Nat.sub_self]; rfl
  have qi : RpOb K (upd F1 dx (.own x)) (T1 ++ [x]) x (.ins C []) [(x, .ins (He.ga K C) dx [])] := RpOb.ins (fs := []) (os := []) (fp := []) upd_same .nil
  obtain ⟨fw', q1, q2⟩ := RpW.snoc qi (rw'.mono eT)
  have f1 : FpH (upd F1 dx (.own x)) (upd (upd H1 dx (.own x)) x (.ins (He.ga K C) dx [])) ((x, .ins (He.ga K C) dx []) :: (fe ++ (fw ++ fr))) := (f.new hdx).own (by rw [upd_ne (Ne.symm hne)]; exact hx)
  refine ⟨.obj ρ1.w.length :: ds, ρ1.w ++ [.ins C []], _, _, fe ++ fr, .cons (.obj hn) (z1.mono eT), ⟨[], fw', xv', q1, f1.part ?_⟩, ?_⟩
  . have p1 : Part ([] ++ (fw' ++ (fe ++ fr))) ([] ++ (([(x, .ins (He.ga K C) dx [])] ++ fw) ++ (fe ++ fr))) := .app .refl (.app q2 .refl)
    refine p1.trans ?_
    walk_at "parts"
  . cases em : init (.obj ρ1.w.length :: ds) (ρ1.w ++ [.ins C []]) with
    | bad => rw [em] at h1; exact h1.elim
    | ok o w' =>
      rw [em] at h1
      intro v H' F' T' fp e z r
      cases z with
      | fz z =>
        rename_i d
        cases d <;> try exact h1.elim
        refine ⟨z.non_inv, h1 (.ref x) H' F' T' [] (e1.trans (eT.trans e)) (.fz (.obj (e.get hn))) ?_⟩
        exact Rel.reenv (re.mono eT) e r
      | lst _ => exact h1.elim
      | tup _ => exact h1.elim
      | dct _ _ => exact h1.elim
      | dcl _ _ => exact h1.elim
      | dcn _ _ _ => exact h1.elim
    | exc x w' =>
      rw [em] at h1
      intro cls dd H' F' T' e z r
      refine h1 cls dd H' F' T' (eT.trans e) z ?_
      exact Rel.reenv (fp := []) (re.mono eT) e r
theorem rL' {cs : List String} {m : String} {w : M.W} {x : M.D} (h : M.jg' cs m w x = true) : ∃ C n fs, C ∈ cs /\ x = .obj n /\ w[n]? = some (.ins C fs) /\ fs.lookup m = none := by
  unfold M.jg' at h
  split at h
  . rename_i n
    split at h
    . rename_i C' fs e
      rw [Bool.and_eq_true, decide_eq_true_eq, Option.isNone_iff_eq_none] at h
      exact ⟨C', n, fs, h.1, rfl, e, h.2⟩
    . cases h
  . cases h
theorem kt' {cs : List String} {m : String} {mf : M.MF} {ma : M.ME} {as : M.MA} (h : qO K W (M.fC' cs m mf ma as) σ H Q) : qo' K cs (Str.ofString m) (spM K mf) (WE W) (qE K W ma) (qA K W as) σ H Q := by
  obtain ⟨ρ, F, T, fr, rel, h⟩ := h
  refine ay' rel h fun dx ρ1 v H1 F1 T1 e1 z1 r1 h1 => ?_
  split at h1
  . rename_i hi
    obtain ⟨C, n, fs, hC, rfl, ew, el⟩ := rL' hi
    obtain ⟨a, dx, fv, os, f2, hT, rfl, hH, r, _, _⟩ := r1.wins ew
    cases id z1 with
    | obj t =>
      rw [hT] at t
      cases t
      have hlen := r.length
      rw [List.length_map] at hlen
      refine ⟨C, hC, a, dx, _, rfl, hH, by rw [rv']; exact rx' hlen el, ?_⟩
      refine c8' r1 h1 fun ds ρ2 vs H2 F2 T2 e2 z2 r2 h2 => ?_
      obtain ⟨fe, fw, re, rw', f⟩ := r2
      refine ⟨.obj n :: ds, ρ2.w, F2, T2, fe ++ fr, .cons (z1.mono e2) z2, ⟨[], fw, xv', rw', f.part (by walk_at "parts")⟩, ?_⟩
      cases em : mf (.obj n :: ds) ρ2.w with
      | bad => rw [em] at h2; exact h2.elim
      | ok o w' =>
        rw [em] at h2
        exact fun v H' F' T' fp e z r => h2 v H' F' T' fp (e1.trans (e2.trans e)) z (Rel.reenv re e r)
      | exc x w' =>
        rw [em] at h2
        exact fun cls dd H' F' T' e z r => h2 cls dd H' F' T' e z (Rel.reenv (fp := []) re e r)
  . exact h1.elim
end
section
variable {X : Cx} {W : WX} {pos apos p pos' : Pos} {e o value : Expr} {es : List Expr} {ma : M.ME} {mo : M.MO} {as : M.MA} {k : Nat} {x : Str} {ps : List Str} {mf : M.MF}
theorem bz' {f : String} (cs : List String) (ha : SE X W e ma) (hC : ∀ C ∈ cs, Cls X.K (He.ga X.K C) /\ NoAttr X.K (He.ga X.K C) (Str.ofString f)) (hb : attributeBase e (Str.ofString f) X.env (eval e X.env) = eval e X.env := by rfl) :
    SE X W (.Attribute e (Str.ofString f) pos) (M.ey' cs ma f) := PE.imp (pe_fld ha hb) fun _ _ _ h => tx' hC h
theorem eH' {f : String} (cs : List String) (ha : SE X W o ma) (hv : SO X W value mo) (hC : ∀ C ∈ cs, Cls X.K (He.ga X.K C) /\ NoAttr X.K (He.ga X.K C) (Str.ofString f)) (hs : swapsWith value (some (.Attribute o (Str.ofString f) pos')) pos.line X.env = pure false := by rfl) :
    SS X W (.Assign [.Attribute o (Str.ofString f) pos'] value pos) (M.sFld cs ma f mo) := PS.imp (ps_fld ha hv hs) fun _ _ _ h => qy' hC h
theorem lt' {C : String} (F : OgM X.prog X.w X.K X.mg X.base k (He.ga X.K C) "__init__" ps (spM X.K mf)) (hr : RoomG (k + 1) X.A) (hg : Gl X x) (Mk' : Mk X.K (He.ga X.K C) (He.ma X.K (He.ga X.K C) "__init__")) (hm : X.mg x = some (.ref (He.ga X.K C))) (tk : Takes X W)
    (ha : SA X W (e :: es) as) (hdb : (x == ("__debug__" : Str)) = false := by decide) (he : starEach (e :: es) X.env = (false, eval e X.env) :: starEach es X.env := by rfl) (hpl : (backTo pos (starEach es X.env)).any (·.1) = false := by rfl) :
    SO X W (.Call (.Name x p) (e :: es) [] pos) (M.kn' C mf as) := PE.imp (s4' F hr hg Mk' hm tk ha hdb he hpl) fun _ _ _ h => rn' h
theorem qv' {C m : String} {cs : List String} {pl : Sem Bool} (he : SE X W o ma) (F : OgM X.prog X.w X.K X.mg X.base k (He.ga X.K C) (Str.ofString m) ps (spM X.K mf)) (hr : RoomG k X.A) (hm : jv' X.K cs (Str.ofString m) (He.ma X.K (He.ga X.K C) (Str.ofString m))) (tk : Takes X W)
    (ha : SA X W (e :: es) as)
    (hst : starEach (e :: es) X.env = (false, eval e X.env) :: starEach es X.env := by rfl) (hpl : (backTo pos (starEach es X.env)).any (·.1) = false := by rfl)
    (ht : eval (.Call (.Attribute o (Str.ofString m) apos) (e :: es) [] pos) X.env = (do
      let ov ← eval o X.env
      standAt apos.atName
      let (f, first) ← holding [ov] (getMethod ov (Str.ofString m) pl)
      callWith pos f first (backTo pos (starEach (e :: es) X.env)) (backToKw pos (keywordEach [] X.env))) := by rfl) :
    SO X W (.Call (.Attribute o (Str.ofString m) apos) (e :: es) [] pos) (M.fC' cs m mf ma as) := PE.imp (s3' he F hr hm tk ha hst hpl ht) fun _ _ _ h => kt' h
theorem eI' {C m : String} {cs : List String} {pl : Sem Bool} (he : SE X W o ma) (F : OgM X.prog X.w X.K X.mg X.base k (He.ga X.K C) (Str.ofString m) ps (spM X.K mf)) (hr : RoomG k X.A) (hm : jv' X.K cs (Str.ofString m) (He.ma X.K (He.ga X.K C) (Str.ofString m))) (tk : Takes X W)
    (ht : eval (.Call (.Attribute o (Str.ofString m) apos) [] [] pos) X.env = (do
      let ov ← eval o X.env
      standAt apos.atName
      let (f, first) ← holding [ov] (getMethod ov (Str.ofString m) pl)
      callWith pos f first (backTo pos (starEach [] X.env)) (backToKw pos (keywordEach [] X.env))) := by rfl) :
    SO X W (.Call (.Attribute o (Str.ofString m) apos) [] [] pos) (M.fC' cs m mf ma M.ba') := PE.imp (q9' he F hr hm tk ht) fun σ H Q h => by
  have h2 := kt' h
  obtain ⟨ρ, F, T, fr, rel, q⟩ := h2
  refine ⟨ρ, F, T, fr, rel, q.mono (fun d ρ1 h1 v H1 F1 T1 e z r => ?_) fun _ _ z => z⟩
  obtain ⟨C, hC, a, dx, fs, e1, e2, e3, ρ2, F2, T2, fr2, rel2, q2⟩ := h1 v H1 F1 T1 e z r
  exact ⟨C, hC, a, dx, fs, e1, e2, e3, q2 [] H1 F2 T2 .refl .nil rel2⟩
end
end S
namespace S
open PySem PySem.Spec PyProof.Rows L2
variable [Wd] [Hot]
local macro_rules | `(tactic| walk_at "parts") => `(tactic| (constructor; (intro e h; simp only [List.mem_append, List.mem_cons, List.not_mem_nil] at *; grind); (intro x; simp only [keys, List.map_append, List.map_cons, List.map_nil, List.count_append, List.count_cons, List.count_nil] at *; omega)))
section
variable {K : PySem.W.Frag} {W : WX} {Q : VK} {σ : St} {H : Hp}
theorem Bv' : Op1 K M.An' (rU fun i => .int (-i)) := by
  intro F H T fp x dx dz Q f hx h k
  cases dx <;> try (cases h; done)
  cases hx; cases h
  exact ⟨_, rfl, k.here f (.int _)⟩
theorem jh' {F : Hp} {T : List Addr} : ∀ {vs : List V} {ds : List M.D} {ns : List Int}, FzA K F T vs ds -> M.bC' ds = some ns -> vs = ns.map V.int
  | _, _, ns, .nil, h => by cases h; rfl
  | _, d :: ds, ns, .cons a r, h => by
    cases d <;> try (cases h; done)
    rename_i b
    cases q : M.bC' ds with
    | none => simp only [M.bC', q] at h; cases h
    | some cs =>
      simp only [M.bC', q, Option.map_some] at h
      cases h
      rw [a.int_inv, jh' r q]
      rfl
theorem FzA.rgI {F : Hp} {T : List Addr} : ∀ ns : List Int, FzA K F T (ns.map V.int) (ns.map M.D.int)
  | [] => .nil
  | n :: r => .cons (.int n) (FzA.rgI r)
theorem ku' : ∀ (ns : List Int) (m : Int), m ∈ ns -> (∀ y ∈ ns, y <= m) -> M.nQ' ns = m
  | [x], m, h, _ => by rw [List.mem_singleton.mp h]; rfl
  | x :: y :: r, m, h, hm => by
    show max x (M.nQ' (y :: r)) = m
    have ge : ∀ (l : List Int) (a : Int), l ≠ [] -> (∀ z ∈ l, z <= a) -> M.nQ' l <= a := by
      intro l
      induction l with
      | nil => intro a h; exact absurd rfl h
      | cons z t ih =>
        intro a _ hz
        cases t with
        | nil => exact hz z (by simp)
        | cons u t =>
          show max z (M.nQ' (u :: t)) <= a
          have := ih a (by simp) fun q hq => hz q (by simp [hq])
          have := hz z (by simp)
          omega
    have ge2 := ge (y :: r) m (by simp) fun z hz => hm z (List.mem_cons_of_mem _ hz)
    have hx := hm x List.mem_cons_self
    rcases List.mem_cons.mp h with rfl | h
    . omega
    . rw [ku' (y :: r) m h fun z hz => hm z (List.mem_cons_of_mem _ hz)]
      omega
def nM' (c : Nat) : Str := ⟨#[c]⟩
def sB' (z : Str) : Nat := z.cps.toList.headD 0
theorem nF' {ys : List Str} {l : List Nat} (h : ys.Perm (l.map nM')) : ∃ l' : List Nat, ys = l'.map nM' /\ l'.Perm l := by
  refine ⟨ys.map sB', ?_, ?_⟩
  . rw [List.map_map]
    have : ∀ y ∈ ys, (nM' ∘ sB') y = y := fun y hy => by
      obtain ⟨c, _, rfl⟩ := List.mem_map.mp (h.subset hy)
      rfl
    exact (List.map_congr_left this).trans (List.map_id ys) |>.symm
  . have := h.map sB'
    rw [List.map_map] at this
    have e : l.map (sB' ∘ nM') = l := (List.map_congr_left fun c _ => rfl).trans (List.map_id l)
    rw [e] at this
    exact this
theorem ov' : ∀ (l : List Nat) (c : Nat), risingS (nM' c) (l.map nM') = true -> c <= l.headD c /\ sortedS (l.map nM') = true
  | [], c, _ => ⟨Nat.le_refl c, rfl⟩
  | e :: l, c, h => by
    rw [List.map_cons] at h ⊢
    unfold risingS at h
    rw [Bool.and_eq_true] at h
    obtain ⟨h1, h2⟩ := h
    refine ⟨?_, h2⟩
    show c <= e
    simp [ltCps, nM'] at h1
    omega
theorem ft' : ∀ l : List Nat, sortedS (l.map nM') = true -> l.Pairwise (· <= ·)
  | [], _ => .nil
  | c :: l, h => by
    obtain ⟨h1, h2⟩ := ov' l c h
    have ih := ft' l h2
    refine List.pairwise_cons.mpr ⟨fun d hd => ?_, ih⟩
    cases l with
    | nil => cases hd
    | cons e t =>
      have hce : c <= e := h1
      cases hd with
      | head => exact hce
      | tail _ hd => exact Nat.le_trans hce ((List.pairwise_cons.mp ih).1 d hd)
theorem np' {l l' : List Nat} (p : l'.Perm l) (s : l'.Pairwise (· <= ·)) : l' = M.cA' l := by
  refine List.Perm.eq_of_pairwise (le := (· <= ·)) (fun a b _ _ h1 h2 => Nat.le_antisymm h1 h2) s ?_ (p.trans (List.mergeSort_perm l _).symm)
  exact (List.pairwise_mergeSort (le := fun a b => decide (a <= b)) (fun a b c h1 h2 => decide_eq_true (Nat.le_trans (of_decide_eq_true h1) (of_decide_eq_true h2))) (fun a b => by
    rw [Bool.or_eq_true, decide_eq_true_eq, decide_eq_true_eq]; omega) l).imp fun h => of_decide_eq_true h
theorem nq' {l l' : List Int} (p : l'.Perm l) (s : l'.Pairwise (· <= ·)) : l' = M.ls' l := by
  refine List.Perm.eq_of_pairwise (le := (· <= ·)) (fun a b _ _ h1 h2 => Int.le_antisymm h1 h2) s ?_ (p.trans (List.mergeSort_perm l _).symm)
  exact (List.pairwise_mergeSort (le := fun a b => decide (a <= b)) (fun a b c h1 h2 => decide_eq_true (Int.le_trans (of_decide_eq_true h1) (of_decide_eq_true h2))) (fun a b => by
    rw [Bool.or_eq_true, decide_eq_true_eq, decide_eq_true_eq]; omega) l).imp fun h => of_decide_eq_true h
def qU' (K : PySem.W.Frag) : List V -> Hp -> VK -> Prop := fun vs H Q => kc' vs H Q \/ rSortedI K vs H Q \/ rSortedS K vs H Q
theorem oS' {X : Cx} (hc : X.calm = true) : CallR X (.builtin "sorted") (qU' X.K) := (l6' hc).or (cr_sortedI.or cr_sortedS)
theorem j6' {s : M.Tx} {c : Nat} : c ∈ M.cA' s ↔ c ∈ s := (List.mergeSort_perm s _).mem_iff
theorem nL' {K : PySem.W.Frag} {F : Hp} {T : List Addr} : ∀ {vs : List V} {ds : List M.D} {cs : List Nat}, FzA K F T vs ds -> M.gY' ds = some cs -> vs = (cs.map nM').map V.str /\ ∀ c ∈ cs, c < 1114112
  | _, [], _, .nil, h => by cases h; exact ⟨rfl, fun _ h => nomatch h⟩
  | _, d :: ds, cs, .cons z r, h => by
    unfold M.gY' at h
    split at h
    . rename_i e
      cases e
    . rename_i c r' e
      cases e
      obtain ⟨cs', h1, rfl⟩ := Option.map_eq_some_iff.mp h
      obtain ⟨e2, h2⟩ := nL' r h1
      obtain ⟨rfl, o⟩ := z.str_inv
      refine ⟨by rw [e2]; rfl, fun c' hc => ?_⟩
      rcases List.mem_cons.mp hc with rfl | hc
      . exact o.1 _ List.mem_cons_self
      . exact h2 _ hc
    . cases h
theorem tU' : Bi1 K M.da' (qU' K) := by
  intro F H T fp x dx dz Q f hx h k
  cases dx <;> try (cases h; done)
  . obtain ⟨rfl, o⟩ := hx.str_inv
    rename_i s
    simp only [M.da'] at h
    split at h
    . rename_i hl
      cases h
      refine .inl ⟨_, rfl, by rw [cz']; exact hl, fun ys p H' hp hs hn s' e => ?_⟩
      obtain ⟨l', rfl, p'⟩ := nF' hp
      rw [np' p' (ft' l' hs)] at *
      have z : FzA K F T (((M.cA' s).map nM').map V.str) ((M.cA' s).map M.chD) := by
        rw [List.map_map]
        exact FzA.chars fun c hc => o.1 c (j6'.mp hc)
      have hF : F p = none := f.free hn
      have sF : Same F (upd F p (.lst (((M.cA' s).map nM').map V.str))) := cI' hF
      refine k (.ref p) H' _ sF (.lst upd_same (z.mono (.of sF))) ⟨fun a u ha => ?_, fun q hq => ?_, f.nd, f.tbs (fun a h1 h2 h3 => ?_) fun c q h => lz' sF h⟩
      . by_cases hap : a = p
        . subst hap
          rw [upd_same] at ha
          cases ha
          exact e
        . rw [upd_ne hap] at ha
          exact s' _ _ (f.low _ _ ha)
      . have np : q.1 ≠ p := ne_of_none (f.at_ q hq).1 hn
        exact ⟨s' _ _ (f.at_ q hq).1, by rw [upd_ne np]; exact (f.at_ q hq).2⟩
      . have hap : a ≠ p := fun z => h2 (by rw [z]; exact hn)
        refine ⟨by rw [upd_ne hap]; exact h1, ?_, h3⟩
        cases hh : H a with
        | none => exact absurd hh h2
        | some o => exact s' _ _ hh
    . cases h
  . obtain ⟨a, vs, rfl, ha, za⟩ := hx.lst_inv
    rename_i ds
    cases q : M.bC' ds with
    | none =>
      simp only [M.da', q] at h
      obtain ⟨cs, h1, h2⟩ := Option.bind_eq_some_iff.mp h
      split at h2
      . rename_i hl
        cases h2
        obtain ⟨e2, hc⟩ := nL' za h1
        refine .inr (.inr ⟨a, cs.map nM', rfl, by rw [<- e2]; exact SqL.of (f.low _ _ ha), by rw [List.length_map]; exact hl, fun ys p hp hs hn => ?_⟩)
        obtain ⟨l', rfl, p'⟩ := nF' hp
        rw [np' p' (ft' l' hs)]
        have z : FzA K F T (((M.cA' cs).map nM').map V.str) ((M.cA' cs).map M.chD) := by
          rw [List.map_map]
          exact FzA.chars fun c hc' => hc c (j6'.mp hc')
        exact k.newL f z hn
      . cases h2
    | some ns =>
      simp only [M.da', q] at h
      cases h
      refine .inr (.inl ⟨a, ns, rfl, by rw [<- jh' za q]; exact SqL.of (f.low _ _ ha), fun ns' p hp hs hn => ?_⟩)
      rw [nq' hp hs]
      exact k.newL f (FzA.rgI _) hn
theorem sb' (a b : M.Tx) (i : Nat) : StrLaws.At (sx a) (sx b) (sx a).length i ↔ M.uP' a b i = true := by
  rw [<- wA', Bool.and_eq_true, decide_eq_true_eq]
  exact Iff.rfl
theorem s0' {p : Nat -> Bool} {n i : Nat} (h : p i = true) (hi : i < n) (hm : ∀ k, k < i -> p k = false) : (List.range n).find? p = some i := by
  rw [List.find?_eq_some_iff_getElem]
  refine ⟨h, i, by simpa using hi, by simp, fun j hj => ?_⟩
  rw [List.getElem_range, hm j hj]
  rfl
theorem nZ' (a b : M.Tx) : Txt.find (sx a) (sx b) = M.fnd (M.n0' a b) := by
  rcases find_whole (sx a) (sx b) with ⟨h1, h2⟩ | ⟨i, h1, h2, h3⟩
  . rw [h1]
    have : M.n0' a b = none := by
      unfold M.n0'
      rw [List.find?_eq_none]
      intro i _ h
      exact h2 i ((sb' a b i).mpr h)
    rw [this]
    rfl
  . rw [h1]
    have hi : M.uP' a b i = true := (sb' a b i).mp h2
    have hl : i < a.length + 1 := by
      unfold M.uP' at hi
      rw [Bool.and_eq_true, decide_eq_true_eq] at hi
      omega
    have : M.n0' a b = some i := s0' hi hl fun k hk => by
      have := h3 k hk
      rw [sb'] at this
      exact Bool.eq_false_iff.mpr this
    rw [this]
    rfl
theorem FzA.str1 {F : Hp} {T : List Addr} {xs : List V} {b : M.Tx} (h : FzA K F T xs [.str b]) : xs = [.str (sx b)] /\ okT b := by
  obtain ⟨v, rfl, z⟩ := h.one
  obtain ⟨rfl, o⟩ := z.str_inv
  exact ⟨rfl, o⟩
theorem yK' : MtD K M.rr' (fun x xs H Q => ∃ a b, x = .str a /\ xs = [.str b] /\ Q (.int (Txt.find a b)) H) := by
  intro F H T fp s xs ds dz Q f o hx h k
  unfold M.rr' at h
  split at h
  . obtain ⟨rfl, o2⟩ := hx.str1
    cases h
    exact ⟨_, _, rfl, rfl, by rw [nZ']; exact k.here f (.int _)⟩
  . cases h
theorem oE' {a b : M.Tx} {i : Nat} (h : M.n0' a b = some i) : ∃ rest, Builtin.Str.occurrences (sx a) (sx b) 0 (sx a).length 1 = i :: rest := by
  have h1 := nZ' a b
  rw [h] at h1
  unfold Txt.find at h1
  cases e : Builtin.Str.occurrences (sx a) (sx b) 0 (sx a).length 1 with
  | nil => rw [e] at h1; exact absurd h1 (by show ¬ (-1 : Int) = (i : Int); omega)
  | cons j rest =>
    rw [e] at h1
    have h2 : (j : Int) = (i : Int) := h1
    exact ⟨rest, by rw [show j = i by omega]⟩
theorem rp' : MtD K M.in' qY' := by
  intro F H T fp s xs ds dz Q f o hx h k
  unfold M.in' at h
  split at h
  . obtain ⟨rfl, o2⟩ := hx.str1
    rename_i b
    cases q : M.n0' s b with
    | none => rw [q] at h; cases h
    | some i =>
      rw [q] at h
      cases h
      obtain ⟨rest, e⟩ := oE' q
      exact ⟨_, _, i, rest, rfl, rfl, e, k.here f (.int _)⟩
  . cases h
def BA' : M.D -> Option Key
  | .int i => some (.inl i)
  | .str s => some (.inr (sx s))
  | _ => none
theorem g7' {d : M.D} {k : Key} (h : BA' d = some k) : kD k = d := by
  cases d <;> cases h <;> rfl
theorem kz' {F : Hp} {T : List Addr} {v : V} {d : M.D} {k : Key} (z : Fz K F T v d) (h : BA' d = some k) : v = kV k := by
  cases d <;> cases h
  . cases z; rfl
  . obtain ⟨rfl, _⟩ := z.str_inv; rfl
end
section
variable {X : Cx} {W : WX} {pos p pos' : Pos} {a b e : Expr} {ma mb : M.ME} {mo : M.MO} {σ : St} {H : Hp} {Q : VK}
theorem j7' {x : Str} (t : String) (ht : t ∈ ["bool", "int", "str", "tuple", "list", "dict"]) (hg : Gl X x) (hm : X.mg x = none) (hv : bootBuiltins x = some (.builtin "isinstance")) (ha : SE X W a ma) (hb : PE X b (tC (.ty t))) (hn : x ≠ "__name__" := by decide) (hdb : (x == ("__debug__" : Str)) = false := by decide)
    (he : starEach [a, b] X.env = (false, eval a X.env) :: starEach [b] X.env := by rfl) (he2 : starEach [b] X.env = (false, eval b X.env) :: starEach [] X.env := by rfl) (hpl : (backTo pos (starEach [b] X.env)).any (·.1) = false := by rfl) : SE X W (.Call (.Name x p) [a, b] [] pos) (M.eUn (M.cl' t) ma) :=
  PE.imp (pe_callB call_isi hg hm hv (pa_cons ha (pa_cons hb pa_nil he2) he) hn hdb he hpl) fun σ H Q ⟨ρ, F, T, fr, rel, h⟩ => by
    refine ay' rel h fun dx ρ1 v H1 F1 T1 e1 z1 r1 h1 => ?_
    obtain ⟨dz, ez, q⟩ := aZ'.ofO h1
    unfold M.cl' at ez
    cases eq : M.tyn dx with
    | none => rw [eq] at ez; cases ez
    | some n =>
      rw [eq] at ez
      cases ez
      obtain ⟨fp, f, _⟩ := r1.fp
      exact AQ' (uq' f.low z1 eq) (kit_ty (wl' n (vw' eq) t ht)) (q _ H1 F1 T1 e1 (.bl _) r1)
theorem c5' : SO X W (.Dict [] [] pos) M.go' := PE.imp pe_dnewK fun σ H Q ⟨ρ, F, T, fr, rel, h⟩ => fun p hp => by
  have z : Rp X.K F T (.ref p) (.dct [] []) [(p, .dK [])] := Rp.dct (kvs := []) .nil .nil
  exact h (.ref p) _ F T _ .refl z (rel.own hp)
theorem vD' {f : M.D -> Option M.D} {r : List V -> Hp -> VK -> Prop} {x : Str} {id : String} (hc : CallR X (.type id) r)
    (hf : ∀ {F H : Hp} {T : List Addr} {v : V} {d : M.D} {ds : List M.D} {Q : VK}, Same F H -> Fz X.K F T v d -> f d = some (.lst ds) -> (∀ l ws, H l = none -> FzA X.K F T ws ds -> Q (.ref l) (upd H l (.lst ws))) -> r [v] H Q)
    (hg : Gl X x) (hm : X.mg x = none) (hv : bootBuiltins x = some (.type id)) (ha : SE X W a ma) (hn : x ≠ "__name__" := by decide) (hdb : (x == ("__debug__" : Str)) = false := by decide)
    (he : starEach [a] X.env = (false, eval a X.env) :: starEach [] X.env := by rfl) (hpl : (backTo pos (starEach [] X.env)).any (·.1) = false := by rfl) : SO X W (.Call (.Name x p) [a] [] pos) (M.lj' (M.eUn f ma)) :=
  PE.imp (pe_callTy hc hg hm hv (pa_cons ha pa_nil he) hn hdb he hpl) fun σ H Q ⟨ρ, F, T, fr, rel, h⟩ => by
    have h0 := aZ'.bind h
    refine ay' rel h0 fun dx ρ1 v H1 F1 T1 e1 z1 r1 h1 => ?_
    obtain ⟨dz, ez, q⟩ := aZ'.ofO h1
    cases dz <;> try exact q.elim
    rename_i ds
    obtain ⟨fp, f1, _⟩ := r1.fp
    refine hf f1.low z1 ez fun l ws hl zw => ?_
    exact q (.ref l) _ F1 T1 _ e1 (.lst (RpA.of_fz zw)) (r1.own hl)
theorem tg' {K : PySem.W.Frag} {F H : Hp} {T : List Addr} {v : V} {d : M.D} {ds : List M.D} {Q : VK} (s : Same F H) (z : Fz K F T v d) (h : M.d9' d = some (.lst ds)) (k : ∀ l ws, H l = none -> FzA K F T ws ds -> Q (.ref l) (upd H l (.lst ws))) : qW' K [v] H Q := by
  cases d <;> try (cases h; done)
  . obtain ⟨rfl, o⟩ := z.str_inv
    cases h
    exact .inr ⟨_, rfl, o.len, fun l hl => k l _ hl (FzA.signs o)⟩
  . obtain ⟨a, vs, rfl, ha, za⟩ := z.tup_inv
    cases h
    exact .inl ⟨a, vs, rfl, .inr (seqT s ha), fun l hl => k l vs hl za⟩
  . obtain ⟨a, vs, rfl, ha, za⟩ := z.lst_inv
    cases h
    exact .inl ⟨a, vs, rfl, .inl (SqL.of (s _ _ ha)), fun l hl => k l vs hl za⟩
theorem FzA.rg {K : PySem.W.Frag} {F : Hp} {T : List Addr} (a b : Int) : FzA K F T (rgV a b) (M.e3' a b) := FzA.of_all fun i => .int _
theorem Bd' {a b : Int} (h : M.RgB a b = true) : RgOk a b := by
  unfold M.RgB at h
  simp only [Bool.and_eq_true, decide_eq_true_eq] at h
  exact ⟨h.1.1.1.1, h.1.1.1.2, h.1.1.2, h.1.2, h.2⟩
theorem oo' {q : Pos} (hc : X.calm = true) (hg : Gl X "list") (hm : X.mg "list" = none) (hg2 : Gl X "range") (hm2 : X.mg "range" = none) (ha : SE X W a ma)
    (na2 : starEach [a] X.env = (false, eval a X.env) :: starEach [] X.env := by rfl) (na : starEach [.Call (.Name "range" q) [a] [] pos'] X.env = (false, eval (.Call (.Name "range" q) [a] [] pos') X.env) :: starEach [] X.env := by rfl) :
    SO X W (.Call (.Name "list" p) [.Call (.Name "range" q) [a] [] pos'] [] pos) (M.lj' (M.eUn M.eR' ma)) :=
  PE.imp (pe_listRg hc hg hm (prg_1 hg2 hm2 ha na2) na) fun σ H Q ⟨ρ, F, T, fr, rel, h⟩ => by
    have h0 := aZ'.bind h
    refine ay' rel h0 fun dx ρ1 v H1 F1 T1 e1 z1 r1 h1 => ?_
    obtain ⟨dz, ez, q⟩ := aZ'.ofO h1
    unfold M.eR' at ez
    split at ez
    . split at ez
      . rename_i hr
        cases ez
        refine ⟨_, z1.int_inv, Bd' hr, fun l hl => ?_⟩
        exact q (.ref l) _ F1 T1 _ e1 (.lst (RpA.of_fz (FzA.rg _ _))) (r1.own hl)
      . cases ez
    . cases ez
theorem RpA.erase {K : PySem.W.Frag} {F : Hp} {T : List Addr} {y : M.D} : ∀ {os : List M.O} {vs : List V} {f2 : Fp} {j : Nat}, RpA K F T vs os f2 -> os[j]? = some (.fz y) -> ∃ v, vs[j]? = some v /\ Fz K F T v y /\ RpA K F T (vs.eraseIdx j) (os.eraseIdx j) f2
  | [], _, _, _, r, h => by cases h
  | o :: os, _, _, 0, r, h => by
    cases r with
    | cons r0 r =>
      cases h
      cases r0 with
      | fz z => exact ⟨_, rfl, z, r⟩
  | o :: os, _, _, j + 1, r, h => by
    cases r with
    | cons r0 r =>
      obtain ⟨v, h1, h2, h3⟩ := RpA.erase (j := j) r h
      exact ⟨v, h1, h2, .cons r0 h3⟩
theorem sQ' {n : Nat} {nm : Str} {px apos : Pos} (hv : PE X (.Name nm px) (tVar n)) (ha : SE X W a ma)
    (hbase : attributeBase (.Name nm px) "pop" X.env (eval (.Name nm px) X.env) = eval (.Name nm px) X.env := by rfl)
    (hfew : ((backTo pos (starEach [a] X.env)).all (fun x => !x.1) && (backToKw pos (keywordEach [] X.env)).all (fun x => x.1.isSome)
      && decide ([a].length + ([] : List Keyword).length + (if ([] : List Keyword).isEmpty then 0 else 1) < 30)) = true := by rfl)
    (hline : (apos.endLine == pos.line) = true := by rfl) (hs : starEach [a] X.env = (false, eval a X.env) :: starEach [] X.env := by rfl) (hplain : (backTo pos (starEach [] X.env)).any (·.1) = false := by rfl) :
    SE X W (.Call (.Attribute (.Name nm px) "pop" apos) [a] [] pos) (M.kI' n ma) :=
  PE.imp (pe_bm PySem.F.plainAttrs_list PySem.F.slot_list_pop PySem.F.type_list_pop mt_popAt hv (pa_cons ha pa_nil hs) hbase hfew hline hs hplain) fun σ H Q ⟨ρ, F, T, fr, rel, h⟩ => by
    unfold M.kI' at h
    split at h
    . rename_i os0 e0
      obtain ⟨fe, fw, re, rw, ff⟩ := id rel
      obtain ⟨v, f1, f2, f3, h1, _, h3, _⟩ := re.get e0
      cases h3 with
      | @lst p vs0 _ fp0 r0 =>
        obtain ⟨vs1, f21, hH, _, _⟩ := rel.slotW e0 h1
        refine ⟨.ref p, h1, .inl ⟨rfl, vs1, SqL.of hH⟩, ay' rel h fun d ρ1 u H1 F1 T1 e1 z1 r1 h2 => ?_⟩
        split at h2
        . rename_i os z e2
          split at h2
          . rename_i j ej
            split at h2
            . rename_i y ey
              cases z1
              obtain ⟨vs, f2', hH2, r2, back⟩ := r1.slotW e2 h1
              obtain ⟨vy, g1, g2, g3⟩ := RpA.erase r2 ey
              split at ej
              . rename_i hl
                have hlen : vs.length <= M.dq' := by rw [r2.length]; exact hl
                have ej' : ixN vs.length z = some j := by rw [r2.length]; exact ej
                obtain ⟨q1, q2, q3, q4⟩ := ixN_seq ej'
                have hlen' : vs.length <= 16777216 := hlen
                exact ⟨p, vs, z, j, vy, rfl, rfl, hH2, by omega, by omega, q1, g1, h2 vy _ F1 T1 e1 g2 (back _ _ f2' fr g3 .refl)⟩
              . cases ej
            . exact h2.elim
          . exact h2.elim
        . exact h2.elim
    . exact h.elim
end
end S
namespace S
open PySem PySem.Spec PyProof.Rows L2
variable [Wd] [Hot]
section
variable {X : Cx} {W : WX} {K : PySem.W.Frag} {D : Ends} {σ : St} {H : Hp} {F : Hp} {T : List Addr} {fr : Fp}
abbrev Hm := List ((String -> Option Bool) × (M.Exc -> M.MS))
def tsM (K : PySem.W.Frag) (h : M.Exc -> M.MS) : Addr -> Value -> Option Addr -> TS := fun _ cls _ D σ H => ∃ e : M.Exc, cls = .ref (He.ga K e.cls) /\ qS K W0 (h e) D σ H
inductive HdsM (X : Cx) : List ExceptHandler -> Hm -> List (Value × (Addr -> Value -> Option Addr -> TS)) -> Prop
  | nil : HdsM X [] [] []
  | cons {x : Str} {c : Value} {g : String -> Option Bool} {h : M.Exc -> M.MS} {b₀ : Stmt} {suite : List Stmt} {np pos' : Pos} {hds : List ExceptHandler} {l : Hm} {l' : List (Value × (Addr -> Value -> Option Addr -> TS))} (hc : Names X x c)
      (hg : ∀ y b, g y = some b -> PySem.W.exmOne X.K (.ref (He.ga X.K y)) c = some b)
      (hsu : ∀ (e : M.Exc) (a : Addr) (oe : Obj) (d : Option Addr) (pn : List (Addr × Obj)), Zc (.ref (He.ga X.K e.cls)) d oe -> (∃ vs, oe.data = .fields vs) -> SSs (X.suite a ((a, oe) :: pn)) W0 (b₀ :: suite) (h e)) (r : HdsM X hds l l') :
      HdsM X (.ExceptHandler (some (.Name x np)) none (b₀ :: suite) pos' :: hds) ((g, h) :: l) ((c, tsM X.K h) :: l')
theorem nk' {h : M.Exc -> M.MS} {b : List Stmt} (hsu : ∀ (e : M.Exc) (a : Addr) (oe : Obj) (d : Option Addr) (pn : List (Addr × Obj)), Zc (.ref (He.ga X.K e.cls)) d oe -> (∃ vs, oe.data = .fields vs) -> SSs (X.suite a ((a, oe) :: pn)) W0 b (h e)) :
    ∀ (a : Addr) (oe : Obj) (cls : Value) (d : Option Addr) (pn : List (Addr × Obj)), Zc cls d oe -> (∃ vs, oe.data = .fields vs) -> PSs (X.suite a ((a, oe) :: pn)) b (tsM X.K h a cls d) := by
  intro a oe cls d pn hz hf
  refine ⟨fun pins s σ H D I q => ?_⟩
  obtain ⟨e, rfl, q⟩ := q
  exact (hsu e a oe d pn hz hf).run pins s σ H D I q
theorem HdsM.ok {hds : List ExceptHandler} {l : Hm} {l' : List (Value × (Addr -> Value -> Option Addr -> TS))} (h : HdsM X hds l l') : HdsOk X hds l' := by
  induction h with
  | nil => exact .nil
  | cons hc hg hsu r ih => exact .cons hc (nk' hsu) ih
theorem bw'.noX {r : M.Out} (h : bw' K W D F T fr (M.te' r)) : bw' K W0 D F T fr r := by
  cases r with
  | exc x ρ => exact h.elim
  | nx ρ => exact h
  | bk ρ => exact h
  | ct ρ => exact h
  | rt o w => exact h
  | bad => exact h
theorem Rel.off {K : PySem.W.Frag} {ρ : M.PSt} (r : Rel K ρ σ H F T fr) (i : Nat) (x : Option V) : Rel K ⟨ρ.env.set i none, ρ.w⟩ (σ.set i x) H F T fr := by
  obtain ⟨fe, fw, re, rw, f⟩ := r
  obtain ⟨fq, h1, h2⟩ := re.drop i x
  exact ⟨fq, fw, h1, rw, f.part (.app h2 .refl)⟩
end
def z9' (K : PySem.W.Frag) (t : M.ET) : Prop := ∀ e ∈ t, PySem.W.exmOne K (.ref (He.ga K e.1)) (.ref (He.ga K e.2.1)) = some e.2.2
theorem uv' {K : PySem.W.Frag} : ∀ {t : M.ET} (h : z9' K t) {y c : String} {b : Bool}, M.sub t y c = some b -> PySem.W.exmOne K (.ref (He.ga K y)) (.ref (He.ga K c)) = some b
  | [], _, _, _, _, e => by cases e
  | (a, b', r) :: t, h, y, c, b, e => by
    unfold M.sub at e
    split at e
    . rename_i q
      obtain ⟨rfl, rfl⟩ := q
      cases e
      exact h _ List.mem_cons_self
    . exact uv' (fun e he => h e (List.mem_cons_of_mem _ he)) e
def t0' (K : PySem.W.Frag) (t : M.ET) : Prop := ∀ e ∈ t, ExcC K (He.ga K e.1) /\ PySem.W.kitOne K (.ref (He.ga K e.1)) (.ref (He.ga K e.2.1)) = some e.2.2
theorem uM' {K : PySem.W.Frag} : ∀ {t : M.ET} (h : t0' K t) {y c : String} {b : Bool}, M.sub t y c = some b -> ExcC K (He.ga K y) /\ PySem.W.kitOne K (.ref (He.ga K y)) (.ref (He.ga K c)) = some b
  | [], _, _, _, _, e => by cases e
  | (a, b', r) :: t, h, y, c, b, e => by
    unfold M.sub at e
    split at e
    . rename_i q
      obtain ⟨rfl, rfl⟩ := q
      cases e
      exact h _ List.mem_cons_self
    . exact uM' (fun e he => h e (List.mem_cons_of_mem _ he)) e
end S
namespace S
open PySem PySem.Spec PyProof.Rows L2
variable [Wd] [Hot]
section
variable {X : Cx} {W : WX} {pos p : Pos} {a b e : Expr} {st : Stmt} {es : List Expr} {ma mb : M.ME} {as : M.MA}
theorem sM' {i : Nat} (h : PE X e (tVar i)) : SO X W e (M.oV i) := PE.imp h fun σ H Q ⟨ρ, F, T, fr, rel, h⟩ => by
  unfold M.oV at h
  split at h
  . rename_i d e
    obtain ⟨fe, fw, re, rw, f⟩ := id rel
    obtain ⟨v, f1, f2, f3, h1, rfl, h3, h4, h5⟩ := re.get e
    cases h3 with
    | fz z => exact ⟨v, h1, h v H F T [] .refl (.fz z) rel⟩
  . exact h.elim
  . exact h.elim
  . rename_i o _ hne hnc e
    obtain ⟨fe, fw, re, rw, f⟩ := rel
    obtain ⟨v, f1, f2, f3, h1, rfl, h3, h4, h5⟩ := re.get e (M.dt' (fun z => hne (by rw [z])) fun z => hnc (by rw [z]))
    refine ⟨v, h1, h v H F T f2 .refl h3 ⟨_, fw, h4, rw, f.part ?_⟩⟩
    constructor
    . intro e h
      simp only [List.mem_append] at *
      grind
    . intro x
      simp only [keys, List.map_append, List.count_append] at *
      omega
  . exact h.elim
theorem fY' (h : SA X W es as) : SO X W (.List es pos) (M.lj' (M.lk' as)) := PE.imp (pe_lst h) fun σ H Q ⟨ρ, F, T, fr, rel, h⟩ => by
  have h0 := aZ'.bind h
  refine c8' rel h0 fun ds ρ1 vs H1 F1 T1 e1 z1 r1 h1 => ?_
  split at h1
  . rename_i hl
    refine ⟨by rw [z1.length, bM']; exact hl, fun p hp => ?_⟩
    exact h1 (.ref p) _ F1 T1 _ e1 (.lst (RpA.of_fz z1)) (r1.own hp)
  . exact h1.elim
theorem ln' : SS X W st M.Ak' := ⟨fun _ _ _ _ _ _ ⟨_, _, _, _, _, h⟩ => h.elim⟩
end
section
variable {K : PySem.W.Frag} {F : Hp} {T : List Addr}
end
section
variable {X : Cx} {W : WX} {pos p tpos : Pos} {a : Expr} {ma : M.ME} {σ : St} {H : Hp} {elts : List Expr} {kk : Nat}
end
theorem y6' {K : PySem.W.Frag} {F : Hp} {T : List Addr} {x : Str} {s : M.Tx} (hs : x = sx s) (ho : As' s = true) : Fz K F T (.str x) (.str s) := by subst hs; exact .str (uI' ho)
end S
namespace S
open PySem PySem.Spec PyProof.Rows L2
variable [Wd] [Hot]
section
variable {X : Cx} {W : WX} {K : PySem.W.Frag} {pos p : Pos} {a b : Expr} {ma : M.ME} {F H : Hp} {T : List Addr}
theorem RpA.datas : ∀ {vs : List V} {os : List M.O} {fp : Fp}, RpA K F T vs os fp -> os.all (fun o => match o with | .fz _ => true | _ => false) = true -> FzA K F T vs (os.map M.frz)
  | _, _, _, .nil, _ => .nil
  | _, _, _, .cons r0 r, h => by
    rw [List.all_cons, Bool.and_eq_true] at h
    cases r0 with
    | fz z => exact .cons z (RpA.datas r h.2)
    | _ => exact absurd h.1 (by simp)
theorem wC' {neg : Bool} {x : V} {dx dz : M.D} {o : M.O} {v : V} {f2 fp : Fp} {Q : VK} (f : FpH F H (f2 ++ fp)) (hx : Fz K F T x dx) (r : Rp K F T v o f2)
    (h : (if neg = true then M.rh' (M.inO dx o) else M.inO dx o) = some dz) (k : ∀ v' H' F' , Same F F' -> Fz K F' T v' dz -> FpH F' H' (f2 ++ fp) -> Q v' H') : (if neg = true then iX' K x v H Q else Am' K x v H Q) := by
  cases r with
  | @fz v d z =>
    cases neg with
    | false =>
      rw [if_neg Bool.false_ne_true] at h ⊢
      exact xt' f hx z h k
    | true =>
      rw [if_pos rfl] at h ⊢
      refine g3' f hx z (dz := dz) ?_ k
      unfold M.eQ'
      cases e : M.pIn dx d with
      | none => simp [M.inO, e, M.rh'] at h
      | some y =>
        simp only [M.inO, e] at h
        cases y <;> first | exact h | cases h
  | @lst pa vs os fp0 r =>
    have hH : H pa = some (.lst vs) := (f.at_ (pa, .lst vs) (by simp)).1
    have main : ∀ {dz : M.D}, M.inO dx (.lst os) = some dz -> ∃ ds, M.sca dx = true /\ ds.all M.sca = true /\ FzA K F T vs ds /\ dz = .bl (ds.any fun d => M.eqb d dx) := by
      intro dz h
      have h : (if os.all (fun o => match o with | .fz _ => true | _ => false) = true then M.pIn dx (.lst (os.map M.frz)) else none) = some dz := h
      split at h
      . rename_i hd
        rcases jj' h with ⟨c, s, _, e, _⟩ | ⟨ds, e, h1, h2, h3⟩
        . cases e
        . rcases e with e | e
          . cases e
            exact ⟨_, h1, h2, r.datas hd, h3⟩
          . cases e
      . cases h
    cases neg with
    | false =>
      rw [if_neg Bool.false_ne_true] at h ⊢
      obtain ⟨ds, h1, h2, za, rfl⟩ := main h
      obtain ⟨e1, e2⟩ := lO' hx h1 za h2
      refine .inr (.inl ⟨pa, vs, rfl, .inl (SqL.of hH), iq' hx h1, e2, ?_⟩)
      rw [if_neg Bool.false_ne_true, e1]
      exact k _ H F (fun _ _ e => e) (.bl _) f
    | true =>
      rw [if_pos rfl] at h ⊢
      cases e : M.inO dx (.lst os) with
      | none => rw [e] at h; cases h
      | some y =>
        obtain ⟨ds, h1, h2, za, rfl⟩ := main e
        rw [e] at h
        cases h
        obtain ⟨e1, e2⟩ := lO' hx h1 za h2
        refine .inr (.inl ⟨pa, vs, rfl, .inl (SqL.of hH), iq' hx h1, e2, ?_⟩)
        rw [if_pos rfl, e1]
        exact k _ H F (fun _ _ e => e) (.bl _) f
  | tup r => cases neg <;> cases h
  | dct _ r => cases neg <;> cases h
  | dcl _ r => cases neg <;> cases h
  | dcn _ _ r => cases neg <;> cases h
theorem tu' {neg : Bool} {i : Nat} {σ : St} {H : Hp} {Q : VK} (h : qE K W (if neg = true then M.fJ' i ma else M.Dw' i ma) σ H Q) : tOp (fun x y H Q => if neg = true then iX' K x y H Q else Am' K x y H Q) (qE K W ma) (tVar i) σ H Q := by
  obtain ⟨ρ, F, T, fr, rel, h⟩ := h
  have h' : aZ' ((ma ρ).bind fun x ρ1 => match ρ1.env[i]? with
    | some (some o) => M.ofO (if neg = true then M.rh' (M.inO x o) else M.inO x o) ρ1
    | _ => .bad) (fun d ρ' => ∀ v H' F' T', Ext F T F' T' -> Fz K F' T' v d -> Rel K ρ' σ H' F' T' fr -> Q v H') (EX K W σ F T fr) := by
    cases neg <;> exact h
  refine ay' rel h' fun dx ρ1 v H1 F1 T1 e1 z1 r1 h1 => ?_
  split at h1
  . rename_i o e
    obtain ⟨dz, ez, q⟩ := aZ'.ofO h1
    obtain ⟨fe, fw, re, rw, f⟩ := r1
    obtain ⟨u, f1, f2, f3, g1, rfl, g3, g4, g5⟩ := re.get e (M.dt' (fun z => by rw [z] at ez; cases neg <;> exact nomatch (show (none : Option M.D) = some dz from ez)) fun z => by rw [z] at ez; cases neg <;> exact nomatch (show (none : Option M.D) = some dz from ez))
    refine ⟨u, g1, ?_⟩
    have f' : FpH F1 H1 (f2 ++ (f1 ++ (f3 ++ (fw ++ fr)))) := f.part (by
      constructor
      . intro e h
        simp only [List.mem_append] at *
        grind
      . intro x
        simp only [keys, List.map_append, List.count_append] at *
        omega)
    refine wC' f' z1 g3 ez fun v' H' F' s zz ff => ?_
    refine q v' H' F' T1 (e1.trans (.of s)) zz ⟨_, fw, re.mono (.of s), rw.mono (.of s), ff.part ?_⟩
    constructor
    . intro e h
      simp only [List.mem_append] at *
      grind
    . intro x
      simp only [keys, List.map_append, List.count_append] at *
      omega
  . exact h1.elim
end
def xu' [Wd] (H : Hp) : Hp := fun b => if b ∈ Wd.ts.map (·.1) then none else H b
theorem ri' [Wd] (H : Hp) : Same (xu' H) H := fun b o h => by
  unfold xu' at h
  split at h
  . cases h
  . exact h
theorem rj' [Wd] {H : Hp} (hT : ∀ p ∈ Wd.ts, H p.1 = some (.tbl #[])) {b : Addr} {o : HO} (h : H b = some o) (ho : o ≠ .tbl #[]) : xu' H b = some o := by
  unfold xu'
  rw [if_neg fun z => ?_]
  . exact h
  . obtain ⟨p, hp, e⟩ := List.mem_map.mp z
    have := hT p hp
    rw [e, h] at this
    exact ho (Option.some.inj this)
theorem tf' [Wd] {K : PySem.W.Frag} {H : Hp} (hT : ∀ p ∈ Wd.ts, H p.1 = some (.tbl #[])) {a : Addr} {vs : List V} (h : SqL K H a vs) : SqL K (xu' H) a vs := by
  rcases h with (h | ⟨o, h⟩) | h
  . exact .inl (.inl (rj' hT h (by intro z; cases z)))
  . exact .inl (.inr ⟨o, rj' hT h (by intro z; cases z)⟩)
  . exact .inr h
theorem rE' [Wd] (K : PySem.W.Frag) (H : Hp) (hT : ∀ p ∈ Wd.ts, H p.1 = some (.tbl #[])) (a : Addr) (ns : List Int) (hn : ns.length <= 63) (hs : SqL K H a (ns.map V.int)) {m : M.MF} (h : ∀ ns : List Int, ns.length <= 63 -> ∃ w, m [.scr (ns.map .int)] [] = .ok (.fz (.bl true)) w) :
    spM K m [.ref a] H (fun v _ => v = .bl true) L2.E0 := by
  obtain ⟨w, e⟩ := h ns hn
  refine ⟨[.scr (ns.map .int)], [], xu' H, [], [], .cons (.scr (tf' hT hs) (FzA.rgI ns)) .nil, ⟨[], [], xv', .nil, ⟨ri' H, fun _ h => (nomatch h), .nil, fun p hp => ⟨if_pos (List.mem_map_of_mem hp), fun _ h => (nomatch h), #[], hT p hp, True.intro, fun pos cv hc => ?_⟩⟩⟩, ?_⟩
  . have z : codeAmong pos [] = some cv := hc
    simp [codeAmong] at z
  rw [e]
  intro v H' F' T' fp _ z _
  cases z with
  | fz z => exact z.bl_inv
end S
namespace S
open PySem PySem.Spec PyProof.Rows L2
variable [Wd] [Hot]
section
variable {X : Cx} {W : WX} {K : PySem.W.Frag} {cpos apos p : Pos} {name : Str} {id T : String} {o e : Expr} {es : List Expr} {mo : M.ME} {as : M.MA} {σ : St} {H : Hp} {Q : VK}
end
end S
namespace S
open PySem PySem.Spec PyProof.Rows L2
variable [Wd] [Hot]
section
variable {X : Cx} {W : WX} {K : PySem.W.Frag}
theorem FzA.two {F : Hp} {T : List Addr} {xs : List V} {d e : M.D} (h : FzA K F T xs [d, e]) : ∃ v u, xs = [v, u] /\ Fz K F T v d /\ Fz K F T u e := by
  cases h with
  | cons a r =>
    cases r with
    | cons b r => cases r; exact ⟨_, _, rfl, a, b⟩
end
end S
namespace S
open PySem PySem.Spec PyProof.Rows L2
variable [Wd] [Hot]
section
variable {P : Program} {w : World} {K : PySem.W.Frag} {mg : Str -> Option Value} {base : Heap}
end
section
variable {X : Cx} {W : WX} {K : PySem.W.Frag}
end
end S
namespace S
open PySem PySem.Spec PyProof.Rows L2
variable [Wd] [Hot]
local macro_rules | `(tactic| walk_at "parts") => `(tactic| (constructor; (intro e h; simp only [List.mem_append, List.mem_cons, List.not_mem_nil] at *; grind); (intro x; simp only [keys, List.map_append, List.map_cons, List.map_nil, List.count_append, List.count_cons, List.count_nil] at *; omega)))
section
variable {K : PySem.W.Frag} {F F' H H' : Hp} {T T' : List Addr} {fp fq fr : Fp} {ρ : M.PSt} {σ : St} {W : WX} {Q : VK}
theorem kC' {d : M.D} (h : M.isK d = true) : ∃ k, BA' d = some k := by cases d <;> first | exact ⟨_, rfl⟩ | (cases h)
theorem RpA.dget {vs : List V} {os : List M.O} {ks : List M.D} {dk : M.D} (h : RpA K F T vs os fp) : (M.dget ks vs dk).isSome = (M.dget ks os dk).isSome /\ ∀ d, M.dget ks os dk = some (.fz d) -> ∃ u, M.dget ks vs dk = some u /\ Fz K F T u d := by
  unfold M.dget
  cases M.gB' ks dk with
  | none => exact ⟨rfl, fun d e => nomatch e⟩
  | some j =>
    simp only [Option.bind_some]
    refine ⟨?_, fun d e => h.get e⟩
    rw [Bool.eq_iff_iff, Option.isSome_iff_exists, Option.isSome_iff_exists]
    constructor
    . rintro ⟨x, e⟩
      exact ⟨_, List.getElem?_eq_getElem (h.length ▸ (List.getElem?_eq_some_iff.mp e).1)⟩
    . rintro ⟨x, e⟩
      exact ⟨_, List.getElem?_eq_getElem (h.length ▸ (List.getElem?_eq_some_iff.mp e).1)⟩
theorem io' {kvs : List (Key × V)} (k : Key) : Paired (fun p d => M.eqb d (kD k) = decide (p.1 = k)) kvs (kvs.map fun p => kD p.1) := by
  induction kvs with
  | nil => exact .nil
  | cons p kvs ih => exact .cons (uT' p.1 k) ih
theorem gC' {ks : List M.D} {k : M.D} (h : M.rH' ks k = true) : M.kat k = true /\ M.dep k <= 8 /\ ∀ d ∈ ks, M.sca d = M.sca k := by
  unfold M.rH' at h
  rw [Bool.and_eq_true, Bool.and_eq_true, decide_eq_true_iff, List.all_eq_true] at h
  exact ⟨h.1.1, h.1.2, fun d hd => by simpa using h.2 d hd⟩
theorem u2' {xs : List (NestedKey × Addr × V)} {ks : List M.D} (s : Same F H) (n : NestKeys ks xs) (z : FzA K F T (xs.map fun x => .ref x.2.1) ks) : xl' K H xs := by
  obtain ⟨e, q⟩ := n
  induction xs generalizing ks with
  | nil => exact fun _ z => nomatch z
  | cons x xs ih =>
    cases z with
    | @cons _ _ d ds z1 z2 =>
      simp only [List.map_cons, List.cons.injEq] at e
      obtain ⟨q1, q2, q3⟩ := q d (by simp)
      intro y hy
      rcases List.mem_cons.mp hy with rfl | hy
      . have := z1.nk s q1
        rw [<- e.1] at this
        refine ⟨this, ?_⟩
        rw [e.1, ja' d q1]
        exact q2
      . exact ih z2 e.2 (fun d hd => q d (by simp [hd])) y hy
theorem nx' {y : V} {dk : M.D} (z : Fz K F T y dk) (h1 : M.kat dk = true) (h2 : M.sca dk = false) : ∃ b, y = .ref b := by
  cases z with
  | tup _ _ => exact ⟨_, rfl⟩
  | non => cases h2
  | bl _ => cases h2
  | int _ => cases h2
  | str _ => cases h2
  | _ => cases h1
theorem nO' {y : V} {dk : M.D} (s : Same F H) (z : Fz K F T y dk) (h1 : M.kat dk = true) (h3 : M.dep dk <= 8) : NkV K H y (nk dk) /\ (nk dk).depth <= 8 := ⟨z.nk s h1, by rw [ja' dk h1]; exact h3⟩
theorem gG' {xs : List (NestedKey × Addr × V)} {ks : List M.D} {dk : M.D} (n : NestKeys ks xs) (h : M.kat dk = true) : Paired (fun p d => M.eqb d dk = decide (p.1 = nk dk)) (xsV xs) ks := by
  refine gX' (g := nk) ?_ fun d hd => rS' (n.s d hd).1 h
  rw [xsV, List.map_map]
  exact n.e
theorem lL' {kvs : List (Leaf × V)} {ks : List M.D} {dk : M.D} (n : LeafKeys ks (kvs.map (·.1))) (h : M.sca dk = true) : Paired (fun p d => M.eqb d dk = decide (p.1 = lfD dk)) kvs ks :=
  gX' (g := lfD) n.e fun d hd => zc' (n.s d hd) h
def Ans (K : PySem.W.Frag) (F : Hp) (T : List Addr) (ov : Option V) (r : Option M.O) : Prop := ov.isSome = r.isSome /\ ∀ d, r = some (.fz d) -> ∃ u, ov = some u /\ Fz K F T u d
theorem kw' {a : Addr} {kvs : List (Leaf × V)} {ks : List M.D} {os : List M.O} {y : V} {dk : M.D} (s : Same F H) (hH : Rd H a (dcL a kvs)) (n : LeafKeys ks (kvs.map (·.1))) (ra : RpA K F T (kvs.map (·.2)) os fp)
    (zk : Fz K F T y dk) (hf : M.rH' ks dk = true) : ∃ ov, DLk K H a y ov /\ Ans K F T ov (M.dget ks os dk) := by
  obtain ⟨h1, h2, h3⟩ := gC' hf
  cases hs : M.sca dk with
  | true =>
    refine ⟨_, .l hH (zk.lf hs), ?_⟩
    rw [ei' (lL' n hs)]
    exact ra.dget
  | false =>
    have e : ks = [] := by
      cases ks with
      | nil => rfl
      | cons d ks => have q1 := h3 d (by simp); rw [n.s d (by simp), hs] at q1; cases q1
    subst e
    have e2 : kvs = [] := by have := congrArg List.length n.e; simpa using this
    subst e2
    obtain ⟨b, rfl⟩ := nx' zk h1 hs
    obtain ⟨q1, q2⟩ := nO' s zk h1 h2
    exact ⟨none, .ln hH q1 q2, rfl, fun d e => nomatch e⟩
theorem kq' {a : Addr} {xs : List (NestedKey × Addr × V)} {ks : List M.D} {os : List M.O} {y : V} {dk : M.D} (s : Same F H) (hH : Rd H a (dcN a xs)) (n : NestKeys ks xs) (zx : FzA K F T (xs.map fun x => .ref x.2.1) ks)
    (ra : RpA K F T (xs.map (·.2.2)) os fp) (zk : Fz K F T y dk) (hf : M.rH' ks dk = true) : ∃ ov, DLk K H a y ov /\ Ans K F T ov (M.dget ks os dk) := by
  obtain ⟨h1, h2, h3⟩ := gC' hf
  cases hs : M.sca dk with
  | true =>
    have e : ks = [] := by
      cases ks with
      | nil => rfl
      | cons d ks => have q1 := h3 d (by simp); rw [(n.s d (by simp)).2.2, hs] at q1; cases q1
    subst e
    have e2 : xs = [] := by have := congrArg List.length n.e; simpa using this
    subst e2
    exact ⟨none, .nl hH (zk.lf hs), rfl, fun d e => nomatch e⟩
  | false =>
    obtain ⟨b, rfl⟩ := nx' zk h1 hs
    obtain ⟨q1, q2⟩ := nO' s zk h1 h2
    refine ⟨_, .n hH (u2' s n zx) q1 q2, ?_⟩
    rw [ei' (gG' n h1)]
    have e : (xsV xs).map (·.2) = xs.map (·.2.2) := by rw [xsV, List.map_map]; rfl
    rw [e]
    exact ra.dget
theorem nU' {a : Addr} {kvs : List (Key × V)} {os : List M.O} {y : V} {dk : M.D} (hH : Rd H a (.dK kvs)) (ra : RpA K F T (kvs.map (·.2)) os fp) (zk : Fz K F T y dk) (hf : M.isK dk = true) :
    ∃ ov, DLk K H a y ov /\ Ans K F T ov (M.dget (kvs.map fun p => kD p.1) os dk) := by
  obtain ⟨k, hk⟩ := kC' hf
  have e := kz' zk hk
  subst e
  have e2 := g7' hk
  subst e2
  refine ⟨_, .k k hH, ?_⟩
  rw [ei' (io' k)]
  exact ra.dget
theorem nN' {v : V} {k : Key} (z : Fz K F T v (kD k)) : okK k := by
  cases k with
  | inl i => exact True.intro
  | inr x =>
    obtain ⟨_, o⟩ := Fz.str_inv (s := x.cps.toList) z
    exact o
theorem ru' {v : V} {o : M.O} {y : V} {dk : M.D} {r : Option M.O} (f : FpH F H (fp ++ fr)) (q : Rp K F T v o fp) (zk : Fz K F T y dk) (e : M.cu' o dk = some r) : ∃ a ov, v = .ref a /\ DLk K H a y ov /\ Ans K F T ov r := by
  cases q with
  | fz z =>
    rename_i d
    cases d <;> try (cases e; done)
    . cases z with
      | dct h _ z =>
        simp only [M.cu'] at e
        split at e
        . rename_i hk
          cases e
          obtain ⟨ov, g1, g2⟩ := nU' (f4' f.low h) (.of_fz z) zk hk
          exact ⟨_, ov, rfl, g1, g2⟩
        . cases e
    . simp only [M.cu'] at e
      split at e
      . rename_i hk
        cases e
        cases z with
        | dcl h n z =>
          obtain ⟨ov, g1, g2⟩ := kw' f.low (f4' f.low h) n (.of_fz z) zk hk
          exact ⟨_, ov, rfl, g1, g2⟩
        | dcn h n zx z =>
          obtain ⟨ov, g1, g2⟩ := kq' f.low (f4' f.low h) n zx (.of_fz z) zk hk
          exact ⟨_, ov, rfl, g1, g2⟩
      . cases e
  | lst _ => cases e
  | tup _ => cases e
  | @dct p kvs os fp0 _ ra =>
    simp only [M.cu'] at e
    split at e
    . rename_i hk
      cases e
      obtain ⟨ov, g1, g2⟩ := nU' (.inl (f.at_ (p, .dK kvs) (by simp)).1) ra zk hk
      exact ⟨_, ov, rfl, g1, g2⟩
    . cases e
  | @dcl p kvs ks os fp0 n ra =>
    simp only [M.cu'] at e
    split at e
    . rename_i hk
      cases e
      obtain ⟨ov, g1, g2⟩ := kw' f.low (.inl (f.at_ (p, dcL p kvs) (by simp)).1) n ra zk hk
      exact ⟨_, ov, rfl, g1, g2⟩
    . cases e
  | @dcn p xs ks os fp0 n zx ra =>
    simp only [M.cu'] at e
    split at e
    . rename_i hk
      cases e
      obtain ⟨ov, g1, g2⟩ := kq' f.low (.inl (f.at_ (p, dcN p xs) (by simp)).1) n zx ra zk hk
      exact ⟨_, ov, rfl, g1, g2⟩
    . cases e
def Put (K : PySem.W.Frag) (F H : Hp) (T : List Addr) (a : Addr) (y v : V) (h0 : HO) (f0 : Fp) (o' : M.O) (fv : Fp) : Prop :=
  H a = some h0 /\ ∀ N : Hp -> Prop, (∀ h1 f1, Rp K F T (.ref a) o' ((a, h1) :: f1) -> Part f1 (f0 ++ fv) -> N (upd H a h1)) -> DSt K H a y v N
theorem RpA.setO {v : V} {o : M.O} {fv : Fp} (zd : Rp K F T v o fv) : ∀ {os : List M.O} {vs : List V} {f2 : Fp} (j : Nat), RpA K F T vs os f2 -> ∃ f2', RpA K F T (vs.set j v) (os.set j o) f2' /\ Part f2' (f2 ++ fv)
  | [], _, _, _, .nil => ⟨[], .nil, .nil⟩
  | _ :: os, _, _, 0, .cons (fp := fa) (fq := fb) r0 r => ⟨_, RpA.cons zd r, by walk_at "parts"⟩
  | _ :: os, _, _, j + 1, .cons (fp := fa) (fq := fb) r0 r => by
    obtain ⟨f2', q1, q2⟩ := RpA.setO zd j r
    refine ⟨_, .cons r0 q1, ?_⟩
    rw [List.append_assoc]
    exact .app .refl q2
theorem dU' {α : Type} {ks ks' : List M.D} {os os' : List α} {k : M.D} {o : α} (h : M.nD' ks os k o = some (ks', os')) : (∃ j, M.gB' ks k = some j /\ ks' = ks /\ os' = os.set j o) \/ (M.gB' ks k = none /\ ks.length < M.dq' /\ ks' = ks ++ [k] /\ os' = os ++ [o]) := by
  unfold M.nD' at h
  split at h
  . rename_i j e
    cases h
    exact .inl ⟨j, e, rfl, rfl⟩
  . rename_i e
    split at h
    . rename_i hl
      cases h
      exact .inr ⟨e, hl, rfl, rfl⟩
    . cases h
theorem im' {kvs kvs' : List (Key × V)} (h : kvs'.map (·.1) = kvs.map (·.1)) : (kvs'.map fun p => kD p.1) = kvs.map fun p => kD p.1 := by
  have := congrArg (List.map kD) h
  rw [List.map_map, List.map_map] at this
  exact this
theorem yx' {a : Addr} {o o' ov : M.O} {h0 : HO} {f0 fv : Fp} {y v : V} {dk : M.D} (f : FpH F H (((a, h0) :: f0) ++ fr)) (q : Rp K F T (.ref a) o ((a, h0) :: f0)) (zk : Fz K F T y dk) (zv : Rp K F T v ov fv)
    (e : M.fz' o dk ov = some o') : Put K F H T a y v h0 f0 o' fv := by
  have hH : H a = some h0 := (f.at_ (a, h0) (by simp)).1
  have zv' : RpA K F T [v] [ov] (fv ++ []) := .cons zv .nil
  rw [List.append_nil] at zv'
  refine ⟨hH, fun N hN => ?_⟩
  cases q with
  | lst _ => cases e
  | tup _ => cases e
  | @dct _ kvs os _ okk ra =>
    simp only [M.fz'] at e
    split at e
    . rename_i hk
      obtain ⟨k, hk⟩ := kC' hk
      have e1 := kz' zk hk
      subst e1
      have e2 := g7' hk
      subst e2
      cases el : M.nD' (kvs.map fun p => kD p.1) os (kD k) ov with
      | none => rw [el] at e; cases e
      | some p =>
        obtain ⟨ks', os'⟩ := p
        rw [el] at e
        cases e
        rcases dU' el with ⟨j, ej, rfl, rfl⟩ | ⟨ej, hl, rfl, rfl⟩
        . obtain ⟨f2', q1, q2⟩ := RpA.setO zv j ra
          refine .k k hH rfl fun nd => ?_
          obtain ⟨g1, g2⟩ := (c9' (v := v) (io' k) nd).1 j ej
          refine ⟨fun z => by have := congrArg List.length g1; simp only [List.length_map] at this; omega, hN _ f2' ?_ q2⟩
          rw [<- im' g1]
          rw [<- g2] at q1
          exact .dct (okk.fst g1) q1
        . rw [List.length_map] at hl
          refine .k k hH rfl fun nd => ?_
          have g := (c9' (v := v) (io' k) nd).2 ej
          rw [g]
          refine ⟨fun _ => by rw [bM', List.length_append]; simp only [List.length_singleton]; omega, hN _ (f0 ++ fv) ?_ .refl⟩
          have q1 := ra.app zv'
          have e3 : ((kvs.map fun p => kD p.1) ++ [kD k]) = (kvs ++ [(k, v)]).map fun p => kD p.1 := by simp
          rw [e3]
          exact .dct (okk.snoc (nN' zk)) (by simpa using q1)
    . cases e
  | @dcl _ kvs ks os _ n ra =>
    simp only [M.fz'] at e
    split at e
    . rename_i hk
      obtain ⟨h1, h2, h3⟩ := gC' hk
      cases el : M.nD' ks os dk ov with
      | none => rw [el] at e; cases e
      | some p =>
        obtain ⟨ks', os'⟩ := p
        rw [el] at e
        cases e
        cases hs : M.sca dk with
        | true =>
          rcases dU' el with ⟨j, ej, rfl, rfl⟩ | ⟨ej, hl, rfl, rfl⟩
          . obtain ⟨f2', q1, q2⟩ := RpA.setO zv j ra
            refine .l hH (zk.lf hs) fun nd => ?_
            obtain ⟨g1, g2⟩ := (c9' (v := v) (lL' n hs) nd).1 j ej
            refine ⟨fun z => by have := congrArg List.length g1; simp only [List.length_map] at this; omega, hN _ f2' ?_ q2⟩
            rw [<- g2] at q1
            rw [<- g1] at n
            exact .dcl n q1
          . have e4 : kvs.length = ks.length := by have := congrArg List.length n.e; simpa using this
            refine .l hH (zk.lf hs) fun nd => ?_
            have g := (c9' (v := v) (lL' n hs) nd).2 ej
            rw [g]
            refine ⟨fun _ => by rw [bM', List.length_append]; simp only [List.length_singleton]; omega, hN _ (f0 ++ fv) ?_ .refl⟩
            have q1 := ra.app zv'
            refine .dcl ⟨by simp [n.e], fun d hd => ?_⟩ (by simpa using q1)
            rcases List.mem_append.mp hd with hd | hd
            . exact n.s d hd
            . rw [List.mem_singleton.mp hd]; exact hs
        | false =>
          have e5 : ks = [] := by
            cases ks with
            | nil => rfl
            | cons d ks => have q1 := h3 d (by simp); rw [n.s d (by simp), hs] at q1; cases q1
          subst e5
          have e6 : kvs = [] := by have := congrArg List.length n.e; simpa using this
          subst e6
          cases ra
          obtain ⟨b, rfl⟩ := nx' zk h1 hs
          obtain ⟨q1, q2⟩ := nO' f.low zk h1 h2
          rcases dU' el with ⟨j, ej, rfl, rfl⟩ | ⟨ej, hl, rfl, rfl⟩
          . cases ej
          . refine .ln hH rfl q1 q2 (hN _ fv ?_ (.right .refl))
            exact .dcn (xs := [(nk dk, b, v)]) ⟨rfl, fun d hd => by rw [List.mem_singleton.mp hd]; exact ⟨h1, h2, hs⟩⟩ (.cons zk .nil) zv'
    . cases e
  | @dcn _ xs ks os _ n zx ra =>
    simp only [M.fz'] at e
    split at e
    . rename_i hk
      obtain ⟨h1, h2, h3⟩ := gC' hk
      cases el : M.nD' ks os dk ov with
      | none => rw [el] at e; cases e
      | some p =>
        obtain ⟨ks', os'⟩ := p
        rw [el] at e
        cases e
        cases hs : M.sca dk with
        | true =>
          have e5 : ks = [] := by
            cases ks with
            | nil => rfl
            | cons d ks => have q1 := h3 d (by simp); rw [(n.s d (by simp)).2.2, hs] at q1; cases q1
          subst e5
          have e6 : xs = [] := by have := congrArg List.length n.e; simpa using this
          subst e6
          cases ra
          rcases dU' el with ⟨j, ej, rfl, rfl⟩ | ⟨ej, hl, rfl, rfl⟩
          . cases ej
          . refine .nl hH (zk.lf hs) (hN _ fv ?_ (.right .refl))
            exact .dcl (kvs := [(lfD dk, v)]) ⟨rfl, fun d hd => by rw [List.mem_singleton.mp hd]; exact hs⟩ zv'
        | false =>
          obtain ⟨b, rfl⟩ := nx' zk h1 hs
          obtain ⟨q1, q2⟩ := nO' f.low zk h1 h2
          have ev : (xsV xs).map (·.2) = xs.map (·.2.2) := by rw [xsV, List.map_map]; rfl
          have ek : (xsV xs).map (·.1) = xs.map (·.1) := by rw [xsV, List.map_map]; rfl
          have evp : ∀ k b v, (xsV (li' xs k b v)).map (·.2) = (li' xs k b v).map (·.2.2) := fun k b v => by rw [xsV, List.map_map]; rfl
          have ekp : ∀ k b v, (xsV (li' xs k b v)).map (·.1) = (li' xs k b v).map (·.1) := fun k b v => by rw [xsV, List.map_map]; rfl
          rcases dU' el with ⟨j, ej, rfl, rfl⟩ | ⟨ej, hl, rfl, rfl⟩
          . obtain ⟨f2', r1, r2⟩ := RpA.setO zv j ra
            refine .n hH (u2' f.low n zx) rfl q1 q2 fun nd => ?_
            obtain ⟨g1, g2⟩ := (c9' (v := v) (gG' n h1) (by rw [ek]; exact nd)).1 j ej
            rw [<- nA' xs (nk dk) b v, evp, ev] at g2
            rw [<- nA' xs (nk dk) b v, ekp, ek] at g1
            have hany : (xs.any fun x => decide (x.1 = nk dk)) = true := by
              have e7 := ei' (gG' (dk := dk) n h1)
              have e8 : (M.dget ks' ((xsV xs).map (·.2)) dk).isSome = true := by
                unfold M.dget
                rw [ej, Option.bind_some, ev]
                have hj : j < ks'.length := by
                  unfold M.gB' at ej
                  exact (List.findIdx?_eq_some_iff_getElem.mp ej).1
                have e9 : xs.length = ks'.length := by have := congrArg List.length n.e; simpa using this
                rw [List.getElem?_eq_getElem (by rw [List.length_map]; omega)]
                rfl
              rw [<- e7, <- valV_any, xsV, List.any_map] at e8
              exact e8
            refine ⟨fun z => by have := congrArg List.length g1; simp only [List.length_map] at this; omega, hN _ f2' ?_ r2⟩
            rw [<- g2] at r1
            refine .dcn ⟨by rw [g1]; exact n.e, n.s⟩ ?_ r1
            rw [q3' hany]
            exact zx
          . have e4 : xs.length = ks.length := by have := congrArg List.length n.e; simpa using this
            refine .n hH (u2' f.low n zx) rfl q1 q2 fun nd => ?_
            have g := (c9' (v := v) (gG' n h1) (by rw [ek]; exact nd)).2 ej
            have gx : li' xs (nk dk) b v = xs ++ [(nk dk, b, v)] := by
              unfold li'
              rw [if_neg]
              intro hany
              have e7 := ei' (gG' (dk := dk) n h1)
              have e8 : (valV (xsV xs) (nk dk)).isSome = true := by
                rw [<- valV_any, xsV, List.any_map]
                exact hany
              rw [e7] at e8
              unfold M.dget at e8
              rw [ej] at e8
              cases e8
            rw [gx]
            refine ⟨fun _ => by rw [bM', List.length_append]; simp only [List.length_singleton]; omega, hN _ (f0 ++ fv) ?_ .refl⟩
            have r1 := ra.app zv'
            refine .dcn ⟨by simp [n.e], fun d hd => ?_⟩ ?_ (by simpa using r1)
            . rcases List.mem_append.mp hd with hd | hd
              . exact n.s d hd
              . rw [List.mem_singleton.mp hd]; exact ⟨h1, h2, hs⟩
            . rw [List.map_append]
              exact zx.append (.cons zk .nil)
    . cases e
end
def CO' (K : PySem.W.Frag) (neg : Bool) : R2 := fun y x H Q => ∃ a ov, x = .ref a /\ DLk K H a y ov /\ Q (.bl (ov.isSome != neg)) H
def Dk' (K : PySem.W.Frag) : R2 := fun x y H Q => ∃ a v, x = .ref a /\ DLk K H a y (some v) /\ Q v H
section
variable {X : Cx} {W : WX} {pos tpos : Pos} {a b o i : Expr} {ma mb mo mi : M.ME} {σ : St} {H : Hp} {Q : VK}
theorem v6' (hw : X.prog = Wd.P /\ X.w = Wd.w) (hu : X.A.units + 64 < cLine) : OpR X (compareOp .NotIn) (CO' X.K true) := by
  intro pins s σ H y x iv u Q I ry rx h
  obtain ⟨a, ov, ex, g, q⟩ := h
  subst ex
  cases (show u = Value.ref a from rx)
  exact zh' hw hu I g ry fun s' I' => ⟨.bl (ov.isSome != true), H, I', by rw [Bool.bne_true]; exact rfl, q⟩
theorem tQ' {neg : Bool} {i : Nat} (h : qE X.K W (M.tB' neg i ma) σ H Q) : tOp (CO' X.K neg) (qE X.K W ma) (tVar i) σ H Q := by
  obtain ⟨ρ, F, T, fr, rel, h⟩ := h
  refine ay' rel h fun dk ρ1 y H1 F1 T1 e1 zk r1 h1 => ?_
  split at h1
  . rename_i o e
    obtain ⟨dz, ez, q⟩ := aZ'.ofO h1
    obtain ⟨r, er, rfl⟩ := Option.map_eq_some_iff.mp ez
    obtain ⟨fe, fw, re, rw, f⟩ := id r1
    obtain ⟨u, f1, f2, f3, g1, rfl, g3, _, _⟩ := re.get e (M.dt' (fun z => by rw [z] at er; exact nomatch (show (none : Option (Option M.O)) = some r from er)) (fun z => by rw [z] at er; exact nomatch (show (none : Option (Option M.O)) = some r from er)))
    have f' : FpH F1 H1 (f2 ++ (f1 ++ (f3 ++ (fw ++ fr)))) := f.part (by walk_at "parts")
    obtain ⟨p, ov, rfl, g, a1, _⟩ := ru' f' g3 zk er
    refine ⟨_, g1, p, ov, rfl, g, ?_⟩
    rw [a1]
    exact q _ H1 F1 T1 e1 (.bl _) r1
  . exact h1.elim
theorem yz' {te ti : TE} (hw : X.prog = Wd.P /\ X.w = Wd.w) (hu : X.A.units + 64 < cLine) (ho : PE X o te) (hi : PE X i ti) (hs : NoSl i) : PE X (.Subscript o i pos) (tOp (Dk' X.K) te ti) := by
  refine ⟨fun pins s σ H Q I h => subD_of PySem.F.slot_dict_getitem.lookup hs (thn (ho.run pins s σ H _ I h) fun u s1 ⟨x, H1, I1, rx, q1⟩ => thn (hi.run pins s1 σ H1 _ I1 q1) fun iv s2 ⟨y, H2, I2, ry, q2⟩ => ?_)⟩
  obtain ⟨a, v, ex, g, q2⟩ := q2
  subst ex
  cases (show u = Value.ref a from rx)
  exact ⟨wK' hw I2 g, zi' hw hu I2 g ry fun w' s3 I3 rw' => ⟨v, H2, I3, rw', q2⟩⟩
theorem cG' {n : Nat} (hw : X.prog = Wd.P /\ X.w = Wd.w) (hu : X.A.units + 64 < cLine) (hv : PE X o (tVar n)) (hi : SE X W i mi) (hs : NoSl i) : SE X W (.Subscript o i pos) (M.jB' n mi) :=
  PE.imp (yz' hw hu hv hi hs) fun σ H Q ⟨ρ, F, T, fr, rel, h⟩ => by
    unfold M.jB' at h
    split at h
    . rename_i o0 e0
      obtain ⟨fe, fw, re, rw, f⟩ := id rel
      obtain ⟨v, h1⟩ := re.val e0
      refine ⟨v, h1, ay' rel h fun dk ρ1 y H1 F1 T1 e1 zk r1 h2 => ?_⟩
      split at h2
      . rename_i o e2
        obtain ⟨dz, ez, q⟩ := aZ'.ofO h2
        obtain ⟨fe', fw', re', rw', f'⟩ := id r1
        obtain ⟨u, f1', f2', f3', h1', rfl, h3', _⟩ := re'.get e2 (M.dt' (fun z => by rw [z] at ez; exact nomatch (show (none : Option M.D) = some dz from ez)) fun z => by rw [z] at ez; exact nomatch (show (none : Option M.D) = some dz from ez))
        rw [h1] at h1'
        cases h1'
        have f4 : FpH F1 H1 (f2' ++ (f1' ++ (f3' ++ (fw' ++ fr)))) := f'.part (by walk_at "parts")
        obtain ⟨r, er, hr⟩ : ∃ r, M.cu' o dk = some r /\ r = some (.fz dz) := by
          unfold M.sd' at ez
          split at ez
          . rename_i d er
            cases ez
            exact ⟨_, er, rfl⟩
          . cases ez
        obtain ⟨p, ov, rfl, g, _, a2⟩ := ru' f4 h3' zk er
        obtain ⟨w, rfl, zw⟩ := a2 dz hr
        exact ⟨p, w, rfl, g, q w H1 F1 T1 e1 zw r1⟩
      . exact h2.elim
    . exact h.elim
theorem Rel.slotX {K : PySem.W.Frag} {ρ : M.PSt} {F : Hp} {T : List Addr} {fr : Fp} {i : Nat} {o : M.O} {v : V} (rel : Rel K ρ σ H F T fr) (e : ρ.env[i]? = some (some o)) (hp : σ[i]? = some (some v)) (hne : M.A0' o = true := by first | assumption | rfl) :
    ∃ f2 fz, Rp K F T v o f2 /\ FpH F H (f2 ++ (fz ++ fr)) /\ ∀ p h0 f0 h1 o' f1 fr', f2 = (p, h0) :: f0 -> v = .ref p -> Rp K F T v o' ((p, h1) :: f1) -> Part (f1 ++ fr') (f0 ++ fr) -> Rel K ⟨ρ.env.set i (some o'), ρ.w⟩ σ (upd H p h1) F T fr' := by
  obtain ⟨fe, fw, re, rw, f⟩ := rel
  obtain ⟨v', f1, f2, f3, g1, rfl, g3, _, g5⟩ := re.get e
  rw [g1] at hp
  cases hp
  refine ⟨f2, f1 ++ (f3 ++ fw), g3, f.part (by walk_at "parts"), ?_⟩
  intro p h0 f0 h1 o' f1' fr' e2 ev r pt
  subst e2 ev
  have e5 := g5 F T (.ref p) o' ((p, h1) :: f1') .refl r
  rw [eJ' g1] at e5
  refine ⟨_, fw, e5, rw, ?_⟩
  have fA : FpH F H (f1 ++ ((p, h0) :: (f3 ++ (fw ++ (f0 ++ fr))))) := f.part (by walk_at "parts")
  have fB := fA.write (o' := h1)
  have pm := pt.m
  have pc := pt.c
  refine fB.part ?_
  constructor
  . intro e h
    have := pm e
    simp only [List.mem_append, List.mem_cons] at *
    grind
  . intro x
    have := pc x
    simp only [keys, List.map_append, List.map_cons, List.count_append, List.count_cons] at *
    omega
theorem s2' {value : Expr} {te ti tv : TE} (hwd : X.prog = Wd.P /\ X.w = Wd.w) (hu : X.A.units + 64 < cLine) (ho : PE X o te) (hi : PE X i ti) (hv : PE X value tv) (hs : swapsWith value (some (.Subscript o i tpos)) pos.line X.env = pure false) :
    PS X (.Assign [.Subscript o i tpos] value pos) (fun D σ H => tv σ H fun v H1 => te σ H1 fun x H2 => ti σ H2 fun y H3 => ∃ a, x = .ref a /\ DSt X.K H3 a y v (fun H4 => D.nx σ H4)) := by
  refine ⟨fun pins s σ H D I h => wpAny_Assign_Subscript (thn (hv.run pins s σ H _ I h) fun r s1 ⟨v, H1, I1, rv, q1⟩ => thn (ho.run pins s1 σ H1 _ I1 q1) fun u s2 ⟨x, H2, I2, rx, q2⟩ => thn (hi.run pins s2 σ H2 _ I2 q2) fun iv s3 ⟨y, H3, I3, ry, q3⟩ => ?_) hs⟩
  obtain ⟨a, ex, g⟩ := q3
  subst ex
  cases (show u = Value.ref a from rx)
  exact zg' hwd hu I3 g ry rv fun H4 s4 I4 q4 => ⟨σ, H4, I4, q4⟩
theorem q5' {o o' ov : M.O} {dk : M.D} (h : M.fz' o dk ov = some o') {K : PySem.W.Frag} {F : Hp} {T : List Addr} {v : V} {fp : Fp} (q : Rp K F T v o fp) : ∃ p h0 f0, v = .ref p /\ fp = (p, h0) :: f0 := by
  cases q with
  | fz z => cases h
  | lst _ => exact ⟨_, _, _, rfl, rfl⟩
  | tup _ => exact ⟨_, _, _, rfl, rfl⟩
  | dct _ _ => exact ⟨_, _, _, rfl, rfl⟩
  | dcl _ _ => exact ⟨_, _, _, rfl, rfl⟩
  | dcn _ _ _ => exact ⟨_, _, _, rfl, rfl⟩
theorem fW' {n : Nat} (hwd : X.prog = Wd.P /\ X.w = Wd.w) (hu : X.A.units + 64 < cLine) (ha : SE X W a ma) (ho : PE X o (tVar n)) (hi : SE X W i mi) (hs : swapsWith a (some (.Subscript o i tpos)) pos.line X.env = pure false := by rfl) :
    SS X W (.Assign [.Subscript o i tpos] a pos) (M.o3' n mi ma) := PS.imp (s2' hwd hu ho hi ha hs) fun D σ H ⟨ρ, F, T, fr, rel, h⟩ => by
  refine dw' rel h fun d ρ1 v H1 F1 T1 e1 z1 r1 h1 => ?_
  split at h1
  . rename_i o0 e0
    obtain ⟨fe, fw, re, rw, f⟩ := id r1
    obtain ⟨x, g1⟩ := re.val e0
    refine ⟨x, g1, dw' r1 h1 fun dk ρ2 y H2 F2 T2 e2 zk r2 h2 => ?_⟩
    split at h2
    . rename_i o1 e3
      split at h2
      . rename_i o' eo
        obtain ⟨f2', fz, q1, q2, q3⟩ := r2.slotX e3 g1 (M.dt' (fun z => by rw [z] at eo; exact nomatch (show (none : Option M.O) = some o' from eo)) (fun z => by rw [z] at eo; exact nomatch (show (none : Option M.O) = some o' from eo)))
        obtain ⟨p, h0, f0, rfl, rfl⟩ := q5' eo q1
        have hp := yx' (fr := fz ++ fr) q2 q1 zk (.fz (z1.mono e2)) eo
        refine ⟨p, rfl, hp.2 _ fun h1' f1' r3 pt => ?_⟩
        refine h2 σ _ F2 T2 .refl (q3 p h0 f0 h1' o' f1' fr rfl rfl r3 (.app ?_ .refl))
        simpa using pt
      . exact h2.elim
    . exact h2.elim
  . exact h1.elim
theorem qx' (hwd : X.prog = Wd.P /\ X.w = Wd.w) : SO X W (.Dict [] [] pos) M.rg' := by
  refine ⟨fun pins s σ H Q I ⟨ρ, F, T, fr, rel, h⟩ => wpAny_Dict_empty ⟨.ref s.heap.objs.size, upd H s.heap.objs.size (dcL s.heap.objs.size []), ?_, rfl, ?_⟩⟩
  . refine I.laid (a := s.heap.objs.size) (t' := s.toks) (fun _ _ q => Heap.get?_push_of_some _ q) (Nat.le_refl _) ?_
    rw [hwd.2]
    exact lQ' (Nat.zero_le _) (beq_eq_false_iff_ne.mpr (Ne.symm (Nat.ne_of_lt I.big))) .nil (Heap.DictOf.new s.heap)
  . have z : Rp X.K F T (.ref s.heap.objs.size) (.dcx [] []) [(s.heap.objs.size, dcL s.heap.objs.size [])] := Rp.dcl (kvs := []) ⟨rfl, fun _ h => nomatch h⟩ .nil
    exact h _ _ F T _ .refl z (rel.own (I.hok.fresh (Nat.le_refl _)))
theorem qw' {k e : Expr} {mk me : M.ME} (hk : SE X W k mk) (hv : SE X W e me) : SO X W (.Dict [some k] [e] pos) (M.ko' false mk me) :=
  PE.imp (pe_disp (pps_cons hk hv pps_nil) rfl rfl (by intro z; cases z) (by simp)) fun σ H Q ⟨ρ, F, T, fr, rel, h⟩ => fun p hp => by
    have fr1 : Part fr ((p, HO.dK []) :: fr) := by walk_at "parts"
    refine ⟨ρ, F, T, (p, .dK []) :: fr, rel.own hp, (aZ'.bind h).mono (fun dk ρ1 h1 y H1 F1 T1 e1 zk r1 => ?_) fun _ _ z => z.frame fr1⟩
    refine ⟨ρ1, F1, T1, (p, .dK []) :: fr, r1, (aZ'.bind (h1.mono (fun _ _ z => z) fun _ _ z => z)).mono (fun d ρ2 h2 v H2 F2 T2 e2 zv r2 => ?_) fun _ _ z => (z.mono e1).frame fr1⟩
    obtain ⟨o, eo, q⟩ := aZ'.ofO h2
    simp only [M.kg', Bool.false_eq_true, if_false] at eo
    split at eo
    . rename_i hc
      cases eo
      obtain ⟨key, hk⟩ := kC' hc
      have e3 := kz' zk hk
      have e4 := g7' hk
      subst e3 e4
      refine ⟨r2.at_ (e := (p, .dK [])) List.mem_cons_self, [(key, v)], rfl, (by show 1 <= 15; decide), ?_⟩
      refine q (.ref p) _ F2 T2 [(p, .dK [(key, v)])] (e1.trans e2) ?_ ?_
      . exact .dct (kvs := [(key, v)]) (fun p hp => by rw [List.mem_singleton.mp hp]; exact nN' zk) (RpA.cons (fp := []) (fq := []) (.fz zv) .nil)
      . exact r2.write
    . cases eo
theorem sR' {n : Nat} {e f : Expr} {me mf : M.ME} {apos cpos : Pos} (hv : PE X o (tVar n)) (he : SE X W e me) (hf : SE X W f mf) (m : M2 X o "setdefault" apos e f cpos) :
    SE X W (.Call (.Attribute o "setdefault" apos) [e, f] [] cpos) (M.ir' n me mf) := PE.imp (pe_dsetd hv he hf m) fun σ H Q ⟨ρ, F, T, fr, rel, h⟩ => by
  unfold M.ir' at h
  split at h
  . rename_i ks0 os0 e0
    obtain ⟨fe, fw, re, rw, f⟩ := id rel
    obtain ⟨x, f1, f2, f3, g1, eq, g3, _⟩ := re.get e0
    cases g3 with
    | @dct p kvs0 _ fp0 okk0 ra0 =>
      have hH0 : H p = some (.dK kvs0) := (f.at_ (p, .dK kvs0) (by rw [eq]; simp)).1
      refine ⟨_, g1, p, rfl, .inl ⟨_, .inl hH0⟩, ay' rel h fun dk ρ1 y H1 F1 T1 e1 zk r1 h1 => ay' r1 h1 fun d ρ2 z H2 F2 T2 e2 zd r2 h2 => ?_⟩
      split at h2
      . rename_i ks os e3
        split at h2
        . rename_i hc
          obtain ⟨hk, hl⟩ := hc
          obtain ⟨f2', fz, q1, q2, q3⟩ := r2.slotX e3 g1
          cases q1 with
          | @dct _ kvs _ fp1 okk ra =>
            have hH : H2 p = some (.dK kvs) := (q2.at_ (p, .dK kvs) (by simp)).1
            obtain ⟨key, hkey⟩ := kC' hk
            have e4 := kz' zk hkey
            have e5 := g7' hkey
            subst e4 e5
            rw [List.length_map] at hl
            have hv := ei' (io' (kvs := kvs) key)
            obtain ⟨a1, a2⟩ := ra.dget (ks := kvs.map fun p => kD p.1) (dk := kD key)
            refine ⟨kvs, key, hH, rfl, by rw [bM']; exact hl, fun v ev => ?_, fun ev => ?_⟩
            . rw [hv] at ev
              rw [ev] at a1
              split at h2
              . rename_i d' ed
                obtain ⟨u, g4, g5⟩ := a2 d' ed
                rw [ev] at g4
                cases g4
                exact h2 v H2 F2 T2 (e1.trans e2) g5 r2
              . exact h2.elim
              . rename_i ed
                rw [ed] at a1
                cases a1
            . rw [hv] at ev
              rw [ev] at a1
              split at h2
              . rename_i d' ed
                rw [ed] at a1
                cases a1
              . exact h2.elim
              . have hn : M.gB' (kvs.map fun p => kD p.1) (kD key) = none := by
                  unfold M.dget at ev
                  cases q : M.gB' (kvs.map fun p => kD p.1) (kD key) with
                  | none => rfl
                  | some j =>
                    rw [q, Option.bind_some] at ev
                    unfold M.gB' at q
                    have hj := (List.findIdx?_eq_some_iff_getElem.mp q).1
                    rw [List.length_map] at hj
                    rw [List.getElem?_eq_getElem (by rw [List.length_map]; exact hj)] at ev
                    cases ev
                have hp : putK kvs key z = kvs ++ [(key, z)] := putK_new z (by rw [hv]; exact ev)
                rw [hp]
                refine h2 z _ F2 T2 (e1.trans e2) zd (q3 p _ fp1 (.dK (kvs ++ [(key, z)])) (.dct ((kvs.map fun p => kD p.1) ++ [kD key]) (os ++ [.fz d])) fp1 fr rfl rfl ?_ (.app .refl .refl))
                have r5 := ra.app (RpA.cons (fp := []) (fq := []) (.fz zd) .nil)
                rw [List.append_nil, List.append_nil] at r5
                have e6 : ((kvs.map fun p => kD p.1) ++ [kD key]) = (kvs ++ [(key, z)]).map fun p => kD p.1 := by simp
                rw [e6]
                exact .dct (okk.snoc (nN' zk)) (by simpa using r5)
        . exact h2.elim
      . exact h2.elim
  . exact h.elim
end
end S
namespace S
open PySem PySem.Spec PyProof.Rows L2
variable [Wd] [Hot]
section
variable {K : PySem.W.Frag} {F F' H H' : Hp} {T T' : List Addr} {fp fq fr : Fp} {ρ : M.PSt} {σ : St} {W : WX} {Q : VK}
theorem FpH.lock {d : Addr} {u : HO} {od : Obj} (hl : Lkb u) (f : FpH F H fp) (h : F d = some u) : FpH (upd F d (.frz od u)) (upd H d (.frz od u)) fp := by
  have np : ∀ e ∈ fp, e.1 ≠ d := fun e he z => by have := (f.at_ e he).2; rw [z, h] at this; cases this
  refine ⟨fun a u e => ?_, fun e he => ?_, f.nd, f.tbs (fun a h1 h2 h3 => ?_) fun c q hc => ?_⟩
  rotate_left 3
  . rcases hc with hc | ⟨o, hc⟩
    . by_cases ha : c = d
      . subst ha
        rw [h] at hc
        cases hc
        exact .inr ⟨od, upd_same⟩
      . exact .inl (by rw [upd_ne ha]; exact hc)
    . by_cases ha : c = d
      . subst ha
        rw [h] at hc
        cases hc
        rcases hl with ⟨_, e⟩ | ⟨_, e⟩ <;> cases e
      . exact .inr ⟨o, by rw [upd_ne ha]; exact hc⟩
  . by_cases ha : a = d
    . subst ha; rw [upd_same] at e ⊢; exact e
    . rw [upd_ne ha] at e ⊢; exact f.low _ _ e
  . rw [upd_ne (np e he), upd_ne (np e he)]; exact f.at_ e he
  . have ha : a ≠ d := fun z => by rw [z, h] at h1; cases h1
    exact ⟨by rw [upd_ne ha]; exact h1, upd_ne ha, h3⟩
theorem Wk.lock {d : Addr} {u : HO} {od : Obj} (hl : Lkb u) (h : F d = some u) : Wk F (upd F d (.frz od u)) := fun a o e => by
  by_cases ha : a = d
  . subst ha
    rw [h] at e
    cases e
    exact .inr ⟨hl, od, upd_same⟩
  . exact .inl (by rw [upd_ne ha]; exact e)
theorem Rel.lock {d : Addr} {u : HO} {od : Obj} (hl : Lkb u) (r : Rel K ρ σ H F T fr) (h : F d = some u) : Rel K ρ σ (upd H d (.frz od u)) (upd F d (.frz od u)) T fr := by
  obtain ⟨fe, fw, re, rw, f⟩ := r
  have e : Ext F T (upd F d (.frz od u)) T := ⟨.lock hl h, List.prefix_refl _⟩
  exact ⟨fe, fw, re.mono e, rw.mono e, f.lock hl h⟩
def tLk (te : TE) : TE := fun σ H Q => te σ H fun x H1 => (∃ d u, x = .ref d /\ H1 d = some u /\ Mut (some u) /\ ∀ od, Q x (upd H1 d (.frz od u))) \/ Q x H1
theorem Bk' {X : Cx} {e : Expr} {te : TE} (h : PE X e te) : PE X e (tLk te) := by
  refine ⟨fun pins s σ H Q I q => thn (h.run pins s σ H _ I q) fun u s1 ⟨x, H1, I1, rx, q1⟩ => ?_⟩
  rcases q1 with ⟨d, v, rfl, hd, mu, q1⟩ | q1
  . obtain ⟨od, I2⟩ := I1.lock hd mu
    exact ⟨_, _, I2, rx, q1 od⟩
  . exact ⟨x, H1, I1, rx, q1⟩
theorem wg' {ma : M.ME} {G : M.D -> Option (List M.D)} {R : List M.D -> M.PSt -> Prop} {W : WX} {P : V -> Hp -> Prop} (hG : ∀ d ds, G d = some ds -> ∃ ks vs, d = .dct ks vs)
    (rel : Rel K ρ σ H F T fr) (h : aZ' ((ma ρ).bind fun x ρ1 => M.ofO (G x) ρ1) R (EX K W σ F T fr))
    (k : ∀ d o kvs ds vs H' F' T' ρ', Ext F T F' T' -> F' d = some (.frz o (.dK kvs)) -> le' kvs -> FzA K F' T' (kvs.map (·.2)) vs -> G (.dct (kvs.map fun p => kD p.1) vs) = some ds -> Rel K ρ' σ H' F' T' fr -> R ds ρ' -> P (.ref d) H') : tLk (qE K W ma) σ H P := by
  refine ⟨ρ, F, T, fr, rel, (aZ'.bind h).mono (fun dx ρ1 h1 v H1 F1 T1 e1 z1 r1 => ?_) fun _ _ z => z⟩
  obtain ⟨ds, eg, hR⟩ := aZ'.ofO h1
  obtain ⟨ks, vs, rfl⟩ := hG _ _ eg
  cases z1 with
  | @dct a kvs _ hd ok za =>
    rcases hd with hd | ⟨o, hd⟩
    . refine .inl ⟨a, .dK kvs, rfl, ?_, True.intro, fun od => ?_⟩
      . obtain ⟨fp, f, _⟩ := r1.fp
        exact f.low _ _ hd
      . have e2 : Ext F1 T1 (upd F1 a (.frz od (.dK kvs))) T1 := ⟨.lock (.inl ⟨_, rfl⟩) hd, List.prefix_refl _⟩
        exact k a od kvs ds vs _ _ T1 ρ1 (e1.trans e2) upd_same ok (za.mono e2) eg (r1.lock (.inl ⟨_, rfl⟩) hd) hR
    . exact .inr (k a o kvs ds vs _ _ T1 ρ1 e1 hd ok za eg r1 hR)
theorem Wk.frz {a : Addr} {o : Obj} {u : HO} (s : Wk F F') (h : F a = some (.frz o u)) : F' a = some (.frz o u) := s.at_ h fun _ e => nomatch e
theorem y7' {p : Key} (h : okK p) : Fz K F T (kV p) (kD p) := by
  cases p with
  | inl i => exact .int i
  | inr x =>
    have := Fz.str (K := K) (F := F) (T := T) (s := x.cps.toList) h
    rw [vz'] at this
    exact this
theorem tp' {d : Addr} {o : Obj} {kvs : List (Key × V)} {vs : List M.D} (hd : F d = some (.frz o (.dK kvs))) (ok : le' kvs) (za : FzA K F T (kvs.map (·.2)) vs) : mi' K (Iti d o kvs) (M.ds' (kvs.map fun p => kD p.1) vs) F T := by
  have hl := za.length
  rw [List.length_map] at hl
  refine je' (fun F' T' H' fp i e f hi => ?_) fun F' T' H' fp i dx dy e f h1 h2 => ?_
  . rw [List.length_map] at hi
    exact ⟨f.low _ _ (e.f.frz hd), by omega⟩
  . rw [List.getElem?_map] at h1
    obtain ⟨p, hp, rfl⟩ := Option.map_eq_some_iff.mp h1
    obtain ⟨v, g1, g2⟩ := za.get h2
    rw [List.getElem?_map, hp] at g1
    cases g1
    refine ⟨⟨f.low _ _ (e.f.frz hd), (List.getElem?_eq_some_iff.mp hp).1⟩, ?_⟩
    rintro x H2 ⟨T0, k, v', ek, rfl, hT, rfl⟩
    rw [hp] at ek
    cases ek
    exact ⟨T0, _, _, rfl, hT, rfl, y7' (ok _ (List.mem_of_getElem? hp)), g2.mono e⟩
end
section
variable {X : Cx} {W : WX} {tg a : Expr} {ma : M.ME} {apos cpos : Pos}
theorem sO' {elts : List Expr} {kk : Nat} {tpos : Pos} (ha : SE X W a ma) (hbase : attributeBase a "items" X.env (eval a X.env) = eval a X.env := by rfl) (hline : (apos.endLine == cpos.line) = true := by rfl) :
    SI X W (.Tuple elts kk tpos) (.Call (.Attribute a "items" apos) [] [] cpos) (M.rO' M.rZ' ma) := PI.imp (pi_items (Bk' ha) hbase hline) fun σ H R ⟨ρ, F, T, fr, rel, h⟩ => by
  refine wg' (fun d ds e => by cases d <;> first | exact ⟨_, _, rfl⟩ | (cases e)) rel h fun d o kvs ds vs H' F' T' ρ' e hd ok za eg r hR => ?_
  cases eg
  obtain ⟨fp, f, _⟩ := r.fp
  exact ⟨d, o, kvs, rfl, f.low _ _ hd, hR _ _ _ _ e (tp' hd ok za) r⟩
end
section
variable {K : PySem.W.Frag} {F F' H H' : Hp} {T T' : List Addr} {fp fq fr : Fp} {ρ : M.PSt} {σ : St} {W : WX}
def Ad' (K : PySem.W.Frag) (sl : List Nat) (g : M.MG) (t : M.MT) (ek ev : M.ME) (ds : List M.D) (σ : St) (D : Addr) (fr : Fp) (F1 : Hp) (T1 : List Addr) (P : List M.D × List M.D -> M.PSt -> Prop) (Y : Wx) (i : Nat) (H : Hp) : Prop :=
  i <= ds.length /\ ∃ ρ' F' T' kvs vs, Ext F1 T1 F' T' /\ (kvs.map (·.1)).Nodup /\ le' kvs /\ FzA K F' T' (kvs.map (·.2)) vs /\ Rel K ⟨M.aD' sl ρ'.env, ρ'.w⟩ (wipe σ sl) H F' T' ((D, .dK kvs) :: fr) ∧
    aZ' (M.dcL sl g t ek ev (ds.drop i) (kvs.map fun p => kD p.1) vs ρ') P Y
theorem wL' {sl : List Nat} {it : M.MI} {g : M.MG} {t : M.MT} {ek ev : M.ME} {Q : VK} (h : qO K W (M.oDc sl it g t ek ev) σ H Q) : tDc (qI K W it) (qG K sl g) (qT K W0 t) (qE K W0 ek) (qE K W0 ev) sl σ H Q := by
  obtain ⟨ρ, F, T, fr, rel, h⟩ := h
  refine ⟨ρ, F, T, fr, rel, (aZ'.bind h).mono (fun ds ρ1 h1 J H1 F1 T1 e1 io r1 => ?_) fun _ _ z => z⟩
  intro D hD
  have h2 := aZ'.bind h1
  refine ⟨fun i m H => m = ds.length - i /\ Ad' K sl g t ek ev ds σ D fr F1 T1 _ _ i H, ⟨ds.length, by simp, Nat.zero_le _, ρ1, F1, T1, [], [], .refl, List.nodup_nil, .nil, .nil, (r1.wiped sl).own hD, h2⟩, ?_⟩
  rintro i m H2 ⟨rfl, hi, ρ2, F2, T2, kvs, vs, e2, nd, okk, za, r2, h3⟩
  have hH : H2 D = some (.dK kvs) := r2.at_ (e := (D, .dK kvs)) List.mem_cons_self
  obtain ⟨fp2, f2, _⟩ := r2.fp
  by_cases hl : i = ds.length
  . refine .inl ⟨(io F2 T2 H2 fp2 i e2 f2 hi).1 hl, ?_⟩
    rw [hl, List.drop_length] at h3
    have h4 : aZ' (M.dcL sl g t ek ev [] _ vs ρ2) _ _ := h3
    unfold M.dcL at h4
    have h5 := h4
    refine h5 (.ref D) H2 F2 T2 ((D, .dK kvs) :: []) (e1.trans e2) ?_ ?_
    . exact .dct okk (RpA.of_fz za)
    . obtain ⟨fe, fw, re, rw, f⟩ := r2
      have re1 : RpE K F2 T2 σ (M.aD' sl ρ2.env) fe := by
        refine re.other ?_ fun j o hj => (gu' (fi' hj)).symm
        rw [wipe_length]
      obtain ⟨fe0, fw0, re0, rw0, f0⟩ := r1
      obtain ⟨fq, h6, h7⟩ := RpE.backed (env0 := ρ1.env) (fun i d hd => by
        obtain ⟨v, hv, z⟩ := re0.data hd
        exact ⟨v, hv, z.mono e2⟩) sl re1
      exact ⟨fq, fw, h6, rw, f.part (.app h7 .refl)⟩
  . have hlt : i < ds.length := by omega
    have hd : ds[i]? = some ds[i] := List.getElem?_eq_getElem hlt
    obtain ⟨go, yl⟩ := (io F2 T2 H2 fp2 i e2 f2 hi).2 _ hd
    refine .inr ⟨go, Ad' K sl g t ek ev ds σ D fr F1 T1 _ _ (i + 1), fun H' n => ⟨ds.length - (i + 1), by omega, rfl, n⟩, fun x H3 y => ?_⟩
    obtain ⟨fe, fw, re, rw, f⟩ := id r2
    obtain ⟨yg, yh⟩ := (io F2 T2 H2 _ i e2 f hi).2 _ hd
    obtain ⟨F3, s3, zx, f3⟩ := yh x H3 y
    have r3 : Rel K ⟨M.aD' sl ρ2.env, ρ2.w⟩ (wipe σ sl) H3 F3 T2 ((D, .dK kvs) :: fr) := ⟨fe, fw, re.mono (.of s3), rw.mono (.of s3), f3⟩
    rw [List.drop_eq_getElem_cons hlt] at h3
    unfold M.dcL at h3
    cases eg : g ds[i] ⟨M.aD' sl ρ2.env, ρ2.w⟩ with
    | none => rw [eg] at h3; exact h3.elim
    | some ρ3 =>
      rw [eg] at h3
      refine ⟨_, F3, T2, _, ds[i], ρ3, r3, zx, eg, fun σ4 w4 r4 => ?_⟩
      rw [jE'] at w4
      refine ⟨w4, ?_⟩
      have h4 := aZ'.bind h3
      refine ⟨ρ3, F3, T2, _, r4, (aZ'.noX h4).mono (fun b ρ5 h5 H5 F5 T5 e5 r5 => ?_) fun _ _ z => z⟩
      cases b with
      | false =>
        rw [if_neg Bool.false_ne_true]
        refine ⟨hlt, ρ5, F5, T5, kvs, vs, e2.trans ((Ext.of s3).trans e5), nd, okk, (za.mono (.of s3)).mono e5, ?_, h5⟩
        rw [<- w4]
        exact r5.wiped sl
      | true =>
        rw [if_pos rfl] at h5 ⊢
        have h6 := aZ'.bind h5
        refine ⟨ρ5, F5, T5, _, r5, (aZ'.noX h6).mono (fun dk ρ6 h7 y6 H6 F6 T6 e6 z6 r6 => ?_) fun _ _ z => z⟩
        have h8 := aZ'.bind h7
        refine ⟨ρ6, F6, T6, _, r6, (aZ'.noX h8).mono (fun dv ρ7 h9 y7 H7 F7 T7 e7 z7 r7 => ?_) fun _ _ z => z⟩
        split at h9
        . rename_i hc
          obtain ⟨hk, hlen⟩ := hc
          rw [List.length_map] at hlen
          have hH7 : H7 D = some (.dK kvs) := r7.at_ (e := (D, .dK kvs)) List.mem_cons_self
          obtain ⟨key, hkey⟩ := kC' hk
          have z6' := z6.mono e7
          have q1 := kz' z6' hkey
          have q2 := g7' hkey
          subst q1 q2
          have za7 := ((za.mono (.of s3)).mono e5).mono (e6.trans e7)
          have ee := e2.trans ((Ext.of s3).trans (e5.trans (e6.trans e7)))
          refine ⟨kvs, key, rfl, hH7, by rw [bM']; exact hlen, hlt, ?_⟩
          cases el : M.nD' (kvs.map fun p => kD p.1) vs (kD key) dv with
          | none => rw [el] at h9; exact h9.elim
          | some p =>
            obtain ⟨ks', vs'⟩ := p
            rw [el] at h9
            have hr := (r7.wiped sl).write (o' := .dK (putK kvs key y7))
            rw [w4] at hr
            rcases dU' el with ⟨j, ej, rfl, rfl⟩ | ⟨ej, _, rfl, rfl⟩
            . obtain ⟨g1, g2⟩ := (c9' (v := y7) (io' key) nd).1 j ej
              refine ⟨ρ7, F7, T7, putK kvs key y7, vs.set j dv, ee, by rw [g1]; exact nd, okk.fst g1, ?_, hr, ?_⟩
              . rw [g2]
                have main : ∀ {us : List V} {ws : List M.D} (j : Nat), FzA K F7 T7 us ws -> FzA K F7 T7 (us.set j y7) (ws.set j dv) := by
                  intro us ws j h
                  induction us generalizing ws j with
                  | nil => cases h; exact .nil
                  | cons u us ih =>
                    cases h with
                    | cons a r =>
                      cases j with
                      | zero => exact .cons z7 r
                      | succ j => exact .cons a (ih j r)
                exact main j za7
              . rw [im' g1]
                exact h9
            . have g := (c9' (v := y7) (io' key) nd).2 ej
              have nin : key ∉ kvs.map (·.1) := by
                intro hm
                obtain ⟨p, hp, rfl⟩ := List.mem_map.mp hm
                unfold M.gB' at ej
                rw [List.findIdx?_eq_none_iff] at ej
                have := ej (kD p.1) (List.mem_map_of_mem hp)
                rw [uT', decide_eq_true rfl] at this
                cases this
              rw [g] at hr ⊢
              refine ⟨ρ7, F7, T7, kvs ++ [(key, y7)], vs ++ [dv], ee, ?_, okk.snoc (nN' z6'), ?_, hr, ?_⟩
              . rw [List.map_append, List.nodup_append]
                refine ⟨nd, by simp, ?_⟩
                intro a ha b hb
                simp only [List.map_cons, List.map_nil, List.mem_singleton] at hb
                rw [hb]
                exact fun z => nin (z ▸ ha)
              . rw [List.map_append]
                exact za7.append (.cons z7 .nil)
              . rw [List.map_append]
                exact h9
        . exact h9.elim
end
section
variable {X : Cx} {W : WX} {pos : Pos} {kx vx tg iter : Expr} {ifs : List Expr} {scope : Scope} {own : List (Str × Nat)} {sl : List Nat} {it : M.MI} {g : M.MG} {t : M.MT} {ek ev : M.ME}
theorem A2' (hc : X.calm = true) (hN : X.N.Nodup) (hi : SI X W tg iter it) (ok : BlkOk X.N X.env.scope scope own) (hsl : sl = own.map (·.2))
    (hg : ∀ (s : Shared) (H : Hp) (C : Addr) (cl : List (Str × Addr)) (fp : List Addr), SG (X.blk s H scope (compEnvC scope cl C X.env) fp) tg sl g) (ht : ∀ (s : Shared) (H : Hp) (C : Addr) (cl : List (Str × Addr)) (fp : List Addr), PTs (X.blk s H scope (compEnvC scope cl C X.env) fp) ifs (qT X.K W0 t))
    (hk : ∀ (s : Shared) (H : Hp) (C : Addr) (cl : List (Str × Addr)) (fp : List Addr), SE (X.blk s H scope (compEnvC scope cl C X.env) fp) W0 kx ek) (he : ∀ (s : Shared) (H : Hp) (C : Addr) (cl : List (Str × Addr)) (fp : List Addr), SE (X.blk s H scope (compEnvC scope cl C X.env) fp) W0 vx ev)
    (hs : ∀ x, foldedSetIterable iter X.env x = pure x := by intro _; rfl) : SO X W (.DictComp kx vx [⟨tg, iter, ifs, 0⟩] scope pos) (M.oDc sl it g t ek ev) := by
  subst hsl
  exact PE.imp (pe_dc hc hN hi ok hg ht hk he hs) fun σ H Q h => wL' h
end
section
variable {K : PySem.W.Frag}
def uB' (K : PySem.W.Frag) : List V -> Hp -> VK -> Prop := fun xs H Q => ∃ (d : Addr) (ps : List (Key × V)) (ns : List Int), xs = [.ref d] /\ Rd H d (.dK ps) /\ ps.map (·.1) = ns.map Sum.inl /\ ns.length <= sizeLine ∧
    ∀ (ms : List Int) (l : Addr), ms.Perm ns -> ms.Pairwise (· <= ·) -> H l = none -> Q (.ref l) (upd H l (.lst (ms.map V.int)))
theorem ix' {X : Cx} (hc : X.calm = true) : CallR X (.builtin "sorted") (uB' X.K) := by
  intro pins s σ H xs us Q I r hq
  obtain ⟨d, ps, ns, rfl, hrd, hns, hz, hq⟩ := hq
  obtain ⟨u0, rfl, ru⟩ := vals1 r
  cases ru
  obtain ⟨_, lo, vs, rel, dd⟩ := dk_rd I.hok hrd
  obtain ⟨ep0, hat⟩ := dd.dictAt
  have hk1 : vs.map (·.1) = ns.map Sum.inl := rel.keys.symm.trans hns
  have hl1 : vs.length = ns.length := by
    have := congrArg List.length hk1
    simpa using this
  refine Calls.call_function_entry kind_sorted plain_sorted entry_sorted (args_sorted1 _) ?_
  unfold Builtin.«sorted»
  refine wpAny_bind (m := checkCount "sorted" 1 1 _) (wpAny_pure ?_)
  refine wpAny_bind (PySem.W.kdu_collect (A := X.A.in1) (PySem.W.kdl_dict (knd := mixKind X.prog X.w) (kvs := vs) (ep := ep0) lo) (I.ok.hd hc) hat (by rw [hl1]; exact hz) fun hp tk keys hkeep hall => ?_)
  have hlen0 : keys.toList.length = ns.length := by rw [Array.length_toList, hall.1, hl1]
  have hI : IntsAre keys.toList ns := ints_each hlen0 fun j v ev => by
    obtain ⟨k, y, z1, z2⟩ := hall.2 j v (by rw [<- Array.getElem?_toList]; exact ev)
    have z3 : (vs.map (·.1))[j]? = some k := by rw [List.getElem?_map, z1]; rfl
    rw [hk1, List.getElem?_map] at z3
    cases z4 : ns[j]? with
    | none => rw [z4] at z3; cases z3
    | some n0 =>
      rw [z4] at z3
      obtain rfl : Sum.inl n0 = k := Option.some.inj z3
      rcases keyIs_shape (show keyIs (Sum.inl n0) v = true from z2) with ⟨i, t, ei, et⟩ | ⟨z, t, ei, et⟩
      . cases ei
        exact ⟨n0, t, rfl, et⟩
      . cases ei
  have I1 : Inv X pins σ H { s with heap := hp, toks := tk } := I.kept hkeep
  refine wpAny_bind (wpAny_newList ?_ (by rw [hlen0]; exact hz))
  have hoL : (hp.push (seqObj "list" keys.toList.toArray 0)).get? hp.objs.size = some (seqObj "list" keys.toList.toArray 0) := Heap.get?_push_size _ rfl
  show wpAny _ _ _ _ _ { s with heap := hp.push (seqObj "list" keys.toList.toArray 0), toks := tk }
  refine wpAny_bind (wpAny_holding (wpAny_call_entry slot_list_sort ⟨_, hoL, rfl⟩ entry_list_sort
    (SrtO.list_sort_ord (s := { s with heap := hp.push (seqObj "list" keys.toList.toArray 0), toks := tk }) SrtO.swo_int hoL (by rw [hlen0]; exact hz) (fun two => SrtO.ints_sortable hI two) fun out g1 g2 => ⟨_, rfl, ?_⟩) (args_list_sort _)))
  obtain ⟨y1, y2, y3⟩ := SrtO.ints_out hI g1 g2
  obtain ⟨e0, he0⟩ := sortedHeap_at (vs := keys.toList) (out := out.toArray) hoL
  have hlen : ((out.map SrtO.iv).map V.int).length <= sizeLine := by
    rw [List.length_map, y2.length_eq]; exact hz
  refine wpAny_pure ⟨_, rfl, .ref hp.objs.size, upd H hp.objs.size (.lst ((out.map SrtO.iv).map V.int)), I1.laid (t' := tk) (fun b u eb => ?_) (Nat.le_refl _)
    ⟨hlen, out, e0, vals_of_ints y1, he0⟩, rfl, hq _ _ y2 y3 (I1.hok.fresh (Nat.le_refl _))⟩
  have hb : b < hp.objs.size := Heap.lt_size eb
  rw [sortedHeap_old (Nat.ne_of_lt hb) (by rw [size_push']; exact Nat.lt_succ_of_lt hb)]
  exact Heap.get?_push_of_some _ eb
theorem kD' : ∀ {kvs : List (Key × V)} {ns : List Int}, M.bC' (kvs.map fun p => kD p.1) = some ns -> kvs.map (·.1) = ns.map Sum.inl
  | [], ns, h => by cases h; rfl
  | p :: kvs, ns, h => by
    obtain ⟨k, v⟩ := p
    cases k with
    | inl i =>
      have h : (M.bC' (kvs.map fun p => kD p.1)).map (fun x => i :: x) = some ns := h
      cases q : M.bC' (kvs.map fun p => kD p.1) with
      | none => rw [q] at h; cases h
      | some ms =>
        rw [q] at h
        cases h
        rw [List.map_cons, List.map_cons, kD' q]
    | inr x => cases (show (none : Option (List Int)) = some ns from h)
theorem r4' : Bi1 K M.dW' (uB' K) := by
  intro F H T fp x dx dz Q f hx h k
  cases dx <;> try (cases h; done)
  cases hx with
  | @dct a kvs _ hd ok za =>
    simp only [M.dW'] at h
    cases q : M.bC' (kvs.map fun p => kD p.1) with
    | none => rw [q] at h; cases h
    | some ns =>
      rw [q, Option.bind_some] at h
      split at h
      . rename_i hl
        cases h
        refine ⟨a, kvs, ns, rfl, f4' f.low hd, kD' q, hl, fun ys p hp hs hn => ?_⟩
        rw [nq' hp hs]
        exact k.newL f (FzA.rgI _) hn
      . cases h
end
def oj' (p d : Addr) : HO := .ext fun h => h.IsValuesView p d
theorem sw' {P : Program} {w : World} {H : Hp} {h : Heap} {p d : Addr} (e : h.IsValuesView p d) : ObjOk P w H h p (oj' p d) := by
  obtain ⟨o, e1, e2⟩ := id e
  refine ⟨e, ⟨o, e1⟩, ?_⟩
  rintro h1 h2 ⟨o', q1, q2⟩ k
  exact ⟨o', k _ q1, q2⟩
def A1' (te : TE) : TE := fun σ H Q => te σ H fun x H1 => ∃ a kvs, x = .ref a /\ Rd H1 a (.dK kvs) /\ ∀ p, H1 p = none -> Q (.ref p) (upd H1 p (oj' p a))
def Bh' : List V -> Hp -> VK -> Prop := fun xs H Q => ∃ (p a : Addr) (kvs : List (Key × V)) (ns : List Int), xs = [.ref p] /\ H p = some (oj' p a) /\ Rd H a (.dK kvs) /\ kvs.map Prod.snd = ns.map V.int /\ 0 < ns.length /\ ∀ m, m ∈ ns -> (∀ y, y ∈ ns -> y <= m) -> Q (.int m) H
section
variable {X : Cx} {W : WX} {e : Expr} {te : TE} {apos cpos pos p : Pos} {me : M.ME}
theorem vX' (he : PE X e te) (hbase : attributeBase e "values" X.env (eval e X.env) = eval e X.env := by rfl) (hline : (apos.endLine == cpos.line) = true := by rfl) : PE X (.Call (.Attribute e "values" apos) [] [] cpos) (A1' te) := by
  refine ⟨fun pins s σ H Q I h => wpAny_Call_method (T := "dict") (id := "dict.values") hbase rfl hline PySem.F.plainAttrs_dict PySem.F.slot_dict_values PySem.F.type_dict_values (thn (he.run pins s σ H _ I h) fun u s1 ⟨x, H1, I1, rx, a, kvs, ex, hd, q⟩ => ?_)⟩
  subst ex
  cases (show u = Value.ref a from rx)
  obtain ⟨z, hs, vs, rel, dd⟩ := dk_rd I1.hok hd
  refine ⟨dd.typeIs, dd.mapOf.noDict, ?_⟩
  have J := I1.laid (a := s1.heap.objs.size) (o := oj' s1.heap.objs.size a) (h' := s1.heap.push { cls := .type "dict_values", data := .fields #[.ref a] }) (t' := s1.toks) (fun _ _ q => Heap.get?_push_of_some _ q) (Nat.le_refl _)
    (sw' ⟨_, Heap.get?_push_size _ rfl, rfl, rfl⟩)
  show wpAny _ _ (callWith cpos (.builtin "dict.values") [.ref a] [] []) _ X.xe s1
  exact method_meetsIn PySem.F.slot_dict_values PySem.F.entry_dict_values rfl (PySem.evalArgs_none ⟨rfl, dd.typeIs, PySem.F.args_dict_values_1 _, _, meets_dict_values (mixKind X.prog X.w) a hs, ⟨vs, dd⟩, ⟨.ref s1.heap.objs.size, _, J, rfl, q _ (I1.hok.fresh (Nat.le_refl _))⟩⟩)
theorem xe' (hc : X.calm = true) : CallR X (.builtin "max") Bh' := by
  intro pins s σ H xs us Q I rx h
  obtain ⟨p, a, kvs, ns, rfl, hp, hd, hns, hne, q⟩ := h
  rw [Vals.ref1 rx]
  obtain ⟨z, hs, vs, rel, dd⟩ := dk_rd I.hok hd
  have hv : s.heap.IsValuesView p a := (show ObjOk X.prog X.w H s.heap p (oj' p a) from I.hok p _ hp).1
  have hkn : vs.length = ns.length := by
    have e := congrArg List.length hns
    rw [List.length_map, List.length_map] at e
    rw [<- rel.length]
    exact e
  obtain ⟨o, es, ep, g1, g2, g3, g4, g5, g6⟩ := id dd
  have da : s.heap.DictAt (mixKind X.prog X.w) a vs ep := ⟨o, es, g1, g2, g3, g4, g5, g6⟩
  have hP : ∀ (i : Nat) (k : Key) (v : Value), vs[i]? = some (k, v) -> ∃ t, v = .int (ns.getD i 0) t := by
    intro i k v hi
    have hi1 : i < vs.length := (List.getElem?_eq_some_iff.mp hi).1
    have hi2 : i < kvs.length := by rw [rel.length]; exact hi1
    have hi3 : i < ns.length := by omega
    have e2 : kvs[i].2 = V.int ns[i] := by
      have z : (kvs.map Prod.snd)[i]? = (ns.map V.int)[i]? := by rw [hns]
      rw [List.getElem?_map, List.getElem?_map, List.getElem?_eq_getElem hi2, List.getElem?_eq_getElem hi3] at z
      exact Option.some.inj z
    have e3 : ns.getD i 0 = ns[i] := by rw [List.getD_eq_getElem?_getD, List.getElem?_eq_getElem hi3]; rfl
    have main : ∀ {l : List (Key × V)} {m : List (Key × Value)} (i : Nat) (p : Key × V), KV l m -> l[i]? = some p -> ∀ q, m[i]? = some q -> RelV p.2 q.2 := by
      intro l m i p h
      unfold KV at h
      induction h generalizing i with
      | nil => intro e; cases e
      | cons r _ ih =>
        cases i with
        | zero => intro e q e'; cases e; cases e'; exact r.2
        | succ i => exact fun e q e' => ih i e q e'
    have r := main i kvs[i] rel (List.getElem?_eq_getElem hi2) _ hi
    rw [e2] at r
    rw [e3]
    exact r
  have ha : a < s.heap.objs.size := Heap.lt_size g1
  refine call_max_walk (wpAny_pyIter_values (d := a) (knd := mixKind X.prog X.w) hv da ?_)
  refine ⟨s.heap.objs.size, [s.heap.objs.size, a], [s.heap.objs.size], vs.length, fun i v => ∃ k, vs[i]? = some (k, v), _, fun i j => decide (ns.getD i 0 > ns.getD j 0), rfl,
    Walks.dictValues (knd := mixKind X.prog X.w) (show X.A.in1.handled = none from I.ok.hd hc) _ a (Nat.ne_of_lt ha) vs ep, ⟨⟨_, Heap.get?_push_size _ rfl, rfl, rfl⟩, da.push _⟩, fun b hb => ?_, by omega, CmpOf.ints_gt (fun i => ns.getD i 0) (fun i v z => (let ⟨k, z⟩ := z; hP i k v z)), fun v h' tk hv' hk => ?_⟩
  . show b < (s.heap.push _).objs.size
    rw [Heap.size_push]
    rcases List.mem_cons.mp hb with z | z
    . rw [z]; exact Nat.lt_succ_self _
    . rw [List.mem_singleton.mp z]; exact Nat.lt_succ_of_lt ha
  . obtain ⟨k, hv'⟩ := hv'
    obtain ⟨t, rfl⟩ := hP _ k v hv'
    obtain ⟨m1', m2'⟩ := argBest_gt (fun i => ns.getD i 0) (vs.length - 1)
    have m1 : argBest (fun i j => decide (ns.getD i 0 > ns.getD j 0)) (vs.length - 1) <= vs.length - 1 := m1'
    have m2 : ∀ j, j <= vs.length - 1 -> ns.getD j 0 <= ns.getD (argBest (fun i j => decide (ns.getD i 0 > ns.getD j 0)) (vs.length - 1)) 0 := m2'
    have hk2 : ∀ b o, s.heap.get? b = some o -> h'.get? b = some o := fun b o e => hk b o (fun z => by rw [List.mem_singleton.mp z] at e; exact absurd (Heap.lt_size e) (Nat.lt_irrefl _)) (Heap.get?_push_of_some _ e)
    refine ⟨.int _, H, I.kept (t' := tk) hk2, ⟨t, rfl⟩, q _ (PySem.getD_mem (by omega)) fun y hy => ?_⟩
    obtain ⟨j, hj, e⟩ := List.mem_iff_getElem.mp hy
    have z := m2 j (by omega)
    have e3 : ns.getD j 0 = y := by rw [List.getD_eq_getElem?_getD, List.getElem?_eq_getElem hj, <- e]; rfl
    rw [e3] at z
    exact z
theorem qB' {x : Str} (hc : X.calm = true) (hg : Gl X x) (hm : X.mg x = none) (hv : bootBuiltins x = some (.builtin "max")) (he : SE X W e me) (hn : x ≠ "__name__" := by decide) (hdb : (x == ("__debug__" : Str)) = false := by decide)
    (hbase : attributeBase e "values" X.env (eval e X.env) = eval e X.env := by rfl) (hline : (apos.endLine == cpos.line) = true := by rfl)
    (hs : starEach [(.Call (.Attribute e "values" apos) [] [] cpos)] X.env = (false, eval (.Call (.Attribute e "values" apos) [] [] cpos) X.env) :: starEach [] X.env := by rfl) (hpl : (backTo pos (starEach [] X.env)).any (·.1) = false := by rfl) :
    SE X W (.Call (.Name x p) [.Call (.Attribute e "values" apos) [] [] cpos] [] pos) (M.eUn M.oA' me) :=
  PE.imp (pe_callB (xe' hc) hg hm hv (pa_cons (vX' he hbase hline) pa_nil hs) hn hdb hs hpl) fun σ H Q ⟨ρ, F, T, fr, rel, h⟩ => by
    refine ay' rel h fun d ρ1 v H1 F1 T1 e1 z1 r1 h1 => ?_
    obtain ⟨dz, ez, q⟩ := aZ'.ofO h1
    cases d <;> try (cases ez; done)
    rename_i ks vs
    cases z1 with
    | @dct a kvs _ hd ok za =>
      simp only [M.oA'] at ez
      cases qi : M.bC' vs with
      | none => rw [qi] at ez; cases ez
      | some ns =>
        rw [qi, Option.bind_some] at ez
        split at ez
        . cases ez
        . rename_i hne
          cases ez
          obtain ⟨fp, f, back⟩ := r1.fp
          have hR := f4' f.low hd
          refine ⟨a, kvs, rfl, hR, fun p hp => ⟨p, a, kvs, ns, rfl, upd_same, ?_, jh' za qi, List.length_pos_iff.mpr hne, fun m hm hM => ?_⟩⟩
          . rcases hR with hR | ⟨o, hR⟩
            . exact .inl (by rw [upd_ne (ne_of_none hR hp)]; exact hR)
            . exact .inr ⟨o, by rw [upd_ne (ne_of_none hR hp)]; exact hR⟩
          . rw [<- ku' ns m hm hM] at *
            have s : Same F1 (upd F1 p (oj' p a)) := cI' (f.free hp)
            exact q _ _ _ T1 (e1.trans (.of s)) (.int _) (back _ _ s (f.new hp))
end
end S
namespace S
open PySem PySem.Spec PyProof.Rows L2
variable [Wd] [Hot]
section
variable {K : PySem.W.Frag} {F H : Hp} {T : List Addr}
mutual
theorem gU' : ∀ {v : V} {d : M.D}, Fz K F T v d -> M.dat d = true -> M.sk' d = true -> (py d).leavesShort 62 = true /\ (py d).showable = true /\ (py d).hasDict = false /\ (py d).bulk = M.o4' d
  | _, _, .non, _, _ => ⟨rfl, rfl, rfl, rfl⟩
  | _, _, .bl b, _, _ => ⟨rfl, rfl, rfl, rfl⟩
  | _, _, .int i, _, h => by
    have h : i.natAbs < 10 ^ 60 := of_decide_eq_true h
    refine ⟨?_, ?_, rfl, rfl⟩
    . show decide ((Str.ofString (toString i)).length <= 62) = true
      rw [decide_eq_true_iff, PySem.ofString_length]
      have := int_text_length_le10 (k := 60) (by decide) h
      omega
    . show decide (i.natAbs.log2 < 1920) = true
      rw [decide_eq_true_iff]
      have h2 : i.natAbs < 2 ^ 1920 := Nat.lt_of_lt_of_le h (by decide +kernel)
      by_cases h0 : i.natAbs = 0
      . rw [h0]; decide
      . exact (Nat.log2_lt h0).mpr h2
  | _, _, .str (s := s) o, _, _ => by
    refine ⟨?_, rfl, rfl, ?_⟩
    . show (sx s).cps.toList.all _ = true
      rw [fV', List.all_eq_true]
      intro c hc
      rw [decide_eq_true_iff]
      have := o.1 c hc
      omega
    . exact cz' s
  | _, _, .tup h r, e, g => by
    obtain ⟨a, b, c, d⟩ := reps_facts r e g
    exact ⟨a, b, c, d⟩
  | _, _, .lst h r, e, g => by
    obtain ⟨a, b, c, d⟩ := reps_facts r e g
    exact ⟨a, b, c, d⟩
  | _, _, .dct h _ r, e, _ => by cases e
  | _, _, .dcl h k r, e, _ => by cases e
  | _, _, .dcn h k q r, e, _ => by cases e
  | _, _, .rep d, e, _ => by cases e
  | _, _, .obj h, e, _ => by cases e
  | _, _, .ty n, e, _ => by cases e
  | _, _, .fn x, e, _ => by cases e
  | _, _, .scr h r, e, _ => by cases e
theorem reps_facts : ∀ {vs : List V} {ds : List M.D}, FzA K F T vs ds -> M.dats ds = true -> M.repIs ds = true -> PyData.leavesShortAll 62 (pys ds) = true /\ PyData.showableAll (pys ds) = true /\ PyData.hasDictAll (pys ds) = false /\ PyData.bulkAll (pys ds) = M.repWs ds
  | _, _, .nil, _, _ => ⟨rfl, rfl, rfl, rfl⟩
  | _, _, .cons h r, e, g => by
    obtain ⟨e1, e2⟩ := Bool.and_eq_true_iff.mp (show (M.dat _ && M.dats _) = true from e)
    obtain ⟨g1, g2⟩ := Bool.and_eq_true_iff.mp (show (M.sk' _ && M.repIs _) = true from g)
    obtain ⟨a1, a2, a3, a4⟩ := gU' h e1 g1
    obtain ⟨b1, b2, b3, b4⟩ := reps_facts r e2 g2
    refine ⟨?_, ?_, ?_, ?_⟩
    . show (PyData.leavesShort 62 _ && PyData.leavesShortAll 62 _) = true
      rw [a1, b1]; rfl
    . show (PyData.showable _ && PyData.showableAll _) = true
      rw [a2, b2]; rfl
    . show (PyData.hasDict _ || PyData.hasDictAll _) = false
      rw [a3, b3]; rfl
    . show PyData.bulk _ + 1 + PyData.bulkAll _ = M.o4' _ + 1 + M.repWs _
      rw [a4, b4]
end
mutual
theorem lw' : ∀ d e : M.D, M.same d e = true -> d = e
  | .non, e, h => by cases e <;> first | rfl | (cases h)
  | .bl a, e, h => by cases e <;> first | (have := eq_of_beq (show (_ == _) = true from h); rw [this]) | (cases h)
  | .int a, e, h => by cases e <;> first | (have := eq_of_beq (show (_ == _) = true from h); rw [this]) | (cases h)
  | .str a, e, h => by cases e <;> first | (have := eq_of_beq (show (_ == _) = true from h); rw [this]) | (cases h)
  | .lst a, e, h => by
    cases e with
    | lst b => rw [sames_eq a b h]
    | _ => cases h
  | .tup a, e, h => by
    cases e with
    | tup b => rw [sames_eq a b h]
    | _ => cases h
  | .dct a b, e, h => by
    cases e with
    | dct c d =>
      obtain ⟨h1, h2⟩ := Bool.and_eq_true_iff.mp (show (M.sames a c && M.sames b d) = true from h)
      rw [sames_eq a c h1, sames_eq b d h2]
    | _ => cases h
  | .dcx _ _, e, h => by cases e <;> cases h
  | .rep _, e, h => by cases e <;> cases h
  | .obj _, e, h => by cases e <;> cases h
  | .ty _, e, h => by cases e <;> cases h
  | .fn _, e, h => by cases e <;> cases h
  | .exc _ _, e, h => by cases e <;> cases h
  | .scr _, e, h => by cases e <;> cases h
theorem sames_eq : ∀ d e : List M.D, M.sames d e = true -> d = e
  | [], [], _ => rfl
  | [], _ :: _, h => by cases h
  | _ :: _, [], h => by cases h
  | a :: d, b :: e, h => by
    obtain ⟨h1, h2⟩ := Bool.and_eq_true_iff.mp (show (M.same a b && M.sames d e) = true from h)
    rw [lw' a b h1, sames_eq d e h2]
end
end
section
variable {K : PySem.W.Frag} {F H : Hp} {T : List Addr}
theorem FzA.keys : ∀ {kvs : List (Key × V)}, le' kvs -> FzA K F T (kvs.map fun p => kV p.1) (kvs.map fun p => kD p.1)
  | [], _ => .nil
  | (k, v) :: r, h => by
    have hk := h (k, v) (List.mem_cons_self ..)
    refine .cons ?_ (FzA.keys fun p hp => h p (List.mem_cons_of_mem _ hp))
    cases k with
    | inl i => exact .int i
    | inr x =>
      have : Fz K F T (.str (sx x.cps.toList)) (.str x.cps.toList) := .str hk
      exact this
theorem hy' : ∀ kvs : List (Key × V), M.dats (kvs.map fun p => kD p.1) = true
  | [] => rfl
  | (k, v) :: r => by
    show (M.dat (kD k) && M.dats (r.map fun p => kD p.1)) = true
    rw [hy' r]
    cases k <;> rfl
theorem dZ' : ∀ {ds : List M.D}, ds.all M.et' = true -> M.dats ds = true
  | [], _ => rfl
  | d :: r, h => by
    rw [List.all_cons, Bool.and_eq_true] at h
    show (M.dat d && M.dats r) = true
    rw [dZ' h.2]
    cases d <;> first | rfl | cases h.1
theorem uL' : ∀ {ks ds : List PyData}, ks.length = ds.length -> PyData.leavesShortAll 62 ks = true -> PyData.leavesShortAll 62 ds = true -> PyData.showableAll ks = true -> PyData.showableAll ds = true →
    PyData.leavesShortKv 62 (ks.zip ds) = true /\ PyData.showableKv (ks.zip ds) = true /\ PyData.bulkKv (ks.zip ds) = PyData.bulkAll ks + PyData.bulkAll ds /\ PyData.depthKv (ks.zip ds) = max (PyData.depthAll ks) (PyData.depthAll ds)
  | [], [], _, _, _, _, _ => ⟨rfl, rfl, rfl, rfl⟩
  | [], _ :: _, e, _, _, _, _ => by cases e
  | _ :: _, [], e, _, _, _, _ => by cases e
  | k :: ks, d :: ds, e, a1, b1, a2, b2 => by
    obtain ⟨a1, a1'⟩ := Bool.and_eq_true_iff.mp (show (PyData.leavesShort 62 k && PyData.leavesShortAll 62 ks) = true from a1)
    obtain ⟨b1, b1'⟩ := Bool.and_eq_true_iff.mp (show (PyData.leavesShort 62 d && PyData.leavesShortAll 62 ds) = true from b1)
    obtain ⟨a2, a2'⟩ := Bool.and_eq_true_iff.mp (show (PyData.showable k && PyData.showableAll ks) = true from a2)
    obtain ⟨b2, b2'⟩ := Bool.and_eq_true_iff.mp (show (PyData.showable d && PyData.showableAll ds) = true from b2)
    obtain ⟨h1, h2, h3, h4⟩ := uL' (Nat.succ.inj e) a1' b1' a2' b2'
    refine ⟨?_, ?_, ?_, ?_⟩
    . show (PyData.leavesShort 62 k && PyData.leavesShort 62 d && PyData.leavesShortKv 62 (ks.zip ds)) = true
      rw [a1, b1, h1]; rfl
    . show (PyData.showable k && PyData.showable d && PyData.showableKv (ks.zip ds)) = true
      rw [a2, b2, h2]; rfl
    . show PyData.bulk k + PyData.bulk d + 2 + PyData.bulkKv (ks.zip ds) = (PyData.bulk k + 1 + PyData.bulkAll ks) + (PyData.bulk d + 1 + PyData.bulkAll ds)
      rw [h3]; omega
    . show max (max (PyData.depth k) (PyData.depth d)) (PyData.depthKv (ks.zip ds)) = max (max (PyData.depth k) (PyData.depthAll ks)) (max (PyData.depth d) (PyData.depthAll ds))
      rw [h4]; omega
theorem lC' : ∀ ds : List M.D, (pys ds).length = ds.length
  | [] => rfl
  | _ :: r => congrArg (· + 1) (lC' r)
theorem FzA.len : ∀ {vs : List V} {ds : List M.D}, FzA K F T vs ds -> vs.length = ds.length
  | _, _, .nil => rfl
  | _, _, .cons _ r => congrArg (· + 1) (FzA.len r)
theorem kK' : ∀ kvs : List (Key × V), M.deps (kvs.map fun p => kD p.1) = 0
  | [] => rfl
  | (k, v) :: r => by
    show max (M.dep (kD k)) (M.deps (r.map fun p => kD p.1)) = 0
    rw [kK' r]
    cases k <;> rfl
theorem is' : ∀ {ds : List M.D}, ds.all M.et' = true -> M.deps ds = 0
  | [], _ => rfl
  | d :: r, h => by
    rw [List.all_cons, Bool.and_eq_true] at h
    show max (M.dep d) (M.deps r) = 0
    rw [is' h.2]
    cases d <;> first | rfl | cases h.1
def kP : Key -> PyData := fun k => py (kD k)
inductive Dq0 (K : PySem.W.Frag) (H : Hp) : V -> PyData -> Prop
  | dp {v : V} {d : PyData} : Dp K H v d -> d.hasDict = false -> Dq0 K H v d
  | dct {a : Addr} {kvs : List (Key × V)} {ds : List M.D} : Rd H a (.dK kvs) -> le' kvs -> DpAll K H (kvs.map (·.2)) (pys ds) -> ds.all M.et' = true -> Dq0 K H (.ref a) (.dict ((pys (kvs.map fun p => kD p.1)).zip (pys ds)))
inductive LqAll (K : PySem.W.Frag) (H : Hp) : List V -> List M.D -> Prop
  | nil : LqAll K H [] []
  | leaf {v : V} {d : M.D} {vs : List V} {ds : List M.D} : Dp K H v (py d) -> M.et' d = true -> LqAll K H vs ds -> LqAll K H (v :: vs) (d :: ds)
  | emp {a : Addr} {vs : List V} {ds : List M.D} : Rd H a (.dK []) -> LqAll K H vs ds -> LqAll K H (.ref a :: vs) (.dct [] [] :: ds)
inductive Dq (K : PySem.W.Frag) (H : Hp) : V -> PyData -> Prop
  | old {v : V} {d : PyData} : Dq0 K H v d -> Dq K H v d
  | tupE {a : Addr} {vs : List V} {ds : List M.D} : SqT K H a vs -> LqAll K H vs ds -> Dq K H (.ref a) (.tuple (pys ds))
theorem kv' {d : M.D} (h : M.et' d = true) : M.dat d = true := by cases d <;> first | rfl | cases h
theorem rC' {d : M.D} (h : M.et' d = true) : (py d).depth = 0 := by cases d <;> first | rfl | cases h
theorem yN' (s : Same F H) : ∀ {vs : List V} {ds : List M.D}, FzA K F T vs ds -> (ds.all fun d => M.et' d || M.BC' d) = true -> M.repIs ds = true →
    LqAll K H vs ds /\ PyData.leavesShortAll 62 (pys ds) = true /\ PyData.showableAll (pys ds) = true /\ PyData.depthAll (pys ds) <= 1 /\ PyData.bulkAll (pys ds) = M.repWs ds
  | _, _, .nil, _, _ => ⟨.nil, rfl, rfl, Nat.zero_le 1, rfl⟩
  | _, _, .cons (v := v) (d := d) (ds := ds) h r, e, g => by
    rw [List.all_cons, Bool.and_eq_true] at e
    obtain ⟨g1, g2⟩ := Bool.and_eq_true_iff.mp (show (M.sk' _ && M.repIs _) = true from g)
    obtain ⟨b0, b1, b2, b3, b4⟩ := yN' s r e.2 g2
    cases hl : M.et' d with
    | true =>
      obtain ⟨a1, a2, a3, a4⟩ := gU' h (kv' hl) g1
      refine ⟨.leaf (h.py s (kv' hl)) hl b0, ?_, ?_, ?_, ?_⟩
      . show (PyData.leavesShort 62 _ && PyData.leavesShortAll 62 _) = true
        rw [a1, b1]; rfl
      . show (PyData.showable _ && PyData.showableAll _) = true
        rw [a2, b2]; rfl
      . show max (PyData.depth _) (PyData.depthAll _) <= 1
        rw [rC' hl]; omega
      . show PyData.bulk _ + 1 + PyData.bulkAll _ = M.o4' _ + 1 + M.repWs _
        rw [a4, b4]
    | false =>
      have e1 := e.1
      rw [hl, Bool.false_or] at e1
      cases h with
      | @dct a kvs es hr k r' =>
        have h1 : kvs = [] /\ es = [] := by
          cases kvs with
          | nil => cases es with
            | nil => exact ⟨rfl, rfl⟩
            | cons _ _ => cases e1
          | cons _ _ => cases e1
        obtain ⟨rfl, rfl⟩ := h1
        refine ⟨.emp (f4' s hr) b0, ?_, ?_, ?_, ?_⟩
        . show (PyData.leavesShort 62 (.dict []) && PyData.leavesShortAll 62 _) = true
          rw [b1]; rfl
        . show (PyData.showable (.dict []) && PyData.showableAll _) = true
          rw [b2]; rfl
        . show max (PyData.depth (.dict [])) (PyData.depthAll _) <= 1
          rw [show PyData.depth (.dict []) = 1 from rfl]; omega
        . show PyData.bulk (.dict []) + 1 + PyData.bulkAll _ = M.o4' (.dct [] []) + 1 + M.repWs _
          rw [b4]; rfl
      | _ => cases e1
theorem yg' {v : V} {d : M.D} (s : Same F H) (h : Fz K F T v d) (c1 : M.xq' d = true) (c2 : M.dep d <= 40) (c3 : M.sk' d = true) :
    Dq K H v (py d) /\ (py d).leavesShort 62 = true /\ (py d).showable = true /\ (py d).depth <= 40 /\ (py d).bulk = M.o4' d := by
  have old (e : M.dat d = true) : Dq K H v (py d) /\ (py d).leavesShort 62 = true /\ (py d).showable = true /\ (py d).depth <= 40 /\ (py d).bulk = M.o4' d := by
    obtain ⟨a1, a2, a3, a4⟩ := gU' h e c3
    exact ⟨.old (.dp (h.py s e) a3), a1, a2, by rw [(nS' h e).2]; exact c2, a4⟩
  cases h with
  | @dct a kvs ds h k r =>
    have c1 : ds.all M.et' = true := c1
    obtain ⟨c3, c3'⟩ := Bool.and_eq_true_iff.mp (show (M.repIs (kvs.map fun p => kD p.1) && M.repIs ds) = true from c3)
    obtain ⟨a1, a2, a3, a4⟩ := reps_facts (FzA.keys (K := K) (F := F) (T := T) k) (hy' kvs) c3
    obtain ⟨b1, b2, b3, b4⟩ := reps_facts r (dZ' c1) c3'
    have hl : (pys (kvs.map fun p => kD p.1)).length = (pys ds).length := by
      rw [lC', lC', List.length_map, <- r.len, List.length_map]
    obtain ⟨z1, z2, z3, z4⟩ := uL' hl a1 b1 a2 b2
    refine ⟨.old (.dct (f4' s h) k (r.py s (dZ' c1)) c1), z1, z2, ?_, ?_⟩
    . show PyData.depthKv _ + 1 <= 40
      rw [z4, (lays_of (FzA.keys (K := K) (F := F) (T := T) k) (hy' kvs)).2, kK', (lays_of r (dZ' c1)).2, is' c1]
      decide
    . show PyData.bulkKv _ = M.repWs _ + M.repWs _
      rw [z3, a4, b4]
  | @tup a vs ds h r =>
    cases hd : M.dats ds with
    | true => exact old hd
    | false =>
      have c1 : (M.dats ds || ds.all fun d => M.et' d || M.BC' d) = true := c1
      rw [hd, Bool.false_or] at c1
      obtain ⟨b0, b1, b2, b3, b4⟩ := yN' s r c1 c3
      refine ⟨.tupE (SqT.low s h) b0, b1, b2, ?_, b4⟩
      show PyData.depthAll _ + 1 <= 40
      omega
  | _ => exact old c1
end
section
variable {X : Cx} {pins : List (Addr × Obj)} {σ : St} {H : Hp} {s : Shared}
theorem er' (I : Inv X pins σ H s) {d : M.D} {v : V} {u : Value} (l : M.et' d = true) (h : Dp X.K H v (py d)) (r : RelV v u) : Reads s.heap u (py d) [] := by
  cases d with
  | non => cases h; cases r; exact .none
  | bl b => cases h; cases r; exact .bool b
  | int i => cases h; obtain ⟨t, rfl⟩ := r; exact .int i t
  | str x => cases h; obtain ⟨t, rfl⟩ := r; exact .str _ t
  | _ => cases l
theorem ii' (I : Inv X pins σ H s) : ∀ {kvs : List (Key × V)} {vs : List (Key × Value)} {ds : List M.D}, KV kvs vs -> DpAll X.K H (kvs.map (·.2)) (pys ds) -> ds.all M.et' = true →
    PyProof.V.PairsRead s.heap kP vs ((pys (kvs.map fun p => kD p.1)).zip (pys ds)) []
  | _, _, [], .nil, _, _ => .nil
  | _, _, _ :: _, .nil, h, _ => by cases h
  | _, _, [], .cons _ _, h, _ => by cases h
  | (k, v) :: kvs, (k', u) :: vs, d :: ds, .cons hr hp, h, l => by
    obtain ⟨he, hr⟩ := hr
    have he : k = k' := he
    subst he
    rw [List.all_cons, Bool.and_eq_true] at l
    cases h with
    | cons h1 h2 =>
      have := PyProof.V.PairsRead.cons (enc := kP) (k := k) (er' I l.1 h1 hr) (ii' I hp h2 l.2)
      exact this
theorem Dq0.reads (I : Inv X pins σ H s) {d : PyData} {v : V} {u : Value} (h : Dq0 X.K H v d) (r : RelV v u) : ∃ as, Reads s.heap u d as /\ (d.hasDict = true -> sysModules ∉ as) := by
  cases h with
  | dp dp e =>
    obtain ⟨as, rd⟩ := Dp.reads I d v u dp r
    exact ⟨as, rd, PyData.noDict_hsm e⟩
  | @dct a kvs ds e k dd l =>
    cases r
    obtain ⟨_, hs, vs, rk, hd⟩ := dk_rd I.hok e
    refine ⟨[a], PyProof.V.reads_dictOf (enc := kP) (fun k key hk => ?_) hd (ii' I rk dd l), fun _ hm => ?_⟩
    . rcases keyIs_shape hk with ⟨i, t, rfl, rfl⟩ | ⟨x, t, rfl, rfl⟩
      . exact .int i t
      . exact .str _ t
    . have := List.mem_singleton.mp hm
      rw [<- this] at hs
      simp at hs
theorem tj' (I : Inv X pins σ H s) : ∀ {vs : List V} {us : List Value} {ds : List M.D}, LqAll X.K H vs ds -> Vals vs us -> ∃ as, ReadsAll s.heap us (pys ds) as /\ sysModules ∉ as := by
  intro vs us ds h
  induction h generalizing us with
  | nil =>
    intro r
    cases r
    exact ⟨[], .nil, by simp⟩
  | leaf h1 h2 _ ih =>
    intro r
    cases r with
    | cons r1 r2 =>
      obtain ⟨bs, q2, q3⟩ := ih r2
      exact ⟨_, .cons (er' I h2 h1 r1) q2, by simpa using q3⟩
  | emp h1 _ ih =>
    intro r
    cases r with
    | cons r1 r2 =>
      obtain ⟨bs, q2, q3⟩ := ih r2
      obtain ⟨as, q1, q4⟩ := Dq0.reads I (Dq0.dct (ds := []) h1 (fun p hp => by cases hp) .nil rfl) r1
      exact ⟨_, .cons q1 q2, by
        rw [List.mem_append]
        rintro (h | h)
        . exact q4 rfl h
        . exact q3 h⟩
theorem Dq.reads (I : Inv X pins σ H s) {d : PyData} {v : V} {u : Value} (h : Dq X.K H v d) (r : RelV v u) : ∃ as, Reads s.heap u d as /\ (d.hasDict = true -> sysModules ∉ as) := by
  cases h with
  | old h => exact h.reads I r
  | tupE hs la =>
    cases r
    obtain ⟨its, rv, ⟨o, ho, hc, n, hd⟩, _⟩ := I.tuple hs
    obtain ⟨as, hr, hm⟩ := tj' I la rv
    exact ⟨_, Reads.tuple ho hc hd hr, fun _ => hm⟩
end
def rRep (K : PySem.W.Frag) : List V -> Hp -> VK -> Prop := fun xs H Q => ∃ v d, xs = [v] /\ Dq K H v d /\ d.showable = true /\ d.depth <= 40 /\ d.shown.length <= sizeLine /\ Q (.str d.shown) H
section
variable {X : Cx}
theorem gD' (hu : X.A.units + 64 < cLine) (hg : X.A.guards = some []) : CallR X (.builtin "repr") (rRep X.K) := by
  intro pins s σ H vs us Q I r h
  obtain ⟨v, d, rfl, dp, h1, h3, h4, q⟩ := h
  cases r with
  | @cons _ u _ _ ru rn =>
    cases rn
    obtain ⟨as, rd, hm⟩ := dp.reads I ru
    cases rd with
    | none => exact P.repr_of_none ⟨.str _, H, I.tok _, ⟨_, rfl⟩, q⟩
    | bool b => exact P.repr_of_bool ⟨.str _, H, I.tok _, ⟨_, rfl⟩, q⟩
    | int i t => exact P.repr_of_int (of_decide_eq_true h1) ⟨.str _, H, I.tok _, ⟨_, rfl⟩, q⟩
    | str x t => exact P.repr_of_str (hsz := h4) ⟨.str _, H, I.tok _, ⟨_, rfl⟩, q⟩
    | list a b c e => exact repr_of_reads' (.list a b c e) h1 hm hg (by omega) (fun _ _ z => z) (fun h' u tk hk => ⟨.str _, H, I.kept hk, ⟨_, rfl⟩, q⟩) h4
    | tuple a b c e => exact repr_of_reads' (.tuple a b c e) h1 hm hg (by omega) (fun _ _ z => z) (fun h' u tk hk => ⟨.str _, H, I.kept hk, ⟨_, rfl⟩, q⟩) h4
    | dict a b c e f => exact repr_of_reads' (.dict a b c e f) h1 hm hg (by omega) (fun _ _ z => z) (fun h' u tk hk => ⟨.str _, H, I.kept hk, ⟨_, rfl⟩, q⟩) h4
end
section
variable {K : PySem.W.Frag}
theorem tV' : Bi1 K M.v1' (rRep K) := by
  intro F H T fp x dx dz Q f hx h k
  unfold M.v1' at h
  split at h
  . rename_i hc
    obtain ⟨c1, c2, c3, c4⟩ := hc
    cases h
    obtain ⟨a0, a1, a2, a3, a4⟩ := yg' f.low hx c1 c2 c3
    refine ⟨x, py dx, rfl, a0, a2, a3, ?_, k.here f (.rep dx)⟩
    have := PyData.shown_le_bulk 62 (by decide) (py dx) a1
    rw [a4] at this
    rw [bM']
    show _ <= 16777216
    omega
  . cases h
theorem iW' {F : Hp} {T : List Addr} {v : V} {d : M.D} (h : Fz K F T v (.rep d)) : v = .str (py d).shown := by cases h; rfl
theorem By' : Op2 K M.Ap' (Bi' K) := by
  intro F H T fp x y dx dy dz Q f hx hy h k
  cases dx <;> try (cases h; done)
  cases dy <;> try (cases h; done)
  simp only [M.Ap'] at h
  split at h
  . rename_i hs
    cases h
    have e := lw' _ _ hs
    subst e
    obtain rfl := iW' hx
    obtain rfl := iW' hy
    exact .inl ⟨rfl, by rw [decide_eq_true rfl]; exact k.here f (.bl true)⟩
  . cases h
theorem Bw' : Op2 K M.Ao' (Bf' K) := by
  intro F H T fp x y dx dy dz Q f hx hy h k
  cases dx <;> try (cases h; done)
  cases dy <;> try (cases h; done)
  simp only [M.Ao'] at h
  split at h
  . rename_i hs
    cases h
    have e := lw' _ _ hs
    subst e
    obtain rfl := iW' hx
    obtain rfl := iW' hy
    exact .inl ⟨rfl, by rw [decide_eq_true rfl]; exact k.here f (.bl false)⟩
  . cases h
end
end S
namespace S
open PySem PySem.Spec PyProof.Rows L2
variable [Wd] [Hot]
local macro_rules | `(tactic| walk_at "parts") => `(tactic| (constructor; (intro e h; simp only [List.mem_append, List.mem_cons, List.not_mem_nil] at *; grind); (intro x; simp only [keys, List.map_append, List.map_cons, List.map_nil, List.count_append, List.count_cons, List.count_nil] at *; omega)))
def CN' (K : PySem.W.Frag) (ps : List (String × String)) (mf : M.MF) : R2 := fun x y H Q => ∃ (C C' : String) (a b dx dy : Addr) (fs gs : List (Str × V)), (C, C') ∈ ps /\ x = .ref a /\ y = .ref b ∧
  H a = some (.ins (He.ga K (Str.ofString C)) dx fs) /\ H b = some (.ins (He.ga K (Str.ofString C')) dy gs) /\ spM K mf [x, y] H (fun v H' => ∃ r, v = .bl r /\ Q (.bl r) H') E0
section
variable {K : PySem.W.Frag} {σ : St} {H : Hp} {Q : VK} {W : WX}
theorem tt' {ps : List (String × String)} {w : M.W} {x y : M.D} (h : M.wB' ps w x y = true) : ∃ n m C C' fs gs, x = .obj n /\ y = .obj m /\ w[n]? = some (.ins C fs) /\ w[m]? = some (.ins C' gs) /\ (C, C') ∈ ps := by
  unfold M.wB' at h
  split at h
  . rename_i n m
    split at h
    . rename_i C fs C' gs e1 e2
      exact ⟨n, m, C, C', fs, gs, rfl, rfl, e1, e2, of_decide_eq_true h⟩
    . cases h
  . cases h
theorem tz' {ps : List (String × String)} {mf : M.MF} {ma mb : M.ME} (h : qE K W (M.wH' ps mf ma mb) σ H Q) : tOp (CN' K ps mf) (qE K W ma) (qE K W mb) σ H Q := by
  obtain ⟨ρ, F, T, fr, rel, h⟩ := h
  refine ay' rel h fun dx ρ1 v H1 F1 T1 e1 z1 r1 h1 => ?_
  refine ay' r1 h1 fun dy ρ2 u H2 F2 T2 e2 z2 r2 h2 => ?_
  split at h2
  . rename_i hi
    obtain ⟨n, m, C, C', fs, gs, rfl, rfl, ew, ew', hC⟩ := tt' hi
    obtain ⟨a, d1, fv, os, f2, hT, rfl, hH, _⟩ := r2.wins ew
    obtain ⟨b, d2, fv', os', f2', hT', rfl, hH', _⟩ := r2.wins ew'
    have z1 := z1.mono e2
    cases z1 with
    | obj t =>
      rw [hT] at t
      cases t
      cases z2 with
      | obj t =>
        rw [hT'] at t
        cases t
        refine ⟨C, C', a, b, d1, d2, _, _, hC, rfl, rfl, hH, hH', ?_⟩
        obtain ⟨fe, fw, re, rw, f⟩ := r2
        refine ⟨[.obj n, .obj m], ρ2.w, F2, T2, fe ++ fr, .cons (.obj hT) (.cons (.obj hT') .nil), ⟨[], fw, xv', rw, f.part (by walk_at "parts")⟩, ?_⟩
        cases em : mf [.obj n, .obj m] ρ2.w with
        | bad => rw [em] at h2; exact h2.elim
        | exc x w' => rw [em] at h2; exact h2.elim
        | ok o w' =>
          rw [em] at h2
          intro w H' F' T' fp e z r
          cases z with
          | fz z =>
            rename_i d
            cases d <;> try exact h2.elim
            cases z
            exact ⟨_, rfl, h2 _ H' F' T' (e1.trans (e2.trans e)) (.bl _) (Rel.reenv (fp := []) re e r)⟩
          | lst _ => exact h2.elim
          | tup _ => exact h2.elim
          | dct _ _ => exact h2.elim
          | dcl _ _ => exact h2.elim
          | dcn _ _ _ => exact h2.elim
  . exact h2.elim
end
section
variable {X : Cx} {W : WX} {pos p : Pos} {a b e : Expr} {ma mb : M.ME} {mo : M.MO} {k : Nat} {args : List Str} {mf : M.MF}
def CD' (K : PySem.W.Frag) (t : M.ET) (c : String) : Prop := (∀ e ∈ t, e.2.1 = c -> Cls K (He.ga K (Str.ofString e.1)) /\ PySem.W.findIn K (.ref (He.ga K (Str.ofString e.1))) "__class__" = some (some (.builtin "object.__class__")) ∧
    PySem.W.specialIn K (.builtin "object.__class__") "__get__" = some (some (.builtin "getset_descriptor.__get__")) /\ PySem.W.takesIn K (.builtin "object.__class__") = some true /\ PySem.W.mroIn K (He.ga K (Str.ofString e.1)) (.type "object") = some true ∧
    PySem.W.kitOne K (.ref (He.ga K (Str.ofString e.1))) (.ref (He.ga K (Str.ofString c))) = some e.2.2) ∧
  ∀ n ∈ ["NoneType", "bool", "int", "str", "tuple", "list", "dict"], PySem.W.kitOne K (.type n) (.ref (He.ga K (Str.ofString c))) = some false
theorem tq' {K : PySem.W.Frag} {t : M.ET} {c : String} (h : ws' K t c = true) : CD' K t c := by
  unfold ws' at h
  rw [Bool.and_eq_true] at h
  refine ⟨fun e he hc => ?_, fun n hn => of_decide_eq_true (List.all_eq_true.mp h.2 n hn)⟩
  have z := List.all_eq_true.mp h.1 e he
  rw [hc] at z
  simp only [decide_true, Bool.not_true, Bool.false_or, Bool.and_eq_true, decide_eq_true_eq] at z
  exact ⟨He.cls_ok z.1, z.2⟩
theorem qr' : ∀ {t : M.ET} {x c : String} {b : Bool}, M.sub t x c = some b -> (x, c, b) ∈ t
  | [], _, _, _, h => by cases h
  | (a, b, r) :: t, x, c, y, h => by
    unfold M.sub at h
    split at h
    . rename_i q
      obtain ⟨rfl, rfl⟩ := q
      cases h
      exact List.mem_cons_self
    . exact List.mem_cons_of_mem _ (qr' h)
theorem uz' {x : Str} (t : M.ET) (c : String) (hI : CD' X.K t c) (hg : Gl X x) (hm : X.mg x = none) (hv : bootBuiltins x = some (.builtin "isinstance")) (ha : SE X W a ma) (hb : PE X b (tC (.ref (He.ga X.K (Str.ofString c))))) (hn : x ≠ "__name__" := by decide) (hdb : (x == ("__debug__" : Str)) = false := by decide)
    (he : starEach [a, b] X.env = (false, eval a X.env) :: starEach [b] X.env := by rfl) (he2 : starEach [b] X.env = (false, eval b X.env) :: starEach [] X.env := by rfl) (hpl : (backTo pos (starEach [b] X.env)).any (·.1) = false := by rfl) : SE X W (.Call (.Name x p) [a, b] [] pos) (M.xx' t c ma) :=
  PE.imp (pe_callB call_isi hg hm hv (pa_cons ha (pa_cons hb pa_nil he2) he) hn hdb he hpl) fun σ H Q ⟨ρ, F, T, fr, rel, h⟩ => by
    refine ay' rel h fun dx ρ1 v H1 F1 T1 e1 z1 r1 h1 => ?_
    obtain ⟨dz, ez, q⟩ := aZ'.ofO h1
    by_cases ho : ∃ n, dx = .obj n
    . obtain ⟨n, rfl⟩ := ho
      simp only [M.isC] at ez
      cases ew : ρ1.w[n]? with
      | none => rw [ew] at ez; cases ez
      | some ob =>
        rw [ew] at ez
        cases ob <;> try (cases ez; done)
        rename_i C fs
        cases es : M.sub t C c with
        | none => simp only [es] at ez; cases ez
        | some r =>
          simp only [es] at ez
          cases ez
          obtain ⟨a, d1, fv, os, f2, hT, rfl, hH, _⟩ := r1.wins ew
          obtain ⟨q1, q2, q3, q4, q5, q6⟩ := hI.1 _ (qr' es) rfl
          cases id z1 with
          | obj t =>
            rw [hT] at t
            cases t
            exact ⟨.ref a, .ref _, _, _, r, rfl, .own _, .base (.ins hH q1 q2 q3 q4 q5), q6, q _ H1 F1 T1 e1 (.bl _) r1⟩
    . have e2 : ∃ n, M.tyn dx = some n /\ dz = .bl false := by
        cases dx <;> first | exact absurd ⟨_, rfl⟩ ho | (cases ez; exact ⟨_, rfl, rfl⟩) | (cases ez; done)
      obtain ⟨n, en, rfl⟩ := e2
      obtain ⟨fp, f, _⟩ := r1.fp
      exact ⟨_, .ref _, _, _, false, rfl, .own _, uq' f.low z1 en, hI.2 n (by cases dx <;> cases en <;> decide), q _ H1 F1 T1 e1 (.bl _) r1⟩
theorem yu' {σ : St} {H : Hp} {Q : Bool -> Hp -> Prop} {m : M.ME} (h : qT X.K W (M.tE m) σ H Q) : qE X.K W m σ H fun x H' => ∃ k, x = .bl k /\ Q k H' := by
  obtain ⟨ρ, F, T, fr, rel, h⟩ := h
  refine ⟨ρ, F, T, fr, rel, (aZ'.bind h).mono (fun d ρ1 h1 v H1 F1 T1 e z r => ?_) fun _ _ z => z⟩
  obtain ⟨k, rfl, h2⟩ := aZ'.asB h1
  exact ⟨k, z.bl_inv, h2 _ _ _ e r⟩
theorem iN' {i : Nat} (hw : X.prog = Wd.P /\ X.w = Wd.w) (hu : X.A.units + 64 < cLine) (ha : SE X W a ma) (hv : PE X b (tVar i)) (hm : behindInMarks .NotIn b = false := by rfl) : ST X W (.Compare a [.NotIn] [b] pos) (M.tE (M.tB' true i ma)) :=
  PT.imp (pt_cmpR (v6' hw hu) ha hv hm) fun _ _ _ h => tQ' (yu' h)
theorem qt' {i : Nat} (ha : SE X W a ma) (hv : PE X b (tVar i)) (hm : behindInMarks .NotIn b = false := by rfl) : ST X W (.Compare a [.NotIn] [b] pos) (M.tE (M.fJ' i ma)) := PT.imp (pt_cmpR dz' ha hv hm) fun σ H Q h => tu' (neg := true) (yu' h)
end
end S
namespace S
open PySem PySem.Spec PyProof.Rows L2
variable [Wd] {cc : List (Nat × CloD)}
abbrev jz' (a : Addr) (n : Nat) (dd : Option Addr) (x : M.Exc) (cs : List (Nat × CloD) := []) : Hot := ⟨some (a, n, dd, x), cs⟩
section
variable {K : PySem.W.Frag} {F H : Hp} {T : List Addr} {fp fr : Fp} {σ : St} {env : List (Option M.O)} {a : Addr} {n i : Nat} {dd : Option Addr} {x : M.Exc}
theorem RpE.warm (h : Hot) (hc : h.clo = cc) (r : @RpE _ K (cT' cc) F T σ env fp) : @RpE _ K h F T σ env fp := by
  induction r with
  | nil => exact @RpE.nil _ K h F T
  | off _ ih => exact @RpE.off _ K h F T _ _ _ _ ih
  | on q _ ih => exact @RpE.on _ K h F T _ _ _ _ _ _ q ih
  | hot z _ _ _ => cases z
  | clo z y _ ih => exact @RpE.clo _ K h F T _ _ _ _ (by rw [hc]; exact z) y ih
theorem RpE.cool (r : @RpE _ K (jz' a n dd x cc) F T σ env fp) (hl : env.length <= n) : @RpE _ K (cT' cc) F T σ env fp := by
  induction r with
  | nil => exact @RpE.nil _ K (cT' cc) F T
  | off _ ih => exact @RpE.off _ K (cT' cc) F T _ _ _ _ (ih (by simp at hl; omega))
  | on q _ ih => exact @RpE.on _ K (cT' cc) F T _ _ _ _ _ _ q (ih (by simp at hl; omega))
  | hot z _ _ _ =>
    have := (Prod.mk.inj (Prod.mk.inj (Option.some.inj z)).2).1
    simp at hl
    omega
  | clo z y _ ih => exact @RpE.clo _ K (cT' cc) F T _ _ _ _ z y (ih (by simp at hl; omega))
theorem RpE.heat (r : @RpE _ K (cT' cc) F T σ env fp) (hn : env.length = i + n + 1) (z : XcR K F T x (.ref (He.ga K x.cls)) dd) : ∃ fq, @RpE _ K (jz' a n dd x cc) F T (σ.set i (some (.ref a))) (env.set i (some .exn)) fq /\ Part fq fp := by
  induction r generalizing i with
  | nil => simp at hn
  | @off y σ env fp r ih =>
    cases i with
    | zero =>
      have hl : n = env.length := by simp at hn; omega
      exact ⟨_, @RpE.hot _ K (jz' a n dd x cc) F T _ _ _ _ _ _ (by show some (a, n, dd, x) = _; rw [hl]) z (r.warm _ rfl), .refl⟩
    | succ i =>
      obtain ⟨fq, h1, h2⟩ := ih (i := i) (by simp at hn; omega)
      exact ⟨fq, @RpE.off _ K (jz' a n dd x cc) F T _ _ _ _ h1, h2⟩
  | @on v0 o0 σ env fa fb q r ih =>
    cases i with
    | zero =>
      have hl : n = env.length := by simp at hn; omega
      exact ⟨_, @RpE.hot _ K (jz' a n dd x cc) F T _ _ _ _ _ _ (by show some (a, n, dd, x) = _; rw [hl]) z (r.warm _ rfl), .right .refl⟩
    | succ i =>
      obtain ⟨fq, h1, h2⟩ := ih (i := i) (by simp at hn; omega)
      exact ⟨_, @RpE.on _ K (jz' a n dd x cc) F T _ _ _ _ _ _ q h1, .app .refl h2⟩
  | hot z _ _ _ => cases z
  | clo zc y r ih =>
    cases i with
    | zero =>
      rename_i env _
      have hl : n = env.length := by simp at hn; omega
      exact ⟨_, @RpE.hot _ K (jz' a n dd x cc) F T _ _ _ _ _ _ (by show some (a, n, dd, x) = _; rw [hl]) z (r.warm _ rfl), .refl⟩
    | succ i =>
      obtain ⟨fq, h1, h2⟩ := ih (i := i) (by simp at hn; omega)
      exact ⟨fq, @RpE.clo _ K (jz' a n dd x cc) F T _ _ _ _ (by rw [List.length_set]; exact zc) y h1, h2⟩
theorem RpE.chill (r : @RpE _ K (jz' a n dd x cc) F T σ env fp) (hn : env.length = i + n + 1) : ∃ fq, @RpE _ K (cT' cc) F T (σ.set i none) (env.set i none) fq /\ Part fq fp := by
  induction r generalizing i with
  | nil => simp at hn
  | @off y σ env fp r ih =>
    cases i with
    | zero => exact ⟨_, @RpE.off _ K (cT' cc) F T _ _ _ _ (r.cool (by simp at hn; omega)), .refl⟩
    | succ i =>
      obtain ⟨fq, h1, h2⟩ := ih (i := i) (by simp at hn; omega)
      exact ⟨fq, @RpE.off _ K (cT' cc) F T _ _ _ _ h1, h2⟩
  | @on v0 o0 σ env fa fb q r ih =>
    cases i with
    | zero => exact ⟨_, @RpE.off _ K (cT' cc) F T _ _ _ _ (r.cool (by simp at hn; omega)), .right .refl⟩
    | succ i =>
      obtain ⟨fq, h1, h2⟩ := ih (i := i) (by simp at hn; omega)
      exact ⟨_, @RpE.on _ K (cT' cc) F T _ _ _ _ _ _ q h1, .app .refl h2⟩
  | @hot a' dd' x' σ env fp z zz r ih =>
    cases i with
    | zero => exact ⟨_, @RpE.off _ K (cT' cc) F T _ _ _ _ (r.cool (by simp at hn; omega)), .refl⟩
    | succ i =>
      have := (Prod.mk.inj (Prod.mk.inj (Option.some.inj z)).2).1
      simp at hn
      omega
  | clo zc y r ih =>
    cases i with
    | zero => exact ⟨_, @RpE.off _ K (cT' cc) F T _ _ _ _ (r.cool (by simp at hn; omega)), .refl⟩
    | succ i =>
      obtain ⟨fq, h1, h2⟩ := ih (i := i) (by simp at hn; omega)
      exact ⟨fq, @RpE.clo _ K (cT' cc) F T _ _ _ _ (by rw [List.length_set]; exact zc) y h1, h2⟩
theorem RpE.exnH (h : Hot) (r : @RpE _ K h F T σ env fp) (e : env[i]? = some (some .exn)) : ∃ a n dd x, h.hot = some (a, n, dd, x) /\ XcR K F T x (.ref (He.ga K x.cls)) dd /\ σ[i]? = some (some (.ref a)) := by
  letI := h
  exact RpE.exn r e
theorem Rel.heat {ρ : M.PSt} (r : @Rel _ K (cT' cc) ρ σ H F T fr) (hn : ρ.env.length = i + n + 1) (z : XcR K F T x (.ref (He.ga K x.cls)) dd) : @Rel _ K (jz' a n dd x cc) ⟨ρ.env.set i (some .exn), ρ.w⟩ (σ.set i (some (.ref a))) H F T fr := by
  obtain ⟨fe, fw, re, rw, f⟩ := r
  obtain ⟨fq, h1, h2⟩ := re.heat (a := a) hn z
  exact ⟨fq, fw, h1, rw, f.part (.app h2 .refl)⟩
theorem Rel.chill {ρ : M.PSt} (r : @Rel _ K (jz' a n dd x cc) ρ σ H F T fr) (hn : ρ.env.length = i + n + 1) : @Rel _ K (cT' cc) ⟨ρ.env.set i none, ρ.w⟩ (σ.set i none) H F T fr := by
  obtain ⟨fe, fw, re, rw, f⟩ := r
  obtain ⟨fq, h1, h2⟩ := re.chill hn
  exact ⟨fq, fw, h1, rw, f.part (.app h2 .refl)⟩
end
section
variable {X : Cx} {W : WX} {K : PySem.W.Frag} {D : Ends} {σ : St} {H : Hp} {F : Hp} {T : List Addr} {fr : Fp}
theorem bw'.chill {a : Addr} {n i : Nat} {dd : Option Addr} {x : M.Exc} {r : M.Out} (h : @bw' _ (cT' cc) K W D F T fr (M.sl' i n (M.te' r))) :
    @bw' _ (jz' a n dd x cc) K W0 { nx := fun σ' H' => D.nx (σ'.set i none) H', rt := D.rt, bk := fun σ' H' => D.bk (σ'.set i none) H', ct := fun σ' H' => D.ct (σ'.set i none) H' } F T fr r := by
  cases r with
  | exc x ρ => exact h.elim
  | nx ρ =>
    unfold M.te' M.sl' at h
    by_cases hl : ρ.env.length = i + n + 1
    . simp only [hl, if_true] at h
      exact fun σ' H' F' T' e r => h _ H' F' T' e (r.chill hl)
    . simp only [hl, if_false] at h; exact h.elim
  | bk ρ =>
    unfold M.te' M.sl' at h
    by_cases hl : ρ.env.length = i + n + 1
    . simp only [hl, if_true] at h
      exact fun σ' H' F' T' e r => h _ H' F' T' e (r.chill hl)
    . simp only [hl, if_false] at h; exact h.elim
  | ct ρ =>
    unfold M.te' M.sl' at h
    by_cases hl : ρ.env.length = i + n + 1
    . simp only [hl, if_true] at h
      exact fun σ' H' F' T' e r => h _ H' F' T' e (r.chill hl)
    . simp only [hl, if_false] at h; exact h.elim
  | rt o w => exact h
  | bad => exact h
def tsA (cc : List (Nat × CloD)) (K : PySem.W.Frag) (n : Nat) (h : M.Exc -> M.MS) : Addr -> Value -> Option Addr -> TS := fun a cls d D σ H => ∃ e : M.Exc, cls = .ref (He.ga K e.cls) /\ @qS _ (jz' a n d e cc) K W0 (h e) D σ H
theorem sI' {x n : Str} {c : Value} {i m : Nat} {body suite : List Stmt} {b₀ : Stmt} {np pos pos' : Pos} {mb : M.MS} {g : String -> Option Bool} {h : M.Exc -> M.MS} (hs : X.stack = X.env :: X.outer) (hf : X.env.frame = some X.env.locals) (hN : X.N.Nodup) (hi : X.N[i]? = some n) (hln : X.env.kindOf n = some .local) (hc : Names X x c) (tk : Takes X W)
    (hg : ∀ y b, g y = some b -> PySem.W.exmOne X.K (.ref (He.ga X.K y)) c = some b)
    (hb : ∀ (W : WX) (pn : List (Addr × Obj)) (xe : Value -> Shared -> Prop), Takes (X.tr pn xe) W -> PassesOwn (model X.prog X.w) X.A X.env xe -> @SSs _ (cT' cc) (X.tr pn xe) W body mb)
    (hsu : ∀ (e : M.Exc) (a : Addr) (oe : Obj) (d : Option Addr) (pn : List (Addr × Obj)), Zc (.ref (He.ga X.K e.cls)) d oe -> (∃ vs, oe.data = .fields vs) -> @SSs _ (jz' a m d e cc) (X.suite a ((a, oe) :: pn)) W0 (b₀ :: suite) (h e)) :
    @SS _ (cT' cc) X W (.Try body [.ExceptHandler (some (.Name x np)) (some n) (b₀ :: suite) pos'] [] [] pos) (M.ic' i m mb g h) := by
  have ts : ∀ (a : Addr) (oe : Obj) (cls : Value) (d : Option Addr) (pn : List (Addr × Obj)), Zc cls d oe -> (∃ vs, oe.data = .fields vs) -> PSs (X.suite a ((a, oe) :: pn)) (b₀ :: suite) (tsA cc X.K m h a cls d) := by
    intro a oe cls d pn hz hf
    refine ⟨fun pins s σ H D I q => ?_⟩
    obtain ⟨e, rfl, q⟩ := q
    exact (hsu e a oe d pn hz hf).run pins s σ H D I q
  refine PS.imp (ps_try_as (tb := fun W => @qS _ (cT' cc) X.K W mb) hs hf hN hi hln hc tk hb ts) fun D σ H ⟨ρ, F, T, fr, rel, hh⟩ => ?_
  refine ⟨ρ, F, T, fr, rel, ?_⟩
  unfold M.ic' at hh
  cases e : mb ρ with
  | nx ρ1 => rw [e] at hh; exact hh
  | bk ρ1 => rw [e] at hh; exact hh
  | ct ρ1 => rw [e] at hh; exact hh
  | rt o w => rw [e] at hh; exact hh
  | bad => rw [e] at hh; exact hh
  | exc y ρ1 =>
    rw [e] at hh
    intro σ' cls dd H' F' T' e z r
    have ec := z.1
    subst ec
    dsimp only at hh
    cases eg : g y.cls with
    | none => rw [eg] at hh; exact hh.elim
    | some b =>
      rw [eg] at hh
      refine ⟨b, hg _ _ eg, fun hb a ha => ?_, fun hb => ?_⟩
      . subst hb
        dsimp only at hh
        by_cases hl : ρ1.env.length = i + m + 1
        . rw [if_pos hl] at hh
          exact ⟨y, rfl, _, F', T', fr, r.heat hl z, @bw'.mono _ (jz' a m dd y cc) _ _ _ _ _ _ _ _ _ (bw'.chill hh) e⟩
        . rw [if_neg hl] at hh; exact hh.elim
      . subst hb
        exact hh σ' _ dd H' F' T' e z r
end
section
variable {X : Cx} {W : WX} {pos p : Pos} {a b : Expr}
theorem ya' {x : Str} {i m : Nat} {ad : Addr} {oe : Obj} {dd : Option Addr} {e : M.Exc} {pn : List (Addr × Obj)} {t : M.ET} (c : String) (hk : t0' X.K t) (hz : Zc (.ref (He.ga X.K e.cls)) dd oe) (hf : ∃ vs, oe.data = .fields vs)
    (hg : Gl (X.suite ad ((ad, oe) :: pn)) x) (hm : X.mg x = none) (hv : bootBuiltins x = some (.builtin "isinstance")) (ha : PE (X.suite ad ((ad, oe) :: pn)) a (tVar i)) (hb : PE (X.suite ad ((ad, oe) :: pn)) b (tC (.ref (He.ga X.K (Str.ofString c)))))
    (hn : x ≠ "__name__" := by decide) (hdb : (x == ("__debug__" : Str)) = false := by decide)
    (he : starEach [a, b] (X.suite ad ((ad, oe) :: pn)).env = (false, eval a (X.suite ad ((ad, oe) :: pn)).env) :: starEach [b] (X.suite ad ((ad, oe) :: pn)).env := by rfl) (he2 : starEach [b] (X.suite ad ((ad, oe) :: pn)).env = (false, eval b (X.suite ad ((ad, oe) :: pn)).env) :: starEach [] (X.suite ad ((ad, oe) :: pn)).env := by rfl)
    (hpl : (backTo pos (starEach [b] (X.suite ad ((ad, oe) :: pn)).env)).any (·.1) = false := by rfl) :
    @SE _ (jz' ad m dd e cc) (X.suite ad ((ad, oe) :: pn)) W (.Call (.Name x p) [a, b] [] pos) (M.tA' i t c e) := by
  by_cases h0 : e.fs = []
  . by_cases hd : dd = none
    . cases es : M.sub t e.cls c with
      | none =>
        refine ⟨fun pins s σ H Q I q => ?_⟩
        obtain ⟨ρ, F, T, fr, rel, q⟩ := q
        exfalso
        unfold M.tA' at q
        split at q
        . rw [if_pos h0, es] at q; exact q.elim
        . exact q.elim
      | some r =>
        subst hd
        obtain ⟨hC, hko⟩ := uM' hk es
        refine PE.imp (pe_callB (call_isE hC hz hf) hg hm hv (pa_cons ha (pa_cons hb pa_nil he2) he) hn hdb he hpl) fun σ H Q ⟨ρ, F, T, fr, rel, h⟩ => ?_
        unfold M.tA' at h
        split at h
        . rename_i ei
          rw [if_pos h0, es] at h
          obtain ⟨fe, fw, re, rw', f⟩ := id rel
          obtain ⟨a', n', dd', x', h1, h2, h3⟩ := RpE.exnH _ re ei
          cases h1
          exact ⟨_, h3, .ref (He.ga X.K (Str.ofString c)), _, r, rfl, fun u hu => hu, hko, h _ H F T .refl (.bl r) rel⟩
        . exact h.elim
    . refine ⟨fun pins s σ H Q I q => ?_⟩
      obtain ⟨ρ, F, T, fr, rel, q⟩ := q
      exfalso
      unfold M.tA' at q
      split at q
      . rename_i ei
        obtain ⟨fe, fw, re, rw', f⟩ := id rel
        obtain ⟨a', n', dd', x', h1, ⟨_, h2⟩, h3⟩ := RpE.exnH _ re ei
        cases h1
        rcases h2 with h2 | ⟨_, _, _, _, h4, _⟩
        . exact hd h2.2
        . rw [h0] at h4; cases h4
      . exact q.elim
  . refine ⟨fun pins s σ H Q I q => ?_⟩
    obtain ⟨ρ, F, T, fr, rel, q⟩ := q
    exfalso
    unfold M.tA' at q
    split at q
    . rw [if_neg h0] at q; exact q.elim
    . exact q.elim
theorem rG' {K : PySem.W.Frag} {t : M.ET} (h : uN' K t = true) : t0' K t := fun e he => by
  have z := List.all_eq_true.mp h e he
  simp only [Bool.and_eq_true, decide_eq_true_eq] at z
  obtain ⟨z1, z2, z3, z4, z5, z6, z7, z8, z9⟩ := z
  exact ⟨⟨z1, z2, z3, z4, z5, z6, z7, z8⟩, z9⟩
end
end S
namespace S
open PySem PySem.Spec PyProof.Rows L2
section
variable {prog : Program} {w : World} {A : Around} {E : Value -> Shared -> Prop} {s : Shared} {K : PySem.W.Frag} {x C L f : Addr} {h₀ : Heap} {m : Str -> Option Value} {ox : Obj} {od : Option Obj} {b tb : Value}
open PySem.W in
theorem xg' {Q : Value -> Shared -> Prop} (hu : A.units + 1 < cLine) (F : Fr h₀ L s.heap m) (X₀ : K.In h₀) (I : InstAt s.heap x ox C od) (hb : Looks (model prog w) s.heap (typeOf b) tb) (hn : notFirst K C tb = true)
    (hs : findIn K (.ref C) "__ne__" = some (some (.builtin "object.__ne__"))) (he : findIn K (.ref C) "__eq__" = some (some (.ref f))) (hf : isFn K (.ref f) = true) (hm : mroIn K C (.type "object") = some true)
    (h : wpAny (model prog w) A.in1 (call (.ref f) [.ref x, b]) (fun v s' => ∃ r, v = .bool r /\ Q (.bool (!r)) s') E s) : wpAny (model prog w) A (richCompare .NotEq (.ref x) b) Q E s := by
  have X := X₀.keeps F.keep
  have run : wpAny (model prog w) A.in1 (Builtin.«object.__ne__» ⟨[.ref x, b], []⟩) (fun r s' => ∃ v : Bool, r = .done (.ret (.bool v)) /\ Q (.bool v) s') E s := by
    unfold Builtin.«object.__ne__»
    repeat (first
      | with_reducible refine wpAny_cRoomFor (A := A.in1) hu ?_
      | (refine wpAny_bind (m := callSpecialIfBound? (.ref x) (Str.ofString "__eq__") [b])
          (ifBound_K X I he hf (wpAny_mono h (fun r s' hr => by
            obtain ⟨b, rfl, hq⟩ := hr
            repeat (first | exact ⟨_, rfl, hq⟩ | exact wpAny_pure ⟨_, rfl, hq⟩ | (refine wpAny_bind (m := truthy (.bool _)) (wpAny_truthy_bool ?_)) | wp_step)) fun _ _ e => e)))
      | wp_step)
  have one : wpAny (model prog w) A (tryCompare (.ref x) "__ne__" b) (fun r s' => ∃ v, r = some v /\ Q v s') E s := by
    have tI : Looks (model prog w) s.heap (isInstance (.ref x) (.type "object")) true := I.type.andThen (looks_mroIn X hm)
    have go : wpAny (model prog w) A (call (.builtin "object.__ne__") [.ref x, b]) (fun v s' => ∃ r : Bool, v = .bool r /\ Q (.bool r) s') E s :=
      wpAny_call (codeAny_call_builtin PySem.F.cmp_object.ne.plain PySem.F.cmpEntry_ne
        (check_slot PySem.F.cmpKind_ne PySem.F.cmpSplit_ne tI (PySem.F.cmpArgs_ne _ _) (wpAny_mono run (fun r s' hr => by
          obtain ⟨v, rfl, hq⟩ := hr
          exact ⟨_, rfl, hq⟩) fun _ _ e => e)))
    unfold tryCompare
    refine wpAny_bind ?_
    simp only [callSpecialIfBound?, bindSpecialIfBound?]
    refine wpAny_holding (wpAny_bind (wpAny_bind (wpAny_bind (I.type.here ((looks_findIn X hs).here ?_)))))
    simp only [PySem.F.cmp_object.ne.bind]
    refine wpAny_bind (wpAny_askSetting (wpAny_ite ?_))
    have fin : wpAny (model prog w) A (call (.builtin "object.__ne__") ([.ref x] ++ [b]) >>= fun v => pure (some v)) (fun r s' => ∃ v : Bool, r = some (.bool v) /\ Q (.bool v) s') E s :=
      wpAny_bind (wpAny_mono go (fun v s' h' => by obtain ⟨r, rfl, h'⟩ := h'; exact wpAny_pure ⟨_, rfl, h'⟩) fun _ _ h' => h')
    have fin : wpAny (model prog w) A (call (.builtin "object.__ne__") ([.ref x] ++ [b]) >>= fun v => pure (some v)) (fun a s' => wpAny (model prog w) A (match a with | some .notImplemented => pure none | none => pure none | some d => pure (some d)) (fun r s' => ∃ v, r = some v /\ Q v s') E s') E s :=
      wpAny_mono fin (fun r s' z => by obtain ⟨v, rfl, z⟩ := z; exact wpAny_pure ⟨_, rfl, z⟩) fun _ _ e => e
    split
    . exact wpAny_bind (wpAny_pure (wpAny_pure fin))
    . exact wpAny_tryCatch (wpAny_bind (wpAny_pure (wpAny_pure fin)))
  have apart : ∀ {c : Prop}, (c -> (tb == Value.ref C) = false) -> c -> subIn K tb (.ref C) = some false := fun no q => by
    rw [notFirst, no q, Bool.false_or] at hn
    exact beq_iff_eq.mp hn
  unfold richCompare
  simp only [oneThing_ref]
  refine wpAny_holding (wpAny_bind (wpAny_cRoomFor (Nat.lt_of_succ_lt hu) (wpAny_bind (I.type.here (wpAny_bind (hb.here ?_))))))
  split
  case isTrue q =>
    exact wpAny_bind ((looks_subIn X (apart (fun q => by cases z : (tb == Value.ref C) with
      | false => rfl
      | true => rw [beq_iff_eq.mp z] at q; simp at q) q)).here (by
        rw [if_neg (by decide)]
        exact wpAny_bind (wpAny_mono one (fun | _, _, ⟨_, rfl, w⟩ => wpAny_pure w) fun _ _ e => e)))
  case isFalse q =>
    exact wpAny_bind (wpAny_pure (by
      rw [if_neg (by decide)]
      exact wpAny_bind (wpAny_mono one (fun | _, _, ⟨_, rfl, w⟩ => wpAny_pure w) fun _ _ e => e)))
end
end S
namespace S
open PySem PySem.Spec PyProof.Rows L2
variable [Wd] [Hot]
def NeP (K : PySem.W.Frag) (ps : List (String × String)) (g : Addr) : Prop := ∀ p ∈ ps, PySem.W.findIn K (.ref (He.ga K (Str.ofString p.1))) "__ne__" = some (some (.builtin "object.__ne__")) ∧
  PySem.W.findIn K (.ref (He.ga K (Str.ofString p.1))) "__eq__" = some (some (.ref g)) /\ PySem.W.isFn K (.ref g) = true /\ PySem.W.mroIn K (He.ga K (Str.ofString p.1)) (.type "object") = some true ∧
  PySem.W.notFirst K (He.ga K (Str.ofString p.1)) (.ref (He.ga K (Str.ofString p.2))) = true
theorem wc' {K : PySem.W.Frag} {ps : List (String × String)} {g : Addr} (h : CU' K ps g = true) : NeP K ps g := fun p hp => by
  have z := List.all_eq_true.mp h p hp
  rw [Bool.and_eq_true, Bool.and_eq_true, Bool.and_eq_true, Bool.and_eq_true, decide_eq_true_eq, decide_eq_true_eq, decide_eq_true_eq] at z
  exact z
def Dj' (K : PySem.W.Frag) (ps : List (String × String)) (mf : M.MF) : R2 := fun x y H Q => CN' K ps mf x y H fun v H' => ∃ r, v = .bl r /\ Q (.bl !r) H'
theorem lx' {X : Cx} {CX : CXT} {k : Nat} {f : Addr} {fd : FuncData} {ps : List Str} {sp : Sp} {E : St -> XK} {pins : List (Addr × Obj)} {σ : St} {H : Hp} {s : Shared} {Q : VK} {us : List Value} {vs : List V} (F : FnG X.prog X.w X.K X.mg X.base CX k f fd ps sp) (hr : RoomG (k + 1) X.A)
    (hb : Binds X.K fd ps []) (hx : PassesAt CX X σ (E σ)) (I : Inv X pins σ H s) (r : Vals vs us) (h : sp vs H Q (E σ)) : wpAny (model X.prog X.w) X.A.in1 (call (.ref f) us) (EP X pins σ Q) X.xe s := by
  have b := hb s us I.kIn (by rw [List.append_nil, <- r.length]; exact F.len _ _ _ _ h)
  rw [List.append_nil] at b
  refine wpAny_call (codeAny_mono (F.run X.A.in1 X.stack s H ⟨us, []⟩ us vs Q (E σ) ⟨hr.r.in1, hr.g⟩ I.env0.in1 b r h) fun res s' q => ?_)
  have z := rT' hx I res q
  revert z
  cases res with
  | error e => exact id
  | ok fl => cases fl <;> exact id
theorem yC' {X : Cx} {k : Nat} {C0 : Addr} {args : List Str} {ps : List (String × String)} {mf : M.MF} (F : OgM X.prog X.w X.K X.mg X.base k C0 "__eq__" args (spM X.K mf)) (hr : RoomG (k + 1) X.A) (hp : NeP X.K ps (He.ma X.K C0 "__eq__")) :
    OpR X (compareOp .NotEq) (Dj' X.K ps mf) := by
  obtain ⟨fd, F, hb⟩ := F
  intro pins s σ H x y v u Q I rx ry h
  obtain ⟨C, C', a, b, dx, dy, fs, gs, hC, rfl, rfl, ha, hb', hs⟩ := h
  cases (show v = Value.ref a from rx)
  cases (show u = Value.ref b from ry)
  obtain ⟨q0, q1, q2, q3, q4⟩ := hp _ hC
  obtain ⟨mA, J, _⟩ := ins_get I.hok ha
  obtain ⟨mB, J', _⟩ := ins_get I.hok hb'
  obtain ⟨od, J, _⟩ := J.look
  obtain ⟨od', J', _⟩ := J'.look
  obtain ⟨m, hF⟩ := I.fr
  show wpAny (model X.prog X.w) X.A (richCompare .NotEq (.ref a) (.ref b)) (EP X pins σ Q) X.xe s
  have hu : X.A.units + 1 < cLine := by have := hr.r.units; omega
  refine xg' (tb := .ref (He.ga X.K (Str.ofString C'))) hu hF I.ok.mod.kin J J'.type q4 q0 q1 q2 q3 ?_
  refine wpAny_mono (lx' (E := fun _ => E0) (us := [.ref a, .ref b]) (vs := [.ref a, .ref b]) F hr hb (fun _ _ _ e s' _ c => ?_) I (.cons rfl (.cons rfl .nil)) hs) (fun r s' q => ?_) fun _ _ z => z
  . obtain ⟨_, _, _, _, _, _, _, _, _, _, _, _, z⟩ := c
    exact z.elim
  . obtain ⟨z, H', I', rz, t, ez, t', et, q⟩ := q
    subst ez
    cases et
    cases rz
    exact ⟨t, rfl, .bl !t, H', I', rfl, q⟩
section
variable {K : PySem.W.Frag} {σ : St} {H : Hp} {Q : VK} {W : WX}
theorem yv' {m : M.ME} {Q : Bool -> Hp -> Prop} (h : qT K W (M.gx' (M.tE m)) σ H Q) : qE K W m σ H fun v H' => ∃ r, v = .bl r /\ ∃ k, V.bl (!r) = .bl k /\ Q k H' := by
  obtain ⟨ρ, F, T, fr, rel, h⟩ := h
  refine ⟨ρ, F, T, fr, rel, (aZ'.bind (aZ'.bind h)).mono (fun d ρ1 h1 v H1 F1 T1 e z r => ?_) fun _ _ z => z⟩
  obtain ⟨k, rfl, h2⟩ := aZ'.asB h1
  exact ⟨k, z.bl_inv, _, rfl, h2 _ _ _ e r⟩
end
section
variable {X : Cx} {W : WX} {pos : Pos} {a b : Expr} {ma mb : M.ME} {k : Nat} {args : List Str} {mf : M.MF}
theorem uw' {C : String} {ps : List (String × String)} (F : OgM X.prog X.w X.K X.mg X.base k (He.ga X.K C) "__eq__" args (spM X.K mf)) (hr : RoomG (k + 1) X.A) (hp : NeP X.K ps (He.ma X.K (He.ga X.K C) "__eq__")) (ha : SE X W a ma) (hb : SE X W b mb) :
    ST X W (.Compare a [.NotEq] [b] pos) (M.gx' (M.tE (M.wH' ps mf ma mb))) := PT.imp (pt_cmpR (yC' F hr hp) ha hb (nomark _)) fun _ _ _ h => tz' (yv' h)
end
end S
namespace S
open PySem PySem.Spec PyProof.Rows L2
variable [Wd] [Hot]
def CI' (z : Str) : Str := ⟨z.cps.toList.reverse.toArray⟩
def Be' (K : PySem.W.Frag) : V -> Hp -> VK -> Prop := fun x H Q => (∃ z, x = .str z /\ z.length <= sizeLine /\ Q (.str (CI' z)) H) \/ (∃ a xs, x = .ref a /\ SqL K H a xs /\ ∀ p, H p = none -> Q (.ref p) (upd H p (.lst xs.reverse)))
theorem oU' {lo up by' : Value} (h1 : IsPart lo none) (h2 : IsPart up none) (h3 : IsPart by' (some (-1))) : lo = .none /\ up = .none /\ ∃ tk, by' = .int (-1) tk := by
  have no : ∀ {v : Value}, IsPart v none -> v = .none := fun {v} q => by
    obtain ⟨r, rfl, z⟩ := IsPart.raw q
    cases r with
    | none => rfl
    | some r => cases z
  obtain ⟨r, rfl, z⟩ := IsPart.raw h3
  cases r with
  | none => cases z
  | some r =>
    obtain ⟨i, tk⟩ := r
    obtain rfl : i = -1 := Option.some.inj z
    exact ⟨no h1, no h2, tk, rfl⟩
def t1' (X : Cx) (e sl : Expr) (r : V -> Hp -> VK -> Prop) : Prop := ∀ (pins : List (Addr × Obj)) (s : Shared) (σ : St) (H : Hp) (x : V) (v lo up by' : Value) (Q : VK), Inv X pins σ H s -> RelV x v -> IsPart lo none -> IsPart up none -> IsPart by' (some (-1)) -> r x H Q →
  Inv X pins σ H { s with heap := s.heap.push { cls := .type "slice", data := .fields #[lo, up, by'] } } →
  wpAny (model X.prog X.w) X.A (subscriptTail e sl v (.ref s.heap.objs.size)) (EP X pins σ Q) X.xe { s with heap := s.heap.push { cls := .type "slice", data := .fields #[lo, up, by'] } }
theorem v0' {X : Cx} {e : Expr} {te : TE} {k : Nat} {p1 p2 p3 pos : Pos} {r : V -> Hp -> VK -> Prop} (he : PE X e te) (tail : t1' X e (.Slice none none (some (.UnaryOp .USub (.Constant (.int 1) k p1) p2)) p3) r) :
    PE X (.Subscript e (.Slice none none (some (.UnaryOp .USub (.Constant (.int 1) k p1) p2)) p3) pos) (fun σ H Q => te σ H fun x H1 => r x H1 Q) := by
  have minus : PO X (some (.UnaryOp .USub (.Constant (.int 1) k p1) p2)) (tPart (tUn (rU fun i => .int (-i)) (tC (.int 1)))) := po_some (pe_un un_neg pe_int)
  -- a part that is left out changes nothing
  have left : ∀ (pins : List (Addr × Obj)) (s : Shared) (σ : St) (H : Hp), Inv X pins σ H s -> _ := fun pins s σ H I => po_none.run pins s σ H (fun o H2 => o = none /\ H2 = H) I ⟨rfl, rfl⟩
  exact ⟨fun pins s σ H Q I want => Subscript_ (thn (he.run pins s σ H _ I want) fun v sa ⟨x, Ha, Ia, rx, wx⟩ => wpAny_Slice (thn (left pins sa σ Ha Ia) fun lo sb ⟨o1, Hb, Ib, q1, z1, y1⟩ => by
    cases z1
    cases y1
    exact thn (left pins sb σ Ha Ib) fun up sc ⟨o2, Hc, Ic, q2, z2, y2⟩ => by
      cases z2
      cases y2
      exact thn (minus.run pins sc σ Ha (fun o H4 => o = some (-1) /\ H4 = Ha) Ic ⟨1, rfl, -1, rfl, rfl, rfl⟩) fun by' sd ⟨o3, Hd, Id, q3, z3, y3⟩ => by
        cases z3
        cases y3
        exact tail pins sd σ Ha x v lo up by' Q Id rx q1 q2 q3 wx (Id.kept (t' := sd.toks) fun _ _ there => Heap.get?_push_of_some _ there)))⟩
theorem vY' {X : Cx} {e : Expr} {te : TE} {k : Nat} {p1 p2 p3 pos : Pos} (he : PE X e te) : PE X (.Subscript e (.Slice none none (some (.UnaryOp .USub (.Constant (.int 1) k p1) p2)) p3) pos) (fun σ H Q => te σ H fun x H1 => Be' X.K x H1 Q) := v0' he fun pins s4 σ H4 x v vl vu vs Q I4 r1 pl pu ps q1 I5 => by
  rcases q1 with ⟨z, rfl, hz, q⟩ | ⟨a, xs, rfl, hx, q⟩
  . obtain ⟨t, rfl⟩ := r1
    show wpAny (model X.prog X.w) X.A (subscriptTail e (.Slice none none (some (.UnaryOp .USub (.Constant (.int 1) k p1) p2)) p3) (.str z t) (.ref s4.heap.objs.size)) (EP X pins σ Q) X.xe { s4 with heap := s4.heap.push { cls := .type "slice", data := .fields #[vl, vu, vs] } }
    refine tail_any (ops := [.str z t, .ref s4.heap.objs.size]) (typeIs_str _ z t) (F.slot_str_getitem.lookup) ?_ (by with_unfolding_all rfl)
    obtain ⟨rfl, rfl, tk, rfl⟩ : vl = .none /\ vu = .none /\ ∃ tk, vs = .int (-1) tk := oU' pl pu ps
    refine wpAny_getItem_str_slice (l := none) (u := none) (st := some (-1, tk)) ⟨_, Heap.get?_push_size _ rfl, rfl, rfl⟩ rfl ?_
    show Made.post (if (((-1 : Int) == 1) && _) = true then Made.val (.str z t) else Made.str ⟨((Builtin.Str.strSliceIndices none none (-1) z.length).filterMap (z.cps[·]?)).toArray⟩) (EP X pins σ Q) _
    rw [if_neg (by simp), picked_rev, PySem.W.krv_range, List.filterMap_reverse]
    rw [show (List.range z.length).filterMap (z.cps[·]?) = z.cps.toList from PySem.W.krv_all z.cps]
    refine ⟨?_, .str _, H4, I5.tok _, ⟨_, rfl⟩, q⟩
    show z.cps.toList.reverse.toArray.size <= sizeLine
    rw [List.size_toArray, List.length_reverse, Array.length_toList]
    exact hz
  . cases r1
    obtain ⟨its, r, ht, hz⟩ := I5.list hx
    have fits : its.toArray.size <= sizeLine := by rw [List.size_toArray, <- r.length]; exact hz
    have laid := I5.laid (t' := s4.toks) (o := .lst xs.reverse) (fun _ _ there => Heap.get?_push_of_some _ there) (Nat.le_refl _) ⟨by rw [List.length_reverse]; exact hz, _, 0, r.reverse, Heap.get?_push_size _ rfl⟩
    exact tail_any (ops := [.ref a, .ref s4.heap.objs.size]) ht.isList.typeIs PySem.slot_list_getitem.lookup
      (wpAny_getItem_list_slice ht.isList (Heap.IsSliceOf.new _ vl vu vs) pl pu ps (by decide) (by
        rw [PySem.W.krv_pick]
        exact ⟨.ref _, _, laid, rfl, q _ (I5.hok.fresh (Nat.le_refl _))⟩) fits) (by with_unfolding_all rfl)
theorem v7' {s : M.Tx} (o : okT s) : okT s.reverse := o.sub (fun c hc => List.mem_reverse.mp hc) (by rw [List.length_reverse]; exact Nat.le_refl _)
section
variable {X : Cx} {W : WX} {a : Expr} {ma : M.ME} {pos p1 p2 p3 : Pos} {k : Nat}
theorem vH' (ha : SE X W a ma) : SE X W (.Subscript a (.Slice none none (some (.UnaryOp .USub (.Constant (.int 1) k p1) p2)) p3) pos) (M.eUn M.xs' ma) :=
  PE.imp (vY' ha) fun σ H Q ⟨ρ, F, T, fr, rel, h⟩ => by
    refine ay' rel h fun dx ρ1 v H1 F1 T1 e1 z1 r1 h1 => ?_
    obtain ⟨dz, ez, q⟩ := aZ'.ofO h1
    obtain ⟨fp, f1, back⟩ := r1.fp
    have g : eD' X.K F1 T1 fp dz fun v' H4 => Q v' H4 := fun v' H4 F4 s zz f4 => q v' H4 F4 T1 (e1.trans (.of s)) zz (back H4 F4 s f4)
    cases dx <;> try (cases ez; done)
    . obtain ⟨rfl, o1⟩ := z1.str_inv
      cases ez
      refine .inl ⟨_, rfl, o1.len, ?_⟩
      have e : CI' (sx ‹M.Tx›) = sx (‹M.Tx›.reverse) := iM' (by rfl)
      rw [e]
      exact g.here f1 (.str (v7' o1))
    . obtain ⟨a, vs, rfl, ha, za⟩ := z1.lst_inv
      cases ez
      exact .inr ⟨a, vs, rfl, SqL.of (f1.low _ _ ha), fun p hp => g.newL f1 za.rev hp⟩
end
end S
namespace S
open PySem PySem.Spec PyProof.Rows L2 TL
variable [Wd] [Hot]
section
variable {K : PySem.W.Frag}
end
end S
namespace S
open PySem PySem.Spec PyProof.Rows L2
variable [Wd] [Hot]
section
variable {X : Cx} {W : WX} {K : PySem.W.Frag} {a b : Expr} {ma : M.ME} {pos : Pos}
end
end S
namespace S
open PySem PySem.Spec PyProof.Rows L2
variable [Wd] [Hot]
section
variable {K : PySem.W.Frag} {W : WX} {σ : St} {H : Hp}
end
section
variable {X : Cx} {W : WX} {pos : Pos} {elt tg iter tg1 iter1 : Expr} {ifs ifs1 : List Expr} {scope : Scope} {own : List (Str × Nat)} {sl sl0 sl1 : List Nat} {it it1 : M.MI} {g g1 : M.MG} {t t1 : M.MT} {e : M.ME}
end
end S
namespace S
open PySem PySem.Spec PyProof.Rows L2
end S
namespace S
open PySem PySem.Spec PyProof.Rows L2
variable [Wd] [Hot]
section
variable {K : PySem.W.Frag} {W : WX} {X : Cx} {p pos : Pos} {a b : Expr} {ma mb : M.ME}
end
end S
namespace S
open PySem PySem.Spec PyProof.Rows L2
variable [Wd] [Hot]
section
variable {X : Cx} {W : WX} {K : PySem.W.Frag} {a : Expr} {ma : M.ME} {pos : Pos}
end
end S
namespace S
open PySem PySem.Spec PyProof.Rows L2
variable [Wd] [Hot]
section
variable {K : PySem.W.Frag} {W : WX} {σ : St} {H : Hp}
end
section
variable {X : Cx} {W : WX} {pos px : Pos} {elt tg : Expr} {ifs : List Expr} {scope : Scope} {own : List (Str × Nat)} {sl : List Nat} {i : Nat} {nm : Str} {g : M.MG} {t : M.MT} {e : M.ME}
end
end S
namespace S
open PySem PySem.Spec PyProof.Rows L2
variable [Wd] [Hot]
section
variable {X : Cx} {W : WX} {pos cpos apos : Pos} {o a : Expr} {mo : M.ME} {ma : M.MO}
end
end S
namespace S
open PySem PySem.Spec PyProof.Rows L2
structure SupF (file : Str) (K : PySem.W.Frag) (C f : Addr) (fld : Str) : Prop where
  ex : ∃ (oc : Value) (od : Option Addr) (fd : FuncData) (osl : Array (Option Value)) (x y : Str) (cc cda : Addr), K.lookup f = some ⟨oc, od, .func fd, osl⟩ /\ CA' fd.params = some (x, y) /\ Cx' fd.body = some (("super" : Str), ("__init__" : Str), x, fld, y) ∧
    fd.closure = [(("__class__" : Str), cc)] /\ fd.code = .ref cda /\ fd.defaults = .none /\ fd.kwdefaults = .none /\ fd.globals = mainGlobals /\ fd.builtins = builtinsNs /\ PySem.W.codeIn K (.ref cda) fd.qualname = true ∧
    fd.scope.names.lookup ("super" : Str) = some .globalImplicit /\ fd.scope.names.lookup ("__class__" : Str) = some .free /\ fd.scope.names.lookup x = some .local /\ fd.scope.names.lookup y = some .local /\ (∀ q ∈ fd.scope.names, q.2 ≠ .cell) ∧
    fd.scope.kind = .function /\ fd.scope.isGenerator = false /\ fd.scope.isCoroutine = false /\ x = "self" /\ (y = "part" \/ y = "most") ∧
    (∃ a b c, K.lookup cc = some ⟨a, b, .cell (some (.ref C)), c⟩) /\ (∃ a b c vs tf, K.lookup cda = some ⟨a, b, .fields vs, c⟩ /\ vs[2]? = some (.str file tf))
  sup : PySem.W.ks_superIn K C C "__init__" = some (some (.builtin "ValueError.__init__"))
  own : PySem.W.mroIn K C (.ref C) = some true
  ve : PySem.W.subIn K (.ref C) (.type "ValueError") = some true
  no3 : PySem.W.nsIn K cStatics "thirdparty.any" = some none
  cls : ∃ nm q N bs bm sn sub ab col dd k0 k1 k2 k3 k5, K.lookup C = some (excClassObj nm q C N bs bm true sn sub ab col dd k0 k1 k2 k3 k5 "ValueError.__new__") /\ HandSPX.refsVE bm = true
  sa : PySem.W.findIn K (.ref C) "__setattr__" = some (some (.builtin "object.__setattr__"))
  exC : PySem.W.subIn K (.ref C) (.type "BaseException") = some true
  tyC : PySem.W.typeIn K (.ref C) = some (.type "type")
  kC : PySem.W.keepIn K (.ref C) = true
  iC : PySem.W.findIn K (.ref C) "__init__" = some (some (.ref f))
  tI : PySem.W.typeIn K (.ref f) = some (.type "function")
  fl : PySem.W.findIn K (.ref C) fld = some none
end S
namespace S
open PySem PySem.Spec PyProof.Rows L2
variable [Wd] [Hot]
local macro_rules | `(tactic| walk_at "parts") => `(tactic| (constructor; (intro e h; simp only [List.mem_append, List.mem_cons, List.not_mem_nil] at *; grind); (intro x; simp only [keys, List.map_append, List.map_cons, List.map_nil, List.count_append, List.count_cons, List.count_nil] at *; omega)))
section
variable {prog : Program} {w : World} {A : Around} {E : Value -> Shared -> Prop} {s : Shared}
end
def DI' (K : PySem.W.Frag) (ps : List (String × String)) (g : Addr) : Prop := ∀ C, (C, C) ∈ ps -> PySem.W.findIn K (.ref (He.ga K (Str.ofString C))) "__eq__" = some (some (.ref g)) /\ PySem.W.isFn K (.ref g) = true ∧
  ∀ n ∈ ["NoneType", "bool", "int", "str", "tuple", "list", "dict"], PySem.W.notFirst K (He.ga K (Str.ofString C)) (.type n) = true
def rEqD (K : PySem.W.Frag) (ps : List (String × String)) (mf : M.MF) : R2 := fun x y H Q => ∃ (C n : String) (a dx : Addr) (fs : List (Str × V)), (C, C) ∈ ps /\ n ∈ ["NoneType", "bool", "int", "str", "tuple", "list", "dict"] /\ x = .ref a ∧
  H a = some (.ins (He.ga K (Str.ofString C)) dx fs) /\ TyX K H y (.type n) /\ spM K mf [x, y] H (fun v H' => ∃ r, v = .bl r /\ Q (.bl r) H') E0
theorem op_eqD {X : Cx} {k : Nat} {C0 : Addr} {args : List Str} {ps : List (String × String)} {mf : M.MF} (F : OgM X.prog X.w X.K X.mg X.base k C0 "__eq__" args (spM X.K mf)) (hr : RoomG k X.A) (hp : DI' X.K ps (He.ma X.K C0 "__eq__")) :
    OpR X (compareOp .Eq) (rEqD X.K ps mf) := by
  obtain ⟨fd, F, hb⟩ := F
  intro pins s σ H x y v u Q I rx ry h
  obtain ⟨C, n, a, dx, fs, hC, hn, rfl, ha, ht, hs⟩ := h
  cases (show v = Value.ref a from rx)
  obtain ⟨q1, q2, q3⟩ := hp _ hC
  obtain ⟨mA, J, _⟩ := ins_get I.hok ha
  obtain ⟨od, J, _⟩ := J.look
  obtain ⟨m, hF⟩ := I.fr
  obtain ⟨P, Z, hP, _⟩ := kit_of I ry ht
  show wpAny (model X.prog X.w) X.A (richCompare .Eq (.ref a) u) (EP X pins σ Q) X.xe s
  refine PySem.W.cmp_K (op := .Eq) (tb := .type n) hr.r.units0 hF I.ok.mod.kin J (Z.ty _ _ I.kIn hP) (q3 n hn) q1 q2 ?_
  refine wpAny_mono (iV' (E := fun _ => E0) (us := [.ref a, u]) (vs := [.ref a, y]) F hr hb (fun _ _ _ e s' _ c => ?_) I (.cons rfl (.cons ry .nil)) hs) (fun r s' q => ?_) fun _ _ z => z
  . obtain ⟨_, _, _, _, _, _, _, _, _, _, _, _, z⟩ := c
    exact z.elim
  . obtain ⟨z, H', I', rz, t, ez, q⟩ := q
    subst ez
    cases rz
    exact ⟨.bl t, H', I', rfl, q⟩
section
variable {K : PySem.W.Frag} {σ : St} {H : Hp} {Q : VK} {W : WX}
end
section
variable {X : Cx} {W : WX} {pos p tpos : Pos} {a b e o i : Expr} {ma mb mo mi : M.ME} {k : Nat} {args : List Str} {mf : M.MF}
end
end S
namespace S
open PySem PySem.Spec PyProof.Rows L2
variable [Wd] [Hot]
mutual
inductive DqN (K : PySem.W.Frag) (H : Hp) : V -> M.D -> Prop
  | leaf {v : V} {d : M.D} : Dp K H v (py d) -> M.et' d = true -> DqN K H v d
  | tup {a : Addr} {vs : List V} {ds : List M.D} : SqT K H a vs -> DqNs K H vs ds -> DqN K H (.ref a) (.tup ds)
  | lst {a : Addr} {vs : List V} {ds : List M.D} : H a = some (.lst vs) -> DqNs K H vs ds -> DqN K H (.ref a) (.lst ds)
  | dct {a : Addr} {kvs : List (Key × V)} {ds : List M.D} : Rd H a (.dK kvs) -> le' kvs -> DqNs K H (kvs.map (·.2)) ds -> DqN K H (.ref a) (.dct (kvs.map fun p => kD p.1) ds)
inductive DqNs (K : PySem.W.Frag) (H : Hp) : List V -> List M.D -> Prop
  | nil : DqNs K H [] []
  | cons {v : V} {d : M.D} {vs : List V} {ds : List M.D} : DqN K H v d -> DqNs K H vs ds -> DqNs K H (v :: vs) (d :: ds)
end
section
variable {K : PySem.W.Frag} {F H : Hp} {T : List Addr}
end
section
variable {X : Cx} {pins : List (Addr × Obj)} {σ : St} {H : Hp} {s : Shared}
def Ay' (K : PySem.W.Frag) : Prop := ∃ o, K.lookup sysModules = some o
theorem vy' (I : Inv X pins σ H s) (h : Ay' X.K) {a : Addr} {o : HO} (ha : H a = some o) : a ≠ sysModules := fun e => by
  obtain ⟨ob, hk⟩ := h
  have := (I.bs _ _ (I.ok.mod.kin _ _ hk)).2
  rw [e, this] at ha
  cases ha
mutual
theorem DqN.reads (I : Inv X pins σ H s) (hS : Ay' X.K) : ∀ {v : V} {d : M.D} {u : Value}, DqN X.K H v d -> RelV v u -> ∃ as, Reads s.heap u (py d) as /\ sysModules ∉ as
  | _, _, _, .leaf h l, r => ⟨[], er' I l h r, by simp⟩
  | _, _, _, .tup hs la, r => by
    cases r
    obtain ⟨its, rv, ⟨o, ho, hc, n, hd⟩, _⟩ := I.tuple hs
    obtain ⟨as, hr, hm⟩ := DqNs.reads I hS la rv
    exact ⟨_, Reads.tuple ho hc hd hr, hm⟩
  | _, _, _, .lst (a := a) hs la, r => by
    cases r
    obtain ⟨_, its, n, rv, hd⟩ := I.hok a _ hs
    obtain ⟨as, hr, hm⟩ := DqNs.reads I hS la rv
    refine ⟨_, Reads.list hd rfl rfl hr, fun z => ?_⟩
    rcases List.mem_cons.mp z with z | z
    . exact vy' I hS hs z.symm
    . exact hm z
  | _, _, _, .dct (a := a) (kvs := kvs) (ds := ds) e k la, r => by
    cases r
    obtain ⟨_, hs, vs, rk, hd⟩ := dk_rd I.hok e
    obtain ⟨bs, hp, hm⟩ := DqNs.pairs I hS la kvs rfl rk
    refine ⟨_, PyProof.V.reads_dictOf (enc := kP) (fun k key hk => ?_) hd hp, fun z => ?_⟩
    . rcases keyIs_shape hk with ⟨i, t, rfl, rfl⟩ | ⟨x, t, rfl, rfl⟩
      . exact .int i t
      . exact .str _ t
    . rcases List.mem_cons.mp z with z | z
      . rw [<- z] at hs
        simp at hs
      . exact hm z
theorem DqNs.reads (I : Inv X pins σ H s) (hS : Ay' X.K) : ∀ {vs : List V} {ds : List M.D} {us : List Value}, DqNs X.K H vs ds -> Vals vs us -> ∃ as, ReadsAll s.heap us (pys ds) as /\ sysModules ∉ as
  | _, _, _, .nil, r => by
    cases r
    exact ⟨[], .nil, by simp⟩
  | _, _, _, .cons h1 h2, r => by
    cases r with
    | cons r1 r2 =>
      obtain ⟨as, q1, q4⟩ := DqN.reads I hS h1 r1
      obtain ⟨bs, q2, q3⟩ := DqNs.reads I hS h2 r2
      exact ⟨_, .cons q1 q2, fun z => (List.mem_append.mp z).elim q4 q3⟩
theorem DqNs.pairs (I : Inv X pins σ H s) (hS : Ay' X.K) : ∀ {vs : List V} {ds : List M.D}, DqNs X.K H vs ds -> ∀ (kvs : List (Key × V)) {us : List (Key × Value)}, kvs.map (·.2) = vs -> KV kvs us →
    ∃ bs, PyProof.V.PairsRead s.heap kP us ((pys (kvs.map fun p => kD p.1)).zip (pys ds)) bs /\ sysModules ∉ bs
  | _, _, .nil, kvs, us, e, r => by
    cases kvs with
    | nil => cases r; exact ⟨[], .nil, by simp⟩
    | cons _ _ => cases e
  | _, _, .cons h1 h2, kvs, us, e, r => by
    cases kvs with
    | nil => cases e
    | cons p kvs =>
      obtain ⟨k, v⟩ := p
      obtain ⟨rfl, e2⟩ := List.cons.inj e
      cases r with
      | @cons _ q _ us hr hp =>
        obtain ⟨k', u⟩ := q
        obtain ⟨he, hr⟩ := hr
        have he : k = k' := he
        subst he
        obtain ⟨as, q1, q4⟩ := DqN.reads I hS h1 hr
        obtain ⟨bs, q2, q3⟩ := DqNs.pairs I hS h2 kvs e2 hp
        exact ⟨_, PyProof.V.PairsRead.cons (enc := kP) (k := k) q1 q2, fun z => (List.mem_append.mp z).elim q4 q3⟩
end
end
section
variable {X : Cx}
end
end S
namespace S
open PySem PySem.Spec PyProof.Rows L2
variable [Wd] [Hot]
end S
namespace S
open PySem PySem.Spec PyProof.Rows L2 HT
variable [Wd] [Hot]
section
variable {prog : Program} {w : World} {A : Around} {E : Value -> Shared -> Prop} {s : Shared}
end
section
variable {X : Cx} {W : WX} {a : Expr} {ma : M.ME} {pos p1 p2 p3 : Pos} {k : Nat}
end
end S
namespace S
open PySem PySem.Spec PyProof.Rows L2
variable [Wd]
section
variable {X : Cx} {W : WX} {pos p : Pos} {a b : Expr}
end
end S
namespace S
open PySem PySem.Spec PyProof.Rows L2 CwR
section
variable {X : Cx} {o e : Expr} {te to : TE} {es : List Expr} {ta : TA} {y z : Str} {i : Int} {j j1 j2 : Nat} {c0 c1 apos pos p : Pos}
end
variable [Wd]
section
variable {X : Cx} {W : WX} {o : Expr} {mo : M.ME} {y z : Str} {i : Int} {j j1 j2 : Nat} {c0 c1 apos pos p : Pos}
end
end S
namespace S
open PySem PySem.Spec PyProof.Rows L2
variable [Wd]
section
variable {X : Cx} {W : WX} {a : Expr} {ma : M.ME} {pos : Pos}
end
end S
namespace S
open PySem PySem.Spec PyProof.Rows L2
end S
namespace S
open PySem PySem.Spec PyProof.Rows L2
variable [Wd] [Hot]
section
variable {K : PySem.W.Frag} {W : WX} {X : Cx} {p pos : Pos} {a b : Expr} {ma mb : M.ME}
end
end S
namespace S
open PySem PySem.Spec
open PySem (ZipApart)
structure ZlSt (h : Heap) (z TI TO i1 i2 l1 l2 : Addr) (xs ys : Array Value) (S : Addr) (i : Nat) : Prop where
  ti : IsPair h TI (.ref i1) (.ref i2)
  it1 : h.IsListIter i1 l1 i
  it2 : h.IsListIter i2 l2 i
  li1 : h.IsList l1 xs
  li2 : h.IsList l2 ys
  zz : (IsZip h z TI TO .none /\ ∃ a b, IsPair h TO a b) \/ ∃ T f oT, PySem.IsZipHeld h z TI TO T f /\ h.get? T = some oT /\ T ≠ z /\ T ≠ i1 /\ T ≠ i2 /\ T ≠ S
structure ZlA (z TI TO i1 i2 l1 l2 S : Addr) : Prop where
  z : z < S
  TI : TI < S
  TO : TO < S
  i1 : i1 < S
  i2 : i2 < S
  l1 : l1 < S
  l2 : l2 < S
section
variable {prog : Program} {w : World} {A : Around} {E : Value -> Shared -> Prop} {s : Shared} {z TI TO i1 i2 l1 l2 S : Addr} {xs ys : Array Value} {i : Nat}
theorem ZlSt.keep {h h' : Heap} (st : ZlSt h z TI TO i1 i2 l1 l2 xs ys S i) (L : ZlA z TI TO i1 i2 l1 l2 S) (hk : ∀ b o, b ≠ S -> h.get? b = some o -> h'.get? b = some o) : ZlSt h' z TI TO i1 i2 l1 l2 xs ys S i := by
  obtain ⟨a1, a2, a3, a4, a5, a6⟩ := st
  have n : ∀ {a : Addr}, a < S -> a ≠ S := fun h => Nat.ne_of_lt h
  refine ⟨hk _ _ (n L.TI) a1, a2.at fun o e => hk _ o (n L.i1) e, a3.at fun o e => hk _ o (n L.i2) e, a4.at fun o e => hk _ o (n L.l1) e, a5.at fun o e => hk _ o (n L.l2) e, ?_⟩
  rcases a6 with ⟨hz, a, b, hTO⟩ | ⟨T, f, oT, hz, hT, r1, r2, r3, r4⟩
  . exact .inl ⟨hk _ _ (n L.z) hz, a, b, hk _ _ (n L.TO) hTO⟩
  . exact .inr ⟨T, f, oT, hk _ _ (n L.z) hz, hk _ _ r4 hT, r1, r2, r3, r4⟩
structure ZlG (xs ys : Array Value) (lo : Addr) (h : Heap) (as : List Addr) : Prop where
  rise : as.Pairwise (· < ·)
  above : ∀ a ∈ as, lo < a
  pairs : ∀ (j : Nat) (a : Addr), as[j]? = some a -> ∃ x y, xs[j]? = some x /\ ys[j]? = some y /\ h.get? a = some { cls := .type "tuple", data := .seq #[x, y] }
theorem ZlG.there {lo : Addr} {h : Heap} {as : List Addr} (g : ZlG xs ys lo h as) {a : Addr} (ha : a ∈ as) : a < h.objs.size := by
  obtain ⟨j, hj⟩ := List.mem_iff_getElem?.mp ha
  obtain ⟨_, _, _, _, e⟩ := g.pairs j a hj
  exact Heap.lt_size e
end
section
variable {prog : Program} {w : World} {A : Around} {s : Shared} {R : Result -> Shared -> Prop} {z TI TO i1 i2 l1 l2 S : Addr} {xs ys : Array Value}
end
section
variable {prog : Program} {w : World} {A : Around} {E : Value -> Shared -> Prop} {s : Shared} {z TI TO i1 i2 l1 l2 S : Addr} {xs ys : Array Value}
theorem ZlSt.type {h : Heap} {i : Nat} (st : ZlSt h z TI TO i1 i2 l1 l2 xs ys S i) : ∃ o, h.get? z = some o /\ o.cls = .type "zip" := by
  rcases st.zz with ⟨hz, _⟩ | ⟨T, f, oT, hz, _⟩
  . exact ⟨_, hz, rfl⟩
  . exact ⟨_, hz, rfl⟩
end
end S
namespace S
open PySem PySem.Spec PyProof.Rows L2 LiI
section
variable {X : Cx}
end
section
variable {K : PySem.W.Frag} [Wd]
end
section
variable [Wd] {X : Cx} {W : WX} {a b : Expr} {ma mb : M.ME} {p p2 pos pos2 : Pos}
end
end S
namespace S
open PySem PySem.Spec PyProof.Rows L2
section
variable {prog : Program} {w : World} {A : Around} {E : Value -> Shared -> Prop} {s : Shared} {z TI TO i1 i2 l1 l2 : Addr} {xs ys : Array Value} {k : Nat}
abbrev ZO (h : Heap) (z TI TO : Addr) (f0 : Value) (b : Bool) : Prop :=
  h.get? z = some { cls := .type "zip", dict := none, data := .fields #[f0, .bool b, .bool false, .ref TI, .ref TO], slots := #[] }
def Gvn (f0 : Value) : Prop := f0 = .none \/ ∃ T : Addr, f0 = rawInt T
structure ZnSt (h : Heap) (z TI TO i1 i2 l1 l2 : Addr) (k : Nat) : Prop where
  zz : ∃ f0 b, ZO h z TI TO f0 b /\ Gvn f0
  ti : IsPair h TI (.ref i1) (.ref i2)
  to : ∃ x y, IsPair h TO x y
  h1 : h.IsTupleIter i1 l1 k
  h2 : h.IsTupleIter i2 l2 k
end
end S
namespace S
open PySem PySem.Spec PyProof.Rows L2
section
variable [Wd] [Hot] {X : Cx} {W : WX} {a b : Expr} {ma mb : M.ME} {p pos : Pos}
end
end S
namespace S
open PySem PySem.Spec PyProof.Rows L2
section
variable [Wd] [Hot] {X : Cx} {W : WX} {a : Expr} {ma : M.ME} {pos : Pos}
end
end S
namespace S
open PySem PySem.Spec PyProof.Rows L2
variable [Wd]
inductive DSd (K : PySem.W.Frag) (H : Hp) (a : Addr) (y v : V) (Q : V -> Hp -> Prop) : Prop
  | old {xs : List (NestedKey × Addr × V)} {b : Addr} {k : NestedKey} {u : V} : H a = some (dcN a xs) -> xl' K H xs -> y = .ref b -> NkV K H (.ref b) k -> k.depth <= 8 -> valV (xsV xs) k = some u -> xs.length <= sizeLine -> Q u H -> DSd K H a y v Q
  | new {xs : List (NestedKey × Addr × V)} {b : Addr} {k : NestedKey} : H a = some (dcN a xs) -> xl' K H xs -> y = .ref b -> NkV K H (.ref b) k -> k.depth <= 8 -> valV (xsV xs) k = none -> (li' xs k b v).length <= sizeLine -> Q v (upd H a (dcN a (li' xs k b v))) -> DSd K H a y v Q
  | fst {b : Addr} {k : NestedKey} : H a = some (dcL a []) -> y = .ref b -> NkV K H (.ref b) k -> k.depth <= 8 -> Q v (upd H a (dcN a [(k, b, v)])) -> DSd K H a y v Q
section
variable {X : Cx} {pins : List (Addr × Obj)} {σ : St} {H : Hp} {s : Shared} {a : Addr} {y : V} {u : Value} {A : Around} {E : Value -> Shared -> Prop}
end
section
variable [Hot] {X : Cx} {W : WX} {o : Expr}
end
end S
namespace PySem.W
open Spec PyProof PyProof.Rows
section
variable {prog : Program} {w : World} {A A₀ : Around} {E : Value -> Shared -> Prop} {s : Shared} {K : Frag} {x y C C' L f : Addr} {h₀ : Heap} {m : Str -> Option Value} {ox oy : Obj} {od od' : Option Obj} {b tb : Value}
end
end PySem.W
namespace S
open PySem PySem.Spec PyProof.Rows L2
variable [Wd] [Hot]
local macro_rules | `(tactic| walk_at "parts") => `(tactic| (constructor; (intro e h; simp only [List.mem_append, List.mem_cons, List.not_mem_nil] at *; grind); (intro x; simp only [keys, List.map_append, List.map_cons, List.map_nil, List.count_append, List.count_cons, List.count_nil] at *; omega)))
section
variable {K : PySem.W.Frag} {σ : St} {H : Hp} {Q : VK} {W : WX}
end
section
variable {X : Cx} {W : WX} {pos p : Pos} {a b e : Expr} {ma mb : M.ME} {k : Nat} {args : List Str} {mf : M.MF}
end
end S
namespace S
open PySem PySem.Spec PyProof.Rows L2
local macro_rules | `(tactic| walk_at "parts") => `(tactic| (constructor; (intro e h; simp only [List.mem_append, List.mem_cons, List.not_mem_nil] at *; grind); (intro x; simp only [keys, List.map_append, List.map_cons, List.map_nil, List.count_append, List.count_cons, List.count_nil] at *; omega)))
section
variable [Wd]
variable {K : PySem.W.Frag} {F H G : Hp} {T T' : List Addr}
end
section
variable [Wd]
variable {K : PySem.W.Frag} {F H G : Hp} {T T' : List Addr}
def NoD (fp : Fp) : Prop := ∀ e ∈ fp, (∀ kvs, e.2 ≠ .dK kvs) /\ (∀ φ, e.2 ≠ .ext φ) /\ ∀ od u, e.2 ≠ .frz od u
theorem NoD.app {a b : Fp} (h : NoD a) (g : NoD b) : NoD (a ++ b) := fun e he => (List.mem_append.mp he).elim (h e) (g e)
structure Split (C A B : Fp) : Prop where
  mem : ∀ e, e ∈ C ↔ e ∈ A \/ e ∈ B
  cnt : ∀ x, (keys C).count x = (keys A).count x + (keys B).count x
end
section
variable [Wd] [Hot] {X : Cx} {W : WX} {a b e : Expr} {ma mb me : M.ME} {p p2 pos pos2 : Pos}
variable {es : List Expr} {mo : M.MO} {moa : M.MOA}
theorem RpA.rev {K : PySem.W.Frag} {F : Hp} {T : List Addr} {vs : List V} {os : List M.O} {fp : Fp} (h : RpA K F T vs os fp) : ∃ fq, RpA K F T vs.reverse os.reverse fq /\ Part fq fp := by
  induction vs generalizing os fp with
  | nil => cases h; exact ⟨[], .nil, .refl⟩
  | cons v vs ih =>
    cases h with
    | @cons _ _ o os fa fb h r =>
      obtain ⟨fq, h1, h2⟩ := ih r
      rw [List.reverse_cons, List.reverse_cons]
      have z : RpA K F T [v] [o] (fa ++ []) := .cons h .nil
      refine ⟨_, h1.app z, ?_⟩
      have p1 : Part (fq ++ (fa ++ [])) (fb ++ (fa ++ [])) := .app h2 .refl
      exact p1.trans (by walk_at "parts")
end
section
variable [Wd] {X : Cx} {W : WX} {a b : Expr} {ma mb : M.ME} {p p2 pos pos2 : Pos}
end
end S
namespace PySem.W
open PySem PySem.Spec PySem.Calls PyProof PyProof.Rows
section
variable {x t : Value} {P : Heap -> Prop}
end
end PySem.W
namespace L2
open PySem PySem.Spec PyProof.Rows
end L2
namespace S
open PySem PySem.Spec PyProof.Rows L2
variable [Wd] {X : Cx} {W : WX} {pos p : Pos} {a b : Expr}
end S
namespace S
open PySem PySem.Spec PyProof.Rows L2
variable [Wd] [Hot]
local macro_rules | `(tactic| walk_at "parts") => `(tactic| (constructor; (intro e h; simp only [List.mem_append, List.mem_cons, List.not_mem_nil] at *; grind); (intro x; simp only [keys, List.map_append, List.map_cons, List.map_nil, List.count_append, List.count_cons, List.count_nil] at *; omega)))
section
variable {K : PySem.W.Frag} {F H : Hp} {T : List Addr} {fp fr : Fp} {ρ : M.PSt} {σ : St}
theorem RpA.named {f : String} {o : M.O} : ∀ {fv : List (String × V)} {os : List M.O} {fp : Fp}, RpA K F T (fv.map (·.2)) os fp -> ((fv.map (·.1)).zip os).lookup f = some o →
    ∃ v f1 f2 f3, fv.lookup f = some v /\ fp = f1 ++ (f2 ++ f3) /\ Rp K F T v o f2 /\ ∀ o' f2', Rp K F T v o' f2' -> ∃ os', RpA K F T (fv.map (·.2)) os' (f1 ++ (f2' ++ f3)) /\ M.q4' f o' ((fv.map (·.1)).zip os) = (fv.map (·.1)).zip os'
  | [], _, _, r, h => by cases r; cases h
  | (g, v) :: fv, _, _, r, h => by
    cases r with
    | @cons _ _ o1 os fa fb r0 r =>
      by_cases e : f = g
      . subst e
        have h : some o1 = some o := by rw [<- h, List.map_cons, List.zip_cons_cons, List.lookup_cons_self]
        cases h
        refine ⟨v, [], fa, fb, List.lookup_cons_self, rfl, r0, fun o' f2' q => ⟨o' :: os, (RpA.cons q r : RpA K F T _ _ (f2' ++ fb)), ?_⟩⟩
        rw [List.map_cons, List.zip_cons_cons, List.zip_cons_cons]
        exact if_pos rfl
      . have h1 : (f == g) = false := by simpa using e
        have h : ((fv.map (·.1)).zip os).lookup f = some o := by
          rw [<- h, List.map_cons, List.zip_cons_cons]
          simp only [List.lookup, h1]
        obtain ⟨v', f1, f2, f3, e1, e2, e3, e4⟩ := RpA.named r h
        refine ⟨v', fa ++ f1, f2, f3, by simp only [List.lookup, h1]; exact e1, by rw [e2, List.append_assoc], e3, fun o' f2' q => ?_⟩
        obtain ⟨os', q1, q2⟩ := e4 o' f2' q
        refine ⟨o1 :: os', by rw [List.append_assoc]; exact .cons r0 q1, ?_⟩
        rw [List.map_cons, List.zip_cons_cons, List.zip_cons_cons]
        show (if g = f then _ else _) = _
        rw [if_neg (fun z => e z.symm), q2]
end
section
variable {X : Cx} {W : WX} {pos apos cpos tpos p2 : Pos} {a b e k value : Expr} {ma mk mv : M.ME}
end
end S
namespace S
open PySem PySem.Spec PyProof.Rows L2
variable [Wd] [Hot]
section
variable {K : PySem.W.Frag}
end
end S
namespace S
open PySem PySem.Spec PyProof.Rows L2
variable [Wd] [Hot]
section
variable {X : Cx} {W : WX} {K : PySem.W.Frag} {a b : Expr} {ma mb : M.ME} {pos p apos : Pos} {x : Str}
end
end S
namespace S
open PySem PySem.Spec PyProof.Rows L2
variable [Wd] [Hot]
section
variable {X : Cx} {tg e : Expr} {td : TE}
end
section
variable {K : PySem.W.Frag} {F : Hp} {T : List Addr}
end
section
variable {X : Cx} {W : WX} {tg a : Expr} {ma : M.ME}
end
end S
namespace S
open PySem PySem.Spec PyProof.Rows L2
variable [Wd]
section
variable {K : PySem.W.Frag}
end
variable [Hot]
section
variable {X : Cx} {W : WX} {pos cpos apos spos ipos epos : Pos}
end
end S
namespace S
open PySem PySem.Spec PyProof.Rows L2
variable [Wd]
inductive CodeMade (Ck : Addr -> Prop) (H : Hp) (P : Addr) (q : Str) (c : Addr) : Hp -> Prop
  | told : Ck c -> CodeMade Ck H P q c H
  | fresh {ps ps' : Array Value} : H c = none -> H P = some (.tbl ps) -> TriplesOk ps'.toList -> (∀ (pos : Pos) (cv : Value), codeAmong pos ps'.toList = some cv -> codeAmong pos ps.toList = some cv \/ cv = .ref c) →
      CodeMade Ck H P q c (upd (upd H P (.tbl ps')) c (LamX.CodeO c q))
section
variable {X : Cx} {pins : List (Addr × Obj)} {σ : L2.St} {H : Hp} {s : Shared}
end
end S
namespace S
open PySem PySem.Spec PyProof.Rows L2
end S
namespace S
open PySem PySem.Spec PyProof.Rows L2
variable [Wd]
end S
namespace S
open PySem PySem.Spec PyProof.Rows L2
section
variable {P : Program} {w : World} {K : PySem.W.Frag} {mg mb : Str -> Option Value} {CX : CXT} {k : Nat} {fa a : Addr} {fd : FuncData} {x : Str} {sp : Sp} {s : Shared} {vs : List Value} {n0 : Nat} {H : Hp} {cs : List (Addr × Addr)}
end
end S
namespace S
open PySem PySem.Spec PyProof.Rows L2
variable [Wd] [Hot]
section
variable {X : Cx} {W : WX} {pos apos tpos p2 : Pos} {a value : Expr} {ma mv : M.ME} {t : Str} {j2 : Nat} {s : M.Tx}
end
end S
namespace S
open PySem PySem.Spec PyProof.Rows PySem.W
section
variable {prog : Program} {w : World} {A : Around} {E : Value -> Shared -> Prop} {s : Shared}
end
section
open L2
variable {X : Cx}
end
section
open L2
variable {X : Cx} {e : Expr} {te : TE} {p apos cpos pos : Pos} {sn : Str}
end
section
open L2
variable [Wd] [Hot]
end
section
open L2
variable [Wd] [Hot]
end
section
open L2
variable [Wd] [Hot] {X : Cx} {W : WX} {a : Expr} {ma : M.ME} {p apos iapos cpos pos : Pos} {sn : Str}
end
end S
namespace S
open PySem PySem.Spec PyProof.Rows L2
local macro_rules | `(tactic| walk_at "parts") => `(tactic| (constructor; (intro e h; simp only [List.mem_append, List.mem_cons, List.not_mem_nil] at *; grind); (intro x; simp only [keys, List.map_append, List.map_cons, List.map_nil, List.count_append, List.count_cons, List.count_nil] at *; omega)))
section
variable [Wd]
variable {K : PySem.W.Frag} {F H G : Hp} {T T' : List Addr}
def Drp (kl kd : Bool) (F G : Hp) : Prop := ∀ a o, F a = some o -> G a = some o \/ (kl = true /\ ∃ vs, o = .lst vs) \/ (kd = true /\ ∃ od kvs, o = .frz od (.dK kvs))
theorem Drp.keep {kl kd : Bool} (s : Drp kl kd F G) {a : Addr} {o : HO} (h : F a = some o) (n1 : ∀ vs, o ≠ .lst vs) (n2 : ∀ od kvs, o ≠ .frz od (.dK kvs)) : G a = some o := by
  rcases s a o h with h | ⟨_, vs, e⟩ | ⟨_, od, kvs, e⟩
  . exact h
  . exact absurd e (n1 vs)
  . exact absurd e (n2 od kvs)
theorem Drp.seqT {kl kd : Bool} (s : Drp kl kd F G) {a : Addr} {xs : List V} (h : SqT K F a xs) : SqT K G a xs := by
  rcases h with (h | ⟨o, h⟩) | h
  . exact .inl (.inl (s.keep h (fun _ z => nomatch z) fun _ _ z => nomatch z))
  . exact .inl (.inr ⟨o, s.keep h (fun _ z => nomatch z) fun _ _ z => nomatch z⟩)
  . exact .inr h
theorem Drp.lst {kd : Bool} (s : Drp false kd F G) {a : Addr} {vs : List V} (h : F a = some (.lst vs)) : G a = some (.lst vs) := by
  rcases s a _ h with h | ⟨z, _⟩ | ⟨_, od, kvs, e⟩
  . exact h
  . cases z
  . cases e
theorem Drp.seqL {kd : Bool} (s : Drp false kd F G) {a : Addr} {xs : List V} (h : SqL K F a xs) : SqL K G a xs := by
  rcases h with (h | ⟨o, h⟩) | h
  . exact .inl (.inl (s.lst h))
  . exact .inl (.inr ⟨o, s.keep h (fun _ z => nomatch z) fun _ _ z => nomatch z⟩)
  . exact .inr h
theorem Drp.dict {kl : Bool} (s : Drp kl false F G) {a : Addr} {kvs : List (Key × V)} (h : Rd F a (.dK kvs)) : Rd G a (.dK kvs) := by
  rcases h with h | ⟨o, h⟩
  . exact .inl (s.keep h (fun _ z => nomatch z) fun _ _ z => nomatch z)
  . rcases s a _ h with h | ⟨_, _, e⟩ | ⟨z, _⟩
    . exact .inr ⟨o, h⟩
    . cases e
    . cases z
theorem Drp.ext {kl kd : Bool} (s : Drp kl kd F G) {a : Addr} {φ : Heap -> Prop} (h : Rd F a (.ext φ)) : Rd G a (.ext φ) := by
  rcases h with h | ⟨o, h⟩
  . exact .inl (s.keep h (fun _ z => nomatch z) fun _ _ z => nomatch z)
  . exact .inr ⟨o, s.keep h (fun _ z => nomatch z) fun _ _ z => nomatch z⟩
theorem CB' {a b : Bool} (h : (a && b) = true) : a = true /\ b = true := Bool.and_eq_true_iff.mp h
def Lnt (kl kd : Bool) (o : HO) : Prop := (kl = true /\ ∃ vs, o = .lst vs) \/ (kd = true /\ ∃ kvs, o = .dK kvs)
def DG' (G : Hp) (e : Addr × HO) : Prop := G e.1 = some e.2 \/ ∃ od kvs, e.2 = .dK kvs /\ G e.1 = some (.frz od e.2)
theorem RpA.allFz {vs : List V} {os : List M.O} {fp : Fp} (r : RpA K F T vs os fp) (h : os.all M.wz' = true) : fp = [] /\ FzA K F T vs (M.frzs os) := by
  induction vs generalizing os fp with
  | nil => cases r; exact ⟨rfl, .nil⟩
  | cons v vs ih =>
    cases r with
    | @cons _ _ o os fa fb q r =>
      obtain ⟨h1, h2⟩ := CB' (show (M.wz' o && os.all M.wz') = true from h)
      obtain ⟨rfl, z⟩ := ih r h2
      cases o <;> try (cases h1; done)
      cases q with
      | fz q => exact ⟨rfl, .cons q z⟩
theorem Rp.lendO {kl kd : Bool} {v : V} {o : M.O} {fp : Fp} (q : Rp K F T v o fp) (h : M.lendO kl kd o = true) : (∀ e ∈ fp, Lnt kl kd e.2) /\ fp.length = M.Ar' o /\ ∀ G, Same F G -> (∀ e ∈ fp, DG' G e) -> Fz K G T v (M.frz o) := by
  cases q with
  | fz z => exact ⟨nofun, rfl, fun G s _ => z.mono (.of s)⟩
  | lst r =>
    obtain ⟨h1, h2⟩ := CB' (show (kl && _) = true from h)
    obtain ⟨rfl, z⟩ := r.allFz h2
    refine ⟨fun e he => ?_, rfl, fun G s g => ?_⟩
    . cases List.mem_singleton.mp he; exact .inl ⟨h1, _, rfl⟩
    . rcases g _ List.mem_cons_self with g | ⟨_, _, g, _⟩
      . exact .lst g (z.mono (.of s))
      . cases g
  | tup r => cases h
  | dct k r =>
    obtain ⟨h1, h2⟩ := CB' (show (kd && _) = true from h)
    obtain ⟨rfl, z⟩ := r.allFz h2
    refine ⟨fun e he => ?_, rfl, fun G s g => ?_⟩
    . cases List.mem_singleton.mp he; exact .inr ⟨h1, _, rfl⟩
    . rcases g _ List.mem_cons_self with g | ⟨od, _, _, g⟩
      . exact .dct (.inl g) k (z.mono (.of s))
      . exact .dct (.inr ⟨od, g⟩) k (z.mono (.of s))
  | dcl k r => cases h
  | dcn k q r => cases h
end
section
variable [Wd] [Hot] {X : Cx} {W : WX} {e : Expr} {mo : M.MO}
end
end S
namespace S
open PySem PySem.Spec PyProof.Rows L2
local macro_rules | `(tactic| walk_at "parts") => `(tactic| (constructor; (intro e h; simp only [List.mem_append, List.mem_cons, List.not_mem_nil] at *; grind); (intro x; simp only [keys, List.map_append, List.map_cons, List.map_nil, List.count_append, List.count_cons, List.count_nil] at *; omega)))
variable [Wd] [Hot]
section
variable {K : PySem.W.Frag}
end
section
variable {X : Cx} {W : WX} {a b : Expr} {mb : M.ME} {pos : Pos}
end
end S
namespace S
open PySem PySem.Spec PyProof.Rows L2
local macro_rules | `(tactic| walk_at "parts") => `(tactic| (constructor; (intro e h; simp only [List.mem_append, List.mem_cons, List.not_mem_nil] at *; grind); (intro x; simp only [keys, List.map_append, List.map_cons, List.map_nil, List.count_append, List.count_cons, List.count_nil] at *; omega)))
variable [Wd]
section
variable {X : Cx} {pins : List (Addr × Obj)} {σ : St} {H : Hp} {s : Shared} {a b : Addr} {y d : V} {u r : Value} {ov : Option V} {A : Around} {E : Value -> Shared -> Prop}
end
section
variable [Hot] {X : Cx} {W : WX} {o e f a i k l : Expr} {me mf ma mk ml : M.ME} {pos tpos tpos2 apos cpos : Pos}
end
section
variable {K : PySem.W.Frag}
end
section
variable [Hot]
end
end S
namespace S
open PySem PySem.Spec PyProof.Rows L2
variable [Wd]
end S
namespace S
open PySem PySem.Spec PyProof.Rows L2
variable [Wd] [Hot]
section
variable {X : Cx} {W : WX}
end
end S
namespace S
open PySem PySem.Spec PyProof.Rows L2
local macro_rules | `(tactic| walk_at "parts") => `(tactic| (constructor; (intro e h; simp only [List.mem_append, List.mem_cons, List.not_mem_nil] at *; grind); (intro x; simp only [keys, List.map_append, List.map_cons, List.map_nil, List.count_append, List.count_cons, List.count_nil] at *; omega)))
variable [Wd]
inductive HitsD (K : PySem.W.Frag) (H : Hp) (ls : List (Key × V)) : List (Key × V) -> Bool -> Prop
  | nil : HitsD K H ls [] true
  | miss {p : Key × V} {r : List (Key × V)} : valV ls p.1 = none -> HitsD K H ls (p :: r) false
  | hit {p : Key × V} {u : V} {d e : PyData} {r : List (Key × V)} {b : Bool} : valV ls p.1 = some u -> Dp K H p.2 d -> Dp K H u e -> SeqAt.shaped d = true -> SeqAt.shaped e = true -> HitsD K H ls r b -> HitsD K H ls (p :: r) (PyData.eqv d e && b)
section
variable {X : Cx}
end
section
variable {K : PySem.W.Frag}
end
section
variable {X : Cx} {pins : List (Addr × Obj)} {σ : St} {H : Hp} {s : Shared} {a b : Addr} {y d : V} {u r : Value} {ov : Option V} {A : Around} {E : Value -> Shared -> Prop}
end
section
variable [Hot] {X : Cx} {W : WX} {o e f a i k l : Expr} {me mf ma mk ml : M.ME} {pos tpos tpos2 apos cpos : Pos}
end
end S
namespace S
open PySem PySem.Spec PyProof.Rows L2 PySem.SeqAt
variable [Wd] [Hot]
variable {K : PySem.W.Frag}
end S
namespace S
open PySem PySem.Spec PyProof.Rows L2
local macro_rules | `(tactic| walk_at "parts") => `(tactic| (constructor; (intro e h; simp only [List.mem_append, List.mem_cons, List.not_mem_nil] at *; grind); (intro x; simp only [keys, List.map_append, List.map_cons, List.map_nil, List.count_append, List.count_cons, List.count_nil] at *; omega)))
section
variable [Wd] [Hot] {X : Cx} {W : WX} {pos : Pos}
end
end S
namespace S
open PySem PySem.Spec PyProof.Rows L2
variable [Wd] [Hot]
section
variable {K : PySem.W.Frag} {W : WX} {σ : St} {H : Hp} {D : Ends}
end
section
variable {X : Cx} {W : WX} {pos px ps pr : Pos} {tg c e : Expr} {sl : List Nat} {i : Nat} {nm : Str} {g : M.MG} {t : M.MT} {a : M.MO}
end
section
variable {X : Cx} {W : WX} {apos cpos : Pos} {o e : Expr} {es : List Expr} {x : Str} {as : M.MA}
end
end S
namespace L2
open PySem PySem.Spec PyProof.Rows
structure Lay (X : Cx) (pn : List (Addr × Obj)) (a : Addr) (cls : Value) (d : Option Addr) (σ : St) (H : Hp) (s : Shared) : Prop where
  src : ∃ B z, Inv X pn σ H z /\ (∀ b o, z.heap.get? b = some o -> b ∉ frs X.stack -> B.get? b = some o) /\ z.heap.UpToSlots s.heap /\ HandSPX.FlyingZ B (X.env :: X.outer) a (Zc cls d) s.heap /\ s.os = z.os /\ AllBare s.gens
  na : H a = none
section
variable {X : Cx} {pn : List (Addr × Obj)} {a : Addr} {cls : Value} {d : Option Addr} {σ : St} {H : Hp} {s : Shared}
theorem Lay.inv (y : Lay X pn a cls d σ H s) : Inv X pn σ H s := by
  obtain ⟨⟨B, z, I, h1, h2, h3, h4, h5⟩, -⟩ := y
  exact I.landed h1 h3.1 h2 h4 h5
theorem Lay.held (y : Lay X pn a cls d σ H s) (hf : X.env.frame = some X.env.locals) : ∃ oe, s.heap.get? a = some oe /\ Zc cls d oe /\ (∃ vs, oe.data = .fields vs) /\ Inv (X.suite a ((a, oe) :: (X.pn ++ pn))) [] σ H s := by
  have I := y.inv
  obtain ⟨⟨B, z, -, -, -, fl, -, -⟩, na⟩ := y
  obtain ⟨oe, vs, e1, e2, e3⟩ := fl.there
  have off : a ∉ frs (X.env :: X.outer) := by
    intro m
    obtain ⟨_, o2, e4, no⟩ := fl.2.2.1.mem m
    rw [e1] at e4
    cases e4
    exact no vs e3
  have q1 : a ≠ X.env.locals := by
    intro q
    refine off (List.mem_filterMap.2 ⟨X.env, by simp, ?_⟩)
    rw [hf, q]
  have q2 : a ∉ X.fs := by
    intro m
    obtain ⟨w, m1, m2⟩ := List.mem_filterMap.1 m
    exact off (List.mem_filterMap.2 ⟨w, by simp [m1], m2⟩)
  exact ⟨oe, e1, e2, ⟨vs, e3⟩, I.suite e1 e3 na q1 q2⟩
theorem Lay.cool {M : Model} {A : Around} {E : Value -> Shared -> Prop} {Q : Unit -> Shared -> Prop} (y : Lay X pn a cls d σ H s) (h : ∀ s', Lay X pn a cls d σ H s' -> Q () s') : wpAny M A (setFlight (.ref a) none) Q E s := by
  obtain ⟨⟨B, z, I, h1, h2, h3, h4, h5⟩, na⟩ := y
  exact HandSPX.lands_againZ h3 fun g k1 k2 => h _ ⟨⟨B, z, I, h1, h2.trans k2, k1, h4, h5⟩, na⟩
theorem Lay.out {W : WX} {Q : Flow -> Shared -> Prop} (y : Lay X pn a cls d σ H s) (hs : X.stack = X.env :: X.outer) (hf : X.env.frame = some X.env.locals) (tk : Takes X W) (w : W cls d σ H) : wpAny (model X.prog X.w) X.A (handleBy (.ref a) X.env []) Q X.xe s := by
  obtain ⟨⟨B, z, I, h1, h2, h3, h4, h5⟩, na⟩ := y
  obtain ⟨-, -, -, oe, vs, T, -, -, e1, -, e2, e3, -⟩ := id h3
  refine wpAny_handleBy_nil ?_
  unfold PySem.passOn
  refine wpAny_bind (wpAny_field e1 e2 e3 ?_)
  have nT : (Value.ref T == Value.none) = false := by simp
  rw [nT, if_neg Bool.false_ne_true]
  have up : wpAny (model X.prog X.w) X.A (setFlight (.ref a) X.env.frame) (fun _ r => wpAny (model X.prog X.w) X.A (throw (.ref a) : Sem Flow) Q X.xe r) X.xe s := by
    rw [hf]
    refine HandSPX.setFlight_upZ h3 fun g k1 k2 => wpAny_throw (tk (.ref a) _ ?_)
    refine ⟨a, B, z, pn, σ, H, cls, d, rfl, I, h1, h2.trans k2, ?_, na, h4, h5, w⟩
    rw [hs]
    exact .inr (.inr k1)
  first
    | exact wpAny_bind (wpAny_pure (wpAny_bind up))
    | exact wpAny_bind up
end
def Dv' (D : Ends) (i : Nat) : Ends := { nx := fun σ H => D.nx (σ.set i none) H, rt := D.rt, bk := fun σ H => D.bk (σ.set i none) H, ct := fun σ H => D.ct (σ.set i none) H }
def tAs (i : Nat) (ts : Addr -> Value -> Option Addr -> TS) : Addr -> Value -> Option Addr -> TS := fun a cls d D σ H => ts a cls d (Dv' D i) (σ.set i (some (.ref a))) H
inductive HdsN (X : Cx) : List ExceptHandler -> List (Value × (Addr -> Value -> Option Addr -> TS)) -> Prop
  | nil : HdsN X [] []
  | plain {x : Str} {c : Value} {ts : Addr -> Value -> Option Addr -> TS} {b : Stmt} {bs : List Stmt} {p q : Pos} {r : List ExceptHandler} {l : List (Value × (Addr -> Value -> Option Addr -> TS))} (hc : Names X x c)
      (h : ∀ (a : Addr) (oe : Obj) (cls : Value) (d : Option Addr) (pn : List (Addr × Obj)), Zc cls d oe -> (∃ vs, oe.data = .fields vs) -> PSs (X.suite a ((a, oe) :: pn)) (b :: bs) (ts a cls d)) : HdsN X r l →
      HdsN X (.ExceptHandler (some (.Name x p)) none (b :: bs) q :: r) ((c, ts) :: l)
  | named {x n : Str} {i : Nat} {c : Value} {ts : Addr -> Value -> Option Addr -> TS} {b : Stmt} {bs : List Stmt} {p q : Pos} {r : List ExceptHandler} {l : List (Value × (Addr -> Value -> Option Addr -> TS))} (hN : X.N.Nodup) (hi : X.N[i]? = some n) (hln : X.env.kindOf n = some .local) (hc : Names X x c)
      (h : ∀ (a : Addr) (oe : Obj) (cls : Value) (d : Option Addr) (pn : List (Addr × Obj)), Zc cls d oe -> (∃ vs, oe.data = .fields vs) -> PSs (X.suite a ((a, oe) :: pn)) (b :: bs) (ts a cls d)) : HdsN X r l →
      HdsN X (.ExceptHandler (some (.Name x p)) (some n) (b :: bs) q :: r) ((c, tAs i ts) :: l)
section
variable {X : Cx} {pn : List (Addr × Obj)} {a : Addr} {cls : Value} {d : Option Addr} {σ : St} {H : Hp} {s : Shared}
theorem Lay.asks {x : Str} {c : Value} {b : Bool} {nm : Option Str} {body : List Stmt} {p q : Pos} {r : List ExceptHandler} {Q : Flow -> Shared -> Prop} (y : Lay X pn a cls d σ H s) (hf : X.env.frame = some X.env.locals) (hc : Names X x c) (hb : PySem.W.exmOne X.K cls c = some b)
    (yes : b = true -> codeAny (model X.prog X.w) (X.A.mark (some (.ref a))) (.handlers (.ref a) [.ExceptHandler none nm body q] X.env) (fun o s₂ => match o with
          | .ok f => (match nm with
            | none => Q f s₂
            | some n => wpAny (model X.prog X.w) X.A (do bindName X.env n .none; unbindBehindTheSuite X.env n q) (fun _ s₃ => Q f s₃) X.xe s₂)
          | .error x => cameBackBy (model X.prog X.w) X.A X.env X.xe x s₂) s)
    (no : b = false -> wpAny (model X.prog X.w) X.A (handleBy (.ref a) X.env r) Q X.xe s) : wpAny (model X.prog X.w) X.A (handleBy (.ref a) X.env (.ExceptHandler (some (.Name x p)) nm body q :: r)) Q X.xe s := by
  obtain ⟨oe, e1, e2, e3, S⟩ := y.held hf
  have I := y.inv
  refine wpAny_handleBy_cons (codeAny_handlers_test ?_) (fun z => by cases z)
  have lt : PySem.W.Looks (model X.prog X.w) s.heap (typeOf (.ref a)) cls := fun A Q E s k q => wpAny_typeOf_ref (k _ _ e1) (by rw [e2.1]; exact q)
  have lm := PySem.W.exm_one (M := model X.prog X.w) I.kIn lt hb
  have ask : ∀ {Q E : Value -> Shared -> Prop}, Q c s -> wpAny (model X.prog X.w) (X.A.mark (some (.ref a))) (eval (.Name x p) X.env) Q E s := by
    intro Q E z
    obtain ⟨g1, g2, g3⟩ := hc
    rcases g3 with g3 | ⟨g3, g4, g5⟩
    . exact ld_glob (X := X.suite a ((a, oe) :: (X.pn ++ pn))) S g1 g3 z g2
    . exact ld_blt (X := X.suite a ((a, oe) :: (X.pn ++ pn))) S g1 g3 g4 z g5 g2
  refine ask (lm.here ?_)
  cases b with
  | false => exact no rfl
  | true => exact yes rfl
theorem Lay.run {W : WX} {D : Ends} (hs : X.stack = X.env :: X.outer) (hf : X.env.frame = some X.env.locals) (tk : Takes X W) {hds : List ExceptHandler} {l : List (Value × (Addr -> Value -> Option Addr -> TS))} (hh : HdsN X hds l) (y : Lay X pn a cls d σ H s) (w : wMany X.K W D l cls d σ H) :
    wpAny (model X.prog X.w) X.A (handleBy (.ref a) X.env hds) (SP X pn D) X.xe s := by
  have ok := y.inv.ok
  induction hh with
  | nil => exact y.out hs hf tk w
  | @plain x c ts b bs p q r l hc h _ ih =>
    obtain ⟨t, w1, w2, w3⟩ := w
    refine y.asks hf hc w1 (fun et => codeAny_handlers_suite (y.cool fun s2 y2 => ?_)) fun et => ih (w3 et)
    obtain ⟨oe, e1, e2, e3, S⟩ := y2.held hf
    refine wpAny_mono ((h a oe cls d (X.pn ++ pn) e2 e3).run [] s2 σ H D S (w2 et a y.na)) (fun f s3 z => ?_) (fun _ _ z => z.elim)
    cases f with
    | next =>
      obtain ⟨σ3, H3, S3, z⟩ := z
      exact ⟨σ3, H3, S3.unsuite ok, z⟩
    | brk =>
      obtain ⟨σ3, H3, S3, z⟩ := z
      exact ⟨σ3, H3, S3.unsuite ok, z⟩
    | cont =>
      obtain ⟨σ3, H3, S3, z⟩ := z
      exact ⟨σ3, H3, S3.unsuite ok, z⟩
    | ret u =>
      obtain ⟨v, σ3, H3, S3, z⟩ := z
      exact ⟨v, σ3, H3, S3.unsuite ok, z⟩
  | @named x n i c ts b bs p q r l hN hi hln hc h _ ih =>
    obtain ⟨t, w1, w2, w3⟩ := w
    refine y.asks hf hc w1 (fun et => codeAny_handlers_suite_as (y.cool fun s2 y2 => ?_)) fun et => ih (w3 et)
    obtain ⟨oe, e1, e2, e3, S⟩ := y2.held hf
    refine store_ok (X := X.suite a ((a, oe) :: (X.pn ++ pn))) (v := .ref a) S hN hi (.inl hln) rfl (fun s3 S3 => ?_) (.inr hln)
    refine wpAny_mono ((h a oe cls d (X.pn ++ pn) e2 e3).run [] s3 _ H _ S3 (w2 et a y.na)) (fun f s4 z => ?_) (fun _ _ z => z.elim)
    have gone : ∀ {σ4 : St} {H4 : Hp} {R : Shared -> Prop}, Inv (X.suite a ((a, oe) :: (X.pn ++ pn))) [] σ4 H4 s4 -> (∀ s5, Inv X pn (σ4.set i none) H4 s5 -> R s5) -> wpAny (model X.prog X.w) X.A (do bindName X.env n .none; unbindBehindTheSuite X.env n q) (fun _ s5 => R s5) X.xe s4 := by
      intro σ4 H4 R S4 k
      exact gone_ok (S4.unsuite ok) hN hi hln k
    cases f with
    | next =>
      obtain ⟨σ3, H3, S3, z⟩ := z
      exact gone S3 fun _ k => ⟨_, _, k, z⟩
    | brk =>
      obtain ⟨σ3, H3, S3, z⟩ := z
      exact gone S3 fun _ k => ⟨_, _, k, z⟩
    | cont =>
      obtain ⟨σ3, H3, S3, z⟩ := z
      exact gone S3 fun _ k => ⟨_, _, k, z⟩
    | ret u =>
      obtain ⟨v, σ3, H3, S3, z⟩ := z
      exact gone S3 fun _ k => ⟨_, _, _, k, z⟩
end
section
variable {X : Cx} {body : List Stmt} {h₀ : ExceptHandler} {hds : List ExceptHandler} {l : List (Value × (Addr -> Value -> Option Addr -> TS))} {pos : Pos} {tb : WX -> TS} {W : WX}
end
end L2
namespace S
open PySem PySem.Spec PyProof.Rows L2
variable [Wd]
section
variable {X : Cx} {W : WX} {D : Ends} {σ : St} {H : Hp} {F : Hp} {T : List Addr} {fr : Fp}
abbrev Hn := List (Option (Nat × Nat) × (String -> Option Bool) × (M.Exc -> M.MS))
inductive HdsMN (X : Cx) : List ExceptHandler -> Hn -> List (Value × (Addr -> Value -> Option Addr -> TS)) -> Prop
  | nil : HdsMN X [] [] []
  | plain {x : Str} {c : Value} {g : String -> Option Bool} {h : M.Exc -> M.MS} {b : Stmt} {bs : List Stmt} {p q : Pos} {r : List ExceptHandler} {l : Hn} {l' : List (Value × (Addr -> Value -> Option Addr -> TS))} (hc : Names X x c)
      (hg : ∀ y b, g y = some b -> PySem.W.exmOne X.K (.ref (He.ga X.K y)) c = some b)
      (hsu : ∀ (e : M.Exc) (a : Addr) (oe : Obj) (d : Option Addr) (pn : List (Addr × Obj)), Zc (.ref (He.ga X.K e.cls)) d oe -> (∃ vs, oe.data = .fields vs) -> SSs (X.suite a ((a, oe) :: pn)) W0 (b :: bs) (h e)) : HdsMN X r l l' →
      HdsMN X (.ExceptHandler (some (.Name x p)) none (b :: bs) q :: r) ((none, g, h) :: l) ((c, tsM X.K h) :: l')
  | named {x n : Str} {i m : Nat} {c : Value} {g : String -> Option Bool} {h : M.Exc -> M.MS} {b : Stmt} {bs : List Stmt} {p q : Pos} {r : List ExceptHandler} {l : Hn} {l' : List (Value × (Addr -> Value -> Option Addr -> TS))} (hN : X.N.Nodup) (hi : X.N[i]? = some n) (hln : X.env.kindOf n = some .local) (hc : Names X x c)
      (hg : ∀ y b, g y = some b -> PySem.W.exmOne X.K (.ref (He.ga X.K y)) c = some b)
      (hsu : ∀ (e : M.Exc) (a : Addr) (oe : Obj) (d : Option Addr) (pn : List (Addr × Obj)), Zc (.ref (He.ga X.K e.cls)) d oe -> (∃ vs, oe.data = .fields vs) -> @SSs _ (jz' a m d e) (X.suite a ((a, oe) :: pn)) W0 (b :: bs) (h e)) : HdsMN X r l l' →
      HdsMN X (.ExceptHandler (some (.Name x p)) (some n) (b :: bs) q :: r) ((some (i, m), g, h) :: l) ((c, tAs i (tsA [] X.K m h)) :: l')
theorem HdsMN.ok {hds : List ExceptHandler} {l : Hn} {l' : List (Value × (Addr -> Value -> Option Addr -> TS))} (h : HdsMN X hds l l') : HdsN X hds l' := by
  induction h with
  | nil => exact .nil
  | plain hc hg hsu r ih => exact .plain hc (nk' hsu) ih
  | named hN hi hln hc hg hsu r ih =>
    refine .named hN hi hln hc (fun a oe cls d pn hz hf => ⟨fun pins s σ H D I q => ?_⟩) ih
    obtain ⟨e, rfl, q⟩ := q
    exact (hsu e a oe d pn hz hf).run pins s σ H D I q
end
end S
namespace S
open PySem PySem.Spec PyProof.Rows L2
variable [Wd]
structure LamOk (P : Program) (w : World) (K : PySem.W.Frag) (mg : Str -> Option Value) (base : Heap) (k : Nat) (cl : List (Str × Addr)) (fr : List Str) (c : CloD) (U : M.MF) : Prop where
  isfn : ∀ h : Heap, h.get? c.f = some c.ob -> PySem.W.FnAt c.f h
  run : ∀ (A : Around) (outer : List Env) (s : Shared) (H : Hp) (us : List Value) (vs : List V) (Q : VK) (E : XK), RoomG k A -> Env0 P w K mg base A outer s H →
    NdefX.CellsAt cl fr (c.ws.map some) s.heap H -> Vals vs us →
    (∃ ds w' F T fp, FzA K F T vs ds /\ CloAt K F T c /\ sp' K w' H F T fp /\ xm' K Q E F T fp (U ds w')) -> codeAny (model P w) A (.call (.ref c.f) ⟨us, []⟩) (CR (L2.CX P w) outer P w H s Q E) s
theorem LamOk.mono {P : Program} {w : World} {K : PySem.W.Frag} {mg : Str -> Option Value} {base : Heap} {j k : Nat} {cl : List (Str × Addr)} {fr : List Str} {c : CloD} {U : M.MF} (h : LamOk P w K mg base j cl fr c U) (l : j <= k) : LamOk P w K mg base k cl fr c U :=
  ⟨h.isfn, fun A o s H us vs Q E hr => h.run A o s H us vs Q E (hr.mono l)⟩
section
variable {P : Program} {w : World} {K : PySem.W.Frag} {mg : Str -> Option Value} {base : Heap}
end
inductive ArgK (K : PySem.W.Frag) (F : Hp) (T : List Addr) : List Bool -> List V -> List M.D -> List CloD -> Prop
  | nil : ArgK K F T [] [] [] []
  | dat {m : List Bool} {v : V} {vs : List V} {d : M.D} {ds : List M.D} {cs : List CloD} : Fz K F T v d -> ArgK K F T m vs ds cs -> ArgK K F T (false :: m) (v :: vs) (d :: ds) cs
  | clo {m : List Bool} {vs : List V} {ds : List M.D} {c : CloD} {cs : List CloD} : CloAt K F T c -> ArgK K F T m vs ds cs -> ArgK K F T (true :: m) (.ref c.f :: vs) ds (c :: cs)
theorem ArgK.mono {K : PySem.W.Frag} {F F' : Hp} {T T' : List Addr} (e : Ext F T F' T') {m : List Bool} {vs : List V} {ds : List M.D} {cs : List CloD} (h : ArgK K F T m vs ds cs) : ArgK K F' T' m vs ds cs := by
  induction h with
  | nil => exact .nil
  | dat z _ ih => exact .dat (z.mono e) ih
  | clo z _ ih => exact .clo (z.mono e) ih
section
variable [Hot] {X : Cx} {W : WX} {k : Nat} {e : Expr} {es : List Expr} {a : M.ME} {as : List M.AK}
end
structure FnK (P : Program) (w : World) (K : PySem.W.Frag) (mg : Str -> Option Value) (base : Heap) (k : Nat) (f : Addr) (fd : FuncData) (ps : List Str) (kc : Nat) (mask : List Bool) (m : List M.MF -> M.MF) : Prop where
  len : mask.length = ps.length
  run : ∀ (A : Around) (outer : List Env) (s : Shared) (H : Hp) (args : Args) (us : List Value) (vs : List V) (Q : VK) (E : XK), RoomG k A -> Env0 P w K mg base A outer s H -> BindsTo s fd args (ps.zip us) -> Vals vs us →
    (∃ ds cs Us w' F T fr, ArgK K F T mask vs ds cs /\ Paired (fun c U => ∃ cl fr, LamOk P w K mg base kc cl fr c U /\ NdefX.CellsAt cl fr (c.ws.map some) s.heap H) cs Us /\ sp' K w' H F T fr /\ xm' K Q E F T fr (m Us ds w')) →
    codeAny (model P w) A (.call (.ref f) args) (CR (L2.CX P w) outer P w H s Q E) s
theorem ArgK.len {K : PySem.W.Frag} {F : Hp} {T : List Addr} {m : List Bool} {vs : List V} {ds : List M.D} {cs : List CloD} (h : ArgK K F T m vs ds cs) : vs.length = m.length := by
  induction h with
  | nil => rfl
  | dat _ _ ih => exact congrArg (· + 1) ih
  | clo _ _ ih => exact congrArg (· + 1) ih
def xr' : Nat -> List Bool -> List CloD -> List (Nat × CloD)
  | n, true :: m, c :: cs => (n - 1, c) :: xr' (n - 1) m cs
  | n, false :: m, cs => xr' (n - 1) m cs
  | _, _, _ => []
theorem RpE.offs [Hot] {K : PySem.W.Frag} {F : Hp} {T : List Addr} : ∀ r : Nat, RpE K F T (List.replicate r none) (List.replicate r none) []
  | 0 => .nil
  | r + 1 => .off (RpE.offs r)
theorem ArgK.start [Hot] {K : PySem.W.Frag} {F : Hp} {T : List Addr} {r : Nat} : ∀ {m : List Bool} {vs : List V} {ds : List M.D} {cs : List CloD}, ArgK K F T m vs ds cs -> (∀ i c, (i, c) ∈ xr' (m.length + r) m cs -> Hot.clo.lookup i = some c) →
    ∃ env, M.ze' m ds = some env /\ env.length = m.length /\ RpE K F T (vs.map some ++ List.replicate r none) (env ++ List.replicate r none) []
  | _, _, _, _, .nil, _ => ⟨[], rfl, rfl, RpE.offs r⟩
  | _, _, _, _, @ArgK.dat _ _ _ _ m v vs d ds cs z a, h => by
    obtain ⟨env, h1, h2, h3⟩ := ArgK.start (r := r) a fun i c hi => h i c (by
      show (i, c) ∈ xr' (m.length + 1 + r - 1) m cs
      rwa [show m.length + 1 + r - 1 = m.length + r by omega])
    exact ⟨some (.fz d) :: env, by show (M.ze' m ds).map _ = _; rw [h1]; rfl, congrArg (· + 1) h2, RpE.on (fp := []) (fq := []) (.fz z) h3⟩
  | _, _, _, _, @ArgK.clo _ _ _ _ m vs ds c cs z a, h => by
    have e1 : m.length + 1 + r - 1 = m.length + r := by omega
    obtain ⟨env, h1, h2, h3⟩ := ArgK.start (r := r) a fun i c' hi => h i c' (by
      show (i, c') ∈ (m.length + 1 + r - 1, c) :: xr' (m.length + 1 + r - 1) m cs
      rw [e1]
      exact List.mem_cons_of_mem _ hi)
    refine ⟨some .clo :: env, by show (M.ze' m ds).map _ = _; rw [h1]; rfl, congrArg (· + 1) h2, RpE.clo ?_ z h3⟩
    show Hot.clo.lookup (env ++ List.replicate r none).length = some c
    rw [List.length_append, List.length_replicate, h2]
    refine h _ c ?_
    show _ ∈ (m.length + 1 + r - 1, c) :: xr' (m.length + 1 + r - 1) m cs
    rw [e1]
    exact List.mem_cons_self
section
variable {P : Program} {w : World} {K : PySem.W.Frag} {mg : Str -> Option Value} {base : Heap}
end
section
variable [Hot] {X : Cx} {W : WX} {k kc : Nat} {x : Str} {ps : List Str} {p pos : Pos} {e : Expr} {es : List Expr} {as : List M.AK} {m : List M.MF -> M.MF}
end
section
variable [Hot] {X : Cx} {W : WX} {kc i : Nat} {x : Str} {p pos : Pos} {e : Expr} {es : List Expr} {as : M.MA} {U : M.MF}
end
end S
namespace S
open PySem PySem.Spec PyProof.Rows L2
variable [Wd] [Hot]
section
variable {K : PySem.W.Frag}
end
end S
namespace S
open PySem PySem.Spec PyProof.Rows L2
variable [Wd] [Hot]
section
variable {X : Cx} {W : WX} {pos p : Pos} {x : Str} {a : Expr} {σ : St} {H : Hp} {Q : VK}
end
end S
namespace S
open PySem PySem.Spec PyProof.Rows L2
variable [Wd] [Hot]
section
variable {K : PySem.W.Frag} {W : WX} {σ : St} {H : Hp} {D : Ends}
end
section
variable {X : Cx} {W : WX} {pos : Pos} {tg e : Expr} {body : List Stmt} {sl : List Nat} {a : M.ME} {g : M.MG} {m1 : M.MS}
end
end S
namespace S
open PySem PySem.Spec PyProof.Rows L2
variable [Wd] [Hot]
section
variable {K : PySem.W.Frag} {W : WX} {σ : St} {H : Hp} {D : Ends} {ρ : M.PSt} {F : Hp} {T : List Addr} {fr : Fp}
end
section
variable {X : Cx} {W : WX} {pos : Pos} {elt tg iter : Expr} {ifs : List Expr} {scope : Scope} {own : List (Str × Nat)} {sl : List Nat} {it : M.MI} {g : M.MG} {t : M.MT} {e : M.MO}
end
end S
namespace S
open PySem PySem.Spec PyProof.Rows L2
variable [Wd] [Hot]
section
variable {K : PySem.W.Frag} {W : WX} {σ : St} {H : Hp} {D : Ends} {ρ : M.PSt} {F : Hp} {T : List Addr} {fr : Fp}
end
section
variable {X : Cx} {W : WX} {pos px qx epos apos cpos : Pos} {tg a : Expr} {nm x : Str} {i r : Nat} {v : V} {d : M.D}
end
end S
namespace S
open PySem PySem.Spec PyProof.Rows L2
structure Ctx (w : World) (K : PySem.W.Frag) (mg : Str -> Option Value) : Prop where
  says : ∃ (h : Heap), He.SaysX fas fns tbs [] exK w h K
  inn : ∃ h : Heap, K.In h /\ h.Ns mainGlobals mg
section
variable [Wd] {w : World} {K : PySem.W.Frag} {mg : Str -> Option Value}
theorem Ctx.d (C : Ctx w K mg) : He.SaysD fas fns K := by
  obtain ⟨h, s⟩ := C.says
  exact s.t.d
theorem Ctx.more (C : Ctx w K mg) (i : Nat) {f : PySem.W.Frag -> Bool} (e : exs[i]? = some f) : f K = true := by
  obtain ⟨h, s⟩ := C.says
  exact List.all_eq_true.mp s.more f (List.mem_of_getElem? e)
theorem Ctx.glo (C : Ctx w K mg) {x : Str} (i : Nat) (h : fas[i]? = some (.glo x)) : mg x = some (.ref (He.ga K x)) := by
  obtain ⟨hp, X, G⟩ := C.inn
  exact He.glo_ok X G (C.d.fact i h)
theorem Ctx.g_is_integer (C : Ctx w K mg) : mg "is_integer" = some (.ref (He.ga K "is_integer")) := C.glo 0 rfl
theorem Ctx.g_is_string_of (C : Ctx w K mg) : mg "is_string_of" = some (.ref (He.ga K "is_string_of")) := C.glo 1 rfl
theorem Ctx.g_is_ascending (C : Ctx w K mg) : mg "is_ascending" = some (.ref (He.ga K "is_ascending")) := C.glo 2 rfl
theorem Ctx.g_is_choice (C : Ctx w K mg) : mg "is_choice" = some (.ref (He.ga K "is_choice")) := C.glo 3 rfl
theorem Ctx.g_is_word (C : Ctx w K mg) : mg "is_word" = some (.ref (He.ga K "is_word")) := C.glo 4 rfl
theorem Ctx.g_check_word (C : Ctx w K mg) : mg "check_word" = some (.ref (He.ga K "check_word")) := C.glo 5 rfl
theorem Ctx.g_check_letters (C : Ctx w K mg) : mg "check_letters" = some (.ref (He.ga K "check_letters")) := C.glo 6 rfl
theorem Ctx.g_are_states (C : Ctx w K mg) : mg "are_states" = some (.ref (He.ga K "are_states")) := C.glo 7 rfl
theorem Ctx.g_is_table (C : Ctx w K mg) : mg "is_table" = some (.ref (He.ga K "is_table")) := C.glo 8 rfl
theorem Ctx.g_led (C : Ctx w K mg) : mg "led" = some (.ref (He.ga K "led")) := C.glo 9 rfl
theorem Ctx.g_says (C : Ctx w K mg) : mg "says" = some (.ref (He.ga K "says")) := C.glo 10 rfl
theorem Ctx.g_reached (C : Ctx w K mg) : mg "reached" = some (.ref (He.ga K "reached")) := C.glo 11 rfl
theorem Ctx.g_numbered (C : Ctx w K mg) : mg "numbered" = some (.ref (He.ga K "numbered")) := C.glo 12 rfl
theorem Ctx.g_alike_states (C : Ctx w K mg) : mg "alike_states" = some (.ref (He.ga K "alike_states")) := C.glo 13 rfl
theorem Ctx.g_least (C : Ctx w K mg) : mg "least" = some (.ref (He.ga K "least")) := C.glo 14 rfl
theorem Ctx.g_silenced (C : Ctx w K mg) : mg "silenced" = some (.ref (He.ga K "silenced")) := C.glo 15 rfl
theorem Ctx.g_without (C : Ctx w K mg) : mg "without" = some (.ref (He.ga K "without")) := C.glo 16 rfl
theorem Ctx.g__law_hand (C : Ctx w K mg) : mg "_law_hand" = some (.ref (He.ga K "_law_hand")) := C.glo 17 rfl
theorem Ctx.g__law_draw (C : Ctx w K mg) : mg "_law_draw" = some (.ref (He.ga K "_law_draw")) := C.glo 18 rfl
theorem Ctx.g__law_shuffled (C : Ctx w K mg) : mg "_law_shuffled" = some (.ref (He.ga K "_law_shuffled")) := C.glo 19 rfl
theorem Ctx.g__law_rows (C : Ctx w K mg) : mg "_law_rows" = some (.ref (He.ga K "_law_rows")) := C.glo 20 rfl
theorem Ctx.g__law_woven (C : Ctx w K mg) : mg "_law_woven" = some (.ref (He.ga K "_law_woven")) := C.glo 21 rfl
theorem Ctx.g__law_parts (C : Ctx w K mg) : mg "_law_parts" = some (.ref (He.ga K "_law_parts")) := C.glo 22 rfl
theorem Ctx.g__law_classes (C : Ctx w K mg) : mg "_law_classes" = some (.ref (He.ga K "_law_classes")) := C.glo 23 rfl
theorem Ctx.g__law_least (C : Ctx w K mg) : mg "_law_least" = some (.ref (He.ga K "_law_least")) := C.glo 24 rfl
theorem Ctx.g__law_word (C : Ctx w K mg) : mg "_law_word" = some (.ref (He.ga K "_law_word")) := C.glo 25 rfl
theorem Ctx.g__law_is_machine (C : Ctx w K mg) : mg "_law_is_machine" = some (.ref (He.ga K "_law_is_machine")) := C.glo 26 rfl
theorem Ctx.g__law_choices (C : Ctx w K mg) : mg "_law_choices" = some (.ref (He.ga K "_law_choices")) := C.glo 27 rfl
theorem Ctx.g__law_odd (C : Ctx w K mg) : mg "_law_odd" = some (.ref (He.ga K "_law_odd")) := C.glo 28 rfl
theorem Ctx.g__law_is_refused (C : Ctx w K mg) : mg "_law_is_refused" = some (.ref (He.ga K "_law_is_refused")) := C.glo 29 rfl
theorem Ctx.g_law (C : Ctx w K mg) : mg "law" = some (.ref (He.ga K "law")) := C.glo 30 rfl
theorem Ctx.g_SaidError (C : Ctx w K mg) : mg "SaidError" = some (.ref (He.ga K "SaidError")) := C.glo 31 rfl
theorem Ctx.g_NoWord (C : Ctx w K mg) : mg "NoWord" = some (.ref (He.ga K "NoWord")) := C.glo 33 rfl
theorem Ctx.x_NoWord (C : Ctx w K mg) : PySem.W.excIn K (He.ga K "NoWord") He.veBase "ValueError.__new__" = true := (He.exc_ok (C.d.fact 34 rfl)).1
theorem Ctx.k_NoWord (C : Ctx w K mg) : PySem.W.keepIn K (.ref (He.ga K "NoWord")) = true := (He.exc_ok (C.d.fact 34 rfl)).2.1
theorem Ctx.r_NoWord (C : Ctx w K mg) {X : Cx} (e : X.K = K := by rfl) : Raises X (.ref (He.ga K "NoWord")) := by subst e; exact raises_own (He.exc_ok (C.d.fact 34 rfl)).2.2.1 (He.exc_ok (C.d.fact 34 rfl)).2.2.2
theorem Ctx.g_NoLetters (C : Ctx w K mg) : mg "NoLetters" = some (.ref (He.ga K "NoLetters")) := C.glo 35 rfl
theorem Ctx.x_NoLetters (C : Ctx w K mg) : PySem.W.excIn K (He.ga K "NoLetters") He.veBase "ValueError.__new__" = true := (He.exc_ok (C.d.fact 36 rfl)).1
theorem Ctx.k_NoLetters (C : Ctx w K mg) : PySem.W.keepIn K (.ref (He.ga K "NoLetters")) = true := (He.exc_ok (C.d.fact 36 rfl)).2.1
theorem Ctx.r_NoLetters (C : Ctx w K mg) {X : Cx} (e : X.K = K := by rfl) : Raises X (.ref (He.ga K "NoLetters")) := by subst e; exact raises_own (He.exc_ok (C.d.fact 36 rfl)).2.2.1 (He.exc_ok (C.d.fact 36 rfl)).2.2.2
theorem Ctx.g_Machine (C : Ctx w K mg) : mg "Machine" = some (.ref (He.ga K "Machine")) := C.glo 38 rfl
theorem Ctx.g_RawMachine (C : Ctx w K mg) : mg "RawMachine" = some (.ref (He.ga K "RawMachine")) := C.glo 39 rfl
theorem Ctx.subs (C : Ctx w K mg) : z9' K M.exT := fun e he => of_decide_eq_true (List.all_eq_true.mp (C.more 0 rfl) e he)
theorem Ctx.c_SMALL (C : Ctx w K mg) : ∃ t, mg "SMALL" = some (.str "abcdefghijklmnopqrstuvwxyz" t) := by obtain ⟨h, X, G⟩ := C.inn; exact He.str_ok X G (C.d.fact 40 rfl)
theorem Ctx.free_zip (C : Ctx w K mg) : mg "zip" = none := by obtain ⟨h, X, G⟩ := C.inn; exact He.free_ok X G (C.d.fact 41 rfl)
theorem Ctx.free_tuple (C : Ctx w K mg) : mg "tuple" = none := by obtain ⟨h, X, G⟩ := C.inn; exact He.free_ok X G (C.d.fact 42 rfl)
theorem Ctx.free_list (C : Ctx w K mg) : mg "list" = none := by obtain ⟨h, X, G⟩ := C.inn; exact He.free_ok X G (C.d.fact 43 rfl)
theorem Ctx.free_range (C : Ctx w K mg) : mg "range" = none := by obtain ⟨h, X, G⟩ := C.inn; exact He.free_ok X G (C.d.fact 44 rfl)
theorem Ctx.free_isinstance (C : Ctx w K mg) : mg "isinstance" = none := by obtain ⟨h, X, G⟩ := C.inn; exact He.free_ok X G (C.d.fact 45 rfl)
theorem Ctx.free_int (C : Ctx w K mg) : mg "int" = none := by obtain ⟨h, X, G⟩ := C.inn; exact He.free_ok X G (C.d.fact 46 rfl)
theorem Ctx.free_str (C : Ctx w K mg) : mg "str" = none := by obtain ⟨h, X, G⟩ := C.inn; exact He.free_ok X G (C.d.fact 47 rfl)
theorem Ctx.free_len (C : Ctx w K mg) : mg "len" = none := by obtain ⟨h, X, G⟩ := C.inn; exact He.free_ok X G (C.d.fact 48 rfl)
theorem Ctx.free_max (C : Ctx w K mg) : mg "max" = none := by obtain ⟨h, X, G⟩ := C.inn; exact He.free_ok X G (C.d.fact 49 rfl)
theorem Ctx.free_sorted (C : Ctx w K mg) : mg "sorted" = none := by obtain ⟨h, X, G⟩ := C.inn; exact He.free_ok X G (C.d.fact 50 rfl)
theorem Ctx.free_abs (C : Ctx w K mg) : mg "abs" = none := by obtain ⟨h, X, G⟩ := C.inn; exact He.free_ok X G (C.d.fact 51 rfl)
theorem Ctx.free_repr (C : Ctx w K mg) : mg "repr" = none := by obtain ⟨h, X, G⟩ := C.inn; exact He.free_ok X G (C.d.fact 52 rfl)
theorem Ctx.free_bool (C : Ctx w K mg) : mg "bool" = none := by obtain ⟨h, X, G⟩ := C.inn; exact He.free_ok X G (C.d.fact 53 rfl)
theorem Ctx.free_min (C : Ctx w K mg) : mg "min" = none := by obtain ⟨h, X, G⟩ := C.inn; exact He.free_ok X G (C.d.fact 54 rfl)
theorem Ctx.cl_Machine (C : Ctx w K mg) : Cls K (He.ga K "Machine") := He.cls_ok (C.d.fact 55 rfl)
theorem Ctx.n_Machine_kept_letters (C : Ctx w K mg) : NoAttr K (He.ga K "Machine") "kept_letters" := He.noat_ok (C.d.fact 56 rfl)
theorem Ctx.n_Machine_kept_table (C : Ctx w K mg) : NoAttr K (He.ga K "Machine") "kept_table" := He.noat_ok (C.d.fact 57 rfl)
theorem Ctx.n_Machine_kept_accepts (C : Ctx w K mg) : NoAttr K (He.ga K "Machine") "kept_accepts" := He.noat_ok (C.d.fact 58 rfl)
theorem Ctx.n_Machine_kept_least (C : Ctx w K mg) : NoAttr K (He.ga K "Machine") "kept_least" := He.noat_ok (C.d.fact 59 rfl)
theorem Ctx.n_Machine_kept_field (C : Ctx w K mg) : NoAttr K (He.ga K "Machine") "kept_field" := He.noat_ok (C.d.fact 60 rfl)
theorem Ctx.n_Machine_kept_lots (C : Ctx w K mg) : NoAttr K (He.ga K "Machine") "kept_lots" := He.noat_ok (C.d.fact 61 rfl)
theorem Ctx.n_Machine_kept_more (C : Ctx w K mg) : NoAttr K (He.ga K "Machine") "kept_more" := He.noat_ok (C.d.fact 62 rfl)
theorem Ctx.mk_Machine (C : Ctx w K mg) : Mk K (He.ga K "Machine") (He.ma K (He.ga K "Machine") "__init__") := He.mkr_ok (C.d.fact 63 rfl)
theorem Ctx.cl_RawMachine (C : Ctx w K mg) : Cls K (He.ga K "RawMachine") := He.cls_ok (C.d.fact 64 rfl)
theorem Ctx.n_RawMachine_kept_letters (C : Ctx w K mg) : NoAttr K (He.ga K "RawMachine") "kept_letters" := He.noat_ok (C.d.fact 65 rfl)
theorem Ctx.n_RawMachine_kept_table (C : Ctx w K mg) : NoAttr K (He.ga K "RawMachine") "kept_table" := He.noat_ok (C.d.fact 66 rfl)
theorem Ctx.n_RawMachine_kept_accepts (C : Ctx w K mg) : NoAttr K (He.ga K "RawMachine") "kept_accepts" := He.noat_ok (C.d.fact 67 rfl)
theorem Ctx.n_RawMachine_kept_least (C : Ctx w K mg) : NoAttr K (He.ga K "RawMachine") "kept_least" := He.noat_ok (C.d.fact 68 rfl)
theorem Ctx.n_RawMachine_kept_field (C : Ctx w K mg) : NoAttr K (He.ga K "RawMachine") "kept_field" := He.noat_ok (C.d.fact 69 rfl)
theorem Ctx.n_RawMachine_kept_lots (C : Ctx w K mg) : NoAttr K (He.ga K "RawMachine") "kept_lots" := He.noat_ok (C.d.fact 70 rfl)
theorem Ctx.n_RawMachine_kept_more (C : Ctx w K mg) : NoAttr K (He.ga K "RawMachine") "kept_more" := He.noat_ok (C.d.fact 71 rfl)
theorem Ctx.mk_RawMachine (C : Ctx w K mg) : Mk K (He.ga K "RawMachine") (He.ma K (He.ga K "RawMachine") "__init__") := He.mkr_ok (C.d.fact 72 rfl)
theorem Ctx.ml_Machine_keep (C : Ctx w K mg) : jv' K ["Machine", "RawMachine"] "keep" (He.ma K (He.ga K "Machine") "keep") := by
  intro c h
  rcases List.mem_cons.mp h with rfl | h
  . exact ⟨C.cl_Machine, He.meth_ok (C.d.fact 73 rfl)⟩
  rcases List.mem_cons.mp h with rfl | h
  . have e := of_decide_eq_true (C.more 1 rfl)
    refine ⟨C.cl_RawMachine, ?_⟩
    rw [<- e]
    exact He.meth_ok (C.d.fact 74 rfl)
  cases h
theorem Ctx.ml_Machine_letters (C : Ctx w K mg) : jv' K ["Machine", "RawMachine"] "letters" (He.ma K (He.ga K "Machine") "letters") := by
  intro c h
  rcases List.mem_cons.mp h with rfl | h
  . exact ⟨C.cl_Machine, He.meth_ok (C.d.fact 75 rfl)⟩
  rcases List.mem_cons.mp h with rfl | h
  . have e := of_decide_eq_true (C.more 2 rfl)
    refine ⟨C.cl_RawMachine, ?_⟩
    rw [<- e]
    exact He.meth_ok (C.d.fact 76 rfl)
  cases h
theorem Ctx.ml_Machine_table (C : Ctx w K mg) : jv' K ["Machine", "RawMachine"] "table" (He.ma K (He.ga K "Machine") "table") := by
  intro c h
  rcases List.mem_cons.mp h with rfl | h
  . exact ⟨C.cl_Machine, He.meth_ok (C.d.fact 77 rfl)⟩
  rcases List.mem_cons.mp h with rfl | h
  . have e := of_decide_eq_true (C.more 3 rfl)
    refine ⟨C.cl_RawMachine, ?_⟩
    rw [<- e]
    exact He.meth_ok (C.d.fact 78 rfl)
  cases h
theorem Ctx.ml_Machine_accepts (C : Ctx w K mg) : jv' K ["Machine", "RawMachine"] "accepts" (He.ma K (He.ga K "Machine") "accepts") := by
  intro c h
  rcases List.mem_cons.mp h with rfl | h
  . exact ⟨C.cl_Machine, He.meth_ok (C.d.fact 79 rfl)⟩
  rcases List.mem_cons.mp h with rfl | h
  . have e := of_decide_eq_true (C.more 4 rfl)
    refine ⟨C.cl_RawMachine, ?_⟩
    rw [<- e]
    exact He.meth_ok (C.d.fact 80 rfl)
  cases h
theorem Ctx.ml_Machine_parts (C : Ctx w K mg) : jv' K ["Machine", "RawMachine"] "parts" (He.ma K (He.ga K "Machine") "parts") := by
  intro c h
  rcases List.mem_cons.mp h with rfl | h
  . exact ⟨C.cl_Machine, He.meth_ok (C.d.fact 81 rfl)⟩
  rcases List.mem_cons.mp h with rfl | h
  . have e := of_decide_eq_true (C.more 5 rfl)
    refine ⟨C.cl_RawMachine, ?_⟩
    rw [<- e]
    exact He.meth_ok (C.d.fact 82 rfl)
  cases h
theorem Ctx.ne_Machine (C : Ctx w K mg) : NeP K [("Machine", "Machine"), ("RawMachine", "Machine"), ("RawMachine", "RawMachine")] (He.ma K (He.ga K "Machine") "__eq__") := wc' (C.more 7 rfl)
theorem Ctx.kit (C : Ctx w K mg) : t0' K M.exI := rG' (C.more 8 rfl)
theorem Ctx.is_Machine (C : Ctx w K mg) : CD' K M.isT "Machine" := tq' (C.more 9 rfl)
theorem Ctx.at_kept_letters (C : Ctx w K mg) : ∀ c ∈ ["Machine", "RawMachine"], Cls K (He.ga K (Str.ofString c)) /\ NoAttr K (He.ga K (Str.ofString c)) (Str.ofString "kept_letters") := by
  intro c h
  rcases List.mem_cons.mp h with rfl | h
  . exact ⟨C.cl_Machine, C.n_Machine_kept_letters⟩
  rcases List.mem_cons.mp h with rfl | h
  . exact ⟨C.cl_RawMachine, C.n_RawMachine_kept_letters⟩
  cases h
theorem Ctx.at_kept_table (C : Ctx w K mg) : ∀ c ∈ ["Machine", "RawMachine"], Cls K (He.ga K (Str.ofString c)) /\ NoAttr K (He.ga K (Str.ofString c)) (Str.ofString "kept_table") := by
  intro c h
  rcases List.mem_cons.mp h with rfl | h
  . exact ⟨C.cl_Machine, C.n_Machine_kept_table⟩
  rcases List.mem_cons.mp h with rfl | h
  . exact ⟨C.cl_RawMachine, C.n_RawMachine_kept_table⟩
  cases h
theorem Ctx.at_kept_accepts (C : Ctx w K mg) : ∀ c ∈ ["Machine", "RawMachine"], Cls K (He.ga K (Str.ofString c)) /\ NoAttr K (He.ga K (Str.ofString c)) (Str.ofString "kept_accepts") := by
  intro c h
  rcases List.mem_cons.mp h with rfl | h
  . exact ⟨C.cl_Machine, C.n_Machine_kept_accepts⟩
  rcases List.mem_cons.mp h with rfl | h
  . exact ⟨C.cl_RawMachine, C.n_RawMachine_kept_accepts⟩
  cases h
theorem Ctx.at_kept_least (C : Ctx w K mg) : ∀ c ∈ ["Machine", "RawMachine"], Cls K (He.ga K (Str.ofString c)) /\ NoAttr K (He.ga K (Str.ofString c)) (Str.ofString "kept_least") := by
  intro c h
  rcases List.mem_cons.mp h with rfl | h
  . exact ⟨C.cl_Machine, C.n_Machine_kept_least⟩
  rcases List.mem_cons.mp h with rfl | h
  . exact ⟨C.cl_RawMachine, C.n_RawMachine_kept_least⟩
  cases h
theorem Ctx.at_kept_field (C : Ctx w K mg) : ∀ c ∈ ["Machine", "RawMachine"], Cls K (He.ga K (Str.ofString c)) /\ NoAttr K (He.ga K (Str.ofString c)) (Str.ofString "kept_field") := by
  intro c h
  rcases List.mem_cons.mp h with rfl | h
  . exact ⟨C.cl_Machine, C.n_Machine_kept_field⟩
  rcases List.mem_cons.mp h with rfl | h
  . exact ⟨C.cl_RawMachine, C.n_RawMachine_kept_field⟩
  cases h
theorem Ctx.at_kept_lots (C : Ctx w K mg) : ∀ c ∈ ["Machine", "RawMachine"], Cls K (He.ga K (Str.ofString c)) /\ NoAttr K (He.ga K (Str.ofString c)) (Str.ofString "kept_lots") := by
  intro c h
  rcases List.mem_cons.mp h with rfl | h
  . exact ⟨C.cl_Machine, C.n_Machine_kept_lots⟩
  rcases List.mem_cons.mp h with rfl | h
  . exact ⟨C.cl_RawMachine, C.n_RawMachine_kept_lots⟩
  cases h
theorem Ctx.at_kept_more (C : Ctx w K mg) : ∀ c ∈ ["Machine", "RawMachine"], Cls K (He.ga K (Str.ofString c)) /\ NoAttr K (He.ga K (Str.ofString c)) (Str.ofString "kept_more") := by
  intro c h
  rcases List.mem_cons.mp h with rfl | h
  . exact ⟨C.cl_Machine, C.n_Machine_kept_more⟩
  rcases List.mem_cons.mp h with rfl | h
  . exact ⟨C.cl_RawMachine, C.n_RawMachine_kept_more⟩
  cases h
theorem Ctx.f_is_integer (C : Ctx w K mg) : ∃ fd, FunD K "is_integer" "is_integer" (defArgs bc') (defBody bc') (defScope bc') [] [] (He.ga K "is_integer") fd := C.d.def_ 0 (d := e5') rfl
theorem k7' {f : Addr} {fd : FuncData} (F : FunD K "is_integer" "is_integer" (defArgs bc') (defBody bc') (defScope bc') [] [] f fd) : Binds K fd ["thing"] [] := F.bindsN fun _ _ _ _ _ _ us hl => match us, hl with | [_], _ => rfl
theorem Ctx.f_is_string_of (C : Ctx w K mg) : ∃ fd, FunD K "is_string_of" "is_string_of" (defArgs aQ') (defBody aQ') (defScope aQ') [] [] (He.ga K "is_string_of") fd := C.d.def_ 1 (d := dI') rfl
theorem hQ' {f : Addr} {fd : FuncData} (F : FunD K "is_string_of" "is_string_of" (defArgs aQ') (defBody aQ') (defScope aQ') [] [] f fd) : Binds K fd ["thing", "signs"] [] := F.bindsN fun _ _ _ _ _ _ us hl => match us, hl with | [_, _], _ => rfl
theorem Ctx.f_is_ascending (C : Ctx w K mg) : ∃ fd, FunD K "is_ascending" "is_ascending" (defArgs aR') (defBody aR') (defScope aR') [] [] (He.ga K "is_ascending") fd := C.d.def_ 2 (d := dJ') rfl
theorem hR' {f : Addr} {fd : FuncData} (F : FunD K "is_ascending" "is_ascending" (defArgs aR') (defBody aR') (defScope aR') [] [] f fd) : Binds K fd ["thing"] [] := F.bindsN fun _ _ _ _ _ _ us hl => match us, hl with | [_], _ => rfl
theorem Ctx.f_is_choice (C : Ctx w K mg) : ∃ fd, FunD K "is_choice" "is_choice" (defArgs bn') (defBody bn') (defScope bn') [] [] (He.ga K "is_choice") fd := C.d.def_ 3 (d := gb') rfl
theorem l9' {f : Addr} {fd : FuncData} (F : FunD K "is_choice" "is_choice" (defArgs bn') (defBody bn') (defScope bn') [] [] f fd) : Binds K fd ["thing", "signs"] [] := F.bindsN fun _ _ _ _ _ _ us hl => match us, hl with | [_, _], _ => rfl
theorem Ctx.f_is_word (C : Ctx w K mg) : ∃ fd, FunD K "is_word" "is_word" (defArgs bQ') (defBody bQ') (defScope bQ') [] [] (He.ga K "is_word") fd := C.d.def_ 4 (d := iv') rfl
theorem r9' {f : Addr} {fd : FuncData} (F : FunD K "is_word" "is_word" (defArgs bQ') (defBody bQ') (defScope bQ') [] [] f fd) : Binds K fd ["machine", "thing"] [] := F.bindsN fun _ _ _ _ _ _ us hl => match us, hl with | [_, _], _ => rfl
theorem Ctx.f_check_word (C : Ctx w K mg) : ∃ fd, FunD K "check_word" "check_word" (defArgs bd') (defBody bd') (defScope bd') [] [] (He.ga K "check_word") fd := C.d.def_ 5 (d := e6') rfl
theorem k8' {f : Addr} {fd : FuncData} (F : FunD K "check_word" "check_word" (defArgs bd') (defBody bd') (defScope bd') [] [] f fd) : Binds K fd ["machine", "thing"] [] := F.bindsN fun _ _ _ _ _ _ us hl => match us, hl with | [_, _], _ => rfl
theorem Ctx.f_check_letters (C : Ctx w K mg) : ∃ fd, FunD K "check_letters" "check_letters" (defArgs aG') (defBody aG') (defScope aG') [] [] (He.ga K "check_letters") fd := C.d.def_ 6 (d := di') rfl
theorem hA' {f : Addr} {fd : FuncData} (F : FunD K "check_letters" "check_letters" (defArgs aG') (defBody aG') (defScope aG') [] [] f fd) : Binds K fd ["machine", "thing"] [] := F.bindsN fun _ _ _ _ _ _ us hl => match us, hl with | [_, _], _ => rfl
theorem Ctx.f_are_states (C : Ctx w K mg) : ∃ fd, FunD K "are_states" "are_states" (defArgs be') (defBody be') (defScope be') [] [] (He.ga K "are_states") fd := C.d.def_ 7 (d := e7') rfl
theorem k9' {f : Addr} {fd : FuncData} (F : FunD K "are_states" "are_states" (defArgs be') (defBody be') (defScope be') [] [] f fd) : Binds K fd ["thing", "many"] [] := F.bindsN fun _ _ _ _ _ _ us hl => match us, hl with | [_, _], _ => rfl
theorem Ctx.f_is_table (C : Ctx w K mg) : ∃ fd, FunD K "is_table" "is_table" (defArgs bF') (defBody bF') (defScope bF') [] [] (He.ga K "is_table") fd := C.d.def_ 8 (d := hq') rfl
theorem oX' {f : Addr} {fd : FuncData} (F : FunD K "is_table" "is_table" (defArgs bF') (defBody bF') (defScope bF') [] [] f fd) : Binds K fd ["thing", "letters"] [] := F.bindsN fun _ _ _ _ _ _ us hl => match us, hl with | [_, _], _ => rfl
theorem Ctx.f_Machine___init__ (C : Ctx w K mg) : ∃ fd, FunD K "__init__" "Machine.__init__" (defArgs aq') (defBody aq') (defScope aq') [] [] (He.ma K (He.ga K "Machine") "__init__") fd := C.d.def_ 9 (d := cE') rfl
theorem fc' {f : Addr} {fd : FuncData} (F : FunD K "__init__" "Machine.__init__" (defArgs aq') (defBody aq') (defScope aq') [] [] f fd) : Binds K fd ["self", "letters", "table", "accepts"] [] := F.bindsN fun _ _ _ _ _ _ us hl => match us, hl with | [_, _, _, _], _ => rfl
theorem Ctx.f_Machine_keep (C : Ctx w K mg) : ∃ fd, FunD K "keep" "Machine.keep" (defArgs aS') (defBody aS') (defScope aS') [] [] (He.ma K (He.ga K "Machine") "keep") fd := C.d.def_ 10 (d := dN') rfl
theorem hW' {f : Addr} {fd : FuncData} (F : FunD K "keep" "Machine.keep" (defArgs aS') (defBody aS') (defScope aS') [] [] f fd) : Binds K fd ["self", "letters", "table", "accepts"] [] := F.bindsN fun _ _ _ _ _ _ us hl => match us, hl with | [_, _, _, _], _ => rfl
theorem Ctx.f_Machine_letters (C : Ctx w K mg) : ∃ fd, FunD K "letters" "Machine.letters" (defArgs au') (defBody au') (defScope au') [] [] (He.ma K (He.ga K "Machine") "letters") fd := C.d.def_ 11 (d := cO') rfl
theorem fP' {f : Addr} {fd : FuncData} (F : FunD K "letters" "Machine.letters" (defArgs au') (defBody au') (defScope au') [] [] f fd) : Binds K fd ["self"] [] := F.bindsN fun _ _ _ _ _ _ us hl => match us, hl with | [_], _ => rfl
theorem Ctx.f_Machine_table (C : Ctx w K mg) : ∃ fd, FunD K "table" "Machine.table" (defArgs aK') (defBody aK') (defScope aK') [] [] (He.ma K (He.ga K "Machine") "table") fd := C.d.def_ 12 (d := dk') rfl
theorem hC' {f : Addr} {fd : FuncData} (F : FunD K "table" "Machine.table" (defArgs aK') (defBody aK') (defScope aK') [] [] f fd) : Binds K fd ["self"] [] := F.bindsN fun _ _ _ _ _ _ us hl => match us, hl with | [_], _ => rfl
theorem Ctx.f_Machine_accepts (C : Ctx w K mg) : ∃ fd, FunD K "accepts" "Machine.accepts" (defArgs av') (defBody av') (defScope av') [] [] (He.ma K (He.ga K "Machine") "accepts") fd := C.d.def_ 13 (d := cP') rfl
theorem fQ' {f : Addr} {fd : FuncData} (F : FunD K "accepts" "Machine.accepts" (defArgs av') (defBody av') (defScope av') [] [] f fd) : Binds K fd ["self"] [] := F.bindsN fun _ _ _ _ _ _ us hl => match us, hl with | [_], _ => rfl
theorem Ctx.f_Machine_parts (C : Ctx w K mg) : ∃ fd, FunD K "parts" "Machine.parts" (defArgs aL') (defBody aL') (defScope aL') [] [] (He.ma K (He.ga K "Machine") "parts") fd := C.d.def_ 14 (d := dl') rfl
theorem hD' {f : Addr} {fd : FuncData} (F : FunD K "parts" "Machine.parts" (defArgs aL') (defBody aL') (defScope aL') [] [] f fd) : Binds K fd ["self"] [] := F.bindsN fun _ _ _ _ _ _ us hl => match us, hl with | [_], _ => rfl
theorem Ctx.f_Machine___eq__ (C : Ctx w K mg) : ∃ fd, FunD K "__eq__" "Machine.__eq__" (defArgs aC') (defBody aC') (defScope aC') [] [] (He.ma K (He.ga K "Machine") "__eq__") fd := C.d.def_ 15 (d := c1') rfl
theorem gr' {f : Addr} {fd : FuncData} (F : FunD K "__eq__" "Machine.__eq__" (defArgs aC') (defBody aC') (defScope aC') [] [] f fd) : Binds K fd ["self", "other"] [] := F.bindsN fun _ _ _ _ _ _ us hl => match us, hl with | [_, _], _ => rfl
theorem Ctx.f_RawMachine___init__ (C : Ctx w K mg) : ∃ fd, FunD K "__init__" "RawMachine.__init__" (defArgs ak') (defBody ak') (defScope ak') [] [] (He.ma K (He.ga K "RawMachine") "__init__") fd := C.d.def_ 16 (d := cb') rfl
theorem dO' {f : Addr} {fd : FuncData} (F : FunD K "__init__" "RawMachine.__init__" (defArgs ak') (defBody ak') (defScope ak') [] [] f fd) : Binds K fd ["self", "letters", "table", "accepts"] [] := F.bindsN fun _ _ _ _ _ _ us hl => match us, hl with | [_, _, _, _], _ => rfl
theorem Ctx.f_led (C : Ctx w K mg) : ∃ fd, FunD K "led" "led" (defArgs hN') (defBody hN') (defScope hN') [] [] (He.ga K "led") fd := C.d.def_ 17 (d := uU') rfl
theorem Cz' {f : Addr} {fd : FuncData} (F : FunD K "led" "led" (defArgs hN') (defBody hN') (defScope hN') [] [] f fd) : Binds K fd ["machine", "state", "word"] [] := F.bindsN fun _ _ _ _ _ _ us hl => match us, hl with | [_, _, _], _ => rfl
theorem Ctx.f_says (C : Ctx w K mg) : ∃ fd, FunD K "says" "says" (defArgs d8') (defBody d8') (defScope d8') [] [] (He.ga K "says") fd := C.d.def_ 18 (d := rU') rfl
theorem z5' {f : Addr} {fd : FuncData} (F : FunD K "says" "says" (defArgs d8') (defBody d8') (defScope d8') [] [] f fd) : Binds K fd ["machine", "word"] [] := F.bindsN fun _ _ _ _ _ _ us hl => match us, hl with | [_, _], _ => rfl
theorem Ctx.f_reached (C : Ctx w K mg) : ∃ fd, FunD K "reached" "reached" (defArgs bP') (defBody bP') (defScope bP') [] [] (He.ga K "reached") fd := C.d.def_ 19 (d := iu') rfl
theorem r8' {f : Addr} {fd : FuncData} (F : FunD K "reached" "reached" (defArgs bP') (defBody bP') (defScope bP') [] [] f fd) : Binds K fd ["machine"] [] := F.bindsN fun _ _ _ _ _ _ us hl => match us, hl with | [_], _ => rfl
theorem Ctx.f_numbered (C : Ctx w K mg) : ∃ fd, FunD K "numbered" "numbered" (defArgs bE') (defBody bE') (defScope bE') [] [] (He.ga K "numbered") fd := C.d.def_ 20 (d := hk') rfl
theorem oW' {f : Addr} {fd : FuncData} (F : FunD K "numbered" "numbered" (defArgs bE') (defBody bE') (defScope bE') [] [] f fd) : Binds K fd ["keys"] [] := F.bindsN fun _ _ _ _ _ _ us hl => match us, hl with | [_], _ => rfl
theorem Ctx.f_alike_states (C : Ctx w K mg) : ∃ fd, FunD K "alike_states" "alike_states" (defArgs aB') (defBody aB') (defScope aB') [] [] (He.ga K "alike_states") fd := C.d.def_ 21 (d := dK') rfl
theorem hS' {f : Addr} {fd : FuncData} (F : FunD K "alike_states" "alike_states" (defArgs aB') (defBody aB') (defScope aB') [] [] f fd) : Binds K fd ["machine", "states"] [] := F.bindsN fun _ _ _ _ _ _ us hl => match us, hl with | [_, _], _ => rfl
theorem Ctx.f_least (C : Ctx w K mg) : ∃ fd, FunD K "least" "least" (defArgs ck') (defBody ck') (defScope ck') [] [] (He.ga K "least") fd := C.d.def_ 22 (d := n4') rfl
theorem xh' {f : Addr} {fd : FuncData} (F : FunD K "least" "least" (defArgs ck') (defBody ck') (defScope ck') [] [] f fd) : Binds K fd ["machine"] [] := F.bindsN fun _ _ _ _ _ _ us hl => match us, hl with | [_], _ => rfl
theorem Ctx.f_silenced (C : Ctx w K mg) : ∃ fd, FunD K "silenced" "silenced" (defArgs bg') (defBody bg') (defScope bg') [] [] (He.ga K "silenced") fd := C.d.def_ 23 (d := hf') rfl
theorem oV' {f : Addr} {fd : FuncData} (F : FunD K "silenced" "silenced" (defArgs bg') (defBody bg') (defScope bg') [] [] f fd) : Binds K fd ["machine", "letters"] [] := F.bindsN fun _ _ _ _ _ _ us hl => match us, hl with | [_, _], _ => rfl
theorem Ctx.f_without (C : Ctx w K mg) : ∃ fd, FunD K "without" "without" (defArgs bO') (defBody bO') (defScope bO') [] [] (He.ga K "without") fd := C.d.def_ 24 (d := it') rfl
theorem r7' {f : Addr} {fd : FuncData} (F : FunD K "without" "without" (defArgs bO') (defBody bO') (defScope bO') [] [] f fd) : Binds K fd ["machine", "letters"] [] := F.bindsN fun _ _ _ _ _ _ us hl => match us, hl with | [_, _], _ => rfl
theorem Ctx.f__law_hand (C : Ctx w K mg) : ∃ fd, FunD K "_law_hand" "_law_hand" (defArgs bj') (defBody bj') (defScope bj') [] [] (He.ga K "_law_hand") fd := C.d.def_ 25 (d := ge') rfl
theorem mc' {f : Addr} {fd : FuncData} (F : FunD K "_law_hand" "_law_hand" (defArgs bj') (defBody bj') (defScope bj') [] [] f fd) : Binds K fd ["_law_script"] [] := F.bindsN fun _ _ _ _ _ _ us hl => match us, hl with | [_], _ => rfl
theorem Ctx.f__law_draw (C : Ctx w K mg) : ∃ fd, FunD K "_law_draw" "_law_draw" (defArgs bp') (defBody bp') (defScope bp') [] [] (He.ga K "_law_draw") fd := C.d.def_ 26 (d := gf') rfl
theorem md' {f : Addr} {fd : FuncData} (F : FunD K "_law_draw" "_law_draw" (defArgs bp') (defBody bp') (defScope bp') [] [] f fd) : Binds K fd ["_law_hand_here", "_law_many"] [] := F.bindsN fun _ _ _ _ _ _ us hl => match us, hl with | [_, _], _ => rfl
theorem Ctx.f__law_shuffled (C : Ctx w K mg) : ∃ fd, FunD K "_law_shuffled" "_law_shuffled" (defArgs aH') (defBody aH') (defScope aH') [] [] (He.ga K "_law_shuffled") fd := C.d.def_ 27 (d := dj') rfl
theorem hB' {f : Addr} {fd : FuncData} (F : FunD K "_law_shuffled" "_law_shuffled" (defArgs aH') (defBody aH') (defScope aH') [] [] f fd) : Binds K fd ["_law_hand_here", "_law_things"] [] := F.bindsN fun _ _ _ _ _ _ us hl => match us, hl with | [_, _], _ => rfl
theorem Ctx.f__law_rows (C : Ctx w K mg) : ∃ fd, FunD K "_law_rows" "_law_rows" (defArgs a5') (defBody a5') (defScope a5') [] [] (He.ga K "_law_rows") fd := C.d.def_ 28 (d := gd') rfl
theorem mb' {f : Addr} {fd : FuncData} (F : FunD K "_law_rows" "_law_rows" (defArgs a5') (defBody a5') (defScope a5') [] [] f fd) : Binds K fd ["_law_hand_here", "_law_kind", "_law_size", "_law_many"] [] := F.bindsN fun _ _ _ _ _ _ us hl => match us, hl with | [_, _, _, _], _ => rfl
theorem Ctx.f__law_woven (C : Ctx w K mg) : ∃ fd, FunD K "_law_woven" "_law_woven" (defArgs a0') (defBody a0') (defScope a0') [] [] (He.ga K "_law_woven") fd := C.d.def_ 29 (d := e8') rfl
theorem la' {f : Addr} {fd : FuncData} (F : FunD K "_law_woven" "_law_woven" (defArgs a0') (defBody a0') (defScope a0') [] [] f fd) : Binds K fd ["_law_hand_here", "_law_many"] [] := F.bindsN fun _ _ _ _ _ _ us hl => match us, hl with | [_, _], _ => rfl
theorem Ctx.f__law_parts (C : Ctx w K mg) : ∃ fd, FunD K "_law_parts" "_law_parts" (defArgs a3') (defBody a3') (defScope a3') [] [] (He.ga K "_law_parts") fd := C.d.def_ 30 (d := e9') rfl
theorem lb' {f : Addr} {fd : FuncData} (F : FunD K "_law_parts" "_law_parts" (defArgs a3') (defBody a3') (defScope a3') [] [] f fd) : Binds K fd ["_law_hand_here", "_law_most", "_law_states"] [] := F.bindsN fun _ _ _ _ _ _ us hl => match us, hl with | [_, _, _], _ => rfl
theorem Ctx.f__law_classes (C : Ctx w K mg) : ∃ fd, FunD K "_law_classes" "_law_classes" (defArgs aI') (defBody aI') (defScope aI') [] [] (He.ga K "_law_classes") fd := C.d.def_ 31 (d := dL') rfl
theorem hU' {f : Addr} {fd : FuncData} (F : FunD K "_law_classes" "_law_classes" (defArgs aI') (defBody aI') (defScope aI') [] [] f fd) : Binds K fd ["_law_table", "_law_accepts", "_law_states"] [] := F.bindsN fun _ _ _ _ _ _ us hl => match us, hl with | [_, _, _], _ => rfl
theorem Ctx.f__law_least (C : Ctx w K mg) : ∃ fd, FunD K "_law_least" "_law_least" (defArgs aV') (defBody aV') (defScope aV') [] [] (He.ga K "_law_least") fd := C.d.def_ 32 (d := fa') rfl
theorem lc' {f : Addr} {fd : FuncData} (F : FunD K "_law_least" "_law_least" (defArgs aV') (defBody aV') (defScope aV') [] [] f fd) : Binds K fd ["_law_table", "_law_accepts"] [] := F.bindsN fun _ _ _ _ _ _ us hl => match us, hl with | [_, _], _ => rfl
theorem Ctx.f__law_word (C : Ctx w K mg) : ∃ fd, FunD K "_law_word" "_law_word" (defArgs bo') (defBody bo') (defScope bo') [] [] (He.ga K "_law_word") fd := C.d.def_ 33 (d := gc') rfl
theorem ma' {f : Addr} {fd : FuncData} (F : FunD K "_law_word" "_law_word" (defArgs bo') (defBody bo') (defScope bo') [] [] f fd) : Binds K fd ["_law_hand_here", "_law_letters", "_law_many"] [] := F.bindsN fun _ _ _ _ _ _ us hl => match us, hl with | [_, _, _], _ => rfl
theorem Ctx.f__law_is_machine (C : Ctx w K mg) : ∃ fd, FunD K "_law_is_machine" "_law_is_machine" (defArgs at') (defBody at') (defScope at') [] [] (He.ga K "_law_is_machine") fd := C.d.def_ 34 (d := cN') rfl
theorem fO' {f : Addr} {fd : FuncData} (F : FunD K "_law_is_machine" "_law_is_machine" (defArgs at') (defBody at') (defScope at') [] [] f fd) : Binds K fd ["_law_found", "_law_letters", "_law_rows_here", "_law_yes"] [] := F.bindsN fun _ _ _ _ _ _ us hl => match us, hl with | [_, _, _, _], _ => rfl
theorem Ctx.f__law_choices (C : Ctx w K mg) : ∃ fd, FunD K "_law_choices" "_law_choices" (defArgs aJ') (defBody aJ') (defScope aJ') [] [] (He.ga K "_law_choices") fd := C.d.def_ 35 (d := dM') rfl
theorem hV' {f : Addr} {fd : FuncData} (F : FunD K "_law_choices" "_law_choices" (defArgs aJ') (defBody aJ') (defScope aJ') [] [] f fd) : Binds K fd ["_law_letters"] [] := F.bindsN fun _ _ _ _ _ _ us hl => match us, hl with | [_], _ => rfl
theorem Ctx.f__law_odd (C : Ctx w K mg) : ∃ fd, FunD K "_law_odd" "_law_odd" (defArgs bt') (defBody bt') (defScope bt') [] [] (He.ga K "_law_odd") fd := C.d.def_ 36 (d := ht') rfl
theorem oY' {f : Addr} {fd : FuncData} (F : FunD K "_law_odd" "_law_odd" (defArgs bt') (defBody bt') (defScope bt') [] [] f fd) : Binds K fd ["_law_hand_here", "_law_letters"] [] := F.bindsN fun _ _ _ _ _ _ us hl => match us, hl with | [_, _], _ => rfl
theorem Ctx.f__law_is_refused (C : Ctx w K mg) : ∃ fd, FunD K "_law_is_refused" "_law_is_refused" (defArgs as') (defBody as') (defScope as') [] [] (He.ga K "_law_is_refused") fd := C.d.def_ 37 (d := cM') rfl
theorem fN' {f : Addr} {fd : FuncData} (F : FunD K "_law_is_refused" "_law_is_refused" (defArgs as') (defBody as') (defScope as') [] [] f fd) : Binds K fd ["_law_machine", "_law_thing"] [] := F.bindsN fun _ _ _ _ _ _ us hl => match us, hl with | [_, _], _ => rfl
theorem Ctx.f_law (C : Ctx w K mg) : ∃ fd, FunD K "law" "law" (defArgs fx') (defBody fx') (defScope fx') [] [] (He.ga K "law") fd := C.d.def_ 38 (d := uV') rfl
end
end S
namespace M
structure En where
  nx : PSt -> Prop
  rt : O -> W -> Prop
  bk : PSt -> Prop
  ct : PSt -> Prop
  ex : Exc -> PSt -> Prop
def vE {α : Type} (r : Res α) (Q : α -> PSt -> Prop) (X : Exc -> PSt -> Prop) : Prop := match r with
  | .ok a ρ => Q a ρ
  | .exc x ρ => X x ρ
  | .bad => False
def vS (o : Out) (D : En) : Prop := match o with
  | .nx ρ => D.nx ρ
  | .rt o w => D.rt o w
  | .bk ρ => D.bk ρ
  | .ct ρ => D.ct ρ
  | .exc x ρ => D.ex x ρ
  | .bad => False
def vF (r : FRes) (Q : O -> W -> Prop) (X : Exc -> W -> Prop) : Prop := match r with
  | .ok o w => Q o w
  | .exc x w => X x w
  | .bad => False
def vD {α : Type} (o : Option α) (Q : α -> Prop) : Prop := match o with
  | some z => Q z
  | none => False
def vI (k : Bool) (A B : Prop) : Prop := if k = true then A else B
def vB (d : D) (P : Bool -> Prop) : Prop := match d with
  | .bl k => P k
  | _ => False
def vT (d : D) (P : Tx -> Prop) : Prop := match d with
  | .str s => P s
  | _ => False
def vN (d : D) (P : Int -> Prop) : Prop := match d with
  | .int s => P s
  | _ => False
def vV (o : Option (Option O)) (i : Nat) (ρ : PSt) (Q : D -> PSt -> Prop) : Prop := match o with
  | some (some (.fz d)) => Q d ρ
  | some (some .exn) => False
  | some (some .clo) => False
  | some (some o) => Q (frz o) ⟨ρ.env.set i (some (.fz (frz o))), ρ.w⟩
  | _ => False
def vG (o : Option (Option O)) (i : Nat) (ρ : PSt) (Q : O -> PSt -> Prop) : Prop := match o with
  | some (some (.fz d)) => Q (.fz d) ρ
  | some (some .exn) => False
  | some (some .clo) => False
  | some (some o) => Q o ⟨ρ.env.set i none, ρ.w⟩
  | _ => False
def vO (o : Option (Option O)) (Q : O -> Prop) : Prop := match o with
  | some (some o) => Q o
  | _ => False
def vL (o : Option (Option O)) (Q : List O -> Prop) : Prop := match o with
  | some (some (.lst os)) => Q os
  | _ => False
def asF : O -> Option D
  | .fz d => some d
  | _ => none
def asL : D -> Option (List D)
  | .lst ds => some ds
  | _ => none
abbrev FX : Exc -> W -> Prop := fun _ _ => False
abbrev PX : Exc -> PSt -> Prop := fun _ _ => False
section
variable {α β : Type} {Q : α -> PSt -> Prop} {X : Exc -> PSt -> Prop} {ρ : PSt} {P : D -> PSt -> Prop} {D0 : En}
theorem ai' (r : Res β) (f : β -> PSt -> Res α) : vE (r.bind f) Q X = vE r (fun b ρ => vE (f b ρ) Q X) X := by cases r <;> rfl
theorem bS' (r : Res β) (f : β -> PSt -> Out) : vS (r.out f) D0 = vE r (fun b ρ => vS (f b ρ) D0) D0.ex := by cases r <;> rfl
theorem a9' (o : Option α) : vE (ofO o ρ) Q X = vD o (fun z => Q z ρ) := by cases o <;> rfl
theorem gi' (a : α) : vE (.ok a ρ) Q X = Q a ρ := rfl
theorem gw' (d : D) {Q : Bool -> PSt -> Prop} : vE (asB d ρ) Q X = vB d (fun k => Q k ρ) := by cases d <;> rfl
theorem gv' (k : Bool) (a b : Res α) : vE (if k = true then a else b) Q X = vI k (vE a Q X) (vE b Q X) := by cases k <;> rfl
theorem sy' (k : Bool) (a b : Out) : vS (if k = true then a else b) D0 = vI k (vS a D0) (vS b D0) := by cases k <;> rfl
theorem jM' (z : α) {Q : α -> Prop} : vD (some z) Q = Q z := rfl
theorem px' (k : Bool) {Q : Bool -> Prop} : vB (.bl k) Q = Q k := rfl
theorem uf' (A B : Prop) : vI true A B = A := rfl
theorem ug' (A B : Prop) : vI false A B = B := rfl
theorem mD' (k : Bool) (A B : Prop) : vI (!k) A B = vI k B A := by cases k <;> rfl
theorem x0' (d : D) : vE (eC d ρ) P X = P d ρ := rfl
theorem xY' (i : Nat) (env : List (Option O)) (w : W) : vE (eV i ⟨env, w⟩) P X = vV env[i]? i ⟨env, w⟩ P := by
  show vE (match env[i]? with | some (some (.fz d)) => Res.ok d ⟨env, w⟩ | some (some .exn) => .bad | some (some .clo) => .bad | some (some o) => .ok (frz o) ⟨env.set i (some (.fz (frz o))), w⟩ | _ => .bad) P X = _
  rcases env[i]? with _ | _ | o
  . rfl
  . rfl
  . cases o <;> rfl
theorem pq' (d : D) (i : Nat) (ρ : PSt) : vV (some (some (.fz d))) i ρ P = P d ρ := rfl
theorem my' (os : List O) (i : Nat) (env : List (Option O)) (w : W) : vV (some (some (.lst os))) i ⟨env, w⟩ P = P (.lst (frzs os)) ⟨env.set i (some (.fz (.lst (frzs os)))), w⟩ := rfl
theorem mx' (os : List O) (i : Nat) (env : List (Option O)) (w : W) : vV (some (some (.tup os))) i ⟨env, w⟩ P = P (.tup (frzs os)) ⟨env.set i (some (.fz (.tup (frzs os)))), w⟩ := rfl
theorem mz' (ks : List D) (os : List O) (i : Nat) (env : List (Option O)) (w : W) : vV (some (some (.dct ks os))) i ⟨env, w⟩ P = P (.dct ks (frzs os)) ⟨env.set i (some (.fz (.dct ks (frzs os)))), w⟩ := rfl
theorem pt' (d : D) (i : Nat) (ρ : PSt) {P : O -> PSt -> Prop} : vG (some (some (.fz d))) i ρ P = P (.fz d) ρ := rfl
theorem mG' (os : List O) (i : Nat) (env : List (Option O)) (w : W) {P : O -> PSt -> Prop} : vG (some (some (.lst os))) i ⟨env, w⟩ P = P (.lst os) ⟨env.set i none, w⟩ := rfl
theorem mF' (os : List O) (i : Nat) (env : List (Option O)) (w : W) {P : O -> PSt -> Prop} : vG (some (some (.tup os))) i ⟨env, w⟩ P = P (.tup os) ⟨env.set i none, w⟩ := rfl
theorem mH' (ks : List D) (os : List O) (i : Nat) (env : List (Option O)) (w : W) {P : O -> PSt -> Prop} : vG (some (some (.dct ks os))) i ⟨env, w⟩ P = P (.dct ks os) ⟨env.set i none, w⟩ := rfl
theorem jK' (o : O) {P : O -> Prop} : vO (some (some o)) P = P o := rfl
theorem mC' (os : List O) {P : List O -> Prop} : vL (some (some (.lst os))) P = P os := rfl
theorem ub' (f : D -> D -> Option D) (a b : ME) : vE (eOp f a b ρ) P X = vE (a ρ) (fun x ρ1 => vE (b ρ1) (fun y ρ2 => vD (f x y) (fun z => P z ρ2)) X) X := by simp only [eOp, ai', a9']
theorem t8' (f : D -> Option D) (a : ME) : vE (eUn f a ρ) P X = vE (a ρ) (fun x ρ1 => vD (f x) (fun z => P z ρ1)) X := by simp only [eUn, ai', a9']
theorem pp' (a b : ME) : vE (wI' a b ρ) P X = vE (a ρ) (fun x ρ1 => vB x fun k => vI k (vE (b ρ1) P X) (P (.bl false) ρ1)) X := by simp only [wI', ai', gw', gv', gi']
theorem pi' (a : ME) : vE (zf' a ρ) P X = vE (a ρ) (fun x ρ1 => vB x fun k => P (.bl (!k)) ρ1) X := by simp only [zf', ai', gw', gi']
theorem jH' (f g : D -> D -> Option D) (a b c : ME) : vE (he' f g a b c ρ) P X = vE (a ρ) (fun x ρ1 => vE (b ρ1) (fun y ρ2 => vD (f x y) fun r => vB r fun k => vI k (vE (c ρ2) (fun z ρ3 => vD (g y z) fun v => P v ρ3) X) (P (.bl false) ρ2)) X) X := by
  simp only [he', ai', a9', gw', gv', gi']
theorem pj' {P : List D -> PSt -> Prop} : vE (ba' ρ) P X = P [] ρ := rfl
theorem mv' (a : ME) (r : MA) {P : List D -> PSt -> Prop} : vE (ad' a r ρ) P X = vE (a ρ) (fun x ρ1 => vE (r ρ1) (fun xs ρ2 => P (x :: xs) ρ2) X) X := by simp only [ad', ai', gi']
def jw' (n : Nat) (A : Prop) : Prop := n <= 16777216 /\ A
theorem jL' {n : Nat} (h : n <= 16777216) (A : Prop) : jw' n A = A := by unfold jw'; simp [h]
theorem pg' (as : MA) : vE (o6' as ρ) P X = vE (as ρ) (fun xs ρ1 => jw' xs.length (P (.tup xs) ρ1)) X := by
  simp only [o6', ai']
  congr
  funext xs ρ1
  unfold jw'
  by_cases h : xs.length <= 16777216
  . rw [if_pos h]; simp [vE, h]
  . rw [if_neg h]; simp [vE, h]
theorem pk' (as : MA) : vE (lk' as ρ) P X = vE (as ρ) (fun xs ρ1 => jw' xs.length (P (.lst xs) ρ1)) X := by
  simp only [lk', ai']
  congr
  funext xs ρ1
  unfold jw'
  by_cases h : xs.length <= 16777216
  . rw [if_pos h]; simp [vE, h]
  . rw [if_neg h]; simp [vE, h]
theorem ud' (f : Tx -> List D -> Option D) (a : ME) (as : MA) : vE (eMt f a as ρ) P X = vE (a ρ) (fun x ρ1 => vT x fun s => vE (as ρ1) (fun ds ρ2 => vD (f s ds) fun z => P z ρ2) X) X := by
  simp only [eMt, ai']
  congr
  funext x ρ1
  cases x <;> simp only [ai', a9'] <;> rfl
theorem mA' (s : Tx) {P : Tx -> Prop} : vT (.str s) P = P s := rfl
theorem mB' (s : Int) {P : Int -> Prop} : vN (.int s) P = P s := rfl
theorem uc' {P : Option Int -> PSt -> Prop} : vE (pNo ρ) P X = P none ρ := rfl
theorem t9' (a : ME) {P : Option Int -> PSt -> Prop} : vE (pSo a ρ) P X = vE (a ρ) (fun x ρ1 => vN x fun i => P (some i) ρ1) X := by
  simp only [pSo, ai']
  congr
  funext x ρ1
  cases x <;> rfl
theorem ua' (a : ME) (lo hi : MP) : vE (eSl a lo hi ρ) P X = vE (a ρ) (fun x ρ1 => vE (lo ρ1) (fun l ρ2 => vE (hi ρ2) (fun h ρ3 => vD (pSl x l h) fun z => P z ρ3) X) X) X := by simp only [eSl, ai', a9']
theorem xZ' (a : MO) : vE (eO a ρ) P X = vE (a ρ) (fun o ρ1 => P (frz o) ρ1) X := by simp only [eO, ai', gi']
variable {R : O -> PSt -> Prop}
theorem t7' (a : ME) : vE (oE a ρ) R X = vE (a ρ) (fun d ρ1 => R (.fz d) ρ1) X := by simp only [oE, ai', gi']
theorem t6' (i : Nat) (env : List (Option O)) (w : W) : vE (oV i ⟨env, w⟩) R X = vG env[i]? i ⟨env, w⟩ R := by
  show vE (match env[i]? with | some (some (.fz d)) => Res.ok (O.fz d) ⟨env, w⟩ | some (some .exn) => .bad | some (some .clo) => .bad | some (some o) => .ok o ⟨env.set i none, w⟩ | _ => .bad) R X = _
  rcases env[i]? with _ | _ | o
  . rfl
  . rfl
  . cases o <;> rfl
theorem mw' (f : MF) (as : MA) : vE (aM' f as ρ) R X = vE (as ρ) (fun ds ρ1 => vF (f ds ρ1.w) (fun o w => R o ⟨ρ1.env, w⟩) fun x w => X x ⟨ρ1.env, w⟩) X := by
  simp only [aM', ai']
  congr
  funext ds ρ1
  cases f ds ρ1.w <;> rfl
theorem mp' (a : ME) : vE (lj' a ρ) R X = vE (a ρ) (fun d ρ1 => vD (asL d) fun ds => R (.lst (ds.map .fz)) ρ1) X := by
  simp only [lj', ai']
  congr
  funext d ρ1
  cases d <;> rfl
theorem jF' : vE (go' ρ) R X = R (.dct [] []) ρ := rfl
theorem jG' (i : Nat) (a : ME) (env : List (Option O)) (w : W) : vE (kI' i a ⟨env, w⟩) P X = vL env[i]? fun _ => vE (a ⟨env, w⟩) (fun d ρ1 => vN d fun z => vL ρ1.env[i]? fun os => jw' os.length (vD (ixn os.length z) fun j => vD os[j]? fun o => vD (asF o) fun y => P y ⟨ρ1.env.set i (some (.lst (os.eraseIdx j))), ρ1.w⟩)) X := by
  show vE (match env[i]? with
  | some (some (.lst _)) => (a ⟨env, w⟩).bind fun d ρ1 => match ρ1.env[i]?, d with
    | some (some (.lst os)), .int z => (match (if os.length <= dq' then ixn os.length z else none) with
      | some j => (match os[j]? with
        | some (.fz y) => .ok y ⟨ρ1.env.set i (some (.lst (os.eraseIdx j))), ρ1.w⟩
        | _ => .bad)
      | none => .bad)
    | _, _ => .bad
  | _ => .bad) P X = _
  rcases env[i]? with _ | _ | o
  . rfl
  . rfl
  cases o with
  | lst os0 =>
    simp only [ai', vL]
    congr
    funext d ρ1
    cases d with
    | int z =>
      simp only [vN]
      rcases ρ1.env[i]? with _ | _ | o
      . rfl
      . rfl
      cases o with
      | lst os =>
        simp only [jw']
        by_cases hl : os.length <= 16777216
        . simp only [hl, if_pos, true_and]
          cases ixn os.length z with
          | none => rfl
          | some j =>
            simp only [vD]
            rcases os[j]? with _ | o
            . rfl
            . cases o <;> rfl
        . simp only [hl, if_neg, false_and]; simp [vE]
      | _ => rfl
    | _ =>
      rcases ρ1.env[i]? with _ | _ | o
      . rfl
      . rfl
      cases o <;> rfl
  | _ => rfl
theorem pm' (i : Nat) (b : ME) (env : List (Option O)) (w : W) : vE (wG' i b ⟨env, w⟩) P X = vO env[i]? fun _ => vE (b ⟨env, w⟩) (fun k ρ1 => vO ρ1.env[i]? fun o => vD (ixO o k) fun z => P z ρ1) X := by
  show vE (match env[i]? with
  | some (some _) => (b ⟨env, w⟩).bind fun k ρ1 => match ρ1.env[i]? with
    | some (some o) => ofO (ixO o k) ρ1
    | _ => .bad
  | _ => .bad) P X = _
  rcases env[i]? with _ | _ | o
  . rfl
  . rfl
  simp only [ai', vO]
  congr
  funext k ρ1
  rcases ρ1.env[i]? with _ | _ | o
  . rfl
  . rfl
  exact a9' _
theorem h0' (i : Nat) (a : ME) : vE (fJ' i a ρ) P X = vE (a ρ) (fun x ρ1 => vO ρ1.env[i]? fun o => vD (rh' (inO x o)) fun z => P z ρ1) X := by
  simp only [fJ', ai']
  congr
  funext x ρ1
  rcases ρ1.env[i]? with _ | _ | o
  . rfl
  . rfl
  exact a9' _
theorem mu' (i : Nat) : vE (ex' i ρ) P X = vO ρ.env[i]? fun o => vD (sm' o) fun z => P z ρ := by
  unfold ex'
  rcases ρ.env[i]? with _ | _ | o
  . rfl
  . rfl
  exact a9' _
theorem pl' (a b : ME) : vE (jA' a b ρ) P X = vE (a ρ) (fun x ρ1 => vE (b ρ1) (fun y ρ2 => vD (ixW ρ2.w x y) fun z => P z ρ2) X) X := by simp only [jA', ai', a9']
theorem ph' (as : MA) : vE (yH' as ρ) R X = vE (as ρ) (fun xs ρ1 => jw' xs.length (R (.fz (.obj ρ1.w.length)) ⟨ρ1.env, ρ1.w ++ [.lst (xs.map .fz)]⟩)) X := by
  simp only [yH', ai']
  congr
  funext xs ρ1
  unfold jw'
  by_cases h : xs.length <= 16777216
  . rw [if_pos h]; simp [vE, h]
  . rw [if_neg h]; simp [vE, h]
theorem pn' (cs : List String) (a : ME) (f : String) : vE (ey' cs a f ρ) P X = vE (a ρ) (fun x ρ1 => vD (hd' cs f ρ1.w x) fun z => P z ρ1) X := by simp only [ey', ai', a9']
theorem mt' (C : String) (init : MF) (as : MA) : vE (kn' C init as ρ) R X = vE (as ρ) (fun ds ρ1 => vF (init (.obj ρ1.w.length :: ds) (ρ1.w ++ [.ins C []])) (fun o w => o = .fz .non /\ R (.fz (.obj ρ1.w.length)) ⟨ρ1.env, w⟩) fun x w => X x ⟨ρ1.env, w⟩) X := by
  simp only [kn', ai']
  congr
  funext ds ρ1
  cases init (.obj ρ1.w.length :: ds) (ρ1.w ++ [.ins C []]) with
  | ok o w =>
    cases o with
    | fz d => cases d <;> simp [vE, vF]
    | _ => simp [vE, vF]
  | _ => rfl
theorem ms' (C : List String) (m : String) (f : MF) (a : ME) (as : MA) : vE (fC' C m f a as ρ) R X = vE (a ρ) (fun x ρ1 => jg' C m ρ1.w x = true /\ vE (as ρ1) (fun ds ρ2 => vF (f (x :: ds) ρ2.w) (fun o w => R o ⟨ρ2.env, w⟩) fun x w => X x ⟨ρ2.env, w⟩) X) X := by
  simp only [fC', ai']
  congr
  funext x ρ1
  by_cases h : jg' C m ρ1.w x = true
  . rw [if_pos h]
    simp only [h, true_and, ai']
    congr
    funext ds ρ2
    cases f (x :: ds) ρ2.w <;> rfl
  . rw [if_neg h]
    simp [vE, h]
def vX (o : Option (Option O)) (A : Prop) : Prop := match o with
  | some (some .exn) => A
  | _ => False
theorem vk' (i : Nat) (t : ET) (c : String) (x : Exc) : vE (tA' i t c x ρ) P X = vX ρ.env[i]? (x.fs = [] /\ vD (sub t x.cls c) fun b => P (.bl b) ρ) := by
  unfold tA'
  rcases ρ.env[i]? with _ | _ | o
  . rfl
  . rfl
  . cases o <;> try rfl
    show vE (if x.fs = [] then _ else _) P X = (x.fs = [] /\ _)
    by_cases h : x.fs = []
    . rw [if_pos h]; simp only [h, true_and, a9']
      cases sub t x.cls c <;> rfl
    . rw [if_neg h]; simp [h, vE]
variable {B : Bool -> PSt -> Prop}
theorem t5' (a : ME) : vE (tE a ρ) B X = vE (a ρ) (fun d ρ1 => vB d fun k => B k ρ1) X := by simp only [tE, ai', gw']
theorem mn' (a : MT) : vE (gx' a ρ) B X = vE (a ρ) (fun k ρ1 => B (!k) ρ1) X := by simp only [gx', ai', gi']
theorem mo' (a b : MT) : vE (us' a b ρ) B X = vE (a ρ) (fun k ρ1 => vI k (vE (b ρ1) B X) (B false ρ1)) X := by simp only [us', ai', gv', gi']
theorem pc' (a b : MT) : vE (tOr a b ρ) B X = vE (a ρ) (fun k ρ1 => vI k (B true ρ1) (vE (b ρ1) B X)) X := by simp only [tOr, ai', gv', gi']
theorem t4' : vE (tT ρ) B X = B true ρ := rfl
variable {Y : List D -> PSt -> Prop}
theorem mr' (a : ME) : vE (do' a ρ) Y X = vE (a ρ) (fun d ρ1 => vD (ek' d) fun z => Y z ρ1) X := by simp only [do', ai', a9']
theorem gI' (a : ME) : vE (bY' a ρ) Y X = vE (a ρ) (fun d ρ1 => vD (fA' d) fun z => Y z ρ1) X := by simp only [bY', ai', a9']
theorem mq' (a b : ME) : vE (y4' a b ρ) Y X = vE (a ρ) (fun d ρ1 => vE (b ρ1) (fun e ρ2 => vD (si' d e) fun z => Y z ρ2) X) X := by simp only [y4', ai', a9']
theorem ue' (own : List Nat) (it : MI) (g : MG) (t : MT) (e : ME) : vE (eLc own it g t e ρ) P X = vE (it ρ) (fun xs ρ1 => vE (lcL own g t e xs [] ρ1) (fun ys ρ2 => P (.lst ys) ⟨back ρ1.env own (aD' own ρ2.env), ρ2.w⟩) X) X := by simp only [eLc, ai', gi']
theorem pd' (own : List Nat) (it : MI) (g : MG) (t : MT) (e : ME) : vE (oLc own it g t e ρ) R X = vE (it ρ) (fun xs ρ1 => vE (lcL own g t e xs [] ρ1) (fun ys ρ2 => R (.lst (ys.map .fz)) ⟨back ρ1.env own (aD' own ρ2.env), ρ2.w⟩) X) X := by simp only [oLc, ai', gi']
variable {N : PSt -> Prop} {rt : O -> W -> Prop} {bk ct : PSt -> Prop} {ex : Exc -> PSt -> Prop}
theorem mK' : vS (bq' ρ) ⟨N, rt, bk, ct, ex⟩ = N ρ := rfl
theorem jR' : vS (nv' ρ) ⟨N, rt, bk, ct, ex⟩ = bk ρ := rfl
theorem mL' (a : ME) : vS (hO' a ρ) ⟨N, rt, bk, ct, ex⟩ = vE (a ρ) (fun _ ρ1 => N ρ1) ex := by simp only [hO', bS']; rfl
theorem pA' (a : MO) : vS (ch' a ρ) ⟨N, rt, bk, ct, ex⟩ = vE (a ρ) (fun o ρ1 => rt o ρ1.w) ex := by simp only [ch', bS']; rfl
theorem lm' (a b : MS) : vS (aw' a b ρ) ⟨N, rt, bk, ct, ex⟩ = vS (a ρ) ⟨fun ρ1 => vS (b ρ1) ⟨N, rt, bk, ct, ex⟩, rt, bk, ct, ex⟩ := by
  unfold aw'
  cases a ρ <;> rfl
theorem uh' (t : MT) (a b : MS) : vS (sIf t a b ρ) ⟨N, rt, bk, ct, ex⟩ = vE (t ρ) (fun k ρ1 => vI k (vS (a ρ1) ⟨N, rt, bk, ct, ex⟩) (vS (b ρ1) ⟨N, rt, bk, ct, ex⟩)) ex := by simp only [sIf, bS', sy']
def om' (i n : Nat) (A : Prop) : Prop := i < n /\ A
theorem jI' {i n : Nat} (h : i < n) (A : Prop) : om' i n A = A := by unfold om'; simp [h]
theorem pz' (i : Nat) (a : MO) : vS (bh' i a ρ) ⟨N, rt, bk, ct, ex⟩ = vE (a ρ) (fun o ρ1 => om' i ρ1.env.length (N ⟨ρ1.env.set i (some o), ρ1.w⟩)) ex := by
  simp only [bh', bS']
  congr
  funext o ρ1
  unfold vG' om'
  by_cases h : i < ρ1.env.length
  . rw [if_pos h]; simp [vS, h]
  . rw [if_neg h]; simp [vS, h]
theorem pE' (g : MG) (a : ME) : vS (xp' g a ρ) ⟨N, rt, bk, ct, ex⟩ = vE (a ρ) (fun d ρ1 => vD (g d ρ1) N) ex := by
  simp only [xp', bS']
  congr
  funext o ρ1
  cases g o ρ1 <;> rfl
theorem pD' (f : D -> D -> Option D) (i : Nat) (a : ME) : vS (xo' f i a ρ) ⟨N, rt, bk, ct, ex⟩ = vO ρ.env[i]? fun o => vD (asF o) fun d => vE (a ρ) (fun y ρ1 => vD (f d y) fun z => om' i ρ1.env.length (N ⟨ρ1.env.set i (some (.fz z)), ρ1.w⟩)) ex := by
  unfold xo'
  rcases ρ.env[i]? with _ | _ | o
  . rfl
  . rfl
  cases o with
  | fz d =>
    simp only [bS', vD, vO, asF]
    congr
    funext y ρ1
    cases f d y with
    | none => rfl
    | some z =>
      dsimp only
      unfold vG' om'
      by_cases h : i < ρ1.env.length
      . rw [if_pos h]; simp [vS, h]
      . rw [if_neg h]; simp [vS, h]
  | _ => rfl
theorem jQ' (x : String) : vS (ka' x ρ) ⟨N, rt, bk, ct, ex⟩ = ex ⟨x, []⟩ ρ := rfl
theorem pF' (i : Nat) (a : MO) : vS (ou' i a ρ) ⟨N, rt, bk, ct, ex⟩ = vL ρ.env[i]? fun _ => vE (a ρ) (fun o ρ1 => vL ρ1.env[i]? fun os => om' os.length 16777216 (N ⟨ρ1.env.set i (some (.lst (os ++ [o]))), ρ1.w⟩)) ex := by
  unfold ou'
  rcases ρ.env[i]? with _ | _ | o
  . rfl
  . rfl
  cases o with
  | lst os0 =>
    simp only [bS', vL]
    congr
    funext o ρ1
    rcases ρ1.env[i]? with _ | _ | o2
    . rfl
    . rfl
    cases o2 with
    | lst os =>
      dsimp only
      unfold om'
      by_cases h : os.length < 16777216
      . rw [if_pos h]; simp [vS, h]
      . rw [if_neg h]; simp [vS, h]
    | _ => rfl
  | _ => rfl
theorem mJ' (o k a : ME) : vS (iT' o k a ρ) ⟨N, rt, bk, ct, ex⟩ = vE (a ρ) (fun d ρ1 => vE (o ρ1) (fun x ρ2 => vE (k ρ2) (fun y ρ3 => vD (sH' ρ3.w x y d) fun w => N ⟨ρ3.env, w⟩) ex) ex) ex := by
  simp only [iT', bS']
  congr
  funext d ρ1
  congr
  funext x ρ2
  congr
  funext y ρ3
  cases sH' ρ3.w x y d <;> rfl
def CV' (w : W) : D -> Option (List O)
  | .obj n => (match w[n]? with
    | some (.lst os) => some os
    | _ => none)
  | _ => none
def Dd' (w : W) (b : Ob) : D -> W
  | .obj n => w.set n b
  | _ => w
theorem pC' (cs : List String) (a : ME) (f : String) (v : MO) : vS (sFld cs a f v ρ) ⟨N, rt, bk, ct, ex⟩ = vE (v ρ) (fun o ρ1 => vE (a ρ1) (fun x ρ2 => vD (stF cs f o ρ2.w x) fun w => N ⟨ρ2.env, w⟩) ex) ex := by
  simp only [sFld, bS']
  congr
  funext d ρ1
  congr
  funext x ρ2
  cases stF cs f d ρ2.w x <;> rfl
theorem pB' (it : MI) (g : MG) (b : MS) : vS (fg' it g b ρ) ⟨N, rt, bk, ct, ex⟩ = vE (it ρ) (fun ds ρ1 => vS (n1' g b ds ρ1) ⟨N, rt, bk, ct, ex⟩) ex := by simp only [fg', bS']
theorem jP' (n : Nat) (t : MT) (b : MS) : vS (ib' n t b ρ) ⟨N, rt, bk, ct, ex⟩ = vS (d5' t b n ρ) ⟨N, rt, bk, ct, ex⟩ := rfl
theorem vq' (o : Out) : vS (te' o) ⟨N, rt, bk, ct, ex⟩ = vS o ⟨N, rt, bk, ct, fun _ _ => False⟩ := by cases o <;> rfl
theorem vp' (i m : Nat) (o : Out) : vS (sl' i m o) ⟨N, rt, bk, ct, ex⟩ = vS o ⟨fun ρ => (ρ.env.length = i + m + 1 /\ N ⟨ρ.env.set i none, ρ.w⟩), rt, fun ρ => (ρ.env.length = i + m + 1 /\ bk ⟨ρ.env.set i none, ρ.w⟩), fun ρ => (ρ.env.length = i + m + 1 /\ ct ⟨ρ.env.set i none, ρ.w⟩), ex⟩ := by
  cases o with
  | nx ρ => by_cases h : ρ.env.length = i + m + 1 <;> simp [sl', vS, h]
  | bk ρ => by_cases h : ρ.env.length = i + m + 1 <;> simp [sl', vS, h]
  | ct ρ => by_cases h : ρ.env.length = i + m + 1 <;> simp [sl', vS, h]
  | _ => rfl
theorem py' (i m : Nat) (b : MS) (g : String -> Option Bool) (h : Exc -> MS) : vS (ic' i m b g h ρ) ⟨N, rt, bk, ct, ex⟩ = vS (b ρ) ⟨N, rt, bk, ct, fun x ρ1 => vD (g x.cls) fun k => vI k (ρ1.env.length = i + m + 1 /\ vS (h x ⟨ρ1.env.set i (some .exn), ρ1.w⟩) ⟨fun ρ => (ρ.env.length = i + m + 1 /\ N ⟨ρ.env.set i none, ρ.w⟩), rt, fun ρ => (ρ.env.length = i + m + 1 /\ bk ⟨ρ.env.set i none, ρ.w⟩), fun ρ => (ρ.env.length = i + m + 1 /\ ct ⟨ρ.env.set i none, ρ.w⟩), fun _ _ => False⟩) (ex x ρ1)⟩ := by
  unfold ic'
  cases b ρ with
  | exc x ρ1 =>
    show vS (match g x.cls with | some true => if ρ1.env.length = i + m + 1 then sl' i m (te' (h x ⟨ρ1.env.set i (some .exn), ρ1.w⟩)) else .bad | some false => .exc x ρ1 | none => .bad) _ = vD (g x.cls) _
    cases g x.cls with
    | none => rfl
    | some k => cases k with
      | false => rfl
      | true =>
        show vS (if ρ1.env.length = i + m + 1 then _ else _) _ = (ρ1.env.length = i + m + 1 /\ vS _ _)
        by_cases hl : ρ1.env.length = i + m + 1
        . rw [if_pos hl, vp', vq']; simp only [hl, true_and]
        . rw [if_neg hl]; simp [hl, vS]
  | _ => rfl
theorem vt' {k n : Nat} (b : MS) (ds : List D) (w : W) {Q : O -> W -> Prop} {X : Exc -> W -> Prop} (h : ds.length = k) : vF (fnM k n b ds w) Q X = vS (b ⟨ds.map (fun d => some (.fz d)) ++ List.replicate (n - k) none, w⟩) ⟨fun ρ => Q (.fz .non) ρ.w, Q, fun _ => False, fun _ => False, fun x ρ => X x ρ.w⟩ := by
  unfold fnM
  rw [if_pos h]
  cases b ⟨ds.map (fun d => some (.fz d)) ++ List.replicate (n - k) none, w⟩ <;> rfl
theorem mM' {k n : Nat} {b : MS} {ds : List D} {w : W} {Q : O -> W -> Prop} {X : Exc -> W -> Prop} (q : vS (b ⟨ds.map (fun d => some (.fz d)) ++ List.replicate (n - k) none, w⟩) ⟨fun ρ => Q (.fz .non) ρ.w, Q, fun _ => False, fun _ => False, fun x ρ => X x ρ.w⟩) (h : ds.length = k) : vF (fnM k n b ds w) Q X := by
  rw [vt' _ _ _ h]; exact q
theorem pu' (o : O) (w : W) {Q : O -> W -> Prop} {X : Exc -> W -> Prop} : vF (.ok o w) Q X = Q o w := rfl
theorem mI' (x : Exc) (w : W) {Q : O -> W -> Prop} {X : Exc -> W -> Prop} : vF (.exc x w) Q X = X x w := rfl
theorem vF.mono {r : FRes} {Q Q' : O -> W -> Prop} {X : Exc -> W -> Prop} (h : vF r Q FX) (k : ∀ o w, Q o w -> Q' o w) : vF r Q' X := by
  cases r with
  | ok o w => exact k _ _ h
  | exc x w => exact h.elim
  | bad => exact h
theorem vF.monoX {r : FRes} {Q Q' : O -> W -> Prop} {X X' : Exc -> W -> Prop} (h : vF r Q X) (k : ∀ o w, Q o w -> Q' o w) (k2 : ∀ x w, X x w -> X' x w) : vF r Q' X' := by
  cases r with
  | ok o w => exact k _ _ h
  | exc x w => exact k2 _ _ h
  | bad => exact h
theorem vF.exi {r : FRes} {Q : O -> W -> Prop} (h : vF r Q FX) : ∃ o w, r = .ok o w /\ Q o w := by
  cases r with
  | ok o w => exact ⟨o, w, rfl, h⟩
  | exc x w => exact h.elim
  | bad => exact h.elim
theorem vF.of {r : FRes} {Q : O -> W -> Prop} {X : Exc -> W -> Prop} {o : O} {w : W} (e : r = .ok o w) (h : Q o w) : vF r Q X := by rw [e]; exact h
theorem vS.mono {o : Out} {D1 D2 : En} (h : vS o D1) (h1 : ∀ ρ, D1.nx ρ -> D2.nx ρ) (h2 : ∀ o w, D1.rt o w -> D2.rt o w) (h3 : ∀ ρ, D1.bk ρ -> D2.bk ρ) (h4 : ∀ ρ, D1.ct ρ -> D2.ct ρ) (h5 : ∀ x ρ, D1.ex x ρ -> D2.ex x ρ) : vS o D2 := by
  cases o with
  | nx ρ => exact h1 _ h
  | rt o w => exact h2 _ _ h
  | bk ρ => exact h3 _ h
  | ct ρ => exact h4 _ h
  | exc x ρ => exact h5 _ _ h
  | bad => exact h
theorem vE.mono {r : Res α} {Q Q' : α -> PSt -> Prop} {X X' : Exc -> PSt -> Prop} (h : vE r Q X) (k : ∀ a ρ, Q a ρ -> Q' a ρ) (k2 : ∀ x ρ, X x ρ -> X' x ρ) : vE r Q' X' := by
  cases r with
  | ok a ρ => exact k _ _ h
  | exc x ρ => exact k2 _ _ h
  | bad => exact h
theorem jO' {a b : MS} (J : PSt -> Prop) (h : vS (a ρ) ⟨J, rt, bk, ct, ex⟩) (k : ∀ ρ1, J ρ1 -> vS (b ρ1) ⟨N, rt, bk, ct, ex⟩) : vS (aw' a b ρ) ⟨N, rt, bk, ct, ex⟩ := by
  rw [lm']
  exact h.mono k (fun _ _ z => z) (fun _ z => z) (fun _ z => z) (fun _ _ z => z)
theorem mE' {p : Prop} [Decidable p] {A B : Prop} (h1 : p -> A) (h2 : ¬ p -> B) : vI (decide p) A B := by
  by_cases h : p
  . rw [decide_eq_true h]; exact h1 h
  . rw [decide_eq_false h]; exact h2 h
theorem gK' {γ : Type} {g : MG} {b : MS} {f : γ -> D} {cs : List γ} (Inv : List γ -> PSt -> Prop) (h0 : Inv [] ρ)
    (step : ∀ pre c post ρ, cs = pre ++ c :: post -> Inv pre ρ -> vD (g (f c) ρ) fun ρ1 => vS (b ρ1) ⟨Inv (pre ++ [c]), rt, N, Inv (pre ++ [c]), ex⟩)
    (hend : ∀ ρ, Inv cs ρ -> N ρ) : vS (n1' g b (cs.map f) ρ) ⟨N, rt, bk, ct, ex⟩ := by
  have main : ∀ (post pre : List γ) (ρ : PSt), cs = pre ++ post -> Inv pre ρ -> vS (n1' g b (post.map f) ρ) ⟨N, rt, bk, ct, ex⟩ := by
    intro post
    induction post with
    | nil =>
      intro pre ρ e h
      rw [List.append_nil] at e
      exact hend ρ (e ▸ h)
    | cons d post ih =>
      intro pre ρ e h
      have s := step pre d post ρ e h
      rw [List.map_cons]
      unfold n1'
      cases eg : g (f d) ρ with
      | none => rw [eg] at s; exact s
      | some ρ1 =>
        rw [eg] at s
        have s : vS (b ρ1) _ := s
        dsimp only
        cases eb : b ρ1 with
        | nx ρ2 => rw [eb] at s; exact ih (pre ++ [d]) ρ2 (by rw [e, List.append_assoc]; rfl) s
        | ct ρ2 => rw [eb] at s; exact ih (pre ++ [d]) ρ2 (by rw [e, List.append_assoc]; rfl) s
        | bk ρ2 => rw [eb] at s; exact s
        | rt o w => rw [eb] at s; exact s
        | exc x ρ2 => rw [eb] at s; exact s
        | bad => rw [eb] at s; exact s
  exact main cs [] ρ rfl h0
theorem jS' {g : MG} {b : MS} {lo : Int} {n : Nat} (Inv : Nat -> PSt -> Prop) (h0 : Inv 0 ρ)
    (step : ∀ k ρ, k < n -> Inv k ρ -> vD (g (.int (lo + (k : Nat))) ρ) fun ρ1 => vS (b ρ1) ⟨Inv (k + 1), rt, N, Inv (k + 1), ex⟩)
    (hend : ∀ ρ, Inv n ρ -> N ρ) : vS (n1' g b (rgI lo n) ρ) ⟨N, rt, bk, ct, ex⟩ := by
  unfold rgI
  refine gK' (fun pre ρ => Inv pre.length ρ) h0 (fun pre c post ρ e h => ?_) (fun ρ h => hend ρ (by rwa [List.length_range] at h))
  have hl : pre.length < n := by
    have := congrArg List.length e
    rw [List.length_range, List.length_append, List.length_cons] at this
    omega
  have hc : c = pre.length := by
    have h1 : (List.range n)[pre.length]? = some c := by rw [e, List.getElem?_append_right (Nat.le_refl _), Nat.sub_self]; rfl
    rw [List.getElem?_range hl] at h1
    exact (Option.some.inj h1).symm
  subst hc
  have := step pre.length ρ hl h
  simp only [List.length_append, List.length_cons, List.length_nil, Nat.zero_add]
  exact this
theorem gJ' {t : MT} {b : MS} {n : Nat} (Inv : Nat -> PSt -> Prop) (m : Nat) (hm : m < n) (h0 : Inv m ρ)
    (step : ∀ m ρ, Inv m ρ -> vE (t ρ) (fun k ρ1 => vI k (vS (b ρ1) ⟨fun ρ2 => ∃ m', m' < m /\ Inv m' ρ2, rt, N, fun ρ2 => ∃ m', m' < m /\ Inv m' ρ2, ex⟩) (N ρ1)) ex) :
    vS (d5' t b n ρ) ⟨N, rt, bk, ct, ex⟩ := by
  induction n generalizing m ρ with
  | zero => omega
  | succ n ih =>
    have s := step m ρ h0
    unfold d5'
    cases et : t ρ with
    | bad => rw [et] at s; exact s
    | exc x ρ1 => rw [et] at s; exact s
    | ok k ρ1 =>
      rw [et] at s
      have s : vI k _ _ := s
      show vS (if k = true then _ else _) _
      cases k with
      | false => exact s
      | true =>
        rw [if_pos rfl]
        have s : vS (b ρ1) _ := s
        cases eb : b ρ1 with
        | nx ρ2 =>
          rw [eb] at s
          obtain ⟨m', h1, h2⟩ := s
          exact ih m' (by omega) h2
        | ct ρ2 =>
          rw [eb] at s
          obtain ⟨m', h1, h2⟩ := s
          exact ih m' (by omega) h2
        | bk ρ2 => rw [eb] at s; exact s
        | rt o w => rw [eb] at s; exact s
        | exc x ρ2 => rw [eb] at s; exact s
        | bad => rw [eb] at s; exact s
theorem mN' {own : List Nat} {g : MG} {t : MT} {e : ME} {γ : Type} {f : γ -> D} {cs : List γ} {Q : List D -> PSt -> Prop} (hl : cs.length <= 16777216) (Inv : List γ -> List D -> PSt -> Prop) (h0 : Inv [] [] ρ)
    (step : ∀ pre c post acc ρ, cs = pre ++ c :: post -> Inv pre acc ρ -> vD (g (f c) ⟨aD' own ρ.env, ρ.w⟩) fun ρ1 => vE (t ρ1) (fun k ρ2 => vI k (vE (e ρ2) (fun y ρ3 => Inv (pre ++ [c]) (acc ++ [y]) ρ3) PX) (Inv (pre ++ [c]) acc ρ2)) PX)
    (hend : ∀ acc ρ, Inv cs acc ρ -> Q acc ρ) : vE (lcL own g t e (cs.map f) [] ρ) Q X := by
  have main : ∀ (post pre : List γ) (acc : List D) (ρ : PSt), cs = pre ++ post -> acc.length <= pre.length -> Inv pre acc ρ -> vE (lcL own g t e (post.map f) acc ρ) Q X := by
    intro post
    induction post with
    | nil =>
      intro pre acc ρ e' hacc h
      rw [List.append_nil] at e'
      exact hend acc ρ (e' ▸ h)
    | cons d post ih =>
      intro pre acc ρ e' hacc h
      have s := step pre d post acc ρ e' h
      have hpre : pre.length < 16777216 := by
        have := congrArg List.length e'
        rw [List.length_append, List.length_cons] at this
        omega
      rw [List.map_cons]
      unfold lcL
      cases eg : g (f d) ⟨aD' own ρ.env, ρ.w⟩ with
      | none => rw [eg] at s; exact s
      | some ρ1 =>
        rw [eg] at s
        have s : vE (t ρ1) _ _ := s
        dsimp only
        cases et : t ρ1 with
        | bad => rw [et] at s; exact s
        | exc x ρ2 => rw [et] at s; exact s.elim
        | ok k ρ2 =>
          rw [et] at s
          have s : vI k _ _ := s
          show vE (if k = true then _ else _) Q X
          have e2 : cs = (pre ++ [d]) ++ post := by rw [e', List.append_assoc]; rfl
          cases k with
          | false =>
            rw [if_neg Bool.false_ne_true]
            exact ih (pre ++ [d]) acc ρ2 e2 (by rw [List.length_append]; omega) s
          | true =>
            rw [if_pos rfl]
            have s : vE (e ρ2) _ _ := s
            cases ee : e ρ2 with
            | bad => rw [ee] at s; exact s
            | exc x ρ3 => rw [ee] at s; exact s.elim
            | ok y ρ3 =>
              rw [ee] at s
              show vE (if acc.length < dq' then _ else _) Q X
              rw [if_pos (show acc.length < 16777216 by omega)]
              exact ih (pre ++ [d]) (acc ++ [y]) ρ3 e2 (by rw [List.length_append, List.length_append, List.length_cons, List.length_cons]; omega) s
  exact main cs [] [] ρ rfl (Nat.le_refl _) h0
end
end M
namespace M
def vC (c : Prop) (A : Prop) : Prop := c /\ A
def vOb (o : Option Ob) (P : List O -> Prop) : Prop := match o with
  | some (.lst os) => P os
  | _ => False
def Ag' (o : Option Ob) (P : String -> List (String × O) -> Prop) : Prop := match o with
  | some (.ins C fs) => P C fs
  | _ => False
theorem pr' (C : String) (fs : List (String × O)) {P : String -> List (String × O) -> Prop} : Ag' (some (.ins C fs)) P = P C fs := rfl
theorem vu' (cs : List String) (f : String) (o : O) (w : W) (n : Nat) {N : W -> Prop} : vD (stF cs f o w (.obj n)) N = Ag' w[n]? (fun C fs => vC (C ∈ cs /\ fs.length < 1000) (N (w.set n (.ins C (q4' f o fs))))) := by
  show vD (match w[n]? with | some (.ins C fs) => if C ∈ cs /\ fs.length < 1000 then some (w.set n (.ins C (q4' f o fs))) else none | _ => none) N = _
  rcases w[n]? with _ | ob
  . rfl
  . cases ob with
    | ins C fs =>
      show vD (if _ then _ else _) N = vC _ _
      unfold vC
      by_cases h : C ∈ cs /\ fs.length < 1000
      . rw [if_pos h]; simp [vD, h]
      . rw [if_neg h]
        show False = (_ /\ _)
        rw [eq_iff_iff]
        exact ⟨False.elim, fun a => h a.1⟩
    | _ => rfl
theorem jJ' (os : List O) {P : List O -> Prop} : vOb (some (.lst os)) P = P os := rfl
theorem pw' {c : Prop} (h : c) (A : Prop) : vC c A = A := by unfold vC; simp [h]
theorem jN' (A : Prop) : vC True A = A := by unfold vC; simp
theorem aX' {α : Type} {c : Prop} [Decidable c] {x : α} {Q : α -> Prop} : vD (if c then some x else none) Q = vC c (Q x) := by
  unfold vC
  by_cases h : c
  . rw [if_pos h]; simp [vD, h]
  . rw [if_neg h]; simp [vD, h]
theorem cp' {α β : Type} {f : α -> β} {o : Option α} {Q : β -> Prop} : vD (o.map f) Q = vD o (fun a => Q (f a)) := by cases o <;> rfl
theorem pv' {α β : Type} {f : α -> Option β} {o : Option α} {Q : β -> Prop} : vD (o.bind f) Q = vD o (fun a => vD (f a) Q) := by cases o <;> rfl
section
variable {Q : D -> Prop} {Y : List D -> Prop}
theorem ni' (i j : Int) : vD (cV' (.int i) (.int j)) Q = Q (.int (i + j)) := rfl
theorem ng' (a b : Tx) : vD (cV' (.str a) (.str b)) Q = jw' (a.length + b.length) (Q (.str (a ++ b))) := aX'
theorem nh' (a b : List D) : vD (cV' (.lst a) (.lst b)) Q = jw' (a.length + b.length) (Q (.lst (a ++ b))) := aX'
theorem nf' (a b : List D) : vD (cV' (.tup a) (.tup b)) Q = jw' (a.length + b.length) (Q (.tup (a ++ b))) := aX'
theorem j3' (i j : Int) : vD (s7' (.int i) (.int j)) Q = Q (.int (i + j)) := rfl
theorem pH' (i j : Int) : vD (uG' (.int i) (.int j)) Q = Q (.int (i - j)) := rfl
theorem pS' (i j : Int) : vD (iY' (.int i) (.int j)) Q = vC (((-18446744073709551616 < i /\ i < 18446744073709551616) \/ (-18446744073709551616 < j /\ j < 18446744073709551616)) \/ ((-2582249878086908589655919172003011874329705792829223512830659356540647622016841194629645353280137831435903171972747493376 < i /\ i < 2582249878086908589655919172003011874329705792829223512830659356540647622016841194629645353280137831435903171972747493376) /\ (-2582249878086908589655919172003011874329705792829223512830659356540647622016841194629645353280137831435903171972747493376 < j /\ j < 2582249878086908589655919172003011874329705792829223512830659356540647622016841194629645353280137831435903171972747493376))) (Q (.int (i * j))) := by
  show vD (if (small64 i = true \/ small64 j = true) \/ _ then _ else _) Q = _
  rw [aX']
  congr 1
  simp [small64]
theorem m3' (a : Tx) (j : Int) : vD (iY' (.str a) (.int j)) Q = vC (j < 4611686018427387904 /\ -4611686018427387904 <= j /\ a.length * j.toNat <= 16777216) (Q (.str (List.replicate j.toNat a).flatten)) := aX'
theorem m4' (a : List D) (j : Int) : vD (iY' (.lst a) (.int j)) Q = vC (j < 4611686018427387904 /\ -4611686018427387904 <= j /\ a.length * j.toNat <= 16777216) (Q (.lst (List.replicate j.toNat a).flatten)) := aX'
theorem ne' (i j : Int) : vD (iZ' (.int i) (.int j)) Q = vC (0 < j /\ j < 1606938044258990275541962092341162602522202993782792835301376) (Q (.int (i / j))) := aX'
theorem pT' (i j : Int) : vD (kf' (.int i) (.int j)) Q = vC (0 < j) (Q (.int (i % j))) := aX'
theorem pO' (i j : Int) : vD (yB' (.int i) (.int j)) Q = vC (0 <= j /\ j <= 1000 /\ -18446744073709551616 < i /\ i < 18446744073709551616) (Q (.int (i ^ j.toNat))) := by
  show vD (if 0 <= j /\ j <= 1000 /\ small64 i = true then _ else _) Q = _
  rw [aX']
  congr 1
  simp [small64]
theorem pP' (i : Int) : vD (An' (.int i)) Q = Q (.int (-i)) := rfl
theorem qe' (i j : Int) : vD (pEq (.int i) (.int j)) Q = Q (.bl (decide (i = j))) := by
  show Q (.bl (i == j)) = _
  congr 2
theorem qd' (i j : Tx) : vD (pEq (.str i) (.str j)) Q = Q (.bl (decide (i = j))) := by
  show Q (.bl (i == j)) = _
  congr 2
  rw [Bool.eq_iff_iff]
  simp
theorem qf' (i j : Bool) : vD (pEq (.bl i) (.bl j)) Q = Q (.bl (i == j)) := rfl
theorem up' (x y : D) : vD (pEq x y) Q = vC (dat x = true /\ dat y = true /\ dep x <= 64 /\ dep y <= 64) (Q (.bl (eqb x y))) := by
  unfold pEq ob eqv
  rw [cp', aX']
theorem pR' (i j : Int) : vD (pNe (.int i) (.int j)) Q = Q (.bl (!decide (i = j))) := by
  show Q (.bl (!(i == j))) = _
  congr 3
theorem pQ' (i j : Tx) : vD (pNe (.str i) (.str j)) Q = Q (.bl (!decide (i = j))) := by
  show Q (.bl (!(i == j))) = _
  congr 3
  rw [Bool.eq_iff_iff]
  simp
theorem p6' (x : D) : vD (pIs x .non) Q = Q (.bl (e1' x)) := by cases x <;> rfl
theorem p7' (x y : Bool) : vD (pIs (.bl x) (.bl y)) Q = Q (.bl (x == y)) := rfl
theorem h4' (x : D) : vD (nG' x .non) Q = Q (.bl (!e1' x)) := by cases x <;> rfl
theorem h5' (x y : Bool) : vD (nG' (.bl x) (.bl y)) Q = Q (.bl (!(x == y))) := rfl
theorem ui' (i j : Int) : vD (pLt (.int i) (.int j)) Q = Q (.bl (decide (i < j))) := rfl
theorem uj' (i j : Int) : vD (pLe (.int i) (.int j)) Q = Q (.bl (decide (i <= j))) := rfl
theorem uk' (i j : Int) : vD (pGt (.int i) (.int j)) Q = Q (.bl (decide (j < i))) := rfl
theorem um' (i j : Int) : vD (pGe (.int i) (.int j)) Q = Q (.bl (decide (j <= i))) := rfl
theorem pW' (i j : Tx) : vD (pLt (.str i) (.str j)) Q = Q (.bl (decide (i < j))) := rfl
theorem pX' (i j : Tx) : vD (pLe (.str i) (.str j)) Q = Q (.bl (!decide (j < i))) := rfl
theorem qa' (i j : Tx) : vD (pGt (.str i) (.str j)) Q = Q (.bl (decide (j < i))) := rfl
theorem qc' (i j : Tx) : vD (pGe (.str i) (.str j)) Q = Q (.bl (!decide (i < j))) := rfl
theorem p9' (c : Nat) (s : Tx) : vD (pIn (.str [c]) (.str s)) Q = Q (.bl (decide (c ∈ s))) := rfl
theorem m0' (c : Nat) (s : Tx) : vD (eQ' (.str [c]) (.str s)) Q = Q (.bl (!decide (c ∈ s))) := rfl
theorem nu' (ns : List Int) : (ns.map D.int).all sca = true := by induction ns <;> simp_all [sca]
theorem oe' (i : Int) (ns : List Int) : ((ns.map D.int).any fun d => eqb d (.int i)) = decide (i ∈ ns) := by
  induction ns with
  | nil => rfl
  | cons n ns ih =>
    simp only [List.map_cons, List.any_cons, ih]
    rw [Bool.eq_iff_iff]
    simp [eqb]
    exact ⟨fun h => h.elim (fun e => .inl e.symm) .inr, fun h => h.elim (fun e => .inl e.symm) .inr⟩
theorem nb' (i : Int) (ns : List Int) : vD (pIn (.int i) (.tup (ns.map .int))) Q = Q (.bl (decide (i ∈ ns))) := by
  show vD (if sca (.int i) = true /\ (ns.map D.int).all sca = true then some (D.bl ((ns.map D.int).any fun d => eqb d (.int i))) else none) Q = _
  rw [nu', oe']
  rfl
theorem nc' (i : Int) (ns : List Int) : vD (pIn (.int i) (.lst (ns.map .int))) Q = Q (.bl (decide (i ∈ ns))) := by
  show vD (if sca (.int i) = true /\ (ns.map D.int).all sca = true then some (D.bl ((ns.map D.int).any fun d => eqb d (.int i))) else none) Q = _
  rw [nu', oe']
  rfl
theorem m7' (s : Tx) : vD (en' (.str s)) Q = Q (.int s.length) := rfl
theorem m8' (s : List D) : vD (en' (.lst s)) Q = Q (.int s.length) := rfl
theorem m6' (s : List D) : vD (en' (.tup s)) Q = Q (.int s.length) := rfl
theorem p0' (s : Tx) (i : Int) : vD (pIx (.str s) (.int i)) Q = vD (ati s i) (fun c => Q (.str [c])) := cp'
theorem p4' (s : List D) (i : Int) : vD (pIx (.lst s) (.int i)) Q = vD (ati s i) Q := rfl
theorem pZ' (s : List D) (i : Int) : vD (pIx (.tup s) (.int i)) Q = vD (ati s i) Q := rfl
theorem yV' {n : Nat} {i : Int} (h : 0 <= i) (h2 : i < n) : ixn n i = some i.toNat := by unfold ixn; rw [if_pos h, if_pos h2]
theorem ld' {α : Type} {xs : List α} {i : Int} (h : 0 <= i) : ati xs i = xs[i.toNat]? := by
  unfold ati ixn
  rw [if_pos h]
  split
  . rfl
  . rename_i h2
    rw [List.getElem?_eq_none (by omega)]
    rfl
theorem pJ' (s : Tx) (lo hi : Option Int) : vD (pSl (.str s) lo hi) Q = Q (.str (cut s lo hi)) := rfl
theorem pL' (s : List D) (lo hi : Option Int) : vD (pSl (.lst s) lo hi) Q = Q (.lst (cut s lo hi)) := rfl
theorem pI' (s : List D) (lo hi : Option Int) : vD (pSl (.tup s) lo hi) Q = Q (.tup (cut s lo hi)) := rfl
theorem pK' (s : List D) (lo hi : Option Int) : vD (pSl (.scr s) lo hi) Q = Q (.lst (cut s lo hi)) := rfl
theorem uY' {α : Type} {s : List α} {i : Int} (h : 0 <= i) : cut s none (some i) = s.take i.toNat := by
  unfold cut six
  simp only [if_neg (show ¬ i < 0 by omega), List.drop_zero, Nat.sub_zero]
  rcases Nat.le_total i.toNat s.length with h | h
  . rw [Nat.min_eq_left h]
  . rw [Nat.min_eq_right h, List.take_length, List.take_of_length_le h]
theorem tS' {α : Type} {s : List α} {i : Int} (h : 0 <= i) : cut s (some i) none = s.drop i.toNat := by
  unfold cut six
  simp only [if_neg (show ¬ i < 0 by omega)]
  rcases Nat.le_total i.toNat s.length with h | h
  . rw [Nat.min_eq_left h, List.take_of_length_le (by rw [List.length_drop]; omega)]
  . rw [Nat.min_eq_right h, List.drop_length, List.drop_of_length_le h, List.take_nil]
theorem mY' (s : Tx) : vD (xs' (.str s)) Q = Q (.str s.reverse) := rfl
theorem mZ' (s : List D) : vD (xs' (.lst s)) Q = Q (.lst s.reverse) := rfl
theorem sE' (l : List Tx) : d3' (l.map .str) = some l := by
  induction l with
  | nil => rfl
  | cons a l ih => simp [d3', ih]
theorem kA' : ∀ l : List Tx, cZ' [] l = l.flatten
  | [] => rfl
  | [x] => by simp [cZ']
  | x :: y :: r => by
    have := kA' (y :: r)
    simp only [cZ', this, List.flatten_cons, List.nil_append]
theorem iF' (l : List Tx) : vD (jb' [] [.lst (l.map .str)]) Q = jw' (l.map List.length).sum (Q (.str l.flatten)) := by
  show vD ((d3' (l.map .str)).bind _) Q = _
  rw [sE']
  show vD (if _ then _ else _) Q = _
  rw [aX', kA']
  simp [vC, jw']
theorem qp' : ∀ l : Tx, ((l.map fun c => [c]).map List.length).sum = l.length
  | [] => rfl
  | c :: l => by simp only [List.map_cons, List.sum_cons, qp' l, List.length_cons, List.length_nil]; omega
theorem n2' : ∀ l : Tx, (l.map fun c => [c]).flatten = l
  | [] => rfl
  | c :: l => by simp only [List.map_cons, List.flatten_cons, n2' l]; rfl
theorem j1' (l : Tx) : vD (jb' [] [.lst (l.map chD)]) Q = jw' l.length (Q (.str l)) := by
  have h := iF' (Q := Q) (l.map fun c => [c])
  rw [List.map_map, qp', n2'] at h
  exact h
theorem nd' (a b : Tx) : vD (rr' a [.str b]) Q = Q (.int (fnd (n0' a b))) := rfl
theorem j2' (a b : Tx) : vD (in' a [.str b]) Q = vD (n0' a b) (fun i => Q (.int (i : Nat))) := cp'
theorem jT' (s : Tx) : vD (uF' (.str s)) Q = vC (s.all (fun c => decide (c < 128)) = true /\ s.length <= 5592405) (Q (.str (s.map up1))) := aX'
theorem p8' (i : Int) : vD (ik' (.int i)) Q = Q (.int i) := rfl
theorem na' (b : Bool) : vD (ik' (.bl b)) Q = Q (.int (if b then 1 else 0)) := rfl
theorem qm' (i : Int) : vD (Aq' (.int i)) Q = Q (.int (if i < 0 then -i else i)) := rfl
theorem pV' (i j : Int) : vD (rb' (.int i) (.int j)) Q = Q (.int (max i j)) := by
  show Q (.int (if j > i then j else i)) = _
  congr 2
  split <;> omega
theorem pU' (i j : Int) : vD (oz' (.int i) (.int j)) Q = Q (.int (min i j)) := by
  show Q (.int (if j < i then j else i)) = _
  congr 2
  split <;> omega
theorem mT' (s : List D) : vD (bR' (.lst s)) Q = Q (.tup s) := rfl
theorem mS' (s : List D) : vD (bR' (.tup s)) Q = Q (.tup s) := rfl
theorem jY' (s : List D) : vD (d9' (.lst s)) Q = Q (.lst s) := rfl
theorem jX' (s : List D) : vD (d9' (.tup s)) Q = Q (.lst s) := rfl
theorem jU' (s : Tx) : vD (da' (.str s)) Q = vC (s.length < 64) (Q (.lst ((cA' s).map chD))) := aX'
theorem p5' (t : String) (d : D) : vD (cl' t d) Q = vD (tyn d) (fun n => Q (.bl (n == t || (n == "bool" && t == "int")))) := cp'
theorem lN' (l : List Int) : bC' (l.map .int) = some l := by
  induction l with
  | nil => rfl
  | cons a l ih => simp [bC', ih]
theorem oa' (l : List Bool) : bools (l.map .bl) = some l := by
  induction l with
  | nil => rfl
  | cons a l ih => simp [bools, ih]
theorem pG' (l : List Int) : vD (CP' (.lst (l.map .int))) Q = Q (.int l.sum) := by
  show vD ((bC' (l.map .int)).map _) Q = _
  rw [lN']
  rfl
theorem ql' (l : List Bool) : vD (CR' (.lst (l.map .bl))) Q = Q (.bl (l.all id)) := by
  show vD ((bools (l.map .bl)).map _) Q = _
  rw [oa']
  rfl
theorem qk' (l : List Bool) : vD (CQ' (.lst (l.map .bl))) Q = Q (.bl (l.any id)) := by
  show vD ((bools (l.map .bl)).map _) Q = _
  rw [oa']
  rfl
theorem mX' (s : List D) : vD (ek' (.lst s)) Y = Y s := rfl
theorem mV' (s : List D) : vD (ek' (.tup s)) Y = Y s := rfl
theorem mW' (s : Tx) : vD (ek' (.str s)) Y = Y (s.map chD) := rfl
theorem pN' (j : Int) : vD (fA' (.int j)) Y = vC (-4611686018427387904 <= j /\ j < 4611686018427387904) (Y (rgI 0 j.toNat)) := by
  show vD (if so' j = true then _ else _) Y = _
  rw [aX']
  congr 1
  simp [so']
theorem pM' (i j : Int) : vD (ra' (.int i) (.int j)) Y = vC ((-4611686018427387904 <= i /\ i < 4611686018427387904) /\ (-4611686018427387904 <= j /\ j < 4611686018427387904)) (Y (rgI i (j - i).toNat)) := by
  show vD (if so' i = true /\ so' j = true then _ else _) Y = _
  rw [aX']
  congr 1
  simp [so']
theorem mP' (a b : Tx) : vD (si' (.str a) (.str b)) Y = Y (ds' (a.map chD) (b.map chD)) := rfl
theorem mR' (a b : List D) : vD (si' (.lst a) (.lst b)) Y = Y (ds' a b) := rfl
theorem mO' (a b : List D) : vD (si' (.tup a) (.tup b)) Y = Y (ds' a b) := rfl
theorem mQ' (a : Tx) (b : List D) : vD (CG' (.str a) (.tup b)) Y = Y (ds' (a.map chD) b) := rfl
theorem qg' (a : Tx) : vD (enB (.str a)) Y = Y (lP' 0 (a.map chD)) := rfl
theorem qh' (a : List D) : vD (enB (.lst a)) Y = Y (lP' 0 a) := rfl
theorem jW' (a : List D) : vD (Al' (.lst a)) Y = Y a.reverse := rfl
theorem jV' (a : List D) : vD (Al' (.tup a)) Y = Y a.reverse := rfl
theorem m5' (j : Int) : vD (eR' (.int j)) Q = vC (RgB 0 j = true) (Q (.lst (e3' 0 j))) := aX'
theorem Aa' {a b : Int} (h1 : 0 <= a) (h2 : b <= 16777216) (h3 : a <= 16777216) (h4 : 0 <= b) : RgB a b = true := by
  unfold RgB
  simp only [Bool.and_eq_true, decide_eq_true_eq]
  omega
theorem uo' (i : Nat) (d : D) (env : List (Option O)) (w : W) {N : PSt -> Prop} : vD (gN i d ⟨env, w⟩) N = om' i env.length (N ⟨env.set i (some (.fz d)), w⟩) := aX'
theorem un' (is : List Nat) (ds : List D) (ρ : PSt) {N : PSt -> Prop} : vD (gT is (.tup ds) ρ) N = vD (gNs is ds ρ) N := rfl
theorem qb' (ρ : PSt) {N : PSt -> Prop} : vD (gNs [] [] ρ) N = N ρ := rfl
theorem ul' (i : Nat) (is : List Nat) (d : D) (ds : List D) (ρ : PSt) {N : PSt -> Prop} : vD (gNs (i :: is) (d :: ds) ρ) N = vD (gN i d ρ) (fun ρ1 => vD (gNs is ds ρ1) N) := pv'
theorem pY' (w : W) (n : Nat) (k : D) : vD (ixW w (.obj n) k) Q = vOb w[n]? (fun os => vD (ixO (.lst os) k) Q) := by
  show vD (match w[n]? with | some (.lst os) => ixO (.lst os) k | _ => none) Q = _
  rcases w[n]? with _ | ob
  . rfl
  . cases ob <;> rfl
theorem p3' (os : List O) (i : Int) : vD (ixO (.lst os) (.int i)) Q = vD (ati os i) (fun o => vD (asF o) Q) := by
  show vD (match ati os i with | some (.fz d) => some d | _ => none) Q = _
  rcases ati os i with _ | o
  . rfl
  . cases o <;> rfl
theorem qj' (d : D) : vD (asF (.fz d)) Q = Q d := rfl
theorem qi' (d : List D) {Q : List D -> Prop} : vD (asL (.lst d)) Q = Q d := rfl
theorem m9' (d k : D) : vD (ixO (.fz d) k) Q = vD (pIx d k) Q := rfl
theorem mU' (w : W) (n : Nat) (z : Int) (d : D) {N : W -> Prop} : vD (sH' w (.obj n) (.int z) d) N = vOb w[n]? (fun os => vD (ixn os.length z) (fun j => N (w.set n (.lst (os.set j (.fz d)))))) := by
  show vD (match w[n]? with | some (.lst os) => (ixn os.length z).map fun j => w.set n (.lst (os.set j (.fz d))) | _ => none) N = _
  rcases w[n]? with _ | ob
  . rfl
  . cases ob with
    | lst os => exact cp'
    | _ => rfl
theorem jZ' (os : List O) : vD (sm' (.lst os)) Q = Q (.int os.length) := rfl
theorem j0' (d : D) : vD (sm' (.fz d)) Q = vD (en' d) Q := rfl
end
structure U {α : Sort _} (a : α) : Type where
@[irreducible] def wE {α : Type} (r : Res α) (Q : α -> PSt -> Prop) (X : Exc -> PSt -> Prop) (_ : U (Q, X) := U.mk) : Prop := vE r Q X
@[irreducible] def wS (o : Out) (D : En) (_ : U D := U.mk) : Prop := vS o D
@[irreducible] def wF (r : FRes) (Q : O -> W -> Prop) (X : Exc -> W -> Prop) (_ : U (Q, X) := U.mk) : Prop := vF r Q X
@[irreducible] def wD {α : Type} (o : Option α) (Q : α -> Prop) (_ : U Q := U.mk) : Prop := vD o Q
@[irreducible] def wI (k : Bool) (A B : Prop) (_ : U (A, B) := U.mk) : Prop := vI k A B
@[irreducible] def wB (d : D) (P : Bool -> Prop) (_ : U P := U.mk) : Prop := vB d P
@[irreducible] def wT (d : D) (P : Tx -> Prop) (_ : U P := U.mk) : Prop := vT d P
@[irreducible] def wN (d : D) (P : Int -> Prop) (_ : U P := U.mk) : Prop := vN d P
@[irreducible] def wV (o : Option (Option O)) (i : Nat) (ρ : PSt) (Q : D -> PSt -> Prop) (_ : U Q := U.mk) : Prop := vV o i ρ Q
@[irreducible] def wG (o : Option (Option O)) (i : Nat) (ρ : PSt) (Q : O -> PSt -> Prop) (_ : U Q := U.mk) : Prop := vG o i ρ Q
@[irreducible] def wO (o : Option (Option O)) (Q : O -> Prop) (_ : U Q := U.mk) : Prop := vO o Q
@[irreducible] def wL (o : Option (Option O)) (Q : List O -> Prop) (_ : U Q := U.mk) : Prop := vL o Q
@[irreducible] def o2' (n : Nat) (A : Prop) (_ : U A := U.mk) : Prop := jw' n A
@[irreducible] def t3' (i n : Nat) (A : Prop) (_ : U A := U.mk) : Prop := om' i n A
@[irreducible] def wC (c : Prop) (A : Prop) (_ : U A := U.mk) : Prop := vC c A
@[irreducible] def Af' (o : Option Ob) (P : String -> List (String × O) -> Prop) (_ : U P := U.mk) : Prop := Ag' o P
@[irreducible] def wOb (o : Option Ob) (P : List O -> Prop) (_ : U P := U.mk) : Prop := vOb o P
theorem c4' {α : Type} (r : Res α) (Q : α -> PSt -> Prop) (X : Exc -> PSt -> Prop) (u : U (Q, X)) : wE r Q X u = vE r Q X := by unfold wE; rfl
theorem ef' (o : Out) (D : En) (u : U D) : wS o D u = vS o D := by unfold wS; rfl
theorem eh' (r : FRes) (Q : O -> W -> Prop) (X : Exc -> W -> Prop) (u : U (Q, X)) : wF r Q X u = vF r Q X := by unfold wF; rfl
theorem ar' {α : Type} (o : Option α) (Q : α -> Prop) (u : U Q) : wD o Q u = vD o Q := by unfold wD; rfl
theorem fn' (k : Bool) (A B : Prop) (u : U (A, B)) : wI k A B u = vI k A B := by unfold wI; rfl
theorem fo' (d : D) (P : Bool -> Prop) (u : U P) : wB d P u = vB d P := by unfold wB; rfl
theorem fj' (d : D) (P : Tx -> Prop) (u : U P) : wT d P u = vT d P := by unfold wT; rfl
theorem fl' (d : D) (P : Int -> Prop) (u : U P) : wN d P u = vN d P := by unfold wN; rfl
theorem ee' (o : Option (Option O)) (i : Nat) (ρ : PSt) (Q : D -> PSt -> Prop) (u : U Q) : wV o i ρ Q u = vV o i ρ Q := by unfold wV; rfl
theorem eg' (o : Option (Option O)) (i : Nat) (ρ : PSt) (Q : O -> PSt -> Prop) (u : U Q) : wG o i ρ Q u = vG o i ρ Q := by unfold wG; rfl
theorem fk' (o : Option (Option O)) (Q : O -> Prop) (u : U Q) : wO o Q u = vO o Q := by unfold wO; rfl
theorem fm' (o : Option (Option O)) (Q : List O -> Prop) (u : U Q) : wL o Q u = vL o Q := by unfold wL; rfl
theorem cc' (n : Nat) (A : Prop) (u : U A) : o2' n A u = jw' n A := by unfold o2'; rfl
theorem b6' (i n : Nat) (A : Prop) (u : U A) : t3' i n A u = om' i n A := by unfold t3'; rfl
theorem d0' (c : Prop) (A : Prop) (u : U A) : wC c A u = vC c A := by unfold wC; rfl
theorem cx' (o : Option Ob) (P : List O -> Prop) (u : U P) : wOb o P u = vOb o P := by unfold wOb; rfl
theorem bV' (o : Option Ob) (P : String -> List (String × O) -> Prop) (u : U P) : Af' o P u = Ag' o P := by unfold Af'; rfl
local macro_rules | `(tactic| walk_at "z") => `(tactic| simp only [c4', ef', eh', ar', fn', fo', fj', fl', ee', eg', fk', fm', cc', b6', d0', cx', bV'] at *)
section
variable {α β : Type} {Q : α -> PSt -> Prop} {X : Exc -> PSt -> Prop} {ρ : PSt} {P : D -> PSt -> Prop} {D0 : En}
theorem a8' (z : α) {Q : α -> Prop} : wD (some z) Q = Q z := by walk_at "z"; first | exact jM' .. | (apply jM' <;> assumption)
theorem AZ' (k : Bool) {Q : Bool -> Prop} : wB (.bl k) Q = Q k := by walk_at "z"; first | exact px' .. | (apply px' <;> assumption)
theorem xn' (A B : Prop) : wI true A B = A := by walk_at "z"; first | exact uf' .. | (apply uf' <;> assumption)
theorem xT' (A B : Prop) : wI false A B = B := by walk_at "z"; first | exact ug' .. | (apply ug' <;> assumption)
theorem xS' (k : Bool) (A B : Prop) : wI (!k) A B = wI k B A := by walk_at "z"; first | exact mD' .. | (apply mD' <;> assumption)
theorem x_C (d : D) : wE (eC d ρ) P X = P d ρ := by walk_at "z"; first | exact x0' .. | (apply x0' <;> assumption)
theorem x_V (i : Nat) (env : List (Option O)) (w : W) : wE (eV i ⟨env, w⟩) P X = wV env[i]? i ⟨env, w⟩ P := by walk_at "z"; first | exact xY' .. | (apply xY' <;> assumption)
theorem AR' (d : D) (i : Nat) (ρ : PSt) : wV (some (some (.fz d))) i ρ P = P d ρ := by walk_at "z"; first | exact pq' .. | (apply pq' <;> assumption)
theorem xM' (os : List O) (i : Nat) (env : List (Option O)) (w : W) : wV (some (some (.lst os))) i ⟨env, w⟩ P = P (.lst (frzs os)) ⟨env.set i (some (.fz (.lst (frzs os)))), w⟩ := by walk_at "z"; first | exact my' .. | (apply my' <;> assumption)
theorem xL' (os : List O) (i : Nat) (env : List (Option O)) (w : W) : wV (some (some (.tup os))) i ⟨env, w⟩ P = P (.tup (frzs os)) ⟨env.set i (some (.fz (.tup (frzs os)))), w⟩ := by walk_at "z"; first | exact mx' .. | (apply mx' <;> assumption)
theorem xN' (ks : List D) (os : List O) (i : Nat) (env : List (Option O)) (w : W) : wV (some (some (.dct ks os))) i ⟨env, w⟩ P = P (.dct ks (frzs os)) ⟨env.set i (some (.fz (.dct ks (frzs os)))), w⟩ := by walk_at "z"; first | exact mz' .. | (apply mz' <;> assumption)
theorem AV' (d : D) (i : Nat) (ρ : PSt) {P : O -> PSt -> Prop} : wG (some (some (.fz d))) i ρ P = P (.fz d) ρ := by walk_at "z"; first | exact pt' .. | (apply pt' <;> assumption)
theorem xV' (os : List O) (i : Nat) (env : List (Option O)) (w : W) {P : O -> PSt -> Prop} : wG (some (some (.lst os))) i ⟨env, w⟩ P = P (.lst os) ⟨env.set i none, w⟩ := by walk_at "z"; first | exact mG' .. | (apply mG' <;> assumption)
theorem xU' (os : List O) (i : Nat) (env : List (Option O)) (w : W) {P : O -> PSt -> Prop} : wG (some (some (.tup os))) i ⟨env, w⟩ P = P (.tup os) ⟨env.set i none, w⟩ := by walk_at "z"; first | exact mF' .. | (apply mF' <;> assumption)
theorem xW' (ks : List D) (os : List O) (i : Nat) (env : List (Option O)) (w : W) {P : O -> PSt -> Prop} : wG (some (some (.dct ks os))) i ⟨env, w⟩ P = P (.dct ks os) ⟨env.set i none, w⟩ := by walk_at "z"; first | exact mH' .. | (apply mH' <;> assumption)
theorem vf' (o : O) {P : O -> Prop} : wO (some (some o)) P = P o := by walk_at "z"; first | exact jK' .. | (apply jK' <;> assumption)
theorem xQ' (os : List O) {P : List O -> Prop} : wL (some (some (.lst os))) P = P os := by walk_at "z"; first | exact mC' .. | (apply mC' <;> assumption)
theorem C9' (f : D -> D -> Option D) (a b : ME) : wE (eOp f a b ρ) P X = wE (a ρ) (fun x ρ1 => wE (b ρ1) (fun y ρ2 => wD (f x y) (fun z => P z ρ2)) X) X := by walk_at "z"; first | exact ub' .. | (apply ub' <;> assumption)
theorem C6' (f : D -> Option D) (a : ME) : wE (eUn f a ρ) P X = wE (a ρ) (fun x ρ1 => wD (f x) (fun z => P z ρ1)) X := by walk_at "z"; first | exact t8' .. | (apply t8' <;> assumption)
theorem AP' (a b : ME) : wE (wI' a b ρ) P X = wE (a ρ) (fun x ρ1 => wB x fun k => wI k (wE (b ρ1) P X) (P (.bl false) ρ1)) X := by walk_at "z"; first | exact pp' .. | (apply pp' <;> assumption)
theorem AE' (a : ME) : wE (zf' a ρ) P X = wE (a ρ) (fun x ρ1 => wB x fun k => P (.bl (!k)) ρ1) X := by walk_at "z"; first | exact pi' .. | (apply pi' <;> assumption)
theorem va' (f g : D -> D -> Option D) (a b c : ME) : wE (he' f g a b c ρ) P X = wE (a ρ) (fun x ρ1 => wE (b ρ1) (fun y ρ2 => wD (f x y) fun r => wB r fun k => wI k (wE (c ρ2) (fun z ρ3 => wD (g y z) fun v => P v ρ3) X) (P (.bl false) ρ2)) X) X := by walk_at "z"; first | exact jH' .. | (apply jH' <;> assumption)
theorem AF' {P : List D -> PSt -> Prop} : wE (ba' ρ) P X = P [] ρ := by walk_at "z"; first | exact pj' .. | (apply pj' <;> assumption)
theorem xI' (a : ME) (r : MA) {P : List D -> PSt -> Prop} : wE (ad' a r ρ) P X = wE (a ρ) (fun x ρ1 => wE (r ρ1) (fun xs ρ2 => P (x :: xs) ρ2) X) X := by walk_at "z"; first | exact mv' .. | (apply mv' <;> assumption)
theorem pb' {n : Nat} (h : n <= 16777216) (A : Prop) : o2' n A = A := by walk_at "z"; first | exact jL' .. | (apply jL' <;> assumption)
theorem AC' (as : MA) : wE (o6' as ρ) P X = wE (as ρ) (fun xs ρ1 => o2' xs.length (P (.tup xs) ρ1)) X := by walk_at "z"; first | exact pg' .. | (apply pg' <;> assumption)
theorem AG' (as : MA) : wE (lk' as ρ) P X = wE (as ρ) (fun xs ρ1 => o2' xs.length (P (.lst xs) ρ1)) X := by walk_at "z"; first | exact pk' .. | (apply pk' <;> assumption)
theorem Db' (f : Tx -> List D -> Option D) (a : ME) (as : MA) : wE (eMt f a as ρ) P X = wE (a ρ) (fun x ρ1 => wT x fun s => wE (as ρ1) (fun ds ρ2 => wD (f s ds) fun z => P z ρ2) X) X := by walk_at "z"; first | exact ud' .. | (apply ud' <;> assumption)
theorem xO' (s : Tx) {P : Tx -> Prop} : wT (.str s) P = P s := by walk_at "z"; first | exact mA' .. | (apply mA' <;> assumption)
theorem xP' (s : Int) {P : Int -> Prop} : wN (.int s) P = P s := by walk_at "z"; first | exact mB' .. | (apply mB' <;> assumption)
theorem Da' {P : Option Int -> PSt -> Prop} : wE (pNo ρ) P X = P none ρ := by walk_at "z"; first | exact uc' .. | (apply uc' <;> assumption)
theorem C7' (a : ME) {P : Option Int -> PSt -> Prop} : wE (pSo a ρ) P X = wE (a ρ) (fun x ρ1 => wN x fun i => P (some i) ρ1) X := by walk_at "z"; first | exact t9' .. | (apply t9' <;> assumption)
theorem C8' (a : ME) (lo hi : MP) : wE (eSl a lo hi ρ) P X = wE (a ρ) (fun x ρ1 => wE (lo ρ1) (fun l ρ2 => wE (hi ρ2) (fun h ρ3 => wD (pSl x l h) fun z => P z ρ3) X) X) X := by walk_at "z"; first | exact ua' .. | (apply ua' <;> assumption)
theorem x_O (a : MO) : wE (eO a ρ) P X = wE (a ρ) (fun o ρ1 => P (frz o) ρ1) X := by walk_at "z"; first | exact xZ' .. | (apply xZ' <;> assumption)
variable {R : O -> PSt -> Prop}
theorem C5' (a : ME) : wE (oE a ρ) R X = wE (a ρ) (fun d ρ1 => R (.fz d) ρ1) X := by walk_at "z"; first | exact t7' .. | (apply t7' <;> assumption)
theorem C4' (i : Nat) (env : List (Option O)) (w : W) : wE (oV i ⟨env, w⟩) R X = wG env[i]? i ⟨env, w⟩ R := by walk_at "z"; first | exact t6' .. | (apply t6' <;> assumption)
theorem xJ' (f : MF) (as : MA) : wE (aM' f as ρ) R X = wE (as ρ) (fun ds ρ1 => wF (f ds ρ1.w) (fun o w => R o ⟨ρ1.env, w⟩) fun x w => X x ⟨ρ1.env, w⟩) X := by walk_at "z"; first | exact mw' .. | (apply mw' <;> assumption)
theorem xC' (a : ME) : wE (lj' a ρ) R X = wE (a ρ) (fun d ρ1 => wD (asL d) fun ds => R (.lst (ds.map .fz)) ρ1) X := by walk_at "z"; first | exact mp' .. | (apply mp' <;> assumption)
theorem u6' : wE (go' ρ) R X = R (.dct [] []) ρ := by walk_at "z"; first | exact jF' .. | (apply jF' <;> assumption)
theorem u8' (i : Nat) (a : ME) (env : List (Option O)) (w : W) : wE (kI' i a ⟨env, w⟩) P X = wL env[i]? fun _ => wE (a ⟨env, w⟩) (fun d ρ1 => wN d fun z => wL ρ1.env[i]? fun os => o2' os.length (wD (ixn os.length z) fun j => wD os[j]? fun o => wD (asF o) fun y => P y ⟨ρ1.env.set i (some (.lst (os.eraseIdx j))), ρ1.w⟩)) X := by walk_at "z"; first | exact jG' .. | (apply jG' <;> assumption)
theorem AI' (i : Nat) (b : ME) (env : List (Option O)) (w : W) : wE (wG' i b ⟨env, w⟩) P X = wO env[i]? fun _ => wE (b ⟨env, w⟩) (fun k ρ1 => wO ρ1.env[i]? fun o => wD (ixO o k) fun z => P z ρ1) X := by walk_at "z"; first | exact pm' .. | (apply pm' <;> assumption)
theorem su' (i : Nat) (a : ME) : wE (fJ' i a ρ) P X = wE (a ρ) (fun x ρ1 => wO ρ1.env[i]? fun o => wD (rh' (inO x o)) fun z => P z ρ1) X := by walk_at "z"; first | exact h0' .. | (apply h0' <;> assumption)
theorem xH' (i : Nat) : wE (ex' i ρ) P X = wO ρ.env[i]? fun o => wD (sm' o) fun z => P z ρ := by walk_at "z"; first | exact mu' .. | (apply mu' <;> assumption)
theorem AH' (a b : ME) : wE (jA' a b ρ) P X = wE (a ρ) (fun x ρ1 => wE (b ρ1) (fun y ρ2 => wD (ixW ρ2.w x y) fun z => P z ρ2) X) X := by walk_at "z"; first | exact pl' .. | (apply pl' <;> assumption)
theorem AD' (as : MA) : wE (yH' as ρ) R X = wE (as ρ) (fun xs ρ1 => o2' xs.length (R (.fz (.obj ρ1.w.length)) ⟨ρ1.env, ρ1.w ++ [.lst (xs.map .fz)]⟩)) X := by walk_at "z"; first | exact ph' .. | (apply ph' <;> assumption)
theorem AL' (cs : List String) (a : ME) (f : String) : wE (ey' cs a f ρ) P X = wE (a ρ) (fun x ρ1 => wD (hd' cs f ρ1.w x) fun z => P z ρ1) X := by walk_at "z"; first | exact pn' .. | (apply pn' <;> assumption)
theorem xG' (C : String) (init : MF) (as : MA) : wE (kn' C init as ρ) R X = wE (as ρ) (fun ds ρ1 => wF (init (.obj ρ1.w.length :: ds) (ρ1.w ++ [.ins C []])) (fun o w => o = .fz .non /\ R (.fz (.obj ρ1.w.length)) ⟨ρ1.env, w⟩) fun x w => X x ⟨ρ1.env, w⟩) X := by walk_at "z"; first | exact mt' .. | (apply mt' <;> assumption)
theorem xF' (C : List String) (m : String) (f : MF) (a : ME) (as : MA) : wE (fC' C m f a as ρ) R X = wE (a ρ) (fun x ρ1 => jg' C m ρ1.w x = true /\ wE (as ρ1) (fun ds ρ2 => wF (f (x :: ds) ρ2.w) (fun o w => R o ⟨ρ2.env, w⟩) fun x w => X x ⟨ρ2.env, w⟩) X) X := by walk_at "z"; first | exact ms' .. | (apply ms' <;> assumption)
theorem AJ' (i : Nat) (t : ET) (c : String) (x : Exc) : wE (tA' i t c x ρ) P X = vX ρ.env[i]? (x.fs = [] /\ wD (sub t x.cls c) fun b => P (.bl b) ρ) := by simp only [c4', ef', eh', ar', fn', fo', fj', fl', ee', eg', fk', fm', cc', b6', d0', cx', bV']; exact vk' ..
variable {B : Bool -> PSt -> Prop}
theorem C3' (a : ME) : wE (tE a ρ) B X = wE (a ρ) (fun d ρ1 => wB d fun k => B k ρ1) X := by walk_at "z"; first | exact t5' .. | (apply t5' <;> assumption)
theorem xA' (a : MT) : wE (gx' a ρ) B X = wE (a ρ) (fun k ρ1 => B (!k) ρ1) X := by walk_at "z"; first | exact mn' .. | (apply mn' <;> assumption)
theorem xB' (a b : MT) : wE (us' a b ρ) B X = wE (a ρ) (fun k ρ1 => wI k (wE (b ρ1) B X) (B false ρ1)) X := by walk_at "z"; first | exact mo' .. | (apply mo' <;> assumption)
theorem Az' (a b : MT) : wE (tOr a b ρ) B X = wE (a ρ) (fun k ρ1 => wI k (B true ρ1) (wE (b ρ1) B X)) X := by walk_at "z"; first | exact pc' .. | (apply pc' <;> assumption)
theorem C2' : wE (tT ρ) B X = B true ρ := by walk_at "z"; first | exact t4' .. | (apply t4' <;> assumption)
variable {Y : List D -> PSt -> Prop}
theorem xE' (a : ME) : wE (do' a ρ) Y X = wE (a ρ) (fun d ρ1 => wD (ek' d) fun z => Y z ρ1) X := by walk_at "z"; first | exact mr' .. | (apply mr' <;> assumption)
theorem o8' (a : ME) : wE (bY' a ρ) Y X = wE (a ρ) (fun d ρ1 => wD (fA' d) fun z => Y z ρ1) X := by walk_at "z"; first | exact gI' .. | (apply gI' <;> assumption)
theorem xD' (a b : ME) : wE (y4' a b ρ) Y X = wE (a ρ) (fun d ρ1 => wE (b ρ1) (fun e ρ2 => wD (si' d e) fun z => Y z ρ2) X) X := by walk_at "z"; first | exact mq' .. | (apply mq' <;> assumption)
theorem Dc' (own : List Nat) (it : MI) (g : MG) (t : MT) (e : ME) : wE (eLc own it g t e ρ) P X = wE (it ρ) (fun xs ρ1 => wE (lcL own g t e xs [] ρ1) (fun ys ρ2 => P (.lst ys) ⟨back ρ1.env own (aD' own ρ2.env), ρ2.w⟩) X) X := by walk_at "z"; first | exact ue' .. | (apply ue' <;> assumption)
theorem AA' (own : List Nat) (it : MI) (g : MG) (t : MT) (e : ME) : wE (oLc own it g t e ρ) R X = wE (it ρ) (fun xs ρ1 => wE (lcL own g t e xs [] ρ1) (fun ys ρ2 => R (.lst (ys.map .fz)) ⟨back ρ1.env own (aD' own ρ2.env), ρ2.w⟩) X) X := by walk_at "z"; first | exact pd' .. | (apply pd' <;> assumption)
variable {N : PSt -> Prop} {rt : O -> W -> Prop} {bk ct : PSt -> Prop} {ex : Exc -> PSt -> Prop}
theorem yc' : wS (bq' ρ) ⟨N, rt, bk, ct, ex⟩ = N ρ := by walk_at "z"; first | exact mK' .. | (apply mK' <;> assumption)
theorem vN' : wS (nv' ρ) ⟨N, rt, bk, ct, ex⟩ = bk ρ := by walk_at "z"; first | exact jR' .. | (apply jR' <;> assumption)
theorem yd' (a : ME) : wS (hO' a ρ) ⟨N, rt, bk, ct, ex⟩ = wE (a ρ) (fun _ ρ1 => N ρ1) ex := by walk_at "z"; first | exact mL' .. | (apply mL' <;> assumption)
theorem A6' (a : MO) : wS (ch' a ρ) ⟨N, rt, bk, ct, ex⟩ = wE (a ρ) (fun o ρ1 => rt o ρ1.w) ex := by walk_at "z"; first | exact pA' .. | (apply pA' <;> assumption)
theorem A5' (a b : MS) : wS (aw' a b ρ) ⟨N, rt, bk, ct, ex⟩ = wS (a ρ) ⟨fun ρ1 => wS (b ρ1) ⟨N, rt, bk, ct, ex⟩, rt, bk, ct, ex⟩ := by walk_at "z"; first | exact lm' .. | (apply lm' <;> assumption)
theorem Df' (t : MT) (a b : MS) : wS (sIf t a b ρ) ⟨N, rt, bk, ct, ex⟩ = wE (t ρ) (fun k ρ1 => wI k (wS (a ρ1) ⟨N, rt, bk, ct, ex⟩) (wS (b ρ1) ⟨N, rt, bk, ct, ex⟩)) ex := by walk_at "z"; first | exact uh' .. | (apply uh' <;> assumption)
theorem vd' {i n : Nat} (h : i < n) (A : Prop) : t3' i n A = A := by walk_at "z"; first | exact jI' .. | (apply jI' <;> assumption)
theorem A4' (i : Nat) (a : MO) : wS (bh' i a ρ) ⟨N, rt, bk, ct, ex⟩ = wE (a ρ) (fun o ρ1 => t3' i ρ1.env.length (N ⟨ρ1.env.set i (some o), ρ1.w⟩)) ex := by walk_at "z"; first | exact pz' .. | (apply pz' <;> assumption)
theorem Bb' (g : MG) (a : ME) : wS (xp' g a ρ) ⟨N, rt, bk, ct, ex⟩ = wE (a ρ) (fun d ρ1 => wD (g d ρ1) N) ex := by walk_at "z"; first | exact pE' .. | (apply pE' <;> assumption)
theorem Ba' (f : D -> D -> Option D) (i : Nat) (a : ME) : wS (xo' f i a ρ) ⟨N, rt, bk, ct, ex⟩ = wO ρ.env[i]? fun o => wD (asF o) fun d => wE (a ρ) (fun y ρ1 => wD (f d y) fun z => t3' i ρ1.env.length (N ⟨ρ1.env.set i (some (.fz z)), ρ1.w⟩)) ex := by walk_at "z"; first | exact pD' .. | (apply pD' <;> assumption)
theorem vM' (x : String) : wS (ka' x ρ) ⟨N, rt, bk, ct, ex⟩ = ex ⟨x, []⟩ ρ := by walk_at "z"; first | exact jQ' .. | (apply jQ' <;> assumption)
theorem Bc' (i : Nat) (a : MO) : wS (ou' i a ρ) ⟨N, rt, bk, ct, ex⟩ = wL ρ.env[i]? fun _ => wE (a ρ) (fun o ρ1 => wL ρ1.env[i]? fun os => t3' os.length 16777216 (N ⟨ρ1.env.set i (some (.lst (os ++ [o]))), ρ1.w⟩)) ex := by walk_at "z"; first | exact pF' .. | (apply pF' <;> assumption)
theorem yb' (o k a : ME) : wS (iT' o k a ρ) ⟨N, rt, bk, ct, ex⟩ = wE (a ρ) (fun d ρ1 => wE (o ρ1) (fun x ρ2 => wE (k ρ2) (fun y ρ3 => wD (sH' ρ3.w x y d) fun w => N ⟨ρ3.env, w⟩) ex) ex) ex := by walk_at "z"; first | exact mJ' .. | (apply mJ' <;> assumption)
theorem sP' (w : W) (b : Ob) (n : Nat) : Dd' w b (.obj n) = w.set n b := rfl
theorem A8' (cs : List String) (a : ME) (f : String) (v : MO) : wS (sFld cs a f v ρ) ⟨N, rt, bk, ct, ex⟩ = wE (v ρ) (fun o ρ1 => wE (a ρ1) (fun x ρ2 => wD (stF cs f o ρ2.w x) fun w => N ⟨ρ2.env, w⟩) ex) ex := by walk_at "z"; first | exact pC' .. | (apply pC' <;> assumption)
theorem A7' (it : MI) (g : MG) (b : MS) : wS (fg' it g b ρ) ⟨N, rt, bk, ct, ex⟩ = wE (it ρ) (fun ds ρ1 => wS (n1' g b ds ρ1) ⟨N, rt, bk, ct, ex⟩) ex := by walk_at "z"; first | exact pB' .. | (apply pB' <;> assumption)
theorem vK' (n : Nat) (t : MT) (b : MS) : wS (ib' n t b ρ) ⟨N, rt, bk, ct, ex⟩ = wS (d5' t b n ρ) ⟨N, rt, bk, ct, ex⟩ := by walk_at "z"; first | exact jP' .. | (apply jP' <;> assumption)
theorem vL' (i m : Nat) (b : MS) (g : String -> Option Bool) (h : Exc -> MS) : wS (ic' i m b g h ρ) ⟨N, rt, bk, ct, ex⟩ = wS (b ρ) ⟨N, rt, bk, ct, fun x ρ1 => wD (g x.cls) fun k => wI k (wC (ρ1.env.length = i + m + 1) (wS (h x ⟨ρ1.env.set i (some .exn), ρ1.w⟩) ⟨fun ρ => wC (ρ.env.length = i + m + 1) (N ⟨ρ.env.set i none, ρ.w⟩), rt, fun ρ => wC (ρ.env.length = i + m + 1) (bk ⟨ρ.env.set i none, ρ.w⟩), fun ρ => wC (ρ.env.length = i + m + 1) (ct ⟨ρ.env.set i none, ρ.w⟩), fun _ _ => False⟩)) (ex x ρ1)⟩ := by simp only [c4', ef', eh', ar', fn', fo', fj', fl', ee', eg', fk', fm', cc', b6', d0', cx', bV']; exact py' ..
theorem yF' {k n : Nat} {b : MS} {ds : List D} {w : W} {Q : O -> W -> Prop} {X : Exc -> W -> Prop} (q : wS (b ⟨ds.map (fun d => some (.fz d)) ++ List.replicate (n - k) none, w⟩) ⟨fun ρ => Q (.fz .non) ρ.w, Q, fun _ => False, fun _ => False, fun x ρ => X x ρ.w⟩) (h : ds.length = k) : wF (fnM k n b ds w) Q X := by walk_at "z"; first | exact mM' .. | (apply mM' <;> assumption)
theorem AY' (o : O) (w : W) {Q : O -> W -> Prop} {X : Exc -> W -> Prop} : wF (.ok o w) Q X = Q o w := by walk_at "z"; first | exact pu' .. | (apply pu' <;> assumption)
theorem xX' (x : Exc) (w : W) {Q : O -> W -> Prop} {X : Exc -> W -> Prop} : wF (.exc x w) Q X = X x w := by walk_at "z"; first | exact mI' .. | (apply mI' <;> assumption)
theorem wF.mono {r : FRes} {Q Q' : O -> W -> Prop} {X : Exc -> W -> Prop} (h : wF r Q FX) (k : ∀ o w, Q o w -> Q' o w) : wF r Q' X := by walk_at "z"; first | exact vF.mono .. | (apply vF.mono <;> assumption)
theorem wF.monoX {r : FRes} {Q Q' : O -> W -> Prop} {X X' : Exc -> W -> Prop} (h : wF r Q X) (k : ∀ o w, Q o w -> Q' o w) (k2 : ∀ x w, X x w -> X' x w) : wF r Q' X' := by walk_at "z"; first | exact vF.monoX .. | (apply vF.monoX <;> assumption)
theorem wF.exi {r : FRes} {Q : O -> W -> Prop} (h : wF r Q FX) : ∃ o w, r = .ok o w /\ Q o w := by walk_at "z"; first | exact vF.exi .. | (apply vF.exi <;> assumption)
theorem wF.of {r : FRes} {Q : O -> W -> Prop} {X : Exc -> W -> Prop} {o : O} {w : W} (e : r = .ok o w) (h : Q o w) : wF r Q X := by walk_at "z"; first | exact vF.of .. | (apply vF.of <;> assumption)
theorem wS.mono {o : Out} {D1 D2 : En} (h : wS o D1) (h1 : ∀ ρ, D1.nx ρ -> D2.nx ρ) (h2 : ∀ o w, D1.rt o w -> D2.rt o w) (h3 : ∀ ρ, D1.bk ρ -> D2.bk ρ) (h4 : ∀ ρ, D1.ct ρ -> D2.ct ρ) (h5 : ∀ x ρ, D1.ex x ρ -> D2.ex x ρ) : wS o D2 := by walk_at "z"; first | exact vS.mono .. | (apply vS.mono <;> assumption)
theorem wE.mono {r : Res α} {Q Q' : α -> PSt -> Prop} {X X' : Exc -> PSt -> Prop} (h : wE r Q X) (k : ∀ a ρ, Q a ρ -> Q' a ρ) (k2 : ∀ x ρ, X x ρ -> X' x ρ) : wE r Q' X' := by walk_at "z"; first | exact vE.mono .. | (apply vE.mono <;> assumption)
theorem qz' {a b : MS} (J : PSt -> Prop) (h : wS (a ρ) ⟨J, rt, bk, ct, ex⟩) (k : ∀ ρ1, J ρ1 -> wS (b ρ1) ⟨N, rt, bk, ct, ex⟩) : wS (aw' a b ρ) ⟨N, rt, bk, ct, ex⟩ := by walk_at "z"; first | exact jO' .. | (apply jO' <;> assumption)
theorem bl' {p : Prop} [Decidable p] {A B : Prop} (h1 : p -> A) (h2 : ¬ p -> B) : wI (decide p) A B := by walk_at "z"; first | exact mE' .. | (apply mE' <;> assumption)
theorem bG' {γ : Type} {g : MG} {b : MS} {f : γ -> D} {cs : List γ} (Inv : List γ -> PSt -> Prop) (h0 : Inv [] ρ)
    (step : ∀ pre c post ρ, cs = pre ++ c :: post -> Inv pre ρ -> wD (g (f c) ρ) fun ρ1 => wS (b ρ1) ⟨Inv (pre ++ [c]), rt, N, Inv (pre ++ [c]), ex⟩)
    (hend : ∀ ρ, Inv cs ρ -> N ρ) : wS (n1' g b (cs.map f) ρ) ⟨N, rt, bk, ct, ex⟩ := by walk_at "z"; first | exact gK' .. | (apply gK' <;> assumption)
theorem ev' {g : MG} {b : MS} {lo : Int} {n : Nat} (Inv : Nat -> PSt -> Prop) (h0 : Inv 0 ρ)
    (step : ∀ k ρ, k < n -> Inv k ρ -> wD (g (.int (lo + (k : Nat))) ρ) fun ρ1 => wS (b ρ1) ⟨Inv (k + 1), rt, N, Inv (k + 1), ex⟩)
    (hend : ∀ ρ, Inv n ρ -> N ρ) : wS (n1' g b (rgI lo n) ρ) ⟨N, rt, bk, ct, ex⟩ := by walk_at "z"; first | exact jS' .. | (apply jS' <;> assumption)
theorem gH' {t : MT} {b : MS} {n : Nat} (Inv : Nat -> PSt -> Prop) (m : Nat) (hm : m < n) (h0 : Inv m ρ)
    (step : ∀ m ρ, Inv m ρ -> wE (t ρ) (fun k ρ1 => wI k (wS (b ρ1) ⟨fun ρ2 => ∃ m', m' < m /\ Inv m' ρ2, rt, N, fun ρ2 => ∃ m', m' < m /\ Inv m' ρ2, ex⟩) (N ρ1)) ex) :
    wS (d5' t b n ρ) ⟨N, rt, bk, ct, ex⟩ := by walk_at "z"; first | exact gJ' .. | (apply gJ' <;> assumption)
theorem ga' {own : List Nat} {g : MG} {t : MT} {e : ME} {γ : Type} {f : γ -> D} {cs : List γ} {Q : List D -> PSt -> Prop} (hl : cs.length <= 16777216) (Inv : List γ -> List D -> PSt -> Prop) (h0 : Inv [] [] ρ)
    (step : ∀ pre c post acc ρ, cs = pre ++ c :: post -> Inv pre acc ρ -> wD (g (f c) ⟨aD' own ρ.env, ρ.w⟩) fun ρ1 => wE (t ρ1) (fun k ρ2 => wI k (wE (e ρ2) (fun y ρ3 => Inv (pre ++ [c]) (acc ++ [y]) ρ3) PX) (Inv (pre ++ [c]) acc ρ2)) PX)
    (hend : ∀ acc ρ, Inv cs acc ρ -> Q acc ρ) : wE (lcL own g t e (cs.map f) [] ρ) Q X := by walk_at "z"; first | exact mN' .. | (apply mN' <;> assumption)
end
theorem vg' (C : String) (fs : List (String × O)) {P : String -> List (String × O) -> Prop} : Af' (some (.ins C fs)) P = P C fs := by simp only [bV']; exact pr' ..
theorem BI' (cs : List String) (f : String) (o : O) (w : W) (n : Nat) {N : W -> Prop} : wD (stF cs f o w (.obj n)) N = Af' w[n]? (fun C fs => wC (C ∈ cs /\ fs.length < 1000) (N (w.set n (.ins C (q4' f o fs))))) := by simp only [ar', bV', d0']; exact vu' ..
theorem sz' (w : W) (n : Nat) {Q : List O -> Prop} : vD (CV' w (.obj n)) Q = vOb w[n]? Q := by
  show vD (match w[n]? with | some (.lst os) => some os | _ => none) Q = _
  rcases w[n]? with _ | b
  . rfl
  cases b <;> rfl
theorem zG' (w : W) (n : Nat) {Q : List O -> Prop} : wD (CV' w (.obj n)) Q = wOb w[n]? Q := by simp only [c4', ef', eh', ar', cx']; exact sz' w n
theorem sA' (w : W) (n : Nat) {Q : D -> Prop} : vD (CW' w (.obj n)) Q = vOb w[n]? fun os => Q (.int os.length) := by
  show vD (match w[n]? with | some (.lst os) => some (.int os.length) | _ => none) Q = _
  rcases w[n]? with _ | b
  . rfl
  cases b <;> rfl
theorem zJ' (w : W) (n : Nat) {Q : D -> Prop} : wD (CW' w (.obj n)) Q = wOb w[n]? fun os => Q (.int os.length) := by simp only [c4', ef', eh', ar', cx']; exact sA' w n
theorem ve' (os : List O) {P : List O -> Prop} : wOb (some (.lst os)) P = P os := by walk_at "z"; first | exact jJ' .. | (apply jJ' <;> assumption)
theorem iE' {c : Prop} (h : c) (A : Prop) : wC c A = A := by walk_at "z"; first | exact pw' .. | (apply pw' <;> assumption)
theorem vi' (A : Prop) : wC True A = A := by walk_at "z"; first | exact jN' .. | (apply jN' <;> assumption)
theorem d6' {α : Type} {c : Prop} [Decidable c] {x : α} {Q : α -> Prop} : wD (if c then some x else none) Q = wC c (Q x) := by walk_at "z"; first | exact aX' .. | (apply aX' <;> assumption)
theorem mm' {α β : Type} {f : α -> β} {o : Option α} {Q : β -> Prop} : wD (o.map f) Q = wD o (fun a => Q (f a)) := by walk_at "z"; first | exact cp' .. | (apply cp' <;> assumption)
section
variable {Q : D -> Prop} {Y : List D -> Prop}
theorem zX' (i j : Int) : wD (cV' (.int i) (.int j)) Q = Q (.int (i + j)) := by walk_at "z"; first | exact ni' .. | (apply ni' <;> assumption)
theorem zW' (a b : Tx) : wD (cV' (.str a) (.str b)) Q = o2' (a.length + b.length) (Q (.str (a ++ b))) := by walk_at "z"; first | exact ng' .. | (apply ng' <;> assumption)
theorem uX' (a b : List D) : wD (cV' (.lst a) (.lst b)) Q = o2' (a.length + b.length) (Q (.lst (a ++ b))) := by walk_at "z"; first | exact nh' .. | (apply nh' <;> assumption)
theorem zV' (a b : List D) : wD (cV' (.tup a) (.tup b)) Q = o2' (a.length + b.length) (Q (.tup (a ++ b))) := by walk_at "z"; first | exact nf' .. | (apply nf' <;> assumption)
theorem xd' (i j : Int) : wD (s7' (.int i) (.int j)) Q = Q (.int (i + j)) := by walk_at "z"; first | exact j3' .. | (apply j3' <;> assumption)
theorem BG' (i j : Int) : wD (uG' (.int i) (.int j)) Q = Q (.int (i - j)) := by walk_at "z"; first | exact pH' .. | (apply pH' <;> assumption)
theorem BX' (i j : Int) : wD (iY' (.int i) (.int j)) Q = wC (((-18446744073709551616 < i /\ i < 18446744073709551616) \/ (-18446744073709551616 < j /\ j < 18446744073709551616)) \/ ((-2582249878086908589655919172003011874329705792829223512830659356540647622016841194629645353280137831435903171972747493376 < i /\ i < 2582249878086908589655919172003011874329705792829223512830659356540647622016841194629645353280137831435903171972747493376) /\ (-2582249878086908589655919172003011874329705792829223512830659356540647622016841194629645353280137831435903171972747493376 < j /\ j < 2582249878086908589655919172003011874329705792829223512830659356540647622016841194629645353280137831435903171972747493376))) (Q (.int (i * j))) := by walk_at "z"; first | exact pS' .. | (apply pS' <;> assumption)
theorem zD' (a : Tx) (j : Int) : wD (iY' (.str a) (.int j)) Q = wC (j < 4611686018427387904 /\ -4611686018427387904 <= j /\ a.length * j.toNat <= 16777216) (Q (.str (List.replicate j.toNat a).flatten)) := by walk_at "z"; first | exact m3' .. | (apply m3' <;> assumption)
theorem zE' (a : List D) (j : Int) : wD (iY' (.lst a) (.int j)) Q = wC (j < 4611686018427387904 /\ -4611686018427387904 <= j /\ a.length * j.toNat <= 16777216) (Q (.lst (List.replicate j.toNat a).flatten)) := by walk_at "z"; first | exact m4' .. | (apply m4' <;> assumption)
theorem zU' (i j : Int) : wD (iZ' (.int i) (.int j)) Q = wC (0 < j /\ j < 1606938044258990275541962092341162602522202993782792835301376) (Q (.int (i / j))) := by walk_at "z"; first | exact ne' .. | (apply ne' <;> assumption)
theorem BY' (i j : Int) : wD (kf' (.int i) (.int j)) Q = wC (0 < j) (Q (.int (i % j))) := by walk_at "z"; first | exact pT' .. | (apply pT' <;> assumption)
theorem BR' (i j : Int) : wD (yB' (.int i) (.int j)) Q = wC (0 <= j /\ j <= 1000 /\ -18446744073709551616 < i /\ i < 18446744073709551616) (Q (.int (i ^ j.toNat))) := by walk_at "z"; first | exact pO' .. | (apply pO' <;> assumption)
theorem BS' (i : Int) : wD (An' (.int i)) Q = Q (.int (-i)) := by walk_at "z"; first | exact pP' .. | (apply pP' <;> assumption)
theorem Ck' (i j : Int) : wD (pEq (.int i) (.int j)) Q = Q (.bl (decide (i = j))) := by walk_at "z"; first | exact qe' .. | (apply qe' <;> assumption)
theorem Ci' (i j : Tx) : wD (pEq (.str i) (.str j)) Q = Q (.bl (decide (i = j))) := by walk_at "z"; first | exact qd' .. | (apply qd' <;> assumption)
theorem Cl' (i j : Bool) : wD (pEq (.bl i) (.bl j)) Q = Q (.bl (i == j)) := by walk_at "z"; first | exact qf' .. | (apply qf' <;> assumption)
theorem DF' (x y : D) : wD (pEq x y) Q = wC (dat x = true /\ dat y = true /\ dep x <= 64 /\ dep y <= 64) (Q (.bl (eqb x y))) := by walk_at "z"; first | exact up' .. | (apply up' <;> assumption)
theorem BV' (i j : Int) : wD (pNe (.int i) (.int j)) Q = Q (.bl (!decide (i = j))) := by walk_at "z"; first | exact pR' .. | (apply pR' <;> assumption)
theorem BT' (i j : Tx) : wD (pNe (.str i) (.str j)) Q = Q (.bl (!decide (i = j))) := by walk_at "z"; first | exact pQ' .. | (apply pQ' <;> assumption)
theorem B8' (x : D) : wD (pIs x .non) Q = Q (.bl (e1' x)) := by walk_at "z"; first | exact p6' .. | (apply p6' <;> assumption)
theorem B9' (x y : Bool) : wD (pIs (.bl x) (.bl y)) Q = Q (.bl (x == y)) := by walk_at "z"; first | exact p7' .. | (apply p7' <;> assumption)
theorem tL' (x : D) : wD (nG' x .non) Q = Q (.bl (!e1' x)) := by walk_at "z"; first | exact h4' .. | (apply h4' <;> assumption)
theorem tM' (x y : Bool) : wD (nG' (.bl x) (.bl y)) Q = Q (.bl (!(x == y))) := by walk_at "z"; first | exact h5' .. | (apply h5' <;> assumption)
theorem Dx' (i j : Int) : wD (pLt (.int i) (.int j)) Q = Q (.bl (decide (i < j))) := by walk_at "z"; first | exact ui' .. | (apply ui' <;> assumption)
theorem Dy' (i j : Int) : wD (pLe (.int i) (.int j)) Q = Q (.bl (decide (i <= j))) := by walk_at "z"; first | exact uj' .. | (apply uj' <;> assumption)
theorem Dz' (i j : Int) : wD (pGt (.int i) (.int j)) Q = Q (.bl (decide (j < i))) := by walk_at "z"; first | exact uk' .. | (apply uk' <;> assumption)
theorem DB' (i j : Int) : wD (pGe (.int i) (.int j)) Q = Q (.bl (decide (j <= i))) := by walk_at "z"; first | exact um' .. | (apply um' <;> assumption)
theorem B1' (i j : Tx) : wD (pLt (.str i) (.str j)) Q = Q (.bl (decide (i < j))) := by walk_at "z"; first | exact pW' .. | (apply pW' <;> assumption)
theorem B2' (i j : Tx) : wD (pLe (.str i) (.str j)) Q = Q (.bl (!decide (j < i))) := by walk_at "z"; first | exact pX' .. | (apply pX' <;> assumption)
theorem Cc' (i j : Tx) : wD (pGt (.str i) (.str j)) Q = Q (.bl (decide (j < i))) := by walk_at "z"; first | exact qa' .. | (apply qa' <;> assumption)
theorem Ce' (i j : Tx) : wD (pGe (.str i) (.str j)) Q = Q (.bl (!decide (i < j))) := by walk_at "z"; first | exact qc' .. | (apply qc' <;> assumption)
theorem Cb' (c : Nat) (s : Tx) : wD (pIn (.str [c]) (.str s)) Q = Q (.bl (decide (c ∈ s))) := by walk_at "z"; first | exact p9' .. | (apply p9' <;> assumption)
theorem zB' (c : Nat) (s : Tx) : wD (eQ' (.str [c]) (.str s)) Q = Q (.bl (!decide (c ∈ s))) := by walk_at "z"; first | exact m0' .. | (apply m0' <;> assumption)
theorem uW' (i : Int) (ns : List Int) : wD (pIn (.int i) (.tup (ns.map .int))) Q = Q (.bl (decide (i ∈ ns))) := by walk_at "z"; first | exact nb' .. | (apply nb' <;> assumption)
theorem rX' (i : Int) (ns : List Int) : wD (pIn (.int i) (.lst (ns.map .int))) Q = Q (.bl (decide (i ∈ ns))) := by walk_at "z"; first | exact nc' .. | (apply nc' <;> assumption)
theorem zK' (s : Tx) : wD (en' (.str s)) Q = Q (.int s.length) := by walk_at "z"; first | exact m7' .. | (apply m7' <;> assumption)
theorem zM' (s : List D) : wD (en' (.lst s)) Q = Q (.int s.length) := by walk_at "z"; first | exact m8' .. | (apply m8' <;> assumption)
theorem n8' (s : List D) : wD (en' (.tup s)) Q = Q (.int s.length) := by walk_at "z"; first | exact m6' .. | (apply m6' <;> assumption)
theorem B4' (s : Tx) (i : Int) : wD (pIx (.str s) (.int i)) Q = wD (ati s i) (fun c => Q (.str [c])) := by walk_at "z"; first | exact p0' .. | (apply p0' <;> assumption)
theorem B7' (s : List D) (i : Int) : wD (pIx (.lst s) (.int i)) Q = wD (ati s i) Q := by walk_at "z"; first | exact p4' .. | (apply p4' <;> assumption)
theorem w7' (s : List D) (i : Int) : wD (pIx (.tup s) (.int i)) Q = wD (ati s i) Q := by walk_at "z"; first | exact pZ' .. | (apply pZ' <;> assumption)
theorem BK' (s : Tx) (lo hi : Option Int) : wD (pSl (.str s) lo hi) Q = Q (.str (cut s lo hi)) := by walk_at "z"; first | exact pJ' .. | (apply pJ' <;> assumption)
theorem BM' (s : List D) (lo hi : Option Int) : wD (pSl (.lst s) lo hi) Q = Q (.lst (cut s lo hi)) := by walk_at "z"; first | exact pL' .. | (apply pL' <;> assumption)
theorem BJ' (s : List D) (lo hi : Option Int) : wD (pSl (.tup s) lo hi) Q = Q (.tup (cut s lo hi)) := by walk_at "z"; first | exact pI' .. | (apply pI' <;> assumption)
theorem BL' (s : List D) (lo hi : Option Int) : wD (pSl (.scr s) lo hi) Q = Q (.lst (cut s lo hi)) := by walk_at "z"; first | exact pK' .. | (apply pK' <;> assumption)
theorem zx' (s : Tx) : wD (xs' (.str s)) Q = Q (.str s.reverse) := by walk_at "z"; first | exact mY' .. | (apply mY' <;> assumption)
theorem zy' (s : List D) : wD (xs' (.lst s)) Q = Q (.lst s.reverse) := by walk_at "z"; first | exact mZ' .. | (apply mZ' <;> assumption)
theorem zO' (l : List Tx) : wD (jb' [] [.lst (l.map .str)]) Q = o2' (l.map List.length).sum (Q (.str l.flatten)) := by walk_at "z"; first | exact iF' .. | (apply iF' <;> assumption)
theorem w5' (l : Tx) : wD (jb' [] [.lst (l.map chD)]) Q = o2' l.length (Q (.str l)) := by walk_at "z"; first | exact j1' .. | (apply j1' <;> assumption)
theorem zT' (a b : Tx) : wD (rr' a [.str b]) Q = Q (.int (fnd (n0' a b))) := by walk_at "z"; first | exact nd' .. | (apply nd' <;> assumption)
theorem xa' (a b : Tx) : wD (in' a [.str b]) Q = wD (n0' a b) (fun i => Q (.int (i : Nat))) := by walk_at "z"; first | exact j2' .. | (apply j2' <;> assumption)
theorem wN' (s : Tx) : wD (uF' (.str s)) Q = wC (s.all (fun c => decide (c < 128)) = true /\ s.length <= 5592405) (Q (.str (s.map up1))) := by walk_at "z"; first | exact jT' .. | (apply jT' <;> assumption)
theorem Ca' (i : Int) : wD (ik' (.int i)) Q = Q (.int i) := by walk_at "z"; first | exact p8' .. | (apply p8' <;> assumption)
theorem zR' (b : Bool) : wD (ik' (.bl b)) Q = Q (.int (if b then 1 else 0)) := by walk_at "z"; first | exact na' .. | (apply na' <;> assumption)
theorem Ct' (i : Int) : wD (Aq' (.int i)) Q = Q (.int (if i < 0 then -i else i)) := by walk_at "z"; first | exact qm' .. | (apply qm' <;> assumption)
theorem B0' (i j : Int) : wD (rb' (.int i) (.int j)) Q = Q (.int (max i j)) := by walk_at "z"; first | exact pV' .. | (apply pV' <;> assumption)
theorem BZ' (i j : Int) : wD (oz' (.int i) (.int j)) Q = Q (.int (min i j)) := by walk_at "z"; first | exact pU' .. | (apply pU' <;> assumption)
theorem zs' (s : List D) : wD (bR' (.lst s)) Q = Q (.tup s) := by walk_at "z"; first | exact mT' .. | (apply mT' <;> assumption)
theorem zq' (s : List D) : wD (bR' (.tup s)) Q = Q (.tup s) := by walk_at "z"; first | exact mS' .. | (apply mS' <;> assumption)
theorem wZ' (s : List D) : wD (d9' (.lst s)) Q = Q (.lst s) := by walk_at "z"; first | exact jY' .. | (apply jY' <;> assumption)
theorem wX' (s : List D) : wD (d9' (.tup s)) Q = Q (.lst s) := by walk_at "z"; first | exact jX' .. | (apply jX' <;> assumption)
theorem wQ' (s : Tx) : wD (da' (.str s)) Q = wC (s.length < 64) (Q (.lst ((cA' s).map chD))) := by walk_at "z"; first | exact jU' .. | (apply jU' <;> assumption)
theorem br' (t : String) (d : D) : wD (cl' t d) Q = wD (tyn d) (fun n => Q (.bl (n == t || (n == "bool" && t == "int")))) := by walk_at "z"; first | exact p5' .. | (apply p5' <;> assumption)
theorem BF' (l : List Int) : wD (CP' (.lst (l.map .int))) Q = Q (.int l.sum) := by walk_at "z"; first | exact pG' .. | (apply pG' <;> assumption)
theorem Cs' (l : List Bool) : wD (CR' (.lst (l.map .bl))) Q = Q (.bl (l.all id)) := by walk_at "z"; first | exact ql' .. | (apply ql' <;> assumption)
theorem Cr' (l : List Bool) : wD (CQ' (.lst (l.map .bl))) Q = Q (.bl (l.any id)) := by walk_at "z"; first | exact qk' .. | (apply qk' <;> assumption)
theorem zw' (s : List D) : wD (ek' (.lst s)) Y = Y s := by walk_at "z"; first | exact mX' .. | (apply mX' <;> assumption)
theorem n6' (s : List D) : wD (ek' (.tup s)) Y = Y s := by walk_at "z"; first | exact mV' .. | (apply mV' <;> assumption)
theorem zu' (s : Tx) : wD (ek' (.str s)) Y = Y (s.map chD) := by walk_at "z"; first | exact mW' .. | (apply mW' <;> assumption)
theorem BQ' (j : Int) : wD (fA' (.int j)) Y = wC (-4611686018427387904 <= j /\ j < 4611686018427387904) (Y (rgI 0 j.toNat)) := by walk_at "z"; first | exact pN' .. | (apply pN' <;> assumption)
theorem BP' (i j : Int) : wD (ra' (.int i) (.int j)) Y = wC ((-4611686018427387904 <= i /\ i < 4611686018427387904) /\ (-4611686018427387904 <= j /\ j < 4611686018427387904)) (Y (rgI i (j - i).toNat)) := by walk_at "z"; first | exact pM' .. | (apply pM' <;> assumption)
theorem zl' (a b : Tx) : wD (si' (.str a) (.str b)) Y = Y (ds' (a.map chD) (b.map chD)) := by walk_at "z"; first | exact mP' .. | (apply mP' <;> assumption)
theorem zo' (a b : List D) : wD (si' (.lst a) (.lst b)) Y = Y (ds' a b) := by walk_at "z"; first | exact mR' .. | (apply mR' <;> assumption)
theorem zk' (a b : List D) : wD (si' (.tup a) (.tup b)) Y = Y (ds' a b) := by walk_at "z"; first | exact mO' .. | (apply mO' <;> assumption)
theorem zn' (a : Tx) (b : List D) : wD (CG' (.str a) (.tup b)) Y = Y (ds' (a.map chD) b) := by walk_at "z"; first | exact mQ' .. | (apply mQ' <;> assumption)
theorem Cm' (a : Tx) : wD (enB (.str a)) Y = Y (lP' 0 (a.map chD)) := by walk_at "z"; first | exact qg' .. | (apply qg' <;> assumption)
theorem Cn' (a : List D) : wD (enB (.lst a)) Y = Y (lP' 0 a) := by walk_at "z"; first | exact qh' .. | (apply qh' <;> assumption)
theorem wV' (a : List D) : wD (Al' (.lst a)) Y = Y a.reverse := by walk_at "z"; first | exact jW' .. | (apply jW' <;> assumption)
theorem wU' (a : List D) : wD (Al' (.tup a)) Y = Y a.reverse := by walk_at "z"; first | exact jV' .. | (apply jV' <;> assumption)
theorem zH' (j : Int) : wD (eR' (.int j)) Q = wC (RgB 0 j = true) (Q (.lst (e3' 0 j))) := by walk_at "z"; first | exact m5' .. | (apply m5' <;> assumption)
theorem DD' (i : Nat) (d : D) (env : List (Option O)) (w : W) {N : PSt -> Prop} : wD (gN i d ⟨env, w⟩) N = t3' i env.length (N ⟨env.set i (some (.fz d)), w⟩) := by walk_at "z"; first | exact uo' .. | (apply uo' <;> assumption)
theorem DC' (is : List Nat) (ds : List D) (ρ : PSt) {N : PSt -> Prop} : wD (gT is (.tup ds) ρ) N = wD (gNs is ds ρ) N := by walk_at "z"; first | exact un' .. | (apply un' <;> assumption)
theorem Cd' (ρ : PSt) {N : PSt -> Prop} : wD (gNs [] [] ρ) N = N ρ := by walk_at "z"; first | exact qb' .. | (apply qb' <;> assumption)
theorem DA' (i : Nat) (is : List Nat) (d : D) (ds : List D) (ρ : PSt) {N : PSt -> Prop} : wD (gNs (i :: is) (d :: ds) ρ) N = wD (gN i d ρ) (fun ρ1 => wD (gNs is ds ρ1) N) := by walk_at "z"; first | exact ul' .. | (apply ul' <;> assumption)
theorem B3' (w : W) (n : Nat) (k : D) : wD (ixW w (.obj n) k) Q = wOb w[n]? (fun os => wD (ixO (.lst os) k) Q) := by walk_at "z"; first | exact pY' .. | (apply pY' <;> assumption)
theorem B5' (os : List O) (i : Int) : wD (ixO (.lst os) (.int i)) Q = wD (ati os i) (fun o => wD (asF o) Q) := by walk_at "z"; first | exact p3' .. | (apply p3' <;> assumption)
theorem Cq' (d : D) : wD (asF (.fz d)) Q = Q d := by walk_at "z"; first | exact qj' .. | (apply qj' <;> assumption)
theorem Cp' (d : List D) {Q : List D -> Prop} : wD (asL (.lst d)) Q = Q d := by walk_at "z"; first | exact qi' .. | (apply qi' <;> assumption)
theorem zP' (d k : D) : wD (ixO (.fz d) k) Q = wD (pIx d k) Q := by walk_at "z"; first | exact m9' .. | (apply m9' <;> assumption)
theorem zt' (w : W) (n : Nat) (z : Int) (d : D) {N : W -> Prop} : wD (sH' w (.obj n) (.int z) d) N = wOb w[n]? (fun os => wD (ixn os.length z) (fun j => N (w.set n (.lst (os.set j (.fz d)))))) := by walk_at "z"; first | exact mU' .. | (apply mU' <;> assumption)
theorem w2' (os : List O) : wD (sm' (.lst os)) Q = Q (.int os.length) := by walk_at "z"; first | exact jZ' .. | (apply jZ' <;> assumption)
theorem w3' (d : D) : wD (sm' (.fz d)) Q = wD (en' d) Q := by walk_at "z"; first | exact j0' .. | (apply j0' <;> assumption)
end
theorem l0'  {Q : D -> Prop} : wD (cl' "int" .non) Q = Q (.bl false) := by rw [br', ar']; rfl
theorem oO' (a : Bool) {Q : D -> Prop} : wD (cl' "int" (.bl a)) Q = Q (.bl true) := by rw [br', ar']; rfl
theorem l2' (a : Int) {Q : D -> Prop} : wD (cl' "int" (.int a)) Q = Q (.bl true) := by rw [br', ar']; rfl
theorem lZ' (a : Tx) {Q : D -> Prop} : wD (cl' "int" (.str a)) Q = Q (.bl false) := by rw [br', ar']; rfl
theorem lY' (a : List D) {Q : D -> Prop} : wD (cl' "int" (.tup a)) Q = Q (.bl false) := by rw [br', ar']; rfl
theorem l1' (a : List D) {Q : D -> Prop} : wD (cl' "int" (.lst a)) Q = Q (.bl false) := by rw [br', ar']; rfl
theorem l3' (a b : List D) {Q : D -> Prop} : wD (cl' "int" (.dct a b)) Q = Q (.bl false) := by rw [br', ar']; rfl
theorem k1'  {Q : D -> Prop} : wD (cl' "bool" .non) Q = Q (.bl false) := by rw [br', ar']; rfl
theorem l5' (a : Bool) {Q : D -> Prop} : wD (cl' "bool" (.bl a)) Q = Q (.bl true) := by rw [br', ar']; rfl
theorem k4' (a : Int) {Q : D -> Prop} : wD (cl' "bool" (.int a)) Q = Q (.bl false) := by rw [br', ar']; rfl
theorem k0' (a : Tx) {Q : D -> Prop} : wD (cl' "bool" (.str a)) Q = Q (.bl false) := by rw [br', ar']; rfl
theorem kZ' (a : List D) {Q : D -> Prop} : wD (cl' "bool" (.tup a)) Q = Q (.bl false) := by rw [br', ar']; rfl
theorem k3' (a : List D) {Q : D -> Prop} : wD (cl' "bool" (.lst a)) Q = Q (.bl false) := by rw [br', ar']; rfl
theorem k5' (a b : List D) {Q : D -> Prop} : wD (cl' "bool" (.dct a b)) Q = Q (.bl false) := by rw [br', ar']; rfl
theorem lT'  {Q : D -> Prop} : wD (cl' "str" .non) Q = Q (.bl false) := by rw [br', ar']; rfl
theorem oN' (a : Bool) {Q : D -> Prop} : wD (cl' "str" (.bl a)) Q = Q (.bl false) := by rw [br', ar']; rfl
theorem lV' (a : Int) {Q : D -> Prop} : wD (cl' "str" (.int a)) Q = Q (.bl false) := by rw [br', ar']; rfl
theorem lS' (a : Tx) {Q : D -> Prop} : wD (cl' "str" (.str a)) Q = Q (.bl true) := by rw [br', ar']; rfl
theorem lR' (a : List D) {Q : D -> Prop} : wD (cl' "str" (.tup a)) Q = Q (.bl false) := by rw [br', ar']; rfl
theorem lU' (a : List D) {Q : D -> Prop} : wD (cl' "str" (.lst a)) Q = Q (.bl false) := by rw [br', ar']; rfl
theorem lW' (a b : List D) {Q : D -> Prop} : wD (cl' "str" (.dct a b)) Q = Q (.bl false) := by rw [br', ar']; rfl
theorem jo'  {Q : D -> Prop} : wD (cl' "tuple" .non) Q = Q (.bl false) := by rw [br', ar']; rfl
theorem kM' (a : Bool) {Q : D -> Prop} : wD (cl' "tuple" (.bl a)) Q = Q (.bl false) := by rw [br', ar']; rfl
theorem jq' (a : Int) {Q : D -> Prop} : wD (cl' "tuple" (.int a)) Q = Q (.bl false) := by rw [br', ar']; rfl
theorem jn' (a : Tx) {Q : D -> Prop} : wD (cl' "tuple" (.str a)) Q = Q (.bl false) := by rw [br', ar']; rfl
theorem jm' (a : List D) {Q : D -> Prop} : wD (cl' "tuple" (.tup a)) Q = Q (.bl true) := by rw [br', ar']; rfl
theorem jp' (a : List D) {Q : D -> Prop} : wD (cl' "tuple" (.lst a)) Q = Q (.bl false) := by rw [br', ar']; rfl
theorem jr' (a b : List D) {Q : D -> Prop} : wD (cl' "tuple" (.dct a b)) Q = Q (.bl false) := by rw [br', ar']; rfl
theorem kP'  {Q : D -> Prop} : wD (cl' "list" .non) Q = Q (.bl false) := by rw [br', ar']; rfl
theorem lX' (a : Bool) {Q : D -> Prop} : wD (cl' "list" (.bl a)) Q = Q (.bl false) := by rw [br', ar']; rfl
theorem kR' (a : Int) {Q : D -> Prop} : wD (cl' "list" (.int a)) Q = Q (.bl false) := by rw [br', ar']; rfl
theorem kO' (a : Tx) {Q : D -> Prop} : wD (cl' "list" (.str a)) Q = Q (.bl false) := by rw [br', ar']; rfl
theorem kN' (a : List D) {Q : D -> Prop} : wD (cl' "list" (.tup a)) Q = Q (.bl false) := by rw [br', ar']; rfl
theorem kQ' (a : List D) {Q : D -> Prop} : wD (cl' "list" (.lst a)) Q = Q (.bl true) := by rw [br', ar']; rfl
theorem kS' (a b : List D) {Q : D -> Prop} : wD (cl' "list" (.dct a b)) Q = Q (.bl false) := by rw [br', ar']; rfl
theorem kV'  {Q : D -> Prop} : wD (cl' "dict" .non) Q = Q (.bl false) := by rw [br', ar']; rfl
theorem l4' (a : Bool) {Q : D -> Prop} : wD (cl' "dict" (.bl a)) Q = Q (.bl false) := by rw [br', ar']; rfl
theorem kX' (a : Int) {Q : D -> Prop} : wD (cl' "dict" (.int a)) Q = Q (.bl false) := by rw [br', ar']; rfl
theorem kU' (a : Tx) {Q : D -> Prop} : wD (cl' "dict" (.str a)) Q = Q (.bl false) := by rw [br', ar']; rfl
theorem kT' (a : List D) {Q : D -> Prop} : wD (cl' "dict" (.tup a)) Q = Q (.bl false) := by rw [br', ar']; rfl
theorem kW' (a : List D) {Q : D -> Prop} : wD (cl' "dict" (.lst a)) Q = Q (.bl false) := by rw [br', ar']; rfl
theorem kY' (a b : List D) {Q : D -> Prop} : wD (cl' "dict" (.dct a b)) Q = Q (.bl true) := by rw [br', ar']; rfl
theorem n9' (l : List Int) (v : Int) {Q : D -> Prop} : wD (rq' (l.map .int) [.int v]) Q = wC (v ∈ l) (Q (.int (l.idxOf v : Nat))) := by
  show wD ((bC' (l.map .int)).bind fun ns => if v ∈ ns then some (D.int ((ns.idxOf v : Nat) : Int)) else none) Q = _
  rw [lN', Option.bind_some, d6']
theorem xR' {p : Prop} [Decidable p] (h : p) (A B : Prop) : wI (decide p) A B = A := by rw [decide_eq_true h]; exact xn' A B
theorem AU' {p : Prop} [Decidable p] (h : ¬ p) (A B : Prop) : wI (decide p) A B = B := by rw [decide_eq_false h]; exact xT' A B
theorem Aw' {b : Bool} (h : b = true) : O.fz (.bl true) = O.fz (.bl b) := by rw [h]
theorem Ax' {b : Bool} (h : b = false) : O.fz (.bl false) = O.fz (.bl b) := by rw [h]
theorem xj' {α β : Type} (f : α -> β) (l : List α) (i : Int) : ati (l.map f) i = (ati l i).map f := by
  unfold ati
  rw [List.length_map]
  cases ixn l.length i with
  | none => rfl
  | some j => simp
theorem bI' {α : Type} {xs : List α} {i : Nat} {Q : α -> Prop} (h : i < xs.length) (k : ∀ x, x ∈ xs -> xs[i]? = some x -> Q x) : wD xs[i]? Q := by
  rw [List.getElem?_eq_getElem h, a8']
  exact k _ (List.getElem_mem h) (List.getElem?_eq_getElem h)
theorem bu' {α : Type} {l : List α} {i : Nat} {x : α} (h : l[i]? = some x) : i < l.length := (List.getElem?_eq_some_iff.mp h).1
def But (n : Nat) (w w' : W) : Prop := w'.length = w.length /\ ∀ j, j ≠ n -> w'[j]? = w[j]?
theorem But.refl {n : Nat} {w : W} : But n w w := ⟨rfl, fun _ _ => rfl⟩
theorem But.trans {n : Nat} {w w1 w2 : W} (a : But n w w1) (b : But n w1 w2) : But n w w2 := ⟨b.1.trans a.1, fun j h => (b.2 j h).trans (a.2 j h)⟩
theorem But.set {n : Nat} {w w1 : W} {o : Ob} (a : But n w w1) : But n w (w1.set n o) := ⟨by rw [List.length_set]; exact a.1, fun j h => by rw [List.getElem?_set_ne (Ne.symm h)]; exact a.2 j h⟩
theorem tn1 (d : Nat) : ((d : Int) + 1).toNat = d + 1 := rfl
theorem z7' (l : List D) (d : D) : l.map O.fz ++ [O.fz d] = (l ++ [d]).map O.fz := by simp
theorem wD' (l : List D) : frz (.lst (l.map .fz)) = .lst l := by simp [frz]
theorem vh' {k : Bool} {A B : Prop} (h1 : k = true -> A) (h2 : k = false -> B) : wI k A B := by
  cases k
  . rw [xT']; exact h2 rfl
  . rw [xn']; exact h1 rfl
theorem eF' {k : Bool} {a b : Out} {N bk ct : PSt -> Prop} {rt : O -> W -> Prop} {ex : Exc -> PSt -> Prop} (J : PSt -> Prop) (h : wI k (wS a ⟨J, rt, bk, ct, ex⟩) (wS b ⟨J, rt, bk, ct, ex⟩)) (hk : ∀ ρ, J ρ -> N ρ) : wI k (wS a ⟨N, rt, bk, ct, ex⟩) (wS b ⟨N, rt, bk, ct, ex⟩) := by
  cases k
  . rw [xT'] at *
    exact wS.mono h hk (fun _ _ h => h) (fun _ h => h) (fun _ h => h) (fun _ _ h => h)
  . rw [xn'] at *
    exact wS.mono h hk (fun _ _ h => h) (fun _ h => h) (fun _ h => h) (fun _ _ h => h)
def cR' (w : W) (n : Nat) : Prop := ∃ (cells : List Int) (i b s c : Int), w[n]? = some (.lst [.fz (.lst (cells.map .int)), .fz (.int i), .fz (.int b), .fz (.int s), .fz (.int c)]) /\ 0 <= i
theorem xK' (A : Prop) : vX (some (some .exn)) A = A := rfl
end M
namespace M
mutual
theorem n3' : ∀ (d : D), dat d = true -> eqb d d = true
  | .non, _ => rfl
  | .bl b, _ => by simp [eqb]
  | .int i, _ => by simp [eqb]
  | .str s, _ => by simp [eqb]
  | .tup ds, h => by simp only [eqb]; exact eqbs_refl ds (by simpa [dat] using h)
  | .lst ds, h => by simp only [eqb]; exact eqbs_refl ds (by simpa [dat] using h)
theorem eqbs_refl : ∀ (ds : List D), dats ds = true -> eqbs ds ds = true
  | [], _ => rfl
  | d :: r, h => by
    simp only [dats, Bool.and_eq_true] at h
    simp only [eqbs, n3' d h.1, eqbs_refl r h.2, Bool.and_self]
end
theorem tO' (x : D) (h : dat x = true) (h2 : dep x <= 64) {Q : D -> Prop} : wD (pEq x x) Q = Q (.bl true) := by
  rw [DF', iE' ⟨h, h, h2, h2⟩, n3' x h]
def cF' (r : List Nat) : D := .tup (r.map fun t => .int (t : Nat))
def cy' (T : List (List Nat)) : D := .tup (T.map cF')
def dg' (A : List Nat) : D := .tup (A.map fun a => .int (a : Nat))
def bi' (T : List (List Nat)) (size many : Nat) : Prop := T.length = size /\ ∀ r ∈ T, r.length = many /\ ∀ t ∈ r, t < size
abbrev abc : Tx := [97, 98, 99, 100, 101, 102, 103, 104, 105, 106, 107, 108, 109, 110, 111, 112, 113, 114, 115, 116, 117, 118, 119, 120, 121, 122]
theorem rl' {c : Nat} : c ∈ abc ↔ 97 <= c /\ c <= 122 := by
  simp only [List.mem_cons, List.not_mem_nil, or_false]
  omega
structure LetOk (L : Tx) (most : Nat) : Prop where
  ne : 1 <= L.length
  le : L.length <= most
  asc : L.Pairwise (· < ·)
  abc : ∀ c ∈ L, 97 <= c /\ c <= 122
structure AccOk (A : List Nat) (size : Nat) : Prop where
  asc : A.Pairwise (· < ·)
  lt : ∀ a ∈ A, a < size
structure MacOk (L : Tx) (T : List (List Nat)) (A : List Nat) (most states : Nat) : Prop where
  let' : LetOk L most
  tab : bi' T T.length L.length
  ne : 1 <= T.length
  le : T.length <= states
  acc : AccOk A T.length
theorem w6' (T : List (List Nat)) (s : Nat) {Q : D -> Prop} : wD (pIx (cy' T) (.int (s : Nat))) Q = wD T[s]? (fun r => Q (cF' r)) := by
  unfold cy'
  rw [w7', ld' (by omega), List.getElem?_map, mm', Int.toNat_natCast]
theorem w8' (r : List Nat) (s : Nat) {Q : D -> Prop} : wD (pIx (cF' r) (.int (s : Nat))) Q = wD r[s]? (fun t => Q (.int (t : Nat))) := by
  unfold cF'
  rw [w7', ld' (by omega), List.getElem?_map, mm', Int.toNat_natCast]
theorem rY' (A : List Nat) (s : Nat) {Q : D -> Prop} : wD (pIn (.int (s : Nat)) (dg' A)) Q = Q (.bl (decide (s ∈ A))) := by
  unfold dg'
  have := uW' (Q := Q) (s : Int) (A.map (Nat.cast : Nat -> Int))
  rw [List.map_map] at this
  rw [show (A.map fun a => D.int (a : Nat)) = A.map (D.int ∘ (Nat.cast : Nat -> Int)) from rfl, this]
  congr 2
  simp only [List.mem_map, decide_eq_decide]
  constructor
  . rintro ⟨a, h, e⟩
    have : a = s := by omega
    exact this ▸ h
  . exact fun h => ⟨s, h, rfl⟩
theorem tI' (T : List (List Nat)) {Q : D -> Prop} : wD (en' (cy' T)) Q = Q (.int T.length) := by
  unfold cy'
  rw [n8', List.length_map]
theorem tJ' (T : List Nat) {Q : D -> Prop} : wD (en' (cF' T)) Q = Q (.int T.length) := by
  unfold cF'
  rw [n8', List.length_map]
theorem tK' (T : List Nat) {Q : D -> Prop} : wD (en' (dg' T)) Q = Q (.int T.length) := by
  unfold dg'
  rw [n8', List.length_map]
theorem nY' (v : Nat) : ∀ l : List Nat, (l.map (Nat.cast : Nat -> Int)).idxOf (v : Int) = l.idxOf v
  | [] => rfl
  | a :: l => by
    simp only [List.map_cons, List.idxOf_cons, nY' v l]
    have : ((a : Int) == (v : Int)) = (a == v) := by rw [Bool.eq_iff_iff]; simp; omega
    rw [this]
theorem tN' (l : List Nat) (v : Nat) {Q : D -> Prop} : wD (rq' (l.map fun s => .int (s : Nat)) [.int (v : Nat)]) Q = wC (v ∈ l) (Q (.int (l.idxOf v : Nat))) := by
  have h := n9' (Q := Q) (l.map (Nat.cast : Nat -> Int)) (v : Int)
  rw [List.map_map, nY'] at h
  rw [show (l.map fun s => D.int (s : Nat)) = l.map (D.int ∘ (Nat.cast : Nat -> Int)) from rfl, h]
  congr 1
  simp only [List.mem_map]
  rw [eq_iff_iff]
  constructor
  . rintro ⟨a, h, e⟩
    have : a = v := by omega
    exact this ▸ h
  . exact fun h => ⟨v, h, rfl⟩
theorem tw' (i : Nat) : fnd (some i) = (i : Int) := rfl
theorem nX' (a : Tx) (c : Nat) (i : Nat) : uP' a [c] i = decide (a[i]? = some c) := by
  unfold uP'
  rw [Bool.eq_iff_iff]
  simp only [Bool.and_eq_true, decide_eq_true_eq, List.length_cons, List.length_nil]
  constructor
  . rintro ⟨h1, h2⟩
    rw [List.take_one, List.head?_drop] at h2
    revert h2
    cases a[i]? <;> simp
  . intro h
    have := (List.getElem?_eq_some_iff.mp h).1
    refine ⟨by omega, ?_⟩
    rw [List.take_one, List.head?_drop, h]
    rfl
theorem jl' {a : Tx} {c : Nat} (h : c ∈ a) : n0' a [c] = some (a.idxOf c) := by
  unfold n0'
  rw [List.find?_range_eq_some]
  have hi : a.idxOf c < a.length := List.idxOf_lt_length_iff.mpr h
  refine ⟨?_, by simp; omega, ?_⟩
  . rw [nX', decide_eq_true_iff, List.getElem?_eq_getElem hi, List.getElem_idxOf]
  . intro j hj
    rw [nX']
    simp only [Bool.not_eq_eq_eq_not, Bool.not_true, decide_eq_false_iff_not]
    intro e
    obtain ⟨hl, e⟩ := List.getElem?_eq_some_iff.mp e
    have := List.not_of_lt_findIdx (p := (· == c)) (xs := a) hj
    simp [e] at this
def stp (L : Tx) (T : List (List Nat)) (s c : Nat) : Nat := (((T[s]?).getD [])[L.idxOf c]?).getD 0
def run (L : Tx) (T : List (List Nat)) (s : Nat) (x : Tx) : Nat := x.foldl (stp L T) s
theorem h6' {L : Tx} {T : List (List Nat)} (h : bi' T T.length L.length) {s c : Nat} (hs : s < T.length) (hc : c ∈ L) : ∃ r, T[s]? = some r /\ r[L.idxOf c]? = some (stp L T s c) /\ stp L T s c < T.length := by
  have hr := h.2 T[s] (List.getElem_mem hs)
  have hi : L.idxOf c < T[s].length := by rw [hr.1]; exact List.idxOf_lt_length_iff.mpr hc
  have e : stp L T s c = T[s][L.idxOf c] := by
    unfold stp
    rw [List.getElem?_eq_getElem hs, Option.getD_some, List.getElem?_eq_getElem hi, Option.getD_some]
  exact ⟨T[s], List.getElem?_eq_getElem hs, by rw [e, List.getElem?_eq_getElem hi], by rw [e]; exact hr.2 _ (List.getElem_mem hi)⟩
theorem qK' {L T s} : run L T s [] = s := rfl
theorem nw' {L T s x c} : run L T s (x ++ [c]) = stp L T (run L T s x) c := by unfold run; rw [List.foldl_append]; rfl
theorem id' {L T s x y} : run L T s (x ++ y) = run L T (run L T s x) y := by unfold run; rw [List.foldl_append]
theorem eO' {L T s c x} : run L T s (c :: x) = run L T (stp L T s c) x := rfl
theorem ye' {L : Tx} {T : List (List Nat)} (h : bi' T T.length L.length) {s : Nat} (hs : s < T.length) : ∀ {x : Tx}, (∀ c ∈ x, c ∈ L) -> run L T s x < T.length := by
  intro x
  induction x generalizing s with
  | nil => intro _; exact hs
  | cons c x ih =>
    intro hx
    obtain ⟨_, _, _, h3⟩ := h6' h hs (hx c (by simp))
    exact ih h3 (fun d hd => hx d (by simp [hd]))
def Bz' (L : Tx) (T : List (List Nat)) (A : List Nat) : Ob := .ins "Machine" [("kept_letters", .fz (.str L)), ("kept_table", .fz (cy' T)), ("kept_accepts", .fz (dg' A)), ("kept_least", .fz .non), ("kept_field", .fz .non), ("kept_lots", .dct [] []), ("kept_more", .dct [] [])]
structure Mac (w : W) (m : Nat) (L : Tx) (T : List (List Nat)) (A : List Nat) : Prop where
  fl : ∀ cs, "Machine" ∈ cs -> hd' cs "kept_letters" w (.obj m) = some (.str L)
  ft : ∀ cs, "Machine" ∈ cs -> hd' cs "kept_table" w (.obj m) = some (cy' T)
  fa : ∀ cs, "Machine" ∈ cs -> hd' cs "kept_accepts" w (.obj m) = some (dg' A)
theorem Mac.new {w : W} {m : Nat} {L T A} (h : w[m]? = some (Bz' L T A)) : Mac w m L T A := by
  refine ⟨fun cs hc => ?_, fun cs hc => ?_, fun cs hc => ?_⟩
  all_goals simp [hd', h, Bz', hc, List.lookup]
theorem Mac.but {w w' : W} {m n : Nat} {L T A} (h : Mac w m L T A) (hb : But n w w') (hn : m ≠ n) : Mac w' m L T A := by
  refine ⟨fun cs hc => ?_, fun cs hc => ?_, fun cs hc => ?_⟩
  . have := h.fl cs hc; simpa only [hd', hb.2 m hn] using this
  . have := h.ft cs hc; simpa only [hd', hb.2 m hn] using this
  . have := h.fa cs hc; simpa only [hd', hb.2 m hn] using this
theorem Mac.snoc {w : W} {m : Nat} {L T A} {o : Ob} (h : Mac w m L T A) (hn : m < w.length) : Mac (w ++ [o]) m L T A := by
  have e : (w ++ [o])[m]? = w[m]? := List.getElem?_append_left hn
  refine ⟨fun cs hc => ?_, fun cs hc => ?_, fun cs hc => ?_⟩
  . have := h.fl cs hc; simpa only [hd', e] using this
  . have := h.ft cs hc; simpa only [hd', e] using this
  . have := h.fa cs hc; simpa only [hd', e] using this
theorem cR'.snoc {w : W} {n : Nat} {o : Ob} (h : cR' w n) : cR' (w ++ [o]) n := by
  obtain ⟨c, i, b, s, k, e, hi⟩ := h
  exact ⟨c, i, b, s, k, by rw [List.getElem?_append_left (bu' e)]; exact e, hi⟩
theorem Mac.made {w : W} {L T A} : Mac (w ++ [Bz' L T A]) w.length L T A := Mac.new (by rw [List.getElem?_append_right (by omega), Nat.sub_self]; rfl)
end M
namespace M
theorem wD.mono {α : Type} {o : Option α} {Q Q' : α -> Prop} (h : wD o Q) (k : ∀ a, Q a -> Q' a) : wD o Q' := by
  rw [ar'] at *
  cases o with
  | none => exact h
  | some a => exact k a h
theorem kx' {own : List Nat} {g : MG} {t : MT} {e : ME} {γ : Type} {f : γ -> D} {cs : List γ} {Q : List D -> PSt -> Prop} {X : Exc -> PSt -> Prop} {env : List (Option O)} {w : W} (p : γ -> Bool) (v : γ -> D) (hl : cs.length <= 16777216)
    (step : ∀ c ∈ cs, wD (g (f c) ⟨aD' own env, w⟩) fun ρ1 => wE (t ρ1) (fun k ρ2 => k = p c /\ ρ2.w = w /\ aD' own ρ2.env = aD' own env /\ (p c = true -> wE (e ρ2) (fun y ρ3 => y = v c /\ ρ3.w = w /\ aD' own ρ3.env = aD' own env) PX)) PX)
    (hend : ∀ env2, aD' own env2 = aD' own env -> Q ((cs.filter p).map v) ⟨env2, w⟩) : wE (lcL own g t e (cs.map f) [] ⟨env, w⟩) Q X := by
  refine ga' hl (fun pre acc ρ => acc = (pre.filter p).map v /\ ρ.w = w /\ aD' own ρ.env = aD' own env) ⟨rfl, rfl, rfl⟩ ?_ ?_
  . rintro pre c post acc ρ ec ⟨rfl, hw, he⟩
    have s := step c (by rw [ec]; simp)
    rw [he, hw]
    refine s.mono fun ρ1 s => ?_
    refine s.mono ?_ (fun _ _ z => z)
    rintro k ρ2 ⟨rfl, h1, h2, h3⟩
    cases hp : p c with
    | false =>
      rw [xT']
      exact ⟨by simp [hp], h1, h2⟩
    | true =>
      rw [xn']
      refine (h3 hp).mono ?_ (fun _ _ z => z)
      rintro y ρ3 ⟨rfl, h4, h5⟩
      exact ⟨by simp [hp], h4, h5⟩
  . rintro acc ⟨env2, w2⟩ ⟨rfl, hw, he⟩
    simp only at hw he
    subst hw
    exact hend env2 he
theorem dG' {own : List Nat} {g : MG} {t : MT} {e : ME} {γ : Type} {f : γ -> D} {cs : List γ} {Q : List D -> PSt -> Prop} {X : Exc -> PSt -> Prop} {env : List (Option O)} {w : W} (v : γ -> D) (hl : cs.length <= 16777216)
    (step : ∀ c ∈ cs, wD (g (f c) ⟨aD' own env, w⟩) fun ρ1 => wE (t ρ1) (fun k ρ2 => k = true /\ wE (e ρ2) (fun y ρ3 => y = v c /\ ρ3.w = w /\ aD' own ρ3.env = aD' own env) PX) PX)
    (hend : ∀ env2, aD' own env2 = aD' own env -> Q (cs.map v) ⟨env2, w⟩) : wE (lcL own g t e (cs.map f) [] ⟨env, w⟩) Q X := by
  refine ga' hl (fun pre acc ρ => acc = pre.map v /\ ρ.w = w /\ aD' own ρ.env = aD' own env) ⟨rfl, rfl, rfl⟩ ?_ ?_
  . rintro pre c post acc ρ ec ⟨rfl, hw, he⟩
    have s := step c (by rw [ec]; simp)
    rw [he, hw]
    refine s.mono fun ρ1 s => ?_
    refine s.mono ?_ (fun _ _ z => z)
    rintro k ρ2 ⟨rfl, h3⟩
    rw [xn']
    refine h3.mono ?_ (fun _ _ z => z)
    rintro y ρ3 ⟨rfl, h4, h5⟩
    exact ⟨by simp, h4, h5⟩
  . rintro acc ⟨env2, w2⟩ ⟨rfl, hw, he⟩
    simp only at hw he
    subst hw
    exact hend env2 he
theorem wk' {own : List Nat} {g : MG} {t : MT} {e : ME} {lo : Int} {n : Nat} {Q : List D -> PSt -> Prop} {X : Exc -> PSt -> Prop} {env : List (Option O)} {w : W} (p : Nat -> Bool) (v : Nat -> D) (hl : n <= 16777216)
    (step : ∀ c < n, wD (g (.int (lo + (c : Nat))) ⟨aD' own env, w⟩) fun ρ1 => wE (t ρ1) (fun k ρ2 => k = p c /\ ρ2.w = w /\ aD' own ρ2.env = aD' own env /\ (p c = true -> wE (e ρ2) (fun y ρ3 => y = v c /\ ρ3.w = w /\ aD' own ρ3.env = aD' own env) PX)) PX)
    (hend : ∀ env2, aD' own env2 = aD' own env -> Q (((List.range n).filter p).map v) ⟨env2, w⟩) : wE (lcL own g t e (rgI lo n) [] ⟨env, w⟩) Q X :=
  kx' (f := fun i : Nat => D.int (lo + (i : Nat))) p v (by simpa using hl) (fun c hc => step c (List.mem_range.mp hc)) hend
theorem wj' {own : List Nat} {g : MG} {t : MT} {e : ME} {lo : Int} {n : Nat} {Q : List D -> PSt -> Prop} {X : Exc -> PSt -> Prop} {env : List (Option O)} {w : W} (v : Nat -> D) (hl : n <= 16777216)
    (step : ∀ c < n, wD (g (.int (lo + (c : Nat))) ⟨aD' own env, w⟩) fun ρ1 => wE (t ρ1) (fun k ρ2 => k = true /\ wE (e ρ2) (fun y ρ3 => y = v c /\ ρ3.w = w /\ aD' own ρ3.env = aD' own env) PX) PX)
    (hend : ∀ env2, aD' own env2 = aD' own env -> Q ((List.range n).map v) ⟨env2, w⟩) : wE (lcL own g t e (rgI lo n) [] ⟨env, w⟩) Q X :=
  dG' (f := fun i : Nat => D.int (lo + (i : Nat))) v (by simpa using hl) (fun c hc => step c (List.mem_range.mp hc)) hend
end M
namespace M
def tC' : O -> D -> D -> Option (D × O)
  | .dct ks os, y, d => if isK y = true /\ ks.length < dq' then (match dget ks os y with
    | some (.fz e) => some (e, .dct ks os)
    | some _ => none
    | none => some (d, .dct (ks ++ [y]) (os ++ [.fz d]))) else none
  | _, _, _ => none
def rM' : O -> Prop
  | .dct _ _ => True
  | _ => False
section
variable {ρ : PSt} {P : D -> PSt -> Prop} {R : O -> PSt -> Prop} {X : Exc -> PSt -> Prop} {Y : List D -> PSt -> Prop}
theorem vo' (neg : Bool) (i : Nat) (a : ME) : vE (tB' neg i a ρ) P X = vE (a ρ) (fun k ρ1 => vO ρ1.env[i]? fun o => vD (cu' o k) fun r => P (.bl (r.isSome != neg)) ρ1) X := by
  unfold tB'
  rw [ai']
  congr
  funext k ρ1
  rcases ρ1.env[i]? with _ | _ | o
  . rfl
  . rfl
  . show vE (ofO _ _) P X = vD _ _
    rw [a9', cp']
theorem vn' (i : Nat) (b : ME) (env : List (Option O)) (w : W) : vE (jB' i b ⟨env, w⟩) P X = vO env[i]? fun _ => vE (b ⟨env, w⟩) (fun k ρ1 => vO ρ1.env[i]? fun o => vD (sd' (cu' o k)) fun z => P z ρ1) X := by
  show vE (match env[i]? with
  | some (some _) => (b ⟨env, w⟩).bind fun k ρ1 => match ρ1.env[i]? with
    | some (some o) => ofO (sd' (cu' o k)) ρ1
    | _ => .bad
  | _ => .bad) P X = _
  rcases env[i]? with _ | _ | o
  . rfl
  . rfl
  simp only [ai', vO]
  congr
  funext k ρ1
  rcases ρ1.env[i]? with _ | _ | o
  . rfl
  . rfl
  exact a9' _
theorem po' (i : Nat) (k a : ME) (env : List (Option O)) (w : W) : vE (ir' i k a ⟨env, w⟩) P X = vO env[i]? fun o0 => rM' o0 /\ vE (k ⟨env, w⟩) (fun y ρ1 => vE (a ρ1) (fun d ρ2 => vO ρ2.env[i]? fun o => vD (tC' o y d) fun p => P p.1 ⟨ρ2.env.set i (some p.2), ρ2.w⟩) X) X := by
  unfold ir'
  show vE (match env[i]? with
  | some (some (.dct _ _)) => _
  | _ => .bad) P X = _
  rcases env[i]? with _ | _ | o
  . rfl
  . rfl
  cases o with
  | dct ks0 os0 =>
    simp only [ai', vO, rM', true_and]
    congr
    funext y ρ1
    congr
    funext d ρ2
    rcases h : ρ2.env[i]? with _ | _ | o
    . rfl
    . rfl
    cases o with
    | dct ks os =>
      show vE (if isK y = true /\ ks.length < dq' then _ else _) P X = vD (tC' (.dct ks os) y d) _
      show _ = vD (if isK y = true /\ ks.length < dq' then (match dget ks os y with | some (.fz e) => some (e, O.dct ks os) | some _ => none | none => some (d, .dct (ks ++ [y]) (os ++ [.fz d]))) else none) _
      by_cases hc : isK y = true /\ ks.length < dq'
      . rw [if_pos hc, if_pos hc]
        rcases dget ks os y with _ | o
        . rfl
        . cases o with
          | fz e =>
            show P e ρ2 = P e ⟨ρ2.env.set i _, ρ2.w⟩
            have hi : ρ2.env.set i (some (.dct ks os)) = ρ2.env := by
              obtain ⟨hl, e⟩ := List.getElem?_eq_some_iff.mp h
              rw [<- e, List.set_getElem_self]
            rw [hi]
          | _ => rfl
      . rw [if_neg hc, if_neg hc]; rfl
    | _ => rfl
  | _ => simp [vO, rM', vE]
theorem pe'  : vE (rg' ρ) R X = R (.dcx [] []) ρ := rfl
theorem ol' (x : Bool) (k a : ME) : vE (ko' x k a ρ) R X = vE (k ρ) (fun y ρ1 => vE (a ρ1) (fun d ρ2 => vD (kg' x y d) fun o => R o ρ2) X) X := by simp only [ko', ai', a9']
theorem pf' (f : D -> Option (List D)) (a : ME) : vE (rO' f a ρ) Y X = vE (a ρ) (fun x ρ1 => vD (f x) fun ds => Y ds ρ1) X := by simp only [rO', ai', a9']
theorem vj' (own : List Nat) (it : MI) (g : MG) (t : MT) (ek ev : ME) : vE (oDc own it g t ek ev ρ) R X = vE (it ρ) (fun xs ρ1 => vE (dcL own g t ek ev xs [] [] ρ1) (fun p ρ2 => R (.dct p.1 (p.2.map .fz)) ⟨back ρ1.env own (aD' own ρ2.env), ρ2.w⟩) X) X := by simp only [oDc, ai', gi']
theorem vm' (ps : List (String × String)) (f : MF) (a b : ME) : vE (wH' ps f a b ρ) P X = vE (a ρ) (fun x ρ1 => vE (b ρ1) (fun y ρ2 => wB' ps ρ2.w x y = true /\ vF (f [x, y] ρ2.w) (fun o w => ∃ r, o = .fz (.bl r) /\ P (.bl r) ⟨ρ2.env, w⟩) (fun _ _ => False)) X) X := by
  simp only [wH', ai']
  congr
  funext x ρ1
  congr
  funext y ρ2
  by_cases h : wB' ps ρ2.w x y = true
  . rw [if_pos h]
    simp only [h, true_and]
    cases f [x, y] ρ2.w with
    | ok o w =>
      show vE (match O.fz (.bl true) with | _ => _) P X = _
      cases o with
      | fz d => cases d <;> simp [vE, vF]
      | _ => simp [vE, vF]
    | exc x w => rfl
    | bad => rfl
  . rw [if_neg h]
    simp [vE, h]
theorem vl' (t : ET) (c : String) (a : ME) : vE (xx' t c a ρ) P X = vE (a ρ) (fun x ρ1 => vD (isC t c ρ1.w x) fun b => P (.bl b) ρ1) X := by simp only [xx', ai', a9', cp']
variable {N : PSt -> Prop} {rt : O -> W -> Prop} {bk ct : PSt -> Prop} {ex : Exc -> PSt -> Prop}
theorem vr' (i : Nat) (k a : ME) : vS (o3' i k a ρ) ⟨N, rt, bk, ct, ex⟩ = vE (a ρ) (fun d ρ1 => vO ρ1.env[i]? fun _ => vE (k ρ1) (fun y ρ2 => vO ρ2.env[i]? fun o => vD (fz' o y (.fz d)) fun o' => N ⟨ρ2.env.set i (some o'), ρ2.w⟩) ex) ex := by
  simp only [o3', bS']
  congr
  funext d ρ1
  rcases ρ1.env[i]? with _ | _ | o
  . rfl
  . rfl
  simp only [bS', vO]
  congr
  funext y ρ2
  rcases ρ2.env[i]? with _ | _ | o
  . rfl
  . rfl
  show vS (match fz' o y (.fz d) with | some o' => Out.nx _ | none => Out.bad) _ = vD (fz' o y (.fz d)) _
  cases fz' o y (.fz d) <;> rfl
theorem AO' (neg : Bool) (i : Nat) (a : ME) : wE (tB' neg i a ρ) P X = wE (a ρ) (fun k ρ1 => wO ρ1.env[i]? fun o => wD (cu' o k) fun r => P (.bl (r.isSome != neg)) ρ1) X := by simp only [c4', ef', eh', ar', fn', fo', fj', fl', ee', eg', fk', fm', cc', b6', d0', cx', bV']; exact vo' ..
theorem AN' (i : Nat) (b : ME) (env : List (Option O)) (w : W) : wE (jB' i b ⟨env, w⟩) P X = wO env[i]? fun _ => wE (b ⟨env, w⟩) (fun k ρ1 => wO ρ1.env[i]? fun o => wD (sd' (cu' o k)) fun z => P z ρ1) X := by simp only [c4', ef', eh', ar', fn', fo', fj', fl', ee', eg', fk', fm', cc', b6', d0', cx', bV']; exact vn' ..
theorem u9' (i : Nat) (k a : ME) (env : List (Option O)) (w : W) : wE (ir' i k a ⟨env, w⟩) P X = wO env[i]? fun o0 => rM' o0 /\ wE (k ⟨env, w⟩) (fun y ρ1 => wE (a ρ1) (fun d ρ2 => wO ρ2.env[i]? fun o => wD (tC' o y d) fun p => P p.1 ⟨ρ2.env.set i (some p.2), ρ2.w⟩) X) X := by simp only [c4', ef', eh', ar', fn', fo', fj', fl', ee', eg', fk', fm', cc', b6', d0', cx', bV']; exact po' ..
theorem u5'  : wE (rg' ρ) R X = R (.dcx [] []) ρ := by simp only [c4', ef', eh', ar', fn', fo', fj', fl', ee', eg', fk', fm', cc', b6', d0', cx', bV']; exact pe' ..
theorem sr' (x : Bool) (k a : ME) : wE (ko' x k a ρ) R X = wE (k ρ) (fun y ρ1 => wE (a ρ1) (fun d ρ2 => wD (kg' x y d) fun o => R o ρ2) X) X := by simp only [c4', ef', eh', ar', fn', fo', fj', fl', ee', eg', fk', fm', cc', b6', d0', cx', bV']; exact ol' ..
theorem u7' (f : D -> Option (List D)) (a : ME) : wE (rO' f a ρ) Y X = wE (a ρ) (fun x ρ1 => wD (f x) fun ds => Y ds ρ1) X := by simp only [c4', ef', eh', ar', fn', fo', fj', fl', ee', eg', fk', fm', cc', b6', d0', cx', bV']; exact pf' ..
theorem AB' (own : List Nat) (it : MI) (g : MG) (t : MT) (ek ev : ME) : wE (oDc own it g t ek ev ρ) R X = wE (it ρ) (fun xs ρ1 => wE (dcL own g t ek ev xs [] [] ρ1) (fun p ρ2 => R (.dct p.1 (p.2.map .fz)) ⟨back ρ1.env own (aD' own ρ2.env), ρ2.w⟩) X) X := by simp only [c4', ef', eh', ar', fn', fo', fj', fl', ee', eg', fk', fm', cc', b6', d0', cx', bV']; exact vj' ..
theorem AM' (ps : List (String × String)) (f : MF) (a b : ME) : wE (wH' ps f a b ρ) P X = wE (a ρ) (fun x ρ1 => wE (b ρ1) (fun y ρ2 => wB' ps ρ2.w x y = true /\ wF (f [x, y] ρ2.w) (fun o w => ∃ r, o = .fz (.bl r) /\ P (.bl r) ⟨ρ2.env, w⟩) (fun _ _ => False)) X) X := by simp only [c4', ef', eh', ar', fn', fo', fj', fl', ee', eg', fk', fm', cc', b6', d0', cx', bV']; exact vm' ..
theorem AK' (t : ET) (c : String) (a : ME) : wE (xx' t c a ρ) P X = wE (a ρ) (fun x ρ1 => wD (isC t c ρ1.w x) fun b => P (.bl b) ρ1) X := by simp only [c4', ef', eh', ar', fn', fo', fj', fl', ee', eg', fk', fm', cc', b6', d0', cx', bV']; exact vl' ..
theorem A9' (i : Nat) (k a : ME) : wS (o3' i k a ρ) ⟨N, rt, bk, ct, ex⟩ = wE (a ρ) (fun d ρ1 => wO ρ1.env[i]? fun _ => wE (k ρ1) (fun y ρ2 => wO ρ2.env[i]? fun o => wD (fz' o y (.fz d)) fun o' => N ⟨ρ2.env.set i (some o'), ρ2.w⟩) ex) ex := by simp only [c4', ef', eh', ar', fn', fo', fj', fl', ee', eg', fk', fm', cc', b6', d0', cx', bV']; exact vr' ..
theorem wM' (a : Tx) (b : List D) {Y : List D -> Prop} : wD (C1' (.str a) (.lst b)) Y = Y (ds' (a.map chD) b) := by rw [ar']; rfl
end
theorem e4' {γ δ α : Type} [DecidableEq γ] (e : γ -> D) (he : ∀ a b, eqb (e a) (e b) = decide (a = b)) (v : δ -> α) (k : γ) : ∀ l : List (γ × δ), dget (l.map fun p => e p.1) (l.map fun p => v p.2) (e k) = (l.lookup k).map v
  | [] => rfl
  | (a, b) :: l => by
    have ih := e4' e he v k l
    unfold dget gB' at *
    rw [List.map_cons, List.map_cons, List.findIdx?_cons, he, List.lookup_cons]
    by_cases h : a = k
    . subst h; simp
    . have h2 : (k == a) = false := by simp; exact fun e => h e.symm
      rw [decide_eq_false h, h2]
      simp only [Bool.false_eq_true, if_false]
      rw [<- ih]
      cases List.findIdx? (fun d => eqb d (e k)) (l.map fun p => e p.1) <;> simp
theorem gA' {γ δ : Type} [DecidableEq γ] (e : γ -> D) (he : ∀ a b, eqb (e a) (e b) = decide (a = b)) (k : γ) : ∀ l : List (γ × δ), l.lookup k = none -> gB' (l.map fun p => e p.1) (e k) = none
  | [], _ => rfl
  | (a, b) :: l, h => by
    rw [List.lookup_cons] at h
    by_cases hk : a = k
    . subst hk; simp at h
    . have h2 : (k == a) = false := by simp; exact fun e => hk e.symm
      rw [h2] at h
      have ih := gA' e he k l h
      unfold gB' at *
      rw [List.map_cons, List.findIdx?_cons, he, decide_eq_false hk]
      simp only [Bool.false_eq_true, if_false, ih, Option.map_none]
theorem fI' (a b : Nat) : eqb (.int (a : Nat)) (.int (b : Nat)) = decide (a = b) := by
  simp only [eqb]
  rw [Bool.eq_iff_iff]
  simp
  try omega
def dN (l : List (Nat × D)) : O := .dct (l.map fun p => .int (p.1 : Nat)) (l.map fun p => .fz p.2)
def dNz (l : List (Nat × D)) : D := .dct (l.map fun p => .int (p.1 : Nat)) (l.map fun p => p.2)
def dX {γ : Type} (e : γ -> D) (l : List (γ × D)) : O := .dcx (l.map fun p => e p.1) (l.map fun p => .fz p.2)
structure KeyE {γ : Type} [DecidableEq γ] (e : γ -> D) : Prop where
  eq : ∀ a b, eqb (e a) (e b) = decide (a = b)
  kat : ∀ a, kat (e a) = true
  dep : ∀ a, dep (e a) <= 8
  sca : ∀ a b, sca (e a) = sca (e b)
theorem nT' {γ : Type} [DecidableEq γ] {e : γ -> D} (he : KeyE e) (k : γ) (l : List (γ × D)) : rH' (l.map fun p => e p.1) (e k) = true := by
  unfold rH'
  rw [he.kat, decide_eq_true (he.dep k)]
  simp only [Bool.and_true, Bool.true_and, List.all_eq_true, List.mem_map]
  rintro _ ⟨p, _, rfl⟩
  simp [he.sca p.1 k]
theorem uQ' (l : List (Nat × D)) : frz (dN l) = dNz l := by
  unfold dN dNz
  simp only [frz, eu', List.map_map]
  rfl
theorem AT' (l : List (Nat × D)) (i : Nat) (env : List (Option O)) (w : W) {P : D -> PSt -> Prop} : wV (some (some (dN l))) i ⟨env, w⟩ P = P (dNz l) ⟨env.set i (some (.fz (dNz l))), w⟩ := by
  rw [ee']
  show vV (some (some (O.dct _ _))) _ _ _ = _
  rw [<- uQ']; rfl
theorem AX' (l : List (Nat × D)) (i : Nat) (env : List (Option O)) (w : W) {P : O -> PSt -> Prop} : wG (some (some (dN l))) i ⟨env, w⟩ P = P (dN l) ⟨env.set i none, w⟩ := by
  rw [eg']; rfl
theorem lK' (l : List (Nat × D)) (k : Nat) : cu' (dN l) (.int (k : Nat)) = some ((l.lookup k).map .fz) := by
  show (if isK (.int (k : Nat)) = true then some (dget _ _ _) else none) = _
  rw [if_pos (show isK (.int (k : Nat)) = true from rfl), e4' (fun n : Nat => D.int (n : Nat)) fI' O.fz k l]
theorem jd' (l : List (Nat × D)) (k : Nat) : cu' (.fz (dNz l)) (.int (k : Nat)) = some ((l.lookup k).map .fz) := by
  show (if isK (.int (k : Nat)) = true then some (dget _ (List.map O.fz (l.map fun p => p.2)) _) else none) = _
  rw [if_pos (show isK (.int (k : Nat)) = true from rfl), List.map_map]
  exact congrArg some (e4' (fun n : Nat => D.int (n : Nat)) fI' O.fz k l)
theorem fF' {γ : Type} [DecidableEq γ] {e : γ -> D} (he : KeyE e) (l : List (γ × D)) (k : γ) : cu' (dX e l) (e k) = some ((l.lookup k).map .fz) := by
  show (if rH' (l.map fun p => e p.1) (e k) = true then some (dget _ _ _) else none) = _
  rw [if_pos (nT' he k l), e4' e he.eq O.fz k l]
section
variable {Q : Option O -> Prop} {P : D -> Prop} {N : O -> Prop} {Y : List D -> Prop}
theorem wW' (l : List (Nat × D)) (k : Nat) : wD (cu' (dN l) (.int (k : Nat))) Q = Q ((l.lookup k).map .fz) := by rw [lK', a8']
theorem tH' (l : List (Nat × D)) (k : Nat) : wD (cu' (.fz (dNz l)) (.int (k : Nat))) Q = Q ((l.lookup k).map .fz) := by rw [jd', a8']
theorem oc' (o : Option D) : sd' (some (o.map .fz)) = o := by cases o <;> rfl
theorem xk' (d : D) : sd' (some (some (.fz d))) = some d := rfl
theorem B6' (l : List (Nat × D)) (k : Nat) : wD (sd' (cu' (dN l) (.int (k : Nat)))) P = wD (l.lookup k) P := by rw [lK', oc']
theorem zQ' (l : List (Nat × D)) (k : Nat) : wD (sd' (cu' (.fz (dNz l)) (.int (k : Nat)))) P = wD (l.lookup k) P := by rw [jd', oc']
theorem zz' {l : List (Nat × D)} {k : Nat} (h : l.lookup k = none) (hl : l.length < 16777216) (d : D) : wD (fz' (dN l) (.int (k : Nat)) (.fz d)) N = N (dN (l ++ [(k, d)])) := by
  show wD (if isK (.int (k : Nat)) = true then (nD' _ _ _ _).map (fun p => O.dct p.1 p.2) else none) N = _
  rw [if_pos (show isK (.int (k : Nat)) = true from rfl), mm']
  unfold nD'
  rw [gA' (fun n : Nat => D.int (n : Nat)) fI' k l h]
  simp only
  rw [if_pos (by rw [List.length_map]; exact hl), a8']
  unfold dN
  simp
theorem q0' {γ : Type} [DecidableEq γ] {e : γ -> D} (he : KeyE e) {l : List (γ × D)} {k : γ} (h : l.lookup k = none) (hl : l.length < 16777216) (d : D) : fz' (dX e l) (e k) (.fz d) = some (dX e (l ++ [(k, d)])) := by
  show (if rH' (l.map fun p => e p.1) (e k) = true then (nD' _ _ _ _).map (fun p => O.dcx p.1 p.2) else none) = _
  rw [if_pos (nT' he k l)]
  unfold nD'
  rw [gA' e he.eq k l h]
  simp only
  rw [if_pos (by rw [List.length_map]; exact hl)]
  unfold dX
  simp
theorem zL' (l : List (Nat × D)) : wD (sm' (dN l)) P = P (.int l.length) := by
  show wD (some (D.int _)) P = _
  rw [a8', List.length_map]
theorem zI' {γ : Type} (e : γ -> D) (l : List (γ × D)) : wD (sm' (dX e l)) P = P (.int l.length) := by
  show wD (some (D.int _)) P = _
  rw [a8', List.length_map]
theorem w4' (l : List (Nat × D)) : wD (en' (dNz l)) P = P (.int l.length) := by
  show wD (some (D.int _)) P = _
  rw [a8', List.length_map]
theorem wT' {l : List (Nat × D)} {k : Nat} (hl : l.length < 16777216) (d : D) {Q : D × O -> Prop} : wD (tC' (dN l) (.int (k : Nat)) d) Q = match l.lookup k with
    | some e => Q (e, dN l)
    | none => Q (d, dN (l ++ [(k, d)])) := by
  show wD (if isK (.int (k : Nat)) = true /\ (l.map fun p => D.int (p.1 : Nat)).length < dq' then (match dget (l.map fun p => D.int (p.1 : Nat)) (l.map fun p => O.fz p.2) (.int (k : Nat)) with
    | some (.fz e) => some (e, O.dct _ _)
    | some _ => none
    | none => some (d, .dct ((l.map fun p => D.int (p.1 : Nat)) ++ [.int (k : Nat)]) ((l.map fun p => O.fz p.2) ++ [.fz d]))) else none) Q = _
  rw [if_pos ⟨rfl, by rw [List.length_map]; exact hl⟩, e4' (fun n : Nat => D.int (n : Nat)) fI' O.fz k l]
  cases l.lookup k with
  | none =>
    simp only [Option.map_none, a8']
    unfold dN
    simp
  | some e => simp only [Option.map_some, a8']; rfl
theorem ts' (l : List (Nat × D)) : rM' (dN l) = True := rfl
theorem jC' {γ : Type} (f g : γ -> D) : ∀ l : List γ, ds' (l.map f) (l.map g) = l.map fun p => .tup [f p, g p]
  | [] => rfl
  | a :: l => by
    simp only [List.map_cons, ds', jC' f g l]
theorem w9' (l : List (Nat × D)) : wD (rZ' (dNz l)) Y = Y (l.map fun p => .tup [.int (p.1 : Nat), p.2]) := by
  show wD (some (ds' _ _)) Y = _
  rw [a8', jC']
theorem zp' (l : List (Nat × D)) : wD (Cu' (dNz l)) Y = Y (l.map fun p => p.2) := by
  show wD (some _) Y = _
  rw [a8']
theorem zN' (l : List (Nat × D)) : wD (Cv' (dNz l)) Y = Y (l.map fun p => .int (p.1 : Nat)) := by
  show wD (some _) Y = _
  rw [a8']
theorem ip' {γ : Type} (f : γ -> Int) (l : List γ) : bC' (l.map fun p => .int (f p)) = some (l.map f) := by
  have := lN' (l.map f)
  rw [List.map_map] at this
  exact this
theorem zF' {γ : Type} (f : γ -> Nat) (g : γ -> Int) (l : List γ) (h : l ≠ []) : wD (oA' (dNz (l.map fun p => (f p, .int (g p))))) P = P (.int (nQ' (l.map g))) := by
  show wD ((bC' ((l.map fun p => (f p, D.int (g p))).map fun p => p.2)).bind _) P = _
  rw [List.map_map, show ((fun p : Nat × D => p.2) ∘ fun p => (f p, D.int (g p))) = fun p => D.int (g p) from rfl, ip']
  show wD (if l.map g = [] then none else some _) P = _
  rw [if_neg (by simpa using h), a8']
theorem wS' (l : List (Nat × D)) (h : l.length <= 16777216) : wD (dW' (dNz l)) P = P (.lst ((ls' (l.map fun p => (p.1 : Int))).map .int)) := by
  show wD ((bC' (l.map fun p => D.int (p.1 : Nat))).bind _) P = _
  rw [ip' (fun p : Nat × D => (p.1 : Int))]
  show wD (if (l.map fun p => (p.1 : Int)).length <= dq' then some _ else none) P = _
  rw [if_pos (by rw [List.length_map]; exact h), a8']
theorem tP' (k : Int) (d : D) : wD (kg' false (.int k) d) N = N (.dct [.int k] [.fz d]) := by
  show wD (some (O.dct [.int k] [.fz d])) N = _
  rw [a8']
theorem n7' (d : D) : wD (v1' d) P = wC (xq' d = true /\ dep d <= 40 /\ sk' d = true /\ o4' d <= 200000) (P (.rep d)) := d6'
theorem BW' (i j : Bool) : wD (pNe (.bl i) (.bl j)) P = P (.bl (!(i == j))) := by
  rw [show pNe (.bl i) (.bl j) = some (.bl (!(i == j))) from rfl, a8']
theorem Cj' (a b : D) : wD (Ap' (.rep a) (.rep b)) P = wC (same a b = true) (P (.bl true)) := d6'
theorem BU' (a b : D) : wD (Ao' (.rep a) (.rep b)) P = wC (same a b = true) (P (.bl false)) := d6'
end
theorem bv' {γ : Type} (f : Nat -> γ) (k : Nat) : ∀ l : List Nat, (l.map fun s => (s, f s)).lookup k = if k ∈ l then some (f k) else none
  | [] => rfl
  | a :: l => by
    rw [List.map_cons, List.lookup_cons, bv' f k l]
    by_cases h : k = a
    . subst h; simp
    . have : (k == a) = false := by simpa using h
      simp [this, h]
theorem cf' {γ δ : Type} [DecidableEq γ] (k : γ) : ∀ l : List (γ × δ), k ∉ l.map (·.1) -> l.lookup k = none
  | [], _ => rfl
  | (a, b) :: l, h => by
    simp only [List.map_cons, List.mem_cons, not_or] at h
    rw [List.lookup_cons, cf' k l h.2]
    have : (k == a) = false := by simpa using h.1
    rw [this]
mutual
theorem j9' : ∀ (d : D), dat d = true -> same d d = true
  | .non, _ => rfl
  | .bl b, _ => by simp [same]
  | .int i, _ => by simp [same]
  | .str s, _ => by simp [same]
  | .tup ds, h => by simp only [same]; exact sames_refl ds (by simpa [dat] using h)
  | .lst ds, h => by simp only [same]; exact sames_refl ds (by simpa [dat] using h)
theorem sames_refl : ∀ (ds : List D), dats ds = true -> sames ds ds = true
  | [], _ => rfl
  | d :: r, h => by
    simp only [dats, Bool.and_eq_true] at h
    simp only [sames, j9' d h.1, sames_refl r h.2, Bool.and_self]
end
theorem zj' {own : List Nat} {g : MG} {t : MT} {ek ev : ME} {γ : Type} {f : γ -> D} {cs : List γ} {Q : List D × List D -> PSt -> Prop} {X : Exc -> PSt -> Prop} {env : List (Option O)} {w : W} (kf : γ -> Nat) (v : γ -> D) (hl : cs.length <= 16777216) (hn : (cs.map kf).Nodup)
    (step : ∀ c ∈ cs, wD (g (f c) ⟨aD' own env, w⟩) fun ρ1 => wE (t ρ1) (fun k ρ2 => k = true /\ wE (ek ρ2) (fun y ρ3 => y = .int (kf c : Nat) /\ wE (ev ρ3) (fun z ρ4 => z = v c /\ ρ4.w = w /\ aD' own ρ4.env = aD' own env) PX) PX) PX)
    (hend : ∀ env2, aD' own env2 = aD' own env -> Q (cs.map (fun c => .int (kf c : Nat)), cs.map v) ⟨env2, w⟩) : wE (dcL own g t ek ev (cs.map f) [] [] ⟨env, w⟩) Q X := by
  have go : ∀ (post pre : List γ) (env1 : List (Option O)), cs = pre ++ post -> aD' own env1 = aD' own env →
      vE (dcL own g t ek ev (post.map f) (pre.map fun c => .int (kf c : Nat)) (pre.map v) ⟨env1, w⟩) Q X := by
    intro post
    induction post with
    | nil =>
      intro pre env1 e he
      rw [List.append_nil] at e
      subst e
      exact hend env1 he
    | cons c post ih =>
      intro pre env1 e he
      have s := step c (by rw [e]; simp)
      rw [ar'] at s
      show vE (match g (f c) ⟨aD' own env1, w⟩ with | none => Res.bad | some ρ1 => _) Q X
      rw [he]
      cases hg : g (f c) ⟨aD' own env, w⟩ with
      | none => rw [hg] at s; exact s
      | some ρ1 =>
        rw [hg] at s
        have s : wE (t ρ1) _ PX := s
        rw [c4'] at s
        dsimp only
        cases ht : t ρ1 with
        | bad => rw [ht] at s; exact s
        | exc x q => rw [ht] at s; exact s.elim
        | ok k ρ2 =>
          rw [ht] at s
          obtain ⟨ek1, s2⟩ := (show k = true /\ wE (ek ρ2) _ PX from s)
          subst ek1
          rw [c4'] at s2
          show vE ((noX (ek ρ2)).bind _) Q X
          cases hk : ek ρ2 with
          | bad => rw [hk] at s2; exact s2
          | exc x q => rw [hk] at s2; exact s2.elim
          | ok y ρ3 =>
            rw [hk] at s2
            obtain ⟨ey, s3⟩ := (show y = .int (kf c : Nat) /\ wE (ev ρ3) _ PX from s2)
            subst ey
            rw [c4'] at s3
            show vE ((noX (ev ρ3)).bind _) Q X
            cases hv : ev ρ3 with
            | bad => rw [hv] at s3; exact s3
            | exc x q => rw [hv] at s3; exact s3.elim
            | ok z ρ4 =>
              rw [hv] at s3
              obtain ⟨ez, hw, he2⟩ := (show z = v c /\ ρ4.w = w /\ aD' own ρ4.env = aD' own env from s3)
              subst ez
              obtain ⟨env4, w4⟩ := ρ4
              simp only at hw he2
              subst hw
              show vE (if isK (.int (kf c : Nat)) = true /\ (pre.map fun c => D.int (kf c : Nat)).length < dq' then _ else _) Q X
              have hlen : pre.length < dq' := by
                have : cs.length = pre.length + (post.length + 1) := by rw [e]; simp
                unfold dq'; omega
              rw [if_pos ⟨rfl, by rw [List.length_map]; exact hlen⟩]
              have hnone : gB' (pre.map fun c => D.int (kf c : Nat)) (.int (kf c : Nat)) = none := by
                have h1 : ((pre.map fun c => (kf c, ())).map fun p => D.int (p.1 : Nat)) = pre.map fun c => D.int (kf c : Nat) := by rw [List.map_map]; rfl
                rw [<- h1]
                refine gA' (fun n : Nat => D.int (n : Nat)) fI' (kf c) _ (cf' _ _ ?_)
                rw [List.map_map]
                intro hm
                rw [e, List.map_append, List.map_cons] at hn
                have := (List.nodup_append.mp hn).2.2 (kf c) (by simpa using hm) (kf c) (by simp)
                exact this rfl
              unfold nD'
              rw [hnone]
              simp only
              rw [if_pos (by rw [List.length_map]; exact hlen)]
              have r := ih (pre ++ [c]) env4 (by rw [e]; simp) he2
              simpa using r
  rw [c4']
  exact go cs [] env rfl rfl
theorem oM' {γ : Type} (kf : γ -> Nat) (v : γ -> D) (cs : List γ) : D.dct (cs.map fun c => .int (kf c : Nat)) (cs.map v) = dNz (cs.map fun c => (kf c, v c)) := by
  unfold dNz
  simp only [List.map_map]
  rfl
section
variable {Q : D -> Prop} {Y : List D -> Prop}
theorem tF' (r : List Nat) : wD (ek' (cF' r)) Y = Y (r.map fun t => .int (t : Nat)) := by unfold cF'; rw [n6']
theorem tG' (r : List Nat) : wD (ek' (dg' r)) Y = Y (r.map fun t => .int (t : Nat)) := by unfold dg'; rw [n6']
theorem tE' (T : List (List Nat)) : wD (ek' (cy' T)) Y = Y (T.map cF') := by unfold cy'; rw [n6']
end
theorem ww' : e1' .non = true := rfl
theorem wv' (n : Nat) : e1' (.obj n) = false := rfl
theorem wy' (n : Int) : e1' (.int n) = false := rfl
theorem wu' (n : Tx) : e1' (.str n) = false := rfl
theorem y0' (n : Bool) : e1' (.bl n) = false := rfl
theorem wt' (n : List D) : e1' (.tup n) = false := rfl
theorem wx' (n : List D) : e1' (.lst n) = false := rfl
section
variable {Q : D -> Prop}
theorem s9' (cs : List Nat) : gY' (cs.map chD) = some cs := by
  induction cs with
  | nil => rfl
  | cons c cs ih => show (gY' (cs.map chD)).map (c :: ·) = _; rw [ih]; rfl
theorem wR' {cs : List Nat} (h : cs ≠ []) : wD (da' (.lst (cs.map chD))) Q = wC (cs.length < 64) (Q (.lst ((cA' cs).map chD))) := by
  have e : bC' (cs.map chD) = none := by
    cases cs with
    | nil => exact absurd rfl h
    | cons c cs => rfl
  show wD (match bC' (cs.map chD) with | some ns => some (D.lst ((ls' ns).map .int)) | none => (gY' (cs.map chD)).bind fun cs => if cs.length < 64 then some (.lst ((cA' cs).map chD)) else none) Q = _
  rw [e]
  simp only [s9', Option.bind_some]
  exact d6'
theorem wY' (s : Tx) : wD (d9' (.str s)) Q = Q (.lst (s.map chD)) := by
  show wD (some _) Q = _
  rw [a8']
end
theorem zC' (F : List Nat) (t : Nat) {P : D -> Prop} : wD (rh' (inO (.int (t : Nat)) (.lst (F.map fun s => .fz (.int (s : Nat)))))) P = P (.bl (!decide (t ∈ F))) := by
  have e1 : (F.map fun s => O.fz (.int (s : Nat))).all (fun o => match o with | .fz _ => true | _ => false) = true := by induction F <;> simp_all
  have e2 : (F.map fun s => O.fz (.int (s : Nat))).map frz = F.map fun s => .int (s : Nat) := by rw [List.map_map]; rfl
  have h := rX' (Q := fun d => wD (rh' (some d)) P) (t : Int) (F.map (Nat.cast : Nat -> Int))
  rw [List.map_map] at h
  show wD (rh' (if (F.map fun s => O.fz (.int (s : Nat))).all (fun o => match o with | .fz _ => true | _ => false) = true then pIn (.int (t : Nat)) (.lst ((F.map fun s => O.fz (.int (s : Nat))).map frz)) else none)) P = _
  rw [if_pos e1, e2]
  have e3 : ∀ o : Option D, wD (rh' o) P = wD o (fun d => wD (rh' (some d)) P) := fun o => by cases o with
    | none => rw [ar', ar']; rfl
    | some d => rw [a8']
  rw [e3]
  refine h.trans ?_
  show wD (some (D.bl (!decide _))) P = _
  rw [a8']
  congr 3
  rw [decide_eq_decide]
  constructor
  . intro hm
    obtain ⟨a, h1, h2⟩ := List.mem_map.mp hm
    have h2 : (a : Int) = (t : Int) := h2
    have : a = t := by omega
    exact this ▸ h1
  . exact fun hm => List.mem_map.mpr ⟨t, hm, rfl⟩
def rJ' (o : Option (Option O)) : Option O := match o with
  | some (some (.fz d)) => some (.fz d)
  | _ => none
theorem tX' (env env' : List (Option O)) : back env [] env' = env' := rfl
theorem r6' (env env' : List (Option O)) (i : Nat) (is : List Nat) : back env (i :: is) env' = (back env is env').set i (rJ' env[i]?) := by
  show (back env is env').set i _ = _
  congr 1
theorem oJ' : rJ' (some none) = none := rfl
theorem tn' (d : D) : rJ' (some (some (.fz d))) = some (.fz d) := rfl
theorem rI' (os : List O) : rJ' (some (some (.lst os))) = none := rfl
section
variable {Q : D -> Prop}
theorem wO' (a : Tx) (c : Nat) : wD (yL' a [.str [c]]) Q = wC (c < 128 /\ a.length + 2 <= 16777216) (Q (.lst ((Ah' c a).map .str))) := d6'
theorem BH' (i : Int) : wD (Dl' (.int i)) Q = wC (0 <= i /\ i < 1000000000000000000000000000000000000000000000000000000000000) (Q (.str (CX' i.toNat))) := d6'
end
end M
namespace M
theorem Co' (c : Nat) (s : Tx) {P : D -> Prop} : wD (Do' c (.str s)) P = wC (s.length <= 1000000) (P (.str (s.filter fun d => decide (d ≠ c)))) := d6'
end M
namespace M
theorem zm' (a b : List D) {Y : List D -> Prop} : wD (C0' (.tup a) (.tup b)) Y = Y (ds' a b) := by rw [ar']; rfl
theorem Ch' (os : List O) (ds : List D) {N : O -> Prop} : wD (Dt' (.lst os) (.lst ds)) N = wC (os.length + ds.length <= 16777216) (N (.lst (os ++ ds.map .fz))) := d6'
def BB' : O -> Prop
  | .dcx _ _ => True
  | _ => False
theorem tr' {γ : Type} (e : γ -> D) (l : List (γ × D)) : BB' (dX e l) := True.intro
theorem BD' (os : List O) {N : List O -> Prop} : wD (unO (.tup os)) N = N os := by rw [ar']; rfl
theorem BE' (ds : List D) {N : List O -> Prop} : wD (unO (.fz (.tup ds))) N = N (ds.map .fz) := by rw [ar']; rfl
theorem xc' {ρ : PSt} {N : PSt -> Prop} : wD (xw' [] [] ρ) N = N ρ := by rw [ar']; rfl
theorem xb' (i : Nat) (is : List Nat) (o : O) (os : List O) {env : List (Option O)} {w : W} {N : PSt -> Prop} : wD (xw' (i :: is) (o :: os) ⟨env, w⟩) N = t3' i env.length (wD (xw' is os ⟨env.set i (some o), w⟩) N) := by
  rw [ar', ar', b6']
  by_cases h : i < env.length
  . simp [xw', om', h]
  . simp [xw', om', vD, h]
theorem tW' (m : List Bool) : sn' m [] = [] := by cases m <;> rfl
theorem z2' (x : Option O) (r : List (Option O)) : sn' [] (x :: r) = none :: sn' [] r := rfl
theorem z4' (m : List Bool) (x : Option O) (r : List (Option O)) : sn' (false :: m) (x :: r) = none :: sn' m r := rfl
theorem z3' (m : List Bool) (o : O) (r : List (Option O)) : sn' (true :: m) (some o :: r) = some (.fz (frz o)) :: sn' m r := rfl
theorem v9' (r : List (Option O)) : okM [] r = true := by cases r <;> rfl
theorem Bq' (m : List Bool) (x : Option O) (r : List (Option O)) : okM (false :: m) (x :: r) = okM m r := rfl
theorem Bp' (m : List Bool) (o : O) (r : List (Option O)) : okM (true :: m) (some o :: r) = (okO o && okM m r) := rfl
theorem yE' (d : D) : okO (.fz d) = dat d := rfl
theorem v8' (os : List O) : okO (.lst os) = okOs os := rfl
theorem rd' : ∀ ds : List D, okOs (ds.map .fz) = dats ds
  | [] => rfl
  | d :: r => by show (dat d && okOs (r.map .fz)) = (dat d && dats r); rw [rd' r]
theorem y8' (d : D) : frz (.fz d) = d := rfl
theorem vI' (b : Bool) : Aj' (.bl b) = true := rfl
theorem sU' (b : Int) : Aj' (.int b) = true := rfl
theorem sS' (b : Tx) : Aj' (.str b) = true := rfl
theorem sT' : Aj' .non = true := rfl
end M
namespace M
theorem j4' : ∀ l : List Tx, d3' (l.map D.str) = some l
  | [] => rfl
  | a :: l => by show (d3' (l.map D.str)).map (a :: ·) = _; rw [j4' l]; rfl
theorem wP' (l : List Tx) {P : D -> Prop} : wD (s6' (.lst (l.map .str))) P = wC (l.length < 64) (P (.lst ((x6' l).map .str))) := by
  show wD ((d3' (l.map D.str)).bind _) P = _
  rw [j4', Option.bind_some]
  exact d6'
theorem zr' (s : Tx) {P : D -> Prop} : wD (bR' (.str s)) P = P (.tup (s.map chD)) := by
  show wD (some _) P = _
  rw [a8']
theorem AW' {α : Type} (e : α -> D) (l : List (α × D)) (i : Nat) (env : List (Option O)) (w : W) {P : O -> PSt -> Prop} : wG (some (some (dX e l))) i ⟨env, w⟩ P = P (dX e l) ⟨env.set i none, w⟩ := by
  simp only [eg']; rfl
end M
namespace M
def dXz {γ : Type} (e : γ -> D) (l : List (γ × D)) : D := .dcx (l.map fun p => e p.1) (l.map fun p => p.2)
theorem y9' {γ : Type} (e : γ -> D) (l : List (γ × D)) : frz (dX e l) = dXz e l := by
  unfold dX dXz
  simp only [frz, eu', List.map_map]
  rfl
theorem AS' {γ : Type} (e : γ -> D) (l : List (γ × D)) (i : Nat) (env : List (Option O)) (w : W) {P : D -> PSt -> Prop} : wV (some (some (dX e l))) i ⟨env, w⟩ P = P (dXz e l) ⟨env.set i (some (.fz (dXz e l))), w⟩ := by
  rw [ee']
  show vV (some (some (O.dcx _ _))) _ _ _ = _
  rw [<- y9']; rfl
theorem w0' {γ : Type} (e : γ -> D) (l : List (γ × D)) {P : D -> Prop} : wD (sm' (.fz (dXz e l))) P = P (.int l.length) := by
  show wD (some (D.int _)) P = _
  rw [a8', List.length_map]
end M
namespace M
end M
namespace M
theorem ij' : ∀ (es : List (Nat × Tx)), gV' (es.map fun p => .int (p.1 : Nat)) (es.map fun p => .fz (.str p.2)) = some es
  | [] => rfl
  | p :: es => by
    show (if (0 : Int) <= (p.1 : Nat) then (gV' (es.map fun p => .int (p.1 : Nat)) (es.map fun p => .fz (.str p.2))).map ((((p.1 : Nat) : Int).toNat, p.2) :: ·) else none) = _
    rw [if_pos (Int.natCast_nonneg _), ij' es]
    rfl
theorem tD' (es : List (Nat × Tx)) {P : D -> Prop} : wD (uy' (.dct (es.map fun p => .int (p.1 : Nat)) (es.map fun p => .fz (.str p.2)))) P = P (.lst ((es.mergeSort Bj').map fun p => .tup [.int (p.1 : Nat), .str p.2])) := by
  have e : uy' (.dct (es.map fun p => .int (p.1 : Nat)) (es.map fun p => .fz (.str p.2))) = some (.lst ((es.mergeSort Bj').map fun p => .tup [.int (p.1 : Nat), .str p.2])) := by
    show (gV' _ _).map _ = _
    rw [ij']
    rfl
  rw [e, ar']
  rfl
end M
namespace M
theorem wa' (kl kd : Bool) (r : List (Option O)) : okL kl kd [] r = true := by cases r <;> rfl
theorem Bs' (kl kd : Bool) (m : List Bool) (x : Option O) (r : List (Option O)) : okL kl kd (false :: m) (x :: r) = okL kl kd m r := rfl
theorem Br' (kl kd : Bool) (m : List Bool) (o : O) (r : List (Option O)) : okL kl kd (true :: m) (some o :: r) = (lendO kl kd o && okL kl kd m r) := rfl
theorem tT' (r : List (Option O)) : xf' [] r = 0 := by cases r <;> rfl
theorem z0' (m : List Bool) (x : Option O) (r : List (Option O)) : xf' (false :: m) (x :: r) = xf' m r := rfl
theorem zZ' (m : List Bool) (o : O) (r : List (Option O)) : xf' (true :: m) (some o :: r) = Ar' o + xf' m r := rfl
theorem tl' (kl kd : Bool) (d : D) : lendO kl kd (.fz d) = true := rfl
theorem v2' (d : D) : Ar' (.fz d) = 0 := rfl
theorem rz' (kd : Bool) (ds : List D) : lendO true kd (.lst (ds.map .fz)) = true := by
  show (true && (ds.map O.fz).all wz') = true
  simp [wz']
theorem td' (kl kd : Bool) (n : Nat) : CS' kl kd (.fz (.obj n)) = true := rfl
def Bl' : D -> Option (D × D)
  | .tup [x, y] => some (x, y)
  | _ => none
theorem zA' (x y : D) {P : D × D -> Prop} : wD (Bl' (.tup [x, y])) P = P (x, y) := by rw [ar']; rfl
theorem BO' (i j : Int) {Q : D -> Prop} : wD (Dn' (.int i) (.int j)) Q = wC (0 <= j /\ j <= 1000 /\ -18446744073709551616 < i /\ i < 18446744073709551616) (Q (.int (i * 2 ^ j.toNat))) := by
  rw [ar', d0']
  show vD (if 0 <= j /\ j <= 1000 /\ small64 i = true then _ else _) Q = _
  rw [aX']
  congr 1
  simp [small64]
theorem BN' (i j : Int) {Q : D -> Prop} : wD (Dm' (.int i) (.int j)) Q = wC (0 <= j) (Q (.int (i / 2 ^ j.toNat))) := by
  rw [ar', d0']
  exact aX'
theorem DE' (is : List Nat) (ds : List D) (ρ : PSt) {N : PSt -> Prop} : wD (gL is (.lst ds) ρ) N = wD (gNs is ds ρ) N := rfl
theorem Cf' (gs : List MG) (ds : List D) (ρ : PSt) {N : PSt -> Prop} : wD (gTg gs (.tup ds) ρ) N = wD (gSq gs ds ρ) N := rfl
theorem zS' (ρ : PSt) {N : PSt -> Prop} : wD (gSq [] [] ρ) N = N ρ := by rw [ar']; rfl
theorem Cg' (g : MG) (gs : List MG) (d : D) (ds : List D) (ρ : PSt) {N : PSt -> Prop} : wD (gSq (g :: gs) (d :: ds) ρ) N = wD (g d ρ) (fun ρ1 => wD (gSq gs ds ρ1) N) := by
  simp only [ar']
  show vD ((g d ρ).bind (gSq gs ds)) N = _
  cases g d ρ <;> rfl
end M
namespace M
section
variable {α : Type} {env : List (Option O)} {w : W} {ρ : PSt} {X : Exc -> PSt -> Prop}
end
end M
namespace M
section
variable {α β : Type} [DecidableEq α] [DecidableEq β]
def ins (F : List α) (x : α) : List α := if x ∈ F then F else F ++ [x]
def cD' (F xs : List α) : List α := xs.foldl ins F
def am' (xs : List α) : List α := cD' [] xs
theorem co' {F : List α} {x : α} (h : x ∈ F) : ins F x = F := if_pos h
theorem bX' {F : List α} {x : α} (h : x ∉ F) : ins F x = F ++ [x] := if_neg h
theorem rk' {F : List α} {x y : α} : y ∈ ins F x ↔ y ∈ F \/ y = x := by
  unfold ins
  split
  . rename_i h
    exact ⟨.inl, fun q => q.elim id fun e => e ▸ h⟩
  . simp
theorem ci' {F : List α} {x : α} {xs : List α} : cD' F (x :: xs) = cD' (ins F x) xs := rfl
theorem df' {F xs ys : List α} : cD' F (xs ++ ys) = cD' (cD' F xs) ys := List.foldl_append ..
theorem g9' {F xs : List α} {x : α} : cD' F (xs ++ [x]) = ins (cD' F xs) x := by rw [df']; rfl
theorem b7' {y : α} : ∀ {xs F : List α}, y ∈ cD' F xs ↔ y ∈ F \/ y ∈ xs
  | [], F => by simp [cD']
  | x :: xs, F => by
    rw [ci', b7', rk', List.mem_cons]
    constructor
    . rintro ((h | h) | h)
      . exact .inl h
      . exact .inr (.inl h)
      . exact .inr (.inr h)
    . rintro (h | h | h)
      . exact .inl (.inl h)
      . exact .inl (.inr h)
      . exact .inr h
theorem aF' {xs : List α} {y : α} : y ∈ am' xs ↔ y ∈ xs := by rw [am', b7']; simp
theorem vT' {F : List α} {x : α} : F <+: ins F x := by
  unfold ins
  split
  . exact List.prefix_refl _
  . exact List.prefix_append ..
theorem dV' : ∀ {xs F : List α}, F <+: cD' F xs
  | [], F => List.prefix_refl _
  | x :: xs, F => vT'.trans dV'
theorem yI' {F : List α} {x : α} (h : F.Nodup) : (ins F x).Nodup := by
  unfold ins
  split
  . exact h
  . rename_i q
    rw [List.nodup_append]
    exact ⟨h, by simp, fun a ha b hb e => q (by rw [List.mem_singleton] at hb; rw [<- hb, <- e]; exact ha)⟩
theorem fE' : ∀ {xs F : List α}, F.Nodup -> (cD' F xs).Nodup
  | [], _, h => h
  | _ :: xs, _, h => fE' (xs := xs) (yI' h)
theorem g5' {xs : List α} : (am' xs).Nodup := fE' List.nodup_nil
theorem ji' : ∀ {xs F : List α}, (∀ x ∈ xs, x ∈ F) -> cD' F xs = F
  | [], _, _ => rfl
  | x :: xs, F, h => by
    rw [ci', co' (h x (by simp))]
    exact ji' fun y hy => h y (by simp [hy])
theorem bB' {xs : List α} {x : α} : am' (xs ++ [x]) = ins (am' xs) x := g9'
theorem ce' {xs : List α} (h : xs.Nodup) : am' xs = xs := by
  have go : ∀ (ys F : List α), (F ++ ys).Nodup -> cD' F ys = F ++ ys := by
    intro ys
    induction ys with
    | nil => intro F _; simp [cD']
    | cons y ys ih =>
      intro F hn
      have : y ∉ F := fun hy => (List.nodup_append.mp hn).2.2 y hy y (by simp) rfl
      rw [ci', bX' this, ih _ (by simpa using hn)]
      simp
  exact go xs [] (by simpa using h)
theorem kp' (c : α -> β) (F : List α) (x : α) : am' ((ins F x).map c) = ins (am' (F.map c)) (c x) := by
  by_cases h : x ∈ F
  . rw [co' h, co' (aF'.mpr (List.mem_map.mpr ⟨x, h, rfl⟩))]
  . rw [bX' h, List.map_append, List.map_cons, List.map_nil, bB']
theorem ct' (c : α -> β) : ∀ (xs F : List α), am' ((cD' F xs).map c) = cD' (am' (F.map c)) (xs.map c)
  | [], _ => rfl
  | x :: xs, F => by rw [ci', ct' c xs, kp', List.map_cons, ci']
theorem i7' (c : α -> β) (xs : List α) : am' ((am' xs).map c) = am' (xs.map c) := by
  have := ct' c xs []
  exact this
theorem lI' (f : α -> β) {F : List α} {x : α} (h : ∀ y ∈ F, f y = f x -> y = x) : (ins F x).map f = ins (F.map f) (f x) := by
  by_cases hx : x ∈ F
  . rw [co' hx, co' (List.mem_map.mpr ⟨x, hx, rfl⟩)]
  . rw [bX' hx, bX']
    . simp
    . rw [List.mem_map]
      rintro ⟨y, hy, e⟩
      exact hx (h y hy e ▸ hy)
theorem f8' (f : α -> β) (U : α -> Prop) (inj : ∀ a b, U a -> U b -> f a = f b -> a = b) : ∀ (xs F : List α), (∀ x ∈ F, U x) -> (∀ x ∈ xs, U x) -> (cD' F xs).map f = cD' (F.map f) (xs.map f)
  | [], _, _, _ => rfl
  | x :: xs, F, hF, hx => by
    have ux := hx x (by simp)
    rw [ci', f8' f U inj xs (ins F x) (fun y hy => (rk'.mp hy).elim (hF y) fun e => e ▸ ux) (fun y hy => hx y (by simp [hy])), lI' f fun y hy e => inj y x (hF y hy) ux e, List.map_cons, ci']
theorem dE' (f : α -> β) (xs : List α) (inj : ∀ a ∈ xs, ∀ b ∈ xs, f a = f b -> a = b) : am' (xs.map f) = (am' xs).map f :=
  (f8' f (· ∈ xs) (fun a b ha hb => inj a ha b hb) xs [] (fun _ h => nomatch h) (fun _ h => h)).symm
theorem we' : ∀ {xs : List α}, xs.Nodup -> xs.map (fun x => xs.idxOf x) = List.range xs.length := by
  intro xs h
  refine List.ext_getElem (by simp) fun i h1 h2 => ?_
  rw [List.getElem_map, List.getElem_range]
  rw [List.length_map] at h1
  exact List.Nodup.idxOf_getElem h i h1
theorem tb' (xs : List α) : am' (xs.map fun x => (am' xs).idxOf x) = List.range (am' xs).length := by
  rw [dE' (fun x => (am' xs).idxOf x) xs, we' g5']
  intro a ha b hb e
  have h1 : (am' xs)[(am' xs).idxOf a]? = some a := by
    rw [List.getElem?_eq_getElem (List.idxOf_lt_length_iff.mpr (aF'.mpr ha)), List.getElem_idxOf]
  have h2 : (am' xs)[(am' xs).idxOf b]? = some b := by
    rw [List.getElem?_eq_getElem (List.idxOf_lt_length_iff.mpr (aF'.mpr hb)), List.getElem_idxOf]
  rw [e, h2] at h1
  exact (Option.some.inj h1).symm
theorem bL' (g : α -> β) (X : List α) : (am' (X.map g)).length <= (am' X).length := by
  have h := i7' g X
  rw [<- h]
  have go : ∀ (ys F : List β), (cD' F ys).length <= F.length + ys.length := by
    intro ys
    induction ys with
    | nil => intro F; simp [cD']
    | cons y ys ih =>
      intro F
      rw [ci']
      refine Nat.le_trans (ih _) ?_
      have : (ins F y).length <= F.length + 1 := by unfold ins; split <;> simp
      simp only [List.length_cons]
      omega
  have := go ((am' X).map g) []
  simpa [am'] using this
theorem g4' (g : α -> β) (X : List α) (h : (am' (X.map g)).length = (am' X).length) : ∀ a ∈ X, ∀ b ∈ X, g a = g b -> a = b := by
  have go : ∀ (l : List α), (am' (l.reverse.map g)).length = (am' l.reverse).length -> ∀ a ∈ l, ∀ b ∈ l, g a = g b -> a = b := by
    intro l
    induction l with
    | nil => intro _ a ha; cases ha
    | cons x l ih =>
      intro h
      rw [List.reverse_cons, List.map_append, List.map_cons, List.map_nil, bB', bB'] at h
      by_cases hx : x ∈ l
      . have hx' : x ∈ am' l.reverse := aF'.mpr (List.mem_reverse.mpr hx)
        have hg : g x ∈ am' (l.reverse.map g) := aF'.mpr (List.mem_map.mpr ⟨x, List.mem_reverse.mpr hx, rfl⟩)
        rw [co' hx', co' hg] at h
        intro a ha b hb e
        have ha' : a ∈ l := (List.mem_cons.mp ha).elim (fun e => e ▸ hx) id
        have hb' : b ∈ l := (List.mem_cons.mp hb).elim (fun e => e ▸ hx) id
        exact ih h a ha' b hb' e
      . have hx' : x ∉ am' l.reverse := fun q => hx (List.mem_reverse.mp (aF'.mp q))
        rw [bX' hx', List.length_append, List.length_singleton] at h
        have le := bL' g l.reverse
        by_cases hg : g x ∈ am' (l.reverse.map g)
        . rw [co' hg] at h; omega
        . rw [bX' hg, List.length_append, List.length_singleton] at h
          have ih := ih (by omega)
          have no : ∀ a ∈ l, g a ≠ g x := fun a ha e => hg (aF'.mpr (List.mem_map.mpr ⟨a, List.mem_reverse.mpr ha, e⟩))
          intro a ha b hb e
          rcases List.mem_cons.mp ha with ea | ha2
          . rcases List.mem_cons.mp hb with eb | hb2
            . rw [ea, eb]
            . exact absurd (by rw [<- ea]; exact e.symm) (no b hb2)
          . rcases List.mem_cons.mp hb with eb | hb2
            . exact absurd (by rw [<- eb]; exact e) (no a ha2)
            . exact ih a ha2 b hb2 e
  intro a ha b hb e
  exact go X.reverse (by rw [List.reverse_reverse]; exact h) a (List.mem_reverse.mpr ha) b (List.mem_reverse.mpr hb) e
end
def ap' (T : List (List Nat)) (s : Nat) : List Nat := (T[s]?).getD []
def bfs (T : List (List Nat)) : Nat -> List Nat
  | 0 => [0]
  | j + 1 => match (bfs T j)[j]? with
    | some s => cD' (bfs T j) (ap' T s)
    | none => bfs T j
section
variable {T : List (List Nat)} {n m : Nat}
theorem if' (h : bi' T n m) {s t : Nat} (ht : t ∈ ap' T s) : t < n := by
  unfold ap' at ht
  cases e : T[s]? with
  | none => rw [e] at ht; cases ht
  | some r =>
    rw [e] at ht
    exact (h.2 r (List.mem_of_getElem? e)).2 t ht
theorem cd' (h : bi' T n m) {s : Nat} (hs : s < n) : (ap' T s).length = m := by
  unfold ap'
  rw [List.getElem?_eq_getElem (by rw [h.1]; exact hs)]
  exact (h.2 _ (List.getElem_mem _)).1
theorem cJ' (h : bi' T n m) {s : Nat} (hs : s < n) : T[s]? = some (ap' T s) := by
  unfold ap'
  rw [List.getElem?_eq_getElem (by rw [h.1]; exact hs)]
  rfl
theorem ju' : ∀ {j : Nat}, bfs T j <+: bfs T (j + 1) := by
  intro j
  show bfs T j <+: (match (bfs T j)[j]? with | some s => cD' (bfs T j) (ap' T s) | none => bfs T j)
  split
  . exact dV'
  . exact List.prefix_refl _
theorem b8' {i j : Nat} (h : i <= j) : bfs T i <+: bfs T j := by
  induction h with
  | refl => exact List.prefix_refl _
  | step _ ih => exact ih.trans ju'
theorem iz' : ∀ j : Nat, (bfs T j).Nodup
  | 0 => by simp [bfs]
  | j + 1 => by
    show (match (bfs T j)[j]? with | some s => cD' (bfs T j) (ap' T s) | none => bfs T j).Nodup
    split
    . exact fE' (iz' j)
    . exact iz' j
theorem hz' (h : bi' T n m) (hn : 1 <= n) : ∀ {j s : Nat}, s ∈ bfs T j -> s < n := by
  intro j
  induction j with
  | zero => intro s hs; simp [bfs] at hs; omega
  | succ j ih =>
    intro s hs
    have hs : s ∈ (match (bfs T j)[j]? with | some s => cD' (bfs T j) (ap' T s) | none => bfs T j) := hs
    split at hs
    . rcases b7'.mp hs with h1 | h1
      . exact ih h1
      . exact if' h h1
    . exact ih hs
theorem oF' {l : List Nat} (hn : l.Nodup) (h : ∀ s ∈ l, s < n) : l.length <= n := by
  have := List.Nodup.length_le_of_subset hn fun s hs => List.mem_range.mpr (h s hs)
  simpa using this
theorem b0' (h : bi' T n m) (hn : 1 <= n) (j : Nat) : (bfs T j).length <= n := oF' (iz' j) fun _ hs => hz' h hn hs
theorem gE' {j : Nat} (h : (bfs T j).length <= j) : ∀ {i : Nat}, j <= i -> bfs T i = bfs T j := by
  intro i hi
  induction hi with
  | refl => rfl
  | @step i hi ih =>
    show (match (bfs T i)[i]? with | some s => cD' (bfs T i) (ap' T s) | none => bfs T i) = _
    have : (bfs T i)[i]? = none := by rw [ih]; exact List.getElem?_eq_none (Nat.le_trans h hi)
    rw [this, ih]
theorem eb' {j s : Nat} (h : (bfs T j)[j]? = some s) : bfs T (j + 1) = cD' (bfs T j) (ap' T s) := by
  show (match (bfs T j)[j]? with | some s => cD' (bfs T j) (ap' T s) | none => bfs T j) = _
  rw [h]
def reach (T : List (List Nat)) : List Nat := bfs T T.length
theorem dS' (h : bi' T T.length m) (hn : 1 <= T.length) {j : Nat} (hj : (bfs T j).length <= j) : bfs T j = reach T := by
  have hl := b0' h hn
  by_cases q : j <= T.length
  . exact (gE' hj q).symm
  . exact gE' (hl _) (by omega)
theorem dx' {j s : Nat} (h : bi' T T.length m) (hn : 1 <= T.length) (e : (reach T)[j]? = some s) : (bfs T j)[j]? = some s := by
  -- what stands at j is found before j is walked
  have h1 : j < (bfs T j).length := by
    rcases Nat.lt_or_ge j (bfs T j).length with q | q
    . exact q
    . have := dS' h hn q
      rw [<- this] at e
      have := (List.getElem?_eq_some_iff.mp e).1
      omega
  have hle : j <= T.length := by
    have := (List.getElem?_eq_some_iff.mp e).1
    have := b0' h hn T.length
    unfold reach at *
    omega
  obtain ⟨G, eG⟩ := b8' (T := T) hle
  unfold reach at e
  rw [<- eG, List.getElem?_append_left h1] at e
  exact e
theorem eP' : (reach T).Nodup := iz' _
theorem gz' (h : bi' T T.length m) (hn : 1 <= T.length) {s : Nat} (hs : s ∈ reach T) : s < T.length := hz' h hn hs
theorem vP' : (reach T)[0]? = some 0 := by
  obtain ⟨G, e⟩ := b8' (T := T) (Nat.zero_le T.length)
  unfold reach
  rw [<- e]
  rfl
theorem dT' : 0 ∈ reach T := List.mem_of_getElem? vP'
theorem cK' (h : bi' T T.length m) (hn : 1 <= T.length) {s t : Nat} (hs : s ∈ reach T) (ht : t ∈ ap' T s) : t ∈ reach T := by
  obtain ⟨j, hj, e⟩ := List.getElem_of_mem hs
  have e : (reach T)[j]? = some s := by rw [List.getElem?_eq_getElem hj, e]
  have e2 := eb' (dx' h hn e)
  have hl := b0' h hn T.length
  have hj' : j + 1 <= T.length := by unfold reach at hj; omega
  exact (b8' hj').subset (by rw [e2]; exact b7'.mpr (.inr ht))
end
section
variable {γ : Type} [DecidableEq γ] {S : List Nat}
def jy' (S : List Nat) (f : Nat -> γ) (s : Nat) : Nat := (am' (S.map f)).idxOf (f s)
theorem i8' (f : Nat -> γ) : am' (S.map (jy' S f)) = List.range (am' (S.map f)).length := by
  have := tb' (S.map f)
  rw [List.map_map] at this
  exact this
theorem i9' (f : Nat -> γ) {s : Nat} (hs : s ∈ S) : (am' (S.map f))[jy' S f s]? = some (f s) := by
  have : jy' S f s < (am' (S.map f)).length := List.idxOf_lt_length_iff.mpr (aF'.mpr (List.mem_map.mpr ⟨s, hs, rfl⟩))
  rw [List.getElem?_eq_getElem this]
  exact congrArg some (List.getElem_idxOf _)
theorem dY' (f : Nat -> γ) {s t : Nat} (hs : s ∈ S) (ht : t ∈ S) : jy' S f s = jy' S f t ↔ f s = f t := by
  constructor
  . intro e
    have h1 := i9' f hs
    rw [e, i9' f ht] at h1
    exact (Option.some.inj h1).symm
  . intro e; unfold jy'; rw [e]
end
def key (T : List (List Nat)) (c : Nat -> Nat) (s : Nat) : Nat × List Nat := (c s, (ap' T s).map c)
def Leq (L : Tx) (T : List (List Nat)) (A : List Nat) (s t : Nat) : Prop := ∀ x : Tx, (∀ a ∈ x, a ∈ L) -> (run L T s x ∈ A ↔ run L T t x ∈ A)
structure Clz (L : Tx) (T : List (List Nat)) (A : List Nat) (S : List Nat) (c : Nat -> Nat) (k : Nat) : Prop where
  num : am' (S.map c) = List.range k
  ref : ∀ s ∈ S, ∀ t ∈ S, c s = c t -> (s ∈ A ↔ t ∈ A)
  co : ∀ s ∈ S, ∀ t ∈ S, Leq L T A s t -> c s = c t
section
variable {L : Tx} {T : List (List Nat)} {A S : List Nat} {c : Nat -> Nat} {k : Nat}
theorem gM' (s a : Nat) : stp L T s a = ((ap' T s)[L.idxOf a]?).getD 0 := rfl
theorem gO' (hL : L.Nodup) {s i : Nat} (hi : i < L.length) : stp L T s L[i] = ((ap' T s)[i]?).getD 0 := by rw [gM', hL.idxOf_getElem i hi]
theorem gN' (h : bi' T T.length L.length) {s a : Nat} (hs : s < T.length) (ha : a ∈ L) : stp L T s a ∈ ap' T s := by
  obtain ⟨r, h1, h2, _⟩ := h6' h hs ha
  have : ap' T s = r := by unfold ap'; rw [h1]; rfl
  rw [this]
  exact List.mem_of_getElem? h2
theorem Leq.step (h : Leq L T A s t) (ha : a ∈ L) : Leq L T A (stp L T s a) (stp L T t a) := fun x hx => by
  have := h (a :: x) fun b hb => (List.mem_cons.mp hb).elim (fun e => e ▸ ha) (hx b)
  exact this
theorem Leq.refl (s : Nat) : Leq L T A s s := fun _ _ => Iff.rfl
theorem Leq.symm (h : Leq L T A s t) : Leq L T A t s := fun x hx => (h x hx).symm
theorem Leq.trans (h : Leq L T A s t) (h' : Leq L T A t u) : Leq L T A s u := fun x hx => (h x hx).trans (h' x hx)
theorem qL' (h : bi' T T.length L.length) (hL : L.Nodup) {s t : Nat} (hs : s < T.length) (ht : t < T.length) (hc : ∀ a ∈ L, c (stp L T s a) = c (stp L T t a)) : (ap' T s).map c = (ap' T t).map c := by
  have l1 := cd' h hs
  have l2 := cd' h ht
  refine List.ext_getElem (by simp [l1, l2]) fun i h1 h2 => ?_
  rw [List.getElem_map, List.getElem_map]
  rw [List.length_map] at h1 h2
  have := hc L[i] (List.getElem_mem (by omega))
  rw [gO' hL (by omega), gO' hL (by omega), List.getElem?_eq_getElem h1, List.getElem?_eq_getElem h2] at this
  exact this
theorem Clz.lt (h : Clz L T A S c k) {s : Nat} (hs : s ∈ S) : c s < k := by
  have : c s ∈ am' (S.map c) := aF'.mpr (List.mem_map.mpr ⟨s, hs, rfl⟩)
  rw [h.num] at this
  exact List.mem_range.mp this
theorem Clz.first : Clz L T A S (jy' S fun s => decide (s ∈ A)) (am' (S.map fun s => decide (s ∈ A))).length := by
  refine ⟨i8' _, fun s hs t ht e => ?_, fun s hs t ht e => (dY' _ hs ht).mpr ?_⟩
  . have := (dY' _ hs ht).mp e
    simpa using this
  . have := e [] (fun _ h => nomatch h)
    simpa [qK'] using this
theorem Clz.next (hT : bi' T T.length L.length) (hL : L.Nodup) (hS : ∀ s ∈ S, s < T.length) (hcl : ∀ s ∈ S, ∀ t ∈ ap' T s, t ∈ S) (h : Clz L T A S c k) : Clz L T A S (jy' S (key T c)) (am' (S.map (key T c))).length := by
  refine ⟨i8' _, fun s hs t ht e => ?_, fun s hs t ht e => (dY' _ hs ht).mpr ?_⟩
  . have := (dY' _ hs ht).mp e
    exact h.ref s hs t ht (congrArg Prod.fst this)
  . refine Prod.ext (h.co s hs t ht e) (qL' hT hL (hS s hs) (hS t ht) fun a ha => ?_)
    exact h.co _ (hcl s hs _ (gN' hT (hS s hs) ha)) _ (hcl t ht _ (gN' hT (hS t ht) ha)) (e.step ha)
theorem jk' : (S.map (key T c)).map Prod.fst = S.map c := by rw [List.map_map]; rfl
theorem Clz.le (h : Clz L T A S c k) : k <= (am' (S.map (key T c))).length := by
  have := bL' Prod.fst (S.map (key T c))
  rw [jk', h.num, List.length_range] at this
  exact this
theorem Clz.stable (h : Clz L T A S c k) (he : (am' (S.map (key T c))).length <= k) : ∀ s ∈ S, ∀ t ∈ S, c s = c t -> key T c s = key T c t := fun s hs t ht e => by
  have hk := Nat.le_antisymm he h.le
  refine g4' Prod.fst (S.map (key T c)) ?_ _ (List.mem_map.mpr ⟨s, hs, rfl⟩) _ (List.mem_map.mpr ⟨t, ht, rfl⟩) e
  rw [jk', h.num, List.length_range, hk]
theorem Clz.same (h : Clz L T A S c k) (he : (am' (S.map (key T c))).length <= k) : ∀ s ∈ S, jy' S (key T c) s = c s := fun s hs => by
  have st := h.stable he
  have e : am' ((S.map (key T c)).map Prod.fst) = (am' (S.map (key T c))).map Prod.fst := dE' Prod.fst _ fun a ha b hb q => by
    obtain ⟨s1, h1, rfl⟩ := List.mem_map.mp ha
    obtain ⟨s2, h2, rfl⟩ := List.mem_map.mp hb
    exact st s1 h1 s2 h2 q
  rw [jk', h.num] at e
  have g := i9' (key T c) hs
  have g2 : ((am' (S.map (key T c))).map Prod.fst)[jy' S (key T c) s]? = some (c s) := by rw [List.getElem?_map, g]; rfl
  rw [<- e] at g2
  obtain ⟨hl, g3⟩ := List.getElem?_eq_some_iff.mp g2
  rw [List.getElem_range] at g3
  exact g3
end
theorem sc' : ∀ {a b : List Nat}, a.Pairwise (· < ·) -> b.Pairwise (· < ·) -> (∀ q, q ∈ a ↔ q ∈ b) -> a = b
  | [], [], _, _, _ => rfl
  | [], y :: b, _, _, h => by have := (h y).mpr (by simp); cases this
  | x :: a, [], _, _, h => by have := (h x).mp (by simp); cases this
  | x :: a, y :: b, ha, hb, h => by
    obtain ⟨ha1, ha2⟩ := List.pairwise_cons.mp ha
    obtain ⟨hb1, hb2⟩ := List.pairwise_cons.mp hb
    have exy : x = y := by
      have hx : x ∈ y :: b := (h x).mp (by simp)
      have hy : y ∈ x :: a := (h y).mpr (by simp)
      rcases List.mem_cons.mp hx with e | hx
      . exact e
      . rcases List.mem_cons.mp hy with e | hy
        . exact e.symm
        . have := hb1 x hx
          have := ha1 y hy
          omega
    subst exy
    rw [sc' ha2 hb2 fun q => ?_]
    constructor
    . intro hq
      have := (h q).mp (by simp [hq])
      rcases List.mem_cons.mp this with e | e
      . have := ha1 q hq; omega
      . exact e
    . intro hq
      have := (h q).mpr (by simp [hq])
      rcases List.mem_cons.mp this with e | e
      . have := hb1 q hq; omega
      . exact e
def bD' (S : List Nat) (c : Nat -> Nat) (q : Nat) : Nat := (S.find? fun s => decide (c s = q)).getD 0
def b4' (T : List (List Nat)) (S : List Nat) (c : Nat -> Nat) (k : Nat) : List (List Nat) := (List.range k).map fun q => (ap' T (bD' S c q)).map c
def f9' (A : List Nat) (S : List Nat) (c : Nat -> Nat) (k : Nat) : List Nat := (List.range k).filter fun q => decide (bD' S c q ∈ A)
structure IsLeast (L : Tx) (T : List (List Nat)) (A : List Nat) (c : Nat -> Nat) (T' : List (List Nat)) (A' : List Nat) : Prop where
  tab : bi' T' T'.length L.length
  ne : 1 <= T'.length
  le : T'.length <= T.length
  acc : AccOk A' T'.length
  c0 : c 0 = 0
  lt : ∀ s ∈ reach T, c s < T'.length
  row : ∀ s ∈ reach T, ap' T' (c s) = (ap' T s).map c
  fin : ∀ s ∈ reach T, (c s ∈ A' ↔ s ∈ A)
  onto : ∀ q < T'.length, ∃ s ∈ reach T, c s = q
  reach : reach T' = List.range T'.length
  apart : ∀ p < T'.length, ∀ q < T'.length, Leq L T' A' p q -> p = q
  num : am' ((M.reach T).map c) = List.range T'.length
section
variable {L : Tx} {T : List (List Nat)} {A : List Nat} {c : Nat -> Nat} {k : Nat}
theorem vA' {T' : List (List Nat)} (hT : bi' T T.length L.length) {s a : Nat} (hs : s < T.length) (ha : a ∈ L) (e : ap' T' (c s) = (ap' T s).map c) : stp L T' (c s) a = c (stp L T s a) := by
  rw [gM', gM', e]
  have l1 := cd' hT hs
  have hi : L.idxOf a < L.length := List.idxOf_lt_length_iff.mpr ha
  rw [List.getElem?_map, List.getElem?_eq_getElem (by omega)]
  rfl
theorem iU' {T' : List (List Nat)} {S : List Nat} (hT : bi' T T.length L.length) (hS : ∀ s ∈ S, s < T.length) (hcl : ∀ s ∈ S, ∀ t ∈ ap' T s, t ∈ S) (hr : ∀ s ∈ S, ap' T' (c s) = (ap' T s).map c) :
    ∀ x : Tx, (∀ a ∈ x, a ∈ L) -> ∀ s ∈ S, run L T' (c s) x = c (run L T s x) /\ run L T s x ∈ S
  | [], _, s, hs => ⟨rfl, hs⟩
  | a :: x, hx, s, hs => by
    have ha := hx a (by simp)
    rw [eO', eO', vA' hT (hS s hs) ha (hr s hs)]
    exact iU' hT hS hcl hr x (fun b hb => hx b (by simp [hb])) _ (hcl s hs _ (gN' hT (hS s hs) ha))
theorem dy' {l : List Nat} {k : Nat} (h : l <+: List.range k) : l = List.range l.length := by
  obtain ⟨G, e⟩ := h
  refine List.ext_getElem (by simp) fun i h1 h2 => ?_
  have : (l ++ G)[i]? = (List.range k)[i]? := by rw [e]
  have hk : i < k := by
    have := congrArg List.length e
    simp only [List.length_append, List.length_range] at this
    omega
  rw [List.getElem?_append_left h1, List.getElem?_eq_getElem h1, List.getElem?_eq_getElem (by simpa using hk), List.getElem_range] at this
  rw [List.getElem_range]
  exact Option.some.inj this
theorem dc' {F G : List Nat} (c : Nat -> Nat) (h : F <+: G) : am' (F.map c) <+: am' (G.map c) := by
  obtain ⟨K, rfl⟩ := h
  rw [List.map_append, am', am', df']
  exact dV'
theorem nR' (hT : bi' T T.length L.length) (hL : L.Nodup) (hn : 1 <= T.length) (h : Clz L T A (reach T) c k) (st : ∀ s ∈ reach T, ∀ t ∈ reach T, c s = c t -> key T c s = key T c t) :
    IsLeast L T A c (b4' T (reach T) c k) (f9' A (reach T) c k) := by
  have hS : ∀ s ∈ reach T, s < T.length := fun s hs => gz' hT hn hs
  have hcl : ∀ s ∈ reach T, ∀ t ∈ ap' T s, t ∈ reach T := fun s hs t ht => cK' hT hn hs ht
  have lenT : (b4' T (reach T) c k).length = k := by simp [b4']
  have fst : ∀ q < k, bD' (reach T) c q ∈ reach T /\ c (bD' (reach T) c q) = q := by
    intro q hq
    have : q ∈ am' ((reach T).map c) := by rw [h.num]; exact List.mem_range.mpr hq
    obtain ⟨s, hs, e⟩ := List.mem_map.mp (aF'.mp this)
    unfold bD'
    cases f : (reach T).find? fun s => decide (c s = q) with
    | none =>
      have := List.find?_eq_none.mp f s hs
      simp [e] at this
    | some t => exact ⟨List.mem_of_find?_eq_some f, by have := List.find?_some f; simpa using this⟩
  have c0 : c 0 = 0 := by
    have h1 : am' (([0] : List Nat).map c) <+: am' ((reach T).map c) := dc' c (by
      have := b8' (T := T) (Nat.zero_le T.length)
      exact this)
    rw [h.num] at h1
    have h2 := dy' h1
    have h3 : am' (([0] : List Nat).map c) = [c 0] := rfl
    rw [h3] at h2
    simpa using h2
  have lt : ∀ s ∈ reach T, c s < k := fun s hs => h.lt hs
  have gB' : 1 <= k := by have := lt 0 dT'; omega
  have rowL : ∀ q < k, ap' (b4' T (reach T) c k) q = (ap' T (bD' (reach T) c q)).map c := by
    intro q hq
    unfold ap'
    unfold b4'
    rw [List.getElem?_map, List.getElem?_range hq]
    rfl
  have row : ∀ s ∈ reach T, ap' (b4' T (reach T) c k) (c s) = (ap' T s).map c := by
    intro s hs
    rw [rowL _ (lt s hs)]
    obtain ⟨f1, f2⟩ := fst _ (lt s hs)
    exact congrArg Prod.snd (st _ f1 s hs f2)
  have fin : ∀ s ∈ reach T, (c s ∈ f9' A (reach T) c k ↔ s ∈ A) := by
    intro s hs
    unfold f9'
    rw [List.mem_filter, List.mem_range]
    obtain ⟨f1, f2⟩ := fst _ (lt s hs)
    have := h.ref _ f1 s hs f2
    simp [lt s hs, this]
  have onto : ∀ q < k, ∃ s ∈ reach T, c s = q := fun q hq => ⟨_, (fst q hq).1, (fst q hq).2⟩
  have kle : k <= T.length := by
    have h1 := bL' c (reach T)
    rw [h.num, List.length_range, ce' eP'] at h1
    exact Nat.le_trans h1 (b0' hT hn _)
  have tab : bi' (b4' T (reach T) c k) (b4' T (reach T) c k).length L.length := by
    refine ⟨rfl, fun r hr => ?_⟩
    unfold b4' at hr
    obtain ⟨q, hq, rfl⟩ := List.mem_map.mp hr
    obtain ⟨f1, f2⟩ := fst q (List.mem_range.mp hq)
    refine ⟨by rw [List.length_map]; exact cd' hT (hS _ f1), fun t ht => ?_⟩
    obtain ⟨u, hu, rfl⟩ := List.mem_map.mp ht
    rw [lenT]
    exact lt u (hcl _ f1 u hu)
  have apart : ∀ p < k, ∀ q < k, Leq L (b4' T (reach T) c k) (f9' A (reach T) c k) p q -> p = q := by
    intro p hp q hq hl
    obtain ⟨f1, f2⟩ := fst p hp
    obtain ⟨g1, g2⟩ := fst q hq
    rw [<- f2, <- g2]
    refine h.co _ f1 _ g1 fun x hx => ?_
    have a1 := iU' hT hS hcl row x hx _ f1
    have a2 := iU' hT hS hcl row x hx _ g1
    have := hl x hx
    rw [<- f2, <- g2, a1.1, a2.1, fin _ a1.2, fin _ a2.2] at this
    exact this
  -- the order in which the classes are found
  have seq : ∀ j, j <= (reach T).length -> bfs (b4' T (reach T) c k) (am' (((reach T).take j).map c)).length = am' ((bfs T j).map c) := by
    intro j
    induction j with
    | zero =>
      intro _
      show [0] = am' [c 0]
      rw [c0]; rfl
    | succ j ih =>
      intro hj
      have ih := ih (by omega)
      have hs : (reach T)[j]? = some (reach T)[j] := List.getElem?_eq_getElem (by omega)
      generalize (reach T)[j] = s at hs
      have hsb := dx' hT hn hs
      have hsm : s ∈ reach T := List.mem_of_getElem? hs
      have tk : (reach T).take (j + 1) = (reach T).take j ++ [s] := by rw [List.take_succ, hs]; rfl
      have hpre : am' (((reach T).take j).map c) <+: List.range k := by rw [<- h.num]; exact dc' c (List.take_prefix ..)
      have hr := dy' hpre
      have hpre2 : am' (((reach T).take (j + 1)).map c) <+: List.range k := by rw [<- h.num]; exact dc' c (List.take_prefix ..)
      have hjl : j <= T.length := by
        have := b0' hT hn T.length
        unfold reach at hj
        omega
      rw [eb' hsb, ct']
      rw [tk, List.map_append, List.map_cons, List.map_nil, bB'] at hpre2 ⊢
      by_cases hc : c s ∈ am' (((reach T).take j).map c)
      . rw [co' hc, ih]
        refine (ji' fun y hy => ?_).symm
        obtain ⟨y0, hy0, rfl⟩ := List.mem_map.mp hy
        obtain ⟨s', hs', e'⟩ := List.mem_map.mp (aF'.mp hc)
        have hs'm : s' ∈ reach T := List.mem_of_mem_take hs'
        have rr : (ap' T s').map c = (ap' T s).map c := congrArg Prod.snd (st _ hs'm _ hsm e')
        have : c y0 ∈ (ap' T s').map c := by rw [rr]; exact hy
        obtain ⟨y1, hy1, e1⟩ := List.mem_map.mp this
        refine aF'.mpr (List.mem_map.mpr ⟨y1, ?_, e1⟩)
        obtain ⟨i, hi, ei⟩ := List.getElem_of_mem hs'
        rw [List.length_take] at hi
        rw [List.getElem_take] at ei
        have gi : (reach T)[i]? = some s' := by rw [List.getElem?_eq_getElem (by omega), ei]
        have := eb' (dx' hT hn gi)
        exact (b8' (show i + 1 <= j by omega)).subset (by rw [this]; exact b7'.mpr (.inr hy1))
      . rw [bX' hc] at hpre2 ⊢
        have hq := dy' hpre2
        have hcs : c s = (am' (((reach T).take j).map c)).length := by
          have := congrArg (fun l => l[(am' (((reach T).take j).map c)).length]?) hq
          simp only [List.getElem?_append_right (Nat.le_refl _), Nat.sub_self, List.getElem?_cons_zero, List.length_append, List.length_singleton] at this
          rw [List.getElem?_range (by omega)] at this
          exact Option.some.inj this
        rw [List.length_append, List.length_singleton]
        have hG : am' ((bfs T j).map c) <+: List.range k := by rw [<- h.num]; exact dc' c (b8' hjl)
        have hGr := dy' hG
        have hmem : c s ∈ am' ((bfs T j).map c) := aF'.mpr (List.mem_map.mpr ⟨s, List.mem_of_getElem? hsb, rfl⟩)
        have hget : (bfs (b4' T (reach T) c k) (am' (((reach T).take j).map c)).length)[(am' (((reach T).take j).map c)).length]? = some (c s) := by
          rw [ih, <- hcs]
          rw [hGr] at hmem ⊢
          rw [List.getElem?_range (List.mem_range.mp hmem)]
        rw [eb' hget, ih, row s hsm]
  have rch : reach (b4' T (reach T) c k) = List.range (b4' T (reach T) c k).length := by
    have e := seq (reach T).length (Nat.le_refl _)
    rw [List.take_length, h.num, List.length_range] at e
    have hb : bfs T (reach T).length = reach T := by
      refine dS' hT hn ?_
      have := b8' (T := T) (show (reach T).length <= T.length from b0' hT hn _)
      exact this.length_le
    rw [hb, h.num] at e
    show bfs _ (b4' T (reach T) c k).length = _
    rw [lenT]
    exact e
  refine ⟨tab, by rw [lenT]; exact gB', by rw [lenT]; exact kle, ⟨?_, fun a ha => ?_⟩, c0, by rw [lenT]; exact lt, row, fin, by rw [lenT]; exact onto, rch, by rw [lenT]; exact apart, by rw [lenT]; exact h.num⟩
  . exact List.Pairwise.filter _ List.pairwise_lt_range
  . rw [lenT]
    exact List.mem_range.mp (List.mem_filter.mp ha).1
end
structure Cw (L : Tx) (T : List (List Nat)) (A : List Nat) (S : List Nat) (c : Nat -> Nat) : Prop where
  ref : ∀ s ∈ S, ∀ t ∈ S, c s = c t -> (s ∈ A ↔ t ∈ A)
  co : ∀ s ∈ S, ∀ t ∈ S, Leq L T A s t -> c s = c t
section
variable {L : Tx} {T : List (List Nat)} {A S : List Nat} {c : Nat -> Nat} {k : Nat}
theorem Clz.cw (h : Clz L T A S c k) : Cw L T A S c := ⟨h.ref, h.co⟩
theorem Cw.next (hT : bi' T T.length L.length) (hL : L.Nodup) (hS : ∀ s ∈ S, s < T.length) (hcl : ∀ s ∈ S, ∀ t ∈ ap' T s, t ∈ S) (h : Cw L T A S c) : Clz L T A S (jy' S (key T c)) (am' (S.map (key T c))).length := by
  refine ⟨i8' _, fun s hs t ht e => ?_, fun s hs t ht e => (dY' _ hs ht).mpr ?_⟩
  . have := (dY' _ hs ht).mp e
    exact h.ref s hs t ht (congrArg Prod.fst this)
  . refine Prod.ext (h.co s hs t ht e) (qL' hT hL (hS s hs) (hS t ht) fun a ha => ?_)
    exact h.co _ (hcl s hs _ (gN' hT (hS s hs) ha)) _ (hcl t ht _ (gN' hT (hS t ht) ha)) (e.step ha)
end
def eB' (X : D) (T : List (List Nat)) : Prop := ∀ (s : Nat) (r : List Nat), T[s]? = some r -> ∃ R, pIx X (.int (s : Nat)) = some R /\ ek' R = some (r.map fun t => .int (t : Nat))
def eE' (Y : D) (A : List Nat) : Prop := ∀ s : Nat, pIn (.int (s : Nat)) Y = some (.bl (decide (s ∈ A)))
theorem eB'.tab (T : List (List Nat)) : eB' (cy' T) T := fun s r h => ⟨cF' r, by
  show ati (T.map cF') (s : Int) = _
  rw [ld' (by omega), List.getElem?_map, Int.toNat_natCast, h]; rfl, rfl⟩
theorem eE'.acc (A : List Nat) : eE' (dg' A) A := fun s => by
  have h := rY' A s (Q := fun d => d = .bl (decide (s ∈ A)))
  have : wD (pIn (.int (s : Nat)) (dg' A)) (fun d => d = .bl (decide (s ∈ A))) := by rw [h]
  rw [ar'] at this
  cases e : pIn (.int (s : Nat)) (dg' A) with
  | none => rw [e] at this; exact this.elim
  | some d => rw [e] at this; exact congrArg some this
def ixo {γ : Type} [DecidableEq γ] (G : List γ) (a : γ) : Nat := G.idxOf a
theorem lM' {γ : Type} [DecidableEq γ] {G G' : List γ} {a : γ} (h : G <+: G') (hm : a ∈ G) : ixo G' a = ixo G a := by
  obtain ⟨K, e⟩ := h
  unfold ixo
  rw [<- e, List.idxOf_append, if_pos hm]
theorem rK' {γ : Type} [DecidableEq γ] {G : List γ} {a : γ} (hm : a ∉ G) : ixo (G ++ [a]) a = G.length := by
  unfold ixo
  rw [List.idxOf_append, if_neg hm]
  simp
theorem tc' {γ : Type} [DecidableEq γ] (S : List Nat) (f : Nat -> γ) (s : Nat) : jy' S f s = ixo (am' (S.map f)) (f s) := rfl
theorem oG' {γ : Type} [DecidableEq γ] (G : List γ) (k : γ) : (G.map fun a => (a, D.int (ixo G a : Nat))).lookup k = if k ∈ G then some (D.int (ixo G k : Nat)) else none := by
  have go : ∀ (l : List γ) (h : γ -> D), (l.map fun a => (a, h a)).lookup k = if k ∈ l then some (h k) else none := by
    intro l h
    induction l with
    | nil => rfl
    | cons a l ih =>
      rw [List.map_cons, List.lookup_cons, ih]
      by_cases q : k = a
      . subst q; simp
      . have : (k == a) = false := by simpa using q
        simp [this, q]
  exact go G _
theorem lJ' {γ δ : Type} [DecidableEq γ] {l : List (γ × δ)} {k : γ} (h : l.lookup k = none) (d : δ) : (l ++ [(k, d)]).lookup k = some d := by
  rw [List.lookup_append, h]
  simp
section
variable {L : Tx} {T : List (List Nat)} {A : List Nat} {c c' : Nat -> Nat} {T1 T2 : List (List Nat)} {A1 A2 : List Nat}
end
theorem kE' {S : List Nat} {c : Nat -> Nat} {s q : Nat} (h : q ∈ S.map c) : bD' (S ++ [s]) c q = bD' S c q := by
  obtain ⟨t, ht, rfl⟩ := List.mem_map.mp h
  unfold bD'
  rw [List.find?_append]
  cases e : S.find? fun s => decide (c s = c t) with
  | none =>
    have := List.find?_eq_none.mp e t ht
    simp at this
  | some u => rfl
theorem kF' {S : List Nat} {c : Nat -> Nat} {s : Nat} (h : c s ∉ S.map c) : bD' (S ++ [s]) c (c s) = s := by
  unfold bD'
  rw [List.find?_append]
  have : (S.find? fun t => decide (c t = c s)) = none := by
    rw [List.find?_eq_none]
    intro t ht e
    exact h (List.mem_map.mpr ⟨t, ht, by simpa using e⟩)
  rw [this]
  simp
def Pl (y : Option O) : Prop := y = none \/ ∃ d, y = some (.fz d)
theorem Pl.keep {y : Option O} (h : Pl y) : rJ' (some y) = y := by rcases h with rfl | ⟨d, rfl⟩ <;> rfl
end M
namespace M
section
variable {L : Tx} {T T' U : List (List Nat)} {A A' B T1 A1 T2 A2 : List Nat} {m : Nat} {c : Nat -> Nat}
theorem qR' {m : Nat} (hT : bi' T T.length m) (hn : 1 <= T.length) (hT' : bi' T' T'.length m) (hn' : 1 <= T'.length) (c0 : c 0 = 0) (row : ∀ s ∈ reach T, ap' T' (c s) = (ap' T s).map c) :
    reach T' = am' ((reach T).map c) := by
  have seq : ∀ j, j <= (reach T).length -> bfs T' (am' (((reach T).take j).map c)).length = am' ((bfs T j).map c) := by
    intro j
    induction j with
    | zero =>
      intro _
      show [0] = am' [c 0]
      rw [c0]; rfl
    | succ j ih =>
      intro hj
      have ih := ih (by omega)
      have hs : (reach T)[j]? = some (reach T)[j] := List.getElem?_eq_getElem (by omega)
      generalize (reach T)[j] = s at hs
      have hsb := dx' hT hn hs
      have hsm : s ∈ reach T := List.mem_of_getElem? hs
      have tk : (reach T).take (j + 1) = (reach T).take j ++ [s] := by rw [List.take_succ, hs]; rfl
      have hjl : j <= T.length := by
        have := b0' hT hn T.length
        unfold reach at hj
        omega
      rw [eb' hsb, ct']
      rw [tk, List.map_append, List.map_cons, List.map_nil, bB']
      by_cases hc : c s ∈ am' (((reach T).take j).map c)
      . rw [co' hc, ih]
        refine (ji' fun y hy => ?_).symm
        obtain ⟨y0, hy0, rfl⟩ := List.mem_map.mp hy
        obtain ⟨s', hs', e'⟩ := List.mem_map.mp (aF'.mp hc)
        have hs'm : s' ∈ reach T := List.mem_of_mem_take hs'
        have rr : (ap' T s').map c = (ap' T s).map c := by rw [<- row _ hs'm, <- row _ hsm, e']
        have : c y0 ∈ (ap' T s').map c := by rw [rr]; exact hy
        obtain ⟨y1, hy1, e1⟩ := List.mem_map.mp this
        refine aF'.mpr (List.mem_map.mpr ⟨y1, ?_, e1⟩)
        obtain ⟨i, hi, ei⟩ := List.getElem_of_mem hs'
        rw [List.length_take] at hi
        rw [List.getElem_take] at ei
        have gi : (reach T)[i]? = some s' := by rw [List.getElem?_eq_getElem (by omega), ei]
        have := eb' (dx' hT hn gi)
        exact (b8' (show i + 1 <= j by omega)).subset (by rw [this]; exact b7'.mpr (.inr hy1))
      . rw [bX' hc, List.length_append, List.length_singleton]
        have hpre : am' (((reach T).take (j + 1)).map c) <+: am' ((bfs T (j + 1)).map c) := by
          refine dc' c ?_
          have h1 : (bfs T (j + 1)) <+: reach T := by
            by_cases q : j + 1 <= T.length
            . exact b8' q
            . have := gE' (T := T) (j := T.length) (b0' hT hn _) (i := j + 1) (by omega)
              rw [this]; exact List.prefix_refl _
          have h2 : (reach T).take (j + 1) <+: reach T := List.take_prefix ..
          refine List.prefix_of_prefix_length_le h2 h1 ?_
          rw [List.length_take]
          have h3 := (List.getElem?_eq_some_iff.mp hsb).1
          have h4 := (ju' (T := T) (j := j)).length_le
          omega
        have hpre' : am' (((reach T).take (j + 1)).map c) <+: am' ((bfs T j).map c) := by
          refine dc' c ?_
          have h1 : (bfs T j) <+: reach T := b8' hjl
          refine List.prefix_of_prefix_length_le (List.take_prefix ..) h1 ?_
          rw [List.length_take]
          have h3 := (List.getElem?_eq_some_iff.mp hsb).1
          omega
        rw [tk, List.map_append, List.map_cons, List.map_nil, bB', bX' hc] at hpre'
        have hget : (bfs T' (am' (((reach T).take j).map c)).length)[(am' (((reach T).take j).map c)).length]? = some (c s) := by
          rw [ih]
          obtain ⟨G, eG⟩ := hpre'
          rw [<- eG, List.append_assoc, List.getElem?_append_right (Nat.le_refl _), Nat.sub_self]
          rfl
        rw [eb' hget, ih, row s hsm]
  have e := seq (reach T).length (Nat.le_refl _)
  rw [List.take_length] at e
  have hb : bfs T (reach T).length = reach T := by
    refine dS' hT hn ?_
    have := b8' (T := T) (show (reach T).length <= T.length from b0' hT hn _)
    exact this.length_le
  rw [hb] at e
  rw [<- e]
  refine (dS' hT' hn' ?_).symm
  rw [e]
  exact Nat.le_refl _
theorem ox' (hT : bi' T T.length L.length) (hL : L.Nodup) (hn : 1 <= T.length) : ∀ j, ∀ s ∈ bfs T j, ∃ x : Tx, (∀ a ∈ x, a ∈ L) /\ run L T 0 x = s := by
  intro j
  induction j with
  | zero =>
    intro s hs
    have : s = 0 := by simpa [bfs] using hs
    exact ⟨[], nofun, by rw [this]; rfl⟩
  | succ j ih =>
    intro s hs
    by_cases hq : j < (bfs T j).length
    . have e : (bfs T j)[j]? = some (bfs T j)[j] := List.getElem?_eq_getElem hq
      generalize (bfs T j)[j] = t at e
      rw [eb' e] at hs
      rcases b7'.mp hs with h | h
      . exact ih s h
      . have htm := List.mem_of_getElem? e
        obtain ⟨x, hx, hr⟩ := ih t htm
        have htl := hz' hT hn htm
        obtain ⟨i, hi, ei⟩ := List.getElem_of_mem h
        have hl := cd' hT htl
        have hi' : i < L.length := by omega
        refine ⟨x ++ [L[i]], fun a ha => ?_, ?_⟩
        . rcases List.mem_append.mp ha with q | q
          . exact hx a q
          . rw [List.mem_singleton.mp q]; exact List.getElem_mem hi'
        . rw [nw', hr, gO' hL hi', List.getElem?_eq_getElem hi, ei]; rfl
    . exact ih s (by rw [gE' (Nat.le_of_not_lt hq) (Nat.le_succ j)] at hs; exact hs)
theorem IsLeast.run0 {T1 : List (List Nat)} (hT : bi' T T.length L.length) (hn : 1 <= T.length) (h : IsLeast L T A c T1 A1) {x : Tx} (hx : ∀ a ∈ x, a ∈ L) : run L T1 0 x ∈ A1 ↔ run L T 0 x ∈ A := by
  have hS : ∀ s ∈ M.reach T, s < T.length := fun s hs => gz' hT hn hs
  have hcl : ∀ s ∈ M.reach T, ∀ t ∈ ap' T s, t ∈ M.reach T := fun s hs t ht => cK' hT hn hs ht
  have := iU' hT hS hcl h.row x hx 0 dT'
  rw [h.c0] at this
  rw [this.1, h.fin _ this.2]
theorem IsLeast.lang {T1 T2 : List (List Nat)} {c' : Nat -> Nat} (hL : L.Nodup) (hT : bi' T T.length L.length) (hn : 1 <= T.length) (hU : bi' U U.length L.length) (hn' : 1 <= U.length) (h1 : IsLeast L T A c T1 A1) (h2 : IsLeast L U B c' T2 A2)
    (hl : ∀ x : Tx, (∀ a ∈ x, a ∈ L) -> (run L T 0 x ∈ A ↔ run L U 0 x ∈ B)) : T1 = T2 /\ A1 = A2 := by
  have hl' : ∀ x : Tx, (∀ a ∈ x, a ∈ L) -> (run L T1 0 x ∈ A1 ↔ run L T2 0 x ∈ A2) := fun x hx => by rw [h1.run0 hT hn hx, h2.run0 hU hn' hx]; exact hl x hx
  have rw1 : ∀ q < T1.length, ∃ x : Tx, (∀ a ∈ x, a ∈ L) /\ run L T1 0 x = q := fun q hq => by
    have : q ∈ M.reach T1 := by rw [h1.reach]; exact List.mem_range.mpr hq
    exact ox' h1.tab hL h1.ne _ q this
  -- the state of the second that says the same
  have ex : ∀ q, ∃ p, q < T1.length -> p < T2.length /\ ∀ x : Tx, (∀ a ∈ x, a ∈ L) -> (run L T1 q x ∈ A1 ↔ run L T2 p x ∈ A2) := fun q => by
    by_cases hq : q < T1.length
    . obtain ⟨y, hy, e⟩ := rw1 q hq
      refine ⟨run L T2 0 y, fun _ => ⟨ye' h2.tab (Nat.lt_of_lt_of_le Nat.zero_lt_one h2.ne) hy, fun x hx => ?_⟩⟩
      have := hl' (y ++ x) (fun a ha => (List.mem_append.mp ha).elim (hy a) (hx a))
      rw [id', id', e] at this
      exact this
    . exact ⟨0, fun h => absurd h hq⟩
  obtain ⟨f, hf⟩ : ∃ f : Nat -> Nat, ∀ q < T1.length, f q < T2.length /\ ∀ x : Tx, (∀ a ∈ x, a ∈ L) -> (run L T1 q x ∈ A1 ↔ run L T2 (f q) x ∈ A2) := ⟨fun q => (ex q).choose, fun q hq => (ex q).choose_spec hq⟩
  have z1 : 0 < T1.length := h1.ne
  have z2 : 0 < T2.length := h2.ne
  have f0 : f 0 = 0 := h2.apart _ (hf 0 z1).1 _ z2 fun x hx => by rw [<- (hf 0 z1).2 x hx]; exact hl' x hx
  have fstp : ∀ q < T1.length, ∀ a ∈ L, f (stp L T1 q a) = stp L T2 (f q) a := fun q hq a ha => by
    obtain ⟨_, _, _, l1⟩ := h6' h1.tab hq ha
    obtain ⟨_, _, _, l2⟩ := h6' h2.tab (hf q hq).1 ha
    refine h2.apart _ (hf _ l1).1 _ l2 fun x hx => ?_
    rw [<- (hf _ l1).2 x hx]
    exact (hf q hq).2 (a :: x) (fun b hb => (List.mem_cons.mp hb).elim (fun e => e ▸ ha) (hx b))
  have row : ∀ q ∈ M.reach T1, ap' T2 (f q) = (ap' T1 q).map f := fun q hq => by
    have hq : q < T1.length := by rw [h1.reach] at hq; exact List.mem_range.mp hq
    have la := cd' h2.tab (hf q hq).1
    have lb := cd' h1.tab hq
    refine List.ext_getElem (by rw [List.length_map]; omega) fun i i1 i2 => ?_
    have hi : i < L.length := by omega
    have e := fstp q hq L[i] (List.getElem_mem hi)
    rw [gO' hL hi, gO' hL hi, List.getElem?_eq_getElem i1, List.getElem?_eq_getElem (by omega)] at e
    rw [List.getElem_map]
    exact e.symm
  have rm := qR' h1.tab h1.ne h2.tab h2.ne f0 row
  rw [h1.reach, h2.reach] at rm
  have inj : ∀ p ∈ List.range T1.length, ∀ q ∈ List.range T1.length, f p = f q -> p = q := fun p hp q hq e => by
    have hp := List.mem_range.mp hp
    have hq := List.mem_range.mp hq
    exact h1.apart p hp q hq fun x hx => by rw [(hf p hp).2 x hx, (hf q hq).2 x hx, e]
  rw [dE' f _ inj, ce' List.nodup_range] at rm
  have len : T2.length = T1.length := by have := congrArg List.length rm; simpa using this
  have fid : ∀ q < T1.length, f q = q := fun q hq => by
    have := congrArg (fun l => l[q]?) rm
    simp only [List.getElem?_map] at this
    rw [List.getElem?_range (by omega), List.getElem?_range hq] at this
    simpa using this.symm
  constructor
  . refine List.ext_getElem len.symm fun i i1 i2 => ?_
    have hr := row i (by rw [h1.reach]; exact List.mem_range.mpr i1)
    rw [fid i i1] at hr
    have e1 : T1[i] = ap' T1 i := by unfold ap'; rw [List.getElem?_eq_getElem i1]; rfl
    have e2 : T2[i] = ap' T2 i := by unfold ap'; rw [List.getElem?_eq_getElem i2]; rfl
    rw [e1, e2, hr]
    conv => lhs; rw [<- List.map_id (ap' T1 i)]
    refine List.map_congr_left fun t ht => ?_
    exact (fid t (if' h1.tab ht)).symm
  . refine sc' h1.acc.asc h2.acc.asc fun q => ?_
    constructor
    . intro h
      have hq := h1.acc.lt q h
      have := (hf q hq).2 [] nofun
      rw [fid q hq] at this
      exact this.mp h
    . intro h
      have hq : q < T1.length := by rw [<- len]; exact h2.acc.lt q h
      have := (hf q hq).2 [] nofun
      rw [fid q hq] at this
      exact this.mpr h
end
end M
namespace M
section
variable {γ : Type} [DecidableEq γ] (L : Tx) (sx : γ -> Nat -> γ) (g0 : γ)
def nxG (g : γ) : List γ := L.map (sx g)
def xbf : Nat -> List γ
  | 0 => [g0]
  | j + 1 => match (xbf j)[j]? with
    | some g => cD' (xbf j) (nxG L sx g)
    | none => xbf j
def wh' (g : γ) (z : Tx) : γ := z.foldl sx g
def Rch (g : γ) : Prop := ∃ z : Tx, (∀ c ∈ z, c ∈ L) /\ g = wh' sx g0 z
def Few (N : Nat) : Prop := ∀ l : List γ, l.Nodup -> (∀ g ∈ l, Rch L sx g0 g) -> l.length <= N
def hM' (N : Nat) : List γ := xbf L sx g0 N
def Ae' (F : List γ) (g : γ) : List Nat := L.map fun c => ixo F (sx g c)
def t2' (F : List γ) : List (List Nat) := F.map (Ae' L sx F)
def CH' (F : List γ) (p : γ -> Bool) : List Nat := (List.range F.length).filter fun q => ((F[q]?).map p).getD false
variable {L sx g0}
theorem u4' {j : Nat} : xbf L sx g0 j <+: xbf L sx g0 (j + 1) := by
  show xbf L sx g0 j <+: (match (xbf L sx g0 j)[j]? with | some s => cD' (xbf L sx g0 j) (nxG L sx s) | none => xbf L sx g0 j)
  split
  . exact dV'
  . exact List.prefix_refl _
theorem sq' {i j : Nat} (h : i <= j) : xbf L sx g0 i <+: xbf L sx g0 j := by
  induction h with
  | refl => exact List.prefix_refl _
  | step _ ih => exact ih.trans u4'
theorem ml' : ∀ j : Nat, (xbf L sx g0 j).Nodup
  | 0 => by simp [xbf]
  | j + 1 => by
    show (match (xbf L sx g0 j)[j]? with | some s => cD' (xbf L sx g0 j) (nxG L sx s) | none => xbf L sx g0 j).Nodup
    split
    . exact fE' (ml' j)
    . exact ml' j
theorem rB' {g : γ} {z : Tx} {c : Nat} : wh' sx g (z ++ [c]) = sx (wh' sx g z) c := by unfold wh'; rw [List.foldl_append]; rfl
theorem iD' : ∀ j : Nat, ∀ g ∈ xbf L sx g0 j, Rch L sx g0 g
  | 0, g, h => by
    have : g = g0 := by simpa [xbf] using h
    exact ⟨[], nofun, this⟩
  | j + 1, g, h => by
    have h : g ∈ (match (xbf L sx g0 j)[j]? with | some s => cD' (xbf L sx g0 j) (nxG L sx s) | none => xbf L sx g0 j) := h
    split at h
    . rename_i s e
      rcases b7'.mp h with q | q
      . exact iD' j g q
      . obtain ⟨c, hc, rfl⟩ := List.mem_map.mp q
        obtain ⟨z, hz, rfl⟩ := iD' j s (List.mem_of_getElem? e)
        exact ⟨z ++ [c], fun d hd => (List.mem_append.mp hd).elim (hz d) (fun q => List.mem_singleton.mp q ▸ hc), rB'.symm⟩
    . exact iD' j g h
theorem iC' {j : Nat} (h : (xbf L sx g0 j).length <= j) : ∀ {i : Nat}, j <= i -> xbf L sx g0 i = xbf L sx g0 j := by
  intro i hi
  induction hi with
  | refl => rfl
  | @step i hi ih =>
    show (match (xbf L sx g0 i)[i]? with | some s => cD' (xbf L sx g0 i) (nxG L sx s) | none => xbf L sx g0 i) = _
    have : (xbf L sx g0 i)[i]? = none := by rw [ih]; exact List.getElem?_eq_none (Nat.le_trans h hi)
    rw [this, ih]
theorem xz' {j : Nat} {g : γ} (h : (xbf L sx g0 j)[j]? = some g) : xbf L sx g0 (j + 1) = cD' (xbf L sx g0 j) (nxG L sx g) := by
  show (match (xbf L sx g0 j)[j]? with | some s => cD' (xbf L sx g0 j) (nxG L sx s) | none => xbf L sx g0 j) = _
  rw [h]
variable {N : Nat}
theorem Few.len (h : Few L sx g0 N) (j : Nat) : (xbf L sx g0 j).length <= N := h _ (ml' j) (iD' j)
theorem Few.all (h : Few L sx g0 N) {j : Nat} (hj : (xbf L sx g0 j).length <= j) : xbf L sx g0 j = hM' L sx g0 N := by
  by_cases q : j <= N
  . exact (iC' hj q).symm
  . exact iC' (h.len _) (by omega)
theorem Few.pre (h : Few L sx g0 N) (j : Nat) : xbf L sx g0 j <+: hM' L sx g0 N := by
  by_cases q : j <= N
  . exact sq' q
  . have : xbf L sx g0 j = hM' L sx g0 N := iC' (h.len _) (by omega)
    rw [this]
    exact List.prefix_refl _
theorem Few.get (h : Few L sx g0 N) {j : Nat} {g : γ} (e : (hM' L sx g0 N)[j]? = some g) : (xbf L sx g0 j)[j]? = some g := by
  have h1 : j < (xbf L sx g0 j).length := by
    rcases Nat.lt_or_ge j (xbf L sx g0 j).length with q | q
    . exact q
    . have := h.all q
      rw [<- this] at e
      have := (List.getElem?_eq_some_iff.mp e).1
      omega
  obtain ⟨G, eG⟩ := h.pre j
  rw [<- eG, List.getElem?_append_left h1] at e
  exact e
theorem Few.nd : (hM' L sx g0 N).Nodup := ml' N
theorem Few.zero (h : Few L sx g0 N) : (hM' L sx g0 N)[0]? = some g0 := by
  obtain ⟨G, e⟩ := h.pre 0
  rw [<- e]
  rfl
theorem Few.closed (h : Few L sx g0 N) {g : γ} (hg : g ∈ hM' L sx g0 N) {c : Nat} (hc : c ∈ L) : sx g c ∈ hM' L sx g0 N := by
  obtain ⟨j, hj, e⟩ := List.getElem_of_mem hg
  have e1 : (hM' L sx g0 N)[j]? = some g := by rw [List.getElem?_eq_getElem hj, e]
  have := xz' (h.get e1)
  exact (h.pre (j + 1)).subset (by rw [this]; exact b7'.mpr (.inr (List.mem_map.mpr ⟨c, hc, rfl⟩)))
theorem Few.mono {N' : Nat} (h : Few L sx g0 N) (hn : N <= N') : Few L sx g0 N' := fun l a b => Nat.le_trans (h l a b) hn
theorem yU' {F : List γ} {g : γ} (h : g ∈ F) : ixo F g < F.length := List.idxOf_lt_length_iff.mpr h
theorem wn' {F : List γ} {g : γ} (h : g ∈ F) : F[ixo F g]? = some g := by
  unfold ixo
  rw [List.getElem?_eq_getElem (List.idxOf_lt_length_iff.mpr h), List.getElem_idxOf]
theorem Few.tab (h : Few L sx g0 N) : bi' (t2' L sx (hM' L sx g0 N)) (t2' L sx (hM' L sx g0 N)).length L.length := by
  refine ⟨rfl, fun r hr => ?_⟩
  obtain ⟨g, hg, rfl⟩ := List.mem_map.mp hr
  refine ⟨by simp [Ae'], fun t ht => ?_⟩
  obtain ⟨c, hc, rfl⟩ := List.mem_map.mp ht
  rw [show (t2' L sx (hM' L sx g0 N)).length = (hM' L sx g0 N).length by simp [t2']]
  exact yU' (h.closed hg hc)
theorem Few.ne (h : Few L sx g0 N) : 1 <= (hM' L sx g0 N).length := by
  have := (List.getElem?_eq_some_iff.mp h.zero).1
  omega
theorem Few.run (h : Few L sx g0 N) : ∀ (z : Tx) (s : Nat) (g : γ), (∀ c ∈ z, c ∈ L) -> (hM' L sx g0 N)[s]? = some g -> (hM' L sx g0 N)[M.run L (t2' L sx (hM' L sx g0 N)) s z]? = some (wh' sx g z)
  | [], s, g, _, e => e
  | c :: z, s, g, hz, e => by
    have hc := hz c (by simp)
    have hg := List.mem_of_getElem? e
    rw [eO']
    have e1 : stp L (t2' L sx (hM' L sx g0 N)) s c = ixo (hM' L sx g0 N) (sx g c) := by
      unfold stp t2'
      rw [List.getElem?_map, e]
      show ((Ae' L sx (hM' L sx g0 N) g)[L.idxOf c]?).getD 0 = _
      unfold Ae'
      rw [List.getElem?_map, List.getElem?_eq_getElem (List.idxOf_lt_length_iff.mpr hc), List.getElem_idxOf]
      rfl
    rw [e1]
    exact Few.run h z _ (sx g c) (fun d hd => hz d (by simp [hd])) (wn' (h.closed hg hc))
theorem Few.says (h : Few L sx g0 N) (p : γ -> Bool) {z : Tx} (hz : ∀ c ∈ z, c ∈ L) : M.run L (t2' L sx (hM' L sx g0 N)) 0 z ∈ CH' (hM' L sx g0 N) p ↔ p (wh' sx g0 z) = true := by
  have e := h.run z 0 g0 hz h.zero
  have hl := (List.getElem?_eq_some_iff.mp e).1
  unfold CH'
  rw [List.mem_filter, e]
  simp only [List.mem_range, Option.map_some, Option.getD_some]
  exact ⟨fun q => q.2, fun q => ⟨hl, q⟩⟩
end
end M
namespace M
theorem eZ' (c : Nat) : ∀ l : List Tx, (cZ' [c] l).length <= (l.map List.length).sum + l.length
  | [] => by simp [cZ']
  | [a] => by simp [cZ']
  | a :: b :: r => by
    have ih := eZ' c (b :: r)
    show (a ++ ([c] ++ cZ' [c] (b :: r))).length <= _
    rw [List.length_append, List.length_append, List.length_singleton, List.map_cons, List.sum_cons, List.length_cons]
    omega
end M
namespace M
def wlt (x y : Tx) : Prop := x.length < y.length \/ (x.length = y.length /\ x < y)
def wle (x y : Tx) : Prop := x = y \/ wlt x y
theorem oh' (x : Tx) : ¬ wlt x x := fun h => h.elim (fun h => Nat.lt_irrefl _ h) (fun h => List.lt_irrefl x h.2)
theorem pa' {x y z : Tx} (h1 : wlt x y) (h2 : wlt y z) : wlt x z := by
  rcases h1 with h1 | ⟨e1, h1⟩ <;> rcases h2 with h2 | ⟨e2, h2⟩
  . exact .inl (by omega)
  . exact .inl (by omega)
  . exact .inl (by omega)
  . exact .inr ⟨by omega, List.lt_trans h1 h2⟩
theorem jD' {x y : Tx} (h1 : wle x y) (h2 : wle y x) : x = y := by
  rcases h1 with h1 | h1
  . exact h1
  . rcases h2 with h2 | h2
    . exact h2.symm
    . exact absurd (pa' h1 h2) (oh' x)
section
variable {γ : Type} [DecidableEq γ] (sx : γ -> Nat -> γ)
def Ds' (p : γ × Tx) (F : List (γ × Tx)) (c : Nat) : List (γ × Tx) := if sx p.1 c ∈ F.map (·.1) then F else F ++ [(sx p.1 c, p.2 ++ [c])]
variable (L : Tx) (g0 : γ)
def xw : Nat -> List (γ × Tx)
  | 0 => [(g0, [])]
  | j + 1 => match (xw j)[j]? with
    | some p => L.foldl (Ds' sx p) (xw j)
    | none => xw j
variable {sx L g0}
structure XwOk (sx : γ -> Nat -> γ) (L : Tx) (g0 : γ) (j : Nat) : Prop where
  asc : (xw sx L g0 j).Pairwise (fun a b => wlt a.2 b.2)
  led : ∀ q ∈ xw sx L g0 j, (∀ c ∈ q.2, c ∈ L) /\ q.1 = wh' sx g0 q.2
  old : ∀ (i : Nat) (q : γ × Tx), (xw sx L g0 j)[i]? = some q -> q.2 = [] \/ ∃ (k : Nat) (r : γ × Tx) (c : Nat), k < j /\ (xw sx L g0 j)[k]? = some r /\ q.2 = r.2 ++ [c]
  small : ∀ (k : Nat) (r : γ × Tx), k < j -> (xw sx L g0 j)[k]? = some r -> ∀ c ∈ L, ∃ q ∈ xw sx L g0 j, q.1 = sx r.1 c /\ wle q.2 (r.2 ++ [c])
def CF' (L : Tx) (P : Tx -> Prop) (x : Tx) : Prop := (∀ c ∈ x, c ∈ L) /\ P x /\ ∀ z, (∀ c ∈ z, c ∈ L) -> P z -> wle x z
theorem CF'.uniq {P Q : Tx -> Prop} {x y : Tx} (h1 : CF' L P x) (h2 : CF' L Q y) (h : ∀ z, (∀ c ∈ z, c ∈ L) -> (P z ↔ Q z)) : x = y :=
  jD' (h1.2.2 y h2.1 ((h y h2.1).mpr h2.2.1)) (h2.2.2 x h1.1 ((h x h1.1).mp h1.2.1))
end
end M
namespace M
section
variable {X : Exc -> PSt -> Prop} {ρ : PSt}
end
end M
namespace M
section
variable {α : Type} (mul : α -> α -> α) (one : α) (S : α -> Prop)
structure Mon (l : List α) : Prop where
  cl : ∀ {a b}, S a -> S b -> S (mul a b)
  as : ∀ {a b c}, S a -> S b -> S c -> mul (mul a b) c = mul a (mul b c)
  o : S one
  l1 : ∀ {a}, S a -> mul one a = a
  r1 : ∀ {a}, S a -> mul a one = a
  fin : ∀ a, S a -> a ∈ l
def pw (a : α) : Nat -> α
  | 0 => a
  | n + 1 => mul (pw a n) a
def Idm (e : α) : Prop := mul e e = e
def Om (a e : α) : Prop := ∃ n, e = pw mul a n /\ Idm mul e
def Ker (d : α) : Prop := S d /\ ∀ y, S y -> ∃ u v, S u /\ S v /\ d = mul u (mul y v)
end
section
variable {α : Type} {mul : α -> α -> α} {one : α} {S : α -> Prop} {l : List α}
theorem Mon.pw (h : Mon mul one S l) {a : α} (ha : S a) : ∀ n, S (M.pw mul a n)
  | 0 => ha
  | n + 1 => h.cl (h.pw ha n) ha
theorem Mon.pw_add (h : Mon mul one S l) {a : α} (ha : S a) (m : Nat) : ∀ n, mul (M.pw mul a m) (M.pw mul a n) = M.pw mul a (m + n + 1)
  | 0 => rfl
  | n + 1 => by
    show mul (M.pw mul a m) (mul (M.pw mul a n) a) = mul (M.pw mul a (m + n + 1)) a
    rw [<- h.as (h.pw ha m) (h.pw ha n) ha, h.pw_add ha m n]
theorem Mon.pw_comm (h : Mon mul one S l) {a : α} (ha : S a) (m n : Nat) : mul (M.pw mul a m) (M.pw mul a n) = mul (M.pw mul a n) (M.pw mul a m) := by
  rw [h.pw_add ha, h.pw_add ha, Nat.add_comm m n]
theorem Mon.om_ex (h : Mon mul one S l) {a : α} (ha : S a) : ∃ n, n <= l.length * (l.length + 1) /\ Idm mul (M.pw mul a n) := by
  have hnd : ¬ ((List.range (l.length + 1)).map (M.pw mul a)).Nodup := fun hn => by
    have := List.Nodup.length_le_of_subset hn (l₂ := l) fun x hx => by
      obtain ⟨n, _, rfl⟩ := List.mem_map.1 hx
      exact h.fin _ (h.pw ha n)
    simp at this
    omega
  obtain ⟨i, j, hij, hj, e⟩ : ∃ i j, i < j /\ j <= l.length /\ M.pw mul a i = M.pw mul a j := by
    refine Classical.byContradiction fun hc => hnd ?_
    rw [List.nodup_iff_pairwise_ne, List.pairwise_map]
    refine List.Pairwise.imp_of_mem ?_ List.pairwise_lt_range
    intro a b ha hb hab e
    exact hc ⟨a, b, hab, by have := List.mem_range.1 hb; omega, e⟩
  have per : ∀ k, M.pw mul a (i + k + (j - i)) = M.pw mul a (i + k) := by
    intro k
    cases k with
    | zero => rw [Nat.add_zero, show i + (j - i) = j by omega, e]
    | succ k =>
      have e1 := h.pw_add ha i k
      have e2 := h.pw_add ha j k
      rw [show i + (k + 1) + (j - i) = j + k + 1 by omega, <- e2, <- e, e1]
      rfl
  have pers : ∀ k m, M.pw mul a (i + k + m * (j - i)) = M.pw mul a (i + k) := by
    intro k m
    induction m with
    | zero => rw [Nat.zero_mul, Nat.add_zero]
    | succ m ih =>
      rw [Nat.add_mul, Nat.one_mul, <- Nat.add_assoc, show i + k + m * (j - i) + (j - i) = i + (k + m * (j - i)) + (j - i) by omega, per, <- Nat.add_assoc, ih]
  have hp : 1 <= j - i := by omega
  have hge : i + 1 <= (i + 1) * (j - i) := Nat.le_mul_of_pos_right _ hp
  have hle : (i + 1) * (j - i) <= (l.length + 1) * l.length := Nat.mul_le_mul (by omega) (by omega)
  refine ⟨(i + 1) * (j - i) - 1, by rw [Nat.mul_comm l.length]; omega, ?_⟩
  show mul _ _ = _
  rw [h.pw_add ha]
  have := pers ((i + 1) * (j - i) - 1 - i) (i + 1)
  rw [show i + ((i + 1) * (j - i) - 1 - i) = (i + 1) * (j - i) - 1 by omega] at this
  rw [<- this]
  congr 1
  omega
theorem Om.s (h : Mon mul one S l) {a e : α} (ha : S a) (o : Om mul a e) : S e := by
  obtain ⟨n, rfl, _⟩ := o
  exact h.pw ha n
theorem Mon.pw_split (h : Mon mul one S l) {a : α} (ha : S a) (n : Nat) : ∃ w, S w /\ M.pw mul a n = mul a w /\ M.pw mul a n = mul w a := by
  cases n with
  | zero => exact ⟨one, h.o, (h.r1 ha).symm, (h.l1 ha).symm⟩
  | succ n =>
    refine ⟨M.pw mul a n, h.pw ha n, ?_, rfl⟩
    have := h.pw_add ha 0 n
    rw [show 0 + n + 1 = n + 1 by omega] at this
    exact this.symm
theorem Ker.mul_l (h : Mon mul one S l) {d a : α} (hd : Ker mul S d) (ha : S a) : Ker mul S (mul a d) := by
  refine ⟨h.cl ha hd.1, fun y hy => ?_⟩
  obtain ⟨u, v, hu, hv, e⟩ := hd.2 y hy
  refine ⟨mul a u, v, h.cl ha hu, hv, ?_⟩
  rw [h.as ha hu (h.cl hy hv), <- e]
theorem Ker.pw (h : Mon mul one S l) {d : α} (hd : Ker mul S d) : ∀ n, Ker mul S (M.pw mul d n)
  | 0 => hd
  | n + 1 => Ker.mul_l h hd (h.pw hd.1 n)
theorem Ker.below (h : Mon mul one S l) {e f : α} (he : Ker mul S e) (ie : Idm mul e) (sf : S f) (jf : Idm mul f) (h1 : mul e f = f) (h2 : mul f e = f) : f = e := by
  have se := he.1
  obtain ⟨u, v, su, sv, eq⟩ := he.2 f sf
  have sfv := h.cl sf sv
  have sb := h.cl sfv se
  have sa := h.cl se (h.cl su sf)
  generalize ha : mul e (mul u f) = a at *
  generalize hb : mul (mul f v) e = b at *
  have ab : mul a b = e := by
    rw [<- ha, <- hb, h.as se (h.cl su sf) (h.cl sfv se), h.as su sf (h.cl sfv se), <- h.as sf sfv se, <- h.as sf sf sv, show mul f f = f from jf, <- h.as su sfv se, <- eq, show mul e e = e from ie]
    exact ie
  have eb : mul e b = b := by rw [<- hb, <- h.as se sfv se, <- h.as se sf sv, h1]
  have fb : mul f b = b := by rw [<- hb, <- h.as sf sfv se, <- h.as sf sf sv, show mul f f = f from jf]
  have ae : mul a e = a := by rw [<- ha, h.as se (h.cl su sf) se, h.as su sf se, h2]
  have key : ∀ n, mul (M.pw mul a n) (M.pw mul b n) = e := by
    intro n
    induction n with
    | zero => exact ab
    | succ n ih =>
      have sn := h.pw sa n
      have sm := h.pw sb n
      show mul (mul (M.pw mul a n) a) (mul (M.pw mul b n) b) = e
      rw [show mul (M.pw mul b n) b = mul b (M.pw mul b n) from h.pw_comm sb n 0, h.as sn sa (h.cl sb sm), <- h.as sa sb sm, ab]
      have : mul e (M.pw mul b n) = M.pw mul b n := by
        obtain ⟨r, sr, r1, -⟩ := h.pw_split sb n
        rw [r1, <- h.as se sb sr, eb]
      rw [this]
      exact ih
  obtain ⟨m, _, hm⟩ := h.om_ex sb
  have k := key m
  have sg := h.pw sb m
  have e1 : mul e (M.pw mul b m) = e := by
    rw [<- k, h.as (h.pw sa m) sg sg, show mul (M.pw mul b m) (M.pw mul b m) = _ from hm]
  obtain ⟨r, sr, r1, -⟩ := h.pw_split sb m
  have e2 : mul e (M.pw mul b m) = M.pw mul b m := by rw [r1, <- h.as se sb sr, eb]
  have e3 : mul f (M.pw mul b m) = M.pw mul b m := by rw [r1, <- h.as sf sb sr, fb]
  rw [<- e2, e1, h2] at e3
  exact e3
theorem s1' (h : Mon mul one S l) {e x : α} (se : S e) (sx : S x) (h1 : mul e x = x) (h2 : mul x e = x) (n : Nat) : mul e (M.pw mul x n) = M.pw mul x n /\ mul (M.pw mul x n) e = M.pw mul x n := by
  obtain ⟨r, sr, r1, r2⟩ := h.pw_split sx n
  exact ⟨by rw [r1, <- h.as se sx sr, h1], by rw [r2, h.as sr sx se, h2]⟩
theorem Ker.om_grp (h : Mon mul one S l) {e a f : α} (he : Ker mul S e) (ie : Idm mul e) (sa : S a) (h1 : mul e a = a) (h2 : mul a e = a) (o : Om mul a f) : f = e := by
  have sf := Om.s h sa o
  obtain ⟨n, rfl, jf⟩ := o
  obtain ⟨f1, f2⟩ := s1' h he.1 sa h1 h2 n
  exact he.below h ie sf jf f1 f2
theorem Ker.inv (h : Mon mul one S l) {e a : α} (he : Ker mul S e) (ie : Idm mul e) (sa : S a) (h1 : mul e a = a) (h2 : mul a e = a) : ∃ b, S b /\ mul e b = b /\ mul b e = b /\ mul a b = e /\ mul b a = e := by
  obtain ⟨n, _, hn⟩ := h.om_ex sa
  have en := he.om_grp h ie sa h1 h2 ⟨n, rfl, hn⟩
  obtain ⟨w, sw, w1, w2⟩ := h.pw_split sa n
  have sew := h.cl (h.cl he.1 sw) he.1
  refine ⟨mul (mul e w) e, sew, ?_, ?_, ?_, ?_⟩
  . rw [<- h.as he.1 (h.cl he.1 sw) he.1, <- h.as he.1 he.1 sw, show mul e e = e from ie]
  . rw [h.as (h.cl he.1 sw) he.1 he.1, show mul e e = e from ie]
  . rw [<- h.as sa (h.cl he.1 sw) he.1, <- h.as sa he.1 sw, h2, <- w1, en]
    exact ie
  . rw [h.as (h.cl he.1 sw) he.1 sa, h1, h.as he.1 sw sa, <- w2, en]
    exact ie
end
end M
namespace M
section
variable {β : Type} [Mul β]
structure FM (one : β) (l : List β) : Prop where
  as : ∀ a b c : β, a * b * c = a * (b * c)
  l1 : ∀ a : β, one * a = a
  r1 : ∀ a : β, a * one = a
  fin : ∀ a : β, a ∈ l
structure Sub (one : β) (S : β -> Prop) : Prop where
  cl : ∀ {a b}, S a -> S b -> S (a * b)
  o : S one
abbrev mu : β -> β -> β := fun a b => a * b
theorem Sub.all {one : β} : Sub one (fun _ => True) := ⟨fun _ _ => trivial, trivial⟩
def of' (β : Type) [Mul β] : Prop := ∀ x y e f : β, Om mu (x * y) e -> Om mu (y * x) f -> e * (f * e) = e
structure Blk (e a b c d : β) : Prop where
  i : e * e = e
  one : e * (a * (c * e)) = e
  other : e * (b * (d * e)) = e
  both : e * (a * (b * (c * (d * e)))) ≠ e
theorem uH' {e : β} (h : e * e = e) : Om mu e e := ⟨0, rfl, h⟩
structure Un (e a : β) : Prop where
  l : e * a = a
  r : a * e = a
  ex : ∃ b, e * b = b /\ b * e = b /\ a * b = e /\ b * a = e
theorem Un.mul {one : β} {l : List β} (h : FM one l) {e a b : β} (ha : Un e a) (hb : Un e b) : Un e (a * b) := by
  obtain ⟨a', p1, p2, p3, p4⟩ := ha.ex
  obtain ⟨b', q1, q2, q3, q4⟩ := hb.ex
  refine ⟨by rw [<- h.as, ha.l], by rw [h.as, hb.r], b' * a', by rw [<- h.as, q1], by rw [h.as, p2], ?_, ?_⟩
  . rw [h.as, <- h.as b, q3, p1, p3]
  . rw [h.as, <- h.as a', p4, hb.l, q4]
theorem of'.split {one : β} {l : List β} (h : FM one l) (st : of' β) {e x y : β} (ie : e * e = e) (hx : Un e (e * (x * e))) (hy : Un e (e * (y * e))) : e * (x * (y * e)) = e * (x * e) * (e * (y * e)) := by
  obtain ⟨p', p1, p2, p3, p4⟩ := hx.ex
  obtain ⟨q', q1, q2, q3, q4⟩ := hy.ex
  have ie' : ∀ z, e * (e * z) = e * z := fun z => by rw [<- h.as, ie]
  have p1' : ∀ z, e * (p' * z) = p' * z := fun z => by rw [<- h.as, p1]
  have p2' : ∀ z, p' * (e * z) = p' * z := fun z => by rw [<- h.as, p2]
  have q1' : ∀ z, e * (q' * z) = q' * z := fun z => by rw [<- h.as, q1]
  have q2' : ∀ z, q' * (e * z) = q' * z := fun z => by rw [<- h.as, q2]
  -- g = p' x, h = y q'
  have a1 : p' * (x * e) = e := by rw [<- p2', p4]
  have a1' : ∀ z, p' * (x * (e * z)) = e * z := fun z => by
    have := congrArg (· * z) a1
    simpa only [h.as] using this
  have a2 : e * (x * p') = e := by
    have := p3
    rw [h.as, h.as, p1] at this
    exact this
  have a2' : ∀ z, e * (x * (p' * z)) = e * z := fun z => by
    have := congrArg (· * z) a2
    simpa only [h.as] using this
  have b1 : e * (y * q') = e := by
    have := q3
    rw [h.as, h.as, q1] at this
    exact this
  have b1' : ∀ z, e * (y * (q' * z)) = e * z := fun z => by
    have := congrArg (· * z) b1
    simpa only [h.as] using this
  have b2 : q' * (y * e) = e := by rw [<- q2', q4]
  have b2' : ∀ z, q' * (y * (e * z)) = e * z := fun z => by
    have := congrArg (· * z) b2
    simpa only [h.as] using this
  -- e, h g
  have gi : (p' * x) * (p' * x) = p' * x := by
    rw [h.as, <- p2', a2', p2']
  have hi : (y * q') * (y * q') = y * q' := by
    rw [h.as]
    have : q' * (y * q') = q' := by
      have := b2' q'
      rw [q1] at this
      exact this
    rw [this]
  have o1 : Om mu (e * ((y * q') * (p' * x))) (p' * x) := by
    have : e * ((y * q') * (p' * x)) = p' * x := by rw [h.as, b1', p1']
    rw [this]; exact uH' gi
  have o2 : Om mu (((y * q') * (p' * x)) * e) (y * q') := by
    have : ((y * q') * (p' * x)) * e = y * q' := by rw [h.as, h.as p', a1, h.as, q2]
    rw [this]; exact uH' hi
  have k := st _ _ _ _ o1 o2
  -- g h g = g
  have k2 : (p' * x) * (y * q') = e := by
    have := congrArg (· * e) k
    simp only [h.as, a1, q2] at this
    simpa only [h.as] using this
  have k2' : p' * (x * (y * q')) = e := by rw [<- h.as]; exact k2
  have f1 : e * (x * e) * (p' * (x * (y * (q' * (e * (y * e)))))) = e * (x * (y * e)) := by
    have : q' * (e * (y * e)) = e := q4
    rw [this, h.as, h.as, p1', a2']
  rw [<- f1]
  have f2 : p' * (x * (y * (q' * (e * (y * e))))) = e * (y * e) := by
    have := congrArg (· * (e * (y * e))) k2'
    simp only [h.as, ie'] at this
    exact this
  rw [f2]
section
variable {one : β} {l : List β} (gen : Nat -> β)
def dd (one : β) : List Nat -> β
  | [] => one
  | c :: z => gen c * dd one z
def DL (one : β) (lot : List Nat) (d : β) : Prop := ∃ z, (∀ c ∈ z, c ∈ lot) /\ d = dd gen one z
def FL (one : β) (lot : List Nat) (d : β) : Prop := ∃ z, (∀ c ∈ z, c ∈ lot) /\ (∀ c ∈ lot, c ∈ z) /\ d = dd gen one z
variable {gen}
theorem rV' (h : FM one l) (x y : List Nat) : dd gen one (x ++ y) = dd gen one x * dd gen one y := by
  induction x with
  | nil => exact (h.l1 _).symm
  | cons c x ih => show gen c * dd gen one (x ++ y) = gen c * dd gen one x * dd gen one y; rw [ih, h.as]
theorem DL.sub (h : FM one l) {lot : List Nat} : Sub one (DL gen one lot) where
  cl := by
    rintro _ _ ⟨x, hx, rfl⟩ ⟨y, hy, rfl⟩
    exact ⟨x ++ y, fun c hc => (List.mem_append.1 hc).elim (hx c) (hy c), (rV' h x y).symm⟩
  o := ⟨[], by simp, rfl⟩
theorem FL.mul (h : FM one l) {lot : List Nat} {a b c : β} (ha : DL gen one lot a) (hb : FL gen one lot b) (hc : DL gen one lot c) : FL gen one lot (a * (b * c)) := by
  obtain ⟨x, x1, rfl⟩ := ha
  obtain ⟨y, y1, y2, rfl⟩ := hb
  obtain ⟨z, z1, rfl⟩ := hc
  refine ⟨x ++ (y ++ z), fun c hc => ?_, fun c hc => ?_, by rw [rV' h, rV' h]⟩
  . simp only [List.mem_append] at hc
    rcases hc with q | q | q
    . exact x1 c q
    . exact y1 c q
    . exact z1 c q
  . simp only [List.mem_append]
    exact .inr (.inl (y2 c hc))
end
end
section
variable {β : Type} [Mul β] {one : β} {l : List β}
end
end M
namespace M
section
local macro_rules | `(tactic| walk_at "s") => `(tactic| simp (disch := first | assumption | omega | decide) only [*, ↓x_C, ↓x_V, ↓C9', ↓C6', ↓AP', ↓AE', ↓va', ↓AF', ↓xI', ↓AC', ↓AG', ↓Db', ↓Da', ↓C7', ↓C8', ↓x_O, ↓C5', ↓C4', ↓xJ', ↓xC', ↓u6', ↓u8', ↓AI', ↓su', ↓xH', ↓AH', ↓AD', ↓AL', ↓xG', ↓xF', ↓AJ', xK', ↓AO', ↓AN', ↓u9', ↓u5', ↓sr', ↓u7', ↓AB', ↓AM', zA', DE', Cf', zS', Cg', BO', BN', wa', Bs', Br', tT', z0', zZ', tl', v2', rz', td', tD', BD', BE', xc', xb', tW', z2', z4', z3', v9', Bq', Bp', yE', v8', rd', wD', y8', vI', sU', sS', sT', zm', Ch', tr', wM', ↓AK', ↓C3', ↓xA', ↓xB', ↓Az', ↓C2', ↓xE', ↓o8', ↓xD', ↓Dc', ↓AA',
  ↓yc', ↓vN', ↓yd', ↓A6', ↓A5', ↓Df', ↓A4', ↓Bb', ↓Ba', ↓vM', ↓Bc', ↓A9', ↓yb', ↓A8', ↓A7', ↓vK', ↓vL', ↓AY', ↓xX',
  AT', AX', AS', AW', w0', wW', tH', B6', zQ', zz', zL', w4', zI', ts', tP', tF', tG', tE', Option.map_some, Option.map_none, Option.isSome_some, Option.isSome_none, Bool.bne_true, Bool.bne_false, xk', ww', wv', wy', wu', y0', wt', wx', wY', zC', w9', zp', zN', uQ', AR', xM', xL', xN', AV', xV', xU', xW', vf', xQ', AZ', xO', xP', xn', xT', xS', xR', AU', a8', pb', vd', iE', vi',
  zX', zW', uX', zV', xd', BG', BX', zD', zE', zU', BY', BR', BS', Ck', Ci', Cl', BV', BT', BW', beq_self_eq_true, w6', w8', rY', tI', tJ', tK', tw', B8', B9', tL', tM', Dx', Dy', Dz', DB', B1', B2', Cc', Ce', Cb', zB', uW', rX', zK', zM', n8', B4', B7', w7', aD', tX', r6', oJ', tn', rI', xj', mm', List.getElem?_map, ld', yV', BK', BM', BJ', BL', uY', tS', zx', zy', zO', w5', wO', BH', zT', xa', n9', tN', wN', Ca', zR', Ct', B0', BZ', zs', zq', zr', wP', wZ', wX', wQ', l0', oO', l2', lZ', lY', l1', l3', k1', l5', k4', k0', kZ', k3', k5', lT', oN', lV', lS', lR', lU', lW', jo', kM', jq', jn', jm', jp', jr', kP', lX', kR', kO', kN', kQ', kS', kV', l4', kX', kU', kT', kW', kY', BF', Cs', Cr', zw', n6', zu', BQ', BP', zl', zo', zk', zn', Cm', Cn', wV', wU', zH', Aa', DD', DC', Cd', DA', B3', zG', zJ', sP', B5', zP', zt', BI', vg', q4', String.reduceEq, reduceIte, ve', List.getElem?_set_self, List.getElem?_set_ne, List.set_set, w2', Co', w3', Cq', Cp', chD,
  decide_true, decide_false, frz, rR', z7', tn1, Int.zero_add, Bool.not_false, Bool.not_true, Bool.and_true, Bool.true_and, Bool.and_false, Bool.false_and, Bool.or_true, Bool.true_or, Bool.or_false, Bool.false_or, List.getElem?_cons_zero, List.getElem?_cons_succ, List.set_cons_zero, List.set_cons_succ, List.length_cons, List.length_nil, List.map_cons, List.map_nil, List.cons_append, List.nil_append, List.replicate_succ, List.replicate_zero, List.length_map, List.length_range, List.length_set, Int.toNat_natCast, and_self, or_true, true_or, true_and, and_true, or_self, Int.reduceToNat, Int.toNat_zero, Int.toNat_one, Int.reduceNeg, Int.reducePow, Int.reduceAdd, Int.reduceSub, Int.reduceMul, Int.reduceLT, Int.reduceLE, Nat.reduceAdd, Nat.reduceSub, Nat.reduceLT, Nat.reduceLeDiff])
local macro_rules | `(tactic| walk_at "f0") => `(tactic| (refine yF' ?_ rfl; simp only [List.map_cons, List.map_nil, List.replicate_succ, List.replicate_zero, List.cons_append, List.nil_append, Nat.reduceSub]))
local macro_rules | `(tactic| walk_at "f") => `(tactic| (walk_at "f0"; walk_at "s"))
local macro_rules | `(tactic| walk_at "l") => `(tactic| (intro env2_ he_; simp only [aD', List.set_cons_zero, List.set_cons_succ] at he_; rw [he_]; clear he_))
theorem oL' {w : W} {n : Nat} {m : Int} (h : cR' w n) (h1 : 0 < m) (h2 : m < 1606938044258990275541962092341162602522202993782792835301376) : wF (f__law_draw [.obj n, .int m] w) (fun o w' => ∃ d, o = .fz (.int d) /\ 0 <= d /\ d < m /\ cR' w' n /\ But n w w') FX := by
  obtain ⟨cells, i, b, s, c, hw, hi⟩ := h
  have hn := bu' hw
  unfold f__law_draw
  walk_at "f0"
  refine qz' (fun ρ => ∃ x w', ρ = ⟨[some (.fz (.obj n)), some (.fz (.int m)), x, none, none], w'⟩ /\ cR' w' n /\ But n w w') ?_ ?_
  . walk_at "s"
    refine bl' (fun hb => ?_) (fun hb => ?_)
    . walk_at "s"
      refine bl' (fun hc => ?_) (fun hc => ?_)
      . walk_at "s"
        refine bI' ?_ fun x _ hx => ?_
        . omega
        walk_at "s"
        refine bl' (fun hc => ?_) (fun hc => ?_)
        . walk_at "s"
          exact ⟨_, _, rfl, ⟨cells, _, _, _, _, List.getElem?_set_self hn, by omega⟩, But.refl.set⟩
        . walk_at "s"
          exact ⟨_, _, rfl, ⟨cells, _, _, _, _, List.getElem?_set_self hn, by omega⟩, But.refl.set⟩
      . walk_at "s"
        exact ⟨_, _, rfl, ⟨cells, _, _, _, _, hw, hi⟩, But.refl⟩
    . walk_at "s"
      exact ⟨_, _, rfl, ⟨cells, _, _, _, _, hw, hi⟩, But.refl⟩
  . rintro ρ1 ⟨x, w1, rfl, ⟨cells1, i1, b1, s1, c1, hw1, hi1⟩, bt⟩
    have hn1 := bu' hw1
    walk_at "s"
    refine bl' (fun hb => ?_) (fun hb => ?_)
    . walk_at "s"
      exact ⟨_, rfl, Int.emod_nonneg _ (by omega), Int.emod_lt_of_pos _ h1, ⟨cells1, _, _, _, _, List.getElem?_set_self hn1, hi1⟩, bt.set⟩
    . walk_at "s"
      exact ⟨_, rfl, Int.emod_nonneg _ (by omega), Int.emod_lt_of_pos _ h1, ⟨cells1, _, _, _, _, List.getElem?_set_self hn1, hi1⟩, bt.set⟩
theorem a7' {w : W} {n : Nat} {m : Int} (h : cR' w n) (h1 : 0 < m) (h2 : m < 1606938044258990275541962092341162602522202993782792835301376) : wF (f__law_draw [.obj n, .int m] w) (fun o w' => ∃ d : Nat, o = .fz (.int (d : Nat)) /\ (d : Int) < m /\ cR' w' n /\ But n w w') FX := by
  refine (oL' h h1 h2).mono ?_
  rintro _ w' ⟨d, rfl, h3, h4, h5, h6⟩
  exact ⟨d.toNat, by rw [Int.toNat_of_nonneg h3], by rw [Int.toNat_of_nonneg h3]; exact h4, h5, h6⟩
theorem rP' {w : W} {ns : List Int} (hl : ns.length <= 63) : wF (f__law_hand [.scr (ns.map .int)] w) (fun o w' => o = .fz (.obj w.length) /\ cR' w' w.length /\ w'.length = w.length + 1 /\ ∀ j, j < w.length -> w'[j]? = w[j]?) FX := by
  unfold f__law_hand
  walk_at "f"
  have e : cut (ns.map D.int) none (some 63) = (ns.take 63).map .int := by
    rw [uY' (by decide), <- List.map_take]
    rfl
  have e2 : ns.take 63 = ns := List.take_of_length_le hl
  rw [e2] at e
  try rw [e]
  try rw [show List.take 63 (List.map D.int ns) = ns.map D.int by rw [<- List.map_take, e2]]
  refine ga' (by omega) (fun pre acc ρ => acc = pre.map (fun i => .int (if i < 0 then -i else i)) /\ ∃ x, ρ = ⟨[some (.fz (.scr (ns.map .int))), none, x], w⟩) ⟨rfl, _, rfl⟩ ?_ ?_
  . rintro pre c post acc _ e ⟨rfl, x, rfl⟩
    walk_at "s"
    exact ⟨by simp, _, rfl⟩
  . rintro acc _ ⟨rfl, x, rfl⟩
    walk_at "s"
    refine ⟨⟨ns.map (fun i => if i < 0 then -i else i), 0, 0, 1 + ns.length, 0, ?_, by decide⟩, by simp, fun j hj => ?_⟩
    . rw [List.getElem?_append_right (Nat.le_refl _), Nat.sub_self]
      rw [List.map_map]
      rfl
    . rw [List.getElem?_append_left hj]
theorem q8' {α : Type} {l f : List α} {d : Nat} {x : α} (h : l[d]? = some x) : ((l.take d ++ l.drop (d + 1)) ++ (f ++ [x])).Perm (l ++ f) := by
  obtain ⟨hd, e⟩ := List.getElem?_eq_some_iff.mp h
  have h1 : l = l.take d ++ x :: l.drop (d + 1) := by rw [<- e, List.getElem_cons_drop, List.take_append_drop]
  generalize l.take d = a at *
  generalize l.drop (d + 1) = b at *
  subst h1
  simp only [List.append_assoc, List.cons_append]
  refine List.Perm.append_left a ?_
  rw [<- List.append_assoc]
  exact List.perm_append_comm
theorem eY' {α β : Type} (f : α -> β) : ∀ (l : List α) (i : Nat), (l.map f).eraseIdx i = (l.eraseIdx i).map f
  | [], _ => rfl
  | _ :: _, 0 => rfl
  | a :: l, i + 1 => by simp [List.eraseIdx, eY' f l i]
theorem c6' {w : W} {n : Nat} {l : List D} (h : cR' w n) (hs : l.length < 1073741) : wF (f__law_shuffled [.obj n, .lst l] w) (fun o w' => ∃ r : List D, o = .lst (r.map .fz) /\ r.Perm l /\ cR' w' n /\ But n w w') FX := by
  unfold f__law_shuffled
  walk_at "f"
  refine ev' (fun k ρ => ∃ x, ∃ t r : List D, ∃ w', ρ = ⟨[some (.fz (.obj n)), some (.fz (.lst l)), some (.lst (t.map .fz)), some (.lst (r.map .fz)), x], w'⟩ /\ r.length = k /\ (t ++ r).Perm l /\ cR' w' n /\ But n w w') ⟨_, _, [], _, rfl, rfl, by simp, h, But.refl⟩ ?_ ?_
  . rintro k ρ hk ⟨x, t, r, w1, rfl, rfl, hp, hh, hb⟩
    have hl := hp.length_eq
    rw [List.length_append] at hl
    walk_at "s"
    refine (a7' hh (by omega) (by omega)).mono ?_
    rintro _ w2 ⟨d, rfl, h3, h4, h5⟩
    have hd : d < t.length := by omega
    walk_at "s"
    refine bI' (by omega) fun c _ hc => ?_
    walk_at "s"
    refine ⟨_, t.eraseIdx d, r ++ [c], _, by rw [eY'], by simp, ?_, h4, hb.trans h5⟩
    rw [List.eraseIdx_eq_take_drop_succ]
    exact (q8' hc).trans hp
  . rintro ρ ⟨x, t, r, w1, rfl, e, hp, hh, hb⟩
    walk_at "s"
    have hl := hp.length_eq
    rw [List.length_append] at hl
    have ht : t = [] := List.eq_nil_of_length_eq_zero (by omega)
    subst ht
    exact ⟨r, rfl, hp⟩
def z8' (T : List (List Nat)) (k many size : Nat) : Prop := T.length = k /\ ∀ r ∈ T, r.length = many /\ ∀ t ∈ r, t < size
theorem de' (a b : Int) : (e3' a b).length = (b - a).toNat := by simp [e3']
theorem il' {m : Nat} {d : D} (h : d ∈ e3' 0 m) : ∃ v : Nat, v < m /\ d = .int (v : Nat) := by
  unfold e3' at h
  obtain ⟨v, hv, rfl⟩ := List.mem_map.mp h
  exact ⟨v, by have := List.mem_range.mp hv; omega, by simp⟩
def Hd (o : O) (ds : List D) : Prop := o = .lst (ds.map .fz) \/ o = .fz (.lst ds)
theorem sW' {w : W} {n : Nat} {kind size many : Nat} (h : cR' w n) (hs : 1 <= size) (hs2 : size < 1000) (hm : 1 <= many) (hm2 : many < 1000) : wF (f__law_rows [.obj n, .int kind, .int size, .int many] w) (fun o w' => ∃ T, o = .fz (cy' T) /\ bi' T size many /\ cR' w' n /\ But n w w') FX := by
  unfold f__law_rows
  walk_at "f"
  refine ga' (by simp; omega) (fun pre acc ρ => (∃ l : List Nat, acc = l.map (fun t => .int (t : Nat)) /\ l.length = pre.length) /\ ∃ x w', ρ = ⟨[some (.fz (.obj n)), some (.fz (.int kind)), some (.fz (.int size)), some (.fz (.int many)), some (.lst []), none, none, none, none, x, none], w'⟩ /\ cR' w' n /\ But n w w') ⟨⟨[], rfl, rfl⟩, _, _, rfl, h, But.refl⟩ ?_ ?_
  . rintro pre c post acc _ e ⟨⟨l, rfl, hl⟩, x, w1, rfl, hh, hb⟩
    walk_at "s"
    refine (a7' hh (by omega) (by omega)).mono ?_
    rintro _ w2 ⟨d, rfl, h3, h4, h5⟩
    walk_at "s"
    exact ⟨⟨l ++ [d], by simp, by simp [hl]⟩, _, _, rfl, h4, hb.trans h5⟩
  . rintro _ _ ⟨⟨steps, rfl, hsteps⟩, x, w1, rfl, hh, hb⟩
    have hsl : steps.length = many := by rw [hsteps]; simp
    walk_at "s"
    refine ga' (by simp; omega) (fun pre acc ρ => (∃ l : List (List D), acc = l.map .lst /\ l.length = pre.length /\ ∀ r ∈ l, r.Perm (e3' 0 size)) /\ ∃ x w', ρ = ⟨[some (.fz (.obj n)), some (.fz (.int kind)), some (.fz (.int size)), some (.fz (.int many)), some (.lst []), some (.lst ((steps.map (fun t => D.int (t : Nat))).map .fz)), none, none, none, x, none], w'⟩ /\ cR' w' n /\ But n w w') ⟨⟨[], rfl, rfl, by simp⟩, _, _, rfl, hh, hb⟩ ?_ ?_
    . rintro pre c post acc _ e ⟨⟨l, rfl, hl, hp⟩, x, w1, rfl, hh, hb⟩
      walk_at "s"
      refine (c6' hh (by rw [de']; omega)).mono ?_
      rintro _ w2 ⟨d, rfl, h3, h4, h5⟩
      walk_at "s"
      exact ⟨⟨l ++ [d], by simp, by simp [hl], by simpa [or_imp, forall_and] using ⟨hp, h3⟩⟩, _, _, rfl, h4, hb.trans h5⟩
    . rintro _ _ ⟨⟨turns, rfl, hturns, hperm⟩, x, w2, rfl, hh, hb⟩
      have htl : turns.length = many := by rw [hturns]; simp
      walk_at "s"
      refine ev' (fun k ρ => ∃ o5 o6 x7 x8 x9 x10 w', ∃ T : List (List Nat), ρ = ⟨[some (.fz (.obj n)), some (.fz (.int kind)), some (.fz (.int size)), some (.fz (.int many)), some (.lst ((T.map cF').map .fz)), some o5, some o6, x7, x8, x9, x10], w'⟩ /\ Hd o5 (steps.map (fun t => D.int (t : Nat))) /\ Hd o6 (turns.map .lst) /\ cR' w' n /\ But n w w' /\ z8' T k many size) ⟨_, _, _, _, _, _, _, [], rfl, .inl rfl, .inl rfl, hh, hb, rfl, by simp⟩ ?_ ?_
      . rintro state _ hst ⟨o5, o6, x7, x8, x9, x10, w3, T, rfl, h5, h6, hh3, hb3, hT, hTr⟩
        walk_at "s"
        refine ev' (fun k ρ => ∃ o5 o6 x9 x10 w', ∃ row : List Nat, ρ = ⟨[some (.fz (.obj n)), some (.fz (.int kind)), some (.fz (.int size)), some (.fz (.int many)), some (.lst ((T.map cF').map .fz)), some o5, some o6, some (.fz (.int (state : Nat))), some (.lst ((row.map fun t => D.int (t : Nat)).map .fz)), x9, x10], w'⟩ /\ Hd o5 (steps.map (fun t => D.int (t : Nat))) /\ Hd o6 (turns.map .lst) /\ cR' w' n /\ But n w w' /\ row.length = k /\ ∀ t ∈ row, t < size) ⟨_, _, _, _, _, [], rfl, h5, h6, hh3, hb3, rfl, by simp⟩ ?_ ?_
        . rintro letter _ hle ⟨o5, o6, x9, x10, w4, row, rfl, h5, h6, hh4, hb4, hrow, hrt⟩
          walk_at "s"
          refine (a7' hh4 (by omega) (by omega)).mono ?_
          rintro _ w5 ⟨d, rfl, hd, hh5, hb5⟩
          walk_at "s"
          have ht0 : (0 : Int) <= d := by omega
          generalize (d : Int) = t at hd ht0
          refine eF' (fun ρ => ∃ o5 o6, ∃ t : Int, ρ = ⟨[some (.fz (.obj n)), some (.fz (.int kind)), some (.fz (.int size)), some (.fz (.int many)), some (.lst ((T.map cF').map .fz)), some o5, some o6, some (.fz (.int (state : Nat))), some (.lst ((row.map fun t => D.int (t : Nat)).map .fz)), some (.fz (.int (letter : Nat))), some (.fz (.int t))], w5⟩ /\ Hd o5 (steps.map (fun t => D.int (t : Nat))) /\ Hd o6 (turns.map .lst) /\ 0 <= t /\ t < size) (bl' (fun hk3 => ?_) (fun _ => ?_)) ?_
          . walk_at "s"
            rcases h5 with rfl | rfl
            . walk_at "s"
              refine bI' (by omega) fun z hz _ => ?_
              walk_at "s"
              exact ⟨_, _, _, rfl, .inr rfl, h6, Int.emod_nonneg _ (by omega), Int.emod_lt_of_pos _ (by omega)⟩
            . walk_at "s"
              refine bI' (by omega) fun z hz _ => ?_
              walk_at "s"
              exact ⟨_, _, _, rfl, .inr rfl, h6, Int.emod_nonneg _ (by omega), Int.emod_lt_of_pos _ (by omega)⟩
          . walk_at "s"
            exact ⟨_, _, _, rfl, h5, h6, ht0, hd⟩
          rintro ρ5 hJ
          rcases hJ with ⟨o5, o6, t, rfl, h5, h6, ht0, hd⟩
          walk_at "s"
          refine eF' (fun ρ => ∃ o5 o6, ∃ t : Int, ρ = ⟨[some (.fz (.obj n)), some (.fz (.int kind)), some (.fz (.int size)), some (.fz (.int many)), some (.lst ((T.map cF').map .fz)), some o5, some o6, some (.fz (.int (state : Nat))), some (.lst ((row.map fun t => D.int (t : Nat)).map .fz)), some (.fz (.int (letter : Nat))), some (.fz (.int t))], w5⟩ /\ Hd o5 (steps.map (fun t => D.int (t : Nat))) /\ Hd o6 (turns.map .lst) /\ 0 <= t /\ t < size) (bl' (fun hk3 => ?_) (fun _ => ?_)) ?_
          . walk_at "s"
            rcases h5 with rfl | rfl
            . walk_at "s"
              refine bI' (by omega) fun z hz _ => ?_
              walk_at "s"
              exact ⟨_, _, _, rfl, .inr rfl, h6, by omega, by omega⟩
            . walk_at "s"
              refine bI' (by omega) fun z hz _ => ?_
              walk_at "s"
              exact ⟨_, _, _, rfl, .inr rfl, h6, by omega, by omega⟩
          . walk_at "s"
            exact ⟨_, _, _, rfl, h5, h6, ht0, hd⟩
          rintro ρ5 hJ
          rcases hJ with ⟨o5, o6, t, rfl, h5, h6, ht0, hd⟩
          walk_at "s"
          refine eF' (fun ρ => ∃ o5 o6, ∃ t : Int, ρ = ⟨[some (.fz (.obj n)), some (.fz (.int kind)), some (.fz (.int size)), some (.fz (.int many)), some (.lst ((T.map cF').map .fz)), some o5, some o6, some (.fz (.int (state : Nat))), some (.lst ((row.map fun t => D.int (t : Nat)).map .fz)), some (.fz (.int (letter : Nat))), some (.fz (.int t))], w5⟩ /\ Hd o5 (steps.map (fun t => D.int (t : Nat))) /\ Hd o6 (turns.map .lst) /\ 0 <= t /\ t < size) (bl' (fun hk3 => ?_) (fun _ => ?_)) ?_
          . walk_at "s"
            refine bl' (fun _ => ?_) (fun _ => ?_)
            . walk_at "s"
              exact ⟨_, _, _, rfl, h5, h6, Int.emod_nonneg _ (by omega), Int.emod_lt_of_pos _ (by omega)⟩
            . walk_at "s"
              exact ⟨_, _, _, rfl, h5, h6, by omega, by omega⟩
          . walk_at "s"
            exact ⟨_, _, _, rfl, h5, h6, ht0, hd⟩
          rintro ρ5 hJ
          rcases hJ with ⟨o5, o6, t, rfl, h5, h6, ht0, hd⟩
          walk_at "s"
          refine eF' (fun ρ => ∃ o5 o6, ∃ t : Int, ρ = ⟨[some (.fz (.obj n)), some (.fz (.int kind)), some (.fz (.int size)), some (.fz (.int many)), some (.lst ((T.map cF').map .fz)), some o5, some o6, some (.fz (.int (state : Nat))), some (.lst ((row.map fun t => D.int (t : Nat)).map .fz)), some (.fz (.int (letter : Nat))), some (.fz (.int t))], w5⟩ /\ Hd o5 (steps.map (fun t => D.int (t : Nat))) /\ Hd o6 (turns.map .lst) /\ 0 <= t /\ t < size) (bl' (fun hk3 => ?_) (fun _ => ?_)) ?_
          . walk_at "s"
            exact ⟨_, _, _, rfl, h5, h6, Int.emod_nonneg _ (by omega), Int.emod_lt_of_pos _ (by omega)⟩
          . walk_at "s"
            exact ⟨_, _, _, rfl, h5, h6, ht0, hd⟩
          rintro ρ5 hJ
          rcases hJ with ⟨o5, o6, t, rfl, h5, h6, ht0, hd⟩
          walk_at "s"
          refine eF' (fun ρ => ∃ o5 o6, ∃ t : Int, ρ = ⟨[some (.fz (.obj n)), some (.fz (.int kind)), some (.fz (.int size)), some (.fz (.int many)), some (.lst ((T.map cF').map .fz)), some o5, some o6, some (.fz (.int (state : Nat))), some (.lst ((row.map fun t => D.int (t : Nat)).map .fz)), some (.fz (.int (letter : Nat))), some (.fz (.int t))], w5⟩ /\ Hd o5 (steps.map (fun t => D.int (t : Nat))) /\ Hd o6 (turns.map .lst) /\ 0 <= t /\ t < size) (bl' (fun hk3 => ?_) (fun _ => ?_)) ?_
          . walk_at "s"
            refine ⟨_, _, _, rfl, h5, h6, ?_, ?_⟩
            . split <;> omega
            . split <;> omega
          . walk_at "s"
            exact ⟨_, _, _, rfl, h5, h6, ht0, hd⟩
          rintro ρ5 hJ
          rcases hJ with ⟨o5, o6, t, rfl, h5, h6, ht0, hd⟩
          walk_at "s"
          refine eF' (fun ρ => ∃ o5 o6, ∃ t : Int, ρ = ⟨[some (.fz (.obj n)), some (.fz (.int kind)), some (.fz (.int size)), some (.fz (.int many)), some (.lst ((T.map cF').map .fz)), some o5, some o6, some (.fz (.int (state : Nat))), some (.lst ((row.map fun t => D.int (t : Nat)).map .fz)), some (.fz (.int (letter : Nat))), some (.fz (.int t))], w5⟩ /\ Hd o5 (steps.map (fun t => D.int (t : Nat))) /\ Hd o6 (turns.map .lst) /\ 0 <= t /\ t < size) (bl' (fun hk3 => ?_) (fun _ => ?_)) ?_
          . walk_at "s"
            refine bl' (fun _ => ?_) (fun _ => ?_)
            . walk_at "s"
              refine bl' (fun _ => ?_) (fun _ => ?_)
              . walk_at "s"
                refine ⟨_, _, _, rfl, h5, h6, Int.emod_nonneg _ (by omega), ?_⟩
                have := Int.emod_lt_of_pos ((state : Int) + 1) (show (0 : Int) < (size : Int) - 1 by omega)
                omega
              . walk_at "s"
                exact ⟨_, _, _, rfl, h5, h6, by omega, by omega⟩
            . walk_at "s"
              exact ⟨_, _, _, rfl, h5, h6, by omega, by omega⟩
          . walk_at "s"
            exact ⟨_, _, _, rfl, h5, h6, ht0, hd⟩
          rintro ρ5 hJ
          rcases hJ with ⟨o5, o6, t, rfl, h5, h6, ht0, hd⟩
          walk_at "s"
          refine eF' (fun ρ => ∃ o5 o6, ∃ t : Int, ρ = ⟨[some (.fz (.obj n)), some (.fz (.int kind)), some (.fz (.int size)), some (.fz (.int many)), some (.lst ((T.map cF').map .fz)), some o5, some o6, some (.fz (.int (state : Nat))), some (.lst ((row.map fun t => D.int (t : Nat)).map .fz)), some (.fz (.int (letter : Nat))), some (.fz (.int t))], w5⟩ /\ Hd o5 (steps.map (fun t => D.int (t : Nat))) /\ Hd o6 (turns.map .lst) /\ 0 <= t /\ t < size) (bl' (fun hk3 => ?_) (fun _ => ?_)) ?_
          . walk_at "s"
            rcases h6 with rfl | rfl
            . walk_at "s"
              refine bI' (by omega) fun z hz _ => ?_
              have hp := hperm z hz
              have hpl := hp.length_eq
              rw [de'] at hpl
              walk_at "s"
              refine bI' (by omega) fun y hy _ => ?_
              obtain ⟨v, hv, rfl⟩ := il' (hp.mem_iff.mp hy)
              walk_at "s"
              exact ⟨_, _, _, rfl, h5, .inr rfl, by omega, by omega⟩
            . walk_at "s"
              refine bI' (by omega) fun z hz _ => ?_
              have hp := hperm z hz
              have hpl := hp.length_eq
              rw [de'] at hpl
              walk_at "s"
              refine bI' (by omega) fun y hy _ => ?_
              obtain ⟨v, hv, rfl⟩ := il' (hp.mem_iff.mp hy)
              walk_at "s"
              exact ⟨_, _, _, rfl, h5, .inr rfl, by omega, by omega⟩
          . walk_at "s"
            exact ⟨_, _, _, rfl, h5, h6, ht0, hd⟩
          rintro ρ5 hJ
          rcases hJ with ⟨o5, o6, t, rfl, h5, h6, ht0, hd⟩
          obtain ⟨t, rfl⟩ := Int.eq_ofNat_of_zero_le ht0
          walk_at "s"
          exact ⟨_, _, _, _, _, row ++ [t], by simp; exact ⟨rfl, rfl⟩, h5, h6, hh5, hb4.trans hb5, by simp [hrow], by simpa [or_imp, forall_and] using ⟨hrt, by omega⟩⟩
        . rintro _ ⟨o5, o6, x9, x10, w4, row, rfl, h5, h6, hh4, hb4, hrow, hrt⟩
          walk_at "s"
          exact ⟨_, _, _, _, _, _, _, T ++ [row], by simp [cF']; exact ⟨rfl, rfl, rfl, rfl⟩, h5, h6, hh4, hb4, by simp [hT], by
            simp only [List.mem_append, List.mem_singleton]
            rintro r (hr | rfl)
            . exact hTr r hr
            . exact ⟨hrow, hrt⟩⟩
      . rintro _ ⟨o5, o6, x7, x8, x9, x10, w3, T, rfl, h5, h6, hh3, hb3, hT, hTr⟩
        walk_at "s"
        exact ⟨T, rfl, hT, hTr⟩
theorem gT' {w : W} {n : Nat} {kind size many : Nat} (h : cR' w n) (hs : 1 <= size) (hs2 : size < 1000) (hm : 1 <= many) (hm2 : many < 1000) (hk : kind <= 4 \/ 2 <= size) : wF (f__law_rows [.obj n, .int kind, .int size, .int many] w) (fun o w' => ∃ T, o = .fz (cy' T) /\ bi' T size many /\ cR' w' n /\ But n w w') FX := sW' h hs hs2 hm hm2
theorem lA' {n : Nat} {pre post : List Nat} {c : Nat} (e : List.range n = pre ++ c :: post) : c = pre.length /\ pre.length < n := by
  have h1 : (List.range n)[pre.length]? = some c := by rw [e]; simp
  have h2 : pre.length < n := by
    have := congrArg List.length e
    simp at this
    omega
  rw [List.getElem?_range h2] at h1
  exact ⟨(Option.some.inj h1).symm, h2⟩
theorem qu' (s : Tx) : (cA' s).length = s.length := List.length_mergeSort s
theorem h7' (s : Tx) : (cA' s).Perm s := List.mergeSort_perm s _
theorem sL' (s : Tx) : (cA' s).Pairwise (· <= ·) := by
  have := List.pairwise_mergeSort (le := fun a b : Nat => decide (a <= b)) (fun a b c h1 h2 => by simp at *; omega) (fun a b => by simp; omega) s
  exact this.imp (by simp)
theorem sK' {s : Tx} (h : s.Nodup) : (cA' s).Pairwise (· < ·) := by
  have h1 := sL' s
  have h2 : (cA' s).Nodup := (h7' s).nodup_iff.mpr h
  exact (h1.and h2).imp (fun h => by have := h.1; have := h.2; omega)
theorem og' {w : W} {n : Nat} {many : Nat} (h : cR' w n) (hm : 1 <= many) (hm2 : many < 1000) : wF (f__law_woven [.obj n, .int many] w) (fun o w' => ∃ T, o = .fz (cy' T) /\ bi' T T.length many /\ 4 <= T.length /\ T.length <= 6 /\ cR' w' n /\ But n w w') FX := by
  unfold f__law_woven
  walk_at "f"
  refine (a7' h (by omega) (by omega)).mono ?_
  rintro _ w1 ⟨k1, rfl, hk1, h1, b1⟩
  walk_at "s"
  refine (gT' (kind := 3 + k1) (size := 2) h1 (by decide) (by decide) hm hm2 (by omega)).mono ?_
  rintro _ w2 ⟨T1, rfl, hT1, h2, b2⟩
  walk_at "s"
  refine (a7' h2 (by omega) (by omega)).mono ?_
  rintro _ w3 ⟨z, rfl, hz, h3, b3⟩
  walk_at "s"
  have hsz : ∃ sz : Nat, (2 + (z : Int)) = (sz : Nat) /\ 2 <= sz /\ sz <= 3 := ⟨2 + z, by omega, by omega, by omega⟩
  obtain ⟨sz, esz, hsz1, hsz2⟩ := hsz
  rw [esz]
  refine (a7' h3 (by omega) (by omega)).mono ?_
  rintro _ w4 ⟨k2, rfl, hk2, h4, b4⟩
  walk_at "s"
  refine (gT' (kind := 3 + k2) (size := sz) h4 (by omega) (by omega) hm hm2 (by omega)).mono ?_
  rintro _ w5 ⟨T2, rfl, hT2, h5, b5⟩
  clear esz
  walk_at "s"
  refine ev' (fun k ρ => ∃ R : List (List Nat), R.length = k /\ (∀ r ∈ R, r.length = many /\ ∀ t ∈ r, t < 2 * sz) /\ ∃ y1 y2 y3 y4, ρ = ⟨[some (.fz (.obj n)), some (.fz (.int many)), some (.fz (cy' T1)), some (.fz (.int sz)), some (.fz (cy' T2)), some (.lst (R.map fun r => .fz (cF' r))), y1, y2, y3, y4], w5⟩) ⟨[], rfl, by simp, _, _, _, _, rfl⟩ ?_ ?_
  . rintro s _ hs ⟨R, hR, hr, y1, y2, y3, y4, rfl⟩
    have hs2 : s < 2 * sz := by omega
    have d1 : (0 + (s : Int)) / (sz : Int) = ((s / sz : Nat) : Int) := by rw [Int.zero_add]; rfl
    have d2 : (0 + (s : Int)) % (sz : Int) = ((s % sz : Nat) : Int) := by rw [Int.zero_add]; rfl
    have l1 : s / sz < 2 := Nat.div_lt_of_lt_mul (by rw [Nat.mul_comm]; exact hs2)
    have l2 : s % sz < sz := Nat.mod_lt _ (by omega)
    have r1 := cJ' (T := T1) (n := 2) (m := many) hT1 l1
    have r2 := cJ' (T := T2) (n := sz) (m := many) hT2 l2
    have n1 := cd' (T := T1) hT1 l1
    have n2 := cd' (T := T2) hT2 l2
    have t1 : ∀ {k t : Nat}, (ap' T1 (s / sz))[k]? = some t -> t < 2 := fun h => if' hT1 (List.mem_of_getElem? h)
    have t2 : ∀ {k t : Nat}, (ap' T2 (s % sz))[k]? = some t -> t < sz := fun h => if' hT2 (List.mem_of_getElem? h)
    have d1' : (s : Int) / (sz : Int) = ((s / sz : Nat) : Int) := rfl
    have d2' : (s : Int) % (sz : Int) = ((s % sz : Nat) : Int) := rfl
    walk_at "s"
    refine wj' (fun k => .int (((ap' T1 (s / sz))[k]?.getD 0 * sz + (ap' T2 (s % sz))[k]?.getD 0 : Nat))) (by omega) ?_ ?_
    . intro k hk
      have e1 : (ap' T1 (s / sz))[k]? = some ((ap' T1 (s / sz))[k]'(by omega)) := List.getElem?_eq_getElem (by omega)
      have e2 : (ap' T2 (s % sz))[k]? = some ((ap' T2 (s % sz))[k]'(by omega)) := List.getElem?_eq_getElem (by omega)
      have f1 := t1 e1
      have f2 := t2 e2
      generalize (ap' T1 (s / sz))[k]'_ = a at *
      generalize (ap' T2 (s % sz))[k]'_ = b at *
      clear r1 r2 t1 t2 d1 d2 d1' d2'
      walk_at "s"
      rw [Option.getD_some, Option.getD_some]
      push_cast
      rfl
    walk_at "l"
    have hl : R.length < 16777216 := by omega
    walk_at "s"
    refine ⟨R ++ [(List.range many).map fun k => (ap' T1 (s / sz))[k]?.getD 0 * sz + (ap' T2 (s % sz))[k]?.getD 0], by simp [hR], ?_, _, _, _, _, by rw [List.map_append, List.map_cons, List.map_nil]; simp only [cF', List.map_map]; rfl⟩
    intro r hr'
    rcases List.mem_append.mp hr' with h | h
    . exact hr r h
    . rw [List.mem_singleton] at h
      subst h
      refine ⟨by simp, fun t ht => ?_⟩
      obtain ⟨k, hk, rfl⟩ := List.mem_map.mp ht
      have hk := List.mem_range.mp hk
      have e1 : (ap' T1 (s / sz))[k]? = some ((ap' T1 (s / sz))[k]'(by omega)) := List.getElem?_eq_getElem (by omega)
      have e2 : (ap' T2 (s % sz))[k]? = some ((ap' T2 (s % sz))[k]'(by omega)) := List.getElem?_eq_getElem (by omega)
      have f1 := t1 e1
      have f2 := t2 e2
      rw [e1, e2, Option.getD_some, Option.getD_some]
      generalize (ap' T1 (s / sz))[k]'_ = a at *
      generalize (ap' T2 (s % sz))[k]'_ = b at *
      have : a = 0 \/ a = 1 := by omega
      rcases this with rfl | rfl <;> omega
  . rintro _ ⟨R, hR, hr, y1, y2, y3, y4, rfl⟩
    walk_at "s"
    have hRl : R.length = 2 * sz := by omega
    refine ⟨R, ?_, ⟨rfl, fun r h => ⟨(hr r h).1, fun t ht => by have := (hr r h).2 t ht; omega⟩⟩, by omega, by omega, (((b1.trans b2).trans b3).trans b4).trans b5⟩
    unfold cy'
    rw [eu', List.map_map]
    rfl
theorem ke' {w : W} {n : Nat} {most states : Nat} (h : cR' w n) (hm : 1 <= most) (hm2 : most <= 26) (hs : 6 <= states) (hs2 : states < 100) : wF (f__law_parts [.obj n, .int most, .int states] w) (fun o w' => ∃ L T A, o = .fz (.tup [.str L, cy' T, dg' A]) /\ MacOk L T A most states /\ cR' w' n /\ But n w w') FX := by
  unfold f__law_parts
  walk_at "f"
  refine (a7' h (by omega) (by omega)).mono ?_
  rintro _ w1 ⟨kind, rfl, hkind, h1, b1⟩
  walk_at "s"
  refine (a7' h1 (by omega) (by omega)).mono ?_
  rintro _ w2 ⟨many0, rfl, hmany0, h2, b2⟩
  walk_at "s"
  refine (a7' h2 (by omega) (by omega)).mono ?_
  rintro _ w3 ⟨size0, rfl, hsize0, h3, b3⟩
  walk_at "s"
  refine eF' (fun ρ => ∃ many size : Nat, ρ = ⟨[some (.fz (.obj n)), some (.fz (.int most)), some (.fz (.int states)), some (.fz (.int kind)), some (.fz (.int many)), some (.fz (.int size)), none, none, none, none, none], w3⟩ /\ 1 <= many /\ many <= most /\ 1 <= size /\ size <= states /\ (kind <= 4 \/ 2 <= size)) (bl' (fun hk => ?_) (fun hk => ?_)) ?_
  . walk_at "s"
    refine ⟨max (min 2 most) (1 + many0), max 2 (1 + size0), ?_, by omega, by omega, by omega, by omega, by omega⟩
    have e1 : ((max (min 2 most) (1 + many0) : Nat) : Int) = max (min 2 (most : Int)) (1 + (many0 : Int)) := by omega
    have e2 : ((max 2 (1 + size0) : Nat) : Int) = max 2 (1 + (size0 : Int)) := by omega
    rw [e1, e2]
  . walk_at "s"
    refine ⟨1 + many0, 1 + size0, ?_, by omega, by omega, by omega, by omega, by omega⟩
    have e1 : ((1 + many0 : Nat) : Int) = (1 + (many0 : Int)) := by omega
    have e2 : ((1 + size0 : Nat) : Int) = (1 + (size0 : Int)) := by omega
    rw [e1, e2]
  rintro _ ⟨many, size, rfl, hm1, hmm, hs1, hss, hks⟩
  walk_at "s"
  refine (c6' (l := [97, 98, 99, 100, 101, 102, 103, 104, 105, 106, 107, 108, 109, 110, 111, 112, 113, 114, 115, 116, 117, 118, 119, 120, 121, 122].map chD) h3 (by decide)).mono ?_
  rintro _ w4 ⟨r, rfl, hperm, h4, b4⟩
  obtain ⟨r', rfl, hp'⟩ : ∃ r' : List Nat, r = r'.map chD /\ r'.Perm abc := by
    refine ⟨r.map fun d => (match d with | .str [c] => c | _ => 0), ?_, ?_⟩
    . rw [List.map_map]
      have : ∀ d ∈ r, (chD ∘ fun d => (match d with | .str [c] => c | _ => 0)) d = d := fun d hd => by
        obtain ⟨c, _, rfl⟩ := List.mem_map.mp (hperm.subset hd)
        rfl
      exact ((List.map_congr_left this).trans (List.map_id r)).symm
    . have := hperm.map fun d => (match d with | .str [c] => c | _ => 0)
      rw [List.map_map] at this
      refine this.trans ?_
      rw [show ((fun d : D => (match d with | .str [c] => c | _ => 0)) ∘ chD) = id from rfl, List.map_id]
  have hlen' := hp'.length_eq
  have hmany : many <= 26 := by omega
  have hq : (r'.take many).length = many := by rw [List.length_take, hlen']; show min many 26 = many; omega
  have hnd : (r'.take many).Nodup := (hp'.nodup_iff.mpr (by decide)).sublist (List.take_sublist ..)
  have hne : r'.take many ≠ [] := fun e => by rw [e] at hq; simp at hq; omega
  have hso : ∀ Q : D -> Prop, wD (da' (.lst ((r'.take many).map chD))) Q = Q (.lst ((cA' (r'.take many)).map chD)) := fun Q => by rw [wR' hne, iE' (by omega)]
  have hlen := qu' (r'.take many)
  have hlow : ∀ c ∈ cA' (r'.take many), 97 <= c /\ c <= 122 := fun c hc => rl'.mp (hp'.mem_iff.mp (List.mem_of_mem_take ((h7' _).mem_iff.mp hc)))
  walk_at "s"
  rw [<- List.map_take, hso]
  have hl26 : (cA' (r'.take many)).length <= 16777216 := by omega
  walk_at "s"
  refine eF' (fun ρ => ∃ T : List (List Nat), ∃ w', ρ = ⟨[some (.fz (.obj n)), some (.fz (.int most)), some (.fz (.int states)), some (.fz (.int kind)), some (.fz (.int many)), some (.fz (.int size)), some (.fz (.lst (r'.map chD))), some (.fz (.str (cA' (r'.take many)))), some (.fz (cy' T)), none, none], w'⟩ /\ bi' T T.length many /\ 1 <= T.length /\ T.length <= states /\ cR' w' n /\ But n w w') (bl' (fun hk => ?_) (fun hk => ?_)) ?_
  . walk_at "s"
    refine (og' h4 hm1 (by omega)).mono ?_
    rintro _ w5 ⟨T, rfl, hT, ht1, ht2, h5, b5⟩
    walk_at "s"
    exact ⟨T, _, rfl, hT, by omega, by omega, h5, (((b1.trans b2).trans b3).trans b4).trans b5⟩
  . walk_at "s"
    refine (gT' h4 hs1 (by omega) hm1 (by omega) hks).mono ?_
    rintro _ w5 ⟨T, rfl, hT, h5, b5⟩
    walk_at "s"
    refine ⟨T, _, rfl, by rw [hT.1]; exact hT, by rw [hT.1]; exact hs1, by rw [hT.1]; exact hss, h5, (((b1.trans b2).trans b3).trans b4).trans b5⟩
  rintro _ ⟨T, w5, rfl, hT, hT1, hT2, h5, b5⟩
  walk_at "s"
  refine ga' (by simp; omega) (fun pre acc ρ => (∃ A : List Nat, acc = A.map (fun a => .int (a : Nat)) /\ A.Pairwise (· < ·) /\ ∀ a ∈ A, a < pre.length) /\ ∃ x w', ρ = ⟨[some (.fz (.obj n)), some (.fz (.int most)), some (.fz (.int states)), some (.fz (.int kind)), some (.fz (.int many)), some (.fz (.int size)), some (.fz (.lst (r'.map chD))), some (.fz (.str (cA' (r'.take many)))), some (.fz (cy' T)), none, x], w'⟩ /\ cR' w' n /\ But n w w') ⟨⟨[], rfl, by simp, by simp⟩, _, _, rfl, h5, b5⟩ ?_ ?_
  . rintro pre c post acc _ e ⟨⟨A, rfl, hp, hA⟩, x, w6, rfl, h6, b6⟩
    obtain ⟨rfl, hlt⟩ := lA' e
    walk_at "s"
    refine (a7' h6 (by omega) (by omega)).mono ?_
    rintro _ w7 ⟨d, rfl, hd, h7, b7⟩
    walk_at "s"
    refine bl' (fun hd => ?_) (fun hd => ?_)
    . walk_at "s"
      refine ⟨⟨A ++ [pre.length], by simp, ?_, ?_⟩, _, _, rfl, h7, b6.trans b7⟩
      . rw [List.pairwise_append]
        exact ⟨hp, by simp, by simpa using hA⟩
      . simp only [List.mem_append, List.mem_singleton, List.length_append, List.length_singleton]
        rintro a (ha | rfl)
        . have := hA a ha; omega
        . omega
    . exact ⟨⟨A, rfl, hp, fun a ha => by have := hA a ha; simp; omega⟩, _, _, rfl, h7, b6.trans b7⟩
  . rintro _ _ ⟨⟨A, rfl, hp, hA⟩, x, w6, rfl, h6, b6⟩
    rw [List.length_range] at hA
    walk_at "s"
    refine ⟨_, T, A, rfl, ⟨⟨by omega, by omega, sK' hnd, hlow⟩, ?_, hT1, hT2, ⟨hp, hA⟩⟩⟩
    rw [hlen, hq]
    exact hT
theorem iB' {α β : Type} (f : α -> D) (g : β -> D) : ∀ (a : List α) (b : List β), ds' (a.map f) (b.map g) = (a.zip b).map fun p => .tup [f p.1, g p.2]
  | [], _ => by simp [ds']
  | _ :: _, [] => by simp [ds']
  | x :: a, y :: b => by simp [ds', iB' f g a b]
theorem hE' : ∀ s : List Nat, s.Pairwise (· < ·) ↔ ∀ p ∈ s.zip (s.drop 1), p.1 < p.2
  | [] => by simp
  | [a] => by simp
  | a :: b :: r => by
    have ih := hE' (b :: r)
    simp only [List.drop_succ_cons, List.drop_zero, List.zip_cons_cons, List.mem_cons, forall_eq_or_imp] at ih ⊢
    rw [List.pairwise_cons, <- ih]
    constructor
    . rintro ⟨h1, h2⟩
      exact ⟨h1 b (by simp), h2⟩
    . rintro ⟨h1, h2⟩
      refine ⟨?_, h2⟩
      rw [List.pairwise_cons] at h2
      intro c hc
      rcases List.mem_cons.mp hc with rfl | hc
      . exact h1
      . exact Nat.lt_trans h1 (h2.1 c hc)
theorem c0' (s S : Tx) (w : W) : wF (f_is_string_of [.str s, .str S] w) (fun o w' => o = .fz (.bl (s.all fun c => decide (c ∈ S))) /\ w' = w) FX := by
  unfold f_is_string_of
  walk_at "f"
  refine bG' (fun pre ρ => ∃ x, ρ = ⟨[some (.fz (.str s)), some (.fz (.str S)), x], w⟩ /\ ∀ c ∈ pre, c ∈ S) ⟨_, rfl, by simp⟩ ?_ ?_
  . rintro pre c post _ e ⟨x, rfl, hp⟩
    walk_at "s"
    refine bl' (fun h => ?_) (fun h => ?_)
    . walk_at "s"
      exact ⟨_, rfl, by simpa [or_imp, forall_and] using ⟨hp, h⟩⟩
    . walk_at "s"
      refine Ax' ?_
      rw [List.all_eq_false]
      exact ⟨c, by simp, by simpa using h⟩
  . rintro _ ⟨x, rfl, hp⟩
    walk_at "s"
    refine Aw' ?_
    rw [List.all_eq_true]
    exact fun c hc => by simpa using hp c hc
theorem dH' {d : D} (h : ∃ t, tyn d = some t /\ t ≠ "str") (S : Tx) (w : W) : wF (f_is_string_of [d, .str S] w) (fun o w' => o = .fz (.bl false) /\ w' = w) FX := by
  unfold f_is_string_of
  cases d <;> simp [tyn] at h
  all_goals walk_at "f"
theorem fH' (s : Tx) (w : W) : wF (f_is_ascending [.str s] w) (fun o w' => o = .fz (.bl (decide (s.Pairwise (· < ·)))) /\ w' = w) FX := by
  unfold f_is_ascending
  walk_at "f"
  rw [iB']
  refine bG' (fun pre ρ => ∃ x y, ρ = ⟨[some (.fz (.str s)), x, y], w⟩ /\ ∀ p ∈ pre, p.1 < p.2) ⟨_, _, rfl, by simp⟩ ?_ ?_
  . rintro pre c post _ e ⟨x, y, rfl, hp⟩
    walk_at "s"
    refine bl' (fun h => ?_) (fun h => ?_)
    . walk_at "s"
      refine ⟨_, _, rfl, ?_⟩
      have : c.1 < c.2 := by simpa [List.cons_lt_cons_iff] using h
      simp only [List.mem_append, List.mem_singleton]
      rintro p (hq | rfl)
      . exact hp p hq
      . exact this
    . walk_at "s"
      refine Ax' ?_
      rw [decide_eq_false_iff_not, hE']
      intro h2
      have := h2 c (by rw [e]; simp)
      exact h (by simpa [List.cons_lt_cons_iff] using this)
  . rintro _ ⟨x, y, rfl, hp⟩
    walk_at "s"
    refine Aw' ?_
    rw [decide_eq_true_iff, hE']
    exact hp
theorem ea' (s S : Tx) (w : W) : wF (f_is_choice [.str s, .str S] w) (fun o w' => o = .fz (.bl ((s.all fun c => decide (c ∈ S)) && decide (s.Pairwise (· < ·)))) /\ w' = w) FX := by
  unfold f_is_choice
  walk_at "f"
  refine (c0' s S w).mono ?_
  rintro _ _ ⟨rfl, rfl⟩
  walk_at "s"
  refine vh' (fun h => ?_) (fun h => ?_)
  . walk_at "s"
    refine (fH' s _).mono ?_
    rintro _ _ ⟨rfl, rfl⟩
    walk_at "s"
  . walk_at "s"
theorem g8' (i : Int) (w : W) : wF (f_is_integer [.int i] w) (fun o w' => o = .fz (.bl true) /\ w' = w) FX := by
  unfold f_is_integer
  walk_at "f"
theorem gq' (A : List Nat) (w : W) : wF (f_is_ascending [dg' A] w) (fun o w' => o = .fz (.bl (decide (A.Pairwise (· < ·)))) /\ w' = w) FX := by
  unfold f_is_ascending dg'
  walk_at "f"
  have e0 : (A.map fun a => D.int (a : Nat)).drop 1 = (A.drop 1).map fun a => D.int (a : Nat) := by rw [List.map_drop]
  rw [e0, iB']
  refine bG' (fun pre ρ => ∃ x y, ρ = ⟨[some (.fz (.tup (A.map fun a => .int (a : Nat)))), x, y], w⟩ /\ ∀ p ∈ pre, p.1 < p.2) ⟨_, _, rfl, by simp⟩ ?_ ?_
  . rintro pre c post _ e ⟨x, y, rfl, hp⟩
    walk_at "s"
    refine bl' (fun h => ?_) (fun h => ?_)
    . walk_at "s"
      refine Ax' ?_
      rw [decide_eq_false_iff_not, hE']
      intro h2
      have := h2 c (by rw [e]; simp)
      omega
    . walk_at "s"
      refine ⟨_, _, rfl, ?_⟩
      simp only [List.mem_append, List.mem_singleton]
      rintro p (hq | rfl)
      . exact hp p hq
      . omega
  . rintro _ ⟨x, y, rfl, hp⟩
    walk_at "s"
    refine Aw' ?_
    rw [decide_eq_true_iff, hE']
    exact hp
theorem dP' (A : List Nat) (m : Nat) (w : W) : wF (f_are_states [dg' A, .int m] w) (fun o w' => o = .fz (.bl (A.all fun a => decide (a < m))) /\ w' = w) FX := by
  unfold f_are_states dg'
  walk_at "f"
  refine bG' (fun pre ρ => ∃ x, ρ = ⟨[some (.fz (.tup (A.map fun a => .int (a : Nat)))), some (.fz (.int m)), x], w⟩ /\ ∀ a ∈ pre, a < m) ⟨_, rfl, by simp⟩ ?_ ?_
  . rintro pre c post _ e ⟨x, rfl, hp⟩
    walk_at "s"
    refine (g8' _ _).mono ?_
    rintro _ _ ⟨rfl, rfl⟩
    walk_at "s"
    refine bl' (fun h => ?_) (fun h => ?_)
    . walk_at "s"
      refine Ax' ?_
      rw [List.all_eq_false]
      exact ⟨c, by simp, by simp; omega⟩
    . walk_at "s"
      exact ⟨_, rfl, by simpa [or_imp, forall_and] using ⟨hp, by omega⟩⟩
  . rintro _ ⟨x, rfl, hp⟩
    walk_at "s"
    refine Aw' ?_
    rw [List.all_eq_true]
    exact fun c hc => by simpa using hp c hc
theorem jf' {T : List (List Nat)} {L : Tx} (h : bi' T T.length L.length) (h1 : 1 <= T.length) (h2 : T.length <= 6) (w : W) : wF (f_is_table [cy' T, .str L] w) (fun o w' => o = .fz (.bl true) /\ w' = w) FX := by
  unfold f_is_table cy'
  walk_at "f"
  refine bG' (fun pre ρ => ∃ x, ρ = ⟨[some (.fz (.tup (T.map cF'))), some (.fz (.str L)), x], w⟩) ⟨_, rfl⟩ ?_ ?_
  . rintro pre c post _ e ⟨x, rfl⟩
    have hc := h.2 c (by rw [e]; simp)
    clear e
    walk_at "s"
    refine (dP' c T.length w).mono ?_
    rintro _ _ ⟨rfl, rfl⟩
    have e2 : (c.all fun a => decide (a < T.length)) = true := by rw [List.all_eq_true]; exact fun a ha => by simpa using hc.2 a ha
    have e3 := hc.1
    clear hc
    rw [e2]
    unfold cF'
    walk_at "s"
    exact ⟨_, rfl⟩
  . rintro _ ⟨x, rfl⟩
    walk_at "s"
def eB (b : Bool) : D := .bl b
theorem Dr' : KeyE eB := ⟨fun a b => by cases a <;> cases b <;> rfl, fun _ => rfl, fun _ => by show dep (.bl _) <= 8; simp [dep], fun _ _ => rfl⟩
def eK (k : Nat × List Nat) : D := .tup [.int (k.1 : Nat), .tup (k.2.map fun t => .int (t : Nat))]
theorem kH' : ∀ a b : List Nat, eqbs (a.map fun t => .int (t : Nat)) (b.map fun t => .int (t : Nat)) = decide (a = b)
  | [], [] => rfl
  | [], _ :: _ => rfl
  | _ :: _, [] => rfl
  | a :: l, b :: r => by
    simp only [List.map_cons, eqbs, fI', kH' l r]
    rw [Bool.eq_iff_iff]
    simp
theorem yT' : KeyE eK := by
  refine ⟨fun a b => ?_, fun a => ?_, fun a => ?_, fun _ _ => rfl⟩
  . obtain ⟨a1, a2⟩ := a
    obtain ⟨b1, b2⟩ := b
    simp only [eK, eqb, eqbs, kH', Bool.and_true]
    rw [Bool.eq_iff_iff]
    simp
    omega
  . have : ∀ l : List Nat, kats (l.map fun t => .int (t : Nat)) = true := by intro l; induction l <;> simp_all [kats, kat]
    simp [eK, kat, kats, this]
  . have : ∀ l : List Nat, deps (l.map fun t => .int (t : Nat)) <= 1 := by intro l; induction l <;> simp_all [deps, dep]
    have := this a.2
    simp only [eK, dep, deps]
    omega
theorem eX' {γ : Type} [DecidableEq γ] {e : γ -> D} (he : KeyE e) (S : List Nat) (f : Nat -> γ) (hS : S.Nodup) (hl : S.length <= 1000) (w : W) : wF (f_numbered [dNz (S.map fun s => (s, e (f s)))] w) (fun o w' => o = dN (S.map fun s => (s, .int (jy' S f s : Nat))) /\ w' = w) FX := by
  unfold f_numbered
  walk_at "f"
  have pairs : ∀ G : List γ, G.Nodup -> ∀ k : γ, (G.map fun a => (a, D.int (G.idxOf a : Nat))).lookup k = if k ∈ G then some (D.int (G.idxOf k : Nat)) else none := by
    intro G _ k
    have go : ∀ (l : List γ) (h : γ -> D), (l.map fun a => (a, h a)).lookup k = if k ∈ l then some (h k) else none := by
      intro l h
      induction l with
      | nil => rfl
      | cons a l ih =>
        rw [List.map_cons, List.lookup_cons, ih]
        by_cases q : k = a
        . subst q; simp
        . have : (k == a) = false := by simpa using q
          simp [this, q]
    exact go G _
  rw [List.map_map]
  refine bG' (fun pre ρ => ∃ y z, ρ = ⟨[some (.fz (dNz (S.map fun s => (s, e (f s))))), some (dX e ((am' (pre.map f)).map fun a => (a, .int ((am' (pre.map f)).idxOf a : Nat)))), some (dN (pre.map fun s => (s, .int ((am' (S.map f)).idxOf (f s) : Nat)))), y, z], w⟩) ⟨_, _, rfl⟩ ?_ ?_
  . rintro pre s post _ es ⟨y, z, rfl⟩
    rw [List.map_append, List.map_cons, List.map_nil, bB']
    show wD (gT [3, 4] (.tup [.int (s : Nat), e (f s)]) _) _
    -- numbers found once stay
    have keep : (am' (pre.map f ++ [f s])) <+: am' (S.map f) := by
      have e2 : am' (S.map f) = cD' (am' (pre.map f ++ [f s])) (post.map f) := by
        rw [es, List.map_append, List.map_cons, show pre.map f ++ f s :: post.map f = (pre.map f ++ [f s]) ++ post.map f by simp]
        exact df'
      rw [e2]
      exact dV'
    rw [bB'] at keep
    have hnd : (am' (pre.map f)).Nodup := g5'
    have hlk := pairs _ hnd (f s)
    have hlen : pre.length < 1000 := by
      have := congrArg List.length es
      simp at this
      omega
    have hlen2 : (am' (pre.map f)).length <= pre.length := by
      have h2 := List.Nodup.length_le_of_subset hnd (l₂ := pre.map f) (fun a ha => aF'.mp ha)
      simpa using h2
    have hfr : ((pre.map fun s => (s, D.int ((am' (S.map f)).idxOf (f s) : Nat))).lookup s) = none := by
      refine cf' _ _ ?_
      rw [List.map_map]
      intro hm
      rw [es] at hS
      obtain ⟨s', hs', e'⟩ := List.mem_map.mp hm
      have : s' = s := e'
      exact (List.nodup_append.mp hS).2.2 s' hs' s (by simp) this
    have hl3 : (pre.map fun s => (s, D.int ((am' (S.map f)).idxOf (f s) : Nat))).length < 16777216 := by rw [List.length_map]; omega
    by_cases hm : f s ∈ am' (pre.map f)
    . rw [if_pos hm] at hlk
      rw [co' hm] at keep ⊢
      have hx := fF' he ((am' (pre.map f)).map fun a => (a, D.int ((am' (pre.map f)).idxOf a : Nat))) (f s)
      rw [hlk] at hx
      have hid : (am' (S.map f)).idxOf (f s) = (am' (pre.map f)).idxOf (f s) := by
        obtain ⟨G, eG⟩ := keep
        rw [<- eG, List.idxOf_append, if_pos hm]
      clear es keep
      walk_at "s"
      exact ⟨_, _, by rw [List.map_append, List.map_cons, List.map_nil, hid]⟩
    . rw [if_neg hm] at hlk
      rw [bX' hm] at keep ⊢
      have hx := fF' he ((am' (pre.map f)).map fun a => (a, D.int ((am' (pre.map f)).idxOf a : Nat))) (f s)
      rw [hlk] at hx
      have hp := fun d => q0' he (l := (am' (pre.map f)).map fun a => (a, D.int ((am' (pre.map f)).idxOf a : Nat))) (k := f s) hlk (by rw [List.length_map]; omega) d
      have hx2 := fun d => fF' he (((am' (pre.map f)).map fun a => (a, D.int ((am' (pre.map f)).idxOf a : Nat))) ++ [(f s, d)]) (f s)
      have hl4 : ∀ d : D, (((am' (pre.map f)).map fun a => (a, D.int ((am' (pre.map f)).idxOf a : Nat))) ++ [(f s, d)]).lookup (f s) = some d := by
        intro d
        rw [List.lookup_append, hlk]
        simp
      simp only [hl4] at hx2
      have hid : (am' (S.map f)).idxOf (f s) = (am' (pre.map f)).length := by
        obtain ⟨G, eG⟩ := keep
        rw [<- eG, List.idxOf_append, if_pos (by simp), List.idxOf_append, if_neg hm]
        simp
      have hnew : (am' (pre.map f) ++ [f s]).map (fun a => (a, D.int ((am' (pre.map f) ++ [f s]).idxOf a : Nat))) = ((am' (pre.map f)).map fun a => (a, D.int ((am' (pre.map f)).idxOf a : Nat))) ++ [(f s, D.int ((am' (pre.map f)).length : Nat))] := by
        rw [List.map_append]
        congr 1
        . refine List.map_congr_left fun a ha => ?_
          rw [List.idxOf_append, if_pos ha]
        . simp [List.idxOf_append, hm]
      rw [hnew]
      clear es keep hnew hl4
      walk_at "s"
      exact ⟨_, _, by rw [List.map_append, List.map_cons, List.map_nil, hid]⟩
  . rintro _ ⟨y, z, rfl⟩
    walk_at "s"
    rfl
theorem rm' : ∀ {l : List Int} {x : Int}, x ∈ l -> x <= nQ' l
  | [], _, h => by cases h
  | [y], x, h => by
    rw [List.mem_singleton.mp h]
    show y <= y
    omega
  | y :: z :: r, x, h => by
    show x <= max y (nQ' (z :: r))
    rcases List.mem_cons.mp h with rfl | h
    . omega
    . have := rm' h
      omega
theorem nP' : ∀ {l : List Int}, l ≠ [] -> nQ' l ∈ l
  | [], h => absurd rfl h
  | [y], _ => by show y ∈ [y]; simp
  | y :: z :: r, _ => by
    show max y (nQ' (z :: r)) ∈ _
    have := nP' (l := z :: r) (by simp)
    rcases Int.le_total y (nQ' (z :: r)) with h | h
    . rw [Int.max_eq_right h]; exact List.mem_cons_of_mem _ this
    . rw [Int.max_eq_left h]; simp
theorem th' {S : List Nat} {c : Nat -> Nat} {k : Nat} (h : am' (S.map c) = List.range k) (hS : S ≠ []) : nQ' (S.map fun s => ((c s : Nat) : Int)) = (k : Int) - 1 := by
  have mem : ∀ q, q ∈ S.map c ↔ q < k := fun q => by rw [<- aF', h, List.mem_range]
  obtain ⟨s, hs⟩ := List.exists_mem_of_ne_nil S hS
  have k1 : c s < k := (mem _).mp (List.mem_map.mpr ⟨s, hs, rfl⟩)
  have h1 : ((k : Int) - 1) ∈ S.map fun s => ((c s : Nat) : Int) := by
    obtain ⟨t, ht, e⟩ := List.mem_map.mp ((mem (k - 1)).mpr (by omega))
    exact List.mem_map.mpr ⟨t, ht, by omega⟩
  have h2 := rm' h1
  have h3 := nP' (l := S.map fun s => ((c s : Nat) : Int)) (by simpa using hS)
  obtain ⟨t, ht, e⟩ := List.mem_map.mp h3
  have := (mem (c t)).mp (List.mem_map.mpr ⟨t, ht, rfl⟩)
  have e : ((c t : Nat) : Int) = nQ' (S.map fun s => ((c s : Nat) : Int)) := e
  omega
theorem oZ' {w : W} {m : Nat} {L : Tx} {T : List (List Nat)} {A S : List Nat} (ht : hd' ["Machine", "RawMachine"] "kept_table" w (.obj m) = some (cy' T)) (ha : hd' ["Machine", "RawMachine"] "kept_accepts" w (.obj m) = some (dg' A))
    (hT : bi' T T.length L.length) (hL : L.Nodup) (hLl : L.length <= 1000) (hn2 : T.length <= 1000) (hS : ∀ s ∈ S, s < T.length) (hcl : ∀ s ∈ S, ∀ t ∈ ap' T s, t ∈ S) (hnd : S.Nodup) (hne : S ≠ []) :
    wF (f_alike_states [.obj m, .lst (S.map fun s => .int (s : Nat))] w) (fun o w' => (∃ c k, Clz L T A S c k /\ (∀ s ∈ S, ∀ t ∈ S, c s = c t -> key T c s = key T c t) /\ o = .fz (dNz (S.map fun s => (s, .int (c s : Nat))))) /\ w' = w) FX := by
  have hlen : S.length <= T.length := oF' hnd hS
  unfold f_alike_states
  walk_at "f"
  refine zj' (fun s : Nat => s) (fun s => eB (decide (s ∈ A))) (by omega) (by simpa using hnd) ?_ ?_
  . intro s hs
    walk_at "s"
    rfl
  walk_at "l"
  walk_at "s"
  rw [oM' (fun s : Nat => s) (fun s => eB (decide (s ∈ A)))]
  refine (eX' Dr' S (fun s => decide (s ∈ A)) hnd (by omega) w).mono ?_
  rintro _ _ ⟨rfl, rfl⟩
  walk_at "s"
  rename_i w
  have n0 : S.map (fun s => ((s : Nat) : Int)) ≠ [] := by simpa using hne
  refine gH' (fun mm ρ => ∃ many c k y z z2 o, mm = T.length + 1 - many /\ Clz L T A S c k /\ (many = 0 \/ ∃ c1, Clz L T A S c1 many /\ c = jy' S (key T c1) /\ k = (am' (S.map (key T c1))).length) ∧
      (o = dN (S.map fun s => (s, .int (c s : Nat))) \/ o = .fz (dNz (S.map fun s => (s, .int (c s : Nat))))) /\ ρ = ⟨[some (.fz (.obj m)), some (.fz (.lst (S.map fun s => .int (s : Nat)))), some o, some (.fz (.int (many : Nat))), y, z, z2], w⟩)
    (T.length + 1) (by show T.length + 1 < 2 ^ 40; omega) ⟨0, _, _, _, _, _, _, rfl, Clz.first, .inl rfl, .inl rfl, rfl⟩ ?_
  rintro mm _ ⟨many, c, k, y, z, z2, o, rfl, hc, hm, ho, rfl⟩
  have hmx := th' hc.num hne
  have kle : k <= T.length := by
    have h1 := bL' c S
    rw [hc.num, List.length_range, ce' hnd] at h1
    omega
  have hmv : ∀ P : D -> Prop, wD (oA' (dNz (S.map fun s => (s, D.int (c s : Nat))))) P = P (.int ((k : Int) - 1)) := fun P => by
    have := zF' (P := P) (fun s : Nat => s) (fun s : Nat => ((c s : Nat) : Int)) S hne
    rw [hmx] at this
    exact this
  have hlk : ∀ s ∈ S, (S.map fun s => (s, D.int (c s : Nat))).lookup s = some (.int (c s : Nat)) := fun s hs => by rw [bv' (fun s => D.int (c s : Nat)), if_pos hs]
  clear ha
  rcases ho with rfl | rfl
  all_goals
    walk_at "s"
    refine bl' (fun h => ?_) (fun h => ?_)
    . have hpush : (k : Int) - 1 + 1 = ((k : Nat) : Int) := by omega
      walk_at "s"
      refine bG' (fun pre ρ => ∃ y z2, ρ = ⟨[some (.fz (.obj m)), some (.fz (.lst (S.map fun s => .int (s : Nat)))), some (.fz (dNz (S.map fun s => (s, .int (c s : Nat))))), some (.fz (.int (k : Nat))), some (dN (pre.map fun s => (s, eK (key T c s)))), y, z2], w⟩) ⟨_, _, rfl⟩ ?_ ?_
      . rintro pre s post _ e ⟨y, z2, rfl⟩
        have hs : s ∈ S := by rw [e]; simp
        have hl1 := hlk s hs
        have hrow := cJ' hT (hS s hs)
        have hfr : (pre.map fun s => (s, eK (key T c s))).lookup s = none := by
          refine cf' _ _ ?_
          rw [List.map_map]
          intro hm
          rw [e] at hnd
          obtain ⟨s', hs', e'⟩ := List.mem_map.mp hm
          have : s' = s := e'
          exact (List.nodup_append.mp hnd).2.2 s' hs' s (by simp) this
        have hl3 : (pre.map fun s => (s, eK (key T c s))).length < 16777216 := by
          have := congrArg List.length e
          rw [List.length_map]
          simp at this
          omega
        clear e
        walk_at "s"
        refine dG' (fun t : Nat => D.int (c t : Nat)) (by have := cd' hT (hS s hs); omega) ?_ ?_
        . intro t htr
          have hl2 := hlk t (hcl s hs t htr)
          walk_at "s"
        walk_at "l"
        walk_at "s"
        exact ⟨_, _, by rw [List.map_append, List.map_cons, List.map_nil]; simp only [eK, key, List.map_map]; rfl⟩
      . rintro _ ⟨y, z2, rfl⟩
        walk_at "s"
        refine (eX' yT' S (key T c) hnd (by omega) w).mono ?_
        rintro _ _ ⟨rfl, rfl⟩
        walk_at "s"
        exact ⟨T.length + 1 - k, by omega, k, jy' S (key T c), _, _, _, _, _, rfl, hc.next hT hL hS hcl, .inr ⟨c, hc, rfl, rfl⟩, .inl rfl, rfl⟩
    . have hk0 : 0 < k := by
        obtain ⟨s, hs⟩ := List.exists_mem_of_ne_nil S hne
        have := hc.lt hs
        omega
      rcases hm with hm | ⟨c1, h1, e1, e2⟩
      . omega
      . have hst := h1.stable (by omega)
        have hsm := h1.same (by omega)
        walk_at "s"
        refine ⟨c1, many, h1, hst, ?_⟩
        congr 2
        refine List.map_congr_left fun s hs => ?_
        rw [hsm s hs]
theorem kb' {w : W} {m : Nat} {T : List (List Nat)} {n : Nat} (ht : hd' ["Machine", "RawMachine"] "kept_table" w (.obj m) = some (cy' T)) (hT : bi' T T.length n) (hn : 1 <= T.length) (hn2 : T.length <= 1000) : wF (f_reached [.obj m] w) (fun o w' => o = .lst ((reach T).map fun s => .fz (.int (s : Nat))) /\ w' = w) FX := by
  unfold f_reached
  walk_at "f"
  refine gH' (fun mm ρ => ∃ j, mm = T.length + 1 - j /\ j <= (bfs T j).length /\ ∃ y, ρ = ⟨[some (.fz (.obj m)), some (.lst ((bfs T j).map fun s => .fz (.int (s : Nat)))), some (dN ((bfs T j).map fun s => (s, .bl true))), some (.fz (.int (j : Nat))), y], w⟩) (T.length + 1) (by show T.length + 1 < 2 ^ 40; omega) ⟨0, by simp, by simp, _, rfl⟩ ?_
  rintro mm _ ⟨j, rfl, hj, y, rfl⟩
  walk_at "s"
  refine bl' (fun h => ?_) (fun h => ?_)
  . have hj2 : j < (bfs T j).length := by omega
    have hs : (bfs T j)[j]? = some (bfs T j)[j] := List.getElem?_eq_getElem hj2
    generalize (bfs T j)[j] = s at hs
    have hsl : s < T.length := hz' hT hn (List.mem_of_getElem? hs)
    have hrow := cJ' hT hsl
    have hlen := b0' hT hn j
    walk_at "s"
    refine bG' (fun pre ρ => ∃ y, ρ = ⟨[some (.fz (.obj m)), some (.lst ((cD' (bfs T j) pre).map fun s => .fz (.int (s : Nat)))), some (dN ((cD' (bfs T j) pre).map fun s => (s, .bl true))), some (.fz (.int (j : Nat))), y], w⟩) ⟨_, rfl⟩ ?_ ?_
    . rintro pre t post _ e ⟨y, rfl⟩
      have hl2 : (cD' (bfs T j) pre).length <= T.length := oF' (fE' (iz' j)) fun x hx => (b7'.mp hx).elim (fun q => hz' hT hn q) fun q => if' hT (s := s) (by rw [e]; simp [q])
      have hlk := bv' (fun _ => D.bl true) t (cD' (bfs T j) pre)
      have hlL : ((cD' (bfs T j) pre).map fun s => (s, D.bl true)).length < 16777216 := by rw [List.length_map]; omega
      rw [g9']
      clear e hs hrow
      by_cases hm : t ∈ cD' (bfs T j) pre
      . rw [if_pos hm] at hlk
        rw [co' hm]
        walk_at "s"
        exact ⟨_, rfl⟩
      . rw [if_neg hm] at hlk
        rw [bX' hm]
        walk_at "s"
        exact ⟨some (.fz (.int (t : Nat))), by simp⟩
    . rintro _ ⟨y, rfl⟩
      walk_at "s"
      rw [<- eb' hs]
      refine ⟨T.length + 1 - (j + 1), by omega, j + 1, rfl, ?_, _, rfl⟩
      have := (ju' (T := T) (j := j)).length_le
      omega
  . have e : bfs T j = reach T := dS' hT hn (by omega)
    rw [e]
    walk_at "s"
def mkM (C : String) (L : Tx) (T : List (List Nat)) (A : List Nat) (l : D) (rest : List (String × O)) : Ob :=
  .ins C (("kept_letters", .fz (.str L)) :: ("kept_table", .fz (cy' T)) :: ("kept_accepts", .fz (dg' A)) :: ("kept_least", .fz l) :: rest)
abbrev cS' : List (String × O) := [("kept_field", .fz .non), ("kept_lots", .dct [] []), ("kept_more", .dct [] [])]
structure McAt (w : W) (m : Nat) (L : Tx) (T : List (List Nat)) (A : List Nat) (l : D) : Prop where
  fl : hd' ["Machine", "RawMachine"] "kept_letters" w (.obj m) = some (.str L)
  ft : hd' ["Machine", "RawMachine"] "kept_table" w (.obj m) = some (cy' T)
  fa : hd' ["Machine", "RawMachine"] "kept_accepts" w (.obj m) = some (dg' A)
  fk : hd' ["Machine", "RawMachine"] "kept_least" w (.obj m) = some l
theorem McAt.of {w : W} {m : Nat} {C : String} {L T A l rest} (h : w[m]? = some (mkM C L T A l rest)) (hC : C = "Machine" \/ C = "RawMachine") : McAt w m L T A l := by
  refine ⟨?_, ?_, ?_, ?_⟩
  all_goals rcases hC with rfl | rfl
  all_goals simp [hd', h, mkM, List.lookup]
theorem nV' {w : W} {m : Nat} {C : String} {L : Tx} {T : List (List Nat)} {A : List Nat} (h : w[m]? = some (.ins C [])) (hC : C = "Machine" \/ C = "RawMachine") : wF (f_Machine_keep [.obj m, .str L, cy' T, dg' A] w) (fun o w' => o = .fz .non /\ w' = w.set m (mkM C L T A .non cS')) FX := by
  have hm := bu' h
  have hC1 : C ∈ ["Machine", "RawMachine"] := by rcases hC with rfl | rfl <;> simp
  unfold f_Machine_keep
  walk_at "f"
  rfl
theorem ny' {w : W} {m : Nat} {L : Tx} {T : List (List Nat)} {A : List Nat} (h : w[m]? = some (.ins "RawMachine" [])) : wF (f_RawMachine___init__ [.obj m, .str L, cy' T, dg' A] w) (fun o w' => o = .fz .non /\ w' = w.set m (mkM "RawMachine" L T A .non cS')) FX := by
  unfold f_RawMachine___init__
  walk_at "f"
  refine ⟨by simp [jg', h], ?_⟩
  refine (nV' h (.inr rfl)).mono ?_
  rintro _ _ ⟨rfl, rfl⟩
  walk_at "s"
theorem x4' {cs : List String} {f : String} {o : O} {w : W} {n : Nat} {C : String} {fs : List (String × O)} (h : w[n]? = some (.ins C fs)) (hc : C ∈ cs) (hl : fs.length < 1000) : stF cs f o w (.obj n) = some (w.set n (.ins C (q4' f o fs))) := by
  simp only [stF, h]
  exact if_pos ⟨hc, hl⟩
theorem j5' {cs : List String} {w : W} {n : Nat} {C : String} {L T A} {l d : D} {rest : List (String × O)} (h : w[n]? = some (mkM C L T A l rest)) (hc : C ∈ cs) (hl : rest.length <= 100) : stF cs "kept_least" (.fz d) w (.obj n) = some (w.set n (mkM C L T A d rest)) := by
  rw [x4' h hc (by simp; omega)]
  rfl
theorem lr' (k : Nat) : ls' ((List.range k).map fun q => ((q : Nat) : Int)) = (List.range k).map fun q => ((q : Nat) : Int) := by
  unfold ls'
  refine List.mergeSort_of_pairwise ?_
  rw [List.pairwise_map]
  refine List.Pairwise.imp (fun {a b} h => ?_) List.pairwise_lt_range
  simp
  omega
theorem oH' {w : W} {m : Nat} {C : String} {L : Tx} {T : List (List Nat)} {A : List Nat} {rest : List (String × O)} (h : w[m]? = some (mkM C L T A .non rest)) (hC : C = "Machine" \/ C = "RawMachine") (hr : rest.length <= 100)
    (hT : bi' T T.length L.length) (hL : L.Nodup) (hLl : L.length <= 1000) (hn : 1 <= T.length) (hn2 : T.length <= 1000) :
    wF (f_least [.obj m] w) (fun o w' => ∃ c T' A', IsLeast L T A c T' A' /\ o = .fz (.obj w.length) /\ w' = w.set m (mkM C L T A (.obj w.length) rest) ++ [mkM "RawMachine" L T' A' (.obj w.length) cS']) FX := by
  have hM := McAt.of h hC
  have h1 := hM.fl
  have h2 := hM.ft
  have h3 := hM.fa
  have h4 := hM.fk
  unfold f_least
  walk_at "f"
  refine (kb' h2 hT hn (by omega)).mono ?_
  rintro _ _ ⟨rfl, rfl⟩
  walk_at "s"
  have hS : ∀ s ∈ reach T, s < T.length := fun s hs => gz' hT hn hs
  have hcl : ∀ s ∈ reach T, ∀ t ∈ ap' T s, t ∈ reach T := fun s hs t ht => cK' hT hn hs ht
  have efr : frzs ((reach T).map fun s => O.fz (D.int (s : Nat))) = (reach T).map fun s => D.int (s : Nat) := by
    rw [eu', List.map_map]; rfl
  rw [efr]
  refine (oZ' h2 h3 hT hL hLl (by omega) hS hcl eP' (fun e => by have := dT' (T := T); rw [e] at this; cases this)).mono ?_
  rintro _ _ ⟨⟨c, k, hc, hst, rfl⟩, rfl⟩
  rename_i w
  have hlk : ∀ s ∈ reach T, ((reach T).map fun s => (s, D.int (c s : Nat))).lookup s = some (.int (c s : Nat)) := fun s hs => by rw [bv' (fun s => D.int (c s : Nat)), if_pos hs]
  have kle : k <= T.length := by
    have h1 := bL' c (reach T)
    rw [hc.num, List.length_range, ce' eP'] at h1
    exact Nat.le_trans h1 (b0' hT hn _)
  walk_at "s"
  refine bG' (fun pre ρ => ∃ y, ρ = ⟨[some (.fz (.obj m)), some (.fz (.lst ((reach T).map fun s => .int (s : Nat)))), some (.fz (dNz ((reach T).map fun s => (s, .int (c s : Nat))))), some (dN ((am' (pre.map c)).map fun q => (q, .int (bD' pre c q : Nat)))), y, none, none, none, none], w⟩) ⟨_, rfl⟩ ?_ ?_
  . rintro pre s post _ e ⟨y, rfl⟩
    have hs : s ∈ reach T := by rw [e]; simp
    have hl1 := hlk s hs
    have hlen : ((am' (pre.map c)).map fun q => (q, D.int (bD' pre c q : Nat))).length < 16777216 := by
      have h1 := bL' c pre
      have h5 := congrArg List.length e
      have h6 := b0' hT hn T.length
      have h7 := List.Nodup.length_le_of_subset (g5' (xs := pre)) (l₂ := pre) (fun a ha => aF'.mp ha)
      simp only [List.length_append, List.length_cons] at h5
      unfold reach at h5
      rw [List.length_map]
      omega
    have hlf := bv' (fun q => D.int (bD' pre c q : Nat)) (c s) (am' (pre.map c))
    clear e
    rw [List.map_append, List.map_cons, List.map_nil, bB']
    have hold : (am' (pre.map c)).map (fun q => (q, D.int (bD' (pre ++ [s]) c q : Nat))) = (am' (pre.map c)).map fun q => (q, D.int (bD' pre c q : Nat)) := List.map_congr_left fun q hq => by rw [kE' (aF'.mp hq)]
    walk_at "s"
    rw [wT' hlen, hlf]
    by_cases hm : c s ∈ am' (pre.map c)
    . rw [if_pos hm, co' hm]
      refine ⟨some (.fz (.int (s : Nat))), ?_⟩
      rw [hold]
    . rw [if_neg hm, bX' hm]
      refine ⟨some (.fz (.int (s : Nat))), ?_⟩
      rw [List.map_append, hold, List.map_cons, List.map_nil, kF' fun q => hm (aF'.mpr q)]
  rintro _ ⟨y, rfl⟩
  rw [hc.num]
  have hlf : ∀ q < k, ((List.range k).map fun q => (q, D.int (bD' (reach T) c q : Nat))).lookup q = some (.int (bD' (reach T) c q : Nat)) := fun q hq => by rw [bv' (fun q => D.int (bD' (reach T) c q : Nat)), if_pos (List.mem_range.mpr hq)]
  have hsk : ∀ P : D -> Prop, wD (dW' (dNz ((List.range k).map fun q => (q, D.int (bD' (reach T) c q : Nat))))) P = P (.lst ((List.range k).map fun q => .int (q : Nat))) := fun P => by
    rw [wS' _ (by simp; omega), List.map_map]
    have := lr' k
    rw [show ((fun p : Nat × D => (p.1 : Int)) ∘ fun q => (q, D.int (bD' (reach T) c q : Nat))) = fun q => ((q : Nat) : Int) from rfl, this, List.map_map]
    rfl
  have hfst : ∀ q < k, bD' (reach T) c q ∈ reach T := by
    intro q hq
    have : q ∈ am' ((reach T).map c) := by rw [hc.num]; exact List.mem_range.mpr hq
    obtain ⟨s, hs, e⟩ := List.mem_map.mp (aF'.mp this)
    unfold bD'
    cases f : (reach T).find? fun s => decide (c s = q) with
    | none =>
      have := List.find?_eq_none.mp f s hs
      simp [e] at this
    | some t => exact List.mem_of_find?_eq_some f
  walk_at "s"
  refine bG' (fun pre ρ => ∃ z z2, ρ = ⟨[some (.fz (.obj m)), some (.fz (.lst ((reach T).map fun s => .int (s : Nat)))), some (.fz (dNz ((reach T).map fun s => (s, .int (c s : Nat))))), some (.fz (dNz ((List.range k).map fun q => (q, .int (bD' (reach T) c q : Nat))))), y, some (.lst (pre.map fun q => .fz (cF' ((ap' T (bD' (reach T) c q)).map c)))), z, none, z2], w⟩) ⟨_, _, rfl⟩ ?_ ?_
  . rintro pre q post _ e ⟨z, z2, rfl⟩
    have hq : q < k := List.mem_range.mp (by rw [e]; simp)
    have hl1 := hlf q hq
    have hf := hfst q hq
    have hrow := cJ' hT (hS _ hf)
    have hlen : pre.length < 16777216 := by
      have h5 := congrArg List.length e
      simp only [List.length_append, List.length_cons, List.length_range] at h5
      omega
    clear e
    walk_at "s"
    refine dG' (fun t : Nat => D.int (c t : Nat)) (by have := cd' hT (hS _ hf); omega) ?_ ?_
    . intro t htr
      have hl2 := hlk t (hcl _ hf t htr)
      walk_at "s"
    walk_at "l"
    walk_at "s"
    exact ⟨_, _, by rw [List.map_append, List.map_cons, List.map_nil]; simp only [cF', List.map_map]; rfl⟩
  rintro _ ⟨z, z2, rfl⟩
  walk_at "s"
  refine kx' (fun q => decide (bD' (reach T) c q ∈ A)) (fun q : Nat => D.int (q : Nat)) (by simp; omega) ?_ ?_
  . intro q hq
    have hl1 := hlf q (List.mem_range.mp hq)
    walk_at "s"
    exact fun _ => trivial
  walk_at "l"
  walk_at "s"
  have et : D.tup (frzs ((List.range k).map fun q => O.fz (cF' ((ap' T (bD' (reach T) c q)).map c)))) = cy' (b4' T (reach T) c k) := by
    unfold cy' b4'
    rw [eu', List.map_map, List.map_map]; rfl
  have ea : D.tup (((List.range k).filter fun q => decide (bD' (reach T) c q ∈ A)).map fun q => D.int (q : Nat)) = dg' (f9' A (reach T) c k) := rfl
  rw [et, ea]
  have hI := nR' hT hL hn hc hst
  generalize b4' T (reach T) c k = T' at *
  generalize f9' A (reach T) c k = A' at *
  refine (ny' (by rw [List.getElem?_append_right (by omega), Nat.sub_self]; rfl)).mono ?_
  rintro _ _ ⟨rfl, rfl⟩
  rw [List.set_append_right _ _ (by omega), Nat.sub_self]
  have hm := bu' h
  have hC1 : C ∈ ["Machine", "RawMachine"] := by rcases hC with rfl | rfl <;> simp
  have g1 : (w ++ [mkM "RawMachine" L T' A' .non cS'])[m]? = some (mkM C L T A .non rest) := by rw [List.getElem?_append_left hm]; exact h
  obtain ⟨W1, e1⟩ : ∃ W1, W1 = (w ++ [mkM "RawMachine" L T' A' .non cS']).set m (mkM C L T A (.obj w.length) rest) := ⟨_, rfl⟩
  have s1 : stF ["Machine", "RawMachine"] "kept_least" (.fz (.obj w.length)) (w ++ [mkM "RawMachine" L T' A' .non cS']) (.obj m) = some W1 := by
    rw [j5' g1 hC1 hr, e1]
  have g2 : W1[m]? = some (mkM C L T A (.obj w.length) rest) := by
    rw [e1, List.getElem?_set_self (by simp; omega)]
  have f1 := (McAt.of g2 hC).fk
  have g3 : W1[w.length]? = some (mkM "RawMachine" L T' A' .non cS') := by
    rw [e1, List.getElem?_set_ne (by omega), List.getElem?_append_right (by omega), Nat.sub_self]
    rfl
  obtain ⟨W2, e2⟩ : ∃ W2, W2 = w.set m (mkM C L T A (.obj w.length) rest) ++ [mkM "RawMachine" L T' A' (.obj w.length) cS'] := ⟨_, rfl⟩
  have s2 : stF ["Machine", "RawMachine"] "kept_least" (.fz (.obj w.length)) W1 (.obj w.length) = some W2 := by
    rw [j5' g3 (by simp) (by simp), e1, e2]
    rw [List.set_append_left _ _ hm, List.set_append_right _ _ (by simp)]
    simp only [List.length_set, Nat.sub_self]
    rfl
  have g4 : W2[m]? = some (mkM C L T A (.obj w.length) rest) := by
    rw [e2, List.getElem?_append_left (by simpa using hm), List.getElem?_set_self hm]
  have f2 := (McAt.of g4 hC).fk
  clear g1 g2 g3 g4 e1 h1 h2 h3 h4 hlk hlf hsk
  walk_at "s"
  rw [<- e2, f2, a8']
  exact ⟨c, T', A', hI, rfl, e2⟩
theorem oI' {w : W} {m n : Nat} {C : String} {L : Tx} {T : List (List Nat)} {A : List Nat} {rest : List (String × O)} (h : w[m]? = some (mkM C L T A (.obj n) rest)) (hC : C = "Machine" \/ C = "RawMachine") :
    wF (f_least [.obj m] w) (fun o w' => o = .fz (.obj n) /\ w' = w) FX := by
  have h4 := (McAt.of h hC).fk
  unfold f_least
  walk_at "f"
theorem gp' {X Y : D} {L : Tx} {T : List (List Nat)} {A S : List Nat} (hX : eB' X T) (hY : eE' Y A) (hT : bi' T T.length L.length) (hL : L.Nodup) (hLl : L.length <= 1000) (hn2 : T.length <= 1000) (hS : ∀ s ∈ S, s < T.length) (hcl : ∀ s ∈ S, ∀ t ∈ ap' T s, t ∈ S) (hnd : S.Nodup) (hne : S ≠ []) (w : W) :
    wF (f__law_classes [X, Y, .lst (S.map fun s => .int (s : Nat))] w) (fun o w' => (∃ c k, Clz L T A S c k /\ (∀ s ∈ S, ∀ t ∈ S, c s = c t -> key T c s = key T c t) /\ o = .fz (dNz (S.map fun s => (s, .int (c s : Nat))))) /\ w' = w) FX := by
  have hlen : S.length <= T.length := oF' hnd hS
  have hl0 : 0 < S.length := List.length_pos_iff.mpr hne
  unfold f__law_classes
  walk_at "f"
  refine bG' (fun pre ρ => ∃ y, ρ = ⟨[some (.fz X), some (.fz Y), some (.fz (.lst (S.map fun s => .int (s : Nat)))), some (dN (pre.map fun s => (s, .int ((if s ∈ A then 1 else 0 : Nat) : Nat)))), y, none, none, none, none, none, none], w⟩) ⟨_, rfl⟩ ?_ ?_
  . rintro pre s post _ e ⟨y, rfl⟩
    have hfr : (pre.map fun s => (s, D.int ((if s ∈ A then 1 else 0 : Nat) : Nat))).lookup s = none := by
      refine cf' _ _ ?_
      rw [List.map_map]
      intro hm
      rw [e] at hnd
      obtain ⟨s', hs', e'⟩ := List.mem_map.mp hm
      have : s' = s := e'
      exact (List.nodup_append.mp hnd).2.2 s' hs' s (by simp) this
    have hl3 : (pre.map fun s => (s, D.int ((if s ∈ A then 1 else 0 : Nat) : Nat))).length < 16777216 := by
      have := congrArg List.length e
      rw [List.length_map]
      simp at this
      omega
    have hy := hY s
    have ei : (if decide (s ∈ A) = true then (1 : Int) else 0) = ((if s ∈ A then 1 else 0 : Nat) : Nat) := by by_cases h : s ∈ A <;> simp [h]
    clear e hY
    walk_at "s"
    exact ⟨_, by rw [List.map_append, List.map_cons, List.map_nil]⟩
  rintro _ ⟨y, rfl⟩
  walk_at "s"
  have hc0 : Cw L T A S (fun s => if s ∈ A then 1 else 0) := by
    refine ⟨fun s _ t _ e => ?_, fun s _ t _ e => ?_⟩
    . have e : (if s ∈ A then 1 else 0) = (if t ∈ A then 1 else 0) := e
      by_cases h1 : s ∈ A <;> by_cases h2 : t ∈ A <;> simp_all
    . have := e [] (fun _ h => nomatch h)
      have : s ∈ A ↔ t ∈ A := by simpa [qK'] using this
      simp only [this]
  -- what is known when t turns are done
  refine ev' (fun t ρ => ∃ (c : Nat -> Nat) (many : Nat) (o3 y yt y7 y8 y9 y10 : Option O) (o : O), o3 = some o /\ Cw L T A S c /\ (∀ s ∈ S, sd' (cu' o (.int (s : Nat))) = some (.int (c s : Nat))) /\ (t = 0 \/ o = .fz (dNz (S.map fun s => (s, .int (c s : Nat))))) /\ (t = 0 -> many = 0) /\ (0 < t -> Clz L T A S c many /\ t <= many) ∧
      ρ = ⟨[some (.fz X), some (.fz Y), some (.fz (.lst (S.map fun s => .int (s : Nat)))), o3, y, some (.fz (.int (many : Nat))), yt, y7, y8, y9, y10], w⟩)
    ⟨_, 0, _, _, _, _, _, _, _, _, rfl, hc0, ?_, .inl rfl, fun _ => rfl, fun h => absurd h (by omega), rfl⟩ ?_ ?_
  . intro s hs
    rw [lK', bv' (fun s => D.int ((if s ∈ A then 1 else 0 : Nat) : Nat)), if_pos hs]
    rfl
  . rintro t _ ht ⟨c, many, _, y, yt, y7, y8, y9, y10, o, rfl, hc, hl, ho, hm0, hm1, rfl⟩
    walk_at "s"
    refine bG' (fun pre ρ => ∃ y z9 z10, ρ = ⟨[some (.fz X), some (.fz Y), some (.fz (.lst (S.map fun s => .int (s : Nat)))), some o, y, some (.fz (.int (many : Nat))), some (.fz (.int (t : Nat))), some (dX eK ((am' (pre.map (key T c))).map fun a => (a, .int (ixo (am' (pre.map (key T c))) a : Nat)))), some (dN (pre.map fun s => (s, .int (ixo (am' (S.map (key T c))) (key T c s) : Nat)))), z9, z10], w⟩) ⟨_, _, _, rfl⟩ ?_ ?_
    . rintro pre s post _ es ⟨y, z9, z10, rfl⟩
      rw [List.map_append, List.map_cons, List.map_nil, bB']
      have keep : (am' (pre.map (key T c) ++ [key T c s])) <+: am' (S.map (key T c)) := by
        have e2 : am' (S.map (key T c)) = cD' (am' (pre.map (key T c) ++ [key T c s])) (post.map (key T c)) := by
          rw [es, List.map_append, List.map_cons, show pre.map (key T c) ++ key T c s :: post.map (key T c) = (pre.map (key T c) ++ [key T c s]) ++ post.map (key T c) by simp]
          exact df'
        rw [e2]
        exact dV'
      rw [bB'] at keep
      have hs : s ∈ S := by rw [es]; simp
      have hndp : (am' (pre.map (key T c))).Nodup := g5'
      have hlk := oG' (am' (pre.map (key T c))) (key T c s)
      have hlenp : pre.length < 1000 := by
        have := congrArg List.length es
        simp at this
        omega
      have hlen2 : (am' (pre.map (key T c))).length <= pre.length := by
        have h2 := List.Nodup.length_le_of_subset hndp (l₂ := pre.map (key T c)) (fun a ha => aF'.mp ha)
        simpa using h2
      have hfr : ((pre.map fun s => (s, D.int (ixo (am' (S.map (key T c))) (key T c s) : Nat))).lookup s) = none := by
        refine cf' _ _ ?_
        rw [List.map_map]
        intro hm
        rw [es] at hnd
        obtain ⟨s', hs', e'⟩ := List.mem_map.mp hm
        have : s' = s := e'
        exact (List.nodup_append.mp hnd).2.2 s' hs' s (by simp) this
      have hl3 : (pre.map fun s => (s, D.int (ixo (am' (S.map (key T c))) (key T c s) : Nat))).length < 16777216 := by rw [List.length_map]; omega
      have hl1 := hl s hs
      obtain ⟨R, hR1, hR2⟩ := hX s _ (cJ' hT (hS s hs))
      have hrl := cd' hT (hS s hs)
      have ek : D.tup [.int (c s : Nat), .tup ((ap' T s).map fun t => .int (c t : Nat))] = eK (key T c s) := by
        simp only [eK, key, List.map_map]; rfl
      have hcl' := hcl s hs
      clear es hX hY
      walk_at "s"
      refine dG' (fun t : Nat => D.int (c t : Nat)) (by omega) ?_ ?_
      . intro t' htr
        have hl2 := hl t' (hcl' t' htr)
        walk_at "s"
      walk_at "l"
      walk_at "s"
      by_cases hm : key T c s ∈ am' (pre.map (key T c))
      . rw [if_pos hm] at hlk
        rw [co' hm] at keep ⊢
        have hx := fF' yT' ((am' (pre.map (key T c))).map fun a => (a, D.int (ixo (am' (pre.map (key T c))) a : Nat))) (key T c s)
        rw [hlk] at hx
        have hid : ixo (am' (S.map (key T c))) (key T c s) = ixo (am' (pre.map (key T c))) (key T c s) := lM' keep hm
        clear keep
        walk_at "s"
        exact ⟨_, _, _, by rw [List.map_append, List.map_cons, List.map_nil, hid]⟩
      . rw [if_neg hm] at hlk
        rw [bX' hm] at keep ⊢
        have hx := fF' yT' ((am' (pre.map (key T c))).map fun a => (a, D.int (ixo (am' (pre.map (key T c))) a : Nat))) (key T c s)
        rw [hlk] at hx
        have hp := fun d => q0' yT' (l := (am' (pre.map (key T c))).map fun a => (a, D.int (ixo (am' (pre.map (key T c))) a : Nat))) (k := key T c s) hlk (by rw [List.length_map]; omega) d
        have hx2 : ∀ d : D, cu' (dX eK (((am' (pre.map (key T c))).map fun a => (a, D.int (ixo (am' (pre.map (key T c))) a : Nat))) ++ [(key T c s, d)])) (eK (key T c s)) = some (some (.fz d)) := fun d => by
          have := fF' yT' (((am' (pre.map (key T c))).map fun a => (a, D.int (ixo (am' (pre.map (key T c))) a : Nat))) ++ [(key T c s, d)]) (key T c s)
          rw [lJ' hlk d] at this
          exact this
        have hid : ixo (am' (S.map (key T c))) (key T c s) = (am' (pre.map (key T c))).length := by
          rw [lM' keep (by simp), rK' hm]
        have hnew : (am' (pre.map (key T c)) ++ [key T c s]).map (fun a => (a, D.int (ixo (am' (pre.map (key T c)) ++ [key T c s]) a : Nat))) = ((am' (pre.map (key T c))).map fun a => (a, D.int (ixo (am' (pre.map (key T c))) a : Nat))) ++ [(key T c s, D.int ((am' (pre.map (key T c))).length : Nat))] := by
          rw [List.map_append]
          congr 1
          . refine List.map_congr_left fun a ha => ?_
            rw [lM' (List.prefix_append ..) ha]
          . rw [List.map_cons, List.map_nil, rK' hm]
        rw [hnew]
        clear keep hnew
        walk_at "s"
        exact ⟨_, _, _, by rw [List.map_append, List.map_cons, List.map_nil, hid]⟩
    . rintro _ ⟨y, z9, z10, rfl⟩
      have hnx := hc.next hT hL hS hcl
      walk_at "s"
      have hcnt : 1 <= (am' (S.map (key T c))).length := by
        obtain ⟨s, hs⟩ := List.exists_mem_of_ne_nil S hne
        have := hnx.lt hs
        omega
      refine bl' (fun h => ?_) (fun h => ?_)
      . have h : (am' (S.map (key T c))).length = many := by omega
        have ht0 : 0 < t := by
          rcases Nat.eq_zero_or_pos t with h0 | h0
          . have := hm0 h0; omega
          . exact h0
        obtain ⟨hz, _⟩ := hm1 ht0
        have hst := hz.stable (by omega)
        have hsm := hz.same (by omega)
        walk_at "s"
        refine ⟨c, many, hz, hst, ?_⟩
        congr 2
        refine List.map_congr_left fun s hs => ?_
        rw [<- tc', hsm s hs]
      . have h : (am' (S.map (key T c))).length ≠ many := by omega
        walk_at "s"
        refine ⟨jy' S (key T c), (am' (S.map (key T c))).length, _, _, _, _, _, _, _, _, rfl, hnx.cw, ?_, .inr rfl, fun h => absurd h (by omega), fun _ => ⟨hnx, ?_⟩, rfl⟩
        . intro s hs
          show sd' (cu' (.fz (dNz (S.map fun s => (s, .int (jy' S (key T c) s : Nat))))) (.int (s : Nat))) = _
          rw [jd', bv' (fun s => D.int (jy' S (key T c) s : Nat)), if_pos hs]
          rfl
        . rcases Nat.eq_zero_or_pos t with h0 | h0
          . omega
          . obtain ⟨hz, hle⟩ := hm1 h0
            have := hz.le
            omega
  . rintro _ ⟨c, many, _, y, yt, y7, y8, y9, y10, o, rfl, hc, hl, ho, hm0, hm1, rfl⟩
    have ho := ho.resolve_left (by omega)
    subst ho
    obtain ⟨hz, hle⟩ := hm1 hl0
    have hcount : (am' (S.map c)).length = (am' S).length := by
      have h1 := bL' c S
      have h2 : (am' (S.map c)).length = many := by rw [hz.num, List.length_range]
      have h3 : (am' S).length = S.length := by rw [ce' hnd]
      omega
    have hinj := g4' c S hcount
    walk_at "s"
    exact ⟨c, many, hz, fun s hs t ht e => by rw [hinj s hs t ht e], rfl⟩
theorem hP' {X Y : D} {L : Tx} {T : List (List Nat)} {A : List Nat} (hX : eB' X T) (hY : eE' Y A) (hT : bi' T T.length L.length) (hL : L.Nodup) (hLl : L.length <= 1000) (hn : 1 <= T.length) (hn2 : T.length <= 1000) (w : W) :
    wF (f__law_least [X, Y] w) (fun o w' => (∃ c T' A', IsLeast L T A c T' A' /\ o = .fz (.tup [cy' T', dg' A'])) /\ w' = w) FX := by
  have hS : ∀ s ∈ reach T, s < T.length := fun s hs => gz' hT hn hs
  have hcl : ∀ s ∈ reach T, ∀ t ∈ ap' T s, t ∈ reach T := fun s hs t ht => cK' hT hn hs ht
  unfold f__law_least
  walk_at "f"
  refine gH' (fun mm ρ => ∃ j, mm = T.length + 1 - j /\ j <= (bfs T j).length /\ ∃ y, ρ = ⟨[some (.fz X), some (.fz Y), some (.lst ((bfs T j).map fun s => .fz (.int (s : Nat)))), some (.fz (.int (j : Nat))), y, none, none, none, none, none, none], w⟩ /\ Pl y) (T.length + 1) (by show T.length + 1 < 2 ^ 40; omega) ⟨0, by simp, by simp, _, rfl, .inl rfl⟩ ?_
  rintro mm _ ⟨j, rfl, hj, y, rfl, hy⟩
  walk_at "s"
  refine bl' (fun h => ?_) (fun h => ?_)
  . have hj2 : j < (bfs T j).length := by omega
    have hs : (bfs T j)[j]? = some (bfs T j)[j] := List.getElem?_eq_getElem hj2
    generalize (bfs T j)[j] = s at hs
    have hsl : s < T.length := hz' hT hn (List.mem_of_getElem? hs)
    obtain ⟨R, hR1, hR2⟩ := hX s _ (cJ' hT hsl)
    have hlen := b0' hT hn j
    clear hX hY
    walk_at "s"
    refine bG' (fun pre ρ => ∃ y, ρ = ⟨[some (.fz X), some (.fz Y), some (.lst ((cD' (bfs T j) pre).map fun s => .fz (.int (s : Nat)))), some (.fz (.int (j : Nat))), y, none, none, none, none, none, none], w⟩ /\ Pl y) ⟨_, rfl, hy⟩ ?_ ?_
    . rintro pre t post _ e ⟨y, rfl, hy⟩
      have hl2 : (cD' (bfs T j) pre).length <= T.length := oF' (fE' (iz' j)) fun x hx => (b7'.mp hx).elim (fun q => hz' hT hn q) fun q => if' hT (s := s) (by rw [e]; simp [q])
      rw [g9']
      clear e hs hR1 hR2
      by_cases hm : t ∈ cD' (bfs T j) pre
      . rw [co' hm]
        walk_at "s"
        exact ⟨_, rfl, .inr ⟨_, rfl⟩⟩
      . rw [bX' hm]
        have hl4 : (cD' (bfs T j) pre).length < 16777216 := by omega
        walk_at "s"
        exact ⟨some (.fz (.int (t : Nat))), by rw [List.map_append, List.map_cons, List.map_nil], .inr ⟨_, rfl⟩⟩
    . rintro _ ⟨y, rfl, hy⟩
      walk_at "s"
      rw [<- eb' hs]
      refine ⟨T.length + 1 - (j + 1), by omega, j + 1, rfl, ?_, _, rfl, hy⟩
      have := (ju' (T := T) (j := j)).length_le
      omega
  . have e : bfs T j = reach T := dS' hT hn (by omega)
    rw [e]
    walk_at "s"
    have efr : frzs ((reach T).map fun s => O.fz (D.int (s : Nat))) = (reach T).map fun s => D.int (s : Nat) := by
      rw [eu', List.map_map]; rfl
    rw [efr]
    refine (gp' hX hY hT hL hLl hn2 hS hcl eP' (fun e => by have := dT' (T := T); rw [e] at this; cases this) w).mono ?_
    rintro _ _ ⟨⟨c, k, hc, hst, rfl⟩, rfl⟩
    rename_i w
    have hlk : ∀ s ∈ reach T, ((reach T).map fun s => (s, D.int (c s : Nat))).lookup s = some (.int (c s : Nat)) := fun s hs => by rw [bv' (fun s => D.int (c s : Nat)), if_pos hs]
    have kle : k <= T.length := by
      have h1 := bL' c (reach T)
      rw [hc.num, List.length_range, ce' eP'] at h1
      exact Nat.le_trans h1 (b0' hT hn _)
    have hSl : (reach T).length <= T.length := b0' hT hn _
    walk_at "s"
    refine bG' (fun pre ρ => ∃ y z z8, ρ = ⟨[some (.fz X), some (.fz Y), some (.fz (.lst ((reach T).map fun s => .int (s : Nat)))), z, y, some (.fz (dNz ((reach T).map fun s => (s, .int (c s : Nat))))), some (dN ((am' (pre.map c)).map fun q => (q, .int (q : Nat)))), some (.lst (((am' (pre.map c)).map (bD' pre c)).map fun s => .fz (.int (s : Nat)))), z8, none, none], w⟩ /\ Pl y) ⟨_, _, _, rfl, hy⟩ ?_ ?_
    . rintro pre s post _ es ⟨y, z, z8, rfl, hy⟩
      have hs : s ∈ reach T := by rw [es]; simp
      have hl1 := hlk s hs
      have hpre : am' ((pre ++ [s]).map c) <+: List.range k := by
        rw [<- hc.num]
        exact dc' c ⟨post, by rw [es]; simp⟩
      have hlenp : (am' (pre.map c)).length <= 1000 := by
        have h2 := List.Nodup.length_le_of_subset (g5' (xs := pre.map c)) (l₂ := pre.map c) (fun a ha => aF'.mp ha)
        have := congrArg List.length es
        simp at this h2
        omega
      have hlf := bv' (fun q => D.int (q : Nat)) (c s) (am' (pre.map c))
      have hlen4 : ((am' (pre.map c)).map fun q => (q, D.int (q : Nat))).length < 16777216 := by rw [List.length_map]; omega
      have hold : (am' (pre.map c)).map (bD' (pre ++ [s]) c) = (am' (pre.map c)).map (bD' pre c) := List.map_congr_left fun q hq => kE' (aF'.mp hq)
      rw [List.map_append, List.map_cons, List.map_nil, bB'] at hpre ⊢
      clear es hX hY
      by_cases hm : c s ∈ am' (pre.map c)
      . rw [if_pos hm] at hlf
        rw [co' hm, hold]
        walk_at "s"
        exact ⟨_, _, _, rfl, hy⟩
      . rw [if_neg hm] at hlf
        rw [bX' hm] at hpre ⊢
        have hr := dy' hpre
        have hcs : (am' (pre.map c)).length = c s := by
          symm
          have := congrArg (fun l => l[(am' (pre.map c)).length]?) hr
          simp only [List.getElem?_append_right (Nat.le_refl _), Nat.sub_self, List.getElem?_cons_zero, List.length_append, List.length_singleton] at this
          rw [List.getElem?_range (by omega)] at this
          exact Option.some.inj this
        rw [List.map_append, List.map_append, List.map_append, List.map_cons, List.map_nil, List.map_cons, List.map_nil, List.map_cons, List.map_nil, hold, kF' fun q => hm (aF'.mpr q)]
        have hlen5 : (((am' (pre.map c)).map (bD' pre c)).map fun s => O.fz (.int (s : Nat))).length < 16777216 := by rw [List.length_map, List.length_map]; omega
        have hlen6 : (am' (pre.map c)).length < 16777216 := by omega
        rw [hcs] at hlen6
        walk_at "s"
        exact ⟨_, _, some (.fz (.int (s : Nat))), rfl, hy⟩
    . rintro _ ⟨y, z, z8, rfl, hy⟩
      rw [hc.num]
      have hfst : ∀ q < k, bD' (reach T) c q ∈ reach T := by
        intro q hq
        have : q ∈ am' ((reach T).map c) := by rw [hc.num]; exact List.mem_range.mpr hq
        obtain ⟨s, hs, e⟩ := List.mem_map.mp (aF'.mp this)
        unfold bD'
        cases f : (reach T).find? fun s => decide (c s = q) with
        | none =>
          have := List.find?_eq_none.mp f s hs
          simp [e] at this
        | some t => exact List.mem_of_find?_eq_some f
      have hlf : ∀ q < k, ((List.range k).map fun q => (q, D.int (q : Nat))).lookup q = some (.int (q : Nat)) := fun q hq => by rw [bv' (fun q => D.int (q : Nat)), if_pos (List.mem_range.mpr hq)]
      have ef : frzs (((List.range k).map (bD' (reach T) c)).map fun s => O.fz (D.int (s : Nat))) = ((List.range k).map (bD' (reach T) c)).map fun s => D.int (s : Nat) := by
        rw [eu', List.map_map]; rfl
      walk_at "s"
      refine dG' (fun s : Nat => cF' ((ap' T s).map c)) (by simp; omega) ?_ ?_
      . intro s hs
        obtain ⟨q, hq, rfl⟩ := List.mem_map.mp hs
        have hq := List.mem_range.mp hq
        have hf := hfst q hq
        obtain ⟨R, hR1, hR2⟩ := hX _ _ (cJ' hT (hS _ hf))
        have hrl := cd' hT (hS _ hf)
        have hclf := hcl _ hf
        clear hX hY
        walk_at "s"
        refine dG' (fun t : Nat => D.int (c t : Nat)) (by omega) ?_ ?_
        . intro t ht
          have h1 := hlk t (hclf t ht)
          have h2 := hlf (c t) (hc.lt (hclf t ht))
          walk_at "s"
        walk_at "l"
        walk_at "s"
        refine ⟨by simp only [cF', List.map_map]; rfl, ?_⟩
        rcases hy with rfl | ⟨d, rfl⟩ <;> rfl
      walk_at "l"
      walk_at "s"
      refine wk' (fun q => decide (bD' (reach T) c q ∈ A)) (fun q : Nat => D.int (q : Nat)) (by omega) ?_ ?_
      . intro q hq
        have e1 : (List.range k)[q]? = some q := List.getElem?_range hq
        have hy1 := hY (bD' (reach T) c q)
        walk_at "s"
        exact fun _ => trivial
      walk_at "l"
      walk_at "s"
      refine ⟨c, b4' T (reach T) c k, f9' A (reach T) c k, nR' hT hL hn hc hst, ?_⟩
      unfold cy' b4' dg' f9'
      simp only [List.map_map]
      rfl
theorem y1' {w : W} {m most : Nat} {L : Tx} {T : List (List Nat)} {A : List Nat} (h : w[m]? = some (.ins "Machine" [])) (hM : MacOk L T A most 6) (hmost : most <= 4) : wF (f_Machine___init__ [.obj m, .str L, cy' T, dg' A] w) (fun o w' => o = .fz .non /\ w' = w.set m (mkM "Machine" L T A .non cS')) FX := by
  have hL := hM.let'
  have h1 := hL.ne
  have h2 : L.length <= 4 := Nat.le_trans hL.le hmost
  have e1 : (L.all fun c => decide (c ∈ abc)) = true := by
    rw [List.all_eq_true]
    exact fun c hc => by rw [decide_eq_true_iff]; exact rl'.mpr (hL.abc c hc)
  have e2 : (A.all fun a => decide (a < T.length)) = true := by
    rw [List.all_eq_true]
    exact fun a ha => by simpa using hM.acc.lt a ha
  unfold f_Machine___init__
  walk_at "f0"
  walk_at "s"
  refine (ea' L abc w).mono ?_
  rintro _ _ ⟨rfl, rfl⟩
  rw [e1, decide_eq_true hL.asc]
  walk_at "s"
  refine (jf' hM.tab hM.ne hM.le _).mono ?_
  rintro _ _ ⟨rfl, rfl⟩
  walk_at "s"
  refine (dP' A T.length _).mono ?_
  rintro _ _ ⟨rfl, rfl⟩
  rw [e2]
  walk_at "s"
  refine (gq' A _).mono ?_
  rintro _ _ ⟨rfl, rfl⟩
  rw [decide_eq_true hM.acc.asc]
  walk_at "s"
  refine ⟨by simp [jg', h], ?_⟩
  refine (nV' h (.inl rfl)).mono ?_
  rintro _ _ ⟨rfl, rfl⟩
  walk_at "s"
theorem yJ' {w : W} {m most : Nat} {L : Tx} {T : List (List Nat)} {A : List Nat} (hm : w.length = m) (hM : MacOk L T A most 6) (hmost : most <= 4) : wF (f_Machine___init__ [.obj m, .str L, cy' T, dg' A] (w ++ [.ins "Machine" []])) (fun o w' => o = .fz .non /\ w' = w ++ [mkM "Machine" L T A .non cS']) FX := by
  subst hm
  refine (y1' (by rw [List.getElem?_append_right (by omega), Nat.sub_self]; rfl) hM hmost).mono ?_
  rintro _ _ ⟨rfl, rfl⟩
  refine ⟨rfl, ?_⟩
  rw [List.set_append_right _ _ (by omega), Nat.sub_self]; rfl
structure Pt (L : Tx) (T : List (List Nat)) : Prop where
  tab : bi' T T.length L.length
  nd : L.Nodup
  ll : L.length <= 1000
  ne : 1 <= T.length
  le : T.length <= 400
theorem Pt.least {L : Tx} {T : List (List Nat)} {A : List Nat} {c : Nat -> Nat} {T' : List (List Nat)} {A' : List Nat} (h : Pt L T) (hI : IsLeast L T A c T' A') : Pt L T' :=
  ⟨hI.tab, h.nd, h.ll, hI.ne, Nat.le_trans hI.le h.le⟩
theorem MacOk.pt {L : Tx} {T : List (List Nat)} {A : List Nat} {most states : Nat} (h : MacOk L T A most states) (h1 : most <= 1000) (h2 : states <= 400) : Pt L T :=
  ⟨h.tab, h.let'.asc.imp (fun h => Nat.ne_of_lt h), Nat.le_trans h.let'.le h1, h.ne, Nat.le_trans h.le h2⟩
def Rs (rest : List (String × O)) : Prop := ∃ o1 o2 o3, rest = [("kept_field", o1), ("kept_lots", o2), ("kept_more", o3)]
theorem Rs.z : Rs cS' := ⟨_, _, _, rfl⟩
theorem Rs.le {rest : List (String × O)} (h : Rs rest) : rest.length <= 100 := by obtain ⟨_, _, _, rfl⟩ := h; simp
structure MM (w : W) (m : Nat) (C : String) (L : Tx) (T : List (List Nat)) (A : List Nat) : Prop where
  cl : C = "Machine" \/ C = "RawMachine"
  ex : ∃ l rest, Rs rest /\ w[m]? = some (mkM C L T A l rest)
theorem MM.mc {w : W} {m : Nat} {C : String} {L T A} (h : MM w m C L T A) : ∃ l, McAt w m L T A l := by
  obtain ⟨l, rest, _, h2⟩ := h.ex
  exact ⟨l, McAt.of h2 h.cl⟩
theorem MM.lt {w : W} {m : Nat} {C : String} {L T A} (h : MM w m C L T A) : m < w.length := by
  obtain ⟨l, rest, _, h2⟩ := h.ex
  exact bu' h2
def WOk (w : W) : Prop := ∀ (m : Nat) (C : String) (L : Tx) (T : List (List Nat)) (A : List Nat) (l : D) (rest : List (String × O)), w[m]? = some (mkM C L T A l rest) →
  l = .non \/ ∃ k c T' A', l = .obj k /\ IsLeast L T A c T' A' /\ ∃ rest', Rs rest' /\ w[k]? = some (mkM "RawMachine" L T' A' (.obj k) rest')
structure Evo (w w' : W) : Prop where
  len : w.length <= w'.length
  mac : ∀ m C L T A, MM w m C L T A -> MM w' m C L T A
  hand : ∀ n, cR' w n -> cR' w' n
theorem Evo.refl {w : W} : Evo w w := ⟨Nat.le_refl _, fun _ _ _ _ _ h => h, fun _ h => h⟩
theorem Evo.trans {w w1 w2 : W} (h : Evo w w1) (h' : Evo w1 w2) : Evo w w2 := ⟨Nat.le_trans h.len h'.len, fun _ _ _ _ _ q => h'.mac _ _ _ _ _ (h.mac _ _ _ _ _ q), fun _ q => h'.hand _ (h.hand _ q)⟩
theorem MM.evo {w w' : W} {m : Nat} {C : String} {L T A} (h : MM w m C L T A) (e : Evo w w') : MM w' m C L T A := e.mac _ _ _ _ _ h
theorem IsLeast.self {L : Tx} {T : List (List Nat)} {A : List Nat} {c : Nat -> Nat} {T' : List (List Nat)} {A' : List Nat} (h : IsLeast L T A c T' A') : IsLeast L T' A' id T' A' where
  tab := h.tab
  ne := h.ne
  le := Nat.le_refl _
  acc := h.acc
  c0 := rfl
  lt s hs := by rw [h.reach] at hs; exact List.mem_range.mp hs
  row s _ := by rw [List.map_id]; rfl
  fin s _ := Iff.rfl
  onto q hq := ⟨q, by rw [h.reach]; exact List.mem_range.mpr hq, rfl⟩
  reach := h.reach
  apart := h.apart
  num := by rw [List.map_id, h.reach, ce' List.nodup_range]
theorem g6' {C C' : String} {L L' : Tx} {T T' : List (List Nat)} {A A' : List Nat} {l l' : D} {rest rest' : List (String × O)} (h : mkM C L T A l rest = mkM C' L' T' A' l' rest') : C = C' /\ L = L' /\ T = T' /\ A = A' /\ l = l' /\ rest = rest' := by
  have nat : ∀ {x y : List Nat}, (x.map fun t => D.int (t : Nat)) = (y.map fun t => D.int (t : Nat)) -> x = y := fun e =>
    List.map_inj_right (fun a b h => by have := D.int.inj h; omega) |>.mp e
  obtain ⟨e1, e2⟩ := Ob.ins.inj h
  simp only [List.cons.injEq, Prod.mk.injEq, true_and, O.fz.injEq, D.str.injEq, and_assoc] at e2
  obtain ⟨f1, f2, f3, f4, f5⟩ := e2
  refine ⟨e1, f1, ?_, nat (D.tup.inj f3), f4, f5⟩
  exact List.map_inj_right (fun a b h => nat (D.tup.inj h)) |>.mp (D.tup.inj f2)
theorem WOk.but {w w' : W} {n : Nat} (h : WOk w) (hh : cR' w n) (hh' : cR' w' n) (b : But n w w') : WOk w' /\ Evo w w' := by
  obtain ⟨cells, i, bb, s, c, hw, _⟩ := id hh
  obtain ⟨cells', i', bb', s', c', hw', _⟩ := id hh'
  refine ⟨fun m C L T A l rest e => ?_, Nat.le_of_eq b.1.symm, fun m C L T A hM => ?_, fun k hk => ?_⟩
  . have hm : m ≠ n := fun q => by rw [q, hw'] at e; cases e
    rw [b.2 m hm] at e
    rcases h m C L T A l rest e with q | ⟨k, c0, T', A', q1, q2, rest', q3, q4⟩
    . exact .inl q
    . refine .inr ⟨k, c0, T', A', q1, q2, rest', q3, ?_⟩
      rw [b.2 k (fun q => by rw [q, hw] at q4; cases q4)]
      exact q4
  . obtain ⟨l, rest, h1, h2⟩ := hM.ex
    refine ⟨hM.cl, l, rest, h1, ?_⟩
    rw [b.2 m (fun q => by rw [q, hw] at h2; cases h2)]
    exact h2
  . by_cases q : k = n
    . rw [q]; exact hh'
    . obtain ⟨c1, i1, b1, s1, k1, e1, e2⟩ := hk
      exact ⟨c1, i1, b1, s1, k1, by rw [b.2 k q]; exact e1, e2⟩
theorem WOk.snoc {w : W} {o : Ob} (h : WOk w) (ho : ∀ C L T A l rest, o = mkM C L T A l rest -> l = .non) : WOk (w ++ [o]) /\ Evo w (w ++ [o]) := by
  refine ⟨fun m C L T A l rest e => ?_, by simp, fun m C L T A hM => ?_, fun k hk => hk.snoc⟩
  . by_cases hm : m < w.length
    . rw [List.getElem?_append_left hm] at e
      rcases h m C L T A l rest e with q | ⟨k, c0, T', A', q1, q2, rest', q3, q4⟩
      . exact .inl q
      . exact .inr ⟨k, c0, T', A', q1, q2, rest', q3, by rw [List.getElem?_append_left (bu' q4)]; exact q4⟩
    . rw [List.getElem?_append_right (by omega)] at e
      have : m - w.length = 0 := by
        have := (List.getElem?_eq_some_iff.mp e).1
        simp at this; omega
      rw [this] at e
      exact .inl (ho C L T A l rest (Option.some.inj e))
  . obtain ⟨l, rest, h1, h2⟩ := hM.ex
    exact ⟨hM.cl, l, rest, h1, by rw [List.getElem?_append_left (bu' h2)]; exact h2⟩
theorem MM.new {w : W} {C : String} {L T A l rest} (hC : C = "Machine" \/ C = "RawMachine") (hr : Rs rest) : MM (w ++ [mkM C L T A l rest]) w.length C L T A :=
  ⟨hC, l, rest, hr, by rw [List.getElem?_append_right (Nat.le_refl _), Nat.sub_self]; rfl⟩
theorem WOk.mach {w : W} {C : String} {L T A} (h : WOk w) : WOk (w ++ [mkM C L T A .non cS']) /\ Evo w (w ++ [mkM C L T A .non cS']) :=
  h.snoc fun C' L' T' A' l rest e => (g6' e).2.2.2.2.1.symm
theorem WOk.lst {w : W} {os : List O} (h : WOk w) : WOk (w ++ [.lst os]) /\ Evo w (w ++ [.lst os]) := h.snoc fun C' L' T' A' l rest e => by cases e
theorem WOk.nil : WOk [] := fun m C L T A l rest e => by simp at e
theorem WOk.one {os : List O} : WOk [.lst os] := (WOk.lst .nil).1
theorem wi' {w : W} {m : Nat} {C : String} {L : Tx} {T : List (List Nat)} {A : List Nat} (hW : WOk w) (h : MM w m C L T A) (hP : Pt L T) :
    wF (f_least [.obj m] w) (fun o w' => ∃ k c T' A', o = .fz (.obj k) /\ IsLeast L T A c T' A' /\ MM w' k "RawMachine" L T' A' /\ WOk w' /\ Evo w w') FX := by
  obtain ⟨l, rest, hr, e⟩ := h.ex
  rcases hW m C L T A l rest e with rfl | ⟨k, c0, T', A', rfl, q2, rest', q3, q4⟩
  . refine (oH' e h.cl hr.le hP.tab hP.nd hP.ll hP.ne (Nat.le_trans hP.le (by decide))).mono ?_
    rintro _ _ ⟨c, T', A', hI, rfl, rfl⟩
    have hm := bu' e
    have e1 : (w.set m (mkM C L T A (.obj w.length) rest) ++ [mkM "RawMachine" L T' A' (.obj w.length) cS'])[w.length]? = some (mkM "RawMachine" L T' A' (.obj w.length) cS') := by
      rw [List.getElem?_append_right (by simp), List.length_set, Nat.sub_self]; rfl
    have e2 : (w.set m (mkM C L T A (.obj w.length) rest) ++ [mkM "RawMachine" L T' A' (.obj w.length) cS'])[m]? = some (mkM C L T A (.obj w.length) rest) := by
      rw [List.getElem?_append_left (by simpa using hm), List.getElem?_set_self hm]
    have e3 : ∀ i, i < w.length -> i ≠ m -> (w.set m (mkM C L T A (.obj w.length) rest) ++ [mkM "RawMachine" L T' A' (.obj w.length) cS'])[i]? = w[i]? := fun i hi hne => by
      rw [List.getElem?_append_left (by simpa using hi), List.getElem?_set_ne (fun h => hne h.symm)]
    refine ⟨w.length, c, T', A', rfl, hI, ⟨.inr rfl, _, _, .z, e1⟩, fun i Ci Li Ti Ai li ri ei => ?_, by simp, fun i Ci Li Ti Ai hi => ?_, fun i hi => ?_⟩
    . rcases Nat.lt_trichotomy i w.length with hi | hi | hi
      . by_cases him : i = m
        . rw [him, e2] at ei
          obtain ⟨rfl, rfl, rfl, rfl, rfl, rfl⟩ := g6' (Option.some.inj ei)
          exact .inr ⟨_, c, T', A', rfl, hI, _, .z, e1⟩
        . rw [e3 i hi him] at ei
          rcases hW i _ _ _ _ _ _ ei with q | ⟨k, c1, T1, A1, q1, q2, rest1, q3, q4⟩
          . exact .inl q
          . refine .inr ⟨k, c1, T1, A1, q1, q2, rest1, q3, ?_⟩
            rw [e3 k (bu' q4) (fun q => ?_)]
            . exact q4
            . rw [q, e] at q4
              have := (g6' (Option.some.inj q4)).2.2.2.2.1
              cases this
      . rw [hi, e1] at ei
        obtain ⟨rfl, rfl, rfl, rfl, rfl, rfl⟩ := g6' (Option.some.inj ei)
        exact .inr ⟨_, id, _, _, rfl, hI.self, _, .z, e1⟩
      . have := bu' ei
        simp at this
        omega
    . obtain ⟨l1, r1, h1, h2⟩ := hi.ex
      by_cases him : i = m
      . rw [him, e] at h2
        obtain ⟨rfl, rfl, rfl, rfl, rfl, rfl⟩ := g6' (Option.some.inj h2)
        exact ⟨hi.cl, _, _, hr, by rw [him]; exact e2⟩
      . exact ⟨hi.cl, _, _, h1, by rw [e3 i (bu' h2) him]; exact h2⟩
    . obtain ⟨c1, i1, b1, s1, k1, e4, e5⟩ := hi
      exact ⟨c1, i1, b1, s1, k1, by rw [e3 i (bu' e4) (fun q => by rw [q, e] at e4; cases e4)]; exact e4, e5⟩
  . refine (oI' e h.cl).mono ?_
    rintro _ _ ⟨rfl, rfl⟩
    exact ⟨k, c0, T', A', rfl, q2, ⟨.inr rfl, _, _, q3, q4⟩, hW, .refl⟩
theorem sZ' {w : W} {L : Tx} {T : List (List Nat)} {A : List Nat} {n : Nat} (hn : n = w.length) : wF (f_RawMachine___init__ [.obj n, .str L, cy' T, dg' A] (w ++ [.ins "RawMachine" []])) (fun o w' => o = .fz .non /\ w' = w ++ [mkM "RawMachine" L T A .non cS']) FX := by
  subst hn
  refine (ny' (by rw [List.getElem?_append_right (Nat.le_refl _), Nat.sub_self]; rfl)).mono ?_
  rintro _ _ ⟨rfl, rfl⟩
  refine ⟨rfl, ?_⟩
  rw [List.set_append_right _ _ (Nat.le_refl _), Nat.sub_self]; rfl
def plD : D -> Bool := fun d => (tyn d).isSome
def wdD (L : Tx) : D -> Bool
  | .str s => s.all fun c => decide (c ∈ L)
  | _ => false
theorem vc' {L : Tx} {s : Tx} (h : ∀ c ∈ s, c ∈ L) : wdD L (.str s) = true := by
  show s.all _ = true
  rw [List.all_eq_true]
  exact fun c hc => decide_eq_true (h c hc)
theorem yR' {w : W} {m : Nat} {C : String} {L : Tx} {T : List (List Nat)} {A : List Nat} {s : Nat} {x : Tx} (hm : MM w m C L T A) (hT : bi' T T.length L.length) (hs : s < T.length) (hx : ∀ c ∈ x, c ∈ L) : wF (f_led [.obj m, .int s, .str x] w) (fun o w' => o = .fz (.int (run L T s x : Nat)) /\ w' = w) FX := by
  obtain ⟨l, hm⟩ := hm.mc
  unfold f_led
  walk_at "f"
  have h1 := hm.fl
  have h2 := hm.ft
  refine bG' (fun pre ρ => ∃ y, ρ = ⟨[some (.fz (.obj m)), some (.fz (.int (run L T s pre : Nat))), some (.fz (.str x)), y], w⟩ /\ run L T s pre < T.length) ⟨_, rfl, hs⟩ ?_ ?_
  . rintro pre c post _ e ⟨y, rfl, hr⟩
    have hc := hx c (by rw [e]; simp)
    obtain ⟨r, h3, h4, h5⟩ := h6' hT hr hc
    have h6 := jl' hc
    rw [nw']
    clear hc e
    walk_at "s"
    exact ⟨_, rfl⟩
  . rintro _ ⟨y, rfl, hr⟩
    walk_at "s"
theorem oK' {w : W} {m : Nat} {C : String} {L : Tx} {T : List (List Nat)} {A : List Nat} {d : D} (h : MM w m C L T A) (hd : plD d = true) : wF (f_is_word [.obj m, d] w) (fun o w' => o = .fz (.bl (wdD L d)) /\ w' = w) FX := by
  obtain ⟨l, hm⟩ := h.mc
  have h1 := hm.fl
  unfold f_is_word
  walk_at "f0"
  clear h hm
  walk_at "s"
  by_cases hs : ∃ s, d = .str s
  . obtain ⟨s, rfl⟩ := hs
    refine (c0' s L w).mono ?_
    rintro _ _ ⟨rfl, rfl⟩
    walk_at "s"
    rfl
  . have h2 : ∃ t, tyn d = some t /\ t ≠ "str" := by
      cases d <;> simp [plD, tyn] at hd ⊢
      exact hs ⟨_, rfl⟩
    refine (dH' h2 L w).mono ?_
    rintro _ _ ⟨rfl, rfl⟩
    have h3 : wdD L d = false := by
      cases d <;> first | rfl | exact absurd ⟨_, rfl⟩ hs
    rw [h3]
    clear h2 hs
    walk_at "s"
theorem jt' {w : W} {m : Nat} {C : String} {L : Tx} {T : List (List Nat)} {A : List Nat} {d : D} (h : MM w m C L T A) (hd : plD d = true) : wF (f_check_word [.obj m, d] w) (fun _ w' => wdD L d = true /\ w' = w) (fun x w' => wdD L d = false /\ x = ⟨"NoWord", []⟩ /\ w' = w) := by
  have key := oK' h hd
  unfold f_check_word
  walk_at "f0"
  clear h hd
  walk_at "s"
  refine key.mono ?_
  rintro _ _ ⟨rfl, rfl⟩
  clear key
  cases hw : wdD L d
  . walk_at "s"
  . walk_at "s"
theorem js' {w : W} {m : Nat} {C : String} {L : Tx} {T : List (List Nat)} {A : List Nat} {x : Tx} (h : MM w m C L T A) (hx : ∀ c ∈ x, c ∈ L) : wF (f_check_word [.obj m, .str x] w) (fun _ w' => w' = w) FX := by
  refine (jt' h (d := .str x) rfl).monoX ?_ ?_
  . rintro _ _ ⟨_, rfl⟩; rfl
  . rintro _ _ ⟨e, _⟩
    rw [vc' hx] at e
    cases e
theorem qI' {w : W} {m : Nat} {C : String} {L : Tx} {T : List (List Nat)} {A : List Nat} {x : Tx} (h : MM w m C L T A) (hP : Pt L T) (hx : ∀ c ∈ x, c ∈ L) : wF (f_says [.obj m, .str x] w) (fun o w' => o = .fz (.bl (decide (run L T 0 x ∈ A))) /\ w' = w) FX := by
  have k1 := js' h hx
  have k2 := yR' h hP.tab (Nat.lt_of_lt_of_le Nat.zero_lt_one hP.ne) hx
  obtain ⟨l, hm⟩ := h.mc
  have h3 := hm.fa
  unfold f_says
  walk_at "f0"
  clear h hP hm
  walk_at "s"
  refine k1.mono ?_
  rintro _ _ rfl
  walk_at "s"
  refine k2.mono ?_
  rintro _ _ ⟨rfl, rfl⟩
  walk_at "s"
theorem hu' : ∀ a : List Nat, dats (a.map fun t => D.int (t : Nat)) = true
  | [] => rfl
  | x :: r => by show (true && _) = true; rw [hu' r]; rfl
theorem kL' : ∀ T : List (List Nat), dats (T.map cF') = true
  | [] => rfl
  | x :: r => by
    show (dats (x.map fun t => D.int (t : Nat)) && dats (r.map cF')) = true
    rw [hu', kL' r]; rfl
theorem fK' : ∀ a : List Nat, deps (a.map fun t => D.int (t : Nat)) = 0
  | [] => rfl
  | x :: r => by show max 0 _ = 0; rw [fK' r]; rfl
theorem kJ' : ∀ T : List (List Nat), deps (T.map cF') <= 1
  | [] => Nat.zero_le 1
  | x :: r => by
    show max (deps (x.map fun t => D.int (t : Nat)) + 1) (deps (r.map cF')) <= 1
    have := kJ' r
    rw [fK']
    omega
def ptD (L : Tx) (T : List (List Nat)) (A : List Nat) : D := .tup [.str L, cy' T, dg' A]
theorem lD' (L : Tx) (T : List (List Nat)) (A : List Nat) : dat (ptD L T A) = true := by
  show (true && (dats (T.map cF') && (dats (A.map fun t => D.int (t : Nat)) && true))) = true
  rw [kL', hu']; rfl
theorem q7' (L : Tx) (T : List (List Nat)) (A : List Nat) : dep (ptD L T A) <= 3 := by
  show max 0 (max (deps (T.map cF') + 1) (max (deps (A.map fun t => D.int (t : Nat)) + 1) 0)) + 1 <= 3
  have := kJ' T
  rw [fK']
  omega
theorem fy' : ∀ {a : List Nat} {k : Nat}, k <= 1000 -> (∀ x ∈ a, x < k) -> repIs (a.map fun t => D.int (t : Nat)) = true
  | [], _, _, _ => rfl
  | x :: r, k, hk, h => by
    show (decide ((x : Int).natAbs < 10 ^ 60) && _) = true
    have h1 := h x (by simp)
    have h2 : (x : Int).natAbs < 10 ^ 60 := Nat.lt_of_lt_of_le (m := 1000) (by omega) (by decide)
    rw [decide_eq_true h2, fy' hk fun y hy => h y (by simp [hy])]; rfl
theorem em' : ∀ a : List Nat, repWs (a.map fun t => D.int (t : Nat)) = a.length
  | [] => rfl
  | x :: r => by show 0 + 1 + repWs (r.map fun t => D.int (t : Nat)) = r.length + 1; rw [em' r]; omega
theorem ih' : ∀ {T : List (List Nat)} {k : Nat}, k <= 1000 -> (∀ r ∈ T, ∀ t ∈ r, t < k) -> repIs (T.map cF') = true
  | [], _, _, _ => rfl
  | x :: r, k, hk, h => by
    show (repIs (x.map fun t => D.int (t : Nat)) && repIs (r.map cF')) = true
    rw [fy' hk (h x (by simp)), ih' hk fun y hy => h y (by simp [hy])]; rfl
theorem ig' : ∀ {T : List (List Nat)} {m : Nat}, (∀ r ∈ T, r.length = m) -> repWs (T.map cF') = T.length * (m + 1)
  | [], _, _ => by simp [repWs]
  | x :: r, m, h => by
    show repWs (x.map fun t => D.int (t : Nat)) + 1 + repWs (r.map cF') = (r.length + 1) * (m + 1)
    rw [em', ig' fun y hy => h y (by simp [hy]), h x (by simp), Nat.succ_mul]; omega
theorem q6' {L : Tx} {T : List (List Nat)} {A : List Nat} (hT : bi' T T.length L.length) (hn : T.length <= 400) (hL : L.length <= 100) (hA : AccOk A T.length) : xq' (ptD L T A) = true /\ dep (ptD L T A) <= 40 /\ sk' (ptD L T A) = true /\ o4' (ptD L T A) <= 200000 := by
  refine ⟨vQ' (lD' L T A), Nat.le_trans (q7' L T A) (by decide), ?_, ?_⟩
  . show (true && (repIs (T.map cF') && (repIs (A.map fun t => D.int (t : Nat)) && true))) = true
    rw [ih' (k := T.length) (by omega) (fun r hr => (hT.2 r hr).2), fy' (k := T.length) (by omega) hA.lt]; rfl
  . show L.length + 1 + (repWs (T.map cF') + 1 + (repWs (A.map fun t => D.int (t : Nat)) + 1 + 0)) <= 200000
    have h1 := ig' (T := T) (m := L.length) fun r hr => (hT.2 r hr).1
    have h2 := oF' (hA.asc.imp fun h => Nat.ne_of_lt h) hA.lt
    have h3 : T.length * (L.length + 1) <= 400 * 101 := Nat.mul_le_mul hn (by omega)
    rw [h1, em']
    omega
theorem uO' {w : W} {m : Nat} {C : String} {L : Tx} {T : List (List Nat)} {A : List Nat} (h : MM w m C L T A) : isC isT "Machine" w (.obj m) = some true := by
  obtain ⟨l, rest, _, e⟩ := h.ex
  show (match w[m]? with | some (.ins C _) => sub isT C "Machine" | _ => none) = some true
  rw [e]
  rcases h.cl with rfl | rfl
  . show sub isT "Machine" "Machine" = some true
    decide
  . show sub isT "RawMachine" "Machine" = some true
    decide
theorem e2' {w : W} {m : Nat} {C : String} {L : Tx} {T : List (List Nat)} {A : List Nat} {x : String} (h : MM w m C L T A) (hx : x ∉ ["kept_letters", "kept_table", "kept_accepts", "kept_least", "kept_field", "kept_lots", "kept_more"] := by decide) : jg' ["Machine", "RawMachine"] x w (.obj m) = true := by
  obtain ⟨l, rest, ⟨o1, o2, o3, rfl⟩, e⟩ := h.ex
  have hl : List.lookup x (("kept_letters", O.fz (.str L)) :: ("kept_table", .fz (cy' T)) :: ("kept_accepts", .fz (dg' A)) :: ("kept_least", .fz l) :: [("kept_field", o1), ("kept_lots", o2), ("kept_more", o3)]) = none := by
    simp only [List.mem_cons, List.not_mem_nil, or_false, not_or] at hx
    obtain ⟨h1, h2, h3, h4, h5, h6, h7⟩ := hx
    simp [List.lookup, beq_eq_false_iff_ne.mpr h1, beq_eq_false_iff_ne.mpr h2, beq_eq_false_iff_ne.mpr h3, beq_eq_false_iff_ne.mpr h4, beq_eq_false_iff_ne.mpr h5, beq_eq_false_iff_ne.mpr h6, beq_eq_false_iff_ne.mpr h7]
  show (match w[m]? with | some (.ins C' fs) => decide (C' ∈ ["Machine", "RawMachine"]) && (fs.lookup x).isNone | _ => false) = true
  rw [e]
  show (decide (C ∈ ["Machine", "RawMachine"]) && (List.lookup x _).isNone) = true
  rw [hl]
  rcases h.cl with rfl | rfl <;> rfl
theorem e0' {w : W} {m : Nat} {C : String} {L : Tx} {T : List (List Nat)} {A : List Nat} (h : MM w m C L T A) (hT : bi' T T.length L.length) (hn : T.length <= 400) (hL : L.length <= 100) (hA : AccOk A T.length) :
    wF (f__law_is_machine [.obj m, .str L, cy' T, dg' A] w) (fun o w' => o = .fz (.bl true) /\ w' = w) FX := by
  have e1 := uO' h
  have e2 := e2' (x := "letters") h
  have e3 := e2' (x := "table") h
  have e4 := e2' (x := "accepts") h
  obtain ⟨l, hm⟩ := h.mc
  have h1 := hm.fl
  have h2 := hm.ft
  have h3 := hm.fa
  unfold f__law_is_machine
  walk_at "f0"
  clear h hm
  walk_at "s"
  unfold f_Machine_letters
  walk_at "f"
  unfold f_Machine_table
  walk_at "f"
  unfold f_Machine_accepts
  walk_at "f"
  rw [show D.tup [.str L, cy' T, dg' A] = ptD L T A from rfl]
  rw [n7', iE' (q6' hT hn hL hA)]
  walk_at "s"
  rw [show D.tup [.str L, cy' T, dg' A] = ptD L T A from rfl]
  rw [n7', iE' (q6' hT hn hL hA)]
  rw [Cj', iE' (j9' _ (lD' L T A))]
  exact ⟨rfl, rfl⟩
theorem zd' {w : W} {m n : Nat} {C C' : String} {L : Tx} {T : List (List Nat)} {A : List Nat} (h : MM w m C L T A) (h' : MM w n C' L T A) :
    wF (f_Machine___eq__ [.obj m, .obj n] w) (fun o w' => o = .fz (.bl true) /\ w' = w) FX := by
  have e1 := uO' h'
  have e2 := e2' (x := "parts") h
  have e3 := e2' (x := "parts") h'
  obtain ⟨l, hm⟩ := h.mc
  obtain ⟨l', hm'⟩ := h'.mc
  have h1 := hm.fl
  have h2 := hm.ft
  have h3 := hm.fa
  have h1' := hm'.fl
  have h2' := hm'.ft
  have h3' := hm'.fa
  unfold f_Machine___eq__
  walk_at "f0"
  clear h hm h' hm'
  walk_at "s"
  unfold f_Machine_parts
  walk_at "f"
  walk_at "f"
  rw [show D.tup [.str L, cy' T, dg' A] = ptD L T A from rfl]
  rw [tO' _ (lD' L T A) (Nat.le_trans (q7' L T A) (by decide))]
  walk_at "s"
theorem rN' {ps : List (String × String)} {w : W} {m n : Nat} {C C' : String} {L L' : Tx} {T T' : List (List Nat)} {A A' : List Nat} (h : MM w m C L T A) (h' : MM w n C' L' T' A') (hp : (C, C') ∈ ps) : wB' ps w (.obj m) (.obj n) = true := by
  obtain ⟨l, rest, _, e⟩ := h.ex
  obtain ⟨l', rest', _, e'⟩ := h'.ex
  show (match w[m]?, w[n]? with | some (.ins C _), some (.ins C' _) => decide ((C, C') ∈ ps) | _, _ => false) = true
  rw [e, e']
  exact decide_eq_true hp
def dr' (L : Tx) (T' : List (List Nat)) (A' : List Nat) (P : Tx -> Prop) : Prop := ∃ U B c, bi' U U.length L.length /\ 1 <= U.length /\ IsLeast L U B c T' A' /\ ∀ z : Tx, (∀ a ∈ z, a ∈ L) -> (run L U 0 z ∈ B ↔ P z)
theorem dr'.uniq {L : Tx} {T1 T2 : List (List Nat)} {A1 A2 : List Nat} {P Q : Tx -> Prop} (hL : L.Nodup) (h1 : dr' L T1 A1 P) (h2 : dr' L T2 A2 Q) (h : ∀ z : Tx, (∀ a ∈ z, a ∈ L) -> (P z ↔ Q z)) : T1 = T2 /\ A1 = A2 := by
  obtain ⟨U1, B1, c1, a1, a2, a3, a4⟩ := h1
  obtain ⟨U2, B2, c2, b1, b2, b3, b4⟩ := h2
  exact IsLeast.lang hL a1 a2 b1 b2 a3 b3 fun z hz => by rw [a4 z hz, b4 z hz]; exact h z hz
theorem dr'.says {L : Tx} {T1 : List (List Nat)} {A1 : List Nat} {P : Tx -> Prop} (h1 : dr' L T1 A1 P) {z : Tx} (hz : ∀ a ∈ z, a ∈ L) : run L T1 0 z ∈ A1 ↔ P z := by
  obtain ⟨U1, B1, c1, a1, a2, a3, a4⟩ := h1
  rw [a3.run0 a1 a2 hz, a4 z hz]
theorem dr'.acc {L : Tx} {T1 : List (List Nat)} {A1 : List Nat} {P : Tx -> Prop} (h1 : dr' L T1 A1 P) : AccOk A1 T1.length := by
  obtain ⟨U1, B1, c1, a1, a2, a3, a4⟩ := h1
  exact a3.acc
theorem dr'.tab {L : Tx} {T1 : List (List Nat)} {A1 : List Nat} {P : Tx -> Prop} (h1 : dr' L T1 A1 P) : bi' T1 T1.length L.length := by
  obtain ⟨U1, B1, c1, a1, a2, a3, a4⟩ := h1
  exact a3.tab
theorem dr'.of {L : Tx} {T T' : List (List Nat)} {A A' : List Nat} {c : Nat -> Nat} {P : Tx -> Prop} (hT : bi' T T.length L.length) (hn : 1 <= T.length) (h : IsLeast L T A c T' A') (hp : ∀ z : Tx, (∀ a ∈ z, a ∈ L) -> (run L T 0 z ∈ A ↔ P z)) : dr' L T' A' P := ⟨T, A, c, hT, hn, h, hp⟩
def lvs (L x : Tx) : Tx := L.filter fun c => decide (c ∉ x)
def jx' (L K : Tx) (T : List (List Nat)) : List (List Nat) := T.map fun r => K.map fun c => (r[L.idxOf c]?).getD 0
theorem sD' {L K : Tx} {T : List (List Nat)} {s : Nat} (hs : s < T.length) : ap' (jx' L K T) s = K.map fun c => ((ap' T s)[L.idxOf c]?).getD 0 := by
  unfold ap' jx'
  rw [List.getElem?_map, List.getElem?_eq_getElem hs]; rfl
theorem sC' {L K : Tx} {T : List (List Nat)} {s c : Nat} (hs : s < T.length) (hc : c ∈ K) : stp K (jx' L K T) s c = stp L T s c := by
  rw [gM', gM', sD' hs, List.getElem?_map, List.getElem?_eq_getElem (List.idxOf_lt_length_iff.mpr hc), List.getElem_idxOf]
  rfl
theorem iH' {L K : Tx} {T : List (List Nat)} (hT : bi' T T.length L.length) (hK : ∀ c ∈ K, c ∈ L) : ∀ {z : Tx} {s : Nat}, s < T.length -> (∀ c ∈ z, c ∈ K) -> run K (jx' L K T) s z = run L T s z
  | [], _, _, _ => rfl
  | c :: z, s, hs, hz => by
    have hc := hz c (by simp)
    obtain ⟨_, _, _, h3⟩ := h6' hT hs (hK c hc)
    rw [eO', eO', sC' hs hc]
    exact iH' hT hK h3 fun d hd => hz d (by simp [hd])
theorem vx' {L K : Tx} {T : List (List Nat)} (hT : bi' T T.length L.length) (hK : ∀ c ∈ K, c ∈ L) : bi' (jx' L K T) (jx' L K T).length K.length := by
  refine ⟨rfl, fun r hr => ?_⟩
  obtain ⟨q, hq, rfl⟩ := List.mem_map.mp hr
  obtain ⟨h1, h2⟩ := hT.2 q hq
  refine ⟨by simp, fun t ht => ?_⟩
  obtain ⟨c, hc, rfl⟩ := List.mem_map.mp ht
  have hi : L.idxOf c < q.length := by rw [h1]; exact List.idxOf_lt_length_iff.mpr (hK c hc)
  rw [List.getElem?_eq_getElem hi, show (jx' L K T).length = T.length by simp [jx']]
  exact h2 _ (List.getElem_mem hi)
theorem dF' {L x : Tx} : ∀ c ∈ lvs L x, c ∈ L := fun c hc => (List.mem_filter.mp hc).1
theorem eq' {L x : Tx} {c : Nat} : c ∈ lvs L x ↔ c ∈ L /\ c ∉ x := by unfold lvs; rw [List.mem_filter, decide_eq_true_iff]
theorem Pt.lvs {L x : Tx} {T : List (List Nat)} (h : Pt L T) : Pt (M.lvs L x) (jx' L (M.lvs L x) T) where
  tab := vx' h.tab dF'
  nd := h.nd.filter _
  ll := Nat.le_trans (List.length_filter_le ..) h.ll
  ne := by simp [jx']; exact h.ne
  le := by simp [jx']; exact h.le
theorem lu' {w : W} {m : Nat} {C : String} {L x : Tx} {T : List (List Nat)} {A : List Nat} (hW : WOk w) (h : MM w m C L T A) (hP : Pt L T) :
    wF (f_silenced [.obj m, .str x] w) (fun o w' => ∃ k T' A', o = .fz (.obj k) /\ MM w' k "RawMachine" (lvs L x) T' A' /\ Pt (lvs L x) T' /\ dr' (lvs L x) T' A' (fun z => run L T 0 z ∈ A) /\ WOk w' /\ Evo w w') FX := by
  have hPS := hP.lvs (x := x)
  have hrun := fun z (hz : ∀ a ∈ z, a ∈ lvs L x) => iH' (K := lvs L x) hP.tab dF' (Nat.lt_of_lt_of_le Nat.zero_lt_one hP.ne) hz
  have hrl := fun r (hr : r ∈ T) => (hP.tab.2 r hr).1
  have hll := hP.ll
  have hle := hP.le
  have hkl := hPS.ll
  have hKm := fun c (hc : c ∈ lvs L x) => jl' (dF' c hc)
  have hKi := fun c (hc : c ∈ lvs L x) => List.idxOf_lt_length_iff.mpr (dF' c hc)
  obtain ⟨l, hm⟩ := h.mc
  have h1 := hm.fl
  have h2 := hm.ft
  have h3 := hm.fa
  unfold f_silenced
  walk_at "f0"
  clear h hP hm
  walk_at "s"
  refine kx' (fun c => decide (c ∉ x)) (fun c => D.str [c]) (by omega) ?_ ?_
  . intro c hc
    walk_at "s"
    exact ⟨by simp, fun _ => trivial⟩
  walk_at "l"
  rw [show ((L.filter fun c => decide (c ∉ x)).map fun c => D.str [c]) = (lvs L x).map chD from rfl]
  have hlk : lvs L x = lvs L x := rfl
  generalize hK : lvs L x = K at *
  clear hK hlk
  walk_at "s"
  refine dG' (fun c => D.int (L.idxOf c : Nat)) (by omega) ?_ ?_
  . intro c hc
    have h6 := hKm c hc
    clear hKm hKi
    walk_at "s"
  walk_at "l"
  clear hKm
  walk_at "s"
  refine ga' (by omega) (fun pre acc ρ => acc = pre.map (fun r => cF' (K.map fun c => (r[L.idxOf c]?).getD 0)) /\ ∃ o3 x6 x7, ρ = ⟨[some (.fz (.obj m)), some (.fz (.str x)), some (.fz (.str K)), some o3, none, none, x6, x7], w⟩ /\ Hd o3 (K.map fun c => D.int (L.idxOf c : Nat))) ⟨rfl, _, _, _, rfl, .inl rfl⟩ ?_ ?_
  . rintro pre r post acc _ e ⟨rfl, o3, x6, x7, rfl, h3⟩
    have hr1 := hrl r (by rw [e]; simp)
    clear hrl e
    rcases h3 with rfl | rfl
    all_goals
      walk_at "s"
      refine dG' (f := fun c => D.int (L.idxOf c : Nat)) (cs := K) (fun c => D.int ((r[L.idxOf c]?).getD 0 : Nat)) (by omega) ?_ ?_
      . intro c hc
        have hi := hKi c hc
        have hg : r[L.idxOf c]? = some ((r[L.idxOf c]?).getD 0) := by rw [List.getElem?_eq_getElem (by omega)]; rfl
        generalize (r[L.idxOf c]?).getD 0 = t at hg ⊢
        clear hKi
        walk_at "s"
      walk_at "l"
      clear hKi
      walk_at "s"
      refine ⟨?_, _, _, _, rfl, by first | exact .inl rfl | exact .inr rfl⟩
      rw [List.map_append]
      unfold cF'
      simp
  rintro _ _ ⟨rfl, o3, x6, x7, rfl, h3⟩
  clear hrl hKi
  have e7 : D.tup (T.map fun r => cF' (K.map fun c => (r[L.idxOf c]?).getD 0)) = cy' (jx' L K T) := by
    unfold cy' jx'
    rw [List.map_map]
    rfl
  walk_at "s"
  refine (sZ' (A := A) rfl).mono ?_
  rintro _ _ ⟨rfl, rfl⟩
  clear h3
  have hM := MM.new (w := w) (C := "RawMachine") (L := K) (T := jx' L K T) (A := A) (l := .non) (.inr rfl) Rs.z
  obtain ⟨hW1, hE1⟩ := hW.mach (C := "RawMachine") (L := K) (T := jx' L K T) (A := A)
  have key := wi' hW1 hM hPS
  clear hM hW1
  walk_at "s"
  refine key.mono ?_
  rintro _ w2 ⟨k, c, T', A', rfl, hI, hM2, hW2, hE2⟩
  exact ⟨k, T', A', rfl, hM2, hPS.least hI, dr'.of hPS.tab hPS.ne hI fun z hz => by rw [hrun z hz], hW2, hE1.trans hE2⟩
def ltD (L : Tx) : D -> Bool
  | .str s => (s.all fun c => decide (c ∈ L)) && decide (s.Pairwise (· < ·)) && !decide (s.length = L.length)
  | _ => false
theorem dm' {w : W} {m : Nat} {C : String} {L : Tx} {T : List (List Nat)} {A : List Nat} {d : D} (h : MM w m C L T A) (hd : plD d = true) : wF (f_check_letters [.obj m, d] w) (fun _ w' => ltD L d = true /\ w' = w) (fun x w' => ltD L d = false /\ x = ⟨"NoLetters", []⟩ /\ w' = w) := by
  obtain ⟨l, hm⟩ := h.mc
  have h1 := hm.fl
  unfold f_check_letters
  walk_at "f0"
  clear h hm
  walk_at "s"
  by_cases hs : ∃ s, d = .str s
  . obtain ⟨s, rfl⟩ := hs
    refine (ea' s L w).mono ?_
    rintro _ _ ⟨rfl, rfl⟩
    walk_at "s"
    have e : ltD L (.str s) = (((s.all fun c => decide (c ∈ L)) && decide (s.Pairwise (· < ·))) && !decide (s.length = L.length)) := rfl
    rw [e]
    generalize ((s.all fun c => decide (c ∈ L)) && decide (s.Pairwise (· < ·))) = b
    clear e
    cases b
    . walk_at "s"
    . walk_at "s"
      refine bl' (fun h => ?_) (fun h => ?_)
      . have h' : s.length = L.length := by omega
        rw [decide_eq_true h']
        walk_at "s"
      . have h' : ¬ s.length = L.length := by omega
        rw [decide_eq_false h']
        walk_at "s"
  . have h2 : ∃ t, tyn d = some t /\ t ≠ "str" := by
      cases d <;> simp [plD, tyn] at hd ⊢
      exact hs ⟨_, rfl⟩
    have h3 : ltD L d = false := by
      cases d <;> first | rfl | exact absurd ⟨_, rfl⟩ hs
    rw [h3]
    unfold f_is_choice
    walk_at "f0"
    clear hs hd
    have h2' := h2
    clear h2
    walk_at "s"
    refine (dH' h2' L w).mono ?_
    rintro _ _ ⟨rfl, rfl⟩
    clear h2'
    walk_at "s"
def uJ' (r : List Nat) : D := .lst (r.map fun t => .int (t : Nat))
theorem eB'.lst (T : List (List Nat)) : eB' (.lst (T.map uJ')) T := fun s r h => by
  refine ⟨uJ' r, ?_, rfl⟩
  show ati (T.map uJ') (s : Int) = _
  rw [ld' (by omega), Int.toNat_natCast, List.getElem?_map, h]; rfl
theorem eE'.lst (A : List Nat) : eE' (uJ' A) A := fun s => by
  have h := rX' (Q := fun d => d = .bl (decide (s ∈ A))) (s : Int) (A.map (Nat.cast : Nat -> Int))
  rw [List.map_map] at h
  have e : decide ((s : Int) ∈ A.map (Nat.cast : Nat -> Int)) = decide (s ∈ A) := by
    rw [decide_eq_decide, List.mem_map]
    constructor
    . rintro ⟨a, h, e⟩
      have : a = s := by omega
      exact this ▸ h
    . exact fun h => ⟨s, h, rfl⟩
  rw [e] at h
  have h2 : wD (pIn (.int (s : Nat)) (uJ' A)) (fun d => d = .bl (decide (s ∈ A))) := by
    show wD (pIn (.int (s : Nat)) (.lst (A.map (D.int ∘ (Nat.cast : Nat -> Int))))) _
    rw [h]
  cases hp : pIn (.int (s : Nat)) (uJ' A) with
  | none => rw [hp, ar'] at h2; exact h2.elim
  | some d => rw [hp, a8'] at h2; rw [h2]
def subs (L : Tx) : List Tx := L.foldl (fun S c => S ++ S.map (· ++ [c])) [[]]
theorem eG' {L : Tx} {c : Nat} : subs (L ++ [c]) = subs L ++ (subs L).map (· ++ [c]) := by unfold subs; rw [List.foldl_append]; rfl
theorem iP' {P : Tx -> Prop} (h0 : P []) (h1 : ∀ L c, P L -> P (L ++ [c])) (L : Tx) : P L := by
  have : ∀ R : Tx, P R.reverse := by
    intro R
    induction R with
    | nil => exact h0
    | cons c R ih => rw [List.reverse_cons]; exact h1 _ _ ih
  have := this L.reverse
  rwa [List.reverse_reverse] at this
theorem iL' (L : Tx) : (subs L).length = 2 ^ L.length := by
  refine iP' (P := fun L => (subs L).length = 2 ^ L.length) rfl (fun L c h => ?_) L
  rw [eG', List.length_append, List.length_map, h, List.length_append, List.length_singleton, Nat.pow_succ]
  omega
theorem iK' (L : Tx) : ∀ x ∈ subs L, x.Sublist L := by
  refine iP' (P := fun L => ∀ x ∈ subs L, x.Sublist L) (fun x hx => ?_) (fun L c h x hx => ?_) L
  . have : x = [] := by simpa [subs] using hx
    rw [this]
    exact .slnil
  . rw [eG'] at hx
    rcases List.mem_append.mp hx with hx | hx
    . exact (h x hx).trans (List.sublist_append_left L [c])
    . obtain ⟨y, hy, rfl⟩ := List.mem_map.mp hx
      exact (h y hy).append (List.Sublist.refl _)
theorem qq' (L : Tx) : ∀ x ∈ (subs L).dropLast, x.length < L.length := by
  refine iP' (P := fun L => ∀ x ∈ (subs L).dropLast, x.length < L.length) (fun x hx => by simp [subs] at hx) (fun L c h x hx => ?_) L
  have hne : (subs L).map (· ++ [c]) ≠ [] := fun e => by
    have := congrArg List.length e
    rw [List.length_map, iL'] at this
    have := Nat.two_pow_pos L.length
    simp only [List.length_nil] at *
    omega
  rw [eG', List.dropLast_append_of_ne_nil hne] at hx
  rcases List.mem_append.mp hx with hx | hx
  . have := (iK' L x hx).length_le
    rw [List.length_append, List.length_singleton]
    omega
  . rw [<- List.map_dropLast] at hx
    obtain ⟨y, hy, rfl⟩ := List.mem_map.mp hx
    have := h y hy
    simp only [List.length_append, List.length_singleton]
    omega
theorem tR' {α : Type} {l : List α} (h : l ≠ []) : cut l none (some (-1)) = l.dropLast := by
  have hl : 0 < l.length := List.length_pos_iff.mpr h
  show (l.drop 0).take ((-1 + (l.length : Int)).toNat - 0) = _
  rw [List.drop_zero, List.dropLast_eq_take]
  congr 1
  omega
theorem k6' {L : Tx} (hl : L.length <= 4) (w : W) : wF (f__law_choices [.str L] w) (fun o w' => o = .fz (.lst ((subs L).dropLast.map .str)) /\ w' = w) FX := by
  unfold f__law_choices
  walk_at "f"
  refine bG' (fun pre ρ => ∃ y z, ρ = ⟨[some (.fz (.str L)), some (.fz (.lst ((subs pre).map .str))), y, z], w⟩ /\ Pl z) ⟨_, _, rfl, .inl rfl⟩ ?_ ?_
  . rintro pre c post _ e ⟨y, z, rfl, hz⟩
    have hp : pre.length <= 4 := by
      have := congrArg List.length e
      simp at this
      omega
    have hs : (subs pre).length <= 16 := by rw [iL']; exact Nat.pow_le_pow_right (by decide) hp
    have hx : ∀ x ∈ subs pre, x.length <= 4 := fun x hx => Nat.le_trans (iK' pre x hx).length_le hp
    have e2 : ((subs pre).map D.str) ++ (subs pre).map (fun x => D.str (x ++ [c])) = (subs (pre ++ [c])).map .str := by
      rw [eG', List.map_append, List.map_map]; rfl
    have hlen : ((subs pre).map D.str).length + ((subs pre).map (fun x => D.str (x ++ [c]))).length <= 16777216 := by simp only [List.length_map]; omega
    clear e
    walk_at "s"
    refine dG' (f := D.str) (cs := subs pre) (fun x => D.str (x ++ [c])) (by omega) ?_ ?_
    . intro x hx'
      have hxl := hx x hx'
      clear hx e2 hlen
      walk_at "s"
    walk_at "l"
    clear hx
    rw [uX', pb' hlen, e2]
    clear e2 hlen
    rcases hz with rfl | ⟨d, rfl⟩
    all_goals
      walk_at "s"
      exact ⟨_, _, rfl, by first | exact .inl rfl | exact .inr ⟨_, rfl⟩⟩
  . rintro _ ⟨y, z, rfl, hz⟩
    have hne : (subs L).map D.str ≠ [] := fun e => by
      have := congrArg List.length e
      rw [List.length_map, iL'] at this
      have := Nat.two_pow_pos L.length
      simp only [List.length_nil] at *
      omega
    walk_at "s"
    rw [tR' hne, List.map_dropLast]
def rp (d : D) : Prop := xq' d = true /\ dep d <= 40 /\ sk' d = true /\ o4' d <= 200000 /\ same d d = true
def gx (d : D) : Prop := plD d = true /\ dat d = true /\ dep d <= 3 /\ sk' d = true /\ o4' d <= 100
theorem rt' {L s : Tx} {c : Nat} (h : c ∈ s) (h2 : c ∉ L) : ltD L (.str s) = false := by
  show ((s.all fun c => decide (c ∈ L)) && _ && _) = false
  rw [show (s.all fun c => decide (c ∈ L)) = false by rw [List.all_eq_false]; exact ⟨c, h, by simpa using h2⟩]
  rfl
theorem jc' {L s : Tx} (h : ¬ s.Pairwise (· < ·)) : ltD L (.str s) = false := by
  show ((s.all fun c => decide (c ∈ L)) && decide (s.Pairwise (· < ·)) && _) = false
  rw [decide_eq_false h, Bool.and_false]
  rfl
theorem f0' {s : Tx} (h : s.length <= 1000) : rp (.str s) := ⟨rfl, by show 0 <= 40; decide, rfl, by show s.length <= 200000; omega, by simp [same]⟩
theorem oD' {w : W} {n : Nat} {L : Tx} (h : cR' w n) (hL : LetOk L 4) : wF (f__law_odd [.obj n, .str L] w) (fun o w' => ∃ d, o = .fz d /\ plD d = true /\ rp d /\ ltD L d = false /\ cR' w' n /\ But n w w') FX := by
  have hle := hL.le
  have hne := hL.ne
  have hasc := hL.asc
  unfold f__law_odd
  walk_at "f0"
  walk_at "s"
  refine kx' (f := fun c : Nat => D.str [c]) (cs := abc) (fun c => decide (c ∉ L)) (fun c => D.str [c]) (by decide) ?_ ?_
  . intro c hc
    walk_at "s"
    exact ⟨by simp, fun _ => trivial⟩
  walk_at "l"
  have ne : 1 <= ((abc.filter fun c => decide (c ∉ L)).map fun c => D.str [c]).length := by
    have : ¬ abc ⊆ L := fun hs => by
      have := List.Nodup.length_le_of_subset (show abc.Nodup by decide) hs
      have : 26 <= L.length := this
      omega
    rw [List.length_map]
    have ⟨c, hc, hc2⟩ : ∃ c ∈ abc, c ∉ L := Classical.byContradiction fun q => this fun c hc => Classical.byContradiction fun q2 => q ⟨c, hc, q2⟩
    exact List.length_pos_of_mem (List.mem_filter.mpr ⟨hc, decide_eq_true hc2⟩)
  have le : ((abc.filter fun c => decide (c ∉ L)).map fun c => D.str [c]).length <= 26 := by
    rw [List.length_map]
    exact List.length_filter_le ..
  have hm : ∀ d ∈ (abc.filter fun c => decide (c ∉ L)).map fun c => D.str [c], ∃ c, d = .str [c] /\ c ∉ L := by
    intro d hd
    obtain ⟨c, hc, rfl⟩ := List.mem_map.mp hd
    exact ⟨c, rfl, of_decide_eq_true (List.mem_filter.mp hc).2⟩
  generalize ((abc.filter fun c => decide (c ∉ L)).map fun c => D.str [c]) = sg at *
  walk_at "s"
  refine (a7' h (by omega) (by omega)).mono ?_
  rintro _ w1 ⟨q, rfl, hq, h1, b1⟩
  clear h
  walk_at "s"
  refine bI' (by omega) fun y hy _ => ?_
  obtain ⟨sgn1, rfl, hsg⟩ := hm y hy
  clear hy hm ne le hq
  walk_at "s"
  refine (a7' h1 (by omega) (by omega)).mono ?_
  rintro _ w2 ⟨a, rfl, ha, h2, b2⟩
  have b2 := b1.trans b2
  clear h1 b1
  have l2 : L.length * 2 <= 16777216 := by omega
  have l3 : (List.take 1 L).length * 2 <= 16777216 := by rw [List.length_take]; omega
  have l4 : L.reverse.length + L.length <= 16777216 := by rw [List.length_reverse]; omega
  walk_at "s"
  have good : ∀ y ∈ ([D.non, D.bl false, D.int 0, D.lst [], D.tup [], D.dct [] (frzs []), D.str L, D.str [L, L].flatten, D.str [List.take 1 L, List.take 1 L].flatten, D.str (List.reverse L ++ L), D.str [65], D.str [32]] : List D), plD y = true /\ rp y /\ ltD L y = false := by
    intro y hy
    have cne : L ≠ [] := fun e => by rw [e] at hne; exact absurd hne (by decide)
    obtain ⟨c, L', eL⟩ : ∃ c L', L = c :: L' := List.exists_cons_of_ne_nil cne
    simp only [List.mem_cons, List.not_mem_nil, or_false] at hy
    have nl : ∀ c, (c < 97 \/ 122 < c) -> ltD L (.str [c]) = false := fun c hc => rt' (c := c) (by simp) (fun hm => by have := hL.abc c hm; omega)
    rcases hy with rfl | rfl | rfl | rfl | rfl | rfl | rfl | rfl | rfl | rfl | rfl | rfl
    iterate 6 exact ⟨rfl, ⟨rfl, by decide, rfl, by decide, rfl⟩, rfl⟩
    . refine ⟨rfl, f0' (by omega), ?_⟩
      show (_ && !decide (L.length = L.length)) = false
      simp
    . refine ⟨rfl, f0' (by simp; omega), jc' fun q => ?_⟩
      rw [eL] at q
      simp only [List.flatten_cons, List.flatten_nil, List.append_nil, List.cons_append] at q
      have := (List.pairwise_cons.mp q).1 c (by simp)
      omega
    . refine ⟨rfl, f0' (by simp; omega), jc' fun q => ?_⟩
      rw [eL] at q
      simp at q
    . refine ⟨rfl, f0' (by simp; omega), jc' fun q => ?_⟩
      rw [eL, List.reverse_cons, List.append_assoc] at q
      have := (List.pairwise_append.mp q).2.1
      simp at this
    . exact ⟨rfl, f0' (by decide), nl 65 (by omega)⟩
    . exact ⟨rfl, f0' (by decide), nl 32 (by omega)⟩
  have lod : ([D.non, D.bl false, D.int 0, D.lst [], D.tup [], D.dct [] (frzs []), D.str L, D.str [L, L].flatten, D.str [List.take 1 L, List.take 1 L].flatten, D.str (List.reverse L ++ L), D.str [65], D.str [32]] : List D).length = 12 := rfl
  generalize ([D.non, D.bl false, D.int 0, D.lst [], D.tup [], D.dct [] (frzs []), D.str L, D.str [L, L].flatten, D.str [List.take 1 L, List.take 1 L].flatten, D.str (List.reverse L ++ L), D.str [65], D.str [32]] : List D) = od at *
  refine (a7' h2 (by omega) (by omega)).mono ?_
  rintro _ w3 ⟨way, rfl, hway, h3, b3⟩
  have b3 := b2.trans b3
  clear h2 b2 l2 l3 l4
  have good' := good
  clear good
  walk_at "s"
  refine bl' (fun c0 => ?_) (fun c0 => ?_)
  . have t1 : (L.take a).length + 1 <= 16777216 := by rw [List.length_take]; omega
    have t2 : (L.take a ++ [sgn1]).length + (L.drop (a + 1)).length <= 16777216 := by
      rw [List.length_append, List.length_take, List.length_drop, List.length_singleton]; omega
    have t3 : (L.take a ++ [sgn1] ++ L.drop (a + 1)).length <= 1000 := by
      rw [List.length_append, List.length_append, List.length_take, List.length_drop, List.length_singleton]; omega
    have e1 : ((a : Int) + 1).toNat = a + 1 := by omega
    have t4 : 0 <= (a : Int) + 1 := by omega
    clear good' lod
    walk_at "s"
    exact ⟨_, rfl, rfl, f0' t3, rt' (c := sgn1) (by simp) hsg⟩
  walk_at "s"
  have fin : wF (f__law_draw [.obj n, .int 12] w3) (fun o w' => ∃ d : Nat, o = .fz (.int (d : Nat)) /\ (d : Int) < 12 /\ cR' w' n /\ But n w w') FX := by
    refine (a7' h3 (by omega) (by omega)).mono ?_
    rintro _ w4 ⟨p, rfl, hp, h4, b4⟩
    exact ⟨p, rfl, hp, h4, b3.trans b4⟩
  refine bl' (fun c1 => ?_) (fun c1 => ?_)
  . walk_at "s"
    refine bl' (fun c2 => ?_) (fun c2 => ?_)
    . clear fin good' lod
      walk_at "s"
      have hl2 : 1 < L.length := by omega
      have i1 : L[1]? = some L[1] := List.getElem?_eq_getElem hl2
      have i0 : L[0]? = some L[0] := List.getElem?_eq_getElem (by omega)
      have lt : L[0] < L[1] := List.pairwise_iff_getElem.mp hasc 0 1 (by omega) hl2 (by decide)
      generalize L[1] = u1 at *
      generalize L[0] = u0 at *
      walk_at "s"
      refine ⟨_, rfl, rfl, f0' (by simp), jc' fun q => ?_⟩
      have := (List.pairwise_cons.mp q).1 u0 (by simp)
      omega
    . have good := good'
      clear good'
      walk_at "s"
      refine fin.mono ?_
      rintro _ w4 ⟨p, rfl, hp, h4, b4⟩
      clear h3 b3 fin
      walk_at "s"
      refine bI' (by omega) fun y hy _ => ?_
      obtain ⟨r1, r2, r3⟩ := good y hy
      exact ⟨_, rfl, r1, r2, r3, h4, b4⟩
  . have good := good'
    clear good'
    walk_at "s"
    refine fin.mono ?_
    rintro _ w4 ⟨p, rfl, hp, h4, b4⟩
    clear h3 b3 fin
    walk_at "s"
    refine bI' (by omega) fun y hy _ => ?_
    obtain ⟨r1, r2, r3⟩ := good y hy
    exact ⟨_, rfl, r1, r2, r3, h4, b4⟩
theorem o9' {w : W} {n : Nat} {L : Tx} {m : Nat} (h : cR' w n) (hl : 1 <= L.length) (hl2 : L.length < 1000) (hm : m < 100000) : wF (f__law_word [.obj n, .str L, .int m] w) (fun o w' => ∃ s : Tx, o = .fz (.str s) /\ s.length = m /\ (∀ c ∈ s, c ∈ L) /\ cR' w' n /\ But n w w') FX := by
  unfold f__law_word
  walk_at "f"
  refine ev' (fun k ρ => ∃ x w', ∃ s : Tx, ρ = ⟨[some (.fz (.obj n)), some (.fz (.str L)), some (.fz (.int m)), some (.fz (.str s)), x], w'⟩ /\ s.length = k /\ (∀ c ∈ s, c ∈ L) /\ cR' w' n /\ But n w w') ⟨_, _, _, rfl, rfl, by simp, h, But.refl⟩ ?_ ?_
  . rintro k _ hk ⟨x, w1, s, rfl, hs, hc, h1, b1⟩
    walk_at "s"
    refine (a7' h1 (by omega) (by omega)).mono ?_
    rintro _ w2 ⟨d, rfl, hd, h2, b2⟩
    walk_at "s"
    refine bI' (by omega) fun c hcL _ => ?_
    walk_at "s"
    exact ⟨_, _, s ++ [c], rfl, by simp [hs], by simpa [or_imp, forall_and] using ⟨hc, hcL⟩, h2, b1.trans b2⟩
  . rintro _ ⟨x, w1, s, rfl, hs, hc, h1, b1⟩
    walk_at "s"
    exact ⟨s, rfl, hs, hc⟩
theorem fh' {w : W} {m : Nat} {C : String} {L x : Tx} {T : List (List Nat)} {A : List Nat} (hW : WOk w) (h : MM w m C L T A) (hP : Pt L T) (hx : ltD L (.str x) = true) :
    wF (f_without [.obj m, .str x] w) (fun o w' => ∃ k T' A', o = .fz (.obj k) /\ MM w' k "RawMachine" (lvs L x) T' A' /\ Pt (lvs L x) T' /\ dr' (lvs L x) T' A' (fun z => run L T 0 z ∈ A) /\ WOk w' /\ Evo w w') FX := by
  have k1 := dm' h (d := .str x) rfl
  have k2 := lu' (x := x) hW h hP
  unfold f_without
  walk_at "f0"
  clear h hP hW
  walk_at "s"
  refine k1.monoX ?_ ?_
  . rintro _ _ ⟨_, rfl⟩
    clear k1
    walk_at "s"
  . rintro _ _ ⟨e, _⟩
    rw [hx] at e
    cases e
theorem oi' {w : W} {m : Nat} {C : String} {L : Tx} {T : List (List Nat)} {A : List Nat} {d : D} (h : MM w m C L T A) (hd : plD d = true) (hx : ltD L d = false) :
    wF (f_without [.obj m, d] w) (fun _ _ => False) (fun x w' => x = ⟨"NoLetters", []⟩ /\ w' = w) := by
  have k1 := dm' h hd
  unfold f_without
  walk_at "f0"
  clear h
  walk_at "s"
  refine k1.monoX ?_ ?_
  . rintro _ _ ⟨e, _⟩
    rw [hx] at e
    cases e
  . rintro _ _ ⟨_, rfl, rfl⟩
    exact ⟨rfl, rfl⟩
theorem qQ' {w : W} {m : Nat} {C : String} {L : Tx} {T : List (List Nat)} {A : List Nat} {d : D} (h : MM w m C L T A) (hd : plD d = true) (hx : ltD L d = false) :
    wF (f__law_is_refused [.obj m, d] w) (fun o w' => o = .fz (.bl true) /\ w' = w) FX := by
  have hs := oi' h hd hx
  unfold f__law_is_refused
  walk_at "f0"
  clear h hd hx
  walk_at "s"
  refine hs.monoX ?_ ?_
  . rintro _ _ h
    exact h.elim
  . rintro _ w ⟨rfl, rfl⟩
    clear hs
    rw [show sub exT "NoLetters" "SaidError" = some true by decide]
    have e1 : sub exI "NoLetters" "NoLetters" = some true := by decide
    walk_at "s"
structure St (w : W) (L : Tx) (T : List (List Nat)) (A : List Nat) : Prop where
  ok : WOk w
  hand : cR' w 0
  mac : MM w 1 "Machine" L T A
theorem St.evo {w w' : W} {L T A} (h : St w L T A) (hW : WOk w') (e : Evo w w') : St w' L T A := ⟨hW, e.hand _ h.hand, h.mac.evo e⟩
theorem St.but {w w' : W} {L T A} (h : St w L T A) (hh : cR' w' 0) (b : But 0 w w') : St w' L T A /\ Evo w w' := by
  obtain ⟨h1, h2⟩ := h.ok.but h.hand hh b
  exact ⟨h.evo h1 h2, h2⟩
theorem wJ' {w : W} {L T A} {m : Int} (h : St w L T A) (h1 : 0 < m) (h2 : m < 1606938044258990275541962092341162602522202993782792835301376) : wF (f__law_draw [.obj 0, .int m] w) (fun o w' => ∃ d : Nat, o = .fz (.int (d : Nat)) /\ (d : Int) < m /\ St w' L T A /\ Evo w w') FX := by
  refine (a7' h.hand h1 h2).mono ?_
  rintro _ w1 ⟨d, rfl, hd, hh, b⟩
  exact ⟨d, rfl, hd, h.but hh b⟩
theorem vb' {w : W} {L : Tx} {T A} {L' : Tx} {m : Nat} (h : St w L T A) (hl : 1 <= L'.length) (hl2 : L'.length < 1000) (hm : m < 100000) : wF (f__law_word [.obj 0, .str L', .int m] w) (fun o w' => ∃ s : Tx, o = .fz (.str s) /\ s.length = m /\ (∀ c ∈ s, c ∈ L') /\ St w' L T A /\ Evo w w') FX := by
  refine (o9' h.hand hl hl2 hm).mono ?_
  rintro _ w1 ⟨s, rfl, h1, h2, hh, b⟩
  exact ⟨s, rfl, h1, h2, h.but hh b⟩
theorem vB' {w2 : W} {L : Tx} {T : List (List Nat)} {A : List Nat} (h2 : cR' w2 0) (hl2 : w2.length = 1) : St (w2 ++ [mkM "Machine" L T A .non cS']) L T A := by
  have hw0 : WOk w2 := by
    obtain ⟨a, b, c, d, e, f, _⟩ := h2
    match w2, hl2, f with
    | [x], _, f =>
      have : x = _ := Option.some.inj f
      subst this
      exact .one
  have := MM.new (w := w2) (C := "Machine") (L := L) (T := T) (A := A) (l := .non) (.inl rfl) Rs.z
  rw [hl2] at this
  exact ⟨hw0.mach.1, h2.snoc, this⟩
theorem oy' {r : List D} {s : Tx} (h : r.Perm (s.map chD)) : ∃ l : Tx, r = l.map chD /\ (∀ c, c ∈ l ↔ c ∈ s) /\ (s.Nodup -> l.Nodup) := by
  have inj : ∀ {a b : Nat}, chD a = chD b -> a = b := fun e => by cases e; rfl
  have : ∀ r : List D, (∀ d ∈ r, ∃ c, d = chD c) -> ∃ l : Tx, r = l.map chD := by
    intro r
    induction r with
    | nil => exact fun _ => ⟨[], rfl⟩
    | cons d r ih =>
      intro hr
      obtain ⟨c, rfl⟩ := hr d (by simp)
      obtain ⟨l, rfl⟩ := ih fun e he => hr e (by simp [he])
      exact ⟨c :: l, rfl⟩
  obtain ⟨l, rfl⟩ := this r fun d hd => by
    obtain ⟨c, _, rfl⟩ := List.mem_map.mp (h.mem_iff.mp hd)
    exact ⟨c, rfl⟩
  refine ⟨l, rfl, fun c => ?_, fun hn => ?_⟩
  . have := h.mem_iff (a := chD c)
    simp only [List.mem_map] at this
    constructor
    . intro hc
      obtain ⟨d, hd, e⟩ := this.mp ⟨c, hc, rfl⟩
      exact inj e ▸ hd
    . intro hc
      obtain ⟨d, hd, e⟩ := this.mpr ⟨c, hc, rfl⟩
      exact inj e ▸ hd
  . have h2 : (l.map chD).Nodup := h.nodup_iff.mpr (List.pairwise_map.mpr (hn.imp fun hne e => hne (inj e)))
    exact (List.pairwise_map.mp h2).imp fun hne e => hne (by rw [e])
theorem wf' {L : Tx} : lvs L [] = L := by unfold lvs; simp
theorem ti' {L p : Tx} {c : Nat} : lvs (lvs L p) [c] = lvs L (p ++ [c]) := by
  unfold lvs
  rw [List.filter_filter]
  refine List.filter_congr fun a _ => ?_
  rw [Bool.eq_iff_iff]
  simp [and_comm]
theorem rs' {L p q : Tx} (h : ∀ c, c ∈ p ↔ c ∈ q) : lvs L p = lvs L q := by
  unfold lvs
  refine List.filter_congr fun a _ => ?_
  rw [Bool.eq_iff_iff]
  simp [h]
theorem law_true (ns : List Int) (hl : ns.length <= 63) : ∃ w, f_law [.scr (ns.map .int)] [] = .ok (.fz (.bl true)) w := by
  suffices h : wF (f_law [.scr (ns.map .int)] []) (fun o _ => o = .fz (.bl true)) FX by
    obtain ⟨o, w, e, rfl⟩ := h.exi
    exact ⟨w, e⟩
  unfold f_law
  walk_at "f"
  refine (rP' hl).mono ?_
  rintro _ w1 ⟨rfl, h1, hl1, -⟩
  change cR' w1 0 at h1
  walk_at "s"
  refine (ke' (most := 4) (states := 6) h1 (by omega) (by omega) (by omega) (by omega)).mono ?_
  rintro _ w2 ⟨L, T, A, rfl, hM, h2, b2⟩
  have hl2 : w2.length = 1 := b2.1.trans hl1
  have hP : Pt L T := hM.pt (by decide) (by decide)
  have hAc := hM.acc
  have hT := hM.tab
  have hn6 := hM.le
  have hLet := hM.let'
  clear h1 b2
  walk_at "s"
  refine (yJ' hl2 hM (by omega)).mono ?_
  rintro _ _ ⟨rfl, rfl⟩
  have hst : St (w2 ++ [mkM "Machine" L T A .non cS']) L T A := vB' h2 hl2
  rw [hl2]
  generalize w2 ++ [mkM "Machine" L T A .non cS'] = w3 at hst
  clear h2 hl2 hl1 w2 hM
  have hLn := hLet.ne
  have hLm := hLet.le
  walk_at "s"
  refine (k6' hLm w3).mono ?_
  rintro _ _ ⟨rfl, rfl⟩
  rename_i w3
  have hsub : ∀ x ∈ (subs L).dropLast, x.Sublist L /\ x.length < L.length := fun x hx => ⟨iK' L x (List.dropLast_subset _ hx), qq' L x hx⟩
  generalize (subs L).dropLast = lots at hsub
  walk_at "s"
  refine bG' (f := D.str) (cs := lots) (fun _ ρ => ∃ x6 x7 x8 x9 x10 x11 x12 x13 x14 x15 x16 x17 x18 w', ρ = ⟨[some (.fz (.scr (ns.map .int))), some (.fz (.obj 0)), some (.fz (.str L)), some (.fz (cy' T)), some (.fz (dg' A)), some (.fz (.obj 1)), x6, x7, x8, x9, x10, x11, x12, x13, x14, x15, x16, x17, x18], w'⟩ /\ St w' L T A /\ Pl x14 /\ Pl x17 /\ Pl x18) ⟨_, _, _, _, _, _, _, _, _, _, _, _, _, _, rfl, hst, .inl rfl, .inl rfl, .inl rfl⟩ ?_ ?_
  . clear hst w3
    rintro _ lot _ _ elot ⟨x6, x7, x8, x9, x10, x11, x12, x13, x14, x15, x16, x17, x18, w4, rfl, s4, p14, p17, p18⟩
    obtain ⟨hsl, hll⟩ := hsub lot (by rw [elot]; simp)
    clear elot hsub lots
    have hlotL : ∀ c ∈ lot, c ∈ L := fun c hc => hsl.subset hc
    have hPS := hP.lvs (x := lot)
    have hrl := fun r (hr : r ∈ T) => (hT.2 r hr).1
    have hKm := fun c (hc : c ∈ lvs L lot) => jl' (dF' c hc)
    have hKi := fun c (hc : c ∈ lvs L lot) => List.idxOf_lt_length_iff.mpr (dF' c hc)
    have hKl : (lvs L lot).length <= 4 := Nat.le_trans (List.length_filter_le ..) hLm
    have q14 := p14.keep
    have q17 := p17.keep
    have q18 := p18.keep
    walk_at "s"
    refine kx' (fun c => decide (c ∉ lot)) (fun c => D.str [c]) (by omega) ?_ ?_
    . intro c hc
      walk_at "s"
      exact ⟨by simp, fun _ => trivial⟩
    walk_at "l"
    rw [show ((L.filter fun c => decide (c ∉ lot)).map fun c => D.str [c]) = (lvs L lot).map chD from rfl]
    walk_at "s"
    refine dG' (fun c => D.int (L.idxOf c : Nat)) (by omega) ?_ ?_
    . intro c hc
      have h6 := hKm c hc
      clear hKm hKi
      walk_at "s"
    walk_at "l"
    clear hKm
    walk_at "s"
    have e9 : T.map (fun r => D.lst ((lvs L lot).map fun c => D.int ((r[L.idxOf c]?).getD 0 : Nat))) = (jx' L (lvs L lot) T).map uJ' := by
      unfold jx' uJ'
      simp
    refine ga' (by omega) (fun pre acc ρ => acc = pre.map (fun r => D.lst ((lvs L lot).map fun c => D.int ((r[L.idxOf c]?).getD 0 : Nat))) /\ ∃ o8 y17 y18, ρ = ⟨[some (.fz (.scr (ns.map .int))), some (.fz (.obj 0)), some (.fz (.str L)), some (.fz (cy' T)), some (.fz (dg' A)), some (.fz (.obj 1)), some (.fz (.str lot)), some (.fz (.str (lvs L lot))), some o8, x9, x10, x11, x12, x13, x14, x15, x16, y17, y18], w4⟩ /\ Hd o8 ((lvs L lot).map fun c => D.int (L.idxOf c : Nat)) /\ Pl y18) ⟨rfl, _, _, _, rfl, .inl rfl, p18⟩ ?_ ?_
    . rintro pre r post acc _ e ⟨rfl, o8, y17, y18, rfl, h8, hy18⟩
      have hr1 := hrl r (by rw [e]; simp)
      have qy18 := hy18.keep
      clear hrl e
      rcases h8 with rfl | rfl
      all_goals
        walk_at "s"
        refine dG' (f := fun c => D.int (L.idxOf c : Nat)) (cs := lvs L lot) (fun c => D.int ((r[L.idxOf c]?).getD 0 : Nat)) (by omega) ?_ ?_
        . intro c hc
          have hi := hKi c hc
          have hg : r[L.idxOf c]? = some ((r[L.idxOf c]?).getD 0) := by rw [List.getElem?_eq_getElem (by omega)]; rfl
          generalize (r[L.idxOf c]?).getD 0 = t at hg ⊢
          clear hKi
          walk_at "s"
        walk_at "l"
        clear hKi
        walk_at "s"
        refine ⟨?_, _, _, _, rfl, by first | exact .inl rfl | exact .inr rfl, hy18⟩
        rw [List.map_append]
        rfl
    rintro _ _ ⟨rfl, o8, y17, y18, rfl, h8, hy18⟩
    have qy18 := hy18.keep
    rw [e9]
    clear e9 hKi hrl
    walk_at "s"
    refine (hP' (eB'.lst (jx' L (lvs L lot) T)) (eE'.acc A) hPS.tab hPS.nd hPS.ll hPS.ne (by have := hPS.le; omega) w4).mono ?_
    rintro _ _ ⟨⟨c, T1, A1, hI, rfl⟩, rfl⟩
    rename_i w4
    have hlx : ltD L (.str lot) = true := by
      show ((lot.all fun c => decide (c ∈ L)) && decide (lot.Pairwise (· < ·)) && !decide (lot.length = L.length)) = true
      rw [decide_eq_true (hLet.asc.sublist hsl), decide_eq_false (by omega), List.all_eq_true.mpr fun c hc => decide_eq_true (hlotL c hc)]
      rfl
    have hC1 : dr' (lvs L lot) T1 A1 (fun z => run L T 0 z ∈ A) := dr'.of hPS.tab hPS.ne hI fun z hz => by rw [iH' hT dF' (Nat.lt_of_lt_of_le Nat.zero_lt_one hP.ne) hz]
    clear hI
    walk_at "s"
    refine (fh' s4.ok s4.mac hP hlx).mono ?_
    rintro _ w5 ⟨k, T2, A2, rfl, hM2, hP2, hC2, hW2, hE2⟩
    obtain ⟨e1, e2⟩ := hC1.uniq hPS.nd hC2 fun _ _ => Iff.rfl
    subst e1 e2
    have s5 := s4.evo hW2 hE2
    clear s4 hE2 hW2
    walk_at "s"
    refine (e0' hM2 hP2.tab (by have := hP2.le; omega) (by omega) hC2.acc).mono ?_
    rintro _ _ ⟨rfl, rfl⟩
    rename_i w5
    walk_at "s"
    refine (wJ' s5 (by omega) (by omega)).mono ?_
    rintro _ w6 ⟨n1, rfl, hn1, s6, e6⟩
    have hM3 := hM2.evo e6
    clear s5 hM2 e6
    walk_at "s"
    have hK1 : 1 <= (lvs L lot).length := by
      have : ¬ L ⊆ lot := fun hs => by
        have := List.Nodup.length_le_of_subset hP.nd hs
        omega
      have ⟨c, hc, hc2⟩ : ∃ c ∈ L, c ∉ lot := Classical.byContradiction fun q => this fun c hc => Classical.byContradiction fun q2 => q ⟨c, hc, q2⟩
      exact List.length_pos_of_mem (eq'.mpr ⟨hc, hc2⟩)
    refine (vb' s6 hK1 (by omega) (by omega)).mono ?_
    rintro _ w7 ⟨z, rfl, lz, hz, s7, e7⟩
    have hM4 := hM3.evo e7
    clear s6 hM3 e7
    walk_at "s"
    refine (qI' hM4 hP2 hz).mono ?_
    rintro _ _ ⟨rfl, rfl⟩
    rename_i w7
    walk_at "s"
    refine (qI' s7.mac hP (fun c hc => dF' c (hz c hc))).mono ?_
    rintro _ _ ⟨rfl, rfl⟩
    rename_i w7
    have esay : decide (run (lvs L lot) T1 0 z ∈ A1) = decide (run L T 0 z ∈ A) := by
      rw [decide_eq_decide, hC2.says hz]
    rw [esay]
    clear esay
    walk_at "s"
    refine (c6' s7.hand (l := lot.map chD) (by rw [List.length_map]; omega)).mono ?_
    rintro _ w8 ⟨r, rfl, hr, h8', b8⟩
    obtain ⟨s8, e8⟩ := s7.but h8' b8
    have hM5 := hM4.evo e8
    clear s7 h8' b8 e8 hM4
    obtain ⟨l, rfl, hl1, hl2⟩ := oy' hr
    clear hr
    have hln := hl2 (hP.nd.sublist hsl)
    walk_at "s"
    refine bG' (f := chD) (cs := l) (fun pre ρ => ∃ j y14 w', ρ = ⟨[some (.fz (.scr (ns.map .int))), some (.fz (.obj 0)), some (.fz (.str L)), some (.fz (cy' T)), some (.fz (dg' A)), some (.fz (.obj 1)), some (.fz (.str lot)), some (.fz (.str (lvs L lot))), some o8, some (.fz (cy' T1)), some (.fz (dg' A1)), some (.fz (.obj k)), some (.fz (.str z)), some (.fz (.obj j)), y14, x15, x16, x17, y18], w'⟩ /\ Pl y14 /\ St w' L T A /\ MM w' k "RawMachine" (lvs L lot) T1 A1 /\ ∃ C T3 A3, MM w' j C (lvs L pre) T3 A3 /\ Pt (lvs L pre) T3 /\ (∀ z : Tx, (∀ c ∈ z, c ∈ lvs L pre) -> (run (lvs L pre) T3 0 z ∈ A3 ↔ run L T 0 z ∈ A)) /\ (pre ≠ [] -> C = "RawMachine" /\ dr' (lvs L pre) T3 A3 (fun z => run L T 0 z ∈ A))) ?_ ?_ ?_
    . refine ⟨_, _, _, rfl, p14, s8, hM5, "Machine", T, A, ?_⟩
      rw [wf']
      exact ⟨s8.mac, hP, fun _ _ => Iff.rfl, fun h => absurd rfl h⟩
    . clear hM5 s8
      rintro pre c post _ ec ⟨j, y14, w9, rfl, hy14, s9, hM9, C, T3, A3, hMj, hPj, hlang, -⟩
      have hcl : c ∈ lot := (hl1 c).mp (by rw [ec]; simp)
      have hcp : c ∉ pre := fun q => by
        rw [ec] at hln
        have := (List.nodup_append.mp hln).2.2
        exact this c q c (by simp) rfl
      have hpl : ∀ b ∈ pre, b ∈ lot := fun b hb => (hl1 b).mp (by rw [ec]; simp [hb])
      have hcm : c ∈ lvs L pre := eq'.mpr ⟨hlotL c hcl, hcp⟩
      obtain ⟨b, hb⟩ := List.exists_mem_of_length_pos (Nat.lt_of_lt_of_le Nat.zero_lt_one hK1)
      obtain ⟨hb1, hb2⟩ := eq'.mp hb
      have hbm : b ∈ lvs L pre := eq'.mpr ⟨hb1, fun q => hb2 (hpl b q)⟩
      have hltc : ltD (lvs L pre) (.str [c]) = true := by
        show (([c].all fun c => decide (c ∈ lvs L pre)) && decide ([c].Pairwise (· < ·)) && !decide ([c].length = (lvs L pre).length)) = true
        rw [decide_eq_true (List.pairwise_singleton ..), List.all_eq_true.mpr fun d hd => decide_eq_true (by rw [List.mem_singleton.mp hd]; exact hcm), decide_eq_false fun e => ?_]
        . rfl
        . obtain ⟨d, ed⟩ := List.length_eq_one_iff.mp e.symm
          rw [ed] at hbm hcm
          have h1 := List.mem_singleton.mp hbm
          have h2 := List.mem_singleton.mp hcm
          exact hb2 (by rw [h1, <- h2]; exact hcl)
      clear ec
      walk_at "s"
      refine (fh' s9.ok hMj hPj hltc).mono ?_
      rintro _ w10 ⟨j', T4, A4, rfl, hMn, hPn, hCn, hWn, hEn⟩
      rw [ti'] at hMn hPn hCn
      walk_at "s"
      have hCn' : dr' (lvs L (pre ++ [c])) T4 A4 (fun z => run L T 0 z ∈ A) := by
        obtain ⟨U, B, c', u1, u2, u3, u4⟩ := hCn
        exact ⟨U, B, c', u1, u2, u3, fun z hz => by rw [u4 z hz]; exact hlang z fun d hd => eq'.mpr ⟨(eq'.mp (hz d hd)).1, fun q => (eq'.mp (hz d hd)).2 (by simp [q])⟩⟩
      exact ⟨_, _, _, rfl, .inr ⟨_, rfl⟩, s9.evo hWn hEn, hM9.evo hEn, _, T4, A4, hMn, hPn, fun z hz => hCn'.says hz, fun _ => ⟨rfl, hCn'⟩⟩
    rintro _ ⟨j, y14, w9, rfl, hy14, s9, hM9, C, T3, A3, hMj, hPj, hlang, hcan⟩
    clear hM5 s8
    refine qz' (fun ρ => ρ = ⟨[some (.fz (.scr (ns.map .int))), some (.fz (.obj 0)), some (.fz (.str L)), some (.fz (cy' T)), some (.fz (dg' A)), some (.fz (.obj 1)), some (.fz (.str lot)), some (.fz (.str (lvs L lot))), some o8, some (.fz (cy' T1)), some (.fz (dg' A1)), some (.fz (.obj k)), some (.fz (.str z)), some (.fz (.obj j)), y14, x15, x16, x17, y18], w9⟩) ?_ ?_
    . by_cases hlot : lot = []
      . have e0 : decide (lot = []) = true := decide_eq_true hlot
        clear hcan hlang
        walk_at "s"
      . have e0 : decide (lot = []) = false := decide_eq_false hlot
        obtain ⟨b, hb⟩ := List.exists_mem_of_ne_nil _ hlot
        obtain ⟨rfl, hCj⟩ := hcan (fun q => by have := (hl1 b).mpr hb; rw [q] at this; cases this)
        rw [rs' hl1] at hMj hPj hCj
        obtain ⟨e1, e2⟩ := hCj.uniq hPS.nd hC2 fun _ _ => Iff.rfl
        subst e1 e2
        clear hcan hlang hlot hb
        walk_at "s"
        refine ⟨rN' hMj hM9 (by decide), ?_⟩
        refine (zd' hMj hM9).mono ?_
        rintro _ _ ⟨rfl, rfl⟩
        refine ⟨_, rfl, ?_⟩
        walk_at "s"
    rintro _ rfl
    clear hMj hPj hlang hcan
    walk_at "s"
    refine (oD' s9.hand hLet).mono ?_
    rintro _ w10 ⟨d, rfl, pd, ⟨z1, z2, z3, z4, z5⟩, gd, h10, b10⟩
    obtain ⟨s10, e10⟩ := s9.but h10 b10
    have hM10 := hM9.evo e10
    clear s9 hM9 h10 b10 e10
    walk_at "s"
    rw [n7', iE' ⟨z1, z2, z3, z4⟩]
    walk_at "s"
    refine (qQ' s10.mac pd gd).mono ?_
    rintro _ _ ⟨rfl, rfl⟩
    rename_i w10
    walk_at "s"
    rw [n7', iE' ⟨z1, z2, z3, z4⟩]
    walk_at "s"
    rw [BU', iE' z5]
    walk_at "s"
    refine (fh' s10.ok s10.mac hP hlx).mono ?_
    rintro _ w11 ⟨k2, T5, A5, rfl, hM11, hP5, hC5, hW5, hE5⟩
    obtain ⟨e1, e2⟩ := hC2.uniq hPS.nd hC5 fun _ _ => Iff.rfl
    subst e1 e2
    have s11 := s10.evo hW5 hE5
    have hM12 := hM10.evo hE5
    clear s10 hM10 hE5 hW5
    walk_at "s"
    refine ⟨rN' hM11 hM12 (by decide), ?_⟩
    refine (zd' hM11 hM12).mono ?_
    rintro _ _ ⟨rfl, rfl⟩
    refine ⟨_, rfl, ?_⟩
    walk_at "s"
    exact ⟨_, _, _, _, _, _, _, _, _, _, _, _, _, _, rfl, s11, hy14, p17, hy18⟩
  . rintro _ ⟨x6, x7, x8, x9, x10, x11, x12, x13, x14, x15, x16, x17, x18, w4, rfl, s4, p14, p17, p18⟩
    walk_at "s"
    refine (e0' s4.mac hT (by omega) (by omega) hAc).mono ?_
    rintro _ _ ⟨rfl, rfl⟩
    walk_at "s"
end
end M
namespace S
open PySem PySem.Spec PyProof.Rows L2
section
variable [Wd] {K : PySem.W.Frag} {mg : Str -> Option Value} {base : Heap}
theorem i1' (C : Ctx Wd.w K mg) : Og Wd.P Wd.w K mg base 1 "is_integer" ["thing"] (spM K M.f_is_integer) := by
  obtain ⟨fd, F⟩ := C.f_is_integer
  exact ⟨fd, okM F iR' rfl rfl (fun cdv A outer s H E hr =>
    (ae' (az' (bf' (qF' (j7' "int" (by decide) rfl (C.free_isinstance) (by decide +kernel) (ac' (pv 0)) (pe_bltn (v := .ty "int") rfl (C.free_int) (by decide +kernel) rfl)) (qA' (x9' (j7' "bool" (by decide) rfl (C.free_isinstance) (by decide +kernel) (ac' (pv 0)) (pe_bltn (v := .ty "bool") rfl (C.free_bool) (by decide +kernel) rfl))))))))), k7' F, F.kp, C.g_is_integer⟩
theorem dA' (C : Ctx Wd.w K mg) : Og Wd.P Wd.w K mg base 1 "is_string_of" ["thing", "signs"] (spM K M.f_is_string_of) := by
  obtain ⟨fd, F⟩ := C.f_is_string_of
  exact ⟨fd, okM F du' rfl rfl (fun cdv A outer s H E hr =>
    (ab' (bx' (cn' (nm' (j7' "str" (by decide) rfl (C.free_isinstance) (by decide +kernel) (ac' (pv 0)) (pe_bltn (v := .ty "str") rfl (C.free_str) (by decide +kernel) rfl)))) (ae' (az' (bf' cX'))) aU')
      (ab' (bJ' (passes_of rfl) rfl (a6' (ac' (pv 0))) (cg' 2 du'.nd rfl (by walk_at "1") (by walk_at "2")) (ae' (bx' (aT' dz' g3' (by rfl) (ac' (pv 2)) (ac' (pv 1))) (ae' (az' (bf' cX'))) aU')))
      (ae' (az' (bf' cX')))))), hQ' F, F.kp, C.g_is_string_of⟩
theorem dB' (C : Ctx Wd.w K mg) : Og Wd.P Wd.w K mg base 1 "is_ascending" ["thing"] (spM K M.f_is_ascending) := by
  obtain ⟨fd, F⟩ := C.f_is_ascending
  exact ⟨fd, okM F cC' rfl rfl (fun cdv A outer s H E hr =>
    (ab' (bJ' (passes_of rfl) rfl (x8' rfl (C.free_zip) (ac' (pv 0)) (lv' vF' wb' (ac' (pv 0)) (lo' af') lp')) (Ai' (n := 2) rfl rfl rfl rfl (cq' rfl (cg' 1 cC'.nd rfl (by walk_at "1") (by walk_at "2")) (cq' rfl (cg' 2 cC'.nd rfl (by walk_at "1") (by walk_at "2")) iQ'))) (ae' (bx' (aT' nK' Av' (nomark _) (ac' (pv 1)) (ac' (pv 2))) (ae' (az' (bf' cX'))) aU')))
      (ae' (az' (bf' cX'))))), hR' F, F.kp, C.g_is_ascending⟩
theorem f5' (C : Ctx Wd.w K mg) : Og Wd.P Wd.w K mg base 2 "is_choice" ["thing", "signs"] (spM K M.f_is_choice) := by
  obtain ⟨fd, F⟩ := C.f_is_choice
  exact ⟨fd, okM F j8' rfl rfl (fun cdv A outer s H E hr =>
    (ae' (az' (bf' (qF' (cv' (aj' (dA' C) (hr.mono (by walk_at "4")) rfl (takes_of rfl rfl rfl rfl) (aa' (ac' (pv 0)) (aa' (ac' (pv 1)) ag')))) (qA' (cv' (aj' (dB' C) (hr.mono (by walk_at "4")) rfl (takes_of rfl rfl rfl rfl) (aa' (ac' (pv 0)) ag'))))))))), l9' F, F.kp, C.g_is_choice⟩
theorem oC' (C : Ctx Wd.w K mg) : Og Wd.P Wd.w K mg base 2 "is_word" ["machine", "thing"] (spM K M.f_is_word) := by
  obtain ⟨fd, F⟩ := C.f_is_word
  exact ⟨fd, okM F ot' rfl rfl (fun cdv A outer s H E hr =>
    (ae' (az' (aj' (dA' C) (hr.mono (by walk_at "4")) rfl (takes_of rfl rfl rfl rfl) (aa' (ac' (pv 1)) (aa' (bz' ["Machine", "RawMachine"] (ac' (pv 0)) C.at_kept_letters) ag')))))), r9' F, F.kp, C.g_is_word⟩
theorem i2' (C : Ctx Wd.w K mg) : Og Wd.P Wd.w K mg base 3 "check_word" ["machine", "thing"] (spM K M.f_check_word) := by
  obtain ⟨fd, F⟩ := C.f_check_word
  exact ⟨fd, okM F iS' rfl rfl (fun cdv A outer s H E hr =>
    (ae' (bx' (cn' (nm' (cv' (aj' (oC' C) (hr.mono (by walk_at "4")) rfl (takes_of rfl rfl rfl rfl) (aa' (ac' (pv 0)) (aa' (ac' (pv 1)) ag')))))) (ae' (no' rfl (takes_of rfl rfl rfl rfl) (nE' PySem.F.excBase_ValueError C.x_NoWord C.g_NoWord C.k_NoWord C.r_NoWord rfl))) aU'))), k8' F, F.kp, C.g_check_word⟩
theorem gm' (C : Ctx Wd.w K mg) : Og Wd.P Wd.w K mg base 3 "check_letters" ["machine", "thing"] (spM K M.f_check_letters) := by
  obtain ⟨fd, F⟩ := C.f_check_letters
  exact ⟨fd, okM F gj' rfl rfl (fun cdv A outer s H E hr =>
    (ae' (bx' (qs' (iI' (cn' (nm' (cv' (aj' (f5' C) (hr.mono (by walk_at "4")) rfl (takes_of rfl rfl rfl rfl) (aa' (ac' (pv 1)) (aa' (bz' ["Machine", "RawMachine"] (ac' (pv 0)) C.at_kept_letters) ag')))))) (gL' (aT' (b9' hr.units) km' (nomark _) (cj' (aW' ⟨rfl, rfl⟩) dp' rfl (C.free_len) (by decide +kernel) (ac' (pv 1))) (cj' (aW' ⟨rfl, rfl⟩) dp' rfl (C.free_len) (by decide +kernel) (bz' ["Machine", "RawMachine"] (ac' (pv 0)) C.at_kept_letters)))))) (ae' (no' rfl (takes_of rfl rfl rfl rfl) (nE' PySem.F.excBase_ValueError C.x_NoLetters C.g_NoLetters C.k_NoLetters C.r_NoLetters rfl))) aU'))), hA' F, F.kp, C.g_check_letters⟩
theorem eT' (C : Ctx Wd.w K mg) : Og Wd.P Wd.w K mg base 2 "are_states" ["thing", "many"] (spM K M.f_are_states) := by
  obtain ⟨fd, F⟩ := C.f_are_states
  exact ⟨fd, okM F eK' rfl rfl (fun cdv A outer s H E hr =>
    (ab' (bx' (cn' (nm' (j7' "tuple" (by decide) rfl (C.free_isinstance) (by decide +kernel) (ac' (pv 0)) (pe_bltn (v := .ty "tuple") rfl (C.free_tuple) (by decide +kernel) rfl)))) (ae' (az' (bf' cX'))) aU')
      (ab' (bJ' (passes_of rfl) rfl (a6' (ac' (pv 0))) (cg' 2 eK'.nd rfl (by walk_at "1") (by walk_at "2")) (ae' (bx' (qs' (iI' (cn' (nm' (cv' (aj' (i1' C) (hr.mono (by walk_at "4")) rfl (takes_of rfl rfl rfl rfl) (aa' (ac' (pv 2)) ag'))))) (iI' (aT' kh' yG' (nomark _) (ac' (pv 2)) af') (gL' (aT' nK' Av' (nomark _) (ac' (pv 2)) (ac' (pv 1))))))) (ae' (az' (bf' cX'))) aU')))
      (ae' (az' (bf' cX')))))), k9' F, F.kp, C.g_are_states⟩
theorem lG' (C : Ctx Wd.w K mg) : Og Wd.P Wd.w K mg base 3 "is_table" ["thing", "letters"] (spM K M.f_is_table) := by
  obtain ⟨fd, F⟩ := C.f_is_table
  exact ⟨fd, okM F gQ' rfl rfl (fun cdv A outer s H E hr =>
    (ab' (bx' (qs' (iI' (cn' (nm' (j7' "tuple" (by decide) rfl (C.free_isinstance) (by decide +kernel) (ac' (pv 0)) (pe_bltn (v := .ty "tuple") rfl (C.free_tuple) (by decide +kernel) rfl)))) (gL' (cn' (nn' nI' At' nI' At' af' (cj' (aW' ⟨rfl, rfl⟩) dp' rfl (C.free_len) (by decide +kernel) (ac' (pv 0))) af'))))) (ae' (az' (bf' cX'))) aU')
      (ab' (bJ' (passes_of rfl) rfl (a6' (ac' (pv 0))) (cg' 2 gQ'.nd rfl (by walk_at "1") (by walk_at "2")) (ae' (bx' (qs' (iI' (cn' (nm' (cv' (aj' (eT' C) (hr.mono (by walk_at "4")) rfl (takes_of rfl rfl rfl rfl) (aa' (ac' (pv 2)) (aa' (cj' (aW' ⟨rfl, rfl⟩) dp' rfl (C.free_len) (by decide +kernel) (ac' (pv 0))) ag')))))) (gL' (aT' (nH' hr.units) Bx' (nomark _) (cj' (aW' ⟨rfl, rfl⟩) dp' rfl (C.free_len) (by decide +kernel) (ac' (pv 2))) (cj' (aW' ⟨rfl, rfl⟩) dp' rfl (C.free_len) (by decide +kernel) (ac' (pv 1))))))) (ae' (az' (bf' cX'))) aU')))
      (ae' (az' (bf' cX')))))), oX' F, F.kp, C.g_is_table⟩
theorem dD' (C : Ctx Wd.w K mg) : OgM Wd.P Wd.w K mg base 1 (He.ga K "Machine") "keep" ["self", "letters", "table", "accepts"] (spM K M.f_Machine_keep) := by
  obtain ⟨fd, F⟩ := C.f_Machine_keep
  exact ⟨fd, okM F gR' rfl rfl (fun cdv A outer s H E hr =>
    (ab' (eH' ["Machine", "RawMachine"] (ac' (pv 0)) (bf' (ac' (pv 1))) C.at_kept_letters)
      (ab' (eH' ["Machine", "RawMachine"] (ac' (pv 0)) (bf' (ac' (pv 2))) C.at_kept_table)
      (ab' (eH' ["Machine", "RawMachine"] (ac' (pv 0)) (bf' (ac' (pv 3))) C.at_kept_accepts)
      (ab' (eH' ["Machine", "RawMachine"] (ac' (pv 0)) (bf' nt') C.at_kept_least)
      (ab' (eH' ["Machine", "RawMachine"] (ac' (pv 0)) (bf' nt') C.at_kept_field)
      (ab' (eH' ["Machine", "RawMachine"] (ac' (pv 0)) c5' C.at_kept_lots)
      (ae' (eH' ["Machine", "RawMachine"] (ac' (pv 0)) c5' C.at_kept_more))))))))), hW' F⟩
theorem eo' (C : Ctx Wd.w K mg) : OgM Wd.P Wd.w K mg base 4 (He.ga K "Machine") "__init__" ["self", "letters", "table", "accepts"] (spM K M.f_Machine___init__) := by
  obtain ⟨fd, F⟩ := C.f_Machine___init__
  exact ⟨fd, okM F el' rfl rfl (fun cdv A outer s H E hr =>
    (ab' (bx' (qs' (iI' (cn' (nm' (cv' (aj' (f5' C) (hr.mono (by walk_at "4")) rfl (takes_of rfl rfl rfl rfl) (aa' (ac' (pv 1)) (aa' (De' (vZ' rfl C.c_SMALL) fun _ _ => y6' (by decide +kernel) (by decide +kernel)) ag')))))) (gL' (cn' (nn' nI' At' nI' At' af' (cj' (aW' ⟨rfl, rfl⟩) dp' rfl (C.free_len) (by decide +kernel) (ac' (pv 1))) af'))))) (ae' ln') aU')
      (ab' (bx' (cn' (nm' (cv' (aj' (lG' C) (hr.mono (by walk_at "4")) rfl (takes_of rfl rfl rfl rfl) (aa' (ac' (pv 2)) (aa' (ac' (pv 1)) ag')))))) (ae' ln') aU')
      (ab' (bx' (qs' (iI' (cn' (nm' (cv' (aj' (eT' C) (hr.mono (by walk_at "4")) rfl (takes_of rfl rfl rfl rfl) (aa' (ac' (pv 3)) (aa' (cj' (aW' ⟨rfl, rfl⟩) dp' rfl (C.free_len) (by decide +kernel) (ac' (pv 2))) ag')))))) (gL' (cn' (nm' (cv' (aj' (dB' C) (hr.mono (by walk_at "4")) rfl (takes_of rfl rfl rfl rfl) (aa' (ac' (pv 3)) ag')))))))) (ae' ln') aU')
      (ae' (fs' (cv' (qv' (ac' (pv 0)) (dD' C) (hr.mono (by decide)) C.ml_Machine_keep (takes_of rfl rfl rfl rfl) (aa' (ac' (pv 1)) (aa' (ac' (pv 2)) (aa' (ac' (pv 3)) ag'))))))))))), fc' F⟩
theorem eV' (C : Ctx Wd.w K mg) : OgM Wd.P Wd.w K mg base 1 (He.ga K "Machine") "letters" ["self"] (spM K M.f_Machine_letters) := by
  obtain ⟨fd, F⟩ := C.f_Machine_letters
  exact ⟨fd, okM F eM' rfl rfl (fun cdv A outer s H E hr =>
    (ae' (az' (bf' (bz' ["Machine", "RawMachine"] (ac' (pv 0)) C.at_kept_letters))))), fP' F⟩
end
end S
namespace S
open PySem PySem.Spec PyProof.Rows L2
section
variable [Wd] {K : PySem.W.Frag} {mg : Str -> Option Value} {base : Heap}
theorem gn' (C : Ctx Wd.w K mg) : OgM Wd.P Wd.w K mg base 1 (He.ga K "Machine") "table" ["self"] (spM K M.f_Machine_table) := by
  obtain ⟨fd, F⟩ := C.f_Machine_table
  exact ⟨fd, okM F gk' rfl rfl (fun cdv A outer s H E hr =>
    (ae' (az' (bf' (bz' ["Machine", "RawMachine"] (ac' (pv 0)) C.at_kept_table))))), hC' F⟩
theorem eW' (C : Ctx Wd.w K mg) : OgM Wd.P Wd.w K mg base 1 (He.ga K "Machine") "accepts" ["self"] (spM K M.f_Machine_accepts) := by
  obtain ⟨fd, F⟩ := C.f_Machine_accepts
  exact ⟨fd, okM F eN' rfl rfl (fun cdv A outer s H E hr =>
    (ae' (az' (bf' (bz' ["Machine", "RawMachine"] (ac' (pv 0)) C.at_kept_accepts))))), fQ' F⟩
theorem dh' (C : Ctx Wd.w K mg) : OgM Wd.P Wd.w K mg base 1 (He.ga K "Machine") "parts" ["self"] (spM K M.f_Machine_parts) := by
  obtain ⟨fd, F⟩ := C.f_Machine_parts
  exact ⟨fd, okM F gl' rfl rfl (fun cdv A outer s H E hr =>
    (ae' (az' (bf' (fZ' (aa' (bz' ["Machine", "RawMachine"] (ac' (pv 0)) C.at_kept_letters) (aa' (bz' ["Machine", "RawMachine"] (ac' (pv 0)) C.at_kept_table) (aa' (bz' ["Machine", "RawMachine"] (ac' (pv 0)) C.at_kept_accepts) ag')))))))), hD' F⟩
theorem cY' (C : Ctx Wd.w K mg) : OgM Wd.P Wd.w K mg base 2 (He.ga K "Machine") "__eq__" ["self", "other"] (spM K M.f_Machine___eq__) := by
  obtain ⟨fd, F⟩ := C.f_Machine___eq__
  exact ⟨fd, okM F fu' rfl rfl (fun cdv A outer s H E hr =>
    (ae' (az' (bf' (qF' (uz' M.isT "Machine" C.is_Machine rfl (C.free_isinstance) (by decide +kernel) (ac' (pv 1)) (lE' rfl C.g_Machine)) (qA' (ia' (b9' hr.units) km' (nomark _) (cv' (eI' (ac' (pv 0)) (dh' C) (hr.mono (by decide)) C.ml_Machine_parts (takes_of rfl rfl rfl rfl))) (cv' (eI' (ac' (pv 1)) (dh' C) (hr.mono (by decide)) C.ml_Machine_parts (takes_of rfl rfl rfl rfl)))))))))), gr' F⟩
theorem ca' (C : Ctx Wd.w K mg) : OgM Wd.P Wd.w K mg base 2 (He.ga K "RawMachine") "__init__" ["self", "letters", "table", "accepts"] (spM K M.f_RawMachine___init__) := by
  obtain ⟨fd, F⟩ := C.f_RawMachine___init__
  exact ⟨fd, okM F dn' rfl rfl (fun cdv A outer s H E hr =>
    (ae' (fs' (cv' (qv' (ac' (pv 0)) (dD' C) (hr.mono (by decide)) C.ml_Machine_keep (takes_of rfl rfl rfl rfl) (aa' (ac' (pv 1)) (aa' (ac' (pv 2)) (aa' (ac' (pv 3)) ag')))))))), dO' F⟩
theorem yD' (C : Ctx Wd.w K mg) : Og Wd.P Wd.w K mg base 1 "led" ["machine", "state", "word"] (spM K M.f_led) := by
  obtain ⟨fd, F⟩ := C.f_led
  exact ⟨fd, okM F qH' rfl rfl (fun cdv A outer s H E hr =>
    (ab' (bJ' (passes_of rfl) rfl (a6' (ac' (pv 2))) (cg' 3 qH'.nd rfl (by walk_at "1") (by walk_at "2")) (ae' (ah' (i := 1) qH'.nd rfl (by walk_at "1") (bf' (cr' ix_seq f7' (cr' ix_seq f7' (bz' ["Machine", "RawMachine"] (ac' (pv 0)) C.at_kept_table) (ac' (pv 1)) (fun _ _ => rfl)) (oq' PySem.F.slot_str_index PySem.F.type_str_index kr' rp' (bz' ["Machine", "RawMachine"] (ac' (pv 0)) C.at_kept_letters) (aa' (ac' (pv 3)) ag')) (fun _ _ => rfl))))))
      (ae' (az' (sM' (pv 1)))))), Cz' F, F.kp, C.g_led⟩
theorem rc' (C : Ctx Wd.w K mg) : Og Wd.P Wd.w K mg base 4 "says" ["machine", "word"] (spM K M.f_says) := by
  obtain ⟨fd, F⟩ := C.f_says
  exact ⟨fd, okM F vJ' rfl rfl (fun cdv A outer s H E hr =>
    (ab' (fs' (cv' (aj' (i2' C) (hr.mono (by walk_at "4")) rfl (takes_of rfl rfl rfl rfl) (aa' (ac' (pv 0)) (aa' (ac' (pv 1)) ag')))))
      (ae' (az' (bf' (ia' ki' xt' (by rfl) (cv' (aj' (yD' C) (hr.mono (by walk_at "4")) rfl (takes_of rfl rfl rfl rfl) (aa' (ac' (pv 0)) (aa' af' (aa' (ac' (pv 1)) ag'))))) (bz' ["Machine", "RawMachine"] (ac' (pv 0)) C.at_kept_accepts))))))), z5' F, F.kp, C.g_says⟩
theorem oB' (C : Ctx Wd.w K mg) : Og Wd.P Wd.w K mg base 1 "reached" ["machine"] (spM K M.f_reached) := by
  obtain ⟨fd, F⟩ := C.f_reached
  exact ⟨fd, okM F cw' rfl rfl (fun cdv A outer s H E hr =>
    (ab' (ah' (i := 1) cw'.nd rfl (by walk_at "1") (fY' (aa' af' ag')))
      (ab' (ah' (i := 2) cw'.nd rfl (by walk_at "1") (qw' af' cX'))
      (ab' (ah' (i := 3) cw'.nd rfl (by walk_at "1") (bf' af'))
      (ab' (iO' M.xy' (passes_of rfl) (aT' kh' yG' (nomark _) (ac' (pv 3)) (c7' ⟨rfl, rfl⟩ rfl (C.free_len) (by decide +kernel) (pv 1))) (ab' (bJ' (passes_of rfl) rfl (a6' (cr' ix_seq f7' (bz' ["Machine", "RawMachine"] (ac' (pv 0)) C.at_kept_table) (qD' (pv 1) (ac' (pv 3)) (fun _ _ => rfl)) (fun _ _ => rfl))) (cg' 4 cw'.nd rfl (by walk_at "1") (by walk_at "2")) (ae' (bx' (iN' ⟨rfl, rfl⟩ hr.units (ac' (pv 4)) (pv 2)) (ab' (fW' ⟨rfl, rfl⟩ hr.units cX' (pv 2) (ac' (pv 4)))
      (ae' (fX' (pv 1) (bf' (ac' (pv 4)))))) aU')))
      (ae' (x5' (i := 3) cw'.nd rfl (by walk_at "1") af' ip_add Bm'))))
      (ae' (az' (sM' (pv 1))))))))), r8' F, F.kp, C.g_reached⟩
theorem gZ' (C : Ctx Wd.w K mg) : Og Wd.P Wd.w K mg base 1 "numbered" ["keys"] (spM K M.f_numbered) := by
  obtain ⟨fd, F⟩ := C.f_numbered
  exact ⟨fd, okM F cB' rfl rfl (fun cdv A outer s H E hr =>
    (ab' (ah' (i := 1) cB'.nd rfl (by walk_at "1") (qx' ⟨rfl, rfl⟩))
      (ab' (ah' (i := 2) cB'.nd rfl (by walk_at "1") c5')
      (ab' (bJ' (passes_of rfl) rfl (sO' (ac' (pv 0))) (Ai' (n := 2) rfl rfl rfl rfl (cq' rfl (cg' 3 cB'.nd rfl (by walk_at "1") (by walk_at "2")) (cq' rfl (cg' 4 cB'.nd rfl (by walk_at "1") (by walk_at "2")) iQ'))) (ab' (bx' (iN' ⟨rfl, rfl⟩ hr.units (ac' (pv 4)) (pv 1)) (ae' (fW' ⟨rfl, rfl⟩ hr.units (c7' ⟨rfl, rfl⟩ rfl (C.free_len) (by decide +kernel) (pv 1)) (pv 1) (ac' (pv 4)))) aU')
      (ae' (fW' ⟨rfl, rfl⟩ hr.units (cG' ⟨rfl, rfl⟩ hr.units (pv 1) (ac' (pv 4)) (fun _ _ => rfl)) (pv 2) (ac' (pv 3))))))
      (ae' (az' (sM' (pv 2)))))))), oW' F, F.kp, C.g_numbered⟩
theorem g0' (C : Ctx Wd.w K mg) : Og Wd.P Wd.w K mg base 2 "alike_states" ["machine", "states"] (spM K M.f_alike_states) := by
  obtain ⟨fd, F⟩ := C.f_alike_states
  exact ⟨fd, okM F aA' rfl rfl (fun cdv A outer s H E hr =>
    (ab' (ah' (i := 2) aA'.nd rfl (by walk_at "1") (aj' (gZ' C) (hr.mono (by walk_at "4")) rfl (takes_of rfl rfl rfl rfl) (aa' (cv' (A2' (own := [("state", 5)]) rfl aA'.nd (a6' (ac' (pv 1))) (blkOk_by (own := [("state", 5)]) (N := cU') (sc := defScope aB') (by decide +kernel)) rfl (fun _ _ _ _ _ => (cg' 5 aA'.nd rfl (by walk_at "1") (by walk_at "2"))) (fun _ _ _ _ _ => bm') (fun _ _ _ _ _ => (ac' (pv 5))) (fun _ _ _ _ _ => (ia' ki' xt' (by rfl) (ac' (pv 5)) (bz' ["Machine", "RawMachine"] (ac' (pv 0)) C.at_kept_accepts))))) ag')))
      (ab' (ah' (i := 3) aA'.nd rfl (by walk_at "1") (bf' af'))
      (ab' (iO' M.xy' (passes_of rfl) (aT' nK' Av' (nomark _) (qB' rfl rfl (C.free_max) (by decide +kernel) (ac' (pv 2))) (ac' (pv 3))) (ab' (ah' (i := 3) aA'.nd rfl (by walk_at "1") (bf' (aN' aP' b5' (qB' rfl rfl (C.free_max) (by decide +kernel) (ac' (pv 2))) af')))
      (ab' (ah' (i := 4) aA'.nd rfl (by walk_at "1") c5')
      (ab' (bJ' (passes_of rfl) rfl (a6' (ac' (pv 1))) (cg' 5 aA'.nd rfl (by walk_at "1") (by walk_at "2")) (ae' (fW' ⟨rfl, rfl⟩ hr.units (fZ' (aa' (cG' ⟨rfl, rfl⟩ hr.units (pv 2) (ac' (pv 5)) (fun _ _ => rfl)) (aa' (bN' (aO' rfl) bZ' rfl (C.free_tuple) (by decide +kernel) (d4' (own := [("step", 6)]) rfl aA'.nd (a6' (cr' ix_seq f7' (bz' ["Machine", "RawMachine"] (ac' (pv 0)) C.at_kept_table) (ac' (pv 5)) (fun _ _ => rfl))) (blkOk_by (own := [("step", 6)]) (N := cU') (sc := defScope aB') (by decide +kernel)) rfl (fun _ _ _ _ _ => (cg' 6 aA'.nd rfl (by walk_at "1") (by walk_at "2"))) (fun _ _ _ _ _ => bm') (fun _ _ _ _ _ => (cG' ⟨rfl, rfl⟩ hr.units (pv 2) (ac' (pv 6)) (fun _ _ => rfl))))) ag'))) (pv 4) (ac' (pv 5)))))
      (ae' (ah' (i := 2) aA'.nd rfl (by walk_at "1") (aj' (gZ' C) (hr.mono (by walk_at "4")) rfl (takes_of rfl rfl rfl rfl) (aa' (ac' (pv 4)) ag'))))))))
      (ae' (az' (sM' (pv 2)))))))), hS' F, F.kp, C.g_alike_states⟩
theorem ta' (C : Ctx Wd.w K mg) : Og Wd.P Wd.w K mg base 4 "least" ["machine"] (spM K M.f_least) := by
  obtain ⟨fd, F⟩ := C.f_least
  exact ⟨fd, okM F bT' rfl rfl (fun cdv A outer s H E hr =>
    (ab' (bx' (aT' v4' Dq' (nomark _) (bz' ["Machine", "RawMachine"] (ac' (pv 0)) C.at_kept_least) nt') (ab' (ah' (i := 1) bT'.nd rfl (by walk_at "1") (aj' (oB' C) (hr.mono (by walk_at "4")) rfl (takes_of rfl rfl rfl rfl) (aa' (ac' (pv 0)) ag')))
      (ab' (ah' (i := 2) bT'.nd rfl (by walk_at "1") (aj' (g0' C) (hr.mono (by walk_at "4")) rfl (takes_of rfl rfl rfl rfl) (aa' (ac' (pv 0)) (aa' (ac' (pv 1)) ag'))))
      (ab' (ah' (i := 3) bT'.nd rfl (by walk_at "1") c5')
      (ab' (bJ' (passes_of rfl) rfl (a6' (ac' (pv 1))) (cg' 4 bT'.nd rfl (by walk_at "1") (by walk_at "2")) (ae' (fs' (sR' (pv 3) (cG' ⟨rfl, rfl⟩ hr.units (pv 2) (ac' (pv 4)) (fun _ _ => rfl)) (ac' (pv 4)) ⟨rfl, rfl, rfl, rfl⟩))))
      (ab' (ah' (i := 5) bT'.nd rfl (by walk_at "1") (fY' ag'))
      (ab' (bJ' (passes_of rfl) rfl (a6' (cj' (ix' rfl) r4' rfl (C.free_sorted) (by decide +kernel) (ac' (pv 3)))) (cg' 6 bT'.nd rfl (by walk_at "1") (by walk_at "2")) (ae' (fX' (pv 5) (bf' (bN' (aO' rfl) bZ' rfl (C.free_tuple) (by decide +kernel) (d4' (own := [("step", 8)]) rfl bT'.nd (a6' (cr' ix_seq f7' (bz' ["Machine", "RawMachine"] (ac' (pv 0)) C.at_kept_table) (cG' ⟨rfl, rfl⟩ hr.units (pv 3) (ac' (pv 6)) (fun _ _ => rfl)) (fun _ _ => rfl))) (blkOk_by (own := [("step", 8)]) (N := me') (sc := defScope ck') (by decide +kernel)) rfl (fun _ _ _ _ _ => (cg' 8 bT'.nd rfl (by walk_at "1") (by walk_at "2"))) (fun _ _ _ _ _ => bm') (fun _ _ _ _ _ => (cG' ⟨rfl, rfl⟩ hr.units (pv 2) (ac' (pv 8)) (fun _ _ => rfl)))))))))
      (ab' (ah' (i := 7) bT'.nd rfl (by walk_at "1") (bf' (bN' (aO' rfl) bZ' rfl (C.free_tuple) (by decide +kernel) (d4' (own := [("one", 6)]) rfl bT'.nd (a6' (cj' (ix' rfl) r4' rfl (C.free_sorted) (by decide +kernel) (ac' (pv 3)))) (blkOk_by (own := [("one", 6)]) (N := me') (sc := defScope ck') (by decide +kernel)) rfl (fun _ _ _ _ _ => (cg' 6 bT'.nd rfl (by walk_at "1") (by walk_at "2"))) (fun _ _ _ _ _ => (dR' (aT' ki' xt' (by rfl) (cG' ⟨rfl, rfl⟩ hr.units (pv 3) (ac' (pv 6)) (fun _ _ => rfl)) (bz' ["Machine", "RawMachine"] (ac' (pv 0)) C.at_kept_accepts)))) (fun _ _ _ _ _ => (ac' (pv 6)))))))
      (ab' (eH' ["Machine", "RawMachine"] (ac' (pv 0)) (lt' (ca' C) (hr.mono (by decide)) rfl C.mk_RawMachine C.g_RawMachine (takes_of rfl rfl rfl rfl) (aa' (bz' ["Machine", "RawMachine"] (ac' (pv 0)) C.at_kept_letters) (aa' (bN' (aO' rfl) bZ' rfl (C.free_tuple) (by decide +kernel) (ac' (pv 5))) (aa' (ac' (pv 7)) ag')))) C.at_kept_least)
      (ae' (eH' ["Machine", "RawMachine"] (bz' ["Machine", "RawMachine"] (ac' (pv 0)) C.at_kept_least) (bf' (bz' ["Machine", "RawMachine"] (ac' (pv 0)) C.at_kept_least)) C.at_kept_least)))))))))) aU')
      (ae' (az' (bf' (bz' ["Machine", "RawMachine"] (ac' (pv 0)) C.at_kept_least)))))), xh' F, F.kp, C.g_least⟩
theorem lF' (C : Ctx Wd.w K mg) : Og Wd.P Wd.w K mg base 5 "silenced" ["machine", "letters"] (spM K M.f_silenced) := by
  obtain ⟨fd, F⟩ := C.f_silenced
  exact ⟨fd, okM F a4' rfl rfl (fun cdv A outer s H E hr =>
    (ab' (ah' (i := 2) a4'.nd rfl (by walk_at "1") (bf' (oq' PySem.F.slot_str_join PySem.F.type_str_join mt_join ro' (d7' [] (by decide +kernel) (by decide +kernel)) (aa' (d4' (own := [("letter", 5)]) rfl a4'.nd (a6' (bz' ["Machine", "RawMachine"] (ac' (pv 0)) C.at_kept_letters)) (blkOk_by (own := [("letter", 5)]) (N := c2') (sc := defScope bg') (by decide +kernel)) rfl (fun _ _ _ _ _ => (cg' 5 a4'.nd rfl (by walk_at "1") (by walk_at "2"))) (fun _ _ _ _ _ => (dR' (aT' dz' g3' (by rfl) (ac' (pv 5)) (ac' (pv 1))))) (fun _ _ _ _ _ => (ac' (pv 5)))) ag'))))
      (ab' (ah' (i := 3) a4'.nd rfl (by walk_at "1") (vE' (own := [("letter", 5)]) rfl a4'.nd (a6' (ac' (pv 2))) (blkOk_by (own := [("letter", 5)]) (N := c2') (sc := defScope bg') (by decide +kernel)) rfl (fun _ _ _ _ _ => (cg' 5 a4'.nd rfl (by walk_at "1") (by walk_at "2"))) (fun _ _ _ _ _ => bm') (fun _ _ _ _ _ => (oq' PySem.F.slot_str_index PySem.F.type_str_index kr' rp' (bz' ["Machine", "RawMachine"] (ac' (pv 0)) C.at_kept_letters) (aa' (ac' (pv 5)) ag')))))
      (ab' (ah' (i := 4) a4'.nd rfl (by walk_at "1") (bf' (bN' (aO' rfl) bZ' rfl (C.free_tuple) (by decide +kernel) (d4' (own := [("row", 6)]) rfl a4'.nd (a6' (bz' ["Machine", "RawMachine"] (ac' (pv 0)) C.at_kept_table)) (blkOk_by (own := [("row", 6)]) (N := c2') (sc := defScope bg') (by decide +kernel)) rfl (fun _ _ _ _ _ => (cg' 6 a4'.nd rfl (by walk_at "1") (by walk_at "2"))) (fun _ _ _ _ _ => bm') (fun _ _ _ _ _ => (bN' (aO' rfl) bZ' rfl (C.free_tuple) (by decide +kernel) (d4' (own := [("place", 7)]) rfl a4'.nd (a6' (ac' (pv 3))) (blkOk_by (own := [("place", 7)]) (N := c2') (by kernel_rfl)) rfl (fun _ _ _ _ _ => (cg' 7 a4'.nd rfl (by walk_at "1") (by walk_at "2"))) (fun _ _ _ _ _ => bm') (fun _ _ _ _ _ => (cr' ix_seq f7' (ac' (pv 6)) (ac' (pv 7)) (fun _ _ => rfl))))))))))
      (ae' (az' (aj' (ta' C) (hr.mono (by walk_at "4")) rfl (takes_of rfl rfl rfl rfl) (aa' (cv' (lt' (ca' C) (hr.mono (by decide)) rfl C.mk_RawMachine C.g_RawMachine (takes_of rfl rfl rfl rfl) (aa' (ac' (pv 2)) (aa' (ac' (pv 4)) (aa' (bz' ["Machine", "RawMachine"] (ac' (pv 0)) C.at_kept_accepts) ag'))))) ag')))))))), oV' F, F.kp, C.g_silenced⟩
end
end S
namespace S
open PySem PySem.Spec PyProof.Rows L2
section
variable [Wd] {K : PySem.W.Frag} {mg : Str -> Option Value} {base : Heap}
theorem dX' (C : Ctx Wd.w K mg) : Og Wd.P Wd.w K mg base 6 "without" ["machine", "letters"] (spM K M.f_without) := by
  obtain ⟨fd, F⟩ := C.f_without
  exact ⟨fd, okM F or' rfl rfl (fun cdv A outer s H E hr =>
    (ab' (fs' (cv' (aj' (gm' C) (hr.mono (by walk_at "4")) rfl (takes_of rfl rfl rfl rfl) (aa' (ac' (pv 0)) (aa' (ac' (pv 1)) ag')))))
      (ae' (az' (aj' (lF' C) (hr.mono (by walk_at "4")) rfl (takes_of rfl rfl rfl rfl) (aa' (ac' (pv 0)) (aa' (ac' (pv 1)) ag'))))))), r7' F, F.kp, C.g_without⟩
theorem kk' (C : Ctx Wd.w K mg) : Og Wd.P Wd.w K mg base 1 "_law_hand" ["_law_script"] (spM K M.f__law_hand) := by
  obtain ⟨fd, F⟩ := C.f__law_hand
  exact ⟨fd, okM F dv' rfl rfl (fun cdv A outer s H E hr =>
    (ab' (gy' (i := 1) (own := [("_law_cell", 2)]) rfl dv'.nd rfl rfl (sw_true (by rfl) (by rfl) (by rfl) (by decide +kernel)) (a6' (lv' vF' wb' (ac' (pv 0)) lp' (lo' af'))) (blkOk_by (own := [("_law_cell", 2)]) (N := hJ') (sc := defScope bj') (by decide +kernel)) rfl (fun _ _ _ _ _ => (cg' 2 dv'.nd rfl (by walk_at "1") (by walk_at "2"))) (fun _ _ _ _ _ => bm') (fun _ _ _ _ _ => (cj' r3' Cw' rfl (C.free_abs) (by decide +kernel) (bN' bk' eA' rfl (C.free_int) (by decide +kernel) (ac' (pv 2))))))
      (ae' (az' (x7' (aa' (ac' (pv 1)) (aa' af' (aa' af' (aa' (aN' aP' b5' af' (cj' (aW' ⟨rfl, rfl⟩) dp' rfl (C.free_len) (by decide +kernel) (ac' (pv 1)))) (aa' af' ag')))))))))), mc' F, F.kp, C.g__law_hand⟩
theorem ax' (C : Ctx Wd.w K mg) : Og Wd.P Wd.w K mg base 1 "_law_draw" ["_law_hand_here", "_law_many"] (spM K M.f__law_draw) := by
  obtain ⟨fd, F⟩ := C.f__law_draw
  exact ⟨fd, okM F b3' rfl rfl (fun cdv A outer s H E hr =>
    (ab' (bx' (qs' (nj' (aT' (b9' hr.units) km' (nomark _) (cW' (ac' (pv 0)) af' (fun _ _ => rfl)) af') (iJ' (aT' kh' yG' (nomark _) (cW' (ac' (pv 0)) af' (fun _ _ => rfl)) (cj' (aW' ⟨rfl, rfl⟩) dp' rfl (C.free_len) (by decide +kernel) (cW' (ac' (pv 0)) af' (fun _ _ => rfl))))))) (ab' (ah' (i := 2) b3'.nd rfl (by walk_at "1") (bf' (cr' ix_seq f7' (cW' (ac' (pv 0)) af' (fun _ _ => rfl)) (cW' (ac' (pv 0)) af' (fun _ _ => rfl)) (fun _ _ => rfl))))
      (ab' (gP' (aN' aP' b5' (cW' (ac' (pv 0)) af' (fun _ _ => rfl)) af') (ac' (pv 0)) af')
      (ab' (gP' (aN' op_mod fB' (bN' bk' eA' rfl (C.free_int) (by decide +kernel) (aN' aP' b5' (aN' aP' b5' (aN' db' i6' (cW' (ac' (pv 0)) af' (fun _ _ => rfl)) af') (ac' (pv 2))) af')) af') (ac' (pv 0)) af')
      (ae' (bx' (aT' nK' Av' (nomark _) (ac' (pv 2)) (aN' op_pow Bu' af' af')) (ae' (gP' (ac' (pv 2)) (ac' (pv 0)) af')) aU'))))) aU')
      (ab' (bx' (aT' nJ' Au' (nomark _) (cW' (ac' (pv 0)) af' (fun _ _ => rfl)) af') (ab' (ah' (i := 3) b3'.nd rfl (by walk_at "1") (bf' (aN' op_mod fB' (bN' bk' eA' rfl (C.free_int) (by decide +kernel) (cW' (ac' (pv 0)) af' (fun _ _ => rfl))) (ac' (pv 1)))))
      (ab' (gP' (aN' op_fdivW kl' (cW' (ac' (pv 0)) af' (fun _ _ => rfl)) (ac' (pv 1))) (ac' (pv 0)) af')
      (ae' (az' (sM' (pv 3)))))) aU')
      (ab' (gP' (aN' aP' b5' (cW' (ac' (pv 0)) af' (fun _ _ => rfl)) af') (ac' (pv 0)) af')
      (ab' (ah' (i := 4) b3'.nd rfl (by walk_at "1") (bf' (aN' op_mod fB' (bN' bk' eA' rfl (C.free_int) (by decide +kernel) (aN' db' i6' (bN' bk' eA' rfl (C.free_int) (by decide +kernel) (aN' aP' b5' (cW' (ac' (pv 0)) af' (fun _ _ => rfl)) (aN' db' i6' af' (cW' (ac' (pv 0)) af' (fun _ _ => rfl))))) af')) af')))
      (ab' (ah' (i := 4) b3'.nd rfl (by walk_at "1") (bf' (aN' op_mod fB' (bN' bk' eA' rfl (C.free_int) (by decide +kernel) (aN' db' i6' (ac' (pv 4)) (aN' aP' b5' (aN' op_fdivW kl' (ac' (pv 4)) af') af'))) af')))
      (ab' (ah' (i := 4) b3'.nd rfl (by walk_at "1") (bf' (aN' op_mod fB' (bN' bk' eA' rfl (C.free_int) (by decide +kernel) (aN' db' i6' (ac' (pv 4)) (aN' aP' b5' (aN' op_fdivW kl' (ac' (pv 4)) af') af'))) af')))
      (ae' (az' (bf' (aN' op_mod fB' (bN' bk' eA' rfl (C.free_int) (by decide +kernel) (aN' op_fdivW kl' (ac' (pv 4)) af')) (ac' (pv 1))))))))))))), md' F, F.kp, C.g__law_draw⟩
theorem cm' (C : Ctx Wd.w K mg) : Og Wd.P Wd.w K mg base 2 "_law_shuffled" ["_law_hand_here", "_law_things"] (spM K M.f__law_shuffled) := by
  obtain ⟨fd, F⟩ := C.f__law_shuffled
  exact ⟨fd, okM F bU' rfl rfl (fun cdv A outer s H E hr =>
    (ab' (ah' (i := 2) bU'.nd rfl (by walk_at "1") (vD' (fM' rfl) tg' rfl (C.free_list) (by decide +kernel) (ac' (pv 1))))
      (ab' (ah' (i := 3) bU'.nd rfl (by walk_at "1") (fY' ag'))
      (ab' (bJ' (passes_of rfl) rfl (bK' rfl (C.free_range) (cj' (aW' ⟨rfl, rfl⟩) dp' rfl (C.free_len) (by decide +kernel) (ac' (pv 1)))) (cg' 4 bU'.nd rfl (by walk_at "1") (by walk_at "2")) (ae' (fX' (pv 3) (bf' (sQ' (pv 2) (cv' (aj' (ax' C) (hr.mono (by walk_at "4")) rfl (takes_of rfl rfl rfl rfl) (aa' (ac' (pv 0)) (aa' (c7' ⟨rfl, rfl⟩ rfl (C.free_len) (by decide +kernel) (pv 2)) ag')))))))))
      (ae' (az' (sM' (pv 3)))))))), hB' F, F.kp, C.g__law_shuffled⟩
theorem dC' (C : Ctx Wd.w K mg) : Og Wd.P Wd.w K mg base 3 "_law_rows" ["_law_hand_here", "_law_kind", "_law_size", "_law_many"] (spM K M.f__law_rows) := by
  obtain ⟨fd, F⟩ := C.f__law_rows
  exact ⟨fd, okM F al' rfl rfl (fun cdv A outer s H E hr =>
    (ab' (ah' (i := 4) al'.nd rfl (by walk_at "1") (fY' ag'))
      (ab' (gy' (i := 5) (own := [("_law_letter", 9)]) rfl al'.nd rfl rfl (sw_true (by rfl) (by rfl) (by rfl) (by decide +kernel)) (bK' rfl (C.free_range) (ac' (pv 3))) (blkOk_by (own := [("_law_letter", 9)]) (N := eC') (sc := defScope a5') (by decide +kernel)) rfl (fun _ _ _ _ _ => (cg' 9 al'.nd rfl (by walk_at "1") (by walk_at "2"))) (fun _ _ _ _ _ => bm') (fun _ _ _ _ _ => (cv' (aj' (ax' C) (hr.mono (by walk_at "4")) rfl iG' (aa' (ac' (pv 0)) (aa' (ac' (pv 2)) ag'))))))
      (ab' (gy' (i := 6) (own := [("_law_letter", 9)]) rfl al'.nd rfl rfl (sw_true (by rfl) (by rfl) (by rfl) (by decide +kernel)) (bK' rfl (C.free_range) (ac' (pv 3))) (blkOk_by (own := [("_law_letter", 9)]) (N := eC') (sc := defScope a5') (by decide +kernel)) rfl (fun _ _ _ _ _ => (cg' 9 al'.nd rfl (by walk_at "1") (by walk_at "2"))) (fun _ _ _ _ _ => bm') (fun _ _ _ _ _ => (cv' (aj' (cm' C) (hr.mono (by walk_at "4")) rfl iG' (aa' (ac' (pv 0)) (aa' (cv' (oo' rfl rfl (C.free_list) rfl (C.free_range) (ac' (pv 2)))) ag'))))))
      (ab' (bJ' (passes_of rfl) rfl (bK' rfl (C.free_range) (ac' (pv 2))) (cg' 7 al'.nd rfl (by walk_at "1") (by walk_at "2")) (ab' (ah' (i := 8) al'.nd rfl (by walk_at "1") (fY' ag'))
      (ab' (bJ' (passes_of rfl) rfl (bK' rfl (C.free_range) (ac' (pv 3))) (cg' 9 al'.nd rfl (by walk_at "1") (by walk_at "2")) (ab' (ah' (i := 10) al'.nd rfl (by walk_at "1") (aj' (ax' C) (hr.mono (by walk_at "4")) rfl (takes_of rfl rfl rfl rfl) (aa' (ac' (pv 0)) (aa' (ac' (pv 2)) ag'))))
      (ab' (bx' (aT' (b9' hr.units) km' (nomark _) (ac' (pv 1)) af') (ae' (ah' (i := 10) al'.nd rfl (by walk_at "1") (bf' (aN' op_mod fB' (bN' bk' eA' rfl (C.free_int) (by decide +kernel) (aN' aP' b5' (ac' (pv 7)) (cr' ix_seq f7' (ac' (pv 5)) (ac' (pv 9)) (fun _ _ => rfl)))) (ac' (pv 2)))))) aU')
      (ab' (bx' (aT' (b9' hr.units) km' (nomark _) (ac' (pv 1)) af') (ae' (ah' (i := 10) al'.nd rfl (by walk_at "1") (bf' (qE' (fL' rfl) r5' rfl (C.free_min) (by decide +kernel) (aN' op_sub rf' (ac' (pv 2)) af') (aN' aP' b5' (ac' (pv 7)) (cr' ix_seq f7' (ac' (pv 5)) (ac' (pv 9)) (fun _ _ => rfl))))))) aU')
      (ab' (bx' (aT' (b9' hr.units) km' (nomark _) (ac' (pv 1)) af') (ab' (ah' (i := 10) al'.nd rfl (by walk_at "1") (bf' (ac' (pv 7))))
      (ae' (bx' (aT' (b9' hr.units) km' (nomark _) (ac' (pv 7)) af') (ae' (ah' (i := 10) al'.nd rfl (by walk_at "1") (bf' (aN' op_mod fB' (bN' bk' eA' rfl (C.free_int) (by decide +kernel) (aN' aP' b5' af' (ac' (pv 9)))) (ac' (pv 2)))))) aU'))) aU')
      (ab' (bx' (aT' (b9' hr.units) km' (nomark _) (ac' (pv 1)) af') (ae' (ah' (i := 10) al'.nd rfl (by walk_at "1") (bf' (aN' op_mod fB' (bN' bk' eA' rfl (C.free_int) (by decide +kernel) (aN' aP' b5' af' (ac' (pv 9)))) (ac' (pv 2)))))) aU')
      (ab' (bx' (aT' (b9' hr.units) km' (nomark _) (ac' (pv 1)) af') (ae' (ah' (i := 10) al'.nd rfl (by walk_at "1") (bf' (qE' (fL' rfl) r5' rfl (C.free_min) (by decide +kernel) (aN' op_sub rf' (ac' (pv 2)) af') (aN' aP' b5' (ac' (pv 7)) (bN' bk' eA' rfl (C.free_int) (by decide +kernel) (ia' (b9' hr.units) km' (nomark _) (aN' op_mod fB' (ac' (pv 7)) (ac' (pv 3))) (ac' (pv 9))))))))) aU')
      (ab' (bx' (aT' (b9' hr.units) km' (nomark _) (ac' (pv 1)) af') (ab' (ah' (i := 10) al'.nd rfl (by walk_at "1") (bf' (aN' op_sub rf' (ac' (pv 2)) af')))
      (ae' (bx' (qs' (nj' (aT' kh' yG' (nomark _) (ac' (pv 7)) (aN' op_sub rf' (ac' (pv 2)) af')) (iJ' (aT' (b9' hr.units) km' (nomark _) (aN' op_mod fB' (ac' (pv 7)) (ac' (pv 3))) (ac' (pv 9)))))) (ae' (ah' (i := 10) al'.nd rfl (by walk_at "1") (bf' (aN' op_mod fB' (bN' bk' eA' rfl (C.free_int) (by decide +kernel) (aN' aP' b5' (ac' (pv 7)) af')) (aN' op_sub rf' (ac' (pv 2)) af'))))) aU'))) aU')
      (ab' (bx' (aT' (b9' hr.units) km' (nomark _) (ac' (pv 1)) af') (ae' (ah' (i := 10) al'.nd rfl (by walk_at "1") (bf' (cr' ix_seq f7' (cr' ix_seq f7' (ac' (pv 6)) (ac' (pv 9)) (fun _ _ => rfl)) (ac' (pv 7)) (fun _ _ => rfl))))) aU')
      (ae' (fX' (pv 8) (bf' (ac' (pv 10))))))))))))))
      (ae' (fX' (pv 4) (bf' (bN' (aO' rfl) bZ' rfl (C.free_tuple) (by decide +kernel) (ac' (pv 8)))))))))
      (ae' (az' (bf' (bN' (aO' rfl) bZ' rfl (C.free_tuple) (by decide +kernel) (ac' (pv 4))))))))))), mb' F, F.kp, C.g__law_rows⟩
theorem i3' (C : Ctx Wd.w K mg) : Og Wd.P Wd.w K mg base 4 "_law_woven" ["_law_hand_here", "_law_many"] (spM K M.f__law_woven) := by
  obtain ⟨fd, F⟩ := C.f__law_woven
  exact ⟨fd, okM F aY' rfl rfl (fun cdv A outer s H E hr =>
    (ab' (ah' (i := 2) aY'.nd rfl (by walk_at "1") (aj' (dC' C) (hr.mono (by walk_at "4")) rfl (takes_of rfl rfl rfl rfl) (aa' (ac' (pv 0)) (aa' (aN' aP' b5' af' (cv' (aj' (ax' C) (hr.mono (by walk_at "4")) rfl (takes_of rfl rfl rfl rfl) (aa' (ac' (pv 0)) (aa' af' ag'))))) (aa' af' (aa' (ac' (pv 1)) ag'))))))
      (ab' (ah' (i := 3) aY'.nd rfl (by walk_at "1") (bf' (aN' aP' b5' af' (cv' (aj' (ax' C) (hr.mono (by walk_at "4")) rfl (takes_of rfl rfl rfl rfl) (aa' (ac' (pv 0)) (aa' af' ag')))))))
      (ab' (ah' (i := 4) aY'.nd rfl (by walk_at "1") (aj' (dC' C) (hr.mono (by walk_at "4")) rfl (takes_of rfl rfl rfl rfl) (aa' (ac' (pv 0)) (aa' (aN' aP' b5' af' (cv' (aj' (ax' C) (hr.mono (by walk_at "4")) rfl (takes_of rfl rfl rfl rfl) (aa' (ac' (pv 0)) (aa' af' ag'))))) (aa' (ac' (pv 3)) (aa' (ac' (pv 1)) ag'))))))
      (ab' (ah' (i := 5) aY'.nd rfl (by walk_at "1") (fY' ag'))
      (ab' (bJ' (passes_of rfl) rfl (bK' rfl (C.free_range) (aN' db' i6' af' (ac' (pv 3)))) (cg' 6 aY'.nd rfl (by walk_at "1") (by walk_at "2")) (ab' (ah' (i := 7) aY'.nd rfl (by walk_at "1") (bf' (cr' ix_seq f7' (ac' (pv 2)) (aN' op_fdivW kl' (ac' (pv 6)) (ac' (pv 3))) (fun _ _ => rfl))))
      (ab' (ah' (i := 8) aY'.nd rfl (by walk_at "1") (bf' (cr' ix_seq f7' (ac' (pv 4)) (aN' op_mod fB' (bN' bk' eA' rfl (C.free_int) (by decide +kernel) (ac' (pv 6))) (ac' (pv 3))) (fun _ _ => rfl))))
      (ae' (fX' (pv 5) (bf' (bN' (aO' rfl) bZ' rfl (C.free_tuple) (by decide +kernel) (d4' (own := [("_law_k", 9)]) rfl aY'.nd (bK' rfl (C.free_range) (ac' (pv 1))) (blkOk_by (own := [("_law_k", 9)]) (N := gg') (sc := defScope a0') (by decide +kernel)) rfl (fun _ _ _ _ _ => (cg' 9 aY'.nd rfl (by walk_at "1") (by walk_at "2"))) (fun _ _ _ _ _ => bm') (fun _ _ _ _ _ => (aN' aP' b5' (aN' db' i6' (cr' ix_seq f7' (ac' (pv 7)) (ac' (pv 9)) (fun _ _ => rfl)) (ac' (pv 3))) (cr' ix_seq f7' (ac' (pv 8)) (ac' (pv 9)) (fun _ _ => rfl))))))))))))
      (ae' (az' (bf' (bN' (aO' rfl) bZ' rfl (C.free_tuple) (by decide +kernel) (ac' (pv 5)))))))))))), la' F, F.kp, C.g__law_woven⟩
theorem i4' (C : Ctx Wd.w K mg) : Og Wd.P Wd.w K mg base 5 "_law_parts" ["_law_hand_here", "_law_most", "_law_states"] (spM K M.f__law_parts) := by
  obtain ⟨fd, F⟩ := C.f__law_parts
  exact ⟨fd, okM F aE' rfl rfl (fun cdv A outer s H E hr =>
    (ab' (ah' (i := 3) aE'.nd rfl (by walk_at "1") (aj' (ax' C) (hr.mono (by walk_at "4")) rfl (takes_of rfl rfl rfl rfl) (aa' (ac' (pv 0)) (aa' af' ag'))))
      (ab' (ah' (i := 4) aE'.nd rfl (by walk_at "1") (bf' (aN' aP' b5' af' (cv' (aj' (ax' C) (hr.mono (by walk_at "4")) rfl (takes_of rfl rfl rfl rfl) (aa' (ac' (pv 0)) (aa' (ac' (pv 1)) ag')))))))
      (ab' (ah' (i := 5) aE'.nd rfl (by walk_at "1") (bf' (aN' aP' b5' af' (cv' (aj' (ax' C) (hr.mono (by walk_at "4")) rfl (takes_of rfl rfl rfl rfl) (aa' (ac' (pv 0)) (aa' (ac' (pv 2)) ag')))))))
      (ab' (bx' (aT' nJ' Au' (nomark _) (ac' (pv 3)) af') (ab' (ah' (i := 5) aE'.nd rfl (by walk_at "1") (bf' (qE' (iy' rfl) u0' rfl (C.free_max) (by decide +kernel) af' (ac' (pv 5)))))
      (ae' (ah' (i := 4) aE'.nd rfl (by walk_at "1") (bf' (qE' (iy' rfl) u0' rfl (C.free_max) (by decide +kernel) (qE' (fL' rfl) r5' rfl (C.free_min) (by decide +kernel) af' (ac' (pv 1))) (ac' (pv 4))))))) aU')
      (ab' (ah' (i := 6) aE'.nd rfl (by walk_at "1") (aj' (cm' C) (hr.mono (by walk_at "4")) rfl (takes_of rfl rfl rfl rfl) (aa' (ac' (pv 0)) (aa' (bN' (fM' rfl) u1' rfl (C.free_list) (by decide +kernel) (d7' [97, 98, 99, 100, 101, 102, 103, 104, 105, 106, 107, 108, 109, 110, 111, 112, 113, 114, 115, 116, 117, 118, 119, 120, 121, 122] (by decide +kernel) (by decide +kernel))) ag'))))
      (ab' (ah' (i := 7) aE'.nd rfl (by walk_at "1") (bf' (oq' PySem.F.slot_str_join PySem.F.type_str_join mt_join ro' (d7' [] (by decide +kernel) (by decide +kernel)) (aa' (cj' (oS' rfl) tU' rfl (C.free_sorted) (by decide +kernel) (lv' vF' wb' (ac' (pv 6)) lp' (lo' (ac' (pv 4))))) ag'))))
      (ab' (bx' (aT' nJ' Au' (nomark _) (ac' (pv 3)) af') (ae' (ah' (i := 8) aE'.nd rfl (by walk_at "1") (aj' (i3' C) (hr.mono (by walk_at "4")) rfl (takes_of rfl rfl rfl rfl) (aa' (ac' (pv 0)) (aa' (ac' (pv 4)) ag'))))) (ae' (ah' (i := 8) aE'.nd rfl (by walk_at "1") (aj' (dC' C) (hr.mono (by walk_at "4")) rfl (takes_of rfl rfl rfl rfl) (aa' (ac' (pv 0)) (aa' (ac' (pv 3)) (aa' (ac' (pv 5)) (aa' (ac' (pv 4)) ag'))))))))
      (ab' (ah' (i := 9) aE'.nd rfl (by walk_at "1") (bf' (bN' (aO' rfl) bZ' rfl (C.free_tuple) (by decide +kernel) (d4' (own := [("_law_state", 10)]) rfl aE'.nd (bK' rfl (C.free_range) (cj' (aW' ⟨rfl, rfl⟩) dp' rfl (C.free_len) (by decide +kernel) (ac' (pv 8)))) (blkOk_by (own := [("_law_state", 10)]) (N := gh') (sc := defScope a3') (by decide +kernel)) rfl (fun _ _ _ _ _ => (cg' 10 aE'.nd rfl (by walk_at "1") (by walk_at "2"))) (fun _ _ _ _ _ => (dR' (aT' (b9' hr.units) km' (nomark _) (cv' (aj' (ax' C) (hr.mono (by walk_at "4")) rfl iG' (aa' (ac' (pv 0)) (aa' af' ag')))) af'))) (fun _ _ _ _ _ => (ac' (pv 10)))))))
      (ae' (az' (bf' (fZ' (aa' (ac' (pv 7)) (aa' (ac' (pv 8)) (aa' (ac' (pv 9)) ag')))))))))))))))), lb' F, F.kp, C.g__law_parts⟩
theorem g1' (C : Ctx Wd.w K mg) : Og Wd.P Wd.w K mg base 1 "_law_classes" ["_law_table", "_law_accepts", "_law_states"] (spM K M.f__law_classes) := by
  obtain ⟨fd, F⟩ := C.f__law_classes
  exact ⟨fd, okM F ao' rfl rfl (fun cdv A outer s H E hr =>
    (ab' (ah' (i := 3) ao'.nd rfl (by walk_at "1") c5')
      (ab' (bJ' (passes_of rfl) rfl (a6' (ac' (pv 2))) (cg' 4 ao'.nd rfl (by walk_at "1") (by walk_at "2")) (ae' (fW' ⟨rfl, rfl⟩ hr.units (bN' bk' eA' rfl (C.free_int) (by decide +kernel) (ia' ki' xt' (by rfl) (ac' (pv 4)) (ac' (pv 1)))) (pv 3) (ac' (pv 4)))))
      (ab' (ah' (i := 5) ao'.nd rfl (by walk_at "1") (bf' af'))
      (ab' (bJ' (passes_of rfl) rfl (bK' rfl (C.free_range) (cj' (aW' ⟨rfl, rfl⟩) dp' rfl (C.free_len) (by decide +kernel) (ac' (pv 2)))) (cg' 6 ao'.nd rfl (by walk_at "1") (by walk_at "2")) (ab' (ah' (i := 7) ao'.nd rfl (by walk_at "1") (qx' ⟨rfl, rfl⟩))
      (ab' (ah' (i := 8) ao'.nd rfl (by walk_at "1") c5')
      (ab' (bJ' (passes_of rfl) rfl (a6' (ac' (pv 2))) (cg' 4 ao'.nd rfl (by walk_at "1") (by walk_at "2")) (ab' (ah' (i := 9) ao'.nd rfl (by walk_at "1") (bf' (fZ' (aa' (cG' ⟨rfl, rfl⟩ hr.units (pv 3) (ac' (pv 4)) (fun _ _ => rfl)) (aa' (bN' (aO' rfl) bZ' rfl (C.free_tuple) (by decide +kernel) (d4' (own := [("_law_to", 10)]) rfl ao'.nd (a6' (cr' ix_seq f7' (ac' (pv 0)) (ac' (pv 4)) (fun _ _ => rfl))) (blkOk_by (own := [("_law_to", 10)]) (N := ec') (sc := defScope aI') (by decide +kernel)) rfl (fun _ _ _ _ _ => (cg' 10 ao'.nd rfl (by walk_at "1") (by walk_at "2"))) (fun _ _ _ _ _ => bm') (fun _ _ _ _ _ => (cG' ⟨rfl, rfl⟩ hr.units (pv 3) (ac' (pv 10)) (fun _ _ => rfl))))) ag')))))
      (ab' (bx' (iN' ⟨rfl, rfl⟩ hr.units (ac' (pv 9)) (pv 7)) (ae' (fW' ⟨rfl, rfl⟩ hr.units (c7' ⟨rfl, rfl⟩ rfl (C.free_len) (by decide +kernel) (pv 7)) (pv 7) (ac' (pv 9)))) aU')
      (ae' (fW' ⟨rfl, rfl⟩ hr.units (cG' ⟨rfl, rfl⟩ hr.units (pv 7) (ac' (pv 9)) (fun _ _ => rfl)) (pv 8) (ac' (pv 4)))))))
      (ab' (ah' (i := 3) ao'.nd rfl (by walk_at "1") (bf' (ac' (pv 8))))
      (ab' (bx' (aT' (b9' hr.units) km' (nomark _) (c7' ⟨rfl, rfl⟩ rfl (C.free_len) (by decide +kernel) (pv 7)) (ac' (pv 5))) (ae' sJ') aU')
      (ae' (ah' (i := 5) ao'.nd rfl (by walk_at "1") (bf' (c7' ⟨rfl, rfl⟩ rfl (C.free_len) (by decide +kernel) (pv 7)))))))))))
      (ae' (az' (sM' (pv 3))))))))), hU' F, F.kp, C.g__law_classes⟩
theorem i5' (C : Ctx Wd.w K mg) : Og Wd.P Wd.w K mg base 2 "_law_least" ["_law_table", "_law_accepts"] (spM K M.f__law_least) := by
  obtain ⟨fd, F⟩ := C.f__law_least
  exact ⟨fd, okM F an' rfl rfl (fun cdv A outer s H E hr =>
    (ab' (ah' (i := 2) an'.nd rfl (by walk_at "1") (fY' (aa' af' ag')))
      (ab' (ah' (i := 3) an'.nd rfl (by walk_at "1") (bf' af'))
      (ab' (iO' M.xy' (passes_of rfl) (aT' kh' yG' (nomark _) (ac' (pv 3)) (c7' ⟨rfl, rfl⟩ rfl (C.free_len) (by decide +kernel) (pv 2))) (ab' (bJ' (passes_of rfl) rfl (a6' (cr' ix_seq f7' (ac' (pv 0)) (qD' (pv 2) (ac' (pv 3)) (fun _ _ => rfl)) (fun _ _ => rfl))) (cg' 4 an'.nd rfl (by walk_at "1") (by walk_at "2")) (ae' (bx' (qt' (ac' (pv 4)) (pv 2)) (ae' (fX' (pv 2) (bf' (ac' (pv 4))))) aU')))
      (ae' (ah' (i := 3) an'.nd rfl (by walk_at "1") (bf' (aN' aP' b5' (ac' (pv 3)) af'))))))
      (ab' (ah' (i := 5) an'.nd rfl (by walk_at "1") (aj' (g1' C) (hr.mono (by walk_at "4")) rfl (takes_of rfl rfl rfl rfl) (aa' (ac' (pv 0)) (aa' (ac' (pv 1)) (aa' (ac' (pv 2)) ag')))))
      (ab' (ah' (i := 6) an'.nd rfl (by walk_at "1") c5')
      (ab' (ah' (i := 7) an'.nd rfl (by walk_at "1") (fY' ag'))
      (ab' (bJ' (passes_of rfl) rfl (a6' (ac' (pv 2))) (cg' 8 an'.nd rfl (by walk_at "1") (by walk_at "2")) (ae' (bx' (iN' ⟨rfl, rfl⟩ hr.units (cG' ⟨rfl, rfl⟩ hr.units (pv 5) (ac' (pv 8)) (fun _ _ => rfl)) (pv 6)) (ab' (fW' ⟨rfl, rfl⟩ hr.units (c7' ⟨rfl, rfl⟩ rfl (C.free_len) (by decide +kernel) (pv 7)) (pv 6) (cG' ⟨rfl, rfl⟩ hr.units (pv 5) (ac' (pv 8)) (fun _ _ => rfl)))
      (ae' (fX' (pv 7) (bf' (ac' (pv 8)))))) aU')))
      (ab' (ah' (i := 9) an'.nd rfl (by walk_at "1") (bf' (bN' (aO' rfl) bZ' rfl (C.free_tuple) (by decide +kernel) (d4' (own := [("_law_state", 8)]) rfl an'.nd (a6' (ac' (pv 7))) (blkOk_by (own := [("_law_state", 8)]) (N := cQ') (sc := defScope aV') (by decide +kernel)) rfl (fun _ _ _ _ _ => (cg' 8 an'.nd rfl (by walk_at "1") (by walk_at "2"))) (fun _ _ _ _ _ => bm') (fun _ _ _ _ _ => (bN' (aO' rfl) bZ' rfl (C.free_tuple) (by decide +kernel) (d4' (own := [("_law_to", 4)]) rfl an'.nd (a6' (cr' ix_seq f7' (ac' (pv 0)) (ac' (pv 8)) (fun _ _ => rfl))) (blkOk_by (own := [("_law_to", 4)]) (N := cQ') (by kernel_rfl)) rfl (fun _ _ _ _ _ => (cg' 4 an'.nd rfl (by walk_at "1") (by walk_at "2"))) (fun _ _ _ _ _ => bm') (fun _ _ _ _ _ => (cG' ⟨rfl, rfl⟩ hr.units (pv 6) (cG' ⟨rfl, rfl⟩ hr.units (pv 5) (ac' (pv 4)) (fun _ _ => rfl)) (fun _ _ => rfl))))))))))
      (ae' (az' (bf' (fZ' (aa' (ac' (pv 9)) (aa' (bN' (aO' rfl) bZ' rfl (C.free_tuple) (by decide +kernel) (d4' (own := [("_law_k", 10)]) rfl an'.nd (bK' rfl (C.free_range) (c7' ⟨rfl, rfl⟩ rfl (C.free_len) (by decide +kernel) (pv 7))) (blkOk_by (own := [("_law_k", 10)]) (N := cQ') (sc := defScope aV') (by decide +kernel)) rfl (fun _ _ _ _ _ => (cg' 10 an'.nd rfl (by walk_at "1") (by walk_at "2"))) (fun _ _ _ _ _ => (dR' (aT' ki' xt' (by rfl) (qD' (pv 7) (ac' (pv 10)) (fun _ _ => rfl)) (ac' (pv 1))))) (fun _ _ _ _ _ => (ac' (pv 10))))) ag'))))))))))))))), lc' F, F.kp, C.g__law_least⟩
theorem kj' (C : Ctx Wd.w K mg) : Og Wd.P Wd.w K mg base 2 "_law_word" ["_law_hand_here", "_law_letters", "_law_many"] (spM K M.f__law_word) := by
  obtain ⟨fd, F⟩ := C.f__law_word
  exact ⟨fd, okM F cH' rfl rfl (fun cdv A outer s H E hr =>
    (ab' (ah' (i := 3) cH'.nd rfl (by walk_at "1") (bf' (d7' [] (by decide +kernel) (by decide +kernel))))
      (ab' (bJ' (passes_of rfl) rfl (bK' rfl (C.free_range) (ac' (pv 2))) (cg' 4 cH'.nd rfl (by walk_at "1") (by walk_at "2")) (ae' (ah' (i := 3) cH'.nd rfl (by walk_at "1") (bf' (aN' aP' b5' (ac' (pv 3)) (cr' ix_seq f7' (ac' (pv 1)) (cv' (aj' (ax' C) (hr.mono (by walk_at "4")) rfl (takes_of rfl rfl rfl rfl) (aa' (ac' (pv 0)) (aa' (cj' (aW' ⟨rfl, rfl⟩) dp' rfl (C.free_len) (by decide +kernel) (ac' (pv 1))) ag')))) (fun _ _ => rfl)))))))
      (ae' (az' (sM' (pv 3))))))), ma' F, F.kp, C.g__law_word⟩
theorem cL' (C : Ctx Wd.w K mg) : Og Wd.P Wd.w K mg base 2 "_law_is_machine" ["_law_found", "_law_letters", "_law_rows_here", "_law_yes"] (spM K M.f__law_is_machine) := by
  obtain ⟨fd, F⟩ := C.f__law_is_machine
  exact ⟨fd, okM F eL' rfl rfl (fun cdv A outer s H E hr =>
    (ab' (bx' (cn' (nm' (uz' M.isT "Machine" C.is_Machine rfl (C.free_isinstance) (by decide +kernel) (ac' (pv 0)) (lE' rfl C.g_Machine)))) (ae' (az' (bf' cX'))) aU')
      (ae' (az' (bf' (ia' (b9' hr.units) By' (nomark _) (cj' (gD' hr.units hr.g) tV' rfl (C.free_repr) (by decide +kernel) (fZ' (aa' (cv' (eI' (ac' (pv 0)) (eV' C) (hr.mono (by decide)) C.ml_Machine_letters (takes_of rfl rfl rfl rfl))) (aa' (cv' (eI' (ac' (pv 0)) (gn' C) (hr.mono (by decide)) C.ml_Machine_table (takes_of rfl rfl rfl rfl))) (aa' (cv' (eI' (ac' (pv 0)) (eW' C) (hr.mono (by decide)) C.ml_Machine_accepts (takes_of rfl rfl rfl rfl))) ag'))))) (cj' (gD' hr.units hr.g) tV' rfl (C.free_repr) (by decide +kernel) (fZ' (aa' (ac' (pv 1)) (aa' (ac' (pv 2)) (aa' (ac' (pv 3)) ag'))))))))))), fO' F, F.kp, C.g__law_is_machine⟩
theorem g2' (C : Ctx Wd.w K mg) : Og Wd.P Wd.w K mg base 1 "_law_choices" ["_law_letters"] (spM K M.f__law_choices) := by
  obtain ⟨fd, F⟩ := C.f__law_choices
  exact ⟨fd, okM F bs' rfl rfl (fun cdv A outer s H E hr =>
    (ab' (ah' (i := 1) bs'.nd rfl (by walk_at "1") (bf' (qC' (aa' (d7' [] (by decide +kernel) (by decide +kernel)) ag'))))
      (ab' (bJ' (passes_of rfl) rfl (a6' (ac' (pv 0))) (cg' 2 bs'.nd rfl (by walk_at "1") (by walk_at "2")) (ae' (ah' (i := 1) bs'.nd rfl (by walk_at "1") (bf' (aN' aP' b5' (ac' (pv 1)) (d4' (own := [("_law_lot", 3)]) rfl bs'.nd (a6' (ac' (pv 1))) (blkOk_by (own := [("_law_lot", 3)]) (N := ed') (sc := defScope aJ') (by decide +kernel)) rfl (fun _ _ _ _ _ => (cg' 3 bs'.nd rfl (by walk_at "1") (by walk_at "2"))) (fun _ _ _ _ _ => bm') (fun _ _ _ _ _ => (aN' aP' b5' (ac' (pv 3)) (ac' (pv 2))))))))))
      (ae' (az' (bf' (lv' vF' wb' (ac' (pv 1)) lp' (lo' (A3' un_neg Bv' af'))))))))), hV' F, F.kp, C.g__law_choices⟩
end
end S
namespace S
open PySem PySem.Spec PyProof.Rows L2
section
variable [Wd] {K : PySem.W.Frag} {mg : Str -> Option Value} {base : Heap}
theorem lH' (C : Ctx Wd.w K mg) : Og Wd.P Wd.w K mg base 2 "_law_odd" ["_law_hand_here", "_law_letters"] (spM K M.f__law_odd) := by
  obtain ⟨fd, F⟩ := C.f__law_odd
  exact ⟨fd, okM F bW' rfl rfl (fun cdv A outer s H E hr =>
    (ab' (gy' (i := 2) (own := [("_law_sign", 3)]) rfl bW'.nd rfl rfl (sw_true (by rfl) (by rfl) (by rfl) (by decide +kernel)) (a6' (d7' [97, 98, 99, 100, 101, 102, 103, 104, 105, 106, 107, 108, 109, 110, 111, 112, 113, 114, 115, 116, 117, 118, 119, 120, 121, 122] (by decide +kernel) (by decide +kernel))) (blkOk_by (own := [("_law_sign", 3)]) (N := iA') (sc := defScope bt') (by decide +kernel)) rfl (fun _ _ _ _ _ => (cg' 3 bW'.nd rfl (by walk_at "1") (by walk_at "2"))) (fun _ _ _ _ _ => (dR' (aT' dz' g3' (by rfl) (ac' (pv 3)) (ac' (pv 1))))) (fun _ _ _ _ _ => (ac' (pv 3))))
      (ab' (ah' (i := 3) bW'.nd rfl (by walk_at "1") (bf' (cr' ix_seq f7' (ac' (pv 2)) (cv' (aj' (ax' C) (hr.mono (by walk_at "4")) rfl (takes_of rfl rfl rfl rfl) (aa' (ac' (pv 0)) (aa' (cj' (aW' ⟨rfl, rfl⟩) dp' rfl (C.free_len) (by decide +kernel) (ac' (pv 2))) ag')))) (fun _ _ => rfl))))
      (ab' (ah' (i := 4) bW'.nd rfl (by walk_at "1") (aj' (ax' C) (hr.mono (by walk_at "4")) rfl (takes_of rfl rfl rfl rfl) (aa' (ac' (pv 0)) (aa' (cj' (aW' ⟨rfl, rfl⟩) dp' rfl (C.free_len) (by decide +kernel) (ac' (pv 1))) ag'))))
      (ab' (ah' (i := 5) bW'.nd rfl (by walk_at "1") (bf' (qC' (aa' nt' (aa' cX' (aa' af' (aa' (qC' ag') (aa' (fZ' ag') (aa' (cv' c5') (aa' (ac' (pv 1)) (aa' (aN' db' i6' (ac' (pv 1)) af') (aa' (aN' db' i6' (lv' vF' wb' (ac' (pv 1)) lp' (lo' af')) af') (aa' (aN' aP' b5' (vH' (ac' (pv 1))) (ac' (pv 1))) (aa' (d7' [65] (by decide +kernel) (by decide +kernel)) (aa' (d7' [32] (by decide +kernel) (by decide +kernel)) ag')))))))))))))))
      (ab' (ah' (i := 6) bW'.nd rfl (by walk_at "1") (aj' (ax' C) (hr.mono (by walk_at "4")) rfl (takes_of rfl rfl rfl rfl) (aa' (ac' (pv 0)) (aa' af' ag'))))
      (ab' (bx' (aT' (b9' hr.units) km' (nomark _) (ac' (pv 6)) af') (ae' (az' (bf' (aN' aP' b5' (aN' aP' b5' (lv' vF' wb' (ac' (pv 1)) lp' (lo' (ac' (pv 4)))) (ac' (pv 3))) (lv' vF' wb' (ac' (pv 1)) (lo' (aN' aP' b5' (ac' (pv 4)) af')) lp'))))) aU')
      (ab' (bx' (qs' (nj' (aT' (b9' hr.units) km' (nomark _) (ac' (pv 6)) af') (iJ' (aT' nJ' Au' (nomark _) (cj' (aW' ⟨rfl, rfl⟩) dp' rfl (C.free_len) (by decide +kernel) (ac' (pv 1))) af')))) (ae' (az' (bf' (aN' aP' b5' (cr' ix_seq f7' (ac' (pv 1)) af' (fun _ _ => rfl)) (cr' ix_seq f7' (ac' (pv 1)) af' (fun _ _ => rfl)))))) aU')
      (ae' (az' (bf' (cr' ix_seq f7' (ac' (pv 5)) (cv' (aj' (ax' C) (hr.mono (by walk_at "4")) rfl (takes_of rfl rfl rfl rfl) (aa' (ac' (pv 0)) (aa' af' ag')))) (fun _ _ => rfl))))))))))))), oY' F, F.kp, C.g__law_odd⟩
theorem eU' (C : Ctx Wd.w K mg) : Og Wd.P Wd.w K mg base 7 "_law_is_refused" ["_law_machine", "_law_thing"] (spM K M.f__law_is_refused) := by
  obtain ⟨fd, F⟩ := C.f__law_is_refused
  exact ⟨fd, okM F bH' rfl rfl (fun cdv A outer s H E hr =>
    (ab' (ah' (i := 2) bH'.nd rfl (by walk_at "1") (bf' cX'))
      (ab' (sI' (i := 3) (m := 0) rfl rfl bH'.nd rfl rfl ⟨rfl, by decide, Or.inl C.g_SaidError⟩ (takes_of rfl rfl rfl rfl) (fun _ _ e_ => uv' C.subs e_) (fun W_ pn_ xe_ tk_ po_ => (ae' (fs' (cv' (aj' (dX' C) (hr.mono (by walk_at "4")) rfl tk_ (aa' (ac' (pv 0)) (aa' (ac' (pv 1)) ag'))))))) (fun x_ a_ oe_ d_ pn_ hz_ hf_ => letI : Hot := jz' a_ 0 d_ x_; (ae' (ah' (i := 2) bH'.nd rfl (by walk_at "1") (bf' (ya' (i := 3) "NoLetters" C.kit hz_ hf_ rfl (C.free_isinstance) (by decide +kernel) (pv 3) (lE' rfl C.g_NoLetters)))))))
      (ae' (az' (sM' (pv 2))))))), fN' F, F.kp, C.g__law_is_refused⟩
end
end S
namespace S
open PySem PySem.Spec PyProof.Rows L2
section
variable [Wd] {K : PySem.W.Frag} {mg : Str -> Option Value} {base : Heap}
theorem za' (C : Ctx Wd.w K mg) {fd : FuncData} (F : FunD K "law" "law" (defArgs fx') (defBody fx') (defScope fx') [] [] (He.ga K "law") fd) : FnG Wd.P Wd.w K mg base (L2.CX Wd.P Wd.w) 8 (He.ga K "law") fd ["_law_script"] (spM K M.f_law) :=
  okM F bA' rfl rfl (fun cdv A outer s H E hr =>
    (ab' (ah' (i := 1) bA'.nd rfl (by walk_at "1") (aj' (kk' C) (hr.mono (by walk_at "4")) rfl (takes_of rfl rfl rfl rfl) (aa' (ac' (pv 0)) ag')))
      (ab' (ux' (cv' (aj' (i4' C) (hr.mono (by walk_at "4")) rfl (takes_of rfl rfl rfl rfl) (aa' (ac' (pv 1)) (aa' af' (aa' af' ag'))))) (Ai' (n := 3) rfl rfl rfl rfl (cq' rfl (cg' 2 bA'.nd rfl (by walk_at "1") (by walk_at "2")) (cq' rfl (cg' 3 bA'.nd rfl (by walk_at "1") (by walk_at "2")) (cq' rfl (cg' 4 bA'.nd rfl (by walk_at "1") (by walk_at "2")) iQ')))))
      (ab' (ah' (i := 5) bA'.nd rfl (by walk_at "1") (lt' (eo' C) (hr.mono (by decide)) rfl C.mk_Machine C.g_Machine (takes_of rfl rfl rfl rfl) (aa' (ac' (pv 2)) (aa' (ac' (pv 3)) (aa' (ac' (pv 4)) ag')))))
      (ab' (bJ' (passes_of rfl) rfl (a6' (cv' (aj' (g2' C) (hr.mono (by walk_at "4")) rfl (takes_of rfl rfl rfl rfl) (aa' (ac' (pv 2)) ag')))) (cg' 6 bA'.nd rfl (by walk_at "1") (by walk_at "2")) (ab' (ah' (i := 7) bA'.nd rfl (by walk_at "1") (bf' (oq' PySem.F.slot_str_join PySem.F.type_str_join mt_join ro' (d7' [] (by decide +kernel) (by decide +kernel)) (aa' (d4' (own := [("_law_letter", 14)]) rfl bA'.nd (a6' (ac' (pv 2))) (blkOk_by (own := [("_law_letter", 14)]) (N := sg') (sc := defScope fx') (by decide +kernel)) rfl (fun _ _ _ _ _ => (cg' 14 bA'.nd rfl (by walk_at "1") (by walk_at "2"))) (fun _ _ _ _ _ => (dR' (aT' dz' g3' (by rfl) (ac' (pv 14)) (ac' (pv 6))))) (fun _ _ _ _ _ => (ac' (pv 14)))) ag'))))
      (ab' (ah' (i := 8) bA'.nd rfl (by walk_at "1") (vE' (own := [("_law_letter", 14)]) rfl bA'.nd (a6' (ac' (pv 7))) (blkOk_by (own := [("_law_letter", 14)]) (N := sg') (sc := defScope fx') (by decide +kernel)) rfl (fun _ _ _ _ _ => (cg' 14 bA'.nd rfl (by walk_at "1") (by walk_at "2"))) (fun _ _ _ _ _ => bm') (fun _ _ _ _ _ => (oq' PySem.F.slot_str_find PySem.F.type_str_find mt_find yK' (ac' (pv 2)) (aa' (ac' (pv 14)) ag')))))
      (ab' (ux' (cv' (aj' (i5' C) (hr.mono (by walk_at "4")) rfl (takes_of rfl rfl rfl rfl) (aa' (d4' (own := [("_law_row", 17)]) rfl bA'.nd (a6' (ac' (pv 3))) (blkOk_by (own := [("_law_row", 17)]) (N := sg') (sc := defScope fx') (by decide +kernel)) rfl (fun _ _ _ _ _ => (cg' 17 bA'.nd rfl (by walk_at "1") (by walk_at "2"))) (fun _ _ _ _ _ => bm') (fun _ _ _ _ _ => (d4' (own := [("_law_k", 18)]) rfl bA'.nd (a6' (ac' (pv 8))) (blkOk_by (own := [("_law_k", 18)]) (N := sg') (by kernel_rfl)) rfl (fun _ _ _ _ _ => (cg' 18 bA'.nd rfl (by walk_at "1") (by walk_at "2"))) (fun _ _ _ _ _ => bm') (fun _ _ _ _ _ => (cr' ix_seq f7' (ac' (pv 17)) (ac' (pv 18)) (fun _ _ => rfl)))))) (aa' (ac' (pv 4)) ag')))) (Ai' (n := 2) rfl rfl rfl rfl (cq' rfl (cg' 9 bA'.nd rfl (by walk_at "1") (by walk_at "2")) (cq' rfl (cg' 10 bA'.nd rfl (by walk_at "1") (by walk_at "2")) iQ'))))
      (ab' (ah' (i := 11) bA'.nd rfl (by walk_at "1") (aj' (dX' C) (hr.mono (by walk_at "4")) rfl (takes_of rfl rfl rfl rfl) (aa' (ac' (pv 5)) (aa' (ac' (pv 6)) ag'))))
      (ab' (bx' (cn' (nm' (cv' (aj' (cL' C) (hr.mono (by walk_at "4")) rfl (takes_of rfl rfl rfl rfl) (aa' (ac' (pv 11)) (aa' (ac' (pv 7)) (aa' (ac' (pv 9)) (aa' (ac' (pv 10)) ag')))))))) (ae' (az' (bf' cX'))) aU')
      (ab' (ah' (i := 12) bA'.nd rfl (by walk_at "1") (aj' (kj' C) (hr.mono (by walk_at "4")) rfl (takes_of rfl rfl rfl rfl) (aa' (ac' (pv 1)) (aa' (ac' (pv 7)) (aa' (cv' (aj' (ax' C) (hr.mono (by walk_at "4")) rfl (takes_of rfl rfl rfl rfl) (aa' (ac' (pv 1)) (aa' af' ag')))) ag')))))
      (ab' (bx' (aT' (nH' hr.units) Bx' (nomark _) (cv' (aj' (rc' C) (hr.mono (by walk_at "4")) rfl (takes_of rfl rfl rfl rfl) (aa' (ac' (pv 11)) (aa' (ac' (pv 12)) ag')))) (cv' (aj' (rc' C) (hr.mono (by walk_at "4")) rfl (takes_of rfl rfl rfl rfl) (aa' (ac' (pv 5)) (aa' (ac' (pv 12)) ag'))))) (ae' (az' (bf' cX'))) aU')
      (ab' (ah' (i := 13) bA'.nd rfl (by walk_at "1") (bf' (ac' (pv 5))))
      (ab' (bJ' (passes_of rfl) rfl (a6' (cv' (aj' (cm' C) (hr.mono (by walk_at "4")) rfl (takes_of rfl rfl rfl rfl) (aa' (ac' (pv 1)) (aa' (bN' (fM' rfl) u1' rfl (C.free_list) (by decide +kernel) (ac' (pv 6))) ag'))))) (cg' 14 bA'.nd rfl (by walk_at "1") (by walk_at "2")) (ae' (ah' (i := 13) bA'.nd rfl (by walk_at "1") (aj' (dX' C) (hr.mono (by walk_at "4")) rfl (takes_of rfl rfl rfl rfl) (aa' (ac' (pv 13)) (aa' (ac' (pv 14)) ag'))))))
      (ab' (bx' (qs' (nj' (aT' (nH' hr.units) Bx' (nomark _) (ac' (pv 6)) (d7' [] (by decide +kernel) (by decide +kernel))) (iJ' (uw' (cY' C) (hr.mono (by decide)) C.ne_Machine (ac' (pv 13)) (ac' (pv 11)))))) (ae' (az' (bf' cX'))) aU')
      (ab' (ah' (i := 15) bA'.nd rfl (by walk_at "1") (aj' (lH' C) (hr.mono (by walk_at "4")) rfl (takes_of rfl rfl rfl rfl) (aa' (ac' (pv 1)) (aa' (ac' (pv 2)) ag'))))
      (ab' (ah' (i := 16) bA'.nd rfl (by walk_at "1") (bf' (cj' (gD' hr.units hr.g) tV' rfl (C.free_repr) (by decide +kernel) (ac' (pv 15)))))
      (ae' (bx' (qs' (iI' (cn' (nm' (cv' (aj' (eU' C) (hr.mono (by walk_at "4")) rfl (takes_of rfl rfl rfl rfl) (aa' (ac' (pv 5)) (aa' (ac' (pv 15)) ag')))))) (iI' (aT' (nH' hr.units) Bw' (nomark _) (cj' (gD' hr.units hr.g) tV' rfl (C.free_repr) (by decide +kernel) (ac' (pv 15))) (ac' (pv 16))) (gL' (uw' (cY' C) (hr.mono (by decide)) C.ne_Machine (cv' (aj' (dX' C) (hr.mono (by walk_at "4")) rfl (takes_of rfl rfl rfl rfl) (aa' (ac' (pv 5)) (aa' (ac' (pv 6)) ag')))) (ac' (pv 11))))))) (ae' (az' (bf' cX'))) aU')))))))))))))))
      (ae' (az' (aj' (cL' C) (hr.mono (by walk_at "4")) rfl (takes_of rfl rfl rfl rfl) (aa' (ac' (pv 5)) (aa' (ac' (pv 2)) (aa' (ac' (pv 3)) (aa' (ac' (pv 4)) ag'))))))))))))
end
end S
open PySem PySem.W PySem.Calls PyProof.Rows
set_option maxRecDepth 100000 in
set_option maxHeartbeats 0 in
theorem PySem.Challenge.cw_saidacross_k81_letters_left_out_holds : PySem.Challenge.rw_saidacross_k81_letters_left_out.Holds := by
  w_on; o_law
  refine HandSHeadRun.head_any (r := OpenLaw.row PySem.Challenge.rw_saidacross_k81_letters_left_out) (q := view (OpenLaw.row PySem.Challenge.rw_saidacross_k81_letters_left_out).prog [42]) (H := S.hk) (ob := S.ob) (loose := S.loose) (d := HandSHeadRun.topDef (OpenLaw.row PySem.Challenge.rw_saidacross_k81_letters_left_out).prog 42) (kwd := []) S.Bt'
    (by kernel_rfl) (fun s => by kernel_rfl) S.run (by kernel_rfl) (by kernel_rfl) (by kernel_rfl) (by rfl) (by first | assumption | decide +kernel) (by decide +kernel) ⟨rfl, rfl, rfl, rfl, rfl, by decide +kernel⟩ ?hw ?hc
  case hw => w_witness2
  case hc =>
    refine S.sv' (l := PySem.Challenge.rw_saidacross_k81_letters_left_out) (n := 63) (k := 8) (x := "_law_script") (CX := L2.CX0) rfl (by decide) (by kernel_rfl) ⟨rfl, by decide, by decide⟩ ?F (fun H s e s' z => z)
    intro w mg fa h Y G hmg0
    obtain ⟨K, KX, c⟩ := Y
    letI : S.Wd := ⟨(PySem.Challenge.rw_saidacross_k81_letters_left_out).prog, w, []⟩
    have C : S.Ctx S.Wd.w K mg := ⟨⟨_, c⟩, h, KX, G⟩
    have hmg : mg ("law" : PySem.Str) = some (.ref fa) := by
      have e : (HandSHeadRun.topDef (OpenLaw.row PySem.Challenge.rw_saidacross_k81_letters_left_out).prog 42).name = ("law" : PySem.Str) := by kernel_rfl
      rw [<- e]
      exact hmg0
    obtain rfl : fa = He.ga K "law" := by
      have e := C.g_law
      rw [hmg] at e
      exact PySem.Value.ref.inj (Option.some.inj e)
    obtain ⟨fd, F⟩ := C.f_law
    refine ⟨K, fd, fun vs H Q _ => S.spM K M.f_law vs H Q L2.E0, KX, fun s u => ?_, ?_, fun base X N => ?_⟩
    . exact F.bindsA (ps := ["_law_script"]) (fun _ _ _ _ _ _ us hl => match us, hl with | [_], _ => rfl) s [u] rfl
    . intro H a ns hn _ hs
      exact S.rE' K H (fun p z => absurd (show p ∈ ([] : List (Addr × Str)) from z) List.not_mem_nil) a ns hn hs M.law_true
    . exact S.FnG.to0 (S.za' (base := base) C F)
