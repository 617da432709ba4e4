import PyProof.Rows.All
import Wide.All
import OpenK.AllK
import Wide.FinOn
import KE.KStateDown
import KE.GoesNew
import HandS.ForMost
import HandS.Exc
import HandS.TryOnly
import HandS.TryMany
import HandS.ExcOwn
import HandS.ExcBuiltin
import HandS.Small
import HandS.WordsExc
import HandS.IsInst
import HandS.StrMore
import HandS.TupAny
import HandS.Zip
import HandS.Defaults
import HandS.Head0
import HandS.Head1
import HandS.Head2
import HandS.HeadEnd
import HandS.HeadHook1
import HandS.HeadHook2
import HandS.Walk
import KE.GoesMore
import HandS.Iter
import PyProof.CollectStr
import HandS.Conv
import PyProof.ListStr
import PyProof.TupleOfStr
import HandS.Lambda
import HandS.Style
import KE.KDictKeyed
import HandS.Wide
import KE.KTupTabMore
import HandS.Rev
import HandS.RevRange
import HandS.SortInts
import HandS.ExcIs
import HandS.ExcField
import HandS.Rindex
import HandS.HeadHook4
import PyProof.StrLawsFrom
import PyProof.Rows.RegReprOcc
import PyProof.Rows.StrLast
import KE.KDictDisplayH
import HandS.SetKeys
import HandS.DictComp
import HandS.More
import PyProof.ReprBulk
import PyProof.ReprRoads
import PyProof.CallFns
import PyProof.RowDictHeap
import PyProof.Rows.StrRev
import KE.KRevSl
import HandS.Deep
import HandS.Call
import KE.KExcSuper
import HandS.TupMul
import HandS.ReplaceLit
import HandS.ReplaceList
import KE.KDictZip
import PyProof.ListNew
import HandS.ListItems
import HandS.Zip0
import HandS.TupSets
import KE.SortKeyHeap
import KE.KLam
import HandS.SortKw
import HandS.EndTab
import KE.KItemsList
import HandS.NoneIn
import KE.DataMinKey
import KE.DataFind
import KE.DatumOrd
import HandS.Finally
import HandS.Strs
import HandS.Nested
import PyProof.Rows.Walk
import PySem.Challenge.RW_saidacross_k13_whole_machine_texts_read
set_option Elab.async false
set_option linter.all false
set_option maxRecDepth 100000
set_option maxHeartbeats 4000000
local macro_rules | `(tactic| walk_at "1") => `(tactic| first | exact Or.inl rfl | exact Or.inr rfl)
local macro_rules | `(tactic| walk_at "2") => `(tactic| first | exact Or.inl rfl | exact Or.inr rfl | assumption)
local macro_rules | `(tactic| walk_at "3") => `(tactic| exact ⟨rfl, rfl, rfl, by decide +kernel, rfl, by decide +kernel, by decide +kernel⟩)
local macro_rules | `(tactic| walk_at "4") => `(tactic| first | decide | omega)
namespace M
abbrev Tx := List Nat
abbrev do' : Nat := 16777216
inductive D where
  | non | bl (b : Bool) | int (i : Int) | str (s : Tx)
  | tup (ds : List D) | lst (ds : List D) | dct (ks vs : List D)
  | obj (n : Nat) | ty (x : String) | fn (x : String) | exc (x : String) (ds : List D)
  | scr (ds : List D)
  /-- a dict whose keys are bools, or tuples; the text that repr gives -/
  | dcx (ks vs : List D) | rep (d : D)
  deriving Inhabited
inductive O where
  | fz (d : D) | lst (os : List O) | dct (ks : List D) (vs : List O) | tup (os : List O) | dcx (ks : List D) (vs : List O) | exn | clo
  deriving Inhabited
inductive Ob where
  | lst (os : List O) | dct (ks : List D) (vs : List O) | ins (C : String) (fs : List (String × O)) | dcx (ks : List D) (vs : List O)
abbrev W := List Ob
structure PSt where
  env : List (Option O)
  w : W
structure Exc where
  cls : String
  fs : List (String × D)
inductive Res (α : Type) where
  | ok (a : α) (ρ : PSt) | exc (x : Exc) (ρ : PSt) | bad
inductive Out where
  | nx (ρ : PSt) | rt (o : O) (w : W) | bk (ρ : PSt) | ct (ρ : PSt) | exc (x : Exc) (ρ : PSt) | bad
inductive FRes where
  | ok (o : O) (w : W) | exc (x : Exc) (w : W) | bad
def Cm' : O -> Bool
  | .exn => false
  | .clo => false
  | _ => true
theorem d3' {o : O} (h : o ≠ .exn) (k : o ≠ .clo) : Cm' o = true := by
  cases o <;> first | rfl | exact absurd rfl h | exact absurd rfl k
mutual
def frz : O -> D
  | .fz d => d
  | .lst os => .lst (frzs os)
  | .dct ks vs => .dct ks (frzs vs)
  | .tup os => .tup (frzs os)
  | .dcx ks vs => .dcx ks (frzs vs)
  | .exn => .non
  | .clo => .non
def frzs : List O -> List D
  | [] => []
  | o :: r => frz o :: frzs r
end
@[simp] theorem mh' (ds : List D) : frzs (ds.map .fz) = ds := by
  induction ds with
  | nil => rfl
  | cons d r ih => simp [frzs, frz, ih]
theorem ed' (os : List O) : frzs os = os.map frz := by
  induction os with
  | nil => rfl
  | cons d r ih => simp [frzs, ih]
mutual
/-- data that == compares, at most so deep -/
def dep : D -> Nat
  | .tup ds => deps ds + 1
  | .lst ds => deps ds + 1
  | _ => 0
def deps : List D -> Nat
  | [] => 0
  | d :: r => max (dep d) (deps r)
end
mutual
def dat : D -> Bool
  | .non => true | .bl _ => true | .int _ => true | .str _ => true
  | .tup ds => dats ds
  | .lst ds => dats ds
  | _ => false
def dats : List D -> Bool
  | [] => true
  | d :: r => dat d && dats r
end
mutual
def eqb : D -> D -> Bool
  | .non, .non => true
  | .bl a, .bl b => a == b
  | .bl a, .int j => (if a then 1 else 0) == j
  | .int i, .bl b => i == (if b then 1 else 0)
  | .int i, .int j => i == j
  | .str x, .str y => x == y
  | .lst xs, .lst ys => eqbs xs ys
  | .tup xs, .tup ys => eqbs xs ys
  | _, _ => false
def eqbs : List D -> List D -> Bool
  | [], [] => true
  | x :: xs, y :: ys => eqb x y && eqbs xs ys
  | _, _ => false
end
def eqv (d e : D) : Option Bool := if dat d = true /\ dat e = true /\ dep d <= 64 /\ dep e <= 64 then some (eqb d e) else none
mutual
/-- no whole number is too great to be shown -/
def vw' : D -> Bool
  | .int i => decide (i.natAbs < 10 ^ 60)
  | .tup ds => repIs ds
  | .lst ds => repIs ds
  | .dct ks ds => repIs ks && repIs ds
  | _ => true
def repIs : List D -> Bool
  | [] => true
  | d :: r => vw' d && repIs r
end
mutual
def tc' : D -> Nat
  | .str s => s.length
  | .tup ds => repWs ds
  | .lst ds => repWs ds
  | .dct ks ds => repWs ks + repWs ds
  | _ => 0
def repWs : List D -> Nat
  | [] => 0
  | d :: r => tc' d + 1 + repWs r
end
mutual
/-- the same data -/
def same : D -> D -> Bool
  | .non, .non => true
  | .bl a, .bl b => a == b
  | .int i, .int j => i == j
  | .str x, .str y => x == y
  | .lst xs, .lst ys => sames xs ys
  | .tup xs, .tup ys => sames xs ys
  | .dct ks xs, .dct ls ys => sames ks ls && sames xs ys
  | _, _ => false
def sames : List D -> List D -> Bool
  | [], [] => true
  | x :: xs, y :: ys => same x y && sames xs ys
  | _, _ => false
end
def e3' : D -> Bool
  | .non => true
  | .bl _ => true
  | .int _ => true
  | .str _ => true
  | _ => false
def CZ' : D -> Bool
  | .dct [] [] => true
  | _ => false
def zA' : D -> Bool
  | .dct _ ds => ds.all e3'
  | .tup ds => dats ds || ds.all fun d => e3' d || CZ' d
  | d => dat d
theorem wU' {d : D} (h : dat d = true) : zA' d = true := by
  cases d with
  | tup ds => show (dats ds || _) = true; rw [show dats ds = true from h]; rfl
  | dct ks ds => cases h
  | _ => exact h
def w7' (d : D) : Option D := if zA' d = true /\ dep d <= 40 /\ vw' d = true /\ tc' d <= 200000 then some (.rep d) else none
def BL' : D -> D -> Option D
  | .rep a, .rep b => if same a b = true then some (.bl true) else none
  | _, _ => none
def BK' : D -> D -> Option D
  | .rep a, .rep b => if same a b = true then some (.bl false) else none
  | _, _ => none
def ob (o : Option Bool) : Option D := o.map .bl
def pEq (x y : D) : Option D := ob (eqv x y)
def pNe (x y : D) : Option D := ob ((eqv x y).map (!·))
def e4' : D -> Bool
  | .non => true
  | _ => false
def pIs : D -> D -> Option D
  | x, .non => some (.bl (e4' x))
  | .bl a, .bl b => some (.bl (a == b))
  | _, _ => none
def gt' (x y : D) : Option D := match pIs x y with | some (.bl b) => some (.bl (!b)) | _ => none
def pLt : D -> D -> Option D
  | .int i, .int j => some (.bl (decide (i < j)))
  | .str a, .str b => some (.bl (decide (a < b)))
  | _, _ => none
def pLe : D -> D -> Option D
  | .int i, .int j => some (.bl (decide (i <= j)))
  | .str a, .str b => some (.bl (!decide (b < a)))
  | _, _ => none
def pGt : D -> D -> Option D
  | .int i, .int j => some (.bl (decide (j < i)))
  | .str a, .str b => some (.bl (decide (b < a)))
  | _, _ => none
def pGe : D -> D -> Option D
  | .int i, .int j => some (.bl (decide (j <= i)))
  | .str a, .str b => some (.bl (!decide (a < b)))
  | _, _ => none
def dK' : D -> D -> Option D
  | .int i, .int j => some (.int (i + j))
  | .str a, .str b => if a.length + b.length <= do' then some (.str (a ++ b)) else none
  | .lst a, .lst b => if a.length + b.length <= do' then some (.lst (a ++ b)) else none
  | .tup a, .tup b => if a.length + b.length <= do' then some (.tup (a ++ b)) else none
  | _, _ => none
def t4' : D -> D -> Option D
  | .int i, .int j => some (.int (i + j))
  | _, _ => none
def yy' : D -> D -> Option D
  | .int i, .int j => some (.int (i - j))
  | _, _ => none
def small64 (i : Int) : Bool := decide (-(2 ^ 64) < i) && decide (i < 2 ^ 64)
def kC' : D -> D -> Option D
  | .int i, .int j => if (small64 i = true \/ small64 j = true) \/ ((-2582249878086908589655919172003011874329705792829223512830659356540647622016841194629645353280137831435903171972747493376 < i /\ i < 2582249878086908589655919172003011874329705792829223512830659356540647622016841194629645353280137831435903171972747493376) /\ (-2582249878086908589655919172003011874329705792829223512830659356540647622016841194629645353280137831435903171972747493376 < j /\ j < 2582249878086908589655919172003011874329705792829223512830659356540647622016841194629645353280137831435903171972747493376)) then some (.int (i * j)) else none
  | .str a, .int j => if j < 2 ^ 62 /\ -(2 ^ 62) <= j /\ a.length * j.toNat <= do' then some (.str (List.replicate j.toNat a).flatten) else none
  | .lst a, .int j => if j < 2 ^ 62 /\ -(2 ^ 62) <= j /\ a.length * j.toNat <= do' then some (.lst (List.replicate j.toNat a).flatten) else none
  | _, _ => none
def jz' : D -> D -> Option D
  | .int i, .int j => if 0 < j /\ j < 1606938044258990275541962092341162602522202993782792835301376 then some (.int (i / j)) else none
  | _, _ => none
def pK' : D -> D -> Option D
  | .int i, .int j => if 0 < j then some (.int (i % j)) else none
  | _, _ => none
def zU' : D -> D -> Option D
  | .int i, .int j => if 0 <= j /\ j <= 1000 /\ small64 i = true then some (.int (i ^ j.toNat)) else none
  | _, _ => none
def zV' : D -> Option D
  | .int i => some (.int (-i))
  | _ => none
def chD (c : Nat) : D := .str [c]
def ixn (n : Nat) (i : Int) : Option Nat := if 0 <= i then (if i < n then some i.toNat else none) else (if -(n : Int) <= i then some (i + n).toNat else none)
def ati {α : Type} (xs : List α) (i : Int) : Option α := (ixn xs.length i).bind fun j => xs[j]?
def six (n : Nat) (d : Nat) : Option Int -> Nat
  | none => d
  | some i => if i < 0 then (i + (n : Int)).toNat else min i.toNat n
def cut {α : Type} (xs : List α) (lo hi : Option Int) : List α := (xs.drop (six xs.length 0 lo)).take (six xs.length xs.length hi - six xs.length 0 lo)
def eU' : D -> Option (List D)
  | .lst xs => some xs
  | .tup xs => some xs
  | .str s => some (s.map chD)
  | _ => none
def sca : D -> Bool
  | .non => true | .bl _ => true | .int _ => true | .str _ => true
  | _ => false
def pIn : D -> D -> Option D
  | .str [c], .str s => some (.bl (decide (c ∈ s)))
  | x, .lst ds => if sca x = true /\ ds.all sca = true then some (.bl (ds.any fun d => eqb d x)) else none
  | x, .tup ds => if sca x = true /\ ds.all sca = true then some (.bl (ds.any fun d => eqb d x)) else none
  | _, _ => none
mutual
def kat : D -> Bool
  | .non => true | .bl _ => true | .int _ => true | .str _ => true
  | .tup ds => kats ds
  | _ => false
def kats : List D -> Bool
  | [] => true
  | d :: r => kat d && kats r
end
def oq' (ks : List D) (k : D) : Bool := kat k && decide (dep k <= 8) && ks.all (fun d => sca d == sca k)
def gY' (ks : List D) (k : D) : Option Nat := ks.findIdx? fun d => eqb d k
def isK : D -> Bool
  | .int _ => true | .str _ => true
  | _ => false
def dget {α : Type} (ks : List D) (vs : List α) (k : D) : Option α := (gY' ks k).bind fun j => vs[j]?
def cF' : O -> D -> Option (Option O)
  | .dct ks os, k => if isK k = true then some (dget ks os k) else none
  | .dcx ks os, k => if oq' ks k = true then some (dget ks os k) else none
  | .fz (.dct ks vs), k => if isK k = true then some (dget ks (vs.map .fz) k) else none
  | .fz (.dcx ks vs), k => if oq' ks k = true then some (dget ks (vs.map .fz) k) else none
  | _, _ => none
def l0' {α : Type} (ks : List D) (os : List α) (k : D) (o : α) : Option (List D × List α) := match gY' ks k with
  | some j => some (ks, os.set j o)
  | none => if ks.length < do' then some (ks ++ [k], os ++ [o]) else none
def eX' : O -> D -> O -> Option O
  | .dct ks os, k, o => if isK k = true then (l0' ks os k o).map fun p => .dct p.1 p.2 else none
  | .dcx ks os, k, o => if oq' ks k = true then (l0' ks os k o).map fun p => .dcx p.1 p.2 else none
  | _, _, _ => none
def kB' (x y : D) : Option D := match pIn x y with | some (.bl b) => some (.bl (!b)) | _ => none
def c8' : D -> Option D
  | .str s => some (.int s.length)
  | .lst ds => some (.int ds.length)
  | .tup ds => some (.int ds.length)
  | .dct ks _ => some (.int ks.length)
  | .dcx ks _ => some (.int ks.length)
  | _ => none
def pIx : D -> D -> Option D
  | .str s, .int i => (ati s i).map chD
  | .lst ds, .int i => ati ds i
  | .tup ds, .int i => ati ds i
  | _, _ => none
def pSl (d : D) (lo hi : Option Int) : Option D := match d with
  | .str s => some (.str (cut s lo hi))
  | .lst s => some (.lst (cut s lo hi))
  | .tup s => some (.tup (cut s lo hi))
  | .scr s => some (.lst (cut s lo hi))
  | _ => none
def BJ' : D -> Option D
  | .str s => some (.str s.reverse)
  | .lst s => some (.lst s.reverse)
  | _ => none
def d2' : List D -> Option (List Tx)
  | [] => some []
  | .str s :: r => (d2' r).map (s :: ·)
  | _ :: _ => none
def cg' (sep : Tx) : List Tx -> Tx
  | [] => []
  | [x] => x
  | x :: y :: r => x ++ (sep ++ cg' sep (y :: r))
def f8' (a : Tx) : List D -> Option D
  | [.lst ds] => (d2' ds).bind fun ys => if (ys.map List.length).sum + ys.length * a.length <= do' then some (.str (cg' a ys)) else none
  | [.tup ds] => (d2' ds).bind fun ys => if (ys.map List.length).sum + ys.length * a.length <= do' then some (.str (cg' a ys)) else none
  | _ => none
def bU' : List D -> Option (List Int)
  | [] => some []
  | .int b :: r => (bU' r).map (b :: ·)
  | _ :: _ => none
def Ea' : D -> Option D
  | .lst ds => (bU' ds).map fun ns => .int ns.sum
  | _ => none
def dY' (l : List Nat) : List Nat := l.mergeSort fun a b => decide (a <= b)
def o4' (l : List Int) : List Int := l.mergeSort fun a b => decide (a <= b)
def eA' : D -> Option D
  | .dct ks _ => (bU' ks).bind fun ns => if ns.length <= do' then some (.lst ((o4' ns).map .int)) else none
  | _ => none
def og' : List D -> Option (List Nat)
  | [] => some []
  | .str [c] :: r => (og' r).map (c :: ·)
  | _ => none
def eZ' : D -> Option D
  | .str s => if s.length < 64 then some (.lst ((dY' s).map chD)) else none
  | .lst ds => match bU' ds with
    | some ns => some (.lst ((o4' ns).map .int))
    | none => (og' ds).bind fun cs => if cs.length < 64 then some (.lst ((dY' cs).map chD)) else none
  | _ => none
def vQ' (a b : Tx) (i : Nat) : Bool := decide (i + b.length <= a.length) && decide ((a.drop i).take b.length = b)
def oC' (a b : Tx) : Option Nat := (List.range (a.length + 1)).find? (vQ' a b)
def fnd (o : Option Nat) : Int := match o with | some i => (i : Int) | none => -1
def r9' (a : Tx) : List D -> Option D
  | [.str b] => some (.int (fnd (oC' a b)))
  | _ => none
def kU' (a : Tx) : List D -> Option D
  | [.str b] => (oC' a b).map fun (i : Nat) => D.int (Int.ofNat i)
  | _ => none
def fK' (c : Nat) : Tx -> List Tx
  | [] => [[]]
  | x :: r => if x = c then [] :: fK' c r else (match fK' c r with
    | [] => [[x]]
    | y :: ys => (x :: y) :: ys)
def kT' (a : Tx) : List D -> Option D
  | [.str [c]] => if c < 128 /\ a.length + 2 <= do' then some (.lst ((fK' c a).map .str)) else none
  | _ => none
def c9' (n : Nat) : Tx := (Nat.toDigits 10 n).map Char.toNat
def yz' : D -> Option D
  | .int i => if 0 <= i /\ i < 1000000000000000000000000000000000000000000000000000000000000 then some (.str (c9' i.toNat)) else none
  | _ => none
def up1 (c : Nat) : Nat := if 97 <= c /\ c <= 122 then c - 32 else c
def vB' : D -> Option D
  | .str s => if s.all (fun c => decide (c < 128)) = true /\ s.length <= 5592405 then some (.str (s.map up1)) else none
  | _ => none
def bools : List D -> Option (List Bool)
  | [] => some []
  | .bl b :: r => (bools r).map (b :: ·)
  | _ :: _ => none
def t3' : D -> Option D
  | .lst ds => (bools ds).map fun bs => .bl (bs.all id)
  | _ => none
def t2' : D -> Option D
  | .lst ds => (bools ds).map fun bs => .bl (bs.any id)
  | _ => none
def CK' : D -> Option D
  | .lst ds => some (.lst ds)
  | .tup ds => some (.lst ds)
  | .str s => some (.lst (s.map chD))
  | _ => none
def kD' : D -> Option D
  | .str s => some (.lst (s.map chD))
  | d => CK' d
def ck' : D -> Option D
  | .str s => some (.tup (s.map chD))
  | .lst ds => some (.tup ds)
  | .tup ds => some (.tup ds)
  | _ => none
def l1' : D -> Option D
  | .int i => some (.int i)
  | .bl b => some (.int (if b then 1 else 0))
  | _ => none
def BM' : D -> Option D
  | .int i => some (.int (if i < 0 then -i else i))
  | _ => none
def t1' : D -> D -> Option D
  | .int i, .int j => some (.int (if j > i then j else i))
  | _, _ => none
def t0' : D -> D -> Option D
  | .int i, .int j => some (.int (if j < i then j else i))
  | _, _ => none
def ol' : List Int -> Int
  | [] => 0
  | [x] => x
  | x :: r => max x (ol' r)
def pa' : D -> Option D
  | .dct _ vs => (bU' vs).bind fun ns => if ns = [] then none else some (.int (ol' ns))
  | _ => none
def tyn : D -> Option String
  | .non => some "NoneType" | .bl _ => some "bool" | .int _ => some "int" | .str _ => some "str"
  | .tup _ => some "tuple" | .lst _ => some "list" | .dct _ _ => some "dict"
  | _ => none
def ca' (t : String) (d : D) : Option D := (tyn d).map fun n => .bl (n == t || (n == "bool" && t == "int"))
abbrev ME := PSt -> Res D
abbrev MO := PSt -> Res O
abbrev MA := PSt -> Res (List D)
abbrev MT := PSt -> Res Bool
abbrev MS := PSt -> Out
abbrev MF := List D -> W -> FRes
abbrev MG := D -> PSt -> Option PSt
abbrev MI := PSt -> Res (List D)
@[simp] def Res.bind {α β : Type} (r : Res α) (f : α -> PSt -> Res β) : Res β := match r with
  | .ok a ρ => f a ρ
  | .exc x ρ => .exc x ρ
  | .bad => .bad
@[simp] def Res.out {α : Type} (r : Res α) (f : α -> PSt -> Out) : Out := match r with
  | .ok a ρ => f a ρ
  | .exc x ρ => .exc x ρ
  | .bad => .bad
@[simp] def ofO {α : Type} (o : Option α) (ρ : PSt) : Res α := match o with
  | some a => .ok a ρ
  | none => .bad
@[simp] def eC (d : D) : ME := fun ρ => .ok d ρ
@[simp] def eV (i : Nat) : ME := fun ρ => match ρ.env[i]? with
  | some (some (.fz d)) => .ok d ρ
  | some (some .exn) => .bad
  | some (some .clo) => .bad
  | some (some o) => .ok (frz o) ⟨ρ.env.set i (some (.fz (frz o))), ρ.w⟩
  | _ => .bad
@[simp] def eOp (f : D -> D -> Option D) (a b : ME) : ME := fun ρ => (a ρ).bind fun x ρ1 => (b ρ1).bind fun y ρ2 => ofO (f x y) ρ2
@[simp] def eUn (f : D -> Option D) (a : ME) : ME := fun ρ => (a ρ).bind fun x ρ1 => ofO (f x) ρ1
@[simp] def asB (d : D) (ρ : PSt) : Res Bool := match d with
  | .bl b => .ok b ρ
  | _ => .bad
@[simp] def oH' (a b : ME) : ME := fun ρ => (a ρ).bind fun x ρ1 => (asB x ρ1).bind fun k ρ1 => if k = true then b ρ1 else .ok (.bl false) ρ1
@[simp] def yC' (a : ME) : ME := fun ρ => (a ρ).bind fun x ρ1 => (asB x ρ1).bind fun k ρ1 => .ok (.bl (!k)) ρ1
@[simp] def gF' (f g : D -> D -> Option D) (a b c : ME) : ME := fun ρ => (a ρ).bind fun x ρ1 => (b ρ1).bind fun y ρ2 => (ofO (f x y) ρ2).bind fun r ρ2 => (asB r ρ2).bind fun k ρ2 =>
  if k = true then (c ρ2).bind fun z ρ3 => ofO (g y z) ρ3 else .ok (.bl false) ρ2
@[simp] def aZ' : MA := fun ρ => .ok [] ρ
@[simp] def ad' (a : ME) (r : MA) : MA := fun ρ => (a ρ).bind fun x ρ1 => (r ρ1).bind fun xs ρ2 => .ok (x :: xs) ρ2
@[simp] def pm' (as : MA) : ME := fun ρ => (as ρ).bind fun xs ρ1 => if xs.length <= do' then .ok (.tup xs) ρ1 else .bad
@[simp] def pL' (as : MA) : ME := fun ρ => (as ρ).bind fun xs ρ1 => if xs.length <= do' then .ok (.lst xs) ρ1 else .bad
@[simp] def eMt (f : Tx -> List D -> Option D) (a : ME) (as : MA) : ME := fun ρ => (a ρ).bind fun x ρ1 => match x with
  | .str s => (as ρ1).bind fun ds ρ2 => ofO (f s ds) ρ2
  | _ => .bad
def r8' (ds : List D) : List D -> Option D
  | [.int v] => (bU' ds).bind fun ns => if v ∈ ns then some (.int ((ns.idxOf v : Nat) : Int)) else none
  | _ => none
abbrev MP := PSt -> Res (Option Int)
@[simp] def pNo : MP := fun ρ => .ok none ρ
@[simp] def pSo (a : ME) : MP := fun ρ => (a ρ).bind fun x ρ1 => match x with | .int i => .ok (some i) ρ1 | _ => .bad
@[simp] def eSl (a : ME) (lo hi : MP) : ME := fun ρ => (a ρ).bind fun x ρ1 => (lo ρ1).bind fun l ρ2 => (hi ρ2).bind fun h ρ3 => ofO (pSl x l h) ρ3
@[simp] def fin (r : FRes) (ρ : PSt) : Res O := match r with
  | .ok o w => .ok o ⟨ρ.env, w⟩
  | .exc x w => .exc x ⟨ρ.env, w⟩
  | .bad => .bad
@[simp] def aB' (f : MF) (as : MA) : MO := fun ρ => (as ρ).bind fun xs ρ1 => fin (f xs ρ1.w) ρ1
@[simp] def eO (a : MO) : ME := fun ρ => (a ρ).bind fun o ρ1 => .ok (frz o) ρ1
@[simp] def oE (a : ME) : MO := fun ρ => (a ρ).bind fun d ρ1 => .ok (.fz d) ρ1
@[simp] def oV (i : Nat) : MO := fun ρ => match ρ.env[i]? with
  | some (some (.fz d)) => .ok (.fz d) ρ
  | some (some .exn) => .bad
  | some (some .clo) => .bad
  | some (some o) => .ok o ⟨ρ.env.set i none, ρ.w⟩
  | _ => .bad
abbrev MOA := PSt -> Res (List O)
@[simp] def te' (a : ME) : MO := fun ρ => (a ρ).bind fun d ρ1 => match d with | .lst ds => .ok (.lst (ds.map .fz)) ρ1 | _ => .bad
@[simp] def kK' : MO := fun ρ => .ok (.dct [] []) ρ
def RgB (a b : Int) : Bool := decide (-(2 ^ 62) <= a) && decide (a < 2 ^ 62) && decide (-(2 ^ 62) <= b) && decide (b < 2 ^ 62) && decide ((b - a).toNat <= 16777216)
def sy' (a b : Int) : List D := (List.range (b - a).toNat).map fun i => .int (a + (i : Nat))
@[simp] def oc' : D -> Option D
  | .int b => if RgB 0 b = true then some (.lst (sy' 0 b)) else none
  | _ => none
@[simp] def items : O -> Option (List O)
  | .fz (.lst ds) => some (ds.map .fz)
  | .fz (.tup ds) => some (ds.map .fz)
  | .fz (.str s) => some (s.map fun c => .fz (chD c))
  | .lst os => some os
  | .tup os => some os
  | _ => none
@[simp] def ixO : O -> D -> Option D
  | .fz d, k => pIx d k
  | .lst os, .int i => match ati os i with | some (.fz d) => some d | _ => none
  | .tup os, .int i => match ati os i with | some (.fz d) => some d | _ => none
  | _, _ => none
@[simp] def yD' (i : Nat) (b : ME) : ME := fun ρ => match ρ.env[i]? with
  | some (some _) => (b ρ).bind fun k ρ1 => match ρ1.env[i]? with
    | some (some o) => ofO (ixO o k) ρ1
    | _ => .bad
  | _ => .bad
@[simp] def inO (x : D) : O -> Option D
  | .fz d => pIn x d
  | .lst os => if os.all (fun o => match o with | .fz _ => true | _ => false) = true then pIn x (.lst (os.map frz)) else none
  | _ => none
@[simp] def z2' : Option D -> Option D
  | some (.bl b) => some (.bl (!b))
  | _ => none
@[simp] def pf' : O -> Option D
  | .fz d => c8' d
  | .lst os => some (.int os.length)
  | .tup os => some (.int os.length)
  | .dct ks _ => some (.int ks.length)
  | .dcx ks _ => some (.int ks.length)
  | .exn => none
  | .clo => none
@[simp] def ia' (i : Nat) : ME := fun ρ => match ρ.env[i]? with
  | some (some o) => ofO (pf' o) ρ
  | _ => .bad
@[simp] def uR' : Option (Option O) -> Option D
  | some (some (.fz d)) => some d
  | _ => none
@[simp] def tf' (neg : Bool) (i : Nat) (a : ME) : ME := fun ρ => (a ρ).bind fun k ρ1 => match ρ1.env[i]? with
  | some (some o) => ofO ((cF' o k).map fun r => .bl (r.isSome != neg)) ρ1
  | _ => .bad
@[simp] def pM' (i : Nat) (a : ME) : ME := fun ρ => match ρ.env[i]? with
  | some (some _) => (a ρ).bind fun k ρ1 => match ρ1.env[i]? with
    | some (some o) => ofO (uR' (cF' o k)) ρ1
    | _ => .bad
  | _ => .bad
@[simp] def jb' (i : Nat) (k a : ME) : ME := fun ρ => match ρ.env[i]? with
  | some (some (.dct _ _)) => (k ρ).bind fun y ρ1 => (a ρ1).bind fun d ρ2 => match ρ2.env[i]? with
    | some (some (.dct ks os)) => if isK y = true /\ ks.length < do' then (match dget ks os y with
      | some (.fz e) => .ok e ρ2
      | some _ => .bad
      | none => .ok d ⟨ρ2.env.set i (some (.dct (ks ++ [y]) (os ++ [.fz d]))), ρ2.w⟩) else .bad
    | _ => .bad
  | _ => .bad
@[simp] def r0' : MO := fun ρ => .ok (.dcx [] []) ρ
def hS' (x : Bool) (y d : D) : Option O := if x = true then (if kat y = true /\ dep y <= 8 /\ sca y = false then some (.dcx [y] [.fz d]) else none) else (if isK y = true then some (.dct [y] [.fz d]) else none)
@[simp] def h0' (x : Bool) (k a : ME) : MO := fun ρ => (k ρ).bind fun y ρ1 => (a ρ1).bind fun d ρ2 => ofO (hS' x y d) ρ2
@[simp] def tO' (i : Nat) (k a : ME) : MS := fun ρ => (a ρ).out fun d ρ1 => match ρ1.env[i]? with
  | some (some _) => (k ρ1).out fun y ρ2 => match ρ2.env[i]? with
    | some (some o) => (match eX' o y (.fz d) with
      | some o' => .nx ⟨ρ2.env.set i (some o'), ρ2.w⟩
      | none => .bad)
    | _ => .bad
  | _ => .bad
@[simp] def ixW (w : W) : D -> D -> Option D
  | .obj n, k => match w[n]? with | some (.lst os) => ixO (.lst os) k | _ => none
  | d, k => pIx d k
@[simp] def jW' (a b : ME) : ME := fun ρ => (a ρ).bind fun x ρ1 => (b ρ1).bind fun y ρ2 => ofO (ixW ρ2.w x y) ρ2
@[simp] def z0' (as : MA) : MO := fun ρ => (as ρ).bind fun xs ρ1 => if xs.length <= do' then .ok (.fz (.obj ρ1.w.length)) ⟨ρ1.env, ρ1.w ++ [.lst (xs.map .fz)]⟩ else .bad
@[simp] def tE (a : ME) : MT := fun ρ => (a ρ).bind asB
@[simp] def eJ' (a : MT) : MT := fun ρ => (a ρ).bind fun k ρ1 => .ok (!k) ρ1
@[simp] def za' (a b : MT) : MT := fun ρ => (a ρ).bind fun k ρ1 => if k = true then b ρ1 else .ok false ρ1
@[simp] def tOr (a b : MT) : MT := fun ρ => (a ρ).bind fun k ρ1 => if k = true then .ok true ρ1 else b ρ1
@[simp] def eC' (a : ME) : MI := fun ρ => (a ρ).bind fun d ρ1 => ofO (eU' d) ρ1
def rgI (lo : Int) (n : Nat) : List D := (List.range n).map fun i => .int (lo + (i : Nat))
def th' (i : Int) : Bool := decide (-(2 ^ 62) <= i) && decide (i < 2 ^ 62)
@[simp] def f0' : D -> Option (List D)
  | .int j => if th' j = true then some (rgI 0 j.toNat) else none
  | _ => none
@[simp] def fZ' : D -> D -> Option (List D)
  | .int i, .int j => if th' i = true /\ th' j = true then some (rgI i (j - i).toNat) else none
  | _, _ => none
@[simp] def bO' (a : ME) : MI := fun ρ => (a ρ).bind fun x ρ1 => ofO (f0' x) ρ1
@[simp] def h8' (a b : ME) : MI := fun ρ => (a ρ).bind fun x ρ1 => (b ρ1).bind fun y ρ2 => ofO (fZ' x y) ρ2
def dN' : List D -> List D -> List D
  | x :: xs, y :: ys => .tup [x, y] :: dN' xs ys
  | _, _ => []
def mi' (k : Nat) : List D -> List D
  | [] => []
  | x :: xs => .tup [.int k, x] :: mi' (k + 1) xs
@[simp] def CJ' (x y : D) : Option (List D) := match eU' x, eU' y with
  | some a, some b => some (dN' a b)
  | _, _ => none
def ta' (x y : D) : Option (List D) := match x, y with
  | .str _, .str _ => CJ' x y
  | .lst _, .lst _ => CJ' x y
  | .tup _, .tup _ => CJ' x y
  | _, _ => none
def enB : D -> Option (List D)
  | .str s => some (mi' 0 (s.map chD))
  | .lst ds => some (mi' 0 ds)
  | _ => none
def BI' : D -> Option (List D)
  | .lst ds => some ds.reverse
  | .tup ds => some ds.reverse
  | _ => none
def D0' (x y : D) : Option (List D) := match x, y with
  | .str s, .tup ds => some (dN' (s.map chD) ds)
  | _, _ => none
@[simp] def Aq' (a b : ME) : MI := fun ρ => (a ρ).bind fun x ρ1 => (b ρ1).bind fun y ρ2 => ofO (ta' x y) ρ2
def DR' : D -> Option (List D)
  | .dct ks _ => some ks
  | _ => none
def DQ' : D -> Option (List D)
  | .dct _ vs => some vs
  | _ => none
def sQ' : D -> Option (List D)
  | .dct ks vs => some (dN' ks vs)
  | _ => none
@[simp] def sC' (f : D -> Option (List D)) (a : ME) : MI := fun ρ => (a ρ).bind fun x ρ1 => ofO (f x) ρ1
@[simp] def gN (i : Nat) : MG := fun d ρ => if i < ρ.env.length then some ⟨ρ.env.set i (some (.fz d)), ρ.w⟩ else none
@[simp] def gNs : List Nat -> List D -> PSt -> Option PSt
  | [], [], ρ => some ρ
  | i :: is, d :: ds, ρ => (gN i d ρ).bind (gNs is ds)
  | _, _, _ => none
@[simp] def gT (is : List Nat) : MG := fun d ρ => match d with
  | .tup ds => gNs is ds ρ
  | _ => none
@[simp] def noX {α : Type} : Res α -> Res α
  | .exc _ _ => .bad
  | r => r
def az' : List Nat -> List (Option O) -> List (Option O)
  | [], env => env
  | i :: is, env => (az' is env).set i none
def back (env : List (Option O)) : List Nat -> List (Option O) -> List (Option O)
  | [], env' => env'
  | i :: is, env' => (back env is env').set i (match env[i]? with | some (some (.fz d)) => some (.fz d) | _ => none)
def lcL (own : List Nat) (g : MG) (t : MT) (e : ME) : List D -> List D -> PSt -> Res (List D)
  | [], acc, ρ => .ok acc ρ
  | x :: xs, acc, ρ => match g x ⟨az' own ρ.env, ρ.w⟩ with
    | none => .bad
    | some ρ1 => (noX (t ρ1)).bind fun k ρ2 => if k = true then (noX (e ρ2)).bind fun y ρ3 => if acc.length < do' then lcL own g t e xs (acc ++ [y]) ρ3 else .bad else lcL own g t e xs acc ρ2
@[simp] def eLc (own : List Nat) (it : MI) (g : MG) (t : MT) (e : ME) : ME := fun ρ => (it ρ).bind fun xs ρ1 =>
  (lcL own g t e xs [] ρ1).bind fun ys ρ2 => .ok (.lst ys) ⟨back ρ1.env own (az' own ρ2.env), ρ2.w⟩
@[simp] def oLc (own : List Nat) (it : MI) (g : MG) (t : MT) (e : ME) : MO := fun ρ => (it ρ).bind fun xs ρ1 =>
  (lcL own g t e xs [] ρ1).bind fun ys ρ2 => .ok (.lst (ys.map .fz)) ⟨back ρ1.env own (az' own ρ2.env), ρ2.w⟩
def dcL (own : List Nat) (g : MG) (t : MT) (ek ev : ME) : List D -> List D -> List D -> PSt -> Res (List D × List D)
  | [], ks, vs, ρ => .ok (ks, vs) ρ
  | x :: xs, ks, vs, ρ => match g x ⟨az' own ρ.env, ρ.w⟩ with
    | none => .bad
    | some ρ1 => (noX (t ρ1)).bind fun k ρ2 => if k = true then (noX (ek ρ2)).bind fun y ρ3 => (noX (ev ρ3)).bind fun z ρ4 => (if isK y = true /\ ks.length < do' then (match l0' ks vs y z with
      | some p => dcL own g t ek ev xs p.1 p.2 ρ4
      | none => .bad) else .bad) else dcL own g t ek ev xs ks vs ρ2
@[simp] def oDc (own : List Nat) (it : MI) (g : MG) (t : MT) (ek ev : ME) : MO := fun ρ => (it ρ).bind fun xs ρ1 =>
  (dcL own g t ek ev xs [] [] ρ1).bind fun p ρ2 => .ok (.dct p.1 (p.2.map .fz)) ⟨back ρ1.env own (az' own ρ2.env), ρ2.w⟩
@[simp] def tT : MT := fun ρ => .ok true ρ
@[simp] def bf' : MS := fun ρ => .nx ρ
@[simp] def iA' (a : ME) : MS := fun ρ => (a ρ).out fun _ ρ1 => .nx ρ1
@[simp] def bX' (a : MO) : MS := fun ρ => (a ρ).out fun o ρ1 => .rt o ρ1.w
@[simp] def aA' (a b : MS) : MS := fun ρ => match a ρ with
  | .nx ρ1 => b ρ1
  | r => r
@[simp] def sIf (t : MT) (a b : MS) : MS := fun ρ => (t ρ).out fun k ρ1 => if k = true then a ρ1 else b ρ1
@[simp] def wJ' (i : Nat) (o : O) (ρ : PSt) : Out := if i < ρ.env.length then .nx ⟨ρ.env.set i (some o), ρ.w⟩ else .bad
@[simp] def bM' (i : Nat) (a : MO) : MS := fun ρ => (a ρ).out fun o ρ1 => wJ' i o ρ1
@[simp] def zw' (g : MG) (a : ME) : MS := fun ρ => (a ρ).out fun d ρ1 => match g d ρ1 with | some ρ2 => .nx ρ2 | none => .bad
@[simp] def yw' (f : D -> D -> Option D) (i : Nat) (a : ME) : MS := fun ρ => match ρ.env[i]? with
  | some (some (.fz d)) => (a ρ).out fun y ρ1 => match f d y with | some z => wJ' i (.fz z) ρ1 | none => .bad
  | _ => .bad
@[simp] def d6' (x : String) : MS := fun ρ => .exc ⟨x, []⟩ ρ
@[simp] def pI' (i : Nat) (a : MO) : MS := fun ρ => match ρ.env[i]? with
  | some (some (.lst _)) => (a ρ).out fun o ρ1 => match ρ1.env[i]? with
    | some (some (.lst os)) => if os.length < do' then .nx ⟨ρ1.env.set i (some (.lst (os ++ [o]))), ρ1.w⟩ else .bad
    | _ => .bad
  | _ => .bad
@[simp] def Ef' (w : W) : D -> Option D
  | .obj n => (match w[n]? with
    | some (.lst os) => some (.int os.length)
    | _ => none)
  | _ => none
@[simp] def tz' (w : W) (x k d : D) : Option W := match x, k with
  | .obj n, .int z => match w[n]? with
    | some (.lst os) => (ixn os.length z).map fun j => w.set n (.lst (os.set j (.fz d)))
    | _ => none
  | _, _ => none
@[simp] def js' (o k a : ME) : MS := fun ρ => (a ρ).out fun d ρ1 => (o ρ1).out fun x ρ2 => (k ρ2).out fun y ρ3 => match tz' ρ3.w x y d with
  | some w => .nx ⟨ρ3.env, w⟩
  | none => .bad
def oD' (g : MG) (b : MS) : List D -> MS
  | [], ρ => .nx ρ
  | d :: ds, ρ => match g d ρ with
    | none => .bad
    | some ρ1 => match b ρ1 with
      | .nx ρ2 => oD' g b ds ρ2
      | .ct ρ2 => oD' g b ds ρ2
      | .bk ρ2 => .nx ρ2
      | r => r
@[simp] def gq' (it : MI) (g : MG) (b : MS) : MS := fun ρ => (it ρ).out fun ds ρ1 => oD' g b ds ρ1
def eH' (t : MT) (b : MS) : Nat -> MS
  | 0, _ => .bad
  | n + 1, ρ => (t ρ).out fun k ρ1 => if k = true then (match b ρ1 with
      | .nx ρ2 => eH' t b n ρ2
      | .ct ρ2 => eH' t b n ρ2
      | .bk ρ2 => .nx ρ2
      | r => r) else .nx ρ1
def yE' : Nat := 2 ^ 40
@[simp] def iX' (n : Nat) (t : MT) (b : MS) : MS := fun ρ => eH' t b n ρ
abbrev ET := List (String × String × Bool)
def sub : ET -> String -> String -> Option Bool
  | [], _, _ => none
  | (a, b, r) :: t, x, c => if a = x /\ b = c then some r else sub t x c
@[simp] def Ed' : Out -> Out
  | .exc _ _ => .bad
  | r => r
@[simp] def BH' : MS := fun _ => .bad
@[simp] def hds (hs : List ((String -> Option Bool) × (Exc -> MS))) (x : Exc) (ρ : PSt) : Out := match hs with
  | [] => .exc x ρ
  | (g, h) :: r => (match g x.cls with
    | some true => Ed' (h x ρ)
    | some false => hds r x ρ
    | none => .bad)
def rP' (f : String) (o : O) : List (String × O) -> List (String × O)
  | [] => [(f, o)]
  | (g, x) :: r => if g = f then (g, o) :: r else (g, x) :: rP' f o r
@[simp] def h9' (cs : List String) (f : String) (w : W) : D -> Option D
  | .obj n => (match w[n]? with
    | some (.ins C fs) => if C ∈ cs then (match fs.lookup f with | some (.fz d) => some d | _ => none) else none
    | _ => none)
  | _ => none
@[simp] def e8' (cs : List String) (a : ME) (f : String) : ME := fun ρ => (a ρ).bind fun x ρ1 => ofO (h9' cs f ρ1.w x) ρ1
@[simp] def stF (cs : List String) (f : String) (o : O) (w : W) : D -> Option W
  | .obj n => (match w[n]? with
    | some (.ins C fs) => if C ∈ cs /\ fs.length < 1000 then some (w.set n (.ins C (rP' f o fs))) else none
    | _ => none)
  | _ => none
@[simp] def sFld (cs : List String) (a : ME) (f : String) (v : MO) : MS := fun ρ => (v ρ).out fun o ρ1 => (a ρ1).out fun x ρ2 => match stF cs f o ρ2.w x with
  | some w => .nx ⟨ρ2.env, w⟩
  | none => .bad
@[simp] def kJ' (C : String) (init : MF) (as : MA) : MO := fun ρ => (as ρ).bind fun ds ρ1 => match init (.obj ρ1.w.length :: ds) (ρ1.w ++ [.ins C []]) with
  | .ok (.fz .non) w => .ok (.fz (.obj ρ1.w.length)) ⟨ρ1.env, w⟩
  | .ok _ _ => .bad
  | .exc x w => .exc x ⟨ρ1.env, w⟩
  | .bad => .bad
def jI' (cs : List String) (m : String) (w : W) : D -> Bool
  | .obj n => (match w[n]? with
    | some (.ins C' fs) => decide (C' ∈ cs) && (fs.lookup m).isNone
    | _ => false)
  | _ => false
@[simp] def cM' (cs : List String) (m : String) (f : MF) (a : ME) (as : MA) : MO := fun ρ => (a ρ).bind fun x ρ1 => if jI' cs m ρ1.w x = true then (as ρ1).bind fun ds ρ2 => fin (f (x :: ds) ρ2.w) ρ2 else .bad
def sz' (ps : List (String × String)) (w : W) : D -> D -> Bool
  | .obj n, .obj m => (match w[n]?, w[m]? with
    | some (.ins C _), some (.ins C' _) => decide ((C, C') ∈ ps)
    | _, _ => false)
  | _, _ => false
@[simp] def xM' (ps : List (String × String)) (f : MF) (a b : ME) : ME := fun ρ => (a ρ).bind fun x ρ1 => (b ρ1).bind fun y ρ2 => if sz' ps ρ2.w x y = true then (match f [x, y] ρ2.w with
    | .ok (.fz (.bl r)) w => .ok (.bl r) ⟨ρ2.env, w⟩
    | _ => .bad) else .bad
def isC (t : ET) (c : String) (w : W) : D -> Option Bool
  | .obj n => (match w[n]? with
    | some (.ins C _) => sub t C c
    | _ => none)
  | d => (tyn d).map fun _ => false
@[simp] def AB' (t : ET) (c : String) (a : ME) : ME := fun ρ => (a ρ).bind fun x ρ1 => ofO ((isC t c ρ1.w x).map .bl) ρ1
def xE' : O -> Bool
  | .fz _ => true
  | _ => false
@[simp] def fnM (k n : Nat) (b : MS) : MF := fun ds w => if ds.length = k then (match b ⟨ds.map (fun d => some (.fz d)) ++ List.replicate (n - k) none, w⟩ with
    | .nx ρ => .ok (.fz .non) ρ.w
    | .rt o w => .ok o w
    | .exc x ρ => .exc x ρ.w
    | _ => .bad) else .bad
def Ej' (x y : D) : Option (List D) := match x, y with
  | .str s, .lst ds => some (dN' (s.map chD) ds)
  | _, _ => none
end M
namespace M
def ED' (c : Nat) : D -> Option D
  | .str s => if s.length <= 1000000 then some (.str (s.filter fun d => decide (d ≠ c))) else none
  | _ => none
end M
namespace M
def BC' : D -> D -> Option (List D)
  | .tup a, .tup b => some (dN' a b)
  | _, _ => none
@[simp] def sB' (a b : ME) : MI := fun ρ => (a ρ).bind fun x ρ1 => (b ρ1).bind fun y ρ2 => ofO (BC' x y) ρ2
def BQ' : O -> D -> Option O
  | .lst os, .lst ds => if os.length + ds.length <= do' then some (.lst (os ++ ds.map .fz)) else none
  | _, _ => none
@[simp] def yv' (i : Nat) (a : ME) : MS := fun ρ => match ρ.env[i]? with
  | some (some (.lst _)) => (a ρ).out fun d ρ1 => match ρ1.env[i]?, d with
    | some (some (.lst os)), .lst ds => if os.length + ds.length <= do' then .nx ⟨ρ1.env.set i (some (.lst (os ++ ds.map .fz))), ρ1.w⟩ else .bad
    | _, _ => .bad
  | _ => .bad
def hE' : O -> D -> D -> Option (D × O)
  | .dcx ks os, y, d => if oq' ks y = true /\ sca y = false /\ ks.length < do' then (match dget ks os y with
    | some (.fz e) => some (e, .dcx ks os)
    | some _ => none
    | none => some (d, .dcx (ks ++ [y]) (os ++ [.fz d]))) else none
  | _, _, _ => none
@[simp] def gd' (i : Nat) (k a : ME) : ME := fun ρ => match ρ.env[i]? with
  | some (some (.dcx _ _)) => (k ρ).bind fun y ρ1 => (a ρ1).bind fun d ρ2 => match ρ2.env[i]? with
    | some (some o) => (match hE' o y d with
      | some p => .ok p.1 ⟨ρ2.env.set i (some p.2), ρ2.w⟩
      | none => .bad)
    | _ => .bad
  | _ => .bad
@[simp] def pn' (ps : List (String × String)) (f : MF) (a b : ME) : ME := fun ρ => (a ρ).bind fun x ρ1 => (b ρ1).bind fun y ρ2 => if sz' ps ρ2.w x y = true then (match f [y, x] ρ2.w with
    | .ok (.fz (.bl r)) w => .ok (.bl r) ⟨ρ2.env, w⟩
    | _ => .bad) else .bad
mutual
def okO : O -> Bool
  | .fz d => dat d
  | .lst os => okOs os
  | .tup os => okOs os
  | _ => false
def okOs : List O -> Bool
  | [] => true
  | o :: r => okO o && okOs r
end
def okM : List Bool -> List (Option O) -> Bool
  | [], _ => true
  | _ :: _, [] => false
  | false :: m, _ :: r => okM m r
  | true :: m, some o :: r => okO o && okM m r
  | true :: _, none :: _ => false
def tg' : List Bool -> List (Option O) -> List (Option O)
  | _, [] => []
  | [], _ :: r => none :: tg' [] r
  | false :: m, _ :: r => none :: tg' m r
  | true :: m, x :: r => (x.map fun o => .fz (frz o)) :: tg' m r
def BG' : D -> Bool
  | .non => true | .bl _ => true | .int _ => true | .str _ => true
  | _ => false
def unO : O -> Option (List O)
  | .tup os => some os
  | .fz (.tup ds) => some (ds.map .fz)
  | _ => none
def yB' : List Nat -> List O -> PSt -> Option PSt
  | [], [], ρ => some ρ
  | i :: is, o :: os, ρ => if i < ρ.env.length then yB' is os ⟨ρ.env.set i (some o), ρ.w⟩ else none
  | _, _, _ => none
end M
namespace M
def Ab' (a b : Tx) : Bool := !decide (b < a)
def zi' (l : List Tx) : List Tx := l.mergeSort Ab'
def tZ' : D -> Option D
  | .lst ds => (d2' ds).bind fun xs => if xs.length < 64 then some (.lst ((zi' xs).map .str)) else none
  | _ => none
end M
namespace M
end M
namespace M
end M
namespace M
def CF' (a b : Nat × Tx) : Bool := decide (a.1 < b.1) || (decide (a.1 = b.1) && Ab' a.2 b.2)
def hP' : List D -> List O -> Option (List (Nat × Tx))
  | [], [] => some []
  | .int i :: ks, .fz (.str s) :: os => if 0 <= i then (hP' ks os).map ((i.toNat, s) :: ·) else none
  | _, _ => none
def vp' : O -> Option D
  | .dct ks os => (hP' ks os).map fun ps => .lst ((ps.mergeSort CF').map fun p => .tup [.int (p.1 : Nat), .str p.2])
  | _ => none
end M
namespace M
mutual
def Ec' (kl kd : Bool) : D -> Bool
  | .tup ds => nodDs kl kd ds
  | .lst ds => !kl && nodDs kl kd ds
  | .scr ds => !kl && nodDs kl kd ds
  | .dct _ vs => !kd && nodDs kl kd vs
  | .dcx ks vs => nodDs kl kd ks && nodDs kl kd vs
  | _ => true
def nodDs (kl kd : Bool) : List D -> Bool
  | [] => true
  | d :: r => Ec' kl kd d && nodDs kl kd r
end
mutual
def Eb' (kl kd : Bool) : O -> Bool
  | .fz d => Ec' kl kd d
  | .lst os => nodOs kl kd os
  | .tup os => nodOs kl kd os
  | .dct _ os => nodOs kl kd os
  | .dcx ks os => nodDs kl kd ks && nodOs kl kd os
  | .exn => true
  | .clo => true
def nodOs (kl kd : Bool) : List O -> Bool
  | [] => true
  | o :: r => Eb' kl kd o && nodOs kl kd r
end
def lendO (kl kd : Bool) : O -> Bool
  | .fz _ => true
  | .lst os => kl && os.all xE'
  | .dct _ os => kd && os.all xE'
  | _ => false
def okL (kl kd : Bool) : List Bool -> List (Option O) -> Bool
  | [], _ => true
  | _ :: _, [] => false
  | false :: m, _ :: r => okL kl kd m r
  | true :: m, some o :: r => lendO kl kd o && okL kl kd m r
  | true :: _, none :: _ => false
def BN' : O -> Nat
  | .fz _ => 0
  | _ => 1
def yk' : List Bool -> List (Option O) -> Nat
  | true :: m, some o :: r => BN' o + yk' m r
  | false :: m, _ :: r => yk' m r
  | _, _ => 0
def EC' : D -> D -> Option D
  | .int i, .int j => if 0 <= j /\ j <= 1000 /\ small64 i = true then some (.int (i * 2 ^ j.toNat)) else none
  | _, _ => none
def EB' : D -> D -> Option D
  | .int i, .int j => if 0 <= j then some (.int (i / 2 ^ j.toNat)) else none
  | _, _ => none
@[simp] def gL (is : List Nat) : MG := fun d ρ => match d with
  | .lst ds => gNs is ds ρ
  | _ => none
def gSq : List MG -> List D -> PSt -> Option PSt
  | [], [], ρ => some ρ
  | g :: gs, d :: ds, ρ => (g d ρ).bind (gSq gs ds)
  | _, _, _ => none
def gTg (gs : List MG) : MG := fun d ρ => match d with
  | .tup ds => gSq gs ds ρ
  | _ => none
end M
namespace M
end M
namespace M
end M
namespace M
end M
namespace M
end M
namespace M
end M
namespace M
end M
namespace M
def AA' : List Bool -> List D -> Option (List (Option O))
  | [], [] => some []
  | true :: m, ds => (AA' m ds).map (some .clo :: ·)
  | false :: m, d :: ds => (AA' m ds).map (some (.fz d) :: ·)
  | _, _ => none
inductive AK where
  | e (a : ME) | c (f : MF) (js : List Nat)
end M
namespace M
def allFz : List O -> Option (List D)
  | [] => some []
  | .fz d :: r => (allFz r).map (d :: ·)
  | _ => none
end M
namespace M
end M
namespace M
end M
namespace M
end M
namespace S
open PySem PySem.Spec PyProof.Rows L2
def Eg' (K : PySem.W.Frag) (ps : List (String × String)) (g : Addr) : Bool := ps.all fun p => decide (PySem.W.findIn K (.ref (He.ga K (Str.ofString p.1))) "__eq__" = some (some (.ref g))) && (PySem.W.isFn K (.ref g) &&
  PySem.W.notFirst K (He.ga K (Str.ofString p.1)) (.ref (He.ga K (Str.ofString p.2))))
def xx' (K : PySem.W.Frag) (t : M.ET) (c : String) : Bool := (t.all fun e => !decide (e.2.1 = c) || ((He.Fa.cls (Str.ofString e.1)).ok K && (decide (PySem.W.findIn K (.ref (He.ga K (Str.ofString e.1))) "__class__" = some (some (.builtin "object.__class__"))) &&
    (decide (PySem.W.specialIn K (.builtin "object.__class__") "__get__" = some (some (.builtin "getset_descriptor.__get__"))) && (decide (PySem.W.takesIn K (.builtin "object.__class__") = some true) && (decide (PySem.W.mroIn K (He.ga K (Str.ofString e.1)) (.type "object") = some true) &&
    decide (PySem.W.kitOne K (.ref (He.ga K (Str.ofString e.1))) (.ref (He.ga K (Str.ofString c))) = some e.2.2))))))) &&
  ["NoneType", "bool", "int", "str", "tuple", "list", "dict"].all fun n => decide (PySem.W.kitOne K (.type n) (.ref (He.ga K (Str.ofString c))) = some false)
def EG' (K : PySem.W.Frag) (ps : List (String × String)) (g : Addr) : Bool := ps.all fun p => decide (PySem.W.findIn K (.ref (He.ga K (Str.ofString p.1))) "__ne__" = some (some (.builtin "object.__ne__"))) &&
  (decide (PySem.W.findIn K (.ref (He.ga K (Str.ofString p.1))) "__eq__" = some (some (.ref g))) && (PySem.W.isFn K (.ref g) && (decide (PySem.W.mroIn K (He.ga K (Str.ofString p.1)) (.type "object") = some true) &&
  PySem.W.notFirst K (He.ga K (Str.ofString p.1)) (.ref (He.ga K (Str.ofString p.2))))))
def DV' : Arguments -> Option (Str × Str)
  | ⟨[], [a, b], none, [], [], none, []⟩ => some (a.arg, b.arg)
  | _ => none
def DT' : FuncBody -> Option (Str × Str × Str × Str × Str)
  | .stmts [.Expr (.Call (.Attribute (.Call (.Name s _) [] [] _) m p) [.Constant (.str _) _ _] [] q) _, .Assign [.Attribute (.Name a _) f _] (.Name b _) _] => if (p.endLine == q.line) = true then some (s, m, a, f, b) else none
  | _ => none
def Az' (K : PySem.W.Frag) (ps : List (String × String)) (g : Addr) : Bool := ps.all fun p => decide (PySem.W.findIn K (.ref (He.ga K (Str.ofString p.2))) "__eq__" = some (some (.ref g))) && (PySem.W.isFn K (.ref g) &&
  (decide (He.ga K (Str.ofString p.1) ≠ He.ga K (Str.ofString p.2)) && decide (PySem.W.subIn K (.ref (He.ga K (Str.ofString p.2))) (.ref (He.ga K (Str.ofString p.1))) = some true)))
def bmB (K : PySem.W.Frag) : Bool := match K.lookup (He.ga K "__builtins__") with
  | some ⟨.type m, some d, .plain, _⟩ => decide (m = "module") && (decide (d = builtinsNs) && (decide (He.ga K "__builtins__" ≠ builtinsNs) && decide (He.ga K "__builtins__" ≠ mainGlobals)))
  | _ => false
end S
namespace M
def isT : ET := [("Machine", "Machine", true), ("RawMachine", "Machine", true)]
def f_is_integer : MF := fnM 1 1 ((bX' (oE (oH' (eUn (ca' "int") (eV 0)) (yC' (eUn (ca' "bool") (eV 0)))))))
def f_check_number : MF := fnM 3 3 ((sIf (tOr (eJ' (tE (eO (aB' f_is_integer (ad' (eV 0) aZ'))))) (tOr (tE (eOp pLt (eV 0) (eV 1))) (tE (eOp pGt (eV 0) (eV 2))))) (d6' "NoNumber") bf'))
def f_is_string_of : MF := fnM 2 3 ((aA' (sIf (eJ' (tE (eUn (ca' "str") (eV 0)))) (bX' (oE (eC (.bl false)))) bf')
  (aA' (gq' (eC' (eV 0)) (gN 2) (sIf (tE (eOp kB' (eV 2) (eV 1))) (bX' (oE (eC (.bl false)))) bf'))
  (bX' (oE (eC (.bl true)))))))
def f_is_ascending : MF := fnM 1 3 ((aA' (gq' (Aq' (eV 0) (eSl (eV 0) (pSo (eC (.int 1))) pNo)) (gT [1, 2]) (sIf (tE (eOp pGe (eV 1) (eV 2))) (bX' (oE (eC (.bl false)))) bf'))
  (bX' (oE (eC (.bl true))))))
def f_is_choice : MF := fnM 2 2 ((bX' (oE (oH' (eO (aB' f_is_string_of (ad' (eV 0) (ad' (eV 1) aZ')))) (eO (aB' f_is_ascending (ad' (eV 0) aZ')))))))
def f_is_word : MF := fnM 2 2 ((bX' (aB' f_is_string_of (ad' (eV 1) (ad' (e8' ["Machine", "RawMachine"] (eV 0) "kept_letters") aZ')))))
def f_check_word : MF := fnM 2 2 ((sIf (eJ' (tE (eO (aB' f_is_word (ad' (eV 0) (ad' (eV 1) aZ')))))) (d6' "NoWord") bf'))
def f_are_states : MF := fnM 2 3 ((aA' (sIf (eJ' (tE (eUn (ca' "tuple") (eV 0)))) (bX' (oE (eC (.bl false)))) bf')
  (aA' (gq' (eC' (eV 0)) (gN 2) (sIf (tOr (eJ' (tE (eO (aB' f_is_integer (ad' (eV 2) aZ'))))) (tOr (tE (eOp pLt (eV 2) (eC (.int 0)))) (tE (eOp pGe (eV 2) (eV 1))))) (bX' (oE (eC (.bl false)))) bf'))
  (bX' (oE (eC (.bl true)))))))
def f_is_table : MF := fnM 2 3 ((aA' (sIf (tOr (eJ' (tE (eUn (ca' "tuple") (eV 0)))) (eJ' (tE (gF' pLe pLe (eC (.int 1)) (eUn c8' (eV 0)) (eC (.int 6)))))) (bX' (oE (eC (.bl false)))) bf')
  (aA' (gq' (eC' (eV 0)) (gN 2) (sIf (tOr (eJ' (tE (eO (aB' f_are_states (ad' (eV 2) (ad' (eUn c8' (eV 0)) aZ')))))) (tE (eOp pNe (eUn c8' (eV 2)) (eUn c8' (eV 1))))) (bX' (oE (eC (.bl false)))) bf'))
  (bX' (oE (eC (.bl true)))))))
def f_Machine_keep : MF := fnM 4 4 ((aA' (sFld ["Machine", "RawMachine"] (eV 0) "kept_letters" (oE (eV 1)))
  (aA' (sFld ["Machine", "RawMachine"] (eV 0) "kept_table" (oE (eV 2)))
  (aA' (sFld ["Machine", "RawMachine"] (eV 0) "kept_accepts" (oE (eV 3)))
  (aA' (sFld ["Machine", "RawMachine"] (eV 0) "kept_least" (oE (eC .non)))
  (aA' (sFld ["Machine", "RawMachine"] (eV 0) "kept_field" (oE (eC .non)))
  (aA' (sFld ["Machine", "RawMachine"] (eV 0) "kept_lots" kK')
  (sFld ["Machine", "RawMachine"] (eV 0) "kept_more" kK'))))))))
def f_Machine___init__ : MF := fnM 4 4 ((aA' (sIf (tOr (eJ' (tE (eO (aB' f_is_choice (ad' (eV 1) (ad' (eC (.str [97, 98, 99, 100, 101, 102, 103, 104, 105, 106, 107, 108, 109, 110, 111, 112, 113, 114, 115, 116, 117, 118, 119, 120, 121, 122])) aZ')))))) (eJ' (tE (gF' pLe pLe (eC (.int 1)) (eUn c8' (eV 1)) (eC (.int 4)))))) BH' bf')
  (aA' (sIf (eJ' (tE (eO (aB' f_is_table (ad' (eV 2) (ad' (eV 1) aZ')))))) BH' bf')
  (aA' (sIf (tOr (eJ' (tE (eO (aB' f_are_states (ad' (eV 3) (ad' (eUn c8' (eV 2)) aZ')))))) (eJ' (tE (eO (aB' f_is_ascending (ad' (eV 3) aZ')))))) BH' bf')
  (iA' (eO (cM' ["Machine", "RawMachine"] "keep" f_Machine_keep (eV 0) (ad' (eV 1) (ad' (eV 2) (ad' (eV 3) aZ'))))))))))
def f_Machine_letters : MF := fnM 1 1 ((bX' (oE (e8' ["Machine", "RawMachine"] (eV 0) "kept_letters"))))
def f_Machine_table : MF := fnM 1 1 ((bX' (oE (e8' ["Machine", "RawMachine"] (eV 0) "kept_table"))))
def f_Machine_accepts : MF := fnM 1 1 ((bX' (oE (e8' ["Machine", "RawMachine"] (eV 0) "kept_accepts"))))
def f_Machine_parts : MF := fnM 1 1 ((bX' (oE (pm' (ad' (e8' ["Machine", "RawMachine"] (eV 0) "kept_letters") (ad' (e8' ["Machine", "RawMachine"] (eV 0) "kept_table") (ad' (e8' ["Machine", "RawMachine"] (eV 0) "kept_accepts") aZ')))))))
def f_Machine___eq__ : MF := fnM 2 2 ((bX' (oE (oH' (AB' isT "Machine" (eV 1)) (eOp pEq (eO (cM' ["Machine", "RawMachine"] "parts" f_Machine_parts (eV 0) aZ')) (eO (cM' ["Machine", "RawMachine"] "parts" f_Machine_parts (eV 1) aZ')))))))
def f_RawMachine___init__ : MF := fnM 4 4 ((iA' (eO (cM' ["Machine", "RawMachine"] "keep" f_Machine_keep (eV 0) (ad' (eV 1) (ad' (eV 2) (ad' (eV 3) aZ')))))))
def f_led : MF := fnM 3 4 ((aA' (gq' (eC' (eV 2)) (gN 3) (bM' 1 (oE (eOp pIx (eOp pIx (e8' ["Machine", "RawMachine"] (eV 0) "kept_table") (eV 1)) (eMt kU' (e8' ["Machine", "RawMachine"] (eV 0) "kept_letters") (ad' (eV 3) aZ'))))))
  (bX' (oV 1))))
def f_says : MF := fnM 2 2 ((aA' (iA' (eO (aB' f_check_word (ad' (eV 0) (ad' (eV 1) aZ')))))
  (bX' (oE (eOp pIn (eO (aB' f_led (ad' (eV 0) (ad' (eC (.int 0)) (ad' (eV 1) aZ'))))) (e8' ["Machine", "RawMachine"] (eV 0) "kept_accepts"))))))
def f_says_far : MF := fnM 3 6 ((aA' (iA' (eO (aB' f_check_word (ad' (eV 0) (ad' (eV 1) aZ')))))
  (aA' (iA' (eO (aB' f_check_number (ad' (eV 2) (ad' (eC (.int 0)) (ad' (eC (.int 1000000000000000000000000000000)) aZ'))))))
  (aA' (bM' 3 (oLc [4] (bO' (eUn c8' (e8' ["Machine", "RawMachine"] (eV 0) "kept_table"))) (gN 4) tT (eO (aB' f_led (ad' (eV 0) (ad' (eV 4) (ad' (eV 1) aZ')))))))
  (aA' (bM' 4 (oE (eC (.int 0))))
  (aA' (iX' yE' (tE (eOp pGt (eV 2) (eC (.int 0)))) (aA' (sIf (tE (eOp pEq (eOp pK' (eV 2) (eC (.int 2))) (eC (.int 1)))) (bM' 4 (oE (eOp pIx (eV 3) (eV 4)))) bf')
  (aA' (bM' 3 (oLc [5] (eC' (eV 3)) (gN 5) tT (eOp pIx (eV 3) (eV 5))))
  (bM' 2 (oE (eOp jz' (eV 2) (eC (.int 2))))))))
  (bX' (oE (eOp pIn (eV 4) (e8' ["Machine", "RawMachine"] (eV 0) "kept_accepts"))))))))))
def f_reached : MF := fnM 1 5 ((aA' (bM' 1 (te' (pL' (ad' (eC (.int 0)) aZ'))))
  (aA' (bM' 2 (h0' false (eC (.int 0)) (eC (.bl true))))
  (aA' (bM' 3 (oE (eC (.int 0))))
  (aA' (iX' yE' (tE (eOp pLt (eV 3) (ia' 1))) (aA' (gq' (eC' (eOp pIx (e8' ["Machine", "RawMachine"] (eV 0) "kept_table") (yD' 1 (eV 3)))) (gN 4) (sIf (tE (tf' true 2 (eV 4))) (aA' (tO' 2 (eV 4) (eC (.bl true)))
  (pI' 1 (oE (eV 4)))) bf'))
  (yw' t4' 3 (eC (.int 1)))))
  (bX' (oV 1)))))))
def f_numbered : MF := fnM 1 5 ((aA' (bM' 1 r0')
  (aA' (bM' 2 kK')
  (aA' (gq' (sC' sQ' (eV 0)) (gT [3, 4]) (aA' (sIf (tE (tf' true 1 (eV 4))) (tO' 1 (eV 4) (ia' 1)) bf')
  (tO' 2 (eV 3) (pM' 1 (eV 4)))))
  (bX' (oV 2))))))
def f_alike_states : MF := fnM 2 7 ((aA' (bM' 2 (aB' f_numbered (ad' (eO (oDc [5] (eC' (eV 1)) (gN 5) tT (eV 5) (eOp pIn (eV 5) (e8' ["Machine", "RawMachine"] (eV 0) "kept_accepts")))) aZ')))
  (aA' (bM' 3 (oE (eC (.int 0))))
  (aA' (iX' yE' (tE (eOp pGe (eUn pa' (eV 2)) (eV 3))) (aA' (bM' 3 (oE (eOp dK' (eUn pa' (eV 2)) (eC (.int 1)))))
  (aA' (bM' 4 kK')
  (aA' (gq' (eC' (eV 1)) (gN 5) (tO' 4 (eV 5) (pm' (ad' (pM' 2 (eV 5)) (ad' (eUn ck' (eLc [6] (eC' (eOp pIx (e8' ["Machine", "RawMachine"] (eV 0) "kept_table") (eV 5))) (gN 6) tT (pM' 2 (eV 6)))) aZ')))))
  (bM' 2 (aB' f_numbered (ad' (eV 4) aZ')))))))
  (bX' (oV 2))))))
def f_least : MF := fnM 1 9 ((aA' (sIf (tE (eOp pIs (e8' ["Machine", "RawMachine"] (eV 0) "kept_least") (eC .non))) (aA' (bM' 1 (aB' f_reached (ad' (eV 0) aZ')))
  (aA' (bM' 2 (aB' f_alike_states (ad' (eV 0) (ad' (eV 1) aZ'))))
  (aA' (bM' 3 kK')
  (aA' (gq' (eC' (eV 1)) (gN 4) (iA' (jb' 3 (pM' 2 (eV 4)) (eV 4))))
  (aA' (bM' 5 (te' (pL' aZ')))
  (aA' (gq' (eC' (eUn eA' (eV 3))) (gN 6) (pI' 5 (oE (eUn ck' (eLc [8] (eC' (eOp pIx (e8' ["Machine", "RawMachine"] (eV 0) "kept_table") (pM' 3 (eV 6)))) (gN 8) tT (pM' 2 (eV 8)))))))
  (aA' (bM' 7 (oE (eUn ck' (eLc [6] (eC' (eUn eA' (eV 3))) (gN 6) (tE (eOp pIn (pM' 3 (eV 6)) (e8' ["Machine", "RawMachine"] (eV 0) "kept_accepts"))) (eV 6)))))
  (aA' (sFld ["Machine", "RawMachine"] (eV 0) "kept_least" (kJ' "RawMachine" f_RawMachine___init__ (ad' (e8' ["Machine", "RawMachine"] (eV 0) "kept_letters") (ad' (eUn ck' (eV 5)) (ad' (eV 7) aZ')))))
  (sFld ["Machine", "RawMachine"] (e8' ["Machine", "RawMachine"] (eV 0) "kept_least") "kept_least" (oE (e8' ["Machine", "RawMachine"] (eV 0) "kept_least"))))))))))) bf')
  (bX' (oE (e8' ["Machine", "RawMachine"] (eV 0) "kept_least")))))
def f_line_of : MF := fnM 2 3 ((bX' (oE (eMt f8' (eC (.str [32])) (ad' (eOp dK' (pL' (ad' (eV 0) aZ')) (eLc [2] (eC' (eV 1)) (gN 2) tT (eUn yz' (eV 2)))) aZ')))))
def f_machine_text : MF := fnM 1 3 ((aA' (bM' 1 (te' (pL' (ad' (eOp dK' (eC (.str [108, 101, 116, 116, 101, 114, 115, 32])) (e8' ["Machine", "RawMachine"] (eV 0) "kept_letters")) aZ'))))
  (aA' (yv' 1 (eLc [2] (eC' (e8' ["Machine", "RawMachine"] (eV 0) "kept_table")) (gN 2) tT (eO (aB' f_line_of (ad' (eC (.str [115, 116, 97, 116, 101])) (ad' (eV 2) aZ'))))))
  (aA' (pI' 1 (aB' f_line_of (ad' (eC (.str [97, 99, 99, 101, 112, 116, 115])) (ad' (e8' ["Machine", "RawMachine"] (eV 0) "kept_accepts") aZ'))))
  (bX' (oE (eMt f8' (eC (.str [10])) (ad' (eV 1) aZ'))))))))
def f_numbers_behind : MF := fnM 3 7 ((aA' (bM' 3 (oE (eMt kT' (eV 0) (ad' (eC (.str [32])) aZ'))))
  (aA' (sIf (tE (eOp pNe (eOp pIx (eV 3) (eC (.int 0))) (eV 1))) (d6' "NoText") bf')
  (aA' (bM' 4 (oDc [5] (bO' (eV 2)) (gN 5) tT (eUn yz' (eV 5)) (eV 5)))
  (aA' (sIf (tE (eUn t2' (eLc [6] (eC' (eSl (eV 3) (pSo (eC (.int 1))) pNo)) (gN 6) tT (tf' true 4 (eV 6))))) (d6' "NoText") bf')
  (bX' (oE (eUn ck' (eLc [6] (eC' (eSl (eV 3) (pSo (eC (.int 1))) pNo)) (gN 6) tT (pM' 4 (eV 6)))))))))))
def f_read_machine : MF := fnM 1 8 ((aA' (sIf (eJ' (tE (eUn (ca' "str") (eV 0)))) (d6' "NoText") bf')
  (aA' (bM' 1 (oE (eMt kT' (eV 0) (ad' (eC (.str [10])) aZ'))))
  (aA' (bM' 2 (oE (eOp yy' (eUn c8' (eV 1)) (eC (.int 2)))))
  (aA' (bM' 3 (oE (eSl (eOp pIx (eV 1) (eC (.int 0))) (pSo (eUn c8' (eC (.str [108, 101, 116, 116, 101, 114, 115, 32])))) pNo)))
  (aA' (sIf (tOr (tE (eOp pLt (eV 2) (eC (.int 1)))) (tOr (tE (eOp pNe (eOp pIx (eV 1) (eC (.int 0))) (eOp dK' (eC (.str [108, 101, 116, 116, 101, 114, 115, 32])) (eV 3)))) (tOr (eJ' (tE (eO (aB' f_is_choice (ad' (eV 3) (ad' (eC (.str [97, 98, 99, 100, 101, 102, 103, 104, 105, 106, 107, 108, 109, 110, 111, 112, 113, 114, 115, 116, 117, 118, 119, 120, 121, 122])) aZ')))))) (eJ' (tE (gF' pLe pLe (eC (.int 1)) (eUn c8' (eV 3)) (eC (.int 4)))))))) (d6' "NoText") bf')
  (aA' (bM' 4 (oE (eUn ck' (eLc [6] (eC' (eSl (eV 1) (pSo (eC (.int 1))) (pSo (eUn zV' (eC (.int 1)))))) (gN 6) tT (eO (aB' f_numbers_behind (ad' (eV 6) (ad' (eC (.str [115, 116, 97, 116, 101])) (ad' (eV 2) aZ')))))))))
  (aA' (sIf (tE (eUn t2' (eLc [7] (eC' (eV 4)) (gN 7) tT (eOp pNe (eUn c8' (eV 7)) (eUn c8' (eV 3)))))) (d6' "NoText") bf')
  (aA' (bM' 5 (aB' f_numbers_behind (ad' (eOp pIx (eV 1) (eUn zV' (eC (.int 1)))) (ad' (eC (.str [97, 99, 99, 101, 112, 116, 115])) (ad' (eV 2) aZ')))))
  (aA' (sIf (eJ' (tE (eO (aB' f_is_ascending (ad' (eV 5) aZ'))))) (d6' "NoText") bf')
  (bX' (kJ' "RawMachine" f_RawMachine___init__ (ad' (eV 3) (ad' (eV 4) (ad' (eV 5) aZ')))))))))))))))
def f__law_hand : MF := fnM 1 3 ((aA' (bM' 1 (oLc [2] (eC' (eSl (eV 0) pNo (pSo (eC (.int 63))))) (gN 2) tT (eUn BM' (eUn l1' (eV 2)))))
  (bX' (z0' (ad' (eV 1) (ad' (eC (.int 0)) (ad' (eC (.int 0)) (ad' (eOp dK' (eC (.int 1)) (eUn c8' (eV 1))) (ad' (eC (.int 0)) aZ')))))))))
def f__law_draw : MF := fnM 2 5 ((aA' (sIf (za' (tE (eOp pEq (jW' (eV 0) (eC (.int 2))) (eC (.int 0)))) (tE (eOp pLt (jW' (eV 0) (eC (.int 1))) (eUn c8' (jW' (eV 0) (eC (.int 0))))))) (aA' (bM' 2 (oE (eOp pIx (jW' (eV 0) (eC (.int 0))) (jW' (eV 0) (eC (.int 1))))))
  (aA' (js' (eV 0) (eC (.int 1)) (eOp dK' (jW' (eV 0) (eC (.int 1))) (eC (.int 1))))
  (aA' (js' (eV 0) (eC (.int 3)) (eOp pK' (eUn l1' (eOp dK' (eOp dK' (eOp kC' (jW' (eV 0) (eC (.int 3))) (eC (.int 69621))) (eV 2)) (eC (.int 11)))) (eC (.int 2147483629))))
  (sIf (tE (eOp pGe (eV 2) (eOp zU' (eC (.int 10)) (eC (.int 18))))) (js' (eV 0) (eC (.int 2)) (eV 2)) bf')))) bf')
  (aA' (sIf (tE (eOp pGt (jW' (eV 0) (eC (.int 2))) (eC (.int 0)))) (aA' (bM' 3 (oE (eOp pK' (eUn l1' (jW' (eV 0) (eC (.int 2)))) (eV 1))))
  (aA' (js' (eV 0) (eC (.int 2)) (eOp jz' (jW' (eV 0) (eC (.int 2))) (eV 1)))
  (bX' (oV 3)))) bf')
  (aA' (js' (eV 0) (eC (.int 4)) (eOp dK' (jW' (eV 0) (eC (.int 4))) (eC (.int 1))))
  (aA' (bM' 4 (oE (eOp pK' (eUn l1' (eOp kC' (eUn l1' (eOp dK' (jW' (eV 0) (eC (.int 3))) (eOp kC' (eC (.int 7919)) (jW' (eV 0) (eC (.int 4)))))) (eC (.int 48271)))) (eC (.int 2147483647)))))
  (aA' (bM' 4 (oE (eOp pK' (eUn l1' (eOp kC' (eV 4) (eOp dK' (eOp jz' (eV 4) (eC (.int 1009))) (eC (.int 69621))))) (eC (.int 2147483647)))))
  (aA' (bM' 4 (oE (eOp pK' (eUn l1' (eOp kC' (eV 4) (eOp dK' (eOp jz' (eV 4) (eC (.int 2003))) (eC (.int 40692))))) (eC (.int 2147483399)))))
  (bX' (oE (eOp pK' (eUn l1' (eOp jz' (eV 4) (eC (.int 16)))) (eV 1)))))))))))
def f__law_letters : MF := fnM 3 7 ((aA' (bM' 3 (oE (eV 1)))
  (aA' (bM' 4 (oE (eC (.str []))))
  (aA' (gq' (bO' (eV 2)) (gN 5) (aA' (bM' 6 (aB' f__law_draw (ad' (eV 0) (ad' (eUn c8' (eV 3)) aZ'))))
  (aA' (bM' 4 (oE (eOp dK' (eV 4) (eOp pIx (eV 3) (eV 6)))))
  (bM' 3 (oE (eOp dK' (eSl (eV 3) pNo (pSo (eV 6))) (eSl (eV 3) (pSo (eOp dK' (eV 6) (eC (.int 1)))) pNo)))))))
  (bX' (oV 4))))))
def f__law_word : MF := fnM 3 5 ((aA' (bM' 3 (oE (eC (.str []))))
  (aA' (gq' (bO' (eV 2)) (gN 4) (bM' 3 (oE (eOp dK' (eV 3) (eOp pIx (eV 1) (eO (aB' f__law_draw (ad' (eV 0) (ad' (eUn c8' (eV 1)) aZ')))))))))
  (bX' (oV 3)))))
def f__law_says : MF := fnM 4 6 ((aA' (bM' 4 (oE (eC (.int 0))))
  (aA' (gq' (eC' (eV 3)) (gN 5) (bM' 4 (oE (eOp pIx (eOp pIx (eV 1) (eV 4)) (eMt r9' (eV 0) (ad' (eV 5) aZ'))))))
  (bX' (oE (eOp pIn (eV 4) (eV 2)))))))
def f__law_is_whole : MF := fnM 1 1 ((bX' (oE (oH' (eUn (ca' "int") (eV 0)) (yC' (eUn (ca' "bool") (eV 0)))))))
def f__law_some_letters : MF := fnM 1 1 ((bX' (oE (eMt f8' (eC (.str [])) (ad' (eUn eZ' (eO (aB' f__law_letters (ad' (eV 0) (ad' (eC (.str [97, 98, 99, 100, 101, 102, 103, 104, 105, 106, 107, 108, 109, 110, 111, 112, 113, 114, 115, 116, 117, 118, 119, 120, 121, 122])) (ad' (eOp dK' (eC (.int 1)) (eO (aB' f__law_draw (ad' (eV 0) (ad' (eC (.int 4)) aZ'))))) aZ')))))) aZ')))))
def f__law_is_form : MF := fnM 2 8 ((aA' (bM' 2 (cM' ["Machine", "RawMachine"] "table" f_Machine_table (eV 1) aZ'))
  (aA' (bM' 3 (cM' ["Machine", "RawMachine"] "accepts" f_Machine_accepts (eV 1) aZ'))
  (aA' (sIf (tOr (tE (eOp pNe (eO (cM' ["Machine", "RawMachine"] "letters" f_Machine_letters (eV 1) aZ')) (eV 0))) (tOr (eJ' (tE (eUn (ca' "tuple") (eV 2)))) (eJ' (tE (eUn (ca' "tuple") (eV 3)))))) (bX' (oE (eC (.bl false)))) bf')
  (aA' (gq' (eC' (eV 2)) (gN 4) (aA' (sIf (tOr (eJ' (tE (eUn (ca' "tuple") (eV 4)))) (tE (eOp pNe (eUn c8' (eV 4)) (eUn c8' (eV 0))))) (bX' (oE (eC (.bl false)))) bf')
  (sIf (eJ' (tE (eUn t3' (eLc [5] (eC' (eV 4)) (gN 5) tT (oH' (eO (aB' f__law_is_whole (ad' (eV 5) aZ'))) (oH' (eOp pLe (eC (.int 0)) (eV 5)) (eOp pLt (eV 5) (eUn c8' (eV 2))))))))) (bX' (oE (eC (.bl false)))) bf')))
  (aA' (sIf (eJ' (tE (eUn t3' (eLc [6] (eC' (eV 3)) (gN 6) tT (oH' (eO (aB' f__law_is_whole (ad' (eV 6) aZ'))) (oH' (eOp pLe (eC (.int 0)) (eV 6)) (eOp pLt (eV 6) (eUn c8' (eV 2))))))))) (bX' (oE (eC (.bl false)))) bf')
  (bX' (oE (oH' (eOp pGt (eUn c8' (eV 2)) (eC (.int 0))) (eUn t3' (eLc [7] (h8' (eC (.int 1)) (eUn c8' (eV 3))) (gN 7) tT (eOp pLt (eOp pIx (eV 3) (eOp yy' (eV 7) (eC (.int 1)))) (eOp pIx (eV 3) (eV 7))))))))))))))
def f__law_all_unlike : MF := fnM 2 9 ((aA' (bM' 2 (oLc [6] (bO' (eUn c8' (eV 0))) (gN 6) tT (eUn l1' (eOp pIn (eV 6) (eV 1)))))
  (aA' (gq' (bO' (eUn c8' (eV 0))) (gN 3) (aA' (bM' 4 r0')
  (aA' (bM' 5 (te' (pL' aZ')))
  (aA' (gq' (bO' (eUn c8' (eV 0))) (gN 6) (aA' (bM' 7 (oE (pm' (ad' (eOp pIx (eV 2) (eV 6)) (ad' (eUn ck' (eLc [8] (eC' (eOp pIx (eV 0) (eV 6))) (gN 8) tT (eOp pIx (eV 2) (eV 8)))) aZ')))))
  (pI' 5 (oE (gd' 4 (eV 7) (ia' 4))))))
  (aA' (sIf (tE (eOp pEq (ia' 4) (eUn c8' (eV 0)))) (bX' (oE (eC (.bl true)))) bf')
  (bM' 2 (oE (eV 5))))))))
  (bX' (oE (eOp pEq (eUn c8' (eV 0)) (eC (.int 1))))))))
def f__law_in_order : MF := fnM 1 4 ((aA' (bM' 1 (oE (eC (.int 0))))
  (aA' (gq' (bO' (eUn c8' (eV 0))) (gN 2) (aA' (sIf (tE (eOp pGt (eV 2) (eV 1))) (bX' (oE (eC (.bl false)))) bf')
  (gq' (eC' (eOp pIx (eV 0) (eV 2))) (gN 3) (aA' (sIf (tE (eOp pGt (eV 3) (eOp dK' (eV 1) (eC (.int 1))))) (bX' (oE (eC (.bl false)))) bf')
  (bM' 1 (oE (eOp t1' (eV 1) (eV 3))))))))
  (bX' (oE (eC (.bl true)))))))
def f__law_written : MF := fnM 3 7 ((aA' (bM' 3 (te' (pL' (ad' (eOp dK' (eC (.str [108, 101, 116, 116, 101, 114, 115, 32])) (eV 0)) aZ'))))
  (aA' (gq' (eC' (eV 1)) (gN 4) (pI' 3 (oE (eOp dK' (eC (.str [115, 116, 97, 116, 101])) (eMt f8' (eC (.str [])) (ad' (eLc [5] (eC' (eV 4)) (gN 5) tT (eOp dK' (eC (.str [32])) (eUn yz' (eV 5)))) aZ'))))))
  (aA' (pI' 3 (oE (eOp dK' (eC (.str [97, 99, 99, 101, 112, 116, 115])) (eMt f8' (eC (.str [])) (ad' (eLc [6] (eC' (eV 2)) (gN 6) tT (eOp dK' (eC (.str [32])) (eUn yz' (eV 6)))) aZ')))))
  (bX' (oE (eMt f8' (eC (.str [10])) (ad' (eV 3) aZ'))))))))
def f__law_any_table : MF := fnM 3 7 ((aA' (sIf (tE (eOp pEq (eO (aB' f__law_draw (ad' (eV 0) (ad' (eC (.int 2)) aZ')))) (eC (.int 0)))) (bX' (oE (eUn ck' (eLc [4] (bO' (eV 2)) (gN 4) tT (eUn ck' (eLc [5] (bO' (eV 1)) (gN 5) tT (eO (aB' f__law_draw (ad' (eV 0) (ad' (eV 2) aZ')))))))))) bf')
  (aA' (bM' 3 (oLc [5] (bO' (eV 1)) (gN 5) tT (eO (aB' f__law_draw (ad' (eV 0) (ad' (eV 2) aZ'))))))
  (bX' (oE (eUn ck' (eLc [4] (bO' (eV 2)) (gN 4) tT (eUn ck' (eLc [6] (eC' (eV 3)) (gN 6) tT (eOp pK' (eUn l1' (eOp dK' (eV 4) (eV 6))) (eV 2)))))))))))
def f__law_flag : MF := fnM 2 2 ((bX' (oE (oH' (eUn (ca' "bool") (eV 0)) (eOp pEq (eV 0) (eV 1))))))
def f__law_same : MF := fnM 2 8 ((aA' (bM' 2 (te' (pL' (ad' (pm' (ad' (eC (.int 0)) (ad' (eC (.int 0)) aZ'))) aZ'))))
  (aA' (bM' 3 (h0' true (pm' (ad' (eC (.int 0)) (ad' (eC (.int 0)) aZ'))) (eC (.bl true))))
  (aA' (gq' (bO' (eOp kC' (eUn c8' (eOp pIx (eV 0) (eC (.int 0)))) (eUn c8' (eOp pIx (eV 1) (eC (.int 0)))))) (gN 4) (aA' (zw' (gT [5, 6]) (yD' 2 (eOp t0' (eV 4) (eOp yy' (ia' 2) (eC (.int 1))))))
  (aA' (sIf (tE (eOp pNe (eOp pIn (eV 5) (eOp pIx (eV 0) (eC (.int 1)))) (eOp pIn (eV 6) (eOp pIx (eV 1) (eC (.int 1)))))) (bX' (oE (eC (.bl false)))) bf')
  (gq' (sB' (eOp pIx (eOp pIx (eV 0) (eC (.int 0))) (eV 5)) (eOp pIx (eOp pIx (eV 1) (eC (.int 0))) (eV 6))) (gN 7) (sIf (tE (tf' true 3 (eV 7))) (aA' (tO' 3 (eV 7) (eC (.bl true)))
  (pI' 2 (oE (eV 7)))) bf')))))
  (bX' (oE (eC (.bl true))))))))
def f__law_parts_of : MF := fnM 1 1 ((bX' (oE (pm' (ad' (eO (cM' ["Machine", "RawMachine"] "letters" f_Machine_letters (eV 0) aZ')) (ad' (eO (cM' ["Machine", "RawMachine"] "table" f_Machine_table (eV 0) aZ')) (ad' (eO (cM' ["Machine", "RawMachine"] "accepts" f_Machine_accepts (eV 0) aZ')) aZ')))))))
def f_law : MF := fnM 1 15 ((aA' (bM' 1 (aB' f__law_hand (ad' (eV 0) aZ')))
  (aA' (bM' 2 (aB' f__law_some_letters (ad' (eV 1) aZ')))
  (aA' (bM' 3 (oE (eOp dK' (eC (.int 1)) (eO (aB' f__law_draw (ad' (eV 1) (ad' (eC (.int 6)) aZ')))))))
  (aA' (sIf (tE (eOp pEq (eO (aB' f__law_draw (ad' (eV 1) (ad' (eC (.int 2)) aZ')))) (eC (.int 1)))) (bM' 3 (oE (eOp dK' (eC (.int 1)) (eO (aB' f__law_draw (ad' (eV 1) (ad' (eC (.int 30)) aZ'))))))) bf')
  (aA' (bM' 4 (aB' f__law_any_table (ad' (eV 1) (ad' (eUn c8' (eV 2)) (ad' (eV 3) aZ')))))
  (aA' (bM' 5 (oE (eUn ck' (eLc [14] (bO' (eV 3)) (gN 14) (tE (eOp pEq (eO (aB' f__law_draw (ad' (eV 1) (ad' (eC (.int 2)) aZ')))) (eC (.int 1)))) (eV 14)))))
  (aA' (bM' 6 (aB' f__law_written (ad' (eV 2) (ad' (eV 4) (ad' (eV 5) aZ')))))
  (aA' (bM' 7 (aB' f_read_machine (ad' (eV 6) aZ')))
  (aA' (bM' 8 (oE (eUn w7' (pm' (ad' (eV 2) (ad' (eV 4) (ad' (eV 5) aZ')))))))
  (aA' (sIf (tOr (tE (eOp BK' (eUn w7' (eO (aB' f__law_parts_of (ad' (eV 7) aZ')))) (eV 8))) (tE (eOp pNe (eO (aB' f_machine_text (ad' (eV 7) aZ'))) (eV 6)))) (bX' (oE (eC (.bl false)))) bf')
  (aA' (sIf (tE (eOp gt' (xM' [("Machine", "Machine"), ("RawMachine", "Machine"), ("RawMachine", "RawMachine")] f_Machine___eq__ (eO (aB' f_read_machine (ad' (eV 6) aZ'))) (eV 7)) (eC (.bl true)))) (bX' (oE (eC (.bl false)))) bf')
  (aA' (sIf (tE (eOp pLt (eV 3) (eC (.int 7)))) (aA' (bM' 9 (kJ' "Machine" f_Machine___init__ (ad' (eV 2) (ad' (eV 4) (ad' (eV 5) aZ')))))
  (sIf (tOr (tE (eOp gt' (pn' [("Machine", "RawMachine")] f_Machine___eq__ (eV 9) (eV 7)) (eC (.bl true)))) (tOr (tE (eOp gt' (xM' [("Machine", "Machine"), ("RawMachine", "Machine"), ("RawMachine", "RawMachine")] f_Machine___eq__ (eV 7) (eV 9)) (eC (.bl true)))) (tE (eOp pNe (eO (aB' f_machine_text (ad' (eV 9) aZ'))) (eV 6))))) (bX' (oE (eC (.bl false)))) bf')) bf')
  (aA' (bM' 10 (aB' f__law_word (ad' (eV 1) (ad' (eV 2) (ad' (eO (aB' f__law_draw (ad' (eV 1) (ad' (eC (.int 61)) aZ')))) aZ')))))
  (aA' (bM' 11 (oE (eOp dK' (eC (.int 1)) (eO (aB' f__law_draw (ad' (eV 1) (ad' (eC (.int 3)) aZ')))))))
  (aA' (sIf (eJ' (tE (eO (aB' f__law_flag (ad' (eO (aB' f_says (ad' (eV 7) (ad' (eV 10) aZ')))) (ad' (eO (aB' f__law_says (ad' (eV 2) (ad' (eV 4) (ad' (eV 5) (ad' (eV 10) aZ')))))) aZ')))))) (bX' (oE (eC (.bl false)))) bf')
  (aA' (sIf (eJ' (tE (eO (aB' f__law_flag (ad' (eO (aB' f_says_far (ad' (eV 7) (ad' (eV 10) (ad' (eV 11) aZ'))))) (ad' (eO (aB' f__law_says (ad' (eV 2) (ad' (eV 4) (ad' (eV 5) (ad' (eOp kC' (eV 10) (eV 11)) aZ')))))) aZ')))))) (bX' (oE (eC (.bl false)))) bf')
  (aA' (bM' 12 (aB' f_least (ad' (eV 7) aZ')))
  (aA' (sIf (tOr (eJ' (tE (eO (aB' f__law_is_form (ad' (eV 2) (ad' (eV 12) aZ')))))) (tE (eOp pGt (eUn c8' (eO (cM' ["Machine", "RawMachine"] "table" f_Machine_table (eV 12) aZ'))) (eV 3)))) (bX' (oE (eC (.bl false)))) bf')
  (aA' (sIf (tOr (eJ' (tE (eO (aB' f__law_in_order (ad' (eO (cM' ["Machine", "RawMachine"] "table" f_Machine_table (eV 12) aZ')) aZ'))))) (eJ' (tE (eO (aB' f__law_all_unlike (ad' (eO (cM' ["Machine", "RawMachine"] "table" f_Machine_table (eV 12) aZ')) (ad' (eO (cM' ["Machine", "RawMachine"] "accepts" f_Machine_accepts (eV 12) aZ')) aZ'))))))) (bX' (oE (eC (.bl false)))) bf')
  (aA' (sIf (eJ' (tE (eO (aB' f__law_same (ad' (pm' (ad' (eV 4) (ad' (eV 5) aZ'))) (ad' (pm' (ad' (eO (cM' ["Machine", "RawMachine"] "table" f_Machine_table (eV 12) aZ')) (ad' (eO (cM' ["Machine", "RawMachine"] "accepts" f_Machine_accepts (eV 12) aZ')) aZ'))) aZ')))))) (bX' (oE (eC (.bl false)))) bf')
  (aA' (bM' 13 (aB' f_machine_text (ad' (eV 12) aZ')))
  (aA' (sIf (tE (eOp pNe (eV 13) (eO (aB' f__law_written (ad' (eV 2) (ad' (eO (cM' ["Machine", "RawMachine"] "table" f_Machine_table (eV 12) aZ')) (ad' (eO (cM' ["Machine", "RawMachine"] "accepts" f_Machine_accepts (eV 12) aZ')) aZ'))))))) (bX' (oE (eC (.bl false)))) bf')
  (bX' (oE (eOp BL' (eUn w7' (eO (aB' f__law_parts_of (ad' (eO (aB' f_read_machine (ad' (eV 13) aZ'))) aZ')))) (eUn w7' (eO (aB' f__law_parts_of (ad' (eV 12) aZ'))))))))))))))))))))))))))))))
end M
namespace S
open PySem PySem.Spec PyProof.Rows L2
def top (i : Nat) : Stmt := PySem.Challenge.pw_saidacross_k13_whole_machine_texts_read.main.body.getD i (.Pass ⟨0, 0, 0, 0⟩)
abbrev bg' : Stmt := top 8
abbrev lB' : List Str := ["thing"]
theorem jq' : FnScope lB' ["thing"] (defScope bg') := (by walk_at "3")
def fB' : He.DefD := ⟨("is_integer", none), "is_integer", "is_integer", defArgs bg', defBody bg', defScope bg', [], []⟩
abbrev aW' : Stmt := top 9
abbrev iQ' : List Str := ["thing", "least", "most"]
theorem hI' : FnScope iQ' ["thing", "least", "most"] (defScope aW') := (by walk_at "3")
def ei' : He.DefD := ⟨("check_number", none), "check_number", "check_number", defArgs aW', defBody aW', defScope aW', [], []⟩
abbrev aU' : Stmt := top 10
abbrev iO' : List Str := ["thing", "signs", "sign"]
theorem d4' : FnScope iO' ["thing", "signs"] (defScope aU') := (by walk_at "3")
def eg' : He.DefD := ⟨("is_string_of", none), "is_string_of", "is_string_of", defArgs aU', defBody aU', defScope aU', [], []⟩
abbrev aV' : Stmt := top 11
abbrev iP' : List Str := ["thing", "one", "other"]
theorem cU' : FnScope iP' ["thing"] (defScope aV') := (by walk_at "3")
def eh' : He.DefD := ⟨("is_ascending", none), "is_ascending", "is_ascending", defArgs aV', defBody aV', defScope aV', [], []⟩
abbrev bv' : Stmt := top 12
abbrev mL' : List Str := ["thing", "signs"]
theorem ku' : FnScope mL' ["thing", "signs"] (defScope bv') := (by walk_at "3")
def gG' : He.DefD := ⟨("is_choice", none), "is_choice", "is_choice", defArgs bv', defBody bv', defScope bv', [], []⟩
abbrev b4' : Stmt := top 13
abbrev s8' : List Str := ["machine", "thing"]
theorem o6' : FnScope s8' ["machine", "thing"] (defScope b4') := (by walk_at "3")
def jf' : He.DefD := ⟨("is_word", none), "is_word", "is_word", defArgs b4', defBody b4', defScope b4', [], []⟩
abbrev bh' : Stmt := top 14
abbrev lC' : List Str := ["machine", "thing"]
theorem jr' : FnScope lC' ["machine", "thing"] (defScope bh') := (by walk_at "3")
def fC' : He.DefD := ⟨("check_word", none), "check_word", "check_word", defArgs bh', defBody bh', defScope bh', [], []⟩
abbrev bi' : Stmt := top 17
abbrev lD' : List Str := ["thing", "many", "state"]
theorem fg' : FnScope lD' ["thing", "many"] (defScope bi') := (by walk_at "3")
def fD' : He.DefD := ⟨("are_states", none), "are_states", "are_states", defArgs bi', defBody bi', defScope bi', [], []⟩
abbrev bL' : Stmt := top 18
abbrev pG' : List Str := ["thing", "letters", "row"]
theorem hG' : FnScope pG' ["thing", "letters"] (defScope bL') := (by walk_at "3")
def id' : He.DefD := ⟨("is_table", none), "is_table", "is_table", defArgs bL', defBody bL', defScope bL', [], []⟩
abbrev at' : Stmt := inClass (top 19) 0
abbrev fI' : List Str := ["self", "letters", "table", "accepts"]
theorem eV' : FnScope fI' ["self", "letters", "table", "accepts"] (defScope at') := (by walk_at "3")
def c7' : He.DefD := ⟨("Machine", some "__init__"), "__init__", "Machine.__init__", defArgs at', defBody at', defScope at', [], []⟩
abbrev aY' : Stmt := inClass (top 19) 1
abbrev iS' : List Str := ["self", "letters", "table", "accepts"]
theorem hJ' : FnScope iS' ["self", "letters", "table", "accepts"] (defScope aY') := (by walk_at "3")
def eo' : He.DefD := ⟨("Machine", some "keep"), "keep", "Machine.keep", defArgs aY', defBody aY', defScope aY', [], []⟩
abbrev ax' : Stmt := inClass (top 19) 2
abbrev gk' : List Str := ["self"]
theorem fh' : FnScope gk' ["self"] (defScope ax') := (by walk_at "3")
def dm' : He.DefD := ⟨("Machine", some "letters"), "letters", "Machine.letters", defArgs ax', defBody ax', defScope ax', [], []⟩
abbrev aR' : Stmt := inClass (top 19) 3
abbrev iw' : List Str := ["self"]
theorem gV' : FnScope iw' ["self"] (defScope aR') := (by walk_at "3")
def dW' : He.DefD := ⟨("Machine", some "table"), "table", "Machine.table", defArgs aR', defBody aR', defScope aR', [], []⟩
abbrev ay' : Stmt := inClass (top 19) 4
abbrev gl' : List Str := ["self"]
theorem fi' : FnScope gl' ["self"] (defScope ay') := (by walk_at "3")
def dn' : He.DefD := ⟨("Machine", some "accepts"), "accepts", "Machine.accepts", defArgs ay', defBody ay', defScope ay', [], []⟩
abbrev aS' : Stmt := inClass (top 19) 5
abbrev ix' : List Str := ["self"]
theorem gW' : FnScope ix' ["self"] (defScope aS') := (by walk_at "3")
def dX' : He.DefD := ⟨("Machine", some "parts"), "parts", "Machine.parts", defArgs aS', defBody aS', defScope aS', [], []⟩
abbrev aG' : Stmt := inClass (top 19) 6
abbrev g2' : List Str := ["self", "other"]
theorem fV' : FnScope g2' ["self", "other"] (defScope aG') := (by walk_at "3")
def dD' : He.DefD := ⟨("Machine", some "__eq__"), "__eq__", "Machine.__eq__", defArgs aG', defBody aG', defScope aG', [], []⟩
abbrev am' : Stmt := inClass (top 20) 0
abbrev et' : List Str := ["self", "letters", "table", "accepts"]
theorem dZ' : FnScope et' ["self", "letters", "table", "accepts"] (defScope am') := (by walk_at "3")
def cn' : He.DefD := ⟨("RawMachine", some "__init__"), "__init__", "RawMachine.__init__", defArgs am', defBody am', defScope am', [], []⟩
abbrev iz' : Stmt := top 21
abbrev DX' : List Str := ["machine", "state", "word", "letter"]
theorem rv' : FnScope DX' ["machine", "state", "word"] (defScope iz') := (by walk_at "3")
def vX' : He.DefD := ⟨("led", none), "led", "led", defArgs iz', defBody iz', defScope iz', [], []⟩
abbrev eL' : Stmt := top 22
abbrev By' : List Str := ["machine", "word"]
theorem wO' : FnScope By' ["machine", "word"] (defScope eL') := (by walk_at "3")
def sL' : He.DefD := ⟨("says", none), "says", "says", defArgs eL', defBody eL', defScope eL', [], []⟩
abbrev bq' : Stmt := top 23
abbrev gj' : List Str := ["machine", "word", "times", "steps", "state", "step"]
theorem bu' : FnScope gj' ["machine", "word", "times"] (defScope bq') := (by walk_at "3")
def ib' : He.DefD := ⟨("says_far", none), "says_far", "says_far", defArgs bq', defBody bq', defScope bq', [], []⟩
abbrev b3' : Stmt := top 24
abbrev s7' : List Str := ["machine", "found", "known", "at", "state"]
theorem cQ' : FnScope s7' ["machine"] (defScope b3') := (by walk_at "3")
def jd' : He.DefD := ⟨("reached", none), "reached", "reached", defArgs b3', defBody b3', defScope b3', [], []⟩
abbrev bK' : Stmt := top 25
abbrev pF' : List Str := ["keys", "numbers", "found", "item", "key"]
theorem cT' : FnScope pF' ["keys"] (defScope bK') := (by walk_at "3")
def ic' : He.DefD := ⟨("numbered", none), "numbered", "numbered", defArgs bK', defBody bK', defScope bK', [], []⟩
abbrev aE' : Stmt := top 26
abbrev ds' : List Str := ["machine", "states", "classes", "many", "keys", "state", "step"]
theorem aC' : FnScope ds' ["machine", "states"] (defScope aE') := (by walk_at "3")
def ek' : He.DefD := ⟨("alike_states", none), "alike_states", "alike_states", defArgs aE', defBody aE', defScope aE', [], []⟩
abbrev cD' : Stmt := top 27
abbrev mK' : List Str := ["machine", "states", "classes", "firsts", "state", "table", "one", "accepts", "step"]
theorem b6' : FnScope mK' ["machine"] (defScope cD') := (by walk_at "3")
def oK' : He.DefD := ⟨("least", none), "least", "least", defArgs cD', defBody cD', defScope cD', [], []⟩
abbrev bS' : Stmt := top 29
abbrev lA' : List Str := ["word", "numbers", "number"]
theorem fU' : FnScope lA' ["word", "numbers"] (defScope bS') := (by walk_at "3")
def je' : He.DefD := ⟨("line_of", none), "line_of", "line_of", defArgs bS', defBody bS', defScope bS', [], []⟩
abbrev aN' : Stmt := top 30
abbrev eQ' : List Str := ["machine", "lines", "row"]
theorem cc' : FnScope eQ' ["machine"] (defScope aN') := (by walk_at "3")
def ef' : He.DefD := ⟨("machine_text", none), "machine_text", "machine_text", defArgs aN', defBody aN', defScope aN', [], []⟩
abbrev ap' : Stmt := top 31
abbrev b7' : List Str := ["line", "word", "below", "words", "known", "number", "told"]
theorem aJ' : FnScope b7' ["line", "word", "below"] (defScope ap') := (by walk_at "3")
def dB' : He.DefD := ⟨("numbers_behind", none), "numbers_behind", "numbers_behind", defArgs ap', defBody ap', defScope ap', [], []⟩
abbrev aD' : Stmt := top 32
abbrev dr' : List Str := ["text", "lines", "many", "letters", "table", "accepts", "line", "row"]
theorem aL' : FnScope dr' ["text"] (defScope aD') := (by walk_at "3")
def ee' : He.DefD := ⟨("read_machine", none), "read_machine", "read_machine", defArgs aD', defBody aD', defScope aD', [], []⟩
abbrev bm' : Stmt := top 34
abbrev iv' : List Str := ["_law_script", "_law_cells", "_law_cell"]
theorem d5' : FnScope iv' ["_law_script"] (defScope bm') := (by walk_at "3")
def gK' : He.DefD := ⟨("_law_hand", none), "_law_hand", "_law_hand", defArgs bm', defBody bm', defScope bm', [], []⟩
abbrev bA' : Stmt := top 35
abbrev mQ' : List Str := ["_law_hand_here", "_law_many", "_law_cell", "_law_digit", "_law_number"]
theorem b8' : FnScope mQ' ["_law_hand_here", "_law_many"] (defScope bA') := (by walk_at "3")
def gM' : He.DefD := ⟨("_law_draw", none), "_law_draw", "_law_draw", defArgs bA', defBody bA', defScope bA', [], []⟩
abbrev aX' : Stmt := top 36
abbrev iR' : List Str := ["_law_hand_here", "_law_signs", "_law_many", "_law_rest", "_law_found", "_law_turn", "_law_at"]
theorem bl' : FnScope iR' ["_law_hand_here", "_law_signs", "_law_many"] (defScope aX') := (by walk_at "3")
def em' : He.DefD := ⟨("_law_letters", none), "_law_letters", "_law_letters", defArgs aX', defBody aX', defScope aX', [], []⟩
abbrev bw' : Stmt := top 37
abbrev mM' : List Str := ["_law_hand_here", "_law_letters_here", "_law_many", "_law_word_here", "_law_turn"]
theorem de' : FnScope mM' ["_law_hand_here", "_law_letters_here", "_law_many"] (defScope bw') := (by walk_at "3")
def gH' : He.DefD := ⟨("_law_word", none), "_law_word", "_law_word", defArgs bw', defBody bw', defScope bw', [], []⟩
abbrev bx' : Stmt := top 38
abbrev mN' : List Str := ["_law_letters_here", "_law_table", "_law_accepts", "_law_word_here", "_law_state", "_law_letter"]
theorem df' : FnScope mN' ["_law_letters_here", "_law_table", "_law_accepts", "_law_word_here"] (defScope bx') := (by walk_at "3")
def gI' : He.DefD := ⟨("_law_says", none), "_law_says", "_law_says", defArgs bx', defBody bx', defScope bx', [], []⟩
abbrev aP' : Stmt := top 39
abbrev it' : List Str := ["_law_thing"]
theorem gU' : FnScope it' ["_law_thing"] (defScope aP') := (by walk_at "3")
def dU' : He.DefD := ⟨("_law_is_whole", none), "_law_is_whole", "_law_is_whole", defArgs aP', defBody aP', defScope aP', [], []⟩
abbrev as' : Stmt := top 40
abbrev e7' : List Str := ["_law_hand_here"]
theorem eF' : FnScope e7' ["_law_hand_here"] (defScope as') := (by walk_at "3")
def cJ' : He.DefD := ⟨("_law_some_letters", none), "_law_some_letters", "_law_some_letters", defArgs as', defBody as', defScope as', [], []⟩
abbrev aw' : Stmt := top 41
abbrev cv' : List Str := ["_law_letters_here", "_law_machine", "_law_table", "_law_accepts", "_law_row", "_law_to", "_law_state", "_law_k"]
theorem aM' : FnScope cv' ["_law_letters_here", "_law_machine"] (defScope aw') := (by walk_at "3")
def en' : He.DefD := ⟨("_law_is_form", none), "_law_is_form", "_law_is_form", defArgs aw', defBody aw', defScope aw', [], []⟩
abbrev ar' : Stmt := top 42
abbrev cr' : List Str := ["_law_table", "_law_accepts", "_law_classes", "_law_turn", "_law_known", "_law_later", "_law_state", "_law_key", "_law_to"]
theorem an' : FnScope cr' ["_law_table", "_law_accepts"] (defScope ar') := (by walk_at "3")
def dl' : He.DefD := ⟨("_law_all_unlike", none), "_law_all_unlike", "_law_all_unlike", defArgs ar', defBody ar', defScope ar', [], []⟩
abbrev aQ' : Stmt := top 43
abbrev iu' : List Str := ["_law_table", "_law_most", "_law_state", "_law_to"]
theorem bI' : FnScope iu' ["_law_table"] (defScope aQ') := (by walk_at "3")
def dV' : He.DefD := ⟨("_law_in_order", none), "_law_in_order", "_law_in_order", defArgs aQ', defBody aQ', defScope aQ', [], []⟩
abbrev aF' : Stmt := top 44
abbrev dt' : List Str := ["_law_letters_here", "_law_table", "_law_accepts", "_law_lines", "_law_row", "_law_to", "_law_state"]
theorem bk' : FnScope dt' ["_law_letters_here", "_law_table", "_law_accepts"] (defScope aF') := (by walk_at "3")
def el' : He.DefD := ⟨("_law_written", none), "_law_written", "_law_written", defArgs aF', defBody aF', defScope aF', [], []⟩
abbrev aq' : Stmt := top 45
abbrev br' : List Str := ["_law_hand_here", "_law_many", "_law_size", "_law_steps", "_law_state", "_law_k", "_law_step"]
theorem ao' : FnScope br' ["_law_hand_here", "_law_many", "_law_size"] (defScope aq') := (by walk_at "3")
def dC' : He.DefD := ⟨("_law_any_table", none), "_law_any_table", "_law_any_table", defArgs aq', defBody aq', defScope aq', [], []⟩
abbrev bz' : Stmt := top 46
abbrev mP' : List Str := ["_law_found", "_law_due"]
theorem kv' : FnScope mP' ["_law_found", "_law_due"] (defScope bz') := (by walk_at "3")
def gL' : He.DefD := ⟨("_law_flag", none), "_law_flag", "_law_flag", defArgs bz', defBody bz', defScope bz', [], []⟩
abbrev by' : Stmt := top 47
abbrev mO' : List Str := ["_law_one", "_law_other", "_law_pairs", "_law_known", "_law_turn", "_law_left", "_law_right", "_law_pair"]
theorem bR' : FnScope mO' ["_law_one", "_law_other"] (defScope by') := (by walk_at "3")
def gJ' : He.DefD := ⟨("_law_same", none), "_law_same", "_law_same", defArgs by', defBody by', defScope by', [], []⟩
abbrev aO' : Stmt := top 48
abbrev is' : List Str := ["_law_machine"]
theorem gT' : FnScope is' ["_law_machine"] (defScope aO') := (by walk_at "3")
def dT' : He.DefD := ⟨("_law_parts_of", none), "_law_parts_of", "_law_parts_of", defArgs aO', defBody aO', defScope aO', [], []⟩
abbrev hL' : Stmt := top 49
abbrev Bz' : List Str := ["_law_script", "_law_hand_here", "_law_letters_here", "_law_size", "_law_table", "_law_accepts", "_law_text", "_law_machine", "_law_shown", "_law_own", "_law_word_here", "_law_times", "_law_small", "_law_told", "_law_state"]
theorem cx' : FnScope Bz' ["_law_script"] (defScope hL') := (by walk_at "3")
def vY' : He.DefD := ⟨("law", none), "law", "law", defArgs hL', defBody hL', defScope hL', [], []⟩
def fns : List He.DefD := [fB', ei', eg', eh', gG', jf', fC', fD', id', c7', eo', dm', dW', dn', dX', dD', cn', vX', sL', ib', jd', ic', ek', oK', je', ef', dB', ee', gK', gM', em', gH', gI', dU', cJ', en', dl', dV', el', dC', gL', gJ', dT', vY']
def tbs : List He.Tab := []
def fas : List He.Fa := [.glo "is_integer", .glo "check_number", .glo "is_string_of", .glo "is_ascending", .glo "is_choice", .glo "is_word", .glo "check_word", .glo "are_states", .glo "is_table", .glo "led", .glo "says", .glo "says_far", .glo "reached", .glo "numbered", .glo "alike_states", .glo "least", .glo "line_of", .glo "machine_text", .glo "numbers_behind", .glo "read_machine", .glo "_law_hand", .glo "_law_draw", .glo "_law_letters", .glo "_law_word", .glo "_law_says", .glo "_law_is_whole", .glo "_law_some_letters", .glo "_law_is_form", .glo "_law_all_unlike", .glo "_law_in_order", .glo "_law_written", .glo "_law_any_table", .glo "_law_flag", .glo "_law_same", .glo "_law_parts_of", .glo "law", .glo "SaidError", .exc "SaidError", .glo "NoWord", .exc "NoWord", .glo "NoNumber", .exc "NoNumber", .glo "NoText", .exc "NoText", .glo "NoMachine", .glo "Machine", .glo "RawMachine", .str "SMALL" "abcdefghijklmnopqrstuvwxyz", .int "MOST_TIMES" (1000000000000000000000000000000), .free "zip", .free "any", .free "tuple", .free "range", .free "repr", .free "isinstance", .free "int", .free "str", .free "len", .free "max", .free "sorted", .free "abs", .free "all", .free "bool", .free "min", .cls "Machine", .noat "Machine" "kept_letters", .noat "Machine" "kept_table", .noat "Machine" "kept_accepts", .noat "Machine" "kept_least", .noat "Machine" "kept_field", .noat "Machine" "kept_lots", .noat "Machine" "kept_more", .mkr "Machine", .cls "RawMachine", .noat "RawMachine" "kept_letters", .noat "RawMachine" "kept_table", .noat "RawMachine" "kept_accepts", .noat "RawMachine" "kept_least", .noat "RawMachine" "kept_field", .noat "RawMachine" "kept_lots", .noat "RawMachine" "kept_more", .mkr "RawMachine", .meth "Machine" "keep", .meth "RawMachine" "keep", .meth "Machine" "letters", .meth "RawMachine" "letters", .meth "Machine" "table", .meth "RawMachine" "table", .meth "Machine" "accepts", .meth "RawMachine" "accepts", .meth "Machine" "parts", .meth "RawMachine" "parts"]
def exs : List (PySem.W.Frag -> Bool) := [fun K => (decide (He.ma K (He.ga K "RawMachine") "keep" = He.ma K (He.ga K "Machine") "keep")), fun K => (decide (He.ma K (He.ga K "RawMachine") "letters" = He.ma K (He.ga K "Machine") "letters")), fun K => (decide (He.ma K (He.ga K "RawMachine") "table" = He.ma K (He.ga K "Machine") "table")), fun K => (decide (He.ma K (He.ga K "RawMachine") "accepts" = He.ma K (He.ga K "Machine") "accepts")), fun K => (decide (He.ma K (He.ga K "RawMachine") "parts" = He.ma K (He.ga K "Machine") "parts")), fun K => Eg' K [("Machine", "Machine"), ("RawMachine", "Machine"), ("RawMachine", "RawMachine")] (He.ma K (He.ga K "Machine") "__eq__"), fun K => Az' K [("Machine", "RawMachine")] (He.ma K (He.ga K "Machine") "__eq__"), fun K => EG' K [("Machine", "Machine"), ("RawMachine", "Machine"), ("RawMachine", "RawMachine")] (He.ma K (He.ga K "Machine") "__eq__"), fun K => xx' K M.isT "Machine"]
def exK (K : PySem.W.Frag) : Bool := exs.all fun f => f K
end S
set_option maxHeartbeats 0
namespace S
open PySem PySem.Spec PyProof.Rows L2
def Aa' : List Str := ["SaidError", "NoWord", "NoNumber", "NoText", "NoMachine", "SMALL", "is_integer", "check_number", "is_string_of", "is_ascending", "is_choice", "is_word", "check_word", "MOST_TIMES", "are_states", "is_table", "Machine", "RawMachine", "led", "says", "says_far", "reached", "numbered", "alike_states"]
def z9' : List Str := ["least", "line_of", "machine_text", "numbers_behind", "read_machine", "_law_hand", "_law_draw", "_law_letters", "_law_word", "_law_says", "_law_is_whole", "_law_some_letters", "_law_is_form", "_law_all_unlike", "_law_in_order", "_law_written", "_law_any_table", "_law_flag", "_law_same", "_law_parts_of"]
def loose : List Str := Aa' ++ z9'
abbrev Rw : PySem.W.OpenRow := PySem.W.OpenLaw.row PySem.Challenge.rw_saidacross_k13_whole_machine_texts_read
abbrev hk : PySem.W.Hook := He.hookX 4 fas fns tbs [] exK
def ob (s : PySem.W.SharedT) : He.AlX := He.obsX 4 fas fns tbs [] exK (HandSHeadRun.getT s)
theorem CP' (s : PySem.W.SharedT) : ob s = hk.obs s.abs := He.obsX_eq (HandSHeadRun.getT_eq s)
theorem zT' {α β γ : Type} {x : Option α} {f : α -> β} {g : α -> γ} {b : β} {c : γ} (h1 : x.map f = some b) (h2 : x.map g = some c) : x.map (fun s => (f s, g s)) = some (b, c) := by
  cases x with
  | none => cases h1
  | some a =>
    obtain rfl := Option.some.inj h1
    obtain rfl := Option.some.inj h2
    rfl
section
open PySem.W HandSHeadRun
theorem Ez' (w : World) (os : OsState) : (endF (stepQ (denQ tabQ) Rw.prog w) 3400 Rw.prog w os).map (fun s => looksF Rw.prog (boot_heap w.params) s.abs) = some true := by kernel_rfl
theorem Ey' (w : World) (os : OsState) : (endF (stepQ (denQ tabQ) Rw.prog w) 3400 Rw.prog w os).map (fun s => seenQ (PySem.W.view Rw.prog [49]) loose (importedModules Rw.prog.main.body) (fun s => xlAt (PySem.W.view Rw.prog [49]) [] s && recOk Rw.toRowW.records s) s.abs) = some (openGood (PySem.W.view Rw.prog [49]) loose) := by kernel_rfl
theorem Ex' (w : World) (os : OsState) : (endF (stepQ (denQ tabQ) Rw.prog w) 3400 Rw.prog w os).map (fun s => ob s) = some (hk.val w) := by kernel_rfl
end
theorem run (w : World) : HandSHeadRun.RunEq Rw (PySem.W.view Rw.prog [49]) hk ob 3400 loose w := fun os => zT' (Ez' w os) (zT' (Ey' w os) (Ex' w os))
end S
set_option maxHeartbeats 4000000
namespace S
open PySem PySem.Spec PyProof.Rows L2
abbrev St := L2.St
section
variable {X : Cx}
def pJ' (z : Str) (n : Nat) : Str := ⟨((List.replicate n z.cps.toList).flatten).toArray⟩
theorem k6' : ∀ (l : List (Array Nat)) (a : Array Nat), l.foldl (· ++ ·) a = (a.toList ++ (l.map Array.toList).flatten).toArray
  | [], a => by simp
  | b :: r, a => by
    rw [List.foldl_cons, k6' r]
    simp
theorem rC' (z : Str) (n : Nat) : (⟨(List.replicate n z.cps).foldl (· ++ ·) #[]⟩ : Str) = pJ' z n := by
  unfold pJ'
  rw [k6']
  simp
theorem tP' (z : Str) : pJ' z 1 = z := by
  obtain ⟨c⟩ := z
  simp [pJ']
theorem rB' (z : Str) : pJ' z 0 = Str.empty := by
  simp [pJ']
  rfl
theorem o9' (z : Str) (h : z.length = 0) (n : Nat) : pJ' z n = z := by
  obtain ⟨c⟩ := z
  have e : c.toList = [] := by
    have h1 : c.size = 0 := h
    exact List.eq_nil_of_length_eq_zero (by simpa using h1)
  have e2 : c = #[] := by simpa using congrArg List.toArray e
  subst e2
  simp [pJ']
theorem lV' (z : Str) (n : Nat) : (pJ' z n).length = n * z.length := by
  show ((List.replicate n z.cps.toList).flatten).toArray.size = _
  rw [List.size_toArray, List.length_flatten]
  simp
  rfl
def vz' : R2 := fun x y H Q => ∃ z i, x = .str z /\ y = .int i /\ i < 2 ^ 62 /\ -(2 ^ 62) <= i /\ z.length * i.toNat <= sizeLine /\ Q (.str (pJ' z i.toNat)) H
theorem t6' : OpR X (binaryOp .Mult) vz' := by
  intro pins s σ H x y v u Q I rx ry h
  obtain ⟨z, i, rfl, rfl, h1, h2, h3, q⟩ := h
  obtain ⟨t, rfl⟩ := rx
  obtain ⟨t', rfl⟩ := ry
  have h63 : (decide (i < -(2 ^ 63 : Int)) || decide (i >= 2 ^ 63)) = false := by
    rw [decide_eq_false (by omega), decide_eq_false (by omega)]; rfl
  have hsz : (sizeLine : Nat) < 2 ^ 62 := by rw [sizeLine_eq]; decide
  refine PySem.P.mul_str h63 (fun hn hz => ?_) (fun hn hz => ?_) ?_
  . intro hg
    have hpos : 0 < i := by omega
    have e : (i.toNat : Int) = i := by omega
    have h4 : (z.length : Int) * i <= sizeLine := by
      rw [<- e]; exact_mod_cast h3
    have h5 : (2 ^ 63 - 1) / i < (z.length : Int) := hg
    have h6 : (2 ^ 63 - 1 : Int) < z.length * i := by
      have := Int.lt_mul_of_ediv_lt hpos h5
      rw [Int.mul_comm] at this
      first
        | exact this
        | (rw [Int.mul_comm]; exact this)
    omega
  . exact decide_eq_false (by omega)
  . by_cases hn : i < 1
    . rw [if_pos hn]
      have e : i.toNat = 0 := by omega
      rw [e, rB'] at q
      exact ⟨by decide, .str Str.empty, H, I.tok _, ⟨_, rfl⟩, q⟩
    . rw [if_neg hn]
      by_cases hz : (i == 1 || z.length == 0) = true
      . rw [if_pos hz]
        have e : pJ' z i.toNat = z := by
          rcases Bool.or_eq_true_iff.mp hz with h | h
          . have h' : i = 1 := eq_of_beq h
            rw [h']; exact tP' z
          . exact o9' z (eq_of_beq h) _
        rw [e] at q
        exact ⟨.str z, H, I, ⟨_, rfl⟩, q⟩
      . rw [if_neg hz, rC']
        exact ⟨by rw [lV', Nat.mul_comm]; omega, .str _, H, I.tok _, ⟨_, rfl⟩, q⟩
def zE' : R2 := fun x y H Q => rI CMul (fun i j => .int (i * j)) x y H Q \/ vz' x y H Q \/ rRep x y H Q
theorem w9' : OpR X (binaryOp .Mult) zE' := op_mul.or (t6'.or op_rep)
def zH' (f : List Nat -> List Nat -> Bool) : R2 := fun x y H Q => ∃ i j, x = .str i /\ y = .str j /\ Q (.bl (f i.cps.toList j.cps.toList)) H
def vA' (p : Int -> Int -> Bool) (f : List Nat -> List Nat -> Bool) : R2 := fun x y H Q => rI0 (fun i j => .bl (p i j)) x y H Q \/ zH' f x y H Q
theorem fl' : OpR X (compareOp .Lt) (vA' (fun i j => decide (i < j)) fun a b => decide (a < b)) := op_lt.or (r' := zH' fun a b => decide (a < b)) op_lt_str
theorem gu' : OpR X (compareOp .LtE) (vA' (fun i j => decide (i <= j)) fun a b => !decide (b < a)) := op_le.or (r' := zH' fun a b => !decide (b < a)) op_le_str
theorem hU' : OpR X (compareOp .Gt) (vA' (fun i j => decide (j < i)) fun a b => decide (b < a)) := op_gt.or (r' := zH' fun a b => decide (b < a)) op_gt_str
theorem oe' : OpR X (compareOp .GtE) (vA' (fun i j => decide (j <= i)) fun a b => !decide (a < b)) := op_ge.or (r' := zH' fun a b => !decide (a < b)) op_ge_str
def zN' (K : PySem.W.Frag) : R2 := fun x y H Q => rI0 (fun i j => .int (i + j)) x y H Q \/ (∃ i j, x = .str i /\ y = .str j /\ i.length + j.length <= sizeLine /\ Q (.str (i ++ j)) H) \/ rCat x y H Q \/ rCatA K x y H Q
theorem a5' : OpR X (binaryOp .Add) (zN' X.K) := op_add.or (op_add_str.or (op_cat.or op_catA))
def CD' (K : PySem.W.Frag) : R2 := fun x y H Q => rEq x y H Q \/ rEqD K x y H Q
theorem eM' (hu : X.A.units + 64 < cLine) : OpR X (compareOp .Eq) (CD' X.K) := op_eq.or (op_eqD hu)
def CA' (K : PySem.W.Frag) : R2 := fun x y H Q => rNe x y H Q \/ rNeD K x y H Q
theorem d8' (hu : X.A.units + 64 < cLine) : OpR X (compareOp .NotEq) (CA' X.K) := op_ne.or (op_neD hu)
def D7' : R2 := fun x y H Q => ∃ (c : Nat) (z : Str), x = .str ⟨#[c]⟩ /\ y = .str z /\ Q (.bl (decide (c ∈ z.cps.toList))) H
def rK' : R2 := fun x y H Q => ∃ (c : Nat) (z : Str), x = .str ⟨#[c]⟩ /\ y = .str z /\ Q (.bl (!decide (c ∈ z.cps.toList))) H
def zL' : R2 := fun x y H Q => ∃ i j, x = .str i /\ y = .str j /\ Q (.bl (!(Builtin.Str.occurrences j i 0 j.length 1).isEmpty)) H
def n7' : R2 := fun x y H Q => ∃ i j, x = .str i /\ y = .str j /\ Q (.bl (!(!(Builtin.Str.occurrences j i 0 j.length 1).isEmpty))) H
def D6' (K : PySem.W.Frag) : R2 := fun x y H Q => D7' x y H Q \/ rIn K false x y H Q \/ zL' x y H Q
def rJ' (K : PySem.W.Frag) : R2 := fun x y H Q => rK' x y H Q \/ rIn K true x y H Q \/ n7' x y H Q
theorem gv' : OpR X (compareOp .In) (D6' X.K) := OpR.or (r := D7') op_in_sign (op_in_seq.or (r' := zL') op_in_str)
theorem rX' : OpR X (compareOp .NotIn) (rJ' X.K) := OpR.or (r := rK') op_notIn_sign (op_notIn_seq.or (r' := n7') op_notIn_str)
def D3' (K : PySem.W.Frag) : V -> Option Int -> Option Int -> Hp -> VK -> Prop := fun x lo hi H Q => rSlL K x lo hi H Q \/ rSlS x lo hi H Q \/ rSlA K x lo hi H Q
theorem vq' : SlR X (D3' X.K) := sl_list.or (sl_str.or sl_tupA)
def zI' (K : PySem.W.Frag) : List V -> Hp -> VK -> Prop := fun xs H Q => (∃ z, xs = [.str z] /\ z.length <= sizeLine /\ Q (.int z.length) H) \/ (∃ p ys, xs = [.ref p] /\ (SqL K H p ys \/ SqT K H p ys) /\ Q (.int ys.length) H) \/ (∃ a kvs, xs = [V.ref a] /\ Rd H a (.dK kvs) /\ Q (.int kvs.length) H)
theorem sT' : CallR X (.builtin "len") (zI' X.K) := call_len_str.or (call_len_seq.or fun pins s σ H vs us Q I r h => by
  obtain ⟨a, kvs, rfl, e, q⟩ := h
  cases r with
  | cons ra rn =>
    cases rn
    cases (show _ = Value.ref a from ra)
    exact d_len I e fun t s' I' => ⟨.int kvs.length, H, I', ⟨t, rfl⟩, q⟩)
def rG' (K : PySem.W.Frag) : List V -> Hp -> VK -> Prop := fun xs H Q => ∃ p ys, xs = [.ref p] /\ ((SqL K H p ys /\ ∀ l, H l = none -> Q (.ref l) (upd H l (.tup ys))) \/ (SqT K H p ys /\ Q (.ref p) H))
theorem mB' : CallR X (.type "tuple") (rG' X.K) := call_tuple_of
def zK' : List V -> Hp -> VK -> Prop := fun xs H Q => (∃ i, xs = [.int i] /\ Q (.int i) H) \/ ∃ k, xs = [.bl k] /\ Q (.int (if k then 1 else 0)) H
theorem b5' : CallR X (.type "int") zK' := call_int1
def zO' : List V -> Hp -> VK -> Prop := fun xs H Q => ∃ i, xs = [.int i] /\ Q (.int (if i < 0 then -i else i)) H
theorem sU' : CallR X (.builtin "abs") zO' := call_abs
def zG' : List V -> Hp -> VK -> Prop := fun xs H Q => ∃ i j, xs = [.int i, .int j] /\ Q (.int (if j > i then j else i)) H
theorem pz' (hc : X.calm = true) : CallR X (.builtin "max") zG' := call_max2 hc
def zF' : List V -> Hp -> VK -> Prop := fun xs H Q => ∃ i j, xs = [.int i, .int j] /\ Q (.int (if j < i then j else i)) H
theorem py' (hc : X.calm = true) : CallR X (.builtin "min") zF' := call_min2 hc
def D5' : R2 := fun x y H Q => y = .non /\ Q (.bl (decide (x = .non))) H
theorem xb' : OpR X (compareOp .Is) D5' := op_isN
def zC' : R2 := fun x y H Q => y = .non /\ Q (.bl (!decide (x = .non))) H
theorem t5' : OpR X (compareOp .IsNot) zC' := op_notN
theorem rV' {x z : Str} {pos : Pos} (hg : Gl X x) (h : ∃ t, X.mg x = some (.str z t)) (hd : (x == ("__debug__" : Str)) = false := by decide) : PE X (.Name x pos) (tC (.str z)) := by
  obtain ⟨t, e⟩ := h
  exact pe_glob hg e ⟨t, rfl⟩ hd
theorem w6' {x : Str} {i : Int} {pos : Pos} (hg : Gl X x) (h : ∃ t, X.mg x = some (.int i t)) (hd : (x == ("__debug__" : Str)) = false := by decide) : PE X (.Name x pos) (tC (.int i)) := by
  obtain ⟨t, e⟩ := h
  exact pe_glob hg e ⟨t, rfl⟩ hd
theorem w5' {x : Str} {a : Addr} {pos : Pos} (hg : Gl X x) (h : X.mg x = some (.ref a)) (hd : (x == ("__debug__" : Str)) = false := by decide) : PE X (.Name x pos) (tC (.ref a)) := pe_glob hg h rfl hd
theorem di' {C : Addr} {bmB : List Value} {B newId initId : String} {x : Str} {p pos : Pos} (F : ExcBaseFacts B newId initId bmB) (q : PySem.W.excIn X.K C bmB newId = true) (gC : X.mg x = some (.ref C))
    (kC : PySem.W.keepIn X.K (.ref C) = true) (r : Raises X (.ref C)) (hg : Gl X x) (hdb : (x == ("__debug__" : Str)) = false := by decide) : PMk X (.Call (.Name x p) [] [] pos) (fun _ H Q => Q (.ref C) none H) := by
  intro pins s σ H Q I h
  refine wpAny_Call_Name_kw (ld_glob I hg gC ?_ hdb)
  refine PySem.W.callWith_K0 I.kIn kC ?_
  show wpAny _ _ (call (.ref C) []) _ _ _
  obtain ⟨bm, N, nm, qn, bs, hdct, sn, sub, ab, col, dd, k0, k1, k2, k3, k5, mN, hC, hN, hni, T⟩ := exc_obj I.kIn q
  refine wpAny_call_exc_subT F T hC hN hni (fun h' e hm => ?_) (Nat.zero_le _)
  exact mk_of I hm r h (I.hok.gone hm.new)
end
section
variable {P : Program} {w : World} {K : PySem.W.Frag} {mg : Str -> Option Value} {base : Heap}
section
variable {X : Cx} {k : Nat} {x : Str} {ps : List Str} {sp : Sp} {p pos : Pos} {e : Expr} {es : List Expr} {t : TA} {W : WX}
end
end
end S
namespace S
open PySem PySem.Spec PyProof.Rows L2
section
variable {K : PySem.W.Frag} {D : Ends} {σ : St} {H H' : Hp} {Q : VK} {t u : TS} {te ta tb tc : TE} {tt tu : TT} {g : TG} {tl : TA} {v x y : V} {i j : Int} {a p : Addr} {xs ys : List V} {z z' : Str} {r : R2}
theorem Cc' {n : String} {tv : Value} {b : Bool} (ty : TyX K H x tv) (e : PySem.W.kitOne K tv (.type n) = some b) (h : Q (.bl b) H) : rIsi K [x, .ty n] H Q := ⟨x, .ty n, tv, _, b, rfl, .ty n, ty, e, h⟩
theorem Same.upd {H : Hp} {p : Addr} {o : HO} (h : H p = none) : Same H (upd H p o) := fun b u e => by
  rw [upd_ne (ne_of_none e h)]; exact e
theorem Same.app (s : Same H H') {o : HO} (h : H p = some o) : H' p = some o := s p o h
end
theorem FnOk.to0 {P : Program} {w : World} {K : PySem.W.Frag} {mg : Str -> Option Value} {base : Heap} {k : Nat} {f : Addr} {fd : FuncData} {ps : List Str} {sp : Sp} (F : FnOk P w K mg base (L2.CX P w) k f fd ps sp) :
    FnOk P w K mg base CX0 k f fd ps (fun vs H Q _ => sp vs H Q E0) :=
  ⟨fun vs H Q _ h => F.len vs H Q E0 h, fun A outer s H args us vs Q _ hr he hb hv hs => codeAny_mono (F.run A outer s H args us vs Q E0 hr he hb hv hs) fun r s' hq => by
    cases r with
    | error e =>
      obtain ⟨_, _, _, _, _, _, _, _, _, _, _, _, z⟩ := hq
      exact z.elim
    | ok fl =>
      cases fl with
      | ret u => exact hq
      | next => exact hq
      | brk => exact hq
      | cont => exact hq⟩
end S
namespace S
open PySem PySem.Spec PyProof.Rows L2
section
variable {α : Type} {as : List α} {J : It} {G : Hp -> Prop} {Y : α -> Hp -> V -> Hp -> Prop} {K : PySem.W.Frag} {D : Ends} {σ : St} {H : Hp} {g : TG} {tb : TS} {tt : TT} {te : TE} {a : Addr}
def EU' (J : It) (g : TG) (tb : TS) (D : Ends) (σ : St) (H1 : Hp) : Prop := ∃ W : Nat -> Nat -> St -> Hp -> Prop, (∃ m, W 0 m σ H1) /\ ∀ i m σ H, W i m σ H →
  (J.stop i H /\ D.nx σ H) \/ (J.go i H /\ ∃ N : St -> Hp -> Prop, (∀ σ' H', N σ' H' -> ∃ m', m' < m /\ W (i + 1) m' σ' H') /\ ∀ x H', J.yld i H x H' -> g x σ H' fun σ2 H2 => tb { D with nx := N, ct := N, bk := D.nx } σ2 H2)
theorem e5' {lo : Int} {n : Nat} (Pv : Nat -> St -> Hp -> Prop) (h0 : Pv 0 σ H)
    (hs : ∀ i σ H, i < n -> Pv i σ H -> g (.int (lo + (i : Nat))) σ H fun σ2 H2 => tb { D with nx := Pv (i + 1), ct := Pv (i + 1), bk := D.nx } σ2 H2) (hd : ∀ σ H, Pv n σ H -> D.nx σ H) : EU' (Itr lo n) g tb D σ H := for_range Pv h0 hs hd
end
section
variable {H H' : Hp} {p q : Addr} {o : HO}
theorem seqT {K : PySem.W.Frag} {a : Addr} {xs : List V} (e : Same H H') (h : SqT K H a xs) : SqT K H' a xs := by
  rcases h with (h | ⟨o, h⟩) | h
  . exact .inl (.inl (e _ _ h))
  . exact .inl (.inr ⟨o, e _ _ h⟩)
  . exact .inr h
end
mutual
theorem Dp.same {K : PySem.W.Frag} {H H' : Hp} (s : Same H H') : ∀ {d : PyData} {v : V}, Dp K H v d -> Dp K H' v d
  | _, _, .non => .non
  | _, _, .bl b => .bl b
  | _, _, .int i => .int i
  | _, _, .str x => .str x
  | _, _, .lst h r => .lst (Same.seq s h) (DpAll.same s r)
  | _, _, .tup h r => .tup (seqT s h) (DpAll.same s r)
theorem DpAll.same {K : PySem.W.Frag} {H H' : Hp} (s : Same H H') : ∀ {ds : List PyData} {vs : List V}, DpAll K H vs ds -> DpAll K H' vs ds
  | _, _, .nil => .nil
  | _, _, .cons h r => .cons (Dp.same s h) (DpAll.same s r)
end
end S
namespace S
open PySem PySem.Spec PyProof.Rows L2
def DZ' (c a : Addr) : HO := .ext fun h => ∃ (its : List Value) (n : Nat) (i s t k : Int), Vals [.ref c, .int i, .int s, .int t, .int k] its /\ h.get? a = some { cls := .type "list", data := .seq its.toArray n } /\ 0 <= i
def eE' (H : Hp) (a : Addr) : Prop := ∃ (c : Addr) (ns : List Int), H a = some (DZ' c a) /\ H c = some (.lst (ns.map V.int))
theorem eE'.same {H H' : Hp} {a : Addr} (s : Same H H') (h : eE' H a) : eE' H' a := by
  obtain ⟨c, ns, h1, h2⟩ := h
  exact ⟨c, ns, s _ _ h1, s _ _ h2⟩
section
variable {P : Program} {w : World} {H H' : Hp} {h h' : Heap} {a c : Addr} {o o' : HO} {fs : List Addr}
end
section
variable {P : Program} {w : World} {K : PySem.W.Frag} {mg : Str -> Option Value} {base : Heap} {k : Nat} {f : Addr} {fd : FuncData} {ps : List Str}
end
end S
namespace S
open PySem PySem.Spec PyProof.Rows L2
def Sh (n : Nat) (d : PyData) : Prop := d.canLay0 = true /\ d.depth <= n
theorem Sh.shaped {n : Nat} {d : PyData} (h : Sh n d) (hn : n <= 64) : SeqAt.shaped d = true := by
  unfold SeqAt.shaped
  rw [h.1, Bool.true_and]
  exact decide_eq_true (Nat.le_trans h.2 hn)
theorem Sh.mono {n m : Nat} {d : PyData} (h : Sh n d) (e : n <= m) : Sh m d := ⟨h.1, Nat.le_trans h.2 e⟩
theorem Sh.int {n : Nat} {i : Int} : Sh n (.int i) := ⟨rfl, Nat.zero_le _⟩
theorem Sh.bool {n : Nat} {b : Bool} : Sh n (.bool b) := ⟨rfl, Nat.zero_le _⟩
theorem Sh.none {n : Nat} : Sh n .none := ⟨rfl, Nat.zero_le _⟩
theorem Sh.str {n : Nat} {z : Str} (h : ∀ c ∈ z.cps.toList, c < 128) : Sh n (.str z) := by
  refine ⟨?_, Nat.zero_le _⟩
  show PyData.strOk z = true
  unfold PyData.strOk
  rw [Array.all_eq_true']
  intro c hc
  have := h c (by simpa using hc)
  simp only [decide_eq_true_eq]
  omega
theorem Sh.all {n : Nat} : ∀ {ds : List PyData}, (∀ d ∈ ds, Sh n d) -> PyData.canLayAll0 ds = true /\ PyData.depthAll ds <= n
  | [], _ => ⟨rfl, Nat.zero_le _⟩
  | d :: r, h => by
    have h1 := h d (by simp)
    have h2 := Sh.all (ds := r) fun x hx => h x (by simp [hx])
    refine ⟨?_, ?_⟩
    . show (d.canLay0 && PyData.canLayAll0 r) = true
      rw [h1.1, h2.1]
      rfl
    . show max d.depth (PyData.depthAll r) <= n
      exact Nat.max_le.mpr ⟨h1.2, h2.2⟩
theorem Sh.list {n : Nat} {ds : List PyData} (h : ∀ d ∈ ds, Sh n d) : Sh (n + 1) (.list ds) := ⟨(Sh.all h).1, Nat.succ_le_succ (Sh.all h).2⟩
theorem Sh.tuple {n : Nat} {ds : List PyData} (h : ∀ d ∈ ds, Sh n d) : Sh (n + 1) (.tuple ds) := ⟨(Sh.all h).1, Nat.succ_le_succ (Sh.all h).2⟩
section
variable {K : PySem.W.Frag} {H H' : Hp} {v : V} {vs : List V} {ds es : List PyData} {p : Addr} {xs : List V}
theorem DpAll.append : ∀ {vs ws : List V} {ds es : List PyData}, DpAll K H vs ds -> DpAll K H ws es -> DpAll K H (vs ++ ws) (ds ++ es)
  | _, _, _, _, .nil, h => h
  | _, _, _, _, .cons a r, h => .cons a (DpAll.append r h)
theorem DpAll.length : ∀ {vs : List V} {ds : List PyData}, DpAll K H vs ds -> vs.length = ds.length
  | _, _, .nil => rfl
  | _, _, .cons _ r => congrArg (· + 1) (DpAll.length r)
theorem DpAll.split : ∀ {a b : List V} {ds : List PyData}, DpAll K H (a ++ b) ds -> ∃ d e, ds = d ++ e /\ DpAll K H a d /\ DpAll K H b e
  | [], b, ds, h => ⟨[], ds, rfl, .nil, h⟩
  | x :: a, b, _, .cons h r => by
    obtain ⟨d, e, rfl, h1, h2⟩ := DpAll.split (a := a) r
    exact ⟨_ :: d, e, rfl, .cons h h1, h2⟩
theorem DpAll.get : ∀ {vs : List V} {ds : List PyData} {i : Nat} {d : PyData}, DpAll K H vs ds -> ds[i]? = some d -> ∃ v, vs[i]? = some v /\ Dp K H v d
  | _, _, _, _, .nil, e => by cases e
  | _, _, 0, _, .cons h _, e => ⟨_, rfl, by rw [<- Option.some.inj e]; exact h⟩
  | _, _, i + 1, _, .cons _ r, e => DpAll.get (i := i) r e
theorem Dp.int_inv {i : Int} (h : Dp K H v (.int i)) : v = .int i := by cases h; rfl
theorem Dp.str_inv {z : Str} (h : Dp K H v (.str z)) : v = .str z := by cases h; rfl
theorem Dp.tup_inv (h : Dp K H v (.tuple ds)) : ∃ p xs, v = .ref p /\ SqT K H p xs /\ DpAll K H xs ds := by
  cases h with
  | tup h1 h2 => exact ⟨_, _, rfl, h1, h2⟩
theorem Dp.lst_inv (h : Dp K H v (.list ds)) : ∃ p xs, v = .ref p /\ SqL K H p xs /\ DpAll K H xs ds := by
  cases h with
  | lst h1 h2 => exact ⟨_, _, rfl, h1, h2⟩
theorem tyT (h : SqT K H p xs) : TyX K H (.ref p) (.type "tuple") := by
  rcases h with (h | ⟨o, h⟩) | ⟨o, its, n, h, c, _⟩
  . exact .base (.tup h)
  . exact .fTuple h
  . exact .kTuple h c
theorem tyL (h : SqL K H p xs) : TyX K H (.ref p) (.type "list") := by
  rcases h with (h | ⟨o, h⟩) | ⟨o, its, n, h, c, _⟩
  . exact .base (.lst h)
  . exact .base (.frz h)
  . exact .kList h c
def tyn : PyData -> String
  | .none => "NoneType" | .bool _ => "bool" | .int _ => "int" | .str _ => "str" | .list _ => "list" | .tuple _ => "tuple" | .dict _ => "dict"
theorem _root_.L2.Dp.ty {d : PyData} (h : Dp K H v d) : TyX K H v (.type (tyn d)) := by
  cases h with
  | non => exact .base .non
  | bl b => exact .base (.bl b)
  | int i => exact .base (.int i)
  | str z => exact .base (.str z)
  | lst h1 _ => exact tyL h1
  | tup h1 _ => exact tyT h1
variable {σ : St} {R : St -> Hp -> Prop}
end
theorem lJ' {a b : Str} (h : a.cps.toList = b.cps.toList) : a = b := by
  obtain ⟨a⟩ := a
  obtain ⟨b⟩ := b
  have : a = b := by simpa using congrArg List.toArray h
  rw [this]
theorem uS' (a b : Str) : (a ++ b).cps.toList = a.cps.toList ++ b.cps.toList := by
  show (a.cps ++ b.cps).toList = _
  simp
theorem ui' (a : Str) : a.length = a.cps.toList.length := by
  show a.cps.size = _
  simp
section
variable {α β : Type}
def Eh' (xs : List α) (lo hi : Option Int) : List α := (xs.drop (HT.sIx xs.length 0 lo)).take (HT.sIx xs.length xs.length hi - HT.sIx xs.length 0 lo)
theorem Bl' (z : Str) (lo hi : Option Int) : (cutS z lo hi).cps.toList = Eh' z.cps.toList lo hi := by
  unfold cutS Eh'
  rw [ui']
end
end S
namespace S
open PySem PySem.Spec PyProof.Rows L2
section
variable {K : PySem.W.Frag} {H : Hp} {J : It} {g : TG} {tt : TT} {te : TE} {vs : List Nat} {σ : St} {Q : VK} {G : Hp -> Prop}
theorem DpAll.at {H : Hp} : ∀ {d r : List V} {x : V} {ds : List PyData}, DpAll K H (d ++ x :: r) ds -> ∃ e, ds[d.length]? = some e /\ Dp K H x e /\ ds.take (d.length + 1) = ds.take d.length ++ [e] := by
  intro d r x ds h
  obtain ⟨a, b, rfl, h1, h2⟩ := DpAll.split h
  cases h2 with
  | cons h3 h4 =>
    have hl := DpAll.length h1
    rename_i e es
    have e1 : (a ++ e :: es)[d.length]? = some e := by rw [List.getElem?_append_right (by omega), hl, Nat.sub_self]; rfl
    refine ⟨_, e1, h3, ?_⟩
    rw [List.take_add_one, e1]
    rfl
theorem _root_.L2.Dp.t2 {v : V} {d e : PyData} (h : Dp K H v (.tuple [d, e])) : ∃ p x y, v = .ref p /\ SqT K H p [x, y] /\ Dp K H x d /\ Dp K H y e := by
  obtain ⟨p, xs, rfl, q, a⟩ := Dp.tup_inv h
  cases a with
  | cons a1 a => cases a with
    | cons a2 a => cases a; exact ⟨p, _, _, rfl, q, a1, a2⟩
theorem _root_.L2.Dp.t3 {v : V} {d e f : PyData} (h : Dp K H v (.tuple [d, e, f])) : ∃ p x y z, v = .ref p /\ SqT K H p [x, y, z] /\ Dp K H x d /\ Dp K H y e /\ Dp K H z f := by
  obtain ⟨p, xs, rfl, q, a⟩ := Dp.tup_inv h
  cases a with
  | cons a1 a => cases a with
    | cons a2 a => cases a with
      | cons a3 a => cases a; exact ⟨p, _, _, _, rfl, q, a1, a2, a3⟩
end
end S
namespace S
open PySem PySem.Spec PyProof.Rows L2
def ItP (xs ys : Nat -> Option V) (n : Nat) : It :=
  ⟨fun i _ => i < n, fun i H v H' => ∃ T x y, v = .ref T /\ H T = none /\ H' = upd H T (.tup [x, y]) /\ xs i = some x /\ ys i = some y, fun i _ => i = n⟩
theorem ra' {P : Program} {w : World} {K : PySem.W.Frag} {tg : Expr} {z : Addr} {fp wr : List Addr} {n : Nat} {P1 P2 : Nat -> Value -> Prop} {St : Nat -> Heap -> Prop} {xs ys : Nat -> Option V}
    (W : ∀ A : Around, A.handled = none -> GoesN P w A tg z fp wr n (fun i h₀ v h => ∃ T x y, v = .ref T /\ h₀.objs.size <= T /\ P1 i x /\ P2 i y /\ h.IsTuple T #[x, y]) St) (hz : z ∈ fp) (sf : ∀ (A : Around) (i : Nat) (s : Shared) (Q : Value -> Shared -> Prop) (E : Value -> Shared -> Prop), St i s.heap -> Q (.ref z) s -> wpAny (model P w) A (pyIter (.ref z)) Q E s)
    (ob : ∀ i h, St i h -> ∀ b ∈ fp, ∃ o, h.get? b = some o /\ ∀ v, o.data ≠ .cell v) (r1 : ∀ i u, i < n -> P1 i u -> ∃ x, xs i = some x /\ RelV x u) (r2 : ∀ i u, i < n -> P2 i u -> ∃ x, ys i = some x /\ RelV x u) :
    Turn P w K tg (ItP xs ys n) fp z St where
  mem := hz
  obj := ob
  keep := fun i h h' st k => (W callerA rfl).frame i h h' st k
  item := by
    intro X hP hw hK hc i pins s σ H E I hf st hg
    subst hP hw hK
    have Wa := W X.A (I.ok.hd hc)
    refine Wa.goes i s _ E hg st fun v h' tk hY st' hk htk => ?_
    obtain ⟨T, u1, u2, rfl, hT, p1, p2, o, ho, hoc, m, hod⟩ := hY
    obtain ⟨x, hx, rx⟩ := r1 i u1 hg p1
    obtain ⟨y, hy, ry⟩ := r2 i u2 hg p2
    have new : ObjOk X.prog X.w (upd H T (.tup [x, y])) h' T (.tup [x, y]) := ⟨by show 2 <= sizeLine; decide, [u1, u2], .cons rx (.cons ry .nil), ⟨_, ho, hoc, _, hod⟩⟩
    have I1 : Inv X pins σ (upd H T (.tup [x, y])) { s with heap := h', toks := tk } :=
      I.turnedNew (t' := tk) (ch := fp) (fun b o hb q => hk b o (fun z => hb (Wa.sub b z)) q) hf hT new
    refine ⟨.ref T, _, I1, rfl, ⟨T, x, y, rfl, I.hok.fresh hT, rfl, hx, hy⟩, st', fun b hb => ?_⟩
    obtain ⟨ob1, hob, _⟩ := ob i s.heap st b hb
    rw [upd_ne (Nat.ne_of_lt (Nat.lt_of_lt_of_le (Heap.lt_size hob) hT))]
    exact (hf b hb).1
  done := by
    intro X hP hw hK hc i pins s σ H E I hf st hg
    subst hP hw hK
    have Wa := W X.A (I.ok.hd hc)
    have hg' : i = n := hg
    subst hg'
    exact Wa.stops s _ E st fun h' tk hk htk => I.turnedL (t' := tk) (ch := fp) (fun b o hb q => hk b o (fun z => hb (Wa.sub b z)) q) hf
  self := sf
def chS (z : Str) (i : Nat) : Option V := (z.cps.toList[i]?).map fun c => .str ⟨#[c]⟩
theorem v3' {z : Str} {i : Nat} {u : Value} (h : ∃ c t, z.cps[i]? = some c /\ u = .str ⟨#[c]⟩ t) : ∃ x, chS z i = some x /\ RelV x u := by
  obtain ⟨c, t, hc, rfl⟩ := h
  refine ⟨.str ⟨#[c]⟩, ?_, ⟨t, rfl⟩⟩
  unfold chS
  rw [show z.cps.toList[i]? = some c by rw [<- hc]; simp]
  rfl
def Ao' (ta : TA) : TI := fun σ H R => ta σ H fun vs H1 => ∃ x y : Str, vs = [.str x, .str y] /\ R (ItP (chS x) (chS y) (min x.cps.size y.cps.size)) H1
theorem w0' {X : Cx} {e e2 : Expr} {ta : TA} {p pos tpos : Pos} {elts : List Expr} {kk} (hg : Gl X "zip") (hm : X.mg "zip" = none) (ha : PA X [e, e2] ta)
    (hs : starEach [e, e2] X.env = (false, eval e X.env) :: starEach [e2] X.env := by rfl) (hpl : (backTo pos (starEach [e2] X.env)).any (·.1) = false := by rfl) :
    PI X (.Tuple elts kk tpos) (.Call (.Name "zip" p) [e, e2] [] pos) (Ao' ta) := by
  refine ⟨fun pins s σ H R I h => ?_⟩
  refine Call_ (ld_blt I hg hm PyProof.Rows.boot_zip (PyProof.Rows.callWith_type1 (thn (ha.run pos pins s σ H _ I h) fun us s1 ⟨vs, H1, I1, r1, q1⟩ => ?_) hs hpl))
  obtain ⟨x, y, ex, q⟩ := q1
  subst ex
  cases r1 with
  | cons r rr =>
    cases rr with
    | cons r' rr =>
      cases rr
      obtain ⟨t1, rfl⟩ := r
      obtain ⟨t2, rfl⟩ := r'
      refine zip_begins2 (begins_text x _) (begins_text y _) True.intro True.intro fun h' hz hTI hTO h1 h2 hsz hk => wpAny_pyIter_zip hz ?_
      have I2 : Inv X pins σ H1 { s1 with heap := h' } := I1.kept (t' := s1.toks) hk
      have S2 : ZipSep2 (s1.heap.objs.size + 4) (s1.heap.objs.size + 2) (s1.heap.objs.size + 3) s1.heap.objs.size (s1.heap.objs.size + 1) [s1.heap.objs.size] [s1.heap.objs.size + 1] := by
        constructor <;> simp
      refine ⟨s1.heap.objs.size + 4, (s1.heap.objs.size + 4) :: (s1.heap.objs.size + 2) :: (s1.heap.objs.size + 3) :: ([s1.heap.objs.size] ++ [s1.heap.objs.size + 1]), _, _, H1, rfl, I2,
        ra' (fun A hA => GoesN.zip2 S2 (Draws.text (A := A.in1) hA _ x _) (Draws.text (A := A.in1) hA _ y _)) (by simp) (fun A i s Q E st h => wpAny_pyIter_zip st.1 h) (fun i h st b hb => ?_) (fun i u _ hu => v3' hu) (fun i u _ hu => v3' hu), ⟨hz, hTI, ⟨_, _, hTO⟩, ⟨_, h1, rfl, rfl⟩, ⟨_, h2, rfl, rfl⟩⟩, fun c hcm => ?_, q⟩
      . obtain ⟨hz, hTI, ⟨a1, a2, hTO⟩, ⟨o1, e1, _, d1⟩, ⟨o2, e2, _, d2⟩⟩ := st
        have e' : b = s1.heap.objs.size + 4 \/ b = s1.heap.objs.size + 2 \/ b = s1.heap.objs.size + 3 \/ b = s1.heap.objs.size \/ b = s1.heap.objs.size + 1 := by simpa using hb
        rcases e' with z | z | z | z | z
        . rw [z]; exact ⟨_, hz, fun v q => nomatch q⟩
        . rw [z]; exact ⟨_, hTI, fun v q => nomatch q⟩
        . rw [z]; exact ⟨_, hTO, fun v q => nomatch q⟩
        . rw [z]; exact ⟨o1, e1, fun v q => by rw [d1] at q; cases q⟩
        . rw [z]; exact ⟨o2, e2, fun v q => by rw [d2] at q; cases q⟩
      . have e' : c = s1.heap.objs.size + 4 \/ c = s1.heap.objs.size + 2 \/ c = s1.heap.objs.size + 3 \/ c = s1.heap.objs.size \/ c = s1.heap.objs.size + 1 := by simpa using hcm
        have hle : s1.heap.objs.size <= c := by
          rcases e' with z | z | z | z | z
          . rw [z]; exact Nat.le_add_right _ _
          . rw [z]; exact Nat.le_add_right _ _
          . rw [z]; exact Nat.le_add_right _ _
          . rw [z]; exact Nat.le_refl _
          . rw [z]; exact Nat.le_add_right _ _
        exact I1.fpOk hle (I1.hok.fresh hle)
end S
namespace S
open PySem PySem.Spec PyProof.Rows L2
section
variable {X : Cx} {K : PySem.W.Frag} {to te : TE} {o e : Expr} {H : Hp} {Q : VK}
def rM' : V -> List V -> Hp -> VK -> Prop := fun x xs H Q => ∃ a b i rest, x = .str a /\ xs = [.str b] /\ Builtin.Str.occurrences a b 0 a.length 1 = i :: rest /\ Q (.int (i : Nat)) H
theorem r3' : MtR X "str.index" rM' := by
  intro pins s σ H x xs v us Q I rx rs h
  obtain ⟨a, b, i, rest, rfl, rfl, ho, h⟩ := h
  obtain ⟨t, rfl⟩ := rx
  cases rs with
  | cons r1 rs =>
    cases rs
    obtain ⟨u, rfl⟩ := r1
    exact PySem.call_gives F.slot_str_index (typeIs_str _ _ _) F.entry_str_index (F.args_str_index_2 _ _) (gives_str_index a b t u i rest ho) ⟨.int (i : Nat), H, I.tok (s.toks + 1), ⟨_, rfl⟩, h⟩
def zJ' (K : PySem.W.Frag) : V -> List V -> Hp -> VK -> Prop := fun x xs H Q => ∃ a p, ∃ ys : List Str, x = .str a /\ xs = [.ref p] /\ (SqL K H p (ys.map V.str) \/ SqT K H p (ys.map V.str)) ∧
    (ys.map (·.length)).sum + ys.length * a.length <= 16777216 /\ Q (.str (Txt.join a ys)) H
def chv (c : Nat) : V := .str ⟨#[c]⟩
end
end S
namespace S
open PySem PySem.Spec PyProof.Rows L2
end S
namespace S
open PySem PySem.Spec PyProof.Rows L2
theorem fP' : ∀ (vs : List Value) (l : List Nat), vs.length = l.length -> (∀ (j : Nat) (v : Value), vs[j]? = some v -> ∃ c u, l[j]? = some c /\ v = .str ⟨#[c]⟩ u) -> StrsAre vs (l.map fun c => ⟨#[c]⟩)
  | [], [], _, _ => .nil
  | [], _ :: _, h, _ => by simp at h
  | _ :: _, [], h, _ => by simp at h
  | v :: vs, c :: l, h, hh => by
    obtain ⟨d, u, h1, rfl⟩ := hh 0 v rfl
    cases h1
    exact .cons _ _ (fP' vs l (by simpa using h) fun j w hw => by
      have := hh (j + 1) w (by simpa using hw)
      simpa using this)
theorem lO' {prog : Program} {w : World} {A : Around} {E : Value -> Shared -> Prop} {s : Shared} {x : Str} {t : Tok} {Q : Value -> Shared -> Prop} (hh : A.handled = none) (h64 : x.cps.size < 64)
    (h : ∀ (h' h'' : Heap) (tk : Nat) (out : List Value) (ss : List Str), (∀ b o, s.heap.get? b = some o -> h'.get? b = some o) -> (∀ b o, h'.get? b = some o -> h''.get? b = some o) -> (∃ e, h''.get? h'.objs.size = some (seqObj "list" out.toArray e)) →
      StrsAre out ss -> ss.Perm (x.cps.toList.map fun c => ⟨#[c]⟩) -> sortedS ss = true -> Q (.ref h'.objs.size) { s with heap := h'', toks := tk }) :
    wpAny (model prog w) A (call (.builtin "sorted") [.str x t]) Q E s := by
  refine Calls.call_function_entry kind_sorted plain_sorted entry_sorted (args_sorted1 _) ?_
  unfold Builtin.«sorted»
  refine wpAny_bind (m := checkCount "sorted" 1 1 _) (wpAny_pure ?_)
  refine wpAny_bind (m := collect (.str x t)) (wpAny_collect_str (A := A.in1) hh x t (fun s' acc hk hg hd ho hacc => ?_) (by rw [sizeLine_eq]; omega))
  obtain ⟨hp, g, d, tk, os⟩ := s
  obtain ⟨hp', g', d', tk', os'⟩ := s'
  obtain rfl : g' = g := hg
  obtain rfl : d' = d := hd
  obtain rfl : os' = os := ho
  have hS : StrsAre acc.toList (x.cps.toList.map fun c => ⟨#[c]⟩) := by
    refine fP' _ _ (by rw [Array.length_toList, Array.length_toList]; exact hacc.1) fun j v hv => ?_
    obtain ⟨c, u, h1, h2⟩ := hacc.2 j v (by simpa using hv)
    exact ⟨c, u, by rw [<- h1]; simp, h2⟩
  have hl : acc.toList.length < 64 := by rw [Array.length_toList, hacc.1]; exact h64
  refine wpAny_bind (wpAny_newList ?_)
  have hoL : (hp'.push (seqObj "list" acc.toList.toArray 0)).get? hp'.objs.size = some (seqObj "list" acc.toList.toArray 0) := Heap.get?_push_size _ rfl
  refine wpAny_bind (wpAny_holding (wpAny_call_entry slot_list_sort ⟨_, hoL, rfl⟩ entry_list_sort (list_sort_treeK strKind_oneLt hoL hS.keysOf (fun v₁ v₂ rest e => keyKind_strs (by rw [<- e]; exact hS)) hl fun st' a1 a2 => ⟨_, rfl, ?_⟩) (args_list_sort _)))
  obtain ⟨ss', h1, h2, h3⟩ := sorted_out_str hS a1 a2
  refine wpAny_pure ⟨_, rfl, h hp' _ tk' _ ss' hk (fun b o hb => ?_) ?_ h1 h2 h3⟩
  . have hlt := Heap.lt_size hb
    rw [sortedHeap_old (Nat.ne_of_lt hlt) (by rw [size_push']; exact Nat.lt_succ_of_lt hlt)]
    exact Heap.get?_push_of_some _ hb
  . obtain ⟨e, he⟩ := sortedHeap_at (out := (arrOf st').map (·.2)) hoL
    exact ⟨e, by rw [he]⟩
def kz' : List V -> Hp -> VK -> Prop := fun vs H Q => ∃ x : Str, vs = [V.str x] /\ x.length < 64 /\ ∀ (ys : List Str) (p : Addr) (H' : Hp), ys.Perm (x.cps.toList.map fun c => ⟨#[c]⟩) -> sortedS ys = true -> H p = none -> Same H H' -> H' p = some (.lst (ys.map V.str)) -> Q (.ref p) H'
theorem mA' {X : Cx} (hc : X.calm = true) : CallR X (.builtin "sorted") kz' := by
  intro pins s σ H vs us Q I r h
  obtain ⟨x, rfl, h64, q⟩ := h
  cases r with
  | cons r rr =>
    cases rr
    obtain ⟨t, rfl⟩ := r
    refine lO' (I.ok.hd hc) h64 fun h' h'' tk out ss hk hk2 ho h1 h2 h3 => ?_
    obtain ⟨e, he⟩ := ho
    have I1 : Inv X pins σ H { s with heap := h' } := I.kept (t' := s.toks) hk
    have hlen : (ss.map V.str).length <= sizeLine := by
      rw [List.length_map, h2.length_eq, List.length_map, Array.length_toList]
      exact small64 h64
    have I2 : Inv X pins σ (upd H h'.objs.size (.lst (ss.map V.str))) { s with heap := h'', toks := tk } :=
      I1.laid (t' := tk) (fun b u hb => hk2 b u hb) (Nat.le_refl _) ⟨hlen, out, e, vals_of_strs h1, he⟩
    have hn : H h'.objs.size = none := I1.hok.fresh (Nat.le_refl _)
    exact ⟨.ref _, _, I2, rfl, q ss _ _ h2 h3 hn (Same.upd hn) upd_same⟩
section
variable {K : PySem.W.Frag} {H : Hp} {Q : VK} {σ : St}
end
theorem w3' {X : Cx} {tg iter : Expr} {w1 w2 : TI} (h1 : PI X tg iter w1) (h2 : PI X tg iter w2) : PI X tg iter (fun σ H R => w1 σ H R \/ w2 σ H R) :=
  ⟨fun pins s σ H R I h => h.elim (h1.run pins s σ H R I) (h2.run pins s σ H R I)⟩
def An' (K : PySem.W.Frag) (ta : TA) : TI := fun σ H R => Ao' ta σ H R \/ RZ.iZipA K ta σ H R
theorem wZ' {X : Cx} {e e2 : Expr} {ta : TA} {p pos tpos : Pos} {elts : List Expr} {kk} (hg : Gl X "zip") (hm : X.mg "zip" = none) (ha : PA X [e, e2] ta)
    (hs : starEach [e, e2] X.env = (false, eval e X.env) :: starEach [e2] X.env := by rfl) (hpl : (backTo pos (starEach [e2] X.env)).any (·.1) = false := by rfl) :
    PI X (.Tuple elts kk tpos) (.Call (.Name "zip" p) [e, e2] [] pos) (An' X.K ta) := w3' (w0' hg hm ha hs hpl) (RZ.pi_zipA hg hm ha hs hpl)
end S
namespace S
open PySem PySem.Spec PyProof.Rows L2
section
variable {K : PySem.W.Frag} {σ : St} {H : Hp} {Q : VK} {te ta tv : TE} {f : Str} {v y : V} {a C dx : Addr} {fs : List (Str × V)} {D : Ends} {R : Hp -> Prop}
end
def CB' (C : Addr) (m : Str) (sp : Sp) (E : XK) (σ : St) (t : TA) : V -> Hp -> VK -> Prop := fun x H Q => ∃ a dx fs, x = .ref a /\ H a = some (.ins C dx fs) /\ fs.lookup m = none /\ t σ H fun vs H2 => sp (x :: vs) H2 Q E
def vl' (C : Addr) (sp : Sp) (E : St -> XK) (t : TA) : TE := fun σ H Q => t σ H fun vs H1 => ∀ x dx, H1 x = none -> H1 dx = none -> dx ≠ x -> sp (.ref x :: vs) (upd (upd H1 dx (.own x)) x (.ins C dx [])) (fun v H2 => v = .non /\ Q (.ref x) H2) (E σ)
section
variable {K : PySem.W.Frag} {σ : St} {H : Hp} {Q : VK} {ta : TE} {t : TA} {C a dx : Addr} {m : Str} {sp : Sp} {E : St -> XK} {E' : XK} {fs : List (Str × V)} {vs : List V}
end
section
variable {X : Cx} {k : Nat} {C : Addr} {x m : Str} {ps : List Str} {sp : Sp} {p pos apos : Pos} {e o : Expr} {es : List Expr} {ta : TE} {t : TA} {W : WX} {CX : CXT} {f : Addr} {fd : FuncData} {E : St -> XK}
end
end S
namespace S
open PySem PySem.Spec PyProof.Rows L2
def signs (x : Str) : List V := x.cps.toList.map fun c => V.str ⟨#[c]⟩
theorem o5' {x : Str} {acc : Array Value} (h : ItemsOf (SignAt x) acc x.cps.size) : Vals (signs x) acc.toList := by
  have hS : StrsAre acc.toList (x.cps.toList.map fun c => ⟨#[c]⟩) := by
    refine fP' _ _ (by rw [Array.length_toList, Array.length_toList]; exact h.1) fun j v hv => ?_
    obtain ⟨c, u, h1, h2⟩ := h.2 j v (by simpa using hv)
    exact ⟨c, u, by rw [<- h1]; simp, h2⟩
  have := vals_of_strs hS
  rw [List.map_map] at this
  exact this
def vx' : List V -> Hp -> VK -> Prop := fun vs H Q => ∃ x : Str, vs = [V.str x] /\ x.length <= sizeLine /\ ∀ p, H p = none -> Q (.ref p) (upd H p (.tup (signs x)))
theorem pw' {X : Cx} (hc : X.calm = true) : CallR X (.type "tuple") vx' := by
  intro pins s σ H vs us Q I r h
  obtain ⟨x, rfl, hl, q⟩ := h
  cases r with
  | cons r rr =>
    cases rr
    obtain ⟨t, rfl⟩ := r
    refine call_tuple_str (I.ok.hd hc) x t (fun h' tk acc hk hacc => ?_) hl
    have hlen : (signs x).length <= sizeLine := by
      unfold signs
      rw [List.length_map, Array.length_toList]
      exact hl
    have I1 : Inv X pins σ H { s with heap := h' } := I.kept (t' := s.toks) hk
    have I2 : Inv X pins σ (upd H h'.objs.size (.tup (signs x))) { s with heap := h'.push { cls := .type "tuple", data := .seq acc }, toks := tk } :=
      I1.laid (t' := tk) (fun b u hb => Heap.get?_push_of_some _ hb) (Nat.le_refl _) ⟨hlen, acc.toList, o5' hacc, ⟨_, Heap.get?_push_size _ rfl, rfl, 0, by simp⟩⟩
    exact ⟨.ref _, _, I2, rfl, q _ (I1.hok.fresh (Nat.le_refl _))⟩
def rF' (K : PySem.W.Frag) : List V -> Hp -> VK -> Prop := fun vs H Q => rG' K vs H Q \/ vx' vs H Q
theorem bc' {X : Cx} (hc : X.calm = true) : CallR X (.type "tuple") (rF' X.K) := mB'.or (pw' hc)
end S
namespace S
open PySem PySem.Spec PyProof.Rows L2
structure RoomG (k : Nat) (A : Around) : Prop where
  r : Room k A
  g : A.guards = some []
theorem RoomG.mono {j k : Nat} {A : Around} (h : RoomG k A) (l : j <= k) : RoomG j A := ⟨h.r.mono l, h.g⟩
theorem RoomG.units {k : Nat} {A : Around} (h : RoomG k A) : A.units + 64 < cLine := h.r.units
structure FnG (P : Program) (w : World) (K : PySem.W.Frag) (mg : Str -> Option Value) (base : Heap) (CX : CXT) (k : Nat) (f : Addr) (fd : FuncData) (ps : List Str) (sp : Sp) : Prop where
  len : ∀ vs H Q E, sp vs H Q E -> vs.length = ps.length
  run : ∀ (A : Around) (outer : List Env) (s : Shared) (H : Hp) (args : Args) (us : List Value) (vs : List V) (Q : VK) (E : XK), RoomG k A -> Env0 P w K mg base A outer s H →
    BindsTo s fd args (ps.zip us) -> Vals vs us -> sp vs H Q E -> codeAny (model P w) A (.call (.ref f) args) (CR CX outer P w H s Q E) s
theorem FnG.of {P : Program} {w : World} {K : PySem.W.Frag} {mg : Str -> Option Value} {base : Heap} {CX : CXT} {k : Nat} {f : Addr} {fd : FuncData} {ps : List Str} {sp : Sp} (F : FnOk P w K mg base CX k f fd ps sp) : FnG P w K mg base CX k f fd ps sp :=
  ⟨F.len, fun A o s H as us vs Q E h => F.run A o s H as us vs Q E h.r⟩
section
variable {P : Program} {w : World} {K : PySem.W.Frag} {mg : Str -> Option Value} {base : Heap} {CX : CXT} {f : Addr} {fd : FuncData}
theorem Ar' {N ps : List Str} {scope : Scope} (S : FnScope N ps scope) (us : List Value) (n : Nat) : ∀ y ∈ ps.zip us,
    scope.names.lookup y.1 = some .local \/ (scope.names.lookup y.1 = some .cell /\ ((cellsFrom n scope.names []).lookup y.1).isSome = true) := by
  rintro ⟨nm, v⟩ hy
  have q := S.par nm (List.of_mem_zip hy).1
  exact q.imp id fun q => ⟨q, PySem.W.cellsFrom_some _ _ _ (.inl q)⟩
theorem xH' {x qual : Str} {params : Arguments} {body : List Stmt} {scope : Scope} {N ps : List Str} {k : Nat} {sp : Sp} (F : FunD K x qual params body scope [] [] f fd) (S : FnScope N ps scope)
    (len : ∀ vs H Q E, sp vs H Q E -> vs.length = ps.length)
    (hbody : ∀ (cdv oc : Value) (od : Option Addr) (osl : Array (Option Value)), K.lookup f = some ⟨oc, od, .func fd, osl⟩ -> fd.code = cdv -> PySem.W.codeIn K cdv qual = true -> ∀ (A : Around) (o : List Env) (s : Shared) (H : Hp) (vs : List V) (Q : VK) (E : XK), RoomG k (A.deeper (envOfC qual scope s.heap.objs.size f cdv)) -> sp vs H Q E →
      ∃ t, PSs (cxOf CX P w K mg base N qual scope f cdv A o s H E) body t /\ t { nx := fun _ H' => Q .non H', rt := Q } (start N vs) H) : FnG P w K mg base CX (k + 1) f fd ps sp := by
  obtain ⟨oc, od, dV, kV, doc, pm, an, cdv, ct, osl, rfl, lk, hcd, _, _⟩ := F.ex
  constructor
  . exact len
  intro A o s H args us vs Q E hg e0 hb r hsp
  have Ks : K.In s.heap := e0.mod.kin.keeps fun b u e => (e0.bs b u e).1
  have Ls : s.heap.NoLimit := e0.mod.nolimit.keeps fun b u e => (e0.bs b u e).1
  refine codeAny_call_function hg.r.depth (Ks _ _ lk) rfl S.co S.gen rfl (PySem.W.codeRec_of Ks hcd) (hb _ _ _ _ ?_)
  refine wpAny_newFunctionEnv_cells S.kind (Ar' S us _) fun env he s1 z => ?_
  subst he
  refine ⟨Ls.keeps z.toInCall.keep, codeAny_func ?_⟩
  obtain ⟨t, pt, tq⟩ := hbody cdv oc od osl lk rfl hcd A o s H vs Q E ⟨hg.r.deeper _, hg.g⟩ hsp
  have J := inv_start (CX := CX) (E := E) S hg.r.hd e0 (len _ _ _ _ hsp) r z
  refine wpAny_mono (pt.run [] s1 (start N vs) H _ J tq) (fun fl s' q => ?_) fun _ _ q => q
  cases fl with
  | next =>
    obtain ⟨σ', H', I, q⟩ := q
    exact ⟨V.non, H', I.os, I.bare, I.base, I.hok, rfl, q⟩
  | ret u =>
    obtain ⟨v, σ', H', I, e, q⟩ := q
    exact ⟨v, H', I.os, I.bare, I.base, I.hok, e, q⟩
  | brk => exact (let ⟨_, _, _, z⟩ := q; z).elim
  | cont => exact (let ⟨_, _, _, z⟩ := q; z).elim
theorem vW' {X : Cx} {pins : List (Addr × Obj)} {σ : St} {H : Hp} {s s' : Shared} {Q : VK} {E : XK} (hx : PassesAt CX X σ E) (I : Inv X pins σ H s) : ∀ r : Result, CR CX X.stack X.prog X.w H s Q E r s' -> (match r with
    | .ok (.ret u) => EP X pins σ Q u s'
    | .ok _ => False
    | .error e => X.xe e s')
  | .error e, q => hx pins H s e s' I q
  | .ok (.ret u), q => I.after q
  | .ok .next, q => q
  | .ok .brk, q => q
  | .ok .cont, q => q
end
section
variable {X : Cx} {CX : CXT} {k : Nat} {f C : Addr} {fd : FuncData} {ps : List Str} {sp : Sp} {E : St -> XK} {x m : Str} {p pos apos : Pos} {e o : Expr} {es : List Expr} {ta : TE} {t : TA} {W : WX}
theorem fW' {pins : List (Addr × Obj)} {σ : St} {H : Hp} {s : Shared} {Q : VK} {us : List Value} {vs : List V} (F : FnG X.prog X.w X.K X.mg X.base CX k f fd ps sp) (hr : RoomG k X.A)
    (hb : Binds X.K fd ps []) (hx : PassesAt CX X σ (E σ)) (I : Inv X pins σ H s) (r : Vals vs us) (h : sp vs H Q (E σ)) : wpAny (model X.prog X.w) X.A (call (.ref f) us) (EP X pins σ Q) X.xe s := by
  have b := hb s us I.kIn (by rw [List.append_nil, <- r.length]; exact F.len _ _ _ _ h)
  rw [List.append_nil] at b
  refine wpAny_call (codeAny_mono (F.run X.A X.stack s H ⟨us, []⟩ us vs Q (E σ) hr I.env0 b r h) fun res s' q => ?_)
  have z := vW' hx I res q
  revert z
  cases res with
  | error e => exact id
  | ok fl => cases fl <;> exact id
def Og (P : Program) (w : World) (K : PySem.W.Frag) (mg : Str -> Option Value) (base : Heap) (k : Nat) (x : Str) (ps : List Str) (sp : Sp) : Prop :=
  ∃ fd, FnG P w K mg base (L2.CX P w) k (He.ga K x) fd ps sp /\ Binds K fd ps [] /\ PySem.W.keepIn K (.ref (He.ga K x)) = true /\ mg x = some (.ref (He.ga K x))
def OgM (P : Program) (w : World) (K : PySem.W.Frag) (mg : Str -> Option Value) (base : Heap) (k : Nat) (C : Addr) (m : Str) (ps : List Str) (sp : Sp) : Prop :=
  ∃ fd, FnG P w K mg base (L2.CX P w) k (He.ma K C m) fd ps sp /\ Binds K fd ps []
theorem tY' (F : Og X.prog X.w X.K X.mg X.base k x ps sp) (hr : RoomG k X.A) (hg : Gl X x) (tk : Takes X W) (ha : PA X (e :: es) t) (hdb : (x == ("__debug__" : Str)) = false := by decide)
    (he : starEach (e :: es) X.env = (false, eval e X.env) :: starEach es X.env := by rfl) (hpl : (backTo pos (starEach es X.env)).any (·.1) = false := by rfl) : PE X (.Call (.Name x p) (e :: es) [] pos) (tCallS sp (WE W) t) := by
  obtain ⟨fd, F, b, kp, hm⟩ := F
  refine ⟨fun pins s σ H Q I h => wpAny_Call_Name_kw (ld_glob I hg hm ?_ hdb)⟩
  refine PySem.W.callWith_K (h₀ := X.base) I.ok.mod.kin kp (thn (ha.run pos pins s σ H _ I h) fun us s1 ⟨vs, H1, I1, r, q⟩ => ?_) he hpl
  exact ⟨I1.kIn, fW' F hr b (passAt tk σ) I1 r q⟩
def jU' (K : PySem.W.Frag) (cs : List String) (m : Str) (g : Addr) : Prop := ∀ C ∈ cs, Cls K (He.ga K (Str.ofString C)) /\ Meth K (He.ga K (Str.ofString C)) m g
def rb' (K : PySem.W.Frag) (cs : List String) (m : Str) (sp : Sp) (E : St -> XK) (ta : TE) (t : TA) : TE := fun σ H Q => ta σ H fun x H1 => ∃ C, C ∈ cs /\ CB' (He.ga K (Str.ofString C)) m sp (E σ) σ t x H1 Q
theorem tV' {pl : Sem Bool} {cs : List String} (he : PE X o ta) (F : OgM X.prog X.w X.K X.mg X.base k C m ps sp) (hr : RoomG k X.A) (hm : jU' X.K cs m (He.ma X.K C m)) (tk : Takes X W) (ha : PA X (e :: es) t)
    (hst : starEach (e :: es) X.env = (false, eval e X.env) :: starEach es X.env := by rfl) (hpl : (backTo pos (starEach es X.env)).any (·.1) = false := by rfl)
    (ht : eval (.Call (.Attribute o m apos) (e :: es) [] pos) X.env = (eval o X.env >>= fun ov => standAt apos.atName >>= fun _ => holding [ov] (getMethod ov m pl) >>= fun q =>
      callWith pos q.1 q.2 (backTo pos (starEach (e :: es) X.env)) (backToKw pos (keywordEach [] X.env))) := by rfl) :
    PE X (.Call (.Attribute o m apos) (e :: es) [] pos) (rb' X.K cs m sp (WE W) ta t) := by
  obtain ⟨fd, F, hb⟩ := F
  refine ⟨fun pins s σ H Q I h => PySem.W.methodCall_KW (pl := pl) (thn (he.run pins s σ H _ I h) fun u s1 ⟨x, H1, I1, rx, D, hD, a, dx, fs, ex, ea, l, q⟩ => ?_) ht⟩
  obtain ⟨c, hm⟩ := hm D hD
  subst ex
  cases (show u = Value.ref a from rx)
  refine getmeth_ok I1 ea c hm l (PySem.W.callWith_K (first := [.ref a]) (h₀ := X.base) I.ok.mod.kin hm.kp (thn (ha.run pos pins s1 σ H1 _ I1 q) fun us s2 ⟨vs, H2, I2, r, q2⟩ => ?_) hst hpl)
  exact ⟨I2.kIn, fW' (us := .ref a :: us) (vs := .ref a :: vs) F hr hb (passAt tk σ) I2 (.cons rfl r) q2⟩
theorem rU' {pl : Sem Bool} {cs : List String} (he : PE X o ta) (F : OgM X.prog X.w X.K X.mg X.base k C m ps sp) (hr : RoomG k X.A) (hm : jU' X.K cs m (He.ma X.K C m)) (tk : Takes X W)
    (ht : eval (.Call (.Attribute o m apos) [] [] pos) X.env = (eval o X.env >>= fun ov => standAt apos.atName >>= fun _ => holding [ov] (getMethod ov m pl) >>= fun q =>
      callWith pos q.1 q.2 (backTo pos (starEach [] X.env)) (backToKw pos (keywordEach [] X.env))) := by rfl) :
    PE X (.Call (.Attribute o m apos) [] [] pos) (rb' X.K cs m sp (WE W) ta tNil) := by
  obtain ⟨fd, F, hb⟩ := F
  refine ⟨fun pins s σ H Q I h => PySem.W.methodCall_KW (pl := pl) (thn (he.run pins s σ H _ I h) fun u s1 ⟨x, H1, I1, rx, D, hD, a, dx, fs, ex, ea, l, q⟩ => ?_) ht⟩
  obtain ⟨c, hm⟩ := hm D hD
  subst ex
  cases (show u = Value.ref a from rx)
  exact getmeth_ok I1 ea c hm l (PySem.W.callWith_K0 (first := [.ref a]) I1.kIn hm.kp (fW' (us := [.ref a]) (vs := [.ref a]) F hr hb (passAt tk σ) I1 (.cons rfl .nil) q))
theorem o1' {A : Around} {C : Addr} {us : List Value} {kw : List (Str × Value)} (h : A.guards = some []) : (A.under (.builtin "type.__call__" ⟨.ref C :: us, kw⟩)).guards = some [] := by
  simp [Around.under, Code.guards, Code.isGuard, guardIds, pushGuards, h]
theorem tW' (F : OgM X.prog X.w X.K X.mg X.base k C "__init__" ps sp) (hr : RoomG (k + 1) X.A) (hg : Gl X x) (M : Mk X.K C (He.ma X.K C "__init__")) (hm : X.mg x = some (.ref C)) (tk : Takes X W)
    (ha : PA X (e :: es) t) (hdb : (x == ("__debug__" : Str)) = false := by decide) (he : starEach (e :: es) X.env = (false, eval e X.env) :: starEach es X.env := by rfl) (hpl : (backTo pos (starEach es X.env)).any (·.1) = false := by rfl) :
    PE X (.Call (.Name x p) (e :: es) [] pos) (vl' C sp (WE W) t) := by
  obtain ⟨fd, F, hb⟩ := F
  refine ⟨fun pins s σ H Q I h => wpAny_Call_Name_kw (ld_glob I hg hm ?_ hdb)⟩
  refine PySem.W.callWith_K (h₀ := X.base) I.ok.mod.kin M.kp (thn (ha.run pos pins s σ H _ I h) fun us s1 ⟨vs, H1, I1, r, q⟩ => ?_) he hpl
  have fr := fun n (l : s1.heap.objs.size <= n) => I1.hok.fresh l
  have q := q (s1.heap.objs.size + 1) s1.heap.objs.size (fr _ (Nat.le_succ _)) (fr _ (Nat.le_refl _)) (Nat.ne_of_lt (Nat.lt_succ_self _))
  have J := Inv.made (C := C) I1
  have b := hb (s := _) (us := Value.ref (s1.heap.objs.size + 1) :: us) J.kIn (by
    rw [List.append_nil, <- F.len _ _ _ _ q]
    simp [r.length])
  rw [List.append_nil] at b
  refine ⟨I1.kIn, wpAny_call (make_map (f := He.ma X.K C "__init__") I1.kIn M.makes M.init (beq_iff_eq.mp M.fn) (codeAny_mono (F.run _ X.stack _ _ ⟨Value.ref (s1.heap.objs.size + 1) :: us, []⟩ _ _ _ (WE W σ)
    (k := k) ⟨hr.r.make C _ [], o1' hr.g⟩ (J.env0.make C _ []) b (Paired.cons (show L2.RelV (.ref (s1.heap.objs.size + 1)) (.ref (s1.heap.objs.size + 1)) from rfl) r) q) fun res s' q' => ?_))⟩
  have z := vW' (passAt tk σ) J res q'
  revert z
  cases res with
  | error e => exact id
  | ok fl =>
    cases fl with
    | ret u =>
      rintro ⟨v, H', I3, rv, ev, q3⟩
      subst ev
      exact ⟨rv, ⟨V.ref (s1.heap.objs.size + 1), H', I3, rfl, q3⟩⟩
    | next => exact id
    | brk => exact id
    | cont => exact id
end
theorem pv' {P : Program} {w : World} {CX : CXT} {H : Hp} {s s' : Shared} (hO : Only H) (ok : HOk P w H s.heap) (hCX : ∀ e s', CX [] H s (fun _ _ _ => False) e s' -> False) : ∀ res : Result,
    CR CX [] P w H s (fun v _ => v = .bl true) (fun _ _ _ => False) res s' -> res = .ok (.ret (.bool true)) /\ OldK s.heap s'.heap /\ s'.os = s.os /\ AllBare s'.gens
  | .error e, q => (hCX e s' q).elim
  | .ok .next, q => False.elim q
  | .ok .brk, q => False.elim q
  | .ok .cont, q => False.elim q
  | .ok (.ret u), ⟨v, H', os, bare, un, ok', rv, q⟩ => by
    have q : v = .bl true := q
    rw [q] at rv
    cases (show u = Value.bool true from rv)
    refine ⟨rfl, OldK.of_keep fun b o e => ?_, os, bare⟩
    rcases hO b with z | ⟨ob, xs, z⟩
    . exact un.keep b o e z (List.not_mem_nil) (List.not_mem_nil)
    . have e1 := (ok b _ z).1
      have e2 := (ok' b _ (un.frzs b ob _ z)).1
      rw [e] at e1
      cases e1
      exact e2
theorem kZ' {P : Program} {w : World} {K : PySem.W.Frag} {mg mb : Str -> Option Value} {CX : CXT} {k : Nat} {fa a : Addr} {fd : FuncData} {x : Str} {sp : Sp} {s : Shared} {vs : List Value} {n0 : Nat} {H : Hp}
    (KX : K.In s.heap) (n1 : s.heap.Ns mainGlobals mg) (n2 : s.heap.Ns builtinsNs mb) (n3 : ∀ x : Str, x ≠ "__name__" -> mb x = bootBuiltins x) (lim : s.heap.NoLimit) (hg : s.gens = #[])
    (ha : s.heap.get? a = some { cls := .type "list", data := .seq vs.toArray n0 }) (hr : Room k callerA) (F : ∀ base : Heap, K.In base -> base.Ns mainGlobals mg -> FnG P w K mg base CX k fa fd [x] sp)
    (hbind : ∀ (s : Shared) (u : Value), BindsTo s fd ⟨[u], []⟩ [(x, u)]) (hO : Only H) (hs : sp [.ref a] H (fun v _ => v = .bl true) fun _ _ _ => False) (hCX : ∀ e s', CX [] H s (fun _ _ _ => False) e s' -> False)
    (ok : HOk P w H s.heap) (one : ∀ b u, H b = some u -> b = a) (out : H a ≠ none -> K.lookup a = none) :
    codeAny (model P w) callerA (.call (.ref fa) ⟨[.ref a], []⟩) (fun r s' => r = .ok (.ret (.bool true)) /\ OldK s.heap s'.heap /\ s'.os = s.os /\ AllBare s'.gens) s := by
  -- an object that is no list of the script stands in the base
  have apart : ∀ {b : Addr} {o : Obj}, s.heap.get? b = some o -> (∀ l n, o.data ≠ .seq l n) -> H b = none := by
    intro b o e d
    cases q : H b with
    | none => rfl
    | some u =>
      have e' := one b u q
      rw [e', ha] at e
      cases e
      exact absurd rfl (d _ _)
  have keep : ∀ {b : Addr} {m : Str -> Option Value}, s.heap.Ns b m -> (hidT s.heap H).Ns b m := by
    rintro b m ⟨o, es, ep, e, d, r⟩
    exact ⟨o, es, ep, hidT_get e (apart e fun l n z => by rw [d] at z; cases z), d, r⟩
  have Kb : K.In (hidT s.heap H) := by
    intro b o e
    refine hidT_get (KX b o e) ?_
    cases q : H b with
    | none => rfl
    | some u =>
      have e' := one b u q
      subst e'
      rw [out (by rw [q]; exact fun z => nomatch z)] at e
      cases e
  have M : Mod K mg (hidT s.heap H) := { kin := Kb, glob := keep n1, blt := ⟨mb, keep n2, n3⟩, nolimit := (let ⟨m, q1, q2⟩ := lim; ⟨m, keep q1, q2⟩) }
  have e0 : Env0 P w K mg (hidT s.heap H) callerA [] s H := { frames := rfl, mod := M, bs := (fun b o e => of_hidT e), bsz := Nat.le_of_eq (hidT_size _ _), funs := trivial, frf := (fun b z => absurd z List.not_mem_nil), hok := ok, bare := .of_eq hg }
  exact codeAny_mono ((F _ Kb (keep n1)).run callerA [] s H ⟨[.ref a], []⟩ [.ref a] [.ref a] _ _ ⟨hr, rfl⟩ e0 (hbind s (.ref a)) (.cons rfl .nil) hs) fun r s' q => pv' hO ok hCX r q
theorem so' {P : Program} {w : World} {K : PySem.W.Frag} {mg mb : Str -> Option Value} {CX : CXT} {k : Nat} {fa a : Addr} {fd : FuncData} {x : Str} {sp : Sp} {s : Shared} {vs : List Value} {ns : List Int}
    (KX : K.In s.heap) (n1 : s.heap.Ns mainGlobals mg) (n2 : s.heap.Ns builtinsNs mb) (n3 : ∀ x : Str, x ≠ "__name__" -> mb x = bootBuiltins x) (lim : s.heap.NoLimit) (hg : s.gens = #[])
    (ha : s.heap.get? a = some { cls := .type "list", data := .seq vs.toArray }) (hi : IntsAre vs ns) (hl : ns.length <= sizeLine) (hr : Room k callerA)
    (F : ∀ base : Heap, K.In base -> base.Ns mainGlobals mg -> FnG P w K mg base CX k fa fd [x] sp) (hbind : ∀ (s : Shared) (u : Value), BindsTo s fd ⟨[u], []⟩ [(x, u)])
    (hsp : ∀ H : Hp, Only H -> SqL K H a (ns.map V.int) -> sp [.ref a] H (fun v _ => v = .bl true) fun _ _ _ => False) (hCX : ∀ H e s', CX [] H s (fun _ _ _ => False) e s' -> False) :
    codeAny (model P w) callerA (.call (.ref fa) ⟨[.ref a], []⟩) (fun r s' => r = .ok (.ret (.bool true)) /\ OldK s.heap s'.heap /\ s'.os = s.os /\ AllBare s'.gens) s := by
  have rv := vals_ints hi
  have zl : (vs.toArray).size <= sizeLine := by rw [List.size_toArray, hi.length]; exact hl
  rcases hk : K.lookup a with _ | o
  . -- the script alone is tracked
    let H : Hp := fun b => if b = a then some (.frz { cls := .type "list", data := .seq vs.toArray } (.lst (ns.map V.int))) else none
    have Ha : H a = some (.frz { cls := .type "list", data := .seq vs.toArray } (.lst (ns.map V.int))) := if_pos rfl
    have Hb : ∀ b u, H b = some u -> b = a := fun b u z => Classical.byContradiction fun nb => by rw [show H b = none from if_neg nb] at z; cases z
    have hO : Only H := fun b => (Decidable.em (b = a)).elim (fun e => .inr ⟨_, _, if_pos e⟩) fun e => .inl (if_neg e)
    refine kZ' KX n1 n2 n3 lim hg ha hr F hbind hO (hsp H hO (.inl (.inr ⟨_, Ha⟩))) (hCX H) (fun b u z => ?_) Hb fun _ => hk
    have eb := Hb b u z
    subst eb
    rw [Ha] at z
    cases z
    exact ⟨ha, by rw [List.length_map]; exact hl, vs, _, rv, ha⟩
  . -- it is one of the module's own
    have e := KX a o hk
    rw [ha] at e
    cases e
    let H : Hp := fun _ => none
    have hO : Only H := fun _ => .inl rfl
    refine kZ' KX n1 n2 n3 lim hg ha hr F hbind hO (hsp H hO (.inr ⟨_, vs.toArray, _, hk, rfl, rfl, rfl, zl, rv⟩)) (hCX H) (fun b u z => nomatch z) (fun b u z => nomatch z) fun z => absurd rfl z
theorem tn' {l : PySem.W.OpenLaw} {n k : Nat} {q : Program} {loose : List Str} {XP : (Str -> Option Value) -> Heap -> Prop} {YP : World -> Heap -> Prop} {d : DefRec} {CX : CXT} {x : Str}
    (hn : l.most = some n) (hn2 : n <= sizeLine) (hdf : d.params.defaults = []) (hr : Room k callerA)
    (F : ∀ (w : World) (mg : Str -> Option Value) (fa : Addr) (h : Heap), YP w h -> h.Ns mainGlobals mg -> mg d.name = some (.ref fa) -> ∃ (K : PySem.W.Frag) (fd : FuncData) (sp : Sp), K.In h ∧
      (∀ (s : Shared) (u : Value), BindsTo s fd ⟨[u], []⟩ [(x, u)]) /\ (∀ (H : Hp) (a : Addr) (ns : List Int), ns.length <= n -> Only H -> SqL K H a (ns.map V.int) -> sp [.ref a] H (fun v _ => v = .bl true) fun _ _ _ => False) ∧
        ∀ base : Heap, K.In base -> base.Ns mainGlobals mg -> FnG l.prog w K mg base CX k fa fd [x] sp)
    (hCX : ∀ (H : Hp) (s : Shared) (e : Value) (s' : Shared), CX [] H s (fun _ _ _ => False) e s' -> False) : PySem.W.WalkO q loose XP YP l.row.toRowW d [] (fun f vs => PySem.call f vs) :=
  Att.attach_call hn hdf fun w s₀ s₁ mg mb fa o pm cd doc a vs ns G Y ho hd hcd hmg hobj hints hlen hg => by
    obtain ⟨K, fd, sp, KX, hb, hsp, hF⟩ := F w mg fa _ Y G.T.g hmg
    exact so' KX G.T.g G.T.b G.T.builtins G.T.nolimit hg hobj hints (Nat.le_trans hlen hn2) hr hF hb (fun H hO hS => hsp H a ns hlen hO hS) fun H e s' => hCX H s₁ e s'
theorem FnG.to0 {P : Program} {w : World} {K : PySem.W.Frag} {mg : Str -> Option Value} {base : Heap} {k : Nat} {f : Addr} {fd : FuncData} {ps : List Str} {sp : Sp} (F : FnG P w K mg base (L2.CX P w) k f fd ps sp) :
    FnG P w K mg base CX0 k f fd ps (fun vs H Q _ => sp vs H Q E0) := by
  refine ⟨fun vs H Q _ h => F.len vs H Q E0 h, fun A o s H args us vs Q _ hr he hb hv hs => codeAny_mono (F.run A o s H args us vs Q E0 hr he hb hv hs) fun r s' q => ?_⟩
  rcases r with e | fl
  . obtain ⟨_, _, _, _, _, _, _, _, _, _, _, _, z⟩ := q
    exact z.elim
  . cases fl <;> exact q
end S
namespace S
open PySem PySem.Spec PyProof.Rows L2
def sx (s : M.Tx) : Str := ⟨s.toArray⟩
theorem gn' (s : M.Tx) : (sx s).cps.toList = s := rfl
theorem cI' (s : M.Tx) : (sx s).length = s.length := by show s.toArray.size = _; simp
theorem tw' (z : Str) : sx z.cps.toList = z := by cases z; rfl
theorem vm' {a b : M.Tx} (h : sx a = sx b) : a = b := by have := congrArg (fun z : Str => z.cps.toList) h; exact this
theorem zc' (a b : M.Tx) : sx a ++ sx b = sx (a ++ b) := lJ' (by rw [uS', gn', gn', gn'])
def okT (s : M.Tx) : Prop := (∀ c ∈ s, c < 1114112) /\ s.length <= M.do'
def okK : Key -> Prop
  | .inl _ => True
  | .inr x => okT x.cps.toList
def lz' (kvs : List (Key × V)) : Prop := ∀ p ∈ kvs, okK p.1
theorem lz'.nil : lz' [] := fun _ h => nomatch h
theorem lz'.snoc {kvs : List (Key × V)} (h : lz' kvs) {k : Key} {v : V} (hk : okK k) : lz' (kvs ++ [(k, v)]) := fun p hp => by
  rcases List.mem_append.mp hp with hp | hp
  . exact h p hp
  . rw [List.mem_singleton.mp hp]; exact hk
theorem lz'.fst {kvs kvs' : List (Key × V)} (h : lz' kvs) (e : kvs'.map (·.1) = kvs.map (·.1)) : lz' kvs' := fun p hp => by
  have : p.1 ∈ kvs.map (·.1) := by rw [<- e]; exact List.mem_map_of_mem hp
  obtain ⟨q, h1, h2⟩ := List.mem_map.mp this
  rw [<- h2]; exact h q h1
def kD : Key -> M.D
  | .inl i => .int i
  | .inr x => .str x.cps.toList
mutual
def py : M.D -> PyData
  | .bl b => .bool b
  | .int i => .int i
  | .str s => .str (sx s)
  | .tup ds => .tuple (pys ds)
  | .lst ds => .list (pys ds)
  | .dct ks ds => .dict ((pys ks).zip (pys ds))
  | _ => .none
def pys : List M.D -> List PyData
  | [] => []
  | d :: r => py d :: pys r
end
class Wd where
  P : Program
  w : World
  ts : List (Addr × Str)
structure CloD where
  f : Addr
  c : Addr
  q : Str
  ob : Obj
  ws : List V
  caps : List M.D
class Hot where
  hot : Option (Addr × Nat × Option Addr × M.Exc)
  clo : List (Nat × CloD)
abbrev sZ' (cs : List (Nat × CloD)) : Hot := ⟨none, cs⟩
instance coldI : Hot := ⟨none, []⟩
def FnO (f : Addr) (ob : Obj) : HO := .ext fun h => h.get? f = some ob
variable [Wd]
mutual
def nk : M.D -> NestedKey
  | .bl b => .num (if b = true then 1 else 0)
  | .int i => .num i
  | .str s => .text (sx s)
  | .tup ds => .tup (nks ds)
  | _ => .none
def nks : List M.D -> List NestedKey
  | [] => []
  | d :: r => nk d :: nks r
end
def lfD : M.D -> Leaf
  | .bl b => .num (if b = true then 1 else 0)
  | .int i => .num i
  | .str s => .text (sx s)
  | _ => .none
def dcL (p : Addr) (kvs : List (Leaf × V)) : HO := .ext fun h => (p == sysModules) = false /\ kvs.length <= sizeLine /\ ∃ vs, KV kvs vs /\ h.DictOf (leafKind Wd.P Wd.w) p vs
abbrev pN' : NestedKey × Addr × V -> NestedKey × Addr × Value -> Prop := fun x y => x.1 = y.1 /\ x.2.1 = y.2.1 /\ RelV x.2.2 y.2.2
def dcN (p : Addr) (xs : List (NestedKey × Addr × V)) : HO := .ext fun h => (p == sysModules) = false /\ xs.length <= sizeLine /\ (xs.map (·.1)).Nodup /\ ∃ ys, Paired pN' xs ys ∧
  ∃ o es ep, h.get? p = some o /\ o.ExactDict /\ o.data = .dict es ep /\ es.toList = ys.map (entryOfKey (nestedKind Wd.P Wd.w))
structure LeafKeys (ks : List M.D) (ls : List Leaf) : Prop where
  e : ls = ks.map lfD
  s : ∀ d ∈ ks, M.sca d = true
structure NestKeys (ks : List M.D) (xs : List (NestedKey × Addr × V)) : Prop where
  e : xs.map (·.1) = ks.map nk
  s : ∀ d ∈ ks, M.kat d = true /\ M.dep d <= 8 /\ M.sca d = false
section
variable (K : PySem.W.Frag)
mutual
/-- v stands for d: what it stands on lies in F and never changes; T: where the world's objects stand -/
inductive Fz (F : Hp) (T : List Addr) : V -> M.D -> Prop
  | non : Fz F T .non .non
  | bl (b : Bool) : Fz F T (.bl b) (.bl b)
  | int (i : Int) : Fz F T (.int i) (.int i)
  | str {s : M.Tx} : okT s -> Fz F T (.str (sx s)) (.str s)
  | tup {a : Addr} {vs : List V} {ds : List M.D} : SqT K F a vs -> FzA F T vs ds -> Fz F T (.ref a) (.tup ds)
  | lst {a : Addr} {vs : List V} {ds : List M.D} : F a = some (.lst vs) -> FzA F T vs ds -> Fz F T (.ref a) (.lst ds)
  | dct {a : Addr} {kvs : List (Key × V)} {ds : List M.D} : Rd F a (.dK kvs) -> lz' kvs -> FzA F T (kvs.map (·.2)) ds -> Fz F T (.ref a) (.dct (kvs.map fun p => kD p.1) ds)
  | dcl {a : Addr} {kvs : List (Leaf × V)} {ks ds : List M.D} : Rd F a (dcL a kvs) -> LeafKeys ks (kvs.map (·.1)) -> FzA F T (kvs.map (·.2)) ds -> Fz F T (.ref a) (.dcx ks ds)
  | dcn {a : Addr} {xs : List (NestedKey × Addr × V)} {ks ds : List M.D} : Rd F a (dcN a xs) -> NestKeys ks xs -> FzA F T (xs.map fun x => .ref x.2.1) ks -> FzA F T (xs.map (·.2.2)) ds -> Fz F T (.ref a) (.dcx ks ds)
  | rep (d : M.D) : Fz F T (.str (py d).shown) (.rep d)
  | obj {n : Nat} {a : Addr} : T[n]? = some a -> Fz F T (.ref a) (.obj n)
  | ty (n : String) : Fz F T (.ty n) (.ty n)
  | fn (x : String) : Fz F T (.ref (He.ga K x)) (.fn x)
  | scr {a : Addr} {vs : List V} {ds : List M.D} : SqL K F a vs -> FzA F T vs ds -> Fz F T (.ref a) (.scr ds)
inductive FzA (F : Hp) (T : List Addr) : List V -> List M.D -> Prop
  | nil : FzA F T [] []
  | cons {v : V} {vs : List V} {d : M.D} {ds : List M.D} : Fz F T v d -> FzA F T vs ds -> FzA F T (v :: vs) (d :: ds)
end
abbrev Fp := List (Addr × HO)
mutual
/-- v stands for o, alone; fp: what it stands on and may change -/
inductive Rp (F : Hp) (T : List Addr) : V -> M.O -> Fp -> Prop
  | fz {v : V} {d : M.D} : Fz K F T v d -> Rp F T v (.fz d) []
  | lst {p : Addr} {vs : List V} {os : List M.O} {fp : Fp} : RpA F T vs os fp -> Rp F T (.ref p) (.lst os) ((p, .lst vs) :: fp)
  | tup {p : Addr} {vs : List V} {os : List M.O} {fp : Fp} : RpA F T vs os fp -> Rp F T (.ref p) (.tup os) ((p, .tup vs) :: fp)
  | dct {p : Addr} {kvs : List (Key × V)} {os : List M.O} {fp : Fp} : lz' kvs -> RpA F T (kvs.map (·.2)) os fp -> Rp F T (.ref p) (.dct (kvs.map fun q => kD q.1) os) ((p, .dK kvs) :: fp)
  | dcl {p : Addr} {kvs : List (Leaf × V)} {ks : List M.D} {os : List M.O} {fp : Fp} : LeafKeys ks (kvs.map (·.1)) -> RpA F T (kvs.map (·.2)) os fp -> Rp F T (.ref p) (.dcx ks os) ((p, dcL p kvs) :: fp)
  | dcn {p : Addr} {xs : List (NestedKey × Addr × V)} {ks : List M.D} {os : List M.O} {fp : Fp} : NestKeys ks xs -> FzA K F T (xs.map fun x => .ref x.2.1) ks -> RpA F T (xs.map (·.2.2)) os fp -> Rp F T (.ref p) (.dcx ks os) ((p, dcN p xs) :: fp)
inductive RpA (F : Hp) (T : List Addr) : List V -> List M.O -> Fp -> Prop
  | nil : RpA F T [] [] []
  | cons {v : V} {vs : List V} {o : M.O} {os : List M.O} {fp fq : Fp} : Rp F T v o fp -> RpA F T vs os fq -> RpA F T (v :: vs) (o :: os) (fp ++ fq)
end
def XcR (F : Hp) (T : List Addr) (x : M.Exc) (cls : Value) (dd : Option Addr) : Prop :=
  cls = .ref (He.ga K x.cls) /\ ((x.fs = [] /\ dd = none) \/ ∃ (a : Addr) (f : String) (v : V) (d : M.D), x.fs = [(f, d)] /\ dd = some a /\ F a = some (.xd [(Str.ofString f, v)]) /\ Fz K F T v d)
structure CloAt (F : Hp) (T : List Addr) (c : CloD) : Prop where
  fn : Rd F c.f (FnO c.f c.ob)
  code : Rd F c.c (LamX.CodeO c.c c.q)
  caps : FzA K F T c.ws c.caps
variable [Hot]
inductive RpE (F : Hp) (T : List Addr) : St -> List (Option M.O) -> Fp -> Prop
  | nil : RpE F T [] [] []
  | off {x : Option V} {σ : St} {env : List (Option M.O)} {fp : Fp} : RpE F T σ env fp -> RpE F T (x :: σ) (none :: env) fp
  | on {v : V} {o : M.O} {σ : St} {env : List (Option M.O)} {fp fq : Fp} : Rp K F T v o fp -> RpE F T σ env fq -> RpE F T (some v :: σ) (some o :: env) (fp ++ fq)
  | hot {a : Addr} {dd : Option Addr} {x : M.Exc} {σ : St} {env : List (Option M.O)} {fp : Fp} : Hot.hot = some (a, env.length, dd, x) -> XcR K F T x (.ref (He.ga K x.cls)) dd -> RpE F T σ env fp -> RpE F T (some (.ref a) :: σ) (some .exn :: env) fp
  | clo {c : CloD} {σ : St} {env : List (Option M.O)} {fp : Fp} : Hot.clo.lookup env.length = some c -> CloAt K F T c -> RpE F T σ env fp -> RpE F T (some (.ref c.f) :: σ) (some .clo :: env) fp
inductive RpOb (F : Hp) (T : List Addr) : Addr -> M.Ob -> Fp -> Prop
  | lst {a : Addr} {vs : List V} {os : List M.O} {fp : Fp} : RpA K F T vs os fp -> RpOb F T a (.lst os) ((a, .lst vs) :: fp)
  | dct {a : Addr} {kvs : List (Key × V)} {os : List M.O} {fp : Fp} : lz' kvs -> RpA K F T (kvs.map (·.2)) os fp -> RpOb F T a (.dct (kvs.map fun q => kD q.1) os) ((a, .dK kvs) :: fp)
  | dcl {a : Addr} {kvs : List (Leaf × V)} {ks : List M.D} {os : List M.O} {fp : Fp} : LeafKeys ks (kvs.map (·.1)) -> RpA K F T (kvs.map (·.2)) os fp -> RpOb F T a (.dcx ks os) ((a, dcL a kvs) :: fp)
  | dcn {a : Addr} {xs : List (NestedKey × Addr × V)} {ks : List M.D} {os : List M.O} {fp : Fp} : NestKeys ks xs -> FzA K F T (xs.map fun x => .ref x.2.1) ks -> RpA K F T (xs.map (·.2.2)) os fp -> RpOb F T a (.dcx ks os) ((a, dcN a xs) :: fp)
  | ins {a dx : Addr} {C : String} {fs : List (String × V)} {os : List M.O} {fp : Fp} : F dx = some (.own a) -> RpA K F T (fs.map (·.2)) os fp →
      RpOb F T a (.ins C ((fs.map (·.1)).zip os)) ((a, .ins (He.ga K C) dx (fs.map fun q => (Str.ofString q.1, q.2))) :: fp)
inductive RpW (F : Hp) (T : List Addr) : List Addr -> M.W -> Fp -> Prop
  | nil : RpW F T [] [] []
  | cons {a : Addr} {l : List Addr} {ob : M.Ob} {w : M.W} {fp fq : Fp} : RpOb K F T a ob fp -> RpW F T l w fq -> RpW F T (a :: l) (ob :: w) (fp ++ fq)
structure Kept (F H : Hp) (fp : Fp) (F' H' : Hp) (fp' : Fp) : Prop where
  un : ∀ a, F a = none -> H a ≠ none -> (∀ e ∈ fp, e.1 ≠ a) -> F' a = none /\ H' a = H a /\ ∀ e ∈ fp', e.1 ≠ a
  cd : ∀ c q, Rd F c (LamX.CodeO c q) -> Rd F' c (LamX.CodeO c q)
structure TbAt (F H : Hp) (fp : Fp) (P : Addr) (q : Str) : Prop where
  f : F P = none
  n : ∀ e ∈ fp, e.1 ≠ P
  t : ∃ ps : Array Value, H P = some (.tbl ps) /\ TriplesOk ps.toList /\ ∀ (pos : Pos) (cv : Value), codeAmong pos ps.toList = some cv -> ∃ c, cv = .ref c /\ Rd F c (LamX.CodeO c q)
theorem TbAt.kept {F H F' H' : Hp} {fp fp' : Fp} {P : Addr} {q : Str} (h : TbAt F H fp P q) (k : Kept F H fp F' H' fp') : TbAt F' H' fp' P q := by
  obtain ⟨ps, h1, h2, h3⟩ := h.t
  obtain ⟨k1, k2, k3⟩ := k.un P h.f (by rw [h1]; simp) h.n
  refine ⟨k1, k3, ps, by rw [k2]; exact h1, h2, fun pos cv hc => ?_⟩
  obtain ⟨c, e1, e2⟩ := h3 pos cv hc
  exact ⟨c, e1, k.cd c q e2⟩
structure FpH (F H : Hp) (fp : Fp) : Prop where
  low : Same F H
  at_ : ∀ e ∈ fp, H e.1 = some e.2 /\ F e.1 = none
  nd : (fp.map (·.1)).Nodup
  tb : ∀ p ∈ Wd.ts, TbAt F H fp p.1 p.2
theorem FpH.tbs {F H F' H' : Hp} {fp fp' : Fp} (f : FpH F H fp) (un : ∀ a, F a = none -> H a ≠ none -> (∀ e ∈ fp, e.1 ≠ a) -> F' a = none /\ H' a = H a /\ ∀ e ∈ fp', e.1 ≠ a)
    (cd : ∀ c q, Rd F c (LamX.CodeO c q) -> Rd F' c (LamX.CodeO c q) := by exact fun _ _ h => h) : ∀ p ∈ Wd.ts, TbAt F' H' fp' p.1 p.2 := fun p hp => (f.tb p hp).kept ⟨un, cd⟩
theorem lW' {F F' : Hp} (s : Same F F') {c : Addr} {o : HO} (h : Rd F c o) : Rd F' c o := by
  rcases h with h | ⟨od, h⟩
  . exact .inl (s _ _ h)
  . exact .inr ⟨od, s _ _ h⟩
def Rel (ρ : M.PSt) (σ : St) (H F : Hp) (T : List Addr) (fr : Fp) : Prop := ∃ fe fw, RpE K F T σ ρ.env fe /\ RpW K F T T ρ.w fw /\ FpH F H (fe ++ (fw ++ fr))
abbrev ti' (w : M.W) (H F : Hp) (T : List Addr) (fr : Fp) : Prop := @Rel _ K coldI ⟨[], w⟩ [] H F T fr
theorem xk' {K : PySem.W.Frag} {F : Hp} {T : List Addr} : @RpE _ K coldI F T [] [] [] := @RpE.nil _ K coldI F T
def Lkb (o : HO) : Prop := (∃ kvs, o = .dK kvs) \/ ∃ φ, o = .ext φ
def Wk (F F' : Hp) : Prop := ∀ a o, F a = some o -> F' a = some o \/ Lkb o /\ ∃ od, F' a = some (.frz od o)
theorem Wk.of {F F' : Hp} (s : Same F F') : Wk F F' := fun a o h => .inl (s a o h)
theorem Wk.trans {F F' F2 : Hp} (s : Wk F F') (r : Wk F' F2) : Wk F F2 := fun a o h => by
  rcases s a o h with h1 | ⟨hl, od, h1⟩
  . exact r a o h1
  . rcases r a _ h1 with h2 | ⟨⟨_, e⟩ | ⟨_, e⟩, _⟩
    . exact .inr ⟨hl, od, h2⟩
    . cases e
    . cases e
theorem Wk.at_ {F F' : Hp} (s : Wk F F') {a : Addr} {o : HO} (h : F a = some o) (n : ∀ kvs, o ≠ .dK kvs) (n2 : ∀ φ, o ≠ .ext φ := by intro _ e; cases e) : F' a = some o := by
  rcases s a o h with h | ⟨⟨kvs, rfl⟩ | ⟨φ, rfl⟩, od, _⟩
  . exact h
  . exact absurd rfl (n kvs)
  . exact absurd rfl (n2 φ)
theorem Wk.rd {F F' : Hp} (s : Wk F F') {a : Addr} {u : HO} (hl : Lkb u) (h : Rd F a u) : Rd F' a u := by
  rcases h with h | ⟨o, h⟩
  . rcases s _ _ h with h | ⟨_, od, h⟩
    . exact .inl h
    . exact .inr ⟨od, h⟩
  . exact .inr ⟨o, s.at_ h fun _ e => nomatch e⟩
theorem Wk.lst {F F' : Hp} (s : Wk F F') {a : Addr} {vs : List V} (h : F a = some (.lst vs)) : F' a = some (.lst vs) := s.at_ h fun _ e => nomatch e
theorem Wk.dict {F F' : Hp} (s : Wk F F') {a : Addr} {kvs : List (Key × V)} (h : Rd F a (.dK kvs)) : Rd F' a (.dK kvs) := by
  exact s.rd (.inl ⟨_, rfl⟩) h
theorem Wk.seqT {K : PySem.W.Frag} {F F' : Hp} (s : Wk F F') {a : Addr} {xs : List V} (h : SqT K F a xs) : SqT K F' a xs := by
  rcases h with (h | ⟨o, h⟩) | h
  . exact .inl (.inl (s.at_ h fun _ e => nomatch e))
  . exact .inl (.inr ⟨o, s.at_ h fun _ e => nomatch e⟩)
  . exact .inr h
theorem Wk.seqL {K : PySem.W.Frag} {F F' : Hp} (s : Wk F F') {a : Addr} {xs : List V} (h : SqL K F a xs) : SqL K F' a xs := by
  rcases h with (h | ⟨o, h⟩) | h
  . exact .inl (.inl (s.at_ h fun _ e => nomatch e))
  . exact .inl (.inr ⟨o, s.at_ h fun _ e => nomatch e⟩)
  . exact .inr h
structure Ext (F : Hp) (T : List Addr) (F' : Hp) (T' : List Addr) : Prop where
  f : Wk F F'
  t : T <+: T'
end
variable [Hot]
section
variable {K : PySem.W.Frag} {F F' F2 H H' : Hp} {T T' T2 : List Addr}
theorem Ext.refl : Ext F T F T := ⟨fun _ _ h => .inl h, List.prefix_refl _⟩
theorem Ext.trans (a : Ext F T F' T') (b : Ext F' T' F2 T2) : Ext F T F2 T2 := ⟨a.f.trans b.f, a.t.trans b.t⟩
theorem Ext.of (h : Same F F') : Ext F T F' T := ⟨.of h, List.prefix_refl _⟩
theorem Ext.get (e : Ext F T F' T') {n : Nat} {a : Addr} (h : T[n]? = some a) : T'[n]? = some a := by
  obtain ⟨r, rfl⟩ := e.t
  rw [List.getElem?_append_left (List.getElem?_eq_some_iff.mp h).1]
  exact h
mutual
theorem Fz.mono (e : Ext F T F' T') : ∀ {v : V} {d : M.D}, Fz K F T v d -> Fz K F' T' v d
  | _, _, .non => .non
  | _, _, .bl b => .bl b
  | _, _, .int i => .int i
  | _, _, .str h => .str h
  | _, _, .tup h r => .tup (e.f.seqT h) (FzA.mono e r)
  | _, _, .lst h r => .lst (e.f.lst h) (FzA.mono e r)
  | _, _, .dct h k r => .dct (e.f.dict h) k (FzA.mono e r)
  | _, _, .dcl h k r => .dcl (e.f.rd (.inr ⟨_, rfl⟩) h) k (FzA.mono e r)
  | _, _, .dcn h k q r => .dcn (e.f.rd (.inr ⟨_, rfl⟩) h) k (FzA.mono e q) (FzA.mono e r)
  | _, _, .rep d => .rep d
  | _, _, .obj h => .obj (e.get h)
  | _, _, .ty n => .ty n
  | _, _, .fn x => .fn x
  | _, _, .scr h r => .scr (e.f.seqL h) (FzA.mono e r)
theorem FzA.mono (e : Ext F T F' T') : ∀ {vs : List V} {ds : List M.D}, FzA K F T vs ds -> FzA K F' T' vs ds
  | _, _, .nil => .nil
  | _, _, .cons h r => .cons (Fz.mono e h) (FzA.mono e r)
end
mutual
theorem Rp.mono (e : Ext F T F' T') : ∀ {v : V} {o : M.O} {fp : Fp}, Rp K F T v o fp -> Rp K F' T' v o fp
  | _, _, _, .fz h => .fz (h.mono e)
  | _, _, _, .lst r => .lst (RpA.mono e r)
  | _, _, _, .tup r => .tup (RpA.mono e r)
  | _, _, _, .dct k r => .dct k (RpA.mono e r)
  | _, _, _, .dcl k r => .dcl k (RpA.mono e r)
  | _, _, _, .dcn k q r => .dcn k (q.mono e) (RpA.mono e r)
theorem RpA.mono (e : Ext F T F' T') : ∀ {vs : List V} {os : List M.O} {fp : Fp}, RpA K F T vs os fp -> RpA K F' T' vs os fp
  | _, _, _, .nil => .nil
  | _, _, _, .cons h r => .cons (Rp.mono e h) (RpA.mono e r)
end
theorem XcR.mono' (e : Ext F T F' T') {x : M.Exc} {cls : Value} {dd : Option Addr} (h : XcR K F T x cls dd) : XcR K F' T' x cls dd := by
  obtain ⟨h1, h2 | ⟨a, f, v, d, h3, h4, h5, h6⟩⟩ := h
  . exact ⟨h1, .inl h2⟩
  . exact ⟨h1, .inr ⟨a, f, v, d, h3, h4, e.f.at_ h5 (fun _ z => nomatch z), h6.mono e⟩⟩
theorem CloAt.mono (e : Ext F T F' T') {c : CloD} (h : CloAt K F T c) : CloAt K F' T' c := ⟨e.f.rd (.inr ⟨_, rfl⟩) h.fn, e.f.rd (.inr ⟨_, rfl⟩) h.code, h.caps.mono e⟩
theorem RpE.mono (e : Ext F T F' T') {σ : St} {env : List (Option M.O)} {fp : Fp} (h : RpE K F T σ env fp) : RpE K F' T' σ env fp := by
  induction h with
  | nil => exact .nil
  | off _ ih => exact .off ih
  | on r _ ih => exact .on (r.mono e) ih
  | hot h z _ ih => exact .hot h (z.mono' e) ih
  | clo h z _ ih => exact .clo h (z.mono e) ih
theorem RpOb.mono (e : Ext F T F' T') {a : Addr} {ob : M.Ob} {fp : Fp} (h : RpOb K F T a ob fp) : RpOb K F' T' a ob fp := by
  cases h with
  | lst r => exact .lst (r.mono e)
  | dct k r => exact .dct k (r.mono e)
  | dcl k r => exact .dcl k (r.mono e)
  | dcn k q r => exact .dcn k (q.mono e) (r.mono e)
  | ins d r => exact .ins (e.f.at_ d fun _ z => nomatch z) (r.mono e)
theorem RpW.mono (e : Ext F T F' T') {l : List Addr} {w : M.W} {fp : Fp} (h : RpW K F T l w fp) : RpW K F' T' l w fp := by
  induction h with
  | nil => exact .nil
  | cons r _ ih => exact .cons (r.mono e) ih
theorem FpH.new {p : Addr} {o : HO} {fp : Fp} (f : FpH F H fp) (hp : H p = none) : FpH (upd F p o) (upd H p o) fp := by
  have np : ∀ e ∈ fp, e.1 ≠ p := fun e he => ne_of_none (f.at_ e he).1 hp
  refine ⟨fun a u h => ?_, fun e he => ?_, f.nd, f.tbs (fun a h1 h2 h3 => ?_) fun c q h => lW' (fun b u e => by rw [upd_ne (fun z => by rw [z] at e; rw [f.low _ _ e] at hp; cases hp)]; exact e) h⟩
  . by_cases ha : a = p
    . subst ha; rw [upd_same] at h ⊢; exact h
    . rw [upd_ne ha] at h ⊢; exact f.low _ _ h
  . rw [upd_ne (np e he), upd_ne (np e he)]; exact f.at_ e he
  . have ha : a ≠ p := fun z => h2 (by rw [z]; exact hp)
    exact ⟨by rw [upd_ne ha]; exact h1, upd_ne ha, h3⟩
theorem FpH.free {fp : Fp} (f : FpH F H fp) {p : Addr} (hp : H p = none) : F p = none := by
  cases h : F p with
  | none => rfl
  | some o => rw [f.low _ _ h] at hp; cases hp
theorem dg' {p : Addr} {o : HO} (h : F p = none) : Same F (upd F p o) := fun b u e => by rw [upd_ne (ne_of_none e h)]; exact e
end
section
variable {K : PySem.W.Frag} {W : WX} {α β : Type}
abbrev Wx := M.Exc -> M.PSt -> Prop
def a8' (r : M.Res α) (P : α -> M.PSt -> Prop) (X : Wx) : Prop := match r with
  | .ok a ρ => P a ρ
  | .exc x ρ => X x ρ
  | .bad => False
theorem a8'.bind {r : M.Res α} {f : α -> M.PSt -> M.Res β} {P : β -> M.PSt -> Prop} {X : Wx} (h : a8' (r.bind f) P X) : a8' r (fun a ρ => a8' (f a ρ) P X) X := by
  cases r with
  | ok a ρ => exact h
  | exc x ρ => exact h
  | bad => exact h
theorem a8'.ofO {o : Option α} {ρ : M.PSt} {P : α -> M.PSt -> Prop} {X : Wx} (h : a8' (M.ofO o ρ) P X) : ∃ a, o = some a /\ P a ρ := by
  cases o with
  | none => exact h.elim
  | some a => exact ⟨a, rfl, h⟩
theorem a8'.mono {r : M.Res α} {P P' : α -> M.PSt -> Prop} {X X' : Wx} (h : a8' r P X) (hp : ∀ a ρ, P a ρ -> P' a ρ) (hx : ∀ x ρ, X x ρ -> X' x ρ) : a8' r P' X' := by
  cases r with
  | ok a ρ => exact hp _ _ h
  | exc x ρ => exact hx _ _ h
  | bad => exact h
def EX (K : PySem.W.Frag) (W : WX) (σ : St) (F : Hp) (T : List Addr) (fr : Fp) : Wx := fun x ρ => ∀ cls dd H' F' T', Ext F T F' T' -> XcR K F' T' x cls dd -> Rel K ρ σ H' F' T' fr -> W cls dd σ H'
theorem EX.mono {σ : St} {F F' : Hp} {T T' : List Addr} {fr : Fp} {x : M.Exc} {ρ : M.PSt} (h : EX K W σ F T fr x ρ) (e : Ext F T F' T') : EX K W σ F' T' fr x ρ := fun cls dd H' F2 T2 e2 => h cls dd H' F2 T2 (e.trans e2)
def qE (K : PySem.W.Frag) (W : WX) (m : M.ME) : TE := fun σ H Q => ∃ ρ F T fr, Rel K ρ σ H F T fr ∧
  a8' (m ρ) (fun d ρ' => ∀ v H' F' T', Ext F T F' T' -> Fz K F' T' v d -> Rel K ρ' σ H' F' T' fr -> Q v H') (EX K W σ F T fr)
def qO (K : PySem.W.Frag) (W : WX) (m : M.MO) : TE := fun σ H Q => ∃ ρ F T fr, Rel K ρ σ H F T fr ∧
  a8' (m ρ) (fun o ρ' => ∀ v H' F' T' fp, Ext F T F' T' -> Rp K F' T' v o fp -> Rel K ρ' σ H' F' T' (fp ++ fr) -> Q v H') (EX K W σ F T fr)
def qA (K : PySem.W.Frag) (W : WX) (m : M.MA) : TA := fun σ H Q => ∃ ρ F T fr, Rel K ρ σ H F T fr ∧
  a8' (m ρ) (fun ds ρ' => ∀ vs H' F' T', Ext F T F' T' -> FzA K F' T' vs ds -> Rel K ρ' σ H' F' T' fr -> Q vs H') (EX K W σ F T fr)
def qT (K : PySem.W.Frag) (W : WX) (m : M.MT) : TT := fun σ H Q => ∃ ρ F T fr, Rel K ρ σ H F T fr ∧
  a8' (m ρ) (fun b ρ' => ∀ H' F' T', Ext F T F' T' -> Rel K ρ' σ H' F' T' fr -> Q b H') (EX K W σ F T fr)
def qP (K : PySem.W.Frag) (W : WX) (m : M.MP) : TO := fun σ H Q => ∃ ρ F T fr, Rel K ρ σ H F T fr ∧
  a8' (m ρ) (fun b ρ' => ∀ H' F' T', Ext F T F' T' -> Rel K ρ' σ H' F' T' fr -> Q b H') (EX K W σ F T fr)
def bP' (K : PySem.W.Frag) (W : WX) (D : Ends) (F : Hp) (T : List Addr) (fr : Fp) : M.Out -> Prop
  | .nx ρ => ∀ σ' H' F' T', Ext F T F' T' -> Rel K ρ σ' H' F' T' fr -> D.nx σ' H'
  | .bk ρ => ∀ σ' H' F' T', Ext F T F' T' -> Rel K ρ σ' H' F' T' fr -> D.bk σ' H'
  | .ct ρ => ∀ σ' H' F' T', Ext F T F' T' -> Rel K ρ σ' H' F' T' fr -> D.ct σ' H'
  | .rt o w => ∀ v H' F' T' fp, Ext F T F' T' -> Rp K F' T' v o fp -> ti' K (w) H' F' T' (fp ++ fr) -> D.rt v H'
  | .exc x ρ => ∀ σ' cls dd H' F' T', Ext F T F' T' -> XcR K F' T' x cls dd -> Rel K ρ σ' H' F' T' fr -> W cls dd σ' H'
  | .bad => False
def qS (K : PySem.W.Frag) (W : WX) (m : M.MS) : TS := fun D σ H => ∃ ρ F T fr, Rel K ρ σ H F T fr /\ bP' K W D F T fr (m ρ)
abbrev SE (X : Cx) (W : WX) (e : Expr) (m : M.ME) : Prop := PE X e (qE X.K W m)
abbrev SO (X : Cx) (W : WX) (e : Expr) (m : M.MO) : Prop := PE X e (qO X.K W m)
abbrev SA (X : Cx) (W : WX) (es : List Expr) (m : M.MA) : Prop := PA X es (qA X.K W m)
abbrev ST (X : Cx) (W : WX) (e : Expr) (m : M.MT) : Prop := PT X e (qT X.K W m)
abbrev SS (X : Cx) (W : WX) (s : Stmt) (m : M.MS) : Prop := PS X s (qS X.K W m)
abbrev SSs (X : Cx) (W : WX) (s : List Stmt) (m : M.MS) : Prop := PSs X s (qS X.K W m)
theorem PE.imp {X : Cx} {e : Expr} {t t' : TE} (h : PE X e t) (i : ∀ σ H Q, t' σ H Q -> t σ H Q) : PE X e t' := ⟨fun pins s σ H Q I q => h.run pins s σ H Q I (i σ H Q q)⟩
theorem PT.imp {X : Cx} {e : Expr} {t t' : TT} (h : PT X e t) (i : ∀ σ H Q, t' σ H Q -> t σ H Q) : PT X e t' := ⟨fun pins s σ H Q I q => h.run pins s σ H Q I (i σ H Q q)⟩
theorem PW.imp {X : Cx} {e : Expr} {t t' : TT} (h : PW X e t) (i : ∀ σ H Q, t' σ H Q -> t σ H Q) : PW X e t' := ⟨fun wh pins s σ H Q I q => h.run wh pins s σ H Q I (i σ H Q q)⟩
theorem PA.imp {X : Cx} {e : List Expr} {t t' : TA} (h : PA X e t) (i : ∀ σ H Q, t' σ H Q -> t σ H Q) : PA X e t' := ⟨fun pos pins s σ H Q I q => h.run pos pins s σ H Q I (i σ H Q q)⟩
theorem PS.imp {X : Cx} {e : Stmt} {t t' : TS} (h : PS X e t) (i : ∀ D σ H, t' D σ H -> t D σ H) : PS X e t' := ⟨fun pins s σ H Q I q => h.run pins s σ H Q I (i Q σ H q)⟩
theorem PSs.imp {X : Cx} {e : List Stmt} {t t' : TS} (h : PSs X e t) (i : ∀ D σ H, t' D σ H -> t D σ H) : PSs X e t' := ⟨fun pins s σ H Q I q => h.run pins s σ H Q I (i Q σ H q)⟩
theorem PO.imp {X : Cx} {e : Option Expr} {t t' : TO} (h : PO X e t) (i : ∀ σ H Q, t' σ H Q -> t σ H Q) : PO X e t' := ⟨fun pins s σ H Q I q => h.run pins s σ H Q I (i σ H Q q)⟩
variable {σ : St} {H F : Hp} {T : List Addr} {fr : Fp} {ρ : M.PSt} {P : β -> M.PSt -> Prop} {X : Wx}
theorem av' {m : M.ME} {k : M.D -> M.PSt -> M.Res β} {Q : VK} (rel : Rel K ρ σ H F T fr) (h : a8' ((m ρ).bind k) P (EX K W σ F T fr))
    (q : ∀ d ρ1 v H1 F1 T1, Ext F T F1 T1 -> Fz K F1 T1 v d -> Rel K ρ1 σ H1 F1 T1 fr -> a8' (k d ρ1) P (EX K W σ F1 T1 fr) -> Q v H1) : qE K W m σ H Q :=
  ⟨ρ, F, T, fr, rel, (a8'.bind h).mono (fun d ρ1 h1 v H1 F1 T1 e z r => q d ρ1 v H1 F1 T1 e z r (h1.mono (fun _ _ z => z) fun _ _ z => z.mono e)) fun _ _ z => z⟩
theorem dH' {m : M.MA} {k : List M.D -> M.PSt -> M.Res β} {Q : List V -> Hp -> Prop} (rel : Rel K ρ σ H F T fr) (h : a8' ((m ρ).bind k) P (EX K W σ F T fr))
    (q : ∀ ds ρ1 vs H1 F1 T1, Ext F T F1 T1 -> FzA K F1 T1 vs ds -> Rel K ρ1 σ H1 F1 T1 fr -> a8' (k ds ρ1) P (EX K W σ F1 T1 fr) -> Q vs H1) : qA K W m σ H Q :=
  ⟨ρ, F, T, fr, rel, (a8'.bind h).mono (fun d ρ1 h1 v H1 F1 T1 e z r => q d ρ1 v H1 F1 T1 e z r (h1.mono (fun _ _ z => z) fun _ _ z => z.mono e)) fun _ _ z => z⟩
theorem lX' {m : M.MT} {k : Bool -> M.PSt -> M.Res β} {Q : Bool -> Hp -> Prop} (rel : Rel K ρ σ H F T fr) (h : a8' ((m ρ).bind k) P (EX K W σ F T fr))
    (q : ∀ b ρ1 H1 F1 T1, Ext F T F1 T1 -> Rel K ρ1 σ H1 F1 T1 fr -> a8' (k b ρ1) P (EX K W σ F1 T1 fr) -> Q b H1) : qT K W m σ H Q :=
  ⟨ρ, F, T, fr, rel, (a8'.bind h).mono (fun d ρ1 h1 H1 F1 T1 e r => q d ρ1 H1 F1 T1 e r (h1.mono (fun _ _ z => z) fun _ _ z => z.mono e)) fun _ _ z => z⟩
theorem rN' {m : M.MP} {k : Option Int -> M.PSt -> M.Res β} {Q : Option Int -> Hp -> Prop} (rel : Rel K ρ σ H F T fr) (h : a8' ((m ρ).bind k) P (EX K W σ F T fr))
    (q : ∀ b ρ1 H1 F1 T1, Ext F T F1 T1 -> Rel K ρ1 σ H1 F1 T1 fr -> a8' (k b ρ1) P (EX K W σ F1 T1 fr) -> Q b H1) : qP K W m σ H Q :=
  ⟨ρ, F, T, fr, rel, (a8'.bind h).mono (fun d ρ1 h1 H1 F1 T1 e r => q d ρ1 H1 F1 T1 e r (h1.mono (fun _ _ z => z) fun _ _ z => z.mono e)) fun _ _ z => z⟩
end
end S
namespace S
open PySem PySem.Spec PyProof.Rows L2
variable [Wd] [Hot]
section
variable {K : PySem.W.Frag} {F H : Hp} {T : List Addr} {v : V} {d : M.D} {vs ws : List V} {ds es : List M.D}
theorem Fz.int_inv {i : Int} (h : Fz K F T v (.int i)) : v = .int i := by cases h; rfl
theorem Fz.bl_inv {i : Bool} (h : Fz K F T v (.bl i)) : v = .bl i := by cases h; rfl
theorem Fz.non_inv (h : Fz K F T v .non) : v = .non := by cases h; rfl
theorem Fz.str_inv {s : M.Tx} (h : Fz K F T v (.str s)) : v = .str (sx s) /\ okT s := by cases h with | str h => exact ⟨rfl, h⟩
theorem Fz.tup_inv (h : Fz K F T v (.tup ds)) : ∃ a vs, v = .ref a /\ SqT K F a vs /\ FzA K F T vs ds := by cases h with | tup h r => exact ⟨_, _, rfl, h, r⟩
theorem Fz.lst_inv (h : Fz K F T v (.lst ds)) : ∃ a vs, v = .ref a /\ F a = some (.lst vs) /\ FzA K F T vs ds := by cases h with | lst h r => exact ⟨_, _, rfl, h, r⟩
theorem FzA.length : ∀ {vs : List V} {ds : List M.D}, FzA K F T vs ds -> vs.length = ds.length
  | _, _, .nil => rfl
  | _, _, .cons _ r => congrArg (· + 1) (FzA.length r)
theorem FzA.append : ∀ {vs ws : List V} {ds es : List M.D}, FzA K F T vs ds -> FzA K F T ws es -> FzA K F T (vs ++ ws) (ds ++ es)
  | _, _, _, _, .nil, h => h
  | _, _, _, _, .cons a r, h => .cons a (FzA.append r h)
theorem FzA.take : ∀ {vs : List V} {ds : List M.D} (n : Nat), FzA K F T vs ds -> FzA K F T (vs.take n) (ds.take n)
  | _, _, 0, _ => .nil
  | _, _, n + 1, .nil => .nil
  | _, _, n + 1, .cons a r => .cons a (FzA.take n r)
theorem FzA.drop : ∀ {vs : List V} {ds : List M.D} (n : Nat), FzA K F T vs ds -> FzA K F T (vs.drop n) (ds.drop n)
  | _, _, 0, h => h
  | _, _, n + 1, .nil => .nil
  | _, _, n + 1, .cons a r => FzA.drop n r
theorem FzA.get : ∀ {vs : List V} {ds : List M.D} {i : Nat} {d : M.D}, FzA K F T vs ds -> ds[i]? = some d -> ∃ v, vs[i]? = some v /\ Fz K F T v d
  | _, _, _, _, .nil, e => by cases e
  | _, _, 0, _, .cons h _, e => ⟨_, rfl, by rw [<- Option.some.inj e]; exact h⟩
  | _, _, i + 1, _, .cons _ r, e => FzA.get (i := i) r e
theorem FzA.rep {vs : List V} {ds : List M.D} (h : FzA K F T vs ds) : ∀ n, FzA K F T (List.replicate n vs).flatten (List.replicate n ds).flatten
  | 0 => .nil
  | n + 1 => FzA.append h (FzA.rep h n)
theorem FzA.cutV {lo hi : Option Int} (h : FzA K F T vs ds) : FzA K F T (cutV vs lo hi) (M.cut ds lo hi) := by
  unfold L2.cutV M.cut
  rw [h.length]
  exact FzA.take _ (FzA.drop _ h)
theorem sE' {c : Nat} (h : c < 1114112) : Fz K F T (.str ⟨#[c]⟩) (M.chD c) := Fz.str (s := [c]) ⟨fun x hx => by rw [List.mem_singleton.mp hx]; exact h, by show 1 <= 16777216; decide⟩
theorem FzA.chars : ∀ {s : M.Tx}, (∀ c ∈ s, c < 1114112) -> FzA K F T (s.map chv) (s.map M.chD)
  | [], _ => .nil
  | c :: s, h => .cons (sE' (h c (by simp))) (FzA.chars fun x hx => h x (by simp [hx]))
theorem SqT.low (s : Same F H) {a : Addr} (h : SqT K F a vs) : SqT K H a vs := seqT s h
theorem okT.app {a b : M.Tx} (h1 : okT a) (h2 : okT b) (h : a.length + b.length <= M.do') : okT (a ++ b) :=
  ⟨fun c hc => (List.mem_append.mp hc).elim (h1.1 c) (h2.1 c), by rw [List.length_append]; exact h⟩
theorem okT.sub {a b : M.Tx} (h1 : okT a) (h : ∀ c ∈ b, c ∈ a) (hl : b.length <= a.length) : okT b := ⟨fun c hc => h1.1 c (h c hc), Nat.le_trans hl h1.2⟩
theorem okT.len {s : M.Tx} (h : okT s) : (sx s).length <= sizeLine := by rw [cI', sizeLine_eq]; exact h.2
theorem bF' : sizeLine = M.do' := sizeLine_eq
theorem Rel.fp {ρ : M.PSt} {σ : St} {fr : Fp} (r : Rel K ρ σ H F T fr) : ∃ fp, FpH F H fp /\ ∀ H' F', Same F F' -> FpH F' H' fp -> Rel K ρ σ H' F' T fr := by
  obtain ⟨fe, fw, re, rw, f⟩ := r
  exact ⟨_, f, fun H' F' s f' => ⟨fe, fw, re.mono (.of s), rw.mono (.of s), f'⟩⟩
abbrev fJ' (K : PySem.W.Frag) (F : Hp) (T : List Addr) (fp : Fp) (dz : M.D) (Q : VK) : Prop := ∀ v H' F', Same F F' -> Fz K F' T v dz -> FpH F' H' fp -> Q v H'
theorem fJ'.here {fp : Fp} {dz : M.D} {Q : VK} (k : fJ' K F T fp dz Q) (f : FpH F H fp) (z : Fz K F T v dz) : Q v H := k v H F (fun _ _ e => e) z f
theorem fJ'.newT {fp : Fp} {Q : VK} (k : fJ' K F T fp (.tup ds) Q) (f : FpH F H fp) (z : FzA K F T vs ds) {p : Addr} (hp : H p = none) : Q (.ref p) (upd H p (.tup vs)) := by
  have s : Same F (upd F p (.tup vs)) := dg' (f.free hp)
  exact k _ _ _ s (.tup (SqT.of upd_same) (z.mono (.of s))) (f.new hp)
theorem fJ'.newL {fp : Fp} {Q : VK} (k : fJ' K F T fp (.lst ds) Q) (f : FpH F H fp) (z : FzA K F T vs ds) {p : Addr} (hp : H p = none) : Q (.ref p) (upd H p (.lst vs)) := by
  have s : Same F (upd F p (.lst vs)) := dg' (f.free hp)
  exact k _ _ _ s (.lst upd_same (z.mono (.of s))) (f.new hp)
end
section
variable (K : PySem.W.Frag)
def Op1 (f : M.D -> Option M.D) (r : V -> Hp -> VK -> Prop) : Prop := ∀ {F H : Hp} {T : List Addr} {fp : Fp} {x : V} {dx dz : M.D} {Q : VK}, FpH F H fp -> Fz K F T x dx -> f dx = some dz -> fJ' K F T fp dz Q -> r x H Q
def Op2 (f : M.D -> M.D -> Option M.D) (r : R2) : Prop := ∀ {F H : Hp} {T : List Addr} {fp : Fp} {x y : V} {dx dy dz : M.D} {Q : VK}, FpH F H fp -> Fz K F T x dx -> Fz K F T y dy -> f dx dy = some dz -> fJ' K F T fp dz Q -> r x y H Q
end
section
variable {K : PySem.W.Frag}
mutual
theorem Fz.py {F H : Hp} {T : List Addr} (s : Same F H) : ∀ {v : V} {d : M.D}, Fz K F T v d -> M.dat d = true -> Dp K H v (py d)
  | _, _, .non, _ => .non
  | _, _, .bl b, _ => .bl b
  | _, _, .int i, _ => .int i
  | _, _, .str h, _ => .str _
  | _, _, .tup h r, e => .tup (seqT s h) (FzA.py s r e)
  | _, _, .lst h r, e => .lst (SqL.of (s _ _ h)) (FzA.py s r e)
  | _, _, .dct h _ r, e => by cases e
  | _, _, .dcl _ _ _, e => by cases e
  | _, _, .dcn _ _ _ _, e => by cases e
  | _, _, .rep _, e => by cases e
  | _, _, .obj h, e => by cases e
  | _, _, .ty n, e => by cases e
  | _, _, .fn x, e => by cases e
  | _, _, .scr h r, e => by cases e
theorem FzA.py {F H : Hp} {T : List Addr} (s : Same F H) : ∀ {vs : List V} {ds : List M.D}, FzA K F T vs ds -> M.dats ds = true -> DpAll K H vs (pys ds)
  | _, _, .nil, _ => .nil
  | _, _, .cons h r, e => by
    obtain ⟨e1, e2⟩ := Bool.and_eq_true_iff.mp (show (M.dat _ && M.dats _) = true from e)
    exact .cons (Fz.py s h e1) (FzA.py s r e2)
end
theorem tx' {s : M.Tx} (h : okT s) : PyData.strOk (sx s) = true := by
  unfold PyData.strOk
  rw [Array.all_eq_true']
  intro c hc
  have := h.1 c (by simpa [sx] using hc)
  simp only [decide_eq_true_eq]
  omega
mutual
theorem oo' {F : Hp} {T : List Addr} : ∀ {v : V} {d : M.D}, Fz K F T v d -> M.dat d = true -> (py d).canLay0 = true /\ (py d).depth = M.dep d
  | _, _, .non, _ => ⟨rfl, rfl⟩
  | _, _, .bl b, _ => ⟨rfl, rfl⟩
  | _, _, .int i, _ => ⟨rfl, rfl⟩
  | _, _, .str h, _ => ⟨tx' h, rfl⟩
  | _, _, .tup h r, e => by
    obtain ⟨h1, h2⟩ := lays_of r e
    exact ⟨h1, congrArg (· + 1) h2⟩
  | _, _, .lst h r, e => by
    obtain ⟨h1, h2⟩ := lays_of r e
    exact ⟨h1, congrArg (· + 1) h2⟩
  | _, _, .dct h _ r, e => by cases e
  | _, _, .dcl _ _ _, e => by cases e
  | _, _, .dcn _ _ _ _, e => by cases e
  | _, _, .rep _, e => by cases e
  | _, _, .obj h, e => by cases e
  | _, _, .ty n, e => by cases e
  | _, _, .fn x, e => by cases e
  | _, _, .scr h r, e => by cases e
theorem lays_of {F : Hp} {T : List Addr} : ∀ {vs : List V} {ds : List M.D}, FzA K F T vs ds -> M.dats ds = true -> PyData.canLayAll0 (pys ds) = true /\ PyData.depthAll (pys ds) = M.deps ds
  | _, _, .nil, _ => ⟨rfl, rfl⟩
  | _, _, .cons h r, e => by
    obtain ⟨e1, e2⟩ := Bool.and_eq_true_iff.mp (show (M.dat _ && M.dats _) = true from e)
    obtain ⟨a1, a2⟩ := oo' h e1
    obtain ⟨b1, b2⟩ := lays_of r e2
    refine ⟨?_, ?_⟩
    . show (PyData.canLay0 _ && PyData.canLayAll0 _) = true
      rw [a1, b1]; rfl
    . show max (PyData.depth _) (PyData.depthAll _) = max _ _
      rw [a2, b2]
end
theorem vn' (a b : M.Tx) : (sx a == sx b) = (a == b) := by
  rw [Bool.eq_iff_iff, beq_iff_eq, beq_iff_eq]
  exact ⟨vm', fun h => by rw [h]⟩
mutual
theorem vT' : ∀ (d e : M.D), M.dat d = true -> M.dat e = true -> PyData.eqv (py d) (py e) = M.eqb d e
  | .non, e, _, h => by cases e <;> first | rfl | cases h
  | .bl a, e, _, h => by cases e <;> first | rfl | cases h
  | .int a, e, _, h => by cases e <;> first | rfl | cases h
  | .str a, e, _, h => by
    cases e with
    | str b => exact vn' a b
    | _ => first | rfl | cases h
  | .tup a, e, h1, h => by
    cases e with
    | tup b => exact eqvs_py a b h1 h
    | _ => first | rfl | cases h
  | .lst a, e, h1, h => by
    cases e with
    | lst b => exact eqvs_py a b h1 h
    | _ => first | rfl | cases h
  | .dct _ _, _, h, _ => by cases h
  | .obj _, _, h, _ => by cases h
  | .ty _, _, h, _ => by cases h
  | .fn _, _, h, _ => by cases h
  | .exc _ _, _, h, _ => by cases h
  | .scr _, _, h, _ => by cases h
theorem eqvs_py : ∀ (d e : List M.D), M.dats d = true -> M.dats e = true -> PyData.eqvAll (pys d) (pys e) = M.eqbs d e
  | [], [], _, _ => rfl
  | [], _ :: _, _, _ => rfl
  | _ :: _, [], _, _ => rfl
  | a :: d, b :: e, h1, h2 => by
    obtain ⟨a1, a2⟩ := Bool.and_eq_true_iff.mp (show (M.dat _ && M.dats _) = true from h1)
    obtain ⟨b1, b2⟩ := Bool.and_eq_true_iff.mp (show (M.dat _ && M.dats _) = true from h2)
    show (PyData.eqv (py a) (py b) && PyData.eqvAll (pys d) (pys e)) = (M.eqb a b && M.eqbs d e)
    rw [vT' a b a1 b1, eqvs_py d e a2 b2]
end
theorem Ax' {F H : Hp} {T : List Addr} {fp : Fp} {x y : V} {dx dy : M.D} {b : Bool} (f : FpH F H fp) (hx : Fz K F T x dx) (hy : Fz K F T y dy) (h : M.eqv dx dy = some b) :
    ∃ d e, Dp K H x d /\ Dp K H y e /\ SeqAt.shaped d = true /\ SeqAt.shaped e = true /\ PyData.eqv d e = b := by
  unfold M.eqv at h
  split at h
  . rename_i c
    obtain ⟨c1, c2, c3, c4⟩ := c
    obtain ⟨a1, a2⟩ := oo' hx c1
    obtain ⟨b1, b2⟩ := oo' hy c2
    refine ⟨_, _, hx.py f.low c1, hy.py f.low c2, ?_, ?_, ?_⟩
    . exact Sh.shaped (n := 64) ⟨a1, by rw [a2]; exact c3⟩ (Nat.le_refl _)
    . exact Sh.shaped (n := 64) ⟨b1, by rw [b2]; exact c4⟩ (Nat.le_refl _)
    . rw [vT' _ _ c1 c2]; exact Option.some.inj h
  . cases h
theorem t9' : Op2 K M.pEq (CD' K) := by
  intro F H T fp x y dx dy dz Q f hx hy h k
  unfold M.pEq M.ob at h
  cases e : M.eqv dx dy with
  | none => rw [e] at h; cases h
  | some b =>
    rw [e] at h
    cases h
    obtain ⟨d, e, h1, h2, h3, h4, h5⟩ := Ax' f hx hy e
    exact .inr ⟨d, e, h1, h2, h3, h4, by rw [h5]; exact k.here f (.bl b)⟩
theorem td' : Op2 K M.pNe (CA' K) := by
  intro F H T fp x y dx dy dz Q f hx hy h k
  unfold M.pNe M.ob at h
  cases e : M.eqv dx dy with
  | none => rw [e] at h; cases h
  | some b =>
    rw [e] at h
    cases h
    obtain ⟨d, e, h1, h2, h3, h4, h5⟩ := Ax' f hx hy e
    exact .inr ⟨d, e, h1, h2, h3, h4, by rw [h5]; exact k.here f (.bl (!b))⟩
theorem cq' : Op2 K M.dK' (zN' K) := by
  intro F H T fp x y dx dy dz Q f hx hy h k
  cases dx <;> cases dy <;> try (cases h; done)
  . cases hx; cases hy; cases h
    exact .inl ⟨_, _, rfl, rfl, k.here f (.int _)⟩
  . obtain ⟨rfl, o1⟩ := hx.str_inv
    obtain ⟨rfl, o2⟩ := hy.str_inv
    simp only [M.dK'] at h
    split at h
    . rename_i hl
      cases h
      refine .inr (.inl ⟨_, _, rfl, rfl, by rw [cI', cI', bF']; exact hl, ?_⟩)
      rw [zc']
      exact k.here f (.str (o1.app o2 hl))
    . cases h
  . obtain ⟨a, vs, rfl, ha, za⟩ := hx.tup_inv
    obtain ⟨b, ws, rfl, hb, zb⟩ := hy.tup_inv
    simp only [M.dK'] at h
    split at h
    . rename_i hl
      cases h
      refine .inr (.inr (.inr ⟨a, b, vs, ws, rfl, rfl, seqT f.low ha, seqT f.low hb, by rw [za.length, zb.length, bF']; exact hl, fun e => ?_, fun _ e => ?_, fun _ _ p hp => k.newT f (za.append zb) hp⟩))
      . subst e
        cases za
        exact k.here f (.tup hb zb)
      . subst e
        cases zb
        refine k.here f ?_
        rw [List.append_nil]
        exact .tup ha za
    . cases h
  . obtain ⟨a, vs, rfl, ha, za⟩ := hx.lst_inv
    obtain ⟨b, ws, rfl, hb, zb⟩ := hy.lst_inv
    simp only [M.dK'] at h
    split at h
    . rename_i hl
      cases h
      exact .inr (.inr (.inl ⟨a, b, vs, ws, rfl, rfl, f.low _ _ ha, f.low _ _ hb, by rw [za.length, zb.length, bF']; exact hl, fun p hp => k.newL f (za.append zb) hp⟩))
    . cases h
theorem xh' : Op2 K M.yy' (rI0 fun i j => .int (i - j)) := by
  intro F H T fp x y dx dy dz Q f hx hy h k
  cases dx <;> cases dy <;> try (cases h; done)
  cases hx; cases hy; cases h
  exact ⟨_, _, rfl, rfl, k.here f (.int _)⟩
theorem zx' (s : M.Tx) (n : Nat) : pJ' (sx s) n = sx (List.replicate n s).flatten := rfl
theorem zz' {s : M.Tx} {n : Nat} (h : okT s) (hl : s.length * n <= M.do') : okT (List.replicate n s).flatten := by
  refine ⟨fun c hc => ?_, ?_⟩
  . obtain ⟨l, h1, h2⟩ := List.mem_flatten.mp hc
    rw [List.eq_of_mem_replicate h1] at h2
    exact h.1 c h2
  . rw [List.length_flatten]
    simp
    rw [Nat.mul_comm]
    exact hl
def zD' : R2 := fun x y H Q => zE' x y H Q \/ rI CMulW (fun i j => .int (i * j)) x y H Q
theorem e0' {X : Cx} : OpR X (binaryOp .Mult) zD' := w9'.or op_mulW
theorem z7' {i : Int} (h : -2582249878086908589655919172003011874329705792829223512830659356540647622016841194629645353280137831435903171972747493376 < i /\ i < 2582249878086908589655919172003011874329705792829223512830659356540647622016841194629645353280137831435903171972747493376) : i.natAbs < 2 ^ 400 := by
  have : (2 : Nat) ^ 400 = 2582249878086908589655919172003011874329705792829223512830659356540647622016841194629645353280137831435903171972747493376 := by decide +kernel
  omega
theorem l4' : Op2 K M.kC' zD' := by
  intro F H T fp x y dx dy dz Q f hx hy h k
  cases dx <;> cases dy <;> try (cases h; done)
  . cases hx; cases hy
    simp only [M.kC'] at h
    split at h
    . rename_i hc
      cases h
      rcases hc with hc | hc
      . refine .inl (.inl ⟨_, _, rfl, rfl, ?_, k.here f (.int _)⟩)
        rcases hc with hc | hc <;> simp only [M.small64, Bool.and_eq_true, decide_eq_true_eq] at hc
        . exact .inl hc
        . exact .inr hc
      . exact .inr ⟨_, _, rfl, rfl, wide_mul (z7' hc.1) (z7' hc.2) (by decide) (by decide) (by decide), k.here f (.int _)⟩
    . cases h
  . obtain ⟨rfl, o1⟩ := hx.str_inv
    cases hy
    simp only [M.kC'] at h
    split at h
    . rename_i hc
      cases h
      refine .inl (.inr (.inl ⟨_, _, rfl, rfl, hc.1, hc.2.1, by rw [cI', bF']; exact hc.2.2, ?_⟩))
      rw [zx']
      exact k.here f (.str (zz' o1 hc.2.2))
    . cases h
  . obtain ⟨a, vs, rfl, ha, za⟩ := hx.lst_inv
    cases hy
    simp only [M.kC'] at h
    split at h
    . rename_i hc
      cases h
      refine .inl (.inr (.inr ⟨a, _, vs, rfl, rfl, f.low _ _ ha, by omega, by omega, by rw [za.length, bF']; exact hc.2.2, fun p hp => k.newL f (za.rep _) hp⟩))
    . cases h
theorem kI' : Op2 K M.jz' (rI CDivW fun i j => .int (i / j)) := by
  intro F H T fp x y dx dy dz Q f hx hy h k
  cases dx <;> cases dy <;> try (cases h; done)
  cases hx; cases hy
  simp only [M.jz'] at h
  split at h
  . rename_i hc
    cases h
    refine ⟨_, _, rfl, rfl, wide_div (b := 200) hc.1 ?_ (by decide) (by decide), k.here f (.int _)⟩
    have : (2 : Nat) ^ 200 = 1606938044258990275541962092341162602522202993782792835301376 := by decide +kernel
    omega
  . cases h
theorem kH' : Op2 K M.pK' (rI (fun _ j => 0 < j) fun i j => .int (i % j)) := by
  intro F H T fp x y dx dy dz Q f hx hy h k
  cases dx <;> cases dy <;> try (cases h; done)
  cases hx; cases hy
  simp only [M.pK'] at h
  split at h
  . rename_i hc
    cases h
    exact ⟨_, _, rfl, rfl, hc, k.here f (.int _)⟩
  . cases h
theorem CQ' : Op2 K M.zU' (rI CPow fun i j => .int (i ^ j.toNat)) := by
  intro F H T fp x y dx dy dz Q f hx hy h k
  cases dx <;> cases dy <;> try (cases h; done)
  cases hx; cases hy
  simp only [M.zU'] at h
  split at h
  . rename_i hc
    cases h
    obtain ⟨h1, h2, h3⟩ := hc
    simp only [M.small64, Bool.and_eq_true, decide_eq_true_eq] at h3
    exact ⟨_, _, rfl, rfl, ⟨h1, by omega, by omega⟩, k.here f (.int _)⟩
  . cases h
theorem t8' : Op2 K M.pLt (vA' (fun i j => decide (i < j)) fun a b => decide (a < b)) := by
  intro F H T fp x y dx dy dz Q f hx hy h k
  cases dx <;> cases dy <;> try (cases h; done)
  . cases hx; cases hy; cases h
    exact .inl ⟨_, _, rfl, rfl, k.here f (.bl _)⟩
  . obtain ⟨rfl, o1⟩ := hx.str_inv
    obtain ⟨rfl, o2⟩ := hy.str_inv
    cases h
    exact .inr ⟨_, _, rfl, rfl, k.here f (.bl _)⟩
theorem vG' : Op2 K M.pLe (vA' (fun i j => decide (i <= j)) fun a b => !decide (b < a)) := by
  intro F H T fp x y dx dy dz Q f hx hy h k
  cases dx <;> cases dy <;> try (cases h; done)
  . cases hx; cases hy; cases h
    exact .inl ⟨_, _, rfl, rfl, k.here f (.bl _)⟩
  . obtain ⟨rfl, o1⟩ := hx.str_inv
    obtain ⟨rfl, o2⟩ := hy.str_inv
    cases h
    exact .inr ⟨_, _, rfl, rfl, k.here f (.bl _)⟩
theorem xj' : Op2 K M.pGt (vA' (fun i j => decide (j < i)) fun a b => decide (b < a)) := by
  intro F H T fp x y dx dy dz Q f hx hy h k
  cases dx <;> cases dy <;> try (cases h; done)
  . cases hx; cases hy; cases h
    exact .inl ⟨_, _, rfl, rfl, k.here f (.bl _)⟩
  . obtain ⟨rfl, o1⟩ := hx.str_inv
    obtain ⟨rfl, o2⟩ := hy.str_inv
    cases h
    exact .inr ⟨_, _, rfl, rfl, k.here f (.bl _)⟩
theorem BP' : Op2 K M.pGe (vA' (fun i j => decide (j <= i)) fun a b => !decide (a < b)) := by
  intro F H T fp x y dx dy dz Q f hx hy h k
  cases dx <;> cases dy <;> try (cases h; done)
  . cases hx; cases hy; cases h
    exact .inl ⟨_, _, rfl, rfl, k.here f (.bl _)⟩
  . obtain ⟨rfl, o1⟩ := hx.str_inv
    obtain ⟨rfl, o2⟩ := hy.str_inv
    cases h
    exact .inr ⟨_, _, rfl, rfl, k.here f (.bl _)⟩
def D4' : R2 := fun x y H Q => D5' x y H Q \/ rIsB x y H Q
def rL' : R2 := fun x y H Q => zC' x y H Q \/ rNotB x y H Q
theorem xa' {X : Cx} : OpR X (compareOp .Is) D4' := xb'.or op_isBl
theorem f4' {X : Cx} : OpR X (compareOp .IsNot) rL' := t5'.or op_notBl
theorem vP' {F : Hp} {T : List Addr} {x : V} {d : M.D} (h : Fz K F T x d) : decide (x = .non) = M.e4' d := by cases h <;> rfl
theorem EF' : Op2 K M.pIs D4' := by
  intro F H T fp x y dx dy dz Q f hx hy h k
  cases dy with
  | non =>
    cases hy
    have e : M.D.bl (M.e4' dx) = dz := by cases dx <;> exact Option.some.inj h
    subst e
    exact .inl ⟨rfl, by rw [vP' hx]; exact k.here f (.bl _)⟩
  | bl b =>
    cases dx <;> try (cases h; done)
    cases hx; cases hy; cases h
    refine .inr ⟨_, _, rfl, rfl, ?_⟩
    rw [<- Bool.beq_eq_decide_eq]
    exact k.here f (.bl _)
  | _ => cases dx <;> cases h
theorem l5' : Op2 K M.gt' rL' := by
  intro F H T fp x y dx dy dz Q f hx hy h k
  cases dy with
  | non =>
    cases hy
    have e : M.D.bl (!M.e4' dx) = dz := by cases dx <;> exact Option.some.inj h
    subst e
    exact .inl ⟨rfl, by rw [vP' hx]; exact k.here f (.bl _)⟩
  | bl b =>
    cases dx <;> try (cases h; done)
    cases hx; cases hy; cases h
    refine .inr ⟨_, _, rfl, rfl, ?_⟩
    rw [<- Bool.beq_eq_decide_eq]
    exact k.here f (.bl _)
  | _ => cases dx <;> cases h
theorem FzA.ati {F : Hp} {T : List Addr} {vs : List V} {ds : List M.D} {i : Int} {d : M.D} (h : FzA K F T vs ds) (e : M.ati ds i = some d) : ∃ v, atI vs i = some v /\ Fz K F T v d := by
  unfold M.ati at e
  unfold atI
  rw [h.length]
  cases q : M.ixn ds.length i with
  | none => rw [q] at e; cases e
  | some j =>
    rw [q] at e
    obtain ⟨v, h1, h2⟩ := h.get (i := j) e
    have q' : ixN ds.length i = some j := q
    rw [q']
    exact ⟨v, h1, h2⟩
theorem eN' : Op2 K M.pIx (rIx K) := by
  intro F H T fp x y dx dy dz Q f hx hy h k
  cases dx <;> cases dy <;> try (cases h; done)
  . obtain ⟨rfl, o1⟩ := hx.str_inv
    cases hy
    simp only [M.pIx] at h
    rename_i s i
    cases q : M.ati s i with
    | none => rw [q] at h; cases h
    | some c =>
      rw [q] at h
      cases h
      have hc : c ∈ s := by
        unfold M.ati at q
        cases q2 : M.ixn s.length i with
        | none => rw [q2] at q; cases q
        | some j => rw [q2] at q; exact List.mem_of_getElem? q
      exact .inr (.inr ⟨_, _, c, rfl, rfl, o1.len, q, k.here f (sE' (o1.1 c hc))⟩)
  . obtain ⟨a, vs, rfl, ha, za⟩ := hx.tup_inv
    cases hy
    obtain ⟨v, h1, h2⟩ := za.ati h
    exact .inr (.inl ⟨a, vs, _, v, rfl, rfl, seqT f.low ha, h1, k.here f h2⟩)
  . obtain ⟨a, vs, rfl, ha, za⟩ := hx.lst_inv
    cases hy
    obtain ⟨v, h1, h2⟩ := za.ati h
    exact .inl ⟨a, vs, _, v, rfl, rfl, SqL.of (f.low _ _ ha), h1, k.here f h2⟩
def Ei' (K : PySem.W.Frag) (r : V -> Option Int -> Option Int -> Hp -> VK -> Prop) : Prop := ∀ {F H : Hp} {T : List Addr} {fp : Fp} {x : V} {dx dz : M.D} {lo hi : Option Int} {Q : VK}, FpH F H fp -> Fz K F T x dx -> M.pSl dx lo hi = some dz -> fJ' K F T fp dz Q -> r x lo hi H Q
theorem sR' {s : M.Tx} {lo hi : Option Int} : (∀ c ∈ M.cut s lo hi, c ∈ s) /\ (M.cut s lo hi).length <= s.length := by
  unfold M.cut
  refine ⟨fun c hc => List.mem_of_mem_drop (List.mem_of_mem_take hc), ?_⟩
  rw [List.length_take, List.length_drop]
  omega
theorem vF' : Ei' K (D3' K) := by
  intro F H T fp x dx dz lo hi Q f hx h k
  cases dx <;> try (cases h; done)
  . obtain ⟨rfl, o1⟩ := hx.str_inv
    cases h
    refine .inr (.inl ⟨_, rfl, o1.len, ?_⟩)
    have e : cutS (sx ‹M.Tx›) lo hi = sx (M.cut ‹M.Tx› lo hi) := lJ' (by rw [Bl']; rfl)
    rw [e]
    exact k.here f (.str (o1.sub sR'.1 sR'.2))
  . obtain ⟨a, vs, rfl, ha, za⟩ := hx.tup_inv
    cases h
    refine .inr (.inr ⟨a, vs, rfl, seqT f.low ha, fun e => ?_, fun _ p hp => k.newT f za.cutV hp⟩)
    refine k.here f ?_
    have e2 : M.cut ‹List M.D› lo hi = ‹List M.D› := by
      unfold M.cut
      rw [<- za.length]
      have e1 : M.six vs.length 0 lo = 0 := e.1
      have e3 : M.six vs.length vs.length hi = vs.length := e.2
      rw [e1, e3, List.drop_zero, Nat.sub_zero, za.length, List.take_length]
    rw [e2]
    exact .tup ha za
  . obtain ⟨a, vs, rfl, ha, za⟩ := hx.lst_inv
    cases h
    exact .inl ⟨a, vs, rfl, SqL.of (f.low _ _ ha), fun p hp => k.newL f za.cutV hp⟩
  . cases hx with
    | scr ha za =>
      cases h
      exact .inl ⟨_, _, rfl, Same.seq f.low ha, fun p hp => k.newL f za.cutV hp⟩
end
end S
namespace S
open PySem PySem.Spec PyProof.Rows L2
variable [Wd] [Hot]
section
variable {K : PySem.W.Frag} {F F' H H' : Hp} {T T' : List Addr} {fp fq fr : Fp} {ρ : M.PSt} {σ : St}
abbrev keys (fp : Fp) : List Addr := fp.map (·.1)
theorem FpH.sub (f : FpH F H fp) (hm : ∀ e ∈ fq, e ∈ fp) (hc : ∀ a, (keys fq).count a <= (keys fp).count a) : FpH F H fq := by
  refine ⟨f.low, fun e he => f.at_ e (hm e he), ?_, f.tbs fun a h1 h2 h3 => ⟨h1, rfl, fun e he => h3 e (hm e he)⟩⟩
  rw [List.nodup_iff_count]
  exact fun a => Nat.le_trans (hc a) (List.nodup_iff_count.mp f.nd a)
structure Part (a b : Fp) : Prop where
  m : ∀ e ∈ a, e ∈ b
  c : ∀ x, (keys a).count x <= (keys b).count x
theorem FpH.part (f : FpH F H fp) (p : Part fq fp) : FpH F H fq := f.sub p.m p.c
theorem Part.refl {a : Fp} : Part a a := ⟨fun _ h => h, fun _ => Nat.le_refl _⟩
theorem Part.trans {a b c : Fp} (p : Part a b) (q : Part b c) : Part a c := ⟨fun e h => q.m e (p.m e h), fun x => Nat.le_trans (p.c x) (q.c x)⟩
theorem Part.app {a b c d : Fp} (p : Part a b) (q : Part c d) : Part (a ++ c) (b ++ d) := by
  refine ⟨fun e h => ?_, fun x => ?_⟩
  . rcases List.mem_append.mp h with h | h
    . exact List.mem_append_left _ (p.m e h)
    . exact List.mem_append_right _ (q.m e h)
  . have := p.c x
    have := q.c x
    simp only [keys, List.map_append, List.count_append] at *
    omega
theorem Part.right {a b c : Fp} (p : Part a c) : Part a (b ++ c) := by
  refine ⟨fun e h => List.mem_append_right _ (p.m e h), fun x => ?_⟩
  have := p.c x
  simp only [keys, List.map_append, List.count_append] at *
  omega
theorem Part.nil {b : Fp} : Part [] b := ⟨fun e h => (nomatch h), fun x => by simp [keys]⟩
local macro_rules | `(tactic| walk_at "parts") => `(tactic| (constructor; (intro e h; simp only [List.mem_append, List.mem_cons] at *; grind); (intro x; simp only [keys, List.map_append, List.map_cons, List.count_append, List.count_cons] at *; omega)))
theorem Part.swap {a b c : Fp} : Part (a ++ (b ++ c)) (b ++ (a ++ c)) := by walk_at "parts"
theorem RpE.get {env : List (Option M.O)} {i : Nat} {o : M.O} (r : RpE K F T σ env fp) (h : env[i]? = some (some o)) (hne : M.Cm' o = true := by first | assumption | rfl) : ∃ v f1 f2 f3, σ[i]? = some (some v) /\ fp = f1 ++ (f2 ++ f3) /\ Rp K F T v o f2 ∧
    RpE K F T σ (env.set i none) (f1 ++ f3) /\ ∀ F' T' v' o' f2', Ext F T F' T' -> Rp K F' T' v' o' f2' -> RpE K F' T' (σ.set i (some v')) (env.set i (some o')) (f1 ++ (f2' ++ f3)) := by
  induction r generalizing i with
  | nil => cases h
  | off r ih =>
    cases i with
    | zero => cases h
    | succ i =>
      obtain ⟨v, f1, f2, f3, h1, rfl, h3, h4, h5⟩ := ih (i := i) h
      exact ⟨v, f1, f2, f3, h1, rfl, h3, .off h4, fun F' T' v' o' f2' e r' => .off (h5 F' T' v' o' f2' e r')⟩
  | @on v0 o0 σ env fa fb r0 r ih =>
    cases i with
    | zero =>
      have e : o0 = o := Option.some.inj (Option.some.inj h)
      subst e
      exact ⟨v0, [], fa, fb, rfl, rfl, r0, .off r, fun F' T' v' o' f2' e r' => (RpE.on r' (r.mono e) : RpE K F' T' _ _ (f2' ++ fb))⟩
    | succ i =>
      obtain ⟨v, f1, f2, f3, h1, rfl, h3, h4, h5⟩ := ih (i := i) h
      refine ⟨v, fa ++ f1, f2, f3, h1, by simp, h3, ?_, fun F' T' v' o' f2' e r' => ?_⟩
      . rw [List.append_assoc]; exact .on r0 h4
      . rw [List.append_assoc]; exact .on (r0.mono e) (h5 F' T' v' o' f2' e r')
  | hot hh z r ih =>
    cases i with
    | zero => rw [<- Option.some.inj (Option.some.inj h)] at hne; cases hne
    | succ i =>
      obtain ⟨v, f1, f2, f3, h1, rfl, h3, h4, h5⟩ := ih (i := i) h
      exact ⟨v, f1, f2, f3, h1, rfl, h3, .hot (by rw [List.length_set]; exact hh) z h4, fun F' T' v' o' f2' e r' => .hot (by rw [List.length_set]; exact hh) (z.mono' e) (h5 F' T' v' o' f2' e r')⟩
  | clo hh z r ih =>
    cases i with
    | zero => rw [<- Option.some.inj (Option.some.inj h)] at hne; cases hne
    | succ i =>
      obtain ⟨v, f1, f2, f3, h1, rfl, h3, h4, h5⟩ := ih (i := i) h
      exact ⟨v, f1, f2, f3, h1, rfl, h3, .clo (by rw [List.length_set]; exact hh) z h4, fun F' T' v' o' f2' e r' => .clo (by rw [List.length_set]; exact hh) (z.mono e) (h5 F' T' v' o' f2' e r')⟩
theorem RpE.val {env : List (Option M.O)} {i : Nat} {o : M.O} (r : RpE K F T σ env fp) (h : env[i]? = some (some o)) : ∃ v, σ[i]? = some (some v) := by
  induction r generalizing i with
  | nil => cases h
  | off r ih => cases i with
    | zero => cases h
    | succ i => exact ih (i := i) h
  | on _ r ih => cases i with
    | zero => exact ⟨_, rfl⟩
    | succ i => exact ih (i := i) h
  | hot _ _ r ih => cases i with
    | zero => exact ⟨_, rfl⟩
    | succ i => exact ih (i := i) h
  | clo _ _ r ih => cases i with
    | zero => exact ⟨_, rfl⟩
    | succ i => exact ih (i := i) h
theorem RpE.exn {env : List (Option M.O)} {i : Nat} (r : RpE K F T σ env fp) (h : env[i]? = some (some .exn)) : ∃ a n dd x, Hot.hot = some (a, n, dd, x) /\ XcR K F T x (.ref (He.ga K x.cls)) dd /\ σ[i]? = some (some (.ref a)) := by
  induction r generalizing i with
  | nil => cases h
  | off r ih => cases i with
    | zero => cases h
    | succ i => exact ih (i := i) h
  | on q r ih => cases i with
    | zero =>
      have e := Option.some.inj (Option.some.inj h)
      subst e
      cases q
    | succ i => exact ih (i := i) h
  | hot hh z r ih => cases i with
    | zero => exact ⟨_, _, _, _, hh, z, rfl⟩
    | succ i => exact ih (i := i) h
  | clo hh z r ih => cases i with
    | zero => cases h
    | succ i => exact ih (i := i) h
theorem ev' {α : Type} : ∀ {l : List α} {i : Nat} {x : α}, l[i]? = some x -> l.set i x = l
  | [], _, _, h => by cases h
  | a :: l, 0, x, h => by rw [<- Option.some.inj h]; rfl
  | a :: l, i + 1, x, h => by
    show a :: l.set i x = a :: l
    rw [ev' (l := l) (i := i) h]
theorem RpE.len {env : List (Option M.O)} (r : RpE K F T σ env fp) : σ.length = env.length := by
  induction r with
  | nil => rfl
  | off _ ih => exact congrArg (· + 1) ih
  | on _ _ ih => exact congrArg (· + 1) ih
  | hot _ _ _ ih => exact congrArg (· + 1) ih
  | clo _ _ _ ih => exact congrArg (· + 1) ih
theorem RpE.drop {env : List (Option M.O)} (r : RpE K F T σ env fp) (i : Nat) (x : Option V) : ∃ fq, RpE K F T (σ.set i x) (env.set i none) fq /\ Part fq fp := by
  induction r generalizing i with
  | nil => exact ⟨[], .nil, .refl⟩
  | @off y σ env fp r ih =>
    cases i with
    | zero => exact ⟨_, .off r, .refl⟩
    | succ i =>
      obtain ⟨fq, h1, h2⟩ := ih i
      exact ⟨fq, .off h1, h2⟩
  | @on v0 o0 σ env fa fb r0 r ih =>
    cases i with
    | zero => exact ⟨_, .off r, .right .refl⟩
    | succ i =>
      obtain ⟨fq, h1, h2⟩ := ih i
      exact ⟨_, .on r0 h1, .app .refl h2⟩
  | hot hh z r ih =>
    cases i with
    | zero => exact ⟨_, .off r, .refl⟩
    | succ i =>
      obtain ⟨fq, h1, h2⟩ := ih i
      exact ⟨fq, .hot (by rw [List.length_set]; exact hh) z h1, h2⟩
  | clo hh z r ih =>
    cases i with
    | zero => exact ⟨_, .off r, .refl⟩
    | succ i =>
      obtain ⟨fq, h1, h2⟩ := ih i
      exact ⟨fq, .clo (by rw [List.length_set]; exact hh) z h1, h2⟩
theorem RpE.drop0 {env : List (Option M.O)} (r : RpE K F T σ env fp) (i : Nat) : ∃ fq, RpE K F T σ (env.set i none) fq /\ Part fq fp := by
  induction r generalizing i with
  | nil => exact ⟨[], .nil, .refl⟩
  | @off y σ env fp r ih =>
    cases i with
    | zero => exact ⟨_, .off r, .refl⟩
    | succ i =>
      obtain ⟨fq, h1, h2⟩ := ih i
      exact ⟨fq, .off h1, h2⟩
  | @on v0 o0 σ env fa fb r0 r ih =>
    cases i with
    | zero => exact ⟨_, .off r, .right .refl⟩
    | succ i =>
      obtain ⟨fq, h1, h2⟩ := ih i
      exact ⟨_, .on r0 h1, .app .refl h2⟩
  | hot hh z r ih =>
    cases i with
    | zero => exact ⟨_, .off r, .refl⟩
    | succ i =>
      obtain ⟨fq, h1, h2⟩ := ih i
      exact ⟨fq, .hot (by rw [List.length_set]; exact hh) z h1, h2⟩
  | clo hh z r ih =>
    cases i with
    | zero => exact ⟨_, .off r, .refl⟩
    | succ i =>
      obtain ⟨fq, h1, h2⟩ := ih i
      exact ⟨fq, .clo (by rw [List.length_set]; exact hh) z h1, h2⟩
theorem RpE.put {env : List (Option M.O)} (r : RpE K F T σ env fp) {i : Nat} (hi : i < env.length) {v : V} {o : M.O} {f2 : Fp} (q : Rp K F T v o f2) :
    ∃ fq, RpE K F T (σ.set i (some v)) (env.set i (some o)) fq /\ Part fq (fp ++ f2) := by
  induction r generalizing i with
  | nil => cases hi
  | @off y σ env fp r ih =>
    cases i with
    | zero => exact ⟨_, .on q r, by walk_at "parts"⟩
    | succ i =>
      obtain ⟨fq, h1, h2⟩ := ih (i := i) (Nat.lt_of_succ_lt_succ hi)
      exact ⟨fq, .off h1, h2⟩
  | @on v0 o0 σ env fa fb r0 r ih =>
    cases i with
    | zero => exact ⟨_, .on q r, by walk_at "parts"⟩
    | succ i =>
      obtain ⟨fq, h1, h2⟩ := ih (i := i) (Nat.lt_of_succ_lt_succ hi)
      refine ⟨_, .on r0 h1, ?_⟩
      rw [List.append_assoc]
      exact .app .refl h2
  | hot hh z r ih =>
    cases i with
    | zero => exact ⟨_, .on q r, by walk_at "parts"⟩
    | succ i =>
      obtain ⟨fq, h1, h2⟩ := ih (i := i) (Nat.lt_of_succ_lt_succ hi)
      exact ⟨fq, .hot (by rw [List.length_set]; exact hh) z h1, h2⟩
  | clo hh z r ih =>
    cases i with
    | zero => exact ⟨_, .on q r, by walk_at "parts"⟩
    | succ i =>
      obtain ⟨fq, h1, h2⟩ := ih (i := i) (Nat.lt_of_succ_lt_succ hi)
      exact ⟨fq, .clo (by rw [List.length_set]; exact hh) z h1, h2⟩
theorem RpE.put0 {env : List (Option M.O)} (r : RpE K F T σ env fp) {i : Nat} {v : V} (hi : σ[i]? = some (some v)) {o : M.O} {f2 : Fp} (q : Rp K F T v o f2) :
    ∃ fq, RpE K F T σ (env.set i (some o)) fq /\ Part fq (fp ++ f2) := by
  have hl : i < env.length := by rw [<- r.len]; exact (List.getElem?_eq_some_iff.mp hi).1
  obtain ⟨fq, h1, h2⟩ := r.put hl q
  rw [ev' hi] at h1
  exact ⟨fq, h1, h2⟩
def uU' (F : Hp) : Fp -> Hp
  | [] => F
  | e :: r => upd (uU' F r) e.1 e.2
theorem fH' {a : Addr} : ∀ {fp : Fp}, a ∉ keys fp -> uU' F fp a = F a
  | [], _ => rfl
  | e :: r, h => by
    have h' : a ≠ e.1 /\ a ∉ keys r := by simpa [keys] using h
    show upd (uU' F r) e.1 e.2 a = F a
    rw [upd_ne h'.1, fH' h'.2]
theorem hl' : ∀ {fp : Fp}, (keys fp).Nodup -> ∀ e ∈ fp, uU' F fp e.1 = some e.2
  | e :: r, h, e', he => by
    obtain ⟨h1, h2⟩ := List.nodup_cons.mp h
    show upd (uU' F r) e.1 e.2 e'.1 = _
    rcases List.mem_cons.mp he with rfl | he
    . exact upd_same
    . rw [upd_ne fun z => h1 (by have q : e'.1 ∈ keys r := List.mem_map_of_mem he; rw [z] at q; exact q)]
      exact hl' h2 e' he
theorem ir' {fp : Fp} (h : ∀ e ∈ fp, F e.1 = none) : Same F (uU' F fp) := fun a o e => by
  rw [fH' fun z => ?_]
  . exact e
  . obtain ⟨x, h1, h2⟩ := List.mem_map.mp z
    rw [<- h2, h x h1] at e
    cases e
theorem FpH.freeze {a b : Fp} (f : FpH F H (a ++ b)) : FpH (uU' F a) H b := by
  have nd : (keys a ++ keys b).Nodup := by rw [<- List.map_append]; exact f.nd
  obtain ⟨n1, n2, n3⟩ := List.nodup_append.mp nd
  refine ⟨fun p o h => ?_, fun e he => ⟨(f.at_ e (List.mem_append_right _ he)).1, ?_⟩, n2, f.tbs (fun p h1 h2 h3 => ⟨?_, rfl, fun e he => h3 e (List.mem_append_right _ he)⟩) fun c q h => lW' (ir' fun e he => (f.at_ e (List.mem_append_left _ he)).2) h⟩
  . by_cases hp : p ∈ keys a
    . obtain ⟨x, h1, rfl⟩ := List.mem_map.mp hp
      rw [hl' n1 x h1] at h
      rw [(f.at_ x (List.mem_append_left _ h1)).1]
      exact h
    . rw [fH' hp] at h
      exact f.low _ _ h
  . rw [fH' fun z => n3 _ z _ (List.mem_map_of_mem he) rfl]
    exact (f.at_ e (List.mem_append_right _ he)).2
  . rw [fH' fun z => ?_]
    . exact h1
    . obtain ⟨x, hx, e⟩ := List.mem_map.mp z
      exact h3 x (List.mem_append_left _ hx) e
mutual
theorem Rp.freeze {G : Hp} (s : Same F G) : ∀ {v : V} {o : M.O} {fp : Fp}, Rp K F T v o fp -> (∀ e ∈ fp, G e.1 = some e.2) -> Fz K G T v (M.frz o)
  | _, _, _, .fz h, _ => h.mono (.of s)
  | _, _, _, .lst r, g => .lst (g _ List.mem_cons_self) (RpA.freeze s r fun e he => g e (List.mem_cons_of_mem _ he))
  | _, _, _, .tup r, g => .tup (SqT.of (g _ List.mem_cons_self)) (RpA.freeze s r fun e he => g e (List.mem_cons_of_mem _ he))
  | _, _, _, .dct k r, g => .dct (.inl (g _ List.mem_cons_self)) k (RpA.freeze s r fun e he => g e (List.mem_cons_of_mem _ he))
  | _, _, _, .dcl k r, g => .dcl (.inl (g _ List.mem_cons_self)) k (RpA.freeze s r fun e he => g e (List.mem_cons_of_mem _ he))
  | _, _, _, .dcn k q r, g => .dcn (.inl (g _ List.mem_cons_self)) k (q.mono (.of s)) (RpA.freeze s r fun e he => g e (List.mem_cons_of_mem _ he))
theorem RpA.freeze {G : Hp} (s : Same F G) : ∀ {vs : List V} {os : List M.O} {fp : Fp}, RpA K F T vs os fp -> (∀ e ∈ fp, G e.1 = some e.2) -> FzA K G T vs (M.frzs os)
  | _, _, _, .nil, _ => .nil
  | _, _, _, .cons h r, g => .cons (Rp.freeze s h fun e he => g e (List.mem_append_left _ he)) (RpA.freeze s r fun e he => g e (List.mem_append_right _ he))
end
theorem Rp.frozen {v : V} {o : M.O} {a b : Fp} (q : Rp K F T v o a) (f : FpH F H (a ++ b)) : ∃ G, Same F G /\ Fz K G T v (M.frz o) /\ FpH G H b := by
  have s : Same F (uU' F a) := ir' fun e he => (f.at_ e (List.mem_append_left _ he)).2
  refine ⟨_, s, q.freeze s fun e he => hl' ?_ e he, f.freeze⟩
  have nd : (keys a ++ keys b).Nodup := by rw [<- List.map_append]; exact f.nd
  exact (List.nodup_append.mp nd).1
theorem RpA.frozen {v : List V} {o : List M.O} {a b : Fp} (q : RpA K F T v o a) (f : FpH F H (a ++ b)) : ∃ G, Same F G /\ FzA K G T v (M.frzs o) /\ FpH G H b := by
  have s : Same F (uU' F a) := ir' fun e he => (f.at_ e (List.mem_append_left _ he)).2
  refine ⟨_, s, q.freeze s fun e he => hl' ?_ e he, f.freeze⟩
  have nd : (keys a ++ keys b).Nodup := by rw [<- List.map_append]; exact f.nd
  exact (List.nodup_append.mp nd).1
theorem Rel.frozen {v : V} {o : M.O} (r : Rel K ρ σ H F T (fp ++ fr)) (q : Rp K F T v o fp) : ∃ G, Same F G /\ Fz K G T v (M.frz o) /\ Rel K ρ σ H G T fr := by
  obtain ⟨fe, fw, re, rw, f⟩ := r
  have f' : FpH F H (fp ++ (fe ++ (fw ++ fr))) := f.part (by walk_at "parts")
  obtain ⟨G, s, z, f2⟩ := q.frozen f'
  exact ⟨G, s, z, fe, fw, re.mono (.of s), rw.mono (.of s), f2⟩
theorem Rel.part {fr' : Fp} (r : Rel K ρ σ H F T fr) (p : Part fr' fr) : Rel K ρ σ H F T fr' := by
  obtain ⟨fe, fw, re, rw, f⟩ := r
  exact ⟨fe, fw, re, rw, f.part (.app .refl (.app .refl p))⟩
theorem FpH.own {p : Addr} {o : HO} (f : FpH F H fp) (hp : H p = none) : FpH F (upd H p o) ((p, o) :: fp) := by
  have np : ∀ e ∈ fp, e.1 ≠ p := fun e he => ne_of_none (f.at_ e he).1 hp
  refine ⟨fun a u h => ?_, fun e he => ?_, ?_, f.tbs fun a h1 h2 h3 => ?_⟩
  . rw [upd_ne (ne_of_none (f.low _ _ h) hp)]; exact f.low _ _ h
  . rcases List.mem_cons.mp he with rfl | he
    . exact ⟨upd_same, f.free hp⟩
    . rw [upd_ne (np e he)]; exact f.at_ e he
  . refine List.nodup_cons.mpr ⟨fun h => ?_, f.nd⟩
    obtain ⟨x, h1, h2⟩ := List.mem_map.mp h
    exact np x h1 h2
  . have ha : a ≠ p := fun z => h2 (by rw [z]; exact hp)
    refine ⟨h1, upd_ne ha, fun e he => ?_⟩
    rcases List.mem_cons.mp he with rfl | he
    . exact Ne.symm ha
    . exact h3 e he
theorem FpH.write {p : Addr} {o o' : HO} {a b : Fp} (f : FpH F H (a ++ ((p, o) :: b))) : FpH F (upd H p o') (a ++ ((p, o') :: b)) := by
  have nd : (keys a ++ (p :: keys b)).Nodup := by
    have := f.nd
    simpa [keys] using this
  obtain ⟨n1, n2, n3⟩ := List.nodup_append.mp nd
  have hp : F p = none := (f.at_ (p, o) (by simp)).2
  refine ⟨fun x u h => ?_, fun e he => ?_, ?_, f.tbs fun x h1 h2 h3 => ?_⟩
  . rw [upd_ne (fun z => by rw [z, hp] at h; cases h)]; exact f.low _ _ h
  . rcases List.mem_append.mp he with h | h
    . rw [upd_ne (n3 _ (List.mem_map_of_mem h) _ List.mem_cons_self)]
      exact f.at_ e (List.mem_append_left _ h)
    . rcases List.mem_cons.mp h with rfl | h
      . exact ⟨upd_same, hp⟩
      . rw [upd_ne (fun z => (List.nodup_cons.mp n2).1 (by have q : e.1 ∈ keys b := List.mem_map_of_mem h; rw [z] at q; exact q))]
        exact f.at_ e (List.mem_append_right _ (List.mem_cons_of_mem _ h))
  . have e : (a ++ ((p, o') :: b)).map (·.1) = keys a ++ (p :: keys b) := by simp [keys]
    rw [e]
    exact nd
  . have ha : x ≠ p := fun z => h3 (p, o) (by simp) z.symm
    refine ⟨h1, upd_ne ha, fun e he => ?_⟩
    rcases List.mem_append.mp he with h | h
    . exact h3 e (List.mem_append_left _ h)
    . rcases List.mem_cons.mp h with rfl | h
      . exact Ne.symm ha
      . exact h3 e (List.mem_append_right _ (List.mem_cons_of_mem _ h))
end
section
variable {X : Cx} {W : WX} {K : PySem.W.Frag} {pos : Pos}
theorem af' {i j pos} : SE X W (.Constant (.int i) j pos) (M.eC (.int i)) := PE.imp pe_int fun σ H Q ⟨ρ, F, T, fr, rel, h⟩ => h _ _ _ _ .refl (.int i) rel
theorem bN' {b j pos} : SE X W (.Constant (.bool b) j pos) (M.eC (.bl b)) := PE.imp pe_bl fun σ H Q ⟨ρ, F, T, fr, rel, h⟩ => h _ _ _ _ .refl (.bl b) rel
theorem rr' {j pos} : SE X W (.Constant .none j pos) (M.eC .non) := PE.imp pe_non fun σ H Q ⟨ρ, F, T, fr, rel, h⟩ => h _ _ _ _ .refl .non rel
def BO' (s : M.Tx) : Bool := s.all (fun c => decide (c < 1114112)) && decide (s.length <= 16777216)
theorem vE' {s : M.Tx} (h : BO' s = true) : okT s := by
  unfold BO' at h
  rw [Bool.and_eq_true, List.all_eq_true] at h
  exact ⟨fun c hc => of_decide_eq_true (h.1 c hc), of_decide_eq_true h.2⟩
theorem bQ' {x : Str} {j pos} (s : M.Tx) (hs : x = sx s) (ho : BO' s = true) : SE X W (.Constant (.str x) j pos) (M.eC (.str s)) := by
  subst hs
  exact PE.imp pe_str fun σ H Q ⟨ρ, F, T, fr, rel, h⟩ => h _ _ _ _ .refl (.str (vE' ho)) rel
theorem Cp' {e : Expr} {v : V} {d : M.D} (h : PE X e (tC v)) (z : ∀ F T, Fz X.K F T v d) : SE X W e (M.eC d) := PE.imp h fun σ H Q ⟨ρ, F, T, fr, rel, h⟩ => h _ _ _ _ .refl (z F T) rel
theorem y8' {i : Nat} {σ : St} {H : Hp} {Q : VK} (h : qE K W (M.eV i) σ H Q) : tVar i σ H Q := by
  obtain ⟨ρ, F, T, fr, rel, h⟩ := h
  unfold M.eV at h
  split at h
  . rename_i d e
    obtain ⟨fe, fw, re, rw, f⟩ := id rel
    obtain ⟨v, f1, f2, f3, h1, rfl, h3, h4, h5⟩ := re.get e
    cases h3 with
    | fz z => exact ⟨v, h1, h v H F T .refl z rel⟩
  . exact h.elim
  . exact h.elim
  . rename_i o _ hne hnc e
    obtain ⟨fe, fw, re, rw, f⟩ := rel
    obtain ⟨v, f1, f2, f3, h1, rfl, h3, h4, h5⟩ := re.get e (M.d3' (fun z => hne (by rw [z])) fun z => hnc (by rw [z]))
    have f' : FpH F H (f2 ++ (f1 ++ f3 ++ (fw ++ fr))) := f.part (by refine ⟨fun e h => ?_, fun x => ?_⟩; (simp only [List.mem_append] at *; grind); (simp only [keys, List.map_append, List.count_append] at *; omega))
    obtain ⟨G, s, z, fG⟩ := h3.frozen f'
    have re' := h5 G T v (.fz (M.frz o)) [] (.of s) (.fz z)
    rw [ev' h1] at re'
    exact ⟨v, h1, h v H G T (.of s) z ⟨_, fw, re', rw.mono (.of s), by simpa using fG⟩⟩
  . exact h.elim
theorem ac' {e : Expr} {i : Nat} (h : PE X e (tVar i)) : SE X W e (M.eV i) := PE.imp h fun _ _ _ => y8'
variable {a b c : Expr} {ma mb mc : M.ME} {σ : St} {H : Hp} {Q : VK}
theorem jA' {f : M.D -> M.D -> Option M.D} {r : R2} (hf : Op2 K f r) (h : qE K W (M.eOp f ma mb) σ H Q) : tOp r (qE K W ma) (qE K W mb) σ H Q := by
  obtain ⟨ρ, F, T, fr, rel, h⟩ := h
  refine av' rel h fun dx ρ1 v H1 F1 T1 e1 z1 r1 h1 => ?_
  refine av' r1 h1 fun dy ρ2 u H2 F2 T2 e2 z2 r2 h2 => ?_
  obtain ⟨dz, ez, q⟩ := a8'.ofO h2
  obtain ⟨fp, f2, back⟩ := r2.fp
  exact hf f2 (z1.mono e2) z2 ez fun v' H3 F3 s zz f3 => q v' H3 F3 T2 (e1.trans (e2.trans (.of s))) zz (back H3 F3 s f3)
theorem a9' {op : Operator} {f : M.D -> M.D -> Option M.D} {r : R2} (ho : OpR X (binaryOp op) r) (hf : Op2 X.K f r) (ha : SE X W a ma) (hb : SE X W b mb) : SE X W (.BinOp a op b pos) (M.eOp f ma mb) := PE.imp (pe_op ho ha hb) fun _ _ _ => jA' hf
theorem cj' {op : CmpOp} {f : M.D -> M.D -> Option M.D} {r : R2} (ho : OpR X (compareOp op) r) (hf : Op2 X.K f r) (hm : behindInMarks op b = false) (ha : SE X W a ma) (hb : SE X W b mb) : SE X W (.Compare a [op] [b] pos) (M.eOp f ma mb) := PE.imp (pe_cmpR ho ha hb hm) fun _ _ _ => jA' hf
theorem b9' {f : M.D -> M.D -> Option M.D} {r : R2} (ho : IxR X r) (hf : Op2 X.K f r) (ha : SE X W a ma) (hb : SE X W b mb) (hs : PlainIx b) : SE X W (.Subscript a b pos) (M.eOp f ma mb) := PE.imp (pe_ix ho ha hb hs) fun _ _ _ => jA' hf
theorem ww' {f : M.D -> Option M.D} {r : V -> Hp -> VK -> Prop} (hf : Op1 K f r) (h : qE K W (M.eUn f ma) σ H Q) : tUn r (qE K W ma) σ H Q := by
  obtain ⟨ρ, F, T, fr, rel, h⟩ := h
  refine av' rel h fun dx ρ1 v H1 F1 T1 e1 z1 r1 h1 => ?_
  obtain ⟨dz, ez, q⟩ := a8'.ofO h1
  obtain ⟨fp, f2, back⟩ := r1.fp
  exact hf f2 z1 ez fun v' H3 F3 s zz f3 => q v' H3 F3 T1 (e1.trans (.of s)) zz (back H3 F3 s f3)
theorem zo' {op : UnaryOp} {f : M.D -> Option M.D} {r : V -> Hp -> VK -> Prop} (ho : UnR X (unaryOp op) r) (hf : Op1 X.K f r) (ha : SE X W a ma) : SE X W (.UnaryOp op a pos) (M.eUn f ma) := PE.imp (pe_un ho ha) fun _ _ _ => ww' hf
theorem a8'.asB {d : M.D} {ρ : M.PSt} {P : Bool -> M.PSt -> Prop} {Y : Wx} (h : a8' (M.asB d ρ) P Y) : ∃ b, d = .bl b /\ P b ρ := by
  cases d <;> first | exact h.elim | exact ⟨_, rfl, h⟩
theorem pu' {f g : M.D -> M.D -> Option M.D} {r r' : R2} (hf : Op2 K f r) (hg : Op2 K g r') (h : qE K W (M.gF' f g ma mb mc) σ H Q) : tChain r r' (qE K W ma) (qE K W mb) (qE K W mc) σ H Q := by
  obtain ⟨ρ, F, T, fr, rel, h⟩ := h
  refine av' rel h fun dx ρ1 v H1 F1 T1 e1 z1 r1 h1 => ?_
  refine av' r1 h1 fun dy ρ2 u H2 F2 T2 e2 z2 r2 h2 => ?_
  obtain ⟨dz, ez, h3⟩ := a8'.ofO (a8'.bind h2)
  obtain ⟨fp, f2, back⟩ := r2.fp
  refine hf f2 (z1.mono e2) z2 ez fun v' H3 F3 s zz f3 => ?_
  have h4 := a8'.bind h3
  obtain ⟨k, rfl, h5⟩ := a8'.asB h4
  refine ⟨k, zz.bl_inv, ?_⟩
  have r3 := back H3 F3 s f3
  cases k with
  | true =>
    rw [if_pos rfl] at h5 ⊢
    refine av' r3 (h5.mono (fun _ _ z => z) fun _ _ z => z.mono (.of s)) fun dw ρ4 w' H4 F4 T4 e4 z4 r4 h6 => ?_
    obtain ⟨dz, ez, q⟩ := a8'.ofO h6
    obtain ⟨fp, f4, back⟩ := r4.fp
    exact hg f4 ((z2.mono (.of s)).mono e4) z4 ez fun v' H5 F5 s5 zz f5 => q v' H5 F5 T4 (e1.trans (e2.trans ((Ext.of s).trans (e4.trans (.of s5))))) zz (back H5 F5 s5 f5)
  | false =>
    rw [if_neg Bool.false_ne_true] at h5 ⊢
    exact h5 _ H3 F3 T2 (e1.trans (e2.trans (.of s))) (.bl false) r3
variable {rest : List Expr}
theorem eK' (ha : SE X W a ma) (hb : SE X W (.BoolOp .And (b :: rest) pos) mb) : SE X W (.BoolOp .And (a :: b :: rest) pos) (M.oH' ma mb) := PE.imp (pe_and ha hb) fun σ H Q ⟨ρ, F, T, fr, rel, h⟩ => by
  refine av' rel h fun dx ρ1 v H1 F1 T1 e1 z1 r1 h1 => ?_
  obtain ⟨k, rfl, h2⟩ := a8'.asB (a8'.bind h1)
  refine ⟨k, z1.bl_inv, ?_⟩
  cases k with
  | true => rw [if_pos rfl] at h2 ⊢; exact ⟨ρ1, F1, T1, fr, r1, h2.mono (fun _ _ z v H' F' T' e => z v H' F' T' (e1.trans e)) fun _ _ z => z⟩
  | false => rw [if_neg Bool.false_ne_true] at h2 ⊢; exact h2 _ _ _ _ e1 (.bl false) r1
theorem go' {op} (ha : SE X W a ma) : SE X W (.BoolOp op [a] pos) ma := pe_one ha
theorem vt' (ha : SE X W a ma) : SE X W (.UnaryOp .Not a pos) (M.yC' ma) := PE.imp (pe_not ha) fun σ H Q ⟨ρ, F, T, fr, rel, h⟩ => by
  refine av' rel h fun dx ρ1 v H1 F1 T1 e1 z1 r1 h1 => ?_
  obtain ⟨k, rfl, h2⟩ := a8'.asB (a8'.bind h1)
  exact ⟨k, z1.bl_inv, h2 _ _ _ _ e1 (.bl _) r1⟩
variable {mt mu : M.MT}
theorem fQ' (ha : SE X W a ma) (he : ∀ whole, isTrue a X.env whole = (do let v ← whole; standAt a.pos; holding [v] (truthy v)) := by intro _; rfl) : ST X W a (M.tE ma) := PT.imp (pt_val ha he) fun σ H Q ⟨ρ, F, T, fr, rel, h⟩ => by
  refine av' rel h fun dx ρ1 v H1 F1 T1 e1 z1 r1 h1 => ?_
  obtain ⟨k, rfl, h2⟩ := a8'.asB h1
  exact ⟨k, z1.bl_inv, h2 _ _ _ e1 r1⟩
theorem a0' {op : CmpOp} {f : M.D -> M.D -> Option M.D} {r : R2} (ho : OpR X (compareOp op) r) (hf : Op2 X.K f r) (hm : behindInMarks op b = false) (ha : SE X W a ma) (hb : SE X W b mb) : ST X W (.Compare a [op] [b] pos) (M.tE (M.eOp f ma mb)) :=
  PT.imp (pt_cmpR ho ha hb hm) fun σ H Q ⟨ρ, F, T, fr, rel, h⟩ => by
    show tOp r (qE X.K W ma) (qE X.K W mb) σ H fun x H' => ∃ k, x = .bl k /\ Q k H'
    refine jA' hf ⟨ρ, F, T, fr, rel, (a8'.bind h).mono (fun d ρ1 h1 v H1 F1 T1 e z r => ?_) fun _ _ z => z⟩
    obtain ⟨k, rfl, h2⟩ := a8'.asB h1
    exact ⟨k, z.bl_inv, h2 _ _ _ e r⟩
theorem jl' {op op' : CmpOp} {f g : M.D -> M.D -> Option M.D} {r r' : R2} (ho : OpR X (compareOp op) r) (hf : Op2 X.K f r) (ho' : OpR X (compareOp op') r') (hg : Op2 X.K g r') (ha : SE X W a ma) (hb : SE X W b mb) (hc : SE X W c mc)
    (hm : lastMarks [op, op'] [b, c] = false := by with_unfolding_all rfl) : ST X W (.Compare a [op, op'] [b, c] pos) (M.tE (M.gF' f g ma mb mc)) := PT.imp (pt_chain ho ho' ha hb hc hm) fun σ H Q ⟨ρ, F, T, fr, rel, h⟩ => by
    show tChain r r' (qE X.K W ma) (qE X.K W mb) (qE X.K W mc) σ H fun x H' => ∃ k, x = .bl k /\ Q k H'
    refine pu' hf hg ⟨ρ, F, T, fr, rel, (a8'.bind h).mono (fun d ρ1 h1 v H1 F1 T1 e z r => ?_) fun _ _ z => z⟩
    obtain ⟨k, rfl, h2⟩ := a8'.asB h1
    exact ⟨k, z.bl_inv, h2 _ _ _ e r⟩
abbrev SW (X : Cx) (W : WX) (e : Expr) (m : M.MT) : Prop := PW X e (qT X.K W m)
theorem wB' (ha : ST X W a mt) : SW X W (.BoolOp .And [a] pos) mt := pw_and1 ha
theorem du' (ha : ST X W a mt) : SW X W (.BoolOp .Or [a] pos) mt := pw_or1 ha
theorem zd' (ha : ST X W a mt) (hb : SW X W (.BoolOp .And (b :: rest) pos) mu) : SW X W (.BoolOp .And (a :: b :: rest) pos) (M.za' mt mu) := PW.imp (pw_and ha hb) fun σ H Q ⟨ρ, F, T, fr, rel, h⟩ => by
  refine lX' rel h fun k ρ1 H1 F1 T1 e1 r1 h1 => ?_
  cases k with
  | true => rw [if_pos rfl] at h1 ⊢; exact ⟨ρ1, F1, T1, fr, r1, h1.mono (fun _ _ z H' F' T' e => z H' F' T' (e1.trans e)) fun _ _ z => z⟩
  | false => rw [if_neg Bool.false_ne_true] at h1 ⊢; exact h1 _ _ _ e1 r1
theorem dE' (ha : ST X W a mt) (hb : SW X W (.BoolOp .Or (b :: rest) pos) mu) : SW X W (.BoolOp .Or (a :: b :: rest) pos) (M.tOr mt mu) := PW.imp (pw_or ha hb) fun σ H Q ⟨ρ, F, T, fr, rel, h⟩ => by
  refine lX' rel h fun k ρ1 H1 F1 T1 e1 r1 h1 => ?_
  cases k with
  | true => rw [if_pos rfl] at h1 ⊢; exact h1 _ _ _ e1 r1
  | false => rw [if_neg Bool.false_ne_true] at h1 ⊢; exact ⟨ρ1, F1, T1, fr, r1, h1.mono (fun _ _ z H' F' T' e => z H' F' T' (e1.trans e)) fun _ _ z => z⟩
theorem nX' (h : SW X W a mt) : ST X W a mt := PW.pt h
theorem bB' (ha : ST X W a mt) : ST X W (.UnaryOp .Not a pos) (M.eJ' mt) := PT.imp (pt_not ha) fun σ H Q ⟨ρ, F, T, fr, rel, h⟩ => lX' rel h fun k ρ1 H1 F1 T1 e1 r1 h1 => h1 _ _ _ e1 r1
variable {es : List Expr} {as : M.MA}
theorem ag' : SA X W [] M.aZ' := PA.imp pa_nil fun σ H Q ⟨ρ, F, T, fr, rel, h⟩ => h [] H F T .refl .nil rel
theorem aa' (ha : SE X W a ma) (hr : SA X W es as) (hs : starEach (a :: es) X.env = (false, eval a X.env) :: starEach es X.env := by rfl) : SA X W (a :: es) (M.ad' ma as) := PA.imp (pa_cons ha hr hs) fun σ H Q ⟨ρ, F, T, fr, rel, h⟩ => by
  refine av' rel h fun dx ρ1 v H1 F1 T1 e1 z1 r1 h1 => ?_
  refine dH' r1 h1 fun ds ρ2 vs H2 F2 T2 e2 z2 r2 h2 => ?_
  exact h2 _ _ _ _ (e1.trans e2) (.cons (z1.mono e2) z2) r2
theorem ff' {k} (h : SA X W es as) : SE X W (.Tuple es k pos) (M.pm' as) := PE.imp (pe_tup h) fun σ H Q ⟨ρ, F, T, fr, rel, h⟩ => by
  refine dH' rel h fun ds ρ1 vs H1 F1 T1 e1 z1 r1 h1 => ?_
  split at h1
  . rename_i hl
    refine ⟨by rw [z1.length, bF']; exact hl, fun p hp => ?_⟩
    obtain ⟨fp, f, back⟩ := r1.fp
    have s : Same F1 (upd F1 p (.tup vs)) := dg' (f.free hp)
    exact h1 _ _ _ _ (e1.trans (.of s)) (.tup (SqT.of upd_same) (z1.mono (.of s))) (back _ _ s (f.new hp))
  . exact h1.elim
theorem zp' (h : SA X W es as) : SE X W (.List es pos) (M.pL' as) := PE.imp (pe_lst h) fun σ H Q ⟨ρ, F, T, fr, rel, h⟩ => by
  refine dH' rel h fun ds ρ1 vs H1 F1 T1 e1 z1 r1 h1 => ?_
  split at h1
  . rename_i hl
    refine ⟨by rw [z1.length, bF']; exact hl, fun p hp => ?_⟩
    obtain ⟨fp, f, back⟩ := r1.fp
    have s : Same F1 (upd F1 p (.lst vs)) := dg' (f.free hp)
    exact h1 _ _ _ _ (e1.trans (.of s)) (.lst upd_same (z1.mono (.of s))) (back _ _ s (f.new hp))
  . exact h1.elim
abbrev SP_ (X : Cx) (W : WX) (e : Option Expr) (m : M.MP) : Prop := PO X e (qP X.K W m)
theorem lN' : SP_ X W none M.pNo := PO.imp po_none fun σ H Q ⟨ρ, F, T, fr, rel, h⟩ => h _ _ _ .refl rel
theorem jp' (ha : SE X W a ma) : SP_ X W (some a) (M.pSo ma) := PO.imp (po_some ha) fun σ H Q ⟨ρ, F, T, fr, rel, h⟩ => by
  refine av' rel h fun dx ρ1 v H1 F1 T1 e1 z1 r1 h1 => ?_
  split at h1
  . exact ⟨_, z1.int_inv, h1 _ _ _ e1 r1⟩
  . exact h1.elim
theorem kt' {r : V -> Option Int -> Option Int -> Hp -> VK -> Prop} {lo hi : Option Expr} {ml mh : M.MP} {p2 : Pos} (ho : SlR X r) (hf : Ei' X.K r) (ha : SE X W a ma) (hl : SP_ X W lo ml) (hh : SP_ X W hi mh) : SE X W (.Subscript a (.Slice lo hi none p2) pos) (M.eSl ma ml mh) :=
  PE.imp (pe_slice ho ha hl hh) fun σ H Q ⟨ρ, F, T, fr, rel, h⟩ => by
    refine av' rel h fun dx ρ1 v H1 F1 T1 e1 z1 r1 h1 => ?_
    refine rN' r1 h1 fun l ρ2 H2 F2 T2 e2 r2 h2 => ?_
    refine rN' r2 h2 fun u ρ3 H3 F3 T3 e3 r3 h3 => ?_
    obtain ⟨dz, ez, q⟩ := a8'.ofO h3
    obtain ⟨fp, f3, back⟩ := r3.fp
    exact hf f3 ((z1.mono e2).mono e3) ez fun v' H4 F4 s zz f4 => q v' H4 F4 T3 (e1.trans (e2.trans (e3.trans (.of s)))) zz (back H4 F4 s f4)
end
end S
namespace S
open PySem PySem.Spec PyProof.Rows L2
variable [Wd]
section
variable (K : PySem.W.Frag) (H : Hp)
mutual
inductive NkV : V -> NestedKey -> Prop
  | non : NkV .non .none
  | bl (b : Bool) : NkV (.bl b) (.num (if b = true then 1 else 0))
  | int (i : Int) : NkV (.int i) (.num i)
  | str (x : Str) : NkV (.str x) (.text x)
  | tup {a : Addr} {vs : List V} {ks : List NestedKey} : SqT K H a vs -> NkVs vs ks -> NkV (.ref a) (.tup ks)
inductive NkVs : List V -> List NestedKey -> Prop
  | nil : NkVs [] []
  | cons {v : V} {vs : List V} {k : NestedKey} {ks : List NestedKey} : NkV v k -> NkVs vs ks -> NkVs (v :: vs) (k :: ks)
end
end
section
variable {X : Cx} {pins : List (Addr × Obj)} {σ : St} {H : Hp} {s : Shared}
mutual
theorem NkV.is (I : Inv X pins σ H s) : ∀ {v : V} {k : NestedKey} {u : Value}, NkV X.K H v k -> RelV v u -> NestedIs s.heap k u
  | _, _, _, .non, r => by cases (show _ = Value.none from r); exact .none
  | _, _, _, .bl b, r => by cases (show _ = Value.bool b from r); exact .bool rfl
  | _, _, _, .int i, r => by obtain ⟨t, e⟩ := (show ∃ t, _ = Value.int i t from r); subst e; exact .int i t
  | _, _, _, .str x, r => by obtain ⟨t, e⟩ := (show ∃ t, _ = Value.str x t from r); subst e; exact .text x t
  | _, _, _, .tup (a := a) h q, r => by
    cases (show _ = Value.ref a from r)
    obtain ⟨its, rv, ⟨o, h1, h2, n, h3⟩, _⟩ := I.tuple h
    exact .tup h1 h2 h3 (NkVs.is I q rv)
theorem NkVs.is (I : Inv X pins σ H s) : ∀ {v : List V} {k : List NestedKey} {u : List Value}, NkVs X.K H v k -> Vals v u -> NestedAll s.heap k u
  | _, _, _, .nil, r => by cases r; exact .nil
  | _, _, _, .cons a q, r => by
    cases r with
    | cons ra rq => exact .cons (NkV.is I a ra) (NkVs.is I q rq)
end
end
section
variable {K : PySem.W.Frag} {F H : Hp} {T : List Addr}
mutual
theorem Fz.nk (s : Same F H) : ∀ {v : V} {d : M.D}, Fz K F T v d -> M.kat d = true -> NkV K H v (nk d)
  | _, _, .non, _ => .non
  | _, _, .bl b, _ => .bl b
  | _, _, .int i, _ => .int i
  | _, _, .str h, _ => .str _
  | _, _, .tup h r, e => .tup (seqT s h) (FzA.nk s r e)
  | _, _, .lst h r, e => by cases e
  | _, _, .dct h _ r, e => by cases e
  | _, _, .dcl h k r, e => by cases e
  | _, _, .dcn h k q r, e => by cases e
  | _, _, .rep d, e => by cases e
  | _, _, .obj h, e => by cases e
  | _, _, .ty n, e => by cases e
  | _, _, .fn x, e => by cases e
  | _, _, .scr h r, e => by cases e
theorem FzA.nk (s : Same F H) : ∀ {vs : List V} {ds : List M.D}, FzA K F T vs ds -> M.kats ds = true -> NkVs K H vs (nks ds)
  | _, _, .nil, _ => .nil
  | _, _, .cons h r, e => by
    obtain ⟨e1, e2⟩ := Bool.and_eq_true_iff.mp (show (M.kat _ && M.kats _) = true from e)
    exact .cons (Fz.nk s h e1) (FzA.nk s r e2)
end
def lfV : V -> Option Leaf
  | .non => some .none
  | .bl b => some (.num (if b = true then 1 else 0))
  | .int i => some (.num i)
  | .str x => some (.text x)
  | _ => none
theorem Fz.lf {v : V} {d : M.D} (h : Fz K F T v d) (e : M.sca d = true) : lfV v = some (lfD d) := by
  cases h <;> first | rfl | (cases e)
theorem sf' {P : Program} {w : World} {v : V} {l : Leaf} {u : Value} (h : lfV v = some l) (r : RelV v u) : (leafKind P w).is l u = true := by
  cases v with
  | non => cases h; cases (show _ = Value.none from r); rfl
  | bl b => cases h; cases (show _ = Value.bool b from r); cases b <;> rfl
  | int i => cases h; obtain ⟨t, e⟩ := (show ∃ t, _ = Value.int i t from r); subst e; exact leaf_int i t
  | str x => cases h; obtain ⟨t, e⟩ := (show ∃ t, _ = Value.str x t from r); subst e; exact leaf_str x t
  | _ => cases h
end
mutual
theorem jE' : ∀ d : M.D, M.kat d = true -> (nk d).depth = M.dep d
  | .non, _ => rfl
  | .bl _, _ => rfl
  | .int _, _ => rfl
  | .str _, _ => rfl
  | .tup ds, e => congrArg (· + 1) (nks_depth ds e)
  | .lst _, e => by cases e
  | .dct _ _, e => by cases e
  | .dcx _ _, e => by cases e
  | .rep _, e => by cases e
  | .obj _, e => by cases e
  | .ty _, e => by cases e
  | .fn _, e => by cases e
  | .exc _ _, e => by cases e
  | .scr _, e => by cases e
theorem nks_depth : ∀ ds : List M.D, M.kats ds = true -> NestedKey.depthAll (nks ds) = M.deps ds
  | [], _ => rfl
  | d :: r, e => by
    obtain ⟨e1, e2⟩ := Bool.and_eq_true_iff.mp (show (M.kat d && M.kats r) = true from e)
    show max _ _ = max _ _
    rw [jE' d e1, nks_depth r e2]
end
mutual
theorem vU' : ∀ d e : M.D, M.kat d = true -> M.kat e = true -> M.eqb d e = NestedKey.beq (nk d) (nk e)
  | .non, e, _, h => by cases e <;> first | rfl | (cases h)
  | .bl a, e, _, h => by
    cases e with
    | bl b => cases a <;> cases b <;> rfl
    | int j => show ((if a then 1 else 0 : Int) == j) = decide _; rw [Bool.eq_iff_iff]; simp
    | _ => first | rfl | (cases h)
  | .int i, e, _, h => by
    cases e with
    | bl b => show (i == (if b then 1 else 0 : Int)) = decide _; rw [Bool.eq_iff_iff]; simp
    | int j => show (i == j) = decide _; rw [Bool.eq_iff_iff]; simp
    | _ => first | rfl | (cases h)
  | .str a, e, _, h => by
    cases e with
    | str b => show (a == b) = decide _; rw [Bool.eq_iff_iff, beq_iff_eq, decide_eq_true_iff]; exact ⟨fun h => by rw [h], vm'⟩
    | _ => first | rfl | (cases h)
  | .tup a, e, h1, h => by
    cases e with
    | tup b => exact eqbs_nk a b h1 h
    | _ => first | rfl | (cases h)
  | .lst _, _, h, _ => by cases h
  | .dct _ _, _, h, _ => by cases h
  | .dcx _ _, _, h, _ => by cases h
  | .rep _, _, h, _ => by cases h
  | .obj _, _, h, _ => by cases h
  | .ty _, _, h, _ => by cases h
  | .fn _, _, h, _ => by cases h
  | .exc _ _, _, h, _ => by cases h
  | .scr _, _, h, _ => by cases h
theorem eqbs_nk : ∀ d e : List M.D, M.kats d = true -> M.kats e = true -> M.eqbs d e = NestedKey.beqAll (nks d) (nks e)
  | [], [], _, _ => rfl
  | [], _ :: _, _, _ => rfl
  | _ :: _, [], _, _ => rfl
  | a :: d, b :: e, h1, h2 => by
    obtain ⟨a1, a2⟩ := Bool.and_eq_true_iff.mp (show (M.kat a && M.kats d) = true from h1)
    obtain ⟨b1, b2⟩ := Bool.and_eq_true_iff.mp (show (M.kat b && M.kats e) = true from h2)
    show (M.eqb a b && M.eqbs d e) = (NestedKey.beq (nk a) (nk b) && NestedKey.beqAll (nks d) (nks e))
    rw [vU' a b a1 b1, eqbs_nk d e a2 b2]
end
theorem sJ' {d e : M.D} (h1 : M.kat d = true) (h2 : M.kat e = true) : M.eqb d e = decide (nk d = nk e) := by
  rw [vU' d e h1 h2, NestedKey.decide_eq]
theorem ru' {d : M.D} (h : M.sca d = true) : M.kat d = true := by cases d <;> first | rfl | (cases h)
theorem vJ' {d : M.D} (h : M.sca d = true) : (lfD d).key = nk d := by cases d <;> first | rfl | (cases h)
theorem Ay' {d e : M.D} (h1 : M.sca d = true) (h2 : M.sca e = true) : M.eqb d e = decide (lfD d = lfD e) := by
  rw [sJ' (ru' h1) (ru' h2), <- vJ' h1, <- vJ' h2]
  by_cases q : lfD d = lfD e
  . rw [decide_eq_true q, decide_eq_true (congrArg Leaf.key q)]
  . rw [decide_eq_false q, decide_eq_false fun r => q (Leaf.key_inj r)]
theorem vV' (k j : Key) : M.eqb (kD k) (kD j) = decide (k = j) := by
  cases k with
  | inl a => cases j with
    | inl b => rw [key_ll]; rfl
    | inr b => rw [key_lr]; rfl
  | inr a => cases j with
    | inl b => rw [key_rl]; rfl
    | inr b =>
      rw [key_rr]
      show (a.cps.toList == b.cps.toList) = _
      rw [Bool.eq_iff_iff, beq_iff_eq, decide_eq_true_iff]
      exact ⟨fun h => by rw [<- tw' a, <- tw' b, h], fun h => by rw [h]⟩
section
variable {κ : Type} [DecidableEq κ]
theorem d1' {dk : M.D} {k : κ} : ∀ {kvs : List (κ × V)} {ks : List M.D}, Paired (fun p d => M.eqb d dk = decide (p.1 = k)) kvs ks -> valV kvs k = M.dget ks (kvs.map (·.2)) dk
  | _, _, .nil => rfl
  | p :: kvs, d :: ks, .cons h r => by
    have ih := d1' r
    unfold M.dget M.gY' at ih ⊢
    rw [List.findIdx?_cons, h]
    by_cases e : p.1 = k
    . rw [valV_pos e, decide_eq_true e]; rfl
    . rw [valV_neg e, decide_eq_false e, ih]
      cases ks.findIdx? fun d => M.eqb d dk <;> rfl
theorem dI' {dk : M.D} {k : κ} {v : V} : ∀ {kvs : List (κ × V)} {ks : List M.D}, Paired (fun p d => M.eqb d dk = decide (p.1 = k)) kvs ks -> (kvs.map (·.1)).Nodup →
    (∀ j, M.gY' ks dk = some j -> (putK kvs k v).map (·.1) = kvs.map (·.1) /\ (putK kvs k v).map (·.2) = (kvs.map (·.2)).set j v) /\ (M.gY' ks dk = none -> putK kvs k v = kvs ++ [(k, v)])
  | _, _, .nil, _ => ⟨fun j h => (nomatch (show (none : Option Nat) = some j from h)), fun _ => rfl⟩
  | p :: kvs, d :: ks, .cons h r, nd => by
    rw [List.map_cons, List.nodup_cons] at nd
    obtain ⟨i1, i2⟩ := dI' (v := v) r nd.2
    have hk : M.gY' (d :: ks) dk = if p.1 = k then some 0 else (M.gY' ks dk).map (· + 1) := by
      unfold M.gY'
      rw [List.findIdx?_cons, h]
      by_cases e : p.1 = k <;> simp [e]
    by_cases e : p.1 = k
    . rw [hk, if_pos e]
      refine ⟨fun j hj => ?_, fun hj => nomatch hj⟩
      cases hj
      have no : ∀ q ∈ kvs, ¬ q.1 = k := fun q hq z => nd.1 (by rw [e, <- z]; exact List.mem_map_of_mem hq)
      have same : kvs.map (fun kv => if kv.1 = k then (kv.1, v) else kv) = kvs := by
        conv => rhs; rw [<- List.map_id kvs]
        exact List.map_congr_left fun q hq => by rw [if_neg (no q hq)]; rfl
      have hp : putK (p :: kvs) k v = (p.1, v) :: kvs := by
        unfold putK
        rw [if_pos (by simp [e]), List.map_cons, if_pos e, same]
      rw [hp]
      exact ⟨rfl, rfl⟩
    . have hp : putK (p :: kvs) k v = p :: putK kvs k v := by
        unfold putK
        simp only [List.any_cons, decide_eq_false e, Bool.false_or, List.map_cons, if_neg e, List.cons_append]
        split <;> rfl
      rw [hk, if_neg e, hp]
      refine ⟨fun j hj => ?_, fun hj => ?_⟩
      . cases q : M.gY' ks dk with
        | none => rw [q] at hj; cases hj
        | some j' =>
          rw [q] at hj
          cases hj
          obtain ⟨a, b⟩ := i1 j' q
          simp only [List.map_cons, a, b, List.set_cons_succ, and_self]
      . cases q : M.gY' ks dk with
        | none => rw [i2 q]; rfl
        | some j' => rw [q] at hj; cases hj
end
theorem hR' {κ : Type} [DecidableEq κ] {g : M.D -> κ} {dk : M.D} {k : κ} : ∀ {kvs : List (κ × V)} {ks : List M.D}, kvs.map (·.1) = ks.map g -> (∀ d ∈ ks, M.eqb d dk = decide (g d = k)) -> Paired (fun p d => M.eqb d dk = decide (p.1 = k)) kvs ks
  | [], [], _, _ => .nil
  | [], _ :: _, e, _ => by cases e
  | _ :: _, [], e, _ => by cases e
  | p :: kvs, d :: ks, e, h => by
    simp only [List.map_cons, List.cons.injEq] at e
    exact .cons (by rw [h d (by simp), e.1]) (hR' e.2 fun d hd => h d (by simp [hd]))
abbrev xsV (xs : List (NestedKey × Addr × V)) : List (NestedKey × V) := xs.map fun x => (x.1, x.2.2)
def yr' (K : PySem.W.Frag) (H : Hp) (xs : List (NestedKey × Addr × V)) : Prop := ∀ x ∈ xs, NkV K H (.ref x.2.1) x.1 /\ x.1.depth <= 8
inductive DLk (K : PySem.W.Frag) (H : Hp) (a : Addr) : V -> Option V -> Prop
  | k {kvs : List (Key × V)} (k : Key) : Rd H a (.dK kvs) -> DLk K H a (kV k) (valV kvs k)
  | l {kvs : List (Leaf × V)} {y : V} {l : Leaf} : Rd H a (dcL a kvs) -> lfV y = some l -> DLk K H a y (valV kvs l)
  | n {xs : List (NestedKey × Addr × V)} {b : Addr} {k : NestedKey} : Rd H a (dcN a xs) -> yr' K H xs -> NkV K H (.ref b) k -> k.depth <= 8 -> DLk K H a (.ref b) (valV (xsV xs) k)
  | ln {b : Addr} {k : NestedKey} : Rd H a (dcL a []) -> NkV K H (.ref b) k -> k.depth <= 8 -> DLk K H a (.ref b) none
  | nl {y : V} {l : Leaf} : Rd H a (dcN a []) -> lfV y = some l -> DLk K H a y none
section
variable {X : Cx} {pins : List (Addr × Obj)} {σ : St} {H : Hp} {s : Shared} {a b : Addr} {y : V} {u : Value} {ov : Option V} {A : Around} {E : Value -> Shared -> Prop}
theorem tQ' {u : HO} (I : Inv X pins σ H s) (h : Rd H a u) : ObjOk X.prog X.w H s.heap a u := by
  rcases h with h | ⟨o, h⟩
  . exact I.hok a _ h
  . exact (show ObjOk X.prog X.w H s.heap a (.frz o u) from I.hok a _ h).2
theorem ig' (hw : X.prog = Wd.P /\ X.w = Wd.w) (I : Inv X pins σ H s) {kvs : List (Leaf × V)} (h : Rd H a (dcL a kvs)) : (a == sysModules) = false /\ kvs.length <= sizeLine /\ ∃ vs, KV kvs vs /\ s.heap.DictOf (leafKind X.prog X.w) a vs := by
  obtain ⟨⟨h1, h2, vs, h3, h4⟩, _⟩ := (show ObjOk X.prog X.w H s.heap a (dcL a kvs) from tQ' I h)
  refine ⟨h1, h2, vs, h3, ?_⟩
  rw [<- hw.1, <- hw.2] at h4
  exact h4
theorem hQ' {xs : List (NestedKey × Addr × V)} {ys : List (NestedKey × Addr × Value)} (p : Paired pN' xs ys) : xs.map (·.1) = ys.map (·.1) := by
  induction p with
  | nil => rfl
  | cons h _ ih => rw [List.map_cons, List.map_cons, h.1, ih]
theorem pQ' {xs : List (NestedKey × Addr × V)} {ys : List (NestedKey × Addr × Value)} (p : Paired pN' xs ys) (k : NestedKey) : RelO (valV (xsV xs) k) ((atKey ys k).map (·.2)) := by
  induction p with
  | nil => exact True.intro
  | @cons x y xs ys h r ih =>
    by_cases e : x.1 = k
    . have e' : y.1 = k := by rw [<- h.1]; exact e
      rw [show xsV (x :: xs) = (x.1, x.2.2) :: xsV xs from rfl, valV_pos (p := (x.1, x.2.2)) e]
      have : atKey (y :: ys) k = some y.2 := by simp [atKey, List.find?_cons, e']
      rw [this]
      exact h.2.2
    . have e' : ¬ y.1 = k := by rw [<- h.1]; exact e
      rw [show xsV (x :: xs) = (x.1, x.2.2) :: xsV xs from rfl, valV_neg (p := (x.1, x.2.2)) e]
      have : atKey (y :: ys) k = atKey ys k := by simp [atKey, List.find?_cons, e']
      rw [this]
      exact ih
theorem jg' (hw : X.prog = Wd.P /\ X.w = Wd.w) (I : Inv X pins σ H s) {xs : List (NestedKey × Addr × V)} (h : Rd H a (dcN a xs)) (ok : yr' X.K H xs) : (a == sysModules) = false /\ xs.length <= sizeLine /\ (xs.map (·.1)).Nodup ∧
    ∃ ys, Paired pN' xs ys /\ s.heap.DictOfH (nestedKind X.prog X.w) a ys := by
  obtain ⟨⟨h1, h2, h3, ys, h4, o, es, ep, g1, g2, g3, g4⟩, _⟩ := (show ObjOk X.prog X.w H s.heap a (dcN a xs) from tQ' I h)
  refine ⟨h1, h2, h3, ys, h4, o, es, ep, g1, g2, g3, ?_, ?_, ?_⟩
  . rw [<- hw.1, <- hw.2] at g4
    exact g4
  . have main : ∀ {xs : List (NestedKey × Addr × V)} {ys : List (NestedKey × Addr × Value)}, Paired pN' xs ys -> yr' X.K H xs -> ∀ y ∈ ys, (nestedKind X.prog X.w).is s.heap y.1 y.2.1 := by
      intro xs ys p ok
      induction p with
      | nil => exact fun _ z => nomatch z
      | @cons x y xs ys h r ih =>
        intro z hz
        rcases List.mem_cons.mp hz with rfl | hz
        . obtain ⟨q1, q2⟩ := ok x (by simp)
          rw [<- h.1, <- h.2.1]
          exact ⟨q1.is I rfl, q2⟩
        . exact ih (fun w hw => ok w (by simp [hw])) z hz
    exact main h4 ok
  . rw [<- hQ' h4]; exact h3
theorem eB' (hw : X.prog = Wd.P /\ X.w = Wd.w) (I : Inv X pins σ H s) (h : Rd H a (dcL a [])) : (a == sysModules) = false /\ s.heap.DictOfH (nestedKind X.prog X.w) a [] := by
  obtain ⟨h1, _, vs, h3, o, es, ep, g1, g2, g3, _, g5, _⟩ := ig' hw I h
  cases h3
  obtain ⟨l⟩ := es
  have e : l = [] := by
    have g5 : PySem.Pairs (leafKind X.prog X.w) l [] := g5
    cases g5
    rfl
  exact ⟨h1, o, _, ep, g1, g2, g3, e, (fun _ z => nomatch z), List.nodup_nil⟩
theorem f6' (I : Inv X pins σ H s) (h : Rd H a (dcN a [])) : (a == sysModules) = false /\ s.heap.DictOf (leafKind X.prog X.w) a [] := by
  obtain ⟨⟨h1, _, _, ys, h4, o, es, ep, g1, g2, g3, g4⟩, _⟩ := (show ObjOk X.prog X.w H s.heap a (dcN a []) from tQ' I h)
  cases h4
  obtain ⟨l⟩ := es
  have e : l = [] := g4
  subst e
  exact ⟨h1, o, #[], ep, g1, g2, g3, (fun _ z => by simp at z), .nil, List.nodup_nil⟩
theorem xN' (hw : X.prog = Wd.P /\ X.w = Wd.w) (I : Inv X pins σ H s) (g : DLk X.K H a y ov) : s.TypeIs (.ref a) "dict" := by
  cases g with
  | k k e => obtain ⟨_, _, vs, _, dd⟩ := dk_rd I.hok e; exact dd.typeIs
  | l e _ => obtain ⟨_, _, vs, _, dd⟩ := ig' hw I e; exact dd.typeIs
  | n e ok _ _ => obtain ⟨_, _, _, ys, _, dd⟩ := jg' hw I e ok; exact dd.typeIs
  | ln e _ _ => exact (eB' hw I e).2.typeIs
  | nl e _ => exact (f6' I e).2.typeIs
theorem kx' {P : Program} {w : World} (hu : A.units + 64 < cLine) : (nestedKind P w).room A.in1 := by
  show A.units + 1 + 8 < cLine
  omega
theorem AE' {v : V} {Q : Value -> Shared -> Prop} (hw : X.prog = Wd.P /\ X.w = Wd.w) (hu : A.units + 64 < cLine) (I : Inv X pins σ H s) (g : DLk X.K H a y (some v)) (ry : RelV y u)
    (h : ∀ w' s', Inv X pins σ H s' -> RelV v w' -> Q w' s') : wpAny (model X.prog X.w) A (getItem (.ref a) u) Q E s := by
  generalize hov : some v = ov at g
  cases g with
  | k k e =>
    obtain ⟨_, _, vs, rel, dd⟩ := dk_rd I.hok e
    obtain ⟨w', q1, q2⟩ := RelO.some_of (v := v) (o := valueAt vs k) (by rw [hov]; exact rel.val k)
    exact wpAny_getItem_of (kV_is ry) dd.mapOf q1 (h w' _ (I.tok _) q2)
  | @l kvs _ l e hy =>
    obtain ⟨_, _, vs, rel, dd⟩ := ig' hw I e
    obtain ⟨w', q1, q2⟩ := RelO.some_of (v := v) (o := valueAt vs l) (by rw [hov]; exact rel.val l)
    exact wpAny_getItem_of (sf' hy ry) dd.mapOf q1 (h w' _ (I.tok _) q2)
  | @n xs b k e ok hk hd =>
    obtain ⟨_, _, _, ys, rel, dd⟩ := jg' hw I e ok
    cases (show u = Value.ref b from ry)
    obtain ⟨w', q1, q2⟩ := RelO.some_of (v := v) (o := (atKey ys k).map (·.2)) (by rw [hov]; exact pQ' rel k)
    obtain ⟨p, hp, hp2⟩ := Option.map_eq_some_iff.mp q1
    refine wpAny_getItem_heap (kx' hu) ⟨hk.is I rfl, hd⟩ dd hp ?_
    rw [hp2]
    exact h w' _ (I.tok _) q2
  | ln _ _ _ => cases hov
  | nl _ _ => cases hov
theorem AD' {Q : Value -> Shared -> Prop} (hw : X.prog = Wd.P /\ X.w = Wd.w) (hu : A.units + 64 < cLine) (I : Inv X pins σ H s) (g : DLk X.K H a y ov) (ry : RelV y u)
    (h : ∀ s', Inv X pins σ H s' -> Q (.bool (!ov.isSome)) s') : wpAny (model X.prog X.w) A (compareOp .NotIn u (.ref a)) Q E s := by
  cases g with
  | k k e =>
    obtain ⟨_, hd, vs, rel, dd⟩ := dk_rd I.hok e
    refine wpAny_notIn_of (kV_is ry) hd dd.mapOf ?_
    rw [<- (rel.val k).isSome_eq]
    exact h _ (I.tok _)
  | @l kvs _ l e hy =>
    obtain ⟨hd, _, vs, rel, dd⟩ := ig' hw I e
    refine wpAny_notIn_of (sf' hy ry) hd dd.mapOf ?_
    rw [<- (rel.val l).isSome_eq]
    exact h _ (I.tok _)
  | @n xs b k e ok hk hdp =>
    obtain ⟨hd, _, _, ys, rel, dd⟩ := jg' hw I e ok
    cases (show u = Value.ref b from ry)
    refine wpAny_notIn_heap (kx' hu) ⟨hk.is I rfl, hdp⟩ hd dd ?_
    have q := (pQ' rel k).isSome_eq
    rw [Option.isSome_map] at q
    rw [<- q]
    exact h _ (I.tok _)
  | @ln b k e hk hdp =>
    obtain ⟨hd, dd⟩ := eB' hw I e
    cases (show u = Value.ref b from ry)
    exact wpAny_notIn_heap (kx' hu) ⟨hk.is I rfl, hdp⟩ hd dd (h _ (I.tok _))
  | @nl _ l e hy =>
    obtain ⟨hd, dd⟩ := f6' I e
    exact wpAny_notIn_of (sf' hy ry) hd dd.mapOf (h _ (I.tok _))
def jV' (xs : List (NestedKey × Addr × V)) (k : NestedKey) (b : Addr) (v : V) : List (NestedKey × Addr × V) :=
  if (xs.any fun x => decide (x.1 = k)) = true then xs.map (fun x => if x.1 = k then (x.1, x.2.1, v) else x) else xs ++ [(k, b, v)]
theorem n8' (xs : List (NestedKey × Addr × V)) (k : NestedKey) (b : Addr) (v : V) : xsV (jV' xs k b v) = putK (xsV xs) k v := by
  have e : ((xsV xs).any fun kv => decide (kv.1 = k)) = xs.any fun x => decide (x.1 = k) := by rw [xsV, List.any_map]; rfl
  unfold jV' putK
  rw [e]
  split
  . rw [xsV, xsV, List.map_map, List.map_map]
    refine List.map_congr_left fun x _ => ?_
    by_cases h : x.1 = k <;> simp [h]
  . simp [xsV]
theorem rO' {xs : List (NestedKey × Addr × V)} {k : NestedKey} {b : Addr} {v : V} (h : (xs.any fun x => decide (x.1 = k)) = true) : (jV' xs k b v).map (fun x => V.ref x.2.1) = xs.map fun x => V.ref x.2.1 := by
  unfold jV'
  rw [if_pos h, List.map_map]
  refine List.map_congr_left fun x _ => ?_
  by_cases h : x.1 = k <;> simp [h]
theorem kA' (k : NestedKey) {v : V} {r : Value} (rv : RelV v r) : ∀ {xs : List (NestedKey × Addr × V)} {ys : List (NestedKey × Addr × Value)}, Paired pN' xs ys -> Paired pN' (xs.map fun x => if x.1 = k then (x.1, x.2.1, v) else x) (ys.map (putAt k r))
  | _, _, .nil => .nil
  | x :: _, y :: _, .cons h p => by
    refine .cons ?_ (kA' k rv p)
    unfold putAt
    by_cases e : x.1 = k
    . simp only [if_pos e, if_pos (show y.1 = k from h.1 ▸ e)]
      exact ⟨h.1, h.2.1, rv⟩
    . simp only [if_neg e, if_neg (show ¬ y.1 = k from h.1 ▸ e)]
      exact h
theorem n2' (k : NestedKey) (b : Addr) {v : V} {r : Value} (rv : RelV v r) : ∀ {xs : List (NestedKey × Addr × V)} {ys : List (NestedKey × Addr × Value)}, Paired pN' xs ys -> Paired pN' (xs ++ [(k, b, v)]) (ys ++ [(k, b, r)])
  | _, _, .nil => .cons ⟨rfl, rfl, rv⟩ .nil
  | _, _, .cons h p => .cons h (n2' k b rv p)
theorem g9' {xs : List (NestedKey × Addr × V)} {ys : List (NestedKey × Addr × Value)} (p : Paired pN' xs ys) (k : NestedKey) (b : Addr) {v : V} {r : Value} (rv : RelV v r) : Paired pN' (jV' xs k b v) (storedH ys k b r) := by
  have ea : (xs.any fun x => decide (x.1 = k)) = (atKey ys k).isSome := by
    have q := (pQ' p k).isSome_eq
    rw [Option.isSome_map] at q
    rw [<- q, <- valV_any, xsV, List.any_map]
    rfl
  unfold jV' storedH
  rw [ea]
  split
  . exact kA' k rv p
  . exact n2' k b rv p
inductive DSt (K : PySem.W.Frag) (H : Hp) (a : Addr) (y v : V) (N : Hp -> Prop) : Prop
  | k {kvs : List (Key × V)} (k : Key) : H a = some (.dK kvs) -> y = kV k -> ((kvs.map (·.1)).Nodup -> (kvs.length <= sizeLine -> (putK kvs k v).length <= sizeLine) /\ N (upd H a (.dK (putK kvs k v)))) -> DSt K H a y v N
  | l {kvs : List (Leaf × V)} {l : Leaf} : H a = some (dcL a kvs) -> lfV y = some l -> ((kvs.map (·.1)).Nodup -> (kvs.length <= sizeLine -> (putK kvs l v).length <= sizeLine) /\ N (upd H a (dcL a (putK kvs l v)))) -> DSt K H a y v N
  | n {xs : List (NestedKey × Addr × V)} {b : Addr} {k : NestedKey} : H a = some (dcN a xs) -> yr' K H xs -> y = .ref b -> NkV K H (.ref b) k -> k.depth <= 8 -> ((xs.map (·.1)).Nodup -> (xs.length <= sizeLine -> (jV' xs k b v).length <= sizeLine) /\ N (upd H a (dcN a (jV' xs k b v)))) -> DSt K H a y v N
  | ln {b : Addr} {k : NestedKey} : H a = some (dcL a []) -> y = .ref b -> NkV K H (.ref b) k -> k.depth <= 8 -> N (upd H a (dcN a [(k, b, v)])) -> DSt K H a y v N
  | nl {l : Leaf} : H a = some (dcN a []) -> lfV y = some l -> N (upd H a (dcL a [(l, v)])) -> DSt K H a y v N
theorem mj' {P : Program} {H' : Hp} {h' : Heap} {kvs : List (Leaf × V)} {vs : List (Leaf × Value)} (z : kvs.length <= sizeLine) (hd : (a == sysModules) = false) (rel : KV kvs vs) (dd : h'.DictOf (leafKind Wd.P Wd.w) a vs) :
    ObjOk P Wd.w H' h' a (dcL a kvs) := by
  obtain ⟨o, es, ep, g⟩ := id dd
  refine ⟨⟨hd, z, vs, rel, dd⟩, ⟨o, g.1⟩, ?_⟩
  rintro h1 h2 ⟨a1, a2, vs', a3, o', es', ep', g1, g2⟩ k
  exact ⟨a1, a2, vs', a3, o', es', ep', k _ g1, g2⟩
theorem if' {P : Program} {H' : Hp} {h' : Heap} {xs : List (NestedKey × Addr × V)} {ys : List (NestedKey × Addr × Value)} (z : xs.length <= sizeLine) (hd : (a == sysModules) = false) (rel : Paired pN' xs ys) (dd : h'.DictOfH (nestedKind Wd.P Wd.w) a ys) :
    ObjOk P Wd.w H' h' a (dcN a xs) := by
  obtain ⟨o, es, ep, g1, g2, g3, g4, g5, g6⟩ := dd
  refine ⟨⟨hd, z, by rw [hQ' rel]; exact g6, ys, rel, o, es, ep, g1, g2, g3, g4⟩, ⟨o, g1⟩, ?_⟩
  rintro h1 h2 ⟨a1, a2, a3, ys', a4, o', es', ep', g1, g2⟩ k
  exact ⟨a1, a2, a3, ys', a4, o', es', ep', k _ g1, g2⟩
theorem AC' {v : V} {r : Value} {N : Hp -> Prop} {Q : Unit -> Shared -> Prop} (hw : X.prog = Wd.P /\ X.w = Wd.w) (hu : A.units + 64 < cLine) (I : Inv X pins σ H s) (g : DSt X.K H a y v N) (ry : RelV y u) (rv : RelV v r)
    (h : ∀ H' s', Inv X pins σ H' s' -> N H' -> Q () s') : wpAny (model X.prog X.w) A (setItem (.ref a) u r) Q E s := by
  cases g with
  | @k kvs k e ey n =>
    subst ey
    obtain ⟨z, hd, vs, rel, dd⟩ := dk_of I.hok e
    have hz : vs.length <= sizeLine := by rw [<- rel.length]; exact z
    have nd : (kvs.map (·.1)).Nodup := by
      rw [rel.keys]
      obtain ⟨_, _, _, _, _, _, _, _, nd⟩ := id dd
      exact nd
    obtain ⟨n1, n2⟩ := n nd
    exact wpAny_setItem_pairs (hsz := hz) (kV_is ry) dd fun h' dd' hs => h _ _ (d_write I (by rw [e]; exact True.intro) hs (let ⟨q, _, _, hq, _⟩ := dd'; ⟨q, hq⟩) (dk_new (n1 z) hd (rel.put k rv) dd')) n2
  | @l kvs l e hy n =>
    obtain ⟨hd, z, vs, rel, dd⟩ := ig' hw I (.inl e)
    have hz : vs.length <= sizeLine := by rw [<- rel.length]; exact z
    have nd : (kvs.map (·.1)).Nodup := by
      rw [rel.keys]
      obtain ⟨_, _, _, _, _, _, _, _, nd⟩ := id dd
      exact nd
    obtain ⟨n1, n2⟩ := n nd
    refine wpAny_setItem_pairs (hsz := hz) (sf' hy ry) dd fun h' dd' hs => h _ _ (d_write I (by rw [e]; exact True.intro) hs (let ⟨q, _, _, hq, _⟩ := dd'; ⟨q, hq⟩) ?_) n2
    rw [hw.1, hw.2] at dd'
    rw [hw.2]
    exact mj' (n1 z) hd (rel.put l rv) dd'
  | @n xs b k e ok ey hk hdp n =>
    subst ey
    cases (show u = Value.ref b from ry)
    obtain ⟨hd, z, nd, ys, rel, dd⟩ := jg' hw I (.inl e) ok
    have hz : ys.length <= sizeLine := by rw [<- Paired.length rel]; exact z
    obtain ⟨n1, n2⟩ := n nd
    refine wpAny_setItem_heap (hsz := hz) (kx' hu) ⟨hk.is I rfl, hdp⟩ dd fun h' dd' hs => h _ _ (d_write I (by rw [e]; exact True.intro) hs (let ⟨q, _, _, hq, _⟩ := dd'; ⟨q, hq⟩) ?_) n2
    rw [hw.1, hw.2] at dd'
    rw [hw.2]
    exact if' (n1 z) hd (g9' rel k b rv) dd'
  | @ln b k e ey hk hdp n =>
    subst ey
    cases (show u = Value.ref b from ry)
    obtain ⟨hd, dd⟩ := eB' hw I (.inl e)
    refine wpAny_setItem_heap (hsz := Nat.zero_le _) (kx' hu) ⟨hk.is I rfl, hdp⟩ dd fun h' dd' hs => h _ _ (d_write I (by rw [e]; exact True.intro) hs (let ⟨q, _, _, hq, _⟩ := dd'; ⟨q, hq⟩) ?_) n
    rw [hw.1, hw.2] at dd'
    rw [hw.2]
    exact if' (by rw [sizeLine_eq]; show 1 <= 16777216; decide) hd (g9' .nil k b rv) dd'
  | @nl l e hy n =>
    obtain ⟨hd, dd⟩ := f6' I (.inl e)
    refine wpAny_setItem_pairs (hsz := Nat.zero_le _) (sf' hy ry) dd fun h' dd' hs => h _ _ (d_write I (by rw [e]; exact True.intro) hs (let ⟨q, _, _, hq, _⟩ := dd'; ⟨q, hq⟩) ?_) n
    rw [hw.1, hw.2] at dd'
    rw [hw.2]
    exact mj' (by rw [sizeLine_eq]; show 1 <= 16777216; decide) hd (KV.put (kvs := []) .nil l rv) dd'
def wV' (K : PySem.W.Frag) : List V -> Hp -> VK -> Prop := fun xs H Q => zI' K xs H Q \/ (∃ a kvs, xs = [V.ref a] /\ Rd H a (dcL a kvs) /\ Q (.int kvs.length) H) \/ ∃ a ys, xs = [V.ref a] /\ Rd H a (dcN a ys) /\ Q (.int ys.length) H
theorem ak' (hw : X.prog = Wd.P /\ X.w = Wd.w) : CallR X (.builtin "len") (wV' X.K) := by
  intro pins s σ H vs us Q I r h
  rcases h with h | ⟨a, kvs, rfl, e, q⟩ | ⟨a, xs, rfl, e, q⟩
  . exact sT' pins s σ H vs us Q I r h
  . cases r with
    | cons ra rn =>
      cases rn
      cases (show _ = Value.ref a from ra)
      obtain ⟨hd, z, ws, rel, dd⟩ := ig' hw I e
      refine call_len_dict hd dd (by rw [<- rel.length]; rw [sizeLine_eq] at z; omega) ?_
      rw [<- rel.length]
      exact ⟨.int kvs.length, H, I.tok _, ⟨_, rfl⟩, q⟩
  . cases r with
    | cons ra rn =>
      cases rn
      cases (show _ = Value.ref a from ra)
      obtain ⟨⟨hd, z, _, ys, rel, o, es, ep, g1, g2, g3, g4⟩, _⟩ := (show ObjOk X.prog X.w H s.heap a (dcN a xs) from tQ' I e)
      have hl : es.size = xs.length := by
        have := congrArg List.length g4
        rw [List.length_map, <- Paired.length rel, Array.length_toList] at this
        exact this
      refine PyProof.Rows.call_len_slot (n := es.size) (show s.TypeIs (.ref a) "dict" from ⟨o, g1, g2.1⟩) PySem.F.slot_dict_len (fun Q' hq => call_len_raw hd ⟨o, g1, g2, g3⟩ hq) (by omega) (by rw [sizeLine_eq] at z; omega) ?_
      rw [hl]
      exact ⟨.int xs.length, H, I.tok _, ⟨_, rfl⟩, q⟩
end
end S
namespace S
open PySem PySem.Spec PyProof.Rows L2
variable [Wd] [Hot]
section
variable (K : PySem.W.Frag)
def Bi1 (f : M.D -> Option M.D) (r : List V -> Hp -> VK -> Prop) : Prop := ∀ {F H : Hp} {T : List Addr} {fp : Fp} {x : V} {dx dz : M.D} {Q : VK}, FpH F H fp -> Fz K F T x dx -> f dx = some dz -> fJ' K F T fp dz Q -> r [x] H Q
def Bi2 (f : M.D -> M.D -> Option M.D) (r : List V -> Hp -> VK -> Prop) : Prop := ∀ {F H : Hp} {T : List Addr} {fp : Fp} {x y : V} {dx dy dz : M.D} {Q : VK}, FpH F H fp -> Fz K F T x dx -> Fz K F T y dy -> f dx dy = some dz -> fJ' K F T fp dz Q -> r [x, y] H Q
end
section
variable {X : Cx} {W : WX} {K : PySem.W.Frag} {pos p : Pos} {x : Str} {id : String} {a b : Expr} {ma mb : M.ME} {σ : St} {H : Hp} {Q : VK} {r : List V -> Hp -> VK -> Prop}
theorem s4' {f : M.D -> Option M.D} (hf : Bi1 K f r) (h : qE K W (M.eUn f ma) σ H Q) : tCB r (tCons (qE K W ma) tNil) σ H Q := by
  obtain ⟨ρ, F, T, fr, rel, h⟩ := h
  refine av' rel h fun dx ρ1 v H1 F1 T1 e1 z1 r1 h1 => ?_
  obtain ⟨dz, ez, q⟩ := a8'.ofO h1
  obtain ⟨fp, f2, back⟩ := r1.fp
  exact hf f2 z1 ez fun v' H3 F3 s zz f3 => q v' H3 F3 T1 (e1.trans (.of s)) zz (back H3 F3 s f3)
theorem yo' {f : M.D -> M.D -> Option M.D} (hf : Bi2 K f r) (h : qE K W (M.eOp f ma mb) σ H Q) : tCB r (tCons (qE K W ma) (tCons (qE K W mb) tNil)) σ H Q := by
  obtain ⟨ρ, F, T, fr, rel, h⟩ := h
  refine av' rel h fun dx ρ1 v H1 F1 T1 e1 z1 r1 h1 => ?_
  refine av' r1 h1 fun dy ρ2 u H2 F2 T2 e2 z2 r2 h2 => ?_
  obtain ⟨dz, ez, q⟩ := a8'.ofO h2
  obtain ⟨fp, f2, back⟩ := r2.fp
  exact hf f2 (z1.mono e2) z2 ez fun v' H3 F3 s zz f3 => q v' H3 F3 T2 (e1.trans (e2.trans (.of s))) zz (back H3 F3 s f3)
theorem bp' {f : M.D -> Option M.D} (hc : CallR X (.builtin id) r) (hf : Bi1 X.K f r) (hg : Gl X x) (hm : X.mg x = none) (hv : bootBuiltins x = some (.builtin id)) (ha : SE X W a ma) (hn : x ≠ "__name__" := by decide) (hdb : (x == ("__debug__" : Str)) = false := by decide)
    (he : starEach [a] X.env = (false, eval a X.env) :: starEach [] X.env := by rfl) (hpl : (backTo pos (starEach [] X.env)).any (·.1) = false := by rfl) : SE X W (.Call (.Name x p) [a] [] pos) (M.eUn f ma) := PE.imp (pe_callB hc hg hm hv (pa_cons ha pa_nil he) hn hdb he hpl) fun _ _ _ => s4' hf
theorem cw' {f : M.D -> Option M.D} (hc : CallR X (.type id) r) (hf : Bi1 X.K f r) (hg : Gl X x) (hm : X.mg x = none) (hv : bootBuiltins x = some (.type id)) (ha : SE X W a ma) (hn : x ≠ "__name__" := by decide) (hdb : (x == ("__debug__" : Str)) = false := by decide)
    (he : starEach [a] X.env = (false, eval a X.env) :: starEach [] X.env := by rfl) (hpl : (backTo pos (starEach [] X.env)).any (·.1) = false := by rfl) : SE X W (.Call (.Name x p) [a] [] pos) (M.eUn f ma) := PE.imp (pe_callTy hc hg hm hv (pa_cons ha pa_nil he) hn hdb he hpl) fun _ _ _ => s4' hf
theorem zr' {f : M.D -> M.D -> Option M.D} (hc : CallR X (.builtin id) r) (hf : Bi2 X.K f r) (hg : Gl X x) (hm : X.mg x = none) (hv : bootBuiltins x = some (.builtin id)) (ha : SE X W a ma) (hb : SE X W b mb) (hn : x ≠ "__name__" := by decide) (hdb : (x == ("__debug__" : Str)) = false := by decide)
    (he : starEach [a, b] X.env = (false, eval a X.env) :: starEach [b] X.env := by rfl) (he2 : starEach [b] X.env = (false, eval b X.env) :: starEach [] X.env := by rfl) (hpl : (backTo pos (starEach [b] X.env)).any (·.1) = false := by rfl) : SE X W (.Call (.Name x p) [a, b] [] pos) (M.eOp f ma mb) := PE.imp (pe_callB hc hg hm hv (pa_cons ha (pa_cons hb pa_nil he2) he) hn hdb he hpl) fun _ _ _ => yo' hf
theorem gr' {F H : Hp} {a : Addr} {u : HO} (s : Same F H) (h : Rd F a u) : Rd H a u := h.imp (s _ _) fun ⟨o, h⟩ => ⟨o, s _ _ h⟩
theorem bZ' : Bi1 K M.c8' (wV' K) := by
  intro F H T fp x dx dz Q f hx h k
  by_cases hX : ∃ ks vs, dx = .dcx ks vs
  . obtain ⟨ks, vs, rfl⟩ := hX
    cases h
    cases hx with
    | @dcl a kvs _ _ e ke z =>
      have q : kvs.length = ks.length := by have := congrArg List.length ke.e; simpa using this
      refine .inr (.inl ⟨_, _, rfl, e.imp (f.low _ _) fun ⟨o, h⟩ => ⟨o, f.low _ _ h⟩, ?_⟩)
      rw [q]
      exact k.here f (.int _)
    | @dcn a xs _ _ e ke z1 z2 =>
      have q : xs.length = ks.length := by have := congrArg List.length ke.e; simpa using this
      refine .inr (.inr ⟨_, _, rfl, e.imp (f.low _ _) fun ⟨o, h⟩ => ⟨o, f.low _ _ h⟩, ?_⟩)
      rw [q]
      exact k.here f (.int _)
  refine .inl ?_
  cases dx <;> try (cases h; done)
  . obtain ⟨rfl, o1⟩ := hx.str_inv
    cases h
    refine .inl ⟨_, rfl, o1.len, ?_⟩
    rw [cI']
    exact k.here f (.int _)
  . obtain ⟨a, vs, rfl, ha, za⟩ := hx.tup_inv
    cases h
    refine .inr (.inl ⟨a, vs, rfl, .inr (seqT f.low ha), ?_⟩)
    rw [za.length]
    exact k.here f (.int _)
  . obtain ⟨a, vs, rfl, ha, za⟩ := hx.lst_inv
    cases h
    refine .inr (.inl ⟨a, vs, rfl, .inl (SqL.of (f.low _ _ ha)), ?_⟩)
    rw [za.length]
    exact k.here f (.int _)
  . cases hx with
    | dct ha _ za =>
      cases h
      refine .inr (.inr ⟨_, _, rfl, gr' f.low ha, ?_⟩)
      refine k.here f ?_
      rw [List.length_map]
      exact .int _
  . exact absurd ⟨_, _, rfl⟩ hX
theorem ij' {F : Hp} {T : List Addr} : ∀ {vs : List V} {ds : List M.D} {bs : List Bool}, FzA K F T vs ds -> M.bools ds = some bs -> vs = bs.map V.bl
  | _, _, bs, .nil, h => by cases h; rfl
  | _, d :: ds, bs, .cons a r, h => by
    cases d <;> try (cases h; done)
    rename_i b
    cases q : M.bools ds with
    | none => simp only [M.bools, q] at h; cases h
    | some cs =>
      simp only [M.bools, q, Option.map_some] at h
      cases h
      rw [a.bl_inv, ij' r q]
      rfl
theorem yl' : Bi1 K M.t3' (rAll K) := by
  intro F H T fp x dx dz Q f hx h k
  cases dx <;> try (cases h; done)
  obtain ⟨a, vs, rfl, ha, za⟩ := hx.lst_inv
  rename_i ds
  cases q : M.bools ds with
  | none => simp only [M.t3', q] at h; cases h
  | some bs =>
    simp only [M.t3', q, Option.map_some] at h
    cases h
    exact ⟨a, bs, rfl, by rw [<- ij' za q]; exact SqL.of (f.low _ _ ha), k.here f (.bl _)⟩
theorem Bq' : Bi1 K M.t2' (rAny K) := by
  intro F H T fp x dx dz Q f hx h k
  cases dx <;> try (cases h; done)
  obtain ⟨a, vs, rfl, ha, za⟩ := hx.lst_inv
  rename_i ds
  cases q : M.bools ds with
  | none => simp only [M.t2', q] at h; cases h
  | some bs =>
    simp only [M.t2', q, Option.map_some] at h
    cases h
    exact ⟨a, bs, rfl, by rw [<- ij' za q]; exact SqL.of (f.low _ _ ha), k.here f (.bl _)⟩
theorem iC' : Bi1 K M.l1' zK' := by
  intro F H T fp x dx dz Q f hx h k
  cases dx <;> try (cases h; done)
  . cases hx; cases h
    exact .inr ⟨_, rfl, k.here f (.int _)⟩
  . cases hx; cases h
    exact .inl ⟨_, rfl, k.here f (.int _)⟩
theorem DS' : Bi1 K M.BM' zO' := by
  intro F H T fp x dx dz Q f hx h k
  cases dx <;> try (cases h; done)
  cases hx; cases h
  exact ⟨_, rfl, k.here f (.int _)⟩
theorem Bp' : Bi2 K M.t1' zG' := by
  intro F H T fp x y dx dy dz Q f hx hy h k
  cases dx <;> cases dy <;> try (cases h; done)
  cases hx; cases hy; cases h
  exact ⟨_, _, rfl, k.here f (.int _)⟩
theorem Bo' : Bi2 K M.t0' zF' := by
  intro F H T fp x y dx dy dz Q f hx hy h k
  cases dx <;> cases dy <;> try (cases h; done)
  cases hx; cases hy; cases h
  exact ⟨_, _, rfl, k.here f (.int _)⟩
theorem tE' {s : M.Tx} : signs (sx s) = s.map chv := by
  unfold signs
  show (s.toArray.toList.map fun c => V.str ⟨#[c]⟩) = _
  simp
  intro a _
  rfl
theorem FzA.signs {K : PySem.W.Frag} {F : Hp} {T : List Addr} {s : M.Tx} (o : okT s) : FzA K F T (S.signs (sx s)) (s.map M.chD) := by
  rw [tE']
  exact FzA.chars o.1
theorem cG' : Bi1 K M.ck' (rF' K) := by
  intro F H T fp x dx dz Q f hx h k
  cases dx <;> try (cases h; done)
  . obtain ⟨rfl, o⟩ := hx.str_inv
    cases h
    exact .inr ⟨_, rfl, o.len, fun l hl => k.newT f (FzA.signs o) hl⟩
  . obtain ⟨a, vs, rfl, ha, za⟩ := hx.tup_inv
    cases h
    exact .inl ⟨a, vs, rfl, .inr ⟨seqT f.low ha, k.here f (.tup ha za)⟩⟩
  . obtain ⟨a, vs, rfl, ha, za⟩ := hx.lst_inv
    cases h
    exact .inl ⟨a, vs, rfl, .inl ⟨SqL.of (f.low _ _ ha), fun l hl => k.newT f za hl⟩⟩
theorem vk' {F H : Hp} {T : List Addr} {v : V} {d : M.D} {n : String} (s : Same F H) (h : Fz K F T v d) (e : M.tyn d = some n) : TyX K H v (.type n) := by
  cases h with
  | non => cases e; exact .base .non
  | bl b => cases e; exact .base (.bl b)
  | int i => cases e; exact .base (.int i)
  | str z => cases e; exact .base (.str _)
  | lst h1 _ => cases e; exact tyL (SqL.of (s _ _ h1))
  | tup h1 _ => cases e; exact tyT (seqT s h1)
  | dct h1 _ _ =>
    cases e
    rcases h1 with h1 | ⟨o, h1⟩
    . exact .base (.dK (s _ _ h1))
    . exact .fDict (s _ _ h1)
  | dcl _ _ _ => cases e
  | dcn _ _ _ _ => cases e
  | rep _ => cases e
  | obj _ => cases e
  | ty _ => cases e
  | fn _ => cases e
  | scr _ _ => cases e
theorem xr' : ∀ n ∈ ["NoneType", "bool", "int", "str", "tuple", "list", "dict"], ∀ t ∈ ["bool", "int", "str", "tuple", "list", "dict"], kitB n t = some (n == t || (n == "bool" && t == "int")) := by decide +kernel
theorem wx' {d : M.D} {n : String} (e : M.tyn d = some n) : n ∈ ["NoneType", "bool", "int", "str", "tuple", "list", "dict"] := by
  cases d <;> first | (cases e; done) | (cases e; decide)
def mR' (K : PySem.W.Frag) (J : It) (ds : List M.D) (F : Hp) (T : List Addr) : Prop := ∀ F' T' H' fp i, Ext F T F' T' -> FpH F' H' fp -> i <= ds.length →
  (i = ds.length -> J.stop i H') /\ ∀ d, ds[i]? = some d -> J.go i H' /\ ∀ x H2, J.yld i H' x H2 -> ∃ F2, Same F' F2 /\ Fz K F2 T' x d /\ FpH F2 H2 fp
theorem mR'.mono {J : It} {ds : List M.D} {F F' : Hp} {T T' : List Addr} (h : mR' K J ds F T) (e : Ext F T F' T') : mR' K J ds F' T' := fun F2 T2 H2 fp i e2 => h F2 T2 H2 fp i (e.trans e2)
def qI (K : PySem.W.Frag) (W : WX) (m : M.MI) : TI := fun σ H R => ∃ ρ F T fr, Rel K ρ σ H F T fr ∧
  a8' (m ρ) (fun ds ρ' => ∀ J H' F' T', Ext F T F' T' -> mR' K J ds F' T' -> Rel K ρ' σ H' F' T' fr -> R J H') (EX K W σ F T fr)
abbrev SI (X : Cx) (W : WX) (tg e : Expr) (m : M.MI) : Prop := PI X tg e (qI X.K W m)
theorem PI.imp {tg e : Expr} {t t' : TI} (h : PI X tg e t) (i : ∀ σ H Q, t' σ H Q -> t σ H Q) : PI X tg e t' := ⟨fun pins s σ H Q I q => h.run pins s σ H Q I (i σ H Q q)⟩
theorem xw' {a : Addr} {vs : List V} {ds : List M.D} {F : Hp} {T : List Addr} (ha : F a = some (.lst vs)) (z : FzA K F T vs ds) : mR' K (Itl K a) ds F T := fun F' T' H' fp i e f hi => by
  have h' : SqL K H' a vs := SqL.of (f.low _ _ (e.f.lst ha))
  refine ⟨fun q => ⟨vs, h', by rw [z.length]; omega⟩, fun d hd => ?_⟩
  obtain ⟨v, h1, h2⟩ := z.get hd
  refine ⟨⟨vs, v, h', h1⟩, fun x H2 y => ?_⟩
  obtain ⟨rfl, y⟩ := y
  have := y vs h'
  rw [h1] at this
  cases this
  exact ⟨F', fun _ _ e => e, h2.mono e, f⟩
theorem Ah' {a : Addr} {vs : List V} {ds : List M.D} {F : Hp} {T : List Addr} (ha : SqT K F a vs) (z : FzA K F T vs ds) : mR' K (Itt K a) ds F T := fun F' T' H' fp i e f hi => by
  have h' : SqT K H' a vs := seqT f.low (e.f.seqT ha)
  refine ⟨fun q => ⟨vs, h', by rw [z.length]; omega⟩, fun d hd => ?_⟩
  obtain ⟨v, h1, h2⟩ := z.get hd
  refine ⟨⟨vs, v, h', h1⟩, fun x H2 y => ?_⟩
  obtain ⟨rfl, y⟩ := y
  have := y vs h'
  rw [h1] at this
  cases this
  exact ⟨F', fun _ _ e => e, h2.mono e, f⟩
theorem zb' (s : M.Tx) (i : Nat) : (sx s).cps[i]? = s[i]? := by simp [sx]
theorem Ai' {s : M.Tx} {F : Hp} {T : List Addr} (o : okT s) : mR' K (Its (sx s)) (s.map M.chD) F T := fun F' T' H' fp i e f hi => by
  have el : (sx s).cps.size = s.length := cI' s
  rw [List.length_map] at hi ⊢
  refine ⟨fun q => by show (sx s).cps.size <= i; omega, fun d hd => ?_⟩
  rw [List.getElem?_map] at hd
  cases q : s[i]? with
  | none => rw [q] at hd; cases hd
  | some c =>
    rw [q] at hd
    cases hd
    refine ⟨by show i < (sx s).cps.size; have := (List.getElem?_eq_some_iff.mp q).1; omega, fun x H2 y => ?_⟩
    obtain ⟨rfl, c', h1, rfl⟩ := y
    rw [zb', q] at h1
    cases h1
    exact ⟨F', fun _ _ e => e, sE' (o.1 c (List.mem_of_getElem? q)), f⟩
theorem vO' {lo : Int} {n : Nat} {F : Hp} {T : List Addr} : mR' K (Itr lo n) (M.rgI lo n) F T := fun F' T' H' fp i e f hi => by
  unfold M.rgI at hi ⊢
  rw [List.length_map, List.length_range] at hi ⊢
  refine ⟨fun q => by show n <= i; omega, fun d hd => ?_⟩
  rw [List.getElem?_map] at hd
  by_cases h : i < n
  . rw [List.getElem?_range h] at hd
    cases hd
    refine ⟨h, fun x H2 y => ?_⟩
    obtain ⟨rfl, rfl⟩ := y
    exact ⟨F', fun _ _ e => e, .int _, f⟩
  . rw [List.getElem?_eq_none (by rw [List.length_range]; omega)] at hd
    cases hd
theorem zR' {tg e : Expr} {te : TE} (h : PE X e te) : PI X tg e (fun σ H R => iStr te σ H R \/ iList X.K te σ H R \/ iTup X.K te σ H R) := w3' (pi_str h) (w3' (pi_list h) (pi_tup h))
theorem wW' {m : M.ME} {ρ ρ1 : M.PSt} {F : Hp} {T : List Addr} {fr : Fp} {d : M.D} (rel : Rel K ρ σ H F T fr) (em : m ρ = .ok d ρ1) (h : ∀ v H' F' T', Ext F T F' T' -> Fz K F' T' v d -> Rel K ρ1 σ H' F' T' fr -> Q v H') : qE K W m σ H Q :=
  ⟨ρ, F, T, fr, rel, by rw [em]; exact h⟩
theorem bo' {tg : Expr} (h : SE X W a ma) : SI X W tg a (M.eC' ma) := PI.imp (zR' h) fun σ H R ⟨ρ, F, T, fr, rel, q⟩ => by
  have q2 := a8'.bind q
  cases em : ma ρ with
  | bad => rw [em] at q2; exact q2.elim
  | exc x ρ1 =>
    rw [em] at q2
    exact .inl ⟨ρ, F, T, fr, rel, by rw [em]; exact q2⟩
  | ok d ρ1 =>
    rw [em] at q2
    obtain ⟨ds, e1, q3⟩ := a8'.ofO (show a8' _ _ _ from q2)
    cases d <;> try (cases e1; done)
    . cases e1
      refine .inl (wW' rel em fun v H' F' T' e z r => ?_)
      obtain ⟨rfl, o⟩ := z.str_inv
      exact ⟨_, rfl, q3 _ _ _ _ e (Ai' o) r⟩
    . cases e1
      refine .inr (.inr (wW' rel em fun v H' F' T' e z r => ?_))
      obtain ⟨p, vs, rfl, ha, za⟩ := z.tup_inv
      obtain ⟨fp, f, _⟩ := r.fp
      exact ⟨p, rfl, ⟨vs, seqT f.low ha⟩, q3 _ _ _ _ e (Ah' ha za) r⟩
    . cases e1
      refine .inr (.inl (wW' rel em fun v H' F' T' e z r => ?_))
      obtain ⟨p, vs, rfl, ha, za⟩ := z.lst_inv
      obtain ⟨fp, f, _⟩ := r.fp
      exact ⟨p, rfl, ⟨vs, SqL.of (f.low _ _ ha)⟩, q3 _ _ _ _ e (xw' ha za) r⟩
theorem ym' {i : Int} (h : M.th' i = true) : -(2 ^ 62) <= i /\ i < 2 ^ 62 := by
  unfold M.th' at h
  simpa [Bool.and_eq_true] using h
theorem bs' {tg : Expr} (hg : Gl X "range") (hm : X.mg "range" = none) (ha : SE X W a ma) (hs : starEach [a] X.env = [(false, eval a X.env)] := by rfl) : SI X W tg (.Call (.Name "range" p) [a] [] pos) (M.bO' ma) :=
  PI.imp (pi_range1 hg hm (pa_cons ha pa_nil hs) hs) fun σ H R ⟨ρ, F, T, fr, rel, q⟩ => by
    refine av' rel q fun dx ρ1 v H1 F1 T1 e1 z1 r1 h1 => ?_
    obtain ⟨ds, e2, q2⟩ := a8'.ofO h1
    unfold M.f0' at e2
    split at e2
    . split at e2
      . rename_i hb
        cases e2
        cases z1
        obtain ⟨b1, b2⟩ := ym' hb
        exact ⟨_, rfl, b1, b2, q2 _ _ _ _ e1 vO' r1⟩
      . cases e2
    . cases e2
theorem rn' {tg : Expr} (hg : Gl X "range") (hm : X.mg "range" = none) (ha : SE X W a ma) (hb : SE X W b mb) (hs : starEach [a, b] X.env = [(false, eval a X.env), (false, eval b X.env)] := by rfl) (hs2 : starEach [b] X.env = [(false, eval b X.env)] := by rfl) :
    SI X W tg (.Call (.Name "range" p) [a, b] [] pos) (M.h8' ma mb) :=
  PI.imp (pi_range2 hg hm (pa_cons ha (pa_cons hb pa_nil hs2) (hs.trans (by rw [hs2]))) hs hs2) fun σ H R ⟨ρ, F, T, fr, rel, q⟩ => by
    refine av' rel q fun dx ρ1 v H1 F1 T1 e1 z1 r1 h1 => ?_
    refine av' r1 h1 fun dy ρ2 u H2 F2 T2 e2 z2 r2 h2 => ?_
    obtain ⟨ds, e3, q2⟩ := a8'.ofO h2
    unfold M.fZ' at e3
    split at e3
    . split at e3
      . rename_i hb
        cases e3
        cases z1
        cases z2
        obtain ⟨b1, b2⟩ := ym' hb.1
        obtain ⟨b3, b4⟩ := ym' hb.2
        exact ⟨_, _, rfl, ⟨b1, b2, b3, b4⟩, q2 _ _ _ _ (e1.trans e2) vO' r2⟩
      . cases e3
    . cases e3
theorem mS' : ∀ (a b : List M.D), (M.dN' a b).length = min a.length b.length
  | [], _ => by simp [M.dN']
  | _ :: _, [] => by simp [M.dN']
  | x :: a, y :: b => by
    show (M.dN' a b).length + 1 = _
    rw [mS' a b]
    simp only [List.length_cons]
    omega
theorem mT' : ∀ (a b : List M.D) (i : Nat) (d : M.D), (M.dN' a b)[i]? = some d -> ∃ x y, a[i]? = some x /\ b[i]? = some y /\ d = .tup [x, y]
  | [], _, i, d, h => by simp [M.dN'] at h
  | _ :: _, [], i, d, h => by simp [M.dN'] at h
  | x :: a, y :: b, 0, d, h => ⟨x, y, rfl, rfl, (Option.some.inj h).symm⟩
  | x :: a, y :: b, i + 1, d, h => mT' a b i d h
theorem jG' {J : It} {as bs : List M.D} {F : Hp} {T : List Addr} (hs : ∀ F' T' H' fp i, Ext F T F' T' -> FpH F' H' fp -> i = min as.length bs.length -> J.stop i H')
    (hy : ∀ F' T' H' fp i dx dy, Ext F T F' T' -> FpH F' H' fp -> as[i]? = some dx -> bs[i]? = some dy -> J.go i H' /\ ∀ v H2, J.yld i H' v H2 -> ∃ p x y, v = .ref p /\ H' p = none /\ H2 = upd H' p (.tup [x, y]) /\ Fz K F' T' x dx /\ Fz K F' T' y dy) : mR' K J (M.dN' as bs) F T := fun F' T' H' fp i e f hi => by
  rw [mS'] at hi ⊢
  refine ⟨fun q => hs F' T' H' fp i e f q, fun d hd => ?_⟩
  obtain ⟨dx, dy, h1, h2, rfl⟩ := mT' _ _ _ _ hd
  obtain ⟨g, y⟩ := hy F' T' H' fp i dx dy e f h1 h2
  refine ⟨g, fun v H2 q => ?_⟩
  obtain ⟨p, x, y', rfl, hp, rfl, zx, zy⟩ := y v H2 q
  have s : Same F' (upd F' p (.tup [x, y'])) := dg' (f.free hp)
  exact ⟨_, s, .tup (SqT.of upd_same) (.cons (zx.mono (.of s)) (.cons (zy.mono (.of s)) .nil)), f.new hp⟩
theorem xu' {s t : M.Tx} {F : Hp} {T : List Addr} (o : okT s) (o2 : okT t) : mR' K (ItP (chS (sx s)) (chS (sx t)) (min (sx s).cps.size (sx t).cps.size)) (M.dN' (s.map M.chD) (t.map M.chD)) F T := by
  have e1 : (sx s).cps.size = s.length := cI' s
  have e2 : (sx t).cps.size = t.length := cI' t
  refine jG' (fun F' T' H' fp i e f hi => ?_) fun F' T' H' fp i dx dy e f h1 h2 => ?_
  . rw [List.length_map, List.length_map] at hi
    show i = min (sx s).cps.size (sx t).cps.size
    omega
  . rw [List.getElem?_map] at h1 h2
    cases q1 : s[i]? with
    | none => rw [q1] at h1; cases h1
    | some c =>
      cases q2 : t[i]? with
      | none => rw [q2] at h2; cases h2
      | some d =>
        rw [q1] at h1
        rw [q2] at h2
        cases h1
        cases h2
        have l1 := (List.getElem?_eq_some_iff.mp q1).1
        have l2 := (List.getElem?_eq_some_iff.mp q2).1
        refine ⟨by show i < min (sx s).cps.size (sx t).cps.size; omega, fun v H2 y => ?_⟩
        obtain ⟨p, x, y', rfl, hp, rfl, c1, c2⟩ := y
        unfold chS at c1 c2
        rw [gn', q1] at c1
        rw [gn', q2] at c2
        cases c1
        cases c2
        exact ⟨p, _, _, rfl, hp, rfl, sE' (o.1 c (List.mem_of_getElem? q1)), sE' (o2.1 d (List.mem_of_getElem? q2))⟩
theorem xv' {a b : Addr} {vs ws : List V} {ds es : List M.D} {F : Hp} {T : List Addr} (ha : F a = some (.lst vs)) (z : FzA K F T vs ds) (hb : F b = some (.lst ws)) (z2 : FzA K F T ws es) : mR' K (Itz K a b) (M.dN' ds es) F T := by
  refine jG' (fun F' T' H' fp i e f hi => ?_) fun F' T' H' fp i dx dy e f h1 h2 => ?_
  . exact ⟨vs, ws, SqL.of (f.low _ _ (e.f.lst ha)), SqL.of (f.low _ _ (e.f.lst hb)), by rw [z.length, z2.length]; omega⟩
  . obtain ⟨x, x1, x2⟩ := z.get h1
    obtain ⟨y, y1, y2⟩ := z2.get h2
    have a1 : SqL K H' a vs := SqL.of (f.low _ _ (e.f.lst ha))
    have b1 : SqL K H' b ws := SqL.of (f.low _ _ (e.f.lst hb))
    refine ⟨⟨vs, ws, x, y, a1, b1, x1, y1⟩, fun v H2 q => ?_⟩
    obtain ⟨p, x', y', rfl, hp, rfl, q1, q2⟩ := q
    have := q1 vs a1
    rw [x1] at this
    cases this
    have := q2 ws b1
    rw [y1] at this
    cases this
    exact ⟨p, _, _, rfl, hp, rfl, x2.mono e, y2.mono e⟩
theorem su' {a b : Addr} {vs ws : List V} {ds es : List M.D} {F : Hp} {T : List Addr} (ha : SqT K F a vs) (z : FzA K F T vs ds) (hb : SqT K F b ws) (z2 : FzA K F T ws es) : mR' K (RZ.ItzT K a b) (M.dN' ds es) F T := by
  refine jG' (fun F' T' H' fp i e f hi => ?_) fun F' T' H' fp i dx dy e f h1 h2 => ?_
  . exact ⟨vs, ws, seqT f.low (e.f.seqT ha), seqT f.low (e.f.seqT hb), by rw [z.length, z2.length]; omega⟩
  . obtain ⟨x, x1, x2⟩ := z.get h1
    obtain ⟨y, y1, y2⟩ := z2.get h2
    have a1 : SqT K H' a vs := seqT f.low (e.f.seqT ha)
    have b1 : SqT K H' b ws := seqT f.low (e.f.seqT hb)
    refine ⟨⟨vs, ws, x, y, a1, b1, x1, y1⟩, fun v H2 q => ?_⟩
    obtain ⟨p, x', y', rfl, hp, rfl, q1, q2⟩ := q
    have := q1 vs a1
    rw [x1] at this
    cases this
    have := q2 ws b1
    rw [y1] at this
    cases this
    exact ⟨p, _, _, rfl, hp, rfl, x2.mono e, y2.mono e⟩
theorem zm' {elts : List Expr} {kk : Nat} {tpos : Pos} (hg : Gl X "zip") (hm : X.mg "zip" = none) (ha : SE X W a ma) (hb : SE X W b mb)
    (hs : starEach [a, b] X.env = (false, eval a X.env) :: starEach [b] X.env := by rfl) (hs2 : starEach [b] X.env = (false, eval b X.env) :: starEach [] X.env := by rfl) (hpl : (backTo pos (starEach [b] X.env)).any (·.1) = false := by rfl) :
    SI X W (.Tuple elts kk tpos) (.Call (.Name "zip" p) [a, b] [] pos) (M.Aq' ma mb) :=
  PI.imp (wZ' hg hm (pa_cons ha (pa_cons hb pa_nil hs2) hs) hs hpl) fun σ H R ⟨ρ, F, T, fr, rel, q⟩ => by
    -- the kind of both is known ahead
    have fin : ∀ (isS : Bool), (∀ x ρ1, ma ρ = .ok x ρ1 -> ∀ y ρ2, mb ρ1 = .ok y ρ2 -> (isS = true ↔ ∃ s, x = .str s)) -> An' X.K (tCons (qE X.K W ma) (tCons (qE X.K W mb) tNil)) σ H R := by
      intro isS hS
      have q1 := a8'.bind q
      have body : ∀ (G : List V -> Hp -> Prop), (∀ x y u v H2 F2 T2 ds ρ2, Ext F T F2 T2 -> Fz X.K F2 T2 u x -> Fz X.K F2 T2 v y -> M.ta' x y = some ds -> Rel X.K ρ2 σ H2 F2 T2 fr -> (isS = true ↔ ∃ s, x = .str s) →
          (∀ J H' F' T', Ext F T F' T' -> mR' X.K J ds F' T' -> Rel X.K ρ2 σ H' F' T' fr -> R J H') -> G [u, v] H2) -> tCons (qE X.K W ma) (tCons (qE X.K W mb) tNil) σ H G := by
        intro G hG
        refine ⟨ρ, F, T, fr, rel, ?_⟩
        cases em : ma ρ with
        | bad => rw [em] at q1; exact q1.elim
        | exc x ρ1 => rw [em] at q1; exact q1
        | ok x ρ1 =>
          rw [em] at q1
          have q2 := a8'.bind (show a8' ((mb ρ1).bind _) _ _ from q1)
          intro u H1 F1 T1 e1 z1 r1
          refine ⟨ρ1, F1, T1, fr, r1, ?_⟩
          cases en : mb ρ1 with
          | bad => rw [en] at q2; exact q2.elim
          | exc y ρ2 => rw [en] at q2; exact EX.mono (show EX X.K W σ F T fr y ρ2 from q2) e1
          | ok y ρ2 =>
            rw [en] at q2
            obtain ⟨ds, e3, q3⟩ := a8'.ofO (show a8' (M.ofO _ _) _ _ from q2)
            intro v H2 F2 T2 e2 z2 r2
            exact hG x y u v H2 F2 T2 ds ρ2 (e1.trans e2) (z1.mono e2) z2 e3 r2 (hS x ρ1 em y ρ2 en) q3
      cases isS with
      | true =>
        refine .inl (body _ fun x y u v H2 F2 T2 ds ρ2 e z1 z2 hz r2 hk q3 => ?_)
        obtain ⟨s, rfl⟩ := hk.mp rfl
        cases y <;> try (cases hz; done)
        obtain ⟨rfl, o1⟩ := z1.str_inv
        obtain ⟨rfl, o2⟩ := z2.str_inv
        cases hz
        exact ⟨_, _, rfl, q3 _ _ _ _ e (xu' o1 o2) r2⟩
      | false =>
        refine .inr (body _ fun x y u v H2 F2 T2 ds ρ2 e z1 z2 hz r2 hk q3 => ?_)
        obtain ⟨fp, f, _⟩ := r2.fp
        cases x <;> cases y <;> try (cases hz; done)
        . exact absurd (hk.mpr ⟨_, rfl⟩) Bool.false_ne_true
        . obtain ⟨a1, vs, rfl, ha, za⟩ := z1.tup_inv
          obtain ⟨b1, ws, rfl, hb, zb⟩ := z2.tup_inv
          cases hz
          exact ⟨a1, b1, vs, ws, rfl, .inr ⟨seqT f.low ha, seqT f.low hb, q3 _ _ _ _ e (su' ha za hb zb) r2⟩⟩
        . obtain ⟨a1, vs, rfl, ha, za⟩ := z1.lst_inv
          obtain ⟨b1, ws, rfl, hb, zb⟩ := z2.lst_inv
          cases hz
          exact ⟨a1, b1, vs, ws, rfl, .inl ⟨SqL.of (f.low _ _ ha), SqL.of (f.low _ _ hb), q3 _ _ _ _ e (xv' ha za hb zb) r2⟩⟩
    cases em : ma ρ with
    | ok x ρ1 =>
      by_cases hx : ∃ s, x = .str s
      . exact fin true fun x' ρ1' e y ρ2 _ => by rw [em] at e; cases e; exact ⟨fun _ => hx, fun _ => rfl⟩
      . exact fin false fun x' ρ1' e y ρ2 _ => by rw [em] at e; cases e; exact ⟨fun z => (nomatch z), fun z => absurd z hx⟩
    | exc x ρ1 => exact fin true fun x' ρ1' e => by rw [em] at e; cases e
    | bad => exact fin true fun x' ρ1' e => by rw [em] at e; cases e
end
end S
namespace S
open PySem PySem.Spec PyProof.Rows L2
variable [Wd] [Hot]
section
variable {K : PySem.W.Frag} {F F' H H' : Hp} {T T' : List Addr} {fp fq fr : Fp} {ρ : M.PSt} {σ : St} {W : WX}
theorem g4' {i : Nat} {x : Option V} : ∀ (is : List Nat) (σ : St), (wipe (σ.set i x) is).set i none = (wipe σ is).set i none
  | [], σ => by show (σ.set i x).set i none = σ.set i none; rw [List.set_set]
  | k :: is, σ => by
    show ((wipe (σ.set i x) is).set k none).set i none = ((wipe σ is).set k none).set i none
    by_cases h : k = i
    . subst h
      rw [List.set_set, List.set_set, g4' is σ]
    . rw [List.set_comm _ _ h, g4' is σ, List.set_comm _ _ h]
theorem FzA.cons_inv {vs : List V} {d : M.D} {ds : List M.D} (h : FzA K F T vs (d :: ds)) : ∃ v r, vs = v :: r /\ Fz K F T v d /\ FzA K F T r ds := by
  cases h with
  | cons a b => exact ⟨_, _, rfl, a, b⟩
theorem RpA.of_fz : ∀ {vs : List V} {ds : List M.D}, FzA K F T vs ds -> RpA K F T vs (ds.map .fz) []
  | _, _, .nil => .nil
  | _, _, .cons z r => RpA.cons (fp := []) (fq := []) (.fz z) (RpA.of_fz r)
def qG (K : PySem.W.Frag) (sl : List Nat) (m : M.MG) : TG := fun v σ H Q => ∃ ρ F T fr d ρ', Rel K ρ σ H F T fr /\ Fz K F T v d /\ m d ρ = some ρ' /\ ∀ σ', wipe σ' sl = wipe σ sl -> Rel K ρ' σ' H F T fr -> Q σ' H
def qGs (K : PySem.W.Frag) (is : List Nat) : TGs := fun vs σ H Q => ∃ ρ F T fr ds ρ', Rel K ρ σ H F T fr /\ FzA K F T vs ds /\ M.gNs is ds ρ = some ρ' /\ ∀ σ', wipe σ' is = wipe σ is -> Rel K ρ' σ' H F T fr -> Q σ' H
abbrev SG (X : Cx) (tg : Expr) (sl : List Nat) (m : M.MG) : Prop := PG X tg (qG X.K sl m)
abbrev SGs (X : Cx) (ts : List Expr) (is : List Nat) : Prop := PGs X ts (qGs X.K is)
theorem PG.imp {X : Cx} {tg : Expr} {t t' : TG} (h : PG X tg t) (i : ∀ v σ H Q, t' v σ H Q -> t v σ H Q) : PG X tg t' := ⟨fun pins s σ H v u Q I r q => h.run pins s σ H v u Q I r (i v σ H Q q)⟩
theorem PGs.imp {X : Cx} {tg : List Expr} {t t' : TGs} (h : PGs X tg t) (i : ∀ v σ H Q, t' v σ H Q -> t v σ H Q) : PGs X tg t' := ⟨fun pins s σ H v u Q I r q => h.run pins s σ H v u Q I r (i v σ H Q q)⟩
theorem Rel.put (rel : Rel K ρ σ H F T fr) {i : Nat} (hi : i < ρ.env.length) {v : V} {o : M.O} {f2 fr' : Fp} (q : Rp K F T v o f2) (p : Part (f2 ++ fr') fr) : Rel K ⟨ρ.env.set i (some o), ρ.w⟩ (σ.set i (some v)) H F T fr' := by
  obtain ⟨fe, fw, re, rw, f⟩ := rel
  obtain ⟨fq, h1, h2⟩ := re.put hi q
  refine ⟨fq, fw, h1, rw, f.part ?_⟩
  have p1 : Part (fq ++ (fw ++ fr')) ((fe ++ f2) ++ (fw ++ fr')) := .app h2 .refl
  refine p1.trans ?_
  refine Part.trans (b := fe ++ (fw ++ (f2 ++ fr'))) ?_ (.app .refl (.app .refl p))
  constructor
  . intro e h
    simp only [List.mem_append] at *
    grind
  . intro x
    simp only [keys, List.map_append, List.count_append] at *
    omega
theorem Part.nilL {a : Fp} : Part ([] ++ a) a := ⟨fun _ h => h, fun _ => Nat.le_refl _⟩
theorem cz' {X : Cx} {pos : Pos} {x : Str} (i : Nat) (hN : X.N.Nodup) (hi : X.N[i]? = some x) (hx : Loc X.env.scope x) (hf : X.fn x = true \/ X.env.scope.names.lookup x = some .local) : SG X (.Name x pos) [i] (M.gN i) :=
  PG.imp (pg_name hN hi hx hf) fun v σ H Q ⟨ρ, F, T, fr, d, ρ', rel, z, e, q⟩ => by
    unfold M.gN at e
    split at e
    . rename_i hl
      cases e
      refine q _ ?_ (rel.put hl (.fz z) .nilL)
      show (σ.set i (some v)).set i none = σ.set i none
      rw [List.set_set]
    . cases e
theorem lR' {X : Cx} : SGs X [] [] := PGs.imp pgs_nil fun vs σ H Q ⟨ρ, F, T, fr, ds, ρ', rel, z, e, q⟩ => by
  cases ds with
  | nil =>
    cases z
    cases e
    exact ⟨rfl, q _ rfl rel⟩
  | cons d ds => cases e
theorem eu' {X : Cx} {e : Expr} {es : List Expr} {i : Nat} {is : List Nat} (hs : (assignEach (e :: es) X.env).map (·.2) = assign e X.env :: (assignEach es X.env).map (·.2)) (h1 : SG X e [i] (M.gN i)) (h2 : SGs X es is) : SGs X (e :: es) (i :: is) :=
  PGs.imp (pgs_cons h1 h2 hs) fun vs σ H Q ⟨ρ, F, T, fr, ds, ρ', rel, z, e, q⟩ => by
    cases ds with
    | nil => cases e
    | cons d ds =>
      obtain ⟨v, r, rfl, z, zs⟩ := z.cons_inv
      . cases e1 : M.gN i d ρ with
        | none => simp only [M.gNs, e1] at e; cases e
        | some ρ1 =>
          simp only [M.gNs, e1, Option.bind_some] at e
          refine ⟨v, r, rfl, ρ, F, T, fr, d, ρ1, rel, z, e1, fun σ1 w1 r1 => ⟨ρ1, F, T, fr, ds, ρ', r1, zs, e, fun σ2 w2 r2 => q σ2 ?_ r2⟩⟩
          show (wipe σ2 is).set i none = (wipe σ is).set i none
          rw [w2]
          have w1' : σ1.set i none = σ.set i none := w1
          rw [<- g4' (x := none) is σ1, w1', g4' is σ]
theorem Co' {X : Cx} {es : List Expr} {k} {pos : Pos} {n : Nat} {is : List Nat} (hc : X.calm = true) (hn : (assignEach es X.env).length = n) (hst : (assignEach es X.env).findIdx? (·.1) = none) (hl : is.length = n) (h : SGs X es is) : SG X (.Tuple es k pos) is (M.gT is) :=
  PG.imp (pg_tup hc h hn hst) fun v σ H Q ⟨ρ, F, T, fr, d, ρ', rel, z, e, q⟩ => by
    cases d with
    | tup ds =>
      obtain ⟨a, vs, rfl, ha, za⟩ := z.tup_inv
      obtain ⟨fp, f, _⟩ := rel.fp
      refine ⟨a, vs, rfl, seqT f.low ha, ?_, ρ, F, T, fr, ds, ρ', rel, za, e, q⟩
      rw [za.length, <- hl]
      have : ∀ (is : List Nat) (ds : List M.D) (ρ ρ' : M.PSt), M.gNs is ds ρ = some ρ' -> ds.length = is.length := by
        intro is
        induction is with
        | nil => intro ds ρ ρ' h; cases ds with | nil => rfl | cons d ds => cases h
        | cons i is ih =>
          intro ds ρ ρ' h
          cases ds with
          | nil => cases h
          | cons d ds =>
            cases e1 : M.gN i d ρ with
            | none => simp only [M.gNs, e1] at h; cases h
            | some ρ1 =>
              simp only [M.gNs, e1, Option.bind_some] at h
              exact congrArg (· + 1) (ih ds ρ1 ρ' h)
      exact this is ds ρ ρ' e
    | _ => cases e
theorem RpE.wiped {env : List (Option M.O)} (r : RpE K F T σ env fp) : ∀ is : List Nat, ∃ fq, RpE K F T (wipe σ is) (M.az' is env) fq /\ Part fq fp
  | [] => ⟨fp, r, .refl⟩
  | i :: is => by
    obtain ⟨fq, h1, h2⟩ := r.wiped is
    obtain ⟨fq2, h3, h4⟩ := h1.drop i none
    exact ⟨fq2, h3, h4.trans h2⟩
theorem g5' {σ : St} : ∀ {is : List Nat} {j : Nat}, j ∉ is -> (wipe σ is)[j]? = σ[j]?
  | [], _, _ => rfl
  | i :: is, j, h => by
    have h' : j ≠ i /\ j ∉ is := by simpa using h
    show ((wipe σ is).set i none)[j]? = _
    rw [List.getElem?_set_ne (Ne.symm h'.1), g5' h'.2]
theorem lF' {σ : St} : ∀ {is : List Nat} {j : Nat}, j ∈ is -> j < σ.length -> (wipe σ is)[j]? = some none
  | i :: is, j, h, hl => by
    show ((wipe σ is).set i none)[j]? = _
    by_cases e : i = j
    . subst e
      rw [List.getElem?_set_self (by rw [wipe_length]; exact hl)]
    . rw [List.getElem?_set_ne e]
      refine lF' ?_ hl
      rcases List.mem_cons.mp h with h | h
      . exact absurd h.symm e
      . exact h
theorem jZ' {σ : St} (is : List Nat) : wipe (wipe σ is) is = wipe σ is := by
  refine List.ext_getElem? fun j => ?_
  by_cases h : j ∈ is
  . by_cases hl : j < σ.length
    . rw [lF' h hl, lF' h (by rw [wipe_length]; exact hl)]
    . rw [List.getElem?_eq_none (by rw [wipe_length, wipe_length]; omega), List.getElem?_eq_none (by rw [wipe_length]; omega)]
  . rw [g5' h]
theorem fM' {env : List (Option M.O)} : ∀ {is : List Nat} {j : Nat} {o : M.O}, (M.az' is env)[j]? = some (some o) -> j ∉ is
  | [], _, _, _ => by simp
  | i :: is, j, o, h => by
    have h : ((M.az' is env).set i none)[j]? = some (some o) := h
    by_cases hj : i = j
    . subst hj
      by_cases hl : i < (M.az' is env).length
      . rw [List.getElem?_set_self hl] at h; cases h
      . rw [List.getElem?_eq_none (by simpa using hl)] at h; cases h
    . rw [List.getElem?_set_ne hj] at h
      have := fM' h
      simp only [List.mem_cons, not_or]
      exact ⟨Ne.symm hj, this⟩
theorem RpE.other {env : List (Option M.O)} {σ' : St} (r : RpE K F T σ env fp) (hl : σ'.length = σ.length) (h : ∀ (j : Nat) (o : M.O), env[j]? = some (some o) -> σ'[j]? = σ[j]?) : RpE K F T σ' env fp := by
  induction r generalizing σ' with
  | nil =>
    cases σ' with
    | nil => exact .nil
    | cons _ _ => cases hl
  | off r ih =>
    cases σ' with
    | nil => cases hl
    | cons y σ' => exact .off (ih (Nat.succ.inj hl) fun j o e => h (j + 1) o e)
  | on q r ih =>
    cases σ' with
    | nil => cases hl
    | cons y σ' =>
      have e : y = _ := Option.some.inj (h 0 _ rfl)
      subst e
      exact .on q (ih (Nat.succ.inj hl) fun j o e => h (j + 1) o e)
  | hot hh z r ih =>
    cases σ' with
    | nil => cases hl
    | cons y σ' =>
      have e : y = _ := Option.some.inj (h 0 _ rfl)
      subst e
      exact .hot hh z (ih (Nat.succ.inj hl) fun j o e => h (j + 1) o e)
  | clo hh z r ih =>
    cases σ' with
    | nil => cases hl
    | cons y σ' =>
      have e : y = _ := Option.some.inj (h 0 _ rfl)
      subst e
      exact .clo hh z (ih (Nat.succ.inj hl) fun j o e => h (j + 1) o e)
theorem RpE.backed {env0 : List (Option M.O)} (h0 : ∀ (i : Nat) (d : M.D), env0[i]? = some (some (M.O.fz d)) -> ∃ v, σ[i]? = some (some v) /\ Fz K F T v d) : ∀ (is : List Nat) {env : List (Option M.O)} {fp : Fp}, RpE K F T σ env fp -> ∃ fq, RpE K F T σ (M.back env0 is env) fq /\ Part fq fp
  | [], env, fp, r => ⟨fp, r, .refl⟩
  | i :: is, env, fp, r => by
    obtain ⟨fq, h1, h2⟩ := RpE.backed h0 is r
    unfold M.back
    split
    . rename_i d e
      obtain ⟨v, hv, z⟩ := h0 i d e
      obtain ⟨f2, h3, h4⟩ := h1.put0 hv (.fz z)
      refine ⟨f2, h3, h4.trans ?_⟩
      rw [List.append_nil]
      exact h2
    . obtain ⟨f2, h3, h4⟩ := h1.drop0 i
      exact ⟨f2, h3, h4.trans h2⟩
theorem RpE.data {env : List (Option M.O)} (r : RpE K F T σ env fp) {i : Nat} {d : M.D} (h : env[i]? = some (some (.fz d))) : ∃ v, σ[i]? = some (some v) /\ Fz K F T v d := by
  obtain ⟨v, f1, f2, f3, h1, _, h3, _⟩ := r.get h
  cases h3 with
  | fz z => exact ⟨v, h1, z⟩
abbrev W0 : WX := fun _ _ _ _ => False
theorem a8'.noX {α : Type} {r : M.Res α} {P : α -> M.PSt -> Prop} {Y Y' : Wx} (h : a8' (M.noX r) P Y) : a8' r P Y' := by
  cases r with
  | ok a ρ => exact h
  | exc x ρ => exact h.elim
  | bad => exact h
def BA' (K : PySem.W.Frag) (sl : List Nat) (g : M.MG) (t : M.MT) (e : M.ME) (ds : List M.D) (σ : St) (D : Addr) (fr : Fp) (F1 : Hp) (T1 : List Addr) (P : List M.D -> M.PSt -> Prop) (Y : Wx) (i : Nat) (H : Hp) : Prop :=
  i <= ds.length /\ ∃ ρ' F' T' acc vacc, Ext F1 T1 F' T' /\ FzA K F' T' vacc acc /\ Rel K ⟨M.az' sl ρ'.env, ρ'.w⟩ (wipe σ sl) H F' T' ((D, .lst vacc) :: fr) /\ a8' (M.lcL sl g t e (ds.drop i) acc ρ') P Y
theorem Rel.wiped (r : Rel K ρ σ H F T fr) (is : List Nat) : Rel K ⟨M.az' is ρ.env, ρ.w⟩ (wipe σ is) H F T fr := by
  obtain ⟨fe, fw, re, rw, f⟩ := r
  obtain ⟨fq, h1, h2⟩ := re.wiped is
  exact ⟨fq, fw, h1, rw, f.part (.app h2 .refl)⟩
theorem Rel.own (r : Rel K ρ σ H F T fr) {p : Addr} {o : HO} (hp : H p = none) : Rel K ρ σ (upd H p o) F T ((p, o) :: fr) := by
  obtain ⟨fe, fw, re, rw, f⟩ := r
  refine ⟨fe, fw, re, rw, (f.own hp).part ?_⟩
  constructor
  . intro e h
    simp only [List.mem_append, List.mem_cons] at *
    grind
  . intro x
    simp only [keys, List.map_append, List.map_cons, List.count_append, List.count_cons] at *
    omega
theorem Rel.at_ (r : Rel K ρ σ H F T fr) {e : Addr × HO} (h : e ∈ fr) : H e.1 = some e.2 := by
  obtain ⟨fe, fw, re, rw, f⟩ := r
  exact (f.at_ e (List.mem_append_right _ (List.mem_append_right _ h))).1
theorem Rel.write {p : Addr} {o o' : HO} (r : Rel K ρ σ H F T ((p, o) :: fr)) : Rel K ρ σ (upd H p o') F T ((p, o') :: fr) := by
  obtain ⟨fe, fw, re, rw, f⟩ := r
  have f' : FpH F H ((fe ++ fw) ++ ((p, o) :: fr)) := by rw [List.append_assoc]; exact f
  refine ⟨fe, fw, re, rw, ?_⟩
  have := f'.write (o' := o')
  rw [List.append_assoc] at this
  exact this
theorem sm' {sl : List Nat} {it : M.MI} {g : M.MG} {t : M.MT} {e : M.ME} {Q : VK} (h : qO K W (M.oLc sl it g t e) σ H Q) : tLc (qI K W it) (qG K sl g) (qT K W0 t) (qE K W0 e) sl σ H Q := by
  obtain ⟨ρ, F, T, fr, rel, h⟩ := h
  refine ⟨ρ, F, T, fr, rel, (a8'.bind h).mono (fun ds ρ1 h1 J H1 F1 T1 e1 io r1 => ?_) fun _ _ z => z⟩
  intro D hD
  have h2 := a8'.bind h1
  -- the loop's word
  refine ⟨fun i m H => m = ds.length - i /\ BA' K sl g t e ds σ D fr F1 T1 _ _ i H, ⟨ds.length, by simp, Nat.zero_le _, ρ1, F1, T1, [], [], .refl, .nil, (r1.wiped sl).own hD, h2⟩, ?_⟩
  rintro i m H2 ⟨rfl, hi, ρ2, F2, T2, acc, vacc, e2, za, r2, h3⟩
  have hH : H2 D = some (.lst vacc) := r2.at_ (e := (D, .lst vacc)) List.mem_cons_self
  obtain ⟨fp2, f2, _⟩ := r2.fp
  by_cases hl : i = ds.length
  . refine .inl ⟨(io F2 T2 H2 fp2 i e2 f2 hi).1 hl, ?_⟩
    rw [hl, List.drop_length] at h3
    have h4 : a8' (M.lcL sl g t e [] acc ρ2) _ _ := h3
    unfold M.lcL at h4
    have h5 := h4
    refine h5 (.ref D) H2 F2 T2 ((D, .lst vacc) :: []) (e1.trans e2) ?_ ?_
    . exact .lst (RpA.of_fz za)
    . obtain ⟨fe, fw, re, rw, f⟩ := r2
      have re1 : RpE K F2 T2 σ (M.az' sl ρ2.env) fe := by
        refine re.other ?_ fun j o hj => (g5' (fM' hj)).symm
        rw [wipe_length]
      obtain ⟨fe0, fw0, re0, rw0, f0⟩ := r1
      obtain ⟨fq, h6, h7⟩ := RpE.backed (env0 := ρ1.env) (fun i d hd => by
        obtain ⟨v, hv, z⟩ := re0.data hd
        exact ⟨v, hv, z.mono e2⟩) sl re1
      exact ⟨fq, fw, h6, rw, f.part (.app h7 .refl)⟩
  . have hlt : i < ds.length := by omega
    have hd : ds[i]? = some ds[i] := List.getElem?_eq_getElem hlt
    obtain ⟨go, yl⟩ := (io F2 T2 H2 fp2 i e2 f2 hi).2 _ hd
    refine .inr ⟨go, BA' K sl g t e ds σ D fr F1 T1 _ _ (i + 1), fun H' n => ⟨ds.length - (i + 1), by omega, rfl, n⟩, fun x H3 y => ?_⟩
    obtain ⟨fe, fw, re, rw, f⟩ := id r2
    obtain ⟨yg, yh⟩ := (io F2 T2 H2 _ i e2 f hi).2 _ hd
    obtain ⟨F3, s3, zx, f3⟩ := yh x H3 y
    have r3 : Rel K ⟨M.az' sl ρ2.env, ρ2.w⟩ (wipe σ sl) H3 F3 T2 ((D, .lst vacc) :: fr) := ⟨fe, fw, re.mono (.of s3), rw.mono (.of s3), f3⟩
    rw [List.drop_eq_getElem_cons hlt] at h3
    unfold M.lcL at h3
    cases eg : g ds[i] ⟨M.az' sl ρ2.env, ρ2.w⟩ with
    | none => rw [eg] at h3; exact h3.elim
    | some ρ3 =>
      rw [eg] at h3
      refine ⟨_, F3, T2, _, ds[i], ρ3, r3, zx, eg, fun σ4 w4 r4 => ?_⟩
      rw [jZ'] at w4
      refine ⟨w4, ?_⟩
      have h4 := a8'.bind h3
      refine ⟨ρ3, F3, T2, _, r4, (a8'.noX h4).mono (fun b ρ5 h5 H5 F5 T5 e5 r5 => ?_) fun _ _ z => z⟩
      cases b with
      | false =>
        rw [if_neg Bool.false_ne_true]
        refine ⟨hlt, ρ5, F5, T5, acc, vacc, e2.trans ((Ext.of s3).trans e5), (za.mono (.of s3)).mono e5, ?_, h5⟩
        rw [<- w4]
        exact r5.wiped sl
      | true =>
        rw [if_pos rfl] at h5 ⊢
        have h6 := a8'.bind h5
        refine ⟨ρ5, F5, T5, _, r5, (a8'.noX h6).mono (fun d ρ6 h7 y6 H6 F6 T6 e6 z6 r6 => ?_) fun _ _ z => z⟩
        split at h7
        . rename_i hacc
          have hH6 : H6 D = some (.lst vacc) := r6.at_ (e := (D, .lst vacc)) List.mem_cons_self
          refine ⟨vacc, hH6, by rw [bF', za.length]; exact hacc, hlt, ρ6, F6, T6, acc ++ [d], vacc ++ [y6], e2.trans ((Ext.of s3).trans (e5.trans e6)), (((za.mono (.of s3)).mono e5).mono e6).append (.cons z6 .nil), ?_, h7⟩
          rw [<- w4]
          exact (r6.wiped sl).write
        . exact h7.elim
end
section
variable {X : Cx} {W : WX} {pos : Pos} {elt tg iter : Expr} {ifs : List Expr} {scope : Scope} {own : List (Str × Nat)} {sl : List Nat} {it : M.MI} {g : M.MG} {t : M.MT} {e : M.ME}
theorem aT' {X : Cx} {W : WX} : PTs X [] (qT X.K W M.tT) := ⟨fun _ _ _ H Q I ⟨ρ, F, T, fr, rel, h⟩ => wpAny_tests_nil ⟨H, I, h _ _ _ .refl rel⟩⟩
theorem nY' {X : Cx} {W : WX} {c : Expr} {m : M.MT} (h : ST X W c m) : PTs X [c] (qT X.K W m) := pts_one h
theorem rj' (hc : X.calm = true) (hN : X.N.Nodup) (hi : SI X W tg iter it) (ok : BlkOk X.N X.env.scope scope own) (hsl : sl = own.map (·.2))
    (hg : ∀ (s : Shared) (H : Hp) (C : Addr) (cl : List (Str × Addr)) (fp : List Addr), SG (X.blk s H scope (compEnvC scope cl C X.env) fp) tg sl g) (ht : ∀ (s : Shared) (H : Hp) (C : Addr) (cl : List (Str × Addr)) (fp : List Addr), PTs (X.blk s H scope (compEnvC scope cl C X.env) fp) ifs (qT X.K W0 t))
    (he : ∀ (s : Shared) (H : Hp) (C : Addr) (cl : List (Str × Addr)) (fp : List Addr), SE (X.blk s H scope (compEnvC scope cl C X.env) fp) W0 elt e) (hs : ∀ x, foldedSetIterable iter X.env x = pure x := by intro _; rfl) :
    SO X W (.ListComp elt [⟨tg, iter, ifs, 0⟩] scope pos) (M.oLc sl it g t e) := by
  subst hsl
  exact PE.imp (pe_lc hc hN hi ok hg ht he hs) fun σ H Q h => sm' h
theorem zP' {K : PySem.W.Frag} {m : M.MO} {σ : St} {H : Hp} {Q : VK} (h : qE K W (M.eO m) σ H Q) : qO K W m σ H Q := by
  obtain ⟨ρ, F, T, fr, rel, h⟩ := h
  refine ⟨ρ, F, T, fr, rel, (a8'.bind h).mono (fun o ρ1 h1 v H1 F1 T1 fp e1 z1 r1 => ?_) fun _ _ z => z⟩
  obtain ⟨G, s, z, r⟩ := r1.frozen z1
  exact h1 v H1 G T1 (e1.trans (.of s)) z r
theorem bW' {a : Expr} {m : M.MO} (h : SO X W a m) : SE X W a (M.eO m) := PE.imp h fun σ H Q h => zP' h
theorem bd' {a : Expr} {m : M.ME} (h : SE X W a m) : SO X W a (M.oE m) := PE.imp h fun σ H Q ⟨ρ, F, T, fr, rel, h⟩ => av' rel h fun d ρ1 v H1 F1 T1 e1 z1 r1 h1 => h1 v H1 F1 T1 [] e1 (.fz z1) r1
theorem Ac' (xs : List M.D) : M.frz (.lst (xs.map .fz)) = .lst xs := by
  show M.D.lst (M.frzs _) = _
  rw [M.mh']
theorem dv' (hc : X.calm = true) (hN : X.N.Nodup) (hi : SI X W tg iter it) (ok : BlkOk X.N X.env.scope scope own) (hsl : sl = own.map (·.2))
    (hg : ∀ (s : Shared) (H : Hp) (C : Addr) (cl : List (Str × Addr)) (fp : List Addr), SG (X.blk s H scope (compEnvC scope cl C X.env) fp) tg sl g) (ht : ∀ (s : Shared) (H : Hp) (C : Addr) (cl : List (Str × Addr)) (fp : List Addr), PTs (X.blk s H scope (compEnvC scope cl C X.env) fp) ifs (qT X.K W0 t))
    (he : ∀ (s : Shared) (H : Hp) (C : Addr) (cl : List (Str × Addr)) (fp : List Addr), SE (X.blk s H scope (compEnvC scope cl C X.env) fp) W0 elt e) (hs : ∀ x, foldedSetIterable iter X.env x = pure x := by intro _; rfl) :
    SE X W (.ListComp elt [⟨tg, iter, ifs, 0⟩] scope pos) (M.eLc sl it g t e) := by
  have h := bW' (rj' (pos := pos) hc hN hi ok hsl hg ht he hs)
  have eq : M.eO (M.oLc sl it g t e) = M.eLc sl it g t e := by
    funext ρ
    show ((it ρ).bind fun xs ρ1 => _).bind _ = (it ρ).bind _
    cases it ρ with
    | bad => rfl
    | exc x ρ1 => rfl
    | ok xs ρ1 =>
      show ((M.lcL sl g t e xs [] ρ1).bind _).bind _ = (M.lcL sl g t e xs [] ρ1).bind _
      cases M.lcL sl g t e xs [] ρ1 with
      | bad => rfl
      | exc x ρ2 => rfl
      | ok ys ρ2 =>
        show M.Res.ok (M.frz (.lst (ys.map .fz))) _ = M.Res.ok (M.D.lst ys) _
        rw [Ac']
  rw [eq] at h
  exact h
end
end S
namespace S
open PySem PySem.Spec PyProof.Rows L2
variable [Wd] [Hot]
section
variable {K : PySem.W.Frag} {F F' H H' : Hp} {T T' : List Addr} {fp fq fr : Fp} {ρ : M.PSt} {σ : St} {W : WX} {D : Ends} {Q : VK}
theorem bP'.mono {r : M.Out} (h : bP' K W D F T fr r) (e : Ext F T F' T') : bP' K W D F' T' fr r := by
  cases r with
  | nx ρ => exact fun σ' H' F2 T2 e2 => h σ' H' F2 T2 (e.trans e2)
  | bk ρ => exact fun σ' H' F2 T2 e2 => h σ' H' F2 T2 (e.trans e2)
  | ct ρ => exact fun σ' H' F2 T2 e2 => h σ' H' F2 T2 (e.trans e2)
  | rt o w => exact fun v H' F2 T2 fp e2 => h v H' F2 T2 fp (e.trans e2)
  | exc x ρ => exact fun σ' cls dd H' F2 T2 e2 => h σ' cls dd H' F2 T2 (e.trans e2)
  | bad => exact h
theorem bP'.imp {r : M.Out} {D' : Ends} {W' : WX} (h : bP' K W D F T fr r) (h1 : ∀ σ H, D.nx σ H -> D'.nx σ H) (h2 : ∀ σ H, D.bk σ H -> D'.bk σ H) (h3 : ∀ σ H, D.ct σ H -> D'.ct σ H) (h4 : ∀ v H, D.rt v H -> D'.rt v H) (h5 : ∀ c d σ H, W c d σ H -> W' c d σ H) : bP' K W' D' F T fr r := by
  cases r with
  | nx ρ => exact fun σ' H' F2 T2 e2 r => h1 _ _ (h σ' H' F2 T2 e2 r)
  | bk ρ => exact fun σ' H' F2 T2 e2 r => h2 _ _ (h σ' H' F2 T2 e2 r)
  | ct ρ => exact fun σ' H' F2 T2 e2 r => h3 _ _ (h σ' H' F2 T2 e2 r)
  | rt o w => exact fun v H' F2 T2 fp e2 z r => h4 _ _ (h v H' F2 T2 fp e2 z r)
  | exc x ρ => exact fun σ' cls dd H' F2 T2 e2 z r => h5 _ _ _ _ (h σ' cls dd H' F2 T2 e2 z r)
  | bad => exact h
theorem fk' {α : Type} {r : M.Res α} {f : α -> M.PSt -> M.Out} (h : bP' K W D F T fr (r.out f)) : a8' r (fun a ρ' => bP' K W D F T fr (f a ρ')) (EX K W σ F T fr) := by
  cases r with
  | ok a ρ => exact h
  | exc x ρ => exact fun cls dd H' F' T' e z r => h σ cls dd H' F' T' e z r
  | bad => exact h
theorem dG' {m : M.ME} {k : M.D -> M.PSt -> M.Out} (rel : Rel K ρ σ H F T fr) (h : bP' K W D F T fr ((m ρ).out k))
    (q : ∀ d ρ1 v H1 F1 T1, Ext F T F1 T1 -> Fz K F1 T1 v d -> Rel K ρ1 σ H1 F1 T1 fr -> bP' K W D F1 T1 fr (k d ρ1) -> Q v H1) : qE K W m σ H Q :=
  ⟨ρ, F, T, fr, rel, (fk' h).mono (fun d ρ1 h1 v H1 F1 T1 e z r => q d ρ1 v H1 F1 T1 e z r (h1.mono e)) fun _ _ z => z⟩
theorem hM' {m : M.MO} {k : M.O -> M.PSt -> M.Out} (rel : Rel K ρ σ H F T fr) (h : bP' K W D F T fr ((m ρ).out k))
    (q : ∀ o ρ1 v H1 F1 T1 fp, Ext F T F1 T1 -> Rp K F1 T1 v o fp -> Rel K ρ1 σ H1 F1 T1 (fp ++ fr) -> bP' K W D F1 T1 fr (k o ρ1) -> Q v H1) : qO K W m σ H Q :=
  ⟨ρ, F, T, fr, rel, (fk' h).mono (fun d ρ1 h1 v H1 F1 T1 fp e z r => q d ρ1 v H1 F1 T1 fp e z r (h1.mono e)) fun _ _ z => z⟩
theorem ry' {m : M.MT} {k : Bool -> M.PSt -> M.Out} {Q : Bool -> Hp -> Prop} (rel : Rel K ρ σ H F T fr) (h : bP' K W D F T fr ((m ρ).out k))
    (q : ∀ b ρ1 H1 F1 T1, Ext F T F1 T1 -> Rel K ρ1 σ H1 F1 T1 fr -> bP' K W D F1 T1 fr (k b ρ1) -> Q b H1) : qT K W m σ H Q :=
  ⟨ρ, F, T, fr, rel, (fk' h).mono (fun d ρ1 h1 H1 F1 T1 e r => q d ρ1 H1 F1 T1 e r (h1.mono e)) fun _ _ z => z⟩
theorem wS' {m : M.MI} {k : List M.D -> M.PSt -> M.Out} {R : It -> Hp -> Prop} (rel : Rel K ρ σ H F T fr) (h : bP' K W D F T fr ((m ρ).out k))
    (q : ∀ ds ρ1 J H1 F1 T1, Ext F T F1 T1 -> mR' K J ds F1 T1 -> Rel K ρ1 σ H1 F1 T1 fr -> bP' K W D F1 T1 fr (k ds ρ1) -> R J H1) : qI K W m σ H R :=
  ⟨ρ, F, T, fr, rel, (fk' h).mono (fun d ρ1 h1 J H1 F1 T1 e z r => q d ρ1 J H1 F1 T1 e z r (h1.mono e)) fun _ _ z => z⟩
theorem Rel.noenv (r : Rel K ρ σ H F T fr) : ti' K (ρ.w) H F T fr := by
  obtain ⟨fe, fw, re, rw, f⟩ := r
  exact ⟨[], fw, xk', rw, f.part (.app .nil .refl)⟩
end
section
variable {X : Cx} {W : WX} {pos : Pos} {a b c : Expr} {st : Stmt} {rest body : List Stmt} {ma mb : M.ME} {mo : M.MO} {mt : M.MT} {m1 m2 : M.MS} {D : Ends} {σ : St} {H : Hp}
theorem aI' : SSs X W [] M.bf' := PSs.imp pss_nil fun D σ H ⟨ρ, F, T, fr, rel, h⟩ => h σ H F T .refl rel
theorem ae' (h : SS X W st m1) : SSs X W [st] m1 := pss_one h
theorem ab' (h1 : SS X W st m1) (h2 : SSs X W rest m2) : SSs X W (st :: rest) (M.aA' m1 m2) := PSs.imp (pss_cons h1 h2) fun D σ H ⟨ρ, F, T, fr, rel, h⟩ => by
  refine ⟨ρ, F, T, fr, rel, ?_⟩
  unfold M.aA' at h
  cases e : m1 ρ with
  | nx ρ1 => rw [e] at h; exact fun σ1 H1 F1 T1 e1 r1 => ⟨ρ1, F1, T1, fr, r1, bP'.mono h e1⟩
  | bk ρ1 => rw [e] at h; exact h
  | ct ρ1 => rw [e] at h; exact h
  | rt o w => rw [e] at h; exact h
  | exc x ρ1 => rw [e] at h; exact h
  | bad => rw [e] at h; exact h
theorem fR' (ha : SE X W a ma) (hs : swapsWith a none pos.line X.env = pure false := by rfl) : SS X W (.Expr a pos) (M.iA' ma) := PS.imp (ps_expr ha hs) fun D σ H ⟨ρ, F, T, fr, rel, h⟩ =>
  dG' rel h fun d ρ1 v H1 F1 T1 e1 z1 r1 h1 => h1 σ H1 F1 T1 .refl r1
theorem al' (ha : SO X W a mo) : SS X W (.Return (some a) pos) (M.bX' mo) := PS.imp (ps_ret ha) fun D σ H ⟨ρ, F, T, fr, rel, h⟩ =>
  hM' rel h fun o ρ1 v H1 F1 T1 fp e1 z1 r1 h1 => h1 v H1 F1 T1 fp .refl z1 r1.noenv
theorem bn' (hc : ST X W c mt) (ha : SSs X W rest m1) (hb : SSs X W body m2) : SS X W (.If c rest body pos) (M.sIf mt m1 m2) := PS.imp (ps_if hc ha hb) fun D σ H ⟨ρ, F, T, fr, rel, h⟩ => by
  refine ry' rel h fun k ρ1 H1 F1 T1 e1 r1 h1 => ?_
  cases k with
  | true => rw [if_pos rfl] at h1 ⊢; exact ⟨ρ1, F1, T1, fr, r1, h1⟩
  | false => rw [if_neg Bool.false_ne_true] at h1 ⊢; exact ⟨ρ1, F1, T1, fr, r1, h1⟩
theorem aj' {i : Nat} {x : Str} {pos' : Pos} (hN : X.N.Nodup) (hi : X.N[i]? = some x) (hx : Loc X.env.scope x) (ha : SO X W a mo) (hs : swapsWith a (some (.Name x pos')) pos.line X.env = pure false := by rfl) (hf : X.fn x = true \/ X.env.scope.names.lookup x = some .local := by first | exact .inl rfl | exact .inr rfl | assumption) :
    SS X W (.Assign [.Name x pos'] a pos) (M.bM' i mo) := PS.imp (ps_set hN hi hx ha hs hf) fun D σ H ⟨ρ, F, T, fr, rel, h⟩ => by
  refine hM' rel h fun o ρ1 v H1 F1 T1 fp e1 z1 r1 h1 => ?_
  unfold M.wJ' at h1
  split at h1
  . rename_i hl
    exact h1 _ H1 F1 T1 .refl (r1.put hl z1 .refl)
  . exact h1.elim
theorem tA' {i : Nat} {y : Str} {py : Pos} {elt tg iter : Expr} {ifs : List Expr} {scope : Scope} {own : List (Str × Nat)} {spos : Pos} {sl : List Nat} {it : M.MI} {g : M.MG} {t : M.MT} {e : M.ME} (hc : X.calm = true) (hN : X.N.Nodup) (hy : X.N[i]? = some y) (hyl : X.env.scope.names.lookup y = some .local)
    (hsw : swapsWith (.ListComp elt [⟨tg, iter, ifs, 0⟩] scope pos) (some (.Name y py)) spos.line X.env = pure true) (hi : SI X W tg iter it) (ok : BlkOk X.N X.env.scope scope own) (hsl : sl = own.map (·.2))
    (hg : ∀ (s : Shared) (H : Hp) (C : Addr) (cl : List (Str × Addr)) (fp : List Addr), SG (X.blk s H scope (compEnvC scope cl C X.env) fp) tg sl g) (ht : ∀ (s : Shared) (H : Hp) (C : Addr) (cl : List (Str × Addr)) (fp : List Addr), PTs (X.blk s H scope (compEnvC scope cl C X.env) fp) ifs (qT X.K W0 t))
    (he : ∀ (s : Shared) (H : Hp) (C : Addr) (cl : List (Str × Addr)) (fp : List Addr), SE (X.blk s H scope (compEnvC scope cl C X.env) fp) W0 elt e) (hs : ∀ x, foldedSetIterable iter X.env x = pure x := by intro _; rfl) :
    SS X W (.Assign [.Name y py] (.ListComp elt [⟨tg, iter, ifs, 0⟩] scope pos) spos) (M.bM' i (M.oLc sl it g t e)) := by
  subst hsl
  refine PS.imp (ps_setLc (g := qG X.K (own.map (·.2)) g) (tt := qT X.K W0 t) (te := qE X.K W0 e) hc hN hy hyl hsw hi ok hg ht he hs) fun D σ H ⟨ρ, F, T, fr, rel, h⟩ => ?_
  show tLc (qI X.K W it) (qG X.K (own.map (·.2)) g) (qT X.K W0 t) (qE X.K W0 e) (own.map (·.2)) σ H fun x H1 => gName i x σ H1 D.nx
  refine sm' (W := W) (hM' (D := D) rel h fun o ρ1 v H1 F1 T1 fp e1 z1 r1 h1 => ?_)
  unfold M.wJ' at h1
  split at h1
  . rename_i hl
    exact h1 _ H1 F1 T1 .refl (r1.put hl z1 .refl)
  . exact h1.elim
theorem zh' {tg : Expr} {sl : List Nat} {g : M.MG} (ha : SE X W a ma) (hg : SG X tg sl g) (hs : swapsWithSole [tg] a pos.line X.env = pure false := by rfl) (hw : swappedStores [tg] a X.env = pure none := by rfl)
    (h1 : (assignEach [tg] X.env).map (·.2) = [assign tg X.env] := by rfl) : SS X W (.Assign [tg] a pos) (M.zw' g ma) := PS.imp (ps_asg ha hg hs hw h1) fun D σ H ⟨ρ, F, T, fr, rel, h⟩ => by
  refine dG' rel h fun d ρ1 v H1 F1 T1 e1 z1 r1 h1 => ?_
  cases e : g d ρ1 with
  | none => rw [e] at h1; exact h1.elim
  | some ρ2 =>
    rw [e] at h1
    exact ⟨ρ1, F1, T1, fr, d, ρ2, r1, z1, e, fun σ' _ r' => h1 σ' H1 F1 T1 .refl r'⟩
theorem zg' {i : Nat} {x : Str} {op : Operator} {f : M.D -> M.D -> Option M.D} {ti : TIp} {pos' : Pos} (hN : X.N.Nodup) (hi : X.N[i]? = some x) (hx : Loc X.env.scope x) (ha : SE X W a ma) (ho : PIp X op ti)
    (hf2 : ∀ {F H : Hp} {T : List Addr} {fp : Fp} {x y : V} {dx dy dz : M.D} {Q : VK}, FpH F H fp -> Fz X.K F T x dx -> Fz X.K F T y dy -> f dx dy = some dz -> fJ' X.K F T fp dz Q -> ti x y H Q)
    (hf : X.fn x = true \/ X.env.scope.names.lookup x = some .local := by first | exact .inl rfl | exact .inr rfl | assumption) :
    SS X W (.AugAssign (.Name x pos') op a pos) (M.yw' f i ma) := PS.imp (ps_aug hN hi hx ha ho hf) fun D σ H ⟨ρ, F, T, fr, rel, h⟩ => by
  unfold M.yw' at h
  split at h
  . rename_i d e
    obtain ⟨fe, fw, re, rw, ff⟩ := id rel
    obtain ⟨v, hv, zv⟩ := re.data e
    refine ⟨v, hv, dG' rel h fun d2 ρ1 u H1 F1 T1 e1 z1 r1 h1 => ?_⟩
    cases q : f d d2 with
    | none => rw [q] at h1; exact h1.elim
    | some z =>
      rw [q] at h1
      obtain ⟨fp, f1, back⟩ := r1.fp
      refine hf2 f1 (zv.mono e1) z1 q fun v2 H2 F2 s2 z2 f2 => ?_
      unfold M.wJ' at h1
      dsimp only at h1
      split at h1
      . rename_i hl
        exact h1 _ H2 F2 T1 (.of s2) ((back H2 F2 s2 f2).put hl (.fz z2) .nilL)
      . exact h1.elim
  . exact h.elim
theorem CI' {F H : Hp} {T : List Addr} {fp : Fp} {x y : V} {dx dy dz : M.D} {Q : VK} {K : PySem.W.Frag} (f : FpH F H fp) (hx : Fz K F T x dx) (hy : Fz K F T y dy) (h : M.t4' dx dy = some dz) (k : fJ' K F T fp dz Q) : ipI (fun i j => i + j) x y H Q := by
  cases dx <;> cases dy <;> try (cases h; done)
  cases hx; cases hy; cases h
  exact ⟨_, _, rfl, rfl, k.here f (.int _)⟩
theorem RpA.app {K : PySem.W.Frag} {F : Hp} {T : List Addr} : ∀ {vs ws : List V} {os ps : List M.O} {fp fq : Fp}, RpA K F T vs os fp -> RpA K F T ws ps fq -> RpA K F T (vs ++ ws) (os ++ ps) (fp ++ fq)
  | _, _, _, _, _, _, .nil, h => h
  | _, _, _, _, _, _, .cons a r, h => by
    rw [List.append_assoc]
    exact .cons a (RpA.app r h)
theorem RpA.length {K : PySem.W.Frag} {F : Hp} {T : List Addr} : ∀ {vs : List V} {os : List M.O} {fp : Fp}, RpA K F T vs os fp -> vs.length = os.length
  | _, _, _, .nil => rfl
  | _, _, _, .cons _ r => congrArg (· + 1) (RpA.length r)
theorem Rel.slotW {K : PySem.W.Frag} {ρ : M.PSt} {F : Hp} {T : List Addr} {fr : Fp} {i : Nat} {p : Addr} {os : List M.O} (rel : Rel K ρ σ H F T fr) (e : ρ.env[i]? = some (some (.lst os))) (hp : σ[i]? = some (some (.ref p))) :
    ∃ vs f2, H p = some (.lst vs) /\ RpA K F T vs os f2 /\ ∀ vs' os' f2' fr', RpA K F T vs' os' f2' -> Part (f2' ++ fr') (f2 ++ fr) -> Rel K ⟨ρ.env.set i (some (.lst os')), ρ.w⟩ σ (upd H p (.lst vs')) F T fr' := by
  obtain ⟨fe, fw, re, rw, f⟩ := rel
  obtain ⟨v, f1, f2, f3, h1, rfl, h3, h4, h5⟩ := re.get e
  rw [h1] at hp
  cases hp
  cases h3 with
  | lst r =>
    rename_i vs0 fp0
    refine ⟨vs0, fp0, (f.at_ (p, .lst vs0) (by simp)).1, r, fun vs' os' f2' fr' r' pt => ?_⟩
    have e5 := h5 F T (.ref p) (.lst os') ((p, .lst vs') :: f2') .refl (.lst r')
    rw [ev' h1] at e5
    refine ⟨_, fw, e5, rw, ?_⟩
    have fA : FpH F H (f1 ++ ((p, .lst vs0) :: (f3 ++ (fw ++ (fp0 ++ fr))))) := f.part (by
      constructor
      . intro e h
        simp only [List.mem_append, List.mem_cons] at *
        grind
      . intro x
        simp only [keys, List.map_append, List.map_cons, List.count_append, List.count_cons] at *
        omega)
    have fB := fA.write (o' := .lst vs')
    refine fB.part (.trans (b := f1 ++ ((p, .lst vs') :: (f3 ++ (fw ++ (f2' ++ fr'))))) ?_ ?_)
    . constructor
      . intro e h
        simp only [List.mem_append, List.mem_cons] at *
        grind
      . intro x
        simp only [keys, List.map_append, List.map_cons, List.count_append, List.count_cons] at *
        omega
    . have := pt.m
      have := pt.c
      constructor
      . intro e h
        simp only [List.mem_append, List.mem_cons] at *
        grind
      . intro x
        have := pt.c x
        simp only [keys, List.map_append, List.map_cons, List.count_append, List.count_cons] at *
        omega
theorem hB' {i : Nat} {x : Str} {px apos cpos : Pos} (hv : PE X (.Name x px) (tVar i)) (ha : SO X W a mo)
    (hbase : attributeBase (.Name x px) "append" X.env (eval (.Name x px) X.env) = eval (.Name x px) X.env := by rfl)
    (hfew : ((backTo cpos (starEach [a] X.env)).all (fun x => !x.1) && (backToKw cpos (keywordEach [] X.env)).all (fun x => x.1.isSome)
      && decide ([a].length + ([] : List Keyword).length + (if ([] : List Keyword).isEmpty then 0 else 1) < 30)) = true := by rfl)
    (hline : (apos.endLine == cpos.line) = true := by rfl) (hs : starEach [a] X.env = (false, eval a X.env) :: starEach [] X.env := by rfl) (hplain : (backTo cpos (starEach [] X.env)).any (·.1) = false := by rfl)
    (hsw : swapsWith (.Call (.Attribute (.Name x px) "append" apos) [a] [] cpos) none pos.line X.env = pure false := by rfl) :
    SS X W (.Expr (.Call (.Attribute (.Name x px) "append" apos) [a] [] cpos) pos) (M.pI' i mo) :=
  PS.imp (ps_expr (pe_bm PySem.F.plainAttrs_list PySem.F.slot_list_append PySem.F.type_list_append mt_append hv (pa_cons ha pa_nil hs) hbase hfew hline hs hplain) hsw) fun D σ H ⟨ρ, F, T, fr, rel, h⟩ => by
    unfold M.pI' at h
    split at h
    . rename_i os0 e0
      obtain ⟨fe, fw, re, rw, ff⟩ := id rel
      obtain ⟨v, f1, f2, f3, h1, _, h3, _⟩ := re.get e0
      cases h3 with
      | @lst p vs0 _ fp0 r0 =>
        obtain ⟨vs1, f21, hH, _, _⟩ := rel.slotW e0 h1
        refine ⟨.ref p, h1, .inl ⟨rfl, vs1, SqL.of hH⟩, hM' rel h fun o ρ1 u H1 F1 T1 fp e1 z1 r1 h2 => ?_⟩
        split at h2
        . rename_i os e2
          split at h2
          . rename_i hl
            obtain ⟨vs, f2', hH2, r2, back⟩ := r1.slotW e2 h1
            refine ⟨p, vs, u, rfl, rfl, hH2, by rw [r2.length, bF']; exact hl, ?_⟩
            have z1' : RpA X.K F1 T1 [u] [o] (fp ++ []) := .cons z1 .nil
            exact h2 σ _ F1 T1 .refl (back _ _ _ fr (r2.app z1') (by
              constructor
              . intro e h
                simp only [List.mem_append, List.not_mem_nil] at *
                grind
              . intro x
                simp only [keys, List.map_append, List.map_nil, List.count_append, List.count_nil] at *
                omega))
          . exact h2.elim
        . exact h2.elim
    . exact h.elim
theorem uq' {K : PySem.W.Frag} {sl : List Nat} {it : M.MI} {g : M.MG} {b : M.MS} (h : qS K W (M.gq' it g b) D σ H) : tFor (qI K W it) (qG K sl g) (qS K W b) D σ H := by
  obtain ⟨ρ, F, T, fr, rel, h⟩ := h
  refine wS' rel h fun ds ρ1 J H1 F1 T1 e1 io r1 h1 => ?_
  refine ⟨fun i m σ2 H2 => m = ds.length - i /\ i <= ds.length /\ ∃ ρ2 F2 T2, Ext F1 T1 F2 T2 /\ Rel K ρ2 σ2 H2 F2 T2 fr /\ bP' K W D F2 T2 fr (M.oD' g b (ds.drop i) ρ2), ⟨ds.length, by simp, Nat.zero_le _, ρ1, F1, T1, .refl, r1, h1⟩, ?_⟩
  rintro i m σ2 H2 ⟨rfl, hi, ρ2, F2, T2, e2, r2, h2⟩
  obtain ⟨fe, fw, re, rw, f2⟩ := id r2
  obtain ⟨st, yl⟩ := io F2 T2 H2 _ i e2 f2 hi
  by_cases hl : i = ds.length
  . refine .inl ⟨st hl, ?_⟩
    rw [hl, List.drop_length] at h2
    exact h2 σ2 H2 F2 T2 .refl r2
  . have hlt : i < ds.length := by omega
    obtain ⟨go, yh⟩ := yl ds[i] (List.getElem?_eq_getElem hlt)
    refine .inr ⟨go, fun σ3 H3 => ∃ ρ3 F3 T3, Ext F1 T1 F3 T3 /\ Rel K ρ3 σ3 H3 F3 T3 fr /\ bP' K W D F3 T3 fr (M.oD' g b (ds.drop (i + 1)) ρ3), fun σ3 H3 n => ⟨ds.length - (i + 1), by omega, rfl, hlt, n⟩, fun x H3 y => ?_⟩
    obtain ⟨F3, s3, zx, f3⟩ := yh x H3 y
    have r3 : Rel K ρ2 σ2 H3 F3 T2 fr := ⟨fe, fw, re.mono (.of s3), rw.mono (.of s3), f3⟩
    rw [List.drop_eq_getElem_cons hlt] at h2
    unfold M.oD' at h2
    cases eg : g ds[i] ρ2 with
    | none => rw [eg] at h2; exact h2.elim
    | some ρ4 =>
      rw [eg] at h2
      refine ⟨ρ2, F3, T2, fr, ds[i], ρ4, r3, zx, eg, fun σ4 _ r4 => ⟨ρ4, F3, T2, fr, r4, ?_⟩⟩
      have h3 := bP'.mono h2 (.of s3)
      have e3 : Ext F1 T1 F3 T2 := e2.trans (.of s3)
      dsimp only at h3
      cases eb : b ρ4 with
      | nx ρ5 => rw [eb] at h3; exact fun σ5 H5 F5 T5 e5 r5 => ⟨ρ5, F5, T5, e3.trans e5, r5, bP'.mono h3 e5⟩
      | ct ρ5 => rw [eb] at h3; exact fun σ5 H5 F5 T5 e5 r5 => ⟨ρ5, F5, T5, e3.trans e5, r5, bP'.mono h3 e5⟩
      | bk ρ5 => rw [eb] at h3; exact fun σ5 H5 F5 T5 e5 r5 => h3 σ5 H5 F5 T5 e5 r5
      | rt o w => rw [eb] at h3; exact h3
      | exc x ρ5 => rw [eb] at h3; exact h3
      | bad => rw [eb] at h3; exact h3
theorem b0' {tg iter : Expr} {sl : List Nat} {it : M.MI} {g : M.MG} (hp : PassesOwn (model X.prog X.w) X.A X.env X.xe) (hc : X.calm = true) (hi : SI X W tg iter it) (hg : SG X tg sl g) (hb : SSs X W body m1)
    (hs : ∀ x, foldedSetIterable iter X.env x = pure x := by intro _; rfl) : SS X W (.For tg iter body [] pos) (M.gq' it g m1) := PS.imp (ps_for hp hc hi hg hb hs) fun D σ H h => uq' h
theorem jm' (n : Nat) (hp : PassesOwn (model X.prog X.w) X.A X.env X.xe) (hc : ST X W c mt) (hb : SSs X W body m1) : SS X W (.While c body [] pos) (M.iX' n mt m1) := PS.imp (ps_while hp hc hb) fun D σ H ⟨ρ, F, T, fr, rel, h⟩ => by
  refine ⟨fun m σ2 H2 => ∃ ρ2 F2 T2, Ext F T F2 T2 /\ Rel X.K ρ2 σ2 H2 F2 T2 fr /\ bP' X.K W D F2 T2 fr (M.eH' mt m1 m ρ2), ⟨n, ρ, F, T, .refl, rel, h⟩, ?_⟩
  rintro m σ2 H2 ⟨ρ2, F2, T2, e2, r2, h2⟩
  cases m with
  | zero => exact h2.elim
  | succ m =>
    refine ry' r2 (show bP' X.K W D F2 T2 fr ((mt ρ2).out _) from h2) fun k ρ3 H3 F3 T3 e3 r3 h3 => ?_
    cases k with
    | false => rw [if_neg Bool.false_ne_true] at h3 ⊢; exact h3 σ2 H3 F3 T3 .refl r3
    | true =>
      rw [if_pos rfl] at h3 ⊢
      have e4 := e2.trans e3
      refine ⟨fun σ4 H4 => ∃ ρ4 F4 T4, Ext F T F4 T4 /\ Rel X.K ρ4 σ4 H4 F4 T4 fr /\ bP' X.K W D F4 T4 fr (M.eH' mt m1 m ρ4), fun σ' H' q => ⟨m, Nat.lt_succ_self m, q⟩, ρ3, F3, T3, fr, r3, ?_⟩
      cases eb : m1 ρ3 with
      | nx ρ5 => rw [eb] at h3; exact fun σ5 H5 F5 T5 e5 r5 => ⟨ρ5, F5, T5, e4.trans e5, r5, bP'.mono h3 e5⟩
      | ct ρ5 => rw [eb] at h3; exact fun σ5 H5 F5 T5 e5 r5 => ⟨ρ5, F5, T5, e4.trans e5, r5, bP'.mono h3 e5⟩
      | bk ρ5 => rw [eb] at h3; exact fun σ5 H5 F5 T5 e5 r5 => h3 σ5 H5 F5 T5 e5 r5
      | rt o w => rw [eb] at h3; exact h3
      | exc x ρ5 => rw [eb] at h3; exact h3
      | bad => rw [eb] at h3; exact h3
theorem dc' {e : Expr} {x : String} (hc : X.calm = true) (tk : Takes X W) (he : PMk X e (fun _ H Q => Q (.ref (He.ga X.K x)) none H)) : SS X W (.Raise (some e) none pos) (M.d6' x) := PS.imp (ps_raise hc tk he) fun D σ H ⟨ρ, F, T, fr, rel, h⟩ =>
  h σ _ _ H F T .refl ⟨rfl, .inl ⟨rfl, rfl⟩⟩ rel
def yt' (K : PySem.W.Frag) (Q : VK) (E : XK) (F : Hp) (T : List Addr) (fr : Fp) : M.FRes -> Prop
  | .ok o w' => ∀ v H' F' T' fp, Ext F T F' T' -> Rp K F' T' v o fp -> ti' K (w') H' F' T' (fp ++ fr) -> Q v H'
  | .exc x w' => ∀ cls dd H' F' T', Ext F T F' T' -> XcR K F' T' x cls dd -> ti' K (w') H' F' T' fr -> E cls dd H'
  | .bad => False
def spM (K : PySem.W.Frag) (m : M.MF) : Sp := fun vs H Q E => ∃ ds w F T fr, FzA K F T vs ds /\ ti' K (w) H F T fr /\ yt' K Q E F T fr (m ds w)
theorem RpE.start {K : PySem.W.Frag} {F : Hp} {T : List Addr} {n : Nat} : ∀ {vs : List V} {ds : List M.D}, FzA K F T vs ds -> RpE K F T (vs.map some ++ List.replicate n none) (ds.map (fun d => some (.fz d)) ++ List.replicate n none) []
  | _, _, .nil => by
    show RpE K F T (List.replicate n none) (List.replicate n none) []
    induction n with
    | zero => exact .nil
    | succ n ih => exact .off ih
  | _, _, .cons z r => RpE.on (fp := []) (fq := []) (.fz z) (RpE.start r)
end
section
variable {P : Program} {w : World} {K : PySem.W.Frag} {mg : Str -> Option Value} {base : Heap}
end
section
variable {X : Cx} {k : Nat} {x : Str} {ps : List Str} {p pos : Pos} {e : Expr} {es : List Expr} {as : M.MA} {W : WX} {m : M.MF}
theorem sS' {K : PySem.W.Frag} {σ : St} {H : Hp} {Q : VK} (h : qO K W (M.aB' m as) σ H Q) : tCallS (spM K m) (WE W) (qA K W as) σ H Q := by
  obtain ⟨ρ, F, T, fr, rel, h⟩ := h
  refine dH' rel h fun ds ρ1 vs H1 F1 T1 e1 z1 r1 h1 => ?_
  obtain ⟨fe, fw, re, rw, f⟩ := r1
  refine ⟨ds, ρ1.w, F1, T1, fe ++ fr, z1, ⟨[], fw, xk', rw, f.part (Part.swap : Part (fw ++ (fe ++ fr)) (fe ++ (fw ++ fr)))⟩, ?_⟩
  cases em : m ds ρ1.w with
  | bad => rw [em] at h1; exact h1.elim
  | ok o w' =>
    rw [em] at h1
    refine fun v H' F' T' fp e z r => h1 v H' F' T' fp (e1.trans e) z ?_
    obtain ⟨fe', fw', re', rw', f'⟩ := r
    cases re'
    refine ⟨fe, fw', re.mono e, rw', f'.part ?_⟩
    constructor
    . intro e h
      simp only [List.mem_append, List.not_mem_nil] at *
      grind
    . intro x
      simp only [keys, List.map_append, List.map_nil, List.count_append, List.count_nil] at *
      omega
  | exc x w' =>
    rw [em] at h1
    refine fun cls dd H' F' T' e z r => h1 cls dd H' F' T' e z ?_
    obtain ⟨fe', fw', re', rw', f'⟩ := r
    cases re'
    refine ⟨fe, fw', re.mono e, rw', f'.part ?_⟩
    constructor
    . intro e h
      simp only [List.mem_append, List.not_mem_nil] at *
      grind
    . intro x
      simp only [keys, List.map_append, List.map_nil, List.count_append, List.count_nil] at *
      omega
theorem ah' (F : Og X.prog X.w X.K X.mg X.base k x ps (spM X.K m)) (hr : RoomG k X.A) (hg : Gl X x) (tk : Takes X W) (ha : SA X W (e :: es) as) (hdb : (x == ("__debug__" : Str)) = false := by decide)
    (he : starEach (e :: es) X.env = (false, eval e X.env) :: starEach es X.env := by rfl) (hpl : (backTo pos (starEach es X.env)).any (·.1) = false := by rfl) : SO X W (.Call (.Name x p) (e :: es) [] pos) (M.aB' m as) :=
  PE.imp (tY' F hr hg tk ha hdb he hpl) fun _ _ _ h => sS' h
theorem db' : Takes X W0 := fun _ _ ⟨_, _, _, _, _, _, _, _, _, _, _, _, _, _, _, _, w⟩ => w.elim
end
end S
namespace S
open PySem PySem.Spec PyProof.Rows L2
variable [Wd]
section
variable {P : Program} {w : World} {K : PySem.W.Frag} {mg : Str -> Option Value} {base : Heap}
theorem EE' {x qual : Str} {st : Stmt} {f : Addr} {fd : FuncData} {N ps : List Str} {k j n : Nat} {b : M.MS} (F : FunD K x qual (defArgs st) (defBody st) (defScope st) [] [] f fd) (S : FnScope N ps (defScope st)) (hj : ps.length = j) (hn : N.length = n)
    (hbody : ∀ (cdv oc : Value) (od : Option Addr) (osl : Array (Option Value)), K.lookup f = some ⟨oc, od, .func fd, osl⟩ -> fd.code = cdv -> PySem.W.codeIn K cdv qual = true -> ∀ (A : Around) (outer : List Env) (s : Shared) (H : Hp) (E : XK), RoomG k (A.deeper (envOfC qual (defScope st) s.heap.objs.size f cdv)) →
      SSs (cxOf (L2.CX P w) P w K mg base N qual (defScope st) f cdv A outer s H E) (fun cls d _ H => E cls d H) (defBody st) b)   : FnG P w K mg base (L2.CX P w) (k + 1) f fd ps (spM K (M.fnM j n b)) := by
  refine xH' F S (fun vs H Q E h => ?_) fun cdv oc od osl lk e1 e2 A outer s H vs Q E hr h => ⟨_, hbody cdv oc od osl lk e1 e2 A outer s H E hr, ?_⟩
  . obtain ⟨ds, w', F', T, fr, za, rel, h⟩ := h
    unfold M.fnM at h
    by_cases hl : ds.length = j
    . rw [za.length, hl, hj]
    . rw [if_neg hl] at h; exact h.elim
  . obtain ⟨ds, w', F', T, fr, za, rel, h⟩ := h
    unfold M.fnM at h
    by_cases hl : ds.length = j
    . rw [if_pos hl] at h
      obtain ⟨fe, fw, re, rw', ff⟩ := rel
      cases re
      have re' : RpE K F' T (L2.start N vs) (ds.map (fun d => some (.fz d)) ++ List.replicate (n - j) none) [] := by
        unfold L2.start
        rw [hn, za.length, hl]
        exact RpE.start za
      refine ⟨⟨_, w'⟩, F', T, fr, ⟨[], fw, re', rw', ff⟩, ?_⟩
      generalize b ⟨ds.map (fun d => some (.fz d)) ++ List.replicate (n - j) none, w'⟩ = r at h
      cases r with
      | nx ρ => exact fun σ' H' F2 T2 e2 r2 => h .non H' F2 T2 [] e2 (.fz .non) r2.noenv
      | rt o w2 => exact fun v H' F2 T2 fp e2 z2 r2 => h v H' F2 T2 fp e2 z2 r2
      | exc x ρ => exact fun σ' cls dd H' F2 T2 e2 z2 r2 => h cls dd H' F2 T2 e2 z2 r2.noenv
      | bk ρ => exact h.elim
      | ct ρ => exact h.elim
      | bad => exact h.elim
    . rw [if_neg hl] at h; exact h.elim
theorem okM {x qual : Str} {st : Stmt} {f : Addr} {fd : FuncData} {N ps : List Str} {k j n : Nat} {b : M.MS} (F : FunD K x qual (defArgs st) (defBody st) (defScope st) [] [] f fd) (S : FnScope N ps (defScope st)) (hj : ps.length = j) (hn : N.length = n)
    (hbody : ∀ (cdv : Value) (A : Around) (outer : List Env) (s : Shared) (H : Hp) (E : XK), RoomG k (A.deeper (envOfC qual (defScope st) s.heap.objs.size f cdv)) →
      SSs (cxOf (L2.CX P w) P w K mg base N qual (defScope st) f cdv A outer s H E) (fun cls d _ H => E cls d H) (defBody st) b)   : FnG P w K mg base (L2.CX P w) (k + 1) f fd ps (spM K (M.fnM j n b)) :=
  EE' F S hj hn fun cdv _ _ _ _ _ _ => hbody cdv
end
end S
namespace S
open PySem PySem.Spec PyProof.Rows L2
variable [Wd] [Hot]
section
variable {K : PySem.W.Frag}
theorem xK' {F : Hp} {T : List Addr} {x y : V} {dx dy : M.D} (hx : Fz K F T x dx) (hy : Fz K F T y dy) (sx' : M.sca dx = true) (sy : M.sca dy = true) : eqV y x = M.eqb dy dx /\ flatV x = true := by
  cases dx <;> try (cases sx'; done)
  all_goals cases dy <;> try (cases sy; done)
  all_goals first
    | (cases hx; cases hy; exact ⟨rfl, rfl⟩)
    | skip
  obtain ⟨rfl, _⟩ := hx.str_inv
  obtain ⟨rfl, _⟩ := hy.str_inv
  exact ⟨vn' _ _, rfl⟩
theorem sA' {F : Hp} {T : List Addr} {x : V} {dx : M.D} (hx : Fz K F T x dx) (sx' : M.sca dx = true) : ∀ {vs : List V} {ds : List M.D}, FzA K F T vs ds -> ds.all M.sca = true -> inV x vs = ds.any (fun d => M.eqb d dx) /\ vs.all flatV = true
  | _, _, .nil, _ => ⟨rfl, rfl⟩
  | _, _, .cons z r, h => by
    rw [List.all_cons, Bool.and_eq_true] at h
    obtain ⟨h1, h2⟩ := sA' hx sx' r h.2
    obtain ⟨h3, h4⟩ := xK' hx z sx' h.1
    obtain ⟨_, h5⟩ := xK' z z h.1 h.1
    refine ⟨?_, ?_⟩
    . show (eqV _ x || inV x _) = _
      rw [List.any_cons, h3, h1]
    . rw [List.all_cons, h5, h2]; rfl
theorem oF' {F : Hp} {T : List Addr} {x : V} {dx : M.D} (hx : Fz K F T x dx) (s : M.sca dx = true) : flatV x = true := (xK' hx hx s s).2
theorem oy' {dx dy dz : M.D} (h : M.pIn dx dy = some dz) : (∃ c s, dx = .str [c] /\ dy = .str s /\ dz = .bl (decide (c ∈ s))) \/ (∃ ds, (dy = .lst ds \/ dy = .tup ds) /\ M.sca dx = true /\ ds.all M.sca = true /\ dz = .bl (ds.any fun d => M.eqb d dx)) := by
  unfold M.pIn at h
  split at h
  . exact .inl ⟨_, _, rfl, rfl, (Option.some.inj h).symm⟩
  . split at h
    . rename_i c; exact .inr ⟨_, .inl rfl, c.1, c.2, (Option.some.inj h).symm⟩
    . cases h
  . split at h
    . rename_i c; exact .inr ⟨_, .inr rfl, c.1, c.2, (Option.some.inj h).symm⟩
    . cases h
  . cases h
theorem vH' : Op2 K M.pIn (D6' K) := by
  intro F H T fp x y dx dy dz Q f hx hy h k
  rcases oy' h with ⟨c, s, rfl, rfl, rfl⟩ | ⟨ds, e, h1, h2, rfl⟩
  . obtain ⟨rfl, o1⟩ := hx.str_inv
    obtain ⟨rfl, o2⟩ := hy.str_inv
    exact .inl ⟨c, _, rfl, rfl, k.here f (.bl _)⟩
  . rcases e with rfl | rfl
    . obtain ⟨a, vs, rfl, ha, za⟩ := hy.lst_inv
      obtain ⟨e1, e2⟩ := sA' hx h1 za h2
      refine .inr (.inl ⟨a, vs, rfl, .inl (SqL.of (f.low _ _ ha)), oF' hx h1, e2, ?_⟩)
      rw [if_neg Bool.false_ne_true, e1]
      exact k.here f (.bl _)
    . obtain ⟨a, vs, rfl, ha, za⟩ := hy.tup_inv
      obtain ⟨e1, e2⟩ := sA' hx h1 za h2
      refine .inr (.inl ⟨a, vs, rfl, .inr (seqT f.low ha), oF' hx h1, e2, ?_⟩)
      rw [if_neg Bool.false_ne_true, e1]
      exact k.here f (.bl _)
theorem xi' : Op2 K M.kB' (rJ' K) := by
  intro F H T fp x y dx dy dz Q f hx hy h k
  unfold M.kB' at h
  split at h
  . rename_i b hb
    cases h
    rcases oy' hb with ⟨c, s, rfl, rfl, eb⟩ | ⟨ds, e, h1, h2, eb⟩
    . cases eb
      obtain ⟨rfl, o1⟩ := hx.str_inv
      obtain ⟨rfl, o2⟩ := hy.str_inv
      exact .inl ⟨c, _, rfl, rfl, k.here f (.bl _)⟩
    . cases eb
      rcases e with rfl | rfl
      . obtain ⟨a, vs, rfl, ha, za⟩ := hy.lst_inv
        obtain ⟨e1, e2⟩ := sA' hx h1 za h2
        refine .inr (.inl ⟨a, vs, rfl, .inl (SqL.of (f.low _ _ ha)), oF' hx h1, e2, ?_⟩)
        rw [if_pos rfl, e1]
        exact k.here f (.bl _)
      . obtain ⟨a, vs, rfl, ha, za⟩ := hy.tup_inv
        obtain ⟨e1, e2⟩ := sA' hx h1 za h2
        refine .inr (.inl ⟨a, vs, rfl, .inr (seqT f.low ha), oF' hx h1, e2, ?_⟩)
        rw [if_pos rfl, e1]
        exact k.here f (.bl _)
  . cases h
theorem nV' {F : Hp} {T : List Addr} : ∀ {vs : List V} {ds : List M.D} {ss : List M.Tx}, FzA K F T vs ds -> M.d2' ds = some ss -> vs = (ss.map sx).map V.str /\ ∀ s ∈ ss, okT s
  | _, _, ss, .nil, h => by cases h; exact ⟨rfl, fun s h => nomatch h⟩
  | _, d :: ds, ss, .cons a r, h => by
    cases d <;> try (cases h; done)
    rename_i b
    cases q : M.d2' ds with
    | none => simp only [M.d2', q] at h; cases h
    | some cs =>
      simp only [M.d2', q, Option.map_some] at h
      cases h
      obtain ⟨rfl, o⟩ := a.str_inv
      obtain ⟨rfl, os⟩ := nV' r q
      refine ⟨rfl, fun s hs => ?_⟩
      rcases List.mem_cons.mp hs with rfl | hs
      . exact o
      . exact os s hs
theorem ou' (sep : M.Tx) : ∀ ss : List M.Tx, TL.joinL sep ss = M.cg' sep ss
  | [] => rfl
  | [_] => rfl
  | a :: b :: r => by
    show a ++ (sep ++ TL.joinL sep (b :: r)) = a ++ (sep ++ M.cg' sep (b :: r))
    rw [ou' sep (b :: r)]
theorem xs' (sep : M.Tx) (ss : List M.Tx) : Txt.join (sx sep) (ss.map sx) = sx (M.cg' sep ss) := by
  rw [TL.join_eq]
  refine lJ' ?_
  have := TL.tl_join (sx sep) (ss.map sx)
  rw [List.map_map, show ss.map (TL.tl ∘ sx) = ss from (List.map_congr_left fun a _ => rfl).trans (List.map_id ss), show TL.tl (sx sep) = sep from rfl, ou'] at this
  exact this
theorem k3' (sep : M.Tx) : ∀ (ss : List M.Tx) (c : Nat), c ∈ M.cg' sep ss -> c ∈ sep \/ ∃ s ∈ ss, c ∈ s
  | [], c, h => by cases h
  | [a], c, h => .inr ⟨a, by simp, h⟩
  | a :: b :: r, c, h => by
    rcases List.mem_append.mp (show c ∈ a ++ (sep ++ M.cg' sep (b :: r)) from h) with h | h
    . exact .inr ⟨a, by simp, h⟩
    . rcases List.mem_append.mp h with h | h
      . exact .inl h
      . rcases k3' sep (b :: r) c h with h | ⟨s, h1, h2⟩
        . exact .inl h
        . exact .inr ⟨s, List.mem_cons_of_mem _ h1, h2⟩
theorem dz' (sep : M.Tx) : ∀ (ss : List M.Tx), (M.cg' sep ss).length <= (ss.map List.length).sum + ss.length * sep.length
  | [] => by simp [M.cg']
  | [a] => by simp [M.cg']
  | a :: b :: r => by
    have ih := dz' sep (b :: r)
    show (a ++ (sep ++ M.cg' sep (b :: r))).length <= _
    rw [List.length_append, List.length_append, List.map_cons, List.sum_cons, List.length_cons (as := b :: r), Nat.succ_mul]
    omega
def MtD (K : PySem.W.Frag) (f : M.Tx -> List M.D -> Option M.D) (r : V -> List V -> Hp -> VK -> Prop) : Prop := ∀ {F H : Hp} {T : List Addr} {fp : Fp} {s : M.Tx} {xs : List V} {ds : List M.D} {dz : M.D} {Q : VK}, FpH F H fp -> okT s -> FzA K F T xs ds -> f s ds = some dz -> fJ' K F T fp dz Q -> r (.str (sx s)) xs H Q
theorem FzA.one {F : Hp} {T : List Addr} {xs : List V} {d : M.D} (h : FzA K F T xs [d]) : ∃ v, xs = [v] /\ Fz K F T v d := by
  cases h with
  | cons a r => cases r; exact ⟨_, rfl, a⟩
theorem i7' : MtD K M.f8' (zJ' K) := by
  intro F H T fp a xs ds dz Q f oa hx h k
  have fin : ∀ {ds : List M.D} {p : Addr} {vs : List V}, (SqL K H p vs \/ SqT K H p vs) -> FzA K F T vs ds -> ((M.d2' ds).bind fun ys => if (ys.map List.length).sum + ys.length * a.length <= M.do' then some (M.D.str (M.cg' a ys)) else none) = some dz -> zJ' K (.str (sx a)) [.ref p] H Q := by
    intro ds p vs hp za e
    cases q : M.d2' ds with
    | none => rw [q] at e; cases e
    | some ss =>
      rw [q, Option.bind_some] at e
      split at e
      . rename_i hl
        cases e
        obtain ⟨rfl, os⟩ := nV' za q
        refine ⟨_, p, ss.map sx, rfl, rfl, hp, ?_, ?_⟩
        . rw [List.map_map, show ss.map (Str.length ∘ sx) = ss.map List.length from List.map_congr_left fun s _ => cI' s, List.length_map, cI']
          exact hl
        . rw [xs']
          refine k.here f (.str ⟨fun c hc => ?_, Nat.le_trans (dz' a ss) hl⟩)
          rcases k3' a ss c hc with h | ⟨s, h1, h2⟩
          . exact oa.1 c h
          . exact (os s h1).1 c h2
      . cases e
  unfold M.f8' at h
  split at h
  . obtain ⟨v, rfl, z⟩ := hx.one
    obtain ⟨p, vs, rfl, ha, za⟩ := z.lst_inv
    exact fin (.inl (SqL.of (f.low _ _ ha))) za h
  . obtain ⟨v, rfl, z⟩ := hx.one
    obtain ⟨p, vs, rfl, ha, za⟩ := z.tup_inv
    exact fin (.inr (seqT f.low ha)) za h
  . cases h
theorem xF' (a b : M.Tx) (i : Nat) : (decide (i + (sx b).length <= (sx a).length) && Builtin.Str.subAt (sx a) (sx b) i) = M.vQ' a b i := by
  rw [cI', cI', PySem.StrLaws.subAt_eq, gn', gn', cI']
  unfold M.vQ'
  congr 1
  rw [Bool.eq_iff_iff]
  simp
end
section
variable {X : Cx} {W : WX} {K : PySem.W.Frag} {cpos apos p : Pos} {name : Str} {id T : String} {o e : Expr} {es : List Expr} {mo : M.ME} {as : M.MA} {σ : St} {H : Hp} {Q : VK}
theorem xl' {f : M.Tx -> List M.D -> Option M.D} {r : V -> List V -> Hp -> VK -> Prop} (hf : MtD K f r) (h : qE K W (M.eMt f mo as) σ H Q) : tBM K "str" r (qE K W mo) (qA K W as) σ H Q := by
  obtain ⟨ρ, F, T, fr, rel, h⟩ := h
  refine av' rel h fun dx ρ1 v H1 F1 T1 e1 z1 r1 h1 => ?_
  cases dx <;> try exact h1.elim
  obtain ⟨rfl, o⟩ := z1.str_inv
  refine ⟨rfl, ?_⟩
  refine dH' r1 h1 fun ds ρ2 vs H2 F2 T2 e2 z2 r2 h2 => ?_
  obtain ⟨dz, ez, q⟩ := a8'.ofO h2
  obtain ⟨fp, f2, back⟩ := r2.fp
  exact hf f2 o z2 ez fun v' H3 F3 s zz f3 => q v' H3 F3 T2 (e1.trans (e2.trans (.of s))) zz (back H3 F3 s f3)
theorem iy' {f : M.Tx -> List M.D -> Option M.D} {r : V -> List V -> Hp -> VK -> Prop} (slot : Slot "str" name id) (hty : typeOf (.builtin id) = pure (.type "method_descriptor")) (hm : MtR X id r) (hf : MtD X.K f r) (ho : SE X W o mo) (ha : SA X W (e :: es) as)
    (hbase : attributeBase o name X.env (eval o X.env) = eval o X.env := by rfl)
    (hfew : ((backTo cpos (starEach (e :: es) X.env)).all (fun x => !x.1) && (backToKw cpos (keywordEach [] X.env)).all (fun x => x.1.isSome)
      && decide ((e :: es).length + ([] : List Keyword).length + (if ([] : List Keyword).isEmpty then 0 else 1) < 30)) = true := by rfl)
    (hline : (apos.endLine == cpos.line) = true := by rfl) (hs : starEach (e :: es) X.env = (false, eval e X.env) :: starEach es X.env := by rfl) (hplain : (backTo cpos (starEach es X.env)).any (·.1) = false := by rfl) :
    SE X W (.Call (.Attribute o name apos) (e :: es) [] cpos) (M.eMt f mo as) := PE.imp (pe_bm PySem.F.plainAttrs_str slot hty hm ho ha hbase hfew hline hs hplain) fun _ _ _ h => xl' hf h
end
end S
namespace S
open PySem PySem.Spec PyProof.Rows L2
variable [Wd] [Hot]
section
variable {K : PySem.W.Frag} {F F' H H' : Hp} {T T' : List Addr} {fp fq fr : Fp} {ρ : M.PSt} {σ : St} {W : WX} {Q : VK}
theorem RpW.get {l : List Addr} {w : M.W} {n : Nat} {ob : M.Ob} (r : RpW K F T l w fp) (h : w[n]? = some ob) : ∃ a f1 f2 f3, l[n]? = some a /\ fp = f1 ++ (f2 ++ f3) /\ RpOb K F T a ob f2 ∧
    ∀ F' T' ob' f2', Ext F T F' T' -> RpOb K F' T' a ob' f2' -> RpW K F' T' l (w.set n ob') (f1 ++ (f2' ++ f3)) := by
  induction r generalizing n with
  | nil => cases h
  | @cons a l ob0 w fa fb r0 r ih =>
    cases n with
    | zero =>
      cases h
      exact ⟨a, [], fa, fb, rfl, rfl, r0, fun F' T' ob' f2' e r' => (RpW.cons r' (r.mono e) : RpW K F' T' _ _ (f2' ++ fb))⟩
    | succ n =>
      obtain ⟨a', f1, f2, f3, h1, rfl, h3, h4⟩ := ih (n := n) h
      refine ⟨a', fa ++ f1, f2, f3, h1, by simp, h3, fun F' T' ob' f2' e r' => ?_⟩
      rw [List.append_assoc]
      exact .cons (r0.mono e) (h4 F' T' ob' f2' e r')
theorem RpW.len {l : List Addr} {w : M.W} (r : RpW K F T l w fp) : l.length = w.length := by
  induction r with
  | nil => rfl
  | cons _ _ ih => exact congrArg (· + 1) ih
theorem RpA.get : ∀ {vs : List V} {os : List M.O} {fp : Fp} {i : Nat} {d : M.D}, RpA K F T vs os fp -> os[i]? = some (.fz d) -> ∃ v, vs[i]? = some v /\ Fz K F T v d
  | _, _, _, _, _, .nil, e => by cases e
  | _, _, _, 0, _, .cons h _, e => by
    have e := Option.some.inj e
    subst e
    cases h with
    | fz z => exact ⟨_, rfl, z⟩
  | _, _, _, i + 1, _, .cons _ r, e => RpA.get (i := i) r e
theorem RpA.ati {vs : List V} {os : List M.O} {i : Int} {d : M.D} (h : RpA K F T vs os fp) (e : M.ati os i = some (.fz d)) : ∃ v, atI vs i = some v /\ Fz K F T v d := by
  unfold M.ati at e
  unfold atI
  rw [h.length]
  cases q : M.ixn os.length i with
  | none => rw [q] at e; cases e
  | some j =>
    rw [q] at e
    obtain ⟨v, h1, h2⟩ := h.get (i := j) e
    have q' : ixN os.length i = some j := q
    rw [q']
    exact ⟨v, h1, h2⟩
theorem Rel.wlist (rel : Rel K ρ σ H F T fr) {n : Nat} {os : List M.O} (h : ρ.w[n]? = some (.lst os)) : ∃ a vs f2, T[n]? = some a /\ H a = some (.lst vs) /\ RpA K F T vs os f2 ∧
    ∀ vs' os' f2' fr', RpA K F T vs' os' f2' -> Part (f2' ++ fr') (f2 ++ fr) -> Rel K ⟨ρ.env, ρ.w.set n (.lst os')⟩ σ (upd H a (.lst vs')) F T fr' := by
  obtain ⟨fe, fw, re, rw, f⟩ := rel
  obtain ⟨a, f1, f2, f3, h1, rfl, h3, h4⟩ := rw.get h
  cases h3 with
  | lst r =>
    rename_i vs fp0
    refine ⟨a, vs, fp0, h1, (f.at_ (a, .lst vs) (by simp)).1, r, fun vs' os' f2' fr' r' pt => ?_⟩
    have e5 := h4 F T (.lst os') ((a, .lst vs') :: f2') .refl (.lst r')
    refine ⟨fe, _, re, e5, ?_⟩
    have fA : FpH F H ((fe ++ f1) ++ ((a, .lst vs) :: (f3 ++ (fp0 ++ fr)))) := f.part (by
      constructor
      . intro e h
        simp only [List.mem_append, List.mem_cons] at *
        grind
      . intro x
        simp only [keys, List.map_append, List.map_cons, List.count_append, List.count_cons] at *
        omega)
    have fB := fA.write (o' := .lst vs')
    refine fB.part ?_
    have pm := pt.m
    constructor
    . intro e h
      have := pm e
      simp only [List.mem_append, List.mem_cons] at *
      grind
    . intro x
      have := pt.c x
      simp only [keys, List.map_append, List.map_cons, List.count_append, List.count_cons] at *
      omega
theorem RpA.set {v : V} {d : M.D} (zd : Fz K F T v d) : ∀ {os : List M.O} {vs : List V} {f2 : Fp} (j : Nat), RpA K F T vs os f2 -> ∃ f2', RpA K F T (vs.set j v) (os.set j (.fz d)) f2' /\ Part f2' f2
  | [], _, _, _, .nil => ⟨[], .nil, .refl⟩
  | o :: os, _, _, 0, .cons r0 r => ⟨_, RpA.cons (fp := []) (.fz zd) r, .right .refl⟩
  | o :: os, _, _, j + 1, .cons r0 r => by
    obtain ⟨f2', q1, q2⟩ := RpA.set zd j r
    exact ⟨_, .cons r0 q1, .app .refl q2⟩
theorem RpA.set' {v : V} {d : M.D} {vs : List V} {os : List M.O} {fp : Fp} (h : RpA K F T vs os fp) (j : Nat) (zd : Fz K F T v d) : ∃ f2', RpA K F T (vs.set j v) (os.set j (.fz d)) f2' /\ Part f2' fp := RpA.set zd j h
theorem ty' {w w' : M.W} {x k d : M.D} (h : M.tz' w x k d = some w') : ∃ n z os j, x = .obj n /\ k = .int z /\ w[n]? = some (.lst os) /\ M.ixn os.length z = some j /\ w' = w.set n (.lst (os.set j (.fz d))) := by
  unfold M.tz' at h
  split at h
  . rename_i n z
    split at h
    . rename_i os e
      cases q : M.ixn os.length z with
      | none => rw [q] at h; cases h
      | some j =>
        rw [q] at h
        cases h
        exact ⟨n, z, os, j, rfl, rfl, e, q, rfl⟩
    . cases h
  . cases h
theorem ul' {ma mb : M.ME} (h : qE K W (M.jW' ma mb) σ H Q) : tOp (rIx K) (qE K W ma) (qE K W mb) σ H Q := by
  obtain ⟨ρ, F, T, fr, rel, h⟩ := h
  refine av' rel h fun dx ρ1 v H1 F1 T1 e1 z1 r1 h1 => ?_
  refine av' r1 h1 fun dy ρ2 u H2 F2 T2 e2 z2 r2 h2 => ?_
  obtain ⟨dz, ez, q⟩ := a8'.ofO h2
  by_cases ho : ∃ n, dx = .obj n
  . obtain ⟨n, rfl⟩ := ho
    cases e : ρ2.w[n]? with
    | none => simp only [M.ixW, e] at ez; cases ez
    | some ob =>
      cases ob with
      | lst os =>
        simp only [M.ixW, e] at ez
        obtain ⟨a, vs, f2, h3, h4, h5, _⟩ := r2.wlist e
        cases z1.mono e2 with
        | obj t =>
          rw [h3] at t
          cases t
          cases dy <;> try (cases ez; done)
          rename_i i
          cases z2
          unfold M.ixO at ez
          cases e6 : M.ati os i with
          | none => simp only [e6] at ez; cases ez
          | some o =>
            cases o <;> simp only [e6] at ez <;> try (cases ez; done)
            cases ez
            obtain ⟨v', h7, h8⟩ := h5.ati e6
            exact .inl ⟨_, vs, i, v', rfl, rfl, SqL.of h4, h7, q v' H2 F2 T2 (e1.trans e2) h8 r2⟩
      | dct ks vs => simp only [M.ixW, e] at ez; cases ez
      | dcx ks vs => simp only [M.ixW, e] at ez; cases ez
      | ins C fs => simp only [M.ixW, e] at ez; cases ez
  . have ez' : M.pIx dx dy = some dz := by
      cases dx <;> first | exact ez | exact absurd ⟨_, rfl⟩ ho
    obtain ⟨fp, f2, back⟩ := r2.fp
    exact eN' f2 (z1.mono e2) z2 ez' fun v' H3 F3 s zz f3 => q v' H3 F3 T2 (e1.trans (e2.trans (.of s))) zz (back H3 F3 s f3)
end
section
variable {X : Cx} {W : WX} {pos tpos : Pos} {a b o i : Expr} {ma mb mo mi : M.ME} {as : M.MA} {es : List Expr} {σ : St} {H : Hp} {Q : VK}
theorem dw' (ha : SE X W a ma) (hb : SE X W b mb) (hs : PlainIx b) : SE X W (.Subscript a b pos) (M.jW' ma mb) := PE.imp (pe_ix ix_seq ha hb hs) fun _ _ _ h => ul' h
theorem hA' (ha : SE X W a ma) (ho : SE X W o mo) (hi : SE X W i mi)
    (hst : ∀ v, assign (.Subscript o i tpos) X.env v = (do
      let ov ← holding [v] (eval o X.env)
      let iv ← holding [v, ov] (eval i X.env)
      standAt tpos
      holding [v, ov, iv] (setItem ov iv v)
      release [v, ov, iv] []) := by intro _; rfl)
    (hs : swapsWithSole [.Subscript o i tpos] a pos.line X.env = pure false := by rfl) (hw : swappedStores [.Subscript o i tpos] a X.env = pure none := by rfl)
    (h1 : (assignEach [.Subscript o i tpos] X.env).map (·.2) = [assign (.Subscript o i tpos) X.env] := by rfl) : SS X W (.Assign [.Subscript o i tpos] a pos) (M.js' mo mi ma) :=
  PS.imp (ps_asg ha (pg_sub ho hi set_list hst) hs hw h1) fun D σ H ⟨ρ, F, T, fr, rel, h⟩ => by
    refine dG' rel h fun d ρ1 v H1 F1 T1 e1 z1 r1 h1 => ?_
    refine dG' r1 h1 fun dx ρ2 u H2 F2 T2 e2 z2 r2 h2 => ?_
    refine dG' r2 h2 fun dk ρ3 t H3 F3 T3 e3 z3 r3 h3 => ?_
    cases es : M.tz' ρ3.w dx dk d with
    | none => rw [es] at h3; exact h3.elim
    | some w' =>
      rw [es] at h3
      obtain ⟨n, z, os, j, rfl, rfl, e, ej, rfl⟩ := ty' es
      cases z3
      obtain ⟨p, vs, f2, h4, h5, h6, back⟩ := r3.wlist e
      cases z2.mono e3 with
      | obj t =>
        rw [h4] at t
        cases t
        have ej' : ixN vs.length z = some j := by rw [h6.length]; exact ej
        obtain ⟨f2', q1, q2⟩ := h6.set' j ((z1.mono e2).mono e3)
        exact ⟨p, vs, z, j, rfl, rfl, h5, ej', h3 σ _ F3 T3 .refl (back _ _ f2' fr q1 (.app q2 .refl))⟩
theorem zj' (h : SA X W es as) : SO X W (.List es pos) (M.z0' as) := PE.imp (pe_lst h) fun σ H Q ⟨ρ, F, T, fr, rel, h⟩ => by
  refine dH' rel h fun ds ρ1 vs H1 F1 T1 e1 z1 r1 h1 => ?_
  split at h1
  . rename_i hl
    refine ⟨by rw [z1.length, bF']; exact hl, fun p hp => ?_⟩
    obtain ⟨fe, fw, re, rw, f⟩ := r1
    have eT : Ext F1 T1 F1 (T1 ++ [p]) := ⟨fun _ _ h => .inl h, ⟨[p], rfl⟩⟩
    have hn : (T1 ++ [p])[ρ1.w.length]? = some p := by rw [<- rw.len, List.getElem?_append_right (Nat.le_refl _), Nat.sub_self]; rfl
    have app : ∀ {l : List Addr} {w : M.W} {fw : Fp}, RpW X.K F1 T1 l w fw -> ∃ fw', RpW X.K F1 (T1 ++ [p]) (l ++ [p]) (w ++ [.lst (ds.map .fz)]) fw' /\ Part fw' ((p, .lst vs) :: fw) := by
      intro l w fw r
      induction r with
      | nil => exact ⟨_, RpW.cons (RpOb.lst (RpA.of_fz (z1.mono eT))) .nil, by simp only [List.append_nil]; exact .refl⟩
      | @cons a l ob w fa fb r0 r ih =>
        obtain ⟨fw', q1, q2⟩ := ih
        refine ⟨fa ++ fw', .cons (r0.mono eT) q1, ?_⟩
        have p1 : Part (fa ++ fw') (fa ++ ((p, .lst vs) :: fb)) := .app .refl q2
        refine p1.trans ?_
        constructor
        . intro e h
          simp only [List.mem_append, List.mem_cons] at *
          grind
        . intro x
          simp only [keys, List.map_append, List.map_cons, List.count_append, List.count_cons] at *
          omega
    obtain ⟨fw', q1, q2⟩ := app rw
    refine h1 (.ref p) (upd H1 p (.lst vs)) F1 (T1 ++ [p]) [] (e1.trans eT) (.fz (.obj hn)) ⟨fe, fw', re.mono eT, q1, ?_⟩
    refine (f.own hp).part ?_
    have p1 : Part (fe ++ (fw' ++ ([] ++ fr))) (fe ++ (((p, .lst vs) :: fw) ++ fr)) := .app .refl (.app q2 .nilL)
    refine p1.trans ?_
    constructor
    . intro e h
      simp only [List.mem_append, List.mem_cons] at *
      grind
    . intro x
      simp only [keys, List.map_append, List.map_cons, List.count_append, List.count_cons] at *
      omega
  . exact h1.elim
theorem vu' {n : Nat} (hv : PE X a (tVar n)) (hb : SE X W b mb) (hs : PlainIx b) : SE X W (.Subscript a b pos) (M.yD' n mb) := PE.imp (pe_ix ix_seq hv hb hs) fun σ H Q ⟨ρ, F, T, fr, rel, h⟩ => by
  unfold M.yD' at h
  split at h
  . rename_i o0 e0
    obtain ⟨fe, fw, re, rw, f⟩ := id rel
    obtain ⟨v, h1⟩ := re.val e0
    refine ⟨v, h1, av' rel h fun dk ρ1 u H1 F1 T1 e1 z1 r1 h2 => ?_⟩
    split at h2
    . rename_i o e2
      obtain ⟨dz, ez, q⟩ := a8'.ofO h2
      obtain ⟨fe', fw', re', rw', f'⟩ := id r1
      obtain ⟨v', f1', f2', f3', h1', rfl, h3', _⟩ := re'.get e2 (M.d3' (fun z => by rw [z] at ez; exact nomatch (show (none : Option M.D) = some dz from ez)) fun z => by rw [z] at ez; exact nomatch (show (none : Option M.D) = some dz from ez))
      rw [h1] at h1'
      cases h1'
      cases h3' with
      | fz z =>
        obtain ⟨fx, f4, back⟩ := r1.fp
        exact eN' f4 z z1 ez fun v' H3 F3 s zz f3 => q v' H3 F3 T1 (e1.trans (.of s)) zz (back H3 F3 s f3)
      | @lst p vs os fp0 r =>
        cases dk <;> try (cases ez; done)
        rename_i i
        cases z1
        unfold M.ixO at ez
        cases e6 : M.ati os i with
        | none => simp only [e6] at ez; cases ez
        | some o =>
          cases o <;> simp only [e6] at ez <;> try (cases ez; done)
          cases ez
          obtain ⟨v', h7, h8⟩ := r.ati e6
          exact .inl ⟨p, vs, i, v', rfl, rfl, SqL.of (f'.at_ (p, .lst vs) (by simp)).1, h7, q v' H1 F1 T1 e1 h8 r1⟩
      | @tup p vs os fp0 r =>
        cases dk <;> try (cases ez; done)
        rename_i i
        cases z1
        unfold M.ixO at ez
        cases e6 : M.ati os i with
        | none => simp only [e6] at ez; cases ez
        | some o =>
          cases o <;> simp only [e6] at ez <;> try (cases ez; done)
          cases ez
          obtain ⟨v', h7, h8⟩ := r.ati e6
          exact .inr (.inl ⟨p, vs, i, v', rfl, rfl, SqT.of (f'.at_ (p, .tup vs) (by simp)).1, h7, q v' H1 F1 T1 e1 h8 r1⟩)
      | dct _ r => cases dk <;> cases ez
      | dcl _ r => cases dk <;> cases ez
      | dcn _ _ r => cases dk <;> cases ez
    . exact h2.elim
  . exact h.elim
theorem si' {K : PySem.W.Frag} {n : Nat} (h : qE K W (M.ia' n) σ H Q) : tCB (wV' K) (tCons (tVar n) tNil) σ H Q := by
  obtain ⟨ρ, F, T, fr, rel, h⟩ := h
  unfold M.ia' at h
  split at h
  . rename_i o e
    obtain ⟨dz, ez, q⟩ := a8'.ofO h
    obtain ⟨fe, fw, re, rw, f⟩ := id rel
    obtain ⟨v, f1, f2, f3, h1, rfl, h3, _⟩ := re.get e (M.d3' (fun z => by rw [z] at ez; exact nomatch (show (none : Option M.D) = some dz from ez)) fun z => by rw [z] at ez; exact nomatch (show (none : Option M.D) = some dz from ez))
    refine ⟨v, h1, ?_⟩
    cases h3 with
    | fz z =>
      exact bZ' f z ez fun v' H3 F3 s zz f3 => q v' H3 F3 T (.of s) zz ⟨_, fw, re.mono (.of s), rw.mono (.of s), f3⟩
    | @lst p vs os fp0 r =>
      cases ez
      refine .inl (.inr (.inl ⟨p, vs, rfl, .inl (SqL.of (f.at_ (p, .lst vs) (by simp)).1), ?_⟩))
      rw [r.length]
      exact q _ H F T .refl (.int _) rel
    | @tup p vs os fp0 r =>
      cases ez
      refine .inl (.inr (.inl ⟨p, vs, rfl, .inr (SqT.of (f.at_ (p, .tup vs) (by simp)).1), ?_⟩))
      rw [r.length]
      exact q _ H F T .refl (.int _) rel
    | @dct p kvs os fp0 _ r =>
      cases ez
      refine .inl (.inr (.inr ⟨p, kvs, rfl, .inl (f.at_ (p, .dK kvs) (by simp)).1, q _ H F T .refl ?_ rel⟩))
      rw [List.length_map]
      exact .int _
    | @dcl p kvs ks os fp0 ke r =>
      cases ez
      have e2 : kvs.length = ks.length := by have := congrArg List.length ke.e; simpa using this
      refine .inr (.inl ⟨p, kvs, rfl, .inl (f.at_ (p, dcL p kvs) (by simp)).1, q _ H F T .refl ?_ rel⟩)
      rw [e2]
      exact .int _
    | @dcn p xs ks os fp0 ke z r =>
      cases ez
      have e2 : xs.length = ks.length := by have := congrArg List.length ke.e; simpa using this
      refine .inr (.inr ⟨p, xs, rfl, .inl (f.at_ (p, dcN p xs) (by simp)).1, q _ H F T .refl ?_ rel⟩)
      rw [e2]
      exact .int _
  . exact h.elim
theorem hF' {n : Nat} {x : Str} {p : Pos} (hwd : X.prog = Wd.P /\ X.w = Wd.w) (hg : Gl X x) (hm : X.mg x = none) (hv : bootBuiltins x = some (.builtin "len")) (ha : PE X a (tVar n)) (hn : x ≠ "__name__" := by decide) (hdb : (x == ("__debug__" : Str)) = false := by decide)
    (he : starEach [a] X.env = (false, eval a X.env) :: starEach [] X.env := by rfl) (hpl : (backTo pos (starEach [] X.env)).any (·.1) = false := by rfl) : SE X W (.Call (.Name x p) [a] [] pos) (M.ia' n) := PE.imp (pe_callB (ak' hwd) hg hm hv (pa_cons ha pa_nil he) hn hdb he hpl) fun _ _ _ => si'
end
end S
namespace S
open PySem PySem.Spec PyProof.Rows L2
variable [Wd] [Hot]
local macro_rules | `(tactic| walk_at "parts") => `(tactic| (constructor; (intro e h; simp only [List.mem_append, List.mem_cons, List.not_mem_nil] at *; grind); (intro x; simp only [keys, List.map_append, List.map_cons, List.map_nil, List.count_append, List.count_cons, List.count_nil] at *; omega)))
theorem gz' {a b : String} (h : Str.ofString a = Str.ofString b) : a = b := by
  rw [Str.ofString_eq_toList, Str.ofString_eq_toList] at h
  have h2 : a.toList.map Char.toNat = b.toList.map Char.toNat := by
    have := congrArg (fun z : Str => z.cps.toList) h
    simpa using this
  have h3 : a.toList = b.toList := by
    have inj : ∀ (x y : List Char), x.map Char.toNat = y.map Char.toNat -> x = y := by
      intro x
      induction x with
      | nil => intro y h; cases y with
        | nil => rfl
        | cons _ _ => cases h
      | cons c x ih => intro y h; cases y with
        | nil => cases h
        | cons d y =>
          rw [List.map_cons, List.map_cons] at h
          injection h with h1 h2
          rw [ih y h2, show c = d from Char.toNat_inj.mp h1]
    exact inj _ _ h2
  exact String.toList_inj.mp h3
section
variable {K : PySem.W.Frag} {F F' H H' : Hp} {T T' : List Addr} {fp fq fr : Fp} {ρ : M.PSt} {σ : St} {W : WX} {Q : VK}
abbrev tb' (q : String × V) : Str × V := (Str.ofString q.1, q.2)
theorem sc' (f : String) : ∀ fv : List (String × V), (fv.map tb').lookup (Str.ofString f) = fv.lookup f
  | [] => rfl
  | (g, v) :: r => by
    rw [List.map_cons]
    by_cases h : f = g
    . subst h
      show List.lookup _ ((Str.ofString f, v) :: _) = _
      rw [List.lookup_cons_self, List.lookup_cons_self]
    . have h1 : (f == g) = false := by simpa using h
      have h2 : (Str.ofString f == Str.ofString g) = false := by
        rw [beq_eq_false_iff_ne]
        exact fun e => h (gz' e)
      show List.lookup _ ((Str.ofString g, v) :: _) = _
      simp only [List.lookup, h1, h2]
      exact sc' f r
theorem RpA.lookup {f : String} {o : M.O} : ∀ {fv : List (String × V)} {os : List M.O} {fp : Fp}, RpA K F T (fv.map (·.2)) os fp -> ((fv.map (·.1)).zip os).lookup f = some o →
    ∃ v f1 f2 f3, fv.lookup f = some v /\ fp = f1 ++ (f2 ++ f3) /\ Rp K F T v o f2
  | [], _, _, r, h => by cases r; cases h
  | (g, v) :: fv, _, _, r, h => by
    cases r with
    | @cons _ _ o1 os fp fq r0 r =>
      rw [List.map_cons, List.zip_cons_cons] at h
      by_cases e : f = g
      . subst e
        rw [List.lookup_cons_self] at h
        cases h
        exact ⟨v, [], fp, fq, List.lookup_cons_self, rfl, r0⟩
      . have h1 : (f == g) = false := by simpa using e
        simp only [List.lookup, h1] at h
        obtain ⟨v', f1, f2, f3, e1, e2, e3⟩ := RpA.lookup r h
        refine ⟨v', fp ++ f1, f2, f3, ?_, by rw [e2, List.append_assoc], e3⟩
        simp only [List.lookup, h1]
        exact e1
theorem sd' {f : String} : ∀ {fv : List (String × V)} {os : List M.O}, fv.length = os.length -> ((fv.map (·.1)).zip os).lookup f = none -> fv.lookup f = none
  | [], _, _, _ => rfl
  | (g, v) :: fv, [], h, _ => by cases h
  | (g, v) :: fv, o :: os, hl, h => by
    rw [List.map_cons, List.zip_cons_cons] at h
    by_cases e : f = g
    . subst e
      rw [List.lookup_cons_self] at h
      cases h
    . have h1 : (f == g) = false := by simpa using e
      simp only [List.lookup, h1] at h ⊢
      exact sd' (Nat.succ.inj hl) h
def putS (f : String) (v : V) : List (String × V) -> List (String × V)
  | [] => [(f, v)]
  | (g, x) :: r => if g = f then (g, v) :: r else (g, x) :: putS f v r
theorem n9' (f : String) (v : V) : ∀ fv : List (String × V), putF (Str.ofString f) v (fv.map tb') = (putS f v fv).map tb'
  | [] => rfl
  | (g, x) :: r => by
    rw [List.map_cons]
    show (if Str.ofString g = Str.ofString f then _ else _) = _
    unfold putS
    by_cases h : g = f
    . rw [if_pos h, if_pos (by rw [h])]
      rfl
    . rw [if_neg h, if_neg (fun e => h (gz' e)), n9' f v r]
      rfl
theorem RpA.putS {f : String} {o : M.O} {v : V} (q : Rp K F T v o fq) : ∀ {fv : List (String × V)} {os : List M.O} {fp : Fp}, RpA K F T (fv.map (·.2)) os fp →
    ∃ os' fp', M.rP' f o ((fv.map (·.1)).zip os) = ((S.putS f v fv).map (·.1)).zip os' /\ RpA K F T ((S.putS f v fv).map (·.2)) os' fp' /\ Part fp' (fq ++ fp)
  | [], _, _, r => by
    cases r
    exact ⟨[o], fq ++ [], rfl, .cons q .nil, by walk_at "parts"⟩
  | (g, x) :: fv, _, _, r => by
    cases r with
    | @cons _ _ o1 os fp fp2 r0 r =>
      unfold S.putS
      by_cases h : g = f
      . refine ⟨o :: os, fq ++ fp2, ?_, ?_, by walk_at "parts"⟩
        . rw [if_pos h, List.map_cons, List.zip_cons_cons]
          show (if g = f then _ else _) = _
          rw [if_pos h, List.map_cons, List.zip_cons_cons]
        . rw [if_pos h]
          exact .cons q r
      . obtain ⟨os', fp', h1, h2, h3⟩ := RpA.putS q r
        refine ⟨o1 :: os', fp ++ fp', ?_, ?_, ?_⟩
        . rw [if_neg h, List.map_cons, List.zip_cons_cons]
          show (if g = f then _ else _) = _
          rw [if_neg h, h1, List.map_cons, List.zip_cons_cons]
        . rw [if_neg h]
          exact .cons r0 h2
        . have h4 : Part (fp ++ fp') (fp ++ (fq ++ fp2)) := .app .refl h3
          refine h4.trans ?_
          walk_at "parts"
theorem Rel.wins (rel : Rel K ρ σ H F T fr) {n : Nat} {C : String} {fs : List (String × M.O)} (h : ρ.w[n]? = some (.ins C fs)) :
    ∃ (a dx : Addr) (fv : List (String × V)) (os : List M.O) (f2 : Fp), T[n]? = some a /\ fs = (fv.map (·.1)).zip os /\ H a = some (.ins (He.ga K C) dx (fv.map tb')) /\ RpA K F T (fv.map (·.2)) os f2 ∧
    (∃ f0, FpH F H ((a, .ins (He.ga K C) dx (fv.map tb')) :: (f2 ++ f0))) ∧
    ∀ (fv' : List (String × V)) (os' : List M.O) (f2' fr' : Fp), RpA K F T (fv'.map (·.2)) os' f2' -> Part (f2' ++ fr') (f2 ++ fr) -> Rel K ⟨ρ.env, ρ.w.set n (.ins C ((fv'.map (·.1)).zip os'))⟩ σ (upd H a (.ins (He.ga K C) dx (fv'.map tb'))) F T fr' := by
  obtain ⟨fe, fw, re, rw, f⟩ := rel
  obtain ⟨a, f1, f2, f3, h1, rfl, h3, h4⟩ := rw.get h
  generalize eo : M.Ob.ins C fs = ob at h3
  cases h3 with
  | lst r => cases eo
  | dct _ r => cases eo
  | dcl _ r => cases eo
  | dcn _ _ r => cases eo
  | @ins dx C' fv os fp0 hd r =>
    cases eo
    have fA : FpH F H ((fe ++ f1) ++ ((a, .ins (He.ga K C) dx (fv.map tb')) :: (f3 ++ (fp0 ++ fr)))) := f.part (by walk_at "parts")
    refine ⟨a, dx, fv, os, fp0, h1, rfl, (f.at_ (a, .ins (He.ga K C) dx (fv.map tb')) (by simp)).1, r, ⟨fe ++ (f1 ++ (f3 ++ fr)), fA.part (by walk_at "parts")⟩, fun fv' os' f2' fr' r' pt => ?_⟩
    have e5 := h4 F T (.ins C ((fv'.map (·.1)).zip os')) ((a, .ins (He.ga K C) dx (fv'.map tb')) :: f2') .refl (.ins hd r')
    refine ⟨fe, _, re, e5, ?_⟩
    have fB := fA.write (o' := .ins (He.ga K C) dx (fv'.map tb'))
    refine fB.part ?_
    have pm := pt.m
    constructor
    . intro e h
      have := pm e
      simp only [List.mem_append, List.mem_cons] at *
      grind
    . intro x
      have := pt.c x
      simp only [keys, List.map_append, List.map_cons, List.count_append, List.count_cons] at *
      omega
theorem ut' {cs : List String} {f : String} {w : M.W} {x d : M.D} (h : M.h9' cs f w x = some d) : ∃ n C fs, x = .obj n /\ w[n]? = some (.ins C fs) /\ C ∈ cs /\ fs.lookup f = some (.fz d) := by
  unfold M.h9' at h
  split at h
  . rename_i n
    split at h
    . rename_i C fs e
      split at h
      . rename_i hC
        split at h
        . rename_i d' e2
          cases h
          exact ⟨n, C, fs, rfl, e, hC, e2⟩
        . cases h
      . cases h
    . cases h
  . cases h
theorem us' {cs : List String} {f : String} {ma : M.ME} (hC : ∀ C ∈ cs, Cls K (He.ga K C) /\ NoAttr K (He.ga K C) (Str.ofString f)) (h : qE K W (M.e8' cs ma f) σ H Q) : tFld K (qE K W ma) (Str.ofString f) σ H Q := by
  obtain ⟨ρ, F, T, fr, rel, h⟩ := h
  refine av' rel h fun dx ρ1 v H1 F1 T1 e1 z1 r1 h1 => ?_
  obtain ⟨d, ed, q⟩ := a8'.ofO h1
  obtain ⟨n, C, fs, rfl, ew, hm, el⟩ := ut' ed
  obtain ⟨a, dx, fv, os, f2, hT, rfl, hH, r, _, _⟩ := r1.wins ew
  obtain ⟨v', _, _, _, e2, _, e3⟩ := r.lookup el
  cases z1 with
  | obj t =>
    rw [hT] at t
    cases t
    cases e3 with
    | fz z => exact ⟨a, _, dx, _, v', rfl, hH, (hC C hm).1, (hC C hm).2, by rw [sc']; exact e2, q v' H1 F1 T1 e1 z r1⟩
theorem rD' {K : PySem.W.Frag} {w : M.W} {fr' : Fp} (r : ti' K w H F T fr) (p : Part fr' fr) : ti' K w H F T fr' := by
  obtain ⟨fe, fw, re, rw, f⟩ := r
  exact ⟨fe, fw, re, rw, f.part (.app .refl (.app .refl p))⟩
theorem bP'.frame {D : Ends} {r : M.Out} (h : bP' K W D F T fr r) (p : Part fr fq) : bP' K W D F T fq r := by
  cases r with
  | nx ρ => exact fun σ' H' F' T' e r => h σ' H' F' T' e (r.part p)
  | bk ρ => exact fun σ' H' F' T' e r => h σ' H' F' T' e (r.part p)
  | ct ρ => exact fun σ' H' F' T' e r => h σ' H' F' T' e (r.part p)
  | rt o w => exact fun v H' F' T' fp e z r => h v H' F' T' fp e z (rD' r (.app .refl p))
  | exc x ρ => exact fun σ' cls dd H' F' T' e z r => h σ' cls dd H' F' T' e z (r.part p)
  | bad => exact h
theorem EX.frame {x : M.Exc} (h : EX K W σ F T fr x ρ) (p : Part fr fq) : EX K W σ F T fq x ρ := fun cls dd H' F' T' e z r => h cls dd H' F' T' e z (r.part p)
theorem tN' {D : Ends} {m : M.ME} {k : M.D -> M.PSt -> M.Out} (rel : Rel K ρ σ H F T (fp ++ fr)) (h : bP' K W D F T fr ((m ρ).out k))
    (q : ∀ d ρ1 v H1 F1 T1, Ext F T F1 T1 -> Fz K F1 T1 v d -> Rel K ρ1 σ H1 F1 T1 (fp ++ fr) -> bP' K W D F1 T1 fr (k d ρ1) -> Q v H1) : qE K W m σ H Q :=
  ⟨ρ, F, T, fp ++ fr, rel, (fk' h).mono (fun d ρ1 h1 v H1 F1 T1 e z r => q d ρ1 v H1 F1 T1 e z r (h1.mono e)) fun _ _ z => z.frame (.right .refl)⟩
theorem wE' {cs : List String} {f : String} {o : M.O} {w w' : M.W} {x : M.D} (h : M.stF cs f o w x = some w') : ∃ n C fs, x = .obj n /\ w[n]? = some (.ins C fs) /\ C ∈ cs /\ fs.length < 1000 /\ w' = w.set n (.ins C (M.rP' f o fs)) := by
  unfold M.stF at h
  split at h
  . rename_i n
    split at h
    . rename_i C fs e
      split at h
      . rename_i hC
        cases h
        exact ⟨n, C, fs, rfl, e, hC.1, hC.2, rfl⟩
      . cases h
    . cases h
  . cases h
theorem ro' {cs : List String} {f : String} {ma : M.ME} {mo : M.MO} {D : Ends} (hC : ∀ C ∈ cs, Cls K (He.ga K C) /\ NoAttr K (He.ga K C) (Str.ofString f)) (h : qS K W (M.sFld cs ma f mo) D σ H) : sFld K (qE K W ma) (qO K W mo) (Str.ofString f) D σ H := by
  obtain ⟨ρ, F, T, fr, rel, h⟩ := h
  refine hM' rel h fun o ρ1 y H1 F1 T1 fp e1 z1 r1 h1 => ?_
  refine tN' r1 h1 fun d ρ2 x H2 F2 T2 e2 z2 r2 h2 => ?_
  cases es : M.stF cs f o ρ2.w d with
  | none => rw [es] at h2; exact h2.elim
  | some w' =>
    rw [es] at h2
    obtain ⟨n, C, fs, rfl, ew, hm, hl, rfl⟩ := wE' es
    obtain ⟨a, dx, fv, os, f2, hT, rfl, hH, r, _, back⟩ := r2.wins ew
    cases z2 with
    | obj t =>
      rw [hT] at t
      cases t
      obtain ⟨os', fp', p1, p2, p3⟩ := RpA.putS (z1.mono e2) r (f := f)
      have hlen := r.length
      rw [List.length_map] at hlen
      rw [List.length_zip, List.length_map, hlen, Nat.min_self] at hl
      refine ⟨a, _, dx, _, rfl, hH, (hC C hm).1, (hC C hm).2, by rw [List.length_map, hlen]; exact hl, ?_⟩
      rw [n9']
      refine h2 σ _ F2 T2 .refl ?_
      show Rel K ⟨ρ2.env, ρ2.w.set n (.ins C (M.rP' f o _))⟩ σ _ F2 T2 fr
      rw [p1]
      refine back _ _ fp' fr p2 ?_
      have h4 : Part (fp' ++ fr) ((fp ++ f2) ++ fr) := .app p3 .refl
      refine h4.trans ?_
      walk_at "parts"
theorem RpW.snoc {a : Addr} {ob : M.Ob} {fb : Fp} (q : RpOb K F T a ob fb) {l : List Addr} {w : M.W} {fw : Fp} (r : RpW K F T l w fw) : ∃ fw', RpW K F T (l ++ [a]) (w ++ [ob]) fw' /\ Part fw' (fb ++ fw) := by
  induction r with
  | nil => exact ⟨_, RpW.cons q .nil, by walk_at "parts"⟩
  | @cons a l ob w fa fb' r0 r ih =>
    obtain ⟨fw', q1, q2⟩ := ih
    refine ⟨fa ++ fw', .cons r0 q1, ?_⟩
    have p1 : Part (fa ++ fw') (fa ++ (fb ++ fb')) := .app .refl q2
    refine p1.trans ?_
    walk_at "parts"
theorem Rel.reenv {env : List (Option M.O)} {fe : Fp} {w' : M.W} {F0 : Hp} {T0 : List Addr} (re : RpE K F0 T0 σ env fe) (e : Ext F0 T0 F T) (r : ti' K (w') H F T (fp ++ (fe ++ fr))) : Rel K ⟨env, w'⟩ σ H F T (fp ++ fr) := by
  obtain ⟨fe', fw', re', rw', f'⟩ := r
  cases re'
  exact ⟨fe, fw', re.mono e, rw', f'.part (by walk_at "parts")⟩
theorem r6' {C : String} {init : M.MF} {as : M.MA} (h : qO K W (M.kJ' C init as) σ H Q) : vl' (He.ga K C) (spM K init) (WE W) (qA K W as) σ H Q := by
  obtain ⟨ρ, F, T, fr, rel, h⟩ := h
  refine dH' rel h fun ds ρ1 vs H1 F1 T1 e1 z1 r1 h1 => ?_
  intro x dx hx hdx hne
  obtain ⟨fe, fw, re, rw', f⟩ := r1
  have s1 : Same F1 (upd F1 dx (.own x)) := dg' (f.free hdx)
  have eT : Ext F1 T1 (upd F1 dx (.own x)) (T1 ++ [x]) := ⟨.of s1, ⟨[x], rfl⟩⟩
  have hn : (T1 ++ [x])[ρ1.w.length]? = some x := by rw [<- rw'.len, List.getElem?_append_right (Nat.le_refl _), Nat.sub_self]; rfl
  have qi : RpOb K (upd F1 dx (.own x)) (T1 ++ [x]) x (.ins C []) [(x, .ins (He.ga K C) dx [])] := RpOb.ins (fs := []) (os := []) (fp := []) upd_same .nil
  obtain ⟨fw', q1, q2⟩ := RpW.snoc qi (rw'.mono eT)
  have f1 : FpH (upd F1 dx (.own x)) (upd (upd H1 dx (.own x)) x (.ins (He.ga K C) dx [])) ((x, .ins (He.ga K C) dx []) :: (fe ++ (fw ++ fr))) := (f.new hdx).own (by rw [upd_ne (Ne.symm hne)]; exact hx)
  refine ⟨.obj ρ1.w.length :: ds, ρ1.w ++ [.ins C []], _, _, fe ++ fr, .cons (.obj hn) (z1.mono eT), ⟨[], fw', xk', q1, f1.part ?_⟩, ?_⟩
  . have p1 : Part ([] ++ (fw' ++ (fe ++ fr))) ([] ++ (([(x, .ins (He.ga K C) dx [])] ++ fw) ++ (fe ++ fr))) := .app .refl (.app q2 .refl)
    refine p1.trans ?_
    walk_at "parts"
  . cases em : init (.obj ρ1.w.length :: ds) (ρ1.w ++ [.ins C []]) with
    | bad => rw [em] at h1; exact h1.elim
    | ok o w' =>
      rw [em] at h1
      intro v H' F' T' fp e z r
      cases z with
      | fz z =>
        rename_i d
        cases d <;> try exact h1.elim
        refine ⟨z.non_inv, h1 (.ref x) H' F' T' [] (e1.trans (eT.trans e)) (.fz (.obj (e.get hn))) ?_⟩
        exact Rel.reenv (re.mono eT) e r
      | lst _ => exact h1.elim
      | tup _ => exact h1.elim
      | dct _ _ => exact h1.elim
      | dcl _ _ => exact h1.elim
      | dcn _ _ _ => exact h1.elim
    | exc x w' =>
      rw [em] at h1
      intro cls dd H' F' T' e z r
      refine h1 cls dd H' F' T' (eT.trans e) z ?_
      exact Rel.reenv (fp := []) (re.mono eT) e r
theorem sv' {cs : List String} {m : String} {w : M.W} {x : M.D} (h : M.jI' cs m w x = true) : ∃ C n fs, C ∈ cs /\ x = .obj n /\ w[n]? = some (.ins C fs) /\ fs.lookup m = none := by
  unfold M.jI' at h
  split at h
  . rename_i n
    split at h
    . rename_i C' fs e
      rw [Bool.and_eq_true, decide_eq_true_eq, Option.isNone_iff_eq_none] at h
      exact ⟨C', n, fs, h.1, rfl, e, h.2⟩
    . cases h
  . cases h
theorem kQ' {cs : List String} {m : String} {mf : M.MF} {ma : M.ME} {as : M.MA} (h : qO K W (M.cM' cs m mf ma as) σ H Q) : rb' K cs (Str.ofString m) (spM K mf) (WE W) (qE K W ma) (qA K W as) σ H Q := by
  obtain ⟨ρ, F, T, fr, rel, h⟩ := h
  refine av' rel h fun dx ρ1 v H1 F1 T1 e1 z1 r1 h1 => ?_
  split at h1
  . rename_i hi
    obtain ⟨C, n, fs, hC, rfl, ew, el⟩ := sv' hi
    obtain ⟨a, dx, fv, os, f2, hT, rfl, hH, r, _, _⟩ := r1.wins ew
    cases id z1 with
    | obj t =>
      rw [hT] at t
      cases t
      have hlen := r.length
      rw [List.length_map] at hlen
      refine ⟨C, hC, a, dx, _, rfl, hH, by rw [sc']; exact sd' hlen el, ?_⟩
      refine dH' r1 h1 fun ds ρ2 vs H2 F2 T2 e2 z2 r2 h2 => ?_
      obtain ⟨fe, fw, re, rw', f⟩ := r2
      refine ⟨.obj n :: ds, ρ2.w, F2, T2, fe ++ fr, .cons (z1.mono e2) z2, ⟨[], fw, xk', rw', f.part (by walk_at "parts")⟩, ?_⟩
      cases em : mf (.obj n :: ds) ρ2.w with
      | bad => rw [em] at h2; exact h2.elim
      | ok o w' =>
        rw [em] at h2
        exact fun v H' F' T' fp e z r => h2 v H' F' T' fp (e1.trans (e2.trans e)) z (Rel.reenv re e r)
      | exc x w' =>
        rw [em] at h2
        exact fun cls dd H' F' T' e z r => h2 cls dd H' F' T' e z (Rel.reenv (fp := []) re e r)
  . exact h1.elim
end
section
variable {X : Cx} {W : WX} {pos apos p pos' : Pos} {e o value : Expr} {es : List Expr} {ma : M.ME} {mo : M.MO} {as : M.MA} {k : Nat} {x : Str} {ps : List Str} {mf : M.MF}
theorem bH' {f : String} (cs : List String) (ha : SE X W e ma) (hC : ∀ C ∈ cs, Cls X.K (He.ga X.K C) /\ NoAttr X.K (He.ga X.K C) (Str.ofString f)) (hb : attributeBase e (Str.ofString f) X.env (eval e X.env) = eval e X.env := by rfl) :
    SE X W (.Attribute e (Str.ofString f) pos) (M.e8' cs ma f) := PE.imp (pe_fld ha hb) fun _ _ _ h => us' hC h
theorem fd' {f : String} (cs : List String) (ha : SE X W o ma) (hv : SO X W value mo) (hC : ∀ C ∈ cs, Cls X.K (He.ga X.K C) /\ NoAttr X.K (He.ga X.K C) (Str.ofString f)) (hs : swapsWith value (some (.Attribute o (Str.ofString f) pos')) pos.line X.env = pure false := by rfl) :
    SS X W (.Assign [.Attribute o (Str.ofString f) pos'] value pos) (M.sFld cs ma f mo) := PS.imp (ps_fld ha hv hs) fun _ _ _ h => ro' hC h
theorem lQ' {C : String} (F : OgM X.prog X.w X.K X.mg X.base k (He.ga X.K C) "__init__" ps (spM X.K mf)) (hr : RoomG (k + 1) X.A) (hg : Gl X x) (Mk' : Mk X.K (He.ga X.K C) (He.ma X.K (He.ga X.K C) "__init__")) (hm : X.mg x = some (.ref (He.ga X.K C))) (tk : Takes X W)
    (ha : SA X W (e :: es) as) (hdb : (x == ("__debug__" : Str)) = false := by decide) (he : starEach (e :: es) X.env = (false, eval e X.env) :: starEach es X.env := by rfl) (hpl : (backTo pos (starEach es X.env)).any (·.1) = false := by rfl) :
    SO X W (.Call (.Name x p) (e :: es) [] pos) (M.kJ' C mf as) := PE.imp (tW' F hr hg Mk' hm tk ha hdb he hpl) fun _ _ _ h => r6' h
theorem ri' {C m : String} {cs : List String} {pl : Sem Bool} (he : SE X W o ma) (F : OgM X.prog X.w X.K X.mg X.base k (He.ga X.K C) (Str.ofString m) ps (spM X.K mf)) (hr : RoomG k X.A) (hm : jU' X.K cs (Str.ofString m) (He.ma X.K (He.ga X.K C) (Str.ofString m))) (tk : Takes X W)
    (ha : SA X W (e :: es) as)
    (hst : starEach (e :: es) X.env = (false, eval e X.env) :: starEach es X.env := by rfl) (hpl : (backTo pos (starEach es X.env)).any (·.1) = false := by rfl)
    (ht : eval (.Call (.Attribute o (Str.ofString m) apos) (e :: es) [] pos) X.env = (do
      let ov ← eval o X.env
      standAt apos.atName
      let (f, first) ← holding [ov] (getMethod ov (Str.ofString m) pl)
      callWith pos f first (backTo pos (starEach (e :: es) X.env)) (backToKw pos (keywordEach [] X.env))) := by rfl) :
    SO X W (.Call (.Attribute o (Str.ofString m) apos) (e :: es) [] pos) (M.cM' cs m mf ma as) := PE.imp (tV' he F hr hm tk ha hst hpl ht) fun _ _ _ h => kQ' h
theorem bD' {C m : String} {cs : List String} {pl : Sem Bool} (he : SE X W o ma) (F : OgM X.prog X.w X.K X.mg X.base k (He.ga X.K C) (Str.ofString m) ps (spM X.K mf)) (hr : RoomG k X.A) (hm : jU' X.K cs (Str.ofString m) (He.ma X.K (He.ga X.K C) (Str.ofString m))) (tk : Takes X W)
    (ht : eval (.Call (.Attribute o (Str.ofString m) apos) [] [] pos) X.env = (do
      let ov ← eval o X.env
      standAt apos.atName
      let (f, first) ← holding [ov] (getMethod ov (Str.ofString m) pl)
      callWith pos f first (backTo pos (starEach [] X.env)) (backToKw pos (keywordEach [] X.env))) := by rfl) :
    SO X W (.Call (.Attribute o (Str.ofString m) apos) [] [] pos) (M.cM' cs m mf ma M.aZ') := PE.imp (rU' he F hr hm tk ht) fun σ H Q h => by
  have h2 := kQ' h
  obtain ⟨ρ, F, T, fr, rel, q⟩ := h2
  refine ⟨ρ, F, T, fr, rel, q.mono (fun d ρ1 h1 v H1 F1 T1 e z r => ?_) fun _ _ z => z⟩
  obtain ⟨C, hC, a, dx, fs, e1, e2, e3, ρ2, F2, T2, fr2, rel2, q2⟩ := h1 v H1 F1 T1 e z r
  exact ⟨C, hC, a, dx, fs, e1, e2, e3, q2 [] H1 F2 T2 .refl .nil rel2⟩
end
end S
namespace S
open PySem PySem.Spec PyProof.Rows L2
variable [Wd] [Hot]
local macro_rules | `(tactic| walk_at "parts") => `(tactic| (constructor; (intro e h; simp only [List.mem_append, List.mem_cons, List.not_mem_nil] at *; grind); (intro x; simp only [keys, List.map_append, List.map_cons, List.map_nil, List.count_append, List.count_cons, List.count_nil] at *; omega)))
section
variable {K : PySem.W.Frag} {W : WX} {Q : VK} {σ : St} {H : Hp}
theorem zZ' : Op1 K M.zV' (rU fun i => .int (-i)) := by
  intro F H T fp x dx dz Q f hx h k
  cases dx <;> try (cases h; done)
  cases hx; cases h
  exact ⟨_, rfl, k.here f (.int _)⟩
theorem jJ' {F : Hp} {T : List Addr} : ∀ {vs : List V} {ds : List M.D} {ns : List Int}, FzA K F T vs ds -> M.bU' ds = some ns -> vs = ns.map V.int
  | _, _, ns, .nil, h => by cases h; rfl
  | _, d :: ds, ns, .cons a r, h => by
    cases d <;> try (cases h; done)
    rename_i b
    cases q : M.bU' ds with
    | none => simp only [M.bU', q] at h; cases h
    | some cs =>
      simp only [M.bU', q, Option.map_some] at h
      cases h
      rw [a.int_inv, jJ' r q]
      rfl
theorem FzA.rgI {F : Hp} {T : List Addr} : ∀ ns : List Int, FzA K F T (ns.map V.int) (ns.map M.D.int)
  | [] => .nil
  | n :: r => .cons (.int n) (FzA.rgI r)
theorem kS' : ∀ (ns : List Int) (m : Int), m ∈ ns -> (∀ y ∈ ns, y <= m) -> M.ol' ns = m
  | [x], m, h, _ => by rw [List.mem_singleton.mp h]; rfl
  | x :: y :: r, m, h, hm => by
    show max x (M.ol' (y :: r)) = m
    have ge : ∀ (l : List Int) (a : Int), l ≠ [] -> (∀ z ∈ l, z <= a) -> M.ol' l <= a := by
      intro l
      induction l with
      | nil => intro a h; exact absurd rfl h
      | cons z t ih =>
        intro a _ hz
        cases t with
        | nil => exact hz z (by simp)
        | cons u t =>
          show max z (M.ol' (u :: t)) <= a
          have := ih a (by simp) fun q hq => hz q (by simp [hq])
          have := hz z (by simp)
          omega
    have ge2 := ge (y :: r) m (by simp) fun z hz => hm z (List.mem_cons_of_mem _ hz)
    have hx := hm x List.mem_cons_self
    rcases List.mem_cons.mp h with rfl | h
    . omega
    . rw [kS' (y :: r) m h fun z hz => hm z (List.mem_cons_of_mem _ hz)]
      omega
def oh' (c : Nat) : Str := ⟨#[c]⟩
def tt' (z : Str) : Nat := z.cps.toList.headD 0
theorem oa' {ys : List Str} {l : List Nat} (h : ys.Perm (l.map oh')) : ∃ l' : List Nat, ys = l'.map oh' /\ l'.Perm l := by
  refine ⟨ys.map tt', ?_, ?_⟩
  . rw [List.map_map]
    have : ∀ y ∈ ys, (oh' ∘ tt') y = y := fun y hy => by
      obtain ⟨c, _, rfl⟩ := List.mem_map.mp (h.subset hy)
      rfl
    exact (List.map_congr_left this).trans (List.map_id ys) |>.symm
  . have := h.map tt'
    rw [List.map_map] at this
    have e : l.map (tt' ∘ oh') = l := (List.map_congr_left fun c _ => rfl).trans (List.map_id l)
    rw [e] at this
    exact this
theorem o8' : ∀ (l : List Nat) (c : Nat), risingS (oh' c) (l.map oh') = true -> c <= l.headD c /\ sortedS (l.map oh') = true
  | [], c, _ => ⟨Nat.le_refl c, rfl⟩
  | e :: l, c, h => by
    rw [List.map_cons] at h ⊢
    unfold risingS at h
    rw [Bool.and_eq_true] at h
    obtain ⟨h1, h2⟩ := h
    refine ⟨?_, h2⟩
    show c <= e
    simp [ltCps, oh'] at h1
    omega
theorem fS' : ∀ l : List Nat, sortedS (l.map oh') = true -> l.Pairwise (· <= ·)
  | [], _ => .nil
  | c :: l, h => by
    obtain ⟨h1, h2⟩ := o8' l c h
    have ih := fS' l h2
    refine List.pairwise_cons.mpr ⟨fun d hd => ?_, ih⟩
    cases l with
    | nil => cases hd
    | cons e t =>
      have hce : c <= e := h1
      cases hd with
      | head => exact hce
      | tail _ hd => exact Nat.le_trans hce ((List.pairwise_cons.mp ih).1 d hd)
theorem n0' {l l' : List Nat} (p : l'.Perm l) (s : l'.Pairwise (· <= ·)) : l' = M.dY' l := by
  refine List.Perm.eq_of_pairwise (le := (· <= ·)) (fun a b _ _ h1 h2 => Nat.le_antisymm h1 h2) s ?_ (p.trans (List.mergeSort_perm l _).symm)
  exact (List.pairwise_mergeSort (le := fun a b => decide (a <= b)) (fun a b c h1 h2 => decide_eq_true (Nat.le_trans (of_decide_eq_true h1) (of_decide_eq_true h2))) (fun a b => by
    rw [Bool.or_eq_true, decide_eq_true_eq, decide_eq_true_eq]; omega) l).imp fun h => of_decide_eq_true h
theorem n1' {l l' : List Int} (p : l'.Perm l) (s : l'.Pairwise (· <= ·)) : l' = M.o4' l := by
  refine List.Perm.eq_of_pairwise (le := (· <= ·)) (fun a b _ _ h1 h2 => Int.le_antisymm h1 h2) s ?_ (p.trans (List.mergeSort_perm l _).symm)
  exact (List.pairwise_mergeSort (le := fun a b => decide (a <= b)) (fun a b c h1 h2 => decide_eq_true (Int.le_trans (of_decide_eq_true h1) (of_decide_eq_true h2))) (fun a b => by
    rw [Bool.or_eq_true, decide_eq_true_eq, decide_eq_true_eq]; omega) l).imp fun h => of_decide_eq_true h
def rI' (K : PySem.W.Frag) : List V -> Hp -> VK -> Prop := fun vs H Q => kz' vs H Q \/ rSortedI K vs H Q \/ rSortedS K vs H Q
theorem px' {X : Cx} (hc : X.calm = true) : CallR X (.builtin "sorted") (rI' X.K) := (mA' hc).or (cr_sortedI.or cr_sortedS)
theorem kr' {s : M.Tx} {c : Nat} : c ∈ M.dY' s ↔ c ∈ s := (List.mergeSort_perm s _).mem_iff
theorem of' {K : PySem.W.Frag} {F : Hp} {T : List Addr} : ∀ {vs : List V} {ds : List M.D} {cs : List Nat}, FzA K F T vs ds -> M.og' ds = some cs -> vs = (cs.map oh').map V.str /\ ∀ c ∈ cs, c < 1114112
  | _, [], _, .nil, h => by cases h; exact ⟨rfl, fun _ h => nomatch h⟩
  | _, d :: ds, cs, .cons z r, h => by
    unfold M.og' at h
    split at h
    . rename_i e
      cases e
    . rename_i c r' e
      cases e
      obtain ⟨cs', h1, rfl⟩ := Option.map_eq_some_iff.mp h
      obtain ⟨e2, h2⟩ := of' r h1
      obtain ⟨rfl, o⟩ := z.str_inv
      refine ⟨by rw [e2]; rfl, fun c' hc => ?_⟩
      rcases List.mem_cons.mp hc with rfl | hc
      . exact o.1 _ List.mem_cons_self
      . exact h2 _ hc
    . cases h
theorem uN' : Bi1 K M.eZ' (rI' K) := by
  intro F H T fp x dx dz Q f hx h k
  cases dx <;> try (cases h; done)
  . obtain ⟨rfl, o⟩ := hx.str_inv
    rename_i s
    simp only [M.eZ'] at h
    split at h
    . rename_i hl
      cases h
      refine .inl ⟨_, rfl, by rw [cI']; exact hl, fun ys p H' hp hs hn s' e => ?_⟩
      obtain ⟨l', rfl, p'⟩ := oa' hp
      rw [n0' p' (fS' l' hs)] at *
      have z : FzA K F T (((M.dY' s).map oh').map V.str) ((M.dY' s).map M.chD) := by
        rw [List.map_map]
        exact FzA.chars fun c hc => o.1 c (kr'.mp hc)
      have hF : F p = none := f.free hn
      have sF : Same F (upd F p (.lst (((M.dY' s).map oh').map V.str))) := dg' hF
      refine k (.ref p) H' _ sF (.lst upd_same (z.mono (.of sF))) ⟨fun a u ha => ?_, fun q hq => ?_, f.nd, f.tbs (fun a h1 h2 h3 => ?_) fun c q h => lW' sF h⟩
      . by_cases hap : a = p
        . subst hap
          rw [upd_same] at ha
          cases ha
          exact e
        . rw [upd_ne hap] at ha
          exact s' _ _ (f.low _ _ ha)
      . have np : q.1 ≠ p := ne_of_none (f.at_ q hq).1 hn
        exact ⟨s' _ _ (f.at_ q hq).1, by rw [upd_ne np]; exact (f.at_ q hq).2⟩
      . have hap : a ≠ p := fun z => h2 (by rw [z]; exact hn)
        refine ⟨by rw [upd_ne hap]; exact h1, ?_, h3⟩
        cases hh : H a with
        | none => exact absurd hh h2
        | some o => exact s' _ _ hh
    . cases h
  . obtain ⟨a, vs, rfl, ha, za⟩ := hx.lst_inv
    rename_i ds
    cases q : M.bU' ds with
    | none =>
      simp only [M.eZ', q] at h
      obtain ⟨cs, h1, h2⟩ := Option.bind_eq_some_iff.mp h
      split at h2
      . rename_i hl
        cases h2
        obtain ⟨e2, hc⟩ := of' za h1
        refine .inr (.inr ⟨a, cs.map oh', rfl, by rw [<- e2]; exact SqL.of (f.low _ _ ha), by rw [List.length_map]; exact hl, fun ys p hp hs hn => ?_⟩)
        obtain ⟨l', rfl, p'⟩ := oa' hp
        rw [n0' p' (fS' l' hs)]
        have z : FzA K F T (((M.dY' cs).map oh').map V.str) ((M.dY' cs).map M.chD) := by
          rw [List.map_map]
          exact FzA.chars fun c hc' => hc c (kr'.mp hc')
        exact k.newL f z hn
      . cases h2
    | some ns =>
      simp only [M.eZ', q] at h
      cases h
      refine .inr (.inl ⟨a, ns, rfl, by rw [<- jJ' za q]; exact SqL.of (f.low _ _ ha), fun ns' p hp hs hn => ?_⟩)
      rw [n1' hp hs]
      exact k.newL f (FzA.rgI _) hn
theorem s5' (a b : M.Tx) (i : Nat) : StrLaws.At (sx a) (sx b) (sx a).length i ↔ M.vQ' a b i = true := by
  rw [<- xF', Bool.and_eq_true, decide_eq_true_eq]
  exact Iff.rfl
theorem tS' {p : Nat -> Bool} {n i : Nat} (h : p i = true) (hi : i < n) (hm : ∀ k, k < i -> p k = false) : (List.range n).find? p = some i := by
  rw [List.find?_eq_some_iff_getElem]
  refine ⟨h, i, by simpa using hi, by simp, fun j hj => ?_⟩
  rw [List.getElem_range, hm j hj]
  rfl
theorem oA' (a b : M.Tx) : Txt.find (sx a) (sx b) = M.fnd (M.oC' a b) := by
  rcases find_whole (sx a) (sx b) with ⟨h1, h2⟩ | ⟨i, h1, h2, h3⟩
  . rw [h1]
    have : M.oC' a b = none := by
      unfold M.oC'
      rw [List.find?_eq_none]
      intro i _ h
      exact h2 i ((s5' a b i).mpr h)
    rw [this]
    rfl
  . rw [h1]
    have hi : M.vQ' a b i = true := (s5' a b i).mp h2
    have hl : i < a.length + 1 := by
      unfold M.vQ' at hi
      rw [Bool.and_eq_true, decide_eq_true_eq] at hi
      omega
    have : M.oC' a b = some i := tS' hi hl fun k hk => by
      have := h3 k hk
      rw [s5'] at this
      exact Bool.eq_false_iff.mpr this
    rw [this]
    rfl
theorem FzA.str1 {F : Hp} {T : List Addr} {xs : List V} {b : M.Tx} (h : FzA K F T xs [.str b]) : xs = [.str (sx b)] /\ okT b := by
  obtain ⟨v, rfl, z⟩ := h.one
  obtain ⟨rfl, o⟩ := z.str_inv
  exact ⟨rfl, o⟩
theorem z5' : MtD K M.r9' (fun x xs H Q => ∃ a b, x = .str a /\ xs = [.str b] /\ Q (.int (Txt.find a b)) H) := by
  intro F H T fp s xs ds dz Q f o hx h k
  unfold M.r9' at h
  split at h
  . obtain ⟨rfl, o2⟩ := hx.str1
    cases h
    exact ⟨_, _, rfl, rfl, by rw [oA']; exact k.here f (.int _)⟩
  . cases h
theorem pd' {a b : M.Tx} {i : Nat} (h : M.oC' a b = some i) : ∃ rest, Builtin.Str.occurrences (sx a) (sx b) 0 (sx a).length 1 = i :: rest := by
  have h1 := oA' a b
  rw [h] at h1
  unfold Txt.find at h1
  cases e : Builtin.Str.occurrences (sx a) (sx b) 0 (sx a).length 1 with
  | nil => rw [e] at h1; exact absurd h1 (by show ¬ (-1 : Int) = (i : Int); omega)
  | cons j rest =>
    rw [e] at h1
    have h2 : (j : Int) = (i : Int) := h1
    exact ⟨rest, by rw [show j = i by omega]⟩
theorem xn' : MtD K M.kU' rM' := by
  intro F H T fp s xs ds dz Q f o hx h k
  unfold M.kU' at h
  split at h
  . obtain ⟨rfl, o2⟩ := hx.str1
    rename_i b
    cases q : M.oC' s b with
    | none => rw [q] at h; cases h
    | some i =>
      rw [q] at h
      cases h
      obtain ⟨rest, e⟩ := pd' q
      exact ⟨_, _, i, rest, rfl, rfl, e, k.here f (.int _)⟩
  . cases h
def CW' : M.D -> Option Key
  | .int i => some (.inl i)
  | .str s => some (.inr (sx s))
  | _ => none
theorem h6' {d : M.D} {k : Key} (h : CW' d = some k) : kD k = d := by
  cases d <;> cases h <;> rfl
theorem k0' {F : Hp} {T : List Addr} {v : V} {d : M.D} {k : Key} (z : Fz K F T v d) (h : CW' d = some k) : v = kV k := by
  cases d <;> cases h
  . cases z; rfl
  . obtain ⟨rfl, _⟩ := z.str_inv; rfl
end
section
variable {X : Cx} {W : WX} {pos p pos' : Pos} {a b e : Expr} {ma mb : M.ME} {mo : M.MO} {σ : St} {H : Hp} {Q : VK}
theorem dP' {x : Str} (t : String) (ht : t ∈ ["bool", "int", "str", "tuple", "list", "dict"]) (hg : Gl X x) (hm : X.mg x = none) (hv : bootBuiltins x = some (.builtin "isinstance")) (ha : SE X W a ma) (hb : PE X b (tC (.ty t))) (hn : x ≠ "__name__" := by decide) (hdb : (x == ("__debug__" : Str)) = false := by decide)
    (he : starEach [a, b] X.env = (false, eval a X.env) :: starEach [b] X.env := by rfl) (he2 : starEach [b] X.env = (false, eval b X.env) :: starEach [] X.env := by rfl) (hpl : (backTo pos (starEach [b] X.env)).any (·.1) = false := by rfl) : SE X W (.Call (.Name x p) [a, b] [] pos) (M.eUn (M.ca' t) ma) :=
  PE.imp (pe_callB call_isi hg hm hv (pa_cons ha (pa_cons hb pa_nil he2) he) hn hdb he hpl) fun σ H Q ⟨ρ, F, T, fr, rel, h⟩ => by
    refine av' rel h fun dx ρ1 v H1 F1 T1 e1 z1 r1 h1 => ?_
    obtain ⟨dz, ez, q⟩ := a8'.ofO h1
    unfold M.ca' at ez
    cases eq : M.tyn dx with
    | none => rw [eq] at ez; cases ez
    | some n =>
      rw [eq] at ez
      cases ez
      obtain ⟨fp, f, _⟩ := r1.fp
      exact Cc' (vk' f.low z1 eq) (kit_ty (xr' n (wx' eq) t ht)) (q _ H1 F1 T1 e1 (.bl _) r1)
theorem hD' : SO X W (.Dict [] [] pos) M.kK' := PE.imp pe_dnewK fun σ H Q ⟨ρ, F, T, fr, rel, h⟩ => fun p hp => by
  have z : Rp X.K F T (.ref p) (.dct [] []) [(p, .dK [])] := Rp.dct (kvs := []) .nil .nil
  exact h (.ref p) _ F T _ .refl z (rel.own hp)
end
end S
namespace S
open PySem PySem.Spec PyProof.Rows L2
variable [Wd] [Hot]
section
variable {X : Cx} {W : WX} {K : PySem.W.Frag} {D : Ends} {σ : St} {H : Hp} {F : Hp} {T : List Addr} {fr : Fp}
abbrev Hm := List ((String -> Option Bool) × (M.Exc -> M.MS))
def tsM (K : PySem.W.Frag) (h : M.Exc -> M.MS) : Addr -> Value -> Option Addr -> TS := fun _ cls _ D σ H => ∃ e : M.Exc, cls = .ref (He.ga K e.cls) /\ qS K W0 (h e) D σ H
inductive HdsM (X : Cx) : List ExceptHandler -> Hm -> List (Value × (Addr -> Value -> Option Addr -> TS)) -> Prop
  | nil : HdsM X [] [] []
  | cons {x : Str} {c : Value} {g : String -> Option Bool} {h : M.Exc -> M.MS} {b₀ : Stmt} {suite : List Stmt} {np pos' : Pos} {hds : List ExceptHandler} {l : Hm} {l' : List (Value × (Addr -> Value -> Option Addr -> TS))} (hc : Names X x c)
      (hg : ∀ y b, g y = some b -> PySem.W.exmOne X.K (.ref (He.ga X.K y)) c = some b)
      (hsu : ∀ (e : M.Exc) (a : Addr) (oe : Obj) (d : Option Addr) (pn : List (Addr × Obj)), Zc (.ref (He.ga X.K e.cls)) d oe -> (∃ vs, oe.data = .fields vs) -> SSs (X.suite a ((a, oe) :: pn)) W0 (b₀ :: suite) (h e)) (r : HdsM X hds l l') :
      HdsM X (.ExceptHandler (some (.Name x np)) none (b₀ :: suite) pos' :: hds) ((g, h) :: l) ((c, tsM X.K h) :: l')
theorem nT' {h : M.Exc -> M.MS} {b : List Stmt} (hsu : ∀ (e : M.Exc) (a : Addr) (oe : Obj) (d : Option Addr) (pn : List (Addr × Obj)), Zc (.ref (He.ga X.K e.cls)) d oe -> (∃ vs, oe.data = .fields vs) -> SSs (X.suite a ((a, oe) :: pn)) W0 b (h e)) :
    ∀ (a : Addr) (oe : Obj) (cls : Value) (d : Option Addr) (pn : List (Addr × Obj)), Zc cls d oe -> (∃ vs, oe.data = .fields vs) -> PSs (X.suite a ((a, oe) :: pn)) b (tsM X.K h a cls d) := by
  intro a oe cls d pn hz hf
  refine ⟨fun pins s σ H D I q => ?_⟩
  obtain ⟨e, rfl, q⟩ := q
  exact (hsu e a oe d pn hz hf).run pins s σ H D I q
theorem HdsM.ok {hds : List ExceptHandler} {l : Hm} {l' : List (Value × (Addr -> Value -> Option Addr -> TS))} (h : HdsM X hds l l') : HdsOk X hds l' := by
  induction h with
  | nil => exact .nil
  | cons hc hg hsu r ih => exact .cons hc (nT' hsu) ih
theorem bP'.noX {r : M.Out} (h : bP' K W D F T fr (M.Ed' r)) : bP' K W0 D F T fr r := by
  cases r with
  | exc x ρ => exact h.elim
  | nx ρ => exact h
  | bk ρ => exact h
  | ct ρ => exact h
  | rt o w => exact h
  | bad => exact h
theorem Rel.off {K : PySem.W.Frag} {ρ : M.PSt} (r : Rel K ρ σ H F T fr) (i : Nat) (x : Option V) : Rel K ⟨ρ.env.set i none, ρ.w⟩ (σ.set i x) H F T fr := by
  obtain ⟨fe, fw, re, rw, f⟩ := r
  obtain ⟨fq, h1, h2⟩ := re.drop i x
  exact ⟨fq, fw, h1, rw, f.part (.app h2 .refl)⟩
end
end S
namespace S
open PySem PySem.Spec PyProof.Rows L2
variable [Wd] [Hot]
section
variable {X : Cx} {W : WX} {pos p : Pos} {a b e : Expr} {st : Stmt} {es : List Expr} {ma mb : M.ME} {as : M.MA}
theorem wF' {i : Nat} (h : PE X e (tVar i)) : SO X W e (M.oV i) := PE.imp h fun σ H Q ⟨ρ, F, T, fr, rel, h⟩ => by
  unfold M.oV at h
  split at h
  . rename_i d e
    obtain ⟨fe, fw, re, rw, f⟩ := id rel
    obtain ⟨v, f1, f2, f3, h1, rfl, h3, h4, h5⟩ := re.get e
    cases h3 with
    | fz z => exact ⟨v, h1, h v H F T [] .refl (.fz z) rel⟩
  . exact h.elim
  . exact h.elim
  . rename_i o _ hne hnc e
    obtain ⟨fe, fw, re, rw, f⟩ := rel
    obtain ⟨v, f1, f2, f3, h1, rfl, h3, h4, h5⟩ := re.get e (M.d3' (fun z => hne (by rw [z])) fun z => hnc (by rw [z]))
    refine ⟨v, h1, h v H F T f2 .refl h3 ⟨_, fw, h4, rw, f.part ?_⟩⟩
    constructor
    . intro e h
      simp only [List.mem_append] at *
      grind
    . intro x
      simp only [keys, List.map_append, List.count_append] at *
      omega
  . exact h.elim
theorem iW' (h : SA X W es as) : SO X W (.List es pos) (M.te' (M.pL' as)) := PE.imp (pe_lst h) fun σ H Q ⟨ρ, F, T, fr, rel, h⟩ => by
  have h0 := a8'.bind h
  refine dH' rel h0 fun ds ρ1 vs H1 F1 T1 e1 z1 r1 h1 => ?_
  split at h1
  . rename_i hl
    refine ⟨by rw [z1.length, bF']; exact hl, fun p hp => ?_⟩
    exact h1 (.ref p) _ F1 T1 _ e1 (.lst (RpA.of_fz z1)) (r1.own hp)
  . exact h1.elim
theorem lM' : SS X W st M.BH' := ⟨fun _ _ _ _ _ _ ⟨_, _, _, _, _, h⟩ => h.elim⟩
end
section
variable {K : PySem.W.Frag} {F : Hp} {T : List Addr}
end
section
variable {X : Cx} {W : WX} {pos p tpos : Pos} {a : Expr} {ma : M.ME} {σ : St} {H : Hp} {elts : List Expr} {kk : Nat}
end
theorem vR' {K : PySem.W.Frag} {F : Hp} {T : List Addr} {x : Str} {s : M.Tx} (hs : x = sx s) (ho : BO' s = true) : Fz K F T (.str x) (.str s) := by subst hs; exact .str (vE' ho)
end S
namespace S
open PySem PySem.Spec PyProof.Rows L2
variable [Wd] [Hot]
section
variable {X : Cx} {W : WX} {K : PySem.W.Frag} {pos p : Pos} {a b : Expr} {ma : M.ME} {F H : Hp} {T : List Addr}
end
def yA' [Wd] (H : Hp) : Hp := fun b => if b ∈ Wd.ts.map (·.1) then none else H b
theorem r1' [Wd] (H : Hp) : Same (yA' H) H := fun b o h => by
  unfold yA' at h
  split at h
  . cases h
  . exact h
theorem r2' [Wd] {H : Hp} (hT : ∀ p ∈ Wd.ts, H p.1 = some (.tbl #[])) {b : Addr} {o : HO} (h : H b = some o) (ho : o ≠ .tbl #[]) : yA' H b = some o := by
  unfold yA'
  rw [if_neg fun z => ?_]
  . exact h
  . obtain ⟨p, hp, e⟩ := List.mem_map.mp z
    have := hT p hp
    rw [e, h] at this
    exact ho (Option.some.inj this)
theorem ud' [Wd] {K : PySem.W.Frag} {H : Hp} (hT : ∀ p ∈ Wd.ts, H p.1 = some (.tbl #[])) {a : Addr} {vs : List V} (h : SqL K H a vs) : SqL K (yA' H) a vs := by
  rcases h with (h | ⟨o, h⟩) | h
  . exact .inl (.inl (r2' hT h (by intro z; cases z)))
  . exact .inl (.inr ⟨o, r2' hT h (by intro z; cases z)⟩)
  . exact .inr h
theorem sn' [Wd] (K : PySem.W.Frag) (H : Hp) (hT : ∀ p ∈ Wd.ts, H p.1 = some (.tbl #[])) (a : Addr) (ns : List Int) (hn : ns.length <= 63) (hs : SqL K H a (ns.map V.int)) {m : M.MF} (h : ∀ ns : List Int, ns.length <= 63 -> ∃ w, m [.scr (ns.map .int)] [] = .ok (.fz (.bl true)) w) :
    spM K m [.ref a] H (fun v _ => v = .bl true) L2.E0 := by
  obtain ⟨w, e⟩ := h ns hn
  refine ⟨[.scr (ns.map .int)], [], yA' H, [], [], .cons (.scr (ud' hT hs) (FzA.rgI ns)) .nil, ⟨[], [], xk', .nil, ⟨r1' H, fun _ h => (nomatch h), .nil, fun p hp => ⟨if_pos (List.mem_map_of_mem hp), fun _ h => (nomatch h), #[], hT p hp, True.intro, fun pos cv hc => ?_⟩⟩⟩, ?_⟩
  . have z : codeAmong pos [] = some cv := hc
    simp [codeAmong] at z
  rw [e]
  intro v H' F' T' fp _ z _
  cases z with
  | fz z => exact z.bl_inv
end S
namespace S
open PySem PySem.Spec PyProof.Rows L2
variable [Wd] [Hot]
section
variable {X : Cx} {W : WX} {K : PySem.W.Frag} {cpos apos p : Pos} {name : Str} {id T : String} {o e : Expr} {es : List Expr} {mo : M.ME} {as : M.MA} {σ : St} {H : Hp} {Q : VK}
end
end S
namespace S
open PySem PySem.Spec PyProof.Rows L2
variable [Wd] [Hot]
section
variable {X : Cx} {W : WX} {K : PySem.W.Frag}
theorem FzA.two {F : Hp} {T : List Addr} {xs : List V} {d e : M.D} (h : FzA K F T xs [d, e]) : ∃ v u, xs = [v, u] /\ Fz K F T v d /\ Fz K F T u e := by
  cases h with
  | cons a r =>
    cases r with
    | cons b r => cases r; exact ⟨_, _, rfl, a, b⟩
end
end S
namespace S
open PySem PySem.Spec PyProof.Rows L2
variable [Wd] [Hot]
section
variable {P : Program} {w : World} {K : PySem.W.Frag} {mg : Str -> Option Value} {base : Heap}
end
section
variable {X : Cx} {W : WX} {K : PySem.W.Frag}
end
end S
namespace S
open PySem PySem.Spec PyProof.Rows L2
variable [Wd] [Hot]
local macro_rules | `(tactic| walk_at "parts") => `(tactic| (constructor; (intro e h; simp only [List.mem_append, List.mem_cons, List.not_mem_nil] at *; grind); (intro x; simp only [keys, List.map_append, List.map_cons, List.map_nil, List.count_append, List.count_cons, List.count_nil] at *; omega)))
section
variable {K : PySem.W.Frag} {F F' H H' : Hp} {T T' : List Addr} {fp fq fr : Fp} {ρ : M.PSt} {σ : St} {W : WX} {Q : VK}
theorem k4' {d : M.D} (h : M.isK d = true) : ∃ k, CW' d = some k := by cases d <;> first | exact ⟨_, rfl⟩ | (cases h)
theorem RpA.dget {vs : List V} {os : List M.O} {ks : List M.D} {dk : M.D} (h : RpA K F T vs os fp) : (M.dget ks vs dk).isSome = (M.dget ks os dk).isSome /\ ∀ d, M.dget ks os dk = some (.fz d) -> ∃ u, M.dget ks vs dk = some u /\ Fz K F T u d := by
  unfold M.dget
  cases M.gY' ks dk with
  | none => exact ⟨rfl, fun d e => nomatch e⟩
  | some j =>
    simp only [Option.bind_some]
    refine ⟨?_, fun d e => h.get e⟩
    rw [Bool.eq_iff_iff, Option.isSome_iff_exists, Option.isSome_iff_exists]
    constructor
    . rintro ⟨x, e⟩
      exact ⟨_, List.getElem?_eq_getElem (h.length ▸ (List.getElem?_eq_some_iff.mp e).1)⟩
    . rintro ⟨x, e⟩
      exact ⟨_, List.getElem?_eq_getElem (h.length ▸ (List.getElem?_eq_some_iff.mp e).1)⟩
theorem i9' {kvs : List (Key × V)} (k : Key) : Paired (fun p d => M.eqb d (kD k) = decide (p.1 = k)) kvs (kvs.map fun p => kD p.1) := by
  induction kvs with
  | nil => exact .nil
  | cons p kvs ih => exact .cons (vV' p.1 k) ih
theorem fy' {ks : List M.D} {k : M.D} (h : M.oq' ks k = true) : M.kat k = true /\ M.dep k <= 8 /\ ∀ d ∈ ks, M.sca d = M.sca k := by
  unfold M.oq' at h
  rw [Bool.and_eq_true, Bool.and_eq_true, decide_eq_true_iff, List.all_eq_true] at h
  exact ⟨h.1.1, h.1.2, fun d hd => by simpa using h.2 d hd⟩
theorem pP' {xs : List (NestedKey × Addr × V)} {ks : List M.D} (s : Same F H) (n : NestKeys ks xs) (z : FzA K F T (xs.map fun x => .ref x.2.1) ks) : yr' K H xs := by
  obtain ⟨e, q⟩ := n
  induction xs generalizing ks with
  | nil => exact fun _ z => nomatch z
  | cons x xs ih =>
    cases z with
    | @cons _ _ d ds z1 z2 =>
      simp only [List.map_cons, List.cons.injEq] at e
      obtain ⟨q1, q2, q3⟩ := q d (by simp)
      intro y hy
      rcases List.mem_cons.mp hy with rfl | hy
      . have := z1.nk s q1
        rw [<- e.1] at this
        refine ⟨this, ?_⟩
        rw [e.1, jE' d q1]
        exact q2
      . exact ih z2 e.2 (fun d hd => q d (by simp [hd])) y hy
theorem i0' {y : V} {dk : M.D} (z : Fz K F T y dk) (h1 : M.kat dk = true) (h2 : M.sca dk = false) : ∃ b, y = .ref b := by
  cases z with
  | tup _ _ => exact ⟨_, rfl⟩
  | non => cases h2
  | bl _ => cases h2
  | int _ => cases h2
  | str _ => cases h2
  | _ => cases h1
theorem i5' {y : V} {dk : M.D} (s : Same F H) (z : Fz K F T y dk) (h1 : M.kat dk = true) (h3 : M.dep dk <= 8) : NkV K H y (nk dk) /\ (nk dk).depth <= 8 := ⟨z.nk s h1, by rw [jE' dk h1]; exact h3⟩
theorem fL' {xs : List (NestedKey × Addr × V)} {ks : List M.D} {dk : M.D} (n : NestKeys ks xs) (h : M.kat dk = true) : Paired (fun p d => M.eqb d dk = decide (p.1 = nk dk)) (xsV xs) ks := by
  refine hR' (g := nk) ?_ fun d hd => sJ' (n.s d hd).1 h
  rw [xsV, List.map_map]
  exact n.e
theorem ma' {kvs : List (Leaf × V)} {ks : List M.D} {dk : M.D} (n : LeafKeys ks (kvs.map (·.1))) (h : M.sca dk = true) : Paired (fun p d => M.eqb d dk = decide (p.1 = lfD dk)) kvs ks :=
  hR' (g := lfD) n.e fun d hd => Ay' (n.s d hd) h
def Ans (K : PySem.W.Frag) (F : Hp) (T : List Addr) (ov : Option V) (r : Option M.O) : Prop := ov.isSome = r.isSome /\ ∀ d, r = some (.fz d) -> ∃ u, ov = some u /\ Fz K F T u d
theorem kY' {a : Addr} {kvs : List (Leaf × V)} {ks : List M.D} {os : List M.O} {y : V} {dk : M.D} (s : Same F H) (hH : Rd H a (dcL a kvs)) (n : LeafKeys ks (kvs.map (·.1))) (ra : RpA K F T (kvs.map (·.2)) os fp)
    (zk : Fz K F T y dk) (hf : M.oq' ks dk = true) : ∃ ov, DLk K H a y ov /\ Ans K F T ov (M.dget ks os dk) := by
  obtain ⟨h1, h2, h3⟩ := fy' hf
  cases hs : M.sca dk with
  | true =>
    refine ⟨_, .l hH (zk.lf hs), ?_⟩
    rw [d1' (ma' n hs)]
    exact ra.dget
  | false =>
    have e : ks = [] := by
      cases ks with
      | nil => rfl
      | cons d ks => have q1 := h3 d (by simp); rw [n.s d (by simp), hs] at q1; cases q1
    subst e
    have e2 : kvs = [] := by have := congrArg List.length n.e; simpa using this
    subst e2
    obtain ⟨b, rfl⟩ := i0' zk h1 hs
    obtain ⟨q1, q2⟩ := i5' s zk h1 h2
    exact ⟨none, .ln hH q1 q2, rfl, fun d e => nomatch e⟩
theorem kO' {a : Addr} {xs : List (NestedKey × Addr × V)} {ks : List M.D} {os : List M.O} {y : V} {dk : M.D} (s : Same F H) (hH : Rd H a (dcN a xs)) (n : NestKeys ks xs) (zx : FzA K F T (xs.map fun x => .ref x.2.1) ks)
    (ra : RpA K F T (xs.map (·.2.2)) os fp) (zk : Fz K F T y dk) (hf : M.oq' ks dk = true) : ∃ ov, DLk K H a y ov /\ Ans K F T ov (M.dget ks os dk) := by
  obtain ⟨h1, h2, h3⟩ := fy' hf
  cases hs : M.sca dk with
  | true =>
    have e : ks = [] := by
      cases ks with
      | nil => rfl
      | cons d ks => have q1 := h3 d (by simp); rw [(n.s d (by simp)).2.2, hs] at q1; cases q1
    subst e
    have e2 : xs = [] := by have := congrArg List.length n.e; simpa using this
    subst e2
    exact ⟨none, .nl hH (zk.lf hs), rfl, fun d e => nomatch e⟩
  | false =>
    obtain ⟨b, rfl⟩ := i0' zk h1 hs
    obtain ⟨q1, q2⟩ := i5' s zk h1 h2
    refine ⟨_, .n hH (pP' s n zx) q1 q2, ?_⟩
    rw [d1' (fL' n h1)]
    have e : (xsV xs).map (·.2) = xs.map (·.2.2) := by rw [xsV, List.map_map]; rfl
    rw [e]
    exact ra.dget
theorem or' {a : Addr} {kvs : List (Key × V)} {os : List M.O} {y : V} {dk : M.D} (hH : Rd H a (.dK kvs)) (ra : RpA K F T (kvs.map (·.2)) os fp) (zk : Fz K F T y dk) (hf : M.isK dk = true) :
    ∃ ov, DLk K H a y ov /\ Ans K F T ov (M.dget (kvs.map fun p => kD p.1) os dk) := by
  obtain ⟨k, hk⟩ := k4' hf
  have e := k0' zk hk
  subst e
  have e2 := h6' hk
  subst e2
  refine ⟨_, .k k hH, ?_⟩
  rw [d1' (i9' k)]
  exact ra.dget
theorem oi' {v : V} {k : Key} (z : Fz K F T v (kD k)) : okK k := by
  cases k with
  | inl i => exact True.intro
  | inr x =>
    obtain ⟨_, o⟩ := Fz.str_inv (s := x.cps.toList) z
    exact o
theorem sa' {v : V} {o : M.O} {y : V} {dk : M.D} {r : Option M.O} (f : FpH F H (fp ++ fr)) (q : Rp K F T v o fp) (zk : Fz K F T y dk) (e : M.cF' o dk = some r) : ∃ a ov, v = .ref a /\ DLk K H a y ov /\ Ans K F T ov r := by
  cases q with
  | fz z =>
    rename_i d
    cases d <;> try (cases e; done)
    . cases z with
      | dct h _ z =>
        simp only [M.cF'] at e
        split at e
        . rename_i hk
          cases e
          obtain ⟨ov, g1, g2⟩ := or' (gr' f.low h) (.of_fz z) zk hk
          exact ⟨_, ov, rfl, g1, g2⟩
        . cases e
    . simp only [M.cF'] at e
      split at e
      . rename_i hk
        cases e
        cases z with
        | dcl h n z =>
          obtain ⟨ov, g1, g2⟩ := kY' f.low (gr' f.low h) n (.of_fz z) zk hk
          exact ⟨_, ov, rfl, g1, g2⟩
        | dcn h n zx z =>
          obtain ⟨ov, g1, g2⟩ := kO' f.low (gr' f.low h) n zx (.of_fz z) zk hk
          exact ⟨_, ov, rfl, g1, g2⟩
      . cases e
  | lst _ => cases e
  | tup _ => cases e
  | @dct p kvs os fp0 _ ra =>
    simp only [M.cF'] at e
    split at e
    . rename_i hk
      cases e
      obtain ⟨ov, g1, g2⟩ := or' (.inl (f.at_ (p, .dK kvs) (by simp)).1) ra zk hk
      exact ⟨_, ov, rfl, g1, g2⟩
    . cases e
  | @dcl p kvs ks os fp0 n ra =>
    simp only [M.cF'] at e
    split at e
    . rename_i hk
      cases e
      obtain ⟨ov, g1, g2⟩ := kY' f.low (.inl (f.at_ (p, dcL p kvs) (by simp)).1) n ra zk hk
      exact ⟨_, ov, rfl, g1, g2⟩
    . cases e
  | @dcn p xs ks os fp0 n zx ra =>
    simp only [M.cF'] at e
    split at e
    . rename_i hk
      cases e
      obtain ⟨ov, g1, g2⟩ := kO' f.low (.inl (f.at_ (p, dcN p xs) (by simp)).1) n zx ra zk hk
      exact ⟨_, ov, rfl, g1, g2⟩
    . cases e
def Put (K : PySem.W.Frag) (F H : Hp) (T : List Addr) (a : Addr) (y v : V) (h0 : HO) (f0 : Fp) (o' : M.O) (fv : Fp) : Prop :=
  H a = some h0 /\ ∀ N : Hp -> Prop, (∀ h1 f1, Rp K F T (.ref a) o' ((a, h1) :: f1) -> Part f1 (f0 ++ fv) -> N (upd H a h1)) -> DSt K H a y v N
theorem RpA.setO {v : V} {o : M.O} {fv : Fp} (zd : Rp K F T v o fv) : ∀ {os : List M.O} {vs : List V} {f2 : Fp} (j : Nat), RpA K F T vs os f2 -> ∃ f2', RpA K F T (vs.set j v) (os.set j o) f2' /\ Part f2' (f2 ++ fv)
  | [], _, _, _, .nil => ⟨[], .nil, .nil⟩
  | _ :: os, _, _, 0, .cons (fp := fa) (fq := fb) r0 r => ⟨_, RpA.cons zd r, by walk_at "parts"⟩
  | _ :: os, _, _, j + 1, .cons (fp := fa) (fq := fb) r0 r => by
    obtain ⟨f2', q1, q2⟩ := RpA.setO zd j r
    refine ⟨_, .cons r0 q1, ?_⟩
    rw [List.append_assoc]
    exact .app .refl q2
theorem ey' {α : Type} {ks ks' : List M.D} {os os' : List α} {k : M.D} {o : α} (h : M.l0' ks os k o = some (ks', os')) : (∃ j, M.gY' ks k = some j /\ ks' = ks /\ os' = os.set j o) \/ (M.gY' ks k = none /\ ks.length < M.do' /\ ks' = ks ++ [k] /\ os' = os ++ [o]) := by
  unfold M.l0' at h
  split at h
  . rename_i j e
    cases h
    exact .inl ⟨j, e, rfl, rfl⟩
  . rename_i e
    split at h
    . rename_i hl
      cases h
      exact .inr ⟨e, hl, rfl, rfl⟩
    . cases h
theorem i6' {kvs kvs' : List (Key × V)} (h : kvs'.map (·.1) = kvs.map (·.1)) : (kvs'.map fun p => kD p.1) = kvs.map fun p => kD p.1 := by
  have := congrArg (List.map kD) h
  rw [List.map_map, List.map_map] at this
  exact this
theorem zQ' {a : Addr} {o o' ov : M.O} {h0 : HO} {f0 fv : Fp} {y v : V} {dk : M.D} (f : FpH F H (((a, h0) :: f0) ++ fr)) (q : Rp K F T (.ref a) o ((a, h0) :: f0)) (zk : Fz K F T y dk) (zv : Rp K F T v ov fv)
    (e : M.eX' o dk ov = some o') : Put K F H T a y v h0 f0 o' fv := by
  have hH : H a = some h0 := (f.at_ (a, h0) (by simp)).1
  have zv' : RpA K F T [v] [ov] (fv ++ []) := .cons zv .nil
  rw [List.append_nil] at zv'
  refine ⟨hH, fun N hN => ?_⟩
  cases q with
  | lst _ => cases e
  | tup _ => cases e
  | @dct _ kvs os _ okk ra =>
    simp only [M.eX'] at e
    split at e
    . rename_i hk
      obtain ⟨k, hk⟩ := k4' hk
      have e1 := k0' zk hk
      subst e1
      have e2 := h6' hk
      subst e2
      cases el : M.l0' (kvs.map fun p => kD p.1) os (kD k) ov with
      | none => rw [el] at e; cases e
      | some p =>
        obtain ⟨ks', os'⟩ := p
        rw [el] at e
        cases e
        rcases ey' el with ⟨j, ej, rfl, rfl⟩ | ⟨ej, hl, rfl, rfl⟩
        . obtain ⟨f2', q1, q2⟩ := RpA.setO zv j ra
          refine .k k hH rfl fun nd => ?_
          obtain ⟨g1, g2⟩ := (dI' (v := v) (i9' k) nd).1 j ej
          refine ⟨fun z => by have := congrArg List.length g1; simp only [List.length_map] at this; omega, hN _ f2' ?_ q2⟩
          rw [<- i6' g1]
          rw [<- g2] at q1
          exact .dct (okk.fst g1) q1
        . rw [List.length_map] at hl
          refine .k k hH rfl fun nd => ?_
          have g := (dI' (v := v) (i9' k) nd).2 ej
          rw [g]
          refine ⟨fun _ => by rw [bF', List.length_append]; simp only [List.length_singleton]; omega, hN _ (f0 ++ fv) ?_ .refl⟩
          have q1 := ra.app zv'
          have e3 : ((kvs.map fun p => kD p.1) ++ [kD k]) = (kvs ++ [(k, v)]).map fun p => kD p.1 := by simp
          rw [e3]
          exact .dct (okk.snoc (oi' zk)) (by simpa using q1)
    . cases e
  | @dcl _ kvs ks os _ n ra =>
    simp only [M.eX'] at e
    split at e
    . rename_i hk
      obtain ⟨h1, h2, h3⟩ := fy' hk
      cases el : M.l0' ks os dk ov with
      | none => rw [el] at e; cases e
      | some p =>
        obtain ⟨ks', os'⟩ := p
        rw [el] at e
        cases e
        cases hs : M.sca dk with
        | true =>
          rcases ey' el with ⟨j, ej, rfl, rfl⟩ | ⟨ej, hl, rfl, rfl⟩
          . obtain ⟨f2', q1, q2⟩ := RpA.setO zv j ra
            refine .l hH (zk.lf hs) fun nd => ?_
            obtain ⟨g1, g2⟩ := (dI' (v := v) (ma' n hs) nd).1 j ej
            refine ⟨fun z => by have := congrArg List.length g1; simp only [List.length_map] at this; omega, hN _ f2' ?_ q2⟩
            rw [<- g2] at q1
            rw [<- g1] at n
            exact .dcl n q1
          . have e4 : kvs.length = ks.length := by have := congrArg List.length n.e; simpa using this
            refine .l hH (zk.lf hs) fun nd => ?_
            have g := (dI' (v := v) (ma' n hs) nd).2 ej
            rw [g]
            refine ⟨fun _ => by rw [bF', List.length_append]; simp only [List.length_singleton]; omega, hN _ (f0 ++ fv) ?_ .refl⟩
            have q1 := ra.app zv'
            refine .dcl ⟨by simp [n.e], fun d hd => ?_⟩ (by simpa using q1)
            rcases List.mem_append.mp hd with hd | hd
            . exact n.s d hd
            . rw [List.mem_singleton.mp hd]; exact hs
        | false =>
          have e5 : ks = [] := by
            cases ks with
            | nil => rfl
            | cons d ks => have q1 := h3 d (by simp); rw [n.s d (by simp), hs] at q1; cases q1
          subst e5
          have e6 : kvs = [] := by have := congrArg List.length n.e; simpa using this
          subst e6
          cases ra
          obtain ⟨b, rfl⟩ := i0' zk h1 hs
          obtain ⟨q1, q2⟩ := i5' f.low zk h1 h2
          rcases ey' el with ⟨j, ej, rfl, rfl⟩ | ⟨ej, hl, rfl, rfl⟩
          . cases ej
          . refine .ln hH rfl q1 q2 (hN _ fv ?_ (.right .refl))
            exact .dcn (xs := [(nk dk, b, v)]) ⟨rfl, fun d hd => by rw [List.mem_singleton.mp hd]; exact ⟨h1, h2, hs⟩⟩ (.cons zk .nil) zv'
    . cases e
  | @dcn _ xs ks os _ n zx ra =>
    simp only [M.eX'] at e
    split at e
    . rename_i hk
      obtain ⟨h1, h2, h3⟩ := fy' hk
      cases el : M.l0' ks os dk ov with
      | none => rw [el] at e; cases e
      | some p =>
        obtain ⟨ks', os'⟩ := p
        rw [el] at e
        cases e
        cases hs : M.sca dk with
        | true =>
          have e5 : ks = [] := by
            cases ks with
            | nil => rfl
            | cons d ks => have q1 := h3 d (by simp); rw [(n.s d (by simp)).2.2, hs] at q1; cases q1
          subst e5
          have e6 : xs = [] := by have := congrArg List.length n.e; simpa using this
          subst e6
          cases ra
          rcases ey' el with ⟨j, ej, rfl, rfl⟩ | ⟨ej, hl, rfl, rfl⟩
          . cases ej
          . refine .nl hH (zk.lf hs) (hN _ fv ?_ (.right .refl))
            exact .dcl (kvs := [(lfD dk, v)]) ⟨rfl, fun d hd => by rw [List.mem_singleton.mp hd]; exact hs⟩ zv'
        | false =>
          obtain ⟨b, rfl⟩ := i0' zk h1 hs
          obtain ⟨q1, q2⟩ := i5' f.low zk h1 h2
          have ev : (xsV xs).map (·.2) = xs.map (·.2.2) := by rw [xsV, List.map_map]; rfl
          have ek : (xsV xs).map (·.1) = xs.map (·.1) := by rw [xsV, List.map_map]; rfl
          have evp : ∀ k b v, (xsV (jV' xs k b v)).map (·.2) = (jV' xs k b v).map (·.2.2) := fun k b v => by rw [xsV, List.map_map]; rfl
          have ekp : ∀ k b v, (xsV (jV' xs k b v)).map (·.1) = (jV' xs k b v).map (·.1) := fun k b v => by rw [xsV, List.map_map]; rfl
          rcases ey' el with ⟨j, ej, rfl, rfl⟩ | ⟨ej, hl, rfl, rfl⟩
          . obtain ⟨f2', r1, r2⟩ := RpA.setO zv j ra
            refine .n hH (pP' f.low n zx) rfl q1 q2 fun nd => ?_
            obtain ⟨g1, g2⟩ := (dI' (v := v) (fL' n h1) (by rw [ek]; exact nd)).1 j ej
            rw [<- n8' xs (nk dk) b v, evp, ev] at g2
            rw [<- n8' xs (nk dk) b v, ekp, ek] at g1
            have hany : (xs.any fun x => decide (x.1 = nk dk)) = true := by
              have e7 := d1' (fL' (dk := dk) n h1)
              have e8 : (M.dget ks' ((xsV xs).map (·.2)) dk).isSome = true := by
                unfold M.dget
                rw [ej, Option.bind_some, ev]
                have hj : j < ks'.length := by
                  unfold M.gY' at ej
                  exact (List.findIdx?_eq_some_iff_getElem.mp ej).1
                have e9 : xs.length = ks'.length := by have := congrArg List.length n.e; simpa using this
                rw [List.getElem?_eq_getElem (by rw [List.length_map]; omega)]
                rfl
              rw [<- e7, <- valV_any, xsV, List.any_map] at e8
              exact e8
            refine ⟨fun z => by have := congrArg List.length g1; simp only [List.length_map] at this; omega, hN _ f2' ?_ r2⟩
            rw [<- g2] at r1
            refine .dcn ⟨by rw [g1]; exact n.e, n.s⟩ ?_ r1
            rw [rO' hany]
            exact zx
          . have e4 : xs.length = ks.length := by have := congrArg List.length n.e; simpa using this
            refine .n hH (pP' f.low n zx) rfl q1 q2 fun nd => ?_
            have g := (dI' (v := v) (fL' n h1) (by rw [ek]; exact nd)).2 ej
            have gx : jV' xs (nk dk) b v = xs ++ [(nk dk, b, v)] := by
              unfold jV'
              rw [if_neg]
              intro hany
              have e7 := d1' (fL' (dk := dk) n h1)
              have e8 : (valV (xsV xs) (nk dk)).isSome = true := by
                rw [<- valV_any, xsV, List.any_map]
                exact hany
              rw [e7] at e8
              unfold M.dget at e8
              rw [ej] at e8
              cases e8
            rw [gx]
            refine ⟨fun _ => by rw [bF', List.length_append]; simp only [List.length_singleton]; omega, hN _ (f0 ++ fv) ?_ .refl⟩
            have r1 := ra.app zv'
            refine .dcn ⟨by simp [n.e], fun d hd => ?_⟩ ?_ (by simpa using r1)
            . rcases List.mem_append.mp hd with hd | hd
              . exact n.s d hd
              . rw [List.mem_singleton.mp hd]; exact ⟨h1, h2, hs⟩
            . rw [List.map_append]
              exact zx.append (.cons zk .nil)
    . cases e
end
def D9' (K : PySem.W.Frag) (neg : Bool) : R2 := fun y x H Q => ∃ a ov, x = .ref a /\ DLk K H a y ov /\ Q (.bl (ov.isSome != neg)) H
def EA' (K : PySem.W.Frag) : R2 := fun x y H Q => ∃ a v, x = .ref a /\ DLk K H a y (some v) /\ Q v H
section
variable {X : Cx} {W : WX} {pos tpos : Pos} {a b o i : Expr} {ma mb mo mi : M.ME} {σ : St} {H : Hp} {Q : VK}
theorem rY' (hw : X.prog = Wd.P /\ X.w = Wd.w) (hu : X.A.units + 64 < cLine) : OpR X (compareOp .NotIn) (D9' X.K true) := by
  intro pins s σ H y x iv u Q I ry rx h
  obtain ⟨a, ov, ex, g, q⟩ := h
  subst ex
  cases (show u = Value.ref a from rx)
  exact AD' hw hu I g ry fun s' I' => ⟨.bl (ov.isSome != true), H, I', by rw [Bool.bne_true]; exact rfl, q⟩
theorem oQ' {neg : Bool} {i : Nat} (h : qE X.K W (M.tf' neg i ma) σ H Q) : tOp (D9' X.K neg) (qE X.K W ma) (tVar i) σ H Q := by
  obtain ⟨ρ, F, T, fr, rel, h⟩ := h
  refine av' rel h fun dk ρ1 y H1 F1 T1 e1 zk r1 h1 => ?_
  split at h1
  . rename_i o e
    obtain ⟨dz, ez, q⟩ := a8'.ofO h1
    obtain ⟨r, er, rfl⟩ := Option.map_eq_some_iff.mp ez
    obtain ⟨fe, fw, re, rw, f⟩ := id r1
    obtain ⟨u, f1, f2, f3, g1, rfl, g3, _, _⟩ := re.get e (M.d3' (fun z => by rw [z] at er; exact nomatch (show (none : Option (Option M.O)) = some r from er)) (fun z => by rw [z] at er; exact nomatch (show (none : Option (Option M.O)) = some r from er)))
    have f' : FpH F1 H1 (f2 ++ (f1 ++ (f3 ++ (fw ++ fr)))) := f.part (by walk_at "parts")
    obtain ⟨p, ov, rfl, g, a1, _⟩ := sa' f' g3 zk er
    refine ⟨_, g1, p, ov, rfl, g, ?_⟩
    rw [a1]
    exact q _ H1 F1 T1 e1 (.bl _) r1
  . exact h1.elim
theorem wM' {i : Nat} (hw : X.prog = Wd.P /\ X.w = Wd.w) (hu : X.A.units + 64 < cLine) (ha : SE X W a ma) (hv : PE X b (tVar i)) (hm : behindInMarks .NotIn b = false := by rfl) : SE X W (.Compare a [.NotIn] [b] pos) (M.tf' true i ma) :=
  PE.imp (pe_cmpR (rY' hw hu) ha hv hm) fun _ _ _ h => oQ' h
theorem zS' {te ti : TE} (hw : X.prog = Wd.P /\ X.w = Wd.w) (hu : X.A.units + 64 < cLine) (ho : PE X o te) (hi : PE X i ti) (hs : NoSl i) : PE X (.Subscript o i pos) (tOp (EA' X.K) te ti) := by
  refine ⟨fun pins s σ H Q I h => subD_of PySem.F.slot_dict_getitem.lookup hs (thn (ho.run pins s σ H _ I h) fun u s1 ⟨x, H1, I1, rx, q1⟩ => thn (hi.run pins s1 σ H1 _ I1 q1) fun iv s2 ⟨y, H2, I2, ry, q2⟩ => ?_)⟩
  obtain ⟨a, v, ex, g, q2⟩ := q2
  subst ex
  cases (show u = Value.ref a from rx)
  exact ⟨xN' hw I2 g, AE' hw hu I2 g ry fun w' s3 I3 rw' => ⟨v, H2, I3, rw', q2⟩⟩
theorem gp' {n : Nat} (hw : X.prog = Wd.P /\ X.w = Wd.w) (hu : X.A.units + 64 < cLine) (hv : PE X o (tVar n)) (hi : SE X W i mi) (hs : NoSl i) : SE X W (.Subscript o i pos) (M.pM' n mi) :=
  PE.imp (zS' hw hu hv hi hs) fun σ H Q ⟨ρ, F, T, fr, rel, h⟩ => by
    unfold M.pM' at h
    split at h
    . rename_i o0 e0
      obtain ⟨fe, fw, re, rw, f⟩ := id rel
      obtain ⟨v, h1⟩ := re.val e0
      refine ⟨v, h1, av' rel h fun dk ρ1 y H1 F1 T1 e1 zk r1 h2 => ?_⟩
      split at h2
      . rename_i o e2
        obtain ⟨dz, ez, q⟩ := a8'.ofO h2
        obtain ⟨fe', fw', re', rw', f'⟩ := id r1
        obtain ⟨u, f1', f2', f3', h1', rfl, h3', _⟩ := re'.get e2 (M.d3' (fun z => by rw [z] at ez; exact nomatch (show (none : Option M.D) = some dz from ez)) fun z => by rw [z] at ez; exact nomatch (show (none : Option M.D) = some dz from ez))
        rw [h1] at h1'
        cases h1'
        have f4 : FpH F1 H1 (f2' ++ (f1' ++ (f3' ++ (fw' ++ fr)))) := f'.part (by walk_at "parts")
        obtain ⟨r, er, hr⟩ : ∃ r, M.cF' o dk = some r /\ r = some (.fz dz) := by
          unfold M.uR' at ez
          split at ez
          . rename_i d er
            cases ez
            exact ⟨_, er, rfl⟩
          . cases ez
        obtain ⟨p, ov, rfl, g, _, a2⟩ := sa' f4 h3' zk er
        obtain ⟨w, rfl, zw⟩ := a2 dz hr
        exact ⟨p, w, rfl, g, q w H1 F1 T1 e1 zw r1⟩
      . exact h2.elim
    . exact h.elim
theorem Rel.slotX {K : PySem.W.Frag} {ρ : M.PSt} {F : Hp} {T : List Addr} {fr : Fp} {i : Nat} {o : M.O} {v : V} (rel : Rel K ρ σ H F T fr) (e : ρ.env[i]? = some (some o)) (hp : σ[i]? = some (some v)) (hne : M.Cm' o = true := by first | assumption | rfl) :
    ∃ f2 fz, Rp K F T v o f2 /\ FpH F H (f2 ++ (fz ++ fr)) /\ ∀ p h0 f0 h1 o' f1 fr', f2 = (p, h0) :: f0 -> v = .ref p -> Rp K F T v o' ((p, h1) :: f1) -> Part (f1 ++ fr') (f0 ++ fr) -> Rel K ⟨ρ.env.set i (some o'), ρ.w⟩ σ (upd H p h1) F T fr' := by
  obtain ⟨fe, fw, re, rw, f⟩ := rel
  obtain ⟨v', f1, f2, f3, g1, rfl, g3, _, g5⟩ := re.get e
  rw [g1] at hp
  cases hp
  refine ⟨f2, f1 ++ (f3 ++ fw), g3, f.part (by walk_at "parts"), ?_⟩
  intro p h0 f0 h1 o' f1' fr' e2 ev r pt
  subst e2 ev
  have e5 := g5 F T (.ref p) o' ((p, h1) :: f1') .refl r
  rw [ev' g1] at e5
  refine ⟨_, fw, e5, rw, ?_⟩
  have fA : FpH F H (f1 ++ ((p, h0) :: (f3 ++ (fw ++ (f0 ++ fr))))) := f.part (by walk_at "parts")
  have fB := fA.write (o' := h1)
  have pm := pt.m
  have pc := pt.c
  refine fB.part ?_
  constructor
  . intro e h
    have := pm e
    simp only [List.mem_append, List.mem_cons] at *
    grind
  . intro x
    have := pc x
    simp only [keys, List.map_append, List.map_cons, List.count_append, List.count_cons] at *
    omega
theorem tU' {value : Expr} {te ti tv : TE} (hwd : X.prog = Wd.P /\ X.w = Wd.w) (hu : X.A.units + 64 < cLine) (ho : PE X o te) (hi : PE X i ti) (hv : PE X value tv) (hs : swapsWith value (some (.Subscript o i tpos)) pos.line X.env = pure false) :
    PS X (.Assign [.Subscript o i tpos] value pos) (fun D σ H => tv σ H fun v H1 => te σ H1 fun x H2 => ti σ H2 fun y H3 => ∃ a, x = .ref a /\ DSt X.K H3 a y v (fun H4 => D.nx σ H4)) := by
  refine ⟨fun pins s σ H D I h => wpAny_Assign_Subscript (thn (hv.run pins s σ H _ I h) fun r s1 ⟨v, H1, I1, rv, q1⟩ => thn (ho.run pins s1 σ H1 _ I1 q1) fun u s2 ⟨x, H2, I2, rx, q2⟩ => thn (hi.run pins s2 σ H2 _ I2 q2) fun iv s3 ⟨y, H3, I3, ry, q3⟩ => ?_) hs⟩
  obtain ⟨a, ex, g⟩ := q3
  subst ex
  cases (show u = Value.ref a from rx)
  exact AC' hwd hu I3 g ry rv fun H4 s4 I4 q4 => ⟨σ, H4, I4, q4⟩
theorem rQ' {o o' ov : M.O} {dk : M.D} (h : M.eX' o dk ov = some o') {K : PySem.W.Frag} {F : Hp} {T : List Addr} {v : V} {fp : Fp} (q : Rp K F T v o fp) : ∃ p h0 f0, v = .ref p /\ fp = (p, h0) :: f0 := by
  cases q with
  | fz z => cases h
  | lst _ => exact ⟨_, _, _, rfl, rfl⟩
  | tup _ => exact ⟨_, _, _, rfl, rfl⟩
  | dct _ _ => exact ⟨_, _, _, rfl, rfl⟩
  | dcl _ _ => exact ⟨_, _, _, rfl, rfl⟩
  | dcn _ _ _ => exact ⟨_, _, _, rfl, rfl⟩
theorem kq' {n : Nat} (hwd : X.prog = Wd.P /\ X.w = Wd.w) (hu : X.A.units + 64 < cLine) (ha : SE X W a ma) (ho : PE X o (tVar n)) (hi : SE X W i mi) (hs : swapsWith a (some (.Subscript o i tpos)) pos.line X.env = pure false := by rfl) :
    SS X W (.Assign [.Subscript o i tpos] a pos) (M.tO' n mi ma) := PS.imp (tU' hwd hu ho hi ha hs) fun D σ H ⟨ρ, F, T, fr, rel, h⟩ => by
  refine dG' rel h fun d ρ1 v H1 F1 T1 e1 z1 r1 h1 => ?_
  split at h1
  . rename_i o0 e0
    obtain ⟨fe, fw, re, rw, f⟩ := id r1
    obtain ⟨x, g1⟩ := re.val e0
    refine ⟨x, g1, dG' r1 h1 fun dk ρ2 y H2 F2 T2 e2 zk r2 h2 => ?_⟩
    split at h2
    . rename_i o1 e3
      split at h2
      . rename_i o' eo
        obtain ⟨f2', fz, q1, q2, q3⟩ := r2.slotX e3 g1 (M.d3' (fun z => by rw [z] at eo; exact nomatch (show (none : Option M.O) = some o' from eo)) (fun z => by rw [z] at eo; exact nomatch (show (none : Option M.O) = some o' from eo)))
        obtain ⟨p, h0, f0, rfl, rfl⟩ := rQ' eo q1
        have hp := zQ' (fr := fz ++ fr) q2 q1 zk (.fz (z1.mono e2)) eo
        refine ⟨p, rfl, hp.2 _ fun h1' f1' r3 pt => ?_⟩
        refine h2 σ _ F2 T2 .refl (q3 p h0 f0 h1' o' f1' fr rfl rfl r3 (.app ?_ .refl))
        simpa using pt
      . exact h2.elim
    . exact h2.elim
  . exact h1.elim
theorem rm' (hwd : X.prog = Wd.P /\ X.w = Wd.w) : SO X W (.Dict [] [] pos) M.r0' := by
  refine ⟨fun pins s σ H Q I ⟨ρ, F, T, fr, rel, h⟩ => wpAny_Dict_empty ⟨.ref s.heap.objs.size, upd H s.heap.objs.size (dcL s.heap.objs.size []), ?_, rfl, ?_⟩⟩
  . refine I.laid (a := s.heap.objs.size) (t' := s.toks) (fun _ _ q => Heap.get?_push_of_some _ q) (Nat.le_refl _) ?_
    rw [hwd.2]
    exact mj' (Nat.zero_le _) (beq_eq_false_iff_ne.mpr (Ne.symm (Nat.ne_of_lt I.big))) .nil (Heap.DictOf.new s.heap)
  . have z : Rp X.K F T (.ref s.heap.objs.size) (.dcx [] []) [(s.heap.objs.size, dcL s.heap.objs.size [])] := Rp.dcl (kvs := []) ⟨rfl, fun _ h => nomatch h⟩ .nil
    exact h _ _ F T _ .refl z (rel.own (I.hok.fresh (Nat.le_refl _)))
def y9' (K : PySem.W.Frag) (tk tv : TE) : TE := fun σ H Q => ∀ p, H p = none -> tPairs [(tk, tv)] σ (upd H p (.dK [])) fun ps H2 => H2 p = some (.dK []) /\ ∃ b k v, ps = [(.ref b, v)] /\ NkV K H2 (.ref b) k /\ k.depth <= 8 /\ Q (.ref p) (upd H2 p (dcN p [(k, b, v)]))
theorem sp' {pins : List (Addr × Obj)} {s : Shared} {p : Addr} (I : Inv X pins σ H s) (h : H p = some (.dK [])) : (p == sysModules) = false /\ s.heap.DictOfH (nestedKind X.prog X.w) p [] := by
  obtain ⟨_, hd, vs, rel, dd⟩ := dk_of I.hok h
  cases rel
  obtain ⟨o, ⟨l⟩, ep, g1, g2, g3, g4, g5, g6⟩ := id dd
  have e : l = [] := by
    have g5 : PySem.Pairs (mixKind X.prog X.w) l [] := g5
    cases g5
    rfl
  subst e
  exact ⟨hd, o, _, ep, g1, g2, g3, rfl, (fun _ z => nomatch z), List.nodup_nil⟩
theorem tX' {k e : Expr} {tk tv : TE} (hwd : X.prog = Wd.P /\ X.w = Wd.w) (hu : X.A.units + 64 < cLine) (hk : PE X k tk) (hv : PE X e tv) : PE X (.Dict [some k] [e] pos) (y9' X.K tk tv) := by
  refine ⟨fun pins s σ H Q I q => ?_⟩
  have J := I.laid (a := s.heap.objs.size) (o := .dK []) (h' := s.heap.push { cls := .type "dict", data := .dict #[] }) (t' := s.toks) (fun _ _ q => Heap.get?_push_of_some _ q) (Nat.le_refl _) (dk_empty s.heap I.big)
  have run := (pps_cons (pos := pos) hk hv pps_nil).run pins _ σ _ _ J (q _ (I.hok.fresh (Nat.le_refl s.heap.objs.size)))
  rw [arm_eval_Dict, zip_pairTrees [some k] [e] X.env pos rfl rfl, dictDisplay_pairs (pairTrees [some k] [e] X.env pos) (by rintro ⟨⟩) (by show 1 < 17; decide)]
  refine wpAny_bind (wpAny_standAt (wpAny_bind (wpAny_subDictH (knd := nestedKind X.prog X.w) (Q := fun d s' => wpAny (model X.prog X.w) X.A (pure (Value.ref d)) (EP X pins σ Q) X.xe s') (by show X.A.units + 8 < cLine; omega) (by show 1 <= 15; decide) ?_)))
  refine thn run fun vs s1 ⟨ps, H2, I2, rel, e0, b, nk, v, ep, h1, h2, q2⟩ => ?_
  subst ep
  cases rel with
  | @cons _ uv _ _ r rn =>
    cases rn
    obtain ⟨ku, vu⟩ := uv
    obtain ⟨r1, r2⟩ := r
    cases (show ku = Value.ref b from r1)
    obtain ⟨hd, dd⟩ := sp' I2 e0
    refine ⟨[(nk, b, vu)], ⟨rfl, rfl, ⟨h1.is I2 rfl, h2⟩, trivial⟩, dd, fun h' tk' dd' hs => wpAny_pure ⟨V.ref s.heap.objs.size, _, d_write I2 (by rw [e0]; exact True.intro) hs (let ⟨q, _, _, hq, _⟩ := dd'; ⟨q, hq⟩) ?_, rfl, q2⟩⟩
    have dd' : h'.DictOfH (nestedKind X.prog X.w) s.heap.objs.size [(nk, b, vu)] := dd'
    rw [hwd.1, hwd.2] at dd'
    rw [hwd.2]
    exact if' (by rw [sizeLine_eq]; show 1 <= 16777216; decide) hd (.cons ⟨rfl, rfl, r2⟩ .nil) dd'
theorem rk' {k e : Expr} {mk me : M.ME} (hwd : X.prog = Wd.P /\ X.w = Wd.w) (hu : X.A.units + 64 < cLine) (hk : SE X W k mk) (hv : SE X W e me) : SO X W (.Dict [some k] [e] pos) (M.h0' true mk me) :=
  PE.imp (tX' hwd hu hk hv) fun σ H Q ⟨ρ, F, T, fr, rel, h⟩ => fun p hp => by
    have fr1 : Part fr ((p, HO.dK []) :: fr) := by walk_at "parts"
    refine ⟨ρ, F, T, (p, .dK []) :: fr, rel.own hp, (a8'.bind h).mono (fun dk ρ1 h1 y H1 F1 T1 e1 zk r1 => ?_) fun _ _ z => z.frame fr1⟩
    refine ⟨ρ1, F1, T1, (p, .dK []) :: fr, r1, (a8'.bind (h1.mono (fun _ _ z => z) fun _ _ z => z)).mono (fun d ρ2 h2 v H2 F2 T2 e2 zv r2 => ?_) fun _ _ z => (z.mono e1).frame fr1⟩
    obtain ⟨o, eo, q⟩ := a8'.ofO h2
    simp only [M.hS', if_true] at eo
    split at eo
    . rename_i hc
      obtain ⟨c1, c2, c3⟩ := hc
      cases eo
      have zk' := zk.mono e2
      obtain ⟨b, rfl⟩ := i0' zk c1 c3
      obtain ⟨fe, fw, re, rw', f⟩ := id r2
      obtain ⟨n1, n2⟩ := i5' f.low zk' c1 c2
      refine ⟨r2.at_ (e := (p, .dK [])) List.mem_cons_self, b, _, v, rfl, n1, n2, ?_⟩
      refine q (.ref p) _ F2 T2 [(p, dcN p [(nk dk, b, v)])] (e1.trans e2) ?_ ?_
      . refine .dcn (xs := [(nk dk, b, v)]) ⟨rfl, fun d hd => by rw [List.mem_singleton.mp hd]; exact ⟨c1, c2, c3⟩⟩ (.cons zk' .nil) ?_
        exact (RpA.cons (fp := []) (fq := []) (.fz zv) .nil)
      . exact r2.write
    . cases eo
theorem rl' {k e : Expr} {mk me : M.ME} (hk : SE X W k mk) (hv : SE X W e me) : SO X W (.Dict [some k] [e] pos) (M.h0' false mk me) :=
  PE.imp (pe_disp (pps_cons hk hv pps_nil) rfl rfl (by intro z; cases z) (by simp)) fun σ H Q ⟨ρ, F, T, fr, rel, h⟩ => fun p hp => by
    have fr1 : Part fr ((p, HO.dK []) :: fr) := by walk_at "parts"
    refine ⟨ρ, F, T, (p, .dK []) :: fr, rel.own hp, (a8'.bind h).mono (fun dk ρ1 h1 y H1 F1 T1 e1 zk r1 => ?_) fun _ _ z => z.frame fr1⟩
    refine ⟨ρ1, F1, T1, (p, .dK []) :: fr, r1, (a8'.bind (h1.mono (fun _ _ z => z) fun _ _ z => z)).mono (fun d ρ2 h2 v H2 F2 T2 e2 zv r2 => ?_) fun _ _ z => (z.mono e1).frame fr1⟩
    obtain ⟨o, eo, q⟩ := a8'.ofO h2
    simp only [M.hS', Bool.false_eq_true, if_false] at eo
    split at eo
    . rename_i hc
      cases eo
      obtain ⟨key, hk⟩ := k4' hc
      have e3 := k0' zk hk
      have e4 := h6' hk
      subst e3 e4
      refine ⟨r2.at_ (e := (p, .dK [])) List.mem_cons_self, [(key, v)], rfl, (by show 1 <= 15; decide), ?_⟩
      refine q (.ref p) _ F2 T2 [(p, .dK [(key, v)])] (e1.trans e2) ?_ ?_
      . exact .dct (kvs := [(key, v)]) (fun p hp => by rw [List.mem_singleton.mp hp]; exact oi' zk) (RpA.cons (fp := []) (fq := []) (.fz zv) .nil)
      . exact r2.write
    . cases eo
theorem tJ' {n : Nat} {e f : Expr} {me mf : M.ME} {apos cpos : Pos} (hv : PE X o (tVar n)) (he : SE X W e me) (hf : SE X W f mf) (m : M2 X o "setdefault" apos e f cpos) :
    SE X W (.Call (.Attribute o "setdefault" apos) [e, f] [] cpos) (M.jb' n me mf) := PE.imp (pe_dsetd hv he hf m) fun σ H Q ⟨ρ, F, T, fr, rel, h⟩ => by
  unfold M.jb' at h
  split at h
  . rename_i ks0 os0 e0
    obtain ⟨fe, fw, re, rw, f⟩ := id rel
    obtain ⟨x, f1, f2, f3, g1, eq, g3, _⟩ := re.get e0
    cases g3 with
    | @dct p kvs0 _ fp0 okk0 ra0 =>
      have hH0 : H p = some (.dK kvs0) := (f.at_ (p, .dK kvs0) (by rw [eq]; simp)).1
      refine ⟨_, g1, p, rfl, .inl ⟨_, .inl hH0⟩, av' rel h fun dk ρ1 y H1 F1 T1 e1 zk r1 h1 => av' r1 h1 fun d ρ2 z H2 F2 T2 e2 zd r2 h2 => ?_⟩
      split at h2
      . rename_i ks os e3
        split at h2
        . rename_i hc
          obtain ⟨hk, hl⟩ := hc
          obtain ⟨f2', fz, q1, q2, q3⟩ := r2.slotX e3 g1
          cases q1 with
          | @dct _ kvs _ fp1 okk ra =>
            have hH : H2 p = some (.dK kvs) := (q2.at_ (p, .dK kvs) (by simp)).1
            obtain ⟨key, hkey⟩ := k4' hk
            have e4 := k0' zk hkey
            have e5 := h6' hkey
            subst e4 e5
            rw [List.length_map] at hl
            have hv := d1' (i9' (kvs := kvs) key)
            obtain ⟨a1, a2⟩ := ra.dget (ks := kvs.map fun p => kD p.1) (dk := kD key)
            refine ⟨kvs, key, hH, rfl, by rw [bF']; exact hl, fun v ev => ?_, fun ev => ?_⟩
            . rw [hv] at ev
              rw [ev] at a1
              split at h2
              . rename_i d' ed
                obtain ⟨u, g4, g5⟩ := a2 d' ed
                rw [ev] at g4
                cases g4
                exact h2 v H2 F2 T2 (e1.trans e2) g5 r2
              . exact h2.elim
              . rename_i ed
                rw [ed] at a1
                cases a1
            . rw [hv] at ev
              rw [ev] at a1
              split at h2
              . rename_i d' ed
                rw [ed] at a1
                cases a1
              . exact h2.elim
              . have hn : M.gY' (kvs.map fun p => kD p.1) (kD key) = none := by
                  unfold M.dget at ev
                  cases q : M.gY' (kvs.map fun p => kD p.1) (kD key) with
                  | none => rfl
                  | some j =>
                    rw [q, Option.bind_some] at ev
                    unfold M.gY' at q
                    have hj := (List.findIdx?_eq_some_iff_getElem.mp q).1
                    rw [List.length_map] at hj
                    rw [List.getElem?_eq_getElem (by rw [List.length_map]; exact hj)] at ev
                    cases ev
                have hp : putK kvs key z = kvs ++ [(key, z)] := putK_new z (by rw [hv]; exact ev)
                rw [hp]
                refine h2 z _ F2 T2 (e1.trans e2) zd (q3 p _ fp1 (.dK (kvs ++ [(key, z)])) (.dct ((kvs.map fun p => kD p.1) ++ [kD key]) (os ++ [.fz d])) fp1 fr rfl rfl ?_ (.app .refl .refl))
                have r5 := ra.app (RpA.cons (fp := []) (fq := []) (.fz zd) .nil)
                rw [List.append_nil, List.append_nil] at r5
                have e6 : ((kvs.map fun p => kD p.1) ++ [kD key]) = (kvs ++ [(key, z)]).map fun p => kD p.1 := by simp
                rw [e6]
                exact .dct (okk.snoc (oi' zk)) (by simpa using r5)
        . exact h2.elim
      . exact h2.elim
  . exact h.elim
end
end S
namespace S
open PySem PySem.Spec PyProof.Rows L2
variable [Wd] [Hot]
section
variable {K : PySem.W.Frag} {F F' H H' : Hp} {T T' : List Addr} {fp fq fr : Fp} {ρ : M.PSt} {σ : St} {W : WX} {Q : VK}
theorem FpH.lock {d : Addr} {u : HO} {od : Obj} (hl : Lkb u) (f : FpH F H fp) (h : F d = some u) : FpH (upd F d (.frz od u)) (upd H d (.frz od u)) fp := by
  have np : ∀ e ∈ fp, e.1 ≠ d := fun e he z => by have := (f.at_ e he).2; rw [z, h] at this; cases this
  refine ⟨fun a u e => ?_, fun e he => ?_, f.nd, f.tbs (fun a h1 h2 h3 => ?_) fun c q hc => ?_⟩
  rotate_left 3
  . rcases hc with hc | ⟨o, hc⟩
    . by_cases ha : c = d
      . subst ha
        rw [h] at hc
        cases hc
        exact .inr ⟨od, upd_same⟩
      . exact .inl (by rw [upd_ne ha]; exact hc)
    . by_cases ha : c = d
      . subst ha
        rw [h] at hc
        cases hc
        rcases hl with ⟨_, e⟩ | ⟨_, e⟩ <;> cases e
      . exact .inr ⟨o, by rw [upd_ne ha]; exact hc⟩
  . by_cases ha : a = d
    . subst ha; rw [upd_same] at e ⊢; exact e
    . rw [upd_ne ha] at e ⊢; exact f.low _ _ e
  . rw [upd_ne (np e he), upd_ne (np e he)]; exact f.at_ e he
  . have ha : a ≠ d := fun z => by rw [z, h] at h1; cases h1
    exact ⟨by rw [upd_ne ha]; exact h1, upd_ne ha, h3⟩
theorem Wk.lock {d : Addr} {u : HO} {od : Obj} (hl : Lkb u) (h : F d = some u) : Wk F (upd F d (.frz od u)) := fun a o e => by
  by_cases ha : a = d
  . subst ha
    rw [h] at e
    cases e
    exact .inr ⟨hl, od, upd_same⟩
  . exact .inl (by rw [upd_ne ha]; exact e)
theorem Rel.lock {d : Addr} {u : HO} {od : Obj} (hl : Lkb u) (r : Rel K ρ σ H F T fr) (h : F d = some u) : Rel K ρ σ (upd H d (.frz od u)) (upd F d (.frz od u)) T fr := by
  obtain ⟨fe, fw, re, rw, f⟩ := r
  have e : Ext F T (upd F d (.frz od u)) T := ⟨.lock hl h, List.prefix_refl _⟩
  exact ⟨fe, fw, re.mono e, rw.mono e, f.lock hl h⟩
def tLk (te : TE) : TE := fun σ H Q => te σ H fun x H1 => (∃ d u, x = .ref d /\ H1 d = some u /\ Mut (some u) /\ ∀ od, Q x (upd H1 d (.frz od u))) \/ Q x H1
theorem CG' {X : Cx} {e : Expr} {te : TE} (h : PE X e te) : PE X e (tLk te) := by
  refine ⟨fun pins s σ H Q I q => thn (h.run pins s σ H _ I q) fun u s1 ⟨x, H1, I1, rx, q1⟩ => ?_⟩
  rcases q1 with ⟨d, v, rfl, hd, mu, q1⟩ | q1
  . obtain ⟨od, I2⟩ := I1.lock hd mu
    exact ⟨_, _, I2, rx, q1 od⟩
  . exact ⟨x, H1, I1, rx, q1⟩
theorem xp' {ma : M.ME} {G : M.D -> Option (List M.D)} {R : List M.D -> M.PSt -> Prop} {W : WX} {P : V -> Hp -> Prop} (hG : ∀ d ds, G d = some ds -> ∃ ks vs, d = .dct ks vs)
    (rel : Rel K ρ σ H F T fr) (h : a8' ((ma ρ).bind fun x ρ1 => M.ofO (G x) ρ1) R (EX K W σ F T fr))
    (k : ∀ d o kvs ds vs H' F' T' ρ', Ext F T F' T' -> F' d = some (.frz o (.dK kvs)) -> lz' kvs -> FzA K F' T' (kvs.map (·.2)) vs -> G (.dct (kvs.map fun p => kD p.1) vs) = some ds -> Rel K ρ' σ H' F' T' fr -> R ds ρ' -> P (.ref d) H') : tLk (qE K W ma) σ H P := by
  refine ⟨ρ, F, T, fr, rel, (a8'.bind h).mono (fun dx ρ1 h1 v H1 F1 T1 e1 z1 r1 => ?_) fun _ _ z => z⟩
  obtain ⟨ds, eg, hR⟩ := a8'.ofO h1
  obtain ⟨ks, vs, rfl⟩ := hG _ _ eg
  cases z1 with
  | @dct a kvs _ hd ok za =>
    rcases hd with hd | ⟨o, hd⟩
    . refine .inl ⟨a, .dK kvs, rfl, ?_, True.intro, fun od => ?_⟩
      . obtain ⟨fp, f, _⟩ := r1.fp
        exact f.low _ _ hd
      . have e2 : Ext F1 T1 (upd F1 a (.frz od (.dK kvs))) T1 := ⟨.lock (.inl ⟨_, rfl⟩) hd, List.prefix_refl _⟩
        exact k a od kvs ds vs _ _ T1 ρ1 (e1.trans e2) upd_same ok (za.mono e2) eg (r1.lock (.inl ⟨_, rfl⟩) hd) hR
    . exact .inr (k a o kvs ds vs _ _ T1 ρ1 e1 hd ok za eg r1 hR)
theorem Wk.frz {a : Addr} {o : Obj} {u : HO} (s : Wk F F') (h : F a = some (.frz o u)) : F' a = some (.frz o u) := s.at_ h fun _ e => nomatch e
theorem As' {p : Key} (h : okK p) : Fz K F T (kV p) (kD p) := by
  cases p with
  | inl i => exact .int i
  | inr x =>
    have := Fz.str (K := K) (F := F) (T := T) (s := x.cps.toList) h
    rw [tw'] at this
    exact this
theorem um' {d : Addr} {o : Obj} {kvs : List (Key × V)} {vs : List M.D} (hd : F d = some (.frz o (.dK kvs))) (ok : lz' kvs) (za : FzA K F T (kvs.map (·.2)) vs) : mR' K (Iti d o kvs) (M.dN' (kvs.map fun p => kD p.1) vs) F T := by
  have hl := za.length
  rw [List.length_map] at hl
  refine jG' (fun F' T' H' fp i e f hi => ?_) fun F' T' H' fp i dx dy e f h1 h2 => ?_
  . rw [List.length_map] at hi
    exact ⟨f.low _ _ (e.f.frz hd), by omega⟩
  . rw [List.getElem?_map] at h1
    obtain ⟨p, hp, rfl⟩ := Option.map_eq_some_iff.mp h1
    obtain ⟨v, g1, g2⟩ := za.get h2
    rw [List.getElem?_map, hp] at g1
    cases g1
    refine ⟨⟨f.low _ _ (e.f.frz hd), (List.getElem?_eq_some_iff.mp hp).1⟩, ?_⟩
    rintro x H2 ⟨T0, k, v', ek, rfl, hT, rfl⟩
    rw [hp] at ek
    cases ek
    exact ⟨T0, _, _, rfl, hT, rfl, As' (ok _ (List.mem_of_getElem? hp)), g2.mono e⟩
end
section
variable {X : Cx} {W : WX} {tg a : Expr} {ma : M.ME} {apos cpos : Pos}
theorem tF' {elts : List Expr} {kk : Nat} {tpos : Pos} (ha : SE X W a ma) (hbase : attributeBase a "items" X.env (eval a X.env) = eval a X.env := by rfl) (hline : (apos.endLine == cpos.line) = true := by rfl) :
    SI X W (.Tuple elts kk tpos) (.Call (.Attribute a "items" apos) [] [] cpos) (M.sC' M.sQ' ma) := PI.imp (pi_items (CG' ha) hbase hline) fun σ H R ⟨ρ, F, T, fr, rel, h⟩ => by
  refine xp' (fun d ds e => by cases d <;> first | exact ⟨_, _, rfl⟩ | (cases e)) rel h fun d o kvs ds vs H' F' T' ρ' e hd ok za eg r hR => ?_
  cases eg
  obtain ⟨fp, f, _⟩ := r.fp
  exact ⟨d, o, kvs, rfl, f.low _ _ hd, hR _ _ _ _ e (um' hd ok za) r⟩
end
section
variable {K : PySem.W.Frag} {F F' H H' : Hp} {T T' : List Addr} {fp fq fr : Fp} {ρ : M.PSt} {σ : St} {W : WX}
def BB' (K : PySem.W.Frag) (sl : List Nat) (g : M.MG) (t : M.MT) (ek ev : M.ME) (ds : List M.D) (σ : St) (D : Addr) (fr : Fp) (F1 : Hp) (T1 : List Addr) (P : List M.D × List M.D -> M.PSt -> Prop) (Y : Wx) (i : Nat) (H : Hp) : Prop :=
  i <= ds.length /\ ∃ ρ' F' T' kvs vs, Ext F1 T1 F' T' /\ (kvs.map (·.1)).Nodup /\ lz' kvs /\ FzA K F' T' (kvs.map (·.2)) vs /\ Rel K ⟨M.az' sl ρ'.env, ρ'.w⟩ (wipe σ sl) H F' T' ((D, .dK kvs) :: fr) ∧
    a8' (M.dcL sl g t ek ev (ds.drop i) (kvs.map fun p => kD p.1) vs ρ') P Y
theorem xQ' {sl : List Nat} {it : M.MI} {g : M.MG} {t : M.MT} {ek ev : M.ME} {Q : VK} (h : qO K W (M.oDc sl it g t ek ev) σ H Q) : tDc (qI K W it) (qG K sl g) (qT K W0 t) (qE K W0 ek) (qE K W0 ev) sl σ H Q := by
  obtain ⟨ρ, F, T, fr, rel, h⟩ := h
  refine ⟨ρ, F, T, fr, rel, (a8'.bind h).mono (fun ds ρ1 h1 J H1 F1 T1 e1 io r1 => ?_) fun _ _ z => z⟩
  intro D hD
  have h2 := a8'.bind h1
  refine ⟨fun i m H => m = ds.length - i /\ BB' K sl g t ek ev ds σ D fr F1 T1 _ _ i H, ⟨ds.length, by simp, Nat.zero_le _, ρ1, F1, T1, [], [], .refl, List.nodup_nil, .nil, .nil, (r1.wiped sl).own hD, h2⟩, ?_⟩
  rintro i m H2 ⟨rfl, hi, ρ2, F2, T2, kvs, vs, e2, nd, okk, za, r2, h3⟩
  have hH : H2 D = some (.dK kvs) := r2.at_ (e := (D, .dK kvs)) List.mem_cons_self
  obtain ⟨fp2, f2, _⟩ := r2.fp
  by_cases hl : i = ds.length
  . refine .inl ⟨(io F2 T2 H2 fp2 i e2 f2 hi).1 hl, ?_⟩
    rw [hl, List.drop_length] at h3
    have h4 : a8' (M.dcL sl g t ek ev [] _ vs ρ2) _ _ := h3
    unfold M.dcL at h4
    have h5 := h4
    refine h5 (.ref D) H2 F2 T2 ((D, .dK kvs) :: []) (e1.trans e2) ?_ ?_
    . exact .dct okk (RpA.of_fz za)
    . obtain ⟨fe, fw, re, rw, f⟩ := r2
      have re1 : RpE K F2 T2 σ (M.az' sl ρ2.env) fe := by
        refine re.other ?_ fun j o hj => (g5' (fM' hj)).symm
        rw [wipe_length]
      obtain ⟨fe0, fw0, re0, rw0, f0⟩ := r1
      obtain ⟨fq, h6, h7⟩ := RpE.backed (env0 := ρ1.env) (fun i d hd => by
        obtain ⟨v, hv, z⟩ := re0.data hd
        exact ⟨v, hv, z.mono e2⟩) sl re1
      exact ⟨fq, fw, h6, rw, f.part (.app h7 .refl)⟩
  . have hlt : i < ds.length := by omega
    have hd : ds[i]? = some ds[i] := List.getElem?_eq_getElem hlt
    obtain ⟨go, yl⟩ := (io F2 T2 H2 fp2 i e2 f2 hi).2 _ hd
    refine .inr ⟨go, BB' K sl g t ek ev ds σ D fr F1 T1 _ _ (i + 1), fun H' n => ⟨ds.length - (i + 1), by omega, rfl, n⟩, fun x H3 y => ?_⟩
    obtain ⟨fe, fw, re, rw, f⟩ := id r2
    obtain ⟨yg, yh⟩ := (io F2 T2 H2 _ i e2 f hi).2 _ hd
    obtain ⟨F3, s3, zx, f3⟩ := yh x H3 y
    have r3 : Rel K ⟨M.az' sl ρ2.env, ρ2.w⟩ (wipe σ sl) H3 F3 T2 ((D, .dK kvs) :: fr) := ⟨fe, fw, re.mono (.of s3), rw.mono (.of s3), f3⟩
    rw [List.drop_eq_getElem_cons hlt] at h3
    unfold M.dcL at h3
    cases eg : g ds[i] ⟨M.az' sl ρ2.env, ρ2.w⟩ with
    | none => rw [eg] at h3; exact h3.elim
    | some ρ3 =>
      rw [eg] at h3
      refine ⟨_, F3, T2, _, ds[i], ρ3, r3, zx, eg, fun σ4 w4 r4 => ?_⟩
      rw [jZ'] at w4
      refine ⟨w4, ?_⟩
      have h4 := a8'.bind h3
      refine ⟨ρ3, F3, T2, _, r4, (a8'.noX h4).mono (fun b ρ5 h5 H5 F5 T5 e5 r5 => ?_) fun _ _ z => z⟩
      cases b with
      | false =>
        rw [if_neg Bool.false_ne_true]
        refine ⟨hlt, ρ5, F5, T5, kvs, vs, e2.trans ((Ext.of s3).trans e5), nd, okk, (za.mono (.of s3)).mono e5, ?_, h5⟩
        rw [<- w4]
        exact r5.wiped sl
      | true =>
        rw [if_pos rfl] at h5 ⊢
        have h6 := a8'.bind h5
        refine ⟨ρ5, F5, T5, _, r5, (a8'.noX h6).mono (fun dk ρ6 h7 y6 H6 F6 T6 e6 z6 r6 => ?_) fun _ _ z => z⟩
        have h8 := a8'.bind h7
        refine ⟨ρ6, F6, T6, _, r6, (a8'.noX h8).mono (fun dv ρ7 h9 y7 H7 F7 T7 e7 z7 r7 => ?_) fun _ _ z => z⟩
        split at h9
        . rename_i hc
          obtain ⟨hk, hlen⟩ := hc
          rw [List.length_map] at hlen
          have hH7 : H7 D = some (.dK kvs) := r7.at_ (e := (D, .dK kvs)) List.mem_cons_self
          obtain ⟨key, hkey⟩ := k4' hk
          have z6' := z6.mono e7
          have q1 := k0' z6' hkey
          have q2 := h6' hkey
          subst q1 q2
          have za7 := ((za.mono (.of s3)).mono e5).mono (e6.trans e7)
          have ee := e2.trans ((Ext.of s3).trans (e5.trans (e6.trans e7)))
          refine ⟨kvs, key, rfl, hH7, by rw [bF']; exact hlen, hlt, ?_⟩
          cases el : M.l0' (kvs.map fun p => kD p.1) vs (kD key) dv with
          | none => rw [el] at h9; exact h9.elim
          | some p =>
            obtain ⟨ks', vs'⟩ := p
            rw [el] at h9
            have hr := (r7.wiped sl).write (o' := .dK (putK kvs key y7))
            rw [w4] at hr
            rcases ey' el with ⟨j, ej, rfl, rfl⟩ | ⟨ej, _, rfl, rfl⟩
            . obtain ⟨g1, g2⟩ := (dI' (v := y7) (i9' key) nd).1 j ej
              refine ⟨ρ7, F7, T7, putK kvs key y7, vs.set j dv, ee, by rw [g1]; exact nd, okk.fst g1, ?_, hr, ?_⟩
              . rw [g2]
                have main : ∀ {us : List V} {ws : List M.D} (j : Nat), FzA K F7 T7 us ws -> FzA K F7 T7 (us.set j y7) (ws.set j dv) := by
                  intro us ws j h
                  induction us generalizing ws j with
                  | nil => cases h; exact .nil
                  | cons u us ih =>
                    cases h with
                    | cons a r =>
                      cases j with
                      | zero => exact .cons z7 r
                      | succ j => exact .cons a (ih j r)
                exact main j za7
              . rw [i6' g1]
                exact h9
            . have g := (dI' (v := y7) (i9' key) nd).2 ej
              have nin : key ∉ kvs.map (·.1) := by
                intro hm
                obtain ⟨p, hp, rfl⟩ := List.mem_map.mp hm
                unfold M.gY' at ej
                rw [List.findIdx?_eq_none_iff] at ej
                have := ej (kD p.1) (List.mem_map_of_mem hp)
                rw [vV', decide_eq_true rfl] at this
                cases this
              rw [g] at hr ⊢
              refine ⟨ρ7, F7, T7, kvs ++ [(key, y7)], vs ++ [dv], ee, ?_, okk.snoc (oi' z6'), ?_, hr, ?_⟩
              . rw [List.map_append, List.nodup_append]
                refine ⟨nd, by simp, ?_⟩
                intro a ha b hb
                simp only [List.map_cons, List.map_nil, List.mem_singleton] at hb
                rw [hb]
                exact fun z => nin (z ▸ ha)
              . rw [List.map_append]
                exact za7.append (.cons z7 .nil)
              . rw [List.map_append]
                exact h9
        . exact h9.elim
end
section
variable {X : Cx} {W : WX} {pos : Pos} {kx vx tg iter : Expr} {ifs : List Expr} {scope : Scope} {own : List (Str × Nat)} {sl : List Nat} {it : M.MI} {g : M.MG} {t : M.MT} {ek ev : M.ME}
theorem zl' (hc : X.calm = true) (hN : X.N.Nodup) (hi : SI X W tg iter it) (ok : BlkOk X.N X.env.scope scope own) (hsl : sl = own.map (·.2))
    (hg : ∀ (s : Shared) (H : Hp) (C : Addr) (cl : List (Str × Addr)) (fp : List Addr), SG (X.blk s H scope (compEnvC scope cl C X.env) fp) tg sl g) (ht : ∀ (s : Shared) (H : Hp) (C : Addr) (cl : List (Str × Addr)) (fp : List Addr), PTs (X.blk s H scope (compEnvC scope cl C X.env) fp) ifs (qT X.K W0 t))
    (hk : ∀ (s : Shared) (H : Hp) (C : Addr) (cl : List (Str × Addr)) (fp : List Addr), SE (X.blk s H scope (compEnvC scope cl C X.env) fp) W0 kx ek) (he : ∀ (s : Shared) (H : Hp) (C : Addr) (cl : List (Str × Addr)) (fp : List Addr), SE (X.blk s H scope (compEnvC scope cl C X.env) fp) W0 vx ev)
    (hs : ∀ x, foldedSetIterable iter X.env x = pure x := by intro _; rfl) : SO X W (.DictComp kx vx [⟨tg, iter, ifs, 0⟩] scope pos) (M.oDc sl it g t ek ev) := by
  subst hsl
  exact PE.imp (pe_dc hc hN hi ok hg ht hk he hs) fun σ H Q h => xQ' h
end
section
variable {K : PySem.W.Frag}
def vy' (K : PySem.W.Frag) : List V -> Hp -> VK -> Prop := fun xs H Q => ∃ (d : Addr) (ps : List (Key × V)) (ns : List Int), xs = [.ref d] /\ Rd H d (.dK ps) /\ ps.map (·.1) = ns.map Sum.inl /\ ns.length <= sizeLine ∧
    ∀ (ms : List Int) (l : Addr), ms.Perm ns -> ms.Pairwise (· <= ·) -> H l = none -> Q (.ref l) (upd H l (.lst (ms.map V.int)))
theorem jh' {X : Cx} (hc : X.calm = true) : CallR X (.builtin "sorted") (vy' X.K) := by
  intro pins s σ H xs us Q I r hq
  obtain ⟨d, ps, ns, rfl, hrd, hns, hz, hq⟩ := hq
  obtain ⟨u0, rfl, ru⟩ := vals1 r
  cases ru
  obtain ⟨_, lo, vs, rel, dd⟩ := dk_rd I.hok hrd
  obtain ⟨ep0, hat⟩ := dd.dictAt
  have hk1 : vs.map (·.1) = ns.map Sum.inl := rel.keys.symm.trans hns
  have hl1 : vs.length = ns.length := by
    have := congrArg List.length hk1
    simpa using this
  refine Calls.call_function_entry kind_sorted plain_sorted entry_sorted (args_sorted1 _) ?_
  unfold Builtin.«sorted»
  refine wpAny_bind (m := checkCount "sorted" 1 1 _) (wpAny_pure ?_)
  refine wpAny_bind (PySem.W.kdu_collect (A := X.A.in1) (PySem.W.kdl_dict (knd := mixKind X.prog X.w) (kvs := vs) (ep := ep0) lo) (I.ok.hd hc) hat (by rw [hl1]; exact hz) fun hp tk keys hkeep hall => ?_)
  have hlen0 : keys.toList.length = ns.length := by rw [Array.length_toList, hall.1, hl1]
  have hI : IntsAre keys.toList ns := ints_each hlen0 fun j v ev => by
    obtain ⟨k, y, z1, z2⟩ := hall.2 j v (by rw [<- Array.getElem?_toList]; exact ev)
    have z3 : (vs.map (·.1))[j]? = some k := by rw [List.getElem?_map, z1]; rfl
    rw [hk1, List.getElem?_map] at z3
    cases z4 : ns[j]? with
    | none => rw [z4] at z3; cases z3
    | some n0 =>
      rw [z4] at z3
      obtain rfl : Sum.inl n0 = k := Option.some.inj z3
      rcases keyIs_shape (show keyIs (Sum.inl n0) v = true from z2) with ⟨i, t, ei, et⟩ | ⟨z, t, ei, et⟩
      . cases ei
        exact ⟨n0, t, rfl, et⟩
      . cases ei
  have I1 : Inv X pins σ H { s with heap := hp, toks := tk } := I.kept hkeep
  refine wpAny_bind (wpAny_newList ?_ (by rw [hlen0]; exact hz))
  have hoL : (hp.push (seqObj "list" keys.toList.toArray 0)).get? hp.objs.size = some (seqObj "list" keys.toList.toArray 0) := Heap.get?_push_size _ rfl
  show wpAny _ _ _ _ _ { s with heap := hp.push (seqObj "list" keys.toList.toArray 0), toks := tk }
  refine wpAny_bind (wpAny_holding (wpAny_call_entry slot_list_sort ⟨_, hoL, rfl⟩ entry_list_sort
    (SrtO.list_sort_ord (s := { s with heap := hp.push (seqObj "list" keys.toList.toArray 0), toks := tk }) SrtO.swo_int hoL (by rw [hlen0]; exact hz) (fun two => SrtO.ints_sortable hI two) fun out g1 g2 => ⟨_, rfl, ?_⟩) (args_list_sort _)))
  obtain ⟨y1, y2, y3⟩ := SrtO.ints_out hI g1 g2
  obtain ⟨e0, he0⟩ := sortedHeap_at (vs := keys.toList) (out := out.toArray) hoL
  have hlen : ((out.map SrtO.iv).map V.int).length <= sizeLine := by
    rw [List.length_map, y2.length_eq]; exact hz
  refine wpAny_pure ⟨_, rfl, .ref hp.objs.size, upd H hp.objs.size (.lst ((out.map SrtO.iv).map V.int)), I1.laid (t' := tk) (fun b u eb => ?_) (Nat.le_refl _)
    ⟨hlen, out, e0, vals_of_ints y1, he0⟩, rfl, hq _ _ y2 y3 (I1.hok.fresh (Nat.le_refl _))⟩
  have hb : b < hp.objs.size := Heap.lt_size eb
  rw [sortedHeap_old (Nat.ne_of_lt hb) (by rw [size_push']; exact Nat.lt_succ_of_lt hb)]
  exact Heap.get?_push_of_some _ eb
theorem k5' : ∀ {kvs : List (Key × V)} {ns : List Int}, M.bU' (kvs.map fun p => kD p.1) = some ns -> kvs.map (·.1) = ns.map Sum.inl
  | [], ns, h => by cases h; rfl
  | p :: kvs, ns, h => by
    obtain ⟨k, v⟩ := p
    cases k with
    | inl i =>
      have h : (M.bU' (kvs.map fun p => kD p.1)).map (fun x => i :: x) = some ns := h
      cases q : M.bU' (kvs.map fun p => kD p.1) with
      | none => rw [q] at h; cases h
      | some ms =>
        rw [q] at h
        cases h
        rw [List.map_cons, List.map_cons, k5' q]
    | inr x => cases (show (none : Option (List Int)) = some ns from h)
theorem sV' : Bi1 K M.eA' (vy' K) := by
  intro F H T fp x dx dz Q f hx h k
  cases dx <;> try (cases h; done)
  cases hx with
  | @dct a kvs _ hd ok za =>
    simp only [M.eA'] at h
    cases q : M.bU' (kvs.map fun p => kD p.1) with
    | none => rw [q] at h; cases h
    | some ns =>
      rw [q, Option.bind_some] at h
      split at h
      . rename_i hl
        cases h
        refine ⟨a, kvs, ns, rfl, gr' f.low hd, k5' q, hl, fun ys p hp hs hn => ?_⟩
        rw [n1' hp hs]
        exact k.newL f (FzA.rgI _) hn
      . cases h
end
def oX' (p d : Addr) : HO := .ext fun h => h.IsValuesView p d
theorem to' {P : Program} {w : World} {H : Hp} {h : Heap} {p d : Addr} (e : h.IsValuesView p d) : ObjOk P w H h p (oX' p d) := by
  obtain ⟨o, e1, e2⟩ := id e
  refine ⟨e, ⟨o, e1⟩, ?_⟩
  rintro h1 h2 ⟨o', q1, q2⟩ k
  exact ⟨o', k _ q1, q2⟩
def Cn' (te : TE) : TE := fun σ H Q => te σ H fun x H1 => ∃ a kvs, x = .ref a /\ Rd H1 a (.dK kvs) /\ ∀ p, H1 p = none -> Q (.ref p) (upd H1 p (oX' p a))
def CC' : List V -> Hp -> VK -> Prop := fun xs H Q => ∃ (p a : Addr) (kvs : List (Key × V)) (ns : List Int), xs = [.ref p] /\ H p = some (oX' p a) /\ Rd H a (.dK kvs) /\ kvs.map Prod.snd = ns.map V.int /\ 0 < ns.length /\ ∀ m, m ∈ ns -> (∀ y, y ∈ ns -> y <= m) -> Q (.int m) H
section
variable {X : Cx} {W : WX} {e : Expr} {te : TE} {apos cpos pos p : Pos} {me : M.ME}
theorem w4' (he : PE X e te) (hbase : attributeBase e "values" X.env (eval e X.env) = eval e X.env := by rfl) (hline : (apos.endLine == cpos.line) = true := by rfl) : PE X (.Call (.Attribute e "values" apos) [] [] cpos) (Cn' te) := by
  refine ⟨fun pins s σ H Q I h => wpAny_Call_method (T := "dict") (id := "dict.values") hbase rfl hline PySem.F.plainAttrs_dict PySem.F.slot_dict_values PySem.F.type_dict_values (thn (he.run pins s σ H _ I h) fun u s1 ⟨x, H1, I1, rx, a, kvs, ex, hd, q⟩ => ?_)⟩
  subst ex
  cases (show u = Value.ref a from rx)
  obtain ⟨z, hs, vs, rel, dd⟩ := dk_rd I1.hok hd
  refine ⟨dd.typeIs, dd.mapOf.noDict, ?_⟩
  have J := I1.laid (a := s1.heap.objs.size) (o := oX' s1.heap.objs.size a) (h' := s1.heap.push { cls := .type "dict_values", data := .fields #[.ref a] }) (t' := s1.toks) (fun _ _ q => Heap.get?_push_of_some _ q) (Nat.le_refl _)
    (to' ⟨_, Heap.get?_push_size _ rfl, rfl, rfl⟩)
  show wpAny _ _ (callWith cpos (.builtin "dict.values") [.ref a] [] []) _ X.xe s1
  exact method_meetsIn PySem.F.slot_dict_values PySem.F.entry_dict_values rfl (PySem.evalArgs_none ⟨rfl, dd.typeIs, PySem.F.args_dict_values_1 _, _, meets_dict_values (mixKind X.prog X.w) a hs, ⟨vs, dd⟩, ⟨.ref s1.heap.objs.size, _, J, rfl, q _ (I1.hok.fresh (Nat.le_refl _))⟩⟩)
theorem yj' (hc : X.calm = true) : CallR X (.builtin "max") CC' := by
  intro pins s σ H xs us Q I rx h
  obtain ⟨p, a, kvs, ns, rfl, hp, hd, hns, hne, q⟩ := h
  rw [Vals.ref1 rx]
  obtain ⟨z, hs, vs, rel, dd⟩ := dk_rd I.hok hd
  have hv : s.heap.IsValuesView p a := (show ObjOk X.prog X.w H s.heap p (oX' p a) from I.hok p _ hp).1
  have hkn : vs.length = ns.length := by
    have e := congrArg List.length hns
    rw [List.length_map, List.length_map] at e
    rw [<- rel.length]
    exact e
  obtain ⟨o, es, ep, g1, g2, g3, g4, g5, g6⟩ := id dd
  have da : s.heap.DictAt (mixKind X.prog X.w) a vs ep := ⟨o, es, g1, g2, g3, g4, g5, g6⟩
  have hP : ∀ (i : Nat) (k : Key) (v : Value), vs[i]? = some (k, v) -> ∃ t, v = .int (ns.getD i 0) t := by
    intro i k v hi
    have hi1 : i < vs.length := (List.getElem?_eq_some_iff.mp hi).1
    have hi2 : i < kvs.length := by rw [rel.length]; exact hi1
    have hi3 : i < ns.length := by omega
    have e2 : kvs[i].2 = V.int ns[i] := by
      have z : (kvs.map Prod.snd)[i]? = (ns.map V.int)[i]? := by rw [hns]
      rw [List.getElem?_map, List.getElem?_map, List.getElem?_eq_getElem hi2, List.getElem?_eq_getElem hi3] at z
      exact Option.some.inj z
    have e3 : ns.getD i 0 = ns[i] := by rw [List.getD_eq_getElem?_getD, List.getElem?_eq_getElem hi3]; rfl
    have main : ∀ {l : List (Key × V)} {m : List (Key × Value)} (i : Nat) (p : Key × V), KV l m -> l[i]? = some p -> ∀ q, m[i]? = some q -> RelV p.2 q.2 := by
      intro l m i p h
      unfold KV at h
      induction h generalizing i with
      | nil => intro e; cases e
      | cons r _ ih =>
        cases i with
        | zero => intro e q e'; cases e; cases e'; exact r.2
        | succ i => exact fun e q e' => ih i e q e'
    have r := main i kvs[i] rel (List.getElem?_eq_getElem hi2) _ hi
    rw [e2] at r
    rw [e3]
    exact r
  have ha : a < s.heap.objs.size := Heap.lt_size g1
  refine call_max_walk (wpAny_pyIter_values (d := a) (knd := mixKind X.prog X.w) hv da ?_)
  refine ⟨s.heap.objs.size, [s.heap.objs.size, a], [s.heap.objs.size], vs.length, fun i v => ∃ k, vs[i]? = some (k, v), _, fun i j => decide (ns.getD i 0 > ns.getD j 0), rfl,
    Walks.dictValues (knd := mixKind X.prog X.w) (show X.A.in1.handled = none from I.ok.hd hc) _ a (Nat.ne_of_lt ha) vs ep, ⟨⟨_, Heap.get?_push_size _ rfl, rfl, rfl⟩, da.push _⟩, fun b hb => ?_, by omega, CmpOf.ints_gt (fun i => ns.getD i 0) (fun i v z => (let ⟨k, z⟩ := z; hP i k v z)), fun v h' tk hv' hk => ?_⟩
  . show b < (s.heap.push _).objs.size
    rw [Heap.size_push]
    rcases List.mem_cons.mp hb with z | z
    . rw [z]; exact Nat.lt_succ_self _
    . rw [List.mem_singleton.mp z]; exact Nat.lt_succ_of_lt ha
  . obtain ⟨k, hv'⟩ := hv'
    obtain ⟨t, rfl⟩ := hP _ k v hv'
    obtain ⟨m1', m2'⟩ := argBest_gt (fun i => ns.getD i 0) (vs.length - 1)
    have m1 : argBest (fun i j => decide (ns.getD i 0 > ns.getD j 0)) (vs.length - 1) <= vs.length - 1 := m1'
    have m2 : ∀ j, j <= vs.length - 1 -> ns.getD j 0 <= ns.getD (argBest (fun i j => decide (ns.getD i 0 > ns.getD j 0)) (vs.length - 1)) 0 := m2'
    have hk2 : ∀ b o, s.heap.get? b = some o -> h'.get? b = some o := fun b o e => hk b o (fun z => by rw [List.mem_singleton.mp z] at e; exact absurd (Heap.lt_size e) (Nat.lt_irrefl _)) (Heap.get?_push_of_some _ e)
    refine ⟨.int _, H, I.kept (t' := tk) hk2, ⟨t, rfl⟩, q _ (PySem.getD_mem (by omega)) fun y hy => ?_⟩
    obtain ⟨j, hj, e⟩ := List.mem_iff_getElem.mp hy
    have z := m2 j (by omega)
    have e3 : ns.getD j 0 = y := by rw [List.getD_eq_getElem?_getD, List.getElem?_eq_getElem hj, <- e]; rfl
    rw [e3] at z
    exact z
theorem rs' {x : Str} (hc : X.calm = true) (hg : Gl X x) (hm : X.mg x = none) (hv : bootBuiltins x = some (.builtin "max")) (he : SE X W e me) (hn : x ≠ "__name__" := by decide) (hdb : (x == ("__debug__" : Str)) = false := by decide)
    (hbase : attributeBase e "values" X.env (eval e X.env) = eval e X.env := by rfl) (hline : (apos.endLine == cpos.line) = true := by rfl)
    (hs : starEach [(.Call (.Attribute e "values" apos) [] [] cpos)] X.env = (false, eval (.Call (.Attribute e "values" apos) [] [] cpos) X.env) :: starEach [] X.env := by rfl) (hpl : (backTo pos (starEach [] X.env)).any (·.1) = false := by rfl) :
    SE X W (.Call (.Name x p) [.Call (.Attribute e "values" apos) [] [] cpos] [] pos) (M.eUn M.pa' me) :=
  PE.imp (pe_callB (yj' hc) hg hm hv (pa_cons (w4' he hbase hline) pa_nil hs) hn hdb hs hpl) fun σ H Q ⟨ρ, F, T, fr, rel, h⟩ => by
    refine av' rel h fun d ρ1 v H1 F1 T1 e1 z1 r1 h1 => ?_
    obtain ⟨dz, ez, q⟩ := a8'.ofO h1
    cases d <;> try (cases ez; done)
    rename_i ks vs
    cases z1 with
    | @dct a kvs _ hd ok za =>
      simp only [M.pa'] at ez
      cases qi : M.bU' vs with
      | none => rw [qi] at ez; cases ez
      | some ns =>
        rw [qi, Option.bind_some] at ez
        split at ez
        . cases ez
        . rename_i hne
          cases ez
          obtain ⟨fp, f, back⟩ := r1.fp
          have hR := gr' f.low hd
          refine ⟨a, kvs, rfl, hR, fun p hp => ⟨p, a, kvs, ns, rfl, upd_same, ?_, jJ' za qi, List.length_pos_iff.mpr hne, fun m hm hM => ?_⟩⟩
          . rcases hR with hR | ⟨o, hR⟩
            . exact .inl (by rw [upd_ne (ne_of_none hR hp)]; exact hR)
            . exact .inr ⟨o, by rw [upd_ne (ne_of_none hR hp)]; exact hR⟩
          . rw [<- kS' ns m hm hM] at *
            have s : Same F1 (upd F1 p (oX' p a)) := dg' (f.free hp)
            exact q _ _ _ T1 (e1.trans (.of s)) (.int _) (back _ _ s (f.new hp))
end
end S
namespace S
open PySem PySem.Spec PyProof.Rows L2
variable [Wd] [Hot]
section
variable {K : PySem.W.Frag} {F H : Hp} {T : List Addr}
mutual
theorem hN' : ∀ {v : V} {d : M.D}, Fz K F T v d -> M.dat d = true -> M.vw' d = true -> (py d).leavesShort 62 = true /\ (py d).showable = true /\ (py d).hasDict = false /\ (py d).bulk = M.tc' d
  | _, _, .non, _, _ => ⟨rfl, rfl, rfl, rfl⟩
  | _, _, .bl b, _, _ => ⟨rfl, rfl, rfl, rfl⟩
  | _, _, .int i, _, h => by
    have h : i.natAbs < 10 ^ 60 := of_decide_eq_true h
    refine ⟨?_, ?_, rfl, rfl⟩
    . show decide ((Str.ofString (toString i)).length <= 62) = true
      rw [decide_eq_true_iff, PySem.ofString_length]
      have := int_text_length_le10 (k := 60) (by decide) h
      omega
    . show decide (i.natAbs.log2 < 1920) = true
      rw [decide_eq_true_iff]
      have h2 : i.natAbs < 2 ^ 1920 := Nat.lt_of_lt_of_le h (by decide +kernel)
      by_cases h0 : i.natAbs = 0
      . rw [h0]; decide
      . exact (Nat.log2_lt h0).mpr h2
  | _, _, .str (s := s) o, _, _ => by
    refine ⟨?_, rfl, rfl, ?_⟩
    . show (sx s).cps.toList.all _ = true
      rw [gn', List.all_eq_true]
      intro c hc
      rw [decide_eq_true_iff]
      have := o.1 c hc
      omega
    . exact cI' s
  | _, _, .tup h r, e, g => by
    obtain ⟨a, b, c, d⟩ := reps_facts r e g
    exact ⟨a, b, c, d⟩
  | _, _, .lst h r, e, g => by
    obtain ⟨a, b, c, d⟩ := reps_facts r e g
    exact ⟨a, b, c, d⟩
  | _, _, .dct h _ r, e, _ => by cases e
  | _, _, .dcl h k r, e, _ => by cases e
  | _, _, .dcn h k q r, e, _ => by cases e
  | _, _, .rep d, e, _ => by cases e
  | _, _, .obj h, e, _ => by cases e
  | _, _, .ty n, e, _ => by cases e
  | _, _, .fn x, e, _ => by cases e
  | _, _, .scr h r, e, _ => by cases e
theorem reps_facts : ∀ {vs : List V} {ds : List M.D}, FzA K F T vs ds -> M.dats ds = true -> M.repIs ds = true -> PyData.leavesShortAll 62 (pys ds) = true /\ PyData.showableAll (pys ds) = true /\ PyData.hasDictAll (pys ds) = false /\ PyData.bulkAll (pys ds) = M.repWs ds
  | _, _, .nil, _, _ => ⟨rfl, rfl, rfl, rfl⟩
  | _, _, .cons h r, e, g => by
    obtain ⟨e1, e2⟩ := Bool.and_eq_true_iff.mp (show (M.dat _ && M.dats _) = true from e)
    obtain ⟨g1, g2⟩ := Bool.and_eq_true_iff.mp (show (M.vw' _ && M.repIs _) = true from g)
    obtain ⟨a1, a2, a3, a4⟩ := hN' h e1 g1
    obtain ⟨b1, b2, b3, b4⟩ := reps_facts r e2 g2
    refine ⟨?_, ?_, ?_, ?_⟩
    . show (PyData.leavesShort 62 _ && PyData.leavesShortAll 62 _) = true
      rw [a1, b1]; rfl
    . show (PyData.showable _ && PyData.showableAll _) = true
      rw [a2, b2]; rfl
    . show (PyData.hasDict _ || PyData.hasDictAll _) = false
      rw [a3, b3]; rfl
    . show PyData.bulk _ + 1 + PyData.bulkAll _ = M.tc' _ + 1 + M.repWs _
      rw [a4, b4]
end
mutual
theorem lT' : ∀ d e : M.D, M.same d e = true -> d = e
  | .non, e, h => by cases e <;> first | rfl | (cases h)
  | .bl a, e, h => by cases e <;> first | (have := eq_of_beq (show (_ == _) = true from h); rw [this]) | (cases h)
  | .int a, e, h => by cases e <;> first | (have := eq_of_beq (show (_ == _) = true from h); rw [this]) | (cases h)
  | .str a, e, h => by cases e <;> first | (have := eq_of_beq (show (_ == _) = true from h); rw [this]) | (cases h)
  | .lst a, e, h => by
    cases e with
    | lst b => rw [sames_eq a b h]
    | _ => cases h
  | .tup a, e, h => by
    cases e with
    | tup b => rw [sames_eq a b h]
    | _ => cases h
  | .dct a b, e, h => by
    cases e with
    | dct c d =>
      obtain ⟨h1, h2⟩ := Bool.and_eq_true_iff.mp (show (M.sames a c && M.sames b d) = true from h)
      rw [sames_eq a c h1, sames_eq b d h2]
    | _ => cases h
  | .dcx _ _, e, h => by cases e <;> cases h
  | .rep _, e, h => by cases e <;> cases h
  | .obj _, e, h => by cases e <;> cases h
  | .ty _, e, h => by cases e <;> cases h
  | .fn _, e, h => by cases e <;> cases h
  | .exc _ _, e, h => by cases e <;> cases h
  | .scr _, e, h => by cases e <;> cases h
theorem sames_eq : ∀ d e : List M.D, M.sames d e = true -> d = e
  | [], [], _ => rfl
  | [], _ :: _, h => by cases h
  | _ :: _, [], h => by cases h
  | a :: d, b :: e, h => by
    obtain ⟨h1, h2⟩ := Bool.and_eq_true_iff.mp (show (M.same a b && M.sames d e) = true from h)
    rw [lT' a b h1, sames_eq d e h2]
end
end
section
variable {K : PySem.W.Frag} {F H : Hp} {T : List Addr}
theorem FzA.keys : ∀ {kvs : List (Key × V)}, lz' kvs -> FzA K F T (kvs.map fun p => kV p.1) (kvs.map fun p => kD p.1)
  | [], _ => .nil
  | (k, v) :: r, h => by
    have hk := h (k, v) (List.mem_cons_self ..)
    refine .cons ?_ (FzA.keys fun p hp => h p (List.mem_cons_of_mem _ hp))
    cases k with
    | inl i => exact .int i
    | inr x =>
      have : Fz K F T (.str (sx x.cps.toList)) (.str x.cps.toList) := .str hk
      exact this
theorem ii' : ∀ kvs : List (Key × V), M.dats (kvs.map fun p => kD p.1) = true
  | [] => rfl
  | (k, v) :: r => by
    show (M.dat (kD k) && M.dats (r.map fun p => kD p.1)) = true
    rw [ii' r]
    cases k <;> rfl
theorem eD' : ∀ {ds : List M.D}, ds.all M.e3' = true -> M.dats ds = true
  | [], _ => rfl
  | d :: r, h => by
    rw [List.all_cons, Bool.and_eq_true] at h
    show (M.dat d && M.dats r) = true
    rw [eD' h.2]
    cases d <;> first | rfl | cases h.1
theorem vM' : ∀ {ks ds : List PyData}, ks.length = ds.length -> PyData.leavesShortAll 62 ks = true -> PyData.leavesShortAll 62 ds = true -> PyData.showableAll ks = true -> PyData.showableAll ds = true →
    PyData.leavesShortKv 62 (ks.zip ds) = true /\ PyData.showableKv (ks.zip ds) = true /\ PyData.bulkKv (ks.zip ds) = PyData.bulkAll ks + PyData.bulkAll ds /\ PyData.depthKv (ks.zip ds) = max (PyData.depthAll ks) (PyData.depthAll ds)
  | [], [], _, _, _, _, _ => ⟨rfl, rfl, rfl, rfl⟩
  | [], _ :: _, e, _, _, _, _ => by cases e
  | _ :: _, [], e, _, _, _, _ => by cases e
  | k :: ks, d :: ds, e, a1, b1, a2, b2 => by
    obtain ⟨a1, a1'⟩ := Bool.and_eq_true_iff.mp (show (PyData.leavesShort 62 k && PyData.leavesShortAll 62 ks) = true from a1)
    obtain ⟨b1, b1'⟩ := Bool.and_eq_true_iff.mp (show (PyData.leavesShort 62 d && PyData.leavesShortAll 62 ds) = true from b1)
    obtain ⟨a2, a2'⟩ := Bool.and_eq_true_iff.mp (show (PyData.showable k && PyData.showableAll ks) = true from a2)
    obtain ⟨b2, b2'⟩ := Bool.and_eq_true_iff.mp (show (PyData.showable d && PyData.showableAll ds) = true from b2)
    obtain ⟨h1, h2, h3, h4⟩ := vM' (Nat.succ.inj e) a1' b1' a2' b2'
    refine ⟨?_, ?_, ?_, ?_⟩
    . show (PyData.leavesShort 62 k && PyData.leavesShort 62 d && PyData.leavesShortKv 62 (ks.zip ds)) = true
      rw [a1, b1, h1]; rfl
    . show (PyData.showable k && PyData.showable d && PyData.showableKv (ks.zip ds)) = true
      rw [a2, b2, h2]; rfl
    . show PyData.bulk k + PyData.bulk d + 2 + PyData.bulkKv (ks.zip ds) = (PyData.bulk k + 1 + PyData.bulkAll ks) + (PyData.bulk d + 1 + PyData.bulkAll ds)
      rw [h3]; omega
    . show max (max (PyData.depth k) (PyData.depth d)) (PyData.depthKv (ks.zip ds)) = max (max (PyData.depth k) (PyData.depthAll ks)) (max (PyData.depth d) (PyData.depthAll ds))
      rw [h4]; omega
theorem lY' : ∀ ds : List M.D, (pys ds).length = ds.length
  | [] => rfl
  | _ :: r => congrArg (· + 1) (lY' r)
theorem FzA.len : ∀ {vs : List V} {ds : List M.D}, FzA K F T vs ds -> vs.length = ds.length
  | _, _, .nil => rfl
  | _, _, .cons _ r => congrArg (· + 1) (FzA.len r)
theorem la' : ∀ kvs : List (Key × V), M.deps (kvs.map fun p => kD p.1) = 0
  | [] => rfl
  | (k, v) :: r => by
    show max (M.dep (kD k)) (M.deps (r.map fun p => kD p.1)) = 0
    rw [la' r]
    cases k <;> rfl
theorem jc' : ∀ {ds : List M.D}, ds.all M.e3' = true -> M.deps ds = 0
  | [], _ => rfl
  | d :: r, h => by
    rw [List.all_cons, Bool.and_eq_true] at h
    show max (M.dep d) (M.deps r) = 0
    rw [jc' h.2]
    cases d <;> first | rfl | cases h.1
def kP : Key -> PyData := fun k => py (kD k)
inductive Dq0 (K : PySem.W.Frag) (H : Hp) : V -> PyData -> Prop
  | dp {v : V} {d : PyData} : Dp K H v d -> d.hasDict = false -> Dq0 K H v d
  | dct {a : Addr} {kvs : List (Key × V)} {ds : List M.D} : Rd H a (.dK kvs) -> lz' kvs -> DpAll K H (kvs.map (·.2)) (pys ds) -> ds.all M.e3' = true -> Dq0 K H (.ref a) (.dict ((pys (kvs.map fun p => kD p.1)).zip (pys ds)))
inductive LqAll (K : PySem.W.Frag) (H : Hp) : List V -> List M.D -> Prop
  | nil : LqAll K H [] []
  | leaf {v : V} {d : M.D} {vs : List V} {ds : List M.D} : Dp K H v (py d) -> M.e3' d = true -> LqAll K H vs ds -> LqAll K H (v :: vs) (d :: ds)
  | emp {a : Addr} {vs : List V} {ds : List M.D} : Rd H a (.dK []) -> LqAll K H vs ds -> LqAll K H (.ref a :: vs) (.dct [] [] :: ds)
inductive Dq (K : PySem.W.Frag) (H : Hp) : V -> PyData -> Prop
  | old {v : V} {d : PyData} : Dq0 K H v d -> Dq K H v d
  | tupE {a : Addr} {vs : List V} {ds : List M.D} : SqT K H a vs -> LqAll K H vs ds -> Dq K H (.ref a) (.tuple (pys ds))
theorem kX' {d : M.D} (h : M.e3' d = true) : M.dat d = true := by cases d <;> first | rfl | cases h
theorem sk' {d : M.D} (h : M.e3' d = true) : (py d).depth = 0 := by cases d <;> first | rfl | cases h
theorem z8' (s : Same F H) : ∀ {vs : List V} {ds : List M.D}, FzA K F T vs ds -> (ds.all fun d => M.e3' d || M.CZ' d) = true -> M.repIs ds = true →
    LqAll K H vs ds /\ PyData.leavesShortAll 62 (pys ds) = true /\ PyData.showableAll (pys ds) = true /\ PyData.depthAll (pys ds) <= 1 /\ PyData.bulkAll (pys ds) = M.repWs ds
  | _, _, .nil, _, _ => ⟨.nil, rfl, rfl, Nat.zero_le 1, rfl⟩
  | _, _, .cons (v := v) (d := d) (ds := ds) h r, e, g => by
    rw [List.all_cons, Bool.and_eq_true] at e
    obtain ⟨g1, g2⟩ := Bool.and_eq_true_iff.mp (show (M.vw' _ && M.repIs _) = true from g)
    obtain ⟨b0, b1, b2, b3, b4⟩ := z8' s r e.2 g2
    cases hl : M.e3' d with
    | true =>
      obtain ⟨a1, a2, a3, a4⟩ := hN' h (kX' hl) g1
      refine ⟨.leaf (h.py s (kX' hl)) hl b0, ?_, ?_, ?_, ?_⟩
      . show (PyData.leavesShort 62 _ && PyData.leavesShortAll 62 _) = true
        rw [a1, b1]; rfl
      . show (PyData.showable _ && PyData.showableAll _) = true
        rw [a2, b2]; rfl
      . show max (PyData.depth _) (PyData.depthAll _) <= 1
        rw [sk' hl]; omega
      . show PyData.bulk _ + 1 + PyData.bulkAll _ = M.tc' _ + 1 + M.repWs _
        rw [a4, b4]
    | false =>
      have e1 := e.1
      rw [hl, Bool.false_or] at e1
      cases h with
      | @dct a kvs es hr k r' =>
        have h1 : kvs = [] /\ es = [] := by
          cases kvs with
          | nil => cases es with
            | nil => exact ⟨rfl, rfl⟩
            | cons _ _ => cases e1
          | cons _ _ => cases e1
        obtain ⟨rfl, rfl⟩ := h1
        refine ⟨.emp (gr' s hr) b0, ?_, ?_, ?_, ?_⟩
        . show (PyData.leavesShort 62 (.dict []) && PyData.leavesShortAll 62 _) = true
          rw [b1]; rfl
        . show (PyData.showable (.dict []) && PyData.showableAll _) = true
          rw [b2]; rfl
        . show max (PyData.depth (.dict [])) (PyData.depthAll _) <= 1
          rw [show PyData.depth (.dict []) = 1 from rfl]; omega
        . show PyData.bulk (.dict []) + 1 + PyData.bulkAll _ = M.tc' (.dct [] []) + 1 + M.repWs _
          rw [b4]; rfl
      | _ => cases e1
theorem zy' {v : V} {d : M.D} (s : Same F H) (h : Fz K F T v d) (c1 : M.zA' d = true) (c2 : M.dep d <= 40) (c3 : M.vw' d = true) :
    Dq K H v (py d) /\ (py d).leavesShort 62 = true /\ (py d).showable = true /\ (py d).depth <= 40 /\ (py d).bulk = M.tc' d := by
  have old (e : M.dat d = true) : Dq K H v (py d) /\ (py d).leavesShort 62 = true /\ (py d).showable = true /\ (py d).depth <= 40 /\ (py d).bulk = M.tc' d := by
    obtain ⟨a1, a2, a3, a4⟩ := hN' h e c3
    exact ⟨.old (.dp (h.py s e) a3), a1, a2, by rw [(oo' h e).2]; exact c2, a4⟩
  cases h with
  | @dct a kvs ds h k r =>
    have c1 : ds.all M.e3' = true := c1
    obtain ⟨c3, c3'⟩ := Bool.and_eq_true_iff.mp (show (M.repIs (kvs.map fun p => kD p.1) && M.repIs ds) = true from c3)
    obtain ⟨a1, a2, a3, a4⟩ := reps_facts (FzA.keys (K := K) (F := F) (T := T) k) (ii' kvs) c3
    obtain ⟨b1, b2, b3, b4⟩ := reps_facts r (eD' c1) c3'
    have hl : (pys (kvs.map fun p => kD p.1)).length = (pys ds).length := by
      rw [lY', lY', List.length_map, <- r.len, List.length_map]
    obtain ⟨z1, z2, z3, z4⟩ := vM' hl a1 b1 a2 b2
    refine ⟨.old (.dct (gr' s h) k (r.py s (eD' c1)) c1), z1, z2, ?_, ?_⟩
    . show PyData.depthKv _ + 1 <= 40
      rw [z4, (lays_of (FzA.keys (K := K) (F := F) (T := T) k) (ii' kvs)).2, la', (lays_of r (eD' c1)).2, jc' c1]
      decide
    . show PyData.bulkKv _ = M.repWs _ + M.repWs _
      rw [z3, a4, b4]
  | @tup a vs ds h r =>
    cases hd : M.dats ds with
    | true => exact old hd
    | false =>
      have c1 : (M.dats ds || ds.all fun d => M.e3' d || M.CZ' d) = true := c1
      rw [hd, Bool.false_or] at c1
      obtain ⟨b0, b1, b2, b3, b4⟩ := z8' s r c1 c3
      refine ⟨.tupE (SqT.low s h) b0, b1, b2, ?_, b4⟩
      show PyData.depthAll _ + 1 <= 40
      omega
  | _ => exact old c1
end
section
variable {X : Cx} {pins : List (Addr × Obj)} {σ : St} {H : Hp} {s : Shared}
theorem e2' (I : Inv X pins σ H s) {d : M.D} {v : V} {u : Value} (l : M.e3' d = true) (h : Dp X.K H v (py d)) (r : RelV v u) : Reads s.heap u (py d) [] := by
  cases d with
  | non => cases h; cases r; exact .none
  | bl b => cases h; cases r; exact .bool b
  | int i => cases h; obtain ⟨t, rfl⟩ := r; exact .int i t
  | str x => cases h; obtain ⟨t, rfl⟩ := r; exact .str _ t
  | _ => cases l
theorem i1' (I : Inv X pins σ H s) : ∀ {kvs : List (Key × V)} {vs : List (Key × Value)} {ds : List M.D}, KV kvs vs -> DpAll X.K H (kvs.map (·.2)) (pys ds) -> ds.all M.e3' = true →
    PyProof.V.PairsRead s.heap kP vs ((pys (kvs.map fun p => kD p.1)).zip (pys ds)) []
  | _, _, [], .nil, _, _ => .nil
  | _, _, _ :: _, .nil, h, _ => by cases h
  | _, _, [], .cons _ _, h, _ => by cases h
  | (k, v) :: kvs, (k', u) :: vs, d :: ds, .cons hr hp, h, l => by
    obtain ⟨he, hr⟩ := hr
    have he : k = k' := he
    subst he
    rw [List.all_cons, Bool.and_eq_true] at l
    cases h with
    | cons h1 h2 =>
      have := PyProof.V.PairsRead.cons (enc := kP) (k := k) (e2' I l.1 h1 hr) (i1' I hp h2 l.2)
      exact this
theorem Dq0.reads (I : Inv X pins σ H s) {d : PyData} {v : V} {u : Value} (h : Dq0 X.K H v d) (r : RelV v u) : ∃ as, Reads s.heap u d as /\ (d.hasDict = true -> sysModules ∉ as) := by
  cases h with
  | dp dp e =>
    obtain ⟨as, rd⟩ := Dp.reads I d v u dp r
    exact ⟨as, rd, PyData.noDict_hsm e⟩
  | @dct a kvs ds e k dd l =>
    cases r
    obtain ⟨_, hs, vs, rk, hd⟩ := dk_rd I.hok e
    refine ⟨[a], PyProof.V.reads_dictOf (enc := kP) (fun k key hk => ?_) hd (i1' I rk dd l), fun _ hm => ?_⟩
    . rcases keyIs_shape hk with ⟨i, t, rfl, rfl⟩ | ⟨x, t, rfl, rfl⟩
      . exact .int i t
      . exact .str _ t
    . have := List.mem_singleton.mp hm
      rw [<- this] at hs
      simp at hs
theorem ug' (I : Inv X pins σ H s) : ∀ {vs : List V} {us : List Value} {ds : List M.D}, LqAll X.K H vs ds -> Vals vs us -> ∃ as, ReadsAll s.heap us (pys ds) as /\ sysModules ∉ as := by
  intro vs us ds h
  induction h generalizing us with
  | nil =>
    intro r
    cases r
    exact ⟨[], .nil, by simp⟩
  | leaf h1 h2 _ ih =>
    intro r
    cases r with
    | cons r1 r2 =>
      obtain ⟨bs, q2, q3⟩ := ih r2
      exact ⟨_, .cons (e2' I h2 h1 r1) q2, by simpa using q3⟩
  | emp h1 _ ih =>
    intro r
    cases r with
    | cons r1 r2 =>
      obtain ⟨bs, q2, q3⟩ := ih r2
      obtain ⟨as, q1, q4⟩ := Dq0.reads I (Dq0.dct (ds := []) h1 (fun p hp => by cases hp) .nil rfl) r1
      exact ⟨_, .cons q1 q2, by
        rw [List.mem_append]
        rintro (h | h)
        . exact q4 rfl h
        . exact q3 h⟩
theorem Dq.reads (I : Inv X pins σ H s) {d : PyData} {v : V} {u : Value} (h : Dq X.K H v d) (r : RelV v u) : ∃ as, Reads s.heap u d as /\ (d.hasDict = true -> sysModules ∉ as) := by
  cases h with
  | old h => exact h.reads I r
  | tupE hs la =>
    cases r
    obtain ⟨its, rv, ⟨o, ho, hc, n, hd⟩, _⟩ := I.tuple hs
    obtain ⟨as, hr, hm⟩ := ug' I la rv
    exact ⟨_, Reads.tuple ho hc hd hr, fun _ => hm⟩
end
def rRep (K : PySem.W.Frag) : List V -> Hp -> VK -> Prop := fun xs H Q => ∃ v d, xs = [v] /\ Dq K H v d /\ d.showable = true /\ d.depth <= 40 /\ d.shown.length <= sizeLine /\ Q (.str d.shown) H
section
variable {X : Cx}
theorem hi' (hu : X.A.units + 64 < cLine) (hg : X.A.guards = some []) : CallR X (.builtin "repr") (rRep X.K) := by
  intro pins s σ H vs us Q I r h
  obtain ⟨v, d, rfl, dp, h1, h3, h4, q⟩ := h
  cases r with
  | @cons _ u _ _ ru rn =>
    cases rn
    obtain ⟨as, rd, hm⟩ := dp.reads I ru
    cases rd with
    | none => exact P.repr_of_none ⟨.str _, H, I.tok _, ⟨_, rfl⟩, q⟩
    | bool b => exact P.repr_of_bool ⟨.str _, H, I.tok _, ⟨_, rfl⟩, q⟩
    | int i t => exact P.repr_of_int (of_decide_eq_true h1) ⟨.str _, H, I.tok _, ⟨_, rfl⟩, q⟩
    | str x t => exact P.repr_of_str (hsz := h4) ⟨.str _, H, I.tok _, ⟨_, rfl⟩, q⟩
    | list a b c e => exact repr_of_reads' (.list a b c e) h1 hm hg (by omega) (fun _ _ z => z) (fun h' u tk hk => ⟨.str _, H, I.kept hk, ⟨_, rfl⟩, q⟩) h4
    | tuple a b c e => exact repr_of_reads' (.tuple a b c e) h1 hm hg (by omega) (fun _ _ z => z) (fun h' u tk hk => ⟨.str _, H, I.kept hk, ⟨_, rfl⟩, q⟩) h4
    | dict a b c e f => exact repr_of_reads' (.dict a b c e f) h1 hm hg (by omega) (fun _ _ z => z) (fun h' u tk hk => ⟨.str _, H, I.kept hk, ⟨_, rfl⟩, q⟩) h4
end
section
variable {K : PySem.W.Frag}
theorem uO' : Bi1 K M.w7' (rRep K) := by
  intro F H T fp x dx dz Q f hx h k
  unfold M.w7' at h
  split at h
  . rename_i hc
    obtain ⟨c1, c2, c3, c4⟩ := hc
    cases h
    obtain ⟨a0, a1, a2, a3, a4⟩ := zy' f.low hx c1 c2 c3
    refine ⟨x, py dx, rfl, a0, a2, a3, ?_, k.here f (.rep dx)⟩
    have := PyData.shown_le_bulk 62 (by decide) (py dx) a1
    rw [a4] at this
    rw [bF']
    show _ <= 16777216
    omega
  . cases h
theorem jv' {F : Hp} {T : List Addr} {v : V} {d : M.D} (h : Fz K F T v (.rep d)) : v = .str (py d).shown := by cases h; rfl
theorem CS' : Op2 K M.BL' (CD' K) := by
  intro F H T fp x y dx dy dz Q f hx hy h k
  cases dx <;> try (cases h; done)
  cases dy <;> try (cases h; done)
  simp only [M.BL'] at h
  split at h
  . rename_i hs
    cases h
    have e := lT' _ _ hs
    subst e
    obtain rfl := jv' hx
    obtain rfl := jv' hy
    exact .inl ⟨rfl, by rw [decide_eq_true rfl]; exact k.here f (.bl true)⟩
  . cases h
theorem CR' : Op2 K M.BK' (CA' K) := by
  intro F H T fp x y dx dy dz Q f hx hy h k
  cases dx <;> try (cases h; done)
  cases dy <;> try (cases h; done)
  simp only [M.BK'] at h
  split at h
  . rename_i hs
    cases h
    have e := lT' _ _ hs
    subst e
    obtain rfl := jv' hx
    obtain rfl := jv' hy
    exact .inl ⟨rfl, by rw [decide_eq_true rfl]; exact k.here f (.bl false)⟩
  . cases h
end
end S
namespace S
open PySem PySem.Spec PyProof.Rows L2
variable [Wd] [Hot]
local macro_rules | `(tactic| walk_at "parts") => `(tactic| (constructor; (intro e h; simp only [List.mem_append, List.mem_cons, List.not_mem_nil] at *; grind); (intro x; simp only [keys, List.map_append, List.map_cons, List.map_nil, List.count_append, List.count_cons, List.count_nil] at *; omega)))
def EqP (K : PySem.W.Frag) (ps : List (String × String)) (g : Addr) : Prop := ∀ p ∈ ps, PySem.W.findIn K (.ref (He.ga K (Str.ofString p.1))) "__eq__" = some (some (.ref g)) /\ PySem.W.isFn K (.ref g) = true ∧
  PySem.W.notFirst K (He.ga K (Str.ofString p.1)) (.ref (He.ga K (Str.ofString p.2))) = true
theorem xL' {K : PySem.W.Frag} {ps : List (String × String)} {g : Addr} (h : Eg' K ps g = true) : EqP K ps g := fun p hp => by
  have z := List.all_eq_true.mp h p hp
  rw [Bool.and_eq_true, Bool.and_eq_true, decide_eq_true_eq] at z
  exact z
def D8' (K : PySem.W.Frag) (ps : List (String × String)) (mf : M.MF) : R2 := fun x y H Q => ∃ (C C' : String) (a b dx dy : Addr) (fs gs : List (Str × V)), (C, C') ∈ ps /\ x = .ref a /\ y = .ref b ∧
  H a = some (.ins (He.ga K (Str.ofString C)) dx fs) /\ H b = some (.ins (He.ga K (Str.ofString C')) dy gs) /\ spM K mf [x, y] H (fun v H' => ∃ r, v = .bl r /\ Q (.bl r) H') E0
theorem zW' {X : Cx} {k : Nat} {C0 : Addr} {args : List Str} {ps : List (String × String)} {mf : M.MF} (F : OgM X.prog X.w X.K X.mg X.base k C0 "__eq__" args (spM X.K mf)) (hr : RoomG k X.A) (hp : EqP X.K ps (He.ma X.K C0 "__eq__")) :
    OpR X (compareOp .Eq) (D8' X.K ps mf) := by
  obtain ⟨fd, F, hb⟩ := F
  intro pins s σ H x y v u Q I rx ry h
  obtain ⟨C, C', a, b, dx, dy, fs, gs, hC, rfl, rfl, ha, hb', hs⟩ := h
  cases (show v = Value.ref a from rx)
  cases (show u = Value.ref b from ry)
  obtain ⟨q1, q2, q3⟩ := hp _ hC
  obtain ⟨mA, J, _⟩ := ins_get I.hok ha
  obtain ⟨mB, J', _⟩ := ins_get I.hok hb'
  obtain ⟨od, J, _⟩ := J.look
  obtain ⟨od', J', _⟩ := J'.look
  obtain ⟨m, hF⟩ := I.fr
  show wpAny (model X.prog X.w) X.A (richCompare .Eq (.ref a) (.ref b)) (EP X pins σ Q) X.xe s
  refine PySem.W.cmp_K (op := .Eq) (tb := .ref (He.ga X.K (Str.ofString C'))) hr.r.units0 hF I.ok.mod.kin J J'.type q3 q1 q2 ?_
  refine wpAny_mono (fW' (E := fun _ => E0) (us := [.ref a, .ref b]) (vs := [.ref a, .ref b]) F hr hb (fun _ _ _ e s' _ c => ?_) I (.cons rfl (.cons rfl .nil)) hs) (fun r s' q => ?_) fun _ _ z => z
  . obtain ⟨_, _, _, _, _, _, _, _, _, _, _, _, z⟩ := c
    exact z.elim
  . obtain ⟨z, H', I', rz, t, ez, q⟩ := q
    subst ez
    cases rz
    exact ⟨.bl t, H', I', rfl, q⟩
section
variable {K : PySem.W.Frag} {σ : St} {H : Hp} {Q : VK} {W : WX}
theorem ox' {ps : List (String × String)} {w : M.W} {x y : M.D} (h : M.sz' ps w x y = true) : ∃ n m C C' fs gs, x = .obj n /\ y = .obj m /\ w[n]? = some (.ins C fs) /\ w[m]? = some (.ins C' gs) /\ (C, C') ∈ ps := by
  unfold M.sz' at h
  split at h
  . rename_i n m
    split at h
    . rename_i C fs C' gs e1 e2
      exact ⟨n, m, C, C', fs, gs, rfl, rfl, e1, e2, of_decide_eq_true h⟩
    . cases h
  . cases h
theorem uv' {ps : List (String × String)} {mf : M.MF} {ma mb : M.ME} (h : qE K W (M.xM' ps mf ma mb) σ H Q) : tOp (D8' K ps mf) (qE K W ma) (qE K W mb) σ H Q := by
  obtain ⟨ρ, F, T, fr, rel, h⟩ := h
  refine av' rel h fun dx ρ1 v H1 F1 T1 e1 z1 r1 h1 => ?_
  refine av' r1 h1 fun dy ρ2 u H2 F2 T2 e2 z2 r2 h2 => ?_
  split at h2
  . rename_i hi
    obtain ⟨n, m, C, C', fs, gs, rfl, rfl, ew, ew', hC⟩ := ox' hi
    obtain ⟨a, d1, fv, os, f2, hT, rfl, hH, _⟩ := r2.wins ew
    obtain ⟨b, d2, fv', os', f2', hT', rfl, hH', _⟩ := r2.wins ew'
    have z1 := z1.mono e2
    cases z1 with
    | obj t =>
      rw [hT] at t
      cases t
      cases z2 with
      | obj t =>
        rw [hT'] at t
        cases t
        refine ⟨C, C', a, b, d1, d2, _, _, hC, rfl, rfl, hH, hH', ?_⟩
        obtain ⟨fe, fw, re, rw, f⟩ := r2
        refine ⟨[.obj n, .obj m], ρ2.w, F2, T2, fe ++ fr, .cons (.obj hT) (.cons (.obj hT') .nil), ⟨[], fw, xk', rw, f.part (by walk_at "parts")⟩, ?_⟩
        cases em : mf [.obj n, .obj m] ρ2.w with
        | bad => rw [em] at h2; exact h2.elim
        | exc x w' => rw [em] at h2; exact h2.elim
        | ok o w' =>
          rw [em] at h2
          intro w H' F' T' fp e z r
          cases z with
          | fz z =>
            rename_i d
            cases d <;> try exact h2.elim
            cases z
            exact ⟨_, rfl, h2 _ H' F' T' (e1.trans (e2.trans e)) (.bl _) (Rel.reenv (fp := []) re e r)⟩
          | lst _ => exact h2.elim
          | tup _ => exact h2.elim
          | dct _ _ => exact h2.elim
          | dcl _ _ => exact h2.elim
          | dcn _ _ _ => exact h2.elim
  . exact h2.elim
end
section
variable {X : Cx} {W : WX} {pos p : Pos} {a b e : Expr} {ma mb : M.ME} {mo : M.MO} {k : Nat} {args : List Str} {mf : M.MF}
theorem vv' {C : String} {ps : List (String × String)} (F : OgM X.prog X.w X.K X.mg X.base k (He.ga X.K C) "__eq__" args (spM X.K mf)) (hr : RoomG k X.A) (hp : EqP X.K ps (He.ma X.K (He.ga X.K C) "__eq__")) (ha : SE X W a ma) (hb : SE X W b mb) :
    SE X W (.Compare a [.Eq] [b] pos) (M.xM' ps mf ma mb) := PE.imp (pe_cmpR (zW' F hr hp) ha hb (nomark _)) fun _ _ _ h => uv' h
def DY' (K : PySem.W.Frag) (t : M.ET) (c : String) : Prop := (∀ e ∈ t, e.2.1 = c -> Cls K (He.ga K (Str.ofString e.1)) /\ PySem.W.findIn K (.ref (He.ga K (Str.ofString e.1))) "__class__" = some (some (.builtin "object.__class__")) ∧
    PySem.W.specialIn K (.builtin "object.__class__") "__get__" = some (some (.builtin "getset_descriptor.__get__")) /\ PySem.W.takesIn K (.builtin "object.__class__") = some true /\ PySem.W.mroIn K (He.ga K (Str.ofString e.1)) (.type "object") = some true ∧
    PySem.W.kitOne K (.ref (He.ga K (Str.ofString e.1))) (.ref (He.ga K (Str.ofString c))) = some e.2.2) ∧
  ∀ n ∈ ["NoneType", "bool", "int", "str", "tuple", "list", "dict"], PySem.W.kitOne K (.type n) (.ref (He.ga K (Str.ofString c))) = some false
theorem un' {K : PySem.W.Frag} {t : M.ET} {c : String} (h : xx' K t c = true) : DY' K t c := by
  unfold xx' at h
  rw [Bool.and_eq_true] at h
  refine ⟨fun e he hc => ?_, fun n hn => of_decide_eq_true (List.all_eq_true.mp h.2 n hn)⟩
  have z := List.all_eq_true.mp h.1 e he
  rw [hc] at z
  simp only [decide_true, Bool.not_true, Bool.false_or, Bool.and_eq_true, decide_eq_true_eq] at z
  exact ⟨He.cls_ok z.1, z.2⟩
theorem rd' : ∀ {t : M.ET} {x c : String} {b : Bool}, M.sub t x c = some b -> (x, c, b) ∈ t
  | [], _, _, _, h => by cases h
  | (a, b, r) :: t, x, c, y, h => by
    unfold M.sub at h
    split at h
    . rename_i q
      obtain ⟨rfl, rfl⟩ := q
      cases h
      exact List.mem_cons_self
    . exact List.mem_cons_of_mem _ (rd' h)
theorem zq' {x : Str} (t : M.ET) (c : String) (hI : DY' X.K t c) (hg : Gl X x) (hm : X.mg x = none) (hv : bootBuiltins x = some (.builtin "isinstance")) (ha : SE X W a ma) (hb : PE X b (tC (.ref (He.ga X.K (Str.ofString c))))) (hn : x ≠ "__name__" := by decide) (hdb : (x == ("__debug__" : Str)) = false := by decide)
    (he : starEach [a, b] X.env = (false, eval a X.env) :: starEach [b] X.env := by rfl) (he2 : starEach [b] X.env = (false, eval b X.env) :: starEach [] X.env := by rfl) (hpl : (backTo pos (starEach [b] X.env)).any (·.1) = false := by rfl) : SE X W (.Call (.Name x p) [a, b] [] pos) (M.AB' t c ma) :=
  PE.imp (pe_callB call_isi hg hm hv (pa_cons ha (pa_cons hb pa_nil he2) he) hn hdb he hpl) fun σ H Q ⟨ρ, F, T, fr, rel, h⟩ => by
    refine av' rel h fun dx ρ1 v H1 F1 T1 e1 z1 r1 h1 => ?_
    obtain ⟨dz, ez, q⟩ := a8'.ofO h1
    by_cases ho : ∃ n, dx = .obj n
    . obtain ⟨n, rfl⟩ := ho
      simp only [M.isC] at ez
      cases ew : ρ1.w[n]? with
      | none => rw [ew] at ez; cases ez
      | some ob =>
        rw [ew] at ez
        cases ob <;> try (cases ez; done)
        rename_i C fs
        cases es : M.sub t C c with
        | none => simp only [es] at ez; cases ez
        | some r =>
          simp only [es] at ez
          cases ez
          obtain ⟨a, d1, fv, os, f2, hT, rfl, hH, _⟩ := r1.wins ew
          obtain ⟨q1, q2, q3, q4, q5, q6⟩ := hI.1 _ (rd' es) rfl
          cases id z1 with
          | obj t =>
            rw [hT] at t
            cases t
            exact ⟨.ref a, .ref _, _, _, r, rfl, .own _, .base (.ins hH q1 q2 q3 q4 q5), q6, q _ H1 F1 T1 e1 (.bl _) r1⟩
    . have e2 : ∃ n, M.tyn dx = some n /\ dz = .bl false := by
        cases dx <;> first | exact absurd ⟨_, rfl⟩ ho | (cases ez; exact ⟨_, rfl, rfl⟩) | (cases ez; done)
      obtain ⟨n, en, rfl⟩ := e2
      obtain ⟨fp, f, _⟩ := r1.fp
      exact ⟨_, .ref _, _, _, false, rfl, .own _, vk' f.low z1 en, hI.2 n (by cases dx <;> cases en <;> decide), q _ H1 F1 T1 e1 (.bl _) r1⟩
theorem CE' {σ : St} {H : Hp} {Q : Bool -> Hp -> Prop} {m : M.ME} (h : qT X.K W (M.tE m) σ H Q) : qE X.K W m σ H fun x H' => ∃ k, x = .bl k /\ Q k H' := by
  obtain ⟨ρ, F, T, fr, rel, h⟩ := h
  refine ⟨ρ, F, T, fr, rel, (a8'.bind h).mono (fun d ρ1 h1 v H1 F1 T1 e z r => ?_) fun _ _ z => z⟩
  obtain ⟨k, rfl, h2⟩ := a8'.asB h1
  exact ⟨k, z.bl_inv, h2 _ _ _ e r⟩
theorem lL' {i : Nat} (hw : X.prog = Wd.P /\ X.w = Wd.w) (hu : X.A.units + 64 < cLine) (ha : SE X W a ma) (hv : PE X b (tVar i)) (hm : behindInMarks .NotIn b = false := by rfl) : ST X W (.Compare a [.NotIn] [b] pos) (M.tE (M.tf' true i ma)) :=
  PT.imp (pt_cmpR (rY' hw hu) ha hv hm) fun _ _ _ h => oQ' (CE' h)
end
end S
namespace S
open PySem PySem.Spec PyProof.Rows L2
variable [Wd] {cc : List (Nat × CloD)}
abbrev CX' (a : Addr) (n : Nat) (dd : Option Addr) (x : M.Exc) (cs : List (Nat × CloD) := []) : Hot := ⟨some (a, n, dd, x), cs⟩
section
variable {K : PySem.W.Frag} {F H : Hp} {T : List Addr} {fp fr : Fp} {σ : St} {env : List (Option M.O)} {a : Addr} {n i : Nat} {dd : Option Addr} {x : M.Exc}
theorem RpE.cool (r : @RpE _ K (CX' a n dd x cc) F T σ env fp) (hl : env.length <= n) : @RpE _ K (sZ' cc) F T σ env fp := by
  induction r with
  | nil => exact @RpE.nil _ K (sZ' cc) F T
  | off _ ih => exact @RpE.off _ K (sZ' cc) F T _ _ _ _ (ih (by simp at hl; omega))
  | on q _ ih => exact @RpE.on _ K (sZ' cc) F T _ _ _ _ _ _ q (ih (by simp at hl; omega))
  | hot z _ _ _ =>
    have := (Prod.mk.inj (Prod.mk.inj (Option.some.inj z)).2).1
    simp at hl
    omega
  | clo z y _ ih => exact @RpE.clo _ K (sZ' cc) F T _ _ _ _ z y (ih (by simp at hl; omega))
end
section
variable {X : Cx} {W : WX} {K : PySem.W.Frag} {D : Ends} {σ : St} {H : Hp} {F : Hp} {T : List Addr} {fr : Fp}
def tsA (cc : List (Nat × CloD)) (K : PySem.W.Frag) (n : Nat) (h : M.Exc -> M.MS) : Addr -> Value -> Option Addr -> TS := fun a cls d D σ H => ∃ e : M.Exc, cls = .ref (He.ga K e.cls) /\ @qS _ (CX' a n d e cc) K W0 (h e) D σ H
end
section
variable {X : Cx} {W : WX} {pos p : Pos} {a b : Expr}
end
end S
namespace S
open PySem PySem.Spec PyProof.Rows L2
section
variable {prog : Program} {w : World} {A : Around} {E : Value -> Shared -> Prop} {s : Shared} {K : PySem.W.Frag} {x C L f : Addr} {h₀ : Heap} {m : Str -> Option Value} {ox : Obj} {od : Option Obj} {b tb : Value}
open PySem.W in
end
end S
namespace S
open PySem PySem.Spec PyProof.Rows L2
variable [Wd] [Hot]
section
variable {K : PySem.W.Frag} {σ : St} {H : Hp} {Q : VK} {W : WX}
end
section
variable {X : Cx} {W : WX} {pos : Pos} {a b : Expr} {ma mb : M.ME} {k : Nat} {args : List Str} {mf : M.MF}
end
end S
namespace S
open PySem PySem.Spec PyProof.Rows L2
variable [Wd] [Hot]
section
variable {X : Cx} {W : WX} {a : Expr} {ma : M.ME} {pos p1 p2 p3 : Pos} {k : Nat}
end
end S
namespace S
open PySem PySem.Spec PyProof.Rows L2 TL
variable [Wd] [Hot]
theorem jo' (c : Nat) : ∀ a : M.Tx, ∃ y ys, M.fK' c a = y :: ys
  | [] => ⟨[], [], rfl⟩
  | x :: r => by
    by_cases h : x = c
    . exact ⟨[], M.fK' c r, by rw [M.fK', if_pos h]⟩
    . obtain ⟨y, ys, e⟩ := jo' c r
      exact ⟨x :: y, ys, by rw [M.fK', if_neg h, e]⟩
theorem jn' (c : Nat) : ∀ (a acc : List Nat) {y : List Nat} {ys : List (List Nat)}, M.fK' c a = y :: ys -> spl [c] 0 acc a = (acc ++ y) :: ys
  | [], acc, y, ys, e => by
    obtain ⟨rfl, rfl⟩ := List.cons.inj (show [[]] = y :: ys from e)
    rw [spl_nil, List.append_nil]
  | x :: r, acc, y, ys, e => by
    obtain ⟨y1, ys1, e1⟩ := jo' c r
    by_cases h : x = c
    . rw [M.fK', if_pos h, e1] at e
      obtain ⟨rfl, rfl⟩ := List.cons.inj e
      have hp : pre [c] (x :: r) = true := by
        show ([x] == [c]) = true
        rw [h]; exact beq_self_eq_true _
      rw [spl_hit hp]
      show acc :: spl [c] 0 [] r = _
      rw [jn' c r [] e1, List.nil_append, List.append_nil]
    . rw [M.fK', if_neg h, e1] at e
      obtain ⟨rfl, rfl⟩ := List.cons.inj e
      have hp : pre [c] (x :: r) = false := by
        show ([x] == [c]) = false
        exact beq_eq_false_iff_ne.mpr fun q => h (List.cons.inj q).1
      rw [spl_miss hp, jn' c r (acc ++ [x]) e1, List.append_assoc]
      rfl
theorem tB' (c : Nat) (hc : c < 128) (s : M.Tx) : Txt.split (sx s) (sx [c]) = (M.fK' c s).map sx := by
  have hk : ¬ Builtin.Str.strKind (sx s) < Builtin.Str.strKind (sx [c]) := kind_ok (by simp [sx]; omega)
  have e := split_spl (sx s) (sx [c]) (by show [c] ≠ []; simp) hk
  obtain ⟨y, ys, e1⟩ := jo' c s
  have e2 : spl [c] 0 [] s = M.fK' c s := by rw [jn' c s [] e1, e1]; rfl
  have e3 : (Txt.split (sx s) (sx [c])).map tl = M.fK' c s := e.trans e2
  rw [<- e3, List.map_map]
  conv => lhs; rw [<- List.map_id (Txt.split (sx s) (sx [c]))]
  exact List.map_congr_left fun z _ => (tw' z).symm
theorem rg' (c : Nat) : ∀ (a : M.Tx), ∀ y ∈ M.fK' c a, (∀ d ∈ y, d ∈ a) /\ y.length <= a.length
  | [], y, h => by
    have : y = [] := by simpa [M.fK'] using h
    rw [this]; simp
  | x :: r, y, h => by
    have ih := rg' c r
    by_cases q : x = c
    . rw [M.fK', if_pos q] at h
      rcases List.mem_cons.mp h with rfl | h
      . simp
      . obtain ⟨h1, h2⟩ := ih y h
        exact ⟨fun d hd => List.mem_cons_of_mem _ (h1 d hd), by simp; omega⟩
    . obtain ⟨y1, ys1, e1⟩ := jo' c r
      rw [M.fK', if_neg q, e1] at h
      rw [e1] at ih
      rcases List.mem_cons.mp h with rfl | h
      . obtain ⟨h1, h2⟩ := ih y1 (by simp)
        refine ⟨fun d hd => ?_, by simp; omega⟩
        rcases List.mem_cons.mp hd with rfl | hd
        . simp
        . exact List.mem_cons_of_mem _ (h1 d hd)
      . obtain ⟨h1, h2⟩ := ih y (by simp [h])
        exact ⟨fun d hd => List.mem_cons_of_mem _ (h1 d hd), by simp; omega⟩
theorem FzA.texts {K : PySem.W.Frag} {F : Hp} {T : List Addr} : ∀ {l : List M.Tx}, (∀ y ∈ l, okT y) -> FzA K F T (l.map fun y => V.str (sx y)) (l.map .str)
  | [], _ => .nil
  | y :: r, h => .cons (.str (h y (by simp))) (FzA.texts fun z hz => h z (by simp [hz]))
section
variable {K : PySem.W.Frag}
def rH' : V -> List V -> Hp -> VK -> Prop := fun x xs H Q => ∃ a b, x = .str a /\ xs = [.str b] /\ (b.length == 0) = false /\ a.length + 2 <= sizeLine /\ rNewStrs (Txt.split a b) H Q
theorem kP' {X : Cx} : MtR X "str.split" rH' := mt_split
theorem r7' : MtD K M.kT' rH' := by
  intro F H T fp s xs ds dz Q f o hx h k
  unfold M.kT' at h
  split at h
  . rename_i c
    split at h
    . rename_i hc
      cases h
      obtain ⟨rfl, o2⟩ := hx.str1
      refine ⟨_, _, rfl, rfl, rfl, by rw [cI']; exact hc.2, fun p hp => ?_⟩
      rw [tB' c hc.1, List.map_map]
      refine k.newL f (FzA.texts fun y hy => ?_) hp
      obtain ⟨h1, h2⟩ := rg' c s y hy
      exact o.sub h1 h2
    . cases h
  . cases h
def zB' : List V -> Hp -> VK -> Prop := fun xs H Q => ∃ i : Int, xs = [.int i] /\ i.natAbs.log2 < 1920 /\ Q (.str (toString i)) H
theorem fF' {X : Cx} : CallR X (.type "str") zB' := call_str_int
theorem wC' (n : Nat) : Str.ofString (toString ((n : Nat) : Int)) = sx (M.c9' n) := by
  rw [Str.ofString_eq_toList]
  show (⟨((Nat.repr n).toList.map Char.toNat).toArray⟩ : Str) = sx ((Nat.toDigits 10 n).map Char.toNat)
  rw [Nat.toList_repr]
  rfl
theorem xP' {n : Nat} (h : n < 1000000000000000000000000000000000000000000000000000000000000) : okT (M.c9' n) := by
  refine ⟨fun c hc => ?_, ?_⟩
  . obtain ⟨d, hd, rfl⟩ := List.mem_map.mp hc
    have := Nat.isDigit_of_mem_toDigits (by decide) (by decide) hd
    simp only [Char.isDigit, Bool.and_eq_true, decide_eq_true_eq] at this
    have h2 : d.toNat <= 57 := this.2
    omega
  . unfold M.c9'
    rw [List.length_map]
    have e : (10 : Nat) ^ 60 = 1000000000000000000000000000000000000000000000000000000000000 := by decide
    have := (Nat.length_toDigits_le_iff (b := 10) (n := n) (k := 60) (by decide) (by decide)).mpr (by rw [e]; exact h)
    exact Nat.le_trans this (by decide)
theorem uM' : Bi1 K M.yz' zB' := by
  intro F H T fp x dx dz Q f hx h k
  cases dx <;> try (cases h; done)
  rename_i i
  have h : (if 0 <= i /\ i < 1000000000000000000000000000000000000000000000000000000000000 then some (M.D.str (M.c9' i.toNat)) else none) = some dz := h
  split at h
  . rename_i hi
    cases h
    have hv := hx.int_inv
    subst hv
    obtain ⟨n, rfl⟩ := Int.eq_ofNat_of_zero_le hi.1
    refine ⟨_, rfl, ?_, ?_⟩
    . by_cases hz : n = 0
      . subst hz; decide
      . rw [show ((n : Nat) : Int).natAbs = n from rfl, Nat.log2_lt hz]
        have e : (1000000000000000000000000000000000000000000000000000000000000 : Nat) < 2 ^ 200 := by decide
        exact Nat.lt_of_lt_of_le (m := 2 ^ 200) (by omega) (Nat.pow_le_pow_right (by decide) (by decide))
    . show Q (.str (Str.ofString (toString ((n : Nat) : Int)))) H
      rw [wC']
      exact k.here f (.str (xP' (by omega)))
  . cases h
end
end S
namespace S
open PySem PySem.Spec PyProof.Rows L2
variable [Wd] [Hot]
section
variable {X : Cx} {W : WX} {K : PySem.W.Frag} {a b : Expr} {ma : M.ME} {pos : Pos}
end
end S
namespace S
open PySem PySem.Spec PyProof.Rows L2
variable [Wd] [Hot]
section
variable {K : PySem.W.Frag} {W : WX} {σ : St} {H : Hp}
end
section
variable {X : Cx} {W : WX} {pos : Pos} {elt tg iter tg1 iter1 : Expr} {ifs ifs1 : List Expr} {scope : Scope} {own : List (Str × Nat)} {sl sl0 sl1 : List Nat} {it it1 : M.MI} {g g1 : M.MG} {t t1 : M.MT} {e : M.ME}
end
end S
namespace S
open PySem PySem.Spec PyProof.Rows L2
theorem CY' {Pr : Addr -> Prop} {a b c d e x : Addr} (ha : Pr a) (hb : Pr b) (hc : Pr c) (hd : Pr d) (he : Pr e) (hx : x ∈ [a, b, c, d, e]) : Pr x := by
  simp only [List.mem_cons, List.not_mem_nil, or_false] at hx
  obtain rfl | rfl | rfl | rfl | rfl := hx <;> assumption
end S
namespace S
open PySem PySem.Spec PyProof.Rows L2
variable [Wd] [Hot]
section
variable {K : PySem.W.Frag} {W : WX} {X : Cx} {p pos : Pos} {a b : Expr} {ma mb : M.ME}
end
end S
namespace S
open PySem PySem.Spec PyProof.Rows L2
variable [Wd] [Hot]
section
variable {X : Cx} {W : WX} {K : PySem.W.Frag} {a : Expr} {ma : M.ME} {pos : Pos}
end
end S
namespace S
open PySem PySem.Spec PyProof.Rows L2
variable [Wd] [Hot]
section
variable {K : PySem.W.Frag} {W : WX} {σ : St} {H : Hp}
end
section
variable {X : Cx} {W : WX} {pos px : Pos} {elt tg : Expr} {ifs : List Expr} {scope : Scope} {own : List (Str × Nat)} {sl : List Nat} {i : Nat} {nm : Str} {g : M.MG} {t : M.MT} {e : M.ME}
end
end S
namespace S
open PySem PySem.Spec PyProof.Rows L2
variable [Wd] [Hot]
section
variable {X : Cx} {W : WX} {pos cpos apos : Pos} {o a : Expr} {mo : M.ME} {ma : M.MO}
end
end S
namespace S
open PySem PySem.Spec PyProof.Rows L2
structure SupF (file : Str) (K : PySem.W.Frag) (C f : Addr) (fld : Str) : Prop where
  ex : ∃ (oc : Value) (od : Option Addr) (fd : FuncData) (osl : Array (Option Value)) (x y : Str) (cc cda : Addr), K.lookup f = some ⟨oc, od, .func fd, osl⟩ /\ DV' fd.params = some (x, y) /\ DT' fd.body = some (("super" : Str), ("__init__" : Str), x, fld, y) ∧
    fd.closure = [(("__class__" : Str), cc)] /\ fd.code = .ref cda /\ fd.defaults = .none /\ fd.kwdefaults = .none /\ fd.globals = mainGlobals /\ fd.builtins = builtinsNs /\ PySem.W.codeIn K (.ref cda) fd.qualname = true ∧
    fd.scope.names.lookup ("super" : Str) = some .globalImplicit /\ fd.scope.names.lookup ("__class__" : Str) = some .free /\ fd.scope.names.lookup x = some .local /\ fd.scope.names.lookup y = some .local /\ (∀ q ∈ fd.scope.names, q.2 ≠ .cell) ∧
    fd.scope.kind = .function /\ fd.scope.isGenerator = false /\ fd.scope.isCoroutine = false /\ x = "self" /\ (y = "part" \/ y = "most") ∧
    (∃ a b c, K.lookup cc = some ⟨a, b, .cell (some (.ref C)), c⟩) /\ (∃ a b c vs tf, K.lookup cda = some ⟨a, b, .fields vs, c⟩ /\ vs[2]? = some (.str file tf))
  sup : PySem.W.ks_superIn K C C "__init__" = some (some (.builtin "ValueError.__init__"))
  own : PySem.W.mroIn K C (.ref C) = some true
  ve : PySem.W.subIn K (.ref C) (.type "ValueError") = some true
  no3 : PySem.W.nsIn K cStatics "thirdparty.any" = some none
  cls : ∃ nm q N bs bm sn sub ab col dd k0 k1 k2 k3 k5, K.lookup C = some (excClassObj nm q C N bs bm true sn sub ab col dd k0 k1 k2 k3 k5 "ValueError.__new__") /\ HandSPX.refsVE bm = true
  sa : PySem.W.findIn K (.ref C) "__setattr__" = some (some (.builtin "object.__setattr__"))
  exC : PySem.W.subIn K (.ref C) (.type "BaseException") = some true
  tyC : PySem.W.typeIn K (.ref C) = some (.type "type")
  kC : PySem.W.keepIn K (.ref C) = true
  iC : PySem.W.findIn K (.ref C) "__init__" = some (some (.ref f))
  tI : PySem.W.typeIn K (.ref f) = some (.type "function")
  fl : PySem.W.findIn K (.ref C) fld = some none
end S
namespace S
open PySem PySem.Spec PyProof.Rows L2
variable [Wd] [Hot]
local macro_rules | `(tactic| walk_at "parts") => `(tactic| (constructor; (intro e h; simp only [List.mem_append, List.mem_cons, List.not_mem_nil] at *; grind); (intro x; simp only [keys, List.map_append, List.map_cons, List.map_nil, List.count_append, List.count_cons, List.count_nil] at *; omega)))
section
variable {prog : Program} {w : World} {A : Around} {E : Value -> Shared -> Prop} {s : Shared}
end
def EV' (K : PySem.W.Frag) (ps : List (String × String)) (g : Addr) : Prop := ∀ C, (C, C) ∈ ps -> PySem.W.findIn K (.ref (He.ga K (Str.ofString C))) "__eq__" = some (some (.ref g)) /\ PySem.W.isFn K (.ref g) = true ∧
  ∀ n ∈ ["NoneType", "bool", "int", "str", "tuple", "list", "dict"], PySem.W.notFirst K (He.ga K (Str.ofString C)) (.type n) = true
def rEqD (K : PySem.W.Frag) (ps : List (String × String)) (mf : M.MF) : R2 := fun x y H Q => ∃ (C n : String) (a dx : Addr) (fs : List (Str × V)), (C, C) ∈ ps /\ n ∈ ["NoneType", "bool", "int", "str", "tuple", "list", "dict"] /\ x = .ref a ∧
  H a = some (.ins (He.ga K (Str.ofString C)) dx fs) /\ TyX K H y (.type n) /\ spM K mf [x, y] H (fun v H' => ∃ r, v = .bl r /\ Q (.bl r) H') E0
theorem op_eqD {X : Cx} {k : Nat} {C0 : Addr} {args : List Str} {ps : List (String × String)} {mf : M.MF} (F : OgM X.prog X.w X.K X.mg X.base k C0 "__eq__" args (spM X.K mf)) (hr : RoomG k X.A) (hp : EV' X.K ps (He.ma X.K C0 "__eq__")) :
    OpR X (compareOp .Eq) (rEqD X.K ps mf) := by
  obtain ⟨fd, F, hb⟩ := F
  intro pins s σ H x y v u Q I rx ry h
  obtain ⟨C, n, a, dx, fs, hC, hn, rfl, ha, ht, hs⟩ := h
  cases (show v = Value.ref a from rx)
  obtain ⟨q1, q2, q3⟩ := hp _ hC
  obtain ⟨mA, J, _⟩ := ins_get I.hok ha
  obtain ⟨od, J, _⟩ := J.look
  obtain ⟨m, hF⟩ := I.fr
  obtain ⟨P, Z, hP, _⟩ := kit_of I ry ht
  show wpAny (model X.prog X.w) X.A (richCompare .Eq (.ref a) u) (EP X pins σ Q) X.xe s
  refine PySem.W.cmp_K (op := .Eq) (tb := .type n) hr.r.units0 hF I.ok.mod.kin J (Z.ty _ _ I.kIn hP) (q3 n hn) q1 q2 ?_
  refine wpAny_mono (fW' (E := fun _ => E0) (us := [.ref a, u]) (vs := [.ref a, y]) F hr hb (fun _ _ _ e s' _ c => ?_) I (.cons rfl (.cons ry .nil)) hs) (fun r s' q => ?_) fun _ _ z => z
  . obtain ⟨_, _, _, _, _, _, _, _, _, _, _, _, z⟩ := c
    exact z.elim
  . obtain ⟨z, H', I', rz, t, ez, q⟩ := q
    subst ez
    cases rz
    exact ⟨.bl t, H', I', rfl, q⟩
section
variable {K : PySem.W.Frag} {σ : St} {H : Hp} {Q : VK} {W : WX}
end
section
variable {X : Cx} {W : WX} {pos p tpos : Pos} {a b e o i : Expr} {ma mb mo mi : M.ME} {k : Nat} {args : List Str} {mf : M.MF}
end
end S
namespace S
open PySem PySem.Spec PyProof.Rows L2
variable [Wd] [Hot]
mutual
inductive DqN (K : PySem.W.Frag) (H : Hp) : V -> M.D -> Prop
  | leaf {v : V} {d : M.D} : Dp K H v (py d) -> M.e3' d = true -> DqN K H v d
  | tup {a : Addr} {vs : List V} {ds : List M.D} : SqT K H a vs -> DqNs K H vs ds -> DqN K H (.ref a) (.tup ds)
  | lst {a : Addr} {vs : List V} {ds : List M.D} : H a = some (.lst vs) -> DqNs K H vs ds -> DqN K H (.ref a) (.lst ds)
  | dct {a : Addr} {kvs : List (Key × V)} {ds : List M.D} : Rd H a (.dK kvs) -> lz' kvs -> DqNs K H (kvs.map (·.2)) ds -> DqN K H (.ref a) (.dct (kvs.map fun p => kD p.1) ds)
inductive DqNs (K : PySem.W.Frag) (H : Hp) : List V -> List M.D -> Prop
  | nil : DqNs K H [] []
  | cons {v : V} {d : M.D} {vs : List V} {ds : List M.D} : DqN K H v d -> DqNs K H vs ds -> DqNs K H (v :: vs) (d :: ds)
end
section
variable {K : PySem.W.Frag} {F H : Hp} {T : List Addr}
end
section
variable {X : Cx} {pins : List (Addr × Obj)} {σ : St} {H : Hp} {s : Shared}
def BU' (K : PySem.W.Frag) : Prop := ∃ o, K.lookup sysModules = some o
theorem wA' (I : Inv X pins σ H s) (h : BU' X.K) {a : Addr} {o : HO} (ha : H a = some o) : a ≠ sysModules := fun e => by
  obtain ⟨ob, hk⟩ := h
  have := (I.bs _ _ (I.ok.mod.kin _ _ hk)).2
  rw [e, this] at ha
  cases ha
mutual
theorem DqN.reads (I : Inv X pins σ H s) (hS : BU' X.K) : ∀ {v : V} {d : M.D} {u : Value}, DqN X.K H v d -> RelV v u -> ∃ as, Reads s.heap u (py d) as /\ sysModules ∉ as
  | _, _, _, .leaf h l, r => ⟨[], e2' I l h r, by simp⟩
  | _, _, _, .tup hs la, r => by
    cases r
    obtain ⟨its, rv, ⟨o, ho, hc, n, hd⟩, _⟩ := I.tuple hs
    obtain ⟨as, hr, hm⟩ := DqNs.reads I hS la rv
    exact ⟨_, Reads.tuple ho hc hd hr, hm⟩
  | _, _, _, .lst (a := a) hs la, r => by
    cases r
    obtain ⟨_, its, n, rv, hd⟩ := I.hok a _ hs
    obtain ⟨as, hr, hm⟩ := DqNs.reads I hS la rv
    refine ⟨_, Reads.list hd rfl rfl hr, fun z => ?_⟩
    rcases List.mem_cons.mp z with z | z
    . exact wA' I hS hs z.symm
    . exact hm z
  | _, _, _, .dct (a := a) (kvs := kvs) (ds := ds) e k la, r => by
    cases r
    obtain ⟨_, hs, vs, rk, hd⟩ := dk_rd I.hok e
    obtain ⟨bs, hp, hm⟩ := DqNs.pairs I hS la kvs rfl rk
    refine ⟨_, PyProof.V.reads_dictOf (enc := kP) (fun k key hk => ?_) hd hp, fun z => ?_⟩
    . rcases keyIs_shape hk with ⟨i, t, rfl, rfl⟩ | ⟨x, t, rfl, rfl⟩
      . exact .int i t
      . exact .str _ t
    . rcases List.mem_cons.mp z with z | z
      . rw [<- z] at hs
        simp at hs
      . exact hm z
theorem DqNs.reads (I : Inv X pins σ H s) (hS : BU' X.K) : ∀ {vs : List V} {ds : List M.D} {us : List Value}, DqNs X.K H vs ds -> Vals vs us -> ∃ as, ReadsAll s.heap us (pys ds) as /\ sysModules ∉ as
  | _, _, _, .nil, r => by
    cases r
    exact ⟨[], .nil, by simp⟩
  | _, _, _, .cons h1 h2, r => by
    cases r with
    | cons r1 r2 =>
      obtain ⟨as, q1, q4⟩ := DqN.reads I hS h1 r1
      obtain ⟨bs, q2, q3⟩ := DqNs.reads I hS h2 r2
      exact ⟨_, .cons q1 q2, fun z => (List.mem_append.mp z).elim q4 q3⟩
theorem DqNs.pairs (I : Inv X pins σ H s) (hS : BU' X.K) : ∀ {vs : List V} {ds : List M.D}, DqNs X.K H vs ds -> ∀ (kvs : List (Key × V)) {us : List (Key × Value)}, kvs.map (·.2) = vs -> KV kvs us →
    ∃ bs, PyProof.V.PairsRead s.heap kP us ((pys (kvs.map fun p => kD p.1)).zip (pys ds)) bs /\ sysModules ∉ bs
  | _, _, .nil, kvs, us, e, r => by
    cases kvs with
    | nil => cases r; exact ⟨[], .nil, by simp⟩
    | cons _ _ => cases e
  | _, _, .cons h1 h2, kvs, us, e, r => by
    cases kvs with
    | nil => cases e
    | cons p kvs =>
      obtain ⟨k, v⟩ := p
      obtain ⟨rfl, e2⟩ := List.cons.inj e
      cases r with
      | @cons _ q _ us hr hp =>
        obtain ⟨k', u⟩ := q
        obtain ⟨he, hr⟩ := hr
        have he : k = k' := he
        subst he
        obtain ⟨as, q1, q4⟩ := DqN.reads I hS h1 hr
        obtain ⟨bs, q2, q3⟩ := DqNs.pairs I hS h2 kvs e2 hp
        exact ⟨_, PyProof.V.PairsRead.cons (enc := kP) (k := k) q1 q2, fun z => (List.mem_append.mp z).elim q4 q3⟩
end
end
section
variable {X : Cx}
end
end S
namespace S
open PySem PySem.Spec PyProof.Rows L2
variable [Wd] [Hot]
end S
namespace S
open PySem PySem.Spec PyProof.Rows L2 HT
variable [Wd] [Hot]
section
variable {prog : Program} {w : World} {A : Around} {E : Value -> Shared -> Prop} {s : Shared}
end
section
variable {X : Cx} {W : WX} {a : Expr} {ma : M.ME} {pos p1 p2 p3 : Pos} {k : Nat}
end
end S
namespace S
open PySem PySem.Spec PyProof.Rows L2
variable [Wd]
section
variable {X : Cx} {W : WX} {pos p : Pos} {a b : Expr}
end
end S
namespace S
open PySem PySem.Spec PyProof.Rows L2 CwR
section
variable {X : Cx} {o e : Expr} {te to : TE} {es : List Expr} {ta : TA} {y z : Str} {i : Int} {j j1 j2 : Nat} {c0 c1 apos pos p : Pos}
end
variable [Wd]
section
variable {X : Cx} {W : WX} {o : Expr} {mo : M.ME} {y z : Str} {i : Int} {j j1 j2 : Nat} {c0 c1 apos pos p : Pos}
end
end S
namespace S
open PySem PySem.Spec PyProof.Rows L2
variable [Wd]
section
variable {X : Cx} {W : WX} {a : Expr} {ma : M.ME} {pos : Pos}
end
end S
namespace S
open PySem PySem.Spec PyProof.Rows L2
end S
namespace S
open PySem PySem.Spec PyProof.Rows L2
variable [Wd] [Hot]
section
variable {K : PySem.W.Frag} {W : WX} {X : Cx} {p pos : Pos} {a b : Expr} {ma mb : M.ME}
end
end S
namespace S
open PySem PySem.Spec
open PySem (ZipApart)
structure ZlSt (h : Heap) (z TI TO i1 i2 l1 l2 : Addr) (xs ys : Array Value) (S : Addr) (i : Nat) : Prop where
  ti : IsPair h TI (.ref i1) (.ref i2)
  it1 : h.IsListIter i1 l1 i
  it2 : h.IsListIter i2 l2 i
  li1 : h.IsList l1 xs
  li2 : h.IsList l2 ys
  zz : (IsZip h z TI TO .none /\ ∃ a b, IsPair h TO a b) \/ ∃ T f oT, PySem.IsZipHeld h z TI TO T f /\ h.get? T = some oT /\ T ≠ z /\ T ≠ i1 /\ T ≠ i2 /\ T ≠ S
structure ZlA (z TI TO i1 i2 l1 l2 S : Addr) : Prop where
  z : z < S
  TI : TI < S
  TO : TO < S
  i1 : i1 < S
  i2 : i2 < S
  l1 : l1 < S
  l2 : l2 < S
section
variable {prog : Program} {w : World} {A : Around} {E : Value -> Shared -> Prop} {s : Shared} {z TI TO i1 i2 l1 l2 S : Addr} {xs ys : Array Value} {i : Nat}
theorem ZlSt.keep {h h' : Heap} (st : ZlSt h z TI TO i1 i2 l1 l2 xs ys S i) (L : ZlA z TI TO i1 i2 l1 l2 S) (hk : ∀ b o, b ≠ S -> h.get? b = some o -> h'.get? b = some o) : ZlSt h' z TI TO i1 i2 l1 l2 xs ys S i := by
  obtain ⟨a1, a2, a3, a4, a5, a6⟩ := st
  have n : ∀ {a : Addr}, a < S -> a ≠ S := fun h => Nat.ne_of_lt h
  refine ⟨hk _ _ (n L.TI) a1, a2.at fun o e => hk _ o (n L.i1) e, a3.at fun o e => hk _ o (n L.i2) e, a4.at fun o e => hk _ o (n L.l1) e, a5.at fun o e => hk _ o (n L.l2) e, ?_⟩
  rcases a6 with ⟨hz, a, b, hTO⟩ | ⟨T, f, oT, hz, hT, r1, r2, r3, r4⟩
  . exact .inl ⟨hk _ _ (n L.z) hz, a, b, hk _ _ (n L.TO) hTO⟩
  . exact .inr ⟨T, f, oT, hk _ _ (n L.z) hz, hk _ _ r4 hT, r1, r2, r3, r4⟩
structure ZlG (xs ys : Array Value) (lo : Addr) (h : Heap) (as : List Addr) : Prop where
  rise : as.Pairwise (· < ·)
  above : ∀ a ∈ as, lo < a
  pairs : ∀ (j : Nat) (a : Addr), as[j]? = some a -> ∃ x y, xs[j]? = some x /\ ys[j]? = some y /\ h.get? a = some { cls := .type "tuple", data := .seq #[x, y] }
theorem ZlG.there {lo : Addr} {h : Heap} {as : List Addr} (g : ZlG xs ys lo h as) {a : Addr} (ha : a ∈ as) : a < h.objs.size := by
  obtain ⟨j, hj⟩ := List.mem_iff_getElem?.mp ha
  obtain ⟨_, _, _, _, e⟩ := g.pairs j a hj
  exact Heap.lt_size e
end
section
variable {prog : Program} {w : World} {A : Around} {s : Shared} {R : Result -> Shared -> Prop} {z TI TO i1 i2 l1 l2 S : Addr} {xs ys : Array Value}
end
section
variable {prog : Program} {w : World} {A : Around} {E : Value -> Shared -> Prop} {s : Shared} {z TI TO i1 i2 l1 l2 S : Addr} {xs ys : Array Value}
theorem ZlSt.type {h : Heap} {i : Nat} (st : ZlSt h z TI TO i1 i2 l1 l2 xs ys S i) : ∃ o, h.get? z = some o /\ o.cls = .type "zip" := by
  rcases st.zz with ⟨hz, _⟩ | ⟨T, f, oT, hz, _⟩
  . exact ⟨_, hz, rfl⟩
  . exact ⟨_, hz, rfl⟩
end
end S
namespace S
open PySem PySem.Spec PyProof.Rows L2 LiI
section
variable {X : Cx}
end
section
variable {K : PySem.W.Frag} [Wd]
end
section
variable [Wd] {X : Cx} {W : WX} {a b : Expr} {ma mb : M.ME} {p p2 pos pos2 : Pos}
end
end S
namespace S
open PySem PySem.Spec PyProof.Rows L2
section
variable {prog : Program} {w : World} {A : Around} {E : Value -> Shared -> Prop} {s : Shared} {z TI TO i1 i2 l1 l2 : Addr} {xs ys : Array Value} {k : Nat}
abbrev ZO (h : Heap) (z TI TO : Addr) (f0 : Value) (b : Bool) : Prop :=
  h.get? z = some { cls := .type "zip", dict := none, data := .fields #[f0, .bool b, .bool false, .ref TI, .ref TO], slots := #[] }
def Gvn (f0 : Value) : Prop := f0 = .none \/ ∃ T : Addr, f0 = rawInt T
theorem v6' {a : Addr} {Q : Option Obj -> Shared -> Prop} (h : Q (s.heap.get? a) s) : wpAny (model prog w) A (loadIfAlive a) Q E s := fun _ _ _ => h
theorem pO' {f0 : Value} {b : Bool} {Q : Bool -> Shared -> Prop} (hz : ZO s.heap z TI TO f0 b) (hg : Gvn f0) (h1 : Q true s)
    (h2 : ∀ h', ZO h' z TI TO f0 true -> Heap.SameBut z s.heap h' -> Q false { s with heap := h' }) : wpAny (model prog w) A (Builtin.SmallTypes.ownedTupleIsFree (.ref z)) Q E s := by
  unfold Builtin.SmallTypes.ownedTupleIsFree
  rcases hg with rfl | ⟨T, rfl⟩
  . exact wpAny_bind (wpAny_field hz rfl (x := .none) rfl (wpAny_pure h1))
  refine wpAny_bind (wpAny_field hz rfl (x := rawInt T) rfl ?_)
  show wpAny _ _ (loadIfAlive ((T : Int).toNat) >>= _) _ _ _
  rw [Int.toNat_natCast]
  refine wpAny_bind (v6' ?_)
  cases s.heap.get? T with
  | none =>
    simp only [Option.isNone_none, if_true]
    exact wpAny_pure h1
  | some o =>
    simp only [Option.isNone_some, Bool.false_eq_true, if_false]
    refine wpAny_bind (wpAny_field hz rfl (x := .bool b) rfl ?_)
    cases b with
    | true =>
      rw [if_neg (show ¬ ((Value.bool true != Value.bool true) = true) from Bool.false_ne_true)]
      exact wpAny_pure (h2 s.heap hz (Heap.SameBut.refl _ _))
    | false =>
      rw [if_pos (show (Value.bool false != Value.bool true) = true from rfl)]
      exact wpAny_bind (wpAny_setField_rec hz (by simp) fun h₁ hz₁ hs₁ => wpAny_pure (h2 h₁ hz₁ hs₁))
theorem up' {Q : Unit -> Shared -> Prop} {b0 : Bool} {T : Addr} (hz : ZO s.heap z TI TO .ellipsis b0) (k : ∀ h', ZO h' z TI TO (rawInt T) false -> (∀ c o, c ≠ z -> s.heap.get? c = some o -> h'.get? c = some o) -> Q ⟨⟩ { s with heap := h' }) :
    wpAny (model prog w) A (Builtin.SmallTypes.ownedTupleHandOut (.ref z) (.ref T)) Q E s := by
  unfold Builtin.SmallTypes.ownedTupleHandOut
  exact wpAny_bind (wpAny_setField_rec hz (by simp) fun g (hg : ZO g z TI TO (rawInt T) b0) sg => wpAny_setField_rec hg (by simp) fun g' (hg' : ZO g' z TI TO (rawInt T) false) sg' => k g' hg' fun c o ne there => sg'.extBut c o ne (sg.extBut c o ne there))
structure ZnSt (h : Heap) (z TI TO i1 i2 l1 l2 : Addr) (k : Nat) : Prop where
  zz : ∃ f0 b, ZO h z TI TO f0 b /\ Gvn f0
  ti : IsPair h TI (.ref i1) (.ref i2)
  to : ∃ x y, IsPair h TO x y
  h1 : h.IsTupleIter i1 l1 k
  h2 : h.IsTupleIter i2 l2 k
theorem v7' {x y : Value} {Q : Value -> Shared -> Prop} (D : ZipApart z TI TO i1 i2 l1 l2) (st : ZnSt s.heap z TI TO i1 i2 l1 l2 k) (hl1 : s.heap.IsTuple l1 xs) (hl2 : s.heap.IsTuple l2 ys) (hx : xs[k]? = some x) (hy : ys[k]? = some y)
    (hQ : ∀ h', ZnSt h' z TI TO i1 i2 l1 l2 (k + 1) -> IsPair h' s.heap.objs.size x y -> (∀ c o, c ≠ z -> c ≠ TO -> c ≠ i1 -> c ≠ i2 -> s.heap.get? c = some o -> h'.get? c = some o) -> Q (.ref s.heap.objs.size) { s with heap := h' }) :
    wpAny (model prog w) A (Builtin.«zip.__next__» ⟨[.ref z], []⟩) (fun fin s' => ∃ v, fin = .done (.ret v) /\ Q v s') E s := by
  obtain ⟨⟨f0, b0, hz, hg⟩, hTI, ⟨a, b, hTO⟩, h1, h2⟩ := st
  refine show wpAny _ _ (field (.ref z) 2 >>= _) _ _ _ from wpAny_bind (wpAny_field hz rfl (x := .bool false) rfl (show wpAny _ _ (field (.ref z) 3 >>= _) _ _ _ from wpAny_bind (wpAny_field hz rfl (x := .ref TI) rfl
    (wpAny_bind (wpAny_seqItems hTI rfl (show wpAny _ _ (Builtin.SmallTypes.ownedTupleIsFree (.ref z) >>= _) _ _ _ from wpAny_bind (pO' hz hg ?_ fun h₁ hz₁ hs₁ => ?_)))))))
  . -- the pair kept by the zip is taken again
    simp only [if_true]
    refine wpAny_bind (wpAny_rule (wpAny_bind (wpAny_field hz rfl (x := .ref TO) rfl (wpAny_bind (wpAny_setField_rec hz (by simp) fun h₁ (hz₁ : ZO h₁ z TI TO .ellipsis b0) hs₁ => wpAny_bind ?_)))))
    simp only [List.forIn_cons, List.zipIdx_cons, List.forIn_nil, List.zipIdx_nil]
    -- the zip, its pair and its iterators behind the four steps; then the pair goes out
    have close : ∀ (g2 g3 g4 g5 : Heap), g2.IsTupleIter i1 l1 (k + 1) -> Heap.SameBut i1 h₁ g2 -> Heap.SameBut TO g2 g3 -> g4.IsTupleIter i2 l2 (k + 1) -> Heap.SameBut i2 g3 g4 -> IsPair g5 TO x y -> Heap.SameBut TO g4 g5 →
        wpAny (model prog w) A (Builtin.SmallTypes.ownedTupleHandOut (.ref z) (.ref g5.objs.size)) (fun _ s' => wpAny (model prog w) A (pure (Fin.done (.ret (Value.ref g5.objs.size)))) (fun fin s' => ∃ v, fin = .done (.ret v) /\ Q v s') E s') E { s with heap := g5.push { cls := .type "tuple", data := .seq #[x, y] } } := fun g2 g3 g4 g5 it1 b2 b3 it2 b4 pr b5 => by
      have size : g5.objs.size = s.heap.objs.size := b5.1.trans (b4.1.trans (b3.1.trans (b2.1.trans hs₁.1)))
      have zip5 : ZO g5 z TI TO .ellipsis b0 := b5.extBut _ _ D.TOz.symm (b4.extBut _ _ D.i2z.symm (b3.extBut _ _ D.TOz.symm (b2.extBut _ _ D.i1z.symm hz₁)))
      have rest : ∀ c o, c ≠ z -> c ≠ TO -> c ≠ i1 -> c ≠ i2 -> s.heap.get? c = some o -> g5.get? c = some o := fun c o c1 c2 c3 c4 e => b5.extBut _ _ c2 (b4.extBut _ _ c4 (b3.extBut _ _ c2 (b2.extBut _ _ c3 (hs₁.extBut _ _ c1 e))))
      have first := ((it1.extBut b3.extBut D.TOi1.symm).extBut b4.extBut D.i12).extBut b5.extBut D.TOi1.symm
      have second := it2.extBut b5.extBut D.TOi2.symm
      refine up' (s := { s with heap := g5.push { cls := .type "tuple", data := .seq #[x, y] } }) (Heap.get?_push_of_some _ zip5) fun g8 zip8 more => wpAny_pure ⟨_, rfl, ?_⟩
      have up : ∀ c o, c ≠ z -> g5.get? c = some o -> g8.get? c = some o := fun c o ne e => more c o ne (Heap.get?_push_of_some _ e)
      have out : IsPair g8 g5.objs.size x y := more _ _ (Nat.ne_of_gt (Heap.lt_size zip5)) (Heap.get?_push_size _ rfl)
      show Q (.ref g5.objs.size) _
      rw [size] at out zip8 ⊢
      exact hQ g8 ⟨⟨_, _, zip8, .inr ⟨_, rfl⟩⟩, up _ _ D.TIz (rest _ _ D.TIz D.TITO D.TIi1 D.TIi2 hTI), ⟨_, _, up _ _ D.TOz pr⟩, first.at fun _ e => up _ _ D.i1z e, second.at fun _ e => up _ _ D.i2z e⟩ out fun c o c1 c2 c3 c4 e => up c o c1 (rest c o c1 c2 c3 c4 e)
    refine wpAny_bind (wpAny_bind (wpAny_onRaise (show wpAny _ _ (Builtin.SmallTypes.nextOf (.ref i1) >>= _) _ _ _ from wpAny_bind (RZ.nextOf_tuple_item (h1.extBut hs₁.extBut D.i1z) (hl1.extBut hs₁.extBut D.l1z) hx fun g2 it1 b2 => wpAny_pure ?_))))
    have held : IsPair g2 TO a b := b2.extBut _ _ D.TOi1 (hs₁.extBut _ _ D.TOz hTO)
    refine wpAny_bind (wpAny_seqItems held rfl (wpAny_bind (wpAny_updateSeq_pair held fun g3 (half : IsPair g3 TO x b) b3 => wpAny_bind (wpAny_letGo (wpAny_pure (wpAny_bind (wpAny_bind (wpAny_onRaise (show wpAny _ _ (Builtin.SmallTypes.nextOf (.ref i2) >>= _) _ _ _ from wpAny_bind
      (RZ.nextOf_tuple_item (((h2.extBut hs₁.extBut D.i2z).extBut b2.extBut D.i12.symm).extBut b3.extBut D.TOi2.symm) (((hl2.extBut hs₁.extBut D.l2z).extBut b2.extBut D.l2i1).extBut b3.extBut D.l2TO) hy fun g4 it2 b4 => wpAny_pure ?_))))))))))
    have half4 : IsPair g4 TO x b := b4.extBut _ _ D.TOi2 half
    exact wpAny_bind (wpAny_seqItems half4 rfl (wpAny_bind (wpAny_updateSeq_pair half4 fun g5 (full : IsPair g5 TO x y) b5 => wpAny_bind (wpAny_letGo (wpAny_pure (wpAny_pure (wpAny_bind (wpAny_seqItems full rfl (wpAny_bind (wpAny_newTuple
      (show wpAny _ _ (Builtin.SmallTypes.ownedTupleHandOut (.ref z) (.ref g5.objs.size) >>= _) _ _ _ from wpAny_bind (close g2 g3 g4 g5 it1 b2 b3 it2 b4 full b5))))))))))))
  . -- a new one is made
    simp only [Bool.false_eq_true, if_false]
    have left1 := h1.extBut hs₁.extBut D.i1z
    have tup1 := hl1.extBut hs₁.extBut D.l1z
    have left2 := h2.extBut hs₁.extBut D.i2z
    have tup2 := hl2.extBut hs₁.extBut D.l2z
    -- what is there behind both steps
    have close : ∀ (h₂ h₃ : Heap), h₂.IsTupleIter i1 l1 (k + 1) -> Heap.SameBut i1 h₁ h₂ -> h₃.IsTupleIter i2 l2 (k + 1) -> Heap.SameBut i2 h₂ h₃ -> Q (.ref h₃.objs.size) { s with heap := h₃.push { cls := .type "tuple", data := .seq #[x, y] } } := fun h₂ h₃ it1 sb2 it2 sb3 => by
      have size : h₃.objs.size = s.heap.objs.size := sb3.1.trans (sb2.1.trans hs₁.1)
      have rest : ∀ c o, c ≠ z -> c ≠ i1 -> c ≠ i2 -> s.heap.get? c = some o -> (h₃.push { cls := .type "tuple", data := .seq #[x, y] }).get? c = some o := fun c o c1 c2 c3 e => Heap.get?_push_of_some _ (sb3.extBut _ _ c3 (sb2.extBut _ _ c2 (hs₁.extBut _ _ c1 e)))
      have pair : IsPair (h₃.push { cls := .type "tuple", data := .seq #[x, y] }) h₃.objs.size x y := Heap.get?_push_size _ rfl
      rw [size] at pair ⊢
      refine hQ _ ⟨⟨_, _, Heap.get?_push_of_some _ (sb3.extBut _ _ D.i2z.symm (sb2.extBut _ _ D.i1z.symm hz₁)), hg⟩, rest _ _ D.TIz D.TIi1 D.TIi2 hTI, ⟨_, _, rest _ _ D.TOz D.TOi1 D.TOi2 hTO⟩, ?_, it2.at fun _ e => Heap.get?_push_of_some _ e⟩ pair fun c o c1 _ c3 c4 e => rest c o c1 c3 c4 e
      exact (it1.extBut sb3.extBut D.i12).at fun _ e => Heap.get?_push_of_some _ e
    refine wpAny_bind ?_
    rw [<- Array.forIn_toList]
    simp only [List.forIn_cons, List.forIn_nil]
    exact wpAny_bind (wpAny_bind (wpAny_holding (show wpAny _ _ (Builtin.SmallTypes.nextOf (.ref i1) >>= _) _ _ _ from wpAny_bind (RZ.nextOf_tuple_item (s := { s with heap := h₁ }) left1 tup1 hx fun h₂ it1 sb2 => wpAny_pure (wpAny_pure (wpAny_bind (wpAny_bind (wpAny_holding
      (show wpAny _ _ (Builtin.SmallTypes.nextOf (.ref i2) >>= _) _ _ _ from wpAny_bind (RZ.nextOf_tuple_item (s := { s with heap := h₂ }) (left2.extBut sb2.extBut D.i12.symm) (tup2.extBut sb2.extBut D.l2i1) hy fun h₃ it2 sb3 => wpAny_pure (wpAny_pure (wpAny_pure
        (show wpAny _ _ (newTuple [x, y] >>= _) _ _ _ from wpAny_bind (wpAny_newTuple (wpAny_pure ⟨_, rfl, close h₂ h₃ it1 sb2 it2 sb3⟩)))))))))))))))
theorem yF' {Q : Fin -> Shared -> Prop} (hh : A.handled = none) (D : ZipApart z TI TO i1 i2 l1 l2) (st : ZnSt s.heap z TI TO i1 i2 l1 l2 k) (hl1 : s.heap.IsTuple l1 xs) (hl2 : s.heap.IsTuple l2 ys) (hend : xs[k]? = none \/ ys[k]? = none)
    (hE : ∀ h' e, (∀ c o, c ≠ z -> c ≠ TO -> c ≠ i1 -> c ≠ i2 -> s.heap.get? c = some o -> h'.get? c = some o) -> (∃ o, h'.get? e = some o /\ o.cls = .type "StopIteration") -> E (.ref e) { s with heap := h' }) :
    wpAny (model prog w) A (Builtin.«zip.__next__» ⟨[.ref z], []⟩) Q E s := by
  obtain ⟨⟨f0, b0, hz, hg⟩, hTI, ⟨a, b, hTO⟩, h1, h2⟩ := st
  refine show wpAny _ _ (field (.ref z) 2 >>= _) _ _ _ from wpAny_bind (wpAny_field hz rfl (x := .bool false) rfl (show wpAny _ _ (field (.ref z) 3 >>= _) _ _ _ from wpAny_bind (wpAny_field hz rfl (x := .ref TI) rfl
    (wpAny_bind (wpAny_seqItems hTI rfl (show wpAny _ _ (Builtin.SmallTypes.ownedTupleIsFree (.ref z) >>= _) _ _ _ from wpAny_bind (pO' hz hg ?_ fun h₁ hz₁ hs₁ => ?_)))))))
  . simp only [if_true]
    refine wpAny_bind (wpAny_rule (wpAny_bind (wpAny_field hz rfl (x := .ref TO) rfl (wpAny_bind (wpAny_setField_rec hz (by simp) fun h₁ (hz₁ : ZO h₁ z TI TO .ellipsis b0) hs₁ => wpAny_bind ?_)))))
    simp only [List.forIn_cons, List.zipIdx_cons, List.forIn_nil, List.zipIdx_nil]
    -- the zip lets go of its iterators; what was raised stays
    have drop : ∀ (g : Heap) (e : Addr), ZO g z TI TO .ellipsis b0 -> (∀ c o, c ≠ z -> c ≠ TO -> c ≠ i1 -> c ≠ i2 -> s.heap.get? c = some o -> g.get? c = some o) -> (∃ o, g.get? e = some o /\ o.cls = .type "StopIteration") →
        wpAny (model prog w) A (setField (.ref z) 0 .none) (fun _ s' => E (.ref e) s') E { s with heap := g } := fun g e zip rest ⟨oe, there, cls⟩ => by
      have ne : e ≠ z := by
        rintro rfl
        rw [zip] at there
        cases there
        exact absurd cls (by simp)
      exact wpAny_setField_rec zip (by simp) fun g' _ sg => hE g' e (fun c o c1 c2 c3 c4 q => sg.extBut _ _ c1 (rest c o c1 c2 c3 c4 q)) ⟨oe, sg.extBut _ _ ne there, cls⟩
    refine wpAny_bind (wpAny_bind (wpAny_onRaise (show wpAny _ _ (Builtin.SmallTypes.nextOf (.ref i1) >>= _) _ _ _ from ?_)))
    rcases first : xs[k]? with _ | x
    . exact wpAny_bind (RZ.nextOf_tuple_end hh (h1.extBut hs₁.extBut D.i1z) (hl1.extBut hs₁.extBut D.l1z) first fun g e sg raised =>
        drop g e (sg _ _ D.i1z.symm hz₁) (fun c o c1 _ c3 _ q => sg _ _ c3 (hs₁.extBut _ _ c1 q)) raised)
    . have second : ys[k]? = none := hend.resolve_left (by rw [first]; exact nofun)
      refine wpAny_bind (RZ.nextOf_tuple_item (h1.extBut hs₁.extBut D.i1z) (hl1.extBut hs₁.extBut D.l1z) first fun g2 _ b2 => wpAny_pure ?_)
      have held : IsPair g2 TO a b := b2.extBut _ _ D.TOi1 (hs₁.extBut _ _ D.TOz hTO)
      exact wpAny_bind (wpAny_seqItems held rfl (wpAny_bind (wpAny_updateSeq_pair held fun g3 _ b3 => wpAny_bind (wpAny_letGo (wpAny_pure (wpAny_bind (wpAny_bind (wpAny_onRaise (show wpAny _ _ (Builtin.SmallTypes.nextOf (.ref i2) >>= _) _ _ _ from wpAny_bind
        (RZ.nextOf_tuple_end hh (((h2.extBut hs₁.extBut D.i2z).extBut b2.extBut D.i12.symm).extBut b3.extBut D.TOi2.symm) (((hl2.extBut hs₁.extBut D.l2z).extBut b2.extBut D.l2i1).extBut b3.extBut D.l2TO) second fun g4 e b4 raised =>
          drop g4 e (b4 _ _ D.i2z.symm (b3.extBut _ _ D.TOz.symm (b2.extBut _ _ D.i1z.symm hz₁))) (fun c o c1 c2 c3 c4 q => b4 _ _ c4 (b3.extBut _ _ c2 (b2.extBut _ _ c3 (hs₁.extBut _ _ c1 q)))) raised))))))))))
  . have it1 := h1.extBut hs₁.extBut D.i1z
    have tup1 := hl1.extBut hs₁.extBut D.l1z
    rw [if_neg (by decide)]
    refine wpAny_bind ?_
    rw [<- Array.forIn_toList]
    simp only [List.forIn_cons, List.forIn_nil]
    refine wpAny_bind (wpAny_bind (wpAny_holding (show wpAny _ _ (Builtin.SmallTypes.nextOf (.ref i1) >>= _) _ _ _ from ?_)))
    rcases first : xs[k]? with _ | x
    . exact wpAny_bind (RZ.nextOf_tuple_end (s := { s with heap := h₁ }) hh it1 tup1 first fun g e sg raised => hE g e (fun c o c1 _ c3 _ q => sg _ _ c3 (hs₁.extBut _ _ c1 q)) raised)
    . have second : ys[k]? = none := hend.resolve_left (by rw [first]; exact nofun)
      exact wpAny_bind (RZ.nextOf_tuple_item (s := { s with heap := h₁ }) it1 tup1 first fun g2 _ b2 => wpAny_pure (wpAny_pure (wpAny_bind (wpAny_bind (wpAny_holding (show wpAny _ _ (Builtin.SmallTypes.nextOf (.ref i2) >>= _) _ _ _ from wpAny_bind
        (RZ.nextOf_tuple_end (s := { s with heap := g2 }) hh ((h2.extBut hs₁.extBut D.i2z).extBut b2.extBut D.i12.symm) ((hl2.extBut hs₁.extBut D.l2z).extBut b2.extBut D.l2i1) second fun g3 e sg raised => hE g3 e (fun c o c1 _ c3 c4 q => sg _ _ c4 (b2.extBut _ _ c3 (hs₁.extBut _ _ c1 q))) raised)))))))
theorem v5' {x y : Value} {Q : Option Value -> Shared -> Prop} (D : ZipApart z TI TO i1 i2 l1 l2) (st : ZnSt s.heap z TI TO i1 i2 l1 l2 k) (hl1 : s.heap.IsTuple l1 xs) (hl2 : s.heap.IsTuple l2 ys) (hx : xs[k]? = some x) (hy : ys[k]? = some y)
    (hQ : ∀ h', ZnSt h' z TI TO i1 i2 l1 l2 (k + 1) -> IsPair h' s.heap.objs.size x y -> (∀ c o, c ≠ z -> c ≠ TO -> c ≠ i1 -> c ≠ i2 -> s.heap.get? c = some o -> h'.get? c = some o) -> Q (some (.ref s.heap.objs.size)) { s with heap := h' }) :
    wpAny (model prog w) A (pyNext (.ref z)) Q E s := by
  obtain ⟨f0, b0, hz, _⟩ := st.zz
  have hT : s.TypeIs (.ref z) "zip" := ⟨_, hz, rfl⟩
  unfold pyNext
  exact wpAny_bind (wpAny_attempt (wpAny_callSpecial?_slot (name := Str.ofString "__next__") hT PySem.F.slot_zip_next
    (wpAny_call_entry PySem.F.slot_zip_next hT PySem.F.entry_zip_next (v7' D st hl1 hl2 hx hy fun h' a1 a2 a3 => wpAny_pure (hQ h' a1 a2 a3)) (PySem.F.args_zip_next_1 _))))
theorem v8' {Q : Option Value -> Shared -> Prop} (hh : A.handled = none) (D : ZipApart z TI TO i1 i2 l1 l2) (st : ZnSt s.heap z TI TO i1 i2 l1 l2 k) (hl1 : s.heap.IsTuple l1 xs) (hl2 : s.heap.IsTuple l2 ys) (hend : xs[k]? = none \/ ys[k]? = none)
    (hQ : ∀ h', (∀ c o, c ≠ z -> c ≠ TO -> c ≠ i1 -> c ≠ i2 -> s.heap.get? c = some o -> h'.get? c = some o) -> Q none { s with heap := h' }) : wpAny (model prog w) A (pyNext (.ref z)) Q E s := by
  obtain ⟨f0, b0, hz, _⟩ := st.zz
  have hT : s.TypeIs (.ref z) "zip" := ⟨_, hz, rfl⟩
  unfold pyNext
  refine wpAny_bind (wpAny_attempt (wpAny_callSpecial?_slot (name := Str.ofString "__next__") hT PySem.F.slot_zip_next
    (wpAny_call_entry PySem.F.slot_zip_next hT PySem.F.entry_zip_next (yF' hh D st hl1 hl2 hend fun h' e hk he => ?_) (PySem.F.args_zip_next_1 _))))
  obtain ⟨o, ho, hc⟩ := he
  refine wpAny_bind (wpAny_isInstance (T := "StopIteration") (b := true) ⟨o, ho, hc⟩ isSubtype_stop ?_)
  exact wpAny_pure (hQ _ hk)
theorem v4' {Q : Value -> Shared -> Prop} (st : ZnSt s.heap z TI TO i1 i2 l1 l2 k) (h : Q (.ref z) s) : wpAny (model prog w) A (pyIter (.ref z)) Q E s := by
  obtain ⟨f0, b0, hz, _⟩ := st.zz
  have hT : s.TypeIs (.ref z) "zip" := ⟨_, hz, rfl⟩
  refine wpAny_pyIter_slot hT PySem.F.slot_zip_iter (wpAny_call_entry PySem.F.slot_zip_iter hT PySem.F.entry_zip_iter ?_ (PySem.F.args_zip_iter_1 _))
  show wpAny _ _ (ret (.ref z)) _ _ s
  exact wpAny_pure ⟨_, rfl, "zip", _, hT, PySem.F.slot_zip_next.lookup, h⟩
end
theorem q9' {P : Program} {w : World} {K : PySem.W.Frag} {nm : Str} {tpos : Pos} {a b z TI TO i1 i2 : Addr} (D : ZipApart z TI TO i1 i2 a b) :
    Turn P w K (.Name nm tpos) (RZ.ItzT K a b) [z, TI, TO, i1, i2] z (fun i h => ZnSt h z TI TO i1 i2 a b i) where
  mem := by simp
  obj := fun i h st c hc => by
    obtain ⟨⟨f0, b0, hz, _⟩, hTI, ⟨x, y, hTO⟩, ⟨o1, e1, _, d1⟩, ⟨o2, e2, _, d2⟩⟩ := st
    exact CY' (Pr := fun a => ∃ o, h.get? a = some o /\ ∀ v, o.data = .cell v -> False) ⟨_, hz, nofun⟩ ⟨_, hTI, nofun⟩ ⟨_, hTO, nofun⟩ ⟨o1, e1, by rw [d1]; nofun⟩ ⟨o2, e2, by rw [d2]; nofun⟩ hc
  keep := fun i h h' st k => by
    obtain ⟨⟨f0, b0, hz, hg⟩, hTI, ⟨x, y, hTO⟩, h1, h2⟩ := st
    exact ⟨⟨f0, b0, k z (by simp) _ hz, hg⟩, k TI (by simp) _ hTI, ⟨x, y, k TO (by simp) _ hTO⟩, h1.at fun o q => k i1 (by simp) o q, h2.at fun o q => k i2 (by simp) o q⟩
  item := by
    intro X hP hw hK hc i pins s σ H E I hf st hg
    subst hP hw hK
    obtain ⟨xs, ys, x, y, hqx, hqy, hx, hy⟩ := hg
    obtain ⟨its, rv, p, _⟩ := I.tuple hqx
    obtain ⟨its2, rv2, p2, _⟩ := I.tuple hqy
    obtain ⟨u, hu, ru⟩ := rv.get hx
    obtain ⟨u2, hu2, ru2⟩ := rv2.get hy
    refine v5' D st p p2 (x := u) (y := u2) (by simpa using hu) (by simpa using hu2) fun h' st' hT hk => ?_
    refine ⟨_, rfl, wpAny_pure ?_⟩
    have new : ObjOk X.prog X.w (upd H s.heap.objs.size (.tup [x, y])) h' s.heap.objs.size (.tup [x, y]) :=
      ⟨by show 2 <= sizeLine; decide, [u, u2], .cons ru (.cons ru2 .nil), ⟨_, hT, rfl, _, rfl⟩⟩
    have I1 : Inv X pins σ (upd H s.heap.objs.size (.tup [x, y])) { s with heap := h' } :=
      I.turnedNew (t' := s.toks) (ch := [z, TI, TO, i1, i2]) (fun c o hb q => hk c o (fun q' => hb (by simp [q'])) (fun q' => hb (by simp [q'])) (fun q' => hb (by simp [q'])) (fun q' => hb (by simp [q'])) q) hf (Nat.le_refl _) new
    refine ⟨.ref s.heap.objs.size, _, I1, rfl, ⟨_, x, y, rfl, I.hok.fresh (Nat.le_refl _), rfl, fun l hl => by rw [I.tuple_inj hl hqx]; exact hx, fun l hl => by rw [I.tuple_inj hl hqy]; exact hy⟩, st', fun c hcm => ?_⟩
    obtain ⟨⟨_, _, gz, _⟩, gI, ⟨_, _, gO⟩, ⟨_, g1, _⟩, ⟨_, g2, _⟩⟩ := id st
    have hlt : c < s.heap.objs.size := CY' (Pr := fun a => a < s.heap.objs.size) (Heap.lt_size gz) (Heap.lt_size gI) (Heap.lt_size gO) (Heap.lt_size g1) (Heap.lt_size g2) hcm
    rw [upd_ne (Nat.ne_of_lt hlt)]
    exact (hf c hcm).1
  done := by
    intro X hP hw hK hc i pins s σ H E I hf st hg
    subst hP hw hK
    obtain ⟨xs, ys, hqx, hqy, hend⟩ := hg
    obtain ⟨its, rv, p, _⟩ := I.tuple hqx
    obtain ⟨its2, rv2, p2, _⟩ := I.tuple hqy
    have l1 := rv.length
    have l2 := rv2.length
    have he : its.toArray[i]? = none \/ its2.toArray[i]? = none := by
      rcases hend with q | q
      . exact .inl (by simp; omega)
      . exact .inr (by simp; omega)
    exact v8' (I.ok.hd hc) D st p p2 he fun h' hk => ⟨rfl, I.turnedL (t' := s.toks) (ch := [z, TI, TO, i1, i2]) (fun c o hb q =>
      hk c o (fun q' => hb (by simp [q'])) (fun q' => hb (by simp [q'])) (fun q' => hb (by simp [q'])) (fun q' => hb (by simp [q'])) q) hf⟩
  self := fun A i s Q E st h => v4' st h
def Ap' (K : PySem.W.Frag) (ta : TA) : TI := fun σ H R => ta σ H fun vs H1 => ∃ a b xs ys, vs = [.ref a, .ref b] /\ SqT K H1 a xs /\ SqT K H1 b ys /\ R (RZ.ItzT K a b) H1
theorem w2' {X : Cx} {e e2 : Expr} {ta : TA} {p pos tpos : Pos} {nm : Str} (hg : Gl X "zip") (hm : X.mg "zip" = none) (ha : PA X [e, e2] ta)
    (hs : starEach [e, e2] X.env = (false, eval e X.env) :: starEach [e2] X.env := by rfl) (hpl : (backTo pos (starEach [e2] X.env)).any (·.1) = false := by rfl) :
    PI X (.Name nm tpos) (.Call (.Name "zip" p) [e, e2] [] pos) (Ap' X.K ta) := by
  refine ⟨fun pins s σ H R I h => ?_⟩
  refine Call_ (ld_blt I hg hm PyProof.Rows.boot_zip (PyProof.Rows.callWith_type1 (thn (ha.run pos pins s σ H _ I h) fun us s1 ⟨vs, H1, I1, r1, q1⟩ => ?_) hs hpl))
  obtain ⟨a, b, xs, ys, ex, hqx, hqy, q⟩ := q1
  subst ex
  cases r1 with
  | cons r rr =>
    cases rr with
    | cons r' rr =>
      cases rr
      cases r
      cases r'
      obtain ⟨its, rv, p1, _⟩ := I1.tuple hqx
      obtain ⟨its2, rv2, p2, _⟩ := I1.tuple hqy
      obtain ⟨o1, ho1, _⟩ := id p1
      obtain ⟨o2, ho2, _⟩ := id p2
      refine RZ.call_zipT (show s1.heap.IsTuple a its.toArray from p1) (show s1.heap.IsTuple b its2.toArray from p2) fun h' hz hTI hTO h1 h2 hsz hk => wpAny_pyIter_zip hz ?_
      have I2 : Inv X pins σ H1 { s1 with heap := h' } := I1.kept (t' := s1.toks) hk
      refine ⟨s1.heap.objs.size + 4, [s1.heap.objs.size + 4, s1.heap.objs.size + 2, s1.heap.objs.size + 3, s1.heap.objs.size, s1.heap.objs.size + 1], _, _, H1, rfl, I2, q9' (PySem.W.ktu_apart s1.heap.objs.size a b (Heap.lt_size ho1) (Heap.lt_size ho2)), ⟨⟨_, _, hz, .inl rfl⟩, hTI, ⟨_, _, hTO⟩, h1, h2⟩, fun c hcm => ?_, q⟩
      have hle : s1.heap.objs.size <= c := CY' (Pr := fun a => s1.heap.objs.size <= a) (Nat.le_add_right _ _) (Nat.le_add_right _ _) (Nat.le_add_right _ _) (Nat.le_refl _) (Nat.le_add_right _ _) hcm
      exact I1.fpOk hle (I1.hok.fresh hle)
end S
namespace S
open PySem PySem.Spec PyProof.Rows L2
section
variable [Wd] [Hot] {X : Cx} {W : WX} {a b : Expr} {ma mb : M.ME} {p pos : Pos}
theorem wG' {nm : Str} {tpos : Pos} (hg : Gl X "zip") (hm : X.mg "zip" = none) (ha : SE X W a ma) (hb : SE X W b mb)
    (hs : starEach [a, b] X.env = (false, eval a X.env) :: starEach [b] X.env := by rfl) (hs2 : starEach [b] X.env = (false, eval b X.env) :: starEach [] X.env := by rfl) (hpl : (backTo pos (starEach [b] X.env)).any (·.1) = false := by rfl) :
    SI X W (.Name nm tpos) (.Call (.Name "zip" p) [a, b] [] pos) (M.sB' ma mb) :=
  PI.imp (w2' hg hm (pa_cons ha (pa_cons hb pa_nil hs2) hs) hs hpl) fun σ H R ⟨ρ, F, T, fr, rel, q⟩ => by
    have q1 := a8'.bind q
    refine ⟨ρ, F, T, fr, rel, ?_⟩
    cases em : ma ρ with
    | bad => rw [em] at q1; exact q1.elim
    | exc x ρ1 => rw [em] at q1; exact q1
    | ok x ρ1 =>
      rw [em] at q1
      have q2 := a8'.bind (show a8' ((mb ρ1).bind _) _ _ from q1)
      intro u H1 F1 T1 e1 z1 r1
      refine ⟨ρ1, F1, T1, fr, r1, ?_⟩
      cases en : mb ρ1 with
      | bad => rw [en] at q2; exact q2.elim
      | exc y ρ2 => rw [en] at q2; exact EX.mono (show EX X.K W σ F T fr y ρ2 from q2) e1
      | ok y ρ2 =>
        rw [en] at q2
        obtain ⟨ds, e3, q3⟩ := a8'.ofO (show a8' (M.ofO _ _) _ _ from q2)
        intro v H2 F2 T2 e2 z2 r2
        have z1 := z1.mono e2
        obtain ⟨fp, f, _⟩ := r2.fp
        cases x <;> cases y <;> try (cases e3; done)
        obtain ⟨a1, vs, rfl, ha, za⟩ := z1.tup_inv
        obtain ⟨b1, ws, rfl, hb, zb⟩ := z2.tup_inv
        cases e3
        exact ⟨a1, b1, vs, ws, rfl, seqT f.low ha, seqT f.low hb, q3 _ _ _ _ (e1.trans e2) (su' ha za hb zb) r2⟩
end
end S
namespace S
open PySem PySem.Spec PyProof.Rows L2
section
variable [Wd] [Hot] {X : Cx} {W : WX} {a : Expr} {ma : M.ME} {pos : Pos}
theorem zf' {i : Nat} {x : Str} {px apos cpos : Pos} (hv : PE X (.Name x px) (tVar i)) (ha : SE X W a ma)
    (hbase : attributeBase (.Name x px) "extend" X.env (eval (.Name x px) X.env) = eval (.Name x px) X.env := by rfl)
    (hfew : ((backTo cpos (starEach [a] X.env)).all (fun x => !x.1) && (backToKw cpos (keywordEach [] X.env)).all (fun x => x.1.isSome)
      && decide ([a].length + ([] : List Keyword).length + (if ([] : List Keyword).isEmpty then 0 else 1) < 30)) = true := by rfl)
    (hline : (apos.endLine == cpos.line) = true := by rfl) (hs : starEach [a] X.env = (false, eval a X.env) :: starEach [] X.env := by rfl) (hplain : (backTo cpos (starEach [] X.env)).any (·.1) = false := by rfl)
    (hsw : swapsWith (.Call (.Attribute (.Name x px) "extend" apos) [a] [] cpos) none pos.line X.env = pure false := by rfl) :
    SS X W (.Expr (.Call (.Attribute (.Name x px) "extend" apos) [a] [] cpos) pos) (M.yv' i ma) :=
  PS.imp (ps_expr (pe_bm PySem.F.plainAttrs_list PySem.F.slot_list_extend PySem.F.type_list_extend mt_extend hv (pa_cons ha pa_nil hs) hbase hfew hline hs hplain) hsw) fun D σ H ⟨ρ, F, T, fr, rel, h⟩ => by
    unfold M.yv' at h
    split at h
    . rename_i os0 e0
      obtain ⟨fe, fw, re, rw, ff⟩ := id rel
      obtain ⟨v, f1, f2, f3, h1, _, h3, _⟩ := re.get e0
      cases h3 with
      | @lst p vs0 _ fp0 r0 =>
        obtain ⟨vs1, f21, hH, _, _⟩ := rel.slotW e0 h1
        refine ⟨.ref p, h1, .inl ⟨rfl, vs1, SqL.of hH⟩, dG' rel h fun d ρ1 u H1 F1 T1 e1 z1 r1 h2 => ?_⟩
        split at h2
        . rename_i os ds e2
          split at h2
          . rename_i hl
            obtain ⟨vs, f2', hH2, r2, back⟩ := r1.slotW e2 h1
            obtain ⟨b, ws, rfl, hb, zb⟩ := z1.lst_inv
            obtain ⟨fp, f, _⟩ := r1.fp
            have r3 : RpA X.K F1 T1 (vs ++ ws) (os ++ ds.map .fz) (f2' ++ []) := r2.app (RpA.of_fz zb)
            rw [List.append_nil] at r3
            refine ⟨p, b, vs, ws, rfl, rfl, hH2, f.low _ _ hb, by rw [r2.length, zb.length, bF']; exact hl, ?_⟩
            exact h2 σ _ F1 T1 .refl (back _ _ f2' fr r3 .refl)
          . exact h2.elim
        . exact h2.elim
    . exact h.elim
end
end S
namespace S
open PySem PySem.Spec PyProof.Rows L2
variable [Wd]
def IsX (H : Hp) (a : Addr) : Prop := (∃ kvs, H a = some (dcL a kvs)) \/ ∃ xs, H a = some (dcN a xs)
inductive DSd (K : PySem.W.Frag) (H : Hp) (a : Addr) (y v : V) (Q : V -> Hp -> Prop) : Prop
  | old {xs : List (NestedKey × Addr × V)} {b : Addr} {k : NestedKey} {u : V} : H a = some (dcN a xs) -> yr' K H xs -> y = .ref b -> NkV K H (.ref b) k -> k.depth <= 8 -> valV (xsV xs) k = some u -> xs.length <= sizeLine -> Q u H -> DSd K H a y v Q
  | new {xs : List (NestedKey × Addr × V)} {b : Addr} {k : NestedKey} : H a = some (dcN a xs) -> yr' K H xs -> y = .ref b -> NkV K H (.ref b) k -> k.depth <= 8 -> valV (xsV xs) k = none -> (jV' xs k b v).length <= sizeLine -> Q v (upd H a (dcN a (jV' xs k b v))) -> DSd K H a y v Q
  | fst {b : Addr} {k : NestedKey} : H a = some (dcL a []) -> y = .ref b -> NkV K H (.ref b) k -> k.depth <= 8 -> Q v (upd H a (dcN a [(k, b, v)])) -> DSd K H a y v Q
section
variable {X : Cx} {pins : List (Addr × Obj)} {σ : St} {H : Hp} {s : Shared} {a : Addr} {y : V} {u : Value} {A : Around} {E : Value -> Shared -> Prop}
theorem Aj' (hw : X.prog = Wd.P /\ X.w = Wd.w) (I : Inv X pins σ H s) (d : IsX H a) :
    s.TypeIs (.ref a) "dict" /\ (∀ b, Value.ref a = .ref b -> ∃ ob, s.heap.get? b = some ob /\ ob.dict = none) := by
  rcases d with ⟨kvs, e⟩ | ⟨xs, e⟩
  . obtain ⟨_, _, vs, _, dd⟩ := ig' hw I (.inl e)
    refine ⟨dd.typeIs, fun b q => ?_⟩
    cases q
    obtain ⟨ob, _, _, h1, h2, _⟩ := dd
    exact ⟨ob, h1, h2.2.1⟩
  . obtain ⟨⟨h1, _, _, ys, h4, o, es, ep, g1, g2, g3, g4⟩, _⟩ := (show ObjOk X.prog X.w H s.heap a (dcN a xs) from I.hok a _ e)
    refine ⟨⟨o, g1, g2.1⟩, fun b q => ?_⟩
    cases q
    exact ⟨o, g1, g2.2.1⟩
theorem xO' {v : V} {r : Value} {N : V -> Hp -> Prop} {Q : Value -> Shared -> Prop} (hw : X.prog = Wd.P /\ X.w = Wd.w) (hu : A.units + 64 < cLine) (I : Inv X pins σ H s) (g : DSd X.K H a y v N) (ry : RelV y u) (rv : RelV v r)
    (h : ∀ v' w' H' s', Inv X pins σ H' s' -> RelV v' w' -> N v' H' -> Q w' s') : wpAny (model X.prog X.w) A (call (.builtin "dict.setdefault") [.ref a, u, r]) Q E s := by
  cases g with
  | @old xs b k u0 e ok ey hk hdp hv hz0 hq =>
    subst ey
    cases (show u = Value.ref b from ry)
    obtain ⟨hd, z, nd, ys, rel, dd⟩ := jg' hw I (.inl e) ok
    have hz : ys.length <= sizeLine := by rw [<- Paired.length rel]; exact z
    obtain ⟨w', q1, q2⟩ := RelO.some_of (v := u0) (o := (atKey ys k).map (·.2)) (by rw [<- hv]; exact pQ' rel k)
    obtain ⟨p, hp, hp2⟩ := Option.map_eq_some_iff.mp q1
    refine call_setdefault_heap (hsz := hz) (kx' hu) ⟨hk.is I rfl, hdp⟩ hd dd (fun p' hp' => ?_) fun hn => ?_
    . rw [hp] at hp'
      cases hp'
      rw [hp2]
      exact h u0 w' H _ (I.tok _) q2 hq
    . rw [hp] at hn; cases hn
  | @new xs b k e ok ey hk hdp hv hz0 hq =>
    subst ey
    cases (show u = Value.ref b from ry)
    obtain ⟨hd, z, nd, ys, rel, dd⟩ := jg' hw I (.inl e) ok
    have hz : ys.length <= sizeLine := by rw [<- Paired.length rel]; exact z
    have hat := pQ' rel k
    rw [hv] at hat
    refine call_setdefault_heap (hsz := hz) (kx' hu) ⟨hk.is I rfl, hdp⟩ hd dd (fun p' hp' => ?_) fun hn h' dd' hs => ?_
    . rw [hp'] at hat
      exact (show False from hat).elim
    . refine h v r _ _ (d_write I (by rw [e]; exact True.intro) hs (let ⟨q, _, _, hq, _⟩ := dd'; ⟨q, hq⟩) ?_) rv hq
      rw [hw.1, hw.2] at dd'
      rw [hw.2]
      exact if' hz0 hd (g9' rel k b rv) dd'
  | @fst b k e ey hk hdp hq =>
    subst ey
    cases (show u = Value.ref b from ry)
    obtain ⟨hd, dd⟩ := eB' hw I (.inl e)
    refine call_setdefault_heap (hsz := Nat.zero_le _) (kx' hu) ⟨hk.is I rfl, hdp⟩ hd dd (fun p' hp' => by cases hp') fun hn h' dd' hs => ?_
    refine h v r _ _ (d_write I (by rw [e]; exact True.intro) hs (let ⟨q, _, _, hq, _⟩ := dd'; ⟨q, hq⟩) ?_) rv hq
    rw [hw.1, hw.2] at dd'
    rw [hw.2]
    exact if' (by rw [sizeLine_eq]; show 1 <= 16777216; decide) hd (g9' .nil k b rv) dd'
def wz' (K : PySem.W.Frag) (td ty tx : TE) : TE := fun σ H Q => td σ H fun x H1 => ∃ a, x = .ref a /\ IsX H1 a /\ ty σ H1 fun y H2 => tx σ H2 fun z H3 => DSd K H3 a y z Q
theorem rW' {o e f : Expr} {td ty tx : TE} {apos cpos : Pos} (hw : X.prog = Wd.P /\ X.w = Wd.w) (hu : X.A.units + 64 < cLine) (ho : PE X o td) (he : PE X e ty) (hf : PE X f tx) (m : M2 X o "setdefault" apos e f cpos) : PE X (.Call (.Attribute o "setdefault" apos) [e, f] [] cpos) (wz' X.K td ty tx) := by
  refine ⟨fun pins s σ H Q I h => ?_⟩
  refine wpAny_Call_method m.base m.few m.line PySem.F.plainAttrs_dict PySem.F.slot_dict_setdefault PySem.F.type_dict_setdefault (thn (ho.run pins s σ H _ I h) fun u s1 ⟨x, H1, I1, rx, a, ex, d, q1⟩ => ?_)
  subst ex
  obtain rfl : u = Value.ref a := rx
  obtain ⟨t1, t2⟩ := Aj' hw I1 d
  refine ⟨t1, t2, ?_⟩
  rw [m.trees]
  refine Calls.callWith_builtin rfl (Calls.evalArgs_plain (Calls.spliced_cons (thn (he.run pins s1 σ H1 _ I1 q1) fun iv s2 ⟨y, H2, I2, ry, q2⟩ =>
    Calls.spliced_cons (thn (hf.run pins s2 σ H2 _ I2 q2) fun fv s3 ⟨z, H3, I3, rz, q3⟩ => Calls.spliced_nil ?_))))
  exact xO' hw hu I3 q3 ry rz fun v' w' H' s4 I4 rw' q4 => ⟨v', H', I4, rw', q4⟩
end
section
variable [Hot] {X : Cx} {W : WX} {o : Expr}
theorem rt' {n : Nat} {e f : Expr} {me mf : M.ME} {apos cpos : Pos} (hw : X.prog = Wd.P /\ X.w = Wd.w) (hu : X.A.units + 64 < cLine) (hv : PE X o (tVar n)) (he : SE X W e me) (hf : SE X W f mf) (m : M2 X o "setdefault" apos e f cpos) :
    SE X W (.Call (.Attribute o "setdefault" apos) [e, f] [] cpos) (M.gd' n me mf) := PE.imp (rW' hw hu hv he hf m) fun σ H Q ⟨ρ, F, T, fr, rel, h⟩ => by
  unfold M.gd' at h
  split at h
  . rename_i ks0 os0 e0
    obtain ⟨fe, fw, re, rw, f⟩ := id rel
    obtain ⟨x, f1, f2, f3, g1, eq, g3, _⟩ := re.get e0
    have hx : ∃ p, x = .ref p /\ IsX H p := by
      cases g3 with
      | @dcl p kvs ks os fp0 nn ra => exact ⟨p, rfl, .inl ⟨kvs, (f.at_ (p, dcL p kvs) (by rw [eq]; simp)).1⟩⟩
      | @dcn p xs ks os fp0 nn zx ra => exact ⟨p, rfl, .inr ⟨xs, (f.at_ (p, dcN p xs) (by rw [eq]; simp)).1⟩⟩
    obtain ⟨p, rfl, hX⟩ := hx
    refine ⟨_, g1, p, rfl, hX, av' rel h fun dk ρ1 y H1 F1 T1 e1 zk r1 h1 => av' r1 h1 fun d ρ2 z H2 F2 T2 e2 zd r2 h2 => ?_⟩
    have zk := zk.mono e2
    split at h2
    . rename_i o1 e3
      split at h2
      . rename_i pr epr
        obtain ⟨f2', fz, q1, q2, q3⟩ := r2.slotX e3 g1 (M.d3' (fun z => by rw [z] at epr; exact nomatch (show (none : Option (M.D × M.O)) = some pr from epr)) (fun z => by rw [z] at epr; exact nomatch (show (none : Option (M.D × M.O)) = some pr from epr)))
        unfold M.hE' at epr
        split at epr
        . rename_i ks os
          split at epr
          . rename_i hc
            obtain ⟨hk, hs, hl⟩ := hc
            obtain ⟨k1, k2, k3⟩ := fy' hk
            obtain ⟨b, rfl⟩ := i0' zk k1 hs
            obtain ⟨n1, n2⟩ := i5' q2.low zk k1 k2
            have zv' : RpA X.K F2 T2 [z] [.fz d] [] := .cons (fp := []) (fq := []) (.fz zd) .nil
            cases q1 with
            | @dcl _ kvs _ _ f0 nn ra =>
              have hH : H2 p = some (dcL p kvs) := (q2.at_ (p, dcL p kvs) (by simp)).1
              have e5 : ks = [] := by
                cases ks with
                | nil => rfl
                | cons d ks => have q1 := k3 d (by simp); rw [nn.s d (by simp), hs] at q1; cases q1
              subst e5
              have e6 : kvs = [] := by have := congrArg List.length nn.e; simpa using this
              subst e6
              cases ra
              have e7 : pr = (d, .dcx ([] ++ [dk]) ([] ++ [.fz d])) := (Option.some.inj (show some (d, M.O.dcx ([] ++ [dk]) ([] ++ [.fz d])) = some pr from epr)).symm
              subst e7
              refine .fst hH rfl n1 n2 (h2 z _ F2 T2 (e1.trans e2) zd (q3 p _ _ (dcN p [(nk dk, b, z)]) _ [] fr rfl rfl ?_ (.app .refl .refl)))
              exact .dcn (xs := [(nk dk, b, z)]) ⟨rfl, fun d hd => by rw [List.mem_singleton.mp hd]; exact ⟨k1, k2, hs⟩⟩ (.cons zk .nil) zv'
            | @dcn _ xs _ _ f0 nn zx ra =>
              have hH : H2 p = some (dcN p xs) := (q2.at_ (p, dcN p xs) (by simp)).1
              have hxl : xs.length = ks.length := by have := congrArg List.length nn.e; simpa using this
              have hvp := d1' (fL' (dk := dk) nn k1)
              have ev : (xsV xs).map (·.2) = xs.map (·.2.2) := by rw [xsV, List.map_map]; rfl
              rw [ev] at hvp
              obtain ⟨a1, a2⟩ := ra.dget (ks := ks) (dk := dk)
              split at epr
              . rename_i d' ed
                cases epr
                obtain ⟨u, g4, g5⟩ := a2 d' ed
                rw [g4] at hvp
                refine .old hH (pP' q2.low nn zx) rfl n1 n2 hvp (by rw [bF']; show xs.length <= M.do'; omega) ?_
                rw [ev' e3] at h2
                exact h2 u H2 F2 T2 (e1.trans e2) g5 r2
              . cases epr
              . rename_i ed
                cases epr
                have hnone : valV (xsV xs) (nk dk) = none := by
                  rw [hvp]
                  rw [ed] at a1
                  cases q : M.dget ks (xs.map (·.2.2)) dk with
                  | none => rfl
                  | some _ => rw [q] at a1; cases a1
                have gx : jV' xs (nk dk) b z = xs ++ [(nk dk, b, z)] := by
                  unfold jV'
                  rw [if_neg]
                  intro hany
                  have e8 : (valV (xsV xs) (nk dk)).isSome = true := by
                    rw [<- valV_any, xsV, List.any_map]
                    exact hany
                  rw [hnone] at e8
                  cases e8
                refine .new hH (pP' q2.low nn zx) rfl n1 n2 hnone (by rw [gx, bF', List.length_append]; show xs.length + 1 <= M.do'; omega) ?_
                rw [gx]
                refine h2 z _ F2 T2 (e1.trans e2) zd (q3 p _ _ (dcN p (xs ++ [(nk dk, b, z)])) _ f0 fr rfl rfl ?_ (.app .refl .refl))
                have r5 := ra.app zv'
                rw [List.append_nil] at r5
                refine .dcn ⟨by simp [nn.e], fun d hd => ?_⟩ ?_ (by simpa using r5)
                . rcases List.mem_append.mp hd with hd | hd
                  . exact nn.s d hd
                  . rw [List.mem_singleton.mp hd]; exact ⟨k1, k2, hs⟩
                . rw [List.map_append]
                  exact zx.append (.cons zk .nil)
          . cases epr
        . cases epr
      . exact h2.elim
    . exact h2.elim
  . exact h.elim
end
end S
namespace PySem.W
open Spec PyProof PyProof.Rows
section
variable {prog : Program} {w : World} {A A₀ : Around} {E : Value -> Shared -> Prop} {s : Shared} {K : Frag} {x y C C' L f : Addr} {h₀ : Heap} {m : Str -> Option Value} {ox oy : Obj} {od od' : Option Obj} {b tb : Value}
theorem cmp_Kr {Q : Value -> Shared -> Prop} (hu : A.units < cLine) (F : Fr h₀ L s.heap m) (X₀ : K.In h₀) (I : InstAt s.heap x ox C od) (J : InstAt s.heap y oy C' od') (hne : C ≠ C') (hsub : subIn K (.ref C') (.ref C) = some true)
    (hs : findIn K (.ref C') "__eq__" = some (some (.ref f))) (hf : isFn K (.ref f) = true)
    (h : wpAny (model prog w) A (call (.ref f) [.ref y, .ref x]) (CmpBack Q) E s) : wpAny (model prog w) A (richCompare .Eq (.ref x) (.ref y)) Q E s := by
  have hK : K.In s.heap := X₀.keeps F.keep
  have asked : wpAny (model prog w) A (tryCompare (.ref y) (cmpInfo .Eq).2.2 (.ref x)) (fun r s' => ∃ v, r = some v /\ Q v s') E s := by
    unfold tryCompare
    refine wpAny_bind (ifBound_K hK J hs hf (wpAny_mono h ?_ fun _ _ z => z))
    intro v s' hv
    cases v with
    | notImplemented => exact hv.elim
    | _ => exact wpAny_pure ⟨_, rfl, hv⟩
  unfold richCompare
  rw [oneThing_ref]
  refine wpAny_holding ?_
  refine wpAny_bind (wpAny_cRoomFor hu ?_)
  refine wpAny_bind (I.type.here ?_)
  refine wpAny_bind (J.type.here ?_)
  rw [if_pos (by simpa using hne)]
  refine wpAny_bind ((looks_subIn hK hsub).here ?_)
  simp only [↓reduceIte]
  refine wpAny_bind (wpAny_mono asked ?_ fun _ _ z => z)
  rintro _ s' ⟨v, rfl, hq⟩
  exact wpAny_bind (wpAny_rule (wpAny_pure hq))
end
end PySem.W
namespace S
open PySem PySem.Spec PyProof.Rows L2
variable [Wd] [Hot]
local macro_rules | `(tactic| walk_at "parts") => `(tactic| (constructor; (intro e h; simp only [List.mem_append, List.mem_cons, List.not_mem_nil] at *; grind); (intro x; simp only [keys, List.map_append, List.map_cons, List.map_nil, List.count_append, List.count_cons, List.count_nil] at *; omega)))
def BV' (K : PySem.W.Frag) (ps : List (String × String)) (g : Addr) : Prop := ∀ p ∈ ps, PySem.W.findIn K (.ref (He.ga K (Str.ofString p.2))) "__eq__" = some (some (.ref g)) /\ PySem.W.isFn K (.ref g) = true ∧
  He.ga K (Str.ofString p.1) ≠ He.ga K (Str.ofString p.2) /\ PySem.W.subIn K (.ref (He.ga K (Str.ofString p.2))) (.ref (He.ga K (Str.ofString p.1))) = some true
theorem uu' {K : PySem.W.Frag} {ps : List (String × String)} {g : Addr} (h : Az' K ps g = true) : BV' K ps g := fun p hp => by
  have z := List.all_eq_true.mp h p hp
  rw [Bool.and_eq_true, Bool.and_eq_true, Bool.and_eq_true, decide_eq_true_eq, decide_eq_true_eq, decide_eq_true_eq] at z
  exact z
def zM' (K : PySem.W.Frag) (ps : List (String × String)) (mf : M.MF) : R2 := fun x y H Q => ∃ (C C' : String) (a b dx dy : Addr) (fs gs : List (Str × V)), (C, C') ∈ ps /\ x = .ref a /\ y = .ref b ∧
  H a = some (.ins (He.ga K (Str.ofString C)) dx fs) /\ H b = some (.ins (He.ga K (Str.ofString C')) dy gs) /\ spM K mf [y, x] H (fun v H' => ∃ r, v = .bl r /\ Q (.bl r) H') E0
theorem xc' {X : Cx} {k : Nat} {C0 : Addr} {args : List Str} {ps : List (String × String)} {mf : M.MF} (F : OgM X.prog X.w X.K X.mg X.base k C0 "__eq__" args (spM X.K mf)) (hr : RoomG k X.A) (hp : BV' X.K ps (He.ma X.K C0 "__eq__")) :
    OpR X (compareOp .Eq) (zM' X.K ps mf) := by
  obtain ⟨fd, F, hb⟩ := F
  intro pins s σ H x y v u Q I rx ry h
  obtain ⟨C, C', a, b, dx, dy, fs, gs, hC, rfl, rfl, ha, hb', hs⟩ := h
  cases (show v = Value.ref a from rx)
  cases (show u = Value.ref b from ry)
  obtain ⟨q1, q2, q3, q4⟩ := hp _ hC
  obtain ⟨mA, J, _⟩ := ins_get I.hok ha
  obtain ⟨mB, J', _⟩ := ins_get I.hok hb'
  obtain ⟨od, J, _⟩ := J.look
  obtain ⟨od', J', _⟩ := J'.look
  obtain ⟨m, hF⟩ := I.fr
  show wpAny (model X.prog X.w) X.A (richCompare .Eq (.ref a) (.ref b)) (EP X pins σ Q) X.xe s
  refine PySem.W.cmp_Kr hr.r.units0 hF I.ok.mod.kin J J' q3 q4 q1 q2 ?_
  refine wpAny_mono (fW' (E := fun _ => E0) (us := [.ref b, .ref a]) (vs := [.ref b, .ref a]) F hr hb (fun _ _ _ e s' _ c => ?_) I (.cons rfl (.cons rfl .nil)) hs) (fun r s' q => ?_) fun _ _ z => z
  . obtain ⟨_, _, _, _, _, _, _, _, _, _, _, _, z⟩ := c
    exact z.elim
  . obtain ⟨z, H', I', rz, t, ez, q⟩ := q
    subst ez
    cases rz
    exact ⟨.bl t, H', I', rfl, q⟩
section
variable {K : PySem.W.Frag} {σ : St} {H : Hp} {Q : VK} {W : WX}
theorem sK' {ps : List (String × String)} {mf : M.MF} {ma mb : M.ME} (h : qE K W (M.pn' ps mf ma mb) σ H Q) : tOp (zM' K ps mf) (qE K W ma) (qE K W mb) σ H Q := by
  obtain ⟨ρ, F, T, fr, rel, h⟩ := h
  refine av' rel h fun dx ρ1 v H1 F1 T1 e1 z1 r1 h1 => ?_
  refine av' r1 h1 fun dy ρ2 u H2 F2 T2 e2 z2 r2 h2 => ?_
  split at h2
  . rename_i hi
    obtain ⟨n, m, C, C', fs, gs, rfl, rfl, ew, ew', hC⟩ := ox' hi
    obtain ⟨a, d1, fv, os, f2, hT, rfl, hH, _⟩ := r2.wins ew
    obtain ⟨b, d2, fv', os', f2', hT', rfl, hH', _⟩ := r2.wins ew'
    have z1 := z1.mono e2
    cases z1 with
    | obj t =>
      rw [hT] at t
      cases t
      cases z2 with
      | obj t =>
        rw [hT'] at t
        cases t
        refine ⟨C, C', a, b, d1, d2, _, _, hC, rfl, rfl, hH, hH', ?_⟩
        obtain ⟨fe, fw, re, rw, f⟩ := r2
        refine ⟨[.obj m, .obj n], ρ2.w, F2, T2, fe ++ fr, .cons (.obj hT') (.cons (.obj hT) .nil), ⟨[], fw, xk', rw, f.part (by walk_at "parts")⟩, ?_⟩
        cases em : mf [.obj m, .obj n] ρ2.w with
        | bad => rw [em] at h2; exact h2.elim
        | exc x w' => rw [em] at h2; exact h2.elim
        | ok o w' =>
          rw [em] at h2
          intro w H' F' T' fp e z r
          cases z with
          | fz z =>
            rename_i d
            cases d <;> try exact h2.elim
            cases z
            exact ⟨_, rfl, h2 _ H' F' T' (e1.trans (e2.trans e)) (.bl _) (Rel.reenv (fp := []) re e r)⟩
          | lst _ => exact h2.elim
          | tup _ => exact h2.elim
          | dct _ _ => exact h2.elim
          | dcl _ _ => exact h2.elim
          | dcn _ _ _ => exact h2.elim
  . exact h2.elim
end
section
variable {X : Cx} {W : WX} {pos p : Pos} {a b e : Expr} {ma mb : M.ME} {k : Nat} {args : List Str} {mf : M.MF}
theorem wL' {C : String} {ps : List (String × String)} (F : OgM X.prog X.w X.K X.mg X.base k (He.ga X.K C) "__eq__" args (spM X.K mf)) (hr : RoomG k X.A) (hp : BV' X.K ps (He.ma X.K (He.ga X.K C) "__eq__")) (ha : SE X W a ma) (hb : SE X W b mb) :
    SE X W (.Compare a [.Eq] [b] pos) (M.pn' ps mf ma mb) := PE.imp (pe_cmpR (xc' F hr hp) ha hb (nomark _)) fun _ _ _ h => sK' h
end
end S
namespace S
open PySem PySem.Spec PyProof.Rows L2
local macro_rules | `(tactic| walk_at "parts") => `(tactic| (constructor; (intro e h; simp only [List.mem_append, List.mem_cons, List.not_mem_nil] at *; grind); (intro x; simp only [keys, List.map_append, List.map_cons, List.map_nil, List.count_append, List.count_cons, List.count_nil] at *; omega)))
section
variable [Wd]
variable {K : PySem.W.Frag} {F H G : Hp} {T T' : List Addr}
end
section
variable [Wd]
variable {K : PySem.W.Frag} {F H G : Hp} {T T' : List Addr}
def NoD (fp : Fp) : Prop := ∀ e ∈ fp, (∀ kvs, e.2 ≠ .dK kvs) /\ (∀ φ, e.2 ≠ .ext φ) /\ ∀ od u, e.2 ≠ .frz od u
theorem NoD.app {a b : Fp} (h : NoD a) (g : NoD b) : NoD (a ++ b) := fun e he => (List.mem_append.mp he).elim (h e) (g e)
structure Split (C A B : Fp) : Prop where
  mem : ∀ e, e ∈ C ↔ e ∈ A \/ e ∈ B
  cnt : ∀ x, (keys C).count x = (keys A).count x + (keys B).count x
end
section
variable [Wd] [Hot] {X : Cx} {W : WX} {a b e : Expr} {ma mb me : M.ME} {p p2 pos pos2 : Pos}
variable {es : List Expr} {mo : M.MO} {moa : M.MOA}
end
section
variable [Wd] {X : Cx} {W : WX} {a b : Expr} {ma mb : M.ME} {p p2 pos pos2 : Pos}
end
end S
namespace PySem.W
open PySem PySem.Spec PySem.Calls PyProof PyProof.Rows
section
variable {x t : Value} {P : Heap -> Prop}
end
end PySem.W
namespace L2
open PySem PySem.Spec PyProof.Rows
end L2
namespace S
open PySem PySem.Spec PyProof.Rows L2
variable [Wd] {X : Cx} {W : WX} {pos p : Pos} {a b : Expr}
end S
namespace S
open PySem PySem.Spec PyProof.Rows L2
variable [Wd] [Hot]
local macro_rules | `(tactic| walk_at "parts") => `(tactic| (constructor; (intro e h; simp only [List.mem_append, List.mem_cons, List.not_mem_nil] at *; grind); (intro x; simp only [keys, List.map_append, List.map_cons, List.map_nil, List.count_append, List.count_cons, List.count_nil] at *; omega)))
section
variable {K : PySem.W.Frag} {F H : Hp} {T : List Addr} {fp fr : Fp} {ρ : M.PSt} {σ : St}
theorem RpA.named {f : String} {o : M.O} : ∀ {fv : List (String × V)} {os : List M.O} {fp : Fp}, RpA K F T (fv.map (·.2)) os fp -> ((fv.map (·.1)).zip os).lookup f = some o →
    ∃ v f1 f2 f3, fv.lookup f = some v /\ fp = f1 ++ (f2 ++ f3) /\ Rp K F T v o f2 /\ ∀ o' f2', Rp K F T v o' f2' -> ∃ os', RpA K F T (fv.map (·.2)) os' (f1 ++ (f2' ++ f3)) /\ M.rP' f o' ((fv.map (·.1)).zip os) = (fv.map (·.1)).zip os'
  | [], _, _, r, h => by cases r; cases h
  | (g, v) :: fv, _, _, r, h => by
    cases r with
    | @cons _ _ o1 os fa fb r0 r =>
      by_cases e : f = g
      . subst e
        have h : some o1 = some o := by rw [<- h, List.map_cons, List.zip_cons_cons, List.lookup_cons_self]
        cases h
        refine ⟨v, [], fa, fb, List.lookup_cons_self, rfl, r0, fun o' f2' q => ⟨o' :: os, (RpA.cons q r : RpA K F T _ _ (f2' ++ fb)), ?_⟩⟩
        rw [List.map_cons, List.zip_cons_cons, List.zip_cons_cons]
        exact if_pos rfl
      . have h1 : (f == g) = false := by simpa using e
        have h : ((fv.map (·.1)).zip os).lookup f = some o := by
          rw [<- h, List.map_cons, List.zip_cons_cons]
          simp only [List.lookup, h1]
        obtain ⟨v', f1, f2, f3, e1, e2, e3, e4⟩ := RpA.named r h
        refine ⟨v', fa ++ f1, f2, f3, by simp only [List.lookup, h1]; exact e1, by rw [e2, List.append_assoc], e3, fun o' f2' q => ?_⟩
        obtain ⟨os', q1, q2⟩ := e4 o' f2' q
        refine ⟨o1 :: os', by rw [List.append_assoc]; exact .cons r0 q1, ?_⟩
        rw [List.map_cons, List.zip_cons_cons, List.zip_cons_cons]
        show (if g = f then _ else _) = _
        rw [if_neg (fun z => e z.symm), q2]
end
section
variable {X : Cx} {W : WX} {pos apos cpos tpos p2 : Pos} {a b e k value : Expr} {ma mk mv : M.ME}
end
end S
namespace S
open PySem PySem.Spec PyProof.Rows L2
variable [Wd] [Hot]
section
variable {K : PySem.W.Frag}
end
end S
namespace S
open PySem PySem.Spec PyProof.Rows L2
variable [Wd] [Hot]
section
variable {X : Cx} {W : WX} {K : PySem.W.Frag} {a b : Expr} {ma mb : M.ME} {pos p apos : Pos} {x : Str}
end
end S
namespace S
open PySem PySem.Spec PyProof.Rows L2
variable [Wd] [Hot]
section
variable {X : Cx} {tg e : Expr} {td : TE}
end
section
variable {K : PySem.W.Frag} {F : Hp} {T : List Addr}
end
section
variable {X : Cx} {W : WX} {tg a : Expr} {ma : M.ME}
end
end S
namespace S
open PySem PySem.Spec PyProof.Rows L2
variable [Wd]
section
variable {K : PySem.W.Frag}
end
variable [Hot]
section
variable {X : Cx} {W : WX} {pos cpos apos spos ipos epos : Pos}
end
end S
namespace S
open PySem PySem.Spec PyProof.Rows L2
variable [Wd]
inductive CodeMade (Ck : Addr -> Prop) (H : Hp) (P : Addr) (q : Str) (c : Addr) : Hp -> Prop
  | told : Ck c -> CodeMade Ck H P q c H
  | fresh {ps ps' : Array Value} : H c = none -> H P = some (.tbl ps) -> TriplesOk ps'.toList -> (∀ (pos : Pos) (cv : Value), codeAmong pos ps'.toList = some cv -> codeAmong pos ps.toList = some cv \/ cv = .ref c) →
      CodeMade Ck H P q c (upd (upd H P (.tbl ps')) c (LamX.CodeO c q))
section
variable {X : Cx} {pins : List (Addr × Obj)} {σ : L2.St} {H : Hp} {s : Shared}
end
end S
namespace S
open PySem PySem.Spec PyProof.Rows L2
end S
namespace S
open PySem PySem.Spec PyProof.Rows L2
variable [Wd]
end S
namespace S
open PySem PySem.Spec PyProof.Rows L2
section
variable {P : Program} {w : World} {K : PySem.W.Frag} {mg mb : Str -> Option Value} {CX : CXT} {k : Nat} {fa a : Addr} {fd : FuncData} {x : Str} {sp : Sp} {s : Shared} {vs : List Value} {n0 : Nat} {H : Hp} {cs : List (Addr × Addr)}
end
end S
namespace S
open PySem PySem.Spec PyProof.Rows L2
variable [Wd] [Hot]
section
variable {X : Cx} {W : WX} {pos apos tpos p2 : Pos} {a value : Expr} {ma mv : M.ME} {t : Str} {j2 : Nat} {s : M.Tx}
end
end S
namespace S
open PySem PySem.Spec PyProof.Rows PySem.W
section
variable {prog : Program} {w : World} {A : Around} {E : Value -> Shared -> Prop} {s : Shared}
end
section
open L2
variable {X : Cx}
end
section
open L2
variable {X : Cx} {e : Expr} {te : TE} {p apos cpos pos : Pos} {sn : Str}
end
section
open L2
variable [Wd] [Hot]
end
section
open L2
variable [Wd] [Hot]
end
section
open L2
variable [Wd] [Hot] {X : Cx} {W : WX} {a : Expr} {ma : M.ME} {p apos iapos cpos pos : Pos} {sn : Str}
end
end S
namespace S
open PySem PySem.Spec PyProof.Rows L2
local macro_rules | `(tactic| walk_at "parts") => `(tactic| (constructor; (intro e h; simp only [List.mem_append, List.mem_cons, List.not_mem_nil] at *; grind); (intro x; simp only [keys, List.map_append, List.map_cons, List.map_nil, List.count_append, List.count_cons, List.count_nil] at *; omega)))
section
variable [Wd]
variable {K : PySem.W.Frag} {F H G : Hp} {T T' : List Addr}
def Drp (kl kd : Bool) (F G : Hp) : Prop := ∀ a o, F a = some o -> G a = some o \/ (kl = true /\ ∃ vs, o = .lst vs) \/ (kd = true /\ ∃ od kvs, o = .frz od (.dK kvs))
theorem Drp.keep {kl kd : Bool} (s : Drp kl kd F G) {a : Addr} {o : HO} (h : F a = some o) (n1 : ∀ vs, o ≠ .lst vs) (n2 : ∀ od kvs, o ≠ .frz od (.dK kvs)) : G a = some o := by
  rcases s a o h with h | ⟨_, vs, e⟩ | ⟨_, od, kvs, e⟩
  . exact h
  . exact absurd e (n1 vs)
  . exact absurd e (n2 od kvs)
theorem Drp.seqT {kl kd : Bool} (s : Drp kl kd F G) {a : Addr} {xs : List V} (h : SqT K F a xs) : SqT K G a xs := by
  rcases h with (h | ⟨o, h⟩) | h
  . exact .inl (.inl (s.keep h (fun _ z => nomatch z) fun _ _ z => nomatch z))
  . exact .inl (.inr ⟨o, s.keep h (fun _ z => nomatch z) fun _ _ z => nomatch z⟩)
  . exact .inr h
theorem Drp.lst {kd : Bool} (s : Drp false kd F G) {a : Addr} {vs : List V} (h : F a = some (.lst vs)) : G a = some (.lst vs) := by
  rcases s a _ h with h | ⟨z, _⟩ | ⟨_, od, kvs, e⟩
  . exact h
  . cases z
  . cases e
theorem Drp.seqL {kd : Bool} (s : Drp false kd F G) {a : Addr} {xs : List V} (h : SqL K F a xs) : SqL K G a xs := by
  rcases h with (h | ⟨o, h⟩) | h
  . exact .inl (.inl (s.lst h))
  . exact .inl (.inr ⟨o, s.keep h (fun _ z => nomatch z) fun _ _ z => nomatch z⟩)
  . exact .inr h
theorem Drp.dict {kl : Bool} (s : Drp kl false F G) {a : Addr} {kvs : List (Key × V)} (h : Rd F a (.dK kvs)) : Rd G a (.dK kvs) := by
  rcases h with h | ⟨o, h⟩
  . exact .inl (s.keep h (fun _ z => nomatch z) fun _ _ z => nomatch z)
  . rcases s a _ h with h | ⟨_, _, e⟩ | ⟨z, _⟩
    . exact .inr ⟨o, h⟩
    . cases e
    . cases z
theorem Drp.ext {kl kd : Bool} (s : Drp kl kd F G) {a : Addr} {φ : Heap -> Prop} (h : Rd F a (.ext φ)) : Rd G a (.ext φ) := by
  rcases h with h | ⟨o, h⟩
  . exact .inl (s.keep h (fun _ z => nomatch z) fun _ _ z => nomatch z)
  . exact .inr ⟨o, s.keep h (fun _ z => nomatch z) fun _ _ z => nomatch z⟩
theorem DW' {a b : Bool} (h : (a && b) = true) : a = true /\ b = true := Bool.and_eq_true_iff.mp h
def Lnt (kl kd : Bool) (o : HO) : Prop := (kl = true /\ ∃ vs, o = .lst vs) \/ (kd = true /\ ∃ kvs, o = .dK kvs)
def ET' (G : Hp) (e : Addr × HO) : Prop := G e.1 = some e.2 \/ ∃ od kvs, e.2 = .dK kvs /\ G e.1 = some (.frz od e.2)
theorem RpA.allFz {vs : List V} {os : List M.O} {fp : Fp} (r : RpA K F T vs os fp) (h : os.all M.xE' = true) : fp = [] /\ FzA K F T vs (M.frzs os) := by
  induction vs generalizing os fp with
  | nil => cases r; exact ⟨rfl, .nil⟩
  | cons v vs ih =>
    cases r with
    | @cons _ _ o os fa fb q r =>
      obtain ⟨h1, h2⟩ := DW' (show (M.xE' o && os.all M.xE') = true from h)
      obtain ⟨rfl, z⟩ := ih r h2
      cases o <;> try (cases h1; done)
      cases q with
      | fz q => exact ⟨rfl, .cons q z⟩
theorem Rp.lendO {kl kd : Bool} {v : V} {o : M.O} {fp : Fp} (q : Rp K F T v o fp) (h : M.lendO kl kd o = true) : (∀ e ∈ fp, Lnt kl kd e.2) /\ fp.length = M.BN' o /\ ∀ G, Same F G -> (∀ e ∈ fp, ET' G e) -> Fz K G T v (M.frz o) := by
  cases q with
  | fz z => exact ⟨nofun, rfl, fun G s _ => z.mono (.of s)⟩
  | lst r =>
    obtain ⟨h1, h2⟩ := DW' (show (kl && _) = true from h)
    obtain ⟨rfl, z⟩ := r.allFz h2
    refine ⟨fun e he => ?_, rfl, fun G s g => ?_⟩
    . cases List.mem_singleton.mp he; exact .inl ⟨h1, _, rfl⟩
    . rcases g _ List.mem_cons_self with g | ⟨_, _, g, _⟩
      . exact .lst g (z.mono (.of s))
      . cases g
  | tup r => cases h
  | dct k r =>
    obtain ⟨h1, h2⟩ := DW' (show (kd && _) = true from h)
    obtain ⟨rfl, z⟩ := r.allFz h2
    refine ⟨fun e he => ?_, rfl, fun G s g => ?_⟩
    . cases List.mem_singleton.mp he; exact .inr ⟨h1, _, rfl⟩
    . rcases g _ List.mem_cons_self with g | ⟨od, _, _, g⟩
      . exact .dct (.inl g) k (z.mono (.of s))
      . exact .dct (.inr ⟨od, g⟩) k (z.mono (.of s))
  | dcl k r => cases h
  | dcn k q r => cases h
end
section
variable [Wd] [Hot] {X : Cx} {W : WX} {e : Expr} {mo : M.MO}
end
end S
namespace S
open PySem PySem.Spec PyProof.Rows L2
local macro_rules | `(tactic| walk_at "parts") => `(tactic| (constructor; (intro e h; simp only [List.mem_append, List.mem_cons, List.not_mem_nil] at *; grind); (intro x; simp only [keys, List.map_append, List.map_cons, List.map_nil, List.count_append, List.count_cons, List.count_nil] at *; omega)))
variable [Wd] [Hot]
section
variable {K : PySem.W.Frag}
end
section
variable {X : Cx} {W : WX} {a b : Expr} {mb : M.ME} {pos : Pos}
end
end S
namespace S
open PySem PySem.Spec PyProof.Rows L2
local macro_rules | `(tactic| walk_at "parts") => `(tactic| (constructor; (intro e h; simp only [List.mem_append, List.mem_cons, List.not_mem_nil] at *; grind); (intro x; simp only [keys, List.map_append, List.map_cons, List.map_nil, List.count_append, List.count_cons, List.count_nil] at *; omega)))
variable [Wd]
section
variable {X : Cx} {pins : List (Addr × Obj)} {σ : St} {H : Hp} {s : Shared} {a b : Addr} {y d : V} {u r : Value} {ov : Option V} {A : Around} {E : Value -> Shared -> Prop}
end
section
variable [Hot] {X : Cx} {W : WX} {o e f a i k l : Expr} {me mf ma mk ml : M.ME} {pos tpos tpos2 apos cpos : Pos}
end
section
variable {K : PySem.W.Frag}
end
section
variable [Hot]
end
end S
namespace S
open PySem PySem.Spec PyProof.Rows L2
variable [Wd]
end S
namespace S
open PySem PySem.Spec PyProof.Rows L2
variable [Wd] [Hot]
section
variable {X : Cx} {W : WX}
end
end S
namespace S
open PySem PySem.Spec PyProof.Rows L2
local macro_rules | `(tactic| walk_at "parts") => `(tactic| (constructor; (intro e h; simp only [List.mem_append, List.mem_cons, List.not_mem_nil] at *; grind); (intro x; simp only [keys, List.map_append, List.map_cons, List.map_nil, List.count_append, List.count_cons, List.count_nil] at *; omega)))
variable [Wd]
inductive HitsD (K : PySem.W.Frag) (H : Hp) (ls : List (Key × V)) : List (Key × V) -> Bool -> Prop
  | nil : HitsD K H ls [] true
  | miss {p : Key × V} {r : List (Key × V)} : valV ls p.1 = none -> HitsD K H ls (p :: r) false
  | hit {p : Key × V} {u : V} {d e : PyData} {r : List (Key × V)} {b : Bool} : valV ls p.1 = some u -> Dp K H p.2 d -> Dp K H u e -> SeqAt.shaped d = true -> SeqAt.shaped e = true -> HitsD K H ls r b -> HitsD K H ls (p :: r) (PyData.eqv d e && b)
section
variable {X : Cx}
end
section
variable {K : PySem.W.Frag}
end
section
variable {X : Cx} {pins : List (Addr × Obj)} {σ : St} {H : Hp} {s : Shared} {a b : Addr} {y d : V} {u r : Value} {ov : Option V} {A : Around} {E : Value -> Shared -> Prop}
end
section
variable [Hot] {X : Cx} {W : WX} {o e f a i k l : Expr} {me mf ma mk ml : M.ME} {pos tpos tpos2 apos cpos : Pos}
end
end S
namespace S
open PySem PySem.Spec PyProof.Rows L2 PySem.SeqAt
variable [Wd] [Hot]
variable {K : PySem.W.Frag}
end S
namespace S
open PySem PySem.Spec PyProof.Rows L2
local macro_rules | `(tactic| walk_at "parts") => `(tactic| (constructor; (intro e h; simp only [List.mem_append, List.mem_cons, List.not_mem_nil] at *; grind); (intro x; simp only [keys, List.map_append, List.map_cons, List.map_nil, List.count_append, List.count_cons, List.count_nil] at *; omega)))
section
variable [Wd] [Hot] {X : Cx} {W : WX} {pos : Pos}
end
end S
namespace S
open PySem PySem.Spec PyProof.Rows L2
variable [Wd] [Hot]
section
variable {K : PySem.W.Frag} {W : WX} {σ : St} {H : Hp} {D : Ends}
end
section
variable {X : Cx} {W : WX} {pos px ps pr : Pos} {tg c e : Expr} {sl : List Nat} {i : Nat} {nm : Str} {g : M.MG} {t : M.MT} {a : M.MO}
end
section
variable {X : Cx} {W : WX} {apos cpos : Pos} {o e : Expr} {es : List Expr} {x : Str} {as : M.MA}
end
end S
namespace L2
open PySem PySem.Spec PyProof.Rows
structure Lay (X : Cx) (pn : List (Addr × Obj)) (a : Addr) (cls : Value) (d : Option Addr) (σ : St) (H : Hp) (s : Shared) : Prop where
  src : ∃ B z, Inv X pn σ H z /\ (∀ b o, z.heap.get? b = some o -> b ∉ frs X.stack -> B.get? b = some o) /\ z.heap.UpToSlots s.heap /\ HandSPX.FlyingZ B (X.env :: X.outer) a (Zc cls d) s.heap /\ s.os = z.os /\ AllBare s.gens
  na : H a = none
section
variable {X : Cx} {pn : List (Addr × Obj)} {a : Addr} {cls : Value} {d : Option Addr} {σ : St} {H : Hp} {s : Shared}
theorem Lay.inv (y : Lay X pn a cls d σ H s) : Inv X pn σ H s := by
  obtain ⟨⟨B, z, I, h1, h2, h3, h4, h5⟩, -⟩ := y
  exact I.landed h1 h3.1 h2 h4 h5
theorem Lay.held (y : Lay X pn a cls d σ H s) (hf : X.env.frame = some X.env.locals) : ∃ oe, s.heap.get? a = some oe /\ Zc cls d oe /\ (∃ vs, oe.data = .fields vs) /\ Inv (X.suite a ((a, oe) :: (X.pn ++ pn))) [] σ H s := by
  have I := y.inv
  obtain ⟨⟨B, z, -, -, -, fl, -, -⟩, na⟩ := y
  obtain ⟨oe, vs, e1, e2, e3⟩ := fl.there
  have off : a ∉ frs (X.env :: X.outer) := by
    intro m
    obtain ⟨_, o2, e4, no⟩ := fl.2.2.1.mem m
    rw [e1] at e4
    cases e4
    exact no vs e3
  have q1 : a ≠ X.env.locals := by
    intro q
    refine off (List.mem_filterMap.2 ⟨X.env, by simp, ?_⟩)
    rw [hf, q]
  have q2 : a ∉ X.fs := by
    intro m
    obtain ⟨w, m1, m2⟩ := List.mem_filterMap.1 m
    exact off (List.mem_filterMap.2 ⟨w, by simp [m1], m2⟩)
  exact ⟨oe, e1, e2, ⟨vs, e3⟩, I.suite e1 e3 na q1 q2⟩
theorem Lay.cool {M : Model} {A : Around} {E : Value -> Shared -> Prop} {Q : Unit -> Shared -> Prop} (y : Lay X pn a cls d σ H s) (h : ∀ s', Lay X pn a cls d σ H s' -> Q () s') : wpAny M A (setFlight (.ref a) none) Q E s := by
  obtain ⟨⟨B, z, I, h1, h2, h3, h4, h5⟩, na⟩ := y
  exact HandSPX.lands_againZ h3 fun g k1 k2 => h _ ⟨⟨B, z, I, h1, h2.trans k2, k1, h4, h5⟩, na⟩
theorem Lay.out {W : WX} {Q : Flow -> Shared -> Prop} (y : Lay X pn a cls d σ H s) (hs : X.stack = X.env :: X.outer) (hf : X.env.frame = some X.env.locals) (tk : Takes X W) (w : W cls d σ H) : wpAny (model X.prog X.w) X.A (handleBy (.ref a) X.env []) Q X.xe s := by
  obtain ⟨⟨B, z, I, h1, h2, h3, h4, h5⟩, na⟩ := y
  obtain ⟨-, -, -, oe, vs, T, -, -, e1, -, e2, e3, -⟩ := id h3
  refine wpAny_handleBy_nil ?_
  unfold PySem.passOn
  refine wpAny_bind (wpAny_field e1 e2 e3 ?_)
  have nT : (Value.ref T == Value.none) = false := by simp
  rw [nT, if_neg Bool.false_ne_true]
  have up : wpAny (model X.prog X.w) X.A (setFlight (.ref a) X.env.frame) (fun _ r => wpAny (model X.prog X.w) X.A (throw (.ref a) : Sem Flow) Q X.xe r) X.xe s := by
    rw [hf]
    refine HandSPX.setFlight_upZ h3 fun g k1 k2 => wpAny_throw (tk (.ref a) _ ?_)
    refine ⟨a, B, z, pn, σ, H, cls, d, rfl, I, h1, h2.trans k2, ?_, na, h4, h5, w⟩
    rw [hs]
    exact .inr (.inr k1)
  first
    | exact wpAny_bind (wpAny_pure (wpAny_bind up))
    | exact wpAny_bind up
end
def EJ' (D : Ends) (i : Nat) : Ends := { nx := fun σ H => D.nx (σ.set i none) H, rt := D.rt, bk := fun σ H => D.bk (σ.set i none) H, ct := fun σ H => D.ct (σ.set i none) H }
def tAs (i : Nat) (ts : Addr -> Value -> Option Addr -> TS) : Addr -> Value -> Option Addr -> TS := fun a cls d D σ H => ts a cls d (EJ' D i) (σ.set i (some (.ref a))) H
inductive HdsN (X : Cx) : List ExceptHandler -> List (Value × (Addr -> Value -> Option Addr -> TS)) -> Prop
  | nil : HdsN X [] []
  | plain {x : Str} {c : Value} {ts : Addr -> Value -> Option Addr -> TS} {b : Stmt} {bs : List Stmt} {p q : Pos} {r : List ExceptHandler} {l : List (Value × (Addr -> Value -> Option Addr -> TS))} (hc : Names X x c)
      (h : ∀ (a : Addr) (oe : Obj) (cls : Value) (d : Option Addr) (pn : List (Addr × Obj)), Zc cls d oe -> (∃ vs, oe.data = .fields vs) -> PSs (X.suite a ((a, oe) :: pn)) (b :: bs) (ts a cls d)) : HdsN X r l →
      HdsN X (.ExceptHandler (some (.Name x p)) none (b :: bs) q :: r) ((c, ts) :: l)
  | named {x n : Str} {i : Nat} {c : Value} {ts : Addr -> Value -> Option Addr -> TS} {b : Stmt} {bs : List Stmt} {p q : Pos} {r : List ExceptHandler} {l : List (Value × (Addr -> Value -> Option Addr -> TS))} (hN : X.N.Nodup) (hi : X.N[i]? = some n) (hln : X.env.kindOf n = some .local) (hc : Names X x c)
      (h : ∀ (a : Addr) (oe : Obj) (cls : Value) (d : Option Addr) (pn : List (Addr × Obj)), Zc cls d oe -> (∃ vs, oe.data = .fields vs) -> PSs (X.suite a ((a, oe) :: pn)) (b :: bs) (ts a cls d)) : HdsN X r l →
      HdsN X (.ExceptHandler (some (.Name x p)) (some n) (b :: bs) q :: r) ((c, tAs i ts) :: l)
section
variable {X : Cx} {pn : List (Addr × Obj)} {a : Addr} {cls : Value} {d : Option Addr} {σ : St} {H : Hp} {s : Shared}
theorem Lay.asks {x : Str} {c : Value} {b : Bool} {nm : Option Str} {body : List Stmt} {p q : Pos} {r : List ExceptHandler} {Q : Flow -> Shared -> Prop} (y : Lay X pn a cls d σ H s) (hf : X.env.frame = some X.env.locals) (hc : Names X x c) (hb : PySem.W.exmOne X.K cls c = some b)
    (yes : b = true -> codeAny (model X.prog X.w) (X.A.mark (some (.ref a))) (.handlers (.ref a) [.ExceptHandler none nm body q] X.env) (fun o s₂ => match o with
          | .ok f => (match nm with
            | none => Q f s₂
            | some n => wpAny (model X.prog X.w) X.A (do bindName X.env n .none; unbindBehindTheSuite X.env n q) (fun _ s₃ => Q f s₃) X.xe s₂)
          | .error x => cameBackBy (model X.prog X.w) X.A X.env X.xe x s₂) s)
    (no : b = false -> wpAny (model X.prog X.w) X.A (handleBy (.ref a) X.env r) Q X.xe s) : wpAny (model X.prog X.w) X.A (handleBy (.ref a) X.env (.ExceptHandler (some (.Name x p)) nm body q :: r)) Q X.xe s := by
  obtain ⟨oe, e1, e2, e3, S⟩ := y.held hf
  have I := y.inv
  refine wpAny_handleBy_cons (codeAny_handlers_test ?_) (fun z => by cases z)
  have lt : PySem.W.Looks (model X.prog X.w) s.heap (typeOf (.ref a)) cls := fun A Q E s k q => wpAny_typeOf_ref (k _ _ e1) (by rw [e2.1]; exact q)
  have lm := PySem.W.exm_one (M := model X.prog X.w) I.kIn lt hb
  have ask : ∀ {Q E : Value -> Shared -> Prop}, Q c s -> wpAny (model X.prog X.w) (X.A.mark (some (.ref a))) (eval (.Name x p) X.env) Q E s := by
    intro Q E z
    obtain ⟨g1, g2, g3⟩ := hc
    rcases g3 with g3 | ⟨g3, g4, g5⟩
    . exact ld_glob (X := X.suite a ((a, oe) :: (X.pn ++ pn))) S g1 g3 z g2
    . exact ld_blt (X := X.suite a ((a, oe) :: (X.pn ++ pn))) S g1 g3 g4 z g5 g2
  refine ask (lm.here ?_)
  cases b with
  | false => exact no rfl
  | true => exact yes rfl
theorem Lay.run {W : WX} {D : Ends} (hs : X.stack = X.env :: X.outer) (hf : X.env.frame = some X.env.locals) (tk : Takes X W) {hds : List ExceptHandler} {l : List (Value × (Addr -> Value -> Option Addr -> TS))} (hh : HdsN X hds l) (y : Lay X pn a cls d σ H s) (w : wMany X.K W D l cls d σ H) :
    wpAny (model X.prog X.w) X.A (handleBy (.ref a) X.env hds) (SP X pn D) X.xe s := by
  have ok := y.inv.ok
  induction hh with
  | nil => exact y.out hs hf tk w
  | @plain x c ts b bs p q r l hc h _ ih =>
    obtain ⟨t, w1, w2, w3⟩ := w
    refine y.asks hf hc w1 (fun et => codeAny_handlers_suite (y.cool fun s2 y2 => ?_)) fun et => ih (w3 et)
    obtain ⟨oe, e1, e2, e3, S⟩ := y2.held hf
    refine wpAny_mono ((h a oe cls d (X.pn ++ pn) e2 e3).run [] s2 σ H D S (w2 et a y.na)) (fun f s3 z => ?_) (fun _ _ z => z.elim)
    cases f with
    | next =>
      obtain ⟨σ3, H3, S3, z⟩ := z
      exact ⟨σ3, H3, S3.unsuite ok, z⟩
    | brk =>
      obtain ⟨σ3, H3, S3, z⟩ := z
      exact ⟨σ3, H3, S3.unsuite ok, z⟩
    | cont =>
      obtain ⟨σ3, H3, S3, z⟩ := z
      exact ⟨σ3, H3, S3.unsuite ok, z⟩
    | ret u =>
      obtain ⟨v, σ3, H3, S3, z⟩ := z
      exact ⟨v, σ3, H3, S3.unsuite ok, z⟩
  | @named x n i c ts b bs p q r l hN hi hln hc h _ ih =>
    obtain ⟨t, w1, w2, w3⟩ := w
    refine y.asks hf hc w1 (fun et => codeAny_handlers_suite_as (y.cool fun s2 y2 => ?_)) fun et => ih (w3 et)
    obtain ⟨oe, e1, e2, e3, S⟩ := y2.held hf
    refine store_ok (X := X.suite a ((a, oe) :: (X.pn ++ pn))) (v := .ref a) S hN hi (.inl hln) rfl (fun s3 S3 => ?_) (.inr hln)
    refine wpAny_mono ((h a oe cls d (X.pn ++ pn) e2 e3).run [] s3 _ H _ S3 (w2 et a y.na)) (fun f s4 z => ?_) (fun _ _ z => z.elim)
    have gone : ∀ {σ4 : St} {H4 : Hp} {R : Shared -> Prop}, Inv (X.suite a ((a, oe) :: (X.pn ++ pn))) [] σ4 H4 s4 -> (∀ s5, Inv X pn (σ4.set i none) H4 s5 -> R s5) -> wpAny (model X.prog X.w) X.A (do bindName X.env n .none; unbindBehindTheSuite X.env n q) (fun _ s5 => R s5) X.xe s4 := by
      intro σ4 H4 R S4 k
      exact gone_ok (S4.unsuite ok) hN hi hln k
    cases f with
    | next =>
      obtain ⟨σ3, H3, S3, z⟩ := z
      exact gone S3 fun _ k => ⟨_, _, k, z⟩
    | brk =>
      obtain ⟨σ3, H3, S3, z⟩ := z
      exact gone S3 fun _ k => ⟨_, _, k, z⟩
    | cont =>
      obtain ⟨σ3, H3, S3, z⟩ := z
      exact gone S3 fun _ k => ⟨_, _, k, z⟩
    | ret u =>
      obtain ⟨v, σ3, H3, S3, z⟩ := z
      exact gone S3 fun _ k => ⟨_, _, _, k, z⟩
end
section
variable {X : Cx} {body : List Stmt} {h₀ : ExceptHandler} {hds : List ExceptHandler} {l : List (Value × (Addr -> Value -> Option Addr -> TS))} {pos : Pos} {tb : WX -> TS} {W : WX}
end
end L2
namespace S
open PySem PySem.Spec PyProof.Rows L2
variable [Wd]
section
variable {X : Cx} {W : WX} {D : Ends} {σ : St} {H : Hp} {F : Hp} {T : List Addr} {fr : Fp}
abbrev Hn := List (Option (Nat × Nat) × (String -> Option Bool) × (M.Exc -> M.MS))
inductive HdsMN (X : Cx) : List ExceptHandler -> Hn -> List (Value × (Addr -> Value -> Option Addr -> TS)) -> Prop
  | nil : HdsMN X [] [] []
  | plain {x : Str} {c : Value} {g : String -> Option Bool} {h : M.Exc -> M.MS} {b : Stmt} {bs : List Stmt} {p q : Pos} {r : List ExceptHandler} {l : Hn} {l' : List (Value × (Addr -> Value -> Option Addr -> TS))} (hc : Names X x c)
      (hg : ∀ y b, g y = some b -> PySem.W.exmOne X.K (.ref (He.ga X.K y)) c = some b)
      (hsu : ∀ (e : M.Exc) (a : Addr) (oe : Obj) (d : Option Addr) (pn : List (Addr × Obj)), Zc (.ref (He.ga X.K e.cls)) d oe -> (∃ vs, oe.data = .fields vs) -> SSs (X.suite a ((a, oe) :: pn)) W0 (b :: bs) (h e)) : HdsMN X r l l' →
      HdsMN X (.ExceptHandler (some (.Name x p)) none (b :: bs) q :: r) ((none, g, h) :: l) ((c, tsM X.K h) :: l')
  | named {x n : Str} {i m : Nat} {c : Value} {g : String -> Option Bool} {h : M.Exc -> M.MS} {b : Stmt} {bs : List Stmt} {p q : Pos} {r : List ExceptHandler} {l : Hn} {l' : List (Value × (Addr -> Value -> Option Addr -> TS))} (hN : X.N.Nodup) (hi : X.N[i]? = some n) (hln : X.env.kindOf n = some .local) (hc : Names X x c)
      (hg : ∀ y b, g y = some b -> PySem.W.exmOne X.K (.ref (He.ga X.K y)) c = some b)
      (hsu : ∀ (e : M.Exc) (a : Addr) (oe : Obj) (d : Option Addr) (pn : List (Addr × Obj)), Zc (.ref (He.ga X.K e.cls)) d oe -> (∃ vs, oe.data = .fields vs) -> @SSs _ (CX' a m d e) (X.suite a ((a, oe) :: pn)) W0 (b :: bs) (h e)) : HdsMN X r l l' →
      HdsMN X (.ExceptHandler (some (.Name x p)) (some n) (b :: bs) q :: r) ((some (i, m), g, h) :: l) ((c, tAs i (tsA [] X.K m h)) :: l')
theorem HdsMN.ok {hds : List ExceptHandler} {l : Hn} {l' : List (Value × (Addr -> Value -> Option Addr -> TS))} (h : HdsMN X hds l l') : HdsN X hds l' := by
  induction h with
  | nil => exact .nil
  | plain hc hg hsu r ih => exact .plain hc (nT' hsu) ih
  | named hN hi hln hc hg hsu r ih =>
    refine .named hN hi hln hc (fun a oe cls d pn hz hf => ⟨fun pins s σ H D I q => ?_⟩) ih
    obtain ⟨e, rfl, q⟩ := q
    exact (hsu e a oe d pn hz hf).run pins s σ H D I q
end
end S
namespace S
open PySem PySem.Spec PyProof.Rows L2
variable [Wd]
structure LamOk (P : Program) (w : World) (K : PySem.W.Frag) (mg : Str -> Option Value) (base : Heap) (k : Nat) (cl : List (Str × Addr)) (fr : List Str) (c : CloD) (U : M.MF) : Prop where
  isfn : ∀ h : Heap, h.get? c.f = some c.ob -> PySem.W.FnAt c.f h
  run : ∀ (A : Around) (outer : List Env) (s : Shared) (H : Hp) (us : List Value) (vs : List V) (Q : VK) (E : XK), RoomG k A -> Env0 P w K mg base A outer s H →
    NdefX.CellsAt cl fr (c.ws.map some) s.heap H -> Vals vs us →
    (∃ ds w' F T fp, FzA K F T vs ds /\ CloAt K F T c /\ ti' K w' H F T fp /\ yt' K Q E F T fp (U ds w')) -> codeAny (model P w) A (.call (.ref c.f) ⟨us, []⟩) (CR (L2.CX P w) outer P w H s Q E) s
theorem LamOk.mono {P : Program} {w : World} {K : PySem.W.Frag} {mg : Str -> Option Value} {base : Heap} {j k : Nat} {cl : List (Str × Addr)} {fr : List Str} {c : CloD} {U : M.MF} (h : LamOk P w K mg base j cl fr c U) (l : j <= k) : LamOk P w K mg base k cl fr c U :=
  ⟨h.isfn, fun A o s H us vs Q E hr => h.run A o s H us vs Q E (hr.mono l)⟩
section
variable {P : Program} {w : World} {K : PySem.W.Frag} {mg : Str -> Option Value} {base : Heap}
end
inductive ArgK (K : PySem.W.Frag) (F : Hp) (T : List Addr) : List Bool -> List V -> List M.D -> List CloD -> Prop
  | nil : ArgK K F T [] [] [] []
  | dat {m : List Bool} {v : V} {vs : List V} {d : M.D} {ds : List M.D} {cs : List CloD} : Fz K F T v d -> ArgK K F T m vs ds cs -> ArgK K F T (false :: m) (v :: vs) (d :: ds) cs
  | clo {m : List Bool} {vs : List V} {ds : List M.D} {c : CloD} {cs : List CloD} : CloAt K F T c -> ArgK K F T m vs ds cs -> ArgK K F T (true :: m) (.ref c.f :: vs) ds (c :: cs)
theorem ArgK.mono {K : PySem.W.Frag} {F F' : Hp} {T T' : List Addr} (e : Ext F T F' T') {m : List Bool} {vs : List V} {ds : List M.D} {cs : List CloD} (h : ArgK K F T m vs ds cs) : ArgK K F' T' m vs ds cs := by
  induction h with
  | nil => exact .nil
  | dat z _ ih => exact .dat (z.mono e) ih
  | clo z _ ih => exact .clo (z.mono e) ih
section
variable [Hot] {X : Cx} {W : WX} {k : Nat} {e : Expr} {es : List Expr} {a : M.ME} {as : List M.AK}
end
structure FnK (P : Program) (w : World) (K : PySem.W.Frag) (mg : Str -> Option Value) (base : Heap) (k : Nat) (f : Addr) (fd : FuncData) (ps : List Str) (kc : Nat) (mask : List Bool) (m : List M.MF -> M.MF) : Prop where
  len : mask.length = ps.length
  run : ∀ (A : Around) (outer : List Env) (s : Shared) (H : Hp) (args : Args) (us : List Value) (vs : List V) (Q : VK) (E : XK), RoomG k A -> Env0 P w K mg base A outer s H -> BindsTo s fd args (ps.zip us) -> Vals vs us →
    (∃ ds cs Us w' F T fr, ArgK K F T mask vs ds cs /\ Paired (fun c U => ∃ cl fr, LamOk P w K mg base kc cl fr c U /\ NdefX.CellsAt cl fr (c.ws.map some) s.heap H) cs Us /\ ti' K w' H F T fr /\ yt' K Q E F T fr (m Us ds w')) →
    codeAny (model P w) A (.call (.ref f) args) (CR (L2.CX P w) outer P w H s Q E) s
theorem ArgK.len {K : PySem.W.Frag} {F : Hp} {T : List Addr} {m : List Bool} {vs : List V} {ds : List M.D} {cs : List CloD} (h : ArgK K F T m vs ds cs) : vs.length = m.length := by
  induction h with
  | nil => rfl
  | dat _ _ ih => exact congrArg (· + 1) ih
  | clo _ _ ih => exact congrArg (· + 1) ih
def yx' : Nat -> List Bool -> List CloD -> List (Nat × CloD)
  | n, true :: m, c :: cs => (n - 1, c) :: yx' (n - 1) m cs
  | n, false :: m, cs => yx' (n - 1) m cs
  | _, _, _ => []
theorem RpE.offs [Hot] {K : PySem.W.Frag} {F : Hp} {T : List Addr} : ∀ r : Nat, RpE K F T (List.replicate r none) (List.replicate r none) []
  | 0 => .nil
  | r + 1 => .off (RpE.offs r)
theorem ArgK.start [Hot] {K : PySem.W.Frag} {F : Hp} {T : List Addr} {r : Nat} : ∀ {m : List Bool} {vs : List V} {ds : List M.D} {cs : List CloD}, ArgK K F T m vs ds cs -> (∀ i c, (i, c) ∈ yx' (m.length + r) m cs -> Hot.clo.lookup i = some c) →
    ∃ env, M.AA' m ds = some env /\ env.length = m.length /\ RpE K F T (vs.map some ++ List.replicate r none) (env ++ List.replicate r none) []
  | _, _, _, _, .nil, _ => ⟨[], rfl, rfl, RpE.offs r⟩
  | _, _, _, _, @ArgK.dat _ _ _ _ m v vs d ds cs z a, h => by
    obtain ⟨env, h1, h2, h3⟩ := ArgK.start (r := r) a fun i c hi => h i c (by
      show (i, c) ∈ yx' (m.length + 1 + r - 1) m cs
      rwa [show m.length + 1 + r - 1 = m.length + r by omega])
    exact ⟨some (.fz d) :: env, by show (M.AA' m ds).map _ = _; rw [h1]; rfl, congrArg (· + 1) h2, RpE.on (fp := []) (fq := []) (.fz z) h3⟩
  | _, _, _, _, @ArgK.clo _ _ _ _ m vs ds c cs z a, h => by
    have e1 : m.length + 1 + r - 1 = m.length + r := by omega
    obtain ⟨env, h1, h2, h3⟩ := ArgK.start (r := r) a fun i c' hi => h i c' (by
      show (i, c') ∈ (m.length + 1 + r - 1, c) :: yx' (m.length + 1 + r - 1) m cs
      rw [e1]
      exact List.mem_cons_of_mem _ hi)
    refine ⟨some .clo :: env, by show (M.AA' m ds).map _ = _; rw [h1]; rfl, congrArg (· + 1) h2, RpE.clo ?_ z h3⟩
    show Hot.clo.lookup (env ++ List.replicate r none).length = some c
    rw [List.length_append, List.length_replicate, h2]
    refine h _ c ?_
    show _ ∈ (m.length + 1 + r - 1, c) :: yx' (m.length + 1 + r - 1) m cs
    rw [e1]
    exact List.mem_cons_self
section
variable {P : Program} {w : World} {K : PySem.W.Frag} {mg : Str -> Option Value} {base : Heap}
end
section
variable [Hot] {X : Cx} {W : WX} {k kc : Nat} {x : Str} {ps : List Str} {p pos : Pos} {e : Expr} {es : List Expr} {as : List M.AK} {m : List M.MF -> M.MF}
end
section
variable [Hot] {X : Cx} {W : WX} {kc i : Nat} {x : Str} {p pos : Pos} {e : Expr} {es : List Expr} {as : M.MA} {U : M.MF}
end
end S
namespace S
open PySem PySem.Spec PyProof.Rows L2
variable [Wd] [Hot]
section
variable {K : PySem.W.Frag}
end
end S
namespace S
open PySem PySem.Spec PyProof.Rows L2
variable [Wd] [Hot]
section
variable {X : Cx} {W : WX} {pos p : Pos} {x : Str} {a : Expr} {σ : St} {H : Hp} {Q : VK}
end
end S
namespace S
open PySem PySem.Spec PyProof.Rows L2
variable [Wd] [Hot]
section
variable {K : PySem.W.Frag} {W : WX} {σ : St} {H : Hp} {D : Ends}
end
section
variable {X : Cx} {W : WX} {pos : Pos} {tg e : Expr} {body : List Stmt} {sl : List Nat} {a : M.ME} {g : M.MG} {m1 : M.MS}
end
end S
namespace S
open PySem PySem.Spec PyProof.Rows L2
variable [Wd] [Hot]
section
variable {K : PySem.W.Frag} {W : WX} {σ : St} {H : Hp} {D : Ends} {ρ : M.PSt} {F : Hp} {T : List Addr} {fr : Fp}
end
section
variable {X : Cx} {W : WX} {pos : Pos} {elt tg iter : Expr} {ifs : List Expr} {scope : Scope} {own : List (Str × Nat)} {sl : List Nat} {it : M.MI} {g : M.MG} {t : M.MT} {e : M.MO}
end
end S
namespace S
open PySem PySem.Spec PyProof.Rows L2
variable [Wd] [Hot]
section
variable {K : PySem.W.Frag} {W : WX} {σ : St} {H : Hp} {D : Ends} {ρ : M.PSt} {F : Hp} {T : List Addr} {fr : Fp}
end
section
variable {X : Cx} {W : WX} {pos px qx epos apos cpos : Pos} {tg a : Expr} {nm x : Str} {i r : Nat} {v : V} {d : M.D}
end
end S
namespace S
open PySem PySem.Spec PyProof.Rows L2
variable [Wd] [Hot]
local macro_rules | `(tactic| walk_at "parts") => `(tactic| (constructor; (intro e h; simp only [List.mem_append, List.mem_cons, List.not_mem_nil] at *; grind); (intro x; simp only [keys, List.map_append, List.map_cons, List.map_nil, List.count_append, List.count_cons, List.count_nil] at *; omega)))
end S
namespace S
open PySem PySem.Spec PyProof.Rows L2
variable [Wd] [Hot]
section
variable {X : Cx} {W : WX} {pos cpos apos spos ipos qpos px py : Pos} {x y : Str} {i k j j1 : Nat}
end
end S
namespace S
open PySem PySem.Spec PyProof.Rows L2
structure Ctx (w : World) (K : PySem.W.Frag) (mg : Str -> Option Value) : Prop where
  says : ∃ (h : Heap), He.SaysX fas fns tbs [] exK w h K
  inn : ∃ h : Heap, K.In h /\ h.Ns mainGlobals mg
section
variable [Wd] {w : World} {K : PySem.W.Frag} {mg : Str -> Option Value}
theorem Ctx.d (C : Ctx w K mg) : He.SaysD fas fns K := by
  obtain ⟨h, s⟩ := C.says
  exact s.t.d
theorem Ctx.more (C : Ctx w K mg) (i : Nat) {f : PySem.W.Frag -> Bool} (e : exs[i]? = some f) : f K = true := by
  obtain ⟨h, s⟩ := C.says
  exact List.all_eq_true.mp s.more f (List.mem_of_getElem? e)
theorem Ctx.glo (C : Ctx w K mg) {x : Str} (i : Nat) (h : fas[i]? = some (.glo x)) : mg x = some (.ref (He.ga K x)) := by
  obtain ⟨hp, X, G⟩ := C.inn
  exact He.glo_ok X G (C.d.fact i h)
theorem Ctx.g_is_integer (C : Ctx w K mg) : mg "is_integer" = some (.ref (He.ga K "is_integer")) := C.glo 0 rfl
theorem Ctx.g_check_number (C : Ctx w K mg) : mg "check_number" = some (.ref (He.ga K "check_number")) := C.glo 1 rfl
theorem Ctx.g_is_string_of (C : Ctx w K mg) : mg "is_string_of" = some (.ref (He.ga K "is_string_of")) := C.glo 2 rfl
theorem Ctx.g_is_ascending (C : Ctx w K mg) : mg "is_ascending" = some (.ref (He.ga K "is_ascending")) := C.glo 3 rfl
theorem Ctx.g_is_choice (C : Ctx w K mg) : mg "is_choice" = some (.ref (He.ga K "is_choice")) := C.glo 4 rfl
theorem Ctx.g_is_word (C : Ctx w K mg) : mg "is_word" = some (.ref (He.ga K "is_word")) := C.glo 5 rfl
theorem Ctx.g_check_word (C : Ctx w K mg) : mg "check_word" = some (.ref (He.ga K "check_word")) := C.glo 6 rfl
theorem Ctx.g_are_states (C : Ctx w K mg) : mg "are_states" = some (.ref (He.ga K "are_states")) := C.glo 7 rfl
theorem Ctx.g_is_table (C : Ctx w K mg) : mg "is_table" = some (.ref (He.ga K "is_table")) := C.glo 8 rfl
theorem Ctx.g_led (C : Ctx w K mg) : mg "led" = some (.ref (He.ga K "led")) := C.glo 9 rfl
theorem Ctx.g_says (C : Ctx w K mg) : mg "says" = some (.ref (He.ga K "says")) := C.glo 10 rfl
theorem Ctx.g_says_far (C : Ctx w K mg) : mg "says_far" = some (.ref (He.ga K "says_far")) := C.glo 11 rfl
theorem Ctx.g_reached (C : Ctx w K mg) : mg "reached" = some (.ref (He.ga K "reached")) := C.glo 12 rfl
theorem Ctx.g_numbered (C : Ctx w K mg) : mg "numbered" = some (.ref (He.ga K "numbered")) := C.glo 13 rfl
theorem Ctx.g_alike_states (C : Ctx w K mg) : mg "alike_states" = some (.ref (He.ga K "alike_states")) := C.glo 14 rfl
theorem Ctx.g_least (C : Ctx w K mg) : mg "least" = some (.ref (He.ga K "least")) := C.glo 15 rfl
theorem Ctx.g_line_of (C : Ctx w K mg) : mg "line_of" = some (.ref (He.ga K "line_of")) := C.glo 16 rfl
theorem Ctx.g_machine_text (C : Ctx w K mg) : mg "machine_text" = some (.ref (He.ga K "machine_text")) := C.glo 17 rfl
theorem Ctx.g_numbers_behind (C : Ctx w K mg) : mg "numbers_behind" = some (.ref (He.ga K "numbers_behind")) := C.glo 18 rfl
theorem Ctx.g_read_machine (C : Ctx w K mg) : mg "read_machine" = some (.ref (He.ga K "read_machine")) := C.glo 19 rfl
theorem Ctx.g__law_hand (C : Ctx w K mg) : mg "_law_hand" = some (.ref (He.ga K "_law_hand")) := C.glo 20 rfl
theorem Ctx.g__law_draw (C : Ctx w K mg) : mg "_law_draw" = some (.ref (He.ga K "_law_draw")) := C.glo 21 rfl
theorem Ctx.g__law_letters (C : Ctx w K mg) : mg "_law_letters" = some (.ref (He.ga K "_law_letters")) := C.glo 22 rfl
theorem Ctx.g__law_word (C : Ctx w K mg) : mg "_law_word" = some (.ref (He.ga K "_law_word")) := C.glo 23 rfl
theorem Ctx.g__law_says (C : Ctx w K mg) : mg "_law_says" = some (.ref (He.ga K "_law_says")) := C.glo 24 rfl
theorem Ctx.g__law_is_whole (C : Ctx w K mg) : mg "_law_is_whole" = some (.ref (He.ga K "_law_is_whole")) := C.glo 25 rfl
theorem Ctx.g__law_some_letters (C : Ctx w K mg) : mg "_law_some_letters" = some (.ref (He.ga K "_law_some_letters")) := C.glo 26 rfl
theorem Ctx.g__law_is_form (C : Ctx w K mg) : mg "_law_is_form" = some (.ref (He.ga K "_law_is_form")) := C.glo 27 rfl
theorem Ctx.g__law_all_unlike (C : Ctx w K mg) : mg "_law_all_unlike" = some (.ref (He.ga K "_law_all_unlike")) := C.glo 28 rfl
theorem Ctx.g__law_in_order (C : Ctx w K mg) : mg "_law_in_order" = some (.ref (He.ga K "_law_in_order")) := C.glo 29 rfl
theorem Ctx.g__law_written (C : Ctx w K mg) : mg "_law_written" = some (.ref (He.ga K "_law_written")) := C.glo 30 rfl
theorem Ctx.g__law_any_table (C : Ctx w K mg) : mg "_law_any_table" = some (.ref (He.ga K "_law_any_table")) := C.glo 31 rfl
theorem Ctx.g__law_flag (C : Ctx w K mg) : mg "_law_flag" = some (.ref (He.ga K "_law_flag")) := C.glo 32 rfl
theorem Ctx.g__law_same (C : Ctx w K mg) : mg "_law_same" = some (.ref (He.ga K "_law_same")) := C.glo 33 rfl
theorem Ctx.g__law_parts_of (C : Ctx w K mg) : mg "_law_parts_of" = some (.ref (He.ga K "_law_parts_of")) := C.glo 34 rfl
theorem Ctx.g_law (C : Ctx w K mg) : mg "law" = some (.ref (He.ga K "law")) := C.glo 35 rfl
theorem Ctx.g_NoWord (C : Ctx w K mg) : mg "NoWord" = some (.ref (He.ga K "NoWord")) := C.glo 38 rfl
theorem Ctx.x_NoWord (C : Ctx w K mg) : PySem.W.excIn K (He.ga K "NoWord") He.veBase "ValueError.__new__" = true := (He.exc_ok (C.d.fact 39 rfl)).1
theorem Ctx.k_NoWord (C : Ctx w K mg) : PySem.W.keepIn K (.ref (He.ga K "NoWord")) = true := (He.exc_ok (C.d.fact 39 rfl)).2.1
theorem Ctx.r_NoWord (C : Ctx w K mg) {X : Cx} (e : X.K = K := by rfl) : Raises X (.ref (He.ga K "NoWord")) := by subst e; exact raises_own (He.exc_ok (C.d.fact 39 rfl)).2.2.1 (He.exc_ok (C.d.fact 39 rfl)).2.2.2
theorem Ctx.g_NoNumber (C : Ctx w K mg) : mg "NoNumber" = some (.ref (He.ga K "NoNumber")) := C.glo 40 rfl
theorem Ctx.x_NoNumber (C : Ctx w K mg) : PySem.W.excIn K (He.ga K "NoNumber") He.veBase "ValueError.__new__" = true := (He.exc_ok (C.d.fact 41 rfl)).1
theorem Ctx.k_NoNumber (C : Ctx w K mg) : PySem.W.keepIn K (.ref (He.ga K "NoNumber")) = true := (He.exc_ok (C.d.fact 41 rfl)).2.1
theorem Ctx.r_NoNumber (C : Ctx w K mg) {X : Cx} (e : X.K = K := by rfl) : Raises X (.ref (He.ga K "NoNumber")) := by subst e; exact raises_own (He.exc_ok (C.d.fact 41 rfl)).2.2.1 (He.exc_ok (C.d.fact 41 rfl)).2.2.2
theorem Ctx.g_NoText (C : Ctx w K mg) : mg "NoText" = some (.ref (He.ga K "NoText")) := C.glo 42 rfl
theorem Ctx.x_NoText (C : Ctx w K mg) : PySem.W.excIn K (He.ga K "NoText") He.veBase "ValueError.__new__" = true := (He.exc_ok (C.d.fact 43 rfl)).1
theorem Ctx.k_NoText (C : Ctx w K mg) : PySem.W.keepIn K (.ref (He.ga K "NoText")) = true := (He.exc_ok (C.d.fact 43 rfl)).2.1
theorem Ctx.r_NoText (C : Ctx w K mg) {X : Cx} (e : X.K = K := by rfl) : Raises X (.ref (He.ga K "NoText")) := by subst e; exact raises_own (He.exc_ok (C.d.fact 43 rfl)).2.2.1 (He.exc_ok (C.d.fact 43 rfl)).2.2.2
theorem Ctx.g_Machine (C : Ctx w K mg) : mg "Machine" = some (.ref (He.ga K "Machine")) := C.glo 45 rfl
theorem Ctx.g_RawMachine (C : Ctx w K mg) : mg "RawMachine" = some (.ref (He.ga K "RawMachine")) := C.glo 46 rfl
theorem Ctx.c_SMALL (C : Ctx w K mg) : ∃ t, mg "SMALL" = some (.str "abcdefghijklmnopqrstuvwxyz" t) := by obtain ⟨h, X, G⟩ := C.inn; exact He.str_ok X G (C.d.fact 47 rfl)
theorem Ctx.c_MOST_TIMES (C : Ctx w K mg) : ∃ t, mg "MOST_TIMES" = some (.int (1000000000000000000000000000000) t) := by obtain ⟨h, X, G⟩ := C.inn; exact He.int_ok X G (C.d.fact 48 rfl)
theorem Ctx.free_zip (C : Ctx w K mg) : mg "zip" = none := by obtain ⟨h, X, G⟩ := C.inn; exact He.free_ok X G (C.d.fact 49 rfl)
theorem Ctx.free_any (C : Ctx w K mg) : mg "any" = none := by obtain ⟨h, X, G⟩ := C.inn; exact He.free_ok X G (C.d.fact 50 rfl)
theorem Ctx.free_tuple (C : Ctx w K mg) : mg "tuple" = none := by obtain ⟨h, X, G⟩ := C.inn; exact He.free_ok X G (C.d.fact 51 rfl)
theorem Ctx.free_range (C : Ctx w K mg) : mg "range" = none := by obtain ⟨h, X, G⟩ := C.inn; exact He.free_ok X G (C.d.fact 52 rfl)
theorem Ctx.free_repr (C : Ctx w K mg) : mg "repr" = none := by obtain ⟨h, X, G⟩ := C.inn; exact He.free_ok X G (C.d.fact 53 rfl)
theorem Ctx.free_isinstance (C : Ctx w K mg) : mg "isinstance" = none := by obtain ⟨h, X, G⟩ := C.inn; exact He.free_ok X G (C.d.fact 54 rfl)
theorem Ctx.free_int (C : Ctx w K mg) : mg "int" = none := by obtain ⟨h, X, G⟩ := C.inn; exact He.free_ok X G (C.d.fact 55 rfl)
theorem Ctx.free_str (C : Ctx w K mg) : mg "str" = none := by obtain ⟨h, X, G⟩ := C.inn; exact He.free_ok X G (C.d.fact 56 rfl)
theorem Ctx.free_len (C : Ctx w K mg) : mg "len" = none := by obtain ⟨h, X, G⟩ := C.inn; exact He.free_ok X G (C.d.fact 57 rfl)
theorem Ctx.free_max (C : Ctx w K mg) : mg "max" = none := by obtain ⟨h, X, G⟩ := C.inn; exact He.free_ok X G (C.d.fact 58 rfl)
theorem Ctx.free_sorted (C : Ctx w K mg) : mg "sorted" = none := by obtain ⟨h, X, G⟩ := C.inn; exact He.free_ok X G (C.d.fact 59 rfl)
theorem Ctx.free_abs (C : Ctx w K mg) : mg "abs" = none := by obtain ⟨h, X, G⟩ := C.inn; exact He.free_ok X G (C.d.fact 60 rfl)
theorem Ctx.free_all (C : Ctx w K mg) : mg "all" = none := by obtain ⟨h, X, G⟩ := C.inn; exact He.free_ok X G (C.d.fact 61 rfl)
theorem Ctx.free_bool (C : Ctx w K mg) : mg "bool" = none := by obtain ⟨h, X, G⟩ := C.inn; exact He.free_ok X G (C.d.fact 62 rfl)
theorem Ctx.free_min (C : Ctx w K mg) : mg "min" = none := by obtain ⟨h, X, G⟩ := C.inn; exact He.free_ok X G (C.d.fact 63 rfl)
theorem Ctx.cl_Machine (C : Ctx w K mg) : Cls K (He.ga K "Machine") := He.cls_ok (C.d.fact 64 rfl)
theorem Ctx.n_Machine_kept_letters (C : Ctx w K mg) : NoAttr K (He.ga K "Machine") "kept_letters" := He.noat_ok (C.d.fact 65 rfl)
theorem Ctx.n_Machine_kept_table (C : Ctx w K mg) : NoAttr K (He.ga K "Machine") "kept_table" := He.noat_ok (C.d.fact 66 rfl)
theorem Ctx.n_Machine_kept_accepts (C : Ctx w K mg) : NoAttr K (He.ga K "Machine") "kept_accepts" := He.noat_ok (C.d.fact 67 rfl)
theorem Ctx.n_Machine_kept_least (C : Ctx w K mg) : NoAttr K (He.ga K "Machine") "kept_least" := He.noat_ok (C.d.fact 68 rfl)
theorem Ctx.n_Machine_kept_field (C : Ctx w K mg) : NoAttr K (He.ga K "Machine") "kept_field" := He.noat_ok (C.d.fact 69 rfl)
theorem Ctx.n_Machine_kept_lots (C : Ctx w K mg) : NoAttr K (He.ga K "Machine") "kept_lots" := He.noat_ok (C.d.fact 70 rfl)
theorem Ctx.n_Machine_kept_more (C : Ctx w K mg) : NoAttr K (He.ga K "Machine") "kept_more" := He.noat_ok (C.d.fact 71 rfl)
theorem Ctx.mk_Machine (C : Ctx w K mg) : Mk K (He.ga K "Machine") (He.ma K (He.ga K "Machine") "__init__") := He.mkr_ok (C.d.fact 72 rfl)
theorem Ctx.cl_RawMachine (C : Ctx w K mg) : Cls K (He.ga K "RawMachine") := He.cls_ok (C.d.fact 73 rfl)
theorem Ctx.n_RawMachine_kept_letters (C : Ctx w K mg) : NoAttr K (He.ga K "RawMachine") "kept_letters" := He.noat_ok (C.d.fact 74 rfl)
theorem Ctx.n_RawMachine_kept_table (C : Ctx w K mg) : NoAttr K (He.ga K "RawMachine") "kept_table" := He.noat_ok (C.d.fact 75 rfl)
theorem Ctx.n_RawMachine_kept_accepts (C : Ctx w K mg) : NoAttr K (He.ga K "RawMachine") "kept_accepts" := He.noat_ok (C.d.fact 76 rfl)
theorem Ctx.n_RawMachine_kept_least (C : Ctx w K mg) : NoAttr K (He.ga K "RawMachine") "kept_least" := He.noat_ok (C.d.fact 77 rfl)
theorem Ctx.n_RawMachine_kept_field (C : Ctx w K mg) : NoAttr K (He.ga K "RawMachine") "kept_field" := He.noat_ok (C.d.fact 78 rfl)
theorem Ctx.n_RawMachine_kept_lots (C : Ctx w K mg) : NoAttr K (He.ga K "RawMachine") "kept_lots" := He.noat_ok (C.d.fact 79 rfl)
theorem Ctx.n_RawMachine_kept_more (C : Ctx w K mg) : NoAttr K (He.ga K "RawMachine") "kept_more" := He.noat_ok (C.d.fact 80 rfl)
theorem Ctx.mk_RawMachine (C : Ctx w K mg) : Mk K (He.ga K "RawMachine") (He.ma K (He.ga K "RawMachine") "__init__") := He.mkr_ok (C.d.fact 81 rfl)
theorem Ctx.ml_Machine_keep (C : Ctx w K mg) : jU' K ["Machine", "RawMachine"] "keep" (He.ma K (He.ga K "Machine") "keep") := by
  intro c h
  rcases List.mem_cons.mp h with rfl | h
  . exact ⟨C.cl_Machine, He.meth_ok (C.d.fact 82 rfl)⟩
  rcases List.mem_cons.mp h with rfl | h
  . have e := of_decide_eq_true (C.more 0 rfl)
    refine ⟨C.cl_RawMachine, ?_⟩
    rw [<- e]
    exact He.meth_ok (C.d.fact 83 rfl)
  cases h
theorem Ctx.ml_Machine_letters (C : Ctx w K mg) : jU' K ["Machine", "RawMachine"] "letters" (He.ma K (He.ga K "Machine") "letters") := by
  intro c h
  rcases List.mem_cons.mp h with rfl | h
  . exact ⟨C.cl_Machine, He.meth_ok (C.d.fact 84 rfl)⟩
  rcases List.mem_cons.mp h with rfl | h
  . have e := of_decide_eq_true (C.more 1 rfl)
    refine ⟨C.cl_RawMachine, ?_⟩
    rw [<- e]
    exact He.meth_ok (C.d.fact 85 rfl)
  cases h
theorem Ctx.ml_Machine_table (C : Ctx w K mg) : jU' K ["Machine", "RawMachine"] "table" (He.ma K (He.ga K "Machine") "table") := by
  intro c h
  rcases List.mem_cons.mp h with rfl | h
  . exact ⟨C.cl_Machine, He.meth_ok (C.d.fact 86 rfl)⟩
  rcases List.mem_cons.mp h with rfl | h
  . have e := of_decide_eq_true (C.more 2 rfl)
    refine ⟨C.cl_RawMachine, ?_⟩
    rw [<- e]
    exact He.meth_ok (C.d.fact 87 rfl)
  cases h
theorem Ctx.ml_Machine_accepts (C : Ctx w K mg) : jU' K ["Machine", "RawMachine"] "accepts" (He.ma K (He.ga K "Machine") "accepts") := by
  intro c h
  rcases List.mem_cons.mp h with rfl | h
  . exact ⟨C.cl_Machine, He.meth_ok (C.d.fact 88 rfl)⟩
  rcases List.mem_cons.mp h with rfl | h
  . have e := of_decide_eq_true (C.more 3 rfl)
    refine ⟨C.cl_RawMachine, ?_⟩
    rw [<- e]
    exact He.meth_ok (C.d.fact 89 rfl)
  cases h
theorem Ctx.ml_Machine_parts (C : Ctx w K mg) : jU' K ["Machine", "RawMachine"] "parts" (He.ma K (He.ga K "Machine") "parts") := by
  intro c h
  rcases List.mem_cons.mp h with rfl | h
  . exact ⟨C.cl_Machine, He.meth_ok (C.d.fact 90 rfl)⟩
  rcases List.mem_cons.mp h with rfl | h
  . have e := of_decide_eq_true (C.more 4 rfl)
    refine ⟨C.cl_RawMachine, ?_⟩
    rw [<- e]
    exact He.meth_ok (C.d.fact 91 rfl)
  cases h
theorem Ctx.eq_Machine (C : Ctx w K mg) : EqP K [("Machine", "Machine"), ("RawMachine", "Machine"), ("RawMachine", "RawMachine")] (He.ma K (He.ga K "Machine") "__eq__") := xL' (C.more 5 rfl)
theorem Ctx.eqr_Machine (C : Ctx w K mg) : BV' K [("Machine", "RawMachine")] (He.ma K (He.ga K "Machine") "__eq__") := uu' (C.more 6 rfl)
theorem Ctx.is_Machine (C : Ctx w K mg) : DY' K M.isT "Machine" := un' (C.more 8 rfl)
theorem Ctx.at_kept_letters (C : Ctx w K mg) : ∀ c ∈ ["Machine", "RawMachine"], Cls K (He.ga K (Str.ofString c)) /\ NoAttr K (He.ga K (Str.ofString c)) (Str.ofString "kept_letters") := by
  intro c h
  rcases List.mem_cons.mp h with rfl | h
  . exact ⟨C.cl_Machine, C.n_Machine_kept_letters⟩
  rcases List.mem_cons.mp h with rfl | h
  . exact ⟨C.cl_RawMachine, C.n_RawMachine_kept_letters⟩
  cases h
theorem Ctx.at_kept_table (C : Ctx w K mg) : ∀ c ∈ ["Machine", "RawMachine"], Cls K (He.ga K (Str.ofString c)) /\ NoAttr K (He.ga K (Str.ofString c)) (Str.ofString "kept_table") := by
  intro c h
  rcases List.mem_cons.mp h with rfl | h
  . exact ⟨C.cl_Machine, C.n_Machine_kept_table⟩
  rcases List.mem_cons.mp h with rfl | h
  . exact ⟨C.cl_RawMachine, C.n_RawMachine_kept_table⟩
  cases h
theorem Ctx.at_kept_accepts (C : Ctx w K mg) : ∀ c ∈ ["Machine", "RawMachine"], Cls K (He.ga K (Str.ofString c)) /\ NoAttr K (He.ga K (Str.ofString c)) (Str.ofString "kept_accepts") := by
  intro c h
  rcases List.mem_cons.mp h with rfl | h
  . exact ⟨C.cl_Machine, C.n_Machine_kept_accepts⟩
  rcases List.mem_cons.mp h with rfl | h
  . exact ⟨C.cl_RawMachine, C.n_RawMachine_kept_accepts⟩
  cases h
theorem Ctx.at_kept_least (C : Ctx w K mg) : ∀ c ∈ ["Machine", "RawMachine"], Cls K (He.ga K (Str.ofString c)) /\ NoAttr K (He.ga K (Str.ofString c)) (Str.ofString "kept_least") := by
  intro c h
  rcases List.mem_cons.mp h with rfl | h
  . exact ⟨C.cl_Machine, C.n_Machine_kept_least⟩
  rcases List.mem_cons.mp h with rfl | h
  . exact ⟨C.cl_RawMachine, C.n_RawMachine_kept_least⟩
  cases h
theorem Ctx.at_kept_field (C : Ctx w K mg) : ∀ c ∈ ["Machine", "RawMachine"], Cls K (He.ga K (Str.ofString c)) /\ NoAttr K (He.ga K (Str.ofString c)) (Str.ofString "kept_field") := by
  intro c h
  rcases List.mem_cons.mp h with rfl | h
  . exact ⟨C.cl_Machine, C.n_Machine_kept_field⟩
  rcases List.mem_cons.mp h with rfl | h
  . exact ⟨C.cl_RawMachine, C.n_RawMachine_kept_field⟩
  cases h
theorem Ctx.at_kept_lots (C : Ctx w K mg) : ∀ c ∈ ["Machine", "RawMachine"], Cls K (He.ga K (Str.ofString c)) /\ NoAttr K (He.ga K (Str.ofString c)) (Str.ofString "kept_lots") := by
  intro c h
  rcases List.mem_cons.mp h with rfl | h
  . exact ⟨C.cl_Machine, C.n_Machine_kept_lots⟩
  rcases List.mem_cons.mp h with rfl | h
  . exact ⟨C.cl_RawMachine, C.n_RawMachine_kept_lots⟩
  cases h
theorem Ctx.at_kept_more (C : Ctx w K mg) : ∀ c ∈ ["Machine", "RawMachine"], Cls K (He.ga K (Str.ofString c)) /\ NoAttr K (He.ga K (Str.ofString c)) (Str.ofString "kept_more") := by
  intro c h
  rcases List.mem_cons.mp h with rfl | h
  . exact ⟨C.cl_Machine, C.n_Machine_kept_more⟩
  rcases List.mem_cons.mp h with rfl | h
  . exact ⟨C.cl_RawMachine, C.n_RawMachine_kept_more⟩
  cases h
theorem Ctx.f_is_integer (C : Ctx w K mg) : ∃ fd, FunD K "is_integer" "is_integer" (defArgs bg') (defBody bg') (defScope bg') [] [] (He.ga K "is_integer") fd := C.d.def_ 0 (d := fB') rfl
theorem lw' {f : Addr} {fd : FuncData} (F : FunD K "is_integer" "is_integer" (defArgs bg') (defBody bg') (defScope bg') [] [] f fd) : Binds K fd ["thing"] [] := F.bindsN fun _ _ _ _ _ _ us hl => match us, hl with | [_], _ => rfl
theorem Ctx.f_check_number (C : Ctx w K mg) : ∃ fd, FunD K "check_number" "check_number" (defArgs aW') (defBody aW') (defScope aW') [] [] (He.ga K "check_number") fd := C.d.def_ 1 (d := ei') rfl
theorem iH' {f : Addr} {fd : FuncData} (F : FunD K "check_number" "check_number" (defArgs aW') (defBody aW') (defScope aW') [] [] f fd) : Binds K fd ["thing", "least", "most"] [] := F.bindsN fun _ _ _ _ _ _ us hl => match us, hl with | [_, _, _], _ => rfl
theorem Ctx.f_is_string_of (C : Ctx w K mg) : ∃ fd, FunD K "is_string_of" "is_string_of" (defArgs aU') (defBody aU') (defScope aU') [] [] (He.ga K "is_string_of") fd := C.d.def_ 2 (d := eg') rfl
theorem iF' {f : Addr} {fd : FuncData} (F : FunD K "is_string_of" "is_string_of" (defArgs aU') (defBody aU') (defScope aU') [] [] f fd) : Binds K fd ["thing", "signs"] [] := F.bindsN fun _ _ _ _ _ _ us hl => match us, hl with | [_, _], _ => rfl
theorem Ctx.f_is_ascending (C : Ctx w K mg) : ∃ fd, FunD K "is_ascending" "is_ascending" (defArgs aV') (defBody aV') (defScope aV') [] [] (He.ga K "is_ascending") fd := C.d.def_ 3 (d := eh') rfl
theorem iG' {f : Addr} {fd : FuncData} (F : FunD K "is_ascending" "is_ascending" (defArgs aV') (defBody aV') (defScope aV') [] [] f fd) : Binds K fd ["thing"] [] := F.bindsN fun _ _ _ _ _ _ us hl => match us, hl with | [_], _ => rfl
theorem Ctx.f_is_choice (C : Ctx w K mg) : ∃ fd, FunD K "is_choice" "is_choice" (defArgs bv') (defBody bv') (defScope bv') [] [] (He.ga K "is_choice") fd := C.d.def_ 4 (d := gG') rfl
theorem mD' {f : Addr} {fd : FuncData} (F : FunD K "is_choice" "is_choice" (defArgs bv') (defBody bv') (defScope bv') [] [] f fd) : Binds K fd ["thing", "signs"] [] := F.bindsN fun _ _ _ _ _ _ us hl => match us, hl with | [_, _], _ => rfl
theorem Ctx.f_is_word (C : Ctx w K mg) : ∃ fd, FunD K "is_word" "is_word" (defArgs b4') (defBody b4') (defScope b4') [] [] (He.ga K "is_word") fd := C.d.def_ 5 (d := jf') rfl
theorem s3' {f : Addr} {fd : FuncData} (F : FunD K "is_word" "is_word" (defArgs b4') (defBody b4') (defScope b4') [] [] f fd) : Binds K fd ["machine", "thing"] [] := F.bindsN fun _ _ _ _ _ _ us hl => match us, hl with | [_, _], _ => rfl
theorem Ctx.f_check_word (C : Ctx w K mg) : ∃ fd, FunD K "check_word" "check_word" (defArgs bh') (defBody bh') (defScope bh') [] [] (He.ga K "check_word") fd := C.d.def_ 6 (d := fC') rfl
theorem lx' {f : Addr} {fd : FuncData} (F : FunD K "check_word" "check_word" (defArgs bh') (defBody bh') (defScope bh') [] [] f fd) : Binds K fd ["machine", "thing"] [] := F.bindsN fun _ _ _ _ _ _ us hl => match us, hl with | [_, _], _ => rfl
theorem Ctx.f_are_states (C : Ctx w K mg) : ∃ fd, FunD K "are_states" "are_states" (defArgs bi') (defBody bi') (defScope bi') [] [] (He.ga K "are_states") fd := C.d.def_ 7 (d := fD') rfl
theorem ly' {f : Addr} {fd : FuncData} (F : FunD K "are_states" "are_states" (defArgs bi') (defBody bi') (defScope bi') [] [] f fd) : Binds K fd ["thing", "many"] [] := F.bindsN fun _ _ _ _ _ _ us hl => match us, hl with | [_, _], _ => rfl
theorem Ctx.f_is_table (C : Ctx w K mg) : ∃ fd, FunD K "is_table" "is_table" (defArgs bL') (defBody bL') (defScope bL') [] [] (He.ga K "is_table") fd := C.d.def_ 8 (d := id') rfl
theorem pD' {f : Addr} {fd : FuncData} (F : FunD K "is_table" "is_table" (defArgs bL') (defBody bL') (defScope bL') [] [] f fd) : Binds K fd ["thing", "letters"] [] := F.bindsN fun _ _ _ _ _ _ us hl => match us, hl with | [_, _], _ => rfl
theorem Ctx.f_Machine___init__ (C : Ctx w K mg) : ∃ fd, FunD K "__init__" "Machine.__init__" (defArgs at') (defBody at') (defScope at') [] [] (He.ma K (He.ga K "Machine") "__init__") fd := C.d.def_ 9 (d := c7') rfl
theorem fG' {f : Addr} {fd : FuncData} (F : FunD K "__init__" "Machine.__init__" (defArgs at') (defBody at') (defScope at') [] [] f fd) : Binds K fd ["self", "letters", "table", "accepts"] [] := F.bindsN fun _ _ _ _ _ _ us hl => match us, hl with | [_, _, _, _], _ => rfl
theorem Ctx.f_Machine_keep (C : Ctx w K mg) : ∃ fd, FunD K "keep" "Machine.keep" (defArgs aY') (defBody aY') (defScope aY') [] [] (He.ma K (He.ga K "Machine") "keep") fd := C.d.def_ 10 (d := eo') rfl
theorem iM' {f : Addr} {fd : FuncData} (F : FunD K "keep" "Machine.keep" (defArgs aY') (defBody aY') (defScope aY') [] [] f fd) : Binds K fd ["self", "letters", "table", "accepts"] [] := F.bindsN fun _ _ _ _ _ _ us hl => match us, hl with | [_, _, _, _], _ => rfl
theorem Ctx.f_Machine_letters (C : Ctx w K mg) : ∃ fd, FunD K "letters" "Machine.letters" (defArgs ax') (defBody ax') (defScope ax') [] [] (He.ma K (He.ga K "Machine") "letters") fd := C.d.def_ 11 (d := dm') rfl
theorem gh' {f : Addr} {fd : FuncData} (F : FunD K "letters" "Machine.letters" (defArgs ax') (defBody ax') (defScope ax') [] [] f fd) : Binds K fd ["self"] [] := F.bindsN fun _ _ _ _ _ _ us hl => match us, hl with | [_], _ => rfl
theorem Ctx.f_Machine_table (C : Ctx w K mg) : ∃ fd, FunD K "table" "Machine.table" (defArgs aR') (defBody aR') (defScope aR') [] [] (He.ma K (He.ga K "Machine") "table") fd := C.d.def_ 12 (d := dW') rfl
theorem in' {f : Addr} {fd : FuncData} (F : FunD K "table" "Machine.table" (defArgs aR') (defBody aR') (defScope aR') [] [] f fd) : Binds K fd ["self"] [] := F.bindsN fun _ _ _ _ _ _ us hl => match us, hl with | [_], _ => rfl
theorem Ctx.f_Machine_accepts (C : Ctx w K mg) : ∃ fd, FunD K "accepts" "Machine.accepts" (defArgs ay') (defBody ay') (defScope ay') [] [] (He.ma K (He.ga K "Machine") "accepts") fd := C.d.def_ 13 (d := dn') rfl
theorem gi' {f : Addr} {fd : FuncData} (F : FunD K "accepts" "Machine.accepts" (defArgs ay') (defBody ay') (defScope ay') [] [] f fd) : Binds K fd ["self"] [] := F.bindsN fun _ _ _ _ _ _ us hl => match us, hl with | [_], _ => rfl
theorem Ctx.f_Machine_parts (C : Ctx w K mg) : ∃ fd, FunD K "parts" "Machine.parts" (defArgs aS') (defBody aS') (defScope aS') [] [] (He.ma K (He.ga K "Machine") "parts") fd := C.d.def_ 14 (d := dX') rfl
theorem io' {f : Addr} {fd : FuncData} (F : FunD K "parts" "Machine.parts" (defArgs aS') (defBody aS') (defScope aS') [] [] f fd) : Binds K fd ["self"] [] := F.bindsN fun _ _ _ _ _ _ us hl => match us, hl with | [_], _ => rfl
theorem Ctx.f_Machine___eq__ (C : Ctx w K mg) : ∃ fd, FunD K "__eq__" "Machine.__eq__" (defArgs aG') (defBody aG') (defScope aG') [] [] (He.ma K (He.ga K "Machine") "__eq__") fd := C.d.def_ 15 (d := dD') rfl
theorem g1' {f : Addr} {fd : FuncData} (F : FunD K "__eq__" "Machine.__eq__" (defArgs aG') (defBody aG') (defScope aG') [] [] f fd) : Binds K fd ["self", "other"] [] := F.bindsN fun _ _ _ _ _ _ us hl => match us, hl with | [_, _], _ => rfl
theorem Ctx.f_RawMachine___init__ (C : Ctx w K mg) : ∃ fd, FunD K "__init__" "RawMachine.__init__" (defArgs am') (defBody am') (defScope am') [] [] (He.ma K (He.ga K "RawMachine") "__init__") fd := C.d.def_ 16 (d := cn') rfl
theorem eq' {f : Addr} {fd : FuncData} (F : FunD K "__init__" "RawMachine.__init__" (defArgs am') (defBody am') (defScope am') [] [] f fd) : Binds K fd ["self", "letters", "table", "accepts"] [] := F.bindsN fun _ _ _ _ _ _ us hl => match us, hl with | [_, _, _, _], _ => rfl
theorem Ctx.f_led (C : Ctx w K mg) : ∃ fd, FunD K "led" "led" (defArgs iz') (defBody iz') (defScope iz') [] [] (He.ga K "led") fd := C.d.def_ 17 (d := vX') rfl
theorem DU' {f : Addr} {fd : FuncData} (F : FunD K "led" "led" (defArgs iz') (defBody iz') (defScope iz') [] [] f fd) : Binds K fd ["machine", "state", "word"] [] := F.bindsN fun _ _ _ _ _ _ us hl => match us, hl with | [_, _, _], _ => rfl
theorem Ctx.f_says (C : Ctx w K mg) : ∃ fd, FunD K "says" "says" (defArgs eL') (defBody eL') (defScope eL') [] [] (He.ga K "says") fd := C.d.def_ 18 (d := sL') rfl
theorem Bv' {f : Addr} {fd : FuncData} (F : FunD K "says" "says" (defArgs eL') (defBody eL') (defScope eL') [] [] f fd) : Binds K fd ["machine", "word"] [] := F.bindsN fun _ _ _ _ _ _ us hl => match us, hl with | [_, _], _ => rfl
theorem Ctx.f_says_far (C : Ctx w K mg) : ∃ fd, FunD K "says_far" "says_far" (defArgs bq') (defBody bq') (defScope bq') [] [] (He.ga K "says_far") fd := C.d.def_ 19 (d := ib') rfl
theorem pB' {f : Addr} {fd : FuncData} (F : FunD K "says_far" "says_far" (defArgs bq') (defBody bq') (defScope bq') [] [] f fd) : Binds K fd ["machine", "word", "times"] [] := F.bindsN fun _ _ _ _ _ _ us hl => match us, hl with | [_, _, _], _ => rfl
theorem Ctx.f_reached (C : Ctx w K mg) : ∃ fd, FunD K "reached" "reached" (defArgs b3') (defBody b3') (defScope b3') [] [] (He.ga K "reached") fd := C.d.def_ 20 (d := jd') rfl
theorem s1' {f : Addr} {fd : FuncData} (F : FunD K "reached" "reached" (defArgs b3') (defBody b3') (defScope b3') [] [] f fd) : Binds K fd ["machine"] [] := F.bindsN fun _ _ _ _ _ _ us hl => match us, hl with | [_], _ => rfl
theorem Ctx.f_numbered (C : Ctx w K mg) : ∃ fd, FunD K "numbered" "numbered" (defArgs bK') (defBody bK') (defScope bK') [] [] (He.ga K "numbered") fd := C.d.def_ 21 (d := ic') rfl
theorem pC' {f : Addr} {fd : FuncData} (F : FunD K "numbered" "numbered" (defArgs bK') (defBody bK') (defScope bK') [] [] f fd) : Binds K fd ["keys"] [] := F.bindsN fun _ _ _ _ _ _ us hl => match us, hl with | [_], _ => rfl
theorem Ctx.f_alike_states (C : Ctx w K mg) : ∃ fd, FunD K "alike_states" "alike_states" (defArgs aE') (defBody aE') (defScope aE') [] [] (He.ga K "alike_states") fd := C.d.def_ 22 (d := ek') rfl
theorem iI' {f : Addr} {fd : FuncData} (F : FunD K "alike_states" "alike_states" (defArgs aE') (defBody aE') (defScope aE') [] [] f fd) : Binds K fd ["machine", "states"] [] := F.bindsN fun _ _ _ _ _ _ us hl => match us, hl with | [_, _], _ => rfl
theorem Ctx.f_least (C : Ctx w K mg) : ∃ fd, FunD K "least" "least" (defArgs cD') (defBody cD') (defScope cD') [] [] (He.ga K "least") fd := C.d.def_ 23 (d := oK') rfl
theorem yn' {f : Addr} {fd : FuncData} (F : FunD K "least" "least" (defArgs cD') (defBody cD') (defScope cD') [] [] f fd) : Binds K fd ["machine"] [] := F.bindsN fun _ _ _ _ _ _ us hl => match us, hl with | [_], _ => rfl
theorem Ctx.f_line_of (C : Ctx w K mg) : ∃ fd, FunD K "line_of" "line_of" (defArgs bS') (defBody bS') (defScope bS') [] [] (He.ga K "line_of") fd := C.d.def_ 24 (d := je') rfl
theorem s2' {f : Addr} {fd : FuncData} (F : FunD K "line_of" "line_of" (defArgs bS') (defBody bS') (defScope bS') [] [] f fd) : Binds K fd ["word", "numbers"] [] := F.bindsN fun _ _ _ _ _ _ us hl => match us, hl with | [_, _], _ => rfl
theorem Ctx.f_machine_text (C : Ctx w K mg) : ∃ fd, FunD K "machine_text" "machine_text" (defArgs aN') (defBody aN') (defScope aN') [] [] (He.ga K "machine_text") fd := C.d.def_ 25 (d := ef') rfl
theorem iE' {f : Addr} {fd : FuncData} (F : FunD K "machine_text" "machine_text" (defArgs aN') (defBody aN') (defScope aN') [] [] f fd) : Binds K fd ["machine"] [] := F.bindsN fun _ _ _ _ _ _ us hl => match us, hl with | [_], _ => rfl
theorem Ctx.f_numbers_behind (C : Ctx w K mg) : ∃ fd, FunD K "numbers_behind" "numbers_behind" (defArgs ap') (defBody ap') (defScope ap') [] [] (He.ga K "numbers_behind") fd := C.d.def_ 26 (d := dB') rfl
theorem gZ' {f : Addr} {fd : FuncData} (F : FunD K "numbers_behind" "numbers_behind" (defArgs ap') (defBody ap') (defScope ap') [] [] f fd) : Binds K fd ["line", "word", "below"] [] := F.bindsN fun _ _ _ _ _ _ us hl => match us, hl with | [_, _, _], _ => rfl
theorem Ctx.f_read_machine (C : Ctx w K mg) : ∃ fd, FunD K "read_machine" "read_machine" (defArgs aD') (defBody aD') (defScope aD') [] [] (He.ga K "read_machine") fd := C.d.def_ 27 (d := ee') rfl
theorem iD' {f : Addr} {fd : FuncData} (F : FunD K "read_machine" "read_machine" (defArgs aD') (defBody aD') (defScope aD') [] [] f fd) : Binds K fd ["text"] [] := F.bindsN fun _ _ _ _ _ _ us hl => match us, hl with | [_], _ => rfl
theorem Ctx.f__law_hand (C : Ctx w K mg) : ∃ fd, FunD K "_law_hand" "_law_hand" (defArgs bm') (defBody bm') (defScope bm') [] [] (He.ga K "_law_hand") fd := C.d.def_ 28 (d := gK') rfl
theorem mH' {f : Addr} {fd : FuncData} (F : FunD K "_law_hand" "_law_hand" (defArgs bm') (defBody bm') (defScope bm') [] [] f fd) : Binds K fd ["_law_script"] [] := F.bindsN fun _ _ _ _ _ _ us hl => match us, hl with | [_], _ => rfl
theorem Ctx.f__law_draw (C : Ctx w K mg) : ∃ fd, FunD K "_law_draw" "_law_draw" (defArgs bA') (defBody bA') (defScope bA') [] [] (He.ga K "_law_draw") fd := C.d.def_ 29 (d := gM') rfl
theorem mJ' {f : Addr} {fd : FuncData} (F : FunD K "_law_draw" "_law_draw" (defArgs bA') (defBody bA') (defScope bA') [] [] f fd) : Binds K fd ["_law_hand_here", "_law_many"] [] := F.bindsN fun _ _ _ _ _ _ us hl => match us, hl with | [_, _], _ => rfl
theorem Ctx.f__law_letters (C : Ctx w K mg) : ∃ fd, FunD K "_law_letters" "_law_letters" (defArgs aX') (defBody aX') (defScope aX') [] [] (He.ga K "_law_letters") fd := C.d.def_ 30 (d := em') rfl
theorem iK' {f : Addr} {fd : FuncData} (F : FunD K "_law_letters" "_law_letters" (defArgs aX') (defBody aX') (defScope aX') [] [] f fd) : Binds K fd ["_law_hand_here", "_law_signs", "_law_many"] [] := F.bindsN fun _ _ _ _ _ _ us hl => match us, hl with | [_, _, _], _ => rfl
theorem Ctx.f__law_word (C : Ctx w K mg) : ∃ fd, FunD K "_law_word" "_law_word" (defArgs bw') (defBody bw') (defScope bw') [] [] (He.ga K "_law_word") fd := C.d.def_ 31 (d := gH') rfl
theorem mE' {f : Addr} {fd : FuncData} (F : FunD K "_law_word" "_law_word" (defArgs bw') (defBody bw') (defScope bw') [] [] f fd) : Binds K fd ["_law_hand_here", "_law_letters_here", "_law_many"] [] := F.bindsN fun _ _ _ _ _ _ us hl => match us, hl with | [_, _, _], _ => rfl
theorem Ctx.f__law_says (C : Ctx w K mg) : ∃ fd, FunD K "_law_says" "_law_says" (defArgs bx') (defBody bx') (defScope bx') [] [] (He.ga K "_law_says") fd := C.d.def_ 32 (d := gI') rfl
theorem mF' {f : Addr} {fd : FuncData} (F : FunD K "_law_says" "_law_says" (defArgs bx') (defBody bx') (defScope bx') [] [] f fd) : Binds K fd ["_law_letters_here", "_law_table", "_law_accepts", "_law_word_here"] [] := F.bindsN fun _ _ _ _ _ _ us hl => match us, hl with | [_, _, _, _], _ => rfl
theorem Ctx.f__law_is_whole (C : Ctx w K mg) : ∃ fd, FunD K "_law_is_whole" "_law_is_whole" (defArgs aP') (defBody aP') (defScope aP') [] [] (He.ga K "_law_is_whole") fd := C.d.def_ 33 (d := dU') rfl
theorem il' {f : Addr} {fd : FuncData} (F : FunD K "_law_is_whole" "_law_is_whole" (defArgs aP') (defBody aP') (defScope aP') [] [] f fd) : Binds K fd ["_law_thing"] [] := F.bindsN fun _ _ _ _ _ _ us hl => match us, hl with | [_], _ => rfl
theorem Ctx.f__law_some_letters (C : Ctx w K mg) : ∃ fd, FunD K "_law_some_letters" "_law_some_letters" (defArgs as') (defBody as') (defScope as') [] [] (He.ga K "_law_some_letters") fd := C.d.def_ 34 (d := cJ') rfl
theorem e6' {f : Addr} {fd : FuncData} (F : FunD K "_law_some_letters" "_law_some_letters" (defArgs as') (defBody as') (defScope as') [] [] f fd) : Binds K fd ["_law_hand_here"] [] := F.bindsN fun _ _ _ _ _ _ us hl => match us, hl with | [_], _ => rfl
theorem Ctx.f__law_is_form (C : Ctx w K mg) : ∃ fd, FunD K "_law_is_form" "_law_is_form" (defArgs aw') (defBody aw') (defScope aw') [] [] (He.ga K "_law_is_form") fd := C.d.def_ 35 (d := en') rfl
theorem iL' {f : Addr} {fd : FuncData} (F : FunD K "_law_is_form" "_law_is_form" (defArgs aw') (defBody aw') (defScope aw') [] [] f fd) : Binds K fd ["_law_letters_here", "_law_machine"] [] := F.bindsN fun _ _ _ _ _ _ us hl => match us, hl with | [_, _], _ => rfl
theorem Ctx.f__law_all_unlike (C : Ctx w K mg) : ∃ fd, FunD K "_law_all_unlike" "_law_all_unlike" (defArgs ar') (defBody ar') (defScope ar') [] [] (He.ga K "_law_all_unlike") fd := C.d.def_ 36 (d := dl') rfl
theorem gg' {f : Addr} {fd : FuncData} (F : FunD K "_law_all_unlike" "_law_all_unlike" (defArgs ar') (defBody ar') (defScope ar') [] [] f fd) : Binds K fd ["_law_table", "_law_accepts"] [] := F.bindsN fun _ _ _ _ _ _ us hl => match us, hl with | [_, _], _ => rfl
theorem Ctx.f__law_in_order (C : Ctx w K mg) : ∃ fd, FunD K "_law_in_order" "_law_in_order" (defArgs aQ') (defBody aQ') (defScope aQ') [] [] (He.ga K "_law_in_order") fd := C.d.def_ 37 (d := dV') rfl
theorem im' {f : Addr} {fd : FuncData} (F : FunD K "_law_in_order" "_law_in_order" (defArgs aQ') (defBody aQ') (defScope aQ') [] [] f fd) : Binds K fd ["_law_table"] [] := F.bindsN fun _ _ _ _ _ _ us hl => match us, hl with | [_], _ => rfl
theorem Ctx.f__law_written (C : Ctx w K mg) : ∃ fd, FunD K "_law_written" "_law_written" (defArgs aF') (defBody aF') (defScope aF') [] [] (He.ga K "_law_written") fd := C.d.def_ 38 (d := el') rfl
theorem iJ' {f : Addr} {fd : FuncData} (F : FunD K "_law_written" "_law_written" (defArgs aF') (defBody aF') (defScope aF') [] [] f fd) : Binds K fd ["_law_letters_here", "_law_table", "_law_accepts"] [] := F.bindsN fun _ _ _ _ _ _ us hl => match us, hl with | [_, _, _], _ => rfl
theorem Ctx.f__law_any_table (C : Ctx w K mg) : ∃ fd, FunD K "_law_any_table" "_law_any_table" (defArgs aq') (defBody aq') (defScope aq') [] [] (He.ga K "_law_any_table") fd := C.d.def_ 39 (d := dC') rfl
theorem g0' {f : Addr} {fd : FuncData} (F : FunD K "_law_any_table" "_law_any_table" (defArgs aq') (defBody aq') (defScope aq') [] [] f fd) : Binds K fd ["_law_hand_here", "_law_many", "_law_size"] [] := F.bindsN fun _ _ _ _ _ _ us hl => match us, hl with | [_, _, _], _ => rfl
theorem Ctx.f__law_flag (C : Ctx w K mg) : ∃ fd, FunD K "_law_flag" "_law_flag" (defArgs bz') (defBody bz') (defScope bz') [] [] (He.ga K "_law_flag") fd := C.d.def_ 40 (d := gL') rfl
theorem mI' {f : Addr} {fd : FuncData} (F : FunD K "_law_flag" "_law_flag" (defArgs bz') (defBody bz') (defScope bz') [] [] f fd) : Binds K fd ["_law_found", "_law_due"] [] := F.bindsN fun _ _ _ _ _ _ us hl => match us, hl with | [_, _], _ => rfl
theorem Ctx.f__law_same (C : Ctx w K mg) : ∃ fd, FunD K "_law_same" "_law_same" (defArgs by') (defBody by') (defScope by') [] [] (He.ga K "_law_same") fd := C.d.def_ 41 (d := gJ') rfl
theorem mG' {f : Addr} {fd : FuncData} (F : FunD K "_law_same" "_law_same" (defArgs by') (defBody by') (defScope by') [] [] f fd) : Binds K fd ["_law_one", "_law_other"] [] := F.bindsN fun _ _ _ _ _ _ us hl => match us, hl with | [_, _], _ => rfl
theorem Ctx.f__law_parts_of (C : Ctx w K mg) : ∃ fd, FunD K "_law_parts_of" "_law_parts_of" (defArgs aO') (defBody aO') (defScope aO') [] [] (He.ga K "_law_parts_of") fd := C.d.def_ 42 (d := dT') rfl
theorem ik' {f : Addr} {fd : FuncData} (F : FunD K "_law_parts_of" "_law_parts_of" (defArgs aO') (defBody aO') (defScope aO') [] [] f fd) : Binds K fd ["_law_machine"] [] := F.bindsN fun _ _ _ _ _ _ us hl => match us, hl with | [_], _ => rfl
theorem Ctx.f_law (C : Ctx w K mg) : ∃ fd, FunD K "law" "law" (defArgs hL') (defBody hL') (defScope hL') [] [] (He.ga K "law") fd := C.d.def_ 43 (d := vY') rfl
end
end S
namespace M
structure En where
  nx : PSt -> Prop
  rt : O -> W -> Prop
  bk : PSt -> Prop
  ct : PSt -> Prop
  ex : Exc -> PSt -> Prop
def vE {α : Type} (r : Res α) (Q : α -> PSt -> Prop) (X : Exc -> PSt -> Prop) : Prop := match r with
  | .ok a ρ => Q a ρ
  | .exc x ρ => X x ρ
  | .bad => False
def vS (o : Out) (D : En) : Prop := match o with
  | .nx ρ => D.nx ρ
  | .rt o w => D.rt o w
  | .bk ρ => D.bk ρ
  | .ct ρ => D.ct ρ
  | .exc x ρ => D.ex x ρ
  | .bad => False
def vF (r : FRes) (Q : O -> W -> Prop) (X : Exc -> W -> Prop) : Prop := match r with
  | .ok o w => Q o w
  | .exc x w => X x w
  | .bad => False
def vD {α : Type} (o : Option α) (Q : α -> Prop) : Prop := match o with
  | some z => Q z
  | none => False
def vI (k : Bool) (A B : Prop) : Prop := if k = true then A else B
def vB (d : D) (P : Bool -> Prop) : Prop := match d with
  | .bl k => P k
  | _ => False
def vT (d : D) (P : Tx -> Prop) : Prop := match d with
  | .str s => P s
  | _ => False
def vN (d : D) (P : Int -> Prop) : Prop := match d with
  | .int s => P s
  | _ => False
def vV (o : Option (Option O)) (i : Nat) (ρ : PSt) (Q : D -> PSt -> Prop) : Prop := match o with
  | some (some (.fz d)) => Q d ρ
  | some (some .exn) => False
  | some (some .clo) => False
  | some (some o) => Q (frz o) ⟨ρ.env.set i (some (.fz (frz o))), ρ.w⟩
  | _ => False
def vG (o : Option (Option O)) (i : Nat) (ρ : PSt) (Q : O -> PSt -> Prop) : Prop := match o with
  | some (some (.fz d)) => Q (.fz d) ρ
  | some (some .exn) => False
  | some (some .clo) => False
  | some (some o) => Q o ⟨ρ.env.set i none, ρ.w⟩
  | _ => False
def vO (o : Option (Option O)) (Q : O -> Prop) : Prop := match o with
  | some (some o) => Q o
  | _ => False
def vL (o : Option (Option O)) (Q : List O -> Prop) : Prop := match o with
  | some (some (.lst os)) => Q os
  | _ => False
def asF : O -> Option D
  | .fz d => some d
  | _ => none
def asL : D -> Option (List D)
  | .lst ds => some ds
  | _ => none
abbrev FX : Exc -> W -> Prop := fun _ _ => False
abbrev PX : Exc -> PSt -> Prop := fun _ _ => False
section
variable {α β : Type} {Q : α -> PSt -> Prop} {X : Exc -> PSt -> Prop} {ρ : PSt} {P : D -> PSt -> Prop} {D0 : En}
theorem ai' (r : Res β) (f : β -> PSt -> Res α) : vE (r.bind f) Q X = vE r (fun b ρ => vE (f b ρ) Q X) X := by cases r <;> rfl
theorem bV' (r : Res β) (f : β -> PSt -> Out) : vS (r.out f) D0 = vE r (fun b ρ => vS (f b ρ) D0) D0.ex := by cases r <;> rfl
theorem be' (o : Option α) : vE (ofO o ρ) Q X = vD o (fun z => Q z ρ) := by cases o <;> rfl
theorem gQ' (a : α) : vE (.ok a ρ) Q X = Q a ρ := rfl
theorem g7' (d : D) {Q : Bool -> PSt -> Prop} : vE (asB d ρ) Q X = vB d (fun k => Q k ρ) := by cases d <;> rfl
theorem g6' (k : Bool) (a b : Res α) : vE (if k = true then a else b) Q X = vI k (vE a Q X) (vE b Q X) := by cases k <;> rfl
theorem tq' (k : Bool) (a b : Out) : vS (if k = true then a else b) D0 = vI k (vS a D0) (vS b D0) := by cases k <;> rfl
theorem j6' (z : α) {Q : α -> Prop} : vD (some z) Q = Q z := rfl
theorem qk' (k : Bool) {Q : Bool -> Prop} : vB (.bl k) Q = Q k := rfl
theorem u9' (A B : Prop) : vI true A B = A := rfl
theorem va' (A B : Prop) : vI false A B = B := rfl
theorem ne' (k : Bool) (A B : Prop) : vI (!k) A B = vI k B A := by cases k <;> rfl
theorem y7' (d : D) : vE (eC d ρ) P X = P d ρ := rfl
theorem y5' (i : Nat) (env : List (Option O)) (w : W) : vE (eV i ⟨env, w⟩) P X = vV env[i]? i ⟨env, w⟩ P := by
  show vE (match env[i]? with | some (some (.fz d)) => Res.ok d ⟨env, w⟩ | some (some .exn) => .bad | some (some .clo) => .bad | some (some o) => .ok (frz o) ⟨env.set i (some (.fz (frz o))), w⟩ | _ => .bad) P X = _
  rcases env[i]? with _ | _ | o
  . rfl
  . rfl
  . cases o <;> rfl
theorem qe' (d : D) (i : Nat) (ρ : PSt) : vV (some (some (.fz d))) i ρ P = P d ρ := rfl
theorem m9' (os : List O) (i : Nat) (env : List (Option O)) (w : W) : vV (some (some (.lst os))) i ⟨env, w⟩ P = P (.lst (frzs os)) ⟨env.set i (some (.fz (.lst (frzs os)))), w⟩ := rfl
theorem m8' (os : List O) (i : Nat) (env : List (Option O)) (w : W) : vV (some (some (.tup os))) i ⟨env, w⟩ P = P (.tup (frzs os)) ⟨env.set i (some (.fz (.tup (frzs os)))), w⟩ := rfl
theorem na' (ks : List D) (os : List O) (i : Nat) (env : List (Option O)) (w : W) : vV (some (some (.dct ks os))) i ⟨env, w⟩ P = P (.dct ks (frzs os)) ⟨env.set i (some (.fz (.dct ks (frzs os)))), w⟩ := rfl
theorem qg' (d : D) (i : Nat) (ρ : PSt) {P : O -> PSt -> Prop} : vG (some (some (.fz d))) i ρ P = P (.fz d) ρ := rfl
theorem nh' (os : List O) (i : Nat) (env : List (Option O)) (w : W) {P : O -> PSt -> Prop} : vG (some (some (.lst os))) i ⟨env, w⟩ P = P (.lst os) ⟨env.set i none, w⟩ := rfl
theorem ng' (os : List O) (i : Nat) (env : List (Option O)) (w : W) {P : O -> PSt -> Prop} : vG (some (some (.tup os))) i ⟨env, w⟩ P = P (.tup os) ⟨env.set i none, w⟩ := rfl
theorem ni' (ks : List D) (os : List O) (i : Nat) (env : List (Option O)) (w : W) {P : O -> PSt -> Prop} : vG (some (some (.dct ks os))) i ⟨env, w⟩ P = P (.dct ks os) ⟨env.set i none, w⟩ := rfl
theorem j4' (o : O) {P : O -> Prop} : vO (some (some o)) P = P o := rfl
theorem nd' (os : List O) {P : List O -> Prop} : vL (some (some (.lst os))) P = P os := rfl
theorem u5' (f : D -> D -> Option D) (a b : ME) : vE (eOp f a b ρ) P X = vE (a ρ) (fun x ρ1 => vE (b ρ1) (fun y ρ2 => vD (f x y) (fun z => P z ρ2)) X) X := by simp only [eOp, ai', be']
theorem u2' (f : D -> Option D) (a : ME) : vE (eUn f a ρ) P X = vE (a ρ) (fun x ρ1 => vD (f x) (fun z => P z ρ1)) X := by simp only [eUn, ai', be']
theorem qd' (a b : ME) : vE (oH' a b ρ) P X = vE (a ρ) (fun x ρ1 => vB x fun k => vI k (vE (b ρ1) P X) (P (.bl false) ρ1)) X := by simp only [oH', ai', g7', g6', gQ']
theorem p6' (a : ME) : vE (yC' a ρ) P X = vE (a ρ) (fun x ρ1 => vB x fun k => P (.bl (!k)) ρ1) X := by simp only [yC', ai', g7', gQ']
theorem j1' (f g : D -> D -> Option D) (a b c : ME) : vE (gF' f g a b c ρ) P X = vE (a ρ) (fun x ρ1 => vE (b ρ1) (fun y ρ2 => vD (f x y) fun r => vB r fun k => vI k (vE (c ρ2) (fun z ρ3 => vD (g y z) fun v => P v ρ3) X) (P (.bl false) ρ2)) X) X := by
  simp only [gF', ai', be', g7', g6', gQ']
theorem p7' {P : List D -> PSt -> Prop} : vE (aZ' ρ) P X = P [] ρ := rfl
theorem m6' (a : ME) (r : MA) {P : List D -> PSt -> Prop} : vE (ad' a r ρ) P X = vE (a ρ) (fun x ρ1 => vE (r ρ1) (fun xs ρ2 => P (x :: xs) ρ2) X) X := by simp only [ad', ai', gQ']
def lE' (n : Nat) (A : Prop) : Prop := n <= 16777216 /\ A
theorem j5' {n : Nat} (h : n <= 16777216) (A : Prop) : lE' n A = A := by unfold lE'; simp [h]
theorem p4' (as : MA) : vE (pm' as ρ) P X = vE (as ρ) (fun xs ρ1 => lE' xs.length (P (.tup xs) ρ1)) X := by
  simp only [pm', ai']
  congr
  funext xs ρ1
  unfold lE'
  by_cases h : xs.length <= 16777216
  . rw [if_pos h]; simp [vE, h]
  . rw [if_neg h]; simp [vE, h]
theorem p8' (as : MA) : vE (pL' as ρ) P X = vE (as ρ) (fun xs ρ1 => lE' xs.length (P (.lst xs) ρ1)) X := by
  simp only [pL', ai']
  congr
  funext xs ρ1
  unfold lE'
  by_cases h : xs.length <= 16777216
  . rw [if_pos h]; simp [vE, h]
  . rw [if_neg h]; simp [vE, h]
theorem u7' (f : Tx -> List D -> Option D) (a : ME) (as : MA) : vE (eMt f a as ρ) P X = vE (a ρ) (fun x ρ1 => vT x fun s => vE (as ρ1) (fun ds ρ2 => vD (f s ds) fun z => P z ρ2) X) X := by
  simp only [eMt, ai']
  congr
  funext x ρ1
  cases x <;> simp only [ai', be'] <;> rfl
theorem nb' (s : Tx) {P : Tx -> Prop} : vT (.str s) P = P s := rfl
theorem nc' (s : Int) {P : Int -> Prop} : vN (.int s) P = P s := rfl
theorem u6' {P : Option Int -> PSt -> Prop} : vE (pNo ρ) P X = P none ρ := rfl
theorem u3' (a : ME) {P : Option Int -> PSt -> Prop} : vE (pSo a ρ) P X = vE (a ρ) (fun x ρ1 => vN x fun i => P (some i) ρ1) X := by
  simp only [pSo, ai']
  congr
  funext x ρ1
  cases x <;> rfl
theorem u4' (a : ME) (lo hi : MP) : vE (eSl a lo hi ρ) P X = vE (a ρ) (fun x ρ1 => vE (lo ρ1) (fun l ρ2 => vE (hi ρ2) (fun h ρ3 => vD (pSl x l h) fun z => P z ρ3) X) X) X := by simp only [eSl, ai', be']
theorem y6' (a : MO) : vE (eO a ρ) P X = vE (a ρ) (fun o ρ1 => P (frz o) ρ1) X := by simp only [eO, ai', gQ']
variable {R : O -> PSt -> Prop}
theorem u1' (a : ME) : vE (oE a ρ) R X = vE (a ρ) (fun d ρ1 => R (.fz d) ρ1) X := by simp only [oE, ai', gQ']
theorem u0' (i : Nat) (env : List (Option O)) (w : W) : vE (oV i ⟨env, w⟩) R X = vG env[i]? i ⟨env, w⟩ R := by
  show vE (match env[i]? with | some (some (.fz d)) => Res.ok (O.fz d) ⟨env, w⟩ | some (some .exn) => .bad | some (some .clo) => .bad | some (some o) => .ok o ⟨env.set i none, w⟩ | _ => .bad) R X = _
  rcases env[i]? with _ | _ | o
  . rfl
  . rfl
  . cases o <;> rfl
theorem m7' (f : MF) (as : MA) : vE (aB' f as ρ) R X = vE (as ρ) (fun ds ρ1 => vF (f ds ρ1.w) (fun o w => R o ⟨ρ1.env, w⟩) fun x w => X x ⟨ρ1.env, w⟩) X := by
  simp only [aB', ai']
  congr
  funext ds ρ1
  cases f ds ρ1.w <;> rfl
theorem mY' (a : ME) : vE (te' a ρ) R X = vE (a ρ) (fun d ρ1 => vD (asL d) fun ds => R (.lst (ds.map .fz)) ρ1) X := by
  simp only [te', ai']
  congr
  funext d ρ1
  cases d <;> rfl
theorem j0' : vE (kK' ρ) R X = R (.dct [] []) ρ := rfl
theorem qa' (i : Nat) (b : ME) (env : List (Option O)) (w : W) : vE (yD' i b ⟨env, w⟩) P X = vO env[i]? fun _ => vE (b ⟨env, w⟩) (fun k ρ1 => vO ρ1.env[i]? fun o => vD (ixO o k) fun z => P z ρ1) X := by
  show vE (match env[i]? with
  | some (some _) => (b ⟨env, w⟩).bind fun k ρ1 => match ρ1.env[i]? with
    | some (some o) => ofO (ixO o k) ρ1
    | _ => .bad
  | _ => .bad) P X = _
  rcases env[i]? with _ | _ | o
  . rfl
  . rfl
  simp only [ai', vO]
  congr
  funext k ρ1
  rcases ρ1.env[i]? with _ | _ | o
  . rfl
  . rfl
  exact be' _
theorem m5' (i : Nat) : vE (ia' i ρ) P X = vO ρ.env[i]? fun o => vD (pf' o) fun z => P z ρ := by
  unfold ia'
  rcases ρ.env[i]? with _ | _ | o
  . rfl
  . rfl
  exact be' _
theorem p9' (a b : ME) : vE (jW' a b ρ) P X = vE (a ρ) (fun x ρ1 => vE (b ρ1) (fun y ρ2 => vD (ixW ρ2.w x y) fun z => P z ρ2) X) X := by simp only [jW', ai', be']
theorem p5' (as : MA) : vE (z0' as ρ) R X = vE (as ρ) (fun xs ρ1 => lE' xs.length (R (.fz (.obj ρ1.w.length)) ⟨ρ1.env, ρ1.w ++ [.lst (xs.map .fz)]⟩)) X := by
  simp only [z0', ai']
  congr
  funext xs ρ1
  unfold lE'
  by_cases h : xs.length <= 16777216
  . rw [if_pos h]; simp [vE, h]
  . rw [if_neg h]; simp [vE, h]
theorem qb' (cs : List String) (a : ME) (f : String) : vE (e8' cs a f ρ) P X = vE (a ρ) (fun x ρ1 => vD (h9' cs f ρ1.w x) fun z => P z ρ1) X := by simp only [e8', ai', be']
theorem m4' (C : String) (init : MF) (as : MA) : vE (kJ' C init as ρ) R X = vE (as ρ) (fun ds ρ1 => vF (init (.obj ρ1.w.length :: ds) (ρ1.w ++ [.ins C []])) (fun o w => o = .fz .non /\ R (.fz (.obj ρ1.w.length)) ⟨ρ1.env, w⟩) fun x w => X x ⟨ρ1.env, w⟩) X := by
  simp only [kJ', ai']
  congr
  funext ds ρ1
  cases init (.obj ρ1.w.length :: ds) (ρ1.w ++ [.ins C []]) with
  | ok o w =>
    cases o with
    | fz d => cases d <;> simp [vE, vF]
    | _ => simp [vE, vF]
  | _ => rfl
theorem m3' (C : List String) (m : String) (f : MF) (a : ME) (as : MA) : vE (cM' C m f a as ρ) R X = vE (a ρ) (fun x ρ1 => jI' C m ρ1.w x = true /\ vE (as ρ1) (fun ds ρ2 => vF (f (x :: ds) ρ2.w) (fun o w => R o ⟨ρ2.env, w⟩) fun x w => X x ⟨ρ2.env, w⟩) X) X := by
  simp only [cM', ai']
  congr
  funext x ρ1
  by_cases h : jI' C m ρ1.w x = true
  . rw [if_pos h]
    simp only [h, true_and, ai']
    congr
    funext ds ρ2
    cases f (x :: ds) ρ2.w <;> rfl
  . rw [if_neg h]
    simp [vE, h]
def vX (o : Option (Option O)) (A : Prop) : Prop := match o with
  | some (some .exn) => A
  | _ => False
variable {B : Bool -> PSt -> Prop}
theorem uZ' (a : ME) : vE (tE a ρ) B X = vE (a ρ) (fun d ρ1 => vB d fun k => B k ρ1) X := by simp only [tE, ai', g7']
theorem mW' (a : MT) : vE (eJ' a ρ) B X = vE (a ρ) (fun k ρ1 => B (!k) ρ1) X := by simp only [eJ', ai', gQ']
theorem mX' (a b : MT) : vE (za' a b ρ) B X = vE (a ρ) (fun k ρ1 => vI k (vE (b ρ1) B X) (B false ρ1)) X := by simp only [za', ai', g6', gQ']
theorem pX' (a b : MT) : vE (tOr a b ρ) B X = vE (a ρ) (fun k ρ1 => vI k (B true ρ1) (vE (b ρ1) B X)) X := by simp only [tOr, ai', g6', gQ']
theorem uY' : vE (tT ρ) B X = B true ρ := rfl
variable {Y : List D -> PSt -> Prop}
theorem m0' (a : ME) : vE (eC' a ρ) Y X = vE (a ρ) (fun d ρ1 => vD (eU' d) fun z => Y z ρ1) X := by simp only [eC', ai', be']
theorem hu' (a : ME) : vE (bO' a ρ) Y X = vE (a ρ) (fun d ρ1 => vD (f0' d) fun z => Y z ρ1) X := by simp only [bO', ai', be']
theorem ht' (a b : ME) : vE (h8' a b ρ) Y X = vE (a ρ) (fun d ρ1 => vE (b ρ1) (fun e ρ2 => vD (fZ' d e) fun z => Y z ρ2) X) X := by simp only [h8', ai', be']
theorem mZ' (a b : ME) : vE (Aq' a b ρ) Y X = vE (a ρ) (fun d ρ1 => vE (b ρ1) (fun e ρ2 => vD (ta' d e) fun z => Y z ρ2) X) X := by simp only [Aq', ai', be']
theorem u8' (own : List Nat) (it : MI) (g : MG) (t : MT) (e : ME) : vE (eLc own it g t e ρ) P X = vE (it ρ) (fun xs ρ1 => vE (lcL own g t e xs [] ρ1) (fun ys ρ2 => P (.lst ys) ⟨back ρ1.env own (az' own ρ2.env), ρ2.w⟩) X) X := by simp only [eLc, ai', gQ']
theorem pY' (own : List Nat) (it : MI) (g : MG) (t : MT) (e : ME) : vE (oLc own it g t e ρ) R X = vE (it ρ) (fun xs ρ1 => vE (lcL own g t e xs [] ρ1) (fun ys ρ2 => R (.lst (ys.map .fz)) ⟨back ρ1.env own (az' own ρ2.env), ρ2.w⟩) X) X := by simp only [oLc, ai', gQ']
variable {N : PSt -> Prop} {rt : O -> W -> Prop} {bk ct : PSt -> Prop} {ex : Exc -> PSt -> Prop}
theorem nl' : vS (bf' ρ) ⟨N, rt, bk, ct, ex⟩ = N ρ := rfl
theorem nm' (a : ME) : vS (iA' a ρ) ⟨N, rt, bk, ct, ex⟩ = vE (a ρ) (fun _ ρ1 => N ρ1) ex := by simp only [iA', bV']; rfl
theorem qm' (a : MO) : vS (bX' a ρ) ⟨N, rt, bk, ct, ex⟩ = vE (a ρ) (fun o ρ1 => rt o ρ1.w) ex := by simp only [bX', bV']; rfl
theorem lH' (a b : MS) : vS (aA' a b ρ) ⟨N, rt, bk, ct, ex⟩ = vS (a ρ) ⟨fun ρ1 => vS (b ρ1) ⟨N, rt, bk, ct, ex⟩, rt, bk, ct, ex⟩ := by
  unfold aA'
  cases a ρ <;> rfl
theorem vb' (t : MT) (a b : MS) : vS (sIf t a b ρ) ⟨N, rt, bk, ct, ex⟩ = vE (t ρ) (fun k ρ1 => vI k (vS (a ρ1) ⟨N, rt, bk, ct, ex⟩) (vS (b ρ1) ⟨N, rt, bk, ct, ex⟩)) ex := by simp only [sIf, bV', tq']
def o0' (i n : Nat) (A : Prop) : Prop := i < n /\ A
theorem j2' {i n : Nat} (h : i < n) (A : Prop) : o0' i n A = A := by unfold o0'; simp [h]
theorem ql' (i : Nat) (a : MO) : vS (bM' i a ρ) ⟨N, rt, bk, ct, ex⟩ = vE (a ρ) (fun o ρ1 => o0' i ρ1.env.length (N ⟨ρ1.env.set i (some o), ρ1.w⟩)) ex := by
  simp only [bM', bV']
  congr
  funext o ρ1
  unfold wJ' o0'
  by_cases h : i < ρ1.env.length
  . rw [if_pos h]; simp [vS, h]
  . rw [if_neg h]; simp [vS, h]
theorem qq' (g : MG) (a : ME) : vS (zw' g a ρ) ⟨N, rt, bk, ct, ex⟩ = vE (a ρ) (fun d ρ1 => vD (g d ρ1) N) ex := by
  simp only [zw', bV']
  congr
  funext o ρ1
  cases g o ρ1 <;> rfl
theorem qp' (f : D -> D -> Option D) (i : Nat) (a : ME) : vS (yw' f i a ρ) ⟨N, rt, bk, ct, ex⟩ = vO ρ.env[i]? fun o => vD (asF o) fun d => vE (a ρ) (fun y ρ1 => vD (f d y) fun z => o0' i ρ1.env.length (N ⟨ρ1.env.set i (some (.fz z)), ρ1.w⟩)) ex := by
  unfold yw'
  rcases ρ.env[i]? with _ | _ | o
  . rfl
  . rfl
  cases o with
  | fz d =>
    simp only [bV', vD, vO, asF]
    congr
    funext y ρ1
    cases f d y with
    | none => rfl
    | some z =>
      dsimp only
      unfold wJ' o0'
      by_cases h : i < ρ1.env.length
      . rw [if_pos h]; simp [vS, h]
      . rw [if_neg h]; simp [vS, h]
  | _ => rfl
theorem ka' (x : String) : vS (d6' x ρ) ⟨N, rt, bk, ct, ex⟩ = ex ⟨x, []⟩ ρ := rfl
theorem qr' (i : Nat) (a : MO) : vS (pI' i a ρ) ⟨N, rt, bk, ct, ex⟩ = vL ρ.env[i]? fun _ => vE (a ρ) (fun o ρ1 => vL ρ1.env[i]? fun os => o0' os.length 16777216 (N ⟨ρ1.env.set i (some (.lst (os ++ [o]))), ρ1.w⟩)) ex := by
  unfold pI'
  rcases ρ.env[i]? with _ | _ | o
  . rfl
  . rfl
  cases o with
  | lst os0 =>
    simp only [bV', vL]
    congr
    funext o ρ1
    rcases ρ1.env[i]? with _ | _ | o2
    . rfl
    . rfl
    cases o2 with
    | lst os =>
      dsimp only
      unfold o0'
      by_cases h : os.length < 16777216
      . rw [if_pos h]; simp [vS, h]
      . rw [if_neg h]; simp [vS, h]
    | _ => rfl
  | _ => rfl
theorem nk' (o k a : ME) : vS (js' o k a ρ) ⟨N, rt, bk, ct, ex⟩ = vE (a ρ) (fun d ρ1 => vE (o ρ1) (fun x ρ2 => vE (k ρ2) (fun y ρ3 => vD (tz' ρ3.w x y d) fun w => N ⟨ρ3.env, w⟩) ex) ex) ex := by
  simp only [js', bV']
  congr
  funext d ρ1
  congr
  funext x ρ2
  congr
  funext y ρ3
  cases tz' ρ3.w x y d <;> rfl
def Ee' (w : W) : D -> Option (List O)
  | .obj n => (match w[n]? with
    | some (.lst os) => some os
    | _ => none)
  | _ => none
def Ev' (w : W) (b : Ob) : D -> W
  | .obj n => w.set n b
  | _ => w
theorem qo' (cs : List String) (a : ME) (f : String) (v : MO) : vS (sFld cs a f v ρ) ⟨N, rt, bk, ct, ex⟩ = vE (v ρ) (fun o ρ1 => vE (a ρ1) (fun x ρ2 => vD (stF cs f o ρ2.w x) fun w => N ⟨ρ2.env, w⟩) ex) ex := by
  simp only [sFld, bV']
  congr
  funext d ρ1
  congr
  funext x ρ2
  cases stF cs f d ρ2.w x <;> rfl
theorem qn' (it : MI) (g : MG) (b : MS) : vS (gq' it g b ρ) ⟨N, rt, bk, ct, ex⟩ = vE (it ρ) (fun ds ρ1 => vS (oD' g b ds ρ1) ⟨N, rt, bk, ct, ex⟩) ex := by simp only [gq', bV']
theorem j9' (n : Nat) (t : MT) (b : MS) : vS (iX' n t b ρ) ⟨N, rt, bk, ct, ex⟩ = vS (eH' t b n ρ) ⟨N, rt, bk, ct, ex⟩ := rfl
theorem wu' {k n : Nat} (b : MS) (ds : List D) (w : W) {Q : O -> W -> Prop} {X : Exc -> W -> Prop} (h : ds.length = k) : vF (fnM k n b ds w) Q X = vS (b ⟨ds.map (fun d => some (.fz d)) ++ List.replicate (n - k) none, w⟩) ⟨fun ρ => Q (.fz .non) ρ.w, Q, fun _ => False, fun _ => False, fun x ρ => X x ρ.w⟩ := by
  unfold fnM
  rw [if_pos h]
  cases b ⟨ds.map (fun d => some (.fz d)) ++ List.replicate (n - k) none, w⟩ <;> rfl
theorem nn' {k n : Nat} {b : MS} {ds : List D} {w : W} {Q : O -> W -> Prop} {X : Exc -> W -> Prop} (q : vS (b ⟨ds.map (fun d => some (.fz d)) ++ List.replicate (n - k) none, w⟩) ⟨fun ρ => Q (.fz .non) ρ.w, Q, fun _ => False, fun _ => False, fun x ρ => X x ρ.w⟩) (h : ds.length = k) : vF (fnM k n b ds w) Q X := by
  rw [wu' _ _ _ h]; exact q
theorem qh' (o : O) (w : W) {Q : O -> W -> Prop} {X : Exc -> W -> Prop} : vF (.ok o w) Q X = Q o w := rfl
theorem nj' (x : Exc) (w : W) {Q : O -> W -> Prop} {X : Exc -> W -> Prop} : vF (.exc x w) Q X = X x w := rfl
theorem vF.mono {r : FRes} {Q Q' : O -> W -> Prop} {X : Exc -> W -> Prop} (h : vF r Q FX) (k : ∀ o w, Q o w -> Q' o w) : vF r Q' X := by
  cases r with
  | ok o w => exact k _ _ h
  | exc x w => exact h.elim
  | bad => exact h
theorem vF.monoX {r : FRes} {Q Q' : O -> W -> Prop} {X X' : Exc -> W -> Prop} (h : vF r Q X) (k : ∀ o w, Q o w -> Q' o w) (k2 : ∀ x w, X x w -> X' x w) : vF r Q' X' := by
  cases r with
  | ok o w => exact k _ _ h
  | exc x w => exact k2 _ _ h
  | bad => exact h
theorem vF.exi {r : FRes} {Q : O -> W -> Prop} (h : vF r Q FX) : ∃ o w, r = .ok o w /\ Q o w := by
  cases r with
  | ok o w => exact ⟨o, w, rfl, h⟩
  | exc x w => exact h.elim
  | bad => exact h.elim
theorem vF.of {r : FRes} {Q : O -> W -> Prop} {X : Exc -> W -> Prop} {o : O} {w : W} (e : r = .ok o w) (h : Q o w) : vF r Q X := by rw [e]; exact h
theorem vS.mono {o : Out} {D1 D2 : En} (h : vS o D1) (h1 : ∀ ρ, D1.nx ρ -> D2.nx ρ) (h2 : ∀ o w, D1.rt o w -> D2.rt o w) (h3 : ∀ ρ, D1.bk ρ -> D2.bk ρ) (h4 : ∀ ρ, D1.ct ρ -> D2.ct ρ) (h5 : ∀ x ρ, D1.ex x ρ -> D2.ex x ρ) : vS o D2 := by
  cases o with
  | nx ρ => exact h1 _ h
  | rt o w => exact h2 _ _ h
  | bk ρ => exact h3 _ h
  | ct ρ => exact h4 _ h
  | exc x ρ => exact h5 _ _ h
  | bad => exact h
theorem vE.mono {r : Res α} {Q Q' : α -> PSt -> Prop} {X X' : Exc -> PSt -> Prop} (h : vE r Q X) (k : ∀ a ρ, Q a ρ -> Q' a ρ) (k2 : ∀ x ρ, X x ρ -> X' x ρ) : vE r Q' X' := by
  cases r with
  | ok a ρ => exact k _ _ h
  | exc x ρ => exact k2 _ _ h
  | bad => exact h
theorem j8' {a b : MS} (J : PSt -> Prop) (h : vS (a ρ) ⟨J, rt, bk, ct, ex⟩) (k : ∀ ρ1, J ρ1 -> vS (b ρ1) ⟨N, rt, bk, ct, ex⟩) : vS (aA' a b ρ) ⟨N, rt, bk, ct, ex⟩ := by
  rw [lH']
  exact h.mono k (fun _ _ z => z) (fun _ z => z) (fun _ z => z) (fun _ _ z => z)
theorem nf' {p : Prop} [Decidable p] {A B : Prop} (h1 : p -> A) (h2 : ¬ p -> B) : vI (decide p) A B := by
  by_cases h : p
  . rw [decide_eq_true h]; exact h1 h
  . rw [decide_eq_false h]; exact h2 h
theorem hz' {γ : Type} {g : MG} {b : MS} {f : γ -> D} {cs : List γ} (Inv : List γ -> PSt -> Prop) (h0 : Inv [] ρ)
    (step : ∀ pre c post ρ, cs = pre ++ c :: post -> Inv pre ρ -> vD (g (f c) ρ) fun ρ1 => vS (b ρ1) ⟨Inv (pre ++ [c]), rt, N, Inv (pre ++ [c]), ex⟩)
    (hend : ∀ ρ, Inv cs ρ -> N ρ) : vS (oD' g b (cs.map f) ρ) ⟨N, rt, bk, ct, ex⟩ := by
  have main : ∀ (post pre : List γ) (ρ : PSt), cs = pre ++ post -> Inv pre ρ -> vS (oD' g b (post.map f) ρ) ⟨N, rt, bk, ct, ex⟩ := by
    intro post
    induction post with
    | nil =>
      intro pre ρ e h
      rw [List.append_nil] at e
      exact hend ρ (e ▸ h)
    | cons d post ih =>
      intro pre ρ e h
      have s := step pre d post ρ e h
      rw [List.map_cons]
      unfold oD'
      cases eg : g (f d) ρ with
      | none => rw [eg] at s; exact s
      | some ρ1 =>
        rw [eg] at s
        have s : vS (b ρ1) _ := s
        dsimp only
        cases eb : b ρ1 with
        | nx ρ2 => rw [eb] at s; exact ih (pre ++ [d]) ρ2 (by rw [e, List.append_assoc]; rfl) s
        | ct ρ2 => rw [eb] at s; exact ih (pre ++ [d]) ρ2 (by rw [e, List.append_assoc]; rfl) s
        | bk ρ2 => rw [eb] at s; exact s
        | rt o w => rw [eb] at s; exact s
        | exc x ρ2 => rw [eb] at s; exact s
        | bad => rw [eb] at s; exact s
  exact main cs [] ρ rfl h0
theorem kb' {g : MG} {b : MS} {lo : Int} {n : Nat} (Inv : Nat -> PSt -> Prop) (h0 : Inv 0 ρ)
    (step : ∀ k ρ, k < n -> Inv k ρ -> vD (g (.int (lo + (k : Nat))) ρ) fun ρ1 => vS (b ρ1) ⟨Inv (k + 1), rt, N, Inv (k + 1), ex⟩)
    (hend : ∀ ρ, Inv n ρ -> N ρ) : vS (oD' g b (rgI lo n) ρ) ⟨N, rt, bk, ct, ex⟩ := by
  unfold rgI
  refine hz' (fun pre ρ => Inv pre.length ρ) h0 (fun pre c post ρ e h => ?_) (fun ρ h => hend ρ (by rwa [List.length_range] at h))
  have hl : pre.length < n := by
    have := congrArg List.length e
    rw [List.length_range, List.length_append, List.length_cons] at this
    omega
  have hc : c = pre.length := by
    have h1 : (List.range n)[pre.length]? = some c := by rw [e, List.getElem?_append_right (Nat.le_refl _), Nat.sub_self]; rfl
    rw [List.getElem?_range hl] at h1
    exact (Option.some.inj h1).symm
  subst hc
  have := step pre.length ρ hl h
  simp only [List.length_append, List.length_cons, List.length_nil, Nat.zero_add]
  exact this
theorem hy' {t : MT} {b : MS} {n : Nat} (Inv : Nat -> PSt -> Prop) (m : Nat) (hm : m < n) (h0 : Inv m ρ)
    (step : ∀ m ρ, Inv m ρ -> vE (t ρ) (fun k ρ1 => vI k (vS (b ρ1) ⟨fun ρ2 => ∃ m', m' < m /\ Inv m' ρ2, rt, N, fun ρ2 => ∃ m', m' < m /\ Inv m' ρ2, ex⟩) (N ρ1)) ex) :
    vS (eH' t b n ρ) ⟨N, rt, bk, ct, ex⟩ := by
  induction n generalizing m ρ with
  | zero => omega
  | succ n ih =>
    have s := step m ρ h0
    unfold eH'
    cases et : t ρ with
    | bad => rw [et] at s; exact s
    | exc x ρ1 => rw [et] at s; exact s
    | ok k ρ1 =>
      rw [et] at s
      have s : vI k _ _ := s
      show vS (if k = true then _ else _) _
      cases k with
      | false => exact s
      | true =>
        rw [if_pos rfl]
        have s : vS (b ρ1) _ := s
        cases eb : b ρ1 with
        | nx ρ2 =>
          rw [eb] at s
          obtain ⟨m', h1, h2⟩ := s
          exact ih m' (by omega) h2
        | ct ρ2 =>
          rw [eb] at s
          obtain ⟨m', h1, h2⟩ := s
          exact ih m' (by omega) h2
        | bk ρ2 => rw [eb] at s; exact s
        | rt o w => rw [eb] at s; exact s
        | exc x ρ2 => rw [eb] at s; exact s
        | bad => rw [eb] at s; exact s
theorem no' {own : List Nat} {g : MG} {t : MT} {e : ME} {γ : Type} {f : γ -> D} {cs : List γ} {Q : List D -> PSt -> Prop} (hl : cs.length <= 16777216) (Inv : List γ -> List D -> PSt -> Prop) (h0 : Inv [] [] ρ)
    (step : ∀ pre c post acc ρ, cs = pre ++ c :: post -> Inv pre acc ρ -> vD (g (f c) ⟨az' own ρ.env, ρ.w⟩) fun ρ1 => vE (t ρ1) (fun k ρ2 => vI k (vE (e ρ2) (fun y ρ3 => Inv (pre ++ [c]) (acc ++ [y]) ρ3) PX) (Inv (pre ++ [c]) acc ρ2)) PX)
    (hend : ∀ acc ρ, Inv cs acc ρ -> Q acc ρ) : vE (lcL own g t e (cs.map f) [] ρ) Q X := by
  have main : ∀ (post pre : List γ) (acc : List D) (ρ : PSt), cs = pre ++ post -> acc.length <= pre.length -> Inv pre acc ρ -> vE (lcL own g t e (post.map f) acc ρ) Q X := by
    intro post
    induction post with
    | nil =>
      intro pre acc ρ e' hacc h
      rw [List.append_nil] at e'
      exact hend acc ρ (e' ▸ h)
    | cons d post ih =>
      intro pre acc ρ e' hacc h
      have s := step pre d post acc ρ e' h
      have hpre : pre.length < 16777216 := by
        have := congrArg List.length e'
        rw [List.length_append, List.length_cons] at this
        omega
      rw [List.map_cons]
      unfold lcL
      cases eg : g (f d) ⟨az' own ρ.env, ρ.w⟩ with
      | none => rw [eg] at s; exact s
      | some ρ1 =>
        rw [eg] at s
        have s : vE (t ρ1) _ _ := s
        dsimp only
        cases et : t ρ1 with
        | bad => rw [et] at s; exact s
        | exc x ρ2 => rw [et] at s; exact s.elim
        | ok k ρ2 =>
          rw [et] at s
          have s : vI k _ _ := s
          show vE (if k = true then _ else _) Q X
          have e2 : cs = (pre ++ [d]) ++ post := by rw [e', List.append_assoc]; rfl
          cases k with
          | false =>
            rw [if_neg Bool.false_ne_true]
            exact ih (pre ++ [d]) acc ρ2 e2 (by rw [List.length_append]; omega) s
          | true =>
            rw [if_pos rfl]
            have s : vE (e ρ2) _ _ := s
            cases ee : e ρ2 with
            | bad => rw [ee] at s; exact s
            | exc x ρ3 => rw [ee] at s; exact s.elim
            | ok y ρ3 =>
              rw [ee] at s
              show vE (if acc.length < do' then _ else _) Q X
              rw [if_pos (show acc.length < 16777216 by omega)]
              exact ih (pre ++ [d]) (acc ++ [y]) ρ3 e2 (by rw [List.length_append, List.length_append, List.length_cons, List.length_cons]; omega) s
  exact main cs [] [] ρ rfl (Nat.le_refl _) h0
end
end M
namespace M
def vC (c : Prop) (A : Prop) : Prop := c /\ A
def vOb (o : Option Ob) (P : List O -> Prop) : Prop := match o with
  | some (.lst os) => P os
  | _ => False
def BF' (o : Option Ob) (P : String -> List (String × O) -> Prop) : Prop := match o with
  | some (.ins C fs) => P C fs
  | _ => False
theorem qf' (C : String) (fs : List (String × O)) {P : String -> List (String × O) -> Prop} : BF' (some (.ins C fs)) P = P C fs := rfl
theorem wv' (cs : List String) (f : String) (o : O) (w : W) (n : Nat) {N : W -> Prop} : vD (stF cs f o w (.obj n)) N = BF' w[n]? (fun C fs => vC (C ∈ cs /\ fs.length < 1000) (N (w.set n (.ins C (rP' f o fs))))) := by
  show vD (match w[n]? with | some (.ins C fs) => if C ∈ cs /\ fs.length < 1000 then some (w.set n (.ins C (rP' f o fs))) else none | _ => none) N = _
  rcases w[n]? with _ | ob
  . rfl
  . cases ob with
    | ins C fs =>
      show vD (if _ then _ else _) N = vC _ _
      unfold vC
      by_cases h : C ∈ cs /\ fs.length < 1000
      . rw [if_pos h]; simp [vD, h]
      . rw [if_neg h]
        show False = (_ /\ _)
        rw [eq_iff_iff]
        exact ⟨False.elim, fun a => h a.1⟩
    | _ => rfl
theorem j3' (os : List O) {P : List O -> Prop} : vOb (some (.lst os)) P = P os := rfl
theorem qj' {c : Prop} (h : c) (A : Prop) : vC c A = A := by unfold vC; simp [h]
theorem j7' (A : Prop) : vC True A = A := by unfold vC; simp
theorem a6' {α : Type} {c : Prop} [Decidable c] {x : α} {Q : α -> Prop} : vD (if c then some x else none) Q = vC c (Q x) := by
  unfold vC
  by_cases h : c
  . rw [if_pos h]; simp [vD, h]
  . rw [if_neg h]; simp [vD, h]
theorem cL' {α β : Type} {f : α -> β} {o : Option α} {Q : β -> Prop} : vD (o.map f) Q = vD o (fun a => Q (f a)) := by cases o <;> rfl
theorem qi' {α β : Type} {f : α -> Option β} {o : Option α} {Q : β -> Prop} : vD (o.bind f) Q = vD o (fun a => vD (f a) Q) := by cases o <;> rfl
section
variable {Q : D -> Prop} {Y : List D -> Prop}
theorem nS' (i j : Int) : vD (dK' (.int i) (.int j)) Q = Q (.int (i + j)) := rfl
theorem nQ' (a b : Tx) : vD (dK' (.str a) (.str b)) Q = lE' (a.length + b.length) (Q (.str (a ++ b))) := a6'
theorem nR' (a b : List D) : vD (dK' (.lst a) (.lst b)) Q = lE' (a.length + b.length) (Q (.lst (a ++ b))) := a6'
theorem nP' (a b : List D) : vD (dK' (.tup a) (.tup b)) Q = lE' (a.length + b.length) (Q (.tup (a ++ b))) := a6'
theorem km' (i j : Int) : vD (t4' (.int i) (.int j)) Q = Q (.int (i + j)) := rfl
theorem qt' (i j : Int) : vD (yy' (.int i) (.int j)) Q = Q (.int (i - j)) := rfl
theorem qE' (i j : Int) : vD (kC' (.int i) (.int j)) Q = vC (((-18446744073709551616 < i /\ i < 18446744073709551616) \/ (-18446744073709551616 < j /\ j < 18446744073709551616)) \/ ((-2582249878086908589655919172003011874329705792829223512830659356540647622016841194629645353280137831435903171972747493376 < i /\ i < 2582249878086908589655919172003011874329705792829223512830659356540647622016841194629645353280137831435903171972747493376) /\ (-2582249878086908589655919172003011874329705792829223512830659356540647622016841194629645353280137831435903171972747493376 < j /\ j < 2582249878086908589655919172003011874329705792829223512830659356540647622016841194629645353280137831435903171972747493376))) (Q (.int (i * j))) := by
  show vD (if (small64 i = true \/ small64 j = true) \/ _ then _ else _) Q = _
  rw [a6']
  congr 1
  simp [small64]
theorem nD' (a : Tx) (j : Int) : vD (kC' (.str a) (.int j)) Q = vC (j < 4611686018427387904 /\ -4611686018427387904 <= j /\ a.length * j.toNat <= 16777216) (Q (.str (List.replicate j.toNat a).flatten)) := a6'
theorem nE' (a : List D) (j : Int) : vD (kC' (.lst a) (.int j)) Q = vC (j < 4611686018427387904 /\ -4611686018427387904 <= j /\ a.length * j.toNat <= 16777216) (Q (.lst (List.replicate j.toNat a).flatten)) := a6'
theorem nO' (i j : Int) : vD (jz' (.int i) (.int j)) Q = vC (0 < j /\ j < 1606938044258990275541962092341162602522202993782792835301376) (Q (.int (i / j))) := a6'
theorem qF' (i j : Int) : vD (pK' (.int i) (.int j)) Q = vC (0 < j) (Q (.int (i % j))) := a6'
theorem qA' (i j : Int) : vD (zU' (.int i) (.int j)) Q = vC (0 <= j /\ j <= 1000 /\ -18446744073709551616 < i /\ i < 18446744073709551616) (Q (.int (i ^ j.toNat))) := by
  show vD (if 0 <= j /\ j <= 1000 /\ small64 i = true then _ else _) Q = _
  rw [a6']
  congr 1
  simp [small64]
theorem qB' (i : Int) : vD (zV' (.int i)) Q = Q (.int (-i)) := rfl
theorem qY' (i j : Int) : vD (pEq (.int i) (.int j)) Q = Q (.bl (decide (i = j))) := by
  show Q (.bl (i == j)) = _
  congr 2
theorem qX' (i j : Tx) : vD (pEq (.str i) (.str j)) Q = Q (.bl (decide (i = j))) := by
  show Q (.bl (i == j)) = _
  congr 2
  rw [Bool.eq_iff_iff]
  simp
theorem qZ' (i j : Bool) : vD (pEq (.bl i) (.bl j)) Q = Q (.bl (i == j)) := rfl
theorem vj' (x y : D) : vD (pEq x y) Q = vC (dat x = true /\ dat y = true /\ dep x <= 64 /\ dep y <= 64) (Q (.bl (eqb x y))) := by
  unfold pEq ob eqv
  rw [cL', a6']
theorem qD' (i j : Int) : vD (pNe (.int i) (.int j)) Q = Q (.bl (!decide (i = j))) := by
  show Q (.bl (!(i == j))) = _
  congr 3
theorem qC' (i j : Tx) : vD (pNe (.str i) (.str j)) Q = Q (.bl (!decide (i = j))) := by
  show Q (.bl (!(i == j))) = _
  congr 3
  rw [Bool.eq_iff_iff]
  simp
theorem qQ' (x : D) : vD (pIs x .non) Q = Q (.bl (e4' x)) := by cases x <;> rfl
theorem qR' (x y : Bool) : vD (pIs (.bl x) (.bl y)) Q = Q (.bl (x == y)) := rfl
theorem iT' (x : D) : vD (gt' x .non) Q = Q (.bl (!e4' x)) := by cases x <;> rfl
theorem iU' (x y : Bool) : vD (gt' (.bl x) (.bl y)) Q = Q (.bl (!(x == y))) := rfl
theorem vc' (i j : Int) : vD (pLt (.int i) (.int j)) Q = Q (.bl (decide (i < j))) := rfl
theorem vd' (i j : Int) : vD (pLe (.int i) (.int j)) Q = Q (.bl (decide (i <= j))) := rfl
theorem ve' (i j : Int) : vD (pGt (.int i) (.int j)) Q = Q (.bl (decide (j < i))) := rfl
theorem vg' (i j : Int) : vD (pGe (.int i) (.int j)) Q = Q (.bl (decide (j <= i))) := rfl
theorem qI' (i j : Tx) : vD (pLt (.str i) (.str j)) Q = Q (.bl (decide (i < j))) := rfl
theorem qJ' (i j : Tx) : vD (pLe (.str i) (.str j)) Q = Q (.bl (!decide (j < i))) := rfl
theorem qU' (i j : Tx) : vD (pGt (.str i) (.str j)) Q = Q (.bl (decide (j < i))) := rfl
theorem qW' (i j : Tx) : vD (pGe (.str i) (.str j)) Q = Q (.bl (!decide (i < j))) := rfl
theorem qT' (c : Nat) (s : Tx) : vD (pIn (.str [c]) (.str s)) Q = Q (.bl (decide (c ∈ s))) := rfl
theorem nC' (c : Nat) (s : Tx) : vD (kB' (.str [c]) (.str s)) Q = Q (.bl (!decide (c ∈ s))) := rfl
theorem n3' (ns : List Int) : (ns.map D.int).all sca = true := by induction ns <;> simp_all [sca]
theorem oV' (i : Int) (ns : List Int) : ((ns.map D.int).any fun d => eqb d (.int i)) = decide (i ∈ ns) := by
  induction ns with
  | nil => rfl
  | cons n ns ih =>
    simp only [List.map_cons, List.any_cons, ih]
    rw [Bool.eq_iff_iff]
    simp [eqb]
    exact ⟨fun h => h.elim (fun e => .inl e.symm) .inr, fun h => h.elim (fun e => .inl e.symm) .inr⟩
theorem nL' (i : Int) (ns : List Int) : vD (pIn (.int i) (.tup (ns.map .int))) Q = Q (.bl (decide (i ∈ ns))) := by
  show vD (if sca (.int i) = true /\ (ns.map D.int).all sca = true then some (D.bl ((ns.map D.int).any fun d => eqb d (.int i))) else none) Q = _
  rw [n3', oV']
  rfl
theorem nM' (i : Int) (ns : List Int) : vD (pIn (.int i) (.lst (ns.map .int))) Q = Q (.bl (decide (i ∈ ns))) := by
  show vD (if sca (.int i) = true /\ (ns.map D.int).all sca = true then some (D.bl ((ns.map D.int).any fun d => eqb d (.int i))) else none) Q = _
  rw [n3', oV']
  rfl
theorem nH' (s : Tx) : vD (c8' (.str s)) Q = Q (.int s.length) := rfl
theorem nI' (s : List D) : vD (c8' (.lst s)) Q = Q (.int s.length) := rfl
theorem nG' (s : List D) : vD (c8' (.tup s)) Q = Q (.int s.length) := rfl
theorem qM' (s : Tx) (i : Int) : vD (pIx (.str s) (.int i)) Q = vD (ati s i) (fun c => Q (.str [c])) := cL'
theorem qO' (s : List D) (i : Int) : vD (pIx (.lst s) (.int i)) Q = vD (ati s i) Q := rfl
theorem qL' (s : List D) (i : Int) : vD (pIx (.tup s) (.int i)) Q = vD (ati s i) Q := rfl
theorem Ag' {n : Nat} {i : Int} (h : 0 <= i) (h2 : i < n) : ixn n i = some i.toNat := by unfold ixn; rw [if_pos h, if_pos h2]
theorem oT' {α : Type} {xs : List α} {i : Int} (h : 0 <= i) : ati xs i = xs[i.toNat]? := by
  unfold ati ixn
  rw [if_pos h]
  split
  . rfl
  . rename_i h2
    rw [List.getElem?_eq_none (by omega)]
    rfl
theorem qv' (s : Tx) (lo hi : Option Int) : vD (pSl (.str s) lo hi) Q = Q (.str (cut s lo hi)) := rfl
theorem qx' (s : List D) (lo hi : Option Int) : vD (pSl (.lst s) lo hi) Q = Q (.lst (cut s lo hi)) := rfl
theorem qu' (s : List D) (lo hi : Option Int) : vD (pSl (.tup s) lo hi) Q = Q (.tup (cut s lo hi)) := rfl
theorem qw' (s : List D) (lo hi : Option Int) : vD (pSl (.scr s) lo hi) Q = Q (.lst (cut s lo hi)) := rfl
theorem v2' {α : Type} {s : List α} {i : Int} (h : 0 <= i) : cut s none (some i) = s.take i.toNat := by
  unfold cut six
  simp only [if_neg (show ¬ i < 0 by omega), List.drop_zero, Nat.sub_zero]
  rcases Nat.le_total i.toNat s.length with h | h
  . rw [Nat.min_eq_left h]
  . rw [Nat.min_eq_right h, List.take_length, List.take_of_length_le h]
theorem uK' {α : Type} {s : List α} {i : Int} (h : 0 <= i) : cut s (some i) none = s.drop i.toNat := by
  unfold cut six
  simp only [if_neg (show ¬ i < 0 by omega)]
  rcases Nat.le_total i.toNat s.length with h | h
  . rw [Nat.min_eq_left h, List.take_of_length_le (by rw [List.length_drop]; omega)]
  . rw [Nat.min_eq_right h, List.drop_length, List.drop_of_length_le h, List.take_nil]
theorem nA' (s : Tx) : vD (BJ' (.str s)) Q = Q (.str s.reverse) := rfl
theorem nB' (s : List D) : vD (BJ' (.lst s)) Q = Q (.lst s.reverse) := rfl
theorem nU' (l : List Tx) : d2' (l.map .str) = some l := by
  induction l with
  | nil => rfl
  | cons a l ih => simp [d2', ih]
theorem k1' : ∀ l : List Tx, cg' [] l = l.flatten
  | [] => rfl
  | [x] => by simp [cg']
  | x :: y :: r => by
    have := k1' (y :: r)
    simp only [cg', this, List.flatten_cons, List.nil_append]
theorem jk' (l : List Tx) : vD (f8' [] [.lst (l.map .str)]) Q = lE' (l.map List.length).sum (Q (.str l.flatten)) := by
  show vD ((d2' (l.map .str)).bind _) Q = _
  rw [nU']
  show vD (if _ then _ else _) Q = _
  rw [a6', k1']
  simp [vC, lE']
theorem rc' : ∀ l : Tx, ((l.map fun c => [c]).map List.length).sum = l.length
  | [] => rfl
  | c :: l => by simp only [List.map_cons, List.sum_cons, rc' l, List.length_cons, List.length_nil]; omega
theorem oE' : ∀ l : Tx, (l.map fun c => [c]).flatten = l
  | [] => rfl
  | c :: l => by simp only [List.map_cons, List.flatten_cons, oE' l]; rfl
theorem kk' (l : Tx) : vD (f8' [] [.lst (l.map chD)]) Q = lE' l.length (Q (.str l)) := by
  have h := jk' (Q := Q) (l.map fun c => [c])
  rw [List.map_map, rc', oE'] at h
  exact h
theorem nN' (a b : Tx) : vD (r9' a [.str b]) Q = Q (.int (fnd (oC' a b))) := rfl
theorem kl' (a b : Tx) : vD (kU' a [.str b]) Q = vD (oC' a b) (fun i => Q (.int (i : Nat))) := cL'
theorem kc' (s : Tx) : vD (vB' (.str s)) Q = vC (s.all (fun c => decide (c < 128)) = true /\ s.length <= 5592405) (Q (.str (s.map up1))) := a6'
theorem qS' (i : Int) : vD (l1' (.int i)) Q = Q (.int i) := rfl
theorem nK' (b : Bool) : vD (l1' (.bl b)) Q = Q (.int (if b then 1 else 0)) := rfl
theorem q8' (i : Int) : vD (BM' (.int i)) Q = Q (.int (if i < 0 then -i else i)) := rfl
theorem qH' (i j : Int) : vD (t1' (.int i) (.int j)) Q = Q (.int (max i j)) := by
  show Q (.int (if j > i then j else i)) = _
  congr 2
  split <;> omega
theorem qG' (i j : Int) : vD (t0' (.int i) (.int j)) Q = Q (.int (min i j)) := by
  show Q (.int (if j < i then j else i)) = _
  congr 2
  split <;> omega
theorem nv' (s : List D) : vD (ck' (.lst s)) Q = Q (.tup s) := rfl
theorem nu' (s : List D) : vD (ck' (.tup s)) Q = Q (.tup s) := rfl
theorem kh' (s : List D) : vD (kD' (.lst s)) Q = Q (.lst s) := rfl
theorem kg' (s : List D) : vD (kD' (.tup s)) Q = Q (.lst s) := rfl
theorem kd' (s : Tx) : vD (eZ' (.str s)) Q = vC (s.length < 64) (Q (.lst ((dY' s).map chD))) := a6'
theorem qP' (t : String) (d : D) : vD (ca' t d) Q = vD (tyn d) (fun n => Q (.bl (n == t || (n == "bool" && t == "int")))) := cL'
theorem mf' (l : List Int) : bU' (l.map .int) = some l := by
  induction l with
  | nil => rfl
  | cons a l ih => simp [bU', ih]
theorem hk' (l : List Bool) : bools (l.map .bl) = some l := by
  induction l with
  | nil => rfl
  | cons a l ih => simp [bools, ih]
theorem qs' (l : List Int) : vD (Ea' (.lst (l.map .int))) Q = Q (.int l.sum) := by
  show vD ((bU' (l.map .int)).map _) Q = _
  rw [mf']
  rfl
theorem q7' (l : List Bool) : vD (t3' (.lst (l.map .bl))) Q = Q (.bl (l.all id)) := by
  show vD ((bools (l.map .bl)).map _) Q = _
  rw [hk']
  rfl
theorem q6' (l : List Bool) : vD (t2' (.lst (l.map .bl))) Q = Q (.bl (l.any id)) := by
  show vD ((bools (l.map .bl)).map _) Q = _
  rw [hk']
  rfl
theorem nz' (s : List D) : vD (eU' (.lst s)) Y = Y s := rfl
theorem nx' (s : List D) : vD (eU' (.tup s)) Y = Y s := rfl
theorem ny' (s : Tx) : vD (eU' (.str s)) Y = Y (s.map chD) := rfl
theorem qz' (j : Int) : vD (f0' (.int j)) Y = vC (-4611686018427387904 <= j /\ j < 4611686018427387904) (Y (rgI 0 j.toNat)) := by
  show vD (if th' j = true then _ else _) Y = _
  rw [a6']
  congr 1
  simp [th']
theorem qy' (i j : Int) : vD (fZ' (.int i) (.int j)) Y = vC ((-4611686018427387904 <= i /\ i < 4611686018427387904) /\ (-4611686018427387904 <= j /\ j < 4611686018427387904)) (Y (rgI i (j - i).toNat)) := by
  show vD (if th' i = true /\ th' j = true then _ else _) Y = _
  rw [a6']
  congr 1
  simp [th']
theorem nq' (a b : Tx) : vD (ta' (.str a) (.str b)) Y = Y (dN' (a.map chD) (b.map chD)) := rfl
theorem nt' (a b : List D) : vD (ta' (.lst a) (.lst b)) Y = Y (dN' a b) := rfl
theorem np' (a b : List D) : vD (ta' (.tup a) (.tup b)) Y = Y (dN' a b) := rfl
theorem nr' (a : Tx) (b : List D) : vD (D0' (.str a) (.tup b)) Y = Y (dN' (a.map chD) b) := rfl
theorem q0' (a : Tx) : vD (enB (.str a)) Y = Y (mi' 0 (a.map chD)) := rfl
theorem q3' (a : List D) : vD (enB (.lst a)) Y = Y (mi' 0 a) := rfl
theorem kf' (a : List D) : vD (BI' (.lst a)) Y = Y a.reverse := rfl
theorem ke' (a : List D) : vD (BI' (.tup a)) Y = Y a.reverse := rfl
theorem nF' (j : Int) : vD (oc' (.int j)) Q = vC (RgB 0 j = true) (Q (.lst (sy' 0 j))) := a6'
theorem Bx' {a b : Int} (h1 : 0 <= a) (h2 : b <= 16777216) (h3 : a <= 16777216) (h4 : 0 <= b) : RgB a b = true := by
  unfold RgB
  simp only [Bool.and_eq_true, decide_eq_true_eq]
  omega
theorem vi' (i : Nat) (d : D) (env : List (Option O)) (w : W) {N : PSt -> Prop} : vD (gN i d ⟨env, w⟩) N = o0' i env.length (N ⟨env.set i (some (.fz d)), w⟩) := a6'
theorem vh' (is : List Nat) (ds : List D) (ρ : PSt) {N : PSt -> Prop} : vD (gT is (.tup ds) ρ) N = vD (gNs is ds ρ) N := rfl
theorem qV' (ρ : PSt) {N : PSt -> Prop} : vD (gNs [] [] ρ) N = N ρ := rfl
theorem vf' (i : Nat) (is : List Nat) (d : D) (ds : List D) (ρ : PSt) {N : PSt -> Prop} : vD (gNs (i :: is) (d :: ds) ρ) N = vD (gN i d ρ) (fun ρ1 => vD (gNs is ds ρ1) N) := qi'
theorem qK' (w : W) (n : Nat) (k : D) : vD (ixW w (.obj n) k) Q = vOb w[n]? (fun os => vD (ixO (.lst os) k) Q) := by
  show vD (match w[n]? with | some (.lst os) => ixO (.lst os) k | _ => none) Q = _
  rcases w[n]? with _ | ob
  . rfl
  . cases ob <;> rfl
theorem qN' (os : List O) (i : Int) : vD (ixO (.lst os) (.int i)) Q = vD (ati os i) (fun o => vD (asF o) Q) := by
  show vD (match ati os i with | some (.fz d) => some d | _ => none) Q = _
  rcases ati os i with _ | o
  . rfl
  . cases o <;> rfl
theorem q5' (d : D) : vD (asF (.fz d)) Q = Q d := rfl
theorem q4' (d : List D) {Q : List D -> Prop} : vD (asL (.lst d)) Q = Q d := rfl
theorem nJ' (d k : D) : vD (ixO (.fz d) k) Q = vD (pIx d k) Q := rfl
theorem nw' (w : W) (n : Nat) (z : Int) (d : D) {N : W -> Prop} : vD (tz' w (.obj n) (.int z) d) N = vOb w[n]? (fun os => vD (ixn os.length z) (fun j => N (w.set n (.lst (os.set j (.fz d)))))) := by
  show vD (match w[n]? with | some (.lst os) => (ixn os.length z).map fun j => w.set n (.lst (os.set j (.fz d))) | _ => none) N = _
  rcases w[n]? with _ | ob
  . rfl
  . cases ob with
    | lst os => exact cL'
    | _ => rfl
theorem ki' (os : List O) : vD (pf' (.lst os)) Q = Q (.int os.length) := rfl
theorem kj' (d : D) : vD (pf' (.fz d)) Q = vD (c8' d) Q := rfl
end
structure U {α : Sort _} (a : α) : Type where
@[irreducible] def wE {α : Type} (r : Res α) (Q : α -> PSt -> Prop) (X : Exc -> PSt -> Prop) (_ : U (Q, X) := U.mk) : Prop := vE r Q X
@[irreducible] def wS (o : Out) (D : En) (_ : U D := U.mk) : Prop := vS o D
@[irreducible] def wF (r : FRes) (Q : O -> W -> Prop) (X : Exc -> W -> Prop) (_ : U (Q, X) := U.mk) : Prop := vF r Q X
@[irreducible] def wD {α : Type} (o : Option α) (Q : α -> Prop) (_ : U Q := U.mk) : Prop := vD o Q
@[irreducible] def wI (k : Bool) (A B : Prop) (_ : U (A, B) := U.mk) : Prop := vI k A B
@[irreducible] def wB (d : D) (P : Bool -> Prop) (_ : U P := U.mk) : Prop := vB d P
@[irreducible] def wT (d : D) (P : Tx -> Prop) (_ : U P := U.mk) : Prop := vT d P
@[irreducible] def wN (d : D) (P : Int -> Prop) (_ : U P := U.mk) : Prop := vN d P
@[irreducible] def wV (o : Option (Option O)) (i : Nat) (ρ : PSt) (Q : D -> PSt -> Prop) (_ : U Q := U.mk) : Prop := vV o i ρ Q
@[irreducible] def wG (o : Option (Option O)) (i : Nat) (ρ : PSt) (Q : O -> PSt -> Prop) (_ : U Q := U.mk) : Prop := vG o i ρ Q
@[irreducible] def wO (o : Option (Option O)) (Q : O -> Prop) (_ : U Q := U.mk) : Prop := vO o Q
@[irreducible] def wL (o : Option (Option O)) (Q : List O -> Prop) (_ : U Q := U.mk) : Prop := vL o Q
@[irreducible] def pU' (n : Nat) (A : Prop) (_ : U A := U.mk) : Prop := lE' n A
@[irreducible] def uX' (i n : Nat) (A : Prop) (_ : U A := U.mk) : Prop := o0' i n A
@[irreducible] def wC (c : Prop) (A : Prop) (_ : U A := U.mk) : Prop := vC c A
@[irreducible] def BE' (o : Option Ob) (P : String -> List (String × O) -> Prop) (_ : U P := U.mk) : Prop := BF' o P
@[irreducible] def wOb (o : Option Ob) (P : List O -> Prop) (_ : U P := U.mk) : Prop := vOb o P
theorem cB' {α : Type} (r : Res α) (Q : α -> PSt -> Prop) (X : Exc -> PSt -> Prop) (u : U (Q, X)) : wE r Q X u = vE r Q X := by unfold wE; rfl
theorem eR' (o : Out) (D : En) (u : U D) : wS o D u = vS o D := by unfold wS; rfl
theorem fc' (r : FRes) (Q : O -> W -> Prop) (X : Exc -> W -> Prop) (u : U (Q, X)) : wF r Q X u = vF r Q X := by unfold wF; rfl
theorem au' {α : Type} (o : Option α) (Q : α -> Prop) (u : U Q) : wD o Q u = vD o Q := by unfold wD; rfl
theorem gP' (k : Bool) (A B : Prop) (u : U (A, B)) : wI k A B u = vI k A B := by unfold wI; rfl
theorem gS' (d : D) (P : Bool -> Prop) (u : U P) : wB d P u = vB d P := by unfold wB; rfl
theorem gN' (d : D) (P : Tx -> Prop) (u : U P) : wT d P u = vT d P := by unfold wT; rfl
theorem gO' (d : D) (P : Int -> Prop) (u : U P) : wN d P u = vN d P := by unfold wN; rfl
theorem e9' (o : Option (Option O)) (i : Nat) (ρ : PSt) (Q : D -> PSt -> Prop) (u : U Q) : wV o i ρ Q u = vV o i ρ Q := by unfold wV; rfl
theorem fa' (o : Option (Option O)) (i : Nat) (ρ : PSt) (Q : O -> PSt -> Prop) (u : U Q) : wG o i ρ Q u = vG o i ρ Q := by unfold wG; rfl
theorem fN' (o : Option (Option O)) (Q : O -> Prop) (u : U Q) : wO o Q u = vO o Q := by unfold wO; rfl
theorem fO' (o : Option (Option O)) (Q : List O -> Prop) (u : U Q) : wL o Q u = vL o Q := by unfold wL; rfl
theorem cA' (n : Nat) (A : Prop) (u : U A) : pU' n A u = lE' n A := by unfold pU'; rfl
theorem co' (i n : Nat) (A : Prop) (u : U A) : uX' i n A u = o0' i n A := by unfold uX'; rfl
theorem eS' (c : Prop) (A : Prop) (u : U A) : wC c A u = vC c A := by unfold wC; rfl
theorem da' (o : Option Ob) (P : List O -> Prop) (u : U P) : wOb o P u = vOb o P := by unfold wOb; rfl
theorem cb' (o : Option Ob) (P : String -> List (String × O) -> Prop) (u : U P) : BE' o P u = BF' o P := by unfold BE'; rfl
local macro_rules | `(tactic| walk_at "z") => `(tactic| simp only [cB', eR', fc', au', gP', gS', gN', gO', e9', fa', fN', fO', cA', co', eS', da', cb'] at *)
section
variable {α β : Type} {Q : α -> PSt -> Prop} {X : Exc -> PSt -> Prop} {ρ : PSt} {P : D -> PSt -> Prop} {D0 : En}
theorem bj' (z : α) {Q : α -> Prop} : wD (some z) Q = Q z := by walk_at "z"; first | exact j6' .. | (apply j6' <;> assumption)
theorem Cl' (k : Bool) {Q : Bool -> Prop} : wB (.bl k) Q = Q k := by walk_at "z"; first | exact qk' .. | (apply qk' <;> assumption)
theorem yu' (A B : Prop) : wI true A B = A := by walk_at "z"; first | exact u9' .. | (apply u9' <;> assumption)
theorem y0' (A B : Prop) : wI false A B = B := by walk_at "z"; first | exact va' .. | (apply va' <;> assumption)
theorem yZ' (k : Bool) (A B : Prop) : wI (!k) A B = wI k B A := by walk_at "z"; first | exact ne' .. | (apply ne' <;> assumption)
theorem x_C (d : D) : wE (eC d ρ) P X = P d ρ := by walk_at "z"; first | exact y7' .. | (apply y7' <;> assumption)
theorem x_V (i : Nat) (env : List (Option O)) (w : W) : wE (eV i ⟨env, w⟩) P X = wV env[i]? i ⟨env, w⟩ P := by walk_at "z"; first | exact y5' .. | (apply y5' <;> assumption)
theorem Cd' (d : D) (i : Nat) (ρ : PSt) : wV (some (some (.fz d))) i ρ P = P d ρ := by walk_at "z"; first | exact qe' .. | (apply qe' <;> assumption)
theorem yT' (os : List O) (i : Nat) (env : List (Option O)) (w : W) : wV (some (some (.lst os))) i ⟨env, w⟩ P = P (.lst (frzs os)) ⟨env.set i (some (.fz (.lst (frzs os)))), w⟩ := by walk_at "z"; first | exact m9' .. | (apply m9' <;> assumption)
theorem yS' (os : List O) (i : Nat) (env : List (Option O)) (w : W) : wV (some (some (.tup os))) i ⟨env, w⟩ P = P (.tup (frzs os)) ⟨env.set i (some (.fz (.tup (frzs os)))), w⟩ := by walk_at "z"; first | exact m8' .. | (apply m8' <;> assumption)
theorem yU' (ks : List D) (os : List O) (i : Nat) (env : List (Option O)) (w : W) : wV (some (some (.dct ks os))) i ⟨env, w⟩ P = P (.dct ks (frzs os)) ⟨env.set i (some (.fz (.dct ks (frzs os)))), w⟩ := by walk_at "z"; first | exact na' .. | (apply na' <;> assumption)
theorem Ch' (d : D) (i : Nat) (ρ : PSt) {P : O -> PSt -> Prop} : wG (some (some (.fz d))) i ρ P = P (.fz d) ρ := by walk_at "z"; first | exact qg' .. | (apply qg' <;> assumption)
theorem y2' (os : List O) (i : Nat) (env : List (Option O)) (w : W) {P : O -> PSt -> Prop} : wG (some (some (.lst os))) i ⟨env, w⟩ P = P (.lst os) ⟨env.set i none, w⟩ := by walk_at "z"; first | exact nh' .. | (apply nh' <;> assumption)
theorem y1' (os : List O) (i : Nat) (env : List (Option O)) (w : W) {P : O -> PSt -> Prop} : wG (some (some (.tup os))) i ⟨env, w⟩ P = P (.tup os) ⟨env.set i none, w⟩ := by walk_at "z"; first | exact ng' .. | (apply ng' <;> assumption)
theorem y3' (ks : List D) (os : List O) (i : Nat) (env : List (Option O)) (w : W) {P : O -> PSt -> Prop} : wG (some (some (.dct ks os))) i ⟨env, w⟩ P = P (.dct ks os) ⟨env.set i none, w⟩ := by walk_at "z"; first | exact ni' .. | (apply ni' <;> assumption)
theorem wj' (o : O) {P : O -> Prop} : wO (some (some o)) P = P o := by walk_at "z"; first | exact j4' .. | (apply j4' <;> assumption)
theorem yX' (os : List O) {P : List O -> Prop} : wL (some (some (.lst os))) P = P os := by walk_at "z"; first | exact nd' .. | (apply nd' <;> assumption)
theorem Er' (f : D -> D -> Option D) (a b : ME) : wE (eOp f a b ρ) P X = wE (a ρ) (fun x ρ1 => wE (b ρ1) (fun y ρ2 => wD (f x y) (fun z => P z ρ2)) X) X := by walk_at "z"; first | exact u5' .. | (apply u5' <;> assumption)
theorem Eo' (f : D -> Option D) (a : ME) : wE (eUn f a ρ) P X = wE (a ρ) (fun x ρ1 => wD (f x) (fun z => P z ρ1)) X := by walk_at "z"; first | exact u2' .. | (apply u2' <;> assumption)
theorem Cb' (a b : ME) : wE (oH' a b ρ) P X = wE (a ρ) (fun x ρ1 => wB x fun k => wI k (wE (b ρ1) P X) (P (.bl false) ρ1)) X := by walk_at "z"; first | exact qd' .. | (apply qd' <;> assumption)
theorem B1' (a : ME) : wE (yC' a ρ) P X = wE (a ρ) (fun x ρ1 => wB x fun k => P (.bl (!k)) ρ1) X := by walk_at "z"; first | exact p6' .. | (apply p6' <;> assumption)
theorem wf' (f g : D -> D -> Option D) (a b c : ME) : wE (gF' f g a b c ρ) P X = wE (a ρ) (fun x ρ1 => wE (b ρ1) (fun y ρ2 => wD (f x y) fun r => wB r fun k => wI k (wE (c ρ2) (fun z ρ3 => wD (g y z) fun v => P v ρ3) X) (P (.bl false) ρ2)) X) X := by walk_at "z"; first | exact j1' .. | (apply j1' <;> assumption)
theorem B2' {P : List D -> PSt -> Prop} : wE (aZ' ρ) P X = P [] ρ := by walk_at "z"; first | exact p7' .. | (apply p7' <;> assumption)
theorem yP' (a : ME) (r : MA) {P : List D -> PSt -> Prop} : wE (ad' a r ρ) P X = wE (a ρ) (fun x ρ1 => wE (r ρ1) (fun xs ρ2 => P (x :: xs) ρ2) X) X := by walk_at "z"; first | exact m6' .. | (apply m6' <;> assumption)
theorem lG' {n : Nat} (h : n <= 16777216) (A : Prop) : pU' n A = A := by walk_at "z"; first | exact j5' .. | (apply j5' <;> assumption)
theorem BZ' (as : MA) : wE (pm' as ρ) P X = wE (as ρ) (fun xs ρ1 => pU' xs.length (P (.tup xs) ρ1)) X := by walk_at "z"; first | exact p4' .. | (apply p4' <;> assumption)
theorem B3' (as : MA) : wE (pL' as ρ) P X = wE (as ρ) (fun xs ρ1 => pU' xs.length (P (.lst xs) ρ1)) X := by walk_at "z"; first | exact p8' .. | (apply p8' <;> assumption)
theorem Et' (f : Tx -> List D -> Option D) (a : ME) (as : MA) : wE (eMt f a as ρ) P X = wE (a ρ) (fun x ρ1 => wT x fun s => wE (as ρ1) (fun ds ρ2 => wD (f s ds) fun z => P z ρ2) X) X := by walk_at "z"; first | exact u7' .. | (apply u7' <;> assumption)
theorem yV' (s : Tx) {P : Tx -> Prop} : wT (.str s) P = P s := by walk_at "z"; first | exact nb' .. | (apply nb' <;> assumption)
theorem yW' (s : Int) {P : Int -> Prop} : wN (.int s) P = P s := by walk_at "z"; first | exact nc' .. | (apply nc' <;> assumption)
theorem Es' {P : Option Int -> PSt -> Prop} : wE (pNo ρ) P X = P none ρ := by walk_at "z"; first | exact u6' .. | (apply u6' <;> assumption)
theorem Ep' (a : ME) {P : Option Int -> PSt -> Prop} : wE (pSo a ρ) P X = wE (a ρ) (fun x ρ1 => wN x fun i => P (some i) ρ1) X := by walk_at "z"; first | exact u3' .. | (apply u3' <;> assumption)
theorem Eq' (a : ME) (lo hi : MP) : wE (eSl a lo hi ρ) P X = wE (a ρ) (fun x ρ1 => wE (lo ρ1) (fun l ρ2 => wE (hi ρ2) (fun h ρ3 => wD (pSl x l h) fun z => P z ρ3) X) X) X := by walk_at "z"; first | exact u4' .. | (apply u4' <;> assumption)
theorem x_O (a : MO) : wE (eO a ρ) P X = wE (a ρ) (fun o ρ1 => P (frz o) ρ1) X := by walk_at "z"; first | exact y6' .. | (apply y6' <;> assumption)
variable {R : O -> PSt -> Prop}
theorem En' (a : ME) : wE (oE a ρ) R X = wE (a ρ) (fun d ρ1 => R (.fz d) ρ1) X := by walk_at "z"; first | exact u1' .. | (apply u1' <;> assumption)
theorem Em' (i : Nat) (env : List (Option O)) (w : W) : wE (oV i ⟨env, w⟩) R X = wG env[i]? i ⟨env, w⟩ R := by walk_at "z"; first | exact u0' .. | (apply u0' <;> assumption)
theorem yQ' (f : MF) (as : MA) : wE (aB' f as ρ) R X = wE (as ρ) (fun ds ρ1 => wF (f ds ρ1.w) (fun o w => R o ⟨ρ1.env, w⟩) fun x w => X x ⟨ρ1.env, w⟩) X := by walk_at "z"; first | exact m7' .. | (apply m7' <;> assumption)
theorem yI' (a : ME) : wE (te' a ρ) R X = wE (a ρ) (fun d ρ1 => wD (asL d) fun ds => R (.lst (ds.map .fz)) ρ1) X := by walk_at "z"; first | exact mY' .. | (apply mY' <;> assumption)
theorem wb' : wE (kK' ρ) R X = R (.dct [] []) ρ := by walk_at "z"; first | exact j0' .. | (apply j0' <;> assumption)
theorem B5' (i : Nat) (b : ME) (env : List (Option O)) (w : W) : wE (yD' i b ⟨env, w⟩) P X = wO env[i]? fun _ => wE (b ⟨env, w⟩) (fun k ρ1 => wO ρ1.env[i]? fun o => wD (ixO o k) fun z => P z ρ1) X := by walk_at "z"; first | exact qa' .. | (apply qa' <;> assumption)
theorem yN' (i : Nat) : wE (ia' i ρ) P X = wO ρ.env[i]? fun o => wD (pf' o) fun z => P z ρ := by walk_at "z"; first | exact m5' .. | (apply m5' <;> assumption)
theorem B4' (a b : ME) : wE (jW' a b ρ) P X = wE (a ρ) (fun x ρ1 => wE (b ρ1) (fun y ρ2 => wD (ixW ρ2.w x y) fun z => P z ρ2) X) X := by walk_at "z"; first | exact p9' .. | (apply p9' <;> assumption)
theorem B0' (as : MA) : wE (z0' as ρ) R X = wE (as ρ) (fun xs ρ1 => pU' xs.length (R (.fz (.obj ρ1.w.length)) ⟨ρ1.env, ρ1.w ++ [.lst (xs.map .fz)]⟩)) X := by walk_at "z"; first | exact p5' .. | (apply p5' <;> assumption)
theorem B7' (cs : List String) (a : ME) (f : String) : wE (e8' cs a f ρ) P X = wE (a ρ) (fun x ρ1 => wD (h9' cs f ρ1.w x) fun z => P z ρ1) X := by walk_at "z"; first | exact qb' .. | (apply qb' <;> assumption)
theorem yM' (C : String) (init : MF) (as : MA) : wE (kJ' C init as ρ) R X = wE (as ρ) (fun ds ρ1 => wF (init (.obj ρ1.w.length :: ds) (ρ1.w ++ [.ins C []])) (fun o w => o = .fz .non /\ R (.fz (.obj ρ1.w.length)) ⟨ρ1.env, w⟩) fun x w => X x ⟨ρ1.env, w⟩) X := by walk_at "z"; first | exact m4' .. | (apply m4' <;> assumption)
theorem yL' (C : List String) (m : String) (f : MF) (a : ME) (as : MA) : wE (cM' C m f a as ρ) R X = wE (a ρ) (fun x ρ1 => jI' C m ρ1.w x = true /\ wE (as ρ1) (fun ds ρ2 => wF (f (x :: ds) ρ2.w) (fun o w => R o ⟨ρ2.env, w⟩) fun x w => X x ⟨ρ2.env, w⟩) X) X := by walk_at "z"; first | exact m3' .. | (apply m3' <;> assumption)
variable {B : Bool -> PSt -> Prop}
theorem El' (a : ME) : wE (tE a ρ) B X = wE (a ρ) (fun d ρ1 => wB d fun k => B k ρ1) X := by walk_at "z"; first | exact uZ' .. | (apply uZ' <;> assumption)
theorem yG' (a : MT) : wE (eJ' a ρ) B X = wE (a ρ) (fun k ρ1 => B (!k) ρ1) X := by walk_at "z"; first | exact mW' .. | (apply mW' <;> assumption)
theorem yH' (a b : MT) : wE (za' a b ρ) B X = wE (a ρ) (fun k ρ1 => wI k (wE (b ρ1) B X) (B false ρ1)) X := by walk_at "z"; first | exact mX' .. | (apply mX' <;> assumption)
theorem BW' (a b : MT) : wE (tOr a b ρ) B X = wE (a ρ) (fun k ρ1 => wI k (B true ρ1) (wE (b ρ1) B X)) X := by walk_at "z"; first | exact pX' .. | (apply pX' <;> assumption)
theorem Ek' : wE (tT ρ) B X = B true ρ := by walk_at "z"; first | exact uY' .. | (apply uY' <;> assumption)
variable {Y : List D -> PSt -> Prop}
theorem yK' (a : ME) : wE (eC' a ρ) Y X = wE (a ρ) (fun d ρ1 => wD (eU' d) fun z => Y z ρ1) X := by walk_at "z"; first | exact m0' .. | (apply m0' <;> assumption)
theorem pS' (a : ME) : wE (bO' a ρ) Y X = wE (a ρ) (fun d ρ1 => wD (f0' d) fun z => Y z ρ1) X := by walk_at "z"; first | exact hu' .. | (apply hu' <;> assumption)
theorem pR' (a b : ME) : wE (h8' a b ρ) Y X = wE (a ρ) (fun d ρ1 => wE (b ρ1) (fun e ρ2 => wD (fZ' d e) fun z => Y z ρ2) X) X := by walk_at "z"; first | exact ht' .. | (apply ht' <;> assumption)
theorem yJ' (a b : ME) : wE (Aq' a b ρ) Y X = wE (a ρ) (fun d ρ1 => wE (b ρ1) (fun e ρ2 => wD (ta' d e) fun z => Y z ρ2) X) X := by walk_at "z"; first | exact mZ' .. | (apply mZ' <;> assumption)
theorem Eu' (own : List Nat) (it : MI) (g : MG) (t : MT) (e : ME) : wE (eLc own it g t e ρ) P X = wE (it ρ) (fun xs ρ1 => wE (lcL own g t e xs [] ρ1) (fun ys ρ2 => P (.lst ys) ⟨back ρ1.env own (az' own ρ2.env), ρ2.w⟩) X) X := by walk_at "z"; first | exact u8' .. | (apply u8' <;> assumption)
theorem BX' (own : List Nat) (it : MI) (g : MG) (t : MT) (e : ME) : wE (oLc own it g t e ρ) R X = wE (it ρ) (fun xs ρ1 => wE (lcL own g t e xs [] ρ1) (fun ys ρ2 => R (.lst (ys.map .fz)) ⟨back ρ1.env own (az' own ρ2.env), ρ2.w⟩) X) X := by walk_at "z"; first | exact pY' .. | (apply pY' <;> assumption)
variable {N : PSt -> Prop} {rt : O -> W -> Prop} {bk ct : PSt -> Prop} {ex : Exc -> PSt -> Prop}
theorem zt' : wS (bf' ρ) ⟨N, rt, bk, ct, ex⟩ = N ρ := by walk_at "z"; first | exact nl' .. | (apply nl' <;> assumption)
theorem zu' (a : ME) : wS (iA' a ρ) ⟨N, rt, bk, ct, ex⟩ = wE (a ρ) (fun _ ρ1 => N ρ1) ex := by walk_at "z"; first | exact nm' .. | (apply nm' <;> assumption)
theorem Cs' (a : MO) : wS (bX' a ρ) ⟨N, rt, bk, ct, ex⟩ = wE (a ρ) (fun o ρ1 => rt o ρ1.w) ex := by walk_at "z"; first | exact qm' .. | (apply qm' <;> assumption)
theorem Cr' (a b : MS) : wS (aA' a b ρ) ⟨N, rt, bk, ct, ex⟩ = wS (a ρ) ⟨fun ρ1 => wS (b ρ1) ⟨N, rt, bk, ct, ex⟩, rt, bk, ct, ex⟩ := by walk_at "z"; first | exact lH' .. | (apply lH' <;> assumption)
theorem Ew' (t : MT) (a b : MS) : wS (sIf t a b ρ) ⟨N, rt, bk, ct, ex⟩ = wE (t ρ) (fun k ρ1 => wI k (wS (a ρ1) ⟨N, rt, bk, ct, ex⟩) (wS (b ρ1) ⟨N, rt, bk, ct, ex⟩)) ex := by walk_at "z"; first | exact vb' .. | (apply vb' <;> assumption)
theorem wh' {i n : Nat} (h : i < n) (A : Prop) : uX' i n A = A := by walk_at "z"; first | exact j2' .. | (apply j2' <;> assumption)
theorem Cq' (i : Nat) (a : MO) : wS (bM' i a ρ) ⟨N, rt, bk, ct, ex⟩ = wE (a ρ) (fun o ρ1 => uX' i ρ1.env.length (N ⟨ρ1.env.set i (some o), ρ1.w⟩)) ex := by walk_at "z"; first | exact ql' .. | (apply ql' <;> assumption)
theorem Cy' (g : MG) (a : ME) : wS (zw' g a ρ) ⟨N, rt, bk, ct, ex⟩ = wE (a ρ) (fun d ρ1 => wD (g d ρ1) N) ex := by walk_at "z"; first | exact qq' .. | (apply qq' <;> assumption)
theorem Cx' (f : D -> D -> Option D) (i : Nat) (a : ME) : wS (yw' f i a ρ) ⟨N, rt, bk, ct, ex⟩ = wO ρ.env[i]? fun o => wD (asF o) fun d => wE (a ρ) (fun y ρ1 => wD (f d y) fun z => uX' i ρ1.env.length (N ⟨ρ1.env.set i (some (.fz z)), ρ1.w⟩)) ex := by walk_at "z"; first | exact qp' .. | (apply qp' <;> assumption)
theorem wR' (x : String) : wS (d6' x ρ) ⟨N, rt, bk, ct, ex⟩ = ex ⟨x, []⟩ ρ := by walk_at "z"; first | exact ka' .. | (apply ka' <;> assumption)
theorem Cz' (i : Nat) (a : MO) : wS (pI' i a ρ) ⟨N, rt, bk, ct, ex⟩ = wL ρ.env[i]? fun _ => wE (a ρ) (fun o ρ1 => wL ρ1.env[i]? fun os => uX' os.length 16777216 (N ⟨ρ1.env.set i (some (.lst (os ++ [o]))), ρ1.w⟩)) ex := by walk_at "z"; first | exact qr' .. | (apply qr' <;> assumption)
theorem zs' (o k a : ME) : wS (js' o k a ρ) ⟨N, rt, bk, ct, ex⟩ = wE (a ρ) (fun d ρ1 => wE (o ρ1) (fun x ρ2 => wE (k ρ2) (fun y ρ3 => wD (tz' ρ3.w x y d) fun w => N ⟨ρ3.env, w⟩) ex) ex) ex := by walk_at "z"; first | exact nk' .. | (apply nk' <;> assumption)
theorem tI' (w : W) (b : Ob) (n : Nat) : Ev' w b (.obj n) = w.set n b := rfl
theorem Cu' (cs : List String) (a : ME) (f : String) (v : MO) : wS (sFld cs a f v ρ) ⟨N, rt, bk, ct, ex⟩ = wE (v ρ) (fun o ρ1 => wE (a ρ1) (fun x ρ2 => wD (stF cs f o ρ2.w x) fun w => N ⟨ρ2.env, w⟩) ex) ex := by walk_at "z"; first | exact qo' .. | (apply qo' <;> assumption)
theorem Ct' (it : MI) (g : MG) (b : MS) : wS (gq' it g b ρ) ⟨N, rt, bk, ct, ex⟩ = wE (it ρ) (fun ds ρ1 => wS (oD' g b ds ρ1) ⟨N, rt, bk, ct, ex⟩) ex := by walk_at "z"; first | exact qn' .. | (apply qn' <;> assumption)
theorem wQ' (n : Nat) (t : MT) (b : MS) : wS (iX' n t b ρ) ⟨N, rt, bk, ct, ex⟩ = wS (eH' t b n ρ) ⟨N, rt, bk, ct, ex⟩ := by walk_at "z"; first | exact j9' .. | (apply j9' <;> assumption)
theorem zY' {k n : Nat} {b : MS} {ds : List D} {w : W} {Q : O -> W -> Prop} {X : Exc -> W -> Prop} (q : wS (b ⟨ds.map (fun d => some (.fz d)) ++ List.replicate (n - k) none, w⟩) ⟨fun ρ => Q (.fz .non) ρ.w, Q, fun _ => False, fun _ => False, fun x ρ => X x ρ.w⟩) (h : ds.length = k) : wF (fnM k n b ds w) Q X := by walk_at "z"; first | exact nn' .. | (apply nn' <;> assumption)
theorem Ck' (o : O) (w : W) {Q : O -> W -> Prop} {X : Exc -> W -> Prop} : wF (.ok o w) Q X = Q o w := by walk_at "z"; first | exact qh' .. | (apply qh' <;> assumption)
theorem y4' (x : Exc) (w : W) {Q : O -> W -> Prop} {X : Exc -> W -> Prop} : wF (.exc x w) Q X = X x w := by walk_at "z"; first | exact nj' .. | (apply nj' <;> assumption)
theorem wF.mono {r : FRes} {Q Q' : O -> W -> Prop} {X : Exc -> W -> Prop} (h : wF r Q FX) (k : ∀ o w, Q o w -> Q' o w) : wF r Q' X := by walk_at "z"; first | exact vF.mono .. | (apply vF.mono <;> assumption)
theorem wF.monoX {r : FRes} {Q Q' : O -> W -> Prop} {X X' : Exc -> W -> Prop} (h : wF r Q X) (k : ∀ o w, Q o w -> Q' o w) (k2 : ∀ x w, X x w -> X' x w) : wF r Q' X' := by walk_at "z"; first | exact vF.monoX .. | (apply vF.monoX <;> assumption)
theorem wF.exi {r : FRes} {Q : O -> W -> Prop} (h : wF r Q FX) : ∃ o w, r = .ok o w /\ Q o w := by walk_at "z"; first | exact vF.exi .. | (apply vF.exi <;> assumption)
theorem wF.of {r : FRes} {Q : O -> W -> Prop} {X : Exc -> W -> Prop} {o : O} {w : W} (e : r = .ok o w) (h : Q o w) : wF r Q X := by walk_at "z"; first | exact vF.of .. | (apply vF.of <;> assumption)
theorem wS.mono {o : Out} {D1 D2 : En} (h : wS o D1) (h1 : ∀ ρ, D1.nx ρ -> D2.nx ρ) (h2 : ∀ o w, D1.rt o w -> D2.rt o w) (h3 : ∀ ρ, D1.bk ρ -> D2.bk ρ) (h4 : ∀ ρ, D1.ct ρ -> D2.ct ρ) (h5 : ∀ x ρ, D1.ex x ρ -> D2.ex x ρ) : wS o D2 := by walk_at "z"; first | exact vS.mono .. | (apply vS.mono <;> assumption)
theorem wE.mono {r : Res α} {Q Q' : α -> PSt -> Prop} {X X' : Exc -> PSt -> Prop} (h : wE r Q X) (k : ∀ a ρ, Q a ρ -> Q' a ρ) (k2 : ∀ x ρ, X x ρ -> X' x ρ) : wE r Q' X' := by walk_at "z"; first | exact vE.mono .. | (apply vE.mono <;> assumption)
theorem wK' {a b : MS} (J : PSt -> Prop) (h : wS (a ρ) ⟨J, rt, bk, ct, ex⟩) (k : ∀ ρ1, J ρ1 -> wS (b ρ1) ⟨N, rt, bk, ct, ex⟩) : wS (aA' a b ρ) ⟨N, rt, bk, ct, ex⟩ := by walk_at "z"; first | exact j8' .. | (apply j8' <;> assumption)
theorem cH' {p : Prop} [Decidable p] {A B : Prop} (h1 : p -> A) (h2 : ¬ p -> B) : wI (decide p) A B := by walk_at "z"; first | exact nf' .. | (apply nf' <;> assumption)
theorem bY' {γ : Type} {g : MG} {b : MS} {f : γ -> D} {cs : List γ} (Inv : List γ -> PSt -> Prop) (h0 : Inv [] ρ)
    (step : ∀ pre c post ρ, cs = pre ++ c :: post -> Inv pre ρ -> wD (g (f c) ρ) fun ρ1 => wS (b ρ1) ⟨Inv (pre ++ [c]), rt, N, Inv (pre ++ [c]), ex⟩)
    (hend : ∀ ρ, Inv cs ρ -> N ρ) : wS (oD' g b (cs.map f) ρ) ⟨N, rt, bk, ct, ex⟩ := by walk_at "z"; first | exact hz' .. | (apply hz' <;> assumption)
theorem e5' {g : MG} {b : MS} {lo : Int} {n : Nat} (Inv : Nat -> PSt -> Prop) (h0 : Inv 0 ρ)
    (step : ∀ k ρ, k < n -> Inv k ρ -> wD (g (.int (lo + (k : Nat))) ρ) fun ρ1 => wS (b ρ1) ⟨Inv (k + 1), rt, N, Inv (k + 1), ex⟩)
    (hend : ∀ ρ, Inv n ρ -> N ρ) : wS (oD' g b (rgI lo n) ρ) ⟨N, rt, bk, ct, ex⟩ := by walk_at "z"; first | exact kb' .. | (apply kb' <;> assumption)
theorem hr' {t : MT} {b : MS} {n : Nat} (Inv : Nat -> PSt -> Prop) (m : Nat) (hm : m < n) (h0 : Inv m ρ)
    (step : ∀ m ρ, Inv m ρ -> wE (t ρ) (fun k ρ1 => wI k (wS (b ρ1) ⟨fun ρ2 => ∃ m', m' < m /\ Inv m' ρ2, rt, N, fun ρ2 => ∃ m', m' < m /\ Inv m' ρ2, ex⟩) (N ρ1)) ex) :
    wS (eH' t b n ρ) ⟨N, rt, bk, ct, ex⟩ := by walk_at "z"; first | exact hy' .. | (apply hy' <;> assumption)
theorem eO' {own : List Nat} {g : MG} {t : MT} {e : ME} {γ : Type} {f : γ -> D} {cs : List γ} {Q : List D -> PSt -> Prop} (hl : cs.length <= 16777216) (Inv : List γ -> List D -> PSt -> Prop) (h0 : Inv [] [] ρ)
    (step : ∀ pre c post acc ρ, cs = pre ++ c :: post -> Inv pre acc ρ -> wD (g (f c) ⟨az' own ρ.env, ρ.w⟩) fun ρ1 => wE (t ρ1) (fun k ρ2 => wI k (wE (e ρ2) (fun y ρ3 => Inv (pre ++ [c]) (acc ++ [y]) ρ3) PX) (Inv (pre ++ [c]) acc ρ2)) PX)
    (hend : ∀ acc ρ, Inv cs acc ρ -> Q acc ρ) : wE (lcL own g t e (cs.map f) [] ρ) Q X := by walk_at "z"; first | exact no' .. | (apply no' <;> assumption)
end
theorem wk' (C : String) (fs : List (String × O)) {P : String -> List (String × O) -> Prop} : BE' (some (.ins C fs)) P = P C fs := by simp only [cb']; exact qf' ..
theorem C5' (cs : List String) (f : String) (o : O) (w : W) (n : Nat) {N : W -> Prop} : wD (stF cs f o w (.obj n)) N = BE' w[n]? (fun C fs => wC (C ∈ cs /\ fs.length < 1000) (N (w.set n (.ins C (rP' f o fs))))) := by simp only [au', cb', eS']; exact wv' ..
theorem tr' (w : W) (n : Nat) {Q : List O -> Prop} : vD (Ee' w (.obj n)) Q = vOb w[n]? Q := by
  show vD (match w[n]? with | some (.lst os) => some os | _ => none) Q = _
  rcases w[n]? with _ | b
  . rfl
  cases b <;> rfl
theorem A3' (w : W) (n : Nat) {Q : List O -> Prop} : wD (Ee' w (.obj n)) Q = wOb w[n]? Q := by simp only [cB', eR', fc', au', da']; exact tr' w n
theorem ts' (w : W) (n : Nat) {Q : D -> Prop} : vD (Ef' w (.obj n)) Q = vOb w[n]? fun os => Q (.int os.length) := by
  show vD (match w[n]? with | some (.lst os) => some (.int os.length) | _ => none) Q = _
  rcases w[n]? with _ | b
  . rfl
  cases b <;> rfl
theorem A5' (w : W) (n : Nat) {Q : D -> Prop} : wD (Ef' w (.obj n)) Q = wOb w[n]? fun os => Q (.int os.length) := by simp only [cB', eR', fc', au', da']; exact ts' w n
theorem wi' (os : List O) {P : List O -> Prop} : wOb (some (.lst os)) P = P os := by walk_at "z"; first | exact j3' .. | (apply j3' <;> assumption)
theorem gR' {c : Prop} (h : c) (A : Prop) : wC c A = A := by walk_at "z"; first | exact qj' .. | (apply qj' <;> assumption)
theorem wm' (A : Prop) : wC True A = A := by walk_at "z"; first | exact j7' .. | (apply j7' <;> assumption)
theorem eI' {α : Type} {c : Prop} [Decidable c] {x : α} {Q : α -> Prop} : wD (if c then some x else none) Q = wC c (Q x) := by walk_at "z"; first | exact a6' .. | (apply a6' <;> assumption)
theorem mV' {α β : Type} {f : α -> β} {o : Option α} {Q : β -> Prop} : wD (o.map f) Q = wD o (fun a => Q (f a)) := by walk_at "z"; first | exact cL' .. | (apply cL' <;> assumption)
section
variable {Q : D -> Prop} {Y : List D -> Prop}
theorem Bk' (i j : Int) : wD (dK' (.int i) (.int j)) Q = Q (.int (i + j)) := by walk_at "z"; first | exact nS' .. | (apply nS' <;> assumption)
theorem Bi' (a b : Tx) : wD (dK' (.str a) (.str b)) Q = pU' (a.length + b.length) (Q (.str (a ++ b))) := by walk_at "z"; first | exact nQ' .. | (apply nQ' <;> assumption)
theorem Bj' (a b : List D) : wD (dK' (.lst a) (.lst b)) Q = pU' (a.length + b.length) (Q (.lst (a ++ b))) := by walk_at "z"; first | exact nR' .. | (apply nR' <;> assumption)
theorem Bh' (a b : List D) : wD (dK' (.tup a) (.tup b)) Q = pU' (a.length + b.length) (Q (.tup (a ++ b))) := by walk_at "z"; first | exact nP' .. | (apply nP' <;> assumption)
theorem yi' (i j : Int) : wD (t4' (.int i) (.int j)) Q = Q (.int (i + j)) := by walk_at "z"; first | exact km' .. | (apply km' <;> assumption)
theorem C3' (i j : Int) : wD (yy' (.int i) (.int j)) Q = Q (.int (i - j)) := by walk_at "z"; first | exact qt' .. | (apply qt' <;> assumption)
theorem Dk' (i j : Int) : wD (kC' (.int i) (.int j)) Q = wC (((-18446744073709551616 < i /\ i < 18446744073709551616) \/ (-18446744073709551616 < j /\ j < 18446744073709551616)) \/ ((-2582249878086908589655919172003011874329705792829223512830659356540647622016841194629645353280137831435903171972747493376 < i /\ i < 2582249878086908589655919172003011874329705792829223512830659356540647622016841194629645353280137831435903171972747493376) /\ (-2582249878086908589655919172003011874329705792829223512830659356540647622016841194629645353280137831435903171972747493376 < j /\ j < 2582249878086908589655919172003011874329705792829223512830659356540647622016841194629645353280137831435903171972747493376))) (Q (.int (i * j))) := by walk_at "z"; first | exact qE' .. | (apply qE' <;> assumption)
theorem A0' (a : Tx) (j : Int) : wD (kC' (.str a) (.int j)) Q = wC (j < 4611686018427387904 /\ -4611686018427387904 <= j /\ a.length * j.toNat <= 16777216) (Q (.str (List.replicate j.toNat a).flatten)) := by walk_at "z"; first | exact nD' .. | (apply nD' <;> assumption)
theorem A1' (a : List D) (j : Int) : wD (kC' (.lst a) (.int j)) Q = wC (j < 4611686018427387904 /\ -4611686018427387904 <= j /\ a.length * j.toNat <= 16777216) (Q (.lst (List.replicate j.toNat a).flatten)) := by walk_at "z"; first | exact nE' .. | (apply nE' <;> assumption)
theorem Bf' (i j : Int) : wD (jz' (.int i) (.int j)) Q = wC (0 < j /\ j < 1606938044258990275541962092341162602522202993782792835301376) (Q (.int (i / j))) := by walk_at "z"; first | exact nO' .. | (apply nO' <;> assumption)
theorem Dl' (i j : Int) : wD (pK' (.int i) (.int j)) Q = wC (0 < j) (Q (.int (i % j))) := by walk_at "z"; first | exact qF' .. | (apply qF' <;> assumption)
theorem De' (i j : Int) : wD (zU' (.int i) (.int j)) Q = wC (0 <= j /\ j <= 1000 /\ -18446744073709551616 < i /\ i < 18446744073709551616) (Q (.int (i ^ j.toNat))) := by walk_at "z"; first | exact qA' .. | (apply qA' <;> assumption)
theorem Df' (i : Int) : wD (zV' (.int i)) Q = Q (.int (-i)) := by walk_at "z"; first | exact qB' .. | (apply qB' <;> assumption)
theorem DH' (i j : Int) : wD (pEq (.int i) (.int j)) Q = Q (.bl (decide (i = j))) := by walk_at "z"; first | exact qY' .. | (apply qY' <;> assumption)
theorem DF' (i j : Tx) : wD (pEq (.str i) (.str j)) Q = Q (.bl (decide (i = j))) := by walk_at "z"; first | exact qX' .. | (apply qX' <;> assumption)
theorem DI' (i j : Bool) : wD (pEq (.bl i) (.bl j)) Q = Q (.bl (i == j)) := by walk_at "z"; first | exact qZ' .. | (apply qZ' <;> assumption)
theorem ES' (x y : D) : wD (pEq x y) Q = wC (dat x = true /\ dat y = true /\ dep x <= 64 /\ dep y <= 64) (Q (.bl (eqb x y))) := by walk_at "z"; first | exact vj' .. | (apply vj' <;> assumption)
theorem Di' (i j : Int) : wD (pNe (.int i) (.int j)) Q = Q (.bl (!decide (i = j))) := by walk_at "z"; first | exact qD' .. | (apply qD' <;> assumption)
theorem Dg' (i j : Tx) : wD (pNe (.str i) (.str j)) Q = Q (.bl (!decide (i = j))) := by walk_at "z"; first | exact qC' .. | (apply qC' <;> assumption)
theorem Dv' (x : D) : wD (pIs x .non) Q = Q (.bl (e4' x)) := by walk_at "z"; first | exact qQ' .. | (apply qQ' <;> assumption)
theorem Dw' (x y : Bool) : wD (pIs (.bl x) (.bl y)) Q = Q (.bl (x == y)) := by walk_at "z"; first | exact qR' .. | (apply qR' <;> assumption)
theorem uF' (x : D) : wD (gt' x .non) Q = Q (.bl (!e4' x)) := by walk_at "z"; first | exact iT' .. | (apply iT' <;> assumption)
theorem uG' (x y : Bool) : wD (gt' (.bl x) (.bl y)) Q = Q (.bl (!(x == y))) := by walk_at "z"; first | exact iU' .. | (apply iU' <;> assumption)
theorem EK' (i j : Int) : wD (pLt (.int i) (.int j)) Q = Q (.bl (decide (i < j))) := by walk_at "z"; first | exact vc' .. | (apply vc' <;> assumption)
theorem EL' (i j : Int) : wD (pLe (.int i) (.int j)) Q = Q (.bl (decide (i <= j))) := by walk_at "z"; first | exact vd' .. | (apply vd' <;> assumption)
theorem EM' (i j : Int) : wD (pGt (.int i) (.int j)) Q = Q (.bl (decide (j < i))) := by walk_at "z"; first | exact ve' .. | (apply ve' <;> assumption)
theorem EO' (i j : Int) : wD (pGe (.int i) (.int j)) Q = Q (.bl (decide (j <= i))) := by walk_at "z"; first | exact vg' .. | (apply vg' <;> assumption)
theorem Do' (i j : Tx) : wD (pLt (.str i) (.str j)) Q = Q (.bl (decide (i < j))) := by walk_at "z"; first | exact qI' .. | (apply qI' <;> assumption)
theorem Dp' (i j : Tx) : wD (pLe (.str i) (.str j)) Q = Q (.bl (!decide (j < i))) := by walk_at "z"; first | exact qJ' .. | (apply qJ' <;> assumption)
theorem Dz' (i j : Tx) : wD (pGt (.str i) (.str j)) Q = Q (.bl (decide (j < i))) := by walk_at "z"; first | exact qU' .. | (apply qU' <;> assumption)
theorem DB' (i j : Tx) : wD (pGe (.str i) (.str j)) Q = Q (.bl (!decide (i < j))) := by walk_at "z"; first | exact qW' .. | (apply qW' <;> assumption)
theorem Dy' (c : Nat) (s : Tx) : wD (pIn (.str [c]) (.str s)) Q = Q (.bl (decide (c ∈ s))) := by walk_at "z"; first | exact qT' .. | (apply qT' <;> assumption)
theorem AY' (c : Nat) (s : Tx) : wD (kB' (.str [c]) (.str s)) Q = Q (.bl (!decide (c ∈ s))) := by walk_at "z"; first | exact nC' .. | (apply nC' <;> assumption)
theorem v0' (i : Int) (ns : List Int) : wD (pIn (.int i) (.tup (ns.map .int))) Q = Q (.bl (decide (i ∈ ns))) := by walk_at "z"; first | exact nL' .. | (apply nL' <;> assumption)
theorem v1' (i : Int) (ns : List Int) : wD (pIn (.int i) (.lst (ns.map .int))) Q = Q (.bl (decide (i ∈ ns))) := by walk_at "z"; first | exact nM' .. | (apply nM' <;> assumption)
theorem A6' (s : Tx) : wD (c8' (.str s)) Q = Q (.int s.length) := by walk_at "z"; first | exact nH' .. | (apply nH' <;> assumption)
theorem A8' (s : List D) : wD (c8' (.lst s)) Q = Q (.int s.length) := by walk_at "z"; first | exact nI' .. | (apply nI' <;> assumption)
theorem oO' (s : List D) : wD (c8' (.tup s)) Q = Q (.int s.length) := by walk_at "z"; first | exact nG' .. | (apply nG' <;> assumption)
theorem Dr' (s : Tx) (i : Int) : wD (pIx (.str s) (.int i)) Q = wD (ati s i) (fun c => Q (.str [c])) := by walk_at "z"; first | exact qM' .. | (apply qM' <;> assumption)
theorem Du' (s : List D) (i : Int) : wD (pIx (.lst s) (.int i)) Q = wD (ati s i) Q := by walk_at "z"; first | exact qO' .. | (apply qO' <;> assumption)
theorem yc' (s : List D) (i : Int) : wD (pIx (.tup s) (.int i)) Q = wD (ati s i) Q := by walk_at "z"; first | exact qL' .. | (apply qL' <;> assumption)
theorem C7' (s : Tx) (lo hi : Option Int) : wD (pSl (.str s) lo hi) Q = Q (.str (cut s lo hi)) := by walk_at "z"; first | exact qv' .. | (apply qv' <;> assumption)
theorem C9' (s : List D) (lo hi : Option Int) : wD (pSl (.lst s) lo hi) Q = Q (.lst (cut s lo hi)) := by walk_at "z"; first | exact qx' .. | (apply qx' <;> assumption)
theorem C6' (s : List D) (lo hi : Option Int) : wD (pSl (.tup s) lo hi) Q = Q (.tup (cut s lo hi)) := by walk_at "z"; first | exact qu' .. | (apply qu' <;> assumption)
theorem C8' (s : List D) (lo hi : Option Int) : wD (pSl (.scr s) lo hi) Q = Q (.lst (cut s lo hi)) := by walk_at "z"; first | exact qw' .. | (apply qw' <;> assumption)
theorem AU' (s : Tx) : wD (BJ' (.str s)) Q = Q (.str s.reverse) := by walk_at "z"; first | exact nA' .. | (apply nA' <;> assumption)
theorem AV' (s : List D) : wD (BJ' (.lst s)) Q = Q (.lst s.reverse) := by walk_at "z"; first | exact nB' .. | (apply nB' <;> assumption)
theorem sN' (l : List Tx) : wD (f8' [] [.lst (l.map .str)]) Q = pU' (l.map List.length).sum (Q (.str l.flatten)) := by walk_at "z"; first | exact jk' .. | (apply jk' <;> assumption)
theorem ya' (l : Tx) : wD (f8' [] [.lst (l.map chD)]) Q = pU' l.length (Q (.str l)) := by walk_at "z"; first | exact kk' .. | (apply kk' <;> assumption)
theorem Be' (a b : Tx) : wD (r9' a [.str b]) Q = Q (.int (fnd (oC' a b))) := by walk_at "z"; first | exact nN' .. | (apply nN' <;> assumption)
theorem yf' (a b : Tx) : wD (kU' a [.str b]) Q = wD (oC' a b) (fun i => Q (.int (i : Nat))) := by walk_at "z"; first | exact kl' .. | (apply kl' <;> assumption)
theorem xT' (s : Tx) : wD (vB' (.str s)) Q = wC (s.all (fun c => decide (c < 128)) = true /\ s.length <= 5592405) (Q (.str (s.map up1))) := by walk_at "z"; first | exact kc' .. | (apply kc' <;> assumption)
theorem Dx' (i : Int) : wD (l1' (.int i)) Q = Q (.int i) := by walk_at "z"; first | exact qS' .. | (apply qS' <;> assumption)
theorem Bc' (b : Bool) : wD (l1' (.bl b)) Q = Q (.int (if b then 1 else 0)) := by walk_at "z"; first | exact nK' .. | (apply nK' <;> assumption)
theorem DP' (i : Int) : wD (BM' (.int i)) Q = Q (.int (if i < 0 then -i else i)) := by walk_at "z"; first | exact q8' .. | (apply q8' <;> assumption)
theorem Dn' (i j : Int) : wD (t1' (.int i) (.int j)) Q = Q (.int (max i j)) := by walk_at "z"; first | exact qH' .. | (apply qH' <;> assumption)
theorem Dm' (i j : Int) : wD (t0' (.int i) (.int j)) Q = Q (.int (min i j)) := by walk_at "z"; first | exact qG' .. | (apply qG' <;> assumption)
theorem oL' (s : List D) : wD (ck' (.lst s)) Q = Q (.tup s) := by walk_at "z"; first | exact nv' .. | (apply nv' <;> assumption)
theorem AM' (s : List D) : wD (ck' (.tup s)) Q = Q (.tup s) := by walk_at "z"; first | exact nu' .. | (apply nu' <;> assumption)
theorem x4' (s : List D) : wD (kD' (.lst s)) Q = Q (.lst s) := by walk_at "z"; first | exact kh' .. | (apply kh' <;> assumption)
theorem x2' (s : List D) : wD (kD' (.tup s)) Q = Q (.lst s) := by walk_at "z"; first | exact kg' .. | (apply kg' <;> assumption)
theorem xW' (s : Tx) : wD (eZ' (.str s)) Q = wC (s.length < 64) (Q (.lst ((dY' s).map chD))) := by walk_at "z"; first | exact kd' .. | (apply kd' <;> assumption)
theorem bC' (t : String) (d : D) : wD (ca' t d) Q = wD (tyn d) (fun n => Q (.bl (n == t || (n == "bool" && t == "int")))) := by walk_at "z"; first | exact qP' .. | (apply qP' <;> assumption)
theorem C2' (l : List Int) : wD (Ea' (.lst (l.map .int))) Q = Q (.int l.sum) := by walk_at "z"; first | exact qs' .. | (apply qs' <;> assumption)
theorem Bg' (l : List Bool) : wD (t3' (.lst (l.map .bl))) Q = Q (.bl (l.all id)) := by walk_at "z"; first | exact q7' .. | (apply q7' <;> assumption)
theorem DO' (l : List Bool) : wD (t2' (.lst (l.map .bl))) Q = Q (.bl (l.any id)) := by walk_at "z"; first | exact q6' .. | (apply q6' <;> assumption)
theorem AT' (s : List D) : wD (eU' (.lst s)) Y = Y s := by walk_at "z"; first | exact nz' .. | (apply nz' <;> assumption)
theorem oM' (s : List D) : wD (eU' (.tup s)) Y = Y s := by walk_at "z"; first | exact nx' .. | (apply nx' <;> assumption)
theorem AS' (s : Tx) : wD (eU' (.str s)) Y = Y (s.map chD) := by walk_at "z"; first | exact ny' .. | (apply ny' <;> assumption)
theorem Dd' (j : Int) : wD (f0' (.int j)) Y = wC (-4611686018427387904 <= j /\ j < 4611686018427387904) (Y (rgI 0 j.toNat)) := by walk_at "z"; first | exact qz' .. | (apply qz' <;> assumption)
theorem Dc' (i j : Int) : wD (fZ' (.int i) (.int j)) Y = wC ((-4611686018427387904 <= i /\ i < 4611686018427387904) /\ (-4611686018427387904 <= j /\ j < 4611686018427387904)) (Y (rgI i (j - i).toNat)) := by walk_at "z"; first | exact qy' .. | (apply qy' <;> assumption)
theorem AH' (a b : Tx) : wD (ta' (.str a) (.str b)) Y = Y (dN' (a.map chD) (b.map chD)) := by walk_at "z"; first | exact nq' .. | (apply nq' <;> assumption)
theorem AK' (a b : List D) : wD (ta' (.lst a) (.lst b)) Y = Y (dN' a b) := by walk_at "z"; first | exact nt' .. | (apply nt' <;> assumption)
theorem AG' (a b : List D) : wD (ta' (.tup a) (.tup b)) Y = Y (dN' a b) := by walk_at "z"; first | exact np' .. | (apply np' <;> assumption)
theorem AJ' (a : Tx) (b : List D) : wD (D0' (.str a) (.tup b)) Y = Y (dN' (a.map chD) b) := by walk_at "z"; first | exact nr' .. | (apply nr' <;> assumption)
theorem DJ' (a : Tx) : wD (enB (.str a)) Y = Y (mi' 0 (a.map chD)) := by walk_at "z"; first | exact q0' .. | (apply q0' <;> assumption)
theorem DK' (a : List D) : wD (enB (.lst a)) Y = Y (mi' 0 a) := by walk_at "z"; first | exact q3' .. | (apply q3' <;> assumption)
theorem x0' (a : List D) : wD (BI' (.lst a)) Y = Y a.reverse := by walk_at "z"; first | exact kf' .. | (apply kf' <;> assumption)
theorem xZ' (a : List D) : wD (BI' (.tup a)) Y = Y a.reverse := by walk_at "z"; first | exact ke' .. | (apply ke' <;> assumption)
theorem A4' (j : Int) : wD (oc' (.int j)) Q = wC (RgB 0 j = true) (Q (.lst (sy' 0 j))) := by walk_at "z"; first | exact nF' .. | (apply nF' <;> assumption)
theorem EQ' (i : Nat) (d : D) (env : List (Option O)) (w : W) {N : PSt -> Prop} : wD (gN i d ⟨env, w⟩) N = uX' i env.length (N ⟨env.set i (some (.fz d)), w⟩) := by walk_at "z"; first | exact vi' .. | (apply vi' <;> assumption)
theorem EP' (is : List Nat) (ds : List D) (ρ : PSt) {N : PSt -> Prop} : wD (gT is (.tup ds) ρ) N = wD (gNs is ds ρ) N := by walk_at "z"; first | exact vh' .. | (apply vh' <;> assumption)
theorem DA' (ρ : PSt) {N : PSt -> Prop} : wD (gNs [] [] ρ) N = N ρ := by walk_at "z"; first | exact qV' .. | (apply qV' <;> assumption)
theorem EN' (i : Nat) (is : List Nat) (d : D) (ds : List D) (ρ : PSt) {N : PSt -> Prop} : wD (gNs (i :: is) (d :: ds) ρ) N = wD (gN i d ρ) (fun ρ1 => wD (gNs is ds ρ1) N) := by walk_at "z"; first | exact vf' .. | (apply vf' <;> assumption)
theorem Dq' (w : W) (n : Nat) (k : D) : wD (ixW w (.obj n) k) Q = wOb w[n]? (fun os => wD (ixO (.lst os) k) Q) := by walk_at "z"; first | exact qK' .. | (apply qK' <;> assumption)
theorem Ds' (os : List O) (i : Int) : wD (ixO (.lst os) (.int i)) Q = wD (ati os i) (fun o => wD (asF o) Q) := by walk_at "z"; first | exact qN' .. | (apply qN' <;> assumption)
theorem DN' (d : D) : wD (asF (.fz d)) Q = Q d := by walk_at "z"; first | exact q5' .. | (apply q5' <;> assumption)
theorem DM' (d : List D) {Q : List D -> Prop} : wD (asL (.lst d)) Q = Q d := by walk_at "z"; first | exact q4' .. | (apply q4' <;> assumption)
theorem Ba' (d k : D) : wD (ixO (.fz d) k) Q = wD (pIx d k) Q := by walk_at "z"; first | exact nJ' .. | (apply nJ' <;> assumption)
theorem AR' (w : W) (n : Nat) (z : Int) (d : D) {N : W -> Prop} : wD (tz' w (.obj n) (.int z) d) N = wOb w[n]? (fun os => wD (ixn os.length z) (fun j => N (w.set n (.lst (os.set j (.fz d)))))) := by walk_at "z"; first | exact nw' .. | (apply nw' <;> assumption)
theorem x7' (os : List O) : wD (pf' (.lst os)) Q = Q (.int os.length) := by walk_at "z"; first | exact ki' .. | (apply ki' <;> assumption)
theorem x8' (d : D) : wD (pf' (.fz d)) Q = wD (c8' d) Q := by walk_at "z"; first | exact kj' .. | (apply kj' <;> assumption)
end
theorem mt'  {Q : D -> Prop} : wD (ca' "int" .non) Q = Q (.bl false) := by rw [bC', au']; rfl
theorem pt' (a : Bool) {Q : D -> Prop} : wD (ca' "int" (.bl a)) Q = Q (.bl true) := by rw [bC', au']; rfl
theorem mv' (a : Int) {Q : D -> Prop} : wD (ca' "int" (.int a)) Q = Q (.bl true) := by rw [bC', au']; rfl
theorem ms' (a : Tx) {Q : D -> Prop} : wD (ca' "int" (.str a)) Q = Q (.bl false) := by rw [bC', au']; rfl
theorem mr' (a : List D) {Q : D -> Prop} : wD (ca' "int" (.tup a)) Q = Q (.bl false) := by rw [bC', au']; rfl
theorem mu' (a : List D) {Q : D -> Prop} : wD (ca' "int" (.lst a)) Q = Q (.bl false) := by rw [bC', au']; rfl
theorem mw' (a b : List D) {Q : D -> Prop} : wD (ca' "int" (.dct a b)) Q = Q (.bl false) := by rw [bC', au']; rfl
theorem lr'  {Q : D -> Prop} : wD (ca' "bool" .non) Q = Q (.bl false) := by rw [bC', au']; rfl
theorem my' (a : Bool) {Q : D -> Prop} : wD (ca' "bool" (.bl a)) Q = Q (.bl true) := by rw [bC', au']; rfl
theorem lt' (a : Int) {Q : D -> Prop} : wD (ca' "bool" (.int a)) Q = Q (.bl false) := by rw [bC', au']; rfl
theorem lq' (a : Tx) {Q : D -> Prop} : wD (ca' "bool" (.str a)) Q = Q (.bl false) := by rw [bC', au']; rfl
theorem lp' (a : List D) {Q : D -> Prop} : wD (ca' "bool" (.tup a)) Q = Q (.bl false) := by rw [bC', au']; rfl
theorem ls' (a : List D) {Q : D -> Prop} : wD (ca' "bool" (.lst a)) Q = Q (.bl false) := by rw [bC', au']; rfl
theorem lu' (a b : List D) {Q : D -> Prop} : wD (ca' "bool" (.dct a b)) Q = Q (.bl false) := by rw [bC', au']; rfl
theorem mm'  {Q : D -> Prop} : wD (ca' "str" .non) Q = Q (.bl false) := by rw [bC', au']; rfl
theorem pr' (a : Bool) {Q : D -> Prop} : wD (ca' "str" (.bl a)) Q = Q (.bl false) := by rw [bC', au']; rfl
theorem mo' (a : Int) {Q : D -> Prop} : wD (ca' "str" (.int a)) Q = Q (.bl false) := by rw [bC', au']; rfl
theorem ml' (a : Tx) {Q : D -> Prop} : wD (ca' "str" (.str a)) Q = Q (.bl true) := by rw [bC', au']; rfl
theorem mk' (a : List D) {Q : D -> Prop} : wD (ca' "str" (.tup a)) Q = Q (.bl false) := by rw [bC', au']; rfl
theorem mn' (a : List D) {Q : D -> Prop} : wD (ca' "str" (.lst a)) Q = Q (.bl false) := by rw [bC', au']; rfl
theorem mp' (a b : List D) {Q : D -> Prop} : wD (ca' "str" (.dct a b)) Q = Q (.bl false) := by rw [bC', au']; rfl
theorem jP'  {Q : D -> Prop} : wD (ca' "tuple" .non) Q = Q (.bl false) := by rw [bC', au']; rfl
theorem lc' (a : Bool) {Q : D -> Prop} : wD (ca' "tuple" (.bl a)) Q = Q (.bl false) := by rw [bC', au']; rfl
theorem jR' (a : Int) {Q : D -> Prop} : wD (ca' "tuple" (.int a)) Q = Q (.bl false) := by rw [bC', au']; rfl
theorem jO' (a : Tx) {Q : D -> Prop} : wD (ca' "tuple" (.str a)) Q = Q (.bl false) := by rw [bC', au']; rfl
theorem cO' (a : List D) {Q : D -> Prop} : wD (ca' "tuple" (.tup a)) Q = Q (.bl true) := by rw [bC', au']; rfl
theorem jQ' (a : List D) {Q : D -> Prop} : wD (ca' "tuple" (.lst a)) Q = Q (.bl false) := by rw [bC', au']; rfl
theorem jS' (a b : List D) {Q : D -> Prop} : wD (ca' "tuple" (.dct a b)) Q = Q (.bl false) := by rw [bC', au']; rfl
theorem lf'  {Q : D -> Prop} : wD (ca' "list" .non) Q = Q (.bl false) := by rw [bC', au']; rfl
theorem mq' (a : Bool) {Q : D -> Prop} : wD (ca' "list" (.bl a)) Q = Q (.bl false) := by rw [bC', au']; rfl
theorem lh' (a : Int) {Q : D -> Prop} : wD (ca' "list" (.int a)) Q = Q (.bl false) := by rw [bC', au']; rfl
theorem le' (a : Tx) {Q : D -> Prop} : wD (ca' "list" (.str a)) Q = Q (.bl false) := by rw [bC', au']; rfl
theorem ld' (a : List D) {Q : D -> Prop} : wD (ca' "list" (.tup a)) Q = Q (.bl false) := by rw [bC', au']; rfl
theorem lg' (a : List D) {Q : D -> Prop} : wD (ca' "list" (.lst a)) Q = Q (.bl true) := by rw [bC', au']; rfl
theorem li' (a b : List D) {Q : D -> Prop} : wD (ca' "list" (.dct a b)) Q = Q (.bl false) := by rw [bC', au']; rfl
theorem ll'  {Q : D -> Prop} : wD (ca' "dict" .non) Q = Q (.bl false) := by rw [bC', au']; rfl
theorem mx' (a : Bool) {Q : D -> Prop} : wD (ca' "dict" (.bl a)) Q = Q (.bl false) := by rw [bC', au']; rfl
theorem ln' (a : Int) {Q : D -> Prop} : wD (ca' "dict" (.int a)) Q = Q (.bl false) := by rw [bC', au']; rfl
theorem lk' (a : Tx) {Q : D -> Prop} : wD (ca' "dict" (.str a)) Q = Q (.bl false) := by rw [bC', au']; rfl
theorem lj' (a : List D) {Q : D -> Prop} : wD (ca' "dict" (.tup a)) Q = Q (.bl false) := by rw [bC', au']; rfl
theorem lm' (a : List D) {Q : D -> Prop} : wD (ca' "dict" (.lst a)) Q = Q (.bl false) := by rw [bC', au']; rfl
theorem lo' (a b : List D) {Q : D -> Prop} : wD (ca' "dict" (.dct a b)) Q = Q (.bl true) := by rw [bC', au']; rfl
theorem oP' (l : List Int) (v : Int) {Q : D -> Prop} : wD (r8' (l.map .int) [.int v]) Q = wC (v ∈ l) (Q (.int (l.idxOf v : Nat))) := by
  show wD ((bU' (l.map .int)).bind fun ns => if v ∈ ns then some (D.int ((ns.idxOf v : Nat) : Int)) else none) Q = _
  rw [mf', Option.bind_some, eI']
theorem yY' {p : Prop} [Decidable p] (h : p) (A B : Prop) : wI (decide p) A B = A := by rw [decide_eq_true h]; exact yu' A B
theorem Cg' {p : Prop} [Decidable p] (h : ¬ p) (A B : Prop) : wI (decide p) A B = B := by rw [decide_eq_false h]; exact y0' A B
theorem BR' {b : Bool} (h : b = true) : O.fz (.bl true) = O.fz (.bl b) := by rw [h]
theorem BS' {b : Bool} (h : b = false) : O.fz (.bl false) = O.fz (.bl b) := by rw [h]
theorem yp' {α β : Type} (f : α -> β) (l : List α) (i : Int) : ati (l.map f) i = (ati l i).map f := by
  unfold ati
  rw [List.length_map]
  cases ixn l.length i with
  | none => rfl
  | some j => simp
theorem jM' {α : Type} {xs : List α} {i : Nat} {Q : α -> Prop} (h : i < xs.length) (k : ∀ x, x ∈ xs -> xs[i]? = some x -> Q x) : wD xs[i]? Q := by
  rw [List.getElem?_eq_getElem h, bj']
  exact k _ (List.getElem_mem h) (List.getElem?_eq_getElem h)
theorem bE' {α : Type} {l : List α} {i : Nat} {x : α} (h : l[i]? = some x) : i < l.length := (List.getElem?_eq_some_iff.mp h).1
def But (n : Nat) (w w' : W) : Prop := w'.length = w.length /\ ∀ j, j ≠ n -> w'[j]? = w[j]?
theorem But.refl {n : Nat} {w : W} : But n w w := ⟨rfl, fun _ _ => rfl⟩
theorem But.trans {n : Nat} {w w1 w2 : W} (a : But n w w1) (b : But n w1 w2) : But n w w2 := ⟨b.1.trans a.1, fun j h => (b.2 j h).trans (a.2 j h)⟩
theorem But.set {n : Nat} {w w1 : W} {o : Ob} (a : But n w w1) : But n w (w1.set n o) := ⟨by rw [List.length_set]; exact a.1, fun j h => by rw [List.getElem?_set_ne (Ne.symm h)]; exact a.2 j h⟩
theorem tn1 (d : Nat) : ((d : Int) + 1).toNat = d + 1 := rfl
theorem Bw' (l : List D) (d : D) : l.map O.fz ++ [O.fz d] = (l ++ [d]).map O.fz := by simp
theorem xG' (l : List D) : frz (.lst (l.map .fz)) = .lst l := by simp [frz]
theorem wl' {k : Bool} {A B : Prop} (h1 : k = true -> A) (h2 : k = false -> B) : wI k A B := by
  cases k
  . rw [y0']; exact h2 rfl
  . rw [yu']; exact h1 rfl
theorem pV' {k : Bool} {a b : Out} {N bk ct : PSt -> Prop} {rt : O -> W -> Prop} {ex : Exc -> PSt -> Prop} (J : PSt -> Prop) (h : wI k (wS a ⟨J, rt, bk, ct, ex⟩) (wS b ⟨J, rt, bk, ct, ex⟩)) (hk : ∀ ρ, J ρ -> N ρ) : wI k (wS a ⟨N, rt, bk, ct, ex⟩) (wS b ⟨N, rt, bk, ct, ex⟩) := by
  cases k
  . rw [y0'] at *
    exact wS.mono h hk (fun _ _ h => h) (fun _ h => h) (fun _ h => h) (fun _ _ h => h)
  . rw [yu'] at *
    exact wS.mono h hk (fun _ _ h => h) (fun _ h => h) (fun _ h => h) (fun _ _ h => h)
def eE' (w : W) (n : Nat) : Prop := ∃ (cells : List Int) (i b s c : Int), w[n]? = some (.lst [.fz (.lst (cells.map .int)), .fz (.int i), .fz (.int b), .fz (.int s), .fz (.int c)]) /\ 0 <= i
theorem yR' (A : Prop) : vX (some (some .exn)) A = A := rfl
end M
namespace M
mutual
theorem oG' : ∀ (d : D), dat d = true -> eqb d d = true
  | .non, _ => rfl
  | .bl b, _ => by simp [eqb]
  | .int i, _ => by simp [eqb]
  | .str s, _ => by simp [eqb]
  | .tup ds, h => by simp only [eqb]; exact eqbs_refl ds (by simpa [dat] using h)
  | .lst ds, h => by simp only [eqb]; exact eqbs_refl ds (by simpa [dat] using h)
theorem eqbs_refl : ∀ (ds : List D), dats ds = true -> eqbs ds ds = true
  | [], _ => rfl
  | d :: r, h => by
    simp only [dats, Bool.and_eq_true] at h
    simp only [eqbs, oG' d h.1, eqbs_refl r h.2, Bool.and_self]
end
theorem uI' (x : D) (h : dat x = true) (h2 : dep x <= 64) {Q : D -> Prop} : wD (pEq x x) Q = Q (.bl true) := by
  rw [ES', gR' ⟨h, h, h2, h2⟩, oG' x h]
def dp' (r : List Nat) : D := .tup (r.map fun t => .int (t : Nat))
def cC' (T : List (List Nat)) : D := .tup (T.map dp')
def cK' (A : List Nat) : D := .tup (A.map fun a => .int (a : Nat))
def a4' (T : List (List Nat)) (size many : Nat) : Prop := T.length = size /\ ∀ r ∈ T, r.length = many /\ ∀ t ∈ r, t < size
abbrev abc : Tx := [97, 98, 99, 100, 101, 102, 103, 104, 105, 106, 107, 108, 109, 110, 111, 112, 113, 114, 115, 116, 117, 118, 119, 120, 121, 122]
theorem l8' {c : Nat} : c ∈ abc ↔ 97 <= c /\ c <= 122 := by
  simp only [List.mem_cons, List.not_mem_nil, or_false]
  omega
structure LetOk (L : Tx) (most : Nat) : Prop where
  ne : 1 <= L.length
  le : L.length <= most
  asc : L.Pairwise (· < ·)
  abc : ∀ c ∈ L, 97 <= c /\ c <= 122
structure AccOk (A : List Nat) (size : Nat) : Prop where
  asc : A.Pairwise (· < ·)
  lt : ∀ a ∈ A, a < size
structure MacOk (L : Tx) (T : List (List Nat)) (A : List Nat) (most states : Nat) : Prop where
  let' : LetOk L most
  tab : a4' T T.length L.length
  ne : 1 <= T.length
  le : T.length <= states
  acc : AccOk A T.length
theorem yb' (T : List (List Nat)) (s : Nat) {Q : D -> Prop} : wD (pIx (cC' T) (.int (s : Nat))) Q = wD T[s]? (fun r => Q (dp' r)) := by
  unfold cC'
  rw [yc', oT' (by omega), List.getElem?_map, mV', Int.toNat_natCast]
theorem yd' (r : List Nat) (s : Nat) {Q : D -> Prop} : wD (pIx (dp' r) (.int (s : Nat))) Q = wD r[s]? (fun t => Q (.int (t : Nat))) := by
  unfold dp'
  rw [yc', oT' (by omega), List.getElem?_map, mV', Int.toNat_natCast]
theorem sO' (A : List Nat) (s : Nat) {Q : D -> Prop} : wD (pIn (.int (s : Nat)) (cK' A)) Q = Q (.bl (decide (s ∈ A))) := by
  unfold cK'
  have := v0' (Q := Q) (s : Int) (A.map (Nat.cast : Nat -> Int))
  rw [List.map_map] at this
  rw [show (A.map fun a => D.int (a : Nat)) = A.map (D.int ∘ (Nat.cast : Nat -> Int)) from rfl, this]
  congr 2
  simp only [List.mem_map, decide_eq_decide]
  constructor
  . rintro ⟨a, h, e⟩
    have : a = s := by omega
    exact this ▸ h
  . exact fun h => ⟨s, h, rfl⟩
theorem uC' (T : List (List Nat)) {Q : D -> Prop} : wD (c8' (cC' T)) Q = Q (.int T.length) := by
  unfold cC'
  rw [oO', List.length_map]
theorem uD' (T : List Nat) {Q : D -> Prop} : wD (c8' (dp' T)) Q = Q (.int T.length) := by
  unfold dp'
  rw [oO', List.length_map]
theorem uE' (T : List Nat) {Q : D -> Prop} : wD (c8' (cK' T)) Q = Q (.int T.length) := by
  unfold cK'
  rw [oO', List.length_map]
theorem oz' (v : Nat) : ∀ l : List Nat, (l.map (Nat.cast : Nat -> Int)).idxOf (v : Int) = l.idxOf v
  | [] => rfl
  | a :: l => by
    simp only [List.map_cons, List.idxOf_cons, oz' v l]
    have : ((a : Int) == (v : Int)) = (a == v) := by rw [Bool.eq_iff_iff]; simp; omega
    rw [this]
theorem uH' (l : List Nat) (v : Nat) {Q : D -> Prop} : wD (r8' (l.map fun s => .int (s : Nat)) [.int (v : Nat)]) Q = wC (v ∈ l) (Q (.int (l.idxOf v : Nat))) := by
  have h := oP' (Q := Q) (l.map (Nat.cast : Nat -> Int)) (v : Int)
  rw [List.map_map, oz'] at h
  rw [show (l.map fun s => D.int (s : Nat)) = l.map (D.int ∘ (Nat.cast : Nat -> Int)) from rfl, h]
  congr 1
  simp only [List.mem_map]
  rw [eq_iff_iff]
  constructor
  . rintro ⟨a, h, e⟩
    have : a = v := by omega
    exact this ▸ h
  . exact fun h => ⟨v, h, rfl⟩
theorem ur' (i : Nat) : fnd (some i) = (i : Int) := rfl
theorem ow' (a : Tx) (c : Nat) (i : Nat) : vQ' a [c] i = decide (a[i]? = some c) := by
  unfold vQ'
  rw [Bool.eq_iff_iff]
  simp only [Bool.and_eq_true, decide_eq_true_eq, List.length_cons, List.length_nil]
  constructor
  . rintro ⟨h1, h2⟩
    rw [List.take_one, List.head?_drop] at h2
    revert h2
    cases a[i]? <;> simp
  . intro h
    have := (List.getElem?_eq_some_iff.mp h).1
    refine ⟨by omega, ?_⟩
    rw [List.take_one, List.head?_drop, h]
    rfl
theorem oB' {a : Tx} {c : Nat} (h : c ∈ a) : oC' a [c] = some (a.idxOf c) := by
  unfold oC'
  rw [List.find?_range_eq_some]
  have hi : a.idxOf c < a.length := List.idxOf_lt_length_iff.mpr h
  refine ⟨?_, by simp; omega, ?_⟩
  . rw [ow', decide_eq_true_iff, List.getElem?_eq_getElem hi, List.getElem_idxOf]
  . intro j hj
    rw [ow']
    simp only [Bool.not_eq_eq_eq_not, Bool.not_true, decide_eq_false_iff_not]
    intro e
    obtain ⟨hl, e⟩ := List.getElem?_eq_some_iff.mp e
    have := List.not_of_lt_findIdx (p := (· == c)) (xs := a) hj
    simp [e] at this
def stp (L : Tx) (T : List (List Nat)) (s c : Nat) : Nat := (((T[s]?).getD [])[L.idxOf c]?).getD 0
def run (L : Tx) (T : List (List Nat)) (s : Nat) (x : Tx) : Nat := x.foldl (stp L T) s
theorem nW' {L : Tx} {T : List (List Nat)} (h : a4' T T.length L.length) {s c : Nat} (hs : s < T.length) (hc : c ∈ L) : ∃ r, T[s]? = some r /\ r[L.idxOf c]? = some (stp L T s c) /\ stp L T s c < T.length := by
  have hr := h.2 T[s] (List.getElem_mem hs)
  have hi : L.idxOf c < T[s].length := by rw [hr.1]; exact List.idxOf_lt_length_iff.mpr hc
  have e : stp L T s c = T[s][L.idxOf c] := by
    unfold stp
    rw [List.getElem?_eq_getElem hs, Option.getD_some, List.getElem?_eq_getElem hi, Option.getD_some]
  exact ⟨T[s], List.getElem?_eq_getElem hs, by rw [e, List.getElem?_eq_getElem hi], by rw [e]; exact hr.2 _ (List.getElem_mem hi)⟩
theorem jt' {L T s} : run L T s [] = s := rfl
theorem n4' {L T s x c} : run L T s (x ++ [c]) = stp L T (run L T s x) c := by unfold run; rw [List.foldl_append]; rfl
theorem o7' {L T s x y} : run L T s (x ++ y) = run L T (run L T s x) y := by unfold run; rw [List.foldl_append]
theorem ex' {L T s c x} : run L T s (c :: x) = run L T (stp L T s c) x := rfl
theorem n5' {L : Tx} {T : List (List Nat)} (h : a4' T T.length L.length) {s : Nat} (hs : s < T.length) : ∀ {x : Tx}, (∀ c ∈ x, c ∈ L) -> run L T s x < T.length := by
  intro x
  induction x generalizing s with
  | nil => intro _; exact hs
  | cons c x ih =>
    intro hx
    obtain ⟨_, _, _, h3⟩ := nW' h hs (hx c (by simp))
    exact ih h3 (fun d hd => hx d (by simp [hd]))
def CT' (L : Tx) (T : List (List Nat)) (A : List Nat) : Ob := .ins "Machine" [("kept_letters", .fz (.str L)), ("kept_table", .fz (cC' T)), ("kept_accepts", .fz (cK' A)), ("kept_least", .fz .non), ("kept_field", .fz .non), ("kept_lots", .dct [] []), ("kept_more", .dct [] [])]
structure Mac (w : W) (m : Nat) (L : Tx) (T : List (List Nat)) (A : List Nat) : Prop where
  fl : ∀ cs, "Machine" ∈ cs -> h9' cs "kept_letters" w (.obj m) = some (.str L)
  ft : ∀ cs, "Machine" ∈ cs -> h9' cs "kept_table" w (.obj m) = some (cC' T)
  fa : ∀ cs, "Machine" ∈ cs -> h9' cs "kept_accepts" w (.obj m) = some (cK' A)
theorem Mac.new {w : W} {m : Nat} {L T A} (h : w[m]? = some (CT' L T A)) : Mac w m L T A := by
  refine ⟨fun cs hc => ?_, fun cs hc => ?_, fun cs hc => ?_⟩
  all_goals simp [h9', h, CT', hc, List.lookup]
theorem Mac.but {w w' : W} {m n : Nat} {L T A} (h : Mac w m L T A) (hb : But n w w') (hn : m ≠ n) : Mac w' m L T A := by
  refine ⟨fun cs hc => ?_, fun cs hc => ?_, fun cs hc => ?_⟩
  . have := h.fl cs hc; simpa only [h9', hb.2 m hn] using this
  . have := h.ft cs hc; simpa only [h9', hb.2 m hn] using this
  . have := h.fa cs hc; simpa only [h9', hb.2 m hn] using this
theorem Mac.snoc {w : W} {m : Nat} {L T A} {o : Ob} (h : Mac w m L T A) (hn : m < w.length) : Mac (w ++ [o]) m L T A := by
  have e : (w ++ [o])[m]? = w[m]? := List.getElem?_append_left hn
  refine ⟨fun cs hc => ?_, fun cs hc => ?_, fun cs hc => ?_⟩
  . have := h.fl cs hc; simpa only [h9', e] using this
  . have := h.ft cs hc; simpa only [h9', e] using this
  . have := h.fa cs hc; simpa only [h9', e] using this
theorem eE'.snoc {w : W} {n : Nat} {o : Ob} (h : eE' w n) : eE' (w ++ [o]) n := by
  obtain ⟨c, i, b, s, k, e, hi⟩ := h
  exact ⟨c, i, b, s, k, by rw [List.getElem?_append_left (bE' e)]; exact e, hi⟩
theorem Mac.made {w : W} {L T A} : Mac (w ++ [CT' L T A]) w.length L T A := Mac.new (by rw [List.getElem?_append_right (by omega), Nat.sub_self]; rfl)
end M
namespace M
theorem wD.mono {α : Type} {o : Option α} {Q Q' : α -> Prop} (h : wD o Q) (k : ∀ a, Q a -> Q' a) : wD o Q' := by
  rw [au'] at *
  cases o with
  | none => exact h
  | some a => exact k a h
theorem Ad' {own : List Nat} {g : MG} {t : MT} {e : ME} {γ : Type} {f : γ -> D} {cs : List γ} {Q : List D -> PSt -> Prop} {X : Exc -> PSt -> Prop} {env : List (Option O)} {w : W} (p : γ -> Bool) (v : γ -> D) (hl : cs.length <= 16777216)
    (step : ∀ c ∈ cs, wD (g (f c) ⟨az' own env, w⟩) fun ρ1 => wE (t ρ1) (fun k ρ2 => k = p c /\ ρ2.w = w /\ az' own ρ2.env = az' own env /\ (p c = true -> wE (e ρ2) (fun y ρ3 => y = v c /\ ρ3.w = w /\ az' own ρ3.env = az' own env) PX)) PX)
    (hend : ∀ env2, az' own env2 = az' own env -> Q ((cs.filter p).map v) ⟨env2, w⟩) : wE (lcL own g t e (cs.map f) [] ⟨env, w⟩) Q X := by
  refine eO' hl (fun pre acc ρ => acc = (pre.filter p).map v /\ ρ.w = w /\ az' own ρ.env = az' own env) ⟨rfl, rfl, rfl⟩ ?_ ?_
  . rintro pre c post acc ρ ec ⟨rfl, hw, he⟩
    have s := step c (by rw [ec]; simp)
    rw [he, hw]
    refine s.mono fun ρ1 s => ?_
    refine s.mono ?_ (fun _ _ z => z)
    rintro k ρ2 ⟨rfl, h1, h2, h3⟩
    cases hp : p c with
    | false =>
      rw [y0']
      exact ⟨by simp [hp], h1, h2⟩
    | true =>
      rw [yu']
      refine (h3 hp).mono ?_ (fun _ _ z => z)
      rintro y ρ3 ⟨rfl, h4, h5⟩
      exact ⟨by simp [hp], h4, h5⟩
  . rintro acc ⟨env2, w2⟩ ⟨rfl, hw, he⟩
    simp only at hw he
    subst hw
    exact hend env2 he
theorem c4' {own : List Nat} {g : MG} {t : MT} {e : ME} {γ : Type} {f : γ -> D} {cs : List γ} {Q : List D -> PSt -> Prop} {X : Exc -> PSt -> Prop} {env : List (Option O)} {w : W} (v : γ -> D) (hl : cs.length <= 16777216)
    (step : ∀ c ∈ cs, wD (g (f c) ⟨az' own env, w⟩) fun ρ1 => wE (t ρ1) (fun k ρ2 => k = true /\ wE (e ρ2) (fun y ρ3 => y = v c /\ ρ3.w = w /\ az' own ρ3.env = az' own env) PX) PX)
    (hend : ∀ env2, az' own env2 = az' own env -> Q (cs.map v) ⟨env2, w⟩) : wE (lcL own g t e (cs.map f) [] ⟨env, w⟩) Q X := by
  refine eO' hl (fun pre acc ρ => acc = pre.map v /\ ρ.w = w /\ az' own ρ.env = az' own env) ⟨rfl, rfl, rfl⟩ ?_ ?_
  . rintro pre c post acc ρ ec ⟨rfl, hw, he⟩
    have s := step c (by rw [ec]; simp)
    rw [he, hw]
    refine s.mono fun ρ1 s => ?_
    refine s.mono ?_ (fun _ _ z => z)
    rintro k ρ2 ⟨rfl, h3⟩
    rw [yu']
    refine h3.mono ?_ (fun _ _ z => z)
    rintro y ρ3 ⟨rfl, h4, h5⟩
    exact ⟨by simp, h4, h5⟩
  . rintro acc ⟨env2, w2⟩ ⟨rfl, hw, he⟩
    simp only at hw he
    subst hw
    exact hend env2 he
theorem sl' {own : List Nat} {g : MG} {t : MT} {e : ME} {lo : Int} {n : Nat} {Q : List D -> PSt -> Prop} {X : Exc -> PSt -> Prop} {env : List (Option O)} {w : W} (v : Nat -> D) (hl : n <= 16777216)
    (step : ∀ c < n, wD (g (.int (lo + (c : Nat))) ⟨az' own env, w⟩) fun ρ1 => wE (t ρ1) (fun k ρ2 => k = true /\ wE (e ρ2) (fun y ρ3 => y = v c /\ ρ3.w = w /\ az' own ρ3.env = az' own env) PX) PX)
    (hend : ∀ env2, az' own env2 = az' own env -> Q ((List.range n).map v) ⟨env2, w⟩) : wE (lcL own g t e (rgI lo n) [] ⟨env, w⟩) Q X :=
  c4' (f := fun i : Nat => D.int (lo + (i : Nat))) v (by simpa using hl) (fun c hc => step c (List.mem_range.mp hc)) hend
end M
namespace M
def uw' : O -> D -> D -> Option (D × O)
  | .dct ks os, y, d => if isK y = true /\ ks.length < do' then (match dget ks os y with
    | some (.fz e) => some (e, .dct ks os)
    | some _ => none
    | none => some (d, .dct (ks ++ [y]) (os ++ [.fz d]))) else none
  | _, _, _ => none
def sw' : O -> Prop
  | .dct _ _ => True
  | _ => False
section
variable {ρ : PSt} {P : D -> PSt -> Prop} {R : O -> PSt -> Prop} {X : Exc -> PSt -> Prop} {Y : List D -> PSt -> Prop}
theorem wr' (neg : Bool) (i : Nat) (a : ME) : vE (tf' neg i a ρ) P X = vE (a ρ) (fun k ρ1 => vO ρ1.env[i]? fun o => vD (cF' o k) fun r => P (.bl (r.isSome != neg)) ρ1) X := by
  unfold tf'
  rw [ai']
  congr
  funext k ρ1
  rcases ρ1.env[i]? with _ | _ | o
  . rfl
  . rfl
  . show vE (ofO _ _) P X = vD _ _
    rw [be', cL']
theorem wq' (i : Nat) (b : ME) (env : List (Option O)) (w : W) : vE (pM' i b ⟨env, w⟩) P X = vO env[i]? fun _ => vE (b ⟨env, w⟩) (fun k ρ1 => vO ρ1.env[i]? fun o => vD (uR' (cF' o k)) fun z => P z ρ1) X := by
  show vE (match env[i]? with
  | some (some _) => (b ⟨env, w⟩).bind fun k ρ1 => match ρ1.env[i]? with
    | some (some o) => ofO (uR' (cF' o k)) ρ1
    | _ => .bad
  | _ => .bad) P X = _
  rcases env[i]? with _ | _ | o
  . rfl
  . rfl
  simp only [ai', vO]
  congr
  funext k ρ1
  rcases ρ1.env[i]? with _ | _ | o
  . rfl
  . rfl
  exact be' _
theorem qc' (i : Nat) (k a : ME) (env : List (Option O)) (w : W) : vE (jb' i k a ⟨env, w⟩) P X = vO env[i]? fun o0 => sw' o0 /\ vE (k ⟨env, w⟩) (fun y ρ1 => vE (a ρ1) (fun d ρ2 => vO ρ2.env[i]? fun o => vD (uw' o y d) fun p => P p.1 ⟨ρ2.env.set i (some p.2), ρ2.w⟩) X) X := by
  unfold jb'
  show vE (match env[i]? with
  | some (some (.dct _ _)) => _
  | _ => .bad) P X = _
  rcases env[i]? with _ | _ | o
  . rfl
  . rfl
  cases o with
  | dct ks0 os0 =>
    simp only [ai', vO, sw', true_and]
    congr
    funext y ρ1
    congr
    funext d ρ2
    rcases h : ρ2.env[i]? with _ | _ | o
    . rfl
    . rfl
    cases o with
    | dct ks os =>
      show vE (if isK y = true /\ ks.length < do' then _ else _) P X = vD (uw' (.dct ks os) y d) _
      show _ = vD (if isK y = true /\ ks.length < do' then (match dget ks os y with | some (.fz e) => some (e, O.dct ks os) | some _ => none | none => some (d, .dct (ks ++ [y]) (os ++ [.fz d]))) else none) _
      by_cases hc : isK y = true /\ ks.length < do'
      . rw [if_pos hc, if_pos hc]
        rcases dget ks os y with _ | o
        . rfl
        . cases o with
          | fz e =>
            show P e ρ2 = P e ⟨ρ2.env.set i _, ρ2.w⟩
            have hi : ρ2.env.set i (some (.dct ks os)) = ρ2.env := by
              obtain ⟨hl, e⟩ := List.getElem?_eq_some_iff.mp h
              rw [<- e, List.set_getElem_self]
            rw [hi]
          | _ => rfl
      . rw [if_neg hc, if_neg hc]; rfl
    | _ => rfl
  | _ => simp [vO, sw', vE]
theorem pZ'  : vE (r0' ρ) R X = R (.dcx [] []) ρ := rfl
theorem oY' (x : Bool) (k a : ME) : vE (h0' x k a ρ) R X = vE (k ρ) (fun y ρ1 => vE (a ρ1) (fun d ρ2 => vD (hS' x y d) fun o => R o ρ2) X) X := by simp only [h0', ai', be']
theorem p3' (f : D -> Option (List D)) (a : ME) : vE (sC' f a ρ) Y X = vE (a ρ) (fun x ρ1 => vD (f x) fun ds => Y ds ρ1) X := by simp only [sC', ai', be']
theorem wn' (own : List Nat) (it : MI) (g : MG) (t : MT) (ek ev : ME) : vE (oDc own it g t ek ev ρ) R X = vE (it ρ) (fun xs ρ1 => vE (dcL own g t ek ev xs [] [] ρ1) (fun p ρ2 => R (.dct p.1 (p.2.map .fz)) ⟨back ρ1.env own (az' own ρ2.env), ρ2.w⟩) X) X := by simp only [oDc, ai', gQ']
theorem wp' (ps : List (String × String)) (f : MF) (a b : ME) : vE (xM' ps f a b ρ) P X = vE (a ρ) (fun x ρ1 => vE (b ρ1) (fun y ρ2 => sz' ps ρ2.w x y = true /\ vF (f [x, y] ρ2.w) (fun o w => ∃ r, o = .fz (.bl r) /\ P (.bl r) ⟨ρ2.env, w⟩) (fun _ _ => False)) X) X := by
  simp only [xM', ai']
  congr
  funext x ρ1
  congr
  funext y ρ2
  by_cases h : sz' ps ρ2.w x y = true
  . rw [if_pos h]
    simp only [h, true_and]
    cases f [x, y] ρ2.w with
    | ok o w =>
      show vE (match O.fz (.bl true) with | _ => _) P X = _
      cases o with
      | fz d => cases d <;> simp [vE, vF]
      | _ => simp [vE, vF]
    | exc x w => rfl
    | bad => rfl
  . rw [if_neg h]
    simp [vE, h]
theorem wo' (t : ET) (c : String) (a : ME) : vE (AB' t c a ρ) P X = vE (a ρ) (fun x ρ1 => vD (isC t c ρ1.w x) fun b => P (.bl b) ρ1) X := by simp only [AB', ai', be', cL']
variable {N : PSt -> Prop} {rt : O -> W -> Prop} {bk ct : PSt -> Prop} {ex : Exc -> PSt -> Prop}
theorem wt' (i : Nat) (k a : ME) : vS (tO' i k a ρ) ⟨N, rt, bk, ct, ex⟩ = vE (a ρ) (fun d ρ1 => vO ρ1.env[i]? fun _ => vE (k ρ1) (fun y ρ2 => vO ρ2.env[i]? fun o => vD (eX' o y (.fz d)) fun o' => N ⟨ρ2.env.set i (some o'), ρ2.w⟩) ex) ex := by
  simp only [tO', bV']
  congr
  funext d ρ1
  rcases ρ1.env[i]? with _ | _ | o
  . rfl
  . rfl
  simp only [bV', vO]
  congr
  funext y ρ2
  rcases ρ2.env[i]? with _ | _ | o
  . rfl
  . rfl
  show vS (match eX' o y (.fz d) with | some o' => Out.nx _ | none => Out.bad) _ = vD (eX' o y (.fz d)) _
  cases eX' o y (.fz d) <;> rfl
theorem Ca' (neg : Bool) (i : Nat) (a : ME) : wE (tf' neg i a ρ) P X = wE (a ρ) (fun k ρ1 => wO ρ1.env[i]? fun o => wD (cF' o k) fun r => P (.bl (r.isSome != neg)) ρ1) X := by simp only [cB', eR', fc', au', gP', gS', gN', gO', e9', fa', fN', fO', cA', co', eS', da', cb']; exact wr' ..
theorem B9' (i : Nat) (b : ME) (env : List (Option O)) (w : W) : wE (pM' i b ⟨env, w⟩) P X = wO env[i]? fun _ => wE (b ⟨env, w⟩) (fun k ρ1 => wO ρ1.env[i]? fun o => wD (uR' (cF' o k)) fun z => P z ρ1) X := by simp only [cB', eR', fc', au', gP', gS', gN', gO', e9', fa', fN', fO', cA', co', eS', da', cb']; exact wq' ..
theorem we' (i : Nat) (k a : ME) (env : List (Option O)) (w : W) : wE (jb' i k a ⟨env, w⟩) P X = wO env[i]? fun o0 => sw' o0 /\ wE (k ⟨env, w⟩) (fun y ρ1 => wE (a ρ1) (fun d ρ2 => wO ρ2.env[i]? fun o => wD (uw' o y d) fun p => P p.1 ⟨ρ2.env.set i (some p.2), ρ2.w⟩) X) X := by simp only [cB', eR', fc', au', gP', gS', gN', gO', e9', fa', fN', fO', cA', co', eS', da', cb']; exact qc' ..
theorem wa'  : wE (r0' ρ) R X = R (.dcx [] []) ρ := by simp only [cB', eR', fc', au', gP', gS', gN', gO', e9', fa', fN', fO', cA', co', eS', da', cb']; exact pZ' ..
theorem tl' (x : Bool) (k a : ME) : wE (h0' x k a ρ) R X = wE (k ρ) (fun y ρ1 => wE (a ρ1) (fun d ρ2 => wD (hS' x y d) fun o => R o ρ2) X) X := by simp only [cB', eR', fc', au', gP', gS', gN', gO', e9', fa', fN', fO', cA', co', eS', da', cb']; exact oY' ..
theorem wd' (f : D -> Option (List D)) (a : ME) : wE (sC' f a ρ) Y X = wE (a ρ) (fun x ρ1 => wD (f x) fun ds => Y ds ρ1) X := by simp only [cB', eR', fc', au', gP', gS', gN', gO', e9', fa', fN', fO', cA', co', eS', da', cb']; exact p3' ..
theorem BY' (own : List Nat) (it : MI) (g : MG) (t : MT) (ek ev : ME) : wE (oDc own it g t ek ev ρ) R X = wE (it ρ) (fun xs ρ1 => wE (dcL own g t ek ev xs [] [] ρ1) (fun p ρ2 => R (.dct p.1 (p.2.map .fz)) ⟨back ρ1.env own (az' own ρ2.env), ρ2.w⟩) X) X := by simp only [cB', eR', fc', au', gP', gS', gN', gO', e9', fa', fN', fO', cA', co', eS', da', cb']; exact wn' ..
theorem B8' (ps : List (String × String)) (f : MF) (a b : ME) : wE (xM' ps f a b ρ) P X = wE (a ρ) (fun x ρ1 => wE (b ρ1) (fun y ρ2 => sz' ps ρ2.w x y = true /\ wF (f [x, y] ρ2.w) (fun o w => ∃ r, o = .fz (.bl r) /\ P (.bl r) ⟨ρ2.env, w⟩) (fun _ _ => False)) X) X := by simp only [cB', eR', fc', au', gP', gS', gN', gO', e9', fa', fN', fO', cA', co', eS', da', cb']; exact wp' ..
theorem B6' (t : ET) (c : String) (a : ME) : wE (AB' t c a ρ) P X = wE (a ρ) (fun x ρ1 => wD (isC t c ρ1.w x) fun b => P (.bl b) ρ1) X := by simp only [cB', eR', fc', au', gP', gS', gN', gO', e9', fa', fN', fO', cA', co', eS', da', cb']; exact wo' ..
theorem Cw' (i : Nat) (k a : ME) : wS (tO' i k a ρ) ⟨N, rt, bk, ct, ex⟩ = wE (a ρ) (fun d ρ1 => wO ρ1.env[i]? fun _ => wE (k ρ1) (fun y ρ2 => wO ρ2.env[i]? fun o => wD (eX' o y (.fz d)) fun o' => N ⟨ρ2.env.set i (some o'), ρ2.w⟩) ex) ex := by simp only [cB', eR', fc', au', gP', gS', gN', gO', e9', fa', fN', fO', cA', co', eS', da', cb']; exact wt' ..
theorem xS' (a : Tx) (b : List D) {Y : List D -> Prop} : wD (Ej' (.str a) (.lst b)) Y = Y (dN' (a.map chD) b) := by rw [au']; rfl
end
theorem dk' {γ δ α : Type} [DecidableEq γ] (e : γ -> D) (he : ∀ a b, eqb (e a) (e b) = decide (a = b)) (v : δ -> α) (k : γ) : ∀ l : List (γ × δ), dget (l.map fun p => e p.1) (l.map fun p => v p.2) (e k) = (l.lookup k).map v
  | [] => rfl
  | (a, b) :: l => by
    have ih := dk' e he v k l
    unfold dget gY' at *
    rw [List.map_cons, List.map_cons, List.findIdx?_cons, he, List.lookup_cons]
    by_cases h : a = k
    . subst h; simp
    . have h2 : (k == a) = false := by simp; exact fun e => h e.symm
      rw [decide_eq_false h, h2]
      simp only [Bool.false_eq_true, if_false]
      rw [<- ih]
      cases List.findIdx? (fun d => eqb d (e k)) (l.map fun p => e p.1) <;> simp
theorem fx' {γ δ : Type} [DecidableEq γ] (e : γ -> D) (he : ∀ a b, eqb (e a) (e b) = decide (a = b)) (k : γ) : ∀ l : List (γ × δ), l.lookup k = none -> gY' (l.map fun p => e p.1) (e k) = none
  | [], _ => rfl
  | (a, b) :: l, h => by
    rw [List.lookup_cons] at h
    by_cases hk : a = k
    . subst hk; simp at h
    . have h2 : (k == a) = false := by simp; exact fun e => hk e.symm
      rw [h2] at h
      have ih := fx' e he k l h
      unfold gY' at *
      rw [List.map_cons, List.findIdx?_cons, he, decide_eq_false hk]
      simp only [Bool.false_eq_true, if_false, ih, Option.map_none]
theorem gc' (a b : Nat) : eqb (.int (a : Nat)) (.int (b : Nat)) = decide (a = b) := by
  simp only [eqb]
  rw [Bool.eq_iff_iff]
  simp
  try omega
def dN (l : List (Nat × D)) : O := .dct (l.map fun p => .int (p.1 : Nat)) (l.map fun p => .fz p.2)
def dNz (l : List (Nat × D)) : D := .dct (l.map fun p => .int (p.1 : Nat)) (l.map fun p => p.2)
def dX {γ : Type} (e : γ -> D) (l : List (γ × D)) : O := .dcx (l.map fun p => e p.1) (l.map fun p => .fz p.2)
structure KeyE {γ : Type} [DecidableEq γ] (e : γ -> D) : Prop where
  eq : ∀ a b, eqb (e a) (e b) = decide (a = b)
  kat : ∀ a, kat (e a) = true
  dep : ∀ a, dep (e a) <= 8
  sca : ∀ a b, sca (e a) = sca (e b)
theorem hf' {γ : Type} [DecidableEq γ] {e : γ -> D} (he : KeyE e) (k : γ) (l : List (γ × D)) : oq' (l.map fun p => e p.1) (e k) = true := by
  unfold oq'
  rw [he.kat, decide_eq_true (he.dep k)]
  simp only [Bool.and_true, Bool.true_and, List.all_eq_true, List.mem_map]
  rintro _ ⟨p, _, rfl⟩
  simp [he.sca p.1 k]
theorem vS' (l : List (Nat × D)) : frz (dN l) = dNz l := by
  unfold dN dNz
  simp only [frz, ed', List.map_map]
  rfl
theorem Cf' (l : List (Nat × D)) (i : Nat) (env : List (Option O)) (w : W) {P : D -> PSt -> Prop} : wV (some (some (dN l))) i ⟨env, w⟩ P = P (dNz l) ⟨env.set i (some (.fz (dNz l))), w⟩ := by
  rw [e9']
  show vV (some (some (O.dct _ _))) _ _ _ = _
  rw [<- vS']; rfl
theorem Cj' (l : List (Nat × D)) (i : Nat) (env : List (Option O)) (w : W) {P : O -> PSt -> Prop} : wG (some (some (dN l))) i ⟨env, w⟩ P = P (dN l) ⟨env.set i none, w⟩ := by
  rw [fa']; rfl
theorem sb' (l : List (Nat × D)) (k : Nat) : cF' (dN l) (.int (k : Nat)) = some ((l.lookup k).map .fz) := by
  show (if isK (.int (k : Nat)) = true then some (dget _ _ _) else none) = _
  rw [if_pos (show isK (.int (k : Nat)) = true from rfl), dk' (fun n : Nat => D.int (n : Nat)) gc' O.fz k l]
theorem om' (l : List (Nat × D)) (k : Nat) : cF' (.fz (dNz l)) (.int (k : Nat)) = some ((l.lookup k).map .fz) := by
  show (if isK (.int (k : Nat)) = true then some (dget _ (List.map O.fz (l.map fun p => p.2)) _) else none) = _
  rw [if_pos (show isK (.int (k : Nat)) = true from rfl), List.map_map]
  exact congrArg some (dk' (fun n : Nat => D.int (n : Nat)) gc' O.fz k l)
theorem h5' {γ : Type} [DecidableEq γ] {e : γ -> D} (he : KeyE e) (l : List (γ × D)) (k : γ) : cF' (dX e l) (e k) = some ((l.lookup k).map .fz) := by
  show (if oq' (l.map fun p => e p.1) (e k) = true then some (dget _ _ _) else none) = _
  rw [if_pos (hf' he k l), dk' e he.eq O.fz k l]
section
variable {Q : Option O -> Prop} {P : D -> Prop} {N : O -> Prop} {Y : List D -> Prop}
theorem x1' (l : List (Nat × D)) (k : Nat) : wD (cF' (dN l) (.int (k : Nat))) Q = Q ((l.lookup k).map .fz) := by rw [sb', bj']
theorem uB' (l : List (Nat × D)) (k : Nat) : wD (cF' (.fz (dNz l)) (.int (k : Nat))) Q = Q ((l.lookup k).map .fz) := by rw [om', bj']
theorem oU' (o : Option D) : uR' (some (o.map .fz)) = o := by cases o <;> rfl
theorem yq' (d : D) : uR' (some (some (.fz d))) = some d := rfl
theorem Dt' (l : List (Nat × D)) (k : Nat) : wD (uR' (cF' (dN l) (.int (k : Nat)))) P = wD (l.lookup k) P := by rw [sb', oU']
theorem Bb' (l : List (Nat × D)) (k : Nat) : wD (uR' (cF' (.fz (dNz l)) (.int (k : Nat)))) P = wD (l.lookup k) P := by rw [om', oU']
theorem AW' {l : List (Nat × D)} {k : Nat} (h : l.lookup k = none) (hl : l.length < 16777216) (d : D) : wD (eX' (dN l) (.int (k : Nat)) (.fz d)) N = N (dN (l ++ [(k, d)])) := by
  show wD (if isK (.int (k : Nat)) = true then (l0' _ _ _ _).map (fun p => O.dct p.1 p.2) else none) N = _
  rw [if_pos (show isK (.int (k : Nat)) = true from rfl), mV']
  unfold l0'
  rw [fx' (fun n : Nat => D.int (n : Nat)) gc' k l h]
  simp only
  rw [if_pos (by rw [List.length_map]; exact hl), bj']
  unfold dN
  simp
theorem lZ' {γ : Type} [DecidableEq γ] {e : γ -> D} (he : KeyE e) {l : List (γ × D)} {k : γ} (h : l.lookup k = none) (hl : l.length < 16777216) (d : D) : eX' (dX e l) (e k) (.fz d) = some (dX e (l ++ [(k, d)])) := by
  show (if oq' (l.map fun p => e p.1) (e k) = true then (l0' _ _ _ _).map (fun p => O.dcx p.1 p.2) else none) = _
  rw [if_pos (hf' he k l)]
  unfold l0'
  rw [fx' e he.eq k l h]
  simp only
  rw [if_pos (by rw [List.length_map]; exact hl)]
  unfold dX
  simp
theorem A7' (l : List (Nat × D)) : wD (pf' (dN l)) P = P (.int l.length) := by
  show wD (some (D.int _)) P = _
  rw [bj', List.length_map]
theorem vZ' {γ : Type} (e : γ -> D) (l : List (γ × D)) : wD (pf' (dX e l)) P = P (.int l.length) := by
  show wD (some (D.int _)) P = _
  rw [bj', List.length_map]
theorem x9' (l : List (Nat × D)) : wD (c8' (dNz l)) P = P (.int l.length) := by
  show wD (some (D.int _)) P = _
  rw [bj', List.length_map]
theorem xY' {l : List (Nat × D)} {k : Nat} (hl : l.length < 16777216) (d : D) {Q : D × O -> Prop} : wD (uw' (dN l) (.int (k : Nat)) d) Q = match l.lookup k with
    | some e => Q (e, dN l)
    | none => Q (d, dN (l ++ [(k, d)])) := by
  show wD (if isK (.int (k : Nat)) = true /\ (l.map fun p => D.int (p.1 : Nat)).length < do' then (match dget (l.map fun p => D.int (p.1 : Nat)) (l.map fun p => O.fz p.2) (.int (k : Nat)) with
    | some (.fz e) => some (e, O.dct _ _)
    | some _ => none
    | none => some (d, .dct ((l.map fun p => D.int (p.1 : Nat)) ++ [.int (k : Nat)]) ((l.map fun p => O.fz p.2) ++ [.fz d]))) else none) Q = _
  rw [if_pos ⟨rfl, by rw [List.length_map]; exact hl⟩, dk' (fun n : Nat => D.int (n : Nat)) gc' O.fz k l]
  cases l.lookup k with
  | none =>
    simp only [Option.map_none, bj']
    unfold dN
    simp
  | some e => simp only [Option.map_some, bj']; rfl
theorem uo' (l : List (Nat × D)) : sw' (dN l) = True := rfl
theorem jX' {γ : Type} (f g : γ -> D) : ∀ l : List γ, dN' (l.map f) (l.map g) = l.map fun p => .tup [f p, g p]
  | [] => rfl
  | a :: l => by
    simp only [List.map_cons, dN', jX' f g l]
theorem ye' (l : List (Nat × D)) : wD (sQ' (dNz l)) Y = Y (l.map fun p => .tup [.int (p.1 : Nat), p.2]) := by
  show wD (some (dN' _ _)) Y = _
  rw [bj', jX']
theorem AL' (l : List (Nat × D)) : wD (DQ' (dNz l)) Y = Y (l.map fun p => p.2) := by
  show wD (some _) Y = _
  rw [bj']
theorem A9' (l : List (Nat × D)) : wD (DR' (dNz l)) Y = Y (l.map fun p => .int (p.1 : Nat)) := by
  show wD (some _) Y = _
  rw [bj']
theorem ja' {γ : Type} (f : γ -> Int) (l : List γ) : bU' (l.map fun p => .int (f p)) = some (l.map f) := by
  have := mf' (l.map f)
  rw [List.map_map] at this
  exact this
theorem A2' {γ : Type} (f : γ -> Nat) (g : γ -> Int) (l : List γ) (h : l ≠ []) : wD (pa' (dNz (l.map fun p => (f p, .int (g p))))) P = P (.int (ol' (l.map g))) := by
  show wD ((bU' ((l.map fun p => (f p, D.int (g p))).map fun p => p.2)).bind _) P = _
  rw [List.map_map, show ((fun p : Nat × D => p.2) ∘ fun p => (f p, D.int (g p))) = fun p => D.int (g p) from rfl, ja']
  show wD (if l.map g = [] then none else some _) P = _
  rw [if_neg (by simpa using h), bj']
theorem xX' (l : List (Nat × D)) (h : l.length <= 16777216) : wD (eA' (dNz l)) P = P (.lst ((o4' (l.map fun p => (p.1 : Int))).map .int)) := by
  show wD ((bU' (l.map fun p => D.int (p.1 : Nat))).bind _) P = _
  rw [ja' (fun p : Nat × D => (p.1 : Int))]
  show wD (if (l.map fun p => (p.1 : Int)).length <= do' then some _ else none) P = _
  rw [if_pos (by rw [List.length_map]; exact h), bj']
theorem uJ' (k : Int) (d : D) : wD (hS' false (.int k) d) N = N (.dct [.int k] [.fz d]) := by
  show wD (some (O.dct [.int k] [.fz d])) N = _
  rw [bj']
theorem oN' (d : D) : wD (w7' d) P = wC (zA' d = true /\ dep d <= 40 /\ vw' d = true /\ tc' d <= 200000) (P (.rep d)) := eI'
theorem Dj' (i j : Bool) : wD (pNe (.bl i) (.bl j)) P = P (.bl (!(i == j))) := by
  rw [show pNe (.bl i) (.bl j) = some (.bl (!(i == j))) from rfl, bj']
theorem DG' (a b : D) : wD (BL' (.rep a) (.rep b)) P = wC (same a b = true) (P (.bl true)) := eI'
theorem Dh' (a b : D) : wD (BK' (.rep a) (.rep b)) P = wC (same a b = true) (P (.bl false)) := eI'
end
theorem cS' {γ : Type} (f : Nat -> γ) (k : Nat) : ∀ l : List Nat, (l.map fun s => (s, f s)).lookup k = if k ∈ l then some (f k) else none
  | [] => rfl
  | a :: l => by
    rw [List.map_cons, List.lookup_cons, cS' f k l]
    by_cases h : k = a
    . subst h; simp
    . have : (k == a) = false := by simpa using h
      simp [this, h]
theorem c1' {γ δ : Type} [DecidableEq γ] (k : γ) : ∀ l : List (γ × δ), k ∉ l.map (·.1) -> l.lookup k = none
  | [], _ => rfl
  | (a, b) :: l, h => by
    simp only [List.map_cons, List.mem_cons, not_or] at h
    rw [List.lookup_cons, c1' k l h.2]
    have : (k == a) = false := by simpa using h.1
    rw [this]
mutual
theorem hK' : ∀ (d : D), dat d = true -> same d d = true
  | .non, _ => rfl
  | .bl b, _ => by simp [same]
  | .int i, _ => by simp [same]
  | .str s, _ => by simp [same]
  | .tup ds, h => by simp only [same]; exact sames_refl ds (by simpa [dat] using h)
  | .lst ds, h => by simp only [same]; exact sames_refl ds (by simpa [dat] using h)
theorem sames_refl : ∀ (ds : List D), dats ds = true -> sames ds ds = true
  | [], _ => rfl
  | d :: r, h => by
    simp only [dats, Bool.and_eq_true] at h
    simp only [sames, hK' d h.1, sames_refl r h.2, Bool.and_self]
end
theorem AF' {own : List Nat} {g : MG} {t : MT} {ek ev : ME} {γ : Type} {f : γ -> D} {cs : List γ} {Q : List D × List D -> PSt -> Prop} {X : Exc -> PSt -> Prop} {env : List (Option O)} {w : W} (kf : γ -> Nat) (v : γ -> D) (hl : cs.length <= 16777216) (hn : (cs.map kf).Nodup)
    (step : ∀ c ∈ cs, wD (g (f c) ⟨az' own env, w⟩) fun ρ1 => wE (t ρ1) (fun k ρ2 => k = true /\ wE (ek ρ2) (fun y ρ3 => y = .int (kf c : Nat) /\ wE (ev ρ3) (fun z ρ4 => z = v c /\ ρ4.w = w /\ az' own ρ4.env = az' own env) PX) PX) PX)
    (hend : ∀ env2, az' own env2 = az' own env -> Q (cs.map (fun c => .int (kf c : Nat)), cs.map v) ⟨env2, w⟩) : wE (dcL own g t ek ev (cs.map f) [] [] ⟨env, w⟩) Q X := by
  have go : ∀ (post pre : List γ) (env1 : List (Option O)), cs = pre ++ post -> az' own env1 = az' own env →
      vE (dcL own g t ek ev (post.map f) (pre.map fun c => .int (kf c : Nat)) (pre.map v) ⟨env1, w⟩) Q X := by
    intro post
    induction post with
    | nil =>
      intro pre env1 e he
      rw [List.append_nil] at e
      subst e
      exact hend env1 he
    | cons c post ih =>
      intro pre env1 e he
      have s := step c (by rw [e]; simp)
      rw [au'] at s
      show vE (match g (f c) ⟨az' own env1, w⟩ with | none => Res.bad | some ρ1 => _) Q X
      rw [he]
      cases hg : g (f c) ⟨az' own env, w⟩ with
      | none => rw [hg] at s; exact s
      | some ρ1 =>
        rw [hg] at s
        have s : wE (t ρ1) _ PX := s
        rw [cB'] at s
        dsimp only
        cases ht : t ρ1 with
        | bad => rw [ht] at s; exact s
        | exc x q => rw [ht] at s; exact s.elim
        | ok k ρ2 =>
          rw [ht] at s
          obtain ⟨ek1, s2⟩ := (show k = true /\ wE (ek ρ2) _ PX from s)
          subst ek1
          rw [cB'] at s2
          show vE ((noX (ek ρ2)).bind _) Q X
          cases hk : ek ρ2 with
          | bad => rw [hk] at s2; exact s2
          | exc x q => rw [hk] at s2; exact s2.elim
          | ok y ρ3 =>
            rw [hk] at s2
            obtain ⟨ey, s3⟩ := (show y = .int (kf c : Nat) /\ wE (ev ρ3) _ PX from s2)
            subst ey
            rw [cB'] at s3
            show vE ((noX (ev ρ3)).bind _) Q X
            cases hv : ev ρ3 with
            | bad => rw [hv] at s3; exact s3
            | exc x q => rw [hv] at s3; exact s3.elim
            | ok z ρ4 =>
              rw [hv] at s3
              obtain ⟨ez, hw, he2⟩ := (show z = v c /\ ρ4.w = w /\ az' own ρ4.env = az' own env from s3)
              subst ez
              obtain ⟨env4, w4⟩ := ρ4
              simp only at hw he2
              subst hw
              show vE (if isK (.int (kf c : Nat)) = true /\ (pre.map fun c => D.int (kf c : Nat)).length < do' then _ else _) Q X
              have hlen : pre.length < do' := by
                have : cs.length = pre.length + (post.length + 1) := by rw [e]; simp
                unfold do'; omega
              rw [if_pos ⟨rfl, by rw [List.length_map]; exact hlen⟩]
              have hnone : gY' (pre.map fun c => D.int (kf c : Nat)) (.int (kf c : Nat)) = none := by
                have h1 : ((pre.map fun c => (kf c, ())).map fun p => D.int (p.1 : Nat)) = pre.map fun c => D.int (kf c : Nat) := by rw [List.map_map]; rfl
                rw [<- h1]
                refine fx' (fun n : Nat => D.int (n : Nat)) gc' (kf c) _ (c1' _ _ ?_)
                rw [List.map_map]
                intro hm
                rw [e, List.map_append, List.map_cons] at hn
                have := (List.nodup_append.mp hn).2.2 (kf c) (by simpa using hm) (kf c) (by simp)
                exact this rfl
              unfold l0'
              rw [hnone]
              simp only
              rw [if_pos (by rw [List.length_map]; exact hlen)]
              have r := ih (pre ++ [c]) env4 (by rw [e]; simp) he2
              simpa using r
  rw [cB']
  exact go cs [] env rfl rfl
theorem pp' {γ : Type} (kf : γ -> Nat) (v : γ -> D) (cs : List γ) : D.dct (cs.map fun c => .int (kf c : Nat)) (cs.map v) = dNz (cs.map fun c => (kf c, v c)) := by
  unfold dNz
  simp only [List.map_map]
  rfl
section
variable {Q : D -> Prop} {Y : List D -> Prop}
theorem uz' (r : List Nat) : wD (eU' (dp' r)) Y = Y (r.map fun t => .int (t : Nat)) := by unfold dp'; rw [oM']
theorem uA' (r : List Nat) : wD (eU' (cK' r)) Y = Y (r.map fun t => .int (t : Nat)) := by unfold cK'; rw [oM']
theorem uy' (T : List (List Nat)) : wD (eU' (cC' T)) Y = Y (T.map dp') := by unfold cC'; rw [oM']
end
theorem xB' : e4' .non = true := rfl
theorem xA' (n : Nat) : e4' (.obj n) = false := rfl
theorem xD' (n : Int) : e4' (.int n) = false := rfl
theorem xz' (n : Tx) : e4' (.str n) = false := rfl
theorem Ak' (n : Bool) : e4' (.bl n) = false := rfl
theorem xy' (n : List D) : e4' (.tup n) = false := rfl
theorem xC' (n : List D) : e4' (.lst n) = false := rfl
section
variable {Q : D -> Prop}
theorem x3' (s : Tx) : wD (kD' (.str s)) Q = Q (.lst (s.map chD)) := by
  show wD (some _) Q = _
  rw [bj']
end
theorem AZ' (F : List Nat) (t : Nat) {P : D -> Prop} : wD (z2' (inO (.int (t : Nat)) (.lst (F.map fun s => .fz (.int (s : Nat)))))) P = P (.bl (!decide (t ∈ F))) := by
  have e1 : (F.map fun s => O.fz (.int (s : Nat))).all (fun o => match o with | .fz _ => true | _ => false) = true := by induction F <;> simp_all
  have e2 : (F.map fun s => O.fz (.int (s : Nat))).map frz = F.map fun s => .int (s : Nat) := by rw [List.map_map]; rfl
  have h := v1' (Q := fun d => wD (z2' (some d)) P) (t : Int) (F.map (Nat.cast : Nat -> Int))
  rw [List.map_map] at h
  show wD (z2' (if (F.map fun s => O.fz (.int (s : Nat))).all (fun o => match o with | .fz _ => true | _ => false) = true then pIn (.int (t : Nat)) (.lst ((F.map fun s => O.fz (.int (s : Nat))).map frz)) else none)) P = _
  rw [if_pos e1, e2]
  have e3 : ∀ o : Option D, wD (z2' o) P = wD o (fun d => wD (z2' (some d)) P) := fun o => by cases o with
    | none => rw [au', au']; rfl
    | some d => rw [bj']
  rw [e3]
  refine h.trans ?_
  show wD (some (D.bl (!decide _))) P = _
  rw [bj']
  congr 3
  rw [decide_eq_decide]
  constructor
  . intro hm
    obtain ⟨a, h1, h2⟩ := List.mem_map.mp hm
    have h2 : (a : Int) = (t : Int) := h2
    have : a = t := by omega
    exact this ▸ h1
  . exact fun hm => List.mem_map.mpr ⟨t, hm, rfl⟩
def sr' (o : Option (Option O)) : Option O := match o with
  | some (some (.fz d)) => some (.fz d)
  | _ => none
theorem uQ' (env env' : List (Option O)) : back env [] env' = env' := rfl
theorem s0' (env env' : List (Option O)) (i : Nat) (is : List Nat) : back env (i :: is) env' = (back env is env').set i (sr' env[i]?) := by
  show (back env is env').set i _ = _
  congr 1
theorem pi' : sr' (some none) = none := rfl
theorem uk' (d : D) : sr' (some (some (.fz d))) = some (.fz d) := rfl
theorem sq' (os : List O) : sr' (some (some (.lst os))) = none := rfl
section
variable {Q : D -> Prop}
theorem xU' (a : Tx) (c : Nat) : wD (kT' a [.str [c]]) Q = wC (c < 128 /\ a.length + 2 <= 16777216) (Q (.lst ((fK' c a).map .str))) := eI'
theorem C4' (i : Int) : wD (yz' (.int i)) Q = wC (0 <= i /\ i < 1000000000000000000000000000000000000000000000000000000000000) (Q (.str (c9' i.toNat))) := eI'
theorem mz' (a : Tx) (l : List Tx) : wD (f8' a [.lst (l.map .str)]) Q = wC ((l.map List.length).sum + l.length * a.length <= 16777216) (Q (.str (cg' a l))) := by
  show wD ((d2' (l.map .str)).bind _) Q = _
  rw [nU']
  exact eI'
end
end M
namespace M
theorem DL' (c : Nat) (s : Tx) {P : D -> Prop} : wD (ED' c (.str s)) P = wC (s.length <= 1000000) (P (.str (s.filter fun d => decide (d ≠ c)))) := eI'
end M
namespace M
theorem p0' (a b : ME) {ρ : PSt} {Y : List D -> PSt -> Prop} {X : Exc -> PSt -> Prop} : vE (sB' a b ρ) Y X = vE (a ρ) (fun d ρ1 => vE (b ρ1) (fun e ρ2 => vD (BC' d e) fun z => Y z ρ2) X) X := by simp only [sB', ai', be']
theorem wc' (a b : ME) {ρ : PSt} {Y : List D -> PSt -> Prop} {X : Exc -> PSt -> Prop} : wE (sB' a b ρ) Y X = wE (a ρ) (fun d ρ1 => wE (b ρ1) (fun e ρ2 => wD (BC' d e) fun z => Y z ρ2) X) X := by simp only [cB', au']; exact p0' ..
theorem AI' (a b : List D) {Y : List D -> Prop} : wD (BC' (.tup a) (.tup b)) Y = Y (dN' a b) := by rw [au']; rfl
theorem DE' (os : List O) (ds : List D) {N : O -> Prop} : wD (BQ' (.lst os) (.lst ds)) N = wC (os.length + ds.length <= 16777216) (N (.lst (os ++ ds.map .fz))) := eI'
theorem ws' (i : Nat) (a : ME) {ρ : PSt} {N : PSt -> Prop} {rt : O -> W -> Prop} {bk ct : PSt -> Prop} {ex : Exc -> PSt -> Prop} : vS (yv' i a ρ) ⟨N, rt, bk, ct, ex⟩ = vL ρ.env[i]? fun _ => vE (a ρ) (fun d ρ1 => vL ρ1.env[i]? fun os => vD (BQ' (.lst os) d) fun o => N ⟨ρ1.env.set i (some o), ρ1.w⟩) ex := by
  unfold yv'
  rcases ρ.env[i]? with _ | _ | o
  . rfl
  . rfl
  cases o with
  | lst os0 =>
    simp only [bV', vL]
    congr
    funext d ρ1
    rcases ρ1.env[i]? with _ | _ | o2
    . rfl
    . rfl
    cases o2 with
    | lst os =>
      cases d with
      | lst ds =>
        simp only [BQ']
        by_cases h : os.length + ds.length <= do'
        . rw [if_pos h, if_pos h]; rfl
        . rw [if_neg h, if_neg h]; rfl
      | _ => rfl
    | _ => rfl
  | _ => rfl
theorem Cv' (i : Nat) (a : ME) {ρ : PSt} {N : PSt -> Prop} {rt : O -> W -> Prop} {bk ct : PSt -> Prop} {ex : Exc -> PSt -> Prop} : wS (yv' i a ρ) ⟨N, rt, bk, ct, ex⟩ = wL ρ.env[i]? fun _ => wE (a ρ) (fun d ρ1 => wL ρ1.env[i]? fun os => wD (BQ' (.lst os) d) fun o => N ⟨ρ1.env.set i (some o), ρ1.w⟩) ex := by simp only [cB', eR', au', fO']; exact ws' ..
def pl' : O -> Prop
  | .dcx _ _ => True
  | _ => False
theorem ov' {γ : Type} (e : γ -> D) (l : List (γ × D)) : pl' (dX e l) := True.intro
theorem oZ' (i : Nat) (k a : ME) (env : List (Option O)) (w : W) {P : D -> PSt -> Prop} {X : Exc -> PSt -> Prop} : vE (gd' i k a ⟨env, w⟩) P X = vO env[i]? fun o0 => pl' o0 /\ vE (k ⟨env, w⟩) (fun y ρ1 => vE (a ρ1) (fun d ρ2 => vO ρ2.env[i]? fun o => vD (hE' o y d) fun p => P p.1 ⟨ρ2.env.set i (some p.2), ρ2.w⟩) X) X := by
  unfold gd'
  show vE (match env[i]? with
  | some (some (.dcx _ _)) => _
  | _ => .bad) P X = _
  rcases env[i]? with _ | _ | o
  . rfl
  . rfl
  cases o with
  | dcx ks0 os0 =>
    simp only [ai', vO, pl', true_and]
    congr
    funext y ρ1
    congr
    funext d ρ2
    rcases ρ2.env[i]? with _ | _ | o2
    . rfl
    . rfl
    simp only [vO]
    cases hE' o2 y d <;> rfl
  | _ => simp [vO, pl', vE]
theorem tm' (i : Nat) (k a : ME) (env : List (Option O)) (w : W) {P : D -> PSt -> Prop} {X : Exc -> PSt -> Prop} : wE (gd' i k a ⟨env, w⟩) P X = wO env[i]? fun o0 => pl' o0 /\ wE (k ⟨env, w⟩) (fun y ρ1 => wE (a ρ1) (fun d ρ2 => wO ρ2.env[i]? fun o => wD (hE' o y d) fun p => P p.1 ⟨ρ2.env.set i (some p.2), ρ2.w⟩) X) X := by simp only [cB', fN', au']; exact oZ' ..
theorem tG' {γ : Type} [DecidableEq γ] {e : γ -> D} (he : KeyE e) {l : List (γ × D)} {k : γ} {v : D} (hs : sca (e k) = false) (hl : l.length < 16777216) (h : l.lookup k = some v) (d : D) : hE' (dX e l) (e k) d = some (v, dX e l) := by
  show (if oq' (l.map fun p => e p.1) (e k) = true /\ sca (e k) = false /\ (l.map fun p => e p.1).length < do' then (match dget (l.map fun p => e p.1) (l.map fun p => O.fz p.2) (e k) with | some (O.fz e') => some (e', O.dcx (l.map fun p => e p.1) (l.map fun p => O.fz p.2)) | some _ => none | none => some (d, O.dcx ((l.map fun p => e p.1) ++ [e k]) ((l.map fun p => O.fz p.2) ++ [.fz d]))) else none) = _
  rw [if_pos ⟨hf' he k l, hs, by rw [List.length_map]; exact hl⟩, dk' e he.eq O.fz k l, h]
  rfl
theorem rp' {γ : Type} [DecidableEq γ] {e : γ -> D} (he : KeyE e) {l : List (γ × D)} {k : γ} (hs : sca (e k) = false) (hl : l.length < 16777216) (h : l.lookup k = none) (d : D) : hE' (dX e l) (e k) d = some (d, dX e (l ++ [(k, d)])) := by
  show (if oq' (l.map fun p => e p.1) (e k) = true /\ sca (e k) = false /\ (l.map fun p => e p.1).length < do' then (match dget (l.map fun p => e p.1) (l.map fun p => O.fz p.2) (e k) with | some (O.fz e') => some (e', O.dcx (l.map fun p => e p.1) (l.map fun p => O.fz p.2)) | some _ => none | none => some (d, O.dcx ((l.map fun p => e p.1) ++ [e k]) ((l.map fun p => O.fz p.2) ++ [.fz d]))) else none) = _
  rw [if_pos ⟨hf' he k l, hs, by rw [List.length_map]; exact hl⟩, dk' e he.eq O.fz k l, h]
  simp [dX]
theorem tp' (ps : List (String × String)) (f : MF) (a b : ME) : vE (pn' ps f a b ρ) P X = vE (a ρ) (fun x ρ1 => vE (b ρ1) (fun y ρ2 => sz' ps ρ2.w x y = true /\ vF (f [y, x] ρ2.w) (fun o w => ∃ r, o = .fz (.bl r) /\ P (.bl r) ⟨ρ2.env, w⟩) (fun _ _ => False)) X) X := by
  simp only [pn', ai']
  congr
  funext x ρ1
  congr
  funext y ρ2
  by_cases h : sz' ps ρ2.w x y = true
  . rw [if_pos h]
    simp only [h, true_and]
    cases f [y, x] ρ2.w with
    | ok o w =>
      show vE (match O.fz (.bl true) with | _ => _) P X = _
      cases o with
      | fz d => cases d <;> simp [vE, vF]
      | _ => simp [vE, vF]
    | exc x w => rfl
    | bad => rfl
  . rw [if_neg h]
    simp [vE, h]
theorem yO' (ps : List (String × String)) (f : MF) (a b : ME) : wE (pn' ps f a b ρ) P X = wE (a ρ) (fun x ρ1 => wE (b ρ1) (fun y ρ2 => sz' ps ρ2.w x y = true /\ wF (f [y, x] ρ2.w) (fun o w => ∃ r, o = .fz (.bl r) /\ P (.bl r) ⟨ρ2.env, w⟩) (fun _ _ => False)) X) X := by simp only [cB', eR', fc', au', gP', gS', gN', gO', e9', fa', fN', fO', cA', co', eS', da', cb']; exact tp' ..
theorem C0' (os : List O) {N : List O -> Prop} : wD (unO (.tup os)) N = N os := by rw [au']; rfl
theorem C1' (ds : List D) {N : List O -> Prop} : wD (unO (.fz (.tup ds))) N = N (ds.map .fz) := by rw [au']; rfl
theorem yh' {ρ : PSt} {N : PSt -> Prop} : wD (yB' [] [] ρ) N = N ρ := by rw [au']; rfl
theorem yg' (i : Nat) (is : List Nat) (o : O) (os : List O) {env : List (Option O)} {w : W} {N : PSt -> Prop} : wD (yB' (i :: is) (o :: os) ⟨env, w⟩) N = uX' i env.length (wD (yB' is os ⟨env.set i (some o), w⟩) N) := by
  rw [au', au', co']
  by_cases h : i < env.length
  . simp [yB', o0', h]
  . simp [yB', o0', vD, h]
theorem uP' (m : List Bool) : tg' m [] = [] := by cases m <;> rfl
theorem Bs' (x : Option O) (r : List (Option O)) : tg' [] (x :: r) = none :: tg' [] r := rfl
theorem Bu' (m : List Bool) (x : Option O) (r : List (Option O)) : tg' (false :: m) (x :: r) = none :: tg' m r := rfl
theorem Bt' (m : List Bool) (o : O) (r : List (Option O)) : tg' (true :: m) (some o :: r) = some (.fz (frz o)) :: tg' m r := rfl
theorem xf' (r : List (Option O)) : okM [] r = true := by cases r <;> rfl
theorem CM' (m : List Bool) (x : Option O) (r : List (Option O)) : okM (false :: m) (x :: r) = okM m r := rfl
theorem CL' (m : List Bool) (o : O) (r : List (Option O)) : okM (true :: m) (some o :: r) = (okO o && okM m r) := rfl
theorem zX' (d : D) : okO (.fz d) = dat d := rfl
theorem xe' (os : List O) : okO (.lst os) = okOs os := rfl
theorem rZ' : ∀ ds : List D, okOs (ds.map .fz) = dats ds
  | [] => rfl
  | d :: r => by show (dat d && okOs (r.map .fz)) = (dat d && dats r); rw [rZ' r]
theorem At' (d : D) : frz (.fz d) = d := rfl
theorem wN' (b : Bool) : BG' (.bl b) = true := rfl
theorem tM' (b : Int) : BG' (.int b) = true := rfl
theorem tK' (b : Tx) : BG' (.str b) = true := rfl
theorem tL' : BG' .non = true := rfl
end M
namespace M
theorem kn' : ∀ l : List Tx, d2' (l.map D.str) = some l
  | [] => rfl
  | a :: l => by show (d2' (l.map D.str)).map (a :: ·) = _; rw [kn' l]; rfl
theorem xV' (l : List Tx) {P : D -> Prop} : wD (tZ' (.lst (l.map .str))) P = wC (l.length < 64) (P (.lst ((zi' l).map .str))) := by
  show wD ((d2' (l.map D.str)).bind _) P = _
  rw [kn', Option.bind_some]
  exact eI'
theorem AN' (s : Tx) {P : D -> Prop} : wD (ck' (.str s)) P = P (.tup (s.map chD)) := by
  show wD (some _) P = _
  rw [bj']
theorem Ci' {α : Type} (e : α -> D) (l : List (α × D)) (i : Nat) (env : List (Option O)) (w : W) {P : O -> PSt -> Prop} : wG (some (some (dX e l))) i ⟨env, w⟩ P = P (dX e l) ⟨env.set i none, w⟩ := by
  simp only [fa']; rfl
end M
namespace M
def dXz {γ : Type} (e : γ -> D) (l : List (γ × D)) : D := .dcx (l.map fun p => e p.1) (l.map fun p => p.2)
theorem Au' {γ : Type} (e : γ -> D) (l : List (γ × D)) : frz (dX e l) = dXz e l := by
  unfold dX dXz
  simp only [frz, ed', List.map_map]
  rfl
theorem Ce' {γ : Type} (e : γ -> D) (l : List (γ × D)) (i : Nat) (env : List (Option O)) (w : W) {P : D -> PSt -> Prop} : wV (some (some (dX e l))) i ⟨env, w⟩ P = P (dXz e l) ⟨env.set i (some (.fz (dXz e l))), w⟩ := by
  rw [e9']
  show vV (some (some (O.dcx _ _))) _ _ _ = _
  rw [<- Au']; rfl
theorem x6' {γ : Type} (e : γ -> D) (l : List (γ × D)) {P : D -> Prop} : wD (pf' (.fz (dXz e l))) P = P (.int l.length) := by
  show wD (some (D.int _)) P = _
  rw [bj', List.length_map]
end M
namespace M
end M
namespace M
theorem i2' : ∀ (es : List (Nat × Tx)), hP' (es.map fun p => .int (p.1 : Nat)) (es.map fun p => .fz (.str p.2)) = some es
  | [] => rfl
  | p :: es => by
    show (if (0 : Int) <= (p.1 : Nat) then (hP' (es.map fun p => .int (p.1 : Nat)) (es.map fun p => .fz (.str p.2))).map ((((p.1 : Nat) : Int).toNat, p.2) :: ·) else none) = _
    rw [if_pos (Int.natCast_nonneg _), i2' es]
    rfl
theorem ux' (es : List (Nat × Tx)) {P : D -> Prop} : wD (vp' (.dct (es.map fun p => .int (p.1 : Nat)) (es.map fun p => .fz (.str p.2)))) P = P (.lst ((es.mergeSort CF').map fun p => .tup [.int (p.1 : Nat), .str p.2])) := by
  have e : vp' (.dct (es.map fun p => .int (p.1 : Nat)) (es.map fun p => .fz (.str p.2))) = some (.lst ((es.mergeSort CF').map fun p => .tup [.int (p.1 : Nat), .str p.2])) := by
    show (hP' _ _).map _ = _
    rw [i2']
    rfl
  rw [e, au']
  rfl
end M
namespace M
theorem xg' (kl kd : Bool) (r : List (Option O)) : okL kl kd [] r = true := by cases r <;> rfl
theorem CO' (kl kd : Bool) (m : List Bool) (x : Option O) (r : List (Option O)) : okL kl kd (false :: m) (x :: r) = okL kl kd m r := rfl
theorem CN' (kl kd : Bool) (m : List Bool) (o : O) (r : List (Option O)) : okL kl kd (true :: m) (some o :: r) = (lendO kl kd o && okL kl kd m r) := rfl
theorem uL' (r : List (Option O)) : yk' [] r = 0 := by cases r <;> rfl
theorem Bn' (m : List Bool) (x : Option O) (r : List (Option O)) : yk' (false :: m) (x :: r) = yk' m r := rfl
theorem Bm' (m : List Bool) (o : O) (r : List (Option O)) : yk' (true :: m) (some o :: r) = BN' o + yk' m r := rfl
theorem uh' (kl kd : Bool) (d : D) : lendO kl kd (.fz d) = true := rfl
theorem w8' (d : D) : BN' (.fz d) = 0 := rfl
theorem sh' (kd : Bool) (ds : List D) : lendO true kd (.lst (ds.map .fz)) = true := by
  show (true && (ds.map O.fz).all xE') = true
  simp [xE']
theorem uc' (kl kd : Bool) (n : Nat) : Eb' kl kd (.fz (.obj n)) = true := rfl
def CH' : D -> Option (D × D)
  | .tup [x, y] => some (x, y)
  | _ => none
theorem AX' (x y : D) {P : D × D -> Prop} : wD (CH' (.tup [x, y])) P = P (x, y) := by rw [au']; rfl
theorem Db' (i j : Int) {Q : D -> Prop} : wD (EC' (.int i) (.int j)) Q = wC (0 <= j /\ j <= 1000 /\ -18446744073709551616 < i /\ i < 18446744073709551616) (Q (.int (i * 2 ^ j.toNat))) := by
  rw [au', eS']
  show vD (if 0 <= j /\ j <= 1000 /\ small64 i = true then _ else _) Q = _
  rw [a6']
  congr 1
  simp [small64]
theorem Da' (i j : Int) {Q : D -> Prop} : wD (EB' (.int i) (.int j)) Q = wC (0 <= j) (Q (.int (i / 2 ^ j.toNat))) := by
  rw [au', eS']
  exact a6'
theorem ER' (is : List Nat) (ds : List D) (ρ : PSt) {N : PSt -> Prop} : wD (gL is (.lst ds) ρ) N = wD (gNs is ds ρ) N := rfl
theorem DC' (gs : List MG) (ds : List D) (ρ : PSt) {N : PSt -> Prop} : wD (gTg gs (.tup ds) ρ) N = wD (gSq gs ds ρ) N := rfl
theorem Bd' (ρ : PSt) {N : PSt -> Prop} : wD (gSq [] [] ρ) N = N ρ := by rw [au']; rfl
theorem DD' (g : MG) (gs : List MG) (d : D) (ds : List D) (ρ : PSt) {N : PSt -> Prop} : wD (gSq (g :: gs) (d :: ds) ρ) N = wD (g d ρ) (fun ρ1 => wD (gSq gs ds ρ1) N) := by
  simp only [au']
  show vD ((g d ρ).bind (gSq gs ds)) N = _
  cases g d ρ <;> rfl
end M
namespace M
section
variable {α : Type} {env : List (Option O)} {w : W} {ρ : PSt} {X : Exc -> PSt -> Prop}
end
end M
namespace M
section
variable {α β : Type} [DecidableEq α] [DecidableEq β]
def ins (F : List α) (x : α) : List α := if x ∈ F then F else F ++ [x]
def cu' (F xs : List α) : List α := xs.foldl ins F
def aK' (xs : List α) : List α := cu' [] xs
theorem c5' {F : List α} {x : α} (h : x ∈ F) : ins F x = F := if_pos h
theorem ch' {F : List α} {x : α} (h : x ∉ F) : ins F x = F ++ [x] := if_neg h
theorem r4' {F : List α} {x y : α} : y ∈ ins F x ↔ y ∈ F \/ y = x := by
  unfold ins
  split
  . rename_i h
    exact ⟨.inl, fun q => q.elim id fun e => e ▸ h⟩
  . simp
theorem cy' {F : List α} {x : α} {xs : List α} : cu' F (x :: xs) = cu' (ins F x) xs := rfl
theorem c6' {F xs ys : List α} : cu' F (xs ++ ys) = cu' (cu' F xs) ys := List.foldl_append ..
theorem fz' {F xs : List α} {x : α} : cu' F (xs ++ [x]) = ins (cu' F xs) x := by rw [c6']; rfl
theorem cf' {y : α} : ∀ {xs F : List α}, y ∈ cu' F xs ↔ y ∈ F \/ y ∈ xs
  | [], F => by simp [cu']
  | x :: xs, F => by
    rw [cy', cf', r4', List.mem_cons]
    constructor
    . rintro ((h | h) | h)
      . exact .inl h
      . exact .inr (.inl h)
      . exact .inr (.inr h)
    . rintro (h | h | h)
      . exact .inl (.inl h)
      . exact .inl (.inr h)
      . exact .inr h
theorem a7' {xs : List α} {y : α} : y ∈ aK' xs ↔ y ∈ xs := by rw [aK', cf']; simp
theorem wY' {F : List α} {x : α} : F <+: ins F x := by
  unfold ins
  split
  . exact List.prefix_refl _
  . exact List.prefix_append ..
theorem dJ' : ∀ {xs F : List α}, F <+: cu' F xs
  | [], F => List.prefix_refl _
  | x :: xs, F => wY'.trans dJ'
theorem z3' {F : List α} {x : α} (h : F.Nodup) : (ins F x).Nodup := by
  unfold ins
  split
  . exact h
  . rename_i q
    rw [List.nodup_append]
    exact ⟨h, by simp, fun a ha b hb e => q (by rw [List.mem_singleton] at hb; rw [<- hb, <- e]; exact ha)⟩
theorem f7' : ∀ {xs F : List α}, F.Nodup -> (cu' F xs).Nodup
  | [], _, h => h
  | _ :: xs, _, h => f7' (xs := xs) (z3' h)
theorem jF' {xs : List α} : (aK' xs).Nodup := f7' List.nodup_nil
theorem jK' : ∀ {xs F : List α}, (∀ x ∈ xs, x ∈ F) -> cu' F xs = F
  | [], _, _ => rfl
  | x :: xs, F, h => by
    rw [cy', c5' (h x (by simp))]
    exact jK' fun y hy => h y (by simp [hy])
theorem ce' {xs : List α} {x : α} : aK' (xs ++ [x]) = ins (aK' xs) x := fz'
theorem cR' {xs : List α} (h : xs.Nodup) : aK' xs = xs := by
  have go : ∀ (ys F : List α), (F ++ ys).Nodup -> cu' F ys = F ++ ys := by
    intro ys
    induction ys with
    | nil => intro F _; simp [cu']
    | cons y ys ih =>
      intro F hn
      have : y ∉ F := fun hy => (List.nodup_append.mp hn).2.2 y hy y (by simp) rfl
      rw [cy', ch' this, ih _ (by simpa using hn)]
      simp
  exact go xs [] (by simpa using h)
theorem kL' (c : α -> β) (F : List α) (x : α) : aK' ((ins F x).map c) = ins (aK' (F.map c)) (c x) := by
  by_cases h : x ∈ F
  . rw [c5' h, c5' (a7'.mpr (List.mem_map.mpr ⟨x, h, rfl⟩))]
  . rw [ch' h, List.map_append, List.map_cons, List.map_nil, ce']
theorem dL' (c : α -> β) : ∀ (xs F : List α), aK' ((cu' F xs).map c) = cu' (aK' (F.map c)) (xs.map c)
  | [], _ => rfl
  | x :: xs, F => by rw [cy', dL' c xs, kL', List.map_cons, cy']
theorem jB' (c : α -> β) (xs : List α) : aK' ((aK' xs).map c) = aK' (xs.map c) := by
  have := dL' c xs []
  exact this
theorem l9' (f : α -> β) {F : List α} {x : α} (h : ∀ y ∈ F, f y = f x -> y = x) : (ins F x).map f = ins (F.map f) (f x) := by
  by_cases hx : x ∈ F
  . rw [c5' hx, c5' (List.mem_map.mpr ⟨x, hx, rfl⟩)]
  . rw [ch' hx, ch']
    . simp
    . rw [List.mem_map]
      rintro ⟨y, hy, e⟩
      exact hx (h y hy e ▸ hy)
theorem gB' (f : α -> β) (U : α -> Prop) (inj : ∀ a b, U a -> U b -> f a = f b -> a = b) : ∀ (xs F : List α), (∀ x ∈ F, U x) -> (∀ x ∈ xs, U x) -> (cu' F xs).map f = cu' (F.map f) (xs.map f)
  | [], _, _, _ => rfl
  | x :: xs, F, hF, hx => by
    have ux := hx x (by simp)
    rw [cy', gB' f U inj xs (ins F x) (fun y hy => (r4'.mp hy).elim (hF y) fun e => e ▸ ux) (fun y hy => hx y (by simp [hy])), l9' f fun y hy e => inj y x (hF y hy) ux e, List.map_cons, cy']
theorem gA' (f : α -> β) (xs : List α) (inj : ∀ a ∈ xs, ∀ b ∈ xs, f a = f b -> a = b) : aK' (xs.map f) = (aK' xs).map f :=
  (gB' f (· ∈ xs) (fun a b ha hb => inj a ha b hb) xs [] (fun _ h => nomatch h) (fun _ h => h)).symm
theorem xm' : ∀ {xs : List α}, xs.Nodup -> xs.map (fun x => xs.idxOf x) = List.range xs.length := by
  intro xs h
  refine List.ext_getElem (by simp) fun i h1 h2 => ?_
  rw [List.getElem_map, List.getElem_range]
  rw [List.length_map] at h1
  exact List.Nodup.idxOf_getElem h i h1
theorem ub' (xs : List α) : aK' (xs.map fun x => (aK' xs).idxOf x) = List.range (aK' xs).length := by
  rw [gA' (fun x => (aK' xs).idxOf x) xs, xm' jF']
  intro a ha b hb e
  have h1 : (aK' xs)[(aK' xs).idxOf a]? = some a := by
    rw [List.getElem?_eq_getElem (List.idxOf_lt_length_iff.mpr (a7'.mpr ha)), List.getElem_idxOf]
  have h2 : (aK' xs)[(aK' xs).idxOf b]? = some b := by
    rw [List.getElem?_eq_getElem (List.idxOf_lt_length_iff.mpr (a7'.mpr hb)), List.getElem_idxOf]
  rw [e, h2] at h1
  exact (Option.some.inj h1).symm
theorem bT' (g : α -> β) (X : List α) : (aK' (X.map g)).length <= (aK' X).length := by
  have h := jB' g X
  rw [<- h]
  have go : ∀ (ys F : List β), (cu' F ys).length <= F.length + ys.length := by
    intro ys
    induction ys with
    | nil => intro F; simp [cu']
    | cons y ys ih =>
      intro F
      rw [cy']
      refine Nat.le_trans (ih _) ?_
      have : (ins F y).length <= F.length + 1 := by unfold ins; split <;> simp
      simp only [List.length_cons]
      omega
  have := go ((aK' X).map g) []
  simpa [aK'] using this
theorem l6' (g : α -> β) (X : List α) (h : (aK' (X.map g)).length = (aK' X).length) : ∀ a ∈ X, ∀ b ∈ X, g a = g b -> a = b := by
  have go : ∀ (l : List α), (aK' (l.reverse.map g)).length = (aK' l.reverse).length -> ∀ a ∈ l, ∀ b ∈ l, g a = g b -> a = b := by
    intro l
    induction l with
    | nil => intro _ a ha; cases ha
    | cons x l ih =>
      intro h
      rw [List.reverse_cons, List.map_append, List.map_cons, List.map_nil, ce', ce'] at h
      by_cases hx : x ∈ l
      . have hx' : x ∈ aK' l.reverse := a7'.mpr (List.mem_reverse.mpr hx)
        have hg : g x ∈ aK' (l.reverse.map g) := a7'.mpr (List.mem_map.mpr ⟨x, List.mem_reverse.mpr hx, rfl⟩)
        rw [c5' hx', c5' hg] at h
        intro a ha b hb e
        have ha' : a ∈ l := (List.mem_cons.mp ha).elim (fun e => e ▸ hx) id
        have hb' : b ∈ l := (List.mem_cons.mp hb).elim (fun e => e ▸ hx) id
        exact ih h a ha' b hb' e
      . have hx' : x ∉ aK' l.reverse := fun q => hx (List.mem_reverse.mp (a7'.mp q))
        rw [ch' hx', List.length_append, List.length_singleton] at h
        have le := bT' g l.reverse
        by_cases hg : g x ∈ aK' (l.reverse.map g)
        . rw [c5' hg] at h; omega
        . rw [ch' hg, List.length_append, List.length_singleton] at h
          have ih := ih (by omega)
          have no : ∀ a ∈ l, g a ≠ g x := fun a ha e => hg (a7'.mpr (List.mem_map.mpr ⟨a, List.mem_reverse.mpr ha, e⟩))
          intro a ha b hb e
          rcases List.mem_cons.mp ha with ea | ha2
          . rcases List.mem_cons.mp hb with eb | hb2
            . rw [ea, eb]
            . exact absurd (by rw [<- ea]; exact e.symm) (no b hb2)
          . rcases List.mem_cons.mp hb with eb | hb2
            . exact absurd (by rw [<- eb]; exact e) (no a ha2)
            . exact ih a ha2 b hb2 e
  intro a ha b hb e
  exact go X.reverse (by rw [List.reverse_reverse]; exact h) a (List.mem_reverse.mpr ha) b (List.mem_reverse.mpr hb) e
end
def aH' (T : List (List Nat)) (s : Nat) : List Nat := (T[s]?).getD []
def bfs (T : List (List Nat)) : Nat -> List Nat
  | 0 => [0]
  | j + 1 => match (bfs T j)[j]? with
    | some s => cu' (bfs T j) (aH' T s)
    | none => bfs T j
section
variable {T : List (List Nat)} {n m : Nat}
theorem kw' (h : a4' T n m) {s t : Nat} (ht : t ∈ aH' T s) : t < n := by
  unfold aH' at ht
  cases e : T[s]? with
  | none => rw [e] at ht; cases ht
  | some r =>
    rw [e] at ht
    exact (h.2 r (List.mem_of_getElem? e)).2 t ht
theorem cd' (h : a4' T n m) {s : Nat} (hs : s < n) : (aH' T s).length = m := by
  unfold aH'
  rw [List.getElem?_eq_getElem (by rw [h.1]; exact hs)]
  exact (h.2 _ (List.getElem_mem _)).1
theorem dh' (h : a4' T n m) {s : Nat} (hs : s < n) : T[s]? = some (aH' T s) := by
  unfold aH'
  rw [List.getElem?_eq_getElem (by rw [h.1]; exact hs)]
  rfl
theorem sY' : ∀ {j : Nat}, bfs T j <+: bfs T (j + 1) := by
  intro j
  show bfs T j <+: (match (bfs T j)[j]? with | some s => cu' (bfs T j) (aH' T s) | none => bfs T j)
  split
  . exact dJ'
  . exact List.prefix_refl _
theorem cP' {i j : Nat} (h : i <= j) : bfs T i <+: bfs T j := by
  induction h with
  | refl => exact List.prefix_refl _
  | step _ ih => exact ih.trans sY'
theorem lv' : ∀ j : Nat, (bfs T j).Nodup
  | 0 => by simp [bfs]
  | j + 1 => by
    show (match (bfs T j)[j]? with | some s => cu' (bfs T j) (aH' T s) | none => bfs T j).Nodup
    split
    . exact f7' (lv' j)
    . exact lv' j
theorem oS' (h : a4' T n m) (hn : 1 <= n) : ∀ {j s : Nat}, s ∈ bfs T j -> s < n := by
  intro j
  induction j with
  | zero => intro s hs; simp [bfs] at hs; omega
  | succ j ih =>
    intro s hs
    have hs : s ∈ (match (bfs T j)[j]? with | some s => cu' (bfs T j) (aH' T s) | none => bfs T j) := hs
    split at hs
    . rcases cf'.mp hs with h1 | h1
      . exact ih h1
      . exact kw' h h1
    . exact ih hs
theorem iB' {l : List Nat} (hn : l.Nodup) (h : ∀ s ∈ l, s < n) : l.length <= n := by
  have := List.Nodup.length_le_of_subset hn fun s hs => List.mem_range.mpr (h s hs)
  simpa using this
theorem dM' (h : a4' T n m) (hn : 1 <= n) (j : Nat) : (bfs T j).length <= n := iB' (lv' j) fun _ hs => oS' h hn hs
theorem oR' {j : Nat} (h : (bfs T j).length <= j) : ∀ {i : Nat}, j <= i -> bfs T i = bfs T j := by
  intro i hi
  induction hi with
  | refl => rfl
  | @step i hi ih =>
    show (match (bfs T i)[i]? with | some s => cu' (bfs T i) (aH' T s) | none => bfs T i) = _
    have : (bfs T i)[i]? = none := by rw [ih]; exact List.getElem?_eq_none (Nat.le_trans h hi)
    rw [this, ih]
theorem ji' {j s : Nat} (h : (bfs T j)[j]? = some s) : bfs T (j + 1) = cu' (bfs T j) (aH' T s) := by
  show (match (bfs T j)[j]? with | some s => cu' (bfs T j) (aH' T s) | none => bfs T j) = _
  rw [h]
def reach (T : List (List Nat)) : List Nat := bfs T T.length
theorem g8' (h : a4' T T.length m) (hn : 1 <= T.length) {j : Nat} (hj : (bfs T j).length <= j) : bfs T j = reach T := by
  have hl := dM' h hn
  by_cases q : j <= T.length
  . exact (oR' hj q).symm
  . exact oR' (hl _) (by omega)
theorem hO' {j s : Nat} (h : a4' T T.length m) (hn : 1 <= T.length) (e : (reach T)[j]? = some s) : (bfs T j)[j]? = some s := by
  -- what stands at j is found before j is walked
  have h1 : j < (bfs T j).length := by
    rcases Nat.lt_or_ge j (bfs T j).length with q | q
    . exact q
    . have := g8' h hn q
      rw [<- this] at e
      have := (List.getElem?_eq_some_iff.mp e).1
      omega
  have hle : j <= T.length := by
    have := (List.getElem?_eq_some_iff.mp e).1
    have := dM' h hn T.length
    unfold reach at *
    omega
  obtain ⟨G, eG⟩ := cP' (T := T) hle
  unfold reach at e
  rw [<- eG, List.getElem?_append_left h1] at e
  exact e
theorem jw' : (reach T).Nodup := lv' _
theorem jx' (h : a4' T T.length m) (hn : 1 <= T.length) {s : Nat} (hs : s ∈ reach T) : s < T.length := oS' h hn hs
theorem wT' : (reach T)[0]? = some 0 := by
  obtain ⟨G, e⟩ := cP' (T := T) (Nat.zero_le T.length)
  unfold reach
  rw [<- e]
  rfl
theorem fY' : 0 ∈ reach T := List.mem_of_getElem? wT'
theorem d7' (h : a4' T T.length m) (hn : 1 <= T.length) {s t : Nat} (hs : s ∈ reach T) (ht : t ∈ aH' T s) : t ∈ reach T := by
  obtain ⟨j, hj, e⟩ := List.getElem_of_mem hs
  have e : (reach T)[j]? = some s := by rw [List.getElem?_eq_getElem hj, e]
  have e2 := ji' (hO' h hn e)
  have hl := dM' h hn T.length
  have hj' : j + 1 <= T.length := by unfold reach at hj; omega
  exact (cP' hj').subset (by rw [e2]; exact cf'.mpr (.inr ht))
end
section
variable {γ : Type} [DecidableEq γ] {S : List Nat}
def kN' (S : List Nat) (f : Nat -> γ) (s : Nat) : Nat := (aK' (S.map f)).idxOf (f s)
theorem jC' (f : Nat -> γ) : aK' (S.map (kN' S f)) = List.range (aK' (S.map f)).length := by
  have := ub' (S.map f)
  rw [List.map_map] at this
  exact this
theorem jD' (f : Nat -> γ) {s : Nat} (hs : s ∈ S) : (aK' (S.map f))[kN' S f s]? = some (f s) := by
  have : kN' S f s < (aK' (S.map f)).length := List.idxOf_lt_length_iff.mpr (a7'.mpr (List.mem_map.mpr ⟨s, hs, rfl⟩))
  rw [List.getElem?_eq_getElem this]
  exact congrArg some (List.getElem_idxOf _)
theorem cN' (f : Nat -> γ) {s t : Nat} (hs : s ∈ S) (ht : t ∈ S) : kN' S f s = kN' S f t ↔ f s = f t := by
  constructor
  . intro e
    have h1 := jD' f hs
    rw [e, jD' f ht] at h1
    exact (Option.some.inj h1).symm
  . intro e; unfold kN'; rw [e]
end
def key (T : List (List Nat)) (c : Nat -> Nat) (s : Nat) : Nat × List Nat := (c s, (aH' T s).map c)
def Leq (L : Tx) (T : List (List Nat)) (A : List Nat) (s t : Nat) : Prop := ∀ x : Tx, (∀ a ∈ x, a ∈ L) -> (run L T s x ∈ A ↔ run L T t x ∈ A)
structure Clz (L : Tx) (T : List (List Nat)) (A : List Nat) (S : List Nat) (c : Nat -> Nat) (k : Nat) : Prop where
  num : aK' (S.map c) = List.range k
  ref : ∀ s ∈ S, ∀ t ∈ S, c s = c t -> (s ∈ A ↔ t ∈ A)
  co : ∀ s ∈ S, ∀ t ∈ S, Leq L T A s t -> c s = c t
section
variable {L : Tx} {T : List (List Nat)} {A S : List Nat} {c : Nat -> Nat} {k : Nat}
theorem eT' (s a : Nat) : stp L T s a = ((aH' T s)[L.idxOf a]?).getD 0 := rfl
theorem lK' (hL : L.Nodup) {s i : Nat} (hi : i < L.length) : stp L T s L[i] = ((aH' T s)[i]?).getD 0 := by rw [eT', hL.idxOf_getElem i hi]
theorem dF' (h : a4' T T.length L.length) {s a : Nat} (hs : s < T.length) (ha : a ∈ L) : stp L T s a ∈ aH' T s := by
  obtain ⟨r, h1, h2, _⟩ := nW' h hs ha
  have : aH' T s = r := by unfold aH'; rw [h1]; rfl
  rw [this]
  exact List.mem_of_getElem? h2
theorem Leq.step (h : Leq L T A s t) (ha : a ∈ L) : Leq L T A (stp L T s a) (stp L T t a) := fun x hx => by
  have := h (a :: x) fun b hb => (List.mem_cons.mp hb).elim (fun e => e ▸ ha) (hx b)
  exact this
theorem Leq.refl (s : Nat) : Leq L T A s s := fun _ _ => Iff.rfl
theorem Leq.symm (h : Leq L T A s t) : Leq L T A t s := fun x hx => (h x hx).symm
theorem Leq.trans (h : Leq L T A s t) (h' : Leq L T A t u) : Leq L T A s u := fun x hx => (h x hx).trans (h' x hx)
theorem lU' (h : a4' T T.length L.length) (hL : L.Nodup) {s t : Nat} (hs : s < T.length) (ht : t < T.length) (hc : ∀ a ∈ L, c (stp L T s a) = c (stp L T t a)) : (aH' T s).map c = (aH' T t).map c := by
  have l1 := cd' h hs
  have l2 := cd' h ht
  refine List.ext_getElem (by simp [l1, l2]) fun i h1 h2 => ?_
  rw [List.getElem_map, List.getElem_map]
  rw [List.length_map] at h1 h2
  have := hc L[i] (List.getElem_mem (by omega))
  rw [lK' hL (by omega), lK' hL (by omega), List.getElem?_eq_getElem h1, List.getElem?_eq_getElem h2] at this
  exact this
theorem Clz.lt (h : Clz L T A S c k) {s : Nat} (hs : s ∈ S) : c s < k := by
  have : c s ∈ aK' (S.map c) := a7'.mpr (List.mem_map.mpr ⟨s, hs, rfl⟩)
  rw [h.num] at this
  exact List.mem_range.mp this
theorem Clz.first : Clz L T A S (kN' S fun s => decide (s ∈ A)) (aK' (S.map fun s => decide (s ∈ A))).length := by
  refine ⟨jC' _, fun s hs t ht e => ?_, fun s hs t ht e => (cN' _ hs ht).mpr ?_⟩
  . have := (cN' _ hs ht).mp e
    simpa using this
  . have := e [] (fun _ h => nomatch h)
    simpa [jt'] using this
theorem Clz.next (hT : a4' T T.length L.length) (hL : L.Nodup) (hS : ∀ s ∈ S, s < T.length) (hcl : ∀ s ∈ S, ∀ t ∈ aH' T s, t ∈ S) (h : Clz L T A S c k) : Clz L T A S (kN' S (key T c)) (aK' (S.map (key T c))).length := by
  refine ⟨jC' _, fun s hs t ht e => ?_, fun s hs t ht e => (cN' _ hs ht).mpr ?_⟩
  . have := (cN' _ hs ht).mp e
    exact h.ref s hs t ht (congrArg Prod.fst this)
  . refine Prod.ext (h.co s hs t ht e) (lU' hT hL (hS s hs) (hS t ht) fun a ha => ?_)
    exact h.co _ (hcl s hs _ (dF' hT (hS s hs) ha)) _ (hcl t ht _ (dF' hT (hS t ht) ha)) (e.step ha)
theorem jN' : (S.map (key T c)).map Prod.fst = S.map c := by rw [List.map_map]; rfl
theorem Clz.le (h : Clz L T A S c k) : k <= (aK' (S.map (key T c))).length := by
  have := bT' Prod.fst (S.map (key T c))
  rw [jN', h.num, List.length_range] at this
  exact this
theorem Clz.stable (h : Clz L T A S c k) (he : (aK' (S.map (key T c))).length <= k) : ∀ s ∈ S, ∀ t ∈ S, c s = c t -> key T c s = key T c t := fun s hs t ht e => by
  have hk := Nat.le_antisymm he h.le
  refine l6' Prod.fst (S.map (key T c)) ?_ _ (List.mem_map.mpr ⟨s, hs, rfl⟩) _ (List.mem_map.mpr ⟨t, ht, rfl⟩) e
  rw [jN', h.num, List.length_range, hk]
theorem Clz.same (h : Clz L T A S c k) (he : (aK' (S.map (key T c))).length <= k) : ∀ s ∈ S, kN' S (key T c) s = c s := fun s hs => by
  have st := h.stable he
  have e : aK' ((S.map (key T c)).map Prod.fst) = (aK' (S.map (key T c))).map Prod.fst := gA' Prod.fst _ fun a ha b hb q => by
    obtain ⟨s1, h1, rfl⟩ := List.mem_map.mp ha
    obtain ⟨s2, h2, rfl⟩ := List.mem_map.mp hb
    exact st s1 h1 s2 h2 q
  rw [jN', h.num] at e
  have g := jD' (key T c) hs
  have g2 : ((aK' (S.map (key T c))).map Prod.fst)[kN' S (key T c) s]? = some (c s) := by rw [List.getElem?_map, g]; rfl
  rw [<- e] at g2
  obtain ⟨hl, g3⟩ := List.getElem?_eq_some_iff.mp g2
  rw [List.getElem_range] at g3
  exact g3
theorem Clz.fine (hT : a4' T T.length L.length) (hS : ∀ s ∈ S, s < T.length) (hcl : ∀ s ∈ S, ∀ t ∈ aH' T s, t ∈ S) (h : Clz L T A S c k) (st : ∀ s ∈ S, ∀ t ∈ S, c s = c t -> key T c s = key T c t) :
    ∀ x : Tx, (∀ a ∈ x, a ∈ L) -> ∀ s ∈ S, ∀ t ∈ S, c s = c t -> (run L T s x ∈ A ↔ run L T t x ∈ A)
  | [], _, s, hs, t, ht, e => h.ref s hs t ht e
  | a :: x, hx, s, hs, t, ht, e => by
    have ha := hx a (by simp)
    refine Clz.fine hT hS hcl h st x (fun b hb => hx b (by simp [hb])) _ (hcl s hs _ (dF' hT (hS s hs) ha)) _ (hcl t ht _ (dF' hT (hS t ht) ha)) ?_
    have q := congrArg Prod.snd (st s hs t ht e)
    have q : (aH' T s).map c = (aH' T t).map c := q
    have l1 := cd' hT (hS s hs)
    have l2 := cd' hT (hS t ht)
    have hi : L.idxOf a < L.length := List.idxOf_lt_length_iff.mpr ha
    have q2 := congrArg (fun l => l[L.idxOf a]?) q
    simp only [List.getElem?_map, List.getElem?_eq_getElem (show L.idxOf a < (aH' T s).length by omega), List.getElem?_eq_getElem (show L.idxOf a < (aH' T t).length by omega), Option.map_some, Option.some.injEq] at q2
    rw [eT', eT', List.getElem?_eq_getElem (by omega), List.getElem?_eq_getElem (by omega)]
    exact q2
end
def ci' (S : List Nat) (c : Nat -> Nat) (q : Nat) : Nat := (S.find? fun s => decide (c s = q)).getD 0
def cm' (T : List (List Nat)) (S : List Nat) (c : Nat -> Nat) (k : Nat) : List (List Nat) := (List.range k).map fun q => (aH' T (ci' S c q)).map c
def i8' (A : List Nat) (S : List Nat) (c : Nat -> Nat) (k : Nat) : List Nat := (List.range k).filter fun q => decide (ci' S c q ∈ A)
structure IsLeast (L : Tx) (T : List (List Nat)) (A : List Nat) (c : Nat -> Nat) (T' : List (List Nat)) (A' : List Nat) : Prop where
  tab : a4' T' T'.length L.length
  ne : 1 <= T'.length
  le : T'.length <= T.length
  acc : AccOk A' T'.length
  c0 : c 0 = 0
  lt : ∀ s ∈ reach T, c s < T'.length
  row : ∀ s ∈ reach T, aH' T' (c s) = (aH' T s).map c
  fin : ∀ s ∈ reach T, (c s ∈ A' ↔ s ∈ A)
  onto : ∀ q < T'.length, ∃ s ∈ reach T, c s = q
  reach : reach T' = List.range T'.length
  apart : ∀ p < T'.length, ∀ q < T'.length, Leq L T' A' p q -> p = q
  num : aK' ((M.reach T).map c) = List.range T'.length
section
variable {L : Tx} {T : List (List Nat)} {A : List Nat} {c : Nat -> Nat} {k : Nat}
theorem wD' {T' : List (List Nat)} (hT : a4' T T.length L.length) {s a : Nat} (hs : s < T.length) (ha : a ∈ L) (e : aH' T' (c s) = (aH' T s).map c) : stp L T' (c s) a = c (stp L T s a) := by
  rw [eT', eT', e]
  have l1 := cd' hT hs
  have hi : L.idxOf a < L.length := List.idxOf_lt_length_iff.mpr ha
  rw [List.getElem?_map, List.getElem?_eq_getElem (by omega)]
  rfl
theorem ju' {T' : List (List Nat)} {S : List Nat} (hT : a4' T T.length L.length) (hS : ∀ s ∈ S, s < T.length) (hcl : ∀ s ∈ S, ∀ t ∈ aH' T s, t ∈ S) (hr : ∀ s ∈ S, aH' T' (c s) = (aH' T s).map c) :
    ∀ x : Tx, (∀ a ∈ x, a ∈ L) -> ∀ s ∈ S, run L T' (c s) x = c (run L T s x) /\ run L T s x ∈ S
  | [], _, s, hs => ⟨rfl, hs⟩
  | a :: x, hx, s, hs => by
    have ha := hx a (by simp)
    rw [ex', ex', wD' hT (hS s hs) ha (hr s hs)]
    exact ju' hT hS hcl hr x (fun b hb => hx b (by simp [hb])) _ (hcl s hs _ (dF' hT (hS s hs) ha))
theorem fj' {l : List Nat} {k : Nat} (h : l <+: List.range k) : l = List.range l.length := by
  obtain ⟨G, e⟩ := h
  refine List.ext_getElem (by simp) fun i h1 h2 => ?_
  have : (l ++ G)[i]? = (List.range k)[i]? := by rw [e]
  have hk : i < k := by
    have := congrArg List.length e
    simp only [List.length_append, List.length_range] at this
    omega
  rw [List.getElem?_append_left h1, List.getElem?_eq_getElem h1, List.getElem?_eq_getElem (by simpa using hk), List.getElem_range] at this
  rw [List.getElem_range]
  exact Option.some.inj this
theorem hd' {F G : List Nat} (c : Nat -> Nat) (h : F <+: G) : aK' (F.map c) <+: aK' (G.map c) := by
  obtain ⟨K, rfl⟩ := h
  rw [List.map_append, aK', aK', c6']
  exact dJ'
theorem uj' (hT : a4' T T.length L.length) (hL : L.Nodup) (hn : 1 <= T.length) (h : Clz L T A (reach T) c k) (st : ∀ s ∈ reach T, ∀ t ∈ reach T, c s = c t -> key T c s = key T c t) :
    IsLeast L T A c (cm' T (reach T) c k) (i8' A (reach T) c k) := by
  have hS : ∀ s ∈ reach T, s < T.length := fun s hs => jx' hT hn hs
  have hcl : ∀ s ∈ reach T, ∀ t ∈ aH' T s, t ∈ reach T := fun s hs t ht => d7' hT hn hs ht
  have lenT : (cm' T (reach T) c k).length = k := by simp [cm']
  have fst : ∀ q < k, ci' (reach T) c q ∈ reach T /\ c (ci' (reach T) c q) = q := by
    intro q hq
    have : q ∈ aK' ((reach T).map c) := by rw [h.num]; exact List.mem_range.mpr hq
    obtain ⟨s, hs, e⟩ := List.mem_map.mp (a7'.mp this)
    unfold ci'
    cases f : (reach T).find? fun s => decide (c s = q) with
    | none =>
      have := List.find?_eq_none.mp f s hs
      simp [e] at this
    | some t => exact ⟨List.mem_of_find?_eq_some f, by have := List.find?_some f; simpa using this⟩
  have c0 : c 0 = 0 := by
    have h1 : aK' (([0] : List Nat).map c) <+: aK' ((reach T).map c) := hd' c (by
      have := cP' (T := T) (Nat.zero_le T.length)
      exact this)
    rw [h.num] at h1
    have h2 := fj' h1
    have h3 : aK' (([0] : List Nat).map c) = [c 0] := rfl
    rw [h3] at h2
    simpa using h2
  have lt : ∀ s ∈ reach T, c s < k := fun s hs => h.lt hs
  have gY' : 1 <= k := by have := lt 0 fY'; omega
  have rowL : ∀ q < k, aH' (cm' T (reach T) c k) q = (aH' T (ci' (reach T) c q)).map c := by
    intro q hq
    unfold aH'
    unfold cm'
    rw [List.getElem?_map, List.getElem?_range hq]
    rfl
  have row : ∀ s ∈ reach T, aH' (cm' T (reach T) c k) (c s) = (aH' T s).map c := by
    intro s hs
    rw [rowL _ (lt s hs)]
    obtain ⟨f1, f2⟩ := fst _ (lt s hs)
    exact congrArg Prod.snd (st _ f1 s hs f2)
  have fin : ∀ s ∈ reach T, (c s ∈ i8' A (reach T) c k ↔ s ∈ A) := by
    intro s hs
    unfold i8'
    rw [List.mem_filter, List.mem_range]
    obtain ⟨f1, f2⟩ := fst _ (lt s hs)
    have := h.ref _ f1 s hs f2
    simp [lt s hs, this]
  have onto : ∀ q < k, ∃ s ∈ reach T, c s = q := fun q hq => ⟨_, (fst q hq).1, (fst q hq).2⟩
  have kle : k <= T.length := by
    have h1 := bT' c (reach T)
    rw [h.num, List.length_range, cR' jw'] at h1
    exact Nat.le_trans h1 (dM' hT hn _)
  have tab : a4' (cm' T (reach T) c k) (cm' T (reach T) c k).length L.length := by
    refine ⟨rfl, fun r hr => ?_⟩
    unfold cm' at hr
    obtain ⟨q, hq, rfl⟩ := List.mem_map.mp hr
    obtain ⟨f1, f2⟩ := fst q (List.mem_range.mp hq)
    refine ⟨by rw [List.length_map]; exact cd' hT (hS _ f1), fun t ht => ?_⟩
    obtain ⟨u, hu, rfl⟩ := List.mem_map.mp ht
    rw [lenT]
    exact lt u (hcl _ f1 u hu)
  have apart : ∀ p < k, ∀ q < k, Leq L (cm' T (reach T) c k) (i8' A (reach T) c k) p q -> p = q := by
    intro p hp q hq hl
    obtain ⟨f1, f2⟩ := fst p hp
    obtain ⟨g1, g2⟩ := fst q hq
    rw [<- f2, <- g2]
    refine h.co _ f1 _ g1 fun x hx => ?_
    have a1 := ju' hT hS hcl row x hx _ f1
    have a2 := ju' hT hS hcl row x hx _ g1
    have := hl x hx
    rw [<- f2, <- g2, a1.1, a2.1, fin _ a1.2, fin _ a2.2] at this
    exact this
  -- the order in which the classes are found
  have seq : ∀ j, j <= (reach T).length -> bfs (cm' T (reach T) c k) (aK' (((reach T).take j).map c)).length = aK' ((bfs T j).map c) := by
    intro j
    induction j with
    | zero =>
      intro _
      show [0] = aK' [c 0]
      rw [c0]; rfl
    | succ j ih =>
      intro hj
      have ih := ih (by omega)
      have hs : (reach T)[j]? = some (reach T)[j] := List.getElem?_eq_getElem (by omega)
      generalize (reach T)[j] = s at hs
      have hsb := hO' hT hn hs
      have hsm : s ∈ reach T := List.mem_of_getElem? hs
      have tk : (reach T).take (j + 1) = (reach T).take j ++ [s] := by rw [List.take_succ, hs]; rfl
      have hpre : aK' (((reach T).take j).map c) <+: List.range k := by rw [<- h.num]; exact hd' c (List.take_prefix ..)
      have hr := fj' hpre
      have hpre2 : aK' (((reach T).take (j + 1)).map c) <+: List.range k := by rw [<- h.num]; exact hd' c (List.take_prefix ..)
      have hjl : j <= T.length := by
        have := dM' hT hn T.length
        unfold reach at hj
        omega
      rw [ji' hsb, dL']
      rw [tk, List.map_append, List.map_cons, List.map_nil, ce'] at hpre2 ⊢
      by_cases hc : c s ∈ aK' (((reach T).take j).map c)
      . rw [c5' hc, ih]
        refine (jK' fun y hy => ?_).symm
        obtain ⟨y0, hy0, rfl⟩ := List.mem_map.mp hy
        obtain ⟨s', hs', e'⟩ := List.mem_map.mp (a7'.mp hc)
        have hs'm : s' ∈ reach T := List.mem_of_mem_take hs'
        have rr : (aH' T s').map c = (aH' T s).map c := congrArg Prod.snd (st _ hs'm _ hsm e')
        have : c y0 ∈ (aH' T s').map c := by rw [rr]; exact hy
        obtain ⟨y1, hy1, e1⟩ := List.mem_map.mp this
        refine a7'.mpr (List.mem_map.mpr ⟨y1, ?_, e1⟩)
        obtain ⟨i, hi, ei⟩ := List.getElem_of_mem hs'
        rw [List.length_take] at hi
        rw [List.getElem_take] at ei
        have gi : (reach T)[i]? = some s' := by rw [List.getElem?_eq_getElem (by omega), ei]
        have := ji' (hO' hT hn gi)
        exact (cP' (show i + 1 <= j by omega)).subset (by rw [this]; exact cf'.mpr (.inr hy1))
      . rw [ch' hc] at hpre2 ⊢
        have hq := fj' hpre2
        have hcs : c s = (aK' (((reach T).take j).map c)).length := by
          have := congrArg (fun l => l[(aK' (((reach T).take j).map c)).length]?) hq
          simp only [List.getElem?_append_right (Nat.le_refl _), Nat.sub_self, List.getElem?_cons_zero, List.length_append, List.length_singleton] at this
          rw [List.getElem?_range (by omega)] at this
          exact Option.some.inj this
        rw [List.length_append, List.length_singleton]
        have hG : aK' ((bfs T j).map c) <+: List.range k := by rw [<- h.num]; exact hd' c (cP' hjl)
        have hGr := fj' hG
        have hmem : c s ∈ aK' ((bfs T j).map c) := a7'.mpr (List.mem_map.mpr ⟨s, List.mem_of_getElem? hsb, rfl⟩)
        have hget : (bfs (cm' T (reach T) c k) (aK' (((reach T).take j).map c)).length)[(aK' (((reach T).take j).map c)).length]? = some (c s) := by
          rw [ih, <- hcs]
          rw [hGr] at hmem ⊢
          rw [List.getElem?_range (List.mem_range.mp hmem)]
        rw [ji' hget, ih, row s hsm]
  have rch : reach (cm' T (reach T) c k) = List.range (cm' T (reach T) c k).length := by
    have e := seq (reach T).length (Nat.le_refl _)
    rw [List.take_length, h.num, List.length_range] at e
    have hb : bfs T (reach T).length = reach T := by
      refine g8' hT hn ?_
      have := cP' (T := T) (show (reach T).length <= T.length from dM' hT hn _)
      exact this.length_le
    rw [hb, h.num] at e
    show bfs _ (cm' T (reach T) c k).length = _
    rw [lenT]
    exact e
  refine ⟨tab, by rw [lenT]; exact gY', by rw [lenT]; exact kle, ⟨?_, fun a ha => ?_⟩, c0, by rw [lenT]; exact lt, row, fin, by rw [lenT]; exact onto, rch, by rw [lenT]; exact apart, by rw [lenT]; exact h.num⟩
  . exact List.Pairwise.filter _ List.pairwise_lt_range
  . rw [lenT]
    exact List.mem_range.mp (List.mem_filter.mp ha).1
end
structure Cw (L : Tx) (T : List (List Nat)) (A : List Nat) (S : List Nat) (c : Nat -> Nat) : Prop where
  ref : ∀ s ∈ S, ∀ t ∈ S, c s = c t -> (s ∈ A ↔ t ∈ A)
  co : ∀ s ∈ S, ∀ t ∈ S, Leq L T A s t -> c s = c t
section
variable {L : Tx} {T : List (List Nat)} {A S : List Nat} {c : Nat -> Nat} {k : Nat}
theorem Cw.next (hT : a4' T T.length L.length) (hL : L.Nodup) (hS : ∀ s ∈ S, s < T.length) (hcl : ∀ s ∈ S, ∀ t ∈ aH' T s, t ∈ S) (h : Cw L T A S c) : Clz L T A S (kN' S (key T c)) (aK' (S.map (key T c))).length := by
  refine ⟨jC' _, fun s hs t ht e => ?_, fun s hs t ht e => (cN' _ hs ht).mpr ?_⟩
  . have := (cN' _ hs ht).mp e
    exact h.ref s hs t ht (congrArg Prod.fst this)
  . refine Prod.ext (h.co s hs t ht e) (lU' hT hL (hS s hs) (hS t ht) fun a ha => ?_)
    exact h.co _ (hcl s hs _ (dF' hT (hS s hs) ha)) _ (hcl t ht _ (dF' hT (hS t ht) ha)) (e.step ha)
end
def s6' (X : D) (T : List (List Nat)) : Prop := ∀ (s : Nat) (r : List Nat), T[s]? = some r -> ∃ R, pIx X (.int (s : Nat)) = some R /\ eU' R = some (r.map fun t => .int (t : Nat))
def s9' (Y : D) (A : List Nat) : Prop := ∀ s : Nat, pIn (.int (s : Nat)) Y = some (.bl (decide (s ∈ A)))
theorem s6'.tab (T : List (List Nat)) : s6' (cC' T) T := fun s r h => ⟨dp' r, by
  show ati (T.map dp') (s : Int) = _
  rw [oT' (by omega), List.getElem?_map, Int.toNat_natCast, h]; rfl, rfl⟩
theorem s9'.acc (A : List Nat) : s9' (cK' A) A := fun s => by
  have h := sO' A s (Q := fun d => d = .bl (decide (s ∈ A)))
  have : wD (pIn (.int (s : Nat)) (cK' A)) (fun d => d = .bl (decide (s ∈ A))) := by rw [h]
  rw [au'] at this
  cases e : pIn (.int (s : Nat)) (cK' A) with
  | none => rw [e] at this; exact this.elim
  | some d => rw [e] at this; exact congrArg some this
def ixo {γ : Type} [DecidableEq γ] (G : List γ) (a : γ) : Nat := G.idxOf a
theorem mc' {γ : Type} [DecidableEq γ] {G G' : List γ} {a : γ} (h : G <+: G') (hm : a ∈ G) : ixo G' a = ixo G a := by
  obtain ⟨K, e⟩ := h
  unfold ixo
  rw [<- e, List.idxOf_append, if_pos hm]
theorem md' {γ : Type} [DecidableEq γ] {G : List γ} {a : γ} (hm : a ∉ G) : ixo (G ++ [a]) a = G.length := by
  unfold ixo
  rw [List.idxOf_append, if_neg hm]
  simp
theorem ga' {γ : Type} [DecidableEq γ] (G : List γ) (k : γ) : (G.map fun a => (a, D.int (ixo G a : Nat))).lookup k = if k ∈ G then some (D.int (ixo G k : Nat)) else none := by
  have go : ∀ (l : List γ) (h : γ -> D), (l.map fun a => (a, h a)).lookup k = if k ∈ l then some (h k) else none := by
    intro l h
    induction l with
    | nil => rfl
    | cons a l ih =>
      rw [List.map_cons, List.lookup_cons, ih]
      by_cases q : k = a
      . subst q; simp
      . have : (k == a) = false := by simpa using q
        simp [this, q]
  exact go G _
section
variable {L : Tx} {T : List (List Nat)} {A : List Nat} {c c' : Nat -> Nat} {T1 T2 : List (List Nat)} {A1 A2 : List Nat}
end
theorem sF' {S : List Nat} {c : Nat -> Nat} {s q : Nat} (h : q ∈ S.map c) : ci' (S ++ [s]) c q = ci' S c q := by
  obtain ⟨t, ht, rfl⟩ := List.mem_map.mp h
  unfold ci'
  rw [List.find?_append]
  cases e : S.find? fun s => decide (c s = c t) with
  | none =>
    have := List.find?_eq_none.mp e t ht
    simp at this
  | some u => rfl
theorem sG' {S : List Nat} {c : Nat -> Nat} {s : Nat} (h : c s ∉ S.map c) : ci' (S ++ [s]) c (c s) = s := by
  unfold ci'
  rw [List.find?_append]
  have : (S.find? fun t => decide (c t = c s)) = none := by
    rw [List.find?_eq_none]
    intro t ht e
    exact h (List.mem_map.mpr ⟨t, ht, by simpa using e⟩)
  rw [this]
  simp
def Pl (y : Option O) : Prop := y = none \/ ∃ d, y = some (.fz d)
theorem Pl.keep {y : Option O} (h : Pl y) : sr' (some y) = y := by rcases h with rfl | ⟨d, rfl⟩ <;> rfl
end M
namespace M
section
variable {L : Tx} {T T' U : List (List Nat)} {A A' B T1 A1 T2 A2 : List Nat} {m : Nat} {c : Nat -> Nat}
theorem IsLeast.run0 {T1 : List (List Nat)} (hT : a4' T T.length L.length) (hn : 1 <= T.length) (h : IsLeast L T A c T1 A1) {x : Tx} (hx : ∀ a ∈ x, a ∈ L) : run L T1 0 x ∈ A1 ↔ run L T 0 x ∈ A := by
  have hS : ∀ s ∈ M.reach T, s < T.length := fun s hs => jx' hT hn hs
  have hcl : ∀ s ∈ M.reach T, ∀ t ∈ aH' T s, t ∈ M.reach T := fun s hs t ht => d7' hT hn hs ht
  have := ju' hT hS hcl h.row x hx 0 fY'
  rw [h.c0] at this
  rw [this.1, h.fin _ this.2]
end
end M
namespace M
section
variable {γ : Type} [DecidableEq γ] (L : Tx) (sx : γ -> Nat -> γ) (g0 : γ)
def nxG (g : γ) : List γ := L.map (sx g)
def xbf : Nat -> List γ
  | 0 => [g0]
  | j + 1 => match (xbf j)[j]? with
    | some g => cu' (xbf j) (nxG L sx g)
    | none => xbf j
def vL' (g : γ) (z : Tx) : γ := z.foldl sx g
def Rch (g : γ) : Prop := ∃ z : Tx, (∀ c ∈ z, c ∈ L) /\ g = vL' sx g0 z
def Few (N : Nat) : Prop := ∀ l : List γ, l.Nodup -> (∀ g ∈ l, Rch L sx g0 g) -> l.length <= N
def hn' (N : Nat) : List γ := xbf L sx g0 N
def BD' (F : List γ) (g : γ) : List Nat := L.map fun c => ixo F (sx g c)
def uV' (F : List γ) : List (List Nat) := F.map (BD' L sx F)
def D1' (F : List γ) (p : γ -> Bool) : List Nat := (List.range F.length).filter fun q => ((F[q]?).map p).getD false
variable {L sx g0}
theorem v9' {j : Nat} : xbf L sx g0 j <+: xbf L sx g0 (j + 1) := by
  show xbf L sx g0 j <+: (match (xbf L sx g0 j)[j]? with | some s => cu' (xbf L sx g0 j) (nxG L sx s) | none => xbf L sx g0 j)
  split
  . exact dJ'
  . exact List.prefix_refl _
theorem mU' {i j : Nat} (h : i <= j) : xbf L sx g0 i <+: xbf L sx g0 j := by
  induction h with
  | refl => exact List.prefix_refl _
  | step _ ih => exact ih.trans v9'
theorem jY' : ∀ j : Nat, (xbf L sx g0 j).Nodup
  | 0 => by simp [xbf]
  | j + 1 => by
    show (match (xbf L sx g0 j)[j]? with | some s => cu' (xbf L sx g0 j) (nxG L sx s) | none => xbf L sx g0 j).Nodup
    split
    . exact f7' (jY' j)
    . exact jY' j
theorem sj' {g : γ} {z : Tx} {c : Nat} : vL' sx g (z ++ [c]) = sx (vL' sx g z) c := by unfold vL'; rw [List.foldl_append]; rfl
theorem d0' : ∀ j : Nat, ∀ g ∈ xbf L sx g0 j, Rch L sx g0 g
  | 0, g, h => by
    have : g = g0 := by simpa [xbf] using h
    exact ⟨[], nofun, this⟩
  | j + 1, g, h => by
    have h : g ∈ (match (xbf L sx g0 j)[j]? with | some s => cu' (xbf L sx g0 j) (nxG L sx s) | none => xbf L sx g0 j) := h
    split at h
    . rename_i s e
      rcases cf'.mp h with q | q
      . exact d0' j g q
      . obtain ⟨c, hc, rfl⟩ := List.mem_map.mp q
        obtain ⟨z, hz, rfl⟩ := d0' j s (List.mem_of_getElem? e)
        exact ⟨z ++ [c], fun d hd => (List.mem_append.mp hd).elim (hz d) (fun q => List.mem_singleton.mp q ▸ hc), sj'.symm⟩
    . exact d0' j g h
theorem g3' {j : Nat} (h : (xbf L sx g0 j).length <= j) : ∀ {i : Nat}, j <= i -> xbf L sx g0 i = xbf L sx g0 j := by
  intro i hi
  induction hi with
  | refl => rfl
  | @step i hi ih =>
    show (match (xbf L sx g0 i)[i]? with | some s => cu' (xbf L sx g0 i) (nxG L sx s) | none => xbf L sx g0 i) = _
    have : (xbf L sx g0 i)[i]? = none := by rw [ih]; exact List.getElem?_eq_none (Nat.le_trans h hi)
    rw [this, ih]
theorem uW' {j : Nat} {g : γ} (h : (xbf L sx g0 j)[j]? = some g) : xbf L sx g0 (j + 1) = cu' (xbf L sx g0 j) (nxG L sx g) := by
  show (match (xbf L sx g0 j)[j]? with | some s => cu' (xbf L sx g0 j) (nxG L sx s) | none => xbf L sx g0 j) = _
  rw [h]
variable {N : Nat}
theorem Few.len (h : Few L sx g0 N) (j : Nat) : (xbf L sx g0 j).length <= N := h _ (jY' j) (d0' j)
theorem Few.all (h : Few L sx g0 N) {j : Nat} (hj : (xbf L sx g0 j).length <= j) : xbf L sx g0 j = hn' L sx g0 N := by
  by_cases q : j <= N
  . exact (g3' hj q).symm
  . exact g3' (h.len _) (by omega)
theorem Few.pre (h : Few L sx g0 N) (j : Nat) : xbf L sx g0 j <+: hn' L sx g0 N := by
  by_cases q : j <= N
  . exact mU' q
  . have : xbf L sx g0 j = hn' L sx g0 N := g3' (h.len _) (by omega)
    rw [this]
    exact List.prefix_refl _
theorem Few.get (h : Few L sx g0 N) {j : Nat} {g : γ} (e : (hn' L sx g0 N)[j]? = some g) : (xbf L sx g0 j)[j]? = some g := by
  have h1 : j < (xbf L sx g0 j).length := by
    rcases Nat.lt_or_ge j (xbf L sx g0 j).length with q | q
    . exact q
    . have := h.all q
      rw [<- this] at e
      have := (List.getElem?_eq_some_iff.mp e).1
      omega
  obtain ⟨G, eG⟩ := h.pre j
  rw [<- eG, List.getElem?_append_left h1] at e
  exact e
theorem Few.nd : (hn' L sx g0 N).Nodup := jY' N
theorem Few.zero (h : Few L sx g0 N) : (hn' L sx g0 N)[0]? = some g0 := by
  obtain ⟨G, e⟩ := h.pre 0
  rw [<- e]
  rfl
theorem Few.closed (h : Few L sx g0 N) {g : γ} (hg : g ∈ hn' L sx g0 N) {c : Nat} (hc : c ∈ L) : sx g c ∈ hn' L sx g0 N := by
  obtain ⟨j, hj, e⟩ := List.getElem_of_mem hg
  have e1 : (hn' L sx g0 N)[j]? = some g := by rw [List.getElem?_eq_getElem hj, e]
  have := uW' (h.get e1)
  exact (h.pre (j + 1)).subset (by rw [this]; exact cf'.mpr (.inr (List.mem_map.mpr ⟨c, hc, rfl⟩)))
theorem Few.mono {N' : Nat} (h : Few L sx g0 N) (hn : N <= N') : Few L sx g0 N' := fun l a b => Nat.le_trans (h l a b) hn
theorem Af' {F : List γ} {g : γ} (h : g ∈ F) : ixo F g < F.length := List.idxOf_lt_length_iff.mpr h
theorem xt' {F : List γ} {g : γ} (h : g ∈ F) : F[ixo F g]? = some g := by
  unfold ixo
  rw [List.getElem?_eq_getElem (List.idxOf_lt_length_iff.mpr h), List.getElem_idxOf]
theorem Few.tab (h : Few L sx g0 N) : a4' (uV' L sx (hn' L sx g0 N)) (uV' L sx (hn' L sx g0 N)).length L.length := by
  refine ⟨rfl, fun r hr => ?_⟩
  obtain ⟨g, hg, rfl⟩ := List.mem_map.mp hr
  refine ⟨by simp [BD'], fun t ht => ?_⟩
  obtain ⟨c, hc, rfl⟩ := List.mem_map.mp ht
  rw [show (uV' L sx (hn' L sx g0 N)).length = (hn' L sx g0 N).length by simp [uV']]
  exact Af' (h.closed hg hc)
theorem Few.ne (h : Few L sx g0 N) : 1 <= (hn' L sx g0 N).length := by
  have := (List.getElem?_eq_some_iff.mp h.zero).1
  omega
theorem Few.run (h : Few L sx g0 N) : ∀ (z : Tx) (s : Nat) (g : γ), (∀ c ∈ z, c ∈ L) -> (hn' L sx g0 N)[s]? = some g -> (hn' L sx g0 N)[M.run L (uV' L sx (hn' L sx g0 N)) s z]? = some (vL' sx g z)
  | [], s, g, _, e => e
  | c :: z, s, g, hz, e => by
    have hc := hz c (by simp)
    have hg := List.mem_of_getElem? e
    rw [ex']
    have e1 : stp L (uV' L sx (hn' L sx g0 N)) s c = ixo (hn' L sx g0 N) (sx g c) := by
      unfold stp uV'
      rw [List.getElem?_map, e]
      show ((BD' L sx (hn' L sx g0 N) g)[L.idxOf c]?).getD 0 = _
      unfold BD'
      rw [List.getElem?_map, List.getElem?_eq_getElem (List.idxOf_lt_length_iff.mpr hc), List.getElem_idxOf]
      rfl
    rw [e1]
    exact Few.run h z _ (sx g c) (fun d hd => hz d (by simp [hd])) (xt' (h.closed hg hc))
theorem Few.says (h : Few L sx g0 N) (p : γ -> Bool) {z : Tx} (hz : ∀ c ∈ z, c ∈ L) : M.run L (uV' L sx (hn' L sx g0 N)) 0 z ∈ D1' (hn' L sx g0 N) p ↔ p (vL' sx g0 z) = true := by
  have e := h.run z 0 g0 hz h.zero
  have hl := (List.getElem?_eq_some_iff.mp e).1
  unfold D1'
  rw [List.mem_filter, e]
  simp only [List.mem_range, Option.map_some, Option.getD_some]
  exact ⟨fun q => q.2, fun q => ⟨hl, q⟩⟩
def i4' (e : γ -> D) (F : List γ) : O := dX e (F.map fun a => (a, .int (ixo F a : Nat)))
theorem wX' {e : γ -> D} (he : KeyE e) {F : List γ} {k : γ} (h : k ∉ F) (hl : F.length < 16777216) : eX' (i4' e F) (e k) (.fz (.int (F.length : Nat))) = some (i4' e (F ++ [k])) := by
  have hk : (F.map fun a => (a, D.int (ixo F a : Nat))).lookup k = none := by rw [ga', if_neg h]
  have := lZ' he hk (by rw [List.length_map]; exact hl) (.int (F.length : Nat))
  unfold i4'
  rw [this, List.map_append]
  congr 3
  . refine List.map_congr_left fun a ha => ?_
    rw [mc' ⟨[k], rfl⟩ ha]
  . rw [List.map_cons, List.map_nil, md' h]
theorem on' (e : γ -> D) (F : List γ) {P : D -> Prop} : wD (pf' (i4' e F)) P = P (.int F.length) := by
  unfold i4'
  rw [vZ', List.length_map]
theorem f9' (v : γ -> D) (G : List γ) (k : γ) : (G.map fun a => (a, v a)).lookup k = if k ∈ G then some (v k) else none := by
  induction G with
  | nil => rfl
  | cons a l ih =>
    rw [List.map_cons, List.lookup_cons, ih]
    by_cases q : k = a
    . subst q; simp
    . have : (k == a) = false := by simpa using q
      simp [this, q]
def vr' (e : γ -> D) (F : List γ) : O := dX e (F.map fun a => (a, .bl true))
theorem zn' {e : γ -> D} (he : KeyE e) {F : List γ} {k : γ} (h : k ∈ F) : cF' (vr' e F) (e k) = some (some (.fz (.bl true))) := by
  have := h5' he (F.map fun a => (a, D.bl true)) k
  rw [f9' (fun _ => D.bl true), if_pos h] at this
  exact this
theorem wI' {e : γ -> D} (he : KeyE e) {F : List γ} {k : γ} (h : k ∉ F) : cF' (vr' e F) (e k) = some none := by
  have := h5' he (F.map fun a => (a, D.bl true)) k
  rw [f9' (fun _ => D.bl true), if_neg h] at this
  exact this
theorem wH' {e : γ -> D} (he : KeyE e) {F : List γ} {k : γ} (h : k ∉ F) (hl : F.length < 16777216) : eX' (vr' e F) (e k) (.fz (.bl true)) = some (vr' e (F ++ [k])) := by
  have hk : (F.map fun a => (a, D.bl true)).lookup k = none := by rw [f9' (fun _ => D.bl true), if_neg h]
  have := lZ' he hk (by rw [List.length_map]; exact hl) (.bl true)
  unfold vr'
  rw [this, List.map_append]
  rfl
theorem Aw' (G : List γ) {N : Nat} (hN : G.length <= N) (h : ∀ g, Rch L sx g0 g -> g ∈ G) : Few L sx g0 N := fun l hn hl =>
  Nat.le_trans (List.Nodup.length_le_of_subset hn fun g hg => h g (hl g hg)) hN
end
theorem rA' {L : Tx} {T : List (List Nat)} (hT : a4' T T.length L.length) (hL : L.Nodup) {q i : Nat} (hq : q < T.length) (hi : i < L.length) : T[q]? = some (aH' T q) /\ (aH' T q)[i]? = some (stp L T q L[i]) /\ stp L T q L[i] < T.length := by
  have h1 := dh' hT hq
  have h2 := cd' hT hq
  have h3 : i < (aH' T q).length := by omega
  have e : stp L T q L[i] = (aH' T q)[i] := by rw [lK' hL hi, List.getElem?_eq_getElem h3]; rfl
  refine ⟨h1, by rw [e, List.getElem?_eq_getElem h3], ?_⟩
  rw [e]
  exact kw' hT (List.getElem_mem h3)
end M
namespace M
theorem rf' {c : Nat} : ∀ {a : Tx}, c ∉ a -> fK' c a = [a]
  | [], _ => rfl
  | x :: r, h => by
    have h1 : x ≠ c := fun e => h (by simp [e])
    rw [fK', if_neg h1, rf' fun q => h (List.mem_cons_of_mem _ q)]
theorem nZ' {c : Nat} : ∀ {a : Tx} (b : Tx), c ∉ a -> fK' c (a ++ (c :: b)) = a :: fK' c b
  | [], b, _ => by
    rw [List.nil_append, fK', if_pos rfl]
  | x :: r, b, h => by
    have h1 : x ≠ c := fun e => h (by simp [e])
    rw [List.cons_append, fK', if_neg h1, nZ' b fun q => h (List.mem_cons_of_mem _ q)]
theorem hC' {c : Nat} : ∀ {l : List Tx}, l ≠ [] -> (∀ a ∈ l, c ∉ a) -> fK' c (cg' [c] l) = l
  | [], h, _ => absurd rfl h
  | [a], _, h => rf' (h a (by simp))
  | a :: b :: r, _, h => by
    show fK' c (a ++ ([c] ++ cg' [c] (b :: r))) = _
    rw [List.singleton_append, nZ' _ (h a (by simp)), hC' (by simp) fun x hx => h x (by simp [hx])]
theorem oJ' {n d : Nat} (h : d ∈ c9' n) : 48 <= d /\ d <= 57 := by
  obtain ⟨e, he, rfl⟩ := List.mem_map.mp h
  have := Nat.isDigit_of_mem_toDigits (by decide) (by decide) he
  simp only [Char.isDigit, Bool.and_eq_true, decide_eq_true_eq] at this
  have h1 : 48 <= e.toNat := this.1
  have h2 : e.toNat <= 57 := this.2
  exact ⟨h1, h2⟩
def D2' (s : Tx) : Nat := s.foldl (fun v d => 10 * v + (d - 48)) 0
theorem pW' : ∀ n : Nat, D2' (c9' n) = n := by
  intro n
  induction n using Nat.strongRecOn with
  | ind n ih =>
    unfold c9'
    by_cases h : n < 10
    . rw [Nat.toDigits_of_lt_base h]
      show 10 * 0 + (n.digitChar.toNat - 48) = n
      rw [Nat.toNat_digitChar_sub_48_of_lt_ten h]; omega
    . rw [Nat.toDigits_of_base_le (by decide) (by omega), List.map_append, List.map_cons, List.map_nil]
      have e := ih (n / 10) (by omega)
      unfold D2' at e ⊢
      unfold c9' at e
      rw [List.foldl_append, e]
      show 10 * (n / 10) + ((n % 10).digitChar.toNat - 48) = n
      rw [Nat.toNat_digitChar_sub_48_of_lt_ten (by omega)]; omega
theorem oI' {m n : Nat} (h : c9' m = c9' n) : m = n := by rw [<- pW' m, <- pW' n, h]
theorem fA' {n k : Nat} (hk : 0 < k) (h : n < 10 ^ k) : (c9' n).length <= k := by
  unfold c9'
  rw [List.length_map]
  exact (Nat.length_toDigits_le_iff (by decide) hk).mpr h
def dS (l : List (Tx × D)) : O := .dct (l.map fun p => .str p.1) (l.map fun p => .fz p.2)
theorem sI' (a b : Tx) : eqb (.str a) (.str b) = decide (a = b) := by
  show (a == b) = _
  rw [Bool.eq_iff_iff]; simp
def lkD {γ δ : Type} [DecidableEq γ] (l : List (γ × δ)) (k : γ) : Option δ := l.lookup k
theorem vI' {α γ δ : Type} [DecidableEq γ] (f : α -> γ) (g : α -> δ) {a : α} : ∀ {l : List α}, a ∈ l -> (∀ b ∈ l, f b = f a -> b = a) -> lkD (l.map fun a => (f a, g a)) (f a) = some (g a)
  | [], h, _ => nomatch h
  | b :: r, h, inj => by
    unfold lkD
    rw [List.map_cons, List.lookup_cons]
    by_cases q : f a = f b
    . have e := inj b (by simp) q.symm
      subst e
      simp
    . have e : (f a == f b) = false := by simpa using q
      rw [e]
      refine vI' f g ?_ fun c hc => inj c (by simp [hc])
      rcases List.mem_cons.mp h with rfl | h
      . exact absurd rfl q
      . exact h
theorem xo' (l : List (Tx × D)) (k : Tx) : cF' (dS l) (.str k) = some ((lkD l k).map .fz) := by
  show (if isK (.str k) = true then some (dget (l.map fun p => D.str p.1) (l.map fun p => O.fz p.2) (.str k)) else none) = _
  rw [if_pos (show isK (.str k) = true from rfl)]
  rw [dk' (fun n : Tx => D.str n) sI' (fun d => O.fz d) k l]
  rfl
theorem pq' {γ : Type} (kf : γ -> Tx) (v : γ -> D) (cs : List γ) : O.dct (cs.map fun c => .str (kf c)) ((cs.map v).map .fz) = dS (cs.map fun c => (kf c, v c)) := by
  unfold dS
  simp only [List.map_map]
  rfl
theorem xR' {own : List Nat} {g : MG} {t : MT} {ek ev : ME} {γ : Type} {f : γ -> D} {cs : List γ} {Q : List D × List D -> PSt -> Prop} {X : Exc -> PSt -> Prop} {env : List (Option O)} {w : W} (kf : γ -> Tx) (v : γ -> D) (hl : cs.length <= 16777216) (hn : (cs.map kf).Nodup)
    (step : ∀ c ∈ cs, wD (g (f c) ⟨az' own env, w⟩) fun ρ1 => wE (t ρ1) (fun k ρ2 => k = true /\ wE (ek ρ2) (fun y ρ3 => y = .str (kf c) /\ wE (ev ρ3) (fun z ρ4 => z = v c /\ ρ4.w = w /\ az' own ρ4.env = az' own env) PX) PX) PX)
    (hend : ∀ env2, az' own env2 = az' own env -> Q (cs.map (fun c => .str (kf c)), cs.map v) ⟨env2, w⟩) : wE (dcL own g t ek ev (cs.map f) [] [] ⟨env, w⟩) Q X := by
  have go : ∀ (post pre : List γ) (env1 : List (Option O)), cs = pre ++ post -> az' own env1 = az' own env →
      vE (dcL own g t ek ev (post.map f) (pre.map fun c => .str (kf c)) (pre.map v) ⟨env1, w⟩) Q X := by
    intro post
    induction post with
    | nil =>
      intro pre env1 e he
      rw [List.append_nil] at e
      subst e
      exact hend env1 he
    | cons c post ih =>
      intro pre env1 e he
      have s := step c (by rw [e]; simp)
      rw [au'] at s
      show vE (match g (f c) ⟨az' own env1, w⟩ with | none => Res.bad | some ρ1 => _) Q X
      rw [he]
      cases hg : g (f c) ⟨az' own env, w⟩ with
      | none => rw [hg] at s; exact s
      | some ρ1 =>
        rw [hg] at s
        have s : wE (t ρ1) _ PX := s
        rw [cB'] at s
        dsimp only
        cases ht : t ρ1 with
        | bad => rw [ht] at s; exact s
        | exc x q => rw [ht] at s; exact s.elim
        | ok k ρ2 =>
          rw [ht] at s
          obtain ⟨ek1, s2⟩ := (show k = true /\ wE (ek ρ2) _ PX from s)
          subst ek1
          rw [cB'] at s2
          show vE ((noX (ek ρ2)).bind _) Q X
          cases hk : ek ρ2 with
          | bad => rw [hk] at s2; exact s2
          | exc x q => rw [hk] at s2; exact s2.elim
          | ok y ρ3 =>
            rw [hk] at s2
            obtain ⟨ey, s3⟩ := (show y = .str (kf c) /\ wE (ev ρ3) _ PX from s2)
            subst ey
            rw [cB'] at s3
            show vE ((noX (ev ρ3)).bind _) Q X
            cases hv : ev ρ3 with
            | bad => rw [hv] at s3; exact s3
            | exc x q => rw [hv] at s3; exact s3.elim
            | ok z ρ4 =>
              rw [hv] at s3
              obtain ⟨ez, hw, he2⟩ := (show z = v c /\ ρ4.w = w /\ az' own ρ4.env = az' own env from s3)
              subst ez
              obtain ⟨env4, w4⟩ := ρ4
              simp only at hw he2
              subst hw
              show vE (if isK (.str (kf c)) = true /\ (pre.map fun c => D.str (kf c)).length < do' then _ else _) Q X
              have hlen : pre.length < do' := by
                have : cs.length = pre.length + (post.length + 1) := by rw [e]; simp
                unfold do'; omega
              rw [if_pos ⟨rfl, by rw [List.length_map]; exact hlen⟩]
              have hnone : gY' (pre.map fun c => D.str (kf c)) (.str (kf c)) = none := by
                have h1 : ((pre.map fun c => (kf c, ())).map fun p => D.str p.1) = pre.map fun c => D.str (kf c) := by rw [List.map_map]; rfl
                rw [<- h1]
                refine fx' (fun n : Tx => D.str n) sI' (kf c) _ (c1' _ _ ?_)
                rw [List.map_map]
                intro hm
                rw [e, List.map_append, List.map_cons] at hn
                have := (List.nodup_append.mp hn).2.2 (kf c) (by simpa using hm) (kf c) (by simp)
                exact this rfl
              unfold l0'
              rw [hnone]
              simp only
              rw [if_pos (by rw [List.length_map]; exact hlen)]
              have r := ih (pre ++ [c]) env4 (by rw [e]; simp) he2
              simpa using r
  rw [cB']
  exact go cs [] env rfl rfl
def c2' (word : Tx) (ns : List Nat) : Tx := cg' [32] (word :: ns.map c9')
def wy' : Tx := [108, 101, 116, 116, 101, 114, 115, 32]
def pH' : Tx := [115, 116, 97, 116, 101]
def tv' : Tx := [97, 99, 99, 101, 112, 116, 115]
def bG' (L : Tx) (T : List (List Nat)) (A : List Nat) : List Tx := (wy' ++ L) :: (T.map (c2' pH') ++ [c2' tv' A])
def lI' (L : Tx) (T : List (List Nat)) (A : List Nat) : Tx := cg' [10] (bG' L T A)
theorem kR' {c d : Nat} : ∀ {l : List Tx}, d ∈ cg' [c] l -> d = c \/ ∃ a ∈ l, d ∈ a
  | [], h => by simp [cg'] at h
  | [a], h => .inr ⟨a, by simp, h⟩
  | a :: b :: r, h => by
    have h : d ∈ a ++ ([c] ++ cg' [c] (b :: r)) := h
    rcases List.mem_append.mp h with q | q
    . exact .inr ⟨a, by simp, q⟩
    . rcases List.mem_append.mp q with q | q
      . exact .inl (List.mem_singleton.mp q)
      . rcases kR' q with q | ⟨x, hx, q⟩
        . exact .inl q
        . exact .inr ⟨x, by simp [hx], q⟩
theorem se' {word : Tx} {ns : List Nat} (h : 10 ∉ word) : 10 ∉ c2' word ns := fun q => by
  rcases kR' q with q | ⟨a, ha, z⟩
  . exact absurd q (by decide)
  . rcases List.mem_cons.mp ha with e | ha
    . exact h (e ▸ z)
    . obtain ⟨n, _, e⟩ := List.mem_map.mp ha
      have := oJ' (e ▸ z)
      omega
theorem pe' {word : Tx} {ns : List Nat} (h : 32 ∉ word) : fK' 32 (c2' word ns) = word :: ns.map c9' :=
  hC' (by simp) fun a ha => by
    rcases List.mem_cons.mp ha with rfl | ha
    . exact h
    . obtain ⟨n, _, rfl⟩ := List.mem_map.mp ha
      exact fun q => by have := oJ' q; omega
theorem o2' {L : Tx} {T : List (List Nat)} {A : List Nat} (h : ∀ c ∈ L, 97 <= c) : fK' 10 (lI' L T A) = bG' L T A :=
  hC' (by simp [bG']) fun a ha => by
    rcases List.mem_cons.mp ha with rfl | ha
    . intro q
      rcases List.mem_append.mp q with q | q
      . exact absurd q (by decide)
      . have := h _ q; omega
    . rcases List.mem_append.mp ha with ha | ha
      . obtain ⟨r, _, rfl⟩ := List.mem_map.mp ha
        exact se' (by decide)
      . rw [List.mem_singleton.mp ha]
        exact se' (by decide)
theorem dz' (c : Nat) : ∀ l : List Tx, (cg' [c] l).length <= (l.map List.length).sum + l.length
  | [] => by simp [cg']
  | [a] => by simp [cg']
  | a :: b :: r => by
    have ih := dz' c (b :: r)
    show (a ++ ([c] ++ cg' [c] (b :: r))).length <= _
    rw [List.length_append, List.length_append, List.length_singleton, List.map_cons, List.sum_cons, List.length_cons]
    omega
theorem ko' {l : List Tx} {k : Nat} (h : ∀ a ∈ l, a.length <= k) : (l.map List.length).sum <= l.length * k := by
  induction l with
  | nil => simp
  | cons a l ih =>
    rw [List.map_cons, List.sum_cons, List.length_cons, Nat.succ_mul]
    have h1 := h a (by simp)
    have h2 := ih fun b hb => h b (by simp [hb])
    omega
theorem ft' {word : Tx} {ns : List Nat} (h : word.length <= 10) (hn : ∀ n ∈ ns, n < 1000) : (c2' word ns).length <= (ns.length + 1) * 11 := by
  have h1 := dz' 32 (word :: ns.map c9')
  have h2 := ko' (l := word :: ns.map c9') (k := 10) fun a ha => by
    rcases List.mem_cons.mp ha with rfl | ha
    . exact h
    . obtain ⟨n, hm, rfl⟩ := List.mem_map.mp ha
      have := fA' (n := n) (k := 3) (by decide) (hn n hm)
      omega
  simp only [List.length_cons, List.length_map] at h1 h2
  unfold c2'
  omega
end M
namespace M
def wlt (x y : Tx) : Prop := x.length < y.length \/ (x.length = y.length /\ x < y)
def wle (x y : Tx) : Prop := x = y \/ wlt x y
section
variable {γ : Type} [DecidableEq γ] (sx : γ -> Nat -> γ)
def EI' (p : γ × Tx) (F : List (γ × Tx)) (c : Nat) : List (γ × Tx) := if sx p.1 c ∈ F.map (·.1) then F else F ++ [(sx p.1 c, p.2 ++ [c])]
variable (L : Tx) (g0 : γ)
def xw : Nat -> List (γ × Tx)
  | 0 => [(g0, [])]
  | j + 1 => match (xw j)[j]? with
    | some p => L.foldl (EI' sx p) (xw j)
    | none => xw j
variable {sx L g0}
structure XwOk (sx : γ -> Nat -> γ) (L : Tx) (g0 : γ) (j : Nat) : Prop where
  asc : (xw sx L g0 j).Pairwise (fun a b => wlt a.2 b.2)
  led : ∀ q ∈ xw sx L g0 j, (∀ c ∈ q.2, c ∈ L) /\ q.1 = vL' sx g0 q.2
  old : ∀ (i : Nat) (q : γ × Tx), (xw sx L g0 j)[i]? = some q -> q.2 = [] \/ ∃ (k : Nat) (r : γ × Tx) (c : Nat), k < j /\ (xw sx L g0 j)[k]? = some r /\ q.2 = r.2 ++ [c]
  small : ∀ (k : Nat) (r : γ × Tx), k < j -> (xw sx L g0 j)[k]? = some r -> ∀ c ∈ L, ∃ q ∈ xw sx L g0 j, q.1 = sx r.1 c /\ wle q.2 (r.2 ++ [c])
end
end M
namespace M
section
variable {X : Exc -> PSt -> Prop} {ρ : PSt}
end
end M
namespace M
section
variable {α : Type} (mul : α -> α -> α) (one : α) (S : α -> Prop)
structure Mon (l : List α) : Prop where
  cl : ∀ {a b}, S a -> S b -> S (mul a b)
  as : ∀ {a b c}, S a -> S b -> S c -> mul (mul a b) c = mul a (mul b c)
  o : S one
  l1 : ∀ {a}, S a -> mul one a = a
  r1 : ∀ {a}, S a -> mul a one = a
  fin : ∀ a, S a -> a ∈ l
def pw (a : α) : Nat -> α
  | 0 => a
  | n + 1 => mul (pw a n) a
def Idm (e : α) : Prop := mul e e = e
def Om (a e : α) : Prop := ∃ n, e = pw mul a n /\ Idm mul e
def Ker (d : α) : Prop := S d /\ ∀ y, S y -> ∃ u v, S u /\ S v /\ d = mul u (mul y v)
end
section
variable {α : Type} {mul : α -> α -> α} {one : α} {S : α -> Prop} {l : List α}
theorem Mon.pw (h : Mon mul one S l) {a : α} (ha : S a) : ∀ n, S (M.pw mul a n)
  | 0 => ha
  | n + 1 => h.cl (h.pw ha n) ha
theorem Mon.pw_add (h : Mon mul one S l) {a : α} (ha : S a) (m : Nat) : ∀ n, mul (M.pw mul a m) (M.pw mul a n) = M.pw mul a (m + n + 1)
  | 0 => rfl
  | n + 1 => by
    show mul (M.pw mul a m) (mul (M.pw mul a n) a) = mul (M.pw mul a (m + n + 1)) a
    rw [<- h.as (h.pw ha m) (h.pw ha n) ha, h.pw_add ha m n]
theorem Mon.pw_comm (h : Mon mul one S l) {a : α} (ha : S a) (m n : Nat) : mul (M.pw mul a m) (M.pw mul a n) = mul (M.pw mul a n) (M.pw mul a m) := by
  rw [h.pw_add ha, h.pw_add ha, Nat.add_comm m n]
theorem Mon.om_ex (h : Mon mul one S l) {a : α} (ha : S a) : ∃ n, n <= l.length * (l.length + 1) /\ Idm mul (M.pw mul a n) := by
  have hnd : ¬ ((List.range (l.length + 1)).map (M.pw mul a)).Nodup := fun hn => by
    have := List.Nodup.length_le_of_subset hn (l₂ := l) fun x hx => by
      obtain ⟨n, _, rfl⟩ := List.mem_map.1 hx
      exact h.fin _ (h.pw ha n)
    simp at this
    omega
  obtain ⟨i, j, hij, hj, e⟩ : ∃ i j, i < j /\ j <= l.length /\ M.pw mul a i = M.pw mul a j := by
    refine Classical.byContradiction fun hc => hnd ?_
    rw [List.nodup_iff_pairwise_ne, List.pairwise_map]
    refine List.Pairwise.imp_of_mem ?_ List.pairwise_lt_range
    intro a b ha hb hab e
    exact hc ⟨a, b, hab, by have := List.mem_range.1 hb; omega, e⟩
  have per : ∀ k, M.pw mul a (i + k + (j - i)) = M.pw mul a (i + k) := by
    intro k
    cases k with
    | zero => rw [Nat.add_zero, show i + (j - i) = j by omega, e]
    | succ k =>
      have e1 := h.pw_add ha i k
      have e2 := h.pw_add ha j k
      rw [show i + (k + 1) + (j - i) = j + k + 1 by omega, <- e2, <- e, e1]
      rfl
  have pers : ∀ k m, M.pw mul a (i + k + m * (j - i)) = M.pw mul a (i + k) := by
    intro k m
    induction m with
    | zero => rw [Nat.zero_mul, Nat.add_zero]
    | succ m ih =>
      rw [Nat.add_mul, Nat.one_mul, <- Nat.add_assoc, show i + k + m * (j - i) + (j - i) = i + (k + m * (j - i)) + (j - i) by omega, per, <- Nat.add_assoc, ih]
  have hp : 1 <= j - i := by omega
  have hge : i + 1 <= (i + 1) * (j - i) := Nat.le_mul_of_pos_right _ hp
  have hle : (i + 1) * (j - i) <= (l.length + 1) * l.length := Nat.mul_le_mul (by omega) (by omega)
  refine ⟨(i + 1) * (j - i) - 1, by rw [Nat.mul_comm l.length]; omega, ?_⟩
  show mul _ _ = _
  rw [h.pw_add ha]
  have := pers ((i + 1) * (j - i) - 1 - i) (i + 1)
  rw [show i + ((i + 1) * (j - i) - 1 - i) = (i + 1) * (j - i) - 1 by omega] at this
  rw [<- this]
  congr 1
  omega
theorem Om.s (h : Mon mul one S l) {a e : α} (ha : S a) (o : Om mul a e) : S e := by
  obtain ⟨n, rfl, _⟩ := o
  exact h.pw ha n
theorem Mon.pw_split (h : Mon mul one S l) {a : α} (ha : S a) (n : Nat) : ∃ w, S w /\ M.pw mul a n = mul a w /\ M.pw mul a n = mul w a := by
  cases n with
  | zero => exact ⟨one, h.o, (h.r1 ha).symm, (h.l1 ha).symm⟩
  | succ n =>
    refine ⟨M.pw mul a n, h.pw ha n, ?_, rfl⟩
    have := h.pw_add ha 0 n
    rw [show 0 + n + 1 = n + 1 by omega] at this
    exact this.symm
theorem Ker.mul_l (h : Mon mul one S l) {d a : α} (hd : Ker mul S d) (ha : S a) : Ker mul S (mul a d) := by
  refine ⟨h.cl ha hd.1, fun y hy => ?_⟩
  obtain ⟨u, v, hu, hv, e⟩ := hd.2 y hy
  refine ⟨mul a u, v, h.cl ha hu, hv, ?_⟩
  rw [h.as ha hu (h.cl hy hv), <- e]
theorem Ker.pw (h : Mon mul one S l) {d : α} (hd : Ker mul S d) : ∀ n, Ker mul S (M.pw mul d n)
  | 0 => hd
  | n + 1 => Ker.mul_l h hd (h.pw hd.1 n)
theorem Ker.below (h : Mon mul one S l) {e f : α} (he : Ker mul S e) (ie : Idm mul e) (sf : S f) (jf : Idm mul f) (h1 : mul e f = f) (h2 : mul f e = f) : f = e := by
  have se := he.1
  obtain ⟨u, v, su, sv, eq⟩ := he.2 f sf
  have sfv := h.cl sf sv
  have sb := h.cl sfv se
  have sa := h.cl se (h.cl su sf)
  generalize ha : mul e (mul u f) = a at *
  generalize hb : mul (mul f v) e = b at *
  have ab : mul a b = e := by
    rw [<- ha, <- hb, h.as se (h.cl su sf) (h.cl sfv se), h.as su sf (h.cl sfv se), <- h.as sf sfv se, <- h.as sf sf sv, show mul f f = f from jf, <- h.as su sfv se, <- eq, show mul e e = e from ie]
    exact ie
  have eb : mul e b = b := by rw [<- hb, <- h.as se sfv se, <- h.as se sf sv, h1]
  have fb : mul f b = b := by rw [<- hb, <- h.as sf sfv se, <- h.as sf sf sv, show mul f f = f from jf]
  have ae : mul a e = a := by rw [<- ha, h.as se (h.cl su sf) se, h.as su sf se, h2]
  have key : ∀ n, mul (M.pw mul a n) (M.pw mul b n) = e := by
    intro n
    induction n with
    | zero => exact ab
    | succ n ih =>
      have sn := h.pw sa n
      have sm := h.pw sb n
      show mul (mul (M.pw mul a n) a) (mul (M.pw mul b n) b) = e
      rw [show mul (M.pw mul b n) b = mul b (M.pw mul b n) from h.pw_comm sb n 0, h.as sn sa (h.cl sb sm), <- h.as sa sb sm, ab]
      have : mul e (M.pw mul b n) = M.pw mul b n := by
        obtain ⟨r, sr, r1, -⟩ := h.pw_split sb n
        rw [r1, <- h.as se sb sr, eb]
      rw [this]
      exact ih
  obtain ⟨m, _, hm⟩ := h.om_ex sb
  have k := key m
  have sg := h.pw sb m
  have e1 : mul e (M.pw mul b m) = e := by
    rw [<- k, h.as (h.pw sa m) sg sg, show mul (M.pw mul b m) (M.pw mul b m) = _ from hm]
  obtain ⟨r, sr, r1, -⟩ := h.pw_split sb m
  have e2 : mul e (M.pw mul b m) = M.pw mul b m := by rw [r1, <- h.as se sb sr, eb]
  have e3 : mul f (M.pw mul b m) = M.pw mul b m := by rw [r1, <- h.as sf sb sr, fb]
  rw [<- e2, e1, h2] at e3
  exact e3
theorem tT' (h : Mon mul one S l) {e x : α} (se : S e) (sx : S x) (h1 : mul e x = x) (h2 : mul x e = x) (n : Nat) : mul e (M.pw mul x n) = M.pw mul x n /\ mul (M.pw mul x n) e = M.pw mul x n := by
  obtain ⟨r, sr, r1, r2⟩ := h.pw_split sx n
  exact ⟨by rw [r1, <- h.as se sx sr, h1], by rw [r2, h.as sr sx se, h2]⟩
theorem Ker.om_grp (h : Mon mul one S l) {e a f : α} (he : Ker mul S e) (ie : Idm mul e) (sa : S a) (h1 : mul e a = a) (h2 : mul a e = a) (o : Om mul a f) : f = e := by
  have sf := Om.s h sa o
  obtain ⟨n, rfl, jf⟩ := o
  obtain ⟨f1, f2⟩ := tT' h he.1 sa h1 h2 n
  exact he.below h ie sf jf f1 f2
theorem Ker.inv (h : Mon mul one S l) {e a : α} (he : Ker mul S e) (ie : Idm mul e) (sa : S a) (h1 : mul e a = a) (h2 : mul a e = a) : ∃ b, S b /\ mul e b = b /\ mul b e = b /\ mul a b = e /\ mul b a = e := by
  obtain ⟨n, _, hn⟩ := h.om_ex sa
  have en := he.om_grp h ie sa h1 h2 ⟨n, rfl, hn⟩
  obtain ⟨w, sw, w1, w2⟩ := h.pw_split sa n
  have sew := h.cl (h.cl he.1 sw) he.1
  refine ⟨mul (mul e w) e, sew, ?_, ?_, ?_, ?_⟩
  . rw [<- h.as he.1 (h.cl he.1 sw) he.1, <- h.as he.1 he.1 sw, show mul e e = e from ie]
  . rw [h.as (h.cl he.1 sw) he.1 he.1, show mul e e = e from ie]
  . rw [<- h.as sa (h.cl he.1 sw) he.1, <- h.as sa he.1 sw, h2, <- w1, en]
    exact ie
  . rw [h.as (h.cl he.1 sw) he.1 sa, h1, h.as he.1 sw sa, <- w2, en]
    exact ie
end
end M
namespace M
section
variable {β : Type} [Mul β]
structure FM (one : β) (l : List β) : Prop where
  as : ∀ a b c : β, a * b * c = a * (b * c)
  l1 : ∀ a : β, one * a = a
  r1 : ∀ a : β, a * one = a
  fin : ∀ a : β, a ∈ l
structure Sub (one : β) (S : β -> Prop) : Prop where
  cl : ∀ {a b}, S a -> S b -> S (a * b)
  o : S one
abbrev mu : β -> β -> β := fun a b => a * b
theorem Sub.all {one : β} : Sub one (fun _ => True) := ⟨fun _ _ => trivial, trivial⟩
def oW' (β : Type) [Mul β] : Prop := ∀ x y e f : β, Om mu (x * y) e -> Om mu (y * x) f -> e * (f * e) = e
structure Blk (e a b c d : β) : Prop where
  i : e * e = e
  one : e * (a * (c * e)) = e
  other : e * (b * (d * e)) = e
  both : e * (a * (b * (c * (d * e)))) ≠ e
theorem vC' {e : β} (h : e * e = e) : Om mu e e := ⟨0, rfl, h⟩
structure Un (e a : β) : Prop where
  l : e * a = a
  r : a * e = a
  ex : ∃ b, e * b = b /\ b * e = b /\ a * b = e /\ b * a = e
theorem Un.mul {one : β} {l : List β} (h : FM one l) {e a b : β} (ha : Un e a) (hb : Un e b) : Un e (a * b) := by
  obtain ⟨a', p1, p2, p3, p4⟩ := ha.ex
  obtain ⟨b', q1, q2, q3, q4⟩ := hb.ex
  refine ⟨by rw [<- h.as, ha.l], by rw [h.as, hb.r], b' * a', by rw [<- h.as, q1], by rw [h.as, p2], ?_, ?_⟩
  . rw [h.as, <- h.as b, q3, p1, p3]
  . rw [h.as, <- h.as a', p4, hb.l, q4]
theorem oW'.split {one : β} {l : List β} (h : FM one l) (st : oW' β) {e x y : β} (ie : e * e = e) (hx : Un e (e * (x * e))) (hy : Un e (e * (y * e))) : e * (x * (y * e)) = e * (x * e) * (e * (y * e)) := by
  obtain ⟨p', p1, p2, p3, p4⟩ := hx.ex
  obtain ⟨q', q1, q2, q3, q4⟩ := hy.ex
  have ie' : ∀ z, e * (e * z) = e * z := fun z => by rw [<- h.as, ie]
  have p1' : ∀ z, e * (p' * z) = p' * z := fun z => by rw [<- h.as, p1]
  have p2' : ∀ z, p' * (e * z) = p' * z := fun z => by rw [<- h.as, p2]
  have q1' : ∀ z, e * (q' * z) = q' * z := fun z => by rw [<- h.as, q1]
  have q2' : ∀ z, q' * (e * z) = q' * z := fun z => by rw [<- h.as, q2]
  -- g = p' x, h = y q'
  have a1 : p' * (x * e) = e := by rw [<- p2', p4]
  have a1' : ∀ z, p' * (x * (e * z)) = e * z := fun z => by
    have := congrArg (· * z) a1
    simpa only [h.as] using this
  have a2 : e * (x * p') = e := by
    have := p3
    rw [h.as, h.as, p1] at this
    exact this
  have a2' : ∀ z, e * (x * (p' * z)) = e * z := fun z => by
    have := congrArg (· * z) a2
    simpa only [h.as] using this
  have b1 : e * (y * q') = e := by
    have := q3
    rw [h.as, h.as, q1] at this
    exact this
  have b1' : ∀ z, e * (y * (q' * z)) = e * z := fun z => by
    have := congrArg (· * z) b1
    simpa only [h.as] using this
  have b2 : q' * (y * e) = e := by rw [<- q2', q4]
  have b2' : ∀ z, q' * (y * (e * z)) = e * z := fun z => by
    have := congrArg (· * z) b2
    simpa only [h.as] using this
  -- e, h g
  have gi : (p' * x) * (p' * x) = p' * x := by
    rw [h.as, <- p2', a2', p2']
  have hi : (y * q') * (y * q') = y * q' := by
    rw [h.as]
    have : q' * (y * q') = q' := by
      have := b2' q'
      rw [q1] at this
      exact this
    rw [this]
  have o1 : Om mu (e * ((y * q') * (p' * x))) (p' * x) := by
    have : e * ((y * q') * (p' * x)) = p' * x := by rw [h.as, b1', p1']
    rw [this]; exact vC' gi
  have o2 : Om mu (((y * q') * (p' * x)) * e) (y * q') := by
    have : ((y * q') * (p' * x)) * e = y * q' := by rw [h.as, h.as p', a1, h.as, q2]
    rw [this]; exact vC' hi
  have k := st _ _ _ _ o1 o2
  -- g h g = g
  have k2 : (p' * x) * (y * q') = e := by
    have := congrArg (· * e) k
    simp only [h.as, a1, q2] at this
    simpa only [h.as] using this
  have k2' : p' * (x * (y * q')) = e := by rw [<- h.as]; exact k2
  have f1 : e * (x * e) * (p' * (x * (y * (q' * (e * (y * e)))))) = e * (x * (y * e)) := by
    have : q' * (e * (y * e)) = e := q4
    rw [this, h.as, h.as, p1', a2']
  rw [<- f1]
  have f2 : p' * (x * (y * (q' * (e * (y * e))))) = e * (y * e) := by
    have := congrArg (· * (e * (y * e))) k2'
    simp only [h.as, ie'] at this
    exact this
  rw [f2]
section
variable {one : β} {l : List β} (gen : Nat -> β)
def dd (one : β) : List Nat -> β
  | [] => one
  | c :: z => gen c * dd one z
def DL (one : β) (lot : List Nat) (d : β) : Prop := ∃ z, (∀ c ∈ z, c ∈ lot) /\ d = dd gen one z
def FL (one : β) (lot : List Nat) (d : β) : Prop := ∃ z, (∀ c ∈ z, c ∈ lot) /\ (∀ c ∈ lot, c ∈ z) /\ d = dd gen one z
variable {gen}
theorem sM' (h : FM one l) (x y : List Nat) : dd gen one (x ++ y) = dd gen one x * dd gen one y := by
  induction x with
  | nil => exact (h.l1 _).symm
  | cons c x ih => show gen c * dd gen one (x ++ y) = gen c * dd gen one x * dd gen one y; rw [ih, h.as]
theorem DL.sub (h : FM one l) {lot : List Nat} : Sub one (DL gen one lot) where
  cl := by
    rintro _ _ ⟨x, hx, rfl⟩ ⟨y, hy, rfl⟩
    exact ⟨x ++ y, fun c hc => (List.mem_append.1 hc).elim (hx c) (hy c), (sM' h x y).symm⟩
  o := ⟨[], by simp, rfl⟩
theorem FL.mul (h : FM one l) {lot : List Nat} {a b c : β} (ha : DL gen one lot a) (hb : FL gen one lot b) (hc : DL gen one lot c) : FL gen one lot (a * (b * c)) := by
  obtain ⟨x, x1, rfl⟩ := ha
  obtain ⟨y, y1, y2, rfl⟩ := hb
  obtain ⟨z, z1, rfl⟩ := hc
  refine ⟨x ++ (y ++ z), fun c hc => ?_, fun c hc => ?_, by rw [sM' h, sM' h]⟩
  . simp only [List.mem_append] at hc
    rcases hc with q | q | q
    . exact x1 c q
    . exact y1 c q
    . exact z1 c q
  . simp only [List.mem_append]
    exact .inr (.inl (y2 c hc))
end
end
section
variable {β : Type} [Mul β] {one : β} {l : List β}
end
end M
namespace M
section
local macro_rules | `(tactic| walk_at "s") => `(tactic| simp (disch := first | assumption | omega | decide) only [*, ↓x_C, ↓x_V, ↓Er', ↓Eo', ↓Cb', ↓B1', ↓wf', ↓B2', ↓yP', ↓BZ', ↓B3', ↓Et', ↓Es', ↓Ep', ↓Eq', ↓x_O, ↓En', ↓Em', ↓yQ', ↓yI', ↓wb', ↓B5', ↓yN', ↓B4', ↓B0', ↓B7', ↓yM', ↓yL', yR', ↓Ca', ↓B9', ↓we', ↓wa', ↓tl', ↓wd', ↓BY', ↓B8', ↓yO', AX', ER', DC', Bd', DD', Db', Da', xg', CO', CN', uL', Bn', Bm', uh', w8', sh', uc', ux', C0', C1', yh', yg', uP', Bs', Bu', Bt', xf', CM', CL', zX', xe', rZ', xG', At', wN', tM', tK', tL', ↓wc', AI', ↓Cv', DE', ↓tm', ov', xS', ↓B6', ↓El', ↓yG', ↓yH', ↓BW', ↓Ek', ↓yK', ↓pS', ↓pR', ↓yJ', ↓Eu', ↓BX',
  ↓zt', ↓zu', ↓Cs', ↓Cr', ↓Ew', ↓Cq', ↓Cy', ↓Cx', ↓wR', ↓Cz', ↓Cw', ↓zs', ↓Cu', ↓Ct', ↓wQ', ↓Ck', ↓y4',
  Cf', Cj', Ce', Ci', x6', x1', uB', Dt', Bb', AW', A7', x9', vZ', uo', uJ', uz', uA', uy', Option.map_some, Option.map_none, Option.isSome_some, Option.isSome_none, Bool.bne_true, Bool.bne_false, yq', xB', xA', xD', xz', Ak', xy', xC', x3', AZ', ye', AL', A9', vS', Cd', yT', yS', yU', Ch', y2', y1', y3', wj', yX', Cl', yV', yW', yu', y0', yZ', yY', Cg', bj', lG', wh', gR', wm',
  Bk', Bi', Bj', Bh', yi', C3', Dk', A0', A1', Bf', Dl', De', Df', DH', DF', DI', Di', Dg', Dj', beq_self_eq_true, yb', yd', sO', uC', uD', uE', ur', Dv', Dw', uF', uG', EK', EL', EM', EO', Do', Dp', Dz', DB', Dy', AY', v0', v1', A6', A8', oO', Dr', Du', yc', az', uQ', s0', pi', uk', sq', yp', mV', List.getElem?_map, oT', Ag', C7', C9', C6', C8', v2', uK', AU', AV', sN', ya', xU', C4', Be', yf', oP', uH', xT', Dx', Bc', DP', Dn', Dm', oL', AM', AN', xV', x4', x2', xW', mt', pt', mv', ms', mr', mu', mw', lr', my', lt', lq', lp', ls', lu', mm', pr', mo', ml', mk', mn', mp', jP', lc', jR', jO', cO', jQ', jS', lf', mq', lh', le', ld', lg', li', ll', mx', ln', lk', lj', lm', lo', C2', Bg', DO', AT', oM', AS', Dd', Dc', AH', AK', AG', AJ', DJ', DK', x0', xZ', A4', Bx', EQ', EP', DA', EN', Dq', A3', A5', tI', Ds', Ba', AR', C5', wk', rP', String.reduceEq, reduceIte, wi', List.getElem?_set_self, List.getElem?_set_ne, List.set_set, x7', DL', x8', DN', DM', chD,
  decide_true, decide_false, frz, mh', Bw', tn1, Int.zero_add, Bool.not_false, Bool.not_true, Bool.and_true, Bool.true_and, Bool.and_false, Bool.false_and, Bool.or_true, Bool.true_or, Bool.or_false, Bool.false_or, List.getElem?_cons_zero, List.getElem?_cons_succ, List.set_cons_zero, List.set_cons_succ, List.length_cons, List.length_nil, List.map_cons, List.map_nil, List.cons_append, List.nil_append, List.replicate_succ, List.replicate_zero, List.length_map, List.length_range, List.length_set, Int.toNat_natCast, and_self, or_true, true_or, true_and, and_true, or_self, Int.reduceToNat, Int.toNat_zero, Int.toNat_one, Int.reduceNeg, Int.reducePow, Int.reduceAdd, Int.reduceSub, Int.reduceMul, Int.reduceLT, Int.reduceLE, Nat.reduceAdd, Nat.reduceSub, Nat.reduceLT, Nat.reduceLeDiff])
local macro_rules | `(tactic| walk_at "f0") => `(tactic| (refine zY' ?_ rfl; simp only [List.map_cons, List.map_nil, List.replicate_succ, List.replicate_zero, List.cons_append, List.nil_append, Nat.reduceSub]))
local macro_rules | `(tactic| walk_at "f") => `(tactic| (walk_at "f0"; walk_at "s"))
local macro_rules | `(tactic| walk_at "l") => `(tactic| (intro env2_ he_; simp only [az', List.set_cons_zero, List.set_cons_succ] at he_; rw [he_]; clear he_))
theorem po' {w : W} {n : Nat} {m : Int} (h : eE' w n) (h1 : 0 < m) (h2 : m < 1606938044258990275541962092341162602522202993782792835301376) : wF (f__law_draw [.obj n, .int m] w) (fun o w' => ∃ d, o = .fz (.int d) /\ 0 <= d /\ d < m /\ eE' w' n /\ But n w w') FX := by
  obtain ⟨cells, i, b, s, c, hw, hi⟩ := h
  have hn := bE' hw
  unfold f__law_draw
  walk_at "f0"
  refine wK' (fun ρ => ∃ x w', ρ = ⟨[some (.fz (.obj n)), some (.fz (.int m)), x, none, none], w'⟩ /\ eE' w' n /\ But n w w') ?_ ?_
  . walk_at "s"
    refine cH' (fun hb => ?_) (fun hb => ?_)
    . walk_at "s"
      refine cH' (fun hc => ?_) (fun hc => ?_)
      . walk_at "s"
        refine jM' ?_ fun x _ hx => ?_
        . omega
        walk_at "s"
        refine cH' (fun hc => ?_) (fun hc => ?_)
        . walk_at "s"
          exact ⟨_, _, rfl, ⟨cells, _, _, _, _, List.getElem?_set_self hn, by omega⟩, But.refl.set⟩
        . walk_at "s"
          exact ⟨_, _, rfl, ⟨cells, _, _, _, _, List.getElem?_set_self hn, by omega⟩, But.refl.set⟩
      . walk_at "s"
        exact ⟨_, _, rfl, ⟨cells, _, _, _, _, hw, hi⟩, But.refl⟩
    . walk_at "s"
      exact ⟨_, _, rfl, ⟨cells, _, _, _, _, hw, hi⟩, But.refl⟩
  . rintro ρ1 ⟨x, w1, rfl, ⟨cells1, i1, b1, s1, c1, hw1, hi1⟩, bt⟩
    have hn1 := bE' hw1
    walk_at "s"
    refine cH' (fun hb => ?_) (fun hb => ?_)
    . walk_at "s"
      exact ⟨_, rfl, Int.emod_nonneg _ (by omega), Int.emod_lt_of_pos _ h1, ⟨cells1, _, _, _, _, List.getElem?_set_self hn1, hi1⟩, bt.set⟩
    . walk_at "s"
      exact ⟨_, rfl, Int.emod_nonneg _ (by omega), Int.emod_lt_of_pos _ h1, ⟨cells1, _, _, _, _, List.getElem?_set_self hn1, hi1⟩, bt.set⟩
theorem bJ' {w : W} {n : Nat} {m : Int} (h : eE' w n) (h1 : 0 < m) (h2 : m < 1606938044258990275541962092341162602522202993782792835301376) : wF (f__law_draw [.obj n, .int m] w) (fun o w' => ∃ d : Nat, o = .fz (.int (d : Nat)) /\ (d : Int) < m /\ eE' w' n /\ But n w w') FX := by
  refine (po' h h1 h2).mono ?_
  rintro _ w' ⟨d, rfl, h3, h4, h5, h6⟩
  exact ⟨d.toNat, by rw [Int.toNat_of_nonneg h3], by rw [Int.toNat_of_nonneg h3]; exact h4, h5, h6⟩
theorem sD' {w : W} {ns : List Int} (hl : ns.length <= 63) : wF (f__law_hand [.scr (ns.map .int)] w) (fun o w' => o = .fz (.obj w.length) /\ eE' w' w.length /\ w'.length = w.length + 1 /\ ∀ j, j < w.length -> w'[j]? = w[j]?) FX := by
  unfold f__law_hand
  walk_at "f"
  have e : cut (ns.map D.int) none (some 63) = (ns.take 63).map .int := by
    rw [v2' (by decide), <- List.map_take]
    rfl
  have e2 : ns.take 63 = ns := List.take_of_length_le hl
  rw [e2] at e
  try rw [e]
  try rw [show List.take 63 (List.map D.int ns) = ns.map D.int by rw [<- List.map_take, e2]]
  refine eO' (by omega) (fun pre acc ρ => acc = pre.map (fun i => .int (if i < 0 then -i else i)) /\ ∃ x, ρ = ⟨[some (.fz (.scr (ns.map .int))), none, x], w⟩) ⟨rfl, _, rfl⟩ ?_ ?_
  . rintro pre c post acc _ e ⟨rfl, x, rfl⟩
    walk_at "s"
    exact ⟨by simp, _, rfl⟩
  . rintro acc _ ⟨rfl, x, rfl⟩
    walk_at "s"
    refine ⟨⟨ns.map (fun i => if i < 0 then -i else i), 0, 0, 1 + ns.length, 0, ?_, by decide⟩, by simp, fun j hj => ?_⟩
    . rw [List.getElem?_append_right (Nat.le_refl _), Nat.sub_self]
      rw [List.map_map]
      rfl
    . rw [List.getElem?_append_left hj]
theorem rT' {α : Type} {l f : List α} {d : Nat} {x : α} (h : l[d]? = some x) : ((l.take d ++ l.drop (d + 1)) ++ (f ++ [x])).Perm (l ++ f) := by
  obtain ⟨hd, e⟩ := List.getElem?_eq_some_iff.mp h
  have h1 : l = l.take d ++ x :: l.drop (d + 1) := by rw [<- e, List.getElem_cons_drop, List.take_append_drop]
  generalize l.take d = a at *
  generalize l.drop (d + 1) = b at *
  subst h1
  simp only [List.append_assoc, List.cons_append]
  refine List.Perm.append_left a ?_
  rw [<- List.append_assoc]
  exact List.perm_append_comm
theorem kW' {w : W} {n : Nat} {s : Tx} {m : Nat} (h : eE' w n) (hs : s.length < 1073741) (hm : m <= s.length) : wF (f__law_letters [.obj n, .str s, .int m] w) (fun o w' => ∃ r t : Tx, o = .fz (.str r) /\ r.length = m /\ (t ++ r).Perm s /\ eE' w' n /\ But n w w') FX := by
  unfold f__law_letters
  walk_at "f"
  refine e5' (fun k ρ => ∃ x y, ∃ t r : Tx, ∃ w', ρ = ⟨[some (.fz (.obj n)), some (.fz (.str s)), some (.fz (.int m)), some (.fz (.str t)), some (.fz (.str r)), x, y], w'⟩ /\ r.length = k /\ (t ++ r).Perm s /\ eE' w' n /\ But n w w') ⟨_, _, _, _, _, rfl, rfl, by simp, h, But.refl⟩ ?_ ?_
  . rintro k ρ hk ⟨x, y, t, r, w1, rfl, rfl, hp, hh, hb⟩
    have hl := hp.length_eq
    rw [List.length_append] at hl
    walk_at "s"
    refine (bJ' hh (by omega) (by omega)).mono ?_
    rintro _ w2 ⟨d, rfl, h3, h4, h5⟩
    walk_at "s"
    refine jM' (by omega) fun c _ hc => ?_
    walk_at "s"
    have hl2 : (t.take d).length + (t.drop (d + 1)).length <= 16777216 := by rw [List.length_take, List.length_drop]; omega
    walk_at "s"
    refine ⟨_, _, _, _, _, rfl, by simp, ?_, h4, hb.trans h5⟩
    exact (rT' hc).trans hp
  . rintro ρ ⟨x, y, t, r, w1, rfl, e, hp, hh, hb⟩
    walk_at "s"
    exact ⟨r, t, rfl, e, hp⟩
theorem cV' {n : Nat} {pre post : List Nat} {c : Nat} (e : List.range n = pre ++ c :: post) : c = pre.length /\ pre.length < n := by
  have h1 : (List.range n)[pre.length]? = some c := by rw [e]; simp
  have h2 : pre.length < n := by
    have := congrArg List.length e
    simp at this
    omega
  rw [List.getElem?_range h2] at h1
  exact ⟨(Option.some.inj h1).symm, h2⟩
theorem rh' (s : Tx) : (dY' s).length = s.length := List.length_mergeSort s
theorem iV' (s : Tx) : (dY' s).Perm s := List.mergeSort_perm s _
theorem tD' (s : Tx) : (dY' s).Pairwise (· <= ·) := by
  have := List.pairwise_mergeSort (le := fun a b : Nat => decide (a <= b)) (fun a b c h1 h2 => by simp at *; omega) (fun a b => by simp; omega) s
  exact this.imp (by simp)
theorem tC' {s : Tx} (h : s.Nodup) : (dY' s).Pairwise (· < ·) := by
  have h1 := tD' s
  have h2 : (dY' s).Nodup := (iV' s).nodup_iff.mpr h
  exact (h1.and h2).imp (fun h => by have := h.1; have := h.2; omega)
theorem jj' {α β : Type} (f : α -> D) (g : β -> D) : ∀ (a : List α) (b : List β), dN' (a.map f) (b.map g) = (a.zip b).map fun p => .tup [f p.1, g p.2]
  | [], _ => by simp [dN']
  | _ :: _, [] => by simp [dN']
  | x :: a, y :: b => by simp [dN', jj' f g a b]
theorem ip' : ∀ s : List Nat, s.Pairwise (· < ·) ↔ ∀ p ∈ s.zip (s.drop 1), p.1 < p.2
  | [] => by simp
  | [a] => by simp
  | a :: b :: r => by
    have ih := ip' (b :: r)
    simp only [List.drop_succ_cons, List.drop_zero, List.zip_cons_cons, List.mem_cons, forall_eq_or_imp] at ih ⊢
    rw [List.pairwise_cons, <- ih]
    constructor
    . rintro ⟨h1, h2⟩
      exact ⟨h1 b (by simp), h2⟩
    . rintro ⟨h1, h2⟩
      refine ⟨?_, h2⟩
      rw [List.pairwise_cons] at h2
      intro c hc
      rcases List.mem_cons.mp hc with rfl | hc
      . exact h1
      . exact Nat.lt_trans h1 (h2.1 c hc)
theorem dA' (s S : Tx) (w : W) : wF (f_is_string_of [.str s, .str S] w) (fun o w' => o = .fz (.bl (s.all fun c => decide (c ∈ S))) /\ w' = w) FX := by
  unfold f_is_string_of
  walk_at "f"
  refine bY' (fun pre ρ => ∃ x, ρ = ⟨[some (.fz (.str s)), some (.fz (.str S)), x], w⟩ /\ ∀ c ∈ pre, c ∈ S) ⟨_, rfl, by simp⟩ ?_ ?_
  . rintro pre c post _ e ⟨x, rfl, hp⟩
    walk_at "s"
    refine cH' (fun h => ?_) (fun h => ?_)
    . walk_at "s"
      exact ⟨_, rfl, by simpa [or_imp, forall_and] using ⟨hp, h⟩⟩
    . walk_at "s"
      refine BS' ?_
      rw [List.all_eq_false]
      exact ⟨c, by simp, by simpa using h⟩
  . rintro _ ⟨x, rfl, hp⟩
    walk_at "s"
    refine BR' ?_
    rw [List.all_eq_true]
    exact fun c hc => by simpa using hp c hc
theorem h7' {d : D} (h : ∃ t, tyn d = some t /\ t ≠ "str") (S : Tx) (w : W) : wF (f_is_string_of [d, .str S] w) (fun o w' => o = .fz (.bl false) /\ w' = w) FX := by
  unfold f_is_string_of
  cases d <;> simp [tyn] at h
  all_goals walk_at "f"
theorem gb' (s : Tx) (w : W) : wF (f_is_ascending [.str s] w) (fun o w' => o = .fz (.bl (decide (s.Pairwise (· < ·)))) /\ w' = w) FX := by
  unfold f_is_ascending
  walk_at "f"
  rw [jj']
  refine bY' (fun pre ρ => ∃ x y, ρ = ⟨[some (.fz (.str s)), x, y], w⟩ /\ ∀ p ∈ pre, p.1 < p.2) ⟨_, _, rfl, by simp⟩ ?_ ?_
  . rintro pre c post _ e ⟨x, y, rfl, hp⟩
    walk_at "s"
    refine cH' (fun h => ?_) (fun h => ?_)
    . walk_at "s"
      refine ⟨_, _, rfl, ?_⟩
      have : c.1 < c.2 := by simpa [List.cons_lt_cons_iff] using h
      simp only [List.mem_append, List.mem_singleton]
      rintro p (hq | rfl)
      . exact hp p hq
      . exact this
    . walk_at "s"
      refine BS' ?_
      rw [decide_eq_false_iff_not, ip']
      intro h2
      have := h2 c (by rw [e]; simp)
      exact h (by simpa [List.cons_lt_cons_iff] using this)
  . rintro _ ⟨x, y, rfl, hp⟩
    walk_at "s"
    refine BR' ?_
    rw [decide_eq_true_iff, ip']
    exact hp
theorem eP' (s S : Tx) (w : W) : wF (f_is_choice [.str s, .str S] w) (fun o w' => o = .fz (.bl ((s.all fun c => decide (c ∈ S)) && decide (s.Pairwise (· < ·)))) /\ w' = w) FX := by
  unfold f_is_choice
  walk_at "f"
  refine (dA' s S w).mono ?_
  rintro _ _ ⟨rfl, rfl⟩
  walk_at "s"
  refine wl' (fun h => ?_) (fun h => ?_)
  . walk_at "s"
    refine (gb' s _).mono ?_
    rintro _ _ ⟨rfl, rfl⟩
    walk_at "s"
  . walk_at "s"
theorem ec' (i : Int) (w : W) : wF (f_is_integer [.int i] w) (fun o w' => o = .fz (.bl true) /\ w' = w) FX := by
  unfold f_is_integer
  walk_at "f"
theorem dS' (A : List Nat) (w : W) : wF (f_is_ascending [cK' A] w) (fun o w' => o = .fz (.bl (decide (A.Pairwise (· < ·)))) /\ w' = w) FX := by
  unfold f_is_ascending cK'
  walk_at "f"
  have e0 : (A.map fun a => D.int (a : Nat)).drop 1 = (A.drop 1).map fun a => D.int (a : Nat) := by rw [List.map_drop]
  rw [e0, jj']
  refine bY' (fun pre ρ => ∃ x y, ρ = ⟨[some (.fz (.tup (A.map fun a => .int (a : Nat)))), x, y], w⟩ /\ ∀ p ∈ pre, p.1 < p.2) ⟨_, _, rfl, by simp⟩ ?_ ?_
  . rintro pre c post _ e ⟨x, y, rfl, hp⟩
    walk_at "s"
    refine cH' (fun h => ?_) (fun h => ?_)
    . walk_at "s"
      refine BS' ?_
      rw [decide_eq_false_iff_not, ip']
      intro h2
      have := h2 c (by rw [e]; simp)
      omega
    . walk_at "s"
      refine ⟨_, _, rfl, ?_⟩
      simp only [List.mem_append, List.mem_singleton]
      rintro p (hq | rfl)
      . exact hp p hq
      . omega
  . rintro _ ⟨x, y, rfl, hp⟩
    walk_at "s"
    refine BR' ?_
    rw [decide_eq_true_iff, ip']
    exact hp
theorem er' (A : List Nat) (m : Nat) (w : W) : wF (f_are_states [cK' A, .int m] w) (fun o w' => o = .fz (.bl (A.all fun a => decide (a < m))) /\ w' = w) FX := by
  unfold f_are_states cK'
  walk_at "f"
  refine bY' (fun pre ρ => ∃ x, ρ = ⟨[some (.fz (.tup (A.map fun a => .int (a : Nat)))), some (.fz (.int m)), x], w⟩ /\ ∀ a ∈ pre, a < m) ⟨_, rfl, by simp⟩ ?_ ?_
  . rintro pre c post _ e ⟨x, rfl, hp⟩
    walk_at "s"
    refine (ec' _ _).mono ?_
    rintro _ _ ⟨rfl, rfl⟩
    walk_at "s"
    refine cH' (fun h => ?_) (fun h => ?_)
    . walk_at "s"
      refine BS' ?_
      rw [List.all_eq_false]
      exact ⟨c, by simp, by simp; omega⟩
    . walk_at "s"
      exact ⟨_, rfl, by simpa [or_imp, forall_and] using ⟨hp, by omega⟩⟩
  . rintro _ ⟨x, rfl, hp⟩
    walk_at "s"
    refine BR' ?_
    rw [List.all_eq_true]
    exact fun c hc => by simpa using hp c hc
theorem jH' {T : List (List Nat)} {L : Tx} (h : a4' T T.length L.length) (h1 : 1 <= T.length) (h2 : T.length <= 6) (w : W) : wF (f_is_table [cC' T, .str L] w) (fun o w' => o = .fz (.bl true) /\ w' = w) FX := by
  unfold f_is_table cC'
  walk_at "f"
  refine bY' (fun pre ρ => ∃ x, ρ = ⟨[some (.fz (.tup (T.map dp'))), some (.fz (.str L)), x], w⟩) ⟨_, rfl⟩ ?_ ?_
  . rintro pre c post _ e ⟨x, rfl⟩
    have hc := h.2 c (by rw [e]; simp)
    clear e
    walk_at "s"
    refine (er' c T.length w).mono ?_
    rintro _ _ ⟨rfl, rfl⟩
    have e2 : (c.all fun a => decide (a < T.length)) = true := by rw [List.all_eq_true]; exact fun a ha => by simpa using hc.2 a ha
    have e3 := hc.1
    clear hc
    rw [e2]
    unfold dp'
    walk_at "s"
    exact ⟨_, rfl⟩
  . rintro _ ⟨x, rfl⟩
    walk_at "s"
def eB (b : Bool) : D := .bl b
theorem EH' : KeyE eB := ⟨fun a b => by cases a <;> cases b <;> rfl, fun _ => rfl, fun _ => by show dep (.bl _) <= 8; simp [dep], fun _ _ => rfl⟩
def eK (k : Nat × List Nat) : D := .tup [.int (k.1 : Nat), .tup (k.2.map fun t => .int (t : Nat))]
theorem k8' : ∀ a b : List Nat, eqbs (a.map fun t => .int (t : Nat)) (b.map fun t => .int (t : Nat)) = decide (a = b)
  | [], [] => rfl
  | [], _ :: _ => rfl
  | _ :: _, [] => rfl
  | a :: l, b :: r => by
    simp only [List.map_cons, eqbs, gc', k8' l r]
    rw [Bool.eq_iff_iff]
    simp
theorem CV' : KeyE eK := by
  refine ⟨fun a b => ?_, fun a => ?_, fun a => ?_, fun _ _ => rfl⟩
  . obtain ⟨a1, a2⟩ := a
    obtain ⟨b1, b2⟩ := b
    simp only [eK, eqb, eqbs, k8', Bool.and_true]
    rw [Bool.eq_iff_iff]
    simp
    omega
  . have : ∀ l : List Nat, kats (l.map fun t => .int (t : Nat)) = true := by intro l; induction l <;> simp_all [kats, kat]
    simp [eK, kat, kats, this]
  . have : ∀ l : List Nat, deps (l.map fun t => .int (t : Nat)) <= 1 := by intro l; induction l <;> simp_all [deps, dep]
    have := this a.2
    simp only [eK, dep, deps]
    omega
theorem fs' {γ : Type} [DecidableEq γ] {e : γ -> D} (he : KeyE e) (S : List Nat) (f : Nat -> γ) (hS : S.Nodup) (hl : S.length <= 1000) (w : W) : wF (f_numbered [dNz (S.map fun s => (s, e (f s)))] w) (fun o w' => o = dN (S.map fun s => (s, .int (kN' S f s : Nat))) /\ w' = w) FX := by
  unfold f_numbered
  walk_at "f"
  have pairs : ∀ G : List γ, G.Nodup -> ∀ k : γ, (G.map fun a => (a, D.int (G.idxOf a : Nat))).lookup k = if k ∈ G then some (D.int (G.idxOf k : Nat)) else none := by
    intro G _ k
    have go : ∀ (l : List γ) (h : γ -> D), (l.map fun a => (a, h a)).lookup k = if k ∈ l then some (h k) else none := by
      intro l h
      induction l with
      | nil => rfl
      | cons a l ih =>
        rw [List.map_cons, List.lookup_cons, ih]
        by_cases q : k = a
        . subst q; simp
        . have : (k == a) = false := by simpa using q
          simp [this, q]
    exact go G _
  rw [List.map_map]
  refine bY' (fun pre ρ => ∃ y z, ρ = ⟨[some (.fz (dNz (S.map fun s => (s, e (f s))))), some (dX e ((aK' (pre.map f)).map fun a => (a, .int ((aK' (pre.map f)).idxOf a : Nat)))), some (dN (pre.map fun s => (s, .int ((aK' (S.map f)).idxOf (f s) : Nat)))), y, z], w⟩) ⟨_, _, rfl⟩ ?_ ?_
  . rintro pre s post _ es ⟨y, z, rfl⟩
    rw [List.map_append, List.map_cons, List.map_nil, ce']
    show wD (gT [3, 4] (.tup [.int (s : Nat), e (f s)]) _) _
    -- numbers found once stay
    have keep : (aK' (pre.map f ++ [f s])) <+: aK' (S.map f) := by
      have e2 : aK' (S.map f) = cu' (aK' (pre.map f ++ [f s])) (post.map f) := by
        rw [es, List.map_append, List.map_cons, show pre.map f ++ f s :: post.map f = (pre.map f ++ [f s]) ++ post.map f by simp]
        exact c6'
      rw [e2]
      exact dJ'
    rw [ce'] at keep
    have hnd : (aK' (pre.map f)).Nodup := jF'
    have hlk := pairs _ hnd (f s)
    have hlen : pre.length < 1000 := by
      have := congrArg List.length es
      simp at this
      omega
    have hlen2 : (aK' (pre.map f)).length <= pre.length := by
      have h2 := List.Nodup.length_le_of_subset hnd (l₂ := pre.map f) (fun a ha => a7'.mp ha)
      simpa using h2
    have hfr : ((pre.map fun s => (s, D.int ((aK' (S.map f)).idxOf (f s) : Nat))).lookup s) = none := by
      refine c1' _ _ ?_
      rw [List.map_map]
      intro hm
      rw [es] at hS
      obtain ⟨s', hs', e'⟩ := List.mem_map.mp hm
      have : s' = s := e'
      exact (List.nodup_append.mp hS).2.2 s' hs' s (by simp) this
    have hl3 : (pre.map fun s => (s, D.int ((aK' (S.map f)).idxOf (f s) : Nat))).length < 16777216 := by rw [List.length_map]; omega
    by_cases hm : f s ∈ aK' (pre.map f)
    . rw [if_pos hm] at hlk
      rw [c5' hm] at keep ⊢
      have hx := h5' he ((aK' (pre.map f)).map fun a => (a, D.int ((aK' (pre.map f)).idxOf a : Nat))) (f s)
      rw [hlk] at hx
      have hid : (aK' (S.map f)).idxOf (f s) = (aK' (pre.map f)).idxOf (f s) := by
        obtain ⟨G, eG⟩ := keep
        rw [<- eG, List.idxOf_append, if_pos hm]
      clear es keep
      walk_at "s"
      exact ⟨_, _, by rw [List.map_append, List.map_cons, List.map_nil, hid]⟩
    . rw [if_neg hm] at hlk
      rw [ch' hm] at keep ⊢
      have hx := h5' he ((aK' (pre.map f)).map fun a => (a, D.int ((aK' (pre.map f)).idxOf a : Nat))) (f s)
      rw [hlk] at hx
      have hp := fun d => lZ' he (l := (aK' (pre.map f)).map fun a => (a, D.int ((aK' (pre.map f)).idxOf a : Nat))) (k := f s) hlk (by rw [List.length_map]; omega) d
      have hx2 := fun d => h5' he (((aK' (pre.map f)).map fun a => (a, D.int ((aK' (pre.map f)).idxOf a : Nat))) ++ [(f s, d)]) (f s)
      have hl4 : ∀ d : D, (((aK' (pre.map f)).map fun a => (a, D.int ((aK' (pre.map f)).idxOf a : Nat))) ++ [(f s, d)]).lookup (f s) = some d := by
        intro d
        rw [List.lookup_append, hlk]
        simp
      simp only [hl4] at hx2
      have hid : (aK' (S.map f)).idxOf (f s) = (aK' (pre.map f)).length := by
        obtain ⟨G, eG⟩ := keep
        rw [<- eG, List.idxOf_append, if_pos (by simp), List.idxOf_append, if_neg hm]
        simp
      have hnew : (aK' (pre.map f) ++ [f s]).map (fun a => (a, D.int ((aK' (pre.map f) ++ [f s]).idxOf a : Nat))) = ((aK' (pre.map f)).map fun a => (a, D.int ((aK' (pre.map f)).idxOf a : Nat))) ++ [(f s, D.int ((aK' (pre.map f)).length : Nat))] := by
        rw [List.map_append]
        congr 1
        . refine List.map_congr_left fun a ha => ?_
          rw [List.idxOf_append, if_pos ha]
        . simp [List.idxOf_append, hm]
      rw [hnew]
      clear es keep hnew hl4
      walk_at "s"
      exact ⟨_, _, by rw [List.map_append, List.map_cons, List.map_nil, hid]⟩
  . rintro _ ⟨y, z, rfl⟩
    walk_at "s"
    rfl
theorem r5' : ∀ {l : List Int} {x : Int}, x ∈ l -> x <= ol' l
  | [], _, h => by cases h
  | [y], x, h => by
    rw [List.mem_singleton.mp h]
    show y <= y
    omega
  | y :: z :: r, x, h => by
    show x <= max y (ol' (z :: r))
    rcases List.mem_cons.mp h with rfl | h
    . omega
    . have := r5' h
      omega
theorem oj' : ∀ {l : List Int}, l ≠ [] -> ol' l ∈ l
  | [], h => absurd rfl h
  | [y], _ => by show y ∈ [y]; simp
  | y :: z :: r, _ => by
    show max y (ol' (z :: r)) ∈ _
    have := oj' (l := z :: r) (by simp)
    rcases Int.le_total y (ol' (z :: r)) with h | h
    . rw [Int.max_eq_right h]; exact List.mem_cons_of_mem _ this
    . rw [Int.max_eq_left h]; simp
theorem uf' {S : List Nat} {c : Nat -> Nat} {k : Nat} (h : aK' (S.map c) = List.range k) (hS : S ≠ []) : ol' (S.map fun s => ((c s : Nat) : Int)) = (k : Int) - 1 := by
  have mem : ∀ q, q ∈ S.map c ↔ q < k := fun q => by rw [<- a7', h, List.mem_range]
  obtain ⟨s, hs⟩ := List.exists_mem_of_ne_nil S hS
  have k1 : c s < k := (mem _).mp (List.mem_map.mpr ⟨s, hs, rfl⟩)
  have h1 : ((k : Int) - 1) ∈ S.map fun s => ((c s : Nat) : Int) := by
    obtain ⟨t, ht, e⟩ := List.mem_map.mp ((mem (k - 1)).mpr (by omega))
    exact List.mem_map.mpr ⟨t, ht, by omega⟩
  have h2 := r5' h1
  have h3 := oj' (l := S.map fun s => ((c s : Nat) : Int)) (by simpa using hS)
  obtain ⟨t, ht, e⟩ := List.mem_map.mp h3
  have := (mem (c t)).mp (List.mem_map.mpr ⟨t, ht, rfl⟩)
  have e : ((c t : Nat) : Int) = ol' (S.map fun s => ((c s : Nat) : Int)) := e
  omega
theorem pE' {w : W} {m : Nat} {L : Tx} {T : List (List Nat)} {A S : List Nat} (ht : h9' ["Machine", "RawMachine"] "kept_table" w (.obj m) = some (cC' T)) (ha : h9' ["Machine", "RawMachine"] "kept_accepts" w (.obj m) = some (cK' A))
    (hT : a4' T T.length L.length) (hL : L.Nodup) (hLl : L.length <= 1000) (hn2 : T.length <= 1000) (hS : ∀ s ∈ S, s < T.length) (hcl : ∀ s ∈ S, ∀ t ∈ aH' T s, t ∈ S) (hnd : S.Nodup) (hne : S ≠ []) :
    wF (f_alike_states [.obj m, .lst (S.map fun s => .int (s : Nat))] w) (fun o w' => (∃ c k, Clz L T A S c k /\ (∀ s ∈ S, ∀ t ∈ S, c s = c t -> key T c s = key T c t) /\ o = .fz (dNz (S.map fun s => (s, .int (c s : Nat))))) /\ w' = w) FX := by
  have hlen : S.length <= T.length := iB' hnd hS
  unfold f_alike_states
  walk_at "f"
  refine AF' (fun s : Nat => s) (fun s => eB (decide (s ∈ A))) (by omega) (by simpa using hnd) ?_ ?_
  . intro s hs
    walk_at "s"
    rfl
  walk_at "l"
  walk_at "s"
  rw [pp' (fun s : Nat => s) (fun s => eB (decide (s ∈ A)))]
  refine (fs' EH' S (fun s => decide (s ∈ A)) hnd (by omega) w).mono ?_
  rintro _ _ ⟨rfl, rfl⟩
  walk_at "s"
  rename_i w
  have n0 : S.map (fun s => ((s : Nat) : Int)) ≠ [] := by simpa using hne
  refine hr' (fun mm ρ => ∃ many c k y z z2 o, mm = T.length + 1 - many /\ Clz L T A S c k /\ (many = 0 \/ ∃ c1, Clz L T A S c1 many /\ c = kN' S (key T c1) /\ k = (aK' (S.map (key T c1))).length) ∧
      (o = dN (S.map fun s => (s, .int (c s : Nat))) \/ o = .fz (dNz (S.map fun s => (s, .int (c s : Nat))))) /\ ρ = ⟨[some (.fz (.obj m)), some (.fz (.lst (S.map fun s => .int (s : Nat)))), some o, some (.fz (.int (many : Nat))), y, z, z2], w⟩)
    (T.length + 1) (by show T.length + 1 < 2 ^ 40; omega) ⟨0, _, _, _, _, _, _, rfl, Clz.first, .inl rfl, .inl rfl, rfl⟩ ?_
  rintro mm _ ⟨many, c, k, y, z, z2, o, rfl, hc, hm, ho, rfl⟩
  have hmx := uf' hc.num hne
  have kle : k <= T.length := by
    have h1 := bT' c S
    rw [hc.num, List.length_range, cR' hnd] at h1
    omega
  have hmv : ∀ P : D -> Prop, wD (pa' (dNz (S.map fun s => (s, D.int (c s : Nat))))) P = P (.int ((k : Int) - 1)) := fun P => by
    have := A2' (P := P) (fun s : Nat => s) (fun s : Nat => ((c s : Nat) : Int)) S hne
    rw [hmx] at this
    exact this
  have hlk : ∀ s ∈ S, (S.map fun s => (s, D.int (c s : Nat))).lookup s = some (.int (c s : Nat)) := fun s hs => by rw [cS' (fun s => D.int (c s : Nat)), if_pos hs]
  clear ha
  rcases ho with rfl | rfl
  all_goals
    walk_at "s"
    refine cH' (fun h => ?_) (fun h => ?_)
    . have hpush : (k : Int) - 1 + 1 = ((k : Nat) : Int) := by omega
      walk_at "s"
      refine bY' (fun pre ρ => ∃ y z2, ρ = ⟨[some (.fz (.obj m)), some (.fz (.lst (S.map fun s => .int (s : Nat)))), some (.fz (dNz (S.map fun s => (s, .int (c s : Nat))))), some (.fz (.int (k : Nat))), some (dN (pre.map fun s => (s, eK (key T c s)))), y, z2], w⟩) ⟨_, _, rfl⟩ ?_ ?_
      . rintro pre s post _ e ⟨y, z2, rfl⟩
        have hs : s ∈ S := by rw [e]; simp
        have hl1 := hlk s hs
        have hrow := dh' hT (hS s hs)
        have hfr : (pre.map fun s => (s, eK (key T c s))).lookup s = none := by
          refine c1' _ _ ?_
          rw [List.map_map]
          intro hm
          rw [e] at hnd
          obtain ⟨s', hs', e'⟩ := List.mem_map.mp hm
          have : s' = s := e'
          exact (List.nodup_append.mp hnd).2.2 s' hs' s (by simp) this
        have hl3 : (pre.map fun s => (s, eK (key T c s))).length < 16777216 := by
          have := congrArg List.length e
          rw [List.length_map]
          simp at this
          omega
        clear e
        walk_at "s"
        refine c4' (fun t : Nat => D.int (c t : Nat)) (by have := cd' hT (hS s hs); omega) ?_ ?_
        . intro t htr
          have hl2 := hlk t (hcl s hs t htr)
          walk_at "s"
        walk_at "l"
        walk_at "s"
        exact ⟨_, _, by rw [List.map_append, List.map_cons, List.map_nil]; simp only [eK, key, List.map_map]; rfl⟩
      . rintro _ ⟨y, z2, rfl⟩
        walk_at "s"
        refine (fs' CV' S (key T c) hnd (by omega) w).mono ?_
        rintro _ _ ⟨rfl, rfl⟩
        walk_at "s"
        exact ⟨T.length + 1 - k, by omega, k, kN' S (key T c), _, _, _, _, _, rfl, hc.next hT hL hS hcl, .inr ⟨c, hc, rfl, rfl⟩, .inl rfl, rfl⟩
    . have hk0 : 0 < k := by
        obtain ⟨s, hs⟩ := List.exists_mem_of_ne_nil S hne
        have := hc.lt hs
        omega
      rcases hm with hm | ⟨c1, h1, e1, e2⟩
      . omega
      . have hst := h1.stable (by omega)
        have hsm := h1.same (by omega)
        walk_at "s"
        refine ⟨c1, many, h1, hst, ?_⟩
        congr 2
        refine List.map_congr_left fun s hs => ?_
        rw [hsm s hs]
theorem ky' {w : W} {m : Nat} {T : List (List Nat)} {n : Nat} (ht : h9' ["Machine", "RawMachine"] "kept_table" w (.obj m) = some (cC' T)) (hT : a4' T T.length n) (hn : 1 <= T.length) (hn2 : T.length <= 1000) : wF (f_reached [.obj m] w) (fun o w' => o = .lst ((reach T).map fun s => .fz (.int (s : Nat))) /\ w' = w) FX := by
  unfold f_reached
  walk_at "f"
  refine hr' (fun mm ρ => ∃ j, mm = T.length + 1 - j /\ j <= (bfs T j).length /\ ∃ y, ρ = ⟨[some (.fz (.obj m)), some (.lst ((bfs T j).map fun s => .fz (.int (s : Nat)))), some (dN ((bfs T j).map fun s => (s, .bl true))), some (.fz (.int (j : Nat))), y], w⟩) (T.length + 1) (by show T.length + 1 < 2 ^ 40; omega) ⟨0, by simp, by simp, _, rfl⟩ ?_
  rintro mm _ ⟨j, rfl, hj, y, rfl⟩
  walk_at "s"
  refine cH' (fun h => ?_) (fun h => ?_)
  . have hj2 : j < (bfs T j).length := by omega
    have hs : (bfs T j)[j]? = some (bfs T j)[j] := List.getElem?_eq_getElem hj2
    generalize (bfs T j)[j] = s at hs
    have hsl : s < T.length := oS' hT hn (List.mem_of_getElem? hs)
    have hrow := dh' hT hsl
    have hlen := dM' hT hn j
    walk_at "s"
    refine bY' (fun pre ρ => ∃ y, ρ = ⟨[some (.fz (.obj m)), some (.lst ((cu' (bfs T j) pre).map fun s => .fz (.int (s : Nat)))), some (dN ((cu' (bfs T j) pre).map fun s => (s, .bl true))), some (.fz (.int (j : Nat))), y], w⟩) ⟨_, rfl⟩ ?_ ?_
    . rintro pre t post _ e ⟨y, rfl⟩
      have hl2 : (cu' (bfs T j) pre).length <= T.length := iB' (f7' (lv' j)) fun x hx => (cf'.mp hx).elim (fun q => oS' hT hn q) fun q => kw' hT (s := s) (by rw [e]; simp [q])
      have hlk := cS' (fun _ => D.bl true) t (cu' (bfs T j) pre)
      have hlL : ((cu' (bfs T j) pre).map fun s => (s, D.bl true)).length < 16777216 := by rw [List.length_map]; omega
      rw [fz']
      clear e hs hrow
      by_cases hm : t ∈ cu' (bfs T j) pre
      . rw [if_pos hm] at hlk
        rw [c5' hm]
        walk_at "s"
        exact ⟨_, rfl⟩
      . rw [if_neg hm] at hlk
        rw [ch' hm]
        walk_at "s"
        exact ⟨some (.fz (.int (t : Nat))), by simp⟩
    . rintro _ ⟨y, rfl⟩
      walk_at "s"
      rw [<- ji' hs]
      refine ⟨T.length + 1 - (j + 1), by omega, j + 1, rfl, ?_, _, rfl⟩
      have := (sY' (T := T) (j := j)).length_le
      omega
  . have e : bfs T j = reach T := g8' hT hn (by omega)
    rw [e]
    walk_at "s"
def mkM (C : String) (L : Tx) (T : List (List Nat)) (A : List Nat) (l : D) (rest : List (String × O)) : Ob :=
  .ins C (("kept_letters", .fz (.str L)) :: ("kept_table", .fz (cC' T)) :: ("kept_accepts", .fz (cK' A)) :: ("kept_least", .fz l) :: rest)
abbrev dq' : List (String × O) := [("kept_field", .fz .non), ("kept_lots", .dct [] []), ("kept_more", .dct [] [])]
structure McAt (w : W) (m : Nat) (L : Tx) (T : List (List Nat)) (A : List Nat) (l : D) : Prop where
  fl : h9' ["Machine", "RawMachine"] "kept_letters" w (.obj m) = some (.str L)
  ft : h9' ["Machine", "RawMachine"] "kept_table" w (.obj m) = some (cC' T)
  fa : h9' ["Machine", "RawMachine"] "kept_accepts" w (.obj m) = some (cK' A)
  fk : h9' ["Machine", "RawMachine"] "kept_least" w (.obj m) = some l
theorem McAt.of {w : W} {m : Nat} {C : String} {L T A l rest} (h : w[m]? = some (mkM C L T A l rest)) (hC : C = "Machine" \/ C = "RawMachine") : McAt w m L T A l := by
  refine ⟨?_, ?_, ?_, ?_⟩
  all_goals rcases hC with rfl | rfl
  all_goals simp [h9', h, mkM, List.lookup]
theorem ot' {w : W} {m : Nat} {C : String} {L : Tx} {T : List (List Nat)} {A : List Nat} (h : w[m]? = some (.ins C [])) (hC : C = "Machine" \/ C = "RawMachine") : wF (f_Machine_keep [.obj m, .str L, cC' T, cK' A] w) (fun o w' => o = .fz .non /\ w' = w.set m (mkM C L T A .non dq')) FX := by
  have hm := bE' h
  have hC1 : C ∈ ["Machine", "RawMachine"] := by rcases hC with rfl | rfl <;> simp
  unfold f_Machine_keep
  walk_at "f"
  rfl
theorem n6' {w : W} {m : Nat} {L : Tx} {T : List (List Nat)} {A : List Nat} (h : w[m]? = some (.ins "RawMachine" [])) : wF (f_RawMachine___init__ [.obj m, .str L, cC' T, cK' A] w) (fun o w' => o = .fz .non /\ w' = w.set m (mkM "RawMachine" L T A .non dq')) FX := by
  unfold f_RawMachine___init__
  walk_at "f"
  refine ⟨by simp [jI', h], ?_⟩
  refine (ot' h (.inr rfl)).mono ?_
  rintro _ _ ⟨rfl, rfl⟩
  walk_at "s"
theorem ze' {cs : List String} {f : String} {o : O} {w : W} {n : Nat} {C : String} {fs : List (String × O)} (h : w[n]? = some (.ins C fs)) (hc : C ∈ cs) (hl : fs.length < 1000) : stF cs f o w (.obj n) = some (w.set n (.ins C (rP' f o fs))) := by
  simp only [stF, h]
  exact if_pos ⟨hc, hl⟩
theorem kp' {cs : List String} {w : W} {n : Nat} {C : String} {L T A} {l d : D} {rest : List (String × O)} (h : w[n]? = some (mkM C L T A l rest)) (hc : C ∈ cs) (hl : rest.length <= 100) : stF cs "kept_least" (.fz d) w (.obj n) = some (w.set n (mkM C L T A d rest)) := by
  rw [ze' h hc (by simp; omega)]
  rfl
theorem lP' (k : Nat) : o4' ((List.range k).map fun q => ((q : Nat) : Int)) = (List.range k).map fun q => ((q : Nat) : Int) := by
  unfold o4'
  refine List.mergeSort_of_pairwise ?_
  rw [List.pairwise_map]
  refine List.Pairwise.imp (fun {a b} h => ?_) List.pairwise_lt_range
  simp
  omega
theorem pg' {w : W} {m : Nat} {C : String} {L : Tx} {T : List (List Nat)} {A : List Nat} {rest : List (String × O)} (h : w[m]? = some (mkM C L T A .non rest)) (hC : C = "Machine" \/ C = "RawMachine") (hr : rest.length <= 100)
    (hT : a4' T T.length L.length) (hL : L.Nodup) (hLl : L.length <= 1000) (hn : 1 <= T.length) (hn2 : T.length <= 1000) :
    wF (f_least [.obj m] w) (fun o w' => ∃ c T' A', IsLeast L T A c T' A' /\ o = .fz (.obj w.length) /\ w' = w.set m (mkM C L T A (.obj w.length) rest) ++ [mkM "RawMachine" L T' A' (.obj w.length) dq']) FX := by
  have hM := McAt.of h hC
  have h1 := hM.fl
  have h2 := hM.ft
  have h3 := hM.fa
  have h4 := hM.fk
  unfold f_least
  walk_at "f"
  refine (ky' h2 hT hn (by omega)).mono ?_
  rintro _ _ ⟨rfl, rfl⟩
  walk_at "s"
  have hS : ∀ s ∈ reach T, s < T.length := fun s hs => jx' hT hn hs
  have hcl : ∀ s ∈ reach T, ∀ t ∈ aH' T s, t ∈ reach T := fun s hs t ht => d7' hT hn hs ht
  have efr : frzs ((reach T).map fun s => O.fz (D.int (s : Nat))) = (reach T).map fun s => D.int (s : Nat) := by
    rw [ed', List.map_map]; rfl
  rw [efr]
  refine (pE' h2 h3 hT hL hLl (by omega) hS hcl jw' (fun e => by have := fY' (T := T); rw [e] at this; cases this)).mono ?_
  rintro _ _ ⟨⟨c, k, hc, hst, rfl⟩, rfl⟩
  rename_i w
  have hlk : ∀ s ∈ reach T, ((reach T).map fun s => (s, D.int (c s : Nat))).lookup s = some (.int (c s : Nat)) := fun s hs => by rw [cS' (fun s => D.int (c s : Nat)), if_pos hs]
  have kle : k <= T.length := by
    have h1 := bT' c (reach T)
    rw [hc.num, List.length_range, cR' jw'] at h1
    exact Nat.le_trans h1 (dM' hT hn _)
  walk_at "s"
  refine bY' (fun pre ρ => ∃ y, ρ = ⟨[some (.fz (.obj m)), some (.fz (.lst ((reach T).map fun s => .int (s : Nat)))), some (.fz (dNz ((reach T).map fun s => (s, .int (c s : Nat))))), some (dN ((aK' (pre.map c)).map fun q => (q, .int (ci' pre c q : Nat)))), y, none, none, none, none], w⟩) ⟨_, rfl⟩ ?_ ?_
  . rintro pre s post _ e ⟨y, rfl⟩
    have hs : s ∈ reach T := by rw [e]; simp
    have hl1 := hlk s hs
    have hlen : ((aK' (pre.map c)).map fun q => (q, D.int (ci' pre c q : Nat))).length < 16777216 := by
      have h1 := bT' c pre
      have h5 := congrArg List.length e
      have h6 := dM' hT hn T.length
      have h7 := List.Nodup.length_le_of_subset (jF' (xs := pre)) (l₂ := pre) (fun a ha => a7'.mp ha)
      simp only [List.length_append, List.length_cons] at h5
      unfold reach at h5
      rw [List.length_map]
      omega
    have hlf := cS' (fun q => D.int (ci' pre c q : Nat)) (c s) (aK' (pre.map c))
    clear e
    rw [List.map_append, List.map_cons, List.map_nil, ce']
    have hold : (aK' (pre.map c)).map (fun q => (q, D.int (ci' (pre ++ [s]) c q : Nat))) = (aK' (pre.map c)).map fun q => (q, D.int (ci' pre c q : Nat)) := List.map_congr_left fun q hq => by rw [sF' (a7'.mp hq)]
    walk_at "s"
    rw [xY' hlen, hlf]
    by_cases hm : c s ∈ aK' (pre.map c)
    . rw [if_pos hm, c5' hm]
      refine ⟨some (.fz (.int (s : Nat))), ?_⟩
      rw [hold]
    . rw [if_neg hm, ch' hm]
      refine ⟨some (.fz (.int (s : Nat))), ?_⟩
      rw [List.map_append, hold, List.map_cons, List.map_nil, sG' fun q => hm (a7'.mpr q)]
  rintro _ ⟨y, rfl⟩
  rw [hc.num]
  have hlf : ∀ q < k, ((List.range k).map fun q => (q, D.int (ci' (reach T) c q : Nat))).lookup q = some (.int (ci' (reach T) c q : Nat)) := fun q hq => by rw [cS' (fun q => D.int (ci' (reach T) c q : Nat)), if_pos (List.mem_range.mpr hq)]
  have hsk : ∀ P : D -> Prop, wD (eA' (dNz ((List.range k).map fun q => (q, D.int (ci' (reach T) c q : Nat))))) P = P (.lst ((List.range k).map fun q => .int (q : Nat))) := fun P => by
    rw [xX' _ (by simp; omega), List.map_map]
    have := lP' k
    rw [show ((fun p : Nat × D => (p.1 : Int)) ∘ fun q => (q, D.int (ci' (reach T) c q : Nat))) = fun q => ((q : Nat) : Int) from rfl, this, List.map_map]
    rfl
  have hfst : ∀ q < k, ci' (reach T) c q ∈ reach T := by
    intro q hq
    have : q ∈ aK' ((reach T).map c) := by rw [hc.num]; exact List.mem_range.mpr hq
    obtain ⟨s, hs, e⟩ := List.mem_map.mp (a7'.mp this)
    unfold ci'
    cases f : (reach T).find? fun s => decide (c s = q) with
    | none =>
      have := List.find?_eq_none.mp f s hs
      simp [e] at this
    | some t => exact List.mem_of_find?_eq_some f
  walk_at "s"
  refine bY' (fun pre ρ => ∃ z z2, ρ = ⟨[some (.fz (.obj m)), some (.fz (.lst ((reach T).map fun s => .int (s : Nat)))), some (.fz (dNz ((reach T).map fun s => (s, .int (c s : Nat))))), some (.fz (dNz ((List.range k).map fun q => (q, .int (ci' (reach T) c q : Nat))))), y, some (.lst (pre.map fun q => .fz (dp' ((aH' T (ci' (reach T) c q)).map c)))), z, none, z2], w⟩) ⟨_, _, rfl⟩ ?_ ?_
  . rintro pre q post _ e ⟨z, z2, rfl⟩
    have hq : q < k := List.mem_range.mp (by rw [e]; simp)
    have hl1 := hlf q hq
    have hf := hfst q hq
    have hrow := dh' hT (hS _ hf)
    have hlen : pre.length < 16777216 := by
      have h5 := congrArg List.length e
      simp only [List.length_append, List.length_cons, List.length_range] at h5
      omega
    clear e
    walk_at "s"
    refine c4' (fun t : Nat => D.int (c t : Nat)) (by have := cd' hT (hS _ hf); omega) ?_ ?_
    . intro t htr
      have hl2 := hlk t (hcl _ hf t htr)
      walk_at "s"
    walk_at "l"
    walk_at "s"
    exact ⟨_, _, by rw [List.map_append, List.map_cons, List.map_nil]; simp only [dp', List.map_map]; rfl⟩
  rintro _ ⟨z, z2, rfl⟩
  walk_at "s"
  refine Ad' (fun q => decide (ci' (reach T) c q ∈ A)) (fun q : Nat => D.int (q : Nat)) (by simp; omega) ?_ ?_
  . intro q hq
    have hl1 := hlf q (List.mem_range.mp hq)
    walk_at "s"
    exact fun _ => trivial
  walk_at "l"
  walk_at "s"
  have et : D.tup (frzs ((List.range k).map fun q => O.fz (dp' ((aH' T (ci' (reach T) c q)).map c)))) = cC' (cm' T (reach T) c k) := by
    unfold cC' cm'
    rw [ed', List.map_map, List.map_map]; rfl
  have ea : D.tup (((List.range k).filter fun q => decide (ci' (reach T) c q ∈ A)).map fun q => D.int (q : Nat)) = cK' (i8' A (reach T) c k) := rfl
  rw [et, ea]
  have hI := uj' hT hL hn hc hst
  generalize cm' T (reach T) c k = T' at *
  generalize i8' A (reach T) c k = A' at *
  refine (n6' (by rw [List.getElem?_append_right (by omega), Nat.sub_self]; rfl)).mono ?_
  rintro _ _ ⟨rfl, rfl⟩
  rw [List.set_append_right _ _ (by omega), Nat.sub_self]
  have hm := bE' h
  have hC1 : C ∈ ["Machine", "RawMachine"] := by rcases hC with rfl | rfl <;> simp
  have g1 : (w ++ [mkM "RawMachine" L T' A' .non dq'])[m]? = some (mkM C L T A .non rest) := by rw [List.getElem?_append_left hm]; exact h
  obtain ⟨W1, e1⟩ : ∃ W1, W1 = (w ++ [mkM "RawMachine" L T' A' .non dq']).set m (mkM C L T A (.obj w.length) rest) := ⟨_, rfl⟩
  have s1 : stF ["Machine", "RawMachine"] "kept_least" (.fz (.obj w.length)) (w ++ [mkM "RawMachine" L T' A' .non dq']) (.obj m) = some W1 := by
    rw [kp' g1 hC1 hr, e1]
  have g2 : W1[m]? = some (mkM C L T A (.obj w.length) rest) := by
    rw [e1, List.getElem?_set_self (by simp; omega)]
  have f1 := (McAt.of g2 hC).fk
  have g3 : W1[w.length]? = some (mkM "RawMachine" L T' A' .non dq') := by
    rw [e1, List.getElem?_set_ne (by omega), List.getElem?_append_right (by omega), Nat.sub_self]
    rfl
  obtain ⟨W2, e2⟩ : ∃ W2, W2 = w.set m (mkM C L T A (.obj w.length) rest) ++ [mkM "RawMachine" L T' A' (.obj w.length) dq'] := ⟨_, rfl⟩
  have s2 : stF ["Machine", "RawMachine"] "kept_least" (.fz (.obj w.length)) W1 (.obj w.length) = some W2 := by
    rw [kp' g3 (by simp) (by simp), e1, e2]
    rw [List.set_append_left _ _ hm, List.set_append_right _ _ (by simp)]
    simp only [List.length_set, Nat.sub_self]
    rfl
  have g4 : W2[m]? = some (mkM C L T A (.obj w.length) rest) := by
    rw [e2, List.getElem?_append_left (by simpa using hm), List.getElem?_set_self hm]
  have f2 := (McAt.of g4 hC).fk
  clear g1 g2 g3 g4 e1 h1 h2 h3 h4 hlk hlf hsk
  walk_at "s"
  rw [<- e2, f2, bj']
  exact ⟨c, T', A', hI, rfl, e2⟩
theorem ph' {w : W} {m n : Nat} {C : String} {L : Tx} {T : List (List Nat)} {A : List Nat} {rest : List (String × O)} (h : w[m]? = some (mkM C L T A (.obj n) rest)) (hC : C = "Machine" \/ C = "RawMachine") :
    wF (f_least [.obj m] w) (fun o w' => o = .fz (.obj n) /\ w' = w) FX := by
  have h4 := (McAt.of h hC).fk
  unfold f_least
  walk_at "f"
theorem Am' {w : W} {m most : Nat} {L : Tx} {T : List (List Nat)} {A : List Nat} (h : w[m]? = some (.ins "Machine" [])) (hM : MacOk L T A most 6) (hmost : most <= 4) : wF (f_Machine___init__ [.obj m, .str L, cC' T, cK' A] w) (fun o w' => o = .fz .non /\ w' = w.set m (mkM "Machine" L T A .non dq')) FX := by
  have hL := hM.let'
  have h1 := hL.ne
  have h2 : L.length <= 4 := Nat.le_trans hL.le hmost
  have e1 : (L.all fun c => decide (c ∈ abc)) = true := by
    rw [List.all_eq_true]
    exact fun c hc => by rw [decide_eq_true_iff]; exact l8'.mpr (hL.abc c hc)
  have e2 : (A.all fun a => decide (a < T.length)) = true := by
    rw [List.all_eq_true]
    exact fun a ha => by simpa using hM.acc.lt a ha
  unfold f_Machine___init__
  walk_at "f0"
  walk_at "s"
  refine (eP' L abc w).mono ?_
  rintro _ _ ⟨rfl, rfl⟩
  rw [e1, decide_eq_true hL.asc]
  walk_at "s"
  refine (jH' hM.tab hM.ne hM.le _).mono ?_
  rintro _ _ ⟨rfl, rfl⟩
  walk_at "s"
  refine (er' A T.length _).mono ?_
  rintro _ _ ⟨rfl, rfl⟩
  rw [e2]
  walk_at "s"
  refine (dS' A _).mono ?_
  rintro _ _ ⟨rfl, rfl⟩
  rw [decide_eq_true hM.acc.asc]
  walk_at "s"
  refine ⟨by simp [jI', h], ?_⟩
  refine (ot' h (.inl rfl)).mono ?_
  rintro _ _ ⟨rfl, rfl⟩
  walk_at "s"
theorem z4' {w : W} {m most : Nat} {L : Tx} {T : List (List Nat)} {A : List Nat} (hm : w.length = m) (hM : MacOk L T A most 6) (hmost : most <= 4) : wF (f_Machine___init__ [.obj m, .str L, cC' T, cK' A] (w ++ [.ins "Machine" []])) (fun o w' => o = .fz .non /\ w' = w ++ [mkM "Machine" L T A .non dq']) FX := by
  subst hm
  refine (Am' (by rw [List.getElem?_append_right (by omega), Nat.sub_self]; rfl) hM hmost).mono ?_
  rintro _ _ ⟨rfl, rfl⟩
  refine ⟨rfl, ?_⟩
  rw [List.set_append_right _ _ (by omega), Nat.sub_self]; rfl
structure Pt (L : Tx) (T : List (List Nat)) : Prop where
  tab : a4' T T.length L.length
  nd : L.Nodup
  ll : L.length <= 1000
  ne : 1 <= T.length
  le : T.length <= 400
theorem Pt.least {L : Tx} {T : List (List Nat)} {A : List Nat} {c : Nat -> Nat} {T' : List (List Nat)} {A' : List Nat} (h : Pt L T) (hI : IsLeast L T A c T' A') : Pt L T' :=
  ⟨hI.tab, h.nd, h.ll, hI.ne, Nat.le_trans hI.le h.le⟩
theorem MacOk.pt {L : Tx} {T : List (List Nat)} {A : List Nat} {most states : Nat} (h : MacOk L T A most states) (h1 : most <= 1000) (h2 : states <= 400) : Pt L T :=
  ⟨h.tab, h.let'.asc.imp (fun h => Nat.ne_of_lt h), Nat.le_trans h.let'.le h1, h.ne, Nat.le_trans h.le h2⟩
def Rs (rest : List (String × O)) : Prop := ∃ o1 o2 o3, rest = [("kept_field", o1), ("kept_lots", o2), ("kept_more", o3)]
theorem Rs.z : Rs dq' := ⟨_, _, _, rfl⟩
theorem Rs.le {rest : List (String × O)} (h : Rs rest) : rest.length <= 100 := by obtain ⟨_, _, _, rfl⟩ := h; simp
structure MM (w : W) (m : Nat) (C : String) (L : Tx) (T : List (List Nat)) (A : List Nat) : Prop where
  cl : C = "Machine" \/ C = "RawMachine"
  ex : ∃ l rest, Rs rest /\ w[m]? = some (mkM C L T A l rest)
theorem MM.mc {w : W} {m : Nat} {C : String} {L T A} (h : MM w m C L T A) : ∃ l, McAt w m L T A l := by
  obtain ⟨l, rest, _, h2⟩ := h.ex
  exact ⟨l, McAt.of h2 h.cl⟩
theorem MM.lt {w : W} {m : Nat} {C : String} {L T A} (h : MM w m C L T A) : m < w.length := by
  obtain ⟨l, rest, _, h2⟩ := h.ex
  exact bE' h2
def WOk (w : W) : Prop := ∀ (m : Nat) (C : String) (L : Tx) (T : List (List Nat)) (A : List Nat) (l : D) (rest : List (String × O)), w[m]? = some (mkM C L T A l rest) →
  l = .non \/ ∃ k c T' A', l = .obj k /\ IsLeast L T A c T' A' /\ ∃ rest', Rs rest' /\ w[k]? = some (mkM "RawMachine" L T' A' (.obj k) rest')
structure Evo (w w' : W) : Prop where
  len : w.length <= w'.length
  mac : ∀ m C L T A, MM w m C L T A -> MM w' m C L T A
  hand : ∀ n, eE' w n -> eE' w' n
theorem Evo.refl {w : W} : Evo w w := ⟨Nat.le_refl _, fun _ _ _ _ _ h => h, fun _ h => h⟩
theorem Evo.trans {w w1 w2 : W} (h : Evo w w1) (h' : Evo w1 w2) : Evo w w2 := ⟨Nat.le_trans h.len h'.len, fun _ _ _ _ _ q => h'.mac _ _ _ _ _ (h.mac _ _ _ _ _ q), fun _ q => h'.hand _ (h.hand _ q)⟩
theorem MM.evo {w w' : W} {m : Nat} {C : String} {L T A} (h : MM w m C L T A) (e : Evo w w') : MM w' m C L T A := e.mac _ _ _ _ _ h
theorem IsLeast.self {L : Tx} {T : List (List Nat)} {A : List Nat} {c : Nat -> Nat} {T' : List (List Nat)} {A' : List Nat} (h : IsLeast L T A c T' A') : IsLeast L T' A' id T' A' where
  tab := h.tab
  ne := h.ne
  le := Nat.le_refl _
  acc := h.acc
  c0 := rfl
  lt s hs := by rw [h.reach] at hs; exact List.mem_range.mp hs
  row s _ := by rw [List.map_id]; rfl
  fin s _ := Iff.rfl
  onto q hq := ⟨q, by rw [h.reach]; exact List.mem_range.mpr hq, rfl⟩
  reach := h.reach
  apart := h.apart
  num := by rw [List.map_id, h.reach, cR' List.nodup_range]
theorem h4' {C C' : String} {L L' : Tx} {T T' : List (List Nat)} {A A' : List Nat} {l l' : D} {rest rest' : List (String × O)} (h : mkM C L T A l rest = mkM C' L' T' A' l' rest') : C = C' /\ L = L' /\ T = T' /\ A = A' /\ l = l' /\ rest = rest' := by
  have nat : ∀ {x y : List Nat}, (x.map fun t => D.int (t : Nat)) = (y.map fun t => D.int (t : Nat)) -> x = y := fun e =>
    List.map_inj_right (fun a b h => by have := D.int.inj h; omega) |>.mp e
  obtain ⟨e1, e2⟩ := Ob.ins.inj h
  simp only [List.cons.injEq, Prod.mk.injEq, true_and, O.fz.injEq, D.str.injEq, and_assoc] at e2
  obtain ⟨f1, f2, f3, f4, f5⟩ := e2
  refine ⟨e1, f1, ?_, nat (D.tup.inj f3), f4, f5⟩
  exact List.map_inj_right (fun a b h => nat (D.tup.inj h)) |>.mp (D.tup.inj f2)
theorem WOk.but {w w' : W} {n : Nat} (h : WOk w) (hh : eE' w n) (hh' : eE' w' n) (b : But n w w') : WOk w' /\ Evo w w' := by
  obtain ⟨cells, i, bb, s, c, hw, _⟩ := id hh
  obtain ⟨cells', i', bb', s', c', hw', _⟩ := id hh'
  refine ⟨fun m C L T A l rest e => ?_, Nat.le_of_eq b.1.symm, fun m C L T A hM => ?_, fun k hk => ?_⟩
  . have hm : m ≠ n := fun q => by rw [q, hw'] at e; cases e
    rw [b.2 m hm] at e
    rcases h m C L T A l rest e with q | ⟨k, c0, T', A', q1, q2, rest', q3, q4⟩
    . exact .inl q
    . refine .inr ⟨k, c0, T', A', q1, q2, rest', q3, ?_⟩
      rw [b.2 k (fun q => by rw [q, hw] at q4; cases q4)]
      exact q4
  . obtain ⟨l, rest, h1, h2⟩ := hM.ex
    refine ⟨hM.cl, l, rest, h1, ?_⟩
    rw [b.2 m (fun q => by rw [q, hw] at h2; cases h2)]
    exact h2
  . by_cases q : k = n
    . rw [q]; exact hh'
    . obtain ⟨c1, i1, b1, s1, k1, e1, e2⟩ := hk
      exact ⟨c1, i1, b1, s1, k1, by rw [b.2 k q]; exact e1, e2⟩
theorem WOk.snoc {w : W} {o : Ob} (h : WOk w) (ho : ∀ C L T A l rest, o = mkM C L T A l rest -> l = .non) : WOk (w ++ [o]) /\ Evo w (w ++ [o]) := by
  refine ⟨fun m C L T A l rest e => ?_, by simp, fun m C L T A hM => ?_, fun k hk => hk.snoc⟩
  . by_cases hm : m < w.length
    . rw [List.getElem?_append_left hm] at e
      rcases h m C L T A l rest e with q | ⟨k, c0, T', A', q1, q2, rest', q3, q4⟩
      . exact .inl q
      . exact .inr ⟨k, c0, T', A', q1, q2, rest', q3, by rw [List.getElem?_append_left (bE' q4)]; exact q4⟩
    . rw [List.getElem?_append_right (by omega)] at e
      have : m - w.length = 0 := by
        have := (List.getElem?_eq_some_iff.mp e).1
        simp at this; omega
      rw [this] at e
      exact .inl (ho C L T A l rest (Option.some.inj e))
  . obtain ⟨l, rest, h1, h2⟩ := hM.ex
    exact ⟨hM.cl, l, rest, h1, by rw [List.getElem?_append_left (bE' h2)]; exact h2⟩
theorem MM.new {w : W} {C : String} {L T A l rest} (hC : C = "Machine" \/ C = "RawMachine") (hr : Rs rest) : MM (w ++ [mkM C L T A l rest]) w.length C L T A :=
  ⟨hC, l, rest, hr, by rw [List.getElem?_append_right (Nat.le_refl _), Nat.sub_self]; rfl⟩
theorem WOk.mach {w : W} {C : String} {L T A} (h : WOk w) : WOk (w ++ [mkM C L T A .non dq']) /\ Evo w (w ++ [mkM C L T A .non dq']) :=
  h.snoc fun C' L' T' A' l rest e => (h4' e).2.2.2.2.1.symm
theorem WOk.lst {w : W} {os : List O} (h : WOk w) : WOk (w ++ [.lst os]) /\ Evo w (w ++ [.lst os]) := h.snoc fun C' L' T' A' l rest e => by cases e
theorem WOk.nil : WOk [] := fun m C L T A l rest e => by simp at e
theorem WOk.one {os : List O} : WOk [.lst os] := (WOk.lst .nil).1
theorem xq' {w : W} {m : Nat} {C : String} {L : Tx} {T : List (List Nat)} {A : List Nat} (hW : WOk w) (h : MM w m C L T A) (hP : Pt L T) :
    wF (f_least [.obj m] w) (fun o w' => ∃ k c T' A', o = .fz (.obj k) /\ IsLeast L T A c T' A' /\ MM w' k "RawMachine" L T' A' /\ WOk w' /\ Evo w w') FX := by
  obtain ⟨l, rest, hr, e⟩ := h.ex
  rcases hW m C L T A l rest e with rfl | ⟨k, c0, T', A', rfl, q2, rest', q3, q4⟩
  . refine (pg' e h.cl hr.le hP.tab hP.nd hP.ll hP.ne (Nat.le_trans hP.le (by decide))).mono ?_
    rintro _ _ ⟨c, T', A', hI, rfl, rfl⟩
    have hm := bE' e
    have e1 : (w.set m (mkM C L T A (.obj w.length) rest) ++ [mkM "RawMachine" L T' A' (.obj w.length) dq'])[w.length]? = some (mkM "RawMachine" L T' A' (.obj w.length) dq') := by
      rw [List.getElem?_append_right (by simp), List.length_set, Nat.sub_self]; rfl
    have e2 : (w.set m (mkM C L T A (.obj w.length) rest) ++ [mkM "RawMachine" L T' A' (.obj w.length) dq'])[m]? = some (mkM C L T A (.obj w.length) rest) := by
      rw [List.getElem?_append_left (by simpa using hm), List.getElem?_set_self hm]
    have e3 : ∀ i, i < w.length -> i ≠ m -> (w.set m (mkM C L T A (.obj w.length) rest) ++ [mkM "RawMachine" L T' A' (.obj w.length) dq'])[i]? = w[i]? := fun i hi hne => by
      rw [List.getElem?_append_left (by simpa using hi), List.getElem?_set_ne (fun h => hne h.symm)]
    refine ⟨w.length, c, T', A', rfl, hI, ⟨.inr rfl, _, _, .z, e1⟩, fun i Ci Li Ti Ai li ri ei => ?_, by simp, fun i Ci Li Ti Ai hi => ?_, fun i hi => ?_⟩
    . rcases Nat.lt_trichotomy i w.length with hi | hi | hi
      . by_cases him : i = m
        . rw [him, e2] at ei
          obtain ⟨rfl, rfl, rfl, rfl, rfl, rfl⟩ := h4' (Option.some.inj ei)
          exact .inr ⟨_, c, T', A', rfl, hI, _, .z, e1⟩
        . rw [e3 i hi him] at ei
          rcases hW i _ _ _ _ _ _ ei with q | ⟨k, c1, T1, A1, q1, q2, rest1, q3, q4⟩
          . exact .inl q
          . refine .inr ⟨k, c1, T1, A1, q1, q2, rest1, q3, ?_⟩
            rw [e3 k (bE' q4) (fun q => ?_)]
            . exact q4
            . rw [q, e] at q4
              have := (h4' (Option.some.inj q4)).2.2.2.2.1
              cases this
      . rw [hi, e1] at ei
        obtain ⟨rfl, rfl, rfl, rfl, rfl, rfl⟩ := h4' (Option.some.inj ei)
        exact .inr ⟨_, id, _, _, rfl, hI.self, _, .z, e1⟩
      . have := bE' ei
        simp at this
        omega
    . obtain ⟨l1, r1, h1, h2⟩ := hi.ex
      by_cases him : i = m
      . rw [him, e] at h2
        obtain ⟨rfl, rfl, rfl, rfl, rfl, rfl⟩ := h4' (Option.some.inj h2)
        exact ⟨hi.cl, _, _, hr, by rw [him]; exact e2⟩
      . exact ⟨hi.cl, _, _, h1, by rw [e3 i (bE' h2) him]; exact h2⟩
    . obtain ⟨c1, i1, b1, s1, k1, e4, e5⟩ := hi
      exact ⟨c1, i1, b1, s1, k1, by rw [e3 i (bE' e4) (fun q => by rw [q, e] at e4; cases e4)]; exact e4, e5⟩
  . refine (ph' e h.cl).mono ?_
    rintro _ _ ⟨rfl, rfl⟩
    exact ⟨k, c0, T', A', rfl, q2, ⟨.inr rfl, _, _, q3, q4⟩, hW, .refl⟩
theorem tR' {w : W} {L : Tx} {T : List (List Nat)} {A : List Nat} {n : Nat} (hn : n = w.length) : wF (f_RawMachine___init__ [.obj n, .str L, cC' T, cK' A] (w ++ [.ins "RawMachine" []])) (fun o w' => o = .fz .non /\ w' = w ++ [mkM "RawMachine" L T A .non dq']) FX := by
  subst hn
  refine (n6' (by rw [List.getElem?_append_right (Nat.le_refl _), Nat.sub_self]; rfl)).mono ?_
  rintro _ _ ⟨rfl, rfl⟩
  refine ⟨rfl, ?_⟩
  rw [List.set_append_right _ _ (Nat.le_refl _), Nat.sub_self]; rfl
def plD : D -> Bool := fun d => (tyn d).isSome
def wdD (L : Tx) : D -> Bool
  | .str s => s.all fun c => decide (c ∈ L)
  | _ => false
theorem wg' {L : Tx} {s : Tx} (h : ∀ c ∈ s, c ∈ L) : wdD L (.str s) = true := by
  show s.all _ = true
  rw [List.all_eq_true]
  exact fun c hc => decide_eq_true (h c hc)
theorem vK' {w : W} {m : Nat} {C : String} {L : Tx} {T : List (List Nat)} {A : List Nat} {s : Nat} {x : Tx} (hm : MM w m C L T A) (hT : a4' T T.length L.length) (hs : s < T.length) (hx : ∀ c ∈ x, c ∈ L) : wF (f_led [.obj m, .int s, .str x] w) (fun o w' => o = .fz (.int (run L T s x : Nat)) /\ w' = w) FX := by
  obtain ⟨l, hm⟩ := hm.mc
  unfold f_led
  walk_at "f"
  have h1 := hm.fl
  have h2 := hm.ft
  refine bY' (fun pre ρ => ∃ y, ρ = ⟨[some (.fz (.obj m)), some (.fz (.int (run L T s pre : Nat))), some (.fz (.str x)), y], w⟩ /\ run L T s pre < T.length) ⟨_, rfl, hs⟩ ?_ ?_
  . rintro pre c post _ e ⟨y, rfl, hr⟩
    have hc := hx c (by rw [e]; simp)
    obtain ⟨r, h3, h4, h5⟩ := nW' hT hr hc
    have h6 := oB' hc
    rw [n4']
    clear hc e
    walk_at "s"
    exact ⟨_, rfl⟩
  . rintro _ ⟨y, rfl, hr⟩
    walk_at "s"
theorem pj' {w : W} {m : Nat} {C : String} {L : Tx} {T : List (List Nat)} {A : List Nat} {d : D} (h : MM w m C L T A) (hd : plD d = true) : wF (f_is_word [.obj m, d] w) (fun o w' => o = .fz (.bl (wdD L d)) /\ w' = w) FX := by
  obtain ⟨l, hm⟩ := h.mc
  have h1 := hm.fl
  unfold f_is_word
  walk_at "f0"
  clear h hm
  walk_at "s"
  by_cases hs : ∃ s, d = .str s
  . obtain ⟨s, rfl⟩ := hs
    refine (dA' s L w).mono ?_
    rintro _ _ ⟨rfl, rfl⟩
    walk_at "s"
    rfl
  . have h2 : ∃ t, tyn d = some t /\ t ≠ "str" := by
      cases d <;> simp [plD, tyn] at hd ⊢
      exact hs ⟨_, rfl⟩
    refine (h7' h2 L w).mono ?_
    rintro _ _ ⟨rfl, rfl⟩
    have h3 : wdD L d = false := by
      cases d <;> first | rfl | exact absurd ⟨_, rfl⟩ hs
    rw [h3]
    clear h2 hs
    walk_at "s"
theorem jT' {w : W} {m : Nat} {C : String} {L : Tx} {T : List (List Nat)} {A : List Nat} {d : D} (h : MM w m C L T A) (hd : plD d = true) : wF (f_check_word [.obj m, d] w) (fun _ w' => wdD L d = true /\ w' = w) (fun x w' => wdD L d = false /\ x = ⟨"NoWord", []⟩ /\ w' = w) := by
  have key := pj' h hd
  unfold f_check_word
  walk_at "f0"
  clear h hd
  walk_at "s"
  refine key.mono ?_
  rintro _ _ ⟨rfl, rfl⟩
  clear key
  cases hw : wdD L d
  . walk_at "s"
  . walk_at "s"
theorem fE' {w : W} {m : Nat} {C : String} {L : Tx} {T : List (List Nat)} {A : List Nat} {x : Tx} (h : MM w m C L T A) (hx : ∀ c ∈ x, c ∈ L) : wF (f_check_word [.obj m, .str x] w) (fun _ w' => w' = w) FX := by
  refine (jT' h (d := .str x) rfl).monoX ?_ ?_
  . rintro _ _ ⟨_, rfl⟩; rfl
  . rintro _ _ ⟨e, _⟩
    rw [wg' hx] at e
    cases e
theorem wP' {w : W} {m : Nat} {C : String} {L : Tx} {T : List (List Nat)} {A : List Nat} {x : Tx} (h : MM w m C L T A) (hP : Pt L T) (hx : ∀ c ∈ x, c ∈ L) : wF (f_says [.obj m, .str x] w) (fun o w' => o = .fz (.bl (decide (run L T 0 x ∈ A))) /\ w' = w) FX := by
  have k1 := fE' h hx
  have k2 := vK' h hP.tab (Nat.lt_of_lt_of_le Nat.zero_lt_one hP.ne) hx
  obtain ⟨l, hm⟩ := h.mc
  have h3 := hm.fa
  unfold f_says
  walk_at "f0"
  clear h hP hm
  walk_at "s"
  refine k1.mono ?_
  rintro _ _ rfl
  walk_at "s"
  refine k2.mono ?_
  rintro _ _ ⟨rfl, rfl⟩
  walk_at "s"
theorem ih' : ∀ a : List Nat, dats (a.map fun t => D.int (t : Nat)) = true
  | [] => rfl
  | x :: r => by show (true && _) = true; rw [ih' r]; rfl
theorem lb' : ∀ T : List (List Nat), dats (T.map dp') = true
  | [] => rfl
  | x :: r => by
    show (dats (x.map fun t => D.int (t : Nat)) && dats (r.map dp')) = true
    rw [ih', lb' r]; rfl
theorem ge' : ∀ a : List Nat, deps (a.map fun t => D.int (t : Nat)) = 0
  | [] => rfl
  | x :: r => by show max 0 _ = 0; rw [ge' r]; rfl
theorem k9' : ∀ T : List (List Nat), deps (T.map dp') <= 1
  | [] => Nat.zero_le 1
  | x :: r => by
    show max (deps (x.map fun t => D.int (t : Nat)) + 1) (deps (r.map dp')) <= 1
    have := k9' r
    rw [ge']
    omega
def ptD (L : Tx) (T : List (List Nat)) (A : List Nat) : D := .tup [.str L, cC' T, cK' A]
theorem jy' (L : Tx) (T : List (List Nat)) (A : List Nat) : dat (ptD L T A) = true := by
  show (true && (dats (T.map dp') && (dats (A.map fun t => D.int (t : Nat)) && true))) = true
  rw [lb', ih']; rfl
theorem rS' (L : Tx) (T : List (List Nat)) (A : List Nat) : dep (ptD L T A) <= 3 := by
  show max 0 (max (deps (T.map dp') + 1) (max (deps (A.map fun t => D.int (t : Nat)) + 1) 0)) + 1 <= 3
  have := k9' T
  rw [ge']
  omega
theorem fX' : ∀ {a : List Nat} {k : Nat}, k <= 1000 -> (∀ x ∈ a, x < k) -> repIs (a.map fun t => D.int (t : Nat)) = true
  | [], _, _, _ => rfl
  | x :: r, k, hk, h => by
    show (decide ((x : Int).natAbs < 10 ^ 60) && _) = true
    have h1 := h x (by simp)
    have h2 : (x : Int).natAbs < 10 ^ 60 := Nat.lt_of_lt_of_le (m := 1000) (by omega) (by decide)
    rw [decide_eq_true h2, fX' hk fun y hy => h y (by simp [hy])]; rfl
theorem eW' : ∀ a : List Nat, repWs (a.map fun t => D.int (t : Nat)) = a.length
  | [] => rfl
  | x :: r => by show 0 + 1 + repWs (r.map fun t => D.int (t : Nat)) = r.length + 1; rw [eW' r]; omega
theorem iZ' : ∀ {T : List (List Nat)} {k : Nat}, k <= 1000 -> (∀ r ∈ T, ∀ t ∈ r, t < k) -> repIs (T.map dp') = true
  | [], _, _, _ => rfl
  | x :: r, k, hk, h => by
    show (repIs (x.map fun t => D.int (t : Nat)) && repIs (r.map dp')) = true
    rw [fX' hk (h x (by simp)), iZ' hk fun y hy => h y (by simp [hy])]; rfl
theorem iY' : ∀ {T : List (List Nat)} {m : Nat}, (∀ r ∈ T, r.length = m) -> repWs (T.map dp') = T.length * (m + 1)
  | [], _, _ => by simp [repWs]
  | x :: r, m, h => by
    show repWs (x.map fun t => D.int (t : Nat)) + 1 + repWs (r.map dp') = (r.length + 1) * (m + 1)
    rw [eW', iY' fun y hy => h y (by simp [hy]), h x (by simp), Nat.succ_mul]; omega
theorem rR' {L : Tx} {T : List (List Nat)} {A : List Nat} (hT : a4' T T.length L.length) (hn : T.length <= 400) (hL : L.length <= 100) (hA : AccOk A T.length) : zA' (ptD L T A) = true /\ dep (ptD L T A) <= 40 /\ vw' (ptD L T A) = true /\ tc' (ptD L T A) <= 200000 := by
  refine ⟨wU' (jy' L T A), Nat.le_trans (rS' L T A) (by decide), ?_, ?_⟩
  . show (true && (repIs (T.map dp') && (repIs (A.map fun t => D.int (t : Nat)) && true))) = true
    rw [iZ' (k := T.length) (by omega) (fun r hr => (hT.2 r hr).2), fX' (k := T.length) (by omega) hA.lt]; rfl
  . show L.length + 1 + (repWs (T.map dp') + 1 + (repWs (A.map fun t => D.int (t : Nat)) + 1 + 0)) <= 200000
    have h1 := iY' (T := T) (m := L.length) fun r hr => (hT.2 r hr).1
    have h2 := iB' (hA.asc.imp fun h => Nat.ne_of_lt h) hA.lt
    have h3 : T.length * (L.length + 1) <= 400 * 101 := Nat.mul_le_mul hn (by omega)
    rw [h1, eW']
    omega
theorem Al' {w : W} {m : Nat} {C : String} {L : Tx} {T : List (List Nat)} {A : List Nat} (h : MM w m C L T A) : isC isT "Machine" w (.obj m) = some true := by
  obtain ⟨l, rest, _, e⟩ := h.ex
  show (match w[m]? with | some (.ins C _) => sub isT C "Machine" | _ => none) = some true
  rw [e]
  rcases h.cl with rfl | rfl
  . show sub isT "Machine" "Machine" = some true
    decide
  . show sub isT "RawMachine" "Machine" = some true
    decide
theorem ct' {w : W} {m : Nat} {C : String} {L : Tx} {T : List (List Nat)} {A : List Nat} {x : String} (h : MM w m C L T A) (hx : x ∉ ["kept_letters", "kept_table", "kept_accepts", "kept_least", "kept_field", "kept_lots", "kept_more"] := by decide) : jI' ["Machine", "RawMachine"] x w (.obj m) = true := by
  obtain ⟨l, rest, ⟨o1, o2, o3, rfl⟩, e⟩ := h.ex
  have hl : List.lookup x (("kept_letters", O.fz (.str L)) :: ("kept_table", .fz (cC' T)) :: ("kept_accepts", .fz (cK' A)) :: ("kept_least", .fz l) :: [("kept_field", o1), ("kept_lots", o2), ("kept_more", o3)]) = none := by
    simp only [List.mem_cons, List.not_mem_nil, or_false, not_or] at hx
    obtain ⟨h1, h2, h3, h4, h5, h6, h7⟩ := hx
    simp [List.lookup, beq_eq_false_iff_ne.mpr h1, beq_eq_false_iff_ne.mpr h2, beq_eq_false_iff_ne.mpr h3, beq_eq_false_iff_ne.mpr h4, beq_eq_false_iff_ne.mpr h5, beq_eq_false_iff_ne.mpr h6, beq_eq_false_iff_ne.mpr h7]
  show (match w[m]? with | some (.ins C' fs) => decide (C' ∈ ["Machine", "RawMachine"]) && (fs.lookup x).isNone | _ => false) = true
  rw [e]
  show (decide (C ∈ ["Machine", "RawMachine"]) && (List.lookup x _).isNone) = true
  rw [hl]
  rcases h.cl with rfl | rfl <;> rfl
theorem xJ' {w : W} {m n : Nat} {C C' : String} {L : Tx} {T : List (List Nat)} {A : List Nat} (h : MM w m C L T A) (h' : MM w n C' L T A) :
    wF (f_Machine___eq__ [.obj m, .obj n] w) (fun o w' => o = .fz (.bl true) /\ w' = w) FX := by
  have e1 := Al' h'
  have e2 := ct' (x := "parts") h
  have e3 := ct' (x := "parts") h'
  obtain ⟨l, hm⟩ := h.mc
  obtain ⟨l', hm'⟩ := h'.mc
  have h1 := hm.fl
  have h2 := hm.ft
  have h3 := hm.fa
  have h1' := hm'.fl
  have h2' := hm'.ft
  have h3' := hm'.fa
  unfold f_Machine___eq__
  walk_at "f0"
  clear h hm h' hm'
  walk_at "s"
  unfold f_Machine_parts
  walk_at "f"
  walk_at "f"
  rw [show D.tup [.str L, cC' T, cK' A] = ptD L T A from rfl]
  rw [uI' _ (jy' L T A) (Nat.le_trans (rS' L T A) (by decide))]
  walk_at "s"
theorem mg' {ps : List (String × String)} {w : W} {m n : Nat} {C C' : String} {L L' : Tx} {T T' : List (List Nat)} {A A' : List Nat} (h : MM w m C L T A) (h' : MM w n C' L' T' A') (hp : (C, C') ∈ ps) : sz' ps w (.obj m) (.obj n) = true := by
  obtain ⟨l, rest, _, e⟩ := h.ex
  obtain ⟨l', rest', _, e'⟩ := h'.ex
  show (match w[m]?, w[n]? with | some (.ins C _), some (.ins C' _) => decide ((C, C') ∈ ps) | _, _ => false) = true
  rw [e, e']
  exact decide_eq_true hp
theorem fu' {w : W} {L : Tx} {T : List (List Nat)} {A : List Nat} {x : Tx} (hT : a4' T T.length L.length) (hs : 0 < T.length) (hx : ∀ c ∈ x, c ∈ L) : wF (f__law_says [.str L, cC' T, cK' A, .str x] w) (fun o w' => o = .fz (.bl (decide (run L T 0 x ∈ A))) /\ w' = w) FX := by
  unfold f__law_says
  walk_at "f"
  refine bY' (fun pre ρ => ∃ y, ρ = ⟨[some (.fz (.str L)), some (.fz (cC' T)), some (.fz (cK' A)), some (.fz (.str x)), some (.fz (.int (run L T 0 pre : Nat))), y], w⟩ /\ run L T 0 pre < T.length) ⟨_, rfl, hs⟩ ?_ ?_
  . rintro pre c post _ e ⟨y, rfl, hr⟩
    have hc := hx c (by rw [e]; simp)
    obtain ⟨r, h3, h4, h5⟩ := nW' hT hr hc
    have h6 := oB' hc
    rw [n4']
    clear hc e
    walk_at "s"
    exact ⟨_, rfl⟩
  . rintro _ ⟨y, rfl, hr⟩
    walk_at "s"
theorem cZ' {word : Tx} {ns : List Nat} {below : Nat} (hw : 32 ∉ word) (hl : word.length <= 10) (hns : ∀ n ∈ ns, n < below) (hb : below <= 1000) (hn : ns.length <= 1000) (w : W) :
    wF (f_numbers_behind [.str (c2' word ns), .str word, .int below] w) (fun o w' => o = .fz (dp' ns) /\ w' = w) FX := by
  have h1 := ft' (ns := ns) hl fun n h => Nat.lt_of_lt_of_le (hns n h) hb
  have h1 : (c2' word ns).length <= 20000 := by omega
  have h2 := pe' (ns := ns) hw
  have h3 : decide (word = word) = true := decide_eq_true rfl
  unfold f_numbers_behind
  walk_at "f0"
  walk_at "s"
  refine xR' (f := fun q : Nat => D.int (0 + (q : Nat))) (cs := List.range below) (fun q => c9' q) (fun q => D.int (q : Nat)) (by simp; omega) ?_ ?_ ?_
  . exact (List.pairwise_map.mpr (List.nodup_range.imp fun h e => h (oI' e)))
  . intro q hq
    have hq := List.mem_range.mp hq
    clear h2 h1 h3
    walk_at "s"
  walk_at "l"
  rw [pq' (fun q => c9' q) (fun q => .int (q : Nat))]
  have hlk : ∀ n ∈ ns, cF' (dS ((List.range below).map fun q => (c9' q, D.int (q : Nat)))) (.str (c9' n)) = some (some (.fz (.int (n : Nat)))) := fun n h => by
    rw [xo', vI' c9' (fun q => D.int (q : Nat)) (List.mem_range.mpr (hns n h)) fun b _ e => oI' e]
    rfl
  generalize dS ((List.range below).map fun q => (c9' q, D.int (q : Nat))) = K at *
  walk_at "s"
  have e1 : List.drop 1 (D.str word :: List.map D.str (List.map c9' ns)) = ns.map fun n => D.str (c9' n) := by
    rw [List.drop_succ_cons, List.drop_zero, List.map_map]; rfl
  have e2 : t2' (.lst (ns.map fun _ => D.bl false)) = some (.bl false) := by
    have : (ns.map fun _ => D.bl false) = (ns.map fun _ => false).map D.bl := by rw [List.map_map]; rfl
    rw [this]
    show ((bools ((ns.map fun _ => false).map .bl)).map _) = _
    rw [hk', Option.map_some]
    congr 2
    simp
  rw [e1]
  refine c4' (fun _ => D.bl false) (by omega) ?_ ?_
  . intro n hm
    have hk := hlk n hm
    clear hlk e1 e2 h1 h2 h3
    walk_at "s"
  walk_at "l"
  walk_at "s"
  refine c4' (fun n => D.int (n : Nat)) (by omega) ?_ ?_
  . intro n hm
    have hk := hlk n hm
    clear hlk e1 e2 h1 h2 h3
    walk_at "s"
  intro _ _
  rw [oL']
  exact ⟨rfl, rfl⟩
theorem tu' {L : Tx} {T : List (List Nat)} {A : List Nat} (hL : L.length <= 4) (hT : a4' T T.length L.length) (hn : T.length <= 900) (hA : AccOk A T.length) : (lI' L T A).length <= 16777000 := by
  have h1 := dz' 10 (bG' L T A)
  have hal := iB' (hA.asc.imp fun h => Nat.ne_of_lt h) hA.lt
  have h2 := ko' (l := bG' L T A) (k := 11000) fun a ha => by
    rcases List.mem_cons.mp ha with rfl | ha
    . rw [List.length_append]
      show 8 + L.length <= _
      omega
    . rcases List.mem_append.mp ha with ha | ha
      . obtain ⟨r, hr, rfl⟩ := List.mem_map.mp ha
        have := ft' (word := pH') (ns := r) (by decide) fun n h => Nat.lt_of_lt_of_le ((hT.2 r hr).2 n h) (by omega)
        have := (hT.2 r hr).1
        omega
      . rw [List.mem_singleton.mp ha]
        have := ft' (word := tv') (ns := A) (by decide) fun n h => Nat.lt_of_lt_of_le (hA.lt n h) (by omega)
        omega
  have h3 : (bG' L T A).length = T.length + 2 := by simp [bG']
  rw [h3] at h1 h2
  have h4 : (T.length + 2) * 11000 <= 902 * 11000 := Nat.mul_le_mul_right _ (by omega)
  unfold lI'
  omega
theorem dx' {L : Tx} {T : List (List Nat)} {A : List Nat} (hL : LetOk L 4) (hT : a4' T T.length L.length) (hn : 1 <= T.length) (hn2 : T.length <= 900) (hA : AccOk A T.length) (w : W) :
    wF (f_read_machine [.str (lI' L T A)] w) (fun o w' => o = .fz (.obj w.length) /\ w' = w ++ [mkM "RawMachine" L T A .non dq']) FX := by
  have hle := hL.le
  have hlen := tu' hle hT hn2 hA
  have hsp := o2' (T := T) (A := A) fun c hc => (hL.abc c hc).1
  have hll : (bG' L T A).length = T.length + 2 := by simp [bG']
  have hal := iB' (hA.asc.imp fun h => Nat.ne_of_lt h) hA.lt
  have h0 : (bG' L T A)[0]? = some (wy' ++ L) := rfl
  have hx1 : (bG' L T A)[T.length + 1]? = some (c2' tv' A) := by
    unfold bG'
    rw [List.getElem?_cons_succ, List.getElem?_append_right (by simp)]
    simp
  have hm1 : ati (bG' L T A) (-1) = some (c2' tv' A) := by
    unfold ati ixn
    rw [if_neg (by decide), if_pos (by omega), Option.bind_some]
    rw [show ((-1 : Int) + ((bG' L T A).length : Nat)).toNat = T.length + 1 by omega]
    exact hx1
  have hcut : cut ((bG' L T A).map D.str) (some 1) (some (-1)) = T.map fun r => D.str (c2' pH' r) := by
    have s1 : six (T.length + 2) 0 (some 1) = 1 := by
      show (if (1 : Int) < 0 then ((1 : Int) + ((T.length + 2 : Nat) : Int)).toNat else min (1 : Int).toNat (T.length + 2)) = 1
      rw [if_neg (by decide)]
      show min 1 (T.length + 2) = 1
      omega
    have s2 : six (T.length + 2) (T.length + 2) (some (-1)) = T.length + 1 := by
      show (if (-1 : Int) < 0 then ((-1 : Int) + ((T.length + 2 : Nat) : Int)).toNat else min (-1 : Int).toNat (T.length + 2)) = _
      rw [if_pos (by decide)]
      omega
    unfold cut
    rw [List.length_map, hll, s1, s2, Nat.add_sub_cancel]
    unfold bG'
    rw [List.map_cons, List.drop_succ_cons, List.drop_zero, List.map_append, List.take_append_of_le_length (by simp), List.take_of_length_le (by simp), List.map_map]
    rfl
  have hdr : List.drop 8 (wy' ++ L) = L := rfl
  have k1 := eP' L [97, 98, 99, 100, 101, 102, 103, 104, 105, 106, 107, 108, 109, 110, 111, 112, 113, 114, 115, 116, 117, 118, 119, 120, 121, 122] w
  have k2 : ((L.all fun c => decide (c ∈ ([97, 98, 99, 100, 101, 102, 103, 104, 105, 106, 107, 108, 109, 110, 111, 112, 113, 114, 115, 116, 117, 118, 119, 120, 121, 122] : List Nat))) && decide (L.Pairwise (· < ·))) = true := by
    rw [decide_eq_true hL.asc, Bool.and_true, List.all_eq_true]
    exact fun c hc => decide_eq_true (l8'.mpr (hL.abc c hc))
  rw [k2] at k1
  clear k2
  have hne := hL.ne
  have hq : ([108, 101, 116, 116, 101, 114, 115, 32] : List Nat) ++ L = wy' ++ L := rfl
  have hself : decide (wy' ++ L = 108 :: 101 :: 116 :: 116 :: 101 :: 114 :: 115 :: 32 :: L) = true := decide_eq_true rfl
  have hml : ((T.length + 2 : Nat) : Int) - 2 = (T.length : Nat) := by omega
  generalize bG' L T A = Ls at *
  unfold f_read_machine
  walk_at "f0"
  clear hx1
  walk_at "s"
  refine k1.mono ?_
  rintro _ _ ⟨rfl, rfl⟩
  rename_i w
  have c1 : decide ((1 : Int) <= (L.length : Nat)) = true := decide_eq_true (by omega)
  have c2 : decide (((L.length : Nat) : Int) <= 4) = true := decide_eq_true (by omega)
  clear k1
  have hT2 := hT.2
  have nb := fun r (hr : r ∈ T) => cZ' (word := pH') (ns := r) (below := T.length) (by decide) (by decide) (hT2 r hr).2 (by omega) (by have := (hT2 r hr).1; omega) w
  have nb2 := cZ' (word := tv') (ns := A) (below := T.length) (by decide) (by decide) hA.lt (by omega) (by omega) w
  walk_at "s"
  refine c4' (fun r => dp' r) (by omega) ?_ ?_
  . intro r hr
    have nbr := nb r hr
    clear nb nb2 hcut hself hq
    walk_at "s"
    refine nbr.mono ?_
    rintro _ _ ⟨rfl, rfl⟩
    walk_at "s"
  walk_at "l"
  have et : D.tup (T.map fun r => dp' r) = cC' T := rfl
  have e2 : t2' (.lst (T.map fun _ => D.bl false)) = some (.bl false) := by
    have : (T.map fun _ => D.bl false) = (T.map fun _ => false).map D.bl := by rw [List.map_map]; rfl
    rw [this]
    show ((bools ((T.map fun _ => false).map .bl)).map _) = _
    rw [hk', Option.map_some]
    congr 2
    simp
  clear nb
  walk_at "s"
  refine c4' (fun _ => D.bl false) (by omega) ?_ ?_
  . intro r hr
    have h3 := (hT2 r hr).1
    clear nb2 hcut hself hq e2 et hT2
    walk_at "s"
    try simp
  walk_at "l"
  walk_at "s"
  refine nb2.mono ?_
  rintro _ _ ⟨rfl, rfl⟩
  rename_i w
  have ha := dS' A w
  rw [decide_eq_true hA.asc] at ha
  have er : dp' A = cK' A := rfl
  clear nb2
  walk_at "s"
  refine ha.mono ?_
  rintro _ _ ⟨rfl, rfl⟩
  rename_i w
  clear ha
  walk_at "s"
  refine (tR' (A := A) rfl).mono ?_
  rintro _ _ ⟨rfl, rfl⟩
  walk_at "s"
theorem pT' {w : W} {n : Nat} {L : Tx} {m : Nat} (h : eE' w n) (hl : 1 <= L.length) (hl2 : L.length < 1000) (hm : m < 100000) : wF (f__law_word [.obj n, .str L, .int m] w) (fun o w' => ∃ s : Tx, o = .fz (.str s) /\ s.length = m /\ (∀ c ∈ s, c ∈ L) /\ eE' w' n /\ But n w w') FX := by
  unfold f__law_word
  walk_at "f"
  refine e5' (fun k ρ => ∃ x w', ∃ s : Tx, ρ = ⟨[some (.fz (.obj n)), some (.fz (.str L)), some (.fz (.int m)), some (.fz (.str s)), x], w'⟩ /\ s.length = k /\ (∀ c ∈ s, c ∈ L) /\ eE' w' n /\ But n w w') ⟨_, _, _, rfl, rfl, by simp, h, But.refl⟩ ?_ ?_
  . rintro k _ hk ⟨x, w1, s, rfl, hs, hc, h1, b1⟩
    walk_at "s"
    refine (bJ' h1 (by omega) (by omega)).mono ?_
    rintro _ w2 ⟨d, rfl, hd, h2, b2⟩
    walk_at "s"
    refine jM' (by omega) fun c hcL _ => ?_
    walk_at "s"
    exact ⟨_, _, s ++ [c], rfl, by simp [hs], by simpa [or_imp, forall_and] using ⟨hc, hcL⟩, h2, b1.trans b2⟩
  . rintro _ ⟨x, w1, s, rfl, hs, hc, h1, b1⟩
    walk_at "s"
    exact ⟨s, rfl, hs, hc⟩
def psx (L : Tx) (T1 T2 : List (List Nat)) (p : Nat × Nat) (c : Nat) : Nat × Nat := (stp L T1 p.1 c, stp L T2 p.2 c)
theorem mb' {L : Tx} {T1 T2 : List (List Nat)} : ∀ (z : Tx) (p : Nat × Nat), vL' (psx L T1 T2) p z = (run L T1 p.1 z, run L T2 p.2 z)
  | [], _ => rfl
  | c :: z, p => mb' z (psx L T1 T2 p c)
def BT' (n m : Nat) : List (Nat × Nat) := (List.range n).flatMap fun s => (List.range m).map fun t => (s, t)
theorem uT' (n m : Nat) : (BT' n m).length = n * m := by
  unfold BT'
  induction n with
  | zero => simp
  | succ n ih =>
    rw [List.range_succ, List.flatMap_append, List.length_append, ih]
    simp [Nat.succ_mul]
theorem ue' {n m s t : Nat} (h1 : s < n) (h2 : t < m) : (s, t) ∈ BT' n m :=
  List.mem_flatMap.mpr ⟨s, List.mem_range.mpr h1, List.mem_map.mpr ⟨t, List.mem_range.mpr h2, rfl⟩⟩
theorem rE' {L : Tx} {T1 T2 : List (List Nat)} (h1 : a4' T1 T1.length L.length) (h2 : a4' T2 T2.length L.length) (n1 : 1 <= T1.length) (n2 : 1 <= T2.length) {g : Nat × Nat} (h : Rch L (psx L T1 T2) (0, 0) g) : g.1 < T1.length /\ g.2 < T2.length := by
  obtain ⟨z, hz, rfl⟩ := h
  rw [mb']
  exact ⟨n5' h1 n1 hz, n5' h2 n2 hz⟩
theorem xI' {L : Tx} {T1 T2 : List (List Nat)} (h1 : a4' T1 T1.length L.length) (h2 : a4' T2 T2.length L.length) (n1 : 1 <= T1.length) (n2 : 1 <= T2.length) : Few L (psx L T1 T2) (0, 0) (T1.length * T2.length) :=
  Aw' (BT' T1.length T2.length) (by rw [uT']; exact Nat.le_refl _) fun g hg => by
    obtain ⟨a, b⟩ := rE' h1 h2 n1 n2 hg
    exact ue' a b
def eP (p : Nat × Nat) : D := .tup [.int (p.1 : Nat), .int (p.2 : Nat)]
theorem Ae' : KeyE eP := by
  refine ⟨fun a b => ?_, fun a => rfl, fun a => by show dep (.tup _) <= 8; simp [dep, deps], fun _ _ => rfl⟩
  obtain ⟨a1, a2⟩ := a
  obtain ⟨b1, b2⟩ := b
  simp only [eP, eqb, eqbs, Bool.and_true]
  rw [Bool.eq_iff_iff]
  simp
  omega
theorem kV' {L : Tx} {T : List (List Nat)} {A : List Nat} (hL : L.length <= 4) (hT : a4' T T.length L.length) (hn : T.length <= 900) (hA : AccOk A T.length) : ((bG' L T A).map List.length).sum + (bG' L T A).length * 1 <= 16777000 := by
  have hal := iB' (hA.asc.imp fun h => Nat.ne_of_lt h) hA.lt
  have h2 := ko' (l := bG' L T A) (k := 11000) fun a ha => by
    rcases List.mem_cons.mp ha with rfl | ha
    . rw [List.length_append]
      show 8 + L.length <= _
      omega
    . rcases List.mem_append.mp ha with ha | ha
      . obtain ⟨r, hr, rfl⟩ := List.mem_map.mp ha
        have := ft' (word := pH') (ns := r) (by decide) fun n h => Nat.lt_of_lt_of_le ((hT.2 r hr).2 n h) (by omega)
        have := (hT.2 r hr).1
        omega
      . rw [List.mem_singleton.mp ha]
        have := ft' (word := tv') (ns := A) (by decide) fun n h => Nat.lt_of_lt_of_le (hA.lt n h) (by omega)
        omega
  have h3 : (bG' L T A).length = T.length + 2 := by simp [bG']
  rw [h3] at h2 ⊢
  have h4 : (T.length + 2) * 11000 <= 902 * 11000 := Nat.mul_le_mul_right _ (by omega)
  omega
theorem ua' {word : Tx} {ns : List Nat} (h : word.length <= 10) (hn : ∀ n ∈ ns, n < 1000) (hl : ns.length <= 1000) : ((word :: ns.map c9').map List.length).sum + (word :: ns.map c9').length * 1 <= 16777216 := by
  have h2 := ko' (l := word :: ns.map c9') (k := 10) fun a ha => by
    rcases List.mem_cons.mp ha with rfl | ha
    . exact h
    . obtain ⟨n, hm, rfl⟩ := List.mem_map.mp ha
      have := fA' (n := n) (k := 3) (by decide) (hn n hm)
      omega
  simp only [List.length_cons, List.length_map] at h2 ⊢
  omega
theorem gC' {word : Tx} {ns : List Nat} (h : word.length <= 10) (hn : ∀ n ∈ ns, n < 1000) (hl : ns.length <= 1000) (w : W) :
    wF (f_line_of [.str word, dp' ns] w) (fun o w' => o = .fz (.str (c2' word ns)) /\ w' = w) FX := by
  have hs := ua' h hn hl
  unfold f_line_of
  walk_at "f0"
  walk_at "s"
  refine c4' (fun q : Nat => D.str (c9' q)) (by omega) ?_ ?_
  . intro q hq
    have h1 := hn q hq
    clear hs
    walk_at "s"
  walk_at "l"
  walk_at "s"
  rw [show D.lst (D.str word :: ns.map fun q => D.str (c9' q)) = .lst ((word :: ns.map c9').map .str) by rw [List.map_cons, List.map_map]; rfl]
  rw [mz', List.length_singleton, gR' hs]
  exact ⟨rfl, rfl⟩
theorem k7' {word : Tx} : ∀ {ns : List Nat}, word ++ (ns.map fun n => 32 :: c9' n).flatten = c2' word ns := by
  intro ns
  induction ns generalizing word with
  | nil => simp [c2', cg']
  | cons n ns ih =>
    have := ih (word := c9' n)
    rw [List.map_cons, List.flatten_cons, List.cons_append, this]
    rfl
theorem c0' {w : W} {m : Nat} {C : String} {L : Tx} {T : List (List Nat)} {A : List Nat} (h : MM w m C L T A) (hL : L.length <= 4) (hT : a4' T T.length L.length) (hn : T.length <= 900) (hA : AccOk A T.length) :
    wF (f_machine_text [.obj m] w) (fun o w' => o = .fz (.str (lI' L T A)) /\ w' = w) FX := by
  obtain ⟨l, hm⟩ := h.mc
  have h1 := hm.fl
  have h2 := hm.ft
  have h3 := hm.fa
  have hal := iB' (hA.asc.imp fun h => Nat.ne_of_lt h) hA.lt
  have hs := kV' hL hT hn hA
  have ka := gC' (word := [97, 99, 99, 101, 112, 116, 115]) (ns := A) (by decide) (fun n h => Nat.lt_of_lt_of_le (hA.lt n h) (by omega)) (by omega) w
  have kr : ∀ r ∈ T, wF (f_line_of [.str [115, 116, 97, 116, 101], dp' r] w) (fun o w' => o = .fz (.str (c2' pH' r)) /\ w' = w) FX := fun r hr =>
    gC' (word := [115, 116, 97, 116, 101]) (by decide) (fun n h => Nat.lt_of_lt_of_le ((hT.2 r hr).2 n h) (by omega)) (by have := (hT.2 r hr).1; omega) w
  unfold f_machine_text
  walk_at "f0"
  clear h hm
  walk_at "s"
  refine c4' (fun r : List Nat => D.str (c2' pH' r)) (by omega) ?_ ?_
  . intro r hr
    have k := kr r hr
    clear kr ka hs
    walk_at "s"
    refine k.mono ?_
    rintro _ _ ⟨rfl, rfl⟩
    walk_at "s"
  walk_at "l"
  rw [show cK' A = dp' A from rfl] at h3
  walk_at "s"
  refine ka.mono ?_
  rintro _ _ ⟨rfl, rfl⟩
  clear ka kr
  walk_at "s"
  rw [show frzs (O.fz (D.str (108 :: 101 :: 116 :: 116 :: 101 :: 114 :: 115 :: 32 :: L)) :: List.map O.fz (List.map (fun r => D.str (c2' pH' r)) T ++ [D.str (c2' [97, 99, 99, 101, 112, 116, 115] A)])) = (bG' L T A).map .str by
    rw [ed']
    simp only [bG', List.map_cons, List.map_map, List.map_append]
    rfl]
  rw [mz', List.length_singleton, gR' (by omega)]
  exact ⟨rfl, rfl⟩
theorem gm' {L : Tx} {T : List (List Nat)} {A : List Nat} (hL : L.length <= 4) (hT : a4' T T.length L.length) (hn : T.length <= 900) (hA : AccOk A T.length) (w : W) :
    wF (f__law_written [.str L, cC' T, cK' A] w) (fun o w' => o = .fz (.str (lI' L T A)) /\ w' = w) FX := by
  have hal := iB' (hA.asc.imp fun h => Nat.ne_of_lt h) hA.lt
  have hs := kV' hL hT hn hA
  have hlen : ∀ (word : Tx) (ns : List Nat), word.length <= 10 -> (∀ n ∈ ns, n < 1000) -> ns.length <= 1000 -> ((ns.map fun n => 32 :: c9' n).map List.length).sum <= 16000 := fun word ns h1 h2 h3 => by
    have := ko' (l := ns.map fun n => 32 :: c9' n) (k := 16) fun a ha => by
      obtain ⟨n, hm, rfl⟩ := List.mem_map.mp ha
      have := fA' (n := n) (k := 3) (by decide) (h2 n hm)
      rw [List.length_cons]; omega
    rw [List.length_map] at this
    omega
  have hrow : ∀ r ∈ T, (∀ n ∈ r, n < 1000) /\ r.length <= 4 := fun r hr => ⟨fun n hn => by have := (hT.2 r hr).2 n hn; omega, by have := (hT.2 r hr).1; omega⟩
  unfold f__law_written
  walk_at "f0"
  walk_at "s"
  refine bY' (fun pre ρ => ∃ x4, ρ = ⟨[some (.fz (.str L)), some (.fz (cC' T)), some (.fz (cK' A)), some (.lst (.fz (.str (wy' ++ L)) :: pre.map fun r => .fz (.str (c2' pH' r)))), x4, none, none], w⟩) ⟨_, rfl⟩ ?_ ?_
  . rintro pre r post _ e ⟨x4, rfl⟩
    obtain ⟨r1, r2⟩ := hrow r (by rw [e]; simp)
    have hpl : pre.length < 1000 := by
      have := congrArg List.length e
      simp at this
      omega
    have hsum := hlen [] r (by decide) r1 (by omega)
    clear e hrow hlen hs
    walk_at "s"
    refine c4' (fun q : Nat => D.str (32 :: c9' q)) (by omega) ?_ ?_
    . intro q hq
      have h1 := r1 q hq
      have h2 := fA' (n := q) (k := 3) (by decide) h1
      clear hsum
      walk_at "s"
    walk_at "l"
    walk_at "s"
    rw [show D.lst (r.map fun q => D.str (32 :: c9' q)) = .lst ((r.map fun q => 32 :: c9' q).map .str) by rw [List.map_map]; rfl]
    rw [sN', lG' (by omega)]
    have hfl : ((r.map fun q => 32 :: c9' q).flatten).length <= 16000 := by rw [List.length_flatten]; exact hsum
    have hline : (115 :: 116 :: 97 :: 116 :: 101 :: (r.map fun q => 32 :: c9' q).flatten) = c2' pH' r := k7' (word := pH')
    walk_at "s"
    exact ⟨_, by rw [List.map_append]; rfl⟩
  rintro _ ⟨x4, rfl⟩
  have hsum := hlen [] A (by decide) (fun n hn => by have := hA.lt n hn; omega) (by omega)
  have hA3 : ∀ q ∈ A, q < 1000 := fun n hn => by have := hA.lt n hn; omega
  clear hrow hlen
  walk_at "s"
  refine c4' (fun q : Nat => D.str (32 :: c9' q)) (by omega) ?_ ?_
  . intro q hq
    have h1 := hA3 q hq
    have h2 := fA' (n := q) (k := 3) (by decide) h1
    clear hsum hs
    walk_at "s"
  walk_at "l"
  walk_at "s"
  rw [show D.lst (A.map fun q => D.str (32 :: c9' q)) = .lst ((A.map fun q => 32 :: c9' q).map .str) by rw [List.map_map]; rfl]
  rw [sN', lG' (by omega)]
  have hfl : ((A.map fun q => 32 :: c9' q).flatten).length <= 16000 := by rw [List.length_flatten]; exact hsum
  have hline : (97 :: 99 :: 99 :: 101 :: 112 :: 116 :: 115 :: (A.map fun q => 32 :: c9' q).flatten) = c2' tv' A := k7' (word := tv')
  walk_at "s"
  rw [show frzs (O.fz (D.str (wy' ++ L)) :: (List.map (fun r => O.fz (D.str (c2' pH' r))) T ++ [O.fz (D.str (c2' tv' A))])) = (bG' L T A).map .str by
    rw [ed']
    simp only [bG', List.map_cons, List.map_map, List.map_append]
    rfl]
  rw [mz', List.length_singleton, gR' (by omega)]
  exact ⟨rfl, rfl⟩
def itr (f : Nat -> Nat) : Nat -> Nat -> Nat
  | 0, s => s
  | n + 1, s => itr f n (f s)
theorem me' (f : Nat -> Nat) : ∀ (a b s : Nat), itr f (a + b) s = itr f b (itr f a s)
  | 0, b, s => by rw [Nat.zero_add]; rfl
  | a + 1, b, s => by rw [show a + 1 + b = (a + b) + 1 by omega]; exact me' f a b (f s)
theorem vN' {f : Nat -> Nat} {z : Nat} (h : ∀ s, s < z -> f s < z) : ∀ (n s : Nat), s < z -> itr f n s < z
  | 0, _, hs => hs
  | n + 1, s, hs => vN' h n (f s) (h s hs)
theorem rz' (L T x) : ∀ (k s : Nat), run L T s (List.replicate k x).flatten = itr (fun s => run L T s x) k s
  | 0, s => rfl
  | k + 1, s => by
    rw [List.replicate_succ, List.flatten_cons, o7']
    exact rz' L T x k _
theorem gf' {t : Nat} (h : t <= 1000000000000000000000000000000) (w : W) : wF (f_check_number [.int t, .int 0, .int 1000000000000000000000000000000] w) (fun o w' => o = .fz .non /\ w' = w) FX := by
  unfold f_check_number
  walk_at "f"
  refine (ec' _ w).mono ?_
  rintro _ _ ⟨rfl, rfl⟩
  walk_at "s"
def HdF (o : O) (ds : List D) : Prop := o = .lst (ds.map .fz) \/ o = .fz (.lst ds)
def dO' (f : Nat -> Nat) (z : Nat) : List D := (List.range z).map fun s => .int (f s : Nat)
theorem lS' {w : W} {m : Nat} {C : String} {L : Tx} {T : List (List Nat)} {A : List Nat} {x : Tx} {t : Nat} (hm : MM w m C L T A) (hT : a4' T T.length L.length) (hs : 0 < T.length) (hs2 : T.length <= 400) (hx : ∀ c ∈ x, c ∈ L) (ht : t <= 1000000000000000000000000000000) : wF (f_says_far [.obj m, .str x, .int t] w) (fun o w' => o = .fz (.bl (decide (itr (fun s => run L T s x) t 0 ∈ A))) /\ w' = w) FX := by
  have k0 := fE' hm hx
  have kl := fun s (h : s < T.length) => vK' hm hT h hx
  obtain ⟨l0, hm0⟩ := hm.mc
  have h1 := hm0.fa
  have h2 := hm0.ft
  have hf : ∀ s, s < T.length -> run L T s x < T.length := fun s h => n5' hT h hx
  unfold f_says_far
  walk_at "f0"
  clear hm hm0
  revert kl
  walk_at "s"
  intro kl
  refine k0.mono ?_
  rintro _ _ rfl
  clear k0
  walk_at "s"
  refine (gf' ht _).mono ?_
  rintro _ _ ⟨rfl, rfl⟩
  walk_at "s"
  rename_i w
  refine eO' (by simp; omega) (fun pre acc ρ => acc = pre.map (fun s => .int (run L T s x : Nat)) /\ ∃ y, ρ = ⟨[some (.fz (.obj m)), some (.fz (.str x)), some (.fz (.int t)), none, y, none], w⟩) ⟨rfl, _, rfl⟩ ?_ ?_
  . rintro pre c post acc _ e ⟨rfl, y, rfl⟩
    obtain ⟨rfl, hlt⟩ := cV' e
    clear e
    have k := kl _ hlt
    clear kl
    walk_at "s"
    refine k.mono ?_
    rintro _ _ ⟨rfl, rfl⟩
    walk_at "s"
    exact ⟨by simp, _, rfl⟩
  . rintro _ _ ⟨rfl, y, rfl⟩
    walk_at "s"
    refine hr' (fun k ρ => ∃ o3 x5, ∃ p q s : Nat, ρ = ⟨[some (.fz (.obj m)), some (.fz (.str x)), some (.fz (.int (q : Nat))), some o3, some (.fz (.int (s : Nat))), x5], w⟩ /\ HdF o3 (dO' (itr (fun s => run L T s x) p) T.length) /\ q < 2 ^ k /\ s < T.length /\ itr (fun s => run L T s x) (p * q) s = itr (fun s => run L T s x) t 0) 100 (by decide) ⟨_, _, 1, t, 0, rfl, .inl rfl, by omega, hs, by rw [Nat.one_mul]⟩ ?_
    rintro k _ ⟨o3, x5, p, q, s, rfl, ho, hq, hsT, he⟩
    have hg : ∀ s, s < T.length -> itr (fun s => run L T s x) p s < T.length := fun s h => vN' hf p s h
    walk_at "s"
    refine cH' (fun h0 => ?_) (fun h0 => ?_)
    . walk_at "s"
      have hdm := Nat.div_add_mod q 2
      refine pV' (fun ρ => ∃ o3 x5, ∃ s : Nat, ρ = ⟨[some (.fz (.obj m)), some (.fz (.str x)), some (.fz (.int (q : Nat))), some o3, some (.fz (.int (s : Nat))), x5], w⟩ /\ HdF o3 (dO' (itr (fun s => run L T s x) p) T.length) /\ s < T.length /\ itr (fun s => run L T s x) (p * 2 * (q / 2)) s = itr (fun s => run L T s x) t 0) (cH' (fun h3 => ?_) (fun h3 => ?_)) ?_
      . have hq1 : q = 1 + 2 * (q / 2) := by omega
        have e2 : itr (fun s => run L T s x) (p * 2 * (q / 2)) (itr (fun s => run L T s x) p s) = itr (fun s => run L T s x) t 0 := by
          rw [<- he, <- me']
          congr 1
          rw [congrArg (p * ·) hq1, Nat.mul_add, Nat.mul_one, Nat.mul_assoc]
        have e3 : (dO' (itr (fun s => run L T s x) p) T.length)[s]? = some (.int (itr (fun s => run L T s x) p s : Nat)) := by
          unfold dO'; rw [List.getElem?_map, List.getElem?_range hsT]; rfl
        have hlt := hg s hsT
        clear he hq1
        rcases ho with rfl | rfl
        . walk_at "s"
          exact ⟨_, _, _, rfl, .inr rfl, hlt, e2⟩
        . walk_at "s"
          exact ⟨_, _, _, rfl, .inr rfl, hlt, e2⟩
      . have hq1 : q = 2 * (q / 2) := by omega
        have e2 : itr (fun s => run L T s x) (p * 2 * (q / 2)) s = itr (fun s => run L T s x) t 0 := by
          rw [<- he]
          congr 1
          rw [Nat.mul_assoc, <- hq1]
        clear he hq1
        walk_at "s"
        exact ⟨_, _, _, rfl, ho, hsT, e2⟩
      . clear ho he hsT
        rintro _ ⟨o3, x5, s, rfl, ho, hsT, he⟩
        have key : ∀ o3', HdF o3' (dO' (itr (fun s => run L T s x) p) T.length) -> ∀ (x5' : Option O) (s1 : Nat), s1 < T.length -> ∃ r, (dO' (itr (fun s => run L T s x) p) T.length)[s1]? = some (.int (r : Nat)) /\ r < T.length /\ r = itr (fun s => run L T s x) p s1 := by
          intro _ _ _ s1 h1
          exact ⟨itr (fun s => run L T s x) p s1, by unfold dO'; rw [List.getElem?_map, List.getElem?_range h1]; rfl, hg s1 h1, rfl⟩
        have fin : ∀ o3', o3' = O.fz (.lst (dO' (itr (fun s => run L T s x) p) T.length)) -> ∀ x5' : Option O, wE (lcL [5] (gN 5) tT (eOp pIx (eV 3) (eV 5)) (dO' (itr (fun s => run L T s x) p) T.length) [] ⟨[some (.fz (.obj m)), some (.fz (.str x)), some (.fz (.int (q : Nat))), some o3', some (.fz (.int (s : Nat))), x5'], w⟩) (fun ys ρ => ys = dO' (itr (fun s => run L T s x) (p * 2)) T.length /\ ∃ y, ρ = ⟨[some (.fz (.obj m)), some (.fz (.str x)), some (.fz (.int (q : Nat))), some o3', some (.fz (.int (s : Nat))), y], w⟩) PX := by
          rintro _ rfl x5'
          conv => arg 1; arg 6; unfold dO'
          refine eO' (by simp; omega) (fun pre acc ρ => acc = pre.map (fun s => .int (itr (fun s => run L T s x) (p * 2) s : Nat)) /\ ∃ y, ρ = ⟨[some (.fz (.obj m)), some (.fz (.str x)), some (.fz (.int (q : Nat))), some (.fz (.lst (dO' (itr (fun s => run L T s x) p) T.length))), some (.fz (.int (s : Nat))), y], w⟩) ⟨rfl, _, rfl⟩ ?_ ?_
          . rintro pre c post acc _ e ⟨rfl, y, rfl⟩
            obtain ⟨rfl, hlt⟩ := cV' e
            clear e
            have hl1 := hg _ hlt
            obtain ⟨r, e1, h3, h4⟩ := key _ (.inr rfl) none _ hl1
            have e5 : itr (fun s => run L T s x) (p * 2) pre.length = r := by rw [h4, Nat.mul_comm, Nat.two_mul, me']
            clear h4
            walk_at "s"
            exact ⟨by simp [e5], _, rfl⟩
          . rintro _ _ ⟨rfl, y, rfl⟩
            exact ⟨rfl, _, rfl⟩
        clear key
        have hk : k ≠ 0 := by rintro rfl; simp at hq; omega
        have hq2 : q / 2 < 2 ^ (k - 1) := by
          have : 2 ^ k = 2 * 2 ^ (k - 1) := by rw [<- Nat.pow_succ']; congr 1; omega
          omega
        have e7 : ((q : Int) / 2) = ((q / 2 : Nat) : Int) := by omega
        rcases ho with rfl | rfl
        . walk_at "s"
          refine (fin _ rfl _).mono ?_ (fun _ _ h => h.elim)
          rintro _ _ ⟨rfl, y, rfl⟩
          walk_at "s"
          exact ⟨k - 1, by omega, _, _, p * 2, q / 2, s, rfl, .inl rfl, hq2, hsT, he⟩
        . walk_at "s"
          refine (fin _ rfl _).mono ?_ (fun _ _ h => h.elim)
          rintro _ _ ⟨rfl, y, rfl⟩
          walk_at "s"
          exact ⟨k - 1, by omega, _, _, p * 2, q / 2, s, rfl, .inl rfl, hq2, hsT, he⟩
    . have hq0 : q = 0 := by omega
      subst hq0
      rw [Nat.mul_zero] at he
      have he' : s = itr (fun s => run L T s x) t 0 := he
      clear he
      subst he'
      walk_at "s"
theorem fT' {w : W} {n : Nat} (h : eE' w n) : wF (f__law_some_letters [.obj n] w) (fun o w' => ∃ L, o = .fz (.str L) /\ LetOk L 4 /\ eE' w' n /\ But n w w') FX := by
  unfold f__law_some_letters
  walk_at "f0"
  walk_at "s"
  refine (bJ' h (by omega) (by omega)).mono ?_
  rintro _ w1 ⟨d, rfl, hd, h1, b1⟩
  have kl := kW' (s := abc) (m := 1 + d) h1 (by decide) (by show 1 + d <= 26; omega)
  rw [show ((1 + d : Nat) : Int) = 1 + (d : Nat) by omega] at kl
  walk_at "s"
  refine kl.mono ?_
  rintro _ w2 ⟨r, t, rfl, hr, hp, h2, b2⟩
  clear kl
  have hnd : r.Nodup := by
    have := hp.nodup_iff.mpr (by decide)
    exact (List.nodup_append.mp this).2.1
  have hlow : ∀ c ∈ dY' r, 97 <= c /\ c <= 122 := fun c hc => l8'.mp (hp.mem_iff.mp (List.mem_append.mpr (.inr ((iV' r).mem_iff.mp hc))))
  have hlen := rh' r
  have hl26 : (dY' r).length <= 16777216 := by omega
  walk_at "s"
  exact ⟨_, rfl, ⟨by omega, by omega, tC' hnd, hlow⟩, b1.trans b2⟩
theorem iN' {w : W} {n many size : Nat} (h : eE' w n) (h1 : 1 <= many) (h2 : many <= 100) (h3 : 1 <= size) (h4 : size <= 100) :
    wF (f__law_any_table [.obj n, .int many, .int size] w) (fun o w' => ∃ T, o = .fz (cC' T) /\ a4' T size many /\ eE' w' n /\ But n w w') FX := by
  unfold f__law_any_table
  walk_at "f0"
  walk_at "s"
  refine (bJ' h (by omega) (by omega)).mono ?_
  rintro _ w1 ⟨d, rfl, hd, hh1, b1⟩
  walk_at "s"
  refine cH' (fun hc => ?_) (fun hc => ?_)
  . walk_at "s"
    refine eO' (by simp; omega) (fun pre acc ρ => ∃ T : List (List Nat), ∃ w' x5, acc = T.map dp' /\ T.length = pre.length /\ (∀ r ∈ T, r.length = many /\ ∀ t ∈ r, t < size) /\ (∃ x4, ρ = ⟨[some (.fz (.obj n)), some (.fz (.int (many : Nat))), some (.fz (.int (size : Nat))), none, x4, x5, none], w'⟩) /\ Pl x5 /\ eE' w' n /\ But n w w') ⟨[], w1, none, rfl, rfl, nofun, ⟨_, rfl⟩, .inl rfl, hh1, b1⟩ ?_ ?_
    . rintro pre c post acc _ e ⟨T, w2, x5, rfl, hTl, hT, ⟨x4, rfl⟩, hx, hh2, b2⟩
      obtain ⟨rfl, hlt⟩ := cV' e
      clear e
      rcases hx with rfl | ⟨d5, rfl⟩
      all_goals
        walk_at "s"
        refine eO' (by simp; omega) (fun pre2 acc ρ => ∃ r : List Nat, ∃ w' y, acc = r.map (fun t => D.int (t : Nat)) /\ r.length = pre2.length /\ (∀ t ∈ r, t < size) /\ ρ = ⟨[some (.fz (.obj n)), some (.fz (.int (many : Nat))), some (.fz (.int (size : Nat))), none, some (.fz (.int (pre.length : Nat))), y, none], w'⟩ /\ eE' w' n /\ But n w w') ⟨[], w2, _, rfl, rfl, nofun, rfl, hh2, b2⟩ ?_ ?_
        . rintro pre2 c2 post2 acc _ e2 ⟨r, w3, y, rfl, hrl, hr, rfl, hh3, b3⟩
          clear e2
          have kd := bJ' (m := (size : Nat)) hh3 (by omega) (by omega)
          walk_at "s"
          refine kd.mono ?_
          rintro _ w4 ⟨v, rfl, hv, hh4, b4⟩
          clear kd
          walk_at "s"
          refine ⟨r ++ [v], _, _, by rw [List.map_append]; rfl, by simp [hrl], fun t ht => ?_, rfl, hh4, b3.trans b4⟩
          rcases List.mem_append.1 ht with ht | ht
          . exact hr t ht
          . rw [List.mem_singleton.1 ht]; omega
        . rintro acc _ ⟨r, w3, y, rfl, hrl, hr, rfl, hh3, b3⟩
          rw [List.length_range] at hrl
          walk_at "s"
          refine ⟨T ++ [r], _, _, by rw [List.map_append]; rfl, by simp [hTl], fun q hq => ?_, ⟨_, rfl⟩, by first | exact .inl rfl | exact .inr ⟨_, rfl⟩, hh3, b3⟩
          rcases List.mem_append.1 hq with hq | hq
          . exact hT q hq
          . rw [List.mem_singleton.1 hq]; exact ⟨hrl, hr⟩
    . rintro acc _ ⟨T, w2, x5, rfl, hTl, hT, ⟨x4, rfl⟩, hx, hh2, b2⟩
      rw [List.length_range] at hTl
      rw [oL']
      exact ⟨T, rfl, ⟨hTl, hT⟩, hh2, b2⟩
  . walk_at "s"
    refine eO' (by simp; omega) (fun pre2 acc ρ => ∃ r : List Nat, ∃ w' y, acc = r.map (fun t => D.int (t : Nat)) /\ r.length = pre2.length /\ (∀ t ∈ r, t < size) /\ ρ = ⟨[some (.fz (.obj n)), some (.fz (.int (many : Nat))), some (.fz (.int (size : Nat))), none, none, y, none], w'⟩ /\ eE' w' n /\ But n w w') ⟨[], w1, _, rfl, rfl, nofun, rfl, hh1, b1⟩ ?_ ?_
    . rintro pre2 c2 post2 acc _ e2 ⟨r, w3, y, rfl, hrl, hr, rfl, hh3, b3⟩
      clear e2
      have kd := bJ' (m := (size : Nat)) hh3 (by omega) (by omega)
      walk_at "s"
      refine kd.mono ?_
      rintro _ w4 ⟨v, rfl, hv, hh4, b4⟩
      clear kd
      walk_at "s"
      refine ⟨r ++ [v], _, _, by rw [List.map_append]; rfl, by simp [hrl], fun t ht => ?_, rfl, hh4, b3.trans b4⟩
      rcases List.mem_append.1 ht with ht | ht
      . exact hr t ht
      . rw [List.mem_singleton.1 ht]; omega
    . rintro acc _ ⟨r, w3, y, rfl, hrl, hr, rfl, hh3, b3⟩
      rw [List.length_range] at hrl
      walk_at "s"
      have hrm : (r.map (fun t => D.int (t : Nat))).map O.fz = r.map fun t => O.fz (.int (t : Nat)) := by rw [List.map_map]; rfl
      have efr : frzs (r.map fun t => O.fz (.int (t : Nat))) = r.map fun t => D.int (t : Nat) := by rw [ed', List.map_map]; rfl
      refine eO' (by simp; omega) (fun pre acc ρ => acc = (List.range pre.length).map (fun i => dp' (r.map fun v => (i + v) % size)) /\ ∃ o3 y4, ρ = ⟨[some (.fz (.obj n)), some (.fz (.int (many : Nat))), some (.fz (.int (size : Nat))), some o3, y4, none, none], w3⟩ /\ (o3 = .lst ((r.map (fun t => D.int (t : Nat))).map .fz) \/ o3 = .fz (.lst (r.map fun t => D.int (t : Nat))))) ⟨rfl, _, _, rfl, .inl rfl⟩ ?_ ?_
      . rintro pre c post acc _ e ⟨rfl, o3, y4, rfl, h3⟩
        obtain ⟨rfl, hlt⟩ := cV' e
        clear e
        have el : (pre ++ [pre.length]).length = pre.length + 1 := by simp
        rw [el, List.range_succ, List.map_append]
        have hsz : size ≠ 0 := by omega
        rcases h3 with rfl | rfl
        all_goals
          walk_at "s"
          refine c4' (fun v : Nat => D.int (((pre.length + v) % size : Nat) : Int)) (by omega) ?_ ?_
          . intro v hv
            have hm : ((pre.length : Int) + (v : Int)) % (size : Int) = (((pre.length + v) % size : Nat) : Int) := rfl
            walk_at "s"
          walk_at "l"
          walk_at "s"
          refine ⟨?_, _, _, rfl, .inr rfl⟩
          simp [dp']
      . rintro acc _ ⟨rfl, o3, y4, rfl, h3⟩
        rw [List.length_range, oL']
        refine ⟨(List.range size).map fun i => r.map fun v => (i + v) % size, by simp [cC'], ⟨by simp, fun q hq => ?_⟩, hh3, b3⟩
        obtain ⟨i, _, rfl⟩ := List.mem_map.1 hq
        refine ⟨by rw [List.length_map, hrl], fun t ht => ?_⟩
        obtain ⟨v, _, rfl⟩ := List.mem_map.1 ht
        exact Nat.mod_lt _ (by omega)
theorem gs' {F : List Nat} {n : Nat} (h : F <+: List.range n) : F = List.range F.length := by
  obtain ⟨G, e⟩ := h
  have hl : F.length <= n := by have := congrArg List.length e; simp at this; omega
  have := congrArg (List.take F.length) e
  rw [List.take_left, List.take_range, Nat.min_eq_left hl] at this
  exact this
theorem jL' {T : List (List Nat)} {m : Nat} (hT : a4' T T.length m) (hn : 1 <= T.length) (hn2 : T.length <= 400) (hm : m <= 1000) (hr : reach T = List.range T.length) (w : W) :
    wF (f__law_in_order [cC' T] w) (fun o w' => o = .fz (.bl true) /\ w' = w) FX := by
  have hpre : ∀ j, j <= T.length -> bfs T j = List.range (bfs T j).length := fun j hj => gs' (n := T.length) (by rw [<- hr]; exact cP' hj)
  have hlt : ∀ j, j < T.length -> j < (bfs T j).length := fun j hj => by
    refine Classical.byContradiction fun h => ?_
    have e := g8' hT hn (j := j) (by omega)
    rw [hr] at e
    have := congrArg List.length e
    rw [List.length_range] at this
    omega
  have hpos : ∀ j, 1 <= (bfs T j).length := fun j => by
    have := (cP' (T := T) (Nat.zero_le j)).length_le
    simpa [bfs] using this
  unfold f__law_in_order
  walk_at "f0"
  walk_at "s"
  refine e5' (fun j ρ => ∃ f : Nat, ∃ x2 x3, ρ = ⟨[some (.fz (cC' T)), some (.fz (.int (f : Nat))), x2, x3], w⟩ /\ f + 1 = (bfs T j).length) ⟨0, _, _, rfl, rfl⟩ ?_ ?_
  . rintro j _ hj ⟨f, x2, x3, rfl, hf⟩
    have h1 := hlt j hj
    have g1 : decide ((j : Int) > (f : Nat)) = false := decide_eq_false (by omega)
    have hb := hpre j (by omega)
    have hg : (bfs T j)[j]? = some j := by rw [hb, List.getElem?_range h1]
    have hgo := ji' hg
    have hb1 := hpre (j + 1) (by omega)
    have hrow := dh' hT hj
    rw [hgo] at hb1 ⊢
    rw [<- hf] at hb
    have hpr : ∀ pre : List Nat, pre <+: aH' T j -> cu' (List.range (f + 1)) pre = List.range (cu' (List.range (f + 1)) pre).length := fun pre hp => by
      obtain ⟨q, hq⟩ := hp
      have h2 : cu' (bfs T j) pre <+: cu' (bfs T j) (aH' T j) := by rw [<- hq, c6']; exact dJ'
      rw [hb1, hb] at h2
      exact gs' h2
    rw [hb]
    clear hb hb1 hgo hg h1 hf
    walk_at "s"
    refine bY' (fun pre ρ => ∃ f2 : Nat, ∃ x3, ρ = ⟨[some (.fz (cC' T)), some (.fz (.int (f2 : Nat))), some (.fz (.int (j : Nat))), x3], w⟩ /\ f2 + 1 = (cu' (List.range (f + 1)) pre).length) ⟨f, _, rfl, by simp [cu']⟩ ?_ ?_
    . rintro pre t post _ e ⟨f2, x3, rfl, hf2⟩
      have p1 := hpr pre ⟨t :: post, e.symm⟩
      have p2 := hpr (pre ++ [t]) ⟨post, by rw [e]; simp⟩
      rw [fz'] at p2 ⊢
      rw [p1, <- hf2] at p2 ⊢
      clear e hpr p1
      have ht : t <= f2 + 1 /\ (ins (List.range (f2 + 1)) t).length = max f2 t + 1 := by
        by_cases hm : t ∈ List.range (f2 + 1)
        . rw [c5' hm, List.length_range]
          have := List.mem_range.1 hm
          omega
        . rw [ch' hm] at p2 ⊢
          have h3 := congrArg (fun l : List Nat => l[f2 + 1]?) p2
          simp only [List.length_append, List.length_range, List.length_singleton] at h3
          rw [List.getElem?_append_right (by simp), List.getElem?_range (by omega)] at h3
          simp at h3
          simp
          omega
      obtain ⟨t1, t2⟩ := ht
      clear p2
      have g2 : decide ((t : Int) > (f2 : Nat) + 1) = false := decide_eq_false (by omega)
      have e5 : max (f2 : Int) (t : Int) = ((max f2 t : Nat) : Int) := by omega
      walk_at "s"
      exact ⟨max f2 t, _, rfl, by rw [hf2] at t2; exact t2.symm⟩
    . rintro _ ⟨f2, x3, rfl, hf2⟩
      exact ⟨f2, _, _, rfl, hf2⟩
  . rintro _ ⟨f, x2, x3, rfl, _⟩
    walk_at "s"
theorem tj' {L : Tx} {T1 T2 : List (List Nat)} (h1 : a4' T1 T1.length L.length) (h2 : a4' T2 T2.length L.length) (hL : L.Nodup) {s t : Nat} (hs : s < T1.length) (ht : t < T2.length) :
    dN' ((aH' T1 s).map fun x => D.int (x : Nat)) ((aH' T2 t).map fun x => D.int (x : Nat)) = L.map fun c => eP (psx L T1 T2 (s, t) c) := by
  have go : ∀ (a b : List Nat), a.length = b.length -> dN' (a.map fun x => D.int (x : Nat)) (b.map fun x => D.int (x : Nat)) = (a.zip b).map eP := by
    intro a
    induction a with
    | nil => intro b h; cases b with
      | nil => rfl
      | cons _ _ => simp at h
    | cons x a ih => intro b h; cases b with
      | nil => simp at h
      | cons y b =>
        show D.tup [.int x, .int y] :: dN' (a.map _) (b.map _) = _
        rw [ih b (by simpa using h)]; rfl
  have l1 := cd' h1 hs
  have l2 := cd' h2 ht
  rw [go _ _ (by omega)]
  have e : (aH' T1 s).zip (aH' T2 t) = L.map fun c => psx L T1 T2 (s, t) c := by
    refine List.ext_getElem (by simp; omega) fun i i1 i2 => ?_
    have hi : i < L.length := by simpa using i2
    obtain ⟨_, r2, _⟩ := rA' h1 hL hs hi
    obtain ⟨_, r5, _⟩ := rA' h2 hL ht hi
    rw [List.getElem?_eq_getElem (by omega)] at r2 r5
    rw [List.getElem_zip, List.getElem_map, Option.some.inj r2, Option.some.inj r5]
    rfl
  rw [e, List.map_map]; rfl
theorem rx' {L : Tx} {T1 T2 : List (List Nat)} {A1 A2 : List Nat} (h1 : a4' T1 T1.length L.length) (h2 : a4' T2 T2.length L.length) (n1 : 1 <= T1.length) (n2 : 1 <= T2.length) (m1 : T1.length <= 100) (m2 : T2.length <= 100) (hL : L.Nodup) (hl : L.length <= 100)
    (hs : ∀ z : Tx, (∀ c ∈ z, c ∈ L) -> (run L T1 0 z ∈ A1 ↔ run L T2 0 z ∈ A2)) (w : W) :
    wF (f__law_same [.tup [cC' T1, cK' A1], .tup [cC' T2, cK' A2]] w) (fun o w' => o = .fz (.bl true) /\ w' = w) FX := by
  have hf := xI' h1 h2 n1 n2
  have hrch := fun g => rE' (g := g) h1 h2 n1 n2
  have hN : T1.length * T2.length <= 10000 := Nat.mul_le_mul m1 m2
  have em : ((T1.length : Int) * (T2.length : Int)) = ((T1.length * T2.length : Nat) : Int) := (Int.natCast_mul _ _).symm
  have hprt : ∀ g, Rch L (psx L T1 T2) (0, 0) g -> (!(decide (g.1 ∈ A1) == decide (g.2 ∈ A2))) = false := fun g hg => by
    obtain ⟨z, hz, rfl⟩ := hg
    rw [mb']
    have := hs z hz
    rw [Bool.not_eq_false', beq_iff_eq, decide_eq_decide]
    exact this
  generalize hNe : T1.length * T2.length = N at *
  unfold f__law_same
  walk_at "f0"
  have ek : hS' true (.tup [.int 0, .int 0]) (.bl true) = some (vr' eP [(0, 0)]) := by
    show (if kat (eP (0, 0)) = true /\ dep (eP (0, 0)) <= 8 /\ sca (eP (0, 0)) = false then some (O.dcx [eP (0, 0)] [O.fz (.bl true)]) else none) = _
    rw [if_pos ⟨Ae'.kat _, Ae'.dep _, rfl⟩]
    rfl
  walk_at "s"
  clear ek
  refine e5' (fun j ρ => ∃ x3 x4 x5 x6, ρ = ⟨[some (.fz (.tup [cC' T1, cK' A1])), some (.fz (.tup [cC' T2, cK' A2])), some (.lst ((xbf L (psx L T1 T2) (0, 0) j).map fun p => .fz (eP p))), some (vr' eP (xbf L (psx L T1 T2) (0, 0) j)), x3, x4, x5, x6], w⟩) ⟨_, _, _, _, rfl⟩ ?_ ?_
  . rintro j _ hj ⟨x3, x4, x5, x6, rfl⟩
    have hlen := hf.len j
    have hpos : 1 <= (xbf L (psx L T1 T2) (0, 0) j).length := by
      have := (mU' (L := L) (sx := psx L T1 T2) (g0 := (0, 0)) (Nat.zero_le j)).length_le
      simpa [xbf] using this
    obtain ⟨k, hk⟩ : ∃ k : Nat, min (j : Int) (((xbf L (psx L T1 T2) (0, 0) j).length : Nat) - 1) = (k : Nat) := ⟨min j ((xbf L (psx L T1 T2) (0, 0) j).length - 1), by omega⟩
    have hkl : k < (xbf L (psx L T1 T2) (0, 0) j).length := by omega
    have hg : (xbf L (psx L T1 T2) (0, 0) j)[k]? = some (xbf L (psx L T1 T2) (0, 0) j)[k] := List.getElem?_eq_getElem hkl
    have hmem := List.getElem_mem hkl
    have hstep : xbf L (psx L T1 T2) (0, 0) (j + 1) = cu' (xbf L (psx L T1 T2) (0, 0) j) (nxG L (psx L T1 T2) (xbf L (psx L T1 T2) (0, 0) j)[k]) := by
      by_cases hlt : j < (xbf L (psx L T1 T2) (0, 0) j).length
      . have e : k = j := by omega
        subst e
        exact uW' hg
      . rw [g3' (by omega) (Nat.le_succ j)]
        have er := hf.all (j := j) (by omega)
        symm
        refine jK' fun t ht => ?_
        obtain ⟨c, hc, rfl⟩ := List.mem_map.1 ht
        have h3 := hf.closed (show _ ∈ hn' L (psx L T1 T2) (0, 0) N by rw [<- er]; exact hmem) hc
        exact cast (congrArg (fun F => _ ∈ F) er.symm) h3
    generalize (xbf L (psx L T1 T2) (0, 0) j)[k] = g at hg hmem hstep
    have hr := hrch g (d0' j g hmem)
    have hp := hprt g (d0' j g hmem)
    have hsub : ∀ pre : Tx, (∀ x ∈ pre, x ∈ L) -> (cu' (xbf L (psx L T1 T2) (0, 0) j) (pre.map (psx L T1 T2 g))).length <= N := fun pre hp => by
      have := (hf.len (j + 1))
      refine hf _ (f7' (jY' j)) fun x hx => ?_
      rcases cf'.1 hx with q | q
      . exact d0' j x q
      . obtain ⟨c, hc, rfl⟩ := List.mem_map.1 q
        exact d0' (j + 1) _ (by rw [hstep]; exact cf'.2 (.inr (List.mem_map.2 ⟨c, hp c hc, rfl⟩)))
    rw [hstep]
    obtain ⟨s, t⟩ := g
    have hs1 : s < T1.length := hr.1
    have ht1 : t < T2.length := hr.2
    have hp : (!(decide (s ∈ A1) == decide (t ∈ A2))) = false := hp
    have r1 := dh' h1 hs1
    have r2 := dh' h2 ht1
    have hz := tj' h1 h2 hL hs1 ht1
    have he : eP (s, t) = .tup [.int (s : Nat), .int (t : Nat)] := rfl
    generalize hB : xbf L (psx L T1 T2) (0, 0) j = B at *
    unfold nxG
    clear hstep hB hprt hrch hs
    have ew1 : dp' (aH' T1 s) = D.tup ((aH' T1 s).map fun x => D.int (x : Nat)) := rfl
    have ew2 : dp' (aH' T2 t) = D.tup ((aH' T2 t).map fun x => D.int (x : Nat)) := rfl
    walk_at "s"
    refine bY' (fun pre ρ => ∃ x6, ρ = ⟨[some (.fz (.tup [cC' T1, cK' A1])), some (.fz (.tup [cC' T2, cK' A2])), some (.lst ((cu' B (pre.map (psx L T1 T2 (s, t)))).map fun p => .fz (eP p))), some (vr' eP (cu' B (pre.map (psx L T1 T2 (s, t))))), some (.fz (.int (j : Nat))), some (.fz (.int (s : Nat))), some (.fz (.int (t : Nat))), x6], w⟩) ⟨_, rfl⟩ ?_ ?_
    . rintro pre c post _ e ⟨x6, rfl⟩
      have hl2 := hsub pre fun x hx => by rw [e]; simp [hx]
      rw [List.map_append, List.map_singleton, fz']
      clear e hsub hg r1 r2 ew1 ew2 hz he
      generalize psx L T1 T2 (s, t) c = p
      by_cases ht : p ∈ cu' B (pre.map (psx L T1 T2 (s, t)))
      . rw [c5' ht]
        have hin := zn' Ae' ht
        walk_at "s"
        exact ⟨_, rfl⟩
      . rw [ch' ht]
        have hin := wI' Ae' ht
        have hl4 : (cu' B (pre.map (psx L T1 T2 (s, t)))).length < 16777216 := by omega
        have hput := wH' Ae' ht hl4
        walk_at "s"
        exact ⟨some (.fz (eP p)), by rw [List.map_append, List.map_cons, List.map_nil]⟩
    . rintro _ ⟨x6, rfl⟩
      exact ⟨_, _, _, _, rfl⟩
  . rintro _ ⟨x3, x4, x5, x6, rfl⟩
    walk_at "s"
section
variable (T : List (List Nat)) (A : List Nat) (S : List Nat)
def cc : Nat -> Nat -> Nat
  | 0 => kN' S fun s => decide (s ∈ A)
  | i + 1 => kN' S (key T (cc i))
def ck : Nat -> Nat
  | 0 => (aK' (S.map fun s => decide (s ∈ A))).length
  | i + 1 => (aK' (S.map (key T (cc T A S i)))).length
end
theorem CU' {L : Tx} {T : List (List Nat)} {A : List Nat} (hT : a4' T T.length L.length) (hL : L.Nodup) (hne : 1 <= T.length) (hap : ∀ p < T.length, ∀ q < T.length, Leq L T A p q -> p = q) {p q : Nat} (hp : p < T.length) (hq : q < T.length) (hpq : p ≠ q) :
    ∃ z : Tx, (∀ c ∈ z, c ∈ L) /\ z.length < T.length /\ ¬ (run L T p z ∈ A ↔ run L T q z ∈ A) := by
  have hS : ∀ s ∈ List.range T.length, s < T.length := fun s hs => List.mem_range.mp hs
  have hcl : ∀ s ∈ List.range T.length, ∀ t ∈ aH' T s, t ∈ List.range T.length := fun s _ t ht => List.mem_range.mpr (kw' hT ht)
  generalize hSd : List.range T.length = S at *
  have clz : ∀ i, Clz L T A S (cc T A S i) (ck T A S i) := by
    intro i
    induction i with
    | zero => exact Clz.first
    | succ i ih => exact ih.next hT hL hS hcl
  have wd : ∀ i, ∀ s ∈ S, ∀ t ∈ S, cc T A S i s ≠ cc T A S i t -> ∃ z : Tx, (∀ c ∈ z, c ∈ L) /\ z.length <= i /\ ¬ (run L T s z ∈ A ↔ run L T t z ∈ A) := by
    intro i
    induction i with
    | zero =>
      intro s hs t ht h
      refine ⟨[], nofun, Nat.le_refl _, fun h2 => h ((cN' _ hs ht).mpr ?_)⟩
      have h2 : s ∈ A ↔ t ∈ A := h2
      simp [h2]
    | succ i ih =>
      intro s hs t ht h
      by_cases h1 : cc T A S i s = cc T A S i t
      . by_cases h2 : ∀ a ∈ L, cc T A S i (stp L T s a) = cc T A S i (stp L T t a)
        . exact absurd ((cN' _ hs ht).mpr (Prod.ext h1 (lU' hT hL (hS s hs) (hS t ht) h2))) h
        . have : ∃ a ∈ L, cc T A S i (stp L T s a) ≠ cc T A S i (stp L T t a) := Classical.byContradiction fun h3 => h2 fun a ha => Classical.byContradiction fun h4 => h3 ⟨a, ha, h4⟩
          obtain ⟨a, ha, h3⟩ := this
          obtain ⟨z, z1, z2, z3⟩ := ih _ (hcl s hs _ (dF' hT (hS s hs) ha)) _ (hcl t ht _ (dF' hT (hS t ht) ha)) h3
          exact ⟨a :: z, fun c hc => (List.mem_cons.mp hc).elim (fun e => e ▸ ha) (z1 c), by rw [List.length_cons]; omega, z3⟩
      . obtain ⟨z, z1, z2, z3⟩ := ih s hs t ht h1
        exact ⟨z, z1, by omega, z3⟩
  have hSl : (aK' S).length = T.length := by
    rw [<- hSd, cR' List.nodup_range, List.length_range]
  have le : ∀ i, ck T A S i <= T.length := by
    intro i
    rw [<- hSl]
    cases i with
    | zero => exact bT' _ S
    | succ i => exact bT' _ S
  have hp' : p ∈ S := by rw [<- hSd]; exact List.mem_range.mpr hp
  have hq' : q ∈ S := by rw [<- hSd]; exact List.mem_range.mpr hq
  have st : ∃ i, i < T.length /\ ck T A S (i + 1) <= ck T A S i := by
    refine Classical.byContradiction fun h => ?_
    have g : ∀ i, i <= T.length -> i + 1 <= ck T A S i := by
      intro i
      induction i with
      | zero =>
        intro _
        have := (clz 0).lt hp'
        omega
      | succ i ih =>
        intro hi
        have h1 := ih (by omega)
        have h2 : ¬ ck T A S (i + 1) <= ck T A S i := fun h3 => h ⟨i, by omega, h3⟩
        omega
    have := g T.length (Nat.le_refl _)
    have := le T.length
    omega
  obtain ⟨i, hi, hst⟩ := st
  have fine := (clz i).fine hT hS hcl ((clz i).stable hst)
  have hne2 : cc T A S i p ≠ cc T A S i q := fun e => hpq (hap p hp q hq fun x hx => fine x hx p hp' q hq' e)
  obtain ⟨z, z1, z2, z3⟩ := wd i p hp' q hq' hne2
  exact ⟨z, z1, by omega, z3⟩
def cU (T : List (List Nat)) (A : List Nat) : Nat -> Nat -> Nat
  | 0 => fun s => if s ∈ A then 1 else 0
  | i + 1 => kN' (List.range T.length) (key T (cU T A i))
theorem Br' {L : Tx} {T : List (List Nat)} {A : List Nat} (hT : a4' T T.length L.length) {i s t : Nat} (hs : s < T.length) (ht : t < T.length) : cU T A (i + 1) s = cU T A (i + 1) t ↔ key T (cU T A i) s = key T (cU T A i) t :=
  cN' _ (List.mem_range.2 hs) (List.mem_range.2 ht)
theorem vo' {L : Tx} {T : List (List Nat)} (hT : a4' T T.length L.length) {s c : Nat} (hs : s < T.length) (hc : c ∈ L) : stp L T s c < T.length := by
  have := n5' hT hs (x := [c]) (by simpa using hc)
  rwa [ex', jt'] at this
theorem sX' {L : Tx} {T : List (List Nat)} {A : List Nat} (hT : a4' T T.length L.length) : ∀ (i s t : Nat), s < T.length -> t < T.length -> cU T A i s = cU T A i t -> ∀ z : Tx, (∀ c ∈ z, c ∈ L) -> z.length <= i -> (run L T s z ∈ A ↔ run L T t z ∈ A)
  | 0, s, t, hs, ht, e, z, hz, hl => by
    have : z = [] := List.length_eq_zero_iff.1 (by omega)
    subst this
    rw [jt', jt']
    simp only [cU] at e
    by_cases a : s ∈ A <;> by_cases b : t ∈ A <;> simp_all
  | i + 1, s, t, hs, ht, e, z, hz, hl => by
    have ek := (Br' hT hs ht).1 e
    obtain ⟨e1, e2⟩ := Prod.mk.inj ek
    cases z with
    | nil => exact sX' hT i s t hs ht e1 [] nofun (Nat.zero_le _)
    | cons c z =>
      have hc := hz c (by simp)
      rw [ex', ex']
      refine sX' hT i _ _ (vo' hT hs hc) (vo' hT ht hc) ?_ z (fun d hd => hz d (by simp [hd])) (by simpa using hl)
      have l1 := cd' hT hs
      have l2 := cd' hT ht
      have hi : L.idxOf c < L.length := List.idxOf_lt_length_iff.2 hc
      have := congrArg (fun l : List Nat => l[L.idxOf c]?) e2
      simp only [List.getElem?_map] at this
      rw [List.getElem?_eq_getElem (by omega), List.getElem?_eq_getElem (by omega)] at this
      have this := Option.some.inj this
      rw [eT', eT', List.getElem?_eq_getElem (by omega), List.getElem?_eq_getElem (by omega)]
      exact this
theorem kM' {α β : Type} [DecidableEq α] [DecidableEq β] (f : α -> β) {S : List α} (hS : S.Nodup) (h : ∀ a ∈ S, ∀ b ∈ S, f a = f b -> a = b) : (aK' (S.map f)).length = S.length := by
  rw [cR', List.length_map]
  rw [List.nodup_iff_pairwise_ne, List.pairwise_map]
  exact List.Pairwise.imp_of_mem (fun ha hb hab e => hab (h _ ha _ hb e)) hS
theorem gD' {γ : Type} [DecidableEq γ] (ks : List γ) (k : γ) (hk : k ∈ ks) (post : List γ) : ixo (aK' (ks ++ post)) k = ixo (aK' ks) k := by
  unfold aK'
  rw [c6']
  exact mc' dJ' (cf'.2 (.inr hk))
theorem tH' {γ : Type} [DecidableEq γ] {e : γ -> D} (he : KeyE e) {F : List γ} {k : γ} (hs : sca (e k) = false) (hl : F.length < 16777216) (h : k ∈ F) (d : D) : hE' (i4' e F) (e k) d = some (.int (ixo F k : Nat), i4' e F) :=
  tG' he hs (by simpa using hl) (by rw [ga', if_pos h]) d
theorem rq' {γ : Type} [DecidableEq γ] {e : γ -> D} (he : KeyE e) {F : List γ} {k : γ} (hs : sca (e k) = false) (hl : F.length < 16777216) (h : k ∉ F) : hE' (i4' e F) (e k) (.int (F.length : Nat)) = some (.int (F.length : Nat), i4' e (F ++ [k])) := by
  have e1 := rp' he hs (by simpa using hl) (show (F.map fun a => (a, D.int (ixo F a : Nat))).lookup k = none by rw [ga', if_neg h]) (.int (F.length : Nat))
  rw [show hE' (i4' e F) (e k) (.int (F.length : Nat)) = _ from e1]
  have p := wX' he h hl
  unfold i4'
  rw [List.map_append, List.map_cons, List.map_nil, md' h]
  congr 3
  congr 1
  exact List.map_congr_left fun a ha => by rw [mc' ⟨[k], rfl⟩ ha]
def cUd (T : List (List Nat)) (A : List Nat) (i : Nat) : List D := (List.range T.length).map fun s => .int (cU T A i s : Nat)
theorem sW' {T : List (List Nat)} {A : List Nat} {i s : Nat} (h : s < T.length) : (cUd T A i)[s]? = some (.int (cU T A i s : Nat)) := by
  unfold cUd
  rw [List.getElem?_map, List.getElem?_range h]; rfl
theorem l7' {γ : Type} [DecidableEq γ] (l : List γ) : (aK' l).length <= l.length :=
  List.Nodup.length_le_of_subset jF' (fun _ ha => a7'.mp ha)
theorem pA' {T : List (List Nat)} {A : List Nat} {i j : Nat} (hj : j < T.length) (h : key T (cU T A i) j ∈ aK' ((List.range j).map (key T (cU T A i)))) : ixo (aK' ((List.range j).map (key T (cU T A i)))) (key T (cU T A i) j) = cU T A (i + 1) j := by
  have e : (List.range T.length).map (key T (cU T A i)) = (List.range j).map (key T (cU T A i)) ++ ((List.range (T.length - j)).map (j + ·)).map (key T (cU T A i)) := by
    rw [<- List.map_append, <- List.range_add]
    congr 2
    omega
  show _ = ixo (aK' ((List.range T.length).map (key T (cU T A i)))) (key T (cU T A i) j)
  rw [e, gD' _ _ (a7'.1 h)]
theorem mC' {T : List (List Nat)} {A : List Nat} {i j : Nat} (hj : j < T.length) (h : key T (cU T A i) j ∉ aK' ((List.range j).map (key T (cU T A i)))) : (aK' ((List.range j).map (key T (cU T A i)))).length = cU T A (i + 1) j := by
  have e : (List.range T.length).map (key T (cU T A i)) = (List.range (j + 1)).map (key T (cU T A i)) ++ ((List.range (T.length - (j + 1))).map (j + 1 + ·)).map (key T (cU T A i)) := by
    rw [<- List.map_append, <- List.range_add]
    congr 2
    omega
  show _ = ixo (aK' ((List.range T.length).map (key T (cU T A i)))) (key T (cU T A i) j)
  rw [e, gD' _ _ (by simp only [List.range_succ, List.map_append, List.map_cons, List.map_nil]; simp), List.range_succ, List.map_append, List.map_cons, List.map_nil, ce', ch' h, md' h]
theorem iq' {L : Tx} {T : List (List Nat)} {A : List Nat} (hT : a4' T T.length L.length) (hn : 1 <= T.length) (hn2 : T.length <= 400) (hL : L.Nodup) (hl : L.length <= 100) (hap : ∀ p < T.length, ∀ q < T.length, Leq L T A p q -> p = q) (w : W) :
    wF (f__law_all_unlike [cC' T, cK' A] w) (fun o w' => o = .fz (.bl true) /\ w' = w) FX := by
  have hend : (aK' ((List.range T.length).map (key T (cU T A (T.length - 1))))).length = T.length := by
    have := kM' (key T (cU T A (T.length - 1))) List.nodup_range (S := List.range T.length) ?_
    . rwa [List.length_range] at this
    . intro a ha b hb e
      have ha := List.mem_range.1 ha
      have hb := List.mem_range.1 hb
      refine Classical.byContradiction fun hne => ?_
      obtain ⟨z, hz, hl, hd⟩ := CU' hT hL hn hap ha hb hne
      have e0 : cU T A (T.length - 1) a = cU T A (T.length - 1) b := (Prod.mk.inj e).1
      exact hd (sX' hT _ _ _ ha hb e0 z hz (by omega))
  unfold f__law_all_unlike
  walk_at "f0"
  walk_at "s"
  refine sl' (fun s => D.int (cU T A 0 s : Nat)) (by omega) ?_ ?_
  . intro s hs
    clear hap hend
    by_cases hm : s ∈ A
    . have h1 : cU T A 0 s = 1 := if_pos hm
      have h2 : decide (s ∈ A) = true := decide_eq_true hm
      rw [h1]
      walk_at "s"
      rfl
    . have h1 : cU T A 0 s = 0 := if_neg hm
      have h2 : decide (s ∈ A) = false := decide_eq_false hm
      rw [h1]
      walk_at "s"
      rfl
  clear hap
  walk_at "l"
  walk_at "s"
  refine e5' (fun i ρ => (i = T.length -> False) /\ ∃ x2 x3 x4 x5 x6 x7 x8, (x2 = .lst ((cUd T A i).map .fz) \/ x2 = .fz (.lst (cUd T A i))) /\ ρ = ⟨[some (.fz (cC' T)), some (.fz (cK' A)), some x2, x3, x4, x5, x6, x7, x8], w⟩) ⟨by omega, _, _, _, _, _, _, _, .inl rfl, rfl⟩ ?_ ?_
  . rintro i _ hi ⟨-, x2, x3, x4, x5, x6, x7, x8, h2, rfl⟩
    have hg : ∀ s < T.length, (cUd T A i)[s]? = some (.int (cU T A i s : Nat)) := fun s h => sW' h
    have hk : key T (cU T A i) = fun s => (cU T A i s, (aH' T s).map (cU T A i)) := rfl
    walk_at "s"
    refine e5' (fun j ρ => ∃ x2 x6 x7 x8, (x2 = .lst ((cUd T A i).map .fz) \/ x2 = .fz (.lst (cUd T A i))) /\ ρ = ⟨[some (.fz (cC' T)), some (.fz (cK' A)), some x2, some (.fz (.int (i : Nat))), some (i4' eK (aK' ((List.range j).map (key T (cU T A i))))), some (.lst ((List.range j).map fun s => .fz (.int (cU T A (i + 1) s : Nat)))), x6, x7, x8], w⟩) ⟨_, _, _, _, h2, rfl⟩ ?_ ?_
    . rintro j _ hj ⟨x2, x6, x7, x8, h2, rfl⟩
      have hKj : eK (key T (cU T A i) j) = D.tup [.int (cU T A i j : Nat), .tup ((aH' T j).map fun t => .int (cU T A i t : Nat))] := by simp [eK, key]
      have hin := pA' (A := A) (i := i) hj
      have hnew := mC' (A := A) (i := i) hj
      have hlt : ∀ t ∈ aH' T j, (cUd T A i)[t]? = some (.int (cU T A i t : Nat)) := fun t ht => sW' (kw' hT ht)
      have hgj := hg j hj
      have hrow := dh' hT hj
      have hrl : (aH' T j).length <= 100 := by rw [cd' hT hj]; exact hl
      have hFl : (aK' ((List.range j).map (key T (cU T A i)))).length <= 400 := by
        have := l7' ((List.range j).map (key T (cU T A i)))
        simp at this; omega
      have hsn : aK' ((List.range (j + 1)).map (key T (cU T A i))) = ins (aK' ((List.range j).map (key T (cU T A i)))) (key T (cU T A i) j) := by
        rw [List.range_succ, List.map_append, List.map_cons, List.map_nil, ce']
      have hsv : (List.range (j + 1)).map (fun s => O.fz (.int (cU T A (i + 1) s : Nat))) = (List.range j).map (fun s => O.fz (.int (cU T A (i + 1) s : Nat))) ++ [.fz (.int (cU T A (i + 1) j : Nat))] := by
        rw [List.range_succ, List.map_append, List.map_cons, List.map_nil]
      have hll : ((List.range j).map (fun s => O.fz (.int (cU T A (i + 1) s : Nat)))).length <= 400 := by simp; omega
      rw [hsn, hsv]
      generalize (List.range j).map (fun s => O.fz (.int (cU T A (i + 1) s : Nat))) = V at hll ⊢
      generalize aK' ((List.range j).map (key T (cU T A i))) = F at hin hnew hFl ⊢
      generalize key T (cU T A i) j = kj at hKj hin hnew ⊢
      generalize cU T A (i + 1) j = vj at hin hnew ⊢
      generalize hcs : cUd T A i = cs at *
      have hst : hE' (i4' eK F) (eK kj) (.int (F.length : Nat)) = some (.int (vj : Nat), i4' eK (ins F kj)) := by
        by_cases hm : kj ∈ F
        . rw [tH' CV' rfl (by omega) hm, hin hm, c5' hm]
        . rw [rq' CV' rfl (by omega) hm, hnew hm, ch' hm]
      rw [hKj] at hst
      have hdx : pl' (i4' eK F) := ov' ..
      have hle : ∀ P : D -> Prop, wD (pf' (i4' eK F)) P = P (.int F.length) := fun P => on' ..
      clear hin hnew hsn hsv hg hk hend hT hKj
      have efr : frzs (cs.map .fz) = cs := mh' cs
      generalize i4' eK F = DX at *
      generalize i4' eK (ins F kj) = DX2 at *
      rcases h2 with rfl | rfl
      all_goals
        walk_at "s"
        refine c4' (fun t : Nat => D.int (cU T A i t : Nat)) (by omega) ?_ ?_
        . intro t ht
          have hgt := hlt t ht
          clear hlt
          walk_at "s"
        clear hlt
        walk_at "l"
        walk_at "s"
        exact ⟨_, _, _, _, .inr rfl, rfl⟩
    . rintro _ ⟨x2, x6, x7, x8, h2, rfl⟩
      have hle : ∀ P : D -> Prop, wD (pf' (i4' eK (aK' ((List.range T.length).map (key T (cU T A i)))))) P = P (.int (aK' ((List.range T.length).map (key T (cU T A i)))).length) := fun P => on' ..
      have hfr : frzs ((List.range T.length).map fun s => O.fz (.int (cU T A (i + 1) s : Nat))) = cUd T A (i + 1) := by rw [ed', List.map_map]; rfl
      have hcase : i + 1 = T.length -> (aK' ((List.range T.length).map (key T (cU T A i)))).length = T.length := fun e => by
        rw [show i = T.length - 1 by omega]; exact hend
      clear hend hg hk
      generalize (aK' ((List.range T.length).map (key T (cU T A i)))).length = m at *
      generalize i4' eK (aK' ((List.range T.length).map (key T (cU T A i)))) = DX at *
      generalize (List.range T.length).map (fun s => O.fz (.int (cU T A (i + 1) s : Nat))) = V at *
      by_cases hm : m = T.length
      . subst hm
        clear hcase
        walk_at "s"
      . have hne : decide ((m : Int) = (T.length : Nat)) = false := decide_eq_false (by omega)
        have hc2 : i + 1 = T.length -> False := fun e => hm (hcase e)
        clear hcase
        walk_at "s"
        exact ⟨hc2, _, _, _, _, _, _, _, .inr rfl, rfl⟩
  . rintro _ ⟨h, -⟩
    exact (h rfl).elim
theorem AO' (T : List (List Nat)) {P : D -> Prop} : wD (ca' "tuple" (cC' T)) P = P (.bl true) := by unfold cC'; rw [cO']
theorem AP' (r : List Nat) {P : D -> Prop} : wD (ca' "tuple" (dp' r)) P = P (.bl true) := by unfold dp'; rw [cO']
theorem AQ' (r : List Nat) {P : D -> Prop} : wD (ca' "tuple" (cK' r)) P = P (.bl true) := by unfold cK'; rw [cO']
theorem sP' {α : Type} (l : List α) {P : D -> Prop} : wD (t3' (.lst (l.map fun _ => D.bl true))) P = P (.bl true) := by
  have e : (l.map fun _ => D.bl true) = (l.map fun _ => true).map .bl := by rw [List.map_map]; rfl
  rw [e, Bg']
  have : (l.map fun _ => true).all id = true := by rw [List.all_eq_true]; intro x hx; obtain ⟨_, _, rfl⟩ := List.mem_map.1 hx; rfl
  rw [this]
theorem gE' (q : Nat) (w : W) : wF (f__law_is_whole [.int (q : Nat)] w) (fun o w' => o = .fz (.bl true) /\ w' = w) FX := by
  unfold f__law_is_whole
  walk_at "f"
theorem pk' {w : W} {m : Nat} {C : String} {L : Tx} {T : List (List Nat)} {A : List Nat} (h : MM w m C L T A) (hT : a4' T T.length L.length) (hn : 1 <= T.length) (hn2 : T.length <= 400) (hL : L.length <= 100) (hA : AccOk A T.length) :
    wF (f__law_is_form [.str L, .obj m] w) (fun o w' => o = .fz (.bl true) /\ w' = w) FX := by
  have e2 := ct' (x := "letters") h
  have e3 := ct' (x := "table") h
  have e4 := ct' (x := "accepts") h
  obtain ⟨l, hm⟩ := h.mc
  have h1 := hm.fl
  have h2 := hm.ft
  have h3 := hm.fa
  have hAl : A.length <= 400 := by
    have := iB' (n := T.length) (hA.asc.imp fun h => Nat.ne_of_lt h) hA.lt
    omega
  unfold f__law_is_form
  walk_at "f0"
  clear h hm
  have t1 := fun P => @AO' T P
  have t2 := fun P => @AQ' A P
  walk_at "s"
  unfold f_Machine_table
  walk_at "f"
  unfold f_Machine_accepts
  walk_at "f"
  unfold f_Machine_letters
  walk_at "f"
  refine bY' (fun pre ρ => ∃ x4 x5, ρ = ⟨[some (.fz (.str L)), some (.fz (.obj m)), some (.fz (cC' T)), some (.fz (cK' A)), x4, x5, none, none], w⟩ /\ Pl x5) ⟨_, _, rfl, .inl rfl⟩ ?_ ?_
  . rintro pre r post _ e ⟨x4, x5, rfl, hx⟩
    obtain ⟨r1, r2⟩ := hT.2 r (by rw [e]; simp)
    have t3 := fun P => @AP' r P
    have e0 : (L.length : Int) = (L.length : Int) := rfl
    clear e
    walk_at "s"
    rcases hx with rfl | ⟨d5, rfl⟩
    all_goals
      refine c4' (fun _ : Nat => D.bl true) (by omega) ?_ ?_
      . intro t ht
        have kw := gE' t w
        have g1 : decide ((0 : Int) <= (t : Nat)) = true := decide_eq_true (by omega)
        have g2 : decide ((t : Int) < (T.length : Nat)) = true := decide_eq_true (by have := r2 t ht; omega)
        walk_at "s"
        refine kw.mono ?_
        rintro _ _ ⟨rfl, rfl⟩
        walk_at "s"
      walk_at "l"
      rw [sP']
      walk_at "s"
      first
        | exact ⟨_, _, rfl, .inl rfl⟩
        | exact ⟨_, _, rfl, .inr ⟨_, rfl⟩⟩
  rintro _ ⟨x4, x5, rfl, hx⟩
  walk_at "s"
  refine c4' (fun _ : Nat => D.bl true) (by omega) ?_ ?_
  . intro t ht
    have kw := gE' t w
    have g1 : decide ((0 : Int) <= (t : Nat)) = true := decide_eq_true (by omega)
    have g2 : decide ((t : Int) < (T.length : Nat)) = true := decide_eq_true (by have := hA.lt t ht; omega)
    walk_at "s"
    refine kw.mono ?_
    rintro _ _ ⟨rfl, rfl⟩
    walk_at "s"
  walk_at "l"
  rw [sP']
  have g3 : decide ((T.length : Int) > 0) = true := decide_eq_true (by omega)
  walk_at "s"
  rw [show cK' A = dp' A from rfl]
  refine sl' (fun _ => D.bl true) (by omega) ?_ ?_
  . intro k hk
    have hk1 : k < A.length := by omega
    have hk2 : k + 1 < A.length := by omega
    have e1 : A[k]? = some A[k] := List.getElem?_eq_getElem hk1
    have e2 : A[k + 1]? = some A[k + 1] := List.getElem?_eq_getElem hk2
    have hlt := List.pairwise_iff_getElem.1 hA.asc k (k + 1) hk1 hk2 (by omega)
    have i1 : ((k + 1 : Nat) : Int) - 1 = (k : Nat) := by omega
    have i2 : (1 : Int) + (k : Nat) = ((k + 1 : Nat) : Int) := by omega
    generalize A[k] = x at e1 hlt
    generalize A[k + 1] = y at e2 hlt
    have g4 : decide ((x : Int) < (y : Nat)) = true := decide_eq_true (by omega)
    walk_at "s"
  intro env2 he
  rw [sP']
  exact ⟨rfl, rfl⟩
theorem eY' {w : W} {m : Nat} {C : String} {L : Tx} {T : List (List Nat)} {A : List Nat} (h : MM w m C L T A) :
    wF (f__law_parts_of [.obj m] w) (fun o w' => o = .fz (ptD L T A) /\ w' = w) FX := by
  have e2 := ct' (x := "letters") h
  have e3 := ct' (x := "table") h
  have e4 := ct' (x := "accepts") h
  obtain ⟨l5, hm5⟩ := h.mc
  have f1 := hm5.fl
  have f2 := hm5.ft
  have f3 := hm5.fa
  clear hm5
  unfold f__law_parts_of
  walk_at "f"
  unfold f_Machine_letters f_Machine_table f_Machine_accepts
  walk_at "f"
  walk_at "f"
  walk_at "f"
  rfl
theorem sH' (b : Bool) (w : W) : wF (f__law_flag [.bl b, .bl b] w) (fun o w' => o = .fz (.bl true) /\ w' = w) FX := by
  unfold f__law_flag
  walk_at "f"
theorem law_true (ns : List Int) (hl : ns.length <= 63) : ∃ w, f_law [.scr (ns.map .int)] [] = .ok (.fz (.bl true)) w := by
  suffices h : wF (f_law [.scr (ns.map .int)] []) (fun o _ => o = .fz (.bl true)) FX by
    obtain ⟨o, w, e, rfl⟩ := h.exi
    exact ⟨w, e⟩
  unfold f_law
  walk_at "f"
  refine (sD' hl).mono ?_
  rintro _ w1 ⟨rfl, h1, hl1, -⟩
  change eE' w1 0 at h1
  walk_at "s"
  refine (fT' h1).mono ?_
  rintro _ w2 ⟨L, rfl, hL, h2, b2⟩
  have hl2 : w2.length = 1 := b2.1.trans hl1
  clear h1 b2 hl1
  walk_at "s"
  refine (bJ' h2 (by omega) (by omega)).mono ?_
  rintro _ w3 ⟨d3, rfl, hd3, h3, b3⟩
  have hl3 : w3.length = 1 := b3.1.trans hl2
  clear h2 b3 hl2
  walk_at "s"
  refine (bJ' h3 (by omega) (by omega)).mono ?_
  rintro _ w4 ⟨d4, rfl, hd4, h4, b4⟩
  have hl4 : w4.length = 1 := b4.1.trans hl3
  clear h3 b4 hl3
  walk_at "s"
  refine pV' (fun ρ => ∃ n w', 1 <= n /\ n <= 30 /\ ρ = ⟨[some (.fz (.scr (ns.map .int))), some (.fz (.obj 0)), some (.fz (.str L)), some (.fz (.int (n : Nat))), none, none, none, none, none, none, none, none, none, none, none], w'⟩ /\ eE' w' 0 /\ w'.length = 1) (cH' (fun c => ?_) (fun c => ?_)) ?_
  . walk_at "s"
    refine (bJ' h4 (by omega) (by omega)).mono ?_
    rintro _ w5 ⟨d5, rfl, hd5, h5, b5⟩
    walk_at "s"
    exact ⟨1 + d5, w5, by omega, by omega, by rw [show ((1 + d5 : Nat) : Int) = 1 + (d5 : Nat) by omega], h5, b5.1.trans hl4⟩
  . walk_at "s"
    exact ⟨1 + d3, w4, by omega, by omega, by rw [show ((1 + d3 : Nat) : Int) = 1 + (d3 : Nat) by omega], h4, hl4⟩
  clear h4 hl4
  rintro _ ⟨n, w5, hn1, hn2, rfl, h5, hl5⟩
  have hLne := hL.ne
  have hLle := hL.le
  have ka := iN' (many := L.length) (size := n) h5 hLne (by omega) hn1 (by omega)
  walk_at "s"
  refine ka.mono ?_
  rintro _ w6 ⟨T, rfl, hT, h6, b6⟩
  have hl6 : w6.length = 1 := b6.1.trans hl5
  clear ka h5 b6 hl5
  walk_at "s"
  obtain ⟨eT, hT⟩ : T.length = n /\ a4' T T.length L.length := ⟨hT.1, by rw [hT.1]; exact hT⟩
  subst eT
  refine eO' (by simp; omega) (fun pre acc ρ => (∃ A : List Nat, acc = A.map (fun a => .int (a : Nat)) /\ A.Pairwise (· < ·) /\ ∀ a ∈ A, a < pre.length) /\ ∃ x w', ρ = ⟨[some (.fz (.scr (ns.map .int))), some (.fz (.obj 0)), some (.fz (.str L)), some (.fz (.int (T.length : Nat))), some (.fz (cC' T)), none, none, none, none, none, none, none, none, none, x], w'⟩ /\ eE' w' 0 /\ w'.length = 1) ⟨⟨[], rfl, by simp, by simp⟩, _, _, rfl, h6, hl6⟩ ?_ ?_
  . rintro pre c post acc _ e ⟨⟨A, rfl, hp, hA⟩, x, w7, rfl, h7, hl7⟩
    obtain ⟨rfl, hlt⟩ := cV' e
    clear e
    walk_at "s"
    refine (bJ' h7 (by omega) (by omega)).mono ?_
    rintro _ w8 ⟨d, rfl, hd, h8, b8⟩
    have hl8 := b8.1.trans hl7
    walk_at "s"
    refine cH' (fun hd => ?_) (fun hd => ?_)
    . walk_at "s"
      refine ⟨⟨A ++ [pre.length], by simp, ?_, ?_⟩, _, _, rfl, h8, hl8⟩
      . rw [List.pairwise_append]
        exact ⟨hp, by simp, by simpa using hA⟩
      . simp only [List.mem_append, List.mem_singleton, List.length_append, List.length_singleton]
        rintro a (ha | rfl)
        . have := hA a ha; omega
        . omega
    . refine ⟨⟨A, rfl, hp, fun a ha => ?_⟩, _, _, rfl, h8, hl8⟩
      have := hA a ha
      simp; omega
  rintro acc _ ⟨⟨A, rfl, hp, hA⟩, x, w7, rfl, h7, hl7⟩
  rw [List.length_range] at hA
  have hAc : AccOk A T.length := ⟨hp, hA⟩
  have hwr := fun w => gm' (w := w) hLle hT (by omega) hAc
  have hrd := fun w => dx' (w := w) hL hT hn1 (by omega) hAc
  have eA : D.tup (A.map fun a => D.int (a : Nat)) = cK' A := rfl
  clear h6 hl6 hp hA
  walk_at "s"
  refine (hwr _).mono ?_
  rintro _ w8 ⟨rfl, e8⟩
  subst e8
  have hW8 : WOk w8 := by
    obtain ⟨a, b, c, d, e, f, _⟩ := h7
    match w8, hl7, f with
    | [x], _, f =>
      have : x = _ := Option.some.inj f
      subst this
      exact .one
  walk_at "s"
  refine (hrd _).mono ?_
  rintro _ w9 ⟨rfl, e9⟩
  obtain ⟨hW9, hE9⟩ := hW8.mach (C := "RawMachine") (L := L) (T := T) (A := A)
  have hM9 : MM (w8 ++ [mkM "RawMachine" L T A .non dq']) 1 "RawMachine" L T A := by
    have := MM.new (w := w8) (C := "RawMachine") (L := L) (T := T) (A := A) (l := .non) (.inr rfl) Rs.z
    rwa [hl7] at this
  have h9 := hE9.hand 0 h7
  rw [<- e9] at hW9 hM9 h9
  rw [hl7]
  clear e9 hE9 hW8 h7 hl7
  have r1 := rR' hT (by omega) (by omega) hAc
  have ept : D.tup [.str L, cC' T, cK' A] = ptD L T A := rfl
  have hrpp := eY' hM9
  have htx := c0' hM9 hLle hT (by omega) hAc
  walk_at "s"
  rw [oN', gR' r1]
  walk_at "s"
  refine hrpp.mono ?_
  rintro _ _ ⟨rfl, rfl⟩
  clear hrpp
  walk_at "s"
  rw [oN', gR' r1]
  walk_at "s"
  rw [Dh', gR' (hK' _ (jy' L T A))]
  walk_at "s"
  refine htx.mono ?_
  rintro _ _ ⟨rfl, rfl⟩
  clear htx
  rename_i w9
  walk_at "s"
  refine (hrd _).mono ?_
  rintro _ w10 ⟨rfl, e10⟩
  obtain ⟨hW10, hE10⟩ := hW9.mach (C := "RawMachine") (L := L) (T := T) (A := A)
  have hM10 := hM9.evo hE10
  have hM10a := MM.new (w := w9) (C := "RawMachine") (L := L) (T := T) (A := A) (l := .non) (.inr rfl) Rs.z
  have h10 := hE10.hand 0 h9
  rw [<- e10] at hW10 hM10 h10 hM10a
  clear e10 hE10 hW9 h9 hM9
  walk_at "s"
  refine ⟨mg' hM10a hM10 (by decide), ?_⟩
  refine (xJ' hM10a hM10).mono ?_
  rintro _ _ ⟨rfl, rfl⟩
  refine ⟨_, rfl, ?_⟩
  rename_i w10
  clear hM10a
  generalize w9.length = u9
  clear w9
  walk_at "s"
  refine pV' (fun ρ => ∃ x9 w', ρ = ⟨[some (.fz (.scr (ns.map .int))), some (.fz (.obj 0)), some (.fz (.str L)), some (.fz (.int (T.length : Nat))), some (.fz (cC' T)), some (.fz (cK' A)), some (.fz (.str (lI' L T A))), some (.fz (.obj 1)), some (.fz (.rep (ptD L T A))), x9, none, none, none, none, none], w'⟩ /\ eE' w' 0 /\ WOk w' /\ MM w' 1 "RawMachine" L T A) (cH' (fun c => ?_) (fun c => ?_)) ?_
  . have hMo : MacOk L T A 4 6 := ⟨hL, hT, hn1, by omega, hAc⟩
    have km := z4' (w := w10) rfl hMo (by omega)
    walk_at "s"
    refine km.mono ?_
    rintro _ _ ⟨rfl, rfl⟩
    clear km
    obtain ⟨hW11, hE11⟩ := hW10.mach (C := "Machine") (L := L) (T := T) (A := A)
    have hM11 := hM10.evo hE11
    have hM11a := MM.new (w := w10) (C := "Machine") (L := L) (T := T) (A := A) (l := .non) (.inl rfl) Rs.z
    have h11 := hE11.hand 0 h10
    generalize w10 ++ [mkM "Machine" L T A .non dq'] = w11 at *
    have htx := c0' hM11a hLle hT (by omega) hAc
    walk_at "s"
    refine ⟨mg' hM11a hM11 (by decide), ?_⟩
    refine (xJ' hM11 hM11a).mono ?_
    rintro _ _ ⟨rfl, rfl⟩
    refine ⟨_, rfl, ?_⟩
    walk_at "s"
    refine ⟨mg' hM11 hM11a (by decide), ?_⟩
    refine (xJ' hM11 hM11a).mono ?_
    rintro _ _ ⟨rfl, rfl⟩
    refine ⟨_, rfl, ?_⟩
    walk_at "s"
    refine htx.mono ?_
    rintro _ _ ⟨rfl, rfl⟩
    walk_at "s"
    exact ⟨_, _, rfl, h11, hW11, hM11⟩
  . walk_at "s"
    exact ⟨_, _, rfl, h10, hW10, hM10⟩
  clear h10 hW10 hM10 w10 u9
  rintro _ ⟨x9, w10, rfl, h10, hW10, hM10⟩
  walk_at "s"
  refine (bJ' h10 (by omega) (by omega)).mono ?_
  rintro _ w11 ⟨n1, rfl, hd1, h11, b11⟩
  obtain ⟨hW11, hE11⟩ := hW10.but h10 h11 b11
  have hM11 := hM10.evo hE11
  clear hW10 hE11 hM10 h10 b11
  walk_at "s"
  refine (pT' h11 hLne (by omega) (by omega)).mono ?_
  rintro _ w12 ⟨x, rfl, lx, hx, h12, b12⟩
  obtain ⟨hW12, hE12⟩ := hW11.but h11 h12 b12
  have hM12 := hM11.evo hE12
  clear hW11 hE12 hM11 h11 b12
  walk_at "s"
  refine (bJ' h12 (by omega) (by omega)).mono ?_
  rintro _ w13 ⟨d2, rfl, hd2, h13, b13⟩
  obtain ⟨hW13, hE13⟩ := hW12.but h12 h13 b13
  have hM13 := hM12.evo hE13
  clear hW12 hE13 hM12 h12 b13
  have hP : Pt L T := ⟨hT, hL.asc.imp fun h => Nat.ne_of_lt h, by omega, hn1, by omega⟩
  have et : (1 : Int) + (d2 : Nat) = ((1 + d2 : Nat) : Int) := by omega
  generalize ht : 1 + d2 = t at et
  have k1 := wP' hM13 hP hx
  have k2 := fu' (w := w13) (A := A) hT (by omega) hx
  have k3 := sH' (decide (run L T 0 x ∈ A)) w13
  walk_at "s"
  refine k1.mono ?_
  rintro _ _ ⟨rfl, rfl⟩
  clear k1
  walk_at "s"
  refine k2.mono ?_
  rintro _ _ ⟨rfl, rfl⟩
  clear k2
  walk_at "s"
  refine k3.mono ?_
  rintro _ _ ⟨rfl, rfl⟩
  clear k3
  rename_i w13
  have k1 := lS' hM13 hT (by omega) (by omega) hx (t := t) (by omega)
  have hxr : ∀ c ∈ (List.replicate t x).flatten, c ∈ L := fun c hc => by
    obtain ⟨l, hl, hc⟩ := List.mem_flatten.1 hc
    rw [(List.mem_replicate.1 hl).2] at hc
    exact hx c hc
  have k2 := fu' (w := w13) (A := A) hT (by omega) hxr
  rw [<- rz'] at k1
  have k3 := sH' (decide (run L T 0 (List.replicate t x).flatten ∈ A)) w13
  walk_at "s"
  refine k1.mono ?_
  rintro _ _ ⟨rfl, rfl⟩
  clear k1
  walk_at "s"
  rw [gR' ⟨by omega, by omega, by exact Nat.le_trans (Nat.mul_le_mul (show n1 <= 60 by omega) (show t <= 3 by omega)) (by decide)⟩]
  walk_at "s"
  refine k2.mono ?_
  rintro _ _ ⟨rfl, rfl⟩
  clear k2
  walk_at "s"
  refine k3.mono ?_
  rintro _ _ ⟨rfl, rfl⟩
  clear k3
  rename_i w13
  clear hxr
  have kl := xq' hW13 hM13 hP
  walk_at "s"
  refine kl.mono ?_
  rintro _ w14 ⟨k, c, T0, A0, rfl, hI, hM14, hW14, hE14⟩
  clear kl hW13 hM13 h13 hE14
  have hP0 := hP.least hI
  have hle := hI.le
  have hn0 := hI.ne
  have kf := pk' hM14 hI.tab hI.ne (by omega) (by omega) hI.acc
  walk_at "s"
  refine kf.mono ?_
  rintro _ _ ⟨rfl, rfl⟩
  clear kf
  rename_i w14
  have e3 := ct' (x := "table") hM14
  have e4 := ct' (x := "accepts") hM14
  obtain ⟨l5, hm5⟩ := hM14.mc
  have f2 := hm5.ft
  have f3 := hm5.fa
  clear hm5
  have kt : wF (f_Machine_table [.obj k] w14) (fun o w' => o = .fz (cC' T0) /\ w' = w14) FX := by
    unfold f_Machine_table
    walk_at "f"
  have ka : wF (f_Machine_accepts [.obj k] w14) (fun o w' => o = .fz (cK' A0) /\ w' = w14) FX := by
    unfold f_Machine_accepts
    walk_at "f"
  have g1 : decide ((T0.length : Int) > (T.length : Nat)) = false := decide_eq_false (by omega)
  have ko := jL' hI.tab hI.ne (by omega) (by omega) hI.reach w14
  have ku := iq' hI.tab hI.ne (by omega) hP.nd (by omega) hI.apart w14
  have ks := rx' (A1 := A) (A2 := A0) hT hI.tab (by omega) hI.ne (by omega) (by omega) hP.nd (by omega) (fun z hz => (hI.run0 hT (by omega) hz).symm) w14
  have kx := c0' hM14 hLle hI.tab (by omega) hI.acc
  have kw := gm' hLle hI.tab (by omega) hI.acc w14
  have kr := dx' hL hI.tab hI.ne (by omega) hI.acc w14
  clear f2 f3
  walk_at "s"
  refine kt.mono ?_
  rintro _ _ ⟨rfl, rfl⟩
  walk_at "s"
  refine kt.mono ?_
  rintro _ _ ⟨rfl, rfl⟩
  walk_at "s"
  refine ko.mono ?_
  rintro _ _ ⟨rfl, rfl⟩
  walk_at "s"
  clear ko
  refine kt.mono ?_
  rintro _ _ ⟨rfl, rfl⟩
  walk_at "s"
  refine ka.mono ?_
  rintro _ _ ⟨rfl, rfl⟩
  walk_at "s"
  refine ku.mono ?_
  rintro _ _ ⟨rfl, rfl⟩
  walk_at "s"
  clear ku
  refine kt.mono ?_
  rintro _ _ ⟨rfl, rfl⟩
  walk_at "s"
  refine ka.mono ?_
  rintro _ _ ⟨rfl, rfl⟩
  walk_at "s"
  refine ks.mono ?_
  rintro _ _ ⟨rfl, rfl⟩
  walk_at "s"
  clear ks
  refine kx.mono ?_
  rintro _ _ ⟨rfl, rfl⟩
  walk_at "s"
  clear kx
  refine kt.mono ?_
  rintro _ _ ⟨rfl, rfl⟩
  walk_at "s"
  refine ka.mono ?_
  rintro _ _ ⟨rfl, rfl⟩
  walk_at "s"
  refine kw.mono ?_
  rintro _ _ ⟨rfl, rfl⟩
  walk_at "s"
  clear kw
  refine kr.mono ?_
  rintro _ w15 ⟨rfl, e15⟩
  rename_i w14
  obtain ⟨hW15, hE15⟩ := hW14.mach (C := "RawMachine") (L := L) (T := T0) (A := A0)
  have hM15 := hM14.evo hE15
  have hM15a := MM.new (w := w14) (C := "RawMachine") (L := L) (T := T0) (A := A0) (l := .non) (.inr rfl) Rs.z
  rw [<- e15] at hM15 hM15a hE15 hW15
  clear e15
  clear kr kt ka e3 e4
  have q1 := eY' hM15
  have q2 := eY' hM15a
  have r1 := rR' hI.tab (by omega) (by omega) hI.acc
  walk_at "s"
  refine q2.mono ?_
  rintro _ _ ⟨rfl, rfl⟩
  walk_at "s"
  rw [oN', gR' r1]
  walk_at "s"
  refine q1.mono ?_
  rintro _ _ ⟨rfl, rfl⟩
  walk_at "s"
  rw [oN', gR' r1]
  rw [DG', gR' (hK' (ptD L T0 A0) (jy' L T0 A0))]
end
end M
namespace S
open PySem PySem.Spec PyProof.Rows L2
section
variable [Wd] {K : PySem.W.Frag} {mg : Str -> Option Value} {base : Heap}
theorem fm' (C : Ctx Wd.w K mg) : Og Wd.P Wd.w K mg base 1 "is_integer" ["thing"] (spM K M.f_is_integer) := by
  obtain ⟨fd, F⟩ := C.f_is_integer
  exact ⟨fd, okM F jq' rfl rfl (fun cdv A outer s H E hr =>
    (ae' (al' (bd' (eK' (dP' "int" (by decide) rfl (C.free_isinstance) (by decide +kernel) (ac' (pv 0)) (pe_bltn (v := .ty "int") rfl (C.free_int) (by decide +kernel) rfl)) (go' (vt' (dP' "bool" (by decide) rfl (C.free_isinstance) (by decide +kernel) (ac' (pv 0)) (pe_bltn (v := .ty "bool") rfl (C.free_bool) (by decide +kernel) rfl))))))))), lw' F, F.kp, C.g_is_integer⟩
theorem hW' (C : Ctx Wd.w K mg) : Og Wd.P Wd.w K mg base 2 "check_number" ["thing", "least", "most"] (spM K M.f_check_number) := by
  obtain ⟨fd, F⟩ := C.f_check_number
  exact ⟨fd, okM F hI' rfl rfl (fun cdv A outer s H E hr =>
    (ae' (bn' (nX' (dE' (bB' (fQ' (bW' (ah' (fm' C) (hr.mono (by walk_at "4")) rfl (takes_of rfl rfl rfl rfl) (aa' (ac' (pv 0)) ag'))))) (dE' (a0' fl' t8' (nomark _) (ac' (pv 0)) (ac' (pv 1))) (du' (a0' hU' xj' (nomark _) (ac' (pv 0)) (ac' (pv 2))))))) (ae' (dc' rfl (takes_of rfl rfl rfl rfl) (di' PySem.F.excBase_ValueError C.x_NoNumber C.g_NoNumber C.k_NoNumber C.r_NoNumber rfl))) aI'))), iH' F, F.kp, C.g_check_number⟩
theorem d9' (C : Ctx Wd.w K mg) : Og Wd.P Wd.w K mg base 1 "is_string_of" ["thing", "signs"] (spM K M.f_is_string_of) := by
  obtain ⟨fd, F⟩ := C.f_is_string_of
  exact ⟨fd, okM F d4' rfl rfl (fun cdv A outer s H E hr =>
    (ab' (bn' (bB' (fQ' (dP' "str" (by decide) rfl (C.free_isinstance) (by decide +kernel) (ac' (pv 0)) (pe_bltn (v := .ty "str") rfl (C.free_str) (by decide +kernel) rfl)))) (ae' (al' (bd' bN'))) aI')
      (ab' (b0' (passes_of rfl) rfl (bo' (ac' (pv 0))) (cz' 2 d4'.nd rfl (by walk_at "1") (by walk_at "2")) (ae' (bn' (a0' rX' xi' (by rfl) (ac' (pv 2)) (ac' (pv 1))) (ae' (al' (bd' bN'))) aI')))
      (ae' (al' (bd' bN')))))), iF' F, F.kp, C.g_is_string_of⟩
theorem cY' (C : Ctx Wd.w K mg) : Og Wd.P Wd.w K mg base 1 "is_ascending" ["thing"] (spM K M.f_is_ascending) := by
  obtain ⟨fd, F⟩ := C.f_is_ascending
  exact ⟨fd, okM F cU' rfl rfl (fun cdv A outer s H E hr =>
    (ab' (b0' (passes_of rfl) rfl (zm' rfl (C.free_zip) (ac' (pv 0)) (kt' vq' vF' (ac' (pv 0)) (jp' af') lN')) (Co' (n := 2) rfl rfl rfl rfl (eu' rfl (cz' 1 cU'.nd rfl (by walk_at "1") (by walk_at "2")) (eu' rfl (cz' 2 cU'.nd rfl (by walk_at "1") (by walk_at "2")) lR'))) (ae' (bn' (a0' oe' BP' (nomark _) (ac' (pv 1)) (ac' (pv 2))) (ae' (al' (bd' bN'))) aI')))
      (ae' (al' (bd' bN'))))), iG' F, F.kp, C.g_is_ascending⟩
theorem gw' (C : Ctx Wd.w K mg) : Og Wd.P Wd.w K mg base 2 "is_choice" ["thing", "signs"] (spM K M.f_is_choice) := by
  obtain ⟨fd, F⟩ := C.f_is_choice
  exact ⟨fd, okM F ku' rfl rfl (fun cdv A outer s H E hr =>
    (ae' (al' (bd' (eK' (bW' (ah' (d9' C) (hr.mono (by walk_at "4")) rfl (takes_of rfl rfl rfl rfl) (aa' (ac' (pv 0)) (aa' (ac' (pv 1)) ag')))) (go' (bW' (ah' (cY' C) (hr.mono (by walk_at "4")) rfl (takes_of rfl rfl rfl rfl) (aa' (ac' (pv 0)) ag'))))))))), mD' F, F.kp, C.g_is_choice⟩
theorem pc' (C : Ctx Wd.w K mg) : Og Wd.P Wd.w K mg base 2 "is_word" ["machine", "thing"] (spM K M.f_is_word) := by
  obtain ⟨fd, F⟩ := C.f_is_word
  exact ⟨fd, okM F o6' rfl rfl (fun cdv A outer s H E hr =>
    (ae' (al' (ah' (d9' C) (hr.mono (by walk_at "4")) rfl (takes_of rfl rfl rfl rfl) (aa' (ac' (pv 1)) (aa' (bH' ["Machine", "RawMachine"] (ac' (pv 0)) C.at_kept_letters) ag')))))), s3' F, F.kp, C.g_is_word⟩
theorem fn' (C : Ctx Wd.w K mg) : Og Wd.P Wd.w K mg base 3 "check_word" ["machine", "thing"] (spM K M.f_check_word) := by
  obtain ⟨fd, F⟩ := C.f_check_word
  exact ⟨fd, okM F jr' rfl rfl (fun cdv A outer s H E hr =>
    (ae' (bn' (bB' (fQ' (bW' (ah' (pc' C) (hr.mono (by walk_at "4")) rfl (takes_of rfl rfl rfl rfl) (aa' (ac' (pv 0)) (aa' (ac' (pv 1)) ag')))))) (ae' (dc' rfl (takes_of rfl rfl rfl rfl) (di' PySem.F.excBase_ValueError C.x_NoWord C.g_NoWord C.k_NoWord C.r_NoWord rfl))) aI'))), lx' F, F.kp, C.g_check_word⟩
theorem fo' (C : Ctx Wd.w K mg) : Og Wd.P Wd.w K mg base 2 "are_states" ["thing", "many"] (spM K M.f_are_states) := by
  obtain ⟨fd, F⟩ := C.f_are_states
  exact ⟨fd, okM F fg' rfl rfl (fun cdv A outer s H E hr =>
    (ab' (bn' (bB' (fQ' (dP' "tuple" (by decide) rfl (C.free_isinstance) (by decide +kernel) (ac' (pv 0)) (pe_bltn (v := .ty "tuple") rfl (C.free_tuple) (by decide +kernel) rfl)))) (ae' (al' (bd' bN'))) aI')
      (ab' (b0' (passes_of rfl) rfl (bo' (ac' (pv 0))) (cz' 2 fg'.nd rfl (by walk_at "1") (by walk_at "2")) (ae' (bn' (nX' (dE' (bB' (fQ' (bW' (ah' (fm' C) (hr.mono (by walk_at "4")) rfl (takes_of rfl rfl rfl rfl) (aa' (ac' (pv 2)) ag'))))) (dE' (a0' fl' t8' (nomark _) (ac' (pv 2)) af') (du' (a0' oe' BP' (nomark _) (ac' (pv 2)) (ac' (pv 1))))))) (ae' (al' (bd' bN'))) aI')))
      (ae' (al' (bd' bN')))))), ly' F, F.kp, C.g_are_states⟩
theorem l3' (C : Ctx Wd.w K mg) : Og Wd.P Wd.w K mg base 3 "is_table" ["thing", "letters"] (spM K M.f_is_table) := by
  obtain ⟨fd, F⟩ := C.f_is_table
  exact ⟨fd, okM F hG' rfl rfl (fun cdv A outer s H E hr =>
    (ab' (bn' (nX' (dE' (bB' (fQ' (dP' "tuple" (by decide) rfl (C.free_isinstance) (by decide +kernel) (ac' (pv 0)) (pe_bltn (v := .ty "tuple") rfl (C.free_tuple) (by decide +kernel) rfl)))) (du' (bB' (jl' gu' vG' gu' vG' af' (bp' (ak' ⟨rfl, rfl⟩) bZ' rfl (C.free_len) (by decide +kernel) (ac' (pv 0))) af'))))) (ae' (al' (bd' bN'))) aI')
      (ab' (b0' (passes_of rfl) rfl (bo' (ac' (pv 0))) (cz' 2 hG'.nd rfl (by walk_at "1") (by walk_at "2")) (ae' (bn' (nX' (dE' (bB' (fQ' (bW' (ah' (fo' C) (hr.mono (by walk_at "4")) rfl (takes_of rfl rfl rfl rfl) (aa' (ac' (pv 2)) (aa' (bp' (ak' ⟨rfl, rfl⟩) bZ' rfl (C.free_len) (by decide +kernel) (ac' (pv 0))) ag')))))) (du' (a0' (d8' hr.units) td' (nomark _) (bp' (ak' ⟨rfl, rfl⟩) bZ' rfl (C.free_len) (by decide +kernel) (ac' (pv 2))) (bp' (ak' ⟨rfl, rfl⟩) bZ' rfl (C.free_len) (by decide +kernel) (ac' (pv 1))))))) (ae' (al' (bd' bN'))) aI')))
      (ae' (al' (bd' bN')))))), pD' F, F.kp, C.g_is_table⟩
theorem eb' (C : Ctx Wd.w K mg) : OgM Wd.P Wd.w K mg base 1 (He.ga K "Machine") "keep" ["self", "letters", "table", "accepts"] (spM K M.f_Machine_keep) := by
  obtain ⟨fd, F⟩ := C.f_Machine_keep
  exact ⟨fd, okM F hJ' rfl rfl (fun cdv A outer s H E hr =>
    (ab' (fd' ["Machine", "RawMachine"] (ac' (pv 0)) (bd' (ac' (pv 1))) C.at_kept_letters)
      (ab' (fd' ["Machine", "RawMachine"] (ac' (pv 0)) (bd' (ac' (pv 2))) C.at_kept_table)
      (ab' (fd' ["Machine", "RawMachine"] (ac' (pv 0)) (bd' (ac' (pv 3))) C.at_kept_accepts)
      (ab' (fd' ["Machine", "RawMachine"] (ac' (pv 0)) (bd' rr') C.at_kept_least)
      (ab' (fd' ["Machine", "RawMachine"] (ac' (pv 0)) (bd' rr') C.at_kept_field)
      (ab' (fd' ["Machine", "RawMachine"] (ac' (pv 0)) hD' C.at_kept_lots)
      (ae' (fd' ["Machine", "RawMachine"] (ac' (pv 0)) hD' C.at_kept_more))))))))), iM' F⟩
theorem e1' (C : Ctx Wd.w K mg) : OgM Wd.P Wd.w K mg base 4 (He.ga K "Machine") "__init__" ["self", "letters", "table", "accepts"] (spM K M.f_Machine___init__) := by
  obtain ⟨fd, F⟩ := C.f_Machine___init__
  exact ⟨fd, okM F eV' rfl rfl (fun cdv A outer s H E hr =>
    (ab' (bn' (nX' (dE' (bB' (fQ' (bW' (ah' (gw' C) (hr.mono (by walk_at "4")) rfl (takes_of rfl rfl rfl rfl) (aa' (ac' (pv 1)) (aa' (Cp' (rV' rfl C.c_SMALL) fun _ _ => vR' (by decide +kernel) (by decide +kernel)) ag')))))) (du' (bB' (jl' gu' vG' gu' vG' af' (bp' (ak' ⟨rfl, rfl⟩) bZ' rfl (C.free_len) (by decide +kernel) (ac' (pv 1))) af'))))) (ae' lM') aI')
      (ab' (bn' (bB' (fQ' (bW' (ah' (l3' C) (hr.mono (by walk_at "4")) rfl (takes_of rfl rfl rfl rfl) (aa' (ac' (pv 2)) (aa' (ac' (pv 1)) ag')))))) (ae' lM') aI')
      (ab' (bn' (nX' (dE' (bB' (fQ' (bW' (ah' (fo' C) (hr.mono (by walk_at "4")) rfl (takes_of rfl rfl rfl rfl) (aa' (ac' (pv 3)) (aa' (bp' (ak' ⟨rfl, rfl⟩) bZ' rfl (C.free_len) (by decide +kernel) (ac' (pv 2))) ag')))))) (du' (bB' (fQ' (bW' (ah' (cY' C) (hr.mono (by walk_at "4")) rfl (takes_of rfl rfl rfl rfl) (aa' (ac' (pv 3)) ag')))))))) (ae' lM') aI')
      (ae' (fR' (bW' (ri' (ac' (pv 0)) (eb' C) (hr.mono (by decide)) C.ml_Machine_keep (takes_of rfl rfl rfl rfl) (aa' (ac' (pv 1)) (aa' (ac' (pv 2)) (aa' (ac' (pv 3)) ag'))))))))))), fG' F⟩
theorem dj' (C : Ctx Wd.w K mg) : OgM Wd.P Wd.w K mg base 1 (He.ga K "Machine") "letters" ["self"] (spM K M.f_Machine_letters) := by
  obtain ⟨fd, F⟩ := C.f_Machine_letters
  exact ⟨fd, okM F fh' rfl rfl (fun cdv A outer s H E hr =>
    (ae' (al' (bd' (bH' ["Machine", "RawMachine"] (ac' (pv 0)) C.at_kept_letters))))), gh' F⟩
end
end S
namespace S
open PySem PySem.Spec PyProof.Rows L2
section
variable [Wd] {K : PySem.W.Frag} {mg : Str -> Option Value} {base : Heap}
theorem ba' (C : Ctx Wd.w K mg) : OgM Wd.P Wd.w K mg base 1 (He.ga K "Machine") "table" ["self"] (spM K M.f_Machine_table) := by
  obtain ⟨fd, F⟩ := C.f_Machine_table
  exact ⟨fd, okM F gV' rfl rfl (fun cdv A outer s H E hr =>
    (ae' (al' (bd' (bH' ["Machine", "RawMachine"] (ac' (pv 0)) C.at_kept_table))))), in' F⟩
theorem bt' (C : Ctx Wd.w K mg) : OgM Wd.P Wd.w K mg base 1 (He.ga K "Machine") "accepts" ["self"] (spM K M.f_Machine_accepts) := by
  obtain ⟨fd, F⟩ := C.f_Machine_accepts
  exact ⟨fd, okM F fi' rfl rfl (fun cdv A outer s H E hr =>
    (ae' (al' (bd' (bH' ["Machine", "RawMachine"] (ac' (pv 0)) C.at_kept_accepts))))), gi' F⟩
theorem dR' (C : Ctx Wd.w K mg) : OgM Wd.P Wd.w K mg base 1 (He.ga K "Machine") "parts" ["self"] (spM K M.f_Machine_parts) := by
  obtain ⟨fd, F⟩ := C.f_Machine_parts
  exact ⟨fd, okM F gW' rfl rfl (fun cdv A outer s H E hr =>
    (ae' (al' (bd' (ff' (aa' (bH' ["Machine", "RawMachine"] (ac' (pv 0)) C.at_kept_letters) (aa' (bH' ["Machine", "RawMachine"] (ac' (pv 0)) C.at_kept_table) (aa' (bH' ["Machine", "RawMachine"] (ac' (pv 0)) C.at_kept_accepts) ag')))))))), io' F⟩
theorem cp' (C : Ctx Wd.w K mg) : OgM Wd.P Wd.w K mg base 2 (He.ga K "Machine") "__eq__" ["self", "other"] (spM K M.f_Machine___eq__) := by
  obtain ⟨fd, F⟩ := C.f_Machine___eq__
  exact ⟨fd, okM F fV' rfl rfl (fun cdv A outer s H E hr =>
    (ae' (al' (bd' (eK' (zq' M.isT "Machine" C.is_Machine rfl (C.free_isinstance) (by decide +kernel) (ac' (pv 1)) (w5' rfl C.g_Machine)) (go' (cj' (eM' hr.units) t9' (nomark _) (bW' (bD' (ac' (pv 0)) (dR' C) (hr.mono (by decide)) C.ml_Machine_parts (takes_of rfl rfl rfl rfl))) (bW' (bD' (ac' (pv 1)) (dR' C) (hr.mono (by decide)) C.ml_Machine_parts (takes_of rfl rfl rfl rfl)))))))))), g1' F⟩
theorem cl' (C : Ctx Wd.w K mg) : OgM Wd.P Wd.w K mg base 2 (He.ga K "RawMachine") "__init__" ["self", "letters", "table", "accepts"] (spM K M.f_RawMachine___init__) := by
  obtain ⟨fd, F⟩ := C.f_RawMachine___init__
  exact ⟨fd, okM F dZ' rfl rfl (fun cdv A outer s H E hr =>
    (ae' (fR' (bW' (ri' (ac' (pv 0)) (eb' C) (hr.mono (by decide)) C.ml_Machine_keep (takes_of rfl rfl rfl rfl) (aa' (ac' (pv 1)) (aa' (ac' (pv 2)) (aa' (ac' (pv 3)) ag')))))))), eq' F⟩
theorem vD' (C : Ctx Wd.w K mg) : Og Wd.P Wd.w K mg base 1 "led" ["machine", "state", "word"] (spM K M.f_led) := by
  obtain ⟨fd, F⟩ := C.f_led
  exact ⟨fd, okM F rv' rfl rfl (fun cdv A outer s H E hr =>
    (ab' (b0' (passes_of rfl) rfl (bo' (ac' (pv 2))) (cz' 3 rv'.nd rfl (by walk_at "1") (by walk_at "2")) (ae' (aj' (i := 1) rv'.nd rfl (by walk_at "1") (bd' (b9' ix_seq eN' (b9' ix_seq eN' (bH' ["Machine", "RawMachine"] (ac' (pv 0)) C.at_kept_table) (ac' (pv 1)) (fun _ _ => rfl)) (iy' PySem.F.slot_str_index PySem.F.type_str_index r3' xn' (bH' ["Machine", "RawMachine"] (ac' (pv 0)) C.at_kept_letters) (aa' (ac' (pv 3)) ag')) (fun _ _ => rfl))))))
      (ae' (al' (wF' (pv 1)))))), DU' F, F.kp, C.g_led⟩
theorem xd' (C : Ctx Wd.w K mg) : Og Wd.P Wd.w K mg base 4 "says" ["machine", "word"] (spM K M.f_says) := by
  obtain ⟨fd, F⟩ := C.f_says
  exact ⟨fd, okM F wO' rfl rfl (fun cdv A outer s H E hr =>
    (ab' (fR' (bW' (ah' (fn' C) (hr.mono (by walk_at "4")) rfl (takes_of rfl rfl rfl rfl) (aa' (ac' (pv 0)) (aa' (ac' (pv 1)) ag')))))
      (ae' (al' (bd' (cj' gv' vH' (by rfl) (bW' (ah' (vD' C) (hr.mono (by walk_at "4")) rfl (takes_of rfl rfl rfl rfl) (aa' (ac' (pv 0)) (aa' af' (aa' (ac' (pv 1)) ag'))))) (bH' ["Machine", "RawMachine"] (ac' (pv 0)) C.at_kept_accepts))))))), Bv' F, F.kp, C.g_says⟩
theorem l2' (C : Ctx Wd.w K mg) : Og Wd.P Wd.w K mg base 4 "says_far" ["machine", "word", "times"] (spM K M.f_says_far) := by
  obtain ⟨fd, F⟩ := C.f_says_far
  exact ⟨fd, okM F bu' rfl rfl (fun cdv A outer s H E hr =>
    (ab' (fR' (bW' (ah' (fn' C) (hr.mono (by walk_at "4")) rfl (takes_of rfl rfl rfl rfl) (aa' (ac' (pv 0)) (aa' (ac' (pv 1)) ag')))))
      (ab' (fR' (bW' (ah' (hW' C) (hr.mono (by walk_at "4")) rfl (takes_of rfl rfl rfl rfl) (aa' (ac' (pv 2)) (aa' af' (aa' (Cp' (w6' rfl C.c_MOST_TIMES) fun _ _ => .int _) ag'))))))
      (ab' (aj' (i := 3) bu'.nd rfl (by walk_at "1") (rj' (own := [("state", 4)]) rfl bu'.nd (bs' rfl (C.free_range) (bp' (ak' ⟨rfl, rfl⟩) bZ' rfl (C.free_len) (by decide +kernel) (bH' ["Machine", "RawMachine"] (ac' (pv 0)) C.at_kept_table))) (blkOk_by (own := [("state", 4)]) (N := gj') (sc := defScope bq') (by decide +kernel)) rfl (fun _ _ _ _ _ => (cz' 4 bu'.nd rfl (by walk_at "1") (by walk_at "2"))) (fun _ _ _ _ _ => aT') (fun _ _ _ _ _ => (bW' (ah' (vD' C) (hr.mono (by walk_at "4")) rfl db' (aa' (ac' (pv 0)) (aa' (ac' (pv 4)) (aa' (ac' (pv 1)) ag'))))))))
      (ab' (aj' (i := 4) bu'.nd rfl (by walk_at "1") (bd' af'))
      (ab' (jm' M.yE' (passes_of rfl) (a0' hU' xj' (nomark _) (ac' (pv 2)) af') (ab' (bn' (a0' (eM' hr.units) t9' (nomark _) (a9' op_mod kH' (ac' (pv 2)) af') af') (ae' (aj' (i := 4) bu'.nd rfl (by walk_at "1") (bd' (b9' ix_seq eN' (ac' (pv 3)) (ac' (pv 4)) (fun _ _ => rfl))))) aI')
      (ab' (aj' (i := 3) bu'.nd rfl (by walk_at "1") (rj' (own := [("step", 5)]) rfl bu'.nd (bo' (ac' (pv 3))) (blkOk_by (own := [("step", 5)]) (N := gj') (sc := defScope bq') (by decide +kernel)) rfl (fun _ _ _ _ _ => (cz' 5 bu'.nd rfl (by walk_at "1") (by walk_at "2"))) (fun _ _ _ _ _ => aT') (fun _ _ _ _ _ => (b9' ix_seq eN' (ac' (pv 3)) (ac' (pv 5)) (fun _ _ => rfl)))))
      (ae' (aj' (i := 2) bu'.nd rfl (by walk_at "1") (bd' (a9' op_fdivW kI' (ac' (pv 2)) af')))))))
      (ae' (al' (bd' (cj' gv' vH' (by rfl) (ac' (pv 4)) (bH' ["Machine", "RawMachine"] (ac' (pv 0)) C.at_kept_accepts))))))))))), pB' F, F.kp, C.g_says_far⟩
theorem pb' (C : Ctx Wd.w K mg) : Og Wd.P Wd.w K mg base 1 "reached" ["machine"] (spM K M.f_reached) := by
  obtain ⟨fd, F⟩ := C.f_reached
  exact ⟨fd, okM F cQ' rfl rfl (fun cdv A outer s H E hr =>
    (ab' (aj' (i := 1) cQ'.nd rfl (by walk_at "1") (iW' (aa' af' ag')))
      (ab' (aj' (i := 2) cQ'.nd rfl (by walk_at "1") (rl' af' bN'))
      (ab' (aj' (i := 3) cQ'.nd rfl (by walk_at "1") (bd' af'))
      (ab' (jm' M.yE' (passes_of rfl) (a0' fl' t8' (nomark _) (ac' (pv 3)) (hF' ⟨rfl, rfl⟩ rfl (C.free_len) (by decide +kernel) (pv 1))) (ab' (b0' (passes_of rfl) rfl (bo' (b9' ix_seq eN' (bH' ["Machine", "RawMachine"] (ac' (pv 0)) C.at_kept_table) (vu' (pv 1) (ac' (pv 3)) (fun _ _ => rfl)) (fun _ _ => rfl))) (cz' 4 cQ'.nd rfl (by walk_at "1") (by walk_at "2")) (ae' (bn' (lL' ⟨rfl, rfl⟩ hr.units (ac' (pv 4)) (pv 2)) (ab' (kq' ⟨rfl, rfl⟩ hr.units bN' (pv 2) (ac' (pv 4)))
      (ae' (hB' (pv 1) (bd' (ac' (pv 4)))))) aI')))
      (ae' (zg' (i := 3) cQ'.nd rfl (by walk_at "1") af' ip_add CI'))))
      (ae' (al' (wF' (pv 1))))))))), s1' F, F.kp, C.g_reached⟩
theorem hV' (C : Ctx Wd.w K mg) : Og Wd.P Wd.w K mg base 1 "numbered" ["keys"] (spM K M.f_numbered) := by
  obtain ⟨fd, F⟩ := C.f_numbered
  exact ⟨fd, okM F cT' rfl rfl (fun cdv A outer s H E hr =>
    (ab' (aj' (i := 1) cT'.nd rfl (by walk_at "1") (rm' ⟨rfl, rfl⟩))
      (ab' (aj' (i := 2) cT'.nd rfl (by walk_at "1") hD')
      (ab' (b0' (passes_of rfl) rfl (tF' (ac' (pv 0))) (Co' (n := 2) rfl rfl rfl rfl (eu' rfl (cz' 3 cT'.nd rfl (by walk_at "1") (by walk_at "2")) (eu' rfl (cz' 4 cT'.nd rfl (by walk_at "1") (by walk_at "2")) lR'))) (ab' (bn' (lL' ⟨rfl, rfl⟩ hr.units (ac' (pv 4)) (pv 1)) (ae' (kq' ⟨rfl, rfl⟩ hr.units (hF' ⟨rfl, rfl⟩ rfl (C.free_len) (by decide +kernel) (pv 1)) (pv 1) (ac' (pv 4)))) aI')
      (ae' (kq' ⟨rfl, rfl⟩ hr.units (gp' ⟨rfl, rfl⟩ hr.units (pv 1) (ac' (pv 4)) (fun _ _ => rfl)) (pv 2) (ac' (pv 3))))))
      (ae' (al' (wF' (pv 2)))))))), pC' F, F.kp, C.g_numbered⟩
theorem hX' (C : Ctx Wd.w K mg) : Og Wd.P Wd.w K mg base 2 "alike_states" ["machine", "states"] (spM K M.f_alike_states) := by
  obtain ⟨fd, F⟩ := C.f_alike_states
  exact ⟨fd, okM F aC' rfl rfl (fun cdv A outer s H E hr =>
    (ab' (aj' (i := 2) aC'.nd rfl (by walk_at "1") (ah' (hV' C) (hr.mono (by walk_at "4")) rfl (takes_of rfl rfl rfl rfl) (aa' (bW' (zl' (own := [("state", 5)]) rfl aC'.nd (bo' (ac' (pv 1))) (blkOk_by (own := [("state", 5)]) (N := ds') (sc := defScope aE') (by decide +kernel)) rfl (fun _ _ _ _ _ => (cz' 5 aC'.nd rfl (by walk_at "1") (by walk_at "2"))) (fun _ _ _ _ _ => aT') (fun _ _ _ _ _ => (ac' (pv 5))) (fun _ _ _ _ _ => (cj' gv' vH' (by rfl) (ac' (pv 5)) (bH' ["Machine", "RawMachine"] (ac' (pv 0)) C.at_kept_accepts))))) ag')))
      (ab' (aj' (i := 3) aC'.nd rfl (by walk_at "1") (bd' af'))
      (ab' (jm' M.yE' (passes_of rfl) (a0' oe' BP' (nomark _) (rs' rfl rfl (C.free_max) (by decide +kernel) (ac' (pv 2))) (ac' (pv 3))) (ab' (aj' (i := 3) aC'.nd rfl (by walk_at "1") (bd' (a9' a5' cq' (rs' rfl rfl (C.free_max) (by decide +kernel) (ac' (pv 2))) af')))
      (ab' (aj' (i := 4) aC'.nd rfl (by walk_at "1") hD')
      (ab' (b0' (passes_of rfl) rfl (bo' (ac' (pv 1))) (cz' 5 aC'.nd rfl (by walk_at "1") (by walk_at "2")) (ae' (kq' ⟨rfl, rfl⟩ hr.units (ff' (aa' (gp' ⟨rfl, rfl⟩ hr.units (pv 2) (ac' (pv 5)) (fun _ _ => rfl)) (aa' (cw' (bc' rfl) cG' rfl (C.free_tuple) (by decide +kernel) (dv' (own := [("step", 6)]) rfl aC'.nd (bo' (b9' ix_seq eN' (bH' ["Machine", "RawMachine"] (ac' (pv 0)) C.at_kept_table) (ac' (pv 5)) (fun _ _ => rfl))) (blkOk_by (own := [("step", 6)]) (N := ds') (sc := defScope aE') (by decide +kernel)) rfl (fun _ _ _ _ _ => (cz' 6 aC'.nd rfl (by walk_at "1") (by walk_at "2"))) (fun _ _ _ _ _ => aT') (fun _ _ _ _ _ => (gp' ⟨rfl, rfl⟩ hr.units (pv 2) (ac' (pv 6)) (fun _ _ => rfl))))) ag'))) (pv 4) (ac' (pv 5)))))
      (ae' (aj' (i := 2) aC'.nd rfl (by walk_at "1") (ah' (hV' C) (hr.mono (by walk_at "4")) rfl (takes_of rfl rfl rfl rfl) (aa' (ac' (pv 4)) ag'))))))))
      (ae' (al' (wF' (pv 2)))))))), iI' F, F.kp, C.g_alike_states⟩
theorem t7' (C : Ctx Wd.w K mg) : Og Wd.P Wd.w K mg base 4 "least" ["machine"] (spM K M.f_least) := by
  obtain ⟨fd, F⟩ := C.f_least
  exact ⟨fd, okM F b6' rfl rfl (fun cdv A outer s H E hr =>
    (ab' (bn' (a0' xa' EF' (nomark _) (bH' ["Machine", "RawMachine"] (ac' (pv 0)) C.at_kept_least) rr') (ab' (aj' (i := 1) b6'.nd rfl (by walk_at "1") (ah' (pb' C) (hr.mono (by walk_at "4")) rfl (takes_of rfl rfl rfl rfl) (aa' (ac' (pv 0)) ag')))
      (ab' (aj' (i := 2) b6'.nd rfl (by walk_at "1") (ah' (hX' C) (hr.mono (by walk_at "4")) rfl (takes_of rfl rfl rfl rfl) (aa' (ac' (pv 0)) (aa' (ac' (pv 1)) ag'))))
      (ab' (aj' (i := 3) b6'.nd rfl (by walk_at "1") hD')
      (ab' (b0' (passes_of rfl) rfl (bo' (ac' (pv 1))) (cz' 4 b6'.nd rfl (by walk_at "1") (by walk_at "2")) (ae' (fR' (tJ' (pv 3) (gp' ⟨rfl, rfl⟩ hr.units (pv 2) (ac' (pv 4)) (fun _ _ => rfl)) (ac' (pv 4)) ⟨rfl, rfl, rfl, rfl⟩))))
      (ab' (aj' (i := 5) b6'.nd rfl (by walk_at "1") (iW' ag'))
      (ab' (b0' (passes_of rfl) rfl (bo' (bp' (jh' rfl) sV' rfl (C.free_sorted) (by decide +kernel) (ac' (pv 3)))) (cz' 6 b6'.nd rfl (by walk_at "1") (by walk_at "2")) (ae' (hB' (pv 5) (bd' (cw' (bc' rfl) cG' rfl (C.free_tuple) (by decide +kernel) (dv' (own := [("step", 8)]) rfl b6'.nd (bo' (b9' ix_seq eN' (bH' ["Machine", "RawMachine"] (ac' (pv 0)) C.at_kept_table) (gp' ⟨rfl, rfl⟩ hr.units (pv 3) (ac' (pv 6)) (fun _ _ => rfl)) (fun _ _ => rfl))) (blkOk_by (own := [("step", 8)]) (N := mK') (sc := defScope cD') (by decide +kernel)) rfl (fun _ _ _ _ _ => (cz' 8 b6'.nd rfl (by walk_at "1") (by walk_at "2"))) (fun _ _ _ _ _ => aT') (fun _ _ _ _ _ => (gp' ⟨rfl, rfl⟩ hr.units (pv 2) (ac' (pv 8)) (fun _ _ => rfl)))))))))
      (ab' (aj' (i := 7) b6'.nd rfl (by walk_at "1") (bd' (cw' (bc' rfl) cG' rfl (C.free_tuple) (by decide +kernel) (dv' (own := [("one", 6)]) rfl b6'.nd (bo' (bp' (jh' rfl) sV' rfl (C.free_sorted) (by decide +kernel) (ac' (pv 3)))) (blkOk_by (own := [("one", 6)]) (N := mK') (sc := defScope cD') (by decide +kernel)) rfl (fun _ _ _ _ _ => (cz' 6 b6'.nd rfl (by walk_at "1") (by walk_at "2"))) (fun _ _ _ _ _ => (nY' (a0' gv' vH' (by rfl) (gp' ⟨rfl, rfl⟩ hr.units (pv 3) (ac' (pv 6)) (fun _ _ => rfl)) (bH' ["Machine", "RawMachine"] (ac' (pv 0)) C.at_kept_accepts)))) (fun _ _ _ _ _ => (ac' (pv 6)))))))
      (ab' (fd' ["Machine", "RawMachine"] (ac' (pv 0)) (lQ' (cl' C) (hr.mono (by decide)) rfl C.mk_RawMachine C.g_RawMachine (takes_of rfl rfl rfl rfl) (aa' (bH' ["Machine", "RawMachine"] (ac' (pv 0)) C.at_kept_letters) (aa' (cw' (bc' rfl) cG' rfl (C.free_tuple) (by decide +kernel) (ac' (pv 5))) (aa' (ac' (pv 7)) ag')))) C.at_kept_least)
      (ae' (fd' ["Machine", "RawMachine"] (bH' ["Machine", "RawMachine"] (ac' (pv 0)) C.at_kept_least) (bd' (bH' ["Machine", "RawMachine"] (ac' (pv 0)) C.at_kept_least)) C.at_kept_least)))))))))) aI')
      (ae' (al' (bd' (bH' ["Machine", "RawMachine"] (ac' (pv 0)) C.at_kept_least)))))), yn' F, F.kp, C.g_least⟩
end
end S
namespace S
open PySem PySem.Spec PyProof.Rows L2
section
variable [Wd] {K : PySem.W.Frag} {mg : Str -> Option Value} {base : Heap}
theorem i3' (C : Ctx Wd.w K mg) : Og Wd.P Wd.w K mg base 1 "line_of" ["word", "numbers"] (spM K M.f_line_of) := by
  obtain ⟨fd, F⟩ := C.f_line_of
  exact ⟨fd, okM F fU' rfl rfl (fun cdv A outer s H E hr =>
    (ae' (al' (bd' (iy' PySem.F.slot_str_join PySem.F.type_str_join mt_join i7' (bQ' [32] (by decide +kernel) (by decide +kernel)) (aa' (a9' a5' cq' (zp' (aa' (ac' (pv 0)) ag')) (dv' (own := [("number", 2)]) rfl fU'.nd (bo' (ac' (pv 1))) (blkOk_by (own := [("number", 2)]) (N := lA') (sc := defScope bS') (by decide +kernel)) rfl (fun _ _ _ _ _ => (cz' 2 fU'.nd rfl (by walk_at "1") (by walk_at "2"))) (fun _ _ _ _ _ => aT') (fun _ _ _ _ _ => (cw' fF' uM' rfl (C.free_str) (by decide +kernel) (ac' (pv 2)))))) ag')))))), s2' F, F.kp, C.g_line_of⟩
theorem cX' (C : Ctx Wd.w K mg) : Og Wd.P Wd.w K mg base 2 "machine_text" ["machine"] (spM K M.f_machine_text) := by
  obtain ⟨fd, F⟩ := C.f_machine_text
  exact ⟨fd, okM F cc' rfl rfl (fun cdv A outer s H E hr =>
    (ab' (aj' (i := 1) cc'.nd rfl (by walk_at "1") (iW' (aa' (a9' a5' cq' (bQ' [108, 101, 116, 116, 101, 114, 115, 32] (by decide +kernel) (by decide +kernel)) (bH' ["Machine", "RawMachine"] (ac' (pv 0)) C.at_kept_letters)) ag')))
      (ab' (zf' (pv 1) (dv' (own := [("row", 2)]) rfl cc'.nd (bo' (bH' ["Machine", "RawMachine"] (ac' (pv 0)) C.at_kept_table)) (blkOk_by (own := [("row", 2)]) (N := eQ') (sc := defScope aN') (by decide +kernel)) rfl (fun _ _ _ _ _ => (cz' 2 cc'.nd rfl (by walk_at "1") (by walk_at "2"))) (fun _ _ _ _ _ => aT') (fun _ _ _ _ _ => (bW' (ah' (i3' C) (hr.mono (by walk_at "4")) rfl db' (aa' (bQ' [115, 116, 97, 116, 101] (by decide +kernel) (by decide +kernel)) (aa' (ac' (pv 2)) ag')))))))
      (ab' (hB' (pv 1) (ah' (i3' C) (hr.mono (by walk_at "4")) rfl (takes_of rfl rfl rfl rfl) (aa' (bQ' [97, 99, 99, 101, 112, 116, 115] (by decide +kernel) (by decide +kernel)) (aa' (bH' ["Machine", "RawMachine"] (ac' (pv 0)) C.at_kept_accepts) ag'))))
      (ae' (al' (bd' (iy' PySem.F.slot_str_join PySem.F.type_str_join mt_join i7' (bQ' [10] (by decide +kernel) (by decide +kernel)) (aa' (ac' (pv 1)) ag'))))))))), iE' F, F.kp, C.g_machine_text⟩
theorem dy' (C : Ctx Wd.w K mg) : Og Wd.P Wd.w K mg base 1 "numbers_behind" ["line", "word", "below"] (spM K M.f_numbers_behind) := by
  obtain ⟨fd, F⟩ := C.f_numbers_behind
  exact ⟨fd, okM F aJ' rfl rfl (fun cdv A outer s H E hr =>
    (ab' (aj' (i := 3) aJ'.nd rfl (by walk_at "1") (bd' (iy' PySem.F.slot_str_split PySem.F.type_str_split kP' r7' (ac' (pv 0)) (aa' (bQ' [32] (by decide +kernel) (by decide +kernel)) ag'))))
      (ab' (bn' (a0' (d8' hr.units) td' (nomark _) (b9' ix_seq eN' (ac' (pv 3)) af' (fun _ _ => rfl)) (ac' (pv 1))) (ae' (dc' rfl (takes_of rfl rfl rfl rfl) (di' PySem.F.excBase_ValueError C.x_NoText C.g_NoText C.k_NoText C.r_NoText rfl))) aI')
      (ab' (aj' (i := 4) aJ'.nd rfl (by walk_at "1") (zl' (own := [("number", 5)]) rfl aJ'.nd (bs' rfl (C.free_range) (ac' (pv 2))) (blkOk_by (own := [("number", 5)]) (N := b7') (sc := defScope ap') (by decide +kernel)) rfl (fun _ _ _ _ _ => (cz' 5 aJ'.nd rfl (by walk_at "1") (by walk_at "2"))) (fun _ _ _ _ _ => aT') (fun _ _ _ _ _ => (cw' fF' uM' rfl (C.free_str) (by decide +kernel) (ac' (pv 5)))) (fun _ _ _ _ _ => (ac' (pv 5)))))
      (ab' (bn' (fQ' (bp' (cr_any rfl) Bq' rfl (C.free_any) (by decide +kernel) (dv' (own := [("told", 6)]) rfl aJ'.nd (bo' (kt' vq' vF' (ac' (pv 3)) (jp' af') lN')) (blkOk_by (own := [("told", 6)]) (N := b7') (sc := defScope ap') (by decide +kernel)) rfl (fun _ _ _ _ _ => (cz' 6 aJ'.nd rfl (by walk_at "1") (by walk_at "2"))) (fun _ _ _ _ _ => aT') (fun _ _ _ _ _ => (wM' ⟨rfl, rfl⟩ hr.units (ac' (pv 6)) (pv 4)))))) (ae' (dc' rfl (takes_of rfl rfl rfl rfl) (di' PySem.F.excBase_ValueError C.x_NoText C.g_NoText C.k_NoText C.r_NoText rfl))) aI')
      (ae' (al' (bd' (cw' (bc' rfl) cG' rfl (C.free_tuple) (by decide +kernel) (dv' (own := [("told", 6)]) rfl aJ'.nd (bo' (kt' vq' vF' (ac' (pv 3)) (jp' af') lN')) (blkOk_by (own := [("told", 6)]) (N := b7') (sc := defScope ap') (by decide +kernel)) rfl (fun _ _ _ _ _ => (cz' 6 aJ'.nd rfl (by walk_at "1") (by walk_at "2"))) (fun _ _ _ _ _ => aT') (fun _ _ _ _ _ => (gp' ⟨rfl, rfl⟩ hr.units (pv 4) (ac' (pv 6)) (fun _ _ => rfl))))))))))))), gZ' F, F.kp, C.g_numbers_behind⟩
theorem cW' (C : Ctx Wd.w K mg) : Og Wd.P Wd.w K mg base 4 "read_machine" ["text"] (spM K M.f_read_machine) := by
  obtain ⟨fd, F⟩ := C.f_read_machine
  exact ⟨fd, okM F aL' rfl rfl (fun cdv A outer s H E hr =>
    (ab' (bn' (bB' (fQ' (dP' "str" (by decide) rfl (C.free_isinstance) (by decide +kernel) (ac' (pv 0)) (pe_bltn (v := .ty "str") rfl (C.free_str) (by decide +kernel) rfl)))) (ae' (dc' rfl (takes_of rfl rfl rfl rfl) (di' PySem.F.excBase_ValueError C.x_NoText C.g_NoText C.k_NoText C.r_NoText rfl))) aI')
      (ab' (aj' (i := 1) aL'.nd rfl (by walk_at "1") (bd' (iy' PySem.F.slot_str_split PySem.F.type_str_split kP' r7' (ac' (pv 0)) (aa' (bQ' [10] (by decide +kernel) (by decide +kernel)) ag'))))
      (ab' (aj' (i := 2) aL'.nd rfl (by walk_at "1") (bd' (a9' op_sub xh' (bp' (ak' ⟨rfl, rfl⟩) bZ' rfl (C.free_len) (by decide +kernel) (ac' (pv 1))) af')))
      (ab' (aj' (i := 3) aL'.nd rfl (by walk_at "1") (bd' (kt' vq' vF' (b9' ix_seq eN' (ac' (pv 1)) af' (fun _ _ => rfl)) (jp' (bp' (ak' ⟨rfl, rfl⟩) bZ' rfl (C.free_len) (by decide +kernel) (bQ' [108, 101, 116, 116, 101, 114, 115, 32] (by decide +kernel) (by decide +kernel)))) lN')))
      (ab' (bn' (nX' (dE' (a0' fl' t8' (nomark _) (ac' (pv 2)) af') (dE' (a0' (d8' hr.units) td' (nomark _) (b9' ix_seq eN' (ac' (pv 1)) af' (fun _ _ => rfl)) (a9' a5' cq' (bQ' [108, 101, 116, 116, 101, 114, 115, 32] (by decide +kernel) (by decide +kernel)) (ac' (pv 3)))) (dE' (bB' (fQ' (bW' (ah' (gw' C) (hr.mono (by walk_at "4")) rfl (takes_of rfl rfl rfl rfl) (aa' (ac' (pv 3)) (aa' (Cp' (rV' rfl C.c_SMALL) fun _ _ => vR' (by decide +kernel) (by decide +kernel)) ag')))))) (du' (bB' (jl' gu' vG' gu' vG' af' (bp' (ak' ⟨rfl, rfl⟩) bZ' rfl (C.free_len) (by decide +kernel) (ac' (pv 3))) af'))))))) (ae' (dc' rfl (takes_of rfl rfl rfl rfl) (di' PySem.F.excBase_ValueError C.x_NoText C.g_NoText C.k_NoText C.r_NoText rfl))) aI')
      (ab' (aj' (i := 4) aL'.nd rfl (by walk_at "1") (bd' (cw' (bc' rfl) cG' rfl (C.free_tuple) (by decide +kernel) (dv' (own := [("line", 6)]) rfl aL'.nd (bo' (kt' vq' vF' (ac' (pv 1)) (jp' af') (jp' (zo' un_neg zZ' af')))) (blkOk_by (own := [("line", 6)]) (N := dr') (sc := defScope aD') (by decide +kernel)) rfl (fun _ _ _ _ _ => (cz' 6 aL'.nd rfl (by walk_at "1") (by walk_at "2"))) (fun _ _ _ _ _ => aT') (fun _ _ _ _ _ => (bW' (ah' (dy' C) (hr.mono (by walk_at "4")) rfl db' (aa' (ac' (pv 6)) (aa' (bQ' [115, 116, 97, 116, 101] (by decide +kernel) (by decide +kernel)) (aa' (ac' (pv 2)) ag'))))))))))
      (ab' (bn' (fQ' (bp' (cr_any rfl) Bq' rfl (C.free_any) (by decide +kernel) (dv' (own := [("row", 7)]) rfl aL'.nd (bo' (ac' (pv 4))) (blkOk_by (own := [("row", 7)]) (N := dr') (sc := defScope aD') (by decide +kernel)) rfl (fun _ _ _ _ _ => (cz' 7 aL'.nd rfl (by walk_at "1") (by walk_at "2"))) (fun _ _ _ _ _ => aT') (fun _ _ _ _ _ => (cj' (d8' hr.units) td' (nomark _) (bp' (ak' ⟨rfl, rfl⟩) bZ' rfl (C.free_len) (by decide +kernel) (ac' (pv 7))) (bp' (ak' ⟨rfl, rfl⟩) bZ' rfl (C.free_len) (by decide +kernel) (ac' (pv 3)))))))) (ae' (dc' rfl (takes_of rfl rfl rfl rfl) (di' PySem.F.excBase_ValueError C.x_NoText C.g_NoText C.k_NoText C.r_NoText rfl))) aI')
      (ab' (aj' (i := 5) aL'.nd rfl (by walk_at "1") (ah' (dy' C) (hr.mono (by walk_at "4")) rfl (takes_of rfl rfl rfl rfl) (aa' (b9' ix_seq eN' (ac' (pv 1)) (zo' un_neg zZ' af') (fun _ _ => rfl)) (aa' (bQ' [97, 99, 99, 101, 112, 116, 115] (by decide +kernel) (by decide +kernel)) (aa' (ac' (pv 2)) ag')))))
      (ab' (bn' (bB' (fQ' (bW' (ah' (cY' C) (hr.mono (by walk_at "4")) rfl (takes_of rfl rfl rfl rfl) (aa' (ac' (pv 5)) ag'))))) (ae' (dc' rfl (takes_of rfl rfl rfl rfl) (di' PySem.F.excBase_ValueError C.x_NoText C.g_NoText C.k_NoText C.r_NoText rfl))) aI')
      (ae' (al' (lQ' (cl' C) (hr.mono (by decide)) rfl C.mk_RawMachine C.g_RawMachine (takes_of rfl rfl rfl rfl) (aa' (ac' (pv 3)) (aa' (ac' (pv 4)) (aa' (ac' (pv 5)) ag')))))))))))))))), iD' F, F.kp, C.g_read_machine⟩
theorem kG' (C : Ctx Wd.w K mg) : Og Wd.P Wd.w K mg base 1 "_law_hand" ["_law_script"] (spM K M.f__law_hand) := by
  obtain ⟨fd, F⟩ := C.f__law_hand
  exact ⟨fd, okM F d5' rfl rfl (fun cdv A outer s H E hr =>
    (ab' (tA' (i := 1) (own := [("_law_cell", 2)]) rfl d5'.nd rfl rfl (sw_true (by rfl) (by rfl) (by rfl) (by decide +kernel)) (bo' (kt' vq' vF' (ac' (pv 0)) lN' (jp' af'))) (blkOk_by (own := [("_law_cell", 2)]) (N := iv') (sc := defScope bm') (by decide +kernel)) rfl (fun _ _ _ _ _ => (cz' 2 d5'.nd rfl (by walk_at "1") (by walk_at "2"))) (fun _ _ _ _ _ => aT') (fun _ _ _ _ _ => (bp' sU' DS' rfl (C.free_abs) (by decide +kernel) (cw' b5' iC' rfl (C.free_int) (by decide +kernel) (ac' (pv 2))))))
      (ae' (al' (zj' (aa' (ac' (pv 1)) (aa' af' (aa' af' (aa' (a9' a5' cq' af' (bp' (ak' ⟨rfl, rfl⟩) bZ' rfl (C.free_len) (by decide +kernel) (ac' (pv 1)))) (aa' af' ag')))))))))), mH' F, F.kp, C.g__law_hand⟩
theorem a3' (C : Ctx Wd.w K mg) : Og Wd.P Wd.w K mg base 1 "_law_draw" ["_law_hand_here", "_law_many"] (spM K M.f__law_draw) := by
  obtain ⟨fd, F⟩ := C.f__law_draw
  exact ⟨fd, okM F b8' rfl rfl (fun cdv A outer s H E hr =>
    (ab' (bn' (nX' (zd' (a0' (eM' hr.units) t9' (nomark _) (dw' (ac' (pv 0)) af' (fun _ _ => rfl)) af') (wB' (a0' fl' t8' (nomark _) (dw' (ac' (pv 0)) af' (fun _ _ => rfl)) (bp' (ak' ⟨rfl, rfl⟩) bZ' rfl (C.free_len) (by decide +kernel) (dw' (ac' (pv 0)) af' (fun _ _ => rfl))))))) (ab' (aj' (i := 2) b8'.nd rfl (by walk_at "1") (bd' (b9' ix_seq eN' (dw' (ac' (pv 0)) af' (fun _ _ => rfl)) (dw' (ac' (pv 0)) af' (fun _ _ => rfl)) (fun _ _ => rfl))))
      (ab' (hA' (a9' a5' cq' (dw' (ac' (pv 0)) af' (fun _ _ => rfl)) af') (ac' (pv 0)) af')
      (ab' (hA' (a9' op_mod kH' (cw' b5' iC' rfl (C.free_int) (by decide +kernel) (a9' a5' cq' (a9' a5' cq' (a9' e0' l4' (dw' (ac' (pv 0)) af' (fun _ _ => rfl)) af') (ac' (pv 2))) af')) af') (ac' (pv 0)) af')
      (ae' (bn' (a0' oe' BP' (nomark _) (ac' (pv 2)) (a9' op_pow CQ' af' af')) (ae' (hA' (ac' (pv 2)) (ac' (pv 0)) af')) aI'))))) aI')
      (ab' (bn' (a0' hU' xj' (nomark _) (dw' (ac' (pv 0)) af' (fun _ _ => rfl)) af') (ab' (aj' (i := 3) b8'.nd rfl (by walk_at "1") (bd' (a9' op_mod kH' (cw' b5' iC' rfl (C.free_int) (by decide +kernel) (dw' (ac' (pv 0)) af' (fun _ _ => rfl))) (ac' (pv 1)))))
      (ab' (hA' (a9' op_fdivW kI' (dw' (ac' (pv 0)) af' (fun _ _ => rfl)) (ac' (pv 1))) (ac' (pv 0)) af')
      (ae' (al' (wF' (pv 3)))))) aI')
      (ab' (hA' (a9' a5' cq' (dw' (ac' (pv 0)) af' (fun _ _ => rfl)) af') (ac' (pv 0)) af')
      (ab' (aj' (i := 4) b8'.nd rfl (by walk_at "1") (bd' (a9' op_mod kH' (cw' b5' iC' rfl (C.free_int) (by decide +kernel) (a9' e0' l4' (cw' b5' iC' rfl (C.free_int) (by decide +kernel) (a9' a5' cq' (dw' (ac' (pv 0)) af' (fun _ _ => rfl)) (a9' e0' l4' af' (dw' (ac' (pv 0)) af' (fun _ _ => rfl))))) af')) af')))
      (ab' (aj' (i := 4) b8'.nd rfl (by walk_at "1") (bd' (a9' op_mod kH' (cw' b5' iC' rfl (C.free_int) (by decide +kernel) (a9' e0' l4' (ac' (pv 4)) (a9' a5' cq' (a9' op_fdivW kI' (ac' (pv 4)) af') af'))) af')))
      (ab' (aj' (i := 4) b8'.nd rfl (by walk_at "1") (bd' (a9' op_mod kH' (cw' b5' iC' rfl (C.free_int) (by decide +kernel) (a9' e0' l4' (ac' (pv 4)) (a9' a5' cq' (a9' op_fdivW kI' (ac' (pv 4)) af') af'))) af')))
      (ae' (al' (bd' (a9' op_mod kH' (cw' b5' iC' rfl (C.free_int) (by decide +kernel) (a9' op_fdivW kI' (ac' (pv 4)) af')) (ac' (pv 1))))))))))))), mJ' F, F.kp, C.g__law_draw⟩
theorem hY' (C : Ctx Wd.w K mg) : Og Wd.P Wd.w K mg base 2 "_law_letters" ["_law_hand_here", "_law_signs", "_law_many"] (spM K M.f__law_letters) := by
  obtain ⟨fd, F⟩ := C.f__law_letters
  exact ⟨fd, okM F bl' rfl rfl (fun cdv A outer s H E hr =>
    (ab' (aj' (i := 3) bl'.nd rfl (by walk_at "1") (bd' (ac' (pv 1))))
      (ab' (aj' (i := 4) bl'.nd rfl (by walk_at "1") (bd' (bQ' [] (by decide +kernel) (by decide +kernel))))
      (ab' (b0' (passes_of rfl) rfl (bs' rfl (C.free_range) (ac' (pv 2))) (cz' 5 bl'.nd rfl (by walk_at "1") (by walk_at "2")) (ab' (aj' (i := 6) bl'.nd rfl (by walk_at "1") (ah' (a3' C) (hr.mono (by walk_at "4")) rfl (takes_of rfl rfl rfl rfl) (aa' (ac' (pv 0)) (aa' (bp' (ak' ⟨rfl, rfl⟩) bZ' rfl (C.free_len) (by decide +kernel) (ac' (pv 3))) ag'))))
      (ab' (aj' (i := 4) bl'.nd rfl (by walk_at "1") (bd' (a9' a5' cq' (ac' (pv 4)) (b9' ix_seq eN' (ac' (pv 3)) (ac' (pv 6)) (fun _ _ => rfl)))))
      (ae' (aj' (i := 3) bl'.nd rfl (by walk_at "1") (bd' (a9' a5' cq' (kt' vq' vF' (ac' (pv 3)) lN' (jp' (ac' (pv 6)))) (kt' vq' vF' (ac' (pv 3)) (jp' (a9' a5' cq' (ac' (pv 6)) af')) lN'))))))))
      (ae' (al' (wF' (pv 4)))))))), iK' F, F.kp, C.g__law_letters⟩
theorem kE' (C : Ctx Wd.w K mg) : Og Wd.P Wd.w K mg base 2 "_law_word" ["_law_hand_here", "_law_letters_here", "_law_many"] (spM K M.f__law_word) := by
  obtain ⟨fd, F⟩ := C.f__law_word
  exact ⟨fd, okM F de' rfl rfl (fun cdv A outer s H E hr =>
    (ab' (aj' (i := 3) de'.nd rfl (by walk_at "1") (bd' (bQ' [] (by decide +kernel) (by decide +kernel))))
      (ab' (b0' (passes_of rfl) rfl (bs' rfl (C.free_range) (ac' (pv 2))) (cz' 4 de'.nd rfl (by walk_at "1") (by walk_at "2")) (ae' (aj' (i := 3) de'.nd rfl (by walk_at "1") (bd' (a9' a5' cq' (ac' (pv 3)) (b9' ix_seq eN' (ac' (pv 1)) (bW' (ah' (a3' C) (hr.mono (by walk_at "4")) rfl (takes_of rfl rfl rfl rfl) (aa' (ac' (pv 0)) (aa' (bp' (ak' ⟨rfl, rfl⟩) bZ' rfl (C.free_len) (by decide +kernel) (ac' (pv 1))) ag')))) (fun _ _ => rfl)))))))
      (ae' (al' (wF' (pv 3))))))), mE' F, F.kp, C.g__law_word⟩
theorem gx' (C : Ctx Wd.w K mg) : Og Wd.P Wd.w K mg base 1 "_law_says" ["_law_letters_here", "_law_table", "_law_accepts", "_law_word_here"] (spM K M.f__law_says) := by
  obtain ⟨fd, F⟩ := C.f__law_says
  exact ⟨fd, okM F df' rfl rfl (fun cdv A outer s H E hr =>
    (ab' (aj' (i := 4) df'.nd rfl (by walk_at "1") (bd' af'))
      (ab' (b0' (passes_of rfl) rfl (bo' (ac' (pv 3))) (cz' 5 df'.nd rfl (by walk_at "1") (by walk_at "2")) (ae' (aj' (i := 4) df'.nd rfl (by walk_at "1") (bd' (b9' ix_seq eN' (b9' ix_seq eN' (ac' (pv 1)) (ac' (pv 4)) (fun _ _ => rfl)) (iy' PySem.F.slot_str_find PySem.F.type_str_find mt_find z5' (ac' (pv 0)) (aa' (ac' (pv 5)) ag')) (fun _ _ => rfl))))))
      (ae' (al' (bd' (cj' gv' vH' (by rfl) (ac' (pv 4)) (ac' (pv 2))))))))), mF' F, F.kp, C.g__law_says⟩
theorem dQ' (C : Ctx Wd.w K mg) : Og Wd.P Wd.w K mg base 1 "_law_is_whole" ["_law_thing"] (spM K M.f__law_is_whole) := by
  obtain ⟨fd, F⟩ := C.f__law_is_whole
  exact ⟨fd, okM F gU' rfl rfl (fun cdv A outer s H E hr =>
    (ae' (al' (bd' (eK' (dP' "int" (by decide) rfl (C.free_isinstance) (by decide +kernel) (ac' (pv 0)) (pe_bltn (v := .ty "int") rfl (C.free_int) (by decide +kernel) rfl)) (go' (vt' (dP' "bool" (by decide) rfl (C.free_isinstance) (by decide +kernel) (ac' (pv 0)) (pe_bltn (v := .ty "bool") rfl (C.free_bool) (by decide +kernel) rfl))))))))), il' F, F.kp, C.g__law_is_whole⟩
theorem eG' (C : Ctx Wd.w K mg) : Og Wd.P Wd.w K mg base 3 "_law_some_letters" ["_law_hand_here"] (spM K M.f__law_some_letters) := by
  obtain ⟨fd, F⟩ := C.f__law_some_letters
  exact ⟨fd, okM F eF' rfl rfl (fun cdv A outer s H E hr =>
    (ae' (al' (bd' (iy' PySem.F.slot_str_join PySem.F.type_str_join mt_join i7' (bQ' [] (by decide +kernel) (by decide +kernel)) (aa' (bp' (px' rfl) uN' rfl (C.free_sorted) (by decide +kernel) (bW' (ah' (hY' C) (hr.mono (by walk_at "4")) rfl (takes_of rfl rfl rfl rfl) (aa' (ac' (pv 0)) (aa' (bQ' [97, 98, 99, 100, 101, 102, 103, 104, 105, 106, 107, 108, 109, 110, 111, 112, 113, 114, 115, 116, 117, 118, 119, 120, 121, 122] (by decide +kernel) (by decide +kernel)) (aa' (a9' a5' cq' af' (bW' (ah' (a3' C) (hr.mono (by walk_at "4")) rfl (takes_of rfl rfl rfl rfl) (aa' (ac' (pv 0)) (aa' af' ag'))))) ag')))))) ag')))))), e6' F, F.kp, C.g__law_some_letters⟩
theorem hZ' (C : Ctx Wd.w K mg) : Og Wd.P Wd.w K mg base 2 "_law_is_form" ["_law_letters_here", "_law_machine"] (spM K M.f__law_is_form) := by
  obtain ⟨fd, F⟩ := C.f__law_is_form
  exact ⟨fd, okM F aM' rfl rfl (fun cdv A outer s H E hr =>
    (ab' (aj' (i := 2) aM'.nd rfl (by walk_at "1") (bD' (ac' (pv 1)) (ba' C) (hr.mono (by decide)) C.ml_Machine_table (takes_of rfl rfl rfl rfl)))
      (ab' (aj' (i := 3) aM'.nd rfl (by walk_at "1") (bD' (ac' (pv 1)) (bt' C) (hr.mono (by decide)) C.ml_Machine_accepts (takes_of rfl rfl rfl rfl)))
      (ab' (bn' (nX' (dE' (a0' (d8' hr.units) td' (nomark _) (bW' (bD' (ac' (pv 1)) (dj' C) (hr.mono (by decide)) C.ml_Machine_letters (takes_of rfl rfl rfl rfl))) (ac' (pv 0))) (dE' (bB' (fQ' (dP' "tuple" (by decide) rfl (C.free_isinstance) (by decide +kernel) (ac' (pv 2)) (pe_bltn (v := .ty "tuple") rfl (C.free_tuple) (by decide +kernel) rfl)))) (du' (bB' (fQ' (dP' "tuple" (by decide) rfl (C.free_isinstance) (by decide +kernel) (ac' (pv 3)) (pe_bltn (v := .ty "tuple") rfl (C.free_tuple) (by decide +kernel) rfl)))))))) (ae' (al' (bd' bN'))) aI')
      (ab' (b0' (passes_of rfl) rfl (bo' (ac' (pv 2))) (cz' 4 aM'.nd rfl (by walk_at "1") (by walk_at "2")) (ab' (bn' (nX' (dE' (bB' (fQ' (dP' "tuple" (by decide) rfl (C.free_isinstance) (by decide +kernel) (ac' (pv 4)) (pe_bltn (v := .ty "tuple") rfl (C.free_tuple) (by decide +kernel) rfl)))) (du' (a0' (d8' hr.units) td' (nomark _) (bp' (ak' ⟨rfl, rfl⟩) bZ' rfl (C.free_len) (by decide +kernel) (ac' (pv 4))) (bp' (ak' ⟨rfl, rfl⟩) bZ' rfl (C.free_len) (by decide +kernel) (ac' (pv 0))))))) (ae' (al' (bd' bN'))) aI')
      (ae' (bn' (bB' (fQ' (bp' (cr_all rfl) yl' rfl (C.free_all) (by decide +kernel) (dv' (own := [("_law_to", 5)]) rfl aM'.nd (bo' (ac' (pv 4))) (blkOk_by (own := [("_law_to", 5)]) (N := cv') (sc := defScope aw') (by decide +kernel)) rfl (fun _ _ _ _ _ => (cz' 5 aM'.nd rfl (by walk_at "1") (by walk_at "2"))) (fun _ _ _ _ _ => aT') (fun _ _ _ _ _ => (eK' (bW' (ah' (dQ' C) (hr.mono (by walk_at "4")) rfl db' (aa' (ac' (pv 5)) ag'))) (eK' (cj' gu' vG' (nomark _) af' (ac' (pv 5))) (go' (cj' fl' t8' (nomark _) (ac' (pv 5)) (bp' (ak' ⟨rfl, rfl⟩) bZ' rfl (C.free_len) (by decide +kernel) (ac' (pv 2)))))))))))) (ae' (al' (bd' bN'))) aI'))))
      (ab' (bn' (bB' (fQ' (bp' (cr_all rfl) yl' rfl (C.free_all) (by decide +kernel) (dv' (own := [("_law_state", 6)]) rfl aM'.nd (bo' (ac' (pv 3))) (blkOk_by (own := [("_law_state", 6)]) (N := cv') (sc := defScope aw') (by decide +kernel)) rfl (fun _ _ _ _ _ => (cz' 6 aM'.nd rfl (by walk_at "1") (by walk_at "2"))) (fun _ _ _ _ _ => aT') (fun _ _ _ _ _ => (eK' (bW' (ah' (dQ' C) (hr.mono (by walk_at "4")) rfl db' (aa' (ac' (pv 6)) ag'))) (eK' (cj' gu' vG' (nomark _) af' (ac' (pv 6))) (go' (cj' fl' t8' (nomark _) (ac' (pv 6)) (bp' (ak' ⟨rfl, rfl⟩) bZ' rfl (C.free_len) (by decide +kernel) (ac' (pv 2)))))))))))) (ae' (al' (bd' bN'))) aI')
      (ae' (al' (bd' (eK' (cj' hU' xj' (nomark _) (bp' (ak' ⟨rfl, rfl⟩) bZ' rfl (C.free_len) (by decide +kernel) (ac' (pv 2))) af') (go' (bp' (cr_all rfl) yl' rfl (C.free_all) (by decide +kernel) (dv' (own := [("_law_k", 7)]) rfl aM'.nd (rn' rfl (C.free_range) af' (bp' (ak' ⟨rfl, rfl⟩) bZ' rfl (C.free_len) (by decide +kernel) (ac' (pv 3)))) (blkOk_by (own := [("_law_k", 7)]) (N := cv') (sc := defScope aw') (by decide +kernel)) rfl (fun _ _ _ _ _ => (cz' 7 aM'.nd rfl (by walk_at "1") (by walk_at "2"))) (fun _ _ _ _ _ => aT') (fun _ _ _ _ _ => (cj' fl' t8' (nomark _) (b9' ix_seq eN' (ac' (pv 3)) (a9' op_sub xh' (ac' (pv 7)) af') (fun _ _ => rfl)) (b9' ix_seq eN' (ac' (pv 3)) (ac' (pv 7)) (fun _ _ => rfl))))))))))))))))), iL' F, F.kp, C.g__law_is_form⟩
end
end S
namespace S
open PySem PySem.Spec PyProof.Rows L2
section
variable [Wd] {K : PySem.W.Frag} {mg : Str -> Option Value} {base : Heap}
theorem fq' (C : Ctx Wd.w K mg) : Og Wd.P Wd.w K mg base 1 "_law_all_unlike" ["_law_table", "_law_accepts"] (spM K M.f__law_all_unlike) := by
  obtain ⟨fd, F⟩ := C.f__law_all_unlike
  exact ⟨fd, okM F an' rfl rfl (fun cdv A outer s H E hr =>
    (ab' (aj' (i := 2) an'.nd rfl (by walk_at "1") (rj' (own := [("_law_state", 6)]) rfl an'.nd (bs' rfl (C.free_range) (bp' (ak' ⟨rfl, rfl⟩) bZ' rfl (C.free_len) (by decide +kernel) (ac' (pv 0)))) (blkOk_by (own := [("_law_state", 6)]) (N := cr') (sc := defScope ar') (by decide +kernel)) rfl (fun _ _ _ _ _ => (cz' 6 an'.nd rfl (by walk_at "1") (by walk_at "2"))) (fun _ _ _ _ _ => aT') (fun _ _ _ _ _ => (cw' b5' iC' rfl (C.free_int) (by decide +kernel) (cj' gv' vH' (by rfl) (ac' (pv 6)) (ac' (pv 1)))))))
      (ab' (b0' (passes_of rfl) rfl (bs' rfl (C.free_range) (bp' (ak' ⟨rfl, rfl⟩) bZ' rfl (C.free_len) (by decide +kernel) (ac' (pv 0)))) (cz' 3 an'.nd rfl (by walk_at "1") (by walk_at "2")) (ab' (aj' (i := 4) an'.nd rfl (by walk_at "1") (rm' ⟨rfl, rfl⟩))
      (ab' (aj' (i := 5) an'.nd rfl (by walk_at "1") (iW' ag'))
      (ab' (b0' (passes_of rfl) rfl (bs' rfl (C.free_range) (bp' (ak' ⟨rfl, rfl⟩) bZ' rfl (C.free_len) (by decide +kernel) (ac' (pv 0)))) (cz' 6 an'.nd rfl (by walk_at "1") (by walk_at "2")) (ab' (aj' (i := 7) an'.nd rfl (by walk_at "1") (bd' (ff' (aa' (b9' ix_seq eN' (ac' (pv 2)) (ac' (pv 6)) (fun _ _ => rfl)) (aa' (cw' (bc' rfl) cG' rfl (C.free_tuple) (by decide +kernel) (dv' (own := [("_law_to", 8)]) rfl an'.nd (bo' (b9' ix_seq eN' (ac' (pv 0)) (ac' (pv 6)) (fun _ _ => rfl))) (blkOk_by (own := [("_law_to", 8)]) (N := cr') (sc := defScope ar') (by decide +kernel)) rfl (fun _ _ _ _ _ => (cz' 8 an'.nd rfl (by walk_at "1") (by walk_at "2"))) (fun _ _ _ _ _ => aT') (fun _ _ _ _ _ => (b9' ix_seq eN' (ac' (pv 2)) (ac' (pv 8)) (fun _ _ => rfl))))) ag')))))
      (ae' (hB' (pv 5) (bd' (rt' ⟨rfl, rfl⟩ hr.units (pv 4) (ac' (pv 7)) (hF' ⟨rfl, rfl⟩ rfl (C.free_len) (by decide +kernel) (pv 4)) ⟨rfl, rfl, rfl, rfl⟩))))))
      (ab' (bn' (a0' (eM' hr.units) t9' (nomark _) (hF' ⟨rfl, rfl⟩ rfl (C.free_len) (by decide +kernel) (pv 4)) (bp' (ak' ⟨rfl, rfl⟩) bZ' rfl (C.free_len) (by decide +kernel) (ac' (pv 0)))) (ae' (al' (bd' bN'))) aI')
      (ae' (aj' (i := 2) an'.nd rfl (by walk_at "1") (bd' (ac' (pv 5))))))))))
      (ae' (al' (bd' (cj' (eM' hr.units) t9' (nomark _) (bp' (ak' ⟨rfl, rfl⟩) bZ' rfl (C.free_len) (by decide +kernel) (ac' (pv 0))) af'))))))), gg' F, F.kp, C.g__law_all_unlike⟩
theorem gX' (C : Ctx Wd.w K mg) : Og Wd.P Wd.w K mg base 1 "_law_in_order" ["_law_table"] (spM K M.f__law_in_order) := by
  obtain ⟨fd, F⟩ := C.f__law_in_order
  exact ⟨fd, okM F bI' rfl rfl (fun cdv A outer s H E hr =>
    (ab' (aj' (i := 1) bI'.nd rfl (by walk_at "1") (bd' af'))
      (ab' (b0' (passes_of rfl) rfl (bs' rfl (C.free_range) (bp' (ak' ⟨rfl, rfl⟩) bZ' rfl (C.free_len) (by decide +kernel) (ac' (pv 0)))) (cz' 2 bI'.nd rfl (by walk_at "1") (by walk_at "2")) (ab' (bn' (a0' hU' xj' (nomark _) (ac' (pv 2)) (ac' (pv 1))) (ae' (al' (bd' bN'))) aI')
      (ae' (b0' (passes_of rfl) rfl (bo' (b9' ix_seq eN' (ac' (pv 0)) (ac' (pv 2)) (fun _ _ => rfl))) (cz' 3 bI'.nd rfl (by walk_at "1") (by walk_at "2")) (ab' (bn' (a0' hU' xj' (nomark _) (ac' (pv 3)) (a9' a5' cq' (ac' (pv 1)) af')) (ae' (al' (bd' bN'))) aI')
      (ae' (aj' (i := 1) bI'.nd rfl (by walk_at "1") (bd' (zr' (pz' rfl) Bp' rfl (C.free_max) (by decide +kernel) (ac' (pv 1)) (ac' (pv 3)))))))))))
      (ae' (al' (bd' bN')))))), im' F, F.kp, C.g__law_in_order⟩
theorem ea' (C : Ctx Wd.w K mg) : Og Wd.P Wd.w K mg base 1 "_law_written" ["_law_letters_here", "_law_table", "_law_accepts"] (spM K M.f__law_written) := by
  obtain ⟨fd, F⟩ := C.f__law_written
  exact ⟨fd, okM F bk' rfl rfl (fun cdv A outer s H E hr =>
    (ab' (aj' (i := 3) bk'.nd rfl (by walk_at "1") (iW' (aa' (a9' a5' cq' (bQ' [108, 101, 116, 116, 101, 114, 115, 32] (by decide +kernel) (by decide +kernel)) (ac' (pv 0))) ag')))
      (ab' (b0' (passes_of rfl) rfl (bo' (ac' (pv 1))) (cz' 4 bk'.nd rfl (by walk_at "1") (by walk_at "2")) (ae' (hB' (pv 3) (bd' (a9' a5' cq' (bQ' [115, 116, 97, 116, 101] (by decide +kernel) (by decide +kernel)) (iy' PySem.F.slot_str_join PySem.F.type_str_join mt_join i7' (bQ' [] (by decide +kernel) (by decide +kernel)) (aa' (dv' (own := [("_law_to", 5)]) rfl bk'.nd (bo' (ac' (pv 4))) (blkOk_by (own := [("_law_to", 5)]) (N := dt') (sc := defScope aF') (by decide +kernel)) rfl (fun _ _ _ _ _ => (cz' 5 bk'.nd rfl (by walk_at "1") (by walk_at "2"))) (fun _ _ _ _ _ => aT') (fun _ _ _ _ _ => (a9' a5' cq' (bQ' [32] (by decide +kernel) (by decide +kernel)) (cw' fF' uM' rfl (C.free_str) (by decide +kernel) (ac' (pv 5)))))) ag')))))))
      (ab' (hB' (pv 3) (bd' (a9' a5' cq' (bQ' [97, 99, 99, 101, 112, 116, 115] (by decide +kernel) (by decide +kernel)) (iy' PySem.F.slot_str_join PySem.F.type_str_join mt_join i7' (bQ' [] (by decide +kernel) (by decide +kernel)) (aa' (dv' (own := [("_law_state", 6)]) rfl bk'.nd (bo' (ac' (pv 2))) (blkOk_by (own := [("_law_state", 6)]) (N := dt') (sc := defScope aF') (by decide +kernel)) rfl (fun _ _ _ _ _ => (cz' 6 bk'.nd rfl (by walk_at "1") (by walk_at "2"))) (fun _ _ _ _ _ => aT') (fun _ _ _ _ _ => (a9' a5' cq' (bQ' [32] (by decide +kernel) (by decide +kernel)) (cw' fF' uM' rfl (C.free_str) (by decide +kernel) (ac' (pv 6)))))) ag')))))
      (ae' (al' (bd' (iy' PySem.F.slot_str_join PySem.F.type_str_join mt_join i7' (bQ' [10] (by decide +kernel) (by decide +kernel)) (aa' (ac' (pv 3)) ag'))))))))), iJ' F, F.kp, C.g__law_written⟩
theorem f5' (C : Ctx Wd.w K mg) : Og Wd.P Wd.w K mg base 2 "_law_any_table" ["_law_hand_here", "_law_many", "_law_size"] (spM K M.f__law_any_table) := by
  obtain ⟨fd, F⟩ := C.f__law_any_table
  exact ⟨fd, okM F ao' rfl rfl (fun cdv A outer s H E hr =>
    (ab' (bn' (a0' (eM' hr.units) t9' (nomark _) (bW' (ah' (a3' C) (hr.mono (by walk_at "4")) rfl (takes_of rfl rfl rfl rfl) (aa' (ac' (pv 0)) (aa' af' ag')))) af') (ae' (al' (bd' (cw' (bc' rfl) cG' rfl (C.free_tuple) (by decide +kernel) (dv' (own := [("_law_state", 4)]) rfl ao'.nd (bs' rfl (C.free_range) (ac' (pv 2))) (blkOk_by (own := [("_law_state", 4)]) (N := br') (sc := defScope aq') (by decide +kernel)) rfl (fun _ _ _ _ _ => (cz' 4 ao'.nd rfl (by walk_at "1") (by walk_at "2"))) (fun _ _ _ _ _ => aT') (fun _ _ _ _ _ => (cw' (bc' rfl) cG' rfl (C.free_tuple) (by decide +kernel) (dv' (own := [("_law_k", 5)]) rfl ao'.nd (bs' rfl (C.free_range) (ac' (pv 1))) (blkOk_by (own := [("_law_k", 5)]) (N := br') (by kernel_rfl)) rfl (fun _ _ _ _ _ => (cz' 5 ao'.nd rfl (by walk_at "1") (by walk_at "2"))) (fun _ _ _ _ _ => aT') (fun _ _ _ _ _ => (bW' (ah' (a3' C) (hr.mono (by walk_at "4")) rfl db' (aa' (ac' (pv 0)) (aa' (ac' (pv 2)) ag'))))))))))))) aI')
      (ab' (aj' (i := 3) ao'.nd rfl (by walk_at "1") (rj' (own := [("_law_k", 5)]) rfl ao'.nd (bs' rfl (C.free_range) (ac' (pv 1))) (blkOk_by (own := [("_law_k", 5)]) (N := br') (sc := defScope aq') (by decide +kernel)) rfl (fun _ _ _ _ _ => (cz' 5 ao'.nd rfl (by walk_at "1") (by walk_at "2"))) (fun _ _ _ _ _ => aT') (fun _ _ _ _ _ => (bW' (ah' (a3' C) (hr.mono (by walk_at "4")) rfl db' (aa' (ac' (pv 0)) (aa' (ac' (pv 2)) ag')))))))
      (ae' (al' (bd' (cw' (bc' rfl) cG' rfl (C.free_tuple) (by decide +kernel) (dv' (own := [("_law_state", 4)]) rfl ao'.nd (bs' rfl (C.free_range) (ac' (pv 2))) (blkOk_by (own := [("_law_state", 4)]) (N := br') (sc := defScope aq') (by decide +kernel)) rfl (fun _ _ _ _ _ => (cz' 4 ao'.nd rfl (by walk_at "1") (by walk_at "2"))) (fun _ _ _ _ _ => aT') (fun _ _ _ _ _ => (cw' (bc' rfl) cG' rfl (C.free_tuple) (by decide +kernel) (dv' (own := [("_law_step", 6)]) rfl ao'.nd (bo' (ac' (pv 3))) (blkOk_by (own := [("_law_step", 6)]) (N := br') (by kernel_rfl)) rfl (fun _ _ _ _ _ => (cz' 6 ao'.nd rfl (by walk_at "1") (by walk_at "2"))) (fun _ _ _ _ _ => aT') (fun _ _ _ _ _ => (a9' op_mod kH' (cw' b5' iC' rfl (C.free_int) (by decide +kernel) (a9' a5' cq' (ac' (pv 4)) (ac' (pv 6)))) (ac' (pv 2))))))))))))))), g0' F, F.kp, C.g__law_any_table⟩
theorem gy' (C : Ctx Wd.w K mg) : Og Wd.P Wd.w K mg base 1 "_law_flag" ["_law_found", "_law_due"] (spM K M.f__law_flag) := by
  obtain ⟨fd, F⟩ := C.f__law_flag
  exact ⟨fd, okM F kv' rfl rfl (fun cdv A outer s H E hr =>
    (ae' (al' (bd' (eK' (dP' "bool" (by decide) rfl (C.free_isinstance) (by decide +kernel) (ac' (pv 0)) (pe_bltn (v := .ty "bool") rfl (C.free_bool) (by decide +kernel) rfl)) (go' (cj' (eM' hr.units) t9' (nomark _) (ac' (pv 0)) (ac' (pv 1))))))))), mI' F, F.kp, C.g__law_flag⟩
theorem kF' (C : Ctx Wd.w K mg) : Og Wd.P Wd.w K mg base 1 "_law_same" ["_law_one", "_law_other"] (spM K M.f__law_same) := by
  obtain ⟨fd, F⟩ := C.f__law_same
  exact ⟨fd, okM F bR' rfl rfl (fun cdv A outer s H E hr =>
    (ab' (aj' (i := 2) bR'.nd rfl (by walk_at "1") (iW' (aa' (ff' (aa' af' (aa' af' ag'))) ag')))
      (ab' (aj' (i := 3) bR'.nd rfl (by walk_at "1") (rk' ⟨rfl, rfl⟩ hr.units (ff' (aa' af' (aa' af' ag'))) bN'))
      (ab' (b0' (passes_of rfl) rfl (bs' rfl (C.free_range) (a9' e0' l4' (bp' (ak' ⟨rfl, rfl⟩) bZ' rfl (C.free_len) (by decide +kernel) (b9' ix_seq eN' (ac' (pv 0)) af' (fun _ _ => rfl))) (bp' (ak' ⟨rfl, rfl⟩) bZ' rfl (C.free_len) (by decide +kernel) (b9' ix_seq eN' (ac' (pv 1)) af' (fun _ _ => rfl))))) (cz' 4 bR'.nd rfl (by walk_at "1") (by walk_at "2")) (ab' (zh' (vu' (pv 2) (zr' (py' rfl) Bo' rfl (C.free_min) (by decide +kernel) (ac' (pv 4)) (a9' op_sub xh' (hF' ⟨rfl, rfl⟩ rfl (C.free_len) (by decide +kernel) (pv 2)) af')) (fun _ _ => rfl)) (Co' (n := 2) rfl rfl rfl rfl (eu' rfl (cz' 5 bR'.nd rfl (by walk_at "1") (by walk_at "2")) (eu' rfl (cz' 6 bR'.nd rfl (by walk_at "1") (by walk_at "2")) lR'))))
      (ab' (bn' (a0' (d8' hr.units) td' (nomark _) (cj' gv' vH' (by rfl) (ac' (pv 5)) (b9' ix_seq eN' (ac' (pv 0)) af' (fun _ _ => rfl))) (cj' gv' vH' (by rfl) (ac' (pv 6)) (b9' ix_seq eN' (ac' (pv 1)) af' (fun _ _ => rfl)))) (ae' (al' (bd' bN'))) aI')
      (ae' (b0' (passes_of rfl) rfl (wG' rfl (C.free_zip) (b9' ix_seq eN' (b9' ix_seq eN' (ac' (pv 0)) af' (fun _ _ => rfl)) (ac' (pv 5)) (fun _ _ => rfl)) (b9' ix_seq eN' (b9' ix_seq eN' (ac' (pv 1)) af' (fun _ _ => rfl)) (ac' (pv 6)) (fun _ _ => rfl))) (cz' 7 bR'.nd rfl (by walk_at "1") (by walk_at "2")) (ae' (bn' (lL' ⟨rfl, rfl⟩ hr.units (ac' (pv 7)) (pv 3)) (ab' (kq' ⟨rfl, rfl⟩ hr.units bN' (pv 3) (ac' (pv 7)))
      (ae' (hB' (pv 2) (bd' (ac' (pv 7)))))) aI')))))))
      (ae' (al' (bd' bN'))))))), mG' F, F.kp, C.g__law_same⟩
theorem cE' (C : Ctx Wd.w K mg) : Og Wd.P Wd.w K mg base 2 "_law_parts_of" ["_law_machine"] (spM K M.f__law_parts_of) := by
  obtain ⟨fd, F⟩ := C.f__law_parts_of
  exact ⟨fd, okM F gT' rfl rfl (fun cdv A outer s H E hr =>
    (ae' (al' (bd' (ff' (aa' (bW' (bD' (ac' (pv 0)) (dj' C) (hr.mono (by decide)) C.ml_Machine_letters (takes_of rfl rfl rfl rfl))) (aa' (bW' (bD' (ac' (pv 0)) (ba' C) (hr.mono (by decide)) C.ml_Machine_table (takes_of rfl rfl rfl rfl))) (aa' (bW' (bD' (ac' (pv 0)) (bt' C) (hr.mono (by decide)) C.ml_Machine_accepts (takes_of rfl rfl rfl rfl))) ag')))))))), ik' F, F.kp, C.g__law_parts_of⟩
end
end S
namespace S
open PySem PySem.Spec PyProof.Rows L2
section
variable [Wd] {K : PySem.W.Frag} {mg : Str -> Option Value} {base : Heap}
theorem Av' (C : Ctx Wd.w K mg) {fd : FuncData} (F : FunD K "law" "law" (defArgs hL') (defBody hL') (defScope hL') [] [] (He.ga K "law") fd) : FnG Wd.P Wd.w K mg base (L2.CX Wd.P Wd.w) 6 (He.ga K "law") fd ["_law_script"] (spM K M.f_law) :=
  okM F cx' rfl rfl (fun cdv A outer s H E hr =>
    (ab' (aj' (i := 1) cx'.nd rfl (by walk_at "1") (ah' (kG' C) (hr.mono (by walk_at "4")) rfl (takes_of rfl rfl rfl rfl) (aa' (ac' (pv 0)) ag')))
      (ab' (aj' (i := 2) cx'.nd rfl (by walk_at "1") (ah' (eG' C) (hr.mono (by walk_at "4")) rfl (takes_of rfl rfl rfl rfl) (aa' (ac' (pv 1)) ag')))
      (ab' (aj' (i := 3) cx'.nd rfl (by walk_at "1") (bd' (a9' a5' cq' af' (bW' (ah' (a3' C) (hr.mono (by walk_at "4")) rfl (takes_of rfl rfl rfl rfl) (aa' (ac' (pv 1)) (aa' af' ag')))))))
      (ab' (bn' (a0' (eM' hr.units) t9' (nomark _) (bW' (ah' (a3' C) (hr.mono (by walk_at "4")) rfl (takes_of rfl rfl rfl rfl) (aa' (ac' (pv 1)) (aa' af' ag')))) af') (ae' (aj' (i := 3) cx'.nd rfl (by walk_at "1") (bd' (a9' a5' cq' af' (bW' (ah' (a3' C) (hr.mono (by walk_at "4")) rfl (takes_of rfl rfl rfl rfl) (aa' (ac' (pv 1)) (aa' af' ag')))))))) aI')
      (ab' (aj' (i := 4) cx'.nd rfl (by walk_at "1") (ah' (f5' C) (hr.mono (by walk_at "4")) rfl (takes_of rfl rfl rfl rfl) (aa' (ac' (pv 1)) (aa' (bp' (ak' ⟨rfl, rfl⟩) bZ' rfl (C.free_len) (by decide +kernel) (ac' (pv 2))) (aa' (ac' (pv 3)) ag')))))
      (ab' (aj' (i := 5) cx'.nd rfl (by walk_at "1") (bd' (cw' (bc' rfl) cG' rfl (C.free_tuple) (by decide +kernel) (dv' (own := [("_law_state", 14)]) rfl cx'.nd (bs' rfl (C.free_range) (ac' (pv 3))) (blkOk_by (own := [("_law_state", 14)]) (N := Bz') (sc := defScope hL') (by decide +kernel)) rfl (fun _ _ _ _ _ => (cz' 14 cx'.nd rfl (by walk_at "1") (by walk_at "2"))) (fun _ _ _ _ _ => (nY' (a0' (eM' hr.units) t9' (nomark _) (bW' (ah' (a3' C) (hr.mono (by walk_at "4")) rfl db' (aa' (ac' (pv 1)) (aa' af' ag')))) af'))) (fun _ _ _ _ _ => (ac' (pv 14)))))))
      (ab' (aj' (i := 6) cx'.nd rfl (by walk_at "1") (ah' (ea' C) (hr.mono (by walk_at "4")) rfl (takes_of rfl rfl rfl rfl) (aa' (ac' (pv 2)) (aa' (ac' (pv 4)) (aa' (ac' (pv 5)) ag')))))
      (ab' (aj' (i := 7) cx'.nd rfl (by walk_at "1") (ah' (cW' C) (hr.mono (by walk_at "4")) rfl (takes_of rfl rfl rfl rfl) (aa' (ac' (pv 6)) ag')))
      (ab' (aj' (i := 8) cx'.nd rfl (by walk_at "1") (bd' (bp' (hi' hr.units hr.g) uO' rfl (C.free_repr) (by decide +kernel) (ff' (aa' (ac' (pv 2)) (aa' (ac' (pv 4)) (aa' (ac' (pv 5)) ag')))))))
      (ab' (bn' (nX' (dE' (a0' (d8' hr.units) CR' (nomark _) (bp' (hi' hr.units hr.g) uO' rfl (C.free_repr) (by decide +kernel) (bW' (ah' (cE' C) (hr.mono (by walk_at "4")) rfl (takes_of rfl rfl rfl rfl) (aa' (ac' (pv 7)) ag')))) (ac' (pv 8))) (du' (a0' (d8' hr.units) td' (nomark _) (bW' (ah' (cX' C) (hr.mono (by walk_at "4")) rfl (takes_of rfl rfl rfl rfl) (aa' (ac' (pv 7)) ag'))) (ac' (pv 6)))))) (ae' (al' (bd' bN'))) aI')
      (ab' (bn' (a0' f4' l5' (nomark _) (vv' (cp' C) (hr.mono (by decide)) C.eq_Machine (bW' (ah' (cW' C) (hr.mono (by walk_at "4")) rfl (takes_of rfl rfl rfl rfl) (aa' (ac' (pv 6)) ag'))) (ac' (pv 7))) bN') (ae' (al' (bd' bN'))) aI')
      (ab' (bn' (a0' fl' t8' (nomark _) (ac' (pv 3)) af') (ab' (aj' (i := 9) cx'.nd rfl (by walk_at "1") (lQ' (e1' C) (hr.mono (by decide)) rfl C.mk_Machine C.g_Machine (takes_of rfl rfl rfl rfl) (aa' (ac' (pv 2)) (aa' (ac' (pv 4)) (aa' (ac' (pv 5)) ag')))))
      (ae' (bn' (nX' (dE' (a0' f4' l5' (nomark _) (wL' (cp' C) (hr.mono (by decide)) C.eqr_Machine (ac' (pv 9)) (ac' (pv 7))) bN') (dE' (a0' f4' l5' (nomark _) (vv' (cp' C) (hr.mono (by decide)) C.eq_Machine (ac' (pv 7)) (ac' (pv 9))) bN') (du' (a0' (d8' hr.units) td' (nomark _) (bW' (ah' (cX' C) (hr.mono (by walk_at "4")) rfl (takes_of rfl rfl rfl rfl) (aa' (ac' (pv 9)) ag'))) (ac' (pv 6))))))) (ae' (al' (bd' bN'))) aI'))) aI')
      (ab' (aj' (i := 10) cx'.nd rfl (by walk_at "1") (ah' (kE' C) (hr.mono (by walk_at "4")) rfl (takes_of rfl rfl rfl rfl) (aa' (ac' (pv 1)) (aa' (ac' (pv 2)) (aa' (bW' (ah' (a3' C) (hr.mono (by walk_at "4")) rfl (takes_of rfl rfl rfl rfl) (aa' (ac' (pv 1)) (aa' af' ag')))) ag')))))
      (ab' (aj' (i := 11) cx'.nd rfl (by walk_at "1") (bd' (a9' a5' cq' af' (bW' (ah' (a3' C) (hr.mono (by walk_at "4")) rfl (takes_of rfl rfl rfl rfl) (aa' (ac' (pv 1)) (aa' af' ag')))))))
      (ab' (bn' (bB' (fQ' (bW' (ah' (gy' C) (hr.mono (by walk_at "4")) rfl (takes_of rfl rfl rfl rfl) (aa' (bW' (ah' (xd' C) (hr.mono (by walk_at "4")) rfl (takes_of rfl rfl rfl rfl) (aa' (ac' (pv 7)) (aa' (ac' (pv 10)) ag')))) (aa' (bW' (ah' (gx' C) (hr.mono (by walk_at "4")) rfl (takes_of rfl rfl rfl rfl) (aa' (ac' (pv 2)) (aa' (ac' (pv 4)) (aa' (ac' (pv 5)) (aa' (ac' (pv 10)) ag')))))) ag')))))) (ae' (al' (bd' bN'))) aI')
      (ab' (bn' (bB' (fQ' (bW' (ah' (gy' C) (hr.mono (by walk_at "4")) rfl (takes_of rfl rfl rfl rfl) (aa' (bW' (ah' (l2' C) (hr.mono (by walk_at "4")) rfl (takes_of rfl rfl rfl rfl) (aa' (ac' (pv 7)) (aa' (ac' (pv 10)) (aa' (ac' (pv 11)) ag'))))) (aa' (bW' (ah' (gx' C) (hr.mono (by walk_at "4")) rfl (takes_of rfl rfl rfl rfl) (aa' (ac' (pv 2)) (aa' (ac' (pv 4)) (aa' (ac' (pv 5)) (aa' (a9' e0' l4' (ac' (pv 10)) (ac' (pv 11))) ag')))))) ag')))))) (ae' (al' (bd' bN'))) aI')
      (ab' (aj' (i := 12) cx'.nd rfl (by walk_at "1") (ah' (t7' C) (hr.mono (by walk_at "4")) rfl (takes_of rfl rfl rfl rfl) (aa' (ac' (pv 7)) ag')))
      (ab' (bn' (nX' (dE' (bB' (fQ' (bW' (ah' (hZ' C) (hr.mono (by walk_at "4")) rfl (takes_of rfl rfl rfl rfl) (aa' (ac' (pv 2)) (aa' (ac' (pv 12)) ag')))))) (du' (a0' hU' xj' (nomark _) (bp' (ak' ⟨rfl, rfl⟩) bZ' rfl (C.free_len) (by decide +kernel) (bW' (bD' (ac' (pv 12)) (ba' C) (hr.mono (by decide)) C.ml_Machine_table (takes_of rfl rfl rfl rfl)))) (ac' (pv 3)))))) (ae' (al' (bd' bN'))) aI')
      (ab' (bn' (nX' (dE' (bB' (fQ' (bW' (ah' (gX' C) (hr.mono (by walk_at "4")) rfl (takes_of rfl rfl rfl rfl) (aa' (bW' (bD' (ac' (pv 12)) (ba' C) (hr.mono (by decide)) C.ml_Machine_table (takes_of rfl rfl rfl rfl))) ag'))))) (du' (bB' (fQ' (bW' (ah' (fq' C) (hr.mono (by walk_at "4")) rfl (takes_of rfl rfl rfl rfl) (aa' (bW' (bD' (ac' (pv 12)) (ba' C) (hr.mono (by decide)) C.ml_Machine_table (takes_of rfl rfl rfl rfl))) (aa' (bW' (bD' (ac' (pv 12)) (bt' C) (hr.mono (by decide)) C.ml_Machine_accepts (takes_of rfl rfl rfl rfl))) ag'))))))))) (ae' (al' (bd' bN'))) aI')
      (ab' (bn' (bB' (fQ' (bW' (ah' (kF' C) (hr.mono (by walk_at "4")) rfl (takes_of rfl rfl rfl rfl) (aa' (ff' (aa' (ac' (pv 4)) (aa' (ac' (pv 5)) ag'))) (aa' (ff' (aa' (bW' (bD' (ac' (pv 12)) (ba' C) (hr.mono (by decide)) C.ml_Machine_table (takes_of rfl rfl rfl rfl))) (aa' (bW' (bD' (ac' (pv 12)) (bt' C) (hr.mono (by decide)) C.ml_Machine_accepts (takes_of rfl rfl rfl rfl))) ag'))) ag')))))) (ae' (al' (bd' bN'))) aI')
      (ab' (aj' (i := 13) cx'.nd rfl (by walk_at "1") (ah' (cX' C) (hr.mono (by walk_at "4")) rfl (takes_of rfl rfl rfl rfl) (aa' (ac' (pv 12)) ag')))
      (ab' (bn' (a0' (d8' hr.units) td' (nomark _) (ac' (pv 13)) (bW' (ah' (ea' C) (hr.mono (by walk_at "4")) rfl (takes_of rfl rfl rfl rfl) (aa' (ac' (pv 2)) (aa' (bW' (bD' (ac' (pv 12)) (ba' C) (hr.mono (by decide)) C.ml_Machine_table (takes_of rfl rfl rfl rfl))) (aa' (bW' (bD' (ac' (pv 12)) (bt' C) (hr.mono (by decide)) C.ml_Machine_accepts (takes_of rfl rfl rfl rfl))) ag')))))) (ae' (al' (bd' bN'))) aI')
      (ae' (al' (bd' (cj' (eM' hr.units) CS' (nomark _) (bp' (hi' hr.units hr.g) uO' rfl (C.free_repr) (by decide +kernel) (bW' (ah' (cE' C) (hr.mono (by walk_at "4")) rfl (takes_of rfl rfl rfl rfl) (aa' (bW' (ah' (cW' C) (hr.mono (by walk_at "4")) rfl (takes_of rfl rfl rfl rfl) (aa' (ac' (pv 13)) ag'))) ag')))) (bp' (hi' hr.units hr.g) uO' rfl (C.free_repr) (by decide +kernel) (bW' (ah' (cE' C) (hr.mono (by walk_at "4")) rfl (takes_of rfl rfl rfl rfl) (aa' (ac' (pv 12)) ag')))))))))))))))))))))))))))))))
end
end S
open PySem PySem.W PySem.Calls PyProof.Rows
set_option maxRecDepth 100000 in
set_option maxHeartbeats 0 in
theorem PySem.Challenge.cw_saidacross_k13_whole_machine_texts_read_holds : PySem.Challenge.rw_saidacross_k13_whole_machine_texts_read.Holds := by
  w_on; o_law
  refine HandSHeadRun.head_any (r := OpenLaw.row PySem.Challenge.rw_saidacross_k13_whole_machine_texts_read) (q := view (OpenLaw.row PySem.Challenge.rw_saidacross_k13_whole_machine_texts_read).prog [49]) (H := S.hk) (ob := S.ob) (loose := S.loose) (d := HandSHeadRun.topDef (OpenLaw.row PySem.Challenge.rw_saidacross_k13_whole_machine_texts_read).prog 49) (kwd := []) S.CP'
    (by kernel_rfl) (fun s => by kernel_rfl) S.run (by kernel_rfl) (by kernel_rfl) (by kernel_rfl) (by rfl) (by first | assumption | decide +kernel) (by decide +kernel) ⟨rfl, rfl, rfl, rfl, rfl, by decide +kernel⟩ ?hw ?hc
  case hw => w_witness2
  case hc =>
    refine S.tn' (l := PySem.Challenge.rw_saidacross_k13_whole_machine_texts_read) (n := 63) (k := 6) (x := "_law_script") (CX := L2.CX0) rfl (by decide) (by kernel_rfl) ⟨rfl, by decide, by decide⟩ ?F (fun H s e s' z => z)
    intro w mg fa h Y G hmg0
    obtain ⟨K, KX, c⟩ := Y
    letI : S.Wd := ⟨(PySem.Challenge.rw_saidacross_k13_whole_machine_texts_read).prog, w, []⟩
    have C : S.Ctx S.Wd.w K mg := ⟨⟨_, c⟩, h, KX, G⟩
    have hmg : mg ("law" : PySem.Str) = some (.ref fa) := by
      have e : (HandSHeadRun.topDef (OpenLaw.row PySem.Challenge.rw_saidacross_k13_whole_machine_texts_read).prog 49).name = ("law" : PySem.Str) := by kernel_rfl
      rw [<- e]
      exact hmg0
    obtain rfl : fa = He.ga K "law" := by
      have e := C.g_law
      rw [hmg] at e
      exact PySem.Value.ref.inj (Option.some.inj e)
    obtain ⟨fd, F⟩ := C.f_law
    refine ⟨K, fd, fun vs H Q _ => S.spM K M.f_law vs H Q L2.E0, KX, fun s u => ?_, ?_, fun base X N => ?_⟩
    . exact F.bindsA (ps := ["_law_script"]) (fun _ _ _ _ _ _ us hl => match us, hl with | [_], _ => rfl) s [u] rfl
    . intro H a ns hn _ hs
      exact S.sn' K H (fun p z => absurd (show p ∈ ([] : List (Addr × Str)) from z) List.not_mem_nil) a ns hn hs M.law_true
    . exact S.FnG.to0 (S.Av' (base := base) C F)
