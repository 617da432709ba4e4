import PyProof.Rows.All
import Wide.All
import OpenK.AllK
import Wide.FinOn
import KE.KStateDown
import KE.GoesNew
import HandS.ForMost
import HandS.Exc
import HandS.TryOnly
import HandS.TryMany
import HandS.ExcOwn
import HandS.ExcBuiltin
import HandS.Small
import HandS.WordsExc
import HandS.IsInst
import HandS.StrMore
import HandS.TupAny
import HandS.Zip
import HandS.Defaults
import HandS.Head0
import HandS.Head1
import HandS.Head2
import HandS.HeadEnd
import HandS.HeadHook1
import HandS.HeadHook2
import HandS.Walk
import KE.GoesMore
import HandS.Iter
import PyProof.CollectStr
import HandS.Conv
import PyProof.ListStr
import PyProof.TupleOfStr
import HandS.Lambda
import HandS.Style
import KE.KDictKeyed
import HandS.Wide
import KE.KTupTabMore
import HandS.Rev
import HandS.RevRange
import HandS.SortInts
import HandS.ExcIs
import HandS.ExcField
import HandS.Rindex
import HandS.HeadHook4
import PyProof.StrLawsFrom
import PyProof.Rows.RegReprOcc
import PyProof.Rows.StrLast
import KE.KDictDisplayH
import HandS.SetKeys
import HandS.DictComp
import HandS.More
import PyProof.ReprBulk
import PyProof.ReprRoads
import PyProof.CallFns
import PyProof.RowDictHeap
import PyProof.Rows.StrRev
import KE.KRevSl
import HandS.Deep
import HandS.Call
import KE.KExcSuper
import HandS.TupMul
import HandS.ReplaceLit
import HandS.ReplaceList
import KE.KDictZip
import PyProof.ListNew
import HandS.ListItems
import HandS.Zip0
import HandS.TupSets
import KE.SortKeyHeap
import KE.KLam
import HandS.SortKw
import HandS.EndTab
import KE.KItemsList
import HandS.NoneIn
import KE.DataMinKey
import KE.DataFind
import KE.DatumOrd
import HandS.Finally
import HandS.Strs
import HandS.Nested
import PyProof.Rows.Walk
import PySem.Challenge.RW_saidacross_k83_words_around
set_option Elab.async false
set_option linter.all false
set_option maxRecDepth 100000
set_option maxHeartbeats 4000000
local macro_rules | `(tactic| walk_at "1") => `(tactic| first | exact Or.inl rfl | exact Or.inr rfl)
local macro_rules | `(tactic| walk_at "2") => `(tactic| first | exact Or.inl rfl | exact Or.inr rfl | assumption)
local macro_rules | `(tactic| walk_at "3") => `(tactic| exact ⟨rfl, rfl, rfl, by decide +kernel, rfl, by decide +kernel, by decide +kernel⟩)
local macro_rules | `(tactic| walk_at "4") => `(tactic| first | decide | omega)
namespace M
abbrev Tx := List Nat
abbrev dp' : Nat := 16777216
inductive D where
  | non | bl (b : Bool) | int (i : Int) | str (s : Tx)
  | tup (ds : List D) | lst (ds : List D) | dct (ks vs : List D)
  | obj (n : Nat) | ty (x : String) | fn (x : String) | exc (x : String) (ds : List D)
  | scr (ds : List D)
  /-- a dict whose keys are bools, or tuples; the text that repr gives -/
  | dcx (ks vs : List D) | rep (d : D)
  deriving Inhabited
inductive O where
  | fz (d : D) | lst (os : List O) | dct (ks : List D) (vs : List O) | tup (os : List O) | dcx (ks : List D) (vs : List O) | exn | clo
  deriving Inhabited
inductive Ob where
  | lst (os : List O) | dct (ks : List D) (vs : List O) | ins (C : String) (fs : List (String × O)) | dcx (ks : List D) (vs : List O)
abbrev W := List Ob
structure PSt where
  env : List (Option O)
  w : W
structure Exc where
  cls : String
  fs : List (String × D)
inductive Res (α : Type) where
  | ok (a : α) (ρ : PSt) | exc (x : Exc) (ρ : PSt) | bad
inductive Out where
  | nx (ρ : PSt) | rt (o : O) (w : W) | bk (ρ : PSt) | ct (ρ : PSt) | exc (x : Exc) (ρ : PSt) | bad
inductive FRes where
  | ok (o : O) (w : W) | exc (x : Exc) (w : W) | bad
def A6' : O -> Bool
  | .exn => false
  | .clo => false
  | _ => true
theorem ds' {o : O} (h : o ≠ .exn) (k : o ≠ .clo) : A6' o = true := by
  cases o <;> first | rfl | exact absurd rfl h | exact absurd rfl k
mutual
def frz : O -> D
  | .fz d => d
  | .lst os => .lst (frzs os)
  | .dct ks vs => .dct ks (frzs vs)
  | .tup os => .tup (frzs os)
  | .dcx ks vs => .dcx ks (frzs vs)
  | .exn => .non
  | .clo => .non
def frzs : List O -> List D
  | [] => []
  | o :: r => frz o :: frzs r
end
@[simp] theorem lR' (ds : List D) : frzs (ds.map .fz) = ds := by
  induction ds with
  | nil => rfl
  | cons d r ih => simp [frzs, frz, ih]
theorem dG' (os : List O) : frzs os = os.map frz := by
  induction os with
  | nil => rfl
  | cons d r ih => simp [frzs, ih]
mutual
/-- data that == compares, at most so deep -/
def dep : D -> Nat
  | .tup ds => deps ds + 1
  | .lst ds => deps ds + 1
  | _ => 0
def deps : List D -> Nat
  | [] => 0
  | d :: r => max (dep d) (deps r)
end
mutual
def dat : D -> Bool
  | .non => true | .bl _ => true | .int _ => true | .str _ => true
  | .tup ds => dats ds
  | .lst ds => dats ds
  | _ => false
def dats : List D -> Bool
  | [] => true
  | d :: r => dat d && dats r
end
mutual
def eqb : D -> D -> Bool
  | .non, .non => true
  | .bl a, .bl b => a == b
  | .bl a, .int j => (if a then 1 else 0) == j
  | .int i, .bl b => i == (if b then 1 else 0)
  | .int i, .int j => i == j
  | .str x, .str y => x == y
  | .lst xs, .lst ys => eqbs xs ys
  | .tup xs, .tup ys => eqbs xs ys
  | _, _ => false
def eqbs : List D -> List D -> Bool
  | [], [] => true
  | x :: xs, y :: ys => eqb x y && eqbs xs ys
  | _, _ => false
end
def eqv (d e : D) : Option Bool := if dat d = true /\ dat e = true /\ dep d <= 64 /\ dep e <= 64 then some (eqb d e) else none
mutual
/-- no whole number is too great to be shown -/
def qP' : D -> Bool
  | .int i => decide (i.natAbs < 10 ^ 60)
  | .tup ds => repIs ds
  | .lst ds => repIs ds
  | .dct ks ds => repIs ks && repIs ds
  | _ => true
def repIs : List D -> Bool
  | [] => true
  | d :: r => qP' d && repIs r
end
mutual
def oz' : D -> Nat
  | .str s => s.length
  | .tup ds => repWs ds
  | .lst ds => repWs ds
  | .dct ks ds => repWs ks + repWs ds
  | _ => 0
def repWs : List D -> Nat
  | [] => 0
  | d :: r => oz' d + 1 + repWs r
end
mutual
/-- the same data -/
def same : D -> D -> Bool
  | .non, .non => true
  | .bl a, .bl b => a == b
  | .int i, .int j => i == j
  | .str x, .str y => x == y
  | .lst xs, .lst ys => sames xs ys
  | .tup xs, .tup ys => sames xs ys
  | .dct ks xs, .dct ls ys => sames ks ls && sames xs ys
  | _, _ => false
def sames : List D -> List D -> Bool
  | [], [] => true
  | x :: xs, y :: ys => same x y && sames xs ys
  | _, _ => false
end
def er' : D -> Bool
  | .non => true
  | .bl _ => true
  | .int _ => true
  | .str _ => true
  | _ => false
def BJ' : D -> Bool
  | .dct [] [] => true
  | _ => false
def xq' : D -> Bool
  | .dct _ ds => ds.all er'
  | .tup ds => dats ds || ds.all fun d => er' d || BJ' d
  | d => dat d
theorem lu' {d : D} (h : dat d = true) : xq' d = true := by
  cases d with
  | tup ds => show (dats ds || _) = true; rw [show dats ds = true from h]; rfl
  | dct ks ds => cases h
  | _ => exact h
def v2' (d : D) : Option D := if xq' d = true /\ dep d <= 40 /\ qP' d = true /\ oz' d <= 200000 then some (.rep d) else none
def Aw' : D -> D -> Option D
  | .rep a, .rep b => if same a b = true then some (.bl true) else none
  | _, _ => none
def Av' : D -> D -> Option D
  | .rep a, .rep b => if same a b = true then some (.bl false) else none
  | _, _ => none
def ob (o : Option Bool) : Option D := o.map .bl
def pEq (x y : D) : Option D := ob (eqv x y)
def pNe (x y : D) : Option D := ob ((eqv x y).map (!·))
def e3' : D -> Bool
  | .non => true
  | _ => false
def pIs : D -> D -> Option D
  | x, .non => some (.bl (e3' x))
  | .bl a, .bl b => some (.bl (a == b))
  | _, _ => none
def nJ' (x y : D) : Option D := match pIs x y with | some (.bl b) => some (.bl (!b)) | _ => none
def pLt : D -> D -> Option D
  | .int i, .int j => some (.bl (decide (i < j)))
  | .str a, .str b => some (.bl (decide (a < b)))
  | _, _ => none
def pLe : D -> D -> Option D
  | .int i, .int j => some (.bl (decide (i <= j)))
  | .str a, .str b => some (.bl (!decide (b < a)))
  | _, _ => none
def pGt : D -> D -> Option D
  | .int i, .int j => some (.bl (decide (j < i)))
  | .str a, .str b => some (.bl (decide (b < a)))
  | _, _ => none
def pGe : D -> D -> Option D
  | .int i, .int j => some (.bl (decide (j <= i)))
  | .str a, .str b => some (.bl (!decide (a < b)))
  | _, _ => none
def cI' : D -> D -> Option D
  | .int i, .int j => some (.int (i + j))
  | .str a, .str b => if a.length + b.length <= dp' then some (.str (a ++ b)) else none
  | .lst a, .lst b => if a.length + b.length <= dp' then some (.lst (a ++ b)) else none
  | .tup a, .tup b => if a.length + b.length <= dp' then some (.tup (a ++ b)) else none
  | _, _ => none
def td' : D -> D -> Option D
  | .int i, .int j => some (.int (i + j))
  | _, _ => none
def uK' : D -> D -> Option D
  | .int i, .int j => some (.int (i - j))
  | _, _ => none
def small64 (i : Int) : Bool := decide (-(2 ^ 64) < i) && decide (i < 2 ^ 64)
def iU' : D -> D -> Option D
  | .int i, .int j => if (small64 i = true \/ small64 j = true) \/ ((-2582249878086908589655919172003011874329705792829223512830659356540647622016841194629645353280137831435903171972747493376 < i /\ i < 2582249878086908589655919172003011874329705792829223512830659356540647622016841194629645353280137831435903171972747493376) /\ (-2582249878086908589655919172003011874329705792829223512830659356540647622016841194629645353280137831435903171972747493376 < j /\ j < 2582249878086908589655919172003011874329705792829223512830659356540647622016841194629645353280137831435903171972747493376)) then some (.int (i * j)) else none
  | .str a, .int j => if j < 2 ^ 62 /\ -(2 ^ 62) <= j /\ a.length * j.toNat <= dp' then some (.str (List.replicate j.toNat a).flatten) else none
  | .lst a, .int j => if j < 2 ^ 62 /\ -(2 ^ 62) <= j /\ a.length * j.toNat <= dp' then some (.lst (List.replicate j.toNat a).flatten) else none
  | _, _ => none
def iV' : D -> D -> Option D
  | .int i, .int j => if 0 < j /\ j < 1606938044258990275541962092341162602522202993782792835301376 then some (.int (i / j)) else none
  | _, _ => none
def j8' : D -> D -> Option D
  | .int i, .int j => if 0 < j then some (.int (i % j)) else none
  | _, _ => none
def yG' : D -> D -> Option D
  | .int i, .int j => if 0 <= j /\ j <= 1000 /\ small64 i = true then some (.int (i ^ j.toNat)) else none
  | _, _ => none
def Au' : D -> Option D
  | .int i => some (.int (-i))
  | _ => none
def chD (c : Nat) : D := .str [c]
def ixn (n : Nat) (i : Int) : Option Nat := if 0 <= i then (if i < n then some i.toNat else none) else (if -(n : Int) <= i then some (i + n).toNat else none)
def ati {α : Type} (xs : List α) (i : Int) : Option α := (ixn xs.length i).bind fun j => xs[j]?
def six (n : Nat) (d : Nat) : Option Int -> Nat
  | none => d
  | some i => if i < 0 then (i + (n : Int)).toNat else min i.toNat n
def cut {α : Type} (xs : List α) (lo hi : Option Int) : List α := (xs.drop (six xs.length 0 lo)).take (six xs.length xs.length hi - six xs.length 0 lo)
def ei' : D -> Option (List D)
  | .lst xs => some xs
  | .tup xs => some xs
  | .str s => some (s.map chD)
  | _ => none
def sca : D -> Bool
  | .non => true | .bl _ => true | .int _ => true | .str _ => true
  | _ => false
def pIn : D -> D -> Option D
  | .str [c], .str s => some (.bl (decide (c ∈ s)))
  | x, .lst ds => if sca x = true /\ ds.all sca = true then some (.bl (ds.any fun d => eqb d x)) else none
  | x, .tup ds => if sca x = true /\ ds.all sca = true then some (.bl (ds.any fun d => eqb d x)) else none
  | _, _ => none
mutual
def kat : D -> Bool
  | .non => true | .bl _ => true | .int _ => true | .str _ => true
  | .tup ds => kats ds
  | _ => false
def kats : List D -> Bool
  | [] => true
  | d :: r => kat d && kats r
end
def rJ' (ks : List D) (k : D) : Bool := kat k && decide (dep k <= 8) && ks.all (fun d => sca d == sca k)
def gA' (ks : List D) (k : D) : Option Nat := ks.findIdx? fun d => eqb d k
def isK : D -> Bool
  | .int _ => true | .str _ => true
  | _ => false
def dget {α : Type} (ks : List D) (vs : List α) (k : D) : Option α := (gA' ks k).bind fun j => vs[j]?
def cA' : O -> D -> Option (Option O)
  | .dct ks os, k => if isK k = true then some (dget ks os k) else none
  | .dcx ks os, k => if rJ' ks k = true then some (dget ks os k) else none
  | .fz (.dct ks vs), k => if isK k = true then some (dget ks (vs.map .fz) k) else none
  | .fz (.dcx ks vs), k => if rJ' ks k = true then some (dget ks (vs.map .fz) k) else none
  | _, _ => none
def nH' {α : Type} (ks : List D) (os : List α) (k : D) (o : α) : Option (List D × List α) := match gA' ks k with
  | some j => some (ks, os.set j o)
  | none => if ks.length < dp' then some (ks ++ [k], os ++ [o]) else none
def fB' : O -> D -> O -> Option O
  | .dct ks os, k, o => if isK k = true then (nH' ks os k o).map fun p => .dct p.1 p.2 else none
  | .dcx ks os, k, o => if rJ' ks k = true then (nH' ks os k o).map fun p => .dcx p.1 p.2 else none
  | _, _, _ => none
def g2' (x y : D) : Option D := match pIn x y with | some (.bl b) => some (.bl (!b)) | _ => none
def eD' : D -> Option D
  | .str s => some (.int s.length)
  | .lst ds => some (.int ds.length)
  | .tup ds => some (.int ds.length)
  | .dct ks _ => some (.int ks.length)
  | .dcx ks _ => some (.int ks.length)
  | _ => none
def pIx : D -> D -> Option D
  | .str s, .int i => (ati s i).map chD
  | .lst ds, .int i => ati ds i
  | .tup ds, .int i => ati ds i
  | _, _ => none
def pSl (d : D) (lo hi : Option Int) : Option D := match d with
  | .str s => some (.str (cut s lo hi))
  | .lst s => some (.lst (cut s lo hi))
  | .tup s => some (.tup (cut s lo hi))
  | .scr s => some (.lst (cut s lo hi))
  | _ => none
def At' : D -> Option D
  | .str s => some (.str s.reverse)
  | .lst s => some (.lst s.reverse)
  | _ => none
def d3' : List D -> Option (List Tx)
  | [] => some []
  | .str s :: r => (d3' r).map (s :: ·)
  | _ :: _ => none
def cZ' (sep : Tx) : List Tx -> Tx
  | [] => []
  | [x] => x
  | x :: y :: r => x ++ (sep ++ cZ' sep (y :: r))
def lI' (a : Tx) : List D -> Option D
  | [.lst ds] => (d3' ds).bind fun ys => if (ys.map List.length).sum + ys.length * a.length <= dp' then some (.str (cZ' a ys)) else none
  | [.tup ds] => (d3' ds).bind fun ys => if (ys.map List.length).sum + ys.length * a.length <= dp' then some (.str (cZ' a ys)) else none
  | _ => none
def bs' : List D -> Option (List Int)
  | [] => some []
  | .int b :: r => (bs' r).map (b :: ·)
  | _ :: _ => none
def CW' : D -> Option D
  | .lst ds => (bs' ds).map fun ns => .int ns.sum
  | _ => none
def bY' (l : List Nat) : List Nat := l.mergeSort fun a b => decide (a <= b)
def gQ' (l : List Int) : List Int := l.mergeSort fun a b => decide (a <= b)
def dW' : D -> Option D
  | .dct ks _ => (bs' ks).bind fun ns => if ns.length <= dp' then some (.lst ((gQ' ns).map .int)) else none
  | _ => none
def g4' : List D -> Option (List Nat)
  | [] => some []
  | .str [c] :: r => (g4' r).map (c :: ·)
  | _ => none
def cF' : D -> Option D
  | .str s => if s.length < 64 then some (.lst ((bY' s).map chD)) else none
  | .lst ds => match bs' ds with
    | some ns => some (.lst ((gQ' ns).map .int))
    | none => (g4' ds).bind fun cs => if cs.length < 64 then some (.lst ((bY' cs).map chD)) else none
  | _ => none
def uS' (a b : Tx) (i : Nat) : Bool := decide (i + b.length <= a.length) && decide ((a.drop i).take b.length = b)
def n4' (a b : Tx) : Option Nat := (List.range (a.length + 1)).find? (uS' a b)
def fnd (o : Option Nat) : Int := match o with | some i => (i : Int) | none => -1
def rt' (a : Tx) : List D -> Option D
  | [.str b] => some (.int (fnd (n4' a b)))
  | _ => none
def kl' (a : Tx) : List D -> Option D
  | [.str b] => (n4' a b).map fun (i : Nat) => D.int (Int.ofNat i)
  | _ => none
def Ao' (c : Nat) : Tx -> List Tx
  | [] => [[]]
  | x :: r => if x = c then [] :: Ao' c r else (match Ao' c r with
    | [] => [[x]]
    | y :: ys => (x :: y) :: ys)
def yQ' (a : Tx) : List D -> Option D
  | [.str [c]] => if c < 128 /\ a.length + 2 <= dp' then some (.lst ((Ao' c a).map .str)) else none
  | _ => none
def C4' (n : Nat) : Tx := (Nat.toDigits 10 n).map Char.toNat
def Ds' : D -> Option D
  | .int i => if 0 <= i /\ i < 1000000000000000000000000000000000000000000000000000000000000 then some (.str (C4' i.toNat)) else none
  | _ => none
def up1 (c : Nat) : Nat := if 97 <= c /\ c <= 122 then c - 32 else c
def uJ' : D -> Option D
  | .str s => if s.all (fun c => decide (c < 128)) = true /\ s.length <= 5592405 then some (.str (s.map up1)) else none
  | _ => none
def bools : List D -> Option (List Bool)
  | [] => some []
  | .bl b :: r => (bools r).map (b :: ·)
  | _ :: _ => none
def CY' : D -> Option D
  | .lst ds => (bools ds).map fun bs => .bl (bs.all id)
  | _ => none
def CX' : D -> Option D
  | .lst ds => (bools ds).map fun bs => .bl (bs.any id)
  | _ => none
def Bt' : D -> Option D
  | .lst ds => some (.lst ds)
  | .tup ds => some (.lst ds)
  | .str s => some (.lst (s.map chD))
  | _ => none
def eS' : D -> Option D
  | .str s => some (.lst (s.map chD))
  | d => Bt' d
def bK' : D -> Option D
  | .str s => some (.tup (s.map chD))
  | .lst ds => some (.tup ds)
  | .tup ds => some (.tup ds)
  | _ => none
def in' : D -> Option D
  | .int i => some (.int i)
  | .bl b => some (.int (if b then 1 else 0))
  | _ => none
def Ax' : D -> Option D
  | .int i => some (.int (if i < 0 then -i else i))
  | _ => none
def rb' : D -> D -> Option D
  | .int i, .int j => some (.int (if j > i then j else i))
  | _, _ => none
def oC' : D -> D -> Option D
  | .int i, .int j => some (.int (if j < i then j else i))
  | _, _ => none
def nS' : List Int -> Int
  | [] => 0
  | [x] => x
  | x :: r => max x (nS' r)
def oD' : D -> Option D
  | .dct _ vs => (bs' vs).bind fun ns => if ns = [] then none else some (.int (nS' ns))
  | _ => none
def tyn : D -> Option String
  | .non => some "NoneType" | .bl _ => some "bool" | .int _ => some "int" | .str _ => some "str"
  | .tup _ => some "tuple" | .lst _ => some "list" | .dct _ _ => some "dict"
  | _ => none
def cq' (t : String) (d : D) : Option D := (tyn d).map fun n => .bl (n == t || (n == "bool" && t == "int"))
abbrev ME := PSt -> Res D
abbrev MO := PSt -> Res O
abbrev MA := PSt -> Res (List D)
abbrev MT := PSt -> Res Bool
abbrev MS := PSt -> Out
abbrev MF := List D -> W -> FRes
abbrev MG := D -> PSt -> Option PSt
abbrev MI := PSt -> Res (List D)
@[simp] def Res.bind {α β : Type} (r : Res α) (f : α -> PSt -> Res β) : Res β := match r with
  | .ok a ρ => f a ρ
  | .exc x ρ => .exc x ρ
  | .bad => .bad
@[simp] def Res.out {α : Type} (r : Res α) (f : α -> PSt -> Out) : Out := match r with
  | .ok a ρ => f a ρ
  | .exc x ρ => .exc x ρ
  | .bad => .bad
@[simp] def ofO {α : Type} (o : Option α) (ρ : PSt) : Res α := match o with
  | some a => .ok a ρ
  | none => .bad
@[simp] def eC (d : D) : ME := fun ρ => .ok d ρ
@[simp] def eV (i : Nat) : ME := fun ρ => match ρ.env[i]? with
  | some (some (.fz d)) => .ok d ρ
  | some (some .exn) => .bad
  | some (some .clo) => .bad
  | some (some o) => .ok (frz o) ⟨ρ.env.set i (some (.fz (frz o))), ρ.w⟩
  | _ => .bad
@[simp] def eOp (f : D -> D -> Option D) (a b : ME) : ME := fun ρ => (a ρ).bind fun x ρ1 => (b ρ1).bind fun y ρ2 => ofO (f x y) ρ2
@[simp] def eUn (f : D -> Option D) (a : ME) : ME := fun ρ => (a ρ).bind fun x ρ1 => ofO (f x) ρ1
@[simp] def asB (d : D) (ρ : PSt) : Res Bool := match d with
  | .bl b => .ok b ρ
  | _ => .bad
@[simp] def wH' (a b : ME) : ME := fun ρ => (a ρ).bind fun x ρ1 => (asB x ρ1).bind fun k ρ1 => if k = true then b ρ1 else .ok (.bl false) ρ1
@[simp] def zn' (a : ME) : ME := fun ρ => (a ρ).bind fun x ρ1 => (asB x ρ1).bind fun k ρ1 => .ok (.bl (!k)) ρ1
@[simp] def hy' (f g : D -> D -> Option D) (a b c : ME) : ME := fun ρ => (a ρ).bind fun x ρ1 => (b ρ1).bind fun y ρ2 => (ofO (f x y) ρ2).bind fun r ρ2 => (asB r ρ2).bind fun k ρ2 =>
  if k = true then (c ρ2).bind fun z ρ3 => ofO (g y z) ρ3 else .ok (.bl false) ρ2
@[simp] def aV' : MA := fun ρ => .ok [] ρ
@[simp] def ac' (a : ME) (r : MA) : MA := fun ρ => (a ρ).bind fun x ρ1 => (r ρ1).bind fun xs ρ2 => .ok (x :: xs) ρ2
@[simp] def o7' (as : MA) : ME := fun ρ => (as ρ).bind fun xs ρ1 => if xs.length <= dp' then .ok (.tup xs) ρ1 else .bad
@[simp] def jf' (as : MA) : ME := fun ρ => (as ρ).bind fun xs ρ1 => if xs.length <= dp' then .ok (.lst xs) ρ1 else .bad
@[simp] def eMt (f : Tx -> List D -> Option D) (a : ME) (as : MA) : ME := fun ρ => (a ρ).bind fun x ρ1 => match x with
  | .str s => (as ρ1).bind fun ds ρ2 => ofO (f s ds) ρ2
  | _ => .bad
def rs' (ds : List D) : List D -> Option D
  | [.int v] => (bs' ds).bind fun ns => if v ∈ ns then some (.int ((ns.idxOf v : Nat) : Int)) else none
  | _ => none
abbrev MP := PSt -> Res (Option Int)
@[simp] def pNo : MP := fun ρ => .ok none ρ
@[simp] def pSo (a : ME) : MP := fun ρ => (a ρ).bind fun x ρ1 => match x with | .int i => .ok (some i) ρ1 | _ => .bad
@[simp] def eSl (a : ME) (lo hi : MP) : ME := fun ρ => (a ρ).bind fun x ρ1 => (lo ρ1).bind fun l ρ2 => (hi ρ2).bind fun h ρ3 => ofO (pSl x l h) ρ3
@[simp] def fin (r : FRes) (ρ : PSt) : Res O := match r with
  | .ok o w => .ok o ⟨ρ.env, w⟩
  | .exc x w => .exc x ⟨ρ.env, w⟩
  | .bad => .bad
@[simp] def av' (f : MF) (as : MA) : MO := fun ρ => (as ρ).bind fun xs ρ1 => fin (f xs ρ1.w) ρ1
@[simp] def eO (a : MO) : ME := fun ρ => (a ρ).bind fun o ρ1 => .ok (frz o) ρ1
@[simp] def oE (a : ME) : MO := fun ρ => (a ρ).bind fun d ρ1 => .ok (.fz d) ρ1
@[simp] def oV (i : Nat) : MO := fun ρ => match ρ.env[i]? with
  | some (some (.fz d)) => .ok (.fz d) ρ
  | some (some .exn) => .bad
  | some (some .clo) => .bad
  | some (some o) => .ok o ⟨ρ.env.set i none, ρ.w⟩
  | _ => .bad
abbrev MOA := PSt -> Res (List O)
@[simp] def jp' (a : ME) : MO := fun ρ => (a ρ).bind fun d ρ1 => match d with | .lst ds => .ok (.lst (ds.map .fz)) ρ1 | _ => .bad
@[simp] def gm' : MO := fun ρ => .ok (.dct [] []) ρ
def RgB (a b : Int) : Bool := decide (-(2 ^ 62) <= a) && decide (a < 2 ^ 62) && decide (-(2 ^ 62) <= b) && decide (b < 2 ^ 62) && decide ((b - a).toNat <= 16777216)
def e5' (a b : Int) : List D := (List.range (b - a).toNat).map fun i => .int (a + (i : Nat))
@[simp] def eR' : D -> Option D
  | .int b => if RgB 0 b = true then some (.lst (e5' 0 b)) else none
  | _ => none
@[simp] def kC' (i : Nat) (a : ME) : ME := fun ρ => match ρ.env[i]? with
  | some (some (.lst _)) => (a ρ).bind fun d ρ1 => match ρ1.env[i]?, d with
    | some (some (.lst os)), .int z => (match (if os.length <= dp' then ixn os.length z else none) with
      | some j => (match os[j]? with
        | some (.fz y) => .ok y ⟨ρ1.env.set i (some (.lst (os.eraseIdx j))), ρ1.w⟩
        | _ => .bad)
      | none => .bad)
    | _, _ => .bad
  | _ => .bad
@[simp] def items : O -> Option (List O)
  | .fz (.lst ds) => some (ds.map .fz)
  | .fz (.tup ds) => some (ds.map .fz)
  | .fz (.str s) => some (s.map fun c => .fz (chD c))
  | .lst os => some os
  | .tup os => some os
  | _ => none
@[simp] def ixO : O -> D -> Option D
  | .fz d, k => pIx d k
  | .lst os, .int i => match ati os i with | some (.fz d) => some d | _ => none
  | .tup os, .int i => match ati os i with | some (.fz d) => some d | _ => none
  | _, _ => none
@[simp] def wG' (i : Nat) (b : ME) : ME := fun ρ => match ρ.env[i]? with
  | some (some _) => (b ρ).bind fun k ρ1 => match ρ1.env[i]? with
    | some (some o) => ofO (ixO o k) ρ1
    | _ => .bad
  | _ => .bad
@[simp] def inO (x : D) : O -> Option D
  | .fz d => pIn x d
  | .lst os => if os.all (fun o => match o with | .fz _ => true | _ => false) = true then pIn x (.lst (os.map frz)) else none
  | _ => none
@[simp] def DD' (i : Nat) (a : ME) : ME := fun ρ => (a ρ).bind fun x ρ1 => match ρ1.env[i]? with
  | some (some o) => ofO (inO x o) ρ1
  | _ => .bad
@[simp] def rj' : Option D -> Option D
  | some (.bl b) => some (.bl (!b))
  | _ => none
@[simp] def fM' (i : Nat) (a : ME) : ME := fun ρ => (a ρ).bind fun x ρ1 => match ρ1.env[i]? with
  | some (some o) => ofO (rj' (inO x o)) ρ1
  | _ => .bad
@[simp] def o6' : O -> Option D
  | .fz d => eD' d
  | .lst os => some (.int os.length)
  | .tup os => some (.int os.length)
  | .dct ks _ => some (.int ks.length)
  | .dcx ks _ => some (.int ks.length)
  | .exn => none
  | .clo => none
@[simp] def ev' (i : Nat) : ME := fun ρ => match ρ.env[i]? with
  | some (some o) => ofO (o6' o) ρ
  | _ => .bad
@[simp] def sg' : Option (Option O) -> Option D
  | some (some (.fz d)) => some d
  | _ => none
@[simp] def tH' (neg : Bool) (i : Nat) (a : ME) : ME := fun ρ => (a ρ).bind fun k ρ1 => match ρ1.env[i]? with
  | some (some o) => ofO ((cA' o k).map fun r => .bl (r.isSome != neg)) ρ1
  | _ => .bad
@[simp] def iv' (i : Nat) (a : ME) : ME := fun ρ => match ρ.env[i]? with
  | some (some _) => (a ρ).bind fun k ρ1 => match ρ1.env[i]? with
    | some (some o) => ofO (sg' (cA' o k)) ρ1
    | _ => .bad
  | _ => .bad
@[simp] def iu' (i : Nat) (k a : ME) : ME := fun ρ => match ρ.env[i]? with
  | some (some (.dct _ _)) => (k ρ).bind fun y ρ1 => (a ρ1).bind fun d ρ2 => match ρ2.env[i]? with
    | some (some (.dct ks os)) => if isK y = true /\ ks.length < dp' then (match dget ks os y with
      | some (.fz e) => .ok e ρ2
      | some _ => .bad
      | none => .ok d ⟨ρ2.env.set i (some (.dct (ks ++ [y]) (os ++ [.fz d]))), ρ2.w⟩) else .bad
    | _ => .bad
  | _ => .bad
@[simp] def ri' : MO := fun ρ => .ok (.dcx [] []) ρ
def j9' (x : Bool) (y d : D) : Option O := if x = true then (if kat y = true /\ dep y <= 8 /\ sca y = false then some (.dcx [y] [.fz d]) else none) else (if isK y = true then some (.dct [y] [.fz d]) else none)
@[simp] def kf' (x : Bool) (k a : ME) : MO := fun ρ => (k ρ).bind fun y ρ1 => (a ρ1).bind fun d ρ2 => ofO (j9' x y d) ρ2
@[simp] def o4' (i : Nat) (k a : ME) : MS := fun ρ => (a ρ).out fun d ρ1 => match ρ1.env[i]? with
  | some (some _) => (k ρ1).out fun y ρ2 => match ρ2.env[i]? with
    | some (some o) => (match fB' o y (.fz d) with
      | some o' => .nx ⟨ρ2.env.set i (some o'), ρ2.w⟩
      | none => .bad)
    | _ => .bad
  | _ => .bad
@[simp] def ixW (w : W) : D -> D -> Option D
  | .obj n, k => match w[n]? with | some (.lst os) => ixO (.lst os) k | _ => none
  | d, k => pIx d k
@[simp] def js' (a b : ME) : ME := fun ρ => (a ρ).bind fun x ρ1 => (b ρ1).bind fun y ρ2 => ofO (ixW ρ2.w x y) ρ2
@[simp] def yL' (as : MA) : MO := fun ρ => (as ρ).bind fun xs ρ1 => if xs.length <= dp' then .ok (.fz (.obj ρ1.w.length)) ⟨ρ1.env, ρ1.w ++ [.lst (xs.map .fz)]⟩ else .bad
@[simp] def tE (a : ME) : MT := fun ρ => (a ρ).bind asB
@[simp] def gw' (a : MT) : MT := fun ρ => (a ρ).bind fun k ρ1 => .ok (!k) ρ1
@[simp] def xn' (a b : MT) : MT := fun ρ => (a ρ).bind fun k ρ1 => if k = true then b ρ1 else .ok false ρ1
@[simp] def tOr (a b : MT) : MT := fun ρ => (a ρ).bind fun k ρ1 => if k = true then .ok true ρ1 else b ρ1
@[simp] def et' (a : ME) : MI := fun ρ => (a ρ).bind fun d ρ1 => ofO (ei' d) ρ1
def rgI (lo : Int) (n : Nat) : List D := (List.range n).map fun i => .int (lo + (i : Nat))
def so' (i : Int) : Bool := decide (-(2 ^ 62) <= i) && decide (i < 2 ^ 62)
@[simp] def fC' : D -> Option (List D)
  | .int j => if so' j = true then some (rgI 0 j.toNat) else none
  | _ => none
@[simp] def ra' : D -> D -> Option (List D)
  | .int i, .int j => if so' i = true /\ so' j = true then some (rgI i (j - i).toNat) else none
  | _, _ => none
@[simp] def by' (a : ME) : MI := fun ρ => (a ρ).bind fun x ρ1 => ofO (fC' x) ρ1
def dq' : List D -> List D -> List D
  | x :: xs, y :: ys => .tup [x, y] :: dq' xs ys
  | _, _ => []
def eu' (k : Nat) : List D -> List D
  | [] => []
  | x :: xs => .tup [.int k, x] :: eu' (k + 1) xs
@[simp] def Bs' (x y : D) : Option (List D) := match ei' x, ei' y with
  | some a, some b => some (dq' a b)
  | _, _ => none
def sk' (x y : D) : Option (List D) := match x, y with
  | .str _, .str _ => Bs' x y
  | .lst _, .lst _ => Bs' x y
  | .tup _, .tup _ => Bs' x y
  | _, _ => none
def enB : D -> Option (List D)
  | .str s => some (eu' 0 (s.map chD))
  | .lst ds => some (eu' 0 ds)
  | _ => none
def Ar' : D -> Option (List D)
  | .lst ds => some ds.reverse
  | .tup ds => some ds.reverse
  | _ => none
def CO' (x y : D) : Option (List D) := match x, y with
  | .str s, .tup ds => some (dq' (s.map chD) ds)
  | _, _ => none
@[simp] def zb' (a b : ME) : MI := fun ρ => (a ρ).bind fun x ρ1 => (b ρ1).bind fun y ρ2 => ofO (sk' x y) ρ2
@[simp] def rP' (a : ME) : MI := fun ρ => (a ρ).bind fun x ρ1 => ofO (enB x) ρ1
def CC' : D -> Option (List D)
  | .dct ks _ => some ks
  | _ => none
def CB' : D -> Option (List D)
  | .dct _ vs => some vs
  | _ => none
def r2' : D -> Option (List D)
  | .dct ks vs => some (dq' ks vs)
  | _ => none
@[simp] def rQ' (f : D -> Option (List D)) (a : ME) : MI := fun ρ => (a ρ).bind fun x ρ1 => ofO (f x) ρ1
@[simp] def gN (i : Nat) : MG := fun d ρ => if i < ρ.env.length then some ⟨ρ.env.set i (some (.fz d)), ρ.w⟩ else none
@[simp] def gNs : List Nat -> List D -> PSt -> Option PSt
  | [], [], ρ => some ρ
  | i :: is, d :: ds, ρ => (gN i d ρ).bind (gNs is ds)
  | _, _, _ => none
@[simp] def gT (is : List Nat) : MG := fun d ρ => match d with
  | .tup ds => gNs is ds ρ
  | _ => none
@[simp] def noX {α : Type} : Res α -> Res α
  | .exc _ _ => .bad
  | r => r
def aF' : List Nat -> List (Option O) -> List (Option O)
  | [], env => env
  | i :: is, env => (aF' is env).set i none
def back (env : List (Option O)) : List Nat -> List (Option O) -> List (Option O)
  | [], env' => env'
  | i :: is, env' => (back env is env').set i (match env[i]? with | some (some (.fz d)) => some (.fz d) | _ => none)
def lcL (own : List Nat) (g : MG) (t : MT) (e : ME) : List D -> List D -> PSt -> Res (List D)
  | [], acc, ρ => .ok acc ρ
  | x :: xs, acc, ρ => match g x ⟨aF' own ρ.env, ρ.w⟩ with
    | none => .bad
    | some ρ1 => (noX (t ρ1)).bind fun k ρ2 => if k = true then (noX (e ρ2)).bind fun y ρ3 => if acc.length < dp' then lcL own g t e xs (acc ++ [y]) ρ3 else .bad else lcL own g t e xs acc ρ2
@[simp] def eLc (own : List Nat) (it : MI) (g : MG) (t : MT) (e : ME) : ME := fun ρ => (it ρ).bind fun xs ρ1 =>
  (lcL own g t e xs [] ρ1).bind fun ys ρ2 => .ok (.lst ys) ⟨back ρ1.env own (aF' own ρ2.env), ρ2.w⟩
@[simp] def oLc (own : List Nat) (it : MI) (g : MG) (t : MT) (e : ME) : MO := fun ρ => (it ρ).bind fun xs ρ1 =>
  (lcL own g t e xs [] ρ1).bind fun ys ρ2 => .ok (.lst (ys.map .fz)) ⟨back ρ1.env own (aF' own ρ2.env), ρ2.w⟩
def dcL (own : List Nat) (g : MG) (t : MT) (ek ev : ME) : List D -> List D -> List D -> PSt -> Res (List D × List D)
  | [], ks, vs, ρ => .ok (ks, vs) ρ
  | x :: xs, ks, vs, ρ => match g x ⟨aF' own ρ.env, ρ.w⟩ with
    | none => .bad
    | some ρ1 => (noX (t ρ1)).bind fun k ρ2 => if k = true then (noX (ek ρ2)).bind fun y ρ3 => (noX (ev ρ3)).bind fun z ρ4 => (if isK y = true /\ ks.length < dp' then (match nH' ks vs y z with
      | some p => dcL own g t ek ev xs p.1 p.2 ρ4
      | none => .bad) else .bad) else dcL own g t ek ev xs ks vs ρ2
@[simp] def oDc (own : List Nat) (it : MI) (g : MG) (t : MT) (ek ev : ME) : MO := fun ρ => (it ρ).bind fun xs ρ1 =>
  (dcL own g t ek ev xs [] [] ρ1).bind fun p ρ2 => .ok (.dct p.1 (p.2.map .fz)) ⟨back ρ1.env own (aF' own ρ2.env), ρ2.w⟩
@[simp] def tT : MT := fun ρ => .ok true ρ
@[simp] def bj' : MS := fun ρ => .nx ρ
@[simp] def ny' : MS := fun ρ => .bk ρ
@[simp] def gV' (a : ME) : MS := fun ρ => (a ρ).out fun _ ρ1 => .nx ρ1
@[simp] def cd' (a : MO) : MS := fun ρ => (a ρ).out fun o ρ1 => .rt o ρ1.w
@[simp] def as' (a b : MS) : MS := fun ρ => match a ρ with
  | .nx ρ1 => b ρ1
  | r => r
@[simp] def sIf (t : MT) (a b : MS) : MS := fun ρ => (t ρ).out fun k ρ1 => if k = true then a ρ1 else b ρ1
@[simp] def vI' (i : Nat) (o : O) (ρ : PSt) : Out := if i < ρ.env.length then .nx ⟨ρ.env.set i (some o), ρ.w⟩ else .bad
@[simp] def a9' (i : Nat) (a : MO) : MS := fun ρ => (a ρ).out fun o ρ1 => vI' i o ρ1
@[simp] def xp' (g : MG) (a : ME) : MS := fun ρ => (a ρ).out fun d ρ1 => match g d ρ1 with | some ρ2 => .nx ρ2 | none => .bad
@[simp] def xo' (f : D -> D -> Option D) (i : Nat) (a : ME) : MS := fun ρ => match ρ.env[i]? with
  | some (some (.fz d)) => (a ρ).out fun y ρ1 => match f d y with | some z => vI' i (.fz z) ρ1 | none => .bad
  | _ => .bad
@[simp] def nx' (x : String) : MS := fun ρ => .exc ⟨x, []⟩ ρ
@[simp] def ld' (i : Nat) (a : MO) : MS := fun ρ => match ρ.env[i]? with
  | some (some (.lst _)) => (a ρ).out fun o ρ1 => match ρ1.env[i]? with
    | some (some (.lst os)) => if os.length < dp' then .nx ⟨ρ1.env.set i (some (.lst (os ++ [o]))), ρ1.w⟩ else .bad
    | _ => .bad
  | _ => .bad
@[simp] def C3' (w : W) : D -> Option D
  | .obj n => (match w[n]? with
    | some (.lst os) => some (.int os.length)
    | _ => none)
  | _ => none
@[simp] def sJ' (w : W) (x k d : D) : Option W := match x, k with
  | .obj n, .int z => match w[n]? with
    | some (.lst os) => (ixn os.length z).map fun j => w.set n (.lst (os.set j (.fz d)))
    | _ => none
  | _, _ => none
@[simp] def iP' (o k a : ME) : MS := fun ρ => (a ρ).out fun d ρ1 => (o ρ1).out fun x ρ2 => (k ρ2).out fun y ρ3 => match sJ' ρ3.w x y d with
  | some w => .nx ⟨ρ3.env, w⟩
  | none => .bad
def n6' (g : MG) (b : MS) : List D -> MS
  | [], ρ => .nx ρ
  | d :: ds, ρ => match g d ρ with
    | none => .bad
    | some ρ1 => match b ρ1 with
      | .nx ρ2 => n6' g b ds ρ2
      | .ct ρ2 => n6' g b ds ρ2
      | .bk ρ2 => .nx ρ2
      | r => r
@[simp] def eO' (it : MI) (g : MG) (b : MS) : MS := fun ρ => (it ρ).out fun ds ρ1 => n6' g b ds ρ1
def d4' (t : MT) (b : MS) : Nat -> MS
  | 0, _ => .bad
  | n + 1, ρ => (t ρ).out fun k ρ1 => if k = true then (match b ρ1 with
      | .nx ρ2 => d4' t b n ρ2
      | .ct ρ2 => d4' t b n ρ2
      | .bk ρ2 => .nx ρ2
      | r => r) else .nx ρ1
def xx' : Nat := 2 ^ 40
@[simp] def ih' (n : Nat) (t : MT) (b : MS) : MS := fun ρ => d4' t b n ρ
abbrev ET := List (String × String × Bool)
def sub : ET -> String -> String -> Option Bool
  | [], _, _ => none
  | (a, b, r) :: t, x, c => if a = x /\ b = c then some r else sub t x c
@[simp] def tm' : Out -> Out
  | .exc _ _ => .bad
  | r => r
@[simp] def Aq' : MS := fun _ => .bad
@[simp] def hds (hs : List ((String -> Option Bool) × (Exc -> MS))) (x : Exc) (ρ : PSt) : Out := match hs with
  | [] => .exc x ρ
  | (g, h) :: r => (match g x.cls with
    | some true => tm' (h x ρ)
    | some false => hds r x ρ
    | none => .bad)
@[simp] def sm' (i m : Nat) : Out -> Out
  | .nx ρ => if ρ.env.length = i + m + 1 then .nx ⟨ρ.env.set i none, ρ.w⟩ else .bad
  | .bk ρ => if ρ.env.length = i + m + 1 then .bk ⟨ρ.env.set i none, ρ.w⟩ else .bad
  | .ct ρ => if ρ.env.length = i + m + 1 then .ct ⟨ρ.env.set i none, ρ.w⟩ else .bad
  | r => r
@[simp] def ii' (i m : Nat) (b : MS) (g : String -> Option Bool) (h : Exc -> MS) : MS := fun ρ => match b ρ with
  | .exc x ρ1 => (match g x.cls with
    | some true => if ρ1.env.length = i + m + 1 then sm' i m (tm' (h x ⟨ρ1.env.set i (some .exn), ρ1.w⟩)) else .bad
    | some false => .exc x ρ1
    | none => .bad)
  | r => r
@[simp] def tG' (i : Nat) (t : ET) (c : String) (x : Exc) : ME := fun ρ => match ρ.env[i]? with
  | some (some .exn) => if x.fs = [] then ofO ((sub t x.cls c).map .bl) ρ else .bad
  | _ => .bad
def q4' (f : String) (o : O) : List (String × O) -> List (String × O)
  | [] => [(f, o)]
  | (g, x) :: r => if g = f then (g, o) :: r else (g, x) :: q4' f o r
@[simp] def hu' (cs : List String) (f : String) (w : W) : D -> Option D
  | .obj n => (match w[n]? with
    | some (.ins C fs) => if C ∈ cs then (match fs.lookup f with | some (.fz d) => some d | _ => none) else none
    | _ => none)
  | _ => none
@[simp] def e6' (cs : List String) (a : ME) (f : String) : ME := fun ρ => (a ρ).bind fun x ρ1 => ofO (hu' cs f ρ1.w x) ρ1
@[simp] def stF (cs : List String) (f : String) (o : O) (w : W) : D -> Option W
  | .obj n => (match w[n]? with
    | some (.ins C fs) => if C ∈ cs /\ fs.length < 1000 then some (w.set n (.ins C (q4' f o fs))) else none
    | _ => none)
  | _ => none
@[simp] def sFld (cs : List String) (a : ME) (f : String) (v : MO) : MS := fun ρ => (v ρ).out fun o ρ1 => (a ρ1).out fun x ρ2 => match stF cs f o ρ2.w x with
  | some w => .nx ⟨ρ2.env, w⟩
  | none => .bad
@[simp] def ke' (C : String) (init : MF) (as : MA) : MO := fun ρ => (as ρ).bind fun ds ρ1 => match init (.obj ρ1.w.length :: ds) (ρ1.w ++ [.ins C []]) with
  | .ok (.fz .non) w => .ok (.fz (.obj ρ1.w.length)) ⟨ρ1.env, w⟩
  | .ok _ _ => .bad
  | .exc x w => .exc x ⟨ρ1.env, w⟩
  | .bad => .bad
def ja' (cs : List String) (m : String) (w : W) : D -> Bool
  | .obj n => (match w[n]? with
    | some (.ins C' fs) => decide (C' ∈ cs) && (fs.lookup m).isNone
    | _ => false)
  | _ => false
@[simp] def fF' (cs : List String) (m : String) (f : MF) (a : ME) (as : MA) : MO := fun ρ => (a ρ).bind fun x ρ1 => if ja' cs m ρ1.w x = true then (as ρ1).bind fun ds ρ2 => fin (f (x :: ds) ρ2.w) ρ2 else .bad
def wB' (ps : List (String × String)) (w : W) : D -> D -> Bool
  | .obj n, .obj m => (match w[n]?, w[m]? with
    | some (.ins C _), some (.ins C' _) => decide ((C, C') ∈ ps)
    | _, _ => false)
  | _, _ => false
@[simp] def xw' (ps : List (String × String)) (f : MF) (a b : ME) : ME := fun ρ => (a ρ).bind fun x ρ1 => (b ρ1).bind fun y ρ2 => if wB' ps ρ2.w x y = true then (match f [x, y] ρ2.w with
    | .ok (.fz (.bl r)) w => .ok (.bl r) ⟨ρ2.env, w⟩
    | _ => .bad) else .bad
def isC (t : ET) (c : String) (w : W) : D -> Option Bool
  | .obj n => (match w[n]? with
    | some (.ins C _) => sub t C c
    | _ => none)
  | d => (tyn d).map fun _ => false
@[simp] def xv' (t : ET) (c : String) (a : ME) : ME := fun ρ => (a ρ).bind fun x ρ1 => ofO ((isC t c ρ1.w x).map .bl) ρ1
def wy' : O -> Bool
  | .fz _ => true
  | _ => false
@[simp] def fnM (k n : Nat) (b : MS) : MF := fun ds w => if ds.length = k then (match b ⟨ds.map (fun d => some (.fz d)) ++ List.replicate (n - k) none, w⟩ with
    | .nx ρ => .ok (.fz .non) ρ.w
    | .rt o w => .ok o w
    | .exc x ρ => .exc x ρ.w
    | _ => .bad) else .bad
def C8' (x y : D) : Option (List D) := match x, y with
  | .str s, .lst ds => some (dq' (s.map chD) ds)
  | _, _ => none
end M
namespace M
def Dv' (c : Nat) : D -> Option D
  | .str s => if s.length <= 1000000 then some (.str (s.filter fun d => decide (d ≠ c))) else none
  | _ => none
end M
namespace M
def C7' : D -> D -> Option (List D)
  | .tup a, .tup b => some (dq' a b)
  | _, _ => none
def DA' : O -> D -> Option O
  | .lst os, .lst ds => if os.length + ds.length <= dp' then some (.lst (os ++ ds.map .fz)) else none
  | _, _ => none
mutual
def okO : O -> Bool
  | .fz d => dat d
  | .lst os => okOs os
  | .tup os => okOs os
  | _ => false
def okOs : List O -> Bool
  | [] => true
  | o :: r => okO o && okOs r
end
def okM : List Bool -> List (Option O) -> Bool
  | [], _ => true
  | _ :: _, [] => false
  | false :: m, _ :: r => okM m r
  | true :: m, some o :: r => okO o && okM m r
  | true :: _, none :: _ => false
def sn' : List Bool -> List (Option O) -> List (Option O)
  | _, [] => []
  | [], _ :: r => none :: sn' [] r
  | false :: m, _ :: r => none :: sn' m r
  | true :: m, x :: r => (x.map fun o => .fz (frz o)) :: sn' m r
def Ap' : D -> Bool
  | .non => true | .bl _ => true | .int _ => true | .str _ => true
  | _ => false
def unO : O -> Option (List O)
  | .tup os => some os
  | .fz (.tup ds) => some (ds.map .fz)
  | _ => none
def xu' : List Nat -> List O -> PSt -> Option PSt
  | [], [], ρ => some ρ
  | i :: is, o :: os, ρ => if i < ρ.env.length then xu' is os ⟨ρ.env.set i (some o), ρ.w⟩ else none
  | _, _, _ => none
end M
namespace M
def yV' (a b : Tx) : Bool := !decide (b < a)
def x6' (l : List Tx) : List Tx := l.mergeSort yV'
def tc' : D -> Option D
  | .lst ds => (d3' ds).bind fun xs => if xs.length < 64 then some (.lst ((x6' xs).map .str)) else none
  | _ => none
end M
namespace M
end M
namespace M
end M
namespace M
def Bn' (a b : Nat × Tx) : Bool := decide (a.1 < b.1) || (decide (a.1 = b.1) && yV' a.2 b.2)
def gZ' : List D -> List O -> Option (List (Nat × Tx))
  | [], [] => some []
  | .int i :: ks, .fz (.str s) :: os => if 0 <= i then (gZ' ks os).map ((i.toNat, s) :: ·) else none
  | _, _ => none
def uC' : O -> Option D
  | .dct ks os => (gZ' ks os).map fun ps => .lst ((ps.mergeSort Bn').map fun p => .tup [.int (p.1 : Nat), .str p.2])
  | _ => none
end M
namespace M
mutual
def C0' (kl kd : Bool) : D -> Bool
  | .tup ds => nodDs kl kd ds
  | .lst ds => !kl && nodDs kl kd ds
  | .scr ds => !kl && nodDs kl kd ds
  | .dct _ vs => !kd && nodDs kl kd vs
  | .dcx ks vs => nodDs kl kd ks && nodDs kl kd vs
  | _ => true
def nodDs (kl kd : Bool) : List D -> Bool
  | [] => true
  | d :: r => C0' kl kd d && nodDs kl kd r
end
mutual
def CZ' (kl kd : Bool) : O -> Bool
  | .fz d => C0' kl kd d
  | .lst os => nodOs kl kd os
  | .tup os => nodOs kl kd os
  | .dct _ os => nodOs kl kd os
  | .dcx ks os => nodDs kl kd ks && nodOs kl kd os
  | .exn => true
  | .clo => true
def nodOs (kl kd : Bool) : List O -> Bool
  | [] => true
  | o :: r => CZ' kl kd o && nodOs kl kd r
end
def lendO (kl kd : Bool) : O -> Bool
  | .fz _ => true
  | .lst os => kl && os.all wy'
  | .dct _ os => kd && os.all wy'
  | _ => false
def okL (kl kd : Bool) : List Bool -> List (Option O) -> Bool
  | [], _ => true
  | _ :: _, [] => false
  | false :: m, _ :: r => okL kl kd m r
  | true :: m, some o :: r => lendO kl kd o && okL kl kd m r
  | true :: _, none :: _ => false
def Ay' : O -> Nat
  | .fz _ => 0
  | _ => 1
def xd' : List Bool -> List (Option O) -> Nat
  | true :: m, some o :: r => Ay' o + xd' m r
  | false :: m, _ :: r => xd' m r
  | _, _ => 0
def Du' : D -> D -> Option D
  | .int i, .int j => if 0 <= j /\ j <= 1000 /\ small64 i = true then some (.int (i * 2 ^ j.toNat)) else none
  | _, _ => none
def Dt' : D -> D -> Option D
  | .int i, .int j => if 0 <= j then some (.int (i / 2 ^ j.toNat)) else none
  | _, _ => none
@[simp] def gL (is : List Nat) : MG := fun d ρ => match d with
  | .lst ds => gNs is ds ρ
  | _ => none
def gSq : List MG -> List D -> PSt -> Option PSt
  | [], [], ρ => some ρ
  | g :: gs, d :: ds, ρ => (g d ρ).bind (gSq gs ds)
  | _, _, _ => none
def gTg (gs : List MG) : MG := fun d ρ => match d with
  | .tup ds => gSq gs ds ρ
  | _ => none
end M
namespace M
end M
namespace M
end M
namespace M
end M
namespace M
end M
namespace M
end M
namespace M
end M
namespace M
def zm' : List Bool -> List D -> Option (List (Option O))
  | [], [] => some []
  | true :: m, ds => (zm' m ds).map (some .clo :: ·)
  | false :: m, d :: ds => (zm' m ds).map (some (.fz d) :: ·)
  | _, _ => none
inductive AK where
  | e (a : ME) | c (f : MF) (js : List Nat)
end M
namespace M
def allFz : List O -> Option (List D)
  | [] => some []
  | .fz d :: r => (allFz r).map (d :: ·)
  | _ => none
end M
namespace M
end M
namespace M
end M
namespace S
open PySem PySem.Spec PyProof.Rows L2
def DB' (K : PySem.W.Frag) (ps : List (String × String)) (g : Addr) : Bool := ps.all fun p => decide (PySem.W.findIn K (.ref (He.ga K (Str.ofString p.1))) "__eq__" = some (some (.ref g))) && (PySem.W.isFn K (.ref g) &&
  PySem.W.notFirst K (He.ga K (Str.ofString p.1)) (.ref (He.ga K (Str.ofString p.2))))
def wr' (K : PySem.W.Frag) (t : M.ET) (c : String) : Bool := (t.all fun e => !decide (e.2.1 = c) || ((He.Fa.cls (Str.ofString e.1)).ok K && (decide (PySem.W.findIn K (.ref (He.ga K (Str.ofString e.1))) "__class__" = some (some (.builtin "object.__class__"))) &&
    (decide (PySem.W.specialIn K (.builtin "object.__class__") "__get__" = some (some (.builtin "getset_descriptor.__get__"))) && (decide (PySem.W.takesIn K (.builtin "object.__class__") = some true) && (decide (PySem.W.mroIn K (He.ga K (Str.ofString e.1)) (.type "object") = some true) &&
    decide (PySem.W.kitOne K (.ref (He.ga K (Str.ofString e.1))) (.ref (He.ga K (Str.ofString c))) = some e.2.2))))))) &&
  ["NoneType", "bool", "int", "str", "tuple", "list", "dict"].all fun n => decide (PySem.W.kitOne K (.type n) (.ref (He.ga K (Str.ofString c))) = some false)
def uQ' (K : PySem.W.Frag) (t : M.ET) : Bool := t.all fun e => decide (PySem.W.findIn K (.ref (He.ga K (Str.ofString e.1))) "__getattribute__" = some (some (.builtin "BaseException.__getattribute__"))) && (decide (PySem.W.findIn K (.ref (He.ga K (Str.ofString e.1))) "__getattr__" = some none) &&
  (decide (PySem.W.subIn K (.ref (He.ga K (Str.ofString e.1))) (.type "BaseException") = some true) && (PySem.W.hasDictIn K (He.ga K (Str.ofString e.1)) && (decide (PySem.W.findIn K (.ref (He.ga K (Str.ofString e.1))) "__class__" = some (some (.builtin "object.__class__"))) &&
  (decide (PySem.W.specialIn K (.builtin "object.__class__") "__get__" = some (some (.builtin "getset_descriptor.__get__"))) && (decide (PySem.W.takesIn K (.builtin "object.__class__") = some true) && (decide (PySem.W.mroIn K (He.ga K (Str.ofString e.1)) (.type "object") = some true) &&
  decide (PySem.W.kitOne K (.ref (He.ga K (Str.ofString e.1))) (.ref (He.ga K (Str.ofString e.2.1))) = some e.2.2))))))))
def C1' (K : PySem.W.Frag) (ps : List (String × String)) (g : Addr) : Bool := ps.all fun p => decide (PySem.W.findIn K (.ref (He.ga K (Str.ofString p.1))) "__ne__" = some (some (.builtin "object.__ne__"))) &&
  (decide (PySem.W.findIn K (.ref (He.ga K (Str.ofString p.1))) "__eq__" = some (some (.ref g))) && (PySem.W.isFn K (.ref g) && (decide (PySem.W.mroIn K (He.ga K (Str.ofString p.1)) (.type "object") = some true) &&
  PySem.W.notFirst K (He.ga K (Str.ofString p.1)) (.ref (He.ga K (Str.ofString p.2))))))
def CH' : Arguments -> Option (Str × Str)
  | ⟨[], [a, b], none, [], [], none, []⟩ => some (a.arg, b.arg)
  | _ => none
def CE' : FuncBody -> Option (Str × Str × Str × Str × Str)
  | .stmts [.Expr (.Call (.Attribute (.Call (.Name s _) [] [] _) m p) [.Constant (.str _) _ _] [] q) _, .Assign [.Attribute (.Name a _) f _] (.Name b _) _] => if (p.endLine == q.line) = true then some (s, m, a, f, b) else none
  | _ => none
def bmB (K : PySem.W.Frag) : Bool := match K.lookup (He.ga K "__builtins__") with
  | some ⟨.type m, some d, .plain, _⟩ => decide (m = "module") && (decide (d = builtinsNs) && (decide (He.ga K "__builtins__" ≠ builtinsNs) && decide (He.ga K "__builtins__" ≠ mainGlobals)))
  | _ => false
end S
namespace M
def exT : ET := [("NoWord", "SaidError", true), ("NoMachine", "SaidError", true)]
def exI : ET := [("NoWord", "NoWord", true), ("NoMachine", "NoWord", false)]
def isT : ET := [("Machine", "Machine", true), ("RawMachine", "Machine", true)]
def f_is_integer : MF := fnM 1 1 ((cd' (oE (wH' (eUn (cq' "int") (eV 0)) (zn' (eUn (cq' "bool") (eV 0)))))))
def f_is_string_of : MF := fnM 2 3 ((as' (sIf (gw' (tE (eUn (cq' "str") (eV 0)))) (cd' (oE (eC (.bl false)))) bj')
  (as' (eO' (et' (eV 0)) (gN 2) (sIf (tE (eOp g2' (eV 2) (eV 1))) (cd' (oE (eC (.bl false)))) bj'))
  (cd' (oE (eC (.bl true)))))))
def f_is_ascending : MF := fnM 1 3 ((as' (eO' (zb' (eV 0) (eSl (eV 0) (pSo (eC (.int 1))) pNo)) (gT [1, 2]) (sIf (tE (eOp pGe (eV 1) (eV 2))) (cd' (oE (eC (.bl false)))) bj'))
  (cd' (oE (eC (.bl true))))))
def f_is_choice : MF := fnM 2 2 ((cd' (oE (wH' (eO (av' f_is_string_of (ac' (eV 0) (ac' (eV 1) aV')))) (eO (av' f_is_ascending (ac' (eV 0) aV')))))))
def f_is_word : MF := fnM 2 2 ((cd' (av' f_is_string_of (ac' (eV 1) (ac' (e6' ["Machine", "RawMachine"] (eV 0) "kept_letters") aV')))))
def f_check_word : MF := fnM 2 2 ((sIf (gw' (tE (eO (av' f_is_word (ac' (eV 0) (ac' (eV 1) aV')))))) (nx' "NoWord") bj'))
def f_are_states : MF := fnM 2 3 ((as' (sIf (gw' (tE (eUn (cq' "tuple") (eV 0)))) (cd' (oE (eC (.bl false)))) bj')
  (as' (eO' (et' (eV 0)) (gN 2) (sIf (tOr (gw' (tE (eO (av' f_is_integer (ac' (eV 2) aV'))))) (tOr (tE (eOp pLt (eV 2) (eC (.int 0)))) (tE (eOp pGe (eV 2) (eV 1))))) (cd' (oE (eC (.bl false)))) bj'))
  (cd' (oE (eC (.bl true)))))))
def f_is_table : MF := fnM 2 3 ((as' (sIf (tOr (gw' (tE (eUn (cq' "tuple") (eV 0)))) (gw' (tE (hy' pLe pLe (eC (.int 1)) (eUn eD' (eV 0)) (eC (.int 6)))))) (cd' (oE (eC (.bl false)))) bj')
  (as' (eO' (et' (eV 0)) (gN 2) (sIf (tOr (gw' (tE (eO (av' f_are_states (ac' (eV 2) (ac' (eUn eD' (eV 0)) aV')))))) (tE (eOp pNe (eUn eD' (eV 2)) (eUn eD' (eV 1))))) (cd' (oE (eC (.bl false)))) bj'))
  (cd' (oE (eC (.bl true)))))))
def f_Machine_keep : MF := fnM 4 4 ((as' (sFld ["Machine", "RawMachine"] (eV 0) "kept_letters" (oE (eV 1)))
  (as' (sFld ["Machine", "RawMachine"] (eV 0) "kept_table" (oE (eV 2)))
  (as' (sFld ["Machine", "RawMachine"] (eV 0) "kept_accepts" (oE (eV 3)))
  (as' (sFld ["Machine", "RawMachine"] (eV 0) "kept_least" (oE (eC .non)))
  (as' (sFld ["Machine", "RawMachine"] (eV 0) "kept_field" (oE (eC .non)))
  (as' (sFld ["Machine", "RawMachine"] (eV 0) "kept_lots" gm')
  (sFld ["Machine", "RawMachine"] (eV 0) "kept_more" gm'))))))))
def f_Machine___init__ : MF := fnM 4 4 ((as' (sIf (tOr (gw' (tE (eO (av' f_is_choice (ac' (eV 1) (ac' (eC (.str [97, 98, 99, 100, 101, 102, 103, 104, 105, 106, 107, 108, 109, 110, 111, 112, 113, 114, 115, 116, 117, 118, 119, 120, 121, 122])) aV')))))) (gw' (tE (hy' pLe pLe (eC (.int 1)) (eUn eD' (eV 1)) (eC (.int 4)))))) Aq' bj')
  (as' (sIf (gw' (tE (eO (av' f_is_table (ac' (eV 2) (ac' (eV 1) aV')))))) Aq' bj')
  (as' (sIf (tOr (gw' (tE (eO (av' f_are_states (ac' (eV 3) (ac' (eUn eD' (eV 2)) aV')))))) (gw' (tE (eO (av' f_is_ascending (ac' (eV 3) aV')))))) Aq' bj')
  (gV' (eO (fF' ["Machine", "RawMachine"] "keep" f_Machine_keep (eV 0) (ac' (eV 1) (ac' (eV 2) (ac' (eV 3) aV'))))))))))
def f_Machine_letters : MF := fnM 1 1 ((cd' (oE (e6' ["Machine", "RawMachine"] (eV 0) "kept_letters"))))
def f_Machine_table : MF := fnM 1 1 ((cd' (oE (e6' ["Machine", "RawMachine"] (eV 0) "kept_table"))))
def f_Machine_accepts : MF := fnM 1 1 ((cd' (oE (e6' ["Machine", "RawMachine"] (eV 0) "kept_accepts"))))
def f_Machine_parts : MF := fnM 1 1 ((cd' (oE (o7' (ac' (e6' ["Machine", "RawMachine"] (eV 0) "kept_letters") (ac' (e6' ["Machine", "RawMachine"] (eV 0) "kept_table") (ac' (e6' ["Machine", "RawMachine"] (eV 0) "kept_accepts") aV')))))))
def f_Machine___eq__ : MF := fnM 2 2 ((cd' (oE (wH' (xv' isT "Machine" (eV 1)) (eOp pEq (eO (fF' ["Machine", "RawMachine"] "parts" f_Machine_parts (eV 0) aV')) (eO (fF' ["Machine", "RawMachine"] "parts" f_Machine_parts (eV 1) aV')))))))
def f_RawMachine___init__ : MF := fnM 4 4 ((gV' (eO (fF' ["Machine", "RawMachine"] "keep" f_Machine_keep (eV 0) (ac' (eV 1) (ac' (eV 2) (ac' (eV 3) aV')))))))
def f_led : MF := fnM 3 4 ((as' (eO' (et' (eV 2)) (gN 3) (a9' 1 (oE (eOp pIx (eOp pIx (e6' ["Machine", "RawMachine"] (eV 0) "kept_table") (eV 1)) (eMt kl' (e6' ["Machine", "RawMachine"] (eV 0) "kept_letters") (ac' (eV 3) aV'))))))
  (cd' (oV 1))))
def f_says : MF := fnM 2 2 ((as' (gV' (eO (av' f_check_word (ac' (eV 0) (ac' (eV 1) aV')))))
  (cd' (oE (eOp pIn (eO (av' f_led (ac' (eV 0) (ac' (eC (.int 0)) (ac' (eV 1) aV'))))) (e6' ["Machine", "RawMachine"] (eV 0) "kept_accepts"))))))
def f_reached : MF := fnM 1 5 ((as' (a9' 1 (jp' (jf' (ac' (eC (.int 0)) aV'))))
  (as' (a9' 2 (kf' false (eC (.int 0)) (eC (.bl true))))
  (as' (a9' 3 (oE (eC (.int 0))))
  (as' (ih' xx' (tE (eOp pLt (eV 3) (ev' 1))) (as' (eO' (et' (eOp pIx (e6' ["Machine", "RawMachine"] (eV 0) "kept_table") (wG' 1 (eV 3)))) (gN 4) (sIf (tE (tH' true 2 (eV 4))) (as' (o4' 2 (eV 4) (eC (.bl true)))
  (ld' 1 (oE (eV 4)))) bj'))
  (xo' td' 3 (eC (.int 1)))))
  (cd' (oV 1)))))))
def f_numbered : MF := fnM 1 5 ((as' (a9' 1 ri')
  (as' (a9' 2 gm')
  (as' (eO' (rQ' r2' (eV 0)) (gT [3, 4]) (as' (sIf (tE (tH' true 1 (eV 4))) (o4' 1 (eV 4) (ev' 1)) bj')
  (o4' 2 (eV 3) (iv' 1 (eV 4)))))
  (cd' (oV 2))))))
def f_alike_states : MF := fnM 2 7 ((as' (a9' 2 (av' f_numbered (ac' (eO (oDc [5] (et' (eV 1)) (gN 5) tT (eV 5) (eOp pIn (eV 5) (e6' ["Machine", "RawMachine"] (eV 0) "kept_accepts")))) aV')))
  (as' (a9' 3 (oE (eC (.int 0))))
  (as' (ih' xx' (tE (eOp pGe (eUn oD' (eV 2)) (eV 3))) (as' (a9' 3 (oE (eOp cI' (eUn oD' (eV 2)) (eC (.int 1)))))
  (as' (a9' 4 gm')
  (as' (eO' (et' (eV 1)) (gN 5) (o4' 4 (eV 5) (o7' (ac' (iv' 2 (eV 5)) (ac' (eUn bK' (eLc [6] (et' (eOp pIx (e6' ["Machine", "RawMachine"] (eV 0) "kept_table") (eV 5))) (gN 6) tT (iv' 2 (eV 6)))) aV')))))
  (a9' 2 (av' f_numbered (ac' (eV 4) aV')))))))
  (cd' (oV 2))))))
def f_least : MF := fnM 1 9 ((as' (sIf (tE (eOp pIs (e6' ["Machine", "RawMachine"] (eV 0) "kept_least") (eC .non))) (as' (a9' 1 (av' f_reached (ac' (eV 0) aV')))
  (as' (a9' 2 (av' f_alike_states (ac' (eV 0) (ac' (eV 1) aV'))))
  (as' (a9' 3 gm')
  (as' (eO' (et' (eV 1)) (gN 4) (gV' (iu' 3 (iv' 2 (eV 4)) (eV 4))))
  (as' (a9' 5 (jp' (jf' aV')))
  (as' (eO' (et' (eUn dW' (eV 3))) (gN 6) (ld' 5 (oE (eUn bK' (eLc [8] (et' (eOp pIx (e6' ["Machine", "RawMachine"] (eV 0) "kept_table") (iv' 3 (eV 6)))) (gN 8) tT (iv' 2 (eV 8)))))))
  (as' (a9' 7 (oE (eUn bK' (eLc [6] (et' (eUn dW' (eV 3))) (gN 6) (tE (eOp pIn (iv' 3 (eV 6)) (e6' ["Machine", "RawMachine"] (eV 0) "kept_accepts"))) (eV 6)))))
  (as' (sFld ["Machine", "RawMachine"] (eV 0) "kept_least" (ke' "RawMachine" f_RawMachine___init__ (ac' (e6' ["Machine", "RawMachine"] (eV 0) "kept_letters") (ac' (eUn bK' (eV 5)) (ac' (eV 7) aV')))))
  (sFld ["Machine", "RawMachine"] (e6' ["Machine", "RawMachine"] (eV 0) "kept_least") "kept_least" (oE (e6' ["Machine", "RawMachine"] (eV 0) "kept_least"))))))))))) bj')
  (cd' (oE (e6' ["Machine", "RawMachine"] (eV 0) "kept_least")))))
def f_around : MF := fnM 3 12 ((as' (gV' (eO (av' f_check_word (ac' (eV 0) (ac' (eV 1) aV')))))
  (as' (gV' (eO (av' f_check_word (ac' (eV 0) (ac' (eV 2) aV')))))
  (as' (a9' 3 (oE (eUn eD' (e6' ["Machine", "RawMachine"] (eV 0) "kept_table"))))
  (as' (a9' 4 (av' f_led (ac' (eV 0) (ac' (eC (.int 0)) (ac' (eV 1) aV')))))
  (as' (a9' 5 (oE (eOp cI' (jf' (ac' (eV 4) aV')) (eLc [9] (by' (eV 3)) (gN 9) (tE (eOp pNe (eV 9) (eV 4))) (eV 9)))))
  (as' (a9' 6 (oDc [10, 9] (rP' (eV 5)) (gT [10, 9]) tT (eV 9) (eV 10)))
  (as' (a9' 7 (oE (eUn bK' (eLc [9] (et' (eV 5)) (gN 9) tT (eUn bK' (eLc [11] (et' (eOp pIx (e6' ["Machine", "RawMachine"] (eV 0) "kept_table") (eV 9))) (gN 11) tT (iv' 6 (eV 11))))))))
  (as' (a9' 8 (oLc [9] (by' (eV 3)) (gN 9) (tE (eOp pIn (eO (av' f_led (ac' (eV 0) (ac' (eV 9) (ac' (eV 2) aV'))))) (e6' ["Machine", "RawMachine"] (eV 0) "kept_accepts"))) (iv' 6 (eV 9))))
  (cd' (av' f_least (ac' (eO (ke' "RawMachine" f_RawMachine___init__ (ac' (e6' ["Machine", "RawMachine"] (eV 0) "kept_letters") (ac' (eV 7) (ac' (eUn bK' (eUn cF' (eV 8))) aV'))))) aV'))))))))))))
def f__law_hand : MF := fnM 1 3 ((as' (a9' 1 (oLc [2] (et' (eSl (eV 0) pNo (pSo (eC (.int 63))))) (gN 2) tT (eUn Ax' (eUn in' (eV 2)))))
  (cd' (yL' (ac' (eV 1) (ac' (eC (.int 0)) (ac' (eC (.int 0)) (ac' (eOp cI' (eC (.int 1)) (eUn eD' (eV 1))) (ac' (eC (.int 0)) aV')))))))))
def f__law_draw : MF := fnM 2 5 ((as' (sIf (xn' (tE (eOp pEq (js' (eV 0) (eC (.int 2))) (eC (.int 0)))) (tE (eOp pLt (js' (eV 0) (eC (.int 1))) (eUn eD' (js' (eV 0) (eC (.int 0))))))) (as' (a9' 2 (oE (eOp pIx (js' (eV 0) (eC (.int 0))) (js' (eV 0) (eC (.int 1))))))
  (as' (iP' (eV 0) (eC (.int 1)) (eOp cI' (js' (eV 0) (eC (.int 1))) (eC (.int 1))))
  (as' (iP' (eV 0) (eC (.int 3)) (eOp j8' (eUn in' (eOp cI' (eOp cI' (eOp iU' (js' (eV 0) (eC (.int 3))) (eC (.int 69621))) (eV 2)) (eC (.int 11)))) (eC (.int 2147483629))))
  (sIf (tE (eOp pGe (eV 2) (eOp yG' (eC (.int 10)) (eC (.int 18))))) (iP' (eV 0) (eC (.int 2)) (eV 2)) bj')))) bj')
  (as' (sIf (tE (eOp pGt (js' (eV 0) (eC (.int 2))) (eC (.int 0)))) (as' (a9' 3 (oE (eOp j8' (eUn in' (js' (eV 0) (eC (.int 2)))) (eV 1))))
  (as' (iP' (eV 0) (eC (.int 2)) (eOp iV' (js' (eV 0) (eC (.int 2))) (eV 1)))
  (cd' (oV 3)))) bj')
  (as' (iP' (eV 0) (eC (.int 4)) (eOp cI' (js' (eV 0) (eC (.int 4))) (eC (.int 1))))
  (as' (a9' 4 (oE (eOp j8' (eUn in' (eOp iU' (eUn in' (eOp cI' (js' (eV 0) (eC (.int 3))) (eOp iU' (eC (.int 7919)) (js' (eV 0) (eC (.int 4)))))) (eC (.int 48271)))) (eC (.int 2147483647)))))
  (as' (a9' 4 (oE (eOp j8' (eUn in' (eOp iU' (eV 4) (eOp cI' (eOp iV' (eV 4) (eC (.int 1009))) (eC (.int 69621))))) (eC (.int 2147483647)))))
  (as' (a9' 4 (oE (eOp j8' (eUn in' (eOp iU' (eV 4) (eOp cI' (eOp iV' (eV 4) (eC (.int 2003))) (eC (.int 40692))))) (eC (.int 2147483399)))))
  (cd' (oE (eOp j8' (eUn in' (eOp iV' (eV 4) (eC (.int 16)))) (eV 1)))))))))))
def f__law_shuffled : MF := fnM 2 5 ((as' (a9' 2 (jp' (eUn eS' (eV 1))))
  (as' (a9' 3 (jp' (jf' aV')))
  (as' (eO' (by' (eUn eD' (eV 1))) (gN 4) (ld' 3 (oE (kC' 2 (eO (av' f__law_draw (ac' (eV 0) (ac' (ev' 2) aV'))))))))
  (cd' (oV 3))))))
def f__law_rows : MF := fnM 4 11 ((as' (a9' 4 (jp' (jf' aV')))
  (as' (a9' 5 (oLc [9] (by' (eV 3)) (gN 9) tT (eO (av' f__law_draw (ac' (eV 0) (ac' (eV 2) aV'))))))
  (as' (a9' 6 (oLc [9] (by' (eV 3)) (gN 9) tT (eO (av' f__law_shuffled (ac' (eV 0) (ac' (eO (jp' (eUn eR' (eV 2)))) aV'))))))
  (as' (eO' (by' (eV 2)) (gN 7) (as' (a9' 8 (jp' (jf' aV')))
  (as' (eO' (by' (eV 3)) (gN 9) (as' (a9' 10 (av' f__law_draw (ac' (eV 0) (ac' (eV 2) aV'))))
  (as' (sIf (tE (eOp pEq (eV 1) (eC (.int 3)))) (a9' 10 (oE (eOp j8' (eUn in' (eOp cI' (eV 7) (eOp pIx (eV 5) (eV 9)))) (eV 2)))) bj')
  (as' (sIf (tE (eOp pEq (eV 1) (eC (.int 4)))) (a9' 10 (oE (eOp oC' (eOp uK' (eV 2) (eC (.int 1))) (eOp cI' (eV 7) (eOp pIx (eV 5) (eV 9)))))) bj')
  (as' (sIf (tE (eOp pEq (eV 1) (eC (.int 5)))) (as' (a9' 10 (oE (eV 7)))
  (sIf (tE (eOp pEq (eV 7) (eC (.int 0)))) (a9' 10 (oE (eOp j8' (eUn in' (eOp cI' (eC (.int 1)) (eV 9))) (eV 2)))) bj')) bj')
  (as' (sIf (tE (eOp pEq (eV 1) (eC (.int 6)))) (a9' 10 (oE (eOp j8' (eUn in' (eOp cI' (eC (.int 1)) (eV 9))) (eV 2)))) bj')
  (as' (sIf (tE (eOp pEq (eV 1) (eC (.int 7)))) (a9' 10 (oE (eOp oC' (eOp uK' (eV 2) (eC (.int 1))) (eOp cI' (eV 7) (eUn in' (eOp pEq (eOp j8' (eV 7) (eV 3)) (eV 9))))))) bj')
  (as' (sIf (tE (eOp pEq (eV 1) (eC (.int 8)))) (as' (a9' 10 (oE (eOp uK' (eV 2) (eC (.int 1)))))
  (sIf (xn' (tE (eOp pLt (eV 7) (eOp uK' (eV 2) (eC (.int 1))))) (tE (eOp pEq (eOp j8' (eV 7) (eV 3)) (eV 9)))) (a9' 10 (oE (eOp j8' (eUn in' (eOp cI' (eV 7) (eC (.int 1)))) (eOp uK' (eV 2) (eC (.int 1)))))) bj')) bj')
  (as' (sIf (tE (eOp pEq (eV 1) (eC (.int 9)))) (a9' 10 (oE (eOp pIx (eOp pIx (eV 6) (eV 9)) (eV 7)))) bj')
  (ld' 8 (oE (eV 10))))))))))))
  (ld' 4 (oE (eUn bK' (eV 8)))))))
  (cd' (oE (eUn bK' (eV 4)))))))))
def f__law_woven : MF := fnM 2 10 ((as' (a9' 2 (av' f__law_rows (ac' (eV 0) (ac' (eOp cI' (eC (.int 3)) (eO (av' f__law_draw (ac' (eV 0) (ac' (eC (.int 7)) aV'))))) (ac' (eC (.int 2)) (ac' (eV 1) aV'))))))
  (as' (a9' 3 (oE (eOp cI' (eC (.int 2)) (eO (av' f__law_draw (ac' (eV 0) (ac' (eC (.int 2)) aV')))))))
  (as' (a9' 4 (av' f__law_rows (ac' (eV 0) (ac' (eOp cI' (eC (.int 3)) (eO (av' f__law_draw (ac' (eV 0) (ac' (eC (.int 7)) aV'))))) (ac' (eV 3) (ac' (eV 1) aV'))))))
  (as' (a9' 5 (jp' (jf' aV')))
  (as' (eO' (by' (eOp iU' (eC (.int 2)) (eV 3))) (gN 6) (as' (a9' 7 (oE (eOp pIx (eV 2) (eOp iV' (eV 6) (eV 3)))))
  (as' (a9' 8 (oE (eOp pIx (eV 4) (eOp j8' (eUn in' (eV 6)) (eV 3)))))
  (ld' 5 (oE (eUn bK' (eLc [9] (by' (eV 1)) (gN 9) tT (eOp cI' (eOp iU' (eOp pIx (eV 7) (eV 9)) (eV 3)) (eOp pIx (eV 8) (eV 9))))))))))
  (cd' (oE (eUn bK' (eV 5))))))))))
def f__law_parts : MF := fnM 3 11 ((as' (a9' 3 (av' f__law_draw (ac' (eV 0) (ac' (eC (.int 13)) aV'))))
  (as' (a9' 4 (oE (eOp cI' (eC (.int 1)) (eO (av' f__law_draw (ac' (eV 0) (ac' (eV 1) aV')))))))
  (as' (a9' 5 (oE (eOp cI' (eC (.int 1)) (eO (av' f__law_draw (ac' (eV 0) (ac' (eV 2) aV')))))))
  (as' (sIf (tE (eOp pGt (eV 3) (eC (.int 4)))) (as' (a9' 5 (oE (eOp rb' (eC (.int 2)) (eV 5))))
  (a9' 4 (oE (eOp rb' (eOp oC' (eC (.int 2)) (eV 1)) (eV 4))))) bj')
  (as' (a9' 6 (av' f__law_shuffled (ac' (eV 0) (ac' (eUn eS' (eC (.str [97, 98, 99, 100, 101, 102, 103, 104, 105, 106, 107, 108, 109, 110, 111, 112, 113, 114, 115, 116, 117, 118, 119, 120, 121, 122]))) aV'))))
  (as' (a9' 7 (oE (eMt lI' (eC (.str [])) (ac' (eUn cF' (eSl (eV 6) pNo (pSo (eV 4)))) aV'))))
  (as' (sIf (tE (eOp pGt (eV 3) (eC (.int 9)))) (a9' 8 (av' f__law_woven (ac' (eV 0) (ac' (eV 4) aV')))) (a9' 8 (av' f__law_rows (ac' (eV 0) (ac' (eV 3) (ac' (eV 5) (ac' (eV 4) aV')))))))
  (as' (a9' 9 (oE (eUn bK' (eLc [10] (by' (eUn eD' (eV 8))) (gN 10) (tE (eOp pEq (eO (av' f__law_draw (ac' (eV 0) (ac' (eC (.int 2)) aV')))) (eC (.int 1)))) (eV 10)))))
  (cd' (oE (o7' (ac' (eV 7) (ac' (eV 8) (ac' (eV 9) aV')))))))))))))))
def f__law_classes : MF := fnM 3 11 ((as' (a9' 3 gm')
  (as' (eO' (et' (eV 2)) (gN 4) (o4' 3 (eV 4) (eUn in' (eOp pIn (eV 4) (eV 1)))))
  (as' (a9' 5 (oE (eC (.int 0))))
  (as' (eO' (by' (eUn eD' (eV 2))) (gN 6) (as' (a9' 7 ri')
  (as' (a9' 8 gm')
  (as' (eO' (et' (eV 2)) (gN 4) (as' (a9' 9 (oE (o7' (ac' (iv' 3 (eV 4)) (ac' (eUn bK' (eLc [10] (et' (eOp pIx (eV 0) (eV 4))) (gN 10) tT (iv' 3 (eV 10)))) aV')))))
  (as' (sIf (tE (tH' true 7 (eV 9))) (o4' 7 (eV 9) (ev' 7)) bj')
  (o4' 8 (eV 4) (iv' 7 (eV 9))))))
  (as' (a9' 3 (oE (eV 8)))
  (as' (sIf (tE (eOp pEq (ev' 7) (eV 5))) ny' bj')
  (a9' 5 (oE (ev' 7)))))))))
  (cd' (oV 3)))))))
def f__law_least : MF := fnM 2 11 ((as' (a9' 2 (jp' (jf' (ac' (eC (.int 0)) aV'))))
  (as' (a9' 3 (oE (eC (.int 0))))
  (as' (ih' xx' (tE (eOp pLt (eV 3) (ev' 2))) (as' (eO' (et' (eOp pIx (eV 0) (wG' 2 (eV 3)))) (gN 4) (sIf (tE (fM' 2 (eV 4))) (ld' 2 (oE (eV 4))) bj'))
  (a9' 3 (oE (eOp cI' (eV 3) (eC (.int 1)))))))
  (as' (a9' 5 (av' f__law_classes (ac' (eV 0) (ac' (eV 1) (ac' (eV 2) aV')))))
  (as' (a9' 6 gm')
  (as' (a9' 7 (jp' (jf' aV')))
  (as' (eO' (et' (eV 2)) (gN 8) (sIf (tE (tH' true 6 (iv' 5 (eV 8)))) (as' (o4' 6 (iv' 5 (eV 8)) (ev' 7))
  (ld' 7 (oE (eV 8)))) bj'))
  (as' (a9' 9 (oE (eUn bK' (eLc [8] (et' (eV 7)) (gN 8) tT (eUn bK' (eLc [4] (et' (eOp pIx (eV 0) (eV 8))) (gN 4) tT (iv' 6 (iv' 5 (eV 4)))))))))
  (cd' (oE (o7' (ac' (eV 9) (ac' (eUn bK' (eLc [10] (by' (ev' 7)) (gN 10) (tE (eOp pIn (wG' 7 (eV 10)) (eV 1))) (eV 10))) aV'))))))))))))))
def f__law_word : MF := fnM 3 5 ((as' (a9' 3 (oE (eC (.str []))))
  (as' (eO' (by' (eV 2)) (gN 4) (a9' 3 (oE (eOp cI' (eV 3) (eOp pIx (eV 1) (eO (av' f__law_draw (ac' (eV 0) (ac' (eUn eD' (eV 1)) aV')))))))))
  (cd' (oV 3)))))
def f__law_no_word : MF := fnM 3 7 ((as' (a9' 3 (oLc [6] (et' (eC (.str [97, 98, 99, 100, 101, 102, 103, 104, 105, 106, 107, 108, 109, 110, 111, 112, 113, 114, 115, 116, 117, 118, 119, 120, 121, 122, 65, 66, 90, 32, 46, 45, 95, 48, 55]))) (gN 6) (tE (eOp g2' (eV 6) (eV 1))) (eV 6)))
  (as' (a9' 4 (av' f__law_draw (ac' (eV 0) (ac' (eOp cI' (eUn eD' (eV 2)) (eC (.int 1))) aV'))))
  (as' (a9' 5 (av' f__law_draw (ac' (eV 0) (ac' (eC (.int 7)) aV'))))
  (as' (sIf (tE (eOp pEq (eV 5) (eC (.int 0)))) (cd' (oE (eOp pIx (jf' (ac' (eC .non) (ac' (eC (.bl true)) (ac' (eC (.bl false)) (ac' (eO gm') (ac' (eUn Au' (eC (.int 1))) (ac' (jf' aV') (ac' (o7' aV') aV')))))))) (eO (av' f__law_draw (ac' (eV 0) (ac' (eC (.int 7)) aV'))))))) bj')
  (as' (sIf (tE (eOp pEq (eV 5) (eC (.int 1)))) (cd' (oE (jf' (ac' (eV 2) aV')))) bj')
  (as' (sIf (tE (eOp pEq (eV 5) (eC (.int 2)))) (cd' (oE (eUn bK' (eV 2)))) bj')
  (as' (sIf (tE (eOp pEq (eV 5) (eC (.int 3)))) (cd' (oV 4)) bj')
  (cd' (oE (eOp cI' (eOp cI' (eSl (eV 2) pNo (pSo (eV 4))) (eOp pIx (eV 3) (eO (av' f__law_draw (ac' (eV 0) (ac' (eUn eD' (eV 3)) aV')))))) (eSl (eV 2) (pSo (eV 4)) pNo))))))))))))
def f__law_is_machine : MF := fnM 4 4 ((as' (sIf (gw' (tE (xv' isT "Machine" (eV 0)))) (cd' (oE (eC (.bl false)))) bj')
  (cd' (oE (eOp Aw' (eUn v2' (o7' (ac' (eO (fF' ["Machine", "RawMachine"] "letters" f_Machine_letters (eV 0) aV')) (ac' (eO (fF' ["Machine", "RawMachine"] "table" f_Machine_table (eV 0) aV')) (ac' (eO (fF' ["Machine", "RawMachine"] "accepts" f_Machine_accepts (eV 0) aV')) aV'))))) (eUn v2' (o7' (ac' (eV 1) (ac' (eV 2) (ac' (eV 3) aV'))))))))))
def f__law_led : MF := fnM 4 5 ((as' (eO' (et' (eV 3)) (gN 4) (a9' 2 (oE (eOp pIx (eOp pIx (eV 1) (eV 2)) (eMt rt' (eV 0) (ac' (eV 4) aV'))))))
  (cd' (oV 2))))
def f__law_due : MF := fnM 5 11 ((as' (a9' 5 (av' f__law_led (ac' (eV 0) (ac' (eV 1) (ac' (eC (.int 0)) (ac' (eV 3) aV'))))))
  (as' (a9' 6 (jp' (jf' (ac' (eLc [10] (et' (eOp pIx (eV 1) (eV 5))) (gN 10) tT (eOp cI' (eV 10) (eC (.int 1)))) aV'))))
  (as' (eO' (et' (eV 1)) (gN 7) (ld' 6 (oLc [10] (et' (eV 7)) (gN 10) tT (eOp cI' (eV 10) (eC (.int 1))))))
  (as' (a9' 8 (jp' (jf' aV')))
  (as' (sIf (tE (eOp pIn (eO (av' f__law_led (ac' (eV 0) (ac' (eV 1) (ac' (eV 5) (ac' (eV 4) aV')))))) (eV 2))) (ld' 8 (oE (eC (.int 0)))) bj')
  (as' (eO' (by' (eUn eD' (eV 1))) (gN 9) (sIf (tE (eOp pIn (eO (av' f__law_led (ac' (eV 0) (ac' (eV 1) (ac' (eV 9) (ac' (eV 4) aV')))))) (eV 2))) (ld' 8 (oE (eOp cI' (eV 9) (eC (.int 1))))) bj'))
  (cd' (av' f__law_least (ac' (eV 6) (ac' (eV 8) aV')))))))))))
def f__law_is_refused : MF := fnM 3 5 ((as' (a9' 3 (oE (eC (.bl false))))
  (as' (ii' 4 0 (gV' (eO (av' f_around (ac' (eV 0) (ac' (eV 1) (ac' (eV 2) aV')))))) (fun y_ => sub exT y_ "SaidError") (fun x_ => (a9' 3 (oE (tG' 4 exI "NoWord" x_)))))
  (cd' (oV 3)))))
def f_law : MF := fnM 1 16 ((as' (a9' 1 (av' f__law_hand (ac' (eV 0) aV')))
  (as' (xp' (gT [2, 3, 4]) (eO (av' f__law_parts (ac' (eV 1) (ac' (eC (.int 4)) (ac' (eC (.int 6)) aV'))))))
  (as' (a9' 5 (ke' "Machine" f_Machine___init__ (ac' (eV 2) (ac' (eV 3) (ac' (eV 4) aV')))))
  (as' (eO' (by' (eC (.int 5))) (gN 6) (as' (a9' 7 (av' f__law_word (ac' (eV 1) (ac' (eV 2) (ac' (eO (av' f__law_draw (ac' (eV 1) (ac' (eC (.int 13)) aV')))) aV')))))
  (as' (a9' 8 (av' f__law_word (ac' (eV 1) (ac' (eV 2) (ac' (eO (av' f__law_draw (ac' (eV 1) (ac' (eC (.int 13)) aV')))) aV')))))
  (as' (sIf (tE (eOp pEq (eV 6) (eC (.int 4)))) (as' (a9' 7 (oE (eOp iU' (eSl (eV 7) pNo (pSo (eC (.int 4)))) (eO (av' f__law_draw (ac' (eV 1) (ac' (eC (.int 20)) aV')))))))
  (a9' 8 (oE (eOp iU' (eSl (eV 8) pNo (pSo (eC (.int 4)))) (eO (av' f__law_draw (ac' (eV 1) (ac' (eC (.int 20)) aV')))))))) bj')
  (as' (xp' (gT [9, 10]) (eO (av' f__law_due (ac' (eV 2) (ac' (eV 3) (ac' (eV 4) (ac' (eV 7) (ac' (eV 8) aV'))))))))
  (as' (a9' 11 (av' f_around (ac' (eV 5) (ac' (eV 7) (ac' (eV 8) aV')))))
  (as' (sIf (gw' (tE (eO (av' f__law_is_machine (ac' (eV 11) (ac' (eV 2) (ac' (eV 9) (ac' (eV 10) aV')))))))) (cd' (oE (eC (.bl false)))) bj')
  (as' (a9' 12 (av' f__law_word (ac' (eV 1) (ac' (eV 2) (ac' (eO (av' f__law_draw (ac' (eV 1) (ac' (eC (.int 13)) aV')))) aV')))))
  (as' (sIf (tE (eOp pNe (eO (av' f_says (ac' (eV 11) (ac' (eV 12) aV')))) (eO (av' f_says (ac' (eV 5) (ac' (eOp cI' (eOp cI' (eV 7) (eV 12)) (eV 8)) aV')))))) (cd' (oE (eC (.bl false)))) bj')
  (as' (a9' 13 (av' f__law_word (ac' (eV 1) (ac' (eV 2) (ac' (eO (av' f__law_draw (ac' (eV 1) (ac' (eC (.int 5)) aV')))) aV')))))
  (as' (sIf (gw' (tE (xw' [("Machine", "Machine"), ("RawMachine", "Machine"), ("RawMachine", "RawMachine")] f_Machine___eq__ (eO (av' f_around (ac' (eV 11) (ac' (eV 13) (ac' (eV 12) aV'))))) (eO (av' f_around (ac' (eV 5) (ac' (eOp cI' (eV 7) (eV 13)) (ac' (eOp cI' (eV 12) (eV 8)) aV')))))))) (cd' (oE (eC (.bl false)))) bj')
  (as' (a9' 14 (av' f__law_no_word (ac' (eV 1) (ac' (eV 2) (ac' (eV 12) aV')))))
  (as' (a9' 15 (oE (eUn v2' (eV 14))))
  (as' (sIf (tOr (gw' (tE (eO (av' f__law_is_refused (ac' (eV 5) (ac' (eV 14) (ac' (eV 8) aV'))))))) (gw' (tE (eO (av' f__law_is_refused (ac' (eV 5) (ac' (eV 7) (ac' (eV 14) aV')))))))) (cd' (oE (eC (.bl false)))) bj')
  (sIf (tOr (gw' (tE (eO (av' f__law_is_refused (ac' (eV 5) (ac' (eV 14) (ac' (eV 14) aV'))))))) (tE (eOp Av' (eUn v2' (eV 14)) (eV 15)))) (cd' (oE (eC (.bl false)))) bj')))))))))))))))
  (cd' (av' f__law_is_machine (ac' (eV 5) (ac' (eV 2) (ac' (eV 3) (ac' (eV 4) aV')))))))))))
end M
namespace S
open PySem PySem.Spec PyProof.Rows L2
def top (i : Nat) : Stmt := PySem.Challenge.pw_saidacross_k83_words_around.main.body.getD i (.Pass ⟨0, 0, 0, 0⟩)
abbrev be' : Stmt := top 6
abbrev la' : List Str := ["thing"]
theorem iN' : FnScope la' ["thing"] (defScope be') := (by walk_at "3")
def e8' : He.DefD := ⟨("is_integer", none), "is_integer", "is_integer", defArgs be', defBody be', defScope be', [], []⟩
abbrev aR' : Stmt := top 7
abbrev h7' : List Str := ["thing", "signs", "sign"]
theorem du' : FnScope h7' ["thing", "signs"] (defScope aR') := (by walk_at "3")
def dH' : He.DefD := ⟨("is_string_of", none), "is_string_of", "is_string_of", defArgs aR', defBody aR', defScope aR', [], []⟩
abbrev aS' : Stmt := top 8
abbrev h8' : List Str := ["thing", "one", "other"]
theorem cE' : FnScope h8' ["thing"] (defScope aS') := (by walk_at "3")
def dI' : He.DefD := ⟨("is_ascending", none), "is_ascending", "is_ascending", defArgs aS', defBody aS', defScope aS', [], []⟩
abbrev bp' : Stmt := top 9
abbrev mh' : List Str := ["thing", "signs"]
theorem j3' : FnScope mh' ["thing", "signs"] (defScope bp') := (by walk_at "3")
def gb' : He.DefD := ⟨("is_choice", none), "is_choice", "is_choice", defArgs bp', defBody bp', defScope bp', [], []⟩
abbrev bT' : Stmt := top 10
abbrev sj' : List Str := ["machine", "thing"]
theorem ox' : FnScope sj' ["machine", "thing"] (defScope bT') := (by walk_at "3")
def iy' : He.DefD := ⟨("is_word", none), "is_word", "is_word", defArgs bT', defBody bT', defScope bT', [], []⟩
abbrev bf' : Stmt := top 11
abbrev lb' : List Str := ["machine", "thing"]
theorem iO' : FnScope lb' ["machine", "thing"] (defScope bf') := (by walk_at "3")
def e9' : He.DefD := ⟨("check_word", none), "check_word", "check_word", defArgs bf', defBody bf', defScope bf', [], []⟩
abbrev bg' : Stmt := top 13
abbrev lc' : List Str := ["thing", "many", "state"]
theorem eK' : FnScope lc' ["thing", "many"] (defScope bg') := (by walk_at "3")
def fa' : He.DefD := ⟨("are_states", none), "are_states", "are_states", defArgs bg', defBody bg', defScope bg', [], []⟩
abbrev bC' : Stmt := top 14
abbrev o1' : List Str := ["thing", "letters", "row"]
theorem gS' : FnScope o1' ["thing", "letters"] (defScope bC') := (by walk_at "3")
def hB' : He.DefD := ⟨("is_table", none), "is_table", "is_table", defArgs bC', defBody bC', defScope bC', [], []⟩
abbrev ar' : Stmt := inClass (top 15) 0
abbrev fi' : List Str := ["self", "letters", "table", "accepts"]
theorem el' : FnScope fi' ["self", "letters", "table", "accepts"] (defScope ar') := (by walk_at "3")
def cH' : He.DefD := ⟨("Machine", some "__init__"), "__init__", "Machine.__init__", defArgs ar', defBody ar', defScope ar', [], []⟩
abbrev aT' : Stmt := inClass (top 15) 1
abbrev h9' : List Str := ["self", "letters", "table", "accepts"]
theorem gT' : FnScope h9' ["self", "letters", "table", "accepts"] (defScope aT') := (by walk_at "3")
def dM' : He.DefD := ⟨("Machine", some "keep"), "keep", "Machine.keep", defArgs aT', defBody aT', defScope aT', [], []⟩
abbrev ay' : Stmt := inClass (top 15) 2
abbrev fX' : List Str := ["self"]
theorem eM' : FnScope fX' ["self"] (defScope ay') := (by walk_at "3")
def cR' : He.DefD := ⟨("Machine", some "letters"), "letters", "Machine.letters", defArgs ay', defBody ay', defScope ay', [], []⟩
abbrev aO' : Stmt := inClass (top 15) 3
abbrev hQ' : List Str := ["self"]
theorem gj' : FnScope hQ' ["self"] (defScope aO') := (by walk_at "3")
def dm' : He.DefD := ⟨("Machine", some "table"), "table", "Machine.table", defArgs aO', defBody aO', defScope aO', [], []⟩
abbrev az' : Stmt := inClass (top 15) 4
abbrev fY' : List Str := ["self"]
theorem eN' : FnScope fY' ["self"] (defScope az') := (by walk_at "3")
def cS' : He.DefD := ⟨("Machine", some "accepts"), "accepts", "Machine.accepts", defArgs az', defBody az', defScope az', [], []⟩
abbrev aP' : Stmt := inClass (top 15) 5
abbrev hR' : List Str := ["self"]
theorem gk' : FnScope hR' ["self"] (defScope aP') := (by walk_at "3")
def dn' : He.DefD := ⟨("Machine", some "parts"), "parts", "Machine.parts", defArgs aP', defBody aP', defScope aP', [], []⟩
abbrev aE' : Stmt := inClass (top 15) 6
abbrev gq' : List Str := ["self", "other"]
theorem fy' : FnScope gq' ["self", "other"] (defScope aE') := (by walk_at "3")
def c1' : He.DefD := ⟨("Machine", some "__eq__"), "__eq__", "Machine.__eq__", defArgs aE', defBody aE', defScope aE', [], []⟩
abbrev ak' : Stmt := inClass (top 16) 0
abbrev dQ' : List Str := ["self", "letters", "table", "accepts"]
theorem do' : FnScope dQ' ["self", "letters", "table", "accepts"] (defScope ak') := (by walk_at "3")
def cf' : He.DefD := ⟨("RawMachine", some "__init__"), "__init__", "RawMachine.__init__", defArgs ak', defBody ak', defScope ak', [], []⟩
abbrev hU' : Stmt := top 17
abbrev CJ' : List Str := ["machine", "state", "word", "letter"]
theorem qH' : FnScope CJ' ["machine", "state", "word"] (defScope hU') := (by walk_at "3")
def uX' : He.DefD := ⟨("led", none), "led", "led", defArgs hU', defBody hU', defScope hU', [], []⟩
abbrev d7' : Stmt := top 18
abbrev Ai' : List Str := ["machine", "word"]
theorem vM' : FnScope Ai' ["machine", "word"] (defScope d7') := (by walk_at "3")
def rV' : He.DefD := ⟨("says", none), "says", "says", defArgs d7', defBody d7', defScope d7', [], []⟩
abbrev bS' : Stmt := top 19
abbrev si' : List Str := ["machine", "found", "known", "at", "state"]
theorem cB' : FnScope si' ["machine"] (defScope bS') := (by walk_at "3")
def ix' : He.DefD := ⟨("reached", none), "reached", "reached", defArgs bS', defBody bS', defScope bS', [], []⟩
abbrev bB' : Stmt := top 20
abbrev o0' : List Str := ["keys", "numbers", "found", "item", "key"]
theorem cD' : FnScope o0' ["keys"] (defScope bB') := (by walk_at "3")
def hA' : He.DefD := ⟨("numbered", none), "numbered", "numbered", defArgs bB', defBody bB', defScope bB', [], []⟩
abbrev aD' : Stmt := top 21
abbrev cV' : List Str := ["machine", "states", "classes", "many", "keys", "state", "step"]
theorem aB' : FnScope cV' ["machine", "states"] (defScope aD') := (by walk_at "3")
def dJ' : He.DefD := ⟨("alike_states", none), "alike_states", "alike_states", defArgs aD', defBody aD', defScope aD', [], []⟩
abbrev cp' : Stmt := top 22
abbrev mg' : List Str := ["machine", "states", "classes", "firsts", "state", "table", "one", "accepts", "step"]
theorem bV' : FnScope mg' ["machine"] (defScope cp') := (by walk_at "3")
def n9' : He.DefD := ⟨("least", none), "least", "least", defArgs cp', defBody cp', defScope cp', [], []⟩
abbrev bI' : Stmt := top 24
abbrev dZ' : List Str := ["machine", "ahead", "behind", "many", "first", "order", "place", "table", "accepts", "state", "index", "to"]
theorem aZ' : FnScope dZ' ["machine", "ahead", "behind"] (defScope bI') := (by walk_at "3")
def kF' : He.DefD := ⟨("around", none), "around", "around", defArgs bI', defBody bI', defScope bI', [], []⟩
abbrev bi' : Stmt := top 26
abbrev hP' : List Str := ["_law_script", "_law_cells", "_law_cell"]
theorem dv' : FnScope hP' ["_law_script"] (defScope bi') := (by walk_at "3")
def ge' : He.DefD := ⟨("_law_hand", none), "_law_hand", "_law_hand", defArgs bi', defBody bi', defScope bi', [], []⟩
abbrev br' : Stmt := top 27
abbrev mj' : List Str := ["_law_hand_here", "_law_many", "_law_cell", "_law_digit", "_law_number"]
theorem b3' : FnScope mj' ["_law_hand_here", "_law_many"] (defScope br') := (by walk_at "3")
def gf' : He.DefD := ⟨("_law_draw", none), "_law_draw", "_law_draw", defArgs br', defBody br', defScope br', [], []⟩
abbrev aL' : Stmt := top 28
abbrev hO' : List Str := ["_law_hand_here", "_law_things", "_law_rest", "_law_found", "_law_turn"]
theorem bW' : FnScope hO' ["_law_hand_here", "_law_things"] (defScope aL') := (by walk_at "3")
def dl' : He.DefD := ⟨("_law_shuffled", none), "_law_shuffled", "_law_shuffled", defArgs aL', defBody aL', defScope aL', [], []⟩
abbrev a8' : Stmt := top 29
abbrev eA' : List Str := ["_law_hand_here", "_law_kind", "_law_size", "_law_many", "_law_rows_here", "_law_steps", "_law_turns", "_law_state", "_law_row", "_law_letter", "_law_to"]
theorem an' : FnScope eA' ["_law_hand_here", "_law_kind", "_law_size", "_law_many"] (defScope a8') := (by walk_at "3")
def gd' : He.DefD := ⟨("_law_rows", none), "_law_rows", "_law_rows", defArgs a8', defBody a8', defScope a8', [], []⟩
abbrev a0' : Stmt := top 30
abbrev gg' : List Str := ["_law_hand_here", "_law_many", "_law_one", "_law_size", "_law_other", "_law_rows_here", "_law_state", "_law_left", "_law_right", "_law_k"]
theorem aY' : FnScope gg' ["_law_hand_here", "_law_many"] (defScope a0') := (by walk_at "3")
def fc' : He.DefD := ⟨("_law_woven", none), "_law_woven", "_law_woven", defArgs a0', defBody a0', defScope a0', [], []⟩
abbrev a3' : Stmt := top 31
abbrev gh' : List Str := ["_law_hand_here", "_law_most", "_law_states", "_law_kind", "_law_many", "_law_size", "_law_signs", "_law_letters", "_law_table", "_law_accepts", "_law_state"]
theorem aG' : FnScope gh' ["_law_hand_here", "_law_most", "_law_states"] (defScope a3') := (by walk_at "3")
def fd' : He.DefD := ⟨("_law_parts", none), "_law_parts", "_law_parts", defArgs a3', defBody a3', defScope a3', [], []⟩
abbrev aN' : Stmt := top 32
abbrev eb' : List Str := ["_law_table", "_law_accepts", "_law_states", "_law_classes_here", "_law_state", "_law_many", "_law_turn", "_law_numbers", "_law_later", "_law_key", "_law_to"]
theorem aq' : FnScope eb' ["_law_table", "_law_accepts", "_law_states"] (defScope aN') := (by walk_at "3")
def dL' : He.DefD := ⟨("_law_classes", none), "_law_classes", "_law_classes", defArgs aN', defBody aN', defScope aN', [], []⟩
abbrev aU' : Stmt := top 33
abbrev cT' : List Str := ["_law_table", "_law_accepts", "_law_states", "_law_at", "_law_to", "_law_classes_here", "_law_numbers", "_law_order", "_law_state", "_law_rows_here", "_law_k"]
theorem ap' : FnScope cT' ["_law_table", "_law_accepts"] (defScope aU') := (by walk_at "3")
def ff' : He.DefD := ⟨("_law_least", none), "_law_least", "_law_least", defArgs aU', defBody aU', defScope aU', [], []⟩
abbrev bq' : Stmt := top 34
abbrev mi' : List Str := ["_law_hand_here", "_law_letters", "_law_many", "_law_word_here", "_law_turn"]
theorem cL' : FnScope mi' ["_law_hand_here", "_law_letters", "_law_many"] (defScope bq') := (by walk_at "3")
def gc' : He.DefD := ⟨("_law_word", none), "_law_word", "_law_word", defArgs bq', defBody bq', defScope bq', [], []⟩
abbrev aM' : Stmt := top 35
abbrev ea' : List Str := ["_law_hand_here", "_law_letters", "_law_word_here", "_law_signs", "_law_at", "_law_way", "_law_sign"]
theorem bJ' : FnScope ea' ["_law_hand_here", "_law_letters", "_law_word_here"] (defScope aM') := (by walk_at "3")
def dK' : He.DefD := ⟨("_law_no_word", none), "_law_no_word", "_law_no_word", defArgs aM', defBody aM', defScope aM', [], []⟩
abbrev ax' : Stmt := top 36
abbrev fV' : List Str := ["_law_found", "_law_letters", "_law_rows_here", "_law_yes"]
theorem eL' : FnScope fV' ["_law_found", "_law_letters", "_law_rows_here", "_law_yes"] (defScope ax') := (by walk_at "3")
def cQ' : He.DefD := ⟨("_law_is_machine", none), "_law_is_machine", "_law_is_machine", defArgs ax', defBody ax', defScope ax', [], []⟩
abbrev bD' : Stmt := top 37
abbrev o2' : List Str := ["_law_letters", "_law_table", "_law_state", "_law_word_here", "_law_letter"]
theorem ek' : FnScope o2' ["_law_letters", "_law_table", "_law_state", "_law_word_here"] (defScope bD') := (by walk_at "3")
def hC' : He.DefD := ⟨("_law_led", none), "_law_led", "_law_led", defArgs bD', defBody bD', defScope bD', [], []⟩
abbrev bm' : Stmt := top 38
abbrev fW' : List Str := ["_law_letters", "_law_table", "_law_accepts", "_law_ahead", "_law_behind", "_law_first", "_law_rows_here", "_law_row", "_law_yes", "_law_state", "_law_to"]
theorem bo' : FnScope fW' ["_law_letters", "_law_table", "_law_accepts", "_law_ahead", "_law_behind"] (defScope bm') := (by walk_at "3")
def hD' : He.DefD := ⟨("_law_due", none), "_law_due", "_law_due", defArgs bm', defBody bm', defScope bm', [], []⟩
abbrev aw' : Stmt := top 39
abbrev fU' : List Str := ["_law_machine", "_law_ahead", "_law_behind", "_law_refused", "e"]
theorem bH' : FnScope fU' ["_law_machine", "_law_ahead", "_law_behind"] (defScope aw') := (by walk_at "3")
def cP' : He.DefD := ⟨("_law_is_refused", none), "_law_is_refused", "_law_is_refused", defArgs aw', defBody aw', defScope aw', [], []⟩
abbrev hV' : Stmt := top 40
abbrev CK' : List Str := ["_law_script", "_law_hand_here", "_law_letters", "_law_table", "_law_accepts", "_law_machine", "_law_turn", "_law_ahead", "_law_behind", "_law_rows_here", "_law_yes", "_law_found", "_law_word_here", "_law_inner", "_law_thing", "_law_shown"]
theorem cc' : FnScope CK' ["_law_script"] (defScope hV') := (by walk_at "3")
def uY' : He.DefD := ⟨("law", none), "law", "law", defArgs hV', defBody hV', defScope hV', [], []⟩
def fns : List He.DefD := [e8', dH', dI', gb', iy', e9', fa', hB', cH', dM', cR', dm', cS', dn', c1', cf', uX', rV', ix', hA', dJ', n9', kF', ge', gf', dl', gd', fc', fd', dL', ff', gc', dK', cQ', hC', hD', cP', uY']
def tbs : List He.Tab := []
def fas : List He.Fa := [.glo "is_integer", .glo "is_string_of", .glo "is_ascending", .glo "is_choice", .glo "is_word", .glo "check_word", .glo "are_states", .glo "is_table", .glo "led", .glo "says", .glo "reached", .glo "numbered", .glo "alike_states", .glo "least", .glo "around", .glo "_law_hand", .glo "_law_draw", .glo "_law_shuffled", .glo "_law_rows", .glo "_law_woven", .glo "_law_parts", .glo "_law_classes", .glo "_law_least", .glo "_law_word", .glo "_law_no_word", .glo "_law_is_machine", .glo "_law_led", .glo "_law_due", .glo "_law_is_refused", .glo "law", .glo "SaidError", .exc "SaidError", .glo "NoWord", .exc "NoWord", .glo "NoMachine", .glo "Machine", .glo "RawMachine", .str "SMALL" "abcdefghijklmnopqrstuvwxyz", .free "zip", .free "len", .free "tuple", .free "list", .free "range", .free "isinstance", .free "int", .free "str", .free "max", .free "sorted", .free "abs", .free "repr", .free "bool", .free "enumerate", .free "min", .cls "Machine", .noat "Machine" "kept_letters", .noat "Machine" "kept_table", .noat "Machine" "kept_accepts", .noat "Machine" "kept_least", .noat "Machine" "kept_field", .noat "Machine" "kept_lots", .noat "Machine" "kept_more", .mkr "Machine", .cls "RawMachine", .noat "RawMachine" "kept_letters", .noat "RawMachine" "kept_table", .noat "RawMachine" "kept_accepts", .noat "RawMachine" "kept_least", .noat "RawMachine" "kept_field", .noat "RawMachine" "kept_lots", .noat "RawMachine" "kept_more", .mkr "RawMachine", .meth "Machine" "keep", .meth "RawMachine" "keep", .meth "Machine" "letters", .meth "RawMachine" "letters", .meth "Machine" "table", .meth "RawMachine" "table", .meth "Machine" "accepts", .meth "RawMachine" "accepts", .meth "Machine" "parts", .meth "RawMachine" "parts"]
def exs : List (PySem.W.Frag -> Bool) := [fun K => (M.exT.all fun e => decide (PySem.W.exmOne K (.ref (He.ga K e.1)) (.ref (He.ga K e.2.1)) = some e.2.2)), fun K => (decide (He.ma K (He.ga K "RawMachine") "keep" = He.ma K (He.ga K "Machine") "keep")), fun K => (decide (He.ma K (He.ga K "RawMachine") "letters" = He.ma K (He.ga K "Machine") "letters")), fun K => (decide (He.ma K (He.ga K "RawMachine") "table" = He.ma K (He.ga K "Machine") "table")), fun K => (decide (He.ma K (He.ga K "RawMachine") "accepts" = He.ma K (He.ga K "Machine") "accepts")), fun K => (decide (He.ma K (He.ga K "RawMachine") "parts" = He.ma K (He.ga K "Machine") "parts")), fun K => DB' K [("Machine", "Machine"), ("RawMachine", "Machine"), ("RawMachine", "RawMachine")] (He.ma K (He.ga K "Machine") "__eq__"), fun K => C1' K [("Machine", "Machine"), ("RawMachine", "Machine"), ("RawMachine", "RawMachine")] (He.ma K (He.ga K "Machine") "__eq__"), fun K => uQ' K M.exI, fun K => wr' K M.isT "Machine"]
def exK (K : PySem.W.Frag) : Bool := exs.all fun f => f K
end S
set_option maxHeartbeats 0
namespace S
open PySem PySem.Spec PyProof.Rows L2
def yU' : List Str := ["SaidError", "NoWord", "NoMachine", "SMALL", "is_integer", "is_string_of", "is_ascending", "is_choice", "is_word", "check_word", "are_states", "is_table", "Machine", "RawMachine", "led", "says", "reached", "numbered", "alike_states", "least", "around", "_law_hand", "_law_draw", "_law_shuffled"]
def yT' : List Str := ["_law_rows", "_law_woven", "_law_parts", "_law_classes", "_law_least", "_law_word", "_law_no_word", "_law_is_machine", "_law_led", "_law_due", "_law_is_refused"]
def loose : List Str := yU' ++ yT'
abbrev Rw : PySem.W.OpenRow := PySem.W.OpenLaw.row PySem.Challenge.rw_saidacross_k83_words_around
abbrev hk : PySem.W.Hook := He.hookX 4 fas fns tbs [] exK
def ob (s : PySem.W.SharedT) : He.AlX := He.obsX 4 fas fns tbs [] exK (HandSHeadRun.getT s)
theorem By' (s : PySem.W.SharedT) : ob s = hk.obs s.abs := He.obsX_eq (HandSHeadRun.getT_eq s)
theorem yF' {α β γ : Type} {x : Option α} {f : α -> β} {g : α -> γ} {b : β} {c : γ} (h1 : x.map f = some b) (h2 : x.map g = some c) : x.map (fun s => (f s, g s)) = some (b, c) := by
  cases x with
  | none => cases h1
  | some a =>
    obtain rfl := Option.some.inj h1
    obtain rfl := Option.some.inj h2
    rfl
section
open PySem.W HandSHeadRun
theorem Dp' (w : World) (os : OsState) : (endF (stepQ (denQ tabQ) Rw.prog w) 2860 Rw.prog w os).map (fun s => looksF Rw.prog (boot_heap w.params) s.abs) = some true := by kernel_rfl
theorem Do' (w : World) (os : OsState) : (endF (stepQ (denQ tabQ) Rw.prog w) 2860 Rw.prog w os).map (fun s => seenQ (PySem.W.view Rw.prog [40]) loose (importedModules Rw.prog.main.body) (fun s => xlAt (PySem.W.view Rw.prog [40]) [] s && recOk Rw.toRowW.records s) s.abs) = some (openGood (PySem.W.view Rw.prog [40]) loose) := by kernel_rfl
theorem Dn' (w : World) (os : OsState) : (endF (stepQ (denQ tabQ) Rw.prog w) 2860 Rw.prog w os).map (fun s => ob s) = some (hk.val w) := by kernel_rfl
end
theorem run (w : World) : HandSHeadRun.RunEq Rw (PySem.W.view Rw.prog [40]) hk ob 2860 loose w := fun os => yF' (Dp' w os) (yF' (Do' w os) (Dn' w os))
end S
set_option maxHeartbeats 4000000
namespace S
open PySem PySem.Spec PyProof.Rows L2
abbrev St := L2.St
section
variable {X : Cx}
def o5' (z : Str) (n : Nat) : Str := ⟨((List.replicate n z.cps.toList).flatten).toArray⟩
theorem kx' : ∀ (l : List (Array Nat)) (a : Array Nat), l.foldl (· ++ ·) a = (a.toList ++ (l.map Array.toList).flatten).toArray
  | [], a => by simp
  | b :: r, a => by
    rw [List.foldl_cons, kx' r]
    simp
theorem qO' (z : Str) (n : Nat) : (⟨(List.replicate n z.cps).foldl (· ++ ·) #[]⟩ : Str) = o5' z n := by
  unfold o5'
  rw [kx']
  simp
theorem s0' (z : Str) : o5' z 1 = z := by
  obtain ⟨c⟩ := z
  simp [o5']
theorem qN' (z : Str) : o5' z 0 = Str.empty := by
  simp [o5']
  rfl
theorem oA' (z : Str) (h : z.length = 0) (n : Nat) : o5' z n = z := by
  obtain ⟨c⟩ := z
  have e : c.toList = [] := by
    have h1 : c.size = 0 := h
    exact List.eq_nil_of_length_eq_zero (by simpa using h1)
  have e2 : c = #[] := by simpa using congrArg List.toArray e
  subst e2
  simp [o5']
theorem lt' (z : Str) (n : Nat) : (o5' z n).length = n * z.length := by
  show ((List.replicate n z.cps.toList).flatten).toArray.size = _
  rw [List.size_toArray, List.length_flatten]
  simp
  rfl
def uG' : R2 := fun x y H Q => ∃ z i, x = .str z /\ y = .int i /\ i < 2 ^ 62 /\ -(2 ^ 62) <= i /\ z.length * i.toNat <= sizeLine /\ Q (.str (o5' z i.toNat)) H
theorem te' : OpR X (binaryOp .Mult) uG' := by
  intro pins s σ H x y v u Q I rx ry h
  obtain ⟨z, i, rfl, rfl, h1, h2, h3, q⟩ := h
  obtain ⟨t, rfl⟩ := rx
  obtain ⟨t', rfl⟩ := ry
  have h63 : (decide (i < -(2 ^ 63 : Int)) || decide (i >= 2 ^ 63)) = false := by
    rw [decide_eq_false (by omega), decide_eq_false (by omega)]; rfl
  have hsz : (sizeLine : Nat) < 2 ^ 62 := by rw [sizeLine_eq]; decide
  refine PySem.P.mul_str h63 (fun hn hz => ?_) (fun hn hz => ?_) ?_
  . intro hg
    have hpos : 0 < i := by omega
    have e : (i.toNat : Int) = i := by omega
    have h4 : (z.length : Int) * i <= sizeLine := by
      rw [<- e]; exact_mod_cast h3
    have h5 : (2 ^ 63 - 1) / i < (z.length : Int) := hg
    have h6 : (2 ^ 63 - 1 : Int) < z.length * i := by
      have := Int.lt_mul_of_ediv_lt hpos h5
      rw [Int.mul_comm] at this
      first
        | exact this
        | (rw [Int.mul_comm]; exact this)
    omega
  . exact decide_eq_false (by omega)
  . by_cases hn : i < 1
    . rw [if_pos hn]
      have e : i.toNat = 0 := by omega
      rw [e, qN'] at q
      exact ⟨by decide, .str Str.empty, H, I.tok _, ⟨_, rfl⟩, q⟩
    . rw [if_neg hn]
      by_cases hz : (i == 1 || z.length == 0) = true
      . rw [if_pos hz]
        have e : o5' z i.toNat = z := by
          rcases Bool.or_eq_true_iff.mp hz with h | h
          . have h' : i = 1 := eq_of_beq h
            rw [h']; exact s0' z
          . exact oA' z (eq_of_beq h) _
        rw [e] at q
        exact ⟨.str z, H, I, ⟨_, rfl⟩, q⟩
      . rw [if_neg hz, qO']
        exact ⟨by rw [lt', Nat.mul_comm]; omega, .str _, H, I.tok _, ⟨_, rfl⟩, q⟩
def yn' : R2 := fun x y H Q => rI CMul (fun i j => .int (i * j)) x y H Q \/ uG' x y H Q \/ rRep x y H Q
theorem v4' : OpR X (binaryOp .Mult) yn' := op_mul.or (te'.or op_rep)
def yq' (f : List Nat -> List Nat -> Bool) : R2 := fun x y H Q => ∃ i j, x = .str i /\ y = .str j /\ Q (.bl (f i.cps.toList j.cps.toList)) H
def uI' (p : Int -> Int -> Bool) (f : List Nat -> List Nat -> Bool) : R2 := fun x y H Q => rI0 (fun i j => .bl (p i j)) x y H Q \/ yq' f x y H Q
theorem ka' : OpR X (compareOp .Lt) (uI' (fun i j => decide (i < j)) fun a b => decide (a < b)) := op_lt.or (r' := yq' fun a b => decide (a < b)) op_lt_str
theorem nL' : OpR X (compareOp .LtE) (uI' (fun i j => decide (i <= j)) fun a b => !decide (b < a)) := op_le.or (r' := yq' fun a b => !decide (b < a)) op_le_str
theorem rc' : OpR X (compareOp .Gt) (uI' (fun i j => decide (j < i)) fun a b => decide (b < a)) := op_gt.or (r' := yq' fun a b => decide (b < a)) op_gt_str
theorem nM' : OpR X (compareOp .GtE) (uI' (fun i j => decide (j <= i)) fun a b => !decide (a < b)) := op_ge.or (r' := yq' fun a b => !decide (a < b)) op_ge_str
def yw' (K : PySem.W.Frag) : R2 := fun x y H Q => rI0 (fun i j => .int (i + j)) x y H Q \/ (∃ i j, x = .str i /\ y = .str j /\ i.length + j.length <= sizeLine /\ Q (.str (i ++ j)) H) \/ rCat x y H Q \/ rCatA K x y H Q
theorem aH' : OpR X (binaryOp .Add) (yw' X.K) := op_add.or (op_add_str.or (op_cat.or op_catA))
def Bm' (K : PySem.W.Frag) : R2 := fun x y H Q => rEq x y H Q \/ rEqD K x y H Q
theorem b4' (hu : X.A.units + 64 < cLine) : OpR X (compareOp .Eq) (Bm' X.K) := op_eq.or (op_eqD hu)
def Bj' (K : PySem.W.Frag) : R2 := fun x y H Q => rNe x y H Q \/ rNeD K x y H Q
theorem nK' (hu : X.A.units + 64 < cLine) : OpR X (compareOp .NotEq) (Bj' X.K) := op_ne.or (op_neD hu)
def CT' : R2 := fun x y H Q => ∃ (c : Nat) (z : Str), x = .str ⟨#[c]⟩ /\ y = .str z /\ Q (.bl (decide (c ∈ z.cps.toList))) H
def qV' : R2 := fun x y H Q => ∃ (c : Nat) (z : Str), x = .str ⟨#[c]⟩ /\ y = .str z /\ Q (.bl (!decide (c ∈ z.cps.toList))) H
def yv' : R2 := fun x y H Q => ∃ i j, x = .str i /\ y = .str j /\ Q (.bl (!(Builtin.Str.occurrences j i 0 j.length 1).isEmpty)) H
def nD' : R2 := fun x y H Q => ∃ i j, x = .str i /\ y = .str j /\ Q (.bl (!(!(Builtin.Str.occurrences j i 0 j.length 1).isEmpty))) H
def As' (K : PySem.W.Frag) : R2 := fun x y H Q => CT' x y H Q \/ rIn K false x y H Q \/ yv' x y H Q
def iT' (K : PySem.W.Frag) : R2 := fun x y H Q => qV' x y H Q \/ rIn K true x y H Q \/ nD' x y H Q
theorem f5' : OpR X (compareOp .In) (As' X.K) := OpR.or (r := CT') op_in_sign (op_in_seq.or (r' := yv') op_in_str)
theorem g3' : OpR X (compareOp .NotIn) (iT' X.K) := OpR.or (r := qV') op_notIn_sign (op_notIn_seq.or (r' := nD') op_notIn_str)
def CQ' (K : PySem.W.Frag) : V -> Option Int -> Option Int -> Hp -> VK -> Prop := fun x lo hi H Q => rSlL K x lo hi H Q \/ rSlS x lo hi H Q \/ rSlA K x lo hi H Q
theorem vG' : SlR X (CQ' X.K) := sl_list.or (sl_str.or sl_tupA)
def yr' (K : PySem.W.Frag) : List V -> Hp -> VK -> Prop := fun xs H Q => (∃ z, xs = [.str z] /\ z.length <= sizeLine /\ Q (.int z.length) H) \/ (∃ p ys, xs = [.ref p] /\ (SqL K H p ys \/ SqT K H p ys) /\ Q (.int ys.length) H) \/ (∃ a kvs, xs = [V.ref a] /\ Rd H a (.dK kvs) /\ Q (.int kvs.length) H)
theorem r6' : CallR X (.builtin "len") (yr' X.K) := call_len_str.or (call_len_seq.or fun pins s σ H vs us Q I r h => by
  obtain ⟨a, kvs, rfl, e, q⟩ := h
  cases r with
  | cons ra rn =>
    cases rn
    cases (show _ = Value.ref a from ra)
    exact d_len I e fun t s' I' => ⟨.int kvs.length, H, I', ⟨t, rfl⟩, q⟩)
def uH' (K : PySem.W.Frag) : List V -> Hp -> VK -> Prop := fun xs H Q => (∃ p ys, xs = [.ref p] /\ (SqL K H p ys \/ SqT K H p ys) /\ ∀ l, H l = none -> Q (.ref l) (upd H l (.lst ys)))
theorem oU' : CallR X (.type "list") (uH' X.K) := call_list_of
def qT' (K : PySem.W.Frag) : List V -> Hp -> VK -> Prop := fun xs H Q => ∃ p ys, xs = [.ref p] /\ ((SqL K H p ys /\ ∀ l, H l = none -> Q (.ref l) (upd H l (.tup ys))) \/ (SqT K H p ys /\ Q (.ref p) H))
theorem l9' : CallR X (.type "tuple") (qT' X.K) := call_tuple_of
def yu' : List V -> Hp -> VK -> Prop := fun xs H Q => (∃ i, xs = [.int i] /\ Q (.int i) H) \/ ∃ k, xs = [.bl k] /\ Q (.int (if k then 1 else 0)) H
theorem bk' : CallR X (.type "int") yu' := call_int1
def yx' : List V -> Hp -> VK -> Prop := fun xs H Q => ∃ i, xs = [.int i] /\ Q (.int (if i < 0 then -i else i)) H
theorem r7' : CallR X (.builtin "abs") yx' := call_abs
def yp' : List V -> Hp -> VK -> Prop := fun xs H Q => ∃ i j, xs = [.int i, .int j] /\ Q (.int (if j > i then j else i)) H
theorem iC' (hc : X.calm = true) : CallR X (.builtin "max") yp' := call_max2 hc
def yo' : List V -> Hp -> VK -> Prop := fun xs H Q => ∃ i j, xs = [.int i, .int j] /\ Q (.int (if j < i then j else i)) H
theorem fP' (hc : X.calm = true) : CallR X (.builtin "min") yo' := call_min2 hc
def CS' : R2 := fun x y H Q => y = .non /\ Q (.bl (decide (x = .non))) H
theorem v6' : OpR X (compareOp .Is) CS' := op_isN
theorem v1' {x z : Str} {pos : Pos} (hg : Gl X x) (h : ∃ t, X.mg x = some (.str z t)) (hd : (x == ("__debug__" : Str)) = false := by decide) : PE X (.Name x pos) (tC (.str z)) := by
  obtain ⟨t, e⟩ := h
  exact pe_glob hg e ⟨t, rfl⟩ hd
theorem lB' {x : Str} {a : Addr} {pos : Pos} (hg : Gl X x) (h : X.mg x = some (.ref a)) (hd : (x == ("__debug__" : Str)) = false := by decide) : PE X (.Name x pos) (tC (.ref a)) := pe_glob hg h rfl hd
theorem s6' {C : Addr} {bmB : List Value} {B newId initId : String} {x : Str} {p pos : Pos} (F : ExcBaseFacts B newId initId bmB) (q : PySem.W.excIn X.K C bmB newId = true) (gC : X.mg x = some (.ref C))
    (kC : PySem.W.keepIn X.K (.ref C) = true) (r : Raises X (.ref C)) (hg : Gl X x) (hdb : (x == ("__debug__" : Str)) = false := by decide) : PMk X (.Call (.Name x p) [] [] pos) (fun _ H Q => Q (.ref C) none H) := by
  intro pins s σ H Q I h
  refine wpAny_Call_Name_kw (ld_glob I hg gC ?_ hdb)
  refine PySem.W.callWith_K0 I.kIn kC ?_
  show wpAny _ _ (call (.ref C) []) _ _ _
  obtain ⟨bm, N, nm, qn, bs, hdct, sn, sub, ab, col, dd, k0, k1, k2, k3, k5, mN, hC, hN, hni, T⟩ := exc_obj I.kIn q
  refine wpAny_call_exc_subT F T hC hN hni (fun h' e hm => ?_) (Nat.zero_le _)
  exact mk_of I hm r h (I.hok.gone hm.new)
end
section
variable {P : Program} {w : World} {K : PySem.W.Frag} {mg : Str -> Option Value} {base : Heap}
section
variable {X : Cx} {k : Nat} {x : Str} {ps : List Str} {sp : Sp} {p pos : Pos} {e : Expr} {es : List Expr} {t : TA} {W : WX}
end
end
end S
namespace S
open PySem PySem.Spec PyProof.Rows L2
section
variable {K : PySem.W.Frag} {D : Ends} {σ : St} {H H' : Hp} {Q : VK} {t u : TS} {te ta tb tc : TE} {tt tu : TT} {g : TG} {tl : TA} {v x y : V} {i j : Int} {a p : Addr} {xs ys : List V} {z z' : Str} {r : R2}
theorem AW' {n : String} {tv : Value} {b : Bool} (ty : TyX K H x tv) (e : PySem.W.kitOne K tv (.type n) = some b) (h : Q (.bl b) H) : rIsi K [x, .ty n] H Q := ⟨x, .ty n, tv, _, b, rfl, .ty n, ty, e, h⟩
theorem Same.upd {H : Hp} {p : Addr} {o : HO} (h : H p = none) : Same H (upd H p o) := fun b u e => by
  rw [upd_ne (ne_of_none e h)]; exact e
theorem Same.app (s : Same H H') {o : HO} (h : H p = some o) : H' p = some o := s p o h
end
theorem FnOk.to0 {P : Program} {w : World} {K : PySem.W.Frag} {mg : Str -> Option Value} {base : Heap} {k : Nat} {f : Addr} {fd : FuncData} {ps : List Str} {sp : Sp} (F : FnOk P w K mg base (L2.CX P w) k f fd ps sp) :
    FnOk P w K mg base CX0 k f fd ps (fun vs H Q _ => sp vs H Q E0) :=
  ⟨fun vs H Q _ h => F.len vs H Q E0 h, fun A outer s H args us vs Q _ hr he hb hv hs => codeAny_mono (F.run A outer s H args us vs Q E0 hr he hb hv hs) fun r s' hq => by
    cases r with
    | error e =>
      obtain ⟨_, _, _, _, _, _, _, _, _, _, _, _, z⟩ := hq
      exact z.elim
    | ok fl =>
      cases fl with
      | ret u => exact hq
      | next => exact hq
      | brk => exact hq
      | cont => exact hq⟩
end S
namespace S
open PySem PySem.Spec PyProof.Rows L2
section
variable {α : Type} {as : List α} {J : It} {G : Hp -> Prop} {Y : α -> Hp -> V -> Hp -> Prop} {K : PySem.W.Frag} {D : Ends} {σ : St} {H : Hp} {g : TG} {tb : TS} {tt : TT} {te : TE} {a : Addr}
def DO' (J : It) (g : TG) (tb : TS) (D : Ends) (σ : St) (H1 : Hp) : Prop := ∃ W : Nat -> Nat -> St -> Hp -> Prop, (∃ m, W 0 m σ H1) /\ ∀ i m σ H, W i m σ H →
  (J.stop i H /\ D.nx σ H) \/ (J.go i H /\ ∃ N : St -> Hp -> Prop, (∀ σ' H', N σ' H' -> ∃ m', m' < m /\ W (i + 1) m' σ' H') /\ ∀ x H', J.yld i H x H' -> g x σ H' fun σ2 H2 => tb { D with nx := N, ct := N, bk := D.nx } σ2 H2)
theorem dg' {lo : Int} {n : Nat} (Pv : Nat -> St -> Hp -> Prop) (h0 : Pv 0 σ H)
    (hs : ∀ i σ H, i < n -> Pv i σ H -> g (.int (lo + (i : Nat))) σ H fun σ2 H2 => tb { D with nx := Pv (i + 1), ct := Pv (i + 1), bk := D.nx } σ2 H2) (hd : ∀ σ H, Pv n σ H -> D.nx σ H) : DO' (Itr lo n) g tb D σ H := for_range Pv h0 hs hd
end
section
variable {H H' : Hp} {p q : Addr} {o : HO}
theorem seqT {K : PySem.W.Frag} {a : Addr} {xs : List V} (e : Same H H') (h : SqT K H a xs) : SqT K H' a xs := by
  rcases h with (h | ⟨o, h⟩) | h
  . exact .inl (.inl (e _ _ h))
  . exact .inl (.inr ⟨o, e _ _ h⟩)
  . exact .inr h
end
mutual
theorem Dp.same {K : PySem.W.Frag} {H H' : Hp} (s : Same H H') : ∀ {d : PyData} {v : V}, Dp K H v d -> Dp K H' v d
  | _, _, .non => .non
  | _, _, .bl b => .bl b
  | _, _, .int i => .int i
  | _, _, .str x => .str x
  | _, _, .lst h r => .lst (Same.seq s h) (DpAll.same s r)
  | _, _, .tup h r => .tup (seqT s h) (DpAll.same s r)
theorem DpAll.same {K : PySem.W.Frag} {H H' : Hp} (s : Same H H') : ∀ {ds : List PyData} {vs : List V}, DpAll K H vs ds -> DpAll K H' vs ds
  | _, _, .nil => .nil
  | _, _, .cons h r => .cons (Dp.same s h) (DpAll.same s r)
end
end S
namespace S
open PySem PySem.Spec PyProof.Rows L2
def CM' (c a : Addr) : HO := .ext fun h => ∃ (its : List Value) (n : Nat) (i s t k : Int), Vals [.ref c, .int i, .int s, .int t, .int k] its /\ h.get? a = some { cls := .type "list", data := .seq its.toArray n } /\ 0 <= i
def cW' (H : Hp) (a : Addr) : Prop := ∃ (c : Addr) (ns : List Int), H a = some (CM' c a) /\ H c = some (.lst (ns.map V.int))
theorem cW'.same {H H' : Hp} {a : Addr} (s : Same H H') (h : cW' H a) : cW' H' a := by
  obtain ⟨c, ns, h1, h2⟩ := h
  exact ⟨c, ns, s _ _ h1, s _ _ h2⟩
section
variable {P : Program} {w : World} {H H' : Hp} {h h' : Heap} {a c : Addr} {o o' : HO} {fs : List Addr}
end
section
variable {P : Program} {w : World} {K : PySem.W.Frag} {mg : Str -> Option Value} {base : Heap} {k : Nat} {f : Addr} {fd : FuncData} {ps : List Str}
end
end S
namespace S
open PySem PySem.Spec PyProof.Rows L2
def Sh (n : Nat) (d : PyData) : Prop := d.canLay0 = true /\ d.depth <= n
theorem Sh.shaped {n : Nat} {d : PyData} (h : Sh n d) (hn : n <= 64) : SeqAt.shaped d = true := by
  unfold SeqAt.shaped
  rw [h.1, Bool.true_and]
  exact decide_eq_true (Nat.le_trans h.2 hn)
theorem Sh.mono {n m : Nat} {d : PyData} (h : Sh n d) (e : n <= m) : Sh m d := ⟨h.1, Nat.le_trans h.2 e⟩
theorem Sh.int {n : Nat} {i : Int} : Sh n (.int i) := ⟨rfl, Nat.zero_le _⟩
theorem Sh.bool {n : Nat} {b : Bool} : Sh n (.bool b) := ⟨rfl, Nat.zero_le _⟩
theorem Sh.none {n : Nat} : Sh n .none := ⟨rfl, Nat.zero_le _⟩
theorem Sh.str {n : Nat} {z : Str} (h : ∀ c ∈ z.cps.toList, c < 128) : Sh n (.str z) := by
  refine ⟨?_, Nat.zero_le _⟩
  show PyData.strOk z = true
  unfold PyData.strOk
  rw [Array.all_eq_true']
  intro c hc
  have := h c (by simpa using hc)
  simp only [decide_eq_true_eq]
  omega
theorem Sh.all {n : Nat} : ∀ {ds : List PyData}, (∀ d ∈ ds, Sh n d) -> PyData.canLayAll0 ds = true /\ PyData.depthAll ds <= n
  | [], _ => ⟨rfl, Nat.zero_le _⟩
  | d :: r, h => by
    have h1 := h d (by simp)
    have h2 := Sh.all (ds := r) fun x hx => h x (by simp [hx])
    refine ⟨?_, ?_⟩
    . show (d.canLay0 && PyData.canLayAll0 r) = true
      rw [h1.1, h2.1]
      rfl
    . show max d.depth (PyData.depthAll r) <= n
      exact Nat.max_le.mpr ⟨h1.2, h2.2⟩
theorem Sh.list {n : Nat} {ds : List PyData} (h : ∀ d ∈ ds, Sh n d) : Sh (n + 1) (.list ds) := ⟨(Sh.all h).1, Nat.succ_le_succ (Sh.all h).2⟩
theorem Sh.tuple {n : Nat} {ds : List PyData} (h : ∀ d ∈ ds, Sh n d) : Sh (n + 1) (.tuple ds) := ⟨(Sh.all h).1, Nat.succ_le_succ (Sh.all h).2⟩
section
variable {K : PySem.W.Frag} {H H' : Hp} {v : V} {vs : List V} {ds es : List PyData} {p : Addr} {xs : List V}
theorem DpAll.append : ∀ {vs ws : List V} {ds es : List PyData}, DpAll K H vs ds -> DpAll K H ws es -> DpAll K H (vs ++ ws) (ds ++ es)
  | _, _, _, _, .nil, h => h
  | _, _, _, _, .cons a r, h => .cons a (DpAll.append r h)
theorem DpAll.length : ∀ {vs : List V} {ds : List PyData}, DpAll K H vs ds -> vs.length = ds.length
  | _, _, .nil => rfl
  | _, _, .cons _ r => congrArg (· + 1) (DpAll.length r)
theorem DpAll.split : ∀ {a b : List V} {ds : List PyData}, DpAll K H (a ++ b) ds -> ∃ d e, ds = d ++ e /\ DpAll K H a d /\ DpAll K H b e
  | [], b, ds, h => ⟨[], ds, rfl, .nil, h⟩
  | x :: a, b, _, .cons h r => by
    obtain ⟨d, e, rfl, h1, h2⟩ := DpAll.split (a := a) r
    exact ⟨_ :: d, e, rfl, .cons h h1, h2⟩
theorem DpAll.get : ∀ {vs : List V} {ds : List PyData} {i : Nat} {d : PyData}, DpAll K H vs ds -> ds[i]? = some d -> ∃ v, vs[i]? = some v /\ Dp K H v d
  | _, _, _, _, .nil, e => by cases e
  | _, _, 0, _, .cons h _, e => ⟨_, rfl, by rw [<- Option.some.inj e]; exact h⟩
  | _, _, i + 1, _, .cons _ r, e => DpAll.get (i := i) r e
theorem Dp.int_inv {i : Int} (h : Dp K H v (.int i)) : v = .int i := by cases h; rfl
theorem Dp.str_inv {z : Str} (h : Dp K H v (.str z)) : v = .str z := by cases h; rfl
theorem Dp.tup_inv (h : Dp K H v (.tuple ds)) : ∃ p xs, v = .ref p /\ SqT K H p xs /\ DpAll K H xs ds := by
  cases h with
  | tup h1 h2 => exact ⟨_, _, rfl, h1, h2⟩
theorem Dp.lst_inv (h : Dp K H v (.list ds)) : ∃ p xs, v = .ref p /\ SqL K H p xs /\ DpAll K H xs ds := by
  cases h with
  | lst h1 h2 => exact ⟨_, _, rfl, h1, h2⟩
theorem tyT (h : SqT K H p xs) : TyX K H (.ref p) (.type "tuple") := by
  rcases h with (h | ⟨o, h⟩) | ⟨o, its, n, h, c, _⟩
  . exact .base (.tup h)
  . exact .fTuple h
  . exact .kTuple h c
theorem tyL (h : SqL K H p xs) : TyX K H (.ref p) (.type "list") := by
  rcases h with (h | ⟨o, h⟩) | ⟨o, its, n, h, c, _⟩
  . exact .base (.lst h)
  . exact .base (.frz h)
  . exact .kList h c
def tyn : PyData -> String
  | .none => "NoneType" | .bool _ => "bool" | .int _ => "int" | .str _ => "str" | .list _ => "list" | .tuple _ => "tuple" | .dict _ => "dict"
theorem _root_.L2.Dp.ty {d : PyData} (h : Dp K H v d) : TyX K H v (.type (tyn d)) := by
  cases h with
  | non => exact .base .non
  | bl b => exact .base (.bl b)
  | int i => exact .base (.int i)
  | str z => exact .base (.str z)
  | lst h1 _ => exact tyL h1
  | tup h1 _ => exact tyT h1
variable {σ : St} {R : St -> Hp -> Prop}
end
theorem li' {a b : Str} (h : a.cps.toList = b.cps.toList) : a = b := by
  obtain ⟨a⟩ := a
  obtain ⟨b⟩ := b
  have : a = b := by simpa using congrArg List.toArray h
  rw [this]
theorem t4' (a b : Str) : (a ++ b).cps.toList = a.cps.toList ++ b.cps.toList := by
  show (a.cps ++ b.cps).toList = _
  simp
theorem ts' (a : Str) : a.length = a.cps.toList.length := by
  show a.cps.size = _
  simp
section
variable {α β : Type}
def C5' (xs : List α) (lo hi : Option Int) : List α := (xs.drop (HT.sIx xs.length 0 lo)).take (HT.sIx xs.length xs.length hi - HT.sIx xs.length 0 lo)
theorem z5' (z : Str) (lo hi : Option Int) : (cutS z lo hi).cps.toList = C5' z.cps.toList lo hi := by
  unfold cutS C5'
  rw [ts']
end
end S
namespace S
open PySem PySem.Spec PyProof.Rows L2
section
variable {K : PySem.W.Frag} {H : Hp} {J : It} {g : TG} {tt : TT} {te : TE} {vs : List Nat} {σ : St} {Q : VK} {G : Hp -> Prop}
theorem DpAll.at {H : Hp} : ∀ {d r : List V} {x : V} {ds : List PyData}, DpAll K H (d ++ x :: r) ds -> ∃ e, ds[d.length]? = some e /\ Dp K H x e /\ ds.take (d.length + 1) = ds.take d.length ++ [e] := by
  intro d r x ds h
  obtain ⟨a, b, rfl, h1, h2⟩ := DpAll.split h
  cases h2 with
  | cons h3 h4 =>
    have hl := DpAll.length h1
    rename_i e es
    have e1 : (a ++ e :: es)[d.length]? = some e := by rw [List.getElem?_append_right (by omega), hl, Nat.sub_self]; rfl
    refine ⟨_, e1, h3, ?_⟩
    rw [List.take_add_one, e1]
    rfl
theorem _root_.L2.Dp.t2 {v : V} {d e : PyData} (h : Dp K H v (.tuple [d, e])) : ∃ p x y, v = .ref p /\ SqT K H p [x, y] /\ Dp K H x d /\ Dp K H y e := by
  obtain ⟨p, xs, rfl, q, a⟩ := Dp.tup_inv h
  cases a with
  | cons a1 a => cases a with
    | cons a2 a => cases a; exact ⟨p, _, _, rfl, q, a1, a2⟩
theorem _root_.L2.Dp.t3 {v : V} {d e f : PyData} (h : Dp K H v (.tuple [d, e, f])) : ∃ p x y z, v = .ref p /\ SqT K H p [x, y, z] /\ Dp K H x d /\ Dp K H y e /\ Dp K H z f := by
  obtain ⟨p, xs, rfl, q, a⟩ := Dp.tup_inv h
  cases a with
  | cons a1 a => cases a with
    | cons a2 a => cases a with
      | cons a3 a => cases a; exact ⟨p, _, _, _, rfl, q, a1, a2, a3⟩
end
end S
namespace S
open PySem PySem.Spec PyProof.Rows L2
def ItP (xs ys : Nat -> Option V) (n : Nat) : It :=
  ⟨fun i _ => i < n, fun i H v H' => ∃ T x y, v = .ref T /\ H T = none /\ H' = upd H T (.tup [x, y]) /\ xs i = some x /\ ys i = some y, fun i _ => i = n⟩
theorem jY' {P : Program} {w : World} {K : PySem.W.Frag} {tg : Expr} {z : Addr} {fp wr : List Addr} {n : Nat} {P1 P2 : Nat -> Value -> Prop} {St : Nat -> Heap -> Prop} {xs ys : Nat -> Option V}
    (W : ∀ A : Around, A.handled = none -> GoesN P w A tg z fp wr n (fun i h₀ v h => ∃ T x y, v = .ref T /\ h₀.objs.size <= T /\ P1 i x /\ P2 i y /\ h.IsTuple T #[x, y]) St) (hz : z ∈ fp) (sf : ∀ (A : Around) (i : Nat) (s : Shared) (Q : Value -> Shared -> Prop) (E : Value -> Shared -> Prop), St i s.heap -> Q (.ref z) s -> wpAny (model P w) A (pyIter (.ref z)) Q E s)
    (ob : ∀ i h, St i h -> ∀ b ∈ fp, ∃ o, h.get? b = some o /\ ∀ v, o.data ≠ .cell v) (r1 : ∀ i u, i < n -> P1 i u -> ∃ x, xs i = some x /\ RelV x u) (r2 : ∀ i u, i < n -> P2 i u -> ∃ x, ys i = some x /\ RelV x u) :
    Turn P w K tg (ItP xs ys n) fp z St where
  mem := hz
  obj := ob
  keep := fun i h h' st k => (W callerA rfl).frame i h h' st k
  item := by
    intro X hP hw hK hc i pins s σ H E I hf st hg
    subst hP hw hK
    have Wa := W X.A (I.ok.hd hc)
    refine Wa.goes i s _ E hg st fun v h' tk hY st' hk htk => ?_
    obtain ⟨T, u1, u2, rfl, hT, p1, p2, o, ho, hoc, m, hod⟩ := hY
    obtain ⟨x, hx, rx⟩ := r1 i u1 hg p1
    obtain ⟨y, hy, ry⟩ := r2 i u2 hg p2
    have new : ObjOk X.prog X.w (upd H T (.tup [x, y])) h' T (.tup [x, y]) := ⟨by show 2 <= sizeLine; decide, [u1, u2], .cons rx (.cons ry .nil), ⟨_, ho, hoc, _, hod⟩⟩
    have I1 : Inv X pins σ (upd H T (.tup [x, y])) { s with heap := h', toks := tk } :=
      I.turnedNew (t' := tk) (ch := fp) (fun b o hb q => hk b o (fun z => hb (Wa.sub b z)) q) hf hT new
    refine ⟨.ref T, _, I1, rfl, ⟨T, x, y, rfl, I.hok.fresh hT, rfl, hx, hy⟩, st', fun b hb => ?_⟩
    obtain ⟨ob1, hob, _⟩ := ob i s.heap st b hb
    rw [upd_ne (Nat.ne_of_lt (Nat.lt_of_lt_of_le (Heap.lt_size hob) hT))]
    exact (hf b hb).1
  done := by
    intro X hP hw hK hc i pins s σ H E I hf st hg
    subst hP hw hK
    have Wa := W X.A (I.ok.hd hc)
    have hg' : i = n := hg
    subst hg'
    exact Wa.stops s _ E st fun h' tk hk htk => I.turnedL (t' := tk) (ch := fp) (fun b o hb q => hk b o (fun z => hb (Wa.sub b z)) q) hf
  self := sf
def chS (z : Str) (i : Nat) : Option V := (z.cps.toList[i]?).map fun c => .str ⟨#[c]⟩
theorem r4' {z : Str} {i : Nat} {u : Value} (h : ∃ c t, z.cps[i]? = some c /\ u = .str ⟨#[c]⟩ t) : ∃ x, chS z i = some x /\ RelV x u := by
  obtain ⟨c, t, hc, rfl⟩ := h
  refine ⟨.str ⟨#[c]⟩, ?_, ⟨t, rfl⟩⟩
  unfold chS
  rw [show z.cps.toList[i]? = some c by rw [<- hc]; simp]
  rfl
def za' (ta : TA) : TI := fun σ H R => ta σ H fun vs H1 => ∃ x y : Str, vs = [.str x, .str y] /\ R (ItP (chS x) (chS y) (min x.cps.size y.cps.size)) H1
theorem vZ' {X : Cx} {e e2 : Expr} {ta : TA} {p pos tpos : Pos} {elts : List Expr} {kk} (hg : Gl X "zip") (hm : X.mg "zip" = none) (ha : PA X [e, e2] ta)
    (hs : starEach [e, e2] X.env = (false, eval e X.env) :: starEach [e2] X.env := by rfl) (hpl : (backTo pos (starEach [e2] X.env)).any (·.1) = false := by rfl) :
    PI X (.Tuple elts kk tpos) (.Call (.Name "zip" p) [e, e2] [] pos) (za' ta) := by
  refine ⟨fun pins s σ H R I h => ?_⟩
  refine Call_ (ld_blt I hg hm PyProof.Rows.boot_zip (PyProof.Rows.callWith_type1 (thn (ha.run pos pins s σ H _ I h) fun us s1 ⟨vs, H1, I1, r1, q1⟩ => ?_) hs hpl))
  obtain ⟨x, y, ex, q⟩ := q1
  subst ex
  cases r1 with
  | cons r rr =>
    cases rr with
    | cons r' rr =>
      cases rr
      obtain ⟨t1, rfl⟩ := r
      obtain ⟨t2, rfl⟩ := r'
      refine zip_begins2 (begins_text x _) (begins_text y _) True.intro True.intro fun h' hz hTI hTO h1 h2 hsz hk => wpAny_pyIter_zip hz ?_
      have I2 : Inv X pins σ H1 { s1 with heap := h' } := I1.kept (t' := s1.toks) hk
      have S2 : ZipSep2 (s1.heap.objs.size + 4) (s1.heap.objs.size + 2) (s1.heap.objs.size + 3) s1.heap.objs.size (s1.heap.objs.size + 1) [s1.heap.objs.size] [s1.heap.objs.size + 1] := by
        constructor <;> simp
      refine ⟨s1.heap.objs.size + 4, (s1.heap.objs.size + 4) :: (s1.heap.objs.size + 2) :: (s1.heap.objs.size + 3) :: ([s1.heap.objs.size] ++ [s1.heap.objs.size + 1]), _, _, H1, rfl, I2,
        jY' (fun A hA => GoesN.zip2 S2 (Draws.text (A := A.in1) hA _ x _) (Draws.text (A := A.in1) hA _ y _)) (by simp) (fun A i s Q E st h => wpAny_pyIter_zip st.1 h) (fun i h st b hb => ?_) (fun i u _ hu => r4' hu) (fun i u _ hu => r4' hu), ⟨hz, hTI, ⟨_, _, hTO⟩, ⟨_, h1, rfl, rfl⟩, ⟨_, h2, rfl, rfl⟩⟩, fun c hcm => ?_, q⟩
      . obtain ⟨hz, hTI, ⟨a1, a2, hTO⟩, ⟨o1, e1, _, d1⟩, ⟨o2, e2, _, d2⟩⟩ := st
        have e' : b = s1.heap.objs.size + 4 \/ b = s1.heap.objs.size + 2 \/ b = s1.heap.objs.size + 3 \/ b = s1.heap.objs.size \/ b = s1.heap.objs.size + 1 := by simpa using hb
        rcases e' with z | z | z | z | z
        . rw [z]; exact ⟨_, hz, fun v q => nomatch q⟩
        . rw [z]; exact ⟨_, hTI, fun v q => nomatch q⟩
        . rw [z]; exact ⟨_, hTO, fun v q => nomatch q⟩
        . rw [z]; exact ⟨o1, e1, fun v q => by rw [d1] at q; cases q⟩
        . rw [z]; exact ⟨o2, e2, fun v q => by rw [d2] at q; cases q⟩
      . have e' : c = s1.heap.objs.size + 4 \/ c = s1.heap.objs.size + 2 \/ c = s1.heap.objs.size + 3 \/ c = s1.heap.objs.size \/ c = s1.heap.objs.size + 1 := by simpa using hcm
        have hle : s1.heap.objs.size <= c := by
          rcases e' with z | z | z | z | z
          . rw [z]; exact Nat.le_add_right _ _
          . rw [z]; exact Nat.le_add_right _ _
          . rw [z]; exact Nat.le_add_right _ _
          . rw [z]; exact Nat.le_refl _
          . rw [z]; exact Nat.le_add_right _ _
        exact I1.fpOk hle (I1.hok.fresh hle)
end S
namespace S
open PySem PySem.Spec PyProof.Rows L2
section
variable {X : Cx} {K : PySem.W.Frag} {to te : TE} {o e : Expr} {H : Hp} {Q : VK}
def qY' : V -> List V -> Hp -> VK -> Prop := fun x xs H Q => ∃ a b i rest, x = .str a /\ xs = [.str b] /\ Builtin.Str.occurrences a b 0 a.length 1 = i :: rest /\ Q (.int (i : Nat)) H
theorem rm' : MtR X "str.index" qY' := by
  intro pins s σ H x xs v us Q I rx rs h
  obtain ⟨a, b, i, rest, rfl, rfl, ho, h⟩ := h
  obtain ⟨t, rfl⟩ := rx
  cases rs with
  | cons r1 rs =>
    cases rs
    obtain ⟨u, rfl⟩ := r1
    exact PySem.call_gives F.slot_str_index (typeIs_str _ _ _) F.entry_str_index (F.args_str_index_2 _ _) (gives_str_index a b t u i rest ho) ⟨.int (i : Nat), H, I.tok (s.toks + 1), ⟨_, rfl⟩, h⟩
def yt' (K : PySem.W.Frag) : V -> List V -> Hp -> VK -> Prop := fun x xs H Q => ∃ a p, ∃ ys : List Str, x = .str a /\ xs = [.ref p] /\ (SqL K H p (ys.map V.str) \/ SqT K H p (ys.map V.str)) ∧
    (ys.map (·.length)).sum + ys.length * a.length <= 16777216 /\ Q (.str (Txt.join a ys)) H
def chv (c : Nat) : V := .str ⟨#[c]⟩
end
end S
namespace S
open PySem PySem.Spec PyProof.Rows L2
def zc' (ta : TA) : TI := fun σ H R => ta σ H fun vs H1 => ∃ x : Str, vs = [.str x] /\ R (ItP (fun i => some (.int (i : Nat))) (chS x) x.cps.size) H1
theorem s8' {X : Cx} {e : Expr} {ta : TA} {p pos tpos : Pos} {elts : List Expr} {kk} (hg : Gl X "enumerate") (hm : X.mg "enumerate" = none) (ha : PA X [e] ta) (hs : starEach [e] X.env = [(false, eval e X.env)] := by rfl) :
    PI X (.Tuple elts kk tpos) (.Call (.Name "enumerate" p) [e] [] pos) (zc' ta) := by
  refine ⟨fun pins s σ H R I h => ?_⟩
  refine Call_ (ld_blt I hg hm boot_enumerate (PyProof.Rows.callWith_type1 (thn (ha.run pos pins s σ H _ I h) fun us s1 ⟨vs, H1, I1, r1, q1⟩ => ?_) hs rfl))
  obtain ⟨x, ex, q⟩ := q1
  subst ex
  cases r1 with
  | cons r rr =>
    cases rr
    obtain ⟨t, rfl⟩ := r
    refine call_enumerate_str fun h' he hit hsz hk => wpAny_pyIter_enum he ?_
    have I2 : Inv X pins σ H1 { s1 with heap := h' } := I1.kept (t' := s1.toks) hk
    refine ⟨s1.heap.objs.size + 1, [s1.heap.objs.size + 1, s1.heap.objs.size], fun i h => (∃ old, IsEnum h (s1.heap.objs.size + 1) s1.heap.objs.size ((0 : Int) + (i : Nat)) old) /\ h.IsStrIter s1.heap.objs.size (strIterType x) x t i, _, H1, rfl, I2,
      jY' (P1 := fun i u => ∃ t, u = .int ((0 : Int) + (i : Nat)) t) (P2 := fun i v => ∃ c u, x.cps[i]? = some c /\ v = .str ⟨#[c]⟩ u) (wr := [s1.heap.objs.size + 1, s1.heap.objs.size])
        (fun A hA => (GoesN.enumFrom 0 (Draws.text (A := A.in1) hA s1.heap.objs.size x t) (s1.heap.objs.size + 1) (Nat.succ_ne_self _) (by simp) (by simp)).mono fun i h₀ v h _ ⟨T, t, y, ev, hn, hy, hT⟩ => ⟨T, _, y, ev, hn, ⟨t, rfl⟩, hy, hT⟩)
        (by simp) (fun A i s Q E st h => let ⟨⟨_, he⟩, _⟩ := st; wpAny_pyIter_enum he h) (fun i h st b hb => ?_) (fun i u _ hu => ?_) (fun i u _ hu => r4' hu), ⟨⟨_, he⟩, hit⟩, fun c hcm => ?_, q⟩
    . obtain ⟨⟨old, he⟩, ⟨o1, e1, _, d1⟩⟩ := st
      have e' : b = s1.heap.objs.size + 1 \/ b = s1.heap.objs.size := by simpa using hb
      rcases e' with z | z
      . rw [z]; exact ⟨_, he, fun v q => nomatch q⟩
      . rw [z]; exact ⟨o1, e1, fun v q => by rw [d1] at q; cases q⟩
    . obtain ⟨t, rfl⟩ := hu
      exact ⟨_, rfl, ⟨t, by rw [Int.zero_add]⟩⟩
    . have e' : c = s1.heap.objs.size + 1 \/ c = s1.heap.objs.size := by simpa using hcm
      have hle : s1.heap.objs.size <= c := by
        rcases e' with z | z
        . rw [z]; exact Nat.le_add_right _ _
        . rw [z]; exact Nat.le_refl _
      exact I1.fpOk hle (I1.hok.fresh hle)
end S
namespace S
open PySem PySem.Spec PyProof.Rows L2
theorem ft' : ∀ (vs : List Value) (l : List Nat), vs.length = l.length -> (∀ (j : Nat) (v : Value), vs[j]? = some v -> ∃ c u, l[j]? = some c /\ v = .str ⟨#[c]⟩ u) -> StrsAre vs (l.map fun c => ⟨#[c]⟩)
  | [], [], _, _ => .nil
  | [], _ :: _, h, _ => by simp at h
  | _ :: _, [], h, _ => by simp at h
  | v :: vs, c :: l, h, hh => by
    obtain ⟨d, u, h1, rfl⟩ := hh 0 v rfl
    cases h1
    exact .cons _ _ (ft' vs l (by simpa using h) fun j w hw => by
      have := hh (j + 1) w (by simpa using hw)
      simpa using this)
theorem ln' {prog : Program} {w : World} {A : Around} {E : Value -> Shared -> Prop} {s : Shared} {x : Str} {t : Tok} {Q : Value -> Shared -> Prop} (hh : A.handled = none) (h64 : x.cps.size < 64)
    (h : ∀ (h' h'' : Heap) (tk : Nat) (out : List Value) (ss : List Str), (∀ b o, s.heap.get? b = some o -> h'.get? b = some o) -> (∀ b o, h'.get? b = some o -> h''.get? b = some o) -> (∃ e, h''.get? h'.objs.size = some (seqObj "list" out.toArray e)) →
      StrsAre out ss -> ss.Perm (x.cps.toList.map fun c => ⟨#[c]⟩) -> sortedS ss = true -> Q (.ref h'.objs.size) { s with heap := h'', toks := tk }) :
    wpAny (model prog w) A (call (.builtin "sorted") [.str x t]) Q E s := by
  refine Calls.call_function_entry kind_sorted plain_sorted entry_sorted (args_sorted1 _) ?_
  unfold Builtin.«sorted»
  refine wpAny_bind (m := checkCount "sorted" 1 1 _) (wpAny_pure ?_)
  refine wpAny_bind (m := collect (.str x t)) (wpAny_collect_str (A := A.in1) hh x t (fun s' acc hk hg hd ho hacc => ?_) (by rw [sizeLine_eq]; omega))
  obtain ⟨hp, g, d, tk, os⟩ := s
  obtain ⟨hp', g', d', tk', os'⟩ := s'
  obtain rfl : g' = g := hg
  obtain rfl : d' = d := hd
  obtain rfl : os' = os := ho
  have hS : StrsAre acc.toList (x.cps.toList.map fun c => ⟨#[c]⟩) := by
    refine ft' _ _ (by rw [Array.length_toList, Array.length_toList]; exact hacc.1) fun j v hv => ?_
    obtain ⟨c, u, h1, h2⟩ := hacc.2 j v (by simpa using hv)
    exact ⟨c, u, by rw [<- h1]; simp, h2⟩
  have hl : acc.toList.length < 64 := by rw [Array.length_toList, hacc.1]; exact h64
  refine wpAny_bind (wpAny_newList ?_)
  have hoL : (hp'.push (seqObj "list" acc.toList.toArray 0)).get? hp'.objs.size = some (seqObj "list" acc.toList.toArray 0) := Heap.get?_push_size _ rfl
  refine wpAny_bind (wpAny_holding (wpAny_call_entry slot_list_sort ⟨_, hoL, rfl⟩ entry_list_sort (list_sort_treeK strKind_oneLt hoL hS.keysOf (fun v₁ v₂ rest e => keyKind_strs (by rw [<- e]; exact hS)) hl fun st' a1 a2 => ⟨_, rfl, ?_⟩) (args_list_sort _)))
  obtain ⟨ss', h1, h2, h3⟩ := sorted_out_str hS a1 a2
  refine wpAny_pure ⟨_, rfl, h hp' _ tk' _ ss' hk (fun b o hb => ?_) ?_ h1 h2 h3⟩
  . have hlt := Heap.lt_size hb
    rw [sortedHeap_old (Nat.ne_of_lt hlt) (by rw [size_push']; exact Nat.lt_succ_of_lt hlt)]
    exact Heap.get?_push_of_some _ hb
  . obtain ⟨e, he⟩ := sortedHeap_at (out := (arrOf st').map (·.2)) hoL
    exact ⟨e, by rw [he]⟩
def j5' : List V -> Hp -> VK -> Prop := fun vs H Q => ∃ x : Str, vs = [V.str x] /\ x.length < 64 /\ ∀ (ys : List Str) (p : Addr) (H' : Hp), ys.Perm (x.cps.toList.map fun c => ⟨#[c]⟩) -> sortedS ys = true -> H p = none -> Same H H' -> H' p = some (.lst (ys.map V.str)) -> Q (.ref p) H'
theorem l8' {X : Cx} (hc : X.calm = true) : CallR X (.builtin "sorted") j5' := by
  intro pins s σ H vs us Q I r h
  obtain ⟨x, rfl, h64, q⟩ := h
  cases r with
  | cons r rr =>
    cases rr
    obtain ⟨t, rfl⟩ := r
    refine ln' (I.ok.hd hc) h64 fun h' h'' tk out ss hk hk2 ho h1 h2 h3 => ?_
    obtain ⟨e, he⟩ := ho
    have I1 : Inv X pins σ H { s with heap := h' } := I.kept (t' := s.toks) hk
    have hlen : (ss.map V.str).length <= sizeLine := by
      rw [List.length_map, h2.length_eq, List.length_map, Array.length_toList]
      exact small64 h64
    have I2 : Inv X pins σ (upd H h'.objs.size (.lst (ss.map V.str))) { s with heap := h'', toks := tk } :=
      I1.laid (t' := tk) (fun b u hb => hk2 b u hb) (Nat.le_refl _) ⟨hlen, out, e, vals_of_strs h1, he⟩
    have hn : H h'.objs.size = none := I1.hok.fresh (Nat.le_refl _)
    exact ⟨.ref _, _, I2, rfl, q ss _ _ h2 h3 hn (Same.upd hn) upd_same⟩
section
variable {K : PySem.W.Frag} {H : Hp} {Q : VK} {σ : St}
end
theorem s7' {X : Cx} {tg iter : Expr} {w1 w2 : TI} (h1 : PI X tg iter w1) (h2 : PI X tg iter w2) : PI X tg iter (fun σ H R => w1 σ H R \/ w2 σ H R) :=
  ⟨fun pins s σ H R I h => h.elim (h1.run pins s σ H R I) (h2.run pins s σ H R I)⟩
def y9' (K : PySem.W.Frag) (ta : TA) : TI := fun σ H R => za' ta σ H R \/ RZ.iZipA K ta σ H R
theorem vY' {X : Cx} {e e2 : Expr} {ta : TA} {p pos tpos : Pos} {elts : List Expr} {kk} (hg : Gl X "zip") (hm : X.mg "zip" = none) (ha : PA X [e, e2] ta)
    (hs : starEach [e, e2] X.env = (false, eval e X.env) :: starEach [e2] X.env := by rfl) (hpl : (backTo pos (starEach [e2] X.env)).any (·.1) = false := by rfl) :
    PI X (.Tuple elts kk tpos) (.Call (.Name "zip" p) [e, e2] [] pos) (y9' X.K ta) := s7' (vZ' hg hm ha hs hpl) (RZ.pi_zipA hg hm ha hs hpl)
end S
namespace S
open PySem PySem.Spec PyProof.Rows L2
section
variable {K : PySem.W.Frag} {σ : St} {H : Hp} {Q : VK} {te ta tv : TE} {f : Str} {v y : V} {a C dx : Addr} {fs : List (Str × V)} {D : Ends} {R : Hp -> Prop}
end
def Bk' (C : Addr) (m : Str) (sp : Sp) (E : XK) (σ : St) (t : TA) : V -> Hp -> VK -> Prop := fun x H Q => ∃ a dx fs, x = .ref a /\ H a = some (.ins C dx fs) /\ fs.lookup m = none /\ t σ H fun vs H2 => sp (x :: vs) H2 Q E
def uw' (C : Addr) (sp : Sp) (E : St -> XK) (t : TA) : TE := fun σ H Q => t σ H fun vs H1 => ∀ x dx, H1 x = none -> H1 dx = none -> dx ≠ x -> sp (.ref x :: vs) (upd (upd H1 dx (.own x)) x (.ins C dx [])) (fun v H2 => v = .non /\ Q (.ref x) H2) (E σ)
section
variable {K : PySem.W.Frag} {σ : St} {H : Hp} {Q : VK} {ta : TE} {t : TA} {C a dx : Addr} {m : Str} {sp : Sp} {E : St -> XK} {E' : XK} {fs : List (Str × V)} {vs : List V}
end
section
variable {X : Cx} {k : Nat} {C : Addr} {x m : Str} {ps : List Str} {sp : Sp} {p pos apos : Pos} {e o : Expr} {es : List Expr} {ta : TE} {t : TA} {W : WX} {CX : CXT} {f : Addr} {fd : FuncData} {E : St -> XK}
end
end S
namespace S
open PySem PySem.Spec PyProof.Rows L2
def signs (x : Str) : List V := x.cps.toList.map fun c => V.str ⟨#[c]⟩
theorem if' {x : Str} {acc : Array Value} (h : ItemsOf (SignAt x) acc x.cps.size) : Vals (signs x) acc.toList := by
  have hS : StrsAre acc.toList (x.cps.toList.map fun c => ⟨#[c]⟩) := by
    refine ft' _ _ (by rw [Array.length_toList, Array.length_toList]; exact h.1) fun j v hv => ?_
    obtain ⟨c, u, h1, h2⟩ := h.2 j v (by simpa using hv)
    exact ⟨c, u, by rw [<- h1]; simp, h2⟩
  have := vals_of_strs hS
  rw [List.map_map] at this
  exact this
def qX' : List V -> Hp -> VK -> Prop := fun vs H Q => ∃ x : Str, vs = [V.str x] /\ x.length <= sizeLine /\ ∀ p, H p = none -> Q (.ref p) (upd H p (.lst (signs x)))
theorem ma' {X : Cx} (hc : X.calm = true) : CallR X (.type "list") qX' := by
  intro pins s σ H vs us Q I r h
  obtain ⟨x, rfl, hl, q⟩ := h
  cases r with
  | cons r rr =>
    cases rr
    obtain ⟨t, rfl⟩ := r
    refine call_list_str (I.ok.hd hc) x t (fun h' tk acc c' hk ho hacc => ?_) hl
    have hlen : (signs x).length <= sizeLine := by
      unfold signs
      rw [List.length_map, Array.length_toList]
      exact hl
    have I2 : Inv X pins σ (upd H s.heap.objs.size (.lst (signs x))) { s with heap := h', toks := tk } :=
      I.laid (t' := tk) (fun b u hb => hk b u hb) (Nat.le_refl _) ⟨hlen, acc.toList, c', if' hacc, by rw [ho]⟩
    exact ⟨.ref _, _, I2, rfl, q _ (I.hok.fresh (Nat.le_refl _))⟩
def uE' : List V -> Hp -> VK -> Prop := fun vs H Q => ∃ x : Str, vs = [V.str x] /\ x.length <= sizeLine /\ ∀ p, H p = none -> Q (.ref p) (upd H p (.tup (signs x)))
theorem oT' {X : Cx} (hc : X.calm = true) : CallR X (.type "tuple") uE' := by
  intro pins s σ H vs us Q I r h
  obtain ⟨x, rfl, hl, q⟩ := h
  cases r with
  | cons r rr =>
    cases rr
    obtain ⟨t, rfl⟩ := r
    refine call_tuple_str (I.ok.hd hc) x t (fun h' tk acc hk hacc => ?_) hl
    have hlen : (signs x).length <= sizeLine := by
      unfold signs
      rw [List.length_map, Array.length_toList]
      exact hl
    have I1 : Inv X pins σ H { s with heap := h' } := I.kept (t' := s.toks) hk
    have I2 : Inv X pins σ (upd H h'.objs.size (.tup (signs x))) { s with heap := h'.push { cls := .type "tuple", data := .seq acc }, toks := tk } :=
      I1.laid (t' := tk) (fun b u hb => Heap.get?_push_of_some _ hb) (Nat.le_refl _) ⟨hlen, acc.toList, if' hacc, ⟨_, Heap.get?_push_size _ rfl, rfl, 0, by simp⟩⟩
    exact ⟨.ref _, _, I2, rfl, q _ (I1.hok.fresh (Nat.le_refl _))⟩
def qW' (K : PySem.W.Frag) : List V -> Hp -> VK -> Prop := fun vs H Q => uH' K vs H Q \/ qX' vs H Q
theorem iD' {X : Cx} (hc : X.calm = true) : CallR X (.type "list") (qW' X.K) := oU'.or (ma' hc)
def qS' (K : PySem.W.Frag) : List V -> Hp -> VK -> Prop := fun vs H Q => qT' K vs H Q \/ uE' vs H Q
theorem aC' {X : Cx} (hc : X.calm = true) : CallR X (.type "tuple") (qS' X.K) := l9'.or (oT' hc)
end S
namespace S
open PySem PySem.Spec PyProof.Rows L2
structure RoomG (k : Nat) (A : Around) : Prop where
  r : Room k A
  g : A.guards = some []
theorem RoomG.mono {j k : Nat} {A : Around} (h : RoomG k A) (l : j <= k) : RoomG j A := ⟨h.r.mono l, h.g⟩
theorem RoomG.units {k : Nat} {A : Around} (h : RoomG k A) : A.units + 64 < cLine := h.r.units
structure FnG (P : Program) (w : World) (K : PySem.W.Frag) (mg : Str -> Option Value) (base : Heap) (CX : CXT) (k : Nat) (f : Addr) (fd : FuncData) (ps : List Str) (sp : Sp) : Prop where
  len : ∀ vs H Q E, sp vs H Q E -> vs.length = ps.length
  run : ∀ (A : Around) (outer : List Env) (s : Shared) (H : Hp) (args : Args) (us : List Value) (vs : List V) (Q : VK) (E : XK), RoomG k A -> Env0 P w K mg base A outer s H →
    BindsTo s fd args (ps.zip us) -> Vals vs us -> sp vs H Q E -> codeAny (model P w) A (.call (.ref f) args) (CR CX outer P w H s Q E) s
theorem FnG.of {P : Program} {w : World} {K : PySem.W.Frag} {mg : Str -> Option Value} {base : Heap} {CX : CXT} {k : Nat} {f : Addr} {fd : FuncData} {ps : List Str} {sp : Sp} (F : FnOk P w K mg base CX k f fd ps sp) : FnG P w K mg base CX k f fd ps sp :=
  ⟨F.len, fun A o s H as us vs Q E h => F.run A o s H as us vs Q E h.r⟩
section
variable {P : Program} {w : World} {K : PySem.W.Frag} {mg : Str -> Option Value} {base : Heap} {CX : CXT} {f : Addr} {fd : FuncData}
theorem zd' {N ps : List Str} {scope : Scope} (S : FnScope N ps scope) (us : List Value) (n : Nat) : ∀ y ∈ ps.zip us,
    scope.names.lookup y.1 = some .local \/ (scope.names.lookup y.1 = some .cell /\ ((cellsFrom n scope.names []).lookup y.1).isSome = true) := by
  rintro ⟨nm, v⟩ hy
  have q := S.par nm (List.of_mem_zip hy).1
  exact q.imp id fun q => ⟨q, PySem.W.cellsFrom_some _ _ _ (.inl q)⟩
theorem wE' {x qual : Str} {params : Arguments} {body : List Stmt} {scope : Scope} {N ps : List Str} {k : Nat} {sp : Sp} (F : FunD K x qual params body scope [] [] f fd) (S : FnScope N ps scope)
    (len : ∀ vs H Q E, sp vs H Q E -> vs.length = ps.length)
    (hbody : ∀ (cdv oc : Value) (od : Option Addr) (osl : Array (Option Value)), K.lookup f = some ⟨oc, od, .func fd, osl⟩ -> fd.code = cdv -> PySem.W.codeIn K cdv qual = true -> ∀ (A : Around) (o : List Env) (s : Shared) (H : Hp) (vs : List V) (Q : VK) (E : XK), RoomG k (A.deeper (envOfC qual scope s.heap.objs.size f cdv)) -> sp vs H Q E →
      ∃ t, PSs (cxOf CX P w K mg base N qual scope f cdv A o s H E) body t /\ t { nx := fun _ H' => Q .non H', rt := Q } (start N vs) H) : FnG P w K mg base CX (k + 1) f fd ps sp := by
  obtain ⟨oc, od, dV, kV, doc, pm, an, cdv, ct, osl, rfl, lk, hcd, _, _⟩ := F.ex
  constructor
  . exact len
  intro A o s H args us vs Q E hg e0 hb r hsp
  have Ks : K.In s.heap := e0.mod.kin.keeps fun b u e => (e0.bs b u e).1
  have Ls : s.heap.NoLimit := e0.mod.nolimit.keeps fun b u e => (e0.bs b u e).1
  refine codeAny_call_function hg.r.depth (Ks _ _ lk) rfl S.co S.gen rfl (PySem.W.codeRec_of Ks hcd) (hb _ _ _ _ ?_)
  refine wpAny_newFunctionEnv_cells S.kind (zd' S us _) fun env he s1 z => ?_
  subst he
  refine ⟨Ls.keeps z.toInCall.keep, codeAny_func ?_⟩
  obtain ⟨t, pt, tq⟩ := hbody cdv oc od osl lk rfl hcd A o s H vs Q E ⟨hg.r.deeper _, hg.g⟩ hsp
  have J := inv_start (CX := CX) (E := E) S hg.r.hd e0 (len _ _ _ _ hsp) r z
  refine wpAny_mono (pt.run [] s1 (start N vs) H _ J tq) (fun fl s' q => ?_) fun _ _ q => q
  cases fl with
  | next =>
    obtain ⟨σ', H', I, q⟩ := q
    exact ⟨V.non, H', I.os, I.bare, I.base, I.hok, rfl, q⟩
  | ret u =>
    obtain ⟨v, σ', H', I, e, q⟩ := q
    exact ⟨v, H', I.os, I.bare, I.base, I.hok, e, q⟩
  | brk => exact (let ⟨_, _, _, z⟩ := q; z).elim
  | cont => exact (let ⟨_, _, _, z⟩ := q; z).elim
theorem rU' {X : Cx} {pins : List (Addr × Obj)} {σ : St} {H : Hp} {s s' : Shared} {Q : VK} {E : XK} (hx : PassesAt CX X σ E) (I : Inv X pins σ H s) : ∀ r : Result, CR CX X.stack X.prog X.w H s Q E r s' -> (match r with
    | .ok (.ret u) => EP X pins σ Q u s'
    | .ok _ => False
    | .error e => X.xe e s')
  | .error e, q => hx pins H s e s' I q
  | .ok (.ret u), q => I.after q
  | .ok .next, q => q
  | .ok .brk, q => q
  | .ok .cont, q => q
end
section
variable {X : Cx} {CX : CXT} {k : Nat} {f C : Addr} {fd : FuncData} {ps : List Str} {sp : Sp} {E : St -> XK} {x m : Str} {p pos apos : Pos} {e o : Expr} {es : List Expr} {ta : TE} {t : TA} {W : WX}
theorem iR' {pins : List (Addr × Obj)} {σ : St} {H : Hp} {s : Shared} {Q : VK} {us : List Value} {vs : List V} (F : FnG X.prog X.w X.K X.mg X.base CX k f fd ps sp) (hr : RoomG k X.A)
    (hb : Binds X.K fd ps []) (hx : PassesAt CX X σ (E σ)) (I : Inv X pins σ H s) (r : Vals vs us) (h : sp vs H Q (E σ)) : wpAny (model X.prog X.w) X.A (call (.ref f) us) (EP X pins σ Q) X.xe s := by
  have b := hb s us I.kIn (by rw [List.append_nil, <- r.length]; exact F.len _ _ _ _ h)
  rw [List.append_nil] at b
  refine wpAny_call (codeAny_mono (F.run X.A X.stack s H ⟨us, []⟩ us vs Q (E σ) hr I.env0 b r h) fun res s' q => ?_)
  have z := rU' hx I res q
  revert z
  cases res with
  | error e => exact id
  | ok fl => cases fl <;> exact id
def Og (P : Program) (w : World) (K : PySem.W.Frag) (mg : Str -> Option Value) (base : Heap) (k : Nat) (x : Str) (ps : List Str) (sp : Sp) : Prop :=
  ∃ fd, FnG P w K mg base (L2.CX P w) k (He.ga K x) fd ps sp /\ Binds K fd ps [] /\ PySem.W.keepIn K (.ref (He.ga K x)) = true /\ mg x = some (.ref (He.ga K x))
def OgM (P : Program) (w : World) (K : PySem.W.Frag) (mg : Str -> Option Value) (base : Heap) (k : Nat) (C : Addr) (m : Str) (ps : List Str) (sp : Sp) : Prop :=
  ∃ fd, FnG P w K mg base (L2.CX P w) k (He.ma K C m) fd ps sp /\ Binds K fd ps []
theorem tb' (F : Og X.prog X.w X.K X.mg X.base k x ps sp) (hr : RoomG k X.A) (hg : Gl X x) (tk : Takes X W) (ha : PA X (e :: es) t) (hdb : (x == ("__debug__" : Str)) = false := by decide)
    (he : starEach (e :: es) X.env = (false, eval e X.env) :: starEach es X.env := by rfl) (hpl : (backTo pos (starEach es X.env)).any (·.1) = false := by rfl) : PE X (.Call (.Name x p) (e :: es) [] pos) (tCallS sp (WE W) t) := by
  obtain ⟨fd, F, b, kp, hm⟩ := F
  refine ⟨fun pins s σ H Q I h => wpAny_Call_Name_kw (ld_glob I hg hm ?_ hdb)⟩
  refine PySem.W.callWith_K (h₀ := X.base) I.ok.mod.kin kp (thn (ha.run pos pins s σ H _ I h) fun us s1 ⟨vs, H1, I1, r, q⟩ => ?_) he hpl
  exact ⟨I1.kIn, iR' F hr b (passAt tk σ) I1 r q⟩
def jn' (K : PySem.W.Frag) (cs : List String) (m : Str) (g : Addr) : Prop := ∀ C ∈ cs, Cls K (He.ga K (Str.ofString C)) /\ Meth K (He.ga K (Str.ofString C)) m g
def qq' (K : PySem.W.Frag) (cs : List String) (m : Str) (sp : Sp) (E : St -> XK) (ta : TE) (t : TA) : TE := fun σ H Q => ta σ H fun x H1 => ∃ C, C ∈ cs /\ Bk' (He.ga K (Str.ofString C)) m sp (E σ) σ t x H1 Q
theorem s9' {pl : Sem Bool} {cs : List String} (he : PE X o ta) (F : OgM X.prog X.w X.K X.mg X.base k C m ps sp) (hr : RoomG k X.A) (hm : jn' X.K cs m (He.ma X.K C m)) (tk : Takes X W) (ha : PA X (e :: es) t)
    (hst : starEach (e :: es) X.env = (false, eval e X.env) :: starEach es X.env := by rfl) (hpl : (backTo pos (starEach es X.env)).any (·.1) = false := by rfl)
    (ht : eval (.Call (.Attribute o m apos) (e :: es) [] pos) X.env = (eval o X.env >>= fun ov => standAt apos.atName >>= fun _ => holding [ov] (getMethod ov m pl) >>= fun q =>
      callWith pos q.1 q.2 (backTo pos (starEach (e :: es) X.env)) (backToKw pos (keywordEach [] X.env))) := by rfl) :
    PE X (.Call (.Attribute o m apos) (e :: es) [] pos) (qq' X.K cs m sp (WE W) ta t) := by
  obtain ⟨fd, F, hb⟩ := F
  refine ⟨fun pins s σ H Q I h => PySem.W.methodCall_KW (pl := pl) (thn (he.run pins s σ H _ I h) fun u s1 ⟨x, H1, I1, rx, D, hD, a, dx, fs, ex, ea, l, q⟩ => ?_) ht⟩
  obtain ⟨c, hm⟩ := hm D hD
  subst ex
  cases (show u = Value.ref a from rx)
  refine getmeth_ok I1 ea c hm l (PySem.W.callWith_K (first := [.ref a]) (h₀ := X.base) I.ok.mod.kin hm.kp (thn (ha.run pos pins s1 σ H1 _ I1 q) fun us s2 ⟨vs, H2, I2, r, q2⟩ => ?_) hst hpl)
  exact ⟨I2.kIn, iR' (us := .ref a :: us) (vs := .ref a :: vs) F hr hb (passAt tk σ) I2 (.cons rfl r) q2⟩
theorem q9' {pl : Sem Bool} {cs : List String} (he : PE X o ta) (F : OgM X.prog X.w X.K X.mg X.base k C m ps sp) (hr : RoomG k X.A) (hm : jn' X.K cs m (He.ma X.K C m)) (tk : Takes X W)
    (ht : eval (.Call (.Attribute o m apos) [] [] pos) X.env = (eval o X.env >>= fun ov => standAt apos.atName >>= fun _ => holding [ov] (getMethod ov m pl) >>= fun q =>
      callWith pos q.1 q.2 (backTo pos (starEach [] X.env)) (backToKw pos (keywordEach [] X.env))) := by rfl) :
    PE X (.Call (.Attribute o m apos) [] [] pos) (qq' X.K cs m sp (WE W) ta tNil) := by
  obtain ⟨fd, F, hb⟩ := F
  refine ⟨fun pins s σ H Q I h => PySem.W.methodCall_KW (pl := pl) (thn (he.run pins s σ H _ I h) fun u s1 ⟨x, H1, I1, rx, D, hD, a, dx, fs, ex, ea, l, q⟩ => ?_) ht⟩
  obtain ⟨c, hm⟩ := hm D hD
  subst ex
  cases (show u = Value.ref a from rx)
  exact getmeth_ok I1 ea c hm l (PySem.W.callWith_K0 (first := [.ref a]) I1.kIn hm.kp (iR' (us := [.ref a]) (vs := [.ref a]) F hr hb (passAt tk σ) I1 (.cons rfl .nil) q))
theorem ou' {A : Around} {C : Addr} {us : List Value} {kw : List (Str × Value)} (h : A.guards = some []) : (A.under (.builtin "type.__call__" ⟨.ref C :: us, kw⟩)).guards = some [] := by
  simp [Around.under, Code.guards, Code.isGuard, guardIds, pushGuards, h]
theorem ta' (F : OgM X.prog X.w X.K X.mg X.base k C "__init__" ps sp) (hr : RoomG (k + 1) X.A) (hg : Gl X x) (M : Mk X.K C (He.ma X.K C "__init__")) (hm : X.mg x = some (.ref C)) (tk : Takes X W)
    (ha : PA X (e :: es) t) (hdb : (x == ("__debug__" : Str)) = false := by decide) (he : starEach (e :: es) X.env = (false, eval e X.env) :: starEach es X.env := by rfl) (hpl : (backTo pos (starEach es X.env)).any (·.1) = false := by rfl) :
    PE X (.Call (.Name x p) (e :: es) [] pos) (uw' C sp (WE W) t) := by
  obtain ⟨fd, F, hb⟩ := F
  refine ⟨fun pins s σ H Q I h => wpAny_Call_Name_kw (ld_glob I hg hm ?_ hdb)⟩
  refine PySem.W.callWith_K (h₀ := X.base) I.ok.mod.kin M.kp (thn (ha.run pos pins s σ H _ I h) fun us s1 ⟨vs, H1, I1, r, q⟩ => ?_) he hpl
  have fr := fun n (l : s1.heap.objs.size <= n) => I1.hok.fresh l
  have q := q (s1.heap.objs.size + 1) s1.heap.objs.size (fr _ (Nat.le_succ _)) (fr _ (Nat.le_refl _)) (Nat.ne_of_lt (Nat.lt_succ_self _))
  have J := Inv.made (C := C) I1
  have b := hb (s := _) (us := Value.ref (s1.heap.objs.size + 1) :: us) J.kIn (by
    rw [List.append_nil, <- F.len _ _ _ _ q]
    simp [r.length])
  rw [List.append_nil] at b
  refine ⟨I1.kIn, wpAny_call (make_map (f := He.ma X.K C "__init__") I1.kIn M.makes M.init (beq_iff_eq.mp M.fn) (codeAny_mono (F.run _ X.stack _ _ ⟨Value.ref (s1.heap.objs.size + 1) :: us, []⟩ _ _ _ (WE W σ)
    (k := k) ⟨hr.r.make C _ [], ou' hr.g⟩ (J.env0.make C _ []) b (Paired.cons (show L2.RelV (.ref (s1.heap.objs.size + 1)) (.ref (s1.heap.objs.size + 1)) from rfl) r) q) fun res s' q' => ?_))⟩
  have z := rU' (passAt tk σ) J res q'
  revert z
  cases res with
  | error e => exact id
  | ok fl =>
    cases fl with
    | ret u =>
      rintro ⟨v, H', I3, rv, ev, q3⟩
      subst ev
      exact ⟨rv, ⟨V.ref (s1.heap.objs.size + 1), H', I3, rfl, q3⟩⟩
    | next => exact id
    | brk => exact id
    | cont => exact id
end
theorem oS' {P : Program} {w : World} {CX : CXT} {H : Hp} {s s' : Shared} (hO : Only H) (ok : HOk P w H s.heap) (hCX : ∀ e s', CX [] H s (fun _ _ _ => False) e s' -> False) : ∀ res : Result,
    CR CX [] P w H s (fun v _ => v = .bl true) (fun _ _ _ => False) res s' -> res = .ok (.ret (.bool true)) /\ OldK s.heap s'.heap /\ s'.os = s.os /\ AllBare s'.gens
  | .error e, q => (hCX e s' q).elim
  | .ok .next, q => False.elim q
  | .ok .brk, q => False.elim q
  | .ok .cont, q => False.elim q
  | .ok (.ret u), ⟨v, H', os, bare, un, ok', rv, q⟩ => by
    have q : v = .bl true := q
    rw [q] at rv
    cases (show u = Value.bool true from rv)
    refine ⟨rfl, OldK.of_keep fun b o e => ?_, os, bare⟩
    rcases hO b with z | ⟨ob, xs, z⟩
    . exact un.keep b o e z (List.not_mem_nil) (List.not_mem_nil)
    . have e1 := (ok b _ z).1
      have e2 := (ok' b _ (un.frzs b ob _ z)).1
      rw [e] at e1
      cases e1
      exact e2
theorem ko' {P : Program} {w : World} {K : PySem.W.Frag} {mg mb : Str -> Option Value} {CX : CXT} {k : Nat} {fa a : Addr} {fd : FuncData} {x : Str} {sp : Sp} {s : Shared} {vs : List Value} {n0 : Nat} {H : Hp}
    (KX : K.In s.heap) (n1 : s.heap.Ns mainGlobals mg) (n2 : s.heap.Ns builtinsNs mb) (n3 : ∀ x : Str, x ≠ "__name__" -> mb x = bootBuiltins x) (lim : s.heap.NoLimit) (hg : s.gens = #[])
    (ha : s.heap.get? a = some { cls := .type "list", data := .seq vs.toArray n0 }) (hr : Room k callerA) (F : ∀ base : Heap, K.In base -> base.Ns mainGlobals mg -> FnG P w K mg base CX k fa fd [x] sp)
    (hbind : ∀ (s : Shared) (u : Value), BindsTo s fd ⟨[u], []⟩ [(x, u)]) (hO : Only H) (hs : sp [.ref a] H (fun v _ => v = .bl true) fun _ _ _ => False) (hCX : ∀ e s', CX [] H s (fun _ _ _ => False) e s' -> False)
    (ok : HOk P w H s.heap) (one : ∀ b u, H b = some u -> b = a) (out : H a ≠ none -> K.lookup a = none) :
    codeAny (model P w) callerA (.call (.ref fa) ⟨[.ref a], []⟩) (fun r s' => r = .ok (.ret (.bool true)) /\ OldK s.heap s'.heap /\ s'.os = s.os /\ AllBare s'.gens) s := by
  -- an object that is no list of the script stands in the base
  have apart : ∀ {b : Addr} {o : Obj}, s.heap.get? b = some o -> (∀ l n, o.data ≠ .seq l n) -> H b = none := by
    intro b o e d
    cases q : H b with
    | none => rfl
    | some u =>
      have e' := one b u q
      rw [e', ha] at e
      cases e
      exact absurd rfl (d _ _)
  have keep : ∀ {b : Addr} {m : Str -> Option Value}, s.heap.Ns b m -> (hidT s.heap H).Ns b m := by
    rintro b m ⟨o, es, ep, e, d, r⟩
    exact ⟨o, es, ep, hidT_get e (apart e fun l n z => by rw [d] at z; cases z), d, r⟩
  have Kb : K.In (hidT s.heap H) := by
    intro b o e
    refine hidT_get (KX b o e) ?_
    cases q : H b with
    | none => rfl
    | some u =>
      have e' := one b u q
      subst e'
      rw [out (by rw [q]; exact fun z => nomatch z)] at e
      cases e
  have M : Mod K mg (hidT s.heap H) := { kin := Kb, glob := keep n1, blt := ⟨mb, keep n2, n3⟩, nolimit := (let ⟨m, q1, q2⟩ := lim; ⟨m, keep q1, q2⟩) }
  have e0 : Env0 P w K mg (hidT s.heap H) callerA [] s H := { frames := rfl, mod := M, bs := (fun b o e => of_hidT e), bsz := Nat.le_of_eq (hidT_size _ _), funs := trivial, frf := (fun b z => absurd z List.not_mem_nil), hok := ok, bare := .of_eq hg }
  exact codeAny_mono ((F _ Kb (keep n1)).run callerA [] s H ⟨[.ref a], []⟩ [.ref a] [.ref a] _ _ ⟨hr, rfl⟩ e0 (hbind s (.ref a)) (.cons rfl .nil) hs) fun r s' q => oS' hO ok hCX r q
theorem rH' {P : Program} {w : World} {K : PySem.W.Frag} {mg mb : Str -> Option Value} {CX : CXT} {k : Nat} {fa a : Addr} {fd : FuncData} {x : Str} {sp : Sp} {s : Shared} {vs : List Value} {ns : List Int}
    (KX : K.In s.heap) (n1 : s.heap.Ns mainGlobals mg) (n2 : s.heap.Ns builtinsNs mb) (n3 : ∀ x : Str, x ≠ "__name__" -> mb x = bootBuiltins x) (lim : s.heap.NoLimit) (hg : s.gens = #[])
    (ha : s.heap.get? a = some { cls := .type "list", data := .seq vs.toArray }) (hi : IntsAre vs ns) (hl : ns.length <= sizeLine) (hr : Room k callerA)
    (F : ∀ base : Heap, K.In base -> base.Ns mainGlobals mg -> FnG P w K mg base CX k fa fd [x] sp) (hbind : ∀ (s : Shared) (u : Value), BindsTo s fd ⟨[u], []⟩ [(x, u)])
    (hsp : ∀ H : Hp, Only H -> SqL K H a (ns.map V.int) -> sp [.ref a] H (fun v _ => v = .bl true) fun _ _ _ => False) (hCX : ∀ H e s', CX [] H s (fun _ _ _ => False) e s' -> False) :
    codeAny (model P w) callerA (.call (.ref fa) ⟨[.ref a], []⟩) (fun r s' => r = .ok (.ret (.bool true)) /\ OldK s.heap s'.heap /\ s'.os = s.os /\ AllBare s'.gens) s := by
  have rv := vals_ints hi
  have zl : (vs.toArray).size <= sizeLine := by rw [List.size_toArray, hi.length]; exact hl
  rcases hk : K.lookup a with _ | o
  . -- the script alone is tracked
    let H : Hp := fun b => if b = a then some (.frz { cls := .type "list", data := .seq vs.toArray } (.lst (ns.map V.int))) else none
    have Ha : H a = some (.frz { cls := .type "list", data := .seq vs.toArray } (.lst (ns.map V.int))) := if_pos rfl
    have Hb : ∀ b u, H b = some u -> b = a := fun b u z => Classical.byContradiction fun nb => by rw [show H b = none from if_neg nb] at z; cases z
    have hO : Only H := fun b => (Decidable.em (b = a)).elim (fun e => .inr ⟨_, _, if_pos e⟩) fun e => .inl (if_neg e)
    refine ko' KX n1 n2 n3 lim hg ha hr F hbind hO (hsp H hO (.inl (.inr ⟨_, Ha⟩))) (hCX H) (fun b u z => ?_) Hb fun _ => hk
    have eb := Hb b u z
    subst eb
    rw [Ha] at z
    cases z
    exact ⟨ha, by rw [List.length_map]; exact hl, vs, _, rv, ha⟩
  . -- it is one of the module's own
    have e := KX a o hk
    rw [ha] at e
    cases e
    let H : Hp := fun _ => none
    have hO : Only H := fun _ => .inl rfl
    refine ko' KX n1 n2 n3 lim hg ha hr F hbind hO (hsp H hO (.inr ⟨_, vs.toArray, _, hk, rfl, rfl, rfl, zl, rv⟩)) (hCX H) (fun b u z => nomatch z) (fun b u z => nomatch z) fun z => absurd rfl z
theorem sv' {l : PySem.W.OpenLaw} {n k : Nat} {q : Program} {loose : List Str} {XP : (Str -> Option Value) -> Heap -> Prop} {YP : World -> Heap -> Prop} {d : DefRec} {CX : CXT} {x : Str}
    (hn : l.most = some n) (hn2 : n <= sizeLine) (hdf : d.params.defaults = []) (hr : Room k callerA)
    (F : ∀ (w : World) (mg : Str -> Option Value) (fa : Addr) (h : Heap), YP w h -> h.Ns mainGlobals mg -> mg d.name = some (.ref fa) -> ∃ (K : PySem.W.Frag) (fd : FuncData) (sp : Sp), K.In h ∧
      (∀ (s : Shared) (u : Value), BindsTo s fd ⟨[u], []⟩ [(x, u)]) /\ (∀ (H : Hp) (a : Addr) (ns : List Int), ns.length <= n -> Only H -> SqL K H a (ns.map V.int) -> sp [.ref a] H (fun v _ => v = .bl true) fun _ _ _ => False) ∧
        ∀ base : Heap, K.In base -> base.Ns mainGlobals mg -> FnG l.prog w K mg base CX k fa fd [x] sp)
    (hCX : ∀ (H : Hp) (s : Shared) (e : Value) (s' : Shared), CX [] H s (fun _ _ _ => False) e s' -> False) : PySem.W.WalkO q loose XP YP l.row.toRowW d [] (fun f vs => PySem.call f vs) :=
  Att.attach_call hn hdf fun w s₀ s₁ mg mb fa o pm cd doc a vs ns G Y ho hd hcd hmg hobj hints hlen hg => by
    obtain ⟨K, fd, sp, KX, hb, hsp, hF⟩ := F w mg fa _ Y G.T.g hmg
    exact rH' KX G.T.g G.T.b G.T.builtins G.T.nolimit hg hobj hints (Nat.le_trans hlen hn2) hr hF hb (fun H hO hS => hsp H a ns hlen hO hS) fun H e s' => hCX H s₁ e s'
theorem FnG.to0 {P : Program} {w : World} {K : PySem.W.Frag} {mg : Str -> Option Value} {base : Heap} {k : Nat} {f : Addr} {fd : FuncData} {ps : List Str} {sp : Sp} (F : FnG P w K mg base (L2.CX P w) k f fd ps sp) :
    FnG P w K mg base CX0 k f fd ps (fun vs H Q _ => sp vs H Q E0) := by
  refine ⟨fun vs H Q _ h => F.len vs H Q E0 h, fun A o s H args us vs Q _ hr he hb hv hs => codeAny_mono (F.run A o s H args us vs Q E0 hr he hb hv hs) fun r s' q => ?_⟩
  rcases r with e | fl
  . obtain ⟨_, _, _, _, _, _, _, _, _, _, _, _, z⟩ := q
    exact z.elim
  . cases fl <;> exact q
end S
namespace S
open PySem PySem.Spec PyProof.Rows L2
def sx (s : M.Tx) : Str := ⟨s.toArray⟩
theorem eE' (s : M.Tx) : (sx s).cps.toList = s := rfl
theorem ct' (s : M.Tx) : (sx s).length = s.length := by show s.toArray.size = _; simp
theorem vC' (z : Str) : sx z.cps.toList = z := by cases z; rfl
theorem ux' {a b : M.Tx} (h : sx a = sx b) : a = b := by have := congrArg (fun z : Str => z.cps.toList) h; exact this
theorem x2' (a b : M.Tx) : sx a ++ sx b = sx (a ++ b) := li' (by rw [t4', eE', eE', eE'])
def okT (s : M.Tx) : Prop := (∀ c ∈ s, c < 1114112) /\ s.length <= M.dp'
def okK : Key -> Prop
  | .inl _ => True
  | .inr x => okT x.cps.toList
def k9' (kvs : List (Key × V)) : Prop := ∀ p ∈ kvs, okK p.1
theorem k9'.nil : k9' [] := fun _ h => nomatch h
theorem k9'.snoc {kvs : List (Key × V)} (h : k9' kvs) {k : Key} {v : V} (hk : okK k) : k9' (kvs ++ [(k, v)]) := fun p hp => by
  rcases List.mem_append.mp hp with hp | hp
  . exact h p hp
  . rw [List.mem_singleton.mp hp]; exact hk
theorem k9'.fst {kvs kvs' : List (Key × V)} (h : k9' kvs) (e : kvs'.map (·.1) = kvs.map (·.1)) : k9' kvs' := fun p hp => by
  have : p.1 ∈ kvs.map (·.1) := by rw [<- e]; exact List.mem_map_of_mem hp
  obtain ⟨q, h1, h2⟩ := List.mem_map.mp this
  rw [<- h2]; exact h q h1
def kD : Key -> M.D
  | .inl i => .int i
  | .inr x => .str x.cps.toList
mutual
def py : M.D -> PyData
  | .bl b => .bool b
  | .int i => .int i
  | .str s => .str (sx s)
  | .tup ds => .tuple (pys ds)
  | .lst ds => .list (pys ds)
  | .dct ks ds => .dict ((pys ks).zip (pys ds))
  | _ => .none
def pys : List M.D -> List PyData
  | [] => []
  | d :: r => py d :: pys r
end
class Wd where
  P : Program
  w : World
  ts : List (Addr × Str)
structure CloD where
  f : Addr
  c : Addr
  q : Str
  ob : Obj
  ws : List V
  caps : List M.D
class Hot where
  hot : Option (Addr × Nat × Option Addr × M.Exc)
  clo : List (Nat × CloD)
abbrev cU' (cs : List (Nat × CloD)) : Hot := ⟨none, cs⟩
instance coldI : Hot := ⟨none, []⟩
def FnO (f : Addr) (ob : Obj) : HO := .ext fun h => h.get? f = some ob
variable [Wd]
mutual
def nk : M.D -> NestedKey
  | .bl b => .num (if b = true then 1 else 0)
  | .int i => .num i
  | .str s => .text (sx s)
  | .tup ds => .tup (nks ds)
  | _ => .none
def nks : List M.D -> List NestedKey
  | [] => []
  | d :: r => nk d :: nks r
end
def lfD : M.D -> Leaf
  | .bl b => .num (if b = true then 1 else 0)
  | .int i => .num i
  | .str s => .text (sx s)
  | _ => .none
def dcL (p : Addr) (kvs : List (Leaf × V)) : HO := .ext fun h => (p == sysModules) = false /\ kvs.length <= sizeLine /\ ∃ vs, KV kvs vs /\ h.DictOf (leafKind Wd.P Wd.w) p vs
abbrev o8' : NestedKey × Addr × V -> NestedKey × Addr × Value -> Prop := fun x y => x.1 = y.1 /\ x.2.1 = y.2.1 /\ RelV x.2.2 y.2.2
def dcN (p : Addr) (xs : List (NestedKey × Addr × V)) : HO := .ext fun h => (p == sysModules) = false /\ xs.length <= sizeLine /\ (xs.map (·.1)).Nodup /\ ∃ ys, Paired o8' xs ys ∧
  ∃ o es ep, h.get? p = some o /\ o.ExactDict /\ o.data = .dict es ep /\ es.toList = ys.map (entryOfKey (nestedKind Wd.P Wd.w))
structure LeafKeys (ks : List M.D) (ls : List Leaf) : Prop where
  e : ls = ks.map lfD
  s : ∀ d ∈ ks, M.sca d = true
structure NestKeys (ks : List M.D) (xs : List (NestedKey × Addr × V)) : Prop where
  e : xs.map (·.1) = ks.map nk
  s : ∀ d ∈ ks, M.kat d = true /\ M.dep d <= 8 /\ M.sca d = false
section
variable (K : PySem.W.Frag)
mutual
/-- v stands for d: what it stands on lies in F and never changes; T: where the world's objects stand -/
inductive Fz (F : Hp) (T : List Addr) : V -> M.D -> Prop
  | non : Fz F T .non .non
  | bl (b : Bool) : Fz F T (.bl b) (.bl b)
  | int (i : Int) : Fz F T (.int i) (.int i)
  | str {s : M.Tx} : okT s -> Fz F T (.str (sx s)) (.str s)
  | tup {a : Addr} {vs : List V} {ds : List M.D} : SqT K F a vs -> FzA F T vs ds -> Fz F T (.ref a) (.tup ds)
  | lst {a : Addr} {vs : List V} {ds : List M.D} : F a = some (.lst vs) -> FzA F T vs ds -> Fz F T (.ref a) (.lst ds)
  | dct {a : Addr} {kvs : List (Key × V)} {ds : List M.D} : Rd F a (.dK kvs) -> k9' kvs -> FzA F T (kvs.map (·.2)) ds -> Fz F T (.ref a) (.dct (kvs.map fun p => kD p.1) ds)
  | dcl {a : Addr} {kvs : List (Leaf × V)} {ks ds : List M.D} : Rd F a (dcL a kvs) -> LeafKeys ks (kvs.map (·.1)) -> FzA F T (kvs.map (·.2)) ds -> Fz F T (.ref a) (.dcx ks ds)
  | dcn {a : Addr} {xs : List (NestedKey × Addr × V)} {ks ds : List M.D} : Rd F a (dcN a xs) -> NestKeys ks xs -> FzA F T (xs.map fun x => .ref x.2.1) ks -> FzA F T (xs.map (·.2.2)) ds -> Fz F T (.ref a) (.dcx ks ds)
  | rep (d : M.D) : Fz F T (.str (py d).shown) (.rep d)
  | obj {n : Nat} {a : Addr} : T[n]? = some a -> Fz F T (.ref a) (.obj n)
  | ty (n : String) : Fz F T (.ty n) (.ty n)
  | fn (x : String) : Fz F T (.ref (He.ga K x)) (.fn x)
  | scr {a : Addr} {vs : List V} {ds : List M.D} : SqL K F a vs -> FzA F T vs ds -> Fz F T (.ref a) (.scr ds)
inductive FzA (F : Hp) (T : List Addr) : List V -> List M.D -> Prop
  | nil : FzA F T [] []
  | cons {v : V} {vs : List V} {d : M.D} {ds : List M.D} : Fz F T v d -> FzA F T vs ds -> FzA F T (v :: vs) (d :: ds)
end
abbrev Fp := List (Addr × HO)
mutual
/-- v stands for o, alone; fp: what it stands on and may change -/
inductive Rp (F : Hp) (T : List Addr) : V -> M.O -> Fp -> Prop
  | fz {v : V} {d : M.D} : Fz K F T v d -> Rp F T v (.fz d) []
  | lst {p : Addr} {vs : List V} {os : List M.O} {fp : Fp} : RpA F T vs os fp -> Rp F T (.ref p) (.lst os) ((p, .lst vs) :: fp)
  | tup {p : Addr} {vs : List V} {os : List M.O} {fp : Fp} : RpA F T vs os fp -> Rp F T (.ref p) (.tup os) ((p, .tup vs) :: fp)
  | dct {p : Addr} {kvs : List (Key × V)} {os : List M.O} {fp : Fp} : k9' kvs -> RpA F T (kvs.map (·.2)) os fp -> Rp F T (.ref p) (.dct (kvs.map fun q => kD q.1) os) ((p, .dK kvs) :: fp)
  | dcl {p : Addr} {kvs : List (Leaf × V)} {ks : List M.D} {os : List M.O} {fp : Fp} : LeafKeys ks (kvs.map (·.1)) -> RpA F T (kvs.map (·.2)) os fp -> Rp F T (.ref p) (.dcx ks os) ((p, dcL p kvs) :: fp)
  | dcn {p : Addr} {xs : List (NestedKey × Addr × V)} {ks : List M.D} {os : List M.O} {fp : Fp} : NestKeys ks xs -> FzA K F T (xs.map fun x => .ref x.2.1) ks -> RpA F T (xs.map (·.2.2)) os fp -> Rp F T (.ref p) (.dcx ks os) ((p, dcN p xs) :: fp)
inductive RpA (F : Hp) (T : List Addr) : List V -> List M.O -> Fp -> Prop
  | nil : RpA F T [] [] []
  | cons {v : V} {vs : List V} {o : M.O} {os : List M.O} {fp fq : Fp} : Rp F T v o fp -> RpA F T vs os fq -> RpA F T (v :: vs) (o :: os) (fp ++ fq)
end
def XcR (F : Hp) (T : List Addr) (x : M.Exc) (cls : Value) (dd : Option Addr) : Prop :=
  cls = .ref (He.ga K x.cls) /\ ((x.fs = [] /\ dd = none) \/ ∃ (a : Addr) (f : String) (v : V) (d : M.D), x.fs = [(f, d)] /\ dd = some a /\ F a = some (.xd [(Str.ofString f, v)]) /\ Fz K F T v d)
structure CloAt (F : Hp) (T : List Addr) (c : CloD) : Prop where
  fn : Rd F c.f (FnO c.f c.ob)
  code : Rd F c.c (LamX.CodeO c.c c.q)
  caps : FzA K F T c.ws c.caps
variable [Hot]
inductive RpE (F : Hp) (T : List Addr) : St -> List (Option M.O) -> Fp -> Prop
  | nil : RpE F T [] [] []
  | off {x : Option V} {σ : St} {env : List (Option M.O)} {fp : Fp} : RpE F T σ env fp -> RpE F T (x :: σ) (none :: env) fp
  | on {v : V} {o : M.O} {σ : St} {env : List (Option M.O)} {fp fq : Fp} : Rp K F T v o fp -> RpE F T σ env fq -> RpE F T (some v :: σ) (some o :: env) (fp ++ fq)
  | hot {a : Addr} {dd : Option Addr} {x : M.Exc} {σ : St} {env : List (Option M.O)} {fp : Fp} : Hot.hot = some (a, env.length, dd, x) -> XcR K F T x (.ref (He.ga K x.cls)) dd -> RpE F T σ env fp -> RpE F T (some (.ref a) :: σ) (some .exn :: env) fp
  | clo {c : CloD} {σ : St} {env : List (Option M.O)} {fp : Fp} : Hot.clo.lookup env.length = some c -> CloAt K F T c -> RpE F T σ env fp -> RpE F T (some (.ref c.f) :: σ) (some .clo :: env) fp
inductive RpOb (F : Hp) (T : List Addr) : Addr -> M.Ob -> Fp -> Prop
  | lst {a : Addr} {vs : List V} {os : List M.O} {fp : Fp} : RpA K F T vs os fp -> RpOb F T a (.lst os) ((a, .lst vs) :: fp)
  | dct {a : Addr} {kvs : List (Key × V)} {os : List M.O} {fp : Fp} : k9' kvs -> RpA K F T (kvs.map (·.2)) os fp -> RpOb F T a (.dct (kvs.map fun q => kD q.1) os) ((a, .dK kvs) :: fp)
  | dcl {a : Addr} {kvs : List (Leaf × V)} {ks : List M.D} {os : List M.O} {fp : Fp} : LeafKeys ks (kvs.map (·.1)) -> RpA K F T (kvs.map (·.2)) os fp -> RpOb F T a (.dcx ks os) ((a, dcL a kvs) :: fp)
  | dcn {a : Addr} {xs : List (NestedKey × Addr × V)} {ks : List M.D} {os : List M.O} {fp : Fp} : NestKeys ks xs -> FzA K F T (xs.map fun x => .ref x.2.1) ks -> RpA K F T (xs.map (·.2.2)) os fp -> RpOb F T a (.dcx ks os) ((a, dcN a xs) :: fp)
  | ins {a dx : Addr} {C : String} {fs : List (String × V)} {os : List M.O} {fp : Fp} : F dx = some (.own a) -> RpA K F T (fs.map (·.2)) os fp →
      RpOb F T a (.ins C ((fs.map (·.1)).zip os)) ((a, .ins (He.ga K C) dx (fs.map fun q => (Str.ofString q.1, q.2))) :: fp)
inductive RpW (F : Hp) (T : List Addr) : List Addr -> M.W -> Fp -> Prop
  | nil : RpW F T [] [] []
  | cons {a : Addr} {l : List Addr} {ob : M.Ob} {w : M.W} {fp fq : Fp} : RpOb K F T a ob fp -> RpW F T l w fq -> RpW F T (a :: l) (ob :: w) (fp ++ fq)
structure Kept (F H : Hp) (fp : Fp) (F' H' : Hp) (fp' : Fp) : Prop where
  un : ∀ a, F a = none -> H a ≠ none -> (∀ e ∈ fp, e.1 ≠ a) -> F' a = none /\ H' a = H a /\ ∀ e ∈ fp', e.1 ≠ a
  cd : ∀ c q, Rd F c (LamX.CodeO c q) -> Rd F' c (LamX.CodeO c q)
structure TbAt (F H : Hp) (fp : Fp) (P : Addr) (q : Str) : Prop where
  f : F P = none
  n : ∀ e ∈ fp, e.1 ≠ P
  t : ∃ ps : Array Value, H P = some (.tbl ps) /\ TriplesOk ps.toList /\ ∀ (pos : Pos) (cv : Value), codeAmong pos ps.toList = some cv -> ∃ c, cv = .ref c /\ Rd F c (LamX.CodeO c q)
theorem TbAt.kept {F H F' H' : Hp} {fp fp' : Fp} {P : Addr} {q : Str} (h : TbAt F H fp P q) (k : Kept F H fp F' H' fp') : TbAt F' H' fp' P q := by
  obtain ⟨ps, h1, h2, h3⟩ := h.t
  obtain ⟨k1, k2, k3⟩ := k.un P h.f (by rw [h1]; simp) h.n
  refine ⟨k1, k3, ps, by rw [k2]; exact h1, h2, fun pos cv hc => ?_⟩
  obtain ⟨c, e1, e2⟩ := h3 pos cv hc
  exact ⟨c, e1, k.cd c q e2⟩
structure FpH (F H : Hp) (fp : Fp) : Prop where
  low : Same F H
  at_ : ∀ e ∈ fp, H e.1 = some e.2 /\ F e.1 = none
  nd : (fp.map (·.1)).Nodup
  tb : ∀ p ∈ Wd.ts, TbAt F H fp p.1 p.2
theorem FpH.tbs {F H F' H' : Hp} {fp fp' : Fp} (f : FpH F H fp) (un : ∀ a, F a = none -> H a ≠ none -> (∀ e ∈ fp, e.1 ≠ a) -> F' a = none /\ H' a = H a /\ ∀ e ∈ fp', e.1 ≠ a)
    (cd : ∀ c q, Rd F c (LamX.CodeO c q) -> Rd F' c (LamX.CodeO c q) := by exact fun _ _ h => h) : ∀ p ∈ Wd.ts, TbAt F' H' fp' p.1 p.2 := fun p hp => (f.tb p hp).kept ⟨un, cd⟩
theorem lv' {F F' : Hp} (s : Same F F') {c : Addr} {o : HO} (h : Rd F c o) : Rd F' c o := by
  rcases h with h | ⟨od, h⟩
  . exact .inl (s _ _ h)
  . exact .inr ⟨od, s _ _ h⟩
def Rel (ρ : M.PSt) (σ : St) (H F : Hp) (T : List Addr) (fr : Fp) : Prop := ∃ fe fw, RpE K F T σ ρ.env fe /\ RpW K F T T ρ.w fw /\ FpH F H (fe ++ (fw ++ fr))
abbrev sp' (w : M.W) (H F : Hp) (T : List Addr) (fr : Fp) : Prop := @Rel _ K coldI ⟨[], w⟩ [] H F T fr
theorem xt' {K : PySem.W.Frag} {F : Hp} {T : List Addr} : @RpE _ K coldI F T [] [] [] := @RpE.nil _ K coldI F T
def Lkb (o : HO) : Prop := (∃ kvs, o = .dK kvs) \/ ∃ φ, o = .ext φ
def Wk (F F' : Hp) : Prop := ∀ a o, F a = some o -> F' a = some o \/ Lkb o /\ ∃ od, F' a = some (.frz od o)
theorem Wk.of {F F' : Hp} (s : Same F F') : Wk F F' := fun a o h => .inl (s a o h)
theorem Wk.trans {F F' F2 : Hp} (s : Wk F F') (r : Wk F' F2) : Wk F F2 := fun a o h => by
  rcases s a o h with h1 | ⟨hl, od, h1⟩
  . exact r a o h1
  . rcases r a _ h1 with h2 | ⟨⟨_, e⟩ | ⟨_, e⟩, _⟩
    . exact .inr ⟨hl, od, h2⟩
    . cases e
    . cases e
theorem Wk.at_ {F F' : Hp} (s : Wk F F') {a : Addr} {o : HO} (h : F a = some o) (n : ∀ kvs, o ≠ .dK kvs) (n2 : ∀ φ, o ≠ .ext φ := by intro _ e; cases e) : F' a = some o := by
  rcases s a o h with h | ⟨⟨kvs, rfl⟩ | ⟨φ, rfl⟩, od, _⟩
  . exact h
  . exact absurd rfl (n kvs)
  . exact absurd rfl (n2 φ)
theorem Wk.rd {F F' : Hp} (s : Wk F F') {a : Addr} {u : HO} (hl : Lkb u) (h : Rd F a u) : Rd F' a u := by
  rcases h with h | ⟨o, h⟩
  . rcases s _ _ h with h | ⟨_, od, h⟩
    . exact .inl h
    . exact .inr ⟨od, h⟩
  . exact .inr ⟨o, s.at_ h fun _ e => nomatch e⟩
theorem Wk.lst {F F' : Hp} (s : Wk F F') {a : Addr} {vs : List V} (h : F a = some (.lst vs)) : F' a = some (.lst vs) := s.at_ h fun _ e => nomatch e
theorem Wk.dict {F F' : Hp} (s : Wk F F') {a : Addr} {kvs : List (Key × V)} (h : Rd F a (.dK kvs)) : Rd F' a (.dK kvs) := by
  exact s.rd (.inl ⟨_, rfl⟩) h
theorem Wk.seqT {K : PySem.W.Frag} {F F' : Hp} (s : Wk F F') {a : Addr} {xs : List V} (h : SqT K F a xs) : SqT K F' a xs := by
  rcases h with (h | ⟨o, h⟩) | h
  . exact .inl (.inl (s.at_ h fun _ e => nomatch e))
  . exact .inl (.inr ⟨o, s.at_ h fun _ e => nomatch e⟩)
  . exact .inr h
theorem Wk.seqL {K : PySem.W.Frag} {F F' : Hp} (s : Wk F F') {a : Addr} {xs : List V} (h : SqL K F a xs) : SqL K F' a xs := by
  rcases h with (h | ⟨o, h⟩) | h
  . exact .inl (.inl (s.at_ h fun _ e => nomatch e))
  . exact .inl (.inr ⟨o, s.at_ h fun _ e => nomatch e⟩)
  . exact .inr h
structure Ext (F : Hp) (T : List Addr) (F' : Hp) (T' : List Addr) : Prop where
  f : Wk F F'
  t : T <+: T'
end
variable [Hot]
section
variable {K : PySem.W.Frag} {F F' F2 H H' : Hp} {T T' T2 : List Addr}
theorem Ext.refl : Ext F T F T := ⟨fun _ _ h => .inl h, List.prefix_refl _⟩
theorem Ext.trans (a : Ext F T F' T') (b : Ext F' T' F2 T2) : Ext F T F2 T2 := ⟨a.f.trans b.f, a.t.trans b.t⟩
theorem Ext.of (h : Same F F') : Ext F T F' T := ⟨.of h, List.prefix_refl _⟩
theorem Ext.get (e : Ext F T F' T') {n : Nat} {a : Addr} (h : T[n]? = some a) : T'[n]? = some a := by
  obtain ⟨r, rfl⟩ := e.t
  rw [List.getElem?_append_left (List.getElem?_eq_some_iff.mp h).1]
  exact h
mutual
theorem Fz.mono (e : Ext F T F' T') : ∀ {v : V} {d : M.D}, Fz K F T v d -> Fz K F' T' v d
  | _, _, .non => .non
  | _, _, .bl b => .bl b
  | _, _, .int i => .int i
  | _, _, .str h => .str h
  | _, _, .tup h r => .tup (e.f.seqT h) (FzA.mono e r)
  | _, _, .lst h r => .lst (e.f.lst h) (FzA.mono e r)
  | _, _, .dct h k r => .dct (e.f.dict h) k (FzA.mono e r)
  | _, _, .dcl h k r => .dcl (e.f.rd (.inr ⟨_, rfl⟩) h) k (FzA.mono e r)
  | _, _, .dcn h k q r => .dcn (e.f.rd (.inr ⟨_, rfl⟩) h) k (FzA.mono e q) (FzA.mono e r)
  | _, _, .rep d => .rep d
  | _, _, .obj h => .obj (e.get h)
  | _, _, .ty n => .ty n
  | _, _, .fn x => .fn x
  | _, _, .scr h r => .scr (e.f.seqL h) (FzA.mono e r)
theorem FzA.mono (e : Ext F T F' T') : ∀ {vs : List V} {ds : List M.D}, FzA K F T vs ds -> FzA K F' T' vs ds
  | _, _, .nil => .nil
  | _, _, .cons h r => .cons (Fz.mono e h) (FzA.mono e r)
end
mutual
theorem Rp.mono (e : Ext F T F' T') : ∀ {v : V} {o : M.O} {fp : Fp}, Rp K F T v o fp -> Rp K F' T' v o fp
  | _, _, _, .fz h => .fz (h.mono e)
  | _, _, _, .lst r => .lst (RpA.mono e r)
  | _, _, _, .tup r => .tup (RpA.mono e r)
  | _, _, _, .dct k r => .dct k (RpA.mono e r)
  | _, _, _, .dcl k r => .dcl k (RpA.mono e r)
  | _, _, _, .dcn k q r => .dcn k (q.mono e) (RpA.mono e r)
theorem RpA.mono (e : Ext F T F' T') : ∀ {vs : List V} {os : List M.O} {fp : Fp}, RpA K F T vs os fp -> RpA K F' T' vs os fp
  | _, _, _, .nil => .nil
  | _, _, _, .cons h r => .cons (Rp.mono e h) (RpA.mono e r)
end
theorem XcR.mono' (e : Ext F T F' T') {x : M.Exc} {cls : Value} {dd : Option Addr} (h : XcR K F T x cls dd) : XcR K F' T' x cls dd := by
  obtain ⟨h1, h2 | ⟨a, f, v, d, h3, h4, h5, h6⟩⟩ := h
  . exact ⟨h1, .inl h2⟩
  . exact ⟨h1, .inr ⟨a, f, v, d, h3, h4, e.f.at_ h5 (fun _ z => nomatch z), h6.mono e⟩⟩
theorem CloAt.mono (e : Ext F T F' T') {c : CloD} (h : CloAt K F T c) : CloAt K F' T' c := ⟨e.f.rd (.inr ⟨_, rfl⟩) h.fn, e.f.rd (.inr ⟨_, rfl⟩) h.code, h.caps.mono e⟩
theorem RpE.mono (e : Ext F T F' T') {σ : St} {env : List (Option M.O)} {fp : Fp} (h : RpE K F T σ env fp) : RpE K F' T' σ env fp := by
  induction h with
  | nil => exact .nil
  | off _ ih => exact .off ih
  | on r _ ih => exact .on (r.mono e) ih
  | hot h z _ ih => exact .hot h (z.mono' e) ih
  | clo h z _ ih => exact .clo h (z.mono e) ih
theorem RpOb.mono (e : Ext F T F' T') {a : Addr} {ob : M.Ob} {fp : Fp} (h : RpOb K F T a ob fp) : RpOb K F' T' a ob fp := by
  cases h with
  | lst r => exact .lst (r.mono e)
  | dct k r => exact .dct k (r.mono e)
  | dcl k r => exact .dcl k (r.mono e)
  | dcn k q r => exact .dcn k (q.mono e) (r.mono e)
  | ins d r => exact .ins (e.f.at_ d fun _ z => nomatch z) (r.mono e)
theorem RpW.mono (e : Ext F T F' T') {l : List Addr} {w : M.W} {fp : Fp} (h : RpW K F T l w fp) : RpW K F' T' l w fp := by
  induction h with
  | nil => exact .nil
  | cons r _ ih => exact .cons (r.mono e) ih
theorem FpH.new {p : Addr} {o : HO} {fp : Fp} (f : FpH F H fp) (hp : H p = none) : FpH (upd F p o) (upd H p o) fp := by
  have np : ∀ e ∈ fp, e.1 ≠ p := fun e he => ne_of_none (f.at_ e he).1 hp
  refine ⟨fun a u h => ?_, fun e he => ?_, f.nd, f.tbs (fun a h1 h2 h3 => ?_) fun c q h => lv' (fun b u e => by rw [upd_ne (fun z => by rw [z] at e; rw [f.low _ _ e] at hp; cases hp)]; exact e) h⟩
  . by_cases ha : a = p
    . subst ha; rw [upd_same] at h ⊢; exact h
    . rw [upd_ne ha] at h ⊢; exact f.low _ _ h
  . rw [upd_ne (np e he), upd_ne (np e he)]; exact f.at_ e he
  . have ha : a ≠ p := fun z => h2 (by rw [z]; exact hp)
    exact ⟨by rw [upd_ne ha]; exact h1, upd_ne ha, h3⟩
theorem FpH.free {fp : Fp} (f : FpH F H fp) {p : Addr} (hp : H p = none) : F p = none := by
  cases h : F p with
  | none => rfl
  | some o => rw [f.low _ _ h] at hp; cases hp
theorem cy' {p : Addr} {o : HO} (h : F p = none) : Same F (upd F p o) := fun b u e => by rw [upd_ne (ne_of_none e h)]; exact e
end
section
variable {K : PySem.W.Frag} {W : WX} {α β : Type}
abbrev Wx := M.Exc -> M.PSt -> Prop
def aW' (r : M.Res α) (P : α -> M.PSt -> Prop) (X : Wx) : Prop := match r with
  | .ok a ρ => P a ρ
  | .exc x ρ => X x ρ
  | .bad => False
theorem aW'.bind {r : M.Res α} {f : α -> M.PSt -> M.Res β} {P : β -> M.PSt -> Prop} {X : Wx} (h : aW' (r.bind f) P X) : aW' r (fun a ρ => aW' (f a ρ) P X) X := by
  cases r with
  | ok a ρ => exact h
  | exc x ρ => exact h
  | bad => exact h
theorem aW'.ofO {o : Option α} {ρ : M.PSt} {P : α -> M.PSt -> Prop} {X : Wx} (h : aW' (M.ofO o ρ) P X) : ∃ a, o = some a /\ P a ρ := by
  cases o with
  | none => exact h.elim
  | some a => exact ⟨a, rfl, h⟩
theorem aW'.mono {r : M.Res α} {P P' : α -> M.PSt -> Prop} {X X' : Wx} (h : aW' r P X) (hp : ∀ a ρ, P a ρ -> P' a ρ) (hx : ∀ x ρ, X x ρ -> X' x ρ) : aW' r P' X' := by
  cases r with
  | ok a ρ => exact hp _ _ h
  | exc x ρ => exact hx _ _ h
  | bad => exact h
def EX (K : PySem.W.Frag) (W : WX) (σ : St) (F : Hp) (T : List Addr) (fr : Fp) : Wx := fun x ρ => ∀ cls dd H' F' T', Ext F T F' T' -> XcR K F' T' x cls dd -> Rel K ρ σ H' F' T' fr -> W cls dd σ H'
theorem EX.mono {σ : St} {F F' : Hp} {T T' : List Addr} {fr : Fp} {x : M.Exc} {ρ : M.PSt} (h : EX K W σ F T fr x ρ) (e : Ext F T F' T') : EX K W σ F' T' fr x ρ := fun cls dd H' F2 T2 e2 => h cls dd H' F2 T2 (e.trans e2)
def qE (K : PySem.W.Frag) (W : WX) (m : M.ME) : TE := fun σ H Q => ∃ ρ F T fr, Rel K ρ σ H F T fr ∧
  aW' (m ρ) (fun d ρ' => ∀ v H' F' T', Ext F T F' T' -> Fz K F' T' v d -> Rel K ρ' σ H' F' T' fr -> Q v H') (EX K W σ F T fr)
def qO (K : PySem.W.Frag) (W : WX) (m : M.MO) : TE := fun σ H Q => ∃ ρ F T fr, Rel K ρ σ H F T fr ∧
  aW' (m ρ) (fun o ρ' => ∀ v H' F' T' fp, Ext F T F' T' -> Rp K F' T' v o fp -> Rel K ρ' σ H' F' T' (fp ++ fr) -> Q v H') (EX K W σ F T fr)
def qA (K : PySem.W.Frag) (W : WX) (m : M.MA) : TA := fun σ H Q => ∃ ρ F T fr, Rel K ρ σ H F T fr ∧
  aW' (m ρ) (fun ds ρ' => ∀ vs H' F' T', Ext F T F' T' -> FzA K F' T' vs ds -> Rel K ρ' σ H' F' T' fr -> Q vs H') (EX K W σ F T fr)
def qT (K : PySem.W.Frag) (W : WX) (m : M.MT) : TT := fun σ H Q => ∃ ρ F T fr, Rel K ρ σ H F T fr ∧
  aW' (m ρ) (fun b ρ' => ∀ H' F' T', Ext F T F' T' -> Rel K ρ' σ H' F' T' fr -> Q b H') (EX K W σ F T fr)
def qP (K : PySem.W.Frag) (W : WX) (m : M.MP) : TO := fun σ H Q => ∃ ρ F T fr, Rel K ρ σ H F T fr ∧
  aW' (m ρ) (fun b ρ' => ∀ H' F' T', Ext F T F' T' -> Rel K ρ' σ H' F' T' fr -> Q b H') (EX K W σ F T fr)
def bw' (K : PySem.W.Frag) (W : WX) (D : Ends) (F : Hp) (T : List Addr) (fr : Fp) : M.Out -> Prop
  | .nx ρ => ∀ σ' H' F' T', Ext F T F' T' -> Rel K ρ σ' H' F' T' fr -> D.nx σ' H'
  | .bk ρ => ∀ σ' H' F' T', Ext F T F' T' -> Rel K ρ σ' H' F' T' fr -> D.bk σ' H'
  | .ct ρ => ∀ σ' H' F' T', Ext F T F' T' -> Rel K ρ σ' H' F' T' fr -> D.ct σ' H'
  | .rt o w => ∀ v H' F' T' fp, Ext F T F' T' -> Rp K F' T' v o fp -> sp' K (w) H' F' T' (fp ++ fr) -> D.rt v H'
  | .exc x ρ => ∀ σ' cls dd H' F' T', Ext F T F' T' -> XcR K F' T' x cls dd -> Rel K ρ σ' H' F' T' fr -> W cls dd σ' H'
  | .bad => False
def qS (K : PySem.W.Frag) (W : WX) (m : M.MS) : TS := fun D σ H => ∃ ρ F T fr, Rel K ρ σ H F T fr /\ bw' K W D F T fr (m ρ)
abbrev SE (X : Cx) (W : WX) (e : Expr) (m : M.ME) : Prop := PE X e (qE X.K W m)
abbrev SO (X : Cx) (W : WX) (e : Expr) (m : M.MO) : Prop := PE X e (qO X.K W m)
abbrev SA (X : Cx) (W : WX) (es : List Expr) (m : M.MA) : Prop := PA X es (qA X.K W m)
abbrev ST (X : Cx) (W : WX) (e : Expr) (m : M.MT) : Prop := PT X e (qT X.K W m)
abbrev SS (X : Cx) (W : WX) (s : Stmt) (m : M.MS) : Prop := PS X s (qS X.K W m)
abbrev SSs (X : Cx) (W : WX) (s : List Stmt) (m : M.MS) : Prop := PSs X s (qS X.K W m)
theorem PE.imp {X : Cx} {e : Expr} {t t' : TE} (h : PE X e t) (i : ∀ σ H Q, t' σ H Q -> t σ H Q) : PE X e t' := ⟨fun pins s σ H Q I q => h.run pins s σ H Q I (i σ H Q q)⟩
theorem PT.imp {X : Cx} {e : Expr} {t t' : TT} (h : PT X e t) (i : ∀ σ H Q, t' σ H Q -> t σ H Q) : PT X e t' := ⟨fun pins s σ H Q I q => h.run pins s σ H Q I (i σ H Q q)⟩
theorem PW.imp {X : Cx} {e : Expr} {t t' : TT} (h : PW X e t) (i : ∀ σ H Q, t' σ H Q -> t σ H Q) : PW X e t' := ⟨fun wh pins s σ H Q I q => h.run wh pins s σ H Q I (i σ H Q q)⟩
theorem PA.imp {X : Cx} {e : List Expr} {t t' : TA} (h : PA X e t) (i : ∀ σ H Q, t' σ H Q -> t σ H Q) : PA X e t' := ⟨fun pos pins s σ H Q I q => h.run pos pins s σ H Q I (i σ H Q q)⟩
theorem PS.imp {X : Cx} {e : Stmt} {t t' : TS} (h : PS X e t) (i : ∀ D σ H, t' D σ H -> t D σ H) : PS X e t' := ⟨fun pins s σ H Q I q => h.run pins s σ H Q I (i Q σ H q)⟩
theorem PSs.imp {X : Cx} {e : List Stmt} {t t' : TS} (h : PSs X e t) (i : ∀ D σ H, t' D σ H -> t D σ H) : PSs X e t' := ⟨fun pins s σ H Q I q => h.run pins s σ H Q I (i Q σ H q)⟩
theorem PO.imp {X : Cx} {e : Option Expr} {t t' : TO} (h : PO X e t) (i : ∀ σ H Q, t' σ H Q -> t σ H Q) : PO X e t' := ⟨fun pins s σ H Q I q => h.run pins s σ H Q I (i σ H Q q)⟩
variable {σ : St} {H F : Hp} {T : List Addr} {fr : Fp} {ρ : M.PSt} {P : β -> M.PSt -> Prop} {X : Wx}
theorem aA' {m : M.ME} {k : M.D -> M.PSt -> M.Res β} {Q : VK} (rel : Rel K ρ σ H F T fr) (h : aW' ((m ρ).bind k) P (EX K W σ F T fr))
    (q : ∀ d ρ1 v H1 F1 T1, Ext F T F1 T1 -> Fz K F1 T1 v d -> Rel K ρ1 σ H1 F1 T1 fr -> aW' (k d ρ1) P (EX K W σ F1 T1 fr) -> Q v H1) : qE K W m σ H Q :=
  ⟨ρ, F, T, fr, rel, (aW'.bind h).mono (fun d ρ1 h1 v H1 F1 T1 e z r => q d ρ1 v H1 F1 T1 e z r (h1.mono (fun _ _ z => z) fun _ _ z => z.mono e)) fun _ _ z => z⟩
theorem c7' {m : M.MA} {k : List M.D -> M.PSt -> M.Res β} {Q : List V -> Hp -> Prop} (rel : Rel K ρ σ H F T fr) (h : aW' ((m ρ).bind k) P (EX K W σ F T fr))
    (q : ∀ ds ρ1 vs H1 F1 T1, Ext F T F1 T1 -> FzA K F1 T1 vs ds -> Rel K ρ1 σ H1 F1 T1 fr -> aW' (k ds ρ1) P (EX K W σ F1 T1 fr) -> Q vs H1) : qA K W m σ H Q :=
  ⟨ρ, F, T, fr, rel, (aW'.bind h).mono (fun d ρ1 h1 v H1 F1 T1 e z r => q d ρ1 v H1 F1 T1 e z r (h1.mono (fun _ _ z => z) fun _ _ z => z.mono e)) fun _ _ z => z⟩
theorem lx' {m : M.MT} {k : Bool -> M.PSt -> M.Res β} {Q : Bool -> Hp -> Prop} (rel : Rel K ρ σ H F T fr) (h : aW' ((m ρ).bind k) P (EX K W σ F T fr))
    (q : ∀ b ρ1 H1 F1 T1, Ext F T F1 T1 -> Rel K ρ1 σ H1 F1 T1 fr -> aW' (k b ρ1) P (EX K W σ F1 T1 fr) -> Q b H1) : qT K W m σ H Q :=
  ⟨ρ, F, T, fr, rel, (aW'.bind h).mono (fun d ρ1 h1 H1 F1 T1 e r => q d ρ1 H1 F1 T1 e r (h1.mono (fun _ _ z => z) fun _ _ z => z.mono e)) fun _ _ z => z⟩
theorem qZ' {m : M.MP} {k : Option Int -> M.PSt -> M.Res β} {Q : Option Int -> Hp -> Prop} (rel : Rel K ρ σ H F T fr) (h : aW' ((m ρ).bind k) P (EX K W σ F T fr))
    (q : ∀ b ρ1 H1 F1 T1, Ext F T F1 T1 -> Rel K ρ1 σ H1 F1 T1 fr -> aW' (k b ρ1) P (EX K W σ F1 T1 fr) -> Q b H1) : qP K W m σ H Q :=
  ⟨ρ, F, T, fr, rel, (aW'.bind h).mono (fun d ρ1 h1 H1 F1 T1 e r => q d ρ1 H1 F1 T1 e r (h1.mono (fun _ _ z => z) fun _ _ z => z.mono e)) fun _ _ z => z⟩
end
end S
namespace S
open PySem PySem.Spec PyProof.Rows L2
variable [Wd] [Hot]
section
variable {K : PySem.W.Frag} {F H : Hp} {T : List Addr} {v : V} {d : M.D} {vs ws : List V} {ds es : List M.D}
theorem Fz.int_inv {i : Int} (h : Fz K F T v (.int i)) : v = .int i := by cases h; rfl
theorem Fz.bl_inv {i : Bool} (h : Fz K F T v (.bl i)) : v = .bl i := by cases h; rfl
theorem Fz.non_inv (h : Fz K F T v .non) : v = .non := by cases h; rfl
theorem Fz.str_inv {s : M.Tx} (h : Fz K F T v (.str s)) : v = .str (sx s) /\ okT s := by cases h with | str h => exact ⟨rfl, h⟩
theorem Fz.tup_inv (h : Fz K F T v (.tup ds)) : ∃ a vs, v = .ref a /\ SqT K F a vs /\ FzA K F T vs ds := by cases h with | tup h r => exact ⟨_, _, rfl, h, r⟩
theorem Fz.lst_inv (h : Fz K F T v (.lst ds)) : ∃ a vs, v = .ref a /\ F a = some (.lst vs) /\ FzA K F T vs ds := by cases h with | lst h r => exact ⟨_, _, rfl, h, r⟩
theorem FzA.length : ∀ {vs : List V} {ds : List M.D}, FzA K F T vs ds -> vs.length = ds.length
  | _, _, .nil => rfl
  | _, _, .cons _ r => congrArg (· + 1) (FzA.length r)
theorem FzA.append : ∀ {vs ws : List V} {ds es : List M.D}, FzA K F T vs ds -> FzA K F T ws es -> FzA K F T (vs ++ ws) (ds ++ es)
  | _, _, _, _, .nil, h => h
  | _, _, _, _, .cons a r, h => .cons a (FzA.append r h)
theorem FzA.take : ∀ {vs : List V} {ds : List M.D} (n : Nat), FzA K F T vs ds -> FzA K F T (vs.take n) (ds.take n)
  | _, _, 0, _ => .nil
  | _, _, n + 1, .nil => .nil
  | _, _, n + 1, .cons a r => .cons a (FzA.take n r)
theorem FzA.drop : ∀ {vs : List V} {ds : List M.D} (n : Nat), FzA K F T vs ds -> FzA K F T (vs.drop n) (ds.drop n)
  | _, _, 0, h => h
  | _, _, n + 1, .nil => .nil
  | _, _, n + 1, .cons a r => FzA.drop n r
theorem FzA.get : ∀ {vs : List V} {ds : List M.D} {i : Nat} {d : M.D}, FzA K F T vs ds -> ds[i]? = some d -> ∃ v, vs[i]? = some v /\ Fz K F T v d
  | _, _, _, _, .nil, e => by cases e
  | _, _, 0, _, .cons h _, e => ⟨_, rfl, by rw [<- Option.some.inj e]; exact h⟩
  | _, _, i + 1, _, .cons _ r, e => FzA.get (i := i) r e
theorem FzA.rep {vs : List V} {ds : List M.D} (h : FzA K F T vs ds) : ∀ n, FzA K F T (List.replicate n vs).flatten (List.replicate n ds).flatten
  | 0 => .nil
  | n + 1 => FzA.append h (FzA.rep h n)
theorem FzA.cutV {lo hi : Option Int} (h : FzA K F T vs ds) : FzA K F T (cutV vs lo hi) (M.cut ds lo hi) := by
  unfold L2.cutV M.cut
  rw [h.length]
  exact FzA.take _ (FzA.drop _ h)
theorem FzA.of_all : ∀ {n : Nat} {f : Nat -> V} {g : Nat -> M.D}, (∀ i, Fz K F T (f i) (g i)) -> FzA K F T ((List.range n).map f) ((List.range n).map g) := by
  intro n f g h
  generalize List.range n = l
  induction l with
  | nil => exact .nil
  | cons a l ih => exact .cons (h a) ih
theorem oM' {c : Nat} (h : c < 1114112) : Fz K F T (.str ⟨#[c]⟩) (M.chD c) := Fz.str (s := [c]) ⟨fun x hx => by rw [List.mem_singleton.mp hx]; exact h, by show 1 <= 16777216; decide⟩
theorem FzA.chars : ∀ {s : M.Tx}, (∀ c ∈ s, c < 1114112) -> FzA K F T (s.map chv) (s.map M.chD)
  | [], _ => .nil
  | c :: s, h => .cons (oM' (h c (by simp))) (FzA.chars fun x hx => h x (by simp [hx]))
theorem SqT.low (s : Same F H) {a : Addr} (h : SqT K F a vs) : SqT K H a vs := seqT s h
theorem okT.app {a b : M.Tx} (h1 : okT a) (h2 : okT b) (h : a.length + b.length <= M.dp') : okT (a ++ b) :=
  ⟨fun c hc => (List.mem_append.mp hc).elim (h1.1 c) (h2.1 c), by rw [List.length_append]; exact h⟩
theorem okT.sub {a b : M.Tx} (h1 : okT a) (h : ∀ c ∈ b, c ∈ a) (hl : b.length <= a.length) : okT b := ⟨fun c hc => h1.1 c (h c hc), Nat.le_trans hl h1.2⟩
theorem okT.len {s : M.Tx} (h : okT s) : (sx s).length <= sizeLine := by rw [ct', sizeLine_eq]; exact h.2
theorem bM' : sizeLine = M.dp' := sizeLine_eq
theorem Rel.fp {ρ : M.PSt} {σ : St} {fr : Fp} (r : Rel K ρ σ H F T fr) : ∃ fp, FpH F H fp /\ ∀ H' F', Same F F' -> FpH F' H' fp -> Rel K ρ σ H' F' T fr := by
  obtain ⟨fe, fw, re, rw, f⟩ := r
  exact ⟨_, f, fun H' F' s f' => ⟨fe, fw, re.mono (.of s), rw.mono (.of s), f'⟩⟩
abbrev fj' (K : PySem.W.Frag) (F : Hp) (T : List Addr) (fp : Fp) (dz : M.D) (Q : VK) : Prop := ∀ v H' F', Same F F' -> Fz K F' T v dz -> FpH F' H' fp -> Q v H'
theorem fj'.here {fp : Fp} {dz : M.D} {Q : VK} (k : fj' K F T fp dz Q) (f : FpH F H fp) (z : Fz K F T v dz) : Q v H := k v H F (fun _ _ e => e) z f
theorem fj'.newT {fp : Fp} {Q : VK} (k : fj' K F T fp (.tup ds) Q) (f : FpH F H fp) (z : FzA K F T vs ds) {p : Addr} (hp : H p = none) : Q (.ref p) (upd H p (.tup vs)) := by
  have s : Same F (upd F p (.tup vs)) := cy' (f.free hp)
  exact k _ _ _ s (.tup (SqT.of upd_same) (z.mono (.of s))) (f.new hp)
theorem fj'.newL {fp : Fp} {Q : VK} (k : fj' K F T fp (.lst ds) Q) (f : FpH F H fp) (z : FzA K F T vs ds) {p : Addr} (hp : H p = none) : Q (.ref p) (upd H p (.lst vs)) := by
  have s : Same F (upd F p (.lst vs)) := cy' (f.free hp)
  exact k _ _ _ s (.lst upd_same (z.mono (.of s))) (f.new hp)
end
section
variable (K : PySem.W.Frag)
def Op1 (f : M.D -> Option M.D) (r : V -> Hp -> VK -> Prop) : Prop := ∀ {F H : Hp} {T : List Addr} {fp : Fp} {x : V} {dx dz : M.D} {Q : VK}, FpH F H fp -> Fz K F T x dx -> f dx = some dz -> fj' K F T fp dz Q -> r x H Q
def Op2 (f : M.D -> M.D -> Option M.D) (r : R2) : Prop := ∀ {F H : Hp} {T : List Addr} {fp : Fp} {x y : V} {dx dy dz : M.D} {Q : VK}, FpH F H fp -> Fz K F T x dx -> Fz K F T y dy -> f dx dy = some dz -> fj' K F T fp dz Q -> r x y H Q
end
section
variable {K : PySem.W.Frag}
mutual
theorem Fz.py {F H : Hp} {T : List Addr} (s : Same F H) : ∀ {v : V} {d : M.D}, Fz K F T v d -> M.dat d = true -> Dp K H v (py d)
  | _, _, .non, _ => .non
  | _, _, .bl b, _ => .bl b
  | _, _, .int i, _ => .int i
  | _, _, .str h, _ => .str _
  | _, _, .tup h r, e => .tup (seqT s h) (FzA.py s r e)
  | _, _, .lst h r, e => .lst (SqL.of (s _ _ h)) (FzA.py s r e)
  | _, _, .dct h _ r, e => by cases e
  | _, _, .dcl _ _ _, e => by cases e
  | _, _, .dcn _ _ _ _, e => by cases e
  | _, _, .rep _, e => by cases e
  | _, _, .obj h, e => by cases e
  | _, _, .ty n, e => by cases e
  | _, _, .fn x, e => by cases e
  | _, _, .scr h r, e => by cases e
theorem FzA.py {F H : Hp} {T : List Addr} (s : Same F H) : ∀ {vs : List V} {ds : List M.D}, FzA K F T vs ds -> M.dats ds = true -> DpAll K H vs (pys ds)
  | _, _, .nil, _ => .nil
  | _, _, .cons h r, e => by
    obtain ⟨e1, e2⟩ := Bool.and_eq_true_iff.mp (show (M.dat _ && M.dats _) = true from e)
    exact .cons (Fz.py s h e1) (FzA.py s r e2)
end
theorem sH' {s : M.Tx} (h : okT s) : PyData.strOk (sx s) = true := by
  unfold PyData.strOk
  rw [Array.all_eq_true']
  intro c hc
  have := h.1 c (by simpa [sx] using hc)
  simp only [decide_eq_true_eq]
  omega
mutual
theorem nV' {F : Hp} {T : List Addr} : ∀ {v : V} {d : M.D}, Fz K F T v d -> M.dat d = true -> (py d).canLay0 = true /\ (py d).depth = M.dep d
  | _, _, .non, _ => ⟨rfl, rfl⟩
  | _, _, .bl b, _ => ⟨rfl, rfl⟩
  | _, _, .int i, _ => ⟨rfl, rfl⟩
  | _, _, .str h, _ => ⟨sH' h, rfl⟩
  | _, _, .tup h r, e => by
    obtain ⟨h1, h2⟩ := lays_of r e
    exact ⟨h1, congrArg (· + 1) h2⟩
  | _, _, .lst h r, e => by
    obtain ⟨h1, h2⟩ := lays_of r e
    exact ⟨h1, congrArg (· + 1) h2⟩
  | _, _, .dct h _ r, e => by cases e
  | _, _, .dcl _ _ _, e => by cases e
  | _, _, .dcn _ _ _ _, e => by cases e
  | _, _, .rep _, e => by cases e
  | _, _, .obj h, e => by cases e
  | _, _, .ty n, e => by cases e
  | _, _, .fn x, e => by cases e
  | _, _, .scr h r, e => by cases e
theorem lays_of {F : Hp} {T : List Addr} : ∀ {vs : List V} {ds : List M.D}, FzA K F T vs ds -> M.dats ds = true -> PyData.canLayAll0 (pys ds) = true /\ PyData.depthAll (pys ds) = M.deps ds
  | _, _, .nil, _ => ⟨rfl, rfl⟩
  | _, _, .cons h r, e => by
    obtain ⟨e1, e2⟩ := Bool.and_eq_true_iff.mp (show (M.dat _ && M.dats _) = true from e)
    obtain ⟨a1, a2⟩ := nV' h e1
    obtain ⟨b1, b2⟩ := lays_of r e2
    refine ⟨?_, ?_⟩
    . show (PyData.canLay0 _ && PyData.canLayAll0 _) = true
      rw [a1, b1]; rfl
    . show max (PyData.depth _) (PyData.depthAll _) = max _ _
      rw [a2, b2]
end
theorem uy' (a b : M.Tx) : (sx a == sx b) = (a == b) := by
  rw [Bool.eq_iff_iff, beq_iff_eq, beq_iff_eq]
  exact ⟨ux', fun h => by rw [h]⟩
mutual
theorem uU' : ∀ (d e : M.D), M.dat d = true -> M.dat e = true -> PyData.eqv (py d) (py e) = M.eqb d e
  | .non, e, _, h => by cases e <;> first | rfl | cases h
  | .bl a, e, _, h => by cases e <;> first | rfl | cases h
  | .int a, e, _, h => by cases e <;> first | rfl | cases h
  | .str a, e, _, h => by
    cases e with
    | str b => exact uy' a b
    | _ => first | rfl | cases h
  | .tup a, e, h1, h => by
    cases e with
    | tup b => exact eqvs_py a b h1 h
    | _ => first | rfl | cases h
  | .lst a, e, h1, h => by
    cases e with
    | lst b => exact eqvs_py a b h1 h
    | _ => first | rfl | cases h
  | .dct _ _, _, h, _ => by cases h
  | .obj _, _, h, _ => by cases h
  | .ty _, _, h, _ => by cases h
  | .fn _, _, h, _ => by cases h
  | .exc _ _, _, h, _ => by cases h
  | .scr _, _, h, _ => by cases h
theorem eqvs_py : ∀ (d e : List M.D), M.dats d = true -> M.dats e = true -> PyData.eqvAll (pys d) (pys e) = M.eqbs d e
  | [], [], _, _ => rfl
  | [], _ :: _, _, _ => rfl
  | _ :: _, [], _, _ => rfl
  | a :: d, b :: e, h1, h2 => by
    obtain ⟨a1, a2⟩ := Bool.and_eq_true_iff.mp (show (M.dat _ && M.dats _) = true from h1)
    obtain ⟨b1, b2⟩ := Bool.and_eq_true_iff.mp (show (M.dat _ && M.dats _) = true from h2)
    show (PyData.eqv (py a) (py b) && PyData.eqvAll (pys d) (pys e)) = (M.eqb a b && M.eqbs d e)
    rw [uU' a b a1 b1, eqvs_py d e a2 b2]
end
theorem zk' {F H : Hp} {T : List Addr} {fp : Fp} {x y : V} {dx dy : M.D} {b : Bool} (f : FpH F H fp) (hx : Fz K F T x dx) (hy : Fz K F T y dy) (h : M.eqv dx dy = some b) :
    ∃ d e, Dp K H x d /\ Dp K H y e /\ SeqAt.shaped d = true /\ SeqAt.shaped e = true /\ PyData.eqv d e = b := by
  unfold M.eqv at h
  split at h
  . rename_i c
    obtain ⟨c1, c2, c3, c4⟩ := c
    obtain ⟨a1, a2⟩ := nV' hx c1
    obtain ⟨b1, b2⟩ := nV' hy c2
    refine ⟨_, _, hx.py f.low c1, hy.py f.low c2, ?_, ?_, ?_⟩
    . exact Sh.shaped (n := 64) ⟨a1, by rw [a2]; exact c3⟩ (Nat.le_refl _)
    . exact Sh.shaped (n := 64) ⟨b1, by rw [b2]; exact c4⟩ (Nat.le_refl _)
    . rw [uU' _ _ c1 c2]; exact Option.some.inj h
  . cases h
theorem i2' : Op2 K M.pEq (Bm' K) := by
  intro F H T fp x y dx dy dz Q f hx hy h k
  unfold M.pEq M.ob at h
  cases e : M.eqv dx dy with
  | none => rw [e] at h; cases h
  | some b =>
    rw [e] at h
    cases h
    obtain ⟨d, e, h1, h2, h3, h4, h5⟩ := zk' f hx hy e
    exact .inr ⟨d, e, h1, h2, h3, h4, by rw [h5]; exact k.here f (.bl b)⟩
theorem BC' : Op2 K M.pNe (Bj' K) := by
  intro F H T fp x y dx dy dz Q f hx hy h k
  unfold M.pNe M.ob at h
  cases e : M.eqv dx dy with
  | none => rw [e] at h; cases h
  | some b =>
    rw [e] at h
    cases h
    obtain ⟨d, e, h1, h2, h3, h4, h5⟩ := zk' f hx hy e
    exact .inr ⟨d, e, h1, h2, h3, h4, by rw [h5]; exact k.here f (.bl (!b))⟩
theorem bP' : Op2 K M.cI' (yw' K) := by
  intro F H T fp x y dx dy dz Q f hx hy h k
  cases dx <;> cases dy <;> try (cases h; done)
  . cases hx; cases hy; cases h
    exact .inl ⟨_, _, rfl, rfl, k.here f (.int _)⟩
  . obtain ⟨rfl, o1⟩ := hx.str_inv
    obtain ⟨rfl, o2⟩ := hy.str_inv
    simp only [M.cI'] at h
    split at h
    . rename_i hl
      cases h
      refine .inr (.inl ⟨_, _, rfl, rfl, by rw [ct', ct', bM']; exact hl, ?_⟩)
      rw [x2']
      exact k.here f (.str (o1.app o2 hl))
    . cases h
  . obtain ⟨a, vs, rfl, ha, za⟩ := hx.tup_inv
    obtain ⟨b, ws, rfl, hb, zb⟩ := hy.tup_inv
    simp only [M.cI'] at h
    split at h
    . rename_i hl
      cases h
      refine .inr (.inr (.inr ⟨a, b, vs, ws, rfl, rfl, seqT f.low ha, seqT f.low hb, by rw [za.length, zb.length, bM']; exact hl, fun e => ?_, fun _ e => ?_, fun _ _ p hp => k.newT f (za.append zb) hp⟩))
      . subst e
        cases za
        exact k.here f (.tup hb zb)
      . subst e
        cases zb
        refine k.here f ?_
        rw [List.append_nil]
        exact .tup ha za
    . cases h
  . obtain ⟨a, vs, rfl, ha, za⟩ := hx.lst_inv
    obtain ⟨b, ws, rfl, hb, zb⟩ := hy.lst_inv
    simp only [M.cI'] at h
    split at h
    . rename_i hl
      cases h
      exact .inr (.inr (.inl ⟨a, b, vs, ws, rfl, rfl, f.low _ _ ha, f.low _ _ hb, by rw [za.length, zb.length, bM']; exact hl, fun p hp => k.newL f (za.append zb) hp⟩))
    . cases h
theorem rh' : Op2 K M.uK' (rI0 fun i j => .int (i - j)) := by
  intro F H T fp x y dx dy dz Q f hx hy h k
  cases dx <;> cases dy <;> try (cases h; done)
  cases hx; cases hy; cases h
  exact ⟨_, _, rfl, rfl, k.here f (.int _)⟩
theorem yj' (s : M.Tx) (n : Nat) : o5' (sx s) n = sx (List.replicate n s).flatten := rfl
theorem yl' {s : M.Tx} {n : Nat} (h : okT s) (hl : s.length * n <= M.dp') : okT (List.replicate n s).flatten := by
  refine ⟨fun c hc => ?_, ?_⟩
  . obtain ⟨l, h1, h2⟩ := List.mem_flatten.mp hc
    rw [List.eq_of_mem_replicate h1] at h2
    exact h.1 c h2
  . rw [List.length_flatten]
    simp
    rw [Nat.mul_comm]
    exact hl
def ym' : R2 := fun x y H Q => yn' x y H Q \/ rI CMulW (fun i j => .int (i * j)) x y H Q
theorem c9' {X : Cx} : OpR X (binaryOp .Mult) ym' := v4'.or op_mulW
theorem yR' {i : Int} (h : -2582249878086908589655919172003011874329705792829223512830659356540647622016841194629645353280137831435903171972747493376 < i /\ i < 2582249878086908589655919172003011874329705792829223512830659356540647622016841194629645353280137831435903171972747493376) : i.natAbs < 2 ^ 400 := by
  have : (2 : Nat) ^ 400 = 2582249878086908589655919172003011874329705792829223512830659356540647622016841194629645353280137831435903171972747493376 := by decide +kernel
  omega
theorem i1' : Op2 K M.iU' ym' := by
  intro F H T fp x y dx dy dz Q f hx hy h k
  cases dx <;> cases dy <;> try (cases h; done)
  . cases hx; cases hy
    simp only [M.iU'] at h
    split at h
    . rename_i hc
      cases h
      rcases hc with hc | hc
      . refine .inl (.inl ⟨_, _, rfl, rfl, ?_, k.here f (.int _)⟩)
        rcases hc with hc | hc <;> simp only [M.small64, Bool.and_eq_true, decide_eq_true_eq] at hc
        . exact .inl hc
        . exact .inr hc
      . exact .inr ⟨_, _, rfl, rfl, wide_mul (yR' hc.1) (yR' hc.2) (by decide) (by decide) (by decide), k.here f (.int _)⟩
    . cases h
  . obtain ⟨rfl, o1⟩ := hx.str_inv
    cases hy
    simp only [M.iU'] at h
    split at h
    . rename_i hc
      cases h
      refine .inl (.inr (.inl ⟨_, _, rfl, rfl, hc.1, hc.2.1, by rw [ct', bM']; exact hc.2.2, ?_⟩))
      rw [yj']
      exact k.here f (.str (yl' o1 hc.2.2))
    . cases h
  . obtain ⟨a, vs, rfl, ha, za⟩ := hx.lst_inv
    cases hy
    simp only [M.iU'] at h
    split at h
    . rename_i hc
      cases h
      refine .inl (.inr (.inr ⟨a, _, vs, rfl, rfl, f.low _ _ ha, by omega, by omega, by rw [za.length, bM']; exact hc.2.2, fun p hp => k.newL f (za.rep _) hp⟩))
    . cases h
theorem kd' : Op2 K M.iV' (rI CDivW fun i j => .int (i / j)) := by
  intro F H T fp x y dx dy dz Q f hx hy h k
  cases dx <;> cases dy <;> try (cases h; done)
  cases hx; cases hy
  simp only [M.iV'] at h
  split at h
  . rename_i hc
    cases h
    refine ⟨_, _, rfl, rfl, wide_div (b := 200) hc.1 ?_ (by decide) (by decide), k.here f (.int _)⟩
    have : (2 : Nat) ^ 200 = 1606938044258990275541962092341162602522202993782792835301376 := by decide +kernel
    omega
  . cases h
theorem fE' : Op2 K M.j8' (rI (fun _ j => 0 < j) fun i j => .int (i % j)) := by
  intro F H T fp x y dx dy dz Q f hx hy h k
  cases dx <;> cases dy <;> try (cases h; done)
  cases hx; cases hy
  simp only [M.j8'] at h
  split at h
  . rename_i hc
    cases h
    exact ⟨_, _, rfl, rfl, hc, k.here f (.int _)⟩
  . cases h
theorem Bz' : Op2 K M.yG' (rI CPow fun i j => .int (i ^ j.toNat)) := by
  intro F H T fp x y dx dy dz Q f hx hy h k
  cases dx <;> cases dy <;> try (cases h; done)
  cases hx; cases hy
  simp only [M.yG'] at h
  split at h
  . rename_i hc
    cases h
    obtain ⟨h1, h2, h3⟩ := hc
    simp only [M.small64, Bool.and_eq_true, decide_eq_true_eq] at h3
    exact ⟨_, _, rfl, rfl, ⟨h1, by omega, by omega⟩, k.here f (.int _)⟩
  . cases h
theorem yK' : Op2 K M.pLt (uI' (fun i j => decide (i < j)) fun a b => decide (a < b)) := by
  intro F H T fp x y dx dy dz Q f hx hy h k
  cases dx <;> cases dy <;> try (cases h; done)
  . cases hx; cases hy; cases h
    exact .inl ⟨_, _, rfl, rfl, k.here f (.bl _)⟩
  . obtain ⟨rfl, o1⟩ := hx.str_inv
    obtain ⟨rfl, o2⟩ := hy.str_inv
    cases h
    exact .inr ⟨_, _, rfl, rfl, k.here f (.bl _)⟩
theorem AA' : Op2 K M.pLe (uI' (fun i j => decide (i <= j)) fun a b => !decide (b < a)) := by
  intro F H T fp x y dx dy dz Q f hx hy h k
  cases dx <;> cases dy <;> try (cases h; done)
  . cases hx; cases hy; cases h
    exact .inl ⟨_, _, rfl, rfl, k.here f (.bl _)⟩
  . obtain ⟨rfl, o1⟩ := hx.str_inv
    obtain ⟨rfl, o2⟩ := hy.str_inv
    cases h
    exact .inr ⟨_, _, rfl, rfl, k.here f (.bl _)⟩
theorem BD' : Op2 K M.pGt (uI' (fun i j => decide (j < i)) fun a b => decide (b < a)) := by
  intro F H T fp x y dx dy dz Q f hx hy h k
  cases dx <;> cases dy <;> try (cases h; done)
  . cases hx; cases hy; cases h
    exact .inl ⟨_, _, rfl, rfl, k.here f (.bl _)⟩
  . obtain ⟨rfl, o1⟩ := hx.str_inv
    obtain ⟨rfl, o2⟩ := hy.str_inv
    cases h
    exact .inr ⟨_, _, rfl, rfl, k.here f (.bl _)⟩
theorem AB' : Op2 K M.pGe (uI' (fun i j => decide (j <= i)) fun a b => !decide (a < b)) := by
  intro F H T fp x y dx dy dz Q f hx hy h k
  cases dx <;> cases dy <;> try (cases h; done)
  . cases hx; cases hy; cases h
    exact .inl ⟨_, _, rfl, rfl, k.here f (.bl _)⟩
  . obtain ⟨rfl, o1⟩ := hx.str_inv
    obtain ⟨rfl, o2⟩ := hy.str_inv
    cases h
    exact .inr ⟨_, _, rfl, rfl, k.here f (.bl _)⟩
def CR' : R2 := fun x y H Q => CS' x y H Q \/ rIsB x y H Q
theorem v5' {X : Cx} : OpR X (compareOp .Is) CR' := v6'.or op_isBl
theorem y6' {F : Hp} {T : List Addr} {x : V} {d : M.D} (h : Fz K F T x d) : decide (x = .non) = M.e3' d := by cases h <;> rfl
theorem Dx' : Op2 K M.pIs CR' := by
  intro F H T fp x y dx dy dz Q f hx hy h k
  cases dy with
  | non =>
    cases hy
    have e : M.D.bl (M.e3' dx) = dz := by cases dx <;> exact Option.some.inj h
    subst e
    exact .inl ⟨rfl, by rw [y6' hx]; exact k.here f (.bl _)⟩
  | bl b =>
    cases dx <;> try (cases h; done)
    cases hx; cases hy; cases h
    refine .inr ⟨_, _, rfl, rfl, ?_⟩
    rw [<- Bool.beq_eq_decide_eq]
    exact k.here f (.bl _)
  | _ => cases dx <;> cases h
theorem FzA.ati {F : Hp} {T : List Addr} {vs : List V} {ds : List M.D} {i : Int} {d : M.D} (h : FzA K F T vs ds) (e : M.ati ds i = some d) : ∃ v, atI vs i = some v /\ Fz K F T v d := by
  unfold M.ati at e
  unfold atI
  rw [h.length]
  cases q : M.ixn ds.length i with
  | none => rw [q] at e; cases e
  | some j =>
    rw [q] at e
    obtain ⟨v, h1, h2⟩ := h.get (i := j) e
    have q' : ixN ds.length i = some j := q
    rw [q']
    exact ⟨v, h1, h2⟩
theorem f7' : Op2 K M.pIx (rIx K) := by
  intro F H T fp x y dx dy dz Q f hx hy h k
  cases dx <;> cases dy <;> try (cases h; done)
  . obtain ⟨rfl, o1⟩ := hx.str_inv
    cases hy
    simp only [M.pIx] at h
    rename_i s i
    cases q : M.ati s i with
    | none => rw [q] at h; cases h
    | some c =>
      rw [q] at h
      cases h
      have hc : c ∈ s := by
        unfold M.ati at q
        cases q2 : M.ixn s.length i with
        | none => rw [q2] at q; cases q
        | some j => rw [q2] at q; exact List.mem_of_getElem? q
      exact .inr (.inr ⟨_, _, c, rfl, rfl, o1.len, q, k.here f (oM' (o1.1 c hc))⟩)
  . obtain ⟨a, vs, rfl, ha, za⟩ := hx.tup_inv
    cases hy
    obtain ⟨v, h1, h2⟩ := za.ati h
    exact .inr (.inl ⟨a, vs, _, v, rfl, rfl, seqT f.low ha, h1, k.here f h2⟩)
  . obtain ⟨a, vs, rfl, ha, za⟩ := hx.lst_inv
    cases hy
    obtain ⟨v, h1, h2⟩ := za.ati h
    exact .inl ⟨a, vs, _, v, rfl, rfl, SqL.of (f.low _ _ ha), h1, k.here f h2⟩
def C6' (K : PySem.W.Frag) (r : V -> Option Int -> Option Int -> Hp -> VK -> Prop) : Prop := ∀ {F H : Hp} {T : List Addr} {fp : Fp} {x : V} {dx dz : M.D} {lo hi : Option Int} {Q : VK}, FpH F H fp -> Fz K F T x dx -> M.pSl dx lo hi = some dz -> fj' K F T fp dz Q -> r x lo hi H Q
theorem r3' {s : M.Tx} {lo hi : Option Int} : (∀ c ∈ M.cut s lo hi, c ∈ s) /\ (M.cut s lo hi).length <= s.length := by
  unfold M.cut
  refine ⟨fun c hc => List.mem_of_mem_drop (List.mem_of_mem_take hc), ?_⟩
  rw [List.length_take, List.length_drop]
  omega
theorem wb' : C6' K (CQ' K) := by
  intro F H T fp x dx dz lo hi Q f hx h k
  cases dx <;> try (cases h; done)
  . obtain ⟨rfl, o1⟩ := hx.str_inv
    cases h
    refine .inr (.inl ⟨_, rfl, o1.len, ?_⟩)
    have e : cutS (sx ‹M.Tx›) lo hi = sx (M.cut ‹M.Tx› lo hi) := li' (by rw [z5']; rfl)
    rw [e]
    exact k.here f (.str (o1.sub r3'.1 r3'.2))
  . obtain ⟨a, vs, rfl, ha, za⟩ := hx.tup_inv
    cases h
    refine .inr (.inr ⟨a, vs, rfl, seqT f.low ha, fun e => ?_, fun _ p hp => k.newT f za.cutV hp⟩)
    refine k.here f ?_
    have e2 : M.cut ‹List M.D› lo hi = ‹List M.D› := by
      unfold M.cut
      rw [<- za.length]
      have e1 : M.six vs.length 0 lo = 0 := e.1
      have e3 : M.six vs.length vs.length hi = vs.length := e.2
      rw [e1, e3, List.drop_zero, Nat.sub_zero, za.length, List.take_length]
    rw [e2]
    exact .tup ha za
  . obtain ⟨a, vs, rfl, ha, za⟩ := hx.lst_inv
    cases h
    exact .inl ⟨a, vs, rfl, SqL.of (f.low _ _ ha), fun p hp => k.newL f za.cutV hp⟩
  . cases hx with
    | scr ha za =>
      cases h
      exact .inl ⟨_, _, rfl, Same.seq f.low ha, fun p hp => k.newL f za.cutV hp⟩
end
end S
namespace S
open PySem PySem.Spec PyProof.Rows L2
variable [Wd] [Hot]
section
variable {K : PySem.W.Frag} {F F' H H' : Hp} {T T' : List Addr} {fp fq fr : Fp} {ρ : M.PSt} {σ : St}
abbrev keys (fp : Fp) : List Addr := fp.map (·.1)
theorem FpH.sub (f : FpH F H fp) (hm : ∀ e ∈ fq, e ∈ fp) (hc : ∀ a, (keys fq).count a <= (keys fp).count a) : FpH F H fq := by
  refine ⟨f.low, fun e he => f.at_ e (hm e he), ?_, f.tbs fun a h1 h2 h3 => ⟨h1, rfl, fun e he => h3 e (hm e he)⟩⟩
  rw [List.nodup_iff_count]
  exact fun a => Nat.le_trans (hc a) (List.nodup_iff_count.mp f.nd a)
structure Part (a b : Fp) : Prop where
  m : ∀ e ∈ a, e ∈ b
  c : ∀ x, (keys a).count x <= (keys b).count x
theorem FpH.part (f : FpH F H fp) (p : Part fq fp) : FpH F H fq := f.sub p.m p.c
theorem Part.refl {a : Fp} : Part a a := ⟨fun _ h => h, fun _ => Nat.le_refl _⟩
theorem Part.trans {a b c : Fp} (p : Part a b) (q : Part b c) : Part a c := ⟨fun e h => q.m e (p.m e h), fun x => Nat.le_trans (p.c x) (q.c x)⟩
theorem Part.app {a b c d : Fp} (p : Part a b) (q : Part c d) : Part (a ++ c) (b ++ d) := by
  refine ⟨fun e h => ?_, fun x => ?_⟩
  . rcases List.mem_append.mp h with h | h
    . exact List.mem_append_left _ (p.m e h)
    . exact List.mem_append_right _ (q.m e h)
  . have := p.c x
    have := q.c x
    simp only [keys, List.map_append, List.count_append] at *
    omega
theorem Part.right {a b c : Fp} (p : Part a c) : Part a (b ++ c) := by
  refine ⟨fun e h => List.mem_append_right _ (p.m e h), fun x => ?_⟩
  have := p.c x
  simp only [keys, List.map_append, List.count_append] at *
  omega
theorem Part.nil {b : Fp} : Part [] b := ⟨fun e h => (nomatch h), fun x => by simp [keys]⟩
local macro_rules | `(tactic| walk_at "parts") => `(tactic| (constructor; (intro e h; simp only [List.mem_append, List.mem_cons] at *; grind); (intro x; simp only [keys, List.map_append, List.map_cons, List.count_append, List.count_cons] at *; omega)))
theorem Part.swap {a b c : Fp} : Part (a ++ (b ++ c)) (b ++ (a ++ c)) := by walk_at "parts"
theorem RpE.get {env : List (Option M.O)} {i : Nat} {o : M.O} (r : RpE K F T σ env fp) (h : env[i]? = some (some o)) (hne : M.A6' o = true := by first | assumption | rfl) : ∃ v f1 f2 f3, σ[i]? = some (some v) /\ fp = f1 ++ (f2 ++ f3) /\ Rp K F T v o f2 ∧
    RpE K F T σ (env.set i none) (f1 ++ f3) /\ ∀ F' T' v' o' f2', Ext F T F' T' -> Rp K F' T' v' o' f2' -> RpE K F' T' (σ.set i (some v')) (env.set i (some o')) (f1 ++ (f2' ++ f3)) := by
  induction r generalizing i with
  | nil => cases h
  | off r ih =>
    cases i with
    | zero => cases h
    | succ i =>
      obtain ⟨v, f1, f2, f3, h1, rfl, h3, h4, h5⟩ := ih (i := i) h
      exact ⟨v, f1, f2, f3, h1, rfl, h3, .off h4, fun F' T' v' o' f2' e r' => .off (h5 F' T' v' o' f2' e r')⟩
  | @on v0 o0 σ env fa fb r0 r ih =>
    cases i with
    | zero =>
      have e : o0 = o := Option.some.inj (Option.some.inj h)
      subst e
      exact ⟨v0, [], fa, fb, rfl, rfl, r0, .off r, fun F' T' v' o' f2' e r' => (RpE.on r' (r.mono e) : RpE K F' T' _ _ (f2' ++ fb))⟩
    | succ i =>
      obtain ⟨v, f1, f2, f3, h1, rfl, h3, h4, h5⟩ := ih (i := i) h
      refine ⟨v, fa ++ f1, f2, f3, h1, by simp, h3, ?_, fun F' T' v' o' f2' e r' => ?_⟩
      . rw [List.append_assoc]; exact .on r0 h4
      . rw [List.append_assoc]; exact .on (r0.mono e) (h5 F' T' v' o' f2' e r')
  | hot hh z r ih =>
    cases i with
    | zero => rw [<- Option.some.inj (Option.some.inj h)] at hne; cases hne
    | succ i =>
      obtain ⟨v, f1, f2, f3, h1, rfl, h3, h4, h5⟩ := ih (i := i) h
      exact ⟨v, f1, f2, f3, h1, rfl, h3, .hot (by rw [List.length_set]; exact hh) z h4, fun F' T' v' o' f2' e r' => .hot (by rw [List.length_set]; exact hh) (z.mono' e) (h5 F' T' v' o' f2' e r')⟩
  | clo hh z r ih =>
    cases i with
    | zero => rw [<- Option.some.inj (Option.some.inj h)] at hne; cases hne
    | succ i =>
      obtain ⟨v, f1, f2, f3, h1, rfl, h3, h4, h5⟩ := ih (i := i) h
      exact ⟨v, f1, f2, f3, h1, rfl, h3, .clo (by rw [List.length_set]; exact hh) z h4, fun F' T' v' o' f2' e r' => .clo (by rw [List.length_set]; exact hh) (z.mono e) (h5 F' T' v' o' f2' e r')⟩
theorem RpE.val {env : List (Option M.O)} {i : Nat} {o : M.O} (r : RpE K F T σ env fp) (h : env[i]? = some (some o)) : ∃ v, σ[i]? = some (some v) := by
  induction r generalizing i with
  | nil => cases h
  | off r ih => cases i with
    | zero => cases h
    | succ i => exact ih (i := i) h
  | on _ r ih => cases i with
    | zero => exact ⟨_, rfl⟩
    | succ i => exact ih (i := i) h
  | hot _ _ r ih => cases i with
    | zero => exact ⟨_, rfl⟩
    | succ i => exact ih (i := i) h
  | clo _ _ r ih => cases i with
    | zero => exact ⟨_, rfl⟩
    | succ i => exact ih (i := i) h
theorem RpE.exn {env : List (Option M.O)} {i : Nat} (r : RpE K F T σ env fp) (h : env[i]? = some (some .exn)) : ∃ a n dd x, Hot.hot = some (a, n, dd, x) /\ XcR K F T x (.ref (He.ga K x.cls)) dd /\ σ[i]? = some (some (.ref a)) := by
  induction r generalizing i with
  | nil => cases h
  | off r ih => cases i with
    | zero => cases h
    | succ i => exact ih (i := i) h
  | on q r ih => cases i with
    | zero =>
      have e := Option.some.inj (Option.some.inj h)
      subst e
      cases q
    | succ i => exact ih (i := i) h
  | hot hh z r ih => cases i with
    | zero => exact ⟨_, _, _, _, hh, z, rfl⟩
    | succ i => exact ih (i := i) h
  | clo hh z r ih => cases i with
    | zero => cases h
    | succ i => exact ih (i := i) h
theorem eJ' {α : Type} : ∀ {l : List α} {i : Nat} {x : α}, l[i]? = some x -> l.set i x = l
  | [], _, _, h => by cases h
  | a :: l, 0, x, h => by rw [<- Option.some.inj h]; rfl
  | a :: l, i + 1, x, h => by
    show a :: l.set i x = a :: l
    rw [eJ' (l := l) (i := i) h]
theorem RpE.len {env : List (Option M.O)} (r : RpE K F T σ env fp) : σ.length = env.length := by
  induction r with
  | nil => rfl
  | off _ ih => exact congrArg (· + 1) ih
  | on _ _ ih => exact congrArg (· + 1) ih
  | hot _ _ _ ih => exact congrArg (· + 1) ih
  | clo _ _ _ ih => exact congrArg (· + 1) ih
theorem RpE.drop {env : List (Option M.O)} (r : RpE K F T σ env fp) (i : Nat) (x : Option V) : ∃ fq, RpE K F T (σ.set i x) (env.set i none) fq /\ Part fq fp := by
  induction r generalizing i with
  | nil => exact ⟨[], .nil, .refl⟩
  | @off y σ env fp r ih =>
    cases i with
    | zero => exact ⟨_, .off r, .refl⟩
    | succ i =>
      obtain ⟨fq, h1, h2⟩ := ih i
      exact ⟨fq, .off h1, h2⟩
  | @on v0 o0 σ env fa fb r0 r ih =>
    cases i with
    | zero => exact ⟨_, .off r, .right .refl⟩
    | succ i =>
      obtain ⟨fq, h1, h2⟩ := ih i
      exact ⟨_, .on r0 h1, .app .refl h2⟩
  | hot hh z r ih =>
    cases i with
    | zero => exact ⟨_, .off r, .refl⟩
    | succ i =>
      obtain ⟨fq, h1, h2⟩ := ih i
      exact ⟨fq, .hot (by rw [List.length_set]; exact hh) z h1, h2⟩
  | clo hh z r ih =>
    cases i with
    | zero => exact ⟨_, .off r, .refl⟩
    | succ i =>
      obtain ⟨fq, h1, h2⟩ := ih i
      exact ⟨fq, .clo (by rw [List.length_set]; exact hh) z h1, h2⟩
theorem RpE.drop0 {env : List (Option M.O)} (r : RpE K F T σ env fp) (i : Nat) : ∃ fq, RpE K F T σ (env.set i none) fq /\ Part fq fp := by
  induction r generalizing i with
  | nil => exact ⟨[], .nil, .refl⟩
  | @off y σ env fp r ih =>
    cases i with
    | zero => exact ⟨_, .off r, .refl⟩
    | succ i =>
      obtain ⟨fq, h1, h2⟩ := ih i
      exact ⟨fq, .off h1, h2⟩
  | @on v0 o0 σ env fa fb r0 r ih =>
    cases i with
    | zero => exact ⟨_, .off r, .right .refl⟩
    | succ i =>
      obtain ⟨fq, h1, h2⟩ := ih i
      exact ⟨_, .on r0 h1, .app .refl h2⟩
  | hot hh z r ih =>
    cases i with
    | zero => exact ⟨_, .off r, .refl⟩
    | succ i =>
      obtain ⟨fq, h1, h2⟩ := ih i
      exact ⟨fq, .hot (by rw [List.length_set]; exact hh) z h1, h2⟩
  | clo hh z r ih =>
    cases i with
    | zero => exact ⟨_, .off r, .refl⟩
    | succ i =>
      obtain ⟨fq, h1, h2⟩ := ih i
      exact ⟨fq, .clo (by rw [List.length_set]; exact hh) z h1, h2⟩
theorem RpE.put {env : List (Option M.O)} (r : RpE K F T σ env fp) {i : Nat} (hi : i < env.length) {v : V} {o : M.O} {f2 : Fp} (q : Rp K F T v o f2) :
    ∃ fq, RpE K F T (σ.set i (some v)) (env.set i (some o)) fq /\ Part fq (fp ++ f2) := by
  induction r generalizing i with
  | nil => cases hi
  | @off y σ env fp r ih =>
    cases i with
    | zero => exact ⟨_, .on q r, by walk_at "parts"⟩
    | succ i =>
      obtain ⟨fq, h1, h2⟩ := ih (i := i) (Nat.lt_of_succ_lt_succ hi)
      exact ⟨fq, .off h1, h2⟩
  | @on v0 o0 σ env fa fb r0 r ih =>
    cases i with
    | zero => exact ⟨_, .on q r, by walk_at "parts"⟩
    | succ i =>
      obtain ⟨fq, h1, h2⟩ := ih (i := i) (Nat.lt_of_succ_lt_succ hi)
      refine ⟨_, .on r0 h1, ?_⟩
      rw [List.append_assoc]
      exact .app .refl h2
  | hot hh z r ih =>
    cases i with
    | zero => exact ⟨_, .on q r, by walk_at "parts"⟩
    | succ i =>
      obtain ⟨fq, h1, h2⟩ := ih (i := i) (Nat.lt_of_succ_lt_succ hi)
      exact ⟨fq, .hot (by rw [List.length_set]; exact hh) z h1, h2⟩
  | clo hh z r ih =>
    cases i with
    | zero => exact ⟨_, .on q r, by walk_at "parts"⟩
    | succ i =>
      obtain ⟨fq, h1, h2⟩ := ih (i := i) (Nat.lt_of_succ_lt_succ hi)
      exact ⟨fq, .clo (by rw [List.length_set]; exact hh) z h1, h2⟩
theorem RpE.put0 {env : List (Option M.O)} (r : RpE K F T σ env fp) {i : Nat} {v : V} (hi : σ[i]? = some (some v)) {o : M.O} {f2 : Fp} (q : Rp K F T v o f2) :
    ∃ fq, RpE K F T σ (env.set i (some o)) fq /\ Part fq (fp ++ f2) := by
  have hl : i < env.length := by rw [<- r.len]; exact (List.getElem?_eq_some_iff.mp hi).1
  obtain ⟨fq, h1, h2⟩ := r.put hl q
  rw [eJ' hi] at h1
  exact ⟨fq, h1, h2⟩
def t5' (F : Hp) : Fp -> Hp
  | [] => F
  | e :: r => upd (t5' F r) e.1 e.2
theorem fh' {a : Addr} : ∀ {fp : Fp}, a ∉ keys fp -> t5' F fp a = F a
  | [], _ => rfl
  | e :: r, h => by
    have h' : a ≠ e.1 /\ a ∉ keys r := by simpa [keys] using h
    show upd (t5' F r) e.1 e.2 a = F a
    rw [upd_ne h'.1, fh' h'.2]
theorem gE' : ∀ {fp : Fp}, (keys fp).Nodup -> ∀ e ∈ fp, t5' F fp e.1 = some e.2
  | e :: r, h, e', he => by
    obtain ⟨h1, h2⟩ := List.nodup_cons.mp h
    show upd (t5' F r) e.1 e.2 e'.1 = _
    rcases List.mem_cons.mp he with rfl | he
    . exact upd_same
    . rw [upd_ne fun z => h1 (by have q : e'.1 ∈ keys r := List.mem_map_of_mem he; rw [z] at q; exact q)]
      exact gE' h2 e' he
theorem hN' {fp : Fp} (h : ∀ e ∈ fp, F e.1 = none) : Same F (t5' F fp) := fun a o e => by
  rw [fh' fun z => ?_]
  . exact e
  . obtain ⟨x, h1, h2⟩ := List.mem_map.mp z
    rw [<- h2, h x h1] at e
    cases e
theorem FpH.freeze {a b : Fp} (f : FpH F H (a ++ b)) : FpH (t5' F a) H b := by
  have nd : (keys a ++ keys b).Nodup := by rw [<- List.map_append]; exact f.nd
  obtain ⟨n1, n2, n3⟩ := List.nodup_append.mp nd
  refine ⟨fun p o h => ?_, fun e he => ⟨(f.at_ e (List.mem_append_right _ he)).1, ?_⟩, n2, f.tbs (fun p h1 h2 h3 => ⟨?_, rfl, fun e he => h3 e (List.mem_append_right _ he)⟩) fun c q h => lv' (hN' fun e he => (f.at_ e (List.mem_append_left _ he)).2) h⟩
  . by_cases hp : p ∈ keys a
    . obtain ⟨x, h1, rfl⟩ := List.mem_map.mp hp
      rw [gE' n1 x h1] at h
      rw [(f.at_ x (List.mem_append_left _ h1)).1]
      exact h
    . rw [fh' hp] at h
      exact f.low _ _ h
  . rw [fh' fun z => n3 _ z _ (List.mem_map_of_mem he) rfl]
    exact (f.at_ e (List.mem_append_right _ he)).2
  . rw [fh' fun z => ?_]
    . exact h1
    . obtain ⟨x, hx, e⟩ := List.mem_map.mp z
      exact h3 x (List.mem_append_left _ hx) e
mutual
theorem Rp.freeze {G : Hp} (s : Same F G) : ∀ {v : V} {o : M.O} {fp : Fp}, Rp K F T v o fp -> (∀ e ∈ fp, G e.1 = some e.2) -> Fz K G T v (M.frz o)
  | _, _, _, .fz h, _ => h.mono (.of s)
  | _, _, _, .lst r, g => .lst (g _ List.mem_cons_self) (RpA.freeze s r fun e he => g e (List.mem_cons_of_mem _ he))
  | _, _, _, .tup r, g => .tup (SqT.of (g _ List.mem_cons_self)) (RpA.freeze s r fun e he => g e (List.mem_cons_of_mem _ he))
  | _, _, _, .dct k r, g => .dct (.inl (g _ List.mem_cons_self)) k (RpA.freeze s r fun e he => g e (List.mem_cons_of_mem _ he))
  | _, _, _, .dcl k r, g => .dcl (.inl (g _ List.mem_cons_self)) k (RpA.freeze s r fun e he => g e (List.mem_cons_of_mem _ he))
  | _, _, _, .dcn k q r, g => .dcn (.inl (g _ List.mem_cons_self)) k (q.mono (.of s)) (RpA.freeze s r fun e he => g e (List.mem_cons_of_mem _ he))
theorem RpA.freeze {G : Hp} (s : Same F G) : ∀ {vs : List V} {os : List M.O} {fp : Fp}, RpA K F T vs os fp -> (∀ e ∈ fp, G e.1 = some e.2) -> FzA K G T vs (M.frzs os)
  | _, _, _, .nil, _ => .nil
  | _, _, _, .cons h r, g => .cons (Rp.freeze s h fun e he => g e (List.mem_append_left _ he)) (RpA.freeze s r fun e he => g e (List.mem_append_right _ he))
end
theorem Rp.frozen {v : V} {o : M.O} {a b : Fp} (q : Rp K F T v o a) (f : FpH F H (a ++ b)) : ∃ G, Same F G /\ Fz K G T v (M.frz o) /\ FpH G H b := by
  have s : Same F (t5' F a) := hN' fun e he => (f.at_ e (List.mem_append_left _ he)).2
  refine ⟨_, s, q.freeze s fun e he => gE' ?_ e he, f.freeze⟩
  have nd : (keys a ++ keys b).Nodup := by rw [<- List.map_append]; exact f.nd
  exact (List.nodup_append.mp nd).1
theorem RpA.frozen {v : List V} {o : List M.O} {a b : Fp} (q : RpA K F T v o a) (f : FpH F H (a ++ b)) : ∃ G, Same F G /\ FzA K G T v (M.frzs o) /\ FpH G H b := by
  have s : Same F (t5' F a) := hN' fun e he => (f.at_ e (List.mem_append_left _ he)).2
  refine ⟨_, s, q.freeze s fun e he => gE' ?_ e he, f.freeze⟩
  have nd : (keys a ++ keys b).Nodup := by rw [<- List.map_append]; exact f.nd
  exact (List.nodup_append.mp nd).1
theorem Rel.frozen {v : V} {o : M.O} (r : Rel K ρ σ H F T (fp ++ fr)) (q : Rp K F T v o fp) : ∃ G, Same F G /\ Fz K G T v (M.frz o) /\ Rel K ρ σ H G T fr := by
  obtain ⟨fe, fw, re, rw, f⟩ := r
  have f' : FpH F H (fp ++ (fe ++ (fw ++ fr))) := f.part (by walk_at "parts")
  obtain ⟨G, s, z, f2⟩ := q.frozen f'
  exact ⟨G, s, z, fe, fw, re.mono (.of s), rw.mono (.of s), f2⟩
theorem Rel.part {fr' : Fp} (r : Rel K ρ σ H F T fr) (p : Part fr' fr) : Rel K ρ σ H F T fr' := by
  obtain ⟨fe, fw, re, rw, f⟩ := r
  exact ⟨fe, fw, re, rw, f.part (.app .refl (.app .refl p))⟩
theorem FpH.own {p : Addr} {o : HO} (f : FpH F H fp) (hp : H p = none) : FpH F (upd H p o) ((p, o) :: fp) := by
  have np : ∀ e ∈ fp, e.1 ≠ p := fun e he => ne_of_none (f.at_ e he).1 hp
  refine ⟨fun a u h => ?_, fun e he => ?_, ?_, f.tbs fun a h1 h2 h3 => ?_⟩
  . rw [upd_ne (ne_of_none (f.low _ _ h) hp)]; exact f.low _ _ h
  . rcases List.mem_cons.mp he with rfl | he
    . exact ⟨upd_same, f.free hp⟩
    . rw [upd_ne (np e he)]; exact f.at_ e he
  . refine List.nodup_cons.mpr ⟨fun h => ?_, f.nd⟩
    obtain ⟨x, h1, h2⟩ := List.mem_map.mp h
    exact np x h1 h2
  . have ha : a ≠ p := fun z => h2 (by rw [z]; exact hp)
    refine ⟨h1, upd_ne ha, fun e he => ?_⟩
    rcases List.mem_cons.mp he with rfl | he
    . exact Ne.symm ha
    . exact h3 e he
theorem FpH.write {p : Addr} {o o' : HO} {a b : Fp} (f : FpH F H (a ++ ((p, o) :: b))) : FpH F (upd H p o') (a ++ ((p, o') :: b)) := by
  have nd : (keys a ++ (p :: keys b)).Nodup := by
    have := f.nd
    simpa [keys] using this
  obtain ⟨n1, n2, n3⟩ := List.nodup_append.mp nd
  have hp : F p = none := (f.at_ (p, o) (by simp)).2
  refine ⟨fun x u h => ?_, fun e he => ?_, ?_, f.tbs fun x h1 h2 h3 => ?_⟩
  . rw [upd_ne (fun z => by rw [z, hp] at h; cases h)]; exact f.low _ _ h
  . rcases List.mem_append.mp he with h | h
    . rw [upd_ne (n3 _ (List.mem_map_of_mem h) _ List.mem_cons_self)]
      exact f.at_ e (List.mem_append_left _ h)
    . rcases List.mem_cons.mp h with rfl | h
      . exact ⟨upd_same, hp⟩
      . rw [upd_ne (fun z => (List.nodup_cons.mp n2).1 (by have q : e.1 ∈ keys b := List.mem_map_of_mem h; rw [z] at q; exact q))]
        exact f.at_ e (List.mem_append_right _ (List.mem_cons_of_mem _ h))
  . have e : (a ++ ((p, o') :: b)).map (·.1) = keys a ++ (p :: keys b) := by simp [keys]
    rw [e]
    exact nd
  . have ha : x ≠ p := fun z => h3 (p, o) (by simp) z.symm
    refine ⟨h1, upd_ne ha, fun e he => ?_⟩
    rcases List.mem_append.mp he with h | h
    . exact h3 e (List.mem_append_left _ h)
    . rcases List.mem_cons.mp h with rfl | h
      . exact Ne.symm ha
      . exact h3 e (List.mem_append_right _ (List.mem_cons_of_mem _ h))
end
section
variable {X : Cx} {W : WX} {K : PySem.W.Frag} {pos : Pos}
theorem ae' {i j pos} : SE X W (.Constant (.int i) j pos) (M.eC (.int i)) := PE.imp pe_int fun σ H Q ⟨ρ, F, T, fr, rel, h⟩ => h _ _ _ _ .refl (.int i) rel
theorem cJ' {b j pos} : SE X W (.Constant (.bool b) j pos) (M.eC (.bl b)) := PE.imp pe_bl fun σ H Q ⟨ρ, F, T, fr, rel, h⟩ => h _ _ _ _ .refl (.bl b) rel
theorem nu' {j pos} : SE X W (.Constant .none j pos) (M.eC .non) := PE.imp pe_non fun σ H Q ⟨ρ, F, T, fr, rel, h⟩ => h _ _ _ _ .refl .non rel
def Az' (s : M.Tx) : Bool := s.all (fun c => decide (c < 1114112)) && decide (s.length <= 16777216)
theorem uM' {s : M.Tx} (h : Az' s = true) : okT s := by
  unfold Az' at h
  rw [Bool.and_eq_true, List.all_eq_true] at h
  exact ⟨fun c hc => of_decide_eq_true (h.1 c hc), of_decide_eq_true h.2⟩
theorem nt' {x : Str} {j pos} (s : M.Tx) (hs : x = sx s) (ho : Az' s = true) : SE X W (.Constant (.str x) j pos) (M.eC (.str s)) := by
  subst hs
  exact PE.imp pe_str fun σ H Q ⟨ρ, F, T, fr, rel, h⟩ => h _ _ _ _ .refl (.str (uM' ho)) rel
theorem Dl' {e : Expr} {v : V} {d : M.D} (h : PE X e (tC v)) (z : ∀ F T, Fz X.K F T v d) : SE X W e (M.eC d) := PE.imp h fun σ H Q ⟨ρ, F, T, fr, rel, h⟩ => h _ _ _ _ .refl (z F T) rel
theorem x0' {i : Nat} {σ : St} {H : Hp} {Q : VK} (h : qE K W (M.eV i) σ H Q) : tVar i σ H Q := by
  obtain ⟨ρ, F, T, fr, rel, h⟩ := h
  unfold M.eV at h
  split at h
  . rename_i d e
    obtain ⟨fe, fw, re, rw, f⟩ := id rel
    obtain ⟨v, f1, f2, f3, h1, rfl, h3, h4, h5⟩ := re.get e
    cases h3 with
    | fz z => exact ⟨v, h1, h v H F T .refl z rel⟩
  . exact h.elim
  . exact h.elim
  . rename_i o _ hne hnc e
    obtain ⟨fe, fw, re, rw, f⟩ := rel
    obtain ⟨v, f1, f2, f3, h1, rfl, h3, h4, h5⟩ := re.get e (M.ds' (fun z => hne (by rw [z])) fun z => hnc (by rw [z]))
    have f' : FpH F H (f2 ++ (f1 ++ f3 ++ (fw ++ fr))) := f.part (by refine ⟨fun e h => ?_, fun x => ?_⟩; (simp only [List.mem_append] at *; grind); (simp only [keys, List.map_append, List.count_append] at *; omega))
    obtain ⟨G, s, z, fG⟩ := h3.frozen f'
    have re' := h5 G T v (.fz (M.frz o)) [] (.of s) (.fz z)
    rw [eJ' h1] at re'
    exact ⟨v, h1, h v H G T (.of s) z ⟨_, fw, re', rw.mono (.of s), by simpa using fG⟩⟩
  . exact h.elim
theorem ad' {e : Expr} {i : Nat} (h : PE X e (tVar i)) : SE X W e (M.eV i) := PE.imp h fun _ _ _ => x0'
variable {a b c : Expr} {ma mb mc : M.ME} {σ : St} {H : Hp} {Q : VK}
theorem iW' {f : M.D -> M.D -> Option M.D} {r : R2} (hf : Op2 K f r) (h : qE K W (M.eOp f ma mb) σ H Q) : tOp r (qE K W ma) (qE K W mb) σ H Q := by
  obtain ⟨ρ, F, T, fr, rel, h⟩ := h
  refine aA' rel h fun dx ρ1 v H1 F1 T1 e1 z1 r1 h1 => ?_
  refine aA' r1 h1 fun dy ρ2 u H2 F2 T2 e2 z2 r2 h2 => ?_
  obtain ⟨dz, ez, q⟩ := aW'.ofO h2
  obtain ⟨fp, f2, back⟩ := r2.fp
  exact hf f2 (z1.mono e2) z2 ez fun v' H3 F3 s zz f3 => q v' H3 F3 T2 (e1.trans (e2.trans (.of s))) zz (back H3 F3 s f3)
theorem aI' {op : Operator} {f : M.D -> M.D -> Option M.D} {r : R2} (ho : OpR X (binaryOp op) r) (hf : Op2 X.K f r) (ha : SE X W a ma) (hb : SE X W b mb) : SE X W (.BinOp a op b pos) (M.eOp f ma mb) := PE.imp (pe_op ho ha hb) fun _ _ _ => iW' hf
theorem ig' {op : CmpOp} {f : M.D -> M.D -> Option M.D} {r : R2} (ho : OpR X (compareOp op) r) (hf : Op2 X.K f r) (hm : behindInMarks op b = false) (ha : SE X W a ma) (hb : SE X W b mb) : SE X W (.Compare a [op] [b] pos) (M.eOp f ma mb) := PE.imp (pe_cmpR ho ha hb hm) fun _ _ _ => iW' hf
theorem cx' {f : M.D -> M.D -> Option M.D} {r : R2} (ho : IxR X r) (hf : Op2 X.K f r) (ha : SE X W a ma) (hb : SE X W b mb) (hs : PlainIx b) : SE X W (.Subscript a b pos) (M.eOp f ma mb) := PE.imp (pe_ix ho ha hb hs) fun _ _ _ => iW' hf
theorem vy' {f : M.D -> Option M.D} {r : V -> Hp -> VK -> Prop} (hf : Op1 K f r) (h : qE K W (M.eUn f ma) σ H Q) : tUn r (qE K W ma) σ H Q := by
  obtain ⟨ρ, F, T, fr, rel, h⟩ := h
  refine aA' rel h fun dx ρ1 v H1 F1 T1 e1 z1 r1 h1 => ?_
  obtain ⟨dz, ez, q⟩ := aW'.ofO h1
  obtain ⟨fp, f2, back⟩ := r1.fp
  exact hf f2 z1 ez fun v' H3 F3 s zz f3 => q v' H3 F3 T1 (e1.trans (.of s)) zz (back H3 F3 s f3)
theorem A8' {op : UnaryOp} {f : M.D -> Option M.D} {r : V -> Hp -> VK -> Prop} (ho : UnR X (unaryOp op) r) (hf : Op1 X.K f r) (ha : SE X W a ma) : SE X W (.UnaryOp op a pos) (M.eUn f ma) := PE.imp (pe_un ho ha) fun _ _ _ => vy' hf
theorem aW'.asB {d : M.D} {ρ : M.PSt} {P : Bool -> M.PSt -> Prop} {Y : Wx} (h : aW' (M.asB d ρ) P Y) : ∃ b, d = .bl b /\ P b ρ := by
  cases d <;> first | exact h.elim | exact ⟨_, rfl, h⟩
theorem oR' {f g : M.D -> M.D -> Option M.D} {r r' : R2} (hf : Op2 K f r) (hg : Op2 K g r') (h : qE K W (M.hy' f g ma mb mc) σ H Q) : tChain r r' (qE K W ma) (qE K W mb) (qE K W mc) σ H Q := by
  obtain ⟨ρ, F, T, fr, rel, h⟩ := h
  refine aA' rel h fun dx ρ1 v H1 F1 T1 e1 z1 r1 h1 => ?_
  refine aA' r1 h1 fun dy ρ2 u H2 F2 T2 e2 z2 r2 h2 => ?_
  obtain ⟨dz, ez, h3⟩ := aW'.ofO (aW'.bind h2)
  obtain ⟨fp, f2, back⟩ := r2.fp
  refine hf f2 (z1.mono e2) z2 ez fun v' H3 F3 s zz f3 => ?_
  have h4 := aW'.bind h3
  obtain ⟨k, rfl, h5⟩ := aW'.asB h4
  refine ⟨k, zz.bl_inv, ?_⟩
  have r3 := back H3 F3 s f3
  cases k with
  | true =>
    rw [if_pos rfl] at h5 ⊢
    refine aA' r3 (h5.mono (fun _ _ z => z) fun _ _ z => z.mono (.of s)) fun dw ρ4 w' H4 F4 T4 e4 z4 r4 h6 => ?_
    obtain ⟨dz, ez, q⟩ := aW'.ofO h6
    obtain ⟨fp, f4, back⟩ := r4.fp
    exact hg f4 ((z2.mono (.of s)).mono e4) z4 ez fun v' H5 F5 s5 zz f5 => q v' H5 F5 T4 (e1.trans (e2.trans ((Ext.of s).trans (e4.trans (.of s5))))) zz (back H5 F5 s5 f5)
  | false =>
    rw [if_neg Bool.false_ne_true] at h5 ⊢
    exact h5 _ H3 F3 T2 (e1.trans (e2.trans (.of s))) (.bl false) r3
variable {rest : List Expr}
theorem qF' (ha : SE X W a ma) (hb : SE X W (.BoolOp .And (b :: rest) pos) mb) : SE X W (.BoolOp .And (a :: b :: rest) pos) (M.wH' ma mb) := PE.imp (pe_and ha hb) fun σ H Q ⟨ρ, F, T, fr, rel, h⟩ => by
  refine aA' rel h fun dx ρ1 v H1 F1 T1 e1 z1 r1 h1 => ?_
  obtain ⟨k, rfl, h2⟩ := aW'.asB (aW'.bind h1)
  refine ⟨k, z1.bl_inv, ?_⟩
  cases k with
  | true => rw [if_pos rfl] at h2 ⊢; exact ⟨ρ1, F1, T1, fr, r1, h2.mono (fun _ _ z v H' F' T' e => z v H' F' T' (e1.trans e)) fun _ _ z => z⟩
  | false => rw [if_neg Bool.false_ne_true] at h2 ⊢; exact h2 _ _ _ _ e1 (.bl false) r1
theorem qB' {op} (ha : SE X W a ma) : SE X W (.BoolOp op [a] pos) ma := pe_one ha
theorem yc' (ha : SE X W a ma) : SE X W (.UnaryOp .Not a pos) (M.zn' ma) := PE.imp (pe_not ha) fun σ H Q ⟨ρ, F, T, fr, rel, h⟩ => by
  refine aA' rel h fun dx ρ1 v H1 F1 T1 e1 z1 r1 h1 => ?_
  obtain ⟨k, rfl, h2⟩ := aW'.asB (aW'.bind h1)
  exact ⟨k, z1.bl_inv, h2 _ _ _ _ e1 (.bl _) r1⟩
variable {mt mu : M.MT}
theorem lj' (ha : SE X W a ma) (he : ∀ whole, isTrue a X.env whole = (do let v ← whole; standAt a.pos; holding [v] (truthy v)) := by intro _; rfl) : ST X W a (M.tE ma) := PT.imp (pt_val ha he) fun σ H Q ⟨ρ, F, T, fr, rel, h⟩ => by
  refine aA' rel h fun dx ρ1 v H1 F1 T1 e1 z1 r1 h1 => ?_
  obtain ⟨k, rfl, h2⟩ := aW'.asB h1
  exact ⟨k, z1.bl_inv, h2 _ _ _ e1 r1⟩
theorem aQ' {op : CmpOp} {f : M.D -> M.D -> Option M.D} {r : R2} (ho : OpR X (compareOp op) r) (hf : Op2 X.K f r) (hm : behindInMarks op b = false) (ha : SE X W a ma) (hb : SE X W b mb) : ST X W (.Compare a [op] [b] pos) (M.tE (M.eOp f ma mb)) :=
  PT.imp (pt_cmpR ho ha hb hm) fun σ H Q ⟨ρ, F, T, fr, rel, h⟩ => by
    show tOp r (qE X.K W ma) (qE X.K W mb) σ H fun x H' => ∃ k, x = .bl k /\ Q k H'
    refine iW' hf ⟨ρ, F, T, fr, rel, (aW'.bind h).mono (fun d ρ1 h1 v H1 F1 T1 e z r => ?_) fun _ _ z => z⟩
    obtain ⟨k, rfl, h2⟩ := aW'.asB h1
    exact ⟨k, z.bl_inv, h2 _ _ _ e r⟩
theorem no' {op op' : CmpOp} {f g : M.D -> M.D -> Option M.D} {r r' : R2} (ho : OpR X (compareOp op) r) (hf : Op2 X.K f r) (ho' : OpR X (compareOp op') r') (hg : Op2 X.K g r') (ha : SE X W a ma) (hb : SE X W b mb) (hc : SE X W c mc)
    (hm : lastMarks [op, op'] [b, c] = false := by with_unfolding_all rfl) : ST X W (.Compare a [op, op'] [b, c] pos) (M.tE (M.hy' f g ma mb mc)) := PT.imp (pt_chain ho ho' ha hb hc hm) fun σ H Q ⟨ρ, F, T, fr, rel, h⟩ => by
    show tChain r r' (qE X.K W ma) (qE X.K W mb) (qE X.K W mc) σ H fun x H' => ∃ k, x = .bl k /\ Q k H'
    refine oR' hf hg ⟨ρ, F, T, fr, rel, (aW'.bind h).mono (fun d ρ1 h1 v H1 F1 T1 e z r => ?_) fun _ _ z => z⟩
    obtain ⟨k, rfl, h2⟩ := aW'.asB h1
    exact ⟨k, z.bl_inv, h2 _ _ _ e r⟩
abbrev SW (X : Cx) (W : WX) (e : Expr) (m : M.MT) : Prop := PW X e (qT X.K W m)
theorem qr' (ha : ST X W a mt) : SW X W (.BoolOp .And [a] pos) mt := pw_and1 ha
theorem gK' (ha : ST X W a mt) : SW X W (.BoolOp .Or [a] pos) mt := pw_or1 ha
theorem uz' (ha : ST X W a mt) (hb : SW X W (.BoolOp .And (b :: rest) pos) mu) : SW X W (.BoolOp .And (a :: b :: rest) pos) (M.xn' mt mu) := PW.imp (pw_and ha hb) fun σ H Q ⟨ρ, F, T, fr, rel, h⟩ => by
  refine lx' rel h fun k ρ1 H1 F1 T1 e1 r1 h1 => ?_
  cases k with
  | true => rw [if_pos rfl] at h1 ⊢; exact ⟨ρ1, F1, T1, fr, r1, h1.mono (fun _ _ z H' F' T' e => z H' F' T' (e1.trans e)) fun _ _ z => z⟩
  | false => rw [if_neg Bool.false_ne_true] at h1 ⊢; exact h1 _ _ _ e1 r1
theorem jZ' (ha : ST X W a mt) (hb : SW X W (.BoolOp .Or (b :: rest) pos) mu) : SW X W (.BoolOp .Or (a :: b :: rest) pos) (M.tOr mt mu) := PW.imp (pw_or ha hb) fun σ H Q ⟨ρ, F, T, fr, rel, h⟩ => by
  refine lx' rel h fun k ρ1 H1 F1 T1 e1 r1 h1 => ?_
  cases k with
  | true => rw [if_pos rfl] at h1 ⊢; exact h1 _ _ _ e1 r1
  | false => rw [if_neg Bool.false_ne_true] at h1 ⊢; exact ⟨ρ1, F1, T1, fr, r1, h1.mono (fun _ _ z H' F' T' e => z H' F' T' (e1.trans e)) fun _ _ z => z⟩
theorem sK' (h : SW X W a mt) : ST X W a mt := PW.pt h
theorem cl' (ha : ST X W a mt) : ST X W (.UnaryOp .Not a pos) (M.gw' mt) := PT.imp (pt_not ha) fun σ H Q ⟨ρ, F, T, fr, rel, h⟩ => lx' rel h fun k ρ1 H1 F1 T1 e1 r1 h1 => h1 _ _ _ e1 r1
variable {es : List Expr} {as : M.MA}
theorem ag' : SA X W [] M.aV' := PA.imp pa_nil fun σ H Q ⟨ρ, F, T, fr, rel, h⟩ => h [] H F T .refl .nil rel
theorem aa' (ha : SE X W a ma) (hr : SA X W es as) (hs : starEach (a :: es) X.env = (false, eval a X.env) :: starEach es X.env := by rfl) : SA X W (a :: es) (M.ac' ma as) := PA.imp (pa_cons ha hr hs) fun σ H Q ⟨ρ, F, T, fr, rel, h⟩ => by
  refine aA' rel h fun dx ρ1 v H1 F1 T1 e1 z1 r1 h1 => ?_
  refine c7' r1 h1 fun ds ρ2 vs H2 F2 T2 e2 z2 r2 h2 => ?_
  exact h2 _ _ _ _ (e1.trans e2) (.cons (z1.mono e2) z2) r2
theorem f0' {k} (h : SA X W es as) : SE X W (.Tuple es k pos) (M.o7' as) := PE.imp (pe_tup h) fun σ H Q ⟨ρ, F, T, fr, rel, h⟩ => by
  refine c7' rel h fun ds ρ1 vs H1 F1 T1 e1 z1 r1 h1 => ?_
  split at h1
  . rename_i hl
    refine ⟨by rw [z1.length, bM']; exact hl, fun p hp => ?_⟩
    obtain ⟨fp, f, back⟩ := r1.fp
    have s : Same F1 (upd F1 p (.tup vs)) := cy' (f.free hp)
    exact h1 _ _ _ _ (e1.trans (.of s)) (.tup (SqT.of upd_same) (z1.mono (.of s))) (back _ _ s (f.new hp))
  . exact h1.elim
theorem nv' (h : SA X W es as) : SE X W (.List es pos) (M.jf' as) := PE.imp (pe_lst h) fun σ H Q ⟨ρ, F, T, fr, rel, h⟩ => by
  refine c7' rel h fun ds ρ1 vs H1 F1 T1 e1 z1 r1 h1 => ?_
  split at h1
  . rename_i hl
    refine ⟨by rw [z1.length, bM']; exact hl, fun p hp => ?_⟩
    obtain ⟨fp, f, back⟩ := r1.fp
    have s : Same F1 (upd F1 p (.lst vs)) := cy' (f.free hp)
    exact h1 _ _ _ _ (e1.trans (.of s)) (.lst upd_same (z1.mono (.of s))) (back _ _ s (f.new hp))
  . exact h1.elim
abbrev SP_ (X : Cx) (W : WX) (e : Option Expr) (m : M.MP) : Prop := PO X e (qP X.K W m)
theorem lm' : SP_ X W none M.pNo := PO.imp po_none fun σ H Q ⟨ρ, F, T, fr, rel, h⟩ => h _ _ _ .refl rel
theorem ll' (ha : SE X W a ma) : SP_ X W (some a) (M.pSo ma) := PO.imp (po_some ha) fun σ H Q ⟨ρ, F, T, fr, rel, h⟩ => by
  refine aA' rel h fun dx ρ1 v H1 F1 T1 e1 z1 r1 h1 => ?_
  split at h1
  . exact ⟨_, z1.int_inv, h1 _ _ _ e1 r1⟩
  . exact h1.elim
theorem lq' {r : V -> Option Int -> Option Int -> Hp -> VK -> Prop} {lo hi : Option Expr} {ml mh : M.MP} {p2 : Pos} (ho : SlR X r) (hf : C6' X.K r) (ha : SE X W a ma) (hl : SP_ X W lo ml) (hh : SP_ X W hi mh) : SE X W (.Subscript a (.Slice lo hi none p2) pos) (M.eSl ma ml mh) :=
  PE.imp (pe_slice ho ha hl hh) fun σ H Q ⟨ρ, F, T, fr, rel, h⟩ => by
    refine aA' rel h fun dx ρ1 v H1 F1 T1 e1 z1 r1 h1 => ?_
    refine qZ' r1 h1 fun l ρ2 H2 F2 T2 e2 r2 h2 => ?_
    refine qZ' r2 h2 fun u ρ3 H3 F3 T3 e3 r3 h3 => ?_
    obtain ⟨dz, ez, q⟩ := aW'.ofO h3
    obtain ⟨fp, f3, back⟩ := r3.fp
    exact hf f3 ((z1.mono e2).mono e3) ez fun v' H4 F4 s zz f4 => q v' H4 F4 T3 (e1.trans (e2.trans (e3.trans (.of s)))) zz (back H4 F4 s f4)
end
end S
namespace S
open PySem PySem.Spec PyProof.Rows L2
variable [Wd]
section
variable (K : PySem.W.Frag) (H : Hp)
mutual
inductive NkV : V -> NestedKey -> Prop
  | non : NkV .non .none
  | bl (b : Bool) : NkV (.bl b) (.num (if b = true then 1 else 0))
  | int (i : Int) : NkV (.int i) (.num i)
  | str (x : Str) : NkV (.str x) (.text x)
  | tup {a : Addr} {vs : List V} {ks : List NestedKey} : SqT K H a vs -> NkVs vs ks -> NkV (.ref a) (.tup ks)
inductive NkVs : List V -> List NestedKey -> Prop
  | nil : NkVs [] []
  | cons {v : V} {vs : List V} {k : NestedKey} {ks : List NestedKey} : NkV v k -> NkVs vs ks -> NkVs (v :: vs) (k :: ks)
end
end
section
variable {X : Cx} {pins : List (Addr × Obj)} {σ : St} {H : Hp} {s : Shared}
mutual
theorem NkV.is (I : Inv X pins σ H s) : ∀ {v : V} {k : NestedKey} {u : Value}, NkV X.K H v k -> RelV v u -> NestedIs s.heap k u
  | _, _, _, .non, r => by cases (show _ = Value.none from r); exact .none
  | _, _, _, .bl b, r => by cases (show _ = Value.bool b from r); exact .bool rfl
  | _, _, _, .int i, r => by obtain ⟨t, e⟩ := (show ∃ t, _ = Value.int i t from r); subst e; exact .int i t
  | _, _, _, .str x, r => by obtain ⟨t, e⟩ := (show ∃ t, _ = Value.str x t from r); subst e; exact .text x t
  | _, _, _, .tup (a := a) h q, r => by
    cases (show _ = Value.ref a from r)
    obtain ⟨its, rv, ⟨o, h1, h2, n, h3⟩, _⟩ := I.tuple h
    exact .tup h1 h2 h3 (NkVs.is I q rv)
theorem NkVs.is (I : Inv X pins σ H s) : ∀ {v : List V} {k : List NestedKey} {u : List Value}, NkVs X.K H v k -> Vals v u -> NestedAll s.heap k u
  | _, _, _, .nil, r => by cases r; exact .nil
  | _, _, _, .cons a q, r => by
    cases r with
    | cons ra rq => exact .cons (NkV.is I a ra) (NkVs.is I q rq)
end
end
section
variable {K : PySem.W.Frag} {F H : Hp} {T : List Addr}
mutual
theorem Fz.nk (s : Same F H) : ∀ {v : V} {d : M.D}, Fz K F T v d -> M.kat d = true -> NkV K H v (nk d)
  | _, _, .non, _ => .non
  | _, _, .bl b, _ => .bl b
  | _, _, .int i, _ => .int i
  | _, _, .str h, _ => .str _
  | _, _, .tup h r, e => .tup (seqT s h) (FzA.nk s r e)
  | _, _, .lst h r, e => by cases e
  | _, _, .dct h _ r, e => by cases e
  | _, _, .dcl h k r, e => by cases e
  | _, _, .dcn h k q r, e => by cases e
  | _, _, .rep d, e => by cases e
  | _, _, .obj h, e => by cases e
  | _, _, .ty n, e => by cases e
  | _, _, .fn x, e => by cases e
  | _, _, .scr h r, e => by cases e
theorem FzA.nk (s : Same F H) : ∀ {vs : List V} {ds : List M.D}, FzA K F T vs ds -> M.kats ds = true -> NkVs K H vs (nks ds)
  | _, _, .nil, _ => .nil
  | _, _, .cons h r, e => by
    obtain ⟨e1, e2⟩ := Bool.and_eq_true_iff.mp (show (M.kat _ && M.kats _) = true from e)
    exact .cons (Fz.nk s h e1) (FzA.nk s r e2)
end
def lfV : V -> Option Leaf
  | .non => some .none
  | .bl b => some (.num (if b = true then 1 else 0))
  | .int i => some (.num i)
  | .str x => some (.text x)
  | _ => none
theorem Fz.lf {v : V} {d : M.D} (h : Fz K F T v d) (e : M.sca d = true) : lfV v = some (lfD d) := by
  cases h <;> first | rfl | (cases e)
theorem ry' {P : Program} {w : World} {v : V} {l : Leaf} {u : Value} (h : lfV v = some l) (r : RelV v u) : (leafKind P w).is l u = true := by
  cases v with
  | non => cases h; cases (show _ = Value.none from r); rfl
  | bl b => cases h; cases (show _ = Value.bool b from r); cases b <;> rfl
  | int i => cases h; obtain ⟨t, e⟩ := (show ∃ t, _ = Value.int i t from r); subst e; exact leaf_int i t
  | str x => cases h; obtain ⟨t, e⟩ := (show ∃ t, _ = Value.str x t from r); subst e; exact leaf_str x t
  | _ => cases h
end
mutual
theorem i6' : ∀ d : M.D, M.kat d = true -> (nk d).depth = M.dep d
  | .non, _ => rfl
  | .bl _, _ => rfl
  | .int _, _ => rfl
  | .str _, _ => rfl
  | .tup ds, e => congrArg (· + 1) (nks_depth ds e)
  | .lst _, e => by cases e
  | .dct _ _, e => by cases e
  | .dcx _ _, e => by cases e
  | .rep _, e => by cases e
  | .obj _, e => by cases e
  | .ty _, e => by cases e
  | .fn _, e => by cases e
  | .exc _ _, e => by cases e
  | .scr _, e => by cases e
theorem nks_depth : ∀ ds : List M.D, M.kats ds = true -> NestedKey.depthAll (nks ds) = M.deps ds
  | [], _ => rfl
  | d :: r, e => by
    obtain ⟨e1, e2⟩ := Bool.and_eq_true_iff.mp (show (M.kat d && M.kats r) = true from e)
    show max _ _ = max _ _
    rw [i6' d e1, nks_depth r e2]
end
mutual
theorem uV' : ∀ d e : M.D, M.kat d = true -> M.kat e = true -> M.eqb d e = NestedKey.beq (nk d) (nk e)
  | .non, e, _, h => by cases e <;> first | rfl | (cases h)
  | .bl a, e, _, h => by
    cases e with
    | bl b => cases a <;> cases b <;> rfl
    | int j => show ((if a then 1 else 0 : Int) == j) = decide _; rw [Bool.eq_iff_iff]; simp
    | _ => first | rfl | (cases h)
  | .int i, e, _, h => by
    cases e with
    | bl b => show (i == (if b then 1 else 0 : Int)) = decide _; rw [Bool.eq_iff_iff]; simp
    | int j => show (i == j) = decide _; rw [Bool.eq_iff_iff]; simp
    | _ => first | rfl | (cases h)
  | .str a, e, _, h => by
    cases e with
    | str b => show (a == b) = decide _; rw [Bool.eq_iff_iff, beq_iff_eq, decide_eq_true_iff]; exact ⟨fun h => by rw [h], ux'⟩
    | _ => first | rfl | (cases h)
  | .tup a, e, h1, h => by
    cases e with
    | tup b => exact eqbs_nk a b h1 h
    | _ => first | rfl | (cases h)
  | .lst _, _, h, _ => by cases h
  | .dct _ _, _, h, _ => by cases h
  | .dcx _ _, _, h, _ => by cases h
  | .rep _, _, h, _ => by cases h
  | .obj _, _, h, _ => by cases h
  | .ty _, _, h, _ => by cases h
  | .fn _, _, h, _ => by cases h
  | .exc _ _, _, h, _ => by cases h
  | .scr _, _, h, _ => by cases h
theorem eqbs_nk : ∀ d e : List M.D, M.kats d = true -> M.kats e = true -> M.eqbs d e = NestedKey.beqAll (nks d) (nks e)
  | [], [], _, _ => rfl
  | [], _ :: _, _, _ => rfl
  | _ :: _, [], _, _ => rfl
  | a :: d, b :: e, h1, h2 => by
    obtain ⟨a1, a2⟩ := Bool.and_eq_true_iff.mp (show (M.kat a && M.kats d) = true from h1)
    obtain ⟨b1, b2⟩ := Bool.and_eq_true_iff.mp (show (M.kat b && M.kats e) = true from h2)
    show (M.eqb a b && M.eqbs d e) = (NestedKey.beq (nk a) (nk b) && NestedKey.beqAll (nks d) (nks e))
    rw [uV' a b a1 b1, eqbs_nk d e a2 b2]
end
theorem rT' {d e : M.D} (h1 : M.kat d = true) (h2 : M.kat e = true) : M.eqb d e = decide (nk d = nk e) := by
  rw [uV' d e h1 h2, NestedKey.decide_eq]
theorem qG' {d : M.D} (h : M.sca d = true) : M.kat d = true := by cases d <;> first | rfl | (cases h)
theorem uN' {d : M.D} (h : M.sca d = true) : (lfD d).key = nk d := by cases d <;> first | rfl | (cases h)
theorem zl' {d e : M.D} (h1 : M.sca d = true) (h2 : M.sca e = true) : M.eqb d e = decide (lfD d = lfD e) := by
  rw [rT' (qG' h1) (qG' h2), <- uN' h1, <- uN' h2]
  by_cases q : lfD d = lfD e
  . rw [decide_eq_true q, decide_eq_true (congrArg Leaf.key q)]
  . rw [decide_eq_false q, decide_eq_false fun r => q (Leaf.key_inj r)]
theorem uW' (k j : Key) : M.eqb (kD k) (kD j) = decide (k = j) := by
  cases k with
  | inl a => cases j with
    | inl b => rw [key_ll]; rfl
    | inr b => rw [key_lr]; rfl
  | inr a => cases j with
    | inl b => rw [key_rl]; rfl
    | inr b =>
      rw [key_rr]
      show (a.cps.toList == b.cps.toList) = _
      rw [Bool.eq_iff_iff, beq_iff_eq, decide_eq_true_iff]
      exact ⟨fun h => by rw [<- vC' a, <- vC' b, h], fun h => by rw [h]⟩
section
variable {κ : Type} [DecidableEq κ]
theorem eg' {dk : M.D} {k : κ} : ∀ {kvs : List (κ × V)} {ks : List M.D}, Paired (fun p d => M.eqb d dk = decide (p.1 = k)) kvs ks -> valV kvs k = M.dget ks (kvs.map (·.2)) dk
  | _, _, .nil => rfl
  | p :: kvs, d :: ks, .cons h r => by
    have ih := eg' r
    unfold M.dget M.gA' at ih ⊢
    rw [List.findIdx?_cons, h]
    by_cases e : p.1 = k
    . rw [valV_pos e, decide_eq_true e]; rfl
    . rw [valV_neg e, decide_eq_false e, ih]
      cases ks.findIdx? fun d => M.eqb d dk <;> rfl
theorem c8' {dk : M.D} {k : κ} {v : V} : ∀ {kvs : List (κ × V)} {ks : List M.D}, Paired (fun p d => M.eqb d dk = decide (p.1 = k)) kvs ks -> (kvs.map (·.1)).Nodup →
    (∀ j, M.gA' ks dk = some j -> (putK kvs k v).map (·.1) = kvs.map (·.1) /\ (putK kvs k v).map (·.2) = (kvs.map (·.2)).set j v) /\ (M.gA' ks dk = none -> putK kvs k v = kvs ++ [(k, v)])
  | _, _, .nil, _ => ⟨fun j h => (nomatch (show (none : Option Nat) = some j from h)), fun _ => rfl⟩
  | p :: kvs, d :: ks, .cons h r, nd => by
    rw [List.map_cons, List.nodup_cons] at nd
    obtain ⟨i1, i2⟩ := c8' (v := v) r nd.2
    have hk : M.gA' (d :: ks) dk = if p.1 = k then some 0 else (M.gA' ks dk).map (· + 1) := by
      unfold M.gA'
      rw [List.findIdx?_cons, h]
      by_cases e : p.1 = k <;> simp [e]
    by_cases e : p.1 = k
    . rw [hk, if_pos e]
      refine ⟨fun j hj => ?_, fun hj => nomatch hj⟩
      cases hj
      have no : ∀ q ∈ kvs, ¬ q.1 = k := fun q hq z => nd.1 (by rw [e, <- z]; exact List.mem_map_of_mem hq)
      have same : kvs.map (fun kv => if kv.1 = k then (kv.1, v) else kv) = kvs := by
        conv => rhs; rw [<- List.map_id kvs]
        exact List.map_congr_left fun q hq => by rw [if_neg (no q hq)]; rfl
      have hp : putK (p :: kvs) k v = (p.1, v) :: kvs := by
        unfold putK
        rw [if_pos (by simp [e]), List.map_cons, if_pos e, same]
      rw [hp]
      exact ⟨rfl, rfl⟩
    . have hp : putK (p :: kvs) k v = p :: putK kvs k v := by
        unfold putK
        simp only [List.any_cons, decide_eq_false e, Bool.false_or, List.map_cons, if_neg e, List.cons_append]
        split <;> rfl
      rw [hk, if_neg e, hp]
      refine ⟨fun j hj => ?_, fun hj => ?_⟩
      . cases q : M.gA' ks dk with
        | none => rw [q] at hj; cases hj
        | some j' =>
          rw [q] at hj
          cases hj
          obtain ⟨a, b⟩ := i1 j' q
          simp only [List.map_cons, a, b, List.set_cons_succ, and_self]
      . cases q : M.gA' ks dk with
        | none => rw [i2 q]; rfl
        | some j' => rw [q] at hj; cases hj
end
theorem g1' {κ : Type} [DecidableEq κ] {g : M.D -> κ} {dk : M.D} {k : κ} : ∀ {kvs : List (κ × V)} {ks : List M.D}, kvs.map (·.1) = ks.map g -> (∀ d ∈ ks, M.eqb d dk = decide (g d = k)) -> Paired (fun p d => M.eqb d dk = decide (p.1 = k)) kvs ks
  | [], [], _, _ => .nil
  | [], _ :: _, e, _ => by cases e
  | _ :: _, [], e, _ => by cases e
  | p :: kvs, d :: ks, e, h => by
    simp only [List.map_cons, List.cons.injEq] at e
    exact .cons (by rw [h d (by simp), e.1]) (g1' e.2 fun d hd => h d (by simp [hd]))
abbrev xsV (xs : List (NestedKey × Addr × V)) : List (NestedKey × V) := xs.map fun x => (x.1, x.2.2)
def xk' (K : PySem.W.Frag) (H : Hp) (xs : List (NestedKey × Addr × V)) : Prop := ∀ x ∈ xs, NkV K H (.ref x.2.1) x.1 /\ x.1.depth <= 8
inductive DLk (K : PySem.W.Frag) (H : Hp) (a : Addr) : V -> Option V -> Prop
  | k {kvs : List (Key × V)} (k : Key) : Rd H a (.dK kvs) -> DLk K H a (kV k) (valV kvs k)
  | l {kvs : List (Leaf × V)} {y : V} {l : Leaf} : Rd H a (dcL a kvs) -> lfV y = some l -> DLk K H a y (valV kvs l)
  | n {xs : List (NestedKey × Addr × V)} {b : Addr} {k : NestedKey} : Rd H a (dcN a xs) -> xk' K H xs -> NkV K H (.ref b) k -> k.depth <= 8 -> DLk K H a (.ref b) (valV (xsV xs) k)
  | ln {b : Addr} {k : NestedKey} : Rd H a (dcL a []) -> NkV K H (.ref b) k -> k.depth <= 8 -> DLk K H a (.ref b) none
  | nl {y : V} {l : Leaf} : Rd H a (dcN a []) -> lfV y = some l -> DLk K H a y none
section
variable {X : Cx} {pins : List (Addr × Obj)} {σ : St} {H : Hp} {s : Shared} {a b : Addr} {y : V} {u : Value} {ov : Option V} {A : Around} {E : Value -> Shared -> Prop}
theorem s1' {u : HO} (I : Inv X pins σ H s) (h : Rd H a u) : ObjOk X.prog X.w H s.heap a u := by
  rcases h with h | ⟨o, h⟩
  . exact I.hok a _ h
  . exact (show ObjOk X.prog X.w H s.heap a (.frz o u) from I.hok a _ h).2
theorem iz' (hw : X.prog = Wd.P /\ X.w = Wd.w) (I : Inv X pins σ H s) {kvs : List (Leaf × V)} (h : Rd H a (dcL a kvs)) : (a == sysModules) = false /\ kvs.length <= sizeLine /\ ∃ vs, KV kvs vs /\ s.heap.DictOf (leafKind X.prog X.w) a vs := by
  obtain ⟨⟨h1, h2, vs, h3, h4⟩, _⟩ := (show ObjOk X.prog X.w H s.heap a (dcL a kvs) from s1' I h)
  refine ⟨h1, h2, vs, h3, ?_⟩
  rw [<- hw.1, <- hw.2] at h4
  exact h4
theorem g0' {xs : List (NestedKey × Addr × V)} {ys : List (NestedKey × Addr × Value)} (p : Paired o8' xs ys) : xs.map (·.1) = ys.map (·.1) := by
  induction p with
  | nil => rfl
  | cons h _ ih => rw [List.map_cons, List.map_cons, h.1, ih]
theorem u7' {xs : List (NestedKey × Addr × V)} {ys : List (NestedKey × Addr × Value)} (p : Paired o8' xs ys) (k : NestedKey) : RelO (valV (xsV xs) k) ((atKey ys k).map (·.2)) := by
  induction p with
  | nil => exact True.intro
  | @cons x y xs ys h r ih =>
    by_cases e : x.1 = k
    . have e' : y.1 = k := by rw [<- h.1]; exact e
      rw [show xsV (x :: xs) = (x.1, x.2.2) :: xsV xs from rfl, valV_pos (p := (x.1, x.2.2)) e]
      have : atKey (y :: ys) k = some y.2 := by simp [atKey, List.find?_cons, e']
      rw [this]
      exact h.2.2
    . have e' : ¬ y.1 = k := by rw [<- h.1]; exact e
      rw [show xsV (x :: xs) = (x.1, x.2.2) :: xsV xs from rfl, valV_neg (p := (x.1, x.2.2)) e]
      have : atKey (y :: ys) k = atKey ys k := by simp [atKey, List.find?_cons, e']
      rw [this]
      exact ih
theorem oa' (hw : X.prog = Wd.P /\ X.w = Wd.w) (I : Inv X pins σ H s) {xs : List (NestedKey × Addr × V)} (h : Rd H a (dcN a xs)) (ok : xk' X.K H xs) : (a == sysModules) = false /\ xs.length <= sizeLine /\ (xs.map (·.1)).Nodup ∧
    ∃ ys, Paired o8' xs ys /\ s.heap.DictOfH (nestedKind X.prog X.w) a ys := by
  obtain ⟨⟨h1, h2, h3, ys, h4, o, es, ep, g1, g2, g3, g4⟩, _⟩ := (show ObjOk X.prog X.w H s.heap a (dcN a xs) from s1' I h)
  refine ⟨h1, h2, h3, ys, h4, o, es, ep, g1, g2, g3, ?_, ?_, ?_⟩
  . rw [<- hw.1, <- hw.2] at g4
    exact g4
  . have main : ∀ {xs : List (NestedKey × Addr × V)} {ys : List (NestedKey × Addr × Value)}, Paired o8' xs ys -> xk' X.K H xs -> ∀ y ∈ ys, (nestedKind X.prog X.w).is s.heap y.1 y.2.1 := by
      intro xs ys p ok
      induction p with
      | nil => exact fun _ z => nomatch z
      | @cons x y xs ys h r ih =>
        intro z hz
        rcases List.mem_cons.mp hz with rfl | hz
        . obtain ⟨q1, q2⟩ := ok x (by simp)
          rw [<- h.1, <- h.2.1]
          exact ⟨q1.is I rfl, q2⟩
        . exact ih (fun w hw => ok w (by simp [hw])) z hz
    exact main h4 ok
  . rw [<- g0' h4]; exact h3
theorem fJ' (hw : X.prog = Wd.P /\ X.w = Wd.w) (I : Inv X pins σ H s) (h : Rd H a (dcL a [])) : (a == sysModules) = false /\ s.heap.DictOfH (nestedKind X.prog X.w) a [] := by
  obtain ⟨h1, _, vs, h3, o, es, ep, g1, g2, g3, _, g5, _⟩ := iz' hw I h
  cases h3
  obtain ⟨l⟩ := es
  have e : l = [] := by
    have g5 : PySem.Pairs (leafKind X.prog X.w) l [] := g5
    cases g5
    rfl
  exact ⟨h1, o, _, ep, g1, g2, g3, e, (fun _ z => nomatch z), List.nodup_nil⟩
theorem fG' (I : Inv X pins σ H s) (h : Rd H a (dcN a [])) : (a == sysModules) = false /\ s.heap.DictOf (leafKind X.prog X.w) a [] := by
  obtain ⟨⟨h1, _, _, ys, h4, o, es, ep, g1, g2, g3, g4⟩, _⟩ := (show ObjOk X.prog X.w H s.heap a (dcN a []) from s1' I h)
  cases h4
  obtain ⟨l⟩ := es
  have e : l = [] := g4
  subst e
  exact ⟨h1, o, #[], ep, g1, g2, g3, (fun _ z => by simp at z), .nil, List.nodup_nil⟩
theorem wI' (hw : X.prog = Wd.P /\ X.w = Wd.w) (I : Inv X pins σ H s) (g : DLk X.K H a y ov) : s.TypeIs (.ref a) "dict" := by
  cases g with
  | k k e => obtain ⟨_, _, vs, _, dd⟩ := dk_rd I.hok e; exact dd.typeIs
  | l e _ => obtain ⟨_, _, vs, _, dd⟩ := iz' hw I e; exact dd.typeIs
  | n e ok _ _ => obtain ⟨_, _, _, ys, _, dd⟩ := oa' hw I e ok; exact dd.typeIs
  | ln e _ _ => exact (fJ' hw I e).2.typeIs
  | nl e _ => exact (fG' I e).2.typeIs
theorem qM' {P : Program} {w : World} (hu : A.units + 64 < cLine) : (nestedKind P w).room A.in1 := by
  show A.units + 1 + 8 < cLine
  omega
theorem zq' {v : V} {Q : Value -> Shared -> Prop} (hw : X.prog = Wd.P /\ X.w = Wd.w) (hu : A.units + 64 < cLine) (I : Inv X pins σ H s) (g : DLk X.K H a y (some v)) (ry : RelV y u)
    (h : ∀ w' s', Inv X pins σ H s' -> RelV v w' -> Q w' s') : wpAny (model X.prog X.w) A (getItem (.ref a) u) Q E s := by
  generalize hov : some v = ov at g
  cases g with
  | k k e =>
    obtain ⟨_, _, vs, rel, dd⟩ := dk_rd I.hok e
    obtain ⟨w', q1, q2⟩ := RelO.some_of (v := v) (o := valueAt vs k) (by rw [hov]; exact rel.val k)
    exact wpAny_getItem_of (kV_is ry) dd.mapOf q1 (h w' _ (I.tok _) q2)
  | @l kvs _ l e hy =>
    obtain ⟨_, _, vs, rel, dd⟩ := iz' hw I e
    obtain ⟨w', q1, q2⟩ := RelO.some_of (v := v) (o := valueAt vs l) (by rw [hov]; exact rel.val l)
    exact wpAny_getItem_of (ry' hy ry) dd.mapOf q1 (h w' _ (I.tok _) q2)
  | @n xs b k e ok hk hd =>
    obtain ⟨_, _, _, ys, rel, dd⟩ := oa' hw I e ok
    cases (show u = Value.ref b from ry)
    obtain ⟨w', q1, q2⟩ := RelO.some_of (v := v) (o := (atKey ys k).map (·.2)) (by rw [hov]; exact u7' rel k)
    obtain ⟨p, hp, hp2⟩ := Option.map_eq_some_iff.mp q1
    refine wpAny_getItem_heap (qM' hu) ⟨hk.is I rfl, hd⟩ dd hp ?_
    rw [hp2]
    exact h w' _ (I.tok _) q2
  | ln _ _ _ => cases hov
  | nl _ _ => cases hov
theorem zp' {Q : Value -> Shared -> Prop} (hw : X.prog = Wd.P /\ X.w = Wd.w) (hu : A.units + 64 < cLine) (I : Inv X pins σ H s) (g : DLk X.K H a y ov) (ry : RelV y u)
    (h : ∀ s', Inv X pins σ H s' -> Q (.bool (!ov.isSome)) s') : wpAny (model X.prog X.w) A (compareOp .NotIn u (.ref a)) Q E s := by
  cases g with
  | k k e =>
    obtain ⟨_, hd, vs, rel, dd⟩ := dk_rd I.hok e
    refine wpAny_notIn_of (kV_is ry) hd dd.mapOf ?_
    rw [<- (rel.val k).isSome_eq]
    exact h _ (I.tok _)
  | @l kvs _ l e hy =>
    obtain ⟨hd, _, vs, rel, dd⟩ := iz' hw I e
    refine wpAny_notIn_of (ry' hy ry) hd dd.mapOf ?_
    rw [<- (rel.val l).isSome_eq]
    exact h _ (I.tok _)
  | @n xs b k e ok hk hdp =>
    obtain ⟨hd, _, _, ys, rel, dd⟩ := oa' hw I e ok
    cases (show u = Value.ref b from ry)
    refine wpAny_notIn_heap (qM' hu) ⟨hk.is I rfl, hdp⟩ hd dd ?_
    have q := (u7' rel k).isSome_eq
    rw [Option.isSome_map] at q
    rw [<- q]
    exact h _ (I.tok _)
  | @ln b k e hk hdp =>
    obtain ⟨hd, dd⟩ := fJ' hw I e
    cases (show u = Value.ref b from ry)
    exact wpAny_notIn_heap (qM' hu) ⟨hk.is I rfl, hdp⟩ hd dd (h _ (I.tok _))
  | @nl _ l e hy =>
    obtain ⟨hd, dd⟩ := fG' I e
    exact wpAny_notIn_of (ry' hy ry) hd dd.mapOf (h _ (I.tok _))
def le' (xs : List (NestedKey × Addr × V)) (k : NestedKey) (b : Addr) (v : V) : List (NestedKey × Addr × V) :=
  if (xs.any fun x => decide (x.1 = k)) = true then xs.map (fun x => if x.1 = k then (x.1, x.2.1, v) else x) else xs ++ [(k, b, v)]
theorem nE' (xs : List (NestedKey × Addr × V)) (k : NestedKey) (b : Addr) (v : V) : xsV (le' xs k b v) = putK (xsV xs) k v := by
  have e : ((xsV xs).any fun kv => decide (kv.1 = k)) = xs.any fun x => decide (x.1 = k) := by rw [xsV, List.any_map]; rfl
  unfold le' putK
  rw [e]
  split
  . rw [xsV, xsV, List.map_map, List.map_map]
    refine List.map_congr_left fun x _ => ?_
    by_cases h : x.1 = k <;> simp [h]
  . simp [xsV]
theorem q3' {xs : List (NestedKey × Addr × V)} {k : NestedKey} {b : Addr} {v : V} (h : (xs.any fun x => decide (x.1 = k)) = true) : (le' xs k b v).map (fun x => V.ref x.2.1) = xs.map fun x => V.ref x.2.1 := by
  unfold le'
  rw [if_pos h, List.map_map]
  refine List.map_congr_left fun x _ => ?_
  by_cases h : x.1 = k <;> simp [h]
theorem j6' (k : NestedKey) {v : V} {r : Value} (rv : RelV v r) : ∀ {xs : List (NestedKey × Addr × V)} {ys : List (NestedKey × Addr × Value)}, Paired o8' xs ys -> Paired o8' (xs.map fun x => if x.1 = k then (x.1, x.2.1, v) else x) (ys.map (putAt k r))
  | _, _, .nil => .nil
  | x :: _, y :: _, .cons h p => by
    refine .cons ?_ (j6' k rv p)
    unfold putAt
    by_cases e : x.1 = k
    . simp only [if_pos e, if_pos (show y.1 = k from h.1 ▸ e)]
      exact ⟨h.1, h.2.1, rv⟩
    . simp only [if_neg e, if_neg (show ¬ y.1 = k from h.1 ▸ e)]
      exact h
theorem nr' (k : NestedKey) (b : Addr) {v : V} {r : Value} (rv : RelV v r) : ∀ {xs : List (NestedKey × Addr × V)} {ys : List (NestedKey × Addr × Value)}, Paired o8' xs ys -> Paired o8' (xs ++ [(k, b, v)]) (ys ++ [(k, b, r)])
  | _, _, .nil => .cons ⟨rfl, rfl, rv⟩ .nil
  | _, _, .cons h p => .cons h (nr' k b rv p)
theorem nF' {xs : List (NestedKey × Addr × V)} {ys : List (NestedKey × Addr × Value)} (p : Paired o8' xs ys) (k : NestedKey) (b : Addr) {v : V} {r : Value} (rv : RelV v r) : Paired o8' (le' xs k b v) (storedH ys k b r) := by
  have ea : (xs.any fun x => decide (x.1 = k)) = (atKey ys k).isSome := by
    have q := (u7' p k).isSome_eq
    rw [Option.isSome_map] at q
    rw [<- q, <- valV_any, xsV, List.any_map]
    rfl
  unfold le' storedH
  rw [ea]
  split
  . exact j6' k rv p
  . exact nr' k b rv p
inductive DSt (K : PySem.W.Frag) (H : Hp) (a : Addr) (y v : V) (N : Hp -> Prop) : Prop
  | k {kvs : List (Key × V)} (k : Key) : H a = some (.dK kvs) -> y = kV k -> ((kvs.map (·.1)).Nodup -> (kvs.length <= sizeLine -> (putK kvs k v).length <= sizeLine) /\ N (upd H a (.dK (putK kvs k v)))) -> DSt K H a y v N
  | l {kvs : List (Leaf × V)} {l : Leaf} : H a = some (dcL a kvs) -> lfV y = some l -> ((kvs.map (·.1)).Nodup -> (kvs.length <= sizeLine -> (putK kvs l v).length <= sizeLine) /\ N (upd H a (dcL a (putK kvs l v)))) -> DSt K H a y v N
  | n {xs : List (NestedKey × Addr × V)} {b : Addr} {k : NestedKey} : H a = some (dcN a xs) -> xk' K H xs -> y = .ref b -> NkV K H (.ref b) k -> k.depth <= 8 -> ((xs.map (·.1)).Nodup -> (xs.length <= sizeLine -> (le' xs k b v).length <= sizeLine) /\ N (upd H a (dcN a (le' xs k b v)))) -> DSt K H a y v N
  | ln {b : Addr} {k : NestedKey} : H a = some (dcL a []) -> y = .ref b -> NkV K H (.ref b) k -> k.depth <= 8 -> N (upd H a (dcN a [(k, b, v)])) -> DSt K H a y v N
  | nl {l : Leaf} : H a = some (dcN a []) -> lfV y = some l -> N (upd H a (dcL a [(l, v)])) -> DSt K H a y v N
theorem lS' {P : Program} {H' : Hp} {h' : Heap} {kvs : List (Leaf × V)} {vs : List (Leaf × Value)} (z : kvs.length <= sizeLine) (hd : (a == sysModules) = false) (rel : KV kvs vs) (dd : h'.DictOf (leafKind Wd.P Wd.w) a vs) :
    ObjOk P Wd.w H' h' a (dcL a kvs) := by
  obtain ⟨o, es, ep, g⟩ := id dd
  refine ⟨⟨hd, z, vs, rel, dd⟩, ⟨o, g.1⟩, ?_⟩
  rintro h1 h2 ⟨a1, a2, vs', a3, o', es', ep', g1, g2⟩ k
  exact ⟨a1, a2, vs', a3, o', es', ep', k _ g1, g2⟩
theorem rY' {P : Program} {H' : Hp} {h' : Heap} {xs : List (NestedKey × Addr × V)} {ys : List (NestedKey × Addr × Value)} (z : xs.length <= sizeLine) (hd : (a == sysModules) = false) (rel : Paired o8' xs ys) (dd : h'.DictOfH (nestedKind Wd.P Wd.w) a ys) :
    ObjOk P Wd.w H' h' a (dcN a xs) := by
  obtain ⟨o, es, ep, g1, g2, g3, g4, g5, g6⟩ := dd
  refine ⟨⟨hd, z, by rw [g0' rel]; exact g6, ys, rel, o, es, ep, g1, g2, g3, g4⟩, ⟨o, g1⟩, ?_⟩
  rintro h1 h2 ⟨a1, a2, a3, ys', a4, o', es', ep', g1, g2⟩ k
  exact ⟨a1, a2, a3, ys', a4, o', es', ep', k _ g1, g2⟩
theorem zo' {v : V} {r : Value} {N : Hp -> Prop} {Q : Unit -> Shared -> Prop} (hw : X.prog = Wd.P /\ X.w = Wd.w) (hu : A.units + 64 < cLine) (I : Inv X pins σ H s) (g : DSt X.K H a y v N) (ry : RelV y u) (rv : RelV v r)
    (h : ∀ H' s', Inv X pins σ H' s' -> N H' -> Q () s') : wpAny (model X.prog X.w) A (setItem (.ref a) u r) Q E s := by
  cases g with
  | @k kvs k e ey n =>
    subst ey
    obtain ⟨z, hd, vs, rel, dd⟩ := dk_of I.hok e
    have hz : vs.length <= sizeLine := by rw [<- rel.length]; exact z
    have nd : (kvs.map (·.1)).Nodup := by
      rw [rel.keys]
      obtain ⟨_, _, _, _, _, _, _, _, nd⟩ := id dd
      exact nd
    obtain ⟨n1, n2⟩ := n nd
    exact wpAny_setItem_pairs (hsz := hz) (kV_is ry) dd fun h' dd' hs => h _ _ (d_write I (by rw [e]; exact True.intro) hs (let ⟨q, _, _, hq, _⟩ := dd'; ⟨q, hq⟩) (dk_new (n1 z) hd (rel.put k rv) dd')) n2
  | @l kvs l e hy n =>
    obtain ⟨hd, z, vs, rel, dd⟩ := iz' hw I (.inl e)
    have hz : vs.length <= sizeLine := by rw [<- rel.length]; exact z
    have nd : (kvs.map (·.1)).Nodup := by
      rw [rel.keys]
      obtain ⟨_, _, _, _, _, _, _, _, nd⟩ := id dd
      exact nd
    obtain ⟨n1, n2⟩ := n nd
    refine wpAny_setItem_pairs (hsz := hz) (ry' hy ry) dd fun h' dd' hs => h _ _ (d_write I (by rw [e]; exact True.intro) hs (let ⟨q, _, _, hq, _⟩ := dd'; ⟨q, hq⟩) ?_) n2
    rw [hw.1, hw.2] at dd'
    rw [hw.2]
    exact lS' (n1 z) hd (rel.put l rv) dd'
  | @n xs b k e ok ey hk hdp n =>
    subst ey
    cases (show u = Value.ref b from ry)
    obtain ⟨hd, z, nd, ys, rel, dd⟩ := oa' hw I (.inl e) ok
    have hz : ys.length <= sizeLine := by rw [<- Paired.length rel]; exact z
    obtain ⟨n1, n2⟩ := n nd
    refine wpAny_setItem_heap (hsz := hz) (qM' hu) ⟨hk.is I rfl, hdp⟩ dd fun h' dd' hs => h _ _ (d_write I (by rw [e]; exact True.intro) hs (let ⟨q, _, _, hq, _⟩ := dd'; ⟨q, hq⟩) ?_) n2
    rw [hw.1, hw.2] at dd'
    rw [hw.2]
    exact rY' (n1 z) hd (nF' rel k b rv) dd'
  | @ln b k e ey hk hdp n =>
    subst ey
    cases (show u = Value.ref b from ry)
    obtain ⟨hd, dd⟩ := fJ' hw I (.inl e)
    refine wpAny_setItem_heap (hsz := Nat.zero_le _) (qM' hu) ⟨hk.is I rfl, hdp⟩ dd fun h' dd' hs => h _ _ (d_write I (by rw [e]; exact True.intro) hs (let ⟨q, _, _, hq, _⟩ := dd'; ⟨q, hq⟩) ?_) n
    rw [hw.1, hw.2] at dd'
    rw [hw.2]
    exact rY' (by rw [sizeLine_eq]; show 1 <= 16777216; decide) hd (nF' .nil k b rv) dd'
  | @nl l e hy n =>
    obtain ⟨hd, dd⟩ := fG' I (.inl e)
    refine wpAny_setItem_pairs (hsz := Nat.zero_le _) (ry' hy ry) dd fun h' dd' hs => h _ _ (d_write I (by rw [e]; exact True.intro) hs (let ⟨q, _, _, hq, _⟩ := dd'; ⟨q, hq⟩) ?_) n
    rw [hw.1, hw.2] at dd'
    rw [hw.2]
    exact lS' (by rw [sizeLine_eq]; show 1 <= 16777216; decide) hd (KV.put (kvs := []) .nil l rv) dd'
def vU' (K : PySem.W.Frag) : List V -> Hp -> VK -> Prop := fun xs H Q => yr' K xs H Q \/ (∃ a kvs, xs = [V.ref a] /\ Rd H a (dcL a kvs) /\ Q (.int kvs.length) H) \/ ∃ a ys, xs = [V.ref a] /\ Rd H a (dcN a ys) /\ Q (.int ys.length) H
theorem a4' (hw : X.prog = Wd.P /\ X.w = Wd.w) : CallR X (.builtin "len") (vU' X.K) := by
  intro pins s σ H vs us Q I r h
  rcases h with h | ⟨a, kvs, rfl, e, q⟩ | ⟨a, xs, rfl, e, q⟩
  . exact r6' pins s σ H vs us Q I r h
  . cases r with
    | cons ra rn =>
      cases rn
      cases (show _ = Value.ref a from ra)
      obtain ⟨hd, z, ws, rel, dd⟩ := iz' hw I e
      refine call_len_dict hd dd (by rw [<- rel.length]; rw [sizeLine_eq] at z; omega) ?_
      rw [<- rel.length]
      exact ⟨.int kvs.length, H, I.tok _, ⟨_, rfl⟩, q⟩
  . cases r with
    | cons ra rn =>
      cases rn
      cases (show _ = Value.ref a from ra)
      obtain ⟨⟨hd, z, _, ys, rel, o, es, ep, g1, g2, g3, g4⟩, _⟩ := (show ObjOk X.prog X.w H s.heap a (dcN a xs) from s1' I e)
      have hl : es.size = xs.length := by
        have := congrArg List.length g4
        rw [List.length_map, <- Paired.length rel, Array.length_toList] at this
        exact this
      refine PyProof.Rows.call_len_slot (n := es.size) (show s.TypeIs (.ref a) "dict" from ⟨o, g1, g2.1⟩) PySem.F.slot_dict_len (fun Q' hq => call_len_raw hd ⟨o, g1, g2, g3⟩ hq) (by omega) (by rw [sizeLine_eq] at z; omega) ?_
      rw [hl]
      exact ⟨.int xs.length, H, I.tok _, ⟨_, rfl⟩, q⟩
end
end S
namespace S
open PySem PySem.Spec PyProof.Rows L2
variable [Wd] [Hot]
section
variable (K : PySem.W.Frag)
def Bi1 (f : M.D -> Option M.D) (r : List V -> Hp -> VK -> Prop) : Prop := ∀ {F H : Hp} {T : List Addr} {fp : Fp} {x : V} {dx dz : M.D} {Q : VK}, FpH F H fp -> Fz K F T x dx -> f dx = some dz -> fj' K F T fp dz Q -> r [x] H Q
def Bi2 (f : M.D -> M.D -> Option M.D) (r : List V -> Hp -> VK -> Prop) : Prop := ∀ {F H : Hp} {T : List Addr} {fp : Fp} {x y : V} {dx dy dz : M.D} {Q : VK}, FpH F H fp -> Fz K F T x dx -> Fz K F T y dy -> f dx dy = some dz -> fj' K F T fp dz Q -> r [x, y] H Q
end
section
variable {X : Cx} {W : WX} {K : PySem.W.Frag} {pos p : Pos} {x : Str} {id : String} {a b : Expr} {ma mb : M.ME} {σ : St} {H : Hp} {Q : VK} {r : List V -> Hp -> VK -> Prop}
theorem sd' {f : M.D -> Option M.D} (hf : Bi1 K f r) (h : qE K W (M.eUn f ma) σ H Q) : tCB r (tCons (qE K W ma) tNil) σ H Q := by
  obtain ⟨ρ, F, T, fr, rel, h⟩ := h
  refine aA' rel h fun dx ρ1 v H1 F1 T1 e1 z1 r1 h1 => ?_
  obtain ⟨dz, ez, q⟩ := aW'.ofO h1
  obtain ⟨fp, f2, back⟩ := r1.fp
  exact hf f2 z1 ez fun v' H3 F3 s zz f3 => q v' H3 F3 T1 (e1.trans (.of s)) zz (back H3 F3 s f3)
theorem xg' {f : M.D -> M.D -> Option M.D} (hf : Bi2 K f r) (h : qE K W (M.eOp f ma mb) σ H Q) : tCB r (tCons (qE K W ma) (tCons (qE K W mb) tNil)) σ H Q := by
  obtain ⟨ρ, F, T, fr, rel, h⟩ := h
  refine aA' rel h fun dx ρ1 v H1 F1 T1 e1 z1 r1 h1 => ?_
  refine aA' r1 h1 fun dy ρ2 u H2 F2 T2 e2 z2 r2 h2 => ?_
  obtain ⟨dz, ez, q⟩ := aW'.ofO h2
  obtain ⟨fp, f2, back⟩ := r2.fp
  exact hf f2 (z1.mono e2) z2 ez fun v' H3 F3 s zz f3 => q v' H3 F3 T2 (e1.trans (e2.trans (.of s))) zz (back H3 F3 s f3)
theorem co' {f : M.D -> Option M.D} (hc : CallR X (.builtin id) r) (hf : Bi1 X.K f r) (hg : Gl X x) (hm : X.mg x = none) (hv : bootBuiltins x = some (.builtin id)) (ha : SE X W a ma) (hn : x ≠ "__name__" := by decide) (hdb : (x == ("__debug__" : Str)) = false := by decide)
    (he : starEach [a] X.env = (false, eval a X.env) :: starEach [] X.env := by rfl) (hpl : (backTo pos (starEach [] X.env)).any (·.1) = false := by rfl) : SE X W (.Call (.Name x p) [a] [] pos) (M.eUn f ma) := PE.imp (pe_callB hc hg hm hv (pa_cons ha pa_nil he) hn hdb he hpl) fun _ _ _ => sd' hf
theorem bR' {f : M.D -> Option M.D} (hc : CallR X (.type id) r) (hf : Bi1 X.K f r) (hg : Gl X x) (hm : X.mg x = none) (hv : bootBuiltins x = some (.type id)) (ha : SE X W a ma) (hn : x ≠ "__name__" := by decide) (hdb : (x == ("__debug__" : Str)) = false := by decide)
    (he : starEach [a] X.env = (false, eval a X.env) :: starEach [] X.env := by rfl) (hpl : (backTo pos (starEach [] X.env)).any (·.1) = false := by rfl) : SE X W (.Call (.Name x p) [a] [] pos) (M.eUn f ma) := PE.imp (pe_callTy hc hg hm hv (pa_cons ha pa_nil he) hn hdb he hpl) fun _ _ _ => sd' hf
theorem qE' {f : M.D -> M.D -> Option M.D} (hc : CallR X (.builtin id) r) (hf : Bi2 X.K f r) (hg : Gl X x) (hm : X.mg x = none) (hv : bootBuiltins x = some (.builtin id)) (ha : SE X W a ma) (hb : SE X W b mb) (hn : x ≠ "__name__" := by decide) (hdb : (x == ("__debug__" : Str)) = false := by decide)
    (he : starEach [a, b] X.env = (false, eval a X.env) :: starEach [b] X.env := by rfl) (he2 : starEach [b] X.env = (false, eval b X.env) :: starEach [] X.env := by rfl) (hpl : (backTo pos (starEach [b] X.env)).any (·.1) = false := by rfl) : SE X W (.Call (.Name x p) [a, b] [] pos) (M.eOp f ma mb) := PE.imp (pe_callB hc hg hm hv (pa_cons ha (pa_cons hb pa_nil he2) he) hn hdb he hpl) fun _ _ _ => xg' hf
theorem f4' {F H : Hp} {a : Addr} {u : HO} (s : Same F H) (h : Rd F a u) : Rd H a u := h.imp (s _ _) fun ⟨o, h⟩ => ⟨o, s _ _ h⟩
theorem dN' : Bi1 K M.eD' (vU' K) := by
  intro F H T fp x dx dz Q f hx h k
  by_cases hX : ∃ ks vs, dx = .dcx ks vs
  . obtain ⟨ks, vs, rfl⟩ := hX
    cases h
    cases hx with
    | @dcl a kvs _ _ e ke z =>
      have q : kvs.length = ks.length := by have := congrArg List.length ke.e; simpa using this
      refine .inr (.inl ⟨_, _, rfl, e.imp (f.low _ _) fun ⟨o, h⟩ => ⟨o, f.low _ _ h⟩, ?_⟩)
      rw [q]
      exact k.here f (.int _)
    | @dcn a xs _ _ e ke z1 z2 =>
      have q : xs.length = ks.length := by have := congrArg List.length ke.e; simpa using this
      refine .inr (.inr ⟨_, _, rfl, e.imp (f.low _ _) fun ⟨o, h⟩ => ⟨o, f.low _ _ h⟩, ?_⟩)
      rw [q]
      exact k.here f (.int _)
  refine .inl ?_
  cases dx <;> try (cases h; done)
  . obtain ⟨rfl, o1⟩ := hx.str_inv
    cases h
    refine .inl ⟨_, rfl, o1.len, ?_⟩
    rw [ct']
    exact k.here f (.int _)
  . obtain ⟨a, vs, rfl, ha, za⟩ := hx.tup_inv
    cases h
    refine .inr (.inl ⟨a, vs, rfl, .inr (seqT f.low ha), ?_⟩)
    rw [za.length]
    exact k.here f (.int _)
  . obtain ⟨a, vs, rfl, ha, za⟩ := hx.lst_inv
    cases h
    refine .inr (.inl ⟨a, vs, rfl, .inl (SqL.of (f.low _ _ ha)), ?_⟩)
    rw [za.length]
    exact k.here f (.int _)
  . cases hx with
    | dct ha _ za =>
      cases h
      refine .inr (.inr ⟨_, _, rfl, f4' f.low ha, ?_⟩)
      refine k.here f ?_
      rw [List.length_map]
      exact .int _
  . exact absurd ⟨_, _, rfl⟩ hX
theorem ex' : Bi1 K M.in' yu' := by
  intro F H T fp x dx dz Q f hx h k
  cases dx <;> try (cases h; done)
  . cases hx; cases h
    exact .inr ⟨_, rfl, k.here f (.int _)⟩
  . cases hx; cases h
    exact .inl ⟨_, rfl, k.here f (.int _)⟩
theorem CD' : Bi1 K M.Ax' yx' := by
  intro F H T fp x dx dz Q f hx h k
  cases dx <;> try (cases h; done)
  cases hx; cases h
  exact ⟨_, rfl, k.here f (.int _)⟩
theorem u4' : Bi2 K M.rb' yp' := by
  intro F H T fp x y dx dy dz Q f hx hy h k
  cases dx <;> cases dy <;> try (cases h; done)
  cases hx; cases hy; cases h
  exact ⟨_, _, rfl, k.here f (.int _)⟩
theorem r9' : Bi2 K M.oC' yo' := by
  intro F H T fp x y dx dy dz Q f hx hy h k
  cases dx <;> cases dy <;> try (cases h; done)
  cases hx; cases hy; cases h
  exact ⟨_, _, rfl, k.here f (.int _)⟩
theorem sQ' {s : M.Tx} : signs (sx s) = s.map chv := by
  unfold signs
  show (s.toArray.toList.map fun c => V.str ⟨#[c]⟩) = _
  simp
  intro a _
  rfl
theorem FzA.signs {K : PySem.W.Frag} {F : Hp} {T : List Addr} {s : M.Tx} (o : okT s) : FzA K F T (S.signs (sx s)) (s.map M.chD) := by
  rw [sQ']
  exact FzA.chars o.1
theorem bO' : Bi1 K M.bK' (qS' K) := by
  intro F H T fp x dx dz Q f hx h k
  cases dx <;> try (cases h; done)
  . obtain ⟨rfl, o⟩ := hx.str_inv
    cases h
    exact .inr ⟨_, rfl, o.len, fun l hl => k.newT f (FzA.signs o) hl⟩
  . obtain ⟨a, vs, rfl, ha, za⟩ := hx.tup_inv
    cases h
    exact .inl ⟨a, vs, rfl, .inr ⟨seqT f.low ha, k.here f (.tup ha za)⟩⟩
  . obtain ⟨a, vs, rfl, ha, za⟩ := hx.lst_inv
    cases h
    exact .inl ⟨a, vs, rfl, .inl ⟨SqL.of (f.low _ _ ha), fun l hl => k.newT f za hl⟩⟩
theorem z9' : Bi1 K M.eS' (qW' K) := by
  intro F H T fp x dx dz Q f hx h k
  cases dx <;> try (cases h; done)
  . obtain ⟨rfl, o⟩ := hx.str_inv
    cases h
    exact .inr ⟨_, rfl, o.len, fun l hl => k.newL f (FzA.signs o) hl⟩
  . obtain ⟨a, vs, rfl, ha, za⟩ := hx.tup_inv
    cases h
    exact .inl ⟨a, vs, rfl, .inr (seqT f.low ha), fun l hl => k.newL f za hl⟩
  . obtain ⟨a, vs, rfl, ha, za⟩ := hx.lst_inv
    cases h
    exact .inl ⟨a, vs, rfl, .inl (SqL.of (f.low _ _ ha)), fun l hl => k.newL f za hl⟩
theorem uv' {F H : Hp} {T : List Addr} {v : V} {d : M.D} {n : String} (s : Same F H) (h : Fz K F T v d) (e : M.tyn d = some n) : TyX K H v (.type n) := by
  cases h with
  | non => cases e; exact .base .non
  | bl b => cases e; exact .base (.bl b)
  | int i => cases e; exact .base (.int i)
  | str z => cases e; exact .base (.str _)
  | lst h1 _ => cases e; exact tyL (SqL.of (s _ _ h1))
  | tup h1 _ => cases e; exact tyT (seqT s h1)
  | dct h1 _ _ =>
    cases e
    rcases h1 with h1 | ⟨o, h1⟩
    . exact .base (.dK (s _ _ h1))
    . exact .fDict (s _ _ h1)
  | dcl _ _ _ => cases e
  | dcn _ _ _ _ => cases e
  | rep _ => cases e
  | obj _ => cases e
  | ty _ => cases e
  | fn _ => cases e
  | scr _ _ => cases e
theorem wk' : ∀ n ∈ ["NoneType", "bool", "int", "str", "tuple", "list", "dict"], ∀ t ∈ ["bool", "int", "str", "tuple", "list", "dict"], kitB n t = some (n == t || (n == "bool" && t == "int")) := by decide +kernel
theorem vz' {d : M.D} {n : String} (e : M.tyn d = some n) : n ∈ ["NoneType", "bool", "int", "str", "tuple", "list", "dict"] := by
  cases d <;> first | (cases e; done) | (cases e; decide)
def jt' (K : PySem.W.Frag) (J : It) (ds : List M.D) (F : Hp) (T : List Addr) : Prop := ∀ F' T' H' fp i, Ext F T F' T' -> FpH F' H' fp -> i <= ds.length →
  (i = ds.length -> J.stop i H') /\ ∀ d, ds[i]? = some d -> J.go i H' /\ ∀ x H2, J.yld i H' x H2 -> ∃ F2, Same F' F2 /\ Fz K F2 T' x d /\ FpH F2 H2 fp
theorem jt'.mono {J : It} {ds : List M.D} {F F' : Hp} {T T' : List Addr} (h : jt' K J ds F T) (e : Ext F T F' T') : jt' K J ds F' T' := fun F2 T2 H2 fp i e2 => h F2 T2 H2 fp i (e.trans e2)
def qI (K : PySem.W.Frag) (W : WX) (m : M.MI) : TI := fun σ H R => ∃ ρ F T fr, Rel K ρ σ H F T fr ∧
  aW' (m ρ) (fun ds ρ' => ∀ J H' F' T', Ext F T F' T' -> jt' K J ds F' T' -> Rel K ρ' σ H' F' T' fr -> R J H') (EX K W σ F T fr)
abbrev SI (X : Cx) (W : WX) (tg e : Expr) (m : M.MI) : Prop := PI X tg e (qI X.K W m)
theorem PI.imp {tg e : Expr} {t t' : TI} (h : PI X tg e t) (i : ∀ σ H Q, t' σ H Q -> t σ H Q) : PI X tg e t' := ⟨fun pins s σ H Q I q => h.run pins s σ H Q I (i σ H Q q)⟩
theorem wq' {a : Addr} {vs : List V} {ds : List M.D} {F : Hp} {T : List Addr} (ha : F a = some (.lst vs)) (z : FzA K F T vs ds) : jt' K (Itl K a) ds F T := fun F' T' H' fp i e f hi => by
  have h' : SqL K H' a vs := SqL.of (f.low _ _ (e.f.lst ha))
  refine ⟨fun q => ⟨vs, h', by rw [z.length]; omega⟩, fun d hd => ?_⟩
  obtain ⟨v, h1, h2⟩ := z.get hd
  refine ⟨⟨vs, v, h', h1⟩, fun x H2 y => ?_⟩
  obtain ⟨rfl, y⟩ := y
  have := y vs h'
  rw [h1] at this
  cases this
  exact ⟨F', fun _ _ e => e, h2.mono e, f⟩
theorem y0' {a : Addr} {vs : List V} {ds : List M.D} {F : Hp} {T : List Addr} (ha : SqT K F a vs) (z : FzA K F T vs ds) : jt' K (Itt K a) ds F T := fun F' T' H' fp i e f hi => by
  have h' : SqT K H' a vs := seqT f.low (e.f.seqT ha)
  refine ⟨fun q => ⟨vs, h', by rw [z.length]; omega⟩, fun d hd => ?_⟩
  obtain ⟨v, h1, h2⟩ := z.get hd
  refine ⟨⟨vs, v, h', h1⟩, fun x H2 y => ?_⟩
  obtain ⟨rfl, y⟩ := y
  have := y vs h'
  rw [h1] at this
  cases this
  exact ⟨F', fun _ _ e => e, h2.mono e, f⟩
theorem x1' (s : M.Tx) (i : Nat) : (sx s).cps[i]? = s[i]? := by simp [sx]
theorem y1' {s : M.Tx} {F : Hp} {T : List Addr} (o : okT s) : jt' K (Its (sx s)) (s.map M.chD) F T := fun F' T' H' fp i e f hi => by
  have el : (sx s).cps.size = s.length := ct' s
  rw [List.length_map] at hi ⊢
  refine ⟨fun q => by show (sx s).cps.size <= i; omega, fun d hd => ?_⟩
  rw [List.getElem?_map] at hd
  cases q : s[i]? with
  | none => rw [q] at hd; cases hd
  | some c =>
    rw [q] at hd
    cases hd
    refine ⟨by show i < (sx s).cps.size; have := (List.getElem?_eq_some_iff.mp q).1; omega, fun x H2 y => ?_⟩
    obtain ⟨rfl, c', h1, rfl⟩ := y
    rw [x1', q] at h1
    cases h1
    exact ⟨F', fun _ _ e => e, oM' (o.1 c (List.mem_of_getElem? q)), f⟩
theorem y2' {lo : Int} {n : Nat} {F : Hp} {T : List Addr} : jt' K (Itr lo n) (M.rgI lo n) F T := fun F' T' H' fp i e f hi => by
  unfold M.rgI at hi ⊢
  rw [List.length_map, List.length_range] at hi ⊢
  refine ⟨fun q => by show n <= i; omega, fun d hd => ?_⟩
  rw [List.getElem?_map] at hd
  by_cases h : i < n
  . rw [List.getElem?_range h] at hd
    cases hd
    refine ⟨h, fun x H2 y => ?_⟩
    obtain ⟨rfl, rfl⟩ := y
    exact ⟨F', fun _ _ e => e, .int _, f⟩
  . rw [List.getElem?_eq_none (by rw [List.length_range]; omega)] at hd
    cases hd
theorem yD' {tg e : Expr} {te : TE} (h : PE X e te) : PI X tg e (fun σ H R => iStr te σ H R \/ iList X.K te σ H R \/ iTup X.K te σ H R) := s7' (pi_str h) (s7' (pi_list h) (pi_tup h))
theorem vV' {m : M.ME} {ρ ρ1 : M.PSt} {F : Hp} {T : List Addr} {fr : Fp} {d : M.D} (rel : Rel K ρ σ H F T fr) (em : m ρ = .ok d ρ1) (h : ∀ v H' F' T', Ext F T F' T' -> Fz K F' T' v d -> Rel K ρ1 σ H' F' T' fr -> Q v H') : qE K W m σ H Q :=
  ⟨ρ, F, T, fr, rel, by rw [em]; exact h⟩
theorem bu' {tg : Expr} (h : SE X W a ma) : SI X W tg a (M.et' ma) := PI.imp (yD' h) fun σ H R ⟨ρ, F, T, fr, rel, q⟩ => by
  have q2 := aW'.bind q
  cases em : ma ρ with
  | bad => rw [em] at q2; exact q2.elim
  | exc x ρ1 =>
    rw [em] at q2
    exact .inl ⟨ρ, F, T, fr, rel, by rw [em]; exact q2⟩
  | ok d ρ1 =>
    rw [em] at q2
    obtain ⟨ds, e1, q3⟩ := aW'.ofO (show aW' _ _ _ from q2)
    cases d <;> try (cases e1; done)
    . cases e1
      refine .inl (vV' rel em fun v H' F' T' e z r => ?_)
      obtain ⟨rfl, o⟩ := z.str_inv
      exact ⟨_, rfl, q3 _ _ _ _ e (y1' o) r⟩
    . cases e1
      refine .inr (.inr (vV' rel em fun v H' F' T' e z r => ?_))
      obtain ⟨p, vs, rfl, ha, za⟩ := z.tup_inv
      obtain ⟨fp, f, _⟩ := r.fp
      exact ⟨p, rfl, ⟨vs, seqT f.low ha⟩, q3 _ _ _ _ e (y0' ha za) r⟩
    . cases e1
      refine .inr (.inl (vV' rel em fun v H' F' T' e z r => ?_))
      obtain ⟨p, vs, rfl, ha, za⟩ := z.lst_inv
      obtain ⟨fp, f, _⟩ := r.fp
      exact ⟨p, rfl, ⟨vs, SqL.of (f.low _ _ ha)⟩, q3 _ _ _ _ e (wq' ha za) r⟩
theorem CF' {i : Int} (h : M.so' i = true) : -(2 ^ 62) <= i /\ i < 2 ^ 62 := by
  unfold M.so' at h
  simpa [Bool.and_eq_true] using h
theorem bh' {tg : Expr} (hg : Gl X "range") (hm : X.mg "range" = none) (ha : SE X W a ma) (hs : starEach [a] X.env = [(false, eval a X.env)] := by rfl) : SI X W tg (.Call (.Name "range" p) [a] [] pos) (M.by' ma) :=
  PI.imp (pi_range1 hg hm (pa_cons ha pa_nil hs) hs) fun σ H R ⟨ρ, F, T, fr, rel, q⟩ => by
    refine aA' rel q fun dx ρ1 v H1 F1 T1 e1 z1 r1 h1 => ?_
    obtain ⟨ds, e2, q2⟩ := aW'.ofO h1
    unfold M.fC' at e2
    split at e2
    . split at e2
      . rename_i hb
        cases e2
        cases z1
        obtain ⟨b1, b2⟩ := CF' hb
        exact ⟨_, rfl, b1, b2, q2 _ _ _ _ e1 y2' r1⟩
      . cases e2
    . cases e2
theorem mk' : ∀ (a b : List M.D), (M.dq' a b).length = min a.length b.length
  | [], _ => by simp [M.dq']
  | _ :: _, [] => by simp [M.dq']
  | x :: a, y :: b => by
    show (M.dq' a b).length + 1 = _
    rw [mk' a b]
    simp only [List.length_cons]
    omega
theorem ml' : ∀ (a b : List M.D) (i : Nat) (d : M.D), (M.dq' a b)[i]? = some d -> ∃ x y, a[i]? = some x /\ b[i]? = some y /\ d = .tup [x, y]
  | [], _, i, d, h => by simp [M.dq'] at h
  | _ :: _, [], i, d, h => by simp [M.dq'] at h
  | x :: a, y :: b, 0, d, h => ⟨x, y, rfl, rfl, (Option.some.inj h).symm⟩
  | x :: a, y :: b, i + 1, d, h => ml' a b i d h
theorem i8' {J : It} {as bs : List M.D} {F : Hp} {T : List Addr} (hs : ∀ F' T' H' fp i, Ext F T F' T' -> FpH F' H' fp -> i = min as.length bs.length -> J.stop i H')
    (hy : ∀ F' T' H' fp i dx dy, Ext F T F' T' -> FpH F' H' fp -> as[i]? = some dx -> bs[i]? = some dy -> J.go i H' /\ ∀ v H2, J.yld i H' v H2 -> ∃ p x y, v = .ref p /\ H' p = none /\ H2 = upd H' p (.tup [x, y]) /\ Fz K F' T' x dx /\ Fz K F' T' y dy) : jt' K J (M.dq' as bs) F T := fun F' T' H' fp i e f hi => by
  rw [mk'] at hi ⊢
  refine ⟨fun q => hs F' T' H' fp i e f q, fun d hd => ?_⟩
  obtain ⟨dx, dy, h1, h2, rfl⟩ := ml' _ _ _ _ hd
  obtain ⟨g, y⟩ := hy F' T' H' fp i dx dy e f h1 h2
  refine ⟨g, fun v H2 q => ?_⟩
  obtain ⟨p, x, y', rfl, hp, rfl, zx, zy⟩ := y v H2 q
  have s : Same F' (upd F' p (.tup [x, y'])) := cy' (f.free hp)
  exact ⟨_, s, .tup (SqT.of upd_same) (.cons (zx.mono (.of s)) (.cons (zy.mono (.of s)) .nil)), f.new hp⟩
theorem wo' {s t : M.Tx} {F : Hp} {T : List Addr} (o : okT s) (o2 : okT t) : jt' K (ItP (chS (sx s)) (chS (sx t)) (min (sx s).cps.size (sx t).cps.size)) (M.dq' (s.map M.chD) (t.map M.chD)) F T := by
  have e1 : (sx s).cps.size = s.length := ct' s
  have e2 : (sx t).cps.size = t.length := ct' t
  refine i8' (fun F' T' H' fp i e f hi => ?_) fun F' T' H' fp i dx dy e f h1 h2 => ?_
  . rw [List.length_map, List.length_map] at hi
    show i = min (sx s).cps.size (sx t).cps.size
    omega
  . rw [List.getElem?_map] at h1 h2
    cases q1 : s[i]? with
    | none => rw [q1] at h1; cases h1
    | some c =>
      cases q2 : t[i]? with
      | none => rw [q2] at h2; cases h2
      | some d =>
        rw [q1] at h1
        rw [q2] at h2
        cases h1
        cases h2
        have l1 := (List.getElem?_eq_some_iff.mp q1).1
        have l2 := (List.getElem?_eq_some_iff.mp q2).1
        refine ⟨by show i < min (sx s).cps.size (sx t).cps.size; omega, fun v H2 y => ?_⟩
        obtain ⟨p, x, y', rfl, hp, rfl, c1, c2⟩ := y
        unfold chS at c1 c2
        rw [eE', q1] at c1
        rw [eE', q2] at c2
        cases c1
        cases c2
        exact ⟨p, _, _, rfl, hp, rfl, oM' (o.1 c (List.mem_of_getElem? q1)), oM' (o2.1 d (List.mem_of_getElem? q2))⟩
theorem wp' {a b : Addr} {vs ws : List V} {ds es : List M.D} {F : Hp} {T : List Addr} (ha : F a = some (.lst vs)) (z : FzA K F T vs ds) (hb : F b = some (.lst ws)) (z2 : FzA K F T ws es) : jt' K (Itz K a b) (M.dq' ds es) F T := by
  refine i8' (fun F' T' H' fp i e f hi => ?_) fun F' T' H' fp i dx dy e f h1 h2 => ?_
  . exact ⟨vs, ws, SqL.of (f.low _ _ (e.f.lst ha)), SqL.of (f.low _ _ (e.f.lst hb)), by rw [z.length, z2.length]; omega⟩
  . obtain ⟨x, x1, x2⟩ := z.get h1
    obtain ⟨y, y1, y2⟩ := z2.get h2
    have a1 : SqL K H' a vs := SqL.of (f.low _ _ (e.f.lst ha))
    have b1 : SqL K H' b ws := SqL.of (f.low _ _ (e.f.lst hb))
    refine ⟨⟨vs, ws, x, y, a1, b1, x1, y1⟩, fun v H2 q => ?_⟩
    obtain ⟨p, x', y', rfl, hp, rfl, q1, q2⟩ := q
    have := q1 vs a1
    rw [x1] at this
    cases this
    have := q2 ws b1
    rw [y1] at this
    cases this
    exact ⟨p, _, _, rfl, hp, rfl, x2.mono e, y2.mono e⟩
theorem wn' {a b : Addr} {vs ws : List V} {ds es : List M.D} {F : Hp} {T : List Addr} (ha : SqT K F a vs) (z : FzA K F T vs ds) (hb : SqT K F b ws) (z2 : FzA K F T ws es) : jt' K (RZ.ItzT K a b) (M.dq' ds es) F T := by
  refine i8' (fun F' T' H' fp i e f hi => ?_) fun F' T' H' fp i dx dy e f h1 h2 => ?_
  . exact ⟨vs, ws, seqT f.low (e.f.seqT ha), seqT f.low (e.f.seqT hb), by rw [z.length, z2.length]; omega⟩
  . obtain ⟨x, x1, x2⟩ := z.get h1
    obtain ⟨y, y1, y2⟩ := z2.get h2
    have a1 : SqT K H' a vs := seqT f.low (e.f.seqT ha)
    have b1 : SqT K H' b ws := seqT f.low (e.f.seqT hb)
    refine ⟨⟨vs, ws, x, y, a1, b1, x1, y1⟩, fun v H2 q => ?_⟩
    obtain ⟨p, x', y', rfl, hp, rfl, q1, q2⟩ := q
    have := q1 vs a1
    rw [x1] at this
    cases this
    have := q2 ws b1
    rw [y1] at this
    cases this
    exact ⟨p, _, _, rfl, hp, rfl, x2.mono e, y2.mono e⟩
theorem ya' {elts : List Expr} {kk : Nat} {tpos : Pos} (hg : Gl X "zip") (hm : X.mg "zip" = none) (ha : SE X W a ma) (hb : SE X W b mb)
    (hs : starEach [a, b] X.env = (false, eval a X.env) :: starEach [b] X.env := by rfl) (hs2 : starEach [b] X.env = (false, eval b X.env) :: starEach [] X.env := by rfl) (hpl : (backTo pos (starEach [b] X.env)).any (·.1) = false := by rfl) :
    SI X W (.Tuple elts kk tpos) (.Call (.Name "zip" p) [a, b] [] pos) (M.zb' ma mb) :=
  PI.imp (vY' hg hm (pa_cons ha (pa_cons hb pa_nil hs2) hs) hs hpl) fun σ H R ⟨ρ, F, T, fr, rel, q⟩ => by
    -- the kind of both is known ahead
    have fin : ∀ (isS : Bool), (∀ x ρ1, ma ρ = .ok x ρ1 -> ∀ y ρ2, mb ρ1 = .ok y ρ2 -> (isS = true ↔ ∃ s, x = .str s)) -> y9' X.K (tCons (qE X.K W ma) (tCons (qE X.K W mb) tNil)) σ H R := by
      intro isS hS
      have q1 := aW'.bind q
      have body : ∀ (G : List V -> Hp -> Prop), (∀ x y u v H2 F2 T2 ds ρ2, Ext F T F2 T2 -> Fz X.K F2 T2 u x -> Fz X.K F2 T2 v y -> M.sk' x y = some ds -> Rel X.K ρ2 σ H2 F2 T2 fr -> (isS = true ↔ ∃ s, x = .str s) →
          (∀ J H' F' T', Ext F T F' T' -> jt' X.K J ds F' T' -> Rel X.K ρ2 σ H' F' T' fr -> R J H') -> G [u, v] H2) -> tCons (qE X.K W ma) (tCons (qE X.K W mb) tNil) σ H G := by
        intro G hG
        refine ⟨ρ, F, T, fr, rel, ?_⟩
        cases em : ma ρ with
        | bad => rw [em] at q1; exact q1.elim
        | exc x ρ1 => rw [em] at q1; exact q1
        | ok x ρ1 =>
          rw [em] at q1
          have q2 := aW'.bind (show aW' ((mb ρ1).bind _) _ _ from q1)
          intro u H1 F1 T1 e1 z1 r1
          refine ⟨ρ1, F1, T1, fr, r1, ?_⟩
          cases en : mb ρ1 with
          | bad => rw [en] at q2; exact q2.elim
          | exc y ρ2 => rw [en] at q2; exact EX.mono (show EX X.K W σ F T fr y ρ2 from q2) e1
          | ok y ρ2 =>
            rw [en] at q2
            obtain ⟨ds, e3, q3⟩ := aW'.ofO (show aW' (M.ofO _ _) _ _ from q2)
            intro v H2 F2 T2 e2 z2 r2
            exact hG x y u v H2 F2 T2 ds ρ2 (e1.trans e2) (z1.mono e2) z2 e3 r2 (hS x ρ1 em y ρ2 en) q3
      cases isS with
      | true =>
        refine .inl (body _ fun x y u v H2 F2 T2 ds ρ2 e z1 z2 hz r2 hk q3 => ?_)
        obtain ⟨s, rfl⟩ := hk.mp rfl
        cases y <;> try (cases hz; done)
        obtain ⟨rfl, o1⟩ := z1.str_inv
        obtain ⟨rfl, o2⟩ := z2.str_inv
        cases hz
        exact ⟨_, _, rfl, q3 _ _ _ _ e (wo' o1 o2) r2⟩
      | false =>
        refine .inr (body _ fun x y u v H2 F2 T2 ds ρ2 e z1 z2 hz r2 hk q3 => ?_)
        obtain ⟨fp, f, _⟩ := r2.fp
        cases x <;> cases y <;> try (cases hz; done)
        . exact absurd (hk.mpr ⟨_, rfl⟩) Bool.false_ne_true
        . obtain ⟨a1, vs, rfl, ha, za⟩ := z1.tup_inv
          obtain ⟨b1, ws, rfl, hb, zb⟩ := z2.tup_inv
          cases hz
          exact ⟨a1, b1, vs, ws, rfl, .inr ⟨seqT f.low ha, seqT f.low hb, q3 _ _ _ _ e (wn' ha za hb zb) r2⟩⟩
        . obtain ⟨a1, vs, rfl, ha, za⟩ := z1.lst_inv
          obtain ⟨b1, ws, rfl, hb, zb⟩ := z2.lst_inv
          cases hz
          exact ⟨a1, b1, vs, ws, rfl, .inl ⟨SqL.of (f.low _ _ ha), SqL.of (f.low _ _ hb), q3 _ _ _ _ e (wp' ha za hb zb) r2⟩⟩
    cases em : ma ρ with
    | ok x ρ1 =>
      by_cases hx : ∃ s, x = .str s
      . exact fin true fun x' ρ1' e y ρ2 _ => by rw [em] at e; cases e; exact ⟨fun _ => hx, fun _ => rfl⟩
      . exact fin false fun x' ρ1' e y ρ2 _ => by rw [em] at e; cases e; exact ⟨fun z => (nomatch z), fun z => absurd z hx⟩
    | exc x ρ1 => exact fin true fun x' ρ1' e => by rw [em] at e; cases e
    | bad => exact fin true fun x' ρ1' e => by rw [em] at e; cases e
end
end S
namespace S
open PySem PySem.Spec PyProof.Rows L2
variable [Wd] [Hot]
section
variable {K : PySem.W.Frag} {F F' H H' : Hp} {T T' : List Addr} {fp fq fr : Fp} {ρ : M.PSt} {σ : St} {W : WX}
theorem gr' {i : Nat} {x : Option V} : ∀ (is : List Nat) (σ : St), (wipe (σ.set i x) is).set i none = (wipe σ is).set i none
  | [], σ => by show (σ.set i x).set i none = σ.set i none; rw [List.set_set]
  | k :: is, σ => by
    show ((wipe (σ.set i x) is).set k none).set i none = ((wipe σ is).set k none).set i none
    by_cases h : k = i
    . subst h
      rw [List.set_set, List.set_set, gr' is σ]
    . rw [List.set_comm _ _ h, gr' is σ, List.set_comm _ _ h]
theorem FzA.cons_inv {vs : List V} {d : M.D} {ds : List M.D} (h : FzA K F T vs (d :: ds)) : ∃ v r, vs = v :: r /\ Fz K F T v d /\ FzA K F T r ds := by
  cases h with
  | cons a b => exact ⟨_, _, rfl, a, b⟩
theorem RpA.of_fz : ∀ {vs : List V} {ds : List M.D}, FzA K F T vs ds -> RpA K F T vs (ds.map .fz) []
  | _, _, .nil => .nil
  | _, _, .cons z r => RpA.cons (fp := []) (fq := []) (.fz z) (RpA.of_fz r)
def qG (K : PySem.W.Frag) (sl : List Nat) (m : M.MG) : TG := fun v σ H Q => ∃ ρ F T fr d ρ', Rel K ρ σ H F T fr /\ Fz K F T v d /\ m d ρ = some ρ' /\ ∀ σ', wipe σ' sl = wipe σ sl -> Rel K ρ' σ' H F T fr -> Q σ' H
def qGs (K : PySem.W.Frag) (is : List Nat) : TGs := fun vs σ H Q => ∃ ρ F T fr ds ρ', Rel K ρ σ H F T fr /\ FzA K F T vs ds /\ M.gNs is ds ρ = some ρ' /\ ∀ σ', wipe σ' is = wipe σ is -> Rel K ρ' σ' H F T fr -> Q σ' H
abbrev SG (X : Cx) (tg : Expr) (sl : List Nat) (m : M.MG) : Prop := PG X tg (qG X.K sl m)
abbrev SGs (X : Cx) (ts : List Expr) (is : List Nat) : Prop := PGs X ts (qGs X.K is)
theorem PG.imp {X : Cx} {tg : Expr} {t t' : TG} (h : PG X tg t) (i : ∀ v σ H Q, t' v σ H Q -> t v σ H Q) : PG X tg t' := ⟨fun pins s σ H v u Q I r q => h.run pins s σ H v u Q I r (i v σ H Q q)⟩
theorem PGs.imp {X : Cx} {tg : List Expr} {t t' : TGs} (h : PGs X tg t) (i : ∀ v σ H Q, t' v σ H Q -> t v σ H Q) : PGs X tg t' := ⟨fun pins s σ H v u Q I r q => h.run pins s σ H v u Q I r (i v σ H Q q)⟩
theorem Rel.put (rel : Rel K ρ σ H F T fr) {i : Nat} (hi : i < ρ.env.length) {v : V} {o : M.O} {f2 fr' : Fp} (q : Rp K F T v o f2) (p : Part (f2 ++ fr') fr) : Rel K ⟨ρ.env.set i (some o), ρ.w⟩ (σ.set i (some v)) H F T fr' := by
  obtain ⟨fe, fw, re, rw, f⟩ := rel
  obtain ⟨fq, h1, h2⟩ := re.put hi q
  refine ⟨fq, fw, h1, rw, f.part ?_⟩
  have p1 : Part (fq ++ (fw ++ fr')) ((fe ++ f2) ++ (fw ++ fr')) := .app h2 .refl
  refine p1.trans ?_
  refine Part.trans (b := fe ++ (fw ++ (f2 ++ fr'))) ?_ (.app .refl (.app .refl p))
  constructor
  . intro e h
    simp only [List.mem_append] at *
    grind
  . intro x
    simp only [keys, List.map_append, List.count_append] at *
    omega
theorem Part.nilL {a : Fp} : Part ([] ++ a) a := ⟨fun _ h => h, fun _ => Nat.le_refl _⟩
theorem cm' {X : Cx} {pos : Pos} {x : Str} (i : Nat) (hN : X.N.Nodup) (hi : X.N[i]? = some x) (hx : Loc X.env.scope x) (hf : X.fn x = true \/ X.env.scope.names.lookup x = some .local) : SG X (.Name x pos) [i] (M.gN i) :=
  PG.imp (pg_name hN hi hx hf) fun v σ H Q ⟨ρ, F, T, fr, d, ρ', rel, z, e, q⟩ => by
    unfold M.gN at e
    split at e
    . rename_i hl
      cases e
      refine q _ ?_ (rel.put hl (.fz z) .nilL)
      show (σ.set i (some v)).set i none = σ.set i none
      rw [List.set_set]
    . cases e
theorem gR' {X : Cx} : SGs X [] [] := PGs.imp pgs_nil fun vs σ H Q ⟨ρ, F, T, fr, ds, ρ', rel, z, e, q⟩ => by
  cases ds with
  | nil =>
    cases z
    cases e
    exact ⟨rfl, q _ rfl rel⟩
  | cons d ds => cases e
theorem b7' {X : Cx} {e : Expr} {es : List Expr} {i : Nat} {is : List Nat} (hs : (assignEach (e :: es) X.env).map (·.2) = assign e X.env :: (assignEach es X.env).map (·.2)) (h1 : SG X e [i] (M.gN i)) (h2 : SGs X es is) : SGs X (e :: es) (i :: is) :=
  PGs.imp (pgs_cons h1 h2 hs) fun vs σ H Q ⟨ρ, F, T, fr, ds, ρ', rel, z, e, q⟩ => by
    cases ds with
    | nil => cases e
    | cons d ds =>
      obtain ⟨v, r, rfl, z, zs⟩ := z.cons_inv
      . cases e1 : M.gN i d ρ with
        | none => simp only [M.gNs, e1] at e; cases e
        | some ρ1 =>
          simp only [M.gNs, e1, Option.bind_some] at e
          refine ⟨v, r, rfl, ρ, F, T, fr, d, ρ1, rel, z, e1, fun σ1 w1 r1 => ⟨ρ1, F, T, fr, ds, ρ', r1, zs, e, fun σ2 w2 r2 => q σ2 ?_ r2⟩⟩
          show (wipe σ2 is).set i none = (wipe σ is).set i none
          rw [w2]
          have w1' : σ1.set i none = σ.set i none := w1
          rw [<- gr' (x := none) is σ1, w1', gr' is σ]
theorem yb' {X : Cx} {es : List Expr} {k} {pos : Pos} {n : Nat} {is : List Nat} (hc : X.calm = true) (hn : (assignEach es X.env).length = n) (hst : (assignEach es X.env).findIdx? (·.1) = none) (hl : is.length = n) (h : SGs X es is) : SG X (.Tuple es k pos) is (M.gT is) :=
  PG.imp (pg_tup hc h hn hst) fun v σ H Q ⟨ρ, F, T, fr, d, ρ', rel, z, e, q⟩ => by
    cases d with
    | tup ds =>
      obtain ⟨a, vs, rfl, ha, za⟩ := z.tup_inv
      obtain ⟨fp, f, _⟩ := rel.fp
      refine ⟨a, vs, rfl, seqT f.low ha, ?_, ρ, F, T, fr, ds, ρ', rel, za, e, q⟩
      rw [za.length, <- hl]
      have : ∀ (is : List Nat) (ds : List M.D) (ρ ρ' : M.PSt), M.gNs is ds ρ = some ρ' -> ds.length = is.length := by
        intro is
        induction is with
        | nil => intro ds ρ ρ' h; cases ds with | nil => rfl | cons d ds => cases h
        | cons i is ih =>
          intro ds ρ ρ' h
          cases ds with
          | nil => cases h
          | cons d ds =>
            cases e1 : M.gN i d ρ with
            | none => simp only [M.gNs, e1] at h; cases h
            | some ρ1 =>
              simp only [M.gNs, e1, Option.bind_some] at h
              exact congrArg (· + 1) (ih ds ρ1 ρ' h)
      exact this is ds ρ ρ' e
    | _ => cases e
theorem RpE.wiped {env : List (Option M.O)} (r : RpE K F T σ env fp) : ∀ is : List Nat, ∃ fq, RpE K F T (wipe σ is) (M.aF' is env) fq /\ Part fq fp
  | [] => ⟨fp, r, .refl⟩
  | i :: is => by
    obtain ⟨fq, h1, h2⟩ := r.wiped is
    obtain ⟨fq2, h3, h4⟩ := h1.drop i none
    exact ⟨fq2, h3, h4.trans h2⟩
theorem gs' {σ : St} : ∀ {is : List Nat} {j : Nat}, j ∉ is -> (wipe σ is)[j]? = σ[j]?
  | [], _, _ => rfl
  | i :: is, j, h => by
    have h' : j ≠ i /\ j ∉ is := by simpa using h
    show ((wipe σ is).set i none)[j]? = _
    rw [List.getElem?_set_ne (Ne.symm h'.1), gs' h'.2]
theorem lf' {σ : St} : ∀ {is : List Nat} {j : Nat}, j ∈ is -> j < σ.length -> (wipe σ is)[j]? = some none
  | i :: is, j, h, hl => by
    show ((wipe σ is).set i none)[j]? = _
    by_cases e : i = j
    . subst e
      rw [List.getElem?_set_self (by rw [wipe_length]; exact hl)]
    . rw [List.getElem?_set_ne e]
      refine lf' ?_ hl
      rcases List.mem_cons.mp h with h | h
      . exact absurd h.symm e
      . exact h
theorem jw' {σ : St} (is : List Nat) : wipe (wipe σ is) is = wipe σ is := by
  refine List.ext_getElem? fun j => ?_
  by_cases h : j ∈ is
  . by_cases hl : j < σ.length
    . rw [lf' h hl, lf' h (by rw [wipe_length]; exact hl)]
    . rw [List.getElem?_eq_none (by rw [wipe_length, wipe_length]; omega), List.getElem?_eq_none (by rw [wipe_length]; omega)]
  . rw [gs' h]
theorem fk' {env : List (Option M.O)} : ∀ {is : List Nat} {j : Nat} {o : M.O}, (M.aF' is env)[j]? = some (some o) -> j ∉ is
  | [], _, _, _ => by simp
  | i :: is, j, o, h => by
    have h : ((M.aF' is env).set i none)[j]? = some (some o) := h
    by_cases hj : i = j
    . subst hj
      by_cases hl : i < (M.aF' is env).length
      . rw [List.getElem?_set_self hl] at h; cases h
      . rw [List.getElem?_eq_none (by simpa using hl)] at h; cases h
    . rw [List.getElem?_set_ne hj] at h
      have := fk' h
      simp only [List.mem_cons, not_or]
      exact ⟨Ne.symm hj, this⟩
theorem RpE.other {env : List (Option M.O)} {σ' : St} (r : RpE K F T σ env fp) (hl : σ'.length = σ.length) (h : ∀ (j : Nat) (o : M.O), env[j]? = some (some o) -> σ'[j]? = σ[j]?) : RpE K F T σ' env fp := by
  induction r generalizing σ' with
  | nil =>
    cases σ' with
    | nil => exact .nil
    | cons _ _ => cases hl
  | off r ih =>
    cases σ' with
    | nil => cases hl
    | cons y σ' => exact .off (ih (Nat.succ.inj hl) fun j o e => h (j + 1) o e)
  | on q r ih =>
    cases σ' with
    | nil => cases hl
    | cons y σ' =>
      have e : y = _ := Option.some.inj (h 0 _ rfl)
      subst e
      exact .on q (ih (Nat.succ.inj hl) fun j o e => h (j + 1) o e)
  | hot hh z r ih =>
    cases σ' with
    | nil => cases hl
    | cons y σ' =>
      have e : y = _ := Option.some.inj (h 0 _ rfl)
      subst e
      exact .hot hh z (ih (Nat.succ.inj hl) fun j o e => h (j + 1) o e)
  | clo hh z r ih =>
    cases σ' with
    | nil => cases hl
    | cons y σ' =>
      have e : y = _ := Option.some.inj (h 0 _ rfl)
      subst e
      exact .clo hh z (ih (Nat.succ.inj hl) fun j o e => h (j + 1) o e)
theorem RpE.backed {env0 : List (Option M.O)} (h0 : ∀ (i : Nat) (d : M.D), env0[i]? = some (some (M.O.fz d)) -> ∃ v, σ[i]? = some (some v) /\ Fz K F T v d) : ∀ (is : List Nat) {env : List (Option M.O)} {fp : Fp}, RpE K F T σ env fp -> ∃ fq, RpE K F T σ (M.back env0 is env) fq /\ Part fq fp
  | [], env, fp, r => ⟨fp, r, .refl⟩
  | i :: is, env, fp, r => by
    obtain ⟨fq, h1, h2⟩ := RpE.backed h0 is r
    unfold M.back
    split
    . rename_i d e
      obtain ⟨v, hv, z⟩ := h0 i d e
      obtain ⟨f2, h3, h4⟩ := h1.put0 hv (.fz z)
      refine ⟨f2, h3, h4.trans ?_⟩
      rw [List.append_nil]
      exact h2
    . obtain ⟨f2, h3, h4⟩ := h1.drop0 i
      exact ⟨f2, h3, h4.trans h2⟩
theorem RpE.data {env : List (Option M.O)} (r : RpE K F T σ env fp) {i : Nat} {d : M.D} (h : env[i]? = some (some (.fz d))) : ∃ v, σ[i]? = some (some v) /\ Fz K F T v d := by
  obtain ⟨v, f1, f2, f3, h1, _, h3, _⟩ := r.get h
  cases h3 with
  | fz z => exact ⟨v, h1, z⟩
abbrev W0 : WX := fun _ _ _ _ => False
theorem aW'.noX {α : Type} {r : M.Res α} {P : α -> M.PSt -> Prop} {Y Y' : Wx} (h : aW' (M.noX r) P Y) : aW' r P Y' := by
  cases r with
  | ok a ρ => exact h
  | exc x ρ => exact h.elim
  | bad => exact h
def Aj' (K : PySem.W.Frag) (sl : List Nat) (g : M.MG) (t : M.MT) (e : M.ME) (ds : List M.D) (σ : St) (D : Addr) (fr : Fp) (F1 : Hp) (T1 : List Addr) (P : List M.D -> M.PSt -> Prop) (Y : Wx) (i : Nat) (H : Hp) : Prop :=
  i <= ds.length /\ ∃ ρ' F' T' acc vacc, Ext F1 T1 F' T' /\ FzA K F' T' vacc acc /\ Rel K ⟨M.aF' sl ρ'.env, ρ'.w⟩ (wipe σ sl) H F' T' ((D, .lst vacc) :: fr) /\ aW' (M.lcL sl g t e (ds.drop i) acc ρ') P Y
theorem Rel.wiped (r : Rel K ρ σ H F T fr) (is : List Nat) : Rel K ⟨M.aF' is ρ.env, ρ.w⟩ (wipe σ is) H F T fr := by
  obtain ⟨fe, fw, re, rw, f⟩ := r
  obtain ⟨fq, h1, h2⟩ := re.wiped is
  exact ⟨fq, fw, h1, rw, f.part (.app h2 .refl)⟩
theorem Rel.own (r : Rel K ρ σ H F T fr) {p : Addr} {o : HO} (hp : H p = none) : Rel K ρ σ (upd H p o) F T ((p, o) :: fr) := by
  obtain ⟨fe, fw, re, rw, f⟩ := r
  refine ⟨fe, fw, re, rw, (f.own hp).part ?_⟩
  constructor
  . intro e h
    simp only [List.mem_append, List.mem_cons] at *
    grind
  . intro x
    simp only [keys, List.map_append, List.map_cons, List.count_append, List.count_cons] at *
    omega
theorem Rel.at_ (r : Rel K ρ σ H F T fr) {e : Addr × HO} (h : e ∈ fr) : H e.1 = some e.2 := by
  obtain ⟨fe, fw, re, rw, f⟩ := r
  exact (f.at_ e (List.mem_append_right _ (List.mem_append_right _ h))).1
theorem Rel.write {p : Addr} {o o' : HO} (r : Rel K ρ σ H F T ((p, o) :: fr)) : Rel K ρ σ (upd H p o') F T ((p, o') :: fr) := by
  obtain ⟨fe, fw, re, rw, f⟩ := r
  have f' : FpH F H ((fe ++ fw) ++ ((p, o) :: fr)) := by rw [List.append_assoc]; exact f
  refine ⟨fe, fw, re, rw, ?_⟩
  have := f'.write (o' := o')
  rw [List.append_assoc] at this
  exact this
theorem rE' {sl : List Nat} {it : M.MI} {g : M.MG} {t : M.MT} {e : M.ME} {Q : VK} (h : qO K W (M.oLc sl it g t e) σ H Q) : tLc (qI K W it) (qG K sl g) (qT K W0 t) (qE K W0 e) sl σ H Q := by
  obtain ⟨ρ, F, T, fr, rel, h⟩ := h
  refine ⟨ρ, F, T, fr, rel, (aW'.bind h).mono (fun ds ρ1 h1 J H1 F1 T1 e1 io r1 => ?_) fun _ _ z => z⟩
  intro D hD
  have h2 := aW'.bind h1
  -- the loop's word
  refine ⟨fun i m H => m = ds.length - i /\ Aj' K sl g t e ds σ D fr F1 T1 _ _ i H, ⟨ds.length, by simp, Nat.zero_le _, ρ1, F1, T1, [], [], .refl, .nil, (r1.wiped sl).own hD, h2⟩, ?_⟩
  rintro i m H2 ⟨rfl, hi, ρ2, F2, T2, acc, vacc, e2, za, r2, h3⟩
  have hH : H2 D = some (.lst vacc) := r2.at_ (e := (D, .lst vacc)) List.mem_cons_self
  obtain ⟨fp2, f2, _⟩ := r2.fp
  by_cases hl : i = ds.length
  . refine .inl ⟨(io F2 T2 H2 fp2 i e2 f2 hi).1 hl, ?_⟩
    rw [hl, List.drop_length] at h3
    have h4 : aW' (M.lcL sl g t e [] acc ρ2) _ _ := h3
    unfold M.lcL at h4
    have h5 := h4
    refine h5 (.ref D) H2 F2 T2 ((D, .lst vacc) :: []) (e1.trans e2) ?_ ?_
    . exact .lst (RpA.of_fz za)
    . obtain ⟨fe, fw, re, rw, f⟩ := r2
      have re1 : RpE K F2 T2 σ (M.aF' sl ρ2.env) fe := by
        refine re.other ?_ fun j o hj => (gs' (fk' hj)).symm
        rw [wipe_length]
      obtain ⟨fe0, fw0, re0, rw0, f0⟩ := r1
      obtain ⟨fq, h6, h7⟩ := RpE.backed (env0 := ρ1.env) (fun i d hd => by
        obtain ⟨v, hv, z⟩ := re0.data hd
        exact ⟨v, hv, z.mono e2⟩) sl re1
      exact ⟨fq, fw, h6, rw, f.part (.app h7 .refl)⟩
  . have hlt : i < ds.length := by omega
    have hd : ds[i]? = some ds[i] := List.getElem?_eq_getElem hlt
    obtain ⟨go, yl⟩ := (io F2 T2 H2 fp2 i e2 f2 hi).2 _ hd
    refine .inr ⟨go, Aj' K sl g t e ds σ D fr F1 T1 _ _ (i + 1), fun H' n => ⟨ds.length - (i + 1), by omega, rfl, n⟩, fun x H3 y => ?_⟩
    obtain ⟨fe, fw, re, rw, f⟩ := id r2
    obtain ⟨yg, yh⟩ := (io F2 T2 H2 _ i e2 f hi).2 _ hd
    obtain ⟨F3, s3, zx, f3⟩ := yh x H3 y
    have r3 : Rel K ⟨M.aF' sl ρ2.env, ρ2.w⟩ (wipe σ sl) H3 F3 T2 ((D, .lst vacc) :: fr) := ⟨fe, fw, re.mono (.of s3), rw.mono (.of s3), f3⟩
    rw [List.drop_eq_getElem_cons hlt] at h3
    unfold M.lcL at h3
    cases eg : g ds[i] ⟨M.aF' sl ρ2.env, ρ2.w⟩ with
    | none => rw [eg] at h3; exact h3.elim
    | some ρ3 =>
      rw [eg] at h3
      refine ⟨_, F3, T2, _, ds[i], ρ3, r3, zx, eg, fun σ4 w4 r4 => ?_⟩
      rw [jw'] at w4
      refine ⟨w4, ?_⟩
      have h4 := aW'.bind h3
      refine ⟨ρ3, F3, T2, _, r4, (aW'.noX h4).mono (fun b ρ5 h5 H5 F5 T5 e5 r5 => ?_) fun _ _ z => z⟩
      cases b with
      | false =>
        rw [if_neg Bool.false_ne_true]
        refine ⟨hlt, ρ5, F5, T5, acc, vacc, e2.trans ((Ext.of s3).trans e5), (za.mono (.of s3)).mono e5, ?_, h5⟩
        rw [<- w4]
        exact r5.wiped sl
      | true =>
        rw [if_pos rfl] at h5 ⊢
        have h6 := aW'.bind h5
        refine ⟨ρ5, F5, T5, _, r5, (aW'.noX h6).mono (fun d ρ6 h7 y6 H6 F6 T6 e6 z6 r6 => ?_) fun _ _ z => z⟩
        split at h7
        . rename_i hacc
          have hH6 : H6 D = some (.lst vacc) := r6.at_ (e := (D, .lst vacc)) List.mem_cons_self
          refine ⟨vacc, hH6, by rw [bM', za.length]; exact hacc, hlt, ρ6, F6, T6, acc ++ [d], vacc ++ [y6], e2.trans ((Ext.of s3).trans (e5.trans e6)), (((za.mono (.of s3)).mono e5).mono e6).append (.cons z6 .nil), ?_, h7⟩
          rw [<- w4]
          exact (r6.wiped sl).write
        . exact h7.elim
end
section
variable {X : Cx} {W : WX} {pos : Pos} {elt tg iter : Expr} {ifs : List Expr} {scope : Scope} {own : List (Str × Nat)} {sl : List Nat} {it : M.MI} {g : M.MG} {t : M.MT} {e : M.ME}
theorem bx' {X : Cx} {W : WX} : PTs X [] (qT X.K W M.tT) := ⟨fun _ _ _ H Q I ⟨ρ, F, T, fr, rel, h⟩ => wpAny_tests_nil ⟨H, I, h _ _ _ .refl rel⟩⟩
theorem dR' {X : Cx} {W : WX} {c : Expr} {m : M.MT} (h : ST X W c m) : PTs X [c] (qT X.K W m) := pts_one h
theorem x8' (hc : X.calm = true) (hN : X.N.Nodup) (hi : SI X W tg iter it) (ok : BlkOk X.N X.env.scope scope own) (hsl : sl = own.map (·.2))
    (hg : ∀ (s : Shared) (H : Hp) (C : Addr) (cl : List (Str × Addr)) (fp : List Addr), SG (X.blk s H scope (compEnvC scope cl C X.env) fp) tg sl g) (ht : ∀ (s : Shared) (H : Hp) (C : Addr) (cl : List (Str × Addr)) (fp : List Addr), PTs (X.blk s H scope (compEnvC scope cl C X.env) fp) ifs (qT X.K W0 t))
    (he : ∀ (s : Shared) (H : Hp) (C : Addr) (cl : List (Str × Addr)) (fp : List Addr), SE (X.blk s H scope (compEnvC scope cl C X.env) fp) W0 elt e) (hs : ∀ x, foldedSetIterable iter X.env x = pure x := by intro _; rfl) :
    SO X W (.ListComp elt [⟨tg, iter, ifs, 0⟩] scope pos) (M.oLc sl it g t e) := by
  subst hsl
  exact PE.imp (pe_lc hc hN hi ok hg ht he hs) fun σ H Q h => rE' h
theorem yA' {K : PySem.W.Frag} {m : M.MO} {σ : St} {H : Hp} {Q : VK} (h : qE K W (M.eO m) σ H Q) : qO K W m σ H Q := by
  obtain ⟨ρ, F, T, fr, rel, h⟩ := h
  refine ⟨ρ, F, T, fr, rel, (aW'.bind h).mono (fun o ρ1 h1 v H1 F1 T1 fp e1 z1 r1 => ?_) fun _ _ z => z⟩
  obtain ⟨G, s, z, r⟩ := r1.frozen z1
  exact h1 v H1 G T1 (e1.trans (.of s)) z r
theorem cb' {a : Expr} {m : M.MO} (h : SO X W a m) : SE X W a (M.eO m) := PE.imp h fun σ H Q h => yA' h
theorem bd' {a : Expr} {m : M.ME} (h : SE X W a m) : SO X W a (M.oE m) := PE.imp h fun σ H Q ⟨ρ, F, T, fr, rel, h⟩ => aA' rel h fun d ρ1 v H1 F1 T1 e1 z1 r1 h1 => h1 v H1 F1 T1 [] e1 (.fz z1) r1
theorem yW' (xs : List M.D) : M.frz (.lst (xs.map .fz)) = .lst xs := by
  show M.D.lst (M.frzs _) = _
  rw [M.lR']
theorem fx' (hc : X.calm = true) (hN : X.N.Nodup) (hi : SI X W tg iter it) (ok : BlkOk X.N X.env.scope scope own) (hsl : sl = own.map (·.2))
    (hg : ∀ (s : Shared) (H : Hp) (C : Addr) (cl : List (Str × Addr)) (fp : List Addr), SG (X.blk s H scope (compEnvC scope cl C X.env) fp) tg sl g) (ht : ∀ (s : Shared) (H : Hp) (C : Addr) (cl : List (Str × Addr)) (fp : List Addr), PTs (X.blk s H scope (compEnvC scope cl C X.env) fp) ifs (qT X.K W0 t))
    (he : ∀ (s : Shared) (H : Hp) (C : Addr) (cl : List (Str × Addr)) (fp : List Addr), SE (X.blk s H scope (compEnvC scope cl C X.env) fp) W0 elt e) (hs : ∀ x, foldedSetIterable iter X.env x = pure x := by intro _; rfl) :
    SE X W (.ListComp elt [⟨tg, iter, ifs, 0⟩] scope pos) (M.eLc sl it g t e) := by
  have h := cb' (x8' (pos := pos) hc hN hi ok hsl hg ht he hs)
  have eq : M.eO (M.oLc sl it g t e) = M.eLc sl it g t e := by
    funext ρ
    show ((it ρ).bind fun xs ρ1 => _).bind _ = (it ρ).bind _
    cases it ρ with
    | bad => rfl
    | exc x ρ1 => rfl
    | ok xs ρ1 =>
      show ((M.lcL sl g t e xs [] ρ1).bind _).bind _ = (M.lcL sl g t e xs [] ρ1).bind _
      cases M.lcL sl g t e xs [] ρ1 with
      | bad => rfl
      | exc x ρ2 => rfl
      | ok ys ρ2 =>
        show M.Res.ok (M.frz (.lst (ys.map .fz))) _ = M.Res.ok (M.D.lst ys) _
        rw [yW']
  rw [eq] at h
  exact h
end
end S
namespace S
open PySem PySem.Spec PyProof.Rows L2
variable [Wd] [Hot]
section
variable {K : PySem.W.Frag} {F F' H H' : Hp} {T T' : List Addr} {fp fq fr : Fp} {ρ : M.PSt} {σ : St} {W : WX} {D : Ends} {Q : VK}
theorem bw'.mono {r : M.Out} (h : bw' K W D F T fr r) (e : Ext F T F' T') : bw' K W D F' T' fr r := by
  cases r with
  | nx ρ => exact fun σ' H' F2 T2 e2 => h σ' H' F2 T2 (e.trans e2)
  | bk ρ => exact fun σ' H' F2 T2 e2 => h σ' H' F2 T2 (e.trans e2)
  | ct ρ => exact fun σ' H' F2 T2 e2 => h σ' H' F2 T2 (e.trans e2)
  | rt o w => exact fun v H' F2 T2 fp e2 => h v H' F2 T2 fp (e.trans e2)
  | exc x ρ => exact fun σ' cls dd H' F2 T2 e2 => h σ' cls dd H' F2 T2 (e.trans e2)
  | bad => exact h
theorem bw'.imp {r : M.Out} {D' : Ends} {W' : WX} (h : bw' K W D F T fr r) (h1 : ∀ σ H, D.nx σ H -> D'.nx σ H) (h2 : ∀ σ H, D.bk σ H -> D'.bk σ H) (h3 : ∀ σ H, D.ct σ H -> D'.ct σ H) (h4 : ∀ v H, D.rt v H -> D'.rt v H) (h5 : ∀ c d σ H, W c d σ H -> W' c d σ H) : bw' K W' D' F T fr r := by
  cases r with
  | nx ρ => exact fun σ' H' F2 T2 e2 r => h1 _ _ (h σ' H' F2 T2 e2 r)
  | bk ρ => exact fun σ' H' F2 T2 e2 r => h2 _ _ (h σ' H' F2 T2 e2 r)
  | ct ρ => exact fun σ' H' F2 T2 e2 r => h3 _ _ (h σ' H' F2 T2 e2 r)
  | rt o w => exact fun v H' F2 T2 fp e2 z r => h4 _ _ (h v H' F2 T2 fp e2 z r)
  | exc x ρ => exact fun σ' cls dd H' F2 T2 e2 z r => h5 _ _ _ _ (h σ' cls dd H' F2 T2 e2 z r)
  | bad => exact h
theorem eT' {α : Type} {r : M.Res α} {f : α -> M.PSt -> M.Out} (h : bw' K W D F T fr (r.out f)) : aW' r (fun a ρ' => bw' K W D F T fr (f a ρ')) (EX K W σ F T fr) := by
  cases r with
  | ok a ρ => exact h
  | exc x ρ => exact fun cls dd H' F' T' e z r => h σ cls dd H' F' T' e z r
  | bad => exact h
theorem dx' {m : M.ME} {k : M.D -> M.PSt -> M.Out} (rel : Rel K ρ σ H F T fr) (h : bw' K W D F T fr ((m ρ).out k))
    (q : ∀ d ρ1 v H1 F1 T1, Ext F T F1 T1 -> Fz K F1 T1 v d -> Rel K ρ1 σ H1 F1 T1 fr -> bw' K W D F1 T1 fr (k d ρ1) -> Q v H1) : qE K W m σ H Q :=
  ⟨ρ, F, T, fr, rel, (eT' h).mono (fun d ρ1 h1 v H1 F1 T1 e z r => q d ρ1 v H1 F1 T1 e z r (h1.mono e)) fun _ _ z => z⟩
theorem gU' {m : M.MO} {k : M.O -> M.PSt -> M.Out} (rel : Rel K ρ σ H F T fr) (h : bw' K W D F T fr ((m ρ).out k))
    (q : ∀ o ρ1 v H1 F1 T1 fp, Ext F T F1 T1 -> Rp K F1 T1 v o fp -> Rel K ρ1 σ H1 F1 T1 (fp ++ fr) -> bw' K W D F1 T1 fr (k o ρ1) -> Q v H1) : qO K W m σ H Q :=
  ⟨ρ, F, T, fr, rel, (eT' h).mono (fun d ρ1 h1 v H1 F1 T1 fp e z r => q d ρ1 v H1 F1 T1 fp e z r (h1.mono e)) fun _ _ z => z⟩
theorem qJ' {m : M.MT} {k : Bool -> M.PSt -> M.Out} {Q : Bool -> Hp -> Prop} (rel : Rel K ρ σ H F T fr) (h : bw' K W D F T fr ((m ρ).out k))
    (q : ∀ b ρ1 H1 F1 T1, Ext F T F1 T1 -> Rel K ρ1 σ H1 F1 T1 fr -> bw' K W D F1 T1 fr (k b ρ1) -> Q b H1) : qT K W m σ H Q :=
  ⟨ρ, F, T, fr, rel, (eT' h).mono (fun d ρ1 h1 H1 F1 T1 e r => q d ρ1 H1 F1 T1 e r (h1.mono e)) fun _ _ z => z⟩
theorem vR' {m : M.MI} {k : List M.D -> M.PSt -> M.Out} {R : It -> Hp -> Prop} (rel : Rel K ρ σ H F T fr) (h : bw' K W D F T fr ((m ρ).out k))
    (q : ∀ ds ρ1 J H1 F1 T1, Ext F T F1 T1 -> jt' K J ds F1 T1 -> Rel K ρ1 σ H1 F1 T1 fr -> bw' K W D F1 T1 fr (k ds ρ1) -> R J H1) : qI K W m σ H R :=
  ⟨ρ, F, T, fr, rel, (eT' h).mono (fun d ρ1 h1 J H1 F1 T1 e z r => q d ρ1 J H1 F1 T1 e z r (h1.mono e)) fun _ _ z => z⟩
theorem Rel.noenv (r : Rel K ρ σ H F T fr) : sp' K (ρ.w) H F T fr := by
  obtain ⟨fe, fw, re, rw, f⟩ := r
  exact ⟨[], fw, xt', rw, f.part (.app .nil .refl)⟩
end
section
variable {X : Cx} {W : WX} {pos : Pos} {a b c : Expr} {st : Stmt} {rest body : List Stmt} {ma mb : M.ME} {mo : M.MO} {mt : M.MT} {m1 m2 : M.MS} {D : Ends} {σ : St} {H : Hp}
theorem aJ' : SSs X W [] M.bj' := PSs.imp pss_nil fun D σ H ⟨ρ, F, T, fr, rel, h⟩ => h σ H F T .refl rel
theorem af' (h : SS X W st m1) : SSs X W [st] m1 := pss_one h
theorem ab' (h1 : SS X W st m1) (h2 : SSs X W rest m2) : SSs X W (st :: rest) (M.as' m1 m2) := PSs.imp (pss_cons h1 h2) fun D σ H ⟨ρ, F, T, fr, rel, h⟩ => by
  refine ⟨ρ, F, T, fr, rel, ?_⟩
  unfold M.as' at h
  cases e : m1 ρ with
  | nx ρ1 => rw [e] at h; exact fun σ1 H1 F1 T1 e1 r1 => ⟨ρ1, F1, T1, fr, r1, bw'.mono h e1⟩
  | bk ρ1 => rw [e] at h; exact h
  | ct ρ1 => rw [e] at h; exact h
  | rt o w => rw [e] at h; exact h
  | exc x ρ1 => rw [e] at h; exact h
  | bad => rw [e] at h; exact h
theorem sN' : SS X W (.Break pos) M.ny' := PS.imp ps_break fun D σ H ⟨ρ, F, T, fr, rel, h⟩ => h σ H F T .refl rel
theorem eh' (ha : SE X W a ma) (hs : swapsWith a none pos.line X.env = pure false := by rfl) : SS X W (.Expr a pos) (M.gV' ma) := PS.imp (ps_expr ha hs) fun D σ H ⟨ρ, F, T, fr, rel, h⟩ =>
  dx' rel h fun d ρ1 v H1 F1 T1 e1 z1 r1 h1 => h1 σ H1 F1 T1 .refl r1
theorem at' (ha : SO X W a mo) : SS X W (.Return (some a) pos) (M.cd' mo) := PS.imp (ps_ret ha) fun D σ H ⟨ρ, F, T, fr, rel, h⟩ =>
  gU' rel h fun o ρ1 v H1 F1 T1 fp e1 z1 r1 h1 => h1 v H1 F1 T1 fp .refl z1 r1.noenv
theorem bl' (hc : ST X W c mt) (ha : SSs X W rest m1) (hb : SSs X W body m2) : SS X W (.If c rest body pos) (M.sIf mt m1 m2) := PS.imp (ps_if hc ha hb) fun D σ H ⟨ρ, F, T, fr, rel, h⟩ => by
  refine qJ' rel h fun k ρ1 H1 F1 T1 e1 r1 h1 => ?_
  cases k with
  | true => rw [if_pos rfl] at h1 ⊢; exact ⟨ρ1, F1, T1, fr, r1, h1⟩
  | false => rw [if_neg Bool.false_ne_true] at h1 ⊢; exact ⟨ρ1, F1, T1, fr, r1, h1⟩
theorem ai' {i : Nat} {x : Str} {pos' : Pos} (hN : X.N.Nodup) (hi : X.N[i]? = some x) (hx : Loc X.env.scope x) (ha : SO X W a mo) (hs : swapsWith a (some (.Name x pos')) pos.line X.env = pure false := by rfl) (hf : X.fn x = true \/ X.env.scope.names.lookup x = some .local := by first | exact .inl rfl | exact .inr rfl | assumption) :
    SS X W (.Assign [.Name x pos'] a pos) (M.a9' i mo) := PS.imp (ps_set hN hi hx ha hs hf) fun D σ H ⟨ρ, F, T, fr, rel, h⟩ => by
  refine gU' rel h fun o ρ1 v H1 F1 T1 fp e1 z1 r1 h1 => ?_
  unfold M.vI' at h1
  split at h1
  . rename_i hl
    exact h1 _ H1 F1 T1 .refl (r1.put hl z1 .refl)
  . exact h1.elim
theorem eF' {i : Nat} {y : Str} {py : Pos} {elt tg iter : Expr} {ifs : List Expr} {scope : Scope} {own : List (Str × Nat)} {spos : Pos} {sl : List Nat} {it : M.MI} {g : M.MG} {t : M.MT} {e : M.ME} (hc : X.calm = true) (hN : X.N.Nodup) (hy : X.N[i]? = some y) (hyl : X.env.scope.names.lookup y = some .local)
    (hsw : swapsWith (.ListComp elt [⟨tg, iter, ifs, 0⟩] scope pos) (some (.Name y py)) spos.line X.env = pure true) (hi : SI X W tg iter it) (ok : BlkOk X.N X.env.scope scope own) (hsl : sl = own.map (·.2))
    (hg : ∀ (s : Shared) (H : Hp) (C : Addr) (cl : List (Str × Addr)) (fp : List Addr), SG (X.blk s H scope (compEnvC scope cl C X.env) fp) tg sl g) (ht : ∀ (s : Shared) (H : Hp) (C : Addr) (cl : List (Str × Addr)) (fp : List Addr), PTs (X.blk s H scope (compEnvC scope cl C X.env) fp) ifs (qT X.K W0 t))
    (he : ∀ (s : Shared) (H : Hp) (C : Addr) (cl : List (Str × Addr)) (fp : List Addr), SE (X.blk s H scope (compEnvC scope cl C X.env) fp) W0 elt e) (hs : ∀ x, foldedSetIterable iter X.env x = pure x := by intro _; rfl) :
    SS X W (.Assign [.Name y py] (.ListComp elt [⟨tg, iter, ifs, 0⟩] scope pos) spos) (M.a9' i (M.oLc sl it g t e)) := by
  subst hsl
  refine PS.imp (ps_setLc (g := qG X.K (own.map (·.2)) g) (tt := qT X.K W0 t) (te := qE X.K W0 e) hc hN hy hyl hsw hi ok hg ht he hs) fun D σ H ⟨ρ, F, T, fr, rel, h⟩ => ?_
  show tLc (qI X.K W it) (qG X.K (own.map (·.2)) g) (qT X.K W0 t) (qE X.K W0 e) (own.map (·.2)) σ H fun x H1 => gName i x σ H1 D.nx
  refine rE' (W := W) (gU' (D := D) rel h fun o ρ1 v H1 F1 T1 fp e1 z1 r1 h1 => ?_)
  unfold M.vI' at h1
  split at h1
  . rename_i hl
    exact h1 _ H1 F1 T1 .refl (r1.put hl z1 .refl)
  . exact h1.elim
theorem uB' {tg : Expr} {sl : List Nat} {g : M.MG} (ha : SE X W a ma) (hg : SG X tg sl g) (hs : swapsWithSole [tg] a pos.line X.env = pure false := by rfl) (hw : swappedStores [tg] a X.env = pure none := by rfl)
    (h1 : (assignEach [tg] X.env).map (·.2) = [assign tg X.env] := by rfl) : SS X W (.Assign [tg] a pos) (M.xp' g ma) := PS.imp (ps_asg ha hg hs hw h1) fun D σ H ⟨ρ, F, T, fr, rel, h⟩ => by
  refine dx' rel h fun d ρ1 v H1 F1 T1 e1 z1 r1 h1 => ?_
  cases e : g d ρ1 with
  | none => rw [e] at h1; exact h1.elim
  | some ρ2 =>
    rw [e] at h1
    exact ⟨ρ1, F1, T1, fr, d, ρ2, r1, z1, e, fun σ' _ r' => h1 σ' H1 F1 T1 .refl r'⟩
theorem x5' {i : Nat} {x : Str} {op : Operator} {f : M.D -> M.D -> Option M.D} {ti : TIp} {pos' : Pos} (hN : X.N.Nodup) (hi : X.N[i]? = some x) (hx : Loc X.env.scope x) (ha : SE X W a ma) (ho : PIp X op ti)
    (hf2 : ∀ {F H : Hp} {T : List Addr} {fp : Fp} {x y : V} {dx dy dz : M.D} {Q : VK}, FpH F H fp -> Fz X.K F T x dx -> Fz X.K F T y dy -> f dx dy = some dz -> fj' X.K F T fp dz Q -> ti x y H Q)
    (hf : X.fn x = true \/ X.env.scope.names.lookup x = some .local := by first | exact .inl rfl | exact .inr rfl | assumption) :
    SS X W (.AugAssign (.Name x pos') op a pos) (M.xo' f i ma) := PS.imp (ps_aug hN hi hx ha ho hf) fun D σ H ⟨ρ, F, T, fr, rel, h⟩ => by
  unfold M.xo' at h
  split at h
  . rename_i d e
    obtain ⟨fe, fw, re, rw, ff⟩ := id rel
    obtain ⟨v, hv, zv⟩ := re.data e
    refine ⟨v, hv, dx' rel h fun d2 ρ1 u H1 F1 T1 e1 z1 r1 h1 => ?_⟩
    cases q : f d d2 with
    | none => rw [q] at h1; exact h1.elim
    | some z =>
      rw [q] at h1
      obtain ⟨fp, f1, back⟩ := r1.fp
      refine hf2 f1 (zv.mono e1) z1 q fun v2 H2 F2 s2 z2 f2 => ?_
      unfold M.vI' at h1
      dsimp only at h1
      split at h1
      . rename_i hl
        exact h1 _ H2 F2 T1 (.of s2) ((back H2 F2 s2 f2).put hl (.fz z2) .nilL)
      . exact h1.elim
  . exact h.elim
theorem Br' {F H : Hp} {T : List Addr} {fp : Fp} {x y : V} {dx dy dz : M.D} {Q : VK} {K : PySem.W.Frag} (f : FpH F H fp) (hx : Fz K F T x dx) (hy : Fz K F T y dy) (h : M.td' dx dy = some dz) (k : fj' K F T fp dz Q) : ipI (fun i j => i + j) x y H Q := by
  cases dx <;> cases dy <;> try (cases h; done)
  cases hx; cases hy; cases h
  exact ⟨_, _, rfl, rfl, k.here f (.int _)⟩
theorem RpA.app {K : PySem.W.Frag} {F : Hp} {T : List Addr} : ∀ {vs ws : List V} {os ps : List M.O} {fp fq : Fp}, RpA K F T vs os fp -> RpA K F T ws ps fq -> RpA K F T (vs ++ ws) (os ++ ps) (fp ++ fq)
  | _, _, _, _, _, _, .nil, h => h
  | _, _, _, _, _, _, .cons a r, h => by
    rw [List.append_assoc]
    exact .cons a (RpA.app r h)
theorem RpA.length {K : PySem.W.Frag} {F : Hp} {T : List Addr} : ∀ {vs : List V} {os : List M.O} {fp : Fp}, RpA K F T vs os fp -> vs.length = os.length
  | _, _, _, .nil => rfl
  | _, _, _, .cons _ r => congrArg (· + 1) (RpA.length r)
theorem Rel.slotW {K : PySem.W.Frag} {ρ : M.PSt} {F : Hp} {T : List Addr} {fr : Fp} {i : Nat} {p : Addr} {os : List M.O} (rel : Rel K ρ σ H F T fr) (e : ρ.env[i]? = some (some (.lst os))) (hp : σ[i]? = some (some (.ref p))) :
    ∃ vs f2, H p = some (.lst vs) /\ RpA K F T vs os f2 /\ ∀ vs' os' f2' fr', RpA K F T vs' os' f2' -> Part (f2' ++ fr') (f2 ++ fr) -> Rel K ⟨ρ.env.set i (some (.lst os')), ρ.w⟩ σ (upd H p (.lst vs')) F T fr' := by
  obtain ⟨fe, fw, re, rw, f⟩ := rel
  obtain ⟨v, f1, f2, f3, h1, rfl, h3, h4, h5⟩ := re.get e
  rw [h1] at hp
  cases hp
  cases h3 with
  | lst r =>
    rename_i vs0 fp0
    refine ⟨vs0, fp0, (f.at_ (p, .lst vs0) (by simp)).1, r, fun vs' os' f2' fr' r' pt => ?_⟩
    have e5 := h5 F T (.ref p) (.lst os') ((p, .lst vs') :: f2') .refl (.lst r')
    rw [eJ' h1] at e5
    refine ⟨_, fw, e5, rw, ?_⟩
    have fA : FpH F H (f1 ++ ((p, .lst vs0) :: (f3 ++ (fw ++ (fp0 ++ fr))))) := f.part (by
      constructor
      . intro e h
        simp only [List.mem_append, List.mem_cons] at *
        grind
      . intro x
        simp only [keys, List.map_append, List.map_cons, List.count_append, List.count_cons] at *
        omega)
    have fB := fA.write (o' := .lst vs')
    refine fB.part (.trans (b := f1 ++ ((p, .lst vs') :: (f3 ++ (fw ++ (f2' ++ fr'))))) ?_ ?_)
    . constructor
      . intro e h
        simp only [List.mem_append, List.mem_cons] at *
        grind
      . intro x
        simp only [keys, List.map_append, List.map_cons, List.count_append, List.count_cons] at *
        omega
    . have := pt.m
      have := pt.c
      constructor
      . intro e h
        simp only [List.mem_append, List.mem_cons] at *
        grind
      . intro x
        have := pt.c x
        simp only [keys, List.map_append, List.map_cons, List.count_append, List.count_cons] at *
        omega
theorem dt' {i : Nat} {x : Str} {px apos cpos : Pos} (hv : PE X (.Name x px) (tVar i)) (ha : SO X W a mo)
    (hbase : attributeBase (.Name x px) "append" X.env (eval (.Name x px) X.env) = eval (.Name x px) X.env := by rfl)
    (hfew : ((backTo cpos (starEach [a] X.env)).all (fun x => !x.1) && (backToKw cpos (keywordEach [] X.env)).all (fun x => x.1.isSome)
      && decide ([a].length + ([] : List Keyword).length + (if ([] : List Keyword).isEmpty then 0 else 1) < 30)) = true := by rfl)
    (hline : (apos.endLine == cpos.line) = true := by rfl) (hs : starEach [a] X.env = (false, eval a X.env) :: starEach [] X.env := by rfl) (hplain : (backTo cpos (starEach [] X.env)).any (·.1) = false := by rfl)
    (hsw : swapsWith (.Call (.Attribute (.Name x px) "append" apos) [a] [] cpos) none pos.line X.env = pure false := by rfl) :
    SS X W (.Expr (.Call (.Attribute (.Name x px) "append" apos) [a] [] cpos) pos) (M.ld' i mo) :=
  PS.imp (ps_expr (pe_bm PySem.F.plainAttrs_list PySem.F.slot_list_append PySem.F.type_list_append mt_append hv (pa_cons ha pa_nil hs) hbase hfew hline hs hplain) hsw) fun D σ H ⟨ρ, F, T, fr, rel, h⟩ => by
    unfold M.ld' at h
    split at h
    . rename_i os0 e0
      obtain ⟨fe, fw, re, rw, ff⟩ := id rel
      obtain ⟨v, f1, f2, f3, h1, _, h3, _⟩ := re.get e0
      cases h3 with
      | @lst p vs0 _ fp0 r0 =>
        obtain ⟨vs1, f21, hH, _, _⟩ := rel.slotW e0 h1
        refine ⟨.ref p, h1, .inl ⟨rfl, vs1, SqL.of hH⟩, gU' rel h fun o ρ1 u H1 F1 T1 fp e1 z1 r1 h2 => ?_⟩
        split at h2
        . rename_i os e2
          split at h2
          . rename_i hl
            obtain ⟨vs, f2', hH2, r2, back⟩ := r1.slotW e2 h1
            refine ⟨p, vs, u, rfl, rfl, hH2, by rw [r2.length, bM']; exact hl, ?_⟩
            have z1' : RpA X.K F1 T1 [u] [o] (fp ++ []) := .cons z1 .nil
            exact h2 σ _ F1 T1 .refl (back _ _ _ fr (r2.app z1') (by
              constructor
              . intro e h
                simp only [List.mem_append, List.not_mem_nil] at *
                grind
              . intro x
                simp only [keys, List.map_append, List.map_nil, List.count_append, List.count_nil] at *
                omega))
          . exact h2.elim
        . exact h2.elim
    . exact h.elim
theorem tB' {K : PySem.W.Frag} {sl : List Nat} {it : M.MI} {g : M.MG} {b : M.MS} (h : qS K W (M.eO' it g b) D σ H) : tFor (qI K W it) (qG K sl g) (qS K W b) D σ H := by
  obtain ⟨ρ, F, T, fr, rel, h⟩ := h
  refine vR' rel h fun ds ρ1 J H1 F1 T1 e1 io r1 h1 => ?_
  refine ⟨fun i m σ2 H2 => m = ds.length - i /\ i <= ds.length /\ ∃ ρ2 F2 T2, Ext F1 T1 F2 T2 /\ Rel K ρ2 σ2 H2 F2 T2 fr /\ bw' K W D F2 T2 fr (M.n6' g b (ds.drop i) ρ2), ⟨ds.length, by simp, Nat.zero_le _, ρ1, F1, T1, .refl, r1, h1⟩, ?_⟩
  rintro i m σ2 H2 ⟨rfl, hi, ρ2, F2, T2, e2, r2, h2⟩
  obtain ⟨fe, fw, re, rw, f2⟩ := id r2
  obtain ⟨st, yl⟩ := io F2 T2 H2 _ i e2 f2 hi
  by_cases hl : i = ds.length
  . refine .inl ⟨st hl, ?_⟩
    rw [hl, List.drop_length] at h2
    exact h2 σ2 H2 F2 T2 .refl r2
  . have hlt : i < ds.length := by omega
    obtain ⟨go, yh⟩ := yl ds[i] (List.getElem?_eq_getElem hlt)
    refine .inr ⟨go, fun σ3 H3 => ∃ ρ3 F3 T3, Ext F1 T1 F3 T3 /\ Rel K ρ3 σ3 H3 F3 T3 fr /\ bw' K W D F3 T3 fr (M.n6' g b (ds.drop (i + 1)) ρ3), fun σ3 H3 n => ⟨ds.length - (i + 1), by omega, rfl, hlt, n⟩, fun x H3 y => ?_⟩
    obtain ⟨F3, s3, zx, f3⟩ := yh x H3 y
    have r3 : Rel K ρ2 σ2 H3 F3 T2 fr := ⟨fe, fw, re.mono (.of s3), rw.mono (.of s3), f3⟩
    rw [List.drop_eq_getElem_cons hlt] at h2
    unfold M.n6' at h2
    cases eg : g ds[i] ρ2 with
    | none => rw [eg] at h2; exact h2.elim
    | some ρ4 =>
      rw [eg] at h2
      refine ⟨ρ2, F3, T2, fr, ds[i], ρ4, r3, zx, eg, fun σ4 _ r4 => ⟨ρ4, F3, T2, fr, r4, ?_⟩⟩
      have h3 := bw'.mono h2 (.of s3)
      have e3 : Ext F1 T1 F3 T2 := e2.trans (.of s3)
      dsimp only at h3
      cases eb : b ρ4 with
      | nx ρ5 => rw [eb] at h3; exact fun σ5 H5 F5 T5 e5 r5 => ⟨ρ5, F5, T5, e3.trans e5, r5, bw'.mono h3 e5⟩
      | ct ρ5 => rw [eb] at h3; exact fun σ5 H5 F5 T5 e5 r5 => ⟨ρ5, F5, T5, e3.trans e5, r5, bw'.mono h3 e5⟩
      | bk ρ5 => rw [eb] at h3; exact fun σ5 H5 F5 T5 e5 r5 => h3 σ5 H5 F5 T5 e5 r5
      | rt o w => rw [eb] at h3; exact h3
      | exc x ρ5 => rw [eb] at h3; exact h3
      | bad => rw [eb] at h3; exact h3
theorem bF' {tg iter : Expr} {sl : List Nat} {it : M.MI} {g : M.MG} (hp : PassesOwn (model X.prog X.w) X.A X.env X.xe) (hc : X.calm = true) (hi : SI X W tg iter it) (hg : SG X tg sl g) (hb : SSs X W body m1)
    (hs : ∀ x, foldedSetIterable iter X.env x = pure x := by intro _; rfl) : SS X W (.For tg iter body [] pos) (M.eO' it g m1) := PS.imp (ps_for hp hc hi hg hb hs) fun D σ H h => tB' h
theorem iM' (n : Nat) (hp : PassesOwn (model X.prog X.w) X.A X.env X.xe) (hc : ST X W c mt) (hb : SSs X W body m1) : SS X W (.While c body [] pos) (M.ih' n mt m1) := PS.imp (ps_while hp hc hb) fun D σ H ⟨ρ, F, T, fr, rel, h⟩ => by
  refine ⟨fun m σ2 H2 => ∃ ρ2 F2 T2, Ext F T F2 T2 /\ Rel X.K ρ2 σ2 H2 F2 T2 fr /\ bw' X.K W D F2 T2 fr (M.d4' mt m1 m ρ2), ⟨n, ρ, F, T, .refl, rel, h⟩, ?_⟩
  rintro m σ2 H2 ⟨ρ2, F2, T2, e2, r2, h2⟩
  cases m with
  | zero => exact h2.elim
  | succ m =>
    refine qJ' r2 (show bw' X.K W D F2 T2 fr ((mt ρ2).out _) from h2) fun k ρ3 H3 F3 T3 e3 r3 h3 => ?_
    cases k with
    | false => rw [if_neg Bool.false_ne_true] at h3 ⊢; exact h3 σ2 H3 F3 T3 .refl r3
    | true =>
      rw [if_pos rfl] at h3 ⊢
      have e4 := e2.trans e3
      refine ⟨fun σ4 H4 => ∃ ρ4 F4 T4, Ext F T F4 T4 /\ Rel X.K ρ4 σ4 H4 F4 T4 fr /\ bw' X.K W D F4 T4 fr (M.d4' mt m1 m ρ4), fun σ' H' q => ⟨m, Nat.lt_succ_self m, q⟩, ρ3, F3, T3, fr, r3, ?_⟩
      cases eb : m1 ρ3 with
      | nx ρ5 => rw [eb] at h3; exact fun σ5 H5 F5 T5 e5 r5 => ⟨ρ5, F5, T5, e4.trans e5, r5, bw'.mono h3 e5⟩
      | ct ρ5 => rw [eb] at h3; exact fun σ5 H5 F5 T5 e5 r5 => ⟨ρ5, F5, T5, e4.trans e5, r5, bw'.mono h3 e5⟩
      | bk ρ5 => rw [eb] at h3; exact fun σ5 H5 F5 T5 e5 r5 => h3 σ5 H5 F5 T5 e5 r5
      | rt o w => rw [eb] at h3; exact h3
      | exc x ρ5 => rw [eb] at h3; exact h3
      | bad => rw [eb] at h3; exact h3
theorem sM' {e : Expr} {x : String} (hc : X.calm = true) (tk : Takes X W) (he : PMk X e (fun _ H Q => Q (.ref (He.ga X.K x)) none H)) : SS X W (.Raise (some e) none pos) (M.nx' x) := PS.imp (ps_raise hc tk he) fun D σ H ⟨ρ, F, T, fr, rel, h⟩ =>
  h σ _ _ H F T .refl ⟨rfl, .inl ⟨rfl, rfl⟩⟩ rel
def xl' (K : PySem.W.Frag) (Q : VK) (E : XK) (F : Hp) (T : List Addr) (fr : Fp) : M.FRes -> Prop
  | .ok o w' => ∀ v H' F' T' fp, Ext F T F' T' -> Rp K F' T' v o fp -> sp' K (w') H' F' T' (fp ++ fr) -> Q v H'
  | .exc x w' => ∀ cls dd H' F' T', Ext F T F' T' -> XcR K F' T' x cls dd -> sp' K (w') H' F' T' fr -> E cls dd H'
  | .bad => False
def spM (K : PySem.W.Frag) (m : M.MF) : Sp := fun vs H Q E => ∃ ds w F T fr, FzA K F T vs ds /\ sp' K (w) H F T fr /\ xl' K Q E F T fr (m ds w)
theorem RpE.start {K : PySem.W.Frag} {F : Hp} {T : List Addr} {n : Nat} : ∀ {vs : List V} {ds : List M.D}, FzA K F T vs ds -> RpE K F T (vs.map some ++ List.replicate n none) (ds.map (fun d => some (.fz d)) ++ List.replicate n none) []
  | _, _, .nil => by
    show RpE K F T (List.replicate n none) (List.replicate n none) []
    induction n with
    | zero => exact .nil
    | succ n ih => exact .off ih
  | _, _, .cons z r => RpE.on (fp := []) (fq := []) (.fz z) (RpE.start r)
end
section
variable {P : Program} {w : World} {K : PySem.W.Frag} {mg : Str -> Option Value} {base : Heap}
end
section
variable {X : Cx} {k : Nat} {x : Str} {ps : List Str} {p pos : Pos} {e : Expr} {es : List Expr} {as : M.MA} {W : WX} {m : M.MF}
theorem r5' {K : PySem.W.Frag} {σ : St} {H : Hp} {Q : VK} (h : qO K W (M.av' m as) σ H Q) : tCallS (spM K m) (WE W) (qA K W as) σ H Q := by
  obtain ⟨ρ, F, T, fr, rel, h⟩ := h
  refine c7' rel h fun ds ρ1 vs H1 F1 T1 e1 z1 r1 h1 => ?_
  obtain ⟨fe, fw, re, rw, f⟩ := r1
  refine ⟨ds, ρ1.w, F1, T1, fe ++ fr, z1, ⟨[], fw, xt', rw, f.part (Part.swap : Part (fw ++ (fe ++ fr)) (fe ++ (fw ++ fr)))⟩, ?_⟩
  cases em : m ds ρ1.w with
  | bad => rw [em] at h1; exact h1.elim
  | ok o w' =>
    rw [em] at h1
    refine fun v H' F' T' fp e z r => h1 v H' F' T' fp (e1.trans e) z ?_
    obtain ⟨fe', fw', re', rw', f'⟩ := r
    cases re'
    refine ⟨fe, fw', re.mono e, rw', f'.part ?_⟩
    constructor
    . intro e h
      simp only [List.mem_append, List.not_mem_nil] at *
      grind
    . intro x
      simp only [keys, List.map_append, List.map_nil, List.count_append, List.count_nil] at *
      omega
  | exc x w' =>
    rw [em] at h1
    refine fun cls dd H' F' T' e z r => h1 cls dd H' F' T' e z ?_
    obtain ⟨fe', fw', re', rw', f'⟩ := r
    cases re'
    refine ⟨fe, fw', re.mono e, rw', f'.part ?_⟩
    constructor
    . intro e h
      simp only [List.mem_append, List.not_mem_nil] at *
      grind
    . intro x
      simp only [keys, List.map_append, List.map_nil, List.count_append, List.count_nil] at *
      omega
theorem ah' (F : Og X.prog X.w X.K X.mg X.base k x ps (spM X.K m)) (hr : RoomG k X.A) (hg : Gl X x) (tk : Takes X W) (ha : SA X W (e :: es) as) (hdb : (x == ("__debug__" : Str)) = false := by decide)
    (he : starEach (e :: es) X.env = (false, eval e X.env) :: starEach es X.env := by rfl) (hpl : (backTo pos (starEach es X.env)).any (·.1) = false := by rfl) : SO X W (.Call (.Name x p) (e :: es) [] pos) (M.av' m as) :=
  PE.imp (tb' F hr hg tk ha hdb he hpl) fun _ _ _ h => r5' h
theorem gv' : Takes X W0 := fun _ _ ⟨_, _, _, _, _, _, _, _, _, _, _, _, _, _, _, _, w⟩ => w.elim
end
end S
namespace S
open PySem PySem.Spec PyProof.Rows L2
variable [Wd]
section
variable {P : Program} {w : World} {K : PySem.W.Frag} {mg : Str -> Option Value} {base : Heap}
theorem Dw' {x qual : Str} {st : Stmt} {f : Addr} {fd : FuncData} {N ps : List Str} {k j n : Nat} {b : M.MS} (F : FunD K x qual (defArgs st) (defBody st) (defScope st) [] [] f fd) (S : FnScope N ps (defScope st)) (hj : ps.length = j) (hn : N.length = n)
    (hbody : ∀ (cdv oc : Value) (od : Option Addr) (osl : Array (Option Value)), K.lookup f = some ⟨oc, od, .func fd, osl⟩ -> fd.code = cdv -> PySem.W.codeIn K cdv qual = true -> ∀ (A : Around) (outer : List Env) (s : Shared) (H : Hp) (E : XK), RoomG k (A.deeper (envOfC qual (defScope st) s.heap.objs.size f cdv)) →
      SSs (cxOf (L2.CX P w) P w K mg base N qual (defScope st) f cdv A outer s H E) (fun cls d _ H => E cls d H) (defBody st) b)   : FnG P w K mg base (L2.CX P w) (k + 1) f fd ps (spM K (M.fnM j n b)) := by
  refine wE' F S (fun vs H Q E h => ?_) fun cdv oc od osl lk e1 e2 A outer s H vs Q E hr h => ⟨_, hbody cdv oc od osl lk e1 e2 A outer s H E hr, ?_⟩
  . obtain ⟨ds, w', F', T, fr, za, rel, h⟩ := h
    unfold M.fnM at h
    by_cases hl : ds.length = j
    . rw [za.length, hl, hj]
    . rw [if_neg hl] at h; exact h.elim
  . obtain ⟨ds, w', F', T, fr, za, rel, h⟩ := h
    unfold M.fnM at h
    by_cases hl : ds.length = j
    . rw [if_pos hl] at h
      obtain ⟨fe, fw, re, rw', ff⟩ := rel
      cases re
      have re' : RpE K F' T (L2.start N vs) (ds.map (fun d => some (.fz d)) ++ List.replicate (n - j) none) [] := by
        unfold L2.start
        rw [hn, za.length, hl]
        exact RpE.start za
      refine ⟨⟨_, w'⟩, F', T, fr, ⟨[], fw, re', rw', ff⟩, ?_⟩
      generalize b ⟨ds.map (fun d => some (.fz d)) ++ List.replicate (n - j) none, w'⟩ = r at h
      cases r with
      | nx ρ => exact fun σ' H' F2 T2 e2 r2 => h .non H' F2 T2 [] e2 (.fz .non) r2.noenv
      | rt o w2 => exact fun v H' F2 T2 fp e2 z2 r2 => h v H' F2 T2 fp e2 z2 r2
      | exc x ρ => exact fun σ' cls dd H' F2 T2 e2 z2 r2 => h cls dd H' F2 T2 e2 z2 r2.noenv
      | bk ρ => exact h.elim
      | ct ρ => exact h.elim
      | bad => exact h.elim
    . rw [if_neg hl] at h; exact h.elim
theorem okM {x qual : Str} {st : Stmt} {f : Addr} {fd : FuncData} {N ps : List Str} {k j n : Nat} {b : M.MS} (F : FunD K x qual (defArgs st) (defBody st) (defScope st) [] [] f fd) (S : FnScope N ps (defScope st)) (hj : ps.length = j) (hn : N.length = n)
    (hbody : ∀ (cdv : Value) (A : Around) (outer : List Env) (s : Shared) (H : Hp) (E : XK), RoomG k (A.deeper (envOfC qual (defScope st) s.heap.objs.size f cdv)) →
      SSs (cxOf (L2.CX P w) P w K mg base N qual (defScope st) f cdv A outer s H E) (fun cls d _ H => E cls d H) (defBody st) b)   : FnG P w K mg base (L2.CX P w) (k + 1) f fd ps (spM K (M.fnM j n b)) :=
  Dw' F S hj hn fun cdv _ _ _ _ _ _ => hbody cdv
end
end S
namespace S
open PySem PySem.Spec PyProof.Rows L2
variable [Wd] [Hot]
section
variable {K : PySem.W.Frag}
theorem wF' {F : Hp} {T : List Addr} {x y : V} {dx dy : M.D} (hx : Fz K F T x dx) (hy : Fz K F T y dy) (sx' : M.sca dx = true) (sy : M.sca dy = true) : eqV y x = M.eqb dy dx /\ flatV x = true := by
  cases dx <;> try (cases sx'; done)
  all_goals cases dy <;> try (cases sy; done)
  all_goals first
    | (cases hx; cases hy; exact ⟨rfl, rfl⟩)
    | skip
  obtain ⟨rfl, _⟩ := hx.str_inv
  obtain ⟨rfl, _⟩ := hy.str_inv
  exact ⟨uy' _ _, rfl⟩
theorem lQ' {F : Hp} {T : List Addr} {x : V} {dx : M.D} (hx : Fz K F T x dx) (sx' : M.sca dx = true) : ∀ {vs : List V} {ds : List M.D}, FzA K F T vs ds -> ds.all M.sca = true -> inV x vs = ds.any (fun d => M.eqb d dx) /\ vs.all flatV = true
  | _, _, .nil, _ => ⟨rfl, rfl⟩
  | _, _, .cons z r, h => by
    rw [List.all_cons, Bool.and_eq_true] at h
    obtain ⟨h1, h2⟩ := lQ' hx sx' r h.2
    obtain ⟨h3, h4⟩ := wF' hx z sx' h.1
    obtain ⟨_, h5⟩ := wF' z z h.1 h.1
    refine ⟨?_, ?_⟩
    . show (eqV _ x || inV x _) = _
      rw [List.any_cons, h3, h1]
    . rw [List.all_cons, h5, h2]; rfl
theorem it' {F : Hp} {T : List Addr} {x : V} {dx : M.D} (hx : Fz K F T x dx) (s : M.sca dx = true) : flatV x = true := (wF' hx hx s s).2
theorem jd' {dx dy dz : M.D} (h : M.pIn dx dy = some dz) : (∃ c s, dx = .str [c] /\ dy = .str s /\ dz = .bl (decide (c ∈ s))) \/ (∃ ds, (dy = .lst ds \/ dy = .tup ds) /\ M.sca dx = true /\ ds.all M.sca = true /\ dz = .bl (ds.any fun d => M.eqb d dx)) := by
  unfold M.pIn at h
  split at h
  . exact .inl ⟨_, _, rfl, rfl, (Option.some.inj h).symm⟩
  . split at h
    . rename_i c; exact .inr ⟨_, .inl rfl, c.1, c.2, (Option.some.inj h).symm⟩
    . cases h
  . split at h
    . rename_i c; exact .inr ⟨_, .inr rfl, c.1, c.2, (Option.some.inj h).symm⟩
    . cases h
  . cases h
theorem th' : Op2 K M.pIn (As' K) := by
  intro F H T fp x y dx dy dz Q f hx hy h k
  rcases jd' h with ⟨c, s, rfl, rfl, rfl⟩ | ⟨ds, e, h1, h2, rfl⟩
  . obtain ⟨rfl, o1⟩ := hx.str_inv
    obtain ⟨rfl, o2⟩ := hy.str_inv
    exact .inl ⟨c, _, rfl, rfl, k.here f (.bl _)⟩
  . rcases e with rfl | rfl
    . obtain ⟨a, vs, rfl, ha, za⟩ := hy.lst_inv
      obtain ⟨e1, e2⟩ := lQ' hx h1 za h2
      refine .inr (.inl ⟨a, vs, rfl, .inl (SqL.of (f.low _ _ ha)), it' hx h1, e2, ?_⟩)
      rw [if_neg Bool.false_ne_true, e1]
      exact k.here f (.bl _)
    . obtain ⟨a, vs, rfl, ha, za⟩ := hy.tup_inv
      obtain ⟨e1, e2⟩ := lQ' hx h1 za h2
      refine .inr (.inl ⟨a, vs, rfl, .inr (seqT f.low ha), it' hx h1, e2, ?_⟩)
      rw [if_neg Bool.false_ne_true, e1]
      exact k.here f (.bl _)
theorem lE' : Op2 K M.g2' (iT' K) := by
  intro F H T fp x y dx dy dz Q f hx hy h k
  unfold M.g2' at h
  split at h
  . rename_i b hb
    cases h
    rcases jd' hb with ⟨c, s, rfl, rfl, eb⟩ | ⟨ds, e, h1, h2, eb⟩
    . cases eb
      obtain ⟨rfl, o1⟩ := hx.str_inv
      obtain ⟨rfl, o2⟩ := hy.str_inv
      exact .inl ⟨c, _, rfl, rfl, k.here f (.bl _)⟩
    . cases eb
      rcases e with rfl | rfl
      . obtain ⟨a, vs, rfl, ha, za⟩ := hy.lst_inv
        obtain ⟨e1, e2⟩ := lQ' hx h1 za h2
        refine .inr (.inl ⟨a, vs, rfl, .inl (SqL.of (f.low _ _ ha)), it' hx h1, e2, ?_⟩)
        rw [if_pos rfl, e1]
        exact k.here f (.bl _)
      . obtain ⟨a, vs, rfl, ha, za⟩ := hy.tup_inv
        obtain ⟨e1, e2⟩ := lQ' hx h1 za h2
        refine .inr (.inl ⟨a, vs, rfl, .inr (seqT f.low ha), it' hx h1, e2, ?_⟩)
        rw [if_pos rfl, e1]
        exact k.here f (.bl _)
  . cases h
theorem nn' {F : Hp} {T : List Addr} : ∀ {vs : List V} {ds : List M.D} {ss : List M.Tx}, FzA K F T vs ds -> M.d3' ds = some ss -> vs = (ss.map sx).map V.str /\ ∀ s ∈ ss, okT s
  | _, _, ss, .nil, h => by cases h; exact ⟨rfl, fun s h => nomatch h⟩
  | _, d :: ds, ss, .cons a r, h => by
    cases d <;> try (cases h; done)
    rename_i b
    cases q : M.d3' ds with
    | none => simp only [M.d3', q] at h; cases h
    | some cs =>
      simp only [M.d3', q, Option.map_some] at h
      cases h
      obtain ⟨rfl, o⟩ := a.str_inv
      obtain ⟨rfl, os⟩ := nn' r q
      refine ⟨rfl, fun s hs => ?_⟩
      rcases List.mem_cons.mp hs with rfl | hs
      . exact o
      . exact os s hs
theorem nZ' (sep : M.Tx) : ∀ ss : List M.Tx, TL.joinL sep ss = M.cZ' sep ss
  | [] => rfl
  | [_] => rfl
  | a :: b :: r => by
    show a ++ (sep ++ TL.joinL sep (b :: r)) = a ++ (sep ++ M.cZ' sep (b :: r))
    rw [nZ' sep (b :: r)]
theorem wl' (sep : M.Tx) (ss : List M.Tx) : Txt.join (sx sep) (ss.map sx) = sx (M.cZ' sep ss) := by
  rw [TL.join_eq]
  refine li' ?_
  have := TL.tl_join (sx sep) (ss.map sx)
  rw [List.map_map, show ss.map (TL.tl ∘ sx) = ss from (List.map_congr_left fun a _ => rfl).trans (List.map_id ss), show TL.tl (sx sep) = sep from rfl, nZ'] at this
  exact this
theorem kr' (sep : M.Tx) : ∀ (ss : List M.Tx) (c : Nat), c ∈ M.cZ' sep ss -> c ∈ sep \/ ∃ s ∈ ss, c ∈ s
  | [], c, h => by cases h
  | [a], c, h => .inr ⟨a, by simp, h⟩
  | a :: b :: r, c, h => by
    rcases List.mem_append.mp (show c ∈ a ++ (sep ++ M.cZ' sep (b :: r)) from h) with h | h
    . exact .inr ⟨a, by simp, h⟩
    . rcases List.mem_append.mp h with h | h
      . exact .inl h
      . rcases kr' sep (b :: r) c h with h | ⟨s, h1, h2⟩
        . exact .inl h
        . exact .inr ⟨s, List.mem_cons_of_mem _ h1, h2⟩
theorem e1' (sep : M.Tx) : ∀ (ss : List M.Tx), (M.cZ' sep ss).length <= (ss.map List.length).sum + ss.length * sep.length
  | [] => by simp [M.cZ']
  | [a] => by simp [M.cZ']
  | a :: b :: r => by
    have ih := e1' sep (b :: r)
    show (a ++ (sep ++ M.cZ' sep (b :: r))).length <= _
    rw [List.length_append, List.length_append, List.map_cons, List.sum_cons, List.length_cons (as := b :: r), Nat.succ_mul]
    omega
def MtD (K : PySem.W.Frag) (f : M.Tx -> List M.D -> Option M.D) (r : V -> List V -> Hp -> VK -> Prop) : Prop := ∀ {F H : Hp} {T : List Addr} {fp : Fp} {s : M.Tx} {xs : List V} {ds : List M.D} {dz : M.D} {Q : VK}, FpH F H fp -> okT s -> FzA K F T xs ds -> f s ds = some dz -> fj' K F T fp dz Q -> r (.str (sx s)) xs H Q
theorem FzA.one {F : Hp} {T : List Addr} {xs : List V} {d : M.D} (h : FzA K F T xs [d]) : ∃ v, xs = [v] /\ Fz K F T v d := by
  cases h with
  | cons a r => cases r; exact ⟨_, rfl, a⟩
theorem yO' : MtD K M.lI' (yt' K) := by
  intro F H T fp a xs ds dz Q f oa hx h k
  have fin : ∀ {ds : List M.D} {p : Addr} {vs : List V}, (SqL K H p vs \/ SqT K H p vs) -> FzA K F T vs ds -> ((M.d3' ds).bind fun ys => if (ys.map List.length).sum + ys.length * a.length <= M.dp' then some (M.D.str (M.cZ' a ys)) else none) = some dz -> yt' K (.str (sx a)) [.ref p] H Q := by
    intro ds p vs hp za e
    cases q : M.d3' ds with
    | none => rw [q] at e; cases e
    | some ss =>
      rw [q, Option.bind_some] at e
      split at e
      . rename_i hl
        cases e
        obtain ⟨rfl, os⟩ := nn' za q
        refine ⟨_, p, ss.map sx, rfl, rfl, hp, ?_, ?_⟩
        . rw [List.map_map, show ss.map (Str.length ∘ sx) = ss.map List.length from List.map_congr_left fun s _ => ct' s, List.length_map, ct']
          exact hl
        . rw [wl']
          refine k.here f (.str ⟨fun c hc => ?_, Nat.le_trans (e1' a ss) hl⟩)
          rcases kr' a ss c hc with h | ⟨s, h1, h2⟩
          . exact oa.1 c h
          . exact (os s h1).1 c h2
      . cases e
  unfold M.lI' at h
  split at h
  . obtain ⟨v, rfl, z⟩ := hx.one
    obtain ⟨p, vs, rfl, ha, za⟩ := z.lst_inv
    exact fin (.inl (SqL.of (f.low _ _ ha))) za h
  . obtain ⟨v, rfl, z⟩ := hx.one
    obtain ⟨p, vs, rfl, ha, za⟩ := z.tup_inv
    exact fin (.inr (seqT f.low ha)) za h
  . cases h
theorem wz' (a b : M.Tx) (i : Nat) : (decide (i + (sx b).length <= (sx a).length) && Builtin.Str.subAt (sx a) (sx b) i) = M.uS' a b i := by
  rw [ct', ct', PySem.StrLaws.subAt_eq, eE', eE', ct']
  unfold M.uS'
  congr 1
  rw [Bool.eq_iff_iff]
  simp
end
section
variable {X : Cx} {W : WX} {K : PySem.W.Frag} {cpos apos p : Pos} {name : Str} {id T : String} {o e : Expr} {es : List Expr} {mo : M.ME} {as : M.MA} {σ : St} {H : Hp} {Q : VK}
theorem wd' {f : M.Tx -> List M.D -> Option M.D} {r : V -> List V -> Hp -> VK -> Prop} (hf : MtD K f r) (h : qE K W (M.eMt f mo as) σ H Q) : tBM K "str" r (qE K W mo) (qA K W as) σ H Q := by
  obtain ⟨ρ, F, T, fr, rel, h⟩ := h
  refine aA' rel h fun dx ρ1 v H1 F1 T1 e1 z1 r1 h1 => ?_
  cases dx <;> try exact h1.elim
  obtain ⟨rfl, o⟩ := z1.str_inv
  refine ⟨rfl, ?_⟩
  refine c7' r1 h1 fun ds ρ2 vs H2 F2 T2 e2 z2 r2 h2 => ?_
  obtain ⟨dz, ez, q⟩ := aW'.ofO h2
  obtain ⟨fp, f2, back⟩ := r2.fp
  exact hf f2 o z2 ez fun v' H3 F3 s zz f3 => q v' H3 F3 T2 (e1.trans (e2.trans (.of s))) zz (back H3 F3 s f3)
theorem vK' {f : M.Tx -> List M.D -> Option M.D} {r : V -> List V -> Hp -> VK -> Prop} (slot : Slot "str" name id) (hty : typeOf (.builtin id) = pure (.type "method_descriptor")) (hm : MtR X id r) (hf : MtD X.K f r) (ho : SE X W o mo) (ha : SA X W (e :: es) as)
    (hbase : attributeBase o name X.env (eval o X.env) = eval o X.env := by rfl)
    (hfew : ((backTo cpos (starEach (e :: es) X.env)).all (fun x => !x.1) && (backToKw cpos (keywordEach [] X.env)).all (fun x => x.1.isSome)
      && decide ((e :: es).length + ([] : List Keyword).length + (if ([] : List Keyword).isEmpty then 0 else 1) < 30)) = true := by rfl)
    (hline : (apos.endLine == cpos.line) = true := by rfl) (hs : starEach (e :: es) X.env = (false, eval e X.env) :: starEach es X.env := by rfl) (hplain : (backTo cpos (starEach es X.env)).any (·.1) = false := by rfl) :
    SE X W (.Call (.Attribute o name apos) (e :: es) [] cpos) (M.eMt f mo as) := PE.imp (pe_bm PySem.F.plainAttrs_str slot hty hm ho ha hbase hfew hline hs hplain) fun _ _ _ h => wd' hf h
end
end S
namespace S
open PySem PySem.Spec PyProof.Rows L2
variable [Wd] [Hot]
section
variable {K : PySem.W.Frag} {F F' H H' : Hp} {T T' : List Addr} {fp fq fr : Fp} {ρ : M.PSt} {σ : St} {W : WX} {Q : VK}
theorem RpW.get {l : List Addr} {w : M.W} {n : Nat} {ob : M.Ob} (r : RpW K F T l w fp) (h : w[n]? = some ob) : ∃ a f1 f2 f3, l[n]? = some a /\ fp = f1 ++ (f2 ++ f3) /\ RpOb K F T a ob f2 ∧
    ∀ F' T' ob' f2', Ext F T F' T' -> RpOb K F' T' a ob' f2' -> RpW K F' T' l (w.set n ob') (f1 ++ (f2' ++ f3)) := by
  induction r generalizing n with
  | nil => cases h
  | @cons a l ob0 w fa fb r0 r ih =>
    cases n with
    | zero =>
      cases h
      exact ⟨a, [], fa, fb, rfl, rfl, r0, fun F' T' ob' f2' e r' => (RpW.cons r' (r.mono e) : RpW K F' T' _ _ (f2' ++ fb))⟩
    | succ n =>
      obtain ⟨a', f1, f2, f3, h1, rfl, h3, h4⟩ := ih (n := n) h
      refine ⟨a', fa ++ f1, f2, f3, h1, by simp, h3, fun F' T' ob' f2' e r' => ?_⟩
      rw [List.append_assoc]
      exact .cons (r0.mono e) (h4 F' T' ob' f2' e r')
theorem RpW.len {l : List Addr} {w : M.W} (r : RpW K F T l w fp) : l.length = w.length := by
  induction r with
  | nil => rfl
  | cons _ _ ih => exact congrArg (· + 1) ih
theorem RpA.get : ∀ {vs : List V} {os : List M.O} {fp : Fp} {i : Nat} {d : M.D}, RpA K F T vs os fp -> os[i]? = some (.fz d) -> ∃ v, vs[i]? = some v /\ Fz K F T v d
  | _, _, _, _, _, .nil, e => by cases e
  | _, _, _, 0, _, .cons h _, e => by
    have e := Option.some.inj e
    subst e
    cases h with
    | fz z => exact ⟨_, rfl, z⟩
  | _, _, _, i + 1, _, .cons _ r, e => RpA.get (i := i) r e
theorem RpA.ati {vs : List V} {os : List M.O} {i : Int} {d : M.D} (h : RpA K F T vs os fp) (e : M.ati os i = some (.fz d)) : ∃ v, atI vs i = some v /\ Fz K F T v d := by
  unfold M.ati at e
  unfold atI
  rw [h.length]
  cases q : M.ixn os.length i with
  | none => rw [q] at e; cases e
  | some j =>
    rw [q] at e
    obtain ⟨v, h1, h2⟩ := h.get (i := j) e
    have q' : ixN os.length i = some j := q
    rw [q']
    exact ⟨v, h1, h2⟩
theorem Rel.wlist (rel : Rel K ρ σ H F T fr) {n : Nat} {os : List M.O} (h : ρ.w[n]? = some (.lst os)) : ∃ a vs f2, T[n]? = some a /\ H a = some (.lst vs) /\ RpA K F T vs os f2 ∧
    ∀ vs' os' f2' fr', RpA K F T vs' os' f2' -> Part (f2' ++ fr') (f2 ++ fr) -> Rel K ⟨ρ.env, ρ.w.set n (.lst os')⟩ σ (upd H a (.lst vs')) F T fr' := by
  obtain ⟨fe, fw, re, rw, f⟩ := rel
  obtain ⟨a, f1, f2, f3, h1, rfl, h3, h4⟩ := rw.get h
  cases h3 with
  | lst r =>
    rename_i vs fp0
    refine ⟨a, vs, fp0, h1, (f.at_ (a, .lst vs) (by simp)).1, r, fun vs' os' f2' fr' r' pt => ?_⟩
    have e5 := h4 F T (.lst os') ((a, .lst vs') :: f2') .refl (.lst r')
    refine ⟨fe, _, re, e5, ?_⟩
    have fA : FpH F H ((fe ++ f1) ++ ((a, .lst vs) :: (f3 ++ (fp0 ++ fr)))) := f.part (by
      constructor
      . intro e h
        simp only [List.mem_append, List.mem_cons] at *
        grind
      . intro x
        simp only [keys, List.map_append, List.map_cons, List.count_append, List.count_cons] at *
        omega)
    have fB := fA.write (o' := .lst vs')
    refine fB.part ?_
    have pm := pt.m
    constructor
    . intro e h
      have := pm e
      simp only [List.mem_append, List.mem_cons] at *
      grind
    . intro x
      have := pt.c x
      simp only [keys, List.map_append, List.map_cons, List.count_append, List.count_cons] at *
      omega
theorem RpA.set {v : V} {d : M.D} (zd : Fz K F T v d) : ∀ {os : List M.O} {vs : List V} {f2 : Fp} (j : Nat), RpA K F T vs os f2 -> ∃ f2', RpA K F T (vs.set j v) (os.set j (.fz d)) f2' /\ Part f2' f2
  | [], _, _, _, .nil => ⟨[], .nil, .refl⟩
  | o :: os, _, _, 0, .cons r0 r => ⟨_, RpA.cons (fp := []) (.fz zd) r, .right .refl⟩
  | o :: os, _, _, j + 1, .cons r0 r => by
    obtain ⟨f2', q1, q2⟩ := RpA.set zd j r
    exact ⟨_, .cons r0 q1, .app .refl q2⟩
theorem RpA.set' {v : V} {d : M.D} {vs : List V} {os : List M.O} {fp : Fp} (h : RpA K F T vs os fp) (j : Nat) (zd : Fz K F T v d) : ∃ f2', RpA K F T (vs.set j v) (os.set j (.fz d)) f2' /\ Part f2' fp := RpA.set zd j h
theorem sI' {w w' : M.W} {x k d : M.D} (h : M.sJ' w x k d = some w') : ∃ n z os j, x = .obj n /\ k = .int z /\ w[n]? = some (.lst os) /\ M.ixn os.length z = some j /\ w' = w.set n (.lst (os.set j (.fz d))) := by
  unfold M.sJ' at h
  split at h
  . rename_i n z
    split at h
    . rename_i os e
      cases q : M.ixn os.length z with
      | none => rw [q] at h; cases h
      | some j =>
        rw [q] at h
        cases h
        exact ⟨n, z, os, j, rfl, rfl, e, q, rfl⟩
    . cases h
  . cases h
theorem tu' {ma mb : M.ME} (h : qE K W (M.js' ma mb) σ H Q) : tOp (rIx K) (qE K W ma) (qE K W mb) σ H Q := by
  obtain ⟨ρ, F, T, fr, rel, h⟩ := h
  refine aA' rel h fun dx ρ1 v H1 F1 T1 e1 z1 r1 h1 => ?_
  refine aA' r1 h1 fun dy ρ2 u H2 F2 T2 e2 z2 r2 h2 => ?_
  obtain ⟨dz, ez, q⟩ := aW'.ofO h2
  by_cases ho : ∃ n, dx = .obj n
  . obtain ⟨n, rfl⟩ := ho
    cases e : ρ2.w[n]? with
    | none => simp only [M.ixW, e] at ez; cases ez
    | some ob =>
      cases ob with
      | lst os =>
        simp only [M.ixW, e] at ez
        obtain ⟨a, vs, f2, h3, h4, h5, _⟩ := r2.wlist e
        cases z1.mono e2 with
        | obj t =>
          rw [h3] at t
          cases t
          cases dy <;> try (cases ez; done)
          rename_i i
          cases z2
          unfold M.ixO at ez
          cases e6 : M.ati os i with
          | none => simp only [e6] at ez; cases ez
          | some o =>
            cases o <;> simp only [e6] at ez <;> try (cases ez; done)
            cases ez
            obtain ⟨v', h7, h8⟩ := h5.ati e6
            exact .inl ⟨_, vs, i, v', rfl, rfl, SqL.of h4, h7, q v' H2 F2 T2 (e1.trans e2) h8 r2⟩
      | dct ks vs => simp only [M.ixW, e] at ez; cases ez
      | dcx ks vs => simp only [M.ixW, e] at ez; cases ez
      | ins C fs => simp only [M.ixW, e] at ez; cases ez
  . have ez' : M.pIx dx dy = some dz := by
      cases dx <;> first | exact ez | exact absurd ⟨_, rfl⟩ ho
    obtain ⟨fp, f2, back⟩ := r2.fp
    exact f7' f2 (z1.mono e2) z2 ez' fun v' H3 F3 s zz f3 => q v' H3 F3 T2 (e1.trans (e2.trans (.of s))) zz (back H3 F3 s f3)
end
section
variable {X : Cx} {W : WX} {pos tpos : Pos} {a b o i : Expr} {ma mb mo mi : M.ME} {as : M.MA} {es : List Expr} {σ : St} {H : Hp} {Q : VK}
theorem cX' (ha : SE X W a ma) (hb : SE X W b mb) (hs : PlainIx b) : SE X W (.Subscript a b pos) (M.js' ma mb) := PE.imp (pe_ix ix_seq ha hb hs) fun _ _ _ h => tu' h
theorem gP' (ha : SE X W a ma) (ho : SE X W o mo) (hi : SE X W i mi)
    (hst : ∀ v, assign (.Subscript o i tpos) X.env v = (do
      let ov ← holding [v] (eval o X.env)
      let iv ← holding [v, ov] (eval i X.env)
      standAt tpos
      holding [v, ov, iv] (setItem ov iv v)
      release [v, ov, iv] []) := by intro _; rfl)
    (hs : swapsWithSole [.Subscript o i tpos] a pos.line X.env = pure false := by rfl) (hw : swappedStores [.Subscript o i tpos] a X.env = pure none := by rfl)
    (h1 : (assignEach [.Subscript o i tpos] X.env).map (·.2) = [assign (.Subscript o i tpos) X.env] := by rfl) : SS X W (.Assign [.Subscript o i tpos] a pos) (M.iP' mo mi ma) :=
  PS.imp (ps_asg ha (pg_sub ho hi set_list hst) hs hw h1) fun D σ H ⟨ρ, F, T, fr, rel, h⟩ => by
    refine dx' rel h fun d ρ1 v H1 F1 T1 e1 z1 r1 h1 => ?_
    refine dx' r1 h1 fun dx ρ2 u H2 F2 T2 e2 z2 r2 h2 => ?_
    refine dx' r2 h2 fun dk ρ3 t H3 F3 T3 e3 z3 r3 h3 => ?_
    cases es : M.sJ' ρ3.w dx dk d with
    | none => rw [es] at h3; exact h3.elim
    | some w' =>
      rw [es] at h3
      obtain ⟨n, z, os, j, rfl, rfl, e, ej, rfl⟩ := sI' es
      cases z3
      obtain ⟨p, vs, f2, h4, h5, h6, back⟩ := r3.wlist e
      cases z2.mono e3 with
      | obj t =>
        rw [h4] at t
        cases t
        have ej' : ixN vs.length z = some j := by rw [h6.length]; exact ej
        obtain ⟨f2', q1, q2⟩ := h6.set' j ((z1.mono e2).mono e3)
        exact ⟨p, vs, z, j, rfl, rfl, h5, ej', h3 σ _ F3 T3 .refl (back _ _ f2' fr q1 (.app q2 .refl))⟩
theorem x7' (h : SA X W es as) : SO X W (.List es pos) (M.yL' as) := PE.imp (pe_lst h) fun σ H Q ⟨ρ, F, T, fr, rel, h⟩ => by
  refine c7' rel h fun ds ρ1 vs H1 F1 T1 e1 z1 r1 h1 => ?_
  split at h1
  . rename_i hl
    refine ⟨by rw [z1.length, bM']; exact hl, fun p hp => ?_⟩
    obtain ⟨fe, fw, re, rw, f⟩ := r1
    have eT : Ext F1 T1 F1 (T1 ++ [p]) := ⟨fun _ _ h => .inl h, ⟨[p], rfl⟩⟩
    have hn : (T1 ++ [p])[ρ1.w.length]? = some p := by rw [<- rw.len, List.getElem?_append_right (Nat.le_refl _), Nat.sub_self]; rfl
    have app : ∀ {l : List Addr} {w : M.W} {fw : Fp}, RpW X.K F1 T1 l w fw -> ∃ fw', RpW X.K F1 (T1 ++ [p]) (l ++ [p]) (w ++ [.lst (ds.map .fz)]) fw' /\ Part fw' ((p, .lst vs) :: fw) := by
      intro l w fw r
      induction r with
      | nil => exact ⟨_, RpW.cons (RpOb.lst (RpA.of_fz (z1.mono eT))) .nil, by simp only [List.append_nil]; exact .refl⟩
      | @cons a l ob w fa fb r0 r ih =>
        obtain ⟨fw', q1, q2⟩ := ih
        refine ⟨fa ++ fw', .cons (r0.mono eT) q1, ?_⟩
        have p1 : Part (fa ++ fw') (fa ++ ((p, .lst vs) :: fb)) := .app .refl q2
        refine p1.trans ?_
        constructor
        . intro e h
          simp only [List.mem_append, List.mem_cons] at *
          grind
        . intro x
          simp only [keys, List.map_append, List.map_cons, List.count_append, List.count_cons] at *
          omega
    obtain ⟨fw', q1, q2⟩ := app rw
    refine h1 (.ref p) (upd H1 p (.lst vs)) F1 (T1 ++ [p]) [] (e1.trans eT) (.fz (.obj hn)) ⟨fe, fw', re.mono eT, q1, ?_⟩
    refine (f.own hp).part ?_
    have p1 : Part (fe ++ (fw' ++ ([] ++ fr))) (fe ++ (((p, .lst vs) :: fw) ++ fr)) := .app .refl (.app q2 .nilL)
    refine p1.trans ?_
    constructor
    . intro e h
      simp only [List.mem_append, List.mem_cons] at *
      grind
    . intro x
      simp only [keys, List.map_append, List.map_cons, List.count_append, List.count_cons] at *
      omega
  . exact h1.elim
theorem qD' {n : Nat} (hv : PE X a (tVar n)) (hb : SE X W b mb) (hs : PlainIx b) : SE X W (.Subscript a b pos) (M.wG' n mb) := PE.imp (pe_ix ix_seq hv hb hs) fun σ H Q ⟨ρ, F, T, fr, rel, h⟩ => by
  unfold M.wG' at h
  split at h
  . rename_i o0 e0
    obtain ⟨fe, fw, re, rw, f⟩ := id rel
    obtain ⟨v, h1⟩ := re.val e0
    refine ⟨v, h1, aA' rel h fun dk ρ1 u H1 F1 T1 e1 z1 r1 h2 => ?_⟩
    split at h2
    . rename_i o e2
      obtain ⟨dz, ez, q⟩ := aW'.ofO h2
      obtain ⟨fe', fw', re', rw', f'⟩ := id r1
      obtain ⟨v', f1', f2', f3', h1', rfl, h3', _⟩ := re'.get e2 (M.ds' (fun z => by rw [z] at ez; exact nomatch (show (none : Option M.D) = some dz from ez)) fun z => by rw [z] at ez; exact nomatch (show (none : Option M.D) = some dz from ez))
      rw [h1] at h1'
      cases h1'
      cases h3' with
      | fz z =>
        obtain ⟨fx, f4, back⟩ := r1.fp
        exact f7' f4 z z1 ez fun v' H3 F3 s zz f3 => q v' H3 F3 T1 (e1.trans (.of s)) zz (back H3 F3 s f3)
      | @lst p vs os fp0 r =>
        cases dk <;> try (cases ez; done)
        rename_i i
        cases z1
        unfold M.ixO at ez
        cases e6 : M.ati os i with
        | none => simp only [e6] at ez; cases ez
        | some o =>
          cases o <;> simp only [e6] at ez <;> try (cases ez; done)
          cases ez
          obtain ⟨v', h7, h8⟩ := r.ati e6
          exact .inl ⟨p, vs, i, v', rfl, rfl, SqL.of (f'.at_ (p, .lst vs) (by simp)).1, h7, q v' H1 F1 T1 e1 h8 r1⟩
      | @tup p vs os fp0 r =>
        cases dk <;> try (cases ez; done)
        rename_i i
        cases z1
        unfold M.ixO at ez
        cases e6 : M.ati os i with
        | none => simp only [e6] at ez; cases ez
        | some o =>
          cases o <;> simp only [e6] at ez <;> try (cases ez; done)
          cases ez
          obtain ⟨v', h7, h8⟩ := r.ati e6
          exact .inr (.inl ⟨p, vs, i, v', rfl, rfl, SqT.of (f'.at_ (p, .tup vs) (by simp)).1, h7, q v' H1 F1 T1 e1 h8 r1⟩)
      | dct _ r => cases dk <;> cases ez
      | dcl _ r => cases dk <;> cases ez
      | dcn _ _ r => cases dk <;> cases ez
    . exact h2.elim
  . exact h.elim
theorem rA' {K : PySem.W.Frag} {n : Nat} (h : qE K W (M.ev' n) σ H Q) : tCB (vU' K) (tCons (tVar n) tNil) σ H Q := by
  obtain ⟨ρ, F, T, fr, rel, h⟩ := h
  unfold M.ev' at h
  split at h
  . rename_i o e
    obtain ⟨dz, ez, q⟩ := aW'.ofO h
    obtain ⟨fe, fw, re, rw, f⟩ := id rel
    obtain ⟨v, f1, f2, f3, h1, rfl, h3, _⟩ := re.get e (M.ds' (fun z => by rw [z] at ez; exact nomatch (show (none : Option M.D) = some dz from ez)) fun z => by rw [z] at ez; exact nomatch (show (none : Option M.D) = some dz from ez))
    refine ⟨v, h1, ?_⟩
    cases h3 with
    | fz z =>
      exact dN' f z ez fun v' H3 F3 s zz f3 => q v' H3 F3 T (.of s) zz ⟨_, fw, re.mono (.of s), rw.mono (.of s), f3⟩
    | @lst p vs os fp0 r =>
      cases ez
      refine .inl (.inr (.inl ⟨p, vs, rfl, .inl (SqL.of (f.at_ (p, .lst vs) (by simp)).1), ?_⟩))
      rw [r.length]
      exact q _ H F T .refl (.int _) rel
    | @tup p vs os fp0 r =>
      cases ez
      refine .inl (.inr (.inl ⟨p, vs, rfl, .inr (SqT.of (f.at_ (p, .tup vs) (by simp)).1), ?_⟩))
      rw [r.length]
      exact q _ H F T .refl (.int _) rel
    | @dct p kvs os fp0 _ r =>
      cases ez
      refine .inl (.inr (.inr ⟨p, kvs, rfl, .inl (f.at_ (p, .dK kvs) (by simp)).1, q _ H F T .refl ?_ rel⟩))
      rw [List.length_map]
      exact .int _
    | @dcl p kvs ks os fp0 ke r =>
      cases ez
      have e2 : kvs.length = ks.length := by have := congrArg List.length ke.e; simpa using this
      refine .inr (.inl ⟨p, kvs, rfl, .inl (f.at_ (p, dcL p kvs) (by simp)).1, q _ H F T .refl ?_ rel⟩)
      rw [e2]
      exact .int _
    | @dcn p xs ks os fp0 ke z r =>
      cases ez
      have e2 : xs.length = ks.length := by have := congrArg List.length ke.e; simpa using this
      refine .inr (.inr ⟨p, xs, rfl, .inl (f.at_ (p, dcN p xs) (by simp)).1, q _ H F T .refl ?_ rel⟩)
      rw [e2]
      exact .int _
  . exact h.elim
theorem c6' {n : Nat} {x : Str} {p : Pos} (hwd : X.prog = Wd.P /\ X.w = Wd.w) (hg : Gl X x) (hm : X.mg x = none) (hv : bootBuiltins x = some (.builtin "len")) (ha : PE X a (tVar n)) (hn : x ≠ "__name__" := by decide) (hdb : (x == ("__debug__" : Str)) = false := by decide)
    (he : starEach [a] X.env = (false, eval a X.env) :: starEach [] X.env := by rfl) (hpl : (backTo pos (starEach [] X.env)).any (·.1) = false := by rfl) : SE X W (.Call (.Name x p) [a] [] pos) (M.ev' n) := PE.imp (pe_callB (a4' hwd) hg hm hv (pa_cons ha pa_nil he) hn hdb he hpl) fun _ _ _ => rA'
end
end S
namespace S
open PySem PySem.Spec PyProof.Rows L2
variable [Wd] [Hot]
local macro_rules | `(tactic| walk_at "parts") => `(tactic| (constructor; (intro e h; simp only [List.mem_append, List.mem_cons, List.not_mem_nil] at *; grind); (intro x; simp only [keys, List.map_append, List.map_cons, List.map_nil, List.count_append, List.count_cons, List.count_nil] at *; omega)))
theorem f6' {a b : String} (h : Str.ofString a = Str.ofString b) : a = b := by
  rw [Str.ofString_eq_toList, Str.ofString_eq_toList] at h
  have h2 : a.toList.map Char.toNat = b.toList.map Char.toNat := by
    have := congrArg (fun z : Str => z.cps.toList) h
    simpa using this
  have h3 : a.toList = b.toList := by
    have inj : ∀ (x y : List Char), x.map Char.toNat = y.map Char.toNat -> x = y := by
      intro x
      induction x with
      | nil => intro y h; cases y with
        | nil => rfl
        | cons _ _ => cases h
      | cons c x ih => intro y h; cases y with
        | nil => cases h
        | cons d y =>
          rw [List.map_cons, List.map_cons] at h
          injection h with h1 h2
          rw [ih y h2, show c = d from Char.toNat_inj.mp h1]
    exact inj _ _ h2
  exact String.toList_inj.mp h3
section
variable {K : PySem.W.Frag} {F F' H H' : Hp} {T T' : List Addr} {fp fq fr : Fp} {ρ : M.PSt} {σ : St} {W : WX} {Q : VK}
abbrev sl' (q : String × V) : Str × V := (Str.ofString q.1, q.2)
theorem rv' (f : String) : ∀ fv : List (String × V), (fv.map sl').lookup (Str.ofString f) = fv.lookup f
  | [] => rfl
  | (g, v) :: r => by
    rw [List.map_cons]
    by_cases h : f = g
    . subst h
      show List.lookup _ ((Str.ofString f, v) :: _) = _
      rw [List.lookup_cons_self, List.lookup_cons_self]
    . have h1 : (f == g) = false := by simpa using h
      have h2 : (Str.ofString f == Str.ofString g) = false := by
        rw [beq_eq_false_iff_ne]
        exact fun e => h (f6' e)
      show List.lookup _ ((Str.ofString g, v) :: _) = _
      simp only [List.lookup, h1, h2]
      exact rv' f r
theorem RpA.lookup {f : String} {o : M.O} : ∀ {fv : List (String × V)} {os : List M.O} {fp : Fp}, RpA K F T (fv.map (·.2)) os fp -> ((fv.map (·.1)).zip os).lookup f = some o →
    ∃ v f1 f2 f3, fv.lookup f = some v /\ fp = f1 ++ (f2 ++ f3) /\ Rp K F T v o f2
  | [], _, _, r, h => by cases r; cases h
  | (g, v) :: fv, _, _, r, h => by
    cases r with
    | @cons _ _ o1 os fp fq r0 r =>
      rw [List.map_cons, List.zip_cons_cons] at h
      by_cases e : f = g
      . subst e
        rw [List.lookup_cons_self] at h
        cases h
        exact ⟨v, [], fp, fq, List.lookup_cons_self, rfl, r0⟩
      . have h1 : (f == g) = false := by simpa using e
        simp only [List.lookup, h1] at h
        obtain ⟨v', f1, f2, f3, e1, e2, e3⟩ := RpA.lookup r h
        refine ⟨v', fp ++ f1, f2, f3, ?_, by rw [e2, List.append_assoc], e3⟩
        simp only [List.lookup, h1]
        exact e1
theorem rx' {f : String} : ∀ {fv : List (String × V)} {os : List M.O}, fv.length = os.length -> ((fv.map (·.1)).zip os).lookup f = none -> fv.lookup f = none
  | [], _, _, _ => rfl
  | (g, v) :: fv, [], h, _ => by cases h
  | (g, v) :: fv, o :: os, hl, h => by
    rw [List.map_cons, List.zip_cons_cons] at h
    by_cases e : f = g
    . subst e
      rw [List.lookup_cons_self] at h
      cases h
    . have h1 : (f == g) = false := by simpa using e
      simp only [List.lookup, h1] at h ⊢
      exact rx' (Nat.succ.inj hl) h
def putS (f : String) (v : V) : List (String × V) -> List (String × V)
  | [] => [(f, v)]
  | (g, x) :: r => if g = f then (g, v) :: r else (g, x) :: putS f v r
theorem nG' (f : String) (v : V) : ∀ fv : List (String × V), putF (Str.ofString f) v (fv.map sl') = (putS f v fv).map sl'
  | [] => rfl
  | (g, x) :: r => by
    rw [List.map_cons]
    show (if Str.ofString g = Str.ofString f then _ else _) = _
    unfold putS
    by_cases h : g = f
    . rw [if_pos h, if_pos (by rw [h])]
      rfl
    . rw [if_neg h, if_neg (fun e => h (f6' e)), nG' f v r]
      rfl
theorem RpA.putS {f : String} {o : M.O} {v : V} (q : Rp K F T v o fq) : ∀ {fv : List (String × V)} {os : List M.O} {fp : Fp}, RpA K F T (fv.map (·.2)) os fp →
    ∃ os' fp', M.q4' f o ((fv.map (·.1)).zip os) = ((S.putS f v fv).map (·.1)).zip os' /\ RpA K F T ((S.putS f v fv).map (·.2)) os' fp' /\ Part fp' (fq ++ fp)
  | [], _, _, r => by
    cases r
    exact ⟨[o], fq ++ [], rfl, .cons q .nil, by walk_at "parts"⟩
  | (g, x) :: fv, _, _, r => by
    cases r with
    | @cons _ _ o1 os fp fp2 r0 r =>
      unfold S.putS
      by_cases h : g = f
      . refine ⟨o :: os, fq ++ fp2, ?_, ?_, by walk_at "parts"⟩
        . rw [if_pos h, List.map_cons, List.zip_cons_cons]
          show (if g = f then _ else _) = _
          rw [if_pos h, List.map_cons, List.zip_cons_cons]
        . rw [if_pos h]
          exact .cons q r
      . obtain ⟨os', fp', h1, h2, h3⟩ := RpA.putS q r
        refine ⟨o1 :: os', fp ++ fp', ?_, ?_, ?_⟩
        . rw [if_neg h, List.map_cons, List.zip_cons_cons]
          show (if g = f then _ else _) = _
          rw [if_neg h, h1, List.map_cons, List.zip_cons_cons]
        . rw [if_neg h]
          exact .cons r0 h2
        . have h4 : Part (fp ++ fp') (fp ++ (fq ++ fp2)) := .app .refl h3
          refine h4.trans ?_
          walk_at "parts"
theorem Rel.wins (rel : Rel K ρ σ H F T fr) {n : Nat} {C : String} {fs : List (String × M.O)} (h : ρ.w[n]? = some (.ins C fs)) :
    ∃ (a dx : Addr) (fv : List (String × V)) (os : List M.O) (f2 : Fp), T[n]? = some a /\ fs = (fv.map (·.1)).zip os /\ H a = some (.ins (He.ga K C) dx (fv.map sl')) /\ RpA K F T (fv.map (·.2)) os f2 ∧
    (∃ f0, FpH F H ((a, .ins (He.ga K C) dx (fv.map sl')) :: (f2 ++ f0))) ∧
    ∀ (fv' : List (String × V)) (os' : List M.O) (f2' fr' : Fp), RpA K F T (fv'.map (·.2)) os' f2' -> Part (f2' ++ fr') (f2 ++ fr) -> Rel K ⟨ρ.env, ρ.w.set n (.ins C ((fv'.map (·.1)).zip os'))⟩ σ (upd H a (.ins (He.ga K C) dx (fv'.map sl'))) F T fr' := by
  obtain ⟨fe, fw, re, rw, f⟩ := rel
  obtain ⟨a, f1, f2, f3, h1, rfl, h3, h4⟩ := rw.get h
  generalize eo : M.Ob.ins C fs = ob at h3
  cases h3 with
  | lst r => cases eo
  | dct _ r => cases eo
  | dcl _ r => cases eo
  | dcn _ _ r => cases eo
  | @ins dx C' fv os fp0 hd r =>
    cases eo
    have fA : FpH F H ((fe ++ f1) ++ ((a, .ins (He.ga K C) dx (fv.map sl')) :: (f3 ++ (fp0 ++ fr)))) := f.part (by walk_at "parts")
    refine ⟨a, dx, fv, os, fp0, h1, rfl, (f.at_ (a, .ins (He.ga K C) dx (fv.map sl')) (by simp)).1, r, ⟨fe ++ (f1 ++ (f3 ++ fr)), fA.part (by walk_at "parts")⟩, fun fv' os' f2' fr' r' pt => ?_⟩
    have e5 := h4 F T (.ins C ((fv'.map (·.1)).zip os')) ((a, .ins (He.ga K C) dx (fv'.map sl')) :: f2') .refl (.ins hd r')
    refine ⟨fe, _, re, e5, ?_⟩
    have fB := fA.write (o' := .ins (He.ga K C) dx (fv'.map sl'))
    refine fB.part ?_
    have pm := pt.m
    constructor
    . intro e h
      have := pm e
      simp only [List.mem_append, List.mem_cons] at *
      grind
    . intro x
      have := pt.c x
      simp only [keys, List.map_append, List.map_cons, List.count_append, List.count_cons] at *
      omega
theorem tE' {cs : List String} {f : String} {w : M.W} {x d : M.D} (h : M.hu' cs f w x = some d) : ∃ n C fs, x = .obj n /\ w[n]? = some (.ins C fs) /\ C ∈ cs /\ fs.lookup f = some (.fz d) := by
  unfold M.hu' at h
  split at h
  . rename_i n
    split at h
    . rename_i C fs e
      split at h
      . rename_i hC
        split at h
        . rename_i d' e2
          cases h
          exact ⟨n, C, fs, rfl, e, hC, e2⟩
        . cases h
      . cases h
    . cases h
  . cases h
theorem tD' {cs : List String} {f : String} {ma : M.ME} (hC : ∀ C ∈ cs, Cls K (He.ga K C) /\ NoAttr K (He.ga K C) (Str.ofString f)) (h : qE K W (M.e6' cs ma f) σ H Q) : tFld K (qE K W ma) (Str.ofString f) σ H Q := by
  obtain ⟨ρ, F, T, fr, rel, h⟩ := h
  refine aA' rel h fun dx ρ1 v H1 F1 T1 e1 z1 r1 h1 => ?_
  obtain ⟨d, ed, q⟩ := aW'.ofO h1
  obtain ⟨n, C, fs, rfl, ew, hm, el⟩ := tE' ed
  obtain ⟨a, dx, fv, os, f2, hT, rfl, hH, r, _, _⟩ := r1.wins ew
  obtain ⟨v', _, _, _, e2, _, e3⟩ := r.lookup el
  cases z1 with
  | obj t =>
    rw [hT] at t
    cases t
    cases e3 with
    | fz z => exact ⟨a, _, dx, _, v', rfl, hH, (hC C hm).1, (hC C hm).2, by rw [rv']; exact e2, q v' H1 F1 T1 e1 z r1⟩
theorem qQ' {K : PySem.W.Frag} {w : M.W} {fr' : Fp} (r : sp' K w H F T fr) (p : Part fr' fr) : sp' K w H F T fr' := by
  obtain ⟨fe, fw, re, rw, f⟩ := r
  exact ⟨fe, fw, re, rw, f.part (.app .refl (.app .refl p))⟩
theorem bw'.frame {D : Ends} {r : M.Out} (h : bw' K W D F T fr r) (p : Part fr fq) : bw' K W D F T fq r := by
  cases r with
  | nx ρ => exact fun σ' H' F' T' e r => h σ' H' F' T' e (r.part p)
  | bk ρ => exact fun σ' H' F' T' e r => h σ' H' F' T' e (r.part p)
  | ct ρ => exact fun σ' H' F' T' e r => h σ' H' F' T' e (r.part p)
  | rt o w => exact fun v H' F' T' fp e z r => h v H' F' T' fp e z (qQ' r (.app .refl p))
  | exc x ρ => exact fun σ' cls dd H' F' T' e z r => h σ' cls dd H' F' T' e z (r.part p)
  | bad => exact h
theorem EX.frame {x : M.Exc} (h : EX K W σ F T fr x ρ) (p : Part fr fq) : EX K W σ F T fq x ρ := fun cls dd H' F' T' e z r => h cls dd H' F' T' e z (r.part p)
theorem sY' {D : Ends} {m : M.ME} {k : M.D -> M.PSt -> M.Out} (rel : Rel K ρ σ H F T (fp ++ fr)) (h : bw' K W D F T fr ((m ρ).out k))
    (q : ∀ d ρ1 v H1 F1 T1, Ext F T F1 T1 -> Fz K F1 T1 v d -> Rel K ρ1 σ H1 F1 T1 (fp ++ fr) -> bw' K W D F1 T1 fr (k d ρ1) -> Q v H1) : qE K W m σ H Q :=
  ⟨ρ, F, T, fp ++ fr, rel, (eT' h).mono (fun d ρ1 h1 v H1 F1 T1 e z r => q d ρ1 v H1 F1 T1 e z r (h1.mono e)) fun _ _ z => z.frame (.right .refl)⟩
theorem vE' {cs : List String} {f : String} {o : M.O} {w w' : M.W} {x : M.D} (h : M.stF cs f o w x = some w') : ∃ n C fs, x = .obj n /\ w[n]? = some (.ins C fs) /\ C ∈ cs /\ fs.length < 1000 /\ w' = w.set n (.ins C (M.q4' f o fs)) := by
  unfold M.stF at h
  split at h
  . rename_i n
    split at h
    . rename_i C fs e
      split at h
      . rename_i hC
        cases h
        exact ⟨n, C, fs, rfl, e, hC.1, hC.2, rfl⟩
      . cases h
    . cases h
  . cases h
theorem qA' {cs : List String} {f : String} {ma : M.ME} {mo : M.MO} {D : Ends} (hC : ∀ C ∈ cs, Cls K (He.ga K C) /\ NoAttr K (He.ga K C) (Str.ofString f)) (h : qS K W (M.sFld cs ma f mo) D σ H) : sFld K (qE K W ma) (qO K W mo) (Str.ofString f) D σ H := by
  obtain ⟨ρ, F, T, fr, rel, h⟩ := h
  refine gU' rel h fun o ρ1 y H1 F1 T1 fp e1 z1 r1 h1 => ?_
  refine sY' r1 h1 fun d ρ2 x H2 F2 T2 e2 z2 r2 h2 => ?_
  cases es : M.stF cs f o ρ2.w d with
  | none => rw [es] at h2; exact h2.elim
  | some w' =>
    rw [es] at h2
    obtain ⟨n, C, fs, rfl, ew, hm, hl, rfl⟩ := vE' es
    obtain ⟨a, dx, fv, os, f2, hT, rfl, hH, r, _, back⟩ := r2.wins ew
    cases z2 with
    | obj t =>
      rw [hT] at t
      cases t
      obtain ⟨os', fp', p1, p2, p3⟩ := RpA.putS (z1.mono e2) r (f := f)
      have hlen := r.length
      rw [List.length_map] at hlen
      rw [List.length_zip, List.length_map, hlen, Nat.min_self] at hl
      refine ⟨a, _, dx, _, rfl, hH, (hC C hm).1, (hC C hm).2, by rw [List.length_map, hlen]; exact hl, ?_⟩
      rw [nG']
      refine h2 σ _ F2 T2 .refl ?_
      show Rel K ⟨ρ2.env, ρ2.w.set n (.ins C (M.q4' f o _))⟩ σ _ F2 T2 fr
      rw [p1]
      refine back _ _ fp' fr p2 ?_
      have h4 : Part (fp' ++ fr) ((fp ++ f2) ++ fr) := .app p3 .refl
      refine h4.trans ?_
      walk_at "parts"
theorem RpW.snoc {a : Addr} {ob : M.Ob} {fb : Fp} (q : RpOb K F T a ob fb) {l : List Addr} {w : M.W} {fw : Fp} (r : RpW K F T l w fw) : ∃ fw', RpW K F T (l ++ [a]) (w ++ [ob]) fw' /\ Part fw' (fb ++ fw) := by
  induction r with
  | nil => exact ⟨_, RpW.cons q .nil, by walk_at "parts"⟩
  | @cons a l ob w fa fb' r0 r ih =>
    obtain ⟨fw', q1, q2⟩ := ih
    refine ⟨fa ++ fw', .cons r0 q1, ?_⟩
    have p1 : Part (fa ++ fw') (fa ++ (fb ++ fb')) := .app .refl q2
    refine p1.trans ?_
    walk_at "parts"
theorem Rel.reenv {env : List (Option M.O)} {fe : Fp} {w' : M.W} {F0 : Hp} {T0 : List Addr} (re : RpE K F0 T0 σ env fe) (e : Ext F0 T0 F T) (r : sp' K (w') H F T (fp ++ (fe ++ fr))) : Rel K ⟨env, w'⟩ σ H F T (fp ++ fr) := by
  obtain ⟨fe', fw', re', rw', f'⟩ := r
  cases re'
  exact ⟨fe, fw', re.mono e, rw', f'.part (by walk_at "parts")⟩
theorem rr' {C : String} {init : M.MF} {as : M.MA} (h : qO K W (M.ke' C init as) σ H Q) : uw' (He.ga K C) (spM K init) (WE W) (qA K W as) σ H Q := by
  obtain ⟨ρ, F, T, fr, rel, h⟩ := h
  refine c7' rel h fun ds ρ1 vs H1 F1 T1 e1 z1 r1 h1 => ?_
  intro x dx hx hdx hne
  obtain ⟨fe, fw, re, rw', f⟩ := r1
  have s1 : Same F1 (upd F1 dx (.own x)) := cy' (f.free hdx)
  have eT : Ext F1 T1 (upd F1 dx (.own x)) (T1 ++ [x]) := ⟨.of s1, ⟨[x], rfl⟩⟩
  have hn : (T1 ++ [x])[ρ1.w.length]? = some x := by rw [<- rw'.len, List.getElem?_append_right (Nat.le_refl _), Nat.sub_self]; rfl
  have qi : RpOb K (upd F1 dx (.own x)) (T1 ++ [x]) x (.ins C []) [(x, .ins (He.ga K C) dx [])] := RpOb.ins (fs := []) (os := []) (fp := []) upd_same .nil
  obtain ⟨fw', q1, q2⟩ := RpW.snoc qi (rw'.mono eT)
  have f1 : FpH (upd F1 dx (.own x)) (upd (upd H1 dx (.own x)) x (.ins (He.ga K C) dx [])) ((x, .ins (He.ga K C) dx []) :: (fe ++ (fw ++ fr))) := (f.new hdx).own (by rw [upd_ne (Ne.symm hne)]; exact hx)
  refine ⟨.obj ρ1.w.length :: ds, ρ1.w ++ [.ins C []], _, _, fe ++ fr, .cons (.obj hn) (z1.mono eT), ⟨[], fw', xt', q1, f1.part ?_⟩, ?_⟩
  . have p1 : Part ([] ++ (fw' ++ (fe ++ fr))) ([] ++ (([(x, .ins (He.ga K C) dx [])] ++ fw) ++ (fe ++ fr))) := .app .refl (.app q2 .refl)
    refine p1.trans ?_
    walk_at "parts"
  . cases em : init (.obj ρ1.w.length :: ds) (ρ1.w ++ [.ins C []]) with
    | bad => rw [em] at h1; exact h1.elim
    | ok o w' =>
      rw [em] at h1
      intro v H' F' T' fp e z r
      cases z with
      | fz z =>
        rename_i d
        cases d <;> try exact h1.elim
        refine ⟨z.non_inv, h1 (.ref x) H' F' T' [] (e1.trans (eT.trans e)) (.fz (.obj (e.get hn))) ?_⟩
        exact Rel.reenv (re.mono eT) e r
      | lst _ => exact h1.elim
      | tup _ => exact h1.elim
      | dct _ _ => exact h1.elim
      | dcl _ _ => exact h1.elim
      | dcn _ _ _ => exact h1.elim
    | exc x w' =>
      rw [em] at h1
      intro cls dd H' F' T' e z r
      refine h1 cls dd H' F' T' (eT.trans e) z ?_
      exact Rel.reenv (fp := []) (re.mono eT) e r
theorem rN' {cs : List String} {m : String} {w : M.W} {x : M.D} (h : M.ja' cs m w x = true) : ∃ C n fs, C ∈ cs /\ x = .obj n /\ w[n]? = some (.ins C fs) /\ fs.lookup m = none := by
  unfold M.ja' at h
  split at h
  . rename_i n
    split at h
    . rename_i C' fs e
      rw [Bool.and_eq_true, decide_eq_true_eq, Option.isNone_iff_eq_none] at h
      exact ⟨C', n, fs, h.1, rfl, e, h.2⟩
    . cases h
  . cases h
theorem kj' {cs : List String} {m : String} {mf : M.MF} {ma : M.ME} {as : M.MA} (h : qO K W (M.fF' cs m mf ma as) σ H Q) : qq' K cs (Str.ofString m) (spM K mf) (WE W) (qE K W ma) (qA K W as) σ H Q := by
  obtain ⟨ρ, F, T, fr, rel, h⟩ := h
  refine aA' rel h fun dx ρ1 v H1 F1 T1 e1 z1 r1 h1 => ?_
  split at h1
  . rename_i hi
    obtain ⟨C, n, fs, hC, rfl, ew, el⟩ := rN' hi
    obtain ⟨a, dx, fv, os, f2, hT, rfl, hH, r, _, _⟩ := r1.wins ew
    cases id z1 with
    | obj t =>
      rw [hT] at t
      cases t
      have hlen := r.length
      rw [List.length_map] at hlen
      refine ⟨C, hC, a, dx, _, rfl, hH, by rw [rv']; exact rx' hlen el, ?_⟩
      refine c7' r1 h1 fun ds ρ2 vs H2 F2 T2 e2 z2 r2 h2 => ?_
      obtain ⟨fe, fw, re, rw', f⟩ := r2
      refine ⟨.obj n :: ds, ρ2.w, F2, T2, fe ++ fr, .cons (z1.mono e2) z2, ⟨[], fw, xt', rw', f.part (by walk_at "parts")⟩, ?_⟩
      cases em : mf (.obj n :: ds) ρ2.w with
      | bad => rw [em] at h2; exact h2.elim
      | ok o w' =>
        rw [em] at h2
        exact fun v H' F' T' fp e z r => h2 v H' F' T' fp (e1.trans (e2.trans e)) z (Rel.reenv re e r)
      | exc x w' =>
        rw [em] at h2
        exact fun cls dd H' F' T' e z r => h2 cls dd H' F' T' e z (Rel.reenv (fp := []) re e r)
  . exact h1.elim
end
section
variable {X : Cx} {W : WX} {pos apos p pos' : Pos} {e o value : Expr} {es : List Expr} {ma : M.ME} {mo : M.MO} {as : M.MA} {k : Nat} {x : Str} {ps : List Str} {mf : M.MF}
theorem bG' {f : String} (cs : List String) (ha : SE X W e ma) (hC : ∀ C ∈ cs, Cls X.K (He.ga X.K C) /\ NoAttr X.K (He.ga X.K C) (Str.ofString f)) (hb : attributeBase e (Str.ofString f) X.env (eval e X.env) = eval e X.env := by rfl) :
    SE X W (.Attribute e (Str.ofString f) pos) (M.e6' cs ma f) := PE.imp (pe_fld ha hb) fun _ _ _ h => tD' hC h
theorem eG' {f : String} (cs : List String) (ha : SE X W o ma) (hv : SO X W value mo) (hC : ∀ C ∈ cs, Cls X.K (He.ga X.K C) /\ NoAttr X.K (He.ga X.K C) (Str.ofString f)) (hs : swapsWith value (some (.Attribute o (Str.ofString f) pos')) pos.line X.env = pure false := by rfl) :
    SS X W (.Assign [.Attribute o (Str.ofString f) pos'] value pos) (M.sFld cs ma f mo) := PS.imp (ps_fld ha hv hs) fun _ _ _ h => qA' hC h
theorem lp' {C : String} (F : OgM X.prog X.w X.K X.mg X.base k (He.ga X.K C) "__init__" ps (spM X.K mf)) (hr : RoomG (k + 1) X.A) (hg : Gl X x) (Mk' : Mk X.K (He.ga X.K C) (He.ma X.K (He.ga X.K C) "__init__")) (hm : X.mg x = some (.ref (He.ga X.K C))) (tk : Takes X W)
    (ha : SA X W (e :: es) as) (hdb : (x == ("__debug__" : Str)) = false := by decide) (he : starEach (e :: es) X.env = (false, eval e X.env) :: starEach es X.env := by rfl) (hpl : (backTo pos (starEach es X.env)).any (·.1) = false := by rfl) :
    SO X W (.Call (.Name x p) (e :: es) [] pos) (M.ke' C mf as) := PE.imp (ta' F hr hg Mk' hm tk ha hdb he hpl) fun _ _ _ h => rr' h
theorem qx' {C m : String} {cs : List String} {pl : Sem Bool} (he : SE X W o ma) (F : OgM X.prog X.w X.K X.mg X.base k (He.ga X.K C) (Str.ofString m) ps (spM X.K mf)) (hr : RoomG k X.A) (hm : jn' X.K cs (Str.ofString m) (He.ma X.K (He.ga X.K C) (Str.ofString m))) (tk : Takes X W)
    (ha : SA X W (e :: es) as)
    (hst : starEach (e :: es) X.env = (false, eval e X.env) :: starEach es X.env := by rfl) (hpl : (backTo pos (starEach es X.env)).any (·.1) = false := by rfl)
    (ht : eval (.Call (.Attribute o (Str.ofString m) apos) (e :: es) [] pos) X.env = (do
      let ov ← eval o X.env
      standAt apos.atName
      let (f, first) ← holding [ov] (getMethod ov (Str.ofString m) pl)
      callWith pos f first (backTo pos (starEach (e :: es) X.env)) (backToKw pos (keywordEach [] X.env))) := by rfl) :
    SO X W (.Call (.Attribute o (Str.ofString m) apos) (e :: es) [] pos) (M.fF' cs m mf ma as) := PE.imp (s9' he F hr hm tk ha hst hpl ht) fun _ _ _ h => kj' h
theorem eH' {C m : String} {cs : List String} {pl : Sem Bool} (he : SE X W o ma) (F : OgM X.prog X.w X.K X.mg X.base k (He.ga X.K C) (Str.ofString m) ps (spM X.K mf)) (hr : RoomG k X.A) (hm : jn' X.K cs (Str.ofString m) (He.ma X.K (He.ga X.K C) (Str.ofString m))) (tk : Takes X W)
    (ht : eval (.Call (.Attribute o (Str.ofString m) apos) [] [] pos) X.env = (do
      let ov ← eval o X.env
      standAt apos.atName
      let (f, first) ← holding [ov] (getMethod ov (Str.ofString m) pl)
      callWith pos f first (backTo pos (starEach [] X.env)) (backToKw pos (keywordEach [] X.env))) := by rfl) :
    SO X W (.Call (.Attribute o (Str.ofString m) apos) [] [] pos) (M.fF' cs m mf ma M.aV') := PE.imp (q9' he F hr hm tk ht) fun σ H Q h => by
  have h2 := kj' h
  obtain ⟨ρ, F, T, fr, rel, q⟩ := h2
  refine ⟨ρ, F, T, fr, rel, q.mono (fun d ρ1 h1 v H1 F1 T1 e z r => ?_) fun _ _ z => z⟩
  obtain ⟨C, hC, a, dx, fs, e1, e2, e3, ρ2, F2, T2, fr2, rel2, q2⟩ := h1 v H1 F1 T1 e z r
  exact ⟨C, hC, a, dx, fs, e1, e2, e3, q2 [] H1 F2 T2 .refl .nil rel2⟩
end
end S
namespace S
open PySem PySem.Spec PyProof.Rows L2
variable [Wd] [Hot]
local macro_rules | `(tactic| walk_at "parts") => `(tactic| (constructor; (intro e h; simp only [List.mem_append, List.mem_cons, List.not_mem_nil] at *; grind); (intro x; simp only [keys, List.map_append, List.map_cons, List.map_nil, List.count_append, List.count_cons, List.count_nil] at *; omega)))
section
variable {K : PySem.W.Frag} {W : WX} {Q : VK} {σ : St} {H : Hp}
theorem BA' : Op1 K M.Au' (rU fun i => .int (-i)) := by
  intro F H T fp x dx dz Q f hx h k
  cases dx <;> try (cases h; done)
  cases hx; cases h
  exact ⟨_, rfl, k.here f (.int _)⟩
theorem jb' {F : Hp} {T : List Addr} : ∀ {vs : List V} {ds : List M.D} {ns : List Int}, FzA K F T vs ds -> M.bs' ds = some ns -> vs = ns.map V.int
  | _, _, ns, .nil, h => by cases h; rfl
  | _, d :: ds, ns, .cons a r, h => by
    cases d <;> try (cases h; done)
    rename_i b
    cases q : M.bs' ds with
    | none => simp only [M.bs', q] at h; cases h
    | some cs =>
      simp only [M.bs', q, Option.map_some] at h
      cases h
      rw [a.int_inv, jb' r q]
      rfl
theorem FzA.rgI {F : Hp} {T : List Addr} : ∀ ns : List Int, FzA K F T (ns.map V.int) (ns.map M.D.int)
  | [] => .nil
  | n :: r => .cons (.int n) (FzA.rgI r)
theorem kk' : ∀ (ns : List Int) (m : Int), m ∈ ns -> (∀ y ∈ ns, y <= m) -> M.nS' ns = m
  | [x], m, h, _ => by rw [List.mem_singleton.mp h]; rfl
  | x :: y :: r, m, h, hm => by
    show max x (M.nS' (y :: r)) = m
    have ge : ∀ (l : List Int) (a : Int), l ≠ [] -> (∀ z ∈ l, z <= a) -> M.nS' l <= a := by
      intro l
      induction l with
      | nil => intro a h; exact absurd rfl h
      | cons z t ih =>
        intro a _ hz
        cases t with
        | nil => exact hz z (by simp)
        | cons u t =>
          show max z (M.nS' (u :: t)) <= a
          have := ih a (by simp) fun q hq => hz q (by simp [hq])
          have := hz z (by simp)
          omega
    have ge2 := ge (y :: r) m (by simp) fun z hz => hm z (List.mem_cons_of_mem _ hz)
    have hx := hm x List.mem_cons_self
    rcases List.mem_cons.mp h with rfl | h
    . omega
    . rw [kk' (y :: r) m h fun z hz => hm z (List.mem_cons_of_mem _ hz)]
      omega
def nO' (c : Nat) : Str := ⟨#[c]⟩
def sB' (z : Str) : Nat := z.cps.toList.headD 0
theorem nI' {ys : List Str} {l : List Nat} (h : ys.Perm (l.map nO')) : ∃ l' : List Nat, ys = l'.map nO' /\ l'.Perm l := by
  refine ⟨ys.map sB', ?_, ?_⟩
  . rw [List.map_map]
    have : ∀ y ∈ ys, (nO' ∘ sB') y = y := fun y hy => by
      obtain ⟨c, _, rfl⟩ := List.mem_map.mp (h.subset hy)
      rfl
    exact (List.map_congr_left this).trans (List.map_id ys) |>.symm
  . have := h.map sB'
    rw [List.map_map] at this
    have e : l.map (sB' ∘ nO') = l := (List.map_congr_left fun c _ => rfl).trans (List.map_id l)
    rw [e] at this
    exact this
theorem oy' : ∀ (l : List Nat) (c : Nat), risingS (nO' c) (l.map nO') = true -> c <= l.headD c /\ sortedS (l.map nO') = true
  | [], c, _ => ⟨Nat.le_refl c, rfl⟩
  | e :: l, c, h => by
    rw [List.map_cons] at h ⊢
    unfold risingS at h
    rw [Bool.and_eq_true] at h
    obtain ⟨h1, h2⟩ := h
    refine ⟨?_, h2⟩
    show c <= e
    simp [ltCps, nO'] at h1
    omega
theorem fu' : ∀ l : List Nat, sortedS (l.map nO') = true -> l.Pairwise (· <= ·)
  | [], _ => .nil
  | c :: l, h => by
    obtain ⟨h1, h2⟩ := oy' l c h
    have ih := fu' l h2
    refine List.pairwise_cons.mpr ⟨fun d hd => ?_, ih⟩
    cases l with
    | nil => cases hd
    | cons e t =>
      have hce : c <= e := h1
      cases hd with
      | head => exact hce
      | tail _ hd => exact Nat.le_trans hce ((List.pairwise_cons.mp ih).1 d hd)
theorem np' {l l' : List Nat} (p : l'.Perm l) (s : l'.Pairwise (· <= ·)) : l' = M.bY' l := by
  refine List.Perm.eq_of_pairwise (le := (· <= ·)) (fun a b _ _ h1 h2 => Nat.le_antisymm h1 h2) s ?_ (p.trans (List.mergeSort_perm l _).symm)
  exact (List.pairwise_mergeSort (le := fun a b => decide (a <= b)) (fun a b c h1 h2 => decide_eq_true (Nat.le_trans (of_decide_eq_true h1) (of_decide_eq_true h2))) (fun a b => by
    rw [Bool.or_eq_true, decide_eq_true_eq, decide_eq_true_eq]; omega) l).imp fun h => of_decide_eq_true h
theorem nq' {l l' : List Int} (p : l'.Perm l) (s : l'.Pairwise (· <= ·)) : l' = M.gQ' l := by
  refine List.Perm.eq_of_pairwise (le := (· <= ·)) (fun a b _ _ h1 h2 => Int.le_antisymm h1 h2) s ?_ (p.trans (List.mergeSort_perm l _).symm)
  exact (List.pairwise_mergeSort (le := fun a b => decide (a <= b)) (fun a b c h1 h2 => decide_eq_true (Int.le_trans (of_decide_eq_true h1) (of_decide_eq_true h2))) (fun a b => by
    rw [Bool.or_eq_true, decide_eq_true_eq, decide_eq_true_eq]; omega) l).imp fun h => of_decide_eq_true h
def qU' (K : PySem.W.Frag) : List V -> Hp -> VK -> Prop := fun vs H Q => j5' vs H Q \/ rSortedI K vs H Q \/ rSortedS K vs H Q
theorem iA' {X : Cx} (hc : X.calm = true) : CallR X (.builtin "sorted") (qU' X.K) := (l8' hc).or (cr_sortedI.or cr_sortedS)
theorem j1' {s : M.Tx} {c : Nat} : c ∈ M.bY' s ↔ c ∈ s := (List.mergeSort_perm s _).mem_iff
theorem nN' {K : PySem.W.Frag} {F : Hp} {T : List Addr} : ∀ {vs : List V} {ds : List M.D} {cs : List Nat}, FzA K F T vs ds -> M.g4' ds = some cs -> vs = (cs.map nO').map V.str /\ ∀ c ∈ cs, c < 1114112
  | _, [], _, .nil, h => by cases h; exact ⟨rfl, fun _ h => nomatch h⟩
  | _, d :: ds, cs, .cons z r, h => by
    unfold M.g4' at h
    split at h
    . rename_i e
      cases e
    . rename_i c r' e
      cases e
      obtain ⟨cs', h1, rfl⟩ := Option.map_eq_some_iff.mp h
      obtain ⟨e2, h2⟩ := nN' r h1
      obtain ⟨rfl, o⟩ := z.str_inv
      refine ⟨by rw [e2]; rfl, fun c' hc => ?_⟩
      rcases List.mem_cons.mp hc with rfl | hc
      . exact o.1 _ List.mem_cons_self
      . exact h2 _ hc
    . cases h
theorem oh' : Bi1 K M.cF' (qU' K) := by
  intro F H T fp x dx dz Q f hx h k
  cases dx <;> try (cases h; done)
  . obtain ⟨rfl, o⟩ := hx.str_inv
    rename_i s
    simp only [M.cF'] at h
    split at h
    . rename_i hl
      cases h
      refine .inl ⟨_, rfl, by rw [ct']; exact hl, fun ys p H' hp hs hn s' e => ?_⟩
      obtain ⟨l', rfl, p'⟩ := nI' hp
      rw [np' p' (fu' l' hs)] at *
      have z : FzA K F T (((M.bY' s).map nO').map V.str) ((M.bY' s).map M.chD) := by
        rw [List.map_map]
        exact FzA.chars fun c hc => o.1 c (j1'.mp hc)
      have hF : F p = none := f.free hn
      have sF : Same F (upd F p (.lst (((M.bY' s).map nO').map V.str))) := cy' hF
      refine k (.ref p) H' _ sF (.lst upd_same (z.mono (.of sF))) ⟨fun a u ha => ?_, fun q hq => ?_, f.nd, f.tbs (fun a h1 h2 h3 => ?_) fun c q h => lv' sF h⟩
      . by_cases hap : a = p
        . subst hap
          rw [upd_same] at ha
          cases ha
          exact e
        . rw [upd_ne hap] at ha
          exact s' _ _ (f.low _ _ ha)
      . have np : q.1 ≠ p := ne_of_none (f.at_ q hq).1 hn
        exact ⟨s' _ _ (f.at_ q hq).1, by rw [upd_ne np]; exact (f.at_ q hq).2⟩
      . have hap : a ≠ p := fun z => h2 (by rw [z]; exact hn)
        refine ⟨by rw [upd_ne hap]; exact h1, ?_, h3⟩
        cases hh : H a with
        | none => exact absurd hh h2
        | some o => exact s' _ _ hh
    . cases h
  . obtain ⟨a, vs, rfl, ha, za⟩ := hx.lst_inv
    rename_i ds
    cases q : M.bs' ds with
    | none =>
      simp only [M.cF', q] at h
      obtain ⟨cs, h1, h2⟩ := Option.bind_eq_some_iff.mp h
      split at h2
      . rename_i hl
        cases h2
        obtain ⟨e2, hc⟩ := nN' za h1
        refine .inr (.inr ⟨a, cs.map nO', rfl, by rw [<- e2]; exact SqL.of (f.low _ _ ha), by rw [List.length_map]; exact hl, fun ys p hp hs hn => ?_⟩)
        obtain ⟨l', rfl, p'⟩ := nI' hp
        rw [np' p' (fu' l' hs)]
        have z : FzA K F T (((M.bY' cs).map nO').map V.str) ((M.bY' cs).map M.chD) := by
          rw [List.map_map]
          exact FzA.chars fun c hc' => hc c (j1'.mp hc')
        exact k.newL f z hn
      . cases h2
    | some ns =>
      simp only [M.cF', q] at h
      cases h
      refine .inr (.inl ⟨a, ns, rfl, by rw [<- jb' za q]; exact SqL.of (f.low _ _ ha), fun ns' p hp hs hn => ?_⟩)
      rw [nq' hp hs]
      exact k.newL f (FzA.rgI _) hn
theorem se' (a b : M.Tx) (i : Nat) : StrLaws.At (sx a) (sx b) (sx a).length i ↔ M.uS' a b i = true := by
  rw [<- wz', Bool.and_eq_true, decide_eq_true_eq]
  exact Iff.rfl
theorem s3' {p : Nat -> Bool} {n i : Nat} (h : p i = true) (hi : i < n) (hm : ∀ k, k < i -> p k = false) : (List.range n).find? p = some i := by
  rw [List.find?_eq_some_iff_getElem]
  refine ⟨h, i, by simpa using hi, by simp, fun j hj => ?_⟩
  rw [List.getElem_range, hm j hj]
  rfl
theorem n2' (a b : M.Tx) : Txt.find (sx a) (sx b) = M.fnd (M.n4' a b) := by
  rcases find_whole (sx a) (sx b) with ⟨h1, h2⟩ | ⟨i, h1, h2, h3⟩
  . rw [h1]
    have : M.n4' a b = none := by
      unfold M.n4'
      rw [List.find?_eq_none]
      intro i _ h
      exact h2 i ((se' a b i).mpr h)
    rw [this]
    rfl
  . rw [h1]
    have hi : M.uS' a b i = true := (se' a b i).mp h2
    have hl : i < a.length + 1 := by
      unfold M.uS' at hi
      rw [Bool.and_eq_true, decide_eq_true_eq] at hi
      omega
    have : M.n4' a b = some i := s3' hi hl fun k hk => by
      have := h3 k hk
      rw [se'] at this
      exact Bool.eq_false_iff.mpr this
    rw [this]
    rfl
theorem FzA.str1 {F : Hp} {T : List Addr} {xs : List V} {b : M.Tx} (h : FzA K F T xs [.str b]) : xs = [.str (sx b)] /\ okT b := by
  obtain ⟨v, rfl, z⟩ := h.one
  obtain ⟨rfl, o⟩ := z.str_inv
  exact ⟨rfl, o⟩
theorem yP' : MtD K M.rt' (fun x xs H Q => ∃ a b, x = .str a /\ xs = [.str b] /\ Q (.int (Txt.find a b)) H) := by
  intro F H T fp s xs ds dz Q f o hx h k
  unfold M.rt' at h
  split at h
  . obtain ⟨rfl, o2⟩ := hx.str1
    cases h
    exact ⟨_, _, rfl, rfl, by rw [n2']; exact k.here f (.int _)⟩
  . cases h
theorem oG' {a b : M.Tx} {i : Nat} (h : M.n4' a b = some i) : ∃ rest, Builtin.Str.occurrences (sx a) (sx b) 0 (sx a).length 1 = i :: rest := by
  have h1 := n2' a b
  rw [h] at h1
  unfold Txt.find at h1
  cases e : Builtin.Str.occurrences (sx a) (sx b) 0 (sx a).length 1 with
  | nil => rw [e] at h1; exact absurd h1 (by show ¬ (-1 : Int) = (i : Int); omega)
  | cons j rest =>
    rw [e] at h1
    have h2 : (j : Int) = (i : Int) := h1
    exact ⟨rest, by rw [show j = i by omega]⟩
theorem wf' : MtD K M.kl' qY' := by
  intro F H T fp s xs ds dz Q f o hx h k
  unfold M.kl' at h
  split at h
  . obtain ⟨rfl, o2⟩ := hx.str1
    rename_i b
    cases q : M.n4' s b with
    | none => rw [q] at h; cases h
    | some i =>
      rw [q] at h
      cases h
      obtain ⟨rest, e⟩ := oG' q
      exact ⟨_, _, i, rest, rfl, rfl, e, k.here f (.int _)⟩
  . cases h
def BG' : M.D -> Option Key
  | .int i => some (.inl i)
  | .str s => some (.inr (sx s))
  | _ => none
theorem hf' {d : M.D} {k : Key} (h : BG' d = some k) : kD k = d := by
  cases d <;> cases h <;> rfl
theorem kp' {F : Hp} {T : List Addr} {v : V} {d : M.D} {k : Key} (z : Fz K F T v d) (h : BG' d = some k) : v = kV k := by
  cases d <;> cases h
  . cases z; rfl
  . obtain ⟨rfl, _⟩ := z.str_inv; rfl
end
section
variable {X : Cx} {W : WX} {pos p pos' : Pos} {a b e : Expr} {ma mb : M.ME} {mo : M.MO} {σ : St} {H : Hp} {Q : VK}
theorem j2' {x : Str} (t : String) (ht : t ∈ ["bool", "int", "str", "tuple", "list", "dict"]) (hg : Gl X x) (hm : X.mg x = none) (hv : bootBuiltins x = some (.builtin "isinstance")) (ha : SE X W a ma) (hb : PE X b (tC (.ty t))) (hn : x ≠ "__name__" := by decide) (hdb : (x == ("__debug__" : Str)) = false := by decide)
    (he : starEach [a, b] X.env = (false, eval a X.env) :: starEach [b] X.env := by rfl) (he2 : starEach [b] X.env = (false, eval b X.env) :: starEach [] X.env := by rfl) (hpl : (backTo pos (starEach [b] X.env)).any (·.1) = false := by rfl) : SE X W (.Call (.Name x p) [a, b] [] pos) (M.eUn (M.cq' t) ma) :=
  PE.imp (pe_callB call_isi hg hm hv (pa_cons ha (pa_cons hb pa_nil he2) he) hn hdb he hpl) fun σ H Q ⟨ρ, F, T, fr, rel, h⟩ => by
    refine aA' rel h fun dx ρ1 v H1 F1 T1 e1 z1 r1 h1 => ?_
    obtain ⟨dz, ez, q⟩ := aW'.ofO h1
    unfold M.cq' at ez
    cases eq : M.tyn dx with
    | none => rw [eq] at ez; cases ez
    | some n =>
      rw [eq] at ez
      cases ez
      obtain ⟨fp, f, _⟩ := r1.fp
      exact AW' (uv' f.low z1 eq) (kit_ty (wk' n (vz' eq) t ht)) (q _ H1 F1 T1 e1 (.bl _) r1)
theorem c5' : SO X W (.Dict [] [] pos) M.gm' := PE.imp pe_dnewK fun σ H Q ⟨ρ, F, T, fr, rel, h⟩ => fun p hp => by
  have z : Rp X.K F T (.ref p) (.dct [] []) [(p, .dK [])] := Rp.dct (kvs := []) .nil .nil
  exact h (.ref p) _ F T _ .refl z (rel.own hp)
theorem vF' {f : M.D -> Option M.D} {r : List V -> Hp -> VK -> Prop} {x : Str} {id : String} (hc : CallR X (.type id) r)
    (hf : ∀ {F H : Hp} {T : List Addr} {v : V} {d : M.D} {ds : List M.D} {Q : VK}, Same F H -> Fz X.K F T v d -> f d = some (.lst ds) -> (∀ l ws, H l = none -> FzA X.K F T ws ds -> Q (.ref l) (upd H l (.lst ws))) -> r [v] H Q)
    (hg : Gl X x) (hm : X.mg x = none) (hv : bootBuiltins x = some (.type id)) (ha : SE X W a ma) (hn : x ≠ "__name__" := by decide) (hdb : (x == ("__debug__" : Str)) = false := by decide)
    (he : starEach [a] X.env = (false, eval a X.env) :: starEach [] X.env := by rfl) (hpl : (backTo pos (starEach [] X.env)).any (·.1) = false := by rfl) : SO X W (.Call (.Name x p) [a] [] pos) (M.jp' (M.eUn f ma)) :=
  PE.imp (pe_callTy hc hg hm hv (pa_cons ha pa_nil he) hn hdb he hpl) fun σ H Q ⟨ρ, F, T, fr, rel, h⟩ => by
    have h0 := aW'.bind h
    refine aA' rel h0 fun dx ρ1 v H1 F1 T1 e1 z1 r1 h1 => ?_
    obtain ⟨dz, ez, q⟩ := aW'.ofO h1
    cases dz <;> try exact q.elim
    rename_i ds
    obtain ⟨fp, f1, _⟩ := r1.fp
    refine hf f1.low z1 ez fun l ws hl zw => ?_
    exact q (.ref l) _ F1 T1 _ e1 (.lst (RpA.of_fz zw)) (r1.own hl)
theorem to' {K : PySem.W.Frag} {F H : Hp} {T : List Addr} {v : V} {d : M.D} {ds : List M.D} {Q : VK} (s : Same F H) (z : Fz K F T v d) (h : M.eS' d = some (.lst ds)) (k : ∀ l ws, H l = none -> FzA K F T ws ds -> Q (.ref l) (upd H l (.lst ws))) : qW' K [v] H Q := by
  cases d <;> try (cases h; done)
  . obtain ⟨rfl, o⟩ := z.str_inv
    cases h
    exact .inr ⟨_, rfl, o.len, fun l hl => k l _ hl (FzA.signs o)⟩
  . obtain ⟨a, vs, rfl, ha, za⟩ := z.tup_inv
    cases h
    exact .inl ⟨a, vs, rfl, .inr (seqT s ha), fun l hl => k l vs hl za⟩
  . obtain ⟨a, vs, rfl, ha, za⟩ := z.lst_inv
    cases h
    exact .inl ⟨a, vs, rfl, .inl (SqL.of (s _ _ ha)), fun l hl => k l vs hl za⟩
theorem FzA.rg {K : PySem.W.Frag} {F : Hp} {T : List Addr} (a b : Int) : FzA K F T (rgV a b) (M.e5' a b) := FzA.of_all fun i => .int _
theorem Bi' {a b : Int} (h : M.RgB a b = true) : RgOk a b := by
  unfold M.RgB at h
  simp only [Bool.and_eq_true, decide_eq_true_eq] at h
  exact ⟨h.1.1.1.1, h.1.1.1.2, h.1.1.2, h.1.2, h.2⟩
theorem ow' {q : Pos} (hc : X.calm = true) (hg : Gl X "list") (hm : X.mg "list" = none) (hg2 : Gl X "range") (hm2 : X.mg "range" = none) (ha : SE X W a ma)
    (na2 : starEach [a] X.env = (false, eval a X.env) :: starEach [] X.env := by rfl) (na : starEach [.Call (.Name "range" q) [a] [] pos'] X.env = (false, eval (.Call (.Name "range" q) [a] [] pos') X.env) :: starEach [] X.env := by rfl) :
    SO X W (.Call (.Name "list" p) [.Call (.Name "range" q) [a] [] pos'] [] pos) (M.jp' (M.eUn M.eR' ma)) :=
  PE.imp (pe_listRg hc hg hm (prg_1 hg2 hm2 ha na2) na) fun σ H Q ⟨ρ, F, T, fr, rel, h⟩ => by
    have h0 := aW'.bind h
    refine aA' rel h0 fun dx ρ1 v H1 F1 T1 e1 z1 r1 h1 => ?_
    obtain ⟨dz, ez, q⟩ := aW'.ofO h1
    unfold M.eR' at ez
    split at ez
    . split at ez
      . rename_i hr
        cases ez
        refine ⟨_, z1.int_inv, Bi' hr, fun l hl => ?_⟩
        exact q (.ref l) _ F1 T1 _ e1 (.lst (RpA.of_fz (FzA.rg _ _))) (r1.own hl)
      . cases ez
    . cases ez
theorem RpA.erase {K : PySem.W.Frag} {F : Hp} {T : List Addr} {y : M.D} : ∀ {os : List M.O} {vs : List V} {f2 : Fp} {j : Nat}, RpA K F T vs os f2 -> os[j]? = some (.fz y) -> ∃ v, vs[j]? = some v /\ Fz K F T v y /\ RpA K F T (vs.eraseIdx j) (os.eraseIdx j) f2
  | [], _, _, _, r, h => by cases h
  | o :: os, _, _, 0, r, h => by
    cases r with
    | cons r0 r =>
      cases h
      cases r0 with
      | fz z => exact ⟨_, rfl, z, r⟩
  | o :: os, _, _, j + 1, r, h => by
    cases r with
    | cons r0 r =>
      obtain ⟨v, h1, h2, h3⟩ := RpA.erase (j := j) r h
      exact ⟨v, h1, h2, .cons r0 h3⟩
theorem sT' {n : Nat} {nm : Str} {px apos : Pos} (hv : PE X (.Name nm px) (tVar n)) (ha : SE X W a ma)
    (hbase : attributeBase (.Name nm px) "pop" X.env (eval (.Name nm px) X.env) = eval (.Name nm px) X.env := by rfl)
    (hfew : ((backTo pos (starEach [a] X.env)).all (fun x => !x.1) && (backToKw pos (keywordEach [] X.env)).all (fun x => x.1.isSome)
      && decide ([a].length + ([] : List Keyword).length + (if ([] : List Keyword).isEmpty then 0 else 1) < 30)) = true := by rfl)
    (hline : (apos.endLine == pos.line) = true := by rfl) (hs : starEach [a] X.env = (false, eval a X.env) :: starEach [] X.env := by rfl) (hplain : (backTo pos (starEach [] X.env)).any (·.1) = false := by rfl) :
    SE X W (.Call (.Attribute (.Name nm px) "pop" apos) [a] [] pos) (M.kC' n ma) :=
  PE.imp (pe_bm PySem.F.plainAttrs_list PySem.F.slot_list_pop PySem.F.type_list_pop mt_popAt hv (pa_cons ha pa_nil hs) hbase hfew hline hs hplain) fun σ H Q ⟨ρ, F, T, fr, rel, h⟩ => by
    unfold M.kC' at h
    split at h
    . rename_i os0 e0
      obtain ⟨fe, fw, re, rw, ff⟩ := id rel
      obtain ⟨v, f1, f2, f3, h1, _, h3, _⟩ := re.get e0
      cases h3 with
      | @lst p vs0 _ fp0 r0 =>
        obtain ⟨vs1, f21, hH, _, _⟩ := rel.slotW e0 h1
        refine ⟨.ref p, h1, .inl ⟨rfl, vs1, SqL.of hH⟩, aA' rel h fun d ρ1 u H1 F1 T1 e1 z1 r1 h2 => ?_⟩
        split at h2
        . rename_i os z e2
          split at h2
          . rename_i j ej
            split at h2
            . rename_i y ey
              cases z1
              obtain ⟨vs, f2', hH2, r2, back⟩ := r1.slotW e2 h1
              obtain ⟨vy, g1, g2, g3⟩ := RpA.erase r2 ey
              split at ej
              . rename_i hl
                have hlen : vs.length <= M.dp' := by rw [r2.length]; exact hl
                have ej' : ixN vs.length z = some j := by rw [r2.length]; exact ej
                obtain ⟨q1, q2, q3, q4⟩ := ixN_seq ej'
                have hlen' : vs.length <= 16777216 := hlen
                exact ⟨p, vs, z, j, vy, rfl, rfl, hH2, by omega, by omega, q1, g1, h2 vy _ F1 T1 e1 g2 (back _ _ f2' fr g3 .refl)⟩
              . cases ej
            . exact h2.elim
          . exact h2.elim
        . exact h2.elim
    . exact h.elim
end
end S
namespace S
open PySem PySem.Spec PyProof.Rows L2
variable [Wd] [Hot]
section
variable {X : Cx} {W : WX} {K : PySem.W.Frag} {D : Ends} {σ : St} {H : Hp} {F : Hp} {T : List Addr} {fr : Fp}
abbrev Hm := List ((String -> Option Bool) × (M.Exc -> M.MS))
def tsM (K : PySem.W.Frag) (h : M.Exc -> M.MS) : Addr -> Value -> Option Addr -> TS := fun _ cls _ D σ H => ∃ e : M.Exc, cls = .ref (He.ga K e.cls) /\ qS K W0 (h e) D σ H
inductive HdsM (X : Cx) : List ExceptHandler -> Hm -> List (Value × (Addr -> Value -> Option Addr -> TS)) -> Prop
  | nil : HdsM X [] [] []
  | cons {x : Str} {c : Value} {g : String -> Option Bool} {h : M.Exc -> M.MS} {b₀ : Stmt} {suite : List Stmt} {np pos' : Pos} {hds : List ExceptHandler} {l : Hm} {l' : List (Value × (Addr -> Value -> Option Addr -> TS))} (hc : Names X x c)
      (hg : ∀ y b, g y = some b -> PySem.W.exmOne X.K (.ref (He.ga X.K y)) c = some b)
      (hsu : ∀ (e : M.Exc) (a : Addr) (oe : Obj) (d : Option Addr) (pn : List (Addr × Obj)), Zc (.ref (He.ga X.K e.cls)) d oe -> (∃ vs, oe.data = .fields vs) -> SSs (X.suite a ((a, oe) :: pn)) W0 (b₀ :: suite) (h e)) (r : HdsM X hds l l') :
      HdsM X (.ExceptHandler (some (.Name x np)) none (b₀ :: suite) pos' :: hds) ((g, h) :: l) ((c, tsM X.K h) :: l')
theorem nm' {h : M.Exc -> M.MS} {b : List Stmt} (hsu : ∀ (e : M.Exc) (a : Addr) (oe : Obj) (d : Option Addr) (pn : List (Addr × Obj)), Zc (.ref (He.ga X.K e.cls)) d oe -> (∃ vs, oe.data = .fields vs) -> SSs (X.suite a ((a, oe) :: pn)) W0 b (h e)) :
    ∀ (a : Addr) (oe : Obj) (cls : Value) (d : Option Addr) (pn : List (Addr × Obj)), Zc cls d oe -> (∃ vs, oe.data = .fields vs) -> PSs (X.suite a ((a, oe) :: pn)) b (tsM X.K h a cls d) := by
  intro a oe cls d pn hz hf
  refine ⟨fun pins s σ H D I q => ?_⟩
  obtain ⟨e, rfl, q⟩ := q
  exact (hsu e a oe d pn hz hf).run pins s σ H D I q
theorem HdsM.ok {hds : List ExceptHandler} {l : Hm} {l' : List (Value × (Addr -> Value -> Option Addr -> TS))} (h : HdsM X hds l l') : HdsOk X hds l' := by
  induction h with
  | nil => exact .nil
  | cons hc hg hsu r ih => exact .cons hc (nm' hsu) ih
theorem bw'.noX {r : M.Out} (h : bw' K W D F T fr (M.tm' r)) : bw' K W0 D F T fr r := by
  cases r with
  | exc x ρ => exact h.elim
  | nx ρ => exact h
  | bk ρ => exact h
  | ct ρ => exact h
  | rt o w => exact h
  | bad => exact h
theorem Rel.off {K : PySem.W.Frag} {ρ : M.PSt} (r : Rel K ρ σ H F T fr) (i : Nat) (x : Option V) : Rel K ⟨ρ.env.set i none, ρ.w⟩ (σ.set i x) H F T fr := by
  obtain ⟨fe, fw, re, rw, f⟩ := r
  obtain ⟨fq, h1, h2⟩ := re.drop i x
  exact ⟨fq, fw, h1, rw, f.part (.app h2 .refl)⟩
end
def Ag' (K : PySem.W.Frag) (t : M.ET) : Prop := ∀ e ∈ t, PySem.W.exmOne K (.ref (He.ga K e.1)) (.ref (He.ga K e.2.1)) = some e.2.2
theorem uA' {K : PySem.W.Frag} : ∀ {t : M.ET} (h : Ag' K t) {y c : String} {b : Bool}, M.sub t y c = some b -> PySem.W.exmOne K (.ref (He.ga K y)) (.ref (He.ga K c)) = some b
  | [], _, _, _, _, e => by cases e
  | (a, b', r) :: t, h, y, c, b, e => by
    unfold M.sub at e
    split at e
    . rename_i q
      obtain ⟨rfl, rfl⟩ := q
      cases e
      exact h _ List.mem_cons_self
    . exact uA' (fun e he => h e (List.mem_cons_of_mem _ he)) e
def t6' (K : PySem.W.Frag) (t : M.ET) : Prop := ∀ e ∈ t, ExcC K (He.ga K e.1) /\ PySem.W.kitOne K (.ref (He.ga K e.1)) (.ref (He.ga K e.2.1)) = some e.2.2
theorem uP' {K : PySem.W.Frag} : ∀ {t : M.ET} (h : t6' K t) {y c : String} {b : Bool}, M.sub t y c = some b -> ExcC K (He.ga K y) /\ PySem.W.kitOne K (.ref (He.ga K y)) (.ref (He.ga K c)) = some b
  | [], _, _, _, _, e => by cases e
  | (a, b', r) :: t, h, y, c, b, e => by
    unfold M.sub at e
    split at e
    . rename_i q
      obtain ⟨rfl, rfl⟩ := q
      cases e
      exact h _ List.mem_cons_self
    . exact uP' (fun e he => h e (List.mem_cons_of_mem _ he)) e
end S
namespace S
open PySem PySem.Spec PyProof.Rows L2
variable [Wd] [Hot]
section
variable {X : Cx} {W : WX} {pos p : Pos} {a b e : Expr} {st : Stmt} {es : List Expr} {ma mb : M.ME} {as : M.MA}
theorem qw' {i : Nat} (h : PE X e (tVar i)) : SO X W e (M.oV i) := PE.imp h fun σ H Q ⟨ρ, F, T, fr, rel, h⟩ => by
  unfold M.oV at h
  split at h
  . rename_i d e
    obtain ⟨fe, fw, re, rw, f⟩ := id rel
    obtain ⟨v, f1, f2, f3, h1, rfl, h3, h4, h5⟩ := re.get e
    cases h3 with
    | fz z => exact ⟨v, h1, h v H F T [] .refl (.fz z) rel⟩
  . exact h.elim
  . exact h.elim
  . rename_i o _ hne hnc e
    obtain ⟨fe, fw, re, rw, f⟩ := rel
    obtain ⟨v, f1, f2, f3, h1, rfl, h3, h4, h5⟩ := re.get e (M.ds' (fun z => hne (by rw [z])) fun z => hnc (by rw [z]))
    refine ⟨v, h1, h v H F T f2 .refl h3 ⟨_, fw, h4, rw, f.part ?_⟩⟩
    constructor
    . intro e h
      simp only [List.mem_append] at *
      grind
    . intro x
      simp only [keys, List.map_append, List.count_append] at *
      omega
  . exact h.elim
theorem d6' (h : SA X W es as) : SO X W (.List es pos) (M.jp' (M.jf' as)) := PE.imp (pe_lst h) fun σ H Q ⟨ρ, F, T, fr, rel, h⟩ => by
  have h0 := aW'.bind h
  refine c7' rel h0 fun ds ρ1 vs H1 F1 T1 e1 z1 r1 h1 => ?_
  split at h1
  . rename_i hl
    refine ⟨by rw [z1.length, bM']; exact hl, fun p hp => ?_⟩
    exact h1 (.ref p) _ F1 T1 _ e1 (.lst (RpA.of_fz z1)) (r1.own hp)
  . exact h1.elim
theorem lk' : SS X W st M.Aq' := ⟨fun _ _ _ _ _ _ ⟨_, _, _, _, _, h⟩ => h.elim⟩
end
section
variable {K : PySem.W.Frag} {F : Hp} {T : List Addr}
theorem kA' : ∀ (ds : List M.D) (k : Nat), (M.eu' k ds).length = ds.length
  | [], _ => rfl
  | _ :: ds, k => congrArg (· + 1) (kA' ds (k + 1))
theorem kB' : ∀ (ds : List M.D) (k i : Nat) (d : M.D), (M.eu' k ds)[i]? = some d -> ∃ x, ds[i]? = some x /\ d = .tup [.int ((k + i : Nat) : Int), x]
  | [], _, i, d, h => by simp [M.eu'] at h
  | x :: ds, k, 0, d, h => ⟨x, rfl, (Option.some.inj h).symm⟩
  | x :: ds, k, i + 1, d, h => by
    obtain ⟨y, h1, h2⟩ := kB' ds (k + 1) i d h
    exact ⟨y, h1, by rw [h2, show k + 1 + i = k + (i + 1) by omega]⟩
theorem y5' {J : It} {ds : List M.D} (hs : ∀ F' T' H' fp i, Ext F T F' T' -> FpH F' H' fp -> i = ds.length -> J.stop i H')
    (hy : ∀ F' T' H' fp i dx, Ext F T F' T' -> FpH F' H' fp -> ds[i]? = some dx -> J.go i H' /\ ∀ v H2, J.yld i H' v H2 -> ∃ p x, v = .ref p /\ H' p = none /\ H2 = upd H' p (.tup [.int (i : Nat), x]) /\ Fz K F' T' x dx) : jt' K J (M.eu' 0 ds) F T := fun F' T' H' fp i e f hi => by
  rw [kA'] at hi ⊢
  refine ⟨fun q => hs F' T' H' fp i e f q, fun d hd => ?_⟩
  obtain ⟨dx, h1, rfl⟩ := kB' _ _ _ _ hd
  obtain ⟨g, y⟩ := hy F' T' H' fp i dx e f h1
  refine ⟨g, fun v H2 q => ?_⟩
  obtain ⟨p, x, rfl, hp, rfl, zx⟩ := y v H2 q
  have s : Same F' (upd F' p (.tup [.int (i : Nat), x])) := cy' (f.free hp)
  refine ⟨_, s, .tup (SqT.of upd_same) (.cons ?_ (.cons (zx.mono (.of s)) .nil)), f.new hp⟩
  rw [Nat.zero_add]
  exact .int _
theorem y3' {s : M.Tx} (o : okT s) : jt' K (ItP (fun i => some (.int (i : Nat))) (chS (sx s)) (sx s).cps.size) (M.eu' 0 (s.map M.chD)) F T := by
  have e1 : (sx s).cps.size = s.length := ct' s
  refine y5' (fun F' T' H' fp i e f hi => ?_) fun F' T' H' fp i dx e f h1 => ?_
  . rw [List.length_map] at hi
    show i = (sx s).cps.size
    omega
  . rw [List.getElem?_map] at h1
    cases q1 : s[i]? with
    | none => rw [q1] at h1; cases h1
    | some c =>
      rw [q1] at h1
      cases h1
      have l1 := (List.getElem?_eq_some_iff.mp q1).1
      refine ⟨by show i < (sx s).cps.size; omega, fun v H2 y => ?_⟩
      obtain ⟨p, x, y', rfl, hp, rfl, c1, c2⟩ := y
      cases c1
      unfold chS at c2
      rw [eE', q1] at c2
      cases c2
      exact ⟨p, _, rfl, hp, rfl, oM' (o.1 c (List.mem_of_getElem? q1))⟩
theorem y4' {a : Addr} {vs : List V} {ds : List M.D} (ha : F a = some (.lst vs)) (z : FzA K F T vs ds) : jt' K (Ite K a) (M.eu' 0 ds) F T := by
  refine y5' (fun F' T' H' fp i e f hi => ?_) fun F' T' H' fp i dx e f h1 => ?_
  . exact ⟨vs, SqL.of (f.low _ _ (e.f.lst ha)), by rw [z.length]; omega⟩
  . obtain ⟨x, x1, x2⟩ := z.get h1
    have a1 : SqL K H' a vs := SqL.of (f.low _ _ (e.f.lst ha))
    refine ⟨⟨vs, x, a1, x1⟩, fun v H2 q => ?_⟩
    obtain ⟨p, x', rfl, hp, rfl, q1⟩ := q
    have := q1 vs a1
    rw [x1] at this
    cases this
    exact ⟨p, _, rfl, hp, rfl, x2.mono e⟩
end
section
variable {X : Cx} {W : WX} {pos p tpos : Pos} {a : Expr} {ma : M.ME} {σ : St} {H : Hp} {elts : List Expr} {kk : Nat}
theorem nl' {K : PySem.W.Frag} {m : M.ME} {ρ ρ1 : M.PSt} {F : Hp} {T : List Addr} {fr : Fp} {d : M.D} {R : List V -> Hp -> Prop} (rel : Rel K ρ σ H F T fr) (em : m ρ = .ok d ρ1) (h : ∀ v H' F' T', Ext F T F' T' -> Fz K F' T' v d -> Rel K ρ1 σ H' F' T' fr -> R [v] H') : tCons (qE K W m) tNil σ H R :=
  ⟨ρ, F, T, fr, rel, by rw [em]; exact h⟩
theorem vH' (hg : Gl X "enumerate") (hm : X.mg "enumerate" = none) (h : SE X W a ma) (hs : starEach [a] X.env = [(false, eval a X.env)] := by rfl) : SI X W (.Tuple elts kk tpos) (.Call (.Name "enumerate" p) [a] [] pos) (M.rP' ma) :=
  PI.imp (s7' (s8' hg hm (pa_cons h pa_nil hs) hs) (pi_enum hg hm (pa_cons h pa_nil hs) hs)) fun σ H R ⟨ρ, F, T, fr, rel, q⟩ => by
    have q2 := aW'.bind q
    cases em : ma ρ with
    | bad => rw [em] at q2; exact q2.elim
    | exc x ρ1 =>
      rw [em] at q2
      exact .inl ⟨ρ, F, T, fr, rel, by rw [em]; exact q2⟩
    | ok d ρ1 =>
      rw [em] at q2
      obtain ⟨ds, e1, q3⟩ := aW'.ofO (show aW' _ _ _ from q2)
      cases d <;> try (cases e1; done)
      . cases e1
        refine .inl (nl' rel em fun v H' F' T' e z r => ?_)
        obtain ⟨rfl, o⟩ := z.str_inv
        exact ⟨_, rfl, q3 _ _ _ _ e (y3' o) r⟩
      . cases e1
        refine .inr (nl' rel em fun v H' F' T' e z r => ?_)
        obtain ⟨p, vs, rfl, ha, za⟩ := z.lst_inv
        obtain ⟨fp, f, _⟩ := r.fp
        exact ⟨p, vs, rfl, SqL.of (f.low _ _ ha), q3 _ _ _ _ e (y4' ha za) r⟩
end
theorem zf' {K : PySem.W.Frag} {F : Hp} {T : List Addr} {x : Str} {s : M.Tx} (hs : x = sx s) (ho : Az' s = true) : Fz K F T (.str x) (.str s) := by subst hs; exact .str (uM' ho)
end S
namespace S
open PySem PySem.Spec PyProof.Rows L2
variable [Wd] [Hot]
section
variable {X : Cx} {W : WX} {K : PySem.W.Frag} {pos p : Pos} {a b : Expr} {ma : M.ME} {F H : Hp} {T : List Addr}
theorem RpA.datas : ∀ {vs : List V} {os : List M.O} {fp : Fp}, RpA K F T vs os fp -> os.all (fun o => match o with | .fz _ => true | _ => false) = true -> FzA K F T vs (os.map M.frz)
  | _, _, _, .nil, _ => .nil
  | _, _, _, .cons r0 r, h => by
    rw [List.all_cons, Bool.and_eq_true] at h
    cases r0 with
    | fz z => exact .cons z (RpA.datas r h.2)
    | _ => exact absurd h.1 (by simp)
theorem wC' {neg : Bool} {x : V} {dx dz : M.D} {o : M.O} {v : V} {f2 fp : Fp} {Q : VK} (f : FpH F H (f2 ++ fp)) (hx : Fz K F T x dx) (r : Rp K F T v o f2)
    (h : (if neg = true then M.rj' (M.inO dx o) else M.inO dx o) = some dz) (k : ∀ v' H' F' , Same F F' -> Fz K F' T v' dz -> FpH F' H' (f2 ++ fp) -> Q v' H') : (if neg = true then iT' K x v H Q else As' K x v H Q) := by
  cases r with
  | @fz v d z =>
    cases neg with
    | false =>
      rw [if_neg Bool.false_ne_true] at h ⊢
      exact th' f hx z h k
    | true =>
      rw [if_pos rfl] at h ⊢
      refine lE' f hx z (dz := dz) ?_ k
      unfold M.g2'
      cases e : M.pIn dx d with
      | none => simp [M.inO, e, M.rj'] at h
      | some y =>
        simp only [M.inO, e] at h
        cases y <;> first | exact h | cases h
  | @lst pa vs os fp0 r =>
    have hH : H pa = some (.lst vs) := (f.at_ (pa, .lst vs) (by simp)).1
    have main : ∀ {dz : M.D}, M.inO dx (.lst os) = some dz -> ∃ ds, M.sca dx = true /\ ds.all M.sca = true /\ FzA K F T vs ds /\ dz = .bl (ds.any fun d => M.eqb d dx) := by
      intro dz h
      have h : (if os.all (fun o => match o with | .fz _ => true | _ => false) = true then M.pIn dx (.lst (os.map M.frz)) else none) = some dz := h
      split at h
      . rename_i hd
        rcases jd' h with ⟨c, s, _, e, _⟩ | ⟨ds, e, h1, h2, h3⟩
        . cases e
        . rcases e with e | e
          . cases e
            exact ⟨_, h1, h2, r.datas hd, h3⟩
          . cases e
      . cases h
    cases neg with
    | false =>
      rw [if_neg Bool.false_ne_true] at h ⊢
      obtain ⟨ds, h1, h2, za, rfl⟩ := main h
      obtain ⟨e1, e2⟩ := lQ' hx h1 za h2
      refine .inr (.inl ⟨pa, vs, rfl, .inl (SqL.of hH), it' hx h1, e2, ?_⟩)
      rw [if_neg Bool.false_ne_true, e1]
      exact k _ H F (fun _ _ e => e) (.bl _) f
    | true =>
      rw [if_pos rfl] at h ⊢
      cases e : M.inO dx (.lst os) with
      | none => rw [e] at h; cases h
      | some y =>
        obtain ⟨ds, h1, h2, za, rfl⟩ := main e
        rw [e] at h
        cases h
        obtain ⟨e1, e2⟩ := lQ' hx h1 za h2
        refine .inr (.inl ⟨pa, vs, rfl, .inl (SqL.of hH), it' hx h1, e2, ?_⟩)
        rw [if_pos rfl, e1]
        exact k _ H F (fun _ _ e => e) (.bl _) f
  | tup r => cases neg <;> cases h
  | dct _ r => cases neg <;> cases h
  | dcl _ r => cases neg <;> cases h
  | dcn _ _ r => cases neg <;> cases h
theorem tA' {neg : Bool} {i : Nat} {σ : St} {H : Hp} {Q : VK} (h : qE K W (if neg = true then M.fM' i ma else M.DD' i ma) σ H Q) : tOp (fun x y H Q => if neg = true then iT' K x y H Q else As' K x y H Q) (qE K W ma) (tVar i) σ H Q := by
  obtain ⟨ρ, F, T, fr, rel, h⟩ := h
  have h' : aW' ((ma ρ).bind fun x ρ1 => match ρ1.env[i]? with
    | some (some o) => M.ofO (if neg = true then M.rj' (M.inO x o) else M.inO x o) ρ1
    | _ => .bad) (fun d ρ' => ∀ v H' F' T', Ext F T F' T' -> Fz K F' T' v d -> Rel K ρ' σ H' F' T' fr -> Q v H') (EX K W σ F T fr) := by
    cases neg <;> exact h
  refine aA' rel h' fun dx ρ1 v H1 F1 T1 e1 z1 r1 h1 => ?_
  split at h1
  . rename_i o e
    obtain ⟨dz, ez, q⟩ := aW'.ofO h1
    obtain ⟨fe, fw, re, rw, f⟩ := r1
    obtain ⟨u, f1, f2, f3, g1, rfl, g3, g4, g5⟩ := re.get e (M.ds' (fun z => by rw [z] at ez; cases neg <;> exact nomatch (show (none : Option M.D) = some dz from ez)) fun z => by rw [z] at ez; cases neg <;> exact nomatch (show (none : Option M.D) = some dz from ez))
    refine ⟨u, g1, ?_⟩
    have f' : FpH F1 H1 (f2 ++ (f1 ++ (f3 ++ (fw ++ fr)))) := f.part (by
      constructor
      . intro e h
        simp only [List.mem_append] at *
        grind
      . intro x
        simp only [keys, List.map_append, List.count_append] at *
        omega)
    refine wC' f' z1 g3 ez fun v' H' F' s zz ff => ?_
    refine q v' H' F' T1 (e1.trans (.of s)) zz ⟨_, fw, re.mono (.of s), rw.mono (.of s), ff.part ?_⟩
    constructor
    . intro e h
      simp only [List.mem_append] at *
      grind
    . intro x
      simp only [keys, List.map_append, List.count_append] at *
      omega
  . exact h1.elim
end
def xs' [Wd] (H : Hp) : Hp := fun b => if b ∈ Wd.ts.map (·.1) then none else H b
theorem rk' [Wd] (H : Hp) : Same (xs' H) H := fun b o h => by
  unfold xs' at h
  split at h
  . cases h
  . exact h
theorem rl' [Wd] {H : Hp} (hT : ∀ p ∈ Wd.ts, H p.1 = some (.tbl #[])) {b : Addr} {o : HO} (h : H b = some o) (ho : o ≠ .tbl #[]) : xs' H b = some o := by
  unfold xs'
  rw [if_neg fun z => ?_]
  . exact h
  . obtain ⟨p, hp, e⟩ := List.mem_map.mp z
    have := hT p hp
    rw [e, h] at this
    exact ho (Option.some.inj this)
theorem tn' [Wd] {K : PySem.W.Frag} {H : Hp} (hT : ∀ p ∈ Wd.ts, H p.1 = some (.tbl #[])) {a : Addr} {vs : List V} (h : SqL K H a vs) : SqL K (xs' H) a vs := by
  rcases h with (h | ⟨o, h⟩) | h
  . exact .inl (.inl (rl' hT h (by intro z; cases z)))
  . exact .inl (.inr ⟨o, rl' hT h (by intro z; cases z)⟩)
  . exact .inr h
theorem rG' [Wd] (K : PySem.W.Frag) (H : Hp) (hT : ∀ p ∈ Wd.ts, H p.1 = some (.tbl #[])) (a : Addr) (ns : List Int) (hn : ns.length <= 63) (hs : SqL K H a (ns.map V.int)) {m : M.MF} (h : ∀ ns : List Int, ns.length <= 63 -> ∃ w, m [.scr (ns.map .int)] [] = .ok (.fz (.bl true)) w) :
    spM K m [.ref a] H (fun v _ => v = .bl true) L2.E0 := by
  obtain ⟨w, e⟩ := h ns hn
  refine ⟨[.scr (ns.map .int)], [], xs' H, [], [], .cons (.scr (tn' hT hs) (FzA.rgI ns)) .nil, ⟨[], [], xt', .nil, ⟨rk' H, fun _ h => (nomatch h), .nil, fun p hp => ⟨if_pos (List.mem_map_of_mem hp), fun _ h => (nomatch h), #[], hT p hp, True.intro, fun pos cv hc => ?_⟩⟩⟩, ?_⟩
  . have z : codeAmong pos [] = some cv := hc
    simp [codeAmong] at z
  rw [e]
  intro v H' F' T' fp _ z _
  cases z with
  | fz z => exact z.bl_inv
end S
namespace S
open PySem PySem.Spec PyProof.Rows L2
variable [Wd] [Hot]
section
variable {X : Cx} {W : WX} {K : PySem.W.Frag} {cpos apos p : Pos} {name : Str} {id T : String} {o e : Expr} {es : List Expr} {mo : M.ME} {as : M.MA} {σ : St} {H : Hp} {Q : VK}
end
end S
namespace S
open PySem PySem.Spec PyProof.Rows L2
variable [Wd] [Hot]
section
variable {X : Cx} {W : WX} {K : PySem.W.Frag}
theorem FzA.two {F : Hp} {T : List Addr} {xs : List V} {d e : M.D} (h : FzA K F T xs [d, e]) : ∃ v u, xs = [v, u] /\ Fz K F T v d /\ Fz K F T u e := by
  cases h with
  | cons a r =>
    cases r with
    | cons b r => cases r; exact ⟨_, _, rfl, a, b⟩
end
end S
namespace S
open PySem PySem.Spec PyProof.Rows L2
variable [Wd] [Hot]
section
variable {P : Program} {w : World} {K : PySem.W.Frag} {mg : Str -> Option Value} {base : Heap}
end
section
variable {X : Cx} {W : WX} {K : PySem.W.Frag}
end
end S
namespace S
open PySem PySem.Spec PyProof.Rows L2
variable [Wd] [Hot]
local macro_rules | `(tactic| walk_at "parts") => `(tactic| (constructor; (intro e h; simp only [List.mem_append, List.mem_cons, List.not_mem_nil] at *; grind); (intro x; simp only [keys, List.map_append, List.map_cons, List.map_nil, List.count_append, List.count_cons, List.count_nil] at *; omega)))
section
variable {K : PySem.W.Frag} {F F' H H' : Hp} {T T' : List Addr} {fp fq fr : Fp} {ρ : M.PSt} {σ : St} {W : WX} {Q : VK}
theorem kt' {d : M.D} (h : M.isK d = true) : ∃ k, BG' d = some k := by cases d <;> first | exact ⟨_, rfl⟩ | (cases h)
theorem RpA.dget {vs : List V} {os : List M.O} {ks : List M.D} {dk : M.D} (h : RpA K F T vs os fp) : (M.dget ks vs dk).isSome = (M.dget ks os dk).isSome /\ ∀ d, M.dget ks os dk = some (.fz d) -> ∃ u, M.dget ks vs dk = some u /\ Fz K F T u d := by
  unfold M.dget
  cases M.gA' ks dk with
  | none => exact ⟨rfl, fun d e => nomatch e⟩
  | some j =>
    simp only [Option.bind_some]
    refine ⟨?_, fun d e => h.get e⟩
    rw [Bool.eq_iff_iff, Option.isSome_iff_exists, Option.isSome_iff_exists]
    constructor
    . rintro ⟨x, e⟩
      exact ⟨_, List.getElem?_eq_getElem (h.length ▸ (List.getElem?_eq_some_iff.mp e).1)⟩
    . rintro ⟨x, e⟩
      exact ⟨_, List.getElem?_eq_getElem (h.length ▸ (List.getElem?_eq_some_iff.mp e).1)⟩
theorem ir' {kvs : List (Key × V)} (k : Key) : Paired (fun p d => M.eqb d (kD k) = decide (p.1 = k)) kvs (kvs.map fun p => kD p.1) := by
  induction kvs with
  | nil => exact .nil
  | cons p kvs ih => exact .cons (uW' p.1 k) ih
theorem gB' {ks : List M.D} {k : M.D} (h : M.rJ' ks k = true) : M.kat k = true /\ M.dep k <= 8 /\ ∀ d ∈ ks, M.sca d = M.sca k := by
  unfold M.rJ' at h
  rw [Bool.and_eq_true, Bool.and_eq_true, decide_eq_true_iff, List.all_eq_true] at h
  exact ⟨h.1.1, h.1.2, fun d hd => by simpa using h.2 d hd⟩
theorem u6' {xs : List (NestedKey × Addr × V)} {ks : List M.D} (s : Same F H) (n : NestKeys ks xs) (z : FzA K F T (xs.map fun x => .ref x.2.1) ks) : xk' K H xs := by
  obtain ⟨e, q⟩ := n
  induction xs generalizing ks with
  | nil => exact fun _ z => nomatch z
  | cons x xs ih =>
    cases z with
    | @cons _ _ d ds z1 z2 =>
      simp only [List.map_cons, List.cons.injEq] at e
      obtain ⟨q1, q2, q3⟩ := q d (by simp)
      intro y hy
      rcases List.mem_cons.mp hy with rfl | hy
      . have := z1.nk s q1
        rw [<- e.1] at this
        refine ⟨this, ?_⟩
        rw [e.1, i6' d q1]
        exact q2
      . exact ih z2 e.2 (fun d hd => q d (by simp [hd])) y hy
theorem nB' {y : V} {dk : M.D} (z : Fz K F T y dk) (h1 : M.kat dk = true) (h2 : M.sca dk = false) : ∃ b, y = .ref b := by
  cases z with
  | tup _ _ => exact ⟨_, rfl⟩
  | non => cases h2
  | bl _ => cases h2
  | int _ => cases h2
  | str _ => cases h2
  | _ => cases h1
theorem nQ' {y : V} {dk : M.D} (s : Same F H) (z : Fz K F T y dk) (h1 : M.kat dk = true) (h3 : M.dep dk <= 8) : NkV K H y (nk dk) /\ (nk dk).depth <= 8 := ⟨z.nk s h1, by rw [i6' dk h1]; exact h3⟩
theorem gF' {xs : List (NestedKey × Addr × V)} {ks : List M.D} {dk : M.D} (n : NestKeys ks xs) (h : M.kat dk = true) : Paired (fun p d => M.eqb d dk = decide (p.1 = nk dk)) (xsV xs) ks := by
  refine g1' (g := nk) ?_ fun d hd => rT' (n.s d hd).1 h
  rw [xsV, List.map_map]
  exact n.e
theorem lL' {kvs : List (Leaf × V)} {ks : List M.D} {dk : M.D} (n : LeafKeys ks (kvs.map (·.1))) (h : M.sca dk = true) : Paired (fun p d => M.eqb d dk = decide (p.1 = lfD dk)) kvs ks :=
  g1' (g := lfD) n.e fun d hd => zl' (n.s d hd) h
def Ans (K : PySem.W.Frag) (F : Hp) (T : List Addr) (ov : Option V) (r : Option M.O) : Prop := ov.isSome = r.isSome /\ ∀ d, r = some (.fz d) -> ∃ u, ov = some u /\ Fz K F T u d
theorem kn' {a : Addr} {kvs : List (Leaf × V)} {ks : List M.D} {os : List M.O} {y : V} {dk : M.D} (s : Same F H) (hH : Rd H a (dcL a kvs)) (n : LeafKeys ks (kvs.map (·.1))) (ra : RpA K F T (kvs.map (·.2)) os fp)
    (zk : Fz K F T y dk) (hf : M.rJ' ks dk = true) : ∃ ov, DLk K H a y ov /\ Ans K F T ov (M.dget ks os dk) := by
  obtain ⟨h1, h2, h3⟩ := gB' hf
  cases hs : M.sca dk with
  | true =>
    refine ⟨_, .l hH (zk.lf hs), ?_⟩
    rw [eg' (lL' n hs)]
    exact ra.dget
  | false =>
    have e : ks = [] := by
      cases ks with
      | nil => rfl
      | cons d ks => have q1 := h3 d (by simp); rw [n.s d (by simp), hs] at q1; cases q1
    subst e
    have e2 : kvs = [] := by have := congrArg List.length n.e; simpa using this
    subst e2
    obtain ⟨b, rfl⟩ := nB' zk h1 hs
    obtain ⟨q1, q2⟩ := nQ' s zk h1 h2
    exact ⟨none, .ln hH q1 q2, rfl, fun d e => nomatch e⟩
theorem ki' {a : Addr} {xs : List (NestedKey × Addr × V)} {ks : List M.D} {os : List M.O} {y : V} {dk : M.D} (s : Same F H) (hH : Rd H a (dcN a xs)) (n : NestKeys ks xs) (zx : FzA K F T (xs.map fun x => .ref x.2.1) ks)
    (ra : RpA K F T (xs.map (·.2.2)) os fp) (zk : Fz K F T y dk) (hf : M.rJ' ks dk = true) : ∃ ov, DLk K H a y ov /\ Ans K F T ov (M.dget ks os dk) := by
  obtain ⟨h1, h2, h3⟩ := gB' hf
  cases hs : M.sca dk with
  | true =>
    have e : ks = [] := by
      cases ks with
      | nil => rfl
      | cons d ks => have q1 := h3 d (by simp); rw [(n.s d (by simp)).2.2, hs] at q1; cases q1
    subst e
    have e2 : xs = [] := by have := congrArg List.length n.e; simpa using this
    subst e2
    exact ⟨none, .nl hH (zk.lf hs), rfl, fun d e => nomatch e⟩
  | false =>
    obtain ⟨b, rfl⟩ := nB' zk h1 hs
    obtain ⟨q1, q2⟩ := nQ' s zk h1 h2
    refine ⟨_, .n hH (u6' s n zx) q1 q2, ?_⟩
    rw [eg' (gF' n h1)]
    have e : (xsV xs).map (·.2) = xs.map (·.2.2) := by rw [xsV, List.map_map]; rfl
    rw [e]
    exact ra.dget
theorem nX' {a : Addr} {kvs : List (Key × V)} {os : List M.O} {y : V} {dk : M.D} (hH : Rd H a (.dK kvs)) (ra : RpA K F T (kvs.map (·.2)) os fp) (zk : Fz K F T y dk) (hf : M.isK dk = true) :
    ∃ ov, DLk K H a y ov /\ Ans K F T ov (M.dget (kvs.map fun p => kD p.1) os dk) := by
  obtain ⟨k, hk⟩ := kt' hf
  have e := kp' zk hk
  subst e
  have e2 := hf' hk
  subst e2
  refine ⟨_, .k k hH, ?_⟩
  rw [eg' (ir' k)]
  exact ra.dget
theorem nP' {v : V} {k : Key} (z : Fz K F T v (kD k)) : okK k := by
  cases k with
  | inl i => exact True.intro
  | inr x =>
    obtain ⟨_, o⟩ := Fz.str_inv (s := x.cps.toList) z
    exact o
theorem ru' {v : V} {o : M.O} {y : V} {dk : M.D} {r : Option M.O} (f : FpH F H (fp ++ fr)) (q : Rp K F T v o fp) (zk : Fz K F T y dk) (e : M.cA' o dk = some r) : ∃ a ov, v = .ref a /\ DLk K H a y ov /\ Ans K F T ov r := by
  cases q with
  | fz z =>
    rename_i d
    cases d <;> try (cases e; done)
    . cases z with
      | dct h _ z =>
        simp only [M.cA'] at e
        split at e
        . rename_i hk
          cases e
          obtain ⟨ov, g1, g2⟩ := nX' (f4' f.low h) (.of_fz z) zk hk
          exact ⟨_, ov, rfl, g1, g2⟩
        . cases e
    . simp only [M.cA'] at e
      split at e
      . rename_i hk
        cases e
        cases z with
        | dcl h n z =>
          obtain ⟨ov, g1, g2⟩ := kn' f.low (f4' f.low h) n (.of_fz z) zk hk
          exact ⟨_, ov, rfl, g1, g2⟩
        | dcn h n zx z =>
          obtain ⟨ov, g1, g2⟩ := ki' f.low (f4' f.low h) n zx (.of_fz z) zk hk
          exact ⟨_, ov, rfl, g1, g2⟩
      . cases e
  | lst _ => cases e
  | tup _ => cases e
  | @dct p kvs os fp0 _ ra =>
    simp only [M.cA'] at e
    split at e
    . rename_i hk
      cases e
      obtain ⟨ov, g1, g2⟩ := nX' (.inl (f.at_ (p, .dK kvs) (by simp)).1) ra zk hk
      exact ⟨_, ov, rfl, g1, g2⟩
    . cases e
  | @dcl p kvs ks os fp0 n ra =>
    simp only [M.cA'] at e
    split at e
    . rename_i hk
      cases e
      obtain ⟨ov, g1, g2⟩ := kn' f.low (.inl (f.at_ (p, dcL p kvs) (by simp)).1) n ra zk hk
      exact ⟨_, ov, rfl, g1, g2⟩
    . cases e
  | @dcn p xs ks os fp0 n zx ra =>
    simp only [M.cA'] at e
    split at e
    . rename_i hk
      cases e
      obtain ⟨ov, g1, g2⟩ := ki' f.low (.inl (f.at_ (p, dcN p xs) (by simp)).1) n zx ra zk hk
      exact ⟨_, ov, rfl, g1, g2⟩
    . cases e
def Put (K : PySem.W.Frag) (F H : Hp) (T : List Addr) (a : Addr) (y v : V) (h0 : HO) (f0 : Fp) (o' : M.O) (fv : Fp) : Prop :=
  H a = some h0 /\ ∀ N : Hp -> Prop, (∀ h1 f1, Rp K F T (.ref a) o' ((a, h1) :: f1) -> Part f1 (f0 ++ fv) -> N (upd H a h1)) -> DSt K H a y v N
theorem RpA.setO {v : V} {o : M.O} {fv : Fp} (zd : Rp K F T v o fv) : ∀ {os : List M.O} {vs : List V} {f2 : Fp} (j : Nat), RpA K F T vs os f2 -> ∃ f2', RpA K F T (vs.set j v) (os.set j o) f2' /\ Part f2' (f2 ++ fv)
  | [], _, _, _, .nil => ⟨[], .nil, .nil⟩
  | _ :: os, _, _, 0, .cons (fp := fa) (fq := fb) r0 r => ⟨_, RpA.cons zd r, by walk_at "parts"⟩
  | _ :: os, _, _, j + 1, .cons (fp := fa) (fq := fb) r0 r => by
    obtain ⟨f2', q1, q2⟩ := RpA.setO zd j r
    refine ⟨_, .cons r0 q1, ?_⟩
    rw [List.append_assoc]
    exact .app .refl q2
theorem dU' {α : Type} {ks ks' : List M.D} {os os' : List α} {k : M.D} {o : α} (h : M.nH' ks os k o = some (ks', os')) : (∃ j, M.gA' ks k = some j /\ ks' = ks /\ os' = os.set j o) \/ (M.gA' ks k = none /\ ks.length < M.dp' /\ ks' = ks ++ [k] /\ os' = os ++ [o]) := by
  unfold M.nH' at h
  split at h
  . rename_i j e
    cases h
    exact .inl ⟨j, e, rfl, rfl⟩
  . rename_i e
    split at h
    . rename_i hl
      cases h
      exact .inr ⟨e, hl, rfl, rfl⟩
    . cases h
theorem ip' {kvs kvs' : List (Key × V)} (h : kvs'.map (·.1) = kvs.map (·.1)) : (kvs'.map fun p => kD p.1) = kvs.map fun p => kD p.1 := by
  have := congrArg (List.map kD) h
  rw [List.map_map, List.map_map] at this
  exact this
theorem yB' {a : Addr} {o o' ov : M.O} {h0 : HO} {f0 fv : Fp} {y v : V} {dk : M.D} (f : FpH F H (((a, h0) :: f0) ++ fr)) (q : Rp K F T (.ref a) o ((a, h0) :: f0)) (zk : Fz K F T y dk) (zv : Rp K F T v ov fv)
    (e : M.fB' o dk ov = some o') : Put K F H T a y v h0 f0 o' fv := by
  have hH : H a = some h0 := (f.at_ (a, h0) (by simp)).1
  have zv' : RpA K F T [v] [ov] (fv ++ []) := .cons zv .nil
  rw [List.append_nil] at zv'
  refine ⟨hH, fun N hN => ?_⟩
  cases q with
  | lst _ => cases e
  | tup _ => cases e
  | @dct _ kvs os _ okk ra =>
    simp only [M.fB'] at e
    split at e
    . rename_i hk
      obtain ⟨k, hk⟩ := kt' hk
      have e1 := kp' zk hk
      subst e1
      have e2 := hf' hk
      subst e2
      cases el : M.nH' (kvs.map fun p => kD p.1) os (kD k) ov with
      | none => rw [el] at e; cases e
      | some p =>
        obtain ⟨ks', os'⟩ := p
        rw [el] at e
        cases e
        rcases dU' el with ⟨j, ej, rfl, rfl⟩ | ⟨ej, hl, rfl, rfl⟩
        . obtain ⟨f2', q1, q2⟩ := RpA.setO zv j ra
          refine .k k hH rfl fun nd => ?_
          obtain ⟨g1, g2⟩ := (c8' (v := v) (ir' k) nd).1 j ej
          refine ⟨fun z => by have := congrArg List.length g1; simp only [List.length_map] at this; omega, hN _ f2' ?_ q2⟩
          rw [<- ip' g1]
          rw [<- g2] at q1
          exact .dct (okk.fst g1) q1
        . rw [List.length_map] at hl
          refine .k k hH rfl fun nd => ?_
          have g := (c8' (v := v) (ir' k) nd).2 ej
          rw [g]
          refine ⟨fun _ => by rw [bM', List.length_append]; simp only [List.length_singleton]; omega, hN _ (f0 ++ fv) ?_ .refl⟩
          have q1 := ra.app zv'
          have e3 : ((kvs.map fun p => kD p.1) ++ [kD k]) = (kvs ++ [(k, v)]).map fun p => kD p.1 := by simp
          rw [e3]
          exact .dct (okk.snoc (nP' zk)) (by simpa using q1)
    . cases e
  | @dcl _ kvs ks os _ n ra =>
    simp only [M.fB'] at e
    split at e
    . rename_i hk
      obtain ⟨h1, h2, h3⟩ := gB' hk
      cases el : M.nH' ks os dk ov with
      | none => rw [el] at e; cases e
      | some p =>
        obtain ⟨ks', os'⟩ := p
        rw [el] at e
        cases e
        cases hs : M.sca dk with
        | true =>
          rcases dU' el with ⟨j, ej, rfl, rfl⟩ | ⟨ej, hl, rfl, rfl⟩
          . obtain ⟨f2', q1, q2⟩ := RpA.setO zv j ra
            refine .l hH (zk.lf hs) fun nd => ?_
            obtain ⟨g1, g2⟩ := (c8' (v := v) (lL' n hs) nd).1 j ej
            refine ⟨fun z => by have := congrArg List.length g1; simp only [List.length_map] at this; omega, hN _ f2' ?_ q2⟩
            rw [<- g2] at q1
            rw [<- g1] at n
            exact .dcl n q1
          . have e4 : kvs.length = ks.length := by have := congrArg List.length n.e; simpa using this
            refine .l hH (zk.lf hs) fun nd => ?_
            have g := (c8' (v := v) (lL' n hs) nd).2 ej
            rw [g]
            refine ⟨fun _ => by rw [bM', List.length_append]; simp only [List.length_singleton]; omega, hN _ (f0 ++ fv) ?_ .refl⟩
            have q1 := ra.app zv'
            refine .dcl ⟨by simp [n.e], fun d hd => ?_⟩ (by simpa using q1)
            rcases List.mem_append.mp hd with hd | hd
            . exact n.s d hd
            . rw [List.mem_singleton.mp hd]; exact hs
        | false =>
          have e5 : ks = [] := by
            cases ks with
            | nil => rfl
            | cons d ks => have q1 := h3 d (by simp); rw [n.s d (by simp), hs] at q1; cases q1
          subst e5
          have e6 : kvs = [] := by have := congrArg List.length n.e; simpa using this
          subst e6
          cases ra
          obtain ⟨b, rfl⟩ := nB' zk h1 hs
          obtain ⟨q1, q2⟩ := nQ' f.low zk h1 h2
          rcases dU' el with ⟨j, ej, rfl, rfl⟩ | ⟨ej, hl, rfl, rfl⟩
          . cases ej
          . refine .ln hH rfl q1 q2 (hN _ fv ?_ (.right .refl))
            exact .dcn (xs := [(nk dk, b, v)]) ⟨rfl, fun d hd => by rw [List.mem_singleton.mp hd]; exact ⟨h1, h2, hs⟩⟩ (.cons zk .nil) zv'
    . cases e
  | @dcn _ xs ks os _ n zx ra =>
    simp only [M.fB'] at e
    split at e
    . rename_i hk
      obtain ⟨h1, h2, h3⟩ := gB' hk
      cases el : M.nH' ks os dk ov with
      | none => rw [el] at e; cases e
      | some p =>
        obtain ⟨ks', os'⟩ := p
        rw [el] at e
        cases e
        cases hs : M.sca dk with
        | true =>
          have e5 : ks = [] := by
            cases ks with
            | nil => rfl
            | cons d ks => have q1 := h3 d (by simp); rw [(n.s d (by simp)).2.2, hs] at q1; cases q1
          subst e5
          have e6 : xs = [] := by have := congrArg List.length n.e; simpa using this
          subst e6
          cases ra
          rcases dU' el with ⟨j, ej, rfl, rfl⟩ | ⟨ej, hl, rfl, rfl⟩
          . cases ej
          . refine .nl hH (zk.lf hs) (hN _ fv ?_ (.right .refl))
            exact .dcl (kvs := [(lfD dk, v)]) ⟨rfl, fun d hd => by rw [List.mem_singleton.mp hd]; exact hs⟩ zv'
        | false =>
          obtain ⟨b, rfl⟩ := nB' zk h1 hs
          obtain ⟨q1, q2⟩ := nQ' f.low zk h1 h2
          have ev : (xsV xs).map (·.2) = xs.map (·.2.2) := by rw [xsV, List.map_map]; rfl
          have ek : (xsV xs).map (·.1) = xs.map (·.1) := by rw [xsV, List.map_map]; rfl
          have evp : ∀ k b v, (xsV (le' xs k b v)).map (·.2) = (le' xs k b v).map (·.2.2) := fun k b v => by rw [xsV, List.map_map]; rfl
          have ekp : ∀ k b v, (xsV (le' xs k b v)).map (·.1) = (le' xs k b v).map (·.1) := fun k b v => by rw [xsV, List.map_map]; rfl
          rcases dU' el with ⟨j, ej, rfl, rfl⟩ | ⟨ej, hl, rfl, rfl⟩
          . obtain ⟨f2', r1, r2⟩ := RpA.setO zv j ra
            refine .n hH (u6' f.low n zx) rfl q1 q2 fun nd => ?_
            obtain ⟨g1, g2⟩ := (c8' (v := v) (gF' n h1) (by rw [ek]; exact nd)).1 j ej
            rw [<- nE' xs (nk dk) b v, evp, ev] at g2
            rw [<- nE' xs (nk dk) b v, ekp, ek] at g1
            have hany : (xs.any fun x => decide (x.1 = nk dk)) = true := by
              have e7 := eg' (gF' (dk := dk) n h1)
              have e8 : (M.dget ks' ((xsV xs).map (·.2)) dk).isSome = true := by
                unfold M.dget
                rw [ej, Option.bind_some, ev]
                have hj : j < ks'.length := by
                  unfold M.gA' at ej
                  exact (List.findIdx?_eq_some_iff_getElem.mp ej).1
                have e9 : xs.length = ks'.length := by have := congrArg List.length n.e; simpa using this
                rw [List.getElem?_eq_getElem (by rw [List.length_map]; omega)]
                rfl
              rw [<- e7, <- valV_any, xsV, List.any_map] at e8
              exact e8
            refine ⟨fun z => by have := congrArg List.length g1; simp only [List.length_map] at this; omega, hN _ f2' ?_ r2⟩
            rw [<- g2] at r1
            refine .dcn ⟨by rw [g1]; exact n.e, n.s⟩ ?_ r1
            rw [q3' hany]
            exact zx
          . have e4 : xs.length = ks.length := by have := congrArg List.length n.e; simpa using this
            refine .n hH (u6' f.low n zx) rfl q1 q2 fun nd => ?_
            have g := (c8' (v := v) (gF' n h1) (by rw [ek]; exact nd)).2 ej
            have gx : le' xs (nk dk) b v = xs ++ [(nk dk, b, v)] := by
              unfold le'
              rw [if_neg]
              intro hany
              have e7 := eg' (gF' (dk := dk) n h1)
              have e8 : (valV (xsV xs) (nk dk)).isSome = true := by
                rw [<- valV_any, xsV, List.any_map]
                exact hany
              rw [e7] at e8
              unfold M.dget at e8
              rw [ej] at e8
              cases e8
            rw [gx]
            refine ⟨fun _ => by rw [bM', List.length_append]; simp only [List.length_singleton]; omega, hN _ (f0 ++ fv) ?_ .refl⟩
            have r1 := ra.app zv'
            refine .dcn ⟨by simp [n.e], fun d hd => ?_⟩ ?_ (by simpa using r1)
            . rcases List.mem_append.mp hd with hd | hd
              . exact n.s d hd
              . rw [List.mem_singleton.mp hd]; exact ⟨h1, h2, hs⟩
            . rw [List.map_append]
              exact zx.append (.cons zk .nil)
    . cases e
end
def CV' (K : PySem.W.Frag) (neg : Bool) : R2 := fun y x H Q => ∃ a ov, x = .ref a /\ DLk K H a y ov /\ Q (.bl (ov.isSome != neg)) H
def Dr' (K : PySem.W.Frag) : R2 := fun x y H Q => ∃ a v, x = .ref a /\ DLk K H a y (some v) /\ Q v H
section
variable {X : Cx} {W : WX} {pos tpos : Pos} {a b o i : Expr} {ma mb mo mi : M.ME} {σ : St} {H : Hp} {Q : VK}
theorem v7' (hw : X.prog = Wd.P /\ X.w = Wd.w) (hu : X.A.units + 64 < cLine) : OpR X (compareOp .NotIn) (CV' X.K true) := by
  intro pins s σ H y x iv u Q I ry rx h
  obtain ⟨a, ov, ex, g, q⟩ := h
  subst ex
  cases (show u = Value.ref a from rx)
  exact zp' hw hu I g ry fun s' I' => ⟨.bl (ov.isSome != true), H, I', by rw [Bool.bne_true]; exact rfl, q⟩
theorem tX' {neg : Bool} {i : Nat} (h : qE X.K W (M.tH' neg i ma) σ H Q) : tOp (CV' X.K neg) (qE X.K W ma) (tVar i) σ H Q := by
  obtain ⟨ρ, F, T, fr, rel, h⟩ := h
  refine aA' rel h fun dk ρ1 y H1 F1 T1 e1 zk r1 h1 => ?_
  split at h1
  . rename_i o e
    obtain ⟨dz, ez, q⟩ := aW'.ofO h1
    obtain ⟨r, er, rfl⟩ := Option.map_eq_some_iff.mp ez
    obtain ⟨fe, fw, re, rw, f⟩ := id r1
    obtain ⟨u, f1, f2, f3, g1, rfl, g3, _, _⟩ := re.get e (M.ds' (fun z => by rw [z] at er; exact nomatch (show (none : Option (Option M.O)) = some r from er)) (fun z => by rw [z] at er; exact nomatch (show (none : Option (Option M.O)) = some r from er)))
    have f' : FpH F1 H1 (f2 ++ (f1 ++ (f3 ++ (fw ++ fr)))) := f.part (by walk_at "parts")
    obtain ⟨p, ov, rfl, g, a1, _⟩ := ru' f' g3 zk er
    refine ⟨_, g1, p, ov, rfl, g, ?_⟩
    rw [a1]
    exact q _ H1 F1 T1 e1 (.bl _) r1
  . exact h1.elim
theorem yE' {te ti : TE} (hw : X.prog = Wd.P /\ X.w = Wd.w) (hu : X.A.units + 64 < cLine) (ho : PE X o te) (hi : PE X i ti) (hs : NoSl i) : PE X (.Subscript o i pos) (tOp (Dr' X.K) te ti) := by
  refine ⟨fun pins s σ H Q I h => subD_of PySem.F.slot_dict_getitem.lookup hs (thn (ho.run pins s σ H _ I h) fun u s1 ⟨x, H1, I1, rx, q1⟩ => thn (hi.run pins s1 σ H1 _ I1 q1) fun iv s2 ⟨y, H2, I2, ry, q2⟩ => ?_)⟩
  obtain ⟨a, v, ex, g, q2⟩ := q2
  subst ex
  cases (show u = Value.ref a from rx)
  exact ⟨wI' hw I2 g, zq' hw hu I2 g ry fun w' s3 I3 rw' => ⟨v, H2, I3, rw', q2⟩⟩
theorem cu' {n : Nat} (hw : X.prog = Wd.P /\ X.w = Wd.w) (hu : X.A.units + 64 < cLine) (hv : PE X o (tVar n)) (hi : SE X W i mi) (hs : NoSl i) : SE X W (.Subscript o i pos) (M.iv' n mi) :=
  PE.imp (yE' hw hu hv hi hs) fun σ H Q ⟨ρ, F, T, fr, rel, h⟩ => by
    unfold M.iv' at h
    split at h
    . rename_i o0 e0
      obtain ⟨fe, fw, re, rw, f⟩ := id rel
      obtain ⟨v, h1⟩ := re.val e0
      refine ⟨v, h1, aA' rel h fun dk ρ1 y H1 F1 T1 e1 zk r1 h2 => ?_⟩
      split at h2
      . rename_i o e2
        obtain ⟨dz, ez, q⟩ := aW'.ofO h2
        obtain ⟨fe', fw', re', rw', f'⟩ := id r1
        obtain ⟨u, f1', f2', f3', h1', rfl, h3', _⟩ := re'.get e2 (M.ds' (fun z => by rw [z] at ez; exact nomatch (show (none : Option M.D) = some dz from ez)) fun z => by rw [z] at ez; exact nomatch (show (none : Option M.D) = some dz from ez))
        rw [h1] at h1'
        cases h1'
        have f4 : FpH F1 H1 (f2' ++ (f1' ++ (f3' ++ (fw' ++ fr)))) := f'.part (by walk_at "parts")
        obtain ⟨r, er, hr⟩ : ∃ r, M.cA' o dk = some r /\ r = some (.fz dz) := by
          unfold M.sg' at ez
          split at ez
          . rename_i d er
            cases ez
            exact ⟨_, er, rfl⟩
          . cases ez
        obtain ⟨p, ov, rfl, g, _, a2⟩ := ru' f4 h3' zk er
        obtain ⟨w, rfl, zw⟩ := a2 dz hr
        exact ⟨p, w, rfl, g, q w H1 F1 T1 e1 zw r1⟩
      . exact h2.elim
    . exact h.elim
theorem Rel.slotX {K : PySem.W.Frag} {ρ : M.PSt} {F : Hp} {T : List Addr} {fr : Fp} {i : Nat} {o : M.O} {v : V} (rel : Rel K ρ σ H F T fr) (e : ρ.env[i]? = some (some o)) (hp : σ[i]? = some (some v)) (hne : M.A6' o = true := by first | assumption | rfl) :
    ∃ f2 fz, Rp K F T v o f2 /\ FpH F H (f2 ++ (fz ++ fr)) /\ ∀ p h0 f0 h1 o' f1 fr', f2 = (p, h0) :: f0 -> v = .ref p -> Rp K F T v o' ((p, h1) :: f1) -> Part (f1 ++ fr') (f0 ++ fr) -> Rel K ⟨ρ.env.set i (some o'), ρ.w⟩ σ (upd H p h1) F T fr' := by
  obtain ⟨fe, fw, re, rw, f⟩ := rel
  obtain ⟨v', f1, f2, f3, g1, rfl, g3, _, g5⟩ := re.get e
  rw [g1] at hp
  cases hp
  refine ⟨f2, f1 ++ (f3 ++ fw), g3, f.part (by walk_at "parts"), ?_⟩
  intro p h0 f0 h1 o' f1' fr' e2 ev r pt
  subst e2 ev
  have e5 := g5 F T (.ref p) o' ((p, h1) :: f1') .refl r
  rw [eJ' g1] at e5
  refine ⟨_, fw, e5, rw, ?_⟩
  have fA : FpH F H (f1 ++ ((p, h0) :: (f3 ++ (fw ++ (f0 ++ fr))))) := f.part (by walk_at "parts")
  have fB := fA.write (o' := h1)
  have pm := pt.m
  have pc := pt.c
  refine fB.part ?_
  constructor
  . intro e h
    have := pm e
    simp only [List.mem_append, List.mem_cons] at *
    grind
  . intro x
    have := pc x
    simp only [keys, List.map_append, List.map_cons, List.count_append, List.count_cons] at *
    omega
theorem s5' {value : Expr} {te ti tv : TE} (hwd : X.prog = Wd.P /\ X.w = Wd.w) (hu : X.A.units + 64 < cLine) (ho : PE X o te) (hi : PE X i ti) (hv : PE X value tv) (hs : swapsWith value (some (.Subscript o i tpos)) pos.line X.env = pure false) :
    PS X (.Assign [.Subscript o i tpos] value pos) (fun D σ H => tv σ H fun v H1 => te σ H1 fun x H2 => ti σ H2 fun y H3 => ∃ a, x = .ref a /\ DSt X.K H3 a y v (fun H4 => D.nx σ H4)) := by
  refine ⟨fun pins s σ H D I h => wpAny_Assign_Subscript (thn (hv.run pins s σ H _ I h) fun r s1 ⟨v, H1, I1, rv, q1⟩ => thn (ho.run pins s1 σ H1 _ I1 q1) fun u s2 ⟨x, H2, I2, rx, q2⟩ => thn (hi.run pins s2 σ H2 _ I2 q2) fun iv s3 ⟨y, H3, I3, ry, q3⟩ => ?_) hs⟩
  obtain ⟨a, ex, g⟩ := q3
  subst ex
  cases (show u = Value.ref a from rx)
  exact zo' hwd hu I3 g ry rv fun H4 s4 I4 q4 => ⟨σ, H4, I4, q4⟩
theorem q5' {o o' ov : M.O} {dk : M.D} (h : M.fB' o dk ov = some o') {K : PySem.W.Frag} {F : Hp} {T : List Addr} {v : V} {fp : Fp} (q : Rp K F T v o fp) : ∃ p h0 f0, v = .ref p /\ fp = (p, h0) :: f0 := by
  cases q with
  | fz z => cases h
  | lst _ => exact ⟨_, _, _, rfl, rfl⟩
  | tup _ => exact ⟨_, _, _, rfl, rfl⟩
  | dct _ _ => exact ⟨_, _, _, rfl, rfl⟩
  | dcl _ _ => exact ⟨_, _, _, rfl, rfl⟩
  | dcn _ _ _ => exact ⟨_, _, _, rfl, rfl⟩
theorem fZ' {n : Nat} (hwd : X.prog = Wd.P /\ X.w = Wd.w) (hu : X.A.units + 64 < cLine) (ha : SE X W a ma) (ho : PE X o (tVar n)) (hi : SE X W i mi) (hs : swapsWith a (some (.Subscript o i tpos)) pos.line X.env = pure false := by rfl) :
    SS X W (.Assign [.Subscript o i tpos] a pos) (M.o4' n mi ma) := PS.imp (s5' hwd hu ho hi ha hs) fun D σ H ⟨ρ, F, T, fr, rel, h⟩ => by
  refine dx' rel h fun d ρ1 v H1 F1 T1 e1 z1 r1 h1 => ?_
  split at h1
  . rename_i o0 e0
    obtain ⟨fe, fw, re, rw, f⟩ := id r1
    obtain ⟨x, g1⟩ := re.val e0
    refine ⟨x, g1, dx' r1 h1 fun dk ρ2 y H2 F2 T2 e2 zk r2 h2 => ?_⟩
    split at h2
    . rename_i o1 e3
      split at h2
      . rename_i o' eo
        obtain ⟨f2', fz, q1, q2, q3⟩ := r2.slotX e3 g1 (M.ds' (fun z => by rw [z] at eo; exact nomatch (show (none : Option M.O) = some o' from eo)) (fun z => by rw [z] at eo; exact nomatch (show (none : Option M.O) = some o' from eo)))
        obtain ⟨p, h0, f0, rfl, rfl⟩ := q5' eo q1
        have hp := yB' (fr := fz ++ fr) q2 q1 zk (.fz (z1.mono e2)) eo
        refine ⟨p, rfl, hp.2 _ fun h1' f1' r3 pt => ?_⟩
        refine h2 σ _ F2 T2 .refl (q3 p h0 f0 h1' o' f1' fr rfl rfl r3 (.app ?_ .refl))
        simpa using pt
      . exact h2.elim
    . exact h2.elim
  . exact h1.elim
theorem qz' (hwd : X.prog = Wd.P /\ X.w = Wd.w) : SO X W (.Dict [] [] pos) M.ri' := by
  refine ⟨fun pins s σ H Q I ⟨ρ, F, T, fr, rel, h⟩ => wpAny_Dict_empty ⟨.ref s.heap.objs.size, upd H s.heap.objs.size (dcL s.heap.objs.size []), ?_, rfl, ?_⟩⟩
  . refine I.laid (a := s.heap.objs.size) (t' := s.toks) (fun _ _ q => Heap.get?_push_of_some _ q) (Nat.le_refl _) ?_
    rw [hwd.2]
    exact lS' (Nat.zero_le _) (beq_eq_false_iff_ne.mpr (Ne.symm (Nat.ne_of_lt I.big))) .nil (Heap.DictOf.new s.heap)
  . have z : Rp X.K F T (.ref s.heap.objs.size) (.dcx [] []) [(s.heap.objs.size, dcL s.heap.objs.size [])] := Rp.dcl (kvs := []) ⟨rfl, fun _ h => nomatch h⟩ .nil
    exact h _ _ F T _ .refl z (rel.own (I.hok.fresh (Nat.le_refl _)))
theorem qy' {k e : Expr} {mk me : M.ME} (hk : SE X W k mk) (hv : SE X W e me) : SO X W (.Dict [some k] [e] pos) (M.kf' false mk me) :=
  PE.imp (pe_disp (pps_cons hk hv pps_nil) rfl rfl (by intro z; cases z) (by simp)) fun σ H Q ⟨ρ, F, T, fr, rel, h⟩ => fun p hp => by
    have fr1 : Part fr ((p, HO.dK []) :: fr) := by walk_at "parts"
    refine ⟨ρ, F, T, (p, .dK []) :: fr, rel.own hp, (aW'.bind h).mono (fun dk ρ1 h1 y H1 F1 T1 e1 zk r1 => ?_) fun _ _ z => z.frame fr1⟩
    refine ⟨ρ1, F1, T1, (p, .dK []) :: fr, r1, (aW'.bind (h1.mono (fun _ _ z => z) fun _ _ z => z)).mono (fun d ρ2 h2 v H2 F2 T2 e2 zv r2 => ?_) fun _ _ z => (z.mono e1).frame fr1⟩
    obtain ⟨o, eo, q⟩ := aW'.ofO h2
    simp only [M.j9', Bool.false_eq_true, if_false] at eo
    split at eo
    . rename_i hc
      cases eo
      obtain ⟨key, hk⟩ := kt' hc
      have e3 := kp' zk hk
      have e4 := hf' hk
      subst e3 e4
      refine ⟨r2.at_ (e := (p, .dK [])) List.mem_cons_self, [(key, v)], rfl, (by show 1 <= 15; decide), ?_⟩
      refine q (.ref p) _ F2 T2 [(p, .dK [(key, v)])] (e1.trans e2) ?_ ?_
      . exact .dct (kvs := [(key, v)]) (fun p hp => by rw [List.mem_singleton.mp hp]; exact nP' zk) (RpA.cons (fp := []) (fq := []) (.fz zv) .nil)
      . exact r2.write
    . cases eo
theorem sU' {n : Nat} {e f : Expr} {me mf : M.ME} {apos cpos : Pos} (hv : PE X o (tVar n)) (he : SE X W e me) (hf : SE X W f mf) (m : M2 X o "setdefault" apos e f cpos) :
    SE X W (.Call (.Attribute o "setdefault" apos) [e, f] [] cpos) (M.iu' n me mf) := PE.imp (pe_dsetd hv he hf m) fun σ H Q ⟨ρ, F, T, fr, rel, h⟩ => by
  unfold M.iu' at h
  split at h
  . rename_i ks0 os0 e0
    obtain ⟨fe, fw, re, rw, f⟩ := id rel
    obtain ⟨x, f1, f2, f3, g1, eq, g3, _⟩ := re.get e0
    cases g3 with
    | @dct p kvs0 _ fp0 okk0 ra0 =>
      have hH0 : H p = some (.dK kvs0) := (f.at_ (p, .dK kvs0) (by rw [eq]; simp)).1
      refine ⟨_, g1, p, rfl, .inl ⟨_, .inl hH0⟩, aA' rel h fun dk ρ1 y H1 F1 T1 e1 zk r1 h1 => aA' r1 h1 fun d ρ2 z H2 F2 T2 e2 zd r2 h2 => ?_⟩
      split at h2
      . rename_i ks os e3
        split at h2
        . rename_i hc
          obtain ⟨hk, hl⟩ := hc
          obtain ⟨f2', fz, q1, q2, q3⟩ := r2.slotX e3 g1
          cases q1 with
          | @dct _ kvs _ fp1 okk ra =>
            have hH : H2 p = some (.dK kvs) := (q2.at_ (p, .dK kvs) (by simp)).1
            obtain ⟨key, hkey⟩ := kt' hk
            have e4 := kp' zk hkey
            have e5 := hf' hkey
            subst e4 e5
            rw [List.length_map] at hl
            have hv := eg' (ir' (kvs := kvs) key)
            obtain ⟨a1, a2⟩ := ra.dget (ks := kvs.map fun p => kD p.1) (dk := kD key)
            refine ⟨kvs, key, hH, rfl, by rw [bM']; exact hl, fun v ev => ?_, fun ev => ?_⟩
            . rw [hv] at ev
              rw [ev] at a1
              split at h2
              . rename_i d' ed
                obtain ⟨u, g4, g5⟩ := a2 d' ed
                rw [ev] at g4
                cases g4
                exact h2 v H2 F2 T2 (e1.trans e2) g5 r2
              . exact h2.elim
              . rename_i ed
                rw [ed] at a1
                cases a1
            . rw [hv] at ev
              rw [ev] at a1
              split at h2
              . rename_i d' ed
                rw [ed] at a1
                cases a1
              . exact h2.elim
              . have hn : M.gA' (kvs.map fun p => kD p.1) (kD key) = none := by
                  unfold M.dget at ev
                  cases q : M.gA' (kvs.map fun p => kD p.1) (kD key) with
                  | none => rfl
                  | some j =>
                    rw [q, Option.bind_some] at ev
                    unfold M.gA' at q
                    have hj := (List.findIdx?_eq_some_iff_getElem.mp q).1
                    rw [List.length_map] at hj
                    rw [List.getElem?_eq_getElem (by rw [List.length_map]; exact hj)] at ev
                    cases ev
                have hp : putK kvs key z = kvs ++ [(key, z)] := putK_new z (by rw [hv]; exact ev)
                rw [hp]
                refine h2 z _ F2 T2 (e1.trans e2) zd (q3 p _ fp1 (.dK (kvs ++ [(key, z)])) (.dct ((kvs.map fun p => kD p.1) ++ [kD key]) (os ++ [.fz d])) fp1 fr rfl rfl ?_ (.app .refl .refl))
                have r5 := ra.app (RpA.cons (fp := []) (fq := []) (.fz zd) .nil)
                rw [List.append_nil, List.append_nil] at r5
                have e6 : ((kvs.map fun p => kD p.1) ++ [kD key]) = (kvs ++ [(key, z)]).map fun p => kD p.1 := by simp
                rw [e6]
                exact .dct (okk.snoc (nP' zk)) (by simpa using r5)
        . exact h2.elim
      . exact h2.elim
  . exact h.elim
end
end S
namespace S
open PySem PySem.Spec PyProof.Rows L2
variable [Wd] [Hot]
section
variable {K : PySem.W.Frag} {F F' H H' : Hp} {T T' : List Addr} {fp fq fr : Fp} {ρ : M.PSt} {σ : St} {W : WX} {Q : VK}
theorem FpH.lock {d : Addr} {u : HO} {od : Obj} (hl : Lkb u) (f : FpH F H fp) (h : F d = some u) : FpH (upd F d (.frz od u)) (upd H d (.frz od u)) fp := by
  have np : ∀ e ∈ fp, e.1 ≠ d := fun e he z => by have := (f.at_ e he).2; rw [z, h] at this; cases this
  refine ⟨fun a u e => ?_, fun e he => ?_, f.nd, f.tbs (fun a h1 h2 h3 => ?_) fun c q hc => ?_⟩
  rotate_left 3
  . rcases hc with hc | ⟨o, hc⟩
    . by_cases ha : c = d
      . subst ha
        rw [h] at hc
        cases hc
        exact .inr ⟨od, upd_same⟩
      . exact .inl (by rw [upd_ne ha]; exact hc)
    . by_cases ha : c = d
      . subst ha
        rw [h] at hc
        cases hc
        rcases hl with ⟨_, e⟩ | ⟨_, e⟩ <;> cases e
      . exact .inr ⟨o, by rw [upd_ne ha]; exact hc⟩
  . by_cases ha : a = d
    . subst ha; rw [upd_same] at e ⊢; exact e
    . rw [upd_ne ha] at e ⊢; exact f.low _ _ e
  . rw [upd_ne (np e he), upd_ne (np e he)]; exact f.at_ e he
  . have ha : a ≠ d := fun z => by rw [z, h] at h1; cases h1
    exact ⟨by rw [upd_ne ha]; exact h1, upd_ne ha, h3⟩
theorem Wk.lock {d : Addr} {u : HO} {od : Obj} (hl : Lkb u) (h : F d = some u) : Wk F (upd F d (.frz od u)) := fun a o e => by
  by_cases ha : a = d
  . subst ha
    rw [h] at e
    cases e
    exact .inr ⟨hl, od, upd_same⟩
  . exact .inl (by rw [upd_ne ha]; exact e)
theorem Rel.lock {d : Addr} {u : HO} {od : Obj} (hl : Lkb u) (r : Rel K ρ σ H F T fr) (h : F d = some u) : Rel K ρ σ (upd H d (.frz od u)) (upd F d (.frz od u)) T fr := by
  obtain ⟨fe, fw, re, rw, f⟩ := r
  have e : Ext F T (upd F d (.frz od u)) T := ⟨.lock hl h, List.prefix_refl _⟩
  exact ⟨fe, fw, re.mono e, rw.mono e, f.lock hl h⟩
def tLk (te : TE) : TE := fun σ H Q => te σ H fun x H1 => (∃ d u, x = .ref d /\ H1 d = some u /\ Mut (some u) /\ ∀ od, Q x (upd H1 d (.frz od u))) \/ Q x H1
theorem Bp' {X : Cx} {e : Expr} {te : TE} (h : PE X e te) : PE X e (tLk te) := by
  refine ⟨fun pins s σ H Q I q => thn (h.run pins s σ H _ I q) fun u s1 ⟨x, H1, I1, rx, q1⟩ => ?_⟩
  rcases q1 with ⟨d, v, rfl, hd, mu, q1⟩ | q1
  . obtain ⟨od, I2⟩ := I1.lock hd mu
    exact ⟨_, _, I2, rx, q1 od⟩
  . exact ⟨x, H1, I1, rx, q1⟩
theorem wg' {ma : M.ME} {G : M.D -> Option (List M.D)} {R : List M.D -> M.PSt -> Prop} {W : WX} {P : V -> Hp -> Prop} (hG : ∀ d ds, G d = some ds -> ∃ ks vs, d = .dct ks vs)
    (rel : Rel K ρ σ H F T fr) (h : aW' ((ma ρ).bind fun x ρ1 => M.ofO (G x) ρ1) R (EX K W σ F T fr))
    (k : ∀ d o kvs ds vs H' F' T' ρ', Ext F T F' T' -> F' d = some (.frz o (.dK kvs)) -> k9' kvs -> FzA K F' T' (kvs.map (·.2)) vs -> G (.dct (kvs.map fun p => kD p.1) vs) = some ds -> Rel K ρ' σ H' F' T' fr -> R ds ρ' -> P (.ref d) H') : tLk (qE K W ma) σ H P := by
  refine ⟨ρ, F, T, fr, rel, (aW'.bind h).mono (fun dx ρ1 h1 v H1 F1 T1 e1 z1 r1 => ?_) fun _ _ z => z⟩
  obtain ⟨ds, eg, hR⟩ := aW'.ofO h1
  obtain ⟨ks, vs, rfl⟩ := hG _ _ eg
  cases z1 with
  | @dct a kvs _ hd ok za =>
    rcases hd with hd | ⟨o, hd⟩
    . refine .inl ⟨a, .dK kvs, rfl, ?_, True.intro, fun od => ?_⟩
      . obtain ⟨fp, f, _⟩ := r1.fp
        exact f.low _ _ hd
      . have e2 : Ext F1 T1 (upd F1 a (.frz od (.dK kvs))) T1 := ⟨.lock (.inl ⟨_, rfl⟩) hd, List.prefix_refl _⟩
        exact k a od kvs ds vs _ _ T1 ρ1 (e1.trans e2) upd_same ok (za.mono e2) eg (r1.lock (.inl ⟨_, rfl⟩) hd) hR
    . exact .inr (k a o kvs ds vs _ _ T1 ρ1 e1 hd ok za eg r1 hR)
theorem Wk.frz {a : Addr} {o : Obj} {u : HO} (s : Wk F F') (h : F a = some (.frz o u)) : F' a = some (.frz o u) := s.at_ h fun _ e => nomatch e
theorem zg' {p : Key} (h : okK p) : Fz K F T (kV p) (kD p) := by
  cases p with
  | inl i => exact .int i
  | inr x =>
    have := Fz.str (K := K) (F := F) (T := T) (s := x.cps.toList) h
    rw [vC'] at this
    exact this
theorem tv' {d : Addr} {o : Obj} {kvs : List (Key × V)} {vs : List M.D} (hd : F d = some (.frz o (.dK kvs))) (ok : k9' kvs) (za : FzA K F T (kvs.map (·.2)) vs) : jt' K (Iti d o kvs) (M.dq' (kvs.map fun p => kD p.1) vs) F T := by
  have hl := za.length
  rw [List.length_map] at hl
  refine i8' (fun F' T' H' fp i e f hi => ?_) fun F' T' H' fp i dx dy e f h1 h2 => ?_
  . rw [List.length_map] at hi
    exact ⟨f.low _ _ (e.f.frz hd), by omega⟩
  . rw [List.getElem?_map] at h1
    obtain ⟨p, hp, rfl⟩ := Option.map_eq_some_iff.mp h1
    obtain ⟨v, g1, g2⟩ := za.get h2
    rw [List.getElem?_map, hp] at g1
    cases g1
    refine ⟨⟨f.low _ _ (e.f.frz hd), (List.getElem?_eq_some_iff.mp hp).1⟩, ?_⟩
    rintro x H2 ⟨T0, k, v', ek, rfl, hT, rfl⟩
    rw [hp] at ek
    cases ek
    exact ⟨T0, _, _, rfl, hT, rfl, zg' (ok _ (List.mem_of_getElem? hp)), g2.mono e⟩
end
section
variable {X : Cx} {W : WX} {tg a : Expr} {ma : M.ME} {apos cpos : Pos}
theorem sR' {elts : List Expr} {kk : Nat} {tpos : Pos} (ha : SE X W a ma) (hbase : attributeBase a "items" X.env (eval a X.env) = eval a X.env := by rfl) (hline : (apos.endLine == cpos.line) = true := by rfl) :
    SI X W (.Tuple elts kk tpos) (.Call (.Attribute a "items" apos) [] [] cpos) (M.rQ' M.r2' ma) := PI.imp (pi_items (Bp' ha) hbase hline) fun σ H R ⟨ρ, F, T, fr, rel, h⟩ => by
  refine wg' (fun d ds e => by cases d <;> first | exact ⟨_, _, rfl⟩ | (cases e)) rel h fun d o kvs ds vs H' F' T' ρ' e hd ok za eg r hR => ?_
  cases eg
  obtain ⟨fp, f, _⟩ := r.fp
  exact ⟨d, o, kvs, rfl, f.low _ _ hd, hR _ _ _ _ e (tv' hd ok za) r⟩
end
section
variable {K : PySem.W.Frag} {F F' H H' : Hp} {T T' : List Addr} {fp fq fr : Fp} {ρ : M.PSt} {σ : St} {W : WX}
def Ak' (K : PySem.W.Frag) (sl : List Nat) (g : M.MG) (t : M.MT) (ek ev : M.ME) (ds : List M.D) (σ : St) (D : Addr) (fr : Fp) (F1 : Hp) (T1 : List Addr) (P : List M.D × List M.D -> M.PSt -> Prop) (Y : Wx) (i : Nat) (H : Hp) : Prop :=
  i <= ds.length /\ ∃ ρ' F' T' kvs vs, Ext F1 T1 F' T' /\ (kvs.map (·.1)).Nodup /\ k9' kvs /\ FzA K F' T' (kvs.map (·.2)) vs /\ Rel K ⟨M.aF' sl ρ'.env, ρ'.w⟩ (wipe σ sl) H F' T' ((D, .dK kvs) :: fr) ∧
    aW' (M.dcL sl g t ek ev (ds.drop i) (kvs.map fun p => kD p.1) vs ρ') P Y
theorem wJ' {sl : List Nat} {it : M.MI} {g : M.MG} {t : M.MT} {ek ev : M.ME} {Q : VK} (h : qO K W (M.oDc sl it g t ek ev) σ H Q) : tDc (qI K W it) (qG K sl g) (qT K W0 t) (qE K W0 ek) (qE K W0 ev) sl σ H Q := by
  obtain ⟨ρ, F, T, fr, rel, h⟩ := h
  refine ⟨ρ, F, T, fr, rel, (aW'.bind h).mono (fun ds ρ1 h1 J H1 F1 T1 e1 io r1 => ?_) fun _ _ z => z⟩
  intro D hD
  have h2 := aW'.bind h1
  refine ⟨fun i m H => m = ds.length - i /\ Ak' K sl g t ek ev ds σ D fr F1 T1 _ _ i H, ⟨ds.length, by simp, Nat.zero_le _, ρ1, F1, T1, [], [], .refl, List.nodup_nil, .nil, .nil, (r1.wiped sl).own hD, h2⟩, ?_⟩
  rintro i m H2 ⟨rfl, hi, ρ2, F2, T2, kvs, vs, e2, nd, okk, za, r2, h3⟩
  have hH : H2 D = some (.dK kvs) := r2.at_ (e := (D, .dK kvs)) List.mem_cons_self
  obtain ⟨fp2, f2, _⟩ := r2.fp
  by_cases hl : i = ds.length
  . refine .inl ⟨(io F2 T2 H2 fp2 i e2 f2 hi).1 hl, ?_⟩
    rw [hl, List.drop_length] at h3
    have h4 : aW' (M.dcL sl g t ek ev [] _ vs ρ2) _ _ := h3
    unfold M.dcL at h4
    have h5 := h4
    refine h5 (.ref D) H2 F2 T2 ((D, .dK kvs) :: []) (e1.trans e2) ?_ ?_
    . exact .dct okk (RpA.of_fz za)
    . obtain ⟨fe, fw, re, rw, f⟩ := r2
      have re1 : RpE K F2 T2 σ (M.aF' sl ρ2.env) fe := by
        refine re.other ?_ fun j o hj => (gs' (fk' hj)).symm
        rw [wipe_length]
      obtain ⟨fe0, fw0, re0, rw0, f0⟩ := r1
      obtain ⟨fq, h6, h7⟩ := RpE.backed (env0 := ρ1.env) (fun i d hd => by
        obtain ⟨v, hv, z⟩ := re0.data hd
        exact ⟨v, hv, z.mono e2⟩) sl re1
      exact ⟨fq, fw, h6, rw, f.part (.app h7 .refl)⟩
  . have hlt : i < ds.length := by omega
    have hd : ds[i]? = some ds[i] := List.getElem?_eq_getElem hlt
    obtain ⟨go, yl⟩ := (io F2 T2 H2 fp2 i e2 f2 hi).2 _ hd
    refine .inr ⟨go, Ak' K sl g t ek ev ds σ D fr F1 T1 _ _ (i + 1), fun H' n => ⟨ds.length - (i + 1), by omega, rfl, n⟩, fun x H3 y => ?_⟩
    obtain ⟨fe, fw, re, rw, f⟩ := id r2
    obtain ⟨yg, yh⟩ := (io F2 T2 H2 _ i e2 f hi).2 _ hd
    obtain ⟨F3, s3, zx, f3⟩ := yh x H3 y
    have r3 : Rel K ⟨M.aF' sl ρ2.env, ρ2.w⟩ (wipe σ sl) H3 F3 T2 ((D, .dK kvs) :: fr) := ⟨fe, fw, re.mono (.of s3), rw.mono (.of s3), f3⟩
    rw [List.drop_eq_getElem_cons hlt] at h3
    unfold M.dcL at h3
    cases eg : g ds[i] ⟨M.aF' sl ρ2.env, ρ2.w⟩ with
    | none => rw [eg] at h3; exact h3.elim
    | some ρ3 =>
      rw [eg] at h3
      refine ⟨_, F3, T2, _, ds[i], ρ3, r3, zx, eg, fun σ4 w4 r4 => ?_⟩
      rw [jw'] at w4
      refine ⟨w4, ?_⟩
      have h4 := aW'.bind h3
      refine ⟨ρ3, F3, T2, _, r4, (aW'.noX h4).mono (fun b ρ5 h5 H5 F5 T5 e5 r5 => ?_) fun _ _ z => z⟩
      cases b with
      | false =>
        rw [if_neg Bool.false_ne_true]
        refine ⟨hlt, ρ5, F5, T5, kvs, vs, e2.trans ((Ext.of s3).trans e5), nd, okk, (za.mono (.of s3)).mono e5, ?_, h5⟩
        rw [<- w4]
        exact r5.wiped sl
      | true =>
        rw [if_pos rfl] at h5 ⊢
        have h6 := aW'.bind h5
        refine ⟨ρ5, F5, T5, _, r5, (aW'.noX h6).mono (fun dk ρ6 h7 y6 H6 F6 T6 e6 z6 r6 => ?_) fun _ _ z => z⟩
        have h8 := aW'.bind h7
        refine ⟨ρ6, F6, T6, _, r6, (aW'.noX h8).mono (fun dv ρ7 h9 y7 H7 F7 T7 e7 z7 r7 => ?_) fun _ _ z => z⟩
        split at h9
        . rename_i hc
          obtain ⟨hk, hlen⟩ := hc
          rw [List.length_map] at hlen
          have hH7 : H7 D = some (.dK kvs) := r7.at_ (e := (D, .dK kvs)) List.mem_cons_self
          obtain ⟨key, hkey⟩ := kt' hk
          have z6' := z6.mono e7
          have q1 := kp' z6' hkey
          have q2 := hf' hkey
          subst q1 q2
          have za7 := ((za.mono (.of s3)).mono e5).mono (e6.trans e7)
          have ee := e2.trans ((Ext.of s3).trans (e5.trans (e6.trans e7)))
          refine ⟨kvs, key, rfl, hH7, by rw [bM']; exact hlen, hlt, ?_⟩
          cases el : M.nH' (kvs.map fun p => kD p.1) vs (kD key) dv with
          | none => rw [el] at h9; exact h9.elim
          | some p =>
            obtain ⟨ks', vs'⟩ := p
            rw [el] at h9
            have hr := (r7.wiped sl).write (o' := .dK (putK kvs key y7))
            rw [w4] at hr
            rcases dU' el with ⟨j, ej, rfl, rfl⟩ | ⟨ej, _, rfl, rfl⟩
            . obtain ⟨g1, g2⟩ := (c8' (v := y7) (ir' key) nd).1 j ej
              refine ⟨ρ7, F7, T7, putK kvs key y7, vs.set j dv, ee, by rw [g1]; exact nd, okk.fst g1, ?_, hr, ?_⟩
              . rw [g2]
                have main : ∀ {us : List V} {ws : List M.D} (j : Nat), FzA K F7 T7 us ws -> FzA K F7 T7 (us.set j y7) (ws.set j dv) := by
                  intro us ws j h
                  induction us generalizing ws j with
                  | nil => cases h; exact .nil
                  | cons u us ih =>
                    cases h with
                    | cons a r =>
                      cases j with
                      | zero => exact .cons z7 r
                      | succ j => exact .cons a (ih j r)
                exact main j za7
              . rw [ip' g1]
                exact h9
            . have g := (c8' (v := y7) (ir' key) nd).2 ej
              have nin : key ∉ kvs.map (·.1) := by
                intro hm
                obtain ⟨p, hp, rfl⟩ := List.mem_map.mp hm
                unfold M.gA' at ej
                rw [List.findIdx?_eq_none_iff] at ej
                have := ej (kD p.1) (List.mem_map_of_mem hp)
                rw [uW', decide_eq_true rfl] at this
                cases this
              rw [g] at hr ⊢
              refine ⟨ρ7, F7, T7, kvs ++ [(key, y7)], vs ++ [dv], ee, ?_, okk.snoc (nP' z6'), ?_, hr, ?_⟩
              . rw [List.map_append, List.nodup_append]
                refine ⟨nd, by simp, ?_⟩
                intro a ha b hb
                simp only [List.map_cons, List.map_nil, List.mem_singleton] at hb
                rw [hb]
                exact fun z => nin (z ▸ ha)
              . rw [List.map_append]
                exact za7.append (.cons z7 .nil)
              . rw [List.map_append]
                exact h9
        . exact h9.elim
end
section
variable {X : Cx} {W : WX} {pos : Pos} {kx vx tg iter : Expr} {ifs : List Expr} {scope : Scope} {own : List (Str × Nat)} {sl : List Nat} {it : M.MI} {g : M.MG} {t : M.MT} {ek ev : M.ME}
theorem x9' (hc : X.calm = true) (hN : X.N.Nodup) (hi : SI X W tg iter it) (ok : BlkOk X.N X.env.scope scope own) (hsl : sl = own.map (·.2))
    (hg : ∀ (s : Shared) (H : Hp) (C : Addr) (cl : List (Str × Addr)) (fp : List Addr), SG (X.blk s H scope (compEnvC scope cl C X.env) fp) tg sl g) (ht : ∀ (s : Shared) (H : Hp) (C : Addr) (cl : List (Str × Addr)) (fp : List Addr), PTs (X.blk s H scope (compEnvC scope cl C X.env) fp) ifs (qT X.K W0 t))
    (hk : ∀ (s : Shared) (H : Hp) (C : Addr) (cl : List (Str × Addr)) (fp : List Addr), SE (X.blk s H scope (compEnvC scope cl C X.env) fp) W0 kx ek) (he : ∀ (s : Shared) (H : Hp) (C : Addr) (cl : List (Str × Addr)) (fp : List Addr), SE (X.blk s H scope (compEnvC scope cl C X.env) fp) W0 vx ev)
    (hs : ∀ x, foldedSetIterable iter X.env x = pure x := by intro _; rfl) : SO X W (.DictComp kx vx [⟨tg, iter, ifs, 0⟩] scope pos) (M.oDc sl it g t ek ev) := by
  subst hsl
  exact PE.imp (pe_dc hc hN hi ok hg ht hk he hs) fun σ H Q h => wJ' h
end
section
variable {K : PySem.W.Frag}
def uF' (K : PySem.W.Frag) : List V -> Hp -> VK -> Prop := fun xs H Q => ∃ (d : Addr) (ps : List (Key × V)) (ns : List Int), xs = [.ref d] /\ Rd H d (.dK ps) /\ ps.map (·.1) = ns.map Sum.inl /\ ns.length <= sizeLine ∧
    ∀ (ms : List Int) (l : Addr), ms.Perm ns -> ms.Pairwise (· <= ·) -> H l = none -> Q (.ref l) (upd H l (.lst (ms.map V.int)))
theorem iB' {X : Cx} (hc : X.calm = true) : CallR X (.builtin "sorted") (uF' X.K) := by
  intro pins s σ H xs us Q I r hq
  obtain ⟨d, ps, ns, rfl, hrd, hns, hz, hq⟩ := hq
  obtain ⟨u0, rfl, ru⟩ := vals1 r
  cases ru
  obtain ⟨_, lo, vs, rel, dd⟩ := dk_rd I.hok hrd
  obtain ⟨ep0, hat⟩ := dd.dictAt
  have hk1 : vs.map (·.1) = ns.map Sum.inl := rel.keys.symm.trans hns
  have hl1 : vs.length = ns.length := by
    have := congrArg List.length hk1
    simpa using this
  refine Calls.call_function_entry kind_sorted plain_sorted entry_sorted (args_sorted1 _) ?_
  unfold Builtin.«sorted»
  refine wpAny_bind (m := checkCount "sorted" 1 1 _) (wpAny_pure ?_)
  refine wpAny_bind (PySem.W.kdu_collect (A := X.A.in1) (PySem.W.kdl_dict (knd := mixKind X.prog X.w) (kvs := vs) (ep := ep0) lo) (I.ok.hd hc) hat (by rw [hl1]; exact hz) fun hp tk keys hkeep hall => ?_)
  have hlen0 : keys.toList.length = ns.length := by rw [Array.length_toList, hall.1, hl1]
  have hI : IntsAre keys.toList ns := ints_each hlen0 fun j v ev => by
    obtain ⟨k, y, z1, z2⟩ := hall.2 j v (by rw [<- Array.getElem?_toList]; exact ev)
    have z3 : (vs.map (·.1))[j]? = some k := by rw [List.getElem?_map, z1]; rfl
    rw [hk1, List.getElem?_map] at z3
    cases z4 : ns[j]? with
    | none => rw [z4] at z3; cases z3
    | some n0 =>
      rw [z4] at z3
      obtain rfl : Sum.inl n0 = k := Option.some.inj z3
      rcases keyIs_shape (show keyIs (Sum.inl n0) v = true from z2) with ⟨i, t, ei, et⟩ | ⟨z, t, ei, et⟩
      . cases ei
        exact ⟨n0, t, rfl, et⟩
      . cases ei
  have I1 : Inv X pins σ H { s with heap := hp, toks := tk } := I.kept hkeep
  refine wpAny_bind (wpAny_newList ?_ (by rw [hlen0]; exact hz))
  have hoL : (hp.push (seqObj "list" keys.toList.toArray 0)).get? hp.objs.size = some (seqObj "list" keys.toList.toArray 0) := Heap.get?_push_size _ rfl
  show wpAny _ _ _ _ _ { s with heap := hp.push (seqObj "list" keys.toList.toArray 0), toks := tk }
  refine wpAny_bind (wpAny_holding (wpAny_call_entry slot_list_sort ⟨_, hoL, rfl⟩ entry_list_sort
    (SrtO.list_sort_ord (s := { s with heap := hp.push (seqObj "list" keys.toList.toArray 0), toks := tk }) SrtO.swo_int hoL (by rw [hlen0]; exact hz) (fun two => SrtO.ints_sortable hI two) fun out g1 g2 => ⟨_, rfl, ?_⟩) (args_list_sort _)))
  obtain ⟨y1, y2, y3⟩ := SrtO.ints_out hI g1 g2
  obtain ⟨e0, he0⟩ := sortedHeap_at (vs := keys.toList) (out := out.toArray) hoL
  have hlen : ((out.map SrtO.iv).map V.int).length <= sizeLine := by
    rw [List.length_map, y2.length_eq]; exact hz
  refine wpAny_pure ⟨_, rfl, .ref hp.objs.size, upd H hp.objs.size (.lst ((out.map SrtO.iv).map V.int)), I1.laid (t' := tk) (fun b u eb => ?_) (Nat.le_refl _)
    ⟨hlen, out, e0, vals_of_ints y1, he0⟩, rfl, hq _ _ y2 y3 (I1.hok.fresh (Nat.le_refl _))⟩
  have hb : b < hp.objs.size := Heap.lt_size eb
  rw [sortedHeap_old (Nat.ne_of_lt hb) (by rw [size_push']; exact Nat.lt_succ_of_lt hb)]
  exact Heap.get?_push_of_some _ eb
theorem ku' : ∀ {kvs : List (Key × V)} {ns : List Int}, M.bs' (kvs.map fun p => kD p.1) = some ns -> kvs.map (·.1) = ns.map Sum.inl
  | [], ns, h => by cases h; rfl
  | p :: kvs, ns, h => by
    obtain ⟨k, v⟩ := p
    cases k with
    | inl i =>
      have h : (M.bs' (kvs.map fun p => kD p.1)).map (fun x => i :: x) = some ns := h
      cases q : M.bs' (kvs.map fun p => kD p.1) with
      | none => rw [q] at h; cases h
      | some ms =>
        rw [q] at h
        cases h
        rw [List.map_cons, List.map_cons, ku' q]
    | inr x => cases (show (none : Option (List Int)) = some ns from h)
theorem r8' : Bi1 K M.dW' (uF' K) := by
  intro F H T fp x dx dz Q f hx h k
  cases dx <;> try (cases h; done)
  cases hx with
  | @dct a kvs _ hd ok za =>
    simp only [M.dW'] at h
    cases q : M.bs' (kvs.map fun p => kD p.1) with
    | none => rw [q] at h; cases h
    | some ns =>
      rw [q, Option.bind_some] at h
      split at h
      . rename_i hl
        cases h
        refine ⟨a, kvs, ns, rfl, f4' f.low hd, ku' q, hl, fun ys p hp hs hn => ?_⟩
        rw [nq' hp hs]
        exact k.newL f (FzA.rgI _) hn
      . cases h
end
def oq' (p d : Addr) : HO := .ext fun h => h.IsValuesView p d
theorem sw' {P : Program} {w : World} {H : Hp} {h : Heap} {p d : Addr} (e : h.IsValuesView p d) : ObjOk P w H h p (oq' p d) := by
  obtain ⟨o, e1, e2⟩ := id e
  refine ⟨e, ⟨o, e1⟩, ?_⟩
  rintro h1 h2 ⟨o', q1, q2⟩ k
  exact ⟨o', k _ q1, q2⟩
def A7' (te : TE) : TE := fun σ H Q => te σ H fun x H1 => ∃ a kvs, x = .ref a /\ Rd H1 a (.dK kvs) /\ ∀ p, H1 p = none -> Q (.ref p) (upd H1 p (oq' p a))
def Bl' : List V -> Hp -> VK -> Prop := fun xs H Q => ∃ (p a : Addr) (kvs : List (Key × V)) (ns : List Int), xs = [.ref p] /\ H p = some (oq' p a) /\ Rd H a (.dK kvs) /\ kvs.map Prod.snd = ns.map V.int /\ 0 < ns.length /\ ∀ m, m ∈ ns -> (∀ y, y ∈ ns -> y <= m) -> Q (.int m) H
section
variable {X : Cx} {W : WX} {e : Expr} {te : TE} {apos cpos pos p : Pos} {me : M.ME}
theorem v0' (he : PE X e te) (hbase : attributeBase e "values" X.env (eval e X.env) = eval e X.env := by rfl) (hline : (apos.endLine == cpos.line) = true := by rfl) : PE X (.Call (.Attribute e "values" apos) [] [] cpos) (A7' te) := by
  refine ⟨fun pins s σ H Q I h => wpAny_Call_method (T := "dict") (id := "dict.values") hbase rfl hline PySem.F.plainAttrs_dict PySem.F.slot_dict_values PySem.F.type_dict_values (thn (he.run pins s σ H _ I h) fun u s1 ⟨x, H1, I1, rx, a, kvs, ex, hd, q⟩ => ?_)⟩
  subst ex
  cases (show u = Value.ref a from rx)
  obtain ⟨z, hs, vs, rel, dd⟩ := dk_rd I1.hok hd
  refine ⟨dd.typeIs, dd.mapOf.noDict, ?_⟩
  have J := I1.laid (a := s1.heap.objs.size) (o := oq' s1.heap.objs.size a) (h' := s1.heap.push { cls := .type "dict_values", data := .fields #[.ref a] }) (t' := s1.toks) (fun _ _ q => Heap.get?_push_of_some _ q) (Nat.le_refl _)
    (sw' ⟨_, Heap.get?_push_size _ rfl, rfl, rfl⟩)
  show wpAny _ _ (callWith cpos (.builtin "dict.values") [.ref a] [] []) _ X.xe s1
  exact method_meetsIn PySem.F.slot_dict_values PySem.F.entry_dict_values rfl (PySem.evalArgs_none ⟨rfl, dd.typeIs, PySem.F.args_dict_values_1 _, _, meets_dict_values (mixKind X.prog X.w) a hs, ⟨vs, dd⟩, ⟨.ref s1.heap.objs.size, _, J, rfl, q _ (I1.hok.fresh (Nat.le_refl _))⟩⟩)
theorem xc' (hc : X.calm = true) : CallR X (.builtin "max") Bl' := by
  intro pins s σ H xs us Q I rx h
  obtain ⟨p, a, kvs, ns, rfl, hp, hd, hns, hne, q⟩ := h
  rw [Vals.ref1 rx]
  obtain ⟨z, hs, vs, rel, dd⟩ := dk_rd I.hok hd
  have hv : s.heap.IsValuesView p a := (show ObjOk X.prog X.w H s.heap p (oq' p a) from I.hok p _ hp).1
  have hkn : vs.length = ns.length := by
    have e := congrArg List.length hns
    rw [List.length_map, List.length_map] at e
    rw [<- rel.length]
    exact e
  obtain ⟨o, es, ep, g1, g2, g3, g4, g5, g6⟩ := id dd
  have da : s.heap.DictAt (mixKind X.prog X.w) a vs ep := ⟨o, es, g1, g2, g3, g4, g5, g6⟩
  have hP : ∀ (i : Nat) (k : Key) (v : Value), vs[i]? = some (k, v) -> ∃ t, v = .int (ns.getD i 0) t := by
    intro i k v hi
    have hi1 : i < vs.length := (List.getElem?_eq_some_iff.mp hi).1
    have hi2 : i < kvs.length := by rw [rel.length]; exact hi1
    have hi3 : i < ns.length := by omega
    have e2 : kvs[i].2 = V.int ns[i] := by
      have z : (kvs.map Prod.snd)[i]? = (ns.map V.int)[i]? := by rw [hns]
      rw [List.getElem?_map, List.getElem?_map, List.getElem?_eq_getElem hi2, List.getElem?_eq_getElem hi3] at z
      exact Option.some.inj z
    have e3 : ns.getD i 0 = ns[i] := by rw [List.getD_eq_getElem?_getD, List.getElem?_eq_getElem hi3]; rfl
    have main : ∀ {l : List (Key × V)} {m : List (Key × Value)} (i : Nat) (p : Key × V), KV l m -> l[i]? = some p -> ∀ q, m[i]? = some q -> RelV p.2 q.2 := by
      intro l m i p h
      unfold KV at h
      induction h generalizing i with
      | nil => intro e; cases e
      | cons r _ ih =>
        cases i with
        | zero => intro e q e'; cases e; cases e'; exact r.2
        | succ i => exact fun e q e' => ih i e q e'
    have r := main i kvs[i] rel (List.getElem?_eq_getElem hi2) _ hi
    rw [e2] at r
    rw [e3]
    exact r
  have ha : a < s.heap.objs.size := Heap.lt_size g1
  refine call_max_walk (wpAny_pyIter_values (d := a) (knd := mixKind X.prog X.w) hv da ?_)
  refine ⟨s.heap.objs.size, [s.heap.objs.size, a], [s.heap.objs.size], vs.length, fun i v => ∃ k, vs[i]? = some (k, v), _, fun i j => decide (ns.getD i 0 > ns.getD j 0), rfl,
    Walks.dictValues (knd := mixKind X.prog X.w) (show X.A.in1.handled = none from I.ok.hd hc) _ a (Nat.ne_of_lt ha) vs ep, ⟨⟨_, Heap.get?_push_size _ rfl, rfl, rfl⟩, da.push _⟩, fun b hb => ?_, by omega, CmpOf.ints_gt (fun i => ns.getD i 0) (fun i v z => (let ⟨k, z⟩ := z; hP i k v z)), fun v h' tk hv' hk => ?_⟩
  . show b < (s.heap.push _).objs.size
    rw [Heap.size_push]
    rcases List.mem_cons.mp hb with z | z
    . rw [z]; exact Nat.lt_succ_self _
    . rw [List.mem_singleton.mp z]; exact Nat.lt_succ_of_lt ha
  . obtain ⟨k, hv'⟩ := hv'
    obtain ⟨t, rfl⟩ := hP _ k v hv'
    obtain ⟨m1', m2'⟩ := argBest_gt (fun i => ns.getD i 0) (vs.length - 1)
    have m1 : argBest (fun i j => decide (ns.getD i 0 > ns.getD j 0)) (vs.length - 1) <= vs.length - 1 := m1'
    have m2 : ∀ j, j <= vs.length - 1 -> ns.getD j 0 <= ns.getD (argBest (fun i j => decide (ns.getD i 0 > ns.getD j 0)) (vs.length - 1)) 0 := m2'
    have hk2 : ∀ b o, s.heap.get? b = some o -> h'.get? b = some o := fun b o e => hk b o (fun z => by rw [List.mem_singleton.mp z] at e; exact absurd (Heap.lt_size e) (Nat.lt_irrefl _)) (Heap.get?_push_of_some _ e)
    refine ⟨.int _, H, I.kept (t' := tk) hk2, ⟨t, rfl⟩, q _ (PySem.getD_mem (by omega)) fun y hy => ?_⟩
    obtain ⟨j, hj, e⟩ := List.mem_iff_getElem.mp hy
    have z := m2 j (by omega)
    have e3 : ns.getD j 0 = y := by rw [List.getD_eq_getElem?_getD, List.getElem?_eq_getElem hj, <- e]; rfl
    rw [e3] at z
    exact z
theorem qC' {x : Str} (hc : X.calm = true) (hg : Gl X x) (hm : X.mg x = none) (hv : bootBuiltins x = some (.builtin "max")) (he : SE X W e me) (hn : x ≠ "__name__" := by decide) (hdb : (x == ("__debug__" : Str)) = false := by decide)
    (hbase : attributeBase e "values" X.env (eval e X.env) = eval e X.env := by rfl) (hline : (apos.endLine == cpos.line) = true := by rfl)
    (hs : starEach [(.Call (.Attribute e "values" apos) [] [] cpos)] X.env = (false, eval (.Call (.Attribute e "values" apos) [] [] cpos) X.env) :: starEach [] X.env := by rfl) (hpl : (backTo pos (starEach [] X.env)).any (·.1) = false := by rfl) :
    SE X W (.Call (.Name x p) [.Call (.Attribute e "values" apos) [] [] cpos] [] pos) (M.eUn M.oD' me) :=
  PE.imp (pe_callB (xc' hc) hg hm hv (pa_cons (v0' he hbase hline) pa_nil hs) hn hdb hs hpl) fun σ H Q ⟨ρ, F, T, fr, rel, h⟩ => by
    refine aA' rel h fun d ρ1 v H1 F1 T1 e1 z1 r1 h1 => ?_
    obtain ⟨dz, ez, q⟩ := aW'.ofO h1
    cases d <;> try (cases ez; done)
    rename_i ks vs
    cases z1 with
    | @dct a kvs _ hd ok za =>
      simp only [M.oD'] at ez
      cases qi : M.bs' vs with
      | none => rw [qi] at ez; cases ez
      | some ns =>
        rw [qi, Option.bind_some] at ez
        split at ez
        . cases ez
        . rename_i hne
          cases ez
          obtain ⟨fp, f, back⟩ := r1.fp
          have hR := f4' f.low hd
          refine ⟨a, kvs, rfl, hR, fun p hp => ⟨p, a, kvs, ns, rfl, upd_same, ?_, jb' za qi, List.length_pos_iff.mpr hne, fun m hm hM => ?_⟩⟩
          . rcases hR with hR | ⟨o, hR⟩
            . exact .inl (by rw [upd_ne (ne_of_none hR hp)]; exact hR)
            . exact .inr ⟨o, by rw [upd_ne (ne_of_none hR hp)]; exact hR⟩
          . rw [<- kk' ns m hm hM] at *
            have s : Same F1 (upd F1 p (oq' p a)) := cy' (f.free hp)
            exact q _ _ _ T1 (e1.trans (.of s)) (.int _) (back _ _ s (f.new hp))
end
end S
namespace S
open PySem PySem.Spec PyProof.Rows L2
variable [Wd] [Hot]
section
variable {K : PySem.W.Frag} {F H : Hp} {T : List Addr}
mutual
theorem gX' : ∀ {v : V} {d : M.D}, Fz K F T v d -> M.dat d = true -> M.qP' d = true -> (py d).leavesShort 62 = true /\ (py d).showable = true /\ (py d).hasDict = false /\ (py d).bulk = M.oz' d
  | _, _, .non, _, _ => ⟨rfl, rfl, rfl, rfl⟩
  | _, _, .bl b, _, _ => ⟨rfl, rfl, rfl, rfl⟩
  | _, _, .int i, _, h => by
    have h : i.natAbs < 10 ^ 60 := of_decide_eq_true h
    refine ⟨?_, ?_, rfl, rfl⟩
    . show decide ((Str.ofString (toString i)).length <= 62) = true
      rw [decide_eq_true_iff, PySem.ofString_length]
      have := int_text_length_le10 (k := 60) (by decide) h
      omega
    . show decide (i.natAbs.log2 < 1920) = true
      rw [decide_eq_true_iff]
      have h2 : i.natAbs < 2 ^ 1920 := Nat.lt_of_lt_of_le h (by decide +kernel)
      by_cases h0 : i.natAbs = 0
      . rw [h0]; decide
      . exact (Nat.log2_lt h0).mpr h2
  | _, _, .str (s := s) o, _, _ => by
    refine ⟨?_, rfl, rfl, ?_⟩
    . show (sx s).cps.toList.all _ = true
      rw [eE', List.all_eq_true]
      intro c hc
      rw [decide_eq_true_iff]
      have := o.1 c hc
      omega
    . exact ct' s
  | _, _, .tup h r, e, g => by
    obtain ⟨a, b, c, d⟩ := reps_facts r e g
    exact ⟨a, b, c, d⟩
  | _, _, .lst h r, e, g => by
    obtain ⟨a, b, c, d⟩ := reps_facts r e g
    exact ⟨a, b, c, d⟩
  | _, _, .dct h _ r, e, _ => by cases e
  | _, _, .dcl h k r, e, _ => by cases e
  | _, _, .dcn h k q r, e, _ => by cases e
  | _, _, .rep d, e, _ => by cases e
  | _, _, .obj h, e, _ => by cases e
  | _, _, .ty n, e, _ => by cases e
  | _, _, .fn x, e, _ => by cases e
  | _, _, .scr h r, e, _ => by cases e
theorem reps_facts : ∀ {vs : List V} {ds : List M.D}, FzA K F T vs ds -> M.dats ds = true -> M.repIs ds = true -> PyData.leavesShortAll 62 (pys ds) = true /\ PyData.showableAll (pys ds) = true /\ PyData.hasDictAll (pys ds) = false /\ PyData.bulkAll (pys ds) = M.repWs ds
  | _, _, .nil, _, _ => ⟨rfl, rfl, rfl, rfl⟩
  | _, _, .cons h r, e, g => by
    obtain ⟨e1, e2⟩ := Bool.and_eq_true_iff.mp (show (M.dat _ && M.dats _) = true from e)
    obtain ⟨g1, g2⟩ := Bool.and_eq_true_iff.mp (show (M.qP' _ && M.repIs _) = true from g)
    obtain ⟨a1, a2, a3, a4⟩ := gX' h e1 g1
    obtain ⟨b1, b2, b3, b4⟩ := reps_facts r e2 g2
    refine ⟨?_, ?_, ?_, ?_⟩
    . show (PyData.leavesShort 62 _ && PyData.leavesShortAll 62 _) = true
      rw [a1, b1]; rfl
    . show (PyData.showable _ && PyData.showableAll _) = true
      rw [a2, b2]; rfl
    . show (PyData.hasDict _ || PyData.hasDictAll _) = false
      rw [a3, b3]; rfl
    . show PyData.bulk _ + 1 + PyData.bulkAll _ = M.oz' _ + 1 + M.repWs _
      rw [a4, b4]
end
mutual
theorem lr' : ∀ d e : M.D, M.same d e = true -> d = e
  | .non, e, h => by cases e <;> first | rfl | (cases h)
  | .bl a, e, h => by cases e <;> first | (have := eq_of_beq (show (_ == _) = true from h); rw [this]) | (cases h)
  | .int a, e, h => by cases e <;> first | (have := eq_of_beq (show (_ == _) = true from h); rw [this]) | (cases h)
  | .str a, e, h => by cases e <;> first | (have := eq_of_beq (show (_ == _) = true from h); rw [this]) | (cases h)
  | .lst a, e, h => by
    cases e with
    | lst b => rw [sames_eq a b h]
    | _ => cases h
  | .tup a, e, h => by
    cases e with
    | tup b => rw [sames_eq a b h]
    | _ => cases h
  | .dct a b, e, h => by
    cases e with
    | dct c d =>
      obtain ⟨h1, h2⟩ := Bool.and_eq_true_iff.mp (show (M.sames a c && M.sames b d) = true from h)
      rw [sames_eq a c h1, sames_eq b d h2]
    | _ => cases h
  | .dcx _ _, e, h => by cases e <;> cases h
  | .rep _, e, h => by cases e <;> cases h
  | .obj _, e, h => by cases e <;> cases h
  | .ty _, e, h => by cases e <;> cases h
  | .fn _, e, h => by cases e <;> cases h
  | .exc _ _, e, h => by cases e <;> cases h
  | .scr _, e, h => by cases e <;> cases h
theorem sames_eq : ∀ d e : List M.D, M.sames d e = true -> d = e
  | [], [], _ => rfl
  | [], _ :: _, h => by cases h
  | _ :: _, [], h => by cases h
  | a :: d, b :: e, h => by
    obtain ⟨h1, h2⟩ := Bool.and_eq_true_iff.mp (show (M.same a b && M.sames d e) = true from h)
    rw [lr' a b h1, sames_eq d e h2]
end
end
section
variable {K : PySem.W.Frag} {F H : Hp} {T : List Addr}
theorem FzA.keys : ∀ {kvs : List (Key × V)}, k9' kvs -> FzA K F T (kvs.map fun p => kV p.1) (kvs.map fun p => kD p.1)
  | [], _ => .nil
  | (k, v) :: r, h => by
    have hk := h (k, v) (List.mem_cons_self ..)
    refine .cons ?_ (FzA.keys fun p hp => h p (List.mem_cons_of_mem _ hp))
    cases k with
    | inl i => exact .int i
    | inr x =>
      have : Fz K F T (.str (sx x.cps.toList)) (.str x.cps.toList) := .str hk
      exact this
theorem hF' : ∀ kvs : List (Key × V), M.dats (kvs.map fun p => kD p.1) = true
  | [] => rfl
  | (k, v) :: r => by
    show (M.dat (kD k) && M.dats (r.map fun p => kD p.1)) = true
    rw [hF' r]
    cases k <;> rfl
theorem dY' : ∀ {ds : List M.D}, ds.all M.er' = true -> M.dats ds = true
  | [], _ => rfl
  | d :: r, h => by
    rw [List.all_cons, Bool.and_eq_true] at h
    show (M.dat d && M.dats r) = true
    rw [dY' h.2]
    cases d <;> first | rfl | cases h.1
theorem uO' : ∀ {ks ds : List PyData}, ks.length = ds.length -> PyData.leavesShortAll 62 ks = true -> PyData.leavesShortAll 62 ds = true -> PyData.showableAll ks = true -> PyData.showableAll ds = true →
    PyData.leavesShortKv 62 (ks.zip ds) = true /\ PyData.showableKv (ks.zip ds) = true /\ PyData.bulkKv (ks.zip ds) = PyData.bulkAll ks + PyData.bulkAll ds /\ PyData.depthKv (ks.zip ds) = max (PyData.depthAll ks) (PyData.depthAll ds)
  | [], [], _, _, _, _, _ => ⟨rfl, rfl, rfl, rfl⟩
  | [], _ :: _, e, _, _, _, _ => by cases e
  | _ :: _, [], e, _, _, _, _ => by cases e
  | k :: ks, d :: ds, e, a1, b1, a2, b2 => by
    obtain ⟨a1, a1'⟩ := Bool.and_eq_true_iff.mp (show (PyData.leavesShort 62 k && PyData.leavesShortAll 62 ks) = true from a1)
    obtain ⟨b1, b1'⟩ := Bool.and_eq_true_iff.mp (show (PyData.leavesShort 62 d && PyData.leavesShortAll 62 ds) = true from b1)
    obtain ⟨a2, a2'⟩ := Bool.and_eq_true_iff.mp (show (PyData.showable k && PyData.showableAll ks) = true from a2)
    obtain ⟨b2, b2'⟩ := Bool.and_eq_true_iff.mp (show (PyData.showable d && PyData.showableAll ds) = true from b2)
    obtain ⟨h1, h2, h3, h4⟩ := uO' (Nat.succ.inj e) a1' b1' a2' b2'
    refine ⟨?_, ?_, ?_, ?_⟩
    . show (PyData.leavesShort 62 k && PyData.leavesShort 62 d && PyData.leavesShortKv 62 (ks.zip ds)) = true
      rw [a1, b1, h1]; rfl
    . show (PyData.showable k && PyData.showable d && PyData.showableKv (ks.zip ds)) = true
      rw [a2, b2, h2]; rfl
    . show PyData.bulk k + PyData.bulk d + 2 + PyData.bulkKv (ks.zip ds) = (PyData.bulk k + 1 + PyData.bulkAll ks) + (PyData.bulk d + 1 + PyData.bulkAll ds)
      rw [h3]; omega
    . show max (max (PyData.depth k) (PyData.depth d)) (PyData.depthKv (ks.zip ds)) = max (max (PyData.depth k) (PyData.depthAll ks)) (max (PyData.depth d) (PyData.depthAll ds))
      rw [h4]; omega
theorem ly' : ∀ ds : List M.D, (pys ds).length = ds.length
  | [] => rfl
  | _ :: r => congrArg (· + 1) (ly' r)
theorem FzA.len : ∀ {vs : List V} {ds : List M.D}, FzA K F T vs ds -> vs.length = ds.length
  | _, _, .nil => rfl
  | _, _, .cons _ r => congrArg (· + 1) (FzA.len r)
theorem kE' : ∀ kvs : List (Key × V), M.deps (kvs.map fun p => kD p.1) = 0
  | [] => rfl
  | (k, v) :: r => by
    show max (M.dep (kD k)) (M.deps (r.map fun p => kD p.1)) = 0
    rw [kE' r]
    cases k <;> rfl
theorem iw' : ∀ {ds : List M.D}, ds.all M.er' = true -> M.deps ds = 0
  | [], _ => rfl
  | d :: r, h => by
    rw [List.all_cons, Bool.and_eq_true] at h
    show max (M.dep d) (M.deps r) = 0
    rw [iw' h.2]
    cases d <;> first | rfl | cases h.1
def kP : Key -> PyData := fun k => py (kD k)
inductive Dq0 (K : PySem.W.Frag) (H : Hp) : V -> PyData -> Prop
  | dp {v : V} {d : PyData} : Dp K H v d -> d.hasDict = false -> Dq0 K H v d
  | dct {a : Addr} {kvs : List (Key × V)} {ds : List M.D} : Rd H a (.dK kvs) -> k9' kvs -> DpAll K H (kvs.map (·.2)) (pys ds) -> ds.all M.er' = true -> Dq0 K H (.ref a) (.dict ((pys (kvs.map fun p => kD p.1)).zip (pys ds)))
inductive LqAll (K : PySem.W.Frag) (H : Hp) : List V -> List M.D -> Prop
  | nil : LqAll K H [] []
  | leaf {v : V} {d : M.D} {vs : List V} {ds : List M.D} : Dp K H v (py d) -> M.er' d = true -> LqAll K H vs ds -> LqAll K H (v :: vs) (d :: ds)
  | emp {a : Addr} {vs : List V} {ds : List M.D} : Rd H a (.dK []) -> LqAll K H vs ds -> LqAll K H (.ref a :: vs) (.dct [] [] :: ds)
inductive Dq (K : PySem.W.Frag) (H : Hp) : V -> PyData -> Prop
  | old {v : V} {d : PyData} : Dq0 K H v d -> Dq K H v d
  | tupE {a : Addr} {vs : List V} {ds : List M.D} : SqT K H a vs -> LqAll K H vs ds -> Dq K H (.ref a) (.tuple (pys ds))
theorem km' {d : M.D} (h : M.er' d = true) : M.dat d = true := by cases d <;> first | rfl | cases h
theorem rD' {d : M.D} (h : M.er' d = true) : (py d).depth = 0 := by cases d <;> first | rfl | cases h
theorem yS' (s : Same F H) : ∀ {vs : List V} {ds : List M.D}, FzA K F T vs ds -> (ds.all fun d => M.er' d || M.BJ' d) = true -> M.repIs ds = true →
    LqAll K H vs ds /\ PyData.leavesShortAll 62 (pys ds) = true /\ PyData.showableAll (pys ds) = true /\ PyData.depthAll (pys ds) <= 1 /\ PyData.bulkAll (pys ds) = M.repWs ds
  | _, _, .nil, _, _ => ⟨.nil, rfl, rfl, Nat.zero_le 1, rfl⟩
  | _, _, .cons (v := v) (d := d) (ds := ds) h r, e, g => by
    rw [List.all_cons, Bool.and_eq_true] at e
    obtain ⟨g1, g2⟩ := Bool.and_eq_true_iff.mp (show (M.qP' _ && M.repIs _) = true from g)
    obtain ⟨b0, b1, b2, b3, b4⟩ := yS' s r e.2 g2
    cases hl : M.er' d with
    | true =>
      obtain ⟨a1, a2, a3, a4⟩ := gX' h (km' hl) g1
      refine ⟨.leaf (h.py s (km' hl)) hl b0, ?_, ?_, ?_, ?_⟩
      . show (PyData.leavesShort 62 _ && PyData.leavesShortAll 62 _) = true
        rw [a1, b1]; rfl
      . show (PyData.showable _ && PyData.showableAll _) = true
        rw [a2, b2]; rfl
      . show max (PyData.depth _) (PyData.depthAll _) <= 1
        rw [rD' hl]; omega
      . show PyData.bulk _ + 1 + PyData.bulkAll _ = M.oz' _ + 1 + M.repWs _
        rw [a4, b4]
    | false =>
      have e1 := e.1
      rw [hl, Bool.false_or] at e1
      cases h with
      | @dct a kvs es hr k r' =>
        have h1 : kvs = [] /\ es = [] := by
          cases kvs with
          | nil => cases es with
            | nil => exact ⟨rfl, rfl⟩
            | cons _ _ => cases e1
          | cons _ _ => cases e1
        obtain ⟨rfl, rfl⟩ := h1
        refine ⟨.emp (f4' s hr) b0, ?_, ?_, ?_, ?_⟩
        . show (PyData.leavesShort 62 (.dict []) && PyData.leavesShortAll 62 _) = true
          rw [b1]; rfl
        . show (PyData.showable (.dict []) && PyData.showableAll _) = true
          rw [b2]; rfl
        . show max (PyData.depth (.dict [])) (PyData.depthAll _) <= 1
          rw [show PyData.depth (.dict []) = 1 from rfl]; omega
        . show PyData.bulk (.dict []) + 1 + PyData.bulkAll _ = M.oz' (.dct [] []) + 1 + M.repWs _
          rw [b4]; rfl
      | _ => cases e1
theorem yk' {v : V} {d : M.D} (s : Same F H) (h : Fz K F T v d) (c1 : M.xq' d = true) (c2 : M.dep d <= 40) (c3 : M.qP' d = true) :
    Dq K H v (py d) /\ (py d).leavesShort 62 = true /\ (py d).showable = true /\ (py d).depth <= 40 /\ (py d).bulk = M.oz' d := by
  have old (e : M.dat d = true) : Dq K H v (py d) /\ (py d).leavesShort 62 = true /\ (py d).showable = true /\ (py d).depth <= 40 /\ (py d).bulk = M.oz' d := by
    obtain ⟨a1, a2, a3, a4⟩ := gX' h e c3
    exact ⟨.old (.dp (h.py s e) a3), a1, a2, by rw [(nV' h e).2]; exact c2, a4⟩
  cases h with
  | @dct a kvs ds h k r =>
    have c1 : ds.all M.er' = true := c1
    obtain ⟨c3, c3'⟩ := Bool.and_eq_true_iff.mp (show (M.repIs (kvs.map fun p => kD p.1) && M.repIs ds) = true from c3)
    obtain ⟨a1, a2, a3, a4⟩ := reps_facts (FzA.keys (K := K) (F := F) (T := T) k) (hF' kvs) c3
    obtain ⟨b1, b2, b3, b4⟩ := reps_facts r (dY' c1) c3'
    have hl : (pys (kvs.map fun p => kD p.1)).length = (pys ds).length := by
      rw [ly', ly', List.length_map, <- r.len, List.length_map]
    obtain ⟨z1, z2, z3, z4⟩ := uO' hl a1 b1 a2 b2
    refine ⟨.old (.dct (f4' s h) k (r.py s (dY' c1)) c1), z1, z2, ?_, ?_⟩
    . show PyData.depthKv _ + 1 <= 40
      rw [z4, (lays_of (FzA.keys (K := K) (F := F) (T := T) k) (hF' kvs)).2, kE', (lays_of r (dY' c1)).2, iw' c1]
      decide
    . show PyData.bulkKv _ = M.repWs _ + M.repWs _
      rw [z3, a4, b4]
  | @tup a vs ds h r =>
    cases hd : M.dats ds with
    | true => exact old hd
    | false =>
      have c1 : (M.dats ds || ds.all fun d => M.er' d || M.BJ' d) = true := c1
      rw [hd, Bool.false_or] at c1
      obtain ⟨b0, b1, b2, b3, b4⟩ := yS' s r c1 c3
      refine ⟨.tupE (SqT.low s h) b0, b1, b2, ?_, b4⟩
      show PyData.depthAll _ + 1 <= 40
      omega
  | _ => exact old c1
end
section
variable {X : Cx} {pins : List (Addr × Obj)} {σ : St} {H : Hp} {s : Shared}
theorem eq' (I : Inv X pins σ H s) {d : M.D} {v : V} {u : Value} (l : M.er' d = true) (h : Dp X.K H v (py d)) (r : RelV v u) : Reads s.heap u (py d) [] := by
  cases d with
  | non => cases h; cases r; exact .none
  | bl b => cases h; cases r; exact .bool b
  | int i => cases h; obtain ⟨t, rfl⟩ := r; exact .int i t
  | str x => cases h; obtain ⟨t, rfl⟩ := r; exact .str _ t
  | _ => cases l
theorem il' (I : Inv X pins σ H s) : ∀ {kvs : List (Key × V)} {vs : List (Key × Value)} {ds : List M.D}, KV kvs vs -> DpAll X.K H (kvs.map (·.2)) (pys ds) -> ds.all M.er' = true →
    PyProof.V.PairsRead s.heap kP vs ((pys (kvs.map fun p => kD p.1)).zip (pys ds)) []
  | _, _, [], .nil, _, _ => .nil
  | _, _, _ :: _, .nil, h, _ => by cases h
  | _, _, [], .cons _ _, h, _ => by cases h
  | (k, v) :: kvs, (k', u) :: vs, d :: ds, .cons hr hp, h, l => by
    obtain ⟨he, hr⟩ := hr
    have he : k = k' := he
    subst he
    rw [List.all_cons, Bool.and_eq_true] at l
    cases h with
    | cons h1 h2 =>
      have := PyProof.V.PairsRead.cons (enc := kP) (k := k) (eq' I l.1 h1 hr) (il' I hp h2 l.2)
      exact this
theorem Dq0.reads (I : Inv X pins σ H s) {d : PyData} {v : V} {u : Value} (h : Dq0 X.K H v d) (r : RelV v u) : ∃ as, Reads s.heap u d as /\ (d.hasDict = true -> sysModules ∉ as) := by
  cases h with
  | dp dp e =>
    obtain ⟨as, rd⟩ := Dp.reads I d v u dp r
    exact ⟨as, rd, PyData.noDict_hsm e⟩
  | @dct a kvs ds e k dd l =>
    cases r
    obtain ⟨_, hs, vs, rk, hd⟩ := dk_rd I.hok e
    refine ⟨[a], PyProof.V.reads_dictOf (enc := kP) (fun k key hk => ?_) hd (il' I rk dd l), fun _ hm => ?_⟩
    . rcases keyIs_shape hk with ⟨i, t, rfl, rfl⟩ | ⟨x, t, rfl, rfl⟩
      . exact .int i t
      . exact .str _ t
    . have := List.mem_singleton.mp hm
      rw [<- this] at hs
      simp at hs
theorem tq' (I : Inv X pins σ H s) : ∀ {vs : List V} {us : List Value} {ds : List M.D}, LqAll X.K H vs ds -> Vals vs us -> ∃ as, ReadsAll s.heap us (pys ds) as /\ sysModules ∉ as := by
  intro vs us ds h
  induction h generalizing us with
  | nil =>
    intro r
    cases r
    exact ⟨[], .nil, by simp⟩
  | leaf h1 h2 _ ih =>
    intro r
    cases r with
    | cons r1 r2 =>
      obtain ⟨bs, q2, q3⟩ := ih r2
      exact ⟨_, .cons (eq' I h2 h1 r1) q2, by simpa using q3⟩
  | emp h1 _ ih =>
    intro r
    cases r with
    | cons r1 r2 =>
      obtain ⟨bs, q2, q3⟩ := ih r2
      obtain ⟨as, q1, q4⟩ := Dq0.reads I (Dq0.dct (ds := []) h1 (fun p hp => by cases hp) .nil rfl) r1
      exact ⟨_, .cons q1 q2, by
        rw [List.mem_append]
        rintro (h | h)
        . exact q4 rfl h
        . exact q3 h⟩
theorem Dq.reads (I : Inv X pins σ H s) {d : PyData} {v : V} {u : Value} (h : Dq X.K H v d) (r : RelV v u) : ∃ as, Reads s.heap u d as /\ (d.hasDict = true -> sysModules ∉ as) := by
  cases h with
  | old h => exact h.reads I r
  | tupE hs la =>
    cases r
    obtain ⟨its, rv, ⟨o, ho, hc, n, hd⟩, _⟩ := I.tuple hs
    obtain ⟨as, hr, hm⟩ := tq' I la rv
    exact ⟨_, Reads.tuple ho hc hd hr, fun _ => hm⟩
end
def rRep (K : PySem.W.Frag) : List V -> Hp -> VK -> Prop := fun xs H Q => ∃ v d, xs = [v] /\ Dq K H v d /\ d.showable = true /\ d.depth <= 40 /\ d.shown.length <= sizeLine /\ Q (.str d.shown) H
section
variable {X : Cx}
theorem gC' (hu : X.A.units + 64 < cLine) (hg : X.A.guards = some []) : CallR X (.builtin "repr") (rRep X.K) := by
  intro pins s σ H vs us Q I r h
  obtain ⟨v, d, rfl, dp, h1, h3, h4, q⟩ := h
  cases r with
  | @cons _ u _ _ ru rn =>
    cases rn
    obtain ⟨as, rd, hm⟩ := dp.reads I ru
    cases rd with
    | none => exact P.repr_of_none ⟨.str _, H, I.tok _, ⟨_, rfl⟩, q⟩
    | bool b => exact P.repr_of_bool ⟨.str _, H, I.tok _, ⟨_, rfl⟩, q⟩
    | int i t => exact P.repr_of_int (of_decide_eq_true h1) ⟨.str _, H, I.tok _, ⟨_, rfl⟩, q⟩
    | str x t => exact P.repr_of_str (hsz := h4) ⟨.str _, H, I.tok _, ⟨_, rfl⟩, q⟩
    | list a b c e => exact repr_of_reads' (.list a b c e) h1 hm hg (by omega) (fun _ _ z => z) (fun h' u tk hk => ⟨.str _, H, I.kept hk, ⟨_, rfl⟩, q⟩) h4
    | tuple a b c e => exact repr_of_reads' (.tuple a b c e) h1 hm hg (by omega) (fun _ _ z => z) (fun h' u tk hk => ⟨.str _, H, I.kept hk, ⟨_, rfl⟩, q⟩) h4
    | dict a b c e f => exact repr_of_reads' (.dict a b c e f) h1 hm hg (by omega) (fun _ _ z => z) (fun h' u tk hk => ⟨.str _, H, I.kept hk, ⟨_, rfl⟩, q⟩) h4
end
section
variable {K : PySem.W.Frag}
theorem t0' : Bi1 K M.v2' (rRep K) := by
  intro F H T fp x dx dz Q f hx h k
  unfold M.v2' at h
  split at h
  . rename_i hc
    obtain ⟨c1, c2, c3, c4⟩ := hc
    cases h
    obtain ⟨a0, a1, a2, a3, a4⟩ := yk' f.low hx c1 c2 c3
    refine ⟨x, py dx, rfl, a0, a2, a3, ?_, k.here f (.rep dx)⟩
    have := PyData.shown_le_bulk 62 (by decide) (py dx) a1
    rw [a4] at this
    rw [bM']
    show _ <= 16777216
    omega
  . cases h
theorem iS' {F : Hp} {T : List Addr} {v : V} {d : M.D} (h : Fz K F T v (.rep d)) : v = .str (py d).shown := by cases h; rfl
theorem BE' : Op2 K M.Aw' (Bm' K) := by
  intro F H T fp x y dx dy dz Q f hx hy h k
  cases dx <;> try (cases h; done)
  cases dy <;> try (cases h; done)
  simp only [M.Aw'] at h
  split at h
  . rename_i hs
    cases h
    have e := lr' _ _ hs
    subst e
    obtain rfl := iS' hx
    obtain rfl := iS' hy
    exact .inl ⟨rfl, by rw [decide_eq_true rfl]; exact k.here f (.bl true)⟩
  . cases h
theorem BB' : Op2 K M.Av' (Bj' K) := by
  intro F H T fp x y dx dy dz Q f hx hy h k
  cases dx <;> try (cases h; done)
  cases dy <;> try (cases h; done)
  simp only [M.Av'] at h
  split at h
  . rename_i hs
    cases h
    have e := lr' _ _ hs
    subst e
    obtain rfl := iS' hx
    obtain rfl := iS' hy
    exact .inl ⟨rfl, by rw [decide_eq_true rfl]; exact k.here f (.bl false)⟩
  . cases h
end
end S
namespace S
open PySem PySem.Spec PyProof.Rows L2
variable [Wd] [Hot]
local macro_rules | `(tactic| walk_at "parts") => `(tactic| (constructor; (intro e h; simp only [List.mem_append, List.mem_cons, List.not_mem_nil] at *; grind); (intro x; simp only [keys, List.map_append, List.map_cons, List.map_nil, List.count_append, List.count_cons, List.count_nil] at *; omega)))
def CU' (K : PySem.W.Frag) (ps : List (String × String)) (mf : M.MF) : R2 := fun x y H Q => ∃ (C C' : String) (a b dx dy : Addr) (fs gs : List (Str × V)), (C, C') ∈ ps /\ x = .ref a /\ y = .ref b ∧
  H a = some (.ins (He.ga K (Str.ofString C)) dx fs) /\ H b = some (.ins (He.ga K (Str.ofString C')) dy gs) /\ spM K mf [x, y] H (fun v H' => ∃ r, v = .bl r /\ Q (.bl r) H') E0
section
variable {K : PySem.W.Frag} {σ : St} {H : Hp} {Q : VK} {W : WX}
theorem tz' {ps : List (String × String)} {w : M.W} {x y : M.D} (h : M.wB' ps w x y = true) : ∃ n m C C' fs gs, x = .obj n /\ y = .obj m /\ w[n]? = some (.ins C fs) /\ w[m]? = some (.ins C' gs) /\ (C, C') ∈ ps := by
  unfold M.wB' at h
  split at h
  . rename_i n m
    split at h
    . rename_i C fs C' gs e1 e2
      exact ⟨n, m, C, C', fs, gs, rfl, rfl, e1, e2, of_decide_eq_true h⟩
    . cases h
  . cases h
theorem tF' {ps : List (String × String)} {mf : M.MF} {ma mb : M.ME} (h : qE K W (M.xw' ps mf ma mb) σ H Q) : tOp (CU' K ps mf) (qE K W ma) (qE K W mb) σ H Q := by
  obtain ⟨ρ, F, T, fr, rel, h⟩ := h
  refine aA' rel h fun dx ρ1 v H1 F1 T1 e1 z1 r1 h1 => ?_
  refine aA' r1 h1 fun dy ρ2 u H2 F2 T2 e2 z2 r2 h2 => ?_
  split at h2
  . rename_i hi
    obtain ⟨n, m, C, C', fs, gs, rfl, rfl, ew, ew', hC⟩ := tz' hi
    obtain ⟨a, d1, fv, os, f2, hT, rfl, hH, _⟩ := r2.wins ew
    obtain ⟨b, d2, fv', os', f2', hT', rfl, hH', _⟩ := r2.wins ew'
    have z1 := z1.mono e2
    cases z1 with
    | obj t =>
      rw [hT] at t
      cases t
      cases z2 with
      | obj t =>
        rw [hT'] at t
        cases t
        refine ⟨C, C', a, b, d1, d2, _, _, hC, rfl, rfl, hH, hH', ?_⟩
        obtain ⟨fe, fw, re, rw, f⟩ := r2
        refine ⟨[.obj n, .obj m], ρ2.w, F2, T2, fe ++ fr, .cons (.obj hT) (.cons (.obj hT') .nil), ⟨[], fw, xt', rw, f.part (by walk_at "parts")⟩, ?_⟩
        cases em : mf [.obj n, .obj m] ρ2.w with
        | bad => rw [em] at h2; exact h2.elim
        | exc x w' => rw [em] at h2; exact h2.elim
        | ok o w' =>
          rw [em] at h2
          intro w H' F' T' fp e z r
          cases z with
          | fz z =>
            rename_i d
            cases d <;> try exact h2.elim
            cases z
            exact ⟨_, rfl, h2 _ H' F' T' (e1.trans (e2.trans e)) (.bl _) (Rel.reenv (fp := []) re e r)⟩
          | lst _ => exact h2.elim
          | tup _ => exact h2.elim
          | dct _ _ => exact h2.elim
          | dcl _ _ => exact h2.elim
          | dcn _ _ _ => exact h2.elim
  . exact h2.elim
end
section
variable {X : Cx} {W : WX} {pos p : Pos} {a b e : Expr} {ma mb : M.ME} {mo : M.MO} {k : Nat} {args : List Str} {mf : M.MF}
def CL' (K : PySem.W.Frag) (t : M.ET) (c : String) : Prop := (∀ e ∈ t, e.2.1 = c -> Cls K (He.ga K (Str.ofString e.1)) /\ PySem.W.findIn K (.ref (He.ga K (Str.ofString e.1))) "__class__" = some (some (.builtin "object.__class__")) ∧
    PySem.W.specialIn K (.builtin "object.__class__") "__get__" = some (some (.builtin "getset_descriptor.__get__")) /\ PySem.W.takesIn K (.builtin "object.__class__") = some true /\ PySem.W.mroIn K (He.ga K (Str.ofString e.1)) (.type "object") = some true ∧
    PySem.W.kitOne K (.ref (He.ga K (Str.ofString e.1))) (.ref (He.ga K (Str.ofString c))) = some e.2.2) ∧
  ∀ n ∈ ["NoneType", "bool", "int", "str", "tuple", "list", "dict"], PySem.W.kitOne K (.type n) (.ref (He.ga K (Str.ofString c))) = some false
theorem tw' {K : PySem.W.Frag} {t : M.ET} {c : String} (h : wr' K t c = true) : CL' K t c := by
  unfold wr' at h
  rw [Bool.and_eq_true] at h
  refine ⟨fun e he hc => ?_, fun n hn => of_decide_eq_true (List.all_eq_true.mp h.2 n hn)⟩
  have z := List.all_eq_true.mp h.1 e he
  rw [hc] at z
  simp only [decide_true, Bool.not_true, Bool.false_or, Bool.and_eq_true, decide_eq_true_eq] at z
  exact ⟨He.cls_ok z.1, z.2⟩
theorem qt' : ∀ {t : M.ET} {x c : String} {b : Bool}, M.sub t x c = some b -> (x, c, b) ∈ t
  | [], _, _, _, h => by cases h
  | (a, b, r) :: t, x, c, y, h => by
    unfold M.sub at h
    split at h
    . rename_i q
      obtain ⟨rfl, rfl⟩ := q
      cases h
      exact List.mem_cons_self
    . exact List.mem_cons_of_mem _ (qt' h)
theorem uD' {x : Str} (t : M.ET) (c : String) (hI : CL' X.K t c) (hg : Gl X x) (hm : X.mg x = none) (hv : bootBuiltins x = some (.builtin "isinstance")) (ha : SE X W a ma) (hb : PE X b (tC (.ref (He.ga X.K (Str.ofString c))))) (hn : x ≠ "__name__" := by decide) (hdb : (x == ("__debug__" : Str)) = false := by decide)
    (he : starEach [a, b] X.env = (false, eval a X.env) :: starEach [b] X.env := by rfl) (he2 : starEach [b] X.env = (false, eval b X.env) :: starEach [] X.env := by rfl) (hpl : (backTo pos (starEach [b] X.env)).any (·.1) = false := by rfl) : SE X W (.Call (.Name x p) [a, b] [] pos) (M.xv' t c ma) :=
  PE.imp (pe_callB call_isi hg hm hv (pa_cons ha (pa_cons hb pa_nil he2) he) hn hdb he hpl) fun σ H Q ⟨ρ, F, T, fr, rel, h⟩ => by
    refine aA' rel h fun dx ρ1 v H1 F1 T1 e1 z1 r1 h1 => ?_
    obtain ⟨dz, ez, q⟩ := aW'.ofO h1
    by_cases ho : ∃ n, dx = .obj n
    . obtain ⟨n, rfl⟩ := ho
      simp only [M.isC] at ez
      cases ew : ρ1.w[n]? with
      | none => rw [ew] at ez; cases ez
      | some ob =>
        rw [ew] at ez
        cases ob <;> try (cases ez; done)
        rename_i C fs
        cases es : M.sub t C c with
        | none => simp only [es] at ez; cases ez
        | some r =>
          simp only [es] at ez
          cases ez
          obtain ⟨a, d1, fv, os, f2, hT, rfl, hH, _⟩ := r1.wins ew
          obtain ⟨q1, q2, q3, q4, q5, q6⟩ := hI.1 _ (qt' es) rfl
          cases id z1 with
          | obj t =>
            rw [hT] at t
            cases t
            exact ⟨.ref a, .ref _, _, _, r, rfl, .own _, .base (.ins hH q1 q2 q3 q4 q5), q6, q _ H1 F1 T1 e1 (.bl _) r1⟩
    . have e2 : ∃ n, M.tyn dx = some n /\ dz = .bl false := by
        cases dx <;> first | exact absurd ⟨_, rfl⟩ ho | (cases ez; exact ⟨_, rfl, rfl⟩) | (cases ez; done)
      obtain ⟨n, en, rfl⟩ := e2
      obtain ⟨fp, f, _⟩ := r1.fp
      exact ⟨_, .ref _, _, _, false, rfl, .own _, uv' f.low z1 en, hI.2 n (by cases dx <;> cases en <;> decide), q _ H1 F1 T1 e1 (.bl _) r1⟩
theorem yy' {σ : St} {H : Hp} {Q : Bool -> Hp -> Prop} {m : M.ME} (h : qT X.K W (M.tE m) σ H Q) : qE X.K W m σ H fun x H' => ∃ k, x = .bl k /\ Q k H' := by
  obtain ⟨ρ, F, T, fr, rel, h⟩ := h
  refine ⟨ρ, F, T, fr, rel, (aW'.bind h).mono (fun d ρ1 h1 v H1 F1 T1 e z r => ?_) fun _ _ z => z⟩
  obtain ⟨k, rfl, h2⟩ := aW'.asB h1
  exact ⟨k, z.bl_inv, h2 _ _ _ e r⟩
theorem iL' {i : Nat} (hw : X.prog = Wd.P /\ X.w = Wd.w) (hu : X.A.units + 64 < cLine) (ha : SE X W a ma) (hv : PE X b (tVar i)) (hm : behindInMarks .NotIn b = false := by rfl) : ST X W (.Compare a [.NotIn] [b] pos) (M.tE (M.tH' true i ma)) :=
  PT.imp (pt_cmpR (v7' hw hu) ha hv hm) fun _ _ _ h => tX' (yy' h)
theorem qu' {i : Nat} (ha : SE X W a ma) (hv : PE X b (tVar i)) (hm : behindInMarks .NotIn b = false := by rfl) : ST X W (.Compare a [.NotIn] [b] pos) (M.tE (M.fM' i ma)) := PT.imp (pt_cmpR g3' ha hv hm) fun σ H Q h => tA' (neg := true) (yy' h)
end
end S
namespace S
open PySem PySem.Spec PyProof.Rows L2
variable [Wd] {cc : List (Nat × CloD)}
abbrev jr' (a : Addr) (n : Nat) (dd : Option Addr) (x : M.Exc) (cs : List (Nat × CloD) := []) : Hot := ⟨some (a, n, dd, x), cs⟩
section
variable {K : PySem.W.Frag} {F H : Hp} {T : List Addr} {fp fr : Fp} {σ : St} {env : List (Option M.O)} {a : Addr} {n i : Nat} {dd : Option Addr} {x : M.Exc}
theorem RpE.warm (h : Hot) (hc : h.clo = cc) (r : @RpE _ K (cU' cc) F T σ env fp) : @RpE _ K h F T σ env fp := by
  induction r with
  | nil => exact @RpE.nil _ K h F T
  | off _ ih => exact @RpE.off _ K h F T _ _ _ _ ih
  | on q _ ih => exact @RpE.on _ K h F T _ _ _ _ _ _ q ih
  | hot z _ _ _ => cases z
  | clo z y _ ih => exact @RpE.clo _ K h F T _ _ _ _ (by rw [hc]; exact z) y ih
theorem RpE.cool (r : @RpE _ K (jr' a n dd x cc) F T σ env fp) (hl : env.length <= n) : @RpE _ K (cU' cc) F T σ env fp := by
  induction r with
  | nil => exact @RpE.nil _ K (cU' cc) F T
  | off _ ih => exact @RpE.off _ K (cU' cc) F T _ _ _ _ (ih (by simp at hl; omega))
  | on q _ ih => exact @RpE.on _ K (cU' cc) F T _ _ _ _ _ _ q (ih (by simp at hl; omega))
  | hot z _ _ _ =>
    have := (Prod.mk.inj (Prod.mk.inj (Option.some.inj z)).2).1
    simp at hl
    omega
  | clo z y _ ih => exact @RpE.clo _ K (cU' cc) F T _ _ _ _ z y (ih (by simp at hl; omega))
theorem RpE.heat (r : @RpE _ K (cU' cc) F T σ env fp) (hn : env.length = i + n + 1) (z : XcR K F T x (.ref (He.ga K x.cls)) dd) : ∃ fq, @RpE _ K (jr' a n dd x cc) F T (σ.set i (some (.ref a))) (env.set i (some .exn)) fq /\ Part fq fp := by
  induction r generalizing i with
  | nil => simp at hn
  | @off y σ env fp r ih =>
    cases i with
    | zero =>
      have hl : n = env.length := by simp at hn; omega
      exact ⟨_, @RpE.hot _ K (jr' a n dd x cc) F T _ _ _ _ _ _ (by show some (a, n, dd, x) = _; rw [hl]) z (r.warm _ rfl), .refl⟩
    | succ i =>
      obtain ⟨fq, h1, h2⟩ := ih (i := i) (by simp at hn; omega)
      exact ⟨fq, @RpE.off _ K (jr' a n dd x cc) F T _ _ _ _ h1, h2⟩
  | @on v0 o0 σ env fa fb q r ih =>
    cases i with
    | zero =>
      have hl : n = env.length := by simp at hn; omega
      exact ⟨_, @RpE.hot _ K (jr' a n dd x cc) F T _ _ _ _ _ _ (by show some (a, n, dd, x) = _; rw [hl]) z (r.warm _ rfl), .right .refl⟩
    | succ i =>
      obtain ⟨fq, h1, h2⟩ := ih (i := i) (by simp at hn; omega)
      exact ⟨_, @RpE.on _ K (jr' a n dd x cc) F T _ _ _ _ _ _ q h1, .app .refl h2⟩
  | hot z _ _ _ => cases z
  | clo zc y r ih =>
    cases i with
    | zero =>
      rename_i env _
      have hl : n = env.length := by simp at hn; omega
      exact ⟨_, @RpE.hot _ K (jr' a n dd x cc) F T _ _ _ _ _ _ (by show some (a, n, dd, x) = _; rw [hl]) z (r.warm _ rfl), .refl⟩
    | succ i =>
      obtain ⟨fq, h1, h2⟩ := ih (i := i) (by simp at hn; omega)
      exact ⟨fq, @RpE.clo _ K (jr' a n dd x cc) F T _ _ _ _ (by rw [List.length_set]; exact zc) y h1, h2⟩
theorem RpE.chill (r : @RpE _ K (jr' a n dd x cc) F T σ env fp) (hn : env.length = i + n + 1) : ∃ fq, @RpE _ K (cU' cc) F T (σ.set i none) (env.set i none) fq /\ Part fq fp := by
  induction r generalizing i with
  | nil => simp at hn
  | @off y σ env fp r ih =>
    cases i with
    | zero => exact ⟨_, @RpE.off _ K (cU' cc) F T _ _ _ _ (r.cool (by simp at hn; omega)), .refl⟩
    | succ i =>
      obtain ⟨fq, h1, h2⟩ := ih (i := i) (by simp at hn; omega)
      exact ⟨fq, @RpE.off _ K (cU' cc) F T _ _ _ _ h1, h2⟩
  | @on v0 o0 σ env fa fb q r ih =>
    cases i with
    | zero => exact ⟨_, @RpE.off _ K (cU' cc) F T _ _ _ _ (r.cool (by simp at hn; omega)), .right .refl⟩
    | succ i =>
      obtain ⟨fq, h1, h2⟩ := ih (i := i) (by simp at hn; omega)
      exact ⟨_, @RpE.on _ K (cU' cc) F T _ _ _ _ _ _ q h1, .app .refl h2⟩
  | @hot a' dd' x' σ env fp z zz r ih =>
    cases i with
    | zero => exact ⟨_, @RpE.off _ K (cU' cc) F T _ _ _ _ (r.cool (by simp at hn; omega)), .refl⟩
    | succ i =>
      have := (Prod.mk.inj (Prod.mk.inj (Option.some.inj z)).2).1
      simp at hn
      omega
  | clo zc y r ih =>
    cases i with
    | zero => exact ⟨_, @RpE.off _ K (cU' cc) F T _ _ _ _ (r.cool (by simp at hn; omega)), .refl⟩
    | succ i =>
      obtain ⟨fq, h1, h2⟩ := ih (i := i) (by simp at hn; omega)
      exact ⟨fq, @RpE.clo _ K (cU' cc) F T _ _ _ _ (by rw [List.length_set]; exact zc) y h1, h2⟩
theorem RpE.exnH (h : Hot) (r : @RpE _ K h F T σ env fp) (e : env[i]? = some (some .exn)) : ∃ a n dd x, h.hot = some (a, n, dd, x) /\ XcR K F T x (.ref (He.ga K x.cls)) dd /\ σ[i]? = some (some (.ref a)) := by
  letI := h
  exact RpE.exn r e
theorem Rel.heat {ρ : M.PSt} (r : @Rel _ K (cU' cc) ρ σ H F T fr) (hn : ρ.env.length = i + n + 1) (z : XcR K F T x (.ref (He.ga K x.cls)) dd) : @Rel _ K (jr' a n dd x cc) ⟨ρ.env.set i (some .exn), ρ.w⟩ (σ.set i (some (.ref a))) H F T fr := by
  obtain ⟨fe, fw, re, rw, f⟩ := r
  obtain ⟨fq, h1, h2⟩ := re.heat (a := a) hn z
  exact ⟨fq, fw, h1, rw, f.part (.app h2 .refl)⟩
theorem Rel.chill {ρ : M.PSt} (r : @Rel _ K (jr' a n dd x cc) ρ σ H F T fr) (hn : ρ.env.length = i + n + 1) : @Rel _ K (cU' cc) ⟨ρ.env.set i none, ρ.w⟩ (σ.set i none) H F T fr := by
  obtain ⟨fe, fw, re, rw, f⟩ := r
  obtain ⟨fq, h1, h2⟩ := re.chill hn
  exact ⟨fq, fw, h1, rw, f.part (.app h2 .refl)⟩
end
section
variable {X : Cx} {W : WX} {K : PySem.W.Frag} {D : Ends} {σ : St} {H : Hp} {F : Hp} {T : List Addr} {fr : Fp}
theorem bw'.chill {a : Addr} {n i : Nat} {dd : Option Addr} {x : M.Exc} {r : M.Out} (h : @bw' _ (cU' cc) K W D F T fr (M.sm' i n (M.tm' r))) :
    @bw' _ (jr' a n dd x cc) K W0 { nx := fun σ' H' => D.nx (σ'.set i none) H', rt := D.rt, bk := fun σ' H' => D.bk (σ'.set i none) H', ct := fun σ' H' => D.ct (σ'.set i none) H' } F T fr r := by
  cases r with
  | exc x ρ => exact h.elim
  | nx ρ =>
    unfold M.tm' M.sm' at h
    by_cases hl : ρ.env.length = i + n + 1
    . simp only [hl, if_true] at h
      exact fun σ' H' F' T' e r => h _ H' F' T' e (r.chill hl)
    . simp only [hl, if_false] at h; exact h.elim
  | bk ρ =>
    unfold M.tm' M.sm' at h
    by_cases hl : ρ.env.length = i + n + 1
    . simp only [hl, if_true] at h
      exact fun σ' H' F' T' e r => h _ H' F' T' e (r.chill hl)
    . simp only [hl, if_false] at h; exact h.elim
  | ct ρ =>
    unfold M.tm' M.sm' at h
    by_cases hl : ρ.env.length = i + n + 1
    . simp only [hl, if_true] at h
      exact fun σ' H' F' T' e r => h _ H' F' T' e (r.chill hl)
    . simp only [hl, if_false] at h; exact h.elim
  | rt o w => exact h
  | bad => exact h
def tsA (cc : List (Nat × CloD)) (K : PySem.W.Frag) (n : Nat) (h : M.Exc -> M.MS) : Addr -> Value -> Option Addr -> TS := fun a cls d D σ H => ∃ e : M.Exc, cls = .ref (He.ga K e.cls) /\ @qS _ (jr' a n d e cc) K W0 (h e) D σ H
theorem sL' {x n : Str} {c : Value} {i m : Nat} {body suite : List Stmt} {b₀ : Stmt} {np pos pos' : Pos} {mb : M.MS} {g : String -> Option Bool} {h : M.Exc -> M.MS} (hs : X.stack = X.env :: X.outer) (hf : X.env.frame = some X.env.locals) (hN : X.N.Nodup) (hi : X.N[i]? = some n) (hln : X.env.kindOf n = some .local) (hc : Names X x c) (tk : Takes X W)
    (hg : ∀ y b, g y = some b -> PySem.W.exmOne X.K (.ref (He.ga X.K y)) c = some b)
    (hb : ∀ (W : WX) (pn : List (Addr × Obj)) (xe : Value -> Shared -> Prop), Takes (X.tr pn xe) W -> PassesOwn (model X.prog X.w) X.A X.env xe -> @SSs _ (cU' cc) (X.tr pn xe) W body mb)
    (hsu : ∀ (e : M.Exc) (a : Addr) (oe : Obj) (d : Option Addr) (pn : List (Addr × Obj)), Zc (.ref (He.ga X.K e.cls)) d oe -> (∃ vs, oe.data = .fields vs) -> @SSs _ (jr' a m d e cc) (X.suite a ((a, oe) :: pn)) W0 (b₀ :: suite) (h e)) :
    @SS _ (cU' cc) X W (.Try body [.ExceptHandler (some (.Name x np)) (some n) (b₀ :: suite) pos'] [] [] pos) (M.ii' i m mb g h) := by
  have ts : ∀ (a : Addr) (oe : Obj) (cls : Value) (d : Option Addr) (pn : List (Addr × Obj)), Zc cls d oe -> (∃ vs, oe.data = .fields vs) -> PSs (X.suite a ((a, oe) :: pn)) (b₀ :: suite) (tsA cc X.K m h a cls d) := by
    intro a oe cls d pn hz hf
    refine ⟨fun pins s σ H D I q => ?_⟩
    obtain ⟨e, rfl, q⟩ := q
    exact (hsu e a oe d pn hz hf).run pins s σ H D I q
  refine PS.imp (ps_try_as (tb := fun W => @qS _ (cU' cc) X.K W mb) hs hf hN hi hln hc tk hb ts) fun D σ H ⟨ρ, F, T, fr, rel, hh⟩ => ?_
  refine ⟨ρ, F, T, fr, rel, ?_⟩
  unfold M.ii' at hh
  cases e : mb ρ with
  | nx ρ1 => rw [e] at hh; exact hh
  | bk ρ1 => rw [e] at hh; exact hh
  | ct ρ1 => rw [e] at hh; exact hh
  | rt o w => rw [e] at hh; exact hh
  | bad => rw [e] at hh; exact hh
  | exc y ρ1 =>
    rw [e] at hh
    intro σ' cls dd H' F' T' e z r
    have ec := z.1
    subst ec
    dsimp only at hh
    cases eg : g y.cls with
    | none => rw [eg] at hh; exact hh.elim
    | some b =>
      rw [eg] at hh
      refine ⟨b, hg _ _ eg, fun hb a ha => ?_, fun hb => ?_⟩
      . subst hb
        dsimp only at hh
        by_cases hl : ρ1.env.length = i + m + 1
        . rw [if_pos hl] at hh
          exact ⟨y, rfl, _, F', T', fr, r.heat hl z, @bw'.mono _ (jr' a m dd y cc) _ _ _ _ _ _ _ _ _ (bw'.chill hh) e⟩
        . rw [if_neg hl] at hh; exact hh.elim
      . subst hb
        exact hh σ' _ dd H' F' T' e z r
end
section
variable {X : Cx} {W : WX} {pos p : Pos} {a b : Expr}
theorem yd' {x : Str} {i m : Nat} {ad : Addr} {oe : Obj} {dd : Option Addr} {e : M.Exc} {pn : List (Addr × Obj)} {t : M.ET} (c : String) (hk : t6' X.K t) (hz : Zc (.ref (He.ga X.K e.cls)) dd oe) (hf : ∃ vs, oe.data = .fields vs)
    (hg : Gl (X.suite ad ((ad, oe) :: pn)) x) (hm : X.mg x = none) (hv : bootBuiltins x = some (.builtin "isinstance")) (ha : PE (X.suite ad ((ad, oe) :: pn)) a (tVar i)) (hb : PE (X.suite ad ((ad, oe) :: pn)) b (tC (.ref (He.ga X.K (Str.ofString c)))))
    (hn : x ≠ "__name__" := by decide) (hdb : (x == ("__debug__" : Str)) = false := by decide)
    (he : starEach [a, b] (X.suite ad ((ad, oe) :: pn)).env = (false, eval a (X.suite ad ((ad, oe) :: pn)).env) :: starEach [b] (X.suite ad ((ad, oe) :: pn)).env := by rfl) (he2 : starEach [b] (X.suite ad ((ad, oe) :: pn)).env = (false, eval b (X.suite ad ((ad, oe) :: pn)).env) :: starEach [] (X.suite ad ((ad, oe) :: pn)).env := by rfl)
    (hpl : (backTo pos (starEach [b] (X.suite ad ((ad, oe) :: pn)).env)).any (·.1) = false := by rfl) :
    @SE _ (jr' ad m dd e cc) (X.suite ad ((ad, oe) :: pn)) W (.Call (.Name x p) [a, b] [] pos) (M.tG' i t c e) := by
  by_cases h0 : e.fs = []
  . by_cases hd : dd = none
    . cases es : M.sub t e.cls c with
      | none =>
        refine ⟨fun pins s σ H Q I q => ?_⟩
        obtain ⟨ρ, F, T, fr, rel, q⟩ := q
        exfalso
        unfold M.tG' at q
        split at q
        . rw [if_pos h0, es] at q; exact q.elim
        . exact q.elim
      | some r =>
        subst hd
        obtain ⟨hC, hko⟩ := uP' hk es
        refine PE.imp (pe_callB (call_isE hC hz hf) hg hm hv (pa_cons ha (pa_cons hb pa_nil he2) he) hn hdb he hpl) fun σ H Q ⟨ρ, F, T, fr, rel, h⟩ => ?_
        unfold M.tG' at h
        split at h
        . rename_i ei
          rw [if_pos h0, es] at h
          obtain ⟨fe, fw, re, rw', f⟩ := id rel
          obtain ⟨a', n', dd', x', h1, h2, h3⟩ := RpE.exnH _ re ei
          cases h1
          exact ⟨_, h3, .ref (He.ga X.K (Str.ofString c)), _, r, rfl, fun u hu => hu, hko, h _ H F T .refl (.bl r) rel⟩
        . exact h.elim
    . refine ⟨fun pins s σ H Q I q => ?_⟩
      obtain ⟨ρ, F, T, fr, rel, q⟩ := q
      exfalso
      unfold M.tG' at q
      split at q
      . rename_i ei
        obtain ⟨fe, fw, re, rw', f⟩ := id rel
        obtain ⟨a', n', dd', x', h1, ⟨_, h2⟩, h3⟩ := RpE.exnH _ re ei
        cases h1
        rcases h2 with h2 | ⟨_, _, _, _, h4, _⟩
        . exact hd h2.2
        . rw [h0] at h4; cases h4
      . exact q.elim
  . refine ⟨fun pins s σ H Q I q => ?_⟩
    obtain ⟨ρ, F, T, fr, rel, q⟩ := q
    exfalso
    unfold M.tG' at q
    split at q
    . rw [if_neg h0] at q; exact q.elim
    . exact q.elim
theorem rI' {K : PySem.W.Frag} {t : M.ET} (h : uQ' K t = true) : t6' K t := fun e he => by
  have z := List.all_eq_true.mp h e he
  simp only [Bool.and_eq_true, decide_eq_true_eq] at z
  obtain ⟨z1, z2, z3, z4, z5, z6, z7, z8, z9⟩ := z
  exact ⟨⟨z1, z2, z3, z4, z5, z6, z7, z8⟩, z9⟩
end
end S
namespace S
open PySem PySem.Spec PyProof.Rows L2
section
variable {prog : Program} {w : World} {A : Around} {E : Value -> Shared -> Prop} {s : Shared} {K : PySem.W.Frag} {x C L f : Addr} {h₀ : Heap} {m : Str -> Option Value} {ox : Obj} {od : Option Obj} {b tb : Value}
open PySem.W in
theorem xe' {Q : Value -> Shared -> Prop} (hu : A.units + 1 < cLine) (F : Fr h₀ L s.heap m) (X₀ : K.In h₀) (I : InstAt s.heap x ox C od) (hb : Looks (model prog w) s.heap (typeOf b) tb) (hn : notFirst K C tb = true)
    (hs : findIn K (.ref C) "__ne__" = some (some (.builtin "object.__ne__"))) (he : findIn K (.ref C) "__eq__" = some (some (.ref f))) (hf : isFn K (.ref f) = true) (hm : mroIn K C (.type "object") = some true)
    (h : wpAny (model prog w) A.in1 (call (.ref f) [.ref x, b]) (fun v s' => ∃ r, v = .bool r /\ Q (.bool (!r)) s') E s) : wpAny (model prog w) A (richCompare .NotEq (.ref x) b) Q E s := by
  have X := X₀.keeps F.keep
  have run : wpAny (model prog w) A.in1 (Builtin.«object.__ne__» ⟨[.ref x, b], []⟩) (fun r s' => ∃ v : Bool, r = .done (.ret (.bool v)) /\ Q (.bool v) s') E s := by
    unfold Builtin.«object.__ne__»
    repeat (first
      | with_reducible refine wpAny_cRoomFor (A := A.in1) hu ?_
      | (refine wpAny_bind (m := callSpecialIfBound? (.ref x) (Str.ofString "__eq__") [b])
          (ifBound_K X I he hf (wpAny_mono h (fun r s' hr => by
            obtain ⟨b, rfl, hq⟩ := hr
            repeat (first | exact ⟨_, rfl, hq⟩ | exact wpAny_pure ⟨_, rfl, hq⟩ | (refine wpAny_bind (m := truthy (.bool _)) (wpAny_truthy_bool ?_)) | wp_step)) fun _ _ e => e)))
      | wp_step)
  have one : wpAny (model prog w) A (tryCompare (.ref x) "__ne__" b) (fun r s' => ∃ v, r = some v /\ Q v s') E s := by
    have tI : Looks (model prog w) s.heap (isInstance (.ref x) (.type "object")) true := I.type.andThen (looks_mroIn X hm)
    have go : wpAny (model prog w) A (call (.builtin "object.__ne__") [.ref x, b]) (fun v s' => ∃ r : Bool, v = .bool r /\ Q (.bool r) s') E s :=
      wpAny_call (codeAny_call_builtin PySem.F.cmp_object.ne.plain PySem.F.cmpEntry_ne
        (check_slot PySem.F.cmpKind_ne PySem.F.cmpSplit_ne tI (PySem.F.cmpArgs_ne _ _) (wpAny_mono run (fun r s' hr => by
          obtain ⟨v, rfl, hq⟩ := hr
          exact ⟨_, rfl, hq⟩) fun _ _ e => e)))
    unfold tryCompare
    refine wpAny_bind ?_
    simp only [callSpecialIfBound?, bindSpecialIfBound?]
    refine wpAny_holding (wpAny_bind (wpAny_bind (wpAny_bind (I.type.here ((looks_findIn X hs).here ?_)))))
    simp only [PySem.F.cmp_object.ne.bind]
    refine wpAny_bind (wpAny_askSetting (wpAny_ite ?_))
    have fin : wpAny (model prog w) A (call (.builtin "object.__ne__") ([.ref x] ++ [b]) >>= fun v => pure (some v)) (fun r s' => ∃ v : Bool, r = some (.bool v) /\ Q (.bool v) s') E s :=
      wpAny_bind (wpAny_mono go (fun v s' h' => by obtain ⟨r, rfl, h'⟩ := h'; exact wpAny_pure ⟨_, rfl, h'⟩) fun _ _ h' => h')
    have fin : wpAny (model prog w) A (call (.builtin "object.__ne__") ([.ref x] ++ [b]) >>= fun v => pure (some v)) (fun a s' => wpAny (model prog w) A (match a with | some .notImplemented => pure none | none => pure none | some d => pure (some d)) (fun r s' => ∃ v, r = some v /\ Q v s') E s') E s :=
      wpAny_mono fin (fun r s' z => by obtain ⟨v, rfl, z⟩ := z; exact wpAny_pure ⟨_, rfl, z⟩) fun _ _ e => e
    split
    . exact wpAny_bind (wpAny_pure (wpAny_pure fin))
    . exact wpAny_tryCatch (wpAny_bind (wpAny_pure (wpAny_pure fin)))
  have apart : ∀ {c : Prop}, (c -> (tb == Value.ref C) = false) -> c -> subIn K tb (.ref C) = some false := fun no q => by
    rw [notFirst, no q, Bool.false_or] at hn
    exact beq_iff_eq.mp hn
  unfold richCompare
  simp only [oneThing_ref]
  refine wpAny_holding (wpAny_bind (wpAny_cRoomFor (Nat.lt_of_succ_lt hu) (wpAny_bind (I.type.here (wpAny_bind (hb.here ?_))))))
  split
  case isTrue q =>
    exact wpAny_bind ((looks_subIn X (apart (fun q => by cases z : (tb == Value.ref C) with
      | false => rfl
      | true => rw [beq_iff_eq.mp z] at q; simp at q) q)).here (by
        rw [if_neg (by decide)]
        exact wpAny_bind (wpAny_mono one (fun | _, _, ⟨_, rfl, w⟩ => wpAny_pure w) fun _ _ e => e)))
  case isFalse q =>
    exact wpAny_bind (wpAny_pure (by
      rw [if_neg (by decide)]
      exact wpAny_bind (wpAny_mono one (fun | _, _, ⟨_, rfl, w⟩ => wpAny_pure w) fun _ _ e => e)))
end
end S
namespace S
open PySem PySem.Spec PyProof.Rows L2
variable [Wd] [Hot]
def NeP (K : PySem.W.Frag) (ps : List (String × String)) (g : Addr) : Prop := ∀ p ∈ ps, PySem.W.findIn K (.ref (He.ga K (Str.ofString p.1))) "__ne__" = some (some (.builtin "object.__ne__")) ∧
  PySem.W.findIn K (.ref (He.ga K (Str.ofString p.1))) "__eq__" = some (some (.ref g)) /\ PySem.W.isFn K (.ref g) = true /\ PySem.W.mroIn K (He.ga K (Str.ofString p.1)) (.type "object") = some true ∧
  PySem.W.notFirst K (He.ga K (Str.ofString p.1)) (.ref (He.ga K (Str.ofString p.2))) = true
theorem wc' {K : PySem.W.Frag} {ps : List (String × String)} {g : Addr} (h : C1' K ps g = true) : NeP K ps g := fun p hp => by
  have z := List.all_eq_true.mp h p hp
  rw [Bool.and_eq_true, Bool.and_eq_true, Bool.and_eq_true, Bool.and_eq_true, decide_eq_true_eq, decide_eq_true_eq, decide_eq_true_eq] at z
  exact z
def Dq' (K : PySem.W.Frag) (ps : List (String × String)) (mf : M.MF) : R2 := fun x y H Q => CU' K ps mf x y H fun v H' => ∃ r, v = .bl r /\ Q (.bl !r) H'
theorem ls' {X : Cx} {CX : CXT} {k : Nat} {f : Addr} {fd : FuncData} {ps : List Str} {sp : Sp} {E : St -> XK} {pins : List (Addr × Obj)} {σ : St} {H : Hp} {s : Shared} {Q : VK} {us : List Value} {vs : List V} (F : FnG X.prog X.w X.K X.mg X.base CX k f fd ps sp) (hr : RoomG (k + 1) X.A)
    (hb : Binds X.K fd ps []) (hx : PassesAt CX X σ (E σ)) (I : Inv X pins σ H s) (r : Vals vs us) (h : sp vs H Q (E σ)) : wpAny (model X.prog X.w) X.A.in1 (call (.ref f) us) (EP X pins σ Q) X.xe s := by
  have b := hb s us I.kIn (by rw [List.append_nil, <- r.length]; exact F.len _ _ _ _ h)
  rw [List.append_nil] at b
  refine wpAny_call (codeAny_mono (F.run X.A.in1 X.stack s H ⟨us, []⟩ us vs Q (E σ) ⟨hr.r.in1, hr.g⟩ I.env0.in1 b r h) fun res s' q => ?_)
  have z := rU' hx I res q
  revert z
  cases res with
  | error e => exact id
  | ok fl => cases fl <;> exact id
theorem yH' {X : Cx} {k : Nat} {C0 : Addr} {args : List Str} {ps : List (String × String)} {mf : M.MF} (F : OgM X.prog X.w X.K X.mg X.base k C0 "__eq__" args (spM X.K mf)) (hr : RoomG (k + 1) X.A) (hp : NeP X.K ps (He.ma X.K C0 "__eq__")) :
    OpR X (compareOp .NotEq) (Dq' X.K ps mf) := by
  obtain ⟨fd, F, hb⟩ := F
  intro pins s σ H x y v u Q I rx ry h
  obtain ⟨C, C', a, b, dx, dy, fs, gs, hC, rfl, rfl, ha, hb', hs⟩ := h
  cases (show v = Value.ref a from rx)
  cases (show u = Value.ref b from ry)
  obtain ⟨q0, q1, q2, q3, q4⟩ := hp _ hC
  obtain ⟨mA, J, _⟩ := ins_get I.hok ha
  obtain ⟨mB, J', _⟩ := ins_get I.hok hb'
  obtain ⟨od, J, _⟩ := J.look
  obtain ⟨od', J', _⟩ := J'.look
  obtain ⟨m, hF⟩ := I.fr
  show wpAny (model X.prog X.w) X.A (richCompare .NotEq (.ref a) (.ref b)) (EP X pins σ Q) X.xe s
  have hu : X.A.units + 1 < cLine := by have := hr.r.units; omega
  refine xe' (tb := .ref (He.ga X.K (Str.ofString C'))) hu hF I.ok.mod.kin J J'.type q4 q0 q1 q2 q3 ?_
  refine wpAny_mono (ls' (E := fun _ => E0) (us := [.ref a, .ref b]) (vs := [.ref a, .ref b]) F hr hb (fun _ _ _ e s' _ c => ?_) I (.cons rfl (.cons rfl .nil)) hs) (fun r s' q => ?_) fun _ _ z => z
  . obtain ⟨_, _, _, _, _, _, _, _, _, _, _, _, z⟩ := c
    exact z.elim
  . obtain ⟨z, H', I', rz, t, ez, t', et, q⟩ := q
    subst ez
    cases et
    cases rz
    exact ⟨t, rfl, .bl !t, H', I', rfl, q⟩
section
variable {K : PySem.W.Frag} {σ : St} {H : Hp} {Q : VK} {W : WX}
theorem yz' {m : M.ME} {Q : Bool -> Hp -> Prop} (h : qT K W (M.gw' (M.tE m)) σ H Q) : qE K W m σ H fun v H' => ∃ r, v = .bl r /\ ∃ k, V.bl (!r) = .bl k /\ Q k H' := by
  obtain ⟨ρ, F, T, fr, rel, h⟩ := h
  refine ⟨ρ, F, T, fr, rel, (aW'.bind (aW'.bind h)).mono (fun d ρ1 h1 v H1 F1 T1 e z r => ?_) fun _ _ z => z⟩
  obtain ⟨k, rfl, h2⟩ := aW'.asB h1
  exact ⟨k, z.bl_inv, _, rfl, h2 _ _ _ e r⟩
end
section
variable {X : Cx} {W : WX} {pos : Pos} {a b : Expr} {ma mb : M.ME} {k : Nat} {args : List Str} {mf : M.MF}
theorem x3' {C : String} {ps : List (String × String)} (F : OgM X.prog X.w X.K X.mg X.base k (He.ga X.K C) "__eq__" args (spM X.K mf)) (hr : RoomG (k + 1) X.A) (hp : NeP X.K ps (He.ma X.K (He.ga X.K C) "__eq__")) (ha : SE X W a ma) (hb : SE X W b mb) :
    ST X W (.Compare a [.NotEq] [b] pos) (M.gw' (M.tE (M.xw' ps mf ma mb))) := PT.imp (pt_cmpR (yH' F hr hp) ha hb (nomark _)) fun _ _ _ h => tF' (yz' h)
end
end S
namespace S
open PySem PySem.Spec PyProof.Rows L2
variable [Wd] [Hot]
section
variable {X : Cx} {W : WX} {a : Expr} {ma : M.ME} {pos p1 p2 p3 : Pos} {k : Nat}
end
end S
namespace S
open PySem PySem.Spec PyProof.Rows L2 TL
variable [Wd] [Hot]
section
variable {K : PySem.W.Frag}
end
end S
namespace S
open PySem PySem.Spec PyProof.Rows L2
variable [Wd] [Hot]
section
variable {X : Cx} {W : WX} {K : PySem.W.Frag} {a b : Expr} {ma : M.ME} {pos : Pos}
end
end S
namespace S
open PySem PySem.Spec PyProof.Rows L2
variable [Wd] [Hot]
section
variable {K : PySem.W.Frag} {W : WX} {σ : St} {H : Hp}
end
section
variable {X : Cx} {W : WX} {pos : Pos} {elt tg iter tg1 iter1 : Expr} {ifs ifs1 : List Expr} {scope : Scope} {own : List (Str × Nat)} {sl sl0 sl1 : List Nat} {it it1 : M.MI} {g g1 : M.MG} {t t1 : M.MT} {e : M.ME}
end
end S
namespace S
open PySem PySem.Spec PyProof.Rows L2
end S
namespace S
open PySem PySem.Spec PyProof.Rows L2
variable [Wd] [Hot]
section
variable {K : PySem.W.Frag} {W : WX} {X : Cx} {p pos : Pos} {a b : Expr} {ma mb : M.ME}
end
end S
namespace S
open PySem PySem.Spec PyProof.Rows L2
variable [Wd] [Hot]
section
variable {X : Cx} {W : WX} {K : PySem.W.Frag} {a : Expr} {ma : M.ME} {pos : Pos}
end
end S
namespace S
open PySem PySem.Spec PyProof.Rows L2
variable [Wd] [Hot]
section
variable {K : PySem.W.Frag} {W : WX} {σ : St} {H : Hp}
end
section
variable {X : Cx} {W : WX} {pos px : Pos} {elt tg : Expr} {ifs : List Expr} {scope : Scope} {own : List (Str × Nat)} {sl : List Nat} {i : Nat} {nm : Str} {g : M.MG} {t : M.MT} {e : M.ME}
end
end S
namespace S
open PySem PySem.Spec PyProof.Rows L2
variable [Wd] [Hot]
section
variable {X : Cx} {W : WX} {pos cpos apos : Pos} {o a : Expr} {mo : M.ME} {ma : M.MO}
end
end S
namespace S
open PySem PySem.Spec PyProof.Rows L2
structure SupF (file : Str) (K : PySem.W.Frag) (C f : Addr) (fld : Str) : Prop where
  ex : ∃ (oc : Value) (od : Option Addr) (fd : FuncData) (osl : Array (Option Value)) (x y : Str) (cc cda : Addr), K.lookup f = some ⟨oc, od, .func fd, osl⟩ /\ CH' fd.params = some (x, y) /\ CE' fd.body = some (("super" : Str), ("__init__" : Str), x, fld, y) ∧
    fd.closure = [(("__class__" : Str), cc)] /\ fd.code = .ref cda /\ fd.defaults = .none /\ fd.kwdefaults = .none /\ fd.globals = mainGlobals /\ fd.builtins = builtinsNs /\ PySem.W.codeIn K (.ref cda) fd.qualname = true ∧
    fd.scope.names.lookup ("super" : Str) = some .globalImplicit /\ fd.scope.names.lookup ("__class__" : Str) = some .free /\ fd.scope.names.lookup x = some .local /\ fd.scope.names.lookup y = some .local /\ (∀ q ∈ fd.scope.names, q.2 ≠ .cell) ∧
    fd.scope.kind = .function /\ fd.scope.isGenerator = false /\ fd.scope.isCoroutine = false /\ x = "self" /\ (y = "part" \/ y = "most") ∧
    (∃ a b c, K.lookup cc = some ⟨a, b, .cell (some (.ref C)), c⟩) /\ (∃ a b c vs tf, K.lookup cda = some ⟨a, b, .fields vs, c⟩ /\ vs[2]? = some (.str file tf))
  sup : PySem.W.ks_superIn K C C "__init__" = some (some (.builtin "ValueError.__init__"))
  own : PySem.W.mroIn K C (.ref C) = some true
  ve : PySem.W.subIn K (.ref C) (.type "ValueError") = some true
  no3 : PySem.W.nsIn K cStatics "thirdparty.any" = some none
  cls : ∃ nm q N bs bm sn sub ab col dd k0 k1 k2 k3 k5, K.lookup C = some (excClassObj nm q C N bs bm true sn sub ab col dd k0 k1 k2 k3 k5 "ValueError.__new__") /\ HandSPX.refsVE bm = true
  sa : PySem.W.findIn K (.ref C) "__setattr__" = some (some (.builtin "object.__setattr__"))
  exC : PySem.W.subIn K (.ref C) (.type "BaseException") = some true
  tyC : PySem.W.typeIn K (.ref C) = some (.type "type")
  kC : PySem.W.keepIn K (.ref C) = true
  iC : PySem.W.findIn K (.ref C) "__init__" = some (some (.ref f))
  tI : PySem.W.typeIn K (.ref f) = some (.type "function")
  fl : PySem.W.findIn K (.ref C) fld = some none
end S
namespace S
open PySem PySem.Spec PyProof.Rows L2
variable [Wd] [Hot]
local macro_rules | `(tactic| walk_at "parts") => `(tactic| (constructor; (intro e h; simp only [List.mem_append, List.mem_cons, List.not_mem_nil] at *; grind); (intro x; simp only [keys, List.map_append, List.map_cons, List.map_nil, List.count_append, List.count_cons, List.count_nil] at *; omega)))
section
variable {prog : Program} {w : World} {A : Around} {E : Value -> Shared -> Prop} {s : Shared}
end
def DP' (K : PySem.W.Frag) (ps : List (String × String)) (g : Addr) : Prop := ∀ C, (C, C) ∈ ps -> PySem.W.findIn K (.ref (He.ga K (Str.ofString C))) "__eq__" = some (some (.ref g)) /\ PySem.W.isFn K (.ref g) = true ∧
  ∀ n ∈ ["NoneType", "bool", "int", "str", "tuple", "list", "dict"], PySem.W.notFirst K (He.ga K (Str.ofString C)) (.type n) = true
def rEqD (K : PySem.W.Frag) (ps : List (String × String)) (mf : M.MF) : R2 := fun x y H Q => ∃ (C n : String) (a dx : Addr) (fs : List (Str × V)), (C, C) ∈ ps /\ n ∈ ["NoneType", "bool", "int", "str", "tuple", "list", "dict"] /\ x = .ref a ∧
  H a = some (.ins (He.ga K (Str.ofString C)) dx fs) /\ TyX K H y (.type n) /\ spM K mf [x, y] H (fun v H' => ∃ r, v = .bl r /\ Q (.bl r) H') E0
theorem op_eqD {X : Cx} {k : Nat} {C0 : Addr} {args : List Str} {ps : List (String × String)} {mf : M.MF} (F : OgM X.prog X.w X.K X.mg X.base k C0 "__eq__" args (spM X.K mf)) (hr : RoomG k X.A) (hp : DP' X.K ps (He.ma X.K C0 "__eq__")) :
    OpR X (compareOp .Eq) (rEqD X.K ps mf) := by
  obtain ⟨fd, F, hb⟩ := F
  intro pins s σ H x y v u Q I rx ry h
  obtain ⟨C, n, a, dx, fs, hC, hn, rfl, ha, ht, hs⟩ := h
  cases (show v = Value.ref a from rx)
  obtain ⟨q1, q2, q3⟩ := hp _ hC
  obtain ⟨mA, J, _⟩ := ins_get I.hok ha
  obtain ⟨od, J, _⟩ := J.look
  obtain ⟨m, hF⟩ := I.fr
  obtain ⟨P, Z, hP, _⟩ := kit_of I ry ht
  show wpAny (model X.prog X.w) X.A (richCompare .Eq (.ref a) u) (EP X pins σ Q) X.xe s
  refine PySem.W.cmp_K (op := .Eq) (tb := .type n) hr.r.units0 hF I.ok.mod.kin J (Z.ty _ _ I.kIn hP) (q3 n hn) q1 q2 ?_
  refine wpAny_mono (iR' (E := fun _ => E0) (us := [.ref a, u]) (vs := [.ref a, y]) F hr hb (fun _ _ _ e s' _ c => ?_) I (.cons rfl (.cons ry .nil)) hs) (fun r s' q => ?_) fun _ _ z => z
  . obtain ⟨_, _, _, _, _, _, _, _, _, _, _, _, z⟩ := c
    exact z.elim
  . obtain ⟨z, H', I', rz, t, ez, q⟩ := q
    subst ez
    cases rz
    exact ⟨.bl t, H', I', rfl, q⟩
section
variable {K : PySem.W.Frag} {σ : St} {H : Hp} {Q : VK} {W : WX}
end
section
variable {X : Cx} {W : WX} {pos p tpos : Pos} {a b e o i : Expr} {ma mb mo mi : M.ME} {k : Nat} {args : List Str} {mf : M.MF}
end
end S
namespace S
open PySem PySem.Spec PyProof.Rows L2
variable [Wd] [Hot]
mutual
inductive DqN (K : PySem.W.Frag) (H : Hp) : V -> M.D -> Prop
  | leaf {v : V} {d : M.D} : Dp K H v (py d) -> M.er' d = true -> DqN K H v d
  | tup {a : Addr} {vs : List V} {ds : List M.D} : SqT K H a vs -> DqNs K H vs ds -> DqN K H (.ref a) (.tup ds)
  | lst {a : Addr} {vs : List V} {ds : List M.D} : H a = some (.lst vs) -> DqNs K H vs ds -> DqN K H (.ref a) (.lst ds)
  | dct {a : Addr} {kvs : List (Key × V)} {ds : List M.D} : Rd H a (.dK kvs) -> k9' kvs -> DqNs K H (kvs.map (·.2)) ds -> DqN K H (.ref a) (.dct (kvs.map fun p => kD p.1) ds)
inductive DqNs (K : PySem.W.Frag) (H : Hp) : List V -> List M.D -> Prop
  | nil : DqNs K H [] []
  | cons {v : V} {d : M.D} {vs : List V} {ds : List M.D} : DqN K H v d -> DqNs K H vs ds -> DqNs K H (v :: vs) (d :: ds)
end
section
variable {K : PySem.W.Frag} {F H : Hp} {T : List Addr}
end
section
variable {X : Cx} {pins : List (Addr × Obj)} {σ : St} {H : Hp} {s : Shared}
def AE' (K : PySem.W.Frag) : Prop := ∃ o, K.lookup sysModules = some o
theorem vB' (I : Inv X pins σ H s) (h : AE' X.K) {a : Addr} {o : HO} (ha : H a = some o) : a ≠ sysModules := fun e => by
  obtain ⟨ob, hk⟩ := h
  have := (I.bs _ _ (I.ok.mod.kin _ _ hk)).2
  rw [e, this] at ha
  cases ha
mutual
theorem DqN.reads (I : Inv X pins σ H s) (hS : AE' X.K) : ∀ {v : V} {d : M.D} {u : Value}, DqN X.K H v d -> RelV v u -> ∃ as, Reads s.heap u (py d) as /\ sysModules ∉ as
  | _, _, _, .leaf h l, r => ⟨[], eq' I l h r, by simp⟩
  | _, _, _, .tup hs la, r => by
    cases r
    obtain ⟨its, rv, ⟨o, ho, hc, n, hd⟩, _⟩ := I.tuple hs
    obtain ⟨as, hr, hm⟩ := DqNs.reads I hS la rv
    exact ⟨_, Reads.tuple ho hc hd hr, hm⟩
  | _, _, _, .lst (a := a) hs la, r => by
    cases r
    obtain ⟨_, its, n, rv, hd⟩ := I.hok a _ hs
    obtain ⟨as, hr, hm⟩ := DqNs.reads I hS la rv
    refine ⟨_, Reads.list hd rfl rfl hr, fun z => ?_⟩
    rcases List.mem_cons.mp z with z | z
    . exact vB' I hS hs z.symm
    . exact hm z
  | _, _, _, .dct (a := a) (kvs := kvs) (ds := ds) e k la, r => by
    cases r
    obtain ⟨_, hs, vs, rk, hd⟩ := dk_rd I.hok e
    obtain ⟨bs, hp, hm⟩ := DqNs.pairs I hS la kvs rfl rk
    refine ⟨_, PyProof.V.reads_dictOf (enc := kP) (fun k key hk => ?_) hd hp, fun z => ?_⟩
    . rcases keyIs_shape hk with ⟨i, t, rfl, rfl⟩ | ⟨x, t, rfl, rfl⟩
      . exact .int i t
      . exact .str _ t
    . rcases List.mem_cons.mp z with z | z
      . rw [<- z] at hs
        simp at hs
      . exact hm z
theorem DqNs.reads (I : Inv X pins σ H s) (hS : AE' X.K) : ∀ {vs : List V} {ds : List M.D} {us : List Value}, DqNs X.K H vs ds -> Vals vs us -> ∃ as, ReadsAll s.heap us (pys ds) as /\ sysModules ∉ as
  | _, _, _, .nil, r => by
    cases r
    exact ⟨[], .nil, by simp⟩
  | _, _, _, .cons h1 h2, r => by
    cases r with
    | cons r1 r2 =>
      obtain ⟨as, q1, q4⟩ := DqN.reads I hS h1 r1
      obtain ⟨bs, q2, q3⟩ := DqNs.reads I hS h2 r2
      exact ⟨_, .cons q1 q2, fun z => (List.mem_append.mp z).elim q4 q3⟩
theorem DqNs.pairs (I : Inv X pins σ H s) (hS : AE' X.K) : ∀ {vs : List V} {ds : List M.D}, DqNs X.K H vs ds -> ∀ (kvs : List (Key × V)) {us : List (Key × Value)}, kvs.map (·.2) = vs -> KV kvs us →
    ∃ bs, PyProof.V.PairsRead s.heap kP us ((pys (kvs.map fun p => kD p.1)).zip (pys ds)) bs /\ sysModules ∉ bs
  | _, _, .nil, kvs, us, e, r => by
    cases kvs with
    | nil => cases r; exact ⟨[], .nil, by simp⟩
    | cons _ _ => cases e
  | _, _, .cons h1 h2, kvs, us, e, r => by
    cases kvs with
    | nil => cases e
    | cons p kvs =>
      obtain ⟨k, v⟩ := p
      obtain ⟨rfl, e2⟩ := List.cons.inj e
      cases r with
      | @cons _ q _ us hr hp =>
        obtain ⟨k', u⟩ := q
        obtain ⟨he, hr⟩ := hr
        have he : k = k' := he
        subst he
        obtain ⟨as, q1, q4⟩ := DqN.reads I hS h1 hr
        obtain ⟨bs, q2, q3⟩ := DqNs.pairs I hS h2 kvs e2 hp
        exact ⟨_, PyProof.V.PairsRead.cons (enc := kP) (k := k) q1 q2, fun z => (List.mem_append.mp z).elim q4 q3⟩
end
end
section
variable {X : Cx}
end
end S
namespace S
open PySem PySem.Spec PyProof.Rows L2
variable [Wd] [Hot]
end S
namespace S
open PySem PySem.Spec PyProof.Rows L2 HT
variable [Wd] [Hot]
section
variable {prog : Program} {w : World} {A : Around} {E : Value -> Shared -> Prop} {s : Shared}
end
section
variable {X : Cx} {W : WX} {a : Expr} {ma : M.ME} {pos p1 p2 p3 : Pos} {k : Nat}
end
end S
namespace S
open PySem PySem.Spec PyProof.Rows L2
variable [Wd]
section
variable {X : Cx} {W : WX} {pos p : Pos} {a b : Expr}
end
end S
namespace S
open PySem PySem.Spec PyProof.Rows L2 CwR
section
variable {X : Cx} {o e : Expr} {te to : TE} {es : List Expr} {ta : TA} {y z : Str} {i : Int} {j j1 j2 : Nat} {c0 c1 apos pos p : Pos}
end
variable [Wd]
section
variable {X : Cx} {W : WX} {o : Expr} {mo : M.ME} {y z : Str} {i : Int} {j j1 j2 : Nat} {c0 c1 apos pos p : Pos}
end
end S
namespace S
open PySem PySem.Spec PyProof.Rows L2
variable [Wd]
section
variable {X : Cx} {W : WX} {a : Expr} {ma : M.ME} {pos : Pos}
end
end S
namespace S
open PySem PySem.Spec PyProof.Rows L2
end S
namespace S
open PySem PySem.Spec PyProof.Rows L2
variable [Wd] [Hot]
section
variable {K : PySem.W.Frag} {W : WX} {X : Cx} {p pos : Pos} {a b : Expr} {ma mb : M.ME}
end
end S
namespace S
open PySem PySem.Spec
open PySem (ZipApart)
structure ZlSt (h : Heap) (z TI TO i1 i2 l1 l2 : Addr) (xs ys : Array Value) (S : Addr) (i : Nat) : Prop where
  ti : IsPair h TI (.ref i1) (.ref i2)
  it1 : h.IsListIter i1 l1 i
  it2 : h.IsListIter i2 l2 i
  li1 : h.IsList l1 xs
  li2 : h.IsList l2 ys
  zz : (IsZip h z TI TO .none /\ ∃ a b, IsPair h TO a b) \/ ∃ T f oT, PySem.IsZipHeld h z TI TO T f /\ h.get? T = some oT /\ T ≠ z /\ T ≠ i1 /\ T ≠ i2 /\ T ≠ S
structure ZlA (z TI TO i1 i2 l1 l2 S : Addr) : Prop where
  z : z < S
  TI : TI < S
  TO : TO < S
  i1 : i1 < S
  i2 : i2 < S
  l1 : l1 < S
  l2 : l2 < S
section
variable {prog : Program} {w : World} {A : Around} {E : Value -> Shared -> Prop} {s : Shared} {z TI TO i1 i2 l1 l2 S : Addr} {xs ys : Array Value} {i : Nat}
theorem ZlSt.keep {h h' : Heap} (st : ZlSt h z TI TO i1 i2 l1 l2 xs ys S i) (L : ZlA z TI TO i1 i2 l1 l2 S) (hk : ∀ b o, b ≠ S -> h.get? b = some o -> h'.get? b = some o) : ZlSt h' z TI TO i1 i2 l1 l2 xs ys S i := by
  obtain ⟨a1, a2, a3, a4, a5, a6⟩ := st
  have n : ∀ {a : Addr}, a < S -> a ≠ S := fun h => Nat.ne_of_lt h
  refine ⟨hk _ _ (n L.TI) a1, a2.at fun o e => hk _ o (n L.i1) e, a3.at fun o e => hk _ o (n L.i2) e, a4.at fun o e => hk _ o (n L.l1) e, a5.at fun o e => hk _ o (n L.l2) e, ?_⟩
  rcases a6 with ⟨hz, a, b, hTO⟩ | ⟨T, f, oT, hz, hT, r1, r2, r3, r4⟩
  . exact .inl ⟨hk _ _ (n L.z) hz, a, b, hk _ _ (n L.TO) hTO⟩
  . exact .inr ⟨T, f, oT, hk _ _ (n L.z) hz, hk _ _ r4 hT, r1, r2, r3, r4⟩
structure ZlG (xs ys : Array Value) (lo : Addr) (h : Heap) (as : List Addr) : Prop where
  rise : as.Pairwise (· < ·)
  above : ∀ a ∈ as, lo < a
  pairs : ∀ (j : Nat) (a : Addr), as[j]? = some a -> ∃ x y, xs[j]? = some x /\ ys[j]? = some y /\ h.get? a = some { cls := .type "tuple", data := .seq #[x, y] }
theorem ZlG.there {lo : Addr} {h : Heap} {as : List Addr} (g : ZlG xs ys lo h as) {a : Addr} (ha : a ∈ as) : a < h.objs.size := by
  obtain ⟨j, hj⟩ := List.mem_iff_getElem?.mp ha
  obtain ⟨_, _, _, _, e⟩ := g.pairs j a hj
  exact Heap.lt_size e
end
section
variable {prog : Program} {w : World} {A : Around} {s : Shared} {R : Result -> Shared -> Prop} {z TI TO i1 i2 l1 l2 S : Addr} {xs ys : Array Value}
end
section
variable {prog : Program} {w : World} {A : Around} {E : Value -> Shared -> Prop} {s : Shared} {z TI TO i1 i2 l1 l2 S : Addr} {xs ys : Array Value}
theorem ZlSt.type {h : Heap} {i : Nat} (st : ZlSt h z TI TO i1 i2 l1 l2 xs ys S i) : ∃ o, h.get? z = some o /\ o.cls = .type "zip" := by
  rcases st.zz with ⟨hz, _⟩ | ⟨T, f, oT, hz, _⟩
  . exact ⟨_, hz, rfl⟩
  . exact ⟨_, hz, rfl⟩
end
end S
namespace S
open PySem PySem.Spec PyProof.Rows L2 LiI
section
variable {X : Cx}
end
section
variable {K : PySem.W.Frag} [Wd]
end
section
variable [Wd] {X : Cx} {W : WX} {a b : Expr} {ma mb : M.ME} {p p2 pos pos2 : Pos}
end
end S
namespace S
open PySem PySem.Spec PyProof.Rows L2
section
variable {prog : Program} {w : World} {A : Around} {E : Value -> Shared -> Prop} {s : Shared} {z TI TO i1 i2 l1 l2 : Addr} {xs ys : Array Value} {k : Nat}
abbrev ZO (h : Heap) (z TI TO : Addr) (f0 : Value) (b : Bool) : Prop :=
  h.get? z = some { cls := .type "zip", dict := none, data := .fields #[f0, .bool b, .bool false, .ref TI, .ref TO], slots := #[] }
def Gvn (f0 : Value) : Prop := f0 = .none \/ ∃ T : Addr, f0 = rawInt T
structure ZnSt (h : Heap) (z TI TO i1 i2 l1 l2 : Addr) (k : Nat) : Prop where
  zz : ∃ f0 b, ZO h z TI TO f0 b /\ Gvn f0
  ti : IsPair h TI (.ref i1) (.ref i2)
  to : ∃ x y, IsPair h TO x y
  h1 : h.IsTupleIter i1 l1 k
  h2 : h.IsTupleIter i2 l2 k
end
end S
namespace S
open PySem PySem.Spec PyProof.Rows L2
section
variable [Wd] [Hot] {X : Cx} {W : WX} {a b : Expr} {ma mb : M.ME} {p pos : Pos}
end
end S
namespace S
open PySem PySem.Spec PyProof.Rows L2
section
variable [Wd] [Hot] {X : Cx} {W : WX} {a : Expr} {ma : M.ME} {pos : Pos}
end
end S
namespace S
open PySem PySem.Spec PyProof.Rows L2
variable [Wd]
inductive DSd (K : PySem.W.Frag) (H : Hp) (a : Addr) (y v : V) (Q : V -> Hp -> Prop) : Prop
  | old {xs : List (NestedKey × Addr × V)} {b : Addr} {k : NestedKey} {u : V} : H a = some (dcN a xs) -> xk' K H xs -> y = .ref b -> NkV K H (.ref b) k -> k.depth <= 8 -> valV (xsV xs) k = some u -> xs.length <= sizeLine -> Q u H -> DSd K H a y v Q
  | new {xs : List (NestedKey × Addr × V)} {b : Addr} {k : NestedKey} : H a = some (dcN a xs) -> xk' K H xs -> y = .ref b -> NkV K H (.ref b) k -> k.depth <= 8 -> valV (xsV xs) k = none -> (le' xs k b v).length <= sizeLine -> Q v (upd H a (dcN a (le' xs k b v))) -> DSd K H a y v Q
  | fst {b : Addr} {k : NestedKey} : H a = some (dcL a []) -> y = .ref b -> NkV K H (.ref b) k -> k.depth <= 8 -> Q v (upd H a (dcN a [(k, b, v)])) -> DSd K H a y v Q
section
variable {X : Cx} {pins : List (Addr × Obj)} {σ : St} {H : Hp} {s : Shared} {a : Addr} {y : V} {u : Value} {A : Around} {E : Value -> Shared -> Prop}
end
section
variable [Hot] {X : Cx} {W : WX} {o : Expr}
end
end S
namespace PySem.W
open Spec PyProof PyProof.Rows
section
variable {prog : Program} {w : World} {A A₀ : Around} {E : Value -> Shared -> Prop} {s : Shared} {K : Frag} {x y C C' L f : Addr} {h₀ : Heap} {m : Str -> Option Value} {ox oy : Obj} {od od' : Option Obj} {b tb : Value}
end
end PySem.W
namespace S
open PySem PySem.Spec PyProof.Rows L2
variable [Wd] [Hot]
local macro_rules | `(tactic| walk_at "parts") => `(tactic| (constructor; (intro e h; simp only [List.mem_append, List.mem_cons, List.not_mem_nil] at *; grind); (intro x; simp only [keys, List.map_append, List.map_cons, List.map_nil, List.count_append, List.count_cons, List.count_nil] at *; omega)))
section
variable {K : PySem.W.Frag} {σ : St} {H : Hp} {Q : VK} {W : WX}
end
section
variable {X : Cx} {W : WX} {pos p : Pos} {a b e : Expr} {ma mb : M.ME} {k : Nat} {args : List Str} {mf : M.MF}
end
end S
namespace S
open PySem PySem.Spec PyProof.Rows L2
local macro_rules | `(tactic| walk_at "parts") => `(tactic| (constructor; (intro e h; simp only [List.mem_append, List.mem_cons, List.not_mem_nil] at *; grind); (intro x; simp only [keys, List.map_append, List.map_cons, List.map_nil, List.count_append, List.count_cons, List.count_nil] at *; omega)))
section
variable [Wd]
variable {K : PySem.W.Frag} {F H G : Hp} {T T' : List Addr}
end
section
variable [Wd]
variable {K : PySem.W.Frag} {F H G : Hp} {T T' : List Addr}
def NoD (fp : Fp) : Prop := ∀ e ∈ fp, (∀ kvs, e.2 ≠ .dK kvs) /\ (∀ φ, e.2 ≠ .ext φ) /\ ∀ od u, e.2 ≠ .frz od u
theorem NoD.app {a b : Fp} (h : NoD a) (g : NoD b) : NoD (a ++ b) := fun e he => (List.mem_append.mp he).elim (h e) (g e)
structure Split (C A B : Fp) : Prop where
  mem : ∀ e, e ∈ C ↔ e ∈ A \/ e ∈ B
  cnt : ∀ x, (keys C).count x = (keys A).count x + (keys B).count x
end
section
variable [Wd] [Hot] {X : Cx} {W : WX} {a b e : Expr} {ma mb me : M.ME} {p p2 pos pos2 : Pos}
variable {es : List Expr} {mo : M.MO} {moa : M.MOA}
end
section
variable [Wd] {X : Cx} {W : WX} {a b : Expr} {ma mb : M.ME} {p p2 pos pos2 : Pos}
end
end S
namespace PySem.W
open PySem PySem.Spec PySem.Calls PyProof PyProof.Rows
section
variable {x t : Value} {P : Heap -> Prop}
end
end PySem.W
namespace L2
open PySem PySem.Spec PyProof.Rows
end L2
namespace S
open PySem PySem.Spec PyProof.Rows L2
variable [Wd] {X : Cx} {W : WX} {pos p : Pos} {a b : Expr}
end S
namespace S
open PySem PySem.Spec PyProof.Rows L2
variable [Wd] [Hot]
local macro_rules | `(tactic| walk_at "parts") => `(tactic| (constructor; (intro e h; simp only [List.mem_append, List.mem_cons, List.not_mem_nil] at *; grind); (intro x; simp only [keys, List.map_append, List.map_cons, List.map_nil, List.count_append, List.count_cons, List.count_nil] at *; omega)))
section
variable {K : PySem.W.Frag} {F H : Hp} {T : List Addr} {fp fr : Fp} {ρ : M.PSt} {σ : St}
theorem RpA.named {f : String} {o : M.O} : ∀ {fv : List (String × V)} {os : List M.O} {fp : Fp}, RpA K F T (fv.map (·.2)) os fp -> ((fv.map (·.1)).zip os).lookup f = some o →
    ∃ v f1 f2 f3, fv.lookup f = some v /\ fp = f1 ++ (f2 ++ f3) /\ Rp K F T v o f2 /\ ∀ o' f2', Rp K F T v o' f2' -> ∃ os', RpA K F T (fv.map (·.2)) os' (f1 ++ (f2' ++ f3)) /\ M.q4' f o' ((fv.map (·.1)).zip os) = (fv.map (·.1)).zip os'
  | [], _, _, r, h => by cases r; cases h
  | (g, v) :: fv, _, _, r, h => by
    cases r with
    | @cons _ _ o1 os fa fb r0 r =>
      by_cases e : f = g
      . subst e
        have h : some o1 = some o := by rw [<- h, List.map_cons, List.zip_cons_cons, List.lookup_cons_self]
        cases h
        refine ⟨v, [], fa, fb, List.lookup_cons_self, rfl, r0, fun o' f2' q => ⟨o' :: os, (RpA.cons q r : RpA K F T _ _ (f2' ++ fb)), ?_⟩⟩
        rw [List.map_cons, List.zip_cons_cons, List.zip_cons_cons]
        exact if_pos rfl
      . have h1 : (f == g) = false := by simpa using e
        have h : ((fv.map (·.1)).zip os).lookup f = some o := by
          rw [<- h, List.map_cons, List.zip_cons_cons]
          simp only [List.lookup, h1]
        obtain ⟨v', f1, f2, f3, e1, e2, e3, e4⟩ := RpA.named r h
        refine ⟨v', fa ++ f1, f2, f3, by simp only [List.lookup, h1]; exact e1, by rw [e2, List.append_assoc], e3, fun o' f2' q => ?_⟩
        obtain ⟨os', q1, q2⟩ := e4 o' f2' q
        refine ⟨o1 :: os', by rw [List.append_assoc]; exact .cons r0 q1, ?_⟩
        rw [List.map_cons, List.zip_cons_cons, List.zip_cons_cons]
        show (if g = f then _ else _) = _
        rw [if_neg (fun z => e z.symm), q2]
end
section
variable {X : Cx} {W : WX} {pos apos cpos tpos p2 : Pos} {a b e k value : Expr} {ma mk mv : M.ME}
end
end S
namespace S
open PySem PySem.Spec PyProof.Rows L2
variable [Wd] [Hot]
section
variable {K : PySem.W.Frag}
end
end S
namespace S
open PySem PySem.Spec PyProof.Rows L2
variable [Wd] [Hot]
section
variable {X : Cx} {W : WX} {K : PySem.W.Frag} {a b : Expr} {ma mb : M.ME} {pos p apos : Pos} {x : Str}
end
end S
namespace S
open PySem PySem.Spec PyProof.Rows L2
variable [Wd] [Hot]
section
variable {X : Cx} {tg e : Expr} {td : TE}
end
section
variable {K : PySem.W.Frag} {F : Hp} {T : List Addr}
end
section
variable {X : Cx} {W : WX} {tg a : Expr} {ma : M.ME}
end
end S
namespace S
open PySem PySem.Spec PyProof.Rows L2
variable [Wd]
section
variable {K : PySem.W.Frag}
end
variable [Hot]
section
variable {X : Cx} {W : WX} {pos cpos apos spos ipos epos : Pos}
end
end S
namespace S
open PySem PySem.Spec PyProof.Rows L2
variable [Wd]
inductive CodeMade (Ck : Addr -> Prop) (H : Hp) (P : Addr) (q : Str) (c : Addr) : Hp -> Prop
  | told : Ck c -> CodeMade Ck H P q c H
  | fresh {ps ps' : Array Value} : H c = none -> H P = some (.tbl ps) -> TriplesOk ps'.toList -> (∀ (pos : Pos) (cv : Value), codeAmong pos ps'.toList = some cv -> codeAmong pos ps.toList = some cv \/ cv = .ref c) →
      CodeMade Ck H P q c (upd (upd H P (.tbl ps')) c (LamX.CodeO c q))
section
variable {X : Cx} {pins : List (Addr × Obj)} {σ : L2.St} {H : Hp} {s : Shared}
end
end S
namespace S
open PySem PySem.Spec PyProof.Rows L2
end S
namespace S
open PySem PySem.Spec PyProof.Rows L2
variable [Wd]
end S
namespace S
open PySem PySem.Spec PyProof.Rows L2
section
variable {P : Program} {w : World} {K : PySem.W.Frag} {mg mb : Str -> Option Value} {CX : CXT} {k : Nat} {fa a : Addr} {fd : FuncData} {x : Str} {sp : Sp} {s : Shared} {vs : List Value} {n0 : Nat} {H : Hp} {cs : List (Addr × Addr)}
end
end S
namespace S
open PySem PySem.Spec PyProof.Rows L2
variable [Wd] [Hot]
section
variable {X : Cx} {W : WX} {pos apos tpos p2 : Pos} {a value : Expr} {ma mv : M.ME} {t : Str} {j2 : Nat} {s : M.Tx}
end
end S
namespace S
open PySem PySem.Spec PyProof.Rows PySem.W
section
variable {prog : Program} {w : World} {A : Around} {E : Value -> Shared -> Prop} {s : Shared}
end
section
open L2
variable {X : Cx}
end
section
open L2
variable {X : Cx} {e : Expr} {te : TE} {p apos cpos pos : Pos} {sn : Str}
end
section
open L2
variable [Wd] [Hot]
end
section
open L2
variable [Wd] [Hot]
end
section
open L2
variable [Wd] [Hot] {X : Cx} {W : WX} {a : Expr} {ma : M.ME} {p apos iapos cpos pos : Pos} {sn : Str}
end
end S
namespace S
open PySem PySem.Spec PyProof.Rows L2
local macro_rules | `(tactic| walk_at "parts") => `(tactic| (constructor; (intro e h; simp only [List.mem_append, List.mem_cons, List.not_mem_nil] at *; grind); (intro x; simp only [keys, List.map_append, List.map_cons, List.map_nil, List.count_append, List.count_cons, List.count_nil] at *; omega)))
section
variable [Wd]
variable {K : PySem.W.Frag} {F H G : Hp} {T T' : List Addr}
def Drp (kl kd : Bool) (F G : Hp) : Prop := ∀ a o, F a = some o -> G a = some o \/ (kl = true /\ ∃ vs, o = .lst vs) \/ (kd = true /\ ∃ od kvs, o = .frz od (.dK kvs))
theorem Drp.keep {kl kd : Bool} (s : Drp kl kd F G) {a : Addr} {o : HO} (h : F a = some o) (n1 : ∀ vs, o ≠ .lst vs) (n2 : ∀ od kvs, o ≠ .frz od (.dK kvs)) : G a = some o := by
  rcases s a o h with h | ⟨_, vs, e⟩ | ⟨_, od, kvs, e⟩
  . exact h
  . exact absurd e (n1 vs)
  . exact absurd e (n2 od kvs)
theorem Drp.seqT {kl kd : Bool} (s : Drp kl kd F G) {a : Addr} {xs : List V} (h : SqT K F a xs) : SqT K G a xs := by
  rcases h with (h | ⟨o, h⟩) | h
  . exact .inl (.inl (s.keep h (fun _ z => nomatch z) fun _ _ z => nomatch z))
  . exact .inl (.inr ⟨o, s.keep h (fun _ z => nomatch z) fun _ _ z => nomatch z⟩)
  . exact .inr h
theorem Drp.lst {kd : Bool} (s : Drp false kd F G) {a : Addr} {vs : List V} (h : F a = some (.lst vs)) : G a = some (.lst vs) := by
  rcases s a _ h with h | ⟨z, _⟩ | ⟨_, od, kvs, e⟩
  . exact h
  . cases z
  . cases e
theorem Drp.seqL {kd : Bool} (s : Drp false kd F G) {a : Addr} {xs : List V} (h : SqL K F a xs) : SqL K G a xs := by
  rcases h with (h | ⟨o, h⟩) | h
  . exact .inl (.inl (s.lst h))
  . exact .inl (.inr ⟨o, s.keep h (fun _ z => nomatch z) fun _ _ z => nomatch z⟩)
  . exact .inr h
theorem Drp.dict {kl : Bool} (s : Drp kl false F G) {a : Addr} {kvs : List (Key × V)} (h : Rd F a (.dK kvs)) : Rd G a (.dK kvs) := by
  rcases h with h | ⟨o, h⟩
  . exact .inl (s.keep h (fun _ z => nomatch z) fun _ _ z => nomatch z)
  . rcases s a _ h with h | ⟨_, _, e⟩ | ⟨z, _⟩
    . exact .inr ⟨o, h⟩
    . cases e
    . cases z
theorem Drp.ext {kl kd : Bool} (s : Drp kl kd F G) {a : Addr} {φ : Heap -> Prop} (h : Rd F a (.ext φ)) : Rd G a (.ext φ) := by
  rcases h with h | ⟨o, h⟩
  . exact .inl (s.keep h (fun _ z => nomatch z) fun _ _ z => nomatch z)
  . exact .inr ⟨o, s.keep h (fun _ z => nomatch z) fun _ _ z => nomatch z⟩
theorem CI' {a b : Bool} (h : (a && b) = true) : a = true /\ b = true := Bool.and_eq_true_iff.mp h
def Lnt (kl kd : Bool) (o : HO) : Prop := (kl = true /\ ∃ vs, o = .lst vs) \/ (kd = true /\ ∃ kvs, o = .dK kvs)
def DN' (G : Hp) (e : Addr × HO) : Prop := G e.1 = some e.2 \/ ∃ od kvs, e.2 = .dK kvs /\ G e.1 = some (.frz od e.2)
theorem RpA.allFz {vs : List V} {os : List M.O} {fp : Fp} (r : RpA K F T vs os fp) (h : os.all M.wy' = true) : fp = [] /\ FzA K F T vs (M.frzs os) := by
  induction vs generalizing os fp with
  | nil => cases r; exact ⟨rfl, .nil⟩
  | cons v vs ih =>
    cases r with
    | @cons _ _ o os fa fb q r =>
      obtain ⟨h1, h2⟩ := CI' (show (M.wy' o && os.all M.wy') = true from h)
      obtain ⟨rfl, z⟩ := ih r h2
      cases o <;> try (cases h1; done)
      cases q with
      | fz q => exact ⟨rfl, .cons q z⟩
theorem Rp.lendO {kl kd : Bool} {v : V} {o : M.O} {fp : Fp} (q : Rp K F T v o fp) (h : M.lendO kl kd o = true) : (∀ e ∈ fp, Lnt kl kd e.2) /\ fp.length = M.Ay' o /\ ∀ G, Same F G -> (∀ e ∈ fp, DN' G e) -> Fz K G T v (M.frz o) := by
  cases q with
  | fz z => exact ⟨nofun, rfl, fun G s _ => z.mono (.of s)⟩
  | lst r =>
    obtain ⟨h1, h2⟩ := CI' (show (kl && _) = true from h)
    obtain ⟨rfl, z⟩ := r.allFz h2
    refine ⟨fun e he => ?_, rfl, fun G s g => ?_⟩
    . cases List.mem_singleton.mp he; exact .inl ⟨h1, _, rfl⟩
    . rcases g _ List.mem_cons_self with g | ⟨_, _, g, _⟩
      . exact .lst g (z.mono (.of s))
      . cases g
  | tup r => cases h
  | dct k r =>
    obtain ⟨h1, h2⟩ := CI' (show (kd && _) = true from h)
    obtain ⟨rfl, z⟩ := r.allFz h2
    refine ⟨fun e he => ?_, rfl, fun G s g => ?_⟩
    . cases List.mem_singleton.mp he; exact .inr ⟨h1, _, rfl⟩
    . rcases g _ List.mem_cons_self with g | ⟨od, _, _, g⟩
      . exact .dct (.inl g) k (z.mono (.of s))
      . exact .dct (.inr ⟨od, g⟩) k (z.mono (.of s))
  | dcl k r => cases h
  | dcn k q r => cases h
end
section
variable [Wd] [Hot] {X : Cx} {W : WX} {e : Expr} {mo : M.MO}
end
end S
namespace S
open PySem PySem.Spec PyProof.Rows L2
local macro_rules | `(tactic| walk_at "parts") => `(tactic| (constructor; (intro e h; simp only [List.mem_append, List.mem_cons, List.not_mem_nil] at *; grind); (intro x; simp only [keys, List.map_append, List.map_cons, List.map_nil, List.count_append, List.count_cons, List.count_nil] at *; omega)))
variable [Wd] [Hot]
section
variable {K : PySem.W.Frag}
end
section
variable {X : Cx} {W : WX} {a b : Expr} {mb : M.ME} {pos : Pos}
end
end S
namespace S
open PySem PySem.Spec PyProof.Rows L2
local macro_rules | `(tactic| walk_at "parts") => `(tactic| (constructor; (intro e h; simp only [List.mem_append, List.mem_cons, List.not_mem_nil] at *; grind); (intro x; simp only [keys, List.map_append, List.map_cons, List.map_nil, List.count_append, List.count_cons, List.count_nil] at *; omega)))
variable [Wd]
section
variable {X : Cx} {pins : List (Addr × Obj)} {σ : St} {H : Hp} {s : Shared} {a b : Addr} {y d : V} {u r : Value} {ov : Option V} {A : Around} {E : Value -> Shared -> Prop}
end
section
variable [Hot] {X : Cx} {W : WX} {o e f a i k l : Expr} {me mf ma mk ml : M.ME} {pos tpos tpos2 apos cpos : Pos}
end
section
variable {K : PySem.W.Frag}
end
section
variable [Hot]
end
end S
namespace S
open PySem PySem.Spec PyProof.Rows L2
variable [Wd]
end S
namespace S
open PySem PySem.Spec PyProof.Rows L2
variable [Wd] [Hot]
section
variable {X : Cx} {W : WX}
end
end S
namespace S
open PySem PySem.Spec PyProof.Rows L2
local macro_rules | `(tactic| walk_at "parts") => `(tactic| (constructor; (intro e h; simp only [List.mem_append, List.mem_cons, List.not_mem_nil] at *; grind); (intro x; simp only [keys, List.map_append, List.map_cons, List.map_nil, List.count_append, List.count_cons, List.count_nil] at *; omega)))
variable [Wd]
inductive HitsD (K : PySem.W.Frag) (H : Hp) (ls : List (Key × V)) : List (Key × V) -> Bool -> Prop
  | nil : HitsD K H ls [] true
  | miss {p : Key × V} {r : List (Key × V)} : valV ls p.1 = none -> HitsD K H ls (p :: r) false
  | hit {p : Key × V} {u : V} {d e : PyData} {r : List (Key × V)} {b : Bool} : valV ls p.1 = some u -> Dp K H p.2 d -> Dp K H u e -> SeqAt.shaped d = true -> SeqAt.shaped e = true -> HitsD K H ls r b -> HitsD K H ls (p :: r) (PyData.eqv d e && b)
section
variable {X : Cx}
end
section
variable {K : PySem.W.Frag}
end
section
variable {X : Cx} {pins : List (Addr × Obj)} {σ : St} {H : Hp} {s : Shared} {a b : Addr} {y d : V} {u r : Value} {ov : Option V} {A : Around} {E : Value -> Shared -> Prop}
end
section
variable [Hot] {X : Cx} {W : WX} {o e f a i k l : Expr} {me mf ma mk ml : M.ME} {pos tpos tpos2 apos cpos : Pos}
end
end S
namespace S
open PySem PySem.Spec PyProof.Rows L2 PySem.SeqAt
variable [Wd] [Hot]
variable {K : PySem.W.Frag}
end S
namespace S
open PySem PySem.Spec PyProof.Rows L2
local macro_rules | `(tactic| walk_at "parts") => `(tactic| (constructor; (intro e h; simp only [List.mem_append, List.mem_cons, List.not_mem_nil] at *; grind); (intro x; simp only [keys, List.map_append, List.map_cons, List.map_nil, List.count_append, List.count_cons, List.count_nil] at *; omega)))
section
variable [Wd] [Hot] {X : Cx} {W : WX} {pos : Pos}
end
end S
namespace S
open PySem PySem.Spec PyProof.Rows L2
variable [Wd] [Hot]
section
variable {K : PySem.W.Frag} {W : WX} {σ : St} {H : Hp} {D : Ends}
end
section
variable {X : Cx} {W : WX} {pos px ps pr : Pos} {tg c e : Expr} {sl : List Nat} {i : Nat} {nm : Str} {g : M.MG} {t : M.MT} {a : M.MO}
end
section
variable {X : Cx} {W : WX} {apos cpos : Pos} {o e : Expr} {es : List Expr} {x : Str} {as : M.MA}
end
end S
namespace L2
open PySem PySem.Spec PyProof.Rows
structure Lay (X : Cx) (pn : List (Addr × Obj)) (a : Addr) (cls : Value) (d : Option Addr) (σ : St) (H : Hp) (s : Shared) : Prop where
  src : ∃ B z, Inv X pn σ H z /\ (∀ b o, z.heap.get? b = some o -> b ∉ frs X.stack -> B.get? b = some o) /\ z.heap.UpToSlots s.heap /\ HandSPX.FlyingZ B (X.env :: X.outer) a (Zc cls d) s.heap /\ s.os = z.os /\ AllBare s.gens
  na : H a = none
section
variable {X : Cx} {pn : List (Addr × Obj)} {a : Addr} {cls : Value} {d : Option Addr} {σ : St} {H : Hp} {s : Shared}
theorem Lay.inv (y : Lay X pn a cls d σ H s) : Inv X pn σ H s := by
  obtain ⟨⟨B, z, I, h1, h2, h3, h4, h5⟩, -⟩ := y
  exact I.landed h1 h3.1 h2 h4 h5
theorem Lay.held (y : Lay X pn a cls d σ H s) (hf : X.env.frame = some X.env.locals) : ∃ oe, s.heap.get? a = some oe /\ Zc cls d oe /\ (∃ vs, oe.data = .fields vs) /\ Inv (X.suite a ((a, oe) :: (X.pn ++ pn))) [] σ H s := by
  have I := y.inv
  obtain ⟨⟨B, z, -, -, -, fl, -, -⟩, na⟩ := y
  obtain ⟨oe, vs, e1, e2, e3⟩ := fl.there
  have off : a ∉ frs (X.env :: X.outer) := by
    intro m
    obtain ⟨_, o2, e4, no⟩ := fl.2.2.1.mem m
    rw [e1] at e4
    cases e4
    exact no vs e3
  have q1 : a ≠ X.env.locals := by
    intro q
    refine off (List.mem_filterMap.2 ⟨X.env, by simp, ?_⟩)
    rw [hf, q]
  have q2 : a ∉ X.fs := by
    intro m
    obtain ⟨w, m1, m2⟩ := List.mem_filterMap.1 m
    exact off (List.mem_filterMap.2 ⟨w, by simp [m1], m2⟩)
  exact ⟨oe, e1, e2, ⟨vs, e3⟩, I.suite e1 e3 na q1 q2⟩
theorem Lay.cool {M : Model} {A : Around} {E : Value -> Shared -> Prop} {Q : Unit -> Shared -> Prop} (y : Lay X pn a cls d σ H s) (h : ∀ s', Lay X pn a cls d σ H s' -> Q () s') : wpAny M A (setFlight (.ref a) none) Q E s := by
  obtain ⟨⟨B, z, I, h1, h2, h3, h4, h5⟩, na⟩ := y
  exact HandSPX.lands_againZ h3 fun g k1 k2 => h _ ⟨⟨B, z, I, h1, h2.trans k2, k1, h4, h5⟩, na⟩
theorem Lay.out {W : WX} {Q : Flow -> Shared -> Prop} (y : Lay X pn a cls d σ H s) (hs : X.stack = X.env :: X.outer) (hf : X.env.frame = some X.env.locals) (tk : Takes X W) (w : W cls d σ H) : wpAny (model X.prog X.w) X.A (handleBy (.ref a) X.env []) Q X.xe s := by
  obtain ⟨⟨B, z, I, h1, h2, h3, h4, h5⟩, na⟩ := y
  obtain ⟨-, -, -, oe, vs, T, -, -, e1, -, e2, e3, -⟩ := id h3
  refine wpAny_handleBy_nil ?_
  unfold PySem.passOn
  refine wpAny_bind (wpAny_field e1 e2 e3 ?_)
  have nT : (Value.ref T == Value.none) = false := by simp
  rw [nT, if_neg Bool.false_ne_true]
  have up : wpAny (model X.prog X.w) X.A (setFlight (.ref a) X.env.frame) (fun _ r => wpAny (model X.prog X.w) X.A (throw (.ref a) : Sem Flow) Q X.xe r) X.xe s := by
    rw [hf]
    refine HandSPX.setFlight_upZ h3 fun g k1 k2 => wpAny_throw (tk (.ref a) _ ?_)
    refine ⟨a, B, z, pn, σ, H, cls, d, rfl, I, h1, h2.trans k2, ?_, na, h4, h5, w⟩
    rw [hs]
    exact .inr (.inr k1)
  first
    | exact wpAny_bind (wpAny_pure (wpAny_bind up))
    | exact wpAny_bind up
end
def DC' (D : Ends) (i : Nat) : Ends := { nx := fun σ H => D.nx (σ.set i none) H, rt := D.rt, bk := fun σ H => D.bk (σ.set i none) H, ct := fun σ H => D.ct (σ.set i none) H }
def tAs (i : Nat) (ts : Addr -> Value -> Option Addr -> TS) : Addr -> Value -> Option Addr -> TS := fun a cls d D σ H => ts a cls d (DC' D i) (σ.set i (some (.ref a))) H
inductive HdsN (X : Cx) : List ExceptHandler -> List (Value × (Addr -> Value -> Option Addr -> TS)) -> Prop
  | nil : HdsN X [] []
  | plain {x : Str} {c : Value} {ts : Addr -> Value -> Option Addr -> TS} {b : Stmt} {bs : List Stmt} {p q : Pos} {r : List ExceptHandler} {l : List (Value × (Addr -> Value -> Option Addr -> TS))} (hc : Names X x c)
      (h : ∀ (a : Addr) (oe : Obj) (cls : Value) (d : Option Addr) (pn : List (Addr × Obj)), Zc cls d oe -> (∃ vs, oe.data = .fields vs) -> PSs (X.suite a ((a, oe) :: pn)) (b :: bs) (ts a cls d)) : HdsN X r l →
      HdsN X (.ExceptHandler (some (.Name x p)) none (b :: bs) q :: r) ((c, ts) :: l)
  | named {x n : Str} {i : Nat} {c : Value} {ts : Addr -> Value -> Option Addr -> TS} {b : Stmt} {bs : List Stmt} {p q : Pos} {r : List ExceptHandler} {l : List (Value × (Addr -> Value -> Option Addr -> TS))} (hN : X.N.Nodup) (hi : X.N[i]? = some n) (hln : X.env.kindOf n = some .local) (hc : Names X x c)
      (h : ∀ (a : Addr) (oe : Obj) (cls : Value) (d : Option Addr) (pn : List (Addr × Obj)), Zc cls d oe -> (∃ vs, oe.data = .fields vs) -> PSs (X.suite a ((a, oe) :: pn)) (b :: bs) (ts a cls d)) : HdsN X r l →
      HdsN X (.ExceptHandler (some (.Name x p)) (some n) (b :: bs) q :: r) ((c, tAs i ts) :: l)
section
variable {X : Cx} {pn : List (Addr × Obj)} {a : Addr} {cls : Value} {d : Option Addr} {σ : St} {H : Hp} {s : Shared}
theorem Lay.asks {x : Str} {c : Value} {b : Bool} {nm : Option Str} {body : List Stmt} {p q : Pos} {r : List ExceptHandler} {Q : Flow -> Shared -> Prop} (y : Lay X pn a cls d σ H s) (hf : X.env.frame = some X.env.locals) (hc : Names X x c) (hb : PySem.W.exmOne X.K cls c = some b)
    (yes : b = true -> codeAny (model X.prog X.w) (X.A.mark (some (.ref a))) (.handlers (.ref a) [.ExceptHandler none nm body q] X.env) (fun o s₂ => match o with
          | .ok f => (match nm with
            | none => Q f s₂
            | some n => wpAny (model X.prog X.w) X.A (do bindName X.env n .none; unbindBehindTheSuite X.env n q) (fun _ s₃ => Q f s₃) X.xe s₂)
          | .error x => cameBackBy (model X.prog X.w) X.A X.env X.xe x s₂) s)
    (no : b = false -> wpAny (model X.prog X.w) X.A (handleBy (.ref a) X.env r) Q X.xe s) : wpAny (model X.prog X.w) X.A (handleBy (.ref a) X.env (.ExceptHandler (some (.Name x p)) nm body q :: r)) Q X.xe s := by
  obtain ⟨oe, e1, e2, e3, S⟩ := y.held hf
  have I := y.inv
  refine wpAny_handleBy_cons (codeAny_handlers_test ?_) (fun z => by cases z)
  have lt : PySem.W.Looks (model X.prog X.w) s.heap (typeOf (.ref a)) cls := fun A Q E s k q => wpAny_typeOf_ref (k _ _ e1) (by rw [e2.1]; exact q)
  have lm := PySem.W.exm_one (M := model X.prog X.w) I.kIn lt hb
  have ask : ∀ {Q E : Value -> Shared -> Prop}, Q c s -> wpAny (model X.prog X.w) (X.A.mark (some (.ref a))) (eval (.Name x p) X.env) Q E s := by
    intro Q E z
    obtain ⟨g1, g2, g3⟩ := hc
    rcases g3 with g3 | ⟨g3, g4, g5⟩
    . exact ld_glob (X := X.suite a ((a, oe) :: (X.pn ++ pn))) S g1 g3 z g2
    . exact ld_blt (X := X.suite a ((a, oe) :: (X.pn ++ pn))) S g1 g3 g4 z g5 g2
  refine ask (lm.here ?_)
  cases b with
  | false => exact no rfl
  | true => exact yes rfl
theorem Lay.run {W : WX} {D : Ends} (hs : X.stack = X.env :: X.outer) (hf : X.env.frame = some X.env.locals) (tk : Takes X W) {hds : List ExceptHandler} {l : List (Value × (Addr -> Value -> Option Addr -> TS))} (hh : HdsN X hds l) (y : Lay X pn a cls d σ H s) (w : wMany X.K W D l cls d σ H) :
    wpAny (model X.prog X.w) X.A (handleBy (.ref a) X.env hds) (SP X pn D) X.xe s := by
  have ok := y.inv.ok
  induction hh with
  | nil => exact y.out hs hf tk w
  | @plain x c ts b bs p q r l hc h _ ih =>
    obtain ⟨t, w1, w2, w3⟩ := w
    refine y.asks hf hc w1 (fun et => codeAny_handlers_suite (y.cool fun s2 y2 => ?_)) fun et => ih (w3 et)
    obtain ⟨oe, e1, e2, e3, S⟩ := y2.held hf
    refine wpAny_mono ((h a oe cls d (X.pn ++ pn) e2 e3).run [] s2 σ H D S (w2 et a y.na)) (fun f s3 z => ?_) (fun _ _ z => z.elim)
    cases f with
    | next =>
      obtain ⟨σ3, H3, S3, z⟩ := z
      exact ⟨σ3, H3, S3.unsuite ok, z⟩
    | brk =>
      obtain ⟨σ3, H3, S3, z⟩ := z
      exact ⟨σ3, H3, S3.unsuite ok, z⟩
    | cont =>
      obtain ⟨σ3, H3, S3, z⟩ := z
      exact ⟨σ3, H3, S3.unsuite ok, z⟩
    | ret u =>
      obtain ⟨v, σ3, H3, S3, z⟩ := z
      exact ⟨v, σ3, H3, S3.unsuite ok, z⟩
  | @named x n i c ts b bs p q r l hN hi hln hc h _ ih =>
    obtain ⟨t, w1, w2, w3⟩ := w
    refine y.asks hf hc w1 (fun et => codeAny_handlers_suite_as (y.cool fun s2 y2 => ?_)) fun et => ih (w3 et)
    obtain ⟨oe, e1, e2, e3, S⟩ := y2.held hf
    refine store_ok (X := X.suite a ((a, oe) :: (X.pn ++ pn))) (v := .ref a) S hN hi (.inl hln) rfl (fun s3 S3 => ?_) (.inr hln)
    refine wpAny_mono ((h a oe cls d (X.pn ++ pn) e2 e3).run [] s3 _ H _ S3 (w2 et a y.na)) (fun f s4 z => ?_) (fun _ _ z => z.elim)
    have gone : ∀ {σ4 : St} {H4 : Hp} {R : Shared -> Prop}, Inv (X.suite a ((a, oe) :: (X.pn ++ pn))) [] σ4 H4 s4 -> (∀ s5, Inv X pn (σ4.set i none) H4 s5 -> R s5) -> wpAny (model X.prog X.w) X.A (do bindName X.env n .none; unbindBehindTheSuite X.env n q) (fun _ s5 => R s5) X.xe s4 := by
      intro σ4 H4 R S4 k
      exact gone_ok (S4.unsuite ok) hN hi hln k
    cases f with
    | next =>
      obtain ⟨σ3, H3, S3, z⟩ := z
      exact gone S3 fun _ k => ⟨_, _, k, z⟩
    | brk =>
      obtain ⟨σ3, H3, S3, z⟩ := z
      exact gone S3 fun _ k => ⟨_, _, k, z⟩
    | cont =>
      obtain ⟨σ3, H3, S3, z⟩ := z
      exact gone S3 fun _ k => ⟨_, _, k, z⟩
    | ret u =>
      obtain ⟨v, σ3, H3, S3, z⟩ := z
      exact gone S3 fun _ k => ⟨_, _, _, k, z⟩
end
section
variable {X : Cx} {body : List Stmt} {h₀ : ExceptHandler} {hds : List ExceptHandler} {l : List (Value × (Addr -> Value -> Option Addr -> TS))} {pos : Pos} {tb : WX -> TS} {W : WX}
end
end L2
namespace S
open PySem PySem.Spec PyProof.Rows L2
variable [Wd]
section
variable {X : Cx} {W : WX} {D : Ends} {σ : St} {H : Hp} {F : Hp} {T : List Addr} {fr : Fp}
abbrev Hn := List (Option (Nat × Nat) × (String -> Option Bool) × (M.Exc -> M.MS))
inductive HdsMN (X : Cx) : List ExceptHandler -> Hn -> List (Value × (Addr -> Value -> Option Addr -> TS)) -> Prop
  | nil : HdsMN X [] [] []
  | plain {x : Str} {c : Value} {g : String -> Option Bool} {h : M.Exc -> M.MS} {b : Stmt} {bs : List Stmt} {p q : Pos} {r : List ExceptHandler} {l : Hn} {l' : List (Value × (Addr -> Value -> Option Addr -> TS))} (hc : Names X x c)
      (hg : ∀ y b, g y = some b -> PySem.W.exmOne X.K (.ref (He.ga X.K y)) c = some b)
      (hsu : ∀ (e : M.Exc) (a : Addr) (oe : Obj) (d : Option Addr) (pn : List (Addr × Obj)), Zc (.ref (He.ga X.K e.cls)) d oe -> (∃ vs, oe.data = .fields vs) -> SSs (X.suite a ((a, oe) :: pn)) W0 (b :: bs) (h e)) : HdsMN X r l l' →
      HdsMN X (.ExceptHandler (some (.Name x p)) none (b :: bs) q :: r) ((none, g, h) :: l) ((c, tsM X.K h) :: l')
  | named {x n : Str} {i m : Nat} {c : Value} {g : String -> Option Bool} {h : M.Exc -> M.MS} {b : Stmt} {bs : List Stmt} {p q : Pos} {r : List ExceptHandler} {l : Hn} {l' : List (Value × (Addr -> Value -> Option Addr -> TS))} (hN : X.N.Nodup) (hi : X.N[i]? = some n) (hln : X.env.kindOf n = some .local) (hc : Names X x c)
      (hg : ∀ y b, g y = some b -> PySem.W.exmOne X.K (.ref (He.ga X.K y)) c = some b)
      (hsu : ∀ (e : M.Exc) (a : Addr) (oe : Obj) (d : Option Addr) (pn : List (Addr × Obj)), Zc (.ref (He.ga X.K e.cls)) d oe -> (∃ vs, oe.data = .fields vs) -> @SSs _ (jr' a m d e) (X.suite a ((a, oe) :: pn)) W0 (b :: bs) (h e)) : HdsMN X r l l' →
      HdsMN X (.ExceptHandler (some (.Name x p)) (some n) (b :: bs) q :: r) ((some (i, m), g, h) :: l) ((c, tAs i (tsA [] X.K m h)) :: l')
theorem HdsMN.ok {hds : List ExceptHandler} {l : Hn} {l' : List (Value × (Addr -> Value -> Option Addr -> TS))} (h : HdsMN X hds l l') : HdsN X hds l' := by
  induction h with
  | nil => exact .nil
  | plain hc hg hsu r ih => exact .plain hc (nm' hsu) ih
  | named hN hi hln hc hg hsu r ih =>
    refine .named hN hi hln hc (fun a oe cls d pn hz hf => ⟨fun pins s σ H D I q => ?_⟩) ih
    obtain ⟨e, rfl, q⟩ := q
    exact (hsu e a oe d pn hz hf).run pins s σ H D I q
end
end S
namespace S
open PySem PySem.Spec PyProof.Rows L2
variable [Wd]
structure LamOk (P : Program) (w : World) (K : PySem.W.Frag) (mg : Str -> Option Value) (base : Heap) (k : Nat) (cl : List (Str × Addr)) (fr : List Str) (c : CloD) (U : M.MF) : Prop where
  isfn : ∀ h : Heap, h.get? c.f = some c.ob -> PySem.W.FnAt c.f h
  run : ∀ (A : Around) (outer : List Env) (s : Shared) (H : Hp) (us : List Value) (vs : List V) (Q : VK) (E : XK), RoomG k A -> Env0 P w K mg base A outer s H →
    NdefX.CellsAt cl fr (c.ws.map some) s.heap H -> Vals vs us →
    (∃ ds w' F T fp, FzA K F T vs ds /\ CloAt K F T c /\ sp' K w' H F T fp /\ xl' K Q E F T fp (U ds w')) -> codeAny (model P w) A (.call (.ref c.f) ⟨us, []⟩) (CR (L2.CX P w) outer P w H s Q E) s
theorem LamOk.mono {P : Program} {w : World} {K : PySem.W.Frag} {mg : Str -> Option Value} {base : Heap} {j k : Nat} {cl : List (Str × Addr)} {fr : List Str} {c : CloD} {U : M.MF} (h : LamOk P w K mg base j cl fr c U) (l : j <= k) : LamOk P w K mg base k cl fr c U :=
  ⟨h.isfn, fun A o s H us vs Q E hr => h.run A o s H us vs Q E (hr.mono l)⟩
section
variable {P : Program} {w : World} {K : PySem.W.Frag} {mg : Str -> Option Value} {base : Heap}
end
inductive ArgK (K : PySem.W.Frag) (F : Hp) (T : List Addr) : List Bool -> List V -> List M.D -> List CloD -> Prop
  | nil : ArgK K F T [] [] [] []
  | dat {m : List Bool} {v : V} {vs : List V} {d : M.D} {ds : List M.D} {cs : List CloD} : Fz K F T v d -> ArgK K F T m vs ds cs -> ArgK K F T (false :: m) (v :: vs) (d :: ds) cs
  | clo {m : List Bool} {vs : List V} {ds : List M.D} {c : CloD} {cs : List CloD} : CloAt K F T c -> ArgK K F T m vs ds cs -> ArgK K F T (true :: m) (.ref c.f :: vs) ds (c :: cs)
theorem ArgK.mono {K : PySem.W.Frag} {F F' : Hp} {T T' : List Addr} (e : Ext F T F' T') {m : List Bool} {vs : List V} {ds : List M.D} {cs : List CloD} (h : ArgK K F T m vs ds cs) : ArgK K F' T' m vs ds cs := by
  induction h with
  | nil => exact .nil
  | dat z _ ih => exact .dat (z.mono e) ih
  | clo z _ ih => exact .clo (z.mono e) ih
section
variable [Hot] {X : Cx} {W : WX} {k : Nat} {e : Expr} {es : List Expr} {a : M.ME} {as : List M.AK}
end
structure FnK (P : Program) (w : World) (K : PySem.W.Frag) (mg : Str -> Option Value) (base : Heap) (k : Nat) (f : Addr) (fd : FuncData) (ps : List Str) (kc : Nat) (mask : List Bool) (m : List M.MF -> M.MF) : Prop where
  len : mask.length = ps.length
  run : ∀ (A : Around) (outer : List Env) (s : Shared) (H : Hp) (args : Args) (us : List Value) (vs : List V) (Q : VK) (E : XK), RoomG k A -> Env0 P w K mg base A outer s H -> BindsTo s fd args (ps.zip us) -> Vals vs us →
    (∃ ds cs Us w' F T fr, ArgK K F T mask vs ds cs /\ Paired (fun c U => ∃ cl fr, LamOk P w K mg base kc cl fr c U /\ NdefX.CellsAt cl fr (c.ws.map some) s.heap H) cs Us /\ sp' K w' H F T fr /\ xl' K Q E F T fr (m Us ds w')) →
    codeAny (model P w) A (.call (.ref f) args) (CR (L2.CX P w) outer P w H s Q E) s
theorem ArgK.len {K : PySem.W.Frag} {F : Hp} {T : List Addr} {m : List Bool} {vs : List V} {ds : List M.D} {cs : List CloD} (h : ArgK K F T m vs ds cs) : vs.length = m.length := by
  induction h with
  | nil => rfl
  | dat _ _ ih => exact congrArg (· + 1) ih
  | clo _ _ ih => exact congrArg (· + 1) ih
def xr' : Nat -> List Bool -> List CloD -> List (Nat × CloD)
  | n, true :: m, c :: cs => (n - 1, c) :: xr' (n - 1) m cs
  | n, false :: m, cs => xr' (n - 1) m cs
  | _, _, _ => []
theorem RpE.offs [Hot] {K : PySem.W.Frag} {F : Hp} {T : List Addr} : ∀ r : Nat, RpE K F T (List.replicate r none) (List.replicate r none) []
  | 0 => .nil
  | r + 1 => .off (RpE.offs r)
theorem ArgK.start [Hot] {K : PySem.W.Frag} {F : Hp} {T : List Addr} {r : Nat} : ∀ {m : List Bool} {vs : List V} {ds : List M.D} {cs : List CloD}, ArgK K F T m vs ds cs -> (∀ i c, (i, c) ∈ xr' (m.length + r) m cs -> Hot.clo.lookup i = some c) →
    ∃ env, M.zm' m ds = some env /\ env.length = m.length /\ RpE K F T (vs.map some ++ List.replicate r none) (env ++ List.replicate r none) []
  | _, _, _, _, .nil, _ => ⟨[], rfl, rfl, RpE.offs r⟩
  | _, _, _, _, @ArgK.dat _ _ _ _ m v vs d ds cs z a, h => by
    obtain ⟨env, h1, h2, h3⟩ := ArgK.start (r := r) a fun i c hi => h i c (by
      show (i, c) ∈ xr' (m.length + 1 + r - 1) m cs
      rwa [show m.length + 1 + r - 1 = m.length + r by omega])
    exact ⟨some (.fz d) :: env, by show (M.zm' m ds).map _ = _; rw [h1]; rfl, congrArg (· + 1) h2, RpE.on (fp := []) (fq := []) (.fz z) h3⟩
  | _, _, _, _, @ArgK.clo _ _ _ _ m vs ds c cs z a, h => by
    have e1 : m.length + 1 + r - 1 = m.length + r := by omega
    obtain ⟨env, h1, h2, h3⟩ := ArgK.start (r := r) a fun i c' hi => h i c' (by
      show (i, c') ∈ (m.length + 1 + r - 1, c) :: xr' (m.length + 1 + r - 1) m cs
      rw [e1]
      exact List.mem_cons_of_mem _ hi)
    refine ⟨some .clo :: env, by show (M.zm' m ds).map _ = _; rw [h1]; rfl, congrArg (· + 1) h2, RpE.clo ?_ z h3⟩
    show Hot.clo.lookup (env ++ List.replicate r none).length = some c
    rw [List.length_append, List.length_replicate, h2]
    refine h _ c ?_
    show _ ∈ (m.length + 1 + r - 1, c) :: xr' (m.length + 1 + r - 1) m cs
    rw [e1]
    exact List.mem_cons_self
section
variable {P : Program} {w : World} {K : PySem.W.Frag} {mg : Str -> Option Value} {base : Heap}
end
section
variable [Hot] {X : Cx} {W : WX} {k kc : Nat} {x : Str} {ps : List Str} {p pos : Pos} {e : Expr} {es : List Expr} {as : List M.AK} {m : List M.MF -> M.MF}
end
section
variable [Hot] {X : Cx} {W : WX} {kc i : Nat} {x : Str} {p pos : Pos} {e : Expr} {es : List Expr} {as : M.MA} {U : M.MF}
end
end S
namespace S
open PySem PySem.Spec PyProof.Rows L2
variable [Wd] [Hot]
section
variable {K : PySem.W.Frag}
end
end S
namespace S
open PySem PySem.Spec PyProof.Rows L2
variable [Wd] [Hot]
section
variable {X : Cx} {W : WX} {pos p : Pos} {x : Str} {a : Expr} {σ : St} {H : Hp} {Q : VK}
end
end S
namespace S
open PySem PySem.Spec PyProof.Rows L2
variable [Wd] [Hot]
section
variable {K : PySem.W.Frag} {W : WX} {σ : St} {H : Hp} {D : Ends}
end
section
variable {X : Cx} {W : WX} {pos : Pos} {tg e : Expr} {body : List Stmt} {sl : List Nat} {a : M.ME} {g : M.MG} {m1 : M.MS}
end
end S
namespace S
open PySem PySem.Spec PyProof.Rows L2
variable [Wd] [Hot]
section
variable {K : PySem.W.Frag} {W : WX} {σ : St} {H : Hp} {D : Ends} {ρ : M.PSt} {F : Hp} {T : List Addr} {fr : Fp}
end
section
variable {X : Cx} {W : WX} {pos : Pos} {elt tg iter : Expr} {ifs : List Expr} {scope : Scope} {own : List (Str × Nat)} {sl : List Nat} {it : M.MI} {g : M.MG} {t : M.MT} {e : M.MO}
end
end S
namespace S
open PySem PySem.Spec PyProof.Rows L2
variable [Wd] [Hot]
section
variable {K : PySem.W.Frag} {W : WX} {σ : St} {H : Hp} {D : Ends} {ρ : M.PSt} {F : Hp} {T : List Addr} {fr : Fp}
end
section
variable {X : Cx} {W : WX} {pos px qx epos apos cpos : Pos} {tg a : Expr} {nm x : Str} {i r : Nat} {v : V} {d : M.D}
end
end S
namespace S
open PySem PySem.Spec PyProof.Rows L2
variable [Wd] [Hot]
local macro_rules | `(tactic| walk_at "parts") => `(tactic| (constructor; (intro e h; simp only [List.mem_append, List.mem_cons, List.not_mem_nil] at *; grind); (intro x; simp only [keys, List.map_append, List.map_cons, List.map_nil, List.count_append, List.count_cons, List.count_nil] at *; omega)))
end S
namespace S
open PySem PySem.Spec PyProof.Rows L2
structure Ctx (w : World) (K : PySem.W.Frag) (mg : Str -> Option Value) : Prop where
  says : ∃ (h : Heap), He.SaysX fas fns tbs [] exK w h K
  inn : ∃ h : Heap, K.In h /\ h.Ns mainGlobals mg
section
variable [Wd] {w : World} {K : PySem.W.Frag} {mg : Str -> Option Value}
theorem Ctx.d (C : Ctx w K mg) : He.SaysD fas fns K := by
  obtain ⟨h, s⟩ := C.says
  exact s.t.d
theorem Ctx.more (C : Ctx w K mg) (i : Nat) {f : PySem.W.Frag -> Bool} (e : exs[i]? = some f) : f K = true := by
  obtain ⟨h, s⟩ := C.says
  exact List.all_eq_true.mp s.more f (List.mem_of_getElem? e)
theorem Ctx.glo (C : Ctx w K mg) {x : Str} (i : Nat) (h : fas[i]? = some (.glo x)) : mg x = some (.ref (He.ga K x)) := by
  obtain ⟨hp, X, G⟩ := C.inn
  exact He.glo_ok X G (C.d.fact i h)
theorem Ctx.g_is_integer (C : Ctx w K mg) : mg "is_integer" = some (.ref (He.ga K "is_integer")) := C.glo 0 rfl
theorem Ctx.g_is_string_of (C : Ctx w K mg) : mg "is_string_of" = some (.ref (He.ga K "is_string_of")) := C.glo 1 rfl
theorem Ctx.g_is_ascending (C : Ctx w K mg) : mg "is_ascending" = some (.ref (He.ga K "is_ascending")) := C.glo 2 rfl
theorem Ctx.g_is_choice (C : Ctx w K mg) : mg "is_choice" = some (.ref (He.ga K "is_choice")) := C.glo 3 rfl
theorem Ctx.g_is_word (C : Ctx w K mg) : mg "is_word" = some (.ref (He.ga K "is_word")) := C.glo 4 rfl
theorem Ctx.g_check_word (C : Ctx w K mg) : mg "check_word" = some (.ref (He.ga K "check_word")) := C.glo 5 rfl
theorem Ctx.g_are_states (C : Ctx w K mg) : mg "are_states" = some (.ref (He.ga K "are_states")) := C.glo 6 rfl
theorem Ctx.g_is_table (C : Ctx w K mg) : mg "is_table" = some (.ref (He.ga K "is_table")) := C.glo 7 rfl
theorem Ctx.g_led (C : Ctx w K mg) : mg "led" = some (.ref (He.ga K "led")) := C.glo 8 rfl
theorem Ctx.g_says (C : Ctx w K mg) : mg "says" = some (.ref (He.ga K "says")) := C.glo 9 rfl
theorem Ctx.g_reached (C : Ctx w K mg) : mg "reached" = some (.ref (He.ga K "reached")) := C.glo 10 rfl
theorem Ctx.g_numbered (C : Ctx w K mg) : mg "numbered" = some (.ref (He.ga K "numbered")) := C.glo 11 rfl
theorem Ctx.g_alike_states (C : Ctx w K mg) : mg "alike_states" = some (.ref (He.ga K "alike_states")) := C.glo 12 rfl
theorem Ctx.g_least (C : Ctx w K mg) : mg "least" = some (.ref (He.ga K "least")) := C.glo 13 rfl
theorem Ctx.g_around (C : Ctx w K mg) : mg "around" = some (.ref (He.ga K "around")) := C.glo 14 rfl
theorem Ctx.g__law_hand (C : Ctx w K mg) : mg "_law_hand" = some (.ref (He.ga K "_law_hand")) := C.glo 15 rfl
theorem Ctx.g__law_draw (C : Ctx w K mg) : mg "_law_draw" = some (.ref (He.ga K "_law_draw")) := C.glo 16 rfl
theorem Ctx.g__law_shuffled (C : Ctx w K mg) : mg "_law_shuffled" = some (.ref (He.ga K "_law_shuffled")) := C.glo 17 rfl
theorem Ctx.g__law_rows (C : Ctx w K mg) : mg "_law_rows" = some (.ref (He.ga K "_law_rows")) := C.glo 18 rfl
theorem Ctx.g__law_woven (C : Ctx w K mg) : mg "_law_woven" = some (.ref (He.ga K "_law_woven")) := C.glo 19 rfl
theorem Ctx.g__law_parts (C : Ctx w K mg) : mg "_law_parts" = some (.ref (He.ga K "_law_parts")) := C.glo 20 rfl
theorem Ctx.g__law_classes (C : Ctx w K mg) : mg "_law_classes" = some (.ref (He.ga K "_law_classes")) := C.glo 21 rfl
theorem Ctx.g__law_least (C : Ctx w K mg) : mg "_law_least" = some (.ref (He.ga K "_law_least")) := C.glo 22 rfl
theorem Ctx.g__law_word (C : Ctx w K mg) : mg "_law_word" = some (.ref (He.ga K "_law_word")) := C.glo 23 rfl
theorem Ctx.g__law_no_word (C : Ctx w K mg) : mg "_law_no_word" = some (.ref (He.ga K "_law_no_word")) := C.glo 24 rfl
theorem Ctx.g__law_is_machine (C : Ctx w K mg) : mg "_law_is_machine" = some (.ref (He.ga K "_law_is_machine")) := C.glo 25 rfl
theorem Ctx.g__law_led (C : Ctx w K mg) : mg "_law_led" = some (.ref (He.ga K "_law_led")) := C.glo 26 rfl
theorem Ctx.g__law_due (C : Ctx w K mg) : mg "_law_due" = some (.ref (He.ga K "_law_due")) := C.glo 27 rfl
theorem Ctx.g__law_is_refused (C : Ctx w K mg) : mg "_law_is_refused" = some (.ref (He.ga K "_law_is_refused")) := C.glo 28 rfl
theorem Ctx.g_law (C : Ctx w K mg) : mg "law" = some (.ref (He.ga K "law")) := C.glo 29 rfl
theorem Ctx.g_SaidError (C : Ctx w K mg) : mg "SaidError" = some (.ref (He.ga K "SaidError")) := C.glo 30 rfl
theorem Ctx.g_NoWord (C : Ctx w K mg) : mg "NoWord" = some (.ref (He.ga K "NoWord")) := C.glo 32 rfl
theorem Ctx.x_NoWord (C : Ctx w K mg) : PySem.W.excIn K (He.ga K "NoWord") He.veBase "ValueError.__new__" = true := (He.exc_ok (C.d.fact 33 rfl)).1
theorem Ctx.k_NoWord (C : Ctx w K mg) : PySem.W.keepIn K (.ref (He.ga K "NoWord")) = true := (He.exc_ok (C.d.fact 33 rfl)).2.1
theorem Ctx.r_NoWord (C : Ctx w K mg) {X : Cx} (e : X.K = K := by rfl) : Raises X (.ref (He.ga K "NoWord")) := by subst e; exact raises_own (He.exc_ok (C.d.fact 33 rfl)).2.2.1 (He.exc_ok (C.d.fact 33 rfl)).2.2.2
theorem Ctx.g_Machine (C : Ctx w K mg) : mg "Machine" = some (.ref (He.ga K "Machine")) := C.glo 35 rfl
theorem Ctx.g_RawMachine (C : Ctx w K mg) : mg "RawMachine" = some (.ref (He.ga K "RawMachine")) := C.glo 36 rfl
theorem Ctx.subs (C : Ctx w K mg) : Ag' K M.exT := fun e he => of_decide_eq_true (List.all_eq_true.mp (C.more 0 rfl) e he)
theorem Ctx.c_SMALL (C : Ctx w K mg) : ∃ t, mg "SMALL" = some (.str "abcdefghijklmnopqrstuvwxyz" t) := by obtain ⟨h, X, G⟩ := C.inn; exact He.str_ok X G (C.d.fact 37 rfl)
theorem Ctx.free_zip (C : Ctx w K mg) : mg "zip" = none := by obtain ⟨h, X, G⟩ := C.inn; exact He.free_ok X G (C.d.fact 38 rfl)
theorem Ctx.free_len (C : Ctx w K mg) : mg "len" = none := by obtain ⟨h, X, G⟩ := C.inn; exact He.free_ok X G (C.d.fact 39 rfl)
theorem Ctx.free_tuple (C : Ctx w K mg) : mg "tuple" = none := by obtain ⟨h, X, G⟩ := C.inn; exact He.free_ok X G (C.d.fact 40 rfl)
theorem Ctx.free_list (C : Ctx w K mg) : mg "list" = none := by obtain ⟨h, X, G⟩ := C.inn; exact He.free_ok X G (C.d.fact 41 rfl)
theorem Ctx.free_range (C : Ctx w K mg) : mg "range" = none := by obtain ⟨h, X, G⟩ := C.inn; exact He.free_ok X G (C.d.fact 42 rfl)
theorem Ctx.free_isinstance (C : Ctx w K mg) : mg "isinstance" = none := by obtain ⟨h, X, G⟩ := C.inn; exact He.free_ok X G (C.d.fact 43 rfl)
theorem Ctx.free_int (C : Ctx w K mg) : mg "int" = none := by obtain ⟨h, X, G⟩ := C.inn; exact He.free_ok X G (C.d.fact 44 rfl)
theorem Ctx.free_str (C : Ctx w K mg) : mg "str" = none := by obtain ⟨h, X, G⟩ := C.inn; exact He.free_ok X G (C.d.fact 45 rfl)
theorem Ctx.free_max (C : Ctx w K mg) : mg "max" = none := by obtain ⟨h, X, G⟩ := C.inn; exact He.free_ok X G (C.d.fact 46 rfl)
theorem Ctx.free_sorted (C : Ctx w K mg) : mg "sorted" = none := by obtain ⟨h, X, G⟩ := C.inn; exact He.free_ok X G (C.d.fact 47 rfl)
theorem Ctx.free_abs (C : Ctx w K mg) : mg "abs" = none := by obtain ⟨h, X, G⟩ := C.inn; exact He.free_ok X G (C.d.fact 48 rfl)
theorem Ctx.free_repr (C : Ctx w K mg) : mg "repr" = none := by obtain ⟨h, X, G⟩ := C.inn; exact He.free_ok X G (C.d.fact 49 rfl)
theorem Ctx.free_bool (C : Ctx w K mg) : mg "bool" = none := by obtain ⟨h, X, G⟩ := C.inn; exact He.free_ok X G (C.d.fact 50 rfl)
theorem Ctx.free_enumerate (C : Ctx w K mg) : mg "enumerate" = none := by obtain ⟨h, X, G⟩ := C.inn; exact He.free_ok X G (C.d.fact 51 rfl)
theorem Ctx.free_min (C : Ctx w K mg) : mg "min" = none := by obtain ⟨h, X, G⟩ := C.inn; exact He.free_ok X G (C.d.fact 52 rfl)
theorem Ctx.cl_Machine (C : Ctx w K mg) : Cls K (He.ga K "Machine") := He.cls_ok (C.d.fact 53 rfl)
theorem Ctx.n_Machine_kept_letters (C : Ctx w K mg) : NoAttr K (He.ga K "Machine") "kept_letters" := He.noat_ok (C.d.fact 54 rfl)
theorem Ctx.n_Machine_kept_table (C : Ctx w K mg) : NoAttr K (He.ga K "Machine") "kept_table" := He.noat_ok (C.d.fact 55 rfl)
theorem Ctx.n_Machine_kept_accepts (C : Ctx w K mg) : NoAttr K (He.ga K "Machine") "kept_accepts" := He.noat_ok (C.d.fact 56 rfl)
theorem Ctx.n_Machine_kept_least (C : Ctx w K mg) : NoAttr K (He.ga K "Machine") "kept_least" := He.noat_ok (C.d.fact 57 rfl)
theorem Ctx.n_Machine_kept_field (C : Ctx w K mg) : NoAttr K (He.ga K "Machine") "kept_field" := He.noat_ok (C.d.fact 58 rfl)
theorem Ctx.n_Machine_kept_lots (C : Ctx w K mg) : NoAttr K (He.ga K "Machine") "kept_lots" := He.noat_ok (C.d.fact 59 rfl)
theorem Ctx.n_Machine_kept_more (C : Ctx w K mg) : NoAttr K (He.ga K "Machine") "kept_more" := He.noat_ok (C.d.fact 60 rfl)
theorem Ctx.mk_Machine (C : Ctx w K mg) : Mk K (He.ga K "Machine") (He.ma K (He.ga K "Machine") "__init__") := He.mkr_ok (C.d.fact 61 rfl)
theorem Ctx.cl_RawMachine (C : Ctx w K mg) : Cls K (He.ga K "RawMachine") := He.cls_ok (C.d.fact 62 rfl)
theorem Ctx.n_RawMachine_kept_letters (C : Ctx w K mg) : NoAttr K (He.ga K "RawMachine") "kept_letters" := He.noat_ok (C.d.fact 63 rfl)
theorem Ctx.n_RawMachine_kept_table (C : Ctx w K mg) : NoAttr K (He.ga K "RawMachine") "kept_table" := He.noat_ok (C.d.fact 64 rfl)
theorem Ctx.n_RawMachine_kept_accepts (C : Ctx w K mg) : NoAttr K (He.ga K "RawMachine") "kept_accepts" := He.noat_ok (C.d.fact 65 rfl)
theorem Ctx.n_RawMachine_kept_least (C : Ctx w K mg) : NoAttr K (He.ga K "RawMachine") "kept_least" := He.noat_ok (C.d.fact 66 rfl)
theorem Ctx.n_RawMachine_kept_field (C : Ctx w K mg) : NoAttr K (He.ga K "RawMachine") "kept_field" := He.noat_ok (C.d.fact 67 rfl)
theorem Ctx.n_RawMachine_kept_lots (C : Ctx w K mg) : NoAttr K (He.ga K "RawMachine") "kept_lots" := He.noat_ok (C.d.fact 68 rfl)
theorem Ctx.n_RawMachine_kept_more (C : Ctx w K mg) : NoAttr K (He.ga K "RawMachine") "kept_more" := He.noat_ok (C.d.fact 69 rfl)
theorem Ctx.mk_RawMachine (C : Ctx w K mg) : Mk K (He.ga K "RawMachine") (He.ma K (He.ga K "RawMachine") "__init__") := He.mkr_ok (C.d.fact 70 rfl)
theorem Ctx.ml_Machine_keep (C : Ctx w K mg) : jn' K ["Machine", "RawMachine"] "keep" (He.ma K (He.ga K "Machine") "keep") := by
  intro c h
  rcases List.mem_cons.mp h with rfl | h
  . exact ⟨C.cl_Machine, He.meth_ok (C.d.fact 71 rfl)⟩
  rcases List.mem_cons.mp h with rfl | h
  . have e := of_decide_eq_true (C.more 1 rfl)
    refine ⟨C.cl_RawMachine, ?_⟩
    rw [<- e]
    exact He.meth_ok (C.d.fact 72 rfl)
  cases h
theorem Ctx.ml_Machine_letters (C : Ctx w K mg) : jn' K ["Machine", "RawMachine"] "letters" (He.ma K (He.ga K "Machine") "letters") := by
  intro c h
  rcases List.mem_cons.mp h with rfl | h
  . exact ⟨C.cl_Machine, He.meth_ok (C.d.fact 73 rfl)⟩
  rcases List.mem_cons.mp h with rfl | h
  . have e := of_decide_eq_true (C.more 2 rfl)
    refine ⟨C.cl_RawMachine, ?_⟩
    rw [<- e]
    exact He.meth_ok (C.d.fact 74 rfl)
  cases h
theorem Ctx.ml_Machine_table (C : Ctx w K mg) : jn' K ["Machine", "RawMachine"] "table" (He.ma K (He.ga K "Machine") "table") := by
  intro c h
  rcases List.mem_cons.mp h with rfl | h
  . exact ⟨C.cl_Machine, He.meth_ok (C.d.fact 75 rfl)⟩
  rcases List.mem_cons.mp h with rfl | h
  . have e := of_decide_eq_true (C.more 3 rfl)
    refine ⟨C.cl_RawMachine, ?_⟩
    rw [<- e]
    exact He.meth_ok (C.d.fact 76 rfl)
  cases h
theorem Ctx.ml_Machine_accepts (C : Ctx w K mg) : jn' K ["Machine", "RawMachine"] "accepts" (He.ma K (He.ga K "Machine") "accepts") := by
  intro c h
  rcases List.mem_cons.mp h with rfl | h
  . exact ⟨C.cl_Machine, He.meth_ok (C.d.fact 77 rfl)⟩
  rcases List.mem_cons.mp h with rfl | h
  . have e := of_decide_eq_true (C.more 4 rfl)
    refine ⟨C.cl_RawMachine, ?_⟩
    rw [<- e]
    exact He.meth_ok (C.d.fact 78 rfl)
  cases h
theorem Ctx.ml_Machine_parts (C : Ctx w K mg) : jn' K ["Machine", "RawMachine"] "parts" (He.ma K (He.ga K "Machine") "parts") := by
  intro c h
  rcases List.mem_cons.mp h with rfl | h
  . exact ⟨C.cl_Machine, He.meth_ok (C.d.fact 79 rfl)⟩
  rcases List.mem_cons.mp h with rfl | h
  . have e := of_decide_eq_true (C.more 5 rfl)
    refine ⟨C.cl_RawMachine, ?_⟩
    rw [<- e]
    exact He.meth_ok (C.d.fact 80 rfl)
  cases h
theorem Ctx.ne_Machine (C : Ctx w K mg) : NeP K [("Machine", "Machine"), ("RawMachine", "Machine"), ("RawMachine", "RawMachine")] (He.ma K (He.ga K "Machine") "__eq__") := wc' (C.more 7 rfl)
theorem Ctx.kit (C : Ctx w K mg) : t6' K M.exI := rI' (C.more 8 rfl)
theorem Ctx.is_Machine (C : Ctx w K mg) : CL' K M.isT "Machine" := tw' (C.more 9 rfl)
theorem Ctx.at_kept_letters (C : Ctx w K mg) : ∀ c ∈ ["Machine", "RawMachine"], Cls K (He.ga K (Str.ofString c)) /\ NoAttr K (He.ga K (Str.ofString c)) (Str.ofString "kept_letters") := by
  intro c h
  rcases List.mem_cons.mp h with rfl | h
  . exact ⟨C.cl_Machine, C.n_Machine_kept_letters⟩
  rcases List.mem_cons.mp h with rfl | h
  . exact ⟨C.cl_RawMachine, C.n_RawMachine_kept_letters⟩
  cases h
theorem Ctx.at_kept_table (C : Ctx w K mg) : ∀ c ∈ ["Machine", "RawMachine"], Cls K (He.ga K (Str.ofString c)) /\ NoAttr K (He.ga K (Str.ofString c)) (Str.ofString "kept_table") := by
  intro c h
  rcases List.mem_cons.mp h with rfl | h
  . exact ⟨C.cl_Machine, C.n_Machine_kept_table⟩
  rcases List.mem_cons.mp h with rfl | h
  . exact ⟨C.cl_RawMachine, C.n_RawMachine_kept_table⟩
  cases h
theorem Ctx.at_kept_accepts (C : Ctx w K mg) : ∀ c ∈ ["Machine", "RawMachine"], Cls K (He.ga K (Str.ofString c)) /\ NoAttr K (He.ga K (Str.ofString c)) (Str.ofString "kept_accepts") := by
  intro c h
  rcases List.mem_cons.mp h with rfl | h
  . exact ⟨C.cl_Machine, C.n_Machine_kept_accepts⟩
  rcases List.mem_cons.mp h with rfl | h
  . exact ⟨C.cl_RawMachine, C.n_RawMachine_kept_accepts⟩
  cases h
theorem Ctx.at_kept_least (C : Ctx w K mg) : ∀ c ∈ ["Machine", "RawMachine"], Cls K (He.ga K (Str.ofString c)) /\ NoAttr K (He.ga K (Str.ofString c)) (Str.ofString "kept_least") := by
  intro c h
  rcases List.mem_cons.mp h with rfl | h
  . exact ⟨C.cl_Machine, C.n_Machine_kept_least⟩
  rcases List.mem_cons.mp h with rfl | h
  . exact ⟨C.cl_RawMachine, C.n_RawMachine_kept_least⟩
  cases h
theorem Ctx.at_kept_field (C : Ctx w K mg) : ∀ c ∈ ["Machine", "RawMachine"], Cls K (He.ga K (Str.ofString c)) /\ NoAttr K (He.ga K (Str.ofString c)) (Str.ofString "kept_field") := by
  intro c h
  rcases List.mem_cons.mp h with rfl | h
  . exact ⟨C.cl_Machine, C.n_Machine_kept_field⟩
  rcases List.mem_cons.mp h with rfl | h
  . exact ⟨C.cl_RawMachine, C.n_RawMachine_kept_field⟩
  cases h
theorem Ctx.at_kept_lots (C : Ctx w K mg) : ∀ c ∈ ["Machine", "RawMachine"], Cls K (He.ga K (Str.ofString c)) /\ NoAttr K (He.ga K (Str.ofString c)) (Str.ofString "kept_lots") := by
  intro c h
  rcases List.mem_cons.mp h with rfl | h
  . exact ⟨C.cl_Machine, C.n_Machine_kept_lots⟩
  rcases List.mem_cons.mp h with rfl | h
  . exact ⟨C.cl_RawMachine, C.n_RawMachine_kept_lots⟩
  cases h
theorem Ctx.at_kept_more (C : Ctx w K mg) : ∀ c ∈ ["Machine", "RawMachine"], Cls K (He.ga K (Str.ofString c)) /\ NoAttr K (He.ga K (Str.ofString c)) (Str.ofString "kept_more") := by
  intro c h
  rcases List.mem_cons.mp h with rfl | h
  . exact ⟨C.cl_Machine, C.n_Machine_kept_more⟩
  rcases List.mem_cons.mp h with rfl | h
  . exact ⟨C.cl_RawMachine, C.n_RawMachine_kept_more⟩
  cases h
theorem Ctx.f_is_integer (C : Ctx w K mg) : ∃ fd, FunD K "is_integer" "is_integer" (defArgs be') (defBody be') (defScope be') [] [] (He.ga K "is_integer") fd := C.d.def_ 0 (d := e8') rfl
theorem k0' {f : Addr} {fd : FuncData} (F : FunD K "is_integer" "is_integer" (defArgs be') (defBody be') (defScope be') [] [] f fd) : Binds K fd ["thing"] [] := F.bindsN fun _ _ _ _ _ _ us hl => match us, hl with | [_], _ => rfl
theorem Ctx.f_is_string_of (C : Ctx w K mg) : ∃ fd, FunD K "is_string_of" "is_string_of" (defArgs aR') (defBody aR') (defScope aR') [] [] (He.ga K "is_string_of") fd := C.d.def_ 1 (d := dH') rfl
theorem hY' {f : Addr} {fd : FuncData} (F : FunD K "is_string_of" "is_string_of" (defArgs aR') (defBody aR') (defScope aR') [] [] f fd) : Binds K fd ["thing", "signs"] [] := F.bindsN fun _ _ _ _ _ _ us hl => match us, hl with | [_, _], _ => rfl
theorem Ctx.f_is_ascending (C : Ctx w K mg) : ∃ fd, FunD K "is_ascending" "is_ascending" (defArgs aS') (defBody aS') (defScope aS') [] [] (He.ga K "is_ascending") fd := C.d.def_ 2 (d := dI') rfl
theorem hZ' {f : Addr} {fd : FuncData} (F : FunD K "is_ascending" "is_ascending" (defArgs aS') (defBody aS') (defScope aS') [] [] f fd) : Binds K fd ["thing"] [] := F.bindsN fun _ _ _ _ _ _ us hl => match us, hl with | [_], _ => rfl
theorem Ctx.f_is_choice (C : Ctx w K mg) : ∃ fd, FunD K "is_choice" "is_choice" (defArgs bp') (defBody bp') (defScope bp') [] [] (He.ga K "is_choice") fd := C.d.def_ 3 (d := gb') rfl
theorem mb' {f : Addr} {fd : FuncData} (F : FunD K "is_choice" "is_choice" (defArgs bp') (defBody bp') (defScope bp') [] [] f fd) : Binds K fd ["thing", "signs"] [] := F.bindsN fun _ _ _ _ _ _ us hl => match us, hl with | [_, _], _ => rfl
theorem Ctx.f_is_word (C : Ctx w K mg) : ∃ fd, FunD K "is_word" "is_word" (defArgs bT') (defBody bT') (defScope bT') [] [] (He.ga K "is_word") fd := C.d.def_ 4 (d := iy') rfl
theorem sc' {f : Addr} {fd : FuncData} (F : FunD K "is_word" "is_word" (defArgs bT') (defBody bT') (defScope bT') [] [] f fd) : Binds K fd ["machine", "thing"] [] := F.bindsN fun _ _ _ _ _ _ us hl => match us, hl with | [_, _], _ => rfl
theorem Ctx.f_check_word (C : Ctx w K mg) : ∃ fd, FunD K "check_word" "check_word" (defArgs bf') (defBody bf') (defScope bf') [] [] (He.ga K "check_word") fd := C.d.def_ 5 (d := e9') rfl
theorem k1' {f : Addr} {fd : FuncData} (F : FunD K "check_word" "check_word" (defArgs bf') (defBody bf') (defScope bf') [] [] f fd) : Binds K fd ["machine", "thing"] [] := F.bindsN fun _ _ _ _ _ _ us hl => match us, hl with | [_, _], _ => rfl
theorem Ctx.f_are_states (C : Ctx w K mg) : ∃ fd, FunD K "are_states" "are_states" (defArgs bg') (defBody bg') (defScope bg') [] [] (He.ga K "are_states") fd := C.d.def_ 6 (d := fa') rfl
theorem k3' {f : Addr} {fd : FuncData} (F : FunD K "are_states" "are_states" (defArgs bg') (defBody bg') (defScope bg') [] [] f fd) : Binds K fd ["thing", "many"] [] := F.bindsN fun _ _ _ _ _ _ us hl => match us, hl with | [_, _], _ => rfl
theorem Ctx.f_is_table (C : Ctx w K mg) : ∃ fd, FunD K "is_table" "is_table" (defArgs bC') (defBody bC') (defScope bC') [] [] (He.ga K "is_table") fd := C.d.def_ 7 (d := hB') rfl
theorem oW' {f : Addr} {fd : FuncData} (F : FunD K "is_table" "is_table" (defArgs bC') (defBody bC') (defScope bC') [] [] f fd) : Binds K fd ["thing", "letters"] [] := F.bindsN fun _ _ _ _ _ _ us hl => match us, hl with | [_, _], _ => rfl
theorem Ctx.f_Machine___init__ (C : Ctx w K mg) : ∃ fd, FunD K "__init__" "Machine.__init__" (defArgs ar') (defBody ar') (defScope ar') [] [] (He.ma K (He.ga K "Machine") "__init__") fd := C.d.def_ 8 (d := cH') rfl
theorem fg' {f : Addr} {fd : FuncData} (F : FunD K "__init__" "Machine.__init__" (defArgs ar') (defBody ar') (defScope ar') [] [] f fd) : Binds K fd ["self", "letters", "table", "accepts"] [] := F.bindsN fun _ _ _ _ _ _ us hl => match us, hl with | [_, _, _, _], _ => rfl
theorem Ctx.f_Machine_keep (C : Ctx w K mg) : ∃ fd, FunD K "keep" "Machine.keep" (defArgs aT') (defBody aT') (defScope aT') [] [] (He.ma K (He.ga K "Machine") "keep") fd := C.d.def_ 9 (d := dM') rfl
theorem h6' {f : Addr} {fd : FuncData} (F : FunD K "keep" "Machine.keep" (defArgs aT') (defBody aT') (defScope aT') [] [] f fd) : Binds K fd ["self", "letters", "table", "accepts"] [] := F.bindsN fun _ _ _ _ _ _ us hl => match us, hl with | [_, _, _, _], _ => rfl
theorem Ctx.f_Machine_letters (C : Ctx w K mg) : ∃ fd, FunD K "letters" "Machine.letters" (defArgs ay') (defBody ay') (defScope ay') [] [] (He.ma K (He.ga K "Machine") "letters") fd := C.d.def_ 10 (d := cR') rfl
theorem fS' {f : Addr} {fd : FuncData} (F : FunD K "letters" "Machine.letters" (defArgs ay') (defBody ay') (defScope ay') [] [] f fd) : Binds K fd ["self"] [] := F.bindsN fun _ _ _ _ _ _ us hl => match us, hl with | [_], _ => rfl
theorem Ctx.f_Machine_table (C : Ctx w K mg) : ∃ fd, FunD K "table" "Machine.table" (defArgs aO') (defBody aO') (defScope aO') [] [] (He.ma K (He.ga K "Machine") "table") fd := C.d.def_ 11 (d := dm') rfl
theorem hJ' {f : Addr} {fd : FuncData} (F : FunD K "table" "Machine.table" (defArgs aO') (defBody aO') (defScope aO') [] [] f fd) : Binds K fd ["self"] [] := F.bindsN fun _ _ _ _ _ _ us hl => match us, hl with | [_], _ => rfl
theorem Ctx.f_Machine_accepts (C : Ctx w K mg) : ∃ fd, FunD K "accepts" "Machine.accepts" (defArgs az') (defBody az') (defScope az') [] [] (He.ma K (He.ga K "Machine") "accepts") fd := C.d.def_ 12 (d := cS') rfl
theorem fT' {f : Addr} {fd : FuncData} (F : FunD K "accepts" "Machine.accepts" (defArgs az') (defBody az') (defScope az') [] [] f fd) : Binds K fd ["self"] [] := F.bindsN fun _ _ _ _ _ _ us hl => match us, hl with | [_], _ => rfl
theorem Ctx.f_Machine_parts (C : Ctx w K mg) : ∃ fd, FunD K "parts" "Machine.parts" (defArgs aP') (defBody aP') (defScope aP') [] [] (He.ma K (He.ga K "Machine") "parts") fd := C.d.def_ 13 (d := dn') rfl
theorem hK' {f : Addr} {fd : FuncData} (F : FunD K "parts" "Machine.parts" (defArgs aP') (defBody aP') (defScope aP') [] [] f fd) : Binds K fd ["self"] [] := F.bindsN fun _ _ _ _ _ _ us hl => match us, hl with | [_], _ => rfl
theorem Ctx.f_Machine___eq__ (C : Ctx w K mg) : ∃ fd, FunD K "__eq__" "Machine.__eq__" (defArgs aE') (defBody aE') (defScope aE') [] [] (He.ma K (He.ga K "Machine") "__eq__") fd := C.d.def_ 14 (d := c1') rfl
theorem gp' {f : Addr} {fd : FuncData} (F : FunD K "__eq__" "Machine.__eq__" (defArgs aE') (defBody aE') (defScope aE') [] [] f fd) : Binds K fd ["self", "other"] [] := F.bindsN fun _ _ _ _ _ _ us hl => match us, hl with | [_, _], _ => rfl
theorem Ctx.f_RawMachine___init__ (C : Ctx w K mg) : ∃ fd, FunD K "__init__" "RawMachine.__init__" (defArgs ak') (defBody ak') (defScope ak') [] [] (He.ma K (He.ga K "RawMachine") "__init__") fd := C.d.def_ 15 (d := cf') rfl
theorem dO' {f : Addr} {fd : FuncData} (F : FunD K "__init__" "RawMachine.__init__" (defArgs ak') (defBody ak') (defScope ak') [] [] f fd) : Binds K fd ["self", "letters", "table", "accepts"] [] := F.bindsN fun _ _ _ _ _ _ us hl => match us, hl with | [_, _, _, _], _ => rfl
theorem Ctx.f_led (C : Ctx w K mg) : ∃ fd, FunD K "led" "led" (defArgs hU') (defBody hU') (defScope hU') [] [] (He.ga K "led") fd := C.d.def_ 16 (d := uX') rfl
theorem CG' {f : Addr} {fd : FuncData} (F : FunD K "led" "led" (defArgs hU') (defBody hU') (defScope hU') [] [] f fd) : Binds K fd ["machine", "state", "word"] [] := F.bindsN fun _ _ _ _ _ _ us hl => match us, hl with | [_, _, _], _ => rfl
theorem Ctx.f_says (C : Ctx w K mg) : ∃ fd, FunD K "says" "says" (defArgs d7') (defBody d7') (defScope d7') [] [] (He.ga K "says") fd := C.d.def_ 17 (d := rV') rfl
theorem Ad' {f : Addr} {fd : FuncData} (F : FunD K "says" "says" (defArgs d7') (defBody d7') (defScope d7') [] [] f fd) : Binds K fd ["machine", "word"] [] := F.bindsN fun _ _ _ _ _ _ us hl => match us, hl with | [_, _], _ => rfl
theorem Ctx.f_reached (C : Ctx w K mg) : ∃ fd, FunD K "reached" "reached" (defArgs bS') (defBody bS') (defScope bS') [] [] (He.ga K "reached") fd := C.d.def_ 18 (d := ix') rfl
theorem sb' {f : Addr} {fd : FuncData} (F : FunD K "reached" "reached" (defArgs bS') (defBody bS') (defScope bS') [] [] f fd) : Binds K fd ["machine"] [] := F.bindsN fun _ _ _ _ _ _ us hl => match us, hl with | [_], _ => rfl
theorem Ctx.f_numbered (C : Ctx w K mg) : ∃ fd, FunD K "numbered" "numbered" (defArgs bB') (defBody bB') (defScope bB') [] [] (He.ga K "numbered") fd := C.d.def_ 19 (d := hA') rfl
theorem oV' {f : Addr} {fd : FuncData} (F : FunD K "numbered" "numbered" (defArgs bB') (defBody bB') (defScope bB') [] [] f fd) : Binds K fd ["keys"] [] := F.bindsN fun _ _ _ _ _ _ us hl => match us, hl with | [_], _ => rfl
theorem Ctx.f_alike_states (C : Ctx w K mg) : ∃ fd, FunD K "alike_states" "alike_states" (defArgs aD') (defBody aD') (defScope aD') [] [] (He.ga K "alike_states") fd := C.d.def_ 20 (d := dJ') rfl
theorem h0' {f : Addr} {fd : FuncData} (F : FunD K "alike_states" "alike_states" (defArgs aD') (defBody aD') (defScope aD') [] [] f fd) : Binds K fd ["machine", "states"] [] := F.bindsN fun _ _ _ _ _ _ us hl => match us, hl with | [_, _], _ => rfl
theorem Ctx.f_least (C : Ctx w K mg) : ∃ fd, FunD K "least" "least" (defArgs cp') (defBody cp') (defScope cp') [] [] (He.ga K "least") fd := C.d.def_ 21 (d := n9') rfl
theorem xf' {f : Addr} {fd : FuncData} (F : FunD K "least" "least" (defArgs cp') (defBody cp') (defScope cp') [] [] f fd) : Binds K fd ["machine"] [] := F.bindsN fun _ _ _ _ _ _ us hl => match us, hl with | [_], _ => rfl
theorem Ctx.f_around (C : Ctx w K mg) : ∃ fd, FunD K "around" "around" (defArgs bI') (defBody bI') (defScope bI') [] [] (He.ga K "around") fd := C.d.def_ 22 (d := kF') rfl
theorem t3' {f : Addr} {fd : FuncData} (F : FunD K "around" "around" (defArgs bI') (defBody bI') (defScope bI') [] [] f fd) : Binds K fd ["machine", "ahead", "behind"] [] := F.bindsN fun _ _ _ _ _ _ us hl => match us, hl with | [_, _, _], _ => rfl
theorem Ctx.f__law_hand (C : Ctx w K mg) : ∃ fd, FunD K "_law_hand" "_law_hand" (defArgs bi') (defBody bi') (defScope bi') [] [] (He.ga K "_law_hand") fd := C.d.def_ 23 (d := ge') rfl
theorem me' {f : Addr} {fd : FuncData} (F : FunD K "_law_hand" "_law_hand" (defArgs bi') (defBody bi') (defScope bi') [] [] f fd) : Binds K fd ["_law_script"] [] := F.bindsN fun _ _ _ _ _ _ us hl => match us, hl with | [_], _ => rfl
theorem Ctx.f__law_draw (C : Ctx w K mg) : ∃ fd, FunD K "_law_draw" "_law_draw" (defArgs br') (defBody br') (defScope br') [] [] (He.ga K "_law_draw") fd := C.d.def_ 24 (d := gf') rfl
theorem mf' {f : Addr} {fd : FuncData} (F : FunD K "_law_draw" "_law_draw" (defArgs br') (defBody br') (defScope br') [] [] f fd) : Binds K fd ["_law_hand_here", "_law_many"] [] := F.bindsN fun _ _ _ _ _ _ us hl => match us, hl with | [_, _], _ => rfl
theorem Ctx.f__law_shuffled (C : Ctx w K mg) : ∃ fd, FunD K "_law_shuffled" "_law_shuffled" (defArgs aL') (defBody aL') (defScope aL') [] [] (He.ga K "_law_shuffled") fd := C.d.def_ 25 (d := dl') rfl
theorem hI' {f : Addr} {fd : FuncData} (F : FunD K "_law_shuffled" "_law_shuffled" (defArgs aL') (defBody aL') (defScope aL') [] [] f fd) : Binds K fd ["_law_hand_here", "_law_things"] [] := F.bindsN fun _ _ _ _ _ _ us hl => match us, hl with | [_, _], _ => rfl
theorem Ctx.f__law_rows (C : Ctx w K mg) : ∃ fd, FunD K "_law_rows" "_law_rows" (defArgs a8') (defBody a8') (defScope a8') [] [] (He.ga K "_law_rows") fd := C.d.def_ 26 (d := gd') rfl
theorem md' {f : Addr} {fd : FuncData} (F : FunD K "_law_rows" "_law_rows" (defArgs a8') (defBody a8') (defScope a8') [] [] f fd) : Binds K fd ["_law_hand_here", "_law_kind", "_law_size", "_law_many"] [] := F.bindsN fun _ _ _ _ _ _ us hl => match us, hl with | [_, _, _, _], _ => rfl
theorem Ctx.f__law_woven (C : Ctx w K mg) : ∃ fd, FunD K "_law_woven" "_law_woven" (defArgs a0') (defBody a0') (defScope a0') [] [] (He.ga K "_law_woven") fd := C.d.def_ 27 (d := fc') rfl
theorem k5' {f : Addr} {fd : FuncData} (F : FunD K "_law_woven" "_law_woven" (defArgs a0') (defBody a0') (defScope a0') [] [] f fd) : Binds K fd ["_law_hand_here", "_law_many"] [] := F.bindsN fun _ _ _ _ _ _ us hl => match us, hl with | [_, _], _ => rfl
theorem Ctx.f__law_parts (C : Ctx w K mg) : ∃ fd, FunD K "_law_parts" "_law_parts" (defArgs a3') (defBody a3') (defScope a3') [] [] (He.ga K "_law_parts") fd := C.d.def_ 28 (d := fd') rfl
theorem k6' {f : Addr} {fd : FuncData} (F : FunD K "_law_parts" "_law_parts" (defArgs a3') (defBody a3') (defScope a3') [] [] f fd) : Binds K fd ["_law_hand_here", "_law_most", "_law_states"] [] := F.bindsN fun _ _ _ _ _ _ us hl => match us, hl with | [_, _, _], _ => rfl
theorem Ctx.f__law_classes (C : Ctx w K mg) : ∃ fd, FunD K "_law_classes" "_law_classes" (defArgs aN') (defBody aN') (defScope aN') [] [] (He.ga K "_law_classes") fd := C.d.def_ 29 (d := dL') rfl
theorem h5' {f : Addr} {fd : FuncData} (F : FunD K "_law_classes" "_law_classes" (defArgs aN') (defBody aN') (defScope aN') [] [] f fd) : Binds K fd ["_law_table", "_law_accepts", "_law_states"] [] := F.bindsN fun _ _ _ _ _ _ us hl => match us, hl with | [_, _, _], _ => rfl
theorem Ctx.f__law_least (C : Ctx w K mg) : ∃ fd, FunD K "_law_least" "_law_least" (defArgs aU') (defBody aU') (defScope aU') [] [] (He.ga K "_law_least") fd := C.d.def_ 30 (d := ff') rfl
theorem k7' {f : Addr} {fd : FuncData} (F : FunD K "_law_least" "_law_least" (defArgs aU') (defBody aU') (defScope aU') [] [] f fd) : Binds K fd ["_law_table", "_law_accepts"] [] := F.bindsN fun _ _ _ _ _ _ us hl => match us, hl with | [_, _], _ => rfl
theorem Ctx.f__law_word (C : Ctx w K mg) : ∃ fd, FunD K "_law_word" "_law_word" (defArgs bq') (defBody bq') (defScope bq') [] [] (He.ga K "_law_word") fd := C.d.def_ 31 (d := gc') rfl
theorem mc' {f : Addr} {fd : FuncData} (F : FunD K "_law_word" "_law_word" (defArgs bq') (defBody bq') (defScope bq') [] [] f fd) : Binds K fd ["_law_hand_here", "_law_letters", "_law_many"] [] := F.bindsN fun _ _ _ _ _ _ us hl => match us, hl with | [_, _, _], _ => rfl
theorem Ctx.f__law_no_word (C : Ctx w K mg) : ∃ fd, FunD K "_law_no_word" "_law_no_word" (defArgs aM') (defBody aM') (defScope aM') [] [] (He.ga K "_law_no_word") fd := C.d.def_ 32 (d := dK') rfl
theorem h4' {f : Addr} {fd : FuncData} (F : FunD K "_law_no_word" "_law_no_word" (defArgs aM') (defBody aM') (defScope aM') [] [] f fd) : Binds K fd ["_law_hand_here", "_law_letters", "_law_word_here"] [] := F.bindsN fun _ _ _ _ _ _ us hl => match us, hl with | [_, _, _], _ => rfl
theorem Ctx.f__law_is_machine (C : Ctx w K mg) : ∃ fd, FunD K "_law_is_machine" "_law_is_machine" (defArgs ax') (defBody ax') (defScope ax') [] [] (He.ga K "_law_is_machine") fd := C.d.def_ 33 (d := cQ') rfl
theorem fR' {f : Addr} {fd : FuncData} (F : FunD K "_law_is_machine" "_law_is_machine" (defArgs ax') (defBody ax') (defScope ax') [] [] f fd) : Binds K fd ["_law_found", "_law_letters", "_law_rows_here", "_law_yes"] [] := F.bindsN fun _ _ _ _ _ _ us hl => match us, hl with | [_, _, _, _], _ => rfl
theorem Ctx.f__law_led (C : Ctx w K mg) : ∃ fd, FunD K "_law_led" "_law_led" (defArgs bD') (defBody bD') (defScope bD') [] [] (He.ga K "_law_led") fd := C.d.def_ 34 (d := hC') rfl
theorem oX' {f : Addr} {fd : FuncData} (F : FunD K "_law_led" "_law_led" (defArgs bD') (defBody bD') (defScope bD') [] [] f fd) : Binds K fd ["_law_letters", "_law_table", "_law_state", "_law_word_here"] [] := F.bindsN fun _ _ _ _ _ _ us hl => match us, hl with | [_, _, _, _], _ => rfl
theorem Ctx.f__law_due (C : Ctx w K mg) : ∃ fd, FunD K "_law_due" "_law_due" (defArgs bm') (defBody bm') (defScope bm') [] [] (He.ga K "_law_due") fd := C.d.def_ 35 (d := hD') rfl
theorem oY' {f : Addr} {fd : FuncData} (F : FunD K "_law_due" "_law_due" (defArgs bm') (defBody bm') (defScope bm') [] [] f fd) : Binds K fd ["_law_letters", "_law_table", "_law_accepts", "_law_ahead", "_law_behind"] [] := F.bindsN fun _ _ _ _ _ _ us hl => match us, hl with | [_, _, _, _, _], _ => rfl
theorem Ctx.f__law_is_refused (C : Ctx w K mg) : ∃ fd, FunD K "_law_is_refused" "_law_is_refused" (defArgs aw') (defBody aw') (defScope aw') [] [] (He.ga K "_law_is_refused") fd := C.d.def_ 36 (d := cP') rfl
theorem fQ' {f : Addr} {fd : FuncData} (F : FunD K "_law_is_refused" "_law_is_refused" (defArgs aw') (defBody aw') (defScope aw') [] [] f fd) : Binds K fd ["_law_machine", "_law_ahead", "_law_behind"] [] := F.bindsN fun _ _ _ _ _ _ us hl => match us, hl with | [_, _, _], _ => rfl
theorem Ctx.f_law (C : Ctx w K mg) : ∃ fd, FunD K "law" "law" (defArgs hV') (defBody hV') (defScope hV') [] [] (He.ga K "law") fd := C.d.def_ 37 (d := uY') rfl
end
end S
namespace M
structure En where
  nx : PSt -> Prop
  rt : O -> W -> Prop
  bk : PSt -> Prop
  ct : PSt -> Prop
  ex : Exc -> PSt -> Prop
def vE {α : Type} (r : Res α) (Q : α -> PSt -> Prop) (X : Exc -> PSt -> Prop) : Prop := match r with
  | .ok a ρ => Q a ρ
  | .exc x ρ => X x ρ
  | .bad => False
def vS (o : Out) (D : En) : Prop := match o with
  | .nx ρ => D.nx ρ
  | .rt o w => D.rt o w
  | .bk ρ => D.bk ρ
  | .ct ρ => D.ct ρ
  | .exc x ρ => D.ex x ρ
  | .bad => False
def vF (r : FRes) (Q : O -> W -> Prop) (X : Exc -> W -> Prop) : Prop := match r with
  | .ok o w => Q o w
  | .exc x w => X x w
  | .bad => False
def vD {α : Type} (o : Option α) (Q : α -> Prop) : Prop := match o with
  | some z => Q z
  | none => False
def vI (k : Bool) (A B : Prop) : Prop := if k = true then A else B
def vB (d : D) (P : Bool -> Prop) : Prop := match d with
  | .bl k => P k
  | _ => False
def vT (d : D) (P : Tx -> Prop) : Prop := match d with
  | .str s => P s
  | _ => False
def vN (d : D) (P : Int -> Prop) : Prop := match d with
  | .int s => P s
  | _ => False
def vV (o : Option (Option O)) (i : Nat) (ρ : PSt) (Q : D -> PSt -> Prop) : Prop := match o with
  | some (some (.fz d)) => Q d ρ
  | some (some .exn) => False
  | some (some .clo) => False
  | some (some o) => Q (frz o) ⟨ρ.env.set i (some (.fz (frz o))), ρ.w⟩
  | _ => False
def vG (o : Option (Option O)) (i : Nat) (ρ : PSt) (Q : O -> PSt -> Prop) : Prop := match o with
  | some (some (.fz d)) => Q (.fz d) ρ
  | some (some .exn) => False
  | some (some .clo) => False
  | some (some o) => Q o ⟨ρ.env.set i none, ρ.w⟩
  | _ => False
def vO (o : Option (Option O)) (Q : O -> Prop) : Prop := match o with
  | some (some o) => Q o
  | _ => False
def vL (o : Option (Option O)) (Q : List O -> Prop) : Prop := match o with
  | some (some (.lst os)) => Q os
  | _ => False
def asF : O -> Option D
  | .fz d => some d
  | _ => none
def asL : D -> Option (List D)
  | .lst ds => some ds
  | _ => none
abbrev FX : Exc -> W -> Prop := fun _ _ => False
abbrev PX : Exc -> PSt -> Prop := fun _ _ => False
section
variable {α β : Type} {Q : α -> PSt -> Prop} {X : Exc -> PSt -> Prop} {ρ : PSt} {P : D -> PSt -> Prop} {D0 : En}
theorem aj' (r : Res β) (f : β -> PSt -> Res α) : vE (r.bind f) Q X = vE r (fun b ρ => vE (f b ρ) Q X) X := by cases r <;> rfl
theorem bU' (r : Res β) (f : β -> PSt -> Out) : vS (r.out f) D0 = vE r (fun b ρ => vS (f b ρ) D0) D0.ex := by cases r <;> rfl
theorem a6' (o : Option α) : vE (ofO o ρ) Q X = vD o (fun z => Q z ρ) := by cases o <;> rfl
theorem gi' (a : α) : vE (.ok a ρ) Q X = Q a ρ := rfl
theorem gu' (d : D) {Q : Bool -> PSt -> Prop} : vE (asB d ρ) Q X = vB d (fun k => Q k ρ) := by cases d <;> rfl
theorem gt' (k : Bool) (a b : Res α) : vE (if k = true then a else b) Q X = vI k (vE a Q X) (vE b Q X) := by cases k <;> rfl
theorem sy' (k : Bool) (a b : Out) : vS (if k = true then a else b) D0 = vI k (vS a D0) (vS b D0) := by cases k <;> rfl
theorem jF' (z : α) {Q : α -> Prop} : vD (some z) Q = Q z := rfl
theorem pz' (k : Bool) {Q : Bool -> Prop} : vB (.bl k) Q = Q k := rfl
theorem uk' (A B : Prop) : vI true A B = A := rfl
theorem ul' (A B : Prop) : vI false A B = B := rfl
theorem mE' (k : Bool) (A B : Prop) : vI (!k) A B = vI k B A := by cases k <;> rfl
theorem xZ' (d : D) : vE (eC d ρ) P X = P d ρ := rfl
theorem xX' (i : Nat) (env : List (Option O)) (w : W) : vE (eV i ⟨env, w⟩) P X = vV env[i]? i ⟨env, w⟩ P := by
  show vE (match env[i]? with | some (some (.fz d)) => Res.ok d ⟨env, w⟩ | some (some .exn) => .bad | some (some .clo) => .bad | some (some o) => .ok (frz o) ⟨env.set i (some (.fz (frz o))), w⟩ | _ => .bad) P X = _
  rcases env[i]? with _ | _ | o
  . rfl
  . rfl
  . cases o <;> rfl
theorem pt' (d : D) (i : Nat) (ρ : PSt) : vV (some (some (.fz d))) i ρ P = P d ρ := rfl
theorem mz' (os : List O) (i : Nat) (env : List (Option O)) (w : W) : vV (some (some (.lst os))) i ⟨env, w⟩ P = P (.lst (frzs os)) ⟨env.set i (some (.fz (.lst (frzs os)))), w⟩ := rfl
theorem my' (os : List O) (i : Nat) (env : List (Option O)) (w : W) : vV (some (some (.tup os))) i ⟨env, w⟩ P = P (.tup (frzs os)) ⟨env.set i (some (.fz (.tup (frzs os)))), w⟩ := rfl
theorem mA' (ks : List D) (os : List O) (i : Nat) (env : List (Option O)) (w : W) : vV (some (some (.dct ks os))) i ⟨env, w⟩ P = P (.dct ks (frzs os)) ⟨env.set i (some (.fz (.dct ks (frzs os)))), w⟩ := rfl
theorem pv' (d : D) (i : Nat) (ρ : PSt) {P : O -> PSt -> Prop} : vG (some (some (.fz d))) i ρ P = P (.fz d) ρ := rfl
theorem mH' (os : List O) (i : Nat) (env : List (Option O)) (w : W) {P : O -> PSt -> Prop} : vG (some (some (.lst os))) i ⟨env, w⟩ P = P (.lst os) ⟨env.set i none, w⟩ := rfl
theorem mG' (os : List O) (i : Nat) (env : List (Option O)) (w : W) {P : O -> PSt -> Prop} : vG (some (some (.tup os))) i ⟨env, w⟩ P = P (.tup os) ⟨env.set i none, w⟩ := rfl
theorem mI' (ks : List D) (os : List O) (i : Nat) (env : List (Option O)) (w : W) {P : O -> PSt -> Prop} : vG (some (some (.dct ks os))) i ⟨env, w⟩ P = P (.dct ks os) ⟨env.set i none, w⟩ := rfl
theorem jD' (o : O) {P : O -> Prop} : vO (some (some o)) P = P o := rfl
theorem mD' (os : List O) {P : List O -> Prop} : vL (some (some (.lst os))) P = P os := rfl
theorem ug' (f : D -> D -> Option D) (a b : ME) : vE (eOp f a b ρ) P X = vE (a ρ) (fun x ρ1 => vE (b ρ1) (fun y ρ2 => vD (f x y) (fun z => P z ρ2)) X) X := by simp only [eOp, aj', a6']
theorem ud' (f : D -> Option D) (a : ME) : vE (eUn f a ρ) P X = vE (a ρ) (fun x ρ1 => vD (f x) (fun z => P z ρ1)) X := by simp only [eUn, aj', a6']
theorem pr' (a b : ME) : vE (wH' a b ρ) P X = vE (a ρ) (fun x ρ1 => vB x fun k => vI k (vE (b ρ1) P X) (P (.bl false) ρ1)) X := by simp only [wH', aj', gu', gt', gi']
theorem pk' (a : ME) : vE (zn' a ρ) P X = vE (a ρ) (fun x ρ1 => vB x fun k => P (.bl (!k)) ρ1) X := by simp only [zn', aj', gu', gi']
theorem jA' (f g : D -> D -> Option D) (a b c : ME) : vE (hy' f g a b c ρ) P X = vE (a ρ) (fun x ρ1 => vE (b ρ1) (fun y ρ2 => vD (f x y) fun r => vB r fun k => vI k (vE (c ρ2) (fun z ρ3 => vD (g y z) fun v => P v ρ3) X) (P (.bl false) ρ2)) X) X := by
  simp only [hy', aj', a6', gu', gt', gi']
theorem pl' {P : List D -> PSt -> Prop} : vE (aV' ρ) P X = P [] ρ := rfl
theorem mw' (a : ME) (r : MA) {P : List D -> PSt -> Prop} : vE (ac' a r ρ) P X = vE (a ρ) (fun x ρ1 => vE (r ρ1) (fun xs ρ2 => P (x :: xs) ρ2) X) X := by simp only [ac', aj', gi']
def jo' (n : Nat) (A : Prop) : Prop := n <= 16777216 /\ A
theorem jE' {n : Nat} (h : n <= 16777216) (A : Prop) : jo' n A = A := by unfold jo'; simp [h]
theorem pi' (as : MA) : vE (o7' as ρ) P X = vE (as ρ) (fun xs ρ1 => jo' xs.length (P (.tup xs) ρ1)) X := by
  simp only [o7', aj']
  congr
  funext xs ρ1
  unfold jo'
  by_cases h : xs.length <= 16777216
  . rw [if_pos h]; simp [vE, h]
  . rw [if_neg h]; simp [vE, h]
theorem pm' (as : MA) : vE (jf' as ρ) P X = vE (as ρ) (fun xs ρ1 => jo' xs.length (P (.lst xs) ρ1)) X := by
  simp only [jf', aj']
  congr
  funext xs ρ1
  unfold jo'
  by_cases h : xs.length <= 16777216
  . rw [if_pos h]; simp [vE, h]
  . rw [if_neg h]; simp [vE, h]
theorem ui' (f : Tx -> List D -> Option D) (a : ME) (as : MA) : vE (eMt f a as ρ) P X = vE (a ρ) (fun x ρ1 => vT x fun s => vE (as ρ1) (fun ds ρ2 => vD (f s ds) fun z => P z ρ2) X) X := by
  simp only [eMt, aj']
  congr
  funext x ρ1
  cases x <;> simp only [aj', a6'] <;> rfl
theorem mB' (s : Tx) {P : Tx -> Prop} : vT (.str s) P = P s := rfl
theorem mC' (s : Int) {P : Int -> Prop} : vN (.int s) P = P s := rfl
theorem uh' {P : Option Int -> PSt -> Prop} : vE (pNo ρ) P X = P none ρ := rfl
theorem ue' (a : ME) {P : Option Int -> PSt -> Prop} : vE (pSo a ρ) P X = vE (a ρ) (fun x ρ1 => vN x fun i => P (some i) ρ1) X := by
  simp only [pSo, aj']
  congr
  funext x ρ1
  cases x <;> rfl
theorem uf' (a : ME) (lo hi : MP) : vE (eSl a lo hi ρ) P X = vE (a ρ) (fun x ρ1 => vE (lo ρ1) (fun l ρ2 => vE (hi ρ2) (fun h ρ3 => vD (pSl x l h) fun z => P z ρ3) X) X) X := by simp only [eSl, aj', a6']
theorem xY' (a : MO) : vE (eO a ρ) P X = vE (a ρ) (fun o ρ1 => P (frz o) ρ1) X := by simp only [eO, aj', gi']
variable {R : O -> PSt -> Prop}
theorem uc' (a : ME) : vE (oE a ρ) R X = vE (a ρ) (fun d ρ1 => R (.fz d) ρ1) X := by simp only [oE, aj', gi']
theorem ub' (i : Nat) (env : List (Option O)) (w : W) : vE (oV i ⟨env, w⟩) R X = vG env[i]? i ⟨env, w⟩ R := by
  show vE (match env[i]? with | some (some (.fz d)) => Res.ok (O.fz d) ⟨env, w⟩ | some (some .exn) => .bad | some (some .clo) => .bad | some (some o) => .ok o ⟨env.set i none, w⟩ | _ => .bad) R X = _
  rcases env[i]? with _ | _ | o
  . rfl
  . rfl
  . cases o <;> rfl
theorem mx' (f : MF) (as : MA) : vE (av' f as ρ) R X = vE (as ρ) (fun ds ρ1 => vF (f ds ρ1.w) (fun o w => R o ⟨ρ1.env, w⟩) fun x w => X x ⟨ρ1.env, w⟩) X := by
  simp only [av', aj']
  congr
  funext ds ρ1
  cases f ds ρ1.w <;> rfl
theorem mq' (a : ME) : vE (jp' a ρ) R X = vE (a ρ) (fun d ρ1 => vD (asL d) fun ds => R (.lst (ds.map .fz)) ρ1) X := by
  simp only [jp', aj']
  congr
  funext d ρ1
  cases d <;> rfl
theorem jx' : vE (gm' ρ) R X = R (.dct [] []) ρ := rfl
theorem jz' (i : Nat) (a : ME) (env : List (Option O)) (w : W) : vE (kC' i a ⟨env, w⟩) P X = vL env[i]? fun _ => vE (a ⟨env, w⟩) (fun d ρ1 => vN d fun z => vL ρ1.env[i]? fun os => jo' os.length (vD (ixn os.length z) fun j => vD os[j]? fun o => vD (asF o) fun y => P y ⟨ρ1.env.set i (some (.lst (os.eraseIdx j))), ρ1.w⟩)) X := by
  show vE (match env[i]? with
  | some (some (.lst _)) => (a ⟨env, w⟩).bind fun d ρ1 => match ρ1.env[i]?, d with
    | some (some (.lst os)), .int z => (match (if os.length <= dp' then ixn os.length z else none) with
      | some j => (match os[j]? with
        | some (.fz y) => .ok y ⟨ρ1.env.set i (some (.lst (os.eraseIdx j))), ρ1.w⟩
        | _ => .bad)
      | none => .bad)
    | _, _ => .bad
  | _ => .bad) P X = _
  rcases env[i]? with _ | _ | o
  . rfl
  . rfl
  cases o with
  | lst os0 =>
    simp only [aj', vL]
    congr
    funext d ρ1
    cases d with
    | int z =>
      simp only [vN]
      rcases ρ1.env[i]? with _ | _ | o
      . rfl
      . rfl
      cases o with
      | lst os =>
        simp only [jo']
        by_cases hl : os.length <= 16777216
        . simp only [hl, if_pos, true_and]
          cases ixn os.length z with
          | none => rfl
          | some j =>
            simp only [vD]
            rcases os[j]? with _ | o
            . rfl
            . cases o <;> rfl
        . simp only [hl, if_neg, false_and]; simp [vE]
      | _ => rfl
    | _ =>
      rcases ρ1.env[i]? with _ | _ | o
      . rfl
      . rfl
      cases o <;> rfl
  | _ => rfl
theorem po' (i : Nat) (b : ME) (env : List (Option O)) (w : W) : vE (wG' i b ⟨env, w⟩) P X = vO env[i]? fun _ => vE (b ⟨env, w⟩) (fun k ρ1 => vO ρ1.env[i]? fun o => vD (ixO o k) fun z => P z ρ1) X := by
  show vE (match env[i]? with
  | some (some _) => (b ⟨env, w⟩).bind fun k ρ1 => match ρ1.env[i]? with
    | some (some o) => ofO (ixO o k) ρ1
    | _ => .bad
  | _ => .bad) P X = _
  rcases env[i]? with _ | _ | o
  . rfl
  . rfl
  simp only [aj', vO]
  congr
  funext k ρ1
  rcases ρ1.env[i]? with _ | _ | o
  . rfl
  . rfl
  exact a6' _
theorem ia' (i : Nat) (a : ME) : vE (fM' i a ρ) P X = vE (a ρ) (fun x ρ1 => vO ρ1.env[i]? fun o => vD (rj' (inO x o)) fun z => P z ρ1) X := by
  simp only [fM', aj']
  congr
  funext x ρ1
  rcases ρ1.env[i]? with _ | _ | o
  . rfl
  . rfl
  exact a6' _
theorem mv' (i : Nat) : vE (ev' i ρ) P X = vO ρ.env[i]? fun o => vD (o6' o) fun z => P z ρ := by
  unfold ev'
  rcases ρ.env[i]? with _ | _ | o
  . rfl
  . rfl
  exact a6' _
theorem pn' (a b : ME) : vE (js' a b ρ) P X = vE (a ρ) (fun x ρ1 => vE (b ρ1) (fun y ρ2 => vD (ixW ρ2.w x y) fun z => P z ρ2) X) X := by simp only [js', aj', a6']
theorem pj' (as : MA) : vE (yL' as ρ) R X = vE (as ρ) (fun xs ρ1 => jo' xs.length (R (.fz (.obj ρ1.w.length)) ⟨ρ1.env, ρ1.w ++ [.lst (xs.map .fz)]⟩)) X := by
  simp only [yL', aj']
  congr
  funext xs ρ1
  unfold jo'
  by_cases h : xs.length <= 16777216
  . rw [if_pos h]; simp [vE, h]
  . rw [if_neg h]; simp [vE, h]
theorem pp' (cs : List String) (a : ME) (f : String) : vE (e6' cs a f ρ) P X = vE (a ρ) (fun x ρ1 => vD (hu' cs f ρ1.w x) fun z => P z ρ1) X := by simp only [e6', aj', a6']
theorem mu' (C : String) (init : MF) (as : MA) : vE (ke' C init as ρ) R X = vE (as ρ) (fun ds ρ1 => vF (init (.obj ρ1.w.length :: ds) (ρ1.w ++ [.ins C []])) (fun o w => o = .fz .non /\ R (.fz (.obj ρ1.w.length)) ⟨ρ1.env, w⟩) fun x w => X x ⟨ρ1.env, w⟩) X := by
  simp only [ke', aj']
  congr
  funext ds ρ1
  cases init (.obj ρ1.w.length :: ds) (ρ1.w ++ [.ins C []]) with
  | ok o w =>
    cases o with
    | fz d => cases d <;> simp [vE, vF]
    | _ => simp [vE, vF]
  | _ => rfl
theorem mt' (C : List String) (m : String) (f : MF) (a : ME) (as : MA) : vE (fF' C m f a as ρ) R X = vE (a ρ) (fun x ρ1 => ja' C m ρ1.w x = true /\ vE (as ρ1) (fun ds ρ2 => vF (f (x :: ds) ρ2.w) (fun o w => R o ⟨ρ2.env, w⟩) fun x w => X x ⟨ρ2.env, w⟩) X) X := by
  simp only [fF', aj']
  congr
  funext x ρ1
  by_cases h : ja' C m ρ1.w x = true
  . rw [if_pos h]
    simp only [h, true_and, aj']
    congr
    funext ds ρ2
    cases f (x :: ds) ρ2.w <;> rfl
  . rw [if_neg h]
    simp [vE, h]
def vX (o : Option (Option O)) (A : Prop) : Prop := match o with
  | some (some .exn) => A
  | _ => False
theorem vn' (i : Nat) (t : ET) (c : String) (x : Exc) : vE (tG' i t c x ρ) P X = vX ρ.env[i]? (x.fs = [] /\ vD (sub t x.cls c) fun b => P (.bl b) ρ) := by
  unfold tG'
  rcases ρ.env[i]? with _ | _ | o
  . rfl
  . rfl
  . cases o <;> try rfl
    show vE (if x.fs = [] then _ else _) P X = (x.fs = [] /\ _)
    by_cases h : x.fs = []
    . rw [if_pos h]; simp only [h, true_and, a6']
      cases sub t x.cls c <;> rfl
    . rw [if_neg h]; simp [h, vE]
variable {B : Bool -> PSt -> Prop}
theorem ua' (a : ME) : vE (tE a ρ) B X = vE (a ρ) (fun d ρ1 => vB d fun k => B k ρ1) X := by simp only [tE, aj', gu']
theorem mo' (a : MT) : vE (gw' a ρ) B X = vE (a ρ) (fun k ρ1 => B (!k) ρ1) X := by simp only [gw', aj', gi']
theorem mp' (a b : MT) : vE (xn' a b ρ) B X = vE (a ρ) (fun k ρ1 => vI k (vE (b ρ1) B X) (B false ρ1)) X := by simp only [xn', aj', gt', gi']
theorem pe' (a b : MT) : vE (tOr a b ρ) B X = vE (a ρ) (fun k ρ1 => vI k (B true ρ1) (vE (b ρ1) B X)) X := by simp only [tOr, aj', gt', gi']
theorem t9' : vE (tT ρ) B X = B true ρ := rfl
variable {Y : List D -> PSt -> Prop}
theorem ms' (a : ME) : vE (et' a ρ) Y X = vE (a ρ) (fun d ρ1 => vD (ei' d) fun z => Y z ρ1) X := by simp only [et', aj', a6']
theorem gH' (a : ME) : vE (by' a ρ) Y X = vE (a ρ) (fun d ρ1 => vD (fC' d) fun z => Y z ρ1) X := by simp only [by', aj', a6']
theorem mr' (a b : ME) : vE (zb' a b ρ) Y X = vE (a ρ) (fun d ρ1 => vE (b ρ1) (fun e ρ2 => vD (sk' d e) fun z => Y z ρ2) X) X := by simp only [zb', aj', a6']
theorem jy' (a : ME) : vE (rP' a ρ) Y X = vE (a ρ) (fun d ρ1 => vD (enB d) fun z => Y z ρ1) X := by simp only [rP', aj', a6']
theorem uj' (own : List Nat) (it : MI) (g : MG) (t : MT) (e : ME) : vE (eLc own it g t e ρ) P X = vE (it ρ) (fun xs ρ1 => vE (lcL own g t e xs [] ρ1) (fun ys ρ2 => P (.lst ys) ⟨back ρ1.env own (aF' own ρ2.env), ρ2.w⟩) X) X := by simp only [eLc, aj', gi']
theorem pf' (own : List Nat) (it : MI) (g : MG) (t : MT) (e : ME) : vE (oLc own it g t e ρ) R X = vE (it ρ) (fun xs ρ1 => vE (lcL own g t e xs [] ρ1) (fun ys ρ2 => R (.lst (ys.map .fz)) ⟨back ρ1.env own (aF' own ρ2.env), ρ2.w⟩) X) X := by simp only [oLc, aj', gi']
variable {N : PSt -> Prop} {rt : O -> W -> Prop} {bk ct : PSt -> Prop} {ex : Exc -> PSt -> Prop}
theorem mL' : vS (bj' ρ) ⟨N, rt, bk, ct, ex⟩ = N ρ := rfl
theorem jK' : vS (ny' ρ) ⟨N, rt, bk, ct, ex⟩ = bk ρ := rfl
theorem mM' (a : ME) : vS (gV' a ρ) ⟨N, rt, bk, ct, ex⟩ = vE (a ρ) (fun _ ρ1 => N ρ1) ex := by simp only [gV', bU']; rfl
theorem pC' (a : MO) : vS (cd' a ρ) ⟨N, rt, bk, ct, ex⟩ = vE (a ρ) (fun o ρ1 => rt o ρ1.w) ex := by simp only [cd', bU']; rfl
theorem lg' (a b : MS) : vS (as' a b ρ) ⟨N, rt, bk, ct, ex⟩ = vS (a ρ) ⟨fun ρ1 => vS (b ρ1) ⟨N, rt, bk, ct, ex⟩, rt, bk, ct, ex⟩ := by
  unfold as'
  cases a ρ <;> rfl
theorem um' (t : MT) (a b : MS) : vS (sIf t a b ρ) ⟨N, rt, bk, ct, ex⟩ = vE (t ρ) (fun k ρ1 => vI k (vS (a ρ1) ⟨N, rt, bk, ct, ex⟩) (vS (b ρ1) ⟨N, rt, bk, ct, ex⟩)) ex := by simp only [sIf, bU', sy']
def ot' (i n : Nat) (A : Prop) : Prop := i < n /\ A
theorem jB' {i n : Nat} (h : i < n) (A : Prop) : ot' i n A = A := by unfold ot'; simp [h]
theorem pB' (i : Nat) (a : MO) : vS (a9' i a ρ) ⟨N, rt, bk, ct, ex⟩ = vE (a ρ) (fun o ρ1 => ot' i ρ1.env.length (N ⟨ρ1.env.set i (some o), ρ1.w⟩)) ex := by
  simp only [a9', bU']
  congr
  funext o ρ1
  unfold vI' ot'
  by_cases h : i < ρ1.env.length
  . rw [if_pos h]; simp [vS, h]
  . rw [if_neg h]; simp [vS, h]
theorem pG' (g : MG) (a : ME) : vS (xp' g a ρ) ⟨N, rt, bk, ct, ex⟩ = vE (a ρ) (fun d ρ1 => vD (g d ρ1) N) ex := by
  simp only [xp', bU']
  congr
  funext o ρ1
  cases g o ρ1 <;> rfl
theorem pF' (f : D -> D -> Option D) (i : Nat) (a : ME) : vS (xo' f i a ρ) ⟨N, rt, bk, ct, ex⟩ = vO ρ.env[i]? fun o => vD (asF o) fun d => vE (a ρ) (fun y ρ1 => vD (f d y) fun z => ot' i ρ1.env.length (N ⟨ρ1.env.set i (some (.fz z)), ρ1.w⟩)) ex := by
  unfold xo'
  rcases ρ.env[i]? with _ | _ | o
  . rfl
  . rfl
  cases o with
  | fz d =>
    simp only [bU', vD, vO, asF]
    congr
    funext y ρ1
    cases f d y with
    | none => rfl
    | some z =>
      dsimp only
      unfold vI' ot'
      by_cases h : i < ρ1.env.length
      . rw [if_pos h]; simp [vS, h]
      . rw [if_neg h]; simp [vS, h]
  | _ => rfl
theorem jJ' (x : String) : vS (nx' x ρ) ⟨N, rt, bk, ct, ex⟩ = ex ⟨x, []⟩ ρ := rfl
theorem pH' (i : Nat) (a : MO) : vS (ld' i a ρ) ⟨N, rt, bk, ct, ex⟩ = vL ρ.env[i]? fun _ => vE (a ρ) (fun o ρ1 => vL ρ1.env[i]? fun os => ot' os.length 16777216 (N ⟨ρ1.env.set i (some (.lst (os ++ [o]))), ρ1.w⟩)) ex := by
  unfold ld'
  rcases ρ.env[i]? with _ | _ | o
  . rfl
  . rfl
  cases o with
  | lst os0 =>
    simp only [bU', vL]
    congr
    funext o ρ1
    rcases ρ1.env[i]? with _ | _ | o2
    . rfl
    . rfl
    cases o2 with
    | lst os =>
      dsimp only
      unfold ot'
      by_cases h : os.length < 16777216
      . rw [if_pos h]; simp [vS, h]
      . rw [if_neg h]; simp [vS, h]
    | _ => rfl
  | _ => rfl
theorem mK' (o k a : ME) : vS (iP' o k a ρ) ⟨N, rt, bk, ct, ex⟩ = vE (a ρ) (fun d ρ1 => vE (o ρ1) (fun x ρ2 => vE (k ρ2) (fun y ρ3 => vD (sJ' ρ3.w x y d) fun w => N ⟨ρ3.env, w⟩) ex) ex) ex := by
  simp only [iP', bU']
  congr
  funext d ρ1
  congr
  funext x ρ2
  congr
  funext y ρ3
  cases sJ' ρ3.w x y d <;> rfl
def C2' (w : W) : D -> Option (List O)
  | .obj n => (match w[n]? with
    | some (.lst os) => some os
    | _ => none)
  | _ => none
def Dk' (w : W) (b : Ob) : D -> W
  | .obj n => w.set n b
  | _ => w
theorem pE' (cs : List String) (a : ME) (f : String) (v : MO) : vS (sFld cs a f v ρ) ⟨N, rt, bk, ct, ex⟩ = vE (v ρ) (fun o ρ1 => vE (a ρ1) (fun x ρ2 => vD (stF cs f o ρ2.w x) fun w => N ⟨ρ2.env, w⟩) ex) ex := by
  simp only [sFld, bU']
  congr
  funext d ρ1
  congr
  funext x ρ2
  cases stF cs f d ρ2.w x <;> rfl
theorem pD' (it : MI) (g : MG) (b : MS) : vS (eO' it g b ρ) ⟨N, rt, bk, ct, ex⟩ = vE (it ρ) (fun ds ρ1 => vS (n6' g b ds ρ1) ⟨N, rt, bk, ct, ex⟩) ex := by simp only [eO', bU']
theorem jI' (n : Nat) (t : MT) (b : MS) : vS (ih' n t b ρ) ⟨N, rt, bk, ct, ex⟩ = vS (d4' t b n ρ) ⟨N, rt, bk, ct, ex⟩ := rfl
theorem vu' (o : Out) : vS (tm' o) ⟨N, rt, bk, ct, ex⟩ = vS o ⟨N, rt, bk, ct, fun _ _ => False⟩ := by cases o <;> rfl
theorem vt' (i m : Nat) (o : Out) : vS (sm' i m o) ⟨N, rt, bk, ct, ex⟩ = vS o ⟨fun ρ => (ρ.env.length = i + m + 1 /\ N ⟨ρ.env.set i none, ρ.w⟩), rt, fun ρ => (ρ.env.length = i + m + 1 /\ bk ⟨ρ.env.set i none, ρ.w⟩), fun ρ => (ρ.env.length = i + m + 1 /\ ct ⟨ρ.env.set i none, ρ.w⟩), ex⟩ := by
  cases o with
  | nx ρ => by_cases h : ρ.env.length = i + m + 1 <;> simp [sm', vS, h]
  | bk ρ => by_cases h : ρ.env.length = i + m + 1 <;> simp [sm', vS, h]
  | ct ρ => by_cases h : ρ.env.length = i + m + 1 <;> simp [sm', vS, h]
  | _ => rfl
theorem pA' (i m : Nat) (b : MS) (g : String -> Option Bool) (h : Exc -> MS) : vS (ii' i m b g h ρ) ⟨N, rt, bk, ct, ex⟩ = vS (b ρ) ⟨N, rt, bk, ct, fun x ρ1 => vD (g x.cls) fun k => vI k (ρ1.env.length = i + m + 1 /\ vS (h x ⟨ρ1.env.set i (some .exn), ρ1.w⟩) ⟨fun ρ => (ρ.env.length = i + m + 1 /\ N ⟨ρ.env.set i none, ρ.w⟩), rt, fun ρ => (ρ.env.length = i + m + 1 /\ bk ⟨ρ.env.set i none, ρ.w⟩), fun ρ => (ρ.env.length = i + m + 1 /\ ct ⟨ρ.env.set i none, ρ.w⟩), fun _ _ => False⟩) (ex x ρ1)⟩ := by
  unfold ii'
  cases b ρ with
  | exc x ρ1 =>
    show vS (match g x.cls with | some true => if ρ1.env.length = i + m + 1 then sm' i m (tm' (h x ⟨ρ1.env.set i (some .exn), ρ1.w⟩)) else .bad | some false => .exc x ρ1 | none => .bad) _ = vD (g x.cls) _
    cases g x.cls with
    | none => rfl
    | some k => cases k with
      | false => rfl
      | true =>
        show vS (if ρ1.env.length = i + m + 1 then _ else _) _ = (ρ1.env.length = i + m + 1 /\ vS _ _)
        by_cases hl : ρ1.env.length = i + m + 1
        . rw [if_pos hl, vt', vu']; simp only [hl, true_and]
        . rw [if_neg hl]; simp [hl, vS]
  | _ => rfl
theorem vw' {k n : Nat} (b : MS) (ds : List D) (w : W) {Q : O -> W -> Prop} {X : Exc -> W -> Prop} (h : ds.length = k) : vF (fnM k n b ds w) Q X = vS (b ⟨ds.map (fun d => some (.fz d)) ++ List.replicate (n - k) none, w⟩) ⟨fun ρ => Q (.fz .non) ρ.w, Q, fun _ => False, fun _ => False, fun x ρ => X x ρ.w⟩ := by
  unfold fnM
  rw [if_pos h]
  cases b ⟨ds.map (fun d => some (.fz d)) ++ List.replicate (n - k) none, w⟩ <;> rfl
theorem mN' {k n : Nat} {b : MS} {ds : List D} {w : W} {Q : O -> W -> Prop} {X : Exc -> W -> Prop} (q : vS (b ⟨ds.map (fun d => some (.fz d)) ++ List.replicate (n - k) none, w⟩) ⟨fun ρ => Q (.fz .non) ρ.w, Q, fun _ => False, fun _ => False, fun x ρ => X x ρ.w⟩) (h : ds.length = k) : vF (fnM k n b ds w) Q X := by
  rw [vw' _ _ _ h]; exact q
theorem pw' (o : O) (w : W) {Q : O -> W -> Prop} {X : Exc -> W -> Prop} : vF (.ok o w) Q X = Q o w := rfl
theorem mJ' (x : Exc) (w : W) {Q : O -> W -> Prop} {X : Exc -> W -> Prop} : vF (.exc x w) Q X = X x w := rfl
theorem vF.mono {r : FRes} {Q Q' : O -> W -> Prop} {X : Exc -> W -> Prop} (h : vF r Q FX) (k : ∀ o w, Q o w -> Q' o w) : vF r Q' X := by
  cases r with
  | ok o w => exact k _ _ h
  | exc x w => exact h.elim
  | bad => exact h
theorem vF.monoX {r : FRes} {Q Q' : O -> W -> Prop} {X X' : Exc -> W -> Prop} (h : vF r Q X) (k : ∀ o w, Q o w -> Q' o w) (k2 : ∀ x w, X x w -> X' x w) : vF r Q' X' := by
  cases r with
  | ok o w => exact k _ _ h
  | exc x w => exact k2 _ _ h
  | bad => exact h
theorem vF.exi {r : FRes} {Q : O -> W -> Prop} (h : vF r Q FX) : ∃ o w, r = .ok o w /\ Q o w := by
  cases r with
  | ok o w => exact ⟨o, w, rfl, h⟩
  | exc x w => exact h.elim
  | bad => exact h.elim
theorem vF.of {r : FRes} {Q : O -> W -> Prop} {X : Exc -> W -> Prop} {o : O} {w : W} (e : r = .ok o w) (h : Q o w) : vF r Q X := by rw [e]; exact h
theorem vS.mono {o : Out} {D1 D2 : En} (h : vS o D1) (h1 : ∀ ρ, D1.nx ρ -> D2.nx ρ) (h2 : ∀ o w, D1.rt o w -> D2.rt o w) (h3 : ∀ ρ, D1.bk ρ -> D2.bk ρ) (h4 : ∀ ρ, D1.ct ρ -> D2.ct ρ) (h5 : ∀ x ρ, D1.ex x ρ -> D2.ex x ρ) : vS o D2 := by
  cases o with
  | nx ρ => exact h1 _ h
  | rt o w => exact h2 _ _ h
  | bk ρ => exact h3 _ h
  | ct ρ => exact h4 _ h
  | exc x ρ => exact h5 _ _ h
  | bad => exact h
theorem vE.mono {r : Res α} {Q Q' : α -> PSt -> Prop} {X X' : Exc -> PSt -> Prop} (h : vE r Q X) (k : ∀ a ρ, Q a ρ -> Q' a ρ) (k2 : ∀ x ρ, X x ρ -> X' x ρ) : vE r Q' X' := by
  cases r with
  | ok a ρ => exact k _ _ h
  | exc x ρ => exact k2 _ _ h
  | bad => exact h
theorem jH' {a b : MS} (J : PSt -> Prop) (h : vS (a ρ) ⟨J, rt, bk, ct, ex⟩) (k : ∀ ρ1, J ρ1 -> vS (b ρ1) ⟨N, rt, bk, ct, ex⟩) : vS (as' a b ρ) ⟨N, rt, bk, ct, ex⟩ := by
  rw [lg']
  exact h.mono k (fun _ _ z => z) (fun _ z => z) (fun _ z => z) (fun _ _ z => z)
theorem mF' {p : Prop} [Decidable p] {A B : Prop} (h1 : p -> A) (h2 : ¬ p -> B) : vI (decide p) A B := by
  by_cases h : p
  . rw [decide_eq_true h]; exact h1 h
  . rw [decide_eq_false h]; exact h2 h
theorem gJ' {γ : Type} {g : MG} {b : MS} {f : γ -> D} {cs : List γ} (Inv : List γ -> PSt -> Prop) (h0 : Inv [] ρ)
    (step : ∀ pre c post ρ, cs = pre ++ c :: post -> Inv pre ρ -> vD (g (f c) ρ) fun ρ1 => vS (b ρ1) ⟨Inv (pre ++ [c]), rt, N, Inv (pre ++ [c]), ex⟩)
    (hend : ∀ ρ, Inv cs ρ -> N ρ) : vS (n6' g b (cs.map f) ρ) ⟨N, rt, bk, ct, ex⟩ := by
  have main : ∀ (post pre : List γ) (ρ : PSt), cs = pre ++ post -> Inv pre ρ -> vS (n6' g b (post.map f) ρ) ⟨N, rt, bk, ct, ex⟩ := by
    intro post
    induction post with
    | nil =>
      intro pre ρ e h
      rw [List.append_nil] at e
      exact hend ρ (e ▸ h)
    | cons d post ih =>
      intro pre ρ e h
      have s := step pre d post ρ e h
      rw [List.map_cons]
      unfold n6'
      cases eg : g (f d) ρ with
      | none => rw [eg] at s; exact s
      | some ρ1 =>
        rw [eg] at s
        have s : vS (b ρ1) _ := s
        dsimp only
        cases eb : b ρ1 with
        | nx ρ2 => rw [eb] at s; exact ih (pre ++ [d]) ρ2 (by rw [e, List.append_assoc]; rfl) s
        | ct ρ2 => rw [eb] at s; exact ih (pre ++ [d]) ρ2 (by rw [e, List.append_assoc]; rfl) s
        | bk ρ2 => rw [eb] at s; exact s
        | rt o w => rw [eb] at s; exact s
        | exc x ρ2 => rw [eb] at s; exact s
        | bad => rw [eb] at s; exact s
  exact main cs [] ρ rfl h0
theorem jL' {g : MG} {b : MS} {lo : Int} {n : Nat} (Inv : Nat -> PSt -> Prop) (h0 : Inv 0 ρ)
    (step : ∀ k ρ, k < n -> Inv k ρ -> vD (g (.int (lo + (k : Nat))) ρ) fun ρ1 => vS (b ρ1) ⟨Inv (k + 1), rt, N, Inv (k + 1), ex⟩)
    (hend : ∀ ρ, Inv n ρ -> N ρ) : vS (n6' g b (rgI lo n) ρ) ⟨N, rt, bk, ct, ex⟩ := by
  unfold rgI
  refine gJ' (fun pre ρ => Inv pre.length ρ) h0 (fun pre c post ρ e h => ?_) (fun ρ h => hend ρ (by rwa [List.length_range] at h))
  have hl : pre.length < n := by
    have := congrArg List.length e
    rw [List.length_range, List.length_append, List.length_cons] at this
    omega
  have hc : c = pre.length := by
    have h1 : (List.range n)[pre.length]? = some c := by rw [e, List.getElem?_append_right (Nat.le_refl _), Nat.sub_self]; rfl
    rw [List.getElem?_range hl] at h1
    exact (Option.some.inj h1).symm
  subst hc
  have := step pre.length ρ hl h
  simp only [List.length_append, List.length_cons, List.length_nil, Nat.zero_add]
  exact this
theorem gI' {t : MT} {b : MS} {n : Nat} (Inv : Nat -> PSt -> Prop) (m : Nat) (hm : m < n) (h0 : Inv m ρ)
    (step : ∀ m ρ, Inv m ρ -> vE (t ρ) (fun k ρ1 => vI k (vS (b ρ1) ⟨fun ρ2 => ∃ m', m' < m /\ Inv m' ρ2, rt, N, fun ρ2 => ∃ m', m' < m /\ Inv m' ρ2, ex⟩) (N ρ1)) ex) :
    vS (d4' t b n ρ) ⟨N, rt, bk, ct, ex⟩ := by
  induction n generalizing m ρ with
  | zero => omega
  | succ n ih =>
    have s := step m ρ h0
    unfold d4'
    cases et : t ρ with
    | bad => rw [et] at s; exact s
    | exc x ρ1 => rw [et] at s; exact s
    | ok k ρ1 =>
      rw [et] at s
      have s : vI k _ _ := s
      show vS (if k = true then _ else _) _
      cases k with
      | false => exact s
      | true =>
        rw [if_pos rfl]
        have s : vS (b ρ1) _ := s
        cases eb : b ρ1 with
        | nx ρ2 =>
          rw [eb] at s
          obtain ⟨m', h1, h2⟩ := s
          exact ih m' (by omega) h2
        | ct ρ2 =>
          rw [eb] at s
          obtain ⟨m', h1, h2⟩ := s
          exact ih m' (by omega) h2
        | bk ρ2 => rw [eb] at s; exact s
        | rt o w => rw [eb] at s; exact s
        | exc x ρ2 => rw [eb] at s; exact s
        | bad => rw [eb] at s; exact s
theorem mO' {own : List Nat} {g : MG} {t : MT} {e : ME} {γ : Type} {f : γ -> D} {cs : List γ} {Q : List D -> PSt -> Prop} (hl : cs.length <= 16777216) (Inv : List γ -> List D -> PSt -> Prop) (h0 : Inv [] [] ρ)
    (step : ∀ pre c post acc ρ, cs = pre ++ c :: post -> Inv pre acc ρ -> vD (g (f c) ⟨aF' own ρ.env, ρ.w⟩) fun ρ1 => vE (t ρ1) (fun k ρ2 => vI k (vE (e ρ2) (fun y ρ3 => Inv (pre ++ [c]) (acc ++ [y]) ρ3) PX) (Inv (pre ++ [c]) acc ρ2)) PX)
    (hend : ∀ acc ρ, Inv cs acc ρ -> Q acc ρ) : vE (lcL own g t e (cs.map f) [] ρ) Q X := by
  have main : ∀ (post pre : List γ) (acc : List D) (ρ : PSt), cs = pre ++ post -> acc.length <= pre.length -> Inv pre acc ρ -> vE (lcL own g t e (post.map f) acc ρ) Q X := by
    intro post
    induction post with
    | nil =>
      intro pre acc ρ e' hacc h
      rw [List.append_nil] at e'
      exact hend acc ρ (e' ▸ h)
    | cons d post ih =>
      intro pre acc ρ e' hacc h
      have s := step pre d post acc ρ e' h
      have hpre : pre.length < 16777216 := by
        have := congrArg List.length e'
        rw [List.length_append, List.length_cons] at this
        omega
      rw [List.map_cons]
      unfold lcL
      cases eg : g (f d) ⟨aF' own ρ.env, ρ.w⟩ with
      | none => rw [eg] at s; exact s
      | some ρ1 =>
        rw [eg] at s
        have s : vE (t ρ1) _ _ := s
        dsimp only
        cases et : t ρ1 with
        | bad => rw [et] at s; exact s
        | exc x ρ2 => rw [et] at s; exact s.elim
        | ok k ρ2 =>
          rw [et] at s
          have s : vI k _ _ := s
          show vE (if k = true then _ else _) Q X
          have e2 : cs = (pre ++ [d]) ++ post := by rw [e', List.append_assoc]; rfl
          cases k with
          | false =>
            rw [if_neg Bool.false_ne_true]
            exact ih (pre ++ [d]) acc ρ2 e2 (by rw [List.length_append]; omega) s
          | true =>
            rw [if_pos rfl]
            have s : vE (e ρ2) _ _ := s
            cases ee : e ρ2 with
            | bad => rw [ee] at s; exact s
            | exc x ρ3 => rw [ee] at s; exact s.elim
            | ok y ρ3 =>
              rw [ee] at s
              show vE (if acc.length < dp' then _ else _) Q X
              rw [if_pos (show acc.length < 16777216 by omega)]
              exact ih (pre ++ [d]) (acc ++ [y]) ρ3 e2 (by rw [List.length_append, List.length_append, List.length_cons, List.length_cons]; omega) s
  exact main cs [] [] ρ rfl (Nat.le_refl _) h0
end
end M
namespace M
def vC (c : Prop) (A : Prop) : Prop := c /\ A
def vOb (o : Option Ob) (P : List O -> Prop) : Prop := match o with
  | some (.lst os) => P os
  | _ => False
def An' (o : Option Ob) (P : String -> List (String × O) -> Prop) : Prop := match o with
  | some (.ins C fs) => P C fs
  | _ => False
theorem pu' (C : String) (fs : List (String × O)) {P : String -> List (String × O) -> Prop} : An' (some (.ins C fs)) P = P C fs := rfl
theorem vx' (cs : List String) (f : String) (o : O) (w : W) (n : Nat) {N : W -> Prop} : vD (stF cs f o w (.obj n)) N = An' w[n]? (fun C fs => vC (C ∈ cs /\ fs.length < 1000) (N (w.set n (.ins C (q4' f o fs))))) := by
  show vD (match w[n]? with | some (.ins C fs) => if C ∈ cs /\ fs.length < 1000 then some (w.set n (.ins C (q4' f o fs))) else none | _ => none) N = _
  rcases w[n]? with _ | ob
  . rfl
  . cases ob with
    | ins C fs =>
      show vD (if _ then _ else _) N = vC _ _
      unfold vC
      by_cases h : C ∈ cs /\ fs.length < 1000
      . rw [if_pos h]; simp [vD, h]
      . rw [if_neg h]
        show False = (_ /\ _)
        rw [eq_iff_iff]
        exact ⟨False.elim, fun a => h a.1⟩
    | _ => rfl
theorem jC' (os : List O) {P : List O -> Prop} : vOb (some (.lst os)) P = P os := rfl
theorem py' {c : Prop} (h : c) (A : Prop) : vC c A = A := by unfold vC; simp [h]
theorem jG' (A : Prop) : vC True A = A := by unfold vC; simp
theorem aX' {α : Type} {c : Prop} [Decidable c] {x : α} {Q : α -> Prop} : vD (if c then some x else none) Q = vC c (Q x) := by
  unfold vC
  by_cases h : c
  . rw [if_pos h]; simp [vD, h]
  . rw [if_neg h]; simp [vD, h]
theorem cw' {α β : Type} {f : α -> β} {o : Option α} {Q : β -> Prop} : vD (o.map f) Q = vD o (fun a => Q (f a)) := by cases o <;> rfl
theorem px' {α β : Type} {f : α -> Option β} {o : Option α} {Q : β -> Prop} : vD (o.bind f) Q = vD o (fun a => vD (f a) Q) := by cases o <;> rfl
section
variable {Q : D -> Prop} {Y : List D -> Prop}
theorem nj' (i j : Int) : vD (cI' (.int i) (.int j)) Q = Q (.int (i + j)) := rfl
theorem nh' (a b : Tx) : vD (cI' (.str a) (.str b)) Q = jo' (a.length + b.length) (Q (.str (a ++ b))) := aX'
theorem ni' (a b : List D) : vD (cI' (.lst a) (.lst b)) Q = jo' (a.length + b.length) (Q (.lst (a ++ b))) := aX'
theorem ng' (a b : List D) : vD (cI' (.tup a) (.tup b)) Q = jo' (a.length + b.length) (Q (.tup (a ++ b))) := aX'
theorem jW' (i j : Int) : vD (td' (.int i) (.int j)) Q = Q (.int (i + j)) := rfl
theorem pJ' (i j : Int) : vD (uK' (.int i) (.int j)) Q = Q (.int (i - j)) := rfl
theorem pU' (i j : Int) : vD (iU' (.int i) (.int j)) Q = vC (((-18446744073709551616 < i /\ i < 18446744073709551616) \/ (-18446744073709551616 < j /\ j < 18446744073709551616)) \/ ((-2582249878086908589655919172003011874329705792829223512830659356540647622016841194629645353280137831435903171972747493376 < i /\ i < 2582249878086908589655919172003011874329705792829223512830659356540647622016841194629645353280137831435903171972747493376) /\ (-2582249878086908589655919172003011874329705792829223512830659356540647622016841194629645353280137831435903171972747493376 < j /\ j < 2582249878086908589655919172003011874329705792829223512830659356540647622016841194629645353280137831435903171972747493376))) (Q (.int (i * j))) := by
  show vD (if (small64 i = true \/ small64 j = true) \/ _ then _ else _) Q = _
  rw [aX']
  congr 1
  simp [small64]
theorem m4' (a : Tx) (j : Int) : vD (iU' (.str a) (.int j)) Q = vC (j < 4611686018427387904 /\ -4611686018427387904 <= j /\ a.length * j.toNat <= 16777216) (Q (.str (List.replicate j.toNat a).flatten)) := aX'
theorem m5' (a : List D) (j : Int) : vD (iU' (.lst a) (.int j)) Q = vC (j < 4611686018427387904 /\ -4611686018427387904 <= j /\ a.length * j.toNat <= 16777216) (Q (.lst (List.replicate j.toNat a).flatten)) := aX'
theorem nf' (i j : Int) : vD (iV' (.int i) (.int j)) Q = vC (0 < j /\ j < 1606938044258990275541962092341162602522202993782792835301376) (Q (.int (i / j))) := aX'
theorem pV' (i j : Int) : vD (j8' (.int i) (.int j)) Q = vC (0 < j) (Q (.int (i % j))) := aX'
theorem pQ' (i j : Int) : vD (yG' (.int i) (.int j)) Q = vC (0 <= j /\ j <= 1000 /\ -18446744073709551616 < i /\ i < 18446744073709551616) (Q (.int (i ^ j.toNat))) := by
  show vD (if 0 <= j /\ j <= 1000 /\ small64 i = true then _ else _) Q = _
  rw [aX']
  congr 1
  simp [small64]
theorem pR' (i : Int) : vD (Au' (.int i)) Q = Q (.int (-i)) := rfl
theorem qg' (i j : Int) : vD (pEq (.int i) (.int j)) Q = Q (.bl (decide (i = j))) := by
  show Q (.bl (i == j)) = _
  congr 2
theorem qf' (i j : Tx) : vD (pEq (.str i) (.str j)) Q = Q (.bl (decide (i = j))) := by
  show Q (.bl (i == j)) = _
  congr 2
  rw [Bool.eq_iff_iff]
  simp
theorem qh' (i j : Bool) : vD (pEq (.bl i) (.bl j)) Q = Q (.bl (i == j)) := rfl
theorem uu' (x y : D) : vD (pEq x y) Q = vC (dat x = true /\ dat y = true /\ dep x <= 64 /\ dep y <= 64) (Q (.bl (eqb x y))) := by
  unfold pEq ob eqv
  rw [cw', aX']
theorem pT' (i j : Int) : vD (pNe (.int i) (.int j)) Q = Q (.bl (!decide (i = j))) := by
  show Q (.bl (!(i == j))) = _
  congr 3
theorem pS' (i j : Tx) : vD (pNe (.str i) (.str j)) Q = Q (.bl (!decide (i = j))) := by
  show Q (.bl (!(i == j))) = _
  congr 3
  rw [Bool.eq_iff_iff]
  simp
theorem p8' (x : D) : vD (pIs x .non) Q = Q (.bl (e3' x)) := by cases x <;> rfl
theorem p9' (x y : Bool) : vD (pIs (.bl x) (.bl y)) Q = Q (.bl (x == y)) := rfl
theorem ib' (x : D) : vD (nJ' x .non) Q = Q (.bl (!e3' x)) := by cases x <;> rfl
theorem ic' (x y : Bool) : vD (nJ' (.bl x) (.bl y)) Q = Q (.bl (!(x == y))) := rfl
theorem un' (i j : Int) : vD (pLt (.int i) (.int j)) Q = Q (.bl (decide (i < j))) := rfl
theorem uo' (i j : Int) : vD (pLe (.int i) (.int j)) Q = Q (.bl (decide (i <= j))) := rfl
theorem up' (i j : Int) : vD (pGt (.int i) (.int j)) Q = Q (.bl (decide (j < i))) := rfl
theorem ur' (i j : Int) : vD (pGe (.int i) (.int j)) Q = Q (.bl (decide (j <= i))) := rfl
theorem pY' (i j : Tx) : vD (pLt (.str i) (.str j)) Q = Q (.bl (decide (i < j))) := rfl
theorem pZ' (i j : Tx) : vD (pLe (.str i) (.str j)) Q = Q (.bl (!decide (j < i))) := rfl
theorem qc' (i j : Tx) : vD (pGt (.str i) (.str j)) Q = Q (.bl (decide (j < i))) := rfl
theorem qe' (i j : Tx) : vD (pGe (.str i) (.str j)) Q = Q (.bl (!decide (i < j))) := rfl
theorem qb' (c : Nat) (s : Tx) : vD (pIn (.str [c]) (.str s)) Q = Q (.bl (decide (c ∈ s))) := rfl
theorem m3' (c : Nat) (s : Tx) : vD (g2' (.str [c]) (.str s)) Q = Q (.bl (!decide (c ∈ s))) := rfl
theorem nw' (ns : List Int) : (ns.map D.int).all sca = true := by induction ns <;> simp_all [sca]
theorem ol' (i : Int) (ns : List Int) : ((ns.map D.int).any fun d => eqb d (.int i)) = decide (i ∈ ns) := by
  induction ns with
  | nil => rfl
  | cons n ns ih =>
    simp only [List.map_cons, List.any_cons, ih]
    rw [Bool.eq_iff_iff]
    simp [eqb]
    exact ⟨fun h => h.elim (fun e => .inl e.symm) .inr, fun h => h.elim (fun e => .inl e.symm) .inr⟩
theorem nc' (i : Int) (ns : List Int) : vD (pIn (.int i) (.tup (ns.map .int))) Q = Q (.bl (decide (i ∈ ns))) := by
  show vD (if sca (.int i) = true /\ (ns.map D.int).all sca = true then some (D.bl ((ns.map D.int).any fun d => eqb d (.int i))) else none) Q = _
  rw [nw', ol']
  rfl
theorem nd' (i : Int) (ns : List Int) : vD (pIn (.int i) (.lst (ns.map .int))) Q = Q (.bl (decide (i ∈ ns))) := by
  show vD (if sca (.int i) = true /\ (ns.map D.int).all sca = true then some (D.bl ((ns.map D.int).any fun d => eqb d (.int i))) else none) Q = _
  rw [nw', ol']
  rfl
theorem m8' (s : Tx) : vD (eD' (.str s)) Q = Q (.int s.length) := rfl
theorem m9' (s : List D) : vD (eD' (.lst s)) Q = Q (.int s.length) := rfl
theorem m7' (s : List D) : vD (eD' (.tup s)) Q = Q (.int s.length) := rfl
theorem p4' (s : Tx) (i : Int) : vD (pIx (.str s) (.int i)) Q = vD (ati s i) (fun c => Q (.str [c])) := cw'
theorem p6' (s : List D) (i : Int) : vD (pIx (.lst s) (.int i)) Q = vD (ati s i) Q := rfl
theorem p3' (s : List D) (i : Int) : vD (pIx (.tup s) (.int i)) Q = vD (ati s i) Q := rfl
theorem yZ' {n : Nat} {i : Int} (h : 0 <= i) (h2 : i < n) : ixn n i = some i.toNat := by unfold ixn; rw [if_pos h, if_pos h2]
theorem k8' {α : Type} {xs : List α} {i : Int} (h : 0 <= i) : ati xs i = xs[i.toNat]? := by
  unfold ati ixn
  rw [if_pos h]
  split
  . rfl
  . rename_i h2
    rw [List.getElem?_eq_none (by omega)]
    rfl
theorem pL' (s : Tx) (lo hi : Option Int) : vD (pSl (.str s) lo hi) Q = Q (.str (cut s lo hi)) := rfl
theorem pN' (s : List D) (lo hi : Option Int) : vD (pSl (.lst s) lo hi) Q = Q (.lst (cut s lo hi)) := rfl
theorem pK' (s : List D) (lo hi : Option Int) : vD (pSl (.tup s) lo hi) Q = Q (.tup (cut s lo hi)) := rfl
theorem pM' (s : List D) (lo hi : Option Int) : vD (pSl (.scr s) lo hi) Q = Q (.lst (cut s lo hi)) := rfl
theorem u3' {α : Type} {s : List α} {i : Int} (h : 0 <= i) : cut s none (some i) = s.take i.toNat := by
  unfold cut six
  simp only [if_neg (show ¬ i < 0 by omega), List.drop_zero, Nat.sub_zero]
  rcases Nat.le_total i.toNat s.length with h | h
  . rw [Nat.min_eq_left h]
  . rw [Nat.min_eq_right h, List.take_length, List.take_of_length_le h]
theorem tY' {α : Type} {s : List α} {i : Int} (h : 0 <= i) : cut s (some i) none = s.drop i.toNat := by
  unfold cut six
  simp only [if_neg (show ¬ i < 0 by omega)]
  rcases Nat.le_total i.toNat s.length with h | h
  . rw [Nat.min_eq_left h, List.take_of_length_le (by rw [List.length_drop]; omega)]
  . rw [Nat.min_eq_right h, List.drop_length, List.drop_of_length_le h, List.take_nil]
theorem mZ' (s : Tx) : vD (At' (.str s)) Q = Q (.str s.reverse) := rfl
theorem m0' (s : List D) : vD (At' (.lst s)) Q = Q (.lst s.reverse) := rfl
theorem sG' (l : List Tx) : d3' (l.map .str) = some l := by
  induction l with
  | nil => rfl
  | cons a l ih => simp [d3', ih]
theorem kq' : ∀ l : List Tx, cZ' [] l = l.flatten
  | [] => rfl
  | [x] => by simp [cZ']
  | x :: y :: r => by
    have := kq' (y :: r)
    simp only [cZ', this, List.flatten_cons, List.nil_append]
theorem iK' (l : List Tx) : vD (lI' [] [.lst (l.map .str)]) Q = jo' (l.map List.length).sum (Q (.str l.flatten)) := by
  show vD ((d3' (l.map .str)).bind _) Q = _
  rw [sG']
  show vD (if _ then _ else _) Q = _
  rw [aX', kq']
  simp [vC, jo']
theorem qs' : ∀ l : Tx, ((l.map fun c => [c]).map List.length).sum = l.length
  | [] => rfl
  | c :: l => by simp only [List.map_cons, List.sum_cons, qs' l, List.length_cons, List.length_nil]; omega
theorem n7' : ∀ l : Tx, (l.map fun c => [c]).flatten = l
  | [] => rfl
  | c :: l => by simp only [List.map_cons, List.flatten_cons, n7' l]; rfl
theorem jU' (l : Tx) : vD (lI' [] [.lst (l.map chD)]) Q = jo' l.length (Q (.str l)) := by
  have h := iK' (Q := Q) (l.map fun c => [c])
  rw [List.map_map, qs', n7'] at h
  exact h
theorem ne' (a b : Tx) : vD (rt' a [.str b]) Q = Q (.int (fnd (n4' a b))) := rfl
theorem jV' (a b : Tx) : vD (kl' a [.str b]) Q = vD (n4' a b) (fun i => Q (.int (i : Nat))) := cw'
theorem jM' (s : Tx) : vD (uJ' (.str s)) Q = vC (s.all (fun c => decide (c < 128)) = true /\ s.length <= 5592405) (Q (.str (s.map up1))) := aX'
theorem qa' (i : Int) : vD (in' (.int i)) Q = Q (.int i) := rfl
theorem nb' (b : Bool) : vD (in' (.bl b)) Q = Q (.int (if b then 1 else 0)) := rfl
theorem qo' (i : Int) : vD (Ax' (.int i)) Q = Q (.int (if i < 0 then -i else i)) := rfl
theorem pX' (i j : Int) : vD (rb' (.int i) (.int j)) Q = Q (.int (max i j)) := by
  show Q (.int (if j > i then j else i)) = _
  congr 2
  split <;> omega
theorem pW' (i j : Int) : vD (oC' (.int i) (.int j)) Q = Q (.int (min i j)) := by
  show Q (.int (if j < i then j else i)) = _
  congr 2
  split <;> omega
theorem mU' (s : List D) : vD (bK' (.lst s)) Q = Q (.tup s) := rfl
theorem mT' (s : List D) : vD (bK' (.tup s)) Q = Q (.tup s) := rfl
theorem jR' (s : List D) : vD (eS' (.lst s)) Q = Q (.lst s) := rfl
theorem jQ' (s : List D) : vD (eS' (.tup s)) Q = Q (.lst s) := rfl
theorem jN' (s : Tx) : vD (cF' (.str s)) Q = vC (s.length < 64) (Q (.lst ((bY' s).map chD))) := aX'
theorem p7' (t : String) (d : D) : vD (cq' t d) Q = vD (tyn d) (fun n => Q (.bl (n == t || (n == "bool" && t == "int")))) := cw'
theorem lO' (l : List Int) : bs' (l.map .int) = some l := by
  induction l with
  | nil => rfl
  | cons a l ih => simp [bs', ih]
theorem oi' (l : List Bool) : bools (l.map .bl) = some l := by
  induction l with
  | nil => rfl
  | cons a l ih => simp [bools, ih]
theorem pI' (l : List Int) : vD (CW' (.lst (l.map .int))) Q = Q (.int l.sum) := by
  show vD ((bs' (l.map .int)).map _) Q = _
  rw [lO']
  rfl
theorem qn' (l : List Bool) : vD (CY' (.lst (l.map .bl))) Q = Q (.bl (l.all id)) := by
  show vD ((bools (l.map .bl)).map _) Q = _
  rw [oi']
  rfl
theorem qm' (l : List Bool) : vD (CX' (.lst (l.map .bl))) Q = Q (.bl (l.any id)) := by
  show vD ((bools (l.map .bl)).map _) Q = _
  rw [oi']
  rfl
theorem mY' (s : List D) : vD (ei' (.lst s)) Y = Y s := rfl
theorem mW' (s : List D) : vD (ei' (.tup s)) Y = Y s := rfl
theorem mX' (s : Tx) : vD (ei' (.str s)) Y = Y (s.map chD) := rfl
theorem pP' (j : Int) : vD (fC' (.int j)) Y = vC (-4611686018427387904 <= j /\ j < 4611686018427387904) (Y (rgI 0 j.toNat)) := by
  show vD (if so' j = true then _ else _) Y = _
  rw [aX']
  congr 1
  simp [so']
theorem pO' (i j : Int) : vD (ra' (.int i) (.int j)) Y = vC ((-4611686018427387904 <= i /\ i < 4611686018427387904) /\ (-4611686018427387904 <= j /\ j < 4611686018427387904)) (Y (rgI i (j - i).toNat)) := by
  show vD (if so' i = true /\ so' j = true then _ else _) Y = _
  rw [aX']
  congr 1
  simp [so']
theorem mQ' (a b : Tx) : vD (sk' (.str a) (.str b)) Y = Y (dq' (a.map chD) (b.map chD)) := rfl
theorem mS' (a b : List D) : vD (sk' (.lst a) (.lst b)) Y = Y (dq' a b) := rfl
theorem mP' (a b : List D) : vD (sk' (.tup a) (.tup b)) Y = Y (dq' a b) := rfl
theorem mR' (a : Tx) (b : List D) : vD (CO' (.str a) (.tup b)) Y = Y (dq' (a.map chD) b) := rfl
theorem qi' (a : Tx) : vD (enB (.str a)) Y = Y (eu' 0 (a.map chD)) := rfl
theorem qj' (a : List D) : vD (enB (.lst a)) Y = Y (eu' 0 a) := rfl
theorem jP' (a : List D) : vD (Ar' (.lst a)) Y = Y a.reverse := rfl
theorem jO' (a : List D) : vD (Ar' (.tup a)) Y = Y a.reverse := rfl
theorem m6' (j : Int) : vD (eR' (.int j)) Q = vC (RgB 0 j = true) (Q (.lst (e5' 0 j))) := aX'
theorem Ah' {a b : Int} (h1 : 0 <= a) (h2 : b <= 16777216) (h3 : a <= 16777216) (h4 : 0 <= b) : RgB a b = true := by
  unfold RgB
  simp only [Bool.and_eq_true, decide_eq_true_eq]
  omega
theorem ut' (i : Nat) (d : D) (env : List (Option O)) (w : W) {N : PSt -> Prop} : vD (gN i d ⟨env, w⟩) N = ot' i env.length (N ⟨env.set i (some (.fz d)), w⟩) := aX'
theorem us' (is : List Nat) (ds : List D) (ρ : PSt) {N : PSt -> Prop} : vD (gT is (.tup ds) ρ) N = vD (gNs is ds ρ) N := rfl
theorem qd' (ρ : PSt) {N : PSt -> Prop} : vD (gNs [] [] ρ) N = N ρ := rfl
theorem uq' (i : Nat) (is : List Nat) (d : D) (ds : List D) (ρ : PSt) {N : PSt -> Prop} : vD (gNs (i :: is) (d :: ds) ρ) N = vD (gN i d ρ) (fun ρ1 => vD (gNs is ds ρ1) N) := px'
theorem p0' (w : W) (n : Nat) (k : D) : vD (ixW w (.obj n) k) Q = vOb w[n]? (fun os => vD (ixO (.lst os) k) Q) := by
  show vD (match w[n]? with | some (.lst os) => ixO (.lst os) k | _ => none) Q = _
  rcases w[n]? with _ | ob
  . rfl
  . cases ob <;> rfl
theorem p5' (os : List O) (i : Int) : vD (ixO (.lst os) (.int i)) Q = vD (ati os i) (fun o => vD (asF o) Q) := by
  show vD (match ati os i with | some (.fz d) => some d | _ => none) Q = _
  rcases ati os i with _ | o
  . rfl
  . cases o <;> rfl
theorem ql' (d : D) : vD (asF (.fz d)) Q = Q d := rfl
theorem qk' (d : List D) {Q : List D -> Prop} : vD (asL (.lst d)) Q = Q d := rfl
theorem na' (d k : D) : vD (ixO (.fz d) k) Q = vD (pIx d k) Q := rfl
theorem mV' (w : W) (n : Nat) (z : Int) (d : D) {N : W -> Prop} : vD (sJ' w (.obj n) (.int z) d) N = vOb w[n]? (fun os => vD (ixn os.length z) (fun j => N (w.set n (.lst (os.set j (.fz d)))))) := by
  show vD (match w[n]? with | some (.lst os) => (ixn os.length z).map fun j => w.set n (.lst (os.set j (.fz d))) | _ => none) N = _
  rcases w[n]? with _ | ob
  . rfl
  . cases ob with
    | lst os => exact cw'
    | _ => rfl
theorem jS' (os : List O) : vD (o6' (.lst os)) Q = Q (.int os.length) := rfl
theorem jT' (d : D) : vD (o6' (.fz d)) Q = vD (eD' d) Q := rfl
end
structure U {α : Sort _} (a : α) : Type where
@[irreducible] def wE {α : Type} (r : Res α) (Q : α -> PSt -> Prop) (X : Exc -> PSt -> Prop) (_ : U (Q, X) := U.mk) : Prop := vE r Q X
@[irreducible] def wS (o : Out) (D : En) (_ : U D := U.mk) : Prop := vS o D
@[irreducible] def wF (r : FRes) (Q : O -> W -> Prop) (X : Exc -> W -> Prop) (_ : U (Q, X) := U.mk) : Prop := vF r Q X
@[irreducible] def wD {α : Type} (o : Option α) (Q : α -> Prop) (_ : U Q := U.mk) : Prop := vD o Q
@[irreducible] def wI (k : Bool) (A B : Prop) (_ : U (A, B) := U.mk) : Prop := vI k A B
@[irreducible] def wB (d : D) (P : Bool -> Prop) (_ : U P := U.mk) : Prop := vB d P
@[irreducible] def wT (d : D) (P : Tx -> Prop) (_ : U P := U.mk) : Prop := vT d P
@[irreducible] def wN (d : D) (P : Int -> Prop) (_ : U P := U.mk) : Prop := vN d P
@[irreducible] def wV (o : Option (Option O)) (i : Nat) (ρ : PSt) (Q : D -> PSt -> Prop) (_ : U Q := U.mk) : Prop := vV o i ρ Q
@[irreducible] def wG (o : Option (Option O)) (i : Nat) (ρ : PSt) (Q : O -> PSt -> Prop) (_ : U Q := U.mk) : Prop := vG o i ρ Q
@[irreducible] def wO (o : Option (Option O)) (Q : O -> Prop) (_ : U Q := U.mk) : Prop := vO o Q
@[irreducible] def wL (o : Option (Option O)) (Q : List O -> Prop) (_ : U Q := U.mk) : Prop := vL o Q
@[irreducible] def o3' (n : Nat) (A : Prop) (_ : U A := U.mk) : Prop := jo' n A
@[irreducible] def t8' (i n : Nat) (A : Prop) (_ : U A := U.mk) : Prop := ot' i n A
@[irreducible] def wC (c : Prop) (A : Prop) (_ : U A := U.mk) : Prop := vC c A
@[irreducible] def Am' (o : Option Ob) (P : String -> List (String × O) -> Prop) (_ : U P := U.mk) : Prop := An' o P
@[irreducible] def wOb (o : Option Ob) (P : List O -> Prop) (_ : U P := U.mk) : Prop := vOb o P
theorem c4' {α : Type} (r : Res α) (Q : α -> PSt -> Prop) (X : Exc -> PSt -> Prop) (u : U (Q, X)) : wE r Q X u = vE r Q X := by unfold wE; rfl
theorem ed' (o : Out) (D : En) (u : U D) : wS o D u = vS o D := by unfold wS; rfl
theorem ef' (r : FRes) (Q : O -> W -> Prop) (X : Exc -> W -> Prop) (u : U (Q, X)) : wF r Q X u = vF r Q X := by unfold wF; rfl
theorem au' {α : Type} (o : Option α) (Q : α -> Prop) (u : U Q) : wD o Q u = vD o Q := by unfold wD; rfl
theorem fq' (k : Bool) (A B : Prop) (u : U (A, B)) : wI k A B u = vI k A B := by unfold wI; rfl
theorem fs' (d : D) (P : Bool -> Prop) (u : U P) : wB d P u = vB d P := by unfold wB; rfl
theorem fl' (d : D) (P : Tx -> Prop) (u : U P) : wT d P u = vT d P := by unfold wT; rfl
theorem fn' (d : D) (P : Int -> Prop) (u : U P) : wN d P u = vN d P := by unfold wN; rfl
theorem ec' (o : Option (Option O)) (i : Nat) (ρ : PSt) (Q : D -> PSt -> Prop) (u : U Q) : wV o i ρ Q u = vV o i ρ Q := by unfold wV; rfl
theorem ee' (o : Option (Option O)) (i : Nat) (ρ : PSt) (Q : O -> PSt -> Prop) (u : U Q) : wG o i ρ Q u = vG o i ρ Q := by unfold wG; rfl
theorem fm' (o : Option (Option O)) (Q : O -> Prop) (u : U Q) : wO o Q u = vO o Q := by unfold wO; rfl
theorem fo' (o : Option (Option O)) (Q : List O -> Prop) (u : U Q) : wL o Q u = vL o Q := by unfold wL; rfl
theorem cg' (n : Nat) (A : Prop) (u : U A) : o3' n A u = jo' n A := by unfold o3'; rfl
theorem b6' (i n : Nat) (A : Prop) (u : U A) : t8' i n A u = ot' i n A := by unfold t8'; rfl
theorem d0' (c : Prop) (A : Prop) (u : U A) : wC c A u = vC c A := by unfold wC; rfl
theorem cC' (o : Option Ob) (P : List O -> Prop) (u : U P) : wOb o P u = vOb o P := by unfold wOb; rfl
theorem bX' (o : Option Ob) (P : String -> List (String × O) -> Prop) (u : U P) : Am' o P u = An' o P := by unfold Am'; rfl
local macro_rules | `(tactic| walk_at "z") => `(tactic| simp only [c4', ed', ef', au', fq', fs', fl', fn', ec', ee', fm', fo', cg', b6', d0', cC', bX'] at *)
section
variable {α β : Type} {Q : α -> PSt -> Prop} {X : Exc -> PSt -> Prop} {ρ : PSt} {P : D -> PSt -> Prop} {D0 : En}
theorem a7' (z : α) {Q : α -> Prop} : wD (some z) Q = Q z := by walk_at "z"; first | exact jF' .. | (apply jF' <;> assumption)
theorem A5' (k : Bool) {Q : Bool -> Prop} : wB (.bl k) Q = Q k := by walk_at "z"; first | exact pz' .. | (apply pz' <;> assumption)
theorem xm' (A B : Prop) : wI true A B = A := by walk_at "z"; first | exact uk' .. | (apply uk' <;> assumption)
theorem xS' (A B : Prop) : wI false A B = B := by walk_at "z"; first | exact ul' .. | (apply ul' <;> assumption)
theorem xR' (k : Bool) (A B : Prop) : wI (!k) A B = wI k B A := by walk_at "z"; first | exact mE' .. | (apply mE' <;> assumption)
theorem x_C (d : D) : wE (eC d ρ) P X = P d ρ := by walk_at "z"; first | exact xZ' .. | (apply xZ' <;> assumption)
theorem x_V (i : Nat) (env : List (Option O)) (w : W) : wE (eV i ⟨env, w⟩) P X = wV env[i]? i ⟨env, w⟩ P := by walk_at "z"; first | exact xX' .. | (apply xX' <;> assumption)
theorem AX' (d : D) (i : Nat) (ρ : PSt) : wV (some (some (.fz d))) i ρ P = P d ρ := by walk_at "z"; first | exact pt' .. | (apply pt' <;> assumption)
theorem xL' (os : List O) (i : Nat) (env : List (Option O)) (w : W) : wV (some (some (.lst os))) i ⟨env, w⟩ P = P (.lst (frzs os)) ⟨env.set i (some (.fz (.lst (frzs os)))), w⟩ := by walk_at "z"; first | exact mz' .. | (apply mz' <;> assumption)
theorem xK' (os : List O) (i : Nat) (env : List (Option O)) (w : W) : wV (some (some (.tup os))) i ⟨env, w⟩ P = P (.tup (frzs os)) ⟨env.set i (some (.fz (.tup (frzs os)))), w⟩ := by walk_at "z"; first | exact my' .. | (apply my' <;> assumption)
theorem xM' (ks : List D) (os : List O) (i : Nat) (env : List (Option O)) (w : W) : wV (some (some (.dct ks os))) i ⟨env, w⟩ P = P (.dct ks (frzs os)) ⟨env.set i (some (.fz (.dct ks (frzs os)))), w⟩ := by walk_at "z"; first | exact mA' .. | (apply mA' <;> assumption)
theorem A1' (d : D) (i : Nat) (ρ : PSt) {P : O -> PSt -> Prop} : wG (some (some (.fz d))) i ρ P = P (.fz d) ρ := by walk_at "z"; first | exact pv' .. | (apply pv' <;> assumption)
theorem xU' (os : List O) (i : Nat) (env : List (Option O)) (w : W) {P : O -> PSt -> Prop} : wG (some (some (.lst os))) i ⟨env, w⟩ P = P (.lst os) ⟨env.set i none, w⟩ := by walk_at "z"; first | exact mH' .. | (apply mH' <;> assumption)
theorem xT' (os : List O) (i : Nat) (env : List (Option O)) (w : W) {P : O -> PSt -> Prop} : wG (some (some (.tup os))) i ⟨env, w⟩ P = P (.tup os) ⟨env.set i none, w⟩ := by walk_at "z"; first | exact mG' .. | (apply mG' <;> assumption)
theorem xV' (ks : List D) (os : List O) (i : Nat) (env : List (Option O)) (w : W) {P : O -> PSt -> Prop} : wG (some (some (.dct ks os))) i ⟨env, w⟩ P = P (.dct ks os) ⟨env.set i none, w⟩ := by walk_at "z"; first | exact mI' .. | (apply mI' <;> assumption)
theorem vi' (o : O) {P : O -> Prop} : wO (some (some o)) P = P o := by walk_at "z"; first | exact jD' .. | (apply jD' <;> assumption)
theorem xP' (os : List O) {P : List O -> Prop} : wL (some (some (.lst os))) P = P os := by walk_at "z"; first | exact mD' .. | (apply mD' <;> assumption)
theorem Dg' (f : D -> D -> Option D) (a b : ME) : wE (eOp f a b ρ) P X = wE (a ρ) (fun x ρ1 => wE (b ρ1) (fun y ρ2 => wD (f x y) (fun z => P z ρ2)) X) X := by walk_at "z"; first | exact ug' .. | (apply ug' <;> assumption)
theorem Dd' (f : D -> Option D) (a : ME) : wE (eUn f a ρ) P X = wE (a ρ) (fun x ρ1 => wD (f x) (fun z => P z ρ1)) X := by walk_at "z"; first | exact ud' .. | (apply ud' <;> assumption)
theorem AV' (a b : ME) : wE (wH' a b ρ) P X = wE (a ρ) (fun x ρ1 => wB x fun k => wI k (wE (b ρ1) P X) (P (.bl false) ρ1)) X := by walk_at "z"; first | exact pr' .. | (apply pr' <;> assumption)
theorem AK' (a : ME) : wE (zn' a ρ) P X = wE (a ρ) (fun x ρ1 => wB x fun k => P (.bl (!k)) ρ1) X := by walk_at "z"; first | exact pk' .. | (apply pk' <;> assumption)
theorem vf' (f g : D -> D -> Option D) (a b c : ME) : wE (hy' f g a b c ρ) P X = wE (a ρ) (fun x ρ1 => wE (b ρ1) (fun y ρ2 => wD (f x y) fun r => wB r fun k => wI k (wE (c ρ2) (fun z ρ3 => wD (g y z) fun v => P v ρ3) X) (P (.bl false) ρ2)) X) X := by walk_at "z"; first | exact jA' .. | (apply jA' <;> assumption)
theorem AL' {P : List D -> PSt -> Prop} : wE (aV' ρ) P X = P [] ρ := by walk_at "z"; first | exact pl' .. | (apply pl' <;> assumption)
theorem xH' (a : ME) (r : MA) {P : List D -> PSt -> Prop} : wE (ac' a r ρ) P X = wE (a ρ) (fun x ρ1 => wE (r ρ1) (fun xs ρ2 => P (x :: xs) ρ2) X) X := by walk_at "z"; first | exact mw' .. | (apply mw' <;> assumption)
theorem pd' {n : Nat} (h : n <= 16777216) (A : Prop) : o3' n A = A := by walk_at "z"; first | exact jE' .. | (apply jE' <;> assumption)
theorem AI' (as : MA) : wE (o7' as ρ) P X = wE (as ρ) (fun xs ρ1 => o3' xs.length (P (.tup xs) ρ1)) X := by walk_at "z"; first | exact pi' .. | (apply pi' <;> assumption)
theorem AM' (as : MA) : wE (jf' as ρ) P X = wE (as ρ) (fun xs ρ1 => o3' xs.length (P (.lst xs) ρ1)) X := by walk_at "z"; first | exact pm' .. | (apply pm' <;> assumption)
theorem Di' (f : Tx -> List D -> Option D) (a : ME) (as : MA) : wE (eMt f a as ρ) P X = wE (a ρ) (fun x ρ1 => wT x fun s => wE (as ρ1) (fun ds ρ2 => wD (f s ds) fun z => P z ρ2) X) X := by walk_at "z"; first | exact ui' .. | (apply ui' <;> assumption)
theorem xN' (s : Tx) {P : Tx -> Prop} : wT (.str s) P = P s := by walk_at "z"; first | exact mB' .. | (apply mB' <;> assumption)
theorem xO' (s : Int) {P : Int -> Prop} : wN (.int s) P = P s := by walk_at "z"; first | exact mC' .. | (apply mC' <;> assumption)
theorem Dh' {P : Option Int -> PSt -> Prop} : wE (pNo ρ) P X = P none ρ := by walk_at "z"; first | exact uh' .. | (apply uh' <;> assumption)
theorem De' (a : ME) {P : Option Int -> PSt -> Prop} : wE (pSo a ρ) P X = wE (a ρ) (fun x ρ1 => wN x fun i => P (some i) ρ1) X := by walk_at "z"; first | exact ue' .. | (apply ue' <;> assumption)
theorem Df' (a : ME) (lo hi : MP) : wE (eSl a lo hi ρ) P X = wE (a ρ) (fun x ρ1 => wE (lo ρ1) (fun l ρ2 => wE (hi ρ2) (fun h ρ3 => wD (pSl x l h) fun z => P z ρ3) X) X) X := by walk_at "z"; first | exact uf' .. | (apply uf' <;> assumption)
theorem x_O (a : MO) : wE (eO a ρ) P X = wE (a ρ) (fun o ρ1 => P (frz o) ρ1) X := by walk_at "z"; first | exact xY' .. | (apply xY' <;> assumption)
variable {R : O -> PSt -> Prop}
theorem Dc' (a : ME) : wE (oE a ρ) R X = wE (a ρ) (fun d ρ1 => R (.fz d) ρ1) X := by walk_at "z"; first | exact uc' .. | (apply uc' <;> assumption)
theorem Db' (i : Nat) (env : List (Option O)) (w : W) : wE (oV i ⟨env, w⟩) R X = wG env[i]? i ⟨env, w⟩ R := by walk_at "z"; first | exact ub' .. | (apply ub' <;> assumption)
theorem xI' (f : MF) (as : MA) : wE (av' f as ρ) R X = wE (as ρ) (fun ds ρ1 => wF (f ds ρ1.w) (fun o w => R o ⟨ρ1.env, w⟩) fun x w => X x ⟨ρ1.env, w⟩) X := by walk_at "z"; first | exact mx' .. | (apply mx' <;> assumption)
theorem xB' (a : ME) : wE (jp' a ρ) R X = wE (a ρ) (fun d ρ1 => wD (asL d) fun ds => R (.lst (ds.map .fz)) ρ1) X := by walk_at "z"; first | exact mq' .. | (apply mq' <;> assumption)
theorem va' : wE (gm' ρ) R X = R (.dct [] []) ρ := by walk_at "z"; first | exact jx' .. | (apply jx' <;> assumption)
theorem vd' (i : Nat) (a : ME) (env : List (Option O)) (w : W) : wE (kC' i a ⟨env, w⟩) P X = wL env[i]? fun _ => wE (a ⟨env, w⟩) (fun d ρ1 => wN d fun z => wL ρ1.env[i]? fun os => o3' os.length (wD (ixn os.length z) fun j => wD os[j]? fun o => wD (asF o) fun y => P y ⟨ρ1.env.set i (some (.lst (os.eraseIdx j))), ρ1.w⟩)) X := by walk_at "z"; first | exact jz' .. | (apply jz' <;> assumption)
theorem AO' (i : Nat) (b : ME) (env : List (Option O)) (w : W) : wE (wG' i b ⟨env, w⟩) P X = wO env[i]? fun _ => wE (b ⟨env, w⟩) (fun k ρ1 => wO ρ1.env[i]? fun o => wD (ixO o k) fun z => P z ρ1) X := by walk_at "z"; first | exact po' .. | (apply po' <;> assumption)
theorem su' (i : Nat) (a : ME) : wE (fM' i a ρ) P X = wE (a ρ) (fun x ρ1 => wO ρ1.env[i]? fun o => wD (rj' (inO x o)) fun z => P z ρ1) X := by walk_at "z"; first | exact ia' .. | (apply ia' <;> assumption)
theorem xG' (i : Nat) : wE (ev' i ρ) P X = wO ρ.env[i]? fun o => wD (o6' o) fun z => P z ρ := by walk_at "z"; first | exact mv' .. | (apply mv' <;> assumption)
theorem AN' (a b : ME) : wE (js' a b ρ) P X = wE (a ρ) (fun x ρ1 => wE (b ρ1) (fun y ρ2 => wD (ixW ρ2.w x y) fun z => P z ρ2) X) X := by walk_at "z"; first | exact pn' .. | (apply pn' <;> assumption)
theorem AJ' (as : MA) : wE (yL' as ρ) R X = wE (as ρ) (fun xs ρ1 => o3' xs.length (R (.fz (.obj ρ1.w.length)) ⟨ρ1.env, ρ1.w ++ [.lst (xs.map .fz)]⟩)) X := by walk_at "z"; first | exact pj' .. | (apply pj' <;> assumption)
theorem AR' (cs : List String) (a : ME) (f : String) : wE (e6' cs a f ρ) P X = wE (a ρ) (fun x ρ1 => wD (hu' cs f ρ1.w x) fun z => P z ρ1) X := by walk_at "z"; first | exact pp' .. | (apply pp' <;> assumption)
theorem xF' (C : String) (init : MF) (as : MA) : wE (ke' C init as ρ) R X = wE (as ρ) (fun ds ρ1 => wF (init (.obj ρ1.w.length :: ds) (ρ1.w ++ [.ins C []])) (fun o w => o = .fz .non /\ R (.fz (.obj ρ1.w.length)) ⟨ρ1.env, w⟩) fun x w => X x ⟨ρ1.env, w⟩) X := by walk_at "z"; first | exact mu' .. | (apply mu' <;> assumption)
theorem xE' (C : List String) (m : String) (f : MF) (a : ME) (as : MA) : wE (fF' C m f a as ρ) R X = wE (a ρ) (fun x ρ1 => ja' C m ρ1.w x = true /\ wE (as ρ1) (fun ds ρ2 => wF (f (x :: ds) ρ2.w) (fun o w => R o ⟨ρ2.env, w⟩) fun x w => X x ⟨ρ2.env, w⟩) X) X := by walk_at "z"; first | exact mt' .. | (apply mt' <;> assumption)
theorem AP' (i : Nat) (t : ET) (c : String) (x : Exc) : wE (tG' i t c x ρ) P X = vX ρ.env[i]? (x.fs = [] /\ wD (sub t x.cls c) fun b => P (.bl b) ρ) := by simp only [c4', ed', ef', au', fq', fs', fl', fn', ec', ee', fm', fo', cg', b6', d0', cC', bX']; exact vn' ..
variable {B : Bool -> PSt -> Prop}
theorem Da' (a : ME) : wE (tE a ρ) B X = wE (a ρ) (fun d ρ1 => wB d fun k => B k ρ1) X := by walk_at "z"; first | exact ua' .. | (apply ua' <;> assumption)
theorem xz' (a : MT) : wE (gw' a ρ) B X = wE (a ρ) (fun k ρ1 => B (!k) ρ1) X := by walk_at "z"; first | exact mo' .. | (apply mo' <;> assumption)
theorem xA' (a b : MT) : wE (xn' a b ρ) B X = wE (a ρ) (fun k ρ1 => wI k (wE (b ρ1) B X) (B false ρ1)) X := by walk_at "z"; first | exact mp' .. | (apply mp' <;> assumption)
theorem AF' (a b : MT) : wE (tOr a b ρ) B X = wE (a ρ) (fun k ρ1 => wI k (B true ρ1) (wE (b ρ1) B X)) X := by walk_at "z"; first | exact pe' .. | (apply pe' <;> assumption)
theorem C9' : wE (tT ρ) B X = B true ρ := by walk_at "z"; first | exact t9' .. | (apply t9' <;> assumption)
variable {Y : List D -> PSt -> Prop}
theorem xD' (a : ME) : wE (et' a ρ) Y X = wE (a ρ) (fun d ρ1 => wD (ei' d) fun z => Y z ρ1) X := by walk_at "z"; first | exact ms' .. | (apply ms' <;> assumption)
theorem o9' (a : ME) : wE (by' a ρ) Y X = wE (a ρ) (fun d ρ1 => wD (fC' d) fun z => Y z ρ1) X := by walk_at "z"; first | exact gH' .. | (apply gH' <;> assumption)
theorem xC' (a b : ME) : wE (zb' a b ρ) Y X = wE (a ρ) (fun d ρ1 => wE (b ρ1) (fun e ρ2 => wD (sk' d e) fun z => Y z ρ2) X) X := by walk_at "z"; first | exact mr' .. | (apply mr' <;> assumption)
theorem vb' (a : ME) : wE (rP' a ρ) Y X = wE (a ρ) (fun d ρ1 => wD (enB d) fun z => Y z ρ1) X := by walk_at "z"; first | exact jy' .. | (apply jy' <;> assumption)
theorem Dj' (own : List Nat) (it : MI) (g : MG) (t : MT) (e : ME) : wE (eLc own it g t e ρ) P X = wE (it ρ) (fun xs ρ1 => wE (lcL own g t e xs [] ρ1) (fun ys ρ2 => P (.lst ys) ⟨back ρ1.env own (aF' own ρ2.env), ρ2.w⟩) X) X := by walk_at "z"; first | exact uj' .. | (apply uj' <;> assumption)
theorem AG' (own : List Nat) (it : MI) (g : MG) (t : MT) (e : ME) : wE (oLc own it g t e ρ) R X = wE (it ρ) (fun xs ρ1 => wE (lcL own g t e xs [] ρ1) (fun ys ρ2 => R (.lst (ys.map .fz)) ⟨back ρ1.env own (aF' own ρ2.env), ρ2.w⟩) X) X := by walk_at "z"; first | exact pf' .. | (apply pf' <;> assumption)
variable {N : PSt -> Prop} {rt : O -> W -> Prop} {bk ct : PSt -> Prop} {ex : Exc -> PSt -> Prop}
theorem yf' : wS (bj' ρ) ⟨N, rt, bk, ct, ex⟩ = N ρ := by walk_at "z"; first | exact mL' .. | (apply mL' <;> assumption)
theorem vQ' : wS (ny' ρ) ⟨N, rt, bk, ct, ex⟩ = bk ρ := by walk_at "z"; first | exact jK' .. | (apply jK' <;> assumption)
theorem yg' (a : ME) : wS (gV' a ρ) ⟨N, rt, bk, ct, ex⟩ = wE (a ρ) (fun _ ρ1 => N ρ1) ex := by walk_at "z"; first | exact mM' .. | (apply mM' <;> assumption)
theorem Bb' (a : MO) : wS (cd' a ρ) ⟨N, rt, bk, ct, ex⟩ = wE (a ρ) (fun o ρ1 => rt o ρ1.w) ex := by walk_at "z"; first | exact pC' .. | (apply pC' <;> assumption)
theorem Ba' (a b : MS) : wS (as' a b ρ) ⟨N, rt, bk, ct, ex⟩ = wS (a ρ) ⟨fun ρ1 => wS (b ρ1) ⟨N, rt, bk, ct, ex⟩, rt, bk, ct, ex⟩ := by walk_at "z"; first | exact lg' .. | (apply lg' <;> assumption)
theorem Dm' (t : MT) (a b : MS) : wS (sIf t a b ρ) ⟨N, rt, bk, ct, ex⟩ = wE (t ρ) (fun k ρ1 => wI k (wS (a ρ1) ⟨N, rt, bk, ct, ex⟩) (wS (b ρ1) ⟨N, rt, bk, ct, ex⟩)) ex := by walk_at "z"; first | exact um' .. | (apply um' <;> assumption)
theorem pc' {i n : Nat} (h : i < n) (A : Prop) : t8' i n A = A := by walk_at "z"; first | exact jB' .. | (apply jB' <;> assumption)
theorem A9' (i : Nat) (a : MO) : wS (a9' i a ρ) ⟨N, rt, bk, ct, ex⟩ = wE (a ρ) (fun o ρ1 => t8' i ρ1.env.length (N ⟨ρ1.env.set i (some o), ρ1.w⟩)) ex := by walk_at "z"; first | exact pB' .. | (apply pB' <;> assumption)
theorem Bg' (g : MG) (a : ME) : wS (xp' g a ρ) ⟨N, rt, bk, ct, ex⟩ = wE (a ρ) (fun d ρ1 => wD (g d ρ1) N) ex := by walk_at "z"; first | exact pG' .. | (apply pG' <;> assumption)
theorem Bf' (f : D -> D -> Option D) (i : Nat) (a : ME) : wS (xo' f i a ρ) ⟨N, rt, bk, ct, ex⟩ = wO ρ.env[i]? fun o => wD (asF o) fun d => wE (a ρ) (fun y ρ1 => wD (f d y) fun z => t8' i ρ1.env.length (N ⟨ρ1.env.set i (some (.fz z)), ρ1.w⟩)) ex := by walk_at "z"; first | exact pF' .. | (apply pF' <;> assumption)
theorem vP' (x : String) : wS (nx' x ρ) ⟨N, rt, bk, ct, ex⟩ = ex ⟨x, []⟩ ρ := by walk_at "z"; first | exact jJ' .. | (apply jJ' <;> assumption)
theorem Bh' (i : Nat) (a : MO) : wS (ld' i a ρ) ⟨N, rt, bk, ct, ex⟩ = wL ρ.env[i]? fun _ => wE (a ρ) (fun o ρ1 => wL ρ1.env[i]? fun os => t8' os.length 16777216 (N ⟨ρ1.env.set i (some (.lst (os ++ [o]))), ρ1.w⟩)) ex := by walk_at "z"; first | exact pH' .. | (apply pH' <;> assumption)
theorem ye' (o k a : ME) : wS (iP' o k a ρ) ⟨N, rt, bk, ct, ex⟩ = wE (a ρ) (fun d ρ1 => wE (o ρ1) (fun x ρ2 => wE (k ρ2) (fun y ρ3 => wD (sJ' ρ3.w x y d) fun w => N ⟨ρ3.env, w⟩) ex) ex) ex := by walk_at "z"; first | exact mK' .. | (apply mK' <;> assumption)
theorem sS' (w : W) (b : Ob) (n : Nat) : Dk' w b (.obj n) = w.set n b := rfl
theorem Bd' (cs : List String) (a : ME) (f : String) (v : MO) : wS (sFld cs a f v ρ) ⟨N, rt, bk, ct, ex⟩ = wE (v ρ) (fun o ρ1 => wE (a ρ1) (fun x ρ2 => wD (stF cs f o ρ2.w x) fun w => N ⟨ρ2.env, w⟩) ex) ex := by walk_at "z"; first | exact pE' .. | (apply pE' <;> assumption)
theorem Bc' (it : MI) (g : MG) (b : MS) : wS (eO' it g b ρ) ⟨N, rt, bk, ct, ex⟩ = wE (it ρ) (fun ds ρ1 => wS (n6' g b ds ρ1) ⟨N, rt, bk, ct, ex⟩) ex := by walk_at "z"; first | exact pD' .. | (apply pD' <;> assumption)
theorem vN' (n : Nat) (t : MT) (b : MS) : wS (ih' n t b ρ) ⟨N, rt, bk, ct, ex⟩ = wS (d4' t b n ρ) ⟨N, rt, bk, ct, ex⟩ := by walk_at "z"; first | exact jI' .. | (apply jI' <;> assumption)
theorem vO' (i m : Nat) (b : MS) (g : String -> Option Bool) (h : Exc -> MS) : wS (ii' i m b g h ρ) ⟨N, rt, bk, ct, ex⟩ = wS (b ρ) ⟨N, rt, bk, ct, fun x ρ1 => wD (g x.cls) fun k => wI k (wC (ρ1.env.length = i + m + 1) (wS (h x ⟨ρ1.env.set i (some .exn), ρ1.w⟩) ⟨fun ρ => wC (ρ.env.length = i + m + 1) (N ⟨ρ.env.set i none, ρ.w⟩), rt, fun ρ => wC (ρ.env.length = i + m + 1) (bk ⟨ρ.env.set i none, ρ.w⟩), fun ρ => wC (ρ.env.length = i + m + 1) (ct ⟨ρ.env.set i none, ρ.w⟩), fun _ _ => False⟩)) (ex x ρ1)⟩ := by simp only [c4', ed', ef', au', fq', fs', fl', fn', ec', ee', fm', fo', cg', b6', d0', cC', bX']; exact pA' ..
theorem yJ' {k n : Nat} {b : MS} {ds : List D} {w : W} {Q : O -> W -> Prop} {X : Exc -> W -> Prop} (q : wS (b ⟨ds.map (fun d => some (.fz d)) ++ List.replicate (n - k) none, w⟩) ⟨fun ρ => Q (.fz .non) ρ.w, Q, fun _ => False, fun _ => False, fun x ρ => X x ρ.w⟩) (h : ds.length = k) : wF (fnM k n b ds w) Q X := by walk_at "z"; first | exact mN' .. | (apply mN' <;> assumption)
theorem A4' (o : O) (w : W) {Q : O -> W -> Prop} {X : Exc -> W -> Prop} : wF (.ok o w) Q X = Q o w := by walk_at "z"; first | exact pw' .. | (apply pw' <;> assumption)
theorem xW' (x : Exc) (w : W) {Q : O -> W -> Prop} {X : Exc -> W -> Prop} : wF (.exc x w) Q X = X x w := by walk_at "z"; first | exact mJ' .. | (apply mJ' <;> assumption)
theorem wF.mono {r : FRes} {Q Q' : O -> W -> Prop} {X : Exc -> W -> Prop} (h : wF r Q FX) (k : ∀ o w, Q o w -> Q' o w) : wF r Q' X := by walk_at "z"; first | exact vF.mono .. | (apply vF.mono <;> assumption)
theorem wF.monoX {r : FRes} {Q Q' : O -> W -> Prop} {X X' : Exc -> W -> Prop} (h : wF r Q X) (k : ∀ o w, Q o w -> Q' o w) (k2 : ∀ x w, X x w -> X' x w) : wF r Q' X' := by walk_at "z"; first | exact vF.monoX .. | (apply vF.monoX <;> assumption)
theorem wF.exi {r : FRes} {Q : O -> W -> Prop} (h : wF r Q FX) : ∃ o w, r = .ok o w /\ Q o w := by walk_at "z"; first | exact vF.exi .. | (apply vF.exi <;> assumption)
theorem wF.of {r : FRes} {Q : O -> W -> Prop} {X : Exc -> W -> Prop} {o : O} {w : W} (e : r = .ok o w) (h : Q o w) : wF r Q X := by walk_at "z"; first | exact vF.of .. | (apply vF.of <;> assumption)
theorem wS.mono {o : Out} {D1 D2 : En} (h : wS o D1) (h1 : ∀ ρ, D1.nx ρ -> D2.nx ρ) (h2 : ∀ o w, D1.rt o w -> D2.rt o w) (h3 : ∀ ρ, D1.bk ρ -> D2.bk ρ) (h4 : ∀ ρ, D1.ct ρ -> D2.ct ρ) (h5 : ∀ x ρ, D1.ex x ρ -> D2.ex x ρ) : wS o D2 := by walk_at "z"; first | exact vS.mono .. | (apply vS.mono <;> assumption)
theorem wE.mono {r : Res α} {Q Q' : α -> PSt -> Prop} {X X' : Exc -> PSt -> Prop} (h : wE r Q X) (k : ∀ a ρ, Q a ρ -> Q' a ρ) (k2 : ∀ x ρ, X x ρ -> X' x ρ) : wE r Q' X' := by walk_at "z"; first | exact vE.mono .. | (apply vE.mono <;> assumption)
theorem vJ' {a b : MS} (J : PSt -> Prop) (h : wS (a ρ) ⟨J, rt, bk, ct, ex⟩) (k : ∀ ρ1, J ρ1 -> wS (b ρ1) ⟨N, rt, bk, ct, ex⟩) : wS (as' a b ρ) ⟨N, rt, bk, ct, ex⟩ := by walk_at "z"; first | exact jH' .. | (apply jH' <;> assumption)
theorem bc' {p : Prop} [Decidable p] {A B : Prop} (h1 : p -> A) (h2 : ¬ p -> B) : wI (decide p) A B := by walk_at "z"; first | exact mF' .. | (apply mF' <;> assumption)
theorem bN' {γ : Type} {g : MG} {b : MS} {f : γ -> D} {cs : List γ} (Inv : List γ -> PSt -> Prop) (h0 : Inv [] ρ)
    (step : ∀ pre c post ρ, cs = pre ++ c :: post -> Inv pre ρ -> wD (g (f c) ρ) fun ρ1 => wS (b ρ1) ⟨Inv (pre ++ [c]), rt, N, Inv (pre ++ [c]), ex⟩)
    (hend : ∀ ρ, Inv cs ρ -> N ρ) : wS (n6' g b (cs.map f) ρ) ⟨N, rt, bk, ct, ex⟩ := by walk_at "z"; first | exact gJ' .. | (apply gJ' <;> assumption)
theorem dg' {g : MG} {b : MS} {lo : Int} {n : Nat} (Inv : Nat -> PSt -> Prop) (h0 : Inv 0 ρ)
    (step : ∀ k ρ, k < n -> Inv k ρ -> wD (g (.int (lo + (k : Nat))) ρ) fun ρ1 => wS (b ρ1) ⟨Inv (k + 1), rt, N, Inv (k + 1), ex⟩)
    (hend : ∀ ρ, Inv n ρ -> N ρ) : wS (n6' g b (rgI lo n) ρ) ⟨N, rt, bk, ct, ex⟩ := by walk_at "z"; first | exact jL' .. | (apply jL' <;> assumption)
theorem gG' {t : MT} {b : MS} {n : Nat} (Inv : Nat -> PSt -> Prop) (m : Nat) (hm : m < n) (h0 : Inv m ρ)
    (step : ∀ m ρ, Inv m ρ -> wE (t ρ) (fun k ρ1 => wI k (wS (b ρ1) ⟨fun ρ2 => ∃ m', m' < m /\ Inv m' ρ2, rt, N, fun ρ2 => ∃ m', m' < m /\ Inv m' ρ2, ex⟩) (N ρ1)) ex) :
    wS (d4' t b n ρ) ⟨N, rt, bk, ct, ex⟩ := by walk_at "z"; first | exact gI' .. | (apply gI' <;> assumption)
theorem iq' {own : List Nat} {g : MG} {t : MT} {e : ME} {γ : Type} {f : γ -> D} {cs : List γ} {Q : List D -> PSt -> Prop} (hl : cs.length <= 16777216) (Inv : List γ -> List D -> PSt -> Prop) (h0 : Inv [] [] ρ)
    (step : ∀ pre c post acc ρ, cs = pre ++ c :: post -> Inv pre acc ρ -> wD (g (f c) ⟨aF' own ρ.env, ρ.w⟩) fun ρ1 => wE (t ρ1) (fun k ρ2 => wI k (wE (e ρ2) (fun y ρ3 => Inv (pre ++ [c]) (acc ++ [y]) ρ3) PX) (Inv (pre ++ [c]) acc ρ2)) PX)
    (hend : ∀ acc ρ, Inv cs acc ρ -> Q acc ρ) : wE (lcL own g t e (cs.map f) [] ρ) Q X := by walk_at "z"; first | exact mO' .. | (apply mO' <;> assumption)
end
theorem vj' (C : String) (fs : List (String × O)) {P : String -> List (String × O) -> Prop} : Am' (some (.ins C fs)) P = P C fs := by simp only [bX']; exact pu' ..
theorem BP' (cs : List String) (f : String) (o : O) (w : W) (n : Nat) {N : W -> Prop} : wD (stF cs f o w (.obj n)) N = Am' w[n]? (fun C fs => wC (C ∈ cs /\ fs.length < 1000) (N (w.set n (.ins C (q4' f o fs))))) := by simp only [au', bX', d0']; exact vx' ..
theorem sz' (w : W) (n : Nat) {Q : List O -> Prop} : vD (C2' w (.obj n)) Q = vOb w[n]? Q := by
  show vD (match w[n]? with | some (.lst os) => some os | _ => none) Q = _
  rcases w[n]? with _ | b
  . rfl
  cases b <;> rfl
theorem zM' (w : W) (n : Nat) {Q : List O -> Prop} : wD (C2' w (.obj n)) Q = wOb w[n]? Q := by simp only [c4', ed', ef', au', cC']; exact sz' w n
theorem sA' (w : W) (n : Nat) {Q : D -> Prop} : vD (C3' w (.obj n)) Q = vOb w[n]? fun os => Q (.int os.length) := by
  show vD (match w[n]? with | some (.lst os) => some (.int os.length) | _ => none) Q = _
  rcases w[n]? with _ | b
  . rfl
  cases b <;> rfl
theorem zP' (w : W) (n : Nat) {Q : D -> Prop} : wD (C3' w (.obj n)) Q = wOb w[n]? fun os => Q (.int os.length) := by simp only [c4', ed', ef', au', cC']; exact sA' w n
theorem vh' (os : List O) {P : List O -> Prop} : wOb (some (.lst os)) P = P os := by walk_at "z"; first | exact jC' .. | (apply jC' <;> assumption)
theorem iJ' {c : Prop} (h : c) (A : Prop) : wC c A = A := by walk_at "z"; first | exact py' .. | (apply py' <;> assumption)
theorem vl' (A : Prop) : wC True A = A := by walk_at "z"; first | exact jG' .. | (apply jG' <;> assumption)
theorem d5' {α : Type} {c : Prop} [Decidable c] {x : α} {Q : α -> Prop} : wD (if c then some x else none) Q = wC c (Q x) := by walk_at "z"; first | exact aX' .. | (apply aX' <;> assumption)
theorem mn' {α β : Type} {f : α -> β} {o : Option α} {Q : β -> Prop} : wD (o.map f) Q = wD o (fun a => Q (f a)) := by walk_at "z"; first | exact cw' .. | (apply cw' <;> assumption)
section
variable {Q : D -> Prop} {Y : List D -> Prop}
theorem z4' (i j : Int) : wD (cI' (.int i) (.int j)) Q = Q (.int (i + j)) := by walk_at "z"; first | exact nj' .. | (apply nj' <;> assumption)
theorem z3' (a b : Tx) : wD (cI' (.str a) (.str b)) Q = o3' (a.length + b.length) (Q (.str (a ++ b))) := by walk_at "z"; first | exact nh' .. | (apply nh' <;> assumption)
theorem u2' (a b : List D) : wD (cI' (.lst a) (.lst b)) Q = o3' (a.length + b.length) (Q (.lst (a ++ b))) := by walk_at "z"; first | exact ni' .. | (apply ni' <;> assumption)
theorem z2' (a b : List D) : wD (cI' (.tup a) (.tup b)) Q = o3' (a.length + b.length) (Q (.tup (a ++ b))) := by walk_at "z"; first | exact ng' .. | (apply ng' <;> assumption)
theorem xb' (i j : Int) : wD (td' (.int i) (.int j)) Q = Q (.int (i + j)) := by walk_at "z"; first | exact jW' .. | (apply jW' <;> assumption)
theorem BN' (i j : Int) : wD (uK' (.int i) (.int j)) Q = Q (.int (i - j)) := by walk_at "z"; first | exact pJ' .. | (apply pJ' <;> assumption)
theorem B4' (i j : Int) : wD (iU' (.int i) (.int j)) Q = wC (((-18446744073709551616 < i /\ i < 18446744073709551616) \/ (-18446744073709551616 < j /\ j < 18446744073709551616)) \/ ((-2582249878086908589655919172003011874329705792829223512830659356540647622016841194629645353280137831435903171972747493376 < i /\ i < 2582249878086908589655919172003011874329705792829223512830659356540647622016841194629645353280137831435903171972747493376) /\ (-2582249878086908589655919172003011874329705792829223512830659356540647622016841194629645353280137831435903171972747493376 < j /\ j < 2582249878086908589655919172003011874329705792829223512830659356540647622016841194629645353280137831435903171972747493376))) (Q (.int (i * j))) := by walk_at "z"; first | exact pU' .. | (apply pU' <;> assumption)
theorem zJ' (a : Tx) (j : Int) : wD (iU' (.str a) (.int j)) Q = wC (j < 4611686018427387904 /\ -4611686018427387904 <= j /\ a.length * j.toNat <= 16777216) (Q (.str (List.replicate j.toNat a).flatten)) := by walk_at "z"; first | exact m4' .. | (apply m4' <;> assumption)
theorem zK' (a : List D) (j : Int) : wD (iU' (.lst a) (.int j)) Q = wC (j < 4611686018427387904 /\ -4611686018427387904 <= j /\ a.length * j.toNat <= 16777216) (Q (.lst (List.replicate j.toNat a).flatten)) := by walk_at "z"; first | exact m5' .. | (apply m5' <;> assumption)
theorem z0' (i j : Int) : wD (iV' (.int i) (.int j)) Q = wC (0 < j /\ j < 1606938044258990275541962092341162602522202993782792835301376) (Q (.int (i / j))) := by walk_at "z"; first | exact nf' .. | (apply nf' <;> assumption)
theorem B5' (i j : Int) : wD (j8' (.int i) (.int j)) Q = wC (0 < j) (Q (.int (i % j))) := by walk_at "z"; first | exact pV' .. | (apply pV' <;> assumption)
theorem BY' (i j : Int) : wD (yG' (.int i) (.int j)) Q = wC (0 <= j /\ j <= 1000 /\ -18446744073709551616 < i /\ i < 18446744073709551616) (Q (.int (i ^ j.toNat))) := by walk_at "z"; first | exact pQ' .. | (apply pQ' <;> assumption)
theorem BZ' (i : Int) : wD (Au' (.int i)) Q = Q (.int (-i)) := by walk_at "z"; first | exact pR' .. | (apply pR' <;> assumption)
theorem Cr' (i j : Int) : wD (pEq (.int i) (.int j)) Q = Q (.bl (decide (i = j))) := by walk_at "z"; first | exact qg' .. | (apply qg' <;> assumption)
theorem Cp' (i j : Tx) : wD (pEq (.str i) (.str j)) Q = Q (.bl (decide (i = j))) := by walk_at "z"; first | exact qf' .. | (apply qf' <;> assumption)
theorem Cs' (i j : Bool) : wD (pEq (.bl i) (.bl j)) Q = Q (.bl (i == j)) := by walk_at "z"; first | exact qh' .. | (apply qh' <;> assumption)
theorem DM' (x y : D) : wD (pEq x y) Q = wC (dat x = true /\ dat y = true /\ dep x <= 64 /\ dep y <= 64) (Q (.bl (eqb x y))) := by walk_at "z"; first | exact uu' .. | (apply uu' <;> assumption)
theorem B2' (i j : Int) : wD (pNe (.int i) (.int j)) Q = Q (.bl (!decide (i = j))) := by walk_at "z"; first | exact pT' .. | (apply pT' <;> assumption)
theorem B0' (i j : Tx) : wD (pNe (.str i) (.str j)) Q = Q (.bl (!decide (i = j))) := by walk_at "z"; first | exact pS' .. | (apply pS' <;> assumption)
theorem Cf' (x : D) : wD (pIs x .non) Q = Q (.bl (e3' x)) := by walk_at "z"; first | exact p8' .. | (apply p8' <;> assumption)
theorem Cg' (x y : Bool) : wD (pIs (.bl x) (.bl y)) Q = Q (.bl (x == y)) := by walk_at "z"; first | exact p9' .. | (apply p9' <;> assumption)
theorem tS' (x : D) : wD (nJ' x .non) Q = Q (.bl (!e3' x)) := by walk_at "z"; first | exact ib' .. | (apply ib' <;> assumption)
theorem tT' (x y : Bool) : wD (nJ' (.bl x) (.bl y)) Q = Q (.bl (!(x == y))) := by walk_at "z"; first | exact ic' .. | (apply ic' <;> assumption)
theorem DE' (i j : Int) : wD (pLt (.int i) (.int j)) Q = Q (.bl (decide (i < j))) := by walk_at "z"; first | exact un' .. | (apply un' <;> assumption)
theorem DF' (i j : Int) : wD (pLe (.int i) (.int j)) Q = Q (.bl (decide (i <= j))) := by walk_at "z"; first | exact uo' .. | (apply uo' <;> assumption)
theorem DG' (i j : Int) : wD (pGt (.int i) (.int j)) Q = Q (.bl (decide (j < i))) := by walk_at "z"; first | exact up' .. | (apply up' <;> assumption)
theorem DI' (i j : Int) : wD (pGe (.int i) (.int j)) Q = Q (.bl (decide (j <= i))) := by walk_at "z"; first | exact ur' .. | (apply ur' <;> assumption)
theorem B8' (i j : Tx) : wD (pLt (.str i) (.str j)) Q = Q (.bl (decide (i < j))) := by walk_at "z"; first | exact pY' .. | (apply pY' <;> assumption)
theorem B9' (i j : Tx) : wD (pLe (.str i) (.str j)) Q = Q (.bl (!decide (j < i))) := by walk_at "z"; first | exact pZ' .. | (apply pZ' <;> assumption)
theorem Cj' (i j : Tx) : wD (pGt (.str i) (.str j)) Q = Q (.bl (decide (j < i))) := by walk_at "z"; first | exact qc' .. | (apply qc' <;> assumption)
theorem Cl' (i j : Tx) : wD (pGe (.str i) (.str j)) Q = Q (.bl (!decide (i < j))) := by walk_at "z"; first | exact qe' .. | (apply qe' <;> assumption)
theorem Ci' (c : Nat) (s : Tx) : wD (pIn (.str [c]) (.str s)) Q = Q (.bl (decide (c ∈ s))) := by walk_at "z"; first | exact qb' .. | (apply qb' <;> assumption)
theorem zH' (c : Nat) (s : Tx) : wD (g2' (.str [c]) (.str s)) Q = Q (.bl (!decide (c ∈ s))) := by walk_at "z"; first | exact m3' .. | (apply m3' <;> assumption)
theorem u1' (i : Int) (ns : List Int) : wD (pIn (.int i) (.tup (ns.map .int))) Q = Q (.bl (decide (i ∈ ns))) := by walk_at "z"; first | exact nc' .. | (apply nc' <;> assumption)
theorem r0' (i : Int) (ns : List Int) : wD (pIn (.int i) (.lst (ns.map .int))) Q = Q (.bl (decide (i ∈ ns))) := by walk_at "z"; first | exact nd' .. | (apply nd' <;> assumption)
theorem zQ' (s : Tx) : wD (eD' (.str s)) Q = Q (.int s.length) := by walk_at "z"; first | exact m8' .. | (apply m8' <;> assumption)
theorem zS' (s : List D) : wD (eD' (.lst s)) Q = Q (.int s.length) := by walk_at "z"; first | exact m9' .. | (apply m9' <;> assumption)
theorem of' (s : List D) : wD (eD' (.tup s)) Q = Q (.int s.length) := by walk_at "z"; first | exact m7' .. | (apply m7' <;> assumption)
theorem Cb' (s : Tx) (i : Int) : wD (pIx (.str s) (.int i)) Q = wD (ati s i) (fun c => Q (.str [c])) := by walk_at "z"; first | exact p4' .. | (apply p4' <;> assumption)
theorem Ce' (s : List D) (i : Int) : wD (pIx (.lst s) (.int i)) Q = wD (ati s i) Q := by walk_at "z"; first | exact p6' .. | (apply p6' <;> assumption)
theorem w5' (s : List D) (i : Int) : wD (pIx (.tup s) (.int i)) Q = wD (ati s i) Q := by walk_at "z"; first | exact p3' .. | (apply p3' <;> assumption)
theorem BR' (s : Tx) (lo hi : Option Int) : wD (pSl (.str s) lo hi) Q = Q (.str (cut s lo hi)) := by walk_at "z"; first | exact pL' .. | (apply pL' <;> assumption)
theorem BT' (s : List D) (lo hi : Option Int) : wD (pSl (.lst s) lo hi) Q = Q (.lst (cut s lo hi)) := by walk_at "z"; first | exact pN' .. | (apply pN' <;> assumption)
theorem BQ' (s : List D) (lo hi : Option Int) : wD (pSl (.tup s) lo hi) Q = Q (.tup (cut s lo hi)) := by walk_at "z"; first | exact pK' .. | (apply pK' <;> assumption)
theorem BS' (s : List D) (lo hi : Option Int) : wD (pSl (.scr s) lo hi) Q = Q (.lst (cut s lo hi)) := by walk_at "z"; first | exact pM' .. | (apply pM' <;> assumption)
theorem zD' (s : Tx) : wD (At' (.str s)) Q = Q (.str s.reverse) := by walk_at "z"; first | exact mZ' .. | (apply mZ' <;> assumption)
theorem zE' (s : List D) : wD (At' (.lst s)) Q = Q (.lst s.reverse) := by walk_at "z"; first | exact m0' .. | (apply m0' <;> assumption)
theorem zU' (l : List Tx) : wD (lI' [] [.lst (l.map .str)]) Q = o3' (l.map List.length).sum (Q (.str l.flatten)) := by walk_at "z"; first | exact iK' .. | (apply iK' <;> assumption)
theorem w3' (l : Tx) : wD (lI' [] [.lst (l.map chD)]) Q = o3' l.length (Q (.str l)) := by walk_at "z"; first | exact jU' .. | (apply jU' <;> assumption)
theorem zZ' (a b : Tx) : wD (rt' a [.str b]) Q = Q (.int (fnd (n4' a b))) := by walk_at "z"; first | exact ne' .. | (apply ne' <;> assumption)
theorem w8' (a b : Tx) : wD (kl' a [.str b]) Q = wD (n4' a b) (fun i => Q (.int (i : Nat))) := by walk_at "z"; first | exact jV' .. | (apply jV' <;> assumption)
theorem wL' (s : Tx) : wD (uJ' (.str s)) Q = wC (s.all (fun c => decide (c < 128)) = true /\ s.length <= 5592405) (Q (.str (s.map up1))) := by walk_at "z"; first | exact jM' .. | (apply jM' <;> assumption)
theorem Ch' (i : Int) : wD (in' (.int i)) Q = Q (.int i) := by walk_at "z"; first | exact qa' .. | (apply qa' <;> assumption)
theorem zX' (b : Bool) : wD (in' (.bl b)) Q = Q (.int (if b then 1 else 0)) := by walk_at "z"; first | exact nb' .. | (apply nb' <;> assumption)
theorem CA' (i : Int) : wD (Ax' (.int i)) Q = Q (.int (if i < 0 then -i else i)) := by walk_at "z"; first | exact qo' .. | (apply qo' <;> assumption)
theorem B7' (i j : Int) : wD (rb' (.int i) (.int j)) Q = Q (.int (max i j)) := by walk_at "z"; first | exact pX' .. | (apply pX' <;> assumption)
theorem B6' (i j : Int) : wD (oC' (.int i) (.int j)) Q = Q (.int (min i j)) := by walk_at "z"; first | exact pW' .. | (apply pW' <;> assumption)
theorem u0' (s : List D) : wD (bK' (.lst s)) Q = Q (.tup s) := by walk_at "z"; first | exact mU' .. | (apply mU' <;> assumption)
theorem zy' (s : List D) : wD (bK' (.tup s)) Q = Q (.tup s) := by walk_at "z"; first | exact mT' .. | (apply mT' <;> assumption)
theorem wX' (s : List D) : wD (eS' (.lst s)) Q = Q (.lst s) := by walk_at "z"; first | exact jR' .. | (apply jR' <;> assumption)
theorem wV' (s : List D) : wD (eS' (.tup s)) Q = Q (.lst s) := by walk_at "z"; first | exact jQ' .. | (apply jQ' <;> assumption)
theorem wO' (s : Tx) : wD (cF' (.str s)) Q = wC (s.length < 64) (Q (.lst ((bY' s).map chD))) := by walk_at "z"; first | exact jN' .. | (apply jN' <;> assumption)
theorem bt' (t : String) (d : D) : wD (cq' t d) Q = wD (tyn d) (fun n => Q (.bl (n == t || (n == "bool" && t == "int")))) := by walk_at "z"; first | exact p7' .. | (apply p7' <;> assumption)
theorem BM' (l : List Int) : wD (CW' (.lst (l.map .int))) Q = Q (.int l.sum) := by walk_at "z"; first | exact pI' .. | (apply pI' <;> assumption)
theorem Cz' (l : List Bool) : wD (CY' (.lst (l.map .bl))) Q = Q (.bl (l.all id)) := by walk_at "z"; first | exact qn' .. | (apply qn' <;> assumption)
theorem Cy' (l : List Bool) : wD (CX' (.lst (l.map .bl))) Q = Q (.bl (l.any id)) := by walk_at "z"; first | exact qm' .. | (apply qm' <;> assumption)
theorem zC' (s : List D) : wD (ei' (.lst s)) Y = Y s := by walk_at "z"; first | exact mY' .. | (apply mY' <;> assumption)
theorem oc' (s : List D) : wD (ei' (.tup s)) Y = Y s := by walk_at "z"; first | exact mW' .. | (apply mW' <;> assumption)
theorem zB' (s : Tx) : wD (ei' (.str s)) Y = Y (s.map chD) := by walk_at "z"; first | exact mX' .. | (apply mX' <;> assumption)
theorem BX' (j : Int) : wD (fC' (.int j)) Y = wC (-4611686018427387904 <= j /\ j < 4611686018427387904) (Y (rgI 0 j.toNat)) := by walk_at "z"; first | exact pP' .. | (apply pP' <;> assumption)
theorem BW' (i j : Int) : wD (ra' (.int i) (.int j)) Y = wC ((-4611686018427387904 <= i /\ i < 4611686018427387904) /\ (-4611686018427387904 <= j /\ j < 4611686018427387904)) (Y (rgI i (j - i).toNat)) := by walk_at "z"; first | exact pO' .. | (apply pO' <;> assumption)
theorem zs' (a b : Tx) : wD (sk' (.str a) (.str b)) Y = Y (dq' (a.map chD) (b.map chD)) := by walk_at "z"; first | exact mQ' .. | (apply mQ' <;> assumption)
theorem zw' (a b : List D) : wD (sk' (.lst a) (.lst b)) Y = Y (dq' a b) := by walk_at "z"; first | exact mS' .. | (apply mS' <;> assumption)
theorem zr' (a b : List D) : wD (sk' (.tup a) (.tup b)) Y = Y (dq' a b) := by walk_at "z"; first | exact mP' .. | (apply mP' <;> assumption)
theorem zu' (a : Tx) (b : List D) : wD (CO' (.str a) (.tup b)) Y = Y (dq' (a.map chD) b) := by walk_at "z"; first | exact mR' .. | (apply mR' <;> assumption)
theorem Ct' (a : Tx) : wD (enB (.str a)) Y = Y (eu' 0 (a.map chD)) := by walk_at "z"; first | exact qi' .. | (apply qi' <;> assumption)
theorem Cu' (a : List D) : wD (enB (.lst a)) Y = Y (eu' 0 a) := by walk_at "z"; first | exact qj' .. | (apply qj' <;> assumption)
theorem wT' (a : List D) : wD (Ar' (.lst a)) Y = Y a.reverse := by walk_at "z"; first | exact jP' .. | (apply jP' <;> assumption)
theorem wS' (a : List D) : wD (Ar' (.tup a)) Y = Y a.reverse := by walk_at "z"; first | exact jO' .. | (apply jO' <;> assumption)
theorem zN' (j : Int) : wD (eR' (.int j)) Q = wC (RgB 0 j = true) (Q (.lst (e5' 0 j))) := by walk_at "z"; first | exact m6' .. | (apply m6' <;> assumption)
theorem DK' (i : Nat) (d : D) (env : List (Option O)) (w : W) {N : PSt -> Prop} : wD (gN i d ⟨env, w⟩) N = t8' i env.length (N ⟨env.set i (some (.fz d)), w⟩) := by walk_at "z"; first | exact ut' .. | (apply ut' <;> assumption)
theorem DJ' (is : List Nat) (ds : List D) (ρ : PSt) {N : PSt -> Prop} : wD (gT is (.tup ds) ρ) N = wD (gNs is ds ρ) N := by walk_at "z"; first | exact us' .. | (apply us' <;> assumption)
theorem Ck' (ρ : PSt) {N : PSt -> Prop} : wD (gNs [] [] ρ) N = N ρ := by walk_at "z"; first | exact qd' .. | (apply qd' <;> assumption)
theorem DH' (i : Nat) (is : List Nat) (d : D) (ds : List D) (ρ : PSt) {N : PSt -> Prop} : wD (gNs (i :: is) (d :: ds) ρ) N = wD (gN i d ρ) (fun ρ1 => wD (gNs is ds ρ1) N) := by walk_at "z"; first | exact uq' .. | (apply uq' <;> assumption)
theorem Ca' (w : W) (n : Nat) (k : D) : wD (ixW w (.obj n) k) Q = wOb w[n]? (fun os => wD (ixO (.lst os) k) Q) := by walk_at "z"; first | exact p0' .. | (apply p0' <;> assumption)
theorem Cc' (os : List O) (i : Int) : wD (ixO (.lst os) (.int i)) Q = wD (ati os i) (fun o => wD (asF o) Q) := by walk_at "z"; first | exact p5' .. | (apply p5' <;> assumption)
theorem Cx' (d : D) : wD (asF (.fz d)) Q = Q d := by walk_at "z"; first | exact ql' .. | (apply ql' <;> assumption)
theorem Cw' (d : List D) {Q : List D -> Prop} : wD (asL (.lst d)) Q = Q d := by walk_at "z"; first | exact qk' .. | (apply qk' <;> assumption)
theorem zV' (d k : D) : wD (ixO (.fz d) k) Q = wD (pIx d k) Q := by walk_at "z"; first | exact na' .. | (apply na' <;> assumption)
theorem zA' (w : W) (n : Nat) (z : Int) (d : D) {N : W -> Prop} : wD (sJ' w (.obj n) (.int z) d) N = wOb w[n]? (fun os => wD (ixn os.length z) (fun j => N (w.set n (.lst (os.set j (.fz d)))))) := by walk_at "z"; first | exact mV' .. | (apply mV' <;> assumption)
theorem wZ' (os : List O) : wD (o6' (.lst os)) Q = Q (.int os.length) := by walk_at "z"; first | exact jS' .. | (apply jS' <;> assumption)
theorem w0' (d : D) : wD (o6' (.fz d)) Q = wD (eD' d) Q := by walk_at "z"; first | exact jT' .. | (apply jT' <;> assumption)
end
theorem l2'  {Q : D -> Prop} : wD (cq' "int" .non) Q = Q (.bl false) := by rw [bt', au']; rfl
theorem oQ' (a : Bool) {Q : D -> Prop} : wD (cq' "int" (.bl a)) Q = Q (.bl true) := by rw [bt', au']; rfl
theorem l4' (a : Int) {Q : D -> Prop} : wD (cq' "int" (.int a)) Q = Q (.bl true) := by rw [bt', au']; rfl
theorem l1' (a : Tx) {Q : D -> Prop} : wD (cq' "int" (.str a)) Q = Q (.bl false) := by rw [bt', au']; rfl
theorem l0' (a : List D) {Q : D -> Prop} : wD (cq' "int" (.tup a)) Q = Q (.bl false) := by rw [bt', au']; rfl
theorem l3' (a : List D) {Q : D -> Prop} : wD (cq' "int" (.lst a)) Q = Q (.bl false) := by rw [bt', au']; rfl
theorem l5' (a b : List D) {Q : D -> Prop} : wD (cq' "int" (.dct a b)) Q = Q (.bl false) := by rw [bt', au']; rfl
theorem kW'  {Q : D -> Prop} : wD (cq' "bool" .non) Q = Q (.bl false) := by rw [bt', au']; rfl
theorem l7' (a : Bool) {Q : D -> Prop} : wD (cq' "bool" (.bl a)) Q = Q (.bl true) := by rw [bt', au']; rfl
theorem kY' (a : Int) {Q : D -> Prop} : wD (cq' "bool" (.int a)) Q = Q (.bl false) := by rw [bt', au']; rfl
theorem kV' (a : Tx) {Q : D -> Prop} : wD (cq' "bool" (.str a)) Q = Q (.bl false) := by rw [bt', au']; rfl
theorem kU' (a : List D) {Q : D -> Prop} : wD (cq' "bool" (.tup a)) Q = Q (.bl false) := by rw [bt', au']; rfl
theorem kX' (a : List D) {Q : D -> Prop} : wD (cq' "bool" (.lst a)) Q = Q (.bl false) := by rw [bt', au']; rfl
theorem kZ' (a b : List D) {Q : D -> Prop} : wD (cq' "bool" (.dct a b)) Q = Q (.bl false) := by rw [bt', au']; rfl
theorem lV'  {Q : D -> Prop} : wD (cq' "str" .non) Q = Q (.bl false) := by rw [bt', au']; rfl
theorem oP' (a : Bool) {Q : D -> Prop} : wD (cq' "str" (.bl a)) Q = Q (.bl false) := by rw [bt', au']; rfl
theorem lX' (a : Int) {Q : D -> Prop} : wD (cq' "str" (.int a)) Q = Q (.bl false) := by rw [bt', au']; rfl
theorem lU' (a : Tx) {Q : D -> Prop} : wD (cq' "str" (.str a)) Q = Q (.bl true) := by rw [bt', au']; rfl
theorem lT' (a : List D) {Q : D -> Prop} : wD (cq' "str" (.tup a)) Q = Q (.bl false) := by rw [bt', au']; rfl
theorem lW' (a : List D) {Q : D -> Prop} : wD (cq' "str" (.lst a)) Q = Q (.bl false) := by rw [bt', au']; rfl
theorem lY' (a b : List D) {Q : D -> Prop} : wD (cq' "str" (.dct a b)) Q = Q (.bl false) := by rw [bt', au']; rfl
theorem ji'  {Q : D -> Prop} : wD (cq' "tuple" .non) Q = Q (.bl false) := by rw [bt', au']; rfl
theorem kH' (a : Bool) {Q : D -> Prop} : wD (cq' "tuple" (.bl a)) Q = Q (.bl false) := by rw [bt', au']; rfl
theorem jk' (a : Int) {Q : D -> Prop} : wD (cq' "tuple" (.int a)) Q = Q (.bl false) := by rw [bt', au']; rfl
theorem jh' (a : Tx) {Q : D -> Prop} : wD (cq' "tuple" (.str a)) Q = Q (.bl false) := by rw [bt', au']; rfl
theorem jg' (a : List D) {Q : D -> Prop} : wD (cq' "tuple" (.tup a)) Q = Q (.bl true) := by rw [bt', au']; rfl
theorem jj' (a : List D) {Q : D -> Prop} : wD (cq' "tuple" (.lst a)) Q = Q (.bl false) := by rw [bt', au']; rfl
theorem jl' (a b : List D) {Q : D -> Prop} : wD (cq' "tuple" (.dct a b)) Q = Q (.bl false) := by rw [bt', au']; rfl
theorem kK'  {Q : D -> Prop} : wD (cq' "list" .non) Q = Q (.bl false) := by rw [bt', au']; rfl
theorem lZ' (a : Bool) {Q : D -> Prop} : wD (cq' "list" (.bl a)) Q = Q (.bl false) := by rw [bt', au']; rfl
theorem kM' (a : Int) {Q : D -> Prop} : wD (cq' "list" (.int a)) Q = Q (.bl false) := by rw [bt', au']; rfl
theorem kJ' (a : Tx) {Q : D -> Prop} : wD (cq' "list" (.str a)) Q = Q (.bl false) := by rw [bt', au']; rfl
theorem kI' (a : List D) {Q : D -> Prop} : wD (cq' "list" (.tup a)) Q = Q (.bl false) := by rw [bt', au']; rfl
theorem kL' (a : List D) {Q : D -> Prop} : wD (cq' "list" (.lst a)) Q = Q (.bl true) := by rw [bt', au']; rfl
theorem kN' (a b : List D) {Q : D -> Prop} : wD (cq' "list" (.dct a b)) Q = Q (.bl false) := by rw [bt', au']; rfl
theorem kQ'  {Q : D -> Prop} : wD (cq' "dict" .non) Q = Q (.bl false) := by rw [bt', au']; rfl
theorem l6' (a : Bool) {Q : D -> Prop} : wD (cq' "dict" (.bl a)) Q = Q (.bl false) := by rw [bt', au']; rfl
theorem kS' (a : Int) {Q : D -> Prop} : wD (cq' "dict" (.int a)) Q = Q (.bl false) := by rw [bt', au']; rfl
theorem kP' (a : Tx) {Q : D -> Prop} : wD (cq' "dict" (.str a)) Q = Q (.bl false) := by rw [bt', au']; rfl
theorem kO' (a : List D) {Q : D -> Prop} : wD (cq' "dict" (.tup a)) Q = Q (.bl false) := by rw [bt', au']; rfl
theorem kR' (a : List D) {Q : D -> Prop} : wD (cq' "dict" (.lst a)) Q = Q (.bl false) := by rw [bt', au']; rfl
theorem kT' (a b : List D) {Q : D -> Prop} : wD (cq' "dict" (.dct a b)) Q = Q (.bl true) := by rw [bt', au']; rfl
theorem og' (l : List Int) (v : Int) {Q : D -> Prop} : wD (rs' (l.map .int) [.int v]) Q = wC (v ∈ l) (Q (.int (l.idxOf v : Nat))) := by
  show wD ((bs' (l.map .int)).bind fun ns => if v ∈ ns then some (D.int ((ns.idxOf v : Nat) : Int)) else none) Q = _
  rw [lO', Option.bind_some, d5']
theorem xQ' {p : Prop} [Decidable p] (h : p) (A B : Prop) : wI (decide p) A B = A := by rw [decide_eq_true h]; exact xm' A B
theorem A0' {p : Prop} [Decidable p] (h : ¬ p) (A B : Prop) : wI (decide p) A B = B := by rw [decide_eq_false h]; exact xS' A B
theorem AC' {b : Bool} (h : b = true) : O.fz (.bl true) = O.fz (.bl b) := by rw [h]
theorem AD' {b : Bool} (h : b = false) : O.fz (.bl false) = O.fz (.bl b) := by rw [h]
theorem xh' {α β : Type} (f : α -> β) (l : List α) (i : Int) : ati (l.map f) i = (ati l i).map f := by
  unfold ati
  rw [List.length_map]
  cases ixn l.length i with
  | none => rfl
  | some j => simp
theorem bQ' {α : Type} {xs : List α} {i : Nat} {Q : α -> Prop} (h : i < xs.length) (k : ∀ x, x ∈ xs -> xs[i]? = some x -> Q x) : wD xs[i]? Q := by
  rw [List.getElem?_eq_getElem h, a7']
  exact k _ (List.getElem_mem h) (List.getElem?_eq_getElem h)
theorem bv' {α : Type} {l : List α} {i : Nat} {x : α} (h : l[i]? = some x) : i < l.length := (List.getElem?_eq_some_iff.mp h).1
def But (n : Nat) (w w' : W) : Prop := w'.length = w.length /\ ∀ j, j ≠ n -> w'[j]? = w[j]?
theorem But.refl {n : Nat} {w : W} : But n w w := ⟨rfl, fun _ _ => rfl⟩
theorem But.trans {n : Nat} {w w1 w2 : W} (a : But n w w1) (b : But n w1 w2) : But n w w2 := ⟨b.1.trans a.1, fun j h => (b.2 j h).trans (a.2 j h)⟩
theorem But.set {n : Nat} {w w1 : W} {o : Ob} (a : But n w w1) : But n w (w1.set n o) := ⟨by rw [List.length_set]; exact a.1, fun j h => by rw [List.getElem?_set_ne (Ne.symm h)]; exact a.2 j h⟩
theorem tn1 (d : Nat) : ((d : Int) + 1).toNat = d + 1 := rfl
theorem Ae' (l : List D) (d : D) : l.map O.fz ++ [O.fz d] = (l ++ [d]).map O.fz := by simp
theorem wD' (l : List D) : frz (.lst (l.map .fz)) = .lst l := by simp [frz]
theorem vk' {k : Bool} {A B : Prop} (h1 : k = true -> A) (h2 : k = false -> B) : wI k A B := by
  cases k
  . rw [xS']; exact h2 rfl
  . rw [xm']; exact h1 rfl
theorem dr' {k : Bool} {a b : Out} {N bk ct : PSt -> Prop} {rt : O -> W -> Prop} {ex : Exc -> PSt -> Prop} (J : PSt -> Prop) (h : wI k (wS a ⟨J, rt, bk, ct, ex⟩) (wS b ⟨J, rt, bk, ct, ex⟩)) (hk : ∀ ρ, J ρ -> N ρ) : wI k (wS a ⟨N, rt, bk, ct, ex⟩) (wS b ⟨N, rt, bk, ct, ex⟩) := by
  cases k
  . rw [xS'] at *
    exact wS.mono h hk (fun _ _ h => h) (fun _ h => h) (fun _ h => h) (fun _ _ h => h)
  . rw [xm'] at *
    exact wS.mono h hk (fun _ _ h => h) (fun _ h => h) (fun _ h => h) (fun _ _ h => h)
def cW' (w : W) (n : Nat) : Prop := ∃ (cells : List Int) (i b s c : Int), w[n]? = some (.lst [.fz (.lst (cells.map .int)), .fz (.int i), .fz (.int b), .fz (.int s), .fz (.int c)]) /\ 0 <= i
theorem xJ' (A : Prop) : vX (some (some .exn)) A = A := rfl
end M
namespace M
mutual
theorem n8' : ∀ (d : D), dat d = true -> eqb d d = true
  | .non, _ => rfl
  | .bl b, _ => by simp [eqb]
  | .int i, _ => by simp [eqb]
  | .str s, _ => by simp [eqb]
  | .tup ds, h => by simp only [eqb]; exact eqbs_refl ds (by simpa [dat] using h)
  | .lst ds, h => by simp only [eqb]; exact eqbs_refl ds (by simpa [dat] using h)
theorem eqbs_refl : ∀ (ds : List D), dats ds = true -> eqbs ds ds = true
  | [], _ => rfl
  | d :: r, h => by
    simp only [dats, Bool.and_eq_true] at h
    simp only [eqbs, n8' d h.1, eqbs_refl r h.2, Bool.and_self]
end
theorem tV' (x : D) (h : dat x = true) (h2 : dep x <= 64) {Q : D -> Prop} : wD (pEq x x) Q = Q (.bl true) := by
  rw [DM', iJ' ⟨h, h, h2, h2⟩, n8' x h]
def cK' (r : List Nat) : D := .tup (r.map fun t => .int (t : Nat))
def cr' (T : List (List Nat)) : D := .tup (T.map cK')
def c2' (A : List Nat) : D := .tup (A.map fun a => .int (a : Nat))
def a5' (T : List (List Nat)) (size many : Nat) : Prop := T.length = size /\ ∀ r ∈ T, r.length = many /\ ∀ t ∈ r, t < size
abbrev abc : Tx := [97, 98, 99, 100, 101, 102, 103, 104, 105, 106, 107, 108, 109, 110, 111, 112, 113, 114, 115, 116, 117, 118, 119, 120, 121, 122]
theorem rp' {c : Nat} : c ∈ abc ↔ 97 <= c /\ c <= 122 := by
  simp only [List.mem_cons, List.not_mem_nil, or_false]
  omega
structure LetOk (L : Tx) (most : Nat) : Prop where
  ne : 1 <= L.length
  le : L.length <= most
  asc : L.Pairwise (· < ·)
  abc : ∀ c ∈ L, 97 <= c /\ c <= 122
structure AccOk (A : List Nat) (size : Nat) : Prop where
  asc : A.Pairwise (· < ·)
  lt : ∀ a ∈ A, a < size
structure MacOk (L : Tx) (T : List (List Nat)) (A : List Nat) (most states : Nat) : Prop where
  let' : LetOk L most
  tab : a5' T T.length L.length
  ne : 1 <= T.length
  le : T.length <= states
  acc : AccOk A T.length
theorem w4' (T : List (List Nat)) (s : Nat) {Q : D -> Prop} : wD (pIx (cr' T) (.int (s : Nat))) Q = wD T[s]? (fun r => Q (cK' r)) := by
  unfold cr'
  rw [w5', k8' (by omega), List.getElem?_map, mn', Int.toNat_natCast]
theorem w6' (r : List Nat) (s : Nat) {Q : D -> Prop} : wD (pIx (cK' r) (.int (s : Nat))) Q = wD r[s]? (fun t => Q (.int (t : Nat))) := by
  unfold cK'
  rw [w5', k8' (by omega), List.getElem?_map, mn', Int.toNat_natCast]
theorem r1' (A : List Nat) (s : Nat) {Q : D -> Prop} : wD (pIn (.int (s : Nat)) (c2' A)) Q = Q (.bl (decide (s ∈ A))) := by
  unfold c2'
  have := u1' (Q := Q) (s : Int) (A.map (Nat.cast : Nat -> Int))
  rw [List.map_map] at this
  rw [show (A.map fun a => D.int (a : Nat)) = A.map (D.int ∘ (Nat.cast : Nat -> Int)) from rfl, this]
  congr 2
  simp only [List.mem_map, decide_eq_decide]
  constructor
  . rintro ⟨a, h, e⟩
    have : a = s := by omega
    exact this ▸ h
  . exact fun h => ⟨s, h, rfl⟩
theorem tP' (T : List (List Nat)) {Q : D -> Prop} : wD (eD' (cr' T)) Q = Q (.int T.length) := by
  unfold cr'
  rw [of', List.length_map]
theorem tQ' (T : List Nat) {Q : D -> Prop} : wD (eD' (cK' T)) Q = Q (.int T.length) := by
  unfold cK'
  rw [of', List.length_map]
theorem tR' (T : List Nat) {Q : D -> Prop} : wD (eD' (c2' T)) Q = Q (.int T.length) := by
  unfold c2'
  rw [of', List.length_map]
theorem n1' (v : Nat) : ∀ l : List Nat, (l.map (Nat.cast : Nat -> Int)).idxOf (v : Int) = l.idxOf v
  | [] => rfl
  | a :: l => by
    simp only [List.map_cons, List.idxOf_cons, n1' v l]
    have : ((a : Int) == (v : Int)) = (a == v) := by rw [Bool.eq_iff_iff]; simp; omega
    rw [this]
theorem tU' (l : List Nat) (v : Nat) {Q : D -> Prop} : wD (rs' (l.map fun s => .int (s : Nat)) [.int (v : Nat)]) Q = wC (v ∈ l) (Q (.int (l.idxOf v : Nat))) := by
  have h := og' (Q := Q) (l.map (Nat.cast : Nat -> Int)) (v : Int)
  rw [List.map_map, n1'] at h
  rw [show (l.map fun s => D.int (s : Nat)) = l.map (D.int ∘ (Nat.cast : Nat -> Int)) from rfl, h]
  congr 1
  simp only [List.mem_map]
  rw [eq_iff_iff]
  constructor
  . rintro ⟨a, h, e⟩
    have : a = v := by omega
    exact this ▸ h
  . exact fun h => ⟨v, h, rfl⟩
theorem tC' (i : Nat) : fnd (some i) = (i : Int) := rfl
theorem n0' (a : Tx) (c : Nat) (i : Nat) : uS' a [c] i = decide (a[i]? = some c) := by
  unfold uS'
  rw [Bool.eq_iff_iff]
  simp only [Bool.and_eq_true, decide_eq_true_eq, List.length_cons, List.length_nil]
  constructor
  . rintro ⟨h1, h2⟩
    rw [List.take_one, List.head?_drop] at h2
    revert h2
    cases a[i]? <;> simp
  . intro h
    have := (List.getElem?_eq_some_iff.mp h).1
    refine ⟨by omega, ?_⟩
    rw [List.take_one, List.head?_drop, h]
    rfl
theorem n3' {a : Tx} {c : Nat} (h : c ∈ a) : n4' a [c] = some (a.idxOf c) := by
  unfold n4'
  rw [List.find?_range_eq_some]
  have hi : a.idxOf c < a.length := List.idxOf_lt_length_iff.mpr h
  refine ⟨?_, by simp; omega, ?_⟩
  . rw [n0', decide_eq_true_iff, List.getElem?_eq_getElem hi, List.getElem_idxOf]
  . intro j hj
    rw [n0']
    simp only [Bool.not_eq_eq_eq_not, Bool.not_true, decide_eq_false_iff_not]
    intro e
    obtain ⟨hl, e⟩ := List.getElem?_eq_some_iff.mp e
    have := List.not_of_lt_findIdx (p := (· == c)) (xs := a) hj
    simp [e] at this
def stp (L : Tx) (T : List (List Nat)) (s c : Nat) : Nat := (((T[s]?).getD [])[L.idxOf c]?).getD 0
def run (L : Tx) (T : List (List Nat)) (s : Nat) (x : Tx) : Nat := x.foldl (stp L T) s
theorem gM' {L : Tx} {T : List (List Nat)} (h : a5' T T.length L.length) {s c : Nat} (hs : s < T.length) (hc : c ∈ L) : ∃ r, T[s]? = some r /\ r[L.idxOf c]? = some (stp L T s c) /\ stp L T s c < T.length := by
  have hr := h.2 T[s] (List.getElem_mem hs)
  have hi : L.idxOf c < T[s].length := by rw [hr.1]; exact List.idxOf_lt_length_iff.mpr hc
  have e : stp L T s c = T[s][L.idxOf c] := by
    unfold stp
    rw [List.getElem?_eq_getElem hs, Option.getD_some, List.getElem?_eq_getElem hi, Option.getD_some]
  exact ⟨T[s], List.getElem?_eq_getElem hs, by rw [e, List.getElem?_eq_getElem hi], by rw [e]; exact hr.2 _ (List.getElem_mem hi)⟩
theorem qK' {L T s} : run L T s [] = s := rfl
theorem iQ' {L T s x c} : run L T s (x ++ [c]) = stp L T (run L T s x) c := by unfold run; rw [List.foldl_append]; rfl
theorem ch' {L T s x y} : run L T s (x ++ y) = run L T (run L T s x) y := by unfold run; rw [List.foldl_append]
theorem eP' {L T s c x} : run L T s (c :: x) = run L T (stp L T s c) x := rfl
theorem nz' {L : Tx} {T : List (List Nat)} (h : a5' T T.length L.length) {s : Nat} (hs : s < T.length) : ∀ {x : Tx}, (∀ c ∈ x, c ∈ L) -> run L T s x < T.length := by
  intro x
  induction x generalizing s with
  | nil => intro _; exact hs
  | cons c x ih =>
    intro hx
    obtain ⟨_, _, _, h3⟩ := gM' h hs (hx c (by simp))
    exact ih h3 (fun d hd => hx d (by simp [hd]))
def BF' (L : Tx) (T : List (List Nat)) (A : List Nat) : Ob := .ins "Machine" [("kept_letters", .fz (.str L)), ("kept_table", .fz (cr' T)), ("kept_accepts", .fz (c2' A)), ("kept_least", .fz .non), ("kept_field", .fz .non), ("kept_lots", .dct [] []), ("kept_more", .dct [] [])]
structure Mac (w : W) (m : Nat) (L : Tx) (T : List (List Nat)) (A : List Nat) : Prop where
  fl : ∀ cs, "Machine" ∈ cs -> hu' cs "kept_letters" w (.obj m) = some (.str L)
  ft : ∀ cs, "Machine" ∈ cs -> hu' cs "kept_table" w (.obj m) = some (cr' T)
  fa : ∀ cs, "Machine" ∈ cs -> hu' cs "kept_accepts" w (.obj m) = some (c2' A)
theorem Mac.new {w : W} {m : Nat} {L T A} (h : w[m]? = some (BF' L T A)) : Mac w m L T A := by
  refine ⟨fun cs hc => ?_, fun cs hc => ?_, fun cs hc => ?_⟩
  all_goals simp [hu', h, BF', hc, List.lookup]
theorem Mac.but {w w' : W} {m n : Nat} {L T A} (h : Mac w m L T A) (hb : But n w w') (hn : m ≠ n) : Mac w' m L T A := by
  refine ⟨fun cs hc => ?_, fun cs hc => ?_, fun cs hc => ?_⟩
  . have := h.fl cs hc; simpa only [hu', hb.2 m hn] using this
  . have := h.ft cs hc; simpa only [hu', hb.2 m hn] using this
  . have := h.fa cs hc; simpa only [hu', hb.2 m hn] using this
theorem Mac.snoc {w : W} {m : Nat} {L T A} {o : Ob} (h : Mac w m L T A) (hn : m < w.length) : Mac (w ++ [o]) m L T A := by
  have e : (w ++ [o])[m]? = w[m]? := List.getElem?_append_left hn
  refine ⟨fun cs hc => ?_, fun cs hc => ?_, fun cs hc => ?_⟩
  . have := h.fl cs hc; simpa only [hu', e] using this
  . have := h.ft cs hc; simpa only [hu', e] using this
  . have := h.fa cs hc; simpa only [hu', e] using this
theorem cW'.snoc {w : W} {n : Nat} {o : Ob} (h : cW' w n) : cW' (w ++ [o]) n := by
  obtain ⟨c, i, b, s, k, e, hi⟩ := h
  exact ⟨c, i, b, s, k, by rw [List.getElem?_append_left (bv' e)]; exact e, hi⟩
theorem Mac.made {w : W} {L T A} : Mac (w ++ [BF' L T A]) w.length L T A := Mac.new (by rw [List.getElem?_append_right (by omega), Nat.sub_self]; rfl)
end M
namespace M
theorem wD.mono {α : Type} {o : Option α} {Q Q' : α -> Prop} (h : wD o Q) (k : ∀ a, Q a -> Q' a) : wD o Q' := by
  rw [au'] at *
  cases o with
  | none => exact h
  | some a => exact k a h
theorem rF' {own : List Nat} {g : MG} {t : MT} {e : ME} {γ : Type} {f : γ -> D} {cs : List γ} {Q : List D -> PSt -> Prop} {X : Exc -> PSt -> Prop} {env : List (Option O)} {w : W} (p : γ -> Bool) (v : γ -> D) (hl : cs.length <= 16777216)
    (step : ∀ c ∈ cs, wD (g (f c) ⟨aF' own env, w⟩) fun ρ1 => wE (t ρ1) (fun k ρ2 => k = p c /\ ρ2.w = w /\ aF' own ρ2.env = aF' own env /\ (p c = true -> wE (e ρ2) (fun y ρ3 => y = v c /\ ρ3.w = w /\ aF' own ρ3.env = aF' own env) PX)) PX)
    (hend : ∀ env2, aF' own env2 = aF' own env -> Q ((cs.filter p).map v) ⟨env2, w⟩) : wE (lcL own g t e (cs.map f) [] ⟨env, w⟩) Q X := by
  refine iq' hl (fun pre acc ρ => acc = (pre.filter p).map v /\ ρ.w = w /\ aF' own ρ.env = aF' own env) ⟨rfl, rfl, rfl⟩ ?_ ?_
  . rintro pre c post acc ρ ec ⟨rfl, hw, he⟩
    have s := step c (by rw [ec]; simp)
    rw [he, hw]
    refine s.mono fun ρ1 s => ?_
    refine s.mono ?_ (fun _ _ z => z)
    rintro k ρ2 ⟨rfl, h1, h2, h3⟩
    cases hp : p c with
    | false =>
      rw [xS']
      exact ⟨by simp [hp], h1, h2⟩
    | true =>
      rw [xm']
      refine (h3 hp).mono ?_ (fun _ _ z => z)
      rintro y ρ3 ⟨rfl, h4, h5⟩
      exact ⟨by simp [hp], h4, h5⟩
  . rintro acc ⟨env2, w2⟩ ⟨rfl, hw, he⟩
    simp only at hw he
    subst hw
    exact hend env2 he
theorem d8' {own : List Nat} {g : MG} {t : MT} {e : ME} {γ : Type} {f : γ -> D} {cs : List γ} {Q : List D -> PSt -> Prop} {X : Exc -> PSt -> Prop} {env : List (Option O)} {w : W} (v : γ -> D) (hl : cs.length <= 16777216)
    (step : ∀ c ∈ cs, wD (g (f c) ⟨aF' own env, w⟩) fun ρ1 => wE (t ρ1) (fun k ρ2 => k = true /\ wE (e ρ2) (fun y ρ3 => y = v c /\ ρ3.w = w /\ aF' own ρ3.env = aF' own env) PX) PX)
    (hend : ∀ env2, aF' own env2 = aF' own env -> Q (cs.map v) ⟨env2, w⟩) : wE (lcL own g t e (cs.map f) [] ⟨env, w⟩) Q X := by
  refine iq' hl (fun pre acc ρ => acc = pre.map v /\ ρ.w = w /\ aF' own ρ.env = aF' own env) ⟨rfl, rfl, rfl⟩ ?_ ?_
  . rintro pre c post acc ρ ec ⟨rfl, hw, he⟩
    have s := step c (by rw [ec]; simp)
    rw [he, hw]
    refine s.mono fun ρ1 s => ?_
    refine s.mono ?_ (fun _ _ z => z)
    rintro k ρ2 ⟨rfl, h3⟩
    rw [xm']
    refine h3.mono ?_ (fun _ _ z => z)
    rintro y ρ3 ⟨rfl, h4, h5⟩
    exact ⟨by simp, h4, h5⟩
  . rintro acc ⟨env2, w2⟩ ⟨rfl, hw, he⟩
    simp only at hw he
    subst hw
    exact hend env2 he
theorem lM' {own : List Nat} {g : MG} {t : MT} {e : ME} {lo : Int} {n : Nat} {Q : List D -> PSt -> Prop} {X : Exc -> PSt -> Prop} {env : List (Option O)} {w : W} (p : Nat -> Bool) (v : Nat -> D) (hl : n <= 16777216)
    (step : ∀ c < n, wD (g (.int (lo + (c : Nat))) ⟨aF' own env, w⟩) fun ρ1 => wE (t ρ1) (fun k ρ2 => k = p c /\ ρ2.w = w /\ aF' own ρ2.env = aF' own env /\ (p c = true -> wE (e ρ2) (fun y ρ3 => y = v c /\ ρ3.w = w /\ aF' own ρ3.env = aF' own env) PX)) PX)
    (hend : ∀ env2, aF' own env2 = aF' own env -> Q (((List.range n).filter p).map v) ⟨env2, w⟩) : wE (lcL own g t e (rgI lo n) [] ⟨env, w⟩) Q X :=
  rF' (f := fun i : Nat => D.int (lo + (i : Nat))) p v (by simpa using hl) (fun c hc => step c (List.mem_range.mp hc)) hend
theorem wj' {own : List Nat} {g : MG} {t : MT} {e : ME} {lo : Int} {n : Nat} {Q : List D -> PSt -> Prop} {X : Exc -> PSt -> Prop} {env : List (Option O)} {w : W} (v : Nat -> D) (hl : n <= 16777216)
    (step : ∀ c < n, wD (g (.int (lo + (c : Nat))) ⟨aF' own env, w⟩) fun ρ1 => wE (t ρ1) (fun k ρ2 => k = true /\ wE (e ρ2) (fun y ρ3 => y = v c /\ ρ3.w = w /\ aF' own ρ3.env = aF' own env) PX) PX)
    (hend : ∀ env2, aF' own env2 = aF' own env -> Q ((List.range n).map v) ⟨env2, w⟩) : wE (lcL own g t e (rgI lo n) [] ⟨env, w⟩) Q X :=
  d8' (f := fun i : Nat => D.int (lo + (i : Nat))) v (by simpa using hl) (fun c hc => step c (List.mem_range.mp hc)) hend
end M
namespace M
def tJ' : O -> D -> D -> Option (D × O)
  | .dct ks os, y, d => if isK y = true /\ ks.length < dp' then (match dget ks os y with
    | some (.fz e) => some (e, .dct ks os)
    | some _ => none
    | none => some (d, .dct (ks ++ [y]) (os ++ [.fz d]))) else none
  | _, _, _ => none
def rO' : O -> Prop
  | .dct _ _ => True
  | _ => False
section
variable {ρ : PSt} {P : D -> PSt -> Prop} {R : O -> PSt -> Prop} {X : Exc -> PSt -> Prop} {Y : List D -> PSt -> Prop}
theorem vr' (neg : Bool) (i : Nat) (a : ME) : vE (tH' neg i a ρ) P X = vE (a ρ) (fun k ρ1 => vO ρ1.env[i]? fun o => vD (cA' o k) fun r => P (.bl (r.isSome != neg)) ρ1) X := by
  unfold tH'
  rw [aj']
  congr
  funext k ρ1
  rcases ρ1.env[i]? with _ | _ | o
  . rfl
  . rfl
  . show vE (ofO _ _) P X = vD _ _
    rw [a6', cw']
theorem vq' (i : Nat) (b : ME) (env : List (Option O)) (w : W) : vE (iv' i b ⟨env, w⟩) P X = vO env[i]? fun _ => vE (b ⟨env, w⟩) (fun k ρ1 => vO ρ1.env[i]? fun o => vD (sg' (cA' o k)) fun z => P z ρ1) X := by
  show vE (match env[i]? with
  | some (some _) => (b ⟨env, w⟩).bind fun k ρ1 => match ρ1.env[i]? with
    | some (some o) => ofO (sg' (cA' o k)) ρ1
    | _ => .bad
  | _ => .bad) P X = _
  rcases env[i]? with _ | _ | o
  . rfl
  . rfl
  simp only [aj', vO]
  congr
  funext k ρ1
  rcases ρ1.env[i]? with _ | _ | o
  . rfl
  . rfl
  exact a6' _
theorem pq' (i : Nat) (k a : ME) (env : List (Option O)) (w : W) : vE (iu' i k a ⟨env, w⟩) P X = vO env[i]? fun o0 => rO' o0 /\ vE (k ⟨env, w⟩) (fun y ρ1 => vE (a ρ1) (fun d ρ2 => vO ρ2.env[i]? fun o => vD (tJ' o y d) fun p => P p.1 ⟨ρ2.env.set i (some p.2), ρ2.w⟩) X) X := by
  unfold iu'
  show vE (match env[i]? with
  | some (some (.dct _ _)) => _
  | _ => .bad) P X = _
  rcases env[i]? with _ | _ | o
  . rfl
  . rfl
  cases o with
  | dct ks0 os0 =>
    simp only [aj', vO, rO', true_and]
    congr
    funext y ρ1
    congr
    funext d ρ2
    rcases h : ρ2.env[i]? with _ | _ | o
    . rfl
    . rfl
    cases o with
    | dct ks os =>
      show vE (if isK y = true /\ ks.length < dp' then _ else _) P X = vD (tJ' (.dct ks os) y d) _
      show _ = vD (if isK y = true /\ ks.length < dp' then (match dget ks os y with | some (.fz e) => some (e, O.dct ks os) | some _ => none | none => some (d, .dct (ks ++ [y]) (os ++ [.fz d]))) else none) _
      by_cases hc : isK y = true /\ ks.length < dp'
      . rw [if_pos hc, if_pos hc]
        rcases dget ks os y with _ | o
        . rfl
        . cases o with
          | fz e =>
            show P e ρ2 = P e ⟨ρ2.env.set i _, ρ2.w⟩
            have hi : ρ2.env.set i (some (.dct ks os)) = ρ2.env := by
              obtain ⟨hl, e⟩ := List.getElem?_eq_some_iff.mp h
              rw [<- e, List.set_getElem_self]
            rw [hi]
          | _ => rfl
      . rw [if_neg hc, if_neg hc]; rfl
    | _ => rfl
  | _ => simp [vO, rO', vE]
theorem pg'  : vE (ri' ρ) R X = R (.dcx [] []) ρ := rfl
theorem or' (x : Bool) (k a : ME) : vE (kf' x k a ρ) R X = vE (k ρ) (fun y ρ1 => vE (a ρ1) (fun d ρ2 => vD (j9' x y d) fun o => R o ρ2) X) X := by simp only [kf', aj', a6']
theorem ph' (f : D -> Option (List D)) (a : ME) : vE (rQ' f a ρ) Y X = vE (a ρ) (fun x ρ1 => vD (f x) fun ds => Y ds ρ1) X := by simp only [rQ', aj', a6']
theorem vm' (own : List Nat) (it : MI) (g : MG) (t : MT) (ek ev : ME) : vE (oDc own it g t ek ev ρ) R X = vE (it ρ) (fun xs ρ1 => vE (dcL own g t ek ev xs [] [] ρ1) (fun p ρ2 => R (.dct p.1 (p.2.map .fz)) ⟨back ρ1.env own (aF' own ρ2.env), ρ2.w⟩) X) X := by simp only [oDc, aj', gi']
theorem vp' (ps : List (String × String)) (f : MF) (a b : ME) : vE (xw' ps f a b ρ) P X = vE (a ρ) (fun x ρ1 => vE (b ρ1) (fun y ρ2 => wB' ps ρ2.w x y = true /\ vF (f [x, y] ρ2.w) (fun o w => ∃ r, o = .fz (.bl r) /\ P (.bl r) ⟨ρ2.env, w⟩) (fun _ _ => False)) X) X := by
  simp only [xw', aj']
  congr
  funext x ρ1
  congr
  funext y ρ2
  by_cases h : wB' ps ρ2.w x y = true
  . rw [if_pos h]
    simp only [h, true_and]
    cases f [x, y] ρ2.w with
    | ok o w =>
      show vE (match O.fz (.bl true) with | _ => _) P X = _
      cases o with
      | fz d => cases d <;> simp [vE, vF]
      | _ => simp [vE, vF]
    | exc x w => rfl
    | bad => rfl
  . rw [if_neg h]
    simp [vE, h]
theorem vo' (t : ET) (c : String) (a : ME) : vE (xv' t c a ρ) P X = vE (a ρ) (fun x ρ1 => vD (isC t c ρ1.w x) fun b => P (.bl b) ρ1) X := by simp only [xv', aj', a6', cw']
variable {N : PSt -> Prop} {rt : O -> W -> Prop} {bk ct : PSt -> Prop} {ex : Exc -> PSt -> Prop}
theorem vv' (i : Nat) (k a : ME) : vS (o4' i k a ρ) ⟨N, rt, bk, ct, ex⟩ = vE (a ρ) (fun d ρ1 => vO ρ1.env[i]? fun _ => vE (k ρ1) (fun y ρ2 => vO ρ2.env[i]? fun o => vD (fB' o y (.fz d)) fun o' => N ⟨ρ2.env.set i (some o'), ρ2.w⟩) ex) ex := by
  simp only [o4', bU']
  congr
  funext d ρ1
  rcases ρ1.env[i]? with _ | _ | o
  . rfl
  . rfl
  simp only [bU', vO]
  congr
  funext y ρ2
  rcases ρ2.env[i]? with _ | _ | o
  . rfl
  . rfl
  show vS (match fB' o y (.fz d) with | some o' => Out.nx _ | none => Out.bad) _ = vD (fB' o y (.fz d)) _
  cases fB' o y (.fz d) <;> rfl
theorem AU' (neg : Bool) (i : Nat) (a : ME) : wE (tH' neg i a ρ) P X = wE (a ρ) (fun k ρ1 => wO ρ1.env[i]? fun o => wD (cA' o k) fun r => P (.bl (r.isSome != neg)) ρ1) X := by simp only [c4', ed', ef', au', fq', fs', fl', fn', ec', ee', fm', fo', cg', b6', d0', cC', bX']; exact vr' ..
theorem AT' (i : Nat) (b : ME) (env : List (Option O)) (w : W) : wE (iv' i b ⟨env, w⟩) P X = wO env[i]? fun _ => wE (b ⟨env, w⟩) (fun k ρ1 => wO ρ1.env[i]? fun o => wD (sg' (cA' o k)) fun z => P z ρ1) X := by simp only [c4', ed', ef', au', fq', fs', fl', fn', ec', ee', fm', fo', cg', b6', d0', cC', bX']; exact vq' ..
theorem ve' (i : Nat) (k a : ME) (env : List (Option O)) (w : W) : wE (iu' i k a ⟨env, w⟩) P X = wO env[i]? fun o0 => rO' o0 /\ wE (k ⟨env, w⟩) (fun y ρ1 => wE (a ρ1) (fun d ρ2 => wO ρ2.env[i]? fun o => wD (tJ' o y d) fun p => P p.1 ⟨ρ2.env.set i (some p.2), ρ2.w⟩) X) X := by simp only [c4', ed', ef', au', fq', fs', fl', fn', ec', ee', fm', fo', cg', b6', d0', cC', bX']; exact pq' ..
theorem u9'  : wE (ri' ρ) R X = R (.dcx [] []) ρ := by simp only [c4', ed', ef', au', fq', fs', fl', fn', ec', ee', fm', fo', cg', b6', d0', cC', bX']; exact pg' ..
theorem sr' (x : Bool) (k a : ME) : wE (kf' x k a ρ) R X = wE (k ρ) (fun y ρ1 => wE (a ρ1) (fun d ρ2 => wD (j9' x y d) fun o => R o ρ2) X) X := by simp only [c4', ed', ef', au', fq', fs', fl', fn', ec', ee', fm', fo', cg', b6', d0', cC', bX']; exact or' ..
theorem vc' (f : D -> Option (List D)) (a : ME) : wE (rQ' f a ρ) Y X = wE (a ρ) (fun x ρ1 => wD (f x) fun ds => Y ds ρ1) X := by simp only [c4', ed', ef', au', fq', fs', fl', fn', ec', ee', fm', fo', cg', b6', d0', cC', bX']; exact ph' ..
theorem AH' (own : List Nat) (it : MI) (g : MG) (t : MT) (ek ev : ME) : wE (oDc own it g t ek ev ρ) R X = wE (it ρ) (fun xs ρ1 => wE (dcL own g t ek ev xs [] [] ρ1) (fun p ρ2 => R (.dct p.1 (p.2.map .fz)) ⟨back ρ1.env own (aF' own ρ2.env), ρ2.w⟩) X) X := by simp only [c4', ed', ef', au', fq', fs', fl', fn', ec', ee', fm', fo', cg', b6', d0', cC', bX']; exact vm' ..
theorem AS' (ps : List (String × String)) (f : MF) (a b : ME) : wE (xw' ps f a b ρ) P X = wE (a ρ) (fun x ρ1 => wE (b ρ1) (fun y ρ2 => wB' ps ρ2.w x y = true /\ wF (f [x, y] ρ2.w) (fun o w => ∃ r, o = .fz (.bl r) /\ P (.bl r) ⟨ρ2.env, w⟩) (fun _ _ => False)) X) X := by simp only [c4', ed', ef', au', fq', fs', fl', fn', ec', ee', fm', fo', cg', b6', d0', cC', bX']; exact vp' ..
theorem AQ' (t : ET) (c : String) (a : ME) : wE (xv' t c a ρ) P X = wE (a ρ) (fun x ρ1 => wD (isC t c ρ1.w x) fun b => P (.bl b) ρ1) X := by simp only [c4', ed', ef', au', fq', fs', fl', fn', ec', ee', fm', fo', cg', b6', d0', cC', bX']; exact vo' ..
theorem Be' (i : Nat) (k a : ME) : wS (o4' i k a ρ) ⟨N, rt, bk, ct, ex⟩ = wE (a ρ) (fun d ρ1 => wO ρ1.env[i]? fun _ => wE (k ρ1) (fun y ρ2 => wO ρ2.env[i]? fun o => wD (fB' o y (.fz d)) fun o' => N ⟨ρ2.env.set i (some o'), ρ2.w⟩) ex) ex := by simp only [c4', ed', ef', au', fq', fs', fl', fn', ec', ee', fm', fo', cg', b6', d0', cC', bX']; exact vv' ..
theorem wK' (a : Tx) (b : List D) {Y : List D -> Prop} : wD (C8' (.str a) (.lst b)) Y = Y (dq' (a.map chD) b) := by rw [au']; rfl
end
theorem e7' {γ δ α : Type} [DecidableEq γ] (e : γ -> D) (he : ∀ a b, eqb (e a) (e b) = decide (a = b)) (v : δ -> α) (k : γ) : ∀ l : List (γ × δ), dget (l.map fun p => e p.1) (l.map fun p => v p.2) (e k) = (l.lookup k).map v
  | [] => rfl
  | (a, b) :: l => by
    have ih := e7' e he v k l
    unfold dget gA' at *
    rw [List.map_cons, List.map_cons, List.findIdx?_cons, he, List.lookup_cons]
    by_cases h : a = k
    . subst h; simp
    . have h2 : (k == a) = false := by simp; exact fun e => h e.symm
      rw [decide_eq_false h, h2]
      simp only [Bool.false_eq_true, if_false]
      rw [<- ih]
      cases List.findIdx? (fun d => eqb d (e k)) (l.map fun p => e p.1) <;> simp
theorem gz' {γ δ : Type} [DecidableEq γ] (e : γ -> D) (he : ∀ a b, eqb (e a) (e b) = decide (a = b)) (k : γ) : ∀ l : List (γ × δ), l.lookup k = none -> gA' (l.map fun p => e p.1) (e k) = none
  | [], _ => rfl
  | (a, b) :: l, h => by
    rw [List.lookup_cons] at h
    by_cases hk : a = k
    . subst hk; simp at h
    . have h2 : (k == a) = false := by simp; exact fun e => hk e.symm
      rw [h2] at h
      have ih := gz' e he k l h
      unfold gA' at *
      rw [List.map_cons, List.findIdx?_cons, he, decide_eq_false hk]
      simp only [Bool.false_eq_true, if_false, ih, Option.map_none]
theorem fL' (a b : Nat) : eqb (.int (a : Nat)) (.int (b : Nat)) = decide (a = b) := by
  simp only [eqb]
  rw [Bool.eq_iff_iff]
  simp
  try omega
def dN (l : List (Nat × D)) : O := .dct (l.map fun p => .int (p.1 : Nat)) (l.map fun p => .fz p.2)
def dNz (l : List (Nat × D)) : D := .dct (l.map fun p => .int (p.1 : Nat)) (l.map fun p => p.2)
def dX {γ : Type} (e : γ -> D) (l : List (γ × D)) : O := .dcx (l.map fun p => e p.1) (l.map fun p => .fz p.2)
structure KeyE {γ : Type} [DecidableEq γ] (e : γ -> D) : Prop where
  eq : ∀ a b, eqb (e a) (e b) = decide (a = b)
  kat : ∀ a, kat (e a) = true
  dep : ∀ a, dep (e a) <= 8
  sca : ∀ a b, sca (e a) = sca (e b)
theorem nW' {γ : Type} [DecidableEq γ] {e : γ -> D} (he : KeyE e) (k : γ) (l : List (γ × D)) : rJ' (l.map fun p => e p.1) (e k) = true := by
  unfold rJ'
  rw [he.kat, decide_eq_true (he.dep k)]
  simp only [Bool.and_true, Bool.true_and, List.all_eq_true, List.mem_map]
  rintro _ ⟨p, _, rfl⟩
  simp [he.sca p.1 k]
theorem uT' (l : List (Nat × D)) : frz (dN l) = dNz l := by
  unfold dN dNz
  simp only [frz, dG', List.map_map]
  rfl
theorem AZ' (l : List (Nat × D)) (i : Nat) (env : List (Option O)) (w : W) {P : D -> PSt -> Prop} : wV (some (some (dN l))) i ⟨env, w⟩ P = P (dNz l) ⟨env.set i (some (.fz (dNz l))), w⟩ := by
  rw [ec']
  show vV (some (some (O.dct _ _))) _ _ _ = _
  rw [<- uT']; rfl
theorem A3' (l : List (Nat × D)) (i : Nat) (env : List (Option O)) (w : W) {P : O -> PSt -> Prop} : wG (some (some (dN l))) i ⟨env, w⟩ P = P (dN l) ⟨env.set i none, w⟩ := by
  rw [ee']; rfl
theorem lK' (l : List (Nat × D)) (k : Nat) : cA' (dN l) (.int (k : Nat)) = some ((l.lookup k).map .fz) := by
  show (if isK (.int (k : Nat)) = true then some (dget _ _ _) else none) = _
  rw [if_pos (show isK (.int (k : Nat)) = true from rfl), e7' (fun n : Nat => D.int (n : Nat)) fL' O.fz k l]
theorem i7' (l : List (Nat × D)) (k : Nat) : cA' (.fz (dNz l)) (.int (k : Nat)) = some ((l.lookup k).map .fz) := by
  show (if isK (.int (k : Nat)) = true then some (dget _ (List.map O.fz (l.map fun p => p.2)) _) else none) = _
  rw [if_pos (show isK (.int (k : Nat)) = true from rfl), List.map_map]
  exact congrArg some (e7' (fun n : Nat => D.int (n : Nat)) fL' O.fz k l)
theorem fI' {γ : Type} [DecidableEq γ] {e : γ -> D} (he : KeyE e) (l : List (γ × D)) (k : γ) : cA' (dX e l) (e k) = some ((l.lookup k).map .fz) := by
  show (if rJ' (l.map fun p => e p.1) (e k) = true then some (dget _ _ _) else none) = _
  rw [if_pos (nW' he k l), e7' e he.eq O.fz k l]
section
variable {Q : Option O -> Prop} {P : D -> Prop} {N : O -> Prop} {Y : List D -> Prop}
theorem wU' (l : List (Nat × D)) (k : Nat) : wD (cA' (dN l) (.int (k : Nat))) Q = Q ((l.lookup k).map .fz) := by rw [lK', a7']
theorem tO' (l : List (Nat × D)) (k : Nat) : wD (cA' (.fz (dNz l)) (.int (k : Nat))) Q = Q ((l.lookup k).map .fz) := by rw [i7', a7']
theorem oj' (o : Option D) : sg' (some (o.map .fz)) = o := by cases o <;> rfl
theorem xi' (d : D) : sg' (some (some (.fz d))) = some d := rfl
theorem Cd' (l : List (Nat × D)) (k : Nat) : wD (sg' (cA' (dN l) (.int (k : Nat)))) P = wD (l.lookup k) P := by rw [lK', oj']
theorem zW' (l : List (Nat × D)) (k : Nat) : wD (sg' (cA' (.fz (dNz l)) (.int (k : Nat)))) P = wD (l.lookup k) P := by rw [i7', oj']
theorem zF' {l : List (Nat × D)} {k : Nat} (h : l.lookup k = none) (hl : l.length < 16777216) (d : D) : wD (fB' (dN l) (.int (k : Nat)) (.fz d)) N = N (dN (l ++ [(k, d)])) := by
  show wD (if isK (.int (k : Nat)) = true then (nH' _ _ _ _).map (fun p => O.dct p.1 p.2) else none) N = _
  rw [if_pos (show isK (.int (k : Nat)) = true from rfl), mn']
  unfold nH'
  rw [gz' (fun n : Nat => D.int (n : Nat)) fL' k l h]
  simp only
  rw [if_pos (by rw [List.length_map]; exact hl), a7']
  unfold dN
  simp
theorem q0' {γ : Type} [DecidableEq γ] {e : γ -> D} (he : KeyE e) {l : List (γ × D)} {k : γ} (h : l.lookup k = none) (hl : l.length < 16777216) (d : D) : fB' (dX e l) (e k) (.fz d) = some (dX e (l ++ [(k, d)])) := by
  show (if rJ' (l.map fun p => e p.1) (e k) = true then (nH' _ _ _ _).map (fun p => O.dcx p.1 p.2) else none) = _
  rw [if_pos (nW' he k l)]
  unfold nH'
  rw [gz' e he.eq k l h]
  simp only
  rw [if_pos (by rw [List.length_map]; exact hl)]
  unfold dX
  simp
theorem zR' (l : List (Nat × D)) : wD (o6' (dN l)) P = P (.int l.length) := by
  show wD (some (D.int _)) P = _
  rw [a7', List.length_map]
theorem zO' {γ : Type} (e : γ -> D) (l : List (γ × D)) : wD (o6' (dX e l)) P = P (.int l.length) := by
  show wD (some (D.int _)) P = _
  rw [a7', List.length_map]
theorem w2' (l : List (Nat × D)) : wD (eD' (dNz l)) P = P (.int l.length) := by
  show wD (some (D.int _)) P = _
  rw [a7', List.length_map]
theorem wR' {l : List (Nat × D)} {k : Nat} (hl : l.length < 16777216) (d : D) {Q : D × O -> Prop} : wD (tJ' (dN l) (.int (k : Nat)) d) Q = match l.lookup k with
    | some e => Q (e, dN l)
    | none => Q (d, dN (l ++ [(k, d)])) := by
  show wD (if isK (.int (k : Nat)) = true /\ (l.map fun p => D.int (p.1 : Nat)).length < dp' then (match dget (l.map fun p => D.int (p.1 : Nat)) (l.map fun p => O.fz p.2) (.int (k : Nat)) with
    | some (.fz e) => some (e, O.dct _ _)
    | some _ => none
    | none => some (d, .dct ((l.map fun p => D.int (p.1 : Nat)) ++ [.int (k : Nat)]) ((l.map fun p => O.fz p.2) ++ [.fz d]))) else none) Q = _
  rw [if_pos ⟨rfl, by rw [List.length_map]; exact hl⟩, e7' (fun n : Nat => D.int (n : Nat)) fL' O.fz k l]
  cases l.lookup k with
  | none =>
    simp only [Option.map_none, a7']
    unfold dN
    simp
  | some e => simp only [Option.map_some, a7']; rfl
theorem ty' (l : List (Nat × D)) : rO' (dN l) = True := rfl
theorem ju' {γ : Type} (f g : γ -> D) : ∀ l : List γ, dq' (l.map f) (l.map g) = l.map fun p => .tup [f p, g p]
  | [] => rfl
  | a :: l => by
    simp only [List.map_cons, dq', ju' f g l]
theorem w7' (l : List (Nat × D)) : wD (r2' (dNz l)) Y = Y (l.map fun p => .tup [.int (p.1 : Nat), p.2]) := by
  show wD (some (dq' _ _)) Y = _
  rw [a7', ju']
theorem zx' (l : List (Nat × D)) : wD (CB' (dNz l)) Y = Y (l.map fun p => p.2) := by
  show wD (some _) Y = _
  rw [a7']
theorem zT' (l : List (Nat × D)) : wD (CC' (dNz l)) Y = Y (l.map fun p => .int (p.1 : Nat)) := by
  show wD (some _) Y = _
  rw [a7']
theorem is' {γ : Type} (f : γ -> Int) (l : List γ) : bs' (l.map fun p => .int (f p)) = some (l.map f) := by
  have := lO' (l.map f)
  rw [List.map_map] at this
  exact this
theorem zL' {γ : Type} (f : γ -> Nat) (g : γ -> Int) (l : List γ) (h : l ≠ []) : wD (oD' (dNz (l.map fun p => (f p, .int (g p))))) P = P (.int (nS' (l.map g))) := by
  show wD ((bs' ((l.map fun p => (f p, D.int (g p))).map fun p => p.2)).bind _) P = _
  rw [List.map_map, show ((fun p : Nat × D => p.2) ∘ fun p => (f p, D.int (g p))) = fun p => D.int (g p) from rfl, is']
  show wD (if l.map g = [] then none else some _) P = _
  rw [if_neg (by simpa using h), a7']
theorem wQ' (l : List (Nat × D)) (h : l.length <= 16777216) : wD (dW' (dNz l)) P = P (.lst ((gQ' (l.map fun p => (p.1 : Int))).map .int)) := by
  show wD ((bs' (l.map fun p => D.int (p.1 : Nat))).bind _) P = _
  rw [is' (fun p : Nat × D => (p.1 : Int))]
  show wD (if (l.map fun p => (p.1 : Int)).length <= dp' then some _ else none) P = _
  rw [if_pos (by rw [List.length_map]; exact h), a7']
theorem tW' (k : Int) (d : D) : wD (j9' false (.int k) d) N = N (.dct [.int k] [.fz d]) := by
  show wD (some (O.dct [.int k] [.fz d])) N = _
  rw [a7']
theorem oe' (d : D) : wD (v2' d) P = wC (xq' d = true /\ dep d <= 40 /\ qP' d = true /\ oz' d <= 200000) (P (.rep d)) := d5'
theorem B3' (i j : Bool) : wD (pNe (.bl i) (.bl j)) P = P (.bl (!(i == j))) := by
  rw [show pNe (.bl i) (.bl j) = some (.bl (!(i == j))) from rfl, a7']
theorem Cq' (a b : D) : wD (Aw' (.rep a) (.rep b)) P = wC (same a b = true) (P (.bl true)) := d5'
theorem B1' (a b : D) : wD (Av' (.rep a) (.rep b)) P = wC (same a b = true) (P (.bl false)) := d5'
end
theorem bn' {γ : Type} (f : Nat -> γ) (k : Nat) : ∀ l : List Nat, (l.map fun s => (s, f s)).lookup k = if k ∈ l then some (f k) else none
  | [] => rfl
  | a :: l => by
    rw [List.map_cons, List.lookup_cons, bn' f k l]
    by_cases h : k = a
    . subst h; simp
    . have : (k == a) = false := by simpa using h
      simp [this, h]
theorem cj' {γ δ : Type} [DecidableEq γ] (k : γ) : ∀ l : List (γ × δ), k ∉ l.map (·.1) -> l.lookup k = none
  | [], _ => rfl
  | (a, b) :: l, h => by
    simp only [List.map_cons, List.mem_cons, not_or] at h
    rw [List.lookup_cons, cj' k l h.2]
    have : (k == a) = false := by simpa using h.1
    rw [this]
mutual
theorem dw' : ∀ (d : D), dat d = true -> same d d = true
  | .non, _ => rfl
  | .bl b, _ => by simp [same]
  | .int i, _ => by simp [same]
  | .str s, _ => by simp [same]
  | .tup ds, h => by simp only [same]; exact sames_refl ds (by simpa [dat] using h)
  | .lst ds, h => by simp only [same]; exact sames_refl ds (by simpa [dat] using h)
theorem sames_refl : ∀ (ds : List D), dats ds = true -> sames ds ds = true
  | [], _ => rfl
  | d :: r, h => by
    simp only [dats, Bool.and_eq_true] at h
    simp only [sames, dw' d h.1, sames_refl r h.2, Bool.and_self]
end
theorem uZ' {own : List Nat} {g : MG} {t : MT} {ek ev : ME} {γ : Type} {f : γ -> D} {cs : List γ} {Q : List D × List D -> PSt -> Prop} {X : Exc -> PSt -> Prop} {env : List (Option O)} {w : W} (kf : γ -> Nat) (v : γ -> D) (hl : cs.length <= 16777216) (hn : (cs.map kf).Nodup)
    (step : ∀ c ∈ cs, wD (g (f c) ⟨aF' own env, w⟩) fun ρ1 => wE (t ρ1) (fun k ρ2 => k = true /\ wE (ek ρ2) (fun y ρ3 => y = .int (kf c : Nat) /\ wE (ev ρ3) (fun z ρ4 => z = v c /\ ρ4.w = w /\ aF' own ρ4.env = aF' own env) PX) PX) PX)
    (hend : ∀ env2, aF' own env2 = aF' own env -> Q (cs.map (fun c => .int (kf c : Nat)), cs.map v) ⟨env2, w⟩) : wE (dcL own g t ek ev (cs.map f) [] [] ⟨env, w⟩) Q X := by
  have go : ∀ (post pre : List γ) (env1 : List (Option O)), cs = pre ++ post -> aF' own env1 = aF' own env →
      vE (dcL own g t ek ev (post.map f) (pre.map fun c => .int (kf c : Nat)) (pre.map v) ⟨env1, w⟩) Q X := by
    intro post
    induction post with
    | nil =>
      intro pre env1 e he
      rw [List.append_nil] at e
      subst e
      exact hend env1 he
    | cons c post ih =>
      intro pre env1 e he
      have s := step c (by rw [e]; simp)
      rw [au'] at s
      show vE (match g (f c) ⟨aF' own env1, w⟩ with | none => Res.bad | some ρ1 => _) Q X
      rw [he]
      cases hg : g (f c) ⟨aF' own env, w⟩ with
      | none => rw [hg] at s; exact s
      | some ρ1 =>
        rw [hg] at s
        have s : wE (t ρ1) _ PX := s
        rw [c4'] at s
        dsimp only
        cases ht : t ρ1 with
        | bad => rw [ht] at s; exact s
        | exc x q => rw [ht] at s; exact s.elim
        | ok k ρ2 =>
          rw [ht] at s
          obtain ⟨ek1, s2⟩ := (show k = true /\ wE (ek ρ2) _ PX from s)
          subst ek1
          rw [c4'] at s2
          show vE ((noX (ek ρ2)).bind _) Q X
          cases hk : ek ρ2 with
          | bad => rw [hk] at s2; exact s2
          | exc x q => rw [hk] at s2; exact s2.elim
          | ok y ρ3 =>
            rw [hk] at s2
            obtain ⟨ey, s3⟩ := (show y = .int (kf c : Nat) /\ wE (ev ρ3) _ PX from s2)
            subst ey
            rw [c4'] at s3
            show vE ((noX (ev ρ3)).bind _) Q X
            cases hv : ev ρ3 with
            | bad => rw [hv] at s3; exact s3
            | exc x q => rw [hv] at s3; exact s3.elim
            | ok z ρ4 =>
              rw [hv] at s3
              obtain ⟨ez, hw, he2⟩ := (show z = v c /\ ρ4.w = w /\ aF' own ρ4.env = aF' own env from s3)
              subst ez
              obtain ⟨env4, w4⟩ := ρ4
              simp only at hw he2
              subst hw
              show vE (if isK (.int (kf c : Nat)) = true /\ (pre.map fun c => D.int (kf c : Nat)).length < dp' then _ else _) Q X
              have hlen : pre.length < dp' := by
                have : cs.length = pre.length + (post.length + 1) := by rw [e]; simp
                unfold dp'; omega
              rw [if_pos ⟨rfl, by rw [List.length_map]; exact hlen⟩]
              have hnone : gA' (pre.map fun c => D.int (kf c : Nat)) (.int (kf c : Nat)) = none := by
                have h1 : ((pre.map fun c => (kf c, ())).map fun p => D.int (p.1 : Nat)) = pre.map fun c => D.int (kf c : Nat) := by rw [List.map_map]; rfl
                rw [<- h1]
                refine gz' (fun n : Nat => D.int (n : Nat)) fL' (kf c) _ (cj' _ _ ?_)
                rw [List.map_map]
                intro hm
                rw [e, List.map_append, List.map_cons] at hn
                have := (List.nodup_append.mp hn).2.2 (kf c) (by simpa using hm) (kf c) (by simp)
                exact this rfl
              unfold nH'
              rw [hnone]
              simp only
              rw [if_pos (by rw [List.length_map]; exact hlen)]
              have r := ih (pre ++ [c]) env4 (by rw [e]; simp) he2
              simpa using r
  rw [c4']
  exact go cs [] env rfl rfl
theorem oO' {γ : Type} (kf : γ -> Nat) (v : γ -> D) (cs : List γ) : D.dct (cs.map fun c => .int (kf c : Nat)) (cs.map v) = dNz (cs.map fun c => (kf c, v c)) := by
  unfold dNz
  simp only [List.map_map]
  rfl
theorem rX' {γ : Type} (kf : γ -> Nat) (v : γ -> D) (cs : List γ) : O.dct (cs.map fun c => .int (kf c : Nat)) ((cs.map v).map .fz) = dN (cs.map fun c => (kf c, v c)) := by
  unfold dN
  simp only [List.map_map]
  rfl
section
variable {Q : D -> Prop} {Y : List D -> Prop}
theorem tM' (r : List Nat) : wD (ei' (cK' r)) Y = Y (r.map fun t => .int (t : Nat)) := by unfold cK'; rw [oc']
theorem tN' (r : List Nat) : wD (ei' (c2' r)) Y = Y (r.map fun t => .int (t : Nat)) := by unfold c2'; rw [oc']
theorem tL' (T : List (List Nat)) : wD (ei' (cr' T)) Y = Y (T.map cK') := by unfold cr'; rw [oc']
end
theorem wv' : e3' .non = true := rfl
theorem wu' (n : Nat) : e3' (.obj n) = false := rfl
theorem wx' (n : Int) : e3' (.int n) = false := rfl
theorem wt' (n : Tx) : e3' (.str n) = false := rfl
theorem y7' (n : Bool) : e3' (.bl n) = false := rfl
theorem ws' (n : List D) : e3' (.tup n) = false := rfl
theorem ww' (n : List D) : e3' (.lst n) = false := rfl
section
variable {Q : D -> Prop}
theorem tf' (cs : List Nat) : g4' (cs.map chD) = some cs := by
  induction cs with
  | nil => rfl
  | cons c cs ih => show (g4' (cs.map chD)).map (c :: ·) = _; rw [ih]; rfl
theorem wP' {cs : List Nat} (h : cs ≠ []) : wD (cF' (.lst (cs.map chD))) Q = wC (cs.length < 64) (Q (.lst ((bY' cs).map chD))) := by
  have e : bs' (cs.map chD) = none := by
    cases cs with
    | nil => exact absurd rfl h
    | cons c cs => rfl
  show wD (match bs' (cs.map chD) with | some ns => some (D.lst ((gQ' ns).map .int)) | none => (g4' (cs.map chD)).bind fun cs => if cs.length < 64 then some (.lst ((bY' cs).map chD)) else none) Q = _
  rw [e]
  simp only [tf', Option.bind_some]
  exact d5'
theorem wW' (s : Tx) : wD (eS' (.str s)) Q = Q (.lst (s.map chD)) := by
  show wD (some _) Q = _
  rw [a7']
end
theorem zI' (F : List Nat) (t : Nat) {P : D -> Prop} : wD (rj' (inO (.int (t : Nat)) (.lst (F.map fun s => .fz (.int (s : Nat)))))) P = P (.bl (!decide (t ∈ F))) := by
  have e1 : (F.map fun s => O.fz (.int (s : Nat))).all (fun o => match o with | .fz _ => true | _ => false) = true := by induction F <;> simp_all
  have e2 : (F.map fun s => O.fz (.int (s : Nat))).map frz = F.map fun s => .int (s : Nat) := by rw [List.map_map]; rfl
  have h := r0' (Q := fun d => wD (rj' (some d)) P) (t : Int) (F.map (Nat.cast : Nat -> Int))
  rw [List.map_map] at h
  show wD (rj' (if (F.map fun s => O.fz (.int (s : Nat))).all (fun o => match o with | .fz _ => true | _ => false) = true then pIn (.int (t : Nat)) (.lst ((F.map fun s => O.fz (.int (s : Nat))).map frz)) else none)) P = _
  rw [if_pos e1, e2]
  have e3 : ∀ o : Option D, wD (rj' o) P = wD o (fun d => wD (rj' (some d)) P) := fun o => by cases o with
    | none => rw [au', au']; rfl
    | some d => rw [a7']
  rw [e3]
  refine h.trans ?_
  show wD (some (D.bl (!decide _))) P = _
  rw [a7']
  congr 3
  rw [decide_eq_decide]
  constructor
  . intro hm
    obtain ⟨a, h1, h2⟩ := List.mem_map.mp hm
    have h2 : (a : Int) = (t : Int) := h2
    have : a = t := by omega
    exact this ▸ h1
  . exact fun hm => List.mem_map.mpr ⟨t, hm, rfl⟩
def rL' (o : Option (Option O)) : Option O := match o with
  | some (some (.fz d)) => some (.fz d)
  | _ => none
theorem t2' (env env' : List (Option O)) : back env [] env' = env' := rfl
theorem sa' (env env' : List (Option O)) (i : Nat) (is : List Nat) : back env (i :: is) env' = (back env is env').set i (rL' env[i]?) := by
  show (back env is env').set i _ = _
  congr 1
theorem oK' : rL' (some none) = none := rfl
theorem tt' (d : D) : rL' (some (some (.fz d))) = some (.fz d) := rfl
theorem rK' (os : List O) : rL' (some (some (.lst os))) = none := rfl
section
variable {Q : D -> Prop}
theorem wM' (a : Tx) (c : Nat) : wD (yQ' a [.str [c]]) Q = wC (c < 128 /\ a.length + 2 <= 16777216) (Q (.lst ((Ao' c a).map .str))) := d5'
theorem BO' (i : Int) : wD (Ds' (.int i)) Q = wC (0 <= i /\ i < 1000000000000000000000000000000000000000000000000000000000000) (Q (.str (C4' i.toNat))) := d5'
end
end M
namespace M
theorem Cv' (c : Nat) (s : Tx) {P : D -> Prop} : wD (Dv' c (.str s)) P = wC (s.length <= 1000000) (P (.str (s.filter fun d => decide (d ≠ c)))) := d5'
end M
namespace M
theorem zt' (a b : List D) {Y : List D -> Prop} : wD (C7' (.tup a) (.tup b)) Y = Y (dq' a b) := by rw [au']; rfl
theorem Co' (os : List O) (ds : List D) {N : O -> Prop} : wD (DA' (.lst os) (.lst ds)) N = wC (os.length + ds.length <= 16777216) (N (.lst (os ++ ds.map .fz))) := d5'
def BH' : O -> Prop
  | .dcx _ _ => True
  | _ => False
theorem tx' {γ : Type} (e : γ -> D) (l : List (γ × D)) : BH' (dX e l) := True.intro
theorem BK' (os : List O) {N : List O -> Prop} : wD (unO (.tup os)) N = N os := by rw [au']; rfl
theorem BL' (ds : List D) {N : List O -> Prop} : wD (unO (.fz (.tup ds))) N = N (ds.map .fz) := by rw [au']; rfl
theorem xa' {ρ : PSt} {N : PSt -> Prop} : wD (xu' [] [] ρ) N = N ρ := by rw [au']; rfl
theorem w9' (i : Nat) (is : List Nat) (o : O) (os : List O) {env : List (Option O)} {w : W} {N : PSt -> Prop} : wD (xu' (i :: is) (o :: os) ⟨env, w⟩) N = t8' i env.length (wD (xu' is os ⟨env.set i (some o), w⟩) N) := by
  rw [au', au', b6']
  by_cases h : i < env.length
  . simp [xu', ot', h]
  . simp [xu', ot', vD, h]
theorem t1' (m : List Bool) : sn' m [] = [] := by cases m <;> rfl
theorem Aa' (x : Option O) (r : List (Option O)) : sn' [] (x :: r) = none :: sn' [] r := rfl
theorem Ac' (m : List Bool) (x : Option O) (r : List (Option O)) : sn' (false :: m) (x :: r) = none :: sn' m r := rfl
theorem Ab' (m : List Bool) (o : O) (r : List (Option O)) : sn' (true :: m) (some o :: r) = some (.fz (frz o)) :: sn' m r := rfl
theorem v9' (r : List (Option O)) : okM [] r = true := by cases r <;> rfl
theorem Bv' (m : List Bool) (x : Option O) (r : List (Option O)) : okM (false :: m) (x :: r) = okM m r := rfl
theorem Bu' (m : List Bool) (o : O) (r : List (Option O)) : okM (true :: m) (some o :: r) = (okO o && okM m r) := rfl
theorem yI' (d : D) : okO (.fz d) = dat d := rfl
theorem v8' (os : List O) : okO (.lst os) = okOs os := rfl
theorem rg' : ∀ ds : List D, okOs (ds.map .fz) = dats ds
  | [] => rfl
  | d :: r => by show (dat d && okOs (r.map .fz)) = (dat d && dats r); rw [rg' r]
theorem zh' (d : D) : frz (.fz d) = d := rfl
theorem vL' (b : Bool) : Ap' (.bl b) = true := rfl
theorem sX' (b : Int) : Ap' (.int b) = true := rfl
theorem sV' (b : Tx) : Ap' (.str b) = true := rfl
theorem sW' : Ap' .non = true := rfl
end M
namespace M
theorem jX' : ∀ l : List Tx, d3' (l.map D.str) = some l
  | [] => rfl
  | a :: l => by show (d3' (l.map D.str)).map (a :: ·) = _; rw [jX' l]; rfl
theorem wN' (l : List Tx) {P : D -> Prop} : wD (tc' (.lst (l.map .str))) P = wC (l.length < 64) (P (.lst ((x6' l).map .str))) := by
  show wD ((d3' (l.map D.str)).bind _) P = _
  rw [jX', Option.bind_some]
  exact d5'
theorem zz' (s : Tx) {P : D -> Prop} : wD (bK' (.str s)) P = P (.tup (s.map chD)) := by
  show wD (some _) P = _
  rw [a7']
theorem A2' {α : Type} (e : α -> D) (l : List (α × D)) (i : Nat) (env : List (Option O)) (w : W) {P : O -> PSt -> Prop} : wG (some (some (dX e l))) i ⟨env, w⟩ P = P (dX e l) ⟨env.set i none, w⟩ := by
  simp only [ee']; rfl
end M
namespace M
theorem lP' (l : List Nat) : bs' (l.map fun n => D.int (n : Nat)) = some (l.map fun n : Nat => (n : Int)) := by
  induction l with
  | nil => rfl
  | cons a l ih => show (bs' (l.map fun n => D.int (n : Nat))).map _ = _; rw [ih]; rfl
def dXz {γ : Type} (e : γ -> D) (l : List (γ × D)) : D := .dcx (l.map fun p => e p.1) (l.map fun p => p.2)
theorem zi' {γ : Type} (e : γ -> D) (l : List (γ × D)) : frz (dX e l) = dXz e l := by
  unfold dX dXz
  simp only [frz, dG', List.map_map]
  rfl
theorem AY' {γ : Type} (e : γ -> D) (l : List (γ × D)) (i : Nat) (env : List (Option O)) (w : W) {P : D -> PSt -> Prop} : wV (some (some (dX e l))) i ⟨env, w⟩ P = P (dXz e l) ⟨env.set i (some (.fz (dXz e l))), w⟩ := by
  rw [ec']
  show vV (some (some (O.dcx _ _))) _ _ _ = _
  rw [<- zi']; rfl
theorem wY' {γ : Type} (e : γ -> D) (l : List (γ × D)) {P : D -> Prop} : wD (o6' (.fz (dXz e l))) P = P (.int l.length) := by
  show wD (some (D.int _)) P = _
  rw [a7', List.length_map]
end M
namespace M
end M
namespace M
theorem im' : ∀ (es : List (Nat × Tx)), gZ' (es.map fun p => .int (p.1 : Nat)) (es.map fun p => .fz (.str p.2)) = some es
  | [] => rfl
  | p :: es => by
    show (if (0 : Int) <= (p.1 : Nat) then (gZ' (es.map fun p => .int (p.1 : Nat)) (es.map fun p => .fz (.str p.2))).map ((((p.1 : Nat) : Int).toNat, p.2) :: ·) else none) = _
    rw [if_pos (Int.natCast_nonneg _), im' es]
    rfl
theorem tK' (es : List (Nat × Tx)) {P : D -> Prop} : wD (uC' (.dct (es.map fun p => .int (p.1 : Nat)) (es.map fun p => .fz (.str p.2)))) P = P (.lst ((es.mergeSort Bn').map fun p => .tup [.int (p.1 : Nat), .str p.2])) := by
  have e : uC' (.dct (es.map fun p => .int (p.1 : Nat)) (es.map fun p => .fz (.str p.2))) = some (.lst ((es.mergeSort Bn').map fun p => .tup [.int (p.1 : Nat), .str p.2])) := by
    show (gZ' _ _).map _ = _
    rw [im']
    rfl
  rw [e, au']
  rfl
end M
namespace M
theorem wa' (kl kd : Bool) (r : List (Option O)) : okL kl kd [] r = true := by cases r <;> rfl
theorem Bx' (kl kd : Bool) (m : List Bool) (x : Option O) (r : List (Option O)) : okL kl kd (false :: m) (x :: r) = okL kl kd m r := rfl
theorem Bw' (kl kd : Bool) (m : List Bool) (o : O) (r : List (Option O)) : okL kl kd (true :: m) (some o :: r) = (lendO kl kd o && okL kl kd m r) := rfl
theorem tZ' (r : List (Option O)) : xd' [] r = 0 := by cases r <;> rfl
theorem z8' (m : List Bool) (x : Option O) (r : List (Option O)) : xd' (false :: m) (x :: r) = xd' m r := rfl
theorem z7' (m : List Bool) (o : O) (r : List (Option O)) : xd' (true :: m) (some o :: r) = Ay' o + xd' m r := rfl
theorem tr' (kl kd : Bool) (d : D) : lendO kl kd (.fz d) = true := rfl
theorem v3' (d : D) : Ay' (.fz d) = 0 := rfl
theorem rz' (kd : Bool) (ds : List D) : lendO true kd (.lst (ds.map .fz)) = true := by
  show (true && (ds.map O.fz).all wy') = true
  simp [wy']
theorem tl' (kl kd : Bool) (n : Nat) : CZ' kl kd (.fz (.obj n)) = true := rfl
def Bq' : D -> Option (D × D)
  | .tup [x, y] => some (x, y)
  | _ => none
theorem zG' (x y : D) {P : D × D -> Prop} : wD (Bq' (.tup [x, y])) P = P (x, y) := by rw [au']; rfl
theorem BV' (i j : Int) {Q : D -> Prop} : wD (Du' (.int i) (.int j)) Q = wC (0 <= j /\ j <= 1000 /\ -18446744073709551616 < i /\ i < 18446744073709551616) (Q (.int (i * 2 ^ j.toNat))) := by
  rw [au', d0']
  show vD (if 0 <= j /\ j <= 1000 /\ small64 i = true then _ else _) Q = _
  rw [aX']
  congr 1
  simp [small64]
theorem BU' (i j : Int) {Q : D -> Prop} : wD (Dt' (.int i) (.int j)) Q = wC (0 <= j) (Q (.int (i / 2 ^ j.toNat))) := by
  rw [au', d0']
  exact aX'
theorem DL' (is : List Nat) (ds : List D) (ρ : PSt) {N : PSt -> Prop} : wD (gL is (.lst ds) ρ) N = wD (gNs is ds ρ) N := rfl
theorem Cm' (gs : List MG) (ds : List D) (ρ : PSt) {N : PSt -> Prop} : wD (gTg gs (.tup ds) ρ) N = wD (gSq gs ds ρ) N := rfl
theorem zY' (ρ : PSt) {N : PSt -> Prop} : wD (gSq [] [] ρ) N = N ρ := by rw [au']; rfl
theorem Cn' (g : MG) (gs : List MG) (d : D) (ds : List D) (ρ : PSt) {N : PSt -> Prop} : wD (gSq (g :: gs) (d :: ds) ρ) N = wD (g d ρ) (fun ρ1 => wD (gSq gs ds ρ1) N) := by
  simp only [au']
  show vD ((g d ρ).bind (gSq gs ds)) N = _
  cases g d ρ <;> rfl
end M
namespace M
section
variable {α : Type} {env : List (Option O)} {w : W} {ρ : PSt} {X : Exc -> PSt -> Prop}
end
end M
namespace M
section
variable {α β : Type} [DecidableEq α] [DecidableEq β]
def ins (F : List α) (x : α) : List α := if x ∈ F then F else F ++ [x]
def cG' (F xs : List α) : List α := xs.foldl ins F
def ao' (xs : List α) : List α := cG' [] xs
theorem cv' {F : List α} {x : α} (h : x ∈ F) : ins F x = F := if_pos h
theorem bZ' {F : List α} {x : α} (h : x ∉ F) : ins F x = F ++ [x] := if_neg h
theorem ro' {F : List α} {x y : α} : y ∈ ins F x ↔ y ∈ F \/ y = x := by
  unfold ins
  split
  . rename_i h
    exact ⟨.inl, fun q => q.elim id fun e => e ▸ h⟩
  . simp
theorem cn' {F : List α} {x : α} {xs : List α} : cG' F (x :: xs) = cG' (ins F x) xs := rfl
theorem df' {F xs ys : List α} : cG' F (xs ++ ys) = cG' (cG' F xs) ys := List.foldl_append ..
theorem ht' {F xs : List α} {x : α} : cG' F (xs ++ [x]) = ins (cG' F xs) x := by rw [df']; rfl
theorem b9' {y : α} : ∀ {xs F : List α}, y ∈ cG' F xs ↔ y ∈ F \/ y ∈ xs
  | [], F => by simp [cG']
  | x :: xs, F => by
    rw [cn', b9', ro', List.mem_cons]
    constructor
    . rintro ((h | h) | h)
      . exact .inl h
      . exact .inr (.inl h)
      . exact .inr (.inr h)
    . rintro (h | h | h)
      . exact .inl (.inl h)
      . exact .inl (.inr h)
      . exact .inr h
theorem aK' {xs : List α} {y : α} : y ∈ ao' xs ↔ y ∈ xs := by rw [ao', b9']; simp
theorem vW' {F : List α} {x : α} : F <+: ins F x := by
  unfold ins
  split
  . exact List.prefix_refl _
  . exact List.prefix_append ..
theorem dV' : ∀ {xs F : List α}, F <+: cG' F xs
  | [], F => List.prefix_refl _
  | x :: xs, F => vW'.trans dV'
theorem yM' {F : List α} {x : α} (h : F.Nodup) : (ins F x).Nodup := by
  unfold ins
  split
  . exact h
  . rename_i q
    rw [List.nodup_append]
    exact ⟨h, by simp, fun a ha b hb e => q (by rw [List.mem_singleton] at hb; rw [<- hb, <- e]; exact ha)⟩
theorem fH' : ∀ {xs F : List α}, F.Nodup -> (cG' F xs).Nodup
  | [], _, h => h
  | _ :: xs, _, h => fH' (xs := xs) (yM' h)
theorem hd' {xs : List α} : (ao' xs).Nodup := fH' List.nodup_nil
theorem jc' : ∀ {xs F : List α}, (∀ x ∈ xs, x ∈ F) -> cG' F xs = F
  | [], _, _ => rfl
  | x :: xs, F, h => by
    rw [cn', cv' (h x (by simp))]
    exact jc' fun y hy => h y (by simp [hy])
theorem bz' {xs : List α} {x : α} : ao' (xs ++ [x]) = ins (ao' xs) x := ht'
theorem ci' {xs : List α} (h : xs.Nodup) : ao' xs = xs := by
  have go : ∀ (ys F : List α), (F ++ ys).Nodup -> cG' F ys = F ++ ys := by
    intro ys
    induction ys with
    | nil => intro F _; simp [cG']
    | cons y ys ih =>
      intro F hn
      have : y ∉ F := fun hy => (List.nodup_append.mp hn).2.2 y hy y (by simp) rfl
      rw [cn', bZ' this, ih _ (by simpa using hn)]
      simp
  exact go xs [] (by simpa using h)
theorem kg' (c : α -> β) (F : List α) (x : α) : ao' ((ins F x).map c) = ins (ao' (F.map c)) (c x) := by
  by_cases h : x ∈ F
  . rw [cv' h, cv' (aK'.mpr (List.mem_map.mpr ⟨x, h, rfl⟩))]
  . rw [bZ' h, List.map_append, List.map_cons, List.map_nil, bz']
theorem cz' (c : α -> β) : ∀ (xs F : List α), ao' ((cG' F xs).map c) = cG' (ao' (F.map c)) (xs.map c)
  | [], _ => rfl
  | x :: xs, F => by rw [cn', cz' c xs, kg', List.map_cons, cn']
theorem i3' (c : α -> β) (xs : List α) : ao' ((ao' xs).map c) = ao' (xs.map c) := by
  have := cz' c xs []
  exact this
theorem lH' (f : α -> β) {F : List α} {x : α} (h : ∀ y ∈ F, f y = f x -> y = x) : (ins F x).map f = ins (F.map f) (f x) := by
  by_cases hx : x ∈ F
  . rw [cv' hx, cv' (List.mem_map.mpr ⟨x, hx, rfl⟩)]
  . rw [bZ' hx, bZ']
    . simp
    . rw [List.mem_map]
      rintro ⟨y, hy, e⟩
      exact hx (h y hy e ▸ hy)
theorem f8' (f : α -> β) (U : α -> Prop) (inj : ∀ a b, U a -> U b -> f a = f b -> a = b) : ∀ (xs F : List α), (∀ x ∈ F, U x) -> (∀ x ∈ xs, U x) -> (cG' F xs).map f = cG' (F.map f) (xs.map f)
  | [], _, _, _ => rfl
  | x :: xs, F, hF, hx => by
    have ux := hx x (by simp)
    rw [cn', f8' f U inj xs (ins F x) (fun y hy => (ro'.mp hy).elim (hF y) fun e => e ▸ ux) (fun y hy => hx y (by simp [hy])), lH' f fun y hy e => inj y x (hF y hy) ux e, List.map_cons, cn']
theorem dF' (f : α -> β) (xs : List α) (inj : ∀ a ∈ xs, ∀ b ∈ xs, f a = f b -> a = b) : ao' (xs.map f) = (ao' xs).map f :=
  (f8' f (· ∈ xs) (fun a b ha hb => inj a ha b hb) xs [] (fun _ h => nomatch h) (fun _ h => h)).symm
theorem we' : ∀ {xs : List α}, xs.Nodup -> xs.map (fun x => xs.idxOf x) = List.range xs.length := by
  intro xs h
  refine List.ext_getElem (by simp) fun i h1 h2 => ?_
  rw [List.getElem_map, List.getElem_range]
  rw [List.length_map] at h1
  exact List.Nodup.idxOf_getElem h i h1
theorem ti' (xs : List α) : ao' (xs.map fun x => (ao' xs).idxOf x) = List.range (ao' xs).length := by
  rw [dF' (fun x => (ao' xs).idxOf x) xs, we' hd']
  intro a ha b hb e
  have h1 : (ao' xs)[(ao' xs).idxOf a]? = some a := by
    rw [List.getElem?_eq_getElem (List.idxOf_lt_length_iff.mpr (aK'.mpr ha)), List.getElem_idxOf]
  have h2 : (ao' xs)[(ao' xs).idxOf b]? = some b := by
    rw [List.getElem?_eq_getElem (List.idxOf_lt_length_iff.mpr (aK'.mpr hb)), List.getElem_idxOf]
  rw [e, h2] at h1
  exact (Option.some.inj h1).symm
theorem bL' (g : α -> β) (X : List α) : (ao' (X.map g)).length <= (ao' X).length := by
  have h := i3' g X
  rw [<- h]
  have go : ∀ (ys F : List β), (cG' F ys).length <= F.length + ys.length := by
    intro ys
    induction ys with
    | nil => intro F; simp [cG']
    | cons y ys ih =>
      intro F
      rw [cn']
      refine Nat.le_trans (ih _) ?_
      have : (ins F y).length <= F.length + 1 := by unfold ins; split <;> simp
      simp only [List.length_cons]
      omega
  have := go ((ao' X).map g) []
  simpa [ao'] using this
theorem g9' (g : α -> β) (X : List α) (h : (ao' (X.map g)).length = (ao' X).length) : ∀ a ∈ X, ∀ b ∈ X, g a = g b -> a = b := by
  have go : ∀ (l : List α), (ao' (l.reverse.map g)).length = (ao' l.reverse).length -> ∀ a ∈ l, ∀ b ∈ l, g a = g b -> a = b := by
    intro l
    induction l with
    | nil => intro _ a ha; cases ha
    | cons x l ih =>
      intro h
      rw [List.reverse_cons, List.map_append, List.map_cons, List.map_nil, bz', bz'] at h
      by_cases hx : x ∈ l
      . have hx' : x ∈ ao' l.reverse := aK'.mpr (List.mem_reverse.mpr hx)
        have hg : g x ∈ ao' (l.reverse.map g) := aK'.mpr (List.mem_map.mpr ⟨x, List.mem_reverse.mpr hx, rfl⟩)
        rw [cv' hx', cv' hg] at h
        intro a ha b hb e
        have ha' : a ∈ l := (List.mem_cons.mp ha).elim (fun e => e ▸ hx) id
        have hb' : b ∈ l := (List.mem_cons.mp hb).elim (fun e => e ▸ hx) id
        exact ih h a ha' b hb' e
      . have hx' : x ∉ ao' l.reverse := fun q => hx (List.mem_reverse.mp (aK'.mp q))
        rw [bZ' hx', List.length_append, List.length_singleton] at h
        have le := bL' g l.reverse
        by_cases hg : g x ∈ ao' (l.reverse.map g)
        . rw [cv' hg] at h; omega
        . rw [bZ' hg, List.length_append, List.length_singleton] at h
          have ih := ih (by omega)
          have no : ∀ a ∈ l, g a ≠ g x := fun a ha e => hg (aK'.mpr (List.mem_map.mpr ⟨a, List.mem_reverse.mpr ha, e⟩))
          intro a ha b hb e
          rcases List.mem_cons.mp ha with ea | ha2
          . rcases List.mem_cons.mp hb with eb | hb2
            . rw [ea, eb]
            . exact absurd (by rw [<- ea]; exact e.symm) (no b hb2)
          . rcases List.mem_cons.mp hb with eb | hb2
            . exact absurd (by rw [<- eb]; exact e) (no a ha2)
            . exact ih a ha2 b hb2 e
  intro a ha b hb e
  exact go X.reverse (by rw [List.reverse_reverse]; exact h) a (List.mem_reverse.mpr ha) b (List.mem_reverse.mpr hb) e
end
def am' (T : List (List Nat)) (s : Nat) : List Nat := (T[s]?).getD []
def bfs (T : List (List Nat)) : Nat -> List Nat
  | 0 => [0]
  | j + 1 => match (bfs T j)[j]? with
    | some s => cG' (bfs T j) (am' T s)
    | none => bfs T j
section
variable {T : List (List Nat)} {n m : Nat}
theorem dy' (h : a5' T n m) {s t : Nat} (ht : t ∈ am' T s) : t < n := by
  unfold am' at ht
  cases e : T[s]? with
  | none => rw [e] at ht; cases ht
  | some r =>
    rw [e] at ht
    exact (h.2 r (List.mem_of_getElem? e)).2 t ht
theorem bE' (h : a5' T n m) {s : Nat} (hs : s < n) : (am' T s).length = m := by
  unfold am'
  rw [List.getElem?_eq_getElem (by rw [h.1]; exact hs)]
  exact (h.2 _ (List.getElem_mem _)).1
theorem ck' (h : a5' T n m) {s : Nat} (hs : s < n) : T[s]? = some (am' T s) := by
  unfold am'
  rw [List.getElem?_eq_getElem (by rw [h.1]; exact hs)]
  rfl
theorem jm' : ∀ {j : Nat}, bfs T j <+: bfs T (j + 1) := by
  intro j
  show bfs T j <+: (match (bfs T j)[j]? with | some s => cG' (bfs T j) (am' T s) | none => bfs T j)
  split
  . exact dV'
  . exact List.prefix_refl _
theorem ca' {i j : Nat} (h : i <= j) : bfs T i <+: bfs T j := by
  induction h with
  | refl => exact List.prefix_refl _
  | step _ ih => exact ih.trans jm'
theorem iE' : ∀ j : Nat, (bfs T j).Nodup
  | 0 => by simp [bfs]
  | j + 1 => by
    show (match (bfs T j)[j]? with | some s => cG' (bfs T j) (am' T s) | none => bfs T j).Nodup
    split
    . exact fH' (iE' j)
    . exact iE' j
theorem hG' (h : a5' T n m) (hn : 1 <= n) : ∀ {j s : Nat}, s ∈ bfs T j -> s < n := by
  intro j
  induction j with
  | zero => intro s hs; simp [bfs] at hs; omega
  | succ j ih =>
    intro s hs
    have hs : s ∈ (match (bfs T j)[j]? with | some s => cG' (bfs T j) (am' T s) | none => bfs T j) := hs
    split at hs
    . rcases b9'.mp hs with h1 | h1
      . exact ih h1
      . exact dy' h h1
    . exact ih hs
theorem lG' {l : List Nat} (hn : l.Nodup) (h : ∀ s ∈ l, s < n) : l.length <= n := by
  have := List.Nodup.length_le_of_subset hn fun s hs => List.mem_range.mpr (h s hs)
  simpa using this
theorem b0' (h : a5' T n m) (hn : 1 <= n) (j : Nat) : (bfs T j).length <= n := lG' (iE' j) fun _ hs => hG' h hn hs
theorem gD' {j : Nat} (h : (bfs T j).length <= j) : ∀ {i : Nat}, j <= i -> bfs T i = bfs T j := by
  intro i hi
  induction hi with
  | refl => rfl
  | @step i hi ih =>
    show (match (bfs T i)[i]? with | some s => cG' (bfs T i) (am' T s) | none => bfs T i) = _
    have : (bfs T i)[i]? = none := by rw [ih]; exact List.getElem?_eq_none (Nat.le_trans h hi)
    rw [this, ih]
theorem d9' {j s : Nat} (h : (bfs T j)[j]? = some s) : bfs T (j + 1) = cG' (bfs T j) (am' T s) := by
  show (match (bfs T j)[j]? with | some s => cG' (bfs T j) (am' T s) | none => bfs T j) = _
  rw [h]
def reach (T : List (List Nat)) : List Nat := bfs T T.length
theorem dS' (h : a5' T T.length m) (hn : 1 <= T.length) {j : Nat} (hj : (bfs T j).length <= j) : bfs T j = reach T := by
  have hl := b0' h hn
  by_cases q : j <= T.length
  . exact (gD' hj q).symm
  . exact gD' (hl _) (by omega)
theorem dz' {j s : Nat} (h : a5' T T.length m) (hn : 1 <= T.length) (e : (reach T)[j]? = some s) : (bfs T j)[j]? = some s := by
  -- what stands at j is found before j is walked
  have h1 : j < (bfs T j).length := by
    rcases Nat.lt_or_ge j (bfs T j).length with q | q
    . exact q
    . have := dS' h hn q
      rw [<- this] at e
      have := (List.getElem?_eq_some_iff.mp e).1
      omega
  have hle : j <= T.length := by
    have := (List.getElem?_eq_some_iff.mp e).1
    have := b0' h hn T.length
    unfold reach at *
    omega
  obtain ⟨G, eG⟩ := ca' (T := T) hle
  unfold reach at e
  rw [<- eG, List.getElem?_append_left h1] at e
  exact e
theorem eQ' : (reach T).Nodup := iE' _
theorem gx' (h : a5' T T.length m) (hn : 1 <= T.length) {s : Nat} (hs : s ∈ reach T) : s < T.length := hG' h hn hs
theorem vT' : (reach T)[0]? = some 0 := by
  obtain ⟨G, e⟩ := ca' (T := T) (Nat.zero_le T.length)
  unfold reach
  rw [<- e]
  rfl
theorem dT' : 0 ∈ reach T := List.mem_of_getElem? vT'
theorem cM' (h : a5' T T.length m) (hn : 1 <= T.length) {s t : Nat} (hs : s ∈ reach T) (ht : t ∈ am' T s) : t ∈ reach T := by
  obtain ⟨j, hj, e⟩ := List.getElem_of_mem hs
  have e : (reach T)[j]? = some s := by rw [List.getElem?_eq_getElem hj, e]
  have e2 := d9' (dz' h hn e)
  have hl := b0' h hn T.length
  have hj' : j + 1 <= T.length := by unfold reach at hj; omega
  exact (ca' hj').subset (by rw [e2]; exact b9'.mpr (.inr ht))
end
section
variable {γ : Type} [DecidableEq γ] {S : List Nat}
def jq' (S : List Nat) (f : Nat -> γ) (s : Nat) : Nat := (ao' (S.map f)).idxOf (f s)
theorem i4' (f : Nat -> γ) : ao' (S.map (jq' S f)) = List.range (ao' (S.map f)).length := by
  have := ti' (S.map f)
  rw [List.map_map] at this
  exact this
theorem i5' (f : Nat -> γ) {s : Nat} (hs : s ∈ S) : (ao' (S.map f))[jq' S f s]? = some (f s) := by
  have : jq' S f s < (ao' (S.map f)).length := List.idxOf_lt_length_iff.mpr (aK'.mpr (List.mem_map.mpr ⟨s, hs, rfl⟩))
  rw [List.getElem?_eq_getElem this]
  exact congrArg some (List.getElem_idxOf _)
theorem dX' (f : Nat -> γ) {s t : Nat} (hs : s ∈ S) (ht : t ∈ S) : jq' S f s = jq' S f t ↔ f s = f t := by
  constructor
  . intro e
    have h1 := i5' f hs
    rw [e, i5' f ht] at h1
    exact (Option.some.inj h1).symm
  . intro e; unfold jq'; rw [e]
end
def key (T : List (List Nat)) (c : Nat -> Nat) (s : Nat) : Nat × List Nat := (c s, (am' T s).map c)
def Leq (L : Tx) (T : List (List Nat)) (A : List Nat) (s t : Nat) : Prop := ∀ x : Tx, (∀ a ∈ x, a ∈ L) -> (run L T s x ∈ A ↔ run L T t x ∈ A)
structure Clz (L : Tx) (T : List (List Nat)) (A : List Nat) (S : List Nat) (c : Nat -> Nat) (k : Nat) : Prop where
  num : ao' (S.map c) = List.range k
  ref : ∀ s ∈ S, ∀ t ∈ S, c s = c t -> (s ∈ A ↔ t ∈ A)
  co : ∀ s ∈ S, ∀ t ∈ S, Leq L T A s t -> c s = c t
section
variable {L : Tx} {T : List (List Nat)} {A S : List Nat} {c : Nat -> Nat} {k : Nat}
theorem gL' (s a : Nat) : stp L T s a = ((am' T s)[L.idxOf a]?).getD 0 := rfl
theorem gO' (hL : L.Nodup) {s i : Nat} (hi : i < L.length) : stp L T s L[i] = ((am' T s)[i]?).getD 0 := by rw [gL', hL.idxOf_getElem i hi]
theorem gN' (h : a5' T T.length L.length) {s a : Nat} (hs : s < T.length) (ha : a ∈ L) : stp L T s a ∈ am' T s := by
  obtain ⟨r, h1, h2, _⟩ := gM' h hs ha
  have : am' T s = r := by unfold am'; rw [h1]; rfl
  rw [this]
  exact List.mem_of_getElem? h2
theorem Leq.step (h : Leq L T A s t) (ha : a ∈ L) : Leq L T A (stp L T s a) (stp L T t a) := fun x hx => by
  have := h (a :: x) fun b hb => (List.mem_cons.mp hb).elim (fun e => e ▸ ha) (hx b)
  exact this
theorem Leq.refl (s : Nat) : Leq L T A s s := fun _ _ => Iff.rfl
theorem Leq.symm (h : Leq L T A s t) : Leq L T A t s := fun x hx => (h x hx).symm
theorem Leq.trans (h : Leq L T A s t) (h' : Leq L T A t u) : Leq L T A s u := fun x hx => (h x hx).trans (h' x hx)
theorem qL' (h : a5' T T.length L.length) (hL : L.Nodup) {s t : Nat} (hs : s < T.length) (ht : t < T.length) (hc : ∀ a ∈ L, c (stp L T s a) = c (stp L T t a)) : (am' T s).map c = (am' T t).map c := by
  have l1 := bE' h hs
  have l2 := bE' h ht
  refine List.ext_getElem (by simp [l1, l2]) fun i h1 h2 => ?_
  rw [List.getElem_map, List.getElem_map]
  rw [List.length_map] at h1 h2
  have := hc L[i] (List.getElem_mem (by omega))
  rw [gO' hL (by omega), gO' hL (by omega), List.getElem?_eq_getElem h1, List.getElem?_eq_getElem h2] at this
  exact this
theorem Clz.lt (h : Clz L T A S c k) {s : Nat} (hs : s ∈ S) : c s < k := by
  have : c s ∈ ao' (S.map c) := aK'.mpr (List.mem_map.mpr ⟨s, hs, rfl⟩)
  rw [h.num] at this
  exact List.mem_range.mp this
theorem Clz.first : Clz L T A S (jq' S fun s => decide (s ∈ A)) (ao' (S.map fun s => decide (s ∈ A))).length := by
  refine ⟨i4' _, fun s hs t ht e => ?_, fun s hs t ht e => (dX' _ hs ht).mpr ?_⟩
  . have := (dX' _ hs ht).mp e
    simpa using this
  . have := e [] (fun _ h => nomatch h)
    simpa [qK'] using this
theorem Clz.next (hT : a5' T T.length L.length) (hL : L.Nodup) (hS : ∀ s ∈ S, s < T.length) (hcl : ∀ s ∈ S, ∀ t ∈ am' T s, t ∈ S) (h : Clz L T A S c k) : Clz L T A S (jq' S (key T c)) (ao' (S.map (key T c))).length := by
  refine ⟨i4' _, fun s hs t ht e => ?_, fun s hs t ht e => (dX' _ hs ht).mpr ?_⟩
  . have := (dX' _ hs ht).mp e
    exact h.ref s hs t ht (congrArg Prod.fst this)
  . refine Prod.ext (h.co s hs t ht e) (qL' hT hL (hS s hs) (hS t ht) fun a ha => ?_)
    exact h.co _ (hcl s hs _ (gN' hT (hS s hs) ha)) _ (hcl t ht _ (gN' hT (hS t ht) ha)) (e.step ha)
theorem je' : (S.map (key T c)).map Prod.fst = S.map c := by rw [List.map_map]; rfl
theorem Clz.le (h : Clz L T A S c k) : k <= (ao' (S.map (key T c))).length := by
  have := bL' Prod.fst (S.map (key T c))
  rw [je', h.num, List.length_range] at this
  exact this
theorem Clz.stable (h : Clz L T A S c k) (he : (ao' (S.map (key T c))).length <= k) : ∀ s ∈ S, ∀ t ∈ S, c s = c t -> key T c s = key T c t := fun s hs t ht e => by
  have hk := Nat.le_antisymm he h.le
  refine g9' Prod.fst (S.map (key T c)) ?_ _ (List.mem_map.mpr ⟨s, hs, rfl⟩) _ (List.mem_map.mpr ⟨t, ht, rfl⟩) e
  rw [je', h.num, List.length_range, hk]
theorem Clz.same (h : Clz L T A S c k) (he : (ao' (S.map (key T c))).length <= k) : ∀ s ∈ S, jq' S (key T c) s = c s := fun s hs => by
  have st := h.stable he
  have e : ao' ((S.map (key T c)).map Prod.fst) = (ao' (S.map (key T c))).map Prod.fst := dF' Prod.fst _ fun a ha b hb q => by
    obtain ⟨s1, h1, rfl⟩ := List.mem_map.mp ha
    obtain ⟨s2, h2, rfl⟩ := List.mem_map.mp hb
    exact st s1 h1 s2 h2 q
  rw [je', h.num] at e
  have g := i5' (key T c) hs
  have g2 : ((ao' (S.map (key T c))).map Prod.fst)[jq' S (key T c) s]? = some (c s) := by rw [List.getElem?_map, g]; rfl
  rw [<- e] at g2
  obtain ⟨hl, g3⟩ := List.getElem?_eq_some_iff.mp g2
  rw [List.getElem_range] at g3
  exact g3
end
theorem sf' : ∀ {a b : List Nat}, a.Pairwise (· < ·) -> b.Pairwise (· < ·) -> (∀ q, q ∈ a ↔ q ∈ b) -> a = b
  | [], [], _, _, _ => rfl
  | [], y :: b, _, _, h => by have := (h y).mpr (by simp); cases this
  | x :: a, [], _, _, h => by have := (h x).mp (by simp); cases this
  | x :: a, y :: b, ha, hb, h => by
    obtain ⟨ha1, ha2⟩ := List.pairwise_cons.mp ha
    obtain ⟨hb1, hb2⟩ := List.pairwise_cons.mp hb
    have exy : x = y := by
      have hx : x ∈ y :: b := (h x).mp (by simp)
      have hy : y ∈ x :: a := (h y).mpr (by simp)
      rcases List.mem_cons.mp hx with e | hx
      . exact e
      . rcases List.mem_cons.mp hy with e | hy
        . exact e.symm
        . have := hb1 x hx
          have := ha1 y hy
          omega
    subst exy
    rw [sf' ha2 hb2 fun q => ?_]
    constructor
    . intro hq
      have := (h q).mp (by simp [hq])
      rcases List.mem_cons.mp this with e | e
      . have := ha1 q hq; omega
      . exact e
    . intro hq
      have := (h q).mpr (by simp [hq])
      rcases List.mem_cons.mp this with e | e
      . have := hb1 q hq; omega
      . exact e
def bA' (S : List Nat) (c : Nat -> Nat) (q : Nat) : Nat := (S.find? fun s => decide (c s = q)).getD 0
def b5' (T : List (List Nat)) (S : List Nat) (c : Nat -> Nat) (k : Nat) : List (List Nat) := (List.range k).map fun q => (am' T (bA' S c q)).map c
def f9' (A : List Nat) (S : List Nat) (c : Nat -> Nat) (k : Nat) : List Nat := (List.range k).filter fun q => decide (bA' S c q ∈ A)
structure IsLeast (L : Tx) (T : List (List Nat)) (A : List Nat) (c : Nat -> Nat) (T' : List (List Nat)) (A' : List Nat) : Prop where
  tab : a5' T' T'.length L.length
  ne : 1 <= T'.length
  le : T'.length <= T.length
  acc : AccOk A' T'.length
  c0 : c 0 = 0
  lt : ∀ s ∈ reach T, c s < T'.length
  row : ∀ s ∈ reach T, am' T' (c s) = (am' T s).map c
  fin : ∀ s ∈ reach T, (c s ∈ A' ↔ s ∈ A)
  onto : ∀ q < T'.length, ∃ s ∈ reach T, c s = q
  reach : reach T' = List.range T'.length
  apart : ∀ p < T'.length, ∀ q < T'.length, Leq L T' A' p q -> p = q
  num : ao' ((M.reach T).map c) = List.range T'.length
section
variable {L : Tx} {T : List (List Nat)} {A : List Nat} {c : Nat -> Nat} {k : Nat}
theorem vD' {T' : List (List Nat)} (hT : a5' T T.length L.length) {s a : Nat} (hs : s < T.length) (ha : a ∈ L) (e : am' T' (c s) = (am' T s).map c) : stp L T' (c s) a = c (stp L T s a) := by
  rw [gL', gL', e]
  have l1 := bE' hT hs
  have hi : L.idxOf a < L.length := List.idxOf_lt_length_iff.mpr ha
  rw [List.getElem?_map, List.getElem?_eq_getElem (by omega)]
  rfl
theorem fz' {T' : List (List Nat)} {S : List Nat} (hT : a5' T T.length L.length) (hS : ∀ s ∈ S, s < T.length) (hcl : ∀ s ∈ S, ∀ t ∈ am' T s, t ∈ S) (hr : ∀ s ∈ S, am' T' (c s) = (am' T s).map c) :
    ∀ x : Tx, (∀ a ∈ x, a ∈ L) -> ∀ s ∈ S, run L T' (c s) x = c (run L T s x) /\ run L T s x ∈ S
  | [], _, s, hs => ⟨rfl, hs⟩
  | a :: x, hx, s, hs => by
    have ha := hx a (by simp)
    rw [eP', eP', vD' hT (hS s hs) ha (hr s hs)]
    exact fz' hT hS hcl hr x (fun b hb => hx b (by simp [hb])) _ (hcl s hs _ (gN' hT (hS s hs) ha))
theorem dA' {l : List Nat} {k : Nat} (h : l <+: List.range k) : l = List.range l.length := by
  obtain ⟨G, e⟩ := h
  refine List.ext_getElem (by simp) fun i h1 h2 => ?_
  have : (l ++ G)[i]? = (List.range k)[i]? := by rw [e]
  have hk : i < k := by
    have := congrArg List.length e
    simp only [List.length_append, List.length_range] at this
    omega
  rw [List.getElem?_append_left h1, List.getElem?_eq_getElem h1, List.getElem?_eq_getElem (by simpa using hk), List.getElem_range] at this
  rw [List.getElem_range]
  exact Option.some.inj this
theorem db' {F G : List Nat} (c : Nat -> Nat) (h : F <+: G) : ao' (F.map c) <+: ao' (G.map c) := by
  obtain ⟨K, rfl⟩ := h
  rw [List.map_append, ao', ao', df']
  exact dV'
theorem nU' (hT : a5' T T.length L.length) (hL : L.Nodup) (hn : 1 <= T.length) (h : Clz L T A (reach T) c k) (st : ∀ s ∈ reach T, ∀ t ∈ reach T, c s = c t -> key T c s = key T c t) :
    IsLeast L T A c (b5' T (reach T) c k) (f9' A (reach T) c k) := by
  have hS : ∀ s ∈ reach T, s < T.length := fun s hs => gx' hT hn hs
  have hcl : ∀ s ∈ reach T, ∀ t ∈ am' T s, t ∈ reach T := fun s hs t ht => cM' hT hn hs ht
  have lenT : (b5' T (reach T) c k).length = k := by simp [b5']
  have fst : ∀ q < k, bA' (reach T) c q ∈ reach T /\ c (bA' (reach T) c q) = q := by
    intro q hq
    have : q ∈ ao' ((reach T).map c) := by rw [h.num]; exact List.mem_range.mpr hq
    obtain ⟨s, hs, e⟩ := List.mem_map.mp (aK'.mp this)
    unfold bA'
    cases f : (reach T).find? fun s => decide (c s = q) with
    | none =>
      have := List.find?_eq_none.mp f s hs
      simp [e] at this
    | some t => exact ⟨List.mem_of_find?_eq_some f, by have := List.find?_some f; simpa using this⟩
  have c0 : c 0 = 0 := by
    have h1 : ao' (([0] : List Nat).map c) <+: ao' ((reach T).map c) := db' c (by
      have := ca' (T := T) (Nat.zero_le T.length)
      exact this)
    rw [h.num] at h1
    have h2 := dA' h1
    have h3 : ao' (([0] : List Nat).map c) = [c 0] := rfl
    rw [h3] at h2
    simpa using h2
  have lt : ∀ s ∈ reach T, c s < k := fun s hs => h.lt hs
  have gA' : 1 <= k := by have := lt 0 dT'; omega
  have rowL : ∀ q < k, am' (b5' T (reach T) c k) q = (am' T (bA' (reach T) c q)).map c := by
    intro q hq
    unfold am'
    unfold b5'
    rw [List.getElem?_map, List.getElem?_range hq]
    rfl
  have row : ∀ s ∈ reach T, am' (b5' T (reach T) c k) (c s) = (am' T s).map c := by
    intro s hs
    rw [rowL _ (lt s hs)]
    obtain ⟨f1, f2⟩ := fst _ (lt s hs)
    exact congrArg Prod.snd (st _ f1 s hs f2)
  have fin : ∀ s ∈ reach T, (c s ∈ f9' A (reach T) c k ↔ s ∈ A) := by
    intro s hs
    unfold f9'
    rw [List.mem_filter, List.mem_range]
    obtain ⟨f1, f2⟩ := fst _ (lt s hs)
    have := h.ref _ f1 s hs f2
    simp [lt s hs, this]
  have onto : ∀ q < k, ∃ s ∈ reach T, c s = q := fun q hq => ⟨_, (fst q hq).1, (fst q hq).2⟩
  have kle : k <= T.length := by
    have h1 := bL' c (reach T)
    rw [h.num, List.length_range, ci' eQ'] at h1
    exact Nat.le_trans h1 (b0' hT hn _)
  have tab : a5' (b5' T (reach T) c k) (b5' T (reach T) c k).length L.length := by
    refine ⟨rfl, fun r hr => ?_⟩
    unfold b5' at hr
    obtain ⟨q, hq, rfl⟩ := List.mem_map.mp hr
    obtain ⟨f1, f2⟩ := fst q (List.mem_range.mp hq)
    refine ⟨by rw [List.length_map]; exact bE' hT (hS _ f1), fun t ht => ?_⟩
    obtain ⟨u, hu, rfl⟩ := List.mem_map.mp ht
    rw [lenT]
    exact lt u (hcl _ f1 u hu)
  have apart : ∀ p < k, ∀ q < k, Leq L (b5' T (reach T) c k) (f9' A (reach T) c k) p q -> p = q := by
    intro p hp q hq hl
    obtain ⟨f1, f2⟩ := fst p hp
    obtain ⟨g1, g2⟩ := fst q hq
    rw [<- f2, <- g2]
    refine h.co _ f1 _ g1 fun x hx => ?_
    have a1 := fz' hT hS hcl row x hx _ f1
    have a2 := fz' hT hS hcl row x hx _ g1
    have := hl x hx
    rw [<- f2, <- g2, a1.1, a2.1, fin _ a1.2, fin _ a2.2] at this
    exact this
  -- the order in which the classes are found
  have seq : ∀ j, j <= (reach T).length -> bfs (b5' T (reach T) c k) (ao' (((reach T).take j).map c)).length = ao' ((bfs T j).map c) := by
    intro j
    induction j with
    | zero =>
      intro _
      show [0] = ao' [c 0]
      rw [c0]; rfl
    | succ j ih =>
      intro hj
      have ih := ih (by omega)
      have hs : (reach T)[j]? = some (reach T)[j] := List.getElem?_eq_getElem (by omega)
      generalize (reach T)[j] = s at hs
      have hsb := dz' hT hn hs
      have hsm : s ∈ reach T := List.mem_of_getElem? hs
      have tk : (reach T).take (j + 1) = (reach T).take j ++ [s] := by rw [List.take_succ, hs]; rfl
      have hpre : ao' (((reach T).take j).map c) <+: List.range k := by rw [<- h.num]; exact db' c (List.take_prefix ..)
      have hr := dA' hpre
      have hpre2 : ao' (((reach T).take (j + 1)).map c) <+: List.range k := by rw [<- h.num]; exact db' c (List.take_prefix ..)
      have hjl : j <= T.length := by
        have := b0' hT hn T.length
        unfold reach at hj
        omega
      rw [d9' hsb, cz']
      rw [tk, List.map_append, List.map_cons, List.map_nil, bz'] at hpre2 ⊢
      by_cases hc : c s ∈ ao' (((reach T).take j).map c)
      . rw [cv' hc, ih]
        refine (jc' fun y hy => ?_).symm
        obtain ⟨y0, hy0, rfl⟩ := List.mem_map.mp hy
        obtain ⟨s', hs', e'⟩ := List.mem_map.mp (aK'.mp hc)
        have hs'm : s' ∈ reach T := List.mem_of_mem_take hs'
        have rr : (am' T s').map c = (am' T s).map c := congrArg Prod.snd (st _ hs'm _ hsm e')
        have : c y0 ∈ (am' T s').map c := by rw [rr]; exact hy
        obtain ⟨y1, hy1, e1⟩ := List.mem_map.mp this
        refine aK'.mpr (List.mem_map.mpr ⟨y1, ?_, e1⟩)
        obtain ⟨i, hi, ei⟩ := List.getElem_of_mem hs'
        rw [List.length_take] at hi
        rw [List.getElem_take] at ei
        have gi : (reach T)[i]? = some s' := by rw [List.getElem?_eq_getElem (by omega), ei]
        have := d9' (dz' hT hn gi)
        exact (ca' (show i + 1 <= j by omega)).subset (by rw [this]; exact b9'.mpr (.inr hy1))
      . rw [bZ' hc] at hpre2 ⊢
        have hq := dA' hpre2
        have hcs : c s = (ao' (((reach T).take j).map c)).length := by
          have := congrArg (fun l => l[(ao' (((reach T).take j).map c)).length]?) hq
          simp only [List.getElem?_append_right (Nat.le_refl _), Nat.sub_self, List.getElem?_cons_zero, List.length_append, List.length_singleton] at this
          rw [List.getElem?_range (by omega)] at this
          exact Option.some.inj this
        rw [List.length_append, List.length_singleton]
        have hG : ao' ((bfs T j).map c) <+: List.range k := by rw [<- h.num]; exact db' c (ca' hjl)
        have hGr := dA' hG
        have hmem : c s ∈ ao' ((bfs T j).map c) := aK'.mpr (List.mem_map.mpr ⟨s, List.mem_of_getElem? hsb, rfl⟩)
        have hget : (bfs (b5' T (reach T) c k) (ao' (((reach T).take j).map c)).length)[(ao' (((reach T).take j).map c)).length]? = some (c s) := by
          rw [ih, <- hcs]
          rw [hGr] at hmem ⊢
          rw [List.getElem?_range (List.mem_range.mp hmem)]
        rw [d9' hget, ih, row s hsm]
  have rch : reach (b5' T (reach T) c k) = List.range (b5' T (reach T) c k).length := by
    have e := seq (reach T).length (Nat.le_refl _)
    rw [List.take_length, h.num, List.length_range] at e
    have hb : bfs T (reach T).length = reach T := by
      refine dS' hT hn ?_
      have := ca' (T := T) (show (reach T).length <= T.length from b0' hT hn _)
      exact this.length_le
    rw [hb, h.num] at e
    show bfs _ (b5' T (reach T) c k).length = _
    rw [lenT]
    exact e
  refine ⟨tab, by rw [lenT]; exact gA', by rw [lenT]; exact kle, ⟨?_, fun a ha => ?_⟩, c0, by rw [lenT]; exact lt, row, fin, by rw [lenT]; exact onto, rch, by rw [lenT]; exact apart, by rw [lenT]; exact h.num⟩
  . exact List.Pairwise.filter _ List.pairwise_lt_range
  . rw [lenT]
    exact List.mem_range.mp (List.mem_filter.mp ha).1
end
structure Cw (L : Tx) (T : List (List Nat)) (A : List Nat) (S : List Nat) (c : Nat -> Nat) : Prop where
  ref : ∀ s ∈ S, ∀ t ∈ S, c s = c t -> (s ∈ A ↔ t ∈ A)
  co : ∀ s ∈ S, ∀ t ∈ S, Leq L T A s t -> c s = c t
section
variable {L : Tx} {T : List (List Nat)} {A S : List Nat} {c : Nat -> Nat} {k : Nat}
theorem Clz.cw (h : Clz L T A S c k) : Cw L T A S c := ⟨h.ref, h.co⟩
theorem Cw.next (hT : a5' T T.length L.length) (hL : L.Nodup) (hS : ∀ s ∈ S, s < T.length) (hcl : ∀ s ∈ S, ∀ t ∈ am' T s, t ∈ S) (h : Cw L T A S c) : Clz L T A S (jq' S (key T c)) (ao' (S.map (key T c))).length := by
  refine ⟨i4' _, fun s hs t ht e => ?_, fun s hs t ht e => (dX' _ hs ht).mpr ?_⟩
  . have := (dX' _ hs ht).mp e
    exact h.ref s hs t ht (congrArg Prod.fst this)
  . refine Prod.ext (h.co s hs t ht e) (qL' hT hL (hS s hs) (hS t ht) fun a ha => ?_)
    exact h.co _ (hcl s hs _ (gN' hT (hS s hs) ha)) _ (hcl t ht _ (gN' hT (hS t ht) ha)) (e.step ha)
end
def ey' (X : D) (T : List (List Nat)) : Prop := ∀ (s : Nat) (r : List Nat), T[s]? = some r -> ∃ R, pIx X (.int (s : Nat)) = some R /\ ei' R = some (r.map fun t => .int (t : Nat))
def eC' (Y : D) (A : List Nat) : Prop := ∀ s : Nat, pIn (.int (s : Nat)) Y = some (.bl (decide (s ∈ A)))
theorem ey'.tab (T : List (List Nat)) : ey' (cr' T) T := fun s r h => ⟨cK' r, by
  show ati (T.map cK') (s : Int) = _
  rw [k8' (by omega), List.getElem?_map, Int.toNat_natCast, h]; rfl, rfl⟩
theorem eC'.acc (A : List Nat) : eC' (c2' A) A := fun s => by
  have h := r1' A s (Q := fun d => d = .bl (decide (s ∈ A)))
  have : wD (pIn (.int (s : Nat)) (c2' A)) (fun d => d = .bl (decide (s ∈ A))) := by rw [h]
  rw [au'] at this
  cases e : pIn (.int (s : Nat)) (c2' A) with
  | none => rw [e] at this; exact this.elim
  | some d => rw [e] at this; exact congrArg some this
def ixo {γ : Type} [DecidableEq γ] (G : List γ) (a : γ) : Nat := G.idxOf a
theorem lN' {γ : Type} [DecidableEq γ] {G G' : List γ} {a : γ} (h : G <+: G') (hm : a ∈ G) : ixo G' a = ixo G a := by
  obtain ⟨K, e⟩ := h
  unfold ixo
  rw [<- e, List.idxOf_append, if_pos hm]
theorem rM' {γ : Type} [DecidableEq γ] {G : List γ} {a : γ} (hm : a ∉ G) : ixo (G ++ [a]) a = G.length := by
  unfold ixo
  rw [List.idxOf_append, if_neg hm]
  simp
theorem tj' {γ : Type} [DecidableEq γ] (S : List Nat) (f : Nat -> γ) (s : Nat) : jq' S f s = ixo (ao' (S.map f)) (f s) := rfl
theorem oH' {γ : Type} [DecidableEq γ] (G : List γ) (k : γ) : (G.map fun a => (a, D.int (ixo G a : Nat))).lookup k = if k ∈ G then some (D.int (ixo G k : Nat)) else none := by
  have go : ∀ (l : List γ) (h : γ -> D), (l.map fun a => (a, h a)).lookup k = if k ∈ l then some (h k) else none := by
    intro l h
    induction l with
    | nil => rfl
    | cons a l ih =>
      rw [List.map_cons, List.lookup_cons, ih]
      by_cases q : k = a
      . subst q; simp
      . have : (k == a) = false := by simpa using q
        simp [this, q]
  exact go G _
theorem lJ' {γ δ : Type} [DecidableEq γ] {l : List (γ × δ)} {k : γ} (h : l.lookup k = none) (d : δ) : (l ++ [(k, d)]).lookup k = some d := by
  rw [List.lookup_append, h]
  simp
section
variable {L : Tx} {T : List (List Nat)} {A : List Nat} {c c' : Nat -> Nat} {T1 T2 : List (List Nat)} {A1 A2 : List Nat}
end
theorem kv' {S : List Nat} {c : Nat -> Nat} {s q : Nat} (h : q ∈ S.map c) : bA' (S ++ [s]) c q = bA' S c q := by
  obtain ⟨t, ht, rfl⟩ := List.mem_map.mp h
  unfold bA'
  rw [List.find?_append]
  cases e : S.find? fun s => decide (c s = c t) with
  | none =>
    have := List.find?_eq_none.mp e t ht
    simp at this
  | some u => rfl
theorem kw' {S : List Nat} {c : Nat -> Nat} {s : Nat} (h : c s ∉ S.map c) : bA' (S ++ [s]) c (c s) = s := by
  unfold bA'
  rw [List.find?_append]
  have : (S.find? fun t => decide (c t = c s)) = none := by
    rw [List.find?_eq_none]
    intro t ht e
    exact h (List.mem_map.mpr ⟨t, ht, by simpa using e⟩)
  rw [this]
  simp
def Pl (y : Option O) : Prop := y = none \/ ∃ d, y = some (.fz d)
theorem Pl.keep {y : Option O} (h : Pl y) : rL' (some y) = y := by rcases h with rfl | ⟨d, rfl⟩ <;> rfl
end M
namespace M
section
variable {L : Tx} {T T' U : List (List Nat)} {A A' B T1 A1 T2 A2 : List Nat} {m : Nat} {c : Nat -> Nat}
theorem qR' {m : Nat} (hT : a5' T T.length m) (hn : 1 <= T.length) (hT' : a5' T' T'.length m) (hn' : 1 <= T'.length) (c0 : c 0 = 0) (row : ∀ s ∈ reach T, am' T' (c s) = (am' T s).map c) :
    reach T' = ao' ((reach T).map c) := by
  have seq : ∀ j, j <= (reach T).length -> bfs T' (ao' (((reach T).take j).map c)).length = ao' ((bfs T j).map c) := by
    intro j
    induction j with
    | zero =>
      intro _
      show [0] = ao' [c 0]
      rw [c0]; rfl
    | succ j ih =>
      intro hj
      have ih := ih (by omega)
      have hs : (reach T)[j]? = some (reach T)[j] := List.getElem?_eq_getElem (by omega)
      generalize (reach T)[j] = s at hs
      have hsb := dz' hT hn hs
      have hsm : s ∈ reach T := List.mem_of_getElem? hs
      have tk : (reach T).take (j + 1) = (reach T).take j ++ [s] := by rw [List.take_succ, hs]; rfl
      have hjl : j <= T.length := by
        have := b0' hT hn T.length
        unfold reach at hj
        omega
      rw [d9' hsb, cz']
      rw [tk, List.map_append, List.map_cons, List.map_nil, bz']
      by_cases hc : c s ∈ ao' (((reach T).take j).map c)
      . rw [cv' hc, ih]
        refine (jc' fun y hy => ?_).symm
        obtain ⟨y0, hy0, rfl⟩ := List.mem_map.mp hy
        obtain ⟨s', hs', e'⟩ := List.mem_map.mp (aK'.mp hc)
        have hs'm : s' ∈ reach T := List.mem_of_mem_take hs'
        have rr : (am' T s').map c = (am' T s).map c := by rw [<- row _ hs'm, <- row _ hsm, e']
        have : c y0 ∈ (am' T s').map c := by rw [rr]; exact hy
        obtain ⟨y1, hy1, e1⟩ := List.mem_map.mp this
        refine aK'.mpr (List.mem_map.mpr ⟨y1, ?_, e1⟩)
        obtain ⟨i, hi, ei⟩ := List.getElem_of_mem hs'
        rw [List.length_take] at hi
        rw [List.getElem_take] at ei
        have gi : (reach T)[i]? = some s' := by rw [List.getElem?_eq_getElem (by omega), ei]
        have := d9' (dz' hT hn gi)
        exact (ca' (show i + 1 <= j by omega)).subset (by rw [this]; exact b9'.mpr (.inr hy1))
      . rw [bZ' hc, List.length_append, List.length_singleton]
        have hpre : ao' (((reach T).take (j + 1)).map c) <+: ao' ((bfs T (j + 1)).map c) := by
          refine db' c ?_
          have h1 : (bfs T (j + 1)) <+: reach T := by
            by_cases q : j + 1 <= T.length
            . exact ca' q
            . have := gD' (T := T) (j := T.length) (b0' hT hn _) (i := j + 1) (by omega)
              rw [this]; exact List.prefix_refl _
          have h2 : (reach T).take (j + 1) <+: reach T := List.take_prefix ..
          refine List.prefix_of_prefix_length_le h2 h1 ?_
          rw [List.length_take]
          have h3 := (List.getElem?_eq_some_iff.mp hsb).1
          have h4 := (jm' (T := T) (j := j)).length_le
          omega
        have hpre' : ao' (((reach T).take (j + 1)).map c) <+: ao' ((bfs T j).map c) := by
          refine db' c ?_
          have h1 : (bfs T j) <+: reach T := ca' hjl
          refine List.prefix_of_prefix_length_le (List.take_prefix ..) h1 ?_
          rw [List.length_take]
          have h3 := (List.getElem?_eq_some_iff.mp hsb).1
          omega
        rw [tk, List.map_append, List.map_cons, List.map_nil, bz', bZ' hc] at hpre'
        have hget : (bfs T' (ao' (((reach T).take j).map c)).length)[(ao' (((reach T).take j).map c)).length]? = some (c s) := by
          rw [ih]
          obtain ⟨G, eG⟩ := hpre'
          rw [<- eG, List.append_assoc, List.getElem?_append_right (Nat.le_refl _), Nat.sub_self]
          rfl
        rw [d9' hget, ih, row s hsm]
  have e := seq (reach T).length (Nat.le_refl _)
  rw [List.take_length] at e
  have hb : bfs T (reach T).length = reach T := by
    refine dS' hT hn ?_
    have := ca' (T := T) (show (reach T).length <= T.length from b0' hT hn _)
    exact this.length_le
  rw [hb] at e
  rw [<- e]
  refine (dS' hT' hn' ?_).symm
  rw [e]
  exact Nat.le_refl _
theorem oB' (hT : a5' T T.length L.length) (hL : L.Nodup) (hn : 1 <= T.length) : ∀ j, ∀ s ∈ bfs T j, ∃ x : Tx, (∀ a ∈ x, a ∈ L) /\ run L T 0 x = s := by
  intro j
  induction j with
  | zero =>
    intro s hs
    have : s = 0 := by simpa [bfs] using hs
    exact ⟨[], nofun, by rw [this]; rfl⟩
  | succ j ih =>
    intro s hs
    by_cases hq : j < (bfs T j).length
    . have e : (bfs T j)[j]? = some (bfs T j)[j] := List.getElem?_eq_getElem hq
      generalize (bfs T j)[j] = t at e
      rw [d9' e] at hs
      rcases b9'.mp hs with h | h
      . exact ih s h
      . have htm := List.mem_of_getElem? e
        obtain ⟨x, hx, hr⟩ := ih t htm
        have htl := hG' hT hn htm
        obtain ⟨i, hi, ei⟩ := List.getElem_of_mem h
        have hl := bE' hT htl
        have hi' : i < L.length := by omega
        refine ⟨x ++ [L[i]], fun a ha => ?_, ?_⟩
        . rcases List.mem_append.mp ha with q | q
          . exact hx a q
          . rw [List.mem_singleton.mp q]; exact List.getElem_mem hi'
        . rw [iQ', hr, gO' hL hi', List.getElem?_eq_getElem hi, ei]; rfl
    . exact ih s (by rw [gD' (Nat.le_of_not_lt hq) (Nat.le_succ j)] at hs; exact hs)
theorem IsLeast.run0 {T1 : List (List Nat)} (hT : a5' T T.length L.length) (hn : 1 <= T.length) (h : IsLeast L T A c T1 A1) {x : Tx} (hx : ∀ a ∈ x, a ∈ L) : run L T1 0 x ∈ A1 ↔ run L T 0 x ∈ A := by
  have hS : ∀ s ∈ M.reach T, s < T.length := fun s hs => gx' hT hn hs
  have hcl : ∀ s ∈ M.reach T, ∀ t ∈ am' T s, t ∈ M.reach T := fun s hs t ht => cM' hT hn hs ht
  have := fz' hT hS hcl h.row x hx 0 dT'
  rw [h.c0] at this
  rw [this.1, h.fin _ this.2]
theorem IsLeast.lang {T1 T2 : List (List Nat)} {c' : Nat -> Nat} (hL : L.Nodup) (hT : a5' T T.length L.length) (hn : 1 <= T.length) (hU : a5' U U.length L.length) (hn' : 1 <= U.length) (h1 : IsLeast L T A c T1 A1) (h2 : IsLeast L U B c' T2 A2)
    (hl : ∀ x : Tx, (∀ a ∈ x, a ∈ L) -> (run L T 0 x ∈ A ↔ run L U 0 x ∈ B)) : T1 = T2 /\ A1 = A2 := by
  have hl' : ∀ x : Tx, (∀ a ∈ x, a ∈ L) -> (run L T1 0 x ∈ A1 ↔ run L T2 0 x ∈ A2) := fun x hx => by rw [h1.run0 hT hn hx, h2.run0 hU hn' hx]; exact hl x hx
  have rw1 : ∀ q < T1.length, ∃ x : Tx, (∀ a ∈ x, a ∈ L) /\ run L T1 0 x = q := fun q hq => by
    have : q ∈ M.reach T1 := by rw [h1.reach]; exact List.mem_range.mpr hq
    exact oB' h1.tab hL h1.ne _ q this
  -- the state of the second that says the same
  have ex : ∀ q, ∃ p, q < T1.length -> p < T2.length /\ ∀ x : Tx, (∀ a ∈ x, a ∈ L) -> (run L T1 q x ∈ A1 ↔ run L T2 p x ∈ A2) := fun q => by
    by_cases hq : q < T1.length
    . obtain ⟨y, hy, e⟩ := rw1 q hq
      refine ⟨run L T2 0 y, fun _ => ⟨nz' h2.tab (Nat.lt_of_lt_of_le Nat.zero_lt_one h2.ne) hy, fun x hx => ?_⟩⟩
      have := hl' (y ++ x) (fun a ha => (List.mem_append.mp ha).elim (hy a) (hx a))
      rw [ch', ch', e] at this
      exact this
    . exact ⟨0, fun h => absurd h hq⟩
  obtain ⟨f, hf⟩ : ∃ f : Nat -> Nat, ∀ q < T1.length, f q < T2.length /\ ∀ x : Tx, (∀ a ∈ x, a ∈ L) -> (run L T1 q x ∈ A1 ↔ run L T2 (f q) x ∈ A2) := ⟨fun q => (ex q).choose, fun q hq => (ex q).choose_spec hq⟩
  have z1 : 0 < T1.length := h1.ne
  have z2 : 0 < T2.length := h2.ne
  have f0 : f 0 = 0 := h2.apart _ (hf 0 z1).1 _ z2 fun x hx => by rw [<- (hf 0 z1).2 x hx]; exact hl' x hx
  have fstp : ∀ q < T1.length, ∀ a ∈ L, f (stp L T1 q a) = stp L T2 (f q) a := fun q hq a ha => by
    obtain ⟨_, _, _, l1⟩ := gM' h1.tab hq ha
    obtain ⟨_, _, _, l2⟩ := gM' h2.tab (hf q hq).1 ha
    refine h2.apart _ (hf _ l1).1 _ l2 fun x hx => ?_
    rw [<- (hf _ l1).2 x hx]
    exact (hf q hq).2 (a :: x) (fun b hb => (List.mem_cons.mp hb).elim (fun e => e ▸ ha) (hx b))
  have row : ∀ q ∈ M.reach T1, am' T2 (f q) = (am' T1 q).map f := fun q hq => by
    have hq : q < T1.length := by rw [h1.reach] at hq; exact List.mem_range.mp hq
    have la := bE' h2.tab (hf q hq).1
    have lb := bE' h1.tab hq
    refine List.ext_getElem (by rw [List.length_map]; omega) fun i i1 i2 => ?_
    have hi : i < L.length := by omega
    have e := fstp q hq L[i] (List.getElem_mem hi)
    rw [gO' hL hi, gO' hL hi, List.getElem?_eq_getElem i1, List.getElem?_eq_getElem (by omega)] at e
    rw [List.getElem_map]
    exact e.symm
  have rm := qR' h1.tab h1.ne h2.tab h2.ne f0 row
  rw [h1.reach, h2.reach] at rm
  have inj : ∀ p ∈ List.range T1.length, ∀ q ∈ List.range T1.length, f p = f q -> p = q := fun p hp q hq e => by
    have hp := List.mem_range.mp hp
    have hq := List.mem_range.mp hq
    exact h1.apart p hp q hq fun x hx => by rw [(hf p hp).2 x hx, (hf q hq).2 x hx, e]
  rw [dF' f _ inj, ci' List.nodup_range] at rm
  have len : T2.length = T1.length := by have := congrArg List.length rm; simpa using this
  have fid : ∀ q < T1.length, f q = q := fun q hq => by
    have := congrArg (fun l => l[q]?) rm
    simp only [List.getElem?_map] at this
    rw [List.getElem?_range (by omega), List.getElem?_range hq] at this
    simpa using this.symm
  constructor
  . refine List.ext_getElem len.symm fun i i1 i2 => ?_
    have hr := row i (by rw [h1.reach]; exact List.mem_range.mpr i1)
    rw [fid i i1] at hr
    have e1 : T1[i] = am' T1 i := by unfold am'; rw [List.getElem?_eq_getElem i1]; rfl
    have e2 : T2[i] = am' T2 i := by unfold am'; rw [List.getElem?_eq_getElem i2]; rfl
    rw [e1, e2, hr]
    conv => lhs; rw [<- List.map_id (am' T1 i)]
    refine List.map_congr_left fun t ht => ?_
    exact (fid t (dy' h1.tab ht)).symm
  . refine sf' h1.acc.asc h2.acc.asc fun q => ?_
    constructor
    . intro h
      have hq := h1.acc.lt q h
      have := (hf q hq).2 [] nofun
      rw [fid q hq] at this
      exact this.mp h
    . intro h
      have hq : q < T1.length := by rw [<- len]; exact h2.acc.lt q h
      have := (hf q hq).2 [] nofun
      rw [fid q hq] at this
      exact this.mpr h
end
end M
namespace M
section
variable {γ : Type} [DecidableEq γ] (L : Tx) (sx : γ -> Nat -> γ) (g0 : γ)
def nxG (g : γ) : List γ := L.map (sx g)
def xbf : Nat -> List γ
  | 0 => [g0]
  | j + 1 => match (xbf j)[j]? with
    | some g => cG' (xbf j) (nxG L sx g)
    | none => xbf j
def wh' (g : γ) (z : Tx) : γ := z.foldl sx g
def Rch (g : γ) : Prop := ∃ z : Tx, (∀ c ∈ z, c ∈ L) /\ g = wh' sx g0 z
def Few (N : Nat) : Prop := ∀ l : List γ, l.Nodup -> (∀ g ∈ l, Rch L sx g0 g) -> l.length <= N
def hS' (N : Nat) : List γ := xbf L sx g0 N
def Al' (F : List γ) (g : γ) : List Nat := L.map fun c => ixo F (sx g c)
def t7' (F : List γ) : List (List Nat) := F.map (Al' L sx F)
def CP' (F : List γ) (p : γ -> Bool) : List Nat := (List.range F.length).filter fun q => ((F[q]?).map p).getD false
variable {L sx g0}
theorem u8' {j : Nat} : xbf L sx g0 j <+: xbf L sx g0 (j + 1) := by
  show xbf L sx g0 j <+: (match (xbf L sx g0 j)[j]? with | some s => cG' (xbf L sx g0 j) (nxG L sx s) | none => xbf L sx g0 j)
  split
  . exact dV'
  . exact List.prefix_refl _
theorem sq' {i j : Nat} (h : i <= j) : xbf L sx g0 i <+: xbf L sx g0 j := by
  induction h with
  | refl => exact List.prefix_refl _
  | step _ ih => exact ih.trans u8'
theorem mm' : ∀ j : Nat, (xbf L sx g0 j).Nodup
  | 0 => by simp [xbf]
  | j + 1 => by
    show (match (xbf L sx g0 j)[j]? with | some s => cG' (xbf L sx g0 j) (nxG L sx s) | none => xbf L sx g0 j).Nodup
    split
    . exact fH' (mm' j)
    . exact mm' j
theorem rC' {g : γ} {z : Tx} {c : Nat} : wh' sx g (z ++ [c]) = sx (wh' sx g z) c := by unfold wh'; rw [List.foldl_append]; rfl
theorem iH' : ∀ j : Nat, ∀ g ∈ xbf L sx g0 j, Rch L sx g0 g
  | 0, g, h => by
    have : g = g0 := by simpa [xbf] using h
    exact ⟨[], nofun, this⟩
  | j + 1, g, h => by
    have h : g ∈ (match (xbf L sx g0 j)[j]? with | some s => cG' (xbf L sx g0 j) (nxG L sx s) | none => xbf L sx g0 j) := h
    split at h
    . rename_i s e
      rcases b9'.mp h with q | q
      . exact iH' j g q
      . obtain ⟨c, hc, rfl⟩ := List.mem_map.mp q
        obtain ⟨z, hz, rfl⟩ := iH' j s (List.mem_of_getElem? e)
        exact ⟨z ++ [c], fun d hd => (List.mem_append.mp hd).elim (hz d) (fun q => List.mem_singleton.mp q ▸ hc), rC'.symm⟩
    . exact iH' j g h
theorem iG' {j : Nat} (h : (xbf L sx g0 j).length <= j) : ∀ {i : Nat}, j <= i -> xbf L sx g0 i = xbf L sx g0 j := by
  intro i hi
  induction hi with
  | refl => rfl
  | @step i hi ih =>
    show (match (xbf L sx g0 i)[i]? with | some s => cG' (xbf L sx g0 i) (nxG L sx s) | none => xbf L sx g0 i) = _
    have : (xbf L sx g0 i)[i]? = none := by rw [ih]; exact List.getElem?_eq_none (Nat.le_trans h hi)
    rw [this, ih]
theorem xy' {j : Nat} {g : γ} (h : (xbf L sx g0 j)[j]? = some g) : xbf L sx g0 (j + 1) = cG' (xbf L sx g0 j) (nxG L sx g) := by
  show (match (xbf L sx g0 j)[j]? with | some s => cG' (xbf L sx g0 j) (nxG L sx s) | none => xbf L sx g0 j) = _
  rw [h]
variable {N : Nat}
theorem Few.len (h : Few L sx g0 N) (j : Nat) : (xbf L sx g0 j).length <= N := h _ (mm' j) (iH' j)
theorem Few.all (h : Few L sx g0 N) {j : Nat} (hj : (xbf L sx g0 j).length <= j) : xbf L sx g0 j = hS' L sx g0 N := by
  by_cases q : j <= N
  . exact (iG' hj q).symm
  . exact iG' (h.len _) (by omega)
theorem Few.pre (h : Few L sx g0 N) (j : Nat) : xbf L sx g0 j <+: hS' L sx g0 N := by
  by_cases q : j <= N
  . exact sq' q
  . have : xbf L sx g0 j = hS' L sx g0 N := iG' (h.len _) (by omega)
    rw [this]
    exact List.prefix_refl _
theorem Few.get (h : Few L sx g0 N) {j : Nat} {g : γ} (e : (hS' L sx g0 N)[j]? = some g) : (xbf L sx g0 j)[j]? = some g := by
  have h1 : j < (xbf L sx g0 j).length := by
    rcases Nat.lt_or_ge j (xbf L sx g0 j).length with q | q
    . exact q
    . have := h.all q
      rw [<- this] at e
      have := (List.getElem?_eq_some_iff.mp e).1
      omega
  obtain ⟨G, eG⟩ := h.pre j
  rw [<- eG, List.getElem?_append_left h1] at e
  exact e
theorem Few.nd : (hS' L sx g0 N).Nodup := mm' N
theorem Few.zero (h : Few L sx g0 N) : (hS' L sx g0 N)[0]? = some g0 := by
  obtain ⟨G, e⟩ := h.pre 0
  rw [<- e]
  rfl
theorem Few.closed (h : Few L sx g0 N) {g : γ} (hg : g ∈ hS' L sx g0 N) {c : Nat} (hc : c ∈ L) : sx g c ∈ hS' L sx g0 N := by
  obtain ⟨j, hj, e⟩ := List.getElem_of_mem hg
  have e1 : (hS' L sx g0 N)[j]? = some g := by rw [List.getElem?_eq_getElem hj, e]
  have := xy' (h.get e1)
  exact (h.pre (j + 1)).subset (by rw [this]; exact b9'.mpr (.inr (List.mem_map.mpr ⟨c, hc, rfl⟩)))
theorem Few.mono {N' : Nat} (h : Few L sx g0 N) (hn : N <= N') : Few L sx g0 N' := fun l a b => Nat.le_trans (h l a b) hn
theorem yY' {F : List γ} {g : γ} (h : g ∈ F) : ixo F g < F.length := List.idxOf_lt_length_iff.mpr h
theorem wm' {F : List γ} {g : γ} (h : g ∈ F) : F[ixo F g]? = some g := by
  unfold ixo
  rw [List.getElem?_eq_getElem (List.idxOf_lt_length_iff.mpr h), List.getElem_idxOf]
theorem Few.tab (h : Few L sx g0 N) : a5' (t7' L sx (hS' L sx g0 N)) (t7' L sx (hS' L sx g0 N)).length L.length := by
  refine ⟨rfl, fun r hr => ?_⟩
  obtain ⟨g, hg, rfl⟩ := List.mem_map.mp hr
  refine ⟨by simp [Al'], fun t ht => ?_⟩
  obtain ⟨c, hc, rfl⟩ := List.mem_map.mp ht
  rw [show (t7' L sx (hS' L sx g0 N)).length = (hS' L sx g0 N).length by simp [t7']]
  exact yY' (h.closed hg hc)
theorem Few.ne (h : Few L sx g0 N) : 1 <= (hS' L sx g0 N).length := by
  have := (List.getElem?_eq_some_iff.mp h.zero).1
  omega
theorem Few.run (h : Few L sx g0 N) : ∀ (z : Tx) (s : Nat) (g : γ), (∀ c ∈ z, c ∈ L) -> (hS' L sx g0 N)[s]? = some g -> (hS' L sx g0 N)[M.run L (t7' L sx (hS' L sx g0 N)) s z]? = some (wh' sx g z)
  | [], s, g, _, e => e
  | c :: z, s, g, hz, e => by
    have hc := hz c (by simp)
    have hg := List.mem_of_getElem? e
    rw [eP']
    have e1 : stp L (t7' L sx (hS' L sx g0 N)) s c = ixo (hS' L sx g0 N) (sx g c) := by
      unfold stp t7'
      rw [List.getElem?_map, e]
      show ((Al' L sx (hS' L sx g0 N) g)[L.idxOf c]?).getD 0 = _
      unfold Al'
      rw [List.getElem?_map, List.getElem?_eq_getElem (List.idxOf_lt_length_iff.mpr hc), List.getElem_idxOf]
      rfl
    rw [e1]
    exact Few.run h z _ (sx g c) (fun d hd => hz d (by simp [hd])) (wm' (h.closed hg hc))
theorem Few.says (h : Few L sx g0 N) (p : γ -> Bool) {z : Tx} (hz : ∀ c ∈ z, c ∈ L) : M.run L (t7' L sx (hS' L sx g0 N)) 0 z ∈ CP' (hS' L sx g0 N) p ↔ p (wh' sx g0 z) = true := by
  have e := h.run z 0 g0 hz h.zero
  have hl := (List.getElem?_eq_some_iff.mp e).1
  unfold CP'
  rw [List.mem_filter, e]
  simp only [List.mem_range, Option.map_some, Option.getD_some]
  exact ⟨fun q => q.2, fun q => ⟨hl, q⟩⟩
end
end M
namespace M
theorem e1' (c : Nat) : ∀ l : List Tx, (cZ' [c] l).length <= (l.map List.length).sum + l.length
  | [] => by simp [cZ']
  | [a] => by simp [cZ']
  | a :: b :: r => by
    have ih := e1' c (b :: r)
    show (a ++ ([c] ++ cZ' [c] (b :: r))).length <= _
    rw [List.length_append, List.length_append, List.length_singleton, List.map_cons, List.sum_cons, List.length_cons]
    omega
end M
namespace M
def wlt (x y : Tx) : Prop := x.length < y.length \/ (x.length = y.length /\ x < y)
def wle (x y : Tx) : Prop := x = y \/ wlt x y
theorem oo' (x : Tx) : ¬ wlt x x := fun h => h.elim (fun h => Nat.lt_irrefl _ h) (fun h => List.lt_irrefl x h.2)
theorem pb' {x y z : Tx} (h1 : wlt x y) (h2 : wlt y z) : wlt x z := by
  rcases h1 with h1 | ⟨e1, h1⟩ <;> rcases h2 with h2 | ⟨e2, h2⟩
  . exact .inl (by omega)
  . exact .inl (by omega)
  . exact .inl (by omega)
  . exact .inr ⟨by omega, List.lt_trans h1 h2⟩
theorem jv' {x y : Tx} (h1 : wle x y) (h2 : wle y x) : x = y := by
  rcases h1 with h1 | h1
  . exact h1
  . rcases h2 with h2 | h2
    . exact h2.symm
    . exact absurd (pb' h1 h2) (oo' x)
section
variable {γ : Type} [DecidableEq γ] (sx : γ -> Nat -> γ)
def Dz' (p : γ × Tx) (F : List (γ × Tx)) (c : Nat) : List (γ × Tx) := if sx p.1 c ∈ F.map (·.1) then F else F ++ [(sx p.1 c, p.2 ++ [c])]
variable (L : Tx) (g0 : γ)
def xw : Nat -> List (γ × Tx)
  | 0 => [(g0, [])]
  | j + 1 => match (xw j)[j]? with
    | some p => L.foldl (Dz' sx p) (xw j)
    | none => xw j
variable {sx L g0}
structure XwOk (sx : γ -> Nat -> γ) (L : Tx) (g0 : γ) (j : Nat) : Prop where
  asc : (xw sx L g0 j).Pairwise (fun a b => wlt a.2 b.2)
  led : ∀ q ∈ xw sx L g0 j, (∀ c ∈ q.2, c ∈ L) /\ q.1 = wh' sx g0 q.2
  old : ∀ (i : Nat) (q : γ × Tx), (xw sx L g0 j)[i]? = some q -> q.2 = [] \/ ∃ (k : Nat) (r : γ × Tx) (c : Nat), k < j /\ (xw sx L g0 j)[k]? = some r /\ q.2 = r.2 ++ [c]
  small : ∀ (k : Nat) (r : γ × Tx), k < j -> (xw sx L g0 j)[k]? = some r -> ∀ c ∈ L, ∃ q ∈ xw sx L g0 j, q.1 = sx r.1 c /\ wle q.2 (r.2 ++ [c])
def CN' (L : Tx) (P : Tx -> Prop) (x : Tx) : Prop := (∀ c ∈ x, c ∈ L) /\ P x /\ ∀ z, (∀ c ∈ z, c ∈ L) -> P z -> wle x z
theorem CN'.uniq {P Q : Tx -> Prop} {x y : Tx} (h1 : CN' L P x) (h2 : CN' L Q y) (h : ∀ z, (∀ c ∈ z, c ∈ L) -> (P z ↔ Q z)) : x = y :=
  jv' (h1.2.2 y h2.1 ((h y h2.1).mpr h2.2.1)) (h2.2.2 x h1.1 ((h x h1.1).mp h1.2.1))
end
end M
namespace M
section
variable {X : Exc -> PSt -> Prop} {ρ : PSt}
end
end M
namespace M
section
variable {α : Type} (mul : α -> α -> α) (one : α) (S : α -> Prop)
structure Mon (l : List α) : Prop where
  cl : ∀ {a b}, S a -> S b -> S (mul a b)
  as : ∀ {a b c}, S a -> S b -> S c -> mul (mul a b) c = mul a (mul b c)
  o : S one
  l1 : ∀ {a}, S a -> mul one a = a
  r1 : ∀ {a}, S a -> mul a one = a
  fin : ∀ a, S a -> a ∈ l
def pw (a : α) : Nat -> α
  | 0 => a
  | n + 1 => mul (pw a n) a
def Idm (e : α) : Prop := mul e e = e
def Om (a e : α) : Prop := ∃ n, e = pw mul a n /\ Idm mul e
def Ker (d : α) : Prop := S d /\ ∀ y, S y -> ∃ u v, S u /\ S v /\ d = mul u (mul y v)
end
section
variable {α : Type} {mul : α -> α -> α} {one : α} {S : α -> Prop} {l : List α}
theorem Mon.pw (h : Mon mul one S l) {a : α} (ha : S a) : ∀ n, S (M.pw mul a n)
  | 0 => ha
  | n + 1 => h.cl (h.pw ha n) ha
theorem Mon.pw_add (h : Mon mul one S l) {a : α} (ha : S a) (m : Nat) : ∀ n, mul (M.pw mul a m) (M.pw mul a n) = M.pw mul a (m + n + 1)
  | 0 => rfl
  | n + 1 => by
    show mul (M.pw mul a m) (mul (M.pw mul a n) a) = mul (M.pw mul a (m + n + 1)) a
    rw [<- h.as (h.pw ha m) (h.pw ha n) ha, h.pw_add ha m n]
theorem Mon.pw_comm (h : Mon mul one S l) {a : α} (ha : S a) (m n : Nat) : mul (M.pw mul a m) (M.pw mul a n) = mul (M.pw mul a n) (M.pw mul a m) := by
  rw [h.pw_add ha, h.pw_add ha, Nat.add_comm m n]
theorem Mon.om_ex (h : Mon mul one S l) {a : α} (ha : S a) : ∃ n, n <= l.length * (l.length + 1) /\ Idm mul (M.pw mul a n) := by
  have hnd : ¬ ((List.range (l.length + 1)).map (M.pw mul a)).Nodup := fun hn => by
    have := List.Nodup.length_le_of_subset hn (l₂ := l) fun x hx => by
      obtain ⟨n, _, rfl⟩ := List.mem_map.1 hx
      exact h.fin _ (h.pw ha n)
    simp at this
    omega
  obtain ⟨i, j, hij, hj, e⟩ : ∃ i j, i < j /\ j <= l.length /\ M.pw mul a i = M.pw mul a j := by
    refine Classical.byContradiction fun hc => hnd ?_
    rw [List.nodup_iff_pairwise_ne, List.pairwise_map]
    refine List.Pairwise.imp_of_mem ?_ List.pairwise_lt_range
    intro a b ha hb hab e
    exact hc ⟨a, b, hab, by have := List.mem_range.1 hb; omega, e⟩
  have per : ∀ k, M.pw mul a (i + k + (j - i)) = M.pw mul a (i + k) := by
    intro k
    cases k with
    | zero => rw [Nat.add_zero, show i + (j - i) = j by omega, e]
    | succ k =>
      have e1 := h.pw_add ha i k
      have e2 := h.pw_add ha j k
      rw [show i + (k + 1) + (j - i) = j + k + 1 by omega, <- e2, <- e, e1]
      rfl
  have pers : ∀ k m, M.pw mul a (i + k + m * (j - i)) = M.pw mul a (i + k) := by
    intro k m
    induction m with
    | zero => rw [Nat.zero_mul, Nat.add_zero]
    | succ m ih =>
      rw [Nat.add_mul, Nat.one_mul, <- Nat.add_assoc, show i + k + m * (j - i) + (j - i) = i + (k + m * (j - i)) + (j - i) by omega, per, <- Nat.add_assoc, ih]
  have hp : 1 <= j - i := by omega
  have hge : i + 1 <= (i + 1) * (j - i) := Nat.le_mul_of_pos_right _ hp
  have hle : (i + 1) * (j - i) <= (l.length + 1) * l.length := Nat.mul_le_mul (by omega) (by omega)
  refine ⟨(i + 1) * (j - i) - 1, by rw [Nat.mul_comm l.length]; omega, ?_⟩
  show mul _ _ = _
  rw [h.pw_add ha]
  have := pers ((i + 1) * (j - i) - 1 - i) (i + 1)
  rw [show i + ((i + 1) * (j - i) - 1 - i) = (i + 1) * (j - i) - 1 by omega] at this
  rw [<- this]
  congr 1
  omega
theorem Om.s (h : Mon mul one S l) {a e : α} (ha : S a) (o : Om mul a e) : S e := by
  obtain ⟨n, rfl, _⟩ := o
  exact h.pw ha n
theorem Mon.pw_split (h : Mon mul one S l) {a : α} (ha : S a) (n : Nat) : ∃ w, S w /\ M.pw mul a n = mul a w /\ M.pw mul a n = mul w a := by
  cases n with
  | zero => exact ⟨one, h.o, (h.r1 ha).symm, (h.l1 ha).symm⟩
  | succ n =>
    refine ⟨M.pw mul a n, h.pw ha n, ?_, rfl⟩
    have := h.pw_add ha 0 n
    rw [show 0 + n + 1 = n + 1 by omega] at this
    exact this.symm
theorem Ker.mul_l (h : Mon mul one S l) {d a : α} (hd : Ker mul S d) (ha : S a) : Ker mul S (mul a d) := by
  refine ⟨h.cl ha hd.1, fun y hy => ?_⟩
  obtain ⟨u, v, hu, hv, e⟩ := hd.2 y hy
  refine ⟨mul a u, v, h.cl ha hu, hv, ?_⟩
  rw [h.as ha hu (h.cl hy hv), <- e]
theorem Ker.pw (h : Mon mul one S l) {d : α} (hd : Ker mul S d) : ∀ n, Ker mul S (M.pw mul d n)
  | 0 => hd
  | n + 1 => Ker.mul_l h hd (h.pw hd.1 n)
theorem Ker.below (h : Mon mul one S l) {e f : α} (he : Ker mul S e) (ie : Idm mul e) (sf : S f) (jf : Idm mul f) (h1 : mul e f = f) (h2 : mul f e = f) : f = e := by
  have se := he.1
  obtain ⟨u, v, su, sv, eq⟩ := he.2 f sf
  have sfv := h.cl sf sv
  have sb := h.cl sfv se
  have sa := h.cl se (h.cl su sf)
  generalize ha : mul e (mul u f) = a at *
  generalize hb : mul (mul f v) e = b at *
  have ab : mul a b = e := by
    rw [<- ha, <- hb, h.as se (h.cl su sf) (h.cl sfv se), h.as su sf (h.cl sfv se), <- h.as sf sfv se, <- h.as sf sf sv, show mul f f = f from jf, <- h.as su sfv se, <- eq, show mul e e = e from ie]
    exact ie
  have eb : mul e b = b := by rw [<- hb, <- h.as se sfv se, <- h.as se sf sv, h1]
  have fb : mul f b = b := by rw [<- hb, <- h.as sf sfv se, <- h.as sf sf sv, show mul f f = f from jf]
  have ae : mul a e = a := by rw [<- ha, h.as se (h.cl su sf) se, h.as su sf se, h2]
  have key : ∀ n, mul (M.pw mul a n) (M.pw mul b n) = e := by
    intro n
    induction n with
    | zero => exact ab
    | succ n ih =>
      have sn := h.pw sa n
      have sm := h.pw sb n
      show mul (mul (M.pw mul a n) a) (mul (M.pw mul b n) b) = e
      rw [show mul (M.pw mul b n) b = mul b (M.pw mul b n) from h.pw_comm sb n 0, h.as sn sa (h.cl sb sm), <- h.as sa sb sm, ab]
      have : mul e (M.pw mul b n) = M.pw mul b n := by
        obtain ⟨r, sr, r1, -⟩ := h.pw_split sb n
        rw [r1, <- h.as se sb sr, eb]
      rw [this]
      exact ih
  obtain ⟨m, _, hm⟩ := h.om_ex sb
  have k := key m
  have sg := h.pw sb m
  have e1 : mul e (M.pw mul b m) = e := by
    rw [<- k, h.as (h.pw sa m) sg sg, show mul (M.pw mul b m) (M.pw mul b m) = _ from hm]
  obtain ⟨r, sr, r1, -⟩ := h.pw_split sb m
  have e2 : mul e (M.pw mul b m) = M.pw mul b m := by rw [r1, <- h.as se sb sr, eb]
  have e3 : mul f (M.pw mul b m) = M.pw mul b m := by rw [r1, <- h.as sf sb sr, fb]
  rw [<- e2, e1, h2] at e3
  exact e3
theorem s4' (h : Mon mul one S l) {e x : α} (se : S e) (sx : S x) (h1 : mul e x = x) (h2 : mul x e = x) (n : Nat) : mul e (M.pw mul x n) = M.pw mul x n /\ mul (M.pw mul x n) e = M.pw mul x n := by
  obtain ⟨r, sr, r1, r2⟩ := h.pw_split sx n
  exact ⟨by rw [r1, <- h.as se sx sr, h1], by rw [r2, h.as sr sx se, h2]⟩
theorem Ker.om_grp (h : Mon mul one S l) {e a f : α} (he : Ker mul S e) (ie : Idm mul e) (sa : S a) (h1 : mul e a = a) (h2 : mul a e = a) (o : Om mul a f) : f = e := by
  have sf := Om.s h sa o
  obtain ⟨n, rfl, jf⟩ := o
  obtain ⟨f1, f2⟩ := s4' h he.1 sa h1 h2 n
  exact he.below h ie sf jf f1 f2
theorem Ker.inv (h : Mon mul one S l) {e a : α} (he : Ker mul S e) (ie : Idm mul e) (sa : S a) (h1 : mul e a = a) (h2 : mul a e = a) : ∃ b, S b /\ mul e b = b /\ mul b e = b /\ mul a b = e /\ mul b a = e := by
  obtain ⟨n, _, hn⟩ := h.om_ex sa
  have en := he.om_grp h ie sa h1 h2 ⟨n, rfl, hn⟩
  obtain ⟨w, sw, w1, w2⟩ := h.pw_split sa n
  have sew := h.cl (h.cl he.1 sw) he.1
  refine ⟨mul (mul e w) e, sew, ?_, ?_, ?_, ?_⟩
  . rw [<- h.as he.1 (h.cl he.1 sw) he.1, <- h.as he.1 he.1 sw, show mul e e = e from ie]
  . rw [h.as (h.cl he.1 sw) he.1 he.1, show mul e e = e from ie]
  . rw [<- h.as sa (h.cl he.1 sw) he.1, <- h.as sa he.1 sw, h2, <- w1, en]
    exact ie
  . rw [h.as (h.cl he.1 sw) he.1 sa, h1, h.as he.1 sw sa, <- w2, en]
    exact ie
end
end M
namespace M
section
variable {β : Type} [Mul β]
structure FM (one : β) (l : List β) : Prop where
  as : ∀ a b c : β, a * b * c = a * (b * c)
  l1 : ∀ a : β, one * a = a
  r1 : ∀ a : β, a * one = a
  fin : ∀ a : β, a ∈ l
structure Sub (one : β) (S : β -> Prop) : Prop where
  cl : ∀ {a b}, S a -> S b -> S (a * b)
  o : S one
abbrev mu : β -> β -> β := fun a b => a * b
theorem Sub.all {one : β} : Sub one (fun _ => True) := ⟨fun _ _ => trivial, trivial⟩
def om' (β : Type) [Mul β] : Prop := ∀ x y e f : β, Om mu (x * y) e -> Om mu (y * x) f -> e * (f * e) = e
structure Blk (e a b c d : β) : Prop where
  i : e * e = e
  one : e * (a * (c * e)) = e
  other : e * (b * (d * e)) = e
  both : e * (a * (b * (c * (d * e)))) ≠ e
theorem uL' {e : β} (h : e * e = e) : Om mu e e := ⟨0, rfl, h⟩
structure Un (e a : β) : Prop where
  l : e * a = a
  r : a * e = a
  ex : ∃ b, e * b = b /\ b * e = b /\ a * b = e /\ b * a = e
theorem Un.mul {one : β} {l : List β} (h : FM one l) {e a b : β} (ha : Un e a) (hb : Un e b) : Un e (a * b) := by
  obtain ⟨a', p1, p2, p3, p4⟩ := ha.ex
  obtain ⟨b', q1, q2, q3, q4⟩ := hb.ex
  refine ⟨by rw [<- h.as, ha.l], by rw [h.as, hb.r], b' * a', by rw [<- h.as, q1], by rw [h.as, p2], ?_, ?_⟩
  . rw [h.as, <- h.as b, q3, p1, p3]
  . rw [h.as, <- h.as a', p4, hb.l, q4]
theorem om'.split {one : β} {l : List β} (h : FM one l) (st : om' β) {e x y : β} (ie : e * e = e) (hx : Un e (e * (x * e))) (hy : Un e (e * (y * e))) : e * (x * (y * e)) = e * (x * e) * (e * (y * e)) := by
  obtain ⟨p', p1, p2, p3, p4⟩ := hx.ex
  obtain ⟨q', q1, q2, q3, q4⟩ := hy.ex
  have ie' : ∀ z, e * (e * z) = e * z := fun z => by rw [<- h.as, ie]
  have p1' : ∀ z, e * (p' * z) = p' * z := fun z => by rw [<- h.as, p1]
  have p2' : ∀ z, p' * (e * z) = p' * z := fun z => by rw [<- h.as, p2]
  have q1' : ∀ z, e * (q' * z) = q' * z := fun z => by rw [<- h.as, q1]
  have q2' : ∀ z, q' * (e * z) = q' * z := fun z => by rw [<- h.as, q2]
  -- g = p' x, h = y q'
  have a1 : p' * (x * e) = e := by rw [<- p2', p4]
  have a1' : ∀ z, p' * (x * (e * z)) = e * z := fun z => by
    have := congrArg (· * z) a1
    simpa only [h.as] using this
  have a2 : e * (x * p') = e := by
    have := p3
    rw [h.as, h.as, p1] at this
    exact this
  have a2' : ∀ z, e * (x * (p' * z)) = e * z := fun z => by
    have := congrArg (· * z) a2
    simpa only [h.as] using this
  have b1 : e * (y * q') = e := by
    have := q3
    rw [h.as, h.as, q1] at this
    exact this
  have b1' : ∀ z, e * (y * (q' * z)) = e * z := fun z => by
    have := congrArg (· * z) b1
    simpa only [h.as] using this
  have b2 : q' * (y * e) = e := by rw [<- q2', q4]
  have b2' : ∀ z, q' * (y * (e * z)) = e * z := fun z => by
    have := congrArg (· * z) b2
    simpa only [h.as] using this
  -- e, h g
  have gi : (p' * x) * (p' * x) = p' * x := by
    rw [h.as, <- p2', a2', p2']
  have hi : (y * q') * (y * q') = y * q' := by
    rw [h.as]
    have : q' * (y * q') = q' := by
      have := b2' q'
      rw [q1] at this
      exact this
    rw [this]
  have o1 : Om mu (e * ((y * q') * (p' * x))) (p' * x) := by
    have : e * ((y * q') * (p' * x)) = p' * x := by rw [h.as, b1', p1']
    rw [this]; exact uL' gi
  have o2 : Om mu (((y * q') * (p' * x)) * e) (y * q') := by
    have : ((y * q') * (p' * x)) * e = y * q' := by rw [h.as, h.as p', a1, h.as, q2]
    rw [this]; exact uL' hi
  have k := st _ _ _ _ o1 o2
  -- g h g = g
  have k2 : (p' * x) * (y * q') = e := by
    have := congrArg (· * e) k
    simp only [h.as, a1, q2] at this
    simpa only [h.as] using this
  have k2' : p' * (x * (y * q')) = e := by rw [<- h.as]; exact k2
  have f1 : e * (x * e) * (p' * (x * (y * (q' * (e * (y * e)))))) = e * (x * (y * e)) := by
    have : q' * (e * (y * e)) = e := q4
    rw [this, h.as, h.as, p1', a2']
  rw [<- f1]
  have f2 : p' * (x * (y * (q' * (e * (y * e))))) = e * (y * e) := by
    have := congrArg (· * (e * (y * e))) k2'
    simp only [h.as, ie'] at this
    exact this
  rw [f2]
section
variable {one : β} {l : List β} (gen : Nat -> β)
def dd (one : β) : List Nat -> β
  | [] => one
  | c :: z => gen c * dd one z
def DL (one : β) (lot : List Nat) (d : β) : Prop := ∃ z, (∀ c ∈ z, c ∈ lot) /\ d = dd gen one z
def FL (one : β) (lot : List Nat) (d : β) : Prop := ∃ z, (∀ c ∈ z, c ∈ lot) /\ (∀ c ∈ lot, c ∈ z) /\ d = dd gen one z
variable {gen}
theorem rW' (h : FM one l) (x y : List Nat) : dd gen one (x ++ y) = dd gen one x * dd gen one y := by
  induction x with
  | nil => exact (h.l1 _).symm
  | cons c x ih => show gen c * dd gen one (x ++ y) = gen c * dd gen one x * dd gen one y; rw [ih, h.as]
theorem DL.sub (h : FM one l) {lot : List Nat} : Sub one (DL gen one lot) where
  cl := by
    rintro _ _ ⟨x, hx, rfl⟩ ⟨y, hy, rfl⟩
    exact ⟨x ++ y, fun c hc => (List.mem_append.1 hc).elim (hx c) (hy c), (rW' h x y).symm⟩
  o := ⟨[], by simp, rfl⟩
theorem FL.mul (h : FM one l) {lot : List Nat} {a b c : β} (ha : DL gen one lot a) (hb : FL gen one lot b) (hc : DL gen one lot c) : FL gen one lot (a * (b * c)) := by
  obtain ⟨x, x1, rfl⟩ := ha
  obtain ⟨y, y1, y2, rfl⟩ := hb
  obtain ⟨z, z1, rfl⟩ := hc
  refine ⟨x ++ (y ++ z), fun c hc => ?_, fun c hc => ?_, by rw [rW' h, rW' h]⟩
  . simp only [List.mem_append] at hc
    rcases hc with q | q | q
    . exact x1 c q
    . exact y1 c q
    . exact z1 c q
  . simp only [List.mem_append]
    exact .inr (.inl (y2 c hc))
end
end
section
variable {β : Type} [Mul β] {one : β} {l : List β}
end
end M
namespace M
section
local macro_rules | `(tactic| walk_at "s") => `(tactic| simp (disch := first | assumption | omega | decide) only [*, ↓x_C, ↓x_V, ↓Dg', ↓Dd', ↓AV', ↓AK', ↓vf', ↓AL', ↓xH', ↓AI', ↓AM', ↓Di', ↓Dh', ↓De', ↓Df', ↓x_O, ↓Dc', ↓Db', ↓xI', ↓xB', ↓va', ↓vd', ↓AO', ↓su', ↓xG', ↓AN', ↓AJ', ↓AR', ↓xF', ↓xE', ↓AP', xJ', ↓AU', ↓AT', ↓ve', ↓u9', ↓sr', ↓vc', ↓AH', ↓AS', zG', DL', Cm', zY', Cn', BV', BU', wa', Bx', Bw', tZ', z8', z7', tr', v3', rz', tl', tK', BK', BL', xa', w9', t1', Aa', Ac', Ab', v9', Bv', Bu', yI', v8', rg', wD', zh', vL', sX', sV', sW', zt', Co', tx', wK', ↓AQ', ↓Da', ↓xz', ↓xA', ↓AF', ↓C9', ↓xD', ↓o9', ↓xC', ↓vb', ↓Dj', ↓AG',
  ↓yf', ↓vQ', ↓yg', ↓Bb', ↓Ba', ↓Dm', ↓A9', ↓Bg', ↓Bf', ↓vP', ↓Bh', ↓Be', ↓ye', ↓Bd', ↓Bc', ↓vN', ↓vO', ↓A4', ↓xW',
  AZ', A3', AY', A2', wY', wU', tO', Cd', zW', zF', zR', w2', zO', ty', tW', tM', tN', tL', Option.map_some, Option.map_none, Option.isSome_some, Option.isSome_none, Bool.bne_true, Bool.bne_false, xi', wv', wu', wx', wt', y7', ws', ww', wW', zI', w7', zx', zT', uT', AX', xL', xK', xM', A1', xU', xT', xV', vi', xP', A5', xN', xO', xm', xS', xR', xQ', A0', a7', pd', pc', iJ', vl',
  z4', z3', u2', z2', xb', BN', B4', zJ', zK', z0', B5', BY', BZ', Cr', Cp', Cs', B2', B0', B3', beq_self_eq_true, w4', w6', r1', tP', tQ', tR', tC', Cf', Cg', tS', tT', DE', DF', DG', DI', B8', B9', Cj', Cl', Ci', zH', u1', r0', zQ', zS', of', Cb', Ce', w5', aF', t2', sa', oK', tt', rK', xh', mn', List.getElem?_map, k8', yZ', BR', BT', BQ', BS', u3', tY', zD', zE', zU', w3', wM', BO', zZ', w8', og', tU', wL', Ch', zX', CA', B7', B6', u0', zy', zz', wN', wX', wV', wO', l2', oQ', l4', l1', l0', l3', l5', kW', l7', kY', kV', kU', kX', kZ', lV', oP', lX', lU', lT', lW', lY', ji', kH', jk', jh', jg', jj', jl', kK', lZ', kM', kJ', kI', kL', kN', kQ', l6', kS', kP', kO', kR', kT', BM', Cz', Cy', zC', oc', zB', BX', BW', zs', zw', zr', zu', Ct', Cu', wT', wS', zN', Ah', DK', DJ', Ck', DH', Ca', zM', zP', sS', Cc', zV', zA', BP', vj', q4', String.reduceEq, reduceIte, vh', List.getElem?_set_self, List.getElem?_set_ne, List.set_set, wZ', Cv', w0', Cx', Cw', chD,
  decide_true, decide_false, frz, lR', Ae', tn1, Int.zero_add, Bool.not_false, Bool.not_true, Bool.and_true, Bool.true_and, Bool.and_false, Bool.false_and, Bool.or_true, Bool.true_or, Bool.or_false, Bool.false_or, List.getElem?_cons_zero, List.getElem?_cons_succ, List.set_cons_zero, List.set_cons_succ, List.length_cons, List.length_nil, List.map_cons, List.map_nil, List.cons_append, List.nil_append, List.replicate_succ, List.replicate_zero, List.length_map, List.length_range, List.length_set, Int.toNat_natCast, and_self, or_true, true_or, true_and, and_true, or_self, Int.reduceToNat, Int.toNat_zero, Int.toNat_one, Int.reduceNeg, Int.reducePow, Int.reduceAdd, Int.reduceSub, Int.reduceMul, Int.reduceLT, Int.reduceLE, Nat.reduceAdd, Nat.reduceSub, Nat.reduceLT, Nat.reduceLeDiff])
local macro_rules | `(tactic| walk_at "f0") => `(tactic| (refine yJ' ?_ rfl; simp only [List.map_cons, List.map_nil, List.replicate_succ, List.replicate_zero, List.cons_append, List.nil_append, Nat.reduceSub]))
local macro_rules | `(tactic| walk_at "f") => `(tactic| (walk_at "f0"; walk_at "s"))
local macro_rules | `(tactic| walk_at "l") => `(tactic| (intro env2_ he_; simp only [aF', List.set_cons_zero, List.set_cons_succ] at he_; rw [he_]; clear he_))
theorem oN' {w : W} {n : Nat} {m : Int} (h : cW' w n) (h1 : 0 < m) (h2 : m < 1606938044258990275541962092341162602522202993782792835301376) : wF (f__law_draw [.obj n, .int m] w) (fun o w' => ∃ d, o = .fz (.int d) /\ 0 <= d /\ d < m /\ cW' w' n /\ But n w w') FX := by
  obtain ⟨cells, i, b, s, c, hw, hi⟩ := h
  have hn := bv' hw
  unfold f__law_draw
  walk_at "f0"
  refine vJ' (fun ρ => ∃ x w', ρ = ⟨[some (.fz (.obj n)), some (.fz (.int m)), x, none, none], w'⟩ /\ cW' w' n /\ But n w w') ?_ ?_
  . walk_at "s"
    refine bc' (fun hb => ?_) (fun hb => ?_)
    . walk_at "s"
      refine bc' (fun hc => ?_) (fun hc => ?_)
      . walk_at "s"
        refine bQ' ?_ fun x _ hx => ?_
        . omega
        walk_at "s"
        refine bc' (fun hc => ?_) (fun hc => ?_)
        . walk_at "s"
          exact ⟨_, _, rfl, ⟨cells, _, _, _, _, List.getElem?_set_self hn, by omega⟩, But.refl.set⟩
        . walk_at "s"
          exact ⟨_, _, rfl, ⟨cells, _, _, _, _, List.getElem?_set_self hn, by omega⟩, But.refl.set⟩
      . walk_at "s"
        exact ⟨_, _, rfl, ⟨cells, _, _, _, _, hw, hi⟩, But.refl⟩
    . walk_at "s"
      exact ⟨_, _, rfl, ⟨cells, _, _, _, _, hw, hi⟩, But.refl⟩
  . rintro ρ1 ⟨x, w1, rfl, ⟨cells1, i1, b1, s1, c1, hw1, hi1⟩, bt⟩
    have hn1 := bv' hw1
    walk_at "s"
    refine bc' (fun hb => ?_) (fun hb => ?_)
    . walk_at "s"
      exact ⟨_, rfl, Int.emod_nonneg _ (by omega), Int.emod_lt_of_pos _ h1, ⟨cells1, _, _, _, _, List.getElem?_set_self hn1, hi1⟩, bt.set⟩
    . walk_at "s"
      exact ⟨_, rfl, Int.emod_nonneg _ (by omega), Int.emod_lt_of_pos _ h1, ⟨cells1, _, _, _, _, List.getElem?_set_self hn1, hi1⟩, bt.set⟩
theorem ba' {w : W} {n : Nat} {m : Int} (h : cW' w n) (h1 : 0 < m) (h2 : m < 1606938044258990275541962092341162602522202993782792835301376) : wF (f__law_draw [.obj n, .int m] w) (fun o w' => ∃ d : Nat, o = .fz (.int (d : Nat)) /\ (d : Int) < m /\ cW' w' n /\ But n w w') FX := by
  refine (oN' h h1 h2).mono ?_
  rintro _ w' ⟨d, rfl, h3, h4, h5, h6⟩
  exact ⟨d.toNat, by rw [Int.toNat_of_nonneg h3], by rw [Int.toNat_of_nonneg h3]; exact h4, h5, h6⟩
theorem rR' {w : W} {ns : List Int} (hl : ns.length <= 63) : wF (f__law_hand [.scr (ns.map .int)] w) (fun o w' => o = .fz (.obj w.length) /\ cW' w' w.length /\ w'.length = w.length + 1 /\ ∀ j, j < w.length -> w'[j]? = w[j]?) FX := by
  unfold f__law_hand
  walk_at "f"
  have e : cut (ns.map D.int) none (some 63) = (ns.take 63).map .int := by
    rw [u3' (by decide), <- List.map_take]
    rfl
  have e2 : ns.take 63 = ns := List.take_of_length_le hl
  rw [e2] at e
  try rw [e]
  try rw [show List.take 63 (List.map D.int ns) = ns.map D.int by rw [<- List.map_take, e2]]
  refine iq' (by omega) (fun pre acc ρ => acc = pre.map (fun i => .int (if i < 0 then -i else i)) /\ ∃ x, ρ = ⟨[some (.fz (.scr (ns.map .int))), none, x], w⟩) ⟨rfl, _, rfl⟩ ?_ ?_
  . rintro pre c post acc _ e ⟨rfl, x, rfl⟩
    walk_at "s"
    exact ⟨by simp, _, rfl⟩
  . rintro acc _ ⟨rfl, x, rfl⟩
    walk_at "s"
    refine ⟨⟨ns.map (fun i => if i < 0 then -i else i), 0, 0, 1 + ns.length, 0, ?_, by decide⟩, by simp, fun j hj => ?_⟩
    . rw [List.getElem?_append_right (Nat.le_refl _), Nat.sub_self]
      rw [List.map_map]
      rfl
    . rw [List.getElem?_append_left hj]
theorem q8' {α : Type} {l f : List α} {d : Nat} {x : α} (h : l[d]? = some x) : ((l.take d ++ l.drop (d + 1)) ++ (f ++ [x])).Perm (l ++ f) := by
  obtain ⟨hd, e⟩ := List.getElem?_eq_some_iff.mp h
  have h1 : l = l.take d ++ x :: l.drop (d + 1) := by rw [<- e, List.getElem_cons_drop, List.take_append_drop]
  generalize l.take d = a at *
  generalize l.drop (d + 1) = b at *
  subst h1
  simp only [List.append_assoc, List.cons_append]
  refine List.Perm.append_left a ?_
  rw [<- List.append_assoc]
  exact List.perm_append_comm
theorem eZ' {α β : Type} (f : α -> β) : ∀ (l : List α) (i : Nat), (l.map f).eraseIdx i = (l.eraseIdx i).map f
  | [], _ => rfl
  | _ :: _, 0 => rfl
  | a :: l, i + 1 => by simp [List.eraseIdx, eZ' f l i]
theorem eI' {w : W} {n : Nat} {l : List D} (h : cW' w n) (hs : l.length < 1073741) : wF (f__law_shuffled [.obj n, .lst l] w) (fun o w' => ∃ r : List D, o = .lst (r.map .fz) /\ r.Perm l /\ cW' w' n /\ But n w w') FX := by
  unfold f__law_shuffled
  walk_at "f"
  refine dg' (fun k ρ => ∃ x, ∃ t r : List D, ∃ w', ρ = ⟨[some (.fz (.obj n)), some (.fz (.lst l)), some (.lst (t.map .fz)), some (.lst (r.map .fz)), x], w'⟩ /\ r.length = k /\ (t ++ r).Perm l /\ cW' w' n /\ But n w w') ⟨_, _, [], _, rfl, rfl, by simp, h, But.refl⟩ ?_ ?_
  . rintro k ρ hk ⟨x, t, r, w1, rfl, rfl, hp, hh, hb⟩
    have hl := hp.length_eq
    rw [List.length_append] at hl
    walk_at "s"
    refine (ba' hh (by omega) (by omega)).mono ?_
    rintro _ w2 ⟨d, rfl, h3, h4, h5⟩
    have hd : d < t.length := by omega
    walk_at "s"
    refine bQ' (by omega) fun c _ hc => ?_
    walk_at "s"
    refine ⟨_, t.eraseIdx d, r ++ [c], _, by rw [eZ'], by simp, ?_, h4, hb.trans h5⟩
    rw [List.eraseIdx_eq_take_drop_succ]
    exact (q8' hc).trans hp
  . rintro ρ ⟨x, t, r, w1, rfl, e, hp, hh, hb⟩
    walk_at "s"
    have hl := hp.length_eq
    rw [List.length_append] at hl
    have ht : t = [] := List.eq_nil_of_length_eq_zero (by omega)
    subst ht
    exact ⟨r, rfl, hp⟩
def Af' (T : List (List Nat)) (k many size : Nat) : Prop := T.length = k /\ ∀ r ∈ T, r.length = many /\ ∀ t ∈ r, t < size
theorem de' (a b : Int) : (e5' a b).length = (b - a).toNat := by simp [e5']
theorem io' {m : Nat} {d : D} (h : d ∈ e5' 0 m) : ∃ v : Nat, v < m /\ d = .int (v : Nat) := by
  unfold e5' at h
  obtain ⟨v, hv, rfl⟩ := List.mem_map.mp h
  exact ⟨v, by have := List.mem_range.mp hv; omega, by simp⟩
def Hd (o : O) (ds : List D) : Prop := o = .lst (ds.map .fz) \/ o = .fz (.lst ds)
theorem sZ' {w : W} {n : Nat} {kind size many : Nat} (h : cW' w n) (hs : 1 <= size) (hs2 : size < 1000) (hm : 1 <= many) (hm2 : many < 1000) : wF (f__law_rows [.obj n, .int kind, .int size, .int many] w) (fun o w' => ∃ T, o = .fz (cr' T) /\ a5' T size many /\ cW' w' n /\ But n w w') FX := by
  unfold f__law_rows
  walk_at "f"
  refine iq' (by simp; omega) (fun pre acc ρ => (∃ l : List Nat, acc = l.map (fun t => .int (t : Nat)) /\ l.length = pre.length) /\ ∃ x w', ρ = ⟨[some (.fz (.obj n)), some (.fz (.int kind)), some (.fz (.int size)), some (.fz (.int many)), some (.lst []), none, none, none, none, x, none], w'⟩ /\ cW' w' n /\ But n w w') ⟨⟨[], rfl, rfl⟩, _, _, rfl, h, But.refl⟩ ?_ ?_
  . rintro pre c post acc _ e ⟨⟨l, rfl, hl⟩, x, w1, rfl, hh, hb⟩
    walk_at "s"
    refine (ba' hh (by omega) (by omega)).mono ?_
    rintro _ w2 ⟨d, rfl, h3, h4, h5⟩
    walk_at "s"
    exact ⟨⟨l ++ [d], by simp, by simp [hl]⟩, _, _, rfl, h4, hb.trans h5⟩
  . rintro _ _ ⟨⟨steps, rfl, hsteps⟩, x, w1, rfl, hh, hb⟩
    have hsl : steps.length = many := by rw [hsteps]; simp
    walk_at "s"
    refine iq' (by simp; omega) (fun pre acc ρ => (∃ l : List (List D), acc = l.map .lst /\ l.length = pre.length /\ ∀ r ∈ l, r.Perm (e5' 0 size)) /\ ∃ x w', ρ = ⟨[some (.fz (.obj n)), some (.fz (.int kind)), some (.fz (.int size)), some (.fz (.int many)), some (.lst []), some (.lst ((steps.map (fun t => D.int (t : Nat))).map .fz)), none, none, none, x, none], w'⟩ /\ cW' w' n /\ But n w w') ⟨⟨[], rfl, rfl, by simp⟩, _, _, rfl, hh, hb⟩ ?_ ?_
    . rintro pre c post acc _ e ⟨⟨l, rfl, hl, hp⟩, x, w1, rfl, hh, hb⟩
      walk_at "s"
      refine (eI' hh (by rw [de']; omega)).mono ?_
      rintro _ w2 ⟨d, rfl, h3, h4, h5⟩
      walk_at "s"
      exact ⟨⟨l ++ [d], by simp, by simp [hl], by simpa [or_imp, forall_and] using ⟨hp, h3⟩⟩, _, _, rfl, h4, hb.trans h5⟩
    . rintro _ _ ⟨⟨turns, rfl, hturns, hperm⟩, x, w2, rfl, hh, hb⟩
      have htl : turns.length = many := by rw [hturns]; simp
      walk_at "s"
      refine dg' (fun k ρ => ∃ o5 o6 x7 x8 x9 x10 w', ∃ T : List (List Nat), ρ = ⟨[some (.fz (.obj n)), some (.fz (.int kind)), some (.fz (.int size)), some (.fz (.int many)), some (.lst ((T.map cK').map .fz)), some o5, some o6, x7, x8, x9, x10], w'⟩ /\ Hd o5 (steps.map (fun t => D.int (t : Nat))) /\ Hd o6 (turns.map .lst) /\ cW' w' n /\ But n w w' /\ Af' T k many size) ⟨_, _, _, _, _, _, _, [], rfl, .inl rfl, .inl rfl, hh, hb, rfl, by simp⟩ ?_ ?_
      . rintro state _ hst ⟨o5, o6, x7, x8, x9, x10, w3, T, rfl, h5, h6, hh3, hb3, hT, hTr⟩
        walk_at "s"
        refine dg' (fun k ρ => ∃ o5 o6 x9 x10 w', ∃ row : List Nat, ρ = ⟨[some (.fz (.obj n)), some (.fz (.int kind)), some (.fz (.int size)), some (.fz (.int many)), some (.lst ((T.map cK').map .fz)), some o5, some o6, some (.fz (.int (state : Nat))), some (.lst ((row.map fun t => D.int (t : Nat)).map .fz)), x9, x10], w'⟩ /\ Hd o5 (steps.map (fun t => D.int (t : Nat))) /\ Hd o6 (turns.map .lst) /\ cW' w' n /\ But n w w' /\ row.length = k /\ ∀ t ∈ row, t < size) ⟨_, _, _, _, _, [], rfl, h5, h6, hh3, hb3, rfl, by simp⟩ ?_ ?_
        . rintro letter _ hle ⟨o5, o6, x9, x10, w4, row, rfl, h5, h6, hh4, hb4, hrow, hrt⟩
          walk_at "s"
          refine (ba' hh4 (by omega) (by omega)).mono ?_
          rintro _ w5 ⟨d, rfl, hd, hh5, hb5⟩
          walk_at "s"
          have ht0 : (0 : Int) <= d := by omega
          generalize (d : Int) = t at hd ht0
          refine dr' (fun ρ => ∃ o5 o6, ∃ t : Int, ρ = ⟨[some (.fz (.obj n)), some (.fz (.int kind)), some (.fz (.int size)), some (.fz (.int many)), some (.lst ((T.map cK').map .fz)), some o5, some o6, some (.fz (.int (state : Nat))), some (.lst ((row.map fun t => D.int (t : Nat)).map .fz)), some (.fz (.int (letter : Nat))), some (.fz (.int t))], w5⟩ /\ Hd o5 (steps.map (fun t => D.int (t : Nat))) /\ Hd o6 (turns.map .lst) /\ 0 <= t /\ t < size) (bc' (fun hk3 => ?_) (fun _ => ?_)) ?_
          . walk_at "s"
            rcases h5 with rfl | rfl
            . walk_at "s"
              refine bQ' (by omega) fun z hz _ => ?_
              walk_at "s"
              exact ⟨_, _, _, rfl, .inr rfl, h6, Int.emod_nonneg _ (by omega), Int.emod_lt_of_pos _ (by omega)⟩
            . walk_at "s"
              refine bQ' (by omega) fun z hz _ => ?_
              walk_at "s"
              exact ⟨_, _, _, rfl, .inr rfl, h6, Int.emod_nonneg _ (by omega), Int.emod_lt_of_pos _ (by omega)⟩
          . walk_at "s"
            exact ⟨_, _, _, rfl, h5, h6, ht0, hd⟩
          rintro ρ5 hJ
          rcases hJ with ⟨o5, o6, t, rfl, h5, h6, ht0, hd⟩
          walk_at "s"
          refine dr' (fun ρ => ∃ o5 o6, ∃ t : Int, ρ = ⟨[some (.fz (.obj n)), some (.fz (.int kind)), some (.fz (.int size)), some (.fz (.int many)), some (.lst ((T.map cK').map .fz)), some o5, some o6, some (.fz (.int (state : Nat))), some (.lst ((row.map fun t => D.int (t : Nat)).map .fz)), some (.fz (.int (letter : Nat))), some (.fz (.int t))], w5⟩ /\ Hd o5 (steps.map (fun t => D.int (t : Nat))) /\ Hd o6 (turns.map .lst) /\ 0 <= t /\ t < size) (bc' (fun hk3 => ?_) (fun _ => ?_)) ?_
          . walk_at "s"
            rcases h5 with rfl | rfl
            . walk_at "s"
              refine bQ' (by omega) fun z hz _ => ?_
              walk_at "s"
              exact ⟨_, _, _, rfl, .inr rfl, h6, by omega, by omega⟩
            . walk_at "s"
              refine bQ' (by omega) fun z hz _ => ?_
              walk_at "s"
              exact ⟨_, _, _, rfl, .inr rfl, h6, by omega, by omega⟩
          . walk_at "s"
            exact ⟨_, _, _, rfl, h5, h6, ht0, hd⟩
          rintro ρ5 hJ
          rcases hJ with ⟨o5, o6, t, rfl, h5, h6, ht0, hd⟩
          walk_at "s"
          refine dr' (fun ρ => ∃ o5 o6, ∃ t : Int, ρ = ⟨[some (.fz (.obj n)), some (.fz (.int kind)), some (.fz (.int size)), some (.fz (.int many)), some (.lst ((T.map cK').map .fz)), some o5, some o6, some (.fz (.int (state : Nat))), some (.lst ((row.map fun t => D.int (t : Nat)).map .fz)), some (.fz (.int (letter : Nat))), some (.fz (.int t))], w5⟩ /\ Hd o5 (steps.map (fun t => D.int (t : Nat))) /\ Hd o6 (turns.map .lst) /\ 0 <= t /\ t < size) (bc' (fun hk3 => ?_) (fun _ => ?_)) ?_
          . walk_at "s"
            refine bc' (fun _ => ?_) (fun _ => ?_)
            . walk_at "s"
              exact ⟨_, _, _, rfl, h5, h6, Int.emod_nonneg _ (by omega), Int.emod_lt_of_pos _ (by omega)⟩
            . walk_at "s"
              exact ⟨_, _, _, rfl, h5, h6, by omega, by omega⟩
          . walk_at "s"
            exact ⟨_, _, _, rfl, h5, h6, ht0, hd⟩
          rintro ρ5 hJ
          rcases hJ with ⟨o5, o6, t, rfl, h5, h6, ht0, hd⟩
          walk_at "s"
          refine dr' (fun ρ => ∃ o5 o6, ∃ t : Int, ρ = ⟨[some (.fz (.obj n)), some (.fz (.int kind)), some (.fz (.int size)), some (.fz (.int many)), some (.lst ((T.map cK').map .fz)), some o5, some o6, some (.fz (.int (state : Nat))), some (.lst ((row.map fun t => D.int (t : Nat)).map .fz)), some (.fz (.int (letter : Nat))), some (.fz (.int t))], w5⟩ /\ Hd o5 (steps.map (fun t => D.int (t : Nat))) /\ Hd o6 (turns.map .lst) /\ 0 <= t /\ t < size) (bc' (fun hk3 => ?_) (fun _ => ?_)) ?_
          . walk_at "s"
            exact ⟨_, _, _, rfl, h5, h6, Int.emod_nonneg _ (by omega), Int.emod_lt_of_pos _ (by omega)⟩
          . walk_at "s"
            exact ⟨_, _, _, rfl, h5, h6, ht0, hd⟩
          rintro ρ5 hJ
          rcases hJ with ⟨o5, o6, t, rfl, h5, h6, ht0, hd⟩
          walk_at "s"
          refine dr' (fun ρ => ∃ o5 o6, ∃ t : Int, ρ = ⟨[some (.fz (.obj n)), some (.fz (.int kind)), some (.fz (.int size)), some (.fz (.int many)), some (.lst ((T.map cK').map .fz)), some o5, some o6, some (.fz (.int (state : Nat))), some (.lst ((row.map fun t => D.int (t : Nat)).map .fz)), some (.fz (.int (letter : Nat))), some (.fz (.int t))], w5⟩ /\ Hd o5 (steps.map (fun t => D.int (t : Nat))) /\ Hd o6 (turns.map .lst) /\ 0 <= t /\ t < size) (bc' (fun hk3 => ?_) (fun _ => ?_)) ?_
          . walk_at "s"
            refine ⟨_, _, _, rfl, h5, h6, ?_, ?_⟩
            . split <;> omega
            . split <;> omega
          . walk_at "s"
            exact ⟨_, _, _, rfl, h5, h6, ht0, hd⟩
          rintro ρ5 hJ
          rcases hJ with ⟨o5, o6, t, rfl, h5, h6, ht0, hd⟩
          walk_at "s"
          refine dr' (fun ρ => ∃ o5 o6, ∃ t : Int, ρ = ⟨[some (.fz (.obj n)), some (.fz (.int kind)), some (.fz (.int size)), some (.fz (.int many)), some (.lst ((T.map cK').map .fz)), some o5, some o6, some (.fz (.int (state : Nat))), some (.lst ((row.map fun t => D.int (t : Nat)).map .fz)), some (.fz (.int (letter : Nat))), some (.fz (.int t))], w5⟩ /\ Hd o5 (steps.map (fun t => D.int (t : Nat))) /\ Hd o6 (turns.map .lst) /\ 0 <= t /\ t < size) (bc' (fun hk3 => ?_) (fun _ => ?_)) ?_
          . walk_at "s"
            refine bc' (fun _ => ?_) (fun _ => ?_)
            . walk_at "s"
              refine bc' (fun _ => ?_) (fun _ => ?_)
              . walk_at "s"
                refine ⟨_, _, _, rfl, h5, h6, Int.emod_nonneg _ (by omega), ?_⟩
                have := Int.emod_lt_of_pos ((state : Int) + 1) (show (0 : Int) < (size : Int) - 1 by omega)
                omega
              . walk_at "s"
                exact ⟨_, _, _, rfl, h5, h6, by omega, by omega⟩
            . walk_at "s"
              exact ⟨_, _, _, rfl, h5, h6, by omega, by omega⟩
          . walk_at "s"
            exact ⟨_, _, _, rfl, h5, h6, ht0, hd⟩
          rintro ρ5 hJ
          rcases hJ with ⟨o5, o6, t, rfl, h5, h6, ht0, hd⟩
          walk_at "s"
          refine dr' (fun ρ => ∃ o5 o6, ∃ t : Int, ρ = ⟨[some (.fz (.obj n)), some (.fz (.int kind)), some (.fz (.int size)), some (.fz (.int many)), some (.lst ((T.map cK').map .fz)), some o5, some o6, some (.fz (.int (state : Nat))), some (.lst ((row.map fun t => D.int (t : Nat)).map .fz)), some (.fz (.int (letter : Nat))), some (.fz (.int t))], w5⟩ /\ Hd o5 (steps.map (fun t => D.int (t : Nat))) /\ Hd o6 (turns.map .lst) /\ 0 <= t /\ t < size) (bc' (fun hk3 => ?_) (fun _ => ?_)) ?_
          . walk_at "s"
            rcases h6 with rfl | rfl
            . walk_at "s"
              refine bQ' (by omega) fun z hz _ => ?_
              have hp := hperm z hz
              have hpl := hp.length_eq
              rw [de'] at hpl
              walk_at "s"
              refine bQ' (by omega) fun y hy _ => ?_
              obtain ⟨v, hv, rfl⟩ := io' (hp.mem_iff.mp hy)
              walk_at "s"
              exact ⟨_, _, _, rfl, h5, .inr rfl, by omega, by omega⟩
            . walk_at "s"
              refine bQ' (by omega) fun z hz _ => ?_
              have hp := hperm z hz
              have hpl := hp.length_eq
              rw [de'] at hpl
              walk_at "s"
              refine bQ' (by omega) fun y hy _ => ?_
              obtain ⟨v, hv, rfl⟩ := io' (hp.mem_iff.mp hy)
              walk_at "s"
              exact ⟨_, _, _, rfl, h5, .inr rfl, by omega, by omega⟩
          . walk_at "s"
            exact ⟨_, _, _, rfl, h5, h6, ht0, hd⟩
          rintro ρ5 hJ
          rcases hJ with ⟨o5, o6, t, rfl, h5, h6, ht0, hd⟩
          obtain ⟨t, rfl⟩ := Int.eq_ofNat_of_zero_le ht0
          walk_at "s"
          exact ⟨_, _, _, _, _, row ++ [t], by simp; exact ⟨rfl, rfl⟩, h5, h6, hh5, hb4.trans hb5, by simp [hrow], by simpa [or_imp, forall_and] using ⟨hrt, by omega⟩⟩
        . rintro _ ⟨o5, o6, x9, x10, w4, row, rfl, h5, h6, hh4, hb4, hrow, hrt⟩
          walk_at "s"
          exact ⟨_, _, _, _, _, _, _, T ++ [row], by simp [cK']; exact ⟨rfl, rfl, rfl, rfl⟩, h5, h6, hh4, hb4, by simp [hT], by
            simp only [List.mem_append, List.mem_singleton]
            rintro r (hr | rfl)
            . exact hTr r hr
            . exact ⟨hrow, hrt⟩⟩
      . rintro _ ⟨o5, o6, x7, x8, x9, x10, w3, T, rfl, h5, h6, hh3, hb3, hT, hTr⟩
        walk_at "s"
        exact ⟨T, rfl, hT, hTr⟩
theorem gW' {w : W} {n : Nat} {kind size many : Nat} (h : cW' w n) (hs : 1 <= size) (hs2 : size < 1000) (hm : 1 <= many) (hm2 : many < 1000) (hk : kind <= 4 \/ 2 <= size) : wF (f__law_rows [.obj n, .int kind, .int size, .int many] w) (fun o w' => ∃ T, o = .fz (cr' T) /\ a5' T size many /\ cW' w' n /\ But n w w') FX := sZ' h hs hs2 hm hm2
theorem lw' {n : Nat} {pre post : List Nat} {c : Nat} (e : List.range n = pre ++ c :: post) : c = pre.length /\ pre.length < n := by
  have h1 : (List.range n)[pre.length]? = some c := by rw [e]; simp
  have h2 : pre.length < n := by
    have := congrArg List.length e
    simp at this
    omega
  rw [List.getElem?_range h2] at h1
  exact ⟨(Option.some.inj h1).symm, h2⟩
theorem qv' (s : Tx) : (bY' s).length = s.length := List.length_mergeSort s
theorem id' (s : Tx) : (bY' s).Perm s := List.mergeSort_perm s _
theorem sP' (s : Tx) : (bY' s).Pairwise (· <= ·) := by
  have := List.pairwise_mergeSort (le := fun a b : Nat => decide (a <= b)) (fun a b c h1 h2 => by simp at *; omega) (fun a b => by simp; omega) s
  exact this.imp (by simp)
theorem sO' {s : Tx} (h : s.Nodup) : (bY' s).Pairwise (· < ·) := by
  have h1 := sP' s
  have h2 : (bY' s).Nodup := (id' s).nodup_iff.mpr h
  exact (h1.and h2).imp (fun h => by have := h.1; have := h.2; omega)
theorem on' {w : W} {n : Nat} {many : Nat} (h : cW' w n) (hm : 1 <= many) (hm2 : many < 1000) : wF (f__law_woven [.obj n, .int many] w) (fun o w' => ∃ T, o = .fz (cr' T) /\ a5' T T.length many /\ 4 <= T.length /\ T.length <= 6 /\ cW' w' n /\ But n w w') FX := by
  unfold f__law_woven
  walk_at "f"
  refine (ba' h (by omega) (by omega)).mono ?_
  rintro _ w1 ⟨k1, rfl, hk1, h1, b1⟩
  walk_at "s"
  refine (gW' (kind := 3 + k1) (size := 2) h1 (by decide) (by decide) hm hm2 (by omega)).mono ?_
  rintro _ w2 ⟨T1, rfl, hT1, h2, b2⟩
  walk_at "s"
  refine (ba' h2 (by omega) (by omega)).mono ?_
  rintro _ w3 ⟨z, rfl, hz, h3, b3⟩
  walk_at "s"
  have hsz : ∃ sz : Nat, (2 + (z : Int)) = (sz : Nat) /\ 2 <= sz /\ sz <= 3 := ⟨2 + z, by omega, by omega, by omega⟩
  obtain ⟨sz, esz, hsz1, hsz2⟩ := hsz
  rw [esz]
  refine (ba' h3 (by omega) (by omega)).mono ?_
  rintro _ w4 ⟨k2, rfl, hk2, h4, b4⟩
  walk_at "s"
  refine (gW' (kind := 3 + k2) (size := sz) h4 (by omega) (by omega) hm hm2 (by omega)).mono ?_
  rintro _ w5 ⟨T2, rfl, hT2, h5, b5⟩
  clear esz
  walk_at "s"
  refine dg' (fun k ρ => ∃ R : List (List Nat), R.length = k /\ (∀ r ∈ R, r.length = many /\ ∀ t ∈ r, t < 2 * sz) /\ ∃ y1 y2 y3 y4, ρ = ⟨[some (.fz (.obj n)), some (.fz (.int many)), some (.fz (cr' T1)), some (.fz (.int sz)), some (.fz (cr' T2)), some (.lst (R.map fun r => .fz (cK' r))), y1, y2, y3, y4], w5⟩) ⟨[], rfl, by simp, _, _, _, _, rfl⟩ ?_ ?_
  . rintro s _ hs ⟨R, hR, hr, y1, y2, y3, y4, rfl⟩
    have hs2 : s < 2 * sz := by omega
    have d1 : (0 + (s : Int)) / (sz : Int) = ((s / sz : Nat) : Int) := by rw [Int.zero_add]; rfl
    have d2 : (0 + (s : Int)) % (sz : Int) = ((s % sz : Nat) : Int) := by rw [Int.zero_add]; rfl
    have l1 : s / sz < 2 := Nat.div_lt_of_lt_mul (by rw [Nat.mul_comm]; exact hs2)
    have l2 : s % sz < sz := Nat.mod_lt _ (by omega)
    have r1 := ck' (T := T1) (n := 2) (m := many) hT1 l1
    have r2 := ck' (T := T2) (n := sz) (m := many) hT2 l2
    have n1 := bE' (T := T1) hT1 l1
    have n2 := bE' (T := T2) hT2 l2
    have t1 : ∀ {k t : Nat}, (am' T1 (s / sz))[k]? = some t -> t < 2 := fun h => dy' hT1 (List.mem_of_getElem? h)
    have t2 : ∀ {k t : Nat}, (am' T2 (s % sz))[k]? = some t -> t < sz := fun h => dy' hT2 (List.mem_of_getElem? h)
    have d1' : (s : Int) / (sz : Int) = ((s / sz : Nat) : Int) := rfl
    have d2' : (s : Int) % (sz : Int) = ((s % sz : Nat) : Int) := rfl
    walk_at "s"
    refine wj' (fun k => .int (((am' T1 (s / sz))[k]?.getD 0 * sz + (am' T2 (s % sz))[k]?.getD 0 : Nat))) (by omega) ?_ ?_
    . intro k hk
      have e1 : (am' T1 (s / sz))[k]? = some ((am' T1 (s / sz))[k]'(by omega)) := List.getElem?_eq_getElem (by omega)
      have e2 : (am' T2 (s % sz))[k]? = some ((am' T2 (s % sz))[k]'(by omega)) := List.getElem?_eq_getElem (by omega)
      have f1 := t1 e1
      have f2 := t2 e2
      generalize (am' T1 (s / sz))[k]'_ = a at *
      generalize (am' T2 (s % sz))[k]'_ = b at *
      clear r1 r2 t1 t2 d1 d2 d1' d2'
      walk_at "s"
      rw [Option.getD_some, Option.getD_some]
      push_cast
      rfl
    walk_at "l"
    have hl : R.length < 16777216 := by omega
    walk_at "s"
    refine ⟨R ++ [(List.range many).map fun k => (am' T1 (s / sz))[k]?.getD 0 * sz + (am' T2 (s % sz))[k]?.getD 0], by simp [hR], ?_, _, _, _, _, by rw [List.map_append, List.map_cons, List.map_nil]; simp only [cK', List.map_map]; rfl⟩
    intro r hr'
    rcases List.mem_append.mp hr' with h | h
    . exact hr r h
    . rw [List.mem_singleton] at h
      subst h
      refine ⟨by simp, fun t ht => ?_⟩
      obtain ⟨k, hk, rfl⟩ := List.mem_map.mp ht
      have hk := List.mem_range.mp hk
      have e1 : (am' T1 (s / sz))[k]? = some ((am' T1 (s / sz))[k]'(by omega)) := List.getElem?_eq_getElem (by omega)
      have e2 : (am' T2 (s % sz))[k]? = some ((am' T2 (s % sz))[k]'(by omega)) := List.getElem?_eq_getElem (by omega)
      have f1 := t1 e1
      have f2 := t2 e2
      rw [e1, e2, Option.getD_some, Option.getD_some]
      generalize (am' T1 (s / sz))[k]'_ = a at *
      generalize (am' T2 (s % sz))[k]'_ = b at *
      have : a = 0 \/ a = 1 := by omega
      rcases this with rfl | rfl <;> omega
  . rintro _ ⟨R, hR, hr, y1, y2, y3, y4, rfl⟩
    walk_at "s"
    have hRl : R.length = 2 * sz := by omega
    refine ⟨R, ?_, ⟨rfl, fun r h => ⟨(hr r h).1, fun t ht => by have := (hr r h).2 t ht; omega⟩⟩, by omega, by omega, (((b1.trans b2).trans b3).trans b4).trans b5⟩
    unfold cr'
    rw [dG', List.map_map]
    rfl
theorem j7' {w : W} {n : Nat} {most states : Nat} (h : cW' w n) (hm : 1 <= most) (hm2 : most <= 26) (hs : 6 <= states) (hs2 : states < 100) : wF (f__law_parts [.obj n, .int most, .int states] w) (fun o w' => ∃ L T A, o = .fz (.tup [.str L, cr' T, c2' A]) /\ MacOk L T A most states /\ cW' w' n /\ But n w w') FX := by
  unfold f__law_parts
  walk_at "f"
  refine (ba' h (by omega) (by omega)).mono ?_
  rintro _ w1 ⟨kind, rfl, hkind, h1, b1⟩
  walk_at "s"
  refine (ba' h1 (by omega) (by omega)).mono ?_
  rintro _ w2 ⟨many0, rfl, hmany0, h2, b2⟩
  walk_at "s"
  refine (ba' h2 (by omega) (by omega)).mono ?_
  rintro _ w3 ⟨size0, rfl, hsize0, h3, b3⟩
  walk_at "s"
  refine dr' (fun ρ => ∃ many size : Nat, ρ = ⟨[some (.fz (.obj n)), some (.fz (.int most)), some (.fz (.int states)), some (.fz (.int kind)), some (.fz (.int many)), some (.fz (.int size)), none, none, none, none, none], w3⟩ /\ 1 <= many /\ many <= most /\ 1 <= size /\ size <= states /\ (kind <= 4 \/ 2 <= size)) (bc' (fun hk => ?_) (fun hk => ?_)) ?_
  . walk_at "s"
    refine ⟨max (min 2 most) (1 + many0), max 2 (1 + size0), ?_, by omega, by omega, by omega, by omega, by omega⟩
    have e1 : ((max (min 2 most) (1 + many0) : Nat) : Int) = max (min 2 (most : Int)) (1 + (many0 : Int)) := by omega
    have e2 : ((max 2 (1 + size0) : Nat) : Int) = max 2 (1 + (size0 : Int)) := by omega
    rw [e1, e2]
  . walk_at "s"
    refine ⟨1 + many0, 1 + size0, ?_, by omega, by omega, by omega, by omega, by omega⟩
    have e1 : ((1 + many0 : Nat) : Int) = (1 + (many0 : Int)) := by omega
    have e2 : ((1 + size0 : Nat) : Int) = (1 + (size0 : Int)) := by omega
    rw [e1, e2]
  rintro _ ⟨many, size, rfl, hm1, hmm, hs1, hss, hks⟩
  walk_at "s"
  refine (eI' (l := [97, 98, 99, 100, 101, 102, 103, 104, 105, 106, 107, 108, 109, 110, 111, 112, 113, 114, 115, 116, 117, 118, 119, 120, 121, 122].map chD) h3 (by decide)).mono ?_
  rintro _ w4 ⟨r, rfl, hperm, h4, b4⟩
  obtain ⟨r', rfl, hp'⟩ : ∃ r' : List Nat, r = r'.map chD /\ r'.Perm abc := by
    refine ⟨r.map fun d => (match d with | .str [c] => c | _ => 0), ?_, ?_⟩
    . rw [List.map_map]
      have : ∀ d ∈ r, (chD ∘ fun d => (match d with | .str [c] => c | _ => 0)) d = d := fun d hd => by
        obtain ⟨c, _, rfl⟩ := List.mem_map.mp (hperm.subset hd)
        rfl
      exact ((List.map_congr_left this).trans (List.map_id r)).symm
    . have := hperm.map fun d => (match d with | .str [c] => c | _ => 0)
      rw [List.map_map] at this
      refine this.trans ?_
      rw [show ((fun d : D => (match d with | .str [c] => c | _ => 0)) ∘ chD) = id from rfl, List.map_id]
  have hlen' := hp'.length_eq
  have hmany : many <= 26 := by omega
  have hq : (r'.take many).length = many := by rw [List.length_take, hlen']; show min many 26 = many; omega
  have hnd : (r'.take many).Nodup := (hp'.nodup_iff.mpr (by decide)).sublist (List.take_sublist ..)
  have hne : r'.take many ≠ [] := fun e => by rw [e] at hq; simp at hq; omega
  have hso : ∀ Q : D -> Prop, wD (cF' (.lst ((r'.take many).map chD))) Q = Q (.lst ((bY' (r'.take many)).map chD)) := fun Q => by rw [wP' hne, iJ' (by omega)]
  have hlen := qv' (r'.take many)
  have hlow : ∀ c ∈ bY' (r'.take many), 97 <= c /\ c <= 122 := fun c hc => rp'.mp (hp'.mem_iff.mp (List.mem_of_mem_take ((id' _).mem_iff.mp hc)))
  walk_at "s"
  rw [<- List.map_take, hso]
  have hl26 : (bY' (r'.take many)).length <= 16777216 := by omega
  walk_at "s"
  refine dr' (fun ρ => ∃ T : List (List Nat), ∃ w', ρ = ⟨[some (.fz (.obj n)), some (.fz (.int most)), some (.fz (.int states)), some (.fz (.int kind)), some (.fz (.int many)), some (.fz (.int size)), some (.fz (.lst (r'.map chD))), some (.fz (.str (bY' (r'.take many)))), some (.fz (cr' T)), none, none], w'⟩ /\ a5' T T.length many /\ 1 <= T.length /\ T.length <= states /\ cW' w' n /\ But n w w') (bc' (fun hk => ?_) (fun hk => ?_)) ?_
  . walk_at "s"
    refine (on' h4 hm1 (by omega)).mono ?_
    rintro _ w5 ⟨T, rfl, hT, ht1, ht2, h5, b5⟩
    walk_at "s"
    exact ⟨T, _, rfl, hT, by omega, by omega, h5, (((b1.trans b2).trans b3).trans b4).trans b5⟩
  . walk_at "s"
    refine (gW' h4 hs1 (by omega) hm1 (by omega) hks).mono ?_
    rintro _ w5 ⟨T, rfl, hT, h5, b5⟩
    walk_at "s"
    refine ⟨T, _, rfl, by rw [hT.1]; exact hT, by rw [hT.1]; exact hs1, by rw [hT.1]; exact hss, h5, (((b1.trans b2).trans b3).trans b4).trans b5⟩
  rintro _ ⟨T, w5, rfl, hT, hT1, hT2, h5, b5⟩
  walk_at "s"
  refine iq' (by simp; omega) (fun pre acc ρ => (∃ A : List Nat, acc = A.map (fun a => .int (a : Nat)) /\ A.Pairwise (· < ·) /\ ∀ a ∈ A, a < pre.length) /\ ∃ x w', ρ = ⟨[some (.fz (.obj n)), some (.fz (.int most)), some (.fz (.int states)), some (.fz (.int kind)), some (.fz (.int many)), some (.fz (.int size)), some (.fz (.lst (r'.map chD))), some (.fz (.str (bY' (r'.take many)))), some (.fz (cr' T)), none, x], w'⟩ /\ cW' w' n /\ But n w w') ⟨⟨[], rfl, by simp, by simp⟩, _, _, rfl, h5, b5⟩ ?_ ?_
  . rintro pre c post acc _ e ⟨⟨A, rfl, hp, hA⟩, x, w6, rfl, h6, b6⟩
    obtain ⟨rfl, hlt⟩ := lw' e
    walk_at "s"
    refine (ba' h6 (by omega) (by omega)).mono ?_
    rintro _ w7 ⟨d, rfl, hd, h7, b7⟩
    walk_at "s"
    refine bc' (fun hd => ?_) (fun hd => ?_)
    . walk_at "s"
      refine ⟨⟨A ++ [pre.length], by simp, ?_, ?_⟩, _, _, rfl, h7, b6.trans b7⟩
      . rw [List.pairwise_append]
        exact ⟨hp, by simp, by simpa using hA⟩
      . simp only [List.mem_append, List.mem_singleton, List.length_append, List.length_singleton]
        rintro a (ha | rfl)
        . have := hA a ha; omega
        . omega
    . exact ⟨⟨A, rfl, hp, fun a ha => by have := hA a ha; simp; omega⟩, _, _, rfl, h7, b6.trans b7⟩
  . rintro _ _ ⟨⟨A, rfl, hp, hA⟩, x, w6, rfl, h6, b6⟩
    rw [List.length_range] at hA
    walk_at "s"
    refine ⟨_, T, A, rfl, ⟨⟨by omega, by omega, sO' hnd, hlow⟩, ?_, hT1, hT2, ⟨hp, hA⟩⟩⟩
    rw [hlen, hq]
    exact hT
theorem iF' {α β : Type} (f : α -> D) (g : β -> D) : ∀ (a : List α) (b : List β), dq' (a.map f) (b.map g) = (a.zip b).map fun p => .tup [f p.1, g p.2]
  | [], _ => by simp [dq']
  | _ :: _, [] => by simp [dq']
  | x :: a, y :: b => by simp [dq', iF' f g a b]
theorem hL' : ∀ s : List Nat, s.Pairwise (· < ·) ↔ ∀ p ∈ s.zip (s.drop 1), p.1 < p.2
  | [] => by simp
  | [a] => by simp
  | a :: b :: r => by
    have ih := hL' (b :: r)
    simp only [List.drop_succ_cons, List.drop_zero, List.zip_cons_cons, List.mem_cons, forall_eq_or_imp] at ih ⊢
    rw [List.pairwise_cons, <- ih]
    constructor
    . rintro ⟨h1, h2⟩
      exact ⟨h1 b (by simp), h2⟩
    . rintro ⟨h1, h2⟩
      refine ⟨?_, h2⟩
      rw [List.pairwise_cons] at h2
      intro c hc
      rcases List.mem_cons.mp hc with rfl | hc
      . exact h1
      . exact Nat.lt_trans h1 (h2.1 c hc)
theorem c0' (s S : Tx) (w : W) : wF (f_is_string_of [.str s, .str S] w) (fun o w' => o = .fz (.bl (s.all fun c => decide (c ∈ S))) /\ w' = w) FX := by
  unfold f_is_string_of
  walk_at "f"
  refine bN' (fun pre ρ => ∃ x, ρ = ⟨[some (.fz (.str s)), some (.fz (.str S)), x], w⟩ /\ ∀ c ∈ pre, c ∈ S) ⟨_, rfl, by simp⟩ ?_ ?_
  . rintro pre c post _ e ⟨x, rfl, hp⟩
    walk_at "s"
    refine bc' (fun h => ?_) (fun h => ?_)
    . walk_at "s"
      exact ⟨_, rfl, by simpa [or_imp, forall_and] using ⟨hp, h⟩⟩
    . walk_at "s"
      refine AD' ?_
      rw [List.all_eq_false]
      exact ⟨c, by simp, by simpa using h⟩
  . rintro _ ⟨x, rfl, hp⟩
    walk_at "s"
    refine AC' ?_
    rw [List.all_eq_true]
    exact fun c hc => by simpa using hp c hc
theorem hk' {d : D} (h : ∃ t, tyn d = some t /\ t ≠ "str") (S : Tx) (w : W) : wF (f_is_string_of [d, .str S] w) (fun o w' => o = .fz (.bl false) /\ w' = w) FX := by
  unfold f_is_string_of
  cases d <;> simp [tyn] at h
  all_goals walk_at "f"
theorem fK' (s : Tx) (w : W) : wF (f_is_ascending [.str s] w) (fun o w' => o = .fz (.bl (decide (s.Pairwise (· < ·)))) /\ w' = w) FX := by
  unfold f_is_ascending
  walk_at "f"
  rw [iF']
  refine bN' (fun pre ρ => ∃ x y, ρ = ⟨[some (.fz (.str s)), x, y], w⟩ /\ ∀ p ∈ pre, p.1 < p.2) ⟨_, _, rfl, by simp⟩ ?_ ?_
  . rintro pre c post _ e ⟨x, y, rfl, hp⟩
    walk_at "s"
    refine bc' (fun h => ?_) (fun h => ?_)
    . walk_at "s"
      refine ⟨_, _, rfl, ?_⟩
      have : c.1 < c.2 := by simpa [List.cons_lt_cons_iff] using h
      simp only [List.mem_append, List.mem_singleton]
      rintro p (hq | rfl)
      . exact hp p hq
      . exact this
    . walk_at "s"
      refine AD' ?_
      rw [decide_eq_false_iff_not, hL']
      intro h2
      have := h2 c (by rw [e]; simp)
      exact h (by simpa [List.cons_lt_cons_iff] using this)
  . rintro _ ⟨x, y, rfl, hp⟩
    walk_at "s"
    refine AC' ?_
    rw [decide_eq_true_iff, hL']
    exact hp
theorem hX' (s S : Tx) (w : W) : wF (f_is_choice [.str s, .str S] w) (fun o w' => o = .fz (.bl ((s.all fun c => decide (c ∈ S)) && decide (s.Pairwise (· < ·)))) /\ w' = w) FX := by
  unfold f_is_choice
  walk_at "f"
  refine (c0' s S w).mono ?_
  rintro _ _ ⟨rfl, rfl⟩
  walk_at "s"
  refine vk' (fun h => ?_) (fun h => ?_)
  . walk_at "s"
    refine (fK' s _).mono ?_
    rintro _ _ ⟨rfl, rfl⟩
    walk_at "s"
  . walk_at "s"
theorem hq' (i : Int) (w : W) : wF (f_is_integer [.int i] w) (fun o w' => o = .fz (.bl true) /\ w' = w) FX := by
  unfold f_is_integer
  walk_at "f"
theorem go' (A : List Nat) (w : W) : wF (f_is_ascending [c2' A] w) (fun o w' => o = .fz (.bl (decide (A.Pairwise (· < ·)))) /\ w' = w) FX := by
  unfold f_is_ascending c2'
  walk_at "f"
  have e0 : (A.map fun a => D.int (a : Nat)).drop 1 = (A.drop 1).map fun a => D.int (a : Nat) := by rw [List.map_drop]
  rw [e0, iF']
  refine bN' (fun pre ρ => ∃ x y, ρ = ⟨[some (.fz (.tup (A.map fun a => .int (a : Nat)))), x, y], w⟩ /\ ∀ p ∈ pre, p.1 < p.2) ⟨_, _, rfl, by simp⟩ ?_ ?_
  . rintro pre c post _ e ⟨x, y, rfl, hp⟩
    walk_at "s"
    refine bc' (fun h => ?_) (fun h => ?_)
    . walk_at "s"
      refine AD' ?_
      rw [decide_eq_false_iff_not, hL']
      intro h2
      have := h2 c (by rw [e]; simp)
      omega
    . walk_at "s"
      refine ⟨_, _, rfl, ?_⟩
      simp only [List.mem_append, List.mem_singleton]
      rintro p (hq | rfl)
      . exact hp p hq
      . omega
  . rintro _ ⟨x, y, rfl, hp⟩
    walk_at "s"
    refine AC' ?_
    rw [decide_eq_true_iff, hL']
    exact hp
theorem dP' (A : List Nat) (m : Nat) (w : W) : wF (f_are_states [c2' A, .int m] w) (fun o w' => o = .fz (.bl (A.all fun a => decide (a < m))) /\ w' = w) FX := by
  unfold f_are_states c2'
  walk_at "f"
  refine bN' (fun pre ρ => ∃ x, ρ = ⟨[some (.fz (.tup (A.map fun a => .int (a : Nat)))), some (.fz (.int m)), x], w⟩ /\ ∀ a ∈ pre, a < m) ⟨_, rfl, by simp⟩ ?_ ?_
  . rintro pre c post _ e ⟨x, rfl, hp⟩
    walk_at "s"
    refine (hq' _ _).mono ?_
    rintro _ _ ⟨rfl, rfl⟩
    walk_at "s"
    refine bc' (fun h => ?_) (fun h => ?_)
    . walk_at "s"
      refine AD' ?_
      rw [List.all_eq_false]
      exact ⟨c, by simp, by simp; omega⟩
    . walk_at "s"
      exact ⟨_, rfl, by simpa [or_imp, forall_and] using ⟨hp, by omega⟩⟩
  . rintro _ ⟨x, rfl, hp⟩
    walk_at "s"
    refine AC' ?_
    rw [List.all_eq_true]
    exact fun c hc => by simpa using hp c hc
theorem i9' {T : List (List Nat)} {L : Tx} (h : a5' T T.length L.length) (h1 : 1 <= T.length) (h2 : T.length <= 6) (w : W) : wF (f_is_table [cr' T, .str L] w) (fun o w' => o = .fz (.bl true) /\ w' = w) FX := by
  unfold f_is_table cr'
  walk_at "f"
  refine bN' (fun pre ρ => ∃ x, ρ = ⟨[some (.fz (.tup (T.map cK'))), some (.fz (.str L)), x], w⟩) ⟨_, rfl⟩ ?_ ?_
  . rintro pre c post _ e ⟨x, rfl⟩
    have hc := h.2 c (by rw [e]; simp)
    clear e
    walk_at "s"
    refine (dP' c T.length w).mono ?_
    rintro _ _ ⟨rfl, rfl⟩
    have e2 : (c.all fun a => decide (a < T.length)) = true := by rw [List.all_eq_true]; exact fun a ha => by simpa using hc.2 a ha
    have e3 := hc.1
    clear hc
    rw [e2]
    unfold cK'
    walk_at "s"
    exact ⟨_, rfl⟩
  . rintro _ ⟨x, rfl⟩
    walk_at "s"
def eB (b : Bool) : D := .bl b
theorem Dy' : KeyE eB := ⟨fun a b => by cases a <;> cases b <;> rfl, fun _ => rfl, fun _ => by show dep (.bl _) <= 8; simp [dep], fun _ _ => rfl⟩
def eK (k : Nat × List Nat) : D := .tup [.int (k.1 : Nat), .tup (k.2.map fun t => .int (t : Nat))]
theorem ky' : ∀ a b : List Nat, eqbs (a.map fun t => .int (t : Nat)) (b.map fun t => .int (t : Nat)) = decide (a = b)
  | [], [] => rfl
  | [], _ :: _ => rfl
  | _ :: _, [] => rfl
  | a :: l, b :: r => by
    simp only [List.map_cons, eqbs, fL', ky' l r]
    rw [Bool.eq_iff_iff]
    simp
theorem yX' : KeyE eK := by
  refine ⟨fun a b => ?_, fun a => ?_, fun a => ?_, fun _ _ => rfl⟩
  . obtain ⟨a1, a2⟩ := a
    obtain ⟨b1, b2⟩ := b
    simp only [eK, eqb, eqbs, ky', Bool.and_true]
    rw [Bool.eq_iff_iff]
    simp
    omega
  . have : ∀ l : List Nat, kats (l.map fun t => .int (t : Nat)) = true := by intro l; induction l <;> simp_all [kats, kat]
    simp [eK, kat, kats, this]
  . have : ∀ l : List Nat, deps (l.map fun t => .int (t : Nat)) <= 1 := by intro l; induction l <;> simp_all [deps, dep]
    have := this a.2
    simp only [eK, dep, deps]
    omega
theorem eY' {γ : Type} [DecidableEq γ] {e : γ -> D} (he : KeyE e) (S : List Nat) (f : Nat -> γ) (hS : S.Nodup) (hl : S.length <= 1000) (w : W) : wF (f_numbered [dNz (S.map fun s => (s, e (f s)))] w) (fun o w' => o = dN (S.map fun s => (s, .int (jq' S f s : Nat))) /\ w' = w) FX := by
  unfold f_numbered
  walk_at "f"
  have pairs : ∀ G : List γ, G.Nodup -> ∀ k : γ, (G.map fun a => (a, D.int (G.idxOf a : Nat))).lookup k = if k ∈ G then some (D.int (G.idxOf k : Nat)) else none := by
    intro G _ k
    have go : ∀ (l : List γ) (h : γ -> D), (l.map fun a => (a, h a)).lookup k = if k ∈ l then some (h k) else none := by
      intro l h
      induction l with
      | nil => rfl
      | cons a l ih =>
        rw [List.map_cons, List.lookup_cons, ih]
        by_cases q : k = a
        . subst q; simp
        . have : (k == a) = false := by simpa using q
          simp [this, q]
    exact go G _
  rw [List.map_map]
  refine bN' (fun pre ρ => ∃ y z, ρ = ⟨[some (.fz (dNz (S.map fun s => (s, e (f s))))), some (dX e ((ao' (pre.map f)).map fun a => (a, .int ((ao' (pre.map f)).idxOf a : Nat)))), some (dN (pre.map fun s => (s, .int ((ao' (S.map f)).idxOf (f s) : Nat)))), y, z], w⟩) ⟨_, _, rfl⟩ ?_ ?_
  . rintro pre s post _ es ⟨y, z, rfl⟩
    rw [List.map_append, List.map_cons, List.map_nil, bz']
    show wD (gT [3, 4] (.tup [.int (s : Nat), e (f s)]) _) _
    -- numbers found once stay
    have keep : (ao' (pre.map f ++ [f s])) <+: ao' (S.map f) := by
      have e2 : ao' (S.map f) = cG' (ao' (pre.map f ++ [f s])) (post.map f) := by
        rw [es, List.map_append, List.map_cons, show pre.map f ++ f s :: post.map f = (pre.map f ++ [f s]) ++ post.map f by simp]
        exact df'
      rw [e2]
      exact dV'
    rw [bz'] at keep
    have hnd : (ao' (pre.map f)).Nodup := hd'
    have hlk := pairs _ hnd (f s)
    have hlen : pre.length < 1000 := by
      have := congrArg List.length es
      simp at this
      omega
    have hlen2 : (ao' (pre.map f)).length <= pre.length := by
      have h2 := List.Nodup.length_le_of_subset hnd (l₂ := pre.map f) (fun a ha => aK'.mp ha)
      simpa using h2
    have hfr : ((pre.map fun s => (s, D.int ((ao' (S.map f)).idxOf (f s) : Nat))).lookup s) = none := by
      refine cj' _ _ ?_
      rw [List.map_map]
      intro hm
      rw [es] at hS
      obtain ⟨s', hs', e'⟩ := List.mem_map.mp hm
      have : s' = s := e'
      exact (List.nodup_append.mp hS).2.2 s' hs' s (by simp) this
    have hl3 : (pre.map fun s => (s, D.int ((ao' (S.map f)).idxOf (f s) : Nat))).length < 16777216 := by rw [List.length_map]; omega
    by_cases hm : f s ∈ ao' (pre.map f)
    . rw [if_pos hm] at hlk
      rw [cv' hm] at keep ⊢
      have hx := fI' he ((ao' (pre.map f)).map fun a => (a, D.int ((ao' (pre.map f)).idxOf a : Nat))) (f s)
      rw [hlk] at hx
      have hid : (ao' (S.map f)).idxOf (f s) = (ao' (pre.map f)).idxOf (f s) := by
        obtain ⟨G, eG⟩ := keep
        rw [<- eG, List.idxOf_append, if_pos hm]
      clear es keep
      walk_at "s"
      exact ⟨_, _, by rw [List.map_append, List.map_cons, List.map_nil, hid]⟩
    . rw [if_neg hm] at hlk
      rw [bZ' hm] at keep ⊢
      have hx := fI' he ((ao' (pre.map f)).map fun a => (a, D.int ((ao' (pre.map f)).idxOf a : Nat))) (f s)
      rw [hlk] at hx
      have hp := fun d => q0' he (l := (ao' (pre.map f)).map fun a => (a, D.int ((ao' (pre.map f)).idxOf a : Nat))) (k := f s) hlk (by rw [List.length_map]; omega) d
      have hx2 := fun d => fI' he (((ao' (pre.map f)).map fun a => (a, D.int ((ao' (pre.map f)).idxOf a : Nat))) ++ [(f s, d)]) (f s)
      have hl4 : ∀ d : D, (((ao' (pre.map f)).map fun a => (a, D.int ((ao' (pre.map f)).idxOf a : Nat))) ++ [(f s, d)]).lookup (f s) = some d := by
        intro d
        rw [List.lookup_append, hlk]
        simp
      simp only [hl4] at hx2
      have hid : (ao' (S.map f)).idxOf (f s) = (ao' (pre.map f)).length := by
        obtain ⟨G, eG⟩ := keep
        rw [<- eG, List.idxOf_append, if_pos (by simp), List.idxOf_append, if_neg hm]
        simp
      have hnew : (ao' (pre.map f) ++ [f s]).map (fun a => (a, D.int ((ao' (pre.map f) ++ [f s]).idxOf a : Nat))) = ((ao' (pre.map f)).map fun a => (a, D.int ((ao' (pre.map f)).idxOf a : Nat))) ++ [(f s, D.int ((ao' (pre.map f)).length : Nat))] := by
        rw [List.map_append]
        congr 1
        . refine List.map_congr_left fun a ha => ?_
          rw [List.idxOf_append, if_pos ha]
        . simp [List.idxOf_append, hm]
      rw [hnew]
      clear es keep hnew hl4
      walk_at "s"
      exact ⟨_, _, by rw [List.map_append, List.map_cons, List.map_nil, hid]⟩
  . rintro _ ⟨y, z, rfl⟩
    walk_at "s"
    rfl
theorem rq' : ∀ {l : List Int} {x : Int}, x ∈ l -> x <= nS' l
  | [], _, h => by cases h
  | [y], x, h => by
    rw [List.mem_singleton.mp h]
    show y <= y
    omega
  | y :: z :: r, x, h => by
    show x <= max y (nS' (z :: r))
    rcases List.mem_cons.mp h with rfl | h
    . omega
    . have := rq' h
      omega
theorem nR' : ∀ {l : List Int}, l ≠ [] -> nS' l ∈ l
  | [], h => absurd rfl h
  | [y], _ => by show y ∈ [y]; simp
  | y :: z :: r, _ => by
    show max y (nS' (z :: r)) ∈ _
    have := nR' (l := z :: r) (by simp)
    rcases Int.le_total y (nS' (z :: r)) with h | h
    . rw [Int.max_eq_right h]; exact List.mem_cons_of_mem _ this
    . rw [Int.max_eq_left h]; simp
theorem tp' {S : List Nat} {c : Nat -> Nat} {k : Nat} (h : ao' (S.map c) = List.range k) (hS : S ≠ []) : nS' (S.map fun s => ((c s : Nat) : Int)) = (k : Int) - 1 := by
  have mem : ∀ q, q ∈ S.map c ↔ q < k := fun q => by rw [<- aK', h, List.mem_range]
  obtain ⟨s, hs⟩ := List.exists_mem_of_ne_nil S hS
  have k1 : c s < k := (mem _).mp (List.mem_map.mpr ⟨s, hs, rfl⟩)
  have h1 : ((k : Int) - 1) ∈ S.map fun s => ((c s : Nat) : Int) := by
    obtain ⟨t, ht, e⟩ := List.mem_map.mp ((mem (k - 1)).mpr (by omega))
    exact List.mem_map.mpr ⟨t, ht, by omega⟩
  have h2 := rq' h1
  have h3 := nR' (l := S.map fun s => ((c s : Nat) : Int)) (by simpa using hS)
  obtain ⟨t, ht, e⟩ := List.mem_map.mp h3
  have := (mem (c t)).mp (List.mem_map.mpr ⟨t, ht, rfl⟩)
  have e : ((c t : Nat) : Int) = nS' (S.map fun s => ((c s : Nat) : Int)) := e
  omega
theorem oZ' {w : W} {m : Nat} {L : Tx} {T : List (List Nat)} {A S : List Nat} (ht : hu' ["Machine", "RawMachine"] "kept_table" w (.obj m) = some (cr' T)) (ha : hu' ["Machine", "RawMachine"] "kept_accepts" w (.obj m) = some (c2' A))
    (hT : a5' T T.length L.length) (hL : L.Nodup) (hLl : L.length <= 1000) (hn2 : T.length <= 1000) (hS : ∀ s ∈ S, s < T.length) (hcl : ∀ s ∈ S, ∀ t ∈ am' T s, t ∈ S) (hnd : S.Nodup) (hne : S ≠ []) :
    wF (f_alike_states [.obj m, .lst (S.map fun s => .int (s : Nat))] w) (fun o w' => (∃ c k, Clz L T A S c k /\ (∀ s ∈ S, ∀ t ∈ S, c s = c t -> key T c s = key T c t) /\ o = .fz (dNz (S.map fun s => (s, .int (c s : Nat))))) /\ w' = w) FX := by
  have hlen : S.length <= T.length := lG' hnd hS
  unfold f_alike_states
  walk_at "f"
  refine uZ' (fun s : Nat => s) (fun s => eB (decide (s ∈ A))) (by omega) (by simpa using hnd) ?_ ?_
  . intro s hs
    walk_at "s"
    rfl
  walk_at "l"
  walk_at "s"
  rw [oO' (fun s : Nat => s) (fun s => eB (decide (s ∈ A)))]
  refine (eY' Dy' S (fun s => decide (s ∈ A)) hnd (by omega) w).mono ?_
  rintro _ _ ⟨rfl, rfl⟩
  walk_at "s"
  rename_i w
  have n0 : S.map (fun s => ((s : Nat) : Int)) ≠ [] := by simpa using hne
  refine gG' (fun mm ρ => ∃ many c k y z z2 o, mm = T.length + 1 - many /\ Clz L T A S c k /\ (many = 0 \/ ∃ c1, Clz L T A S c1 many /\ c = jq' S (key T c1) /\ k = (ao' (S.map (key T c1))).length) ∧
      (o = dN (S.map fun s => (s, .int (c s : Nat))) \/ o = .fz (dNz (S.map fun s => (s, .int (c s : Nat))))) /\ ρ = ⟨[some (.fz (.obj m)), some (.fz (.lst (S.map fun s => .int (s : Nat)))), some o, some (.fz (.int (many : Nat))), y, z, z2], w⟩)
    (T.length + 1) (by show T.length + 1 < 2 ^ 40; omega) ⟨0, _, _, _, _, _, _, rfl, Clz.first, .inl rfl, .inl rfl, rfl⟩ ?_
  rintro mm _ ⟨many, c, k, y, z, z2, o, rfl, hc, hm, ho, rfl⟩
  have hmx := tp' hc.num hne
  have kle : k <= T.length := by
    have h1 := bL' c S
    rw [hc.num, List.length_range, ci' hnd] at h1
    omega
  have hmv : ∀ P : D -> Prop, wD (oD' (dNz (S.map fun s => (s, D.int (c s : Nat))))) P = P (.int ((k : Int) - 1)) := fun P => by
    have := zL' (P := P) (fun s : Nat => s) (fun s : Nat => ((c s : Nat) : Int)) S hne
    rw [hmx] at this
    exact this
  have hlk : ∀ s ∈ S, (S.map fun s => (s, D.int (c s : Nat))).lookup s = some (.int (c s : Nat)) := fun s hs => by rw [bn' (fun s => D.int (c s : Nat)), if_pos hs]
  clear ha
  rcases ho with rfl | rfl
  all_goals
    walk_at "s"
    refine bc' (fun h => ?_) (fun h => ?_)
    . have hpush : (k : Int) - 1 + 1 = ((k : Nat) : Int) := by omega
      walk_at "s"
      refine bN' (fun pre ρ => ∃ y z2, ρ = ⟨[some (.fz (.obj m)), some (.fz (.lst (S.map fun s => .int (s : Nat)))), some (.fz (dNz (S.map fun s => (s, .int (c s : Nat))))), some (.fz (.int (k : Nat))), some (dN (pre.map fun s => (s, eK (key T c s)))), y, z2], w⟩) ⟨_, _, rfl⟩ ?_ ?_
      . rintro pre s post _ e ⟨y, z2, rfl⟩
        have hs : s ∈ S := by rw [e]; simp
        have hl1 := hlk s hs
        have hrow := ck' hT (hS s hs)
        have hfr : (pre.map fun s => (s, eK (key T c s))).lookup s = none := by
          refine cj' _ _ ?_
          rw [List.map_map]
          intro hm
          rw [e] at hnd
          obtain ⟨s', hs', e'⟩ := List.mem_map.mp hm
          have : s' = s := e'
          exact (List.nodup_append.mp hnd).2.2 s' hs' s (by simp) this
        have hl3 : (pre.map fun s => (s, eK (key T c s))).length < 16777216 := by
          have := congrArg List.length e
          rw [List.length_map]
          simp at this
          omega
        clear e
        walk_at "s"
        refine d8' (fun t : Nat => D.int (c t : Nat)) (by have := bE' hT (hS s hs); omega) ?_ ?_
        . intro t htr
          have hl2 := hlk t (hcl s hs t htr)
          walk_at "s"
        walk_at "l"
        walk_at "s"
        exact ⟨_, _, by rw [List.map_append, List.map_cons, List.map_nil]; simp only [eK, key, List.map_map]; rfl⟩
      . rintro _ ⟨y, z2, rfl⟩
        walk_at "s"
        refine (eY' yX' S (key T c) hnd (by omega) w).mono ?_
        rintro _ _ ⟨rfl, rfl⟩
        walk_at "s"
        exact ⟨T.length + 1 - k, by omega, k, jq' S (key T c), _, _, _, _, _, rfl, hc.next hT hL hS hcl, .inr ⟨c, hc, rfl, rfl⟩, .inl rfl, rfl⟩
    . have hk0 : 0 < k := by
        obtain ⟨s, hs⟩ := List.exists_mem_of_ne_nil S hne
        have := hc.lt hs
        omega
      rcases hm with hm | ⟨c1, h1, e1, e2⟩
      . omega
      . have hst := h1.stable (by omega)
        have hsm := h1.same (by omega)
        walk_at "s"
        refine ⟨c1, many, h1, hst, ?_⟩
        congr 2
        refine List.map_congr_left fun s hs => ?_
        rw [hsm s hs]
theorem j4' {w : W} {m : Nat} {T : List (List Nat)} {n : Nat} (ht : hu' ["Machine", "RawMachine"] "kept_table" w (.obj m) = some (cr' T)) (hT : a5' T T.length n) (hn : 1 <= T.length) (hn2 : T.length <= 1000) : wF (f_reached [.obj m] w) (fun o w' => o = .lst ((reach T).map fun s => .fz (.int (s : Nat))) /\ w' = w) FX := by
  unfold f_reached
  walk_at "f"
  refine gG' (fun mm ρ => ∃ j, mm = T.length + 1 - j /\ j <= (bfs T j).length /\ ∃ y, ρ = ⟨[some (.fz (.obj m)), some (.lst ((bfs T j).map fun s => .fz (.int (s : Nat)))), some (dN ((bfs T j).map fun s => (s, .bl true))), some (.fz (.int (j : Nat))), y], w⟩) (T.length + 1) (by show T.length + 1 < 2 ^ 40; omega) ⟨0, by simp, by simp, _, rfl⟩ ?_
  rintro mm _ ⟨j, rfl, hj, y, rfl⟩
  walk_at "s"
  refine bc' (fun h => ?_) (fun h => ?_)
  . have hj2 : j < (bfs T j).length := by omega
    have hs : (bfs T j)[j]? = some (bfs T j)[j] := List.getElem?_eq_getElem hj2
    generalize (bfs T j)[j] = s at hs
    have hsl : s < T.length := hG' hT hn (List.mem_of_getElem? hs)
    have hrow := ck' hT hsl
    have hlen := b0' hT hn j
    walk_at "s"
    refine bN' (fun pre ρ => ∃ y, ρ = ⟨[some (.fz (.obj m)), some (.lst ((cG' (bfs T j) pre).map fun s => .fz (.int (s : Nat)))), some (dN ((cG' (bfs T j) pre).map fun s => (s, .bl true))), some (.fz (.int (j : Nat))), y], w⟩) ⟨_, rfl⟩ ?_ ?_
    . rintro pre t post _ e ⟨y, rfl⟩
      have hl2 : (cG' (bfs T j) pre).length <= T.length := lG' (fH' (iE' j)) fun x hx => (b9'.mp hx).elim (fun q => hG' hT hn q) fun q => dy' hT (s := s) (by rw [e]; simp [q])
      have hlk := bn' (fun _ => D.bl true) t (cG' (bfs T j) pre)
      have hlL : ((cG' (bfs T j) pre).map fun s => (s, D.bl true)).length < 16777216 := by rw [List.length_map]; omega
      rw [ht']
      clear e hs hrow
      by_cases hm : t ∈ cG' (bfs T j) pre
      . rw [if_pos hm] at hlk
        rw [cv' hm]
        walk_at "s"
        exact ⟨_, rfl⟩
      . rw [if_neg hm] at hlk
        rw [bZ' hm]
        walk_at "s"
        exact ⟨some (.fz (.int (t : Nat))), by simp⟩
    . rintro _ ⟨y, rfl⟩
      walk_at "s"
      rw [<- d9' hs]
      refine ⟨T.length + 1 - (j + 1), by omega, j + 1, rfl, ?_, _, rfl⟩
      have := (jm' (T := T) (j := j)).length_le
      omega
  . have e : bfs T j = reach T := dS' hT hn (by omega)
    rw [e]
    walk_at "s"
def mkM (C : String) (L : Tx) (T : List (List Nat)) (A : List Nat) (l : D) (rest : List (String × O)) : Ob :=
  .ins C (("kept_letters", .fz (.str L)) :: ("kept_table", .fz (cr' T)) :: ("kept_accepts", .fz (c2' A)) :: ("kept_least", .fz l) :: rest)
abbrev cY' : List (String × O) := [("kept_field", .fz .non), ("kept_lots", .dct [] []), ("kept_more", .dct [] [])]
structure McAt (w : W) (m : Nat) (L : Tx) (T : List (List Nat)) (A : List Nat) (l : D) : Prop where
  fl : hu' ["Machine", "RawMachine"] "kept_letters" w (.obj m) = some (.str L)
  ft : hu' ["Machine", "RawMachine"] "kept_table" w (.obj m) = some (cr' T)
  fa : hu' ["Machine", "RawMachine"] "kept_accepts" w (.obj m) = some (c2' A)
  fk : hu' ["Machine", "RawMachine"] "kept_least" w (.obj m) = some l
theorem McAt.of {w : W} {m : Nat} {C : String} {L T A l rest} (h : w[m]? = some (mkM C L T A l rest)) (hC : C = "Machine" \/ C = "RawMachine") : McAt w m L T A l := by
  refine ⟨?_, ?_, ?_, ?_⟩
  all_goals rcases hC with rfl | rfl
  all_goals simp [hu', h, mkM, List.lookup]
theorem nY' {w : W} {m : Nat} {C : String} {L : Tx} {T : List (List Nat)} {A : List Nat} (h : w[m]? = some (.ins C [])) (hC : C = "Machine" \/ C = "RawMachine") : wF (f_Machine_keep [.obj m, .str L, cr' T, c2' A] w) (fun o w' => o = .fz .non /\ w' = w.set m (mkM C L T A .non cY')) FX := by
  have hm := bv' h
  have hC1 : C ∈ ["Machine", "RawMachine"] := by rcases hC with rfl | rfl <;> simp
  unfold f_Machine_keep
  walk_at "f"
  rfl
theorem nC' {w : W} {m : Nat} {L : Tx} {T : List (List Nat)} {A : List Nat} (h : w[m]? = some (.ins "RawMachine" [])) : wF (f_RawMachine___init__ [.obj m, .str L, cr' T, c2' A] w) (fun o w' => o = .fz .non /\ w' = w.set m (mkM "RawMachine" L T A .non cY')) FX := by
  unfold f_RawMachine___init__
  walk_at "f"
  refine ⟨by simp [ja', h], ?_⟩
  refine (nY' h (.inr rfl)).mono ?_
  rintro _ _ ⟨rfl, rfl⟩
  walk_at "s"
theorem x4' {cs : List String} {f : String} {o : O} {w : W} {n : Nat} {C : String} {fs : List (String × O)} (h : w[n]? = some (.ins C fs)) (hc : C ∈ cs) (hl : fs.length < 1000) : stF cs f o w (.obj n) = some (w.set n (.ins C (q4' f o fs))) := by
  simp only [stF, h]
  exact if_pos ⟨hc, hl⟩
theorem j0' {cs : List String} {w : W} {n : Nat} {C : String} {L T A} {l d : D} {rest : List (String × O)} (h : w[n]? = some (mkM C L T A l rest)) (hc : C ∈ cs) (hl : rest.length <= 100) : stF cs "kept_least" (.fz d) w (.obj n) = some (w.set n (mkM C L T A d rest)) := by
  rw [x4' h hc (by simp; omega)]
  rfl
theorem lo' (k : Nat) : gQ' ((List.range k).map fun q => ((q : Nat) : Int)) = (List.range k).map fun q => ((q : Nat) : Int) := by
  unfold gQ'
  refine List.mergeSort_of_pairwise ?_
  rw [List.pairwise_map]
  refine List.Pairwise.imp (fun {a b} h => ?_) List.pairwise_lt_range
  simp
  omega
theorem oI' {w : W} {m : Nat} {C : String} {L : Tx} {T : List (List Nat)} {A : List Nat} {rest : List (String × O)} (h : w[m]? = some (mkM C L T A .non rest)) (hC : C = "Machine" \/ C = "RawMachine") (hr : rest.length <= 100)
    (hT : a5' T T.length L.length) (hL : L.Nodup) (hLl : L.length <= 1000) (hn : 1 <= T.length) (hn2 : T.length <= 1000) :
    wF (f_least [.obj m] w) (fun o w' => ∃ c T' A', IsLeast L T A c T' A' /\ o = .fz (.obj w.length) /\ w' = w.set m (mkM C L T A (.obj w.length) rest) ++ [mkM "RawMachine" L T' A' (.obj w.length) cY']) FX := by
  have hM := McAt.of h hC
  have h1 := hM.fl
  have h2 := hM.ft
  have h3 := hM.fa
  have h4 := hM.fk
  unfold f_least
  walk_at "f"
  refine (j4' h2 hT hn (by omega)).mono ?_
  rintro _ _ ⟨rfl, rfl⟩
  walk_at "s"
  have hS : ∀ s ∈ reach T, s < T.length := fun s hs => gx' hT hn hs
  have hcl : ∀ s ∈ reach T, ∀ t ∈ am' T s, t ∈ reach T := fun s hs t ht => cM' hT hn hs ht
  have efr : frzs ((reach T).map fun s => O.fz (D.int (s : Nat))) = (reach T).map fun s => D.int (s : Nat) := by
    rw [dG', List.map_map]; rfl
  rw [efr]
  refine (oZ' h2 h3 hT hL hLl (by omega) hS hcl eQ' (fun e => by have := dT' (T := T); rw [e] at this; cases this)).mono ?_
  rintro _ _ ⟨⟨c, k, hc, hst, rfl⟩, rfl⟩
  rename_i w
  have hlk : ∀ s ∈ reach T, ((reach T).map fun s => (s, D.int (c s : Nat))).lookup s = some (.int (c s : Nat)) := fun s hs => by rw [bn' (fun s => D.int (c s : Nat)), if_pos hs]
  have kle : k <= T.length := by
    have h1 := bL' c (reach T)
    rw [hc.num, List.length_range, ci' eQ'] at h1
    exact Nat.le_trans h1 (b0' hT hn _)
  walk_at "s"
  refine bN' (fun pre ρ => ∃ y, ρ = ⟨[some (.fz (.obj m)), some (.fz (.lst ((reach T).map fun s => .int (s : Nat)))), some (.fz (dNz ((reach T).map fun s => (s, .int (c s : Nat))))), some (dN ((ao' (pre.map c)).map fun q => (q, .int (bA' pre c q : Nat)))), y, none, none, none, none], w⟩) ⟨_, rfl⟩ ?_ ?_
  . rintro pre s post _ e ⟨y, rfl⟩
    have hs : s ∈ reach T := by rw [e]; simp
    have hl1 := hlk s hs
    have hlen : ((ao' (pre.map c)).map fun q => (q, D.int (bA' pre c q : Nat))).length < 16777216 := by
      have h1 := bL' c pre
      have h5 := congrArg List.length e
      have h6 := b0' hT hn T.length
      have h7 := List.Nodup.length_le_of_subset (hd' (xs := pre)) (l₂ := pre) (fun a ha => aK'.mp ha)
      simp only [List.length_append, List.length_cons] at h5
      unfold reach at h5
      rw [List.length_map]
      omega
    have hlf := bn' (fun q => D.int (bA' pre c q : Nat)) (c s) (ao' (pre.map c))
    clear e
    rw [List.map_append, List.map_cons, List.map_nil, bz']
    have hold : (ao' (pre.map c)).map (fun q => (q, D.int (bA' (pre ++ [s]) c q : Nat))) = (ao' (pre.map c)).map fun q => (q, D.int (bA' pre c q : Nat)) := List.map_congr_left fun q hq => by rw [kv' (aK'.mp hq)]
    walk_at "s"
    rw [wR' hlen, hlf]
    by_cases hm : c s ∈ ao' (pre.map c)
    . rw [if_pos hm, cv' hm]
      refine ⟨some (.fz (.int (s : Nat))), ?_⟩
      rw [hold]
    . rw [if_neg hm, bZ' hm]
      refine ⟨some (.fz (.int (s : Nat))), ?_⟩
      rw [List.map_append, hold, List.map_cons, List.map_nil, kw' fun q => hm (aK'.mpr q)]
  rintro _ ⟨y, rfl⟩
  rw [hc.num]
  have hlf : ∀ q < k, ((List.range k).map fun q => (q, D.int (bA' (reach T) c q : Nat))).lookup q = some (.int (bA' (reach T) c q : Nat)) := fun q hq => by rw [bn' (fun q => D.int (bA' (reach T) c q : Nat)), if_pos (List.mem_range.mpr hq)]
  have hsk : ∀ P : D -> Prop, wD (dW' (dNz ((List.range k).map fun q => (q, D.int (bA' (reach T) c q : Nat))))) P = P (.lst ((List.range k).map fun q => .int (q : Nat))) := fun P => by
    rw [wQ' _ (by simp; omega), List.map_map]
    have := lo' k
    rw [show ((fun p : Nat × D => (p.1 : Int)) ∘ fun q => (q, D.int (bA' (reach T) c q : Nat))) = fun q => ((q : Nat) : Int) from rfl, this, List.map_map]
    rfl
  have hfst : ∀ q < k, bA' (reach T) c q ∈ reach T := by
    intro q hq
    have : q ∈ ao' ((reach T).map c) := by rw [hc.num]; exact List.mem_range.mpr hq
    obtain ⟨s, hs, e⟩ := List.mem_map.mp (aK'.mp this)
    unfold bA'
    cases f : (reach T).find? fun s => decide (c s = q) with
    | none =>
      have := List.find?_eq_none.mp f s hs
      simp [e] at this
    | some t => exact List.mem_of_find?_eq_some f
  walk_at "s"
  refine bN' (fun pre ρ => ∃ z z2, ρ = ⟨[some (.fz (.obj m)), some (.fz (.lst ((reach T).map fun s => .int (s : Nat)))), some (.fz (dNz ((reach T).map fun s => (s, .int (c s : Nat))))), some (.fz (dNz ((List.range k).map fun q => (q, .int (bA' (reach T) c q : Nat))))), y, some (.lst (pre.map fun q => .fz (cK' ((am' T (bA' (reach T) c q)).map c)))), z, none, z2], w⟩) ⟨_, _, rfl⟩ ?_ ?_
  . rintro pre q post _ e ⟨z, z2, rfl⟩
    have hq : q < k := List.mem_range.mp (by rw [e]; simp)
    have hl1 := hlf q hq
    have hf := hfst q hq
    have hrow := ck' hT (hS _ hf)
    have hlen : pre.length < 16777216 := by
      have h5 := congrArg List.length e
      simp only [List.length_append, List.length_cons, List.length_range] at h5
      omega
    clear e
    walk_at "s"
    refine d8' (fun t : Nat => D.int (c t : Nat)) (by have := bE' hT (hS _ hf); omega) ?_ ?_
    . intro t htr
      have hl2 := hlk t (hcl _ hf t htr)
      walk_at "s"
    walk_at "l"
    walk_at "s"
    exact ⟨_, _, by rw [List.map_append, List.map_cons, List.map_nil]; simp only [cK', List.map_map]; rfl⟩
  rintro _ ⟨z, z2, rfl⟩
  walk_at "s"
  refine rF' (fun q => decide (bA' (reach T) c q ∈ A)) (fun q : Nat => D.int (q : Nat)) (by simp; omega) ?_ ?_
  . intro q hq
    have hl1 := hlf q (List.mem_range.mp hq)
    walk_at "s"
    exact fun _ => trivial
  walk_at "l"
  walk_at "s"
  have et : D.tup (frzs ((List.range k).map fun q => O.fz (cK' ((am' T (bA' (reach T) c q)).map c)))) = cr' (b5' T (reach T) c k) := by
    unfold cr' b5'
    rw [dG', List.map_map, List.map_map]; rfl
  have ea : D.tup (((List.range k).filter fun q => decide (bA' (reach T) c q ∈ A)).map fun q => D.int (q : Nat)) = c2' (f9' A (reach T) c k) := rfl
  rw [et, ea]
  have hI := nU' hT hL hn hc hst
  generalize b5' T (reach T) c k = T' at *
  generalize f9' A (reach T) c k = A' at *
  refine (nC' (by rw [List.getElem?_append_right (by omega), Nat.sub_self]; rfl)).mono ?_
  rintro _ _ ⟨rfl, rfl⟩
  rw [List.set_append_right _ _ (by omega), Nat.sub_self]
  have hm := bv' h
  have hC1 : C ∈ ["Machine", "RawMachine"] := by rcases hC with rfl | rfl <;> simp
  have g1 : (w ++ [mkM "RawMachine" L T' A' .non cY'])[m]? = some (mkM C L T A .non rest) := by rw [List.getElem?_append_left hm]; exact h
  obtain ⟨W1, e1⟩ : ∃ W1, W1 = (w ++ [mkM "RawMachine" L T' A' .non cY']).set m (mkM C L T A (.obj w.length) rest) := ⟨_, rfl⟩
  have s1 : stF ["Machine", "RawMachine"] "kept_least" (.fz (.obj w.length)) (w ++ [mkM "RawMachine" L T' A' .non cY']) (.obj m) = some W1 := by
    rw [j0' g1 hC1 hr, e1]
  have g2 : W1[m]? = some (mkM C L T A (.obj w.length) rest) := by
    rw [e1, List.getElem?_set_self (by simp; omega)]
  have f1 := (McAt.of g2 hC).fk
  have g3 : W1[w.length]? = some (mkM "RawMachine" L T' A' .non cY') := by
    rw [e1, List.getElem?_set_ne (by omega), List.getElem?_append_right (by omega), Nat.sub_self]
    rfl
  obtain ⟨W2, e2⟩ : ∃ W2, W2 = w.set m (mkM C L T A (.obj w.length) rest) ++ [mkM "RawMachine" L T' A' (.obj w.length) cY'] := ⟨_, rfl⟩
  have s2 : stF ["Machine", "RawMachine"] "kept_least" (.fz (.obj w.length)) W1 (.obj w.length) = some W2 := by
    rw [j0' g3 (by simp) (by simp), e1, e2]
    rw [List.set_append_left _ _ hm, List.set_append_right _ _ (by simp)]
    simp only [List.length_set, Nat.sub_self]
    rfl
  have g4 : W2[m]? = some (mkM C L T A (.obj w.length) rest) := by
    rw [e2, List.getElem?_append_left (by simpa using hm), List.getElem?_set_self hm]
  have f2 := (McAt.of g4 hC).fk
  clear g1 g2 g3 g4 e1 h1 h2 h3 h4 hlk hlf hsk
  walk_at "s"
  rw [<- e2, f2, a7']
  exact ⟨c, T', A', hI, rfl, e2⟩
theorem oJ' {w : W} {m n : Nat} {C : String} {L : Tx} {T : List (List Nat)} {A : List Nat} {rest : List (String × O)} (h : w[m]? = some (mkM C L T A (.obj n) rest)) (hC : C = "Machine" \/ C = "RawMachine") :
    wF (f_least [.obj m] w) (fun o w' => o = .fz (.obj n) /\ w' = w) FX := by
  have h4 := (McAt.of h hC).fk
  unfold f_least
  walk_at "f"
theorem gn' {X Y : D} {L : Tx} {T : List (List Nat)} {A S : List Nat} (hX : ey' X T) (hY : eC' Y A) (hT : a5' T T.length L.length) (hL : L.Nodup) (hLl : L.length <= 1000) (hn2 : T.length <= 1000) (hS : ∀ s ∈ S, s < T.length) (hcl : ∀ s ∈ S, ∀ t ∈ am' T s, t ∈ S) (hnd : S.Nodup) (hne : S ≠ []) (w : W) :
    wF (f__law_classes [X, Y, .lst (S.map fun s => .int (s : Nat))] w) (fun o w' => (∃ c k, Clz L T A S c k /\ (∀ s ∈ S, ∀ t ∈ S, c s = c t -> key T c s = key T c t) /\ o = .fz (dNz (S.map fun s => (s, .int (c s : Nat))))) /\ w' = w) FX := by
  have hlen : S.length <= T.length := lG' hnd hS
  have hl0 : 0 < S.length := List.length_pos_iff.mpr hne
  unfold f__law_classes
  walk_at "f"
  refine bN' (fun pre ρ => ∃ y, ρ = ⟨[some (.fz X), some (.fz Y), some (.fz (.lst (S.map fun s => .int (s : Nat)))), some (dN (pre.map fun s => (s, .int ((if s ∈ A then 1 else 0 : Nat) : Nat)))), y, none, none, none, none, none, none], w⟩) ⟨_, rfl⟩ ?_ ?_
  . rintro pre s post _ e ⟨y, rfl⟩
    have hfr : (pre.map fun s => (s, D.int ((if s ∈ A then 1 else 0 : Nat) : Nat))).lookup s = none := by
      refine cj' _ _ ?_
      rw [List.map_map]
      intro hm
      rw [e] at hnd
      obtain ⟨s', hs', e'⟩ := List.mem_map.mp hm
      have : s' = s := e'
      exact (List.nodup_append.mp hnd).2.2 s' hs' s (by simp) this
    have hl3 : (pre.map fun s => (s, D.int ((if s ∈ A then 1 else 0 : Nat) : Nat))).length < 16777216 := by
      have := congrArg List.length e
      rw [List.length_map]
      simp at this
      omega
    have hy := hY s
    have ei : (if decide (s ∈ A) = true then (1 : Int) else 0) = ((if s ∈ A then 1 else 0 : Nat) : Nat) := by by_cases h : s ∈ A <;> simp [h]
    clear e hY
    walk_at "s"
    exact ⟨_, by rw [List.map_append, List.map_cons, List.map_nil]⟩
  rintro _ ⟨y, rfl⟩
  walk_at "s"
  have hc0 : Cw L T A S (fun s => if s ∈ A then 1 else 0) := by
    refine ⟨fun s _ t _ e => ?_, fun s _ t _ e => ?_⟩
    . have e : (if s ∈ A then 1 else 0) = (if t ∈ A then 1 else 0) := e
      by_cases h1 : s ∈ A <;> by_cases h2 : t ∈ A <;> simp_all
    . have := e [] (fun _ h => nomatch h)
      have : s ∈ A ↔ t ∈ A := by simpa [qK'] using this
      simp only [this]
  -- what is known when t turns are done
  refine dg' (fun t ρ => ∃ (c : Nat -> Nat) (many : Nat) (o3 y yt y7 y8 y9 y10 : Option O) (o : O), o3 = some o /\ Cw L T A S c /\ (∀ s ∈ S, sg' (cA' o (.int (s : Nat))) = some (.int (c s : Nat))) /\ (t = 0 \/ o = .fz (dNz (S.map fun s => (s, .int (c s : Nat))))) /\ (t = 0 -> many = 0) /\ (0 < t -> Clz L T A S c many /\ t <= many) ∧
      ρ = ⟨[some (.fz X), some (.fz Y), some (.fz (.lst (S.map fun s => .int (s : Nat)))), o3, y, some (.fz (.int (many : Nat))), yt, y7, y8, y9, y10], w⟩)
    ⟨_, 0, _, _, _, _, _, _, _, _, rfl, hc0, ?_, .inl rfl, fun _ => rfl, fun h => absurd h (by omega), rfl⟩ ?_ ?_
  . intro s hs
    rw [lK', bn' (fun s => D.int ((if s ∈ A then 1 else 0 : Nat) : Nat)), if_pos hs]
    rfl
  . rintro t _ ht ⟨c, many, _, y, yt, y7, y8, y9, y10, o, rfl, hc, hl, ho, hm0, hm1, rfl⟩
    walk_at "s"
    refine bN' (fun pre ρ => ∃ y z9 z10, ρ = ⟨[some (.fz X), some (.fz Y), some (.fz (.lst (S.map fun s => .int (s : Nat)))), some o, y, some (.fz (.int (many : Nat))), some (.fz (.int (t : Nat))), some (dX eK ((ao' (pre.map (key T c))).map fun a => (a, .int (ixo (ao' (pre.map (key T c))) a : Nat)))), some (dN (pre.map fun s => (s, .int (ixo (ao' (S.map (key T c))) (key T c s) : Nat)))), z9, z10], w⟩) ⟨_, _, _, rfl⟩ ?_ ?_
    . rintro pre s post _ es ⟨y, z9, z10, rfl⟩
      rw [List.map_append, List.map_cons, List.map_nil, bz']
      have keep : (ao' (pre.map (key T c) ++ [key T c s])) <+: ao' (S.map (key T c)) := by
        have e2 : ao' (S.map (key T c)) = cG' (ao' (pre.map (key T c) ++ [key T c s])) (post.map (key T c)) := by
          rw [es, List.map_append, List.map_cons, show pre.map (key T c) ++ key T c s :: post.map (key T c) = (pre.map (key T c) ++ [key T c s]) ++ post.map (key T c) by simp]
          exact df'
        rw [e2]
        exact dV'
      rw [bz'] at keep
      have hs : s ∈ S := by rw [es]; simp
      have hndp : (ao' (pre.map (key T c))).Nodup := hd'
      have hlk := oH' (ao' (pre.map (key T c))) (key T c s)
      have hlenp : pre.length < 1000 := by
        have := congrArg List.length es
        simp at this
        omega
      have hlen2 : (ao' (pre.map (key T c))).length <= pre.length := by
        have h2 := List.Nodup.length_le_of_subset hndp (l₂ := pre.map (key T c)) (fun a ha => aK'.mp ha)
        simpa using h2
      have hfr : ((pre.map fun s => (s, D.int (ixo (ao' (S.map (key T c))) (key T c s) : Nat))).lookup s) = none := by
        refine cj' _ _ ?_
        rw [List.map_map]
        intro hm
        rw [es] at hnd
        obtain ⟨s', hs', e'⟩ := List.mem_map.mp hm
        have : s' = s := e'
        exact (List.nodup_append.mp hnd).2.2 s' hs' s (by simp) this
      have hl3 : (pre.map fun s => (s, D.int (ixo (ao' (S.map (key T c))) (key T c s) : Nat))).length < 16777216 := by rw [List.length_map]; omega
      have hl1 := hl s hs
      obtain ⟨R, hR1, hR2⟩ := hX s _ (ck' hT (hS s hs))
      have hrl := bE' hT (hS s hs)
      have ek : D.tup [.int (c s : Nat), .tup ((am' T s).map fun t => .int (c t : Nat))] = eK (key T c s) := by
        simp only [eK, key, List.map_map]; rfl
      have hcl' := hcl s hs
      clear es hX hY
      walk_at "s"
      refine d8' (fun t : Nat => D.int (c t : Nat)) (by omega) ?_ ?_
      . intro t' htr
        have hl2 := hl t' (hcl' t' htr)
        walk_at "s"
      walk_at "l"
      walk_at "s"
      by_cases hm : key T c s ∈ ao' (pre.map (key T c))
      . rw [if_pos hm] at hlk
        rw [cv' hm] at keep ⊢
        have hx := fI' yX' ((ao' (pre.map (key T c))).map fun a => (a, D.int (ixo (ao' (pre.map (key T c))) a : Nat))) (key T c s)
        rw [hlk] at hx
        have hid : ixo (ao' (S.map (key T c))) (key T c s) = ixo (ao' (pre.map (key T c))) (key T c s) := lN' keep hm
        clear keep
        walk_at "s"
        exact ⟨_, _, _, by rw [List.map_append, List.map_cons, List.map_nil, hid]⟩
      . rw [if_neg hm] at hlk
        rw [bZ' hm] at keep ⊢
        have hx := fI' yX' ((ao' (pre.map (key T c))).map fun a => (a, D.int (ixo (ao' (pre.map (key T c))) a : Nat))) (key T c s)
        rw [hlk] at hx
        have hp := fun d => q0' yX' (l := (ao' (pre.map (key T c))).map fun a => (a, D.int (ixo (ao' (pre.map (key T c))) a : Nat))) (k := key T c s) hlk (by rw [List.length_map]; omega) d
        have hx2 : ∀ d : D, cA' (dX eK (((ao' (pre.map (key T c))).map fun a => (a, D.int (ixo (ao' (pre.map (key T c))) a : Nat))) ++ [(key T c s, d)])) (eK (key T c s)) = some (some (.fz d)) := fun d => by
          have := fI' yX' (((ao' (pre.map (key T c))).map fun a => (a, D.int (ixo (ao' (pre.map (key T c))) a : Nat))) ++ [(key T c s, d)]) (key T c s)
          rw [lJ' hlk d] at this
          exact this
        have hid : ixo (ao' (S.map (key T c))) (key T c s) = (ao' (pre.map (key T c))).length := by
          rw [lN' keep (by simp), rM' hm]
        have hnew : (ao' (pre.map (key T c)) ++ [key T c s]).map (fun a => (a, D.int (ixo (ao' (pre.map (key T c)) ++ [key T c s]) a : Nat))) = ((ao' (pre.map (key T c))).map fun a => (a, D.int (ixo (ao' (pre.map (key T c))) a : Nat))) ++ [(key T c s, D.int ((ao' (pre.map (key T c))).length : Nat))] := by
          rw [List.map_append]
          congr 1
          . refine List.map_congr_left fun a ha => ?_
            rw [lN' (List.prefix_append ..) ha]
          . rw [List.map_cons, List.map_nil, rM' hm]
        rw [hnew]
        clear keep hnew
        walk_at "s"
        exact ⟨_, _, _, by rw [List.map_append, List.map_cons, List.map_nil, hid]⟩
    . rintro _ ⟨y, z9, z10, rfl⟩
      have hnx := hc.next hT hL hS hcl
      walk_at "s"
      have hcnt : 1 <= (ao' (S.map (key T c))).length := by
        obtain ⟨s, hs⟩ := List.exists_mem_of_ne_nil S hne
        have := hnx.lt hs
        omega
      refine bc' (fun h => ?_) (fun h => ?_)
      . have h : (ao' (S.map (key T c))).length = many := by omega
        have ht0 : 0 < t := by
          rcases Nat.eq_zero_or_pos t with h0 | h0
          . have := hm0 h0; omega
          . exact h0
        obtain ⟨hz, _⟩ := hm1 ht0
        have hst := hz.stable (by omega)
        have hsm := hz.same (by omega)
        walk_at "s"
        refine ⟨c, many, hz, hst, ?_⟩
        congr 2
        refine List.map_congr_left fun s hs => ?_
        rw [<- tj', hsm s hs]
      . have h : (ao' (S.map (key T c))).length ≠ many := by omega
        walk_at "s"
        refine ⟨jq' S (key T c), (ao' (S.map (key T c))).length, _, _, _, _, _, _, _, _, rfl, hnx.cw, ?_, .inr rfl, fun h => absurd h (by omega), fun _ => ⟨hnx, ?_⟩, rfl⟩
        . intro s hs
          show sg' (cA' (.fz (dNz (S.map fun s => (s, .int (jq' S (key T c) s : Nat))))) (.int (s : Nat))) = _
          rw [i7', bn' (fun s => D.int (jq' S (key T c) s : Nat)), if_pos hs]
          rfl
        . rcases Nat.eq_zero_or_pos t with h0 | h0
          . omega
          . obtain ⟨hz, hle⟩ := hm1 h0
            have := hz.le
            omega
  . rintro _ ⟨c, many, _, y, yt, y7, y8, y9, y10, o, rfl, hc, hl, ho, hm0, hm1, rfl⟩
    have ho := ho.resolve_left (by omega)
    subst ho
    obtain ⟨hz, hle⟩ := hm1 hl0
    have hcount : (ao' (S.map c)).length = (ao' S).length := by
      have h1 := bL' c S
      have h2 : (ao' (S.map c)).length = many := by rw [hz.num, List.length_range]
      have h3 : (ao' S).length = S.length := by rw [ci' hnd]
      omega
    have hinj := g9' c S hcount
    walk_at "s"
    exact ⟨c, many, hz, fun s hs t ht e => by rw [hinj s hs t ht e], rfl⟩
theorem hW' {X Y : D} {L : Tx} {T : List (List Nat)} {A : List Nat} (hX : ey' X T) (hY : eC' Y A) (hT : a5' T T.length L.length) (hL : L.Nodup) (hLl : L.length <= 1000) (hn : 1 <= T.length) (hn2 : T.length <= 1000) (w : W) :
    wF (f__law_least [X, Y] w) (fun o w' => (∃ c T' A', IsLeast L T A c T' A' /\ o = .fz (.tup [cr' T', c2' A'])) /\ w' = w) FX := by
  have hS : ∀ s ∈ reach T, s < T.length := fun s hs => gx' hT hn hs
  have hcl : ∀ s ∈ reach T, ∀ t ∈ am' T s, t ∈ reach T := fun s hs t ht => cM' hT hn hs ht
  unfold f__law_least
  walk_at "f"
  refine gG' (fun mm ρ => ∃ j, mm = T.length + 1 - j /\ j <= (bfs T j).length /\ ∃ y, ρ = ⟨[some (.fz X), some (.fz Y), some (.lst ((bfs T j).map fun s => .fz (.int (s : Nat)))), some (.fz (.int (j : Nat))), y, none, none, none, none, none, none], w⟩ /\ Pl y) (T.length + 1) (by show T.length + 1 < 2 ^ 40; omega) ⟨0, by simp, by simp, _, rfl, .inl rfl⟩ ?_
  rintro mm _ ⟨j, rfl, hj, y, rfl, hy⟩
  walk_at "s"
  refine bc' (fun h => ?_) (fun h => ?_)
  . have hj2 : j < (bfs T j).length := by omega
    have hs : (bfs T j)[j]? = some (bfs T j)[j] := List.getElem?_eq_getElem hj2
    generalize (bfs T j)[j] = s at hs
    have hsl : s < T.length := hG' hT hn (List.mem_of_getElem? hs)
    obtain ⟨R, hR1, hR2⟩ := hX s _ (ck' hT hsl)
    have hlen := b0' hT hn j
    clear hX hY
    walk_at "s"
    refine bN' (fun pre ρ => ∃ y, ρ = ⟨[some (.fz X), some (.fz Y), some (.lst ((cG' (bfs T j) pre).map fun s => .fz (.int (s : Nat)))), some (.fz (.int (j : Nat))), y, none, none, none, none, none, none], w⟩ /\ Pl y) ⟨_, rfl, hy⟩ ?_ ?_
    . rintro pre t post _ e ⟨y, rfl, hy⟩
      have hl2 : (cG' (bfs T j) pre).length <= T.length := lG' (fH' (iE' j)) fun x hx => (b9'.mp hx).elim (fun q => hG' hT hn q) fun q => dy' hT (s := s) (by rw [e]; simp [q])
      rw [ht']
      clear e hs hR1 hR2
      by_cases hm : t ∈ cG' (bfs T j) pre
      . rw [cv' hm]
        walk_at "s"
        exact ⟨_, rfl, .inr ⟨_, rfl⟩⟩
      . rw [bZ' hm]
        have hl4 : (cG' (bfs T j) pre).length < 16777216 := by omega
        walk_at "s"
        exact ⟨some (.fz (.int (t : Nat))), by rw [List.map_append, List.map_cons, List.map_nil], .inr ⟨_, rfl⟩⟩
    . rintro _ ⟨y, rfl, hy⟩
      walk_at "s"
      rw [<- d9' hs]
      refine ⟨T.length + 1 - (j + 1), by omega, j + 1, rfl, ?_, _, rfl, hy⟩
      have := (jm' (T := T) (j := j)).length_le
      omega
  . have e : bfs T j = reach T := dS' hT hn (by omega)
    rw [e]
    walk_at "s"
    have efr : frzs ((reach T).map fun s => O.fz (D.int (s : Nat))) = (reach T).map fun s => D.int (s : Nat) := by
      rw [dG', List.map_map]; rfl
    rw [efr]
    refine (gn' hX hY hT hL hLl hn2 hS hcl eQ' (fun e => by have := dT' (T := T); rw [e] at this; cases this) w).mono ?_
    rintro _ _ ⟨⟨c, k, hc, hst, rfl⟩, rfl⟩
    rename_i w
    have hlk : ∀ s ∈ reach T, ((reach T).map fun s => (s, D.int (c s : Nat))).lookup s = some (.int (c s : Nat)) := fun s hs => by rw [bn' (fun s => D.int (c s : Nat)), if_pos hs]
    have kle : k <= T.length := by
      have h1 := bL' c (reach T)
      rw [hc.num, List.length_range, ci' eQ'] at h1
      exact Nat.le_trans h1 (b0' hT hn _)
    have hSl : (reach T).length <= T.length := b0' hT hn _
    walk_at "s"
    refine bN' (fun pre ρ => ∃ y z z8, ρ = ⟨[some (.fz X), some (.fz Y), some (.fz (.lst ((reach T).map fun s => .int (s : Nat)))), z, y, some (.fz (dNz ((reach T).map fun s => (s, .int (c s : Nat))))), some (dN ((ao' (pre.map c)).map fun q => (q, .int (q : Nat)))), some (.lst (((ao' (pre.map c)).map (bA' pre c)).map fun s => .fz (.int (s : Nat)))), z8, none, none], w⟩ /\ Pl y) ⟨_, _, _, rfl, hy⟩ ?_ ?_
    . rintro pre s post _ es ⟨y, z, z8, rfl, hy⟩
      have hs : s ∈ reach T := by rw [es]; simp
      have hl1 := hlk s hs
      have hpre : ao' ((pre ++ [s]).map c) <+: List.range k := by
        rw [<- hc.num]
        exact db' c ⟨post, by rw [es]; simp⟩
      have hlenp : (ao' (pre.map c)).length <= 1000 := by
        have h2 := List.Nodup.length_le_of_subset (hd' (xs := pre.map c)) (l₂ := pre.map c) (fun a ha => aK'.mp ha)
        have := congrArg List.length es
        simp at this h2
        omega
      have hlf := bn' (fun q => D.int (q : Nat)) (c s) (ao' (pre.map c))
      have hlen4 : ((ao' (pre.map c)).map fun q => (q, D.int (q : Nat))).length < 16777216 := by rw [List.length_map]; omega
      have hold : (ao' (pre.map c)).map (bA' (pre ++ [s]) c) = (ao' (pre.map c)).map (bA' pre c) := List.map_congr_left fun q hq => kv' (aK'.mp hq)
      rw [List.map_append, List.map_cons, List.map_nil, bz'] at hpre ⊢
      clear es hX hY
      by_cases hm : c s ∈ ao' (pre.map c)
      . rw [if_pos hm] at hlf
        rw [cv' hm, hold]
        walk_at "s"
        exact ⟨_, _, _, rfl, hy⟩
      . rw [if_neg hm] at hlf
        rw [bZ' hm] at hpre ⊢
        have hr := dA' hpre
        have hcs : (ao' (pre.map c)).length = c s := by
          symm
          have := congrArg (fun l => l[(ao' (pre.map c)).length]?) hr
          simp only [List.getElem?_append_right (Nat.le_refl _), Nat.sub_self, List.getElem?_cons_zero, List.length_append, List.length_singleton] at this
          rw [List.getElem?_range (by omega)] at this
          exact Option.some.inj this
        rw [List.map_append, List.map_append, List.map_append, List.map_cons, List.map_nil, List.map_cons, List.map_nil, List.map_cons, List.map_nil, hold, kw' fun q => hm (aK'.mpr q)]
        have hlen5 : (((ao' (pre.map c)).map (bA' pre c)).map fun s => O.fz (.int (s : Nat))).length < 16777216 := by rw [List.length_map, List.length_map]; omega
        have hlen6 : (ao' (pre.map c)).length < 16777216 := by omega
        rw [hcs] at hlen6
        walk_at "s"
        exact ⟨_, _, some (.fz (.int (s : Nat))), rfl, hy⟩
    . rintro _ ⟨y, z, z8, rfl, hy⟩
      rw [hc.num]
      have hfst : ∀ q < k, bA' (reach T) c q ∈ reach T := by
        intro q hq
        have : q ∈ ao' ((reach T).map c) := by rw [hc.num]; exact List.mem_range.mpr hq
        obtain ⟨s, hs, e⟩ := List.mem_map.mp (aK'.mp this)
        unfold bA'
        cases f : (reach T).find? fun s => decide (c s = q) with
        | none =>
          have := List.find?_eq_none.mp f s hs
          simp [e] at this
        | some t => exact List.mem_of_find?_eq_some f
      have hlf : ∀ q < k, ((List.range k).map fun q => (q, D.int (q : Nat))).lookup q = some (.int (q : Nat)) := fun q hq => by rw [bn' (fun q => D.int (q : Nat)), if_pos (List.mem_range.mpr hq)]
      have ef : frzs (((List.range k).map (bA' (reach T) c)).map fun s => O.fz (D.int (s : Nat))) = ((List.range k).map (bA' (reach T) c)).map fun s => D.int (s : Nat) := by
        rw [dG', List.map_map]; rfl
      walk_at "s"
      refine d8' (fun s : Nat => cK' ((am' T s).map c)) (by simp; omega) ?_ ?_
      . intro s hs
        obtain ⟨q, hq, rfl⟩ := List.mem_map.mp hs
        have hq := List.mem_range.mp hq
        have hf := hfst q hq
        obtain ⟨R, hR1, hR2⟩ := hX _ _ (ck' hT (hS _ hf))
        have hrl := bE' hT (hS _ hf)
        have hclf := hcl _ hf
        clear hX hY
        walk_at "s"
        refine d8' (fun t : Nat => D.int (c t : Nat)) (by omega) ?_ ?_
        . intro t ht
          have h1 := hlk t (hclf t ht)
          have h2 := hlf (c t) (hc.lt (hclf t ht))
          walk_at "s"
        walk_at "l"
        walk_at "s"
        refine ⟨by simp only [cK', List.map_map]; rfl, ?_⟩
        rcases hy with rfl | ⟨d, rfl⟩ <;> rfl
      walk_at "l"
      walk_at "s"
      refine lM' (fun q => decide (bA' (reach T) c q ∈ A)) (fun q : Nat => D.int (q : Nat)) (by omega) ?_ ?_
      . intro q hq
        have e1 : (List.range k)[q]? = some q := List.getElem?_range hq
        have hy1 := hY (bA' (reach T) c q)
        walk_at "s"
        exact fun _ => trivial
      walk_at "l"
      walk_at "s"
      refine ⟨c, b5' T (reach T) c k, f9' A (reach T) c k, nU' hT hL hn hc hst, ?_⟩
      unfold cr' b5' c2' f9'
      simp only [List.map_map]
      rfl
theorem y8' {w : W} {m most : Nat} {L : Tx} {T : List (List Nat)} {A : List Nat} (h : w[m]? = some (.ins "Machine" [])) (hM : MacOk L T A most 6) (hmost : most <= 4) : wF (f_Machine___init__ [.obj m, .str L, cr' T, c2' A] w) (fun o w' => o = .fz .non /\ w' = w.set m (mkM "Machine" L T A .non cY')) FX := by
  have hL := hM.let'
  have h1 := hL.ne
  have h2 : L.length <= 4 := Nat.le_trans hL.le hmost
  have e1 : (L.all fun c => decide (c ∈ abc)) = true := by
    rw [List.all_eq_true]
    exact fun c hc => by rw [decide_eq_true_iff]; exact rp'.mpr (hL.abc c hc)
  have e2 : (A.all fun a => decide (a < T.length)) = true := by
    rw [List.all_eq_true]
    exact fun a ha => by simpa using hM.acc.lt a ha
  unfold f_Machine___init__
  walk_at "f0"
  walk_at "s"
  refine (hX' L abc w).mono ?_
  rintro _ _ ⟨rfl, rfl⟩
  rw [e1, decide_eq_true hL.asc]
  walk_at "s"
  refine (i9' hM.tab hM.ne hM.le _).mono ?_
  rintro _ _ ⟨rfl, rfl⟩
  walk_at "s"
  refine (dP' A T.length _).mono ?_
  rintro _ _ ⟨rfl, rfl⟩
  rw [e2]
  walk_at "s"
  refine (go' A _).mono ?_
  rintro _ _ ⟨rfl, rfl⟩
  rw [decide_eq_true hM.acc.asc]
  walk_at "s"
  refine ⟨by simp [ja', h], ?_⟩
  refine (nY' h (.inl rfl)).mono ?_
  rintro _ _ ⟨rfl, rfl⟩
  walk_at "s"
theorem yN' {w : W} {m most : Nat} {L : Tx} {T : List (List Nat)} {A : List Nat} (hm : w.length = m) (hM : MacOk L T A most 6) (hmost : most <= 4) : wF (f_Machine___init__ [.obj m, .str L, cr' T, c2' A] (w ++ [.ins "Machine" []])) (fun o w' => o = .fz .non /\ w' = w ++ [mkM "Machine" L T A .non cY']) FX := by
  subst hm
  refine (y8' (by rw [List.getElem?_append_right (by omega), Nat.sub_self]; rfl) hM hmost).mono ?_
  rintro _ _ ⟨rfl, rfl⟩
  refine ⟨rfl, ?_⟩
  rw [List.set_append_right _ _ (by omega), Nat.sub_self]; rfl
structure Pt (L : Tx) (T : List (List Nat)) : Prop where
  tab : a5' T T.length L.length
  nd : L.Nodup
  ll : L.length <= 1000
  ne : 1 <= T.length
  le : T.length <= 400
theorem Pt.least {L : Tx} {T : List (List Nat)} {A : List Nat} {c : Nat -> Nat} {T' : List (List Nat)} {A' : List Nat} (h : Pt L T) (hI : IsLeast L T A c T' A') : Pt L T' :=
  ⟨hI.tab, h.nd, h.ll, hI.ne, Nat.le_trans hI.le h.le⟩
theorem MacOk.pt {L : Tx} {T : List (List Nat)} {A : List Nat} {most states : Nat} (h : MacOk L T A most states) (h1 : most <= 1000) (h2 : states <= 400) : Pt L T :=
  ⟨h.tab, h.let'.asc.imp (fun h => Nat.ne_of_lt h), Nat.le_trans h.let'.le h1, h.ne, Nat.le_trans h.le h2⟩
def Rs (rest : List (String × O)) : Prop := ∃ o1 o2 o3, rest = [("kept_field", o1), ("kept_lots", o2), ("kept_more", o3)]
theorem Rs.z : Rs cY' := ⟨_, _, _, rfl⟩
theorem Rs.le {rest : List (String × O)} (h : Rs rest) : rest.length <= 100 := by obtain ⟨_, _, _, rfl⟩ := h; simp
structure MM (w : W) (m : Nat) (C : String) (L : Tx) (T : List (List Nat)) (A : List Nat) : Prop where
  cl : C = "Machine" \/ C = "RawMachine"
  ex : ∃ l rest, Rs rest /\ w[m]? = some (mkM C L T A l rest)
theorem MM.mc {w : W} {m : Nat} {C : String} {L T A} (h : MM w m C L T A) : ∃ l, McAt w m L T A l := by
  obtain ⟨l, rest, _, h2⟩ := h.ex
  exact ⟨l, McAt.of h2 h.cl⟩
theorem MM.lt {w : W} {m : Nat} {C : String} {L T A} (h : MM w m C L T A) : m < w.length := by
  obtain ⟨l, rest, _, h2⟩ := h.ex
  exact bv' h2
def WOk (w : W) : Prop := ∀ (m : Nat) (C : String) (L : Tx) (T : List (List Nat)) (A : List Nat) (l : D) (rest : List (String × O)), w[m]? = some (mkM C L T A l rest) →
  l = .non \/ ∃ k c T' A', l = .obj k /\ IsLeast L T A c T' A' /\ ∃ rest', Rs rest' /\ w[k]? = some (mkM "RawMachine" L T' A' (.obj k) rest')
structure Evo (w w' : W) : Prop where
  len : w.length <= w'.length
  mac : ∀ m C L T A, MM w m C L T A -> MM w' m C L T A
  hand : ∀ n, cW' w n -> cW' w' n
theorem Evo.refl {w : W} : Evo w w := ⟨Nat.le_refl _, fun _ _ _ _ _ h => h, fun _ h => h⟩
theorem Evo.trans {w w1 w2 : W} (h : Evo w w1) (h' : Evo w1 w2) : Evo w w2 := ⟨Nat.le_trans h.len h'.len, fun _ _ _ _ _ q => h'.mac _ _ _ _ _ (h.mac _ _ _ _ _ q), fun _ q => h'.hand _ (h.hand _ q)⟩
theorem MM.evo {w w' : W} {m : Nat} {C : String} {L T A} (h : MM w m C L T A) (e : Evo w w') : MM w' m C L T A := e.mac _ _ _ _ _ h
theorem IsLeast.self {L : Tx} {T : List (List Nat)} {A : List Nat} {c : Nat -> Nat} {T' : List (List Nat)} {A' : List Nat} (h : IsLeast L T A c T' A') : IsLeast L T' A' id T' A' where
  tab := h.tab
  ne := h.ne
  le := Nat.le_refl _
  acc := h.acc
  c0 := rfl
  lt s hs := by rw [h.reach] at hs; exact List.mem_range.mp hs
  row s _ := by rw [List.map_id]; rfl
  fin s _ := Iff.rfl
  onto q hq := ⟨q, by rw [h.reach]; exact List.mem_range.mpr hq, rfl⟩
  reach := h.reach
  apart := h.apart
  num := by rw [List.map_id, h.reach, ci' List.nodup_range]
theorem he' {C C' : String} {L L' : Tx} {T T' : List (List Nat)} {A A' : List Nat} {l l' : D} {rest rest' : List (String × O)} (h : mkM C L T A l rest = mkM C' L' T' A' l' rest') : C = C' /\ L = L' /\ T = T' /\ A = A' /\ l = l' /\ rest = rest' := by
  have nat : ∀ {x y : List Nat}, (x.map fun t => D.int (t : Nat)) = (y.map fun t => D.int (t : Nat)) -> x = y := fun e =>
    List.map_inj_right (fun a b h => by have := D.int.inj h; omega) |>.mp e
  obtain ⟨e1, e2⟩ := Ob.ins.inj h
  simp only [List.cons.injEq, Prod.mk.injEq, true_and, O.fz.injEq, D.str.injEq, and_assoc] at e2
  obtain ⟨f1, f2, f3, f4, f5⟩ := e2
  refine ⟨e1, f1, ?_, nat (D.tup.inj f3), f4, f5⟩
  exact List.map_inj_right (fun a b h => nat (D.tup.inj h)) |>.mp (D.tup.inj f2)
theorem WOk.but {w w' : W} {n : Nat} (h : WOk w) (hh : cW' w n) (hh' : cW' w' n) (b : But n w w') : WOk w' /\ Evo w w' := by
  obtain ⟨cells, i, bb, s, c, hw, _⟩ := id hh
  obtain ⟨cells', i', bb', s', c', hw', _⟩ := id hh'
  refine ⟨fun m C L T A l rest e => ?_, Nat.le_of_eq b.1.symm, fun m C L T A hM => ?_, fun k hk => ?_⟩
  . have hm : m ≠ n := fun q => by rw [q, hw'] at e; cases e
    rw [b.2 m hm] at e
    rcases h m C L T A l rest e with q | ⟨k, c0, T', A', q1, q2, rest', q3, q4⟩
    . exact .inl q
    . refine .inr ⟨k, c0, T', A', q1, q2, rest', q3, ?_⟩
      rw [b.2 k (fun q => by rw [q, hw] at q4; cases q4)]
      exact q4
  . obtain ⟨l, rest, h1, h2⟩ := hM.ex
    refine ⟨hM.cl, l, rest, h1, ?_⟩
    rw [b.2 m (fun q => by rw [q, hw] at h2; cases h2)]
    exact h2
  . by_cases q : k = n
    . rw [q]; exact hh'
    . obtain ⟨c1, i1, b1, s1, k1, e1, e2⟩ := hk
      exact ⟨c1, i1, b1, s1, k1, by rw [b.2 k q]; exact e1, e2⟩
theorem WOk.snoc {w : W} {o : Ob} (h : WOk w) (ho : ∀ C L T A l rest, o = mkM C L T A l rest -> l = .non) : WOk (w ++ [o]) /\ Evo w (w ++ [o]) := by
  refine ⟨fun m C L T A l rest e => ?_, by simp, fun m C L T A hM => ?_, fun k hk => hk.snoc⟩
  . by_cases hm : m < w.length
    . rw [List.getElem?_append_left hm] at e
      rcases h m C L T A l rest e with q | ⟨k, c0, T', A', q1, q2, rest', q3, q4⟩
      . exact .inl q
      . exact .inr ⟨k, c0, T', A', q1, q2, rest', q3, by rw [List.getElem?_append_left (bv' q4)]; exact q4⟩
    . rw [List.getElem?_append_right (by omega)] at e
      have : m - w.length = 0 := by
        have := (List.getElem?_eq_some_iff.mp e).1
        simp at this; omega
      rw [this] at e
      exact .inl (ho C L T A l rest (Option.some.inj e))
  . obtain ⟨l, rest, h1, h2⟩ := hM.ex
    exact ⟨hM.cl, l, rest, h1, by rw [List.getElem?_append_left (bv' h2)]; exact h2⟩
theorem MM.new {w : W} {C : String} {L T A l rest} (hC : C = "Machine" \/ C = "RawMachine") (hr : Rs rest) : MM (w ++ [mkM C L T A l rest]) w.length C L T A :=
  ⟨hC, l, rest, hr, by rw [List.getElem?_append_right (Nat.le_refl _), Nat.sub_self]; rfl⟩
theorem WOk.mach {w : W} {C : String} {L T A} (h : WOk w) : WOk (w ++ [mkM C L T A .non cY']) /\ Evo w (w ++ [mkM C L T A .non cY']) :=
  h.snoc fun C' L' T' A' l rest e => (he' e).2.2.2.2.1.symm
theorem WOk.lst {w : W} {os : List O} (h : WOk w) : WOk (w ++ [.lst os]) /\ Evo w (w ++ [.lst os]) := h.snoc fun C' L' T' A' l rest e => by cases e
theorem WOk.nil : WOk [] := fun m C L T A l rest e => by simp at e
theorem WOk.one {os : List O} : WOk [.lst os] := (WOk.lst .nil).1
theorem wi' {w : W} {m : Nat} {C : String} {L : Tx} {T : List (List Nat)} {A : List Nat} (hW : WOk w) (h : MM w m C L T A) (hP : Pt L T) :
    wF (f_least [.obj m] w) (fun o w' => ∃ k c T' A', o = .fz (.obj k) /\ IsLeast L T A c T' A' /\ MM w' k "RawMachine" L T' A' /\ WOk w' /\ Evo w w') FX := by
  obtain ⟨l, rest, hr, e⟩ := h.ex
  rcases hW m C L T A l rest e with rfl | ⟨k, c0, T', A', rfl, q2, rest', q3, q4⟩
  . refine (oI' e h.cl hr.le hP.tab hP.nd hP.ll hP.ne (Nat.le_trans hP.le (by decide))).mono ?_
    rintro _ _ ⟨c, T', A', hI, rfl, rfl⟩
    have hm := bv' e
    have e1 : (w.set m (mkM C L T A (.obj w.length) rest) ++ [mkM "RawMachine" L T' A' (.obj w.length) cY'])[w.length]? = some (mkM "RawMachine" L T' A' (.obj w.length) cY') := by
      rw [List.getElem?_append_right (by simp), List.length_set, Nat.sub_self]; rfl
    have e2 : (w.set m (mkM C L T A (.obj w.length) rest) ++ [mkM "RawMachine" L T' A' (.obj w.length) cY'])[m]? = some (mkM C L T A (.obj w.length) rest) := by
      rw [List.getElem?_append_left (by simpa using hm), List.getElem?_set_self hm]
    have e3 : ∀ i, i < w.length -> i ≠ m -> (w.set m (mkM C L T A (.obj w.length) rest) ++ [mkM "RawMachine" L T' A' (.obj w.length) cY'])[i]? = w[i]? := fun i hi hne => by
      rw [List.getElem?_append_left (by simpa using hi), List.getElem?_set_ne (fun h => hne h.symm)]
    refine ⟨w.length, c, T', A', rfl, hI, ⟨.inr rfl, _, _, .z, e1⟩, fun i Ci Li Ti Ai li ri ei => ?_, by simp, fun i Ci Li Ti Ai hi => ?_, fun i hi => ?_⟩
    . rcases Nat.lt_trichotomy i w.length with hi | hi | hi
      . by_cases him : i = m
        . rw [him, e2] at ei
          obtain ⟨rfl, rfl, rfl, rfl, rfl, rfl⟩ := he' (Option.some.inj ei)
          exact .inr ⟨_, c, T', A', rfl, hI, _, .z, e1⟩
        . rw [e3 i hi him] at ei
          rcases hW i _ _ _ _ _ _ ei with q | ⟨k, c1, T1, A1, q1, q2, rest1, q3, q4⟩
          . exact .inl q
          . refine .inr ⟨k, c1, T1, A1, q1, q2, rest1, q3, ?_⟩
            rw [e3 k (bv' q4) (fun q => ?_)]
            . exact q4
            . rw [q, e] at q4
              have := (he' (Option.some.inj q4)).2.2.2.2.1
              cases this
      . rw [hi, e1] at ei
        obtain ⟨rfl, rfl, rfl, rfl, rfl, rfl⟩ := he' (Option.some.inj ei)
        exact .inr ⟨_, id, _, _, rfl, hI.self, _, .z, e1⟩
      . have := bv' ei
        simp at this
        omega
    . obtain ⟨l1, r1, h1, h2⟩ := hi.ex
      by_cases him : i = m
      . rw [him, e] at h2
        obtain ⟨rfl, rfl, rfl, rfl, rfl, rfl⟩ := he' (Option.some.inj h2)
        exact ⟨hi.cl, _, _, hr, by rw [him]; exact e2⟩
      . exact ⟨hi.cl, _, _, h1, by rw [e3 i (bv' h2) him]; exact h2⟩
    . obtain ⟨c1, i1, b1, s1, k1, e4, e5⟩ := hi
      exact ⟨c1, i1, b1, s1, k1, by rw [e3 i (bv' e4) (fun q => by rw [q, e] at e4; cases e4)]; exact e4, e5⟩
  . refine (oJ' e h.cl).mono ?_
    rintro _ _ ⟨rfl, rfl⟩
    exact ⟨k, c0, T', A', rfl, q2, ⟨.inr rfl, _, _, q3, q4⟩, hW, .refl⟩
theorem s2' {w : W} {L : Tx} {T : List (List Nat)} {A : List Nat} {n : Nat} (hn : n = w.length) : wF (f_RawMachine___init__ [.obj n, .str L, cr' T, c2' A] (w ++ [.ins "RawMachine" []])) (fun o w' => o = .fz .non /\ w' = w ++ [mkM "RawMachine" L T A .non cY']) FX := by
  subst hn
  refine (nC' (by rw [List.getElem?_append_right (Nat.le_refl _), Nat.sub_self]; rfl)).mono ?_
  rintro _ _ ⟨rfl, rfl⟩
  refine ⟨rfl, ?_⟩
  rw [List.set_append_right _ _ (Nat.le_refl _), Nat.sub_self]; rfl
def plD : D -> Bool := fun d => (tyn d).isSome
def wdD (L : Tx) : D -> Bool
  | .str s => s.all fun c => decide (c ∈ L)
  | _ => false
theorem vg' {L : Tx} {s : Tx} (h : ∀ c ∈ s, c ∈ L) : wdD L (.str s) = true := by
  show s.all _ = true
  rw [List.all_eq_true]
  exact fun c hc => decide_eq_true (h c hc)
theorem rB' {w : W} {m : Nat} {C : String} {L : Tx} {T : List (List Nat)} {A : List Nat} {s : Nat} {x : Tx} (hm : MM w m C L T A) (hT : a5' T T.length L.length) (hs : s < T.length) (hx : ∀ c ∈ x, c ∈ L) : wF (f_led [.obj m, .int s, .str x] w) (fun o w' => o = .fz (.int (run L T s x : Nat)) /\ w' = w) FX := by
  obtain ⟨l, hm⟩ := hm.mc
  unfold f_led
  walk_at "f"
  have h1 := hm.fl
  have h2 := hm.ft
  refine bN' (fun pre ρ => ∃ y, ρ = ⟨[some (.fz (.obj m)), some (.fz (.int (run L T s pre : Nat))), some (.fz (.str x)), y], w⟩ /\ run L T s pre < T.length) ⟨_, rfl, hs⟩ ?_ ?_
  . rintro pre c post _ e ⟨y, rfl, hr⟩
    have hc := hx c (by rw [e]; simp)
    obtain ⟨r, h3, h4, h5⟩ := gM' hT hr hc
    have h6 := n3' hc
    rw [iQ']
    clear hc e
    walk_at "s"
    exact ⟨_, rfl⟩
  . rintro _ ⟨y, rfl, hr⟩
    walk_at "s"
theorem oL' {w : W} {m : Nat} {C : String} {L : Tx} {T : List (List Nat)} {A : List Nat} {d : D} (h : MM w m C L T A) (hd : plD d = true) : wF (f_is_word [.obj m, d] w) (fun o w' => o = .fz (.bl (wdD L d)) /\ w' = w) FX := by
  obtain ⟨l, hm⟩ := h.mc
  have h1 := hm.fl
  unfold f_is_word
  walk_at "f0"
  clear h hm
  walk_at "s"
  by_cases hs : ∃ s, d = .str s
  . obtain ⟨s, rfl⟩ := hs
    refine (c0' s L w).mono ?_
    rintro _ _ ⟨rfl, rfl⟩
    walk_at "s"
    rfl
  . have h2 : ∃ t, tyn d = some t /\ t ≠ "str" := by
      cases d <;> simp [plD, tyn] at hd ⊢
      exact hs ⟨_, rfl⟩
    refine (hk' h2 L w).mono ?_
    rintro _ _ ⟨rfl, rfl⟩
    have h3 : wdD L d = false := by
      cases d <;> first | rfl | exact absurd ⟨_, rfl⟩ hs
    rw [h3]
    clear h2 hs
    walk_at "s"
theorem di' {w : W} {m : Nat} {C : String} {L : Tx} {T : List (List Nat)} {A : List Nat} {d : D} (h : MM w m C L T A) (hd : plD d = true) : wF (f_check_word [.obj m, d] w) (fun _ w' => wdD L d = true /\ w' = w) (fun x w' => wdD L d = false /\ x = ⟨"NoWord", []⟩ /\ w' = w) := by
  have key := oL' h hd
  unfold f_check_word
  walk_at "f0"
  clear h hd
  walk_at "s"
  refine key.mono ?_
  rintro _ _ ⟨rfl, rfl⟩
  clear key
  cases hw : wdD L d
  . walk_at "s"
  . walk_at "s"
theorem dh' {w : W} {m : Nat} {C : String} {L : Tx} {T : List (List Nat)} {A : List Nat} {x : Tx} (h : MM w m C L T A) (hx : ∀ c ∈ x, c ∈ L) : wF (f_check_word [.obj m, .str x] w) (fun _ w' => w' = w) FX := by
  refine (di' h (d := .str x) rfl).monoX ?_ ?_
  . rintro _ _ ⟨_, rfl⟩; rfl
  . rintro _ _ ⟨e, _⟩
    rw [vg' hx] at e
    cases e
theorem qI' {w : W} {m : Nat} {C : String} {L : Tx} {T : List (List Nat)} {A : List Nat} {x : Tx} (h : MM w m C L T A) (hP : Pt L T) (hx : ∀ c ∈ x, c ∈ L) : wF (f_says [.obj m, .str x] w) (fun o w' => o = .fz (.bl (decide (run L T 0 x ∈ A))) /\ w' = w) FX := by
  have k1 := dh' h hx
  have k2 := rB' h hP.tab (Nat.lt_of_lt_of_le Nat.zero_lt_one hP.ne) hx
  obtain ⟨l, hm⟩ := h.mc
  have h3 := hm.fa
  unfold f_says
  walk_at "f0"
  clear h hP hm
  walk_at "s"
  refine k1.mono ?_
  rintro _ _ rfl
  walk_at "s"
  refine k2.mono ?_
  rintro _ _ ⟨rfl, rfl⟩
  walk_at "s"
theorem hE' : ∀ a : List Nat, dats (a.map fun t => D.int (t : Nat)) = true
  | [] => rfl
  | x :: r => by show (true && _) = true; rw [hE' r]; rfl
theorem kG' : ∀ T : List (List Nat), dats (T.map cK') = true
  | [] => rfl
  | x :: r => by
    show (dats (x.map fun t => D.int (t : Nat)) && dats (r.map cK')) = true
    rw [hE', kG' r]; rfl
theorem fO' : ∀ a : List Nat, deps (a.map fun t => D.int (t : Nat)) = 0
  | [] => rfl
  | x :: r => by show max 0 _ = 0; rw [fO' r]; rfl
theorem kD' : ∀ T : List (List Nat), deps (T.map cK') <= 1
  | [] => Nat.zero_le 1
  | x :: r => by
    show max (deps (x.map fun t => D.int (t : Nat)) + 1) (deps (r.map cK')) <= 1
    have := kD' r
    rw [fO']
    omega
def ptD (L : Tx) (T : List (List Nat)) (A : List Nat) : D := .tup [.str L, cr' T, c2' A]
theorem lz' (L : Tx) (T : List (List Nat)) (A : List Nat) : dat (ptD L T A) = true := by
  show (true && (dats (T.map cK') && (dats (A.map fun t => D.int (t : Nat)) && true))) = true
  rw [kG', hE']; rfl
theorem q7' (L : Tx) (T : List (List Nat)) (A : List Nat) : dep (ptD L T A) <= 3 := by
  show max 0 (max (deps (T.map cK') + 1) (max (deps (A.map fun t => D.int (t : Nat)) + 1) 0)) + 1 <= 3
  have := kD' T
  rw [fO']
  omega
theorem fA' : ∀ {a : List Nat} {k : Nat}, k <= 1000 -> (∀ x ∈ a, x < k) -> repIs (a.map fun t => D.int (t : Nat)) = true
  | [], _, _, _ => rfl
  | x :: r, k, hk, h => by
    show (decide ((x : Int).natAbs < 10 ^ 60) && _) = true
    have h1 := h x (by simp)
    have h2 : (x : Int).natAbs < 10 ^ 60 := Nat.lt_of_lt_of_le (m := 1000) (by omega) (by decide)
    rw [decide_eq_true h2, fA' hk fun y hy => h y (by simp [hy])]; rfl
theorem em' : ∀ a : List Nat, repWs (a.map fun t => D.int (t : Nat)) = a.length
  | [] => rfl
  | x :: r => by show 0 + 1 + repWs (r.map fun t => D.int (t : Nat)) = r.length + 1; rw [em' r]; omega
theorem ik' : ∀ {T : List (List Nat)} {k : Nat}, k <= 1000 -> (∀ r ∈ T, ∀ t ∈ r, t < k) -> repIs (T.map cK') = true
  | [], _, _, _ => rfl
  | x :: r, k, hk, h => by
    show (repIs (x.map fun t => D.int (t : Nat)) && repIs (r.map cK')) = true
    rw [fA' hk (h x (by simp)), ik' hk fun y hy => h y (by simp [hy])]; rfl
theorem ij' : ∀ {T : List (List Nat)} {m : Nat}, (∀ r ∈ T, r.length = m) -> repWs (T.map cK') = T.length * (m + 1)
  | [], _, _ => by simp [repWs]
  | x :: r, m, h => by
    show repWs (x.map fun t => D.int (t : Nat)) + 1 + repWs (r.map cK') = (r.length + 1) * (m + 1)
    rw [em', ij' fun y hy => h y (by simp [hy]), h x (by simp), Nat.succ_mul]; omega
theorem q6' {L : Tx} {T : List (List Nat)} {A : List Nat} (hT : a5' T T.length L.length) (hn : T.length <= 400) (hL : L.length <= 100) (hA : AccOk A T.length) : xq' (ptD L T A) = true /\ dep (ptD L T A) <= 40 /\ qP' (ptD L T A) = true /\ oz' (ptD L T A) <= 200000 := by
  refine ⟨lu' (lz' L T A), Nat.le_trans (q7' L T A) (by decide), ?_, ?_⟩
  . show (true && (repIs (T.map cK') && (repIs (A.map fun t => D.int (t : Nat)) && true))) = true
    rw [ik' (k := T.length) (by omega) (fun r hr => (hT.2 r hr).2), fA' (k := T.length) (by omega) hA.lt]; rfl
  . show L.length + 1 + (repWs (T.map cK') + 1 + (repWs (A.map fun t => D.int (t : Nat)) + 1 + 0)) <= 200000
    have h1 := ij' (T := T) (m := L.length) fun r hr => (hT.2 r hr).1
    have h2 := lG' (hA.asc.imp fun h => Nat.ne_of_lt h) hA.lt
    have h3 : T.length * (L.length + 1) <= 400 * 101 := Nat.mul_le_mul hn (by omega)
    rw [h1, em']
    omega
theorem uR' {w : W} {m : Nat} {C : String} {L : Tx} {T : List (List Nat)} {A : List Nat} (h : MM w m C L T A) : isC isT "Machine" w (.obj m) = some true := by
  obtain ⟨l, rest, _, e⟩ := h.ex
  show (match w[m]? with | some (.ins C _) => sub isT C "Machine" | _ => none) = some true
  rw [e]
  rcases h.cl with rfl | rfl
  . show sub isT "Machine" "Machine" = some true
    decide
  . show sub isT "RawMachine" "Machine" = some true
    decide
theorem e4' {w : W} {m : Nat} {C : String} {L : Tx} {T : List (List Nat)} {A : List Nat} {x : String} (h : MM w m C L T A) (hx : x ∉ ["kept_letters", "kept_table", "kept_accepts", "kept_least", "kept_field", "kept_lots", "kept_more"] := by decide) : ja' ["Machine", "RawMachine"] x w (.obj m) = true := by
  obtain ⟨l, rest, ⟨o1, o2, o3, rfl⟩, e⟩ := h.ex
  have hl : List.lookup x (("kept_letters", O.fz (.str L)) :: ("kept_table", .fz (cr' T)) :: ("kept_accepts", .fz (c2' A)) :: ("kept_least", .fz l) :: [("kept_field", o1), ("kept_lots", o2), ("kept_more", o3)]) = none := by
    simp only [List.mem_cons, List.not_mem_nil, or_false, not_or] at hx
    obtain ⟨h1, h2, h3, h4, h5, h6, h7⟩ := hx
    simp [List.lookup, beq_eq_false_iff_ne.mpr h1, beq_eq_false_iff_ne.mpr h2, beq_eq_false_iff_ne.mpr h3, beq_eq_false_iff_ne.mpr h4, beq_eq_false_iff_ne.mpr h5, beq_eq_false_iff_ne.mpr h6, beq_eq_false_iff_ne.mpr h7]
  show (match w[m]? with | some (.ins C' fs) => decide (C' ∈ ["Machine", "RawMachine"]) && (fs.lookup x).isNone | _ => false) = true
  rw [e]
  show (decide (C ∈ ["Machine", "RawMachine"]) && (List.lookup x _).isNone) = true
  rw [hl]
  rcases h.cl with rfl | rfl <;> rfl
theorem e2' {w : W} {m : Nat} {C : String} {L : Tx} {T : List (List Nat)} {A : List Nat} (h : MM w m C L T A) (hT : a5' T T.length L.length) (hn : T.length <= 400) (hL : L.length <= 100) (hA : AccOk A T.length) :
    wF (f__law_is_machine [.obj m, .str L, cr' T, c2' A] w) (fun o w' => o = .fz (.bl true) /\ w' = w) FX := by
  have e1 := uR' h
  have e2 := e4' (x := "letters") h
  have e3 := e4' (x := "table") h
  have e4 := e4' (x := "accepts") h
  obtain ⟨l, hm⟩ := h.mc
  have h1 := hm.fl
  have h2 := hm.ft
  have h3 := hm.fa
  unfold f__law_is_machine
  walk_at "f0"
  clear h hm
  walk_at "s"
  unfold f_Machine_letters
  walk_at "f"
  unfold f_Machine_table
  walk_at "f"
  unfold f_Machine_accepts
  walk_at "f"
  rw [show D.tup [.str L, cr' T, c2' A] = ptD L T A from rfl]
  rw [oe', iJ' (q6' hT hn hL hA)]
  walk_at "s"
  rw [show D.tup [.str L, cr' T, c2' A] = ptD L T A from rfl]
  rw [oe', iJ' (q6' hT hn hL hA)]
  rw [Cq', iJ' (dw' _ (lz' L T A))]
  exact ⟨rfl, rfl⟩
theorem BI' {w : W} {m n : Nat} {C C' : String} {L : Tx} {T : List (List Nat)} {A : List Nat} (h : MM w m C L T A) (h' : MM w n C' L T A) :
    wF (f_Machine___eq__ [.obj m, .obj n] w) (fun o w' => o = .fz (.bl true) /\ w' = w) FX := by
  have e1 := uR' h'
  have e2 := e4' (x := "parts") h
  have e3 := e4' (x := "parts") h'
  obtain ⟨l, hm⟩ := h.mc
  obtain ⟨l', hm'⟩ := h'.mc
  have h1 := hm.fl
  have h2 := hm.ft
  have h3 := hm.fa
  have h1' := hm'.fl
  have h2' := hm'.ft
  have h3' := hm'.fa
  unfold f_Machine___eq__
  walk_at "f0"
  clear h hm h' hm'
  walk_at "s"
  unfold f_Machine_parts
  walk_at "f"
  walk_at "f"
  rw [show D.tup [.str L, cr' T, c2' A] = ptD L T A from rfl]
  rw [tV' _ (lz' L T A) (Nat.le_trans (q7' L T A) (by decide))]
  walk_at "s"
theorem wA' {ps : List (String × String)} {w : W} {m n : Nat} {C C' : String} {L L' : Tx} {T T' : List (List Nat)} {A A' : List Nat} (h : MM w m C L T A) (h' : MM w n C' L' T' A') (hp : (C, C') ∈ ps) : wB' ps w (.obj m) (.obj n) = true := by
  obtain ⟨l, rest, _, e⟩ := h.ex
  obtain ⟨l', rest', _, e'⟩ := h'.ex
  show (match w[m]?, w[n]? with | some (.ins C _), some (.ins C' _) => decide ((C, C') ∈ ps) | _, _ => false) = true
  rw [e, e']
  exact decide_eq_true hp
def eB' (L : Tx) (T' : List (List Nat)) (A' : List Nat) (P : Tx -> Prop) : Prop := ∃ U B c, a5' U U.length L.length /\ 1 <= U.length /\ IsLeast L U B c T' A' /\ ∀ z : Tx, (∀ a ∈ z, a ∈ L) -> (run L U 0 z ∈ B ↔ P z)
theorem eB'.uniq {L : Tx} {T1 T2 : List (List Nat)} {A1 A2 : List Nat} {P Q : Tx -> Prop} (hL : L.Nodup) (h1 : eB' L T1 A1 P) (h2 : eB' L T2 A2 Q) (h : ∀ z : Tx, (∀ a ∈ z, a ∈ L) -> (P z ↔ Q z)) : T1 = T2 /\ A1 = A2 := by
  obtain ⟨U1, B1, c1, a1, a2, a3, a4⟩ := h1
  obtain ⟨U2, B2, c2, b1, b2, b3, b4⟩ := h2
  exact IsLeast.lang hL a1 a2 b1 b2 a3 b3 fun z hz => by rw [a4 z hz, b4 z hz]; exact h z hz
theorem eB'.says {L : Tx} {T1 : List (List Nat)} {A1 : List Nat} {P : Tx -> Prop} (h1 : eB' L T1 A1 P) {z : Tx} (hz : ∀ a ∈ z, a ∈ L) : run L T1 0 z ∈ A1 ↔ P z := by
  obtain ⟨U1, B1, c1, a1, a2, a3, a4⟩ := h1
  rw [a3.run0 a1 a2 hz, a4 z hz]
theorem eB'.acc {L : Tx} {T1 : List (List Nat)} {A1 : List Nat} {P : Tx -> Prop} (h1 : eB' L T1 A1 P) : AccOk A1 T1.length := by
  obtain ⟨U1, B1, c1, a1, a2, a3, a4⟩ := h1
  exact a3.acc
theorem eB'.tab {L : Tx} {T1 : List (List Nat)} {A1 : List Nat} {P : Tx -> Prop} (h1 : eB' L T1 A1 P) : a5' T1 T1.length L.length := by
  obtain ⟨U1, B1, c1, a1, a2, a3, a4⟩ := h1
  exact a3.tab
theorem eB'.of {L : Tx} {T T' : List (List Nat)} {A A' : List Nat} {c : Nat -> Nat} {P : Tx -> Prop} (hT : a5' T T.length L.length) (hn : 1 <= T.length) (h : IsLeast L T A c T' A') (hp : ∀ z : Tx, (∀ a ∈ z, a ∈ L) -> (run L T 0 z ∈ A ↔ P z)) : eB' L T' A' P := ⟨T, A, c, hT, hn, h, hp⟩
theorem ov' (l : List Nat) : gQ' (l.map fun q => ((q : Nat) : Int)) = (bY' l).map fun q => ((q : Nat) : Int) := by
  unfold gQ' bY'
  refine (List.map_mergeSort (f := fun q : Nat => (q : Int)) fun a _ b _ => ?_).symm
  simp
theorem rZ' {Q : D -> Prop} (l : List Nat) : wD (cF' (.lst (l.map fun q => D.int (q : Nat)))) Q = Q (.lst ((bY' l).map fun q => D.int (q : Nat))) := by
  show wD (match bs' (l.map fun q => D.int (q : Nat)) with | some ns => some (D.lst ((gQ' ns).map .int)) | none => _) Q = _
  rw [lP']
  show wD (some (D.lst ((gQ' (l.map fun q => ((q : Nat) : Int))).map .int))) Q = _
  rw [ov', a7', List.map_map]
  rfl
theorem rn' {l : List Nat} {a : Nat} : a ∈ bY' l ↔ a ∈ l := List.mem_mergeSort
theorem kz' {γ : Type} (f : γ -> D) : ∀ (l : List γ) (k : Nat), eu' k (l.map f) = (l.zipIdx k).map fun p => .tup [.int (p.2 : Nat), f p.1]
  | [], _ => rfl
  | x :: r, k => by
    rw [List.map_cons, List.zipIdx_cons, List.map_cons]
    show D.tup [.int k, f x] :: eu' (k + 1) (r.map f) = _
    rw [kz' f r]
def gy' (n f : Nat) : List Nat := f :: (List.range n).filter fun s => decide (s ≠ f)
def plc (n f s : Nat) : Nat := (gy' n f).idxOf s
section
variable {n f : Nat}
theorem dc' (hf : f < n) {s : Nat} : s ∈ gy' n f ↔ s < n := by
  unfold gy'
  simp only [List.mem_cons, List.mem_filter, List.mem_range, decide_eq_true_eq]
  omega
theorem lF' : (gy' n f).Nodup := by
  unfold gy'
  refine List.nodup_cons.mpr ⟨by simp, List.Pairwise.filter _ List.nodup_range⟩
theorem e0' (hf : f < n) : (gy' n f).length = n := by
  have h1 : (gy' n f).length <= n := lG' lF' fun s hs => (dc' hf).mp hs
  have h2 := List.Nodup.length_le_of_subset (List.nodup_range (n := n)) (l₂ := gy' n f) fun s hs => (dc' hf).mpr (List.mem_range.mp hs)
  rw [List.length_range] at h2
  omega
theorem yC' (hf : f < n) {s : Nat} (hs : s < n) : plc n f s < n := by
  have := List.idxOf_lt_length_iff.mpr ((dc' hf).mpr hs)
  rw [e0' hf] at this
  exact this
theorem lA' (hf : f < n) {s : Nat} (hs : s < n) : (gy' n f)[plc n f s]? = some s := by
  have h := List.idxOf_lt_length_iff.mpr ((dc' hf).mpr hs)
  show (gy' n f)[List.idxOf s (gy' n f)]? = some s
  rw [List.getElem?_eq_getElem h, List.getElem_idxOf]
theorem vX' (hf : f < n) {s t : Nat} (hs : s < n) (ht : t < n) (e : plc n f s = plc n f t) : s = t := by
  have h1 := lA' hf hs
  rw [e, lA' hf ht] at h1
  exact (Option.some.inj h1).symm
theorem Bo' : plc n f f = 0 := by unfold plc gy'; simp
end
def lh' (T : List (List Nat)) (f : Nat) : List (List Nat) := (gy' T.length f).map fun s => (am' T s).map (plc T.length f)
theorem sF' {T : List (List Nat)} {f s : Nat} (hf : f < T.length) (hs : s < T.length) : am' (lh' T f) (plc T.length f s) = (am' T s).map (plc T.length f) := by
  unfold lh'
  show ((((gy' T.length f).map _)[plc T.length f s]?).getD []) = _
  rw [List.getElem?_map, lA' hf hs]; rfl
theorem vA' {L : Tx} {T : List (List Nat)} {f : Nat} (hT : a5' T T.length L.length) (hf : f < T.length) : a5' (lh' T f) (lh' T f).length L.length := by
  refine ⟨rfl, fun r hr => ?_⟩
  obtain ⟨s, hs, rfl⟩ := List.mem_map.mp hr
  have hs := (dc' hf).mp hs
  refine ⟨by rw [List.length_map]; exact bE' hT hs, fun t ht => ?_⟩
  obtain ⟨u, hu, rfl⟩ := List.mem_map.mp ht
  rw [show (lh' T f).length = T.length by unfold lh'; rw [List.length_map, e0' hf]]
  exact yC' hf (dy' hT hu)
def xj' (L : Tx) (T : List (List Nat)) (A : List Nat) (f : Nat) (y : Tx) : List Nat := ((List.range T.length).filter fun s => decide (run L T s y ∈ A)).map (plc T.length f)
theorem sE' {L : Tx} {T : List (List Nat)} {A : List Nat} {f : Nat} {y z : Tx} (hT : a5' T T.length L.length) (hf : f < T.length) (hz : ∀ a ∈ z, a ∈ L) : run L (lh' T f) 0 z ∈ bY' (xj' L T A f y) ↔ run L T (run L T f z) y ∈ A := by
  have h := fz' (S := List.range T.length) (c := plc T.length f) (T' := lh' T f) hT (fun s hs => List.mem_range.mp hs) (fun s hs t ht => List.mem_range.mpr (dy' hT ht)) (fun s hs => sF' hf (List.mem_range.mp hs)) z hz f (List.mem_range.mpr hf)
  rw [Bo'] at h
  have hr := List.mem_range.mp h.2
  rw [h.1, rn']
  unfold xj'
  rw [List.mem_map]
  constructor
  . rintro ⟨s, hs, e⟩
    obtain ⟨h1, h2⟩ := List.mem_filter.mp hs
    rw [<- vX' hf (List.mem_range.mp h1) hr e]
    exact of_decide_eq_true h2
  . intro q
    exact ⟨_, List.mem_filter.mpr ⟨h.2, decide_eq_true q⟩, rfl⟩
theorem hM' {w : W} {m : Nat} {C : String} {L : Tx} {T : List (List Nat)} {A : List Nat} {x y : Tx} (hW : WOk w) (h : MM w m C L T A) (hP : Pt L T) (hx : ∀ c ∈ x, c ∈ L) (hy : ∀ c ∈ y, c ∈ L) :
    wF (f_around [.obj m, .str x, .str y] w) (fun o w' => ∃ k T' A', o = .fz (.obj k) /\ MM w' k "RawMachine" L T' A' /\ Pt L T' /\ eB' L T' A' (fun z => run L T (run L T (run L T 0 x) z) y ∈ A) /\ WOk w' /\ Evo w w') FX := by
  have k1 := dh' h hx
  have k2 := dh' h hy
  have z0 : 0 < T.length := hP.ne
  have k3 := rB' h hP.tab z0 hx
  have k4 := fun s (hs : s < T.length) => rB' h hP.tab hs hy
  have hf : run L T 0 x < T.length := nz' hP.tab z0 hx
  have hrun := fun z (hz : ∀ a ∈ z, a ∈ L) => sE' (A := A) (y := y) hP.tab hf hz
  have hPt : Pt L (lh' T (run L T 0 x)) := ⟨vA' hP.tab hf, hP.nd, hP.ll, by unfold lh'; rw [List.length_map, e0' hf]; exact hP.ne, by unfold lh'; rw [List.length_map, e0' hf]; exact hP.le⟩
  have hrows := fun s (hs : s < T.length) => ck' hP.tab hs
  have hrl := fun s (hs : s < T.length) => bE' hP.tab hs
  have hrlt := fun s t (ht : t ∈ am' T s) => dy' hP.tab (s := s) ht
  have hle := hP.le
  have hll := hP.ll
  obtain ⟨l, hm⟩ := h.mc
  have h1 := hm.fl
  have h2 := hm.ft
  have h3 := hm.fa
  generalize hfd : run L T 0 x = f at *
  unfold f_around
  walk_at "f0"
  clear h hP hm
  walk_at "s"
  refine k1.mono ?_
  rintro _ _ rfl
  walk_at "s"
  refine k2.mono ?_
  rintro _ w rfl
  walk_at "s"
  refine k3.mono ?_
  rintro _ _ ⟨rfl, rfl⟩
  rename_i w
  clear k1 k2 k3
  walk_at "s"
  refine lM' (fun s => decide (s ≠ f)) (fun s => .int (s : Nat)) (by omega) ?_ ?_
  . intro s hs
    walk_at "s"
    refine ⟨?_, fun _ => trivial⟩
    rw [Bool.eq_iff_iff]
    simp only [Bool.not_eq_true', decide_eq_false_iff_not, decide_eq_true_eq]
    omega
  walk_at "l"
  have o6' := e0' hf
  have hfl : ((List.range T.length).filter fun s => decide (s ≠ f)).length + 1 = T.length := by
    have := o6'
    unfold gy' at this
    simpa using this
  have q1 : 1 + ((List.range T.length).filter fun s => decide (s ≠ f)).length <= 16777216 := by omega
  have eo : [D.int (f : Nat)] ++ ((List.range T.length).filter fun s => decide (s ≠ f)).map (fun s => D.int (s : Nat)) = (gy' T.length f).map fun s => D.int (s : Nat) := rfl
  rw [u2']
  rw [eo]
  rw [pd' (by simpa [Nat.add_comm] using q1)]
  walk_at "s"
  rw [kz']
  have hzip : (gy' T.length f).zipIdx.map Prod.fst = gy' T.length f := List.zipIdx_map_fst ..
  refine uZ' (fun p : Nat × Nat => p.1) (fun p => .int (p.2 : Nat)) (by rw [List.length_zipIdx]; omega) (by rw [show ((gy' T.length f).zipIdx.map fun p : Nat × Nat => p.1) = gy' T.length f from hzip]; exact lF') ?_ ?_
  . rintro ⟨a, b⟩ hc
    walk_at "s"
  walk_at "l"
  have ez : (gy' T.length f).zipIdx.map (fun p : Nat × Nat => (p.1, D.int (p.2 : Nat))) = (gy' T.length f).map fun s => (s, D.int (plc T.length f s : Nat)) := by
    refine List.ext_getElem (by simp) fun i i1 i2 => ?_
    simp only [List.getElem_map, List.getElem_zipIdx, Prod.mk.injEq, D.int.injEq, true_and]
    unfold plc
    rw [lF'.idxOf_getElem i (by simpa using i2)]
    omega
  rw [rX' (fun p : Nat × Nat => p.1) (fun p => .int (p.2 : Nat)), ez]
  have hlk : ∀ s, s < T.length -> ((gy' T.length f).map fun s => (s, D.int (plc T.length f s : Nat))).lookup s = some (.int (plc T.length f s : Nat)) := fun s hs => by
    rw [bn' (fun s => D.int (plc T.length f s : Nat)), if_pos ((dc' hf).mpr hs)]
  clear hfl q1 eo hzip ez hfd
  walk_at "s"
  refine d8' (fun s => cK' ((am' T s).map (plc T.length f))) (by omega) ?_ ?_
  . intro s hs
    have hs := (dc' hf).mp hs
    have hr := hrows s hs
    have hr2 := hrl s hs
    have hr3 := hrlt s
    clear hrows hrl hrlt k4
    have hlk' := hlk
    clear hlk
    walk_at "s"
    refine d8' (fun t => D.int (plc T.length f t : Nat)) (by omega) ?_ ?_
    . intro t ht
      have hl1 := hlk' t (hr3 t ht)
      walk_at "s"
    walk_at "l"
    walk_at "s"
    unfold cK'
    rw [List.map_map]
    rfl
  walk_at "l"
  have e7 : D.tup ((gy' T.length f).map fun s => cK' ((am' T s).map (plc T.length f))) = cr' (lh' T f) := by
    unfold cr' lh'
    rw [List.map_map]
    rfl
  walk_at "s"
  clear hrows hrl hrlt e7
  have hlk' := hlk
  clear hlk
  refine lM' (fun s => decide (run L T s y ∈ A)) (fun s => .int (plc T.length f s : Nat)) (by omega) ?_ ?_
  . intro s hs
    have k5 := k4 s hs
    have hl1 := hlk' s hs
    clear k4 hlk'
    walk_at "s"
    refine k5.mono ?_
    rintro _ _ ⟨rfl, rfl⟩
    walk_at "s"
    exact fun _ => trivial
  walk_at "l"
  have e8 : ((List.range T.length).filter fun s => decide (run L T s y ∈ A)).map (fun s => D.int (plc T.length f s : Nat)) = (xj' L T A f y).map fun s => D.int (s : Nat) := by
    unfold xj'
    rw [List.map_map]
    rfl
  rw [e8]
  clear k4 hlk' e8
  walk_at "s"
  rw [rZ', u0']
  walk_at "s"
  refine (s2' (A := bY' (xj' L T A f y)) rfl).mono ?_
  rintro _ _ ⟨rfl, rfl⟩
  have hM := MM.new (w := w) (C := "RawMachine") (L := L) (T := lh' T f) (A := bY' (xj' L T A f y)) (l := .non) (.inr rfl) Rs.z
  obtain ⟨hW1, hE1⟩ := hW.mach (C := "RawMachine") (L := L) (T := lh' T f) (A := bY' (xj' L T A f y))
  have key := wi' hW1 hM hPt
  clear hM hW1
  walk_at "s"
  refine key.mono ?_
  rintro _ w2 ⟨k, c, T', A', rfl, hI, hM2, hW2, hE2⟩
  exact ⟨k, T', A', rfl, hM2, hPt.least hI, eB'.of hPt.tab hPt.ne hI hrun, hW2, hE1.trans hE2⟩
theorem ga' {L x : Tx} {T : List (List Nat)} {s : Nat} (hT : a5' T T.length L.length) (hs : s < T.length) (hx : ∀ c ∈ x, c ∈ L) (w : W) : wF (f__law_led [.str L, cr' T, .int s, .str x] w) (fun o w' => o = .fz (.int (run L T s x : Nat)) /\ w' = w) FX := by
  unfold f__law_led
  walk_at "f"
  refine bN' (fun pre ρ => ∃ y, ρ = ⟨[some (.fz (.str L)), some (.fz (cr' T)), some (.fz (.int (run L T s pre : Nat))), some (.fz (.str x)), y], w⟩ /\ run L T s pre < T.length) ⟨_, rfl, hs⟩ ?_ ?_
  . rintro pre c post _ e ⟨y, rfl, hr⟩
    have hc := hx c (by rw [e]; simp)
    obtain ⟨r, h3, h4, h5⟩ := gM' hT hr hc
    have h6 := n3' hc
    rw [iQ']
    clear hc e
    walk_at "s"
    exact ⟨_, rfl⟩
  . rintro _ ⟨y, rfl, hr⟩
    walk_at "s"
def nT' (r : List Nat) : D := .lst (r.map fun t => .int (t : Nat))
theorem ey'.lst (T : List (List Nat)) : ey' (.lst (T.map nT')) T := fun s r h => by
  refine ⟨nT' r, ?_, rfl⟩
  show ati (T.map nT') (s : Int) = _
  rw [k8' (by omega), Int.toNat_natCast, List.getElem?_map, h]; rfl
theorem eC'.lst (A : List Nat) : eC' (nT' A) A := fun s => by
  have h := r0' (Q := fun d => d = .bl (decide (s ∈ A))) (s : Int) (A.map (Nat.cast : Nat -> Int))
  rw [List.map_map] at h
  have e : decide ((s : Int) ∈ A.map (Nat.cast : Nat -> Int)) = decide (s ∈ A) := by
    rw [decide_eq_decide, List.mem_map]
    constructor
    . rintro ⟨a, h, e⟩
      have : a = s := by omega
      exact this ▸ h
    . exact fun h => ⟨s, h, rfl⟩
  rw [e] at h
  have h2 : wD (pIn (.int (s : Nat)) (nT' A)) (fun d => d = .bl (decide (s ∈ A))) := by
    show wD (pIn (.int (s : Nat)) (.lst (A.map (D.int ∘ (Nat.cast : Nat -> Int))))) _
    rw [h]
  cases hp : pIn (.int (s : Nat)) (nT' A) with
  | none => rw [hp, au'] at h2; exact h2.elim
  | some d => rw [hp, a7'] at h2; rw [h2]
def nk' (T : List (List Nat)) (f : Nat) : List (List Nat) := (am' T f).map (· + 1) :: T.map fun r => r.map (· + 1)
def u5' (L : Tx) (T : List (List Nat)) (A : List Nat) (f : Nat) (y : Tx) : List Nat := (if run L T f y ∈ A then [0] else []) ++ ((List.range T.length).filter fun s => decide (run L T s y ∈ A)).map (· + 1)
theorem qp' {L : Tx} {T : List (List Nat)} {f : Nat} (hT : a5' T T.length L.length) (hf : f < T.length) : a5' (nk' T f) (nk' T f).length L.length := by
  have hl : (nk' T f).length = T.length + 1 := by simp [nk']
  refine ⟨rfl, fun r hr => ?_⟩
  rcases List.mem_cons.mp hr with rfl | hr
  . refine ⟨by rw [List.length_map]; exact bE' hT hf, fun t ht => ?_⟩
    obtain ⟨u, hu, rfl⟩ := List.mem_map.mp ht
    have := dy' hT hu
    omega
  . obtain ⟨q, hq, rfl⟩ := List.mem_map.mp hr
    obtain ⟨h1, h2⟩ := hT.2 q hq
    refine ⟨by rw [List.length_map]; exact h1, fun t ht => ?_⟩
    obtain ⟨u, hu, rfl⟩ := List.mem_map.mp ht
    have := h2 u hu
    omega
theorem sD' {T : List (List Nat)} {f s : Nat} : am' (nk' T f) (s + 1) = (am' T s).map (· + 1) := by
  unfold am' nk'
  rw [List.getElem?_cons_succ, List.getElem?_map]
  cases T[s]? <;> rfl
theorem sC' {L : Tx} {T : List (List Nat)} {A : List Nat} {f : Nat} {y z : Tx} (hT : a5' T T.length L.length) (hf : f < T.length) (hz : ∀ a ∈ z, a ∈ L) : run L (nk' T f) 0 z ∈ u5' L T A f y ↔ run L T (run L T f z) y ∈ A := by
  have go := fun s (hs : s < T.length) z hz => fz' (S := List.range T.length) (c := (· + 1)) (T' := nk' T f) hT (fun s hs => List.mem_range.mp hs) (fun s hs t ht => List.mem_range.mpr (dy' hT ht)) (fun s hs => sD') z hz s (List.mem_range.mpr hs)
  have mem : ∀ s, s < T.length -> (s + 1 ∈ u5' L T A f y ↔ run L T s y ∈ A) := fun s hs => by
    unfold u5'
    rw [List.mem_append, List.mem_map]
    constructor
    . rintro (h | ⟨t, ht, e⟩)
      . split at h
        . simp at h
        . cases h
      . have : t = s := by omega
        subst this
        exact of_decide_eq_true (List.mem_filter.mp ht).2
    . exact fun h => .inr ⟨s, List.mem_filter.mpr ⟨List.mem_range.mpr hs, decide_eq_true h⟩, rfl⟩
  cases z with
  | nil =>
    show 0 ∈ u5' L T A f y ↔ run L T f y ∈ A
    unfold u5'
    rw [List.mem_append]
    constructor
    . rintro (h | h)
      . split at h
        . assumption
        . cases h
      . obtain ⟨t, _, e⟩ := List.mem_map.mp h
        omega
    . intro h
      rw [if_pos h]
      simp
  | cons a z =>
    have ha := hz a (by simp)
    have hz' : ∀ b ∈ z, b ∈ L := fun b hb => hz b (by simp [hb])
    rw [eP', eP']
    have hi : L.idxOf a < L.length := List.idxOf_lt_length_iff.mpr ha
    obtain ⟨r, e1, e2, e3⟩ := gM' hT hf ha
    have e4 : stp L (nk' T f) 0 a = stp L T f a + 1 := by
      rw [gL']
      show (((am' T f).map (· + 1))[L.idxOf a]?).getD 0 = _
      rw [gL', List.getElem?_map, List.getElem?_eq_getElem (by rw [bE' hT hf]; exact hi)]
      rfl
    rw [e4, (go _ e3 z hz').1]
    exact mem _ (nz' hT e3 hz')
theorem n5' : ∀ (a b : List O), frzs (a ++ b) = frzs a ++ frzs b
  | [], _ => rfl
  | x :: a, b => by show frz x :: frzs (a ++ b) = frz x :: (frzs a ++ frzs b); rw [n5' a b]
theorem tI' {L x y : Tx} {T : List (List Nat)} {A : List Nat} (hP : Pt L T) (hx : ∀ c ∈ x, c ∈ L) (hy : ∀ c ∈ y, c ∈ L) (w : W) :
    wF (f__law_due [.str L, cr' T, c2' A, .str x, .str y] w) (fun o w' => ∃ T' A', o = .fz (.tup [cr' T', c2' A']) /\ eB' L T' A' (fun z => run L T (run L T (run L T 0 x) z) y ∈ A) /\ w' = w) FX := by
  have z0 : 0 < T.length := hP.ne
  have k3 := ga' hP.tab z0 hx w
  have k4 := fun s (hs : s < T.length) => ga' hP.tab hs hy w
  have hf : run L T 0 x < T.length := nz' hP.tab z0 hx
  have hrun := fun z (hz : ∀ a ∈ z, a ∈ L) => sC' (A := A) (y := y) hP.tab hf hz
  have hle := hP.le
  have hll := hP.ll
  have key := hW' (ey'.lst (nk' T (run L T 0 x))) (eC'.lst (u5' L T A (run L T 0 x) y)) (qp' hP.tab hf) hP.nd hP.ll (by simp [nk']) (by simp [nk']; omega) w
  have hT1 := qp' hP.tab hf
  have hr := ck' hP.tab hf
  have hrl := bE' hP.tab hf
  have hrl' : ∀ r ∈ T, r.length = L.length := fun r hr => (hP.tab.2 r hr).1
  generalize hfd : run L T 0 x = f at *
  clear hP
  unfold f__law_due
  walk_at "f0"
  clear hfd
  have key' := key
  have k4' := k4
  clear key k4
  walk_at "s"
  refine k3.mono ?_
  rintro _ w ⟨rfl, rfl⟩
  clear k3
  walk_at "s"
  refine d8' (fun t => D.int ((t + 1 : Nat) : Nat)) (by omega) ?_ ?_
  . intro t ht
    walk_at "s"
    rfl
  walk_at "l"
  walk_at "s"
  refine bN' (fun pre ρ => ∃ os y7, ρ = ⟨[some (.fz (.str L)), some (.fz (cr' T)), some (.fz (c2' A)), some (.fz (.str x)), some (.fz (.str y)), some (.fz (.int (f : Nat))), some (.lst os), y7, none, none, none], w⟩ /\ os.length = pre.length + 1 /\ frzs os = ((am' T f).map (· + 1) :: pre.map fun r => r.map (· + 1)).map nT') ⟨_, _, rfl, rfl, ?_⟩ ?_ ?_
  . show [D.lst _] = [nT' _]
    unfold nT'
    rw [List.map_map]
    rfl
  . rintro pre r post _ e ⟨os, y7, rfl, ho, hfr⟩
    have hrr := hrl' r (by rw [e]; simp)
    have hpl : pre.length < T.length := by rw [e]; simp
    have hos : os.length < 16777216 := by omega
    have fin' : ∀ ys : List D, ys = r.map (fun t => D.int ((t + 1 : Nat) : Nat)) -> frzs (os ++ [O.lst (ys.map .fz)]) = ((am' T f).map (· + 1) :: (pre ++ [r]).map fun r => r.map (· + 1)).map nT' := fun ys ey => by
      rw [n5', hfr, ey]
      show _ ++ [D.lst (frzs _)] = _
      rw [lR']
      unfold nT'
      simp
    clear hrl' e hfr
    walk_at "s"
    refine d8' (fun t => D.int ((t + 1 : Nat) : Nat)) (by omega) ?_ ?_
    . intro t ht
      walk_at "s"
      rfl
    walk_at "l"
    walk_at "s"
    exact ⟨_, _, rfl, by simp [ho], fin' _ rfl⟩
  . rintro _ ⟨os, y7, rfl, ho, hfr⟩
    have hfr' : D.lst (frzs os) = .lst ((nk' T f).map nT') := by rw [hfr]; rfl
    clear hfr
    have k5 := k4' f hf
    have k4 := k4'
    clear k4'
    walk_at "s"
    refine k5.mono ?_
    rintro _ w ⟨rfl, rfl⟩
    clear k5
    walk_at "s"
    refine dr' (fun ρ => ∃ y7, ρ = ⟨[some (.fz (.str L)), some (.fz (cr' T)), some (.fz (c2' A)), some (.fz (.str x)), some (.fz (.str y)), some (.fz (.int (f : Nat))), some (.lst os), y7, some (.lst ((if run L T f y ∈ A then [0] else []).map fun q : Nat => .fz (.int (q : Nat)))), none, none], w⟩) ?_ ?_
    . refine bc' (fun h => ?_) (fun h => ?_)
      . rw [if_pos h]
        walk_at "s"
        exact ⟨_, rfl⟩
      . rw [if_neg h]
        walk_at "s"
        exact ⟨_, rfl⟩
    rintro _ ⟨y7, rfl⟩
    walk_at "s"
    refine dg' (fun j ρ => ∃ y9, ρ = ⟨[some (.fz (.str L)), some (.fz (cr' T)), some (.fz (c2' A)), some (.fz (.str x)), some (.fz (.str y)), some (.fz (.int (f : Nat))), some (.lst os), y7, some (.lst (((if run L T f y ∈ A then [0] else []) ++ ((List.range j).filter fun s => decide (run L T s y ∈ A)).map (· + 1)).map fun q : Nat => .fz (.int (q : Nat)))), y9, none], w⟩) ⟨_, by simp; rfl⟩ ?_ ?_
    . rintro j _ hj ⟨y9, rfl⟩
      have k5 := k4 j hj
      have hlen : (((if run L T f y ∈ A then [0] else []) ++ ((List.range j).filter fun s => decide (run L T s y ∈ A)).map (· + 1)).map fun q : Nat => O.fz (.int (q : Nat))).length < 16777216 := by
        have := List.length_filter_le (fun s => decide (run L T s y ∈ A)) (List.range j)
        rw [List.length_range] at this
        simp only [List.length_map, List.length_append]
        split <;> simp <;> omega
      have hsnoc : (List.range (j + 1)).filter (fun s => decide (run L T s y ∈ A)) = (List.range j).filter (fun s => decide (run L T s y ∈ A)) ++ (if run L T j y ∈ A then [j] else []) := by
        rw [List.range_succ, List.filter_append]
        congr 1
        by_cases h : run L T j y ∈ A <;> simp [h]
      rw [hsnoc]
      clear hsnoc k4
      walk_at "s"
      refine k5.mono ?_
      rintro _ w ⟨rfl, rfl⟩
      clear k5
      walk_at "s"
      refine bc' (fun h => ?_) (fun h => ?_)
      . rw [if_pos (c := run L T j y ∈ A) h]
        walk_at "s"
        rw [pc' (by simpa using hlen)]
        exact ⟨_, by simp; rfl⟩
      . rw [if_neg (c := run L T j y ∈ A) h]
        walk_at "s"
        exact ⟨_, by simp; rfl⟩
    rintro _ ⟨y9, rfl⟩
    clear k4
    have e8 : D.lst (frzs (((if run L T f y ∈ A then [0] else []) ++ ((List.range T.length).filter fun s => decide (run L T s y ∈ A)).map (· + 1)).map fun q : Nat => O.fz (.int (q : Nat)))) = nT' (u5' L T A f y) := by
      unfold nT' u5'
      rw [dG', List.map_map]
      rfl
    walk_at "s"
    refine key'.mono ?_
    rintro _ _ ⟨⟨c, T', A', hI, rfl⟩, rfl⟩
    exact ⟨T', A', rfl, eB'.of hT1 (by simp [nk']) hI hrun, rfl⟩
def okD (d : D) : Prop := plD d = true /\ ∀ ds, d = .tup ds -> ∀ x ∈ ds, plD x = true
def rp (d : D) : Prop := xq' d = true /\ dep d <= 40 /\ qP' d = true /\ oz' d <= 200000 /\ same d d = true
def gx (d : D) : Prop := plD d = true /\ dat d = true /\ dep d <= 3 /\ qP' d = true /\ oz' d <= 100
theorem rS' : ∀ {ds : List D}, (∀ d ∈ ds, gx d) -> dats ds = true /\ deps ds <= 3 /\ repIs ds = true /\ repWs ds <= 101 * ds.length
  | [], _ => ⟨rfl, by decide, rfl, by decide⟩
  | d :: r, h => by
    obtain ⟨h1, h2, h3, h4, h5⟩ := h d (List.mem_cons_self ..)
    obtain ⟨a1, a2, a3, a4⟩ := rS' fun x hx => h x (List.mem_cons_of_mem _ hx)
    refine ⟨?_, ?_, ?_, ?_⟩
    . show (dat d && dats r) = true
      rw [h2, a1]; rfl
    . show max (dep d) (deps r) <= 3
      omega
    . show (qP' d && repIs r) = true
      rw [h4, a3]; rfl
    . show oz' d + 1 + repWs r <= 101 * (r.length + 1)
      omega
theorem yh' {ds : List D} (h : ∀ d ∈ ds, gx d) (hl : ds.length <= 100) : okD (.tup ds) /\ rp (.tup ds) := by
  obtain ⟨a1, a2, a3, a4⟩ := rS' h
  refine ⟨⟨rfl, ?_⟩, lu' (d := .tup ds) a1, ?_, a3, ?_, dw' _ a1⟩
  . rintro _ ⟨⟩ x hx
    exact (h x hx).1
  . show deps ds + 1 <= 40
    omega
  . show repWs ds <= 200000
    omega
theorem yi' {ds : List D} (h : ∀ d ∈ ds, gx d) (hl : ds.length <= 100) : okD (.lst ds) /\ rp (.lst ds) := by
  obtain ⟨a1, a2, a3, a4⟩ := rS' h
  refine ⟨⟨rfl, nofun⟩, a1, ?_, a3, ?_, dw' _ a1⟩
  . show deps ds + 1 <= 40
    omega
  . show repWs ds <= 200000
    omega
theorem ze' {i : Int} (h : i.natAbs < 10 ^ 60) : gx (.int i) := ⟨rfl, rfl, Nat.zero_le 3, decide_eq_true h, Nat.zero_le 100⟩
theorem vS' {d : D} (h : gx d) (h2 : ∀ ds, d ≠ .tup ds) : okD d /\ rp d := by
  obtain ⟨h1, a1, a2, a3, a4⟩ := h
  exact ⟨⟨h1, fun ds e => absurd e (h2 ds)⟩, lu' a1, by omega, a3, by omega, dw' _ a1⟩
def sgn : Tx := [97, 98, 99, 100, 101, 102, 103, 104, 105, 106, 107, 108, 109, 110, 111, 112, 113, 114, 115, 116, 117, 118, 119, 120, 121, 122, 65, 66, 90, 32, 46, 45, 95, 48, 55]
theorem kh' {w : W} {n : Nat} {L x : Tx} (h : cW' w n) (hL : LetOk L 4) (hx : ∀ c ∈ x, c ∈ L) (hl : x.length <= 100) : wF (f__law_no_word [.obj n, .str L, .str x] w) (fun o w' => ∃ d, o = .fz d /\ plD d = true /\ rp d /\ wdD L d = false /\ cW' w' n /\ But n w w') FX := by
  unfold f__law_no_word
  walk_at "f0"
  walk_at "s"
  refine rF' (f := fun c : Nat => D.str [c]) (cs := sgn) (fun c => decide (c ∉ L)) (fun c => D.str [c]) (by decide) ?_ ?_
  . intro c hc
    walk_at "s"
    exact ⟨by simp, fun _ => trivial⟩
  intro env2 he
  simp only [aF', List.set_cons_zero, List.set_cons_succ] at he
  rw [he]
  clear he
  have ne : 1 <= ((sgn.filter fun c => decide (c ∉ L)).map fun c => D.str [c]).length := by
    rw [List.length_map]
    refine List.length_pos_of_mem (a := 65) (List.mem_filter.mpr ⟨by decide, decide_eq_true fun h => ?_⟩)
    have := hL.abc 65 h
    omega
  have le : ((sgn.filter fun c => decide (c ∉ L)).map fun c => D.str [c]).length <= 35 := by
    rw [List.length_map]
    exact List.length_filter_le ..
  have hm : ∀ d ∈ (sgn.filter fun c => decide (c ∉ L)).map fun c => D.str [c], ∃ c, d = .str [c] /\ c ∉ L := by
    intro d hd
    obtain ⟨c, hc, rfl⟩ := List.mem_map.mp hd
    exact ⟨c, rfl, of_decide_eq_true (List.mem_filter.mp hc).2⟩
  generalize ((sgn.filter fun c => decide (c ∉ L)).map fun c => D.str [c]) = sg at *
  walk_at "s"
  refine (ba' h (by omega) (by omega)).mono ?_
  rintro _ w1 ⟨a, rfl, ha, h1, b1⟩
  clear h
  walk_at "s"
  refine (ba' h1 (by omega) (by omega)).mono ?_
  rintro _ w2 ⟨way, rfl, hway, h2, b2⟩
  have b2 := b1.trans b2
  clear h1 b1
  walk_at "s"
  refine bc' (fun c0 => ?_) (fun c0 => ?_)
  . walk_at "s"
    refine (ba' h2 (by omega) (by omega)).mono ?_
    rintro _ w3 ⟨q, rfl, hq, h3, b3⟩
    have b3 := b2.trans b3
    walk_at "s"
    refine bQ' (by simp; omega) fun y hy _ => ?_
    have hQ : plD y = true /\ rp y /\ wdD L y = false := by
      simp only [List.mem_cons, List.not_mem_nil, or_false] at hy
      rcases hy with rfl | rfl | rfl | rfl | rfl | rfl | rfl
      all_goals exact ⟨rfl, ⟨rfl, by decide, rfl, by decide, rfl⟩, rfl⟩
    obtain ⟨r1, r2, r3⟩ := hQ
    walk_at "s"
    exact ⟨_, rfl, r1, r2, r3⟩
  walk_at "s"
  refine bc' (fun c1 => ?_) (fun c1 => ?_)
  . walk_at "s"
    have gx1 : gx (.str x) := ⟨rfl, rfl, Nat.zero_le 3, rfl, hl⟩
    obtain ⟨r1, r2⟩ := yi' (ds := [.str x]) (by simpa using gx1) (by show 1 <= 100; decide)
    exact ⟨_, rfl, rfl, r2, rfl⟩
  walk_at "s"
  refine bc' (fun c2 => ?_) (fun c2 => ?_)
  . walk_at "s"
    obtain ⟨r1, r2⟩ := yh' (ds := x.map chD) (fun d hd => by
      obtain ⟨c, _, rfl⟩ := List.mem_map.mp hd
      exact ⟨rfl, rfl, Nat.zero_le 3, rfl, by show 1 <= 100; decide⟩) (by rw [List.length_map]; exact hl)
    exact ⟨_, rfl, rfl, r2, rfl⟩
  walk_at "s"
  refine bc' (fun c3 => ?_) (fun c3 => ?_)
  . walk_at "s"
    obtain ⟨r1, r2⟩ := vS' (d := .int (a : Nat)) (ze' (Nat.lt_of_lt_of_le (m := 1000) (by omega) (by decide))) nofun
    exact ⟨_, rfl, rfl, r2, rfl⟩
  walk_at "s"
  refine (ba' h2 (by omega) (by omega)).mono ?_
  rintro _ w3 ⟨q, rfl, hq, h3, b3⟩
  have b3 := b2.trans b3
  walk_at "s"
  refine bQ' (by omega) fun y hy _ => ?_
  obtain ⟨c, rfl, hc⟩ := hm y hy
  clear hy
  have t1 : (x.take a).length <= 100 := by rw [List.length_take]; omega
  have t2 : (x.drop a).length <= 100 := by rw [List.length_drop]; omega
  have t3 : (x.take a ++ [c]).length <= 101 := by rw [List.length_append]; simp; omega
  walk_at "s"
  refine ⟨_, rfl, rfl, ⟨rfl, by show 0 <= 40; decide, rfl, ?_, by simp [same]⟩, ?_⟩
  . show List.length _ <= 200000
    rw [List.length_append]; omega
  . show List.all _ _ = false
    rw [List.all_eq_false]
    exact ⟨c, by simp, by simpa using hc⟩
theorem pa' {w : W} {n : Nat} {L : Tx} {m : Nat} (h : cW' w n) (hl : 1 <= L.length) (hl2 : L.length < 1000) (hm : m < 100000) : wF (f__law_word [.obj n, .str L, .int m] w) (fun o w' => ∃ s : Tx, o = .fz (.str s) /\ s.length = m /\ (∀ c ∈ s, c ∈ L) /\ cW' w' n /\ But n w w') FX := by
  unfold f__law_word
  walk_at "f"
  refine dg' (fun k ρ => ∃ x w', ∃ s : Tx, ρ = ⟨[some (.fz (.obj n)), some (.fz (.str L)), some (.fz (.int m)), some (.fz (.str s)), x], w'⟩ /\ s.length = k /\ (∀ c ∈ s, c ∈ L) /\ cW' w' n /\ But n w w') ⟨_, _, _, rfl, rfl, by simp, h, But.refl⟩ ?_ ?_
  . rintro k _ hk ⟨x, w1, s, rfl, hs, hc, h1, b1⟩
    walk_at "s"
    refine (ba' h1 (by omega) (by omega)).mono ?_
    rintro _ w2 ⟨d, rfl, hd, h2, b2⟩
    walk_at "s"
    refine bQ' (by omega) fun c hcL _ => ?_
    walk_at "s"
    exact ⟨_, _, s ++ [c], rfl, by simp [hs], by simpa [or_imp, forall_and] using ⟨hc, hcL⟩, h2, b1.trans b2⟩
  . rintro _ ⟨x, w1, s, rfl, hs, hc, h1, b1⟩
    walk_at "s"
    exact ⟨s, rfl, hs, hc⟩
theorem sh' {w : W} {m : Nat} {C : String} {L : Tx} {T : List (List Nat)} {A : List Nat} {d1 d2 : D} (h : MM w m C L T A) (h1 : plD d1 = true) (h2 : plD d2 = true) (hb : (wdD L d1 && wdD L d2) = false) :
    wF (f_around [.obj m, d1, d2] w) (fun _ _ => False) (fun x w' => x = ⟨"NoWord", []⟩ /\ w' = w) := by
  have k1 := di' h h1
  have k2 := di' h h2
  unfold f_around
  walk_at "f0"
  clear h
  walk_at "s"
  refine k1.monoX ?_ ?_
  . rintro _ w ⟨e1, rfl⟩
    rw [e1, Bool.true_and] at hb
    clear k1
    walk_at "s"
    refine k2.monoX ?_ ?_
    . rintro _ w ⟨e2, rfl⟩
      rw [e2] at hb
      cases hb
    . rintro _ _ ⟨_, rfl, rfl⟩
      exact ⟨rfl, rfl⟩
  . rintro _ _ ⟨_, rfl, rfl⟩
    exact ⟨rfl, rfl⟩
theorem gY' {w : W} {m : Nat} {C : String} {L : Tx} {T : List (List Nat)} {A : List Nat} {d1 d2 : D} (h : MM w m C L T A) (h1 : plD d1 = true) (h2 : plD d2 = true) (hb : (wdD L d1 && wdD L d2) = false) :
    wF (f__law_is_refused [.obj m, d1, d2] w) (fun o w' => o = .fz (.bl true) /\ w' = w) FX := by
  have hs := sh' h h1 h2 hb
  unfold f__law_is_refused
  walk_at "f0"
  clear h h1 h2 hb
  walk_at "s"
  refine hs.monoX ?_ ?_
  . rintro _ _ h
    exact h.elim
  . rintro _ w ⟨rfl, rfl⟩
    clear hs
    rw [show sub exT "NoWord" "SaidError" = some true by decide]
    have e1 : sub exI "NoWord" "NoWord" = some true := by decide
    walk_at "s"
structure St (w : W) (L : Tx) (T : List (List Nat)) (A : List Nat) : Prop where
  ok : WOk w
  hand : cW' w 0
  mac : MM w 1 "Machine" L T A
theorem St.evo {w w' : W} {L T A} (h : St w L T A) (hW : WOk w') (e : Evo w w') : St w' L T A := ⟨hW, e.hand _ h.hand, h.mac.evo e⟩
theorem St.but {w w' : W} {L T A} (h : St w L T A) (hh : cW' w' 0) (b : But 0 w w') : St w' L T A /\ Evo w w' := by
  obtain ⟨h1, h2⟩ := h.ok.but h.hand hh b
  exact ⟨h.evo h1 h2, h2⟩
theorem fN' {w : W} {L T A} {m : Int} (h : St w L T A) (h1 : 0 < m) (h2 : m < 1606938044258990275541962092341162602522202993782792835301376) : wF (f__law_draw [.obj 0, .int m] w) (fun o w' => ∃ d : Nat, o = .fz (.int (d : Nat)) /\ (d : Int) < m /\ St w' L T A /\ Evo w w') FX := by
  refine (ba' h.hand h1 h2).mono ?_
  rintro _ w1 ⟨d, rfl, hd, hh, b⟩
  exact ⟨d, rfl, hd, h.but hh b⟩
theorem iI' {w : W} {L : Tx} {T A} {L' : Tx} {m : Nat} (h : St w L T A) (hl : 1 <= L'.length) (hl2 : L'.length < 1000) (hm : m < 100000) : wF (f__law_word [.obj 0, .str L', .int m] w) (fun o w' => ∃ s : Tx, o = .fz (.str s) /\ s.length = m /\ (∀ c ∈ s, c ∈ L') /\ St w' L T A /\ Evo w w') FX := by
  refine (pa' h.hand hl hl2 hm).mono ?_
  rintro _ w1 ⟨s, rfl, h1, h2, hh, b⟩
  exact ⟨s, rfl, h1, h2, h.but hh b⟩
theorem nA' {L x : Tx} {n k : Nat} (hx : ∀ c ∈ x, c ∈ L) (hn : (n : Int) < 20) : (List.replicate n (x.take k)).flatten.length <= 19 * k /\ ∀ c ∈ (List.replicate n (x.take k)).flatten, c ∈ L := by
  refine ⟨?_, fun c hc => ?_⟩
  . rw [List.length_flatten, List.map_replicate, List.sum_replicate_nat, List.length_take]
    exact Nat.mul_le_mul (show n <= 19 by omega) (Nat.min_le_left ..)
  . obtain ⟨l, hl, hc⟩ := List.mem_flatten.mp hc
    rw [(List.mem_replicate.mp hl).2] at hc
    exact hx c (List.mem_of_mem_take hc)
theorem law_true (ns : List Int) (hl : ns.length <= 63) : ∃ w, f_law [.scr (ns.map .int)] [] = .ok (.fz (.bl true)) w := by
  suffices h : wF (f_law [.scr (ns.map .int)] []) (fun o _ => o = .fz (.bl true)) FX by
    obtain ⟨o, w, e, rfl⟩ := h.exi
    exact ⟨w, e⟩
  unfold f_law
  walk_at "f"
  refine (rR' hl).mono ?_
  rintro _ w1 ⟨rfl, h1, hl1, -⟩
  change cW' w1 0 at h1
  walk_at "s"
  refine (j7' (most := 4) (states := 6) h1 (by omega) (by omega) (by omega) (by omega)).mono ?_
  rintro _ w2 ⟨L, T, A, rfl, hM, h2, b2⟩
  have hl2 : w2.length = 1 := b2.1.trans hl1
  have hP : Pt L T := hM.pt (by decide) (by decide)
  have hAc := hM.acc
  have hT := hM.tab
  have hn6 := hM.le
  have hLet := hM.let'
  clear h1 b2
  walk_at "s"
  refine (yN' hl2 hM (by omega)).mono ?_
  rintro _ _ ⟨rfl, rfl⟩
  have hst : St (w2 ++ [mkM "Machine" L T A .non cY']) L T A := by
    have hw0 : WOk w2 := by
      obtain ⟨a, b, c, d, e, f, _⟩ := h2
      match w2, hl2, f with
      | [x], _, f =>
        have : x = _ := Option.some.inj f
        subst this
        exact .one
    have := MM.new (w := w2) (C := "Machine") (L := L) (T := T) (A := A) (l := .non) (.inl rfl) Rs.z
    rw [hl2] at this
    exact ⟨hw0.mach.1, h2.snoc, this⟩
  rw [hl2]
  generalize w2 ++ [mkM "Machine" L T A .non cY'] = w3 at hst
  clear h2 hl2 hl1 w2 hM
  have hLn := hLet.ne
  have hLm := hLet.le
  walk_at "s"
  refine dg' (fun j ρ => ∃ x6 x7 x8 x9 x10 x11 x12 x13 x14 x15 w', ρ = ⟨[some (.fz (.scr (ns.map .int))), some (.fz (.obj 0)), some (.fz (.str L)), some (.fz (cr' T)), some (.fz (c2' A)), some (.fz (.obj 1)), x6, x7, x8, x9, x10, x11, x12, x13, x14, x15], w'⟩ /\ St w' L T A) ⟨_, _, _, _, _, _, _, _, _, _, _, rfl, hst⟩ ?_ ?_
  . clear hst w3
    rintro j _ hj ⟨x6, x7, x8, x9, x10, x11, x12, x13, x14, x15, w4, rfl, s4⟩
    walk_at "s"
    refine (fN' s4 (by omega) (by omega)).mono ?_
    rintro _ w5 ⟨n1, rfl, hn1, s5, -⟩
    clear s4
    walk_at "s"
    refine (iI' s5 hLn (by omega) (by omega)).mono ?_
    rintro _ w6 ⟨x0, rfl, lx0, hx0, s6, -⟩
    clear s5
    walk_at "s"
    refine (fN' s6 (by omega) (by omega)).mono ?_
    rintro _ w7 ⟨n2, rfl, hn2, s7, -⟩
    clear s6
    walk_at "s"
    refine (iI' s7 hLn (by omega) (by omega)).mono ?_
    rintro _ w8 ⟨y0, rfl, ly0, hy0, s8, -⟩
    clear s7
    walk_at "s"
    refine dr' (fun ρ => ∃ x y w', ρ = ⟨[some (.fz (.scr (ns.map .int))), some (.fz (.obj 0)), some (.fz (.str L)), some (.fz (cr' T)), some (.fz (c2' A)), some (.fz (.obj 1)), some (.fz (.int j)), some (.fz (.str x)), some (.fz (.str y)), x9, x10, x11, x12, x13, x14, x15], w'⟩ /\ x.length <= 76 /\ y.length <= 76 /\ (∀ c ∈ x, c ∈ L) /\ (∀ c ∈ y, c ∈ L) /\ St w' L T A) ?_ ?_
    . refine bc' (fun c0 => ?_) (fun c0 => ?_)
      . walk_at "s"
        refine (fN' s8 (by omega) (by omega)).mono ?_
        rintro _ w9 ⟨n3, rfl, hn3, s9, -⟩
        have q1' : (List.take 4 x0).length * n3 <= 16777216 := by
          rw [List.length_take]
          exact Nat.le_trans (Nat.mul_le_mul (Nat.min_le_left _ _) (show n3 <= 19 by omega)) (by decide)
        clear s8
        walk_at "s"
        refine (fN' s9 (by omega) (by omega)).mono ?_
        rintro _ w10 ⟨n4, rfl, hn4, s10, -⟩
        have q2' : (List.take 4 y0).length * n4 <= 16777216 := by
          rw [List.length_take]
          exact Nat.le_trans (Nat.mul_le_mul (Nat.min_le_left _ _) (show n4 <= 19 by omega)) (by decide)
        clear s9
        walk_at "s"
        exact ⟨_, _, _, rfl, (nA' hx0 hn3).1, (nA' hy0 hn4).1, (nA' hx0 hn3).2, (nA' hy0 hn4).2, s10⟩
      . walk_at "s"
        exact ⟨_, _, _, rfl, by omega, by omega, hx0, hy0, s8⟩
    clear s8 hx0 hy0 lx0 ly0
    rintro _ ⟨x, y, w9, rfl, lx, ly, hx, hy, s9⟩
    walk_at "s"
    refine (tI' hP hx hy w9).mono ?_
    rintro _ _ ⟨T1, A1, rfl, hC1, rfl⟩
    rename_i w9
    walk_at "s"
    refine (hM' s9.ok s9.mac hP hx hy).mono ?_
    rintro _ w10 ⟨k, T2, A2, rfl, hM2, hP2, hC2, hW2, hE2⟩
    obtain ⟨e1, e2⟩ := hC1.uniq hP.nd hC2 fun _ _ => Iff.rfl
    subst e1 e2
    have s10 := s9.evo hW2 hE2
    clear s9 hE2 hW2
    walk_at "s"
    refine (e2' hM2 hP2.tab (by have := hP2.le; omega) (by omega) hC2.acc).mono ?_
    rintro _ _ ⟨rfl, rfl⟩
    rename_i w10
    walk_at "s"
    refine (fN' s10 (by omega) (by omega)).mono ?_
    rintro _ w11 ⟨n5, rfl, hn5, s11, e11⟩
    have hM3 := hM2.evo e11
    clear s10 hM2 e11
    walk_at "s"
    refine (iI' s11 hLn (by omega) (by omega)).mono ?_
    rintro _ w12 ⟨z, rfl, lz, hz, s12, e12⟩
    have hM4 := hM3.evo e12
    clear s11 hM3 e12
    have hxz : ∀ c ∈ x ++ z, c ∈ L := fun c hc => (List.mem_append.mp hc).elim (hx c) (hz c)
    have hxzy : ∀ c ∈ x ++ z ++ y, c ∈ L := fun c hc => (List.mem_append.mp hc).elim (hxz c) (hy c)
    have l1 : x.length + z.length <= 16777216 := by omega
    have l2 : (x ++ z).length + y.length <= 16777216 := by rw [List.length_append]; omega
    walk_at "s"
    refine (qI' hM4 hP2 hz).mono ?_
    rintro _ _ ⟨rfl, rfl⟩
    rename_i w12
    walk_at "s"
    refine (qI' s12.mac hP hxzy).mono ?_
    rintro _ _ ⟨rfl, rfl⟩
    rename_i w12
    have esay : decide (run L T1 0 z ∈ A1) = decide (run L T 0 (x ++ z ++ y) ∈ A) := by
      rw [decide_eq_decide, hC2.says hz, ch', ch']
    rw [esay]
    clear esay
    walk_at "s"
    refine (fN' s12 (by omega) (by omega)).mono ?_
    rintro _ w13 ⟨n6, rfl, hn6', s13, e13⟩
    have hM5 := hM4.evo e13
    clear s12 hM4 e13
    walk_at "s"
    refine (iI' s13 hLn (by omega) (by omega)).mono ?_
    rintro _ w14 ⟨i, rfl, li, hi, s14, e14⟩
    have hM6 := hM5.evo e14
    clear s13 hM5 e14
    have hxi : ∀ c ∈ x ++ i, c ∈ L := fun c hc => (List.mem_append.mp hc).elim (hx c) (hi c)
    have hzy : ∀ c ∈ z ++ y, c ∈ L := fun c hc => (List.mem_append.mp hc).elim (hz c) (hy c)
    have l3 : x.length + i.length <= 16777216 := by omega
    have l4 : z.length + y.length <= 16777216 := by omega
    walk_at "s"
    refine (hM' s14.ok hM6 hP2 hi hz).mono ?_
    rintro _ w15 ⟨k1, T3, A3, rfl, hM7, hP3, hC3, hW3, hE3⟩
    have s15 := s14.evo hW3 hE3
    clear s14 hE3 hW3 hM6
    walk_at "s"
    refine (hM' s15.ok s15.mac hP hxi hzy).mono ?_
    rintro _ w16 ⟨k2, T4, A4, rfl, hM8, hP4, hC4, hW4, hE4⟩
    obtain ⟨e1, e2⟩ := hC3.uniq hP.nd hC4 fun v hv => by
      have q := hC2.says (z := i ++ (v ++ z)) (fun c hc => (List.mem_append.mp hc).elim (hi c) (fun hc => (List.mem_append.mp hc).elim (hv c) (hz c)))
      rw [ch', ch'] at q
      rw [q]
      simp only [ch']
    subst e1 e2
    have hM9 := hM7.evo hE4
    have s16 := s15.evo hW4 hE4
    clear s15 hE4 hW4 hM7
    walk_at "s"
    refine ⟨wA' hM9 hM8 (by decide), ?_⟩
    refine (BI' hM9 hM8).mono ?_
    rintro _ _ ⟨rfl, rfl⟩
    rename_i w16
    clear hM8 hM9
    refine ⟨_, rfl, ?_⟩
    walk_at "s"
    refine (kh' s16.hand hLet hz (by omega)).mono ?_
    rintro _ w17 ⟨d, rfl, pd, ⟨z1, z2, z3, z4, z5⟩, gd, h17, b17⟩
    obtain ⟨s17, -⟩ := s16.but h17 b17
    clear s16 h17 b17
    walk_at "s"
    rw [oe', iJ' ⟨z1, z2, z3, z4⟩]
    walk_at "s"
    refine (gY' s17.mac pd (d2 := .str y) rfl (by rw [gd]; rfl)).mono ?_
    rintro _ _ ⟨rfl, rfl⟩
    rename_i w17
    walk_at "s"
    refine (gY' s17.mac (d1 := .str x) rfl pd (by rw [gd, Bool.and_false])).mono ?_
    rintro _ _ ⟨rfl, rfl⟩
    rename_i w17
    walk_at "s"
    refine (gY' s17.mac pd pd (by rw [gd]; rfl)).mono ?_
    rintro _ _ ⟨rfl, rfl⟩
    rename_i w17
    walk_at "s"
    rw [oe', iJ' ⟨z1, z2, z3, z4⟩]
    walk_at "s"
    rw [B1', iJ' z5]
    walk_at "s"
    exact ⟨_, _, _, _, _, _, _, _, _, _, _, rfl, s17⟩
  . rintro _ ⟨x6, x7, x8, x9, x10, x11, x12, x13, x14, x15, w4, rfl, s4⟩
    walk_at "s"
    refine (e2' s4.mac hT (by omega) (by omega) hAc).mono ?_
    rintro _ _ ⟨rfl, rfl⟩
    walk_at "s"
end
end M
namespace S
open PySem PySem.Spec PyProof.Rows L2
section
variable [Wd] {K : PySem.W.Frag} {mg : Str -> Option Value} {base : Heap}
theorem iX' (C : Ctx Wd.w K mg) : Og Wd.P Wd.w K mg base 1 "is_integer" ["thing"] (spM K M.f_is_integer) := by
  obtain ⟨fd, F⟩ := C.f_is_integer
  exact ⟨fd, okM F iN' rfl rfl (fun cdv A outer s H E hr =>
    (af' (at' (bd' (qF' (j2' "int" (by decide) rfl (C.free_isinstance) (by decide +kernel) (ad' (pv 0)) (pe_bltn (v := .ty "int") rfl (C.free_int) (by decide +kernel) rfl)) (qB' (yc' (j2' "bool" (by decide) rfl (C.free_isinstance) (by decide +kernel) (ad' (pv 0)) (pe_bltn (v := .ty "bool") rfl (C.free_bool) (by decide +kernel) rfl))))))))), k0' F, F.kp, C.g_is_integer⟩
theorem dB' (C : Ctx Wd.w K mg) : Og Wd.P Wd.w K mg base 1 "is_string_of" ["thing", "signs"] (spM K M.f_is_string_of) := by
  obtain ⟨fd, F⟩ := C.f_is_string_of
  exact ⟨fd, okM F du' rfl rfl (fun cdv A outer s H E hr =>
    (ab' (bl' (cl' (lj' (j2' "str" (by decide) rfl (C.free_isinstance) (by decide +kernel) (ad' (pv 0)) (pe_bltn (v := .ty "str") rfl (C.free_str) (by decide +kernel) rfl)))) (af' (at' (bd' cJ'))) aJ')
      (ab' (bF' (passes_of rfl) rfl (bu' (ad' (pv 0))) (cm' 2 du'.nd rfl (by walk_at "1") (by walk_at "2")) (af' (bl' (aQ' g3' lE' (by rfl) (ad' (pv 2)) (ad' (pv 1))) (af' (at' (bd' cJ'))) aJ')))
      (af' (at' (bd' cJ')))))), hY' F, F.kp, C.g_is_string_of⟩
theorem dC' (C : Ctx Wd.w K mg) : Og Wd.P Wd.w K mg base 1 "is_ascending" ["thing"] (spM K M.f_is_ascending) := by
  obtain ⟨fd, F⟩ := C.f_is_ascending
  exact ⟨fd, okM F cE' rfl rfl (fun cdv A outer s H E hr =>
    (ab' (bF' (passes_of rfl) rfl (ya' rfl (C.free_zip) (ad' (pv 0)) (lq' vG' wb' (ad' (pv 0)) (ll' ae') lm')) (yb' (n := 2) rfl rfl rfl rfl (b7' rfl (cm' 1 cE'.nd rfl (by walk_at "1") (by walk_at "2")) (b7' rfl (cm' 2 cE'.nd rfl (by walk_at "1") (by walk_at "2")) gR'))) (af' (bl' (aQ' nM' AB' (nomark _) (ad' (pv 1)) (ad' (pv 2))) (af' (at' (bd' cJ'))) aJ')))
      (af' (at' (bd' cJ'))))), hZ' F, F.kp, C.g_is_ascending⟩
theorem kb' (C : Ctx Wd.w K mg) : Og Wd.P Wd.w K mg base 2 "is_choice" ["thing", "signs"] (spM K M.f_is_choice) := by
  obtain ⟨fd, F⟩ := C.f_is_choice
  exact ⟨fd, okM F j3' rfl rfl (fun cdv A outer s H E hr =>
    (af' (at' (bd' (qF' (cb' (ah' (dB' C) (hr.mono (by walk_at "4")) rfl (takes_of rfl rfl rfl rfl) (aa' (ad' (pv 0)) (aa' (ad' (pv 1)) ag')))) (qB' (cb' (ah' (dC' C) (hr.mono (by walk_at "4")) rfl (takes_of rfl rfl rfl rfl) (aa' (ad' (pv 0)) ag'))))))))), mb' F, F.kp, C.g_is_choice⟩
theorem oF' (C : Ctx Wd.w K mg) : Og Wd.P Wd.w K mg base 2 "is_word" ["machine", "thing"] (spM K M.f_is_word) := by
  obtain ⟨fd, F⟩ := C.f_is_word
  exact ⟨fd, okM F ox' rfl rfl (fun cdv A outer s H E hr =>
    (af' (at' (ah' (dB' C) (hr.mono (by walk_at "4")) rfl (takes_of rfl rfl rfl rfl) (aa' (ad' (pv 1)) (aa' (bG' ["Machine", "RawMachine"] (ad' (pv 0)) C.at_kept_letters) ag')))))), sc' F, F.kp, C.g_is_word⟩
theorem da' (C : Ctx Wd.w K mg) : Og Wd.P Wd.w K mg base 3 "check_word" ["machine", "thing"] (spM K M.f_check_word) := by
  obtain ⟨fd, F⟩ := C.f_check_word
  exact ⟨fd, okM F iO' rfl rfl (fun cdv A outer s H E hr =>
    (af' (bl' (cl' (lj' (cb' (ah' (oF' C) (hr.mono (by walk_at "4")) rfl (takes_of rfl rfl rfl rfl) (aa' (ad' (pv 0)) (aa' (ad' (pv 1)) ag')))))) (af' (sM' rfl (takes_of rfl rfl rfl rfl) (s6' PySem.F.excBase_ValueError C.x_NoWord C.g_NoWord C.k_NoWord C.r_NoWord rfl))) aJ'))), k1' F, F.kp, C.g_check_word⟩
theorem eV' (C : Ctx Wd.w K mg) : Og Wd.P Wd.w K mg base 2 "are_states" ["thing", "many"] (spM K M.f_are_states) := by
  obtain ⟨fd, F⟩ := C.f_are_states
  exact ⟨fd, okM F eK' rfl rfl (fun cdv A outer s H E hr =>
    (ab' (bl' (cl' (lj' (j2' "tuple" (by decide) rfl (C.free_isinstance) (by decide +kernel) (ad' (pv 0)) (pe_bltn (v := .ty "tuple") rfl (C.free_tuple) (by decide +kernel) rfl)))) (af' (at' (bd' cJ'))) aJ')
      (ab' (bF' (passes_of rfl) rfl (bu' (ad' (pv 0))) (cm' 2 eK'.nd rfl (by walk_at "1") (by walk_at "2")) (af' (bl' (sK' (jZ' (cl' (lj' (cb' (ah' (iX' C) (hr.mono (by walk_at "4")) rfl (takes_of rfl rfl rfl rfl) (aa' (ad' (pv 2)) ag'))))) (jZ' (aQ' ka' yK' (nomark _) (ad' (pv 2)) ae') (gK' (aQ' nM' AB' (nomark _) (ad' (pv 2)) (ad' (pv 1))))))) (af' (at' (bd' cJ'))) aJ')))
      (af' (at' (bd' cJ')))))), k3' F, F.kp, C.g_are_states⟩
theorem lC' (C : Ctx Wd.w K mg) : Og Wd.P Wd.w K mg base 3 "is_table" ["thing", "letters"] (spM K M.f_is_table) := by
  obtain ⟨fd, F⟩ := C.f_is_table
  exact ⟨fd, okM F gS' rfl rfl (fun cdv A outer s H E hr =>
    (ab' (bl' (sK' (jZ' (cl' (lj' (j2' "tuple" (by decide) rfl (C.free_isinstance) (by decide +kernel) (ad' (pv 0)) (pe_bltn (v := .ty "tuple") rfl (C.free_tuple) (by decide +kernel) rfl)))) (gK' (cl' (no' nL' AA' nL' AA' ae' (co' (a4' ⟨rfl, rfl⟩) dN' rfl (C.free_len) (by decide +kernel) (ad' (pv 0))) ae'))))) (af' (at' (bd' cJ'))) aJ')
      (ab' (bF' (passes_of rfl) rfl (bu' (ad' (pv 0))) (cm' 2 gS'.nd rfl (by walk_at "1") (by walk_at "2")) (af' (bl' (sK' (jZ' (cl' (lj' (cb' (ah' (eV' C) (hr.mono (by walk_at "4")) rfl (takes_of rfl rfl rfl rfl) (aa' (ad' (pv 2)) (aa' (co' (a4' ⟨rfl, rfl⟩) dN' rfl (C.free_len) (by decide +kernel) (ad' (pv 0))) ag')))))) (gK' (aQ' (nK' hr.units) BC' (nomark _) (co' (a4' ⟨rfl, rfl⟩) dN' rfl (C.free_len) (by decide +kernel) (ad' (pv 2))) (co' (a4' ⟨rfl, rfl⟩) dN' rfl (C.free_len) (by decide +kernel) (ad' (pv 1))))))) (af' (at' (bd' cJ'))) aJ')))
      (af' (at' (bd' cJ')))))), oW' F, F.kp, C.g_is_table⟩
theorem dE' (C : Ctx Wd.w K mg) : OgM Wd.P Wd.w K mg base 1 (He.ga K "Machine") "keep" ["self", "letters", "table", "accepts"] (spM K M.f_Machine_keep) := by
  obtain ⟨fd, F⟩ := C.f_Machine_keep
  exact ⟨fd, okM F gT' rfl rfl (fun cdv A outer s H E hr =>
    (ab' (eG' ["Machine", "RawMachine"] (ad' (pv 0)) (bd' (ad' (pv 1))) C.at_kept_letters)
      (ab' (eG' ["Machine", "RawMachine"] (ad' (pv 0)) (bd' (ad' (pv 2))) C.at_kept_table)
      (ab' (eG' ["Machine", "RawMachine"] (ad' (pv 0)) (bd' (ad' (pv 3))) C.at_kept_accepts)
      (ab' (eG' ["Machine", "RawMachine"] (ad' (pv 0)) (bd' nu') C.at_kept_least)
      (ab' (eG' ["Machine", "RawMachine"] (ad' (pv 0)) (bd' nu') C.at_kept_field)
      (ab' (eG' ["Machine", "RawMachine"] (ad' (pv 0)) c5' C.at_kept_lots)
      (af' (eG' ["Machine", "RawMachine"] (ad' (pv 0)) c5' C.at_kept_more))))))))), h6' F⟩
theorem eo' (C : Ctx Wd.w K mg) : OgM Wd.P Wd.w K mg base 4 (He.ga K "Machine") "__init__" ["self", "letters", "table", "accepts"] (spM K M.f_Machine___init__) := by
  obtain ⟨fd, F⟩ := C.f_Machine___init__
  exact ⟨fd, okM F el' rfl rfl (fun cdv A outer s H E hr =>
    (ab' (bl' (sK' (jZ' (cl' (lj' (cb' (ah' (kb' C) (hr.mono (by walk_at "4")) rfl (takes_of rfl rfl rfl rfl) (aa' (ad' (pv 1)) (aa' (Dl' (v1' rfl C.c_SMALL) fun _ _ => zf' (by decide +kernel) (by decide +kernel)) ag')))))) (gK' (cl' (no' nL' AA' nL' AA' ae' (co' (a4' ⟨rfl, rfl⟩) dN' rfl (C.free_len) (by decide +kernel) (ad' (pv 1))) ae'))))) (af' lk') aJ')
      (ab' (bl' (cl' (lj' (cb' (ah' (lC' C) (hr.mono (by walk_at "4")) rfl (takes_of rfl rfl rfl rfl) (aa' (ad' (pv 2)) (aa' (ad' (pv 1)) ag')))))) (af' lk') aJ')
      (ab' (bl' (sK' (jZ' (cl' (lj' (cb' (ah' (eV' C) (hr.mono (by walk_at "4")) rfl (takes_of rfl rfl rfl rfl) (aa' (ad' (pv 3)) (aa' (co' (a4' ⟨rfl, rfl⟩) dN' rfl (C.free_len) (by decide +kernel) (ad' (pv 2))) ag')))))) (gK' (cl' (lj' (cb' (ah' (dC' C) (hr.mono (by walk_at "4")) rfl (takes_of rfl rfl rfl rfl) (aa' (ad' (pv 3)) ag')))))))) (af' lk') aJ')
      (af' (eh' (cb' (qx' (ad' (pv 0)) (dE' C) (hr.mono (by decide)) C.ml_Machine_keep (takes_of rfl rfl rfl rfl) (aa' (ad' (pv 1)) (aa' (ad' (pv 2)) (aa' (ad' (pv 3)) ag'))))))))))), fg' F⟩
theorem eW' (C : Ctx Wd.w K mg) : OgM Wd.P Wd.w K mg base 1 (He.ga K "Machine") "letters" ["self"] (spM K M.f_Machine_letters) := by
  obtain ⟨fd, F⟩ := C.f_Machine_letters
  exact ⟨fd, okM F eM' rfl rfl (fun cdv A outer s H E hr =>
    (af' (at' (bd' (bG' ["Machine", "RawMachine"] (ad' (pv 0)) C.at_kept_letters))))), fS' F⟩
theorem gl' (C : Ctx Wd.w K mg) : OgM Wd.P Wd.w K mg base 1 (He.ga K "Machine") "table" ["self"] (spM K M.f_Machine_table) := by
  obtain ⟨fd, F⟩ := C.f_Machine_table
  exact ⟨fd, okM F gj' rfl rfl (fun cdv A outer s H E hr =>
    (af' (at' (bd' (bG' ["Machine", "RawMachine"] (ad' (pv 0)) C.at_kept_table))))), hJ' F⟩
end
end S
namespace S
open PySem PySem.Spec PyProof.Rows L2
section
variable [Wd] {K : PySem.W.Frag} {mg : Str -> Option Value} {base : Heap}
theorem eX' (C : Ctx Wd.w K mg) : OgM Wd.P Wd.w K mg base 1 (He.ga K "Machine") "accepts" ["self"] (spM K M.f_Machine_accepts) := by
  obtain ⟨fd, F⟩ := C.f_Machine_accepts
  exact ⟨fd, okM F eN' rfl rfl (fun cdv A outer s H E hr =>
    (af' (at' (bd' (bG' ["Machine", "RawMachine"] (ad' (pv 0)) C.at_kept_accepts))))), fT' F⟩
theorem dk' (C : Ctx Wd.w K mg) : OgM Wd.P Wd.w K mg base 1 (He.ga K "Machine") "parts" ["self"] (spM K M.f_Machine_parts) := by
  obtain ⟨fd, F⟩ := C.f_Machine_parts
  exact ⟨fd, okM F gk' rfl rfl (fun cdv A outer s H E hr =>
    (af' (at' (bd' (f0' (aa' (bG' ["Machine", "RawMachine"] (ad' (pv 0)) C.at_kept_letters) (aa' (bG' ["Machine", "RawMachine"] (ad' (pv 0)) C.at_kept_table) (aa' (bG' ["Machine", "RawMachine"] (ad' (pv 0)) C.at_kept_accepts) ag')))))))), hK' F⟩
theorem fD' (C : Ctx Wd.w K mg) : OgM Wd.P Wd.w K mg base 2 (He.ga K "Machine") "__eq__" ["self", "other"] (spM K M.f_Machine___eq__) := by
  obtain ⟨fd, F⟩ := C.f_Machine___eq__
  exact ⟨fd, okM F fy' rfl rfl (fun cdv A outer s H E hr =>
    (af' (at' (bd' (qF' (uD' M.isT "Machine" C.is_Machine rfl (C.free_isinstance) (by decide +kernel) (ad' (pv 1)) (lB' rfl C.g_Machine)) (qB' (ig' (b4' hr.units) i2' (nomark _) (cb' (eH' (ad' (pv 0)) (dk' C) (hr.mono (by decide)) C.ml_Machine_parts (takes_of rfl rfl rfl rfl))) (cb' (eH' (ad' (pv 1)) (dk' C) (hr.mono (by decide)) C.ml_Machine_parts (takes_of rfl rfl rfl rfl)))))))))), gp' F⟩
theorem ce' (C : Ctx Wd.w K mg) : OgM Wd.P Wd.w K mg base 2 (He.ga K "RawMachine") "__init__" ["self", "letters", "table", "accepts"] (spM K M.f_RawMachine___init__) := by
  obtain ⟨fd, F⟩ := C.f_RawMachine___init__
  exact ⟨fd, okM F do' rfl rfl (fun cdv A outer s H E hr =>
    (af' (eh' (cb' (qx' (ad' (pv 0)) (dE' C) (hr.mono (by decide)) C.ml_Machine_keep (takes_of rfl rfl rfl rfl) (aa' (ad' (pv 1)) (aa' (ad' (pv 2)) (aa' (ad' (pv 3)) ag')))))))), dO' F⟩
theorem rf' (C : Ctx Wd.w K mg) : Og Wd.P Wd.w K mg base 1 "led" ["machine", "state", "word"] (spM K M.f_led) := by
  obtain ⟨fd, F⟩ := C.f_led
  exact ⟨fd, okM F qH' rfl rfl (fun cdv A outer s H E hr =>
    (ab' (bF' (passes_of rfl) rfl (bu' (ad' (pv 2))) (cm' 3 qH'.nd rfl (by walk_at "1") (by walk_at "2")) (af' (ai' (i := 1) qH'.nd rfl (by walk_at "1") (bd' (cx' ix_seq f7' (cx' ix_seq f7' (bG' ["Machine", "RawMachine"] (ad' (pv 0)) C.at_kept_table) (ad' (pv 1)) (fun _ _ => rfl)) (vK' PySem.F.slot_str_index PySem.F.type_str_index rm' wf' (bG' ["Machine", "RawMachine"] (ad' (pv 0)) C.at_kept_letters) (aa' (ad' (pv 3)) ag')) (fun _ _ => rfl))))))
      (af' (at' (qw' (pv 1)))))), CG' F, F.kp, C.g_led⟩
theorem rd' (C : Ctx Wd.w K mg) : Og Wd.P Wd.w K mg base 4 "says" ["machine", "word"] (spM K M.f_says) := by
  obtain ⟨fd, F⟩ := C.f_says
  exact ⟨fd, okM F vM' rfl rfl (fun cdv A outer s H E hr =>
    (ab' (eh' (cb' (ah' (da' C) (hr.mono (by walk_at "4")) rfl (takes_of rfl rfl rfl rfl) (aa' (ad' (pv 0)) (aa' (ad' (pv 1)) ag')))))
      (af' (at' (bd' (ig' f5' th' (by rfl) (cb' (ah' (rf' C) (hr.mono (by walk_at "4")) rfl (takes_of rfl rfl rfl rfl) (aa' (ad' (pv 0)) (aa' ae' (aa' (ad' (pv 1)) ag'))))) (bG' ["Machine", "RawMachine"] (ad' (pv 0)) C.at_kept_accepts))))))), Ad' F, F.kp, C.g_says⟩
theorem oE' (C : Ctx Wd.w K mg) : Og Wd.P Wd.w K mg base 1 "reached" ["machine"] (spM K M.f_reached) := by
  obtain ⟨fd, F⟩ := C.f_reached
  exact ⟨fd, okM F cB' rfl rfl (fun cdv A outer s H E hr =>
    (ab' (ai' (i := 1) cB'.nd rfl (by walk_at "1") (d6' (aa' ae' ag')))
      (ab' (ai' (i := 2) cB'.nd rfl (by walk_at "1") (qy' ae' cJ'))
      (ab' (ai' (i := 3) cB'.nd rfl (by walk_at "1") (bd' ae'))
      (ab' (iM' M.xx' (passes_of rfl) (aQ' ka' yK' (nomark _) (ad' (pv 3)) (c6' ⟨rfl, rfl⟩ rfl (C.free_len) (by decide +kernel) (pv 1))) (ab' (bF' (passes_of rfl) rfl (bu' (cx' ix_seq f7' (bG' ["Machine", "RawMachine"] (ad' (pv 0)) C.at_kept_table) (qD' (pv 1) (ad' (pv 3)) (fun _ _ => rfl)) (fun _ _ => rfl))) (cm' 4 cB'.nd rfl (by walk_at "1") (by walk_at "2")) (af' (bl' (iL' ⟨rfl, rfl⟩ hr.units (ad' (pv 4)) (pv 2)) (ab' (fZ' ⟨rfl, rfl⟩ hr.units cJ' (pv 2) (ad' (pv 4)))
      (af' (dt' (pv 1) (bd' (ad' (pv 4)))))) aJ')))
      (af' (x5' (i := 3) cB'.nd rfl (by walk_at "1") ae' ip_add Br'))))
      (af' (at' (qw' (pv 1))))))))), sb' F, F.kp, C.g_reached⟩
theorem g5' (C : Ctx Wd.w K mg) : Og Wd.P Wd.w K mg base 1 "numbered" ["keys"] (spM K M.f_numbered) := by
  obtain ⟨fd, F⟩ := C.f_numbered
  exact ⟨fd, okM F cD' rfl rfl (fun cdv A outer s H E hr =>
    (ab' (ai' (i := 1) cD'.nd rfl (by walk_at "1") (qz' ⟨rfl, rfl⟩))
      (ab' (ai' (i := 2) cD'.nd rfl (by walk_at "1") c5')
      (ab' (bF' (passes_of rfl) rfl (sR' (ad' (pv 0))) (yb' (n := 2) rfl rfl rfl rfl (b7' rfl (cm' 3 cD'.nd rfl (by walk_at "1") (by walk_at "2")) (b7' rfl (cm' 4 cD'.nd rfl (by walk_at "1") (by walk_at "2")) gR'))) (ab' (bl' (iL' ⟨rfl, rfl⟩ hr.units (ad' (pv 4)) (pv 1)) (af' (fZ' ⟨rfl, rfl⟩ hr.units (c6' ⟨rfl, rfl⟩ rfl (C.free_len) (by decide +kernel) (pv 1)) (pv 1) (ad' (pv 4)))) aJ')
      (af' (fZ' ⟨rfl, rfl⟩ hr.units (cu' ⟨rfl, rfl⟩ hr.units (pv 1) (ad' (pv 4)) (fun _ _ => rfl)) (pv 2) (ad' (pv 3))))))
      (af' (at' (qw' (pv 2)))))))), oV' F, F.kp, C.g_numbered⟩
theorem g6' (C : Ctx Wd.w K mg) : Og Wd.P Wd.w K mg base 2 "alike_states" ["machine", "states"] (spM K M.f_alike_states) := by
  obtain ⟨fd, F⟩ := C.f_alike_states
  exact ⟨fd, okM F aB' rfl rfl (fun cdv A outer s H E hr =>
    (ab' (ai' (i := 2) aB'.nd rfl (by walk_at "1") (ah' (g5' C) (hr.mono (by walk_at "4")) rfl (takes_of rfl rfl rfl rfl) (aa' (cb' (x9' (own := [("state", 5)]) rfl aB'.nd (bu' (ad' (pv 1))) (blkOk_by (own := [("state", 5)]) (N := cV') (sc := defScope aD') (by decide +kernel)) rfl (fun _ _ _ _ _ => (cm' 5 aB'.nd rfl (by walk_at "1") (by walk_at "2"))) (fun _ _ _ _ _ => bx') (fun _ _ _ _ _ => (ad' (pv 5))) (fun _ _ _ _ _ => (ig' f5' th' (by rfl) (ad' (pv 5)) (bG' ["Machine", "RawMachine"] (ad' (pv 0)) C.at_kept_accepts))))) ag')))
      (ab' (ai' (i := 3) aB'.nd rfl (by walk_at "1") (bd' ae'))
      (ab' (iM' M.xx' (passes_of rfl) (aQ' nM' AB' (nomark _) (qC' rfl rfl (C.free_max) (by decide +kernel) (ad' (pv 2))) (ad' (pv 3))) (ab' (ai' (i := 3) aB'.nd rfl (by walk_at "1") (bd' (aI' aH' bP' (qC' rfl rfl (C.free_max) (by decide +kernel) (ad' (pv 2))) ae')))
      (ab' (ai' (i := 4) aB'.nd rfl (by walk_at "1") c5')
      (ab' (bF' (passes_of rfl) rfl (bu' (ad' (pv 1))) (cm' 5 aB'.nd rfl (by walk_at "1") (by walk_at "2")) (af' (fZ' ⟨rfl, rfl⟩ hr.units (f0' (aa' (cu' ⟨rfl, rfl⟩ hr.units (pv 2) (ad' (pv 5)) (fun _ _ => rfl)) (aa' (bR' (aC' rfl) bO' rfl (C.free_tuple) (by decide +kernel) (fx' (own := [("step", 6)]) rfl aB'.nd (bu' (cx' ix_seq f7' (bG' ["Machine", "RawMachine"] (ad' (pv 0)) C.at_kept_table) (ad' (pv 5)) (fun _ _ => rfl))) (blkOk_by (own := [("step", 6)]) (N := cV') (sc := defScope aD') (by decide +kernel)) rfl (fun _ _ _ _ _ => (cm' 6 aB'.nd rfl (by walk_at "1") (by walk_at "2"))) (fun _ _ _ _ _ => bx') (fun _ _ _ _ _ => (cu' ⟨rfl, rfl⟩ hr.units (pv 2) (ad' (pv 6)) (fun _ _ => rfl))))) ag'))) (pv 4) (ad' (pv 5)))))
      (af' (ai' (i := 2) aB'.nd rfl (by walk_at "1") (ah' (g5' C) (hr.mono (by walk_at "4")) rfl (takes_of rfl rfl rfl rfl) (aa' (ad' (pv 4)) ag'))))))))
      (af' (at' (qw' (pv 2)))))))), h0' F, F.kp, C.g_alike_states⟩
theorem tg' (C : Ctx Wd.w K mg) : Og Wd.P Wd.w K mg base 4 "least" ["machine"] (spM K M.f_least) := by
  obtain ⟨fd, F⟩ := C.f_least
  exact ⟨fd, okM F bV' rfl rfl (fun cdv A outer s H E hr =>
    (ab' (bl' (aQ' v5' Dx' (nomark _) (bG' ["Machine", "RawMachine"] (ad' (pv 0)) C.at_kept_least) nu') (ab' (ai' (i := 1) bV'.nd rfl (by walk_at "1") (ah' (oE' C) (hr.mono (by walk_at "4")) rfl (takes_of rfl rfl rfl rfl) (aa' (ad' (pv 0)) ag')))
      (ab' (ai' (i := 2) bV'.nd rfl (by walk_at "1") (ah' (g6' C) (hr.mono (by walk_at "4")) rfl (takes_of rfl rfl rfl rfl) (aa' (ad' (pv 0)) (aa' (ad' (pv 1)) ag'))))
      (ab' (ai' (i := 3) bV'.nd rfl (by walk_at "1") c5')
      (ab' (bF' (passes_of rfl) rfl (bu' (ad' (pv 1))) (cm' 4 bV'.nd rfl (by walk_at "1") (by walk_at "2")) (af' (eh' (sU' (pv 3) (cu' ⟨rfl, rfl⟩ hr.units (pv 2) (ad' (pv 4)) (fun _ _ => rfl)) (ad' (pv 4)) ⟨rfl, rfl, rfl, rfl⟩))))
      (ab' (ai' (i := 5) bV'.nd rfl (by walk_at "1") (d6' ag'))
      (ab' (bF' (passes_of rfl) rfl (bu' (co' (iB' rfl) r8' rfl (C.free_sorted) (by decide +kernel) (ad' (pv 3)))) (cm' 6 bV'.nd rfl (by walk_at "1") (by walk_at "2")) (af' (dt' (pv 5) (bd' (bR' (aC' rfl) bO' rfl (C.free_tuple) (by decide +kernel) (fx' (own := [("step", 8)]) rfl bV'.nd (bu' (cx' ix_seq f7' (bG' ["Machine", "RawMachine"] (ad' (pv 0)) C.at_kept_table) (cu' ⟨rfl, rfl⟩ hr.units (pv 3) (ad' (pv 6)) (fun _ _ => rfl)) (fun _ _ => rfl))) (blkOk_by (own := [("step", 8)]) (N := mg') (sc := defScope cp') (by decide +kernel)) rfl (fun _ _ _ _ _ => (cm' 8 bV'.nd rfl (by walk_at "1") (by walk_at "2"))) (fun _ _ _ _ _ => bx') (fun _ _ _ _ _ => (cu' ⟨rfl, rfl⟩ hr.units (pv 2) (ad' (pv 8)) (fun _ _ => rfl)))))))))
      (ab' (ai' (i := 7) bV'.nd rfl (by walk_at "1") (bd' (bR' (aC' rfl) bO' rfl (C.free_tuple) (by decide +kernel) (fx' (own := [("one", 6)]) rfl bV'.nd (bu' (co' (iB' rfl) r8' rfl (C.free_sorted) (by decide +kernel) (ad' (pv 3)))) (blkOk_by (own := [("one", 6)]) (N := mg') (sc := defScope cp') (by decide +kernel)) rfl (fun _ _ _ _ _ => (cm' 6 bV'.nd rfl (by walk_at "1") (by walk_at "2"))) (fun _ _ _ _ _ => (dR' (aQ' f5' th' (by rfl) (cu' ⟨rfl, rfl⟩ hr.units (pv 3) (ad' (pv 6)) (fun _ _ => rfl)) (bG' ["Machine", "RawMachine"] (ad' (pv 0)) C.at_kept_accepts)))) (fun _ _ _ _ _ => (ad' (pv 6)))))))
      (ab' (eG' ["Machine", "RawMachine"] (ad' (pv 0)) (lp' (ce' C) (hr.mono (by decide)) rfl C.mk_RawMachine C.g_RawMachine (takes_of rfl rfl rfl rfl) (aa' (bG' ["Machine", "RawMachine"] (ad' (pv 0)) C.at_kept_letters) (aa' (bR' (aC' rfl) bO' rfl (C.free_tuple) (by decide +kernel) (ad' (pv 5))) (aa' (ad' (pv 7)) ag')))) C.at_kept_least)
      (af' (eG' ["Machine", "RawMachine"] (bG' ["Machine", "RawMachine"] (ad' (pv 0)) C.at_kept_least) (bd' (bG' ["Machine", "RawMachine"] (ad' (pv 0)) C.at_kept_least)) C.at_kept_least)))))))))) aJ')
      (af' (at' (bd' (bG' ["Machine", "RawMachine"] (ad' (pv 0)) C.at_kept_least)))))), xf' F, F.kp, C.g_least⟩
theorem eU' (C : Ctx Wd.w K mg) : Og Wd.P Wd.w K mg base 5 "around" ["machine", "ahead", "behind"] (spM K M.f_around) := by
  obtain ⟨fd, F⟩ := C.f_around
  exact ⟨fd, okM F aZ' rfl rfl (fun cdv A outer s H E hr =>
    (ab' (eh' (cb' (ah' (da' C) (hr.mono (by walk_at "4")) rfl (takes_of rfl rfl rfl rfl) (aa' (ad' (pv 0)) (aa' (ad' (pv 1)) ag')))))
      (ab' (eh' (cb' (ah' (da' C) (hr.mono (by walk_at "4")) rfl (takes_of rfl rfl rfl rfl) (aa' (ad' (pv 0)) (aa' (ad' (pv 2)) ag')))))
      (ab' (ai' (i := 3) aZ'.nd rfl (by walk_at "1") (bd' (co' (a4' ⟨rfl, rfl⟩) dN' rfl (C.free_len) (by decide +kernel) (bG' ["Machine", "RawMachine"] (ad' (pv 0)) C.at_kept_table))))
      (ab' (ai' (i := 4) aZ'.nd rfl (by walk_at "1") (ah' (rf' C) (hr.mono (by walk_at "4")) rfl (takes_of rfl rfl rfl rfl) (aa' (ad' (pv 0)) (aa' ae' (aa' (ad' (pv 1)) ag')))))
      (ab' (ai' (i := 5) aZ'.nd rfl (by walk_at "1") (bd' (aI' aH' bP' (nv' (aa' (ad' (pv 4)) ag')) (fx' (own := [("state", 9)]) rfl aZ'.nd (bh' rfl (C.free_range) (ad' (pv 3))) (blkOk_by (own := [("state", 9)]) (N := dZ') (sc := defScope bI') (by decide +kernel)) rfl (fun _ _ _ _ _ => (cm' 9 aZ'.nd rfl (by walk_at "1") (by walk_at "2"))) (fun _ _ _ _ _ => (dR' (aQ' (nK' hr.units) BC' (nomark _) (ad' (pv 9)) (ad' (pv 4))))) (fun _ _ _ _ _ => (ad' (pv 9)))))))
      (ab' (ai' (i := 6) aZ'.nd rfl (by walk_at "1") (x9' (own := [("index", 10), ("state", 9)]) rfl aZ'.nd (vH' rfl (C.free_enumerate) (ad' (pv 5))) (blkOk_by (own := [("index", 10), ("state", 9)]) (N := dZ') (sc := defScope bI') (by decide +kernel)) rfl (fun _ _ _ _ _ => (yb' (n := 2) rfl rfl rfl rfl (b7' rfl (cm' 10 aZ'.nd rfl (by walk_at "1") (by walk_at "2")) (b7' rfl (cm' 9 aZ'.nd rfl (by walk_at "1") (by walk_at "2")) gR')))) (fun _ _ _ _ _ => bx') (fun _ _ _ _ _ => (ad' (pv 9))) (fun _ _ _ _ _ => (ad' (pv 10)))))
      (ab' (ai' (i := 7) aZ'.nd rfl (by walk_at "1") (bd' (bR' (aC' rfl) bO' rfl (C.free_tuple) (by decide +kernel) (fx' (own := [("state", 9)]) rfl aZ'.nd (bu' (ad' (pv 5))) (blkOk_by (own := [("state", 9)]) (N := dZ') (sc := defScope bI') (by decide +kernel)) rfl (fun _ _ _ _ _ => (cm' 9 aZ'.nd rfl (by walk_at "1") (by walk_at "2"))) (fun _ _ _ _ _ => bx') (fun _ _ _ _ _ => (bR' (aC' rfl) bO' rfl (C.free_tuple) (by decide +kernel) (fx' (own := [("to", 11)]) rfl aZ'.nd (bu' (cx' ix_seq f7' (bG' ["Machine", "RawMachine"] (ad' (pv 0)) C.at_kept_table) (ad' (pv 9)) (fun _ _ => rfl))) (blkOk_by (own := [("to", 11)]) (N := dZ') (by kernel_rfl)) rfl (fun _ _ _ _ _ => (cm' 11 aZ'.nd rfl (by walk_at "1") (by walk_at "2"))) (fun _ _ _ _ _ => bx') (fun _ _ _ _ _ => (cu' ⟨rfl, rfl⟩ hr.units (pv 6) (ad' (pv 11)) (fun _ _ => rfl))))))))))
      (ab' (eF' (i := 8) (own := [("state", 9)]) rfl aZ'.nd rfl rfl (sw_true (by rfl) (by rfl) (by rfl) (by decide +kernel)) (bh' rfl (C.free_range) (ad' (pv 3))) (blkOk_by (own := [("state", 9)]) (N := dZ') (sc := defScope bI') (by decide +kernel)) rfl (fun _ _ _ _ _ => (cm' 9 aZ'.nd rfl (by walk_at "1") (by walk_at "2"))) (fun _ _ _ _ _ => (dR' (aQ' f5' th' (by rfl) (cb' (ah' (rf' C) (hr.mono (by walk_at "4")) rfl gv' (aa' (ad' (pv 0)) (aa' (ad' (pv 9)) (aa' (ad' (pv 2)) ag'))))) (bG' ["Machine", "RawMachine"] (ad' (pv 0)) C.at_kept_accepts)))) (fun _ _ _ _ _ => (cu' ⟨rfl, rfl⟩ hr.units (pv 6) (ad' (pv 9)) (fun _ _ => rfl))))
      (af' (at' (ah' (tg' C) (hr.mono (by walk_at "4")) rfl (takes_of rfl rfl rfl rfl) (aa' (cb' (lp' (ce' C) (hr.mono (by decide)) rfl C.mk_RawMachine C.g_RawMachine (takes_of rfl rfl rfl rfl) (aa' (bG' ["Machine", "RawMachine"] (ad' (pv 0)) C.at_kept_letters) (aa' (ad' (pv 7)) (aa' (bR' (aC' rfl) bO' rfl (C.free_tuple) (by decide +kernel) (co' (iA' rfl) oh' rfl (C.free_sorted) (by decide +kernel) (ad' (pv 8)))) ag'))))) ag'))))))))))))), t3' F, F.kp, C.g_around⟩
theorem kc' (C : Ctx Wd.w K mg) : Og Wd.P Wd.w K mg base 1 "_law_hand" ["_law_script"] (spM K M.f__law_hand) := by
  obtain ⟨fd, F⟩ := C.f__law_hand
  exact ⟨fd, okM F dv' rfl rfl (fun cdv A outer s H E hr =>
    (ab' (eF' (i := 1) (own := [("_law_cell", 2)]) rfl dv'.nd rfl rfl (sw_true (by rfl) (by rfl) (by rfl) (by decide +kernel)) (bu' (lq' vG' wb' (ad' (pv 0)) lm' (ll' ae'))) (blkOk_by (own := [("_law_cell", 2)]) (N := hP') (sc := defScope bi') (by decide +kernel)) rfl (fun _ _ _ _ _ => (cm' 2 dv'.nd rfl (by walk_at "1") (by walk_at "2"))) (fun _ _ _ _ _ => bx') (fun _ _ _ _ _ => (co' r7' CD' rfl (C.free_abs) (by decide +kernel) (bR' bk' ex' rfl (C.free_int) (by decide +kernel) (ad' (pv 2))))))
      (af' (at' (x7' (aa' (ad' (pv 1)) (aa' ae' (aa' ae' (aa' (aI' aH' bP' ae' (co' (a4' ⟨rfl, rfl⟩) dN' rfl (C.free_len) (by decide +kernel) (ad' (pv 1)))) (aa' ae' ag')))))))))), me' F, F.kp, C.g__law_hand⟩
end
end S
namespace S
open PySem PySem.Spec PyProof.Rows L2
section
variable [Wd] {K : PySem.W.Frag} {mg : Str -> Option Value} {base : Heap}
theorem al' (C : Ctx Wd.w K mg) : Og Wd.P Wd.w K mg base 1 "_law_draw" ["_law_hand_here", "_law_many"] (spM K M.f__law_draw) := by
  obtain ⟨fd, F⟩ := C.f__law_draw
  exact ⟨fd, okM F b3' rfl rfl (fun cdv A outer s H E hr =>
    (ab' (bl' (sK' (uz' (aQ' (b4' hr.units) i2' (nomark _) (cX' (ad' (pv 0)) ae' (fun _ _ => rfl)) ae') (qr' (aQ' ka' yK' (nomark _) (cX' (ad' (pv 0)) ae' (fun _ _ => rfl)) (co' (a4' ⟨rfl, rfl⟩) dN' rfl (C.free_len) (by decide +kernel) (cX' (ad' (pv 0)) ae' (fun _ _ => rfl))))))) (ab' (ai' (i := 2) b3'.nd rfl (by walk_at "1") (bd' (cx' ix_seq f7' (cX' (ad' (pv 0)) ae' (fun _ _ => rfl)) (cX' (ad' (pv 0)) ae' (fun _ _ => rfl)) (fun _ _ => rfl))))
      (ab' (gP' (aI' aH' bP' (cX' (ad' (pv 0)) ae' (fun _ _ => rfl)) ae') (ad' (pv 0)) ae')
      (ab' (gP' (aI' op_mod fE' (bR' bk' ex' rfl (C.free_int) (by decide +kernel) (aI' aH' bP' (aI' aH' bP' (aI' c9' i1' (cX' (ad' (pv 0)) ae' (fun _ _ => rfl)) ae') (ad' (pv 2))) ae')) ae') (ad' (pv 0)) ae')
      (af' (bl' (aQ' nM' AB' (nomark _) (ad' (pv 2)) (aI' op_pow Bz' ae' ae')) (af' (gP' (ad' (pv 2)) (ad' (pv 0)) ae')) aJ'))))) aJ')
      (ab' (bl' (aQ' rc' BD' (nomark _) (cX' (ad' (pv 0)) ae' (fun _ _ => rfl)) ae') (ab' (ai' (i := 3) b3'.nd rfl (by walk_at "1") (bd' (aI' op_mod fE' (bR' bk' ex' rfl (C.free_int) (by decide +kernel) (cX' (ad' (pv 0)) ae' (fun _ _ => rfl))) (ad' (pv 1)))))
      (ab' (gP' (aI' op_fdivW kd' (cX' (ad' (pv 0)) ae' (fun _ _ => rfl)) (ad' (pv 1))) (ad' (pv 0)) ae')
      (af' (at' (qw' (pv 3)))))) aJ')
      (ab' (gP' (aI' aH' bP' (cX' (ad' (pv 0)) ae' (fun _ _ => rfl)) ae') (ad' (pv 0)) ae')
      (ab' (ai' (i := 4) b3'.nd rfl (by walk_at "1") (bd' (aI' op_mod fE' (bR' bk' ex' rfl (C.free_int) (by decide +kernel) (aI' c9' i1' (bR' bk' ex' rfl (C.free_int) (by decide +kernel) (aI' aH' bP' (cX' (ad' (pv 0)) ae' (fun _ _ => rfl)) (aI' c9' i1' ae' (cX' (ad' (pv 0)) ae' (fun _ _ => rfl))))) ae')) ae')))
      (ab' (ai' (i := 4) b3'.nd rfl (by walk_at "1") (bd' (aI' op_mod fE' (bR' bk' ex' rfl (C.free_int) (by decide +kernel) (aI' c9' i1' (ad' (pv 4)) (aI' aH' bP' (aI' op_fdivW kd' (ad' (pv 4)) ae') ae'))) ae')))
      (ab' (ai' (i := 4) b3'.nd rfl (by walk_at "1") (bd' (aI' op_mod fE' (bR' bk' ex' rfl (C.free_int) (by decide +kernel) (aI' c9' i1' (ad' (pv 4)) (aI' aH' bP' (aI' op_fdivW kd' (ad' (pv 4)) ae') ae'))) ae')))
      (af' (at' (bd' (aI' op_mod fE' (bR' bk' ex' rfl (C.free_int) (by decide +kernel) (aI' op_fdivW kd' (ad' (pv 4)) ae')) (ad' (pv 1))))))))))))), mf' F, F.kp, C.g__law_draw⟩
theorem dj' (C : Ctx Wd.w K mg) : Og Wd.P Wd.w K mg base 2 "_law_shuffled" ["_law_hand_here", "_law_things"] (spM K M.f__law_shuffled) := by
  obtain ⟨fd, F⟩ := C.f__law_shuffled
  exact ⟨fd, okM F bW' rfl rfl (fun cdv A outer s H E hr =>
    (ab' (ai' (i := 2) bW'.nd rfl (by walk_at "1") (vF' (iD' rfl) to' rfl (C.free_list) (by decide +kernel) (ad' (pv 1))))
      (ab' (ai' (i := 3) bW'.nd rfl (by walk_at "1") (d6' ag'))
      (ab' (bF' (passes_of rfl) rfl (bh' rfl (C.free_range) (co' (a4' ⟨rfl, rfl⟩) dN' rfl (C.free_len) (by decide +kernel) (ad' (pv 1)))) (cm' 4 bW'.nd rfl (by walk_at "1") (by walk_at "2")) (af' (dt' (pv 3) (bd' (sT' (pv 2) (cb' (ah' (al' C) (hr.mono (by walk_at "4")) rfl (takes_of rfl rfl rfl rfl) (aa' (ad' (pv 0)) (aa' (c6' ⟨rfl, rfl⟩ rfl (C.free_len) (by decide +kernel) (pv 2)) ag')))))))))
      (af' (at' (qw' (pv 3)))))))), hI' F, F.kp, C.g__law_shuffled⟩
theorem dD' (C : Ctx Wd.w K mg) : Og Wd.P Wd.w K mg base 3 "_law_rows" ["_law_hand_here", "_law_kind", "_law_size", "_law_many"] (spM K M.f__law_rows) := by
  obtain ⟨fd, F⟩ := C.f__law_rows
  exact ⟨fd, okM F an' rfl rfl (fun cdv A outer s H E hr =>
    (ab' (ai' (i := 4) an'.nd rfl (by walk_at "1") (d6' ag'))
      (ab' (eF' (i := 5) (own := [("_law_letter", 9)]) rfl an'.nd rfl rfl (sw_true (by rfl) (by rfl) (by rfl) (by decide +kernel)) (bh' rfl (C.free_range) (ad' (pv 3))) (blkOk_by (own := [("_law_letter", 9)]) (N := eA') (sc := defScope a8') (by decide +kernel)) rfl (fun _ _ _ _ _ => (cm' 9 an'.nd rfl (by walk_at "1") (by walk_at "2"))) (fun _ _ _ _ _ => bx') (fun _ _ _ _ _ => (cb' (ah' (al' C) (hr.mono (by walk_at "4")) rfl gv' (aa' (ad' (pv 0)) (aa' (ad' (pv 2)) ag'))))))
      (ab' (eF' (i := 6) (own := [("_law_letter", 9)]) rfl an'.nd rfl rfl (sw_true (by rfl) (by rfl) (by rfl) (by decide +kernel)) (bh' rfl (C.free_range) (ad' (pv 3))) (blkOk_by (own := [("_law_letter", 9)]) (N := eA') (sc := defScope a8') (by decide +kernel)) rfl (fun _ _ _ _ _ => (cm' 9 an'.nd rfl (by walk_at "1") (by walk_at "2"))) (fun _ _ _ _ _ => bx') (fun _ _ _ _ _ => (cb' (ah' (dj' C) (hr.mono (by walk_at "4")) rfl gv' (aa' (ad' (pv 0)) (aa' (cb' (ow' rfl rfl (C.free_list) rfl (C.free_range) (ad' (pv 2)))) ag'))))))
      (ab' (bF' (passes_of rfl) rfl (bh' rfl (C.free_range) (ad' (pv 2))) (cm' 7 an'.nd rfl (by walk_at "1") (by walk_at "2")) (ab' (ai' (i := 8) an'.nd rfl (by walk_at "1") (d6' ag'))
      (ab' (bF' (passes_of rfl) rfl (bh' rfl (C.free_range) (ad' (pv 3))) (cm' 9 an'.nd rfl (by walk_at "1") (by walk_at "2")) (ab' (ai' (i := 10) an'.nd rfl (by walk_at "1") (ah' (al' C) (hr.mono (by walk_at "4")) rfl (takes_of rfl rfl rfl rfl) (aa' (ad' (pv 0)) (aa' (ad' (pv 2)) ag'))))
      (ab' (bl' (aQ' (b4' hr.units) i2' (nomark _) (ad' (pv 1)) ae') (af' (ai' (i := 10) an'.nd rfl (by walk_at "1") (bd' (aI' op_mod fE' (bR' bk' ex' rfl (C.free_int) (by decide +kernel) (aI' aH' bP' (ad' (pv 7)) (cx' ix_seq f7' (ad' (pv 5)) (ad' (pv 9)) (fun _ _ => rfl)))) (ad' (pv 2)))))) aJ')
      (ab' (bl' (aQ' (b4' hr.units) i2' (nomark _) (ad' (pv 1)) ae') (af' (ai' (i := 10) an'.nd rfl (by walk_at "1") (bd' (qE' (fP' rfl) r9' rfl (C.free_min) (by decide +kernel) (aI' op_sub rh' (ad' (pv 2)) ae') (aI' aH' bP' (ad' (pv 7)) (cx' ix_seq f7' (ad' (pv 5)) (ad' (pv 9)) (fun _ _ => rfl))))))) aJ')
      (ab' (bl' (aQ' (b4' hr.units) i2' (nomark _) (ad' (pv 1)) ae') (ab' (ai' (i := 10) an'.nd rfl (by walk_at "1") (bd' (ad' (pv 7))))
      (af' (bl' (aQ' (b4' hr.units) i2' (nomark _) (ad' (pv 7)) ae') (af' (ai' (i := 10) an'.nd rfl (by walk_at "1") (bd' (aI' op_mod fE' (bR' bk' ex' rfl (C.free_int) (by decide +kernel) (aI' aH' bP' ae' (ad' (pv 9)))) (ad' (pv 2)))))) aJ'))) aJ')
      (ab' (bl' (aQ' (b4' hr.units) i2' (nomark _) (ad' (pv 1)) ae') (af' (ai' (i := 10) an'.nd rfl (by walk_at "1") (bd' (aI' op_mod fE' (bR' bk' ex' rfl (C.free_int) (by decide +kernel) (aI' aH' bP' ae' (ad' (pv 9)))) (ad' (pv 2)))))) aJ')
      (ab' (bl' (aQ' (b4' hr.units) i2' (nomark _) (ad' (pv 1)) ae') (af' (ai' (i := 10) an'.nd rfl (by walk_at "1") (bd' (qE' (fP' rfl) r9' rfl (C.free_min) (by decide +kernel) (aI' op_sub rh' (ad' (pv 2)) ae') (aI' aH' bP' (ad' (pv 7)) (bR' bk' ex' rfl (C.free_int) (by decide +kernel) (ig' (b4' hr.units) i2' (nomark _) (aI' op_mod fE' (ad' (pv 7)) (ad' (pv 3))) (ad' (pv 9))))))))) aJ')
      (ab' (bl' (aQ' (b4' hr.units) i2' (nomark _) (ad' (pv 1)) ae') (ab' (ai' (i := 10) an'.nd rfl (by walk_at "1") (bd' (aI' op_sub rh' (ad' (pv 2)) ae')))
      (af' (bl' (sK' (uz' (aQ' ka' yK' (nomark _) (ad' (pv 7)) (aI' op_sub rh' (ad' (pv 2)) ae')) (qr' (aQ' (b4' hr.units) i2' (nomark _) (aI' op_mod fE' (ad' (pv 7)) (ad' (pv 3))) (ad' (pv 9)))))) (af' (ai' (i := 10) an'.nd rfl (by walk_at "1") (bd' (aI' op_mod fE' (bR' bk' ex' rfl (C.free_int) (by decide +kernel) (aI' aH' bP' (ad' (pv 7)) ae')) (aI' op_sub rh' (ad' (pv 2)) ae'))))) aJ'))) aJ')
      (ab' (bl' (aQ' (b4' hr.units) i2' (nomark _) (ad' (pv 1)) ae') (af' (ai' (i := 10) an'.nd rfl (by walk_at "1") (bd' (cx' ix_seq f7' (cx' ix_seq f7' (ad' (pv 6)) (ad' (pv 9)) (fun _ _ => rfl)) (ad' (pv 7)) (fun _ _ => rfl))))) aJ')
      (af' (dt' (pv 8) (bd' (ad' (pv 10))))))))))))))
      (af' (dt' (pv 4) (bd' (bR' (aC' rfl) bO' rfl (C.free_tuple) (by decide +kernel) (ad' (pv 8)))))))))
      (af' (at' (bd' (bR' (aC' rfl) bO' rfl (C.free_tuple) (by decide +kernel) (ad' (pv 4))))))))))), md' F, F.kp, C.g__law_rows⟩
theorem iY' (C : Ctx Wd.w K mg) : Og Wd.P Wd.w K mg base 4 "_law_woven" ["_law_hand_here", "_law_many"] (spM K M.f__law_woven) := by
  obtain ⟨fd, F⟩ := C.f__law_woven
  exact ⟨fd, okM F aY' rfl rfl (fun cdv A outer s H E hr =>
    (ab' (ai' (i := 2) aY'.nd rfl (by walk_at "1") (ah' (dD' C) (hr.mono (by walk_at "4")) rfl (takes_of rfl rfl rfl rfl) (aa' (ad' (pv 0)) (aa' (aI' aH' bP' ae' (cb' (ah' (al' C) (hr.mono (by walk_at "4")) rfl (takes_of rfl rfl rfl rfl) (aa' (ad' (pv 0)) (aa' ae' ag'))))) (aa' ae' (aa' (ad' (pv 1)) ag'))))))
      (ab' (ai' (i := 3) aY'.nd rfl (by walk_at "1") (bd' (aI' aH' bP' ae' (cb' (ah' (al' C) (hr.mono (by walk_at "4")) rfl (takes_of rfl rfl rfl rfl) (aa' (ad' (pv 0)) (aa' ae' ag')))))))
      (ab' (ai' (i := 4) aY'.nd rfl (by walk_at "1") (ah' (dD' C) (hr.mono (by walk_at "4")) rfl (takes_of rfl rfl rfl rfl) (aa' (ad' (pv 0)) (aa' (aI' aH' bP' ae' (cb' (ah' (al' C) (hr.mono (by walk_at "4")) rfl (takes_of rfl rfl rfl rfl) (aa' (ad' (pv 0)) (aa' ae' ag'))))) (aa' (ad' (pv 3)) (aa' (ad' (pv 1)) ag'))))))
      (ab' (ai' (i := 5) aY'.nd rfl (by walk_at "1") (d6' ag'))
      (ab' (bF' (passes_of rfl) rfl (bh' rfl (C.free_range) (aI' c9' i1' ae' (ad' (pv 3)))) (cm' 6 aY'.nd rfl (by walk_at "1") (by walk_at "2")) (ab' (ai' (i := 7) aY'.nd rfl (by walk_at "1") (bd' (cx' ix_seq f7' (ad' (pv 2)) (aI' op_fdivW kd' (ad' (pv 6)) (ad' (pv 3))) (fun _ _ => rfl))))
      (ab' (ai' (i := 8) aY'.nd rfl (by walk_at "1") (bd' (cx' ix_seq f7' (ad' (pv 4)) (aI' op_mod fE' (bR' bk' ex' rfl (C.free_int) (by decide +kernel) (ad' (pv 6))) (ad' (pv 3))) (fun _ _ => rfl))))
      (af' (dt' (pv 5) (bd' (bR' (aC' rfl) bO' rfl (C.free_tuple) (by decide +kernel) (fx' (own := [("_law_k", 9)]) rfl aY'.nd (bh' rfl (C.free_range) (ad' (pv 1))) (blkOk_by (own := [("_law_k", 9)]) (N := gg') (sc := defScope a0') (by decide +kernel)) rfl (fun _ _ _ _ _ => (cm' 9 aY'.nd rfl (by walk_at "1") (by walk_at "2"))) (fun _ _ _ _ _ => bx') (fun _ _ _ _ _ => (aI' aH' bP' (aI' c9' i1' (cx' ix_seq f7' (ad' (pv 7)) (ad' (pv 9)) (fun _ _ => rfl)) (ad' (pv 3))) (cx' ix_seq f7' (ad' (pv 8)) (ad' (pv 9)) (fun _ _ => rfl))))))))))))
      (af' (at' (bd' (bR' (aC' rfl) bO' rfl (C.free_tuple) (by decide +kernel) (ad' (pv 5)))))))))))), k5' F, F.kp, C.g__law_woven⟩
theorem iZ' (C : Ctx Wd.w K mg) : Og Wd.P Wd.w K mg base 5 "_law_parts" ["_law_hand_here", "_law_most", "_law_states"] (spM K M.f__law_parts) := by
  obtain ⟨fd, F⟩ := C.f__law_parts
  exact ⟨fd, okM F aG' rfl rfl (fun cdv A outer s H E hr =>
    (ab' (ai' (i := 3) aG'.nd rfl (by walk_at "1") (ah' (al' C) (hr.mono (by walk_at "4")) rfl (takes_of rfl rfl rfl rfl) (aa' (ad' (pv 0)) (aa' ae' ag'))))
      (ab' (ai' (i := 4) aG'.nd rfl (by walk_at "1") (bd' (aI' aH' bP' ae' (cb' (ah' (al' C) (hr.mono (by walk_at "4")) rfl (takes_of rfl rfl rfl rfl) (aa' (ad' (pv 0)) (aa' (ad' (pv 1)) ag')))))))
      (ab' (ai' (i := 5) aG'.nd rfl (by walk_at "1") (bd' (aI' aH' bP' ae' (cb' (ah' (al' C) (hr.mono (by walk_at "4")) rfl (takes_of rfl rfl rfl rfl) (aa' (ad' (pv 0)) (aa' (ad' (pv 2)) ag')))))))
      (ab' (bl' (aQ' rc' BD' (nomark _) (ad' (pv 3)) ae') (ab' (ai' (i := 5) aG'.nd rfl (by walk_at "1") (bd' (qE' (iC' rfl) u4' rfl (C.free_max) (by decide +kernel) ae' (ad' (pv 5)))))
      (af' (ai' (i := 4) aG'.nd rfl (by walk_at "1") (bd' (qE' (iC' rfl) u4' rfl (C.free_max) (by decide +kernel) (qE' (fP' rfl) r9' rfl (C.free_min) (by decide +kernel) ae' (ad' (pv 1))) (ad' (pv 4))))))) aJ')
      (ab' (ai' (i := 6) aG'.nd rfl (by walk_at "1") (ah' (dj' C) (hr.mono (by walk_at "4")) rfl (takes_of rfl rfl rfl rfl) (aa' (ad' (pv 0)) (aa' (bR' (iD' rfl) z9' rfl (C.free_list) (by decide +kernel) (nt' [97, 98, 99, 100, 101, 102, 103, 104, 105, 106, 107, 108, 109, 110, 111, 112, 113, 114, 115, 116, 117, 118, 119, 120, 121, 122] (by decide +kernel) (by decide +kernel))) ag'))))
      (ab' (ai' (i := 7) aG'.nd rfl (by walk_at "1") (bd' (vK' PySem.F.slot_str_join PySem.F.type_str_join mt_join yO' (nt' [] (by decide +kernel) (by decide +kernel)) (aa' (co' (iA' rfl) oh' rfl (C.free_sorted) (by decide +kernel) (lq' vG' wb' (ad' (pv 6)) lm' (ll' (ad' (pv 4))))) ag'))))
      (ab' (bl' (aQ' rc' BD' (nomark _) (ad' (pv 3)) ae') (af' (ai' (i := 8) aG'.nd rfl (by walk_at "1") (ah' (iY' C) (hr.mono (by walk_at "4")) rfl (takes_of rfl rfl rfl rfl) (aa' (ad' (pv 0)) (aa' (ad' (pv 4)) ag'))))) (af' (ai' (i := 8) aG'.nd rfl (by walk_at "1") (ah' (dD' C) (hr.mono (by walk_at "4")) rfl (takes_of rfl rfl rfl rfl) (aa' (ad' (pv 0)) (aa' (ad' (pv 3)) (aa' (ad' (pv 5)) (aa' (ad' (pv 4)) ag'))))))))
      (ab' (ai' (i := 9) aG'.nd rfl (by walk_at "1") (bd' (bR' (aC' rfl) bO' rfl (C.free_tuple) (by decide +kernel) (fx' (own := [("_law_state", 10)]) rfl aG'.nd (bh' rfl (C.free_range) (co' (a4' ⟨rfl, rfl⟩) dN' rfl (C.free_len) (by decide +kernel) (ad' (pv 8)))) (blkOk_by (own := [("_law_state", 10)]) (N := gh') (sc := defScope a3') (by decide +kernel)) rfl (fun _ _ _ _ _ => (cm' 10 aG'.nd rfl (by walk_at "1") (by walk_at "2"))) (fun _ _ _ _ _ => (dR' (aQ' (b4' hr.units) i2' (nomark _) (cb' (ah' (al' C) (hr.mono (by walk_at "4")) rfl gv' (aa' (ad' (pv 0)) (aa' ae' ag')))) ae'))) (fun _ _ _ _ _ => (ad' (pv 10)))))))
      (af' (at' (bd' (f0' (aa' (ad' (pv 7)) (aa' (ad' (pv 8)) (aa' (ad' (pv 9)) ag')))))))))))))))), k6' F, F.kp, C.g__law_parts⟩
theorem g8' (C : Ctx Wd.w K mg) : Og Wd.P Wd.w K mg base 1 "_law_classes" ["_law_table", "_law_accepts", "_law_states"] (spM K M.f__law_classes) := by
  obtain ⟨fd, F⟩ := C.f__law_classes
  exact ⟨fd, okM F aq' rfl rfl (fun cdv A outer s H E hr =>
    (ab' (ai' (i := 3) aq'.nd rfl (by walk_at "1") c5')
      (ab' (bF' (passes_of rfl) rfl (bu' (ad' (pv 2))) (cm' 4 aq'.nd rfl (by walk_at "1") (by walk_at "2")) (af' (fZ' ⟨rfl, rfl⟩ hr.units (bR' bk' ex' rfl (C.free_int) (by decide +kernel) (ig' f5' th' (by rfl) (ad' (pv 4)) (ad' (pv 1)))) (pv 3) (ad' (pv 4)))))
      (ab' (ai' (i := 5) aq'.nd rfl (by walk_at "1") (bd' ae'))
      (ab' (bF' (passes_of rfl) rfl (bh' rfl (C.free_range) (co' (a4' ⟨rfl, rfl⟩) dN' rfl (C.free_len) (by decide +kernel) (ad' (pv 2)))) (cm' 6 aq'.nd rfl (by walk_at "1") (by walk_at "2")) (ab' (ai' (i := 7) aq'.nd rfl (by walk_at "1") (qz' ⟨rfl, rfl⟩))
      (ab' (ai' (i := 8) aq'.nd rfl (by walk_at "1") c5')
      (ab' (bF' (passes_of rfl) rfl (bu' (ad' (pv 2))) (cm' 4 aq'.nd rfl (by walk_at "1") (by walk_at "2")) (ab' (ai' (i := 9) aq'.nd rfl (by walk_at "1") (bd' (f0' (aa' (cu' ⟨rfl, rfl⟩ hr.units (pv 3) (ad' (pv 4)) (fun _ _ => rfl)) (aa' (bR' (aC' rfl) bO' rfl (C.free_tuple) (by decide +kernel) (fx' (own := [("_law_to", 10)]) rfl aq'.nd (bu' (cx' ix_seq f7' (ad' (pv 0)) (ad' (pv 4)) (fun _ _ => rfl))) (blkOk_by (own := [("_law_to", 10)]) (N := eb') (sc := defScope aN') (by decide +kernel)) rfl (fun _ _ _ _ _ => (cm' 10 aq'.nd rfl (by walk_at "1") (by walk_at "2"))) (fun _ _ _ _ _ => bx') (fun _ _ _ _ _ => (cu' ⟨rfl, rfl⟩ hr.units (pv 3) (ad' (pv 10)) (fun _ _ => rfl))))) ag')))))
      (ab' (bl' (iL' ⟨rfl, rfl⟩ hr.units (ad' (pv 9)) (pv 7)) (af' (fZ' ⟨rfl, rfl⟩ hr.units (c6' ⟨rfl, rfl⟩ rfl (C.free_len) (by decide +kernel) (pv 7)) (pv 7) (ad' (pv 9)))) aJ')
      (af' (fZ' ⟨rfl, rfl⟩ hr.units (cu' ⟨rfl, rfl⟩ hr.units (pv 7) (ad' (pv 9)) (fun _ _ => rfl)) (pv 8) (ad' (pv 4)))))))
      (ab' (ai' (i := 3) aq'.nd rfl (by walk_at "1") (bd' (ad' (pv 8))))
      (ab' (bl' (aQ' (b4' hr.units) i2' (nomark _) (c6' ⟨rfl, rfl⟩ rfl (C.free_len) (by decide +kernel) (pv 7)) (ad' (pv 5))) (af' sN') aJ')
      (af' (ai' (i := 5) aq'.nd rfl (by walk_at "1") (bd' (c6' ⟨rfl, rfl⟩ rfl (C.free_len) (by decide +kernel) (pv 7)))))))))))
      (af' (at' (qw' (pv 3))))))))), h5' F, F.kp, C.g__law_classes⟩
theorem i0' (C : Ctx Wd.w K mg) : Og Wd.P Wd.w K mg base 2 "_law_least" ["_law_table", "_law_accepts"] (spM K M.f__law_least) := by
  obtain ⟨fd, F⟩ := C.f__law_least
  exact ⟨fd, okM F ap' rfl rfl (fun cdv A outer s H E hr =>
    (ab' (ai' (i := 2) ap'.nd rfl (by walk_at "1") (d6' (aa' ae' ag')))
      (ab' (ai' (i := 3) ap'.nd rfl (by walk_at "1") (bd' ae'))
      (ab' (iM' M.xx' (passes_of rfl) (aQ' ka' yK' (nomark _) (ad' (pv 3)) (c6' ⟨rfl, rfl⟩ rfl (C.free_len) (by decide +kernel) (pv 2))) (ab' (bF' (passes_of rfl) rfl (bu' (cx' ix_seq f7' (ad' (pv 0)) (qD' (pv 2) (ad' (pv 3)) (fun _ _ => rfl)) (fun _ _ => rfl))) (cm' 4 ap'.nd rfl (by walk_at "1") (by walk_at "2")) (af' (bl' (qu' (ad' (pv 4)) (pv 2)) (af' (dt' (pv 2) (bd' (ad' (pv 4))))) aJ')))
      (af' (ai' (i := 3) ap'.nd rfl (by walk_at "1") (bd' (aI' aH' bP' (ad' (pv 3)) ae'))))))
      (ab' (ai' (i := 5) ap'.nd rfl (by walk_at "1") (ah' (g8' C) (hr.mono (by walk_at "4")) rfl (takes_of rfl rfl rfl rfl) (aa' (ad' (pv 0)) (aa' (ad' (pv 1)) (aa' (ad' (pv 2)) ag')))))
      (ab' (ai' (i := 6) ap'.nd rfl (by walk_at "1") c5')
      (ab' (ai' (i := 7) ap'.nd rfl (by walk_at "1") (d6' ag'))
      (ab' (bF' (passes_of rfl) rfl (bu' (ad' (pv 2))) (cm' 8 ap'.nd rfl (by walk_at "1") (by walk_at "2")) (af' (bl' (iL' ⟨rfl, rfl⟩ hr.units (cu' ⟨rfl, rfl⟩ hr.units (pv 5) (ad' (pv 8)) (fun _ _ => rfl)) (pv 6)) (ab' (fZ' ⟨rfl, rfl⟩ hr.units (c6' ⟨rfl, rfl⟩ rfl (C.free_len) (by decide +kernel) (pv 7)) (pv 6) (cu' ⟨rfl, rfl⟩ hr.units (pv 5) (ad' (pv 8)) (fun _ _ => rfl)))
      (af' (dt' (pv 7) (bd' (ad' (pv 8)))))) aJ')))
      (ab' (ai' (i := 9) ap'.nd rfl (by walk_at "1") (bd' (bR' (aC' rfl) bO' rfl (C.free_tuple) (by decide +kernel) (fx' (own := [("_law_state", 8)]) rfl ap'.nd (bu' (ad' (pv 7))) (blkOk_by (own := [("_law_state", 8)]) (N := cT') (sc := defScope aU') (by decide +kernel)) rfl (fun _ _ _ _ _ => (cm' 8 ap'.nd rfl (by walk_at "1") (by walk_at "2"))) (fun _ _ _ _ _ => bx') (fun _ _ _ _ _ => (bR' (aC' rfl) bO' rfl (C.free_tuple) (by decide +kernel) (fx' (own := [("_law_to", 4)]) rfl ap'.nd (bu' (cx' ix_seq f7' (ad' (pv 0)) (ad' (pv 8)) (fun _ _ => rfl))) (blkOk_by (own := [("_law_to", 4)]) (N := cT') (by kernel_rfl)) rfl (fun _ _ _ _ _ => (cm' 4 ap'.nd rfl (by walk_at "1") (by walk_at "2"))) (fun _ _ _ _ _ => bx') (fun _ _ _ _ _ => (cu' ⟨rfl, rfl⟩ hr.units (pv 6) (cu' ⟨rfl, rfl⟩ hr.units (pv 5) (ad' (pv 4)) (fun _ _ => rfl)) (fun _ _ => rfl))))))))))
      (af' (at' (bd' (f0' (aa' (ad' (pv 9)) (aa' (bR' (aC' rfl) bO' rfl (C.free_tuple) (by decide +kernel) (fx' (own := [("_law_k", 10)]) rfl ap'.nd (bh' rfl (C.free_range) (c6' ⟨rfl, rfl⟩ rfl (C.free_len) (by decide +kernel) (pv 7))) (blkOk_by (own := [("_law_k", 10)]) (N := cT') (sc := defScope aU') (by decide +kernel)) rfl (fun _ _ _ _ _ => (cm' 10 ap'.nd rfl (by walk_at "1") (by walk_at "2"))) (fun _ _ _ _ _ => (dR' (aQ' f5' th' (by rfl) (qD' (pv 7) (ad' (pv 10)) (fun _ _ => rfl)) (ad' (pv 1))))) (fun _ _ _ _ _ => (ad' (pv 10))))) ag'))))))))))))))), k7' F, F.kp, C.g__law_least⟩
theorem cN' (C : Ctx Wd.w K mg) : Og Wd.P Wd.w K mg base 2 "_law_word" ["_law_hand_here", "_law_letters", "_law_many"] (spM K M.f__law_word) := by
  obtain ⟨fd, F⟩ := C.f__law_word
  exact ⟨fd, okM F cL' rfl rfl (fun cdv A outer s H E hr =>
    (ab' (ai' (i := 3) cL'.nd rfl (by walk_at "1") (bd' (nt' [] (by decide +kernel) (by decide +kernel))))
      (ab' (bF' (passes_of rfl) rfl (bh' rfl (C.free_range) (ad' (pv 2))) (cm' 4 cL'.nd rfl (by walk_at "1") (by walk_at "2")) (af' (ai' (i := 3) cL'.nd rfl (by walk_at "1") (bd' (aI' aH' bP' (ad' (pv 3)) (cx' ix_seq f7' (ad' (pv 1)) (cb' (ah' (al' C) (hr.mono (by walk_at "4")) rfl (takes_of rfl rfl rfl rfl) (aa' (ad' (pv 0)) (aa' (co' (a4' ⟨rfl, rfl⟩) dN' rfl (C.free_len) (by decide +kernel) (ad' (pv 1))) ag')))) (fun _ _ => rfl)))))))
      (af' (at' (qw' (pv 3))))))), mc' F, F.kp, C.g__law_word⟩
theorem g7' (C : Ctx Wd.w K mg) : Og Wd.P Wd.w K mg base 2 "_law_no_word" ["_law_hand_here", "_law_letters", "_law_word_here"] (spM K M.f__law_no_word) := by
  obtain ⟨fd, F⟩ := C.f__law_no_word
  exact ⟨fd, okM F bJ' rfl rfl (fun cdv A outer s H E hr =>
    (ab' (eF' (i := 3) (own := [("_law_sign", 6)]) rfl bJ'.nd rfl rfl (sw_true (by rfl) (by rfl) (by rfl) (by decide +kernel)) (bu' (nt' [97, 98, 99, 100, 101, 102, 103, 104, 105, 106, 107, 108, 109, 110, 111, 112, 113, 114, 115, 116, 117, 118, 119, 120, 121, 122, 65, 66, 90, 32, 46, 45, 95, 48, 55] (by decide +kernel) (by decide +kernel))) (blkOk_by (own := [("_law_sign", 6)]) (N := ea') (sc := defScope aM') (by decide +kernel)) rfl (fun _ _ _ _ _ => (cm' 6 bJ'.nd rfl (by walk_at "1") (by walk_at "2"))) (fun _ _ _ _ _ => (dR' (aQ' g3' lE' (by rfl) (ad' (pv 6)) (ad' (pv 1))))) (fun _ _ _ _ _ => (ad' (pv 6))))
      (ab' (ai' (i := 4) bJ'.nd rfl (by walk_at "1") (ah' (al' C) (hr.mono (by walk_at "4")) rfl (takes_of rfl rfl rfl rfl) (aa' (ad' (pv 0)) (aa' (aI' aH' bP' (co' (a4' ⟨rfl, rfl⟩) dN' rfl (C.free_len) (by decide +kernel) (ad' (pv 2))) ae') ag'))))
      (ab' (ai' (i := 5) bJ'.nd rfl (by walk_at "1") (ah' (al' C) (hr.mono (by walk_at "4")) rfl (takes_of rfl rfl rfl rfl) (aa' (ad' (pv 0)) (aa' ae' ag'))))
      (ab' (bl' (aQ' (b4' hr.units) i2' (nomark _) (ad' (pv 5)) ae') (af' (at' (bd' (cx' ix_seq f7' (nv' (aa' nu' (aa' cJ' (aa' cJ' (aa' (cb' c5') (aa' (A8' un_neg BA' ae') (aa' (nv' ag') (aa' (f0' ag') ag')))))))) (cb' (ah' (al' C) (hr.mono (by walk_at "4")) rfl (takes_of rfl rfl rfl rfl) (aa' (ad' (pv 0)) (aa' ae' ag')))) (fun _ _ => rfl))))) aJ')
      (ab' (bl' (aQ' (b4' hr.units) i2' (nomark _) (ad' (pv 5)) ae') (af' (at' (bd' (nv' (aa' (ad' (pv 2)) ag'))))) aJ')
      (ab' (bl' (aQ' (b4' hr.units) i2' (nomark _) (ad' (pv 5)) ae') (af' (at' (bd' (bR' (aC' rfl) bO' rfl (C.free_tuple) (by decide +kernel) (ad' (pv 2)))))) aJ')
      (ab' (bl' (aQ' (b4' hr.units) i2' (nomark _) (ad' (pv 5)) ae') (af' (at' (qw' (pv 4)))) aJ')
      (af' (at' (bd' (aI' aH' bP' (aI' aH' bP' (lq' vG' wb' (ad' (pv 2)) lm' (ll' (ad' (pv 4)))) (cx' ix_seq f7' (ad' (pv 3)) (cb' (ah' (al' C) (hr.mono (by walk_at "4")) rfl (takes_of rfl rfl rfl rfl) (aa' (ad' (pv 0)) (aa' (co' (a4' ⟨rfl, rfl⟩) dN' rfl (C.free_len) (by decide +kernel) (ad' (pv 3))) ag')))) (fun _ _ => rfl))) (lq' vG' wb' (ad' (pv 2)) (ll' (ad' (pv 4))) lm'))))))))))))), h4' F, F.kp, C.g__law_no_word⟩
theorem cO' (C : Ctx Wd.w K mg) : Og Wd.P Wd.w K mg base 2 "_law_is_machine" ["_law_found", "_law_letters", "_law_rows_here", "_law_yes"] (spM K M.f__law_is_machine) := by
  obtain ⟨fd, F⟩ := C.f__law_is_machine
  exact ⟨fd, okM F eL' rfl rfl (fun cdv A outer s H E hr =>
    (ab' (bl' (cl' (lj' (uD' M.isT "Machine" C.is_Machine rfl (C.free_isinstance) (by decide +kernel) (ad' (pv 0)) (lB' rfl C.g_Machine)))) (af' (at' (bd' cJ'))) aJ')
      (af' (at' (bd' (ig' (b4' hr.units) BE' (nomark _) (co' (gC' hr.units hr.g) t0' rfl (C.free_repr) (by decide +kernel) (f0' (aa' (cb' (eH' (ad' (pv 0)) (eW' C) (hr.mono (by decide)) C.ml_Machine_letters (takes_of rfl rfl rfl rfl))) (aa' (cb' (eH' (ad' (pv 0)) (gl' C) (hr.mono (by decide)) C.ml_Machine_table (takes_of rfl rfl rfl rfl))) (aa' (cb' (eH' (ad' (pv 0)) (eX' C) (hr.mono (by decide)) C.ml_Machine_accepts (takes_of rfl rfl rfl rfl))) ag'))))) (co' (gC' hr.units hr.g) t0' rfl (C.free_repr) (by decide +kernel) (f0' (aa' (ad' (pv 1)) (aa' (ad' (pv 2)) (aa' (ad' (pv 3)) ag'))))))))))), fR' F, F.kp, C.g__law_is_machine⟩
theorem en' (C : Ctx Wd.w K mg) : Og Wd.P Wd.w K mg base 1 "_law_led" ["_law_letters", "_law_table", "_law_state", "_law_word_here"] (spM K M.f__law_led) := by
  obtain ⟨fd, F⟩ := C.f__law_led
  exact ⟨fd, okM F ek' rfl rfl (fun cdv A outer s H E hr =>
    (ab' (bF' (passes_of rfl) rfl (bu' (ad' (pv 3))) (cm' 4 ek'.nd rfl (by walk_at "1") (by walk_at "2")) (af' (ai' (i := 2) ek'.nd rfl (by walk_at "1") (bd' (cx' ix_seq f7' (cx' ix_seq f7' (ad' (pv 1)) (ad' (pv 2)) (fun _ _ => rfl)) (vK' PySem.F.slot_str_find PySem.F.type_str_find mt_find yP' (ad' (pv 0)) (aa' (ad' (pv 4)) ag')) (fun _ _ => rfl))))))
      (af' (at' (qw' (pv 2)))))), oX' F, F.kp, C.g__law_led⟩
theorem lD' (C : Ctx Wd.w K mg) : Og Wd.P Wd.w K mg base 3 "_law_due" ["_law_letters", "_law_table", "_law_accepts", "_law_ahead", "_law_behind"] (spM K M.f__law_due) := by
  obtain ⟨fd, F⟩ := C.f__law_due
  exact ⟨fd, okM F bo' rfl rfl (fun cdv A outer s H E hr =>
    (ab' (ai' (i := 5) bo'.nd rfl (by walk_at "1") (ah' (en' C) (hr.mono (by walk_at "4")) rfl (takes_of rfl rfl rfl rfl) (aa' (ad' (pv 0)) (aa' (ad' (pv 1)) (aa' ae' (aa' (ad' (pv 3)) ag'))))))
      (ab' (ai' (i := 6) bo'.nd rfl (by walk_at "1") (d6' (aa' (fx' (own := [("_law_to", 10)]) rfl bo'.nd (bu' (cx' ix_seq f7' (ad' (pv 1)) (ad' (pv 5)) (fun _ _ => rfl))) (blkOk_by (own := [("_law_to", 10)]) (N := fW') (sc := defScope bm') (by decide +kernel)) rfl (fun _ _ _ _ _ => (cm' 10 bo'.nd rfl (by walk_at "1") (by walk_at "2"))) (fun _ _ _ _ _ => bx') (fun _ _ _ _ _ => (aI' aH' bP' (ad' (pv 10)) ae'))) ag')))
      (ab' (bF' (passes_of rfl) rfl (bu' (ad' (pv 1))) (cm' 7 bo'.nd rfl (by walk_at "1") (by walk_at "2")) (af' (dt' (pv 6) (x8' (own := [("_law_to", 10)]) rfl bo'.nd (bu' (ad' (pv 7))) (blkOk_by (own := [("_law_to", 10)]) (N := fW') (sc := defScope bm') (by decide +kernel)) rfl (fun _ _ _ _ _ => (cm' 10 bo'.nd rfl (by walk_at "1") (by walk_at "2"))) (fun _ _ _ _ _ => bx') (fun _ _ _ _ _ => (aI' aH' bP' (ad' (pv 10)) ae'))))))
      (ab' (ai' (i := 8) bo'.nd rfl (by walk_at "1") (d6' ag'))
      (ab' (bl' (aQ' f5' th' (by rfl) (cb' (ah' (en' C) (hr.mono (by walk_at "4")) rfl (takes_of rfl rfl rfl rfl) (aa' (ad' (pv 0)) (aa' (ad' (pv 1)) (aa' (ad' (pv 5)) (aa' (ad' (pv 4)) ag')))))) (ad' (pv 2))) (af' (dt' (pv 8) (bd' ae'))) aJ')
      (ab' (bF' (passes_of rfl) rfl (bh' rfl (C.free_range) (co' (a4' ⟨rfl, rfl⟩) dN' rfl (C.free_len) (by decide +kernel) (ad' (pv 1)))) (cm' 9 bo'.nd rfl (by walk_at "1") (by walk_at "2")) (af' (bl' (aQ' f5' th' (by rfl) (cb' (ah' (en' C) (hr.mono (by walk_at "4")) rfl (takes_of rfl rfl rfl rfl) (aa' (ad' (pv 0)) (aa' (ad' (pv 1)) (aa' (ad' (pv 9)) (aa' (ad' (pv 4)) ag')))))) (ad' (pv 2))) (af' (dt' (pv 8) (bd' (aI' aH' bP' (ad' (pv 9)) ae')))) aJ')))
      (af' (at' (ah' (i0' C) (hr.mono (by walk_at "4")) rfl (takes_of rfl rfl rfl rfl) (aa' (ad' (pv 6)) (aa' (ad' (pv 8)) ag')))))))))))), oY' F, F.kp, C.g__law_due⟩
end
end S
namespace S
open PySem PySem.Spec PyProof.Rows L2
section
variable [Wd] {K : PySem.W.Frag} {mg : Str -> Option Value} {base : Heap}
theorem b8' (C : Ctx Wd.w K mg) : Og Wd.P Wd.w K mg base 6 "_law_is_refused" ["_law_machine", "_law_ahead", "_law_behind"] (spM K M.f__law_is_refused) := by
  obtain ⟨fd, F⟩ := C.f__law_is_refused
  exact ⟨fd, okM F bH' rfl rfl (fun cdv A outer s H E hr =>
    (ab' (ai' (i := 3) bH'.nd rfl (by walk_at "1") (bd' cJ'))
      (ab' (sL' (i := 4) (m := 0) rfl rfl bH'.nd rfl rfl ⟨rfl, by decide, Or.inl C.g_SaidError⟩ (takes_of rfl rfl rfl rfl) (fun _ _ e_ => uA' C.subs e_) (fun W_ pn_ xe_ tk_ po_ => (af' (eh' (cb' (ah' (eU' C) (hr.mono (by walk_at "4")) rfl tk_ (aa' (ad' (pv 0)) (aa' (ad' (pv 1)) (aa' (ad' (pv 2)) ag')))))))) (fun x_ a_ oe_ d_ pn_ hz_ hf_ => letI : Hot := jr' a_ 0 d_ x_; (af' (ai' (i := 3) bH'.nd rfl (by walk_at "1") (bd' (yd' (i := 4) "NoWord" C.kit hz_ hf_ rfl (C.free_isinstance) (by decide +kernel) (pv 4) (lB' rfl C.g_NoWord)))))))
      (af' (at' (qw' (pv 3))))))), fQ' F, F.kp, C.g__law_is_refused⟩
end
end S
namespace S
open PySem PySem.Spec PyProof.Rows L2
section
variable [Wd] {K : PySem.W.Frag} {mg : Str -> Option Value} {base : Heap}
theorem zj' (C : Ctx Wd.w K mg) {fd : FuncData} (F : FunD K "law" "law" (defArgs hV') (defBody hV') (defScope hV') [] [] (He.ga K "law") fd) : FnG Wd.P Wd.w K mg base (L2.CX Wd.P Wd.w) 7 (He.ga K "law") fd ["_law_script"] (spM K M.f_law) :=
  okM F cc' rfl rfl (fun cdv A outer s H E hr =>
    (ab' (ai' (i := 1) cc'.nd rfl (by walk_at "1") (ah' (kc' C) (hr.mono (by walk_at "4")) rfl (takes_of rfl rfl rfl rfl) (aa' (ad' (pv 0)) ag')))
      (ab' (uB' (cb' (ah' (iZ' C) (hr.mono (by walk_at "4")) rfl (takes_of rfl rfl rfl rfl) (aa' (ad' (pv 1)) (aa' ae' (aa' ae' ag'))))) (yb' (n := 3) rfl rfl rfl rfl (b7' rfl (cm' 2 cc'.nd rfl (by walk_at "1") (by walk_at "2")) (b7' rfl (cm' 3 cc'.nd rfl (by walk_at "1") (by walk_at "2")) (b7' rfl (cm' 4 cc'.nd rfl (by walk_at "1") (by walk_at "2")) gR')))))
      (ab' (ai' (i := 5) cc'.nd rfl (by walk_at "1") (lp' (eo' C) (hr.mono (by decide)) rfl C.mk_Machine C.g_Machine (takes_of rfl rfl rfl rfl) (aa' (ad' (pv 2)) (aa' (ad' (pv 3)) (aa' (ad' (pv 4)) ag')))))
      (ab' (bF' (passes_of rfl) rfl (bh' rfl (C.free_range) ae') (cm' 6 cc'.nd rfl (by walk_at "1") (by walk_at "2")) (ab' (ai' (i := 7) cc'.nd rfl (by walk_at "1") (ah' (cN' C) (hr.mono (by walk_at "4")) rfl (takes_of rfl rfl rfl rfl) (aa' (ad' (pv 1)) (aa' (ad' (pv 2)) (aa' (cb' (ah' (al' C) (hr.mono (by walk_at "4")) rfl (takes_of rfl rfl rfl rfl) (aa' (ad' (pv 1)) (aa' ae' ag')))) ag')))))
      (ab' (ai' (i := 8) cc'.nd rfl (by walk_at "1") (ah' (cN' C) (hr.mono (by walk_at "4")) rfl (takes_of rfl rfl rfl rfl) (aa' (ad' (pv 1)) (aa' (ad' (pv 2)) (aa' (cb' (ah' (al' C) (hr.mono (by walk_at "4")) rfl (takes_of rfl rfl rfl rfl) (aa' (ad' (pv 1)) (aa' ae' ag')))) ag')))))
      (ab' (bl' (aQ' (b4' hr.units) i2' (nomark _) (ad' (pv 6)) ae') (ab' (ai' (i := 7) cc'.nd rfl (by walk_at "1") (bd' (aI' c9' i1' (lq' vG' wb' (ad' (pv 7)) lm' (ll' ae')) (cb' (ah' (al' C) (hr.mono (by walk_at "4")) rfl (takes_of rfl rfl rfl rfl) (aa' (ad' (pv 1)) (aa' ae' ag')))))))
      (af' (ai' (i := 8) cc'.nd rfl (by walk_at "1") (bd' (aI' c9' i1' (lq' vG' wb' (ad' (pv 8)) lm' (ll' ae')) (cb' (ah' (al' C) (hr.mono (by walk_at "4")) rfl (takes_of rfl rfl rfl rfl) (aa' (ad' (pv 1)) (aa' ae' ag'))))))))) aJ')
      (ab' (uB' (cb' (ah' (lD' C) (hr.mono (by walk_at "4")) rfl (takes_of rfl rfl rfl rfl) (aa' (ad' (pv 2)) (aa' (ad' (pv 3)) (aa' (ad' (pv 4)) (aa' (ad' (pv 7)) (aa' (ad' (pv 8)) ag'))))))) (yb' (n := 2) rfl rfl rfl rfl (b7' rfl (cm' 9 cc'.nd rfl (by walk_at "1") (by walk_at "2")) (b7' rfl (cm' 10 cc'.nd rfl (by walk_at "1") (by walk_at "2")) gR'))))
      (ab' (ai' (i := 11) cc'.nd rfl (by walk_at "1") (ah' (eU' C) (hr.mono (by walk_at "4")) rfl (takes_of rfl rfl rfl rfl) (aa' (ad' (pv 5)) (aa' (ad' (pv 7)) (aa' (ad' (pv 8)) ag')))))
      (ab' (bl' (cl' (lj' (cb' (ah' (cO' C) (hr.mono (by walk_at "4")) rfl (takes_of rfl rfl rfl rfl) (aa' (ad' (pv 11)) (aa' (ad' (pv 2)) (aa' (ad' (pv 9)) (aa' (ad' (pv 10)) ag')))))))) (af' (at' (bd' cJ'))) aJ')
      (ab' (ai' (i := 12) cc'.nd rfl (by walk_at "1") (ah' (cN' C) (hr.mono (by walk_at "4")) rfl (takes_of rfl rfl rfl rfl) (aa' (ad' (pv 1)) (aa' (ad' (pv 2)) (aa' (cb' (ah' (al' C) (hr.mono (by walk_at "4")) rfl (takes_of rfl rfl rfl rfl) (aa' (ad' (pv 1)) (aa' ae' ag')))) ag')))))
      (ab' (bl' (aQ' (nK' hr.units) BC' (nomark _) (cb' (ah' (rd' C) (hr.mono (by walk_at "4")) rfl (takes_of rfl rfl rfl rfl) (aa' (ad' (pv 11)) (aa' (ad' (pv 12)) ag')))) (cb' (ah' (rd' C) (hr.mono (by walk_at "4")) rfl (takes_of rfl rfl rfl rfl) (aa' (ad' (pv 5)) (aa' (aI' aH' bP' (aI' aH' bP' (ad' (pv 7)) (ad' (pv 12))) (ad' (pv 8))) ag'))))) (af' (at' (bd' cJ'))) aJ')
      (ab' (ai' (i := 13) cc'.nd rfl (by walk_at "1") (ah' (cN' C) (hr.mono (by walk_at "4")) rfl (takes_of rfl rfl rfl rfl) (aa' (ad' (pv 1)) (aa' (ad' (pv 2)) (aa' (cb' (ah' (al' C) (hr.mono (by walk_at "4")) rfl (takes_of rfl rfl rfl rfl) (aa' (ad' (pv 1)) (aa' ae' ag')))) ag')))))
      (ab' (bl' (x3' (fD' C) (hr.mono (by decide)) C.ne_Machine (cb' (ah' (eU' C) (hr.mono (by walk_at "4")) rfl (takes_of rfl rfl rfl rfl) (aa' (ad' (pv 11)) (aa' (ad' (pv 13)) (aa' (ad' (pv 12)) ag'))))) (cb' (ah' (eU' C) (hr.mono (by walk_at "4")) rfl (takes_of rfl rfl rfl rfl) (aa' (ad' (pv 5)) (aa' (aI' aH' bP' (ad' (pv 7)) (ad' (pv 13))) (aa' (aI' aH' bP' (ad' (pv 12)) (ad' (pv 8))) ag')))))) (af' (at' (bd' cJ'))) aJ')
      (ab' (ai' (i := 14) cc'.nd rfl (by walk_at "1") (ah' (g7' C) (hr.mono (by walk_at "4")) rfl (takes_of rfl rfl rfl rfl) (aa' (ad' (pv 1)) (aa' (ad' (pv 2)) (aa' (ad' (pv 12)) ag')))))
      (ab' (ai' (i := 15) cc'.nd rfl (by walk_at "1") (bd' (co' (gC' hr.units hr.g) t0' rfl (C.free_repr) (by decide +kernel) (ad' (pv 14)))))
      (ab' (bl' (sK' (jZ' (cl' (lj' (cb' (ah' (b8' C) (hr.mono (by walk_at "4")) rfl (takes_of rfl rfl rfl rfl) (aa' (ad' (pv 5)) (aa' (ad' (pv 14)) (aa' (ad' (pv 8)) ag'))))))) (gK' (cl' (lj' (cb' (ah' (b8' C) (hr.mono (by walk_at "4")) rfl (takes_of rfl rfl rfl rfl) (aa' (ad' (pv 5)) (aa' (ad' (pv 7)) (aa' (ad' (pv 14)) ag')))))))))) (af' (at' (bd' cJ'))) aJ')
      (af' (bl' (sK' (jZ' (cl' (lj' (cb' (ah' (b8' C) (hr.mono (by walk_at "4")) rfl (takes_of rfl rfl rfl rfl) (aa' (ad' (pv 5)) (aa' (ad' (pv 14)) (aa' (ad' (pv 14)) ag'))))))) (gK' (aQ' (nK' hr.units) BB' (nomark _) (co' (gC' hr.units hr.g) t0' rfl (C.free_repr) (by decide +kernel) (ad' (pv 14))) (ad' (pv 15)))))) (af' (at' (bd' cJ'))) aJ'))))))))))))))))
      (af' (at' (ah' (cO' C) (hr.mono (by walk_at "4")) rfl (takes_of rfl rfl rfl rfl) (aa' (ad' (pv 5)) (aa' (ad' (pv 2)) (aa' (ad' (pv 3)) (aa' (ad' (pv 4)) ag'))))))))))))
end
end S
open PySem PySem.W PySem.Calls PyProof.Rows
set_option maxRecDepth 100000 in
set_option maxHeartbeats 0 in
theorem PySem.Challenge.cw_saidacross_k83_words_around_holds : PySem.Challenge.rw_saidacross_k83_words_around.Holds := by
  w_on; o_law
  refine HandSHeadRun.head_any (r := OpenLaw.row PySem.Challenge.rw_saidacross_k83_words_around) (q := view (OpenLaw.row PySem.Challenge.rw_saidacross_k83_words_around).prog [40]) (H := S.hk) (ob := S.ob) (loose := S.loose) (d := HandSHeadRun.topDef (OpenLaw.row PySem.Challenge.rw_saidacross_k83_words_around).prog 40) (kwd := []) S.By'
    (by kernel_rfl) (fun s => by kernel_rfl) S.run (by kernel_rfl) (by kernel_rfl) (by kernel_rfl) (by rfl) (by first | assumption | decide +kernel) (by decide +kernel) ⟨rfl, rfl, rfl, rfl, rfl, by decide +kernel⟩ ?hw ?hc
  case hw => w_witness2
  case hc =>
    refine S.sv' (l := PySem.Challenge.rw_saidacross_k83_words_around) (n := 63) (k := 7) (x := "_law_script") (CX := L2.CX0) rfl (by decide) (by kernel_rfl) ⟨rfl, by decide, by decide⟩ ?F (fun H s e s' z => z)
    intro w mg fa h Y G hmg0
    obtain ⟨K, KX, c⟩ := Y
    letI : S.Wd := ⟨(PySem.Challenge.rw_saidacross_k83_words_around).prog, w, []⟩
    have C : S.Ctx S.Wd.w K mg := ⟨⟨_, c⟩, h, KX, G⟩
    have hmg : mg ("law" : PySem.Str) = some (.ref fa) := by
      have e : (HandSHeadRun.topDef (OpenLaw.row PySem.Challenge.rw_saidacross_k83_words_around).prog 40).name = ("law" : PySem.Str) := by kernel_rfl
      rw [<- e]
      exact hmg0
    obtain rfl : fa = He.ga K "law" := by
      have e := C.g_law
      rw [hmg] at e
      exact PySem.Value.ref.inj (Option.some.inj e)
    obtain ⟨fd, F⟩ := C.f_law
    refine ⟨K, fd, fun vs H Q _ => S.spM K M.f_law vs H Q L2.E0, KX, fun s u => ?_, ?_, fun base X N => ?_⟩
    . exact F.bindsA (ps := ["_law_script"]) (fun _ _ _ _ _ _ us hl => match us, hl with | [_], _ => rfl) s [u] rfl
    . intro H a ns hn _ hs
      exact S.rG' K H (fun p z => absurd (show p ∈ ([] : List (Addr × Str)) from z) List.not_mem_nil) a ns hn hs M.law_true
    . exact S.FnG.to0 (S.zj' (base := base) C F)
